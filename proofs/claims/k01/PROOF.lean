import PyProof.Rows.All
import Wide.All
import OpenK.AllK
import Wide.FinOn
import HandS.ForMost
import HandS.AnyAll
import HandS.GenList
import HandS.TupAny
import HandS.TupMul
import HandS.Strs
import HandS.Deep
import HandS.IsInst
import HandS.Wide
import HandS.Zip
import HandS.Rev
import HandS.RaiseMore
import HandS.SetFor
import HandS.SortInts
import HandS.TupLe
import HandS.Style
import HandS.Words
import HandS.Defaults
import HandS.Codes
import HandS.Head0
import HandS.Head1
import HandS.Head2
import HandS.HeadHook1
import HandS.HeadHook2
import HandS.HeadHook3
import HandS.HeadHook4
import HandS.HeadWalk
import HandS.NestedK
import KE.KStateDown
import Lean
import PySem.Challenge.RW_craftproof_k01_what_are_shops_and_names
set_option Elab.async false
set_option linter.all false
set_option maxRecDepth 100000
set_option maxHeartbeats 2000000
/-! any, all of a generator expression, its element any expression with a reading -/
namespace GA
open PySem PySem.Spec PyProof.Rows L2 GxR GenW

/-- a generator expression's names: its own (with their places in N), the walked thing, captured ones -/
structure GOk (N : List Str) (sc scope : Scope) (own : List (Str × Nat)) : Prop where
  kind : scope.kind = .function
  co : scope.isCoroutine = false
  nocell : ∀ y ∈ scope.names, y.2 ≠ .cell
  dot : scope.names.lookup (".0" : Str) = some NameKind.local
  uniq : ∀ y ∈ scope.names, scope.names.lookup y.1 = some y.2
  ix : ∀ p ∈ own, N[p.2]? = some p.1
  free : ∀ y ∈ scope.names, y.2 = .free → sc.names.lookup y.1 = some .cell ∨ sc.names.lookup y.1 = some .free
  own : ∀ y ∈ scope.names, y.2 = .local → y.1 ∈ own.map (·.1) ∨ y.1 ∉ N

/-- the context in which a generator expression's block runs while any or all draws from it -/
abbrev gcx (X : Cx) (s : Shared) (H : Hp) (cenv : Env) (fp : List Addr) (pn : List (Addr × Obj)) : Cx :=
  { X with A := X.A.in1.in1.deeper cenv, s_0 := s, H_0 := H, env := cenv, outer := X.stack, stack := cenv :: X.stack, ex := fp, fn := fun x => cenv.scope.names.lookup x == some .cell, pn := pn, xe := fun _ _ => False }

abbrev gEnv (X : Cx) (scope : Scope) (C : Addr) (code : Value) : Env := genEnv scope (cloFrom X.env.cells scope.names []) C code builtinsNs X.env

section
variable {X : Cx} {pins : List (Addr × Obj)} {σ : L2.St} {H : Hp} {s : Shared}

theorem gen_start {scope : Scope} {own : List (Str × Nat)} {fp : List Addr} {code : Value} {s5 : Shared} {a : Addr} {go : Obj} {m0 : Str → Option Value} (I : Inv X pins σ H s) (ok : GOk X.N X.env.scope scope own) (hN : X.N.Nodup)
    (hfp : ∀ b ∈ fp, FpOk X pins H b ∧ b < s.heap.objs.size) (hk : ∀ b o, s.heap.get? b = some o → s5.heap.get? b = some o) (hns : s5.heap.Ns s.heap.objs.size m0)
    (ha : s5.heap.get? a = some go) (hag : s.heap.objs.size < a) (hgd : ∀ v, go.data ≠ .cell v) (hos : s5.os = s.os) (hb : AllBare s5.gens) :
    Inv (gcx X s H (gEnv X scope s.heap.objs.size code) fp [(a, go)]) [] (wipe σ (own.map (·.2))) H s5 := by
  have hfree : ∀ y ∈ scope.names, y.2 = .free → ∃ c, X.env.cells.lookup y.1 = some c := fun y hy e => by
    rcases ok.free y hy e with k | k
    · exact I.ok.has _ (.inl k)
    · exact I.ok.has _ (.inr k)
  have fresh : ∀ b, s.heap.objs.size ≤ b → H b = none := fun b h => I.hok.fresh h
  generalize hcenv : gEnv X scope s.heap.objs.size code = cenv
  have hL : cenv.locals = s.heap.objs.size := by rw [← hcenv]; rfl
  have hcl : cenv.cells = cloFrom X.env.cells scope.names [] := by rw [← hcenv]; rfl
  have hsc : cenv.scope = scope := by rw [← hcenv]; rfl
  have cm : ∀ {y c}, (y, c) ∈ cloFrom X.env.cells scope.names [] → X.env.cells.lookup y = some c ∧ c < s.heap.objs.size := fun {y c} hm => by
    rcases cloFrom_mem hm with hm | ⟨h1, rfl⟩
    · cases hm
    · obtain ⟨c, hc⟩ := hfree _ h1 rfl
      rw [hc]
      obtain ⟨w, z⟩ := I.cell _ _ hc
      exact ⟨rfl, z.lt⟩
  have mem : ∀ {y c}, cenv.cells.lookup y = some c → X.env.cells.lookup y = some c ∧ c < s.heap.objs.size := fun {y c} e => by
    rw [hcl] at e
    exact cm (PySem.mem_of_lookup e)
  have look : ∀ {y}, scope.names.lookup y = some .free → ∃ c, cenv.cells.lookup y = some c ∧ X.env.cells.lookup y = some c := fun {y} hl => by
    have hy : (y, NameKind.free) ∈ scope.names := PySem.mem_of_lookup hl
    obtain ⟨c', e'⟩ := mem_lookup (cloFrom_has (cells := X.env.cells) (acc := []) hy)
    rw [← hcl] at e'
    exact ⟨c', e', (mem e').1⟩
  have nocell : ∀ y, scope.names.lookup y ≠ some .cell := fun y e => ok.nocell _ (PySem.mem_of_lookup e) rfl
  have okB : (gcx X s H cenv fp [(a, go)]).Ok := by
    refine ⟨I.ok.mod, by show cenv.scope.kind = _; rw [hsc]; exact ok.kind, by show cenv.globals = _; rw [← hcenv]; exact I.ok.glob, by show cenv.builtins = _; rw [← hcenv]; rfl, by show s.heap.objs.size ≤ cenv.locals; rw [hL]; exact Nat.le_refl _,
      fun y z c e1 e2 => ?_, fun y hy => ?_, fun y c z e => ?_, I.ok.hd, Around.frames_deeper (A := X.A.in1.in1) I.ok.frames, .inr ⟨rfl, by show cenv.frame = some cenv.locals; rw [← hcenv]; rfl⟩, fun b hb => ⟨?_, fun y c e z => ?_⟩, I.bs, Nat.le_trans I.ok.bsz I.sz, fun b o e hb => ?_, fun b hb z => ?_, I.stack, I.stkFree⟩
    · have e1 : cenv.cells.lookup y = some c := e1
      have e2 : cenv.cells.lookup z = some c := e2
      exact I.ok.inj y z c (mem e1).1 (mem e2).1
    · show ∃ c, cenv.cells.lookup y = some c
      have hy : scope.names.lookup y = some .cell ∨ scope.names.lookup y = some .free := by
        rcases hy with hy | hy
        · have hy : cenv.scope.names.lookup y = some .cell := hy
          rw [hsc] at hy; exact .inl hy
        · have hy : cenv.scope.names.lookup y = some .free := hy
          rw [hsc] at hy; exact .inr hy
      rcases hy with hy | hy
      · exact absurd hy (nocell y)
      · obtain ⟨c, h1, _⟩ := look hy
        exact ⟨c, h1⟩
    · have z : (cenv.scope.names.lookup y == some NameKind.cell) = true := z
      have z : cenv.scope.names.lookup y = some .cell := by simpa using z
      rw [hsc] at z
      exact absurd z (nocell y)
    · show b ≠ cenv.locals
      rw [hL]; exact Nat.ne_of_lt (hfp b hb).2
    · have e : cenv.cells.lookup y = some c := e
      exact (hfp b hb).1.2.2.2.2.1 y c (mem e).1 z
    · rcases (hfp b hb).1.2.2.2.1 with z | z
      · exact I.ok.noex b o e z
      · exact absurd (Nat.lt_of_lt_of_le (Heap.lt_size e) (Nat.le_trans I.ok.bsz z)) (Nat.lt_irrefl _)
    · rcases List.mem_cons.mp (I.stkSub b z) with z | z
      · exact (hfp b hb).1.2.1 z
      · exact (hfp b hb).1.2.2.1 z
  refine ⟨okB, hos, hb, Un.kept hk, ⟨m0, by show Heap.Ns _ cenv.locals _; rw [hL]; exact hns, fun i y av e1 e2 e3 => ?_⟩, fun y c e => ?_, ?_, fun y c e => ?_, fun p hp => ?_, I.hok.kept hk, by rw [wipe_length]; exact I.len⟩
  · obtain ⟨e2, hne⟩ := wipe_some e2
    have e3 : Vis cenv.scope y := e3
    rw [hsc] at e3
    have hfr : scope.names.lookup y = some .free := by
      rcases e3 with e3 | e3 | e3
      · rcases ok.own _ (PySem.mem_of_lookup e3) rfl with e' | e'
        · obtain ⟨p, hp, hpy⟩ := List.mem_map.mp e'
          have e4 := ok.ix p hp
          have : p.1 = y := hpy
          rw [this] at e4
          exact absurd (List.mem_map.mpr ⟨p, hp, nodup_ix hN e4 e1⟩) hne
        · exact absurd (List.mem_of_getElem? e1) e'
      · exact absurd e3 (nocell y)
      · exact e3
    obtain ⟨m, hn, hl⟩ := I.loc
    have hvis : Vis X.env.scope y := (ok.free _ (PySem.mem_of_lookup hfr) rfl).elim (fun k => .inr (.inl k)) (fun k => .inr (.inr k))
    obtain ⟨w, r, q⟩ := hl i y av e1 e2 hvis
    have kf : cenv.kindOf y = some .free := by show cenv.scope.names.lookup y = _; rw [hsc]; exact hfr
    refine ⟨w, r, .inr ⟨.inr kf, ?_⟩⟩
    obtain ⟨c, h1, h2⟩ := look hfr
    rcases q with ⟨k, _⟩ | ⟨_, c', e', z⟩
    · have k : X.env.scope.names.lookup y = some .local := k
      rcases ok.free _ (PySem.mem_of_lookup hfr) rfl with k' | k' <;> rw [show X.env.scope.names.lookup y = _ from k'] at k <;> cases k
    · rw [h2] at e'; cases e'
      exact ⟨c, h1, z.keeps hk⟩
  · have e : cenv.cells.lookup y = some c := e
    obtain ⟨w, z⟩ := I.cell y c (mem e).1
    exact ⟨w, z.keeps hk⟩
  · show H cenv.locals = none
    rw [hL]; exact fresh _ (Nat.le_refl _)
  · have e : cenv.cells.lookup y = some c := e
    exact I.freeC y c (mem e).1
  · have hp : p ∈ [(a, go)] ++ ([] : List (Addr × Obj)) := hp
    rw [List.append_nil] at hp
    rw [List.mem_singleton.mp hp]
    refine ⟨ha, fresh a (Nat.le_of_lt hag), by show a ≠ cenv.locals; rw [hL]; exact Nat.ne_of_gt hag, fun z => ?_, hgd⟩
    obtain ⟨_, o, ho, _⟩ := (I.stack).mem z
    have ho : s.heap.get? a = some o := ho
    exact absurd (Heap.lt_size ho) (Nat.not_lt.mpr (Nat.le_of_lt hag))

/-! ### the block's turns -/
/-- nothing has happened but to the generators' records -/
structure Asleep (s s' : Shared) : Prop where
  heap : s'.heap = s.heap
  os : s'.os = s.os
  bare : AllBare s'.gens
theorem Inv.asleep {X : Cx} {pins : List (Addr × Obj)} {σ : L2.St} {H : Hp} {s s' : Shared} (I : Inv X pins σ H s) (z : Asleep s s') : Inv X pins σ H s' :=
  I.call' (ch := []) z.os (by rw [z.heap]; exact Un.kept fun _ _ e => e) (by rw [z.heap]; exact I.hok) z.bare fun b hb => absurd hb (by simp)

/-- the reading: k = true: any; k = false: all -/
def tGen (k : Bool) (P : Addr) (wi : TI) (g : TG) (tt : TT) (te : TE) (vs : List Nat) : TE := fun σ H Q => wi σ H fun J H1 => TabG H1 P ∧ ∀ H2, Tabbed P H1 H2 → ∃ W : Nat → Nat → Hp → Prop, (∃ m, W 0 m H2) ∧ ∀ i m H, W i m H →
  (J.stop i H ∧ Q (.bl (!k)) H) ∨ (J.go i H ∧ ∃ Nx : Hp → Prop, (∀ H', Nx H' → ∃ m', m' < m ∧ W (i + 1) m' H') ∧ ∀ x H', J.yld i H x H' → g x (wipe σ vs) H' fun σ2 H2 => wipe σ2 vs = wipe σ vs ∧ tt σ2 H2 fun b H3 =>
    if b = true then te σ2 H3 fun y H4 => ∃ c : Bool, y = .bl c ∧ if c = k then Q (.bl k) H4 else Nx H4 else Nx H3)

/-- at the end of the run -/
def REnd (XG : Cx) (τ : L2.St) (k : Bool) (Q : VK) : Nat → Shared → Shared → Prop := fun _ _ s1 => ∃ H, Inv XG [] τ H s1 ∧ Q (.bl (!k)) H
def RG (XG : Cx) (τ : L2.St) (k : Bool) (Q : VK) : GenEnd := fun n s₀ r s1 => ((r = .ok (.ret .none) ∨ r = .ok .next) ∧ REnd XG τ k Q n s₀ s1) ∨ ∃ e, r = .error e ∧ False
def YG (XG : Cx) (τ : L2.St) (k : Bool) (Q : VK) : Protocol := fun _ _ v s1 kap => ∃ c : Bool, v = .bool c ∧ (∃ H, Inv XG [] τ H s1) ∧ (c = k → ∃ H, Inv XG [] τ H s1 ∧ Q (.bl k) H) ∧ (c ≠ k → ∀ s', Asleep s1 s' → kap (.send .none) s')

variable {prog : Program} {w : World}
theorem over_gen {A : Around} {elt target iter : Expr} {ifs : List Expr} {scope : Scope} {pos : Pos} {it acc : Value} {cenv : Env} :
    A.over (.compLoop (.GeneratorExp elt [⟨target, iter, ifs, 0⟩] scope pos) 0 it acc cenv) [] = A.deeper cenv := by
  first
    | rfl
    | (obtain ⟨hd, d, fr, gs, u⟩ := A; simp [Around.over, Around.deeper, marksOver, frameCount, unitsOf, envsOf, guardsOf, pushEnvs, pushGuards, Code.envs, Code.env?, Code.isFrame, Code.guards, Code.isGuard, Code.weight, Code.frames, Code.isCreation, Code.isCaller, Code.cUnits])
theorem over_genS {A : Around} {elt target iter : Expr} {ifs : List Expr} {scope : Scope} {pos : Pos} {it acc : Value} {cenv : Env} :
    A.over (.compStart (.GeneratorExp elt [⟨target, iter, ifs, 0⟩] scope pos) 0 it acc cenv) [] = A.deeper cenv := by
  first
    | rfl
    | (obtain ⟨hd, d, fr, gs, u⟩ := A; simp [Around.over, Around.deeper, marksOver, frameCount, unitsOf, envsOf, guardsOf, pushEnvs, pushGuards, Code.envs, Code.env?, Code.isFrame, Code.guards, Code.isGuard, Code.weight, Code.frames, Code.isCreation, Code.isCaller, Code.cUnits])
end

section
variable {XG : Cx} {B : Around} {k : Bool} {elt target iter : Expr} {ifs : List Expr} {scope : Scope} {pos : Pos} {it : Addr} {fp : List Addr} {tn : Nat → Heap → Prop} {J : It} {g : TG} {tt : TT} {te : TE} {vs : List Nat} {τ : L2.St} {Q : VK} {W : Nat → Nat → Hp → Prop}
/-- the loop of the block -/
theorem seg_loop (hA : XG.A = B.deeper XG.env) (hcalm : XG.calm = true) (hco : XG.env.scope.isCoroutine = false) (hxe : XG.xe = fun _ _ => False) (hτ : wipe τ vs = τ)
    (T : Turn XG.prog XG.w XG.K target J fp it tn) (hfp : ∀ b ∈ fp, b ∈ XG.ex) (hpn : ∀ p ∈ XG.pn, p.1 ∉ fp) (pg : PG XG target g) (pt : PTs XG ifs tt) (pe : PE XG elt te)
    (turn : ∀ i m H, W i m H → (J.stop i H ∧ Q (.bl (!k)) H) ∨ (J.go i H ∧ ∃ Nx : Hp → Prop, (∀ H', Nx H' → ∃ m', m' < m ∧ W (i + 1) m' H') ∧ ∀ x H', J.yld i H x H' → g x τ H' fun σ2 H2 => wipe σ2 vs = τ ∧ tt σ2 H2 fun b H3 =>
      if b = true then te σ2 H3 fun y H4 => ∃ c : Bool, y = .bl c ∧ if c = k then Q (.bl k) H4 else Nx H4 else Nx H3)) :
    ∀ (m n i : Nat) (s₀ s : Shared) (H : Hp), m < n → W i m H → Inv XG [] τ H s → tn i s.heap → (∀ b ∈ fp, H b = none) →
      Seg (model XG.prog XG.w) B (RG XG τ k Q) (YG XG τ k Q) n s₀ (.compLoop (.GeneratorExp elt [⟨target, iter, ifs, 0⟩] scope pos) 0 (.ref it) .none XG.env)
        ((model XG.prog XG.w).den (.compLoop (.GeneratorExp elt [⟨target, iter, ifs, 0⟩] scope pos) 0 (.ref it) .none XG.env)) [] s := by
  intro m
  induction m using Nat.strongRecOn with
  | ind m ih =>
    intro n i s₀ s H hmn hW I st nf
    have stat : ∀ {σ' : L2.St} {H' : Hp} {s' : Shared}, Inv XG [] σ' H' s' → (∀ b ∈ fp, H' b = none) → ∀ b ∈ fp, FpOk XG [] H' b := fun {σ' H' s'} I' hn b hb =>
      ⟨hn b hb, (I'.ok.exf b (hfp b hb)).1, I'.ok.exfs b (hfp b hb), .inl (hfp b hb), fun x c e => (I'.ok.exf b (hfp b hb)).2 x c e, fun p hp => by
        rw [List.append_nil] at hp
        exact fun z => hpn p hp (z ▸ hb)⟩
    show Seg _ B _ _ _ s₀ _ ((compTurn (.GeneratorExp elt [⟨target, iter, ifs, 0⟩] scope pos) 0 (.ref it) .none XG.env).onRaise (leaving XG.env)) [] s
    rw [compTurn_gen, Sem.onRaise_eq_wrap]
    refine seg_bind_wrap (wpAny_standAt ?_)
    rcases turn i m H hW with ⟨stop, qq⟩ | ⟨go, Nx, hNx, step⟩
    · refine seg_bind_wrap ?_
      rw [over_gen, ← hA]
      refine thnF (T.done XG rfl rfl rfl hcalm i [] s τ H (fun _ _ => False) I (stat I nf) st stop) fun r s6 ⟨hr, I6⟩ => ?_
      subst hr
      exact seg_end (.ok .next) (.inl ⟨.inr rfl, H, I6, qq⟩)
    · refine seg_bind_wrap ?_
      rw [over_gen, ← hA]
      refine thnF (T.item XG rfl rfl rfl hcalm i [] s τ H (fun _ _ => False) I (stat I nf) st go) fun r s6 ⟨u, hr, h6⟩ => ?_
      subst hr
      refine seg_bind_wrap ?_
      rw [over_gen, ← hA]
      refine thnF h6 fun _ s7 ⟨x, H7, I7, r7, y7, st7, n7⟩ => ?_
      have I7' := I7.pinned (stat I7 n7) (T.obj _ _ st7)
      refine seg_bind_wrap ?_
      rw [over_gen, ← hA]
      refine wpAny_mono (pg.run _ s7 τ H7 x u _ I7' r7 (step x H7 y7)) (fun _ s8 ⟨σ8, H8, I8, hw8, q8⟩ => ?_) fun e s' z => by rw [hxe] at z; exact z.elim
      refine seg_bind_wrap ?_
      rw [over_gen, ← hA]
      refine wpAny_mono (pt.run _ s8 σ8 H8 _ I8 q8) (fun b s9 ⟨H9, I9, q9⟩ => ?_) fun e s' z => by rw [hxe] at z; exact z.elim
      have weak : ∀ {s' : Shared} {H' : Hp}, Inv XG ([] ++ pinsAt fp s7.heap) σ8 H' s' → Inv XG [] τ H' s' ∧ tn (i + 1) s'.heap ∧ ∀ b ∈ fp, H' b = none := fun {s' H'} I' => by
        have pin' : ∀ b ∈ fp, ∀ o, s7.heap.get? b = some o → s'.heap.get? b = some o ∧ H' b = none := fun b hb o e =>
          let z := I'.pin (b, o) (List.mem_append_right _ (List.mem_append_right _ (mem_pinsAt hb e)))
          ⟨z.1, z.2.1⟩
        refine ⟨(I'.unpinned (pins := [])).weak (by rw [← hw8, wipe_length]) (fun j v e => ?_), T.keep _ _ _ st7 fun b hb o e => (pin' b hb o e).1, fun b hb => ?_⟩
        · rw [← hw8] at e
          exact (wipe_some e).1
        · obtain ⟨o, e, _⟩ := T.obj _ _ st7 b hb
          exact (pin' b hb o e).2
      cases b with
      | false =>
        simp only [Bool.false_eq_true, if_false] at q9 ⊢
        obtain ⟨m', hm, w'⟩ := hNx H9 q9
        obtain ⟨J1, J2, J3⟩ := weak I9
        exact seg_again rfl (ih m' hm n (i + 1) s₀ s9 H9 (Nat.lt_trans hm hmn) w' J1 J2 J3)
      | true =>
        simp only [if_true] at q9 ⊢
        obtain ⟨n, rfl⟩ : ∃ n', n = n' + 1 := ⟨n - 1, by omega⟩
        have hy : ∀ v, yieldOut XG.env v = yieldValue v := fun v => by simp only [yieldOut, hco, Bool.false_eq_true, if_false]
        simp only [hy]
        rw [Sem.bind_eq_wrap', Sem.bind_eq_wrap', Sem.wrap_wrap, Sem.wrap_wrap]
        refine seg_wrap ?_
        rw [over_gen, ← hA]
        refine wpAny_mono (pe.run _ s9 σ8 H9 _ I9 q9) (fun z s10 ⟨yv, H10, I10, r10, c, ec, qc⟩ => ?_) fun e s' z => by rw [hxe] at z; exact z.elim
        subst ec
        obtain rfl : z = Value.bool c := r10
        obtain ⟨J1, J2, J3⟩ := weak I10
        refine seg_at (seg_yield rfl rfl rfl ⟨c, rfl, ⟨H10, J1⟩, fun e => ?_, fun e s' z => ?_⟩)
        · rw [if_pos e] at qc
          exact ⟨H10, J1, qc⟩
        · rw [if_neg e] at qc
          obtain ⟨m', hm, w'⟩ := hNx H10 qc
          refine seg_again rfl (ih m' hm n (i + 1) s' s' H10 (by omega) w' (GA.Inv.asleep J1 z) (by rw [z.heap]; exact J2) J3)

theorem seg_start (hA : XG.A = B.deeper XG.env) (hcalm : XG.calm = true) (hco : XG.env.scope.isCoroutine = false) (hxe : XG.xe = fun _ _ => False) (hτ : wipe τ vs = τ)
    (T : Turn XG.prog XG.w XG.K target J fp it tn) (hfp : ∀ b ∈ fp, b ∈ XG.ex) (hpn : ∀ p ∈ XG.pn, p.1 ∉ fp) (pg : PG XG target g) (pt : PTs XG ifs tt) (pe : PE XG elt te)
    (turn : ∀ i m H, W i m H → (J.stop i H ∧ Q (.bl (!k)) H) ∨ (J.go i H ∧ ∃ Nx : Hp → Prop, (∀ H', Nx H' → ∃ m', m' < m ∧ W (i + 1) m' H') ∧ ∀ x H', J.yld i H x H' → g x τ H' fun σ2 H2 => wipe σ2 vs = τ ∧ tt σ2 H2 fun b H3 =>
      if b = true then te σ2 H3 fun y H4 => ∃ c : Bool, y = .bl c ∧ if c = k then Q (.bl k) H4 else Nx H4 else Nx H3))
    (m : Nat) (s₀ s : Shared) (H : Hp) (hW : W 0 m H) (I : Inv XG [] τ H s) (st : tn 0 s.heap) (nf : ∀ b ∈ fp, H b = none) :
      Seg (model XG.prog XG.w) B (RG XG τ k Q) (YG XG τ k Q) (m + 1) s₀ (.compStart (.GeneratorExp elt [⟨target, iter, ifs, 0⟩] scope pos) 0 (.ref it) .none XG.env)
        ((model XG.prog XG.w).den (.compStart (.GeneratorExp elt [⟨target, iter, ifs, 0⟩] scope pos) 0 (.ref it) .none XG.env)) [] s := by
  have loop := seg_loop (B := B) (iter := iter) (scope := scope) (pos := pos) hA hcalm hco hxe hτ T hfp hpn pg pt pe turn m (m + 1) 0 s₀ s H (Nat.lt_succ_self _) hW I st nf
  show Seg _ B _ _ _ s₀ _ ((compStart (.GeneratorExp elt [⟨target, iter, ifs, 0⟩] scope pos) 0 (.ref it) .none XG.env).onRaise (leaving XG.env)) [] s
  unfold compStart
  rw [Sem.onRaise_eq_wrap]
  show Seg _ B _ _ _ s₀ _ ((ask >>= _).wrap _ _ _ _) [] s
  refine seg_bind_wrap (wpAny_askSetting ?_)
  split
  · exact seg_again rfl loop
  · first
      | exact seg_bind_wrap (wpAny_rule (seg_bind_wrap (wpAny_standAt (seg_bind_wrap (T.self _ 0 s _ _ st (seg_again rfl loop))))))
      | (refine seg_bind_wrap (wpAny_rule ?_); show Seg _ B _ _ _ s₀ _ ((standAt iter.pos >>= _).wrap _ _ _ _) [] s; exact seg_bind_wrap (wpAny_standAt (seg_bind_wrap (T.self _ 0 s _ _ st (seg_again rfl loop)))))
end

/-! ### any and all draw -/
theorem setGen_heap (s : Shared) (g : Nat) (x : GenState) : (s.setGen g x).heap = s.heap := rfl
theorem asleep_set {s : Shared} {g : Nat} {x : GenState} (hb : AllBare s.gens) (hx : x.bare = true) : Asleep s (s.setGen g x) := ⟨rfl, rfl, allBare_setGen hb hx⟩
theorem Asleep.trans {s s' s'' : Shared} (a : Asleep s s') (b : Asleep s' s'') : Asleep s s'' := ⟨b.heap.trans a.heap, b.os.trans a.os, b.bare⟩

def loopId (k : Bool) : String := if k then "any.loop" else "all.loop"
section
variable {XG : Cx} {A : Around} {k : Bool} {τ : L2.St} {Q : VK} {a : Addr} {g : Nat} {go : Obj} {nm qn : Value} {R : Result → Shared → Prop}
theorem loop_gen (hh : A.handled = none) (hd : A.depth < recursionLimit) (hgo : go.cls = .type "generator" ∧ go.data = .fields #[.int g 0, nm, qn] ∧ go.slots = #[]) (hpn : XG.pn = [(a, go)])
    (hR : ∀ b H s', Inv XG [] τ H s' → Q (.bl b) H → R (.ok (.ret (.bool b))) s') :
    ∀ (n : Nat) (s : Shared) (H₀ : Hp), Inv XG [] τ H₀ s → (∃ gs, s.gens[g]? = some gs ∧ gs.Goes (model XG.prog XG.w) A.in1.in1 (RG XG τ k Q) (YG XG τ k Q) n (.send .none) (s.setGen g .running)) →
      codeAny (model XG.prog XG.w) A (.builtin (loopId k) ⟨[.ref a], []⟩) R s := by
  have isg : ∀ {σ : L2.St} {H : Hp} {s : Shared}, Inv XG [] σ H s → s.heap.IsGen a g := fun {σ H s} I => by
    have h := (I.pin (a, go) (by rw [hpn]; simp)).1
    exact ⟨go, nm, qn, h, hgo.1, hgo.2.1, hgo.2.2⟩
  have goes : ∀ {gs : GenState} {B : Around} {n : Nat} {r : Resume} {s : Shared}, gs.Goes (model XG.prog XG.w) B (RG XG τ k Q) (YG XG τ k Q) n r s →
      gs.Goes (model XG.prog XG.w) B (fun n s₀ r s1 => ((r = .ok (.ret .none) ∨ r = .ok .next) ∧ REnd XG τ k Q n s₀ s1) ∨ ∃ e, r = .error e ∧ (fun _ _ => False : Value → Shared → Prop) e s1) (YG XG τ k Q) n r s := fun h => h
  intro n
  induction n with
  | zero =>
    intro s H₀ I ⟨gs, hgs, hgg⟩
    cases k with
    | true =>
      refine codeAny_builtin (b := Builtin.«any.loop») F.entry_any_loop ?_
      rw [show loopId true = "any.loop" from rfl, Around.under_plainId F.plain_any_loop _]
      show wpAny _ A.in1 (pyNext (.ref a) >>= _) _ _ s
      refine wpAny_bind (next_genG (A := A.in1) hh I.nolimit hd (isg I) hgs (goes hgg) (fun v s₁ gs' hbare hv => ?_) (fun s₁ hp h' hk => ?_) fun e s₁ he => he.elim)
      · obtain ⟨c, rfl, ⟨H1, I1⟩, h1, h2⟩ := hv
        by_cases hc : c = true
        · obtain ⟨H2, I2, q2⟩ := h1 hc
          subst hc
          refine wpAny_bind (wpAny_holding (wpAny_truthy_bool ?_))
          refine wpAny_bind (wpAny_letGo ?_)
          simp only [if_true]
          refine wpAny_bind (wpAny_rule (wpAny_pure ?_))
          exact hR true H2 _ (GA.Inv.asleep I2 (asleep_set I2.bare hbare)) q2
        · exact (h2 hc _ ⟨rfl, rfl, I1.bare⟩).elim
      · obtain ⟨H2, I2, q2⟩ := hp
        refine wpAny_bind (wpAny_rule (wpAny_pure ?_))
        have I3 : Inv XG [] τ H2 { s₁.setGen g .finished with heap := h' } := (GA.Inv.asleep I2 (asleep_set (g := g) (x := .finished) I2.bare rfl)).call' (ch := []) rfl (Un.kept hk) (I2.hok.kept hk) (allBare_setGen I2.bare rfl) fun b hb => absurd hb (by simp)
        exact hR false H2 _ I3 q2
    | false =>
      refine codeAny_builtin (b := Builtin.«all.loop») F.entry_all_loop ?_
      rw [show loopId false = "all.loop" from rfl, Around.under_plainId F.plain_all_loop _]
      show wpAny _ A.in1 (pyNext (.ref a) >>= _) _ _ s
      refine wpAny_bind (next_genG (A := A.in1) hh I.nolimit hd (isg I) hgs (goes hgg) (fun v s₁ gs' hbare hv => ?_) (fun s₁ hp h' hk => ?_) fun e s₁ he => he.elim)
      · obtain ⟨c, rfl, ⟨H1, I1⟩, h1, h2⟩ := hv
        by_cases hc : c = false
        · obtain ⟨H2, I2, q2⟩ := h1 hc
          subst hc
          refine wpAny_bind (wpAny_holding (wpAny_truthy_bool ?_))
          refine wpAny_bind (wpAny_letGo ?_)
          simp only [Bool.false_eq_true, if_false]
          refine wpAny_bind (wpAny_rule (wpAny_pure ?_))
          exact hR false H2 _ (GA.Inv.asleep I2 (asleep_set I2.bare hbare)) q2
        · exact (h2 hc _ ⟨rfl, rfl, I1.bare⟩).elim
      · obtain ⟨H2, I2, q2⟩ := hp
        refine wpAny_bind (wpAny_rule (wpAny_pure ?_))
        have I3 : Inv XG [] τ H2 { s₁.setGen g .finished with heap := h' } := (GA.Inv.asleep I2 (asleep_set (g := g) (x := .finished) I2.bare rfl)).call' (ch := []) rfl (Un.kept hk) (I2.hok.kept hk) (allBare_setGen I2.bare rfl) fun b hb => absurd hb (by simp)
        exact hR true H2 _ I3 q2
  | succ m ih =>
    intro s H₀ I ⟨gs, hgs, hgg⟩
    have hgl : g < s.gens.size := (Array.getElem?_eq_some_iff.mp hgs).1
    cases k with
    | true =>
      refine codeAny_builtin (b := Builtin.«any.loop») F.entry_any_loop ?_
      rw [show loopId true = "any.loop" from rfl, Around.under_plainId F.plain_any_loop _]
      show wpAny _ A.in1 (pyNext (.ref a) >>= _) _ _ s
      refine wpAny_bind (wpAny_gsz (n := g + 1) hgl (next_genG (A := A.in1) hh I.nolimit hd (isg I) hgs (goes hgg) (fun v s₁ gs' hbare hv => ?_) (fun s₁ hp h' hk => ?_) fun e s₁ he => he.elim))
      · intro hsz
        obtain ⟨c, rfl, ⟨H1, I1⟩, h1, h2⟩ := hv
        refine wpAny_bind (wpAny_holding (wpAny_truthy_bool ?_))
        refine wpAny_bind (wpAny_letGo ?_)
        by_cases hc : c = true
        · obtain ⟨H2, I2, q2⟩ := h1 hc
          subst hc
          simp only [if_true]
          refine wpAny_bind (wpAny_rule (wpAny_pure ?_))
          exact hR true H2 _ (GA.Inv.asleep I2 (asleep_set I2.bare hbare)) q2
        · have hcf : c = false := by simpa using hc
          subst hcf
          simp only [Bool.false_eq_true, if_false]
          have z := asleep_set (g := g) (x := gs') I1.bare hbare
          refine wpAny_pure ⟨plainId_quiet F.plain_any_loop _, ih _ H1 (GA.Inv.asleep I1 z) ⟨gs', setGen_at ?_, h2 hc _ (z.trans (asleep_set z.bare rfl))⟩⟩
          have q : (s₁.setGen g gs').gens.size = s₁.gens.size := setGen_size _ _ _
          have hsz' : g + 1 ≤ (s₁.setGen g gs').gens.size := hsz
          omega
      · intro hsz
        obtain ⟨H2, I2, q2⟩ := hp
        refine wpAny_bind (wpAny_rule (wpAny_pure ?_))
        have I3 : Inv XG [] τ H2 { s₁.setGen g .finished with heap := h' } := (GA.Inv.asleep I2 (asleep_set (g := g) (x := .finished) I2.bare rfl)).call' (ch := []) rfl (Un.kept hk) (I2.hok.kept hk) (allBare_setGen I2.bare rfl) fun b hb => absurd hb (by simp)
        exact hR false H2 _ I3 q2
    | false =>
      refine codeAny_builtin (b := Builtin.«all.loop») F.entry_all_loop ?_
      rw [show loopId false = "all.loop" from rfl, Around.under_plainId F.plain_all_loop _]
      show wpAny _ A.in1 (pyNext (.ref a) >>= _) _ _ s
      refine wpAny_bind (wpAny_gsz (n := g + 1) hgl (next_genG (A := A.in1) hh I.nolimit hd (isg I) hgs (goes hgg) (fun v s₁ gs' hbare hv => ?_) (fun s₁ hp h' hk => ?_) fun e s₁ he => he.elim))
      · intro hsz
        obtain ⟨c, rfl, ⟨H1, I1⟩, h1, h2⟩ := hv
        refine wpAny_bind (wpAny_holding (wpAny_truthy_bool ?_))
        refine wpAny_bind (wpAny_letGo ?_)
        by_cases hc : c = false
        · obtain ⟨H2, I2, q2⟩ := h1 hc
          subst hc
          simp only [Bool.false_eq_true, if_false]
          refine wpAny_bind (wpAny_rule (wpAny_pure ?_))
          exact hR false H2 _ (GA.Inv.asleep I2 (asleep_set I2.bare hbare)) q2
        · have hcf : c = true := by simpa using hc
          subst hcf
          simp only [if_true]
          have z := asleep_set (g := g) (x := gs') I1.bare hbare
          refine wpAny_pure ⟨plainId_quiet F.plain_all_loop _, ih _ H1 (GA.Inv.asleep I1 z) ⟨gs', setGen_at ?_, h2 hc _ (z.trans (asleep_set z.bare rfl))⟩⟩
          have q : (s₁.setGen g gs').gens.size = s₁.gens.size := setGen_size _ _ _
          have hsz' : g + 1 ≤ (s₁.setGen g gs').gens.size := hsz
          omega
      · intro hsz
        obtain ⟨H2, I2, q2⟩ := hp
        refine wpAny_bind (wpAny_rule (wpAny_pure ?_))
        have I3 : Inv XG [] τ H2 { s₁.setGen g .finished with heap := h' } := (GA.Inv.asleep I2 (asleep_set (g := g) (x := .finished) I2.bare rfl)).call' (ch := []) rfl (Un.kept hk) (I2.hok.kept hk) (allBare_setGen I2.bare rfl) fun b hb => absurd hb (by simp)
        exact hR true H2 _ I3 q2
end

theorem wipe_wipe (σ : L2.St) (vs : List Nat) : wipe (wipe σ vs) vs = wipe σ vs := by
  apply List.ext_getElem?
  intro i
  have key : ∀ (τ : L2.St) (vs : List Nat) (i : Nat), (wipe τ vs)[i]? = if i ∈ vs then (τ[i]?).map (fun _ => none) else τ[i]? := by
    intro τ vs
    induction vs with
    | nil => intro i; simp [wipe]
    | cons v r ih =>
      intro i
      unfold wipe
      rw [List.getElem?_set]
      by_cases hv : v = i
      · subst hv
        rw [if_pos rfl, if_pos List.mem_cons_self]
        by_cases hl : v < (wipe τ r).length
        · rw [if_pos hl]
          rw [wipe_length] at hl
          rw [List.getElem?_eq_getElem hl]; rfl
        · rw [if_neg hl]
          rw [wipe_length] at hl
          rw [List.getElem?_eq_none (by omega)]; rfl
      · rw [if_neg hv, ih i]
        have : i ∈ v :: r ↔ i ∈ r := by simp [Ne.symm hv]
        simp only [this]
  rw [key, key]
  split
  · cases σ[i]? <;> rfl
  · rfl

/-! ### the rule -/
def fnName (k : Bool) : Str := if k then "any" else "all"
theorem boot_fn (k : Bool) (hb : bootBuiltins "all" = some (.builtin "all")) : bootBuiltins (fnName k) = some (.builtin (if k then "any" else "all")) := by
  cases k with
  | true => exact boot_any
  | false => exact hb
section
variable {X : Cx} {pins : List (Addr × Obj)} {σ : L2.St} {H : Hp} {s : Shared}
theorem pe_gen (k : Bool) {c P : Addr} {elt tg iter : Expr} {ifs : List Expr} {p pos gpos : Pos} {scope : Scope} {own : List (Str × Nat)} {wi : TI} {g : TG} {tt : TT} {te : TE}
    (hd : X.A.depth < recursionLimit) (hgl : Gl X (fnName k)) (hm : X.mg (fnName k) = none) (hb : bootBuiltins "all" = some (.builtin "all")) (TB : TabB X.base X.mg c P) (hcode : X.env.code = .ref c) (hc : X.calm = true) (hN : X.N.Nodup)
    (ok : GOk X.N X.env.scope scope own) (hi : PI X tg iter wi)
    (hg : ∀ (s : Shared) (H : Hp) (C : Addr) (code : Value) (fp : List Addr) (pn : List (Addr × Obj)), PG (gcx X s H (gEnv X scope C code) fp pn) tg g)
    (ht : ∀ (s : Shared) (H : Hp) (C : Addr) (code : Value) (fp : List Addr) (pn : List (Addr × Obj)), PTs (gcx X s H (gEnv X scope C code) fp pn) ifs tt)
    (he : ∀ (s : Shared) (H : Hp) (C : Addr) (code : Value) (fp : List Addr) (pn : List (Addr × Obj)), PE (gcx X s H (gEnv X scope C code) fp pn) elt te)
    (hs : ∀ v, genFold iter X.env v = pure v)
    (hst : starEach [.GeneratorExp elt [⟨tg, iter, ifs, 0⟩] scope gpos] X.env = (false, eval (.GeneratorExp elt [⟨tg, iter, ifs, 0⟩] scope gpos) X.env) :: starEach [] X.env := by rfl) :
    PE X (.Call (.Name (fnName k) p) [.GeneratorExp elt [⟨tg, iter, ifs, 0⟩] scope gpos] [] pos) (tGen k P wi g tt te (own.map (·.2))) := by
  refine ⟨fun pins s σ H Q I h => ?_⟩
  have hfree : ∀ y ∈ scope.names, y.2 = .free → ∃ c, X.env.cells.lookup y.1 = some c := fun y hy e => by
    rcases ok.free y hy e with k | k
    · exact I.ok.has _ (.inl k)
    · exact I.ok.has _ (.inr k)
  have hh : X.A.handled = none := I.ok.hd hc
  refine wpAny_Call_Name_kw (ld_blt I hgl hm (boot_fn k hb) ?_ (by cases k <;> decide) (by cases k <;> decide))
  refine PyProof.Rows.callWith_builtin1 ?_ hst (by rfl)
  rw [hst]
  show wpAny _ _ (spliced ((false, eval (.GeneratorExp elt [⟨tg, iter, ifs, 0⟩] scope gpos) X.env) :: backTo pos (starEach [] X.env))) _ _ s
  refine Calls.spliced_cons ?_
  refine wpAny_GeneratorExp_make ok.co (closure_ok hfree) ok.nocell ok.dot ok.kind hd ?_ hs
  refine thn (hi.run pins s σ H _ I h) fun v s1 h1 => thn h1 fun itv s2 h2 => ?_
  obtain ⟨it, fp, tn, J, H2, rfl, I2, T, st2, f2, ⟨ps, hP, htr⟩, q2⟩ := h2
  have hPs : s2.heap.get? P = some { cls := .none, data := .fields ps } := I2.hok P _ hP
  have hPlt : P < s2.heap.objs.size := Heap.lt_size hPs
  have cd : PySem.W.CodeHd s2.heap c P := TB.code.keeps fun b u e => I2.bk b u e
  refine ⟨I2.nolimit, ?_⟩
  have fpP : ∀ b ∈ fp, b ≠ P := fun b hb z => by
    have h1 := (f2 b hb).1
    rw [z, hP] at h1
    cases h1
  have sz : ∀ b ∈ fp, b < s2.heap.objs.size := fun b hb => by
    obtain ⟨o, e, _⟩ := T.obj _ _ st2 b hb
    exact Heap.lt_size e
  have cont : ∀ (code : Value) (h3 : Heap) (tk : Nat) (ps' : Array Value), Heap.ExtBut P s2.heap h3 → h3.get? P = some { cls := .none, data := .fields ps' } → (∃ more, ps' = ps ++ more) → TriplesOk ps'.toList → s2.heap.objs.size ≤ h3.objs.size →
      wpAny (model X.prog X.w) X.A (builtinsFor X.env.globals X.env.builtins) (fun bi s₄ =>
        ∀ h', h'.Ns s₄.heap.objs.size (fun y => if y = ".0" then some (.ref it) else none) → Heap.SameBut s₄.heap.objs.size (s₄.heap.push { cls := .type "frame", data := .dict #[] }) h' →
          wpAny (model X.prog X.w) X.A (spliced (backTo pos (starEach [] X.env))) (fun us s' => wpAny (model X.prog X.w) X.A (call (.builtin (if k then "any" else "all")) (Value.ref h'.objs.size :: us)) (EP X pins σ Q) X.xe s') X.xe { s₄ with
            gens := s₄.gens.push (.fresh (.compStart (.GeneratorExp elt [⟨tg, iter, ifs, 0⟩] scope gpos) 0 (.ref it) .none (genEnv scope (cloFrom X.env.cells scope.names []) s₄.heap.objs.size code bi X.env))),
            toks := s₄.toks + 1 + 1 + 1,
            heap := h'.push { cls := .type "generator", data := .fields #[.int s₄.gens.size 0, .str "<genexpr>" (s₄.toks + 1), .str (X.env.qual ++ "<genexpr>") (s₄.toks + 1 + 1)] } }) X.xe { s2 with heap := h3, toks := tk } := by
    intro code h3 tk ps' hx hP3 hmore ht3 hsz3
    obtain ⟨more, rfl⟩ := hmore
    have I3 : Inv X pins σ (upd H2 P (.tbl (ps ++ more))) { s2 with heap := h3, gens := s2.gens, drawn := s2.drawn, toks := tk } := inv_tab I2 hP (fun b o hb e => hx b o hb e) hP3 I2.bare
    generalize hH3 : upd H2 P (.tbl (ps ++ more)) = H3 at I3
    have hTab : Tabbed P H2 H3 := by
      rw [← hH3]
      exact ⟨⟨_, upd_same, ht3⟩, fun b hb => upd_ne hb⟩
    obtain ⟨W, ⟨m, hW⟩, turn⟩ := q2 H3 hTab
    have st3 : tn 0 h3 := T.keep _ _ _ st2 fun b hb o e => hx b o (fpP b hb) e
    obtain ⟨bm, ob, e1, e2, e3, e4, e5, e6, e7, e8⟩ := TB.bm
    have kb : ∀ b o, X.base.get? b = some o → h3.get? b = some o := fun b o e => I3.bk b o e
    refine wpAny_builtinsFor (m := X.mg) (by rw [I.ok.glob]; exact I3.mod.glob.keeps kb) e1 e2 (kb _ _ e5) e6 e7 e8 ?_
    intro h' hn' hs'
    generalize hs3 : ({ s2 with heap := h3, toks := tk } : Shared) = s3 at I3 hn' hs'
    have hh3 : s3.heap = h3 := by rw [← hs3]
    have hg3 : s3.gens = s2.gens := by rw [← hs3]
    have hsz : h'.objs.size = s3.heap.objs.size + 1 := by rw [hs'.1, Heap.size_push]
    have keep' : ∀ b o, s3.heap.get? b = some o → h'.get? b = some o := fun b o e => hs'.extBut b o (Nat.ne_of_lt (Heap.lt_size e)) (Heap.get?_push_of_some _ e)
    have main : ∀ (go : Obj) (nm qn : Value) (tk5 : Nat), go.cls = .type "generator" ∧ go.data = .fields #[.int s3.gens.size 0, nm, qn] ∧ go.slots = #[] → (h'.push go).get? h'.objs.size = some go →
        wpAny (model X.prog X.w) X.A (spliced (backTo pos (starEach [] X.env))) (fun us s' => wpAny (model X.prog X.w) X.A (call (.builtin (if k then "any" else "all")) (Value.ref h'.objs.size :: us)) (EP X pins σ Q) X.xe s') X.xe { s3 with
            gens := s3.gens.push (.fresh (.compStart (.GeneratorExp elt [⟨tg, iter, ifs, 0⟩] scope gpos) 0 (.ref it) .none (genEnv scope (cloFrom X.env.cells scope.names []) s3.heap.objs.size code builtinsNs X.env))),
            toks := tk5, heap := h'.push go } := by
      intro go nm qn tk5 hgo hpushed
      generalize hs5 : ({ s3 with
            gens := s3.gens.push (.fresh (.compStart (.GeneratorExp elt [⟨tg, iter, ifs, 0⟩] scope gpos) 0 (.ref it) .none (genEnv scope (cloFrom X.env.cells scope.names []) s3.heap.objs.size code builtinsNs X.env))),
            toks := tk5, heap := h'.push go } : Shared) = s5
      have h5h : s5.heap = h'.push go := by rw [← hs5]
      have h5g : s5.gens = s3.gens.push (.fresh (.compStart (.GeneratorExp elt [⟨tg, iter, ifs, 0⟩] scope gpos) 0 (.ref it) .none (genEnv scope (cloFrom X.env.cells scope.names []) s3.heap.objs.size code builtinsNs X.env))) := by rw [← hs5]
      have k5 : ∀ b o, s3.heap.get? b = some o → s5.heap.get? b = some o := fun b o e => by rw [h5h]; exact Heap.get?_push_of_some _ (keep' b o e)
      have f3 : ∀ b ∈ fp, FpOk X pins H3 b ∧ b < s3.heap.objs.size := fun b hb => by
        refine ⟨⟨?_, (f2 b hb).2⟩, by rw [hh3]; exact Nat.lt_of_lt_of_le (sz b hb) hsz3⟩
        rw [← hH3, upd_ne (fpP b hb)]
        exact (f2 b hb).1
      have IG := gen_start (scope := scope) (own := own) (fp := fp) (code := code) (s5 := s5) (a := h'.objs.size) (go := go) (m0 := fun y => if y = ".0" then some (.ref it) else none) I3 ok hN f3 k5 (by rw [h5h]; exact hn'.push _)
        (by rw [h5h]; exact hpushed) (by rw [hsz]; exact Nat.lt_succ_self _) (fun v z => by rw [hgo.2.1] at z; cases z) (by rw [← hs5]) (by rw [h5g]; exact AllBare.push I3.bare rfl)
      refine Calls.spliced_nil ?_
      have isg : s5.heap.IsGen h'.objs.size s3.gens.size := ⟨go, nm, qn, by rw [h5h]; exact hpushed, hgo.1, hgo.2.1, hgo.2.2⟩
      have fin : ∀ b H s', Inv (gcx X s3 H3 (gEnv X scope s3.heap.objs.size code) fp [(h'.objs.size, go)]) [] (wipe σ (own.map (·.2))) H s' → Q (.bl b) H → EP X pins σ Q (.bool b) s' := fun b H s' I' q =>
        ⟨.bl b, H, I3.call' (ch := fp) I'.os I'.base I'.hok I'.bare fun b hb => ⟨(f3 b hb).1.2.2.2.1, (f3 b hb).1.2.1, (f3 b hb).1.2.2.2.2.1, (f3 b hb).1.2.2.2.2.2⟩, rfl, q⟩
      have wt : wipe (wipe σ (own.map (·.2))) (own.map (·.2)) = wipe σ (own.map (·.2)) := wipe_wipe σ _
      have loop := loop_gen (XG := gcx X s3 H3 (gEnv X scope s3.heap.objs.size code) fp [(h'.objs.size, go)]) (A := X.A) (k := k) (τ := wipe σ (own.map (·.2))) (Q := Q) (a := h'.objs.size) (g := s3.gens.size) (go := go) (nm := nm) (qn := qn)
        (R := fun r s' => match r with | .ok (.ret v) => EP X pins σ Q v s' | .ok _ => False | .error e => X.xe e s') hh hd hgo rfl (fun b H s' I' q => fin b H s' I' q) (m + 1) s5 H3 IG
        ⟨.fresh (.compStart (.GeneratorExp elt [⟨tg, iter, ifs, 0⟩] scope gpos) 0 (.ref it) .none (genEnv scope (cloFrom X.env.cells scope.names []) s3.heap.objs.size code builtinsNs X.env)), by rw [h5g]; exact Array.getElem?_push_size .., rfl, ?_⟩
      · cases k with
        | true =>
          refine call_function_tree F.kind_any F.plain_any F.entry_any (F.args_any1 _) ?_
          unfold Builtin.«any»
          refine wpAny_bind (m := oneArg "any" _) (wpAny_pure ?_)
          refine wpAny_bind (wpAny_pyIter_gen isg ?_)
          exact wpAny_pure ⟨plainId_quiet F.plain_any_loop _, loop⟩
        | false =>
          refine call_function_tree F.kind_all F.plain_all F.entry_all (F.args_all1 _) ?_
          unfold Builtin.«all»
          refine wpAny_bind (m := oneArg "all" _) (wpAny_pure ?_)
          refine wpAny_bind (wpAny_pyIter_gen isg ?_)
          exact wpAny_pure ⟨plainId_quiet F.plain_all_loop _, loop⟩
      · have z : Asleep s5 (s5.setGen s3.gens.size .running) := asleep_set IG.bare rfl
        refine seg_start (XG := gcx X s3 H3 (gEnv X scope s3.heap.objs.size code) fp [(h'.objs.size, go)]) (B := X.A.in1.in1) (vs := own.map (·.2)) (J := J) (g := g) (tt := tt) (te := te) (W := W) rfl hc ok.co rfl wt T (fun b hb => hb) (fun p hp => ?_) (hg _ _ _ _ _ _) (ht _ _ _ _ _ _) (he _ _ _ _ _ _) (fun i m H hw => ?_) m _ _ H3 hW (GA.Inv.asleep IG z) (T.keep _ _ _ st3 fun b hb o e => by
            rw [z.heap]
            exact k5 b o (by rw [hh3]; exact e)) (fun b hb => (f3 b hb).1.1)
        · rw [List.mem_singleton.mp hp]
          intro hb
          have h1 : h'.objs.size < s3.heap.objs.size := (f3 _ hb).2
          rw [hsz] at h1
          exact absurd h1 (Nat.not_lt.mpr (Nat.le_succ _))
        · exact turn i m H hw
    have e7' : s3 = { s2 with heap := h3, toks := tk } := hs3.symm
    subst hs3
    exact main _ _ _ _ ⟨rfl, rfl, rfl⟩ (Heap.get?_push_size _ rfl)
  cases hf : codeAmong gpos ps.toList with
  | none =>
    refine wpAny_genexprCodeX hcode (cd.code hPs htr) (cd.tab hPs) hf fun c' h' tk hx hge hlt hco' _ htab' _ => ?_
    obtain ⟨o1, vs, f1, tf, fl, tg', inF, tx, tt', op, _, _, _, _, _, _, _, _, _, htr', _⟩ := hco'
    exact cont _ h' tk _ hx htab'.2 ⟨_, rfl⟩ htr' (Nat.le_trans hge (Nat.le_of_lt hlt))
  | some cv =>
    refine wpAny_genexprCode_hit hcode (cd.code hPs htr) hf ?_
    exact cont cv s2.heap s2.toks ps (Heap.ExtBut.refl _ _) hPs ⟨#[], by simp⟩ htr (Nat.le_refl _)
end
end GA
set_option maxRecDepth 100000
set_option maxHeartbeats 4000000
/-! tuples that are known to have no dict of their own: locked as they stand -/
namespace TF
open PySem PySem.Spec PyProof.Rows L2
abbrev tupObj (its : List Value) : Obj := { cls := .type "tuple", data := .seq its.toArray }
/-- a plain tuple -/
def FT (H : Hp) (a : Addr) (xs : List V) : Prop := ∃ o : Obj, H a = some (.frz o (.tup xs)) ∧ o.cls = .type "tuple" ∧ o.dict = none
theorem FT.sq {K : PySem.W.Frag} {H : Hp} {a : Addr} {xs : List V} (h : FT H a xs) : SqT K H a xs := let ⟨o, e, _⟩ := h; .inl (.inr ⟨o, e⟩)
section
variable {X : Cx} {pins : List (Addr × Obj)} {σ : L2.St} {H : Hp} {s : Shared}
theorem laidF {its : List Value} {xs : List V} {t' : Nat} (I : Inv X pins σ H s) (r : Vals xs its) (hz : xs.length ≤ sizeLine) :
    Inv X pins σ (upd H s.heap.objs.size (.frz (tupObj its) (.tup xs))) { s with heap := s.heap.push (tupObj its), toks := t' } :=
  I.laid (t' := t') (fun b u e => Heap.get?_push_of_some _ e) (Nat.le_refl _) ⟨Heap.get?_push_size _ rfl, hz, its, r, IsTup.new _ _⟩
def tTupF (t : TA) : TE := fun σ H Q => t σ H fun xs H1 => xs.length ≤ sizeLine ∧ ∀ p o, H1 p = none → o.cls = .type "tuple" → o.dict = none → Q (.ref p) (upd H1 p (.frz o (.tup xs)))
theorem pe_tupF {es : List Expr} {t : TA} {pos : Pos} {x1} (h : PA X es t) : PE X (.Tuple es x1 pos) (tTupF t) := by
  refine ⟨fun pins s σ H Q I hq => ?_⟩
  refine wpAny_Tuple_spliced (thn (h.run pos pins s σ H _ I hq) fun us s1 ⟨xs, H1, I1, r, z, q⟩ => ⟨by rw [← r.length]; exact z, ?_⟩)
  exact ⟨.ref s1.heap.objs.size, _, laidF (t' := s1.toks) I1 r z, rfl, q _ _ (I1.hok.fresh (Nat.le_refl _)) rfl rfl⟩
/-- a new plain tuple of these -/
def NewT (xs : List V) (H : Hp) (Q : VK) : Prop := ∀ p o, H p = none → o.cls = .type "tuple" → o.dict = none → Q (.ref p) (upd H p (.frz o (.tup xs)))
theorem call_tupleF : CallR X (.type "tuple") (fun xs H Q => ∃ p ys, xs = [.ref p] ∧ SqL X.K H p ys ∧ NewT ys H Q) := by
  intro pins s σ H xs us Q I r h
  obtain ⟨p, ys, rfl, hq, q⟩ := h
  obtain ⟨u, rfl, rx⟩ := vals1 r
  cases rx
  obtain ⟨its, r', pl, hz⟩ := I.list hq
  have hlen := r'.length
  refine call_tuple_list pl.isList (fun h' kp => ?_) (by simp only [List.size_toArray] <;> omega)
  have I1 : Inv X pins σ H { s with heap := h' } := I.kept (t' := s.toks) kp
  exact ⟨.ref h'.objs.size, _, laidF (t' := s.toks) I1 r' hz, rfl, q _ _ (I1.hok.fresh (Nat.le_refl _)) rfl rfl⟩
def rCatF (K : PySem.W.Frag) : R2 := fun x y H Q => ∃ a b xs ys, x = .ref a ∧ y = .ref b ∧ SqT K H a xs ∧ SqT K H b ys ∧ xs.length + ys.length ≤ sizeLine ∧
  (xs = [] → Q (.ref b) H) ∧ (xs ≠ [] → ys = [] → Q (.ref a) H) ∧ (xs ≠ [] → ys ≠ [] → NewT (xs ++ ys) H Q)
theorem op_catF : OpR X (binaryOp .Add) (rCatF X.K) := by
  intro pins s σ H x y v u Q I rx ry h
  obtain ⟨a, b, xs, ys, rfl, rfl, ha, hb, hz, q0, q1, q2⟩ := h
  cases rx
  cases ry
  obtain ⟨its, r1, p1, _⟩ := I.tuple ha
  obtain ⟨its2, r2, p2, _⟩ := I.tuple hb
  by_cases hx : xs = []
  · subst hx
    cases r1
    exact cat_tup0 p1 p2 ⟨.ref b, H, I, rfl, q0 rfl⟩
  · refine HT.cat_tup p1 p2 (fun z => hx (r1.nil_iff.mp z)) (fun z => ⟨.ref a, H, I, rfl, q1 hx (r2.nil_iff.mp z)⟩) (fun z => ?_) (by rw [← r1.length, ← r2.length]; exact hz)
    exact ⟨.ref s.heap.objs.size, _, laidF (t' := s.toks) I (r1.append r2) (by rw [List.length_append]; exact hz), rfl, q2 hx (fun w => z (r2.nil_iff.mpr w)) _ _ (I.hok.fresh (Nat.le_refl _)) rfl rfl⟩
def rSlF (K : PySem.W.Frag) : V → Option Int → Option Int → Hp → VK → Prop := fun x lo hi H Q => ∃ a xs, x = .ref a ∧ SqT K H a xs ∧
  (HT.sIx xs.length 0 lo = 0 ∧ HT.sIx xs.length xs.length hi = xs.length → Q (.ref a) H) ∧ (¬ (HT.sIx xs.length 0 lo = 0 ∧ HT.sIx xs.length xs.length hi = xs.length) → NewT (cutV xs lo hi) H Q)
theorem sl_tupF : SlR X (rSlF X.K) := by
  intro pins s σ H x v vl vu lo hi sl Q I rx hs pl pu h
  obtain ⟨a, xs, rfl, hx, q1, q2⟩ := h
  cases rx
  obtain ⟨its, r, ht, hz⟩ := I.tuple hx
  have hlen : its.toArray.size = xs.length := by rw [List.size_toArray]; exact r.length.symm
  refine ⟨"tuple", _, PyProof.Rows.slot_tuple_getitem.lookup, ht.typeIs, ?_⟩
  by_cases hw : HT.sIx xs.length 0 lo = 0 ∧ HT.sIx xs.length xs.length hi = xs.length
  · exact getItem_tuple_whole ht hs pl pu (by rw [hlen]; exact hw) ⟨.ref a, H, I, rfl, q1 hw⟩
  · refine HT.getItem_tuple_cut ht hs pl pu (by rw [hlen]; exact hw) ?_ (by rw [hlen]; exact hz)
    rw [hlen]
    exact ⟨.ref s.heap.objs.size, _, laidF (t' := s.toks) I ((r.drop (HT.sIx xs.length 0 lo)).take (HT.sIx xs.length xs.length hi - HT.sIx xs.length 0 lo)) (Nat.le_trans (cutV_length xs lo hi) hz), rfl, q2 hw _ _ (I.hok.fresh (Nat.le_refl _)) rfl rfl⟩
/-! ### t * n -/
theorem tuple_mul1 (l : Addr) (items : Array Value) (n : Nat) (sl : Array (Option Value)) (x : Int) (u : Tok) (c0 : (decide (x < -(2 ^ 63)) || decide (x ≥ 2 ^ 63)) = false) (c1 : (items.isEmpty || x == 1) = true) :
    Meets (Builtin.«tuple.__mul__» ⟨[.ref l, .int x u], []⟩) (fun _ R s => s.heap.get? l = some { cls := .type "tuple", dict := none, data := .seq items n, slots := sl } ∧
      R (.ok (.ret (Value.ref l))) s) :=
  .of_wp fun prog w A R s h => by
    obtain ⟨hp, g, d, tk, os⟩ := s
    obtain ⟨hl, h⟩ := h
    have f1 := AutoSeq1.idx_int
    wp_walk using wpAny_loadPart' hl
    repeat (first
      | (refine wpAny_ite_false (decide_eq_false (by rw [c0]; exact Bool.false_ne_true)) ?_; wp_walk using wpAny_loadPart' hl)
      | (refine wpAny_ite_true (decide_eq_true (by rw [c1])) ?_; wp_walk using wpAny_loadPart' hl))
    exact ⟨_, rfl, h⟩
theorem tuple_mul0 (l : Addr) (items : Array Value) (n : Nat) (sl : Array (Option Value)) (x : Int) (u : Tok) (c0 : (decide (x < -(2 ^ 63)) || decide (x ≥ 2 ^ 63)) = false) (c1 : (items.isEmpty || x == 1) = false) (c2 : (decide (x ≤ 0) || items.isEmpty) = true) :
    Meets (Builtin.«tuple.__mul__» ⟨[.ref l, .int x u], []⟩) (fun _ R s => s.heap.get? l = some { cls := .type "tuple", dict := none, data := .seq items n, slots := sl } ∧
      R (.ok (.ret (Value.ref s.heap.objs.size))) { s with heap := s.heap.push { cls := Value.type "tuple", data := Data.seq #[] }, toks := s.toks }) :=
  .of_wp fun prog w A R s h => by
    obtain ⟨hp, g, d, tk, os⟩ := s
    obtain ⟨hl, h⟩ := h
    have f1 := AutoSeq1.idx_int
    wp_walk using wpAny_loadPart' hl
    repeat (first
      | (refine wpAny_ite_false (decide_eq_false (by rw [c0]; exact Bool.false_ne_true)) ?_; wp_walk using wpAny_loadPart' hl)
      | (refine wpAny_ite_false (decide_eq_false (by rw [c1]; exact Bool.false_ne_true)) ?_; wp_walk using wpAny_loadPart' hl)
      | (refine wpAny_ite_true (decide_eq_true (by rw [c2])) ?_; wp_walk using wpAny_loadPart' hl))
    exact ⟨_, rfl, h⟩
theorem int_rmul_tuple' (a : Int) (t : Tok) (l : Addr) (items : Array Value) (n : Nat) (dd : Option Addr) (sl : Array (Option Value)) :
    Meets (Builtin.«int.__rmul__» ⟨[.int a t, .ref l], []⟩) (fun _ R s => s.heap.get? l = some { cls := .type "tuple", dict := dd, data := .seq items n, slots := sl } ∧ R (.ok (.ret Value.notImplemented)) s) := int_rmul_tuple a t l items n dd sl
/-- a tuple that is read, of no dict of its own -/
def PT1 (K : PySem.W.Frag) (H : Hp) (a : Addr) (xs : List V) : Prop := FT H a xs ∨ ∃ (o : Obj) (its : Array Value) (n : Nat), K.lookup a = some o ∧ o.cls = .type "tuple" ∧ o.dict = none ∧ o.data = .seq its n ∧ its.size ≤ sizeLine ∧ Vals xs its.toList
theorem PT1.sq {K : PySem.W.Frag} {H : Hp} {a : Addr} {xs : List V} (h : PT1 K H a xs) : SqT K H a xs := by
  rcases h with h | ⟨o, its, n, h1, h2, _, h4⟩
  · exact h.sq
  · exact .inr ⟨o, its, n, h1, h2, h4⟩
/-- its object -/
theorem PT1.obj {a : Addr} {xs : List V} (I : Inv X pins σ H s) (h : PT1 X.K H a xs) : ∃ (its : List Value) (n : Nat) (sl : Array (Option Value)), s.heap.get? a = some { cls := .type "tuple", dict := none, data := .seq its.toArray n, slots := sl } ∧ Vals xs its ∧ xs.length ≤ sizeLine := by
  rcases h with ⟨o, e, hc, hd⟩ | ⟨o, its, n, h1, hc, hd, h2, h3, r⟩
  · obtain ⟨e1, hz, its, r, o', e2, _, n, e4⟩ := I.hok a _ e
    rw [e1] at e2
    cases e2
    obtain ⟨oc, od, dt, sl⟩ := o
    simp only at hc hd e4
    subst hc hd e4
    exact ⟨its, n, sl, e1, r, hz⟩
  · have e := I.kIn a o h1
    obtain ⟨oc, od, dt, sl⟩ := o
    simp only at hc hd h2
    subst hc hd h2
    refine ⟨its.toList, n, sl, by simpa using e, r, ?_⟩
    have := r.length
    simp only [Array.length_toList] at this
    omega
def rRepF (K : PySem.W.Frag) : R2 := fun x y H Q => ∃ l k xs, x = .ref l ∧ y = .int k ∧ PT1 K H l xs ∧ -(2 ^ 63) ≤ k ∧ k ≤ 1000 ∧ xs.length ≤ 1000 ∧ ((xs = [] ∨ k = 1) → Q (.ref l) H) ∧ (xs ≠ [] → k ≤ 0 → NewT [] H Q) ∧
  (xs ≠ [] → 2 ≤ k → NewT (List.replicate k.toNat xs).flatten H Q)
theorem op_repF : OpR X (binaryOp .Mult) (rRepF X.K) := by
  intro pins s σ H x y v u Q I rx ry h
  obtain ⟨l, k, xs, rfl, rfl, hT, h1, h2, hz, q1, q0, q2⟩ := h
  cases rx
  obtain ⟨t, rfl⟩ := ry
  obtain ⟨its, n, sl, ho, r, hs⟩ := PT1.obj I hT
  have hle : its.length = xs.length := r.length.symm
  have c0 : (decide (k < -(2 ^ 63)) || decide (k ≥ 2 ^ 63)) = false := by
    rw [decide_eq_false (by omega), decide_eq_false (by omega)] <;> rfl
  refine wpAny_binaryOp_repeat_ref (T := "tuple") (U := "int") (by decide) ⟨_, ho, rfl⟩ (fun s' => typeIs_int s' k t) noFill_tuple_mul F.fills_int_mul F.slot_int_rmul repeat_tuple F.slot_int_index.lookup
    (call_meets F.slot_int_rmul (typeIs_int s k t) F.entry_int_rmul (F.args_int_rmul_2 _ _) (int_rmul_tuple k t l its.toArray n none sl)
      ⟨ho, rfl, ⟨_, ho, rfl⟩, ?_⟩)
  by_cases hx : xs = [] ∨ k = 1
  · have c1 : (its.toArray.isEmpty || k == 1) = true := by
      rcases hx with hx | hx
      · have : its = [] := by
          subst hx
          exact List.eq_nil_of_length_eq_zero (by simpa using hle)
        subst this; rfl
      · subst hx; simp
    exact call_meets F.slot_tuple_mul ⟨_, ho, rfl⟩ F.entry_tuple_mul (F.args_tuple_mul_2 _ _) (tuple_mul1 l its.toArray n sl k t c0 c1) ⟨ho, ⟨.ref l, H, I, rfl, q1 hx⟩⟩
  · have hne : xs ≠ [] := fun e => hx (.inl e)
    have hk1 : k ≠ 1 := fun e => hx (.inr e)
    have hn : its ≠ [] := fun e => hne (by
      rw [e] at hle
      exact List.eq_nil_of_length_eq_zero hle.symm)
    have hi : its.toArray.isEmpty = false := by
      cases its with
      | nil => exact absurd rfl hn
      | cons a b => rfl
    have c1 : (its.toArray.isEmpty || k == 1) = false := by
      rw [hi, Bool.false_or]
      exact beq_eq_false_iff_ne.mpr hk1
    by_cases hk : k ≤ 0
    · have c2 : (decide (k ≤ 0) || its.toArray.isEmpty) = true := by simp [hk]
      refine call_meets F.slot_tuple_mul ⟨_, ho, rfl⟩ F.entry_tuple_mul (F.args_tuple_mul_2 _ _) (tuple_mul0 l its.toArray n sl k t c0 c1 c2) ⟨ho, ?_⟩
      exact ⟨.ref s.heap.objs.size, _, laidF (its := []) (xs := []) (t' := s.toks) I .nil (Nat.zero_le _), rfl, q0 hne hk _ _ (I.hok.fresh (Nat.le_refl _)) rfl rfl⟩
    · have hsz0 : its.toArray.size = xs.length := by rw [List.size_toArray, hle]
      have hm : ((its.toArray.size : Nat) : Int) * k ≤ 1000000 := by
        rw [hsz0]
        have a1 : ((xs.length : Nat) : Int) * k ≤ 1000 * k := Int.mul_le_mul_of_nonneg_right (by omega) (by omega)
        omega
      have flen : (List.replicate k.toNat its).flatten.length ≤ sizeLine := by
        rw [PyProof.Rows.lm_len_rep_flat, hle, sizeLine_eq]
        have a1 : k.toNat * xs.length ≤ 1000 * 1000 := Nat.mul_le_mul (by omega) hz
        omega
      have c2 : (decide (k ≤ 0) || its.toArray.isEmpty) = false := by
        rw [hi, Bool.or_false]
        exact decide_eq_false (by omega)
      have c4 : Builtin.Tuple.tupleTooMany (((its.toArray.size : Nat) : Int) * k) = false := by
        unfold Builtin.Tuple.tupleTooMany
        rw [sizeLine_eq]
        exact decide_eq_false (by omega)
      refine call_meets F.slot_tuple_mul ⟨_, ho, rfl⟩ F.entry_tuple_mul (F.args_tuple_mul_2 _ _) (tuple_mulW l its.toArray n none sl k t c0 c1 c2 (by omega) c4 (by rw [size_rep, List.size_toArray]; exact flen)) ⟨ho, ?_⟩
      rw [size_rep]
      exact ⟨.ref s.heap.objs.size, _, laidF (t' := s.toks) I (r.rep k.toNat) (by rw [PyProof.Rows.lm_len_rep_flat, sizeLine_eq]; have a1 : k.toNat * xs.length ≤ 1000 * 1000 := Nat.mul_le_mul (by omega) hz; omega), rfl, q2 hne (by omega) _ _ (I.hok.fresh (Nat.le_refl _)) rfl rfl⟩
/-! ### t.count(x), t.index(x), l.count(x), of flat items -/
/-- a method of a plain tuple -/
theorem pe_bmT {o e : Expr} {es : List Expr} {name : Str} {apos cpos : Pos} {id : String} {to : TE} {t : TA} {r : V → List V → Hp → VK → Prop} (slot : Slot "tuple" name id) (hty : typeOf (.builtin id) = pure (.type "method_descriptor")) (hm : MtR X id r) (ho : PE X o to) (ha : PA X (e :: es) t)
    (hbase : attributeBase o name X.env (eval o X.env) = eval o X.env)
    (hfew : ((backTo cpos (starEach (e :: es) X.env)).all (fun x => !x.1) && (backToKw cpos (keywordEach [] X.env)).all (fun x => x.1.isSome)
      && decide ((e :: es).length + ([] : List Keyword).length + (if ([] : List Keyword).isEmpty then 0 else 1) < 30)) = true)
    (hline : (apos.endLine == cpos.line) = true) (hs : starEach (e :: es) X.env = (false, eval e X.env) :: starEach es X.env) (hplain : (backTo cpos (starEach es X.env)).any (·.1) = false) :
    PE X (.Call (.Attribute o name apos) (e :: es) [] cpos) (fun σ H Q => to σ H fun x H1 => (∃ a xs, x = .ref a ∧ PT1 X.K H1 a xs) ∧ t σ H1 fun vs H2 => r x vs H2 Q) := by
  refine ⟨fun pins s σ H Q I h => ?_⟩
  refine wpAny_Call_method_late hbase hfew hline rfl (thn (ho.run pins s σ H _ I h) fun v s1 ⟨x, H1, I1, r1, ⟨a, xs, ex, ty⟩, q1⟩ => ?_)
  subst ex
  cases r1
  obtain ⟨its, n, sl, hob, _, _⟩ := PT1.obj I1 ty
  refine ⟨"tuple", id, PySem.F.plainAttrs_tuple, slot, hty, ⟨_, hob, rfl⟩, fun b eb => ?_, ?_⟩
  · cases eb
    exact ⟨_, hob, rfl⟩
  have hA := ha.run cpos pins s1 σ H1 _ I1 q1
  rw [hs] at hA ⊢
  refine Calls.callWith_builtin (by show (false || (backTo cpos (starEach es X.env)).any (·.1)) = false; rw [hplain] <;> rfl) (Calls.evalArgs_plain ?_)
  exact thn hA fun us s2 ⟨vs, H2, I2, r2, q2⟩ => hm pins s2 σ H2 (V.ref a) vs _ us Q I2 rfl r2 q2
theorem countP_eqU {x : V} : ∀ {xs : List V} {us : List Value}, Vals xs us → xs.all flatV = true → us.countP (eqU x) = xs.countP fun y => eqV y x
  | _, _, .nil, _ => rfl
  | y :: xs, u :: us, .cons r t, f => by
    rw [List.all_cons, Bool.and_eq_true] at f
    rw [List.countP_cons, List.countP_cons, countP_eqU t f.2, eqU_of r f.1]
def rCnt (K : PySem.W.Frag) (T : Bool) : V → List V → Hp → VK → Prop := fun x xs H Q => ∃ (p : Addr) (ys : List V) (y : V), x = .ref p ∧ xs = [y] ∧ (if T then SqT K H p ys else SqL K H p ys) ∧ flatV y = true ∧ ys.all flatV = true ∧ Q (.int (ys.countP fun z => eqV z y : Nat)) H
theorem mt_tcount : MtR X "tuple.count" (rCnt X.K true) := by
  intro pins s σ H x xs v us Q I rx rxs h
  obtain ⟨p, ys, y, rfl, rfl, hs, fy, fs, q⟩ := h
  cases rx
  obtain ⟨u, rfl, ru⟩ := vals1 rxs
  obtain ⟨its, rv, ⟨⟨cls, dd, data, sl⟩, ho, hc, n, hd⟩, hlen⟩ := I.tuple (show SqT X.K H p ys from hs)
  simp only at hc hd
  subst hc hd
  refine call_meets PySem.F.slot_tuple_count ⟨_, ho, rfl⟩ PySem.F.entry_tuple_count (PySem.F.args_tuple_count_2 _ _)
    (SeqAt.tuple_countAt p its.toArray n dd sl u (eqU y)) ⟨ho, fun w hw => mem_eqAt ru fy rv fs w (by simpa using hw), ?_⟩
  refine ⟨.int (ys.countP fun z => eqV z y : Nat), H, I.tok _, ⟨s.toks, ?_⟩, q⟩
  rw [← countP_eqU rv fs]
theorem mt_lcountF : MtR X "list.count" (rCnt X.K false) := by
  intro pins s σ H x xs v us Q I rx rxs h
  obtain ⟨p, ys, y, rfl, rfl, hs, fy, fs, q⟩ := h
  cases rx
  obtain ⟨u, rfl, ru⟩ := vals1 rxs
  obtain ⟨its, rv, ⟨⟨cls, dd, data, sl⟩, n, ho, hc, hdn, hd⟩, hlen⟩ := I.list (show SqL X.K H p ys from hs)
  simp only at hc hd
  subst hc hd
  refine call_meets PySem.F.slot_list_count ⟨_, ho, rfl⟩ PySem.F.entry_list_count (PySem.F.args_list_count_2 _ _)
    (SeqAt.list_countAt p its.toArray n dd sl u (eqU y)) ⟨ho, fun w hw => mem_eqAt ru fy rv fs w (by simpa using hw), ?_⟩
  refine ⟨.int (ys.countP fun z => eqV z y : Nat), H, I.tok _, ⟨s.toks, ?_⟩, q⟩
  rw [← countP_eqU rv fs]
def rIdxT (K : PySem.W.Frag) : V → List V → Hp → VK → Prop := fun x xs H Q => ∃ (p : Addr) (ys : List V) (y z : V) (j : Nat), x = .ref p ∧ xs = [y] ∧ SqT K H p ys ∧ flatV y = true ∧ ys.all flatV = true ∧ ys[j]? = some z ∧ eqV z y = true ∧ (∀ (m : Nat) z', m < j → ys[m]? = some z' → eqV z' y = false) ∧ Q (.int (j : Nat)) H
theorem flat_at {ys : List V} {j : Nat} {z : V} (f : ys.all flatV = true) (h : ys[j]? = some z) : flatV z = true := List.all_eq_true.mp f z (List.mem_of_getElem? h)
theorem mt_tindexF : MtR X "tuple.index" (rIdxT X.K) := by
  intro pins s σ H x xs v us Q I rx rxs h
  obtain ⟨p, ys, y, z, j, rfl, rfl, hs, fy, fs, hz, hzy, hno, q⟩ := h
  cases rx
  obtain ⟨u, rfl, ru⟩ := vals1 rxs
  obtain ⟨its, rv, ⟨⟨cls, dd, data, sl⟩, ho, hc, n, hd⟩, hlen⟩ := I.tuple hs
  simp only at hc hd
  subst hc hd
  have hl : its.toArray.size = ys.length := by rw [List.size_toArray, ← rv.length]
  have hj : j < its.toArray.size := by rw [hl]; exact (List.getElem?_eq_some_iff.mp hz).1
  have at' : ∀ (m : Nat) (hm : m < its.toArray.size) (z' : V), ys[m]? = some z' → eqU y its.toArray[m] = eqV z' y := fun m hm z' hz' => by
    obtain ⟨w, hw, rw'⟩ := rv.get hz'
    have e : its.toArray[m] = w := by
      have := (List.getElem?_eq_some_iff.mp hw).2
      simpa using this
    rw [e]
    exact eqU_of rw' (flat_at fs hz')
  refine call_meets PySem.F.slot_tuple_index ⟨_, ho, rfl⟩ PySem.F.entry_tuple_index (PySem.F.args_tuple_index_2 _ _) (TI.tuple_indexAt p its.toArray n dd sl u (eqU y) j hj (by rw [at' j hj z hz]; exact hzy) fun m hm hmj => ?_)
    ⟨ho, fun w hw => mem_eqAt ru fy rv fs w (by simpa using hw), ⟨.int (j : Nat), H, I.tok _, ⟨_, rfl⟩, q⟩⟩
  have hm' : m < ys.length := by rw [← hl]; exact hm
  rw [at' m hm ys[m] (List.getElem?_eq_getElem hm')]
  exact hno m _ hmj (List.getElem?_eq_getElem hm')
end
end TF
set_option maxRecDepth 100000
set_option maxHeartbeats 4000000
/-! A small language of one's own: values, states, an interpreter -/
namespace CP
open PySem PySem.Spec PyProof.Rows L2 GxR

/-- a value: tuples by value, lists and dicts by their place in the small heap -/
inductive D where
  | non | bl (b : Bool) | int (i : Int) | str (x : Str) | tup (ds : List D) | ref (n : Nat) | rol (ds : List D)
instance : Inhabited D := ⟨.non⟩
mutual
def D.beq : D → D → Bool
  | .non, .non => true
  | .bl a, .bl b => a == b
  | .int a, .int b => decide (a = b)
  | .str a, .str b => decide (a = b)
  | .tup a, .tup b => D.beqs a b
  | .ref a, .ref b => decide (a = b)
  | .rol a, .rol b => D.beqs a b
  | _, _ => false
def D.beqs : List D → List D → Bool
  | [], [] => true
  | a :: as, b :: bs => D.beq a b && D.beqs as bs
  | _, _ => false
end
mutual
theorem D.beq_eq : ∀ {a b : D}, D.beq a b = true → a = b
  | .non, b, h => by cases b <;> simp_all [D.beq]
  | .bl _, b, h => by cases b <;> simp_all [D.beq]
  | .int _, b, h => by cases b <;> simp_all [D.beq]
  | .str _, b, h => by cases b <;> simp_all [D.beq]
  | .ref _, b, h => by cases b <;> simp_all [D.beq]
  | .tup xs, b, h => by
    cases b <;> simp only [D.beq, Bool.false_eq_true] at h
    rw [D.beqs_eq h]
  | .rol xs, b, h => by
    cases b <;> simp only [D.beq, Bool.false_eq_true] at h
    rw [D.beqs_eq h]
theorem D.beqs_eq : ∀ {a b : List D}, D.beqs a b = true → a = b
  | [], b, h => by cases b <;> simp_all [D.beqs]
  | x :: xs, b, h => by
    cases b with
    | nil => simp [D.beqs] at h
    | cons y ys =>
      simp only [D.beqs, Bool.and_eq_true] at h
      rw [D.beq_eq h.1, D.beqs_eq h.2]
end
mutual
theorem D.beq_refl : ∀ a : D, D.beq a a = true
  | .non => rfl
  | .bl _ => by simp [D.beq]
  | .int _ => by simp [D.beq]
  | .str _ => by simp [D.beq]
  | .ref _ => by simp [D.beq]
  | .tup xs => by simp only [D.beq]; exact D.beqs_refl xs
  | .rol xs => by simp only [D.beq]; exact D.beqs_refl xs
theorem D.beqs_refl : ∀ a : List D, D.beqs a a = true
  | [] => rfl
  | x :: xs => by simp only [D.beqs, Bool.and_eq_true]; exact ⟨D.beq_refl x, D.beqs_refl xs⟩
end
instance : DecidableEq D := fun a b => if h : D.beq a b = true then isTrue (D.beq_eq h) else isFalse fun e => h (by rw [e]; exact D.beq_refl b)
mutual
def D.pure : D → Bool
  | .tup ds => D.pures ds
  | .ref _ => false
  | .rol ds => D.pures ds
  | _ => true
def D.pures : List D → Bool
  | [] => true
  | d :: ds => d.pure && D.pures ds
end
inductive IObj where
  | lst (ds : List D)
  deriving DecidableEq
abbrev IH := List IObj
abbrev IEnv := List (Option D)

/-! ### what stands for what -/
def ST (K : PySem.W.Frag) (H : Hp) (a : Addr) (xs : List V) : Prop := TF.PT1 K H a xs
/-- a list that is never written: locked, or of the written part -/
def SL (K : PySem.W.Frag) (H : Hp) (a : Addr) (xs : List V) : Prop :=
  (∃ o, H a = some (.frz o (.lst xs))) ∨ ∃ (o : Obj) (its : Array Value) (n : Nat), K.lookup a = some o ∧ o.cls = .type "list" ∧ o.dict = none ∧ o.data = .seq its n ∧ its.size ≤ sizeLine ∧ Vals xs its.toList
theorem SL.sq {K : PySem.W.Frag} {H : Hp} {a : Addr} {xs : List V} (h : SL K H a xs) : SqL K H a xs := h.elim (fun h => .inl (.inr h)) .inr
theorem ST.sq {K : PySem.W.Frag} {H : Hp} {a : Addr} {xs : List V} (h : ST K H a xs) : SqT K H a xs := TF.PT1.sq h
mutual
def Rep (K : PySem.W.Frag) (H : Hp) (μ : List Addr) : D → V → Prop
  | .non, v => v = .non
  | .bl b, v => v = .bl b
  | .int i, v => v = .int i
  | .str x, v => v = .str x
  | .tup ds, v => ∃ a vs, v = .ref a ∧ ST K H a vs ∧ Reps K H μ ds vs
  | .ref n, v => ∃ a, v = .ref a ∧ μ[n]? = some a
  | .rol ds, v => ∃ a vs, v = .ref a ∧ SL K H a vs ∧ Reps K H μ ds vs
def Reps (K : PySem.W.Frag) (H : Hp) (μ : List Addr) : List D → List V → Prop
  | [], vs => vs = []
  | d :: ds, vs => ∃ v r, vs = v :: r ∧ Rep K H μ d v ∧ Reps K H μ ds r
end
/-- what never changes, has not -/
structure Ext (H H' : Hp) : Prop where
  tup : ∀ a xs, H a = some (.tup xs) → H' a = some (.tup xs)
  frz : ∀ a o u, H a = some (.frz o u) → H' a = some (.frz o u)
theorem Ext.refl (H : Hp) : Ext H H := ⟨fun _ _ h => h, fun _ _ _ h => h⟩
theorem Ext.trans {H H1 H2 : Hp} (a : Ext H H1) (b : Ext H1 H2) : Ext H H2 := ⟨fun _ _ h => b.tup _ _ (a.tup _ _ h), fun _ _ _ h => b.frz _ _ _ (a.frz _ _ _ h)⟩
theorem Ext.new {H : Hp} {p : Addr} {o : HO} (h : H p = none) : Ext H (upd H p o) :=
  ⟨fun a xs e => by rw [upd_ne (ne_of_none e h)]; exact e, fun a ob u e => by rw [upd_ne (ne_of_none e h)]; exact e⟩
theorem Ext.lst {H : Hp} {p : Addr} {xs ys : List V} (h : H p = some (.lst xs)) : Ext H (upd H p (.lst ys)) :=
  ⟨fun a xs e => by rw [upd_ne (ne_of e h (by intro z; cases z))]; exact e, fun a ob u e => by rw [upd_ne (ne_of e h (by intro z; cases z))]; exact e⟩
theorem Ext.tab {H H' : Hp} {P : Addr} {ps : Array Value} (h : H P = some (.tbl ps)) (t : Tabbed P H H') : Ext H H' :=
  ⟨fun a xs e => by rw [t.2 a (ne_of e h (by intro z; cases z))]; exact e, fun a ob u e => by rw [t.2 a (ne_of e h (by intro z; cases z))]; exact e⟩

section
variable {K : PySem.W.Frag} {H H' : Hp} {μ μ' : List Addr}
theorem ST.ext {a : Addr} {xs : List V} (h : ST K H a xs) (e : Ext H H') : ST K H' a xs := h.elim (fun ⟨o, h, r⟩ => .inl ⟨o, e.frz _ _ _ h, r⟩) .inr
theorem SL.ext {a : Addr} {xs : List V} (h : SL K H a xs) (e : Ext H H') : SL K H' a xs := h.elim (fun ⟨o, h⟩ => .inl ⟨o, e.frz _ _ _ h⟩) .inr
theorem pre_get {n : Nat} {a : Addr} (h : μ <+: μ') (e : μ[n]? = some a) : μ'[n]? = some a := by
  obtain ⟨r, rfl⟩ := h
  obtain ⟨hn, _⟩ := List.getElem?_eq_some_iff.mp e
  rw [List.getElem?_append_left hn]; exact e
mutual
theorem Rep.mono (e : Ext H H') (h : μ <+: μ') : ∀ {d : D} {v : V}, Rep K H μ d v → Rep K H' μ' d v
  | .non, _, r => r
  | .bl _, _, r => r
  | .int _, _, r => r
  | .str _, _, r => r
  | .tup ds, _, r => by
    unfold Rep at r ⊢
    obtain ⟨a, vs, e1, e2, e3⟩ := r
    exact ⟨a, vs, e1, e2.ext e, Reps.mono e h e3⟩
  | .ref n, _, r => by
    unfold Rep at r ⊢
    obtain ⟨a, e1, e2⟩ := r
    exact ⟨a, e1, pre_get h e2⟩
  | .rol ds, _, r => by
    unfold Rep at r ⊢
    obtain ⟨a, vs, e1, e2, e3⟩ := r
    exact ⟨a, vs, e1, e2.ext e, Reps.mono e h e3⟩
theorem Reps.mono (e : Ext H H') (h : μ <+: μ') : ∀ {ds : List D} {vs : List V}, Reps K H μ ds vs → Reps K H' μ' ds vs
  | [], _, r => r
  | d :: ds, _, r => by
    unfold Reps at r ⊢
    obtain ⟨v, q, e1, e2, e3⟩ := r
    exact ⟨v, q, e1, Rep.mono e h e2, Reps.mono e h e3⟩
end
theorem Reps.length : ∀ {ds : List D} {vs : List V}, Reps K H μ ds vs → vs.length = ds.length
  | [], _, r => by unfold Reps at r; rw [r]; rfl
  | d :: ds, _, r => by
    unfold Reps at r
    obtain ⟨v, q, rfl, _, e3⟩ := r
    rw [List.length_cons, List.length_cons, e3.length]
theorem Reps.nil : Reps K H μ [] [] := by unfold Reps; rfl
theorem Reps.cons {d : D} {v : V} {ds : List D} {vs : List V} (r : Rep K H μ d v) (q : Reps K H μ ds vs) : Reps K H μ (d :: ds) (v :: vs) := by unfold Reps; exact ⟨v, vs, rfl, r, q⟩
theorem Reps.append : ∀ {ds es : List D} {vs ws : List V}, Reps K H μ ds vs → Reps K H μ es ws → Reps K H μ (ds ++ es) (vs ++ ws)
  | [], _, _, _, r, q => by unfold Reps at r; rw [r]; exact q
  | d :: ds, _, _, _, r, q => by
    unfold Reps at r
    obtain ⟨v, t, rfl, e2, e3⟩ := r
    exact .cons e2 (e3.append q)
theorem Reps.get : ∀ {ds : List D} {vs : List V} {i : Nat} {d : D}, Reps K H μ ds vs → ds[i]? = some d → ∃ v, vs[i]? = some v ∧ Rep K H μ d v
  | [], _, _, _, _, e => by simp at e
  | d :: ds, _, 0, _, r, e => by
    unfold Reps at r
    obtain ⟨v, t, rfl, e2, e3⟩ := r
    simp at e; subst e
    exact ⟨v, rfl, e2⟩
  | d :: ds, _, i + 1, _, r, e => by
    unfold Reps at r
    obtain ⟨v, t, rfl, e2, e3⟩ := r
    obtain ⟨w, h1, h2⟩ := e3.get (i := i) (by simpa using e)
    exact ⟨w, by simpa using h1, h2⟩
theorem Reps.take : ∀ {ds : List D} {vs : List V} (n : Nat), Reps K H μ ds vs → Reps K H μ (ds.take n) (vs.take n)
  | _, _, 0, _ => by simpa using Reps.nil
  | [], _, n + 1, r => by unfold Reps at r; subst r; simpa using Reps.nil
  | d :: ds, _, n + 1, r => by
    unfold Reps at r
    obtain ⟨v, t, rfl, e2, e3⟩ := r
    rw [List.take_succ_cons, List.take_succ_cons]
    exact .cons e2 (e3.take n)
theorem Reps.drop : ∀ {ds : List D} {vs : List V} (n : Nat), Reps K H μ ds vs → Reps K H μ (ds.drop n) (vs.drop n)
  | _, _, 0, r => r
  | [], _, n + 1, r => by unfold Reps at r; subst r; simpa using Reps.nil
  | d :: ds, _, n + 1, r => by
    unfold Reps at r
    obtain ⟨v, t, rfl, e2, e3⟩ := r
    exact e3.drop n
theorem Reps.set {d : D} {v : V} (q : Rep K H μ d v) : ∀ {ds : List D} {vs : List V} (n : Nat), Reps K H μ ds vs → Reps K H μ (ds.set n d) (vs.set n v)
  | [], _, _, r => by unfold Reps at r; subst r; simpa using Reps.nil
  | e :: ds, _, 0, r => by
    unfold Reps at r
    obtain ⟨w, t, rfl, e2, e3⟩ := r
    exact .cons q e3
  | e :: ds, _, n + 1, r => by
    unfold Reps at r
    obtain ⟨w, t, rfl, e2, e3⟩ := r
    exact .cons e2 (e3.set q n)
theorem Reps.reverse {ds : List D} : ∀ {vs : List V}, Reps K H μ ds vs → Reps K H μ ds.reverse vs.reverse := by
  induction ds with
  | nil => intro vs r; unfold Reps at r; subst r; exact Reps.nil
  | cons d ds ih =>
    intro vs r
    unfold Reps at r
    obtain ⟨w, t, rfl, e2, e3⟩ := r
    rw [List.reverse_cons, List.reverse_cons]
    exact (ih e3).append (.cons e2 .nil)
theorem Reps.replicate {d : D} {v : V} (q : Rep K H μ d v) (n : Nat) : Reps K H μ (List.replicate n d) (List.replicate n v) := by
  induction n with
  | zero => exact Reps.nil
  | succ n ih => exact .cons q ih
theorem Reps.all_int : ∀ {ds : List D} {vs : List V} {ns : List Int}, Reps K H μ ds vs → ds = ns.map D.int → vs = ns.map V.int
  | [], _, [], r, _ => by unfold Reps at r; rw [r]; rfl
  | [], _, _ :: _, _, e => by cases e
  | _ :: _, _, [], _, e => by cases e
  | d :: ds, _, n :: ns, r, e => by
    unfold Reps at r
    obtain ⟨w, t, rfl, e2, e3⟩ := r
    injection e with h1 h2
    subst h1
    unfold Rep at e2
    rw [e2, e3.all_int h2]; rfl
end

def ORep (K : PySem.W.Frag) (H : Hp) (μ : List Addr) : IObj → Addr → Prop
  | .lst ds, a => ∃ vs, H a = some (.lst vs) ∧ Reps K H μ ds vs
structure StRel (K : PySem.W.Frag) (T : List Addr) (μ : List Addr) (ih : IH) (H : Hp) : Prop where
  tab : ∀ P ∈ T, TabG H P
  len : μ.length = ih.length
  nd : μ.Nodup
  obj : ∀ (i : Nat) (o : IObj) (a : Addr), ih[i]? = some o → μ[i]? = some a → ORep K H μ o a
structure EnvRel (K : PySem.W.Frag) (H : Hp) (μ : List Addr) (env : IEnv) (σ : L2.St) : Prop where
  len : env.length = σ.length
  get : ∀ (i : Nat) (d : D), env[i]? = some (some d) → ∃ v, σ[i]? = some (some v) ∧ Rep K H μ d v

section
variable {K : PySem.W.Frag} {T : List Addr} {H H' : Hp} {μ μ' : List Addr} {ih : IH} {env : IEnv} {σ : L2.St}
theorem EnvRel.mono (r : EnvRel K H μ env σ) (e : Ext H H') (h : μ <+: μ') : EnvRel K H' μ' env σ :=
  ⟨r.len, fun i d hd => let ⟨v, h1, h2⟩ := r.get i d hd; ⟨v, h1, h2.mono e h⟩⟩
theorem StRel.at_ (s : StRel K T μ ih H) {i : Nat} {o : IObj} (h : ih[i]? = some o) : ∃ a, μ[i]? = some a ∧ ORep K H μ o a := by
  obtain ⟨hi, _⟩ := List.getElem?_eq_some_iff.mp h
  have hm : i < μ.length := by rw [s.len]; exact hi
  exact ⟨μ[i], List.getElem?_eq_getElem hm, s.obj i o _ h (List.getElem?_eq_getElem hm)⟩
theorem ORep.keep {o : IObj} {a : Addr} (r : ORep K H μ o a) (e : Ext H H') (h : μ <+: μ') (ha : H' a = H a) : ORep K H' μ' o a := by
  cases o with
  | lst ds =>
    obtain ⟨vs, h1, h2⟩ := r
    exact ⟨vs, by rw [ha]; exact h1, h2.mono e h⟩
theorem ORep.there {o : IObj} {a : Addr} (r : ORep K H μ o a) : ∃ u, H a = some u ∧ Mut (some u) := by
  cases o with
  | lst ds => obtain ⟨vs, h1, h2⟩ := r; exact ⟨_, h1, trivial⟩
theorem StRel.mu_there (s : StRel K T μ ih H) {a : Addr} (h : a ∈ μ) : ∃ u, H a = some u ∧ Mut (some u) := by
  obtain ⟨i, hi, e⟩ := List.mem_iff_getElem.mp h
  have hi' : i < ih.length := by rw [← s.len]; exact hi
  exact (s.obj i ih[i] a (List.getElem?_eq_getElem hi') (by rw [List.getElem?_eq_getElem hi, e])).there
theorem StRel.fresh (s : StRel K T μ ih H) {p : Addr} (hp : H p = none) : p ∉ μ := fun h => by
  obtain ⟨u, e, _⟩ := s.mu_there h
  rw [hp] at e; cases e
/-- a tracked thing is laid that is not in the small heap -/
theorem StRel.tmp {p : Addr} {o : HO} (s : StRel K T μ ih H) (hp : H p = none) : StRel K T μ ih (upd H p o) := by
  refine ⟨fun P hP => ?_, s.len, s.nd, fun i ob a h1 h2 => ?_⟩
  · obtain ⟨ps, e, t⟩ := s.tab P hP
    exact ⟨ps, by rw [upd_ne (ne_of_none e hp)]; exact e, t⟩
  · have r := s.obj i ob a h1 h2
    have ha : a ≠ p := fun e => s.fresh hp (e ▸ List.mem_of_getElem? h2)
    exact r.keep (Ext.new hp) (List.prefix_refl _) (upd_ne ha)
/-- a list is laid -/
theorem StRel.new {p : Addr} {ds : List D} {vs : List V} (s : StRel K T μ ih H) (hp : H p = none) (r : Reps K H μ ds vs) : StRel K T (μ ++ [p]) (ih ++ [.lst ds]) (upd H p (.lst vs)) := by
  refine ⟨fun P hP => ?_, by rw [List.length_append, List.length_append, s.len]; rfl, ?_, fun i ob a h1 h2 => ?_⟩
  · obtain ⟨ps, e, t⟩ := s.tab P hP
    exact ⟨ps, by rw [upd_ne (ne_of_none e hp)]; exact e, t⟩
  · rw [List.nodup_append]
    refine ⟨s.nd, by simp, fun a ha b hb => ?_⟩
    rw [List.mem_singleton.mp hb]
    exact fun e => s.fresh hp (e ▸ ha)
  · by_cases hi : i < ih.length
    · rw [List.getElem?_append_left hi] at h1
      rw [List.getElem?_append_left (by rw [s.len]; exact hi)] at h2
      have ha : a ≠ p := fun e => s.fresh hp (e ▸ List.mem_of_getElem? h2)
      exact (s.obj i ob a h1 h2).keep (Ext.new hp) (List.prefix_append _ _) (upd_ne ha)
    · rw [List.getElem?_append_right (by omega)] at h1
      rw [List.getElem?_append_right (by rw [s.len]; omega)] at h2
      have e0 : i - ih.length = 0 := by
        have := (List.getElem?_eq_some_iff.mp h1).1
        simp at this
        omega
      rw [e0] at h1
      rw [s.len, e0] at h2
      have e1 : IObj.lst ds = ob := by simpa using h1
      have e2 : p = a := by simpa using h2
      subst e1 e2
      exact ⟨vs, upd_same, r.mono (Ext.new hp) (List.prefix_append _ _)⟩
/-- a list of the small heap is written -/
theorem StRel.wr {n : Nat} {a : Addr} {ds ds' : List D} {vs' : List V} (s : StRel K T μ ih H) (h : ih[n]? = some (.lst ds)) (ha : μ[n]? = some a) (r : Reps K H μ ds' vs') : StRel K T μ (ih.set n (.lst ds')) (upd H a (.lst vs')) := by
  obtain ⟨vs, hv, _⟩ := s.obj n _ a h ha
  have hx : Ext H (upd H a (.lst vs')) := Ext.lst hv
  refine ⟨fun P hP => ?_, by rw [List.length_set]; exact s.len, s.nd, fun i ob b h1 h2 => ?_⟩
  · obtain ⟨ps, e, t⟩ := s.tab P hP
    exact ⟨ps, by rw [upd_ne (ne_of e hv (by intro z; cases z))]; exact e, t⟩
  · by_cases hi : n = i
    · subst hi
      rw [ha] at h2; cases h2
      have hl : n < ih.length := (List.getElem?_eq_some_iff.mp h).1
      rw [List.getElem?_set_self hl] at h1
      cases h1
      exact ⟨vs', upd_same, r.mono hx (List.prefix_refl _)⟩
    · rw [List.getElem?_set_ne hi] at h1
      have hb : b ≠ a := fun e => by
        subst e
        obtain ⟨l1, e1⟩ := List.getElem?_eq_some_iff.mp ha
        obtain ⟨l2, e2⟩ := List.getElem?_eq_some_iff.mp h2
        exact hi ((List.getElem_inj s.nd).mp (e1.trans e2.symm))
      exact (s.obj i ob b h1 h2).keep hx (List.prefix_refl _) (upd_ne hb)
/-- the table of a def grows -/
theorem StRel.tabbed {P : Addr} {ps : Array Value} (s : StRel K T μ ih H) (hP : H P = some (.tbl ps)) (t : Tabbed P H H') : StRel K T μ ih H' := by
  refine ⟨fun R hR => ?_, s.len, s.nd, fun i ob a h1 h2 => ?_⟩
  · by_cases e : R = P
    · rw [e]; exact t.1
    · obtain ⟨qs, e1, e2⟩ := s.tab R hR
      exact ⟨qs, by rw [t.2 R e]; exact e1, e2⟩
  · have r := s.obj i ob a h1 h2
    have ha : a ≠ P := fun e => by
      obtain ⟨u, h3, h4⟩ := r.there
      rw [e, hP] at h3; cases h3
      exact h4
    exact r.keep (Ext.tab hP t) (List.prefix_refl _) (t.2 a ha)
mutual
theorem Rep.pureMu {μ0 : List Addr} : ∀ {d : D} {v : V}, d.pure = true → Rep K H μ d v → Rep K H μ0 d v
  | .non, _, _, r => r
  | .bl _, _, _, r => r
  | .int _, _, _, r => r
  | .str _, _, _, r => r
  | .tup ds, _, p, r => by
    unfold Rep at r ⊢
    obtain ⟨a, vs, e1, e2, e3⟩ := r
    exact ⟨a, vs, e1, e2, Reps.pureMu (by simpa [D.pure] using p) e3⟩
  | .ref n, _, p, r => by simp [D.pure] at p
  | .rol ds, _, p, r => by
    unfold Rep at r ⊢
    obtain ⟨a, vs, e1, e2, e3⟩ := r
    exact ⟨a, vs, e1, e2, Reps.pureMu (by simpa [D.pure] using p) e3⟩
theorem Reps.pureMu {μ0 : List Addr} : ∀ {ds : List D} {vs : List V}, D.pures ds = true → Reps K H μ ds vs → Reps K H μ0 ds vs
  | [], _, _, r => by unfold Reps at r ⊢; exact r
  | d :: ds, _, p, r => by
    unfold Reps at r ⊢
    simp only [D.pures, Bool.and_eq_true] at p
    obtain ⟨v, q, e1, e2, e3⟩ := r
    exact ⟨v, q, e1, Rep.pureMu p.1 e2, Reps.pureMu p.2 e3⟩
end
mutual
/-- what had a meaning by the shorter map has it by that map still -/
theorem Rep.back (h : μ <+: μ') {H0 : Hp} : ∀ {d : D} {v w : V}, Rep K H0 μ d w → Rep K H μ' d v → Rep K H μ d v
  | .non, _, _, _, r => r
  | .bl _, _, _, _, r => r
  | .int _, _, _, _, r => r
  | .str _, _, _, _, r => r
  | .tup ds, _, _, q, r => by
    unfold Rep at r q ⊢
    obtain ⟨a, vs, e1, e2, e3⟩ := r
    obtain ⟨_, ws, _, _, q3⟩ := q
    exact ⟨a, vs, e1, e2, Reps.back h q3 e3⟩
  | .ref n, _, _, q, r => by
    unfold Rep at r q ⊢
    obtain ⟨a, e1, e2⟩ := r
    obtain ⟨b, _, q2⟩ := q
    have := pre_get h q2
    rw [e2] at this
    cases this
    exact ⟨a, e1, q2⟩
  | .rol ds, _, _, q, r => by
    unfold Rep at r q ⊢
    obtain ⟨a, vs, e1, e2, e3⟩ := r
    obtain ⟨_, ws, _, _, q3⟩ := q
    exact ⟨a, vs, e1, e2, Reps.back h q3 e3⟩
theorem Reps.back (h : μ <+: μ') {H0 : Hp} : ∀ {ds : List D} {vs ws : List V}, Reps K H0 μ ds ws → Reps K H μ' ds vs → Reps K H μ ds vs
  | [], _, _, _, r => by unfold Reps at r ⊢; exact r
  | d :: ds, _, _, p, r => by
    unfold Reps at r p ⊢
    obtain ⟨v, q, e1, e2, e3⟩ := r
    obtain ⟨_, _, _, p2, p3⟩ := p
    exact ⟨v, q, e1, Rep.back h p2 e2, Reps.back h p3 e3⟩
end
/-- what was laid since is forgotten -/
theorem StRel.drop {H0 : Hp} {ih' : IH} (s0 : StRel K T μ ih H0) (h : μ <+: μ') (s : StRel K T μ' ih' H) (e : ih'.take ih.length = ih) : StRel K T μ ih H := by
  obtain ⟨r, rfl⟩ := h
  refine ⟨s.tab, s0.len, s0.nd, fun i ob a h1 h2 => ?_⟩
  have hi : i < ih.length := (List.getElem?_eq_some_iff.mp h1).1
  have h1' : ih'[i]? = some ob := by
    rw [← e] at h1
    rw [List.getElem?_take_of_lt hi] at h1
    exact h1
  have q := s.obj i ob a h1' (pre_get (List.prefix_append _ _) h2)
  have q0 := s0.obj i ob a h1 h2
  cases ob with
  | lst ds =>
    obtain ⟨vs, e1, e2⟩ := q
    obtain ⟨ws, _, f2⟩ := q0
    exact ⟨vs, e1, Reps.back (List.prefix_append _ _) f2 e2⟩
end
end CP
set_option maxRecDepth 100000
set_option maxHeartbeats 4000000
/-! The language and its interpreter -/
namespace CP
open PySem PySem.Spec PyProof.Rows L2 GxR

inductive Bop | add | sub | mul | fdiv | mod | pow deriving DecidableEq
inductive Cop | eq | ne | lt | le | gt | ge | isIn | notIn | is_ | isNot deriving DecidableEq
inductive Blt | len | int | tuple | list | max2 | min2 | sum | any | all | sorted | sortR | ssort | abs | str deriving DecidableEq
inductive Mth | append | count | index deriving DecidableEq
inductive MT | name (i : Nat) | tup (ts : List Nat)
mutual
inductive ME where
  | var (i : Nat)
  | lit (d : D)
  | glob (x : Str) (d : D)
  | bin (o : Bop) (a b : ME)
  | cmp (o : Cop) (a b : ME)
  | chain (o p : Cop) (a b c : ME)
  | not (a : ME)
  | neg (a : ME)
  | and (es : MEs)
  | or (es : MEs)
  | ite (c a b : ME)
  | tup (es : MEs)
  | lst (es : MEs)
  | ix (a b : ME)
  | sl (a : ME) (lo hi : MO)
  | call (f : Str) (es : MEs)
  | blt (f : Blt) (es : MEs)
  | meth (m : Mth) (a : ME) (es : MEs)
  | isi (a : ME) (t : String)
  | comp (elt : ME) (tg : MT) (it : MI) (ifs : MO) (own : List Nat)
  | gen (k : Bool) (elt : ME) (tg : MT) (it : MI) (ifs : MO) (own : List Nat)
inductive MEs where
  | nil
  | cons (e : ME) (es : MEs)
inductive MO where
  | no
  | yes (e : ME)
inductive MI where
  | val (e : ME)
  | range (es : MEs)
  | zip (a b : ME)
  | zip3 (a b c : ME)
  | enum (e : ME)
  | rev (e : ME)
end
inductive MS where
  | asg (tg : MT) (e : ME)
  | asgP (ts : List Nat) (es : MEs)
  | put (o i e : ME)
  | aug (i : Nat) (o : Bop) (e : ME)
  | expr (e : ME)
  | ret (e : ME)
  | retN
  | ifs (c : ME) (a b : List MS)
  | for_ (tg : MT) (it : MI) (body : List MS)
  | while_ (c : ME) (body : List MS)
  | brk | cont | pass

/-! ### operations -/
def lstAt (ih : IH) (n : Nat) : Option (List D) := match ih[n]? with
  | some (.lst ds) => some ds
  | none => none
def lstOf (ih : IH) : D → Option (List D)
  | .ref n => lstAt ih n
  | .rol ds => some ds
  | _ => none
def tupOf : D → Option (List D)
  | .tup ds => some ds
  | _ => none
/-- as data of any depth -/
def datL (f : D → Option PyData) : List D → Option (List PyData)
  | [] => some []
  | d :: ds => match f d, datL f ds with
    | some p, some ps => some (p :: ps)
    | _, _ => none
def dat (ih : IH) : Nat → D → Option PyData
  | 0, d => match d with
    | .non => some .none
    | .bl b => some (.bool b)
    | .int i => some (.int i)
    | .str x => some (.str x)
    | _ => none
  | n + 1, d => match d with
    | .non => some .none
    | .bl b => some (.bool b)
    | .int i => some (.int i)
    | .str x => some (.str x)
    | .tup ds => (datL (dat ih n) ds).map .tuple
    | .rol ds => (datL (dat ih n) ds).map .list
    | .ref k => match lstAt ih k with
      | some ds => (datL (dat ih n) ds).map .list
      | none => none
/-- may be compared -/
def datS (ih : IH) (d : D) : Option PyData := match dat ih 60 d with
  | some p => if SeqAt.shaped p then some p else none
  | none => none
def eqD (ih : IH) (a b : D) : Option Bool := match datS ih a, datS ih b with
  | some p, some q => some (PyData.eqv p q)
  | _, _ => none
/-- == of flat values -/
def D.eqv : D → D → Bool
  | .non, .non => true
  | .bl a, .bl b => a == b
  | .bl a, .int j => (if a then 1 else 0) == j
  | .int i, .bl b => i == (if b then 1 else 0)
  | .int i, .int j => i == j
  | .str x, .str y => x == y
  | _, _ => false
def flatD : D → Bool
  | .non => true
  | .bl _ => true
  | .int _ => true
  | .str _ => true
  | _ => false
def intsOf : List D → Option (List Int)
  | [] => some []
  | .int i :: ds => (intsOf ds).map (i :: ·)
  | _ :: _ => none
def boolsOf : List D → Option (List Bool)
  | [] => some []
  | .bl b :: ds => (boolsOf ds).map (b :: ·)
  | _ :: _ => none
def ltD : D → D → Option Bool
  | .int i, .int j => some (decide (i < j))
  | .str x, .str y => some (decide (x.cps.toList < y.cps.toList))
  | .tup xs, .tup ys => match intsOf xs, intsOf ys with
    | some a, some b => some (HT.lexLt a b)
    | _, _ => none
  | _, _ => none
def strIn (x z : Str) : Option Bool := match x.cps.toList with
  | [c] => some (decide (c ∈ z.cps.toList))
  | _ => none
def inD (ih : IH) (x y : D) : Option Bool := match y with
  | .str z => match x with
    | .str y => strIn y z
    | _ => none
  | .tup ys => if flatD x && ys.all flatD then some (ys.any fun y => D.eqv y x) else none
  | y => match datS ih x, datS ih y with
    | some d, some (.list ps) => some (ps.any fun z => PyData.eqv z d)
    | _, _ => none
def cmpop (o : Cop) (ih : IH) (a b : D) : Option Bool := match o with
  | .eq => eqD ih a b
  | .ne => (eqD ih a b).map (!·)
  | .lt => ltD a b
  | .gt => match a, b with
    | .int i, .int j => some (decide (j < i))
    | _, _ => none
  | .le => match a, b with
    | .int i, .int j => some (decide (i ≤ j))
    | _, _ => none
  | .ge => match a, b with
    | .int i, .int j => some (decide (j ≤ i))
    | _, _ => none
  | .isIn => inD ih a b
  | .notIn => (inD ih a b).map (!·)
  | .is_ => match a, b with
    | x, .non => some (decide (x = .non))
    | .bl x, .bl y => some (decide (x = y))
    | _, _ => none
  | .isNot => match a, b with
    | x, .non => some (!decide (x = .non))
    | .bl x, .bl y => some (!decide (x = y))
    | _, _ => none
def mulOk (i j : Int) : Bool := (decide (-(2 ^ 64) < i) && decide (i < 2 ^ 64)) || (decide (-(2 ^ 64) < j) && decide (j < 2 ^ 64))
def binop (o : Bop) (ih : IH) (a b : D) : Option (D × IH) := match o, a, b with
  | .add, .int i, .int j => some (.int (i + j), ih)
  | .add, .str x, .str y => if x.length + y.length ≤ sizeLine then some (.str (x ++ y), ih) else none
  | .add, .tup xs, .tup ys => if xs.length + ys.length ≤ sizeLine then some (.tup (xs ++ ys), ih) else none
  | .add, .ref n, .ref m => match lstAt ih n, lstAt ih m with
    | some xs, some ys => if xs.length + ys.length ≤ sizeLine then some (.ref ih.length, ih ++ [.lst (xs ++ ys)]) else none
    | _, _ => none
  | .sub, .int i, .int j => some (.int (i - j), ih)
  | .mul, .int i, .int j => if mulOk i j then some (.int (i * j), ih) else none
  | .mul, .tup xs, .int k => if -(2 ^ 63) ≤ k ∧ k ≤ 1000 ∧ xs.length ≤ 1000 then some (.tup (List.replicate k.toNat xs).flatten, ih) else none
  | .mul, .ref n, .int k => match lstAt ih n with
    | some xs => if -(2 ^ 63) ≤ k ∧ k < 2 ^ 63 ∧ xs.length * k.toNat ≤ sizeLine then some (.ref ih.length, ih ++ [.lst (List.replicate k.toNat xs).flatten]) else none
    | none => none
  | .fdiv, .int i, .int j => if 0 < j ∧ j.natAbs.log2 < 9000 then some (.int (i / j), ih) else none
  | .mod, .int i, .int j => if 0 < j then some (.int (i % j), ih) else none
  | .pow, .int i, .int j => if 0 ≤ j ∧ j ≤ 1000000 ∧ i.natAbs < 2 ^ 64 then some (.int (i ^ j.toNat), ih) else none
  | _, _, _ => none
def ixop (ih : IH) (a b : D) : Option D := match b with
  | .int i => match a with
    | .tup xs => atI xs i
    | .str z => if z.length ≤ sizeLine then (atI z.cps.toList i).map fun c => .str ⟨#[c]⟩ else none
    | a => (lstOf ih a).bind fun xs => atI xs i
  | _ => none
def cutL {α : Type} (xs : List α) (lo hi : Option Int) : List α := (xs.drop (HT.sIx xs.length 0 lo)).take (HT.sIx xs.length xs.length hi - HT.sIx xs.length 0 lo)
def slop (ih : IH) (a : D) (lo hi : Option Int) : Option (D × IH) := match a with
  | .tup xs => some (.tup (cutL xs lo hi), ih)
  | .str z => if z.length ≤ sizeLine then some (.str (cutS z lo hi), ih) else none
  | a => (lstOf ih a).map fun xs => (.ref ih.length, ih ++ [.lst (cutL xs lo hi)])
def ins (x : Int) : List Int → List Int
  | [] => [x]
  | y :: ys => if x ≤ y then x :: y :: ys else y :: ins x ys
def isort : List Int → List Int
  | [] => []
  | x :: xs => ins x (isort xs)
def sortD (ds : List D) : Option (List D) := (intsOf ds).map fun ns => (isort ns).map .int
def seqOf (ih : IH) : D → Option (List D)
  | .tup xs => some xs
  | d => lstOf ih d
def blt1 (f : Blt) (ih : IH) (x : D) : Option (D × IH) := match f with
  | .len => match x with
    | .str z => if z.length ≤ sizeLine then some (.int z.length, ih) else none
    | x => (seqOf ih x).map fun xs => (.int xs.length, ih)
  | .int => match x with
    | .int i => some (.int i, ih)
    | .bl b => some (.int (if b then 1 else 0), ih)
    | .str a => if a.length ≤ 640 then (PySem.intText? a).map fun n => (.int n, ih) else none
    | _ => none
  | .tuple => match x with
    | .tup xs => some (.tup xs, ih)
    | x => (lstOf ih x).map fun xs => (.tup xs, ih)
  | .list => (seqOf ih x).map fun xs => (.ref ih.length, ih ++ [.lst xs])
  | .sum => ((lstOf ih x).bind intsOf).map fun ns => (.int ns.sum, ih)
  | .any => ((lstOf ih x).bind boolsOf).map fun bs => (.bl (bs.any id), ih)
  | .all => ((lstOf ih x).bind boolsOf).map fun bs => (.bl (bs.all id), ih)
  | .sorted => ((lstOf ih x).bind sortD).map fun xs => (.ref ih.length, ih ++ [.lst xs])
  | .abs => match x with
    | .int i => some (.int (if i < 0 then -i else i), ih)
    | _ => none
  | .str => match x with
    | .int i => if i.natAbs.log2 < 1920 then some (.str (toString i), ih) else none
    | .str x => some (.str x, ih)
    | _ => none
  | _ => none
def blt2 (f : Blt) (ih : IH) (x y : D) : Option (D × IH) := match f, x, y with
  | .max2, .int i, .int j => some (.int (if j > i then j else i), ih)
  | .min2, .int i, .int j => some (.int (if j < i then j else i), ih)
  | _, _, _ => none
def bltop (f : Blt) (ih : IH) (as : List D) : Option (D × IH) := match as with
  | [x] => blt1 f ih x
  | [x, y] => blt2 f ih x y
  | _ => none
def cntD (x : D) (ys : List D) : Nat := ys.countP fun y => D.eqv y x
def idxD (x : D) (ys : List D) : Option Nat := ys.findIdx? fun y => D.eqv y x
def methop (m : Mth) (ih : IH) (a : D) (as : List D) : Option (D × IH) := match as with
  | [x] => match m with
    | .append => match a with
      | .ref n => match lstAt ih n with
        | some xs => if xs.length < sizeLine then some (.non, ih.set n (.lst (xs ++ [x]))) else none
        | none => none
      | _ => none
    | .count => match seqOf ih a with
      | some ys => if flatD x && ys.all flatD then some (.int (cntD x ys : Nat), ih) else none
      | none => none
    | .index => match a with
      | .tup ys => if flatD x && ys.all flatD then (idxD x ys).map fun j => (.int (j : Nat), ih) else none
      | _ => none
  | _ => none
def tyOf (ih : IH) : D → Option String
  | .non => some "NoneType"
  | .bl _ => some "bool"
  | .int _ => some "int"
  | .str _ => some "str"
  | .tup _ => some "tuple"
  | .rol _ => some "list"
  | .ref n => (lstAt ih n).map fun _ => "list"
def isiD (ih : IH) (a : D) (t : String) : Option Bool := (tyOf ih a).map fun s => s == t || (s == "bool" && t == "int")
/-- what is walked: the items, and the lists that are to stay as they are meanwhile -/
structure Walk where
  items : List D
  src : List (Nat × List D)
def Walk.ok (w : Walk) (ih : IH) : Bool := w.src.all fun p => decide (lstAt ih p.1 = some p.2)
def srcOf : D → List D → List (Nat × List D)
  | .ref n, xs => [(n, xs)]
  | _, _ => []
def walkD (ih : IH) (d : D) : Option Walk := match d with
  | .str z => some ⟨z.cps.toList.map fun c => .str ⟨#[c]⟩, []⟩
  | .tup xs => some ⟨xs, []⟩
  | d => (lstOf ih d).map fun xs => ⟨xs, srcOf d xs⟩
def small62 (j : Int) : Bool := decide (-(2 ^ 62) ≤ j) && decide (j < 2 ^ 62)
def rangeL (lo : Int) (n : Nat) : List D := (List.range n).map fun (i : Nat) => D.int (lo + i)
def rangeW : List D → Option Walk
  | [.int j] => if small62 j then some ⟨rangeL 0 j.toNat, []⟩ else none
  | [.int i, .int j] => if small62 i && small62 j then some ⟨rangeL i (j - i).toNat, []⟩ else none
  | _ => none
def zipW (ih : IH) (a b : D) : Option Walk := match a, b with
  | .tup xs, .tup ys => some ⟨(xs.zip ys).map fun p => .tup [p.1, p.2], []⟩
  | a, b => match lstOf ih a, lstOf ih b with
    | some xs, some ys => some ⟨(xs.zip ys).map fun p => .tup [p.1, p.2], srcOf a xs ++ srcOf b ys⟩
    | _, _ => none
def zip3W (ih : IH) (a b c : D) : Option Walk := match a, b, c with
  | .tup xs, .tup ys, .tup zs => some ⟨(xs.zip (ys.zip zs)).map fun p => .tup [p.1, p.2.1, p.2.2], []⟩
  | _, _, _ => none
def enumL : Nat → List D → List D
  | _, [] => []
  | k, x :: xs => .tup [.int k, x] :: enumL (k + 1) xs
def enumW (ih : IH) (d : D) : Option Walk := match d with
  | .tup xs => some ⟨enumL 0 xs, []⟩
  | d => (lstOf ih d).map fun xs => ⟨enumL 0 xs, srcOf d xs⟩
def revW (ih : IH) (d : D) : Option Walk := match d with
  | .tup xs => some ⟨xs.reverse, []⟩
  | d => (lstOf ih d).map fun xs => ⟨xs.reverse, srcOf d xs⟩
/-- what was made meanwhile is forgotten, if the result leans on none of it and nothing else has changed -/
def keepH (ih : IH) : Option (D × IH) → Option (D × IH)
  | some (d, ih') => if d.pure = true ∧ ih'.take ih.length = ih then some (d, ih) else some (d, ih')
  | none => none

/-! ### names -/
def putAll : List Nat → List D → IEnv → Option IEnv
  | [], [], env => some env
  | i :: is, d :: ds, env => if i < env.length then putAll is ds (env.set i (some d)) else none
  | _, _, _ => none
def asgT (t : MT) (d : D) (env : IEnv) : Option IEnv := match t with
  | .name i => if i < env.length then some (env.set i (some d)) else none
  | .tup is => match d with
    | .tup ds => putAll is ds env
    | _ => none
def wipeE (env : IEnv) : List Nat → IEnv
  | [] => env
  | v :: vs => (wipeE env vs).set v none

/-! ### expressions -/
abbrev Orc := Str → List D → IH → Option (D × IH)
/-- a list comprehension's turns: n is the new list -/
def compLoop (tst : IEnv → IH → Option (Bool × IH)) (el : IEnv → IH → Option (D × IH)) (tg : MT) (w : Walk) (n : Nat) (env : IEnv) : List D → IH → Option IH
  | [], ih => if w.ok ih then some ih else none
  | x :: xs, ih => if w.ok ih then
      match asgT tg x env with
      | some env1 => match tst env1 ih with
        | some (true, ih1) => match el env1 ih1 with
          | some (d, ih2) => match lstAt ih2 n with
            | some ds => if ds.length < sizeLine then compLoop tst el tg w n env xs (ih2.set n (.lst (ds ++ [d]))) else none
            | none => none
          | none => none
        | some (false, ih1) => compLoop tst el tg w n env xs ih1
        | none => none
      | none => none
    else none
/-- any (k = true), all (k = false) over a generator expression -/
def genLoop (k : Bool) (tst : IEnv → IH → Option (Bool × IH)) (el : IEnv → IH → Option (D × IH)) (tg : MT) (w : Walk) (env : IEnv) : List D → IH → Option (D × IH)
  | [], ih => if w.ok ih then some (.bl (!k), ih) else none
  | x :: xs, ih => if w.ok ih then
      match asgT tg x env with
      | some env1 => match tst env1 ih with
        | some (true, ih1) => match el env1 ih1 with
          | some (.bl c, ih2) => if c = k then some (.bl k, ih2) else genLoop k tst el tg w env xs ih2
          | _ => none
        | some (false, ih1) => genLoop k tst el tg w env xs ih1
        | none => none
      | none => none
    else none
mutual
def evE (C : Orc) : ME → IEnv → IH → Option (D × IH)
  | .var i, env, ih => match env[i]? with
    | some (some d) => some (d, ih)
    | _ => none
  | .lit d, _, ih => some (d, ih)
  | .glob _ d, _, ih => some (d, ih)
  | .bin o a b, env, ih => match evE C a env ih with
    | some (x, ih1) => match evE C b env ih1 with
      | some (y, ih2) => binop o ih2 x y
      | none => none
    | none => none
  | .cmp o a b, env, ih => match evE C a env ih with
    | some (x, ih1) => match evE C b env ih1 with
      | some (y, ih2) => (cmpop o ih2 x y).map fun c => (.bl c, ih2)
      | none => none
    | none => none
  | .chain o p a b c, env, ih => match evE C a env ih with
    | some (x, ih1) => match evE C b env ih1 with
      | some (y, ih2) => match cmpop o ih2 x y with
        | some true => match evE C c env ih2 with
          | some (z, ih3) => (cmpop p ih3 y z).map fun c => (.bl c, ih3)
          | none => none
        | some false => some (.bl false, ih2)
        | none => none
      | none => none
    | none => none
  | .not a, env, ih => match evE C a env ih with
    | some (.bl b, ih1) => some (.bl (!b), ih1)
    | _ => none
  | .neg a, env, ih => match evE C a env ih with
    | some (.int i, ih1) => some (.int (-i), ih1)
    | _ => none
  | .and es, env, ih => evAnd C es env ih
  | .or es, env, ih => evOr C es env ih
  | .ite c a b, env, ih => match evE C c env ih with
    | some (.bl true, ih1) => evE C a env ih1
    | some (.bl false, ih1) => evE C b env ih1
    | _ => none
  | .tup es, env, ih => match evEs C es env ih with
    | some (ds, ih1) => if ds.length ≤ sizeLine then some (.tup ds, ih1) else none
    | none => none
  | .lst es, env, ih => match evEs C es env ih with
    | some (ds, ih1) => if ds.length ≤ sizeLine then some (.ref ih1.length, ih1 ++ [.lst ds]) else none
    | none => none
  | .ix a b, env, ih => match evE C a env ih with
    | some (x, ih1) => match evE C b env ih1 with
      | some (y, ih2) => (ixop ih2 x y).map fun d => (d, ih2)
      | none => none
    | none => none
  | .sl a lo hi, env, ih => match evE C a env ih with
    | some (x, ih1) => match evO C lo env ih1 with
      | some (l, ih2) => match evO C hi env ih2 with
        | some (h, ih3) => slop ih3 x l h
        | none => none
      | none => none
    | none => none
  | .call f es, env, ih => match evEs C es env ih with
    | some (ds, ih1) => C f ds ih1
    | none => none
  | .blt f es, env, ih => keepH ih (match evEs C es env ih with
    | some (ds, ih1) => bltop f ih1 ds
    | none => none)
  | .meth m a es, env, ih => match evE C a env ih with
    | some (x, ih1) => match evEs C es env ih1 with
      | some (ds, ih2) => methop m ih2 x ds
      | none => none
    | none => none
  | .isi a t, env, ih => match evE C a env ih with
    | some (x, ih1) => (isiD ih1 x t).map fun b => (.bl b, ih1)
    | none => none
  | .comp elt tg it ifs own, env, ih => match evI C it env ih with
    | some (w, ih1) => match compLoop (fun env ih => evT C ifs env ih) (fun env ih => evE C elt env ih) tg w ih1.length (wipeE env own) w.items (ih1 ++ [.lst []]) with
      | some ih2 => some (.ref ih1.length, ih2)
      | none => none
    | none => none
  | .gen k elt tg it ifs own, env, ih => match evI C it env ih with
    | some (w, ih1) => genLoop k (fun env ih => evT C ifs env ih) (fun env ih => evE C elt env ih) tg w (wipeE env own) w.items ih1
    | none => none
def evEs (C : Orc) : MEs → IEnv → IH → Option (List D × IH)
  | .nil, _, ih => some ([], ih)
  | .cons e es, env, ih => match evE C e env ih with
    | some (d, ih1) => match evEs C es env ih1 with
      | some (ds, ih2) => some (d :: ds, ih2)
      | none => none
    | none => none
def evAnd (C : Orc) : MEs → IEnv → IH → Option (D × IH)
  | .nil, _, _ => none
  | .cons e .nil, env, ih => evE C e env ih
  | .cons e es, env, ih => match evE C e env ih with
    | some (.bl true, ih1) => evAnd C es env ih1
    | some (.bl false, ih1) => some (.bl false, ih1)
    | _ => none
def evOr (C : Orc) : MEs → IEnv → IH → Option (D × IH)
  | .nil, _, _ => none
  | .cons e .nil, env, ih => evE C e env ih
  | .cons e es, env, ih => match evE C e env ih with
    | some (.bl true, ih1) => some (.bl true, ih1)
    | some (.bl false, ih1) => evOr C es env ih1
    | _ => none
/-- a part of a slice -/
def evO (C : Orc) : MO → IEnv → IH → Option (Option Int × IH)
  | .no, _, ih => some (none, ih)
  | .yes e, env, ih => match evE C e env ih with
    | some (.int i, ih1) => some (some i, ih1)
    | _ => none
/-- a comprehension's test -/
def evT (C : Orc) : MO → IEnv → IH → Option (Bool × IH)
  | .no, _, ih => some (true, ih)
  | .yes e, env, ih => match evE C e env ih with
    | some (.bl b, ih1) => some (b, ih1)
    | _ => none
def evI (C : Orc) : MI → IEnv → IH → Option (Walk × IH)
  | .val e, env, ih => match evE C e env ih with
    | some (x, ih1) => (walkD ih1 x).map fun w => (w, ih1)
    | none => none
  | .range es, env, ih => match evEs C es env ih with
    | some (ds, ih1) => (rangeW ds).map fun w => (w, ih1)
    | none => none
  | .zip a b, env, ih => match evE C a env ih with
    | some (x, ih1) => match evE C b env ih1 with
      | some (y, ih2) => (zipW ih2 x y).map fun w => (w, ih2)
      | none => none
    | none => none
  | .zip3 a b c, env, ih => match evE C a env ih with
    | some (x, ih1) => match evE C b env ih1 with
      | some (y, ih2) => match evE C c env ih2 with
        | some (z, ih3) => (zip3W ih3 x y z).map fun w => (w, ih3)
        | none => none
      | none => none
    | none => none
  | .enum e, env, ih => match evE C e env ih with
    | some (x, ih1) => (enumW ih1 x).map fun w => (w, ih1)
    | none => none
  | .rev e, env, ih => match evE C e env ih with
    | some (x, ih1) => (revW ih1 x).map fun w => (w, ih1)
    | none => none
end

/-! ### statements -/
inductive Ctl | next | brk | cont | ret (d : D) deriving DecidableEq
def forLoop (body : IEnv → IH → Option (Ctl × IEnv × IH)) (tg : MT) (w : Walk) : List D → IEnv → IH → Option (Ctl × IEnv × IH)
  | [], env, ih => if w.ok ih then some (.next, env, ih) else none
  | x :: xs, env, ih => if w.ok ih then
      match asgT tg x env with
      | some env1 => match body env1 ih with
        | some (.next, env2, ih2) => forLoop body tg w xs env2 ih2
        | some (.cont, env2, ih2) => forLoop body tg w xs env2 ih2
        | some (.brk, env2, ih2) => some (.next, env2, ih2)
        | some (.ret d, env2, ih2) => some (.ret d, env2, ih2)
        | none => none
      | none => none
    else none
def whileLoop (tst : IEnv → IH → Option (Bool × IH)) (body : IEnv → IH → Option (Ctl × IEnv × IH)) : Nat → IEnv → IH → Option (Ctl × IEnv × IH)
  | 0, _, _ => none
  | n + 1, env, ih => match tst env ih with
    | some (true, ih1) => match body env ih1 with
      | some (.next, env2, ih2) => whileLoop tst body n env2 ih2
      | some (.cont, env2, ih2) => whileLoop tst body n env2 ih2
      | some (.brk, env2, ih2) => some (.next, env2, ih2)
      | some (.ret d, env2, ih2) => some (.ret d, env2, ih2)
      | none => none
    | some (false, ih1) => some (.next, env, ih1)
    | none => none
mutual
def evS (C : Orc) (fuel : Nat) : MS → IEnv → IH → Option (Ctl × IEnv × IH)
  | .asg t e, env, ih => match evE C e env ih with
    | some (d, ih1) => (asgT t d env).map fun env1 => (.next, env1, ih1)
    | none => none
  | .asgP ts es, env, ih => match evEs C es env ih with
    | some (ds, ih1) => (putAll ts ds env).map fun env1 => (.next, env1, ih1)
    | none => none
  | .put o i e, env, ih => match evE C e env ih with
    | some (d, ih1) => match evE C o env ih1 with
      | some (.ref n, ih2) => match evE C i env ih2 with
        | some (.int k, ih3) => match lstAt ih3 n with
          | some xs => (ixN xs.length k).map fun j => (.next, env, ih3.set n (.lst (xs.set j d)))
          | none => none
        | _ => none
      | _ => none
    | none => none
  | .aug i o e, env, ih => match env[i]? with
    | some (some (.int x)) => match evE C e env ih with
      | some (.int y, ih1) => match o with
        | .add => some (.next, env.set i (some (.int (x + y))), ih1)
        | .sub => some (.next, env.set i (some (.int (x - y))), ih1)
        | _ => none
      | _ => none
    | _ => none
  | .expr e, env, ih => match evE C e env ih with
    | some (_, ih1) => some (.next, env, ih1)
    | none => none
  | .ret e, env, ih => match evE C e env ih with
    | some (d, ih1) => some (.ret d, env, ih1)
    | none => none
  | .retN, env, ih => some (.ret .non, env, ih)
  | .ifs c a b, env, ih => match evE C c env ih with
    | some (.bl true, ih1) => evSs C fuel a env ih1
    | some (.bl false, ih1) => evSs C fuel b env ih1
    | _ => none
  | .for_ tg it body, env, ih => match evI C it env ih with
    | some (w, ih1) => forLoop (fun env ih => evSs C fuel body env ih) tg w w.items env ih1
    | none => none
  | .while_ c body, env, ih => whileLoop (fun env ih => match evE C c env ih with
      | some (.bl b, ih1) => some (b, ih1)
      | _ => none) (fun env ih => evSs C fuel body env ih) fuel env ih
  | .brk, env, ih => some (.brk, env, ih)
  | .cont, env, ih => some (.cont, env, ih)
  | .pass, env, ih => some (.next, env, ih)
def evSs (C : Orc) (fuel : Nat) : List MS → IEnv → IH → Option (Ctl × IEnv × IH)
  | [], env, ih => some (.next, env, ih)
  | s :: ss, env, ih => match evS C fuel s env ih with
    | some (.next, env1, ih1) => evSs C fuel ss env1 ih1
    | r => r
end
/-- a def: its parameters are its first names; size: how many names it has -/
structure MDef where
  name : Str
  params : Nat
  size : Nat
  body : List MS
def MDef.run (C : Orc) (fuel : Nat) (d : MDef) (as : List D) (ih : IH) : Option (D × IH) :=
  if as.length = d.params then
    match evSs C fuel d.body (as.map some ++ List.replicate (d.size - d.params) none) ih with
    | some (.next, _, ih1) => keepH ih (some (.non, ih1))
    | some (.ret r, _, ih1) => keepH ih (some (r, ih1))
    | _ => none
  else none
def callN (P : List MDef) (fuel : Nat) : Nat → Orc
  | 0, _, _, _ => none
  | n + 1, f, as, ih => match P.find? fun d => d.name == f with
    | some d => d.run (callN P fuel n) fuel as ih
    | none => none
end CP
set_option maxRecDepth 100000
set_option maxHeartbeats 4000000
/-! The operations are what the program's are -/
namespace CP
open PySem PySem.Spec PyProof.Rows L2 GxR

/-- what is wanted behind a result -/
def Then (K : PySem.W.Frag) (T : List Addr) (H : Hp) (μ : List Addr) (d : D) (ih' : IH) (Q : VK) : Prop :=
  ∀ (μ' : List Addr) (H' : Hp) (v : V), μ <+: μ' → Ext H H' → StRel K T μ' ih' H' → Rep K H' μ' d v → Q v H'
section
variable {K : PySem.W.Frag} {T : List Addr} {H H' : Hp} {μ μ' : List Addr} {ih ih' : IH} {d x y : D} {v w : V} {Q : VK} {ds : List D} {vs : List V}
theorem Then.same (t : Then K T H μ d ih Q) (s : StRel K T μ ih H) (r : Rep K H μ d v) : Q v H := t μ H v (List.prefix_refl _) (Ext.refl _) s r
theorem Then.newL (t : Then K T H μ (.ref ih.length) (ih ++ [.lst ds]) Q) (s : StRel K T μ ih H) (r : Reps K H μ ds vs) (p : Addr) (hp : H p = none) : Q (.ref p) (upd H p (.lst vs)) := by
  refine t (μ ++ [p]) _ _ (List.prefix_append _ _) (Ext.new hp) (s.new hp r) ?_
  unfold Rep
  exact ⟨p, rfl, by rw [← s.len, List.getElem?_append_right (Nat.le_refl _)]; simp⟩
theorem Then.newT (t : Then K T H μ (.tup ds) ih Q) (s : StRel K T μ ih H) (r : Reps K H μ ds vs) : TF.NewT vs H Q := fun p o hp hc hd => by
  refine t μ _ _ (List.prefix_refl _) (Ext.new hp) (s.tmp hp) ?_
  unfold Rep
  exact ⟨p, vs, rfl, .inl ⟨o, upd_same, hc, hd⟩, r.mono (Ext.new hp) (List.prefix_refl _)⟩
theorem Then.wr {n : Nat} {a : Addr} {es : List D} (t : Then K T H μ .non (ih.set n (.lst ds)) Q) (s : StRel K T μ ih H) (h : ih[n]? = some (.lst es)) (ha : μ[n]? = some a) (r : Reps K H μ ds vs) : Q .non (upd H a (.lst vs)) := by
  obtain ⟨ws, hw, _⟩ := s.obj n _ a h ha
  refine t μ _ _ (List.prefix_refl _) (Ext.lst hw) (s.wr h ha r) ?_
  unfold Rep; rfl
theorem lstAt_ix {n : Nat} (h : lstAt ih n = some ds) : ih[n]? = some (.lst ds) := by
  unfold lstAt at h
  split at h
  · rename_i e
    simp only [Option.some.injEq] at h
    rw [e, h]
  · cases h
theorem Rep.ref_ {n : Nat} (r : Rep K H μ (.ref n) v) : ∃ a, v = .ref a ∧ μ[n]? = some a := by unfold Rep at r; exact r
theorem Rep.tup_ (r : Rep K H μ (.tup ds) v) : ∃ a vs, v = .ref a ∧ ST K H a vs ∧ Reps K H μ ds vs := by unfold Rep at r; exact r
theorem Rep.rol_ (r : Rep K H μ (.rol ds) v) : ∃ a vs, v = .ref a ∧ SL K H a vs ∧ Reps K H μ ds vs := by unfold Rep at r; exact r
theorem Rep.int_ {i : Int} (r : Rep K H μ (.int i) v) : v = .int i := by unfold Rep at r; exact r
theorem Rep.bl_ {i : Bool} (r : Rep K H μ (.bl i) v) : v = .bl i := by unfold Rep at r; exact r
theorem Rep.str_ {i : Str} (r : Rep K H μ (.str i) v) : v = .str i := by unfold Rep at r; exact r
theorem Rep.non_ (r : Rep K H μ .non v) : v = .non := by unfold Rep at r; exact r
theorem rep_int {i : Int} : Rep K H μ (.int i) (.int i) := by unfold Rep; rfl
theorem rep_bl {i : Bool} : Rep K H μ (.bl i) (.bl i) := by unfold Rep; rfl
theorem rep_str {i : Str} : Rep K H μ (.str i) (.str i) := by unfold Rep; rfl
theorem rep_non : Rep K H μ .non .non := by unfold Rep; rfl
/-- a list of the small heap -/
theorem ref_lst {n : Nat} (s : StRel K T μ ih H) (r : Rep K H μ (.ref n) v) (h : lstAt ih n = some ds) : ∃ a vs, v = .ref a ∧ μ[n]? = some a ∧ ih[n]? = some (.lst ds) ∧ H a = some (.lst vs) ∧ Reps K H μ ds vs := by
  obtain ⟨a, rfl, e⟩ := r.ref_
  have h' := lstAt_ix h
  obtain ⟨vs, e1, e2⟩ := s.obj n _ a h' e
  exact ⟨a, vs, rfl, e, h', e1, e2⟩
theorem lst_of (s : StRel K T μ ih H) (r : Rep K H μ d v) (h : lstOf ih d = some ds) : ∃ a vs, v = .ref a ∧ SqL K H a vs ∧ Reps K H μ ds vs := by
  unfold lstOf at h
  split at h
  · obtain ⟨a, vs, e1, _, _, e2, e3⟩ := ref_lst s r h
    exact ⟨a, vs, e1, .of e2, e3⟩
  · cases h
    obtain ⟨a, vs, e1, e2, e3⟩ := r.rol_
    exact ⟨a, vs, e1, e2.sq, e3⟩
  · cases h
theorem seq_of (s : StRel K T μ ih H) (r : Rep K H μ d v) (h : seqOf ih d = some ds) : ∃ a vs, v = .ref a ∧ (SqL K H a vs ∨ SqT K H a vs) ∧ Reps K H μ ds vs := by
  unfold seqOf at h
  split at h
  · cases h
    obtain ⟨a, vs, e1, e2, e3⟩ := r.tup_
    exact ⟨a, vs, e1, .inr e2.sq, e3⟩
  · obtain ⟨a, vs, e1, e2, e3⟩ := lst_of s r h
    exact ⟨a, vs, e1, .inl e2, e3⟩
mutual
theorem dat_dp (s : StRel K T μ ih H) : ∀ (n : Nat) {d : D} {v : V} {p : PyData}, Rep K H μ d v → dat ih n d = some p → Dp K H v p
  | 0, d, v, p, r, h => by
    unfold dat at h
    split at h <;> try cases h
    · rw [r.non_]; exact .non
    · rw [r.bl_]; exact .bl _
    · rw [r.int_]; exact .int _
    · rw [r.str_]; exact .str _
  | n + 1, d, v, p, r, h => by
    unfold dat at h
    split at h
    · cases h; rw [r.non_]; exact .non
    · cases h; rw [r.bl_]; exact .bl _
    · cases h; rw [r.int_]; exact .int _
    · cases h; rw [r.str_]; exact .str _
    · obtain ⟨ps, h1, rfl⟩ := Option.map_eq_some_iff.mp h
      obtain ⟨a, vs, rfl, e2, e3⟩ := r.tup_
      exact .tup e2.sq (datL_dp s n e3 h1)
    · obtain ⟨ps, h1, rfl⟩ := Option.map_eq_some_iff.mp h
      obtain ⟨a, vs, rfl, e2, e3⟩ := r.rol_
      exact .lst e2.sq (datL_dp s n e3 h1)
    · split at h
      · rename_i e
        obtain ⟨ps, h1, rfl⟩ := Option.map_eq_some_iff.mp h
        obtain ⟨a, vs, rfl, _, _, e2, e3⟩ := ref_lst s r e
        exact .lst (.of e2) (datL_dp s n e3 h1)
      · cases h
theorem datL_dp (s : StRel K T μ ih H) : ∀ (n : Nat) {ds : List D} {vs : List V} {ps : List PyData}, Reps K H μ ds vs → datL (dat ih n) ds = some ps → DpAll K H vs ps
  | n, [], vs, ps, r, h => by
    unfold datL at h
    cases h
    unfold Reps at r
    rw [r]; exact .nil
  | n, d :: ds, vs, ps, r, h => by
    unfold datL at h
    split at h
    · rename_i p ps' h1 h2
      cases h
      unfold Reps at r
      obtain ⟨v, q, rfl, r1, r2⟩ := r
      exact .cons (dat_dp s n r1 h1) (datL_dp s n r2 h2)
    · cases h
end
theorem datS_dp (s : StRel K T μ ih H) {p : PyData} (r : Rep K H μ d v) (h : datS ih d = some p) : Dp K H v p ∧ SeqAt.shaped p = true := by
  unfold datS at h
  split at h
  · rename_i e
    split at h
    · rename_i c
      cases h
      exact ⟨dat_dp s 60 r e, c⟩
    · cases h
  · cases h
theorem intsOf_eq : ∀ {ds : List D} {ns : List Int}, intsOf ds = some ns → ds = ns.map D.int
  | [], ns, h => by unfold intsOf at h; cases h; rfl
  | d :: ds, ns, h => by
    cases d <;> simp only [intsOf, reduceCtorEq] at h
    obtain ⟨ms, h1, rfl⟩ := Option.map_eq_some_iff.mp h
    rw [intsOf_eq h1]; rfl
theorem boolsOf_eq : ∀ {ds : List D} {ns : List Bool}, boolsOf ds = some ns → ds = ns.map D.bl
  | [], ns, h => by unfold boolsOf at h; cases h; rfl
  | d :: ds, ns, h => by
    cases d <;> simp only [boolsOf, reduceCtorEq] at h
    obtain ⟨ms, h1, rfl⟩ := Option.map_eq_some_iff.mp h
    rw [boolsOf_eq h1]; rfl
theorem Reps.all_bl : ∀ {ds : List D} {vs : List V} {ns : List Bool}, Reps K H μ ds vs → ds = ns.map D.bl → vs = ns.map V.bl
  | [], _, [], r, _ => by unfold Reps at r; rw [r]; rfl
  | [], _, _ :: _, _, e => by cases e
  | _ :: _, _, [], _, e => by cases e
  | d :: ds, _, n :: ns, r, e => by
    unfold Reps at r
    obtain ⟨w, t, rfl, e2, e3⟩ := r
    injection e with h1 h2
    subst h1
    rw [e2.bl_, e3.all_bl h2]; rfl
theorem reps_ints : ∀ {ns : List Int}, Reps K H μ (ns.map D.int) (ns.map V.int)
  | [] => Reps.nil
  | n :: ns => .cons rep_int reps_ints
theorem flat_rep (r : Rep K H μ d v) (h : flatD d = true) : flatV v = true := by
  cases d <;> simp only [flatD, Bool.false_eq_true] at h
  · rw [r.non_]; rfl
  · rw [r.bl_]; rfl
  · rw [r.int_]; rfl
  · rw [r.str_]; rfl
def flatOf : D → V
  | .bl b => .bl b
  | .int b => .int b
  | .str b => .str b
  | _ => .non
theorem flat_val (r : Rep K H μ d v) (h : flatD d = true) : v = flatOf d := by
  cases d <;> simp only [flatD, Bool.false_eq_true] at h
  · exact r.non_
  · exact r.bl_
  · exact r.int_
  · exact r.str_
theorem eqv_rep (r : Rep K H μ d v) (q : Rep K H μ x w) (h : flatD d = true) (h' : flatD x = true) : eqV v w = D.eqv d x := by
  rw [flat_val r h, flat_val q h']
  cases d <;> simp only [flatD, Bool.false_eq_true] at h <;> cases x <;> simp only [flatD, Bool.false_eq_true] at h' <;> rfl
theorem flats_rep : ∀ {ds : List D} {vs : List V}, Reps K H μ ds vs → ds.all flatD = true → vs.all flatV = true
  | [], _, r, _ => by unfold Reps at r; rw [r]; rfl
  | d :: ds, _, r, h => by
    unfold Reps at r
    obtain ⟨w, t, rfl, e2, e3⟩ := r
    rw [List.all_cons, Bool.and_eq_true] at h ⊢
    exact ⟨flat_rep e2 h.1, flats_rep e3 h.2⟩
theorem any_rep (q : Rep K H μ x w) (hx : flatD x = true) : ∀ {ds : List D} {vs : List V}, Reps K H μ ds vs → ds.all flatD = true → (vs.any fun z => eqV z w) = ds.any fun z => D.eqv z x
  | [], _, r, _ => by unfold Reps at r; rw [r]; rfl
  | d :: ds, _, r, h => by
    unfold Reps at r
    obtain ⟨v, t, rfl, e2, e3⟩ := r
    rw [List.all_cons, Bool.and_eq_true] at h
    rw [List.any_cons, List.any_cons, eqv_rep e2 q h.1 hx, any_rep q hx e3 h.2]
theorem count_rep (q : Rep K H μ x w) (hx : flatD x = true) : ∀ {ds : List D} {vs : List V}, Reps K H μ ds vs → ds.all flatD = true → (vs.countP fun z => eqV z w) = cntD x ds
  | [], _, r, _ => by unfold Reps at r; rw [r]; rfl
  | d :: ds, _, r, h => by
    unfold Reps at r
    obtain ⟨v, t, rfl, e2, e3⟩ := r
    rw [List.all_cons, Bool.and_eq_true] at h
    unfold cntD
    rw [List.countP_cons, List.countP_cons, eqv_rep e2 q h.1 hx, count_rep q hx e3 h.2]
    rfl
theorem Reps.getV : ∀ {ds : List D} {vs : List V} {i : Nat} {w : V}, Reps K H μ ds vs → vs[i]? = some w → ∃ d, ds[i]? = some d ∧ Rep K H μ d w
  | [], _, _, _, r, e => by unfold Reps at r; subst r; simp at e
  | d :: ds, _, 0, _, r, e => by
    unfold Reps at r
    obtain ⟨v, t, rfl, e2, e3⟩ := r
    simp at e; subst e
    exact ⟨d, rfl, e2⟩
  | d :: ds, _, i + 1, _, r, e => by
    unfold Reps at r
    obtain ⟨v, t, rfl, e2, e3⟩ := r
    obtain ⟨w, h1, h2⟩ := e3.getV (i := i) (by simpa using e)
    exact ⟨w, by simpa using h1, h2⟩
theorem Reps.flat_rep_n (n : Nat) (r : Reps K H μ ds vs) : Reps K H μ (List.replicate n ds).flatten (List.replicate n vs).flatten := by
  induction n with
  | zero => exact Reps.nil
  | succ n h => rw [List.replicate_succ, List.replicate_succ, List.flatten_cons, List.flatten_cons]; exact r.append h
theorem atI_rep {i : Int} (r : Reps K H μ ds vs) (h : atI ds i = some d) : ∃ v, atI vs i = some v ∧ Rep K H μ d v := by
  unfold atI at h ⊢
  rw [r.length]
  cases e : ixN ds.length i with
  | none => rw [e] at h; cases h
  | some j =>
    rw [e] at h
    exact r.get h
theorem cut_rep {lo hi : Option Int} (r : Reps K H μ ds vs) : Reps K H μ (cutL ds lo hi) (cutV vs lo hi) := by
  unfold cutL cutV
  rw [r.length]
  exact (r.drop _).take _
end

/-! ### two-place operations -/
def Bop.op : Bop → Operator
  | .add => .Add
  | .sub => .Sub
  | .mul => .Mult
  | .fdiv => .FloorDiv
  | .mod => .Mod
  | .pow => .Pow
def Cop.op : Cop → CmpOp
  | .eq => .Eq
  | .ne => .NotEq
  | .lt => .Lt
  | .le => .LtE
  | .gt => .Gt
  | .ge => .GtE
  | .isIn => .In
  | .notIn => .NotIn
  | .is_ => .Is
  | .isNot => .IsNot
def rBin (K : PySem.W.Frag) (T : List Addr) (o : Bop) : R2 := fun v w H Q => ∃ μ ih x y d ih', StRel K T μ ih H ∧ Rep K H μ x v ∧ Rep K H μ y w ∧ binop o ih x y = some (d, ih') ∧ Then K T H μ d ih' Q
def rCmp (K : PySem.W.Frag) (T : List Addr) (o : Cop) : R2 := fun v w H Q => ∃ μ ih x y c, StRel K T μ ih H ∧ Rep K H μ x v ∧ Rep K H μ y w ∧ cmpop o ih x y = some c ∧ Q (.bl c) H
section
variable {X : Cx} {T : List Addr}
theorem FT.len {X : Cx} {pins : List (Addr × Obj)} {σ : L2.St} {H : Hp} {s : Shared} {a : Addr} {xs : List V} (I : Inv X pins σ H s) (h : SqT X.K H a xs) : xs.length ≤ sizeLine := by
  obtain ⟨_, _, _, h⟩ := I.tuple h
  exact h
theorem op_bin (o : Bop) : OpR X (binaryOp o.op) (rBin X.K T o) := by
  intro pins s σ H v w u u' Q I ru rw' h
  obtain ⟨μ, ih, x, y, d, ih', S, rx, ry, hb, q⟩ := h
  unfold binop at hb
  split at hb
  · cases hb
    exact op_add pins s σ H v w u u' Q I ru rw' ⟨_, _, rx.int_, ry.int_, q.same S rep_int⟩
  · split at hb
    · cases hb
      exact op_add_str pins s σ H v w u u' Q I ru rw' ⟨_, _, rx.str_, ry.str_, by assumption, q.same S rep_str⟩
    · cases hb
  · rename_i xs ys
    split at hb
    · rename_i hz
      cases hb
      obtain ⟨a, vs, rfl, e2, e3⟩ := rx.tup_
      obtain ⟨b, ws, rfl, f2, f3⟩ := ry.tup_
      refine TF.op_catF pins s σ H _ _ u u' Q I ru rw' ⟨a, b, vs, ws, rfl, rfl, e2.sq, f2.sq, by rw [e3.length, f3.length]; exact hz, fun z => ?_, fun z z2 => ?_, fun _ _ => q.newT S (e3.append f3)⟩
      · subst z
        have : xs = [] := List.eq_nil_of_length_eq_zero (by rw [← e3.length]; rfl)
        subst this
        exact q.same S ry
      · subst z2
        have : ys = [] := List.eq_nil_of_length_eq_zero (by rw [← f3.length]; rfl)
        subst this
        rw [List.append_nil] at q
        exact q.same S rx
    · cases hb
  · split at hb
    · rename_i hx hy
      split at hb
      · rename_i hz
        cases hb
        obtain ⟨a, vs, rfl, _, _, e2, e3⟩ := ref_lst S rx hx
        obtain ⟨b, ws, rfl, _, _, f2, f3⟩ := ref_lst S ry hy
        exact op_cat pins s σ H _ _ u u' Q I ru rw' ⟨a, b, vs, ws, rfl, rfl, e2, f2, by rw [e3.length, f3.length]; exact hz, fun p hp => q.newL S (e3.append f3) p hp⟩
      · cases hb
    · cases hb
  · cases hb
    exact op_sub pins s σ H v w u u' Q I ru rw' ⟨_, _, rx.int_, ry.int_, q.same S rep_int⟩
  · split at hb
    · rename_i hm
      cases hb
      refine op_mul pins s σ H v w u u' Q I ru rw' ⟨_, _, rx.int_, ry.int_, ?_, q.same S rep_int⟩
      unfold mulOk at hm
      unfold CMul
      simpa using hm
    · cases hb
  · rename_i xs k
    split at hb
    · rename_i hz
      cases hb
      obtain ⟨a, vs, rfl, e2, e3⟩ := rx.tup_
      have q' := q
      refine TF.op_repF pins s σ H _ _ u u' Q I ru rw' ⟨a, k, vs, rfl, ry.int_, e2, hz.1, hz.2.1, by rw [e3.length]; exact hz.2.2, fun z => ?_, fun z z2 => ?_, fun _ _ => q.newT S (e3.flat_rep_n _)⟩
      · rcases z with z | z
        · subst z
          have : xs = [] := List.eq_nil_of_length_eq_zero (by rw [← e3.length]; rfl)
          subst this
          have e : (List.replicate k.toNat ([] : List D)).flatten = [] := by simp
          rw [e] at q
          exact q.same S rx
        · subst z
          have e : (List.replicate (1 : Int).toNat xs).flatten = xs := by simp
          rw [e] at q
          exact q.same S rx
      · have e : (List.replicate k.toNat xs).flatten = [] := by
          have : k.toNat = 0 := by omega
          rw [this]; rfl
        rw [e] at q
        exact q.newT S Reps.nil
    · cases hb
  · split at hb
    · rename_i hx
      split at hb
      · rename_i hz
        cases hb
        obtain ⟨a, vs, rfl, _, _, e2, e3⟩ := ref_lst S rx hx
        exact op_rep pins s σ H _ _ u u' Q I ru rw' ⟨a, _, vs, rfl, ry.int_, e2, hz.1, hz.2.1, by rw [e3.length]; exact hz.2.2, fun p hp => q.newL S (e3.flat_rep_n _) p hp⟩
      · cases hb
    · cases hb
  · split at hb
    · rename_i hz
      cases hb
      exact op_fdivW pins s σ H v w u u' Q I ru rw' ⟨_, _, rx.int_, ry.int_, hz, q.same S rep_int⟩
    · cases hb
  · split at hb
    · rename_i hz
      cases hb
      exact op_mod pins s σ H v w u u' Q I ru rw' ⟨_, _, rx.int_, ry.int_, hz, q.same S rep_int⟩
    · cases hb
  · split at hb
    · rename_i hz
      cases hb
      exact op_pow pins s σ H v w u u' Q I ru rw' ⟨_, _, rx.int_, ry.int_, hz, q.same S rep_int⟩
    · cases hb
  · cases hb
theorem op_cmp (o : Cop) (hu : X.A.units + 65 < cLine) : OpR X (compareOp o.op) (rCmp X.K T o) := by
  intro pins s σ H v w u u' Q I ru rw' h
  obtain ⟨μ, ih, x, y, c, S, rx, ry, hb, q⟩ := h
  have hu' : X.A.units + 64 < cLine := by omega
  have eqp : ∀ {c : Bool}, eqD ih x y = some c → ∃ d e, Dp X.K H v d ∧ Dp X.K H w e ∧ SeqAt.shaped d = true ∧ SeqAt.shaped e = true ∧ c = PyData.eqv d e := fun {c} h => by
    unfold eqD at h
    split at h
    · rename_i h1 h2
      cases h
      obtain ⟨k1, k2⟩ := datS_dp S rx h1
      obtain ⟨k3, k4⟩ := datS_dp S ry h2
      exact ⟨_, _, k1, k3, k2, k4, rfl⟩
    · cases h
  have inp : ∀ {c : Bool}, inD ih x y = some c → ∀ neg : Bool, (Q (.bl (if neg then !c else c)) H) → wpAny (model X.prog X.w) X.A (compareOp (if neg then .NotIn else .In) u u') (EP X pins σ Q) X.xe s := fun {c} h neg q => by
    unfold inD at h
    split at h
    · rename_i z
      split at h
      · rename_i k
        unfold strIn at h
        split at h
        · rename_i cc hc
          cases h
          have ek : k = ⟨#[cc]⟩ := by
            obtain ⟨cps⟩ := k
            have hc : cps.toList = [cc] := hc
            have : cps = #[cc] := by rw [← hc]
            rw [this]
          subst ek
          cases neg with
          | false => exact op_in_sign pins s σ H v w u u' Q I ru rw' ⟨cc, _, rx.str_, ry.str_, q⟩
          | true =>
            have e0 := rx.str_
            have e1 := ry.str_
            subst e0 e1
            exact op_notIn_sign pins s σ H _ _ u u' Q I ru rw' ⟨cc, z, rfl, rfl, q⟩
        · cases h
      · cases h
    · rename_i ys
      split at h
      · rename_i hf
        rw [Bool.and_eq_true] at hf
        cases h
        obtain ⟨b, ws, rfl, f2, f3⟩ := ry.tup_
        have hv := any_rep rx hf.1 f3 hf.2
        have e : inV v ws = ys.any fun z => D.eqv z x := hv
        cases neg with
        | false => exact op_in_seq pins s σ H v _ u u' Q I ru rw' ⟨b, ws, rfl, .inr f2.sq, flat_rep rx hf.1, flats_rep f3 hf.2, by rw [e]; exact q⟩
        | true => exact op_notIn_seq pins s σ H v _ u u' Q I ru rw' ⟨b, ws, rfl, .inr f2.sq, flat_rep rx hf.1, flats_rep f3 hf.2, by rw [e]; exact q⟩
      · cases h
    · split at h
      · rename_i h1 h2
        cases h
        obtain ⟨k1, k2⟩ := datS_dp S rx h1
        obtain ⟨k3, k4⟩ := datS_dp S ry h2
        cases neg with
        | false => exact op_inD hu pins s σ H v w u u' Q I ru rw' ⟨_, _, k1, k3, k2, k4, q⟩
        | true => exact op_notInD hu pins s σ H v w u u' Q I ru rw' ⟨_, _, k1, k3, k2, k4, q⟩
      · cases h
  unfold cmpop at hb
  cases o with
  | eq =>
    obtain ⟨d, e, k1, k2, k3, k4, rfl⟩ := eqp hb
    exact op_eqD hu' pins s σ H v w u u' Q I ru rw' ⟨d, e, k1, k2, k3, k4, q⟩
  | ne =>
    obtain ⟨c0, h0, rfl⟩ := Option.map_eq_some_iff.mp hb
    obtain ⟨d, e, k1, k2, k3, k4, rfl⟩ := eqp h0
    exact op_neD hu' pins s σ H v w u u' Q I ru rw' ⟨d, e, k1, k2, k3, k4, q⟩
  | lt =>
    simp only at hb
    unfold ltD at hb
    split at hb
    · cases hb
      exact op_lt pins s σ H v w u u' Q I ru rw' ⟨_, _, rx.int_, ry.int_, q⟩
    · cases hb
      exact op_lt_str pins s σ H v w u u' Q I ru rw' ⟨_, _, rx.str_, ry.str_, q⟩
    · split at hb
      · rename_i h1 h2
        cases hb
        obtain ⟨a, vs, rfl, e2, e3⟩ := rx.tup_
        obtain ⟨b, ws, rfl, f2, f3⟩ := ry.tup_
        have ea := e3.all_int (intsOf_eq h1)
        have eb := f3.all_int (intsOf_eq h2)
        subst ea eb
        exact op_ltT (by omega) pins s σ H _ _ u u' Q I ru rw' ⟨a, b, _, _, rfl, rfl, e2.sq, f2.sq, q⟩
      · cases hb
    · cases hb
  | gt =>
    simp only at hb
    split at hb
    · cases hb
      exact op_gt pins s σ H v w u u' Q I ru rw' ⟨_, _, rx.int_, ry.int_, q⟩
    · cases hb
  | le =>
    simp only at hb
    split at hb
    · cases hb
      exact op_le pins s σ H v w u u' Q I ru rw' ⟨_, _, rx.int_, ry.int_, q⟩
    · cases hb
  | ge =>
    simp only at hb
    split at hb
    · cases hb
      exact op_ge pins s σ H v w u u' Q I ru rw' ⟨_, _, rx.int_, ry.int_, q⟩
    · cases hb
  | isIn => exact inp hb false q
  | notIn =>
    obtain ⟨c0, h0, rfl⟩ := Option.map_eq_some_iff.mp hb
    exact inp h0 true q
  | is_ =>
    simp only at hb
    split at hb
    · cases hb
      have e : (decide (v = .non)) = decide (x = .non) := by
        cases x with
        | non => rw [rx.non_]; rfl
        | bl _ => rw [rx.bl_]; rfl
        | int _ => rw [rx.int_]; rfl
        | str _ => rw [rx.str_]; rfl
        | tup _ => obtain ⟨a, _, rfl, _⟩ := rx.tup_; rfl
        | ref _ => obtain ⟨a, rfl, _⟩ := rx.ref_; rfl
        | rol _ => obtain ⟨a, _, rfl, _⟩ := rx.rol_; rfl
      exact op_isN pins s σ H v w u u' Q I ru rw' ⟨ry.non_, by rw [e]; exact q⟩
    · cases hb
      exact op_is_bl pins s σ H v w u u' Q I ru rw' ⟨_, _, rx.bl_, ry.bl_, q⟩
    · cases hb
  | isNot =>
    simp only at hb
    split at hb
    · cases hb
      have e : (decide (v = .non)) = decide (x = .non) := by
        cases x with
        | non => rw [rx.non_]; rfl
        | bl _ => rw [rx.bl_]; rfl
        | int _ => rw [rx.int_]; rfl
        | str _ => rw [rx.str_]; rfl
        | tup _ => obtain ⟨a, _, rfl, _⟩ := rx.tup_; rfl
        | ref _ => obtain ⟨a, rfl, _⟩ := rx.ref_; rfl
        | rol _ => obtain ⟨a, _, rfl, _⟩ := rx.rol_; rfl
      exact op_notN pins s σ H v w u u' Q I ru rw' ⟨ry.non_, by rw [e]; exact q⟩
    · cases hb
      exact op_isnot_bl pins s σ H v w u u' Q I ru rw' ⟨_, _, rx.bl_, ry.bl_, q⟩
    · cases hb
end
end CP
set_option maxRecDepth 100000
set_option maxHeartbeats 4000000
/-! Items, slices, built-in functions, methods -/
namespace CP
open PySem PySem.Spec PyProof.Rows L2 GxR

section
variable {X : Cx} {T : List Addr}
def rIx (K : PySem.W.Frag) (T : List Addr) : R2 := fun v w H Q => ∃ μ ih x y d, StRel K T μ ih H ∧ Rep K H μ x v ∧ Rep K H μ y w ∧ ixop ih x y = some d ∧ ∀ u, Rep K H μ d u → Q u H
theorem ix_all : IxR X (rIx X.K T) := by
  intro value slice pins s σ H v w u u' Q I ru rw' h hs
  obtain ⟨μ, ih, x, y, d, S, rx, ry, hb, q⟩ := h
  unfold ixop at hb
  split at hb
  · rename_i i
    split at hb
    · obtain ⟨a, vs, rfl, e2, e3⟩ := rx.tup_
      obtain ⟨z, hz, rz⟩ := atI_rep e3 hb
      exact ix_tup value slice pins s σ H _ _ u u' Q I ru rw' ⟨a, vs, i, z, rfl, ry.int_, e2.sq, hz, q _ rz⟩ hs
    · split at hb
      · rename_i hl
        obtain ⟨c, hc, rfl⟩ := Option.map_eq_some_iff.mp hb
        exact ix_str value slice pins s σ H _ _ u u' Q I ru rw' ⟨_, i, c, rx.str_, ry.int_, hl, hc, q _ rep_str⟩ hs
      · cases hb
    · obtain ⟨ds, h1, h2⟩ := Option.bind_eq_some_iff.mp hb
      obtain ⟨a, vs, rfl, e2, e3⟩ := lst_of S rx h1
      obtain ⟨z, hz, rz⟩ := atI_rep e3 h2
      exact ix_list value slice pins s σ H _ _ u u' Q I ru rw' ⟨a, vs, i, z, rfl, ry.int_, e2, hz, q _ rz⟩ hs
  · cases hb
def rSl (K : PySem.W.Frag) (T : List Addr) : V → Option Int → Option Int → Hp → VK → Prop := fun v lo hi H Q => ∃ μ ih x d ih', StRel K T μ ih H ∧ Rep K H μ x v ∧ slop ih x lo hi = some (d, ih') ∧ Then K T H μ d ih' Q
theorem sl_all : SlR X (rSl X.K T) := by
  intro pins s σ H v u vl vu lo hi sl Q I ru hs pl pu h
  obtain ⟨μ, ih, x, d, ih', S, rx, hb, q⟩ := h
  unfold slop at hb
  split at hb
  · rename_i xs
    cases hb
    obtain ⟨a, vs, rfl, e2, e3⟩ := rx.tup_
    refine TF.sl_tupF pins s σ H _ u vl vu lo hi sl Q I ru hs pl pu ⟨a, vs, rfl, e2.sq, fun hw => ?_, fun _ => q.newT S (cut_rep e3)⟩
    have e : cutL xs lo hi = xs := by
      unfold cutL
      rw [← e3.length]
      rw [hw.1, hw.2, e3.length]
      simp
    rw [e] at q
    exact q.same S rx
  · split at hb
    · rename_i hl
      cases hb
      exact sl_str pins s σ H _ u vl vu lo hi sl Q I ru hs pl pu ⟨_, rx.str_, hl, q.same S rep_str⟩
    · cases hb
  · obtain ⟨ds, h1, h2⟩ := Option.map_eq_some_iff.mp hb
    cases h2
    obtain ⟨a, vs, rfl, e2, e3⟩ := lst_of S rx h1
    exact sl_list pins s σ H _ u vl vu lo hi sl Q I ru hs pl pu ⟨a, vs, rfl, e2, fun p hp => q.newL S (cut_rep e3) p hp⟩

/-! ### built-in functions -/
def Blt.name : Blt → Str
  | .len => "len"
  | .int => "int"
  | .tuple => "tuple"
  | .list => "list"
  | .max2 => "max"
  | .min2 => "min"
  | .sum => "sum"
  | .any => "any"
  | .all => "all"
  | .sorted => "sorted"
  | .sortR => "sorted"
  | .ssort => "sorted"
  | .abs => "abs"
  | .str => "str"
def Blt.ty : Blt → Bool
  | .int => true
  | .tuple => true
  | .list => true
  | .str => true
  | _ => false
def Blt.id : Blt → String
  | .len => "len"
  | .int => "int"
  | .tuple => "tuple"
  | .list => "list"
  | .max2 => "max"
  | .min2 => "min"
  | .sum => "sum"
  | .any => "any"
  | .all => "all"
  | .sorted => "sorted"
  | .sortR => "sorted"
  | .ssort => "sorted"
  | .abs => "abs"
  | .str => "str"
def Blt.val (f : Blt) : Value := if f.ty then .type f.id else .builtin f.id
theorem Blt.boot (f : Blt) : bootBuiltins f.name = some f.val := by cases f <;> decide +kernel
theorem Blt.ne1 (f : Blt) : f.name ≠ "__name__" := by cases f <;> decide
theorem Blt.ne2 (f : Blt) : (f.name == ("__debug__" : Str)) = false := by cases f <;> decide
def ins_perm (x : Int) : ∀ ys : List Int, (ins x ys).Perm (x :: ys)
  | [] => .refl _
  | y :: ys => by
    unfold ins
    split
    · exact .refl _
    · exact ((ins_perm x ys).cons y).trans (.swap x y ys)
theorem isort_perm : ∀ xs : List Int, (isort xs).Perm xs
  | [] => .refl _
  | x :: xs => by unfold isort; exact (ins_perm x _).trans ((isort_perm xs).cons x)
theorem ins_mem {x z : Int} {ys : List Int} (h : z ∈ ins x ys) : z = x ∨ z ∈ ys := List.mem_cons.mp ((ins_perm x ys).mem_iff.mp h)
theorem ins_sorted (x : Int) : ∀ ys : List Int, ys.Pairwise (· ≤ ·) → (ins x ys).Pairwise (· ≤ ·)
  | [], _ => by unfold ins; simp
  | y :: ys, h => by
    obtain ⟨h1, h2⟩ := List.pairwise_cons.mp h
    unfold ins
    split
    · rename_i c
      exact List.pairwise_cons.mpr ⟨fun z hz => (List.mem_cons.mp hz).elim (fun e => e ▸ c) (fun m => Int.le_trans c (h1 z m)), h⟩
    · rename_i c
      exact List.pairwise_cons.mpr ⟨fun z hz => (ins_mem hz).elim (fun e => by omega) (h1 z), ins_sorted x ys h2⟩
theorem isort_sorted : ∀ xs : List Int, (isort xs).Pairwise (· ≤ ·)
  | [] => .nil
  | x :: xs => by unfold isort; exact ins_sorted x _ (isort_sorted xs)
theorem isort_only {xs ys : List Int} (p : ys.Perm xs) (s : ys.Pairwise (· ≤ ·)) : ys = isort xs :=
  List.Perm.eq_of_pairwise (fun _ _ _ _ a b => Int.le_antisymm a b) s (isort_sorted xs) (p.trans (isort_perm xs).symm)
def rBlt (K : PySem.W.Frag) (T : List Addr) (f : Blt) : List V → Hp → VK → Prop := fun vs H Q => ∃ μ ih ds d ih', StRel K T μ ih H ∧ Reps K H μ ds vs ∧ bltop f ih ds = some (d, ih') ∧ Then K T H μ d ih' Q
theorem Reps.one {K : PySem.W.Frag} {H : Hp} {μ : List Addr} {x : D} {vs : List V} (r : Reps K H μ [x] vs) : ∃ v, vs = [v] ∧ Rep K H μ x v := by
  unfold Reps at r
  obtain ⟨v, q, rfl, e2, e3⟩ := r
  unfold Reps at e3
  subst e3
  exact ⟨v, rfl, e2⟩
theorem Reps.two {K : PySem.W.Frag} {H : Hp} {μ : List Addr} {x y : D} {vs : List V} (r : Reps K H μ [x, y] vs) : ∃ v w, vs = [v, w] ∧ Rep K H μ x v ∧ Rep K H μ y w := by
  unfold Reps at r
  obtain ⟨v, q, rfl, e2, e3⟩ := r
  obtain ⟨w, rfl, e4⟩ := e3.one
  exact ⟨v, w, rfl, e2, e4⟩
theorem call_blt (f : Blt) (hc : X.calm = true) : CallR X f.val (rBlt X.K T f) := by
  intro pins s σ H vs us Q I rv h
  obtain ⟨μ, ih, ds, d, ih', S, r, hb, q⟩ := h
  unfold bltop at hb
  split at hb
  · rename_i x
    obtain ⟨v, rfl, rx⟩ := r.one
    unfold blt1 at hb
    cases f with
    | len =>
      simp only at hb
      split at hb
      · split at hb
        · rename_i hl
          cases hb
          exact call_len_str pins s σ H _ us Q I rv ⟨_, by rw [rx.str_], hl, q.same S rep_int⟩
        · cases hb
      · obtain ⟨xs, h1, h2⟩ := Option.map_eq_some_iff.mp hb
        cases h2
        obtain ⟨a, ws, rfl, e2, e3⟩ := seq_of S rx h1
        refine call_len_seq pins s σ H _ us Q I rv ⟨a, ws, rfl, e2, ?_⟩
        rw [e3.length]
        exact q.same S rep_int
    | int =>
      simp only at hb
      split at hb
      · cases hb
        exact call_int1 pins s σ H _ us Q I rv (.inl ⟨_, by rw [rx.int_], q.same S rep_int⟩)
      · cases hb
        exact call_int1 pins s σ H _ us Q I rv (.inr ⟨_, by rw [rx.bl_], q.same S rep_int⟩)
      · split at hb
        · rename_i hl
          obtain ⟨n, h1, h2⟩ := Option.map_eq_some_iff.mp hb
          cases h2
          exact call_int_str pins s σ H _ us Q I rv ⟨_, n, by rw [rx.str_], h1, hl, q.same S rep_int⟩
        · cases hb
      · cases hb
    | tuple =>
      simp only at hb
      split at hb
      · cases hb
        obtain ⟨a, ws, rfl, e2, e3⟩ := rx.tup_
        exact call_tuple_of pins s σ H _ us Q I rv ⟨a, ws, rfl, .inr ⟨e2.sq, q.same S rx⟩⟩
      · obtain ⟨xs, h1, h2⟩ := Option.map_eq_some_iff.mp hb
        cases h2
        obtain ⟨a, ws, rfl, e2, e3⟩ := lst_of S rx h1
        exact TF.call_tupleF pins s σ H _ us Q I rv ⟨a, ws, rfl, e2, q.newT S e3⟩
    | list =>
      obtain ⟨xs, h1, h2⟩ := Option.map_eq_some_iff.mp hb
      cases h2
      obtain ⟨a, ws, rfl, e2, e3⟩ := seq_of S rx h1
      exact call_list_of pins s σ H _ us Q I rv ⟨a, ws, rfl, e2, fun p hp => q.newL S e3 p hp⟩
    | sum =>
      obtain ⟨ns, h1, h2⟩ := Option.map_eq_some_iff.mp hb
      obtain ⟨xs, h3, h4⟩ := Option.bind_eq_some_iff.mp h1
      cases h2
      obtain ⟨a, ws, rfl, e2, e3⟩ := lst_of S rx h3
      have e := e3.all_int (intsOf_eq h4)
      subst e
      exact cr_sum hc pins s σ H _ us Q I rv ⟨a, ns, rfl, e2, q.same S rep_int⟩
    | any =>
      obtain ⟨ns, h1, h2⟩ := Option.map_eq_some_iff.mp hb
      obtain ⟨xs, h3, h4⟩ := Option.bind_eq_some_iff.mp h1
      cases h2
      obtain ⟨a, ws, rfl, e2, e3⟩ := lst_of S rx h3
      have e := e3.all_bl (boolsOf_eq h4)
      subst e
      exact cr_any hc pins s σ H _ us Q I rv ⟨a, ns, rfl, e2, q.same S rep_bl⟩
    | all =>
      obtain ⟨ns, h1, h2⟩ := Option.map_eq_some_iff.mp hb
      obtain ⟨xs, h3, h4⟩ := Option.bind_eq_some_iff.mp h1
      cases h2
      obtain ⟨a, ws, rfl, e2, e3⟩ := lst_of S rx h3
      have e := e3.all_bl (boolsOf_eq h4)
      subst e
      exact cr_all hc pins s σ H _ us Q I rv ⟨a, ns, rfl, e2, q.same S rep_bl⟩
    | sorted =>
      obtain ⟨ns, h1, h2⟩ := Option.map_eq_some_iff.mp hb
      obtain ⟨xs, h3, h4⟩ := Option.bind_eq_some_iff.mp h1
      cases h2
      unfold sortD at h4
      obtain ⟨ms, h5, rfl⟩ := Option.map_eq_some_iff.mp h4
      obtain ⟨a, ws, rfl, e2, e3⟩ := lst_of S rx h3
      have e := e3.all_int (intsOf_eq h5)
      subst e
      refine cr_sortedI pins s σ H _ us Q I rv ⟨a, ms, rfl, e2, fun ns' p pp ps hp => ?_⟩
      rw [isort_only pp ps]
      exact q.newL S reps_ints p hp
    | abs =>
      simp only at hb
      split at hb
      · cases hb
        exact call_abs pins s σ H _ us Q I rv ⟨_, by rw [rx.int_], q.same S rep_int⟩
      · cases hb
    | str =>
      simp only at hb
      split at hb
      · split at hb
        · rename_i hl
          cases hb
          exact call_str_int pins s σ H _ us Q I rv ⟨_, by rw [rx.int_], hl, q.same S rep_str⟩
        · cases hb
      · cases hb
        exact SkE.call_str_str pins s σ H _ us Q I rv ⟨_, by rw [rx.str_], q.same S rep_str⟩
      · cases hb
    | max2 => cases hb
    | min2 => cases hb
    | sortR => cases hb
    | ssort => cases hb
  · rename_i x y
    obtain ⟨v, w, rfl, rx, ry⟩ := r.two
    unfold blt2 at hb
    split at hb
    · cases hb
      exact call_max2 hc pins s σ H _ us Q I rv ⟨_, _, by rw [rx.int_, ry.int_], q.same S rep_int⟩
    · cases hb
      exact call_min2 hc pins s σ H _ us Q I rv ⟨_, _, by rw [rx.int_, ry.int_], q.same S rep_int⟩
    · cases hb
  · cases hb

/-! ### isinstance -/
def tyOk (t : String) : Bool := t == "int" || t == "bool" || t == "str" || t == "tuple" || t == "list" || t == "dict" || t == "set"
theorem kit_all {a t : String} (ha : a = "NoneType" ∨ a = "bool" ∨ a = "int" ∨ a = "str" ∨ a = "tuple" ∨ a = "list") (ht : tyOk t = true) : kitB a t = some (a == t || (a == "bool" && t == "int")) := by
  have ht' : t = "int" ∨ t = "bool" ∨ t = "str" ∨ t = "tuple" ∨ t = "list" ∨ t = "dict" ∨ t = "set" := by
    unfold tyOk at ht
    simp only [Bool.or_eq_true, beq_iff_eq] at ht
    rcases ht with ((((((h | h) | h) | h) | h) | h) | h) <;> simp [h]
  rcases ha with rfl | rfl | rfl | rfl | rfl | rfl <;> rcases ht' with rfl | rfl | rfl | rfl | rfl | rfl | rfl <;> decide +kernel
theorem ty_of {μ : List Addr} {ih : IH} {H : Hp} {d : D} {v : V} {t : String} (S : StRel X.K T μ ih H) (r : Rep X.K H μ d v) (h : tyOf ih d = some t) : TyX X.K H v (.type t) ∧ (t = "NoneType" ∨ t = "bool" ∨ t = "int" ∨ t = "str" ∨ t = "tuple" ∨ t = "list") := by
  unfold tyOf at h
  split at h
  · cases h; rw [r.non_]; exact ⟨.base .non, by simp⟩
  · cases h; rw [r.bl_]; exact ⟨.base (.bl _), by simp⟩
  · cases h; rw [r.int_]; exact ⟨.base (.int _), by simp⟩
  · cases h; rw [r.str_]; exact ⟨.base (.str _), by simp⟩
  · cases h
    obtain ⟨a, vs, rfl, e2, e3⟩ := r.tup_
    refine ⟨?_, by simp⟩
    rcases e2 with ⟨o, e, _⟩ | ⟨o, its, n, h1, h2, _⟩
    · exact .fTuple e
    · exact .kTuple h1 h2
  · cases h
    obtain ⟨a, vs, rfl, e2, e3⟩ := r.rol_
    refine ⟨?_, by simp⟩
    rcases e2 with ⟨o, e⟩ | ⟨o, its, n, h1, h2, _⟩
    · exact .base (.frz e)
    · exact .kList h1 h2
  · obtain ⟨xs, h1, h2⟩ := Option.map_eq_some_iff.mp h
    cases h2
    obtain ⟨a, vs, rfl, _, _, e2, _⟩ := ref_lst S r h1
    exact ⟨.base (.lst e2), by simp⟩
def rIsiD (K : PySem.W.Frag) (T : List Addr) (t : String) : List V → Hp → VK → Prop := fun vs H Q => ∃ μ ih x v b, vs = [v, .ty t] ∧ StRel K T μ ih H ∧ Rep K H μ x v ∧ isiD ih x t = some b ∧ Q (.bl b) H
theorem call_isiD (t : String) (ht : tyOk t = true) : CallR X (.builtin "isinstance") (rIsiD X.K T t) := by
  intro pins s σ H vs us Q I rv h
  obtain ⟨μ, ih, x, v, b, rfl, S, r, hb, q⟩ := h
  unfold isiD at hb
  obtain ⟨a, h1, rfl⟩ := Option.map_eq_some_iff.mp hb
  obtain ⟨ty, ha⟩ := ty_of S r h1
  exact call_isi pins s σ H _ us Q I rv ⟨v, .ty t, .type a, .type t, _, rfl, .ty t, ty, kit_ty (kit_all ha ht), q⟩

/-! ### methods -/
def Mth.name : Mth → Str
  | .append => "append"
  | .count => "count"
  | .index => "index"
theorem mt_ty1 : typeOf (.builtin "list.append") = pure (.type "method_descriptor") := by show builtinType _ = _; rw [builtinType_eq_fast]; kernel_rfl
theorem mt_ty2 : typeOf (.builtin "list.count") = pure (.type "method_descriptor") := by show builtinType _ = _; rw [builtinType_eq_fast]; kernel_rfl
theorem mt_ty3 : typeOf (.builtin "tuple.count") = pure (.type "method_descriptor") := by show builtinType _ = _; rw [builtinType_eq_fast]; kernel_rfl
theorem mt_ty4 : typeOf (.builtin "tuple.index") = pure (.type "method_descriptor") := by show builtinType _ = _; rw [builtinType_eq_fast]; kernel_rfl
/-- a value's method: its type, the rule -/
def MU (X : Cx) (name : Str) (x : V) (H : Hp) (r : V → List V → Hp → VK → Prop) : Prop :=
  ∃ T id, PlainAttrs T ∧ Slot T name id ∧ typeOf (.builtin id) = pure (.type "method_descriptor") ∧ MtR X id r ∧
    ∀ (pins : List (Addr × Obj)) (s : Shared) (σ : L2.St) (v : Value), Inv X pins σ H s → RelV x v → s.TypeIs v T ∧ ∀ a, v = .ref a → ∃ ob, s.heap.get? a = some ob ∧ ob.dict = none
theorem pe_bmU {o e : Expr} {es : List Expr} {name : Str} {apos cpos : Pos} {to : TE} {t : TA} (ho : PE X o to) (ha : PA X (e :: es) t)
    (hbase : attributeBase o name X.env (eval o X.env) = eval o X.env)
    (hfew : ((backTo cpos (starEach (e :: es) X.env)).all (fun x => !x.1) && (backToKw cpos (keywordEach [] X.env)).all (fun x => x.1.isSome)
      && decide ((e :: es).length + ([] : List Keyword).length + (if ([] : List Keyword).isEmpty then 0 else 1) < 30)) = true)
    (hline : (apos.endLine == cpos.line) = true) (hs : starEach (e :: es) X.env = (false, eval e X.env) :: starEach es X.env) (hplain : (backTo cpos (starEach es X.env)).any (·.1) = false) :
    PE X (.Call (.Attribute o name apos) (e :: es) [] cpos) (fun σ H Q => to σ H fun x H1 => ∃ r, MU X name x H1 r ∧ t σ H1 fun vs H2 => r x vs H2 Q) := by
  refine ⟨fun pins s σ H Q I h => ?_⟩
  refine wpAny_Call_method_late hbase hfew hline rfl (thn (ho.run pins s σ H _ I h) fun v s1 ⟨x, H1, I1, r1, r, ⟨T, id, pa, slot, hty, hm, is⟩, q1⟩ => ?_)
  obtain ⟨h1, h2⟩ := is pins s1 σ v I1 r1
  refine ⟨T, id, pa, slot, hty, h1, h2, ?_⟩
  have hA := ha.run cpos pins s1 σ H1 _ I1 q1
  rw [hs] at hA ⊢
  refine Calls.callWith_builtin (by show (false || (backTo cpos (starEach es X.env)).any (·.1)) = false; rw [hplain] <;> rfl) (Calls.evalArgs_plain ?_)
  exact thn hA fun us s2 ⟨vs, H2, I2, r2, q2⟩ => hm pins s2 σ H2 x vs v us Q I2 r1 r2 q2
theorem mu_list {name : Str} {id : String} {a : Addr} {vs : List V} {H : Hp} {r : V → List V → Hp → VK → Prop} (sl : Slot "list" name id) (hty : typeOf (.builtin id) = pure (.type "method_descriptor")) (hm : MtR X id r) (h : SqL X.K H a vs) : MU X name (.ref a) H r :=
  ⟨"list", id, PySem.F.plainAttrs_list, sl, hty, hm, fun pins s σ v I rv => tyV_is I rv (.inl ⟨rfl, vs, h⟩)⟩
theorem mu_tup {name : Str} {id : String} {a : Addr} {vs : List V} {H : Hp} {r : V → List V → Hp → VK → Prop} (sl : Slot "tuple" name id) (hty : typeOf (.builtin id) = pure (.type "method_descriptor")) (hm : MtR X id r) (h : ST X.K H a vs) : MU X name (.ref a) H r :=
  ⟨"tuple", id, PySem.F.plainAttrs_tuple, sl, hty, hm, fun pins s σ v I rv => by
    cases rv
    obtain ⟨its, n, sl, hob, _, _⟩ := TF.PT1.obj I h
    exact ⟨⟨_, hob, rfl⟩, fun b eb => by cases eb; exact ⟨_, hob, rfl⟩⟩⟩
/-- which method a value has -/
theorem idx_rep {K : PySem.W.Frag} {H : Hp} {μ : List Addr} {x : D} {w : V} (q : Rep K H μ x w) (hx : flatD x = true) {ds : List D} {vs : List V} {j : Nat} (r : Reps K H μ ds vs) (hf : ds.all flatD = true) (h : idxD x ds = some j) :
    ∃ z, vs[j]? = some z ∧ eqV z w = true ∧ ∀ (m : Nat) z', m < j → vs[m]? = some z' → eqV z' w = false := by
  unfold idxD at h
  obtain ⟨hj, h1, h2⟩ := List.findIdx?_eq_some_iff_getElem.mp h
  have fl : ∀ (i : Nat) (hi : i < ds.length), flatD ds[i] = true := fun i hi => List.all_eq_true.mp hf _ (List.getElem_mem hi)
  obtain ⟨z, e1, e2⟩ := r.get (List.getElem?_eq_getElem hj)
  refine ⟨z, e1, by rw [eqv_rep e2 q (fl j hj) hx]; exact h1, fun m z' hm hz => ?_⟩
  obtain ⟨d, e3, e4⟩ := r.getV hz
  have hml : m < ds.length := by omega
  rw [List.getElem?_eq_getElem hml] at e3
  cases e3
  rw [eqv_rep e4 q (fl m hml) hx]
  have := h2 m hm
  simpa using this
end
end CP
set_option maxRecDepth 100000
set_option maxHeartbeats 4000000
/-! The checker: that a text of mine is that expression -/
namespace CP
open PySem PySem.Spec PyProof.Rows L2 GxR

structure SE where
  sc : Scope
  N : List Str
  gen : Bool
  st : Option Scope
/-- what all defs share: the module's constants, the defs with their numbers of parameters -/
structure GE where
  globs : List (Str × D)
  funs : List (Str × Nat)
def okName (x : Str) : Bool := !(x == ("__debug__" : Str)) && !(x == ("__classdict__" : Str))
def visC (se : SE) (x : Str) : Bool := match se.sc.names.lookup x with
  | some .local => true
  | some .cell => true
  | some .free => true
  | _ => false
def storeC (se : SE) (x : Str) : Bool := match se.sc.names.lookup x with
  | some .local => true
  | some .cell => match se.st with
    | none => true
    | some s => s.names.lookup x == some .cell
  | _ => false
def glC (se : SE) (x : Str) : Bool := match se.sc.names.lookup x with
  | some .globalImplicit => true
  | _ => false
def litC : D → Const → Bool
  | .non, .none => true
  | .bl b, .bool c => b == c
  | .int i, .int j => decide (i = j)
  | .str x, .str y => decide (x = y)
  | _, _ => false
def notStar : Expr → Bool
  | .Starred .. => false
  | _ => true
def notSlice : Expr → Bool
  | .Slice .. => false
  | _ => true
def notSet : Expr → Bool
  | .Set .. => false
  | .List .. => false
  | _ => true
def notCall0 : Expr → Bool
  | .Call _ [] _ _ => false
  | _ => true
def ownL (N : List Str) (own : List Nat) : List (Str × Nat) := own.map fun i => ((N[i]?).getD "", i)
def tyC : String → Str → Bool
  | "int", y => y == ("int" : Str)
  | "bool", y => y == ("bool" : Str)
  | "str", y => y == ("str" : Str)
  | "tuple", y => y == ("tuple" : Str)
  | "list", y => y == ("list" : Str)
  | "dict", y => y == ("dict" : Str)
  | "set", y => y == ("set" : Str)
  | _, _ => false
def nameC (se : SE) (i : Nat) : Expr → Bool
  | .Name x _ => storeC se x && decide (se.N[i]? = some x)
  | _ => false
def namesC (se : SE) : List Nat → List Expr → Bool
  | [], [] => true
  | i :: is, e :: es => nameC se i e && namesC se is es
  | _, _ => false
def trG (se : SE) : MT → Expr → Bool
  | .name i, e => nameC se i e
  | .tup is, e => match e with
    | .Tuple es _ _ => namesC se is es
    | _ => false
def MT.ids : MT → List Nat
  | .name i => [i]
  | .tup is => is
def MT.isTup : MT → Bool
  | .name _ => false
  | .tup _ => true
def isTupE : Expr → Bool
  | .Tuple .. => true
  | _ => false
def MI.weak : MI → Bool
  | .zip _ _ => true
  | .zip3 _ _ _ => true
  | .enum _ => true
  | _ => false
def SE.blk (se : SE) (scope : Scope) : SE := { se with sc := relS scope se.sc, st := some scope }
def SE.gx (se : SE) (scope : Scope) : SE := { se with sc := scope, gen := false, st := some scope }
def gokC (N : List Str) (sc scope : Scope) (own : List (Str × Nat)) : Bool :=
  blkC N sc scope own && !scope.isCoroutine && (scope.names.all fun y => match y.2 with
    | .cell => false
    | _ => true) && decide (scope.names.lookup (".0" : Str) = some NameKind.local)
theorem gok_by {N : List Str} {sc scope : Scope} {own : List (Str × Nat)} (h : gokC N sc scope own = true) : GA.GOk N sc scope own := by
  unfold gokC at h
  simp only [Bool.and_eq_true, Bool.not_eq_true', List.all_eq_true, decide_eq_true_eq] at h
  obtain ⟨⟨⟨h1, h2⟩, h3⟩, h4⟩ := h
  have b := blkOk_by h1
  refine ⟨b.kind, h2, fun y hy e => ?_, h4, b.uniq, b.ix, b.free, fun y hy e => b.own y hy (.inl e)⟩
  have := h3 y hy
  rw [e] at this
  cases this
mutual
def trE (G : GE) (se : SE) : ME → Expr → Bool
  | .var i, e => match e with
    | .Name x _ => visC se x && okName x && decide (se.N[i]? = some x)
    | _ => false
  | .lit d, e => match e with
    | .Constant c _ _ => litC d c
    | _ => false
  | .glob x d, e => match e with
    | .Name y _ => decide (y = x) && okName y && glC se y && decide (G.globs.lookup y = some d)
    | _ => false
  | .bin o a b, e => match e with
    | .BinOp l op r _ => decide (op = o.op) && trE G se a l && trE G se b r
    | _ => false
  | .cmp o a b, e => match e with
    | .Compare l [op] [r] _ => decide (op = o.op) && !behindInMarks op r && trE G se a l && trE G se b r
    | _ => false
  | .chain o p a b c, e => match e with
    | .Compare l [op, op'] [r, q] _ => decide (op = o.op) && decide (op' = p.op) && !lastMarks [op, op'] [r, q] && trE G se a l && trE G se b r && trE G se c q
    | _ => false
  | .not a, e => match e with
    | .UnaryOp .Not x _ => trE G se a x
    | _ => false
  | .neg a, e => match e with
    | .UnaryOp .USub x _ => trE G se a x
    | _ => false
  | .and es, e => match e with
    | .BoolOp .And vs _ => trEs G se es vs
    | _ => false
  | .or es, e => match e with
    | .BoolOp .Or vs _ => trEs G se es vs
    | _ => false
  | .ite c a b, e => match e with
    | .IfExp t x y _ => trE G se c t && trE G se a x && trE G se b y
    | _ => false
  | .tup es, e => match e with
    | .Tuple vs _ _ => trEs G se es vs
    | _ => false
  | .lst es, e => match e with
    | .List vs _ => trEs G se es vs
    | _ => false
  | .ix a b, e => match e with
    | .Subscript l r _ => notSlice r && trE G se a l && trE G se b r
    | _ => false
  | .sl a lo hi, e => match e with
    | .Subscript l (.Slice x y none _) _ => trE G se a l && trO G se lo x && trO G se hi y
    | _ => false
  | .call f es, e => match e with
    | .Call (.Name x _) (v :: vs) [] _ => decide (x = f) && okName x && glC se x && decide (G.funs.lookup x = some (v :: vs).length) && trEs G se es (v :: vs)
    | _ => false
  | .blt f es, e => match e with
    | .Call (.Name x _) (v :: vs) [] _ => decide (x = f.name) && glC se x && trEs G se es (v :: vs)
    | _ => false
  | .meth m a es, e => match e with
    | .Call (.Attribute o name apos) [v] [] cpos => decide (name = m.name) && notCall0 o && (apos.endLine == cpos.line) && trE G se a o && trEs G se es [v]
    | _ => false
  | .isi a t, e => match e with
    | .Call (.Name x _) [v, .Name y _] [] _ => decide (x = ("isinstance" : Str)) && glC se x && glC se y && tyC t y && notStar v && trE G se a v
    | _ => false
  | .comp elt tg it ifs own, e => match e with
    | .ListComp el [⟨t, i, fs, as⟩] scope _ => decide (as = 0) && notSet i && blkC se.N se.sc scope (ownL se.N own) && (!it.weak || (tg.isTup && isTupE t)) && tg.ids.all (fun j => decide (j ∈ own)) && trI G se it i && trG (se.blk scope) tg t && trT G (se.blk scope) ifs fs && trE G (se.blk scope) elt el
    | _ => false
  | .gen k elt tg it ifs own, e => match e with
    | .Call (.Name x _) [.GeneratorExp el [⟨t, i, fs, as⟩] scope _] [] _ => decide (x = GA.fnName k) && glC se x && se.gen && decide (as = 0) && notSet i && gokC se.N se.sc scope (ownL se.N own) && (!it.weak || (tg.isTup && isTupE t)) && tg.ids.all (fun j => decide (j ∈ own)) && trI G se it i && trG (se.gx scope) tg t && trT G (se.gx scope) ifs fs && trE G (se.gx scope) elt el
    | _ => false
def trEs (G : GE) (se : SE) : MEs → List Expr → Bool
  | .nil, es => es.isEmpty
  | .cons m ms, es => match es with
    | e :: es => notStar e && trE G se m e && trEs G se ms es
    | [] => false
def trO (G : GE) (se : SE) : MO → Option Expr → Bool
  | .no, e => e.isNone
  | .yes m, e => match e with
    | some e => trE G se m e
    | none => false
def trT (G : GE) (se : SE) : MO → List Expr → Bool
  | .no, es => es.isEmpty
  | .yes m, es => match es with
    | [e] => trE G se m e
    | _ => false
def trI (G : GE) (se : SE) : MI → Expr → Bool
  | .val m, e => trE G se m e
  | .range ms, e => match e with
    | .Call (.Name x _) es [] _ => decide (x = ("range" : Str)) && glC se x && (es.length == 1 || es.length == 2) && trEs G se ms es
    | _ => false
  | .zip a b, e => match e with
    | .Call (.Name x _) [l, r] [] _ => decide (x = ("zip" : Str)) && glC se x && notStar l && notStar r && trE G se a l && trE G se b r
    | _ => false
  | .zip3 _ _ _, _ => false
  | .enum _, _ => false
  | .rev _, _ => false
end

/-! ### readings -/
def rdE (K : PySem.W.Frag) (T : List Addr) (f : IEnv → IH → Option (D × IH)) : TE := fun σ H Q => ∃ μ env ih d ih', StRel K T μ ih H ∧ EnvRel K H μ env σ ∧ f env ih = some (d, ih') ∧ Then K T H μ d ih' Q
def rdT (K : PySem.W.Frag) (T : List Addr) (f : IEnv → IH → Option (Bool × IH)) : TT := fun σ H Q => ∃ μ env ih b ih', StRel K T μ ih H ∧ EnvRel K H μ env σ ∧ f env ih = some (b, ih') ∧
  ∀ μ' H', μ <+: μ' → Ext H H' → StRel K T μ' ih' H' → Q b H'
def rdA (K : PySem.W.Frag) (T : List Addr) (f : IEnv → IH → Option (List D × IH)) : TA := fun σ H Q => ∃ μ env ih ds ih', StRel K T μ ih H ∧ EnvRel K H μ env σ ∧ f env ih = some (ds, ih') ∧
  ∀ μ' H' vs, μ <+: μ' → Ext H H' → StRel K T μ' ih' H' → Reps K H' μ' ds vs → Q vs H'
def rdO (K : PySem.W.Frag) (T : List Addr) (f : IEnv → IH → Option (Option Int × IH)) : TO := fun σ H Q => ∃ μ env ih o ih', StRel K T μ ih H ∧ EnvRel K H μ env σ ∧ f env ih = some (o, ih') ∧
  ∀ μ' H', μ <+: μ' → Ext H H' → StRel K T μ' ih' H' → Q o H'
/-- as a test -/
def asT (f : IEnv → IH → Option (D × IH)) : IEnv → IH → Option (Bool × IH) := fun env ih => match f env ih with
  | some (.bl b, ih1) => some (b, ih1)
  | _ => none
/-- an item of a walk: a new pair is not locked -/
def IRep (K : PySem.W.Frag) (weak : Bool) (H : Hp) (μ : List Addr) (d : D) (v : V) : Prop :=
  if weak then ∃ a vs ds, d = .tup ds ∧ v = .ref a ∧ SqT K H a vs ∧ Reps K H μ ds vs else Rep K H μ d v
/-- the walk J goes through w -/
def GoodIt (K : PySem.W.Frag) (T : List Addr) (J : It) (w : Walk) (weak : Bool) (μ0 : List Addr) (H0 : Hp) : Prop :=
  ∀ (i : Nat) (μ : List Addr) (ih : IH) (H : Hp), μ0 <+: μ → Ext H0 H → StRel K T μ ih H → w.ok ih = true →
    (w.items.length ≤ i → J.stop i H) ∧ ∀ d, w.items[i]? = some d → J.go i H ∧ ∀ x H', J.yld i H x H' → Ext H H' ∧ StRel K T μ ih H' ∧ IRep K weak H' μ d x
def rdI (K : PySem.W.Frag) (T : List Addr) (weak : Bool) (f : IEnv → IH → Option (Walk × IH)) : TI := fun σ H R => ∃ μ env ih w ih', StRel K T μ ih H ∧ EnvRel K H μ env σ ∧ f env ih = some (w, ih') ∧
  ∀ μ' H' J, μ <+: μ' → Ext H H' → StRel K T μ' ih' H' → GoodIt K T J w weak μ' H' → R J H'
def rdG (K : PySem.W.Frag) (T : List Addr) (weak : Bool) (t : MT) : TG := fun v σ H Q => ∃ μ env ih d env', StRel K T μ ih H ∧ EnvRel K H μ env σ ∧ IRep K weak H μ d v ∧ asgT t d env = some env' ∧
  ∀ σ', EnvRel K H μ env' σ' → (∀ vs, (∀ i ∈ t.ids, i ∈ vs) → wipe σ' vs = wipe σ vs) → Q σ' H
section
variable {K : PySem.W.Frag} {T : List Addr} {H H' : Hp} {μ μ' : List Addr} {ih ih' ih1 : IH} {env : IEnv} {σ : L2.St} {d x : D} {Q : VK}
theorem Then.step (t : Then K T H μ d ih' Q) (p : μ <+: μ') (e : Ext H H') : Then K T H' μ' d ih' Q := fun μ2 H2 v p2 e2 s r => t μ2 H2 v (p.trans p2) (e.trans e2) s r
theorem rdE.mk {f : IEnv → IH → Option (D × IH)} (S : StRel K T μ ih H) (E : EnvRel K H μ env σ) (e : f env ih = some (x, ih1))
    (k : ∀ μ1 H1 v, μ <+: μ1 → Ext H H1 → StRel K T μ1 ih1 H1 → EnvRel K H1 μ1 env σ → Rep K H1 μ1 x v → Q v H1) : rdE K T f σ H Q :=
  ⟨μ, env, ih, x, ih1, S, E, e, fun μ' H' v p x s r => k μ' H' v p x s (E.mono x p) r⟩
theorem rdT.mk {b : Bool} {Q : Bool → Hp → Prop} {f : IEnv → IH → Option (Bool × IH)} (S : StRel K T μ ih H) (E : EnvRel K H μ env σ) (e : f env ih = some (b, ih1))
    (k : ∀ μ1 H1, μ <+: μ1 → Ext H H1 → StRel K T μ1 ih1 H1 → EnvRel K H1 μ1 env σ → Q b H1) : rdT K T f σ H Q :=
  ⟨μ, env, ih, b, ih1, S, E, e, fun μ' H' p x s => k μ' H' p x s (E.mono x p)⟩
theorem rdA.mk {ds : List D} {Q : List V → Hp → Prop} {f : IEnv → IH → Option (List D × IH)} (S : StRel K T μ ih H) (E : EnvRel K H μ env σ) (e : f env ih = some (ds, ih1))
    (k : ∀ μ1 H1 vs, μ <+: μ1 → Ext H H1 → StRel K T μ1 ih1 H1 → EnvRel K H1 μ1 env σ → Reps K H1 μ1 ds vs → Q vs H1) : rdA K T f σ H Q :=
  ⟨μ, env, ih, ds, ih1, S, E, e, fun μ' H' v p x s r => k μ' H' v p x s (E.mono x p) r⟩
theorem rdO.mk {o : Option Int} {Q : Option Int → Hp → Prop} {f : IEnv → IH → Option (Option Int × IH)} (S : StRel K T μ ih H) (E : EnvRel K H μ env σ) (e : f env ih = some (o, ih1))
    (k : ∀ μ1 H1, μ <+: μ1 → Ext H H1 → StRel K T μ1 ih1 H1 → EnvRel K H1 μ1 env σ → Q o H1) : rdO K T f σ H Q :=
  ⟨μ, env, ih, o, ih1, S, E, e, fun μ' H' p x s => k μ' H' p x s (E.mono x p)⟩
end
theorem _root_.L2.PE.imp {X : Cx} {e : Expr} {t t' : TE} (h : PE X e t) (w : ∀ σ H Q, t' σ H Q → t σ H Q) : PE X e t' := ⟨fun pins s σ H Q I q => h.run pins s σ H Q I (w σ H Q q)⟩
theorem _root_.L2.PT.imp {X : Cx} {e : Expr} {t t' : TT} (h : PT X e t) (w : ∀ σ H Q, t' σ H Q → t σ H Q) : PT X e t' := ⟨fun pins s σ H Q I q => h.run pins s σ H Q I (w σ H Q q)⟩
theorem _root_.L2.PW.imp {X : Cx} {e : Expr} {t t' : TT} (h : PW X e t) (w : ∀ σ H Q, t' σ H Q → t σ H Q) : PW X e t' := ⟨fun wh pins s σ H Q I q => h.run wh pins s σ H Q I (w σ H Q q)⟩
theorem _root_.L2.PA.imp {X : Cx} {e : List Expr} {t t' : TA} (h : PA X e t) (w : ∀ σ H Q, t' σ H Q → t σ H Q) : PA X e t' := ⟨fun pos pins s σ H Q I q => h.run pos pins s σ H Q I (w σ H Q q)⟩
theorem _root_.L2.PI.imp {X : Cx} {tg e : Expr} {t t' : TI} (h : PI X tg e t) (w : ∀ σ H Q, t' σ H Q → t σ H Q) : PI X tg e t' := ⟨fun pins s σ H Q I q => h.run pins s σ H Q I (w σ H Q q)⟩
theorem _root_.L2.PI.or {X : Cx} {tg e : Expr} {t t' : TI} (h : PI X tg e t) (h' : PI X tg e t') : PI X tg e (fun σ H R => t σ H R ∨ t' σ H R) := ⟨fun pins s σ H Q I q => q.elim (h.run pins s σ H Q I) (h'.run pins s σ H Q I)⟩

/-! ### the context -/
/-- what a def promises: what the interpreter's oracle says -/
def spC (K : PySem.W.Frag) (T : List Addr) (C : Orc) (f : Str) (n : Nat) : Sp := fun vs H Q _ => vs.length = n ∧ ∃ μ ih ds d ih', StRel K T μ ih H ∧ Reps K H μ ds vs ∧ C f ds ih = some (d, ih') ∧ Then K T H μ d ih' Q
def bltNames : List Str := ["len", "int", "tuple", "list", "max", "min", "sum", "any", "all", "sorted", "abs", "str", "isinstance", "range", "zip", "bool", "dict", "set"]
structure COk (X : Cx) (T : List Addr) (C : Orc) (G : GE) (L : Nat) (se : SE) : Prop where
  N : X.N = se.N
  nd : X.N.Nodup
  sc : X.env.scope = se.sc
  calm : X.calm = true
  room : Room (L + (if se.gen then 1 else 0)) X.A
  store : ∀ x, storeC se x = true → Loc X.env.scope x ∧ (X.fn x = true ∨ X.env.scope.names.lookup x = some .local)
  globs : ∀ x d, G.globs.lookup x = some d → ∃ v u, X.mg x = some u ∧ RelV v u ∧ ∀ H μ, Rep X.K H μ d v
  blt : ∀ x, x ∈ bltNames → X.mg x = none
  gen : se.gen = true → ∃ c P, X.env.code = .ref c ∧ TabB X.base X.mg c P ∧ P ∈ T
  funs : ∀ f n, G.funs.lookup f = some n → ∃ a fd ps, FnOk X.prog X.w X.K X.mg X.base CX0 L a fd ps (spC X.K T C f n) ∧ X.mg f = some (.ref a) ∧ PySem.W.keepIn X.K (.ref a) = true ∧ Binds X.K fd ps []
section
variable {X : Cx} {T : List Addr} {C : Orc} {G : GE} {L : Nat} {se : SE}
theorem COk.roomL (ok : COk X T C G L se) : Room L X.A := ok.room.mono (Nat.le_add_right _ _)
theorem COk.gl (ok : COk X T C G L se) {x : Str} (h : glC se x = true) : Gl X x := by
  show X.env.scope.names.lookup x = some .globalImplicit
  rw [ok.sc]
  unfold glC at h
  split at h
  · assumption
  · cases h
theorem COk.vis (ok : COk X T C G L se) {x : Str} (h : visC se x = true) : Vis X.env.scope x := by
  rw [ok.sc]
  unfold visC at h
  split at h
  · exact .inl (by assumption)
  · exact .inr (.inl (by assumption))
  · exact .inr (.inr (by assumption))
  · cases h
theorem COk.blk (ok : COk X T C G L se) {scope : Scope} (s : Shared) (H : Hp) (D : Addr) (cl : List (Str × Addr)) (fp : List Addr) : COk (X.blk s H scope (compEnvC scope cl D X.env) fp) T C G L (se.blk scope) where
  N := ok.N
  nd := ok.nd
  sc := by
    show relabel scope X.env = relS scope se.sc
    rw [← ok.sc]; rfl
  calm := ok.calm
  room := ok.room
  store := fun x h => by
    have e : (compEnvC scope cl D X.env).scope = relS scope se.sc := by rw [← ok.sc]; rfl
    show Loc (compEnvC scope cl D X.env).scope x ∧ ((scope.names.lookup x == some .cell) = true ∨ (compEnvC scope cl D X.env).scope.names.lookup x = some .local)
    rw [e]
    unfold storeC SE.blk at h
    simp only at h
    split at h
    · rename_i e
      exact ⟨.inl e, .inr e⟩
    · rename_i e
      exact ⟨.inr e, .inl h⟩
    · cases h
  globs := ok.globs
  blt := ok.blt
  gen := fun h => ok.gen h
  funs := ok.funs
theorem COk.gx (ok : COk X T C G L se) (hg : se.gen = true) {scope : Scope} (s : Shared) (H : Hp) (D : Addr) (code : Value) (fp : List Addr) (pn : List (Addr × Obj)) : COk (GA.gcx X s H (GA.gEnv X scope D code) fp pn) T C G L (se.gx scope) where
  N := ok.N
  nd := ok.nd
  sc := rfl
  calm := ok.calm
  room := by
    have r := ok.room
    rw [hg] at r
    refine ⟨r.hd, ?_, ?_⟩
    · have := r.dp
      simp only [if_true] at this
      show X.A.depth + 1 + 3 * (L + 0) + 5 < _
      omega
    · have := r.un
      simp only [if_true] at this
      show X.A.units + 1 + 1 + 3 + 16 * (L + 0) + 200 < _
      omega
  store := fun x h => by
    show Loc scope x ∧ ((scope.names.lookup x == some .cell) = true ∨ scope.names.lookup x = some .local)
    unfold storeC SE.gx at h
    simp only at h
    split at h
    · rename_i e
      exact ⟨.inl e, .inr e⟩
    · rename_i e
      exact ⟨.inr e, .inl h⟩
    · cases h
  globs := ok.globs
  blt := ok.blt
  gen := fun h => by cases h
  funs := ok.funs
end

/-! ### plain facts about expressions -/
theorem star_cons {e : Expr} {es : List Expr} {env : Env} (h : notStar e = true) : starEach (e :: es) env = (false, eval e env) :: starEach es env := by
  cases e <;> first | rfl | cases h
def plainL (es : List Expr) : Bool := es.all notStar
theorem back_plain {es : List Expr} {env : Env} {pos : Pos} (h : plainL es = true) : (backTo pos (starEach es env)).any (·.1) = false := by
  induction es with
  | nil => rfl
  | cons e es ih =>
    unfold plainL at h
    rw [List.all_cons, Bool.and_eq_true] at h
    rw [star_cons h.1]
    show (false || (backTo pos (starEach es env)).any (·.1)) = false
    rw [ih h.2]; rfl
theorem plainIx_of {e : Expr} (h : notSlice e = true) : PlainIx e := by
  intro o i
  cases e <;> first | rfl | cases h
theorem folded_of {e : Expr} {env : Env} (h : notSet e = true) (x : Value) : foldedSetIterable e env x = pure x := by
  cases e <;> first | rfl | cases h
theorem genFold_of {e : Expr} {env : Env} (h : notSet e = true) (x : Value) : genFold e env x = pure x := by
  cases e <;> first | rfl | cases h
theorem attr_of {e : Expr} {env : Env} {name : Str} {w : Sem Value} (h : notCall0 e = true) : attributeBase e name env w = w := by
  cases e <;> first
    | rfl
    | (rename_i f as ks p
       cases as with
       | nil => cases h
       | cons a as => cases f <;> rfl)
end CP
set_option maxRecDepth 100000
set_option maxHeartbeats 4000000
/-! The checker is right: walks, targets -/
namespace CP
open PySem PySem.Spec PyProof.Rows L2 GxR

section
variable {K : PySem.W.Frag} {T : List Addr} {H H' : Hp} {μ μ' : List Addr} {ih ih' : IH} {env env' : IEnv} {σ : L2.St} {d x : D}
theorem set_rel {i : Nat} {v : V} (E : EnvRel K H μ env σ) (r : Rep K H μ d v) : EnvRel K H μ (env.set i (some d)) (σ.set i (some v)) := by
  refine ⟨by rw [List.length_set, List.length_set]; exact E.len, fun j e he => ?_⟩
  by_cases hj : i = j
  · subst hj
    by_cases hl : i < env.length
    · rw [List.getElem?_set_self hl] at he
      cases he
      exact ⟨v, by rw [List.getElem?_set_self (by rw [← E.len]; exact hl)], r⟩
    · rw [List.getElem?_eq_none (by rw [List.length_set]; omega)] at he
      cases he
  · rw [List.getElem?_set_ne hj] at he ⊢
    exact E.get j e he
theorem unset_rel {i : Nat} (E : EnvRel K H μ env σ) : EnvRel K H μ (env.set i none) (σ.set i none) := by
  refine ⟨by rw [List.length_set, List.length_set]; exact E.len, fun j e he => ?_⟩
  by_cases hj : i = j
  · subst hj
    by_cases hl : i < env.length
    · rw [List.getElem?_set_self hl] at he
      cases he
    · rw [List.getElem?_eq_none (by rw [List.length_set]; omega)] at he
      cases he
  · rw [List.getElem?_set_ne hj] at he ⊢
    exact E.get j e he
theorem wipe_rel (E : EnvRel K H μ env σ) : ∀ own : List Nat, EnvRel K H μ (wipeE env own) (wipe σ own)
  | [] => E
  | i :: own => by
    unfold wipeE wipe
    exact unset_rel (wipe_rel E own)
theorem wipe_get (σ : L2.St) (vs : List Nat) (i : Nat) : (wipe σ vs)[i]? = if i ∈ vs then (σ[i]?).map (fun _ => none) else σ[i]? := by
  induction vs with
  | nil => simp [wipe]
  | cons v r ih =>
    unfold wipe
    rw [List.getElem?_set]
    by_cases hv : v = i
    · subst hv
      rw [if_pos rfl, if_pos List.mem_cons_self]
      by_cases hl : v < (wipe σ r).length
      · rw [if_pos hl]
        rw [wipe_length] at hl
        rw [List.getElem?_eq_getElem hl]; rfl
      · rw [if_neg hl]
        rw [wipe_length] at hl
        rw [List.getElem?_eq_none (by omega)]; rfl
    · rw [if_neg hv, ih]
      have : i ∈ v :: r ↔ i ∈ r := by simp [Ne.symm hv]
      simp only [this]
theorem wipe_set {i : Nat} {v : Option V} {vs : List Nat} (h : i ∈ vs) : wipe (σ.set i v) vs = wipe σ vs := by
  apply List.ext_getElem?
  intro j
  rw [wipe_get, wipe_get]
  by_cases hj : j ∈ vs
  · rw [if_pos hj, if_pos hj]
    by_cases hij : i = j
    · subst hij
      by_cases hl : i < σ.length
      · rw [List.getElem?_set_self hl, List.getElem?_eq_getElem hl]; rfl
      · rw [List.getElem?_eq_none (by rw [List.length_set]; omega), List.getElem?_eq_none (by omega)]
    · rw [List.getElem?_set_ne hij]
  · rw [if_neg hj, if_neg hj]
    rw [List.getElem?_set_ne (fun e : i = j => hj (by rw [← e]; exact h))]
end
/-! ### targets -/
def rdGs (K : PySem.W.Frag) (T : List Addr) (is : List Nat) : TGs := fun vs σ H Q => ∃ μ env ih ds env', StRel K T μ ih H ∧ EnvRel K H μ env σ ∧ Reps K H μ ds vs ∧ putAll is ds env = some env' ∧
  ∀ σ', EnvRel K H μ env' σ' → (∀ ws, (∀ i ∈ is, i ∈ ws) → wipe σ' ws = wipe σ ws) → Q σ' H
section
variable {X : Cx} {T : List Addr} {C : Orc} {G : GE} {L : Nat} {se : SE}
theorem okName_ {i : Nat} {e : Expr} (ok : COk X T C G L se) (h : nameC se i e = true) : PG X e (gName i) := by
  unfold nameC at h
  split at h
  · rename_i x p
    rw [Bool.and_eq_true, decide_eq_true_eq] at h
    obtain ⟨h1, h2⟩ := ok.store x h.1
    exact pg_name ok.nd (by rw [ok.N]; exact h.2) h1 h2
  · cases h
theorem not_star_name {i : Nat} {e : Expr} (h : nameC se i e = true) : ∃ x p, e = .Name x p := by
  unfold nameC at h
  split at h
  · exact ⟨_, _, rfl⟩
  · cases h
theorem okNames (ok : COk X T C G L se) : ∀ {is : List Nat} {es : List Expr}, namesC se is es = true → PGs X es (rdGs X.K T is) ∧ (assignEach es X.env).length = is.length ∧ (assignEach es X.env).findIdx? (·.1) = none
  | [], [], _ => by
    refine ⟨⟨fun pins s σ H vs us Q I r ⟨μ, env, ih, ds, env', S, E, R, ha, q⟩ => ?_⟩, rfl, rfl⟩
    cases ds with
    | nil =>
      unfold Reps at R
      subst R
      unfold putAll at ha
      cases ha
      exact pgs_nil.run pins s σ H _ us Q I r ⟨rfl, q σ E fun _ _ => rfl⟩
    | cons d ds => cases ha
  | i :: is, e :: es, h => by
    unfold namesC at h
    rw [Bool.and_eq_true] at h
    obtain ⟨p1, l1, f1⟩ := okNames ok h.2
    obtain ⟨x, p, rfl⟩ := not_star_name h.1
    refine ⟨⟨fun pins s σ H vs us Q I r ⟨μ, env, ih, ds, env', S, E, R, ha, q⟩ => ?_⟩, ?_, ?_⟩
    · cases ds with
      | nil => cases ha
      | cons d ds =>
        unfold Reps at R
        obtain ⟨v, ws, rfl, r1, r2⟩ := R
        unfold putAll at ha
        split at ha
        · rename_i hi
          refine (pgs_cons (okName_ ok h.1) p1).run pins s σ H _ us Q I r ⟨v, ws, rfl, ?_⟩
          refine ⟨μ, env.set i (some d), ih, ds, env', S, set_rel E r1, r2, ha, fun σ' E' hw => q σ' E' fun ws' hs => ?_⟩
          rw [hw ws' (fun j hj => hs j (List.mem_cons_of_mem _ hj))]
          exact wipe_set (hs i List.mem_cons_self)
        · cases ha
    · show (assignEach es X.env).length + 1 = is.length + 1
      rw [l1]
    · show List.findIdx? (·.1) ((false, assign (.Name x p) X.env) :: assignEach es X.env) = none
      rw [List.findIdx?_cons, f1]; rfl
  | [], _ :: _, h => by cases h
  | _ :: _, [], h => by cases h
theorem okG (ok : COk X T C G L se) {t : MT} {e : Expr} {weak : Bool} (hw : (!weak || t.isTup) = true) (h : trG se t e = true) : PG X e (rdG X.K T weak t) := by
  cases t with
  | name i =>
    have hwf : weak = false := by
      cases weak
      · rfl
      · cases hw
    subst hwf
    have p := okName_ ok h
    refine ⟨fun pins s σ H v u Q I r ⟨μ, env, ih, d, env', S, E, R, ha, q⟩ => ?_⟩
    unfold asgT at ha
    simp only at ha
    split at ha
    · cases ha
      refine p.run pins s σ H v u Q I r (q _ (set_rel E R) fun vs hs => wipe_set (hs i (by simp [MT.ids])))
    · cases ha
  | tup is =>
    unfold trG at h
    simp only at h
    split at h
    · rename_i es k p
      obtain ⟨p1, l1, f1⟩ := okNames ok h
      refine ⟨fun pins s σ H v u Q I r ⟨μ, env, ih, d, env', S, E, R, ha, q⟩ => ?_⟩
      unfold asgT at ha
      simp only at ha
      have fin : ∀ {a : Addr} {vs : List V} {ds : List D}, v = .ref a → SqT X.K H a vs → Reps X.K H μ ds vs → putAll is ds env = some env' → wpAny (model X.prog X.w) X.A (assign (.Tuple es k p) X.env u) (fun _ s' => ∃ σ' H', Inv X pins σ' H' s' ∧ Q σ' H') X.xe s := fun {a vs ds} e1 e2 e3 e4 => by
        refine (pg_tup ok.calm p1 l1 f1).run pins s σ H v u Q I r ⟨a, vs, e1, e2, ?_, μ, env, ih, ds, env', S, E, e3, e4, q⟩
        rw [e3.length]
        have : ∀ {is : List Nat} {ds : List D} {env env' : IEnv}, putAll is ds env = some env' → ds.length = is.length := by
          intro is
          induction is with
          | nil => intro ds env env' h; cases ds with
            | nil => rfl
            | cons _ _ => cases h
          | cons i is ihh => intro ds env env' h; cases ds with
            | nil => cases h
            | cons d ds =>
              unfold putAll at h
              split at h
              · rw [List.length_cons, List.length_cons, ihh h]
              · cases h
        exact this e4
      cases weak with
      | true =>
        obtain ⟨a, vs, ds, rfl, e1, e2, e3⟩ := R
        exact fin e1 e2 e3 ha
      | false =>
        have R : Rep X.K H μ d v := R
        cases d with
        | tup ds =>
          obtain ⟨a, vs, e1, e2, e3⟩ := R.tup_
          exact fin e1 e2.sq e3 ha
        | _ => cases ha
    · cases h
end

/-! ### walks -/
section
variable {X : Cx} {T : List Addr} {K : PySem.W.Frag}
theorem lst_at {w : List (Nat × List D)} {ih : IH} {n : Nat} {xs : List D} (h : (w.all fun p => decide (lstAt ih p.1 = some p.2)) = true) (hm : (n, xs) ∈ w) : lstAt ih n = some xs := of_decide_eq_true (List.all_eq_true.mp h _ hm)
/-- a list that is walked is as it was -/
theorem src_lst {μ0 μ : List Addr} {ih0 ih : IH} {H0 H : Hp} {d : D} {xs : List D} {a : Addr} {src : List (Nat × List D)} (S0 : StRel K T μ0 ih0 H0) (r : Rep K H0 μ0 d (.ref a)) (h : lstOf ih0 d = some xs) (hsub : ∀ p ∈ srcOf d xs, p ∈ src)
    (p : μ0 <+: μ) (e : Ext H0 H) (S : StRel K T μ ih H) (hok : (src.all fun p => decide (lstAt ih p.1 = some p.2)) = true) : ∃ vs, SqL K H a vs ∧ Reps K H μ xs vs := by
  cases d with
  | ref n =>
    have h1 : lstAt ih n = some xs := lst_at hok (hsub _ (by simp [srcOf]))
    obtain ⟨b, vs, e1, _, _, e2, e3⟩ := ref_lst S (r.mono e p) h1
    cases e1
    exact ⟨vs, .of e2, e3⟩
  | rol ds =>
    cases h
    obtain ⟨b, vs, e1, e2, e3⟩ := r.rol_
    cases e1
    exact ⟨vs, (e2.ext e).sq, e3.mono e p⟩
  | _ => cases h
theorem good_list {μ0 : List Addr} {ih0 : IH} {H0 : Hp} {d : D} {xs : List D} {a : Addr} (S0 : StRel K T μ0 ih0 H0) (r : Rep K H0 μ0 d (.ref a)) (h : lstOf ih0 d = some xs) : GoodIt K T (Itl K a) ⟨xs, srcOf d xs⟩ false μ0 H0 := by
  intro i μ ih H p e S hok
  obtain ⟨vs, h1, h2⟩ := src_lst (src := srcOf d xs) S0 r h (fun _ h => h) p e S hok
  refine ⟨fun hi => ⟨vs, h1, by rw [h2.length]; exact hi⟩, fun d' hd => ?_⟩
  obtain ⟨v, e1, e2⟩ := h2.get hd
  exact ⟨⟨vs, v, h1, e1⟩, fun x H' ⟨eH, hx⟩ => by
    subst eH
    have := hx vs h1
    rw [e1] at this
    cases this
    exact ⟨Ext.refl _, S, e2⟩⟩
theorem good_tup {μ0 : List Addr} {H0 : Hp} {xs : List D} {a : Addr} (r : Rep K H0 μ0 (.tup xs) (.ref a)) : GoodIt K T (Itt K a) ⟨xs, []⟩ false μ0 H0 := by
  intro i μ ih H p e S hok
  obtain ⟨b, vs, e1, e2, e3⟩ := r.tup_
  cases e1
  have h1 : SqT K H a vs := (e2.ext e).sq
  have h2 := e3.mono e p
  refine ⟨fun hi => ⟨vs, h1, by rw [h2.length]; exact hi⟩, fun d' hd => ?_⟩
  obtain ⟨v, e1, e2⟩ := h2.get hd
  exact ⟨⟨vs, v, h1, e1⟩, fun x H' ⟨eH, hx⟩ => by
    subst eH
    have := hx vs h1
    rw [e1] at this
    cases this
    exact ⟨Ext.refl _, S, e2⟩⟩
theorem good_str {μ0 : List Addr} {H0 : Hp} {z : Str} : GoodIt K T (Its z) ⟨z.cps.toList.map fun c => .str ⟨#[c]⟩, []⟩ false μ0 H0 := by
  intro i μ ih H p e S hok
  refine ⟨fun hi => (show z.cps.size ≤ i by simpa using hi), fun d' hd => ?_⟩
  rw [List.getElem?_map] at hd
  obtain ⟨c, h1, rfl⟩ := Option.map_eq_some_iff.mp hd
  have h1' : z.cps[i]? = some c := by simpa using h1
  refine ⟨(Array.getElem?_eq_some_iff.mp h1').1, fun x H' y => ?_⟩
  obtain ⟨eH, c', hc', hx⟩ := y
  rw [h1'] at hc'
  cases hc'
  rw [eH, hx]
  exact ⟨Ext.refl _, S, (show Rep K H μ _ _ from rep_str)⟩
theorem good_rng {μ0 : List Addr} {H0 : Hp} {lo : Int} {n : Nat} : GoodIt K T (Itr lo n) ⟨rangeL lo n, []⟩ false μ0 H0 := by
  intro i μ ih H p e S hok
  refine ⟨fun hi => (show n ≤ i by simpa [rangeL] using hi), fun d' hd => ?_⟩
  unfold rangeL at hd
  simp only [List.getElem?_map] at hd
  obtain ⟨c, h1, rfl⟩ := Option.map_eq_some_iff.mp hd
  obtain ⟨hi, e1⟩ := List.getElem?_eq_some_iff.mp h1
  have hi' : i < n := by simpa using hi
  have e2 : c = i := by rw [← e1]; simp
  subst e2
  refine ⟨hi', fun x H' y => ?_⟩
  obtain ⟨eH, hx⟩ := y
  rw [eH, hx]
  exact ⟨Ext.refl _, S, (show Rep K H μ _ _ from rep_int)⟩
theorem zip_get {α β γ : Type} {f : α × β → γ} {xs : List α} {ys : List β} {i : Nat} {d : γ} (h : ((xs.zip ys).map f)[i]? = some d) : ∃ x y, xs[i]? = some x ∧ ys[i]? = some y ∧ d = f (x, y) := by
  rw [List.getElem?_map] at h
  obtain ⟨⟨x, y⟩, h1, rfl⟩ := Option.map_eq_some_iff.mp h
  obtain ⟨h2, h3⟩ := List.getElem?_zip_eq_some.mp h1
  exact ⟨x, y, h2, h3, rfl⟩
theorem good_zipL {μ0 : List Addr} {ih0 : IH} {H0 : Hp} {d e : D} {xs ys : List D} {a b : Addr} (S0 : StRel K T μ0 ih0 H0) (r : Rep K H0 μ0 d (.ref a)) (q : Rep K H0 μ0 e (.ref b)) (h : lstOf ih0 d = some xs) (h' : lstOf ih0 e = some ys) :
    GoodIt K T (Itz K a b) ⟨(xs.zip ys).map fun p => .tup [p.1, p.2], srcOf d xs ++ srcOf e ys⟩ true μ0 H0 := by
  intro i μ ih H p x S hok
  obtain ⟨vs, h1, h2⟩ := src_lst (src := srcOf d xs ++ srcOf e ys) S0 r h (fun _ h => List.mem_append_left _ h) p x S hok
  obtain ⟨ws, g1, g2⟩ := src_lst (src := srcOf d xs ++ srcOf e ys) S0 q h' (fun _ h => List.mem_append_right _ h) p x S hok
  refine ⟨fun hi => ⟨vs, ws, h1, g1, ?_⟩, fun d' hd => ?_⟩
  · rw [h2.length, g2.length]
    simp only [List.length_map, List.length_zip] at hi
    omega
  · obtain ⟨dx, dy, e1, e2, rfl⟩ := zip_get hd
    obtain ⟨v, e3, e4⟩ := h2.get e1
    obtain ⟨w, e5, e6⟩ := g2.get e2
    refine ⟨⟨vs, ws, v, w, h1, g1, e3, e5⟩, fun u H' ⟨t, z1, z2, hu, ht, eH, hx, hy⟩ => ?_⟩
    subst hu eH
    have k1 := hx vs h1
    rw [e3] at k1
    cases k1
    have k2 := hy ws g1
    rw [e5] at k2
    cases k2
    exact ⟨Ext.new ht, S.tmp ht, t, [v, w], [dx, dy], rfl, rfl, .of upd_same, .cons (e4.mono (Ext.new ht) (List.prefix_refl _)) (.cons (e6.mono (Ext.new ht) (List.prefix_refl _)) .nil)⟩
theorem good_zipT {μ0 : List Addr} {H0 : Hp} {xs ys : List D} {a b : Addr} (r : Rep K H0 μ0 (.tup xs) (.ref a)) (q : Rep K H0 μ0 (.tup ys) (.ref b)) :
    GoodIt K T (RZ.ItzT K a b) ⟨(xs.zip ys).map fun p => .tup [p.1, p.2], []⟩ true μ0 H0 := by
  intro i μ ih H p x S hok
  obtain ⟨a', vs, e1, e2, h2⟩ := (r.mono x p).tup_
  cases e1
  obtain ⟨b', ws, e1, e3, g2⟩ := (q.mono x p).tup_
  cases e1
  have h1 := e2.sq
  have g1 := e3.sq
  refine ⟨fun hi => ⟨vs, ws, h1, g1, ?_⟩, fun d' hd => ?_⟩
  · rw [h2.length, g2.length]
    simp only [List.length_map, List.length_zip] at hi
    omega
  · obtain ⟨dx, dy, e1, e2, rfl⟩ := zip_get hd
    obtain ⟨v, e3, e4⟩ := h2.get e1
    obtain ⟨w, e5, e6⟩ := g2.get e2
    refine ⟨⟨vs, ws, v, w, h1, g1, e3, e5⟩, fun u H' ⟨t, z1, z2, hu, ht, eH, hx, hy⟩ => ?_⟩
    subst hu eH
    have k1 := hx vs h1
    rw [e3] at k1
    cases k1
    have k2 := hy ws g1
    rw [e5] at k2
    cases k2
    exact ⟨Ext.new ht, S.tmp ht, t, [v, w], [dx, dy], rfl, rfl, .of upd_same, .cons (e4.mono (Ext.new ht) (List.prefix_refl _)) (.cons (e6.mono (Ext.new ht) (List.prefix_refl _)) .nil)⟩
end
end CP
set_option maxRecDepth 100000
set_option maxHeartbeats 4000000
/-! The checker is right: expressions -/
namespace CP
open PySem PySem.Spec PyProof.Rows L2 GxR

section
variable {X : Cx} {T : List Addr} {C : Orc} {G : GE} {L : Nat} {se : SE} {fa fb fc f : IEnv → IH → Option (D × IH)} {a b c e : Expr} {pos : Pos}
theorem pt_of (h : PE X e (rdE X.K T f)) (he : ∀ whole, isTrue e X.env whole = (do let v ← whole; standAt e.pos; holding [v] (truthy v))) : PT X e (rdT X.K T (asT f)) := by
  refine (pt_val h he).imp fun σ H Q ⟨μ, env, ih, b, ih', S, E, ev, q⟩ => ?_
  unfold asT at ev
  split at ev
  · cases ev
    exact rdE.mk S E (by assumption) fun μ1 H1 v p x S1 E1 r => ⟨_, r.bl_, q μ1 H1 p x S1⟩
  · cases ev
def fBin (g : IH → D → D → Option (D × IH)) (fa fb : IEnv → IH → Option (D × IH)) : IEnv → IH → Option (D × IH) := fun env ih => match fa env ih with
  | some (x, ih1) => match fb env ih1 with
    | some (y, ih2) => g ih2 x y
    | none => none
  | none => none
theorem rd_bin {K : PySem.W.Frag} {T : List Addr} {g : IH → D → D → Option (D × IH)} {r : R2} {σ : L2.St} {H : Hp} {Q : VK}
    (hr : ∀ μ ih x y d ih' v w H Q, StRel K T μ ih H → Rep K H μ x v → Rep K H μ y w → g ih x y = some (d, ih') → Then K T H μ d ih' Q → r v w H Q) (h : rdE K T (fBin g fa fb) σ H Q) : tOp r (rdE K T fa) (rdE K T fb) σ H Q := by
  obtain ⟨μ, env, ih, d, ih', S, E, ev, q⟩ := h
  unfold fBin at ev
  split at ev
  · rename_i x ih1 h1
    split at ev
    · rename_i y ih2 h2
      exact rdE.mk S E h1 fun μ1 H1 v p1 x1 S1 E1 r1 => rdE.mk S1 E1 h2 fun μ2 H2 w p2 x2 S2 E2 r2 => hr μ2 ih2 x y d ih' v w H2 Q S2 (r1.mono x2 p2) r2 ev (q.step (p1.trans p2) (x1.trans x2))
    · cases ev
  · cases ev
theorem pe_bin (o : Bop) (ha : PE X a (rdE X.K T fa)) (hb : PE X b (rdE X.K T fb)) : PE X (.BinOp a o.op b pos) (rdE X.K T (fBin (binop o) fa fb)) :=
  (pe_op (op_bin o) ha hb).imp fun σ H Q h => rd_bin (fun μ ih x y d ih' v w H Q S r1 r2 hg q => ⟨μ, ih, x, y, d, ih', S, r1, r2, hg, q⟩) h
def gCmp (o : Cop) : IH → D → D → Option (D × IH) := fun ih x y => (cmpop o ih x y).map fun c => (.bl c, ih)
theorem cmp_hr {K : PySem.W.Frag} {T : List Addr} (o : Cop) : ∀ μ ih x y d ih' v w H Q, StRel K T μ ih H → Rep K H μ x v → Rep K H μ y w → gCmp o ih x y = some (d, ih') → Then K T H μ d ih' Q → rCmp K T o v w H Q := by
  intro μ ih x y d ih' v w H Q S r1 r2 hg q
  obtain ⟨c, h1, h2⟩ := Option.map_eq_some_iff.mp hg
  cases h2
  exact ⟨μ, ih, x, y, c, S, r1, r2, h1, q.same S rep_bl⟩
theorem pe_cmp' (o : Cop) (hu : X.A.units + 65 < cLine) (ha : PE X a (rdE X.K T fa)) (hb : PE X b (rdE X.K T fb)) (hm : behindInMarks o.op b = false) : PE X (.Compare a [o.op] [b] pos) (rdE X.K T (fBin (gCmp o) fa fb)) :=
  (pe_cmpR (op_cmp o hu) ha hb hm).imp fun σ H Q h => rd_bin (cmp_hr o) h
theorem pt_cmp' (o : Cop) (hu : X.A.units + 65 < cLine) (ha : PE X a (rdE X.K T fa)) (hb : PE X b (rdE X.K T fb)) (hm : behindInMarks o.op b = false) : PT X (.Compare a [o.op] [b] pos) (rdT X.K T (asT (fBin (gCmp o) fa fb))) := by
  refine (pt_cmpR (op_cmp (T := T) o hu) ha hb hm).imp fun σ H Q ⟨μ, env, ih, b, ih', S, E, ev, q⟩ => ?_
  unfold asT at ev
  split at ev
  · cases ev
    rename_i hev
    exact rd_bin (cmp_hr o) (rdE.mk S E hev fun μ1 H1 v p x S1 E1 r => ⟨_, r.bl_, q μ1 H1 p x S1⟩)
  · cases ev
def fChain (o p : Cop) (fa fb fc : IEnv → IH → Option (D × IH)) : IEnv → IH → Option (D × IH) := fun env ih => match fa env ih with
  | some (x, ih1) => match fb env ih1 with
    | some (y, ih2) => match cmpop o ih2 x y with
      | some true => match fc env ih2 with
        | some (z, ih3) => (cmpop p ih3 y z).map fun c => (.bl c, ih3)
        | none => none
      | some false => some (.bl false, ih2)
      | none => none
    | none => none
  | none => none
theorem rd_chain {K : PySem.W.Frag} {T : List Addr} {o p : Cop} {σ : L2.St} {H : Hp} {Q : VK} (h : rdE K T (fChain o p fa fb fc) σ H Q) : tChain (rCmp K T o) (rCmp K T p) (rdE K T fa) (rdE K T fb) (rdE K T fc) σ H Q := by
  obtain ⟨μ, env, ih, d, ih', S, E, ev, q⟩ := h
  unfold fChain at ev
  split at ev
  · rename_i x ih1 h1
    split at ev
    · rename_i y ih2 h2
      refine rdE.mk S E h1 fun μ1 H1 v p1 x1 S1 E1 r1 => rdE.mk S1 E1 h2 fun μ2 H2 w p2 x2 S2 E2 r2 => ?_
      have q2 := q.step (p1.trans p2) (x1.trans x2)
      split at ev
      · rename_i hc
        refine ⟨μ2, ih2, x, y, true, S2, r1.mono x2 p2, r2, hc, true, rfl, ?_⟩
        simp only [if_true]
        split at ev
        · rename_i z ih3 h3
          obtain ⟨c, h4, h5⟩ := Option.map_eq_some_iff.mp ev
          cases h5
          exact rdE.mk S2 E2 h3 fun μ3 H3 u p3 x3 S3 E3 r3 => ⟨μ3, _, y, z, c, S3, r2.mono x3 p3, r3, h4, (q2.step p3 x3).same S3 rep_bl⟩
        · cases ev
      · rename_i hc
        cases ev
        exact ⟨μ2, _, x, y, false, S2, r1.mono x2 p2, r2, hc, false, rfl, by simp only [Bool.false_eq_true, if_false]; exact q2.same S2 rep_bl⟩
      · cases ev
    · cases ev
  · cases ev
theorem pe_chain' (o p : Cop) (hu : X.A.units + 65 < cLine) (ha : PE X a (rdE X.K T fa)) (hb : PE X b (rdE X.K T fb)) (hc : PE X c (rdE X.K T fc)) (hm : lastMarks [o.op, p.op] [b, c] = false) :
    PE X (.Compare a [o.op, p.op] [b, c] pos) (rdE X.K T (fChain o p fa fb fc)) :=
  (L2.pe_chain (op_cmp o hu) (op_cmp p hu) ha hb hc hm).imp fun σ H Q h => rd_chain h
theorem pt_chain' (o p : Cop) (hu : X.A.units + 65 < cLine) (ha : PE X a (rdE X.K T fa)) (hb : PE X b (rdE X.K T fb)) (hc : PE X c (rdE X.K T fc)) (hm : lastMarks [o.op, p.op] [b, c] = false) :
    PT X (.Compare a [o.op, p.op] [b, c] pos) (rdT X.K T (asT (fChain o p fa fb fc))) := by
  refine (L2.pt_chain (op_cmp (T := T) o hu) (op_cmp (T := T) p hu) ha hb hc hm).imp fun σ H Q ⟨μ, env, ih, b, ih', S, E, ev, q⟩ => ?_
  unfold asT at ev
  split at ev
  · cases ev
    rename_i hev
    exact rd_chain (rdE.mk S E hev fun μ1 H1 v p x S1 E1 r => ⟨_, r.bl_, q μ1 H1 p x S1⟩)
  · cases ev
/-! and, or -/
def fAnd (fa fb : IEnv → IH → Option (D × IH)) : IEnv → IH → Option (D × IH) := fun env ih => match fa env ih with
  | some (.bl true, ih1) => fb env ih1
  | some (.bl false, ih1) => some (.bl false, ih1)
  | _ => none
def fOr (fa fb : IEnv → IH → Option (D × IH)) : IEnv → IH → Option (D × IH) := fun env ih => match fa env ih with
  | some (.bl true, ih1) => some (.bl true, ih1)
  | some (.bl false, ih1) => fb env ih1
  | _ => none
variable {rest : List Expr}
theorem pe_and' (ha : PE X a (rdE X.K T fa)) (hb : PE X (.BoolOp .And (b :: rest) pos) (rdE X.K T fb)) : PE X (.BoolOp .And (a :: b :: rest) pos) (rdE X.K T (fAnd fa fb)) := by
  refine (pe_and ha hb).imp fun σ H Q ⟨μ, env, ih, d, ih', S, E, ev, q⟩ => ?_
  unfold fAnd at ev
  split at ev
  · rename_i h1
    exact rdE.mk S E h1 fun μ1 H1 v p x S1 E1 r => ⟨true, r.bl_, by simp only [if_true]; exact ⟨μ1, env, _, d, ih', S1, E1, ev, q.step p x⟩⟩
  · rename_i h1
    cases ev
    exact rdE.mk S E h1 fun μ1 H1 v p x S1 E1 r => ⟨false, r.bl_, by simp only [Bool.false_eq_true, if_false]; exact (q.step p x).same S1 rep_bl⟩
  · cases ev
theorem pe_or' (ha : PE X a (rdE X.K T fa)) (hb : PE X (.BoolOp .Or (b :: rest) pos) (rdE X.K T fb)) : PE X (.BoolOp .Or (a :: b :: rest) pos) (rdE X.K T (fOr fa fb)) := by
  refine (pe_or ha hb).imp fun σ H Q ⟨μ, env, ih, d, ih', S, E, ev, q⟩ => ?_
  unfold fOr at ev
  split at ev
  · rename_i h1
    cases ev
    exact rdE.mk S E h1 fun μ1 H1 v p x S1 E1 r => ⟨true, r.bl_, by simp only [if_true]; exact (q.step p x).same S1 rep_bl⟩
  · rename_i h1
    exact rdE.mk S E h1 fun μ1 H1 v p x S1 E1 r => ⟨false, r.bl_, by simp only [Bool.false_eq_true, if_false]; exact ⟨μ1, env, _, d, ih', S1, E1, ev, q.step p x⟩⟩
  · cases ev
theorem pw_and' (ha : PT X a (rdT X.K T (asT fa))) (hb : PW X (.BoolOp .And (b :: rest) pos) (rdT X.K T (asT fb))) : PW X (.BoolOp .And (a :: b :: rest) pos) (rdT X.K T (asT (fAnd fa fb))) := by
  refine (pw_and ha hb).imp fun σ H Q ⟨μ, env, ih, d, ih', S, E, ev, q⟩ => ?_
  unfold asT fAnd at ev
  split at ev
  · rename_i h0
    split at h0
    · rename_i h1
      cases ev
      exact rdT.mk (b := true) S E (by unfold asT; rw [h1]) fun μ1 H1 p x S1 E1 => by
        simp only [if_true]
        exact ⟨μ1, env, _, _, _, S1, E1, by unfold asT; rw [h0], fun μ2 H2 p2 x2 S2 => q μ2 H2 (p.trans p2) (x.trans x2) S2⟩
    · rename_i h1
      cases h0
      cases ev
      exact rdT.mk (b := false) S E (by unfold asT; rw [h1]) fun μ1 H1 p x S1 E1 => by
        simp only [Bool.false_eq_true, if_false]
        exact q μ1 H1 p x S1
    · cases h0
  · cases ev
theorem pw_or' (ha : PT X a (rdT X.K T (asT fa))) (hb : PW X (.BoolOp .Or (b :: rest) pos) (rdT X.K T (asT fb))) : PW X (.BoolOp .Or (a :: b :: rest) pos) (rdT X.K T (asT (fOr fa fb))) := by
  refine (pw_or ha hb).imp fun σ H Q ⟨μ, env, ih, d, ih', S, E, ev, q⟩ => ?_
  unfold asT fOr at ev
  split at ev
  · rename_i h0
    split at h0
    · rename_i h1
      cases h0
      cases ev
      exact rdT.mk (b := true) S E (by unfold asT; rw [h1]) fun μ1 H1 p x S1 E1 => by
        simp only [if_true]
        exact q μ1 H1 p x S1
    · rename_i h1
      cases ev
      exact rdT.mk (b := false) S E (by unfold asT; rw [h1]) fun μ1 H1 p x S1 E1 => by
        simp only [Bool.false_eq_true, if_false]
        exact ⟨μ1, env, _, _, _, S1, E1, by unfold asT; rw [h0], fun μ2 H2 p2 x2 S2 => q μ2 H2 (p.trans p2) (x.trans x2) S2⟩
    · cases h0
  · cases ev
/-! not, -, if -/
def fNot (fa : IEnv → IH → Option (D × IH)) : IEnv → IH → Option (D × IH) := fun env ih => match fa env ih with
  | some (.bl b, ih1) => some (.bl (!b), ih1)
  | _ => none
def fNeg (fa : IEnv → IH → Option (D × IH)) : IEnv → IH → Option (D × IH) := fun env ih => match fa env ih with
  | some (.int b, ih1) => some (.int (-b), ih1)
  | _ => none
theorem pe_not' (ha : PE X a (rdE X.K T fa)) : PE X (.UnaryOp .Not a pos) (rdE X.K T (fNot fa)) := by
  refine (pe_not ha).imp fun σ H Q ⟨μ, env, ih, d, ih', S, E, ev, q⟩ => ?_
  unfold fNot at ev
  split at ev
  · rename_i h1
    cases ev
    exact rdE.mk S E h1 fun μ1 H1 v p x S1 E1 r => ⟨_, r.bl_, (q.step p x).same S1 rep_bl⟩
  · cases ev
theorem pt_not' (ha : PT X a (rdT X.K T (asT fa))) : PT X (.UnaryOp .Not a pos) (rdT X.K T (asT (fNot fa))) := by
  refine (pt_not ha).imp fun σ H Q ⟨μ, env, ih, d, ih', S, E, ev, q⟩ => ?_
  unfold asT fNot at ev
  split at ev
  · rename_i h0
    split at h0
    · rename_i h1
      cases h0
      cases ev
      exact rdT.mk S E (by unfold asT; rw [h1]) fun μ1 H1 p x S1 E1 => q μ1 H1 p x S1
    · cases h0
  · cases ev
theorem pe_neg' (ha : PE X a (rdE X.K T fa)) : PE X (.UnaryOp .USub a pos) (rdE X.K T (fNeg fa)) := by
  refine (pe_un un_neg ha).imp fun σ H Q ⟨μ, env, ih, d, ih', S, E, ev, q⟩ => ?_
  unfold fNeg at ev
  split at ev
  · rename_i h1
    cases ev
    exact rdE.mk S E h1 fun μ1 H1 v p x S1 E1 r => ⟨_, r.int_, (q.step p x).same S1 rep_int⟩
  · cases ev
def fIte (fc fa fb : IEnv → IH → Option (D × IH)) : IEnv → IH → Option (D × IH) := fun env ih => match fc env ih with
  | some (.bl true, ih1) => fa env ih1
  | some (.bl false, ih1) => fb env ih1
  | _ => none
theorem pe_ite' (hc : PT X c (rdT X.K T (asT fc))) (ha : PE X a (rdE X.K T fa)) (hb : PE X b (rdE X.K T fb)) : PE X (.IfExp c a b pos) (rdE X.K T (fIte fc fa fb)) := by
  refine (pe_ifExp hc ha hb).imp fun σ H Q ⟨μ, env, ih, d, ih', S, E, ev, q⟩ => ?_
  unfold fIte at ev
  split at ev
  · rename_i h1
    exact rdT.mk (b := true) S E (by unfold asT; rw [h1]) fun μ1 H1 p x S1 E1 => by
      simp only [if_true]
      exact ⟨μ1, env, _, d, ih', S1, E1, ev, q.step p x⟩
  · rename_i h1
    exact rdT.mk (b := false) S E (by unfold asT; rw [h1]) fun μ1 H1 p x S1 E1 => by
      simp only [Bool.false_eq_true, if_false]
      exact ⟨μ1, env, _, d, ih', S1, E1, ev, q.step p x⟩
  · cases ev
theorem pt_ite' (hc : PT X c (rdT X.K T (asT fc))) (ha : PT X a (rdT X.K T (asT fa))) (hb : PT X b (rdT X.K T (asT fb))) : PT X (.IfExp c a b pos) (rdT X.K T (asT (fIte fc fa fb))) := by
  refine ⟨fun pins s σ H Q I h => ?_⟩
  obtain ⟨μ, env, ih, d, ih', S, E, ev, q⟩ := h
  unfold asT fIte at ev
  split at ev
  · rename_i h0
    cases ev
    split at h0
    · rename_i h1
      refine PyProof.Rows.isTrue_IfExp (thn (hc.run pins s σ H (fun b H1 => b = true ∧ rdT X.K T (asT fa) σ H1 Q) I (rdT.mk (b := true) S E (by unfold asT; rw [h1]) fun μ1 H1 p x S1 E1 => ⟨rfl, ?_⟩)) fun c s1 ⟨H1, I1, ec, q1⟩ => ?_)
      · exact ⟨μ1, env, _, _, _, S1, E1, by unfold asT; rw [h0], fun μ2 H2 p2 x2 S2 => q μ2 H2 (p.trans p2) (x.trans x2) S2⟩
      · subst ec
        exact ha.run pins s1 σ H1 Q I1 q1
    · rename_i h1
      refine PyProof.Rows.isTrue_IfExp (thn (hc.run pins s σ H (fun b H1 => b = false ∧ rdT X.K T (asT fb) σ H1 Q) I (rdT.mk (b := false) S E (by unfold asT; rw [h1]) fun μ1 H1 p x S1 E1 => ⟨rfl, ?_⟩)) fun c s1 ⟨H1, I1, ec, q1⟩ => ?_)
      · exact ⟨μ1, env, _, _, _, S1, E1, by unfold asT; rw [h0], fun μ2 H2 p2 x2 S2 => q μ2 H2 (p.trans p2) (x.trans x2) S2⟩
      · subst ec
        exact hb.run pins s1 σ H1 Q I1 q1
    · cases h0
  · cases ev
/-! displays, items, slices, calls -/
variable {fas : IEnv → IH → Option (List D × IH)} {es : List Expr}
def fNil : IEnv → IH → Option (List D × IH) := fun _ ih => some ([], ih)
def fCons (fa : IEnv → IH → Option (D × IH)) (fas : IEnv → IH → Option (List D × IH)) : IEnv → IH → Option (List D × IH) := fun env ih => match fa env ih with
  | some (d, ih1) => match fas env ih1 with
    | some (ds, ih2) => some (d :: ds, ih2)
    | none => none
  | none => none
theorem pa_nil' : PA X [] (rdA X.K T fNil) := pa_nil.imp fun σ H Q ⟨μ, env, ih, ds, ih', S, E, ev, q⟩ => by
  cases ev
  exact q μ H [] (List.prefix_refl _) (Ext.refl _) S .nil
theorem pa_cons' (hs : notStar a = true) (ha : PE X a (rdE X.K T fa)) (hb : PA X es (rdA X.K T fas)) : PA X (a :: es) (rdA X.K T (fCons fa fas)) := by
  refine (pa_cons ha hb (star_cons hs)).imp fun σ H Q ⟨μ, env, ih, ds, ih', S, E, ev, q⟩ => ?_
  unfold fCons at ev
  split at ev
  · rename_i h1
    split at ev
    · rename_i h2
      cases ev
      exact rdE.mk S E h1 fun μ1 H1 v p1 x1 S1 E1 r1 => rdA.mk S1 E1 h2 fun μ2 H2 vs p2 x2 S2 E2 r2 => q μ2 H2 (v :: vs) (p1.trans p2) (x1.trans x2) S2 (.cons (r1.mono x2 p2) r2)
    · cases ev
  · cases ev
def fTup (fas : IEnv → IH → Option (List D × IH)) : IEnv → IH → Option (D × IH) := fun env ih => match fas env ih with
  | some (ds, ih1) => if ds.length ≤ sizeLine then some (.tup ds, ih1) else none
  | none => none
def fLst (fas : IEnv → IH → Option (List D × IH)) : IEnv → IH → Option (D × IH) := fun env ih => match fas env ih with
  | some (ds, ih1) => if ds.length ≤ sizeLine then some (.ref ih1.length, ih1 ++ [.lst ds]) else none
  | none => none
theorem pe_tup' {k : Nat} (h : PA X es (rdA X.K T fas)) : PE X (.Tuple es k pos) (rdE X.K T (fTup fas)) := by
  refine (TF.pe_tupF h).imp fun σ H Q ⟨μ, env, ih, d, ih', S, E, ev, q⟩ => ?_
  unfold fTup at ev
  split at ev
  · rename_i h1
    split at ev
    · rename_i hz
      cases ev
      exact rdA.mk S E h1 fun μ1 H1 vs p1 x1 S1 E1 r1 => ⟨by rw [r1.length]; exact hz, (q.step p1 x1).newT S1 r1⟩
    · cases ev
  · cases ev
theorem pe_lst' (h : PA X es (rdA X.K T fas)) : PE X (.List es pos) (rdE X.K T (fLst fas)) := by
  refine (pe_lst h).imp fun σ H Q ⟨μ, env, ih, d, ih', S, E, ev, q⟩ => ?_
  unfold fLst at ev
  split at ev
  · rename_i h1
    split at ev
    · rename_i hz
      cases ev
      exact rdA.mk S E h1 fun μ1 H1 vs p1 x1 S1 E1 r1 => ⟨by rw [r1.length]; exact hz, (q.step p1 x1).newL S1 r1⟩
    · cases ev
  · cases ev
def gIx : IH → D → D → Option (D × IH) := fun ih x y => (ixop ih x y).map fun d => (d, ih)
theorem pe_ix' (ha : PE X a (rdE X.K T fa)) (hb : PE X b (rdE X.K T fb)) (hs : notSlice b = true) : PE X (.Subscript a b pos) (rdE X.K T (fBin gIx fa fb)) :=
  (pe_ix (ix_all (T := T)) ha hb (plainIx_of hs)).imp fun σ H Q h => rd_bin (fun μ ih x y d ih' v w H Q S r1 r2 hg q => by
    obtain ⟨d', h1, h2⟩ := Option.map_eq_some_iff.mp hg
    cases h2
    exact ⟨μ, ih, x, y, d, S, r1, r2, h1, fun u hu => q.same S hu⟩) h
def fSl (fa : IEnv → IH → Option (D × IH)) (fl fh : IEnv → IH → Option (Option Int × IH)) : IEnv → IH → Option (D × IH) := fun env ih => match fa env ih with
  | some (x, ih1) => match fl env ih1 with
    | some (l, ih2) => match fh env ih2 with
      | some (h, ih3) => slop ih3 x l h
      | none => none
    | none => none
  | none => none
theorem pe_sl' {fl fh : IEnv → IH → Option (Option Int × IH)} {lo hi : Option Expr} {p2 : Pos} (ha : PE X a (rdE X.K T fa)) (hl : PO X lo (rdO X.K T fl)) (hh : PO X hi (rdO X.K T fh)) : PE X (.Subscript a (.Slice lo hi none p2) pos) (rdE X.K T (fSl fa fl fh)) := by
  refine (pe_slice (sl_all (T := T)) ha hl hh).imp fun σ H Q ⟨μ, env, ih, d, ih', S, E, ev, q⟩ => ?_
  unfold fSl at ev
  split at ev
  · rename_i h1
    split at ev
    · rename_i h2
      split at ev
      · rename_i h3
        exact rdE.mk S E h1 fun μ1 H1 v p1 x1 S1 E1 r1 => rdO.mk S1 E1 h2 fun μ2 H2 p2 x2 S2 E2 => rdO.mk S2 E2 h3 fun μ3 H3 p3 x3 S3 E3 =>
          ⟨μ3, _, _, d, ih', S3, r1.mono (x2.trans x3) (p2.trans p3), ev, q.step (p1.trans (p2.trans p3)) (x1.trans (x2.trans x3))⟩
      · cases ev
    · cases ev
  · cases ev
theorem po_no' : PO X none (rdO X.K T fun _ ih => some (none, ih)) := ⟨fun pins s σ H Q I ⟨μ, env, ih, o, ih', S, E, ev, q⟩ => by
  cases ev
  exact po_none.run pins s σ H Q I (q μ H (List.prefix_refl _) (Ext.refl _) S)⟩
def fO (fa : IEnv → IH → Option (D × IH)) : IEnv → IH → Option (Option Int × IH) := fun env ih => match fa env ih with
  | some (.int i, ih1) => some (some i, ih1)
  | _ => none
theorem po_yes' (ha : PE X a (rdE X.K T fa)) : PO X (some a) (rdO X.K T (fO fa)) := ⟨fun pins s σ H Q I ⟨μ, env, ih, o, ih', S, E, ev, q⟩ => by
  unfold fO at ev
  split at ev
  · rename_i h1
    cases ev
    exact (po_some ha).run pins s σ H Q I (rdE.mk S E h1 fun μ1 H1 v p1 x1 S1 E1 r1 => ⟨_, r1.int_, q μ1 H1 p1 x1 S1⟩)
  · cases ev⟩
/-! what a call of a def, of a built-in does -/
def fCall (C : List D → IH → Option (D × IH)) (fas : IEnv → IH → Option (List D × IH)) : IEnv → IH → Option (D × IH) := fun env ih => match fas env ih with
  | some (ds, ih1) => C ds ih1
  | none => none
theorem pe_call' {x : Str} {p : Pos} {n : Nat} (ok : COk X T C G L se) (hn : okName x = true) (hg : glC se x = true) (hf : G.funs.lookup x = some n) (hl : n = (e :: es).length) (hs : plainL (e :: es) = true) (ha : PA X (e :: es) (rdA X.K T fas)) (hlen : ∀ env ih ds ih', fas env ih = some (ds, ih') → ds.length = (e :: es).length) :
    PE X (.Call (.Name x p) (e :: es) [] pos) (rdE X.K T (fCall (C x) fas)) := by
  obtain ⟨fa, fd, ps, F, hm, hk, hb⟩ := ok.funs x n hf
  unfold plainL at hs
  rw [List.all_cons, Bool.and_eq_true] at hs
  unfold okName at hn
  simp only [Bool.and_eq_true, Bool.not_eq_true'] at hn
  refine (pe_call (dvs := []) (E := E0) F ok.roomL (ok.gl hg) hm hk hb .nil pass0 ha hn.1 (star_cons hs.1) (back_plain hs.2)).imp fun σ H Q ⟨μ, env, ih, d, ih', S, E, ev, q⟩ => ?_
  unfold fCall at ev
  split at ev
  · rename_i ds ih1 h1
    refine rdA.mk S E h1 fun μ1 H1 vs p1 x1 S1 E1 r1 => ?_
    rw [List.append_nil]
    exact ⟨by rw [r1.length, hl]; exact hlen _ _ _ _ h1, μ1, ih1, ds, d, ih', S1, r1, ev, q.step p1 x1⟩
  · cases ev
def fKeep (f : IEnv → IH → Option (D × IH)) : IEnv → IH → Option (D × IH) := fun env ih => keepH ih (f env ih)
theorem rd_keep {K : PySem.W.Frag} {σ : L2.St} {H : Hp} {Q : VK} (h : rdE K T (fKeep f) σ H Q) : rdE K T f σ H Q := by
  obtain ⟨μ, env, ih, d, ih', S, E, ev, q⟩ := h
  unfold fKeep keepH at ev
  split at ev
  · rename_i d0 ih0 h1
    split at ev
    · rename_i hc
      cases ev
      refine ⟨μ, env, ih, d, ih0, S, E, h1, fun μ' H' v p x s r => ?_⟩
      exact q μ H' v (List.prefix_refl _) x (S.drop p s hc.2) (r.pureMu hc.1)
    · cases ev
      exact ⟨μ, env, ih, d, ih', S, E, h1, q⟩
  · cases ev
theorem pe_blt' {p : Pos} (g : Blt) (ok : COk X T C G L se) (hg : glC se g.name = true) (hs : plainL (e :: es) = true) (ha : PA X (e :: es) (rdA X.K T fas)) :
    PE X (.Call (.Name g.name p) (e :: es) [] pos) (rdE X.K T (fCall (fun ds ih => bltop g ih ds) fas)) := by
  unfold plainL at hs
  rw [List.all_cons, Bool.and_eq_true] at hs
  have hm : X.mg g.name = none := ok.blt _ (by cases g <;> decide)
  have hc := call_blt (X := X) (T := T) g ok.calm
  have hv := g.boot
  have imp : ∀ σ H Q, rdE X.K T (fCall (fun ds ih => bltop g ih ds) fas) σ H Q → tCB (rBlt X.K T g) (rdA X.K T fas) σ H Q := fun σ H Q ⟨μ, env, ih, d, ih', S, E, ev, q⟩ => by
    unfold fCall at ev
    split at ev
    · rename_i ds ih1 h1
      exact rdA.mk S E h1 fun μ1 H1 vs p1 x1 S1 E1 r1 => ⟨μ1, ih1, ds, d, ih', S1, r1, ev, q.step p1 x1⟩
    · cases ev
  unfold Blt.val at hc hv
  split at hc
  · rename_i ht
    rw [if_pos ht] at hv
    exact (pe_callTy hc (ok.gl hg) hm hv ha g.ne1 g.ne2 (star_cons hs.1) (back_plain hs.2)).imp imp
  · rename_i ht
    rw [if_neg ht] at hv
    exact (pe_callB hc (ok.gl hg) hm hv ha g.ne1 g.ne2 (star_cons hs.1) (back_plain hs.2)).imp imp
def fIsi (t : String) (fa : IEnv → IH → Option (D × IH)) : IEnv → IH → Option (D × IH) := fun env ih => match fa env ih with
  | some (x, ih1) => (isiD ih1 x t).map fun b => (.bl b, ih1)
  | none => none
theorem ty_boot {t : String} {y : Str} (h : tyC t y = true) : bootBuiltins y = some (.type t) ∧ y ∈ bltNames ∧ y ≠ "__name__" ∧ (y == ("__debug__" : Str)) = false ∧ tyOk t = true := by
  unfold tyC at h
  split at h <;> first
    | (rw [beq_iff_eq] at h; subst h; exact ⟨by decide +kernel, by decide, by decide, by decide, by decide⟩)
    | cases h
theorem pe_isi' {x y : Str} {t : String} {p py : Pos} (ok : COk X T C G L se) (hx : x = "isinstance") (hg : glC se x = true) (hgy : glC se y = true) (ht : tyC t y = true) (hs : notStar a = true) (ha : PE X a (rdE X.K T fa)) :
    PE X (.Call (.Name x p) [a, .Name y py] [] pos) (rdE X.K T (fIsi t fa)) := by
  subst hx
  obtain ⟨b1, b2, b3, b4, b5⟩ := ty_boot ht
  have hy : PE X (.Name y py) (tC (.ty t)) := pe_bltn (ok.gl hgy) (ok.blt _ b2) b1 rfl b3 b4
  refine (pe_callB (call_isiD (T := T) t b5) (ok.gl hg) (ok.blt _ (by decide)) (by decide +kernel) (pa_cons ha (pa_cons hy pa_nil) (star_cons hs)) (by decide) (by decide) (star_cons hs)).imp fun σ H Q ⟨μ, env, ih, d, ih', S, E, ev, q⟩ => ?_
  unfold fIsi at ev
  split at ev
  · rename_i h1
    obtain ⟨b, h2, h3⟩ := Option.map_eq_some_iff.mp ev
    cases h3
    exact rdE.mk S E h1 fun μ1 H1 v p1 x1 S1 E1 r1 => ⟨μ1, _, _, v, b, rfl, S1, r1, h2, (q.step p1 x1).same S1 rep_bl⟩
  · cases ev
def fMeth (m : Mth) (fa : IEnv → IH → Option (D × IH)) (fas : IEnv → IH → Option (List D × IH)) : IEnv → IH → Option (D × IH) := fun env ih => match fa env ih with
  | some (x, ih1) => match fas env ih1 with
    | some (ds, ih2) => methop m ih2 x ds
    | none => none
  | none => none
theorem pe_meth' {m : Mth} {apos : Pos} {v : Expr} (ha : PE X a (rdE X.K T fa)) (hv : PA X [v] (rdA X.K T fas)) (h0 : notCall0 a = true) (hline : (apos.endLine == pos.line) = true) (hs : notStar v = true) :
    PE X (.Call (.Attribute a m.name apos) [v] [] pos) (rdE X.K T (fMeth m fa fas)) := by
  refine (pe_bmU ha hv (attr_of h0) ?_ hline (star_cons hs) rfl).imp fun σ H Q ⟨μ, env, ih, d, ih', S, E, ev, q⟩ => ?_
  · rw [star_cons hs]; rfl
  · unfold fMeth at ev
    split at ev
    · rename_i x ih1 h1
      split at ev
      · rename_i ds ih2 h2
        refine rdE.mk S E h1 fun μ1 H1 w p1 x1 S1 E1 r1 => ?_
        unfold methop at ev
        split at ev
        · rename_i y
          cases m with
          | append =>
            simp only at ev
            split at ev
            · rename_i n
              split at ev
              · rename_i xs h3
                split at ev
                · rename_i hz
                  cases ev
                  obtain ⟨b, eb, hb⟩ := r1.ref_
                  subst eb
                  -- the list stands at b, before the argument too
                  have hlt : ∃ o, ih1[n]? = some o := by
                    have : n < ih1.length := by rw [← S1.len]; exact (List.getElem?_eq_some_iff.mp hb).1
                    exact ⟨_, List.getElem?_eq_getElem this⟩
                  obtain ⟨o, ho⟩ := hlt
                  obtain ⟨vs, e1, e2⟩ : ∃ vs, SqL X.K H1 b vs ∧ True := by
                    have := S1.obj n o b ho hb
                    cases o with
                    | lst ds => obtain ⟨vs, h, _⟩ := this; exact ⟨vs, .of h, trivial⟩
                  refine ⟨rAppend, mu_list PySem.F.slot_list_append mt_ty1 (mt_append (X := X)) e1, ?_⟩
                  refine rdA.mk S1 E1 h2 fun μ2 H2 us p2 x2 S2 E2 r2 => ?_
                  obtain ⟨z, rfl, rz⟩ := r2.one
                  obtain ⟨b', ws, eb, k1, k2, k3, k4⟩ := ref_lst S2 (r1.mono x2 p2) h3
                  cases eb
                  exact ⟨b, ws, z, rfl, rfl, k3, by rw [k4.length]; exact hz, (q.step (p1.trans p2) (x1.trans x2)).wr S2 k2 k1 (k4.append (.cons rz .nil))⟩
                · cases ev
              · cases ev
            · cases ev
          | count =>
            simp only at ev
            split at ev
            · rename_i ys h3
              split at ev
              · rename_i hf
                rw [Bool.and_eq_true] at hf
                cases ev
                cases x with
                | tup zs =>
                  cases h3
                  obtain ⟨b, vs, rfl, e2, e3⟩ := r1.tup_
                  refine ⟨_, mu_tup PySem.F.slot_tuple_count mt_ty3 (TF.mt_tcount (X := X)) e2, ?_⟩
                  refine rdA.mk S1 E1 h2 fun μ2 H2 us p2 x2 S2 E2 r2 => ?_
                  obtain ⟨z, rfl, rz⟩ := r2.one
                  have e3' := e3.mono x2 p2
                  refine ⟨b, vs, z, rfl, rfl, by simp only [if_true]; exact (e2.ext x2).sq, flat_rep rz hf.1, flats_rep e3' hf.2, ?_⟩
                  rw [count_rep rz hf.1 e3' hf.2]
                  exact (q.step (p1.trans p2) (x1.trans x2)).same S2 rep_int
                | ref n =>
                  obtain ⟨b, eb, hb⟩ := r1.ref_
                  subst eb
                  have hlt : ∃ o, ih1[n]? = some o := by
                    have : n < ih1.length := by rw [← S1.len]; exact (List.getElem?_eq_some_iff.mp hb).1
                    exact ⟨_, List.getElem?_eq_getElem this⟩
                  obtain ⟨o, ho⟩ := hlt
                  obtain ⟨vs, e1, e2⟩ : ∃ vs, SqL X.K H1 b vs ∧ True := by
                    have := S1.obj n o b ho hb
                    cases o with
                    | lst ds => obtain ⟨vs, h, _⟩ := this; exact ⟨vs, .of h, trivial⟩
                  refine ⟨_, mu_list PySem.F.slot_list_count mt_ty2 (TF.mt_lcountF (X := X)) e1, ?_⟩
                  refine rdA.mk S1 E1 h2 fun μ2 H2 us p2 x2 S2 E2 r2 => ?_
                  obtain ⟨z, rfl, rz⟩ := r2.one
                  obtain ⟨b', ws, eb, k1, k2, k3, k4⟩ := ref_lst S2 (r1.mono x2 p2) (show lstAt _ n = some ys from h3)
                  cases eb
                  refine ⟨b, ws, z, rfl, rfl, by simp only [Bool.false_eq_true, if_false]; exact .of k3, flat_rep rz hf.1, flats_rep k4 hf.2, ?_⟩
                  rw [count_rep rz hf.1 k4 hf.2]
                  exact (q.step (p1.trans p2) (x1.trans x2)).same S2 rep_int
                | rol zs =>
                  cases h3
                  obtain ⟨b, vs, rfl, e2, e3⟩ := r1.rol_
                  refine ⟨_, mu_list PySem.F.slot_list_count mt_ty2 (TF.mt_lcountF (X := X)) e2.sq, ?_⟩
                  refine rdA.mk S1 E1 h2 fun μ2 H2 us p2 x2 S2 E2 r2 => ?_
                  obtain ⟨z, rfl, rz⟩ := r2.one
                  have e3' := e3.mono x2 p2
                  refine ⟨b, vs, z, rfl, rfl, by simp only [Bool.false_eq_true, if_false]; exact (e2.ext x2).sq, flat_rep rz hf.1, flats_rep e3' hf.2, ?_⟩
                  rw [count_rep rz hf.1 e3' hf.2]
                  exact (q.step (p1.trans p2) (x1.trans x2)).same S2 rep_int
                | _ => cases h3
              · cases ev
            · cases ev
          | index =>
            simp only at ev
            split at ev
            · rename_i ys
              split at ev
              · rename_i hf
                rw [Bool.and_eq_true] at hf
                obtain ⟨j, h3, h4⟩ := Option.map_eq_some_iff.mp ev
                cases h4
                obtain ⟨b, vs, rfl, e2, e3⟩ := r1.tup_
                refine ⟨_, mu_tup PySem.F.slot_tuple_index mt_ty4 (TF.mt_tindexF (X := X)) e2, ?_⟩
                refine rdA.mk S1 E1 h2 fun μ2 H2 us p2 x2 S2 E2 r2 => ?_
                obtain ⟨z, rfl, rz⟩ := r2.one
                have e3' := e3.mono x2 p2
                obtain ⟨u, g1, g2, g3⟩ := idx_rep rz hf.1 e3' hf.2 h3
                exact ⟨b, vs, z, u, j, rfl, rfl, (e2.ext x2).sq, flat_rep rz hf.1, flats_rep e3' hf.2, g1, g2, g3, (q.step (p1.trans p2) (x1.trans x2)).same S2 rep_int⟩
              · cases ev
            · cases ev
        · cases ev
      · cases ev
    · cases ev
end
end CP
set_option maxRecDepth 100000
set_option maxHeartbeats 4000000
/-! The checker is right: comprehensions, generator expressions, all expressions -/
namespace CP
open PySem PySem.Spec PyProof.Rows L2 GxR

def fComp (fi : IEnv → IH → Option (Walk × IH)) (ft : IEnv → IH → Option (Bool × IH)) (fe : IEnv → IH → Option (D × IH)) (t : MT) (own : List Nat) : IEnv → IH → Option (D × IH) := fun env ih => match fi env ih with
  | some (w, ih1) => match compLoop ft fe t w ih1.length (wipeE env own) w.items (ih1 ++ [.lst []]) with
    | some ih2 => some (.ref ih1.length, ih2)
    | none => none
  | none => none
def fGen (k : Bool) (fi : IEnv → IH → Option (Walk × IH)) (ft : IEnv → IH → Option (Bool × IH)) (fe : IEnv → IH → Option (D × IH)) (t : MT) (own : List Nat) : IEnv → IH → Option (D × IH) := fun env ih => match fi env ih with
  | some (w, ih1) => genLoop k ft fe t w (wipeE env own) w.items ih1
  | none => none
section
variable {K : PySem.W.Frag} {T : List Addr} {σ : L2.St} {H : Hp} {Q : VK} {fi : IEnv → IH → Option (Walk × IH)} {ft : IEnv → IH → Option (Bool × IH)} {fe : IEnv → IH → Option (D × IH)} {t : MT} {own : List Nat} {weak : Bool}
theorem rd_comp (hids : ∀ i ∈ t.ids, i ∈ own) (h : rdE K T (fComp fi ft fe t own) σ H Q) : tLc (rdI K T weak fi) (rdG K T weak t) (rdT K T ft) (rdE K T fe) own σ H Q := by
  obtain ⟨μ, env, ih, d, ih', S, E, ev, q⟩ := h
  unfold fComp at ev
  split at ev
  · rename_i w ih1 h1
    split at ev
    · rename_i ih2 h2
      cases ev
      refine ⟨μ, env, ih, w, ih1, S, E, h1, fun μ1 H1 J p1 x1 S1 good D hD => ?_⟩
      have hx0 : Ext H1 (upd H1 D (.lst [])) := Ext.new hD
      have S2 : StRel K T (μ1 ++ [D]) (ih1 ++ [.lst []]) (upd H1 D (.lst [])) := S1.new hD Reps.nil
      have hDn : (μ1 ++ [D])[ih1.length]? = some D := by rw [← S1.len, List.getElem?_append_right (Nat.le_refl _)]; simp
      refine ⟨fun i m H' => i + m = w.items.length ∧ ∃ μ2 ih3, (μ1 ++ [D]) <+: μ2 ∧ Ext (upd H1 D (.lst [])) H' ∧ StRel K T μ2 ih3 H' ∧ compLoop ft fe t w ih1.length (wipeE env own) (w.items.drop i) ih3 = some ih',
        ⟨w.items.length, by simp, μ1 ++ [D], ih1 ++ [.lst []], List.prefix_refl _, Ext.refl _, S2, by simpa using h2⟩, ?_⟩
      rintro i m H' ⟨him, μ2, ih3, p2, x2, S3, hl⟩
      have p12 : μ1 <+: μ2 := (List.prefix_append _ _).trans p2
      have x12 : Ext H1 H' := hx0.trans x2
      have hok : w.ok ih3 = true := by
        cases hd : w.items.drop i with
        | nil =>
          rw [hd] at hl
          unfold compLoop at hl
          split at hl
          · assumption
          · cases hl
        | cons y ys =>
          rw [hd] at hl
          unfold compLoop at hl
          split at hl
          · assumption
          · cases hl
      obtain ⟨gs, gi⟩ := good i μ2 ih3 H' p12 x12 S3 hok
      cases hd : w.items.drop i with
      | nil =>
        left
        refine ⟨gs (List.drop_eq_nil_iff.mp hd), ?_⟩
        rw [hd] at hl
        unfold compLoop at hl
        rw [if_pos hok] at hl
        cases hl
        refine q μ2 H' _ (p1.trans p12) (x1.trans x12) S3 ?_
        unfold Rep
        exact ⟨D, rfl, pre_get p2 hDn⟩
      | cons y ys =>
        right
        have hi : w.items[i]? = some y := by
          have := List.getElem?_drop (xs := w.items) (i := i) (j := 0)
          rw [hd] at this
          simpa using this.symm
        have hys : w.items.drop (i + 1) = ys := by
          rw [← List.drop_drop, hd]; rfl
        have him' : i < w.items.length := (List.getElem?_eq_some_iff.mp hi).1
        obtain ⟨g1, g2⟩ := gi y hi
        refine ⟨g1, fun H'' => ∃ μ3 ih4, (μ1 ++ [D]) <+: μ3 ∧ Ext (upd H1 D (.lst [])) H'' ∧ StRel K T μ3 ih4 H'' ∧ compLoop ft fe t w ih1.length (wipeE env own) ys ih4 = some ih',
          fun H'' ⟨μ3, ih4, a1, a2, a3, a4⟩ => ⟨m - 1, by omega, by omega, μ3, ih4, a1, a2, a3, by rw [hys]; exact a4⟩, fun x H2 hy => ?_⟩
        obtain ⟨y1, y2, y3⟩ := g2 x H2 hy
        rw [hd] at hl
        unfold compLoop at hl
        rw [if_pos hok] at hl
        split at hl
        · rename_i env1 ha
          have E2 : EnvRel K H2 μ2 (wipeE env own) (wipe σ own) := wipe_rel ((E.mono (x1.trans (x12.trans y1)) (p1.trans p12))) own
          refine ⟨μ2, wipeE env own, ih3, y, env1, y2, E2, y3, ha, fun σ2 E3 hw => ⟨by rw [hw own hids]; exact GA.wipe_wipe σ own, ?_⟩⟩
          split at hl
          · rename_i ih4 ht
            refine rdT.mk y2 E3 ht fun μ3 H3 p3 x3 S4 E4 => ?_
            simp only [if_true]
            split at hl
            · rename_i d ih5 he
              refine rdE.mk S4 E4 he fun μ4 H4 v p4 x4 S5 E5 rv => ?_
              split at hl
              · rename_i ds h5
                split at hl
                · rename_i hz
                  have hD4 : μ4[ih1.length]? = some D := pre_get ((p2.trans p3).trans p4) hDn
                  have h5' := lstAt_ix h5
                  obtain ⟨vs, e1, e2⟩ := S5.obj _ _ D h5' hD4
                  refine ⟨vs, e1, by rw [e2.length]; exact hz, μ4, _, (p2.trans p3).trans p4, ?_, S5.wr h5' hD4 (e2.append (.cons rv .nil)), hl⟩
                  exact ((x2.trans y1).trans (x3.trans x4)).trans (Ext.lst e1)
                · cases hl
              · cases hl
            · cases hl
          · rename_i ih4 ht
            refine rdT.mk y2 E3 ht fun μ3 H3 p3 x3 S4 E4 => ?_
            simp only [Bool.false_eq_true, if_false]
            exact ⟨μ3, ih4, p2.trans p3, (x2.trans y1).trans x3, S4, hl⟩
          · cases hl
        · cases hl
    · cases ev
  · cases ev
theorem rd_gen {k : Bool} {P : Addr} (hP : P ∈ T) (hids : ∀ i ∈ t.ids, i ∈ own) (h : rdE K T (fGen k fi ft fe t own) σ H Q) : GA.tGen k P (rdI K T weak fi) (rdG K T weak t) (rdT K T ft) (rdE K T fe) own σ H Q := by
  obtain ⟨μ, env, ih, d, ih', S, E, ev, q⟩ := h
  unfold fGen at ev
  split at ev
  · rename_i w ih1 h1
    refine ⟨μ, env, ih, w, ih1, S, E, h1, fun μ1 H1 J p1 x1 S1 good => ⟨S1.tab P hP, fun H0 hT => ?_⟩⟩
    obtain ⟨ps, hPs, _⟩ := S1.tab P hP
    have hx0 : Ext H1 H0 := Ext.tab hPs hT
    have S2 : StRel K T μ1 ih1 H0 := S1.tabbed hPs hT
    refine ⟨fun i m H' => i + m = w.items.length ∧ ∃ μ2 ih3, μ1 <+: μ2 ∧ Ext H0 H' ∧ StRel K T μ2 ih3 H' ∧ genLoop k ft fe t w (wipeE env own) (w.items.drop i) ih3 = some (d, ih'),
      ⟨w.items.length, by simp, μ1, ih1, List.prefix_refl _, Ext.refl _, S2, by simpa using ev⟩, ?_⟩
    rintro i m H' ⟨him, μ2, ih3, p12, x2, S3, hl⟩
    have x12 : Ext H1 H' := hx0.trans x2
    have hok : w.ok ih3 = true := by
      cases hd : w.items.drop i with
      | nil =>
        rw [hd] at hl
        unfold genLoop at hl
        split at hl
        · assumption
        · cases hl
      | cons y ys =>
        rw [hd] at hl
        unfold genLoop at hl
        split at hl
        · assumption
        · cases hl
    obtain ⟨gs, gi⟩ := good i μ2 ih3 H' p12 x12 S3 hok
    cases hd : w.items.drop i with
    | nil =>
      left
      refine ⟨gs (List.drop_eq_nil_iff.mp hd), ?_⟩
      rw [hd] at hl
      unfold genLoop at hl
      rw [if_pos hok] at hl
      cases hl
      exact q μ2 H' _ (p1.trans p12) (x1.trans x12) S3 rep_bl
    | cons y ys =>
      right
      have hi : w.items[i]? = some y := by
        have := List.getElem?_drop (xs := w.items) (i := i) (j := 0)
        rw [hd] at this
        simpa using this.symm
      have hys : w.items.drop (i + 1) = ys := by
        rw [← List.drop_drop, hd]; rfl
      have him' : i < w.items.length := (List.getElem?_eq_some_iff.mp hi).1
      obtain ⟨g1, g2⟩ := gi y hi
      refine ⟨g1, fun H'' => ∃ μ3 ih4, μ1 <+: μ3 ∧ Ext H0 H'' ∧ StRel K T μ3 ih4 H'' ∧ genLoop k ft fe t w (wipeE env own) ys ih4 = some (d, ih'),
        fun H'' ⟨μ3, ih4, a1, a2, a3, a4⟩ => ⟨m - 1, by omega, by omega, μ3, ih4, a1, a2, a3, by rw [hys]; exact a4⟩, fun x H2 hy => ?_⟩
      obtain ⟨y1, y2, y3⟩ := g2 x H2 hy
      rw [hd] at hl
      unfold genLoop at hl
      rw [if_pos hok] at hl
      split at hl
      · rename_i env1 ha
        have E2 : EnvRel K H2 μ2 (wipeE env own) (wipe σ own) := wipe_rel ((E.mono (x1.trans (x12.trans y1)) (p1.trans p12))) own
        refine ⟨μ2, wipeE env own, ih3, y, env1, y2, E2, y3, ha, fun σ2 E3 hw => ⟨by rw [hw own hids]; exact GA.wipe_wipe σ own, ?_⟩⟩
        split at hl
        · rename_i ih4 ht
          refine rdT.mk y2 E3 ht fun μ3 H3 p3 x3 S4 E4 => ?_
          simp only [if_true]
          split at hl
          · rename_i c ih5 he
            refine rdE.mk S4 E4 he fun μ4 H4 v p4 x4 S5 E5 rv => ⟨c, rv.bl_, ?_⟩
            split at hl
            · rename_i hc
              rw [if_pos hc]
              cases hl
              exact q μ4 H4 _ (p1.trans (p12.trans (p3.trans p4))) (x1.trans (x12.trans (y1.trans (x3.trans x4)))) S5 rep_bl
            · rename_i hc
              rw [if_neg hc]
              exact ⟨μ4, ih5, p12.trans (p3.trans p4), x2.trans (y1.trans (x3.trans x4)), S5, hl⟩
          · cases hl
        · rename_i ih4 ht
          refine rdT.mk y2 E3 ht fun μ3 H3 p3 x3 S4 E4 => ?_
          simp only [Bool.false_eq_true, if_false]
          exact ⟨μ3, ih4, p12.trans p3, (x2.trans y1).trans x3, S4, hl⟩
        · cases hl
      · cases hl
  · cases ev
end
theorem ownL_snd (N : List Str) (own : List Nat) : (ownL N own).map (·.2) = own := by
  unfold ownL
  rw [List.map_map]
  exact List.map_id own
/-! walks -/
section
variable {X : Cx} {T : List Addr} {C : Orc} {G : GE} {L : Nat} {se : SE} {tg e a b : Expr} {pos p : Pos}
def fVal (fa : IEnv → IH → Option (D × IH)) : IEnv → IH → Option (Walk × IH) := fun env ih => match fa env ih with
  | some (x, ih1) => (walkD ih1 x).map fun w => (w, ih1)
  | none => none
theorem pi_val' {fa : IEnv → IH → Option (D × IH)} (ha : PE X e (rdE X.K T fa)) : PI X tg e (rdI X.K T false (fVal fa)) := by
  refine ((pi_list ha).or ((pi_tup ha).or (pi_str ha))).imp fun σ H R ⟨μ, env, ih, w, ih', S, E, ev, q⟩ => ?_
  unfold fVal at ev
  split at ev
  · rename_i x ih1 h1
    obtain ⟨w', h2, h3⟩ := Option.map_eq_some_iff.mp ev
    cases h3
    unfold walkD at h2
    split at h2
    · rename_i z
      cases h2
      right; right
      exact rdE.mk S E h1 fun μ1 H1 v p1 x1 S1 E1 r1 => ⟨z, r1.str_, q μ1 H1 _ p1 x1 S1 good_str⟩
    · cases h2
      right; left
      refine rdE.mk S E h1 fun μ1 H1 v p1 x1 S1 E1 r1 => ?_
      obtain ⟨a, vs, rfl, e2, e3⟩ := id r1.tup_
      exact ⟨a, rfl, ⟨vs, e2.sq⟩, q μ1 H1 _ p1 x1 S1 (good_tup r1)⟩
    · obtain ⟨xs, h4, h5⟩ := Option.map_eq_some_iff.mp h2
      cases h5
      left
      refine rdE.mk S E h1 fun μ1 H1 v p1 x1 S1 E1 r1 => ?_
      obtain ⟨a, vs, rfl, e2, e3⟩ := lst_of S1 r1 h4
      exact ⟨a, rfl, ⟨vs, e2⟩, q μ1 H1 _ p1 x1 S1 (good_list S1 r1 h4)⟩
  · cases ev
def fRng (fas : IEnv → IH → Option (List D × IH)) : IEnv → IH → Option (Walk × IH) := fun env ih => match fas env ih with
  | some (ds, ih1) => (rangeW ds).map fun w => (w, ih1)
  | none => none
theorem small_of {j : Int} (h : small62 j = true) : -(2 ^ 62) ≤ j ∧ j < 2 ^ 62 := by
  unfold small62 at h
  simpa using h
theorem pi_rng1' {fas : IEnv → IH → Option (List D × IH)} (ok : COk X T C G L se) (hg : glC se "range" = true) (hs : notStar a = true) (hl : ∀ env ih ds ih', fas env ih = some (ds, ih') → ds.length = 1) (ha : PA X [a] (rdA X.K T fas)) : PI X tg (.Call (.Name "range" p) [a] [] pos) (rdI X.K T false (fRng fas)) := by
  refine (pi_range1 (ok.gl hg) (ok.blt _ (by decide)) ha (star_cons hs)).imp fun σ H R ⟨μ, env, ih, w, ih', S, E, ev, q⟩ => ?_
  unfold fRng at ev
  split at ev
  · rename_i ds ih1 h1
    have hlen := hl _ _ _ _ h1
    obtain ⟨w', h2, h3⟩ := Option.map_eq_some_iff.mp ev
    cases h3
    unfold rangeW at h2
    split at h2
    · split at h2
      · rename_i hz
        cases h2
        refine rdA.mk S E h1 fun μ1 H1 vs p1 x1 S1 E1 r1 => ?_
        obtain ⟨v, rfl, rv⟩ := r1.one
        have hz := small_of hz
        exact ⟨_, by rw [rv.int_], hz.1, hz.2, q μ1 H1 _ p1 x1 S1 good_rng⟩
      · cases h2
    · cases hlen
    · cases h2
  · cases ev
theorem pi_rng2' {fas : IEnv → IH → Option (List D × IH)} (ok : COk X T C G L se) (hg : glC se "range" = true) (hs : notStar a = true) (hs2 : notStar b = true) (hl : ∀ env ih ds ih', fas env ih = some (ds, ih') → ds.length = 2) (ha : PA X [a, b] (rdA X.K T fas)) : PI X tg (.Call (.Name "range" p) [a, b] [] pos) (rdI X.K T false (fRng fas)) := by
  refine (pi_range2 (ok.gl hg) (ok.blt _ (by decide)) ha (by rw [star_cons hs, star_cons hs2]; rfl) (by rw [star_cons hs2]; rfl)).imp fun σ H R ⟨μ, env, ih, w, ih', S, E, ev, q⟩ => ?_
  unfold fRng at ev
  split at ev
  · rename_i ds ih1 h1
    have hlen := hl _ _ _ _ h1
    obtain ⟨w', h2, h3⟩ := Option.map_eq_some_iff.mp ev
    cases h3
    unfold rangeW at h2
    split at h2
    · cases hlen
    · split at h2
      · rename_i hz
        cases h2
        rw [Bool.and_eq_true] at hz
        refine rdA.mk S E h1 fun μ1 H1 vs p1 x1 S1 E1 r1 => ?_
        obtain ⟨v, w, rfl, rv, rw'⟩ := r1.two
        have h1 := small_of hz.1
        have h2 := small_of hz.2
        exact ⟨_, _, by rw [rv.int_, rw'.int_], ⟨h1.1, h1.2, h2.1, h2.2⟩, q μ1 H1 _ p1 x1 S1 good_rng⟩
      · cases h2
    · cases h2
  · cases ev
def fZip (fa fb : IEnv → IH → Option (D × IH)) : IEnv → IH → Option (Walk × IH) := fun env ih => match fa env ih with
  | some (x, ih1) => match fb env ih1 with
    | some (y, ih2) => (zipW ih2 x y).map fun w => (w, ih2)
    | none => none
  | none => none
theorem pi_zip' {fa fb : IEnv → IH → Option (D × IH)} {elts : List Expr} {kk : Nat} {tpos : Pos} (ok : COk X T C G L se) (hg : glC se "zip" = true) (hs : notStar a = true) (hs2 : notStar b = true) (ha : PE X a (rdE X.K T fa)) (hb : PE X b (rdE X.K T fb)) :
    PI X (.Tuple elts kk tpos) (.Call (.Name "zip" p) [a, b] [] pos) (rdI X.K T true (fZip fa fb)) := by
  refine (RZ.pi_zipA (ok.gl hg) (ok.blt _ (by decide)) (pa_cons ha (pa_cons hb pa_nil (star_cons hs2)) (star_cons hs)) (star_cons hs) (by rw [star_cons hs2]; rfl)).imp fun σ H R ⟨μ, env, ih, w, ih', S, E, ev, q⟩ => ?_
  unfold fZip at ev
  split at ev
  · rename_i x ih1 h1
    split at ev
    · rename_i y ih2 h2
      obtain ⟨w', h3, h4⟩ := Option.map_eq_some_iff.mp ev
      cases h4
      refine rdE.mk S E h1 fun μ1 H1 v p1 x1 S1 E1 r1 => rdE.mk S1 E1 h2 fun μ2 H2 u p2 x2 S2 E2 r2 => ?_
      have r1' := r1.mono x2 p2
      unfold zipW at h3
      split at h3
      · cases h3
        obtain ⟨a, vs, rfl, e2, e3⟩ := id r1'.tup_
        obtain ⟨b, ws, rfl, f2, f3⟩ := id r2.tup_
        exact ⟨a, b, vs, ws, rfl, .inr ⟨e2.sq, f2.sq, q μ2 H2 _ (p1.trans p2) (x1.trans x2) S2 (good_zipT r1' r2)⟩⟩
      · split at h3
        · rename_i hx hy
          cases h3
          obtain ⟨a, vs, rfl, e2, e3⟩ := lst_of S2 r1' hx
          obtain ⟨b, ws, rfl, f2, f3⟩ := lst_of S2 r2 hy
          exact ⟨a, b, vs, ws, rfl, .inl ⟨e2, f2, q μ2 H2 _ (p1.trans p2) (x1.trans x2) S2 (good_zipL S2 r1' r2 hx hy)⟩⟩
        · cases h3
    · cases ev
  · cases ev
end
/-! ### all expressions -/
theorem evEs_len (C : Orc) : ∀ (ms : MEs) {G : GE} {se : SE} {es : List Expr} {env : IEnv} {ih : IH} {ds : List D} {ih' : IH}, trEs G se ms es = true → evEs C ms env ih = some (ds, ih') → ds.length = es.length
  | .nil, G, se, es, env, ih, ds, ih', h, ev => by
    unfold trEs at h
    unfold evEs at ev
    cases ev
    cases es with
    | nil => rfl
    | cons _ _ => cases h
  | .cons m ms, G, se, es, env, ih, ds, ih', h, ev => by
    unfold trEs at h
    cases es with
    | nil => cases h
    | cons e es =>
      simp only [Bool.and_eq_true] at h
      unfold evEs at ev
      split at ev
      · split at ev
        · rename_i h2
          cases ev
          rw [List.length_cons, List.length_cons, evEs_len C ms h.2 h2]
        · cases ev
      · cases ev
theorem trEs_plain : ∀ (ms : MEs) {G : GE} {se : SE} {es : List Expr}, trEs G se ms es = true → plainL es = true
  | .nil, G, se, es, h => by
    unfold trEs at h
    cases es with
    | nil => rfl
    | cons _ _ => cases h
  | .cons m ms, G, se, es, h => by
    unfold trEs at h
    cases es with
    | nil => cases h
    | cons e es =>
      simp only [Bool.and_eq_true] at h
      unfold plainL
      rw [List.all_cons, Bool.and_eq_true]
      exact ⟨h.1.1, trEs_plain ms h.2⟩
theorem lit_rep {K : PySem.W.Frag} {H : Hp} {μ : List Addr} : ∀ {d : D} {c : Const}, litC d c = true → ∃ v, Rep K H μ d v ∧ ∀ (X : Cx) (k : Nat) (pos : Pos), PE X (.Constant c k pos) (tC v) := by
  intro d c h
  unfold litC at h
  split at h
  · exact ⟨_, rep_non, fun X k pos => pe_non⟩
  · rw [beq_iff_eq] at h; subst h
    exact ⟨_, rep_bl, fun X k pos => pe_bl⟩
  · rw [decide_eq_true_eq] at h; subst h
    exact ⟨_, rep_int, fun X k pos => pe_int⟩
  · rw [decide_eq_true_eq] at h; subst h
    exact ⟨_, rep_str, fun X k pos => pe_str⟩
  · cases h
end CP
set_option maxRecDepth 100000
set_option maxHeartbeats 4000000
/-! The checker is right: the whole of expressions -/
namespace CP
open PySem PySem.Spec PyProof.Rows L2 GxR

section
variable {T : List Addr} {C : Orc} {G : GE} {L : Nat}
abbrev OkE (X : Cx) (T : List Addr) (f : IEnv → IH → Option (D × IH)) (e : Expr) : Prop := PE X e (rdE X.K T f) ∧ PT X e (rdT X.K T (asT f))
theorem both {X : Cx} {f : IEnv → IH → Option (D × IH)} {e : Expr} (h : PE X e (rdE X.K T f)) (he : ∀ whole, isTrue e X.env whole = (do let v ← whole; standAt e.pos; holding [v] (truthy v))) : OkE X T f e := ⟨h, pt_of h he⟩
theorem tt_of {f : IEnv → IH → Option (Bool × IH)} {fo : IEnv → IH → Option (D × IH)} {X : Cx} {e : List Expr} (h : PTs X e (rdT X.K T (asT fo))) (ef : f = asT fo) : PTs X e (rdT X.K T f) := by rw [ef]; exact h
mutual
theorem okE : ∀ (m : ME) {X : Cx} {se : SE} {e : Expr}, COk X T C G L se → trE G se m e = true → OkE X T (evE C m) e
  | .var i, X, se, e, ok, h => by
    unfold trE at h
    split at h
    · rename_i x p
      simp only [Bool.and_eq_true, decide_eq_true_eq] at h
      obtain ⟨⟨h1, h2⟩, h3⟩ := h
      unfold okName at h2
      simp only [Bool.and_eq_true, Bool.not_eq_true'] at h2
      refine both ((pe_var (by rw [ok.N]; exact h3) (ok.vis h1) h2.1 h2.2).imp fun σ H Q ⟨μ, env, ih, d, ih', S, E, ev, q⟩ => ?_) fun _ => rfl
      unfold evE at ev
      split at ev
      · rename_i h4
        cases ev
        obtain ⟨v, e1, e2⟩ := E.get i _ h4
        exact ⟨v, e1, q.same S e2⟩
      · cases ev
    · cases h
  | .lit d, X, se, e, ok, h => by
    unfold trE at h
    split at h
    · rename_i c k p
      refine both (⟨fun pins s σ H Q I ⟨μ, env, ih, d', ih', S, E, ev, q⟩ => ?_⟩) fun _ => rfl
      unfold evE at ev
      cases ev
      obtain ⟨v, r, pe⟩ := lit_rep (K := X.K) (H := H) (μ := μ) h
      exact (pe X k p).run pins s σ H Q I (q.same S r)
    · cases h
  | .glob x d, X, se, e, ok, h => by
    unfold trE at h
    split at h
    · rename_i y p
      simp only [Bool.and_eq_true, decide_eq_true_eq] at h
      obtain ⟨⟨⟨h1, h2⟩, h3⟩, h4⟩ := h
      unfold okName at h2
      simp only [Bool.and_eq_true, Bool.not_eq_true'] at h2
      obtain ⟨v, u, k1, k2, k3⟩ := ok.globs y d h4
      refine both ((pe_glob (ok.gl h3) k1 k2 h2.1).imp fun σ H Q ⟨μ, env, ih, d', ih', S, E, ev, q⟩ => ?_) fun _ => rfl
      unfold evE at ev
      cases ev
      exact q.same S (k3 H μ)
    · cases h
  | .bin o a b, X, se, e, ok, h => by
    unfold trE at h
    split at h
    · simp only [Bool.and_eq_true, decide_eq_true_eq] at h
      obtain ⟨⟨h1, h2⟩, h3⟩ := h
      subst h1
      have r := pe_bin (pos := by assumption) o (okE a ok h2).1 (okE b ok h3).1
      have ef : evE C (.bin o a b) = fBin (binop o) (evE C a) (evE C b) := by funext env ih; simp only [evE, fBin] <;> rfl
      rw [ef]
      exact both r fun _ => rfl
    · cases h
  | .cmp o a b, X, se, e, ok, h => by
    unfold trE at h
    split at h
    · simp only [Bool.and_eq_true, decide_eq_true_eq, Bool.not_eq_true'] at h
      obtain ⟨⟨⟨h1, h0⟩, h2⟩, h3⟩ := h
      subst h1
      have hu : X.A.units + 65 < cLine := by have := ok.roomL.un; omega
      have ef : evE C (.cmp o a b) = fBin (gCmp o) (evE C a) (evE C b) := by
        funext env ih; simp only [evE, fBin, gCmp] <;> rfl
      rw [ef]
      exact ⟨pe_cmp' o hu (okE a ok h2).1 (okE b ok h3).1 h0, pt_cmp' o hu (okE a ok h2).1 (okE b ok h3).1 h0⟩
    · cases h
  | .chain o p a b c, X, se, e, ok, h => by
    unfold trE at h
    split at h
    · simp only [Bool.and_eq_true, decide_eq_true_eq, Bool.not_eq_true'] at h
      obtain ⟨⟨⟨⟨⟨h1, h1'⟩, h0⟩, h2⟩, h3⟩, h4⟩ := h
      subst h1 h1'
      have hu : X.A.units + 65 < cLine := by have := ok.roomL.un; omega
      have ef : evE C (.chain o p a b c) = fChain o p (evE C a) (evE C b) (evE C c) := by
        funext env ih; simp only [evE, fChain] <;> rfl
      rw [ef]
      exact ⟨pe_chain' o p hu (okE a ok h2).1 (okE b ok h3).1 (okE c ok h4).1 h0, pt_chain' o p hu (okE a ok h2).1 (okE b ok h3).1 (okE c ok h4).1 h0⟩
    · cases h
  | .not a, X, se, e, ok, h => by
    unfold trE at h
    split at h
    · have ef : evE C (.not a) = fNot (evE C a) := by
        funext env ih; simp only [evE, fNot] <;> rfl
      rw [ef]
      exact ⟨pe_not' (okE a ok h).1, pt_not' (okE a ok h).2⟩
    · cases h
  | .neg a, X, se, e, ok, h => by
    unfold trE at h
    split at h
    · have ef : evE C (.neg a) = fNeg (evE C a) := by
        funext env ih; simp only [evE, fNeg] <;> rfl
      rw [ef]
      exact both (pe_neg' (okE a ok h).1) fun _ => rfl
    · cases h
  | .and es, X, se, e, ok, h => by
    unfold trE at h
    split at h
    · have ef : evE C (.and es) = evAnd C es := by funext env ih; simp only [evE] <;> rfl
      rw [ef]
      obtain ⟨h1, h2⟩ := okAnd es (pos := by assumption) ok h
      exact ⟨h1, h2.pt⟩
    · cases h
  | .or es, X, se, e, ok, h => by
    unfold trE at h
    split at h
    · have ef : evE C (.or es) = evOr C es := by funext env ih; simp only [evE] <;> rfl
      rw [ef]
      obtain ⟨h1, h2⟩ := okOr es (pos := by assumption) ok h
      exact ⟨h1, h2.pt⟩
    · cases h
  | .ite c a b, X, se, e, ok, h => by
    unfold trE at h
    split at h
    · simp only [Bool.and_eq_true] at h
      have ef : evE C (.ite c a b) = fIte (evE C c) (evE C a) (evE C b) := by funext env ih; simp only [evE, fIte] <;> rfl
      rw [ef]
      exact ⟨pe_ite' (okE c ok h.1.1).2 (okE a ok h.1.2).1 (okE b ok h.2).1, pt_ite' (okE c ok h.1.1).2 (okE a ok h.1.2).2 (okE b ok h.2).2⟩
    · cases h
  | .tup es, X, se, e, ok, h => by
    unfold trE at h
    split at h
    · have ef : evE C (.tup es) = fTup (evEs C es) := by funext env ih; simp only [evE, fTup] <;> rfl
      rw [ef]
      exact both (pe_tup' (okEs es ok h)) fun _ => rfl
    · cases h
  | .lst es, X, se, e, ok, h => by
    unfold trE at h
    split at h
    · have ef : evE C (.lst es) = fLst (evEs C es) := by funext env ih; simp only [evE, fLst] <;> rfl
      rw [ef]
      exact both (pe_lst' (okEs es ok h)) fun _ => rfl
    · cases h
  | .ix a b, X, se, e, ok, h => by
    unfold trE at h
    split at h
    · simp only [Bool.and_eq_true] at h
      have ef : evE C (.ix a b) = fBin gIx (evE C a) (evE C b) := by funext env ih; simp only [evE, fBin, gIx] <;> rfl
      rw [ef]
      exact both (pe_ix' (okE a ok h.1.2).1 (okE b ok h.2).1 h.1.1) fun _ => rfl
    · cases h
  | .sl a lo hi, X, se, e, ok, h => by
    unfold trE at h
    split at h
    · simp only [Bool.and_eq_true] at h
      have ef : evE C (.sl a lo hi) = fSl (evE C a) (evO C lo) (evO C hi) := by funext env ih; simp only [evE, fSl] <;> rfl
      rw [ef]
      exact both (pe_sl' (okE a ok h.1.1).1 (okO lo ok h.1.2) (okO hi ok h.2)) fun _ => rfl
    · cases h
  | .call f es, X, se, e, ok, h => by
    unfold trE at h
    split at h
    · simp only [Bool.and_eq_true, decide_eq_true_eq] at h
      obtain ⟨⟨⟨⟨h1, h2⟩, h3⟩, h4⟩, h5⟩ := h
      rename_i x p0 v vs p
      subst h1
      have ef : evE C (.call x es) = fCall (C x) (evEs C es) := by funext env ih; simp only [evE, fCall] <;> rfl
      rw [ef]
      exact both (pe_call' ok h2 h3 h4 rfl (trEs_plain es h5) (okEs es ok h5) fun env ih ds ih' hh => evEs_len C es h5 hh) fun _ => rfl
    · cases h
  | .blt f es, X, se, e, ok, h => by
    unfold trE at h
    split at h
    · simp only [Bool.and_eq_true, decide_eq_true_eq] at h
      obtain ⟨⟨h1, h2⟩, h3⟩ := h
      subst h1
      have ef : evE C (.blt f es) = fKeep (fCall (fun ds ih => bltop f ih ds) (evEs C es)) := by funext env ih; simp only [evE, fCall, fKeep] <;> rfl
      rw [ef]
      exact both ((pe_blt' f ok h2 (trEs_plain es h3) (okEs es ok h3)).imp fun σ H Q hh => rd_keep hh) fun _ => rfl
    · cases h
  | .meth m a es, X, se, e, ok, h => by
    unfold trE at h
    split at h
    · simp only [Bool.and_eq_true, decide_eq_true_eq] at h
      obtain ⟨⟨⟨⟨h1, h2⟩, h3⟩, h4⟩, h5⟩ := h
      subst h1
      have ef : evE C (.meth m a es) = fMeth m (evE C a) (evEs C es) := by funext env ih; simp only [evE, fMeth] <;> rfl
      rw [ef]
      have hp := trEs_plain es h5
      unfold plainL at hp
      rw [List.all_cons, Bool.and_eq_true] at hp
      exact both (pe_meth' (okE a ok h4).1 (okEs es ok h5) h2 h3 hp.1) fun _ => rfl
    · cases h
  | .isi a t, X, se, e, ok, h => by
    unfold trE at h
    split at h
    · simp only [Bool.and_eq_true, decide_eq_true_eq] at h
      obtain ⟨⟨⟨⟨⟨h1, h2⟩, h3⟩, h4⟩, h5⟩, h6⟩ := h
      have ef : evE C (.isi a t) = fIsi t (evE C a) := by funext env ih; simp only [evE, fIsi] <;> rfl
      rw [ef]
      exact both (pe_isi' ok h1 h2 h3 h4 h5 (okE a ok h6).1) fun _ => rfl
    · cases h
  | .comp elt tg it ifs own, X, se, e, ok, h => by
    unfold trE at h
    split at h
    · simp only [Bool.and_eq_true, decide_eq_true_eq] at h
      obtain ⟨⟨⟨⟨⟨⟨⟨⟨h1, h2⟩, h3⟩, h4⟩, h5⟩, h6⟩, h7⟩, h8⟩, h9⟩ := h
      subst h1
      rename_i el t i fs scope p
      have ef : evE C (.comp elt tg it ifs own) = fComp (evI C it) (evT C ifs) (evE C elt) tg own := by funext env ih; simp only [evE, fComp] <;> rfl
      rw [ef]
      have hw : (!it.weak || tg.isTup) = true := by
        cases hq : it.weak <;> simp_all
      have hwt : it.weak = true → isTupE t = true := fun hq => by simp_all
      have r := pe_lc (pos := p) (g := rdG X.K T it.weak tg) (tt := rdT X.K T (evT C ifs)) (te := rdE X.K T (evE C elt)) ok.calm ok.nd (okI it ok hwt h6) (by rw [ok.N, ok.sc]; exact blkOk_by h3) (fun s H D cl fp => okG (weak := it.weak) (ok.blk s H D cl fp) hw h7)
        (fun s H D cl fp => okT ifs (ok.blk s H D cl fp) h8) (fun s H D cl fp => (okE elt (ok.blk s H D cl fp) h9).1) (folded_of h2)
      rw [ownL_snd] at r
      exact both (r.imp fun σ H Q hh => rd_comp (List.all_eq_true.mp h5 · · |> of_decide_eq_true) hh) fun _ => rfl
    · cases h
  | .gen k elt tg it ifs own, X, se, e, ok, h => by
    unfold trE at h
    split at h
    · simp only [Bool.and_eq_true, decide_eq_true_eq] at h
      obtain ⟨⟨⟨⟨⟨⟨⟨⟨⟨⟨⟨h0, h01⟩, h02⟩, h1⟩, h2⟩, h3⟩, h4⟩, h5⟩, h6⟩, h7⟩, h8⟩, h9⟩ := h
      subst h1 h0
      rename_i p el t i fs scope gpos pos
      have ef : evE C (.gen k elt tg it ifs own) = fGen k (evI C it) (evT C ifs) (evE C elt) tg own := by funext env ih; simp only [evE, fGen] <;> rfl
      rw [ef]
      have hw : (!it.weak || tg.isTup) = true := by
        cases hq : it.weak <;> simp_all
      have hwt : it.weak = true → isTupE t = true := fun hq => by simp_all
      obtain ⟨c, P, g1, g2, g3⟩ := ok.gen h02
      have r := GA.pe_gen (p := p) (pos := pos) (gpos := gpos) (g := rdG X.K T it.weak tg) (tt := rdT X.K T (evT C ifs)) (te := rdE X.K T (evE C elt)) k ok.roomL.depth (ok.gl h01) (ok.blt _ (by cases k <;> decide)) (by decide +kernel) g2 g1 ok.calm ok.nd (by rw [ok.N, ok.sc]; exact gok_by h3) (okI it ok hwt h6) (fun s H D code fp pn => okG (weak := it.weak) (ok.gx h02 s H D code fp pn) hw h7)
        (fun s H D code fp pn => okT ifs (ok.gx h02 s H D code fp pn) h8) (fun s H D code fp pn => (okE elt (ok.gx h02 s H D code fp pn) h9).1) (genFold_of h2)
      rw [ownL_snd] at r
      exact both (r.imp fun σ H Q hh => rd_gen g3 (List.all_eq_true.mp h5 · · |> of_decide_eq_true) hh) fun _ => rfl
    · cases h
theorem okEs : ∀ (ms : MEs) {X : Cx} {se : SE} {es : List Expr}, COk X T C G L se → trEs G se ms es = true → PA X es (rdA X.K T (evEs C ms))
  | .nil, X, se, es, ok, h => by
    unfold trEs at h
    cases es with
    | nil =>
      have ef : evEs C .nil = fNil := by funext env ih; simp only [evEs, fNil] <;> rfl
      rw [ef]
      exact pa_nil'
    | cons _ _ => cases h
  | .cons m ms, X, se, es, ok, h => by
    unfold trEs at h
    cases es with
    | nil => cases h
    | cons e es =>
      simp only [Bool.and_eq_true] at h
      have ef : evEs C (.cons m ms) = fCons (evE C m) (evEs C ms) := by funext env ih; simp only [evEs, fCons] <;> rfl
      rw [ef]
      exact pa_cons' h.1.1 (okE m ok h.1.2).1 (okEs ms ok h.2)
theorem okAnd : ∀ (ms : MEs) {X : Cx} {se : SE} {es : List Expr} {pos : Pos}, COk X T C G L se → trEs G se ms es = true → PE X (.BoolOp .And es pos) (rdE X.K T (evAnd C ms)) ∧ PW X (.BoolOp .And es pos) (rdT X.K T (asT (evAnd C ms)))
  | .nil, X, se, es, pos, ok, h => by
    refine ⟨⟨fun pins s σ H Q I ⟨μ, env, ih, d', ih', S, E, ev, q⟩ => ?_⟩, ⟨fun wh pins s σ H Q I ⟨μ, env, ih, d', ih', S, E, ev, q⟩ => ?_⟩⟩
    · unfold evAnd at ev; cases ev
    · unfold asT evAnd at ev; cases ev
  | .cons m .nil, X, se, es, pos, ok, h => by
    unfold trEs at h
    cases es with
    | nil => cases h
    | cons e es =>
      simp only [Bool.and_eq_true] at h
      obtain ⟨⟨h0, h1⟩, h2⟩ := h
      unfold trEs at h2
      cases es with
      | cons _ _ => cases h2
      | nil =>
        have ef : evAnd C (.cons m .nil) = evE C m := by funext env ih; simp only [evAnd]
        rw [ef]
        exact ⟨pe_one (okE m ok h1).1, pw_and1 (okE m ok h1).2⟩
  | .cons m (.cons m2 ms), X, se, es, pos, ok, h => by
    unfold trEs at h
    cases es with
    | nil => cases h
    | cons e es =>
      simp only [Bool.and_eq_true] at h
      obtain ⟨⟨h0, h1⟩, h2⟩ := h
      obtain ⟨r1, r2⟩ := okAnd (.cons m2 ms) (pos := pos) ok h2
      cases es with
      | nil => unfold trEs at h2; cases h2
      | cons e2 es =>
        have ef : evAnd C (.cons m (.cons m2 ms)) = fAnd (evE C m) (evAnd C (.cons m2 ms)) := by funext env ih; simp only [evAnd, fAnd] <;> rfl
        rw [ef]
        exact ⟨pe_and' (okE m ok h1).1 r1, pw_and' (okE m ok h1).2 r2⟩
theorem okOr : ∀ (ms : MEs) {X : Cx} {se : SE} {es : List Expr} {pos : Pos}, COk X T C G L se → trEs G se ms es = true → PE X (.BoolOp .Or es pos) (rdE X.K T (evOr C ms)) ∧ PW X (.BoolOp .Or es pos) (rdT X.K T (asT (evOr C ms)))
  | .nil, X, se, es, pos, ok, h => by
    refine ⟨⟨fun pins s σ H Q I ⟨μ, env, ih, d', ih', S, E, ev, q⟩ => ?_⟩, ⟨fun wh pins s σ H Q I ⟨μ, env, ih, d', ih', S, E, ev, q⟩ => ?_⟩⟩
    · unfold evOr at ev; cases ev
    · unfold asT evOr at ev; cases ev
  | .cons m .nil, X, se, es, pos, ok, h => by
    unfold trEs at h
    cases es with
    | nil => cases h
    | cons e es =>
      simp only [Bool.and_eq_true] at h
      obtain ⟨⟨h0, h1⟩, h2⟩ := h
      unfold trEs at h2
      cases es with
      | cons _ _ => cases h2
      | nil =>
        have ef : evOr C (.cons m .nil) = evE C m := by funext env ih; simp only [evOr]
        rw [ef]
        exact ⟨pe_one (okE m ok h1).1, pw_or1 (okE m ok h1).2⟩
  | .cons m (.cons m2 ms), X, se, es, pos, ok, h => by
    unfold trEs at h
    cases es with
    | nil => cases h
    | cons e es =>
      simp only [Bool.and_eq_true] at h
      obtain ⟨⟨h0, h1⟩, h2⟩ := h
      obtain ⟨r1, r2⟩ := okOr (.cons m2 ms) (pos := pos) ok h2
      cases es with
      | nil => unfold trEs at h2; cases h2
      | cons e2 es =>
        have ef : evOr C (.cons m (.cons m2 ms)) = fOr (evE C m) (evOr C (.cons m2 ms)) := by funext env ih; simp only [evOr, fOr] <;> rfl
        rw [ef]
        exact ⟨pe_or' (okE m ok h1).1 r1, pw_or' (okE m ok h1).2 r2⟩
theorem okO : ∀ (m : MO) {X : Cx} {se : SE} {e : Option Expr}, COk X T C G L se → trO G se m e = true → PO X e (rdO X.K T (evO C m))
  | .no, X, se, e, ok, h => by
    unfold trO at h
    cases e with
    | some _ => cases h
    | none =>
      have ef : evO C .no = fun _ ih => some (none, ih) := by funext env ih; simp only [evO]
      rw [ef]
      exact po_no'
  | .yes m, X, se, e, ok, h => by
    unfold trO at h
    split at h
    · have ef : evO C (.yes m) = fO (evE C m) := by funext env ih; simp only [evO, fO] <;> rfl
      rw [ef]
      exact po_yes' (okE m ok h).1
    · cases h
theorem okT : ∀ (m : MO) {X : Cx} {se : SE} {es : List Expr}, COk X T C G L se → trT G se m es = true → PTs X es (rdT X.K T (evT C m))
  | .no, X, se, es, ok, h => by
    unfold trT at h
    cases es with
    | cons _ _ => cases h
    | nil =>
      refine ⟨fun pins s σ H Q I ⟨μ, env, ih, d', ih', S, E, ev, q⟩ => ?_⟩
      unfold evT at ev
      cases ev
      exact pts_nil.run pins s σ H Q I (q μ H (List.prefix_refl _) (Ext.refl _) S)
  | .yes m, X, se, es, ok, h => by
    unfold trT at h
    split at h
    · have ef : evT C (.yes m) = asT (evE C m) := by funext env ih; simp only [evT, asT] <;> rfl
      rw [ef]
      exact pts_one (okE m ok h).2
    · cases h
theorem okI : ∀ (m : MI) {X : Cx} {se : SE} {tg e : Expr}, COk X T C G L se → (m.weak = true → isTupE tg = true) → trI G se m e = true → PI X tg e (rdI X.K T m.weak (evI C m))
  | .val m, X, se, tg, e, ok, hw, h => by
    unfold trI at h
    have ef : evI C (.val m) = fVal (evE C m) := by funext env ih; simp only [evI, fVal] <;> rfl
    rw [ef]
    exact pi_val' (okE m ok h).1
  | .range ms, X, se, tg, e, ok, hw, h => by
    unfold trI at h
    split at h
    · rename_i x p es pos
      simp only [Bool.and_eq_true, decide_eq_true_eq] at h
      obtain ⟨⟨⟨h1, h2⟩, h3⟩, h4⟩ := h
      subst h1
      have ef : evI C (.range ms) = fRng (evEs C ms) := by funext env ih; simp only [evI, fRng] <;> rfl
      rw [ef]
      have hp := trEs_plain ms h4
      have hl : ∀ env ih ds ih', evEs C ms env ih = some (ds, ih') → ds.length = es.length := fun env ih ds ih' hh => evEs_len C ms h4 hh
      have pa := okEs ms ok h4
      match es, h3, hp, hl, pa with
      | [a], _, hp, hl, pa =>
        unfold plainL at hp
        rw [List.all_cons, Bool.and_eq_true] at hp
        exact pi_rng1' ok h2 hp.1 hl pa
      | [a, b], _, hp, hl, pa =>
        unfold plainL at hp
        rw [List.all_cons, Bool.and_eq_true, List.all_cons, Bool.and_eq_true] at hp
        exact pi_rng2' ok h2 hp.1 hp.2.1 hl pa
      | [], h3, _, _, _ => cases h3
      | _ :: _ :: _ :: _, h3, _, _, _ => simp at h3
    · cases h
  | .zip a b, X, se, tg, e, ok, hw, h => by
    unfold trI at h
    split at h
    · simp only [Bool.and_eq_true, decide_eq_true_eq] at h
      obtain ⟨⟨⟨⟨⟨h1, h2⟩, h3⟩, h4⟩, h5⟩, h6⟩ := h
      subst h1
      have ef : evI C (.zip a b) = fZip (evE C a) (evE C b) := by funext env ih; simp only [evI, fZip] <;> rfl
      rw [ef]
      have ht := hw rfl
      cases tg <;> first
        | exact pi_zip' ok h2 h3 h4 (okE a ok h5).1 (okE b ok h6).1
        | cases ht
    · cases h
  | .zip3 a b c, X, se, tg, e, ok, hw, h => by
    unfold trI at h
    cases h
  | .enum a, X, se, tg, e, ok, hw, h => by
    unfold trI at h
    cases h
  | .rev a, X, se, tg, e, ok, hw, h => by
    unfold trI at h
    cases h
end
end
end CP
set_option maxRecDepth 100000
set_option maxHeartbeats 4000000
/-! The checker of statements, and that it is right -/
namespace CP
open PySem PySem.Spec PyProof.Rows L2 GxR

def isComp : Expr → Bool
  | .ListComp .. => true
  | .SetComp .. => true
  | .DictComp .. => true
  | _ => false
/-- name = [..] whose store is ahead of the block's end -/
def swapC (se : SE) : Expr → Expr → Bool
  | .Name y py, .ListComp _ _ scope pos => decide (se.sc.names.lookup y = some .local) && (py.line == pos.line) && !(scope.names.any fun (n, k) => n == y && (k == .local || k == .cell))
  | _, _ => false
def isTupOrList : Expr → Bool
  | .Tuple .. => true
  | .List .. => true
  | _ => false
/-- a, b = x, y: stored from the right -/
def par2C (se : SE) : List Expr → List Expr → Bool
  | [.Name x px, .Name y py], [a, b] => decide (se.sc.names.lookup x = some .local) && decide (se.sc.names.lookup y = some .local) && (px.line == py.line) && !(x == y) && notStar a && notStar b && !([a, b].all (foldedForSure 8)) && !([a, b].all (constantsAlone 8))
  | _, _ => false
def par3C (se : SE) : List Expr → List Expr → Bool
  | [.Name x px, .Name y py, .Name z pz], [a, b, c] => decide (se.sc.names.lookup x = some .local) && decide (se.sc.names.lookup y = some .local) && decide (se.sc.names.lookup z = some .local) && (px.line == py.line) && (px.line == pz.line) && !(x == y) && !(x == z) && !(y == z) &&
      notStar a && notStar b && notStar c && !([a, b, c].all (foldedForSure 8)) && !([a, b, c].all (constantsAlone 8))
  | _, _ => false
/-- names of the frame on one line -/
def locNames (sc : Scope) (l : Nat) (es : List Expr) : List Str := es.filterMap fun
  | .Name id pos => if sc.names.lookup id == some .local && pos.line == l then some id else none
  | _ => none
/-- an ordinary parallel store -/
def offC (sc : Scope) (es vs : List Expr) : Bool :=
  !(es.length == 2 || es.length == 3) || vs.all (foldedForSure 8) || (locNames sc ((es.head?.map (·.pos.line)).getD 0) es).length != es.length
def isSD : Expr → Bool
  | .SetComp .. => true
  | .DictComp .. => true
  | _ => false
def dist : List Nat → Bool
  | [] => true
  | i :: is => !(is.contains i) && dist is
mutual
def trS (G : GE) (se : SE) : MS → Stmt → Bool
  | .asg t m, s => match s with
    | .Assign [tg] e _ => trG se t tg && trE G se m e && (swapC se tg e || (!isSD e && !(isTupOrList tg && isTupOrList e)))
    | _ => false
  | .asgP ts ms, s => match s with
    | .Assign [.Tuple es _ _] (.Tuple vs _ _) _ => namesC se ts es && trEs G se ms vs && dist ts && (par2C se es vs || par3C se es vs || offC se.sc es vs && decide (vs.length ≤ 1000))
    | _ => false
  | .put o i m, s => match s with
    | .Assign [.Subscript l r _] e _ => notSlice r && trE G se m e && trE G se o l && trE G se i r
    | _ => false
  | .aug i o m, s => match s with
    | .AugAssign t op e _ => decide (op = o.op) && nameC se i t && trE G se m e
    | _ => false
  | .expr m, s => match s with
    | .Expr e _ => !isComp e && trE G se m e
    | _ => false
  | .ret m, s => match s with
    | .Return (some e) _ => trE G se m e
    | _ => false
  | .retN, s => match s with
    | .Return none _ => true
    | _ => false
  | .ifs c a b, s => match s with
    | .If t x y _ => trE G se c t && trSs G se a x && trSs G se b y
    | _ => false
  | .for_ tg it body, s => match s with
    | .For t i b [] _ => notSet i && (!it.weak || (tg.isTup && isTupE t)) && trI G se it i && trG se tg t && trSs G se body b
    | _ => false
  | .while_ c body, s => match s with
    | .While t b [] _ => trE G se c t && trSs G se body b
    | _ => false
  | .brk, s => match s with
    | .Break _ => true
    | _ => false
  | .cont, s => match s with
    | .Continue _ => true
    | _ => false
  | .pass, s => match s with
    | .Pass _ => true
    | _ => false
def trSs (G : GE) (se : SE) : List MS → List Stmt → Bool
  | [], ss => ss.isEmpty
  | m :: ms, ss => match ss with
    | s :: ss => trS G se m s && trSs G se ms ss
    | [] => false
end

/-! ### readings -/
def EndC (K : PySem.W.Frag) (D : Ends) (c : Ctl) (μ : List Addr) (H : Hp) (σ : L2.St) : Prop := match c with
  | .next => D.nx σ H
  | .brk => D.bk σ H
  | .cont => D.ct σ H
  | .ret d => ∀ v, Rep K H μ d v → D.rt v H
def rdS (K : PySem.W.Frag) (T : List Addr) (f : IEnv → IH → Option (Ctl × IEnv × IH)) : TS := fun D σ H => ∃ μ env ih c env' ih', StRel K T μ ih H ∧ EnvRel K H μ env σ ∧ f env ih = some (c, env', ih') ∧
  ∀ μ' H' σ', μ <+: μ' → Ext H H' → StRel K T μ' ih' H' → EnvRel K H' μ' env' σ' → EndC K D c μ' H' σ'
theorem _root_.L2.PS.imp {X : Cx} {e : Stmt} {t t' : TS} (h : PS X e t) (w : ∀ D σ H, t' D σ H → t D σ H) : PS X e t' := ⟨fun pins s σ H D I q => h.run pins s σ H D I (w D σ H q)⟩
theorem _root_.L2.PSs.imp {X : Cx} {e : List Stmt} {t t' : TS} (h : PSs X e t) (w : ∀ D σ H, t' D σ H → t D σ H) : PSs X e t' := ⟨fun pins s σ H D I q => h.run pins s σ H D I (w D σ H q)⟩
section
variable {K : PySem.W.Frag} {T : List Addr} {H H' : Hp} {μ μ' : List Addr} {ih ih' ih1 : IH} {env env1 : IEnv} {σ : L2.St} {c : Ctl} {D : Ends}
theorem rdS.mk {f : IEnv → IH → Option (Ctl × IEnv × IH)} (S : StRel K T μ ih H) (E : EnvRel K H μ env σ) (e : f env ih = some (c, env1, ih1))
    (k : ∀ μ1 H1 σ1, μ <+: μ1 → Ext H H1 → StRel K T μ1 ih1 H1 → EnvRel K H1 μ1 env1 σ1 → EndC K D c μ1 H1 σ1) : rdS K T f D σ H := ⟨μ, env, ih, c, env1, ih1, S, E, e, k⟩
end
section
variable {X : Cx} {T : List Addr} {C : Orc} {G : GE} {L : Nat} {se : SE} {e tg : Expr} {pos : Pos}
theorem sw_false {e : Expr} {t : Option Expr} {l : Nat} {env : Env} (h : isComp e = false) : swapsWith e t l env = pure false := by
  cases e <;> first
    | (unfold swapsWith; rfl)
    | cases h
theorem sole_false {e tg : Expr} {l : Nat} {env : Env} (h : isComp e = false) : swapsWithSole [tg] e l env = pure false := sw_false h
theorem swapped_none {tg e : Expr} {env : Env} (h : (isTupOrList tg && isTupOrList e) = false) : swappedStores [tg] e env = pure none := by
  cases tg <;> first
    | (unfold swappedStores; rfl)
    | (cases e <;> first
        | (unfold swappedStores; rfl)
        | cases h)
theorem assign1 {tg : Expr} {env : Env} {t : MT} (h : trG se t tg = true) : (assignEach [tg] env).map (·.2) = [assign tg env] := by
  cases tg <;> first
    | rfl
    | (cases t <;> first
        | (unfold trG at h; unfold nameC at h; cases h)
        | (unfold trG at h; cases h))
def fAsg (f : IEnv → IH → Option (D × IH)) (t : MT) : IEnv → IH → Option (Ctl × IEnv × IH) := fun env ih => match f env ih with
  | some (d, ih1) => (asgT t d env).map fun env1 => (.next, env1, ih1)
  | none => none
theorem sw_eq (ok : COk X T C G L se) (hk : se.sc.kind = .function) {el : Expr} {gs : List Comprehension} {scope : Scope} {p : Pos} {l : Nat} (h : swapC se tg (.ListComp el gs scope p) = false) : swapsWith (.ListComp el gs scope p) (some tg) l X.env = pure false := by
  cases tg <;> first
    | (unfold swapsWith; rfl)
    | skip
  rename_i y py
  unfold swapC at h
  have hb : X.env.blockKind = .function := by unfold Env.blockKind; rw [ok.sc, hk]; rfl
  have hy : X.env.kindOf y = se.sc.names.lookup y := by rw [← ok.sc]; rfl
  unfold swapsWith
  simp only [hb, hy, Expr.pos]
  have e : (se.sc.names.lookup y == some NameKind.local) = decide (se.sc.names.lookup y = some NameKind.local) := by
    by_cases q : se.sc.names.lookup y = some NameKind.local
    · rw [q]; rfl
    · rw [decide_eq_false q]; exact beq_eq_false_iff_ne.mpr q
  rw [e]
  show pure (true && decide (se.sc.names.lookup y = some NameKind.local) && (py.line == p.line) && !(scope.names.any fun (n, k) => n == y && (k == .local || k == .cell))) = pure false
  rw [Bool.true_and]
  exact congrArg pure h
theorem sole_off (ok : COk X T C G L se) (hk : se.sc.kind = .function) {l : Nat} (h : swapC se tg e = false) (h2 : isSD e = false) : swapsWithSole [tg] e l X.env = pure false := by
  cases hc : isComp e with
  | false => exact sole_false hc
  | true =>
    cases e <;> first
      | (cases hc; done)
      | (cases h2; done)
      | exact sw_eq ok hk h
theorem ps_asg' {t : MT} {f : IEnv → IH → Option (D × IH)} (ok : COk X T C G L se) (he : PE X e (rdE X.K T f)) (hg : trG se t tg = true) (hs : swapsWithSole [tg] e pos.line X.env = pure false) (hw : (isTupOrList tg && isTupOrList e) = false) : PS X (.Assign [tg] e pos) (rdS X.K T (fAsg f t)) := by
  refine (ps_asg he (okG (weak := false) ok rfl hg) hs (swapped_none hw) (assign1 hg)).imp fun D σ H ⟨μ, env, ih, c, env', ih', S, E, ev, q⟩ => ?_
  unfold fAsg at ev
  split at ev
  · rename_i h1
    obtain ⟨env1, h2, h3⟩ := Option.map_eq_some_iff.mp ev
    cases h3
    exact rdE.mk S E h1 fun μ1 H1 v p x S1 E1 r => ⟨μ1, env, _, _, env', S1, E1, r, h2, fun σ' E' _ => q μ1 H1 σ' p x S1 E'⟩
  · cases ev
def fPut (fo fi fe : IEnv → IH → Option (D × IH)) : IEnv → IH → Option (Ctl × IEnv × IH) := fun env ih => match fe env ih with
  | some (d, ih1) => match fo env ih1 with
    | some (.ref n, ih2) => match fi env ih2 with
      | some (.int k, ih3) => match lstAt ih3 n with
        | some xs => (ixN xs.length k).map fun j => (.next, env, ih3.set n (.lst (xs.set j d)))
        | none => none
      | _ => none
    | _ => none
  | none => none
theorem ps_put' {o i : Expr} {sp : Pos} {fo fi fe : IEnv → IH → Option (D × IH)} (he : PE X e (rdE X.K T fe)) (ho : PE X o (rdE X.K T fo)) (hi : PE X i (rdE X.K T fi)) (hn : notSlice i = true) : PS X (.Assign [.Subscript o i sp] e pos) (rdS X.K T (fPut fo fi fe)) := by
  refine (ps_asg he (pg_sub ho hi set_list (by intro v; cases i <;> first | rfl | cases hn)) (by cases e <;> (unfold swapsWithSole swapsWith; rfl)) (by unfold swappedStores; rfl) rfl).imp fun D σ H ⟨μ, env, ih, c, env', ih', S, E, ev, q⟩ => ?_
  unfold fPut at ev
  split at ev
  · rename_i h1
    split at ev
    · rename_i h2
      split at ev
      · rename_i h3
        split at ev
        · rename_i xs h4
          obtain ⟨j, h5, h6⟩ := Option.map_eq_some_iff.mp ev
          cases h6
          refine rdE.mk S E h1 fun μ1 H1 v p1 x1 S1 E1 r1 => rdE.mk S1 E1 h2 fun μ2 H2 w p2 x2 S2 E2 r2 => rdE.mk S2 E2 h3 fun μ3 H3 u p3 x3 S3 E3 r3 => ?_
          obtain ⟨a, vs, rfl, k1, k2, k3, k4⟩ := ref_lst S3 (r2.mono x3 p3) h4
          have x4 : Ext H3 (upd H3 a (.lst (vs.set j v))) := Ext.lst k3
          refine ⟨a, vs, _, j, rfl, r3.int_, k3, by rw [k4.length]; exact h5, q μ3 _ σ (p1.trans (p2.trans p3)) (x1.trans (x2.trans (x3.trans x4))) (S3.wr k2 k1 (Reps.set (r1.mono (x2.trans x3) (p2.trans p3)) j k4)) (E3.mono x4 (List.prefix_refl _))⟩
        · cases ev
      · cases ev
    · cases ev
  · cases ev
def fAug (i : Nat) (o : Bop) (f : IEnv → IH → Option (D × IH)) : IEnv → IH → Option (Ctl × IEnv × IH) := fun env ih => match env[i]? with
  | some (some (.int x)) => match f env ih with
    | some (.int y, ih1) => match o with
      | .add => some (.next, env.set i (some (.int (x + y))), ih1)
      | .sub => some (.next, env.set i (some (.int (x - y))), ih1)
      | _ => none
    | _ => none
  | _ => none
theorem ps_aug' {i : Nat} {o : Bop} {f : IEnv → IH → Option (D × IH)} (ok : COk X T C G L se) (ht : nameC se i tg = true) (he : PE X e (rdE X.K T f)) : PS X (.AugAssign tg o.op e pos) (rdS X.K T (fAug i o f)) := by
  unfold nameC at ht
  split at ht
  · rename_i x p
    rw [Bool.and_eq_true, decide_eq_true_eq] at ht
    obtain ⟨k1, k2⟩ := ok.store x ht.1
    have hN : X.N[i]? = some x := by rw [ok.N]; exact ht.2
    refine ⟨fun pins s σ H D I ⟨μ, env, ih, c, env', ih', S, E, ev, q⟩ => ?_⟩
    unfold fAug at ev
    split at ev
    · rename_i xi h0
      obtain ⟨v, e1, e2⟩ := E.get i _ h0
      have e2 := e2.int_
      subst e2
      split at ev
      · rename_i y ih1 h1
        split at ev
        · cases ev
          refine (ps_aug (op := .Add) ok.nd hN k1 he ip_add k2).run pins s σ H D I ⟨_, e1, rdE.mk S E h1 fun μ1 H1 v p1 x1 S1 E1 r1 => ⟨xi, y, rfl, r1.int_, ?_⟩⟩
          exact q μ1 H1 _ p1 x1 S1 (set_rel E1 rep_int)
        · cases ev
          refine (ps_aug (op := .Sub) ok.nd hN k1 he ip_sub k2).run pins s σ H D I ⟨_, e1, rdE.mk S E h1 fun μ1 H1 v p1 x1 S1 E1 r1 => ⟨xi, y, rfl, r1.int_, ?_⟩⟩
          exact q μ1 H1 _ p1 x1 S1 (set_rel E1 rep_int)
        · cases ev
      · cases ev
    · cases ev
  · cases ht
def fExpr (f : IEnv → IH → Option (D × IH)) : IEnv → IH → Option (Ctl × IEnv × IH) := fun env ih => match f env ih with
  | some (_, ih1) => some (.next, env, ih1)
  | none => none
theorem ps_expr' {f : IEnv → IH → Option (D × IH)} (hs : isComp e = false) (he : PE X e (rdE X.K T f)) : PS X (.Expr e pos) (rdS X.K T (fExpr f)) := by
  refine (ps_expr he (sw_false hs)).imp fun D σ H ⟨μ, env, ih, c, env', ih', S, E, ev, q⟩ => ?_
  unfold fExpr at ev
  split at ev
  · rename_i h1
    cases ev
    exact rdE.mk S E h1 fun μ1 H1 v p1 x1 S1 E1 r1 => q μ1 H1 σ p1 x1 S1 E1
  · cases ev
def fRet (f : IEnv → IH → Option (D × IH)) : IEnv → IH → Option (Ctl × IEnv × IH) := fun env ih => match f env ih with
  | some (d, ih1) => some (.ret d, env, ih1)
  | none => none
theorem ps_ret' {f : IEnv → IH → Option (D × IH)} (he : PE X e (rdE X.K T f)) : PS X (.Return (some e) pos) (rdS X.K T (fRet f)) := by
  refine (ps_ret he).imp fun D σ H ⟨μ, env, ih, c, env', ih', S, E, ev, q⟩ => ?_
  unfold fRet at ev
  split at ev
  · rename_i h1
    cases ev
    exact rdE.mk S E h1 fun μ1 H1 v p1 x1 S1 E1 r1 => q μ1 H1 σ p1 x1 S1 E1 v r1
  · cases ev
theorem ps_retN' : PS X (.Return none pos) (rdS X.K T fun env ih => some (.ret .non, env, ih)) := by
  refine ps_retN.imp fun D σ H ⟨μ, env, ih, c, env', ih', S, E, ev, q⟩ => ?_
  cases ev
  exact q μ H σ (List.prefix_refl _) (Ext.refl _) S E _ rep_non
theorem ps_brk' : PS X (.Break pos) (rdS X.K T fun env ih => some (.brk, env, ih)) := by
  refine ps_break.imp fun D σ H ⟨μ, env, ih, c, env', ih', S, E, ev, q⟩ => ?_
  cases ev
  exact q μ H σ (List.prefix_refl _) (Ext.refl _) S E
theorem ps_cont' : PS X (.Continue pos) (rdS X.K T fun env ih => some (.cont, env, ih)) := by
  refine ps_continue.imp fun D σ H ⟨μ, env, ih, c, env', ih', S, E, ev, q⟩ => ?_
  cases ev
  exact q μ H σ (List.prefix_refl _) (Ext.refl _) S E
theorem ps_pass' : PS X (.Pass pos) (rdS X.K T fun env ih => some (.next, env, ih)) := by
  refine ps_pass.imp fun D σ H ⟨μ, env, ih, c, env', ih', S, E, ev, q⟩ => ?_
  cases ev
  exact q μ H σ (List.prefix_refl _) (Ext.refl _) S E
def fIf (fc : IEnv → IH → Option (D × IH)) (fa fb : IEnv → IH → Option (Ctl × IEnv × IH)) : IEnv → IH → Option (Ctl × IEnv × IH) := fun env ih => match fc env ih with
  | some (.bl true, ih1) => fa env ih1
  | some (.bl false, ih1) => fb env ih1
  | _ => none
theorem ps_if' {c : Expr} {a b : List Stmt} {fc : IEnv → IH → Option (D × IH)} {fa fb : IEnv → IH → Option (Ctl × IEnv × IH)} (hc : PT X c (rdT X.K T (asT fc))) (ha : PSs X a (rdS X.K T fa)) (hb : PSs X b (rdS X.K T fb)) : PS X (.If c a b pos) (rdS X.K T (fIf fc fa fb)) := by
  refine (ps_if hc ha hb).imp fun D σ H ⟨μ, env, ih, c, env', ih', S, E, ev, q⟩ => ?_
  unfold fIf at ev
  split at ev
  · rename_i h1
    exact rdT.mk (b := true) S E (by unfold asT; rw [h1]) fun μ1 H1 p x S1 E1 => by
      simp only [if_true]
      exact ⟨μ1, env, _, _, _, _, S1, E1, ev, fun μ2 H2 σ2 p2 x2 S2 E2 => q μ2 H2 σ2 (p.trans p2) (x.trans x2) S2 E2⟩
  · rename_i h1
    exact rdT.mk (b := false) S E (by unfold asT; rw [h1]) fun μ1 H1 p x S1 E1 => by
      simp only [Bool.false_eq_true, if_false]
      exact ⟨μ1, env, _, _, _, _, S1, E1, ev, fun μ2 H2 σ2 p2 x2 S2 E2 => q μ2 H2 σ2 (p.trans p2) (x.trans x2) S2 E2⟩
  · cases ev
/-! in a row -/
def fNone : IEnv → IH → Option (Ctl × IEnv × IH) := fun env ih => some (.next, env, ih)
def fSeq (f g : IEnv → IH → Option (Ctl × IEnv × IH)) : IEnv → IH → Option (Ctl × IEnv × IH) := fun env ih => match f env ih with
  | some (.next, env1, ih1) => g env1 ih1
  | r => r
theorem pss_nil' : PSs X [] (rdS X.K T fNone) := pss_nil.imp fun D σ H ⟨μ, env, ih, c, env', ih', S, E, ev, q⟩ => by
  cases ev
  exact q μ H σ (List.prefix_refl _) (Ext.refl _) S E
theorem pss_cons' {st : Stmt} {rest : List Stmt} {f g : IEnv → IH → Option (Ctl × IEnv × IH)} (h1 : PS X st (rdS X.K T f)) (h2 : PSs X rest (rdS X.K T g)) : PSs X (st :: rest) (rdS X.K T (fSeq f g)) := by
  refine (pss_cons h1 h2).imp fun D σ H ⟨μ, env, ih, c, env', ih', S, E, ev, q⟩ => ?_
  unfold fSeq at ev
  split at ev
  · rename_i h3
    exact ⟨μ, env, ih, _, _, _, S, E, h3, fun μ1 H1 σ1 p x S1 E1 => ⟨μ1, _, _, c, env', ih', S1, E1, ev, fun μ2 H2 σ2 p2 x2 S2 E2 => q μ2 H2 σ2 (p.trans p2) (x.trans x2) S2 E2⟩⟩
  · rename_i hne
    refine ⟨μ, env, ih, c, env', ih', S, E, ev, fun μ1 H1 σ1 p x S1 E1 => ?_⟩
    have z := q μ1 H1 σ1 p x S1 E1
    cases c with
    | next => exact (hne _ _ ev).elim
    | brk => exact z
    | cont => exact z
    | ret d => exact z
end
end CP
set_option maxRecDepth 100000
set_option maxHeartbeats 4000000
/-! Loops, parallel stores; all statements -/
namespace CP
open PySem PySem.Spec PyProof.Rows L2 GxR

def fFor (fi : IEnv → IH → Option (Walk × IH)) (fb : IEnv → IH → Option (Ctl × IEnv × IH)) (t : MT) : IEnv → IH → Option (Ctl × IEnv × IH) := fun env ih => match fi env ih with
  | some (w, ih1) => forLoop fb t w w.items env ih1
  | none => none
section
variable {K : PySem.W.Frag} {T : List Addr} {σ : L2.St} {H : Hp} {Dn : Ends} {fi : IEnv → IH → Option (Walk × IH)} {fb : IEnv → IH → Option (Ctl × IEnv × IH)} {fc : IEnv → IH → Option (D × IH)} {t : MT} {weak : Bool}
theorem rd_for (h : rdS K T (fFor fi fb t) Dn σ H) : tFor (rdI K T weak fi) (rdG K T weak t) (rdS K T fb) Dn σ H := by
  obtain ⟨μ, env, ih, c, env', ih', S, E, ev, q⟩ := h
  unfold fFor at ev
  split at ev
  · rename_i w ih1 h1
    refine ⟨μ, env, ih, w, ih1, S, E, h1, fun μ1 H1 J p1 x1 S1 good => ?_⟩
    refine ⟨fun i m σ' H' => i + m = w.items.length ∧ ∃ μ2 env2 ih3, μ1 <+: μ2 ∧ Ext H1 H' ∧ StRel K T μ2 ih3 H' ∧ EnvRel K H' μ2 env2 σ' ∧ forLoop fb t w (w.items.drop i) env2 ih3 = some (c, env', ih'),
      ⟨w.items.length, by simp, μ1, env, ih1, List.prefix_refl _, Ext.refl _, S1, E.mono x1 p1, by simpa using ev⟩, ?_⟩
    rintro i m σ' H' ⟨him, μ2, env2, ih3, p12, x12, S3, E3, hl⟩
    have hok : w.ok ih3 = true := by
      cases hd : w.items.drop i with
      | nil =>
        rw [hd] at hl
        unfold forLoop at hl
        split at hl
        · assumption
        · cases hl
      | cons y ys =>
        rw [hd] at hl
        unfold forLoop at hl
        split at hl
        · assumption
        · cases hl
    obtain ⟨gs, gi⟩ := good i μ2 ih3 H' p12 x12 S3 hok
    cases hd : w.items.drop i with
    | nil =>
      left
      refine ⟨gs (List.drop_eq_nil_iff.mp hd), ?_⟩
      rw [hd] at hl
      unfold forLoop at hl
      rw [if_pos hok] at hl
      cases hl
      exact q μ2 H' σ' (p1.trans p12) (x1.trans x12) S3 E3
    | cons y ys =>
      right
      have hi : w.items[i]? = some y := by
        have := List.getElem?_drop (xs := w.items) (i := i) (j := 0)
        rw [hd] at this
        simpa using this.symm
      have hys : w.items.drop (i + 1) = ys := by
        rw [← List.drop_drop, hd]; rfl
      have him' : i < w.items.length := (List.getElem?_eq_some_iff.mp hi).1
      obtain ⟨g1, g2⟩ := gi y hi
      refine ⟨g1, fun σ'' H'' => ∃ μ3 env3 ih4, μ1 <+: μ3 ∧ Ext H1 H'' ∧ StRel K T μ3 ih4 H'' ∧ EnvRel K H'' μ3 env3 σ'' ∧ forLoop fb t w ys env3 ih4 = some (c, env', ih'),
        fun σ'' H'' ⟨μ3, env3, ih4, a1, a2, a3, a4, a5⟩ => ⟨m - 1, by omega, by omega, μ3, env3, ih4, a1, a2, a3, a4, by rw [hys]; exact a5⟩, fun x H2 hy => ?_⟩
      obtain ⟨y1, y2, y3⟩ := g2 x H2 hy
      rw [hd] at hl
      unfold forLoop at hl
      rw [if_pos hok] at hl
      split at hl
      · rename_i env4 ha
        refine ⟨μ2, env2, ih3, y, env4, y2, E3.mono y1 (List.prefix_refl _), y3, ha, fun σ2 E4 _ => ?_⟩
        split at hl
        · rename_i env5 ih5 hb
          exact ⟨μ2, env4, ih3, _, _, _, y2, E4, hb, fun μ3 H3 σ3 p3 x3 S4 E5 => ⟨μ3, _, _, p12.trans p3, x12.trans (y1.trans x3), S4, E5, hl⟩⟩
        · rename_i env5 ih5 hb
          exact ⟨μ2, env4, ih3, _, _, _, y2, E4, hb, fun μ3 H3 σ3 p3 x3 S4 E5 => ⟨μ3, _, _, p12.trans p3, x12.trans (y1.trans x3), S4, E5, hl⟩⟩
        · rename_i env5 ih5 hb
          cases hl
          exact ⟨μ2, env4, ih3, _, _, _, y2, E4, hb, fun μ3 H3 σ3 p3 x3 S4 E5 => q μ3 H3 σ3 (p1.trans (p12.trans p3)) (x1.trans (x12.trans (y1.trans x3))) S4 E5⟩
        · rename_i d env5 ih5 hb
          cases hl
          exact ⟨μ2, env4, ih3, _, _, _, y2, E4, hb, fun μ3 H3 σ3 p3 x3 S4 E5 => q μ3 H3 σ3 (p1.trans (p12.trans p3)) (x1.trans (x12.trans (y1.trans x3))) S4 E5⟩
        · cases hl
      · cases hl
  · cases ev
theorem rd_while {n : Nat} (h : rdS K T (fun env ih => whileLoop (asT fc) fb n env ih) Dn σ H) : tWhile (rdT K T (asT fc)) (rdS K T fb) Dn σ H := by
  obtain ⟨μ, env, ih, c, env', ih', S, E, ev, q⟩ := h
  refine ⟨fun m σ' H' => ∃ μ2 env2 ih3, μ <+: μ2 ∧ Ext H H' ∧ StRel K T μ2 ih3 H' ∧ EnvRel K H' μ2 env2 σ' ∧ whileLoop (asT fc) fb m env2 ih3 = some (c, env', ih'), ⟨n, μ, env, ih, List.prefix_refl _, Ext.refl _, S, E, ev⟩, ?_⟩
  rintro m σ' H' ⟨μ2, env2, ih3, p2, x2, S2, E2, hl⟩
  cases m with
  | zero => unfold whileLoop at hl; cases hl
  | succ m =>
    unfold whileLoop at hl
    split at hl
    · rename_i ih4 ht
      refine rdT.mk S2 E2 ht fun μ3 H3 p3 x3 S3 E3 => ?_
      simp only [if_true]
      refine ⟨fun σ'' H'' => ∃ μ4 env4 ih5, μ <+: μ4 ∧ Ext H H'' ∧ StRel K T μ4 ih5 H'' ∧ EnvRel K H'' μ4 env4 σ'' ∧ whileLoop (asT fc) fb m env4 ih5 = some (c, env', ih'), fun σ'' H'' hh => ⟨m, Nat.lt_succ_self _, hh⟩, ?_⟩
      split at hl
      · rename_i env5 ih5 hb
        exact ⟨μ3, env2, ih4, _, _, _, S3, E3, hb, fun μ4 H4 σ4 p4 x4 S4 E4 => ⟨μ4, _, _, p2.trans (p3.trans p4), x2.trans (x3.trans x4), S4, E4, hl⟩⟩
      · rename_i env5 ih5 hb
        exact ⟨μ3, env2, ih4, _, _, _, S3, E3, hb, fun μ4 H4 σ4 p4 x4 S4 E4 => ⟨μ4, _, _, p2.trans (p3.trans p4), x2.trans (x3.trans x4), S4, E4, hl⟩⟩
      · rename_i env5 ih5 hb
        cases hl
        exact ⟨μ3, env2, ih4, _, _, _, S3, E3, hb, fun μ4 H4 σ4 p4 x4 S4 E4 => q μ4 H4 σ4 (p2.trans (p3.trans p4)) (x2.trans (x3.trans x4)) S4 E4⟩
      · rename_i d env5 ih5 hb
        cases hl
        exact ⟨μ3, env2, ih4, _, _, _, S3, E3, hb, fun μ4 H4 σ4 p4 x4 S4 E4 => q μ4 H4 σ4 (p2.trans (p3.trans p4)) (x2.trans (x3.trans x4)) S4 E4⟩
      · cases hl
    · rename_i ih4 ht
      refine rdT.mk S2 E2 ht fun μ3 H3 p3 x3 S3 E3 => ?_
      simp only [Bool.false_eq_true, if_false]
      cases hl
      exact q μ3 H3 σ' (p2.trans p3) (x2.trans x3) S3 E3
    · cases hl
end
/-! ### parallel stores -/
section
variable {X : Cx} {T : List Addr} {C : Orc} {G : GE} {L : Nat} {se : SE} {e tg : Expr} {pos : Pos}
theorem block_kind {env : Env} (hk : env.scope.kind = .function) : env.blockKind = .function := by unfold Env.blockKind; rw [hk]; rfl
theorem star_any {vs : List Expr} (h : plainL vs = true) : (vs.any fun | .Starred .. => true | _ => false) = false := by
  induction vs with
  | nil => rfl
  | cons v vs ih =>
    unfold plainL at h
    rw [List.all_cons, Bool.and_eq_true] at h
    rw [List.any_cons, ih h.2, Bool.or_false]
    have := h.1
    cases v <;> first | rfl | cases this
theorem sw2 {env : Env} {x y : Str} {px py pt pt2 : Pos} {kt k2 : Nat} {a b : Expr} (hk : env.scope.kind = .function) (hx : env.scope.names.lookup x = some .local) (hy : env.scope.names.lookup y = some .local) (hl : (px.line == py.line) = true) (hxy : (x == y) = false)
    (ha : notStar a = true) (hb : notStar b = true) (h1 : [a, b].all (foldedForSure 8) = false) (h2 : [a, b].all (constantsAlone 8) = false) : swappedStores [.Tuple [.Name x px, .Name y py] kt pt] (.Tuple [a, b] k2 pt2) env = pure (some [x, y]) := by
  have kx : env.kindOf x = some .local := hx
  have ky : env.kindOf y = some .local := hy
  have hlp : (py.line == px.line) = true := by rw [beq_iff_eq] at hl ⊢; exact hl.symm
  have hs : ([a, b].any fun | .Starred .. => true | _ => false) = false := star_any (by simp [plainL, ha, hb])
  have hyx : (y == x) = false := by
    rw [beq_eq_false_iff_ne] at hxy ⊢
    exact fun z => hxy z.symm
  unfold swappedStores
  simp only [h1, h2, hs, List.length_cons, List.length_nil, block_kind hk, List.head?_cons, Option.map_some, Option.getD_some, Expr.pos, List.filterMap_cons, List.filterMap_nil, kx, ky, hlp, beq_self_eq_true, Bool.and_true, if_true, List.eraseDups_cons, List.eraseDups_nil, List.filter_cons, List.filter_nil, hyx, Bool.not_false, Bool.not_true]
  rw [if_neg (by decide), if_neg (by rw [Bool.not_eq_true]; exact star_any (by simp [plainL, ha, hb])), if_neg (by decide)]
  rfl
theorem sw3 {env : Env} {x y z : Str} {px py pz pt pt2 : Pos} {kt k2 : Nat} {a b c : Expr} (hk : env.scope.kind = .function) (hx : env.scope.names.lookup x = some .local) (hy : env.scope.names.lookup y = some .local) (hz : env.scope.names.lookup z = some .local) (hl : (px.line == py.line) = true) (hl2 : (px.line == pz.line) = true)
    (hxy : (x == y) = false) (hxz : (x == z) = false) (hyz : (y == z) = false)
    (ha : notStar a = true) (hb : notStar b = true) (hc : notStar c = true) (h1 : [a, b, c].all (foldedForSure 8) = false) (h2 : [a, b, c].all (constantsAlone 8) = false) : swappedStores [.Tuple [.Name x px, .Name y py, .Name z pz] kt pt] (.Tuple [a, b, c] k2 pt2) env = pure (some [x, y, z]) := by
  have kx : env.kindOf x = some .local := hx
  have ky : env.kindOf y = some .local := hy
  have kz : env.kindOf z = some .local := hz
  have hlp : (py.line == px.line) = true := by rw [beq_iff_eq] at hl ⊢; exact hl.symm
  have hlp2 : (pz.line == px.line) = true := by rw [beq_iff_eq] at hl2 ⊢; exact hl2.symm
  have hs : ([a, b, c].any fun | .Starred .. => true | _ => false) = false := star_any (by simp [plainL, ha, hb, hc])
  have sym : ∀ {x y : Str}, (x == y) = false → (y == x) = false := fun {x y} h => by
    rw [beq_eq_false_iff_ne] at h ⊢
    exact fun z => h z.symm
  unfold swappedStores
  simp only [h1, h2, hs, List.length_cons, List.length_nil, block_kind hk, List.head?_cons, Option.map_some, Option.getD_some, Expr.pos, List.filterMap_cons, List.filterMap_nil, kx, ky, kz, hlp, hlp2, beq_self_eq_true, Bool.and_true, if_true, List.eraseDups_cons, List.eraseDups_nil, List.filter_cons, List.filter_nil, sym hxy, sym hxz, sym hyz, Bool.not_false, Bool.not_true]
  rw [if_neg (by decide), if_neg (by rw [Bool.not_eq_true]; exact star_any (by simp [plainL, ha, hb, hc])), if_neg (by decide)]
  rfl
def fPar (fas : IEnv → IH → Option (List D × IH)) (ts : List Nat) : IEnv → IH → Option (Ctl × IEnv × IH) := fun env ih => match fas env ih with
  | some (ds, ih1) => (putAll ts ds env).map fun env1 => (.next, env1, ih1)
  | none => none
theorem nameC_ {i : Nat} {x : Str} {p : Pos} (h : nameC se i (.Name x p) = true) : se.N[i]? = some x := by
  unfold nameC at h
  rw [Bool.and_eq_true, decide_eq_true_eq] at h
  exact h.2
theorem putAll_two {i j : Nat} {ds : List D} {env env' : IEnv} (h : putAll [i, j] ds env = some env') : ∃ d d', ds = [d, d'] ∧ env' = (env.set i (some d)).set j (some d') := by
  cases ds with
  | nil => cases h
  | cons d ds =>
    unfold putAll at h
    split at h
    · cases ds with
      | nil => cases h
      | cons d' ds =>
        unfold putAll at h
        split at h
        · cases ds with
          | nil => unfold putAll at h; cases h; exact ⟨d, d', rfl, rfl⟩
          | cons _ _ => cases h
        · cases h
    · cases h
theorem putAll_three {i j l : Nat} {ds : List D} {env env' : IEnv} (h : putAll [i, j, l] ds env = some env') : ∃ d d' d'', ds = [d, d', d''] ∧ env' = ((env.set i (some d)).set j (some d')).set l (some d'') := by
  cases ds with
  | nil => cases h
  | cons d ds =>
    unfold putAll at h
    split at h
    · obtain ⟨d1, d2, rfl, rfl⟩ := putAll_two h
      exact ⟨d, d1, d2, rfl, rfl⟩
    · cases h
theorem ps_par2' {es vs : List Expr} {ts : List Nat} {kt k2 : Nat} {pt pt2 : Pos} {fas : IEnv → IH → Option (List D × IH)} (ok : COk X T C G L se) (hk : se.sc.kind = .function) (hn : namesC se ts es = true) (hd : dist ts = true) (hp : par2C se es vs = true) (ha : PA X vs (rdA X.K T fas)) :
    PS X (.Assign [.Tuple es kt pt] (.Tuple vs k2 pt2) pos) (rdS X.K T (fPar fas ts)) := by
  unfold par2C at hp
  split at hp
  · rename_i x px y py a b
    simp only [Bool.and_eq_true, decide_eq_true_eq, Bool.not_eq_true'] at hp
    obtain ⟨⟨⟨⟨⟨⟨⟨h1, h2⟩, h3⟩, h4⟩, h5⟩, h6⟩, h7⟩, h8⟩ := hp
    match ts, hn, hd with
    | [i, j], hn, hd =>
      unfold namesC namesC at hn
      simp only [Bool.and_eq_true] at hn
      have n1 := nameC_ hn.1
      have n2 := nameC_ hn.2.1
      have hij : i ≠ j := by
        simp [dist] at hd
        exact hd
      rw [← ok.N] at n1 n2
      rw [← ok.sc] at h1 h2 hk
      refine (ps_par ok.calm ok.nd n1 n2 hij h1 h2 ha (sw2 hk h1 h2 h3 h4 h5 h6 h7 h8)).imp fun D σ H ⟨μ, env, ih, c, env', ih', S, E, ev, q⟩ => ?_
      unfold fPar at ev
      split at ev
      · rename_i ds ih1 h9
        obtain ⟨env1, h10, h11⟩ := Option.map_eq_some_iff.mp ev
        cases h11
        refine rdA.mk S E h9 fun μ1 H1 vs p x S1 E1 r => ?_
        obtain ⟨d, d', rfl, rfl⟩ := putAll_two h10
        obtain ⟨v, w, rfl, r1, r2⟩ := r.two
        exact ⟨v, w, rfl, q μ1 H1 _ p x S1 (set_rel (set_rel E1 r1) r2)⟩
      · cases ev
    | [], hn, _ => cases hn
    | [_], hn, _ => unfold namesC namesC at hn; simp at hn
    | _ :: _ :: _ :: _, hn, _ => unfold namesC namesC namesC at hn; simp at hn
  · cases hp
theorem ps_par3' {es vs : List Expr} {ts : List Nat} {kt k2 : Nat} {pt pt2 : Pos} {fas : IEnv → IH → Option (List D × IH)} (ok : COk X T C G L se) (hk : se.sc.kind = .function) (hn : namesC se ts es = true) (hd : dist ts = true) (hp : par3C se es vs = true) (ha : PA X vs (rdA X.K T fas)) :
    PS X (.Assign [.Tuple es kt pt] (.Tuple vs k2 pt2) pos) (rdS X.K T (fPar fas ts)) := by
  unfold par3C at hp
  split at hp
  · rename_i x px y py z pz a b c
    simp only [Bool.and_eq_true, decide_eq_true_eq, Bool.not_eq_true'] at hp
    obtain ⟨⟨⟨⟨⟨⟨⟨⟨⟨⟨⟨⟨h1, h2⟩, h2z⟩, h3⟩, h3z⟩, h4⟩, h4z⟩, h4y⟩, h5⟩, h6⟩, h6c⟩, h7⟩, h8⟩ := hp
    match ts, hn, hd with
    | [i, j, l], hn, hd =>
      unfold namesC namesC namesC at hn
      simp only [Bool.and_eq_true] at hn
      have n1 := nameC_ hn.1
      have n2 := nameC_ hn.2.1
      have n3 := nameC_ hn.2.2.1
      have hij : i ≠ j ∧ i ≠ l ∧ j ≠ l := by
        simp [dist] at hd
        exact ⟨hd.1.1, hd.1.2, hd.2⟩
      rw [← ok.N] at n1 n2 n3
      rw [← ok.sc] at h1 h2 h2z hk
      refine (L2.ps_par3 ok.calm ok.nd n1 n2 n3 hij.1 hij.2.1 hij.2.2 h1 h2 h2z ha (sw3 hk h1 h2 h2z h3 h3z h4 h4z h4y h5 h6 h6c h7 h8)).imp fun D σ H ⟨μ, env, ih, c, env', ih', S, E, ev, q⟩ => ?_
      unfold fPar at ev
      split at ev
      · rename_i ds ih1 h9
        obtain ⟨env1, h10, h11⟩ := Option.map_eq_some_iff.mp ev
        cases h11
        refine rdA.mk S E h9 fun μ1 H1 vs p x S1 E1 r => ?_
        obtain ⟨d, d', d'', rfl, rfl⟩ := putAll_three h10
        unfold Reps at r
        obtain ⟨u, r', rfl, r1, r⟩ := r
        obtain ⟨v, w, rfl, r2, r3⟩ := r.two
        exact ⟨u, v, w, rfl, q μ1 H1 _ p x S1 (set_rel (set_rel (set_rel E1 r1) r2) r3)⟩
      · cases ev
    | [], hn, _ => cases hn
    | [_], hn, _ => unfold namesC namesC at hn; simp at hn
    | [_, _], hn, _ => unfold namesC namesC namesC at hn; simp at hn
    | _ :: _ :: _ :: _ :: _, hn, _ => unfold namesC namesC namesC namesC at hn; simp at hn
  · cases hp
end
end CP
set_option maxRecDepth 100000
set_option maxHeartbeats 4000000
/-! All statements; defs -/
namespace CP
open PySem PySem.Spec PyProof.Rows L2 GxR

section
variable {T : List Addr} {C : Orc} {G : GE} {L : Nat}
theorem swapped_off {es vs : List Expr} {kt k2 : Nat} {pt pt2 : Pos} {env : Env} (h : offC env.scope es vs = true) : swappedStores [.Tuple es kt pt] (.Tuple vs k2 pt2) env = pure none := by
  unfold offC at h
  unfold swappedStores
  simp only
  rw [Bool.or_eq_true, Bool.or_eq_true] at h
  rcases h with (h | h) | h
  · rw [if_pos (by rw [h]; rfl)]
  · split
    · rfl
    · split
      · rfl
      · split
        · rfl
        · first
            | rfl
            | (rw [if_pos h]; rfl)
  · split
    · rfl
    · split
      · rfl
      · rw [if_pos]
        rw [Bool.or_eq_true]
        left
        exact h
theorem pe_free {e : Expr} {es vs : List Expr} {ts : List Nat} {kt k2 : Nat} {pt pt2 pos : Pos} {X : Cx} {se : SE} {fas : IEnv → IH → Option (List D × IH)} (ok : COk X T C G L se) (hn : namesC se ts es = true) (h : offC se.sc es vs = true) (hl : vs.length ≤ 1000)
    (hlen : ∀ env ih ds ih', fas env ih = some (ds, ih') → ds.length = vs.length) (ha : PA X vs (rdA X.K T fas)) : PS X (.Assign [.Tuple es kt pt] (.Tuple vs k2 pt2) pos) (rdS X.K T (fPar fas ts)) := by
  have hg : trG se (.tup ts) (.Tuple es kt pt) = true := by unfold trG; exact hn
  refine (ps_asg (pe_tup' ha) (okG (weak := false) ok rfl hg) (sole_false rfl) (swapped_off (by rw [ok.sc]; exact h)) rfl).imp fun D σ H ⟨μ, env, ih, c, env', ih', S, E, ev, q⟩ => ?_
  unfold fPar at ev
  split at ev
  · rename_i ds ih1 h1
    obtain ⟨env1, h2, h3⟩ := Option.map_eq_some_iff.mp ev
    cases h3
    refine rdE.mk (x := .tup ds) S E ?_ fun μ1 H1 v p x S1 E1 r => ⟨μ1, env, _, .tup ds, env', S1, E1, r, ?_, fun σ' E' _ => q μ1 H1 σ' p x S1 E'⟩
    · unfold fTup
      rw [h1]
      have hz : ds.length ≤ sizeLine := by rw [hlen _ _ _ _ h1, sizeLine_eq]; omega
      simp only [if_pos hz]
    · unfold asgT
      exact h2
  · cases ev
theorem ps_lc' {X : Cx} {se : SE} {tg e : Expr} {pos : Pos} {t : MT} {m : ME} (ok : COk X T C G L se) (hk : se.sc.kind = .function) (hg : trG se t tg = true) (hm : trE G se m e = true) (hs : swapC se tg e = true) : PS X (.Assign [tg] e pos) (rdS X.K T (fAsg (evE C m) t)) := by
  unfold swapC at hs
  split at hs
  · rename_i y py elx gsx scope p
    simp only [Bool.and_eq_true, decide_eq_true_eq, Bool.not_eq_true'] at hs
    obtain ⟨⟨s1, s2⟩, s3⟩ := hs
    cases t with
    | tup is => unfold trG at hg; cases hg
    | name i =>
      have hN := nameC_ (show nameC se i (.Name y py) = true from hg)
      rw [← ok.N] at hN
      cases m <;> (unfold trE at hm) <;> first
        | cases hm
        | skip
      rename_i elt tgm it ifs own
      split at hm
      · rename_i heq
        cases heq
        rename_i t i' fs as0
        simp only [Bool.and_eq_true, decide_eq_true_eq] at hm
        obtain ⟨⟨⟨⟨⟨⟨⟨⟨h1, h2⟩, h3⟩, h4⟩, h5⟩, h6⟩, h7⟩, h8⟩, h9⟩ := hm
        subst h1
        have ef : evE C (.comp elt tgm it ifs own) = fComp (evI C it) (evT C ifs) (evE C elt) tgm own := by funext env ih; simp only [evE, fComp] <;> rfl
        rw [ef]
        have hw : (!it.weak || tgm.isTup) = true := by
          cases hq : it.weak <;> simp_all
        have hwt : it.weak = true → isTupE t = true := fun hq => by simp_all
        have s1' : X.env.scope.names.lookup y = some .local := by rw [ok.sc]; exact s1
        have hk' : X.env.scope.kind = .function := by rw [ok.sc]; exact hk
        have r := ps_setLc (spos := pos) (g := rdG X.K T it.weak tgm) (tt := rdT X.K T (evT C ifs)) (te := rdE X.K T (evE C elt)) ok.calm ok.nd hN s1' (sw_true hk' s1' s2 s3) (okI it ok hwt h6) (by rw [ok.N, ok.sc]; exact blkOk_by h3) (fun s H D cl fp => okG (weak := it.weak) (ok.blk s H D cl fp) hw h7)
          (fun s H D cl fp => okT ifs (ok.blk s H D cl fp) h8) (fun s H D cl fp => (okE elt (ok.blk s H D cl fp) h9).1) (folded_of h2)
        rw [ownL_snd] at r
        refine r.imp fun D σ H ⟨μ, env, ih, c, env', ih', S, E, ev, q⟩ => ?_
        show tLc _ _ _ _ own σ H _
        refine rd_comp (List.all_eq_true.mp h5 · · |> of_decide_eq_true) ?_
        unfold fAsg at ev
        split at ev
        · rename_i he
          obtain ⟨env1, k2, k3⟩ := Option.map_eq_some_iff.mp ev
          cases k3
          refine rdE.mk S E he fun μ1 H1 v p x S1 E1 rv => ?_
          unfold asgT at k2
          simp only at k2
          split at k2
          · cases k2
            exact q μ1 H1 _ p x S1 (set_rel E1 rv)
          · cases k2
        · cases ev
      · cases hm
  · cases hs
mutual
theorem okS (fuel : Nat) : ∀ (m : MS) {X : Cx} {se : SE} {s : Stmt}, COk X T C G L se → se.sc.kind = .function → X.xe = (fun _ _ => False) → trS G se m s = true → PS X s (rdS X.K T (evS C fuel m))
  | .asg t m, X, se, s, ok, hk, hx, h => by
    unfold trS at h
    split at h
    · rename_i tg e pos
      simp only [Bool.and_eq_true] at h
      obtain ⟨⟨h1, h2⟩, h3⟩ := h
      have ef : evS C fuel (.asg t m) = fAsg (evE C m) t := by funext env ih; simp only [evS, fAsg] <;> rfl
      rw [ef]
      cases hsw : swapC se tg e with
      | true => exact ps_lc' ok hk h1 h2 hsw
      | false =>
        rw [hsw, Bool.false_or, Bool.and_eq_true, Bool.not_eq_true', Bool.not_eq_true'] at h3
        exact ps_asg' ok (okE m ok h2).1 h1 (sole_off ok hk hsw h3.1) h3.2
    · cases h
  | .asgP ts ms, X, se, s, ok, hk, hx, h => by
    unfold trS at h
    split at h
    · simp only [Bool.and_eq_true, Bool.or_eq_true, decide_eq_true_eq] at h
      obtain ⟨⟨⟨h1, h2⟩, h3⟩, h4⟩ := h
      have ef : evS C fuel (.asgP ts ms) = fPar (evEs C ms) ts := by funext env ih; simp only [evS, fPar] <;> rfl
      rw [ef]
      rcases h4 with (h4 | h4) | h4
      · exact ps_par2' ok hk h1 h3 h4 (okEs ms ok h2)
      · exact ps_par3' ok hk h1 h3 h4 (okEs ms ok h2)
      · exact pe_free (e := .Constant .none 0 ⟨0, 0, 0, 0⟩) ok h1 h4.1 h4.2 (fun env ih ds ih' hh => evEs_len C ms h2 hh) (okEs ms ok h2)
    · cases h
  | .put o i m, X, se, s, ok, hk, hx, h => by
    unfold trS at h
    split at h
    · simp only [Bool.and_eq_true] at h
      obtain ⟨⟨⟨h1, h2⟩, h3⟩, h4⟩ := h
      have ef : evS C fuel (.put o i m) = fPut (evE C o) (evE C i) (evE C m) := by funext env ih; simp only [evS, fPut] <;> rfl
      rw [ef]
      exact ps_put' (okE m ok h2).1 (okE o ok h3).1 (okE i ok h4).1 h1
    · cases h
  | .aug i o m, X, se, s, ok, hk, hx, h => by
    unfold trS at h
    split at h
    · simp only [Bool.and_eq_true, decide_eq_true_eq] at h
      obtain ⟨⟨h1, h2⟩, h3⟩ := h
      subst h1
      have ef : evS C fuel (.aug i o m) = fAug i o (evE C m) := by funext env ih; simp only [evS, fAug] <;> rfl
      rw [ef]
      exact ps_aug' ok h2 (okE m ok h3).1
    · cases h
  | .expr m, X, se, s, ok, hk, hx, h => by
    unfold trS at h
    split at h
    · simp only [Bool.and_eq_true, Bool.not_eq_true'] at h
      have ef : evS C fuel (.expr m) = fExpr (evE C m) := by funext env ih; simp only [evS, fExpr] <;> rfl
      rw [ef]
      exact ps_expr' h.1 (okE m ok h.2).1
    · cases h
  | .ret m, X, se, s, ok, hk, hx, h => by
    unfold trS at h
    split at h
    · have ef : evS C fuel (.ret m) = fRet (evE C m) := by funext env ih; simp only [evS, fRet] <;> rfl
      rw [ef]
      exact ps_ret' (okE m ok h).1
    · cases h
  | .retN, X, se, s, ok, hk, hx, h => by
    unfold trS at h
    split at h
    · have ef : evS C fuel .retN = fun env ih => some (.ret .non, env, ih) := by funext env ih; simp only [evS]
      rw [ef]
      exact ps_retN'
    · cases h
  | .ifs c a b, X, se, s, ok, hk, hx, h => by
    unfold trS at h
    split at h
    · simp only [Bool.and_eq_true] at h
      have ef : evS C fuel (.ifs c a b) = fIf (evE C c) (evSs C fuel a) (evSs C fuel b) := by funext env ih; simp only [evS, fIf] <;> rfl
      rw [ef]
      exact ps_if' (okE c ok h.1.1).2 (okSs fuel a ok hk hx h.1.2) (okSs fuel b ok hk hx h.2)
    · cases h
  | .for_ tg it body, X, se, s, ok, hk, hx, h => by
    unfold trS at h
    split at h
    · simp only [Bool.and_eq_true] at h
      obtain ⟨⟨⟨⟨h1, h2⟩, h3⟩, h4⟩, h5⟩ := h
      rename_i t i b p
      have ef : evS C fuel (.for_ tg it body) = fFor (evI C it) (evSs C fuel body) tg := by funext env ih; simp only [evS, fFor] <;> rfl
      rw [ef]
      have hw : (!it.weak || tg.isTup) = true := by
        cases hq : it.weak <;> simp_all
      have hwt : it.weak = true → isTupE t = true := fun hq => by simp_all
      exact (ps_for (by rw [hx]; exact PassesOwn.never) ok.calm (okI it ok hwt h3) (okG (weak := it.weak) ok hw h4) (okSs fuel body ok hk hx h5) (folded_of h1)).imp fun D σ H hh => rd_for hh
    · cases h
  | .while_ c body, X, se, s, ok, hk, hx, h => by
    unfold trS at h
    split at h
    · simp only [Bool.and_eq_true] at h
      have ef : evS C fuel (.while_ c body) = fun env ih => whileLoop (asT (evE C c)) (evSs C fuel body) fuel env ih := by funext env ih; simp only [evS] <;> rfl
      rw [ef]
      exact (ps_while (by rw [hx]; exact PassesOwn.never) (okE c ok h.1).2 (okSs fuel body ok hk hx h.2)).imp fun D σ H hh => rd_while hh
    · cases h
  | .brk, X, se, s, ok, hk, hx, h => by
    unfold trS at h
    split at h
    · have ef : evS C fuel .brk = fun env ih => some (.brk, env, ih) := by funext env ih; simp only [evS]
      rw [ef]
      exact ps_brk'
    · cases h
  | .cont, X, se, s, ok, hk, hx, h => by
    unfold trS at h
    split at h
    · have ef : evS C fuel .cont = fun env ih => some (.cont, env, ih) := by funext env ih; simp only [evS]
      rw [ef]
      exact ps_cont'
    · cases h
  | .pass, X, se, s, ok, hk, hx, h => by
    unfold trS at h
    split at h
    · have ef : evS C fuel .pass = fun env ih => some (.next, env, ih) := by funext env ih; simp only [evS]
      rw [ef]
      exact ps_pass'
    · cases h
theorem okSs (fuel : Nat) : ∀ (ms : List MS) {X : Cx} {se : SE} {ss : List Stmt}, COk X T C G L se → se.sc.kind = .function → X.xe = (fun _ _ => False) → trSs G se ms ss = true → PSs X ss (rdS X.K T (evSs C fuel ms))
  | [], X, se, ss, ok, hk, hx, h => by
    unfold trSs at h
    cases ss with
    | cons _ _ => cases h
    | nil =>
      have ef : evSs C fuel [] = fNone := by funext env ih; simp only [evSs, fNone]
      rw [ef]
      exact pss_nil'
  | m :: ms, X, se, ss, ok, hk, hx, h => by
    unfold trSs at h
    cases ss with
    | nil => cases h
    | cons s ss =>
      simp only [Bool.and_eq_true] at h
      have ef : evSs C fuel (m :: ms) = fSeq (evS C fuel m) (evSs C fuel ms) := by
        funext env ih
        simp only [evSs, fSeq] <;> (split <;> simp_all)
      rw [ef]
      exact pss_cons' (okS fuel m ok hk hx h.1) (okSs fuel ms ok hk hx h.2)
end
end
end CP
set_option maxRecDepth 100000
set_option maxHeartbeats 4000000
/-! Defs by levels; the end of a row -/
namespace CP
open PySem PySem.Spec PyProof.Rows L2 GxR

/-- a def: mine, its names, the text's -/
structure PD where
  m : MDef
  N : List Str
  st : Stmt
  gen : Bool
def PD.ps (d : PD) : List Str := (defArgs d.st).args.map (·.arg)
def PD.se (d : PD) : SE := ⟨defScope d.st, d.N, d.gen, none⟩
def PD.at_ (d : PD) : He.Defn := (d.m.name, none)
def PD.D (d : PD) : He.DefD := ⟨(d.m.name, none), d.m.name, d.m.name, defArgs d.st, defBody d.st, defScope d.st, [], []⟩
def geOf (globs : List (Str × CP.D)) (ds : List PD) : GE := ⟨globs, ds.map fun d => (d.m.name, d.ps.length)⟩
def PD.ok (G : GE) (d : PD) : Bool := C8.scC d.N d.ps (defScope d.st) && decide (d.m.params = d.ps.length) && decide (d.m.size = d.N.length) && trSs G d.se d.m.body (defBody d.st)
/-- how its parameters are bound -/
def PD.Bd (d : PD) : Prop := ∀ (kV doc pm : Value) (an : Option Addr) (cdv ct : Value) (us : List Value), us.length = d.ps.length → bindArgs (PySem.W.fnOf d.m.name d.m.name (defArgs d.st) (defBody d.st) (defScope d.st) .none kV doc pm an cdv ct) ⟨us, []⟩ = pure (d.ps.zip us)

theorem keep_then {K : PySem.W.Frag} {T : List Addr} {μ : List Addr} {ih ih1 ih' : IH} {H : Hp} {r d : CP.D} {Q : VK} (S : StRel K T μ ih H) (h : keepH ih (some (r, ih1)) = some (d, ih')) (q : Then K T H μ d ih' Q) : Then K T H μ r ih1 Q := by
  unfold keepH at h
  simp only at h
  split at h
  · rename_i hc
    cases h
    exact fun μ' H' v p x s rr => q μ H' v (List.prefix_refl _) x (S.drop p s hc.2) (rr.pureMu hc.1)
  · cases h
    exact q
theorem start_rel {K : PySem.W.Frag} {μ : List Addr} {H : Hp} {ds : List CP.D} {vs : List V} {N : List Str} {n : Nat} (r : Reps K H μ ds vs) (hn : n = ds.length) : EnvRel K H μ (ds.map some ++ List.replicate (N.length - n) none) (L2.start N vs) := by
  have hl := r.length
  unfold L2.start
  refine ⟨by simp [hl, hn], fun i d hd => ?_⟩
  by_cases hi : i < ds.length
  · rw [List.getElem?_append_left (by simpa using hi), List.getElem?_map] at hd
    rw [List.getElem?_append_left (by simpa [hl] using hi), List.getElem?_map]
    obtain ⟨d', h1, h2⟩ := Option.map_eq_some_iff.mp hd
    cases h2
    obtain ⟨v, e1, e2⟩ := r.get h1
    exact ⟨v, by rw [e1]; rfl, e2⟩
  · rw [List.getElem?_append_right (by simpa using hi), List.getElem?_replicate] at hd
    split at hd <;> cases hd
theorem find_name : ∀ {l : List MDef} {d : MDef}, (l.map (·.name)).Nodup → d ∈ l → l.find? (fun x => x.name == d.name) = some d
  | [], _, _, h => by cases h
  | x :: l, d, nd, h => by
    rw [List.map_cons, List.nodup_cons] at nd
    rw [List.find?_cons]
    rcases List.mem_cons.mp h with rfl | h
    · simp
    · have hne : (x.name == d.name) = false := by
        rw [beq_eq_false_iff_ne]
        exact fun e => nd.1 (List.mem_map.mpr ⟨d, h, e.symm⟩)
      rw [hne]
      exact find_name nd.2 h
/-- what is known of the module behind its top -/
structure TopK (K : PySem.W.Frag) (mg : Str → Option Value) (T : List Addr) (base : Heap) (globs : List (Str × CP.D)) (ds : List PD) : Prop where
  fn : ∀ d ∈ ds, ∃ fd, FunD K d.m.name d.m.name (defArgs d.st) (defBody d.st) (defScope d.st) [] [] (He.ga K d.m.name) fd
  gl : ∀ d ∈ ds, mg d.m.name = some (.ref (He.ga K d.m.name))
  blt : ∀ x, x ∈ bltNames → mg x = none
  globs : ∀ x d, globs.lookup x = some d → ∃ v u, mg x = some u ∧ RelV v u ∧ ∀ H μ, Rep K H μ d v
  tab : ∀ d ∈ ds, d.gen = true → TabB base mg (He.cT K d.at_).1 (He.cT K d.at_).2 ∧ (He.cT K d.at_).2 ∈ T
theorem lookup_mem' {α : Type} {x : Str} {n : α} : ∀ {l : List (Str × α)}, l.lookup x = some n → (x, n) ∈ l
  | [], h => by cases h
  | (y, m) :: l, h => by
    rw [List.lookup_cons] at h
    split at h
    · rename_i e
      cases h
      rw [beq_iff_eq] at e
      rw [e]
      exact List.mem_cons_self
    · exact List.mem_cons_of_mem _ (lookup_mem' h)
theorem fns_ok {P : Program} {w : World} {K : PySem.W.Frag} {mg : Str → Option Value} {base : Heap} {T : List Addr} {globs : List (Str × CP.D)} {ds : List PD} (fuel : Nat) (top : TopK K mg T base globs ds) (nd : ((ds.map (·.m)).map (·.name)).Nodup) (hok : ∀ d ∈ ds, d.ok (geOf globs ds) = true) (hbd : ∀ d ∈ ds, d.Bd) :
    ∀ (n : Nat) (d : PD), d ∈ ds → ∀ fd, FunD K d.m.name d.m.name (defArgs d.st) (defBody d.st) (defScope d.st) [] [] (He.ga K d.m.name) fd →
      FnOk P w K mg base CX0 (2 * n) (He.ga K d.m.name) fd d.ps (spC K T (callN (ds.map (·.m)) fuel n) d.m.name d.ps.length)
  | 0, d, hd, fd, F => ⟨fun vs H Q E h => h.1, fun A outer s H args us vs Q E _ _ _ _ h => by
      obtain ⟨_, μ, ih, dsv, r, ih', S, R, hc, q⟩ := h
      cases hc⟩
  | n + 1, d, hd, fd, F => by
    have hk := hok d hd
    unfold PD.ok at hk
    simp only [Bool.and_eq_true, decide_eq_true_eq] at hk
    obtain ⟨⟨⟨k1, k2⟩, k3⟩, k4⟩ := hk
    have sc := C8.fnScope_by k1
    obtain ⟨oc, od, dV, kV, doc, pm, an, cdv, ct, osl, rfl, lk, hcd, _, _⟩ := F.ex
    refine fn_of (k := 2 * n + 1) (N := d.N) lk hcd sc (fun vs H Q E h => h.1) fun A outer s H vs Q E hr hsp => ?_
    obtain ⟨hl, μ, ih, dsv, r, ih', S, R, hc, q⟩ := hsp
    have cok : COk (cxOf CX0 P w K mg base d.N d.m.name (defScope d.st) (He.ga K d.m.name) cdv A outer s H E).nox T (callN (ds.map (·.m)) fuel n) (geOf globs ds) (2 * n) d.se := by
      refine ⟨rfl, sc.nd, rfl, rfl, hr.mono (by split <;> omega), fun x hx => ?_, top.globs, top.blt, fun hg => ?_, fun f m hf => ?_⟩
      · unfold storeC PD.se at hx
        simp only at hx
        refine ⟨?_, .inl rfl⟩
        show Loc (defScope d.st) x
        split at hx
        · exact .inl (by assumption)
        · exact .inr (by assumption)
        · cases hx
      · obtain ⟨t1, t2⟩ := top.tab d hd hg
        obtain ⟨c, rfl⟩ := He.codeIn_ref hcd
        have lk' : K.lookup (He.fAd K d.at_) = some ⟨oc, od, .func (PySem.W.fnOf d.m.name d.m.name (defArgs d.st) (defBody d.st) (defScope d.st) dV kV doc pm an (.ref c) ct), osl⟩ := lk
        have e := He.codeOf_eq lk' (c := c) rfl
        have e1 : (He.cT K d.at_).1 = c := e
        exact ⟨c, _, rfl, by rw [← e1]; exact t1, t2⟩
      · have hm := lookup_mem' (show (ds.map fun d => (d.m.name, d.ps.length)).lookup f = some m from hf)
        obtain ⟨d2, hd2, e2⟩ := List.mem_map.mp hm
        cases e2
        obtain ⟨fd2, F2⟩ := top.fn d2 hd2
        exact ⟨_, fd2, d2.ps, fns_ok fuel top nd hok hbd n d2 hd2 fd2 F2, top.gl d2 hd2, F2.kp, F2.bindsN (hbd d2 hd2)⟩
    refine ⟨_, PSs.nox (okSs fuel d.m.body cok sc.kind rfl k4), ?_⟩
    have hlen : dsv.length = d.m.params := by rw [k2, ← hl, R.length]
    have hf : (ds.map (·.m)).find? (fun x => x.name == d.m.name) = some d.m := find_name nd (List.mem_map.mpr ⟨d, hd, rfl⟩)
    unfold callN at hc
    rw [hf] at hc
    simp only at hc
    unfold MDef.run at hc
    rw [if_pos hlen, k3] at hc
    have E0 : EnvRel K H μ (dsv.map some ++ List.replicate (d.N.length - d.m.params) none) (L2.start d.N vs) := start_rel R hlen.symm
    split at hc
    · rename_i ev
      exact ⟨μ, _, ih, _, _, _, S, E0, ev, fun μ' H' σ' p x s e => (keep_then S hc q) μ' H' _ p x s rep_non⟩
    · rename_i ev
      exact ⟨μ, _, ih, _, _, _, S, E0, ev, fun μ' H' σ' p x s e v rv => (keep_then S hc q) μ' H' v p x s rv⟩
    · cases hc

/-! ### the module's constants -/
mutual
def repB (K : PySem.W.Frag) : CP.D → Value → Bool
  | .non, .none => true
  | .bl b, .bool c => b == c
  | .int i, .int j _ => decide (i = j)
  | .str x, .str y _ => decide (x = y)
  | .tup ds, .ref a => match K.lookup a with
    | some ⟨.type c, none, .seq its _, _⟩ => decide (c = "tuple") && (decide (its.size ≤ sizeLine) && repsB K ds its.toList)
    | _ => false
  | _, _ => false
def repsB (K : PySem.W.Frag) : List CP.D → List Value → Bool
  | [], [] => true
  | d :: ds, u :: us => repB K d u && repsB K ds us
  | _, _ => false
end
mutual
theorem repB_ok {K : PySem.W.Frag} : ∀ {d : CP.D} {u : Value}, repB K d u = true → ∃ v, RelV v u ∧ ∀ H μ, Rep K H μ d v
  | .non, u, h => by
    cases u <;> first
      | exact ⟨.non, rfl, fun _ _ => rep_non⟩
      | (unfold repB at h; cases h)
  | .bl b, u, h => by
    cases u <;> first
      | (unfold repB at h; rw [beq_iff_eq] at h; subst h; exact ⟨.bl _, rfl, fun _ _ => rep_bl⟩)
      | (unfold repB at h; cases h)
  | .int i, u, h => by
    cases u <;> first
      | (unfold repB at h; rw [decide_eq_true_eq] at h; subst h; exact ⟨.int _, ⟨_, rfl⟩, fun _ _ => rep_int⟩)
      | (unfold repB at h; cases h)
  | .str i, u, h => by
    cases u <;> first
      | (unfold repB at h; rw [decide_eq_true_eq] at h; subst h; exact ⟨.str _, ⟨_, rfl⟩, fun _ _ => rep_str⟩)
      | (unfold repB at h; cases h)
  | .ref i, u, h => by cases u <;> (unfold repB at h; cases h)
  | .rol i, u, h => by cases u <;> (unfold repB at h; cases h)
  | .tup ds, u, h => by
    cases u with
    | ref a =>
      unfold repB at h
      split at h
      · rename_i c its n sl e
        rw [Bool.and_eq_true, Bool.and_eq_true, decide_eq_true_eq, decide_eq_true_eq] at h
        obtain ⟨h1, h2, h3⟩ := h
        obtain ⟨vs, r1, r2⟩ := repsB_ok h3
        refine ⟨.ref a, rfl, fun H μ => ?_⟩
        unfold Rep
        exact ⟨a, vs, rfl, .inr ⟨_, its, n, e, congrArg Value.type h1, rfl, rfl, h2, r1⟩, r2 H μ⟩
      · cases h
    | _ => unfold repB at h; cases h
theorem repsB_ok {K : PySem.W.Frag} : ∀ {ds : List CP.D} {us : List Value}, repsB K ds us = true → ∃ vs, Vals vs us ∧ ∀ H μ, Reps K H μ ds vs
  | [], [], _ => ⟨[], .nil, fun _ _ => .nil⟩
  | d :: ds, u :: us, h => by
    unfold repsB at h
    rw [Bool.and_eq_true] at h
    obtain ⟨v, r1, r2⟩ := repB_ok h.1
    obtain ⟨vs, q1, q2⟩ := repsB_ok h.2
    exact ⟨v :: vs, .cons r1 q1, fun H μ => .cons (r2 H μ) (q2 H μ)⟩
  | [], _ :: _, h => by unfold repsB at h; cases h
  | _ :: _, [], h => by unfold repsB at h; cases h
end
def globsB (globs : List (Str × CP.D)) (K : PySem.W.Frag) : Bool := globs.all fun p => match PySem.W.nsIn K mainGlobals p.1 with
  | some (some u) => repB K p.2 u
  | _ => false
theorem globsB_ok {globs : List (Str × CP.D)} {K : PySem.W.Frag} {h : Heap} {mg : Str → Option Value} (X : K.In h) (Gn : h.Ns mainGlobals mg) (hb : globsB globs K = true) : ∀ x d, globs.lookup x = some d → ∃ v u, mg x = some u ∧ RelV v u ∧ ∀ H μ, Rep K H μ d v := by
  intro x d hx
  have := List.all_eq_true.mp hb _ (lookup_mem' hx)
  simp only at this
  split at this
  · rename_i u e
    obtain ⟨v, r1, r2⟩ := repB_ok this
    exact ⟨v, u, PySem.W.mg_of X Gn e, r1, r2⟩
  · cases this

/-! ### the end -/
def faOf (ds : List PD) : List He.Fa := (ds.map fun d => He.Fa.glo d.m.name) ++ bltNames.map He.Fa.free
def fnOf' (ds : List PD) : List He.DefD := ds.map PD.D
def tfOf (ds : List PD) : List He.Defn := (ds.filter (·.gen)).map PD.at_
abbrev hookOf (globs : List (Str × CP.D)) (ds : List PD) : PySem.W.Hook := He.hookX 5 (faOf ds) (fnOf' ds) [] (tfOf ds) (globsB globs)
def obOf (globs : List (Str × CP.D)) (ds : List PD) (s : PySem.W.SharedT) : He.AlX := He.obsX 5 (faOf ds) (fnOf' ds) [] (tfOf ds) (globsB globs) (HandSHeadRun.getT s)
theorem ob_eq (globs : List (Str × CP.D)) (ds : List PD) (s : PySem.W.SharedT) : obOf globs ds s = (hookOf globs ds).obs s.abs := He.obsX_eq (HandSHeadRun.getT_eq s)
theorem says_top {globs : List (Str × CP.D)} {ds : List PD} {w : World} {h base : Heap} {K : PySem.W.Frag} {mg : Str → Option Value} (X : K.In h) (Gn : h.Ns mainGlobals mg) (c : He.SaysX (faOf ds) (fnOf' ds) [] (tfOf ds) (globsB globs) w h K)
    (TB : ∀ p ∈ (tfOf ds).map (He.cT K), TabB base mg p.1 p.2) : TopK K mg (((tfOf ds).map (He.cT K)).map (·.2)) base globs ds := by
  refine ⟨fun d hd => ?_, fun d hd => ?_, fun x hx => ?_, globsB_ok X Gn c.more, fun d hd hg => ?_⟩
  · have hm : d.D ∈ fnOf' ds := List.mem_map.mpr ⟨d, hd, rfl⟩
    exact He.SaysD.defs c.t.d hm
  · exact He.glo_ok X Gn (He.SaysD.facts c.t.d (List.mem_append_left _ (List.mem_map.mpr ⟨d, hd, rfl⟩)))
  · exact He.free_ok X Gn (He.SaysD.facts c.t.d (List.mem_append_right _ (List.mem_map.mpr ⟨x, hx, rfl⟩)))
  · have hm : He.cT K d.at_ ∈ (tfOf ds).map (He.cT K) := List.mem_map.mpr ⟨d.at_, List.mem_map.mpr ⟨d, List.mem_filter.mpr ⟨hd, hg⟩, rfl⟩, rfl⟩
    exact ⟨TB _ hm, List.mem_map.mpr ⟨_, hm, rfl⟩⟩
/-- the law, in my language -/
def Plain (ds : List PD) (fuel n : Nat) (name : Str) : Prop := ∀ ns : List Int, ns.length ≤ 63 → (∀ z ∈ ns, Builtin.Int.intBits z ≤ 1048576) →
  (∃ ih', callN (ds.map (·.m)) fuel n name [.ref 0] [.lst (ns.map .int)] = some (.bl true, ih')) ∧ ∃ ih', callN (ds.map (·.m)) fuel n name [.rol (ns.map .int)] [] = some (.bl true, ih')
theorem walk_end {l : PySem.W.OpenLaw} {q : Program} {loose : List Str} {XP : (Str → Option Value) → Heap → Prop} {d : DefRec} {globs : List (Str × CP.D)} {ds : List PD} {fuel n : Nat} {dl : PD}
    (hn : l.most = some 63) (hdf : d.params.defaults = []) (hr : Room (2 * n) callerA) (hname : d.name = dl.m.name) (hdl : dl ∈ ds) (hps : dl.ps = [("script" : Str)]) (nd : ((ds.map (·.m)).map (·.name)).Nodup) (hok : ∀ d ∈ ds, d.ok (geOf globs ds) = true) (hbd : ∀ d ∈ ds, d.Bd) (law : Plain ds fuel n dl.m.name) :
    PySem.W.WalkO q loose XP (hookOf globs ds).says l.row.toRowW d [] (fun f vs => PySem.call f vs) := by
  refine LamX.walk_ofTsE (l := l) (n := 63) (k := 2 * n) (x := "script") (CX := fun _ => CX0) hn (by rw [sizeLine_eq]; decide) hdf hr (fun w mg fa h Y Gn hmg => ?_) fun _ _ _ _ _ z => z
  obtain ⟨K, KX, c⟩ := Y
  obtain ⟨fd, F⟩ := He.SaysD.defs c.t.d (show dl.D ∈ fnOf' ds from List.mem_map.mpr ⟨dl, hdl, rfl⟩)
  have e : mg dl.m.name = some (.ref (He.ga K dl.m.name)) := He.glo_ok KX Gn (He.SaysD.facts c.t.d (List.mem_append_left _ (List.mem_map.mpr ⟨dl, hdl, rfl⟩)))
  rw [hname, e] at hmg
  cases hmg
  have b := FunD.bindsA (ps := dl.ps) F (hbd dl hdl)
  refine ⟨K, KX, fd, (tfOf ds).map (He.cT K), spC K (((tfOf ds).map (He.cT K)).map (·.2)) (callN (ds.map (·.m)) fuel n) dl.m.name dl.ps.length, fun p hp => ?_, fun p hp => ?_, fun p hp => ?_, fun s v => ?_, fun H a ns hl hbits hT hS => ?_, fun base Kb Gb TB => ?_⟩
  · obtain ⟨p', hp', rfl⟩ := List.mem_map.mp hp
    exact c.empty p' hp'
  · obtain ⟨p', hp', rfl⟩ := List.mem_map.mp hp
    exact c.out p' hp'
  · obtain ⟨p', hp', rfl⟩ := List.mem_map.mp hp
    exact PySem.W.codeHd_of_K KX (c.hd p' hp')
  · have := b s [v] (by rw [hps]; rfl)
    rw [hps] at this
    exact this
  · have htab : ∀ P ∈ ((tfOf ds).map (He.cT K)).map (·.2), TabG H P := fun P hP => by
      obtain ⟨p, hp, rfl⟩ := List.mem_map.mp hP
      exact ⟨#[], hT p hp, trivial⟩
    obtain ⟨l1, l2⟩ := law ns hl hbits
    refine ⟨by rw [hps]; rfl, ?_⟩
    have rol : SL K H a (ns.map V.int) → ∃ μ ih dsv r ih', StRel K (((tfOf ds).map (He.cT K)).map (·.2)) μ ih H ∧ Reps K H μ dsv [.ref a] ∧ callN (ds.map (·.m)) fuel n dl.m.name dsv ih = some (r, ih') ∧ Then K (((tfOf ds).map (He.cT K)).map (·.2)) H μ r ih' (fun v _ => v = .bl true) := fun hs => by
      obtain ⟨ih', hc⟩ := l2
      refine ⟨[], [], [.rol (ns.map .int)], _, ih', ⟨htab, rfl, List.nodup_nil, fun i o a h => by cases h⟩, .cons ?_ .nil, hc, fun μ' H' v _ _ _ rv => rv.bl_⟩
      unfold Rep
      exact ⟨a, _, rfl, hs, reps_ints⟩
    rcases hS with (h1 | ⟨o, h1⟩) | h1
    · obtain ⟨ih', hc⟩ := l1
      refine ⟨[a], [.lst (ns.map .int)], [.ref 0], _, ih', ⟨htab, rfl, by simp, fun i o b h1' h2' => ?_⟩, .cons ?_ .nil, hc, fun μ' H' v _ _ _ rv => rv.bl_⟩
      · cases i with
        | zero =>
          cases h1'
          cases h2'
          exact ⟨_, h1, reps_ints⟩
        | succ i => cases h1'
      · unfold Rep
        exact ⟨a, rfl, rfl⟩
    · exact rol (.inl ⟨o, h1⟩)
    · exact rol (.inr h1)
  · have r := fns_ok (P := l.prog) (w := w) fuel (says_top (base := base) KX Gn c fun p hp => ⟨(TB p hp).code, (TB p hp).bm, (TB p hp).gP⟩) nd hok hbd n dl hdl fd F
    rw [hps] at r ⊢
    exact r
end CP
set_option maxRecDepth 100000
set_option maxHeartbeats 4000000
/-! Reckoning with my language: pure values -/
namespace CP
open PySem PySem.Spec PyProof.Rows L2

/-- e is d whatever is laid behind ih; nothing is laid, nothing written -/
def Sv (C : Orc) (ih : IH) (env : IEnv) (e : ME) (d : D) : Prop := ∀ x : IH, evE C e env (ih ++ x) = some (d, ih ++ x)
def Svs (C : Orc) (ih : IH) (env : IEnv) (es : MEs) (ds : List D) : Prop := ∀ x : IH, evEs C es env (ih ++ x) = some (ds, ih ++ x)
def Svo (C : Orc) (ih : IH) (env : IEnv) (e : MO) (o : Option Int) : Prop := ∀ x : IH, evO C e env (ih ++ x) = some (o, ih ++ x)
def Svt (C : Orc) (ih : IH) (env : IEnv) (e : MO) (b : Bool) : Prop := ∀ x : IH, evT C e env (ih ++ x) = some (b, ih ++ x)
/-- a walk -/
def Svi (C : Orc) (ih : IH) (env : IEnv) (e : MI) (xs : List D) : Prop := ∀ x : IH, ∃ src, evI C e env (ih ++ x) = some (⟨xs, src⟩, ih ++ x) ∧ ∀ y : IH, Walk.ok ⟨xs, src⟩ (ih ++ y) = true
section
variable {C : Orc} {ih : IH} {env : IEnv} {a b c e : ME} {es : MEs} {x y d : D} {ds : List D}
theorem Sv.now (h : Sv C ih env e d) : evE C e env ih = some (d, ih) := by have := h []; simpa using this
theorem Sv.more (h : Sv C ih env e d) (z : IH) : Sv C (ih ++ z) env e d := fun x => by rw [List.append_assoc]; exact h (z ++ x)
theorem Svs.now (h : Svs C ih env es ds) : evEs C es env ih = some (ds, ih) := by have := h []; simpa using this
theorem Svi.now {it : MI} {xs : List D} (h : Svi C ih env it xs) : ∃ src, evI C it env ih = some (⟨xs, src⟩, ih) ∧ ∀ y : IH, Walk.ok ⟨xs, src⟩ (ih ++ y) = true := by have := h []; simpa using this
theorem Sv.var {i : Nat} (h : env[i]? = some (some d)) : Sv C ih env (.var i) d := fun x => by simp only [evE, h]
theorem Sv.lit : Sv C ih env (.lit d) d := fun x => by simp only [evE]
theorem Sv.glob {x : Str} : Sv C ih env (.glob x d) d := fun x => by simp only [evE]
theorem Sv.bin {o : Bop} (ha : Sv C ih env a x) (hb : Sv C ih env b y) (h : ∀ z, binop o (ih ++ z) x y = some (d, ih ++ z)) : Sv C ih env (.bin o a b) d := fun z => by simp only [evE, ha z, hb z, h z]
theorem Sv.cmp {o : Cop} {k : Bool} (ha : Sv C ih env a x) (hb : Sv C ih env b y) (h : ∀ z, cmpop o (ih ++ z) x y = some k) : Sv C ih env (.cmp o a b) (.bl k) := fun z => by simp only [evE, ha z, hb z, h z, Option.map_some]
theorem Sv.chain {o p : Cop} {w : D} {k j : Bool} (ha : Sv C ih env a x) (hb : Sv C ih env b y) (hc : Sv C ih env c w) (h : ∀ z, cmpop o (ih ++ z) x y = some k) (h' : ∀ z, cmpop p (ih ++ z) y w = some j) : Sv C ih env (.chain o p a b c) (.bl (k && j)) := fun z => by
  simp only [evE, ha z, hb z, h z]
  cases k with
  | true => simp only [hc z, h' z, Option.map_some, Bool.true_and]
  | false => simp only [Bool.false_and]
theorem Sv.not {k : Bool} (ha : Sv C ih env a (.bl k)) : Sv C ih env (.not a) (.bl (!k)) := fun z => by simp only [evE, ha z]
theorem Sv.neg {i : Int} (ha : Sv C ih env a (.int i)) : Sv C ih env (.neg a) (.int (-i)) := fun z => by simp only [evE, ha z]
theorem Sv.and1 (ha : Sv C ih env a d) : Sv C ih env (.and (.cons a .nil)) d := fun z => by simp only [evE, evAnd, ha z]
theorem Sv.andT {e2 : ME} {r : MEs} (ha : Sv C ih env a (.bl true)) (hb : Sv C ih env (.and (.cons e2 r)) d) : Sv C ih env (.and (.cons a (.cons e2 r))) d := fun z => by
  have := hb z
  simp only [evE] at this
  simp only [evE, evAnd, ha z, this]
theorem Sv.andF {e2 : ME} {r : MEs} (ha : Sv C ih env a (.bl false)) : Sv C ih env (.and (.cons a (.cons e2 r))) (.bl false) := fun z => by
  simp only [evE, evAnd, ha z]
theorem Sv.and {e2 : ME} {r : MEs} {k j : Bool} (ha : Sv C ih env a (.bl k)) (hb : k = true → Sv C ih env (.and (.cons e2 r)) (.bl j)) : Sv C ih env (.and (.cons a (.cons e2 r))) (.bl (k && j)) := by
  cases k with
  | true => exact .andT ha (hb rfl)
  | false => exact .andF ha
theorem Sv.or1 (ha : Sv C ih env a d) : Sv C ih env (.or (.cons a .nil)) d := fun z => by simp only [evE, evOr, ha z]
theorem Sv.orF {e2 : ME} {r : MEs} (ha : Sv C ih env a (.bl false)) (hb : Sv C ih env (.or (.cons e2 r)) d) : Sv C ih env (.or (.cons a (.cons e2 r))) d := fun z => by
  have := hb z
  simp only [evE] at this
  simp only [evE, evOr, ha z, this]
theorem Sv.orT {e2 : ME} {r : MEs} (ha : Sv C ih env a (.bl true)) : Sv C ih env (.or (.cons a (.cons e2 r))) (.bl true) := fun z => by
  simp only [evE, evOr, ha z]
theorem Sv.or {e2 : ME} {r : MEs} {k j : Bool} (ha : Sv C ih env a (.bl k)) (hb : k = false → Sv C ih env (.or (.cons e2 r)) (.bl j)) : Sv C ih env (.or (.cons a (.cons e2 r))) (.bl (k || j)) := by
  cases k with
  | false => exact .orF ha (hb rfl)
  | true => exact .orT ha
theorem Sv.ite {k : Bool} (hc : Sv C ih env c (.bl k)) (ha : k = true → Sv C ih env a d) (hb : k = false → Sv C ih env b d) : Sv C ih env (.ite c a b) d := fun z => by
  cases k with
  | true => simp only [evE, hc z, ha rfl z]
  | false => simp only [evE, hc z, hb rfl z]
theorem Svs.nil : Svs C ih env .nil [] := fun z => by simp only [evEs]
theorem Svs.cons (ha : Sv C ih env a x) (hr : Svs C ih env es ds) : Svs C ih env (.cons a es) (x :: ds) := fun z => by simp only [evEs, ha z, hr z]
theorem Svs.one (ha : Sv C ih env a x) : Svs C ih env (.cons a .nil) [x] := .cons ha .nil
theorem Sv.tup (h : Svs C ih env es ds) (hz : ds.length ≤ sizeLine := by first | decide | (rw [sizeLine_eq]; decide) | (simp only [List.length_cons, List.length_nil]; rw [sizeLine_eq]; decide)) : Sv C ih env (.tup es) (.tup ds) := fun z => by simp only [evE, h z, if_pos hz]
theorem Sv.ix (ha : Sv C ih env a x) (hb : Sv C ih env b y) (h : ∀ z, ixop (ih ++ z) x y = some d) : Sv C ih env (.ix a b) d := fun z => by simp only [evE, ha z, hb z, h z, Option.map_some]
theorem Svo.no : Svo C ih env .no none := fun z => by simp only [evO]
theorem Svo.yes {i : Int} (ha : Sv C ih env a (.int i)) : Svo C ih env (.yes a) (some i) := fun z => by simp only [evO, ha z]
theorem Sv.slT {l h : MO} {lo hi : Option Int} (ha : Sv C ih env a (.tup ds)) (hl : Svo C ih env l lo) (hh : Svo C ih env h hi) : Sv C ih env (.sl a l h) (.tup (cutL ds lo hi)) := fun z => by simp only [evE, ha z, hl z, hh z, slop]
theorem Sv.call {f : Str} (ha : Svs C ih env es ds) (h : ∀ z, C f ds (ih ++ z) = some (d, ih ++ z)) : Sv C ih env (.call f es) d := fun z => by simp only [evE, ha z, h z]
theorem keep_same {z : IH} : keepH z (some (d, z)) = some (d, z) := by
  unfold keepH
  simp only
  split <;> rfl
theorem Sv.blt {f : Blt} (ha : Svs C ih env es ds) (h : ∀ z, bltop f (ih ++ z) ds = some (d, ih ++ z)) : Sv C ih env (.blt f es) d := fun z => by simp only [evE, ha z, h z, keep_same]
theorem Sv.meth {m : Mth} (ha : Sv C ih env a x) (hb : Svs C ih env es ds) (h : ∀ z, methop m (ih ++ z) x ds = some (d, ih ++ z)) : Sv C ih env (.meth m a es) d := fun z => by simp only [evE, ha z, hb z, h z]
theorem Sv.isi {t s : String} (ha : Sv C ih env a x) (h : ∀ z, tyOf (ih ++ z) x = some s) : Sv C ih env (.isi a t) (.bl (s == t || (s == "bool" && t == "int"))) := fun z => by simp only [evE, ha z, isiD, h z, Option.map_some]
/-! ints -/
variable {i j : Int}
theorem Sv.add (ha : Sv C ih env a (.int i)) (hb : Sv C ih env b (.int j)) : Sv C ih env (.bin .add a b) (.int (i + j)) := .bin ha hb fun _ => rfl
theorem Sv.sub (ha : Sv C ih env a (.int i)) (hb : Sv C ih env b (.int j)) : Sv C ih env (.bin .sub a b) (.int (i - j)) := .bin ha hb fun _ => rfl
theorem Sv.mul (ha : Sv C ih env a (.int i)) (hb : Sv C ih env b (.int j)) (h : mulOk i j = true) : Sv C ih env (.bin .mul a b) (.int (i * j)) := .bin ha hb fun _ => by simp only [binop, if_pos h]
theorem Sv.mod (ha : Sv C ih env a (.int i)) (hb : Sv C ih env b (.int j)) (h : 0 < j) : Sv C ih env (.bin .mod a b) (.int (i % j)) := .bin ha hb fun _ => by simp only [binop, if_pos h]
theorem Sv.fdiv (ha : Sv C ih env a (.int i)) (hb : Sv C ih env b (.int j)) (h : 0 < j ∧ j.natAbs.log2 < 9000) : Sv C ih env (.bin .fdiv a b) (.int (i / j)) := .bin ha hb fun _ => by simp only [binop, if_pos h]
theorem Sv.int1 (ha : Sv C ih env a (.int i)) : Sv C ih env (.blt .int (.cons a .nil)) (.int i) := .blt (.one ha) fun _ => rfl
theorem Sv.lt (ha : Sv C ih env a (.int i)) (hb : Sv C ih env b (.int j)) : Sv C ih env (.cmp .lt a b) (.bl (decide (i < j))) := .cmp ha hb fun _ => rfl
theorem Sv.le (ha : Sv C ih env a (.int i)) (hb : Sv C ih env b (.int j)) : Sv C ih env (.cmp .le a b) (.bl (decide (i ≤ j))) := .cmp ha hb fun _ => rfl
theorem Sv.gt (ha : Sv C ih env a (.int i)) (hb : Sv C ih env b (.int j)) : Sv C ih env (.cmp .gt a b) (.bl (decide (j < i))) := .cmp ha hb fun _ => rfl
theorem Sv.ge (ha : Sv C ih env a (.int i)) (hb : Sv C ih env b (.int j)) : Sv C ih env (.cmp .ge a b) (.bl (decide (j ≤ i))) := .cmp ha hb fun _ => rfl
theorem shaped_int (i : Int) : SeqAt.shaped (.int i) = true := rfl
theorem Sv.eqI (ha : Sv C ih env a (.int i)) (hb : Sv C ih env b (.int j)) : Sv C ih env (.cmp .eq a b) (.bl (i == j)) := .cmp ha hb fun _ => rfl
theorem Sv.neI (ha : Sv C ih env a (.int i)) (hb : Sv C ih env b (.int j)) : Sv C ih env (.cmp .ne a b) (.bl (!(i == j))) := .cmp ha hb fun _ => rfl
/-! tuples -/
variable {xs ys : List D}
theorem Sv.cat (ha : Sv C ih env a (.tup xs)) (hb : Sv C ih env b (.tup ys)) (hz : xs.length + ys.length ≤ sizeLine) : Sv C ih env (.bin .add a b) (.tup (xs ++ ys)) := .bin ha hb fun _ => by simp only [binop, if_pos hz]
theorem Sv.rep (ha : Sv C ih env a (.tup xs)) (hb : Sv C ih env b (.int j)) (hz : -(2 ^ 63) ≤ j ∧ j ≤ 1000 ∧ xs.length ≤ 1000) : Sv C ih env (.bin .mul a b) (.tup (List.replicate j.toNat xs).flatten) := .bin ha hb fun _ => by simp only [binop, if_pos hz]
theorem Sv.ixT (ha : Sv C ih env a (.tup xs)) (hb : Sv C ih env b (.int j)) (h : atI xs j = some d) : Sv C ih env (.ix a b) d := .ix ha hb fun _ => by simp only [ixop, h]
theorem Sv.lenT (ha : Sv C ih env a (.tup xs)) : Sv C ih env (.blt .len (.cons a .nil)) (.int xs.length) := .blt (.one ha) fun _ => rfl
theorem Sv.tupT (ha : Sv C ih env a (.tup xs)) : Sv C ih env (.blt .tuple (.cons a .nil)) (.tup xs) := .blt (.one ha) fun _ => rfl
theorem at_more {n : Nat} (h : lstAt ih n = some ds) (z : IH) : lstAt (ih ++ z) n = some ds := by
  unfold lstAt at h ⊢
  cases q : ih[n]? with
  | none => rw [q] at h; cases h
  | some o =>
    have hl : n < ih.length := (List.getElem?_eq_some_iff.mp q).1
    rw [List.getElem?_append_left hl, q]
    rw [q] at h
    exact h
theorem Sv.ixR {n : Nat} (ha : Sv C ih env a (.ref n)) (hb : Sv C ih env b (.int j)) (hl : lstAt ih n = some xs) (h : atI xs j = some d) : Sv C ih env (.ix a b) d := .ix ha hb fun z => by
  simp only [ixop, lstOf, at_more hl z, Option.bind_some, h]
theorem Sv.lenR {n : Nat} (ha : Sv C ih env a (.ref n)) (hl : lstAt ih n = some xs) : Sv C ih env (.blt .len (.cons a .nil)) (.int xs.length) := .blt (.one ha) fun z => by
  simp only [bltop, blt1, seqOf, lstOf, at_more hl z, Option.map_some]
theorem Sv.tupR {n : Nat} (ha : Sv C ih env a (.ref n)) (hl : lstAt ih n = some xs) : Sv C ih env (.blt .tuple (.cons a .nil)) (.tup xs) := .blt (.one ha) fun z => by
  simp only [bltop, blt1, lstOf, at_more hl z, Option.map_some]
/-! walks -/
theorem Svi.tup (ha : Sv C ih env a (.tup xs)) : Svi C ih env (.val a) xs := fun z => ⟨[], by simp only [evI, ha z, walkD, Option.map_some], fun _ => rfl⟩
theorem Svi.ref {n : Nat} (ha : Sv C ih env a (.ref n)) (hl : lstAt ih n = some xs) : Svi C ih env (.val a) xs := fun z => ⟨[(n, xs)], by simp only [evI, ha z, walkD, lstOf, at_more hl z, Option.map_some, srcOf], fun y => by simp [Walk.ok, at_more hl y]⟩
theorem Svi.str {z : Str} (ha : Sv C ih env a (.str z)) : Svi C ih env (.val a) (z.cps.toList.map fun c => .str ⟨#[c]⟩) := fun z => ⟨[], by simp only [evI, ha z, walkD, Option.map_some], fun _ => rfl⟩
theorem Svi.range1 (ha : Sv C ih env a (.int j)) (h : small62 j = true) : Svi C ih env (.range (.cons a .nil)) (rangeL 0 j.toNat) := fun z => ⟨[], by simp only [evI, evEs, ha z, rangeW, if_pos h, Option.map_some], fun _ => rfl⟩
theorem Svi.zipT (ha : Sv C ih env a (.tup xs)) (hb : Sv C ih env b (.tup ys)) : Svi C ih env (.zip a b) ((xs.zip ys).map fun p => .tup [p.1, p.2]) := fun z => ⟨[], by simp only [evI, ha z, hb z, zipW, Option.map_some], fun _ => rfl⟩
/-! comprehensions -/
theorem Svt.no : Svt C ih env .no true := fun z => by simp only [evT]
theorem Svt.yes {k : Bool} (ha : Sv C ih env a (.bl k)) : Svt C ih env (.yes a) k := fun z => by simp only [evT, ha z]
theorem lstAt_last {acc : List D} : lstAt (ih ++ [.lst acc]) ih.length = some acc := by
  unfold lstAt
  rw [List.getElem?_append_right (Nat.le_refl _)]
  simp
theorem set_last {acc acc' : List D} : (ih ++ [IObj.lst acc]).set ih.length (.lst acc') = ih ++ [.lst acc'] := by
  simp [List.set_append]
theorem comp_pure {tst : IEnv → IH → Option (Bool × IH)} {el : IEnv → IH → Option (D × IH)} {tg : MT} {w : Walk} {env0 : IEnv} {p : D → Bool} {f : D → D} (hok : ∀ z, w.ok (ih ++ z) = true) :
    ∀ (xs : List D) (acc : List D), (∀ x ∈ xs, ∃ env1, asgT tg x env0 = some env1 ∧ (∀ z, tst env1 (ih ++ z) = some (p x, ih ++ z)) ∧ (p x = true → ∀ z, el env1 (ih ++ z) = some (f x, ih ++ z))) → acc.length + xs.length ≤ sizeLine →
      compLoop tst el tg w ih.length env0 xs (ih ++ [.lst acc]) = some (ih ++ [.lst (acc ++ (xs.filter p).map f)])
  | [], acc, _, _ => by
    unfold compLoop
    rw [if_pos (hok _)]
    simp
  | x :: xs, acc, h, hz => by
    obtain ⟨env1, h1, h2, h3⟩ := h x List.mem_cons_self
    rw [List.length_cons] at hz
    unfold compLoop
    rw [if_pos (hok _)]
    simp only [h1, h2]
    cases hp : p x with
    | true =>
      simp only [h3 hp, lstAt_last]
      rw [if_pos (by omega), set_last, comp_pure hok xs (acc ++ [f x]) (fun y hy => h y (List.mem_cons_of_mem _ hy)) (by rw [List.length_append, List.length_singleton]; omega)]
      rw [List.filter_cons, if_pos hp, List.map_cons, List.append_assoc]
      rfl
    | false =>
      simp only []
      rw [comp_pure hok xs acc (fun y hy => h y (List.mem_cons_of_mem _ hy)) (by omega)]
      rw [List.filter_cons, if_neg (by rw [hp]; decide)]
/-- a list comprehension: the new list is laid last -/
theorem ev_comp {elt : ME} {tg : MT} {it : MI} {ifs : MO} {own : List Nat} {p : D → Bool} {f : D → D} (hi : Svi C ih env it xs) (hz : xs.length ≤ sizeLine)
    (h : ∀ x ∈ xs, ∃ env1, asgT tg x (wipeE env own) = some env1 ∧ Svt C ih env1 ifs (p x) ∧ (p x = true → Sv C ih env1 elt (f x))) (z : IH) : evE C (.comp elt tg it ifs own) env (ih ++ z) = some (.ref (ih ++ z).length, (ih ++ z) ++ [.lst ((xs.filter p).map f)]) := by
  obtain ⟨src, h1, h2⟩ := hi z
  have hok : ∀ y, Walk.ok ⟨xs, src⟩ ((ih ++ z) ++ y) = true := fun y => by rw [List.append_assoc]; exact h2 _
  simp only [evE, h1]
  rw [comp_pure (ih := ih ++ z) (p := p) (f := f) hok xs [] (fun x hx => by
    obtain ⟨env1, k1, k2, k3⟩ := h x hx
    exact ⟨env1, k1, fun y => by rw [List.append_assoc]; exact k2 _, fun hp y => by rw [List.append_assoc]; exact k3 hp _⟩) (by simpa using hz)]
  simp
/-- .. given to a built-in function whose value is pure -/
theorem Sv.bltComp {g : Blt} {elt : ME} {tg : MT} {it : MI} {ifs : MO} {own : List Nat} {p : D → Bool} {f : D → D} (hi : Svi C ih env it xs) (hz : xs.length ≤ sizeLine)
    (h : ∀ x ∈ xs, ∃ env1, asgT tg x (wipeE env own) = some env1 ∧ Svt C ih env1 ifs (p x) ∧ (p x = true → Sv C ih env1 elt (f x))) (hd : d.pure = true) (hb : ∀ z : IH, bltop g (z ++ [.lst ((xs.filter p).map f)]) [.ref z.length] = some (d, z ++ [.lst ((xs.filter p).map f)])) :
    Sv C ih env (.blt g (.cons (.comp elt tg it ifs own) .nil)) d := fun z => by
  have e := ev_comp (C := C) hi hz h z
  have e2 : evE C (.blt g (.cons (.comp elt tg it ifs own) .nil)) env (ih ++ z) = keepH (ih ++ z) (match evEs C (.cons (.comp elt tg it ifs own) .nil) env (ih ++ z) with
    | some (ds, ih1) => bltop g ih1 ds
    | none => none) := by simp only [evE] <;> rfl
  rw [e2]
  simp only [evEs, e, hb]
  unfold keepH
  simp only
  rw [if_pos ⟨hd, List.take_left⟩]
theorem pures_map {f : D → D} : ∀ {xs : List D}, (∀ x ∈ xs, (f x).pure = true) → D.pures (xs.map f) = true
  | [], _ => rfl
  | x :: xs, h => by
    rw [List.map_cons]
    unfold D.pures
    rw [h x List.mem_cons_self, pures_map fun y hy => h y (List.mem_cons_of_mem _ hy)]; rfl
theorem Sv.tupComp {elt : ME} {tg : MT} {it : MI} {own : List Nat} {f : D → D} (hi : Svi C ih env it xs) (hz : xs.length ≤ sizeLine)
    (h : ∀ x ∈ xs, ∃ env1, asgT tg x (wipeE env own) = some env1 ∧ Sv C ih env1 elt (f x)) (hd : ∀ x ∈ xs, (f x).pure = true) :
    Sv C ih env (.blt .tuple (.cons (.comp elt tg it .no own) .nil)) (.tup (xs.map f)) := by
  have e : xs.filter (fun _ => true) = xs := by simp
  refine .bltComp (p := fun _ => true) (f := f) hi hz (fun x hx => let ⟨env1, h1, h2⟩ := h x hx; ⟨env1, h1, .no, fun _ => h2⟩) (by unfold D.pure; exact pures_map hd) fun z => ?_
  rw [e]
  simp only [bltop, blt1, lstOf, lstAt_last, Option.map_some]
/-! generator expressions -/
theorem gen_pure {k : Bool} {tst : IEnv → IH → Option (Bool × IH)} {el : IEnv → IH → Option (D × IH)} {tg : MT} {w : Walk} {env0 : IEnv} {p q : D → Bool} (hok : ∀ z, w.ok (ih ++ z) = true) :
    ∀ (xs : List D), (∀ x ∈ xs, ∃ env1, asgT tg x env0 = some env1 ∧ (∀ z, tst env1 (ih ++ z) = some (p x, ih ++ z)) ∧ (p x = true → ∀ z, el env1 (ih ++ z) = some (.bl (q x), ih ++ z))) → ∀ z,
      genLoop k tst el tg w env0 xs (ih ++ z) = some (.bl (if k then xs.any fun x => p x && q x else xs.all fun x => !p x || q x), ih ++ z)
  | [], _, z => by
    unfold genLoop
    rw [if_pos (hok _)]
    cases k <;> rfl
  | x :: xs, h, z => by
    obtain ⟨env1, h1, h2, h3⟩ := h x List.mem_cons_self
    unfold genLoop
    rw [if_pos (hok _)]
    simp only [h1, h2]
    have r := gen_pure (k := k) hok xs (fun y hy => h y (List.mem_cons_of_mem _ hy)) z
    cases hp : p x with
    | true =>
      simp only [h3 hp]
      by_cases hq : q x = k
      · rw [if_pos hq]
        cases k <;> simp [hp, hq]
      · rw [if_neg hq, r]
        cases k <;> simp_all
    | false =>
      simp only []
      rw [r]
      cases k <;> simp_all
theorem Sv.gen {k : Bool} {elt : ME} {tg : MT} {it : MI} {ifs : MO} {own : List Nat} {p q : D → Bool} (hi : Svi C ih env it xs)
    (h : ∀ x ∈ xs, ∃ env1, asgT tg x (wipeE env own) = some env1 ∧ Svt C ih env1 ifs (p x) ∧ (p x = true → Sv C ih env1 elt (.bl (q x)))) : Sv C ih env (.gen k elt tg it ifs own) (.bl (if k then xs.any fun x => p x && q x else xs.all fun x => !p x || q x)) := fun z => by
  obtain ⟨src, h1, h2⟩ := hi z
  simp only [evE, h1]
  exact gen_pure h2 xs (fun x hx => by
    obtain ⟨env1, k1, k2, k3⟩ := h x hx
    exact ⟨env1, k1, k2, k3⟩) z
theorem Sv.all {elt : ME} {tg : MT} {it : MI} {own : List Nat} {q : D → Bool} (hi : Svi C ih env it xs)
    (h : ∀ x ∈ xs, ∃ env1, asgT tg x (wipeE env own) = some env1 ∧ Sv C ih env1 elt (.bl (q x))) : Sv C ih env (.gen false elt tg it .no own) (.bl (xs.all q)) := by
  have := Sv.gen (k := false) (p := fun _ => true) (q := q) (ifs := .no) hi (fun x hx => let ⟨env1, h1, h2⟩ := h x hx; ⟨env1, h1, .no, fun _ => h2⟩)
  simpa using this
theorem Sv.any {elt : ME} {tg : MT} {it : MI} {own : List Nat} {q : D → Bool} (hi : Svi C ih env it xs)
    (h : ∀ x ∈ xs, ∃ env1, asgT tg x (wipeE env own) = some env1 ∧ Sv C ih env1 elt (.bl (q x))) : Sv C ih env (.gen true elt tg it .no own) (.bl (xs.any q)) := by
  have := Sv.gen (k := true) (p := fun _ => true) (q := q) (ifs := .no) hi (fun x hx => let ⟨env1, h1, h2⟩ := h x hx; ⟨env1, h1, .no, fun _ => h2⟩)
  simpa using this
end
/-! ### statements -/
section
variable {C : Orc} {fuel : Nat} {ih ih' : IH} {env env' : IEnv} {e c : ME} {d : D} {ss : List MS}
theorem ss_asg {t : MT} (h : evE C e env ih = some (d, ih')) (ha : asgT t d env = some env') : evSs C fuel (.asg t e :: ss) env ih = evSs C fuel ss env' ih' := by
  simp only [evSs, evS, h, ha, Option.map_some]
theorem ss_asgP {ts : List Nat} {es : MEs} {ds : List D} (h : evEs C es env ih = some (ds, ih')) (ha : putAll ts ds env = some env') : evSs C fuel (.asgP ts es :: ss) env ih = evSs C fuel ss env' ih' := by
  simp only [evSs, evS, h, ha, Option.map_some]
theorem ss_ret (h : evE C e env ih = some (d, ih')) : evSs C fuel (.ret e :: ss) env ih = some (.ret d, env, ih') := by
  simp only [evSs, evS, h]
theorem ss_expr (h : evE C e env ih = some (d, ih')) : evSs C fuel (.expr e :: ss) env ih = evSs C fuel ss env ih' := by
  simp only [evSs, evS, h]
theorem ss_app {a ss : List MS} : evSs C fuel (a ++ ss) env ih = (match evSs C fuel a env ih with
  | some (.next, env1, ih1) => evSs C fuel ss env1 ih1
  | r => r) := by
  induction a generalizing env ih with
  | nil => simp only [evSs, List.nil_append]
  | cons s a ha =>
    simp only [evSs, List.cons_append]
    cases q : evS C fuel s env ih with
    | none => rfl
    | some r =>
      obtain ⟨ct, e1, z1⟩ := r
      cases ct with
      | next => simp only []; exact ha
      | _ => rfl
theorem ss_ifT {a b : List MS} (h : evE C c env ih = some (.bl true, ih')) : evSs C fuel (.ifs c a b :: ss) env ih = evSs C fuel (a ++ ss) env ih' := by
  rw [ss_app]
  simp only [evSs, evS, h] <;> rfl
theorem ss_ifF {a b : List MS} (h : evE C c env ih = some (.bl false, ih')) : evSs C fuel (.ifs c a b :: ss) env ih = evSs C fuel (b ++ ss) env ih' := by
  rw [ss_app]
  simp only [evSs, evS, h] <;> rfl
theorem ss_for {t : MT} {it : MI} {body : List MS} {w : Walk} (h : evI C it env ih = some (w, ih')) {env2 : IEnv} {ih2 : IH} (hl : forLoop (fun env ih => evSs C fuel body env ih) t w w.items env ih' = some (.next, env2, ih2)) : evSs C fuel (.for_ t it body :: ss) env ih = evSs C fuel ss env2 ih2 := by
  simp only [evSs, evS, h, hl]
theorem run_ret {m : MDef} {as : List D} {env' : IEnv} (hl : as.length = m.params) (h : evSs C fuel m.body (as.map some ++ List.replicate (m.size - m.params) none) ih = some (.ret d, env', ih')) : m.run C fuel as ih = keepH ih (some (d, ih')) := by
  unfold MDef.run
  rw [if_pos hl, h]
/-- a def of one return -/
theorem run_sv {m : MDef} {as : List D} {e : ME} (hl : as.length = m.params) (hb : m.body = [.ret e]) (h : Sv C ih (as.map some ++ List.replicate (m.size - m.params) none) e d) : m.run C fuel as ih = some (d, ih) := by
  rw [run_ret (d := d) (ih' := ih) (env' := as.map some ++ List.replicate (m.size - m.params) none) hl (by rw [hb]; exact ss_ret h.now)]
  exact keep_same
theorem keep_pure {z : IH} (hd : d.pure = true) (h : z.take ih.length = ih) : keepH ih (some (d, z)) = some (d, ih) := by
  unfold keepH
  simp only
  rw [if_pos ⟨hd, h⟩]
theorem callN_eq {P : List MDef} {n : Nat} {f : Str} {as : List D} {m : MDef} (h : P.find? (fun d => d.name == f) = some m) : callN P fuel (n + 1) f as ih = m.run (callN P fuel n) fuel as ih := by
  rw [callN]
  rw [h]
end
end CP
set_option maxRecDepth 100000
set_option maxHeartbeats 4000000
/-! Plain: the defs that most laws share -/
namespace Lib
open PySem PySem.Spec PyProof.Rows L2 CP
def m__law_cell : MDef := { name := "_law_cell", params := 2, size := 2, body := [
    .ifs (.cmp .lt (.var 1) (.blt .len (.cons (.var 0) .nil))) [
      .ret (.ix (.var 0) (.var 1))] [],
    .ret (.lit (.int 0))] }
def m__law_draws : MDef := { name := "_law_draws", params := 2, size := 6, body := [
    .asg (.name 2) (.lst .nil),
    .asg (.name 3) (.blt .int (.cons (.var 0) .nil)),
    .for_ (.name 4) (.range (.cons (.var 1) .nil)) [
      .asg (.name 5) (.bin .mod (.blt .int (.cons (.bin .add (.bin .add (.bin .mul (.var 0) (.lit (.int 48271))) (.bin .mul (.var 4) (.lit (.int 69621)))) (.lit (.int 1))) .nil)) (.lit (.int 2147483647))),
      .ifs (.and (.cons (.cmp .ge (.var 0) (.bin .pow (.lit (.int 10)) (.lit (.int 18)))) (.cons (.cmp .gt (.var 3) (.lit (.int 0))) .nil))) [
        .expr (.meth .append (.var 2) (.cons (.bin .mod (.var 3) (.lit (.int 1009))) .nil)),
        .asg (.name 3) (.bin .fdiv (.var 3) (.lit (.int 1009)))] [
        .expr (.meth .append (.var 2) (.cons (.bin .fdiv (.bin .mod (.blt .int (.cons (.bin .add (.bin .mul (.var 5) (.var 5)) (.bin .mul (.var 5) (.lit (.int 40692)))) .nil)) (.lit (.int 2147483399))) (.lit (.int 7))) .nil))]],
    .ret (.var 2)] }
def m__law_shop : MDef := { name := "_law_shop", params := 4, size := 14, body := [
    .asgP [4, 5] (.cons (.bin .add (.bin .mod (.blt .int (.cons (.ix (.var 0) (.var 1)) .nil)) (.var 2)) (.lit (.int 1))) (.cons (.lst .nil) .nil)),
    .asg (.name 6) (.sl (.tup (.cons (.lit (.str "wood")) (.cons (.lit (.str "abcdefghi1")) (.cons (.lit (.str "abcdefghi2")) (.cons (.lit (.str "saw")) (.cons (.lit (.str "plank")) (.cons (.lit (.str "z9")) .nil))))))) .no (.yes (.var 4))),
    .asg (.name 7) (.tup (.cons (.lit (.str "cut")) (.cons (.lit (.str "saw")) (.cons (.lit (.str "abcdefghi1")) (.cons (.lit (.str "abcdefghi3")) (.cons (.lit (.str "glue")) (.cons (.lit (.str "mill")) (.cons (.lit (.str "turn")) (.cons (.lit (.str "rest")) .nil))))))))),
    .for_ (.name 8) (.range (.cons (.bin .mod (.blt .int (.cons (.ix (.var 0) (.bin .add (.var 1) (.lit (.int 1)))) .nil)) (.bin .add (.var 3) (.lit (.int 1)))) .nil)) [
      .asgP [9, 10, 11] (.cons (.bin .add (.bin .add (.var 1) (.lit (.int 4))) (.bin .mul (.lit (.int 8)) (.var 8))) (.cons (.bin .mul (.lst (.cons (.lit (.int 0)) .nil)) (.var 4)) (.cons (.bin .mul (.lst (.cons (.lit (.int 0)) .nil)) (.var 4)) .nil))),
      .put (.var 10) (.bin .mod (.blt .int (.cons (.ix (.var 0) (.var 9)) .nil)) (.var 4)) (.bin .mod (.blt .int (.cons (.ix (.var 0) (.bin .add (.var 9) (.lit (.int 1)))) .nil)) (.lit (.int 3))),
      .put (.var 10) (.bin .mod (.blt .int (.cons (.ix (.var 0) (.bin .add (.var 9) (.lit (.int 2)))) .nil)) (.var 4)) (.bin .add (.ix (.var 10) (.bin .mod (.blt .int (.cons (.ix (.var 0) (.bin .add (.var 9) (.lit (.int 2)))) .nil)) (.var 4))) (.bin .mod (.blt .int (.cons (.ix (.var 0) (.bin .add (.var 9) (.lit (.int 3)))) .nil)) (.lit (.int 2)))),
      .put (.var 11) (.bin .mod (.blt .int (.cons (.ix (.var 0) (.bin .add (.var 9) (.lit (.int 4)))) .nil)) (.var 4)) (.bin .mod (.blt .int (.cons (.ix (.var 0) (.bin .add (.var 9) (.lit (.int 5)))) .nil)) (.lit (.int 4))),
      .put (.var 11) (.bin .mod (.blt .int (.cons (.ix (.var 0) (.bin .add (.var 9) (.lit (.int 6)))) .nil)) (.var 4)) (.bin .add (.ix (.var 11) (.bin .mod (.blt .int (.cons (.ix (.var 0) (.bin .add (.var 9) (.lit (.int 6)))) .nil)) (.var 4))) (.bin .mod (.blt .int (.cons (.ix (.var 0) (.bin .add (.var 9) (.lit (.int 7)))) .nil)) (.lit (.int 2)))),
      .expr (.meth .append (.var 5) (.cons (.tup (.cons (.ix (.var 7) (.var 8)) (.cons (.blt .tuple (.cons (.var 10) .nil)) (.cons (.blt .tuple (.cons (.var 11) .nil)) (.cons (.bin .mod (.blt .int (.cons (.ix (.var 0) (.bin .add (.bin .add (.var 1) (.lit (.int 70))) (.var 8))) .nil)) (.lit (.int 4))) .nil))))) .nil))],
    .asgP [12, 13] (.cons (.blt .tuple (.cons (.comp (.bin .mod (.blt .int (.cons (.ix (.var 0) (.bin .add (.bin .add (.var 1) (.lit (.int 80))) (.var 8))) .nil)) (.lit (.int 4))) (.name 8) (.range (.cons (.var 4) .nil)) .no [8]) .nil)) (.cons (.blt .tuple (.cons (.comp (.bin .mod (.blt .int (.cons (.ix (.var 0) (.bin .add (.bin .add (.var 1) (.lit (.int 86))) (.var 8))) .nil)) (.lit (.int 4))) (.name 8) (.range (.cons (.var 4) .nil)) .no [8]) .nil)) .nil)),
    .ret (.tup (.cons (.lit (.str "shop")) (.cons (.var 6) (.cons (.blt .tuple (.cons (.var 5) .nil)) (.cons (.var 12) (.cons (.var 13) .nil))))))] }
/-! ### loops -/
theorem for_inv {body : IEnv → IH → Option (Ctl × IEnv × IH)} {t : MT} {w : Walk} (P : Nat → IEnv → IH → Prop) : ∀ (xs : List D) (i0 : Nat) {env : IEnv} {ih : IH}, P i0 env ih →
    (∀ i x env ih, xs[i]? = some x → P (i0 + i) env ih → w.ok ih = true ∧ ∃ env1, asgT t x env = some env1 ∧ ∃ env2 ih2, (body env1 ih = some (.next, env2, ih2) ∨ body env1 ih = some (.cont, env2, ih2)) ∧ P (i0 + i + 1) env2 ih2) →
    (∀ env ih, P (i0 + xs.length) env ih → w.ok ih = true) → ∃ env2 ih2, forLoop body t w xs env ih = some (.next, env2, ih2) ∧ P (i0 + xs.length) env2 ih2
  | [], i0, env, ih, h0, _, hw => ⟨env, ih, by unfold forLoop; rw [if_pos (hw env ih h0)], h0⟩
  | x :: xs, i0, env, ih, h0, hs, hw => by
    obtain ⟨h1, env1, h2, env2, ih2, h3, h4⟩ := hs 0 x env ih rfl h0
    have r := for_inv P xs (i0 + 1) h4 (fun i y env ih hy hp => by
      have := hs (i + 1) y env ih (by simpa using hy) (by rw [Nat.add_assoc, Nat.add_comm 1 i] at hp; exact hp)
      rw [show i0 + 1 + i + 1 = i0 + (i + 1) + 1 by omega]
      exact this) (fun env ih hp => hw env ih (by rw [List.length_cons]; rw [show i0 + (xs.length + 1) = i0 + 1 + xs.length by omega]; exact hp))
    obtain ⟨e3, i3, r1, r2⟩ := r
    refine ⟨e3, i3, ?_, by rw [List.length_cons, show i0 + (xs.length + 1) = i0 + 1 + xs.length by omega]; exact r2⟩
    unfold forLoop
    rw [if_pos h1]
    simp only [h2]
    rcases h3 with h3 | h3
    · simp only [h3]; exact r1
    · simp only [h3]; exact r1
theorem rangeL_get {lo : Int} {n i : Nat} {x : D} (h : (rangeL lo n)[i]? = some x) : i < n ∧ x = .int (lo + i) := by
  unfold rangeL at h
  rw [List.getElem?_map] at h
  obtain ⟨j, h1, rfl⟩ := Option.map_eq_some_iff.mp h
  obtain ⟨h2, h3⟩ := List.getElem?_eq_some_iff.mp h1
  have h2' : i < n := by simpa using h2
  refine ⟨h2', ?_⟩
  have : j = i := by rw [← h3]; simp
  rw [this]
theorem rangeL_len {lo : Int} {n : Nat} : (rangeL lo n).length = n := by simp [rangeL]
/-! ### items -/
theorem ixN_nat {n k : Nat} (h : k < n) : ixN n (k : Int) = some k := by
  unfold ixN
  rw [if_pos (Int.natCast_nonneg _), if_pos (by omega)]
  rfl
theorem atI_nat {α : Type} {xs : List α} {k : Nat} {x : α} (h : xs[k]? = some x) : atI xs (k : Int) = some x := by
  unfold atI
  rw [ixN_nat (List.getElem?_eq_some_iff.mp h).1]
  exact h
theorem atI_zero {α : Type} {x : α} {xs : List α} : atI (x :: xs) 0 = some x := atI_nat (k := 0) rfl
section
variable {C : Orc} {ih : IH} {env : IEnv} {a b : ME} {dl : List Int} {j : Int}
/-- n[k] of a list of ints -/
theorem draw {n k : Nat} (ha : Sv C ih env a (.ref n)) (hb : Sv C ih env b (.int j)) (hl : lstAt ih n = some (dl.map .int)) (hk : k < dl.length) (hj : j = k) : Sv C ih env (.ix a b) (.int dl[k]) := by
  subst hj
  refine .ixR ha hb hl (atI_nat ?_)
  rw [List.getElem?_map, List.getElem?_eq_getElem hk]
  rfl
end
theorem ss_nil {C : Orc} {fuel : Nat} {env : IEnv} {ih : IH} : evSs C fuel [] env ih = some (.next, env, ih) := by simp only [evSs]
theorem run_of {C : Orc} {fuel : Nat} {m : MDef} {as : List D} {ih ih' : IH} {d : D} (hl : as.length = m.params) (h : ∃ env', evSs C fuel m.body (as.map some ++ List.replicate (m.size - m.params) none) ih = some (.ret d, env', ih')) : m.run C fuel as ih = keepH ih (some (d, ih')) :=
  let ⟨_, h⟩ := h
  run_ret hl h
/-! ### _law_cell -/
theorem cell_ref {C : Orc} {fuel : Nat} {ns : List Int} {n : Nat} {ih : IH} (h : lstAt ih n = some (ns.map .int)) : ∃ c : Int, m__law_cell.run C fuel [.ref n, .int 0] ih = some (.int c, ih) := by
  have hl : Sv C ih ([D.ref n, .int 0].map some ++ List.replicate 0 none) (.cmp .lt (.var 1) (.blt .len (.cons (.var 0) .nil))) (.bl (decide ((0 : Int) < (ns.map D.int).length))) := .lt (.var rfl) (.lenR (.var rfl) h)
  cases ns with
  | nil =>
    refine ⟨0, ?_⟩
    rw [run_of (d := .int 0) (ih' := ih) rfl ?_]
    · exact keep_same
    · exact ⟨_, (ss_ifF hl.now).trans (ss_ret Sv.lit.now)⟩
  | cons c ns =>
    refine ⟨c, ?_⟩
    rw [run_of (d := .int c) (ih' := ih) rfl ?_]
    · exact keep_same
    · have hl' := hl.now
      have e : decide ((0 : Int) < ((c :: ns).map D.int).length) = true := by simp
      rw [e] at hl'
      exact ⟨_, (ss_ifT hl').trans (ss_ret (Sv.ixR (.var rfl) (.var rfl) h atI_zero).now)⟩
theorem cell_rol {C : Orc} {fuel : Nat} {ns : List Int} {ih : IH} : ∃ c : Int, m__law_cell.run C fuel [.rol (ns.map .int), .int 0] ih = some (.int c, ih) := by
  have hl : Sv C ih ([D.rol (ns.map .int), .int 0].map some ++ List.replicate 0 none) (.cmp .lt (.var 1) (.blt .len (.cons (.var 0) .nil))) (.bl (decide ((0 : Int) < (ns.map D.int).length))) := .lt (.var rfl) (.blt (.one (.var rfl)) fun _ => rfl)
  cases ns with
  | nil =>
    refine ⟨0, ?_⟩
    rw [run_of (d := .int 0) (ih' := ih) rfl ?_]
    · exact keep_same
    · exact ⟨_, (ss_ifF hl.now).trans (ss_ret Sv.lit.now)⟩
  | cons c ns =>
    refine ⟨c, ?_⟩
    rw [run_of (d := .int c) (ih' := ih) rfl ?_]
    · exact keep_same
    · have hl' := hl.now
      have e : decide ((0 : Int) < ((c :: ns).map D.int).length) = true := by simp
      rw [e] at hl'
      exact ⟨_, (ss_ifT hl').trans (ss_ret (Sv.ix (.var rfl) (.var rfl) fun _ => by simp only [ixop, lstOf, Option.bind_some]; exact atI_zero).now)⟩
/-! ### _law_draws -/
theorem mulOk_right {i j : Int} (h1 : -(2 ^ 64) < j) (h2 : j < 2 ^ 64) : mulOk i j = true := by
  unfold mulOk
  simp only [Bool.or_eq_true, Bool.and_eq_true, decide_eq_true_eq]
  exact .inr ⟨h1, h2⟩
theorem mulOk_left {i j : Int} (h1 : -(2 ^ 64) < i) (h2 : i < 2 ^ 64) : mulOk i j = true := by
  unfold mulOk
  simp only [Bool.or_eq_true, Bool.and_eq_true, decide_eq_true_eq]
  exact .inl ⟨h1, h2⟩
theorem ev_append {C : Orc} {ih : IH} {env : IEnv} {a e : ME} {acc : List D} {d : D} (ha : Sv C (ih ++ [.lst acc]) env a (.ref ih.length)) (he : Sv C (ih ++ [.lst acc]) env e d) (hz : acc.length < sizeLine) :
    evE C (.meth .append a (.cons e .nil)) env (ih ++ [.lst acc]) = some (.non, ih ++ [.lst (acc ++ [d])]) := by
  simp only [evE, evEs, ha.now, he.now, methop, lstAt_last, if_pos hz, set_last]
theorem draws {C : Orc} {fuel : Nat} {c : Int} {cnt : Nat} {ih : IH} (hc : cnt ≤ 1000) : ∃ dl : List Int, dl.length = cnt ∧ (∀ x ∈ dl, 0 ≤ x) ∧ m__law_draws.run C fuel [.int c, .int cnt] ih = some (.ref ih.length, ih ++ [.lst (dl.map .int)]) := by
  have step := for_inv (body := fun env ih => evSs C fuel [
      .asg (.name 5) (.bin .mod (.blt .int (.cons (.bin .add (.bin .add (.bin .mul (.var 0) (.lit (.int 48271))) (.bin .mul (.var 4) (.lit (.int 69621)))) (.lit (.int 1))) .nil)) (.lit (.int 2147483647))),
      .ifs (.and (.cons (.cmp .ge (.var 0) (.bin .pow (.lit (.int 10)) (.lit (.int 18)))) (.cons (.cmp .gt (.var 3) (.lit (.int 0))) .nil))) [
        .expr (.meth .append (.var 2) (.cons (.bin .mod (.var 3) (.lit (.int 1009))) .nil)),
        .asg (.name 3) (.bin .fdiv (.var 3) (.lit (.int 1009)))] [
        .expr (.meth .append (.var 2) (.cons (.bin .fdiv (.bin .mod (.blt .int (.cons (.bin .add (.bin .mul (.var 5) (.var 5)) (.bin .mul (.var 5) (.lit (.int 40692)))) .nil)) (.lit (.int 2147483399))) (.lit (.int 7))) .nil))]] env ih) (t := .name 4) (w := ⟨rangeL 0 cnt, []⟩)
    (fun i env z => ∃ (rest : Int) (acc : List Int) (e4 e5 : Option D), env = [some (.int c), some (.int cnt), some (.ref ih.length), some (.int rest), e4, e5] ∧ z = ih ++ [.lst (acc.map .int)] ∧ acc.length = i ∧ ∀ x ∈ acc, 0 ≤ x)
    (rangeL 0 cnt) 0 (env := [some (.int c), some (.int cnt), some (.ref ih.length), some (.int c), none, none]) (ih := ih ++ [.lst []]) ⟨c, [], none, none, rfl, rfl, rfl, by simp⟩ ?_ (fun _ _ _ => rfl)
  · obtain ⟨env2, ih2, h1, rest, acc, e4, e5, rfl, rfl, h3, h4⟩ := step
    rw [rangeL_len] at h3
    refine ⟨acc, by simpa using h3, h4, ?_⟩
    rw [run_ret (d := .ref ih.length) (ih' := ih ++ [.lst (acc.map .int)]) (env' := [some (.int c), some (.int cnt), some (.ref ih.length), some (.int rest), e4, e5]) rfl ?_]
    · unfold keepH
      simp [D.pure]
    · refine Eq.trans (ss_asg (d := .ref ih.length) (ih' := ih ++ [.lst []]) (env' := [some (.int c), some (.int cnt), some (.ref ih.length), none, none, none]) (by simp only [evE, evEs]; rw [if_pos (by decide)]) rfl) ?_
      refine Eq.trans (ss_asg (d := .int c) (ih' := ih ++ [.lst []]) (env' := [some (.int c), some (.int cnt), some (.ref ih.length), some (.int c), none, none]) (Sv.int1 (.var rfl)).now rfl) ?_
      refine Eq.trans (ss_for (w := ⟨rangeL 0 cnt, []⟩) (ih' := ih ++ [.lst []]) ?_ h1) ?_
      · have hs : small62 (cnt : Int) = true := by
          unfold small62
          simp only [Bool.and_eq_true, decide_eq_true_eq]
          omega
        simp only [evI, evEs, evE, List.getElem?_cons_succ, List.getElem?_cons_zero, rangeW, if_pos hs, Option.map_some, Int.toNat_natCast]
      · exact ss_ret (Sv.var rfl).now
  · rintro i x env z hx ⟨rest, acc, e4, e5, rfl, rfl, ha, hp⟩
    obtain ⟨hi, rfl⟩ := rangeL_get hx
    refine ⟨rfl, _, rfl, ?_⟩
    have hz : (acc.map D.int).length < sizeLine := by rw [List.length_map, sizeLine_eq]; omega
    let env1 : IEnv := [some (.int c), some (.int cnt), some (.ref ih.length), some (.int rest), some (.int (0 + (i : Int))), e5]
    have hm : Sv C (ih ++ [.lst (acc.map .int)]) env1 (.bin .mod (.blt .int (.cons (.bin .add (.bin .add (.bin .mul (.var 0) (.lit (.int 48271))) (.bin .mul (.var 4) (.lit (.int 69621)))) (.lit (.int 1))) .nil)) (.lit (.int 2147483647))) (.int ((c * 48271 + (0 + (i : Int)) * 69621 + 1) % 2147483647)) :=
      .mod (.int1 (.add (.add (.mul (.var rfl) .lit (mulOk_right (by decide) (by decide))) (.mul (.var rfl) .lit (mulOk_right (by decide) (by decide)))) .lit)) .lit (by decide)
    generalize hmx : (c * 48271 + (0 + (i : Int)) * 69621 + 1) % 2147483647 = mx at hm
    have hmx0 : 0 ≤ mx := by rw [← hmx]; exact Int.emod_nonneg _ (by decide)
    have hmx1 : mx < 2147483647 := by rw [← hmx]; exact Int.emod_lt_of_pos _ (by decide)
    let env2 : IEnv := [some (.int c), some (.int cnt), some (.ref ih.length), some (.int rest), some (.int (0 + (i : Int))), some (.int mx)]
    have hcond : Sv C (ih ++ [.lst (acc.map .int)]) env2 (.and (.cons (.cmp .ge (.var 0) (.bin .pow (.lit (.int 10)) (.lit (.int 18)))) (.cons (.cmp .gt (.var 3) (.lit (.int 0))) .nil))) (.bl (decide ((10 : Int) ^ 18 ≤ c) && decide (0 < rest))) :=
      .and (.ge (.var rfl) (.bin .lit .lit fun _ => rfl)) fun _ => .and1 (.gt (.var rfl) .lit)
    cases hk : (decide ((10 : Int) ^ 18 ≤ c) && decide (0 < rest)) with
    | true =>
      rw [hk] at hcond
      have hr : 0 < rest := by
        rw [Bool.and_eq_true, decide_eq_true_eq, decide_eq_true_eq] at hk
        exact hk.2
      refine ⟨[some (.int c), some (.int cnt), some (.ref ih.length), some (.int (rest / 1009)), some (.int (0 + (i : Int))), some (.int mx)], ih ++ [.lst ((acc ++ [rest % 1009]).map .int)], .inl ?_, rest / 1009, acc ++ [rest % 1009], _, _, rfl, rfl, by rw [List.length_append, ha]; simp, fun x hx => ?_⟩
      · refine (ss_asg (env' := env2) hm.now rfl).trans ((ss_ifT hcond.now).trans ?_)
        refine (ss_expr (ev_append (.var rfl) (.mod (.var rfl) .lit (by decide)) hz)).trans ?_
        refine (ss_asg (Sv.fdiv (.var rfl) .lit (by decide)).now rfl).trans ?_
        rw [List.map_append]
        exact ss_nil
      · rcases List.mem_append.mp hx with h | h
        · exact hp x h
        · rw [List.mem_singleton.mp h]; exact Int.emod_nonneg _ (by decide)
    | false =>
      rw [hk] at hcond
      refine ⟨env2, ih ++ [.lst ((acc ++ [(mx * mx + mx * 40692) % 2147483399 / 7]).map .int)], .inl ?_, rest, acc ++ [(mx * mx + mx * 40692) % 2147483399 / 7], _, _, rfl, rfl, by rw [List.length_append, ha]; simp, fun x hx => ?_⟩
      · refine (ss_asg (env' := env2) hm.now rfl).trans ((ss_ifF hcond.now).trans ?_)
        refine (ss_expr (ev_append (.var rfl) (.fdiv (.mod (.int1 (.add (.mul (.var rfl) (.var rfl) (mulOk_left (by omega) (by omega))) (.mul (.var rfl) .lit (mulOk_right (by decide) (by decide))))) .lit (by decide)) .lit (by decide)) hz)).trans ?_
        rw [List.map_append]
        exact ss_nil
      · rcases List.mem_append.mp hx with h | h
        · exact hp x h
        · rw [List.mem_singleton.mp h]
          exact Int.ediv_nonneg (Int.emod_nonneg _ (by decide)) (by decide)
end Lib
set_option maxRecDepth 100000
set_option maxHeartbeats 4000000
/-! Plain: the shop that most laws draw -/
namespace Lib
open PySem PySem.Spec PyProof.Rows L2 CP
structure Rec where
  title : Str
  needs : List Int
  gives : List Int
  cost : Int
def Rec.d (r : Rec) : D := .tup [.str r.title, .tup (r.needs.map .int), .tup (r.gives.map .int), .int r.cost]
structure Shop where
  names : List Str
  rows : List Rec
  stock : List Int
  goal : List Int
def Shop.d (s : Shop) : D := .tup [.str "shop", .tup (s.names.map .str), .tup (s.rows.map Rec.d), .tup (s.stock.map .int), .tup (s.goal.map .int)]
def names6 : List Str := ["wood", "abcdefghi1", "abcdefghi2", "saw", "plank", "z9"]
def titles8 : List Str := ["cut", "saw", "abcdefghi1", "abcdefghi3", "glue", "mill", "turn", "rest"]
def In (lo hi : Int) (l : List Int) : Prop := ∀ x ∈ l, lo ≤ x ∧ x ≤ hi
structure RecOk (size i : Nat) (r : Rec) : Prop where
  title : titles8[i]? = some r.title
  nl : r.needs.length = size
  gl : r.gives.length = size
  nb : In 0 3 r.needs
  gb : In 0 4 r.gives
  cost : 0 ≤ r.cost ∧ r.cost ≤ 3
structure ShopOk (things recipes : Nat) (s : Shop) : Prop where
  lo : 1 ≤ s.names.length
  hi : s.names.length ≤ things
  names : s.names = names6.take s.names.length
  rows : s.rows.length ≤ recipes
  each : ∀ i r, s.rows[i]? = some r → RecOk s.names.length i r
  stl : s.stock.length = s.names.length
  gol : s.goal.length = s.names.length
  stb : In 0 3 s.stock
  gob : In 0 3 s.goal
theorem pures_mapA {α : Type} {f : α → D} : ∀ {xs : List α}, (∀ x ∈ xs, (f x).pure = true) → D.pures (xs.map f) = true
  | [], _ => rfl
  | x :: xs, h => by
    rw [List.map_cons]
    unfold D.pures
    rw [h x List.mem_cons_self, pures_mapA fun y hy => h y (List.mem_cons_of_mem _ hy)]; rfl
theorem pures_int (l : List Int) : D.pures (l.map .int) = true := pures_mapA fun _ _ => rfl
theorem pures_str (l : List Str) : D.pures (l.map .str) = true := pures_mapA fun _ _ => rfl
theorem Rec.isPure (r : Rec) : r.d.pure = true := by
  unfold Rec.d
  simp [D.pure, D.pures, pures_int]
theorem Shop.isPure (s : Shop) : s.d.pure = true := by
  unfold Shop.d
  have : D.pures (s.rows.map Rec.d) = true := pures_mapA fun x _ => x.isPure
  simp [D.pure, D.pures, pures_int, pures_str, this]
/-! ### heaps -/
theorem lstAt_at {Z L : IH} {j : Nat} {xs : List D} (h : L[j]? = some (.lst xs)) : lstAt (Z ++ L) (Z.length + j) = some xs := by
  unfold lstAt
  rw [List.getElem?_append_right (by omega)]
  simp only [Nat.add_sub_cancel_left, h]
theorem set_at {Z L : IH} {j : Nat} {o : IObj} : (Z ++ L).set (Z.length + j) o = Z ++ L.set j o := by
  simp [List.set_append]
theorem lstAt_mid {Z L : IH} {acc : List D} : lstAt ((Z ++ [IObj.lst acc]) ++ L) Z.length = some acc := at_more lstAt_last L
theorem set_mid {Z L : IH} {acc : List D} {o : IObj} : ((Z ++ [IObj.lst acc]) ++ L).set Z.length o = Z ++ [o] ++ L := by
  simp [List.set_append]
section
variable {C : Orc} {fuel : Nat} {ih Z : IH} {env : IEnv} {a b c e : ME} {ss : List MS}
theorem evs_two {x y : D} {ih1 ih2 : IH} (h1 : evE C a env ih = some (x, ih1)) (h2 : evE C b env ih1 = some (y, ih2)) : evEs C (.cons a (.cons b .nil)) env ih = some ([x, y], ih2) := by
  simp only [evEs, h1, h2]
theorem evs_three {x y w : D} {ih1 ih2 ih3 : IH} (h1 : evE C a env ih = some (x, ih1)) (h2 : evE C b env ih1 = some (y, ih2)) (h3 : evE C c env ih2 = some (w, ih3)) : evEs C (.cons a (.cons b (.cons c .nil))) env ih = some ([x, y, w], ih3) := by
  simp only [evEs, h1, h2, h3]
theorem ev_lst {es : MEs} {ds : List D} (h : evEs C es env ih = some (ds, ih)) (hz : ds.length ≤ 1000) : evE C (.lst es) env ih = some (.ref ih.length, ih ++ [.lst ds]) := by
  have : ds.length ≤ sizeLine := by rw [sizeLine_eq]; omega
  simp only [evE, h, if_pos this]
theorem flat_one {α : Type} (x : α) : ∀ n : Nat, (List.replicate n [x]).flatten = List.replicate n x
  | 0 => rfl
  | n + 1 => by rw [List.replicate_succ, List.flatten_cons, flat_one x n]; rfl
/-- [0] * n -/
theorem ev_zeros {n : Nat} (ha : Sv C Z env a (.int n)) (hn : n ≤ 1000) : evE C (.bin .mul (.lst (.cons (.lit (.int 0)) .nil)) a) env Z = some (.ref (Z.length + 1), Z ++ [.lst [.int 0], .lst ((List.replicate n (0 : Int)).map .int)]) := by
  have h1 : evE C (.lst (.cons (.lit (.int 0)) .nil)) env Z = some (.ref Z.length, Z ++ [.lst [.int 0]]) := ev_lst (Svs.one .lit).now (by decide)
  have h2 := ha.more [.lst [.int 0]] |>.now
  have h3 : (List.replicate ((n : Int)).toNat [D.int 0]).flatten = (List.replicate n (0 : Int)).map .int := by
    rw [Int.toNat_natCast, flat_one, List.map_replicate]
  have hc : -(2 ^ 63) ≤ (n : Int) ∧ (n : Int) < 2 ^ 63 ∧ [D.int 0].length * ((n : Int)).toNat ≤ sizeLine := by
    refine ⟨by omega, by omega, ?_⟩
    rw [sizeLine_eq, Int.toNat_natCast]
    simp only [List.length_cons, List.length_nil]
    omega
  simp only [evE] at h1 ⊢
  simp only [h1, h2, binop, lstAt_last, if_pos hc, h3]
  simp
theorem ss_put {n k : Nat} {d : D} {xs : List D} {o i : ME} {j : Int} (he : Sv C ih env e d) (ho : Sv C ih env o (.ref n)) (hi : Sv C ih env i (.int j)) (hj : j = k) (hl : lstAt ih n = some xs) (hk : k < xs.length) : evSs C fuel (.put o i e :: ss) env ih = evSs C fuel ss env (ih.set n (.lst (xs.set k d))) := by
  subst hj
  simp only [evSs, evS, he.now, ho.now, hi.now, hl, ixN_nat hk, Option.map_some]
end

/-! ### _law_shop -/
theorem emod_in {x m : Int} (hm : 0 < m) : 0 ≤ x % m ∧ x % m < m := ⟨Int.emod_nonneg _ (by omega), Int.emod_lt_of_pos _ hm⟩
theorem In.set {lo hi : Int} {l : List Int} (h : In lo hi l) {k : Nat} {x : Int} (hx : lo ≤ x ∧ x ≤ hi) : In lo hi (l.set k x) := fun y hy => by
  rcases List.mem_or_eq_of_mem_set hy with h1 | h1
  · exact h y h1
  · rw [h1]; exact hx
/-- two numbers put into a list of zeros -/
def two (n i j : Nat) (x y : Int) : List Int := let l := (List.replicate n (0 : Int)).set i x; l.set j (l.getD j 0 + y)
theorem two_len {n i j : Nat} {x y : Int} : (two n i j x y).length = n := by simp [two]
theorem two_in {n i j : Nat} {x y : Int} {a b : Int} (hx : 0 ≤ x ∧ x ≤ a) (hy : 0 ≤ y ∧ y ≤ b) (hj : j < n) : In 0 (a + b) (two n i j x y) := by
  unfold two
  have h0 : In 0 a ((List.replicate n (0 : Int)).set i x) := In.set (fun z hz => by rw [List.eq_of_mem_replicate hz]; exact ⟨Int.le_refl _, by omega⟩) hx
  have hg := h0 (((List.replicate n (0 : Int)).set i x).getD j 0) (by
    have hjl : j < ((List.replicate n (0 : Int)).set i x).length := by simpa using hj
    rw [List.getD_eq_getElem?_getD, List.getElem?_eq_getElem hjl]
    exact List.getElem_mem hjl)
  exact In.set (fun z hz => ⟨(h0 z hz).1, by have := (h0 z hz).2; omega⟩) (by omega)
section
variable {C : Orc} {fuel : Nat}
theorem map_set {l : List Int} {k : Nat} {x : Int} : (l.map D.int).set k (.int x) = (l.set k x).map .int := by rw [List.map_set]
theorem getI {l : List Int} {k : Nat} (hk : k < l.length) : (l.map D.int)[k]? = some (.int (l.getD k 0)) := by
  rw [List.getElem?_map, List.getElem?_eq_getElem hk, List.getD_eq_getElem?_getD, List.getElem?_eq_getElem hk]
  rfl
/-- n[k], the list anywhere -/
theorem drawD {ih : IH} {env : IEnv} {a b : ME} {dl : List Int} {j : Int} {n k : Nat} (ha : Sv C ih env a (.ref n)) (hb : Sv C ih env b (.int j)) (hl : lstAt ih n = some (dl.map .int)) (hk : k < dl.length) (hj : j = k) : Sv C ih env (.blt .int (.cons (.ix a b) .nil)) (.int (dl.getD k 0)) := by
  subst hj
  exact .int1 (.ixR ha hb hl (atI_nat (getI hk)))
theorem nat_of {x : Int} (h : 0 ≤ x) : ∃ n : Nat, x = n := ⟨x.toNat, by omega⟩
theorem law_shop {ih : IH} {dl : List Int} {r at_ things recipes : Nat} (hl : lstAt ih r = some (dl.map .int)) (hat : at_ + 92 ≤ dl.length) (ht : 1 ≤ things) (ht6 : things ≤ 6) (hr : recipes ≤ 8) :
    ∃ s : Shop, ShopOk things recipes s ∧ m__law_shop.run C fuel [.ref r, .int at_, .int things, .int recipes] ih = some (s.d, ih) := by
  -- the size
  obtain ⟨size, hsz⟩ := nat_of (x := dl.getD at_ 0 % things + 1) (by have := (emod_in (x := dl.getD at_ 0) (m := things) (by omega)).1; omega)
  have hs1 : 1 ≤ size ∧ size ≤ things := by
    have := emod_in (x := dl.getD at_ 0) (m := things) (by omega)
    omega
  obtain ⟨cnt, hcnt⟩ := nat_of (x := dl.getD (at_ + 1) 0 % (recipes + 1)) (emod_in (by omega)).1
  have hc1 : cnt ≤ recipes := by
    have := emod_in (x := dl.getD (at_ + 1) 0) (m := (recipes : Int) + 1) (by omega)
    omega
  let b := ih.length
  let E (o : List (Option D)) : IEnv := [some (.ref r), some (.int at_), some (.int things), some (.int recipes), some (.int size), some (.ref ih.length), some (.tup ((names6.take size).map .str)), some (.tup (titles8.map .str))] ++ o
  have step := for_inv (body := fun env ih => evSs C fuel [
      .asgP [9, 10, 11] (.cons (.bin .add (.bin .add (.var 1) (.lit (.int 4))) (.bin .mul (.lit (.int 8)) (.var 8))) (.cons (.bin .mul (.lst (.cons (.lit (.int 0)) .nil)) (.var 4)) (.cons (.bin .mul (.lst (.cons (.lit (.int 0)) .nil)) (.var 4)) .nil))),
      .put (.var 10) (.bin .mod (.blt .int (.cons (.ix (.var 0) (.var 9)) .nil)) (.var 4)) (.bin .mod (.blt .int (.cons (.ix (.var 0) (.bin .add (.var 9) (.lit (.int 1)))) .nil)) (.lit (.int 3))),
      .put (.var 10) (.bin .mod (.blt .int (.cons (.ix (.var 0) (.bin .add (.var 9) (.lit (.int 2)))) .nil)) (.var 4)) (.bin .add (.ix (.var 10) (.bin .mod (.blt .int (.cons (.ix (.var 0) (.bin .add (.var 9) (.lit (.int 2)))) .nil)) (.var 4))) (.bin .mod (.blt .int (.cons (.ix (.var 0) (.bin .add (.var 9) (.lit (.int 3)))) .nil)) (.lit (.int 2)))),
      .put (.var 11) (.bin .mod (.blt .int (.cons (.ix (.var 0) (.bin .add (.var 9) (.lit (.int 4)))) .nil)) (.var 4)) (.bin .mod (.blt .int (.cons (.ix (.var 0) (.bin .add (.var 9) (.lit (.int 5)))) .nil)) (.lit (.int 4))),
      .put (.var 11) (.bin .mod (.blt .int (.cons (.ix (.var 0) (.bin .add (.var 9) (.lit (.int 6)))) .nil)) (.var 4)) (.bin .add (.ix (.var 11) (.bin .mod (.blt .int (.cons (.ix (.var 0) (.bin .add (.var 9) (.lit (.int 6)))) .nil)) (.var 4))) (.bin .mod (.blt .int (.cons (.ix (.var 0) (.bin .add (.var 9) (.lit (.int 7)))) .nil)) (.lit (.int 2)))),
      .expr (.meth .append (.var 5) (.cons (.tup (.cons (.ix (.var 7) (.var 8)) (.cons (.blt .tuple (.cons (.var 10) .nil)) (.cons (.blt .tuple (.cons (.var 11) .nil)) (.cons (.bin .mod (.blt .int (.cons (.ix (.var 0) (.bin .add (.bin .add (.var 1) (.lit (.int 70))) (.var 8))) .nil)) (.lit (.int 4))) .nil))))) .nil))] env ih) (t := .name 8) (w := ⟨rangeL 0 cnt, []⟩)
    (fun i env z => ∃ (rows : List Rec) (G : IH) (e8 e9 e10 e11 : Option D), env = E [e8, e9, e10, e11, none, none] ∧ z = (ih ++ [.lst (rows.map Rec.d)]) ++ G ∧ rows.length = i ∧ ∀ i r, rows[i]? = some r → RecOk size i r)
    (rangeL 0 cnt) 0 (env := E [none, none, none, none, none, none]) (ih := ih ++ [.lst []]) ⟨[], [], none, none, none, none, rfl, by simp, rfl, by simp⟩ ?_ (fun _ _ _ => rfl)
  · obtain ⟨env2, ih2, h1, rows, G, e8, e9, e10, e11, rfl, rfl, h3, h4⟩ := step
    rw [rangeL_len] at h3
    have hlZ : ∀ z, lstAt (((ih ++ [.lst (rows.map Rec.d)]) ++ G) ++ z) r = some (dl.map .int) := fun z => by
      rw [List.append_assoc, List.append_assoc]; exact at_more hl _
    generalize hZ : (ih ++ [IObj.lst (rows.map Rec.d)]) ++ G = Z at h1 hlZ
    let stock : List Int := (List.range size).map fun j => dl.getD (at_ + 80 + j) 0 % 4
    let goal : List Int := (List.range size).map fun j => dl.getD (at_ + 86 + j) 0 % 4
    have comp : ∀ (q : Nat) (hq : at_ + q + 6 ≤ dl.length) (env : IEnv) (hE : env = E [e8, e9, e10, e11, none, none]), Sv C Z env (.blt .tuple (.cons (.comp (.bin .mod (.blt .int (.cons (.ix (.var 0) (.bin .add (.bin .add (.var 1) (.lit (.int q))) (.var 8))) .nil)) (.lit (.int 4))) (.name 8) (.range (.cons (.var 4) .nil)) .no [8]) .nil))
        (.tup (((List.range size).map fun j => dl.getD (at_ + q + j) 0 % 4).map .int)) := fun q hq env hE => by
      subst hE
      have hs : small62 (size : Int) = true := by
        unfold small62
        simp only [Bool.and_eq_true, decide_eq_true_eq]
        omega
      have := Sv.tupComp (C := C) (ih := Z) (env := E [e8, e9, e10, e11, none, none]) (elt := .bin .mod (.blt .int (.cons (.ix (.var 0) (.bin .add (.bin .add (.var 1) (.lit (.int q))) (.var 8))) .nil)) (.lit (.int 4))) (tg := .name 8) (own := [8]) (it := .range (.cons (.var 4) .nil)) (xs := rangeL 0 size)
        (f := fun x => match x with | .int j => .int (dl.getD (at_ + q + j.toNat) 0 % 4) | _ => .non) (.range1 (.var rfl) hs) (by rw [rangeL_len, sizeLine_eq]; omega) (fun x hx => ?_) (fun x hx => ?_)
      · have e : (rangeL 0 size).map (fun x => match x with | .int j => D.int (dl.getD (at_ + q + j.toNat) 0 % 4) | _ => .non) = ((List.range size).map fun j => dl.getD (at_ + q + j) 0 % 4).map .int := by
          unfold rangeL
          rw [List.map_map, List.map_map]
          apply List.map_congr_left
          intro j _
          simp
        rw [e] at this
        exact this
      · obtain ⟨i, hi⟩ := List.mem_iff_getElem?.mp hx
        obtain ⟨hi1, rfl⟩ := rangeL_get hi
        refine ⟨_, rfl, ?_⟩
        have hk : at_ + q + i < dl.length := by omega
        have hd := drawD (C := C) (ih := Z) (env := E [some (.int (0 + (i : Int))), e9, e10, e11, none, none]) (k := at_ + q + i) (a := .var 0) (b := .bin .add (.bin .add (.var 1) (.lit (.int q))) (.var 8)) (n := r) (dl := dl) (.var rfl) (.add (.add (.var rfl) .lit) (.var rfl)) (by have := hlZ []; simpa using this) hk (by omega)
        have e : (0 + (i : Int)).toNat = i := by omega
        show Sv C Z _ _ (.int (dl.getD (at_ + q + (0 + (i : Int)).toNat) 0 % 4))
        rw [e]
        exact .mod hd .lit (by decide)
      · obtain ⟨i, hi⟩ := List.mem_iff_getElem?.mp hx
        obtain ⟨hi1, rfl⟩ := rangeL_get hi
        rfl
    have hin : ∀ (q : Nat), In 0 3 ((List.range size).map fun j => dl.getD (at_ + q + j) 0 % 4) := fun q x hx => by
      obtain ⟨j, _, rfl⟩ := List.mem_map.mp hx
      have := emod_in (x := dl.getD (at_ + q + j) 0) (m := 4) (by decide)
      omega
    have hnl : (names6.take size).length = size := by
      rw [List.length_take]
      have : names6.length = 6 := rfl
      omega
    refine ⟨⟨names6.take size, rows, stock, goal⟩, ⟨by rw [hnl]; exact hs1.1, by rw [hnl]; exact hs1.2, by rw [hnl], by show rows.length ≤ _; omega, by rw [hnl]; exact h4, by rw [hnl]; simp [stock], by rw [hnl]; simp [goal], hin 80, hin 86⟩, ?_⟩
    rw [run_of (d := Shop.d ⟨names6.take size, rows, stock, goal⟩) (ih' := Z) rfl ?_]
    · refine keep_pure (Shop.isPure _) ?_
      rw [← hZ, List.append_assoc]
      exact List.take_left
    · have h0 : Sv C ih ([D.ref r, .int at_, .int things, .int recipes].map some ++ List.replicate 10 none) (.bin .add (.bin .mod (.blt .int (.cons (.ix (.var 0) (.var 1)) .nil)) (.var 2)) (.lit (.int 1))) (.int size) := by
        rw [← hsz]
        exact .add (.mod (drawD (.var rfl) (.var rfl) hl (by omega) rfl) (.var rfl) (by omega)) .lit
      refine ⟨E [e8, e9, e10, e11, some (.tup (stock.map .int)), some (.tup (goal.map .int))], ?_⟩
      refine Eq.trans (ss_asgP (evs_two h0.now (ev_lst Svs.nil.now (by decide))) rfl) ?_
      have hcut : cutL (names6.map D.str) none (some (size : Int)) = (names6.take size).map .str := by
        have h6 : names6.length = 6 := rfl
        unfold cutL
        rw [HT.sIx_none, HT.sIx_nat, List.length_map, h6, List.drop_zero, ← List.map_take]
        congr 2
        omega
      have hn : Sv C (ih ++ [.lst []]) [some (.ref r), some (.int at_), some (.int things), some (.int recipes), some (.int size), some (.ref ih.length), none, none, none, none, none, none, none, none] (.sl (.tup (.cons (.lit (.str "wood")) (.cons (.lit (.str "abcdefghi1")) (.cons (.lit (.str "abcdefghi2")) (.cons (.lit (.str "saw")) (.cons (.lit (.str "plank")) (.cons (.lit (.str "z9")) .nil))))))) .no (.yes (.var 4))) (.tup ((names6.take size).map .str)) := by
        rw [← hcut]
        exact .slT (.tup (.cons .lit (.cons .lit (.cons .lit (.cons .lit (.cons .lit (.cons .lit .nil))))))) .no (.yes (.var rfl))
      refine Eq.trans (ss_asg hn.now rfl) ?_
      refine Eq.trans (ss_asg (d := .tup (titles8.map .str)) (ih' := ih ++ [.lst []]) (env' := E [none, none, none, none, none, none]) (Sv.tup (.cons .lit (.cons .lit (.cons .lit (.cons .lit (.cons .lit (.cons .lit (.cons .lit (.cons .lit .nil)))))))) ).now rfl) ?_
      have hcn : Sv C (ih ++ [.lst []]) (E [none, none, none, none, none, none]) (.bin .mod (.blt .int (.cons (.ix (.var 0) (.bin .add (.var 1) (.lit (.int 1)))) .nil)) (.bin .add (.var 3) (.lit (.int 1)))) (.int cnt) := by
        rw [← hcnt]
        exact .mod (drawD (.var rfl) (.add (.var rfl) .lit) (at_more hl _) (by omega) rfl) (.add (.var rfl) .lit) (by omega)
      have hsm : small62 (cnt : Int) = true := by
        unfold small62
        simp only [Bool.and_eq_true, decide_eq_true_eq]
        omega
      refine Eq.trans (ss_for (w := ⟨rangeL 0 cnt, []⟩) (ih' := ih ++ [.lst []]) ?_ h1) ?_
      · simp only [evI, evEs, hcn.now, rangeW, if_pos hsm, Option.map_some, Int.toNat_natCast]
      · refine Eq.trans (ss_asgP (evs_two (comp 80 (by omega) _ rfl).now (comp 86 (by omega) _ rfl).now) rfl) ?_
        refine ss_ret (Sv.tup (.cons .lit (.cons (.var rfl) (.cons (.tupR (xs := rows.map Rec.d) (.var rfl) (by rw [← hZ]; exact lstAt_mid)) (.cons (.var rfl) (.cons (.var rfl) .nil)))))).now
  · rintro i x env z hx ⟨rows, G, e8, e9, e10, e11, rfl, rfl, ha, hp⟩
    obtain ⟨hi, rfl⟩ := rangeL_get hx
    refine ⟨rfl, _, rfl, ?_⟩
    have hlZ : ∀ z, lstAt (((ih ++ [.lst (rows.map Rec.d)]) ++ G) ++ z) r = some (dl.map .int) := fun z => by
      rw [List.append_assoc, List.append_assoc]; exact at_more hl _
    have hmid : ∀ z, lstAt (((ih ++ [.lst (rows.map Rec.d)]) ++ G) ++ z) ih.length = some (rows.map Rec.d) := fun z => at_more lstAt_mid _
    have hset : ∀ z o, (((ih ++ [IObj.lst (rows.map Rec.d)]) ++ G) ++ z).set ih.length o = ((ih ++ [o]) ++ G) ++ z := fun z o => by
      rw [List.append_assoc (ih ++ [IObj.lst (rows.map Rec.d)]), set_mid, List.append_assoc (ih ++ [o])]
    generalize hZ : (ih ++ [IObj.lst (rows.map Rec.d)]) ++ G = Z at hlZ hmid hset
    have hi8 : i < 8 := by omega
    -- the draws
    let q : Nat := at_ + 4 + 8 * i
    have hq : q + 7 < dl.length := by omega
    let F (o9 o10 o11 : D) : IEnv := E [some (.int (0 + (i : Int))), some o9, some o10, some o11, none, none]
    have md : ∀ k : Nat, ∃ m : Nat, dl.getD k 0 % (size : Int) = m ∧ m < size := fun k => by
      have := emod_in (x := dl.getD k 0) (m := (size : Int)) (by omega)
      exact ⟨(dl.getD k 0 % (size : Int)).toNat, by omega, by omega⟩
    obtain ⟨m0, hm0, hm0'⟩ := md q
    obtain ⟨m2, hm2, hm2'⟩ := md (q + 2)
    obtain ⟨m4, hm4, hm4'⟩ := md (q + 4)
    obtain ⟨m6, hm6, hm6'⟩ := md (q + 6)
    have x1 := emod_in (x := dl.getD (q + 1) 0) (m := 3) (by decide)
    have x3 := emod_in (x := dl.getD (q + 3) 0) (m := 2) (by decide)
    have x5 := emod_in (x := dl.getD (q + 5) 0) (m := 4) (by decide)
    have x7 := emod_in (x := dl.getD (q + 7) 0) (m := 2) (by decide)
    have xc := emod_in (x := dl.getD (at_ + 70 + i) 0) (m := 4) (by decide)
    let zs : List Int := List.replicate size 0
    let needs := two size m0 m2 (dl.getD (q + 1) 0 % 3) (dl.getD (q + 3) 0 % 2)
    let gives := two size m4 m6 (dl.getD (q + 5) 0 % 4) (dl.getD (q + 7) 0 % 2)
    have ht8 : titles8.length = 8 := rfl
    let rc : Rec := ⟨titles8[i]'(by omega), needs, gives, dl.getD (at_ + 70 + i) 0 % 4⟩
    have rok : RecOk size i rc := ⟨List.getElem?_eq_getElem (by omega), two_len, two_len, two_in (a := 2) (b := 1) ⟨x1.1, by omega⟩ ⟨x3.1, by omega⟩ hm2', two_in (a := 3) (b := 1) ⟨x5.1, by omega⟩ ⟨x7.1, by omega⟩ hm6', ⟨xc.1, (by omega : dl.getD (at_ + 70 + i) 0 % 4 ≤ 3)⟩⟩
    let H (n g : List Int) : IH := Z ++ [.lst [.int 0], .lst (n.map .int), .lst [.int 0], .lst (g.map .int)]
    have n1 : ∀ n g, lstAt (H n g) (Z.length + 1) = some (n.map .int) := fun n g => lstAt_at rfl
    have n3 : ∀ n g, lstAt (H n g) (Z.length + 3) = some (g.map .int) := fun n g => lstAt_at rfl
    have s1 : ∀ n g n', (H n g).set (Z.length + 1) (.lst (n'.map .int)) = H n' g := fun n g n' => set_at
    have s3 : ∀ n g g', (H n g).set (Z.length + 3) (.lst (g'.map .int)) = H n g' := fun n g g' => set_at
    let W : IEnv := F (.int q) (.ref (Z.length + 1)) (.ref (Z.length + 3))
    have dr : ∀ n g (k : Nat) (e : ME), Sv C (H n g) W e (.int k) → k < dl.length → Sv C (H n g) W (.blt .int (.cons (.ix (.var 0) e) .nil)) (.int (dl.getD k 0)) := fun n g k e he hk => drawD (.var rfl) he (hlZ _) hk rfl
    have sp : ∀ n g (k : Nat), Sv C (H n g) W (.bin .add (.var 9) (.lit (.int k))) (.int ((q + k : Nat) : Int)) := fun n g k => by
      have := Sv.add (C := C) (ih := H n g) (env := W) (a := .var 9) (b := .lit (.int k)) (i := q) (j := k) (.var rfl) .lit
      rw [show ((q + k : Nat) : Int) = (q : Int) + k by omega]
      exact this
    have dm : ∀ n g (k m : Nat), dl.getD (q + k) 0 % (size : Int) = m → k ≤ 7 → Sv C (H n g) W (.bin .mod (.blt .int (.cons (.ix (.var 0) (.bin .add (.var 9) (.lit (.int k)))) .nil)) (.var 4)) (.int m) := fun n g k m hm hk => by
      rw [← hm]
      exact .mod (dr n g (q + k) _ (sp n g k) (by omega)) (.var rfl) (by omega)
    refine ⟨E [some (.int (0 + (i : Int))), some (.int q), some (.ref (Z.length + 1)), some (.ref (Z.length + 3)), none, none], (((ih ++ [.lst ((rows ++ [rc]).map Rec.d)]) ++ G) ++ [.lst [.int 0], .lst (needs.map .int), .lst [.int 0], .lst (gives.map .int)]), .inl ?_, rows ++ [rc], G ++ [.lst [.int 0], .lst (needs.map .int), .lst [.int 0], .lst (gives.map .int)], _, _, _, _, rfl, by rw [List.append_assoc], by rw [List.length_append, ha]; rfl, fun j r' hj => ?_⟩
    · have z1 := ev_zeros (C := C) (Z := Z) (env := E [some (.int (0 + (i : Int))), e9, e10, e11, none, none]) (a := .var 4) (n := size) (.var rfl) (by omega)
      have z2 := ev_zeros (C := C) (Z := Z ++ [.lst [.int 0], .lst ((List.replicate size (0 : Int)).map .int)]) (env := E [some (.int (0 + (i : Int))), e9, e10, e11, none, none]) (a := .var 4) (n := size) (.var rfl) (by omega)
      have z0 : Sv C Z (E [some (.int (0 + (i : Int))), e9, e10, e11, none, none]) (.bin .add (.bin .add (.var 1) (.lit (.int 4))) (.bin .mul (.lit (.int 8)) (.var 8))) (.int q) := by
        rw [show (q : Int) = (at_ : Int) + 4 + 8 * (0 + (i : Int)) by show ((at_ + 4 + 8 * i : Nat) : Int) = _; omega]
        exact .add (.add (.var rfl) .lit) (.mul .lit (.var rfl) (mulOk_left (by decide) (by decide)))
      refine Eq.trans (ss_asgP (ds := [.int q, .ref (Z.length + 1), .ref (Z.length + 3)]) (ih' := H zs zs) (env' := W) (evs_three z0.now z1 ?_) rfl) ?_
      · refine Eq.trans z2 ?_
        simp only [List.length_append, List.length_cons, List.length_nil, List.append_assoc]
        rfl
      refine Eq.trans (ss_put (k := m0) (d := .int (dl.getD (q + 1) 0 % 3)) (n := Z.length + 1) (.mod (dr zs zs (q + 1) _ (sp zs zs 1) (by omega)) .lit (by decide)) (.var rfl) (by rw [← hm0]; exact .mod (dr zs zs q _ (.var rfl) (by omega)) (.var rfl) (by omega)) rfl (n1 zs zs) (by simpa [zs] using hm0')) ?_
      rw [map_set, s1]
      have hg : m2 < (zs.set m0 (dl.getD (q + 1) 0 % 3)).length := by simpa [zs] using hm2'
      refine Eq.trans (ss_put (k := m2) (d := .int ((zs.set m0 (dl.getD (q + 1) 0 % 3)).getD m2 0 + dl.getD (q + 3) 0 % 2)) (n := Z.length + 1) (.add (.ixR (.var rfl) (dm _ _ 2 m2 hm2 (by omega)) (n1 _ _) (atI_nat (getI hg))) (.mod (dr _ _ (q + 3) _ (sp _ _ 3) (by omega)) .lit (by decide))) (.var rfl) (dm _ _ 2 m2 hm2 (by omega)) rfl (n1 _ _) (by simpa using hg)) ?_
      rw [map_set, s1]
      refine Eq.trans (ss_put (k := m4) (d := .int (dl.getD (q + 5) 0 % 4)) (n := Z.length + 3) (.mod (dr _ _ (q + 5) _ (sp _ _ 5) (by omega)) .lit (by decide)) (.var rfl) (dm _ _ 4 m4 hm4 (by omega)) rfl (n3 _ _) (by simpa [zs] using hm4')) ?_
      rw [map_set, s3]
      have hg2 : m6 < (zs.set m4 (dl.getD (q + 5) 0 % 4)).length := by simpa [zs] using hm6'
      refine Eq.trans (ss_put (k := m6) (d := .int ((zs.set m4 (dl.getD (q + 5) 0 % 4)).getD m6 0 + dl.getD (q + 7) 0 % 2)) (n := Z.length + 3) (.add (.ixR (.var rfl) (dm _ _ 6 m6 hm6 (by omega)) (n3 _ _) (atI_nat (getI hg2))) (.mod (dr _ _ (q + 7) _ (sp _ _ 7) (by omega)) .lit (by decide))) (.var rfl) (dm _ _ 6 m6 hm6 (by omega)) rfl (n3 _ _) (by simpa using hg2)) ?_
      rw [map_set, s3]
      have hrow : Sv C (H needs gives) W (.tup (.cons (.ix (.var 7) (.var 8)) (.cons (.blt .tuple (.cons (.var 10) .nil)) (.cons (.blt .tuple (.cons (.var 11) .nil)) (.cons (.bin .mod (.blt .int (.cons (.ix (.var 0) (.bin .add (.bin .add (.var 1) (.lit (.int 70))) (.var 8))) .nil)) (.lit (.int 4))) .nil))))) rc.d := by
        have e0 : (0 + (i : Int)) = ((i : Nat) : Int) := by omega
        refine .tup (.cons (.ixT (xs := titles8.map .str) (.var rfl) (.var rfl) ?_) (.cons (.tupR (.var rfl) (n1 _ _)) (.cons (.tupR (.var rfl) (n3 _ _)) (.cons (.mod (dr _ _ (at_ + 70 + i) _ ?_ (by omega)) .lit (by decide)) .nil))))
        · rw [e0]
          refine atI_nat ?_
          rw [List.getElem?_map, List.getElem?_eq_getElem (by omega)]
          rfl
        · rw [show ((at_ + 70 + i : Nat) : Int) = (at_ : Int) + 70 + (0 + (i : Int)) by omega]
          exact .add (.add (.var rfl) .lit) (.var rfl)
      have hap : evE C (.meth .append (.var 5) (.cons (.tup (.cons (.ix (.var 7) (.var 8)) (.cons (.blt .tuple (.cons (.var 10) .nil)) (.cons (.blt .tuple (.cons (.var 11) .nil)) (.cons (.bin .mod (.blt .int (.cons (.ix (.var 0) (.bin .add (.bin .add (.var 1) (.lit (.int 70))) (.var 8))) .nil)) (.lit (.int 4))) .nil))))) .nil)) W (H needs gives) = some (.non, ((ih ++ [.lst ((rows ++ [rc]).map Rec.d)]) ++ G) ++ [.lst [.int 0], .lst (needs.map .int), .lst [.int 0], .lst (gives.map .int)]) := by
        have hz : (rows.map Rec.d).length < sizeLine := by rw [List.length_map, sizeLine_eq]; omega
        have h5 : evE C (.var 5) W (H needs gives) = some (.ref ih.length, H needs gives) := (Sv.var rfl : Sv C (H needs gives) W (.var 5) (.ref ih.length)).now
        have h6 := (Svs.one hrow).now
        have e7 : (rows ++ [rc]).map Rec.d = rows.map Rec.d ++ [rc.d] := by simp
        rw [e7, ← hset]
        simp only [evE] at h5
        unfold evE
        simp only [evE, h5, h6, methop, H, hmid, if_pos hz]
      refine Eq.trans (ss_expr hap) ?_
      exact ss_nil
    · by_cases hjl : j < rows.length
      · rw [List.getElem?_append_left hjl] at hj
        exact hp j r' hj
      · rw [List.getElem?_append_right (by omega)] at hj
        have hj0 : j - rows.length = 0 := by
          have := (List.getElem?_eq_some_iff.mp hj).1
          simp at this
          omega
        rw [hj0] at hj
        cases hj
        have : j = i := by omega
        rw [this]
        exact rok
end
end Lib
set_option maxRecDepth 100000
set_option maxHeartbeats 4000000
/-! Plain: what is a number, a row, a word, a name, a recipe, a shop -/
namespace Lib
open PySem PySem.Spec PyProof.Rows L2 CP
def m_is_number : MDef := { name := "is_number", params := 2, size := 2, body := [
    .ret (.and (.cons (.isi (.var 0) "int") (.cons (.not (.isi (.var 0) "bool")) (.cons (.cmp .ge (.var 0) (.var 1)) .nil))))] }
def m_is_row : MDef := { name := "is_row", params := 2, size := 3, body := [
    .ret (.and (.cons (.isi (.var 0) "tuple") (.cons (.cmp .eq (.blt .len (.cons (.var 0) .nil)) (.var 1)) (.cons (.gen false (.call "is_number" (.cons (.var 2) (.cons (.lit (.int 0)) .nil))) (.name 2) (.val (.var 0)) .no [2]) .nil))))] }
def m_is_word : MDef := { name := "is_word", params := 1, size := 2, body := [
    .ifs (.or (.cons (.not (.isi (.var 0) "str")) (.cons (.cmp .eq (.var 0) (.lit (.str ""))) (.cons (.cmp .notIn (.ix (.var 0) (.lit (.int 0))) (.glob "SMALL" (.str "abcdefghijklmnopqrstuvwxyz"))) .nil)))) [
      .ret (.lit (.bl false))] [],
    .ret (.gen false (.or (.cons (.cmp .isIn (.var 1) (.glob "SMALL" (.str "abcdefghijklmnopqrstuvwxyz"))) (.cons (.cmp .isIn (.var 1) (.glob "FIGURES" (.str "0123456789"))) .nil))) (.name 1) (.val (.var 0)) .no [1])] }
def m_is_name : MDef := { name := "is_name", params := 1, size := 1, body := [
    .ret (.and (.cons (.call "is_word" (.cons (.var 0) .nil)) (.cons (.cmp .le (.blt .len (.cons (.var 0) .nil)) (.lit (.int 10))) (.cons (.cmp .notIn (.var 0) (.glob "CLOSED" (.tup [(.str "let"), (.str "things"), (.str "class"), (.str "recipe"), (.str "stock"), (.str "goal"), (.str "cost"), (.str "with"), (.str "any"), (.str "had"), (.str "out"), (.str "no"), (.str "all"), (.str "until"), (.str "skip"), (.str "end")]))) .nil))))] }
def m_are_names : MDef := { name := "are_names", params := 3, size := 4, body := [
    .ifs (.or (.cons (.not (.isi (.var 0) "tuple")) (.cons (.not (.chain .le .le (.var 1) (.blt .len (.cons (.var 0) .nil)) (.var 2))) .nil))) [
      .ret (.lit (.bl false))] [],
    .ret (.and (.cons (.gen false (.call "is_name" (.cons (.var 3) .nil)) (.name 3) (.val (.var 0)) .no [3]) (.cons (.gen false (.cmp .eq (.meth .count (.var 0) (.cons (.var 3) .nil)) (.lit (.int 1))) (.name 3) (.val (.var 0)) .no [3]) .nil)))] }
def m_is_bounded : MDef := { name := "is_bounded", params := 3, size := 4, body := [
    .ret (.and (.cons (.call "is_row" (.cons (.var 0) (.cons (.var 1) .nil))) (.cons (.gen false (.cmp .le (.var 3) (.var 2)) (.name 3) (.val (.var 0)) .no [3]) .nil)))] }
def m_is_recipe : MDef := { name := "is_recipe", params := 2, size := 2, body := [
    .ifs (.or (.cons (.not (.isi (.var 0) "tuple")) (.cons (.cmp .ne (.blt .len (.cons (.var 0) .nil)) (.lit (.int 4))) (.cons (.not (.call "is_name" (.cons (.ix (.var 0) (.lit (.int 0))) .nil))) .nil)))) [
      .ret (.lit (.bl false))] [],
    .ifs (.or (.cons (.not (.call "is_bounded" (.cons (.ix (.var 0) (.lit (.int 1))) (.cons (.var 1) (.cons (.glob "MOST_EACH" (.int 9)) .nil))))) (.cons (.not (.call "is_bounded" (.cons (.ix (.var 0) (.lit (.int 2))) (.cons (.var 1) (.cons (.glob "MOST_EACH" (.int 9)) .nil))))) .nil))) [
      .ret (.lit (.bl false))] [],
    .ret (.and (.cons (.call "is_number" (.cons (.ix (.var 0) (.lit (.int 3))) (.cons (.lit (.int 0)) .nil))) (.cons (.cmp .le (.ix (.var 0) (.lit (.int 3))) (.glob "MOST_EACH" (.int 9))) .nil)))] }
def m_is_shop : MDef := { name := "is_shop", params := 1, size := 6, body := [
    .ifs (.or (.cons (.not (.isi (.var 0) "tuple")) (.cons (.cmp .ne (.blt .len (.cons (.var 0) .nil)) (.lit (.int 5))) (.cons (.not (.isi (.ix (.var 0) (.lit (.int 0))) "str")) (.cons (.cmp .ne (.ix (.var 0) (.lit (.int 0))) (.lit (.str "shop"))) .nil))))) [
      .ret (.lit (.bl false))] [],
    .ifs (.not (.call "are_names" (.cons (.ix (.var 0) (.lit (.int 1))) (.cons (.lit (.int 1)) (.cons (.glob "MOST_THINGS" (.int 6)) .nil))))) [
      .ret (.lit (.bl false))] [],
    .asgP [1, 2] (.cons (.blt .len (.cons (.ix (.var 0) (.lit (.int 1))) .nil)) (.cons (.ix (.var 0) (.lit (.int 2))) .nil)),
    .ifs (.or (.cons (.not (.isi (.var 2) "tuple")) (.cons (.cmp .gt (.blt .len (.cons (.var 2) .nil)) (.glob "MOST_RECIPES" (.int 8))) (.cons (.not (.gen false (.call "is_recipe" (.cons (.var 4) (.cons (.var 1) .nil))) (.name 4) (.val (.var 2)) .no [4])) .nil)))) [
      .ret (.lit (.bl false))] [],
    .asg (.name 3) (.comp (.ix (.var 4) (.lit (.int 0))) (.name 4) (.val (.var 2)) .no [4]),
    .ifs (.gen true (.cmp .gt (.meth .count (.var 3) (.cons (.var 5) .nil)) (.lit (.int 1))) (.name 5) (.val (.var 3)) .no [5]) [
      .ret (.lit (.bl false))] [],
    .ret (.and (.cons (.call "is_bounded" (.cons (.ix (.var 0) (.lit (.int 3))) (.cons (.var 1) (.cons (.glob "MOST_STOCK" (.int 99)) .nil)))) (.cons (.call "is_bounded" (.cons (.ix (.var 0) (.lit (.int 4))) (.cons (.var 1) (.cons (.glob "MOST_GOAL" (.int 20)) .nil)))) .nil)))] }
/-! ### values whose places are there -/
mutual
def okR (n : Nat) : D → Bool
  | .tup ds => okRs n ds
  | .rol ds => okRs n ds
  | .ref k => decide (k < n)
  | _ => true
def okRs (n : Nat) : List D → Bool
  | [] => true
  | d :: ds => okR n d && okRs n ds
end
mutual
theorem okR_mono {n m : Nat} (h : n ≤ m) : ∀ {d : D}, okR n d = true → okR m d = true
  | .tup ds, q => by unfold okR at q ⊢; exact okRs_mono h q
  | .rol ds, q => by unfold okR at q ⊢; exact okRs_mono h q
  | .ref k, q => by unfold okR at q ⊢; rw [decide_eq_true_eq] at q ⊢; omega
  | .non, _ => rfl
  | .bl _, _ => rfl
  | .int _, _ => rfl
  | .str _, _ => rfl
theorem okRs_mono {n m : Nat} (h : n ≤ m) : ∀ {ds : List D}, okRs n ds = true → okRs m ds = true
  | [], _ => rfl
  | d :: ds, q => by
    unfold okRs at q ⊢
    rw [Bool.and_eq_true] at q ⊢
    exact ⟨okR_mono h q.1, okRs_mono h q.2⟩
end
theorem okRs_mem {n : Nat} : ∀ {ds : List D}, okRs n ds = true → ∀ d ∈ ds, okR n d = true
  | [], _, d, h => by cases h
  | e :: ds, q, d, h => by
    unfold okRs at q
    rw [Bool.and_eq_true] at q
    rcases List.mem_cons.mp h with rfl | h
    · exact q.1
    · exact okRs_mem q.2 d h
theorem okRs_of {n : Nat} : ∀ {ds : List D}, (∀ d ∈ ds, okR n d = true) → okRs n ds = true
  | [], _ => rfl
  | e :: ds, h => by
    unfold okRs
    rw [h e List.mem_cons_self, okRs_of fun d hd => h d (List.mem_cons_of_mem _ hd)]; rfl
theorem okRs_app {n : Nat} {a b : List D} (h : okRs n a = true) (q : okRs n b = true) : okRs n (a ++ b) = true :=
  okRs_of fun d hd => (List.mem_append.mp hd).elim (okRs_mem h d) (okRs_mem q d)
def ty0 : D → String
  | .non => "NoneType"
  | .bl _ => "bool"
  | .int _ => "int"
  | .str _ => "str"
  | .tup _ => "tuple"
  | .rol _ => "list"
  | .ref _ => "list"
theorem ty_ok {ih : IH} {d : D} (h : okR ih.length d = true) (z : IH) : tyOf (ih ++ z) d = some (ty0 d) := by
  cases d with
  | ref k =>
    unfold okR at h
    rw [decide_eq_true_eq] at h
    have e : ∃ ds, lstAt (ih ++ z) k = some ds := by
      unfold lstAt
      rw [List.getElem?_append_left h, List.getElem?_eq_getElem h]
      cases ih[k] with
      | lst ds => exact ⟨ds, rfl⟩
    obtain ⟨ds, e⟩ := e
    show (lstAt (ih ++ z) k).map (fun _ => "list") = some "list"
    rw [e]; rfl
  | _ => rfl
section
variable {C : Orc} {fuel : Nat} {ih : IH} {env : IEnv} {a : ME} {d : D}
theorem isi' {t s : String} {k : Bool} (ha : Sv C ih env a d) (h : okR ih.length d = true) (hs : ty0 d = s) (hk : (s == t || (s == "bool" && t == "int")) = k) : Sv C ih env (.isi a t) (.bl k) := by
  rw [← hk]
  exact Sv.isi ha (by rw [← hs]; exact ty_ok h)
/-! ### numbers -/
def numB (lo : Int) : D → Bool
  | .int i => decide (lo ≤ i)
  | _ => false
theorem is_number (lo : Int) (h : okR ih.length d = true) : m_is_number.run C fuel [d, .int lo] ih = some (.bl (numB lo d), ih) := by
  refine run_sv rfl rfl ?_
  have v : Sv C ih ([d, D.int lo].map some ++ List.replicate 0 none) (.var 0) d := .var rfl
  cases d with
  | int i => exact .andT (isi' v h rfl (by simp [ty0])) (.andT (.not (k := false) (isi' v h rfl (by simp [ty0]))) (.and1 (.ge v (.var rfl))))
  | bl b => exact .andT (isi' v h rfl (by simp [ty0])) (.andF (.not (k := true) (isi' v h rfl (by simp [ty0]))))
  | _ => exact .andF (isi' v h rfl (by simp [ty0]))
/-! ### rows of numbers -/
def rowB (n : Int) : D → Bool
  | .tup ds => ((ds.length : Int) == n) && ds.all (numB 0)
  | _ => false
def lenB (n : Nat) : Prop := n ≤ 1000
theorem is_row {n : Int} (hC : ∀ ih d lo, okR ih.length d = true → C "is_number" [d, .int lo] ih = some (.bl (numB lo d), ih)) (h : okR ih.length d = true) : m_is_row.run C fuel [d, .int n] ih = some (.bl (rowB n d), ih) := by
  refine run_sv rfl rfl ?_
  have v : Sv C ih ([d, D.int n].map some ++ List.replicate 1 none) (.var 0) d := .var rfl
  cases d with
  | tup ds =>
    refine .andT (isi' v h rfl (by simp [ty0])) ?_
    refine .and (k := ((ds.length : Int) == n)) (j := ds.all (numB 0)) (.eqI (.lenT v) (.var rfl)) fun _ => .and1 (.all (.tup v) fun x hx => ⟨_, rfl, .call (.cons (.var rfl) (.cons .lit .nil)) fun z => hC _ _ _ ?_⟩)
    have hd : okRs ih.length ds = true := by unfold okR at h; exact h
    exact okR_mono (by simp) (okRs_mem hd x hx)
  | _ => exact .andF (isi' v h rfl (by simp [ty0]))
def leB (most : Int) : D → Bool
  | .int i => decide (i ≤ most)
  | _ => false
def boundB (n most : Int) : D → Bool
  | .tup ds => rowB n (.tup ds) && ds.all (leB most)
  | _ => false
theorem is_bounded {n most : Int} (hC : ∀ ih d n, okR ih.length d = true → C "is_row" [d, .int n] ih = some (.bl (rowB n d), ih)) (h : okR ih.length d = true) : m_is_bounded.run C fuel [d, .int n, .int most] ih = some (.bl (boundB n most d), ih) := by
  refine run_sv rfl rfl ?_
  have v : Sv C ih ([d, D.int n, .int most].map some ++ List.replicate 1 none) (.var 0) d := .var rfl
  have c : Sv C ih ([d, D.int n, .int most].map some ++ List.replicate 1 none) (.call "is_row" (.cons (.var 0) (.cons (.var 1) .nil))) (.bl (rowB n d)) := .call (.cons v (.cons (.var rfl) .nil)) fun z => hC _ _ _ (okR_mono (by simp) h)
  cases d with
  | tup ds =>
    refine .and c fun hr => .and1 (.all (.tup v) fun x hx => ⟨_, rfl, ?_⟩)
    unfold rowB at hr
    rw [Bool.and_eq_true] at hr
    have := List.all_eq_true.mp hr.2 x hx
    cases x with
    | int i => exact .le (.var rfl) (.var rfl)
    | _ => cases this
  | _ => exact .andF c
/-! ### words, names -/
def SMALL : Str := "abcdefghijklmnopqrstuvwxyz"
def FIGURES : Str := "0123456789"
def closedL : List Str := ["let", "things", "class", "recipe", "stock", "goal", "cost", "with", "any", "had", "out", "no", "all", "until", "skip", "end"]
def signB (c : Nat) : Bool := decide (c ∈ SMALL.cps.toList) || decide (c ∈ FIGURES.cps.toList)
def wordS (x : Str) : Bool := match x.cps.toList with
  | [] => false
  | c :: cs => decide (c ∈ SMALL.cps.toList) && (c :: cs).all signB
def wordB : D → Bool
  | .str x => wordS x
  | _ => false
/-- a text that is not too long -/
def shortD : D → Prop
  | .str x => SeqAt.shaped (.str x) = true ∧ x.length ≤ 1000
  | _ => True
theorem is_word (h : okR ih.length d = true) (hs : shortD d) : m_is_word.run C fuel [d] ih = some (.bl (wordB d), ih) := by
  have v : Sv C ih ([d].map some ++ List.replicate 1 none) (.var 0) d := .var rfl
  have fin : ∀ b, wordB d = b → (∃ e, evSs C fuel m_is_word.body ([d].map some ++ List.replicate 1 none) ih = some (.ret (.bl b), e, ih)) → m_is_word.run C fuel [d] ih = some (.bl (wordB d), ih) := fun b hb he => by
    rw [hb, run_of (d := .bl b) (ih' := ih) rfl he]
    exact keep_same
  cases d with
  | str x =>
    have c1 : Sv C ih ([D.str x].map some ++ List.replicate 1 none) (.not (.isi (.var 0) "str")) (.bl false) := .not (k := true) (isi' v h rfl (by simp [ty0]))
    have c2 : Sv C ih ([D.str x].map some ++ List.replicate 1 none) (.cmp .eq (.var 0) (.lit (.str ""))) (.bl (x == "")) := .cmp v .lit fun z => by
      have e1 : dat (ih ++ z) 60 (.str x) = some (.str x) := rfl
      have e2 : datS (ih ++ z) (.str ("" : Str)) = some (.str "") := by
        have e1 : dat (ih ++ z) 60 (.str ("" : Str)) = some (.str "") := rfl
        unfold datS; rw [e1]; simp only []; rw [if_pos (by decide +kernel)]
      have e3 : datS (ih ++ z) (.str x) = some (.str x) := by unfold datS; rw [e1]; simp only []; rw [if_pos hs.1]
      simp only [cmpop, eqD, e2, e3]
      rfl
    cases hx : x.cps.toList with
    | nil =>
      have e0 : x = "" := by
        obtain ⟨cps⟩ := x
        have hx : cps.toList = [] := hx
        have : cps = #[] := by rw [← hx]
        rw [this]; rfl
      refine fin false (by show wordS x = _; unfold wordS; rw [hx]) ⟨_, Eq.trans (ss_ifT (Sv.orF c1 (.orT (by rw [show (x == "") = true by rw [e0]; rfl] at c2; exact c2))).now) (ss_ret Sv.lit.now)⟩
    | cons c cs =>
      have e0 : (x == "") = false := by
        rw [beq_eq_false_iff_ne]
        intro e
        rw [e] at hx
        cases hx
      rw [e0] at c2
      have hl : x.length ≤ sizeLine := by have := hs.2; rw [sizeLine_eq]; omega
      have c3 : Sv C ih ([D.str x].map some ++ List.replicate 1 none) (.cmp .notIn (.ix (.var 0) (.lit (.int 0))) (.glob "SMALL" (.str SMALL))) (.bl (!decide (c ∈ SMALL.cps.toList))) := .cmp (x := .str ⟨#[c]⟩) (.ix v .lit fun z => by
        simp only [ixop, if_pos hl]
        rw [hx, atI_zero]; rfl) .glob fun z => rfl
      have all : Sv C ih ([D.str x].map some ++ List.replicate 1 none) (.gen false (.or (.cons (.cmp .isIn (.var 1) (.glob "SMALL" (.str SMALL))) (.cons (.cmp .isIn (.var 1) (.glob "FIGURES" (.str FIGURES))) .nil))) (.name 1) (.val (.var 0)) .no [1]) (.bl ((c :: cs).all signB)) := by
        have := Sv.all (C := C) (ih := ih) (env := [D.str x].map some ++ List.replicate 1 none) (elt := .or (.cons (.cmp .isIn (.var 1) (.glob "SMALL" (.str SMALL))) (.cons (.cmp .isIn (.var 1) (.glob "FIGURES" (.str FIGURES))) .nil))) (tg := .name 1) (own := [1]) (q := fun y => match y with
          | .str w => w.cps.toList.all signB
          | _ => false) (.str v) fun y hy => by
            obtain ⟨c', _, rfl⟩ := List.mem_map.mp hy
            refine ⟨_, rfl, ?_⟩
            have : Sv C ih (([D.str x].map some ++ List.replicate 1 none).set 1 (some (.str ⟨#[c']⟩))) (.or (.cons (.cmp .isIn (.var 1) (.glob "SMALL" (.str SMALL))) (.cons (.cmp .isIn (.var 1) (.glob "FIGURES" (.str FIGURES))) .nil))) (.bl (decide (c' ∈ SMALL.cps.toList) || decide (c' ∈ FIGURES.cps.toList))) :=
              .or (.cmp (x := .str ⟨#[c']⟩) (.var rfl) .glob fun z => rfl) fun _ => .or1 (.cmp (x := .str ⟨#[c']⟩) (.var rfl) .glob fun z => rfl)
            have e : ([c'].all signB) = (decide (c' ∈ SMALL.cps.toList) || decide (c' ∈ FIGURES.cps.toList)) := by simp [signB]
            show Sv C ih _ _ (.bl ([c'].all signB))
            rw [e]
            exact this
        rw [hx, List.all_map] at this
        have e : ((c :: cs).all ((fun y => match y with
          | D.str w => w.cps.toList.all signB
          | _ => false) ∘ fun c => D.str ⟨#[c]⟩)) = (c :: cs).all signB := by
            congr 1
            funext c'
            simp
        rw [e] at this
        exact this
      cases hc : decide (c ∈ SMALL.cps.toList) with
      | false =>
        rw [hc] at c3
        exact fin false (by show wordS x = _; unfold wordS; rw [hx]; simp only []; rw [hc]; rfl) ⟨_, Eq.trans (ss_ifT (Sv.orF c1 (.orF c2 (.or1 c3))).now) (ss_ret Sv.lit.now)⟩
      | true =>
        rw [hc] at c3
        exact fin ((c :: cs).all signB) (by show wordS x = _; unfold wordS; rw [hx]; simp only []; rw [hc]; rfl) ⟨_, Eq.trans (ss_ifF (Sv.orF c1 (.orF c2 (.or1 c3))).now) (ss_ret all.now)⟩
  | _ => exact fin false rfl ⟨_, Eq.trans (ss_ifT (Sv.orT (.not (k := false) (isi' v h rfl (by simp [ty0])))).now) (ss_ret Sv.lit.now)⟩
def nameS (x : Str) : Bool := wordS x && (decide ((x.length : Int) ≤ 10) && !(closedL.any fun y => y == x))
def nameB : D → Bool
  | .str x => nameS x
  | _ => false
theorem is_name (hC : ∀ ih d, okR ih.length d = true → shortD d → C "is_word" [d] ih = some (.bl (wordB d), ih)) (h : okR ih.length d = true) (hs : shortD d) : m_is_name.run C fuel [d] ih = some (.bl (nameB d), ih) := by
  refine run_sv rfl rfl ?_
  have v : Sv C ih ([d].map some ++ List.replicate 0 none) (.var 0) d := .var rfl
  have c : Sv C ih ([d].map some ++ List.replicate 0 none) (.call "is_word" (.cons (.var 0) .nil)) (.bl (wordB d)) := .call (.one v) fun z => hC _ _ (okR_mono (by simp) h) hs
  cases d with
  | str x =>
    have hl : x.length ≤ sizeLine := by have := hs.2; rw [sizeLine_eq]; omega
    refine .and c fun _ => .and (.le (.blt (.one v) fun z => by simp only [bltop, blt1, if_pos hl]) .lit) fun _ => .and1 (.cmp v .glob fun z => ?_)
    have e : ∀ w : List Str, (w.map D.str).all flatD = true := fun w => by simp [flatD]
    have e2 : ∀ w : List Str, ((w.map D.str).any fun y => D.eqv y (.str x)) = w.any fun y => y == x := fun w => by
      rw [List.any_map]; rfl
    show (inD (ih ++ z) (.str x) (.tup (closedL.map D.str))).map (!·) = _
    unfold inD
    simp only []
    rw [if_pos (by rw [e]; rfl), e2]
    rfl
  | _ => exact .andF c
end
end Lib
set_option maxRecDepth 100000
set_option maxHeartbeats 4000000
/-! Plain: names, recipes, shops -/
namespace Lib
open PySem PySem.Spec PyProof.Rows L2 CP
section
variable {C : Orc} {fuel : Nat} {ih : IH} {env : IEnv} {a : ME} {d : D}
def namesB (lo hi : Int) : D → Bool
  | .tup ds => (decide (lo ≤ ds.length) && decide ((ds.length : Int) ≤ hi)) && (ds.all nameB && ds.all fun x => cntD x ds == 1)
  | _ => false
/-- the items of a tuple are not too long -/
def shortT : D → Prop
  | .tup ds => ∀ x ∈ ds, shortD x
  | _ => True
theorem nameB_flat {d : D} (h : nameB d = true) : flatD d = true := by
  cases d <;> first
    | rfl
    | cases h
theorem flats_of {ds : List D} (h : ds.all nameB = true) : ds.all flatD = true := List.all_eq_true.mpr fun x hx => nameB_flat (List.all_eq_true.mp h x hx)
theorem cnt_eq (n m : Nat) : (((n : Nat) : Int) == (m : Int)) = (n == m) := by
  rw [Bool.eq_iff_iff]
  simp
  omega
/-- all(t.count(one) == 1 for one in t) -/
theorem sv_once {ds : List D} {i j : Nat} (own : List Nat) (hv : Sv C ih env (.var i) (.tup ds)) (hf : ds.all flatD = true) (hi : i ≠ j) (hj : j < env.length) (ho : own = [j]) : Sv C ih env (.gen false (.cmp .eq (.meth .count (.var i) (.cons (.var j) .nil)) (.lit (.int 1))) (.name j) (.val (.var i)) .no own) (.bl (ds.all fun x => cntD x ds == 1)) := by
  subst ho
  have hvi : env[i]? = some (some (.tup ds)) := by
    have := hv.now
    simp only [evE] at this
    split at this
    · rename_i h
      cases this
      exact h
    · cases this
  refine .all (.tup hv) fun x hx => ⟨(wipeE env [j]).set j (some x), ?_, ?_⟩
  · show (if j < (wipeE env [j]).length then _ else none) = _
    rw [if_pos (by simpa [wipeE] using hj)]
  · have e1 : ((wipeE env [j]).set j (some x))[i]? = some (some (.tup ds)) := by
      unfold wipeE wipeE
      rw [List.getElem?_set_ne (Ne.symm hi), List.getElem?_set_ne (Ne.symm hi)]
      exact hvi
    have e2 : ((wipeE env [j]).set j (some x))[j]? = some (some x) := by
      unfold wipeE wipeE
      rw [List.getElem?_set_self (by rw [List.length_set]; exact hj)]
    have hx' := List.all_eq_true.mp hf x hx
    have := Sv.eqI (C := C) (ih := ih) (env := (wipeE env [j]).set j (some x)) (a := .meth .count (.var i) (.cons (.var j) .nil)) (b := .lit (.int 1)) (i := (cntD x ds : Nat)) (j := 1) (.meth (.var e1) (.one (.var e2)) fun z => by
      simp only [methop, seqOf, hx', hf, Bool.and_self, if_true]) .lit
    rw [show (((cntD x ds : Nat) : Int) == (1 : Int)) = (cntD x ds == 1) from cnt_eq _ 1] at this
    exact this
theorem are_names {lo hi : Int} (hC : ∀ ih d, okR ih.length d = true → shortD d → C "is_name" [d] ih = some (.bl (nameB d), ih)) (h : okR ih.length d = true) (hs : shortT d) : m_are_names.run C fuel [d, .int lo, .int hi] ih = some (.bl (namesB lo hi d), ih) := by
  have v : Sv C ih ([d, D.int lo, .int hi].map some ++ List.replicate 1 none) (.var 0) d := .var rfl
  have fin : ∀ b, namesB lo hi d = b → (∃ e, evSs C fuel m_are_names.body ([d, D.int lo, .int hi].map some ++ List.replicate 1 none) ih = some (.ret (.bl b), e, ih)) → m_are_names.run C fuel [d, .int lo, .int hi] ih = some (.bl (namesB lo hi d), ih) := fun b hb he => by
    rw [hb, run_of (d := .bl b) (ih' := ih) rfl he]
    exact keep_same
  cases d with
  | tup ds =>
    have c1 : Sv C ih ([D.tup ds, D.int lo, .int hi].map some ++ List.replicate 1 none) (.not (.isi (.var 0) "tuple")) (.bl false) := .not (k := true) (isi' v h rfl (by simp [ty0]))
    have c2 : Sv C ih ([D.tup ds, D.int lo, .int hi].map some ++ List.replicate 1 none) (.not (.chain .le .le (.var 1) (.blt .len (.cons (.var 0) .nil)) (.var 2))) (.bl (!(decide (lo ≤ ds.length) && decide ((ds.length : Int) ≤ hi)))) :=
      .not (.chain (.var rfl) (.lenT v) (.var rfl) (fun _ => rfl) fun _ => rfl)
    cases hb : (decide (lo ≤ ds.length) && decide ((ds.length : Int) ≤ hi)) with
    | false =>
      rw [hb] at c2
      exact fin false (by show (_ && _) = false; rw [hb]; rfl) ⟨_, Eq.trans (ss_ifT (Sv.orF c1 (.or1 c2)).now) (ss_ret Sv.lit.now)⟩
    | true =>
      rw [hb] at c2
      have hd : okRs ih.length ds = true := by unfold okR at h; exact h
      have g1 : Sv C ih ([D.tup ds, D.int lo, .int hi].map some ++ List.replicate 1 none) (.gen false (.call "is_name" (.cons (.var 3) .nil)) (.name 3) (.val (.var 0)) .no [3]) (.bl (ds.all nameB)) := .all (.tup v) fun x hx => ⟨_, rfl, .call (.one (.var rfl)) fun z => hC _ _ (okR_mono (by simp) (okRs_mem hd x hx)) (hs x hx)⟩
      exact fin _ (by show (_ && _) = _; rw [hb]; rfl) ⟨_, Eq.trans (ss_ifF (Sv.orF c1 (.or1 c2)).now) (ss_ret (Sv.and g1 fun hq => .and1 (sv_once [3] v (flats_of hq) (by decide) (by simp) rfl)).now)⟩
  | _ => exact fin false rfl ⟨_, Eq.trans (ss_ifT (Sv.orT (.not (k := false) (isi' v h rfl (by simp [ty0])))).now) (ss_ret Sv.lit.now)⟩
/-! ### recipes -/
def recB (n : Int) : D → Bool
  | .tup [a, b, c, e] => nameB a && ((boundB n 9 b && boundB n 9 c) && (numB 0 e && leB 9 e))
  | _ => false
def short0 : D → Prop
  | .tup (a :: _) => shortD a
  | _ => True
structure Spec (C : Orc) : Prop where
  num : ∀ ih d lo, okR ih.length d = true → C "is_number" [d, .int lo] ih = some (.bl (numB lo d), ih)
  name : ∀ ih d, okR ih.length d = true → shortD d → C "is_name" [d] ih = some (.bl (nameB d), ih)
  bnd : ∀ ih d n m, okR ih.length d = true → C "is_bounded" [d, .int n, .int m] ih = some (.bl (boundB n m d), ih)
theorem okR_tup {n : Nat} {ds : List D} (h : okR n (.tup ds) = true) : okRs n ds = true := by unfold okR at h; exact h
theorem is_recipe {n : Int} (S : Spec C) (h : okR ih.length d = true) (hs : short0 d) : m_is_recipe.run C fuel [d, .int n] ih = some (.bl (recB n d), ih) := by
  have v : Sv C ih ([d, D.int n].map some ++ List.replicate 0 none) (.var 0) d := .var rfl
  have fin : ∀ b, recB n d = b → (∃ e, evSs C fuel m_is_recipe.body ([d, D.int n].map some ++ List.replicate 0 none) ih = some (.ret (.bl b), e, ih)) → m_is_recipe.run C fuel [d, .int n] ih = some (.bl (recB n d), ih) := fun b hb he => by
    rw [hb, run_of (d := .bl b) (ih' := ih) rfl he]
    exact keep_same
  cases d with
  | tup ds =>
    have c1 : Sv C ih ([D.tup ds, D.int n].map some ++ List.replicate 0 none) (.not (.isi (.var 0) "tuple")) (.bl false) := .not (k := true) (isi' v h rfl (by simp [ty0]))
    have c2 : Sv C ih ([D.tup ds, D.int n].map some ++ List.replicate 0 none) (.cmp .ne (.blt .len (.cons (.var 0) .nil)) (.lit (.int 4))) (.bl (!((ds.length : Int) == 4))) := .neI (.lenT v) .lit
    by_cases hl : ds.length = 4
    · obtain ⟨a, b, c, e, rfl⟩ : ∃ a b c e, ds = [a, b, c, e] := by
        match ds, hl with
        | [a, b, c, e], _ => exact ⟨a, b, c, e, rfl⟩
      have c2' : Sv C ih ([D.tup [a, b, c, e], D.int n].map some ++ List.replicate 0 none) (.cmp .ne (.blt .len (.cons (.var 0) .nil)) (.lit (.int 4))) (.bl false) := c2
      have hd := okR_tup h
      simp only [okRs, Bool.and_eq_true] at hd
      obtain ⟨ha, hb, hc, he, _⟩ := hd
      have i0 : Sv C ih ([D.tup [a, b, c, e], D.int n].map some ++ List.replicate 0 none) (.ix (.var 0) (.lit (.int 0))) a := .ixT v .lit (atI_nat (k := 0) rfl)
      have i1 : Sv C ih ([D.tup [a, b, c, e], D.int n].map some ++ List.replicate 0 none) (.ix (.var 0) (.lit (.int 1))) b := .ixT v .lit (atI_nat (k := 1) rfl)
      have i2 : Sv C ih ([D.tup [a, b, c, e], D.int n].map some ++ List.replicate 0 none) (.ix (.var 0) (.lit (.int 2))) c := .ixT v .lit (atI_nat (k := 2) rfl)
      have i3 : Sv C ih ([D.tup [a, b, c, e], D.int n].map some ++ List.replicate 0 none) (.ix (.var 0) (.lit (.int 3))) e := .ixT v .lit (atI_nat (k := 3) rfl)
      have c3 : Sv C ih ([D.tup [a, b, c, e], D.int n].map some ++ List.replicate 0 none) (.not (.call "is_name" (.cons (.ix (.var 0) (.lit (.int 0))) .nil))) (.bl (!nameB a)) := .not (.call (.one i0) fun z => S.name _ _ (okR_mono (by simp) ha) hs)
      cases hn : nameB a with
      | false =>
        rw [hn] at c3
        exact fin false (by show (_ && _) = false; rw [hn]; rfl) ⟨_, Eq.trans (ss_ifT (Sv.orF c1 (.orF c2' (.or1 c3))).now) (ss_ret Sv.lit.now)⟩
      | true =>
        rw [hn] at c3
        have b1 : Sv C ih ([D.tup [a, b, c, e], D.int n].map some ++ List.replicate 0 none) (.not (.call "is_bounded" (.cons (.ix (.var 0) (.lit (.int 1))) (.cons (.var 1) (.cons (.glob "MOST_EACH" (.int 9)) .nil))))) (.bl (!boundB n 9 b)) := .not (.call (.cons i1 (.cons (.var rfl) (.cons .glob .nil))) fun z => S.bnd _ _ _ _ (okR_mono (by simp) hb))
        have b2 : Sv C ih ([D.tup [a, b, c, e], D.int n].map some ++ List.replicate 0 none) (.not (.call "is_bounded" (.cons (.ix (.var 0) (.lit (.int 2))) (.cons (.var 1) (.cons (.glob "MOST_EACH" (.int 9)) .nil))))) (.bl (!boundB n 9 c)) := .not (.call (.cons i2 (.cons (.var rfl) (.cons .glob .nil))) fun z => S.bnd _ _ _ _ (okR_mono (by simp) hc))
        have bb := Sv.or b1 fun _ => .or1 b2
        cases hq : (boundB n 9 b && boundB n 9 c) with
        | false =>
          have e2 : (!boundB n 9 b || !boundB n 9 c) = true := by rw [← Bool.not_and, hq]; rfl
          rw [e2] at bb
          exact fin false (by show (_ && (_ && _)) = false; rw [hn, hq]; rfl) ⟨_, Eq.trans (ss_ifF (Sv.orF c1 (.orF c2' (.or1 c3))).now) (Eq.trans (ss_ifT bb.now) (ss_ret Sv.lit.now))⟩
        | true =>
          have e2 : (!boundB n 9 b || !boundB n 9 c) = false := by rw [← Bool.not_and, hq]; rfl
          rw [e2] at bb
          refine fin (numB 0 e && leB 9 e) (by show (_ && (_ && _)) = _; rw [hn, hq]; rfl) ⟨_, Eq.trans (ss_ifF (Sv.orF c1 (.orF c2' (.or1 c3))).now) (Eq.trans (ss_ifF bb.now) (ss_ret (Sv.and (.call (.cons i3 (.cons .lit .nil)) fun z => S.num _ _ _ (okR_mono (by simp) he)) fun hq2 => .and1 ?_).now))⟩
          cases e with
          | int x => exact .le i3 .glob
          | _ => cases hq2
    · have c2' : Sv C ih ([D.tup ds, D.int n].map some ++ List.replicate 0 none) (.cmp .ne (.blt .len (.cons (.var 0) .nil)) (.lit (.int 4))) (.bl true) := by
        have e : (!((ds.length : Int) == 4)) = true := by
          rw [Bool.not_eq_true', beq_eq_false_iff_ne]
          omega
        rw [e] at c2
        exact c2
      refine fin false ?_ ⟨_, Eq.trans (ss_ifT (Sv.orF c1 (.orT c2')).now) (ss_ret Sv.lit.now)⟩
      unfold recB
      split
      · rename_i hh
        cases hh
        exact (hl rfl).elim
      · rfl
  | _ => exact fin false rfl ⟨_, Eq.trans (ss_ifT (Sv.orT (.not (k := false) (isi' v h rfl (by simp [ty0])))).now) (ss_ret Sv.lit.now)⟩
end
end Lib
set_option maxRecDepth 100000
set_option maxHeartbeats 4000000
/-! Plain: what is a shop -/
namespace Lib
open PySem PySem.Spec PyProof.Rows L2 CP
def firstD : D → D
  | .tup (a :: _) => a
  | _ => .non
def wordIs (w : Str) : D → Bool
  | .str x => x == w
  | _ => false
def dupB (l : List D) : Bool := l.any fun x => decide (1 < cntD x l)
def restB (nm rw st go : D) : Bool := match nm with
  | .tup ns => match rw with
    | .tup rs => (decide ((rs.length : Int) ≤ 8) && rs.all (recB ns.length)) && (!dupB (rs.map firstD) && (boundB ns.length 99 st && boundB ns.length 20 go))
    | _ => false
  | _ => false
def shopB : D → Bool
  | .tup [a, nm, rw, st, go] => wordIs "shop" a && (namesB 1 6 nm && restB nm rw st go)
  | _ => false
def shortShop : D → Prop
  | .tup [a, nm, rw, _, _] => shortD a ∧ shortT nm ∧ match rw with
    | .tup rs => ∀ r ∈ rs, short0 r
    | _ => True
  | _ => True
structure Spec2 (C : Orc) : Prop where
  names : ∀ ih d lo hi, okR ih.length d = true → shortT d → C "are_names" [d, .int lo, .int hi] ih = some (.bl (namesB lo hi d), ih)
  rcp : ∀ ih d n, okR ih.length d = true → short0 d → C "is_recipe" [d, .int n] ih = some (.bl (recB n d), ih)
  bnd : ∀ ih d n m, okR ih.length d = true → C "is_bounded" [d, .int n, .int m] ih = some (.bl (boundB n m d), ih)
section
variable {C : Orc} {fuel : Nat} {ih : IH} {env : IEnv} {a : ME} {d : D}
theorem recB_first {n : Int} {d : D} (h : recB n d = true) : flatD (firstD d) = true := by
  unfold recB at h
  split at h
  · rw [Bool.and_eq_true] at h
    exact nameB_flat h.1
  · cases h
theorem recB_tup {n : Int} {d : D} (h : recB n d = true) : ∃ a b c e, d = .tup [a, b, c, e] := by
  unfold recB at h
  split at h
  · exact ⟨_, _, _, _, rfl⟩
  · cases h
theorem sv_eqS {x : Str} {w : Str} (hv : Sv C ih env a (.str x)) (hs : SeqAt.shaped (.str x) = true) (hw : SeqAt.shaped (.str w) = true) : Sv C ih env (.cmp .ne a (.lit (.str w))) (.bl (!(x == w))) := .cmp hv .lit fun z => by
  have e1 : ∀ y : Str, SeqAt.shaped (.str y) = true → datS (ih ++ z) (.str y) = some (.str y) := fun y hy => by
    have e1 : dat (ih ++ z) 60 (.str y) = some (.str y) := rfl
    unfold datS; rw [e1]; simp only []; rw [if_pos hy]
  simp only [cmpop, eqD, e1 x hs, e1 w hw]
  rfl
theorem is_shop (S : Spec2 C) (h : okR ih.length d = true) (hs : shortShop d) : m_is_shop.run C fuel [d] ih = some (.bl (shopB d), ih) := by
  have v : Sv C ih ([d].map some ++ List.replicate 5 none) (.var 0) d := .var rfl
  have fin : ∀ b, shopB d = b → (∃ e, evSs C fuel m_is_shop.body ([d].map some ++ List.replicate 5 none) ih = some (.ret (.bl b), e, ih)) → m_is_shop.run C fuel [d] ih = some (.bl (shopB d), ih) := fun b hb he => by
    rw [hb, run_of (d := .bl b) (ih' := ih) rfl he]
    exact keep_same
  cases d with
  | tup ds =>
    have c1 : Sv C ih ([D.tup ds].map some ++ List.replicate 5 none) (.not (.isi (.var 0) "tuple")) (.bl false) := .not (k := true) (isi' v h rfl (by simp [ty0]))
    have c2 : Sv C ih ([D.tup ds].map some ++ List.replicate 5 none) (.cmp .ne (.blt .len (.cons (.var 0) .nil)) (.lit (.int 5))) (.bl (!((ds.length : Int) == 5))) := .neI (.lenT v) .lit
    by_cases hl : ds.length = 5
    · obtain ⟨a, nm, rw_, st, go, rfl⟩ : ∃ a b c e f, ds = [a, b, c, e, f] := by
        match ds, hl with
        | [a, b, c, e, f], _ => exact ⟨a, b, c, e, f, rfl⟩
      let E (l : List (Option D)) : IEnv := some (D.tup [a, nm, rw_, st, go]) :: l
      have c2' : Sv C ih (E [none, none, none, none, none]) (.cmp .ne (.blt .len (.cons (.var 0) .nil)) (.lit (.int 5))) (.bl false) := c2
      have hd := okR_tup h
      simp only [okRs, Bool.and_eq_true] at hd
      obtain ⟨ha, hnm, hrw, hst, hgo, _⟩ := hd
      obtain ⟨sa, snm, srw⟩ := hs
      have i0 : ∀ z l, Sv C (ih ++ z) (E l) (.ix (.var 0) (.lit (.int 0))) a := fun z l => .ixT (.var rfl) .lit (atI_nat (k := 0) rfl)
      have i1 : ∀ z l, Sv C (ih ++ z) (E l) (.ix (.var 0) (.lit (.int 1))) nm := fun z l => .ixT (.var rfl) .lit (atI_nat (k := 1) rfl)
      have i2 : ∀ z l, Sv C (ih ++ z) (E l) (.ix (.var 0) (.lit (.int 2))) rw_ := fun z l => .ixT (.var rfl) .lit (atI_nat (k := 2) rfl)
      have i3 : ∀ z l, Sv C (ih ++ z) (E l) (.ix (.var 0) (.lit (.int 3))) st := fun z l => .ixT (.var rfl) .lit (atI_nat (k := 3) rfl)
      have i4 : ∀ z l, Sv C (ih ++ z) (E l) (.ix (.var 0) (.lit (.int 4))) go := fun z l => .ixT (.var rfl) .lit (atI_nat (k := 4) rfl)
      have nz : ih ++ [] = ih := List.append_nil _
      have i0' : Sv C ih (E [none, none, none, none, none]) (.ix (.var 0) (.lit (.int 0))) a := by have := i0 [] [none, none, none, none, none]; rw [nz] at this; exact this
      have i1' : Sv C ih (E [none, none, none, none, none]) (.ix (.var 0) (.lit (.int 1))) nm := by have := i1 [] [none, none, none, none, none]; rw [nz] at this; exact this
      have i2' : Sv C ih (E [none, none, none, none, none]) (.ix (.var 0) (.lit (.int 2))) rw_ := by have := i2 [] [none, none, none, none, none]; rw [nz] at this; exact this
      -- the word
      cases hwd : wordIs "shop" a with
      | false =>
        refine fin false (by show (_ && _) = false; rw [hwd]; rfl) ⟨_, Eq.trans (ss_ifT (Sv.orF c1 (.orF c2' ?_)).now) (ss_ret Sv.lit.now)⟩
        cases a with
        | str x =>
          have q := sv_eqS (w := "shop") i0' sa.1 (by decide +kernel)
          have e : (!(x == ("shop" : Str))) = true := by rw [show (x == ("shop" : Str)) = false from hwd]; rfl
          rw [e] at q
          exact .orF (.not (k := true) (isi' i0' ha rfl (by simp [ty0]))) (.or1 q)
        | _ => exact .orT (.not (k := false) (isi' i0' ha rfl (by simp [ty0])))
      | true =>
        have cw : Sv C ih (E [none, none, none, none, none]) (.or (.cons (.not (.isi (.ix (.var 0) (.lit (.int 0))) "str")) (.cons (.cmp .ne (.ix (.var 0) (.lit (.int 0))) (.lit (.str "shop"))) .nil))) (.bl false) := by
          cases a with
          | str x =>
            have q := sv_eqS (w := "shop") i0' sa.1 (by decide +kernel)
            have e : (!(x == ("shop" : Str))) = false := by rw [show (x == ("shop" : Str)) = true from hwd]; rfl
            rw [e] at q
            exact .orF (.not (k := true) (isi' i0' ha rfl (by simp [ty0]))) (.or1 q)
          | _ => cases hwd
        have s1 := fun ss => ss_ifF (C := C) (fuel := fuel) (a := [.ret (.lit (.bl false))]) (b := []) (ss := ss) (Sv.orF c1 (.orF c2' cw)).now
        have cn : Sv C ih (E [none, none, none, none, none]) (.not (.call "are_names" (.cons (.ix (.var 0) (.lit (.int 1))) (.cons (.lit (.int 1)) (.cons (.glob "MOST_THINGS" (.int 6)) .nil))))) (.bl (!namesB 1 6 nm)) := .not (.call (.cons i1' (.cons .lit (.cons .glob .nil))) fun z => S.names _ _ _ _ (okR_mono (by simp) hnm) snm)
        cases hnb : namesB 1 6 nm with
        | false =>
          rw [hnb] at cn
          exact fin false (by show (_ && (_ && _)) = false; rw [hwd, hnb]; rfl) ⟨_, Eq.trans (s1 _) (Eq.trans (ss_ifT cn.now) (ss_ret Sv.lit.now))⟩
        | true =>
          rw [hnb] at cn
          cases nm with
          | tup ns =>
            have fin2 : ∀ b, restB (.tup ns) rw_ st go = b → (∃ e, evSs C fuel (m_is_shop.body.drop 2) (E [none, none, none, none, none]) ih = some (.ret (.bl b), e, ih)) → m_is_shop.run C fuel [.tup [a, .tup ns, rw_, st, go]] ih = some (.bl (shopB (.tup [a, .tup ns, rw_, st, go])), ih) := fun b hb ⟨e, he⟩ =>
              fin b (by show (_ && (_ && _)) = b; rw [hwd, hnb, hb]; rfl) ⟨e, Eq.trans (s1 _) (Eq.trans (ss_ifF cn.now) he)⟩
            have s3 := fun ss => ss_asgP (C := C) (fuel := fuel) (ss := ss) (ts := [1, 2]) (Svs.cons (.lenT i1') (.one i2')).now (env' := E [some (.int ns.length), some rw_, none, none, none]) rfl
            have vr : ∀ z, Sv C (ih ++ z) (E [some (.int ns.length), some rw_, none, none, none]) (.var 2) rw_ := fun z => .var rfl
            have vr' : Sv C ih (E [some (.int ns.length), some rw_, none, none, none]) (.var 2) rw_ := .var rfl
            cases rw_ with
            | tup rs =>
              have hrs := okR_tup hrw
              have d1 : Sv C ih (E [some (.int ns.length), some (.tup rs), none, none, none]) (.not (.isi (.var 2) "tuple")) (.bl false) := .not (k := true) (isi' vr' hrw rfl (by simp [ty0]))
              have d2 : Sv C ih (E [some (.int ns.length), some (.tup rs), none, none, none]) (.cmp .gt (.blt .len (.cons (.var 2) .nil)) (.glob "MOST_RECIPES" (.int 8))) (.bl (decide (8 < (rs.length : Int)))) := .gt (.lenT vr') .glob
              have d3 : Sv C ih (E [some (.int ns.length), some (.tup rs), none, none, none]) (.not (.gen false (.call "is_recipe" (.cons (.var 4) (.cons (.var 1) .nil))) (.name 4) (.val (.var 2)) .no [4])) (.bl (!rs.all (recB ns.length))) := .not (.all (.tup vr') fun x hx => ⟨_, rfl, .call (.cons (.var rfl) (.cons (.var rfl) .nil)) fun z => S.rcp _ _ _ (okR_mono (by simp) (okRs_mem hrs x hx)) (srw x hx)⟩)
              have dd := Sv.orF d1 (.or d2 fun _ => .or1 d3)
              cases hq : (decide ((rs.length : Int) ≤ 8) && rs.all (recB ns.length)) with
              | false =>
                have e : (decide (8 < (rs.length : Int)) || !rs.all (recB ns.length)) = true := by
                  have e1 : decide (8 < (rs.length : Int)) = !decide ((rs.length : Int) ≤ 8) := by
                    rw [Bool.eq_iff_iff]; simp
                  rw [e1, ← Bool.not_and, hq]; rfl
                rw [e] at dd
                exact fin2 false (by show (_ && _) = false; rw [hq]; rfl) ⟨_, Eq.trans (s3 _) (Eq.trans (ss_ifT dd.now) (ss_ret Sv.lit.now))⟩
              | true =>
                have e : (decide (8 < (rs.length : Int)) || !rs.all (recB ns.length)) = false := by
                  have e1 : decide (8 < (rs.length : Int)) = !decide ((rs.length : Int) ≤ 8) := by
                    rw [Bool.eq_iff_iff]; simp
                  rw [e1, ← Bool.not_and, hq]; rfl
                rw [e] at dd
                rw [Bool.and_eq_true] at hq
                have hrec := List.all_eq_true.mp hq.2
                have hlen : rs.length ≤ 8 := by have := hq.1; rw [decide_eq_true_eq] at this; omega
                let L := rs.map firstD
                have cm : evE C (.comp (.ix (.var 4) (.lit (.int 0))) (.name 4) (.val (.var 2)) .no [4]) (E [some (.int ns.length), some (.tup rs), none, none, none]) ih = some (.ref ih.length, ih ++ [.lst L]) := by
                  have := ev_comp (C := C) (p := fun _ => true) (f := firstD) (elt := .ix (.var 4) (.lit (.int 0))) (tg := .name 4) (ifs := .no) (own := [4]) (.tup vr') (by rw [sizeLine_eq]; omega) (fun x hx => ⟨E [some (.int ns.length), some (.tup rs), none, some x, none], rfl, .no, fun _ => by
                    obtain ⟨a', b', c', e', rfl⟩ := recB_tup (hrec x hx)
                    exact .ixT (.var rfl) .lit (atI_nat (k := 0) rfl)⟩) []
                  rw [nz] at this
                  rw [this]
                  have ef : List.filter (fun _ => true) rs = rs := by simp
                  rw [ef]
                have s5 := fun ss => ss_asg (C := C) (fuel := fuel) (ss := ss) (t := .name 3) cm (env' := E [some (.int ns.length), some (.tup rs), some (.ref ih.length), none, none]) rfl
                have fl : L.all flatD = true := List.all_eq_true.mpr fun x hx => by
                  obtain ⟨y, hy, rfl⟩ := List.mem_map.mp hx
                  exact recB_first (hrec y hy)
                have hlst : ∀ z, lstAt ((ih ++ [.lst L]) ++ z) ih.length = some L := fun z => at_more lstAt_last z
                have cd : Sv C (ih ++ [.lst L]) (E [some (.int ns.length), some (.tup rs), some (.ref ih.length), none, none]) (.gen true (.cmp .gt (.meth .count (.var 3) (.cons (.var 5) .nil)) (.lit (.int 1))) (.name 5) (.val (.var 3)) .no [5]) (.bl (dupB L)) := by
                  refine .any (.ref (n := ih.length) (.var rfl) lstAt_last) fun x hx => ⟨E [some (.int ns.length), some (.tup rs), some (.ref ih.length), none, some x], rfl, ?_⟩
                  have hx' := List.all_eq_true.mp fl x hx
                  have := Sv.gt (C := C) (ih := ih ++ [.lst L]) (env := E [some (.int ns.length), some (.tup rs), some (.ref ih.length), none, some x]) (a := .meth .count (.var 3) (.cons (.var 5) .nil)) (b := .lit (.int 1)) (i := (cntD x L : Nat)) (j := 1) (.meth (x := .ref ih.length) (.var rfl) (.one (.var rfl)) fun z => by
                    simp only [methop, seqOf, lstOf, hlst, hx', fl, Bool.and_self, if_true]) .lit
                  have e : decide ((1 : Int) < (cntD x L : Nat)) = decide (1 < cntD x L) := by
                    rw [Bool.eq_iff_iff]; simp; omega
                  rw [e] at this
                  exact this
                cases hdup : dupB L with
                | true =>
                  rw [hdup] at cd
                  have r : m_is_shop.run C fuel [.tup [a, .tup ns, .tup rs, st, go]] ih = keepH ih (some (.bl false, ih ++ [.lst L])) := run_of rfl ⟨_, Eq.trans (s1 _) (Eq.trans (ss_ifF cn.now) (Eq.trans (s3 _) (Eq.trans (ss_ifF dd.now) (Eq.trans (s5 _) (Eq.trans (ss_ifT cd.now) (ss_ret Sv.lit.now))))))⟩
                  rw [r, keep_pure rfl List.take_left]
                  have e : shopB (.tup [a, .tup ns, .tup rs, st, go]) = false := by
                    show (_ && (_ && ((_ && _) && (!dupB L && _)))) = false
                    rw [hdup]
                    simp
                  rw [e]
                | false =>
                  rw [hdup] at cd
                  have b1 : Sv C (ih ++ [.lst L]) (E [some (.int ns.length), some (.tup rs), some (.ref ih.length), none, none]) (.call "is_bounded" (.cons (.ix (.var 0) (.lit (.int 3))) (.cons (.var 1) (.cons (.glob "MOST_STOCK" (.int 99)) .nil)))) (.bl (boundB ns.length 99 st)) := .call (.cons (i3 _ _) (.cons (.var rfl) (.cons .glob .nil))) fun z => S.bnd _ _ _ _ (okR_mono (by simp) hst)
                  have b2 : Sv C (ih ++ [.lst L]) (E [some (.int ns.length), some (.tup rs), some (.ref ih.length), none, none]) (.call "is_bounded" (.cons (.ix (.var 0) (.lit (.int 4))) (.cons (.var 1) (.cons (.glob "MOST_GOAL" (.int 20)) .nil)))) (.bl (boundB ns.length 20 go)) := .call (.cons (i4 _ _) (.cons (.var rfl) (.cons .glob .nil))) fun z => S.bnd _ _ _ _ (okR_mono (by simp) hgo)
                  have r : m_is_shop.run C fuel [.tup [a, .tup ns, .tup rs, st, go]] ih = keepH ih (some (.bl (boundB ns.length 99 st && boundB ns.length 20 go), ih ++ [.lst L])) := run_of rfl ⟨_, Eq.trans (s1 _) (Eq.trans (ss_ifF cn.now) (Eq.trans (s3 _) (Eq.trans (ss_ifF dd.now) (Eq.trans (s5 _) (Eq.trans (ss_ifF cd.now) (ss_ret (Sv.and b1 fun _ => .and1 b2).now))))))⟩
                  rw [r, keep_pure rfl List.take_left]
                  have e : shopB (.tup [a, .tup ns, .tup rs, st, go]) = (boundB ns.length 99 st && boundB ns.length 20 go) := by
                    show (wordIs "shop" a && (namesB 1 6 (.tup ns) && ((decide ((rs.length : Int) ≤ 8) && rs.all (recB ns.length)) && (!dupB L && (boundB ns.length 99 st && boundB ns.length 20 go))))) = _
                    rw [hdup, hwd, hnb, hq.1, hq.2]
                    simp
                  rw [e]
            | _ => exact fin2 false rfl ⟨_, Eq.trans (s3 _) (Eq.trans (ss_ifT (Sv.orT (.not (k := false) (isi' vr' hrw rfl (by simp [ty0])))).now) (ss_ret Sv.lit.now))⟩
          | _ => cases hnb
    · have c2' : Sv C ih ([D.tup ds].map some ++ List.replicate 5 none) (.cmp .ne (.blt .len (.cons (.var 0) .nil)) (.lit (.int 5))) (.bl true) := by
        have e : (!((ds.length : Int) == 5)) = true := by
          rw [Bool.not_eq_true', beq_eq_false_iff_ne]
          omega
        rw [e] at c2
        exact c2
      refine fin false ?_ ⟨_, Eq.trans (ss_ifT (Sv.orF c1 (.orT c2')).now) (ss_ret Sv.lit.now)⟩
      unfold shopB
      split
      · rename_i hh
        cases hh
        exact (hl rfl).elim
      · rfl
  | _ => exact fin false rfl ⟨_, Eq.trans (ss_ifT (Sv.orT (.not (k := false) (isi' v h rfl (by simp [ty0])))).now) (ss_ret Sv.lit.now)⟩
end
end Lib
set_option maxRecDepth 100000
set_option maxHeartbeats 4000000
/-! Plain: the defs in a row; drawn shops are shops -/
namespace Lib
open PySem PySem.Spec PyProof.Rows L2 CP
abbrev Fd (P : List MDef) (f : Str) (m : MDef) : Prop := P.find? (fun d => d.name == f) = some m
structure HasShop (P : List MDef) : Prop where
  num : Fd P "is_number" m_is_number
  row : Fd P "is_row" m_is_row
  word : Fd P "is_word" m_is_word
  name : Fd P "is_name" m_is_name
  names : Fd P "are_names" m_are_names
  bnd : Fd P "is_bounded" m_is_bounded
  rcp : Fd P "is_recipe" m_is_recipe
  shop : Fd P "is_shop" m_is_shop
section
variable {P : List MDef} {fuel : Nat} (H : HasShop P)
include H
theorem HasShop.num' (n : Nat) (ih : IH) (d : D) (lo : Int) (h : okR ih.length d = true) : callN P fuel (n + 1) "is_number" [d, .int lo] ih = some (.bl (numB lo d), ih) := by
  rw [callN_eq H.num]; exact is_number lo h
theorem HasShop.row' (n : Nat) (ih : IH) (d : D) (k : Int) (h : okR ih.length d = true) : callN P fuel (n + 2) "is_row" [d, .int k] ih = some (.bl (rowB k d), ih) := by
  rw [callN_eq H.row]; exact is_row (H.num' n) h
theorem HasShop.bnd' (n : Nat) (ih : IH) (d : D) (k m : Int) (h : okR ih.length d = true) : callN P fuel (n + 3) "is_bounded" [d, .int k, .int m] ih = some (.bl (boundB k m d), ih) := by
  rw [callN_eq H.bnd]; exact is_bounded (H.row' n) h
theorem HasShop.word' (n : Nat) (ih : IH) (d : D) (h : okR ih.length d = true) (hs : shortD d) : callN P fuel (n + 1) "is_word" [d] ih = some (.bl (wordB d), ih) := by
  rw [callN_eq H.word]; exact is_word h hs
theorem HasShop.name' (n : Nat) (ih : IH) (d : D) (h : okR ih.length d = true) (hs : shortD d) : callN P fuel (n + 2) "is_name" [d] ih = some (.bl (nameB d), ih) := by
  rw [callN_eq H.name]; exact is_name (H.word' n) h hs
theorem HasShop.names' (n : Nat) (ih : IH) (d : D) (lo hi : Int) (h : okR ih.length d = true) (hs : shortT d) : callN P fuel (n + 3) "are_names" [d, .int lo, .int hi] ih = some (.bl (namesB lo hi d), ih) := by
  rw [callN_eq H.names]; exact are_names (H.name' n) h hs
theorem HasShop.rcp' (n : Nat) (ih : IH) (d : D) (k : Int) (h : okR ih.length d = true) (hs : short0 d) : callN P fuel (n + 4) "is_recipe" [d, .int k] ih = some (.bl (recB k d), ih) := by
  rw [callN_eq H.rcp]; exact is_recipe ⟨H.num' (n + 2), H.name' (n + 1), H.bnd' n⟩ h hs
theorem HasShop.shop' (n : Nat) (ih : IH) (d : D) (h : okR ih.length d = true) (hs : shortShop d) : callN P fuel (n + 5) "is_shop" [d] ih = some (.bl (shopB d), ih) := by
  rw [callN_eq H.shop]; exact is_shop ⟨H.names' (n + 1), H.rcp' n, H.bnd' (n + 1)⟩ h hs
end
structure HasDraws (P : List MDef) : Prop where
  cell : Fd P "_law_cell" m__law_cell
  draws : Fd P "_law_draws" m__law_draws
  shop : Fd P "_law_shop" m__law_shop
/-! ### drawn shops -/
theorem okR_pure {n : Nat} : ∀ {d : D}, d.pure = true → okR n d = true := by
  intro d
  induction d using D.rec (motive_2 := fun ds => D.pures ds = true → okRs n ds = true) with
  | non => intro _; rfl
  | bl _ => intro _; rfl
  | int _ => intro _; rfl
  | str _ => intro _; rfl
  | tup ds ih => intro h; unfold okR; exact ih (by simpa [D.pure] using h)
  | rol ds ih => intro h; unfold okR; exact ih (by simpa [D.pure] using h)
  | ref k => intro h; simp [D.pure] at h
  | nil => rename_i h; rfl
  | cons d ds h1 h2 =>
    rename_i h
    unfold D.pures at h
    rw [Bool.and_eq_true] at h
    unfold okRs
    rw [h1 h.1, h2 h.2]; rfl
theorem okRs_pures {n : Nat} {ds : List D} (h : D.pures ds = true) : okRs n ds = true := by
  have : (D.tup ds).pure = true := by unfold D.pure; exact h
  exact okR_tup (okR_pure this)
theorem short_str {x : Str} (h : SeqAt.shaped (.str x) = true) (h2 : x.length ≤ 1000) : shortD (.str x) := ⟨h, h2⟩
def shortB (x : Str) : Bool := SeqAt.shaped (.str x) && decide (x.length ≤ 1000)
theorem shortB_ok {x : Str} (h : shortB x = true) : shortD (.str x) := by
  unfold shortB at h
  rw [Bool.and_eq_true, decide_eq_true_eq] at h
  exact h
theorem names6_ok : ∀ x ∈ names6, nameS x = true ∧ shortB x = true := by decide +kernel
theorem titles8_ok : ∀ x ∈ titles8, nameS x = true ∧ shortB x = true := by decide +kernel
theorem names6_once : ∀ k : Fin 7, ((names6.take k).map D.str).all (fun x => cntD x ((names6.take k).map D.str) == 1) = true := by decide +kernel
theorem titles8_dup : ∀ k : Fin 9, dupB ((titles8.take k).map D.str) = false := by decide +kernel
theorem all_map {α : Type} {f : α → D} {p : D → Bool} {l : List α} (h : ∀ x ∈ l, p (f x) = true) : (l.map f).all p = true := by
  rw [List.all_eq_true]
  intro y hy
  obtain ⟨x, hx, rfl⟩ := List.mem_map.mp hy
  exact h x hx
theorem boundB_tup {n m : Int} {ds : List D} : boundB n m (.tup ds) = ((((ds.length : Int) == n) && ds.all (numB 0)) && ds.all (leB m)) := rfl
theorem namesB_tup {lo hi : Int} {ds : List D} : namesB lo hi (.tup ds) = ((decide (lo ≤ ds.length) && decide ((ds.length : Int) ≤ hi)) && (ds.all nameB && ds.all fun x => cntD x ds == 1)) := rfl
theorem bound_ok {l : List Int} {n : Nat} {hi : Int} {m : Int} (hl : l.length = n) (h : In 0 hi l) (hm : hi ≤ m) : boundB n m (.tup (l.map .int)) = true := by
  have e1 : (l.map D.int).all (numB 0) = true := all_map fun x hx => by
    have := (h x hx).1
    simpa [numB] using this
  have e2 : (l.map D.int).all (leB m) = true := all_map fun x hx => by
    have := (h x hx).2
    simp only [leB, decide_eq_true_eq]
    omega
  rw [boundB_tup]
  rw [e1, e2, List.length_map, hl]
  simp
theorem bound_bad {ds : List D} {n m : Int} {v : D} (hv : v ∈ ds) (h : (numB 0 v && leB m v) = false) : boundB n m (.tup ds) = false := by
  rw [boundB_tup]
  rw [Bool.eq_false_iff]
  intro q
  simp only [Bool.and_eq_true, List.all_eq_true] at q
  have h1 := q.1.2 v hv
  have h2 := q.2 v hv
  rw [h1, h2] at h
  cases h
theorem bound_len {ds : List D} {n m : Int} (h : (ds.length : Int) ≠ n) : boundB n m (.tup ds) = false := by
  rw [boundB_tup]
  have : ((ds.length : Int) == n) = false := beq_eq_false_iff_ne.mpr h
  rw [this]; rfl
section
variable {things recipes : Nat} {s : Shop}
theorem ShopOk.mem (h : ShopOk things recipes s) {x : Str} (hx : x ∈ s.names) : x ∈ names6 := by
  rw [h.names] at hx
  exact List.mem_of_mem_take hx
theorem ShopOk.rec_ok (h : ShopOk things recipes s) (hr : recipes ≤ 8) {r : Rec} (hx : r ∈ s.rows) : recB s.names.length r.d = true ∧ r.title ∈ titles8 := by
  obtain ⟨i, hi⟩ := List.mem_iff_getElem?.mp hx
  have o := h.each i r hi
  have ht : r.title ∈ titles8 := List.mem_of_getElem? o.title
  refine ⟨?_, ht⟩
  show (nameS r.title && ((boundB _ 9 _ && boundB _ 9 _) && (decide (0 ≤ r.cost) && decide (r.cost ≤ 9)))) = true
  rw [(titles8_ok _ ht).1, bound_ok o.nl o.nb (by decide), bound_ok o.gl o.gb (by decide)]
  have := o.cost
  simp
  omega
theorem ShopOk.titles (h : ShopOk things recipes s) : s.rows.map (fun r => firstD r.d) = (titles8.take s.rows.length).map D.str := by
  apply List.ext_getElem?
  intro i
  rw [List.getElem?_map, List.getElem?_map]
  cases hi : s.rows[i]? with
  | none =>
    have : s.rows.length ≤ i := List.getElem?_eq_none_iff.mp hi
    rw [List.getElem?_take_eq_none this]
    rfl
  | some r =>
    have o := h.each i r hi
    have hl : i < s.rows.length := (List.getElem?_eq_some_iff.mp hi).1
    rw [List.getElem?_take_of_lt hl, o.title]
    rfl
theorem ShopOk.nmB (h : ShopOk things recipes s) (ht : things ≤ 6) : namesB 1 6 (.tup (s.names.map .str)) = true := by
  have h1 := h.lo
  have h2 := h.hi
  have e1 : (s.names.map D.str).all nameB = true := all_map fun x hx => (names6_ok x (h.mem hx)).1
  have e2 := names6_once ⟨s.names.length, by omega⟩
  simp only at e2
  rw [← h.names] at e2
  rw [namesB_tup]
  rw [e1, e2, List.length_map]
  simp
  omega
theorem ShopOk.short (h : ShopOk things recipes s) : shortT (.tup (s.names.map .str)) := fun x hx => by
  obtain ⟨y, hy, rfl⟩ := List.mem_map.mp hx
  exact shortB_ok (names6_ok y (h.mem hy)).2
end
end Lib
set_option maxRecDepth 100000
set_option maxHeartbeats 4000000
/-! Plain: more reckoning -/
namespace Lib
open PySem PySem.Spec PyProof.Rows L2 CP
theorem keep_ex {ih z : IH} {d : D} : ∃ w, keepH ih (some (d, z)) = some (d, w) := by
  unfold keepH
  simp only
  split
  · exact ⟨_, rfl⟩
  · exact ⟨_, rfl⟩
/-- one item exchanged -/
def putAt (l : List D) (k : Nat) (v : D) : List D := l.take k ++ [v] ++ l.drop (k + 1)
theorem putAt_mem {l : List D} {k : Nat} {v : D} : v ∈ putAt l k v := by simp [putAt]
theorem putAt_all {l : List D} {k : Nat} {v : D} {p : D → Prop} (h : ∀ x ∈ l, p x) (hv : p v) : ∀ x ∈ putAt l k v, p x := fun x hx => by
  unfold putAt at hx
  rcases List.mem_append.mp hx with hx | hx
  · rcases List.mem_append.mp hx with hx | hx
    · exact h x (List.mem_of_mem_take hx)
    · rw [List.mem_singleton.mp hx]; exact hv
  · exact h x (List.mem_of_mem_drop hx)
theorem cut_take {α : Type} {l : List α} {k : Nat} (h : k ≤ l.length) : cutL l none (some (k : Int)) = l.take k := by
  unfold cutL
  rw [HT.sIx_none, HT.sIx_nat, List.drop_zero, Nat.sub_zero, Nat.min_eq_left h]
theorem cut_drop {α : Type} {l : List α} {k : Nat} (h : k ≤ l.length) : cutL l (some (k : Int)) none = l.drop k := by
  unfold cutL
  rw [HT.sIx_none, HT.sIx_nat, Nat.min_eq_left h]
  apply List.take_of_length_le
  rw [List.length_drop]
  omega
theorem cut_init {α : Type} {l : List α} {x : α} : cutL (l ++ [x]) none (some (-1)) = l := by
  have e : HT.sIx (l ++ [x]).length (l ++ [x]).length (some (-1)) = l.length := by
    rw [List.length_append]
    simp [HT.sIx]
    omega
  unfold cutL
  rw [HT.sIx_none, e, List.drop_zero, Nat.sub_zero]
  simp
section
variable {C : Orc} {fuel : Nat} {ih Z : IH} {env : IEnv} {a b c e x : ME} {ss : List MS}
theorem sl_take {l : List D} {k : Nat} {i : Int} (ha : Sv C ih env a (.tup l)) (hb : Sv C ih env b (.int i)) (hi : i = k) (h : k ≤ l.length) : Sv C ih env (.sl a .no (.yes b)) (.tup (l.take k)) := by
  rw [← cut_take h, ← hi]
  exact .slT ha .no (.yes hb)
theorem sl_drop {l : List D} {k : Nat} {i : Int} (ha : Sv C ih env a (.tup l)) (hb : Sv C ih env b (.int i)) (hi : i = k) (h : k ≤ l.length) : Sv C ih env (.sl a (.yes b) .no) (.tup (l.drop k)) := by
  rw [← cut_drop h, ← hi]
  exact .slT ha (.yes hb) .no
theorem sv_putAt {l : List D} {k j : Nat} {v : D} (ha : Sv C ih env a (.tup l)) (hx : Sv C ih env x v) (hj : env[j]? = some (some (.int k))) (hk : k < l.length) (hl : l.length ≤ 1000) :
    Sv C ih env (.bin .add (.bin .add (.sl a .no (.yes (.var j))) (.tup (.cons x .nil))) (.sl a (.yes (.bin .add (.var j) (.lit (.int 1)))) .no)) (.tup (putAt l k v)) := by
  have h1 := sl_take (b := .var j) ha (.var hj) rfl (Nat.le_of_lt hk)
  have h2 := sl_drop (b := .bin .add (.var j) (.lit (.int 1))) (k := k + 1) ha (.add (.var hj) .lit) (by omega) (by omega)
  refine .cat (.cat h1 (.tup (.one hx)) ?_) h2 ?_
  · rw [sizeLine_eq, List.length_take]
    simp only [List.length_cons, List.length_nil]
    omega
  · rw [sizeLine_eq]
    simp only [List.length_append, List.length_take, List.length_drop, List.length_cons, List.length_nil]
    omega
/-- (x,) * n -/
theorem sv_rep1 {d : D} {n : Nat} (ha : Sv C ih env a (.tup [d])) (hb : Sv C ih env b (.int n)) (hn : n ≤ 1000) : Sv C ih env (.bin .mul a b) (.tup (List.replicate n d)) := by
  have := Sv.rep ha hb ⟨by omega, by omega, by simp⟩
  rw [Int.toNat_natCast, flat_one] at this
  exact this
/-! lists in a display -/
theorem evs_pure {d : D} {z w : IH} {es : MEs} {ds : List D} (h : Sv C ih env e d) (hr : evEs C es env (ih ++ z) = some (ds, w)) : evEs C (.cons e es) env (ih ++ z) = some (d :: ds, w) := by
  simp only [evEs, h z, hr]
theorem ev_listOf {z : IH} {xs : List D} (h : Sv C ih env a (.tup xs)) : evE C (.blt .list (.cons a .nil)) env (ih ++ z) = some (.ref (ih ++ z).length, (ih ++ z) ++ [.lst xs]) := by
  have h1 : evEs C (.cons a .nil) env (ih ++ z) = some ([.tup xs], ih ++ z) := by simp only [evEs, h z]
  have : evE C (.blt .list (.cons a .nil)) env (ih ++ z) = keepH (ih ++ z) (some (.ref (ih ++ z).length, (ih ++ z) ++ [.lst xs])) := by
    simp only [evE, h1, bltop, blt1, seqOf, Option.map_some]
  rw [this]
  unfold keepH
  simp [D.pure]
theorem evs_any {d : D} {z w w' : IH} {es : MEs} {ds : List D} (h : evE C e env z = some (d, w)) (hr : evEs C es env w = some (ds, w')) : evEs C (.cons e es) env z = some (d :: ds, w') := by
  simp only [evEs, h, hr]
theorem evs_nil {z : IH} : evEs C .nil env z = some ([], z) := by simp only [evEs]
/-- a + [..] -/
theorem ev_more {i n m : Nat} {xs ys : List D} {w : IH} (hi : env[i]? = some (some (.ref n))) (he : evE C e env ih = some (.ref m, w)) (hx : lstAt w n = some xs) (hy : lstAt w m = some ys) (hz : xs.length + ys.length ≤ 1000) : evE C (.bin .add (.var i) e) env ih = some (.ref w.length, w ++ [.lst (xs ++ ys)]) := by
  have : xs.length + ys.length ≤ sizeLine := by rw [sizeLine_eq]; omega
  simp only [evE, hi, he, binop, hx, hy, if_pos this]
theorem ev_disp {es : MEs} {ds : List D} {w : IH} (h : evEs C es env ih = some (ds, w)) (hz : ds.length ≤ 1000) : evE C (.lst es) env ih = some (.ref w.length, w ++ [.lst ds]) := by
  have : ds.length ≤ sizeLine := by rw [sizeLine_eq]; omega
  simp only [evE, h, if_pos this]
/-- a loop that lays one item each turn -/
theorem for_map {body : IEnv → IH → Option (Ctl × IEnv × IH)} {t : MT} {items : List D} {Ev : Option D → Option D → IEnv} (f g : D → D) : ∀ (xs : List D), (∀ x ∈ xs, ∀ a b acc, asgT t x (Ev a b) = some (Ev (some x) b) ∧ (acc.length ≤ 1000 → body (Ev (some x) b) (Z ++ [.lst acc]) = some (.next, Ev (some x) (some (g x)), Z ++ [.lst (acc ++ [f x])]))) →
    ∀ a b acc, acc.length + xs.length ≤ 1000 → ∃ a' b', forLoop body t ⟨items, []⟩ xs (Ev a b) (Z ++ [.lst acc]) = some (.next, Ev a' b', Z ++ [.lst (acc ++ xs.map f)])
  | [], _, a, b, acc, _ => ⟨a, b, by
      unfold forLoop
      rw [if_pos (show Walk.ok ⟨items, []⟩ _ = true from rfl)]
      simp⟩
  | x :: xs, h, a, b, acc, hz => by
    obtain ⟨h1, h2⟩ := h x List.mem_cons_self a b acc
    rw [List.length_cons] at hz
    obtain ⟨a', b', r⟩ := for_map (items := items) f g xs (fun y hy => h y (List.mem_cons_of_mem _ hy)) (some x) (some (g x)) (acc ++ [f x]) (by rw [List.length_append, List.length_singleton]; omega)
    refine ⟨a', b', ?_⟩
    unfold forLoop
    rw [if_pos (show Walk.ok ⟨items, []⟩ _ = true from rfl)]
    simp only [h1, h2 (by omega), r, List.append_assoc, List.map_cons, List.singleton_append]
/-- any(..), all(..) of a list of bools -/
theorem bools_map {α : Type} (q : α → Bool) : ∀ xs : List α, boolsOf (xs.map fun x => D.bl (q x)) = some (xs.map q)
  | [] => rfl
  | x :: xs => by simp [boolsOf, bools_map q xs]
theorem sv_anyL {it : MI} {elt : ME} {tg : MT} {own : List Nat} {q : D → Bool} {xs : List D} (hi : Svi C ih env it xs) (hz : xs.length ≤ 1000)
    (h : ∀ x ∈ xs, ∃ env1, asgT tg x (wipeE env own) = some env1 ∧ Sv C ih env1 elt (.bl (q x))) : Sv C ih env (.blt .any (.cons (.comp elt tg it .no own) .nil)) (.bl (xs.any q)) := by
  have e : xs.filter (fun _ => true) = xs := by simp
  refine .bltComp (p := fun _ => true) (f := fun x => .bl (q x)) hi (by rw [sizeLine_eq]; omega) (fun x hx => let ⟨env1, h1, h2⟩ := h x hx; ⟨env1, h1, .no, fun _ => h2⟩) rfl fun z => ?_
  rw [e]
  simp only [bltop, blt1, lstOf, lstAt_last, Option.bind_some, bools_map, Option.map_some]
  rw [List.any_map]
  rfl
theorem sv_allL {it : MI} {elt : ME} {tg : MT} {own : List Nat} {q : D → Bool} {xs : List D} (hi : Svi C ih env it xs) (hz : xs.length ≤ 1000)
    (h : ∀ x ∈ xs, ∃ env1, asgT tg x (wipeE env own) = some env1 ∧ Sv C ih env1 elt (.bl (q x))) : Sv C ih env (.blt .all (.cons (.comp elt tg it .no own) .nil)) (.bl (xs.all q)) := by
  have e : xs.filter (fun _ => true) = xs := by simp
  refine .bltComp (p := fun _ => true) (f := fun x => .bl (q x)) hi (by rw [sizeLine_eq]; omega) (fun x hx => let ⟨env1, h1, h2⟩ := h x hx; ⟨env1, h1, .no, fun _ => h2⟩) rfl fun z => ?_
  rw [e]
  simp only [bltop, blt1, lstOf, lstAt_last, Option.bind_some, bools_map, Option.map_some]
  rw [List.all_map]
  rfl
/-- [f(x) for x in ..] -/
theorem ev_compM {it : MI} {elt : ME} {tg : MT} {own : List Nat} {f : D → D} {xs : List D} {z : IH} (hi : Svi C ih env it xs) (hz : xs.length ≤ 1000) (h : ∀ x ∈ xs, ∃ env1, asgT tg x (wipeE env own) = some env1 ∧ Sv C ih env1 elt (f x)) :
    evE C (.comp elt tg it .no own) env (ih ++ z) = some (.ref (ih ++ z).length, (ih ++ z) ++ [.lst (xs.map f)]) := by
  have e : xs.filter (fun _ => true) = xs := by simp
  have := ev_comp (C := C) (p := fun _ => true) (f := f) (ifs := .no) hi (by rw [sizeLine_eq]; omega) (fun x hx => let ⟨env1, h1, h2⟩ := h x hx; ⟨env1, h1, .no, fun _ => h2⟩) z
  rw [e] at this
  exact this
end
end Lib
set_option maxHeartbeats 0
namespace K01
open PySem PySem.Spec PyProof.Rows L2 CP
def m_is_number : MDef := { name := "is_number", params := 2, size := 2, body := [
    .ret (.and (.cons (.isi (.var 0) "int") (.cons (.not (.isi (.var 0) "bool")) (.cons (.cmp .ge (.var 0) (.var 1)) .nil))))] }
abbrev N_is_number : List Str := ["thing", "least"]
def m_is_row : MDef := { name := "is_row", params := 2, size := 3, body := [
    .ret (.and (.cons (.isi (.var 0) "tuple") (.cons (.cmp .eq (.blt .len (.cons (.var 0) .nil)) (.var 1)) (.cons (.gen false (.call "is_number" (.cons (.var 2) (.cons (.lit (.int 0)) .nil))) (.name 2) (.val (.var 0)) .no [2]) .nil))))] }
abbrev N_is_row : List Str := ["thing", "size", "one"]
def m_is_word : MDef := { name := "is_word", params := 1, size := 2, body := [
    .ifs (.or (.cons (.not (.isi (.var 0) "str")) (.cons (.cmp .eq (.var 0) (.lit (.str ""))) (.cons (.cmp .notIn (.ix (.var 0) (.lit (.int 0))) (.glob "SMALL" (.str "abcdefghijklmnopqrstuvwxyz"))) .nil)))) [
      .ret (.lit (.bl false))] [],
    .ret (.gen false (.or (.cons (.cmp .isIn (.var 1) (.glob "SMALL" (.str "abcdefghijklmnopqrstuvwxyz"))) (.cons (.cmp .isIn (.var 1) (.glob "FIGURES" (.str "0123456789"))) .nil))) (.name 1) (.val (.var 0)) .no [1])] }
abbrev N_is_word : List Str := ["thing", "sign"]
def m_is_name : MDef := { name := "is_name", params := 1, size := 1, body := [
    .ret (.and (.cons (.call "is_word" (.cons (.var 0) .nil)) (.cons (.cmp .le (.blt .len (.cons (.var 0) .nil)) (.lit (.int 10))) (.cons (.cmp .notIn (.var 0) (.glob "CLOSED" (.tup [(.str "let"), (.str "things"), (.str "class"), (.str "recipe"), (.str "stock"), (.str "goal"), (.str "cost"), (.str "with"), (.str "any"), (.str "had"), (.str "out"), (.str "no"), (.str "all"), (.str "until"), (.str "skip"), (.str "end")]))) .nil))))] }
abbrev N_is_name : List Str := ["thing"]
def m_are_names : MDef := { name := "are_names", params := 3, size := 4, body := [
    .ifs (.or (.cons (.not (.isi (.var 0) "tuple")) (.cons (.not (.chain .le .le (.var 1) (.blt .len (.cons (.var 0) .nil)) (.var 2))) .nil))) [
      .ret (.lit (.bl false))] [],
    .ret (.and (.cons (.gen false (.call "is_name" (.cons (.var 3) .nil)) (.name 3) (.val (.var 0)) .no [3]) (.cons (.gen false (.cmp .eq (.meth .count (.var 0) (.cons (.var 3) .nil)) (.lit (.int 1))) (.name 3) (.val (.var 0)) .no [3]) .nil)))] }
abbrev N_are_names : List Str := ["thing", "least", "most", "one"]
def m_is_bounded : MDef := { name := "is_bounded", params := 3, size := 4, body := [
    .ret (.and (.cons (.call "is_row" (.cons (.var 0) (.cons (.var 1) .nil))) (.cons (.gen false (.cmp .le (.var 3) (.var 2)) (.name 3) (.val (.var 0)) .no [3]) .nil)))] }
abbrev N_is_bounded : List Str := ["thing", "size", "most", "one"]
def m_is_recipe : MDef := { name := "is_recipe", params := 2, size := 2, body := [
    .ifs (.or (.cons (.not (.isi (.var 0) "tuple")) (.cons (.cmp .ne (.blt .len (.cons (.var 0) .nil)) (.lit (.int 4))) (.cons (.not (.call "is_name" (.cons (.ix (.var 0) (.lit (.int 0))) .nil))) .nil)))) [
      .ret (.lit (.bl false))] [],
    .ifs (.or (.cons (.not (.call "is_bounded" (.cons (.ix (.var 0) (.lit (.int 1))) (.cons (.var 1) (.cons (.glob "MOST_EACH" (.int 9)) .nil))))) (.cons (.not (.call "is_bounded" (.cons (.ix (.var 0) (.lit (.int 2))) (.cons (.var 1) (.cons (.glob "MOST_EACH" (.int 9)) .nil))))) .nil))) [
      .ret (.lit (.bl false))] [],
    .ret (.and (.cons (.call "is_number" (.cons (.ix (.var 0) (.lit (.int 3))) (.cons (.lit (.int 0)) .nil))) (.cons (.cmp .le (.ix (.var 0) (.lit (.int 3))) (.glob "MOST_EACH" (.int 9))) .nil)))] }
abbrev N_is_recipe : List Str := ["thing", "size"]
def m_is_shop : MDef := { name := "is_shop", params := 1, size := 6, body := [
    .ifs (.or (.cons (.not (.isi (.var 0) "tuple")) (.cons (.cmp .ne (.blt .len (.cons (.var 0) .nil)) (.lit (.int 5))) (.cons (.not (.isi (.ix (.var 0) (.lit (.int 0))) "str")) (.cons (.cmp .ne (.ix (.var 0) (.lit (.int 0))) (.lit (.str "shop"))) .nil))))) [
      .ret (.lit (.bl false))] [],
    .ifs (.not (.call "are_names" (.cons (.ix (.var 0) (.lit (.int 1))) (.cons (.lit (.int 1)) (.cons (.glob "MOST_THINGS" (.int 6)) .nil))))) [
      .ret (.lit (.bl false))] [],
    .asgP [1, 2] (.cons (.blt .len (.cons (.ix (.var 0) (.lit (.int 1))) .nil)) (.cons (.ix (.var 0) (.lit (.int 2))) .nil)),
    .ifs (.or (.cons (.not (.isi (.var 2) "tuple")) (.cons (.cmp .gt (.blt .len (.cons (.var 2) .nil)) (.glob "MOST_RECIPES" (.int 8))) (.cons (.not (.gen false (.call "is_recipe" (.cons (.var 4) (.cons (.var 1) .nil))) (.name 4) (.val (.var 2)) .no [4])) .nil)))) [
      .ret (.lit (.bl false))] [],
    .asg (.name 3) (.comp (.ix (.var 4) (.lit (.int 0))) (.name 4) (.val (.var 2)) .no [4]),
    .ifs (.gen true (.cmp .gt (.meth .count (.var 3) (.cons (.var 5) .nil)) (.lit (.int 1))) (.name 5) (.val (.var 3)) .no [5]) [
      .ret (.lit (.bl false))] [],
    .ret (.and (.cons (.call "is_bounded" (.cons (.ix (.var 0) (.lit (.int 3))) (.cons (.var 1) (.cons (.glob "MOST_STOCK" (.int 99)) .nil)))) (.cons (.call "is_bounded" (.cons (.ix (.var 0) (.lit (.int 4))) (.cons (.var 1) (.cons (.glob "MOST_GOAL" (.int 20)) .nil)))) .nil)))] }
abbrev N_is_shop : List Str := ["thing", "size", "rows", "names", "row", "name"]
def m__law_cell : MDef := { name := "_law_cell", params := 2, size := 2, body := [
    .ifs (.cmp .lt (.var 1) (.blt .len (.cons (.var 0) .nil))) [
      .ret (.ix (.var 0) (.var 1))] [],
    .ret (.lit (.int 0))] }
abbrev N__law_cell : List Str := ["script", "k"]
def m__law_draws : MDef := { name := "_law_draws", params := 2, size := 6, body := [
    .asg (.name 2) (.lst .nil),
    .asg (.name 3) (.blt .int (.cons (.var 0) .nil)),
    .for_ (.name 4) (.range (.cons (.var 1) .nil)) [
      .asg (.name 5) (.bin .mod (.blt .int (.cons (.bin .add (.bin .add (.bin .mul (.var 0) (.lit (.int 48271))) (.bin .mul (.var 4) (.lit (.int 69621)))) (.lit (.int 1))) .nil)) (.lit (.int 2147483647))),
      .ifs (.and (.cons (.cmp .ge (.var 0) (.bin .pow (.lit (.int 10)) (.lit (.int 18)))) (.cons (.cmp .gt (.var 3) (.lit (.int 0))) .nil))) [
        .expr (.meth .append (.var 2) (.cons (.bin .mod (.var 3) (.lit (.int 1009))) .nil)),
        .asg (.name 3) (.bin .fdiv (.var 3) (.lit (.int 1009)))] [
        .expr (.meth .append (.var 2) (.cons (.bin .fdiv (.bin .mod (.blt .int (.cons (.bin .add (.bin .mul (.var 5) (.var 5)) (.bin .mul (.var 5) (.lit (.int 40692)))) .nil)) (.lit (.int 2147483399))) (.lit (.int 7))) .nil))]],
    .ret (.var 2)] }
abbrev N__law_draws : List Str := ["cell", "count", "result", "rest", "k", "mixed"]
def m__law_shop : MDef := { name := "_law_shop", params := 4, size := 14, body := [
    .asgP [4, 5] (.cons (.bin .add (.bin .mod (.blt .int (.cons (.ix (.var 0) (.var 1)) .nil)) (.var 2)) (.lit (.int 1))) (.cons (.lst .nil) .nil)),
    .asg (.name 6) (.sl (.tup (.cons (.lit (.str "wood")) (.cons (.lit (.str "abcdefghi1")) (.cons (.lit (.str "abcdefghi2")) (.cons (.lit (.str "saw")) (.cons (.lit (.str "plank")) (.cons (.lit (.str "z9")) .nil))))))) .no (.yes (.var 4))),
    .asg (.name 7) (.tup (.cons (.lit (.str "cut")) (.cons (.lit (.str "saw")) (.cons (.lit (.str "abcdefghi1")) (.cons (.lit (.str "abcdefghi3")) (.cons (.lit (.str "glue")) (.cons (.lit (.str "mill")) (.cons (.lit (.str "turn")) (.cons (.lit (.str "rest")) .nil))))))))),
    .for_ (.name 8) (.range (.cons (.bin .mod (.blt .int (.cons (.ix (.var 0) (.bin .add (.var 1) (.lit (.int 1)))) .nil)) (.bin .add (.var 3) (.lit (.int 1)))) .nil)) [
      .asgP [9, 10, 11] (.cons (.bin .add (.bin .add (.var 1) (.lit (.int 4))) (.bin .mul (.lit (.int 8)) (.var 8))) (.cons (.bin .mul (.lst (.cons (.lit (.int 0)) .nil)) (.var 4)) (.cons (.bin .mul (.lst (.cons (.lit (.int 0)) .nil)) (.var 4)) .nil))),
      .put (.var 10) (.bin .mod (.blt .int (.cons (.ix (.var 0) (.var 9)) .nil)) (.var 4)) (.bin .mod (.blt .int (.cons (.ix (.var 0) (.bin .add (.var 9) (.lit (.int 1)))) .nil)) (.lit (.int 3))),
      .put (.var 10) (.bin .mod (.blt .int (.cons (.ix (.var 0) (.bin .add (.var 9) (.lit (.int 2)))) .nil)) (.var 4)) (.bin .add (.ix (.var 10) (.bin .mod (.blt .int (.cons (.ix (.var 0) (.bin .add (.var 9) (.lit (.int 2)))) .nil)) (.var 4))) (.bin .mod (.blt .int (.cons (.ix (.var 0) (.bin .add (.var 9) (.lit (.int 3)))) .nil)) (.lit (.int 2)))),
      .put (.var 11) (.bin .mod (.blt .int (.cons (.ix (.var 0) (.bin .add (.var 9) (.lit (.int 4)))) .nil)) (.var 4)) (.bin .mod (.blt .int (.cons (.ix (.var 0) (.bin .add (.var 9) (.lit (.int 5)))) .nil)) (.lit (.int 4))),
      .put (.var 11) (.bin .mod (.blt .int (.cons (.ix (.var 0) (.bin .add (.var 9) (.lit (.int 6)))) .nil)) (.var 4)) (.bin .add (.ix (.var 11) (.bin .mod (.blt .int (.cons (.ix (.var 0) (.bin .add (.var 9) (.lit (.int 6)))) .nil)) (.var 4))) (.bin .mod (.blt .int (.cons (.ix (.var 0) (.bin .add (.var 9) (.lit (.int 7)))) .nil)) (.lit (.int 2)))),
      .expr (.meth .append (.var 5) (.cons (.tup (.cons (.ix (.var 7) (.var 8)) (.cons (.blt .tuple (.cons (.var 10) .nil)) (.cons (.blt .tuple (.cons (.var 11) .nil)) (.cons (.bin .mod (.blt .int (.cons (.ix (.var 0) (.bin .add (.bin .add (.var 1) (.lit (.int 70))) (.var 8))) .nil)) (.lit (.int 4))) .nil))))) .nil))],
    .asgP [12, 13] (.cons (.blt .tuple (.cons (.comp (.bin .mod (.blt .int (.cons (.ix (.var 0) (.bin .add (.bin .add (.var 1) (.lit (.int 80))) (.var 8))) .nil)) (.lit (.int 4))) (.name 8) (.range (.cons (.var 4) .nil)) .no [8]) .nil)) (.cons (.blt .tuple (.cons (.comp (.bin .mod (.blt .int (.cons (.ix (.var 0) (.bin .add (.bin .add (.var 1) (.lit (.int 86))) (.var 8))) .nil)) (.lit (.int 4))) (.name 8) (.range (.cons (.var 4) .nil)) .no [8]) .nil)) .nil)),
    .ret (.tup (.cons (.lit (.str "shop")) (.cons (.var 6) (.cons (.blt .tuple (.cons (.var 5) .nil)) (.cons (.var 12) (.cons (.var 13) .nil))))))] }
abbrev N__law_shop : List Str := ["n", "at", "things", "recipes", "size", "rows", "names", "titles", "k", "spot", "needs", "gives", "stock", "goal"]
def m_law : MDef := { name := "law", params := 1, size := 20, body := [
    .asg (.name 1) (.call "_law_draws" (.cons (.call "_law_cell" (.cons (.var 0) (.cons (.lit (.int 0)) .nil))) (.cons (.lit (.int 140)) .nil))),
    .asg (.name 2) (.call "_law_shop" (.cons (.var 1) (.cons (.lit (.int 0)) (.cons (.lit (.int 4)) (.cons (.lit (.int 5)) .nil))))),
    .asgP [3, 4] (.cons (.blt .len (.cons (.ix (.var 2) (.lit (.int 1))) .nil)) (.cons (.bin .mod (.blt .int (.cons (.ix (.var 1) (.lit (.int 110))) .nil)) (.blt .len (.cons (.ix (.var 2) (.lit (.int 1))) .nil))) .nil)),
    .asg (.name 5) (.tup (.cons (.lit (.str "bake")) (.cons (.bin .mul (.tup (.cons (.lit (.int 0)) .nil)) (.var 3)) (.cons (.bin .mul (.tup (.cons (.lit (.int 9)) .nil)) (.var 3)) (.cons (.lit (.int 9)) .nil))))),
    .asg (.name 2) (.bin .add (.bin .add (.sl (.var 2) .no (.yes (.lit (.int 2)))) (.tup (.cons (.bin .add (.ix (.var 2) (.lit (.int 2))) (.tup (.cons (.var 5) .nil))) .nil))) (.sl (.var 2) (.yes (.lit (.int 3))) .no)),
    .asg (.name 6) (.bin .add (.sl (.var 2) .no (.yes (.lit (.int 3)))) (.tup (.cons (.bin .mul (.tup (.cons (.lit (.int 99)) .nil)) (.var 3)) (.cons (.bin .mul (.tup (.cons (.lit (.int 20)) .nil)) (.var 3)) .nil)))),
    .ifs (.or (.cons (.not (.call "is_shop" (.cons (.var 2) .nil))) (.cons (.not (.call "is_shop" (.cons (.var 6) .nil))) (.cons (.not (.call "is_shop" (.cons (.tup (.cons (.lit (.str "shop")) (.cons (.tup (.cons (.lit (.str "a")) .nil)) (.cons (.tup .nil) (.cons (.tup (.cons (.lit (.int 0)) .nil)) (.cons (.tup (.cons (.lit (.int 0)) .nil)) .nil)))))) .nil))) .nil)))) [
      .ret (.lit (.bl false))] [],
    .asg (.name 7) (.lst .nil),
    .for_ (.name 8) (.val (.tup (.cons (.tup (.cons (.lit (.int 1)) (.cons (.lit (.int 10)) .nil))) (.cons (.tup (.cons (.lit (.int 1)) (.cons (.bin .sub (.lit (.int 0)) (.lit (.int 1))) .nil))) (.cons (.tup (.cons (.lit (.int 2)) (.cons (.lit (.int 10)) .nil))) (.cons (.tup (.cons (.lit (.int 2)) (.cons (.lit (.bl true)) .nil))) (.cons (.tup (.cons (.lit (.int 1)) (.cons (.lit (.str "1")) .nil))) .nil))))))) [
      .asg (.name 9) (.bin .add (.bin .add (.sl (.ix (.var 5) (.ix (.var 8) (.lit (.int 0)))) .no (.yes (.var 4))) (.tup (.cons (.ix (.var 8) (.lit (.int 1))) .nil))) (.sl (.ix (.var 5) (.ix (.var 8) (.lit (.int 0)))) (.yes (.bin .add (.var 4) (.lit (.int 1)))) .no)),
      .expr (.meth .append (.var 7) (.cons (.bin .add (.bin .add (.sl (.var 5) .no (.yes (.ix (.var 8) (.lit (.int 0))))) (.tup (.cons (.var 9) .nil))) (.sl (.var 5) (.yes (.bin .add (.ix (.var 8) (.lit (.int 0))) (.lit (.int 1)))) .no)) .nil))],
    .asg (.name 7) (.bin .add (.var 7) (.lst (.cons (.bin .add (.sl (.var 5) .no (.yes (.lit (.int 3)))) (.tup (.cons (.lit (.int 10)) .nil))) (.cons (.bin .add (.sl (.var 5) .no (.yes (.lit (.int 3)))) (.tup (.cons (.bin .sub (.lit (.int 0)) (.lit (.int 1))) .nil))) (.cons (.bin .add (.sl (.var 5) .no (.yes (.lit (.int 3)))) (.tup (.cons (.lit (.bl false)) .nil))) (.cons (.sl (.var 5) .no (.yes (.lit (.int 3)))) (.cons (.blt .list (.cons (.var 5) .nil)) (.cons (.bin .add (.tup (.cons (.lit (.str "Bake")) .nil)) (.sl (.var 5) (.yes (.lit (.int 1))) .no)) (.cons (.bin .add (.tup (.cons (.lit (.str "goal")) .nil)) (.sl (.var 5) (.yes (.lit (.int 1))) .no)) (.cons (.bin .add (.tup (.cons (.lit (.str "abcdefghijk")) .nil)) (.sl (.var 5) (.yes (.lit (.int 1))) .no)) (.cons (.bin .add (.tup (.cons (.lit (.int 1)) .nil)) (.sl (.var 5) (.yes (.lit (.int 1))) .no)) .nil))))))))))),
    .asg (.name 7) (.bin .add (.var 7) (.lst (.cons (.bin .add (.bin .add (.sl (.var 5) .no (.yes (.lit (.int 1)))) (.tup (.cons (.bin .add (.ix (.var 5) (.lit (.int 1))) (.tup (.cons (.lit (.int 0)) .nil))) .nil))) (.sl (.var 5) (.yes (.lit (.int 2))) .no)) (.cons (.bin .add (.bin .add (.sl (.var 5) .no (.yes (.lit (.int 2)))) (.tup (.cons (.sl (.ix (.var 5) (.lit (.int 2))) (.yes (.lit (.int 1))) .no) .nil))) (.sl (.var 5) (.yes (.lit (.int 3))) .no)) (.cons (.bin .add (.bin .add (.sl (.var 5) .no (.yes (.lit (.int 1)))) (.tup (.cons (.blt .list (.cons (.ix (.var 5) (.lit (.int 1))) .nil)) .nil))) (.sl (.var 5) (.yes (.lit (.int 2))) .no)) .nil))))),
    .asg (.name 10) (.comp (.bin .add (.bin .add (.sl (.var 2) .no (.yes (.lit (.int 2)))) (.tup (.cons (.bin .add (.sl (.ix (.var 2) (.lit (.int 2))) .no (.yes (.neg (.lit (.int 1))))) (.tup (.cons (.var 18) .nil))) .nil))) (.sl (.var 2) (.yes (.lit (.int 3))) .no)) (.name 18) (.val (.var 7)) .no [18]),
    .asg (.name 10) (.bin .add (.var 10) (.comp (.bin .add (.sl (.var 2) .no (.yes (.lit (.int 3)))) (.tup (.cons (.bin .add (.bin .add (.sl (.ix (.var 2) (.lit (.int 3))) .no (.yes (.var 4))) (.tup (.cons (.var 18) .nil))) (.sl (.ix (.var 2) (.lit (.int 3))) (.yes (.bin .add (.var 4) (.lit (.int 1)))) .no)) (.cons (.ix (.var 2) (.lit (.int 4))) .nil)))) (.name 18) (.val (.tup (.cons (.lit (.int 100)) (.cons (.bin .sub (.lit (.int 0)) (.lit (.int 1))) (.cons (.lit .non) (.cons (.lit (.bl true)) .nil)))))) .no [18])),
    .asg (.name 10) (.bin .add (.var 10) (.comp (.bin .add (.sl (.var 2) .no (.yes (.lit (.int 4)))) (.tup (.cons (.bin .add (.bin .add (.sl (.ix (.var 2) (.lit (.int 4))) .no (.yes (.var 4))) (.tup (.cons (.var 18) .nil))) (.sl (.ix (.var 2) (.lit (.int 4))) (.yes (.bin .add (.var 4) (.lit (.int 1)))) .no)) .nil))) (.name 18) (.val (.tup (.cons (.lit (.int 21)) (.cons (.bin .sub (.lit (.int 0)) (.lit (.int 1))) (.cons (.lit (.bl false)) .nil))))) .no [18])),
    .asg (.name 11) (.ix (.var 2) (.lit (.int 1))),
    .asg (.name 10) (.bin .add (.var 10) (.comp (.bin .add (.tup (.cons (.ix (.var 2) (.lit (.int 0))) (.cons (.bin .add (.bin .add (.sl (.var 11) .no (.yes (.var 4))) (.tup (.cons (.var 18) .nil))) (.sl (.var 11) (.yes (.bin .add (.var 4) (.lit (.int 1)))) .no)) .nil))) (.sl (.var 2) (.yes (.lit (.int 2))) .no)) (.name 18) (.val (.tup (.cons (.lit (.str "Wood")) (.cons (.lit (.str "9a")) (.cons (.lit (.str "")) (.cons (.lit (.str "stock")) (.cons (.lit (.str "abcdefghijk")) (.cons (.lit (.str "a_b")) (.cons (.lit (.int 3)) (.cons (.lit .non) .nil)))))))))) .no [18])),
    .asg (.name 12) (.tup (.cons (.lit (.str "shop")) (.cons (.bin .add (.var 11) (.tup (.cons (.ix (.var 11) (.var 4)) .nil))) (.cons (.blt .tuple (.cons (.comp (.tup (.cons (.ix (.var 18) (.lit (.int 0))) (.cons (.bin .add (.ix (.var 18) (.lit (.int 1))) (.tup (.cons (.lit (.int 0)) .nil))) (.cons (.bin .add (.ix (.var 18) (.lit (.int 2))) (.tup (.cons (.lit (.int 0)) .nil))) (.cons (.ix (.var 18) (.lit (.int 3))) .nil))))) (.name 18) (.val (.ix (.var 2) (.lit (.int 2)))) .no [18]) .nil)) (.cons (.bin .add (.ix (.var 2) (.lit (.int 3))) (.tup (.cons (.lit (.int 0)) .nil))) (.cons (.bin .add (.ix (.var 2) (.lit (.int 4))) (.tup (.cons (.lit (.int 0)) .nil))) .nil)))))),
    .asg (.name 13) (.tup (.cons (.lit (.str "shop")) (.cons (.var 11) (.cons (.blt .tuple (.cons (.comp (.bin .add (.tup (.cons (.bin .add (.lit (.str "r")) (.blt .str (.cons (.var 19) .nil))) .nil)) (.sl (.var 5) (.yes (.lit (.int 1))) .no)) (.name 19) (.range (.cons (.lit (.int 9)) .nil)) .no [19]) .nil)) (.cons (.ix (.var 2) (.lit (.int 3))) (.cons (.ix (.var 2) (.lit (.int 4))) .nil)))))),
    .asg (.name 14) (.tup (.cons (.lit (.str "shop")) (.cons (.blt .tuple (.cons (.comp (.bin .add (.lit (.str "t")) (.blt .str (.cons (.var 19) .nil))) (.name 19) (.range (.cons (.lit (.int 7)) .nil)) .no [19]) .nil)) (.cons (.tup .nil) (.cons (.bin .mul (.tup (.cons (.lit (.int 0)) .nil)) (.lit (.int 7))) (.cons (.bin .mul (.tup (.cons (.lit (.int 0)) .nil)) (.lit (.int 7))) .nil)))))),
    .asg (.name 10) (.bin .add (.var 10) (.lst (.cons (.var 12) (.cons (.var 13) (.cons (.var 14) (.cons (.tup (.cons (.lit (.str "shop")) (.cons (.tup .nil) (.cons (.tup .nil) (.cons (.tup .nil) (.cons (.tup .nil) .nil)))))) (.cons (.blt .list (.cons (.var 2) .nil)) (.cons (.sl (.var 2) .no (.yes (.lit (.int 4)))) (.cons (.bin .add (.var 2) (.tup (.cons (.lit (.int 0)) .nil))) (.cons (.bin .add (.tup (.cons (.lit (.str "shops")) .nil)) (.sl (.var 2) (.yes (.lit (.int 1))) .no)) (.cons (.lit .non) (.cons (.lit (.str "shop")) (.cons (.tup .nil) (.cons (.tup (.cons (.var 2) .nil)) (.cons (.bin .add (.bin .add (.sl (.var 2) .no (.yes (.lit (.int 2)))) (.tup (.cons (.blt .list (.cons (.ix (.var 2) (.lit (.int 2))) .nil)) .nil))) (.sl (.var 2) (.yes (.lit (.int 3))) .no)) .nil))))))))))))))),
    .asg (.name 10) (.bin .add (.var 10) (.lst (.cons (.bin .add (.bin .add (.sl (.var 2) .no (.yes (.lit (.int 2)))) (.tup (.cons (.bin .add (.ix (.var 2) (.lit (.int 2))) (.tup (.cons (.var 5) .nil))) .nil))) (.sl (.var 2) (.yes (.lit (.int 3))) .no)) (.cons (.bin .add (.bin .add (.sl (.var 2) .no (.yes (.lit (.int 1)))) (.tup (.cons (.blt .list (.cons (.var 11) .nil)) .nil))) (.sl (.var 2) (.yes (.lit (.int 2))) .no)) .nil)))),
    .ifs (.or (.cons (.blt .any (.cons (.comp (.call "is_shop" (.cons (.var 18) .nil)) (.name 18) (.val (.var 10)) .no [18]) .nil)) (.cons (.not (.call "is_shop" (.cons (.tup (.cons (.lit (.str "shop")) (.cons (.var 11) (.cons (.sl (.ix (.var 13) (.lit (.int 2))) .no (.yes (.lit (.int 8)))) (.cons (.ix (.var 2) (.lit (.int 3))) (.cons (.ix (.var 2) (.lit (.int 4))) .nil)))))) .nil))) .nil))) [
      .ret (.lit (.bl false))] [],
    .asg (.name 15) (.tup (.cons (.lit (.str "let")) (.cons (.lit (.str "things")) (.cons (.lit (.str "class")) (.cons (.lit (.str "recipe")) (.cons (.lit (.str "stock")) (.cons (.lit (.str "goal")) (.cons (.lit (.str "cost")) (.cons (.lit (.str "with")) (.cons (.lit (.str "any")) (.cons (.lit (.str "had")) (.cons (.lit (.str "out")) (.cons (.lit (.str "no")) (.cons (.lit (.str "all")) (.cons (.lit (.str "until")) (.cons (.lit (.str "skip")) (.cons (.lit (.str "end")) .nil))))))))))))))))),
    .asg (.name 16) (.tup (.cons (.lit (.str "a")) (.cons (.lit (.str "z0")) (.cons (.lit (.str "abcdefghij")) (.cons (.lit (.str "lets")) (.cons (.lit (.str "thing")) (.cons (.lit (.str "ends")) (.cons (.lit (.str "a1b2c3d4e5")) .nil)))))))),
    .asg (.name 17) (.tup (.cons (.lit (.str "")) (.cons (.lit (.str "A")) (.cons (.lit (.str "aB")) (.cons (.lit (.str "1a")) (.cons (.lit (.str "a b")) (.cons (.lit (.str "a-b")) (.cons (.lit (.str "abcdefghijk")) (.cons (.lit (.str " a")) (.cons (.lit (.str "a\n")) (.cons (.lit .non) (.cons (.lit (.int 1)) (.cons (.tup (.cons (.lit (.str "a")) .nil)) (.cons (.lst (.cons (.lit (.str "a")) .nil)) (.cons (.lit (.bl true)) (.cons (.lit (.str "_a")) .nil)))))))))))))))),
    .ret (.and (.cons (.blt .all (.cons (.comp (.call "is_name" (.cons (.var 18) .nil)) (.name 18) (.val (.var 16)) .no [18]) .nil)) (.cons (.not (.blt .any (.cons (.comp (.call "is_name" (.cons (.var 18) .nil)) (.name 18) (.val (.var 15)) .no [18]) .nil))) (.cons (.not (.blt .any (.cons (.comp (.call "is_name" (.cons (.var 18) .nil)) (.name 18) (.val (.var 17)) .no [18]) .nil))) .nil))))] }
abbrev N_law : List Str := ["script", "n", "shop", "size", "at", "row", "great", "rows", "part", "own", "bad", "names", "twice", "nine", "seven", "words", "good", "wrong", "one", "k"]
abbrev R : PySem.W.OpenRow := PySem.W.OpenLaw.row PySem.Challenge.rw_craftproof_k01_what_are_shops_and_names
def top (i : Nat) : Stmt := PySem.Challenge.pw_craftproof_k01_what_are_shops_and_names.main.body.getD i (.Pass ⟨0, 0, 0, 0⟩)
def d_is_number : PD := ⟨m_is_number, N_is_number, top 1, false⟩
theorem b_is_number : d_is_number.Bd := fun _ _ _ _ _ _ us hl => match us, hl with | [_, _], _ => rfl
def d_is_row : PD := ⟨m_is_row, N_is_row, top 2, true⟩
theorem b_is_row : d_is_row.Bd := fun _ _ _ _ _ _ us hl => match us, hl with | [_, _], _ => rfl
def d_is_word : PD := ⟨m_is_word, N_is_word, top 7, true⟩
theorem b_is_word : d_is_word.Bd := fun _ _ _ _ _ _ us hl => match us, hl with | [_], _ => rfl
def d_is_name : PD := ⟨m_is_name, N_is_name, top 8, false⟩
theorem b_is_name : d_is_name.Bd := fun _ _ _ _ _ _ us hl => match us, hl with | [_], _ => rfl
def d_are_names : PD := ⟨m_are_names, N_are_names, top 9, true⟩
theorem b_are_names : d_are_names.Bd := fun _ _ _ _ _ _ us hl => match us, hl with | [_, _, _], _ => rfl
def d_is_bounded : PD := ⟨m_is_bounded, N_is_bounded, top 16, true⟩
theorem b_is_bounded : d_is_bounded.Bd := fun _ _ _ _ _ _ us hl => match us, hl with | [_, _, _], _ => rfl
def d_is_recipe : PD := ⟨m_is_recipe, N_is_recipe, top 17, false⟩
theorem b_is_recipe : d_is_recipe.Bd := fun _ _ _ _ _ _ us hl => match us, hl with | [_, _], _ => rfl
def d_is_shop : PD := ⟨m_is_shop, N_is_shop, top 18, true⟩
theorem b_is_shop : d_is_shop.Bd := fun _ _ _ _ _ _ us hl => match us, hl with | [_], _ => rfl
def d__law_cell : PD := ⟨m__law_cell, N__law_cell, top 20, false⟩
theorem b__law_cell : d__law_cell.Bd := fun _ _ _ _ _ _ us hl => match us, hl with | [_, _], _ => rfl
def d__law_draws : PD := ⟨m__law_draws, N__law_draws, top 21, false⟩
theorem b__law_draws : d__law_draws.Bd := fun _ _ _ _ _ _ us hl => match us, hl with | [_, _], _ => rfl
def d__law_shop : PD := ⟨m__law_shop, N__law_shop, top 22, false⟩
theorem b__law_shop : d__law_shop.Bd := fun _ _ _ _ _ _ us hl => match us, hl with | [_, _, _, _], _ => rfl
def d_law : PD := ⟨m_law, N_law, top 23, false⟩
theorem b_law : d_law.Bd := fun _ _ _ _ _ _ us hl => match us, hl with | [_], _ => rfl
def ds : List PD := [d_is_number, d_is_row, d_is_word, d_is_name, d_are_names, d_is_bounded, d_is_recipe, d_is_shop, d__law_cell, d__law_draws, d__law_shop, d_law]
def globs : List (Str × D) := [("CLOSED", (.tup [(.str "let"), (.str "things"), (.str "class"), (.str "recipe"), (.str "stock"), (.str "goal"), (.str "cost"), (.str "with"), (.str "any"), (.str "had"), (.str "out"), (.str "no"), (.str "all"), (.str "until"), (.str "skip"), (.str "end")])), ("SMALL", (.str "abcdefghijklmnopqrstuvwxyz")), ("FIGURES", (.str "0123456789")), ("MOST_THINGS", (.int 6)), ("MOST_RECIPES", (.int 8)), ("MOST_EACH", (.int 9)), ("MOST_STOCK", (.int 99)), ("MOST_GOAL", (.int 20))]
theorem nd : ((ds.map (·.m)).map (·.name)).Nodup := by decide +kernel
theorem k_is_number : d_is_number.ok (geOf globs ds) = true := by kernel_rfl
theorem k_is_row : d_is_row.ok (geOf globs ds) = true := by kernel_rfl
theorem k_is_word : d_is_word.ok (geOf globs ds) = true := by kernel_rfl
theorem k_is_name : d_is_name.ok (geOf globs ds) = true := by kernel_rfl
theorem k_are_names : d_are_names.ok (geOf globs ds) = true := by kernel_rfl
theorem k_is_bounded : d_is_bounded.ok (geOf globs ds) = true := by kernel_rfl
theorem k_is_recipe : d_is_recipe.ok (geOf globs ds) = true := by kernel_rfl
theorem k_is_shop : d_is_shop.ok (geOf globs ds) = true := by kernel_rfl
theorem k__law_cell : d__law_cell.ok (geOf globs ds) = true := by kernel_rfl
theorem k__law_draws : d__law_draws.ok (geOf globs ds) = true := by kernel_rfl
theorem k__law_shop : d__law_shop.ok (geOf globs ds) = true := by kernel_rfl
theorem k_law : d_law.ok (geOf globs ds) = true := by kernel_rfl
theorem hok : ∀ d ∈ ds, d.ok (geOf globs ds) = true := by
  intro d hd
  simp only [ds, List.mem_cons, List.not_mem_nil, or_false] at hd
  rcases hd with rfl | rfl | rfl | rfl | rfl | rfl | rfl | rfl | rfl | rfl | rfl | rfl
  · exact k_is_number
  · exact k_is_row
  · exact k_is_word
  · exact k_is_name
  · exact k_are_names
  · exact k_is_bounded
  · exact k_is_recipe
  · exact k_is_shop
  · exact k__law_cell
  · exact k__law_draws
  · exact k__law_shop
  · exact k_law
theorem hbd : ∀ d ∈ ds, d.Bd := by
  intro d hd
  simp only [ds, List.mem_cons, List.not_mem_nil, or_false] at hd
  rcases hd with rfl | rfl | rfl | rfl | rfl | rfl | rfl | rfl | rfl | rfl | rfl | rfl
  · exact b_is_number
  · exact b_is_row
  · exact b_is_word
  · exact b_is_name
  · exact b_are_names
  · exact b_is_bounded
  · exact b_is_recipe
  · exact b_is_shop
  · exact b__law_cell
  · exact b__law_draws
  · exact b__law_shop
  · exact b_law
def loose0 : List PySem.Str := ["is_number", "is_row", "CLOSED", "SMALL", "FIGURES", "is_word", "is_name", "are_names", "MOST_THINGS", "MOST_RECIPES", "MOST_EACH", "MOST_STOCK", "MOST_GOAL", "is_bounded", "is_recipe", "is_shop", "_law_cell", "_law_draws", "_law_shop"]
def loose : List PySem.Str := loose0
theorem run (w : World) : HandSHeadRun.RunEq R (PySem.W.view R.prog [23]) (hookOf globs ds) (obOf globs ds) 4000 loose w := by
  intro os
  kernel_rfl
end K01
namespace K01
open PySem PySem.Spec PyProof.Rows L2 CP Lib
theorem hasShop : HasShop (ds.map (·.m)) := ⟨by rfl, by rfl, by rfl, by rfl, by rfl, by rfl, by rfl, by rfl⟩
theorem hasDraws : HasDraws (ds.map (·.m)) := ⟨by rfl, by rfl, by rfl⟩
/-! ### what is no shop -/
structure Bad (n : Nat) (x : D) : Prop where
  ok : okR n x = true
  short : shortShop x
  no : shopB x = false
structure RowBad (n sz : Nat) (x : D) : Prop where
  ok : okR n x = true
  short : short0 x
  no : recB sz x = false
section
variable {sh : Shop} {at_ : Nat}
abbrev nm (sh : Shop) : List D := sh.names.map .str
abbrev sz (sh : Shop) : Nat := sh.names.length
abbrev rs (sh : Shop) : List D := sh.rows.map Rec.d
abbrev st (sh : Shop) : List D := sh.stock.map .int
abbrev go (sh : Shop) : List D := sh.goal.map .int
abbrev zs (sh : Shop) : List D := List.replicate (sz sh) (.int 0)
abbrev n9 (sh : Shop) : List D := List.replicate (sz sh) (.int 9)
abbrev bake (sh : Shop) : D := .tup [.str "bake", .tup (zs sh), .tup (n9 sh), .int 9]
abbrev shopW : D := .str "shop"
abbrev mk (nm rw st go : D) : D := .tup [shopW, nm, rw, st, go]
abbrev shop2 (sh : Shop) : D := mk (.tup (nm sh)) (.tup (rs sh ++ [bake sh])) (.tup (st sh)) (.tup (go sh))
theorem short_bake : shortD (.str "bake") := shortB_ok (by decide +kernel)
theorem short_shop : shortD shopW := shortB_ok (by decide +kernel)
theorem shopB_mk {ns rws : List D} {a b : D} : shopB (mk (.tup ns) (.tup rws) a b) = (wordIs "shop" shopW && (namesB 1 6 (.tup ns) && ((decide ((rws.length : Int) ≤ 8) && rws.all (recB ns.length)) && (!dupB (rws.map firstD) && (boundB ns.length 99 a && boundB ns.length 20 b))))) := rfl
theorem recB_mk {n : Int} {a b c e : D} : recB n (.tup [a, b, c, e]) = (nameB a && ((boundB n 9 b && boundB n 9 c) && (numB 0 e && leB 9 e))) := rfl
variable (h : ShopOk 4 5 sh)
include h
theorem len_sz : 1 ≤ sz sh ∧ sz sh ≤ 4 := ⟨h.lo, h.hi⟩
theorem short_rows : ∀ r ∈ rs sh ++ [bake sh], short0 r := fun r hr => by
  rcases List.mem_append.mp hr with hr | hr
  · obtain ⟨q, hq, rfl⟩ := List.mem_map.mp hr
    exact shortB_ok (titles8_ok _ (h.rec_ok (by decide) hq).2).2
  · rw [List.mem_singleton.mp hr]
    exact short_bake
omit h in
theorem okRs_ints {n : Nat} (l : List Int) : okRs n (l.map .int) = true := okRs_pures (pures_int l)
omit h in
theorem okRs_strs {n : Nat} (l : List Str) : okRs n (l.map .str) = true := okRs_pures (pures_str l)
omit h in
theorem okRs_rep {n k : Nat} {i : Int} : okRs n (List.replicate k (.int i)) = true := okRs_of fun d hd => by rw [List.eq_of_mem_replicate hd]; rfl
omit h in
theorem ok_bake {n : Nat} : okR n (bake sh) = true := by
  simp only [okR, okRs, okRs_rep, Bool.and_self]
omit h in
theorem okRs_rows {n : Nat} : okRs n (rs sh) = true := okRs_pures (pures_mapA fun x _ => x.isPure)
omit h in
theorem okRs_one {n : Nat} {d : D} (hd : okR n d = true) : okRs n [d] = true := by simp only [okRs, hd, Bool.and_self]
omit h in
theorem ok_mk {n : Nat} {a b c e : D} (ha : okR n a = true) (hb : okR n b = true) (hc : okR n c = true) (he : okR n e = true) : okR n (mk a b c e) = true := by
  simp only [okR, okRs, ha, hb, hc, he, Bool.and_self]
omit h in
theorem ok_tup {n : Nat} {l : List D} (hl : okRs n l = true) : okR n (.tup l) = true := by unfold okR; exact hl
theorem bake_rec : recB (sz sh) (bake sh) = true := by
  have b1 : ∀ i : Int, 0 ≤ i → i ≤ 9 → boundB (sz sh) 9 (.tup (List.replicate (sz sh) (.int i))) = true := fun i h1 h2 => by
    rw [boundB_tup]
    have e1 : (List.replicate (sz sh) (D.int i)).all (numB 0) = true := List.all_eq_true.mpr fun x hx => by rw [List.eq_of_mem_replicate hx]; simpa [numB] using h1
    have e2 : (List.replicate (sz sh) (D.int i)).all (leB 9) = true := List.all_eq_true.mpr fun x hx => by rw [List.eq_of_mem_replicate hx]; simpa [leB] using h2
    rw [e1, e2, List.length_replicate]
    simp
  show (nameS "bake" && ((boundB _ 9 _ && boundB _ 9 _) && _)) = true
  rw [b1 0 (by decide) (by decide), b1 9 (by decide) (by decide), show nameS "bake" = true by decide +kernel]
  rfl
theorem firsts : (rs sh ++ [bake sh]).map firstD = (titles8.take sh.rows.length).map D.str ++ [.str "bake"] := by
  rw [List.map_append, List.map_map]
  have := h.titles
  rw [show (fun r : Rec => firstD r.d) = firstD ∘ Rec.d from rfl] at this
  rw [this]
  rfl
theorem rows_all : (rs sh ++ [bake sh]).all (recB (sz sh)) = true := by
  rw [List.all_append, Bool.and_eq_true]
  refine ⟨all_map fun r hr => (h.rec_ok (by decide) hr).1, ?_⟩
  simp only [List.all_cons, List.all_nil, bake_rec h, Bool.and_self]
omit h in
theorem dup_bake : ∀ k : Fin 9, dupB ((titles8.take k).map D.str ++ [.str "bake"]) = false := by decide +kernel
theorem shop2_rest {a b : D} (ha : boundB (sz sh) 99 a = true) (hb : boundB (sz sh) 20 b = true) : shopB (mk (.tup (nm sh)) (.tup (rs sh ++ [bake sh])) a b) = true := by
  have hr := h.rows
  show (wordIs "shop" shopW && (namesB 1 6 (.tup (nm sh)) && ((decide (((rs sh ++ [bake sh]).length : Int) ≤ 8) && (rs sh ++ [bake sh]).all (recB (nm sh).length)) && (!dupB ((rs sh ++ [bake sh]).map firstD) && (boundB (nm sh).length 99 a && boundB (nm sh).length 20 b))))) = true
  rw [h.nmB (by decide), firsts h, List.length_map, rows_all h, ha, hb]
  have d := dup_bake ⟨sh.rows.length, by omega⟩
  simp only at d
  rw [d]
  simp [wordIs]
  omega
theorem shop2_ok : shopB (shop2 sh) = true := shop2_rest h (bound_ok h.stl h.stb (by decide)) (bound_ok h.gol h.gob (by decide))
omit h in
theorem rep_bound {n : Nat} {i m : Int} (h1 : 0 ≤ i) (h2 : i ≤ m) : boundB n m (.tup (List.replicate n (.int i))) = true := by
  have e : List.replicate n (D.int i) = (List.replicate n i).map .int := by rw [List.map_replicate]
  rw [e]
  exact bound_ok (by simp) (hi := m) (fun x hx => by rw [List.eq_of_mem_replicate hx]; exact ⟨h1, h2⟩) (Int.le_refl _)
/-! bad ones by one row -/
theorem bad_row {n : Nat} {one : D} (b : RowBad n (sz sh) one) : Bad n (mk (.tup (nm sh)) (.tup (rs sh ++ [one])) (.tup (st sh)) (.tup (go sh))) := by
  refine ⟨ok_mk (ok_tup (okRs_strs _)) (ok_tup (okRs_app okRs_rows (okRs_one b.ok))) (ok_tup (okRs_ints _)) (ok_tup (okRs_ints _)), ⟨short_shop, h.short, fun r hr => ?_⟩, ?_⟩
  · rcases List.mem_append.mp hr with hr | hr
    · exact short_rows h r (List.mem_append_left _ hr)
    · rw [List.mem_singleton.mp hr]; exact b.short
  · rw [shopB_mk]
    have e : (rs sh ++ [one]).all (recB (nm sh).length) = false := by
      rw [List.all_append, List.length_map]
      simp only [List.all_cons, List.all_nil, b.no, Bool.false_and, Bool.and_false]
    rw [e]
    simp
theorem bad_stock {n : Nat} {a : List D} {v : D} (ha : okRs n a = true) (hv : v ∈ a) (hb : (numB 0 v && leB 99 v) = false) : Bad n (mk (.tup (nm sh)) (.tup (rs sh ++ [bake sh])) (.tup a) (.tup (go sh))) := by
  refine ⟨ok_mk (ok_tup (okRs_strs _)) (ok_tup (okRs_app okRs_rows (okRs_one ok_bake))) (ok_tup ha) (ok_tup (okRs_ints _)), ⟨short_shop, h.short, short_rows h⟩, ?_⟩
  rw [shopB_mk, bound_bad (n := ((nm sh).length : Int)) (m := 99) hv hb]
  simp
theorem bad_goal {n : Nat} {a : List D} {v : D} (ha : okRs n a = true) (hv : v ∈ a) (hb : (numB 0 v && leB 20 v) = false) : Bad n (mk (.tup (nm sh)) (.tup (rs sh ++ [bake sh])) (.tup (st sh)) (.tup a)) := by
  refine ⟨ok_mk (ok_tup (okRs_strs _)) (ok_tup (okRs_app okRs_rows (okRs_one ok_bake))) (ok_tup (okRs_ints _)) (ok_tup ha), ⟨short_shop, h.short, short_rows h⟩, ?_⟩
  rw [shopB_mk, bound_bad (n := ((nm sh).length : Int)) (m := 20) hv hb]
  simp
theorem bad_names {n : Nat} {v : D} (hok : okR n v = true) (hs : shortD v) (hv : nameB v = false) : Bad n (mk (.tup (putAt (nm sh) at_ v)) (.tup (rs sh ++ [bake sh])) (.tup (st sh)) (.tup (go sh))) := by
  refine ⟨ok_mk (ok_tup (okRs_of (putAt_all (fun x hx => okRs_mem (okRs_strs _) x hx) hok))) (ok_tup (okRs_app okRs_rows (okRs_one ok_bake))) (ok_tup (okRs_ints _)) (ok_tup (okRs_ints _)), ⟨short_shop, putAt_all h.short hs, short_rows h⟩, ?_⟩
  rw [shopB_mk]
  have e : (putAt (nm sh) at_ v).all nameB = false := by
    rw [Bool.eq_false_iff]
    intro q
    have := List.all_eq_true.mp q v putAt_mem
    rw [hv] at this
    cases this
  rw [namesB_tup, e]
  simp
/-! rows that are none -/
omit h in
theorem rb_needs {n : Nat} {l : List D} {v : D} (ho : okRs n l = true) (hv : v ∈ l) (hb : (numB 0 v && leB 9 v) = false) : RowBad n (sz sh) (.tup [.str "bake", .tup l, .tup (n9 sh), .int 9]) := by
  refine ⟨by simp only [okR, okRs, ho, okRs_rep, Bool.and_self], short_bake, ?_⟩
  rw [recB_mk, bound_bad (n := (sz sh : Int)) (m := 9) hv hb]
  simp
omit h in
theorem rb_gives {n : Nat} {l : List D} {v : D} (ho : okRs n l = true) (hv : v ∈ l) (hb : (numB 0 v && leB 9 v) = false) : RowBad n (sz sh) (.tup [.str "bake", .tup (zs sh), .tup l, .int 9]) := by
  refine ⟨by simp only [okR, okRs, ho, okRs_rep, Bool.and_self], short_bake, ?_⟩
  rw [recB_mk, bound_bad (n := (sz sh : Int)) (m := 9) hv hb]
  simp
omit h in
theorem rb_cost {n : Nat} {v : D} (ho : okR n v = true) (hb : (numB 0 v && leB 9 v) = false) : RowBad n (sz sh) (.tup [.str "bake", .tup (zs sh), .tup (n9 sh), v]) := by
  refine ⟨by simp only [okR, okRs, ho, okRs_rep, Bool.and_self], short_bake, ?_⟩
  rw [recB_mk, hb]
  simp
omit h in
theorem rb_name {n : Nat} {v : D} (ho : okR n v = true) (hs : shortD v) (hb : nameB v = false) : RowBad n (sz sh) (.tup [v, .tup (zs sh), .tup (n9 sh), .int 9]) := by
  refine ⟨by simp only [okR, okRs, ho, okRs_rep, Bool.and_self], hs, ?_⟩
  rw [recB_mk, hb]
  simp
omit h in
theorem rb_ref {n k : Nat} (hk : k < n) : RowBad n (sz sh) (.ref k) := ⟨by simp [okR, hk], trivial, rfl⟩
end
end K01
namespace K01
open PySem PySem.Spec PyProof.Rows L2 CP Lib
theorem Bad.mono {n m : Nat} {x : D} (h : Bad n x) (hm : n ≤ m) : Bad m x := ⟨okR_mono hm h.ok, h.short, h.no⟩
theorem RowBad.mono {n m k : Nat} {x : D} (h : RowBad n k x) (hm : n ≤ m) : RowBad m k x := ⟨okR_mono hm h.ok, h.short, h.no⟩
theorem to {C : Orc} {ih : IH} {env : IEnv} {e : ME} {d d' : D} (h : Sv C ih env e d) (hd : d = d') : Sv C ih env e d' := hd ▸ h
theorem catS {C : Orc} {ih : IH} {env : IEnv} {a b : ME} {xs ys : List D} (ha : Sv C ih env a (.tup xs)) (hb : Sv C ih env b (.tup ys)) (hz : Nat.ble (xs.length + ys.length) 1000 = true) : Sv C ih env (.bin .add a b) (.tup (xs ++ ys)) :=
  .cat ha hb (by have := Nat.le_of_ble_eq_true hz; rw [sizeLine_eq]; omega)
theorem ev_listOf0 {C : Orc} {W : IH} {env : IEnv} {a : ME} {xs : List D} (h : Sv C W env a (.tup xs)) : evE C (.blt .list (.cons a .nil)) env W = some (.ref W.length, W ++ [.lst xs]) := by
  have := ev_listOf (z := []) h
  rw [List.append_nil] at this
  exact this
abbrev EV (s : D) (b sz k : Nat) (shop row great rows part own bad names twice nine seven words good wrong : Option D) : IEnv := [some s, some (.ref b), shop, some (.int sz), some (.int k), row, great, rows, part, own, bad, names, twice, nine, seven, words, good, wrong, none, none]
abbrev rowp1 (sh : Shop) (k : Nat) (v : D) : D := .tup [.str "bake", .tup (putAt (zs sh) k v), .tup (n9 sh), .int 9]
abbrev rowp2 (sh : Shop) (k : Nat) (v : D) : D := .tup [.str "bake", .tup (zs sh), .tup (putAt (n9 sh) k v), .int 9]
def fpart (sh : Shop) (k : Nat) : D → D
  | .tup [.int 1, v] => rowp1 sh k v
  | .tup [.int 2, v] => rowp2 sh k v
  | _ => .non
def gpart (sh : Shop) (k : Nat) : D → D
  | .tup [.int 1, v] => .tup (putAt (zs sh) k v)
  | .tup [.int 2, v] => .tup (putAt (n9 sh) k v)
  | _ => .non
def parts : List D := [.tup [.int 1, .int 10], .tup [.int 1, .int (0 - 1)], .tup [.int 2, .int 10], .tup [.int 2, .bl true], .tup [.int 1, .str "1"]]
section
variable {C : Orc} {s : D} {b k : Nat} {sh : Shop} {W : IH} (h : ShopOk 4 5 sh) (hk : k < sz sh)
include h hk
theorem loop1 (great : Option D) : ∃ a' b', forLoop (fun env ih => evSs C 1000 [
      .asg (.name 9) (.bin .add (.bin .add (.sl (.ix (.var 5) (.ix (.var 8) (.lit (.int 0)))) .no (.yes (.var 4))) (.tup (.cons (.ix (.var 8) (.lit (.int 1))) .nil))) (.sl (.ix (.var 5) (.ix (.var 8) (.lit (.int 0)))) (.yes (.bin .add (.var 4) (.lit (.int 1)))) .no)),
      .expr (.meth .append (.var 7) (.cons (.bin .add (.bin .add (.sl (.var 5) .no (.yes (.ix (.var 8) (.lit (.int 0))))) (.tup (.cons (.var 9) .nil))) (.sl (.var 5) (.yes (.bin .add (.ix (.var 8) (.lit (.int 0))) (.lit (.int 1)))) .no)) .nil))] env ih) (.name 8) ⟨parts, []⟩ parts
    (EV s b (sz sh) k (some (shop2 sh)) (some (bake sh)) great (some (.ref W.length)) none none none none none none none none none none) (W ++ [.lst []]) = some (.next, EV s b (sz sh) k (some (shop2 sh)) (some (bake sh)) great (some (.ref W.length)) a' b' none none none none none none none none, W ++ [.lst (parts.map (fpart sh k))]) := by
  have hz := len_sz h
  have r := for_map (Z := W) (items := parts) (body := fun env ih => evSs C 1000 [
      .asg (.name 9) (.bin .add (.bin .add (.sl (.ix (.var 5) (.ix (.var 8) (.lit (.int 0)))) .no (.yes (.var 4))) (.tup (.cons (.ix (.var 8) (.lit (.int 1))) .nil))) (.sl (.ix (.var 5) (.ix (.var 8) (.lit (.int 0)))) (.yes (.bin .add (.var 4) (.lit (.int 1)))) .no)),
      .expr (.meth .append (.var 7) (.cons (.bin .add (.bin .add (.sl (.var 5) .no (.yes (.ix (.var 8) (.lit (.int 0))))) (.tup (.cons (.var 9) .nil))) (.sl (.var 5) (.yes (.bin .add (.ix (.var 8) (.lit (.int 0))) (.lit (.int 1)))) .no)) .nil))] env ih) (t := .name 8) (Ev := fun a b' => EV s b (sz sh) k (some (shop2 sh)) (some (bake sh)) great (some (.ref W.length)) a b' none none none none none none none none) (fpart sh k) (gpart sh k) parts (fun x hx a b' acc => ⟨rfl, fun hacc => ?_⟩) none none [] (by decide)
  · obtain ⟨a', b'', r⟩ := r
    exact ⟨a', b'', by simpa using r⟩
  · have hx' : (∃ v, x = .tup [.int 1, v]) ∨ ∃ v, x = .tup [.int 2, v] := by
      simp only [parts, List.mem_cons, List.not_mem_nil, or_false] at hx
      rcases hx with rfl | rfl | rfl | rfl | rfl
      · exact .inl ⟨_, rfl⟩
      · exact .inl ⟨_, rfl⟩
      · exact .inr ⟨_, rfl⟩
      · exact .inr ⟨_, rfl⟩
      · exact .inl ⟨_, rfl⟩
    have hacc' : acc.length < sizeLine := by rw [sizeLine_eq]; omega
    have zl : (zs sh).length = sz sh := List.length_replicate
    have nl : (n9 sh).length = sz sh := List.length_replicate
    rcases hx' with ⟨v, rfl⟩ | ⟨v, rfl⟩
    · have p0 : ∀ bb, Sv C (W ++ [.lst acc]) (EV s b (sz sh) k (some (shop2 sh)) (some (bake sh)) great (some (.ref W.length)) (some (.tup [.int 1, v])) bb none none none none none none none none) (.ix (.var 8) (.lit (.int 0))) (.int 1) := fun bb => .ixT (.var rfl) .lit (atI_nat (k := 0) rfl)
      have p1 : Sv C (W ++ [.lst acc]) (EV s b (sz sh) k (some (shop2 sh)) (some (bake sh)) great (some (.ref W.length)) (some (.tup [.int 1, v])) b' none none none none none none none none) (.ix (.var 8) (.lit (.int 1))) v := .ixT (.var rfl) .lit (atI_nat (k := 1) rfl)
      have own := sv_putAt (C := C) (ih := W ++ [.lst acc]) (env := EV s b (sz sh) k (some (shop2 sh)) (some (bake sh)) great (some (.ref W.length)) (some (.tup [.int 1, v])) b' none none none none none none none none) (a := .ix (.var 5) (.ix (.var 8) (.lit (.int 0)))) (x := .ix (.var 8) (.lit (.int 1))) (l := zs sh) (k := k) (j := 4) (.ixT (.var rfl) (p0 b') (atI_nat (k := 1) rfl)) p1 rfl (by rw [zl]; exact hk) (by rw [zl]; omega)
      refine Eq.trans (ss_asg own.now rfl) ?_
      have app : Sv C (W ++ [.lst acc]) (EV s b (sz sh) k (some (shop2 sh)) (some (bake sh)) great (some (.ref W.length)) (some (.tup [.int 1, v])) (some (.tup (putAt (zs sh) k v))) none none none none none none none none) (.bin .add (.bin .add (.sl (.var 5) .no (.yes (.ix (.var 8) (.lit (.int 0))))) (.tup (.cons (.var 9) .nil))) (.sl (.var 5) (.yes (.bin .add (.ix (.var 8) (.lit (.int 0))) (.lit (.int 1)))) .no)) (rowp1 sh k v) := by
        exact to (catS (catS (Sv.slT (ds := [.str "bake", .tup (zs sh), .tup (n9 sh), .int 9]) (.var rfl) .no (.yes (p0 _))) (Sv.tup (.one (.var rfl))) rfl) (Sv.slT (ds := [.str "bake", .tup (zs sh), .tup (n9 sh), .int 9]) (.var rfl) (.yes (.add (p0 (some (.tup (putAt (zs sh) k v)))) .lit)) .no) rfl) rfl
      refine Eq.trans (ss_expr (ev_append (.var rfl) app hacc')) ss_nil
    · have p0 : ∀ bb, Sv C (W ++ [.lst acc]) (EV s b (sz sh) k (some (shop2 sh)) (some (bake sh)) great (some (.ref W.length)) (some (.tup [.int 2, v])) bb none none none none none none none none) (.ix (.var 8) (.lit (.int 0))) (.int 2) := fun bb => .ixT (.var rfl) .lit (atI_nat (k := 0) rfl)
      have p1 : Sv C (W ++ [.lst acc]) (EV s b (sz sh) k (some (shop2 sh)) (some (bake sh)) great (some (.ref W.length)) (some (.tup [.int 2, v])) b' none none none none none none none none) (.ix (.var 8) (.lit (.int 1))) v := .ixT (.var rfl) .lit (atI_nat (k := 1) rfl)
      have own := sv_putAt (C := C) (ih := W ++ [.lst acc]) (env := EV s b (sz sh) k (some (shop2 sh)) (some (bake sh)) great (some (.ref W.length)) (some (.tup [.int 2, v])) b' none none none none none none none none) (a := .ix (.var 5) (.ix (.var 8) (.lit (.int 0)))) (x := .ix (.var 8) (.lit (.int 1))) (l := n9 sh) (k := k) (j := 4) (.ixT (.var rfl) (p0 b') (atI_nat (k := 2) rfl)) p1 rfl (by rw [nl]; exact hk) (by rw [nl]; omega)
      refine Eq.trans (ss_asg own.now rfl) ?_
      have app : Sv C (W ++ [.lst acc]) (EV s b (sz sh) k (some (shop2 sh)) (some (bake sh)) great (some (.ref W.length)) (some (.tup [.int 2, v])) (some (.tup (putAt (n9 sh) k v))) none none none none none none none none) (.bin .add (.bin .add (.sl (.var 5) .no (.yes (.ix (.var 8) (.lit (.int 0))))) (.tup (.cons (.var 9) .nil))) (.sl (.var 5) (.yes (.bin .add (.ix (.var 8) (.lit (.int 0))) (.lit (.int 1)))) .no)) (rowp2 sh k v) := by
        exact to (catS (catS (Sv.slT (ds := [.str "bake", .tup (zs sh), .tup (n9 sh), .int 9]) (.var rfl) .no (.yes (p0 _))) (Sv.tup (.one (.var rfl))) rfl) (Sv.slT (ds := [.str "bake", .tup (zs sh), .tup (n9 sh), .int 9]) (.var rfl) (.yes (.add (p0 (some (.tup (putAt (n9 sh) k v)))) .lit)) .no) rfl) rfl
      refine Eq.trans (ss_expr (ev_append (.var rfl) app hacc')) ss_nil
theorem rows1 (n : Nat) : ∀ x ∈ parts.map (fpart sh k), RowBad n (sz sh) x := fun x hx => by
  have oz : okRs n (zs sh) = true := okRs_rep
  have o9 : okRs n (n9 sh) = true := okRs_rep
  have ok : ∀ {l : List D} {v : D}, okRs n l = true → okR n v = true → okRs n (putAt l k v) = true := fun hl hv => okRs_of (putAt_all (okRs_mem hl) hv)
  simp only [parts, List.map_cons, List.map_nil, List.mem_cons, List.not_mem_nil, or_false] at hx
  rcases hx with rfl | rfl | rfl | rfl | rfl
  · exact rb_needs (ok oz rfl) putAt_mem (by decide)
  · exact rb_needs (ok oz rfl) putAt_mem (by decide)
  · exact rb_gives (ok o9 rfl) putAt_mem (by decide)
  · exact rb_gives (ok o9 rfl) putAt_mem (by decide)
  · exact rb_needs (ok oz rfl) putAt_mem (by decide)
end
end K01
namespace K01
open PySem PySem.Spec PyProof.Rows L2 CP Lib
theorem ev_wrap {C : Orc} {W W2 : IH} {env : IEnv} {a x c : ME} {as cs : List D} {d : D} (ha : Sv C W env a (.tup as)) (hx : evE C x env W = some (d, W2)) (hc : Sv C W2 env c (.tup cs)) (h1 : as.length + 1 ≤ 100) (h2 : (as ++ [d]).length + cs.length ≤ 1000) :
    evE C (.bin .add (.bin .add a (.tup (.cons x .nil))) c) env W = some (.tup (as ++ [d] ++ cs), W2) := by
  have e1 : as.length + [d].length ≤ sizeLine := by rw [sizeLine_eq]; simp; omega
  have e2 : (as ++ [d]).length + cs.length ≤ sizeLine := by rw [sizeLine_eq]; omega
  have e3 : [d].length ≤ sizeLine := by rw [sizeLine_eq]; simp
  simp only [evE, evEs, ha.now, hx, hc.now, if_pos e3, binop, if_pos e1, if_pos e2]
section
variable {C : Orc} {s : D} {b k : Nat} {sh : Shop} (h : ShopOk 4 5 sh) (hk : k < sz sh)
include h hk
theorem rows_stage {W : IH} {r : Nat} {R1 : List D} (great a' b' : Option D) (hl : lstAt W r = some R1) (hR : ∀ x ∈ R1, RowBad W.length (sz sh) x) (h5 : R1.length ≤ 5) : ∃ W' r' R', evSs C 1000 (m_law.body.drop 9) (EV s b (sz sh) k (some (shop2 sh)) (some (bake sh)) great (some (.ref r)) a' b' none none none none none none none none) W =
      evSs C 1000 (m_law.body.drop 11) (EV s b (sz sh) k (some (shop2 sh)) (some (bake sh)) great (some (.ref r')) a' b' none none none none none none none none) W' ∧ lstAt W' r' = some R' ∧ (∀ x ∈ R', RowBad W'.length (sz sh) x) ∧ R'.length ≤ 50 := by
  have hz := len_sz h
  have zl : (zs sh).length = sz sh := List.length_replicate
  have nl : (n9 sh).length = sz sh := List.length_replicate
  let ev (q : Nat) : IEnv := EV s b (sz sh) k (some (shop2 sh)) (some (bake sh)) great (some (.ref q)) a' b' none none none none none none none none
  have r03 : ∀ q V, Sv C V (ev q) (.sl (.var 5) .no (.yes (.lit (.int 3)))) (.tup [.str "bake", .tup (zs sh), .tup (n9 sh)]) := fun q V => to (.slT (ds := [.str "bake", .tup (zs sh), .tup (n9 sh), .int 9]) (.var rfl) .no (.yes .lit)) rfl
  have r02 : ∀ q V, Sv C V (ev q) (.sl (.var 5) .no (.yes (.lit (.int 2)))) (.tup [.str "bake", .tup (zs sh)]) := fun q V => to (.slT (ds := [.str "bake", .tup (zs sh), .tup (n9 sh), .int 9]) (.var rfl) .no (.yes .lit)) rfl
  have r01 : ∀ q V, Sv C V (ev q) (.sl (.var 5) .no (.yes (.lit (.int 1)))) (.tup [.str "bake"]) := fun q V => to (.slT (ds := [.str "bake", .tup (zs sh), .tup (n9 sh), .int 9]) (.var rfl) .no (.yes .lit)) rfl
  have r1_ : ∀ q V, Sv C V (ev q) (.sl (.var 5) (.yes (.lit (.int 1))) .no) (.tup [.tup (zs sh), .tup (n9 sh), .int 9]) := fun q V => to (.slT (ds := [.str "bake", .tup (zs sh), .tup (n9 sh), .int 9]) (.var rfl) (.yes .lit) .no) rfl
  have r2_ : ∀ q V, Sv C V (ev q) (.sl (.var 5) (.yes (.lit (.int 2))) .no) (.tup [.tup (n9 sh), .int 9]) := fun q V => to (.slT (ds := [.str "bake", .tup (zs sh), .tup (n9 sh), .int 9]) (.var rfl) (.yes .lit) .no) rfl
  have r3_ : ∀ q V, Sv C V (ev q) (.sl (.var 5) (.yes (.lit (.int 3))) .no) (.tup [.int 9]) := fun q V => to (.slT (ds := [.str "bake", .tup (zs sh), .tup (n9 sh), .int 9]) (.var rfl) (.yes .lit) .no) rfl
  have cv : ∀ q V (e : ME) v, Sv C V (ev q) e v → Sv C V (ev q) (.bin .add (.sl (.var 5) .no (.yes (.lit (.int 3)))) (.tup (.cons e .nil))) (.tup [.str "bake", .tup (zs sh), .tup (n9 sh), v]) := fun q V e v hv => to (catS (r03 q V) (.tup (.one hv)) rfl) rfl
  have dv : ∀ q V (e : ME) v, Sv C V (ev q) e v → Sv C V (ev q) (.bin .add (.tup (.cons e .nil)) (.sl (.var 5) (.yes (.lit (.int 1))) .no)) (.tup [v, .tup (zs sh), .tup (n9 sh), .int 9]) := fun q V e v hv => to (catS (.tup (.one hv)) (r1_ q V) rfl) rfl
  have i1 : ∀ q V, Sv C V (ev q) (.ix (.var 5) (.lit (.int 1))) (.tup (zs sh)) := fun q V => .ixT (.var rfl) .lit (atI_nat (k := 1) rfl)
  have i2 : ∀ q V, Sv C V (ev q) (.ix (.var 5) (.lit (.int 2))) (.tup (n9 sh)) := fun q V => .ixT (.var rfl) .lit (atI_nat (k := 2) rfl)
  -- the first display
  let X : IObj := .lst [.str "bake", .tup (zs sh), .tup (n9 sh), .int 9]
  let L1 : List D := [.tup [.str "bake", .tup (zs sh), .tup (n9 sh), .int 10], .tup [.str "bake", .tup (zs sh), .tup (n9 sh), .int (0 - 1)], .tup [.str "bake", .tup (zs sh), .tup (n9 sh), .bl false], .tup [.str "bake", .tup (zs sh), .tup (n9 sh)], .ref W.length, .tup [.str "Bake", .tup (zs sh), .tup (n9 sh), .int 9], .tup [.str "goal", .tup (zs sh), .tup (n9 sh), .int 9], .tup [.str "abcdefghijk", .tup (zs sh), .tup (n9 sh), .int 9], .tup [.int 1, .tup (zs sh), .tup (n9 sh), .int 9]]
  let W1 : IH := (W ++ [X]) ++ [.lst L1]
  let W2 : IH := W1 ++ [.lst (R1 ++ L1)]
  have e1 := ev_more (i := 7) (ih := W) (env := ev r) (xs := R1) (ys := L1) (C := C) rfl (ev_disp (evs_any (cv r W _ _ .lit).now (evs_any (cv r W _ _ (.sub .lit .lit)).now (evs_any (cv r W _ _ .lit).now (evs_any (r03 r W).now (evs_any (ev_listOf0 (xs := [.str "bake", .tup (zs sh), .tup (n9 sh), .int 9]) (.var (i := 5) rfl)) (evs_any (dv r (W ++ [X]) _ _ .lit).now (evs_any (dv r (W ++ [X]) _ _ .lit).now (evs_any (dv r (W ++ [X]) _ _ .lit).now (evs_any (dv r (W ++ [X]) _ _ .lit).now evs_nil))))))))) (Nat.le_of_ble_eq_true rfl)) (at_more (at_more hl _) _) lstAt_last (by show R1.length + 9 ≤ 1000; omega)
  have l2 : lstAt W2 W1.length = some (R1 ++ L1) := lstAt_last
  -- the second
  let Y : IObj := .lst (zs sh)
  let L2 : List D := [.tup [.str "bake", .tup (zs sh ++ [.int 0]), .tup (n9 sh), .int 9], .tup [.str "bake", .tup (zs sh), .tup ((n9 sh).drop 1), .int 9], .tup [.str "bake", .ref W2.length, .tup (n9 sh), .int 9]]
  let W3 : IH := (W2 ++ [Y]) ++ [.lst L2]
  let W4 : IH := W3 ++ [.lst ((R1 ++ L1) ++ L2)]
  have f0 : Sv C W2 (ev W1.length) (.bin .add (.bin .add (.sl (.var 5) .no (.yes (.lit (.int 1)))) (.tup (.cons (.bin .add (.ix (.var 5) (.lit (.int 1))) (.tup (.cons (.lit (.int 0)) .nil))) .nil))) (.sl (.var 5) (.yes (.lit (.int 2))) .no)) (.tup [.str "bake", .tup (zs sh ++ [.int 0]), .tup (n9 sh), .int 9]) :=
    to (catS (catS (r01 _ _) (.tup (.one (.cat (i1 _ _) (.tup (.one .lit)) (by rw [zl, sizeLine_eq]; simp only [List.length_cons, List.length_nil]; omega)))) rfl) (r2_ _ _) rfl) rfl
  have f1 : Sv C W2 (ev W1.length) (.bin .add (.bin .add (.sl (.var 5) .no (.yes (.lit (.int 2)))) (.tup (.cons (.sl (.ix (.var 5) (.lit (.int 2))) (.yes (.lit (.int 1))) .no) .nil))) (.sl (.var 5) (.yes (.lit (.int 3))) .no)) (.tup [.str "bake", .tup (zs sh), .tup ((n9 sh).drop 1), .int 9]) :=
    to (catS (catS (r02 _ _) (.tup (.one (sl_drop (k := 1) (i2 _ _) .lit rfl (by rw [nl]; omega)))) rfl) (r3_ _ _) rfl) rfl
  have f2 := ev_wrap (r01 W1.length W2) (ev_listOf0 (i1 W1.length W2)) (r2_ W1.length (W2 ++ [Y])) (by decide) (Nat.le_of_ble_eq_true rfl)
  have e2 := ev_more (i := 7) (ih := W2) (env := ev W1.length) (xs := R1 ++ L1) (ys := L2) (C := C) rfl (ev_disp (evs_any f0.now (evs_any f1.now (evs_any f2 evs_nil))) (by show 3 ≤ 1000; decide)) (at_more (at_more l2 _) _) lstAt_last (by rw [List.length_append]; show R1.length + 9 + 3 ≤ 1000; omega)
  refine ⟨W4, W3.length, (R1 ++ L1) ++ L2, Eq.trans (ss_asg e1 (env' := ev W1.length) rfl) (ss_asg e2 (env' := ev W3.length) rfl), lstAt_last, fun x hx => ?_, by rw [List.length_append, List.length_append]; show R1.length + 9 + 3 ≤ 50; omega⟩
  have w4 : W.length < W4.length := by simp [W4, W3, W2, W1]
  have w42 : W2.length < W4.length := by simp [W4, W3, W2, W1]
  rcases List.mem_append.mp hx with hx | hx
  · rcases List.mem_append.mp hx with hx | hx
    · exact (hR x hx).mono (Nat.le_of_lt w4)
    · simp only [L1, List.mem_cons, List.not_mem_nil, or_false] at hx
      rcases hx with rfl | rfl | rfl | rfl | rfl | rfl | rfl | rfl | rfl
      · exact rb_cost rfl (by decide)
      · exact rb_cost rfl (by decide)
      · exact rb_cost rfl (by decide)
      · exact ⟨by simp only [okR, okRs, okRs_rep, Bool.and_self], short_bake, rfl⟩
      · exact rb_ref w4
      · exact rb_name rfl (shortB_ok (by decide +kernel)) (by decide +kernel)
      · exact rb_name rfl (shortB_ok (by decide +kernel)) (by decide +kernel)
      · exact rb_name rfl (shortB_ok (by decide +kernel)) (by decide +kernel)
      · exact rb_name rfl trivial rfl
  · simp only [L2, List.mem_cons, List.not_mem_nil, or_false] at hx
    rcases hx with rfl | rfl | rfl
    · refine ⟨by simp only [okR, okRs, okRs_app (n := W4.length) (a := zs sh) (b := [D.int 0]) okRs_rep rfl, okRs_rep, Bool.and_self], short_bake, ?_⟩
      rw [recB_mk, bound_len (ds := zs sh ++ [D.int 0]) (n := (sz sh : Int)) (m := 9) (by rw [List.length_append, zl]; simp; omega)]
      simp
    · refine ⟨by simp only [okR, okRs, okRs_of (n := W4.length) (ds := (n9 sh).drop 1) (fun d hd => okRs_mem okRs_rep d (List.mem_of_mem_drop hd)), okRs_rep, Bool.and_self], short_bake, ?_⟩
      rw [recB_mk, bound_len (ds := (n9 sh).drop 1) (n := (sz sh : Int)) (m := 9) (by rw [List.length_drop, nl]; omega)]
      simp
    · refine ⟨by simp only [okR, okRs, okRs_rep, Bool.and_self, decide_eq_true w42], short_bake, ?_⟩
      rw [recB_mk]
      show (_ && ((false && _) && _)) = false
      simp
end
end K01
namespace K01
open PySem PySem.Spec PyProof.Rows L2 CP Lib
abbrev EX (s : D) (b sz k : Nat) (shop row great rows part own bad names twice nine seven words good wrong one j : Option D) : IEnv := [some s, some (.ref b), shop, some (.int sz), some (.int k), row, great, rows, part, own, bad, names, twice, nine, seven, words, good, wrong, one, j]
section
variable {C : Orc} {s : D} {b k : Nat} {sh : Shop} (h : ShopOk 4 5 sh) (hk : k < sz sh)
include h hk
theorem bad_stage {W : IH} {r : Nat} {R : List D} (great a' b' : Option D) (hl : lstAt W r = some R) (hR : ∀ x ∈ R, RowBad W.length (sz sh) x) (h5 : R.length ≤ 50) : ∃ W' q B, evSs C 1000 (m_law.body.drop 11) (EV s b (sz sh) k (some (shop2 sh)) (some (bake sh)) great (some (.ref r)) a' b' none none none none none none none none) W =
      evSs C 1000 (m_law.body.drop 16) (EV s b (sz sh) k (some (shop2 sh)) (some (bake sh)) great (some (.ref r)) a' b' (some (.ref q)) (some (.tup (nm sh))) none none none none none none) W' ∧ lstAt W' q = some B ∧ (∀ x ∈ B, Bad W'.length x) ∧ B.length ≤ 70 := by
  have hz := len_sz h
  have nml : (nm sh).length = sz sh := List.length_map ..
  have stl : (st sh).length = sz sh := (List.length_map ..).trans h.stl
  have gol : (go sh).length = sz sh := (List.length_map ..).trans h.gol
  have hrl := h.rows
  have rsl : (rs sh).length ≤ 5 := by rw [List.length_map]; exact hrl
  let ev (bad names one : Option D) : IEnv := EX s b (sz sh) k (some (shop2 sh)) (some (bake sh)) great (some (.ref r)) a' b' bad names none none none none none none one none
  let S5 : List D := [shopW, .tup (nm sh), .tup (rs sh ++ [bake sh]), .tup (st sh), .tup (go sh)]
  have v2 : ∀ p q o V, Sv C V (ev p q o) (.var 2) (.tup S5) := fun p q o V => .var rfl
  have s02 : ∀ p q o V, Sv C V (ev p q o) (.sl (.var 2) .no (.yes (.lit (.int 2)))) (.tup [shopW, .tup (nm sh)]) := fun p q o V => to (.slT (v2 p q o V) .no (.yes .lit)) rfl
  have s03 : ∀ p q o V, Sv C V (ev p q o) (.sl (.var 2) .no (.yes (.lit (.int 3)))) (.tup [shopW, .tup (nm sh), .tup (rs sh ++ [bake sh])]) := fun p q o V => to (.slT (v2 p q o V) .no (.yes .lit)) rfl
  have s04 : ∀ p q o V, Sv C V (ev p q o) (.sl (.var 2) .no (.yes (.lit (.int 4)))) (.tup [shopW, .tup (nm sh), .tup (rs sh ++ [bake sh]), .tup (st sh)]) := fun p q o V => to (.slT (v2 p q o V) .no (.yes .lit)) rfl
  have s2_ : ∀ p q o V, Sv C V (ev p q o) (.sl (.var 2) (.yes (.lit (.int 2))) .no) (.tup [.tup (rs sh ++ [bake sh]), .tup (st sh), .tup (go sh)]) := fun p q o V => to (.slT (v2 p q o V) (.yes .lit) .no) rfl
  have s3_ : ∀ p q o V, Sv C V (ev p q o) (.sl (.var 2) (.yes (.lit (.int 3))) .no) (.tup [.tup (st sh), .tup (go sh)]) := fun p q o V => to (.slT (v2 p q o V) (.yes .lit) .no) rfl
  have i0 : ∀ p q o V, Sv C V (ev p q o) (.ix (.var 2) (.lit (.int 0))) shopW := fun p q o V => .ixT (v2 p q o V) .lit (atI_nat (k := 0) rfl)
  have i1 : ∀ p q o V, Sv C V (ev p q o) (.ix (.var 2) (.lit (.int 1))) (.tup (nm sh)) := fun p q o V => .ixT (v2 p q o V) .lit (atI_nat (k := 1) rfl)
  have i2 : ∀ p q o V, Sv C V (ev p q o) (.ix (.var 2) (.lit (.int 2))) (.tup (rs sh ++ [bake sh])) := fun p q o V => .ixT (v2 p q o V) .lit (atI_nat (k := 2) rfl)
  have i3 : ∀ p q o V, Sv C V (ev p q o) (.ix (.var 2) (.lit (.int 3))) (.tup (st sh)) := fun p q o V => .ixT (v2 p q o V) .lit (atI_nat (k := 3) rfl)
  have i4 : ∀ p q o V, Sv C V (ev p q o) (.ix (.var 2) (.lit (.int 4))) (.tup (go sh)) := fun p q o V => .ixT (v2 p q o V) .lit (atI_nat (k := 4) rfl)
  -- bad = [.. for one in rows]
  let f1 (x : D) : D := mk (.tup (nm sh)) (.tup (rs sh ++ [x])) (.tup (st sh)) (.tup (go sh))
  have c1 := ev_compM (C := C) (ih := W) (z := []) (env := ev none none none) (tg := .name 18) (own := [18]) (f := f1)
    (elt := .bin .add (.bin .add (.sl (.var 2) .no (.yes (.lit (.int 2)))) (.tup (.cons (.bin .add (.sl (.ix (.var 2) (.lit (.int 2))) .no (.yes (.neg (.lit (.int 1))))) (.tup (.cons (.var 18) .nil))) .nil))) (.sl (.var 2) (.yes (.lit (.int 3))) .no))
    (Svi.ref (a := .var 7) (.var rfl) hl) (by omega) (fun x hx => ⟨ev none none (some x), rfl, by
      have t : Sv C W (ev none none (some x)) (.sl (.ix (.var 2) (.lit (.int 2))) .no (.yes (.neg (.lit (.int 1))))) (.tup (rs sh)) := to (.slT (i2 _ _ _ _) .no (.yes (.neg .lit))) (congrArg D.tup cut_init)
      exact to (catS (catS (s02 _ _ _ _) (.tup (.one (.cat t (.tup (.one (.var rfl))) (by rw [sizeLine_eq]; simp only [List.length_cons, List.length_nil]; omega)))) rfl) (s3_ _ _ _ _) rfl) rfl⟩)
  rw [List.append_nil] at c1
  let B1 := R.map f1
  let W1 : IH := W ++ [.lst B1]
  have l1 : lstAt W1 W.length = some B1 := lstAt_last
  -- the stock
  let O2 : List D := [.int 100, .int (0 - 1), .non, .bl true]
  let f2 (x : D) : D := mk (.tup (nm sh)) (.tup (rs sh ++ [bake sh])) (.tup (putAt (st sh) k x)) (.tup (go sh))
  have c2 := ev_compM (C := C) (ih := W1) (z := []) (env := ev (some (.ref W.length)) none none) (tg := .name 18) (own := [18]) (f := f2) (xs := O2)
    (elt := .bin .add (.sl (.var 2) .no (.yes (.lit (.int 3)))) (.tup (.cons (.bin .add (.bin .add (.sl (.ix (.var 2) (.lit (.int 3))) .no (.yes (.var 4))) (.tup (.cons (.var 18) .nil))) (.sl (.ix (.var 2) (.lit (.int 3))) (.yes (.bin .add (.var 4) (.lit (.int 1)))) .no)) (.cons (.ix (.var 2) (.lit (.int 4))) .nil))))
    (Svi.tup (.tup (.cons .lit (.cons (.sub .lit .lit) (.cons .lit (.cons .lit .nil)))))) (by decide) (fun x hx => ⟨ev (some (.ref W.length)) none (some x), rfl,
      to (catS (s03 _ _ _ _) (.tup (.cons (sv_putAt (i3 _ _ _ _) (.var rfl) rfl (by rw [stl]; exact hk) (by rw [stl]; omega)) (.one (i4 _ _ _ _)))) rfl) rfl⟩)
  rw [List.append_nil] at c2
  let B2 := B1 ++ O2.map f2
  have m2 := ev_more (i := 10) (env := ev (some (.ref W.length)) none none) rfl c2 (at_more l1 _) lstAt_last (by show (R.map f1).length + 4 ≤ 1000; rw [List.length_map]; omega)
  let W2 : IH := (W1 ++ [.lst (O2.map f2)]) ++ [.lst B2]
  have l2 : lstAt W2 (W1 ++ [IObj.lst (O2.map f2)]).length = some B2 := lstAt_last
  generalize hq2 : (W1 ++ [IObj.lst (O2.map f2)]).length = q2 at l2 m2
  -- the goal
  let O3 : List D := [.int 21, .int (0 - 1), .bl false]
  let f3 (x : D) : D := mk (.tup (nm sh)) (.tup (rs sh ++ [bake sh])) (.tup (st sh)) (.tup (putAt (go sh) k x))
  have c3 := ev_compM (C := C) (ih := W2) (z := []) (env := ev (some (.ref q2)) none none) (tg := .name 18) (own := [18]) (f := f3) (xs := O3)
    (elt := .bin .add (.sl (.var 2) .no (.yes (.lit (.int 4)))) (.tup (.cons (.bin .add (.bin .add (.sl (.ix (.var 2) (.lit (.int 4))) .no (.yes (.var 4))) (.tup (.cons (.var 18) .nil))) (.sl (.ix (.var 2) (.lit (.int 4))) (.yes (.bin .add (.var 4) (.lit (.int 1)))) .no)) .nil)))
    (Svi.tup (.tup (.cons .lit (.cons (.sub .lit .lit) (.cons .lit .nil))))) (by decide) (fun x hx => ⟨ev (some (.ref q2)) none (some x), rfl,
      to (catS (s04 _ _ _ _) (.tup (.one (sv_putAt (i4 _ _ _ _) (.var rfl) rfl (by rw [gol]; exact hk) (by rw [gol]; omega)))) rfl) rfl⟩)
  rw [List.append_nil] at c3
  let B3 := B2 ++ O3.map f3
  have m3 := ev_more (i := 10) (env := ev (some (.ref q2)) none none) rfl c3 (at_more l2 _) lstAt_last (by show (R.map f1 ++ O2.map f2).length + 3 ≤ 1000; rw [List.length_append, List.length_map]; show _ + 4 + 3 ≤ _; omega)
  let W3 : IH := (W2 ++ [.lst (O3.map f3)]) ++ [.lst B3]
  have l3 : lstAt W3 (W2 ++ [IObj.lst (O3.map f3)]).length = some B3 := lstAt_last
  generalize hq3 : (W2 ++ [IObj.lst (O3.map f3)]).length = q3 at l3 m3
  -- the names
  let O4 : List D := [.str "Wood", .str "9a", .str "", .str "stock", .str "abcdefghijk", .str "a_b", .int 3, .non]
  let f4 (x : D) : D := mk (.tup (putAt (nm sh) k x)) (.tup (rs sh ++ [bake sh])) (.tup (st sh)) (.tup (go sh))
  have c4 := ev_compM (C := C) (ih := W3) (z := []) (env := ev (some (.ref q3)) (some (.tup (nm sh))) none) (tg := .name 18) (own := [18]) (f := f4) (xs := O4)
    (elt := .bin .add (.tup (.cons (.ix (.var 2) (.lit (.int 0))) (.cons (.bin .add (.bin .add (.sl (.var 11) .no (.yes (.var 4))) (.tup (.cons (.var 18) .nil))) (.sl (.var 11) (.yes (.bin .add (.var 4) (.lit (.int 1)))) .no)) .nil))) (.sl (.var 2) (.yes (.lit (.int 2))) .no))
    (Svi.tup (.tup (.cons .lit (.cons .lit (.cons .lit (.cons .lit (.cons .lit (.cons .lit (.cons .lit (.cons .lit .nil)))))))))) (by decide) (fun x hx => ⟨ev (some (.ref q3)) (some (.tup (nm sh))) (some x), rfl,
      to (catS (.tup (.cons (i0 _ _ _ _) (.one (sv_putAt (.var rfl) (.var rfl) rfl (by rw [nml]; exact hk) (by rw [nml]; omega))))) (s2_ _ _ _ _) rfl) rfl⟩)
  rw [List.append_nil] at c4
  let B4 := B3 ++ O4.map f4
  have b4l : B4.length = R.length + 15 := by simp [B4, B3, B2, B1, O2, O3, O4]
  have m4 := ev_more (i := 10) (env := ev (some (.ref q3)) (some (.tup (nm sh))) none) rfl c4 (at_more l3 _) lstAt_last (by have : B3.length + (O4.map f4).length = B4.length := (List.length_append ..).symm; rw [this, b4l]; omega)
  let W4 : IH := (W3 ++ [.lst (O4.map f4)]) ++ [.lst B4]
  refine ⟨W4, (W3 ++ [IObj.lst (O4.map f4)]).length, B4, ?_, lstAt_last, ?_, by rw [b4l]; omega⟩
  · refine Eq.trans (ss_asg (env' := ev (some (.ref W.length)) none none) c1 rfl) ?_
    refine Eq.trans (ss_asg (env' := ev (some (.ref q2)) none none) m2 rfl) ?_
    refine Eq.trans (ss_asg (env' := ev (some (.ref q3)) none none) m3 rfl) ?_
    refine Eq.trans (ss_asg (env' := ev (some (.ref q3)) (some (.tup (nm sh))) none) (i1 _ _ _ _).now rfl) ?_
    exact ss_asg (env' := ev (some (.ref (W3 ++ [IObj.lst (O4.map f4)]).length)) (some (.tup (nm sh))) none) m4 rfl
  · have w : W.length ≤ W4.length := by simp [W4, W3, W2, W1]
    have ok : ∀ {n : Nat} {l : List D} {v : D}, okRs n l = true → okR n v = true → okRs n (putAt l k v) = true := fun hl hv => okRs_of (putAt_all (okRs_mem hl) hv)
    intro x hx
    rcases List.mem_append.mp hx with hx | hx
    · rcases List.mem_append.mp hx with hx | hx
      · rcases List.mem_append.mp hx with hx | hx
        · obtain ⟨y, hy, rfl⟩ := List.mem_map.mp hx
          exact bad_row h ((hR y hy).mono w)
        · obtain ⟨y, hy, rfl⟩ := List.mem_map.mp hx
          simp only [O2, List.mem_cons, List.not_mem_nil, or_false] at hy
          rcases hy with rfl | rfl | rfl | rfl
          · exact bad_stock h (ok (okRs_ints _) rfl) putAt_mem (by decide)
          · exact bad_stock h (ok (okRs_ints _) rfl) putAt_mem (by decide)
          · exact bad_stock h (ok (okRs_ints _) rfl) putAt_mem (by decide)
          · exact bad_stock h (ok (okRs_ints _) rfl) putAt_mem (by decide)
      · obtain ⟨y, hy, rfl⟩ := List.mem_map.mp hx
        simp only [O3, List.mem_cons, List.not_mem_nil, or_false] at hy
        rcases hy with rfl | rfl | rfl
        · exact bad_goal h (ok (okRs_ints _) rfl) putAt_mem (by decide)
        · exact bad_goal h (ok (okRs_ints _) rfl) putAt_mem (by decide)
        · exact bad_goal h (ok (okRs_ints _) rfl) putAt_mem (by decide)
    · obtain ⟨y, hy, rfl⟩ := List.mem_map.mp hx
      simp only [O4, List.mem_cons, List.not_mem_nil, or_false] at hy
      rcases hy with rfl | rfl | rfl | rfl | rfl | rfl | rfl | rfl
      · exact bad_names h rfl (shortB_ok (by decide +kernel)) (by decide +kernel)
      · exact bad_names h rfl (shortB_ok (by decide +kernel)) (by decide +kernel)
      · exact bad_names h rfl (shortB_ok (by decide +kernel)) (by decide +kernel)
      · exact bad_names h rfl (shortB_ok (by decide +kernel)) (by decide +kernel)
      · exact bad_names h rfl (shortB_ok (by decide +kernel)) (by decide +kernel)
      · exact bad_names h rfl (shortB_ok (by decide +kernel)) (by decide +kernel)
      · exact bad_names h rfl trivial rfl
      · exact bad_names h rfl trivial rfl
end
end K01
namespace K01
open PySem PySem.Spec PyProof.Rows L2 CP Lib
def ftw : D → D
  | .tup [a, .tup b, .tup c, e] => .tup [a, .tup (b ++ [.int 0]), .tup (c ++ [.int 0]), e]
  | _ => .non
def fnine (sh : Shop) : D → D
  | .int i => .tup [.str ("r" ++ (toString i : Str)), .tup (zs sh), .tup (n9 sh), .int 9]
  | _ => .non
def fseven : D → D
  | .int i => .str ("t" ++ (toString i : Str))
  | _ => .non
abbrev nineL (sh : Shop) : List D := (rangeL 0 9).map (fnine sh)
abbrev sevenL : List D := (rangeL 0 7).map fseven
abbrev zs7 : List D := List.replicate 7 (.int 0)
section
variable {sh : Shop} {k : Nat} (h : ShopOk 4 5 sh) (hk : k < sz sh)
include h
theorem row_form : ∀ x ∈ rs sh ++ [bake sh], ∃ (t : Str) (bn cn : List D) (e : Int), x = .tup [.str t, .tup bn, .tup cn, .int e] ∧ D.pures bn = true ∧ D.pures cn = true ∧ bn.length ≤ 10 ∧ cn.length ≤ 10 ∧ shortD (.str t) := fun x hx => by
  have hz := len_sz h
  rcases List.mem_append.mp hx with hx | hx
  · obtain ⟨r, hr, rfl⟩ := List.mem_map.mp hx
    obtain ⟨i, hi⟩ := List.mem_iff_getElem?.mp hr
    have o := h.each i r hi
    exact ⟨r.title, _, _, r.cost, rfl, pures_int _, pures_int _, by rw [List.length_map, o.nl]; have := h.hi; omega, by rw [List.length_map, o.gl]; have := h.hi; omega, shortB_ok (titles8_ok _ (h.rec_ok (by decide) hr).2).2⟩
  · rw [List.mem_singleton.mp hx]
    refine ⟨"bake", zs sh, n9 sh, 9, rfl, ?_, ?_, by rw [List.length_replicate]; omega, by rw [List.length_replicate]; omega, short_bake⟩
    · rw [show zs sh = (List.replicate (sz sh) (0 : Int)).map D.int by rw [List.map_replicate]]; exact pures_int _
    · rw [show n9 sh = (List.replicate (sz sh) (9 : Int)).map D.int by rw [List.map_replicate]]; exact pures_int _
abbrev twiceD (sh : Shop) (x : D) : D := mk (.tup (nm sh ++ [x])) (.tup ((rs sh ++ [bake sh]).map ftw)) (.tup (st sh ++ [.int 0])) (.tup (go sh ++ [.int 0]))
theorem bad_twice {n : Nat} {x : D} (hx : x ∈ nm sh) : Bad n (twiceD sh x) := by
  obtain ⟨y, hy, rfl⟩ := List.mem_map.mp hx
  have hall : okRs n ((rs sh ++ [bake sh]).map ftw) = true := okRs_pures (pures_mapA fun x hx => by
    obtain ⟨t, bn, cn, e, rfl, p1, p2, _⟩ := row_form h x hx
    have q : ∀ l : List D, D.pures l = true → D.pures (l ++ [.int 0]) = true := fun l hl => by
      induction l with
      | nil => rfl
      | cons a l ihl =>
        rw [List.cons_append]
        unfold D.pures at hl ⊢
        rw [Bool.and_eq_true] at hl
        rw [hl.1, ihl hl.2]; rfl
    show D.pure (.tup [.str t, .tup (bn ++ [.int 0]), .tup (cn ++ [.int 0]), .int e]) = true
    simp [D.pure, D.pures, q bn p1, q cn p2])
  refine ⟨ok_mk (ok_tup (okRs_app (okRs_strs _) rfl)) (ok_tup hall) (ok_tup (okRs_app (okRs_ints _) rfl)) (ok_tup (okRs_app (okRs_ints _) rfl)), ⟨short_shop, fun z hz => ?_, fun r hr => ?_⟩, ?_⟩
  · rcases List.mem_append.mp hz with hz | hz
    · exact h.short z hz
    · rw [List.mem_singleton.mp hz]; exact h.short _ hx
  · obtain ⟨x, hx, rfl⟩ := List.mem_map.mp hr
    obtain ⟨t, bn, cn, e, rfl, _, _, _, _, ht⟩ := row_form h x hx
    exact ht
  · rw [shopB_mk]
    have e : (nm sh ++ [D.str y]).all (fun x => cntD x (nm sh ++ [.str y]) == 1) = false := by
      rw [Bool.eq_false_iff]
      intro q
      have q1 := List.all_eq_true.mp q (.str y) (List.mem_append_right _ List.mem_cons_self)
      rw [beq_iff_eq] at q1
      unfold cntD at q1
      rw [List.countP_append] at q1
      have p1 : 0 < (nm sh).countP (fun z => D.eqv z (.str y)) := List.countP_pos_iff.mpr ⟨.str y, hx, by simp [D.eqv]⟩
      have p2 : ([D.str y]).countP (fun z => D.eqv z (.str y)) = 1 := by simp [D.eqv]
      rw [p2] at q1
      omega
    rw [namesB_tup, e]
    simp
theorem nine_first : (nineL sh).map firstD = [.str "r0", .str "r1", .str "r2", .str "r3", .str "r4", .str "r5", .str "r6", .str "r7", .str "r8"] := by rfl
theorem nine_ok {n : Nat} : okRs n (nineL sh) = true := okRs_of fun x hx => by
  obtain ⟨y, hy, rfl⟩ := List.mem_map.mp hx
  obtain ⟨i, hi⟩ := List.mem_iff_getElem?.mp hy
  obtain ⟨_, rfl⟩ := rangeL_get hi
  show okR n (.tup [.str _, .tup (zs sh), .tup (n9 sh), .int 9]) = true
  simp only [okR, okRs, okRs_rep, Bool.and_self]
omit h in
theorem r_ok : ∀ i : Fin 9, nameS ("r" ++ (toString (((i : Nat) : Int)) : Str)) = true ∧ shortB ("r" ++ (toString (((i : Nat) : Int)) : Str)) = true := by decide +kernel
theorem nine_row : ∀ x ∈ nineL sh, recB (sz sh) x = true ∧ short0 x := fun x hx => by
  obtain ⟨y, hy, rfl⟩ := List.mem_map.mp hx
  obtain ⟨i, hi⟩ := List.mem_iff_getElem?.mp hy
  obtain ⟨hi9, rfl⟩ := rangeL_get hi
  have e : (0 + (i : Int)) = (i : Int) := by omega
  have r := r_ok ⟨i, hi9⟩
  simp only at r
  rw [e]
  have b := bake_rec h
  rw [recB_mk] at b
  simp only [Bool.and_eq_true] at b
  refine ⟨?_, shortB_ok r.2⟩
  show recB _ (.tup [.str _, .tup (zs sh), .tup (n9 sh), .int 9]) = true
  rw [recB_mk]
  simp only [Bool.and_eq_true]
  exact ⟨r.1, b.2⟩
abbrev nineD (sh : Shop) (l : List D) : D := mk (.tup (nm sh)) (.tup l) (.tup (st sh)) (.tup (go sh))
theorem bad_nine {n : Nat} : Bad n (nineD sh (nineL sh)) := by
  refine ⟨ok_mk (ok_tup (okRs_strs _)) (ok_tup (nine_ok h)) (ok_tup (okRs_ints _)) (ok_tup (okRs_ints _)), ⟨short_shop, h.short, fun r hr => (nine_row h r hr).2⟩, ?_⟩
  rw [shopB_mk]
  have e : decide (((nineL sh).length : Int) ≤ 8) = false := by rfl
  rw [e]
  simp
theorem nine8_ok {n : Nat} : okR n (nineD sh ((nineL sh).take 8)) = true ∧ shortShop (nineD sh ((nineL sh).take 8)) ∧ shopB (nineD sh ((nineL sh).take 8)) = true := by
  refine ⟨ok_mk (ok_tup (okRs_strs _)) (ok_tup (okRs_of fun d hd => okRs_mem (nine_ok h) d (List.mem_of_mem_take hd))) (ok_tup (okRs_ints _)) (ok_tup (okRs_ints _)), ⟨short_shop, h.short, fun r hr => (nine_row h r (List.mem_of_mem_take hr)).2⟩, ?_⟩
  rw [shopB_mk]
  have e1 : ((nineL sh).take 8).all (recB (nm sh).length) = true := List.all_eq_true.mpr fun x hx => by rw [List.length_map]; exact (nine_row h x (List.mem_of_mem_take hx)).1
  have e2 : dupB (((nineL sh).take 8).map firstD) = false := by
    rw [List.map_take, nine_first h]
    decide +kernel
  have b1 := bound_ok h.stl h.stb (show (3 : Int) ≤ 99 by decide)
  have b2 := bound_ok h.gol h.gob (show (3 : Int) ≤ 20 by decide)
  rw [e1, e2, h.nmB (by decide), List.length_map, b1, b2]
  rfl
end
abbrev sevenD : D := mk (.tup sevenL) (.tup []) (.tup zs7) (.tup zs7)
theorem bad_seven {n : Nat} : Bad n sevenD := by
  refine ⟨ok_mk (ok_tup (okRs_of fun x hx => ?_)) rfl rfl rfl, ⟨short_shop, fun x hx => ?_, fun r hr => by cases hr⟩, by decide +kernel⟩
  · obtain ⟨y, hy, rfl⟩ := List.mem_map.mp hx
    obtain ⟨i, hi⟩ := List.mem_iff_getElem?.mp hy
    obtain ⟨_, rfl⟩ := rangeL_get hi
    rfl
  · obtain ⟨y, hy, rfl⟩ := List.mem_map.mp hx
    obtain ⟨i, hi⟩ := List.mem_iff_getElem?.mp hy
    obtain ⟨hi7, rfl⟩ := rangeL_get hi
    have e : (0 + (i : Int)) = (i : Int) := by omega
    rw [e]
    have : ∀ i : Fin 7, shortB ("t" ++ (toString (((i : Nat) : Int)) : Str)) = true := by decide +kernel
    exact shortB_ok (this ⟨i, hi7⟩)
end K01
namespace K01
open PySem PySem.Spec PyProof.Rows L2 CP Lib
theorem ev_tup {C : Orc} {W W' : IH} {env : IEnv} {es : MEs} {ds : List D} (h : evEs C es env W = some (ds, W')) (hz : ds.length ≤ 1000) : evE C (.tup es) env W = some (.tup ds, W') := by
  have : ds.length ≤ sizeLine := by rw [sizeLine_eq]; omega
  simp only [evE, h, if_pos this]
theorem str_small : ∀ i : Fin 9, (((i : Nat) : Int)).natAbs.log2 < 1920 ∧ (toString (((i : Nat) : Int)) : Str).length ≤ 100 := by decide +kernel
theorem sv_strOf {C : Orc} {W : IH} {env : IEnv} {j i : Nat} {w : Str} (hv : env[j]? = some (some (.int (0 + (i : Int))))) (hi : i < 9) (hw : w.length ≤ 100) : Sv C W env (.bin .add (.lit (.str w)) (.blt .str (.cons (.var j) .nil))) (.str (w ++ (toString (0 + (i : Int)) : Str))) := by
  have e : (0 + (i : Int)) = (i : Int) := by omega
  rw [e] at hv ⊢
  obtain ⟨h1, h2⟩ := str_small ⟨i, hi⟩
  refine .bin .lit (.blt (.one (.var hv)) fun z => by simp only [bltop, blt1]; rw [if_pos h1]) fun z => ?_
  have : w.length + (toString ((i : Nat) : Int) : Str).length ≤ sizeLine := by rw [sizeLine_eq]; simp only at h2; omega
  simp only [binop]
  rw [if_pos this]
def goodL : List D := [.str "a", .str "z0", .str "abcdefghij", .str "lets", .str "thing", .str "ends", .str "a1b2c3d4e5"]
def wordL : List D := closedL.map .str
def wrongL (n : Nat) : List D := [.str "", .str "A", .str "aB", .str "1a", .str "a b", .str "a-b", .str "abcdefghijk", .str " a", .str "a\n", .non, .int 1, .tup [.str "a"], .ref n, .bl true, .str "_a"]
theorem goodL_ok : ∀ x ∈ goodL, (∃ y, x = .str y ∧ shortB y = true) ∧ nameB x = true := fun x hx => by
  simp only [goodL, List.mem_cons, List.not_mem_nil, or_false] at hx
  rcases hx with rfl | rfl | rfl | rfl | rfl | rfl | rfl <;> exact ⟨⟨_, rfl, by decide +kernel⟩, by decide +kernel⟩
theorem wordL_ok : ∀ x ∈ closedL, shortB x = true ∧ nameS x = false := by decide +kernel
theorem wrongL_ok {n m : Nat} (h : n < m) : ∀ x ∈ wrongL n, okR m x = true ∧ shortD x ∧ nameB x = false := fun x hx => by
  simp only [wrongL, List.mem_cons, List.not_mem_nil, or_false] at hx
  rcases hx with rfl | rfl | rfl | rfl | rfl | rfl | rfl | rfl | rfl | rfl | rfl | rfl | rfl | rfl | rfl <;> first
    | exact ⟨rfl, trivial, rfl⟩
    | exact ⟨rfl, shortB_ok (by decide +kernel), by decide +kernel⟩
    | exact ⟨by simp [okR, h], trivial, rfl⟩
section
variable {C : Orc} {s : D} {b k : Nat} {sh : Shop} (hS : ∀ ih d, okR ih.length d = true → shortShop d → C "is_shop" [d] ih = some (.bl (shopB d), ih)) (hN : ∀ ih d, okR ih.length d = true → shortD d → C "is_name" [d] ih = some (.bl (nameB d), ih)) (h : ShopOk 4 5 sh) (hk : k < sz sh)
include hS hN h hk
theorem last_stage {W : IH} {q : Nat} {B : List D} (great rows a' b' : Option D) (hl : lstAt W q = some B) (hB : ∀ x ∈ B, Bad W.length x) (h5 : B.length ≤ 70) : ∃ env' W', evSs C 1000 (m_law.body.drop 16) (EV s b (sz sh) k (some (shop2 sh)) (some (bake sh)) great rows a' b' (some (.ref q)) (some (.tup (nm sh))) none none none none none none) W = some (.ret (.bl true), env', W') := by
  have hz := len_sz h
  have nml : (nm sh).length = sz sh := List.length_map ..
  have stl : (st sh).length = sz sh := (List.length_map ..).trans h.stl
  have gol : (go sh).length = sz sh := (List.length_map ..).trans h.gol
  have hrl := h.rows
  have rsl : (rs sh).length ≤ 5 := by rw [List.length_map]; exact hrl
  let ev (bad twice nine seven words good wrong one j : Option D) : IEnv := EX s b (sz sh) k (some (shop2 sh)) (some (bake sh)) great rows a' b' bad (some (.tup (nm sh))) twice nine seven words good wrong one j
  let S5 : List D := [shopW, .tup (nm sh), .tup (rs sh ++ [bake sh]), .tup (st sh), .tup (go sh)]
  have v2 : ∀ a1 a2 a3 a4 a5 a6 a7 a8 a9 V, Sv C V (ev a1 a2 a3 a4 a5 a6 a7 a8 a9) (.var 2) (.tup S5) := fun a1 a2 a3 a4 a5 a6 a7 a8 a9 V => .var rfl
  have i2 : ∀ a1 a2 a3 a4 a5 a6 a7 a8 a9 V, Sv C V (ev a1 a2 a3 a4 a5 a6 a7 a8 a9) (.ix (.var 2) (.lit (.int 2))) (.tup (rs sh ++ [bake sh])) := fun a1 a2 a3 a4 a5 a6 a7 a8 a9 V => .ixT (v2 a1 a2 a3 a4 a5 a6 a7 a8 a9 V) .lit (atI_nat (k := 2) rfl)
  have i3 : ∀ a1 a2 a3 a4 a5 a6 a7 a8 a9 V, Sv C V (ev a1 a2 a3 a4 a5 a6 a7 a8 a9) (.ix (.var 2) (.lit (.int 3))) (.tup (st sh)) := fun a1 a2 a3 a4 a5 a6 a7 a8 a9 V => .ixT (v2 a1 a2 a3 a4 a5 a6 a7 a8 a9 V) .lit (atI_nat (k := 3) rfl)
  have i4 : ∀ a1 a2 a3 a4 a5 a6 a7 a8 a9 V, Sv C V (ev a1 a2 a3 a4 a5 a6 a7 a8 a9) (.ix (.var 2) (.lit (.int 4))) (.tup (go sh)) := fun a1 a2 a3 a4 a5 a6 a7 a8 a9 V => .ixT (v2 a1 a2 a3 a4 a5 a6 a7 a8 a9 V) .lit (atI_nat (k := 4) rfl)
  have hkn : k < (nm sh).length := by rw [nml]; exact hk
  let x0 : D := (nm sh)[k]
  have hx0 : x0 ∈ nm sh := List.getElem_mem hkn
  have cat0 : ∀ {V : IH} {env : IEnv} {e : ME} {l : List D}, Sv C V env e (.tup l) → l.length ≤ 100 → Sv C V env (.bin .add e (.tup (.cons (.lit (.int 0)) .nil))) (.tup (l ++ [.int 0])) := fun {V env e l} he hl => .cat he (.tup (.one .lit)) (by rw [sizeLine_eq]; simp only [List.length_cons, List.length_nil]; omega)
  -- twice
  have t1 : Sv C W (ev (some (.ref q)) none none none none none none none none) (.tup (.cons (.lit (.str "shop")) (.cons (.bin .add (.var 11) (.tup (.cons (.ix (.var 11) (.var 4)) .nil))) (.cons (.blt .tuple (.cons (.comp (.tup (.cons (.ix (.var 18) (.lit (.int 0))) (.cons (.bin .add (.ix (.var 18) (.lit (.int 1))) (.tup (.cons (.lit (.int 0)) .nil))) (.cons (.bin .add (.ix (.var 18) (.lit (.int 2))) (.tup (.cons (.lit (.int 0)) .nil))) (.cons (.ix (.var 18) (.lit (.int 3))) .nil))))) (.name 18) (.val (.ix (.var 2) (.lit (.int 2)))) .no [18]) .nil)) (.cons (.bin .add (.ix (.var 2) (.lit (.int 3))) (.tup (.cons (.lit (.int 0)) .nil))) (.cons (.bin .add (.ix (.var 2) (.lit (.int 4))) (.tup (.cons (.lit (.int 0)) .nil))) .nil)))))) (twiceD sh x0) := by
    refine .tup (.cons .lit (.cons (.cat (.var rfl) (.tup (.one (.ixT (.var rfl) (.var rfl) (Lib.atI_nat (List.getElem?_eq_getElem hkn))))) (by rw [nml, sizeLine_eq]; simp only [List.length_cons, List.length_nil]; omega)) (.cons (.tupComp (f := ftw) (.tup (i2 _ _ _ _ _ _ _ _ _ _)) (by rw [List.length_append, sizeLine_eq]; simp only [List.length_cons, List.length_nil]; omega) (fun x hx => ⟨ev (some (.ref q)) none none none none none none (some x) none, rfl, ?_⟩) (fun x hx => ?_)) (.cons (cat0 (i3 _ _ _ _ _ _ _ _ _ _) (by rw [stl]; omega)) (.one (cat0 (i4 _ _ _ _ _ _ _ _ _ _) (by rw [gol]; omega)))))))
    · obtain ⟨t, bn, cn, e, rfl, _, _, l1, l2, _⟩ := row_form h x hx
      exact .tup (.cons (.ixT (.var rfl) .lit (atI_nat (k := 0) rfl)) (.cons (cat0 (.ixT (.var rfl) .lit (atI_nat (k := 1) rfl)) (by omega)) (.cons (cat0 (.ixT (.var rfl) .lit (atI_nat (k := 2) rfl)) (by omega)) (.one (.ixT (.var rfl) .lit (atI_nat (k := 3) rfl))))))
    · obtain ⟨t, bn, cn, e, rfl, p1, p2, _⟩ := row_form h x hx
      have qq : ∀ l : List D, D.pures l = true → D.pures (l ++ [.int 0]) = true := fun l hl => by
        induction l with
        | nil => rfl
        | cons a l ihl =>
          rw [List.cons_append]
          unfold D.pures at hl ⊢
          rw [Bool.and_eq_true] at hl
          rw [hl.1, ihl hl.2]; rfl
      show D.pure (.tup [.str t, .tup (bn ++ [.int 0]), .tup (cn ++ [.int 0]), .int e]) = true
      simp [D.pure, D.pures, qq bn p1, qq cn p2]
  let T := twiceD sh x0
  -- nine
  have t2 : Sv C W (ev (some (.ref q)) (some T) none none none none none none none) (.tup (.cons (.lit (.str "shop")) (.cons (.var 11) (.cons (.blt .tuple (.cons (.comp (.bin .add (.tup (.cons (.bin .add (.lit (.str "r")) (.blt .str (.cons (.var 19) .nil))) .nil)) (.sl (.var 5) (.yes (.lit (.int 1))) .no)) (.name 19) (.range (.cons (.lit (.int 9)) .nil)) .no [19]) .nil)) (.cons (.ix (.var 2) (.lit (.int 3))) (.cons (.ix (.var 2) (.lit (.int 4))) .nil)))))) (nineD sh (nineL sh)) := by
    refine .tup (.cons .lit (.cons (.var rfl) (.cons (.tupComp (f := fnine sh) (.range1 (j := 9) .lit (by decide)) (by rw [sizeLine_eq]; decide) (fun x hx => ⟨ev (some (.ref q)) (some T) none none none none none none (some x), rfl, ?_⟩) (fun x hx => ?_)) (.cons (i3 _ _ _ _ _ _ _ _ _ _) (.one (i4 _ _ _ _ _ _ _ _ _ _))))))
    · obtain ⟨i, hi⟩ := List.mem_iff_getElem?.mp hx
      obtain ⟨hi9, rfl⟩ := rangeL_get hi
      exact to (catS (.tup (.one (sv_strOf rfl hi9 (by decide)))) (.slT (ds := [.str "bake", .tup (zs sh), .tup (n9 sh), .int 9]) (.var rfl) (.yes .lit) .no) rfl) rfl
    · obtain ⟨i, hi⟩ := List.mem_iff_getElem?.mp hx
      obtain ⟨hi9, rfl⟩ := rangeL_get hi
      show D.pure (.tup [.str _, .tup (zs sh), .tup (n9 sh), .int 9]) = true
      have p0 : D.pures (zs sh) = true := by rw [show zs sh = (List.replicate (sz sh) (0 : Int)).map D.int by rw [List.map_replicate]]; exact pures_int _
      have p9 : D.pures (n9 sh) = true := by rw [show n9 sh = (List.replicate (sz sh) (9 : Int)).map D.int by rw [List.map_replicate]]; exact pures_int _
      simp [D.pure, D.pures, p0, p9]
  let N := nineD sh (nineL sh)
  -- seven
  have t3 : Sv C W (ev (some (.ref q)) (some T) (some N) none none none none none none) (.tup (.cons (.lit (.str "shop")) (.cons (.blt .tuple (.cons (.comp (.bin .add (.lit (.str "t")) (.blt .str (.cons (.var 19) .nil))) (.name 19) (.range (.cons (.lit (.int 7)) .nil)) .no [19]) .nil)) (.cons (.tup .nil) (.cons (.bin .mul (.tup (.cons (.lit (.int 0)) .nil)) (.lit (.int 7))) (.cons (.bin .mul (.tup (.cons (.lit (.int 0)) .nil)) (.lit (.int 7))) .nil)))))) sevenD := by
    refine .tup (.cons .lit (.cons (.tupComp (f := fseven) (.range1 (j := 7) .lit (by decide)) (by rw [sizeLine_eq]; decide) (fun x hx => ⟨ev (some (.ref q)) (some T) (some N) none none none none none (some x), rfl, ?_⟩) (fun x hx => ?_)) (.cons (.tup .nil (by rw [sizeLine_eq]; decide)) (.cons (sv_rep1 (n := 7) (.tup (.one .lit)) .lit (by decide)) (.one (sv_rep1 (n := 7) (.tup (.one .lit)) .lit (by decide)))))))
    · obtain ⟨i, hi⟩ := List.mem_iff_getElem?.mp hx
      obtain ⟨hi9, rfl⟩ := rangeL_get hi
      exact sv_strOf rfl (by omega) (by decide)
    · obtain ⟨i, hi⟩ := List.mem_iff_getElem?.mp hx
      obtain ⟨hi9, rfl⟩ := rangeL_get hi
      rfl
  -- bad + ..
  let ev4 (bad : Option D) : IEnv := ev bad (some T) (some N) (some sevenD) none none none none none
  have v2' : ∀ p V, Sv C V (ev4 p) (.var 2) (.tup S5) := fun p V => .var rfl
  have s01 : ∀ p V, Sv C V (ev4 p) (.sl (.var 2) .no (.yes (.lit (.int 1)))) (.tup [shopW]) := fun p V => to (.slT (v2' p V) .no (.yes .lit)) rfl
  have s02 : ∀ p V, Sv C V (ev4 p) (.sl (.var 2) .no (.yes (.lit (.int 2)))) (.tup [shopW, .tup (nm sh)]) := fun p V => to (.slT (v2' p V) .no (.yes .lit)) rfl
  have s04 : ∀ p V, Sv C V (ev4 p) (.sl (.var 2) .no (.yes (.lit (.int 4)))) (.tup [shopW, .tup (nm sh), .tup (rs sh ++ [bake sh]), .tup (st sh)]) := fun p V => to (.slT (v2' p V) .no (.yes .lit)) rfl
  have s1_ : ∀ p V, Sv C V (ev4 p) (.sl (.var 2) (.yes (.lit (.int 1))) .no) (.tup [.tup (nm sh), .tup (rs sh ++ [bake sh]), .tup (st sh), .tup (go sh)]) := fun p V => to (.slT (v2' p V) (.yes .lit) .no) rfl
  have s2_ : ∀ p V, Sv C V (ev4 p) (.sl (.var 2) (.yes (.lit (.int 2))) .no) (.tup [.tup (rs sh ++ [bake sh]), .tup (st sh), .tup (go sh)]) := fun p V => to (.slT (v2' p V) (.yes .lit) .no) rfl
  have s3_ : ∀ p V, Sv C V (ev4 p) (.sl (.var 2) (.yes (.lit (.int 3))) .no) (.tup [.tup (st sh), .tup (go sh)]) := fun p V => to (.slT (v2' p V) (.yes .lit) .no) rfl
  let X : IObj := .lst S5
  let Y : IObj := .lst (rs sh ++ [bake sh])
  let L1 : List D := [T, N, sevenD, mk (.tup []) (.tup []) (.tup []) (.tup []), .ref W.length, .tup [shopW, .tup (nm sh), .tup (rs sh ++ [bake sh]), .tup (st sh)], .tup (S5 ++ [.int 0]), .tup [.str "shops", .tup (nm sh), .tup (rs sh ++ [bake sh]), .tup (st sh), .tup (go sh)], .non, shopW, .tup [], .tup [shop2 sh], mk (.tup (nm sh)) (.ref (W ++ [X]).length) (.tup (st sh)) (.tup (go sh))]
  let Wa : IH := (W ++ [X]) ++ [Y]
  let W1 : IH := Wa ++ [.lst L1]
  let W2 : IH := W1 ++ [.lst (B ++ L1)]
  have em : ∀ V, Sv C V (ev4 (some (.ref q))) (.tup .nil) (.tup []) := fun V => .tup .nil (by rw [sizeLine_eq]; decide)
  have g4 : Sv C W (ev4 (some (.ref q))) (.tup (.cons (.lit (.str "shop")) (.cons (.tup .nil) (.cons (.tup .nil) (.cons (.tup .nil) (.cons (.tup .nil) .nil)))))) (mk (.tup []) (.tup []) (.tup []) (.tup [])) := .tup (.cons .lit (.cons (em _) (.cons (em _) (.cons (em _) (.one (em _))))))
  have e1 := ev_more (i := 10) (ih := W) (env := ev4 (some (.ref q))) (xs := B) (ys := L1) (C := C) rfl (ev_disp (evs_any (Sv.var (i := 12) rfl).now (evs_any (Sv.var (i := 13) rfl).now (evs_any (Sv.var (i := 14) rfl).now (evs_any g4.now (evs_any (ev_listOf0 (xs := S5) (v2' _ _))
    (evs_any (s04 _ (W ++ [X])).now (evs_any (to (catS (v2' _ (W ++ [X])) (Sv.tup (.one (.lit (d := .int 0)))) rfl) rfl : Sv C (W ++ [X]) (ev4 (some (.ref q))) _ (.tup (S5 ++ [.int 0]))).now (evs_any (to (catS (Sv.tup (.one (.lit (d := .str "shops")))) (s1_ _ (W ++ [X])) rfl) rfl : Sv C (W ++ [X]) (ev4 (some (.ref q))) _ (.tup [.str "shops", .tup (nm sh), .tup (rs sh ++ [bake sh]), .tup (st sh), .tup (go sh)])).now
      (evs_any (Sv.lit (d := .non)).now (evs_any (Sv.lit (d := shopW)).now (evs_any (em (W ++ [X])).now (evs_any (Sv.tup (.one (v2' _ (W ++ [X])))).now (evs_any (ev_wrap (s02 _ (W ++ [X])) (ev_listOf0 (i2 _ _ _ _ _ _ _ _ _ (W ++ [X]))) (s3_ _ Wa) (Nat.le_of_ble_eq_true rfl) (Nat.le_of_ble_eq_true rfl)) evs_nil))))))))))))) (Nat.le_of_ble_eq_true rfl)) (at_more (at_more (at_more hl _) _) _) lstAt_last (by show B.length + 13 ≤ 1000; omega)
  have l2 : lstAt W2 W1.length = some (B ++ L1) := lstAt_last
  let Z : IObj := .lst (nm sh)
  let L2 : List D := [mk (.tup (nm sh)) (.tup ((rs sh ++ [bake sh]) ++ [bake sh])) (.tup (st sh)) (.tup (go sh)), mk (.ref W2.length) (.tup (rs sh ++ [bake sh])) (.tup (st sh)) (.tup (go sh))]
  let W3 : IH := (W2 ++ [Z]) ++ [.lst L2]
  let W4 : IH := W3 ++ [.lst ((B ++ L1) ++ L2)]
  have g1 : Sv C W2 (ev4 (some (.ref W1.length))) (.bin .add (.bin .add (.sl (.var 2) .no (.yes (.lit (.int 2)))) (.tup (.cons (.bin .add (.ix (.var 2) (.lit (.int 2))) (.tup (.cons (.var 5) .nil))) .nil))) (.sl (.var 2) (.yes (.lit (.int 3))) .no)) (mk (.tup (nm sh)) (.tup ((rs sh ++ [bake sh]) ++ [bake sh])) (.tup (st sh)) (.tup (go sh))) :=
    to (catS (catS (s02 _ _) (.tup (.one (.cat (i2 _ _ _ _ _ _ _ _ _ _) (.tup (.one (.var rfl))) (by rw [List.length_append, sizeLine_eq]; simp only [List.length_cons, List.length_nil]; omega)))) rfl) (s3_ _ _) rfl) rfl
  have e2 := ev_more (i := 10) (ih := W2) (env := ev4 (some (.ref W1.length))) (xs := B ++ L1) (ys := L2) (C := C) rfl (ev_disp (evs_any g1.now (evs_any (ev_wrap (s01 _ W2) (ev_listOf0 (xs := nm sh) (.var (i := 11) rfl)) (s2_ _ (W2 ++ [Z])) (Nat.le_of_ble_eq_true rfl) (Nat.le_of_ble_eq_true rfl)) evs_nil)) (Nat.le_of_ble_eq_true rfl)) (at_more (at_more l2 _) _) lstAt_last (by rw [List.length_append]; show B.length + 13 + 2 ≤ 1000; omega)
  let BB := (B ++ L1) ++ L2
  have l4 : lstAt W4 W3.length = some BB := lstAt_last
  have hBB : ∀ x ∈ BB, Bad W4.length x := by
    have w : W.length < W4.length := by simp [W4, W3, W2, W1, Wa]
    have wx : (W ++ [X]).length < W4.length := by simp [W4, W3, W2, W1, Wa]
    have w2 : W2.length < W4.length := by simp [W4, W3]
    have o1 : ∀ n, okR n (.tup (nm sh)) = true := fun n => ok_tup (okRs_strs _)
    have o2 : ∀ n, okR n (.tup (rs sh ++ [bake sh])) = true := fun n => ok_tup (okRs_app okRs_rows (okRs_one ok_bake))
    have o3 : ∀ n, okR n (.tup (st sh)) = true := fun n => ok_tup (okRs_ints _)
    have o4 : ∀ n, okR n (.tup (go sh)) = true := fun n => ok_tup (okRs_ints _)
    have os : ∀ n, okR n (shop2 sh) = true := fun n => ok_mk (o1 n) (o2 n) (o3 n) (o4 n)
    intro x hx
    rcases List.mem_append.mp hx with hx | hx
    · rcases List.mem_append.mp hx with hx | hx
      · exact (hB x hx).mono (Nat.le_of_lt w)
      · simp only [L1, List.mem_cons, List.not_mem_nil, or_false] at hx
        rcases hx with rfl | rfl | rfl | rfl | rfl | rfl | rfl | rfl | rfl | rfl | rfl | rfl | rfl
        · exact bad_twice h hx0
        · exact bad_nine h
        · exact bad_seven
        · exact ⟨rfl, ⟨short_shop, (fun x hx => by cases hx), (fun x hx => by cases hx)⟩, rfl⟩
        · exact ⟨by simp only [okR, decide_eq_true w], trivial, rfl⟩
        · exact ⟨by have := os W4.length; simp_all [okR, okRs], trivial, rfl⟩
        · exact ⟨by have := os W4.length; simp_all [okR, okRs, S5], trivial, rfl⟩
        · exact ⟨by have := os W4.length; simp_all [okR, okRs], ⟨shortB_ok (by decide +kernel), h.short, short_rows h⟩, rfl⟩
        · exact ⟨rfl, trivial, rfl⟩
        · exact ⟨rfl, trivial, rfl⟩
        · exact ⟨rfl, trivial, rfl⟩
        · exact ⟨ok_tup (okRs_one (os _)), trivial, rfl⟩
        · refine ⟨ok_mk (o1 _) (by simp only [okR, decide_eq_true wx]) (o3 _) (o4 _), ⟨short_shop, h.short, trivial⟩, ?_⟩
          show (wordIs "shop" shopW && (namesB 1 6 (.tup (nm sh)) && false)) = false
          simp
    · simp only [L2, List.mem_cons, List.not_mem_nil, or_false] at hx
      rcases hx with rfl | rfl
      · refine ⟨ok_mk (o1 _) (ok_tup (okRs_app (okR_tup (o2 _)) (okRs_one ok_bake))) (o3 _) (o4 _), ⟨short_shop, h.short, fun r hr => ?_⟩, ?_⟩
        · rcases List.mem_append.mp hr with hr | hr
          · exact short_rows h r hr
          · rw [List.mem_singleton.mp hr]; exact short_bake
        · rw [shopB_mk]
          have e : dupB (((rs sh ++ [bake sh]) ++ [bake sh]).map firstD) = true := by
            rw [List.map_append, firsts h]
            have : ∀ j : Fin 9, dupB (((titles8.take j).map D.str ++ [.str "bake"]) ++ [.str "bake"]) = true := by decide +kernel
            exact this ⟨sh.rows.length, by omega⟩
          rw [e]
          simp
      · refine ⟨ok_mk (by simp only [okR, decide_eq_true w2]) (o2 _) (o3 _) (o4 _), ⟨short_shop, trivial, short_rows h⟩, ?_⟩
        show (wordIs "shop" shopW && (false && false)) = false
        simp
  have bbl : BB.length ≤ 1000 := by simp only [BB, List.length_append]; show B.length + 13 + 2 ≤ 1000; omega
  -- none of them is a shop
  have a1 : Sv C W4 (ev4 (some (.ref W3.length))) (.blt .any (.cons (.comp (.call "is_shop" (.cons (.var 18) .nil)) (.name 18) (.val (.var 10)) .no [18]) .nil)) (.bl false) := by
    have e : BB.any shopB = false := List.any_eq_false.mpr fun x hx => by rw [(hBB x hx).no]; decide
    rw [← e]
    exact sv_anyL (.ref (.var rfl) l4) bbl fun x hx => ⟨ev (some (.ref W3.length)) (some T) (some N) (some sevenD) none none none (some x) none, rfl, .call (.one (.var rfl)) fun z => hS _ _ (okR_mono (by simp) (hBB x hx).ok) (hBB x hx).short⟩
  obtain ⟨n1, n2, n3⟩ := nine8_ok h (n := W4.length)
  have a2 : Sv C W4 (ev4 (some (.ref W3.length))) (.not (.call "is_shop" (.cons (.tup (.cons (.lit (.str "shop")) (.cons (.var 11) (.cons (.sl (.ix (.var 13) (.lit (.int 2))) .no (.yes (.lit (.int 8)))) (.cons (.ix (.var 2) (.lit (.int 3))) (.cons (.ix (.var 2) (.lit (.int 4))) .nil)))))) .nil))) (.bl false) := by
    have g : Sv C W4 (ev4 (some (.ref W3.length))) (.call "is_shop" (.cons (.tup (.cons (.lit (.str "shop")) (.cons (.var 11) (.cons (.sl (.ix (.var 13) (.lit (.int 2))) .no (.yes (.lit (.int 8)))) (.cons (.ix (.var 2) (.lit (.int 3))) (.cons (.ix (.var 2) (.lit (.int 4))) .nil)))))) .nil)) (.bl (shopB (nineD sh ((nineL sh).take 8)))) :=
      .call (.one (.tup (.cons .lit (.cons (.var rfl) (.cons (sl_take (k := 8) (l := nineL sh) (.ixT (.var rfl) .lit (atI_nat (k := 2) rfl)) .lit rfl (Nat.le_of_ble_eq_true rfl)) (.cons (i3 _ _ _ _ _ _ _ _ _ _) (.one (i4 _ _ _ _ _ _ _ _ _ _)))))))) fun z => hS _ _ (okR_mono (by simp) n1) n2
    rw [n3] at g
    exact .not g
  -- words
  let ev5 (words good wrong one : Option D) : IEnv := ev (some (.ref W3.length)) (some T) (some N) (some sevenD) words good wrong one none
  have w1 : Sv C W4 (ev5 none none none none) (.tup (.cons (.lit (.str "let")) (.cons (.lit (.str "things")) (.cons (.lit (.str "class")) (.cons (.lit (.str "recipe")) (.cons (.lit (.str "stock")) (.cons (.lit (.str "goal")) (.cons (.lit (.str "cost")) (.cons (.lit (.str "with")) (.cons (.lit (.str "any")) (.cons (.lit (.str "had")) (.cons (.lit (.str "out")) (.cons (.lit (.str "no")) (.cons (.lit (.str "all")) (.cons (.lit (.str "until")) (.cons (.lit (.str "skip")) (.cons (.lit (.str "end")) .nil))))))))))))))))) (.tup wordL) :=
    to (.tup (.cons .lit (.cons .lit (.cons .lit (.cons .lit (.cons .lit (.cons .lit (.cons .lit (.cons .lit (.cons .lit (.cons .lit (.cons .lit (.cons .lit (.cons .lit (.cons .lit (.cons .lit (.cons .lit .nil))))))))))))))))) rfl
  have w2 : Sv C W4 (ev5 (some (.tup wordL)) none none none) (.tup (.cons (.lit (.str "a")) (.cons (.lit (.str "z0")) (.cons (.lit (.str "abcdefghij")) (.cons (.lit (.str "lets")) (.cons (.lit (.str "thing")) (.cons (.lit (.str "ends")) (.cons (.lit (.str "a1b2c3d4e5")) .nil)))))))) (.tup goodL) :=
    to (.tup (.cons .lit (.cons .lit (.cons .lit (.cons .lit (.cons .lit (.cons .lit (.cons .lit .nil)))))))) rfl
  let W5 : IH := W4 ++ [.lst [.str "a"]]
  have lt : ∀ {V : IH} {d : D}, evE C (.lit d) (ev5 (some (.tup wordL)) (some (.tup goodL)) none none) V = some (d, V) := fun {V d} => Sv.lit.now
  have w3 := ev_tup (C := C) (W := W4) (W' := W5) (env := ev5 (some (.tup wordL)) (some (.tup goodL)) none none) (ds := wrongL W4.length) (evs_any lt (evs_any lt (evs_any lt (evs_any lt (evs_any lt (evs_any lt (evs_any lt (evs_any lt (evs_any lt (evs_any lt (evs_any lt (evs_any (Sv.tup (.one (.lit (d := .str "a")))).now (evs_any (ev_disp (evs_any lt evs_nil) (by decide)) (evs_any lt (evs_any lt evs_nil))))))))))))))) (Nat.le_of_ble_eq_true rfl)
  let E6 : IEnv := ev5 (some (.tup wordL)) (some (.tup goodL)) (some (.tup (wrongL W4.length))) none
  have r1 : Sv C W5 E6 (.blt .all (.cons (.comp (.call "is_name" (.cons (.var 18) .nil)) (.name 18) (.val (.var 16)) .no [18]) .nil)) (.bl true) := by
    have e : goodL.all nameB = true := List.all_eq_true.mpr fun x hx => (goodL_ok x hx).2
    rw [← e]
    refine sv_allL (.tup (.var rfl)) (by decide) fun x hx => ⟨ev5 (some (.tup wordL)) (some (.tup goodL)) (some (.tup (wrongL W4.length))) (some x), rfl, .call (.one (.var rfl)) fun z => ?_⟩
    obtain ⟨⟨y, rfl, hy⟩, _⟩ := goodL_ok x hx
    exact hN _ _ rfl (shortB_ok hy)
  have r2 : Sv C W5 E6 (.not (.blt .any (.cons (.comp (.call "is_name" (.cons (.var 18) .nil)) (.name 18) (.val (.var 15)) .no [18]) .nil))) (.bl true) := by
    have e : wordL.any nameB = false := List.any_eq_false.mpr fun x hx => by
      obtain ⟨y, hy, rfl⟩ := List.mem_map.mp hx
      rw [show nameB (.str y) = nameS y from rfl, (wordL_ok y hy).2]; decide
    have g := sv_anyL (C := C) (ih := W5) (env := E6) (it := .val (.var 15)) (elt := .call "is_name" (.cons (.var 18) .nil)) (tg := .name 18) (own := [18]) (q := nameB) (.tup (xs := wordL) (.var rfl)) (by decide) fun x hx => ⟨ev5 (some (.tup wordL)) (some (.tup goodL)) (some (.tup (wrongL W4.length))) (some x), rfl, .call (.one (.var rfl)) fun z => by
      obtain ⟨y, hy, rfl⟩ := List.mem_map.mp hx
      exact hN _ _ rfl (shortB_ok (wordL_ok y hy).1)⟩
    rw [e] at g
    exact .not g
  have r3 : Sv C W5 E6 (.not (.blt .any (.cons (.comp (.call "is_name" (.cons (.var 18) .nil)) (.name 18) (.val (.var 17)) .no [18]) .nil))) (.bl true) := by
    have hw : W4.length < W5.length := by simp [W5]
    have e : (wrongL W4.length).any nameB = false := List.any_eq_false.mpr fun x hx => by rw [(wrongL_ok hw x hx).2.2]; decide
    have g := sv_anyL (C := C) (ih := W5) (env := E6) (it := .val (.var 17)) (elt := .call "is_name" (.cons (.var 18) .nil)) (tg := .name 18) (own := [18]) (q := nameB) (.tup (xs := wrongL W4.length) (.var rfl)) (Nat.le_of_ble_eq_true rfl) fun x hx => ⟨ev5 (some (.tup wordL)) (some (.tup goodL)) (some (.tup (wrongL W4.length))) (some x), rfl, .call (.one (.var rfl)) fun z => hN _ _ (okR_mono (by simp) (wrongL_ok hw x hx).1) (wrongL_ok hw x hx).2.1⟩
    rw [e] at g
    exact .not g
  refine ⟨E6, W5, ?_⟩
  refine Eq.trans (ss_asg (env' := ev (some (.ref q)) (some T) none none none none none none none) t1.now rfl) ?_
  refine Eq.trans (ss_asg (env' := ev (some (.ref q)) (some T) (some N) none none none none none none) t2.now rfl) ?_
  refine Eq.trans (ss_asg (env' := ev4 (some (.ref q))) t3.now rfl) ?_
  refine Eq.trans (ss_asg (env' := ev4 (some (.ref W1.length))) e1 rfl) ?_
  refine Eq.trans (ss_asg (env' := ev4 (some (.ref W3.length))) e2 rfl) ?_
  refine Eq.trans (ss_ifF (Sv.orF a1 (.or1 a2)).now) ?_
  refine Eq.trans (ss_asg (env' := ev5 (some (.tup wordL)) none none none) w1.now rfl) ?_
  refine Eq.trans (ss_asg (env' := ev5 (some (.tup wordL)) (some (.tup goodL)) none none) w2.now rfl) ?_
  refine Eq.trans (ss_asg (env' := E6) w3 rfl) ?_
  exact ss_ret (Sv.andT r1 (.andT r2 (.and1 r3))).now
end
end K01
namespace K01
open PySem PySem.Spec PyProof.Rows L2 CP Lib
abbrev PP : List MDef := ds.map (·.m)
abbrev CC : Orc := callN PP 1000 39
theorem law_run {s : D} {ih : IH} (hc : ∃ c : Int, CC "_law_cell" [s, .int 0] ih = some (.int c, ih)) : ∃ ih', callN PP 1000 40 "law" [s] ih = some (.bl true, ih') := by
  obtain ⟨c, hc⟩ := hc
  have HS : ∀ ih d, okR ih.length d = true → shortShop d → CC "is_shop" [d] ih = some (.bl (shopB d), ih) := fun ih d h1 h2 => hasShop.shop' 34 ih d h1 h2
  have HN : ∀ ih d, okR ih.length d = true → shortD d → CC "is_name" [d] ih = some (.bl (nameB d), ih) := fun ih d h1 h2 => hasShop.name' 37 ih d h1 h2
  obtain ⟨dl, d1, d2, d3⟩ := draws (C := callN PP 1000 38) (fuel := 1000) (c := c) (cnt := 140) (ih := ih) (by decide)
  have d3' : CC "_law_draws" [.int c, .int 140] ih = some (.ref ih.length, ih ++ [.lst (dl.map .int)]) := by
    rw [show CC = callN PP 1000 (38 + 1) from rfl, callN_eq hasDraws.draws]; exact d3
  let W0 : IH := ih ++ [.lst (dl.map .int)]
  obtain ⟨sh, h, hsh⟩ := law_shop (C := callN PP 1000 38) (fuel := 1000) (ih := W0) (dl := dl) (r := ih.length) (at_ := 0) (things := 4) (recipes := 5) lstAt_last (by omega) (by decide) (by decide) (by decide)
  have hsh' : CC "_law_shop" [.ref ih.length, .int 0, .int 4, .int 5] W0 = some (sh.d, W0) := by
    rw [show CC = callN PP 1000 (38 + 1) from rfl, callN_eq hasDraws.shop]; exact hsh
  have hz := len_sz h
  have nml : (nm sh).length = sz sh := List.length_map ..
  have hrl := h.rows
  have rsl : (rs sh).length ≤ 5 := by rw [List.length_map]; exact hrl
  have m0 := emod_in (x := dl.getD 110 0) (m := (sz sh : Int)) (by omega)
  obtain ⟨k, hk⟩ := nat_of m0.1
  have hk' : k < sz sh := by have := m0.2; omega
  let E (shop size at_ row great rows : Option D) : IEnv := [some s, some (.ref ih.length), shop, size, at_, row, great, rows, none, none, none, none, none, none, none, none, none, none, none, none]
  let S0 : List D := [shopW, .tup (nm sh), .tup (rs sh), .tup (st sh), .tup (go sh)]
  let S5 : List D := [shopW, .tup (nm sh), .tup (rs sh ++ [bake sh]), .tup (st sh), .tup (go sh)]
  -- draws, shop
  have a0 : evE CC (.call "_law_draws" (.cons (.call "_law_cell" (.cons (.var 0) (.cons (.lit (.int 0)) .nil))) (.cons (.lit (.int 140)) .nil))) [some s, none, none, none, none, none, none, none, none, none, none, none, none, none, none, none, none, none, none, none] ih = some (.ref ih.length, W0) := by
    simp only [evE, evEs, List.getElem?_cons_zero, hc, d3']
    rfl
  have a1 : evE CC (.call "_law_shop" (.cons (.var 1) (.cons (.lit (.int 0)) (.cons (.lit (.int 4)) (.cons (.lit (.int 5)) .nil))))) (E none none none none none none) W0 = some (.tup S0, W0) := by
    simp only [E, evE, evEs, List.getElem?_cons_zero, List.getElem?_cons_succ, hsh']
    rfl
  have i1 : ∀ a b c d e V, Sv CC V (E (some (.tup S0)) a b c d e) (.ix (.var 2) (.lit (.int 1))) (.tup (nm sh)) := fun a b c d e V => .ixT (.var rfl) .lit (Lib.atI_nat (k := 1) rfl)
  have len1 : Sv CC W0 (E (some (.tup S0)) none none none none none) (.blt .len (.cons (.ix (.var 2) (.lit (.int 1))) .nil)) (.int (sz sh)) := to (.lenT (i1 _ _ _ _ _ _)) (by rw [nml])
  have at1 : Sv CC W0 (E (some (.tup S0)) none none none none none) (.bin .mod (.blt .int (.cons (.ix (.var 1) (.lit (.int 110))) .nil)) (.blt .len (.cons (.ix (.var 2) (.lit (.int 1))) .nil))) (.int k) := by
    rw [← hk]
    exact .mod (drawD (.var rfl) .lit lstAt_last (by omega) rfl) len1 (by omega)
  -- row
  have row1 : Sv CC W0 (E (some (.tup S0)) (some (.int (sz sh))) (some (.int k)) none none none) (.tup (.cons (.lit (.str "bake")) (.cons (.bin .mul (.tup (.cons (.lit (.int 0)) .nil)) (.var 3)) (.cons (.bin .mul (.tup (.cons (.lit (.int 9)) .nil)) (.var 3)) (.cons (.lit (.int 9)) .nil))))) (bake sh) :=
    .tup (.cons .lit (.cons (sv_rep1 (.tup (.one .lit)) (.var rfl) (by omega)) (.cons (sv_rep1 (.tup (.one .lit)) (.var rfl) (by omega)) (.one .lit))))
  let E1 (shop great rows : Option D) : IEnv := E shop (some (.int (sz sh))) (some (.int k)) (some (bake sh)) great rows
  have sh1 : Sv CC W0 (E1 (some (.tup S0)) none none) (.bin .add (.bin .add (.sl (.var 2) .no (.yes (.lit (.int 2)))) (.tup (.cons (.bin .add (.ix (.var 2) (.lit (.int 2))) (.tup (.cons (.var 5) .nil))) .nil))) (.sl (.var 2) (.yes (.lit (.int 3))) .no)) (shop2 sh) :=
    to (catS (catS (.slT (ds := S0) (.var rfl) .no (.yes .lit)) (.tup (.one (.cat (.ixT (.var rfl) .lit (Lib.atI_nat (k := 2) rfl)) (.tup (.one (.var rfl))) (by rw [sizeLine_eq]; simp only [List.length_cons, List.length_nil]; omega)))) rfl) (.slT (ds := S0) (.var rfl) (.yes .lit) .no) rfl) rfl
  let great : D := mk (.tup (nm sh)) (.tup (rs sh ++ [bake sh])) (.tup (List.replicate (sz sh) (.int 99))) (.tup (List.replicate (sz sh) (.int 20)))
  have gr1 : Sv CC W0 (E1 (some (shop2 sh)) none none) (.bin .add (.sl (.var 2) .no (.yes (.lit (.int 3)))) (.tup (.cons (.bin .mul (.tup (.cons (.lit (.int 99)) .nil)) (.var 3)) (.cons (.bin .mul (.tup (.cons (.lit (.int 20)) .nil)) (.var 3)) .nil)))) great :=
    to (catS (.slT (ds := S5) (.var rfl) .no (.yes .lit)) (.tup (.cons (sv_rep1 (.tup (.one .lit)) (.var rfl) (by omega)) (.one (sv_rep1 (.tup (.one .lit)) (.var rfl) (by omega))))) rfl) rfl
  have o1 : ∀ n, okR n (.tup (nm sh)) = true := fun n => ok_tup (okRs_strs _)
  have o2 : ∀ n, okR n (.tup (rs sh ++ [bake sh])) = true := fun n => ok_tup (okRs_app okRs_rows (okRs_one ok_bake))
  have q1 : Sv CC W0 (E1 (some (shop2 sh)) (some great) none) (.not (.call "is_shop" (.cons (.var 2) .nil))) (.bl false) := by
    have g : Sv CC W0 (E1 (some (shop2 sh)) (some great) none) (.call "is_shop" (.cons (.var 2) .nil)) (.bl (shopB (shop2 sh))) := .call (.one (.var rfl)) fun z => HS _ _ (ok_mk (o1 _) (o2 _) (ok_tup (okRs_ints _)) (ok_tup (okRs_ints _))) ⟨short_shop, h.short, short_rows h⟩
    rw [shop2_ok h] at g
    exact .not g
  have q2 : Sv CC W0 (E1 (some (shop2 sh)) (some great) none) (.not (.call "is_shop" (.cons (.var 6) .nil))) (.bl false) := by
    have g : Sv CC W0 (E1 (some (shop2 sh)) (some great) none) (.call "is_shop" (.cons (.var 6) .nil)) (.bl (shopB great)) := .call (.one (.var rfl)) fun z => HS _ _ (ok_mk (o1 _) (o2 _) (ok_tup okRs_rep) (ok_tup okRs_rep)) ⟨short_shop, h.short, short_rows h⟩
    rw [shop2_rest h (rep_bound (by decide) (by decide)) (rep_bound (by decide) (by decide))] at g
    exact .not g
  have q3 : Sv CC W0 (E1 (some (shop2 sh)) (some great) none) (.not (.call "is_shop" (.cons (.tup (.cons (.lit (.str "shop")) (.cons (.tup (.cons (.lit (.str "a")) .nil)) (.cons (.tup .nil) (.cons (.tup (.cons (.lit (.int 0)) .nil)) (.cons (.tup (.cons (.lit (.int 0)) .nil)) .nil)))))) .nil))) (.bl false) := by
    let small : D := mk (.tup [.str "a"]) (.tup []) (.tup [.int 0]) (.tup [.int 0])
    have g : Sv CC W0 (E1 (some (shop2 sh)) (some great) none) (.call "is_shop" (.cons (.tup (.cons (.lit (.str "shop")) (.cons (.tup (.cons (.lit (.str "a")) .nil)) (.cons (.tup .nil) (.cons (.tup (.cons (.lit (.int 0)) .nil)) (.cons (.tup (.cons (.lit (.int 0)) .nil)) .nil)))))) .nil)) (.bl (shopB small)) :=
      .call (.one (.tup (.cons .lit (.cons (.tup (.one .lit)) (.cons (.tup .nil (by rw [sizeLine_eq]; decide)) (.cons (.tup (.one .lit)) (.one (.tup (.one .lit))))))))) fun z => HS _ _ rfl ⟨short_shop, (fun x hx => by rw [List.mem_singleton.mp hx]; exact shortB_ok (by decide +kernel)), (fun x hx => by cases hx)⟩
    rw [show shopB small = true by decide +kernel] at g
    exact .not g
  obtain ⟨a', b', lp⟩ := loop1 (C := CC) (s := s) (b := ih.length) (W := W0) h hk' (some great)
  obtain ⟨W1, r, R, e1, l1, b1, n1⟩ := rows_stage (C := CC) (s := s) (b := ih.length) h hk' (W := W0 ++ [.lst (parts.map (fpart sh k))]) (r := W0.length) (some great) a' b' lstAt_last (rows1 h hk' _) (Nat.le_of_ble_eq_true rfl)
  obtain ⟨W2, q, B, e2, l2, b2, n2⟩ := bad_stage (C := CC) (s := s) (b := ih.length) h hk' (some great) a' b' l1 b1 n1
  obtain ⟨env', W3, e3⟩ := last_stage (C := CC) (s := s) (b := ih.length) HS HN h hk' (some great) (some (.ref r)) a' b' l2 b2 n2
  have items : Sv CC (W0 ++ [.lst []]) (E1 (some (shop2 sh)) (some great) (some (.ref W0.length))) (.tup (.cons (.tup (.cons (.lit (.int 1)) (.cons (.lit (.int 10)) .nil))) (.cons (.tup (.cons (.lit (.int 1)) (.cons (.bin .sub (.lit (.int 0)) (.lit (.int 1))) .nil))) (.cons (.tup (.cons (.lit (.int 2)) (.cons (.lit (.int 10)) .nil))) (.cons (.tup (.cons (.lit (.int 2)) (.cons (.lit (.bl true)) .nil))) (.cons (.tup (.cons (.lit (.int 1)) (.cons (.lit (.str "1")) .nil))) .nil)))))) (.tup parts) :=
    .tup (.cons (.tup (.cons .lit (.one .lit))) (.cons (.tup (.cons .lit (.one (.sub .lit .lit)))) (.cons (.tup (.cons .lit (.one .lit))) (.cons (.tup (.cons .lit (.one .lit))) (.one (.tup (.cons .lit (.one .lit)))))))) (by rw [sizeLine_eq]; decide)
  have run : m_law.run CC 1000 [s] ih = keepH ih (some (.bl true, W3)) := by
    refine run_of rfl ⟨env', ?_⟩
    refine Eq.trans (ss_asg (env' := E none none none none none none) a0 rfl) ?_
    refine Eq.trans (ss_asg (env' := E (some (.tup S0)) none none none none none) a1 rfl) ?_
    refine Eq.trans (ss_asgP (env' := E (some (.tup S0)) (some (.int (sz sh))) (some (.int k)) none none none) (Svs.cons len1 (.one at1)).now rfl) ?_
    refine Eq.trans (ss_asg (env' := E1 (some (.tup S0)) none none) row1.now rfl) ?_
    refine Eq.trans (ss_asg (env' := E1 (some (shop2 sh)) none none) sh1.now rfl) ?_
    refine Eq.trans (ss_asg (env' := E1 (some (shop2 sh)) (some great) none) gr1.now rfl) ?_
    refine Eq.trans (ss_ifF (Sv.orF q1 (.orF q2 (.or1 q3))).now) ?_
    refine Eq.trans (ss_asg (env' := E1 (some (shop2 sh)) (some great) (some (.ref W0.length))) (ev_lst Svs.nil.now (by decide)) rfl) ?_
    refine Eq.trans (ss_for (w := ⟨parts, []⟩) (ih' := W0 ++ [.lst []]) (by simp only [evI, items.now, walkD, Option.map_some]) lp) ?_
    exact e1.trans (e2.trans e3)
  obtain ⟨w, hw⟩ := keep_ex (ih := ih) (z := W3) (d := .bl true)
  refine ⟨w, ?_⟩
  rw [show (40 : Nat) = 39 + 1 from rfl, callN_eq (show Fd PP "law" m_law by rfl), run, hw]
theorem law : Plain ds 1000 40 d_law.m.name := fun ns _ _ => by
  constructor
  · refine law_run ?_
    rw [show CC = callN PP 1000 (38 + 1) from rfl, callN_eq hasDraws.cell]
    exact cell_ref (ns := ns) (n := 0) rfl
  · refine law_run ?_
    rw [show CC = callN PP 1000 (38 + 1) from rfl, callN_eq hasDraws.cell]
    exact cell_rol
end K01
open PySem PySem.W PySem.Calls PyProof.Rows
theorem PySem.Challenge.cw_craftproof_k01_what_are_shops_and_names_holds : PySem.Challenge.rw_craftproof_k01_what_are_shops_and_names.Holds := by
  w_on; o_law
  refine HandSHeadRun.head_any (r := OpenLaw.row PySem.Challenge.rw_craftproof_k01_what_are_shops_and_names) (q := view (OpenLaw.row PySem.Challenge.rw_craftproof_k01_what_are_shops_and_names).prog [23]) (H := CP.hookOf K01.globs K01.ds) (ob := CP.obOf K01.globs K01.ds) (M := 4000) (loose := K01.loose) (d := HandSHeadRun.topDef (OpenLaw.row PySem.Challenge.rw_craftproof_k01_what_are_shops_and_names).prog 23) (kwd := []) (CP.ob_eq K01.globs K01.ds)
    (by kernel_rfl) (fun s => by kernel_rfl) K01.run (by kernel_rfl) (by kernel_rfl) (by kernel_rfl) (by rfl) (by first | assumption | decide +kernel) (by decide +kernel) ⟨rfl, rfl, rfl, rfl, rfl, by decide +kernel⟩ ?hw ?hc
  case hw => w_witness2
  case hc => exact CP.walk_end (l := PySem.Challenge.rw_craftproof_k01_what_are_shops_and_names) (dl := K01.d_law) (fuel := 1000) (n := 40) rfl (by kernel_rfl) ⟨rfl, by decide, by decide⟩ (by kernel_rfl) (by simp [K01.ds]) (by kernel_rfl) K01.nd K01.hok K01.hbd K01.law
