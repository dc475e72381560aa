import PyProof.Rows.All
import Wide.All
import OpenK.AllK
import Wide.FinOn
import HandS.AnyAll
import HandS.GenList
import PyProof.GenCompT
import HandS.ForMost
import HandS.Exc
import HandS.IsInst
import HandS.Wide
import HandS.TupAny
import HandS.TupMul
import HandS.Style
import HandS.Deep
import KE.DataCmp
import KE.SortData
import HandS.Conv
import HandS.TryOnly
import HandS.WordsExc
import HandS.Defaults
import HandS.HeadHook4
import HandS.SortInts
import HandS.SetBool
import HandS.Strs
import HandS.ExcInit
import HandS.ExcField
import PySem.Challenge.RW_earlyback_k80_sets_looked_at
import HandS.Words
import HandS.Head0
import HandS.Head1
import HandS.Head2
import HandS.HeadEnd
import HandS.HeadHook1
import HandS.HeadHook2
import HandS.HeadWalk
set_option Elab.async false
set_option linter.all false
set_option maxRecDepth 100000
set_option maxHeartbeats 0
/-! any, all over a generator expression whose element calls defs. -/
namespace GenX
open PySem PySem.Spec PyProof.Rows L2 GxR GenW

/-- a generator expression's own scope -/
structure GSc (scope : Scope) : Prop where
  co : scope.isCoroutine = false
  cell : ∀ y ∈ scope.names, y.2 ≠ .cell
  dot : scope.names.lookup (".0" : Str) = some NameKind.local
/-- the context of its element -/
abbrev gblk (X : Cx) (s : Shared) (H : Hp) (env : Env) (fp : List Addr) (A : Around) (pn : List (Addr × Obj)) : Cx :=
  { X with s_0 := s, H_0 := H, env := env, outer := X.stack, stack := env :: X.stack, A := A, ex := fp, fn := fun _ => false, pn := pn, xe := fun _ _ => False }
abbrev gEnv (X : Cx) (scope : Scope) (C : Addr) (code : Value) : Env := genEnv scope (cloFrom X.env.cells scope.names []) C code builtinsNs X.env
section
variable {X : Cx} {pins : List (Addr × Obj)} {σ : L2.St} {H : Hp} {s : Shared}
theorem gen_start {scope : Scope} {own : List (Str × Nat)} {fp : List Addr} {code : Value} {h5 : Heap} {g5 : Array GenState} {t5 : Nat} {d5 : Drawn} {A5 : Around} {pn : List (Addr × Obj)} {m : Str → Option Value}
    (I : Inv X pins σ H s) (ok : BlkOk X.N X.env.scope scope own) (gs : GSc scope) (hN : X.N.Nodup) (hfp : ∀ b ∈ fp, FpOk X pins H b ∧ b < s.heap.objs.size)
    (hA : X.calm = true → A5.handled = none) (hAf : A5.frames = some (gEnv X scope s.heap.objs.size code :: X.stack))
    (hn : h5.Ns s.heap.objs.size m) (kp : ∀ b o, s.heap.get? b = some o → h5.get? b = some o) (hg : AllBare g5)
    (hpn : ∀ p ∈ pn, h5.get? p.1 = some p.2 ∧ s.heap.objs.size < p.1 ∧ ∀ v, p.2.data ≠ .cell v) :
    Inv (gblk X s H (gEnv X scope s.heap.objs.size code) fp A5 pn) [] (wipe σ (own.map (·.2))) H { s with heap := h5, gens := g5, drawn := d5, toks := t5 } := by
  have hfree : ∀ y ∈ scope.names, y.2 = .free → ∃ c, X.env.cells.lookup y.1 = some c := fun y hy e => by
    rcases ok.free y hy e with k | k
    · exact I.ok.has _ (.inl k)
    · exact I.ok.has _ (.inr k)
  have cm : ∀ {y c}, (y, c) ∈ cloFrom X.env.cells scope.names [] → X.env.cells.lookup y = some c ∧ c < s.heap.objs.size ∧ (y, NameKind.free) ∈ scope.names := fun {y c} hm => by
    rcases cloFrom_mem hm with hm | ⟨h1, rfl⟩
    · cases hm
    · obtain ⟨c, hc⟩ := hfree _ h1 rfl
      rw [hc]
      obtain ⟨w, z⟩ := I.cell _ _ hc
      exact ⟨rfl, z.lt, h1⟩
  have look : ∀ {y}, scope.names.lookup y = some .free → ∃ c, (cloFrom X.env.cells scope.names []).lookup y = some c ∧ X.env.cells.lookup y = some c := fun {y} hl => by
    have hy : (y, NameKind.free) ∈ scope.names := PySem.mem_of_lookup hl
    obtain ⟨c', e'⟩ := mem_lookup (cloFrom_has (cells := X.env.cells) (acc := []) hy)
    exact ⟨c', e', (cm (PySem.mem_of_lookup e')).1⟩
  have okB : (gblk X s H (gEnv X scope s.heap.objs.size code) fp A5 pn).Ok := by
    refine ⟨I.ok.mod, ok.kind, I.ok.glob, rfl, Nat.le_refl _, fun y z c e1 e2 => ?_, fun y hy => ?_, fun y c z e => ?_, hA, hAf, .inr ⟨rfl, rfl⟩, fun b hb => ⟨?_, fun y c e z => ?_⟩, I.bs, Nat.le_trans I.ok.bsz I.sz, fun b o e hb => ?_, fun b hb z => ?_, I.stack, I.stkFree⟩
    · exact I.ok.inj y z c (cm (PySem.mem_of_lookup (show (cloFrom X.env.cells scope.names []).lookup y = some c from e1))).1 (cm (PySem.mem_of_lookup (show (cloFrom X.env.cells scope.names []).lookup z = some c from e2))).1
    · have hy : scope.names.lookup y = some .cell ∨ scope.names.lookup y = some .free := hy
      rcases hy with hy | hy
      · exact absurd rfl (gs.cell _ (PySem.mem_of_lookup hy))
      · obtain ⟨c, h1, _⟩ := look hy
        exact ⟨c, h1⟩
    · cases z
    · exact Nat.ne_of_lt (hfp b hb).2
    · exact (hfp b hb).1.2.2.2.2.1 y c (cm (PySem.mem_of_lookup (show (cloFrom X.env.cells scope.names []).lookup y = some c from e))).1 z
    · rcases (hfp b hb).1.2.2.2.1 with z | z
      · exact I.ok.noex b o e z
      · exact absurd (Nat.lt_of_lt_of_le (Heap.lt_size e) (Nat.le_trans I.ok.bsz z)) (Nat.lt_irrefl _)
    · rcases List.mem_cons.mp (I.stkSub b z) with z | z
      · exact (hfp b hb).1.2.1 z
      · exact (hfp b hb).1.2.2.1 z
  refine ⟨okB, rfl, hg, Un.kept kp, ⟨m, hn, fun i y av e1 e2 e3 => ?_⟩, fun y c e => ?_, ?_, fun y c e => ?_, fun p hp => ?_, I.hok.kept kp, by rw [wipe_length]; exact I.len⟩
  · obtain ⟨e2, hne⟩ := wipe_some e2
    have no : ∀ k', scope.names.lookup y = some k' → ¬ (k' = .local ∨ k' = .cell) := fun k' e hh => by
      rcases ok.own _ (PySem.mem_of_lookup e) hh with e' | e'
      · obtain ⟨p, hp, hpy⟩ := List.mem_map.mp e'
        have e3 := ok.ix p hp
        have : p.1 = y := hpy
        rw [this] at e3
        exact hne (List.mem_map.mpr ⟨p, hp, nodup_ix hN e3 e1⟩)
      · exact e' (List.mem_of_getElem? e1)
    have hfr : scope.names.lookup y = some .free := by
      have e3 : Vis scope y := e3
      rcases e3 with e3 | e3 | e3
      · exact absurd (.inl rfl) (no _ e3)
      · exact absurd (.inr rfl) (no _ e3)
      · exact e3
    obtain ⟨m0, hn0, hl⟩ := I.loc
    have hvis : Vis X.env.scope y := (ok.free _ (PySem.mem_of_lookup hfr) rfl).elim (fun k => .inr (.inl k)) (fun k => .inr (.inr k))
    obtain ⟨w, r, q⟩ := hl i y av e1 e2 hvis
    refine ⟨w, r, .inr ⟨.inr hfr, ?_⟩⟩
    obtain ⟨c, h1, h2⟩ := look hfr
    rcases q with ⟨k, _⟩ | ⟨_, c', e', z⟩
    · have k : X.env.scope.names.lookup y = some .local := k
      rcases ok.free _ (PySem.mem_of_lookup hfr) rfl with k' | k' <;> rw [show X.env.scope.names.lookup y = _ from k'] at k <;> cases k
    · rw [h2] at e'; cases e'
      exact ⟨c, h1, z.keeps kp⟩
  · obtain ⟨w, z⟩ := I.cell y c (cm (PySem.mem_of_lookup (show (cloFrom X.env.cells scope.names []).lookup y = some c from e))).1
    exact ⟨w, z.keeps kp⟩
  · exact I.hok.fresh (Nat.le_refl _)
  · exact I.freeC y c (cm (PySem.mem_of_lookup (show (cloFrom X.env.cells scope.names []).lookup y = some c from e))).1
  · have hp : p ∈ pn := by simpa using hp
    obtain ⟨h1, h2, h3⟩ := hpn p hp
    refine ⟨h1, I.hok.fresh (Nat.le_of_lt h2), Nat.ne_of_gt h2, fun z => ?_, h3⟩
    rcases List.mem_cons.mp (I.stkSub p.1 z) with z | z
    · exact absurd (Nat.lt_trans (z ▸ I.lt) h2) (Nat.lt_irrefl _)
    · exact I.nofs (Nat.le_of_lt h2) z

/-! ### the protocol -/
/-- nothing has happened but what is new -/
structure Woke (s s' : Shared) : Prop where
  os : s'.os = s.os
  bare : AllBare s'.gens
  keep : ∀ b o, s.heap.get? b = some o → s'.heap.get? b = some o
theorem Woke.inv {s' : Shared} (I : Inv X pins σ H s) (k : Woke s s') : Inv X pins σ H s' :=
  I.call' (ch := []) k.os (Un.kept k.keep) (I.hok.kept k.keep) k.bare fun b z => by simp at z
def PY (X : Cx) (pins : List (Addr × Obj)) (σ : L2.St) (stop : Bool) (Q : VK) (a : Addr) (g : Nat) : Protocol := fun n s₀ v s kap =>
  ∃ b H', v = .bool b ∧ Inv X pins σ H' s ∧ s.heap.IsGen a g ∧ (if b = stop then Q (.bl stop) H' else ∀ s', Woke s s' → kap (.send .none) s')
def PF (X : Cx) (pins : List (Addr × Obj)) (σ : L2.St) (stop : Bool) (Q : VK) : Nat → Shared → Shared → Prop := fun _ _ s => ∃ H', Inv X pins σ H' s ∧ Q (.bl (!stop)) H'
def PR (X : Cx) (pins : List (Addr × Obj)) (σ : L2.St) (stop : Bool) (Q : VK) : GenEnd := fun n s₀ r s₁ => ((r = .ok (.ret .none) ∨ r = .ok .next) ∧ PF X pins σ stop Q n s₀ s₁) ∨ ∃ e : Value, r = .error e ∧ (fun (_ : Value) (_ : Shared) => False) e s₁
/-- what a turn asks -/
def Turns (J : It) (g : TG) (te : TE) (stop : Bool) (vs : List Nat) (σ : L2.St) (W : Nat → Nat → Hp → Prop) (Q : VK) : Prop := ∀ i m H, W i m H →
  (J.stop i H ∧ Q (.bl (!stop)) H) ∨ (J.go i H ∧ ∃ Nx : Hp → Prop, (∀ H', Nx H' → ∃ m', m' < m ∧ W (i + 1) m' H') ∧ ∀ x H', J.yld i H x H' → g x (wipe σ vs) H' fun σ2 H2 => wipe σ2 vs = wipe σ vs ∧ te σ2 H2 fun y H3 => ∃ b, y = .bl b ∧ (if b = stop then Q (.bl stop) H3 else Nx H3))
theorem over_loopG {A : Around} {elt target iter : Expr} {ifs : List Expr} {scope : Scope} {pos : Pos} {it acc : Value} {env : Env} : A.over (.compLoop (.GeneratorExp elt [⟨target, iter, ifs, 0⟩] scope pos) 0 it acc env) [] = A.deeper env := by
  first
    | rfl
    | (obtain ⟨hd, d, fr, gs, u⟩ := A; simp [Around.over, Around.deeper, marksOver, frameCount, unitsOf, envsOf, guardsOf, pushEnvs, pushGuards, Code.envs, Code.env?, Code.isFrame, Code.guards, Code.isGuard, Code.weight, Code.frames, Code.isCreation, Code.isCaller, Code.cUnits])
theorem over_startG {A : Around} {elt target iter : Expr} {ifs : List Expr} {scope : Scope} {pos : Pos} {it acc : Value} {env : Env} : A.over (.compStart (.GeneratorExp elt [⟨target, iter, ifs, 0⟩] scope pos) 0 it acc env) [] = A.deeper env := by
  first
    | rfl
    | (obtain ⟨hd, d, fr, gs, u⟩ := A; simp [Around.over, Around.deeper, marksOver, frameCount, unitsOf, envsOf, guardsOf, pushEnvs, pushGuards, Code.envs, Code.env?, Code.isFrame, Code.guards, Code.isGuard, Code.weight, Code.frames, Code.isCreation, Code.isCaller, Code.cUnits])
end
section
variable {X : Cx} {pins : List (Addr × Obj)} {σ : L2.St} {H4 : Hp} {s4 : Shared}
/-- the element's code: all turns -/
theorem seg_loop {elt tg iter : Expr} {scope : Scope} {own : List (Str × Nat)} {pos : Pos} {fp : List Addr} {it a : Addr} {gi : Nat} {go : Obj} {code : Value} {tn : Nat → Heap → Prop} {J : It} {g : TG} {te : TE} {stop : Bool} {W : Nat → Nat → Hp → Prop} {Q : VK} {A : Around}
    (hc : X.calm = true) (I4 : Inv X pins σ H4 s4) (gs : GSc scope) (T : Turn X.prog X.w X.K tg J fp it tn) (hfp : ∀ b ∈ fp, FpOk X pins H4 b ∧ b < s4.heap.objs.size)
    (pg : PG (gblk X s4 H4 (gEnv X scope s4.heap.objs.size code) fp (A.deeper (gEnv X scope s4.heap.objs.size code)) [(a, go)]) tg g)
    (pe : PE (gblk X s4 H4 (gEnv X scope s4.heap.objs.size code) fp (A.deeper (gEnv X scope s4.heap.objs.size code)) [(a, go)]) elt te)
    (hgo : ∀ h : Heap, h.get? a = some go → h.IsGen a gi) (ha0 : s4.heap.objs.size ≤ a) (turn : Turns J g te stop (own.map (·.2)) σ W Q) :
    ∀ (n m i : Nat) (s₀ s : Shared) (H' : Hp), m + 1 ≤ n → Inv (gblk X s4 H4 (gEnv X scope s4.heap.objs.size code) fp (A.deeper (gEnv X scope s4.heap.objs.size code)) [(a, go)]) [] (wipe σ (own.map (·.2))) H' s → tn i s.heap → (∀ b ∈ fp, H' b = none) → W i m H' →
      Seg (model X.prog X.w) A (PR X pins σ stop Q) (PY X pins σ stop Q a gi) n s₀ (.compLoop (.GeneratorExp elt [⟨tg, iter, [], 0⟩] scope pos) 0 (.ref it) .none (gEnv X scope s4.heap.objs.size code))
        ((model X.prog X.w).den (.compLoop (.GeneratorExp elt [⟨tg, iter, [], 0⟩] scope pos) 0 (.ref it) .none (gEnv X scope s4.heap.objs.size code))) [] s := by
  generalize hce : gEnv X scope s4.heap.objs.size code = ce at pg pe ⊢
  have hco : ce.scope.isCoroutine = false := by subst hce; exact gs.co
  have hover : A.over (.compLoop (.GeneratorExp elt [⟨tg, iter, [], 0⟩] scope pos) 0 (.ref it) .none ce) [] = A.deeper ce := over_loopG
  have back : ∀ {pl : List (Addr × Obj)} {σ' : L2.St} {H' : Hp} {s' : Shared}, Inv (gblk X s4 H4 ce fp (A.deeper ce) [(a, go)]) pl σ' H' s' → Inv X pins σ H' s' := fun {pl σ' H' s'} I6 =>
    I4.call' (ch := fp) I6.os I6.base I6.hok I6.bare fun b hb => ⟨(hfp b hb).1.2.2.2.1, (hfp b hb).1.2.1, (hfp b hb).1.2.2.2.2.1, (hfp b hb).1.2.2.2.2.2⟩
  have stat : ∀ {σ' : L2.St} {H' : Hp} {s' : Shared}, Inv (gblk X s4 H4 ce fp (A.deeper ce) [(a, go)]) [] σ' H' s' → (∀ b ∈ fp, H' b = none) → a ∉ fp → ∀ b ∈ fp, FpOk (gblk X s4 H4 ce fp (A.deeper ce) [(a, go)]) [] H' b := fun {σ' H' s'} I' hn ha b hb =>
    ⟨hn b hb, (I'.ok.exf b hb).1, I'.ok.exfs b hb, .inl hb, fun x c e => (I'.ok.exf b hb).2 x c e, fun p hp => by
      have e : p = (a, go) := by simpa using hp
      subst e
      intro z
      have z' : a = b := z
      exact ha (z' ▸ hb)⟩
  have afp : a ∉ fp := fun z => by
    have h1 := ha0
    exact absurd (Nat.lt_of_lt_of_le (hfp a z).2 ha0) (Nat.lt_irrefl _)
  intro n
  induction n with
  | zero =>
    intro m i s₀ s H' hm
    omega
  | succ n ih =>
    intro m i s₀ s H' hm I5 st5 n5 w5
    show Seg _ A _ _ _ s₀ _ ((compTurn (.GeneratorExp elt [⟨tg, iter, [], 0⟩] scope pos) 0 (.ref it) .none ce).onRaise (leaving ce)) [] s
    rw [compTurn_gen, Sem.onRaise_eq_wrap]
    refine seg_bind_wrap (wpAny_standAt ?_)
    refine seg_bind_wrap ?_
    rw [hover]
    rcases turn i m H' w5 with ⟨stop', qq⟩ | ⟨go', Nx, hNx, step⟩
    · refine wpAny_mono (T.done (gblk X s4 H4 ce fp (A.deeper ce) [(a, go)]) rfl rfl rfl hc i [] s _ H' (fun _ _ => False) I5 (stat I5 n5 afp) st5 stop') (fun r s6 ⟨hr, I6⟩ => ?_) fun _ _ z => z.elim
      subst hr
      exact seg_end (.ok .next) (.inl ⟨.inr rfl, H', back I6, qq⟩)
    · refine wpAny_mono (T.item (gblk X s4 H4 ce fp (A.deeper ce) [(a, go)]) rfl rfl rfl hc i [] s _ H' (fun _ _ => False) I5 (stat I5 n5 afp) st5 go') (fun r s6 ⟨u, hr, h6⟩ => ?_) fun _ _ z => z.elim
      subst hr
      refine seg_bind_wrap ?_
      rw [hover]
      refine wpAny_mono h6 (fun _ s7 ⟨x, H7, I7, r7, y7, st7, n7⟩ => ?_) fun _ _ z => z.elim
      have I7' := I7.pinned (stat I7 n7 afp) (T.obj _ _ st7)
      refine seg_bind_wrap ?_
      rw [hover]
      refine wpAny_mono (pg.run _ s7 _ H7 x u _ I7' r7 (step x H7 y7)) (fun _ s8 ⟨σ8, H8, I8, hw8, q8⟩ => ?_) fun _ _ z => z.elim
      have hy : ∀ v, yieldOut ce v = yieldValue v := fun v => by simp only [yieldOut, hco, Bool.false_eq_true, if_false]
      simp only [List.forIn_nil, if_true, hy]
      refine seg_bind_wrap (wpAny_pure ?_)
      simp only [if_true]
      rw [Sem.bind_eq_wrap', Sem.bind_eq_wrap', Sem.wrap_wrap, Sem.wrap_wrap]
      refine seg_wrap ?_
      rw [hover]
      refine wpAny_mono (pe.run _ s8 σ8 H8 _ I8 q8) (fun y s9 ⟨yv, H9, I9, r9, b, hb, q9⟩ => ?_) fun _ _ z => z.elim
      subst hb
      obtain rfl : y = Value.bool b := r9
      have hg9 : s9.heap.IsGen a gi := hgo _ (I9.pin (a, go) (List.mem_append_left _ (List.mem_singleton.mpr rfl))).1
      refine seg_at (seg_yield rfl rfl rfl ⟨b, H9, rfl, back I9, hg9, ?_⟩)
      by_cases hbs : b = stop
      · rw [if_pos hbs] at q9 ⊢
        exact q9
      · rw [if_neg hbs] at q9 ⊢
        intro s' wk
        obtain ⟨m', hm', w'⟩ := hNx H9 q9
        have I10 := wk.inv I9
        have pin' : ∀ b ∈ fp, ∀ o, s7.heap.get? b = some o → s'.heap.get? b = some o ∧ H9 b = none := fun b hb o e =>
          let z := I10.pin (b, o) (List.mem_append_right _ (List.mem_append_right _ (mem_pinsAt hb e)))
          ⟨z.1, z.2.1⟩
        have hl : (wipe σ (own.map (·.2))).length = σ8.length := by rw [← hw8, wipe_length]
        refine seg_again rfl (ih m' (i + 1) s' s' H9 (by omega) ((I10.unpinned (pins := [])).weak hl (fun j v e => ?_)) (T.keep _ _ _ st7 fun b hb o e => (pin' b hb o e).1) (fun b hb => ?_) w')
        · rw [← hw8] at e
          exact (wipe_some e).1
        · obtain ⟨o, e, _⟩ := T.obj _ _ st7 b hb
          exact (pin' b hb o e).2
/-- the generator that has not begun -/
theorem seg_start {elt tg iter : Expr} {scope : Scope} {own : List (Str × Nat)} {pos : Pos} {fp : List Addr} {it a : Addr} {gi : Nat} {go : Obj} {code : Value} {tn : Nat → Heap → Prop} {J : It} {g : TG} {te : TE} {stop : Bool} {W : Nat → Nat → Hp → Prop} {Q : VK} {A : Around}
    (hc : X.calm = true) (I4 : Inv X pins σ H4 s4) (gs : GSc scope) (T : Turn X.prog X.w X.K tg J fp it tn) (hfp : ∀ b ∈ fp, FpOk X pins H4 b ∧ b < s4.heap.objs.size)
    (pg : PG (gblk X s4 H4 (gEnv X scope s4.heap.objs.size code) fp (A.deeper (gEnv X scope s4.heap.objs.size code)) [(a, go)]) tg g)
    (pe : PE (gblk X s4 H4 (gEnv X scope s4.heap.objs.size code) fp (A.deeper (gEnv X scope s4.heap.objs.size code)) [(a, go)]) elt te)
    (hgo : ∀ h : Heap, h.get? a = some go → h.IsGen a gi) (ha0 : s4.heap.objs.size ≤ a) (turn : Turns J g te stop (own.map (·.2)) σ W Q) (n m : Nat) (s₀ s : Shared) (H' : Hp) (hm : m + 1 ≤ n)
    (I5 : Inv (gblk X s4 H4 (gEnv X scope s4.heap.objs.size code) fp (A.deeper (gEnv X scope s4.heap.objs.size code)) [(a, go)]) [] (wipe σ (own.map (·.2))) H' s) (st5 : tn 0 s.heap) (n5 : ∀ b ∈ fp, H' b = none) (w5 : W 0 m H') :
      Seg (model X.prog X.w) A (PR X pins σ stop Q) (PY X pins σ stop Q a gi) n s₀ (.compStart (.GeneratorExp elt [⟨tg, iter, [], 0⟩] scope pos) 0 (.ref it) .none (gEnv X scope s4.heap.objs.size code))
        ((model X.prog X.w).den (.compStart (.GeneratorExp elt [⟨tg, iter, [], 0⟩] scope pos) 0 (.ref it) .none (gEnv X scope s4.heap.objs.size code))) [] s := by
  have loop := seg_loop (iter := iter) (pos := pos) (own := own) hc I4 gs T hfp pg pe hgo ha0 turn n m 0 s₀ s H' hm I5 st5 n5 w5
  generalize hce : gEnv X scope s4.heap.objs.size code = ce at loop ⊢
  show Seg _ A _ _ _ s₀ _ ((compStart (.GeneratorExp elt [⟨tg, iter, [], 0⟩] scope pos) 0 (.ref it) .none ce).onRaise (leaving ce)) [] s
  unfold compStart
  rw [Sem.onRaise_eq_wrap]
  show Seg _ A _ _ _ s₀ _ ((ask >>= _).wrap _ _ _ _) [] s
  refine seg_bind_wrap (wpAny_askSetting ?_)
  split
  · exact seg_again rfl loop
  · refine seg_bind_wrap (wpAny_rule ?_)
    show Seg _ A _ _ _ s₀ _ ((standAt iter.pos >>= _).wrap _ _ _ _) [] s
    exact seg_bind_wrap (wpAny_standAt (seg_bind_wrap (T.self _ 0 s _ _ st5 (seg_again rfl loop))))

/-! ### any, all -/
theorem genInv {g' : Array GenState} {H' : Hp} {s : Shared} (I : Inv X pins σ H' s) (hg : AllBare g') : Inv X pins σ H' { s with gens := g' } :=
  Woke.inv I ⟨rfl, hg, fun _ _ e => e⟩
theorem drop_loop {id : String} {stop : Bool} {R : Result → Shared → Prop} {Q : VK} {a : Addr} {gi : Nat} {A : Around} (hh : A.handled = none) (hd : A.depth < recursionLimit)
    (hnext : ∀ (s : Shared) (R' : Result → Shared → Prop), wpAny (model X.prog X.w) A.in1 (pyNext (.ref a)) (fun r s' => match r with
        | none => R' (.ok (.ret (.bool (!stop)))) s'
        | some v => ∃ b, v = .bool b ∧ (if b = stop then R' (.ok (.ret (.bool stop))) s' else codeAny (model X.prog X.w) A (.builtin id ⟨[.ref a], []⟩) R' s'))
        (fun e s' => R' (.error e) s') s → codeAny (model X.prog X.w) A (.builtin id ⟨[.ref a], []⟩) R' s)
    (hR : ∀ b s' H', Inv X pins σ H' s' → Q (.bl b) H' → R (.ok (.ret (.bool b))) s') :
    ∀ (n : Nat) (s : Shared) (H' : Hp), Inv X pins σ H' s → s.heap.IsGen a gi → (∃ gs, s.gens[gi]? = some gs ∧ gs.Goes (model X.prog X.w) A.in1.in1 (PR X pins σ stop Q) (PY X pins σ stop Q a gi) n (.send .none) (s.setGen gi .running)) →
      codeAny (model X.prog X.w) A (.builtin id ⟨[.ref a], []⟩) R s := by
  intro n
  induction n with
  | zero =>
    intro s H' I hg ⟨gs, hgs, hgo⟩
    refine hnext s R (next_genG (A := A.in1) hh I.nolimit hd hg hgs hgo (fun v s₁ gs' hbare hv => ?_) (fun s₁ hp h' hk => ?_) fun e s₁ he => he.elim)
    · obtain ⟨b, H1, rfl, I1, hg1, q⟩ := hv
      refine ⟨b, rfl, ?_⟩
      by_cases hb : b = stop
      · rw [if_pos hb] at q ⊢
        exact hR _ _ _ (genInv I1 (allBare_setGen I1.bare hbare)) q
      · rw [if_neg hb] at q
        exact (q s₁ ⟨rfl, I1.bare, fun _ _ e => e⟩).elim
    · obtain ⟨H1, I1, q⟩ := hp
      exact hR _ _ _ (Woke.inv (s' := { s₁.setGen gi .finished with heap := h' }) I1 ⟨rfl, allBare_setGen I1.bare rfl, hk⟩) q
  | succ n ih =>
    intro s H' I hg ⟨gs, hgs, hgo⟩
    have hgl : gi < s.gens.size := (Array.getElem?_eq_some_iff.mp hgs).1
    refine hnext s R (wpAny_gsz (n := gi + 1) hgl (next_genG (A := A.in1) hh I.nolimit hd hg hgs hgo (fun v s₁ gs' hbare hv => ?_) (fun s₁ hp h' hk => ?_) fun e s₁ he => he.elim))
    · intro hsz
      obtain ⟨b, H1, rfl, I1, hg1, q⟩ := hv
      refine ⟨b, rfl, ?_⟩
      have I2 := genInv I1 (allBare_setGen (g := gi) I1.bare hbare)
      by_cases hb : b = stop
      · rw [if_pos hb] at q ⊢
        exact hR _ _ _ I2 q
      · rw [if_neg hb] at q ⊢
        have hsz1 : gi < s₁.gens.size := by
          have q' : (s₁.setGen gi gs').gens.size = s₁.gens.size := setGen_size _ _ _
          have hsz' : gi + 1 ≤ (s₁.setGen gi gs').gens.size := hsz
          omega
        refine ih (s₁.setGen gi gs') H1 I2 hg1 ⟨gs', setGen_at hsz1, ?_⟩
        exact q _ ⟨rfl, allBare_setGen (s := s₁.setGen gi gs') (allBare_setGen I1.bare hbare) rfl, fun _ _ e => e⟩
    · intro hsz
      obtain ⟨H1, I1, q⟩ := hp
      exact hR _ _ _ (Woke.inv (s' := { s₁.setGen gi .finished with heap := h' }) I1 ⟨rfl, allBare_setGen I1.bare rfl, hk⟩) q
theorem next_any {P : Program} {w : World} {A : Around} {a : Addr} {s : Shared} {R : Result → Shared → Prop}
    (h : wpAny (model P w) A.in1 (pyNext (.ref a)) (fun r s' => match r with
        | none => R (.ok (.ret (.bool (!true)))) s'
        | some v => ∃ b, v = .bool b ∧ (if b = true then R (.ok (.ret (.bool true))) s' else codeAny (model P w) A (.builtin "any.loop" ⟨[.ref a], []⟩) R s')) (fun e s' => R (.error e) s') s) :
    codeAny (model P w) A (.builtin "any.loop" ⟨[.ref a], []⟩) R s := by
  refine codeAny_builtin F.entry_any_loop ?_
  rw [Around.under_plainId F.plain_any_loop _]
  show wpAny _ A.in1 (pyNext (.ref a) >>= _) _ _ s
  refine wpAny_bind (wpAny_mono h (fun r s' hr => ?_) fun _ _ e => e)
  cases r with
  | none => exact wpAny_bind (wpAny_rule (wpAny_pure hr))
  | some v =>
    obtain ⟨b, rfl, q⟩ := hr
    refine wpAny_bind (wpAny_holding (wpAny_truthy_bool ?_))
    refine wpAny_bind (wpAny_letGo ?_)
    cases b with
    | false =>
      simp only [Bool.false_eq_true, if_false] at q ⊢
      exact wpAny_pure ⟨plainId_quiet F.plain_any_loop _, q⟩
    | true =>
      simp only [if_true] at q ⊢
      exact wpAny_bind (wpAny_rule (wpAny_pure q))
theorem next_all {P : Program} {w : World} {A : Around} {a : Addr} {s : Shared} {R : Result → Shared → Prop}
    (h : wpAny (model P w) A.in1 (pyNext (.ref a)) (fun r s' => match r with
        | none => R (.ok (.ret (.bool (!false)))) s'
        | some v => ∃ b, v = .bool b ∧ (if b = false then R (.ok (.ret (.bool false))) s' else codeAny (model P w) A (.builtin "all.loop" ⟨[.ref a], []⟩) R s')) (fun e s' => R (.error e) s') s) :
    codeAny (model P w) A (.builtin "all.loop" ⟨[.ref a], []⟩) R s := by
  refine codeAny_builtin F.entry_all_loop ?_
  rw [Around.under_plainId F.plain_all_loop _]
  show wpAny _ A.in1 (pyNext (.ref a) >>= _) _ _ s
  refine wpAny_bind (wpAny_mono h (fun r s' hr => ?_) fun _ _ e => e)
  cases r with
  | none => exact wpAny_bind (wpAny_rule (wpAny_pure hr))
  | some v =>
    obtain ⟨b, rfl, q⟩ := hr
    refine wpAny_bind (wpAny_holding (wpAny_truthy_bool ?_))
    refine wpAny_bind (wpAny_letGo ?_)
    cases b with
    | true =>
      simp only [Bool.true_eq_false, if_false, if_true] at q ⊢
      exact wpAny_pure ⟨plainId_quiet F.plain_all_loop _, q⟩
    | false =>
      simp only [Bool.false_eq_true, if_false, if_true] at q ⊢
      exact wpAny_bind (wpAny_rule (wpAny_pure q))
/-- the generator is made -/
theorem make_gen {H : Hp} {s : Shared} {c P : Addr} {elt tg iter : Expr} {scope : Scope} {own : List (Str × Nat)} {gpos : Pos} {wi : TI} {k : Nat} {Q' : Value → Shared → Prop} {R : It → Hp → Prop}
    (hr : Room k X.A) (TB : TabB X.base X.mg c P) (hcode : X.env.code = .ref c) (gs : GSc scope) (ok : BlkOk X.N X.env.scope scope own) (hi : PI X tg iter wi) (hs : ∀ v, genFold iter X.env v = pure v) (I : Inv X pins σ H s) (h : wi σ H fun J H1 => TabG H1 P ∧ R J H1)
    (hQ : ∀ (J : It) (H1 H2 : Hp) (it : Addr) (fp : List Addr) (tn : Nat → Heap → Prop) (s4 s5 : Shared) (code : Value) (a : Addr) (gi : Nat) (go : Obj) (m : Str → Option Value), R J H1 → Tabbed P H1 H2 → Inv X pins σ H2 s4 → Turn X.prog X.w X.K tg J fp it tn → tn 0 s5.heap →
      (∀ b ∈ fp, FpOk X pins H2 b ∧ b < s4.heap.objs.size) → s5.os = s4.os → AllBare s5.gens → s5.heap.Ns s4.heap.objs.size m → (∀ b o, s4.heap.get? b = some o → s5.heap.get? b = some o) → s4.heap.objs.size < a → s5.heap.get? a = some go → (∀ h : Heap, h.get? a = some go → h.IsGen a gi) → (∀ v, go.data ≠ .cell v) →
      s5.gens[gi]? = some (.fresh (.compStart (.GeneratorExp elt [⟨tg, iter, [], 0⟩] scope gpos) 0 (.ref it) .none (gEnv X scope s4.heap.objs.size code))) → Q' (.ref a) s5) :
    wpAny (model X.prog X.w) X.A (eval (.GeneratorExp elt [⟨tg, iter, [], 0⟩] scope gpos) X.env) Q' X.xe s := by
  have hfree : ∀ y ∈ scope.names, y.2 = .free → ∃ c, X.env.cells.lookup y.1 = some c := fun y hy e => by
    rcases ok.free y hy e with k | k
    · exact I.ok.has _ (.inl k)
    · exact I.ok.has _ (.inr k)
  refine wpAny_GeneratorExp_make gs.co (closure_ok hfree) gs.cell gs.dot ok.kind hr.depth ?_ hs
  refine thn (hi.run pins s σ H _ I h) fun xv s1 hx => thn hx fun itv s2 h2 => ?_
  obtain ⟨it, fp, tn, J, H1, e, I2, T, st2, f2, ⟨ps, hP, ht⟩, q⟩ := h2
  subst e
  have hPs : s2.heap.get? P = some { cls := .none, data := .fields ps } := I2.hok P _ hP
  have cd : PySem.W.CodeHd s2.heap c P := TB.code.keeps fun b u e => I2.bk b u e
  have sz : ∀ b ∈ fp, b < s2.heap.objs.size := fun b hb => by
    obtain ⟨o, e, _⟩ := T.obj _ _ st2 b hb
    exact Heap.lt_size e
  have fpP : ∀ b ∈ fp, b ≠ P := fun b hb z => by
    have := (f2 b hb).1
    rw [z, hP] at this
    cases this
  refine ⟨I2.nolimit, ?_⟩
  have cont : ∀ (code : Value) (h3 : Heap) (tk : Nat) (ps' : Array Value), Heap.ExtBut P s2.heap h3 → s2.heap.objs.size ≤ h3.objs.size → h3.get? P = some { cls := .none, data := .fields ps' } → (∃ more, ps' = ps ++ more) → TriplesOk ps'.toList →
      wpAny (model X.prog X.w) X.A (builtinsFor X.env.globals X.env.builtins) (fun bi s₄ => ∀ h', h'.Ns s₄.heap.objs.size (fun y => if y = ".0" then some (.ref it) else none) → Heap.SameBut s₄.heap.objs.size (s₄.heap.push { cls := .type "frame", data := .dict #[] }) h' →
          Q' (.ref h'.objs.size) { s₄ with
            gens := s₄.gens.push (.fresh (.compStart (.GeneratorExp elt [⟨tg, iter, [], 0⟩] scope gpos) 0 (.ref it) .none (genEnv scope (cloFrom X.env.cells scope.names []) s₄.heap.objs.size code bi X.env))),
            toks := s₄.toks + 1 + 1 + 1,
            heap := h'.push { cls := .type "generator", data := .fields #[.int s₄.gens.size 0, .str "<genexpr>" (s₄.toks + 1), .str (X.env.qual ++ "<genexpr>") (s₄.toks + 1 + 1)] } }) X.xe { s2 with heap := h3, toks := tk } := by
    intro code h3 tk ps' hx hsz hP3 hmore ht3
    obtain ⟨bm, ob, e1, e2, e3, e4, e5, e6, e7, e8⟩ := TB.bm
    have keep3 : ∀ b u, b ≠ P → s2.heap.get? b = some u → h3.get? b = some u := fun b u hb e => hx b u hb e
    refine wpAny_builtinsFor (m := X.mg) (by rw [I2.ok.glob]; exact (I2.mod.glob.keeps I2.bk).extBut hx TB.gP) e1 e2 (keep3 _ _ e4 (I2.bk _ _ e5)) e6 e7 e8 ?_
    obtain ⟨more, em⟩ := hmore
    have I4 := inv_tab (more := more) (h' := h3) (g' := s2.gens) (d' := s2.drawn) (t' := tk) I2 hP keep3 (by rw [← em]; exact hP3) I2.bare
    have hT : Tabbed P H1 (upd H1 P (.tbl (ps ++ more))) := ⟨⟨ps ++ more, upd_same, by rw [← em]; exact ht3⟩, fun b hb => upd_ne hb⟩
    intro h' hn' hs'
    have hsz4 : h'.objs.size = h3.objs.size + 1 := by
      have := hs'.1
      rw [this]
      show (h3.push _).objs.size = _
      rw [Heap.size_push]
    have keep' : ∀ b o, h3.get? b = some o → h'.get? b = some o := fun b o e => hs'.extBut b o (Nat.ne_of_lt (Heap.lt_size e)) (Heap.get?_push_of_some _ e)
    have main : ∀ (go : Obj) (nm qn : Value) (tk2 : Nat), go.cls = .type "generator" → go.data = .fields #[.int s2.gens.size 0, nm, qn] → go.slots = #[] → (∀ h : Heap, (h.push go).get? h.objs.size = some go) →
        Q' (.ref h'.objs.size) { s2 with gens := s2.gens.push (.fresh (.compStart (.GeneratorExp elt [⟨tg, iter, [], 0⟩] scope gpos) 0 (.ref it) .none (gEnv X scope h3.objs.size code))), toks := tk2, heap := h'.push go } := by
      intro go nm qn tk2 hgc hgd hgs hgp
      have kall : ∀ b o, h3.get? b = some o → (h'.push go).get? b = some o := fun b o e => Heap.get?_push_of_some _ (keep' b o e)
      refine hQ J H1 _ it fp tn { s2 with heap := h3, toks := tk } _ code h'.objs.size s2.gens.size go (fun y => if y = ".0" then some (.ref it) else none) q hT I4 T (T.keep _ _ _ st2 fun b hb o e => kall b o (keep3 b o (fpP b hb) e)) (fun b hb => ⟨⟨?_, (f2 b hb).2⟩, Nat.lt_of_lt_of_le (sz b hb) hsz⟩) rfl (AllBare.push I2.bare rfl) (hn'.push _) kall ?_ (hgp _) (fun h e => ⟨go, nm, qn, e, hgc, hgd, hgs⟩) (fun v z => by rw [hgd] at z; cases z) (Array.getElem?_push_size ..)
      · rw [upd_ne (fpP b hb)]
        exact (f2 b hb).1
      · show h3.objs.size < h'.objs.size
        omega
    exact main _ _ _ _ rfl rfl rfl fun h => Heap.get?_push_size _ rfl
  cases hf : codeAmong gpos ps.toList with
  | none =>
    refine wpAny_genexprCodeX hcode (cd.code hPs ht) (cd.tab hPs) hf fun c' h' tk hx hge hlt hco' _ htab' _ => ?_
    obtain ⟨o1, vs, f1, tf, fl, tg, inF, tx, tt, op, _, _, _, _, _, _, _, _, _, htr, _⟩ := hco'
    exact cont _ h' tk _ hx (Nat.le_trans hge (Nat.le_of_lt hlt)) htab'.2 ⟨_, rfl⟩ htr
  | some cv =>
    refine wpAny_genexprCode_hit hcode (cd.code hPs ht) hf ?_
    exact cont cv s2.heap s2.toks ps (Heap.ExtBut.refl _ _) (Nat.le_refl _) hPs ⟨#[], by simp⟩ ht
/-- any(elt for tg in iter), all(..): stop: the answer at which it stops; behind it the def's table may have grown -/
def tAG (stop : Bool) (P : Addr) (wi : TI) (g : TG) (te : TE) (vs : List Nat) : TE := fun σ H Q => wi σ H fun J H1 => TabG H1 P ∧ ∀ H2, Tabbed P H1 H2 → ∃ W : Nat → Nat → Hp → Prop, (∃ m, W 0 m H2) ∧ Turns J g te stop vs σ W Q
theorem pe_drop {c P : Addr} {f : Str} {id idl : String} {stop : Bool} {elt tg iter : Expr} {scope : Scope} {own : List (Str × Nat)} {p pos gpos : Pos} {wi : TI} {g : TG} {te : TE} {k : Nat}
    (hcall : ∀ (a : Addr) (gi : Nat) (s : Shared) (Q : Value → Shared → Prop), s.heap.IsGen a gi → codeAny (model X.prog X.w) X.A (.builtin idl ⟨[.ref a], []⟩) (fun r s' => match r with | .ok (.ret v) => Q v s' | .ok _ => False | .error e => X.xe e s') s → wpAny (model X.prog X.w) X.A (call (.builtin id) [.ref a]) Q X.xe s)
    (hnext : ∀ (a : Addr) (s : Shared) (R' : Result → Shared → Prop), wpAny (model X.prog X.w) X.A.in1 (pyNext (.ref a)) (fun r s' => match r with
        | none => R' (.ok (.ret (.bool (!stop)))) s'
        | some v => ∃ b, v = .bool b ∧ (if b = stop then R' (.ok (.ret (.bool stop))) s' else codeAny (model X.prog X.w) X.A (.builtin idl ⟨[.ref a], []⟩) R' s'))
        (fun e s' => R' (.error e) s') s → codeAny (model X.prog X.w) X.A (.builtin idl ⟨[.ref a], []⟩) R' s)
    (hc : X.calm = true) (hN : X.N.Nodup) (hr : Room k X.A) (hg : Gl X f) (hm : X.mg f = none) (hb : bootBuiltins f = some (.builtin id)) (TB : TabB X.base X.mg c P) (hcode : X.env.code = .ref c) (gs : GSc scope) (ok : BlkOk X.N X.env.scope scope own) (hi : PI X tg iter wi)
    (hgt : ∀ (s : Shared) (H : Hp) (C : Addr) (code : Value) (fp : List Addr) (pn : List (Addr × Obj)), PG (gblk X s H (gEnv X scope C code) fp (X.A.in1.in1.deeper (gEnv X scope C code)) pn) tg g)
    (he : ∀ (s : Shared) (H : Hp) (C : Addr) (code : Value) (fp : List Addr) (pn : List (Addr × Obj)), PE (gblk X s H (gEnv X scope C code) fp (X.A.in1.in1.deeper (gEnv X scope C code)) pn) elt te)
    (hs : ∀ v, genFold iter X.env v = pure v) (hn : f ≠ "__name__") (hdb : (f == ("__debug__" : Str)) = false)
    (hse : starEach [.GeneratorExp elt [⟨tg, iter, [], 0⟩] scope gpos] X.env = (false, eval (.GeneratorExp elt [⟨tg, iter, [], 0⟩] scope gpos) X.env) :: starEach [] X.env) :
    PE X (.Call (.Name f p) [.GeneratorExp elt [⟨tg, iter, [], 0⟩] scope gpos] [] pos) (tAG stop P wi g te (own.map (·.2))) := by
  refine ⟨fun pins s σ H Q I h => ?_⟩
  refine wpAny_Call_Name_kw (ld_blt I hg hm hb ?_ hn hdb)
  refine PyProof.Rows.callWith_builtin1 ?_ hse (by rfl)
  rw [hse]
  show wpAny _ _ (spliced ((false, eval (.GeneratorExp elt [⟨tg, iter, [], 0⟩] scope gpos) X.env) :: backTo pos (starEach [] X.env))) _ _ s
  refine Calls.spliced_cons (make_gen (R := fun J H1 => ∀ H2, Tabbed P H1 H2 → ∃ W : Nat → Nat → Hp → Prop, (∃ m, W 0 m H2) ∧ Turns J g te stop (List.map (fun x : Str × Nat => x.snd) own) σ W Q) (own := own) hr TB hcode gs ok hi hs I h ?_)
  intro J H1 H2 it fp tn s4 s5 code a gi go m hR hT I4 T st5 hfp hos hba hns hk ha hgo hgen hgd hgs
  obtain ⟨W, ⟨m0, w0⟩, turn⟩ := hR H2 hT
  refine Calls.spliced_nil ?_
  have I5 : Inv X pins σ H2 s5 := Woke.inv I4 ⟨hos, hba, hk⟩
  refine hcall a gi s5 _ (hgen _ hgo) ?_
  refine drop_loop (stop := stop) (Q := Q) hr.hd hr.depth (fun s R' => hnext a s R') (fun b s' H' I' q => ⟨.bl b, H', I', rfl, q⟩) (m0 + 1) s5 H2 I5 (hgen _ hgo) ⟨_, hgs, rfl, ?_⟩
  have hAf : (X.A.in1.in1.deeper (gEnv X scope s4.heap.objs.size code)).frames = some (gEnv X scope s4.heap.objs.size code :: X.stack) := Around.frames_deeper I.ok.frames
  have I6 : Inv (gblk X s4 H2 (gEnv X scope s4.heap.objs.size code) fp (X.A.in1.in1.deeper (gEnv X scope s4.heap.objs.size code)) [(a, go)]) [] (wipe σ (own.map (·.2))) H2 (s5.setGen gi .running) := by
    have J6 := gen_start (fp := fp) (code := code) (h5 := s5.heap) (g5 := (s5.setGen gi .running).gens) (A5 := X.A.in1.in1.deeper (gEnv X scope s4.heap.objs.size code)) (t5 := s5.toks) (d5 := s5.drawn) (pn := [(a, go)]) I4 ok gs hN hfp (fun _ => hr.hd) hAf hns hk (allBare_setGen hba rfl) fun p hp => by
      have e : p = (a, go) := by simpa using hp
      subst e
      exact ⟨hgo, ha, hgd⟩
    have e : ({ s4 with heap := s5.heap, gens := (s5.setGen gi .running).gens, drawn := s5.drawn, toks := s5.toks } : Shared) = s5.setGen gi .running := by
      cases s5
      cases hos
      rfl
    rw [e] at J6
    exact J6
  exact seg_start (own := own) hc I4 gs T hfp (hgt s4 H2 s4.heap.objs.size code fp [(a, go)]) (he s4 H2 s4.heap.objs.size code fp [(a, go)]) hgen (Nat.le_of_lt ha) turn (m0 + 1) m0 _ _ H2 (Nat.le_refl _) I6 st5 (fun b hb => (hfp b hb).1.1) w0
section
variable {c P : Addr} {elt tg iter : Expr} {scope : Scope} {own : List (Str × Nat)} {p pos gpos : Pos} {wi : TI} {g : TG} {te : TE} {k : Nat}
theorem pe_anyG (hc : X.calm = true) (hN : X.N.Nodup) (hr : Room k X.A) (hg : Gl X "any") (hm : X.mg "any" = none) (TB : TabB X.base X.mg c P) (hcode : X.env.code = .ref c) (gs : GSc scope) (ok : BlkOk X.N X.env.scope scope own) (hi : PI X tg iter wi)
    (hgt : ∀ (s : Shared) (H : Hp) (C : Addr) (code : Value) (fp : List Addr) (pn : List (Addr × Obj)), PG (gblk X s H (gEnv X scope C code) fp (X.A.in1.in1.deeper (gEnv X scope C code)) pn) tg g)
    (he : ∀ (s : Shared) (H : Hp) (C : Addr) (code : Value) (fp : List Addr) (pn : List (Addr × Obj)), PE (gblk X s H (gEnv X scope C code) fp (X.A.in1.in1.deeper (gEnv X scope C code)) pn) elt te)
    (hs : ∀ v, genFold iter X.env v = pure v := by intro _; rfl)
    (hse : starEach [.GeneratorExp elt [⟨tg, iter, [], 0⟩] scope gpos] X.env = (false, eval (.GeneratorExp elt [⟨tg, iter, [], 0⟩] scope gpos) X.env) :: starEach [] X.env := by rfl) :
    PE X (.Call (.Name "any" p) [.GeneratorExp elt [⟨tg, iter, [], 0⟩] scope gpos] [] pos) (tAG true P wi g te (own.map (·.2))) :=
  pe_drop (id := "any") (idl := "any.loop") (fun a gi s Q hg h => by
    refine call_function_tree F.kind_any F.plain_any F.entry_any (F.args_any1 _) ?_
    unfold Builtin.«any»
    refine wpAny_bind (m := oneArg "any" _) (wpAny_pure ?_)
    exact wpAny_bind (wpAny_pyIter_gen hg (wpAny_pure ⟨plainId_quiet F.plain_any_loop _, h⟩))) (fun a s R' => next_any) hc hN hr hg hm (by decide +kernel) TB hcode gs ok hi hgt he hs (by decide) (by decide) hse
theorem pe_allG (hc : X.calm = true) (hN : X.N.Nodup) (hr : Room k X.A) (hg : Gl X "all") (hm : X.mg "all" = none) (TB : TabB X.base X.mg c P) (hcode : X.env.code = .ref c) (gs : GSc scope) (ok : BlkOk X.N X.env.scope scope own) (hi : PI X tg iter wi)
    (hgt : ∀ (s : Shared) (H : Hp) (C : Addr) (code : Value) (fp : List Addr) (pn : List (Addr × Obj)), PG (gblk X s H (gEnv X scope C code) fp (X.A.in1.in1.deeper (gEnv X scope C code)) pn) tg g)
    (he : ∀ (s : Shared) (H : Hp) (C : Addr) (code : Value) (fp : List Addr) (pn : List (Addr × Obj)), PE (gblk X s H (gEnv X scope C code) fp (X.A.in1.in1.deeper (gEnv X scope C code)) pn) elt te)
    (hs : ∀ v, genFold iter X.env v = pure v := by intro _; rfl)
    (hse : starEach [.GeneratorExp elt [⟨tg, iter, [], 0⟩] scope gpos] X.env = (false, eval (.GeneratorExp elt [⟨tg, iter, [], 0⟩] scope gpos) X.env) :: starEach [] X.env := by rfl) :
    PE X (.Call (.Name "all" p) [.GeneratorExp elt [⟨tg, iter, [], 0⟩] scope gpos] [] pos) (tAG false P wi g te (own.map (·.2))) :=
  pe_drop (id := "all") (idl := "all.loop") (fun a gi s Q hg h => by
    refine call_function_tree F.kind_all F.plain_all F.entry_all (F.args_all1 _) ?_
    unfold Builtin.«all»
    refine wpAny_bind (m := oneArg "all" _) (wpAny_pure ?_)
    exact wpAny_bind (wpAny_pyIter_gen hg (wpAny_pure ⟨plainId_quiet F.plain_all_loop _, h⟩))) (fun a s R' => next_all) hc hN hr hg hm (by decide +kernel) TB hcode gs ok hi hgt he hs (by decide) (by decide) hse
end
end
end GenX


/-! A value layer over HandS: plain data D in slots, lists owned by a slot, the drawing list behind one word. -/
namespace OW
open PySem PySem.Spec PyProof.Rows L2

/-- plain data: never changed once made -/
inductive D where
  | non | bl (b : Bool) | int (i : Int) | str (s : Str)
  | tup (xs : List D) | lst (xs : List D) | dic (kvs : List (Key × D))

mutual
/-- the value v stands for the data d, in what is visible -/
inductive Rep (K : PySem.W.Frag) (G : Hp) : D → V → Prop
  | non : Rep K G .non .non
  | bl (b : Bool) : Rep K G (.bl b) (.bl b)
  | int (i : Int) : Rep K G (.int i) (.int i)
  | str (s : Str) : Rep K G (.str s) (.str s)
  | tup {a : Addr} {vs : List V} {xs : List D} : SqT K G a vs → Reps K G xs vs → Rep K G (.tup xs) (.ref a)
  | lst {a : Addr} {vs : List V} {xs : List D} : G a = some (.lst vs) → Reps K G xs vs → Rep K G (.lst xs) (.ref a)
  | dic {a : Addr} {kvs : List (Key × V)} {ds : List (Key × D)} : G a = some (.dK kvs) → (ds.map (·.1)).Nodup → ds.map (·.1) = kvs.map (·.1) → Reps K G (ds.map (·.2)) (kvs.map (·.2)) → Rep K G (.dic ds) (.ref a)
inductive Reps (K : PySem.W.Frag) (G : Hp) : List D → List V → Prop
  | nil : Reps K G [] []
  | cons {d : D} {ds : List D} {v : V} {vs : List V} : Rep K G d v → Reps K G ds vs → Reps K G (d :: ds) (v :: vs)
end

/-- what is seen stays -/
def GLe (G G' : Hp) : Prop := ∀ b o, G b = some o → G' b = some o
theorem GLe.refl (G : Hp) : GLe G G := fun _ _ h => h
theorem GLe.trans {G G1 G2 : Hp} (a : GLe G G1) (b : GLe G1 G2) : GLe G G2 := fun c o h => b c o (a c o h)
theorem GLe.rd {G G' : Hp} {a : Addr} {u : HO} (g : GLe G G') (h : Rd G a u) : Rd G' a u := by
  rcases h with h | ⟨o, h⟩
  · exact .inl (g _ _ h)
  · exact .inr ⟨o, g _ _ h⟩
theorem GLe.sqL {K : PySem.W.Frag} {G G' : Hp} {a : Addr} {xs : List V} (g : GLe G G') (h : SqL K G a xs) : SqL K G' a xs := by
  rcases h with h | h
  · exact .inl (g.rd h)
  · exact .inr h
theorem GLe.sqT {K : PySem.W.Frag} {G G' : Hp} {a : Addr} {xs : List V} (g : GLe G G') (h : SqT K G a xs) : SqT K G' a xs := by
  rcases h with h | h
  · exact .inl (g.rd h)
  · exact .inr h
mutual
theorem Rep.mono {K : PySem.W.Frag} {G G' : Hp} (g : GLe G G') : ∀ {d : D} {v : V}, Rep K G d v → Rep K G' d v
  | _, _, .non => .non
  | _, _, .bl b => .bl b
  | _, _, .int i => .int i
  | _, _, .str s => .str s
  | _, _, .tup h r => .tup (g.sqT h) (Reps.mono g r)
  | _, _, .lst h r => .lst (g _ _ h) (Reps.mono g r)
  | _, _, .dic h n e r => .dic (g _ _ h) n e (Reps.mono g r)
theorem Reps.mono {K : PySem.W.Frag} {G G' : Hp} (g : GLe G G') : ∀ {ds : List D} {vs : List V}, Reps K G ds vs → Reps K G' ds vs
  | _, _, .nil => .nil
  | _, _, .cons h r => .cons (Rep.mono g h) (Reps.mono g r)
end
section
variable {K : PySem.W.Frag} {G : Hp}
theorem Reps.length : ∀ {ds : List D} {vs : List V}, Reps K G ds vs → ds.length = vs.length
  | _, _, .nil => rfl
  | _, _, .cons _ r => by rw [List.length_cons, List.length_cons, Reps.length r]
theorem Reps.get : ∀ {ds : List D} {vs : List V} {i : Nat} {d : D}, Reps K G ds vs → ds[i]? = some d → ∃ v, vs[i]? = some v ∧ Rep K G d v
  | _, _, _, _, .nil, e => by simp at e
  | _, _, 0, _, .cons h _, e => by simp at e; subst e; exact ⟨_, rfl, h⟩
  | _, _, i + 1, _, .cons _ r, e => by
    obtain ⟨v, h1, h2⟩ := Reps.get (i := i) r (by simpa using e)
    exact ⟨v, by simpa using h1, h2⟩
theorem Reps.getV : ∀ {ds : List D} {vs : List V} {i : Nat} {v : V}, Reps K G ds vs → vs[i]? = some v → ∃ d, ds[i]? = some d ∧ Rep K G d v
  | _, _, _, _, .nil, e => by simp at e
  | _, _, 0, _, .cons h _, e => by simp at e; subst e; exact ⟨_, rfl, h⟩
  | _, _, i + 1, _, .cons _ r, e => by
    obtain ⟨v, h1, h2⟩ := Reps.getV (i := i) r (by simpa using e)
    exact ⟨v, by simpa using h1, h2⟩
theorem Reps.append : ∀ {ds es : List D} {vs ws : List V}, Reps K G ds vs → Reps K G es ws → Reps K G (ds ++ es) (vs ++ ws)
  | _, _, _, _, .nil, s => s
  | _, _, _, _, .cons h r, s => .cons h (Reps.append r s)
theorem Reps.take : ∀ {ds : List D} {vs : List V} (n : Nat), Reps K G ds vs → Reps K G (ds.take n) (vs.take n)
  | _, _, 0, _ => .nil
  | _, _, _ + 1, .nil => .nil
  | _, _, n + 1, .cons h r => .cons h (Reps.take n r)
theorem Reps.drop : ∀ {ds : List D} {vs : List V} (n : Nat), Reps K G ds vs → Reps K G (ds.drop n) (vs.drop n)
  | _, _, 0, r => r
  | _, _, _ + 1, .nil => .nil
  | _, _, n + 1, .cons _ r => Reps.drop n r
theorem Reps.set : ∀ {ds : List D} {vs : List V} (i : Nat) {d : D} {v : V}, Rep K G d v → Reps K G ds vs → Reps K G (ds.set i d) (vs.set i v)
  | _, _, _, _, _, _, .nil => .nil
  | _, _, 0, _, _, h, .cons _ r => .cons h r
  | _, _, i + 1, _, _, h, .cons q r => .cons q (Reps.set i h r)
theorem Reps.one {d : D} {v : V} (h : Rep K G d v) : Reps K G [d] [v] := .cons h .nil
theorem Reps.reverse {ds : List D} {vs : List V} (h : Reps K G ds vs) : Reps K G ds.reverse vs.reverse := by
  induction ds generalizing vs with
  | nil => cases h; exact .nil
  | cons d ds ih =>
    cases h with
    | cons h r => rw [List.reverse_cons, List.reverse_cons]; exact (ih r).append (.one h)
theorem Reps.dropLast : ∀ {ds : List D} {vs : List V}, Reps K G ds vs → Reps K G ds.dropLast vs.dropLast := fun {ds vs} h => by
  rw [List.dropLast_eq_take, List.dropLast_eq_take, ← h.length]; exact h.take _
theorem Reps.replicate {d : D} {v : V} (h : Rep K G d v) : ∀ n : Nat, Reps K G (List.replicate n d) (List.replicate n v)
  | 0 => .nil
  | n + 1 => .cons h (Reps.replicate h n)
theorem Reps.ints : ∀ (ns : List Int), Reps K G (ns.map D.int) (ns.map V.int)
  | [] => .nil
  | n :: r => .cons (.int n) (Reps.ints r)
theorem Reps.of_ints : ∀ {ns : List Int} {vs : List V}, Reps K G (ns.map D.int) vs → vs = ns.map V.int
  | [], _, .nil => rfl
  | n :: r, _, .cons h t => by cases h; rw [Reps.of_ints t]; rfl
end

/-! ### what is hidden -/
def hid (H : Hp) (O : List Addr) : Hp := fun a => if a ∈ O then none else H a
theorem hid_in {H : Hp} {O : List Addr} {a : Addr} (h : a ∈ O) : hid H O a = none := if_pos h
theorem hid_out {H : Hp} {O : List Addr} {a : Addr} (h : a ∉ O) : hid H O a = H a := if_neg h
theorem hid_le {H : Hp} {O : List Addr} : GLe (hid H O) H := fun b o e => by
  by_cases h : b ∈ O
  · rw [hid_in h] at e; cases e
  · rwa [hid_out h] at e
theorem hid_of {H : Hp} {O : List Addr} {a : Addr} {o : HO} (h : hid H O a = some o) : a ∉ O ∧ H a = some o := by
  by_cases z : a ∈ O
  · rw [hid_in z] at h; cases h
  · exact ⟨z, by rwa [hid_out z] at h⟩
/-- more is seen where less is hidden and all that was seen stays -/
theorem hid_mono {H H' : Hp} {O O' : List Addr} (hO : ∀ a ∈ O', a ∈ O ∨ H a = none) (k : ∀ b o, b ∉ O → H b = some o → H' b = some o) : GLe (hid H O) (hid H' O') := fun b o e => by
  obtain ⟨n, e⟩ := hid_of e
  have n' : b ∉ O' := fun z => by
    rcases hO b z with y | y
    · exact n y
    · rw [e] at y; cases y
  rw [hid_out n']; exact k b o n e
theorem hid_upd {H : Hp} {O : List Addr} {a : Addr} {o : HO} (h : a ∈ O) : hid (upd H a o) O = hid H O := by
  funext b
  by_cases z : b ∈ O
  · rw [hid_in z, hid_in z]
  · rw [hid_out z, hid_out z, upd_ne (fun e => z (by rw [e]; exact h))]

/-! ### slots -/
/-- what a slot holds: a value; a list of its own, a dict of its own, a list of lists of its own, that it may change; the drawing list -/
inductive L where
  | un | v (d : D) | own (xs : List D) | ownD (kvs : List (Key × D)) | ownL (as : List Addr) (xss : List (List D)) | st
abbrev W := List L
/-- an expression's answer: data, the drawing list, a list of a slot's own (not taken away) -/
inductive E where
  | d (x : D) | st | bor (i : Nat)

/-- what may change under a def's feet: the drawing list and its cells, the tables of code objects -/
structure S0 where
  st : Option (Addr × Addr)
  tb : List Addr
def Fr0 (s0 : S0) (b : Addr) : Prop := (∀ s c, s0.st = some (s, c) → b ≠ s) ∧ b ∉ s0.tb
/-- a def's surroundings: the written part, the heap at the entry, what callers hide, the drawing list and its cells -/
structure Gm where
  K : PySem.W.Frag
  He : Hp
  O : List Addr
  s0 : S0

/-- the drawing list's contents -/
def StC (H : Hp) (s c : Addr) : Prop := ∃ (a i n sd k : Int), 0 ≤ a ∧ 0 ≤ i ∧ H s = some (.lst [.int a, .int i, .int n, .int sd, .ref c, .int k])
def StB (K : PySem.W.Frag) (H : Hp) (c : Addr) : Prop := ∃ cs : List Int, SqL K H c (cs.map V.int)
def StO (s0 : S0) (H : Hp) : Prop := (∀ s c, s0.st = some (s, c) → StC H s c) ∧ ∀ P ∈ s0.tb, GxR.TabG H P
structure StIn (K : PySem.W.Frag) (O : List Addr) (s0 : S0) (He H : Hp) : Prop where
  mem : ∀ s c, s0.st = some (s, c) → s ∈ O
  memT : ∀ P ∈ s0.tb, P ∈ O
  fre : ∀ s c, s0.st = some (s, c) → Fr0 s0 c
  stT : ∀ s c, s0.st = some (s, c) → s ∉ s0.tb
  cells : ∀ s c, s0.st = some (s, c) → StB K He c
  cont : StO s0 H

/-- lists within a list -/
inductive Inner (K : PySem.W.Frag) (H G : Hp) : List Addr → List (List D) → Prop
  | nil : Inner K H G [] []
  | cons {a : Addr} {as : List Addr} {vs : List V} {xs : List D} {xss : List (List D)} : H a = some (.lst vs) → Reps K G xs vs → Inner K H G as xss → Inner K H G (a :: as) (xs :: xss)

inductive SlotOk (K : PySem.W.Frag) (s0 : S0) (H G : Hp) : L → Option V → List Addr → Prop
  | un (x : Option V) : SlotOk K s0 H G .un x []
  | v {d : D} {v : V} : Rep K G d v → SlotOk K s0 H G (.v d) (some v) []
  | own {a : Addr} {vs : List V} {xs : List D} : H a = some (.lst vs) → Reps K G xs vs → SlotOk K s0 H G (.own xs) (some (.ref a)) [a]
  | ownD {a : Addr} {kvs : List (Key × V)} {ds : List (Key × D)} : H a = some (.dK kvs) → (ds.map (·.1)).Nodup → ds.map (·.1) = kvs.map (·.1) → Reps K G (ds.map (·.2)) (kvs.map (·.2)) → SlotOk K s0 H G (.ownD ds) (some (.ref a)) [a]
  | ownL {a : Addr} {as : List Addr} {xss : List (List D)} : H a = some (.lst (as.map V.ref)) → Inner K H G as xss → SlotOk K s0 H G (.ownL as xss) (some (.ref a)) (a :: as)
  | st {s c : Addr} : s0.st = some (s, c) → SlotOk K s0 H G .st (some (.ref s)) []
inductive Slots (K : PySem.W.Frag) (s0 : S0) (H G : Hp) : W → L2.St → List Addr → Prop
  | nil : Slots K s0 H G [] [] []
  | cons {l : L} {w : W} {x : Option V} {σ : L2.St} {A1 A2 : List Addr} : SlotOk K s0 H G l x A1 → Slots K s0 H G w σ A2 → Slots K s0 H G (l :: w) (x :: σ) (A1 ++ A2)

/-- THE RELATION: ex: lists just made, not yet given to a slot; A: the addresses that slots own -/
structure Rel (Γ : Gm) (ex A : List Addr) (w : W) (σ : L2.St) (H : Hp) : Prop where
  slots : Slots Γ.K Γ.s0 H (hid H (ex ++ A ++ Γ.O)) w σ A
  nd : (ex ++ A).Nodup
  own : ∀ a ∈ ex ++ A, a ∉ Γ.O ∧ Γ.He a = none ∧ H a ≠ none
  since : ∀ b o, Γ.He b = some o → Fr0 Γ.s0 b → H b = some o
  alloc : ∀ b ∈ Γ.O, H b ≠ none
  st : StIn Γ.K Γ.O Γ.s0 Γ.He H

section
variable {K : PySem.W.Frag} {s0 : S0} {H H' G G' : Hp}
theorem Inner.mono (g : GLe G G') : ∀ {as : List Addr} {xss : List (List D)}, Inner K H G as xss → (∀ a ∈ as, H' a = H a) → Inner K H' G' as xss
  | _, _, .nil, _ => .nil
  | _, _, .cons h r t, k => .cons ((k _ (List.mem_cons_self ..)).trans h) (r.mono g) (Inner.mono g t fun a ha => k a (List.mem_cons_of_mem _ ha))
theorem SlotOk.mono {l : L} {x : Option V} {A : List Addr} (h : SlotOk K s0 H G l x A) (k : ∀ a ∈ A, H' a = H a) (g : GLe G G') : SlotOk K s0 H' G' l x A := by
  cases h with
  | un => exact .un _
  | v r => exact .v (r.mono g)
  | own e r => exact .own ((k _ (List.mem_cons_self ..)).trans e) (r.mono g)
  | ownD e n q r => exact .ownD ((k _ (List.mem_cons_self ..)).trans e) n q (r.mono g)
  | ownL e r => exact .ownL ((k _ (List.mem_cons_self ..)).trans e) (r.mono g fun a ha => k a (List.mem_cons_of_mem _ ha))
  | st e => exact .st e
theorem Slots.mono (g : GLe G G') : ∀ {w : W} {σ : L2.St} {A : List Addr}, Slots K s0 H G w σ A → (∀ a ∈ A, H' a = H a) → Slots K s0 H' G' w σ A
  | _, _, _, .nil, _ => .nil
  | _, _, _, .cons h r, k => .cons (h.mono (fun a ha => k a (List.mem_append_left _ ha)) g) (Slots.mono g r fun a ha => k a (List.mem_append_right _ ha))
theorem Slots.length : ∀ {w : W} {σ : L2.St} {A : List Addr}, Slots K s0 H G w σ A → σ.length = w.length
  | _, _, _, .nil => rfl
  | _, _, _, .cons _ r => by rw [List.length_cons, List.length_cons, Slots.length r]
/-- one slot is changed -/
theorem Slots.change : ∀ {w : W} {σ : L2.St} {A : List Addr} {i : Nat} {l : L}, Slots K s0 H G w σ A → w[i]? = some l → ∃ (x : Option V) (Ai pre post : List Addr), A = pre ++ Ai ++ post ∧ σ[i]? = some x ∧ SlotOk K s0 H G l x Ai ∧
    ∀ (H' G' : Hp) (l' : L) (x' : Option V) (Ai' : List Addr), SlotOk K s0 H' G' l' x' Ai' → (∀ a ∈ pre ++ post, H' a = H a) → GLe G G' → Slots K s0 H' G' (w.set i l') (σ.set i x') (pre ++ Ai' ++ post)
  | _, _, _, _, _, .nil, e => by simp at e
  | _, _, _, 0, _, @Slots.cons _ _ _ _ l w x σ A1 A2 h r, e => by
    simp at e; subst e
    refine ⟨x, A1, [], A2, rfl, rfl, h, fun H' G' l' x' Ai' q k g => ?_⟩
    exact .cons q (r.mono g fun a ha => k a ha)
  | _, _, _, i + 1, _, @Slots.cons _ _ _ _ l w x σ A1 A2 h r, e => by
    obtain ⟨y, Ai, pre, post, e1, e2, q, f⟩ := Slots.change (i := i) r (by simpa using e)
    refine ⟨y, Ai, A1 ++ pre, post, by rw [e1]; simp [List.append_assoc], by simpa using e2, q, fun H' G' l' x' Ai' q' k g => ?_⟩
    have e3 : A1 ++ pre ++ Ai' ++ post = A1 ++ (pre ++ Ai' ++ post) := by simp [List.append_assoc]
    rw [e3]
    refine .cons (h.mono (fun a ha => k a (by simp [ha])) g) (f H' G' l' x' Ai' q' (fun a ha => k a ?_) g)
    rcases List.mem_append.mp ha with z | z <;> simp [z]
theorem Slots.at_ {w : W} {σ : L2.St} {A : List Addr} {i : Nat} {l : L} (h : Slots K s0 H G w σ A) (e : w[i]? = some l) : ∃ (x : Option V) (Ai : List Addr), σ[i]? = some x ∧ SlotOk K s0 H G l x Ai ∧ ∀ a ∈ Ai, a ∈ A := by
  obtain ⟨x, Ai, pre, post, e1, e2, q, _⟩ := h.change e
  exact ⟨x, Ai, e2, q, fun a ha => by rw [e1]; simp [ha]⟩
end

section
variable {Γ : Gm} {ex A : List Addr} {w : W} {σ : L2.St} {H H' : Hp}
theorem Rel.len (R : Rel Γ ex A w σ H) : σ.length = w.length := R.slots.length
/-- what may change stands -/
theorem StO.at {s0 : S0} {H : Hp} {b : Addr} (h : StO s0 H) (n : ¬ Fr0 s0 b) : H b ≠ none := by
  intro z
  apply n
  refine ⟨fun s c e y => ?_, fun hb => ?_⟩
  · obtain ⟨_, _, _, _, _, _, _, hs⟩ := h.1 s c e
    rw [← y, z] at hs; cases hs
  · obtain ⟨_, hs, _⟩ := h.2 b hb
    rw [z] at hs; cases hs
/-- an object that was there at the entry, or is not hidden: what new addresses are apart from -/
theorem Rel.fresh_out (R : Rel Γ ex A w σ H) {p : Addr} (h : H p = none) : p ∉ ex ++ A ++ Γ.O ∧ Γ.He p = none := by
  have e : Γ.He p = none := by
    cases q : Γ.He p with
    | none => rfl
    | some o =>
      by_cases z : Fr0 Γ.s0 p
      · have := R.since p o q z
        rw [h] at this; cases this
      · exact absurd h (R.st.cont.at z)
  refine ⟨fun z => ?_, e⟩
  rcases List.mem_append.mp z with z | z
  · exact (R.own p z).2.2 h
  · exact R.alloc p z h
/-- H' keeps all that is tracked, but for the drawing list, whose form it keeps, and the tables -/
def Keep (s0 : S0) (H H' : Hp) : Prop := ∀ b o, H b = some o → Fr0 s0 b → H' b = some o
theorem StIn.free {K : PySem.W.Frag} {O : List Addr} {s0 : S0} {He H : Hp} (h : StIn K O s0 He H) {b : Addr} (hb : b ∉ O) : Fr0 s0 b :=
  ⟨fun s c e z => hb (by rw [z]; exact h.mem s c e), fun z => hb (h.memT b z)⟩
theorem Rel.keep (R : Rel Γ ex A w σ H) (k : Keep Γ.s0 H H') (hs : StO Γ.s0 H') : Rel Γ ex A w σ H' ∧ GLe (hid H (ex ++ A ++ Γ.O)) (hid H' (ex ++ A ++ Γ.O)) := by
  have g : GLe (hid H (ex ++ A ++ Γ.O)) (hid H' (ex ++ A ++ Γ.O)) := hid_mono (fun a h => .inl h) fun b o n e => k b o e (R.st.free fun z => n (List.mem_append_right _ z))
  have own' : ∀ a ∈ ex ++ A, H' a = H a := fun a ha => by
    obtain ⟨n, _, q⟩ := R.own a ha
    cases e : H a with
    | none => exact absurd e q
    | some o => exact k a o e (R.st.free n)
  refine ⟨⟨R.slots.mono g fun a ha => own' a (List.mem_append_right _ ha), R.nd, fun a ha => ?_, fun b o e n => k b o (R.since b o e n) n, fun b hb => ?_, ⟨R.st.mem, R.st.memT, R.st.fre, R.st.stT, R.st.cells, hs⟩⟩, g⟩
  · obtain ⟨n, e, q⟩ := R.own a ha
    exact ⟨n, e, by rw [own' a ha]; exact q⟩
  · cases e : H b with
    | none => exact absurd e (R.alloc b hb)
    | some o =>
      by_cases z : Fr0 Γ.s0 b
      · rw [k b o e z]; exact fun y => nomatch y
      · exact hs.at z
theorem StO.new {s0 : S0} {p : Addr} {o : HO} (h : StO s0 H) (hp : H p = none) : StO s0 (upd H p o) := by
  have np : ∀ b u, H b = some u → b ≠ p := fun b u e => ne_of_none e hp
  refine ⟨fun s c e => ?_, fun P hP => ?_⟩
  · obtain ⟨a, i, n, sd, k, h1, h2, h3⟩ := h.1 s c e
    exact ⟨a, i, n, sd, k, h1, h2, by rw [upd_ne (np s _ h3)]; exact h3⟩
  · obtain ⟨ps, h1, h2⟩ := h.2 P hP
    exact ⟨ps, by rw [upd_ne (np P _ h1)]; exact h1, h2⟩
/-- .. an object that is none of these -/
theorem StO.upd {s0 : S0} {p : Addr} {o : HO} (h : StO s0 H) (hp : Fr0 s0 p) : StO s0 (upd H p o) := by
  refine ⟨fun s c e => ?_, fun P hP => ?_⟩
  · obtain ⟨a, i, n, sd, k, h1, h2, h3⟩ := h.1 s c e
    exact ⟨a, i, n, sd, k, h1, h2, by rw [upd_ne (Ne.symm (hp.1 s c e))]; exact h3⟩
  · obtain ⟨ps, h1, h2⟩ := h.2 P hP
    have nP : P ≠ p := fun z => hp.2 (by rw [← z]; exact hP)
    exact ⟨ps, by rw [upd_ne nP]; exact h1, h2⟩
/-- a new object -/
theorem Rel.new (R : Rel Γ ex A w σ H) {p : Addr} {o : HO} (h : H p = none) : Rel Γ ex A w σ (upd H p o) ∧ GLe (hid H (ex ++ A ++ Γ.O)) (hid (upd H p o) (ex ++ A ++ Γ.O)) := by
  have np : ∀ b u, H b = some u → b ≠ p := fun b u e => ne_of_none e h
  exact R.keep (fun b u e _ => by rw [upd_ne (np b u e)]; exact e) (R.st.cont.new h)
/-- a new object, hidden -/
theorem Rel.newEx (R : Rel Γ [] A w σ H) {p : Addr} {o : HO} (h : H p = none) : Rel Γ [p] A w σ (upd H p o) := by
  obtain ⟨np, e⟩ := R.fresh_out h
  have np1 : p ∉ A := fun z => np (by simp [z])
  have np2 : p ∉ Γ.O := fun z => np (by simp [z])
  obtain ⟨R1, _⟩ := R.new (o := o) h
  have eqv : hid (upd H p o) ([p] ++ A ++ Γ.O) = hid H ([] ++ A ++ Γ.O) := by
    funext b
    by_cases z : b = p
    · subst z
      rw [hid_in (by simp), hid_out (by simpa using np)]
      exact h.symm
    · by_cases y : b ∈ A ++ Γ.O
      · rw [hid_in (by simpa using Or.inr (by simpa using y)), hid_in (by simpa using y)]
      · rw [hid_out (by simpa [z] using y), hid_out (by simpa using y), upd_ne z]
  refine ⟨?_, ?_, fun a ha => ?_, R1.since, R1.alloc, R1.st⟩
  · rw [eqv]
    exact R.slots.mono (GLe.refl _) fun a ha => upd_ne fun z => np1 (by rw [← z]; exact ha)
  · have := R.nd
    simpa using ⟨np1, by simpa using this⟩
  · rcases List.mem_append.mp ha with z | z
    · have z' : a = p := by simpa using z
      subst z'
      exact ⟨np2, e, by rw [upd_same]; simp⟩
    · exact R1.own a (by simpa using z)
/-- what was hidden is seen from now on -/
theorem Rel.unEx {p : Addr} (R : Rel Γ [p] A w σ H) : Rel Γ [] A w σ H ∧ GLe (hid H ([p] ++ A ++ Γ.O)) (hid H ([] ++ A ++ Γ.O)) := by
  have g : GLe (hid H ([p] ++ A ++ Γ.O)) (hid H ([] ++ A ++ Γ.O)) := hid_mono (fun a h => .inl (by simp at h ⊢; exact Or.inr h)) fun _ _ _ e => e
  refine ⟨⟨R.slots.mono g fun _ _ => rfl, ?_, fun a ha => R.own a (by simp at ha ⊢; exact Or.inr ha), R.since, R.alloc, R.st⟩, g⟩
  have := R.nd
  simp at this ⊢
  exact this.2
/-- a slot is given a value -/
theorem Rel.setV {d : D} {v : V} {i : Nat} (R : Rel Γ [] A w σ H) (hi : i < w.length) (r : Rep Γ.K (hid H ([] ++ A ++ Γ.O)) d v) :
    ∃ A', Rel Γ [] A' (w.set i (.v d)) (σ.set i (some v)) H ∧ GLe (hid H ([] ++ A ++ Γ.O)) (hid H ([] ++ A' ++ Γ.O)) := by
  obtain ⟨x, Ai, pre, post, e1, e2, q, f⟩ := R.slots.change (List.getElem?_eq_getElem hi)
  have sub : ∀ a, a ∈ pre ++ [] ++ post → a ∈ A := fun a ha => by
    rw [e1]; simp at ha ⊢; rcases ha with z | z <;> simp [z]
  have g : GLe (hid H ([] ++ A ++ Γ.O)) (hid H ([] ++ (pre ++ [] ++ post) ++ Γ.O)) := hid_mono (fun a h => .inl (by
    rcases List.mem_append.mp h with z | z
    · exact List.mem_append_left _ (by simpa using sub a (by simpa using z))
    · exact List.mem_append_right _ z)) fun _ _ _ e => e
  refine ⟨pre ++ [] ++ post, ⟨f H _ _ _ [] (.v (r.mono g)) (fun _ _ => rfl) g, ?_, fun a ha => R.own a (by simpa using sub a (by simpa using ha)), R.since, R.alloc, R.st⟩, g⟩
  have := R.nd
  rw [e1] at this
  simp [List.nodup_append] at this ⊢
  grind
/-- a slot is given a list that was just made -/
theorem Rel.setOwn {xs : List D} {vs : List V} {p : Addr} {i : Nat} (R : Rel Γ [p] A w σ H) (hi : i < w.length) (e : H p = some (.lst vs)) (r : Reps Γ.K (hid H ([p] ++ A ++ Γ.O)) xs vs) :
    ∃ A', Rel Γ [] A' (w.set i (.own xs)) (σ.set i (some (.ref p))) H ∧ GLe (hid H ([p] ++ A ++ Γ.O)) (hid H ([] ++ A' ++ Γ.O)) := by
  obtain ⟨x, Ai, pre, post, e1, e2, q, f⟩ := R.slots.change (List.getElem?_eq_getElem hi)
  have sub : ∀ a, a ∈ pre ++ [p] ++ post → a ∈ [p] ++ A := fun a ha => by
    rw [e1]; simp at ha ⊢; grind
  have g : GLe (hid H ([p] ++ A ++ Γ.O)) (hid H ([] ++ (pre ++ [p] ++ post) ++ Γ.O)) := hid_mono (fun a h => .inl (by
    rcases List.mem_append.mp h with z | z
    · exact List.mem_append_left _ (sub a (by simpa using z))
    · exact List.mem_append_right _ z)) fun _ _ _ e => e
  refine ⟨pre ++ [p] ++ post, ⟨f H _ _ _ [p] (.own e (r.mono g)) (fun _ _ => rfl) g, ?_, fun a ha => R.own a (sub a (by simpa using ha)), R.since, R.alloc, R.st⟩, g⟩
  have := R.nd
  rw [e1] at this
  simp [List.nodup_append] at this ⊢
  grind
/-- .. a dict -/
theorem Rel.setOwnD {ds : List (Key × D)} {kvs : List (Key × V)} {p : Addr} {i : Nat} (R : Rel Γ [p] A w σ H) (hi : i < w.length) (e : H p = some (.dK kvs)) (n : (ds.map (·.1)).Nodup) (ek : ds.map (·.1) = kvs.map (·.1)) (r : Reps Γ.K (hid H ([p] ++ A ++ Γ.O)) (ds.map (·.2)) (kvs.map (·.2))) :
    ∃ A', Rel Γ [] A' (w.set i (.ownD ds)) (σ.set i (some (.ref p))) H ∧ GLe (hid H ([p] ++ A ++ Γ.O)) (hid H ([] ++ A' ++ Γ.O)) := by
  obtain ⟨x, Ai, pre, post, e1, e2, q, f⟩ := R.slots.change (List.getElem?_eq_getElem hi)
  have sub : ∀ a, a ∈ pre ++ [p] ++ post → a ∈ [p] ++ A := fun a ha => by
    rw [e1]; simp at ha ⊢; grind
  have g : GLe (hid H ([p] ++ A ++ Γ.O)) (hid H ([] ++ (pre ++ [p] ++ post) ++ Γ.O)) := hid_mono (fun a h => .inl (by
    rcases List.mem_append.mp h with z | z
    · exact List.mem_append_left _ (sub a (by simpa using z))
    · exact List.mem_append_right _ z)) fun _ _ _ e => e
  refine ⟨pre ++ [p] ++ post, ⟨f H _ _ _ [p] (.ownD e n ek (r.mono g)) (fun _ _ => rfl) g, ?_, fun a ha => R.own a (sub a (by simpa using ha)), R.since, R.alloc, R.st⟩, g⟩
  have := R.nd
  rw [e1] at this
  simp [List.nodup_append] at this ⊢
  grind
end
end OW


namespace OW
open PySem PySem.Spec PyProof.Rows L2

/-- a def's surroundings but for the written part -/
structure G0 where
  He : Hp
  O : List Addr
  s0 : S0
abbrev gmK (K : PySem.W.Frag) (g : G0) : Gm := ⟨K, g.He, g.O, g.s0⟩
abbrev vis (g : G0) (A : List Addr) (H : Hp) : Hp := hid H ([] ++ A ++ g.O)

/-- the answer e stands as v -/
def RepE (K : PySem.W.Frag) (g : G0) (G : Hp) (σ : L2.St) : E → V → Prop
  | .d x, v => Rep K G x v
  | .st, v => ∃ s c, g.s0.st = some (s, c) ∧ v = .ref s
  | .bor i, v => σ[i]? = some (some v)
theorem RepE.mono {K : PySem.W.Frag} {g : G0} {G G' : Hp} {σ : L2.St} {e : E} {v : V} (k : GLe G G') (h : RepE K g G σ e v) : RepE K g G' σ e v := by
  cases e with
  | d x => exact Rep.mono k h
  | st => exact h
  | bor i => exact h
inductive RepEs (K : PySem.W.Frag) (g : G0) (G : Hp) (σ : L2.St) : List E → List V → Prop
  | nil : RepEs K g G σ [] []
  | cons {e : E} {es : List E} {v : V} {vs : List V} : RepE K g G σ e v → RepEs K g G σ es vs → RepEs K g G σ (e :: es) (v :: vs)
theorem RepEs.mono {K : PySem.W.Frag} {g : G0} {G G' : Hp} {σ : L2.St} (k : GLe G G') : ∀ {es : List E} {vs : List V}, RepEs K g G σ es vs → RepEs K g G' σ es vs
  | _, _, .nil => .nil
  | _, _, .cons h r => .cons (h.mono k) (RepEs.mono k r)

abbrev TW := W → (E → W → Prop) → Prop
abbrev TWt := W → (Bool → W → Prop) → Prop
abbrev TWa := W → (List E → W → Prop) → Prop
/-- what is wanted behind an expression, over the heap -/
def Then (K : PySem.W.Frag) (g : G0) (A : List Addr) (σ : L2.St) (H : Hp) (Q0 : E → W → Prop) (Q : VK) : Prop :=
  ∀ e w', Q0 e w' → ∀ v H', Rel (gmK K g) [] A w' σ H' → RepE K g (vis g A H') σ e v → GLe (vis g A H) (vis g A H') → Q v H'
def up (K : PySem.W.Frag) (g : G0) (t : TW) : TE := fun σ H Q => ∃ A w Q0, Rel (gmK K g) [] A w σ H ∧ t w Q0 ∧ Then K g A σ H Q0 Q
def ThenT (K : PySem.W.Frag) (g : G0) (A : List Addr) (σ : L2.St) (H : Hp) (Q0 : Bool → W → Prop) (Q : Bool → Hp → Prop) : Prop :=
  ∀ b w', Q0 b w' → ∀ H', Rel (gmK K g) [] A w' σ H' → GLe (vis g A H) (vis g A H') → Q b H'
def upT (K : PySem.W.Frag) (g : G0) (t : TWt) : TT := fun σ H Q => ∃ A w Q0, Rel (gmK K g) [] A w σ H ∧ t w Q0 ∧ ThenT K g A σ H Q0 Q
def ThenA (K : PySem.W.Frag) (g : G0) (A : List Addr) (σ : L2.St) (H : Hp) (Q0 : List E → W → Prop) (Q : List V → Hp → Prop) : Prop :=
  ∀ es w', Q0 es w' → ∀ vs H', Rel (gmK K g) [] A w' σ H' → RepEs K g (vis g A H') σ es vs → GLe (vis g A H) (vis g A H') → Q vs H'
def upA (K : PySem.W.Frag) (g : G0) (t : TWa) : TA := fun σ H Q => ∃ A w Q0, Rel (gmK K g) [] A w σ H ∧ t w Q0 ∧ ThenA K g A σ H Q0 Q

abbrev PEW (X : Cx) (g : G0) (e : Expr) (t : TW) : Prop := PE X e (up X.K g t)
abbrev PTW (X : Cx) (g : G0) (e : Expr) (t : TWt) : Prop := PT X e (upT X.K g t)
abbrev PWW (X : Cx) (g : G0) (e : Expr) (t : TWt) : Prop := PW X e (upT X.K g t)
abbrev PAW (X : Cx) (g : G0) (es : List Expr) (t : TWa) : Prop := PA X es (upA X.K g t)

theorem PE.imp {X : Cx} {e : Expr} {t t' : TE} (h : PE X e t) (k : ∀ σ H Q, t' σ H Q → t σ H Q) : PE X e t' := ⟨fun pins s σ H Q I q => h.run pins s σ H Q I (k σ H Q q)⟩
theorem PT.imp {X : Cx} {e : Expr} {t t' : TT} (h : PT X e t) (k : ∀ σ H Q, t' σ H Q → t σ H Q) : PT X e t' := ⟨fun pins s σ H Q I q => h.run pins s σ H Q I (k σ H Q q)⟩
theorem PW.imp {X : Cx} {e : Expr} {t t' : TT} (h : PW X e t) (k : ∀ σ H Q, t' σ H Q → t σ H Q) : PW X e t' := ⟨fun wh pins s σ H Q I q => h.run wh pins s σ H Q I (k σ H Q q)⟩
theorem PA.imp {X : Cx} {es : List Expr} {t t' : TA} (h : PA X es t) (k : ∀ σ H Q, t' σ H Q → t σ H Q) : PA X es t' := ⟨fun pos pins s σ H Q I q => h.run pos pins s σ H Q I (k σ H Q q)⟩
theorem PS.imp {X : Cx} {st : Stmt} {t t' : TS} (h : PS X st t) (k : ∀ D σ H, t' D σ H → t D σ H) : PS X st t' := ⟨fun pins s σ H D I q => h.run pins s σ H D I (k D σ H q)⟩
theorem PSs.imp {X : Cx} {st : List Stmt} {t t' : TS} (h : PSs X st t) (k : ∀ D σ H, t' D σ H → t D σ H) : PSs X st t' := ⟨fun pins s σ H D I q => h.run pins s σ H D I (k D σ H q)⟩

/-! ### names and constants -/
def eVar (i : Nat) : TW := fun w Q => match w[i]? with
  | some (.v d) => Q (.d d) w
  | some (.own _) => Q (.bor i) w
  | some (.ownD _) => Q (.bor i) w
  | some (.ownL _ _) => Q (.bor i) w
  | some .st => Q .st w
  | _ => False
def eC (d : D) : TW := fun w Q => Q (.d d) w
section
variable {X : Cx} {g : G0} {a b c : Expr} {ta tb tc : TW} {pos : Pos}
theorem slot_val {K : PySem.W.Frag} {A : List Addr} {w : W} {σ : L2.St} {H : Hp} {i : Nat} {l : L} (R : Rel (gmK K g) [] A w σ H) (e : w[i]? = some l) :
    ∃ (x : Option V) (Ai : List Addr), σ[i]? = some x ∧ SlotOk K g.s0 H (vis g A H) l x Ai ∧ ∀ a ∈ Ai, a ∈ A := R.slots.at_ e
theorem e_var {i : Nat} {x : Str} (hN : X.N[i]? = some x := by rfl) (hv : Vis X.env.scope x := by first | exact Or.inl rfl | exact Or.inr (Or.inl rfl) | exact Or.inr (Or.inr rfl)) (hd : (x == ("__debug__" : Str)) = false := by decide) (hcd : (x == ("__classdict__" : Str)) = false := by decide) :
    PEW X g (.Name x pos) (eVar i) := by
  refine PE.imp (pe_var (i := i) hN hv hd hcd) fun σ H Q ⟨A, w, Q0, R, h, k⟩ => ?_
  unfold eVar at h
  split at h
  · rename_i d e
    obtain ⟨y, Ai, e2, so, _⟩ := slot_val R e
    cases so with
    | v r => exact ⟨_, e2, k _ _ h _ _ R r (GLe.refl _)⟩
  · rename_i xs e
    obtain ⟨y, Ai, e2, so, _⟩ := slot_val R e
    cases so with
    | own q r => exact ⟨_, e2, k _ _ h _ _ R e2 (GLe.refl _)⟩
  · rename_i xs e
    obtain ⟨y, Ai, e2, so, _⟩ := slot_val R e
    cases so with
    | ownD q n q2 r => exact ⟨_, e2, k _ _ h _ _ R e2 (GLe.refl _)⟩
  · rename_i xs e
    obtain ⟨y, Ai, e2, so, _⟩ := slot_val R e
    cases so with
    | ownL q r => exact ⟨_, e2, k _ _ h _ _ R e2 (GLe.refl _)⟩
  · rename_i e
    obtain ⟨y, Ai, e2, so, _⟩ := slot_val R e
    cases so with
    | st q => exact ⟨_, e2, k _ _ h _ _ R ⟨_, _, q, rfl⟩ (GLe.refl _)⟩
  · exact h.elim
theorem e_const {v : V} {d : D} (h : PE X a (tC v)) (r : ∀ G, Rep X.K G d v) : PEW X g a (eC d) :=
  PE.imp h fun _ _ _ ⟨_, _, _, R, q, k⟩ => k _ _ q _ _ R (r _) (GLe.refl _)
theorem e_int {i j} : PEW X g (.Constant (.int i) j pos) (eC (.int i)) := e_const pe_int fun _ => .int i
theorem e_bl {b j} : PEW X g (.Constant (.bool b) j pos) (eC (.bl b)) := e_const pe_bl fun _ => .bl b
theorem e_non {j} : PEW X g (.Constant .none j pos) (eC .non) := e_const pe_non fun _ => .non
theorem e_str {x j} : PEW X g (.Constant (.str x) j pos) (eC (.str x)) := e_const pe_str fun _ => .str x

/-! ### operations by values -/
/-- what o says of the answers is what r asks of the values -/
def OpW (K : PySem.W.Frag) (g : G0) (r : R2) (o : E → E → W → (E → W → Prop) → Prop) : Prop :=
  ∀ (A : List Addr) (w : W) (σ : L2.St) (H : Hp) (x y : E) (vx vy : V) (Q0 : E → W → Prop) (Q : VK), Rel (gmK K g) [] A w σ H → RepE K g (vis g A H) σ x vx → RepE K g (vis g A H) σ y vy → o x y w Q0 → Then K g A σ H Q0 Q → r vx vy H Q
def eOp (o : E → E → W → (E → W → Prop) → Prop) (ta tb : TW) : TW := fun w Q => ta w fun x w1 => tb w1 fun y w2 => o x y w2 Q
theorem Then.comp {K : PySem.W.Frag} {A : List Addr} {σ : L2.St} {H H1 : Hp} {Q0 : E → W → Prop} {Q : VK} (k : Then K g A σ H Q0 Q) (h : GLe (vis g A H) (vis g A H1)) : Then K g A σ H1 Q0 Q :=
  fun e w' q v H' R r l => k e w' q v H' R r (h.trans l)
/-- two answers, then an operation by values -/
theorem up_two {K : PySem.W.Frag} {r : R2} {o : E → E → W → (E → W → Prop) → Prop} (hw : OpW K g r o) (σ : L2.St) (H : Hp) (Q : VK) (h : up K g (eOp o ta tb) σ H Q) : tOp r (up K g ta) (up K g tb) σ H Q := by
  obtain ⟨A, w, Q0, R, q, k⟩ := h
  refine ⟨A, w, _, R, q, fun x w1 q1 vx H1 R1 r1 l1 => ⟨A, w1, _, R1, q1, fun y w2 q2 vy H2 R2 r2 l2 => ?_⟩⟩
  exact hw A w2 σ H2 x y vx vy Q0 Q R2 (r1.mono l2) r2 q2 (k.comp (l1.trans l2))
theorem e_op {op : Operator} {r : R2} {o : E → E → W → (E → W → Prop) → Prop} (ho : OpR X (binaryOp op) r) (hw : OpW X.K g r o) (ha : PEW X g a ta) (hb : PEW X g b tb) : PEW X g (.BinOp a op b pos) (eOp o ta tb) :=
  PE.imp (pe_op ho ha hb) (up_two hw)
theorem e_cmp {op : CmpOp} {r : R2} {o : E → E → W → (E → W → Prop) → Prop} (ho : OpR X (compareOp op) r) (hw : OpW X.K g r o) (ha : PEW X g a ta) (hb : PEW X g b tb) (hm : behindInMarks op b = false) : PEW X g (.Compare a [op] [b] pos) (eOp o ta tb) :=
  PE.imp (pe_cmpR ho ha hb hm) (up_two hw)
/-- an answer that is True or False, as a test -/
def tOf (t : TW) : TWt := fun w Q => t w fun x w1 => match x with
  | .d (.bl b) => Q b w1
  | _ => False
theorem up_test {K : PySem.W.Frag} {t : TW} {te : TE} (h : ∀ σ H Q, up K g t σ H Q → te σ H Q) (σ : L2.St) (H : Hp) (Q : Bool → Hp → Prop) (q : upT K g (tOf t) σ H Q) : tTest te σ H Q := by
  obtain ⟨A, w, Q0, R, q, k⟩ := q
  refine h σ H _ ⟨A, w, _, R, q, fun x w1 q1 v H1 R1 r1 l1 => ?_⟩
  split at q1
  · cases r1
    exact ⟨_, rfl, k _ _ q1 _ R1 l1⟩
  · exact q1.elim
theorem t_cmp {op : CmpOp} {r : R2} {o : E → E → W → (E → W → Prop) → Prop} (ho : OpR X (compareOp op) r) (hw : OpW X.K g r o) (ha : PEW X g a ta) (hb : PEW X g b tb) (hm : behindInMarks op b = false) : PTW X g (.Compare a [op] [b] pos) (tOf (eOp o ta tb)) :=
  PT.imp (pt_cmpR ho ha hb hm) (up_test (up_two hw))
theorem t_val (h : PEW X g a ta) (he : ∀ whole, isTrue a X.env whole = (do let v ← whole; standAt a.pos; holding [v] (truthy v)) := by intro _; rfl) : PTW X g a (tOf ta) :=
  PT.imp (pt_val h he) (up_test fun _ _ _ q => q)
/-- a < b < c -/
def eChain (o o' : E → E → W → (E → W → Prop) → Prop) (ta tb tc : TW) : TW := fun w Q => ta w fun x w1 => tb w1 fun y w2 => o x y w2 fun z w3 => match z with
  | .d (.bl true) => tc w3 fun u w4 => o' y u w4 Q
  | .d (.bl false) => Q (.d (.bl false)) w3
  | _ => False
theorem up_chain {K : PySem.W.Frag} {r r' : R2} {o o' : E → E → W → (E → W → Prop) → Prop} (hw : OpW K g r o) (hw' : OpW K g r' o') (σ : L2.St) (H : Hp) (Q : VK) (h : up K g (eChain o o' ta tb tc) σ H Q) : tChain r r' (up K g ta) (up K g tb) (up K g tc) σ H Q := by
  obtain ⟨A, w, Q0, R, q, k⟩ := h
  refine ⟨A, w, _, R, q, fun x w1 q1 vx H1 R1 r1 l1 => ⟨A, w1, _, R1, q1, fun y w2 q2 vy H2 R2 r2 l2 => ?_⟩⟩
  refine hw A w2 σ H2 x y vx vy _ _ R2 (r1.mono l2) r2 q2 fun z w3 q3 vz H3 R3 r3 l3 => ?_
  split at q3
  · cases r3
    refine ⟨true, rfl, ?_⟩
    rw [if_pos rfl]
    exact ⟨A, w3, _, R3, q3, fun u w4 q4 vu H4 R4 r4 l4 => hw' A w4 σ H4 y u vy vu Q0 Q R4 (r2.mono (l3.trans l4)) r4 q4 (k.comp (((l1.trans l2).trans l3).trans l4))⟩
  · cases r3
    refine ⟨false, rfl, ?_⟩
    rw [if_neg Bool.false_ne_true]
    exact k _ _ q3 _ _ R3 (.bl false) ((l1.trans l2).trans l3)
  · exact q3.elim
theorem e_chain {op op' : CmpOp} {r r' : R2} {o o' : E → E → W → (E → W → Prop) → Prop} (ho : OpR X (compareOp op) r) (ho' : OpR X (compareOp op') r') (hw : OpW X.K g r o) (hw' : OpW X.K g r' o') (ha : PEW X g a ta) (hb : PEW X g b tb) (hc : PEW X g c tc)
    (hm : lastMarks [op, op'] [b, c] = false := by with_unfolding_all rfl) : PEW X g (.Compare a [op, op'] [b, c] pos) (eChain o o' ta tb tc) := PE.imp (pe_chain ho ho' ha hb hc hm) (up_chain hw hw')
theorem t_chain {op op' : CmpOp} {r r' : R2} {o o' : E → E → W → (E → W → Prop) → Prop} (ho : OpR X (compareOp op) r) (ho' : OpR X (compareOp op') r') (hw : OpW X.K g r o) (hw' : OpW X.K g r' o') (ha : PEW X g a ta) (hb : PEW X g b tb) (hc : PEW X g c tc)
    (hm : lastMarks [op, op'] [b, c] = false := by with_unfolding_all rfl) : PTW X g (.Compare a [op, op'] [b, c] pos) (tOf (eChain o o' ta tb tc)) := PT.imp (pt_chain ho ho' ha hb hc hm) (up_test (up_chain hw hw'))

/-! ### and, or, not, if -/
variable {sa sb : TWt} {rest : List Expr}
def tAnd' (t u : TWt) : TWt := fun w Q => t w fun c w1 => if c = true then u w1 Q else Q false w1
def tOr' (t u : TWt) : TWt := fun w Q => t w fun c w1 => if c = true then Q true w1 else u w1 Q
def tNot' (t : TWt) : TWt := fun w Q => t w fun c w1 => Q (!c) w1
theorem ThenT.comp {K : PySem.W.Frag} {A : List Addr} {σ : L2.St} {H H1 : Hp} {Q0 : Bool → W → Prop} {Q : Bool → Hp → Prop} (k : ThenT K g A σ H Q0 Q) (h : GLe (vis g A H) (vis g A H1)) : ThenT K g A σ H1 Q0 Q :=
  fun b w' q H' R l => k b w' q H' R (h.trans l)
theorem w_and1 (ha : PTW X g a sa) : PWW X g (.BoolOp .And [a] pos) sa := pw_and1 ha
theorem w_or1 (ha : PTW X g a sa) : PWW X g (.BoolOp .Or [a] pos) sa := pw_or1 ha
theorem w_and (ha : PTW X g a sa) (hb : PWW X g (.BoolOp .And (b :: rest) pos) sb) : PWW X g (.BoolOp .And (a :: b :: rest) pos) (tAnd' sa sb) :=
  PW.imp (pw_and ha hb) fun σ H Q ⟨A, w, Q0, R, h, k⟩ => ⟨A, w, _, R, h, fun c w1 q1 H1 R1 l1 => by
    cases c with
    | true =>
      rw [if_pos rfl] at q1 ⊢
      exact ⟨A, w1, _, R1, q1, k.comp l1⟩
    | false =>
      rw [if_neg Bool.false_ne_true] at q1 ⊢
      exact k _ _ q1 _ R1 l1⟩
theorem w_or (ha : PTW X g a sa) (hb : PWW X g (.BoolOp .Or (b :: rest) pos) sb) : PWW X g (.BoolOp .Or (a :: b :: rest) pos) (tOr' sa sb) :=
  PW.imp (pw_or ha hb) fun σ H Q ⟨A, w, Q0, R, h, k⟩ => ⟨A, w, _, R, h, fun c w1 q1 H1 R1 l1 => by
    cases c with
    | true =>
      rw [if_pos rfl] at q1 ⊢
      exact k _ _ q1 _ R1 l1
    | false =>
      rw [if_neg Bool.false_ne_true] at q1 ⊢
      exact ⟨A, w1, _, R1, q1, k.comp l1⟩⟩
theorem t_w (h : PWW X g a sa) : PTW X g a sa := h.pt
theorem t_not (ha : PTW X g a sa) : PTW X g (.UnaryOp .Not a pos) (tNot' sa) :=
  PT.imp (pt_not ha) fun σ H Q ⟨A, w, Q0, R, h, k⟩ => ⟨A, w, _, R, h, fun c w1 q1 H1 R1 l1 => k _ _ q1 _ R1 l1⟩
/-- and, or, not as values: all but the last True or False -/
def eAnd (ta tb : TW) : TW := fun w Q => ta w fun x w1 => match x with
  | .d (.bl true) => tb w1 Q
  | .d (.bl false) => Q (.d (.bl false)) w1
  | _ => False
def eOr (ta tb : TW) : TW := fun w Q => ta w fun x w1 => match x with
  | .d (.bl true) => Q (.d (.bl true)) w1
  | .d (.bl false) => tb w1 Q
  | _ => False
def eNot (ta : TW) : TW := fun w Q => ta w fun x w1 => match x with
  | .d (.bl b) => Q (.d (.bl (!b))) w1
  | _ => False
def eIf (t : TWt) (ta tb : TW) : TW := fun w Q => t w fun c w1 => if c = true then ta w1 Q else tb w1 Q
theorem e_one {op} (h : PEW X g a ta) : PEW X g (.BoolOp op [a] pos) ta := pe_one h
theorem e_and (ha : PEW X g a ta) (hb : PEW X g (.BoolOp .And (b :: rest) pos) tb) : PEW X g (.BoolOp .And (a :: b :: rest) pos) (eAnd ta tb) :=
  PE.imp (pe_and ha hb) fun σ H Q ⟨A, w, Q0, R, h, k⟩ => ⟨A, w, _, R, h, fun x w1 q1 v H1 R1 r1 l1 => by
    split at q1
    · cases r1
      refine ⟨true, rfl, ?_⟩
      rw [if_pos rfl]
      exact ⟨A, w1, _, R1, q1, k.comp l1⟩
    · cases r1
      refine ⟨false, rfl, ?_⟩
      rw [if_neg Bool.false_ne_true]
      exact k _ _ q1 _ _ R1 (.bl false) l1
    · exact q1.elim⟩
theorem e_or (ha : PEW X g a ta) (hb : PEW X g (.BoolOp .Or (b :: rest) pos) tb) : PEW X g (.BoolOp .Or (a :: b :: rest) pos) (eOr ta tb) :=
  PE.imp (pe_or ha hb) fun σ H Q ⟨A, w, Q0, R, h, k⟩ => ⟨A, w, _, R, h, fun x w1 q1 v H1 R1 r1 l1 => by
    split at q1
    · cases r1
      refine ⟨true, rfl, ?_⟩
      rw [if_pos rfl]
      exact k _ _ q1 _ _ R1 (.bl true) l1
    · cases r1
      refine ⟨false, rfl, ?_⟩
      rw [if_neg Bool.false_ne_true]
      exact ⟨A, w1, _, R1, q1, k.comp l1⟩
    · exact q1.elim⟩
theorem e_not (ha : PEW X g a ta) : PEW X g (.UnaryOp .Not a pos) (eNot ta) :=
  PE.imp (pe_not ha) fun σ H Q ⟨A, w, Q0, R, h, k⟩ => ⟨A, w, _, R, h, fun x w1 q1 v H1 R1 r1 l1 => by
    split at q1
    · cases r1
      exact ⟨_, rfl, k _ _ q1 _ _ R1 (.bl _) l1⟩
    · exact q1.elim⟩
theorem e_if (hc : PTW X g c sa) (ha : PEW X g a ta) (hb : PEW X g b tb) : PEW X g (.IfExp c a b pos) (eIf sa ta tb) :=
  PE.imp (pe_ifExp hc ha hb) fun σ H Q ⟨A, w, Q0, R, h, k⟩ => ⟨A, w, _, R, h, fun c w1 q1 H1 R1 l1 => by
    cases c with
    | true =>
      rw [if_pos rfl] at q1 ⊢
      exact ⟨A, w1, _, R1, q1, k.comp l1⟩
    | false =>
      rw [if_neg Bool.false_ne_true] at q1 ⊢
      exact ⟨A, w1, _, R1, q1, k.comp l1⟩⟩


/-! ### argument lists, displays -/
variable {es : List Expr} {tz : TWa}
def aNil : TWa := fun w Q => Q [] w
def aCons (ta : TW) (tr : TWa) : TWa := fun w Q => ta w fun x w1 => tr w1 fun xs w2 => Q (x :: xs) w2
theorem ThenA.comp {K : PySem.W.Frag} {A : List Addr} {σ : L2.St} {H H1 : Hp} {Q0 : List E → W → Prop} {Q : List V → Hp → Prop} (k : ThenA K g A σ H Q0 Q) (h : GLe (vis g A H) (vis g A H1)) : ThenA K g A σ H1 Q0 Q :=
  fun b w' q vs H' R r l => k b w' q vs H' R r (h.trans l)
theorem a_nil : PAW X g [] aNil := PA.imp pa_nil fun σ H Q ⟨A, w, Q0, R, h, k⟩ => k _ _ h _ _ R .nil (GLe.refl _)
theorem a_cons (ha : PEW X g a ta) (hr : PAW X g es tz) (hs : starEach (a :: es) X.env = (false, eval a X.env) :: starEach es X.env := by rfl) : PAW X g (a :: es) (aCons ta tz) :=
  PA.imp (pa_cons ha hr hs) fun σ H Q ⟨A, w, Q0, R, h, k⟩ => ⟨A, w, _, R, h, fun x w1 q1 v H1 R1 r1 l1 => ⟨A, w1, _, R1, q1, fun xs w2 q2 vs H2 R2 r2 l2 => k _ _ q2 _ _ R2 (.cons (r1.mono l2) r2) (l1.trans l2)⟩⟩
/-- all answers are data -/
def dats : List E → Option (List D)
  | [] => some []
  | .d x :: r => (dats r).map (x :: ·)
  | _ :: _ => none
theorem RepEs.dats {K : PySem.W.Frag} {G : Hp} {σ : L2.St} : ∀ {es : List E} {xs : List D} {vs : List V}, RepEs K g G σ es vs → OW.dats es = some xs → Reps K G xs vs
  | [], _, _, .nil, e => by cases e; exact .nil
  | .d x :: r, xs, _, .cons h t, e => by
    have e2 : (OW.dats r).map (x :: ·) = some xs := e
    cases z : OW.dats r with
    | none => rw [z] at e2; cases e2
    | some ys =>
      rw [z] at e2; cases e2
      exact .cons h (RepEs.dats t z)
  | .st :: _, _, _, _, e => by cases e
  | .bor _ :: _, _, _, _, e => by cases e
def eTup (ta : TWa) : TW := fun w Q => ta w fun xs w1 => match dats xs with
  | some ds => ds.length ≤ sizeLine ∧ Q (.d (.tup ds)) w1
  | none => False
theorem newTup {K : PySem.W.Frag} {A : List Addr} {w : W} {σ : L2.St} {H : Hp} {ds : List D} {vs : List V} {Q0 : E → W → Prop} {Q : VK} (R : Rel (gmK K g) [] A w σ H) (r : Reps K (vis g A H) ds vs) (q : Q0 (.d (.tup ds)) w) (k : Then K g A σ H Q0 Q) (p : Addr) (hp : H p = none) : Q (.ref p) (upd H p (.tup vs)) := by
  obtain ⟨R1, l1⟩ := R.new (o := .tup vs) hp
  refine k _ _ q _ _ R1 (.tup (.inl (.inl ?_)) (r.mono l1)) l1
  exact (hid_out (R.fresh_out hp).1).trans upd_same
theorem newLst {K : PySem.W.Frag} {A : List Addr} {w : W} {σ : L2.St} {H : Hp} {ds : List D} {vs : List V} {Q0 : E → W → Prop} {Q : VK} (R : Rel (gmK K g) [] A w σ H) (r : Reps K (vis g A H) ds vs) (q : Q0 (.d (.lst ds)) w) (k : Then K g A σ H Q0 Q) (p : Addr) (hp : H p = none) : Q (.ref p) (upd H p (.lst vs)) := by
  obtain ⟨R1, l1⟩ := R.new (o := .lst vs) hp
  refine k _ _ q _ _ R1 (.lst ?_ (r.mono l1)) l1
  exact (hid_out (R.fresh_out hp).1).trans upd_same
theorem e_tup {x1} (h : PAW X g es tz) : PEW X g (.Tuple es x1 pos) (eTup tz) :=
  PE.imp (pe_tup h) fun σ H Q ⟨A, w, Q0, R, q, k⟩ => ⟨A, w, _, R, q, fun xs w1 q1 vs H1 R1 r1 l1 => by
    split at q1
    · rename_i ds e
      have rr := r1.dats e
      refine ⟨by rw [← rr.length]; exact q1.1, fun p hp => newTup R1 rr q1.2 (k.comp l1) p hp⟩
    · exact q1.elim⟩
/-- a list display, its list not changed from then on -/
def eLst (ta : TWa) : TW := fun w Q => ta w fun xs w1 => match dats xs with
  | some ds => ds.length ≤ sizeLine ∧ Q (.d (.lst ds)) w1
  | none => False
theorem e_lst (h : PAW X g es tz) : PEW X g (.List es pos) (eLst tz) :=
  PE.imp (pe_lst h) fun σ H Q ⟨A, w, Q0, R, q, k⟩ => ⟨A, w, _, R, q, fun xs w1 q1 vs H1 R1 r1 l1 => by
    split at q1
    · rename_i ds e
      have rr := r1.dats e
      refine ⟨by rw [← rr.length]; exact q1.1, fun p hp => newLst R1 rr q1.2 (k.comp l1) p hp⟩
    · exact q1.elim⟩

/-! ### the lists and tuples that answers stand for -/
/-- the items of a list, of a tuple -/
def itL (w : W) : E → Option (List D)
  | .d (.lst xs) => some xs
  | .bor i => (match w[i]? with
    | some (.own xs) => some xs
    | _ => none)
  | _ => none
def itT : E → Option (List D)
  | .d (.tup xs) => some xs
  | _ => none
theorem itL_ok {K : PySem.W.Frag} {A : List Addr} {w : W} {σ : L2.St} {H : Hp} {e : E} {xs : List D} {v : V} (R : Rel (gmK K g) [] A w σ H) (r : RepE K g (vis g A H) σ e v) (h : itL w e = some xs) : ∃ (a : Addr) (vs : List V), v = .ref a ∧ H a = some (.lst vs) ∧ Reps K (vis g A H) xs vs := by
  cases e with
  | d x =>
    cases x with
    | lst ys =>
      cases h
      cases r with
      | lst q r => exact ⟨_, _, rfl, hid_le _ _ q, r⟩
    | _ => cases h
  | st => cases h
  | bor i =>
    have h' : (match w[i]? with | some (.own xs) => some xs | _ => none) = some xs := h
    split at h'
    · rename_i ys e
      cases h'
      obtain ⟨y, Ai, e2, so, _⟩ := slot_val R e
      cases so with
      | own q rr =>
        have r' : σ[i]? = some (some v) := r
        rw [e2] at r'
        cases r'
        exact ⟨_, _, rfl, q, rr⟩
    · cases h'
theorem itT_ok {K : PySem.W.Frag} {A : List Addr} {σ : L2.St} {H : Hp} {e : E} {xs : List D} {v : V} (r : RepE K g (vis g A H) σ e v) (h : itT e = some xs) : ∃ (a : Addr) (vs : List V), v = .ref a ∧ SqT K H a vs ∧ Reps K (vis g A H) xs vs := by
  cases e with
  | d x =>
    cases x with
    | tup ys =>
      cases h
      cases r with
      | tup q r => exact ⟨_, _, rfl, hid_le.sqT q, r⟩
    | _ => cases h
  | st => cases h
  | bor i => cases h
end
end OW


namespace OW
open PySem PySem.Spec PyProof.Rows L2

section
variable {X : Cx} {g : G0} {K : PySem.W.Frag}
/-! ### + -/
def oAdd (x y : E) (w : W) (Q : E → W → Prop) : Prop := match x, y with
  | .d (.int i), .d (.int j) => Q (.d (.int (i + j))) w
  | .d (.str s), .d (.str t) => s.length + t.length ≤ sizeLine ∧ Q (.d (.str (s ++ t))) w
  | .d (.tup xs), .d (.tup ys) => xs.length + ys.length ≤ sizeLine ∧ Q (.d (.tup (xs ++ ys))) w
  | x, y => match itL w x, itL w y with
    | some xs, some ys => xs.length + ys.length ≤ sizeLine ∧ Q (.d (.lst (xs ++ ys))) w
    | _, _ => False
def rAddW (K : PySem.W.Frag) : R2 := fun x y H Q => (∃ i j, x = .int i ∧ y = .int j ∧ Q (.int (i + j)) H) ∨ (∃ i j, x = .str i ∧ y = .str j ∧ i.length + j.length ≤ sizeLine ∧ Q (.str (i ++ j)) H) ∨ rCatA K x y H Q ∨ rCat x y H Q
theorem add_ok : OpR X (binaryOp .Add) (rAddW X.K) := op_add.or (op_add_str.or (op_catA.or op_cat))
theorem add_w : OpW K g (rAddW K) oAdd := by
  intro A w σ H x y vx vy Q0 Q R rx ry h k
  unfold oAdd at h
  split at h
  · cases rx; cases ry
    exact .inl ⟨_, _, rfl, rfl, k _ _ h _ _ R (.int _) (GLe.refl _)⟩
  · cases rx; cases ry
    exact .inr (.inl ⟨_, _, rfl, rfl, h.1, k _ _ h.2 _ _ R (.str _) (GLe.refl _)⟩)
  · rename_i xs ys
    obtain ⟨a, vs, rfl, ha, ra⟩ := itT_ok rx rfl
    obtain ⟨b, us, rfl, hb, rb⟩ := itT_ok ry rfl
    refine .inr (.inr (.inl ⟨a, b, vs, us, rfl, rfl, ha, hb, by rw [← ra.length, ← rb.length]; exact h.1, fun e => ?_, fun _ e => ?_, fun _ _ p hp => newTup R (ra.append rb) h.2 k p hp⟩))
    · subst e
      cases ra with
      | nil => exact k _ _ h.2 _ _ R ry (GLe.refl _)
    · subst e
      cases rb with
      | nil => exact k _ _ h.2 _ _ R (by rw [List.append_nil]; exact rx) (GLe.refl _)
  · split at h
    · rename_i xs ys e1 e2
      obtain ⟨a, vs, rfl, ha, ra⟩ := itL_ok R rx e1
      obtain ⟨b, us, rfl, hb, rb⟩ := itL_ok R ry e2
      exact .inr (.inr (.inr ⟨a, b, vs, us, rfl, rfl, ha, hb, by rw [← ra.length, ← rb.length]; exact h.1, fun p hp => newLst R (ra.append rb) h.2 k p hp⟩))
    · exact h.elim
theorem e_add {a b : Expr} {ta tb : TW} {pos : Pos} (ha : PEW X g a ta) (hb : PEW X g b tb) : PEW X g (.BinOp a .Add b pos) (eOp oAdd ta tb) := e_op add_ok add_w ha hb

/-! ### ints -/
def oInt (C : Int → Int → Prop) (f : Int → Int → D) (x y : E) (w : W) (Q : E → W → Prop) : Prop := match x, y with
  | .d (.int i), .d (.int j) => C i j ∧ Q (.d (f i j)) w
  | _, _ => False
theorem int_w {C : Int → Int → Prop} {f : Int → Int → D} {fv : Int → Int → V} (hf : ∀ G i j, Rep K G (f i j) (fv i j)) : OpW K g (rI C fv) (oInt C f) := by
  intro A w σ H x y vx vy Q0 Q R rx ry h k
  unfold oInt at h
  split at h
  · cases rx; cases ry
    exact ⟨_, _, rfl, rfl, h.1, k _ _ h.2 _ _ R (hf _ _ _) (GLe.refl _)⟩
  · exact h.elim
def oInt0 (f : Int → Int → D) (x y : E) (w : W) (Q : E → W → Prop) : Prop := match x, y with
  | .d (.int i), .d (.int j) => Q (.d (f i j)) w
  | _, _ => False
theorem int0_w {f : Int → Int → D} {fv : Int → Int → V} (hf : ∀ G i j, Rep K G (f i j) (fv i j)) : OpW K g (rI0 fv) (oInt0 f) := by
  intro A w σ H x y vx vy Q0 Q R rx ry h k
  unfold oInt0 at h
  split at h
  · cases rx; cases ry
    exact ⟨_, _, rfl, rfl, k _ _ h _ _ R (hf _ _ _) (GLe.refl _)⟩
  · exact h.elim
abbrev oSub := oInt0 fun i j => .int (i - j)
abbrev oMod := oInt (fun _ j => 0 < j) fun i j => .int (i % j)
abbrev oFdiv := oInt CDiv fun i j => .int (i / j)
abbrev oPow := oInt CPow fun i j => .int (i ^ j.toNat)
abbrev oLt := oInt0 fun i j => .bl (decide (i < j))
abbrev oLe := oInt0 fun i j => .bl (decide (i ≤ j))
abbrev oGt := oInt0 fun i j => .bl (decide (j < i))
abbrev oGe := oInt0 fun i j => .bl (decide (j ≤ i))
section
variable {a b : Expr} {ta tb : TW} {pos : Pos}
theorem e_sub (ha : PEW X g a ta) (hb : PEW X g b tb) : PEW X g (.BinOp a .Sub b pos) (eOp oSub ta tb) := e_op op_sub (int0_w fun _ _ _ => .int _) ha hb
theorem e_mod (ha : PEW X g a ta) (hb : PEW X g b tb) : PEW X g (.BinOp a .Mod b pos) (eOp oMod ta tb) := e_op op_mod (int_w fun _ _ _ => .int _) ha hb
theorem e_fdiv (ha : PEW X g a ta) (hb : PEW X g b tb) : PEW X g (.BinOp a .FloorDiv b pos) (eOp oFdiv ta tb) := e_op op_fdiv (int_w fun _ _ _ => .int _) ha hb
theorem e_pow (ha : PEW X g a ta) (hb : PEW X g b tb) : PEW X g (.BinOp a .Pow b pos) (eOp oPow ta tb) := e_op op_pow (int_w fun _ _ _ => .int _) ha hb
theorem e_lt (ha : PEW X g a ta) (hb : PEW X g b tb) : PEW X g (.Compare a [.Lt] [b] pos) (eOp oLt ta tb) := e_cmp op_lt (int0_w fun _ _ _ => .bl _) ha hb (nomark _)
theorem e_le (ha : PEW X g a ta) (hb : PEW X g b tb) : PEW X g (.Compare a [.LtE] [b] pos) (eOp oLe ta tb) := e_cmp op_le (int0_w fun _ _ _ => .bl _) ha hb (nomark _)
theorem e_gt (ha : PEW X g a ta) (hb : PEW X g b tb) : PEW X g (.Compare a [.Gt] [b] pos) (eOp oGt ta tb) := e_cmp op_gt (int0_w fun _ _ _ => .bl _) ha hb (nomark _)
theorem e_ge (ha : PEW X g a ta) (hb : PEW X g b tb) : PEW X g (.Compare a [.GtE] [b] pos) (eOp oGe ta tb) := e_cmp op_ge (int0_w fun _ _ _ => .bl _) ha hb (nomark _)
theorem t_lt (ha : PEW X g a ta) (hb : PEW X g b tb) : PTW X g (.Compare a [.Lt] [b] pos) (tOf (eOp oLt ta tb)) := t_cmp op_lt (int0_w fun _ _ _ => .bl _) ha hb (nomark _)
theorem t_le (ha : PEW X g a ta) (hb : PEW X g b tb) : PTW X g (.Compare a [.LtE] [b] pos) (tOf (eOp oLe ta tb)) := t_cmp op_le (int0_w fun _ _ _ => .bl _) ha hb (nomark _)
theorem t_gt (ha : PEW X g a ta) (hb : PEW X g b tb) : PTW X g (.Compare a [.Gt] [b] pos) (tOf (eOp oGt ta tb)) := t_cmp op_gt (int0_w fun _ _ _ => .bl _) ha hb (nomark _)
theorem t_ge (ha : PEW X g a ta) (hb : PEW X g b tb) : PTW X g (.Compare a [.GtE] [b] pos) (tOf (eOp oGe ta tb)) := t_cmp op_ge (int0_w fun _ _ _ => .bl _) ha hb (nomark _)
/-- a <= b <= c, a < b <= c of ints -/
theorem e_leLe {c : Expr} {tc : TW} (ha : PEW X g a ta) (hb : PEW X g b tb) (hc : PEW X g c tc) (hm : lastMarks [.LtE, .LtE] [b, c] = false := by with_unfolding_all rfl) : PEW X g (.Compare a [.LtE, .LtE] [b, c] pos) (eChain oLe oLe ta tb tc) :=
  e_chain op_le op_le (int0_w fun _ _ _ => .bl _) (int0_w fun _ _ _ => .bl _) ha hb hc hm
theorem t_leLe {c : Expr} {tc : TW} (ha : PEW X g a ta) (hb : PEW X g b tb) (hc : PEW X g c tc) (hm : lastMarks [.LtE, .LtE] [b, c] = false := by with_unfolding_all rfl) : PTW X g (.Compare a [.LtE, .LtE] [b, c] pos) (tOf (eChain oLe oLe ta tb tc)) :=
  t_chain op_le op_le (int0_w fun _ _ _ => .bl _) (int0_w fun _ _ _ => .bl _) ha hb hc hm
theorem e_ltLe {c : Expr} {tc : TW} (ha : PEW X g a ta) (hb : PEW X g b tb) (hc : PEW X g c tc) (hm : lastMarks [.Lt, .LtE] [b, c] = false := by with_unfolding_all rfl) : PEW X g (.Compare a [.Lt, .LtE] [b, c] pos) (eChain oLt oLe ta tb tc) :=
  e_chain op_lt op_le (int0_w fun _ _ _ => .bl _) (int0_w fun _ _ _ => .bl _) ha hb hc hm
theorem t_ltLe {c : Expr} {tc : TW} (ha : PEW X g a ta) (hb : PEW X g b tb) (hc : PEW X g c tc) (hm : lastMarks [.Lt, .LtE] [b, c] = false := by with_unfolding_all rfl) : PTW X g (.Compare a [.Lt, .LtE] [b, c] pos) (tOf (eChain oLt oLe ta tb tc)) :=
  t_chain op_lt op_le (int0_w fun _ _ _ => .bl _) (int0_w fun _ _ _ => .bl _) ha hb hc hm
end

/-! ### None -/
def isNonD : D → Bool
  | .non => true
  | _ => false
def oIsN (x y : E) (w : W) (Q : E → W → Prop) : Prop := match x, y with
  | .d x, .d .non => Q (.d (.bl (isNonD x))) w
  | _, _ => False
def oNotN (x y : E) (w : W) (Q : E → W → Prop) : Prop := match x, y with
  | .d x, .d .non => Q (.d (.bl (!isNonD x))) w
  | _, _ => False
theorem isNonD_ok {G : Hp} {x : D} {v : V} (r : Rep K G x v) : decide (v = .non) = isNonD x := by
  cases r <;> simp [isNonD]
theorem isN_w : OpW K g (fun x y H Q => y = .non ∧ Q (.bl (decide (x = .non))) H) oIsN := by
  intro A w σ H x y vx vy Q0 Q R rx ry h k
  unfold oIsN at h
  split at h
  · cases ry
    exact ⟨rfl, by rw [isNonD_ok rx]; exact k _ _ h _ _ R (.bl _) (GLe.refl _)⟩
  · exact h.elim
theorem notN_w : OpW K g (fun x y H Q => y = .non ∧ Q (.bl (!decide (x = .non))) H) oNotN := by
  intro A w σ H x y vx vy Q0 Q R rx ry h k
  unfold oNotN at h
  split at h
  · cases ry
    exact ⟨rfl, by rw [isNonD_ok rx]; exact k _ _ h _ _ R (.bl _) (GLe.refl _)⟩
  · exact h.elim
section
variable {a b : Expr} {ta tb : TW} {pos : Pos}
theorem e_isN (ha : PEW X g a ta) (hb : PEW X g b tb) : PEW X g (.Compare a [.Is] [b] pos) (eOp oIsN ta tb) := e_cmp op_isN isN_w ha hb (nomark _)
theorem e_notN (ha : PEW X g a ta) (hb : PEW X g b tb) : PEW X g (.Compare a [.IsNot] [b] pos) (eOp oNotN ta tb) := e_cmp op_notN notN_w ha hb (nomark _)
theorem t_isN (ha : PEW X g a ta) (hb : PEW X g b tb) : PTW X g (.Compare a [.Is] [b] pos) (tOf (eOp oIsN ta tb)) := t_cmp op_isN isN_w ha hb (nomark _)
theorem t_notN (ha : PEW X g a ta) (hb : PEW X g b tb) : PTW X g (.Compare a [.IsNot] [b] pos) (tOf (eOp oNotN ta tb)) := t_cmp op_notN notN_w ha hb (nomark _)
end

/-! ### == -/
mutual
def py : D → PyData
  | .non => .none
  | .bl b => .bool b
  | .int i => .int i
  | .str s => .str s
  | .tup xs => .tuple (pys xs)
  | .lst xs => .list (pys xs)
  | .dic _ => .none
def pys : List D → List PyData
  | [] => []
  | x :: r => py x :: pys r
end
mutual
def noDic : D → Bool
  | .tup xs => noDics xs
  | .lst xs => noDics xs
  | .dic _ => false
  | _ => true
def noDics : List D → Bool
  | [] => true
  | x :: r => noDic x && noDics r
end
mutual
theorem Rep.dp {G : Hp} : ∀ {d : D} {v : V}, Rep K G d v → noDic d = true → Dp K G v (py d)
  | _, _, .non, _ => .non
  | _, _, .bl b, _ => .bl b
  | _, _, .int i, _ => .int i
  | _, _, .str s, _ => .str s
  | _, _, .tup h r, n => .tup h (Reps.dp r n)
  | _, _, .lst h r, n => .lst (.inl (.inl h)) (Reps.dp r n)
  | _, _, .dic h _ _ r, n => by simp [noDic] at n
theorem Reps.dp {G : Hp} : ∀ {ds : List D} {vs : List V}, Reps K G ds vs → noDics ds = true → DpAll K G vs (pys ds)
  | _, _, .nil, _ => .nil
  | _, _, .cons h r, n => by
    simp only [noDics, Bool.and_eq_true] at n
    exact .cons (Rep.dp h n.1) (Reps.dp r n.2)
end
mutual
theorem dp_mono {G G' : Hp} (k : GLe G G') : ∀ {v : V} {d : PyData}, Dp K G v d → Dp K G' v d
  | _, _, .non => .non
  | _, _, .bl b => .bl b
  | _, _, .int i => .int i
  | _, _, .str s => .str s
  | _, _, .tup h r => .tup (k.sqT h) (dps_mono k r)
  | _, _, .lst h r => .lst (k.sqL h) (dps_mono k r)
theorem dps_mono {G G' : Hp} (k : GLe G G') : ∀ {vs : List V} {ds : List PyData}, DpAll K G vs ds → DpAll K G' vs ds
  | _, _, .nil => .nil
  | _, _, .cons h r => .cons (dp_mono k h) (dps_mono k r)
end
def okEq (d : D) : Bool := noDic d && SeqAt.shaped (py d)
def deq (x y : D) : Bool := PyData.eqv (py x) (py y)
def oEq (x y : E) (w : W) (Q : E → W → Prop) : Prop := match x, y with
  | .d (.int i), .d (.int j) => Q (.d (.bl (decide (i = j)))) w
  | .d (.str i), .d (.str j) => Q (.d (.bl (decide (i = j)))) w
  | .d (.bl i), .d (.bl j) => Q (.d (.bl (decide (i = j)))) w
  | .d .non, .d .non => Q (.d (.bl true)) w
  | .d .non, .d (.int _) => Q (.d (.bl false)) w
  | .d (.int _), .d .non => Q (.d (.bl false)) w
  | .d x, .d y => okEq x = true ∧ okEq y = true ∧ Q (.d (.bl (deq x y))) w
  | _, _ => False
def oNe (x y : E) (w : W) (Q : E → W → Prop) : Prop := match x, y with
  | .d (.int i), .d (.int j) => Q (.d (.bl (!decide (i = j)))) w
  | .d (.str i), .d (.str j) => Q (.d (.bl (!decide (i = j)))) w
  | .d (.bl i), .d (.bl j) => Q (.d (.bl (!decide (i = j)))) w
  | .d .non, .d .non => Q (.d (.bl false)) w
  | .d .non, .d (.int _) => Q (.d (.bl true)) w
  | .d (.int _), .d .non => Q (.d (.bl true)) w
  | .d x, .d y => okEq x = true ∧ okEq y = true ∧ Q (.d (.bl (!deq x y))) w
  | _, _ => False
def rEqW (K : PySem.W.Frag) : R2 := fun x y H Q => rEq x y H Q ∨ rEqD K x y H Q
def rNeW (K : PySem.W.Frag) : R2 := fun x y H Q => rNe x y H Q ∨ rNeD K x y H Q
theorem eq_ok (hu : X.A.units + 64 < cLine) : OpR X (compareOp .Eq) (rEqW X.K) := op_eq.or (op_eqD hu)
theorem ne_ok (hu : X.A.units + 64 < cLine) : OpR X (compareOp .NotEq) (rNeW X.K) := op_ne.or (op_neD hu)
theorem eq_w : OpW K g (rEqW K) oEq := by
  intro A w σ H x y vx vy Q0 Q R rx ry h k
  unfold oEq at h
  split at h
  · cases rx; cases ry
    refine .inl ⟨rfl, ?_⟩
    have := k _ _ h _ _ R (.bl _) (GLe.refl _)
    simpa using this
  · cases rx; cases ry
    refine .inl ⟨rfl, ?_⟩
    have := k _ _ h _ _ R (.bl _) (GLe.refl _)
    simpa using this
  · cases rx; cases ry
    refine .inl ⟨rfl, ?_⟩
    have := k _ _ h _ _ R (.bl _) (GLe.refl _)
    simpa using this
  · cases rx; cases ry
    exact .inl ⟨rfl, k _ _ h _ _ R (.bl _) (GLe.refl _)⟩
  · cases rx; cases ry
    exact .inl ⟨rfl, k _ _ h _ _ R (.bl _) (GLe.refl _)⟩
  · cases rx; cases ry
    exact .inl ⟨rfl, k _ _ h _ _ R (.bl _) (GLe.refl _)⟩
  · obtain ⟨h1, h2, h⟩ := h
    simp only [okEq, Bool.and_eq_true] at h1 h2
    exact .inr ⟨_, _, dp_mono hid_le (Rep.dp rx h1.1), dp_mono hid_le (Rep.dp ry h2.1), h1.2, h2.2, k _ _ h _ _ R (.bl _) (GLe.refl _)⟩
  · exact h.elim
theorem ne_w : OpW K g (rNeW K) oNe := by
  intro A w σ H x y vx vy Q0 Q R rx ry h k
  unfold oNe at h
  split at h
  · cases rx; cases ry
    refine .inl ⟨rfl, ?_⟩
    have := k _ _ h _ _ R (.bl _) (GLe.refl _)
    simpa using this
  · cases rx; cases ry
    refine .inl ⟨rfl, ?_⟩
    have := k _ _ h _ _ R (.bl _) (GLe.refl _)
    simpa using this
  · cases rx; cases ry
    refine .inl ⟨rfl, ?_⟩
    have := k _ _ h _ _ R (.bl _) (GLe.refl _)
    simpa using this
  · cases rx; cases ry
    exact .inl ⟨rfl, k _ _ h _ _ R (.bl _) (GLe.refl _)⟩
  · cases rx; cases ry
    exact .inl ⟨rfl, k _ _ h _ _ R (.bl _) (GLe.refl _)⟩
  · cases rx; cases ry
    exact .inl ⟨rfl, k _ _ h _ _ R (.bl _) (GLe.refl _)⟩
  · obtain ⟨h1, h2, h⟩ := h
    simp only [okEq, Bool.and_eq_true] at h1 h2
    exact .inr ⟨_, _, dp_mono hid_le (Rep.dp rx h1.1), dp_mono hid_le (Rep.dp ry h2.1), h1.2, h2.2, k _ _ h _ _ R (.bl _) (GLe.refl _)⟩
  · exact h.elim
section
variable {a b : Expr} {ta tb : TW} {pos : Pos}
theorem e_eq (hu : X.A.units + 64 < cLine) (ha : PEW X g a ta) (hb : PEW X g b tb) : PEW X g (.Compare a [.Eq] [b] pos) (eOp oEq ta tb) := e_cmp (eq_ok hu) eq_w ha hb (nomark _)
theorem e_ne (hu : X.A.units + 64 < cLine) (ha : PEW X g a ta) (hb : PEW X g b tb) : PEW X g (.Compare a [.NotEq] [b] pos) (eOp oNe ta tb) := e_cmp (ne_ok hu) ne_w ha hb (nomark _)
theorem t_eq (hu : X.A.units + 64 < cLine) (ha : PEW X g a ta) (hb : PEW X g b tb) : PTW X g (.Compare a [.Eq] [b] pos) (tOf (eOp oEq ta tb)) := t_cmp (eq_ok hu) eq_w ha hb (nomark _)
theorem t_ne (hu : X.A.units + 64 < cLine) (ha : PEW X g a ta) (hb : PEW X g b tb) : PTW X g (.Compare a [.NotEq] [b] pos) (tOf (eOp oNe ta tb)) := t_cmp (ne_ok hu) ne_w ha hb (nomark _)
end
end
end OW


namespace OW
open PySem PySem.Spec PyProof.Rows L2

section
variable {X : Cx} {g : G0} {K : PySem.W.Frag}
/-! ### < of data -/
def okLt (x y : D) : Bool := noDic x && noDic y && PySem.W.alike (py x) (py y) && !isNonD x && decide (min (py x).depth (py y).depth ≤ 64)
def dlt (x y : D) : Bool := PySem.W.dataLt (py x) (py y)
def rLtD (K : PySem.W.Frag) : R2 := fun x y H Q => ∃ d e, Dp K H x d ∧ Dp K H y e ∧ PySem.W.alike d e = true ∧ d ≠ .none ∧ min d.depth e.depth ≤ 64 ∧ Q (.bl (PySem.W.dataLt d e)) H
theorem ltD_ok (hu : X.A.units + 64 < cLine) : OpR X (compareOp .Lt) (rLtD X.K) := by
  intro pins s σ H x y v u Q I rx ry h
  obtain ⟨d, e, hd, he, al, nn, dep, q⟩ := h
  obtain ⟨as, r1⟩ := Dp.reads I d x v hd rx
  obtain ⟨bs, r2⟩ := Dp.reads I e y u he ry
  exact PySem.W.lt_data r1 r2 al nn (by omega) ⟨.bl _, H, I, rfl, q⟩
def oLtD (x y : E) (w : W) (Q : E → W → Prop) : Prop := match x, y with
  | .d x, .d y => okLt x y = true ∧ Q (.d (.bl (dlt x y))) w
  | _, _ => False
theorem ltD_w : OpW K g (rLtD K) oLtD := by
  intro A w σ H x y vx vy Q0 Q R rx ry h k
  unfold oLtD at h
  split at h
  · rename_i x y
    obtain ⟨h1, h⟩ := h
    simp only [okLt, Bool.and_eq_true, Bool.not_eq_true', decide_eq_true_eq] at h1
    obtain ⟨⟨⟨⟨a1, a2⟩, a3⟩, a4⟩, a5⟩ := h1
    refine ⟨_, _, dp_mono hid_le (Rep.dp rx a1), dp_mono hid_le (Rep.dp ry a2), a3, ?_, a5, k _ _ h _ _ R (.bl _) (GLe.refl _)⟩
    cases x <;> first | (intro z; cases z) | skip
    · simp [isNonD] at a4
    · simp [noDic] at a1
  · exact h.elim
/-- < of ints, of data -/
def oLtA (x y : E) (w : W) (Q : E → W → Prop) : Prop := match x, y with
  | .d (.int i), .d (.int j) => Q (.d (.bl (decide (i < j)))) w
  | x, y => oLtD x y w Q
theorem ltA_w : OpW K g (fun x y H Q => rI0 (fun i j => .bl (decide (i < j))) x y H Q ∨ rLtD K x y H Q) oLtA := by
  intro A w σ H x y vx vy Q0 Q R rx ry h k
  unfold oLtA at h
  split at h
  · exact .inl (int0_w (f := fun i j => .bl (decide (i < j))) (fun _ _ _ => .bl _) A w σ H _ _ vx vy Q0 Q R rx ry h k)
  · exact .inr (ltD_w A w σ H _ _ vx vy Q0 Q R rx ry h k)
theorem t_ltA (hu : X.A.units + 64 < cLine) {a b : Expr} {ta tb : TW} {pos : Pos} (ha : PEW X g a ta) (hb : PEW X g b tb) : PTW X g (.Compare a [.Lt] [b] pos) (tOf (eOp oLtA ta tb)) := t_cmp (op_lt.or (ltD_ok hu)) ltA_w ha hb (nomark _)
theorem e_ltA (hu : X.A.units + 64 < cLine) {a b : Expr} {ta tb : TW} {pos : Pos} (ha : PEW X g a ta) (hb : PEW X g b tb) : PEW X g (.Compare a [.Lt] [b] pos) (eOp oLtA ta tb) := e_cmp (op_lt.or (ltD_ok hu)) ltA_w ha hb (nomark _)
theorem t_ltD (hu : X.A.units + 64 < cLine) {a b : Expr} {ta tb : TW} {pos : Pos} (ha : PEW X g a ta) (hb : PEW X g b tb) : PTW X g (.Compare a [.Lt] [b] pos) (tOf (eOp oLtD ta tb)) := t_cmp (ltD_ok hu) ltD_w ha hb (nomark _)
theorem e_ltD (hu : X.A.units + 64 < cLine) {a b : Expr} {ta tb : TW} {pos : Pos} (ha : PEW X g a ta) (hb : PEW X g b tb) : PEW X g (.Compare a [.Lt] [b] pos) (eOp oLtD ta tb) := e_cmp (ltD_ok hu) ltD_w ha hb (nomark _)

/-! ### calls of built-ins, by values -/
def CallW (K : PySem.W.Frag) (g : G0) (r : List V → Hp → VK → Prop) (o : List E → W → (E → W → Prop) → Prop) : Prop :=
  ∀ (A : List Addr) (w : W) (σ : L2.St) (H : Hp) (xs : List E) (vs : List V) (Q0 : E → W → Prop) (Q : VK), Rel (gmK K g) [] A w σ H → RepEs K g (vis g A H) σ xs vs → o xs w Q0 → Then K g A σ H Q0 Q → r vs H Q
def eCall (o : List E → W → (E → W → Prop) → Prop) (ta : TWa) : TW := fun w Q => ta w fun xs w1 => o xs w1 Q
theorem up_args {r : List V → Hp → VK → Prop} {o : List E → W → (E → W → Prop) → Prop} {ta : TWa} (hw : CallW K g r o) (σ : L2.St) (H : Hp) (Q : VK) (h : up K g (eCall o ta) σ H Q) : tCB r (upA K g ta) σ H Q := by
  obtain ⟨A, w, Q0, R, q, k⟩ := h
  exact ⟨A, w, _, R, q, fun xs w1 q1 vs H1 R1 r1 l1 => hw A w1 σ H1 xs vs Q0 Q R1 r1 q1 (k.comp l1)⟩
theorem RepEs.one {G : Hp} {σ : L2.St} {x : E} {vs : List V} (h : RepEs K g G σ [x] vs) : ∃ v, vs = [v] ∧ RepE K g G σ x v := by
  cases h with
  | cons h t => cases t; exact ⟨_, rfl, h⟩
theorem RepEs.two {G : Hp} {σ : L2.St} {x y : E} {vs : List V} (h : RepEs K g G σ [x, y] vs) : ∃ v u, vs = [v, u] ∧ RepE K g G σ x v ∧ RepE K g G σ y u := by
  cases h with
  | cons h t => cases t with
    | cons h2 t => cases t; exact ⟨_, _, rfl, h, h2⟩
/-- the items of a dict's answer -/
def itD (w : W) : E → Option (List (Key × D))
  | .d (.dic kvs) => some kvs
  | .bor i => (match w[i]? with
    | some (.ownD kvs) => some kvs
    | _ => none)
  | _ => none
theorem itD_ok {A : List Addr} {w : W} {σ : L2.St} {H : Hp} {e : E} {ds : List (Key × D)} {v : V} (R : Rel (gmK K g) [] A w σ H) (r : RepE K g (vis g A H) σ e v) (h : itD w e = some ds) :
    ∃ (a : Addr) (kvs : List (Key × V)), v = .ref a ∧ H a = some (.dK kvs) ∧ (ds.map (·.1)).Nodup ∧ ds.map (·.1) = kvs.map (·.1) ∧ Reps K (vis g A H) (ds.map (·.2)) (kvs.map (·.2)) := by
  cases e with
  | d x =>
    cases x with
    | dic kvs =>
      cases h
      cases r with
      | dic q n e r => exact ⟨_, _, rfl, hid_le _ _ q, n, e, r⟩
    | _ => cases h
  | st => cases h
  | bor i =>
    have h' : (match w[i]? with | some (.ownD kvs) => some kvs | _ => none) = some ds := h
    split at h'
    · rename_i ys e
      cases h'
      obtain ⟨y, Ai, e2, so, _⟩ := slot_val R e
      cases so with
      | ownD q n q2 rr =>
        have r' : σ[i]? = some (some v) := r
        rw [e2] at r'
        cases r'
        exact ⟨_, _, rfl, q, n, q2, rr⟩
    · cases h'
/-- len -/
def cLen (xs : List E) (w : W) (Q : E → W → Prop) : Prop := match xs with
  | [.d (.str s)] => s.length ≤ sizeLine ∧ Q (.d (.int s.length)) w
  | [.d (.tup xs)] => Q (.d (.int xs.length)) w
  | [x] => (match itL w x with
    | some xs => Q (.d (.int xs.length)) w
    | none => match itD w x with
      | some ds => Q (.d (.int ds.length)) w
      | none => False)
  | _ => False
def rLenW (K : PySem.W.Frag) : List V → Hp → VK → Prop := fun xs H Q => (∃ x n, xs = [x] ∧ LenV K x H n ∧ Q (.int n) H) ∨ ∃ a kvs, xs = [V.ref a] ∧ H a = some (.dK kvs) ∧ Q (.int kvs.length) H
theorem len_ok : CallR X (.builtin "len") (rLenW X.K) := call_len.or call_lenD
theorem len_w : CallW K g (rLenW K) cLen := by
  intro A w σ H xs vs Q0 Q R r h k
  unfold cLen at h
  split at h
  · obtain ⟨v, rfl, rx⟩ := r.one
    cases rx
    exact .inl ⟨_, _, rfl, ⟨h.1, rfl⟩, k _ _ h.2 _ _ R (.int _) (GLe.refl _)⟩
  · obtain ⟨v, rfl, rx⟩ := r.one
    obtain ⟨a, us, rfl, ha, ra⟩ := itT_ok rx rfl
    refine .inl ⟨_, _, rfl, .inr ⟨_, ha, rfl⟩, ?_⟩
    have := k _ _ h _ _ R (.int _) (GLe.refl _)
    rwa [ra.length] at this
  · obtain ⟨v, rfl, rx⟩ := r.one
    split at h
    · rename_i xs e
      obtain ⟨a, us, rfl, ha, ra⟩ := itL_ok R rx e
      refine .inl ⟨_, _, rfl, .inl ⟨_, .inl (.inl ha), rfl⟩, ?_⟩
      have := k _ _ h _ _ R (.int _) (GLe.refl _)
      rwa [ra.length] at this
    · split at h
      · rename_i ds e
        obtain ⟨a, kvs, rfl, ha, _, e3, _⟩ := itD_ok R rx e
        refine .inr ⟨_, _, rfl, ha, ?_⟩
        have := k _ _ h _ _ R (.int _) (GLe.refl _)
        have e4 : ds.length = kvs.length := by have := congrArg List.length e3; simpa using this
        rwa [e4] at this
      · exact h.elim
  · exact h.elim
/-- abs, min of two, max of two -/
def cAbs (xs : List E) (w : W) (Q : E → W → Prop) : Prop := match xs with
  | [.d (.int i)] => Q (.d (.int (if i < 0 then -i else i))) w
  | _ => False
theorem abs_w : CallW K g (fun xs H Q => ∃ i, xs = [.int i] ∧ Q (.int (if i < 0 then -i else i)) H) cAbs := by
  intro A w σ H xs vs Q0 Q R r h k
  unfold cAbs at h
  split at h
  · obtain ⟨v, rfl, rx⟩ := r.one
    cases rx
    exact ⟨_, rfl, k _ _ h _ _ R (.int _) (GLe.refl _)⟩
  · exact h.elim
def cMin2 (xs : List E) (w : W) (Q : E → W → Prop) : Prop := match xs with
  | [.d (.int i), .d (.int j)] => Q (.d (.int (if j < i then j else i))) w
  | _ => False
theorem min2_w : CallW K g (fun xs H Q => ∃ i j, xs = [.int i, .int j] ∧ Q (.int (if j < i then j else i)) H) cMin2 := by
  intro A w σ H xs vs Q0 Q R r h k
  unfold cMin2 at h
  split at h
  · obtain ⟨v, u, rfl, rx, ry⟩ := r.two
    cases rx; cases ry
    exact ⟨_, _, rfl, k _ _ h _ _ R (.int _) (GLe.refl _)⟩
  · exact h.elim
/-- int, bool, str -/
def cInt (xs : List E) (w : W) (Q : E → W → Prop) : Prop := match xs with
  | [.d (.int i)] => Q (.d (.int i)) w
  | [.d (.bl b)] => Q (.d (.int (if b then 1 else 0))) w
  | _ => False
theorem int_cw : CallW K g (fun xs H Q => (∃ i, xs = [.int i] ∧ Q (.int i) H) ∨ ∃ k, xs = [.bl k] ∧ Q (.int (if k then 1 else 0)) H) cInt := by
  intro A w σ H xs vs Q0 Q R r h k
  unfold cInt at h
  split at h
  · obtain ⟨v, rfl, rx⟩ := r.one
    cases rx
    exact .inl ⟨_, rfl, k _ _ h _ _ R (.int _) (GLe.refl _)⟩
  · obtain ⟨v, rfl, rx⟩ := r.one
    cases rx
    exact .inr ⟨_, rfl, k _ _ h _ _ R (.int _) (GLe.refl _)⟩
  · exact h.elim
def cStr (xs : List E) (w : W) (Q : E → W → Prop) : Prop := match xs with
  | [.d (.int i)] => i.natAbs.log2 < 1920 ∧ Q (.d (.str (toString i))) w
  | _ => False
theorem str_cw : CallW K g (fun xs H Q => ∃ i, xs = [.int i] ∧ i.natAbs.log2 < 1920 ∧ Q (.str (toString i)) H) cStr := by
  intro A w σ H xs vs Q0 Q R r h k
  unfold cStr at h
  split at h
  · obtain ⟨v, rfl, rx⟩ := r.one
    cases rx
    exact ⟨_, rfl, h.1, k _ _ h.2 _ _ R (.str _) (GLe.refl _)⟩
  · exact h.elim
/-- the items of a list or tuple -/
def itS (w : W) (x : E) : Option (List D) := match x with
  | .d (.tup xs) => some xs
  | x => itL w x
theorem itS_ok {A : List Addr} {w : W} {σ : L2.St} {H : Hp} {e : E} {xs : List D} {v : V} (R : Rel (gmK K g) [] A w σ H) (r : RepE K g (vis g A H) σ e v) (h : itS w e = some xs) : ∃ (a : Addr) (vs : List V), v = .ref a ∧ (H a = some (.lst vs) ∨ SqT K H a vs) ∧ Reps K (vis g A H) xs vs := by
  unfold itS at h
  split at h
  · cases h
    obtain ⟨a, vs, e1, e2, e3⟩ := itT_ok r rfl
    exact ⟨a, vs, e1, .inr e2, e3⟩
  · obtain ⟨a, vs, e1, e2, e3⟩ := itL_ok R r h
    exact ⟨a, vs, e1, .inl e2, e3⟩
/-- tuple(xs), list(xs): of a list or tuple -/
def cTuple (xs : List E) (w : W) (Q : E → W → Prop) : Prop := match xs with
  | [x] => (match itS w x with
    | some xs => Q (.d (.tup xs)) w
    | none => False)
  | _ => False
theorem tuple_w : CallW K g (fun xs H Q => ∃ p ys, xs = [.ref p] ∧ ((SqL K H p ys ∧ ∀ l, H l = none → Q (.ref l) (upd H l (.tup ys))) ∨ (SqT K H p ys ∧ Q (.ref p) H))) cTuple := by
  intro A w σ H xs vs Q0 Q R r h k
  unfold cTuple at h
  split at h
  · obtain ⟨v, rfl, rx⟩ := r.one
    split at h
    · rename_i xs e
      unfold itS at e
      split at e
      · cases e
        obtain ⟨a, us, rfl, ha, ra⟩ := itT_ok rx rfl
        exact ⟨a, us, rfl, .inr ⟨ha, k _ _ h _ _ R rx (GLe.refl _)⟩⟩
      · obtain ⟨a, us, rfl, ha, ra⟩ := itL_ok R rx e
        exact ⟨a, us, rfl, .inl ⟨.inl (.inl ha), fun p hp => newTup R ra h k p hp⟩⟩
    · exact h.elim
  · exact h.elim
def cList (xs : List E) (w : W) (Q : E → W → Prop) : Prop := match xs with
  | [x] => (match itS w x with
    | some xs => Q (.d (.lst xs)) w
    | none => False)
  | _ => False
theorem list_w : CallW K g (fun xs H Q => ∃ p ys, xs = [.ref p] ∧ (SqL K H p ys ∨ SqT K H p ys) ∧ ∀ l, H l = none → Q (.ref l) (upd H l (.lst ys))) cList := by
  intro A w σ H xs vs Q0 Q R r h k
  unfold cList at h
  split at h
  · obtain ⟨v, rfl, rx⟩ := r.one
    split at h
    · rename_i xs e
      obtain ⟨a, us, rfl, ha, ra⟩ := itS_ok R rx e
      exact ⟨a, us, rfl, ha.imp (fun q => .inl (.inl q)) id, fun p hp => newLst R ra h k p hp⟩
    · exact h.elim
  · exact h.elim

section
variable {x : Str} {p pos : Pos} {e : Expr} {es : List Expr} {ta : TWa} {id T : String} {r : List V → Hp → VK → Prop} {o : List E → W → (E → W → Prop) → Prop}
theorem e_callB (hc : CallR X (.builtin id) r) (hw : CallW X.K g r o) (hg : Gl X x) (hm : X.mg x = none) (hv : bootBuiltins x = some (.builtin id)) (ha : PAW X g (e :: es) ta) (hn : x ≠ "__name__" := by decide) (hdb : (x == ("__debug__" : Str)) = false := by decide)
    (he : starEach (e :: es) X.env = (false, eval e X.env) :: starEach es X.env := by rfl) (hpl : (backTo pos (starEach es X.env)).any (·.1) = false := by rfl) : PEW X g (.Call (.Name x p) (e :: es) [] pos) (eCall o ta) :=
  PE.imp (pe_callB hc hg hm hv ha hn hdb he hpl) (up_args hw)
theorem e_callTy (hc : CallR X (.type T) r) (hw : CallW X.K g r o) (hg : Gl X x) (hm : X.mg x = none) (hv : bootBuiltins x = some (.type T)) (ha : PAW X g (e :: es) ta) (hn : x ≠ "__name__" := by decide) (hdb : (x == ("__debug__" : Str)) = false := by decide)
    (he : starEach (e :: es) X.env = (false, eval e X.env) :: starEach es X.env := by rfl) (hpl : (backTo pos (starEach es X.env)).any (·.1) = false := by rfl) : PEW X g (.Call (.Name x p) (e :: es) [] pos) (eCall o ta) :=
  PE.imp (pe_callTy hc hg hm hv ha hn hdb he hpl) (up_args hw)
/-! ### isinstance(x, T) -/
def tyD : D → String
  | .non => "NoneType" | .bl _ => "bool" | .int _ => "int" | .str _ => "str" | .tup _ => "tuple" | .lst _ => "list" | .dic _ => "dict"
def isTy (T : String) (d : D) : Bool := (kitB (tyD d) T).getD false
def eIsi (T : String) (ta : TW) : TW := fun w Q => ta w fun x w1 => match x with
  | .d x => (kitB (tyD x) T).isSome = true ∧ Q (.d (.bl (isTy T x))) w1
  | _ => False
theorem tyx {G H : Hp} (l : GLe G H) {d : D} {v : V} (r : Rep K G d v) : TyX K H v (.type (tyD d)) := by
  cases r with
  | non => exact .base .non
  | bl b => exact .base (.bl b)
  | int i => exact .base (.int i)
  | str s => exact .base (.str s)
  | tup h _ =>
    rcases l.sqT h with (h | ⟨o, h⟩) | ⟨o, its, n, hk, hc, hs⟩
    · exact .base (.tup h)
    · exact .fTuple h
    · exact .kTuple hk hc
  | lst h _ => exact .base (.lst (l _ _ h))
  | dic h _ _ _ => exact .base (.dK (l _ _ h))
theorem e_isi {a b : Expr} {ta : TW} (ha : PEW X g a ta) (hb : PE X b (tC (.ty T))) (hg : Gl X "isinstance") (hm : X.mg "isinstance" = none)
    (he1 : starEach [a, b] X.env = (false, eval a X.env) :: starEach [b] X.env := by rfl) (he2 : starEach [b] X.env = (false, eval b X.env) :: starEach [] X.env := by rfl) (hpl : (backTo pos (starEach [b] X.env)).any (·.1) = false := by rfl) : PEW X g (.Call (.Name "isinstance" p) [a, b] [] pos) (eIsi T ta) := by
  refine PE.imp (pe_callB call_isi hg hm (by decide +kernel) (pa_cons ha (pa_cons hb pa_nil he2) he1) (by decide) (by decide) he1 hpl) fun σ H Q ⟨A, w, Q0, R, q, k⟩ => ⟨A, w, _, R, q, fun x w1 q1 v H1 R1 r1 l1 => ?_⟩
  split at q1
  · rename_i d
    obtain ⟨q1, q2⟩ := q1
    cases e : kitB (tyD d) T with
    | none => rw [e] at q1; cases q1
    | some b =>
      refine ⟨v, .ty T, _, _, b, rfl, .ty T, tyx hid_le r1, kit_ty e, ?_⟩
      have e2 : isTy T d = b := by unfold isTy; rw [e] <;> rfl
      rw [e2] at q2
      exact k _ _ q2 _ _ R1 (.bl _) l1
  · exact q1.elim
theorem ty_name (hg : Gl X x) (hm : X.mg x = none) (hv : bootBuiltins x = some (.type T)) (hn : x ≠ "__name__" := by decide) (hd : (x == ("__debug__" : Str)) = false := by decide) : PE X (.Name x pos) (tC (.ty T)) := pe_bltn hg hm hv rfl hn hd
end
end
end OW


namespace OW
open PySem PySem.Spec PyProof.Rows L2

/-! ### dicts of plain data -/
def keyD : D → Option Key
  | .int i => some (.inl i)
  | .str s => some (.inr s)
  | _ => none
def dlook (ds : List (Key × D)) (k : Key) : Option D := (ds.find? fun kv => decide (kv.1 = k)).map (·.2)
def dputD (ds : List (Key × D)) (k : Key) (v : D) : List (Key × D) :=
  if (ds.any fun kv => decide (kv.1 = k)) = true then ds.map (fun kv => if kv.1 = k then (kv.1, v) else kv) else ds ++ [(k, v)]
section
variable {K : PySem.W.Frag} {G : Hp}
theorem key_rep {d : D} {k : Key} {v : V} (h : keyD d = some k) (r : Rep K G d v) : v = kV k := by
  cases r <;> simp [keyD] at h <;> subst h <;> rfl
theorem look_ok (k : Key) : ∀ {ds : List (Key × D)} {kvs : List (Key × V)}, ds.map (·.1) = kvs.map (·.1) → Reps K G (ds.map (·.2)) (kvs.map (·.2)) →
    (∀ d, dlook ds k = some d → ∃ v, valV kvs k = some v ∧ Rep K G d v) ∧ (dlook ds k = none → valV kvs k = none)
  | [], [], _, _ => ⟨fun d e => by simp [dlook] at e, fun _ => rfl⟩
  | [], _ :: _, e, _ => by simp at e
  | _ :: _, [], e, _ => by simp at e
  | (a, x) :: ds, (b, y) :: kvs, e, r => by
    simp only [List.map_cons, List.cons.injEq] at e
    obtain ⟨e1, e2⟩ := e
    subst e1
    cases r with
    | cons h t =>
      obtain ⟨i1, i2⟩ := look_ok k e2 t
      by_cases q : a = k
      · subst q
        refine ⟨fun d e => ?_, fun e => by simp [dlook] at e⟩
        simp [dlook] at e
        subst e
        exact ⟨y, valV_pos rfl, h⟩
      · rw [valV_neg (by exact q)]
        have e3 : dlook ((a, x) :: ds) k = dlook ds k := by simp [dlook, List.find?_cons, q]
        rw [e3]
        exact ⟨i1, i2⟩
theorem put_keys (k : Key) : ∀ {ds : List (Key × D)} {kvs : List (Key × V)} (d : D) (v : V), ds.map (·.1) = kvs.map (·.1) → (dputD ds k d).map (·.1) = (putK kvs k v).map (·.1) := fun {ds kvs} d v e => by
  have e1 : (ds.any fun kv => decide (kv.1 = k)) = (kvs.any fun kv => decide (kv.1 = k)) := by
    have h1 : (ds.any fun kv => decide (kv.1 = k)) = (ds.map (·.1)).any (fun x => decide (x = k)) := by rw [List.any_map]; rfl
    have h2 : (kvs.any fun kv => decide (kv.1 = k)) = (kvs.map (·.1)).any (fun x => decide (x = k)) := by rw [List.any_map]; rfl
    rw [h1, h2, e]
  unfold dputD putK
  rw [e1]
  split
  · rw [List.map_map, List.map_map]
    have h1 : ((fun x : Key × D => x.1) ∘ fun kv : Key × D => if kv.1 = k then (kv.1, d) else kv) = (·.1) := by funext kv; simp only [Function.comp]; split <;> rfl
    have h2 : ((fun x : Key × V => x.1) ∘ fun kv : Key × V => if kv.1 = k then (kv.1, v) else kv) = (·.1) := by funext kv; simp only [Function.comp]; split <;> rfl
    rw [h1, h2]; exact e
  · rw [List.map_append, List.map_append, e]; rfl
theorem put_reps (k : Key) {d : D} {v : V} (hd : Rep K G d v) : ∀ {ds : List (Key × D)} {kvs : List (Key × V)}, ds.map (·.1) = kvs.map (·.1) → Reps K G (ds.map (·.2)) (kvs.map (·.2)) → Reps K G ((dputD ds k d).map (·.2)) ((putK kvs k v).map (·.2)) := fun {ds kvs} e r => by
  have e1 : (ds.any fun kv => decide (kv.1 = k)) = (kvs.any fun kv => decide (kv.1 = k)) := by
    have h1 : (ds.any fun kv => decide (kv.1 = k)) = (ds.map (·.1)).any (fun x => decide (x = k)) := by rw [List.any_map]; rfl
    have h2 : (kvs.any fun kv => decide (kv.1 = k)) = (kvs.map (·.1)).any (fun x => decide (x = k)) := by rw [List.any_map]; rfl
    rw [h1, h2, e]
  unfold dputD putK
  rw [e1]
  split
  · have go : ∀ {ds : List (Key × D)} {kvs : List (Key × V)}, ds.map (·.1) = kvs.map (·.1) → Reps K G (ds.map (·.2)) (kvs.map (·.2)) → Reps K G ((ds.map fun kv => if kv.1 = k then (kv.1, d) else kv).map (·.2)) ((kvs.map fun kv => if kv.1 = k then (kv.1, v) else kv).map (·.2)) := by
      intro ds
      induction ds with
      | nil =>
        intro kvs e r
        cases kvs with
        | nil => exact .nil
        | cons _ _ => simp at e
      | cons a ds ih =>
        intro kvs e r
        cases kvs with
        | nil => simp at e
        | cons b kvs =>
          obtain ⟨a1, a2⟩ := a
          obtain ⟨b1, b2⟩ := b
          simp only [List.map_cons, List.cons.injEq] at e
          obtain ⟨e1, e2⟩ := e
          subst e1
          cases r with
          | cons h t =>
            simp only [List.map_cons]
            refine .cons ?_ (ih e2 t)
            by_cases q : a1 = k
            · rw [if_pos q, if_pos q]; exact hd
            · rw [if_neg q, if_neg q]; exact h
    exact go e r
  · rw [List.map_append, List.map_append]
    exact r.append (.one hd)
theorem put_nodup (k : Key) {ds : List (Key × D)} (d : D) (n : (ds.map (·.1)).Nodup) : ((dputD ds k d).map (·.1)).Nodup := by
  unfold dputD
  split
  · rw [List.map_map]
    have h1 : ((fun x : Key × D => x.1) ∘ fun kv : Key × D => if kv.1 = k then (kv.1, d) else kv) = (·.1) := by funext kv; simp only [Function.comp]; split <;> rfl
    rw [h1]; exact n
  · rename_i h
    rw [List.map_append, List.nodup_append]
    refine ⟨n, by simp, fun a ha b hb => ?_⟩
    simp at hb
    subst hb
    rintro rfl
    apply h
    rw [List.any_eq_true]
    obtain ⟨x, hx, rfl⟩ := List.mem_map.mp ha
    exact ⟨x, hx, by simp⟩
theorem put_len (k : Key) (ds : List (Key × D)) (d : D) : (dputD ds k d).length ≤ ds.length + 1 := by
  unfold dputD
  split <;> simp
end

section
variable {X : Cx} {g : G0} {K : PySem.W.Frag}
/-! ### in, not in -/
def flatD : D → Bool
  | .non | .bl _ | .int _ | .str _ => true
  | _ => false
def feq : D → D → Bool
  | .non, .non => true
  | .bl a, .bl b => a == b
  | .bl a, .int b => (if a then 1 else 0) == b
  | .int a, .bl b => a == (if b then 1 else 0)
  | .int a, .int b => a == b
  | .str a, .str b => a == b
  | _, _ => false
theorem flat_rep {G : Hp} {d : D} {v : V} (r : Rep K G d v) (h : flatD d = true) : flatV v = true := by
  cases r <;> first | rfl | (simp [flatD] at h)
theorem feq_rep {G : Hp} {d e : D} {v u : V} (r : Rep K G d v) (q : Rep K G e u) (h : flatD d = true) (h2 : flatD e = true) : eqV v u = feq d e := by
  cases r <;> first | (simp [flatD] at h; done) | skip
  all_goals (cases q <;> first | (simp [flatD] at h2; done) | rfl)
theorem any_rep {G : Hp} {x : D} {v : V} (r : Rep K G x v) (h : flatD x = true) : ∀ {xs : List D} {vs : List V}, Reps K G xs vs → xs.all flatD = true → vs.all flatV = true ∧ inV v vs = xs.any (fun y => feq y x)
  | _, _, .nil, _ => ⟨rfl, rfl⟩
  | _, _, .cons q t, a => by
    simp only [List.all_cons, Bool.and_eq_true] at a
    obtain ⟨i1, i2⟩ := any_rep r h t a.2
    refine ⟨by simp [flat_rep q a.1, i1], ?_⟩
    unfold inV at i2 ⊢
    rw [List.any_cons, List.any_cons, i2, feq_rep q r a.1 h]
def oIn (neg : Bool) (x y : E) (w : W) (Q : E → W → Prop) : Prop := match x with
  | .d x => (match itD w y with
    | some ds => (match keyD x with
      | some k => Q (.d (.bl (if neg then !(dlook ds k).isSome else (dlook ds k).isSome))) w
      | none => False)
    | none => (match itS w y with
      | some xs => flatD x = true ∧ xs.all flatD = true ∧ Q (.d (.bl (if neg then !xs.any (fun y => feq y x) else xs.any (fun y => feq y x)))) w
      | none => False))
  | _ => False
def rInW (K : PySem.W.Frag) (neg : Bool) : R2 := fun x y H Q => (∃ a o, y = .ref a ∧ DGet H a x o ∧ Q (.bl (if neg then !o.isSome else o.isSome)) H) ∨ rIn K neg x y H Q
theorem in_ok (hu : X.A.units + 1 < cLine) : OpR X (compareOp .In) (rInW X.K false) := by
  refine OpR.or ?_ op_in_seq
  intro pins s σ H x y v u Q I rx ry h
  obtain ⟨a, o, rfl, g, q⟩ := h
  obtain rfl : u = Value.ref a := ry
  exact d_in hu I g rx fun s3 I3 => ⟨.bl o.isSome, H, I3, rfl, q⟩
theorem notIn_ok (hu : X.A.units + 1 < cLine) : OpR X (compareOp .NotIn) (rInW X.K true) := by
  refine OpR.or ?_ op_notIn_seq
  intro pins s σ H x y v u Q I rx ry h
  obtain ⟨a, o, rfl, g, q⟩ := h
  obtain rfl : u = Value.ref a := ry
  exact d_notIn hu I g rx fun s3 I3 => ⟨.bl (!o.isSome), H, I3, rfl, q⟩
theorem in_w {neg : Bool} : OpW K g (rInW K neg) (oIn neg) := by
  intro A w σ H x y vx vy Q0 Q R rx ry h k
  unfold oIn at h
  split at h
  · rename_i x
    split at h
    · rename_i ds e
      split at h
      · rename_i key ek
        obtain ⟨a, kvs, rfl, ha, _, e3, rr⟩ := itD_ok R ry e
        have ev := key_rep ek rx
        subst ev
        refine .inl ⟨a, valV kvs key, rfl, DGet.k ha, ?_⟩
        obtain ⟨l1, l2⟩ := look_ok key e3 rr
        have es : (valV kvs key).isSome = (dlook ds key).isSome := by
          cases q : dlook ds key with
          | none => rw [l2 q] <;> rfl
          | some d =>
            obtain ⟨v, e, _⟩ := l1 d q
            rw [e] <;> rfl
        rw [es]
        exact k _ _ h _ _ R (.bl _) (GLe.refl _)
      · exact h.elim
    · split at h
      · rename_i xs e
        obtain ⟨a, vs, rfl, ha, ra⟩ := itS_ok R ry e
        obtain ⟨f1, f2, h⟩ := h
        obtain ⟨q1, q2⟩ := any_rep rx f1 ra f2
        refine .inr ⟨a, vs, rfl, ha.imp (fun q => .inl (.inl q)) id, flat_rep rx f1, q1, ?_⟩
        rw [q2]
        exact k _ _ h _ _ R (.bl _) (GLe.refl _)
      · exact h.elim
  · exact h.elim
section
variable {a b : Expr} {ta tb : TW} {pos : Pos}
theorem e_in (hu : X.A.units + 1 < cLine) (ha : PEW X g a ta) (hb : PEW X g b tb) (hm : behindInMarks .In b = false := by rfl) : PEW X g (.Compare a [.In] [b] pos) (eOp (oIn false) ta tb) := e_cmp (in_ok hu) in_w ha hb hm
theorem t_in (hu : X.A.units + 1 < cLine) (ha : PEW X g a ta) (hb : PEW X g b tb) (hm : behindInMarks .In b = false := by rfl) : PTW X g (.Compare a [.In] [b] pos) (tOf (eOp (oIn false) ta tb)) := t_cmp (in_ok hu) in_w ha hb hm
theorem e_notIn (hu : X.A.units + 1 < cLine) (ha : PEW X g a ta) (hb : PEW X g b tb) (hm : behindInMarks .NotIn b = false := by rfl) : PEW X g (.Compare a [.NotIn] [b] pos) (eOp (oIn true) ta tb) := e_cmp (notIn_ok hu) in_w ha hb hm
theorem t_notIn (hu : X.A.units + 1 < cLine) (ha : PEW X g a ta) (hb : PEW X g b tb) (hm : behindInMarks .NotIn b = false := by rfl) : PTW X g (.Compare a [.NotIn] [b] pos) (tOf (eOp (oIn true) ta tb)) := t_cmp (notIn_ok hu) in_w ha hb hm
end

/-! ### a[i] -/
def oIx (x y : E) (w : W) (Q : E → W → Prop) : Prop := match y with
  | .d y => (match itD w x with
    | some ds => (match keyD y with
      | some k => (match dlook ds k with
        | some d => Q (.d d) w
        | none => False)
      | none => False)
    | none => (match y with
      | .int i => (match itS w x with
        | some xs => (match atI xs i with
          | some d => Q (.d d) w
          | none => False)
        | none => False)
      | _ => False))
  | _ => False
def rIxW (K : PySem.W.Frag) : R2 := fun x y H Q => (∃ a v, x = .ref a ∧ DGet H a y (some v) ∧ Q v H) ∨ rIx K x y H Q
theorem ix_dict (hu : X.A.units + 1 < cLine) : IxR X (fun x y H Q => ∃ a v, x = .ref a ∧ DGet H a y (some v) ∧ Q v H) := by
  intro value slice pins s σ H x y v u Q I rx ry h hs
  obtain ⟨a, r, rfl, g, q⟩ := h
  obtain rfl : v = Value.ref a := rx
  have hT := dict_typeIs I g
  unfold subscriptTail
  refine wpAny_bind ?_
  rw [getitemInPython_of_ne hT.not_modules]
  refine wpAny_bind (wpAny_specialOf hT PySem.F.slot_dict_getitem.lookup ?_)
  have fin : wpAny (model X.prog X.w) X.A (subscripted slice false (.ref a) u) (fun r s₃ => wpAny (model X.prog X.w) X.A (letTemporaryGo value (.ref a) r >>= fun _ => pure r) (EP X pins σ Q) X.xe s₃) X.xe s := by
    rw [hs]
    exact wpAny_operating (d_getItem hu I g ry fun w' s3 I3 rw' => wpAny_bind (wpAny_letTemporaryGo (wpAny_pure ⟨r, H, I3, rw', q⟩)))
  first
    | exact wpAny_pure (wpAny_bind fin)
    | exact wpAny_bind (wpAny_pure (wpAny_bind fin))
    | exact wpAny_bind fin
theorem ix_ok (hu : X.A.units + 1 < cLine) : IxR X (rIxW X.K) := (ix_dict hu).or ix_seq
theorem at_reps {G : Hp} {xs : List D} {vs : List V} {i : Int} {d : D} (r : Reps K G xs vs) (h : atI xs i = some d) : ∃ v, atI vs i = some v ∧ Rep K G d v := by
  unfold atI at h ⊢
  rw [← r.length]
  cases e : ixN xs.length i with
  | none => rw [e] at h; cases h
  | some j =>
    rw [e] at h
    exact r.get (by simpa using h)
theorem ix_w : OpW K g (rIxW K) oIx := by
  intro A w σ H x y vx vy Q0 Q R rx ry h k
  unfold oIx at h
  split at h
  · rename_i y
    split at h
    · rename_i ds e
      split at h
      · rename_i key ek
        split at h
        · rename_i d ed
          obtain ⟨a, kvs, rfl, ha, _, e3, rr⟩ := itD_ok R rx e
          have ev := key_rep ek ry
          subst ev
          obtain ⟨v, e4, rv⟩ := (look_ok key e3 rr).1 d ed
          exact .inl ⟨a, v, rfl, by rw [← e4]; exact DGet.k ha, k _ _ h _ _ R rv (GLe.refl _)⟩
        · exact h.elim
      · exact h.elim
    · split at h
      · rename_i i
        cases ry
        split at h
        · rename_i xs e
          split at h
          · rename_i d ed
            obtain ⟨a, vs, rfl, ha, ra⟩ := itS_ok R rx e
            obtain ⟨v, ev, rv⟩ := at_reps ra ed
            have fin := k _ _ h _ _ R rv (GLe.refl _)
            rcases ha with ha | ha
            · exact .inr (.inl ⟨a, vs, i, v, rfl, rfl, .inl (.inl ha), ev, fin⟩)
            · exact .inr (.inr (.inl ⟨a, vs, i, v, rfl, rfl, ha, ev, fin⟩))
          · exact h.elim
        · exact h.elim
      · exact h.elim
  · exact h.elim
theorem e_ix (hu : X.A.units + 1 < cLine) {a b : Expr} {ta tb : TW} {pos : Pos} (ha : PEW X g a ta) (hb : PEW X g b tb) (hs : PlainIx b := by intro _ _; rfl) : PEW X g (.Subscript a b pos) (eOp oIx ta tb) :=
  PE.imp (pe_ix (ix_ok hu) ha hb hs) (up_two ix_w)

/-! ### a[i:j] -/
abbrev TWo := W → (Option Int → W → Prop) → Prop
def upO (K : PySem.W.Frag) (g : G0) (t : TWo) : TO := fun σ H Q => ∃ A w Q0, Rel (gmK K g) [] A w σ H ∧ t w Q0 ∧ ∀ o w', Q0 o w' → ∀ H', Rel (gmK K g) [] A w' σ H' → GLe (vis g A H) (vis g A H') → Q o H'
abbrev POW (X : Cx) (g : G0) (e : Option Expr) (t : TWo) : Prop := PO X e (upO X.K g t)
theorem PO.imp {e : Option Expr} {t t' : TO} (h : PO X e t) (k : ∀ σ H Q, t' σ H Q → t σ H Q) : PO X e t' := ⟨fun pins s σ H Q I q => h.run pins s σ H Q I (k σ H Q q)⟩
def oNone : TWo := fun w Q => Q none w
def oSome (t : TW) : TWo := fun w Q => t w fun x w1 => match x with
  | .d (.int i) => Q (some i) w1
  | _ => False
theorem o_none : POW X g none oNone := PO.imp po_none fun σ H Q ⟨A, w, Q0, R, q, k⟩ => k _ _ q _ R (GLe.refl _)
theorem o_some {e : Expr} {t : TW} (h : PEW X g e t) : POW X g (some e) (oSome t) := PO.imp (po_some h) fun σ H Q ⟨A, w, Q0, R, q, k⟩ => ⟨A, w, _, R, q, fun x w1 q1 v H1 R1 r1 l1 => by
  split at q1
  · cases r1
    exact ⟨_, rfl, k _ _ q1 _ R1 l1⟩
  · exact q1.elim⟩
def cutD (xs : List D) (lo hi : Option Int) : List D := (xs.drop (HT.sIx xs.length 0 lo)).take (HT.sIx xs.length xs.length hi - HT.sIx xs.length 0 lo)
theorem cut_reps {G : Hp} {xs : List D} {vs : List V} (r : Reps K G xs vs) (lo hi : Option Int) : Reps K G (cutD xs lo hi) (cutV vs lo hi) := by
  unfold cutD cutV
  rw [← r.length]
  exact (r.drop _).take _
def eSlice (te : TW) (tl th : TWo) : TW := fun w Q => te w fun x w1 => tl w1 fun lo w2 => th w2 fun hi w3 => match x with
  | .d (.tup xs) => Q (.d (.tup (cutD xs lo hi))) w3
  | .d (.str s) => s.length ≤ sizeLine ∧ Q (.d (.str (cutS s lo hi))) w3
  | x => (match itL w3 x with
    | some xs => Q (.d (.lst (cutD xs lo hi))) w3
    | none => False)
theorem cut_whole {xs : List D} {lo hi : Option Int} (h : HT.sIx xs.length 0 lo = 0 ∧ HT.sIx xs.length xs.length hi = xs.length) : cutD xs lo hi = xs := by
  unfold cutD
  rw [h.1, h.2]
  simp
def rSlW (K : PySem.W.Frag) : V → Option Int → Option Int → Hp → VK → Prop := fun x lo hi H Q => rSlS x lo hi H Q ∨ rSlA K x lo hi H Q ∨ rSlL K x lo hi H Q
theorem sl_ok : SlR X (rSlW X.K) := sl_str.or (sl_tupA.or sl_list)
theorem e_slice {e : Expr} {lo hi : Option Expr} {te : TW} {tl th : TWo} {p2 pos : Pos} (he : PEW X g e te) (hl : POW X g lo tl) (hh : POW X g hi th) : PEW X g (.Subscript e (.Slice lo hi none p2) pos) (eSlice te tl th) := by
  refine PE.imp (pe_slice sl_ok he hl hh) fun σ H Q ⟨A, w, Q0, R, q, k⟩ => ⟨A, w, _, R, q, fun x w1 q1 v H1 R1 r1 l1 => ⟨A, w1, _, R1, q1, fun lo w2 q2 H2 R2 l2 => ⟨A, w2, _, R2, q2, fun hi w3 q3 H3 R3 l3 => ?_⟩⟩⟩
  have kk := k.comp (l1.trans (l2.trans l3))
  have r3 := (r1.mono l2).mono l3
  split at q3
  · rename_i xs
    obtain ⟨a, vs, rfl, ha, ra⟩ := itT_ok r3 rfl
    refine .inr (.inl ⟨a, vs, rfl, ha, fun hw => ?_, fun _ p hp => newTup R3 (cut_reps ra lo hi) q3 kk p hp⟩)
    rw [← ra.length] at hw
    rw [cut_whole hw] at q3
    exact kk _ _ q3 _ _ R3 r3 (GLe.refl _)
  · cases r3
    exact .inl ⟨_, rfl, q3.1, kk _ _ q3.2 _ _ R3 (.str _) (GLe.refl _)⟩
  · split at q3
    · rename_i xs e
      obtain ⟨a, vs, rfl, ha, ra⟩ := itL_ok R3 r3 e
      exact .inr (.inr ⟨a, vs, rfl, .inl (.inl ha), fun p hp => newLst R3 (cut_reps ra lo hi) q3 kk p hp⟩)
    · exact q3.elim
end
end OW


namespace OW
open PySem PySem.Spec PyProof.Rows L2

/-! ### lists just made -/
abbrev TWn := W → (List D → W → Prop) → Prop
/-- the list at p stands for xs, seen by nobody else -/
def Made (K : PySem.W.Frag) (g : G0) (A : List Addr) (H : Hp) (p : Addr) (xs : List D) : Prop := ∃ vs, H p = some (.lst vs) ∧ Reps K (hid H ([p] ++ A ++ g.O)) xs vs
def ThenF (K : PySem.W.Frag) (g : G0) (A : List Addr) (σ : L2.St) (H : Hp) (Q0 : List D → W → Prop) (Q : VK) : Prop :=
  ∀ xs w', Q0 xs w' → ∀ p H', Rel (gmK K g) [p] A w' σ H' → Made K g A H' p xs → GLe (vis g A H) (hid H' ([p] ++ A ++ g.O)) → Q (.ref p) H'
def upF (K : PySem.W.Frag) (g : G0) (t : TWn) : TE := fun σ H Q => ∃ A w Q0, Rel (gmK K g) [] A w σ H ∧ t w Q0 ∧ ThenF K g A σ H Q0 Q
abbrev PFW (X : Cx) (g : G0) (e : Expr) (t : TWn) : Prop := PE X e (upF X.K g t)
theorem ThenF.comp {K : PySem.W.Frag} {g : G0} {A : List Addr} {σ : L2.St} {H H1 : Hp} {Q0 : List D → W → Prop} {Q : VK} (k : ThenF K g A σ H Q0 Q) (h : GLe (vis g A H) (vis g A H1)) : ThenF K g A σ H1 Q0 Q :=
  fun e w' q p H' R m l => k e w' q p H' R m (h.trans l)
def eF (t : TWn) : TW := fun w Q => t w fun xs w1 => Q (.d (.lst xs)) w1
section
variable {X : Cx} {g : G0} {K : PySem.W.Frag}
theorem Made.rep {A : List Addr} {w : W} {σ : L2.St} {H : Hp} {p : Addr} {xs : List D} (R : Rel (gmK K g) [p] A w σ H) (m : Made K g A H p xs) : Rel (gmK K g) [] A w σ H ∧ RepE K g (vis g A H) σ (.d (.lst xs)) (.ref p) ∧ GLe (hid H ([p] ++ A ++ g.O)) (vis g A H) := by
  obtain ⟨vs, e, r⟩ := m
  obtain ⟨R1, l1⟩ := R.unEx
  refine ⟨R1, .lst ?_ (r.mono l1), l1⟩
  have nd := R.nd
  have np : p ∉ [] ++ A ++ g.O := fun z => by
    rcases List.mem_append.mp z with z | z
    · simp at nd z; exact nd.1 z
    · exact (R.own p (by simp)).1 z
  exact (hid_out np).trans e
theorem f_e {e : Expr} {t : TWn} (h : PFW X g e t) : PEW X g e (eF t) :=
  PE.imp h fun σ H Q ⟨A, w, Q0, R, q, k⟩ => ⟨A, w, _, R, q, fun xs w1 q1 p H1 R1 m l1 => by
    obtain ⟨R2, r2, l2⟩ := m.rep R1
    exact k _ _ q1 _ _ R2 r2 (l1.trans l2)⟩
theorem newF {A : List Addr} {w : W} {σ : L2.St} {H : Hp} {ds : List D} {vs : List V} {Q0 : List D → W → Prop} {Q : VK} (R : Rel (gmK K g) [] A w σ H) (r : Reps K (vis g A H) ds vs) (q : Q0 ds w) (k : ThenF K g A σ H Q0 Q) (p : Addr) (hp : H p = none) : Q (.ref p) (upd H p (.lst vs)) := by
  have R1 := R.newEx (o := .lst vs) hp
  have l : GLe (vis g A H) (hid (upd H p (.lst vs)) ([p] ++ A ++ g.O)) := fun b o e => by
    obtain ⟨n, e⟩ := hid_of e
    have nb : b ≠ p := fun z => by rw [z, hp] at e; cases e
    rw [hid_out (by simp at n ⊢; exact ⟨nb, n⟩), upd_ne nb]
    exact e
  exact k _ _ q _ _ R1 ⟨vs, upd_same, r.mono l⟩ l
def fLst (ta : TWa) : TWn := fun w Q => ta w fun xs w1 => match dats xs with
  | some ds => ds.length ≤ sizeLine ∧ Q ds w1
  | none => False
theorem f_lst {es : List Expr} {tz : TWa} {pos : Pos} (h : PAW X g es tz) : PFW X g (.List es pos) (fLst tz) :=
  PE.imp (pe_lst h) fun σ H Q ⟨A, w, Q0, R, q, k⟩ => ⟨A, w, _, R, q, fun xs w1 q1 vs H1 R1 r1 l1 => by
    split at q1
    · rename_i ds e
      have rr := r1.dats e
      exact ⟨by rw [← rr.length]; exact q1.1, fun p hp => newF R1 rr q1.2 (k.comp l1) p hp⟩
    · exact q1.elim⟩
/-- calls of built-ins that make a list -/
def CallF (K : PySem.W.Frag) (g : G0) (r : List V → Hp → VK → Prop) (o : List E → W → (List D → W → Prop) → Prop) : Prop :=
  ∀ (A : List Addr) (w : W) (σ : L2.St) (H : Hp) (xs : List E) (vs : List V) (Q0 : List D → W → Prop) (Q : VK), Rel (gmK K g) [] A w σ H → RepEs K g (vis g A H) σ xs vs → o xs w Q0 → ThenF K g A σ H Q0 Q → r vs H Q
def fCall (o : List E → W → (List D → W → Prop) → Prop) (ta : TWa) : TWn := fun w Q => ta w fun xs w1 => o xs w1 Q
theorem up_argsF {r : List V → Hp → VK → Prop} {o : List E → W → (List D → W → Prop) → Prop} {ta : TWa} (hw : CallF K g r o) (σ : L2.St) (H : Hp) (Q : VK) (h : upF K g (fCall o ta) σ H Q) : tCB r (upA K g ta) σ H Q := by
  obtain ⟨A, w, Q0, R, q, k⟩ := h
  exact ⟨A, w, _, R, q, fun xs w1 q1 vs H1 R1 r1 l1 => hw A w1 σ H1 xs vs Q0 Q R1 r1 q1 (k.comp l1)⟩
section
variable {x : Str} {p pos : Pos} {e : Expr} {es : List Expr} {ta : TWa} {id T : String} {r : List V → Hp → VK → Prop} {o : List E → W → (List D → W → Prop) → Prop}
theorem f_callB (hc : CallR X (.builtin id) r) (hw : CallF X.K g r o) (hg : Gl X x) (hm : X.mg x = none) (hv : bootBuiltins x = some (.builtin id)) (ha : PAW X g (e :: es) ta) (hn : x ≠ "__name__" := by decide) (hdb : (x == ("__debug__" : Str)) = false := by decide)
    (he : starEach (e :: es) X.env = (false, eval e X.env) :: starEach es X.env := by rfl) (hpl : (backTo pos (starEach es X.env)).any (·.1) = false := by rfl) : PFW X g (.Call (.Name x p) (e :: es) [] pos) (fCall o ta) :=
  PE.imp (pe_callB hc hg hm hv ha hn hdb he hpl) (up_argsF hw)
theorem f_callTy (hc : CallR X (.type T) r) (hw : CallF X.K g r o) (hg : Gl X x) (hm : X.mg x = none) (hv : bootBuiltins x = some (.type T)) (ha : PAW X g (e :: es) ta) (hn : x ≠ "__name__" := by decide) (hdb : (x == ("__debug__" : Str)) = false := by decide)
    (he : starEach (e :: es) X.env = (false, eval e X.env) :: starEach es X.env := by rfl) (hpl : (backTo pos (starEach es X.env)).any (·.1) = false := by rfl) : PFW X g (.Call (.Name x p) (e :: es) [] pos) (fCall o ta) :=
  PE.imp (pe_callTy hc hg hm hv ha hn hdb he hpl) (up_argsF hw)
end
def fcList (xs : List E) (w : W) (Q : List D → W → Prop) : Prop := match xs with
  | [x] => (match itS w x with
    | some xs => Q xs w
    | none => False)
  | _ => False
theorem list_f : CallF K g (fun xs H Q => ∃ p ys, xs = [.ref p] ∧ (SqL K H p ys ∨ SqT K H p ys) ∧ ∀ l, H l = none → Q (.ref l) (upd H l (.lst ys))) fcList := by
  intro A w σ H xs vs Q0 Q R r h k
  unfold fcList at h
  split at h
  · obtain ⟨v, rfl, rx⟩ := r.one
    split at h
    · rename_i xs e
      obtain ⟨a, us, rfl, ha, ra⟩ := itS_ok R rx e
      exact ⟨a, us, rfl, ha.imp (fun q => .inl (.inl q)) id, fun p hp => newF R ra h k p hp⟩
    · exact h.elim
  · exact h.elim

/-! ### what a def of the program's own promises -/
inductive R where
  | val (d : D) | new (xs : List D)
abbrev Spec := List E → (R → Prop) → Prop
/-- the answer r, over what the callers hide -/
def RepR (K : PySem.W.Frag) (O : List Addr) (H H' : Hp) : R → V → Prop
  | .val d, v => Rep K (hid H' O) d v
  | .new xs, v => ∃ a vs, v = .ref a ∧ H a = none ∧ H' a = some (.lst vs) ∧ Reps K (hid H' (a :: O)) xs vs
def okArgs : List E → Prop
  | [] => True
  | .bor _ :: _ => False
  | _ :: r => okArgs r
def spU (K : PySem.W.Frag) (TB : List Addr) (spec : Spec) : Sp := fun vs H Q _ => ∃ (g : G0) (es : List E) (Q0 : R → Prop), g.He = H ∧ g.s0.tb = TB ∧ (∀ b ∈ g.O, H b ≠ none) ∧ StIn K g.O g.s0 H H ∧ RepEs K g (hid H g.O) [] es vs ∧ spec es Q0 ∧
  ∀ r, Q0 r → ∀ v H', Keep g.s0 H H' → StO g.s0 H' → RepR K g.O H H' r v → Q v H'
theorem RepEs.nobor {G : Hp} {σ : L2.St} {O : List Addr} : ∀ {es : List E} {vs : List V}, RepEs K g G σ es vs → okArgs es → RepEs K ⟨g.He, O, g.s0⟩ G [] es vs
  | [], _, .nil, _ => .nil
  | .d x :: r, _, .cons h t, k => .cons h (RepEs.nobor t k)
  | .st :: r, _, .cons h t, k => .cons h (RepEs.nobor t k)
  | .bor i :: r, _, .cons h t, k => k.elim
theorem RepEs.he {G : Hp} {σ : L2.St} {O : List Addr} {s0 : S0} {He He' : Hp} : ∀ {es : List E} {vs : List V}, RepEs K ⟨He, O, s0⟩ G σ es vs → RepEs K ⟨He', O, s0⟩ G σ es vs
  | [], _, .nil => .nil
  | .d x :: r, _, .cons h t => .cons h (RepEs.he t)
  | .st :: r, _, .cons h t => .cons h (RepEs.he t)
  | .bor i :: r, _, .cons h t => .cons h (RepEs.he t)
/-- what a callee finds -/
theorem StIn.call {A : List Addr} {w : W} {σ : L2.St} {H : Hp} (R0 : Rel (gmK K g) [] A w σ H) : (∀ b ∈ A ++ g.O, H b ≠ none) ∧ StIn K (A ++ g.O) g.s0 H H := by
  refine ⟨fun b hb => ?_, ⟨fun s c e => List.mem_append_right _ (R0.st.mem s c e), fun P hP => List.mem_append_right _ (R0.st.memT P hP), R0.st.fre, R0.st.stT, fun s c e => ?_, R0.st.cont⟩⟩
  · rcases List.mem_append.mp hb with z | z
    · exact (R0.own b (by simpa using z)).2.2
    · exact R0.alloc b z
  · obtain ⟨cs, hc⟩ := R0.st.cells s c e
    refine ⟨cs, ?_⟩
    have nb : ∀ o, g.He c = some o → H c = some o := fun o eo => R0.since c o eo (R0.st.fre s c e)
    rcases hc with (hc | ⟨o, hc⟩) | hc
    · exact .inl (.inl (nb _ hc))
    · exact .inl (.inr ⟨o, nb _ hc⟩)
    · exact .inr hc
/-- from a body: the call of a def that keeps spU -/
theorem call_own {spec : Spec} {TB : List Addr} {A : List Addr} {w : W} {σ : L2.St} {H : Hp} {es : List E} {vs : List V} {Q0 : R → Prop} {Q : VK} (E : XK) (htb : g.s0.tb = TB) (R0 : Rel (gmK K g) [] A w σ H) (r : RepEs K g (vis g A H) σ es vs) (ok : okArgs es) (h : spec es Q0)
    (k : ∀ r, Q0 r → ∀ v H', Rel (gmK K g) [] A w σ H' → GLe (vis g A H) (vis g A H') → Keep g.s0 H H' → RepR K (A ++ g.O) H H' r v → Q v H') : spU K TB spec vs H Q E := by
  obtain ⟨al, st⟩ := StIn.call R0
  refine ⟨⟨H, A ++ g.O, g.s0⟩, es, Q0, rfl, htb, al, st, ?_, h, fun r q v H' kp hs rr => ?_⟩
  · exact (RepEs.nobor (O := A ++ g.O) r ok).he
  · obtain ⟨R1, l1⟩ := R0.keep kp hs
    exact k r q v H' R1 l1 kp rr
def eFn (spec : Spec) (ta : TWa) : TW := fun w Q => ta w fun xs w1 => okArgs xs ∧ spec xs fun r => match r with
  | .val d => Q (.d d) w1
  | .new ys => Q (.d (.lst ys)) w1
/-- a list that a callee made: seen by nobody else -/
theorem Rel.made {A : List Addr} {w : W} {σ : L2.St} {H H' : Hp} {p : Addr} {vs : List V} {xs : List D} (R0 : Rel (gmK K g) [] A w σ H) (R1 : Rel (gmK K g) [] A w σ H') (kp : Keep g.s0 H H') (e : H p = none) (e' : H' p = some (.lst vs)) (rr : Reps K (hid H' (p :: (A ++ g.O))) xs vs) :
    Rel (gmK K g) [p] A w σ H' ∧ Made K g A H' p xs ∧ GLe (vis g A H) (hid H' ([p] ++ A ++ g.O)) := by
  obtain ⟨np, eHe⟩ := R0.fresh_out e
  have np1 : p ∉ A := fun z => np (by simp [z])
  have np2 : p ∉ g.O := fun z => np (by simp [z])
  have l : GLe (vis g A H) (hid H' ([p] ++ A ++ g.O)) := fun b o q => by
    obtain ⟨n, q⟩ := hid_of q
    have nb : b ≠ p := fun z => by rw [z, e] at q; cases q
    rw [hid_out (by simp at n ⊢; exact ⟨nb, n⟩)]
    exact kp b o q (R0.st.free fun z => n (List.mem_append_right _ z))
  refine ⟨⟨R0.slots.mono l fun a ha => ?_, ?_, fun a ha => ?_, R1.since, R1.alloc, R1.st⟩, ⟨vs, e', by simpa using rr⟩, l⟩
  · obtain ⟨n, _, q⟩ := R0.own a (by simpa using ha)
    cases ea : H a with
    | none => exact absurd ea q
    | some o => exact kp a o ea (R0.st.free n)
  · have := R0.nd
    simp at this ⊢
    exact ⟨np1, this⟩
  · rcases List.mem_append.mp ha with z | z
    · have z' : a = p := by simpa using z
      subst z'
      exact ⟨np2, eHe, by rw [e']; exact fun y => nomatch y⟩
    · exact R1.own a (by simpa using z)
theorem ret_val {A : List Addr} {w : W} {σ : L2.St} {H H' : Hp} {Q0 : E → W → Prop} {Q : VK} {r : R} {v : V} (R0 : Rel (gmK K g) [] A w σ H) (kk : Then K g A σ H Q0 Q) (q : match r with | .val d => Q0 (.d d) w | .new ys => Q0 (.d (.lst ys)) w)
    (R1 : Rel (gmK K g) [] A w σ H') (l1 : GLe (vis g A H) (vis g A H')) (kp : Keep g.s0 H H') (rr : RepR K (A ++ g.O) H H' r v) : Q v H' := by
  cases r with
  | val d => exact kk _ _ q _ _ R1 (show Rep K (hid H' ([] ++ A ++ g.O)) d v by simpa [RepR] using rr) l1
  | new ys =>
    obtain ⟨a, us, rfl, e, e', rr⟩ := rr
    obtain ⟨R2, m, l2⟩ := R0.made R1 kp e e' rr
    obtain ⟨R3, r3, l3⟩ := m.rep R2
    exact kk _ _ q _ _ R3 r3 (l2.trans l3)
section
variable {k : Nat} {f : Addr} {fd : FuncData} {ps : List Str} {spec : Spec} {TB : List Addr} {x : Str} {p pos : Pos} {e : Expr} {es : List Expr} {ta : TWa}
theorem e_call (F : FnOk X.prog X.w X.K X.mg X.base CX0 k f fd ps (spU X.K TB spec)) (htb : g.s0.tb = TB) (hr : Room k X.A) (hg : Gl X x) (hm : X.mg x = some (.ref f)) (hk : PySem.W.keepIn X.K (.ref f) = true) (hb : Binds X.K fd ps []) (ha : PAW X g (e :: es) ta) (hdb : (x == ("__debug__" : Str)) = false := by decide)
    (he : starEach (e :: es) X.env = (false, eval e X.env) :: starEach es X.env := by rfl) (hpl : (backTo pos (starEach es X.env)).any (·.1) = false := by rfl) : PEW X g (.Call (.Name x p) (e :: es) [] pos) (eFn spec ta) :=
  PE.imp (pe_call F hr hg hm hk hb .nil pass0 ha hdb he hpl) fun σ H Q ⟨A, w, Q0, R0, q, kk⟩ => ⟨A, w, _, R0, q, fun xs w1 q1 vs H1 R1 r1 l1 => by
    show spU X.K TB spec (vs ++ []) H1 Q E0
    rw [List.append_nil]
    exact call_own _ htb R1 r1 q1.1 q1.2 fun r q2 v H2 R2 l2 kp rr => ret_val R1 (kk.comp l1) q2 R2 l2 kp rr⟩
/-- a def that hands back a list of its own making -/
def fFn (spec : Spec) (ta : TWa) : TWn := fun w Q => ta w fun xs w1 => okArgs xs ∧ spec xs fun r => match r with
  | .val _ => False
  | .new ys => Q ys w1
theorem f_call (F : FnOk X.prog X.w X.K X.mg X.base CX0 k f fd ps (spU X.K TB spec)) (htb : g.s0.tb = TB) (hr : Room k X.A) (hg : Gl X x) (hm : X.mg x = some (.ref f)) (hk : PySem.W.keepIn X.K (.ref f) = true) (hb : Binds X.K fd ps []) (ha : PAW X g (e :: es) ta) (hdb : (x == ("__debug__" : Str)) = false := by decide)
    (he : starEach (e :: es) X.env = (false, eval e X.env) :: starEach es X.env := by rfl) (hpl : (backTo pos (starEach es X.env)).any (·.1) = false := by rfl) : PFW X g (.Call (.Name x p) (e :: es) [] pos) (fFn spec ta) :=
  PE.imp (pe_call F hr hg hm hk hb .nil pass0 ha hdb he hpl) fun σ H Q ⟨A, w, Q0, R0, q, kk⟩ => ⟨A, w, _, R0, q, fun xs w1 q1 vs H1 R1 r1 l1 => by
    show spU X.K TB spec (vs ++ []) H1 Q E0
    rw [List.append_nil]
    refine call_own _ htb R1 r1 q1.1 q1.2 fun r q2 v H2 R2 l2 kp rr => ?_
    cases r with
    | val d => exact q2.elim
    | new ys =>
      obtain ⟨a, us, rfl, e, e', rr⟩ := rr
      obtain ⟨R3, m, l3⟩ := R1.made R2 kp e e' rr
      exact (kk.comp l1) _ _ q2 _ _ R3 m l3⟩
end
end

/-! ### statements -/
structure En where
  nx : W → Prop
  rt : R → Prop
  bk : W → Prop := fun _ => False
  ct : W → Prop := fun _ => False
  ex : D → Prop := fun _ => False
abbrev SW := En → W → Prop
/-- how a def is left -/
def Out (K : PySem.W.Frag) (g : G0) (H' : Hp) : Prop := Keep g.s0 g.He H' ∧ StO g.s0 H'
abbrev EXV := V → Hp → Prop
structure ThenS (K : PySem.W.Frag) (g : G0) (EX : EXV) (A : List Addr) (H : Hp) (E0 : En) (D : Ends) : Prop where
  nx : ∀ w', E0.nx w' → ∀ A' σ' H', Rel (gmK K g) [] A' w' σ' H' → GLe (vis g A H) (vis g A' H') → D.nx σ' H'
  bk : ∀ w', E0.bk w' → ∀ A' σ' H', Rel (gmK K g) [] A' w' σ' H' → GLe (vis g A H) (vis g A' H') → D.bk σ' H'
  ct : ∀ w', E0.ct w' → ∀ A' σ' H', Rel (gmK K g) [] A' w' σ' H' → GLe (vis g A H) (vis g A' H') → D.ct σ' H'
  rt : ∀ r, E0.rt r → ∀ v H', Out K g H' → RepR K g.O g.He H' r v → D.rt v H'
  ex : ∀ d, E0.ex d → ∀ v H', Out K g H' → Rep K (hid H' g.O) d v → EX v H'
theorem ThenS.comp {K : PySem.W.Frag} {g : G0} {EX : EXV} {A A1 : List Addr} {H H1 : Hp} {E0 : En} {D : Ends} (k : ThenS K g EX A H E0 D) (l : GLe (vis g A H) (vis g A1 H1)) : ThenS K g EX A1 H1 E0 D :=
  ⟨fun w' q A' σ' H' R' l' => k.nx w' q A' σ' H' R' (l.trans l'), fun w' q A' σ' H' R' l' => k.bk w' q A' σ' H' R' (l.trans l'), fun w' q A' σ' H' R' l' => k.ct w' q A' σ' H' R' (l.trans l'), k.rt, k.ex⟩
def upS (K : PySem.W.Frag) (g : G0) (EX : EXV) (t : SW) : TS := fun D σ H => ∃ A w E0, Rel (gmK K g) [] A w σ H ∧ t E0 w ∧ ThenS K g EX A H E0 D
abbrev PSW (X : Cx) (g : G0) (EX : EXV) (st : Stmt) (t : SW) : Prop := PS X st (upS X.K g EX t)
abbrev PSsW (X : Cx) (g : G0) (EX : EXV) (st : List Stmt) (t : SW) : Prop := PSs X st (upS X.K g EX t)
section
variable {X : Cx} {g : G0} {K : PySem.W.Frag} {EX : EXV} {st : Stmt} {rest : List Stmt} {t u : SW} {e : Expr} {te : TW} {pos : Pos}
theorem Rel.out {A : List Addr} {w : W} {σ : L2.St} {H : Hp} (R0 : Rel (gmK K g) [] A w σ H) : Out K g H := ⟨R0.since, R0.st.cont⟩
/-- what is seen within the def is seen outside -/
theorem vis_out {A : List Addr} {H : Hp} : GLe (vis g A H) (hid H g.O) := hid_mono (fun a h => .inl (List.mem_append_right _ h)) fun _ _ _ e => e
def sNil : SW := fun E w => E.nx w
def sSeq (t u : SW) : SW := fun E w => t { E with nx := u E } w
theorem s_nil : PSsW X g EX [] sNil := PSs.imp pss_nil fun D σ H ⟨A, w, E0, R0, q, k⟩ => k.nx _ q _ _ _ R0 (GLe.refl _)
theorem s_cons (h1 : PSW X g EX st t) (h2 : PSsW X g EX rest u) : PSsW X g EX (st :: rest) (sSeq t u) :=
  PSs.imp (pss_cons h1 h2) fun D σ H ⟨A, w, E0, R0, q, k⟩ => ⟨A, w, _, R0, q, ⟨fun w' q' A' σ' H' R' l' => ⟨A', w', E0, R', q', k.comp l'⟩, k.bk, k.ct, k.rt, k.ex⟩⟩
theorem s_one (h1 : PSW X g EX st t) : PSsW X g EX [st] t := pss_one h1
def sPass : SW := fun E w => E.nx w
theorem s_pass : PSW X g EX (.Pass pos) sPass := PS.imp ps_pass fun D σ H ⟨A, w, E0, R0, q, k⟩ => k.nx _ q _ _ _ R0 (GLe.refl _)
def sBreak : SW := fun E w => E.bk w
def sCont : SW := fun E w => E.ct w
theorem s_break : PSW X g EX (.Break pos) sBreak := PS.imp ps_break fun D σ H ⟨A, w, E0, R0, q, k⟩ => k.bk _ q _ _ _ R0 (GLe.refl _)
theorem s_cont : PSW X g EX (.Continue pos) sCont := PS.imp ps_continue fun D σ H ⟨A, w, E0, R0, q, k⟩ => k.ct _ q _ _ _ R0 (GLe.refl _)
def sRet (te : TW) : SW := fun E w => te w fun x _ => match x with
  | .d d => E.rt (.val d)
  | _ => False
theorem s_ret (he : PEW X g e te) : PSW X g EX (.Return (some e) pos) (sRet te) :=
  PS.imp (ps_ret he) fun D σ H ⟨A, w, E0, R0, q, k⟩ => ⟨A, w, _, R0, q, fun x w1 q1 v H1 R1 r1 l1 => by
    split at q1
    · exact k.rt _ q1 _ _ R1.out (Rep.mono vis_out r1)
    · exact q1.elim⟩
def sRetN : SW := fun E _ => E.rt (.val .non)
theorem s_retN : PSW X g EX (.Return none pos) sRetN := PS.imp ps_retN fun D σ H ⟨A, w, E0, R0, q, k⟩ => k.rt _ q _ _ R0.out .non
/-- return of a list just made -/
def sRetF (te : TWn) : SW := fun E w => te w fun xs _ => E.rt (.new xs)
theorem s_retF {tf : TWn} (he : PFW X g e tf) : PSW X g EX (.Return (some e) pos) (sRetF tf) :=
  PS.imp (ps_ret he) fun D σ H ⟨A, w, E0, R0, q, k⟩ => ⟨A, w, _, R0, q, fun xs w1 q1 p H1 R1 m l1 => by
    obtain ⟨vs, e1, r1⟩ := m
    refine k.rt _ q1 _ _ ⟨R1.since, R1.st.cont⟩ ⟨p, vs, rfl, (R1.own p (by simp)).2.1, e1, r1.mono ?_⟩
    exact hid_mono (fun a h => .inl (by
      rcases List.mem_cons.mp h with z | z
      · simp [z]
      · simp [z])) fun _ _ _ e => e⟩
/-- return of a list of a slot's own -/
def sRetO (i : Nat) : SW := fun E w => match w[i]? with
  | some (.own xs) => E.rt (.new xs)
  | _ => False
theorem s_retO {i : Nat} {x : Str} {p1 : Pos} (hN : X.N[i]? = some x := by rfl) (hv : Vis X.env.scope x := by first | exact Or.inl rfl | exact Or.inr (Or.inl rfl) | exact Or.inr (Or.inr rfl)) (hd : (x == ("__debug__" : Str)) = false := by decide) (hcd : (x == ("__classdict__" : Str)) = false := by decide) :
    PSW X g EX (.Return (some (.Name x p1)) pos) (sRetO i) :=
  PS.imp (ps_ret (pe_var (i := i) hN hv hd hcd)) fun D σ H ⟨A, w, E0, R0, q, k⟩ => by
    unfold sRetO at q
    split at q
    · rename_i xs e
      obtain ⟨y, Ai, e2, so, sub⟩ := slot_val R0 e
      cases so with
      | @own a vs xs e3 r =>
        refine ⟨_, e2, k.rt _ q _ _ R0.out ⟨_, _, rfl, (R0.own _ (by simpa using sub _ (by simp))).2.1, e3, r.mono ?_⟩⟩
        exact hid_mono (fun b h => .inl (by
          rcases List.mem_cons.mp h with z | z
          · rw [z]; exact List.mem_append_left _ (by simpa using sub _ (by simp))
          · exact List.mem_append_right _ z)) fun _ _ _ e => e
    · exact q.elim
def sIf (c : TWt) (t u : SW) : SW := fun E w => c w fun b w1 => if b = true then t E w1 else u E w1
theorem s_if {c : Expr} {a b : List Stmt} {tc : TWt} (hc : PTW X g c tc) (ha : PSsW X g EX a t) (hb : PSsW X g EX b u) : PSW X g EX (.If c a b pos) (sIf tc t u) :=
  PS.imp (ps_if hc ha hb) fun D σ H ⟨A, w, E0, R0, q, k⟩ => ⟨A, w, _, R0, q, fun b w1 q1 H1 R1 l1 => by
    cases b with
    | true =>
      rw [if_pos rfl] at q1 ⊢
      exact ⟨A, w1, E0, R1, q1, k.comp l1⟩
    | false =>
      rw [if_neg Bool.false_ne_true] at q1 ⊢
      exact ⟨A, w1, E0, R1, q1, k.comp l1⟩⟩
def sExpr (te : TW) : SW := fun E w => te w fun _ w1 => E.nx w1
theorem s_expr (he : PEW X g e te) (hs : swapsWith e none pos.line X.env = pure false := by rfl) : PSW X g EX (.Expr e pos) (sExpr te) :=
  PS.imp (ps_expr he hs) fun D σ H ⟨A, w, E0, R0, q, k⟩ => ⟨A, w, _, R0, q, fun x w1 q1 v H1 R1 r1 l1 => k.nx _ q1 _ _ _ R1 l1⟩

/-! ### names are given values -/
theorem Rel.setV' {A : List Addr} {w : W} {σ : L2.St} {H : Hp} {d : D} {v : V} {i : Nat} (R0 : Rel (gmK K g) [] A w σ H) (r : Rep K (vis g A H) d v) : ∃ A', Rel (gmK K g) [] A' (w.set i (.v d)) (σ.set i (some v)) H ∧ GLe (vis g A H) (vis g A' H) := by
  by_cases hi : i < w.length
  · exact R0.setV hi r
  · have hs : ¬ i < σ.length := by rw [R0.len]; exact hi
    rw [List.set_eq_of_length_le (by omega), List.set_eq_of_length_le (by omega)]
    exact ⟨A, R0, GLe.refl _⟩
def sSet (i : Nat) (te : TW) : SW := fun E w => te w fun x w1 => match x with
  | .d d => E.nx (w1.set i (.v d))
  | _ => False
theorem s_set {i : Nat} {x : Str} {pos' : Pos} (hN : X.N.Nodup) (hi : X.N[i]? = some x) (hx : Loc X.env.scope x) (he : PEW X g e te) (hs : swapsWith e (some (.Name x pos')) pos.line X.env = pure false := by rfl) (hf : X.fn x = true ∨ X.env.scope.names.lookup x = some .local := by first | exact .inl rfl | exact .inr rfl | assumption) :
    PSW X g EX (.Assign [.Name x pos'] e pos) (sSet i te) :=
  PS.imp (ps_set hN hi hx he hs hf) fun D σ H ⟨A, w, E0, R0, q, k⟩ => ⟨A, w, _, R0, q, fun x w1 q1 v H1 R1 r1 l1 => by
    split at q1
    · obtain ⟨A', R2, l2⟩ := R1.setV' (i := i) r1
      exact k.nx _ q1 _ _ _ R2 (l1.trans l2)
    · exact q1.elim⟩
/-- .. a list just made, the slot's own from then on -/
def sSetF (i : Nat) (te : TWn) : SW := fun E w => i < w.length ∧ te w fun xs w1 => i < w1.length ∧ E.nx (w1.set i (.own xs))
theorem s_setF {i : Nat} {x : Str} {pos' : Pos} {tf : TWn} (hN : X.N.Nodup) (hi : X.N[i]? = some x) (hx : Loc X.env.scope x) (he : PFW X g e tf) (hs : swapsWith e (some (.Name x pos')) pos.line X.env = pure false := by rfl) (hf : X.fn x = true ∨ X.env.scope.names.lookup x = some .local := by first | exact .inl rfl | exact .inr rfl | assumption) :
    PSW X g EX (.Assign [.Name x pos'] e pos) (sSetF i tf) :=
  PS.imp (ps_set hN hi hx he hs hf) fun D σ H ⟨A, w, E0, R0, q, k⟩ => ⟨A, w, _, R0, q.2, fun xs w1 q1 p H1 R1 m l1 => by
    obtain ⟨vs, e1, r1⟩ := m
    obtain ⟨A', R2, l2⟩ := R1.setOwn q1.1 e1 r1
    exact k.nx _ q1.2 _ _ _ R2 (l1.trans l2)⟩
end
end OW


namespace OW
open PySem PySem.Spec PyProof.Rows L2

section
variable {X : Cx} {g : G0} {K : PySem.W.Frag} {EX : EXV}
/-! ### targets -/
/-- only the slots is are changed -/
def SetOnly (is : List Nat) (σ σ' : L2.St) : Prop := σ'.length = σ.length ∧ ∀ j, j ∉ is → σ'[j]? = σ[j]?
def plainL : L → Bool
  | .un | .v _ => true
  | _ => false
abbrev TGw := D → W → (W → Prop) → Prop
def upG (K : PySem.W.Frag) (g : G0) (is : List Nat) (t : TGw) : TG := fun v σ H Q => ∃ A w d Q0, Rel (gmK K g) [] A w σ H ∧ Rep K (vis g A H) d v ∧ t d w Q0 ∧
  ∀ w', Q0 w' → ∀ σ' H', Rel (gmK K g) [] A w' σ' H' → SetOnly is σ σ' → GLe (vis g A H) (vis g A H') → Q σ' H'
def upGs (K : PySem.W.Frag) (g : G0) (is : List Nat) (t : List D → W → (W → Prop) → Prop) : TGs := fun vs σ H Q => ∃ A w ds Q0, Rel (gmK K g) [] A w σ H ∧ Reps K (vis g A H) ds vs ∧ t ds w Q0 ∧
  ∀ w', Q0 w' → ∀ σ' H', Rel (gmK K g) [] A w' σ' H' → SetOnly is σ σ' → GLe (vis g A H) (vis g A H') → Q σ' H'
abbrev PGW (X : Cx) (g : G0) (is : List Nat) (e : Expr) (t : TGw) : Prop := PG X e (upG X.K g is t)
abbrev PGsW (X : Cx) (g : G0) (is : List Nat) (es : List Expr) (t : List D → W → (W → Prop) → Prop) : Prop := PGs X es (upGs X.K g is t)
theorem PG.imp {e : Expr} {t t' : TG} (h : PG X e t) (k : ∀ v σ H Q, t' v σ H Q → t v σ H Q) : PG X e t' := ⟨fun pins s σ H v u Q I r q => h.run pins s σ H v u Q I r (k v σ H Q q)⟩
theorem PGs.imp {es : List Expr} {t t' : TGs} (h : PGs X es t) (k : ∀ v σ H Q, t' v σ H Q → t v σ H Q) : PGs X es t' := ⟨fun pins s σ H v u Q I r q => h.run pins s σ H v u Q I r (k v σ H Q q)⟩
/-- a slot without a list of its own -/
theorem Rel.setP {A : List Addr} {w : W} {σ : L2.St} {H : Hp} {d : D} {v : V} {i : Nat} {l : L} (R0 : Rel (gmK K g) [] A w σ H) (e : w[i]? = some l) (hp : plainL l = true) (r : Rep K (vis g A H) d v) : Rel (gmK K g) [] A (w.set i (.v d)) (σ.set i (some v)) H := by
  obtain ⟨x, Ai, pre, post, e1, e2, q, f⟩ := R0.slots.change e
  have z : Ai = [] := by cases q <;> first | rfl | (simp [plainL] at hp)
  subst z
  have := f H (vis g A H) (.v d) (some v) [] (.v r) (fun _ _ => rfl) (GLe.refl _)
  rw [← e1] at this
  exact ⟨this, R0.nd, R0.own, R0.since, R0.alloc, R0.st⟩
theorem Rel.unP {A : List Addr} {w : W} {σ : L2.St} {H : Hp} {i : Nat} {l : L} {x' : Option V} (R0 : Rel (gmK K g) [] A w σ H) (e : w[i]? = some l) (hp : plainL l = true) : Rel (gmK K g) [] A (w.set i .un) (σ.set i x') H := by
  obtain ⟨x, Ai, pre, post, e1, e2, q, f⟩ := R0.slots.change e
  have z : Ai = [] := by cases q <;> first | rfl | (simp [plainL] at hp)
  subst z
  have := f H (vis g A H) .un x' [] (.un _) (fun _ _ => rfl) (GLe.refl _)
  rw [← e1] at this
  exact ⟨this, R0.nd, R0.own, R0.since, R0.alloc, R0.st⟩
def gN (i : Nat) : TGw := fun d w Q => match w[i]? with
  | some .un => Q (w.set i (.v d))
  | some (.v _) => Q (w.set i (.v d))
  | _ => False
theorem g_name {i : Nat} {x : Str} {pos : Pos} (hN : X.N.Nodup) (hi : X.N[i]? = some x) (hx : Loc X.env.scope x) (hf : X.fn x = true ∨ X.env.scope.names.lookup x = some .local := by first | exact .inl rfl | exact .inr rfl | assumption) : PGW X g [i] (.Name x pos) (gN i) :=
  PG.imp (pg_name (i := i) hN hi hx hf) fun v σ H Q ⟨A, w, d, Q0, R0, r, q, k⟩ => by
    have so : SetOnly [i] σ (σ.set i (some v)) := ⟨by simp, fun j hj => by
      rw [List.getElem?_set_ne]; intro z; exact hj (by simp [z])⟩
    unfold gN at q
    split at q
    · rename_i e
      exact k _ q _ _ (R0.setP e rfl r) so (GLe.refl _)
    · rename_i e
      exact k _ q _ _ (R0.setP e rfl r) so (GLe.refl _)
    · exact q.elim
def gsNil : List D → W → (W → Prop) → Prop := fun ds w Q => match ds with
  | [] => Q w
  | _ => False
def gsCons (t : TGw) (u : List D → W → (W → Prop) → Prop) : List D → W → (W → Prop) → Prop := fun ds w Q => match ds with
  | d :: r => t d w fun w1 => u r w1 Q
  | [] => False
theorem SetOnly.refl (σ : L2.St) : SetOnly [] σ σ := ⟨rfl, fun _ _ => rfl⟩
theorem SetOnly.trans {is js : List Nat} {σ σ1 σ2 : L2.St} (a : SetOnly is σ σ1) (b : SetOnly js σ1 σ2) : SetOnly (is ++ js) σ σ2 :=
  ⟨b.1.trans a.1, fun j hj => (b.2 j fun z => hj (List.mem_append_right _ z)).trans (a.2 j fun z => hj (List.mem_append_left _ z))⟩
theorem gs_nil : PGsW X g [] [] gsNil := PGs.imp pgs_nil fun vs σ H Q ⟨A, w, ds, Q0, R0, r, q, k⟩ => by
  unfold gsNil at q
  split at q
  · cases r
    exact ⟨rfl, k _ q _ _ R0 (SetOnly.refl _) (GLe.refl _)⟩
  · exact q.elim
theorem gs_cons {is js : List Nat} {e : Expr} {es : List Expr} {t : TGw} {u : List D → W → (W → Prop) → Prop} (h1 : PGW X g is e t) (h2 : PGsW X g js es u) (hs : ((assignEach (e :: es) X.env).map (·.2)) = assign e X.env :: (assignEach es X.env).map (·.2) := by rfl) : PGsW X g (is ++ js) (e :: es) (gsCons t u) :=
  PGs.imp (pgs_cons h1 h2 hs) fun vs σ H Q ⟨A, w, ds, Q0, R0, r, q, k⟩ => by
    unfold gsCons at q
    split at q
    · cases r with
      | cons h t =>
        exact ⟨_, _, rfl, A, w, _, _, R0, h, q, fun w1 q1 σ1 H1 R1 so1 l1 => ⟨A, w1, _, _, R1, t.mono l1, q1, fun w2 q2 σ2 H2 R2 so2 l2 => k _ q2 _ _ R2 (so1.trans so2) (l1.trans l2)⟩⟩
    · exact q.elim
def gTupW (n : Nat) (t : List D → W → (W → Prop) → Prop) : TGw := fun d w Q => match d with
  | .tup xs => xs.length = n ∧ t xs w Q
  | _ => False
end

section
variable {X : Cx} {g : G0} {K : PySem.W.Frag} {EX : EXV}
/-! ### what is walked -/
def itV : D → Option (List D)
  | .lst xs => some xs
  | .tup xs => some xs
  | _ => none
def iSeq (K : PySem.W.Frag) (t : TE) : TI := fun σ H R => t σ H fun x H1 => ∃ a, x = .ref a ∧ (((∃ xs, SqL K H1 a xs) ∧ R (Itl K a) H1) ∨ ((∃ xs, SqT K H1 a xs) ∧ R (Itt K a) H1))
theorem pi_seq {tg l : Expr} {t : TE} (hl : PE X l t) : PI X tg l (iSeq X.K t) := by
  refine ⟨fun pins s σ H R I h => ?_⟩
  refine thn (hl.run pins s σ H _ I h) fun v s1 ⟨x, H1, I1, r1, q1⟩ => ?_
  obtain ⟨a, e, q⟩ := q1
  subst e
  cases r1
  rcases q with ⟨⟨xs, hq⟩, q⟩ | ⟨⟨xs, hq⟩, q⟩
  · obtain ⟨its, rv, p, hz⟩ := I1.list hq
    refine wpAny_pyIter_list p.isList ?_
    refine ⟨s1.heap.objs.size, [s1.heap.objs.size], _, _, H1, rfl, I1.kept (t' := s1.toks) fun b o e => Heap.get?_push_of_some _ e, turn_list a _, ⟨_, Heap.get?_push_size _ rfl, rfl, rfl⟩, fun b hb => ?_, q⟩
    have e : b = s1.heap.objs.size := by simpa using hb
    subst e
    exact I1.fpOk (Nat.le_refl _) (I1.hok.fresh (Nat.le_refl _))
  · obtain ⟨its, rv, p, hz⟩ := I1.tuple hq
    refine wpAny_pyIter_tuple (show s1.heap.IsTuple a its.toArray from p) ?_
    refine ⟨s1.heap.objs.size, [s1.heap.objs.size], _, _, H1, rfl, I1.kept (t' := s1.toks) fun b o e => Heap.get?_push_of_some _ e, turn_tuple a _, ⟨_, Heap.get?_push_size _ rfl, rfl, rfl⟩, fun b hb => ?_, q⟩
    have e : b = s1.heap.objs.size := by simpa using hb
    subst e
    exact I1.fpOk (Nat.le_refl _) (I1.hok.fresh (Nat.le_refl _))
/-- a walk J over data: it yields the items xs wherever all of G is seen -/
structure Walk (K : PySem.W.Frag) (G : Hp) (J : It) (xs : List D) : Prop where
  stop : ∀ H i, GLe G H → xs.length ≤ i → J.stop i H
  go : ∀ H i d, GLe G H → xs[i]? = some d → J.go i H ∧ ∀ x H', J.yld i H x H' → H' = H ∧ Rep K G d x
theorem walk_list {G : Hp} {a : Addr} {vs : List V} {xs : List D} (e : G a = some (.lst vs)) (r : Reps K G xs vs) : Walk K G (Itl K a) xs where
  stop := fun H i l hi => ⟨vs, .inl (.inl (l _ _ e)), by rw [← r.length]; exact hi⟩
  go := fun H i d l hd => by
    obtain ⟨v, hv, rv⟩ := r.get hd
    have hq : SqL K H a vs := .inl (.inl (l _ _ e))
    refine ⟨⟨vs, v, hq, hv⟩, fun x H' ⟨eH, y⟩ => ?_⟩
    have := y vs hq
    rw [hv] at this
    cases this
    exact ⟨eH, rv⟩
theorem walk_tup {G : Hp} {a : Addr} {vs : List V} {xs : List D} (e : SqT K G a vs) (r : Reps K G xs vs) : Walk K G (Itt K a) xs where
  stop := fun H i l hi => ⟨vs, l.sqT e, by rw [← r.length]; exact hi⟩
  go := fun H i d l hd => by
    obtain ⟨v, hv, rv⟩ := r.get hd
    have hq : SqT K H a vs := l.sqT e
    refine ⟨⟨vs, v, hq, hv⟩, fun x H' ⟨eH, y⟩ => ?_⟩
    have := y vs hq
    rw [hv] at this
    cases this
    exact ⟨eH, rv⟩
/-- lo, lo + 1, .. as data -/
def rangeD (lo : Int) (n : Nat) : List D := (List.range n).map fun (i : Nat) => .int (lo + (i : Int))
theorem walk_range {G : Hp} {lo : Int} {n : Nat} : Walk K G (Itr lo n) (rangeD lo n) where
  stop := fun H i _ hi => show n ≤ i by simpa [rangeD] using hi
  go := fun H i d _ hd => by
    have hi : i < n := by
      have := (List.getElem?_eq_some_iff.mp hd).1
      simpa [rangeD] using this
    refine ⟨hi, fun x H' ⟨eH, y⟩ => ⟨eH, ?_⟩⟩
    subst y
    have : d = .int (lo + i) := by
      simp [rangeD, hi] at hd
      exact hd.symm
    subst this
    exact .int _
/-- what a for or a comprehension walks: its items -/
abbrev TIw := W → (List D → W → Prop) → Prop
def upI (K : PySem.W.Frag) (g : G0) (t : TIw) : TI := fun σ H R => ∃ A w Q0, Rel (gmK K g) [] A w σ H ∧ t w Q0 ∧
  ∀ xs w', Q0 xs w' → ∀ J H', Rel (gmK K g) [] A w' σ H' → Walk K (vis g A H') J xs → GLe (vis g A H) (vis g A H') → R J H'
abbrev PIW (X : Cx) (g : G0) (tg iter : Expr) (t : TIw) : Prop := PI X tg iter (upI X.K g t)
theorem PI.imp {tg iter : Expr} {t t' : TI} (h : PI X tg iter t) (k : ∀ σ H R, t' σ H R → t σ H R) : PI X tg iter t' := ⟨fun pins s σ H R I q => h.run pins s σ H R I (k σ H R q)⟩
def iOf (t : TW) : TIw := fun w Q => t w fun e w1 => match e with
  | .d (.lst xs) => Q xs w1
  | .d (.tup xs) => Q xs w1
  | _ => False
theorem i_seq {tg l : Expr} {t : TW} (hl : PEW X g l t) : PIW X g tg l (iOf t) :=
  PI.imp (pi_seq hl) fun σ H R ⟨A, w, Q0, R0, q, k⟩ => ⟨A, w, _, R0, q, fun e w1 q1 v H1 R1 r1 l1 => by
    split at q1
    · cases r1 with
      | lst h r => exact ⟨_, rfl, .inl ⟨⟨_, .inl (.inl (hid_le _ _ h))⟩, k _ _ q1 _ _ R1 (walk_list h r) l1⟩⟩
    · cases r1 with
      | tup h r => exact ⟨_, rfl, .inr ⟨⟨_, hid_le.sqT h⟩, k _ _ q1 _ _ R1 (walk_tup h r) l1⟩⟩
    · exact q1.elim⟩
def iRange1 (ta : TWa) : TIw := fun w Q => ta w fun xs w1 => match xs with
  | [.d (.int j)] => -(2 ^ 62) ≤ j ∧ j < 2 ^ 62 ∧ Q (rangeD 0 j.toNat) w1
  | _ => False
def iRange2 (ta : TWa) : TIw := fun w Q => ta w fun xs w1 => match xs with
  | [.d (.int i), .d (.int j)] => (-(2 ^ 62) ≤ i ∧ i < 2 ^ 62 ∧ -(2 ^ 62) ≤ j ∧ j < 2 ^ 62) ∧ Q (rangeD i (j - i).toNat) w1
  | _ => False
theorem i_range1 {tg a : Expr} {ta : TWa} {p pos : Pos} (hg : Gl X "range") (hm : X.mg "range" = none) (ha : PAW X g [a] ta) (hs : starEach [a] X.env = [(false, eval a X.env)] := by rfl) : PIW X g tg (.Call (.Name "range" p) [a] [] pos) (iRange1 ta) :=
  PI.imp (pi_range1 hg hm ha hs) fun σ H R ⟨A, w, Q0, R0, q, k⟩ => ⟨A, w, _, R0, q, fun xs w1 q1 vs H1 R1 r1 l1 => by
    split at q1
    · obtain ⟨v, rfl, rx⟩ := r1.one
      cases rx
      exact ⟨_, rfl, q1.1, q1.2.1, k _ _ q1.2.2 _ _ R1 walk_range l1⟩
    · exact q1.elim⟩
theorem i_range2 {tg a b : Expr} {ta : TWa} {p pos : Pos} (hg : Gl X "range") (hm : X.mg "range" = none) (ha : PAW X g [a, b] ta) (hs : starEach [a, b] X.env = [(false, eval a X.env), (false, eval b X.env)] := by rfl) (hs2 : starEach [b] X.env = [(false, eval b X.env)] := by rfl) : PIW X g tg (.Call (.Name "range" p) [a, b] [] pos) (iRange2 ta) :=
  PI.imp (pi_range2 hg hm ha hs hs2) fun σ H R ⟨A, w, Q0, R0, q, k⟩ => ⟨A, w, _, R0, q, fun xs w1 q1 vs H1 R1 r1 l1 => by
    split at q1
    · obtain ⟨v, u, rfl, rx, ry⟩ := r1.two
      cases rx; cases ry
      exact ⟨_, _, rfl, q1.1, k _ _ q1.2 _ _ R1 walk_range l1⟩
    · exact q1.elim⟩

/-! ### for -/
def forW (gt : TGw) (body : SW) : List D → En → W → Prop
  | [], E, w => E.nx w
  | x :: r, E, w => gt x w fun w1 => body { E with nx := forW gt body r E, ct := forW gt body r E, bk := E.nx } w1
def sFor (ti : TIw) (gt : TGw) (body : SW) : SW := fun E w => ti w fun xs w1 => forW gt body xs E w1
theorem s_for {tg iter : Expr} {body : List Stmt} {ti : TIw} {is : List Nat} {gt : TGw} {tb : SW} {pos : Pos} (hp : PassesOwn (model X.prog X.w) X.A X.env X.xe) (hc : X.calm = true) (hi : PIW X g tg iter ti) (hg : PGW X g is tg gt) (hb : PSsW X g EX body tb)
    (hs : ∀ x, foldedSetIterable iter X.env x = pure x := by intro _; rfl) : PSW X g EX (.For tg iter body [] pos) (sFor ti gt tb) :=
  PS.imp (ps_for hp hc hi hg hb hs) fun D σ H ⟨A, w, E0, R0, q, k⟩ => ⟨A, w, _, R0, q, fun xs w1 q1 J H1 R1 wk l1 => by
    have kk := k.comp l1
    refine ⟨fun i m σ2 H2 => m = xs.length - i ∧ i ≤ xs.length ∧ ∃ A2 w2, Rel (gmK X.K g) [] A2 w2 σ2 H2 ∧ GLe (vis g A H1) (vis g A2 H2) ∧ forW gt tb (xs.drop i) E0 w2, ⟨xs.length, by simp, Nat.zero_le _, A, w1, R1, GLe.refl _, by simpa using q1⟩, ?_⟩
    rintro i m σ2 H2 ⟨rfl, hi, A2, w2, R2, l2, q2⟩
    by_cases hlt : i < xs.length
    · obtain ⟨g1, g2⟩ := wk.go H2 i xs[i] (l2.trans hid_le) (by simp [hlt])
      rw [List.drop_eq_getElem_cons hlt] at q2
      refine .inr ⟨g1, fun σ3 H3 => ∃ A3 w3, Rel (gmK X.K g) [] A3 w3 σ3 H3 ∧ GLe (vis g A H1) (vis g A3 H3) ∧ forW gt tb (xs.drop (i + 1)) E0 w3, fun σ3 H3 ⟨A3, w3, R3, l3, q3⟩ => ⟨xs.length - (i + 1), by omega, rfl, hlt, A3, w3, R3, l3, q3⟩, fun x H3 y => ?_⟩
      obtain ⟨e, rx⟩ := g2 x H3 y
      subst e
      refine ⟨A2, w2, _, _, R2, rx.mono l2, q2, fun w4 q4 σ4 H4 R4 so l4 => ⟨A2, w4, _, R4, q4, ⟨?_, ?_, ?_, kk.rt, kk.ex⟩⟩⟩
      · exact fun w5 q5 A5 σ5 H5 R5 l5 => ⟨A5, w5, R5, (l2.trans l4).trans l5, q5⟩
      · exact fun w5 q5 A5 σ5 H5 R5 l5 => kk.nx _ q5 _ _ _ R5 ((l2.trans l4).trans l5)
      · exact fun w5 q5 A5 σ5 H5 R5 l5 => ⟨A5, w5, R5, (l2.trans l4).trans l5, q5⟩
    · have e : i = xs.length := by omega
      subst e
      rw [List.drop_length] at q2
      exact .inl ⟨wk.stop H2 _ (l2.trans hid_le) (Nat.le_refl _), kk.nx _ q2 _ _ _ R2 l2⟩⟩

/-! ### comprehensions -/
def wipeW (w : W) : List Nat → W
  | [] => w
  | v :: vs => (wipeW w vs).set v .un
/-- the block's own names hold no list of their own -/
def okWipe (w : W) (vs : List Nat) : Prop := ∀ v ∈ vs, ∃ l, w[v]? = some l ∧ plainL l = true
theorem wipe_ok {A : List Addr} {w : W} {σ : L2.St} {H : Hp} (R0 : Rel (gmK K g) [] A w σ H) : ∀ {vs : List Nat}, okWipe w vs → Rel (gmK K g) [] A (wipeW w vs) (wipe σ vs) H ∧ ∀ v : Nat, (∃ l, w[v]? = some l ∧ plainL l = true) → ∃ l, (wipeW w vs)[v]? = some l ∧ plainL l = true
  | [], _ => ⟨R0, fun _ h => h⟩
  | v :: vs, h => by
    obtain ⟨R1, f⟩ := wipe_ok R0 (vs := vs) fun u hu => h u (List.mem_cons_of_mem _ hu)
    obtain ⟨l, e, p⟩ := f v (h v (List.mem_cons_self ..))
    refine ⟨R1.unP e p, fun u hu => ?_⟩
    by_cases z : v = u
    · subst z
      have hlt := (List.getElem?_eq_some_iff.mp e).1
      exact ⟨.un, by unfold wipeW; rw [List.getElem?_set_self hlt], rfl⟩
    · obtain ⟨l2, e2, p2⟩ := f u hu
      exact ⟨l2, by unfold wipeW; rw [List.getElem?_set_ne z]; exact e2, p2⟩
theorem wipe_get (σ : L2.St) : ∀ (vs : List Nat) (j : Nat), (wipe σ vs)[j]? = if j ∈ vs then (σ[j]?).map (fun _ => none) else σ[j]?
  | [], j => by simp [wipe]
  | v :: vs, j => by
    unfold wipe
    by_cases z : v = j
    · subst z
      rw [if_pos (by simp), List.getElem?_set]
      simp only [if_true]
      rw [wipe_length]
      by_cases h : v < σ.length
      · simp [h]
      · simp [h]
    · rw [List.getElem?_set_ne z, wipe_get σ vs j]
      by_cases y : j ∈ vs
      · rw [if_pos y, if_pos (by simp [y])]
      · rw [if_neg y, if_neg (by simp [y]; exact fun e => z e.symm)]
theorem wipe_only {σ σ' : L2.St} {is vs : List Nat} (so : SetOnly is σ σ') (sub : ∀ i ∈ is, i ∈ vs) : wipe σ' vs = wipe σ vs := by
  refine List.ext_getElem? fun j => ?_
  rw [wipe_get, wipe_get]
  by_cases h : j ∈ vs
  · rw [if_pos h, if_pos h]
    by_cases hj : j < σ.length
    · simp [List.getElem?_eq_getElem hj, List.getElem?_eq_getElem (show j < σ'.length by rw [so.1]; exact hj)]
    · have e1 := so.1
      rw [List.getElem?_eq_none (show σ.length ≤ j by omega), List.getElem?_eq_none (show σ'.length ≤ j by omega)]
  · rw [if_neg h, if_neg h]
    exact so.2 j fun z => h (sub j z)
theorem wipe_wipe (σ : L2.St) (vs : List Nat) : wipe (wipe σ vs) vs = wipe σ vs := by
  refine List.ext_getElem? fun j => ?_
  rw [wipe_get, wipe_get]
  split
  · cases σ[j]? <;> rfl
  · rfl
theorem wipeW_length (w : W) : ∀ vs : List Nat, (wipeW w vs).length = w.length
  | [] => rfl
  | v :: vs => by unfold wipeW; rw [List.length_set, wipeW_length w vs]
theorem wipeW_out {w : W} {j : Nat} : ∀ {vs : List Nat}, j ∉ vs → (wipeW w vs)[j]? = w[j]?
  | [], _ => rfl
  | v :: vs, h => by
    simp only [List.mem_cons, not_or] at h
    unfold wipeW
    rw [List.getElem?_set_ne (fun z => h.1 z.symm), wipeW_out h.2]
theorem wipeW_plain {w : W} {v : Nat} : ∀ {vs : List Nat}, (∃ l, w[v]? = some l ∧ plainL l = true) → ∃ l, (wipeW w vs)[v]? = some l ∧ plainL l = true
  | [], h => h
  | u :: us, h => by
    obtain ⟨l, e, p⟩ := wipeW_plain (vs := us) h
    by_cases z : u = v
    · subst z
      have hlt := (List.getElem?_eq_some_iff.mp e).1
      exact ⟨.un, by unfold wipeW; rw [List.getElem?_set_self hlt], rfl⟩
    · exact ⟨l, by unfold wipeW; rw [List.getElem?_set_ne z]; exact e, p⟩
theorem slots_mix {s0 : S0} {H H1 G G1 : Hp} (lG : GLe G G1) : ∀ {w : W} {σ : L2.St} {A' : List Addr} {w2 : W} {σ2 : L2.St} {A2 : List Addr}, Slots K s0 H G w σ A' → Slots K s0 H1 G1 w2 σ2 A2 → w2.length = w.length → σ2.length = σ.length →
    (∀ j : Nat, (w2[j]? = w[j]? ∧ σ2[j]? = σ[j]?) ∨ ((∃ l, w[j]? = some l ∧ plainL l = true) ∧ ∃ l, w2[j]? = some l ∧ plainL l = true)) → Slots K s0 H1 G1 w σ A2 := by
  intro w
  induction w with
  | nil =>
    intro σ A' w2 σ2 A2 h1 h2 e1 e2 f
    cases h1
    cases w2 with
    | nil => cases h2; exact .nil
    | cons _ _ => simp at e1
  | cons l w ih =>
    intro σ A' w2 σ2 A2 h1 h2 e1 e2 f
    cases w2 with
    | nil => simp at e1
    | cons l2 w2 =>
      cases h1 with
      | cons s1 t1 =>
        cases h2 with
        | cons s2 t2 =>
          have ft := ih t1 t2 (by simpa using e1) (by simpa using e2) (fun j => by simpa using f (j + 1))
          refine .cons ?_ ft
          rcases f 0 with ⟨a, b⟩ | ⟨⟨y, a, p⟩, y2, b, p2⟩
          · simp at a b
            subst a b
            exact s2
          · simp at a b
            subst a b
            cases s2 <;> first | (simp [plainL] at p2; done) | skip
            all_goals (cases s1 <;> first | (simp [plainL] at p; done) | exact .un _ | exact .v (Rep.mono lG (by assumption)))
theorem slots_back {s0 : S0} {H H1 G G1 : Hp} {w : W} {σ : L2.St} {A' A2 : List Addr} {vs : List Nat} (lG : GLe G G1) (h1 : Slots K s0 H G w σ A') (h2 : Slots K s0 H1 G1 (wipeW w vs) (wipe σ vs) A2) (ok : okWipe w vs) : Slots K s0 H1 G1 w σ A2 := by
  refine slots_mix lG h1 h2 (wipeW_length _ _) (wipe_length σ vs) fun j => ?_
  by_cases h : j ∈ vs
  · exact .inr ⟨ok j h, wipeW_plain (ok j h)⟩
  · exact .inl ⟨wipeW_out h, by rw [wipe_get, if_neg h]⟩
theorem wipeW_only {w : W} {i : Nat} {d : L} {vs : List Nat} (h : i ∈ vs) : wipeW (w.set i d) vs = wipeW w vs := by
  have get : ∀ (w : W) (vs : List Nat) (j : Nat), (wipeW w vs)[j]? = if j ∈ vs then (w[j]?).map (fun _ => L.un) else w[j]? := by
    intro w vs
    induction vs with
    | nil => intro j; simp [wipeW]
    | cons v vs ih =>
      intro j
      unfold wipeW
      have wl : ∀ vs : List Nat, (wipeW w vs).length = w.length := fun vs => by
        induction vs with
        | nil => rfl
        | cons v vs ih => unfold wipeW; rw [List.length_set, ih]
      by_cases z : v = j
      · subst z
        rw [if_pos (by simp), List.getElem?_set]
        simp only [if_true]
        rw [wl]
        by_cases h : v < w.length
        · simp [h]
        · simp [h]
      · rw [List.getElem?_set_ne z, ih j]
        by_cases y : j ∈ vs
        · rw [if_pos y, if_pos (by simp [y])]
        · rw [if_neg y, if_neg (by simp [y]; exact fun e => z e.symm)]
  refine List.ext_getElem? fun j => ?_
  rw [get, get]
  by_cases hj : j ∈ vs
  · rw [if_pos hj, if_pos hj]
    by_cases z : i = j
    · subst z
      rw [List.getElem?_set]
      simp only [if_true]
      by_cases hl : i < w.length
      · simp [hl]
      · simp [hl]
    · rw [List.getElem?_set_ne z]
  · rw [if_neg hj, if_neg hj, List.getElem?_set_ne (fun z => hj (by rw [← z]; exact h))]

abbrev PTsW (X : Cx) (g : G0) (ifs : List Expr) (t : TWt) : Prop := PTs X ifs (upT X.K g t)
theorem PTs.imp {ifs : List Expr} {t t' : TT} (h : PTs X ifs t) (k : ∀ σ H Q, t' σ H Q → t σ H Q) : PTs X ifs t' := ⟨fun pins s σ H Q I q => h.run pins s σ H Q I (k σ H Q q)⟩
def tYesW : TWt := fun w Q => Q true w
theorem ts_nil : PTsW X g [] tYesW := PTs.imp pts_nil fun σ H Q ⟨A, w, Q0, R0, q, k⟩ => k _ _ q _ R0 (GLe.refl _)
theorem ts_one {c : Expr} {t : TWt} (h : PTW X g c t) : PTsW X g [c] t := pts_one h
/-- the turns of a comprehension: w is what the block begins each turn with -/
def lcW (gt : TGw) (tt : TWt) (te : TW) (w : W) : List D → List D → (List D → Prop) → Prop
  | [], acc, Q => Q acc
  | x :: r, acc, Q => gt x w fun w1 => tt w1 fun b w2 => w2 = w1 ∧ if b = true then te w1 fun e w3 => w3 = w1 ∧ match e with
      | .d d => acc.length < sizeLine ∧ lcW gt tt te w r (acc ++ [d]) Q
      | _ => False
    else lcW gt tt te w r acc Q
/-- [elt for target in iter if ..]: vs the block's own slots -/
def fLc (ti : TIw) (gt : TGw) (tt : TWt) (te : TW) (vs : List Nat) : TWn := fun w Q => ti w fun xs w1 => okWipe w1 vs ∧ lcW gt tt te (wipeW w1 vs) xs [] fun ys => Q ys w1
/-- the surroundings within the block: its list, as it stands, is hidden, too -/
abbrev G0.blkO (g : G0) (D : Addr) (o : HO) : G0 := ⟨upd g.He D o, D :: g.O, g.s0⟩
abbrev G0.blk (g : G0) (D : Addr) (vs : List V) : G0 := g.blkO D (.lst vs)
theorem hid_blk {A : List Addr} {H : Hp} {D : Addr} : hid H ([] ++ A ++ (D :: g.O)) = hid H ([D] ++ A ++ g.O) := by
  have iff : ∀ b, b ∈ [] ++ A ++ (D :: g.O) ↔ b ∈ [D] ++ A ++ g.O := fun b => by
    simp only [List.nil_append, List.mem_append, List.mem_cons, List.not_mem_nil, or_false]
    constructor
    · rintro (h | h | h) <;> simp [h]
    · rintro ((h | h) | h) <;> simp [h]
  funext b
  by_cases h : b ∈ [D] ++ A ++ g.O
  · rw [hid_in h, hid_in ((iff b).mpr h)]
  · rw [hid_out h, hid_out fun z => h ((iff b).mp z)]
theorem StB.upd {K : PySem.W.Frag} {He : Hp} {D c : Addr} {o : HO} (eD : He D = none) (h : StB K He c) : StB K (upd He D o) c := by
  have g : GLe He (L2.upd He D o) := fun b o' e => by
    show L2.upd He D o b = some o'
    rw [upd_ne (fun z => by rw [z, eD] at e; cases e)]
    exact e
  obtain ⟨cs, hc⟩ := h
  exact ⟨cs, g.sqL hc⟩
theorem Rel.enter {A : List Addr} {w : W} {σ : L2.St} {H : Hp} {D : Addr} {ob : HO} (R0 : Rel (gmK K g) [D] A w σ H) (e : H D = some ob) : Rel (gmK K (g.blkO D ob)) [] A w σ H where
  slots := by
    have z := R0.slots
    have e1 : hid H ([] ++ A ++ (gmK K (g.blkO D ob)).O) = hid H ([D] ++ A ++ (gmK K g).O) := hid_blk
    rw [e1]
    exact z
  nd := by have := R0.nd; simp at this ⊢; exact this.2
  own := fun a ha => by
    have ha' : a ∈ A := by simpa using ha
    obtain ⟨n, e, q⟩ := R0.own a (by simp [ha'])
    have nd := R0.nd
    simp at nd
    have naD : a ≠ D := fun z => nd.1 (z ▸ ha')
    refine ⟨fun z => ?_, (upd_ne naD).trans e, q⟩
    rcases List.mem_cons.mp z with y | y
    · exact naD y
    · exact n y
  since := fun b o eb n => by
    have eb' : L2.upd g.He D ob b = some o := eb
    by_cases z : b = D
    · subst z
      rw [upd_same] at eb'
      cases eb'
      exact e
    · rw [upd_ne z] at eb'
      exact R0.since b o eb' n
  alloc := fun b hb => by
    rcases List.mem_cons.mp hb with y | y
    · rw [y, e]; exact fun z => nomatch z
    · exact R0.alloc b y
  st := ⟨fun s c e => List.mem_cons_of_mem _ (R0.st.mem s c e), fun P hP => List.mem_cons_of_mem _ (R0.st.memT P hP), R0.st.fre, R0.st.stT, fun s c e => (R0.st.cells s c e).upd (R0.own D (by simp)).2.1, R0.st.cont⟩
/-- what the block's list stands apart from -/
structure BlkD (K : PySem.W.Frag) (g : G0) (D : Addr) : Prop where
  none : g.He D = none
  out : D ∉ g.O
  mem : ∀ s c, g.s0.st = some (s, c) → s ∈ g.O
  memT : ∀ P ∈ g.s0.tb, P ∈ g.O
  cells : ∀ s c, g.s0.st = some (s, c) → StB K g.He c
theorem BlkD.free {D : Addr} (h : BlkD K g D) : Fr0 g.s0 D := ⟨fun s c e z => h.out (by rw [z]; exact h.mem s c e), fun z => h.out (h.memT D z)⟩
/-- the list at D grows -/
theorem Rel.grow {A : List Addr} {w : W} {σ : L2.St} {H : Hp} {D : Addr} {ob ob' : HO} (R0 : Rel (gmK K (g.blkO D ob)) [] A w σ H) (B : BlkD K g D) : Rel (gmK K (g.blkO D ob')) [] A w σ (upd H D ob') := by
  have nA : D ∉ A := fun z => (R0.own D (by simpa using z)).1 (List.mem_cons_self ..)
  refine ⟨?_, R0.nd, fun a ha => ?_, fun b o eb n => ?_, fun b hb' => ?_, ⟨R0.st.mem, R0.st.memT, R0.st.fre, R0.st.stT, fun s c e => (B.cells s c e).upd B.none, R0.st.cont.upd B.free⟩⟩
  · have e1 : hid (upd H D ob') ([] ++ A ++ (gmK K (g.blkO D ob')).O) = hid H ([] ++ A ++ (gmK K (g.blkO D ob)).O) := hid_upd (by simp)
    rw [e1]
    exact R0.slots.mono (GLe.refl _) fun a ha => upd_ne fun z => nA (z ▸ ha)
  · obtain ⟨n, e, q⟩ := R0.own a ha
    have naD : a ≠ D := fun z => nA (by rw [← z]; simpa using ha)
    have e' : L2.upd g.He D ob a = none := e
    rw [upd_ne naD] at e'
    exact ⟨n, (upd_ne naD).trans e', by rw [upd_ne naD]; exact q⟩
  · have eb' : L2.upd g.He D ob' b = some o := eb
    by_cases z : b = D
    · subst z
      rw [upd_same] at eb' ⊢
      exact eb'
    · rw [upd_ne z] at eb' ⊢
      exact R0.since b o ((upd_ne z).trans eb') n
  · by_cases z : b = D
    · rw [z, upd_same]; exact fun y => nomatch y
    · rw [upd_ne z]; exact R0.alloc b hb'
theorem Rel.leave {A : List Addr} {w w0 : W} {σ σ0 : L2.St} {H : Hp} {D : Addr} {ob : HO} (R0 : Rel (gmK K (g.blkO D ob)) [] A w σ H) (B : BlkD K g D)
    (sl : Slots K g.s0 H (hid H ([D] ++ A ++ g.O)) w σ A → Slots K g.s0 H (hid H ([D] ++ A ++ g.O)) w0 σ0 A) : Rel (gmK K g) [D] A w0 σ0 H where
  slots := by
    have z := R0.slots
    have e1 : hid H ([] ++ A ++ (gmK K (g.blkO D ob)).O) = hid H ([D] ++ A ++ (gmK K g).O) := hid_blk
    rw [e1] at z
    exact sl z
  nd := by
    have := R0.nd
    simp at this ⊢
    refine ⟨fun z => ?_, this⟩
    have := (R0.own D (by simpa using z)).1
    exact this (List.mem_cons_self ..)
  own := fun a ha => by
    rcases List.mem_append.mp ha with y | y
    · have y' : a = D := by simpa using y
      rw [y']
      exact ⟨B.out, B.none, R0.alloc D (List.mem_cons_self ..)⟩
    · obtain ⟨n, e, q⟩ := R0.own a (by simpa using y)
      have naD : a ≠ D := fun z => n (by rw [z]; exact List.mem_cons_self ..)
      have e' : L2.upd g.He D ob a = none := e
      rw [upd_ne naD] at e'
      exact ⟨fun z => n (List.mem_cons_of_mem _ z), e', q⟩
  since := fun b o eb n => R0.since b o (by
    have naD : b ≠ D := fun z => by
      have eb' : g.He b = some o := eb
      rw [z, B.none] at eb'
      cases eb'
    exact (upd_ne naD).trans eb) n
  alloc := fun b hb => R0.alloc b (List.mem_cons_of_mem _ hb)
  st := ⟨B.mem, B.memT, R0.st.fre, R0.st.stT, B.cells, R0.st.cont⟩
theorem gN_only {i : Nat} {d : D} {w : W} {Q : W → Prop} (h : gN i d w Q) : ∃ l, w[i]? = some l ∧ plainL l = true ∧ Q (w.set i (.v d)) := by
  unfold gN at h
  split at h
  · rename_i e; exact ⟨_, e, rfl, h⟩
  · rename_i e; exact ⟨_, e, rfl, h⟩
  · exact h.elim
/-- a target that changes the slots vs alone -/
def GOnly (gt : TGw) (vs : List Nat) : Prop := ∀ d w Q, okWipe w vs → gt d w Q → gt d w fun w1 => Q w1 ∧ wipeW w1 vs = wipeW w vs ∧ okWipe w1 vs
theorem okWipe_set {w : W} {vs : List Nat} {i : Nat} {d : D} (ok : okWipe w vs) : okWipe (w.set i (.v d)) vs := fun v hv => by
  obtain ⟨l, e, p⟩ := ok v hv
  by_cases z : i = v
  · subst z
    have hlt := (List.getElem?_eq_some_iff.mp e).1
    exact ⟨.v d, by rw [List.getElem?_set_self hlt], rfl⟩
  · exact ⟨l, by rw [List.getElem?_set_ne z]; exact e, p⟩
theorem only_name {i : Nat} {vs : List Nat} (h : i ∈ vs) : GOnly (gN i) vs := fun d w Q ok q => by
  unfold gN at q ⊢
  cases e : w[i]? with
  | none => rw [e] at q; exact q.elim
  | some l =>
    rw [e] at q
    cases l <;> first | exact ⟨q, wipeW_only h, okWipe_set ok⟩ | exact q.elim
def GsOnly (gt : List D → W → (W → Prop) → Prop) (vs : List Nat) : Prop := ∀ d w Q, okWipe w vs → gt d w Q → gt d w fun w1 => Q w1 ∧ wipeW w1 vs = wipeW w vs ∧ okWipe w1 vs
def MonoG (gt : TGw) : Prop := ∀ d w Q Q', (∀ w1, Q w1 → Q' w1) → gt d w Q → gt d w Q'
def MonoGs (gt : List D → W → (W → Prop) → Prop) : Prop := ∀ d w Q Q', (∀ w1, Q w1 → Q' w1) → gt d w Q → gt d w Q'
theorem mono_name {i : Nat} : MonoG (gN i) := fun d w Q Q' k q => by
  unfold gN at q ⊢
  split at q <;> first | exact k _ q | exact q.elim
theorem mono_nil : MonoGs gsNil := fun d w Q Q' k q => by
  unfold gsNil at q ⊢
  split at q
  · exact k _ q
  · exact q.elim
theorem mono_cons {t : TGw} {u : List D → W → (W → Prop) → Prop} (h1 : MonoG t) (h2 : MonoGs u) : MonoGs (gsCons t u) := fun d w Q Q' k q => by
  unfold gsCons at q ⊢
  split at q
  · exact h1 _ _ _ _ (fun w1 q1 => h2 _ _ _ _ k q1) q
  · exact q.elim
theorem mono_tup {n : Nat} {t : List D → W → (W → Prop) → Prop} (h : MonoGs t) : MonoG (gTupW n t) := fun d w Q Q' k q => by
  unfold gTupW at q ⊢
  split at q
  · exact ⟨q.1, h _ _ _ _ k q.2⟩
  · exact q.elim
theorem only_nil {vs : List Nat} : GsOnly gsNil vs := fun d w Q ok q => by
  unfold gsNil at q ⊢
  split at q
  · exact ⟨q, rfl, ok⟩
  · exact q.elim
theorem only_cons {t : TGw} {u : List D → W → (W → Prop) → Prop} {vs : List Nat} (m1 : MonoG t) (m2 : MonoGs u) (h1 : GOnly t vs) (h2 : GsOnly u vs) : GsOnly (gsCons t u) vs := fun d w Q ok q => by
  unfold gsCons at q ⊢
  split at q
  · refine m1 _ _ _ _ (fun w1 ⟨q1, e1, ok1⟩ => ?_) (h1 _ _ _ ok q)
    refine m2 _ _ _ _ (fun w2 ⟨q2, e2, ok2⟩ => ?_) (h2 _ _ _ ok1 q1)
    exact ⟨q2, e2.trans e1, ok2⟩
  · exact q.elim
theorem only_tup {n : Nat} {t : List D → W → (W → Prop) → Prop} {vs : List Nat} (h : GsOnly t vs) : GOnly (gTupW n t) vs := fun d w Q ok q => by
  unfold gTupW at q ⊢
  split at q
  · exact ⟨q.1, h _ _ _ ok q.2⟩
  · exact q.elim
/-- in whatever surroundings -/
def exE (K : PySem.W.Frag) (g : G0) (t : TW) : TE := fun σ H Q => ∃ D us, up K (g.blk D us) t σ H Q
def exT (K : PySem.W.Frag) (g : G0) (t : TWt) : TT := fun σ H Q => ∃ D us, upT K (g.blk D us) t σ H Q
def exG (K : PySem.W.Frag) (g : G0) (is : List Nat) (t : TGw) : TG := fun v σ H Q => ∃ D us, upG K (g.blk D us) is t v σ H Q
theorem PE.ex {e : Expr} {t : TW} (h : ∀ D us, PEW X (g.blk D us) e t) : PE X e (exE X.K g t) := ⟨fun pins s σ H Q I ⟨D, us, q⟩ => (h D us).run pins s σ H Q I q⟩
theorem PTs.ex {ifs : List Expr} {t : TWt} (h : ∀ D us, PTsW X (g.blk D us) ifs t) : PTs X ifs (exT X.K g t) := ⟨fun pins s σ H Q I ⟨D, us, q⟩ => (h D us).run pins s σ H Q I q⟩
theorem PG.ex {e : Expr} {is : List Nat} {t : TGw} (h : ∀ D us, PGW X (g.blk D us) is e t) : PG X e (exG X.K g is t) := ⟨fun pins s σ H v u Q I r ⟨D, us, q⟩ => (h D us).run pins s σ H v u Q I r q⟩
/-- the turns of a comprehension as the layer asks for them -/
theorem lc_turns {is vs : List Nat} {gt : TGw} {tt : TWt} {te : TW} (sub : ∀ i ∈ is, i ∈ vs) (only : GOnly gt vs) {A : List Addr} {w : W} {σ : L2.St} {H1 : Hp} {xs : List D} {J : It} {Q0 : List D → W → Prop} {Q : VK}
    (R0 : Rel (gmK K g) [] A w σ H1) (wk : Walk K (vis g A H1) J xs) (ok : okWipe w vs) (q : lcW gt tt te (wipeW w vs) xs [] fun ys => Q0 ys w) (k : ThenF K g A σ H1 Q0 Q) (D : Addr) (hD : H1 D = none) :
    ∃ Wv : Nat → Nat → Hp → Prop, (∃ m, Wv 0 m (upd H1 D (.lst []))) ∧ ∀ i m H, Wv i m H →
      (J.stop i H ∧ Q (.ref D) H) ∨ (J.go i H ∧ ∃ Nx : Hp → Prop, (∀ H', Nx H' → ∃ m', m' < m ∧ Wv (i + 1) m' H') ∧ ∀ x H', J.yld i H x H' → exG K g is gt x (wipe σ vs) H' fun σ2 H2 => wipe σ2 vs = wipe σ vs ∧ exT K g tt σ2 H2 fun b H3 =>
        if b = true then exE K g te σ2 H3 fun y H4 => ∃ acc, H4 D = some (.lst acc) ∧ acc.length < sizeLine ∧ Nx (upd H4 D (.lst (acc ++ [y]))) else Nx H3) := by
  obtain ⟨np, eD⟩ := R0.fresh_out hD
  have nD : D ∉ g.O := fun z => np (by simp [z])
  have B : BlkD K g D := ⟨eD, nD, R0.st.mem, R0.st.memT, R0.st.cells⟩
  have Rw := (wipe_ok R0 ok).1
  have okw : okWipe (wipeW w vs) vs := fun v hv => wipeW_plain (ok v hv)
  have ww : wipeW (wipeW w vs) vs = wipeW w vs := by
    have : ∀ us : List Nat, (∀ u ∈ us, u ∈ vs) → wipeW (wipeW w us) vs = wipeW w vs := fun us => by
      induction us with
      | nil => intro _; rfl
      | cons u us ih =>
        intro h
        show wipeW ((wipeW w us).set u .un) vs = _
        rw [wipeW_only (h u (List.mem_cons_self ..)), ih fun y hy => h y (List.mem_cons_of_mem _ hy)]
    exact this vs fun _ h => h
  -- what holds ahead of turn i: ys so far
  let Pv : Nat → Hp → Prop := fun i H => ∃ (ys : List OW.D) (us : List V), Rel (gmK K (g.blk D us)) [] A (wipeW w vs) (wipe σ vs) H ∧ GLe (vis g A H1) (hid H ([D] ++ A ++ g.O)) ∧ lcW gt tt te (wipeW w vs) (xs.drop i) ys (fun ys => Q0 ys w) ∧ H D = some (.lst us) ∧ Reps K (hid H ([D] ++ A ++ g.O)) ys us
  have l0 : GLe (vis g A H1) (hid (upd H1 D (.lst [])) ([D] ++ A ++ g.O)) := by
    intro b o e
    obtain ⟨n, e⟩ := hid_of e
    have nb : b ≠ D := fun z => by rw [z, hD] at e; cases e
    rw [hid_out (by simp at n ⊢; exact ⟨nb, n⟩), upd_ne nb]
    exact e
  refine ⟨fun i m H => m = xs.length - i ∧ i ≤ xs.length ∧ Pv i H, ⟨xs.length, by simp, Nat.zero_le _, [], [], (Rw.newEx hD).enter upd_same, l0, by simpa using q, upd_same, .nil⟩, ?_⟩
  rintro i m H ⟨rfl, hi, ys, us, R2, l2, q2, e2, r2⟩
  by_cases hlt : i < xs.length
  · obtain ⟨g1, g2⟩ := wk.go H i xs[i] (l2.trans hid_le) (by simp [hlt])
    rw [List.drop_eq_getElem_cons hlt] at q2
    refine .inr ⟨g1, Pv (i + 1), fun H' p => ⟨xs.length - (i + 1), by omega, rfl, hlt, p⟩, fun x H3 y => ?_⟩
    obtain ⟨e, rx⟩ := g2 x H3 y
    subst e
    have vb : ∀ H5, vis (g.blk D us) A H5 = hid H5 ([D] ++ A ++ g.O) := fun H5 => hid_blk
    have at_ : ∀ {w5 : W} {σ5 : L2.St} {H5 : Hp}, Rel (gmK K (g.blk D us)) [] A w5 σ5 H5 → H5 D = some (.lst us) := fun {w5 σ5 H5} R5 => R5.since D _ (show L2.upd g.He D (.lst us) D = _ from upd_same) B.free
    refine ⟨D, us, A, wipeW w vs, _, _, R2, by rw [vb]; exact rx.mono l2, only _ _ _ okw q2, fun w4 ⟨q4, ew4, ok4⟩ σ4 H4 R4 so l4 => ?_⟩
    rw [vb, vb] at l4
    have eσ : wipe σ4 vs = wipe σ vs := (wipe_only so sub).trans (wipe_wipe σ vs)
    have back : ∀ {H5 : Hp}, Rel (gmK K (g.blk D us)) [] A w4 σ4 H5 → Rel (gmK K (g.blk D us)) [] A (wipeW w vs) (wipe σ vs) H5 := fun {H5} R5 => by
      have := (wipe_ok R5 ok4).1
      rw [ew4, ww, eσ] at this
      exact this
    refine ⟨eσ, D, us, A, w4, _, R4, q4, fun b w5 q5 H5 R5 l5 => ?_⟩
    rw [vb, vb] at l5
    obtain ⟨ew5, q5⟩ := q5
    subst ew5
    cases b with
    | true =>
      rw [if_pos rfl] at q5 ⊢
      refine ⟨D, us, A, w5, _, R5, q5, fun e w6 q6 v H6 R6 r6 l6 => ?_⟩
      rw [vb, vb] at l6
      obtain ⟨ew6, q6⟩ := q6
      subst ew6
      split at q6
      · rename_i d
        refine ⟨us, at_ R6, by rw [← r2.length]; exact q6.1, ys ++ [d], us ++ [v], (back R6).grow B, ?_, q6.2, upd_same, ?_⟩
        · rw [hid_upd (by simp)]
          exact ((l2.trans l4).trans l5).trans l6
        · rw [hid_upd (by simp)]
          have r6' : Rep K (hid H6 ([D] ++ A ++ g.O)) d v := by rw [← vb]; exact r6
          exact (r2.mono ((l4.trans l5).trans l6)).append (.one r6')
      · exact q6.elim
    | false =>
      rw [if_neg Bool.false_ne_true] at q5 ⊢
      exact ⟨ys, us, back R5, (l2.trans l4).trans l5, q5, at_ R5, r2.mono (l4.trans l5)⟩
  · have e : i = xs.length := by omega
    subst e
    rw [List.drop_length] at q2
    have R4 : Rel (gmK K g) [D] A w σ H := R2.leave B fun z => slots_back l2 R0.slots z ok
    exact .inl ⟨wk.stop H _ (l2.trans hid_le) (Nat.le_refl _), k _ _ q2 _ _ R4 ⟨us, e2, r2⟩ l2⟩
theorem f_lc {elt tg iter : Expr} {ifs : List Expr} {scope : Scope} {own : List (Str × Nat)} {pos : Pos} {ti : TIw} {is : List Nat} {gt : TGw} {tt : TWt} {te : TW} (hc : X.calm = true) (hN : X.N.Nodup) (hi : PIW X g tg iter ti) (ok : BlkOk X.N X.env.scope scope own)
    (hg : ∀ (s : Shared) (H : Hp) (C : Addr) (cl : List (Str × Addr)) (fp : List Addr) (D : Addr) (us : List V), PGW (X.blk s H scope (compEnvC scope cl C X.env) fp) (g.blk D us) is tg gt) (ht : ∀ (s : Shared) (H : Hp) (C : Addr) (cl : List (Str × Addr)) (fp : List Addr) (D : Addr) (us : List V), PTsW (X.blk s H scope (compEnvC scope cl C X.env) fp) (g.blk D us) ifs tt)
    (he : ∀ (s : Shared) (H : Hp) (C : Addr) (cl : List (Str × Addr)) (fp : List Addr) (D : Addr) (us : List V), PEW (X.blk s H scope (compEnvC scope cl C X.env) fp) (g.blk D us) elt te) (only : GOnly gt (own.map (·.2))) (sub : ∀ i ∈ is, i ∈ own.map (·.2) := by decide) (hs : ∀ x, foldedSetIterable iter X.env x = pure x := by intro _; rfl) :
    PFW X g (.ListComp elt [⟨tg, iter, ifs, 0⟩] scope pos) (fLc ti gt tt te (own.map (·.2))) :=
  PE.imp (pe_lc hc hN hi ok (fun s H C cl fp => PG.ex (hg s H C cl fp)) (fun s H C cl fp => PTs.ex (ht s H C cl fp)) (fun s H C cl fp => PE.ex (he s H C cl fp)) hs) fun σ H Q ⟨A, w, Q0, R0, q, k⟩ =>
    ⟨A, w, _, R0, q, fun xs w1 q1 J H1 R1 wk l1 D hD => lc_turns sub only R1 wk q1.1 q1.2 (k.comp l1) D hD⟩
/-- y = [..] on one line -/
theorem s_setLc {i : Nat} {y : Str} {py : Pos} {elt tg iter : Expr} {ifs : List Expr} {scope : Scope} {own : List (Str × Nat)} {pos spos : Pos} {ti : TIw} {is : List Nat} {gt : TGw} {tt : TWt} {te : TW} (hc : X.calm = true) (hN : X.N.Nodup) (hy : X.N[i]? = some y) (hyl : X.env.scope.names.lookup y = some .local)
    (hsw : swapsWith (.ListComp elt [⟨tg, iter, ifs, 0⟩] scope pos) (some (.Name y py)) spos.line X.env = pure true) (hi : PIW X g tg iter ti) (ok : BlkOk X.N X.env.scope scope own)
    (hg : ∀ (s : Shared) (H : Hp) (C : Addr) (cl : List (Str × Addr)) (fp : List Addr) (D : Addr) (us : List V), PGW (X.blk s H scope (compEnvC scope cl C X.env) fp) (g.blk D us) is tg gt) (ht : ∀ (s : Shared) (H : Hp) (C : Addr) (cl : List (Str × Addr)) (fp : List Addr) (D : Addr) (us : List V), PTsW (X.blk s H scope (compEnvC scope cl C X.env) fp) (g.blk D us) ifs tt)
    (he : ∀ (s : Shared) (H : Hp) (C : Addr) (cl : List (Str × Addr)) (fp : List Addr) (D : Addr) (us : List V), PEW (X.blk s H scope (compEnvC scope cl C X.env) fp) (g.blk D us) elt te) (only : GOnly gt (own.map (·.2))) (sub : ∀ i ∈ is, i ∈ own.map (·.2) := by decide) (hs : ∀ x, foldedSetIterable iter X.env x = pure x := by intro _; rfl) :
    PSW X g EX (.Assign [.Name y py] (.ListComp elt [⟨tg, iter, ifs, 0⟩] scope pos) spos) (sSet i (eF (fLc ti gt tt te (own.map (·.2))))) :=
  PS.imp (ps_setLc hc hN hy hyl hsw hi ok (fun s H C cl fp => PG.ex (hg s H C cl fp)) (fun s H C cl fp => PTs.ex (ht s H C cl fp)) (fun s H C cl fp => PE.ex (he s H C cl fp)) hs) fun E σ H ⟨A, w, E0, R0, q, k⟩ =>
    ⟨A, w, _, R0, q, fun xs w1 q1 J H1 R1 wk l1 D hD => lc_turns (Q := fun x H1 => gName i x σ H1 E.nx) (Q0 := fun ys w2 => E0.nx (w2.set i (.v (.lst ys)))) sub only R1 wk q1.1 q1.2 (fun ys w2 q2 p H2 R2 m l2 => by
      obtain ⟨R3, r3, l3⟩ := m.rep R2
      obtain ⟨A', R4, l4⟩ := R3.setV' (i := i) r3
      exact k.nx _ q2 _ _ _ R4 (l1.trans (l2.trans (l3.trans l4)))) D hD⟩
/-- .. its list the slot's own -/
theorem s_setLcF {i : Nat} {y : Str} {py : Pos} {elt tg iter : Expr} {ifs : List Expr} {scope : Scope} {own : List (Str × Nat)} {pos spos : Pos} {ti : TIw} {is : List Nat} {gt : TGw} {tt : TWt} {te : TW} (hc : X.calm = true) (hN : X.N.Nodup) (hy : X.N[i]? = some y) (hyl : X.env.scope.names.lookup y = some .local)
    (hsw : swapsWith (.ListComp elt [⟨tg, iter, ifs, 0⟩] scope pos) (some (.Name y py)) spos.line X.env = pure true) (hi : PIW X g tg iter ti) (ok : BlkOk X.N X.env.scope scope own)
    (hg : ∀ (s : Shared) (H : Hp) (C : Addr) (cl : List (Str × Addr)) (fp : List Addr) (D : Addr) (us : List V), PGW (X.blk s H scope (compEnvC scope cl C X.env) fp) (g.blk D us) is tg gt) (ht : ∀ (s : Shared) (H : Hp) (C : Addr) (cl : List (Str × Addr)) (fp : List Addr) (D : Addr) (us : List V), PTsW (X.blk s H scope (compEnvC scope cl C X.env) fp) (g.blk D us) ifs tt)
    (he : ∀ (s : Shared) (H : Hp) (C : Addr) (cl : List (Str × Addr)) (fp : List Addr) (D : Addr) (us : List V), PEW (X.blk s H scope (compEnvC scope cl C X.env) fp) (g.blk D us) elt te) (only : GOnly gt (own.map (·.2))) (sub : ∀ i ∈ is, i ∈ own.map (·.2) := by decide) (hs : ∀ x, foldedSetIterable iter X.env x = pure x := by intro _; rfl) :
    PSW X g EX (.Assign [.Name y py] (.ListComp elt [⟨tg, iter, ifs, 0⟩] scope pos) spos) (sSetF i (fLc ti gt tt te (own.map (·.2)))) :=
  PS.imp (ps_setLc hc hN hy hyl hsw hi ok (fun s H C cl fp => PG.ex (hg s H C cl fp)) (fun s H C cl fp => PTs.ex (ht s H C cl fp)) (fun s H C cl fp => PE.ex (he s H C cl fp)) hs) fun E σ H ⟨A, w, E0, R0, q, k⟩ =>
    ⟨A, w, _, R0, q.2, fun xs w1 q1 J H1 R1 wk l1 D hD => lc_turns (Q := fun x H1 => gName i x σ H1 E.nx) (Q0 := fun ys w2 => i < w2.length ∧ E0.nx (w2.set i (.own ys))) sub only R1 wk q1.1 q1.2 (fun ys w2 q2 p H2 R2 m l2 => by
      obtain ⟨vs', e1, r1⟩ := m
      obtain ⟨A', R4, l4⟩ := R2.setOwn q2.1 e1 r1
      exact k.nx _ q2.2 _ _ _ R4 (l1.trans (l2.trans l4))) D hD⟩
end
end OW


namespace OW
open PySem PySem.Spec PyProof.Rows L2

section
variable {X : Cx} {g : G0} {K : PySem.W.Frag} {EX : EXV}
/-! ### a slot's own list, dict is changed -/
/-- one owned object is written: the slot's new state over the same addresses -/
theorem Rel.upOwn {A : List Addr} {w : W} {σ : L2.St} {H : Hp} {i : Nat} {l l' : L} {o : HO} {a : Addr} (R0 : Rel (gmK K g) [] A w σ H) (e : w[i]? = some l) (ha : a ∈ A)
    (k : ∀ x Ai, σ[i]? = some x → SlotOk K g.s0 H (vis g A H) l x Ai → a ∈ Ai ∧ SlotOk K g.s0 (upd H a o) (vis g A H) l' x Ai) : Rel (gmK K g) [] A (w.set i l') σ (upd H a o) ∧ vis g A (upd H a o) = vis g A H := by
  have ev : vis g A (upd H a o) = vis g A H := hid_upd (by simp [ha])
  obtain ⟨x, Ai, pre, post, e1, e2, q, f⟩ := R0.slots.change e
  obtain ⟨hai, q'⟩ := k x Ai e2 q
  have nd : A.Nodup := by simpa using R0.nd
  have nO : a ∉ g.O := (R0.own a (by simpa using ha)).1
  have hNe : g.He a = none := (R0.own a (by simpa using ha)).2.1
  have s1 := f (upd H a o) (vis g A (upd H a o)) l' x Ai (by rw [ev]; exact q') (fun b hb => upd_ne fun z => by
    subst z
    rw [e1] at nd
    simp only [List.nodup_append, List.mem_append] at nd
    rcases List.mem_append.mp hb with y | y
    · exact nd.1.2.2 b y b hai rfl
    · exact nd.2.2 b (.inr hai) b y rfl) (by rw [ev]; exact GLe.refl _)
  rw [← e1] at s1
  have es : σ.set i x = σ := by
    refine List.ext_getElem? fun j => ?_
    by_cases z : i = j
    · subst z
      rw [List.getElem?_set]
      simp only [if_true]
      have := (List.getElem?_eq_some_iff.mp e2).1
      rw [if_pos this, e2]
    · rw [List.getElem?_set_ne z]
  rw [es] at s1
  have np : ∀ b u, H b = some u → (upd H a o) b ≠ none := fun b u eb => by
    by_cases z : b = a
    · rw [z, upd_same]; exact fun y => nomatch y
    · rw [upd_ne z, eb]; exact fun y => nomatch y
  refine ⟨⟨s1, R0.nd, fun b hb => ?_, fun b u eb n => ?_, fun b hb => ?_, ⟨R0.st.mem, R0.st.memT, R0.st.fre, R0.st.stT, R0.st.cells, R0.st.cont.upd (R0.st.free nO)⟩⟩, ev⟩
  · obtain ⟨h1, h2, h3⟩ := R0.own b hb
    refine ⟨h1, h2, ?_⟩
    cases eb : H b with
    | none => exact absurd eb h3
    | some u => exact np b u eb
  · have nb : b ≠ a := fun z => by
      have eb' : g.He b = some u := eb
      rw [z, hNe] at eb'
      cases eb'
    rw [upd_ne nb]
    exact R0.since b u eb n
  · cases eb : H b with
    | none => exact absurd eb (R0.alloc b hb)
    | some u => exact np b u eb

/-! ### x.append(e), x.pop() -/
def isOwn : Option L → Prop
  | some (.own _) => True
  | _ => False
theorem own_at {A : List Addr} {w : W} {σ : L2.St} {H : Hp} {i : Nat} {xs : List D} (R0 : Rel (gmK K g) [] A w σ H) (e : w[i]? = some (.own xs)) : ∃ a vs, σ[i]? = some (some (.ref a)) ∧ H a = some (.lst vs) ∧ Reps K (vis g A H) xs vs ∧ a ∈ A := by
  obtain ⟨y, Ai, e2, so, sub⟩ := slot_val R0 e
  cases so with
  | own q r => exact ⟨_, _, e2, q, r, sub _ (by simp)⟩
/-- the own list gets other items -/
theorem own_put {A : List Addr} {w : W} {σ : L2.St} {H : Hp} {i : Nat} {xs ys : List D} {a : Addr} {us : List V} (R0 : Rel (gmK K g) [] A w σ H) (e : w[i]? = some (.own xs)) (es : σ[i]? = some (some (.ref a))) (ha : a ∈ A) (r : Reps K (vis g A H) ys us) :
    Rel (gmK K g) [] A (w.set i (.own ys)) σ (upd H a (.lst us)) ∧ vis g A (upd H a (.lst us)) = vis g A H :=
  R0.upOwn e ha fun x Ai ex so => by
    rw [es] at ex
    cases ex
    cases so with
    | own q r' => exact ⟨List.mem_cons_self .., .own upd_same r⟩
def sAppend (i : Nat) (te : TW) : SW := fun E w => isOwn w[i]? ∧ te w fun x w1 => match x, w1[i]? with
  | .d d, some (.own xs) => xs.length < sizeLine ∧ E.nx (w1.set i (.own (xs ++ [d])))
  | _, _ => False
theorem s_append {i : Nat} {x : Str} {e : Expr} {te : TW} {px pa pos spos : Pos} (he : PEW X g e te) (hN : X.N[i]? = some x := by rfl) (hv : Vis X.env.scope x := by first | exact Or.inl rfl | exact Or.inr (Or.inl rfl) | exact Or.inr (Or.inr rfl)) (hd : (x == ("__debug__" : Str)) = false := by decide) (hcd : (x == ("__classdict__" : Str)) = false := by decide)
    (hbase : attributeBase (.Name x px) "append" X.env (eval (.Name x px) X.env) = eval (.Name x px) X.env := by rfl)
    (hfew : ((backTo pos (starEach [e] X.env)).all (fun x => !x.1) && (backToKw pos (keywordEach [] X.env)).all (fun x => x.1.isSome)
      && decide ([e].length + ([] : List Keyword).length + (if ([] : List Keyword).isEmpty then 0 else 1) < 30)) = true := by rfl)
    (hline : (pa.endLine == pos.line) = true := by rfl) (hse : starEach [e] X.env = (false, eval e X.env) :: starEach [] X.env := by rfl) (hplain : (backTo pos (starEach [] X.env)).any (·.1) = false := by rfl)
    (hs : swapsWith (.Call (.Attribute (.Name x px) "append" pa) [e] [] pos) none spos.line X.env = pure false := by rfl) :
    PSW X g EX (.Expr (.Call (.Attribute (.Name x px) "append" pa) [e] [] pos) spos) (sAppend i te) := by
  refine PS.imp (ps_expr (pe_bm PySem.F.plainAttrs_list PySem.F.slot_list_append PySem.F.type_list_append mt_append (pe_var (i := i) hN hv hd hcd) (pa_cons he pa_nil hse) hbase hfew hline hse hplain) hs) fun D σ H ⟨A, w, E0, R0, q, k⟩ => ?_
  obtain ⟨q0, q⟩ := q
  cases ew : w[i]? with
  | none => rw [ew] at q0; exact q0.elim
  | some l =>
    rw [ew] at q0
    cases l <;> first | exact (show False from q0).elim | skip
    rename_i xs0
    obtain ⟨a, vs0, es, ha0, _, hA⟩ := own_at R0 ew
    refine ⟨_, es, .inl ⟨rfl, _, .inl (.inl ha0)⟩, A, w, _, R0, q, fun x w1 q1 v H1 R1 r1 l1 => ?_⟩
    split at q1
    · rename_i d xs e1
      obtain ⟨a', vs, es', ha, ra, _⟩ := own_at R1 e1
      rw [es] at es'
      cases es'
      refine ⟨a, vs, v, rfl, rfl, ha, by rw [← ra.length]; exact q1.1, ?_⟩
      obtain ⟨R2, ev⟩ := own_put R1 e1 es hA (ra.append (.one r1))
      exact k.nx _ q1.2 _ _ _ R2 (by rw [ev]; exact l1)
    · exact q1.elim
def ePop (i : Nat) : TW := fun w Q => match w[i]? with
  | some (.own xs) => (match xs[xs.length - 1]? with
    | some d => Q (.d d) (w.set i (.own xs.dropLast))
    | none => False)
  | _ => False
theorem e_pop {i : Nat} {x : Str} {px pa pos : Pos} (hN : X.N[i]? = some x := by rfl) (hv : Vis X.env.scope x := by first | exact Or.inl rfl | exact Or.inr (Or.inl rfl) | exact Or.inr (Or.inr rfl)) (hd : (x == ("__debug__" : Str)) = false := by decide) (hcd : (x == ("__classdict__" : Str)) = false := by decide)
    (hm : ∀ {tx : TE}, PE X (.Name x px) tx → PE X (.Call (.Attribute (.Name x px) "pop" pa) [] [] pos) (tBM0 X.K "list" rPop tx) := by exact fun h => pe_bm0 PySem.F.plainAttrs_list PySem.F.slot_list_pop PySem.F.type_list_pop mt_pop h) :
    PEW X g (.Call (.Attribute (.Name x px) "pop" pa) [] [] pos) (ePop i) := by
  refine PE.imp (hm (pe_var (i := i) hN hv hd hcd)) fun σ H Q ⟨A, w, Q0, R0, q, k⟩ => ?_
  unfold ePop at q
  split at q
  · rename_i xs e
    split at q
    · rename_i d ed
      obtain ⟨a, vs, es, ha, ra, hA⟩ := own_at R0 e
      obtain ⟨v, hv', rv⟩ := ra.get ed
      refine ⟨_, es, .inl ⟨rfl, _, .inl (.inl ha)⟩, a, vs, v, rfl, rfl, ha, by rw [← ra.length]; exact hv', ?_⟩
      obtain ⟨R2, ev⟩ := own_put R0 e es hA ra.dropLast
      exact k _ _ q _ _ R2 (show Rep X.K _ _ _ by rw [ev]; exact rv) (by rw [ev]; exact GLe.refl _)
    · exact q.elim
  · exact q.elim

/-! ### x = {}, x[k] = v -/
def sNewD (i : Nat) : SW := fun E w => i < w.length ∧ E.nx (w.set i (.ownD []))
theorem s_newD {i : Nat} {x : Str} {px pos spos : Pos} (hN : X.N.Nodup) (hi : X.N[i]? = some x) (hx : Loc X.env.scope x) (hs : swapsWith (.Dict [] [] pos) (some (.Name x px)) spos.line X.env = pure false := by rfl) (hf : X.fn x = true ∨ X.env.scope.names.lookup x = some .local := by first | exact .inl rfl | exact .inr rfl | assumption) :
    PSW X g EX (.Assign [.Name x px] (.Dict [] [] pos) spos) (sNewD i) :=
  PS.imp (ps_set hN hi hx pe_dnewK hs hf) fun D σ H ⟨A, w, E0, R0, q, k⟩ => fun p hp => by
    have R1 := R0.newEx (o := .dK []) hp
    have l : GLe (vis g A H) (hid (upd H p (.dK [])) ([p] ++ A ++ g.O)) := fun b o e => by
      obtain ⟨n, e⟩ := hid_of e
      have nb : b ≠ p := fun z => by rw [z, hp] at e; cases e
      rw [hid_out (by simp at n ⊢; exact ⟨nb, n⟩), upd_ne nb]
      exact e
    obtain ⟨A', R2, l2⟩ := R1.setOwnD (ds := []) (kvs := []) q.1 upd_same (by simp) rfl .nil
    exact k.nx _ q.2 _ _ _ R2 (l.trans l2)
def sDput (i : Nat) (tk tv : TW) : SW := fun E w => tv w fun v w1 => (match w1[i]? with | some (.ownD _) => True | _ => False) ∧ tk w1 fun x w2 => match v, x, w2[i]? with
  | .d v, .d x, some (.ownD ds) => (match keyD x with
    | some k => ds.length < sizeLine ∧ E.nx (w2.set i (.ownD (dputD ds k v)))
    | none => False)
  | _, _, _ => False
theorem ownD_at {A : List Addr} {w : W} {σ : L2.St} {H : Hp} {i : Nat} {ds : List (Key × D)} (R0 : Rel (gmK K g) [] A w σ H) (e : w[i]? = some (.ownD ds)) : ∃ a kvs, σ[i]? = some (some (.ref a)) ∧ H a = some (.dK kvs) ∧ (ds.map (·.1)).Nodup ∧ ds.map (·.1) = kvs.map (·.1) ∧ Reps K (vis g A H) (ds.map (·.2)) (kvs.map (·.2)) ∧ a ∈ A := by
  obtain ⟨y, Ai, e2, so, sub⟩ := slot_val R0 e
  cases so with
  | ownD q n q2 r => exact ⟨_, _, e2, q, n, q2, r, sub _ (by simp)⟩
theorem s_dput (hu : X.A.units + 1 < cLine) {i : Nat} {x : Str} {px p1 pos : Pos} {ek ev : Expr} {tk tv : TW} (hk : PEW X g ek tk) (hv' : PEW X g ev tv) (hN : X.N[i]? = some x := by rfl) (hv : Vis X.env.scope x := by first | exact Or.inl rfl | exact Or.inr (Or.inl rfl) | exact Or.inr (Or.inr rfl)) (hd : (x == ("__debug__" : Str)) = false := by decide) (hcd : (x == ("__classdict__" : Str)) = false := by decide)
    (hs : swapsWith ev (some (.Subscript (.Name x px) ek p1)) pos.line X.env = pure false := by rfl) : PSW X g EX (.Assign [.Subscript (.Name x px) ek p1] ev pos) (sDput i tk tv) :=
  PS.imp (ps_dput hu (pe_var (i := i) hN hv hd hcd) hk hv' hs) fun D σ H ⟨A, w, E0, R0, q, k⟩ => ⟨A, w, _, R0, q, fun v w1 q1 vv H1 R1 r1 l1 => by
    obtain ⟨q0, q1⟩ := q1
    split at q0
    · rename_i ds0 e0
      obtain ⟨a, _, es, _, _, _, _, hA⟩ := ownD_at R1 e0
      refine ⟨_, es, A, w1, _, R1, q1, fun x w2 q2 vx H2 R2 r2 l2 => ?_⟩
      split at q2
      · rename_i d dx ds e2
        split at q2
        · rename_i key ek'
          obtain ⟨a', kvs, es', ha, n, ek2, rr, _⟩ := ownD_at R2 e2
          rw [es] at es'
          cases es'
          have ev := key_rep ek' r2
          subst ev
          have r1' := r1.mono l2
          have el : kvs.length = ds.length := by have := congrArg List.length ek2; simpa using this.symm
          refine ⟨a, _, rfl, DPut.k ha (by rw [el]; exact q2.1), ?_⟩
          obtain ⟨R3, ev3⟩ := R2.upOwn (l' := .ownD (dputD ds key d)) (o := .dK (putK kvs key vv)) e2 hA fun x Ai ex so => by
            rw [es] at ex
            cases ex
            cases so with
            | ownD q n' q2' r' => exact ⟨List.mem_cons_self .., .ownD upd_same (put_nodup key d n) (put_keys key d vv ek2) (put_reps key r1' ek2 rr)⟩
          exact k.nx _ q2.2 _ _ _ R3 (by rw [ev3]; exact l1.trans l2)
        · exact q2.elim
      · exact q2.elim
    · exact q0.elim⟩
/-- return of a dict of a slot's own -/
def sRetD (i : Nat) : SW := fun E w => match w[i]? with
  | some (.ownD ds) => E.rt (.val (.dic ds))
  | _ => False
theorem s_retD {i : Nat} {x : Str} {p1 pos : Pos} (hN : X.N[i]? = some x := by rfl) (hv : Vis X.env.scope x := by first | exact Or.inl rfl | exact Or.inr (Or.inl rfl) | exact Or.inr (Or.inr rfl)) (hd : (x == ("__debug__" : Str)) = false := by decide) (hcd : (x == ("__classdict__" : Str)) = false := by decide) :
    PSW X g EX (.Return (some (.Name x p1)) pos) (sRetD i) :=
  PS.imp (ps_ret (pe_var (i := i) hN hv hd hcd)) fun D σ H ⟨A, w, E0, R0, q, k⟩ => by
    unfold sRetD at q
    split at q
    · rename_i ds e
      obtain ⟨a, kvs, es, ha, n, ek, r, hA⟩ := ownD_at R0 e
      have nO : a ∉ g.O := (R0.own a (by simpa using hA)).1
      exact ⟨_, es, k.rt _ q _ _ R0.out (.dic ((hid_out nO).trans ha) n ek (r.mono vis_out))⟩
    · exact q.elim

/-! ### a slot's own list is not changed any more -/
def sFrz (i : Nat) (t : SW) : SW := fun E w => match w[i]? with
  | some (.own xs) => t E (w.set i (.v (.lst xs)))
  | some (.ownD ds) => t E (w.set i (.v (.dic ds)))
  | some (.ownL _ xss) => t E (w.set i (.v (.lst (xss.map D.lst))))
  | _ => False
theorem Rel.frz {A : List Addr} {w : W} {σ : L2.St} {H : Hp} {i : Nat} {xs : List D} (R0 : Rel (gmK K g) [] A w σ H) (e : w[i]? = some (.own xs)) : ∃ A', Rel (gmK K g) [] A' (w.set i (.v (.lst xs))) σ H ∧ GLe (vis g A H) (vis g A' H) := by
  obtain ⟨x, Ai, pre, post, e1, e2, q, f⟩ := R0.slots.change e
  cases q with
  | @own a vs xs ha r =>
    have nd : A.Nodup := by simpa using R0.nd
    have sub : ∀ b, b ∈ pre ++ [] ++ post → b ∈ A := fun b hb => by
      rw [e1]; simp at hb ⊢; rcases hb with z | z <;> simp [z]
    have nap : a ∉ pre ++ [] ++ post := fun z => by
      rw [e1] at nd
      simp [List.nodup_append] at nd z
      grind
    have hA : a ∈ A := by rw [e1]; simp
    have nO : a ∉ g.O := (R0.own a (by simpa using hA)).1
    have l : GLe (vis g A H) (hid H ([] ++ (pre ++ [] ++ post) ++ g.O)) := hid_mono (fun b h => .inl (by
      rcases List.mem_append.mp h with z | z
      · exact List.mem_append_left _ (by simpa using sub b (by simpa using z))
      · exact List.mem_append_right _ z)) fun _ _ _ e => e
    have hvis : hid H ([] ++ (pre ++ [] ++ post) ++ g.O) a = some (.lst vs) := (hid_out fun z => by
      rcases List.mem_append.mp z with y | y
      · exact nap (by simpa using y)
      · exact nO y).trans ha
    have s1 := f H _ (.v (.lst xs)) (some (.ref a)) [] (.v (.lst hvis (r.mono l))) (fun _ _ => rfl) l
    have es : σ.set i (some (.ref a)) = σ := by
      refine List.ext_getElem? fun j => ?_
      by_cases z : i = j
      · subst z
        rw [List.getElem?_set]
        simp only [if_true]
        have := (List.getElem?_eq_some_iff.mp e2).1
        rw [if_pos this, e2]
      · rw [List.getElem?_set_ne z]
    rw [es] at s1
    refine ⟨pre ++ [] ++ post, ⟨s1, ?_, fun b hb => R0.own b (by simpa using sub b (by simpa using hb)), R0.since, R0.alloc, R0.st⟩, l⟩
    rw [e1] at nd
    simp [List.nodup_append] at nd ⊢
    grind
theorem Rel.frzD {A : List Addr} {w : W} {σ : L2.St} {H : Hp} {i : Nat} {ds : List (Key × D)} (R0 : Rel (gmK K g) [] A w σ H) (e : w[i]? = some (.ownD ds)) : ∃ A', Rel (gmK K g) [] A' (w.set i (.v (.dic ds))) σ H ∧ GLe (vis g A H) (vis g A' H) := by
  obtain ⟨x, Ai, pre, post, e1, e2, q, f⟩ := R0.slots.change e
  cases q with
  | @ownD a kvs ds ha n ek r =>
    have nd : A.Nodup := by simpa using R0.nd
    have sub : ∀ b, b ∈ pre ++ [] ++ post → b ∈ A := fun b hb => by
      rw [e1]; simp at hb ⊢; rcases hb with z | z <;> simp [z]
    have nap : a ∉ pre ++ [] ++ post := fun z => by
      rw [e1] at nd
      simp [List.nodup_append] at nd z
      grind
    have hA : a ∈ A := by rw [e1]; simp
    have nO : a ∉ g.O := (R0.own a (by simpa using hA)).1
    have l : GLe (vis g A H) (hid H ([] ++ (pre ++ [] ++ post) ++ g.O)) := hid_mono (fun b h => .inl (by
      rcases List.mem_append.mp h with z | z
      · exact List.mem_append_left _ (by simpa using sub b (by simpa using z))
      · exact List.mem_append_right _ z)) fun _ _ _ e => e
    have hvis : hid H ([] ++ (pre ++ [] ++ post) ++ g.O) a = some (.dK kvs) := (hid_out fun z => by
      rcases List.mem_append.mp z with y | y
      · exact nap (by simpa using y)
      · exact nO y).trans ha
    have s1 := f H _ (.v (.dic ds)) (some (.ref a)) [] (.v (.dic hvis n ek (r.mono l))) (fun _ _ => rfl) l
    have es : σ.set i (some (.ref a)) = σ := by
      refine List.ext_getElem? fun j => ?_
      by_cases z : i = j
      · subst z
        rw [List.getElem?_set]
        simp only [if_true]
        have := (List.getElem?_eq_some_iff.mp e2).1
        rw [if_pos this, e2]
      · rw [List.getElem?_set_ne z]
    rw [es] at s1
    refine ⟨pre ++ [] ++ post, ⟨s1, ?_, fun b hb => R0.own b (by simpa using sub b (by simpa using hb)), R0.since, R0.alloc, R0.st⟩, l⟩
    rw [e1] at nd
    simp [List.nodup_append] at nd ⊢
    grind
theorem Inner.reps {H G G' : Hp} (l : GLe G G') : ∀ {as : List Addr} {xss : List (List D)}, Inner K H G as xss → (∀ a ∈ as, ∀ o, H a = some o → G' a = some o) → Reps K G' (xss.map D.lst) (as.map V.ref)
  | _, _, .nil, _ => .nil
  | _, _, .cons h r t, k => .cons (.lst (k _ (List.mem_cons_self ..) _ h) (r.mono l)) (Inner.reps l t fun a ha => k a (List.mem_cons_of_mem _ ha))
theorem Rel.frzL {A : List Addr} {w : W} {σ : L2.St} {H : Hp} {i : Nat} {as : List Addr} {xss : List (List D)} (R0 : Rel (gmK K g) [] A w σ H) (e : w[i]? = some (.ownL as xss)) : ∃ A', Rel (gmK K g) [] A' (w.set i (.v (.lst (xss.map D.lst)))) σ H ∧ GLe (vis g A H) (vis g A' H) := by
  obtain ⟨x, Ai, pre, post, e1, e2, q, f⟩ := R0.slots.change e
  cases q with
  | @ownL a as xss ha r =>
    have nd : A.Nodup := by simpa using R0.nd
    have sub : ∀ b, b ∈ pre ++ [] ++ post → b ∈ A := fun b hb => by
      rw [e1]; simp at hb ⊢; rcases hb with z | z <;> simp [z]
    have nap : ∀ b ∈ a :: as, b ∉ pre ++ [] ++ post := fun b hb z => by
      rw [e1] at nd
      simp only [List.nodup_append, List.mem_append] at nd
      rcases List.mem_append.mp z with y | y
      · exact nd.1.2.2 b (by simpa using y) b hb rfl
      · exact nd.2.2 b (.inr hb) b y rfl
    have inA : ∀ b ∈ a :: as, b ∈ A := fun b hb => by
      rw [e1]
      exact List.mem_append_left _ (List.mem_append_right _ hb)
    have nO : ∀ b ∈ a :: as, b ∉ g.O := fun b hb => (R0.own b (by simpa using inA b hb)).1
    have l : GLe (vis g A H) (hid H ([] ++ (pre ++ [] ++ post) ++ g.O)) := hid_mono (fun b h => .inl (by
      rcases List.mem_append.mp h with z | z
      · exact List.mem_append_left _ (by simpa using sub b (by simpa using z))
      · exact List.mem_append_right _ z)) fun _ _ _ e => e
    have hvis : ∀ b ∈ a :: as, ∀ o, H b = some o → hid H ([] ++ (pre ++ [] ++ post) ++ g.O) b = some o := fun b hb o eo => (hid_out fun z => by
      rcases List.mem_append.mp z with y | y
      · exact nap b hb (by simpa using y)
      · exact nO b hb y).trans eo
    have s1 := f H _ (.v (.lst (xss.map D.lst))) (some (.ref a)) [] (.v (.lst (hvis a (List.mem_cons_self ..) _ ha) (r.reps l fun b hb => hvis b (List.mem_cons_of_mem _ hb)))) (fun _ _ => rfl) l
    have es : σ.set i (some (.ref a)) = σ := by
      refine List.ext_getElem? fun j => ?_
      by_cases z : i = j
      · subst z
        rw [List.getElem?_set]
        simp only [if_true]
        have := (List.getElem?_eq_some_iff.mp e2).1
        rw [if_pos this, e2]
      · rw [List.getElem?_set_ne z]
    rw [es] at s1
    refine ⟨pre ++ [] ++ post, ⟨s1, ?_, fun b hb => R0.own b (by simpa using sub b (by simpa using hb)), R0.since, R0.alloc, R0.st⟩, l⟩
    rw [e1] at nd
    simp [List.nodup_append] at nd ⊢
    grind
theorem s_frz {i : Nat} {sts : List Stmt} {t : SW} (h : PSsW X g EX sts t) : PSsW X g EX sts (sFrz i t) :=
  PSs.imp h fun D σ H ⟨A, w, E0, R0, q, k⟩ => by
    unfold sFrz at q
    split at q
    · rename_i xs e
      obtain ⟨A', R1, l1⟩ := R0.frz e
      exact ⟨A', _, E0, R1, q, k.comp l1⟩
    · rename_i xs e
      obtain ⟨A', R1, l1⟩ := R0.frzD e
      exact ⟨A', _, E0, R1, q, k.comp l1⟩
    · rename_i as xss e
      obtain ⟨A', R1, l1⟩ := R0.frzL e
      exact ⟨A', _, E0, R1, q, k.comp l1⟩
    · exact q.elim

/-! ### a, b, .. = value -/
def gSeqW (n : Nat) (t : List D → W → (W → Prop) → Prop) : TGw := fun d w Q => match d with
  | .tup xs => xs.length = n ∧ t xs w Q
  | .lst xs => xs.length = n ∧ t xs w Q
  | _ => False
def gSeq (K : PySem.W.Frag) (n : Nat) (t : TGs) : TG := fun v σ H Q => gTup K n t v σ H Q ∨ gLst K n t v σ H Q
theorem pg_seq {es : List Expr} {k : Nat} {t : TGs} {n : Nat} {pos : Pos} (hc : X.calm = true) (h : PGs X es t)
    (hn : (assignEach es X.env).length = n := by rfl) (hst : (assignEach es X.env).findIdx? (·.1) = none := by rfl) : PG X (.Tuple es k pos) (gSeq X.K n t) :=
  ⟨fun pins s σ H v u Q I r q => q.elim (fun q => (pg_tup hc h hn hst).run pins s σ H v u Q I r q) fun q => (pg_lst hc h hn hst).run pins s σ H v u Q I r q⟩
theorem g_seq {es : List Expr} {k : Nat} {is : List Nat} {t : List D → W → (W → Prop) → Prop} {n : Nat} {pos : Pos} (hc : X.calm = true) (h : PGsW X g is es t)
    (hn : (assignEach es X.env).length = n := by rfl) (hst : (assignEach es X.env).findIdx? (·.1) = none := by rfl) : PGW X g is (.Tuple es k pos) (gSeqW n t) :=
  PG.imp (pg_seq hc h hn hst) fun v σ H Q ⟨A, w, d, Q0, R0, r, q, kk⟩ => by
    unfold gSeqW at q
    split at q
    · rename_i xs
      cases r with
      | @tup a vs xs hq rr => exact .inl ⟨a, vs, rfl, hid_le.sqT hq, by rw [← rr.length]; exact q.1, A, w, xs, Q0, R0, rr, q.2, kk⟩
    · rename_i xs
      cases r with
      | @lst a vs xs hq rr => exact .inr ⟨a, vs, rfl, .inl (.inl (hid_le _ _ hq)), by rw [← rr.length]; exact q.1, A, w, xs, Q0, R0, rr, q.2, kk⟩
    · exact q.elim
theorem mono_seq {n : Nat} {t : List D → W → (W → Prop) → Prop} (h : MonoGs t) : MonoG (gSeqW n t) := fun d w Q Q' k q => by
  unfold gSeqW at q ⊢
  split at q
  · exact ⟨q.1, h _ _ _ _ k q.2⟩
  · exact ⟨q.1, h _ _ _ _ k q.2⟩
  · exact q.elim
theorem only_seq {n : Nat} {t : List D → W → (W → Prop) → Prop} {vs : List Nat} (h : GsOnly t vs) : GOnly (gSeqW n t) vs := fun d w Q ok q => by
  unfold gSeqW at q ⊢
  split at q
  · exact ⟨q.1, h _ _ _ ok q.2⟩
  · exact ⟨q.1, h _ _ _ ok q.2⟩
  · exact q.elim
def sUnp (te : TW) (gt : TGw) : SW := fun E w => te w fun x w1 => match x with
  | .d d => gt d w1 E.nx
  | _ => False
theorem s_unp {tg e : Expr} {te : TW} {is : List Nat} {gt : TGw} {pos : Pos} (he : PEW X g e te) (hg : PGW X g is tg gt) (hs : swapsWithSole [tg] e pos.line X.env = pure false := by rfl) (hw : swappedStores [tg] e X.env = pure none := by rfl) (h1 : (assignEach [tg] X.env).map (·.2) = [assign tg X.env] := by rfl) : PSW X g EX (.Assign [tg] e pos) (sUnp te gt) :=
  PS.imp (ps_asg he hg hs hw h1) fun D σ H ⟨A, w, E0, R0, q, k⟩ => ⟨A, w, _, R0, q, fun x w1 q1 v H1 R1 r1 l1 => by
    split at q1
    · rename_i d
      exact ⟨A, w1, d, _, R1, r1, q1, fun w2 q2 σ2 H2 R2 so l2 => k.nx _ q2 _ _ _ R2 (l1.trans l2)⟩
    · exact q1.elim⟩
end
end OW


namespace OW
open PySem PySem.Spec PyProof.Rows L2

section
variable {K : PySem.W.Frag}
/-! ### a def's start -/
def toL : E → L
  | .d x => .v x
  | .st => .st
  | .bor _ => .un
def startW (n : Nat) (es : List E) : W := es.map toL ++ List.replicate (n - es.length) .un
theorem slots_un {s0 : S0} {H G : Hp} : ∀ n : Nat, Slots K s0 H G (List.replicate n .un) (List.replicate n none) []
  | 0 => .nil
  | n + 1 => .cons (A1 := []) (.un _) (slots_un n)
theorem slots_start {s0 : S0} {He H G : Hp} {O : List Addr} {n : Nat} : ∀ {es : List E} {vs : List V}, RepEs K ⟨He, O, s0⟩ G [] es vs → Slots K s0 H G (es.map toL ++ List.replicate n .un) (vs.map some ++ List.replicate n none) []
  | _, _, .nil => slots_un n
  | .d x :: _, _, .cons h t => .cons (A1 := []) (.v h) (slots_start t)
  | .st :: _, _, .cons h t => by
    obtain ⟨s, c, e, rfl⟩ := h
    exact .cons (A1 := []) (.st e) (slots_start t)
  | .bor i :: _, _, .cons h t => by
    have h' : ([] : L2.St)[i]? = some (some _) := h
    simp at h'
theorem RepEs.length {g : G0} {G : Hp} {σ : L2.St} : ∀ {es : List E} {vs : List V}, RepEs K g G σ es vs → es.length = vs.length
  | _, _, .nil => rfl
  | _, _, .cons _ t => by rw [List.length_cons, List.length_cons, RepEs.length t]
theorem start_rel {g : G0} {N : List Str} {es : List E} {vs : List V} (al : ∀ b ∈ g.O, g.He b ≠ none) (st : StIn K g.O g.s0 g.He g.He) (r : RepEs K g (hid g.He g.O) [] es vs) : Rel (gmK K g) [] [] (startW N.length es) (L2.start N vs) g.He where
  slots := by
    unfold startW L2.start
    rw [r.length]
    exact slots_start r
  nd := by simp
  own := fun a ha => by simp at ha
  since := fun _ _ e _ => e
  alloc := al
  st := st
variable {P : Program} {w : World} {mg : Str → Option Value} {base : Heap} {x qual : Str} {params : Arguments} {body : List Stmt} {scope : Scope} {f : Addr} {fd : FuncData} {N ps : List Str} {k : Nat} {spec : Spec} {t : SW} {TB : List Addr}
/-- THE RULE for a def over plain data -/
theorem def_ok (F : FunD K x qual params body scope [] [] f fd) (S : FnScope N ps scope) (len : ∀ es Q, spec es Q → es.length = ps.length)
    (hb : ∀ (cdv : Value) (A : Around) (outer : List Env) (s : Shared) (H : Hp) (E : XK) (g : G0), g.s0.tb = TB → Room k (A.deeper (envOfC qual scope s.heap.objs.size f cdv)) → PSsW (cxOf CX0 P w K mg base N qual scope f cdv A outer s H E).nox g (fun _ _ => False) body t)
    (hp : ∀ es Q, spec es Q → t { nx := fun _ => Q (.val .non), rt := Q } (startW N.length es)) : FnOk P w K mg base CX0 (k + 1) f fd ps (spU K TB spec) := by
  refine F.ok S (fun vs H Q E h => ?_) (fun cdv A outer s H vs Q E hr h => ?_)
  · obtain ⟨g, es, Q0, _, _, _, _, r, hs, _⟩ := h
    rw [← r.length]
    exact len es Q0 hs
  · obtain ⟨⟨He, O, s0⟩, es, Q0, rfl, htb, al, st, r, hs, kk⟩ := h
    refine ⟨_, PSs.nox (hb cdv A outer s _ E ⟨He, O, s0⟩ htb hr), [], _, _, start_rel (g := ⟨He, O, s0⟩) (N := N) al st r, hp es Q0 hs, ?_⟩
    refine ⟨fun w' q A' σ' H' R' l => ?_, fun _ q => q.elim, fun _ q => q.elim, fun r q v H' o rr => ?_, fun _ q => q.elim⟩
    · exact kk _ q _ _ R'.since R'.st.cont .non
    · exact kk _ q _ _ o.1 o.2 rr
/-- a def of the program's own that stands and keeps its word -/
structure Has (P : Program) (w : World) (K : PySem.W.Frag) (mg : Str → Option Value) (base : Heap) (TB : List Addr) (k : Nat) (x : Str) (ps : List Str) (spec : Spec) : Prop where
  ex : ∃ f fd, FnOk P w K mg base CX0 k f fd ps (spU K TB spec) ∧ mg x = some (.ref f) ∧ PySem.W.keepIn K (.ref f) = true ∧ Binds K fd ps []
end
section
variable {X : Cx} {g : G0} {k : Nat} {ps : List Str} {spec : Spec} {TB : List Addr} {x : Str} {p pos : Pos} {e : Expr} {es : List Expr} {ta : TWa}
theorem e_own (h : Has X.prog X.w X.K X.mg X.base TB k x ps spec) (htb : g.s0.tb = TB) (hr : Room k X.A) (ha : PAW X g (e :: es) ta) (hg : Gl X x := by rfl) (hdb : (x == ("__debug__" : Str)) = false := by decide)
    (he : starEach (e :: es) X.env = (false, eval e X.env) :: starEach es X.env := by rfl) (hpl : (backTo pos (starEach es X.env)).any (·.1) = false := by rfl) : PEW X g (.Call (.Name x p) (e :: es) [] pos) (eFn spec ta) := by
  obtain ⟨f, fd, F, hm, hk, hb⟩ := h.ex
  exact e_call F htb hr hg hm hk hb ha hdb he hpl
theorem f_own (h : Has X.prog X.w X.K X.mg X.base TB k x ps spec) (htb : g.s0.tb = TB) (hr : Room k X.A) (ha : PAW X g (e :: es) ta) (hg : Gl X x := by rfl) (hdb : (x == ("__debug__" : Str)) = false := by decide)
    (he : starEach (e :: es) X.env = (false, eval e X.env) :: starEach es X.env := by rfl) (hpl : (backTo pos (starEach es X.env)).any (·.1) = false := by rfl) : PFW X g (.Call (.Name x p) (e :: es) [] pos) (fFn spec ta) := by
  obtain ⟨f, fd, F, hm, hk, hb⟩ := h.ex
  exact f_call F htb hr hg hm hk hb ha hdb he hpl
end

/-! ### the built-in names stand -/
structure Blt (mg : Str → Option Value) : Prop where
  len : mg "len" = none
  range : mg "range" = none
  isinstance : mg "isinstance" = none
  tuple : mg "tuple" = none
  int : mg "int" = none
  list : mg "list" = none
  sorted : mg "sorted" = none
  any : mg "any" = none
  all : mg "all" = none
  abs : mg "abs" = none
  str : mg "str" = none
  min : mg "min" = none
  bool : mg "bool" = none
section
variable {X : Cx} {g : G0} {a b : Expr} {ta tb : TW} {p pos : Pos}
theorem e_len (T : Blt X.mg) (ha : PEW X g a ta) (hg : Gl X "len" := by rfl) (h1 : starEach [a] X.env = (false, eval a X.env) :: starEach [] X.env := by rfl) (h2 : (backTo pos (starEach [] X.env)).any (·.1) = false := by rfl) : PEW X g (.Call (.Name "len" p) [a] [] pos) (eCall cLen (aCons ta aNil)) :=
  e_callB len_ok len_w hg T.len (by decide +kernel) (a_cons ha a_nil h1) (by decide) (by decide) h1 h2
theorem e_abs (T : Blt X.mg) (ha : PEW X g a ta) (hg : Gl X "abs" := by rfl) (h1 : starEach [a] X.env = (false, eval a X.env) :: starEach [] X.env := by rfl) (h2 : (backTo pos (starEach [] X.env)).any (·.1) = false := by rfl) : PEW X g (.Call (.Name "abs" p) [a] [] pos) (eCall cAbs (aCons ta aNil)) :=
  e_callB call_abs abs_w hg T.abs (by decide +kernel) (a_cons ha a_nil h1) (by decide) (by decide) h1 h2
theorem e_min2 (hc : X.calm = true) (T : Blt X.mg) (ha : PEW X g a ta) (hb : PEW X g b tb) (hg : Gl X "min" := by rfl) (h1 : starEach [a, b] X.env = (false, eval a X.env) :: starEach [b] X.env := by rfl) (h3 : starEach [b] X.env = (false, eval b X.env) :: starEach [] X.env := by rfl) (h2 : (backTo pos (starEach [b] X.env)).any (·.1) = false := by rfl) : PEW X g (.Call (.Name "min" p) [a, b] [] pos) (eCall cMin2 (aCons ta (aCons tb aNil))) :=
  e_callB (call_min2 hc) min2_w hg T.min (by decide +kernel) (a_cons ha (a_cons hb a_nil h3) h1) (by decide) (by decide) h1 h2
theorem e_toInt (T : Blt X.mg) (ha : PEW X g a ta) (hg : Gl X "int" := by rfl) (h1 : starEach [a] X.env = (false, eval a X.env) :: starEach [] X.env := by rfl) (h2 : (backTo pos (starEach [] X.env)).any (·.1) = false := by rfl) : PEW X g (.Call (.Name "int" p) [a] [] pos) (eCall cInt (aCons ta aNil)) :=
  e_callTy call_int1 int_cw hg T.int (by decide +kernel) (a_cons ha a_nil h1) (by decide) (by decide) h1 h2
theorem e_toStr (T : Blt X.mg) (ha : PEW X g a ta) (hg : Gl X "str" := by rfl) (h1 : starEach [a] X.env = (false, eval a X.env) :: starEach [] X.env := by rfl) (h2 : (backTo pos (starEach [] X.env)).any (·.1) = false := by rfl) : PEW X g (.Call (.Name "str" p) [a] [] pos) (eCall cStr (aCons ta aNil)) :=
  e_callTy call_str_int str_cw hg T.str (by decide +kernel) (a_cons ha a_nil h1) (by decide) (by decide) h1 h2
theorem e_tuple (T : Blt X.mg) (ha : PEW X g a ta) (hg : Gl X "tuple" := by rfl) (h1 : starEach [a] X.env = (false, eval a X.env) :: starEach [] X.env := by rfl) (h2 : (backTo pos (starEach [] X.env)).any (·.1) = false := by rfl) : PEW X g (.Call (.Name "tuple" p) [a] [] pos) (eCall cTuple (aCons ta aNil)) :=
  e_callTy call_tuple_of tuple_w hg T.tuple (by decide +kernel) (a_cons ha a_nil h1) (by decide) (by decide) h1 h2
theorem f_list (T : Blt X.mg) (ha : PEW X g a ta) (hg : Gl X "list" := by rfl) (h1 : starEach [a] X.env = (false, eval a X.env) :: starEach [] X.env := by rfl) (h2 : (backTo pos (starEach [] X.env)).any (·.1) = false := by rfl) : PFW X g (.Call (.Name "list" p) [a] [] pos) (fCall fcList (aCons ta aNil)) :=
  f_callTy call_list_of list_f hg T.list (by decide +kernel) (a_cons ha a_nil h1) (by decide) (by decide) h1 h2
section
variable {p1 : Pos} {h1 : Nat}
theorem e_isInt (T : Blt X.mg) (ha : PEW X g a ta) (hg : Gl X "isinstance" := by rfl) (hg2 : Gl X "int" := by rfl) (he1 : starEach [a, .Name "int" p1] X.env = (false, eval a X.env) :: starEach [.Name "int" p1] X.env := by rfl) (he2 : starEach [.Name "int" p1] X.env = (false, eval (.Name "int" p1) X.env) :: starEach [] X.env := by rfl) (hpl : (backTo pos (starEach [.Name "int" p1] X.env)).any (·.1) = false := by rfl) :
    PEW X g (.Call (.Name "isinstance" p) [a, .Name "int" p1] [] pos) (eIsi "int" ta) := e_isi ha (ty_name hg2 T.int (by decide +kernel)) hg T.isinstance he1 he2 hpl
theorem e_isBool (T : Blt X.mg) (ha : PEW X g a ta) (hg : Gl X "isinstance" := by rfl) (hg2 : Gl X "bool" := by rfl) (he1 : starEach [a, .Name "bool" p1] X.env = (false, eval a X.env) :: starEach [.Name "bool" p1] X.env := by rfl) (he2 : starEach [.Name "bool" p1] X.env = (false, eval (.Name "bool" p1) X.env) :: starEach [] X.env := by rfl) (hpl : (backTo pos (starEach [.Name "bool" p1] X.env)).any (·.1) = false := by rfl) :
    PEW X g (.Call (.Name "isinstance" p) [a, .Name "bool" p1] [] pos) (eIsi "bool" ta) := e_isi ha (ty_name hg2 T.bool (by decide +kernel)) hg T.isinstance he1 he2 hpl
theorem e_isStr (T : Blt X.mg) (ha : PEW X g a ta) (hg : Gl X "isinstance" := by rfl) (hg2 : Gl X "str" := by rfl) (he1 : starEach [a, .Name "str" p1] X.env = (false, eval a X.env) :: starEach [.Name "str" p1] X.env := by rfl) (he2 : starEach [.Name "str" p1] X.env = (false, eval (.Name "str" p1) X.env) :: starEach [] X.env := by rfl) (hpl : (backTo pos (starEach [.Name "str" p1] X.env)).any (·.1) = false := by rfl) :
    PEW X g (.Call (.Name "isinstance" p) [a, .Name "str" p1] [] pos) (eIsi "str" ta) := e_isi ha (ty_name hg2 T.str (by decide +kernel)) hg T.isinstance he1 he2 hpl
theorem e_isTuple (T : Blt X.mg) (ha : PEW X g a ta) (hg : Gl X "isinstance" := by rfl) (hg2 : Gl X "tuple" := by rfl) (he1 : starEach [a, .Name "tuple" p1] X.env = (false, eval a X.env) :: starEach [.Name "tuple" p1] X.env := by rfl) (he2 : starEach [.Name "tuple" p1] X.env = (false, eval (.Name "tuple" p1) X.env) :: starEach [] X.env := by rfl) (hpl : (backTo pos (starEach [.Name "tuple" p1] X.env)).any (·.1) = false := by rfl) :
    PEW X g (.Call (.Name "isinstance" p) [a, .Name "tuple" p1] [] pos) (eIsi "tuple" ta) := e_isi ha (ty_name hg2 T.tuple (by decide +kernel)) hg T.isinstance he1 he2 hpl
end
/-! ### unary minus, * -/
def eNeg (ta : TW) : TW := fun w Q => ta w fun x w1 => match x with
  | .d (.int i) => Q (.d (.int (-i))) w1
  | _ => False
theorem e_neg (ha : PEW X g a ta) : PEW X g (.UnaryOp .USub a pos) (eNeg ta) :=
  PE.imp (pe_un un_neg ha) fun σ H Q ⟨A, w, Q0, R0, q, k⟩ => ⟨A, w, _, R0, q, fun x w1 q1 v H1 R1 r1 l1 => by
    split at q1
    · cases r1
      exact ⟨_, rfl, k _ _ q1 _ _ R1 (.int _) l1⟩
    · exact q1.elim⟩
abbrev oMulI := oInt CMul fun i j => .int (i * j)
theorem e_mulI (ha : PEW X g a ta) (hb : PEW X g b tb) : PEW X g (.BinOp a .Mult b pos) (eOp oMulI ta tb) := e_op op_mul (int_w fun _ _ _ => .int _) ha hb
end
end OW


namespace OW
open PySem PySem.Spec PyProof.Rows L2 GenX

section
variable {X : Cx} {g : G0} {K : PySem.W.Frag}
/-! ### any, all over a generator expression -/
def anyW (stop : Bool) (gt : TGw) (te : TW) (w : W) : List D → (Bool → Prop) → Prop
  | [], Q => Q (!stop)
  | x :: r, Q => gt x w fun w1 => te w1 fun e w2 => w2 = w1 ∧ match e with
      | .d (.bl b) => if b = stop then Q stop else anyW stop gt te w r Q
      | _ => False
def eAny (stop : Bool) (ti : TIw) (gt : TGw) (te : TW) (vs : List Nat) : TW := fun w Q => ti w fun xs w1 => okWipe w1 vs ∧ anyW stop gt te (wipeW w1 vs) xs fun b => Q (.d (.bl b)) w1
/-- the block is left -/
theorem Rel.unwipe {A : List Addr} {w : W} {σ : L2.St} {H H' : Hp} {vs : List Nat} (R0 : Rel (gmK K g) [] A w σ H) (R1 : Rel (gmK K g) [] A (wipeW w vs) (wipe σ vs) H') (l : GLe (vis g A H) (vis g A H')) (ok : okWipe w vs) : Rel (gmK K g) [] A w σ H' :=
  ⟨slots_back l R0.slots R1.slots ok, R1.nd, R1.own, R1.since, R1.alloc, R1.st⟩
theorem Rel.tabbed {A : List Addr} {w : W} {σ : L2.St} {H H' : Hp} {P : Addr} (R0 : Rel (gmK K g) [] A w σ H) (hP : P ∈ g.s0.tb) (t : GxR.Tabbed P H H') : Rel (gmK K g) [] A w σ H' ∧ GLe (vis g A H) (vis g A H') := by
  obtain ⟨t1, t2⟩ := t
  refine R0.keep (fun b o e n => ?_) ⟨fun s c e => ?_, fun P' hP' => ?_⟩
  · rw [t2 b fun z => n.2 (by rw [z]; exact hP)]
    exact e
  · obtain ⟨a, i, n, sd, k, h1, h2, h3⟩ := R0.st.cont.1 s c e
    refine ⟨a, i, n, sd, k, h1, h2, ?_⟩
    rw [t2 s fun z => R0.st.stT s c e (by rw [z]; exact hP)]
    exact h3
  · by_cases z : P' = P
    · rw [z]; exact t1
    · obtain ⟨ps, h1, h2⟩ := R0.st.cont.2 P' hP'
      exact ⟨ps, by rw [t2 P' z]; exact h1, h2⟩
theorem any_turns {stop : Bool} {is vs : List Nat} {gt : TGw} {te : TW} (sub : ∀ i ∈ is, i ∈ vs) (only : GOnly gt vs) {A : List Addr} {w : W} {σ : L2.St} {H1 : Hp} {xs : List D} {J : It} {Q0 : E → W → Prop} {Q : VK} {P : Addr}
    (R0 : Rel (gmK K g) [] A w σ H1) (hP : P ∈ g.s0.tb) (wk : Walk K (vis g A H1) J xs) (ok : okWipe w vs) (q : anyW stop gt te (wipeW w vs) xs fun b => Q0 (.d (.bl b)) w) (k : Then K g A σ H1 Q0 Q) (H2 : Hp) (hT : GxR.Tabbed P H1 H2) :
    ∃ Wv : Nat → Nat → Hp → Prop, (∃ m, Wv 0 m H2) ∧ Turns J (upG K g is gt) (up K g te) stop vs σ Wv Q := by
  obtain ⟨R2, lT⟩ := R0.tabbed hP hT
  have Rw := (wipe_ok R2 ok).1
  have okw : okWipe (wipeW w vs) vs := fun v hv => wipeW_plain (ok v hv)
  have ww : wipeW (wipeW w vs) vs = wipeW w vs := by
    have : ∀ us : List Nat, (∀ u ∈ us, u ∈ vs) → wipeW (wipeW w us) vs = wipeW w vs := fun us => by
      induction us with
      | nil => intro _; rfl
      | cons u us ih =>
        intro h
        show wipeW ((wipeW w us).set u .un) vs = _
        rw [wipeW_only (h u (List.mem_cons_self ..)), ih fun y hy => h y (List.mem_cons_of_mem _ hy)]
    exact this vs fun _ h => h
  let Pv : Nat → Hp → Prop := fun i H => Rel (gmK K g) [] A (wipeW w vs) (wipe σ vs) H ∧ GLe (vis g A H1) (vis g A H) ∧ anyW stop gt te (wipeW w vs) (xs.drop i) fun b => Q0 (.d (.bl b)) w
  refine ⟨fun i m H => m = xs.length - i ∧ i ≤ xs.length ∧ Pv i H, ⟨xs.length, by simp, Nat.zero_le _, Rw, lT, by simpa using q⟩, ?_⟩
  rintro i m H ⟨rfl, hi, R3, l3, q3⟩
  by_cases hlt : i < xs.length
  · obtain ⟨g1, g2⟩ := wk.go H i xs[i] (l3.trans hid_le) (by simp [hlt])
    rw [List.drop_eq_getElem_cons hlt] at q3
    refine .inr ⟨g1, Pv (i + 1), fun H' p => ⟨xs.length - (i + 1), by omega, rfl, hlt, p⟩, fun x H3 y => ?_⟩
    obtain ⟨e, rx⟩ := g2 x H3 y
    subst e
    refine ⟨A, wipeW w vs, _, _, R3, rx.mono l3, only _ _ _ okw q3, fun w4 ⟨q4, ew4, ok4⟩ σ4 H4 R4 so l4 => ?_⟩
    have eσ : wipe σ4 vs = wipe σ vs := (wipe_only so sub).trans (wipe_wipe σ vs)
    have back : ∀ {H5 : Hp}, Rel (gmK K g) [] A w4 σ4 H5 → Rel (gmK K g) [] A (wipeW w vs) (wipe σ vs) H5 := fun {H5} R5 => by
      have := (wipe_ok R5 ok4).1
      rw [ew4, ww, eσ] at this
      exact this
    refine ⟨eσ, A, w4, _, R4, q4, fun e w5 q5 v H5 R5 r5 l5 => ?_⟩
    obtain ⟨ew5, q5⟩ := q5
    subst ew5
    split at q5
    · rename_i b
      cases r5
      refine ⟨b, rfl, ?_⟩
      have R6 := back R5
      have l6 := (l3.trans l4).trans l5
      by_cases hb : b = stop
      · rw [if_pos hb] at q5 ⊢
        exact k _ _ q5 _ _ (R0.unwipe R6 l6 ok) (.bl _) l6
      · rw [if_neg hb] at q5 ⊢
        exact ⟨R6, l6, q5⟩
    · exact q5.elim
  · have e : i = xs.length := by omega
    subst e
    rw [List.drop_length] at q3
    exact .inl ⟨wk.stop H _ (l3.trans hid_le) (Nat.le_refl _), k _ _ q3 _ _ (R0.unwipe R3 l3 ok) (.bl _) l3⟩
section
variable {c P : Addr} {elt tg iter : Expr} {scope : Scope} {own : List (Str × Nat)} {p pos gpos : Pos} {ti : TIw} {is : List Nat} {gt : TGw} {te : TW} {k : Nat}
theorem up_any {stop : Bool} (hP : P ∈ g.s0.tb) (only : GOnly gt (own.map (·.2))) (sub : ∀ i ∈ is, i ∈ own.map (·.2)) (σ : L2.St) (H : Hp) (Q : VK) (h : up K g (eAny stop ti gt te (own.map (·.2))) σ H Q) : tAG stop P (upI K g ti) (upG K g is gt) (up K g te) (own.map (·.2)) σ H Q := by
  obtain ⟨A, w, Q0, R0, q, k⟩ := h
  exact ⟨A, w, _, R0, q, fun xs w1 q1 J H1 R1 wk l1 => ⟨R1.st.cont.2 P hP, fun H2 hT => any_turns sub only R1 hP wk q1.1 q1.2 (k.comp l1) H2 hT⟩⟩
theorem e_any (hc : X.calm = true) (hN : X.N.Nodup) (hr : Room k X.A) (T : Blt X.mg) (TBf : GxR.TabB X.base X.mg c P) (hcode : X.env.code = .ref c) (hP : P ∈ g.s0.tb) (hi : PIW X g tg iter ti) (gs : GSc scope) (ok : BlkOk X.N X.env.scope scope own)
    (hgt : ∀ (s : Shared) (H : Hp) (C : Addr) (code : Value) (fp : List Addr) (pn : List (Addr × Obj)), PGW (gblk X s H (gEnv X scope C code) fp (X.A.in1.in1.deeper (gEnv X scope C code)) pn) g is tg gt)
    (he : ∀ (s : Shared) (H : Hp) (C : Addr) (code : Value) (fp : List Addr) (pn : List (Addr × Obj)), PEW (gblk X s H (gEnv X scope C code) fp (X.A.in1.in1.deeper (gEnv X scope C code)) pn) g elt te)
    (only : GOnly gt (own.map (·.2))) (sub : ∀ i ∈ is, i ∈ own.map (·.2) := by decide) (hg : Gl X "any" := by rfl) (hs : ∀ v, genFold iter X.env v = pure v := by intro _; rfl)
    (hse : starEach [.GeneratorExp elt [⟨tg, iter, [], 0⟩] scope gpos] X.env = (false, eval (.GeneratorExp elt [⟨tg, iter, [], 0⟩] scope gpos) X.env) :: starEach [] X.env := by rfl) :
    PEW X g (.Call (.Name "any" p) [.GeneratorExp elt [⟨tg, iter, [], 0⟩] scope gpos] [] pos) (eAny true ti gt te (own.map (·.2))) :=
  PE.imp (pe_anyG (own := own) hc hN hr hg T.any TBf hcode gs ok hi hgt he hs hse) (up_any hP only sub)
theorem e_all (hc : X.calm = true) (hN : X.N.Nodup) (hr : Room k X.A) (T : Blt X.mg) (TBf : GxR.TabB X.base X.mg c P) (hcode : X.env.code = .ref c) (hP : P ∈ g.s0.tb) (hi : PIW X g tg iter ti) (gs : GSc scope) (ok : BlkOk X.N X.env.scope scope own)
    (hgt : ∀ (s : Shared) (H : Hp) (C : Addr) (code : Value) (fp : List Addr) (pn : List (Addr × Obj)), PGW (gblk X s H (gEnv X scope C code) fp (X.A.in1.in1.deeper (gEnv X scope C code)) pn) g is tg gt)
    (he : ∀ (s : Shared) (H : Hp) (C : Addr) (code : Value) (fp : List Addr) (pn : List (Addr × Obj)), PEW (gblk X s H (gEnv X scope C code) fp (X.A.in1.in1.deeper (gEnv X scope C code)) pn) g elt te)
    (only : GOnly gt (own.map (·.2))) (sub : ∀ i ∈ is, i ∈ own.map (·.2) := by decide) (hg : Gl X "all" := by rfl) (hs : ∀ v, genFold iter X.env v = pure v := by intro _; rfl)
    (hse : starEach [.GeneratorExp elt [⟨tg, iter, [], 0⟩] scope gpos] X.env = (false, eval (.GeneratorExp elt [⟨tg, iter, [], 0⟩] scope gpos) X.env) :: starEach [] X.env := by rfl) :
    PEW X g (.Call (.Name "all" p) [.GeneratorExp elt [⟨tg, iter, [], 0⟩] scope gpos] [] pos) (eAny false ti gt te (own.map (·.2))) :=
  PE.imp (pe_allG (own := own) hc hN hr hg T.all TBf hcode gs ok hi hgt he hs hse) (up_any hP only sub)
theorem room_gen {A : Around} {env : Env} (r : Room (k + 3) A) : Room k (A.in1.in1.deeper env) := r.in1.in1.deeper env
end
end

/-! ### a def with generator expressions: its code object -/
section
variable {P : Program} {w : World} {K : PySem.W.Frag} {mg : Str → Option Value} {base : Heap} {x qual : Str} {params : Arguments} {body : List Stmt} {scope : Scope} {f : Addr} {fd : FuncData} {N ps : List Str} {k : Nat} {spec : Spec} {t : SW} {TB : List Addr}
theorem def_okT {c : Addr} {nm : He.Defn} (F : FunD K x qual params body scope [] [] f fd) (hf : f = He.fAd K nm) (hc : He.codeOf K nm = c) (S : FnScope N ps scope) (len : ∀ es Q, spec es Q → es.length = ps.length)
    (hb : ∀ (A : Around) (outer : List Env) (s : Shared) (H : Hp) (E : XK) (g : G0), g.s0.tb = TB → Room k (A.deeper (envOfC qual scope s.heap.objs.size f (.ref c))) → PSsW (cxOf CX0 P w K mg base N qual scope f (.ref c) A outer s H E).nox g (fun _ _ => False) body t)
    (hp : ∀ es Q, spec es Q → t { nx := fun _ => Q (.val .non), rt := Q } (startW N.length es)) : FnOk P w K mg base CX0 (k + 1) f fd ps (spU K TB spec) := by
  obtain ⟨oc, od, dV, kV, doc, pm, an, cdv, ct, osl, rfl, lk, hcd, _, _⟩ := F.ex
  obtain ⟨c', rfl⟩ := He.codeIn_ref hcd
  have ec : c' = c := by
    rw [← hc]
    subst hf
    exact (He.codeOf_eq lk rfl).symm
  subst ec
  refine fn_of lk hcd S (fun vs H Q E h => ?_) (fun A outer s H vs Q E hr h => ?_)
  · obtain ⟨g, es, Q0, _, _, _, _, r, hs, _⟩ := h
    rw [← r.length]
    exact len es Q0 hs
  · obtain ⟨⟨He, O, s0⟩, es, Q0, rfl, htb, al, st, r, hs, kk⟩ := h
    refine ⟨_, PSs.nox (hb A outer s _ E ⟨He, O, s0⟩ htb hr), [], _, _, start_rel (g := ⟨He, O, s0⟩) (N := N) al st r, hp es Q0 hs, ?_⟩
    refine ⟨fun w' q A' σ' H' R' l => ?_, fun _ q => q.elim, fun _ q => q.elim, fun r q v H' o rr => ?_, fun _ q => q.elim⟩
    · exact kk _ q _ _ R'.since R'.st.cont .non
    · exact kk _ q _ _ o.1 o.2 rr
end
end OW


namespace OW
open PySem PySem.Spec PyProof.Rows L2

/-! ### tuple * int: once, or none -/
theorem tmul_same (l : Addr) (items : Array Value) (n : Nat) (dd : Option Addr) (sl : Array (Option Value)) (x : Int) (u : Tok) (c0 : (decide (x < -(2 ^ 63)) || decide (x ≥ 2 ^ 63)) = false) (c1 : (items.isEmpty || x == 1) = true) :
    Meets (Builtin.«tuple.__mul__» ⟨[.ref l, .int x u], []⟩) (fun _ R s => s.heap.get? l = some { cls := .type "tuple", dict := dd, data := .seq items n, slots := sl } ∧
      R (.ok (.ret (Value.ref l))) { s with heap := s.heap, toks := s.toks }) :=
  .of_wp fun prog w A R s h => by
    obtain ⟨hp, g, d, tk, os⟩ := s
    obtain ⟨hl, h⟩ := h
    have f1 := AutoSeq1.idx_int
    have f2 := AutoSeq1.sub_tuple_tuple
    wp_walk using wpAny_loadPart' hl
    repeat (first
      | (refine wpAny_ite_false (decide_eq_false (by rw [c0]; exact Bool.false_ne_true)) ?_; wp_walk using wpAny_loadPart' hl)
      | (refine wpAny_ite_true (decide_eq_true c1) ?_; wp_walk using wpAny_loadPart' hl))
    exact ⟨_, rfl, h⟩
theorem tmul_none (l : Addr) (items : Array Value) (n : Nat) (dd : Option Addr) (sl : Array (Option Value)) (x : Int) (u : Tok) (c0 : (decide (x < -(2 ^ 63)) || decide (x ≥ 2 ^ 63)) = false) (c1 : (items.isEmpty || x == 1) = false) (c2 : (decide (x ≤ 0) || items.isEmpty) = true) :
    Meets (Builtin.«tuple.__mul__» ⟨[.ref l, .int x u], []⟩) (fun _ R s => s.heap.get? l = some { cls := .type "tuple", dict := dd, data := .seq items n, slots := sl } ∧
      R (.ok (.ret (Value.ref s.heap.objs.size))) { s with heap := s.heap.push { cls := Value.type "tuple", data := Data.seq #[] }, toks := s.toks }) :=
  .of_wp fun prog w A R s h => by
    obtain ⟨hp, g, d, tk, os⟩ := s
    obtain ⟨hl, h⟩ := h
    have f1 := AutoSeq1.idx_int
    wp_walk using wpAny_loadPart' hl
    repeat (first
      | (refine wpAny_ite_false (decide_eq_false (by rw [c0]; exact Bool.false_ne_true)) ?_; wp_walk using wpAny_loadPart' hl)
      | (refine wpAny_ite_false (decide_eq_false (by rw [c1]; exact Bool.false_ne_true)) ?_; wp_walk using wpAny_loadPart' hl)
      | (refine wpAny_ite_true (decide_eq_true c2) ?_; wp_walk using wpAny_loadPart' hl))
    exact ⟨_, rfl, h⟩
/-- tuple * int, the tuple not empty -/
def rRepA (K : PySem.W.Frag) : R2 := fun x y H Q => ∃ l k xs, x = .ref l ∧ y = .int k ∧ SqT K H l xs ∧ xs ≠ [] ∧ 0 ≤ k ∧ k ≤ 1000 ∧ xs.length ≤ 1000 ∧ (k = 1 → Q (.ref l) H) ∧ (k ≠ 1 → ∀ p, H p = none → Q (.ref p) (upd H p (.tup (List.replicate k.toNat xs).flatten)))
section
variable {X : Cx} {g : G0} {K : PySem.W.Frag}
theorem op_repA : OpR X (binaryOp .Mult) (rRepA X.K) := by
  intro pins s σ H x y v u Q I rx ry h
  obtain ⟨l, k, xs, rfl, rfl, hT, hne, h1, h2, hz, q1, q⟩ := h
  by_cases k2 : 2 ≤ k
  · exact op_repT pins s σ H _ _ v u Q I rx ry ⟨l, k, xs, rfl, rfl, hT, hne, k2, h2, hz, q (by omega)⟩
  cases rx
  obtain ⟨t, rfl⟩ := ry
  obtain ⟨its, r, ⟨⟨cls, dd, data, sl⟩, ho, hc, n, hd⟩, hs⟩ := I.tuple hT
  simp only at hc hd
  subst hc hd
  have hle : its.length = xs.length := r.length.symm
  have hi : its.toArray.isEmpty = false := by
    cases its with
    | nil =>
      exfalso
      apply hne
      exact List.eq_nil_of_length_eq_zero hle.symm
    | cons a b => rfl
  have c0 : (decide (k < -(2 ^ 63)) || decide (k ≥ 2 ^ 63)) = false := by
    rw [decide_eq_false (by omega), decide_eq_false (by omega)] <;> rfl
  by_cases ek : k = 1
  · have c1 : (its.toArray.isEmpty || k == 1) = true := by rw [ek]; simp
    refine wpAny_binaryOp_repeat_ref (T := "tuple") (U := "int") (by decide) ⟨_, ho, rfl⟩ (fun s' => typeIs_int s' k t) noFill_tuple_mul F.fills_int_mul F.slot_int_rmul repeat_tuple F.slot_int_index.lookup
      (call_meets F.slot_int_rmul (typeIs_int s k t) F.entry_int_rmul (F.args_int_rmul_2 _ _) (int_rmul_tuple k t l its.toArray n dd sl)
        ⟨ho, rfl, ⟨_, ho, rfl⟩, call_meets F.slot_tuple_mul ⟨_, ho, rfl⟩ F.entry_tuple_mul (F.args_tuple_mul_2 _ _) (tmul_same l its.toArray n dd sl k t c0 c1) ⟨ho, ?_⟩⟩)
    exact ⟨.ref l, H, I, rfl, q1 ek⟩
  · have c1 : (its.toArray.isEmpty || k == 1) = false := by
      rw [hi, Bool.false_or]
      exact beq_eq_false_iff_ne.mpr ek
    have c2 : (decide (k ≤ 0) || its.toArray.isEmpty) = true := by
      rw [decide_eq_true (by omega)] <;> rfl
    refine wpAny_binaryOp_repeat_ref (T := "tuple") (U := "int") (by decide) ⟨_, ho, rfl⟩ (fun s' => typeIs_int s' k t) noFill_tuple_mul F.fills_int_mul F.slot_int_rmul repeat_tuple F.slot_int_index.lookup
      (call_meets F.slot_int_rmul (typeIs_int s k t) F.entry_int_rmul (F.args_int_rmul_2 _ _) (int_rmul_tuple k t l its.toArray n dd sl)
        ⟨ho, rfl, ⟨_, ho, rfl⟩, call_meets F.slot_tuple_mul ⟨_, ho, rfl⟩ F.entry_tuple_mul (F.args_tuple_mul_2 _ _) (tmul_none l its.toArray n dd sl k t c0 c1 c2) ⟨ho, ?_⟩⟩)
    have ez : (List.replicate k.toNat xs).flatten = [] := by
      have : k.toNat = 0 := by omega
      rw [this] <;> rfl
    have q := q ek
    rw [ez] at q
    refine ⟨.ref s.heap.objs.size, _, I.laid (t' := s.toks) (o := .tup []) (fun b ob q => Heap.get?_push_of_some _ q) (Nat.le_refl _) ?_, rfl, q _ (I.hok.fresh (Nat.le_refl _))⟩
    exact ⟨Nat.zero_le _, [], .nil, IsTup.new _ _⟩
def oMulT (x y : E) (w : W) (Q : E → W → Prop) : Prop := match x, y with
  | .d (.tup xs), .d (.int k) => xs ≠ [] ∧ 0 ≤ k ∧ k ≤ 1000 ∧ xs.length ≤ 1000 ∧ Q (.d (.tup (List.replicate k.toNat xs).flatten)) w
  | _, _ => False
theorem Reps.flat {G : Hp} {ds : List D} {vs : List V} (r : Reps K G ds vs) : ∀ n : Nat, Reps K G (List.replicate n ds).flatten (List.replicate n vs).flatten
  | 0 => .nil
  | n + 1 => by
    rw [List.replicate_succ, List.replicate_succ, List.flatten_cons, List.flatten_cons]
    exact r.append (Reps.flat r n)
theorem mulT_w : OpW K g (rRepA K) oMulT := by
  intro A w σ H x y vx vy Q0 Q R rx ry h k
  unfold oMulT at h
  split at h
  · rename_i xs n
    obtain ⟨h0, h1, h2, h3, h⟩ := h
    obtain ⟨a, vs, rfl, ha, ra⟩ := itT_ok rx rfl
    cases ry
    have hl := ra.length
    refine ⟨a, n, vs, rfl, rfl, ha, fun e => h0 (by rw [e] at hl; exact List.eq_nil_of_length_eq_zero hl), h1, h2, by omega, fun e => ?_, fun e p hp => newTup R (ra.flat _) h k p hp⟩
    have e2 : (List.replicate n.toNat xs).flatten = xs := by rw [e]; simp
    rw [e2] at h
    exact k _ _ h _ _ R rx (GLe.refl _)
  · exact h.elim
theorem e_mulT {a b : Expr} {ta tb : TW} {pos : Pos} (ha : PEW X g a ta) (hb : PEW X g b tb) : PEW X g (.BinOp a .Mult b pos) (eOp oMulT ta tb) := e_op op_repA mulT_w ha hb

/-! ### list(range(..)) -/
def fRange1 (ta : TWa) : TWn := fun w Q => ta w fun xs w1 => match xs with
  | [.d (.int j)] => L2.RgOk 0 j ∧ Q (rangeD 0 j.toNat) w1
  | _ => False
def fRange2 (ta : TWa) : TWn := fun w Q => ta w fun xs w1 => match xs with
  | [.d (.int i), .d (.int j)] => L2.RgOk i j ∧ Q (rangeD i (j - i).toNat) w1
  | _ => False
theorem rg_reps {G : Hp} (a b : Int) : Reps K G (rangeD a (b - a).toNat) (rgV a b) := by
  unfold rangeD rgV
  have go : ∀ l : List Nat, Reps K G (l.map fun (i : Nat) => D.int (a + (i : Int))) (l.map fun i => V.int (a + (i : Nat))) := fun l => by
    induction l with
    | nil => exact .nil
    | cons x r ih => exact .cons (.int _) ih
  exact go _
/-- range's bounds read off an argument list -/
theorem f_listRg1 {a : Expr} {ta : TW} {p1 p pos1 pos : Pos} (hc : X.calm = true) (T : Blt X.mg) (ha : PEW X g a ta) (hg : Gl X "list" := by rfl) (hg2 : Gl X "range" := by rfl) (na : starEach [a] X.env = (false, eval a X.env) :: starEach [] X.env := by rfl)
    (na2 : starEach [.Call (.Name "range" p1) [a] [] pos1] X.env = (false, eval (.Call (.Name "range" p1) [a] [] pos1) X.env) :: starEach [] X.env := by rfl) : PFW X g (.Call (.Name "list" p) [.Call (.Name "range" p1) [a] [] pos1] [] pos) (fRange1 (aCons ta aNil)) :=
  PE.imp (pe_listRg hc hg T.list (prg_1 hg2 T.range ha na) na2) fun σ H Q ⟨A, w, Q0, R0, q, k⟩ => ⟨A, w, _, R0, q, fun x w1 q1 v H1 R1 r1 l1 => by
    have q1 : (match [x] with
      | [.d (.int j)] => L2.RgOk 0 j ∧ Q0 (rangeD 0 j.toNat) w1
      | _ => False) := q1
    split at q1
    · rename_i j e
      cases e
      cases r1
      refine ⟨_, rfl, q1.1, fun p hp => newF R1 ?_ q1.2 (k.comp l1) p hp⟩
      have := rg_reps (K := X.K) (G := vis g A H1) 0 j
      simpa using this
    · exact q1.elim⟩
theorem f_listRg2 {a b : Expr} {ta tb : TW} {p1 p pos1 pos : Pos} (hc : X.calm = true) (T : Blt X.mg) (ha : PEW X g a ta) (hb : PEW X g b tb) (hg : Gl X "list" := by rfl) (hg2 : Gl X "range" := by rfl) (na : starEach [a, b] X.env = (false, eval a X.env) :: starEach [b] X.env := by rfl) (nb : starEach [b] X.env = (false, eval b X.env) :: starEach [] X.env := by rfl)
    (hp : (backTo pos1 (starEach [b] X.env)).any (·.1) = false := by rfl)
    (na2 : starEach [.Call (.Name "range" p1) [a, b] [] pos1] X.env = (false, eval (.Call (.Name "range" p1) [a, b] [] pos1) X.env) :: starEach [] X.env := by rfl) : PFW X g (.Call (.Name "list" p) [.Call (.Name "range" p1) [a, b] [] pos1] [] pos) (fRange2 (aCons ta (aCons tb aNil))) :=
  PE.imp (pe_listRg hc hg T.list (prg_2 hg2 T.range ha hb na nb hp) na2) fun σ H Q ⟨A, w, Q0, R0, q, k⟩ => ⟨A, w, _, R0, q, fun x w1 q1 v H1 R1 r1 l1 => ⟨A, w1, _, R1, q1, fun y w2 q2 u H2 R2 r2 l2 => by
    have q2 : (match [x, y] with
      | [.d (.int i), .d (.int j)] => L2.RgOk i j ∧ Q0 (rangeD i (j - i).toNat) w2
      | _ => False) := q2
    split at q2
    · rename_i i j e
      cases e
      cases r1
      cases r2
      exact ⟨_, _, rfl, rfl, q2.1, fun p hp => newF R2 (rg_reps i j) q2.2 (k.comp (l1.trans l2)) p hp⟩
    · exact q2.elim⟩⟩
end
end OW


namespace OW
open PySem PySem.Spec PyProof.Rows L2 HT

/-! ### t[::-1] -/
section
variable {prog : Program} {w : World} {A : Around} {E : Value → Shared → Prop} {s : Shared}
theorem back_bounds (n : Nat) : Builtin.Slice.sliceAdjust none none (-1) (n : Int) = ((n : Int) - 1, -1) := by
  unfold Builtin.Slice.sliceAdjust
  rfl
theorem back_places (n : Nat) : Builtin.Slice.slicePlaces ((n : Int) - 1) (-1) (-1) = n := by
  unfold Builtin.Slice.slicePlaces
  have h1 : ¬ ((-1 : Int) > 0) := by decide
  simp only [h1, if_false]
  by_cases h : (n : Int) - 1 > -1
  · rw [if_pos h]
    have e : ((n : Int) - 1 - -1 - 1) / (- -1) + 1 = (n : Int) := by
      rw [show (- -1 : Int) = 1 by decide, Int.ediv_one]
      omega
    rw [e, Int.toNat_natCast]
  · rw [if_neg h]
    show 0 = n
    omega
theorem back_applied {sl : Addr} {vs : Value} {n : Nat} {Q : Int × Int × Nat → Shared → Prop} (hs : s.heap.IsSliceOf sl .none .none vs) (ps : IsPart vs (some (-1)))
    (h : Q ((n : Int) - 1, -1, n) s) : wpAny (model prog w) A (Builtin.Slice.sliceApplied (.ref sl) (pure (n : Int))) Q E s := by
  obtain ⟨os, hos, hcs, hds⟩ := id hs
  unfold Builtin.Slice.sliceApplied Builtin.Slice.sliceFields
  refine wpAny_bind (wpAny_bind (wpAny_field hos hds (x := .none) rfl (wpAny_bind (wpAny_field hos hds (x := .none) rfl (wpAny_bind (wpAny_field hos hds (x := vs) rfl (wpAny_pure ?_)))))))
  refine wpAny_bind (slicePart_ ps ?_)
  show wpAny _ _ (if ((-1 : Int) == 0) = true then _ else _) _ _ s
  rw [if_neg (by decide)]
  refine wpAny_bind (slicePart_none (wpAny_bind (slicePart_none (wpAny_bind (wpAny_pure ?_)))))
  show wpAny _ _ (match Builtin.Slice.sliceAdjust none none (-1) (n : Int) with | (lo, hi) => pure (lo, (-1 : Int), Builtin.Slice.slicePlaces lo hi (-1))) _ _ s
  rw [back_bounds n]
  show wpAny _ _ (pure ((n : Int) - 1, (-1 : Int), Builtin.Slice.slicePlaces ((n : Int) - 1) (-1) (-1))) _ _ s
  rw [back_places]
  exact wpAny_pure h
theorem back_pick (xs : Array Value) : ((List.range xs.size).filterMap fun (k : Nat) => xs[(((xs.size : Int) - 1) + (k : Int) * (-1)).toNat]?).toArray = xs.toList.reverse.toArray := by
  rw [← PySem.W.krv_all xs, ← List.filterMap_reverse, ← PySem.W.krv_range, List.filterMap_map]
  have cg : ∀ {α β : Type} (f g : α → Option β) (l : List α), (∀ a ∈ l, f a = g a) → l.filterMap f = l.filterMap g := fun f g l => by
    induction l with
    | nil => intro _; rfl
    | cons a r ih =>
      intro h
      rw [List.filterMap_cons, List.filterMap_cons, h a (List.mem_cons_self ..), ih fun b hb => h b (List.mem_cons_of_mem _ hb)]
  rw [cg _ ((fun x => xs[x]?) ∘ fun k => xs.size - 1 - k) (List.range xs.size) fun k hk => ?_]
  have := List.mem_range.mp hk
  have e : (((xs.size : Int) - 1) + (k : Int) * (-1)).toNat = xs.size - 1 - k := by omega
  show xs[_]? = xs[_]?
  rw [e]
theorem getItem_tuple_back {t sl : Addr} {items : Array Value} {vs : Value} {Q : Value → Shared → Prop} (ht : IsTup s.heap t items) (hs : s.heap.IsSliceOf sl .none .none vs) (ps : IsPart vs (some (-1)))
    (h : Q (.ref s.heap.objs.size) { s with heap := s.heap.push { cls := .type "tuple", data := .seq items.toList.reverse.toArray } }) (hsz : items.size ≤ sizeLine) : wpAny (model prog w) A (getItem (.ref t) (.ref sl)) Q E s := by
  have htake : sizeOk (.seq items.toList.reverse.toArray) := by
    show items.toList.reverse.toArray.size ≤ sizeLine
    simpa using hsz
  obtain ⟨os, hos, hcs, hds⟩ := id hs
  have hTs : s.TypeIs (.ref sl) "slice" := ⟨os, hos, hcs⟩
  unfold getItem
  try with_reducible refine wpAny_holding ?_
  first | refine wpAny_bind (wpAny_pure ?_) | skip
  refine wpAny_bind (wpAny_sequenceKey ht.typeIs (by decide) ?_)
  refine wpAny_bind (wpAny_callSpecial?_slot (name := Str.ofString "__getitem__") ht.typeIs PyProof.Rows.slot_tuple_getitem
    (wpAny_call_entry PyProof.Rows.slot_tuple_getitem ht.typeIs entry_tuple_getitem ?_ (args_tuple_getitem _ _)))
  show wpAny _ _ (Builtin.Tuple.tupleItemsOf (.ref t) >>= _) _ _ s
  refine wpAny_bind (tupleItemsOf_ ht ?_)
  refine wpAny_bind (wpAny_typeOf hTs ?_)
  rw [if_pos (by decide)]
  refine wpAny_bind (back_applied hs ps ?_)
  show wpAny _ _ (if (((items.size : Int) - 1) == 0 && (-1 : Int) == 1 && items.size == items.size) = true then _ else _) _ _ s
  rw [if_neg (by simp), back_pick]
  first
    | exact wpAny_bind (m := Builtin.Tuple.tupleExact _) (wpAny_newObj_type (wpAny_pure ⟨_, rfl, wpAny_pure h⟩) htake)
    | exact wpAny_bind (m := Builtin.Tuple.tupleExact _) (wpAny_newObj_type (wpAny_bind (wpAny_pure (wpAny_pure ⟨_, rfl, wpAny_pure h⟩))) htake)
    | exact wpAny_bind (wpAny_bind (m := Builtin.Tuple.tupleExact _) (wpAny_newObj_type (wpAny_pure (wpAny_pure ⟨_, rfl, wpAny_pure h⟩)) htake))
    | exact wpAny_bind (wpAny_bind (m := Builtin.Tuple.tupleExact _) (wpAny_newObj_type (wpAny_pure ⟨_, rfl, wpAny_pure h⟩) htake))
end
section
variable {X : Cx} {g : G0} {K : PySem.W.Frag}
def tRevT (K : PySem.W.Frag) (te : TE) : TE := fun σ H Q => te σ H fun x H1 => ∃ a xs, x = .ref a ∧ SqT K H1 a xs ∧ ∀ p, H1 p = none → Q (.ref p) (upd H1 p (.tup xs.reverse))
theorem pe_revT {e : Expr} {te : TE} {k : Nat} {p1 p2 p3 pos : Pos} (he : PE X e te) : PE X (.Subscript e (.Slice none none (some (.UnaryOp .USub (.Constant (.int 1) k p1) p2)) p3) pos) (tRevT X.K te) := by
  refine ⟨fun pins s σ H Q I h => ?_⟩
  refine Subscript_ (thn (he.run pins s σ H _ I h) fun v s1 ⟨x, H1, I1, r1, a, xs, ex, hx, q⟩ => ?_)
  subst ex
  cases r1
  have hst : PO X (some (.UnaryOp .USub (.Constant (.int 1) k p1) p2)) (tPart (tUn (rU fun i => .int (-i)) (tC (.int 1)))) := po_some (pe_un un_neg pe_int)
  refine wpAny_Slice ?_
  rw [evalPart_none]
  refine wpAny_pure (wpAny_pure ?_)
  refine thn (hst.run pins s1 σ H1 (fun o H4 => o = some (-1) ∧ H4 = H1) I1 ⟨1, rfl, -1, rfl, rfl, rfl⟩) fun vs s4 ⟨o, H4, I4, ps, eo, e4⟩ => ?_
  subst eo e4
  have I5 : Inv X pins σ H4 { s4 with heap := s4.heap.push { cls := .type "slice", data := .fields #[.none, .none, vs] } } := I4.kept (t' := s4.toks) fun b ob q => Heap.get?_push_of_some _ q
  obtain ⟨its, r, ht, hz⟩ := I5.tuple hx
  have hlen := r.length
  show wpAny (model X.prog X.w) X.A (subscriptTail e (.Slice none none (some (.UnaryOp .USub (.Constant (.int 1) k p1) p2)) p3) (.ref a) (.ref s4.heap.objs.size)) (EP X pins σ Q) X.xe { s4 with heap := s4.heap.push { cls := .type "slice", data := .fields #[.none, .none, vs] } }
  refine tail_any (ops := [.ref a, .ref s4.heap.objs.size]) ht.typeIs (PyProof.Rows.slot_tuple_getitem.lookup) ?_ (by with_unfolding_all rfl)
  refine getItem_tuple_back ht (Heap.IsSliceOf.new _ .none .none vs) ps ?_ (by rw [List.size_toArray]; omega)
  refine ⟨.ref _, _, I5.laid (t' := s4.toks) (o := .tup xs.reverse) (fun b ob q => Heap.get?_push_of_some _ q) (Nat.le_refl _) ?_, rfl, q _ (I5.hok.fresh (Nat.le_refl _))⟩
  exact ⟨by rw [List.length_reverse]; omega, _, r.reverse, IsTup.new _ _⟩
def eRev (te : TW) : TW := fun w Q => te w fun x w1 => match x with
  | .d (.tup xs) => Q (.d (.tup xs.reverse)) w1
  | _ => False
theorem e_rev {e : Expr} {te : TW} {k : Nat} {p1 p2 p3 pos : Pos} (he : PEW X g e te) : PEW X g (.Subscript e (.Slice none none (some (.UnaryOp .USub (.Constant (.int 1) k p1) p2)) p3) pos) (eRev te) :=
  PE.imp (pe_revT he) fun σ H Q ⟨A, w, Q0, R0, q, k⟩ => ⟨A, w, _, R0, q, fun x w1 q1 v H1 R1 r1 l1 => by
    split at q1
    · rename_i xs
      obtain ⟨a, vs, rfl, ha, ra⟩ := itT_ok r1 rfl
      exact ⟨a, vs, rfl, ha, fun p hp => newTup R1 ra.reverse q1 (k.comp l1) p hp⟩
    · exact q1.elim⟩
end
end OW


namespace OW
open PySem PySem.Spec PySem.W PySem.Calls PyProof.Rows L2

/-! ### sorted(list or tuple of data) -/
section
variable {prog : Program} {w : World} {A : Around} {E : Value → Shared → Prop} {s : Shared}
theorem collect_seq {l : Addr} {o : Obj} {vs : List Value} {n : Nat} {T : String} {Q : List Value → Shared → Prop} (ho : s.heap.get? l = some o) (hc : o.cls = .type T) (hT : T = "list" ∨ T = "tuple") (hd : o.data = .seq vs.toArray n)
    (h : Q vs { s with heap := (s.heap.push (seqObj "list" #[] 0)).update s.heap.objs.size (Obj.mapSeq (· ++ vs.toArray)) }) (hsz : vs.length ≤ sizeLine) : wpAny (model prog w) A (collect (.ref l)) Q E s := by
  unfold collect
  refine wpAny_bind (wpAny_runValue (codeAny_builtin entry_proto_collect' ?_))
  show wpAny _ _ (do again (.builtin "list.__iadd__" ⟨[← newList [], .ref l], []⟩)) _ _ s
  refine wpAny_bind (wpAny_newList (wpAny_pure ⟨Code.quiet_builtin _ (by decide +kernel), codeAny_builtin entry_list_iadd' ?_⟩))
  show wpAny _ _ (Builtin.List.listExtendWith (.ref s.heap.objs.size) (.ref l) (.ref s.heap.objs.size)) _ _ { s with heap := s.heap.push (seqObj "list" #[] 0) }
  unfold Builtin.List.listExtendWith
  have ho' : (s.heap.push (seqObj "list" #[] 0)).get? l = some o := Heap.get?_push_of_some _ ho
  refine wpAny_bind (wpAny_typeOf (T := T) ⟨o, ho', hc⟩ ?_)
  have ht : ((Value.type T == Value.type "list") || (Value.type T == Value.type "tuple")) = true := by
    rcases hT with rfl | rfl <;> rfl
  rw [if_pos (by rcases hT with rfl | rfl <;> simp)]
  refine wpAny_bind (listItems_at ho' hd ?_)
  refine wpAny_bind (listItems_at (xs := #[]) (n := 0) (Heap.get?_push_size _ rfl) rfl ?_)
  rw [if_neg (by simp)]
  refine wpAny_bind (listUpdate_at (xs := #[]) (n := 0) (Heap.get?_push_size _ rfl) rfl ?_ (Nat.zero_le _) (by show (#[] ++ vs.toArray).size ≤ sizeLine + 1; simp only [Array.size_append, List.size_toArray, List.length_nil]; omega))
  refine wpAny_pure ?_
  show wpAny (model prog w) A (do
      let o ← load s.heap.objs.size
      match o.data with
      | .seq xs _ => pure xs.toList
      | _ => unsupported "internal:collect") Q E { s with heap := (s.heap.push (seqObj "list" #[] 0)).update s.heap.objs.size (Obj.mapSeq (· ++ vs.toArray)) }
  refine wpAny_bind (wpAny_load (get?_update_seq (Heap.get?_push_size _ rfl) _) ?_)
  show wpAny _ _ (pure ((#[] : Array Value) ++ vs.toArray).toList) Q E _
  rw [show ((#[] : Array Value) ++ vs.toArray).toList = vs by simp]
  exact wpAny_pure h
theorem sorted_seq {β : Type} {R : Value → β → Prop} {enc : β → PyData} {bs : List β} {l : Addr} {o : Obj} {vs : List Value} {n : Nat} {T : String} {Q : Value → Shared → Prop} (ho : s.heap.get? l = some o) (hc : o.cls = .type T) (hT : T = "list" ∨ T = "tuple") (hd : o.data = .seq vs.toArray n)
    (e : EachIs R vs bs) (er : EachIs (fun v b => ∃ as, Reads s.heap v (enc b) as) vs bs) (hal : AllAlike (bs.map enc)) (hk : Sortable (bs.map enc)) (hL : bs.length ≤ sizeLine)
    (hu : ∀ b, b ∈ bs → A.units + 2 + (enc b).depth < cLine) (h : ∀ out, out.length = bs.length → EachIs R out (bs.mergeSort (dataLe false enc)) → Q (.ref (s.heap.objs.size + 1)) { s with heap := PyProof.Rows.sortedAll s.heap vs (List.toArray out) }) :
    wpAny (model prog w) A (call (.builtin "sorted") [.ref l]) Q E s := by
  have er' : EachIs (fun v b => ∃ as, Reads (sortingHeap (copyHeap s.heap vs) (s.heap.objs.size + 1) vs) v (enc b) as) vs bs := er.mono fun _ _ ⟨as, r⟩ => ⟨as, PyProof.Rows.Reads.keeps (fun _ _ => sorting_copy_old) r⟩
  have hL' : vs.length ≤ sizeLine := by rw [e.length]; exact hL
  have S : SortsAt prog w A.in1.in1 { s with heap := sortingHeap (copyHeap s.heap vs) (s.heap.objs.size + 1) vs } _ vs :=
    SortsAt.data (s := { s with heap := sortingHeap (copyHeap s.heap vs) (s.heap.objs.size + 1) vs }) (each_map (R := fun v d => ∃ as, Reads (sortingHeap (copyHeap s.heap vs) (s.heap.objs.size + 1) vs) v d as) enc er') hal hk (bound_map hu)
  refine call_function_entry_kw kind_sorted plain_sorted entry_sorted (args_sorted1 _) ?_
  unfold Builtin.«sorted»
  refine wpAny_bind (m := checkCount "sorted" 1 1 _) (wpAny_pure ?_)
  refine wpAny_bind (collect_seq ho hc hT hd ?_ hL')
  refine wpAny_bind (wpAny_newList ?_ hL')
  have hsz : ((s.heap.push (seqObj "list" #[] 0)).update s.heap.objs.size (Obj.mapSeq (· ++ vs.toArray))).objs.size = s.heap.objs.size + 1 := by
    rw [Heap.size_update, size_push']
  show wpAny _ _ _ _ _ { s with heap := copyHeap s.heap vs }
  rw [hsz]
  refine wpAny_bind (wpAny_holding (wpAny_call_entry_kw slot_list_sort ⟨_, copyHeap_at s.heap vs, rfl⟩ entry_list_sort ?_ (args_list_sort _)))
  show wpAny (model prog w) A.in1.in1 (Builtin.«list.sort» ⟨[.ref (s.heap.objs.size + 1)], []⟩) _ _ _
  refine list_sort_vals (s := { s with heap := copyHeap s.heap vs }) (copyHeap_at s.heap vs) S hL' ⟨_, rfl, wpAny_pure ⟨_, rfl, ?_⟩⟩
  exact h _ (by rw [sortVals_length false rfl]; exact e.length) (sortVals_data false e er' hal)
end
def rSortW (K : PySem.W.Frag) : List V → Hp → VK → Prop := fun vs H Q => ∃ (a : Addr) (bs : List (V × D)), vs = [.ref a] ∧ (H a = some (.lst (bs.map (·.1))) ∨ SqT K H a (bs.map (·.1))) ∧ (∀ b ∈ bs, Dp K H b.1 (py b.2)) ∧ AllAlike (bs.map fun b => py b.2) ∧ Sortable (bs.map fun b => py b.2) ∧
  (∀ b ∈ bs, (py b.2).depth ≤ 32) ∧ ∀ (zs : List (V × D)) (p : Addr), zs.Perm bs → H p = none → Q (.ref p) (upd H p (.lst (zs.map (·.1))))
theorem each_of_vals {β : Type} {R : Value → β → Prop} (f : β → V) : ∀ {bs : List β} {us : List Value}, Vals (bs.map f) us → (∀ b ∈ bs, ∀ u, RelV (f b) u → R u b) → EachIs R us bs
  | [], us, r, _ => by
    have r' : Vals [] us := r
    cases r'
    exact .nil
  | b :: bs, us, r, k => by
    have r' : Vals (f b :: bs.map f) us := r
    cases r' with
    | cons h t => exact .cons (k b (List.mem_cons_self ..) _ h) (each_of_vals f t fun c hc => k c (List.mem_cons_of_mem _ hc))
theorem vals_of_each {β : Type} (f : β → V) : ∀ {bs : List β} {us : List Value}, EachIs (fun u b => RelV (f b) u) us bs → Vals (bs.map f) us
  | [], _, .nil => .nil
  | b :: bs, _, .cons h t => .cons h (vals_of_each f t)
section
variable {X : Cx} {g : G0} {K : PySem.W.Frag}
theorem sort_ok (hu : X.A.units + 64 < cLine) : CallR X (.builtin "sorted") (rSortW X.K) := by
  intro pins s σ H vs us Q I r h
  obtain ⟨a, bs, rfl, hs, hdp, hal, hk, hdep, q⟩ := h
  rw [Vals.ref1 r]
  have main : ∀ (its : List Value) (o : Obj) (n : Nat) (T : String), Vals (bs.map (·.1)) its → s.heap.get? a = some o → o.cls = .type T → (T = "list" ∨ T = "tuple") → o.data = .seq its.toArray n → (bs.map (·.1)).length ≤ sizeLine →
      wpAny (model X.prog X.w) X.A (call (.builtin "sorted") [.ref a]) (EP X pins σ Q) X.xe s := by
    intro its o n T rv ho hc hT hd hz
    have e : EachIs (fun u (b : V × D) => RelV b.1 u) its bs := each_of_vals (·.1) rv fun b _ u h => h
    have er : EachIs (fun u (b : V × D) => ∃ as, Reads s.heap u (py b.2) as) its bs := each_of_vals (·.1) rv fun b hb u h => Dp.reads I _ _ _ (hdp b hb) h
    refine sorted_seq (enc := fun b : V × D => py b.2) ho hc hT hd e er hal hk (by simpa using hz) (fun b hb => by have := hdep b hb; omega) fun out hl ho' => ?_
    obtain ⟨ep, he'⟩ := PyProof.Rows.sortedAll_at s.heap its out.toArray
    have hp : (bs.mergeSort (dataLe false fun b : V × D => py b.2)).Perm bs := List.mergeSort_perm ..
    have hlen : ((bs.mergeSort (dataLe false fun b : V × D => py b.2)).map (·.1)).length ≤ sizeLine := by
      rw [List.length_map, hp.length_eq]
      simpa using hz
    exact ⟨.ref _, upd H (s.heap.objs.size + 1) (.lst ((bs.mergeSort (dataLe false fun b : V × D => py b.2)).map (·.1))), I.laid (t' := s.toks) (fun _ _ => PyProof.Rows.sortedAll_old) (Nat.le_succ _) ⟨hlen, out, ep, vals_of_each _ ho', he'⟩, rfl, q _ _ hp (I.hok.fresh (Nat.le_succ _))⟩
  rcases hs with hs | hs
  · obtain ⟨hz, its, n, rv, ho⟩ := I.hok a _ hs
    exact main its _ n "list" rv ho rfl (.inl rfl) rfl hz
  · obtain ⟨its, rv, ⟨o, ho, hc, n, hd⟩, hz⟩ := I.tuple hs
    exact main its o n "tuple" rv ho hc (.inr rfl) hd hz
def fcSorted (xs : List E) (w : W) (Q : List D → W → Prop) : Prop := match xs with
  | [x] => (match itS w x with
    | some xs => noDics xs = true ∧ AllAlike (xs.map py) ∧ Sortable (xs.map py) ∧ (∀ x ∈ xs, (py x).depth ≤ 32) ∧ ∀ ys : List D, ys.Perm xs → Q ys w
    | none => False)
  | _ => False
theorem noDics_mem : ∀ {xs : List D} {x : D}, noDics xs = true → x ∈ xs → noDic x = true
  | a :: r, x, h, hx => by
    simp only [noDics, Bool.and_eq_true] at h
    rcases List.mem_cons.mp hx with e | e
    · rw [e]; exact h.1
    · exact noDics_mem h.2 e
/-- values and what they stand for, paired -/
theorem Reps.pairs {G : Hp} : ∀ {xs : List D} {vs : List V}, Reps K G xs vs → ∃ bs : List (V × D), bs.map (·.1) = vs ∧ bs.map (·.2) = xs ∧ ∀ b ∈ bs, Rep K G b.2 b.1
  | _, _, .nil => ⟨[], rfl, rfl, fun _ h => by cases h⟩
  | _, _, .cons (d := d) (v := v) h t => by
    obtain ⟨bs, e1, e2, k⟩ := Reps.pairs t
    refine ⟨(v, d) :: bs, by simp [e1], by simp [e2], fun b hb => ?_⟩
    rcases List.mem_cons.mp hb with e | e
    · subst e; exact h
    · exact k b e
theorem Reps.of_pairs {G : Hp} : ∀ {bs : List (V × D)}, (∀ b ∈ bs, Rep K G b.2 b.1) → Reps K G (bs.map (·.2)) (bs.map (·.1))
  | [], _ => .nil
  | b :: r, h => .cons (h b (List.mem_cons_self ..)) (Reps.of_pairs fun c hc => h c (List.mem_cons_of_mem _ hc))
theorem sort_f : CallF K g (rSortW K) fcSorted := by
  intro A w σ H xs vs Q0 Q R r h k
  unfold fcSorted at h
  split at h
  · obtain ⟨v, rfl, rx⟩ := r.one
    split at h
    · rename_i xs e
      obtain ⟨a, us, rfl, ha, ra⟩ := itS_ok R rx e
      obtain ⟨h1, h2, h3, h4, h⟩ := h
      obtain ⟨bs, e1, e2, kb⟩ := ra.pairs
      subst e1 e2
      have em : ∀ (bs : List (V × D)), (bs.map (·.2)).map py = bs.map fun b => py b.2 := fun bs => by rw [List.map_map] <;> rfl
      rw [em] at h2 h3
      refine ⟨a, bs, rfl, ha, fun b hb => dp_mono hid_le (Rep.dp (kb b hb) (noDics_mem h1 (List.mem_map.mpr ⟨b, hb, rfl⟩))), h2, h3, fun b hb => h4 _ (List.mem_map.mpr ⟨b, hb, rfl⟩), fun zs p hz hp => ?_⟩
      exact newF R (Reps.of_pairs fun b hb => kb b (hz.mem_iff.mp hb)) (h _ (hz.map _)) k p hp
    · exact h.elim
  · exact h.elim
theorem f_sorted {a : Expr} {ta : TW} {p pos : Pos} (hu : X.A.units + 64 < cLine) (T : Blt X.mg) (ha : PEW X g a ta) (hg : Gl X "sorted" := by rfl) (h1 : starEach [a] X.env = (false, eval a X.env) :: starEach [] X.env := by rfl) (h2 : (backTo pos (starEach [] X.env)).any (·.1) = false := by rfl) : PFW X g (.Call (.Name "sorted" p) [a] [] pos) (fCall fcSorted (aCons ta aNil)) :=
  f_callB (sort_ok hu) sort_f hg T.sorted (by decide +kernel) (a_cons ha a_nil h1) (by decide) (by decide) h1 h2
end
end OW


namespace OW
open PySem PySem.Spec PyProof.Rows L2

section
variable {X : Cx} {g : G0} {K : PySem.W.Frag} {EX : EXV}
/-! ### a, b = x, y -/
def sPar (i j : Nat) (ta : TWa) : SW := fun E w => ta w fun xs w1 => match xs with
  | [.d x, .d y] => E.nx ((w1.set i (.v x)).set j (.v y))
  | _ => False
theorem s_par {i j : Nat} {x y : Str} {a b : Expr} {ta : TWa} {px py pt : Pos} {kt k2 pt2} {pos : Pos} (hc : X.calm = true) (hN : X.N.Nodup) (hi : X.N[i]? = some x) (hj : X.N[j]? = some y) (hij : i ≠ j)
    (hx : X.env.scope.names.lookup x = some .local) (hy : X.env.scope.names.lookup y = some .local) (ha : PAW X g [a, b] ta)
    (hw : swappedStores [.Tuple [.Name x px, .Name y py] kt pt] (.Tuple [a, b] k2 pt2) X.env = pure (some [x, y]))
    (hs : swapsWithSole [.Tuple [.Name x px, .Name y py] kt pt] (.Tuple [a, b] k2 pt2) pos.line X.env = pure false := by rfl) :
    PSW X g EX (.Assign [.Tuple [.Name x px, .Name y py] kt pt] (.Tuple [a, b] k2 pt2) pos) (sPar i j ta) :=
  PS.imp (ps_par hc hN hi hj hij hx hy ha hw hs) fun D σ H ⟨A, w, E0, R0, q, k⟩ => ⟨A, w, _, R0, q, fun xs w1 q1 vs H1 R1 r1 l1 => by
    split at q1
    · rename_i d e
      obtain ⟨v, u, rfl, rx, ry⟩ := r1.two
      obtain ⟨A', R2, l2⟩ := R1.setV' (i := i) rx
      obtain ⟨A'', R3, l3⟩ := R2.setV' (i := j) (Rep.mono l2 ry)
      exact ⟨_, _, rfl, k.nx _ q1 _ _ _ R3 ((l1.trans l2).trans l3)⟩
    · exact q1.elim⟩
/-- a, b, c = [], [], []: the slots' own -/
def sPar3nil (i j l : Nat) : SW := fun E w => (i < w.length ∧ j < w.length ∧ l < w.length) ∧ E.nx (((w.set i (.own [])).set j (.own [])).set l (.own []))
theorem Rel.mkOwn {A : List Addr} {w : W} {σ : L2.St} {H : Hp} {i : Nat} {p : Addr} (R0 : Rel (gmK K g) [] A w σ H) (hi : i < w.length) (hp : H p = none) : ∃ A', Rel (gmK K g) [] A' (w.set i (.own [])) (σ.set i (some (.ref p))) (upd H p (.lst [])) ∧ GLe (vis g A H) (vis g A' (upd H p (.lst []))) := by
  have R1 := R0.newEx (o := .lst []) hp
  have l : GLe (vis g A H) (hid (upd H p (.lst [])) ([p] ++ A ++ g.O)) := fun b o e => by
    obtain ⟨n, e⟩ := hid_of e
    have nb : b ≠ p := fun z => by rw [z, hp] at e; cases e
    rw [hid_out (by simp at n ⊢; exact ⟨nb, n⟩), upd_ne nb]
    exact e
  obtain ⟨A', R2, l2⟩ := R1.setOwn (xs := []) (vs := []) hi upd_same .nil
  exact ⟨A', R2, l.trans l2⟩
theorem s_par3nil {i j l : Nat} {x y z : Str} {px py pz pt pos p1 p2 p3 : Pos} {kt k2 pt2} (hc : X.calm = true) (hN : X.N.Nodup) (hi : X.N[i]? = some x) (hj : X.N[j]? = some y) (hl : X.N[l]? = some z) (hij : i ≠ j) (hil : i ≠ l) (hjl : j ≠ l)
    (hx : X.env.scope.names.lookup x = some .local) (hy : X.env.scope.names.lookup y = some .local) (hz : X.env.scope.names.lookup z = some .local)
    (hw : swappedStores [.Tuple [.Name x px, .Name y py, .Name z pz] kt pt] (.Tuple [.List [] p1, .List [] p2, .List [] p3] k2 pt2) X.env = pure (some [x, y, z]))
    (hs : swapsWithSole [.Tuple [.Name x px, .Name y py, .Name z pz] kt pt] (.Tuple [.List [] p1, .List [] p2, .List [] p3] k2 pt2) pos.line X.env = pure false := by rfl) :
    PSW X g EX (.Assign [.Tuple [.Name x px, .Name y py, .Name z pz] kt pt] (.Tuple [.List [] p1, .List [] p2, .List [] p3] k2 pt2) pos) (sPar3nil i j l) :=
  PS.imp (ps_par3 hc hN hi hj hl hij hil hjl hx hy hz (pa_cons (pe_lst pa_nil) (pa_cons (pe_lst pa_nil) (pa_cons (pe_lst pa_nil) pa_nil))) hw hs) fun D σ H ⟨A, w, E0, R0, ⟨⟨q1, q2, q3⟩, q⟩, k⟩ =>
    ⟨Nat.zero_le _, fun a1 h1 => ⟨Nat.zero_le _, fun a2 h2 => ⟨Nat.zero_le _, fun a3 h3 => by
      obtain ⟨A1, R1, l1⟩ := R0.mkOwn q1 h1
      obtain ⟨A2, R2, l2⟩ := R1.mkOwn (i := j) (by rw [List.length_set]; exact q2) h2
      obtain ⟨A3, R3, l3⟩ := R2.mkOwn (i := l) (by rw [List.length_set, List.length_set]; exact q3) h3
      exact ⟨_, _, _, rfl, k.nx _ q _ _ _ R3 ((l1.trans l2).trans l3)⟩⟩⟩⟩

/-! ### x = [[] for y in range(n)], x[i].append(e) -/
theorem Rel.mkOwnL {A : List Addr} {w : W} {σ : L2.St} {H H' : Hp} {i : Nat} {p : Addr} {as : List Addr} (R0 : Rel (gmK K g) [] A w σ H) (hi : i < w.length) (h0 : ∀ b ∈ p :: as, H b = none) (nd : (p :: as).Nodup) (hp : H' p = some (.lst (as.map V.ref)))
    (has : ∀ b ∈ as, H' b = some (.lst [])) (same : ∀ b, b ∉ p :: as → H' b = H b) : ∃ A', Rel (gmK K g) [] A' (w.set i (.ownL as (List.replicate as.length []))) (σ.set i (some (.ref p))) H' ∧ GLe (vis g A H) (vis g A' H') := by
  obtain ⟨x, Ai, pre, post, e1, e2, q, f⟩ := R0.slots.change (List.getElem?_eq_getElem hi)
  have ndA : A.Nodup := by simpa using R0.nd
  have out : ∀ b ∈ p :: as, b ∉ A ∧ b ∉ g.O ∧ g.He b = none := fun b hb => by
    obtain ⟨n, e⟩ := R0.fresh_out (h0 b hb)
    exact ⟨fun z => n (by simp [z]), fun z => n (by simp [z]), e⟩
  have keep : ∀ b o, H b = some o → H' b = some o := fun b o e => by
    rw [same b fun z => by rw [h0 b z] at e; cases e]
    exact e
  have l : GLe (vis g A H) (hid H' ([] ++ (pre ++ (p :: as) ++ post) ++ g.O)) := fun b o e => by
    obtain ⟨n, e⟩ := hid_of e
    rw [hid_out fun z => ?_]
    · exact keep b o e
    · have nb : b ∉ p :: as := fun y => by rw [h0 b y] at e; cases e
      apply n
      rw [e1]
      simp only [List.nil_append, List.mem_append] at z ⊢
      rcases z with ((z | z) | z) | z
      · exact .inl (.inl (.inl z))
      · exact (nb z).elim
      · exact .inl (.inr z)
      · exact .inr z
  have inn : Inner K H' (hid H' ([] ++ (pre ++ (p :: as) ++ post) ++ g.O)) as (List.replicate as.length []) := by
    have go : ∀ (bs : List Addr), (∀ b ∈ bs, H' b = some (.lst [])) → Inner K H' (hid H' ([] ++ (pre ++ (p :: as) ++ post) ++ g.O)) bs (List.replicate bs.length []) := fun bs => by
      induction bs with
      | nil => intro _; exact .nil
      | cons b bs ih => exact fun h => .cons (h b (List.mem_cons_self ..)) .nil (ih fun c hc => h c (List.mem_cons_of_mem _ hc))
    exact go as has
  have s1 := f H' _ (.ownL as (List.replicate as.length [])) (some (.ref p)) (p :: as) (.ownL hp inn) (fun a ha => by
    have hA : a ∈ A := by rw [e1]; simp at ha ⊢; rcases ha with z | z <;> simp [z]
    exact same a fun z => (out a z).1 hA) l
  refine ⟨pre ++ (p :: as) ++ post, ⟨s1, ?_, fun a ha => ?_, fun b o eb n => keep b o (R0.since b o eb n), fun b hb => ?_, ⟨R0.st.mem, R0.st.memT, R0.st.fre, R0.st.stT, R0.st.cells, ⟨fun s c e => ?_, fun P hP => ?_⟩⟩⟩, l⟩
  · have o1 : ∀ b ∈ p :: as, b ∉ pre ∧ b ∉ post := fun b hb => by
      have := (out b hb).1
      rw [e1] at this
      simp only [List.mem_append, not_or] at this
      exact ⟨this.1.1, this.2⟩
    rw [e1] at ndA
    simp only [List.nil_append, List.nodup_append, List.mem_append] at ndA ⊢
    obtain ⟨⟨n1, _, _⟩, n3, n4⟩ := ndA
    refine ⟨⟨n1, nd, fun a ha b hb e => (o1 b hb).1 (e ▸ ha)⟩, n3, fun a ha b hb e => ?_⟩
    rcases ha with ha | ha
    · exact n4 a (.inl ha) b hb e
    · exact (o1 a ha).2 (e ▸ hb)
  · simp only [List.nil_append, List.mem_append] at ha
    rcases ha with (ha | ha) | ha
    · obtain ⟨n, e, nn⟩ := R0.own a (by rw [e1]; simp [ha])
      refine ⟨n, e, ?_⟩
      cases ea : H a with
      | none => exact absurd ea nn
      | some o => rw [keep a o ea]; exact fun y => nomatch y
    · refine ⟨(out a ha).2.1, (out a ha).2.2, ?_⟩
      rcases List.mem_cons.mp ha with z | z
      · rw [z, hp]; exact fun y => nomatch y
      · rw [has a z]; exact fun y => nomatch y
    · obtain ⟨n, e, nn⟩ := R0.own a (by rw [e1]; simp [ha])
      refine ⟨n, e, ?_⟩
      cases ea : H a with
      | none => exact absurd ea nn
      | some o => rw [keep a o ea]; exact fun y => nomatch y
  · cases ea : H b with
    | none => exact absurd ea (R0.alloc b hb)
    | some o => rw [keep b o ea]; exact fun y => nomatch y
  · obtain ⟨a, i, n, sd, k, h1, h2, h3⟩ := R0.st.cont.1 s c e
    exact ⟨a, i, n, sd, k, h1, h2, keep _ _ h3⟩
  · obtain ⟨ps, h1, h2⟩ := R0.st.cont.2 P hP
    exact ⟨ps, keep _ _ h1, h2⟩
def sNewLL (i : Nat) (ti : TIw) (vs : List Nat) : SW := fun E w => ti w fun xs w1 => okWipe w1 vs ∧ xs.length < sizeLine ∧ i < w1.length ∧ ∀ as : List Addr, as.length = xs.length → E.nx (w1.set i (.ownL as (List.replicate as.length [])))
theorem s_setLL {i v : Nat} {y z : Str} {py pz pe : Pos} {iter : Expr} {scope : Scope} {own : List (Str × Nat)} {pos spos : Pos} {ti : TIw} (hc : X.calm = true) (hN : X.N.Nodup) (hy : X.N[i]? = some y) (hyl : X.env.scope.names.lookup y = some .local)
    (hsw : swapsWith (.ListComp (.List [] pe) [⟨.Name z pz, iter, [], 0⟩] scope pos) (some (.Name y py)) spos.line X.env = pure true) (hi : PIW X g (.Name z pz) iter ti) (ok : BlkOk X.N X.env.scope scope own)
    (hg : ∀ (s : Shared) (H : Hp) (C : Addr) (cl : List (Str × Addr)) (fp : List Addr), PG (X.blk s H scope (compEnvC scope cl C X.env) fp) (.Name z pz) (gName v)) (hv : v ∈ own.map (·.2) := by decide) (hs : ∀ x, foldedSetIterable iter X.env x = pure x := by intro _; rfl) :
    PSW X g EX (.Assign [.Name y py] (.ListComp (.List [] pe) [⟨.Name z pz, iter, [], 0⟩] scope pos) spos) (sNewLL i ti (own.map (·.2))) :=
  PS.imp (ps_setLc hc hN hy hyl hsw hi ok hg (fun s H C cl fp => pts_nil) (fun s H C cl fp => pe_lst pa_nil) hs) fun E σ H ⟨A, w, E0, R0, q, k⟩ =>
    ⟨A, w, _, R0, q, fun xs w1 q1 J H1 R1 wk l1 D hD => by
      obtain ⟨okw, hlen, hiw, q1⟩ := q1
      let Pv : Nat → Hp → Prop := fun n H => ∃ as : List Addr, as.length = n ∧ (D :: as).Nodup ∧ (∀ b ∈ D :: as, H1 b = none) ∧ H D = some (.lst (as.map V.ref)) ∧ (∀ b ∈ as, H b = some (.lst [])) ∧ ∀ b, b ∉ D :: as → H b = H1 b
      have p0 : Pv 0 (upd H1 D (.lst [])) := by
        refine ⟨[], rfl, by simp, ?_, upd_same, ?_, ?_⟩
        · intro b hb
          have : b = D := by simpa using hb
          rw [this]; exact hD
        · intro b hb
          cases hb
        · intro b hb
          exact upd_ne (by simpa using hb)
      refine ⟨fun n m H => m = xs.length - n ∧ n ≤ xs.length ∧ Pv n H, ⟨xs.length, by simp, Nat.zero_le _, p0⟩, ?_⟩
      rintro n m H2 ⟨rfl, hn, as, hl, nd, h0, hD2, has, same⟩
      have keep : GLe (vis g A H1) H2 := fun b o e => by
        have e' := hid_le b o e
        rw [same b fun z => by rw [h0 b z] at e'; cases e']
        exact e'
      by_cases hlt : n < xs.length
      · obtain ⟨g1, g2⟩ := wk.go H2 n xs[n] keep (by simp [hlt])
        refine .inr ⟨g1, Pv (n + 1), fun H' p => ⟨xs.length - (n + 1), by omega, rfl, hlt, p⟩, fun x H3 yy => ?_⟩
        obtain ⟨e, rx⟩ := g2 x H3 yy
        subst e
        refine ⟨?_, ?_⟩
        · have so : SetOnly [v] (wipe σ (own.map (·.2))) ((wipe σ (own.map (·.2))).set v (some x)) := ⟨by simp, fun j hj => by
            rw [List.getElem?_set_ne]; intro z; exact hj (by simp [z])⟩
          exact (wipe_only so fun j hj => by have : j = v := by simpa using hj
                                             rw [this]; exact hv).trans (wipe_wipe σ _)
        · simp only [tYes, if_true]
          refine ⟨Nat.zero_le _, fun p hp => ?_⟩
          have np : p ∉ D :: as := fun z => by
            rcases List.mem_cons.mp z with y | y
            · rw [y, hD2] at hp; cases hp
            · rw [has p y] at hp; cases hp
          have pD : D ≠ p := fun z => np (by simp [z])
          refine ⟨as.map V.ref, by rw [upd_ne pD]; exact hD2, by rw [List.length_map]; omega, as ++ [p], by simp [hl], ?_, fun b hb => ?_, by rw [upd_same]; simp, fun b hb => ?_, fun b hb => ?_⟩
          · rw [← List.cons_append, List.nodup_append]
            refine ⟨nd, by simp, fun a ha b hb e => ?_⟩
            have eb : b = p := by simpa using hb
            exact np (by rw [← eb, ← e]; exact ha)
          · rw [List.mem_cons, List.mem_append] at hb
            rcases hb with hb | hb | hb
            · exact h0 b (by simp [hb])
            · exact h0 b (by simp [hb])
            · have : b = p := by simpa using hb
              rw [this, ← same p np]; exact hp
          · have bD : b ≠ D := fun z => by
              rw [z] at hb
              rcases List.mem_append.mp hb with y | y
              · exact (List.nodup_cons.mp nd).1 y
              · exact pD (by simpa using y)
            rw [upd_ne bD]
            rcases List.mem_append.mp hb with y | y
            · rw [upd_ne (fun z => np (by rw [← z]; simp [y]))]
              exact has b y
            · have : b = p := by simpa using y
              rw [this, upd_same]
          · simp only [List.mem_cons, List.mem_append, List.mem_singleton, not_or] at hb
            rw [upd_ne hb.1, upd_ne (by simpa using hb.2.2)]
            exact same b (by simp [hb.1, hb.2.1])
      · have e : n = xs.length := by omega
        subst e
        refine .inl ⟨wk.stop H2 _ keep (Nat.le_refl _), ?_⟩
        obtain ⟨A', R3, l3⟩ := R1.mkOwnL hiw h0 nd hD2 has same
        exact k.nx _ (q1 as hl) _ _ _ R3 (l1.trans l3)⟩
theorem ownL_at {A : List Addr} {w : W} {σ : L2.St} {H : Hp} {i : Nat} {as : List Addr} {xss : List (List D)} (R0 : Rel (gmK K g) [] A w σ H) (e : w[i]? = some (.ownL as xss)) :
    ∃ a, σ[i]? = some (some (.ref a)) ∧ H a = some (.lst (as.map V.ref)) ∧ Inner K H (vis g A H) as xss ∧ (a :: as).Nodup ∧ ∀ b ∈ a :: as, b ∈ A := by
  obtain ⟨x, Ai, pre, post, e1, e2, q, f⟩ := R0.slots.change e
  cases q with
  | ownL ha r =>
    have nd : A.Nodup := by simpa using R0.nd
    refine ⟨_, e2, ha, r, ?_, fun b hb => ?_⟩
    · rw [e1, List.nodup_append, List.nodup_append] at nd
      exact nd.1.2.1
    · rw [e1]
      exact List.mem_append_left _ (List.mem_append_right _ hb)
theorem Inner.length {H G : Hp} : ∀ {as : List Addr} {xss : List (List D)}, Inner K H G as xss → as.length = xss.length
  | _, _, .nil => rfl
  | _, _, .cons _ _ t => by rw [List.length_cons, List.length_cons, Inner.length t]
theorem Inner.at {H G : Hp} : ∀ {as : List Addr} {xss : List (List D)} {n : Nat} {xs : List D}, Inner K H G as xss → xss[n]? = some xs → ∃ b vs, as[n]? = some b ∧ H b = some (.lst vs) ∧ Reps K G xs vs
  | _, _, _, _, .nil, e => by simp at e
  | _, _, 0, _, .cons h r t, e => by simp at e; subst e; exact ⟨_, _, rfl, h, r⟩
  | _, _, n + 1, _, .cons h r t, e => by
    obtain ⟨b, vs, e1, e2, e3⟩ := Inner.at (n := n) t (by simpa using e)
    exact ⟨b, vs, by simpa using e1, e2, e3⟩
theorem Inner.put {H G : Hp} {b : Addr} {us : List V} {ys : List D} (r' : Reps K G ys us) : ∀ {as : List Addr} {xss : List (List D)} {n : Nat}, Inner K H G as xss → as.Nodup → as[n]? = some b → Inner K (upd H b (.lst us)) G as (xss.set n ys)
  | _, _, _, .nil, _, e => by simp at e
  | _, _, 0, .cons h r t, nd, e => by
    simp at e; subst e
    rw [List.nodup_cons] at nd
    exact .cons upd_same r' (t.mono (GLe.refl _) fun c hc => upd_ne fun z => nd.1 (z ▸ hc))
  | _, _, n + 1, @Inner.cons _ _ _ a as vs xs xss h r t, nd, e => by
    rw [List.nodup_cons] at nd
    have e' : as[n]? = some b := by simpa using e
    have hb := List.mem_of_getElem? e'
    have ab : a ≠ b := fun z => nd.1 (by rw [z]; exact hb)
    exact .cons ((upd_ne ab).trans h) r (Inner.put r' t nd.2 e')
def sAppendL (i : Nat) (ti te : TW) : SW := fun E w => (match w[i]? with | some (.ownL _ _) => True | _ => False) ∧ ti w fun ix w0 => match ix, w0[i]? with
  | .d (.int n), some (.ownL as xss0) => 0 ≤ n ∧ n.toNat < xss0.length ∧ te w0 fun x w1 => match x, w1[i]? with
    | .d d, some (.ownL as' xss) => as' = as ∧ (match xss[n.toNat]? with
      | some xs => xs.length < sizeLine ∧ E.nx (w1.set i (.ownL as (xss.set n.toNat (xs ++ [d]))))
      | none => False)
    | _, _ => False
  | _, _ => False
theorem s_appendL {i : Nat} {x : Str} {e ei : Expr} {ti te : TW} {px pa p1 pos spos : Pos} (hi : PEW X g ei ti) (he : PEW X g e te) (hN : X.N[i]? = some x := by rfl) (hv : Vis X.env.scope x := by first | exact Or.inl rfl | exact Or.inr (Or.inl rfl) | exact Or.inr (Or.inr rfl)) (hd : (x == ("__debug__" : Str)) = false := by decide) (hcd : (x == ("__classdict__" : Str)) = false := by decide)
    (hpi : PlainIx ei := by intro _ _; rfl)
    (hbase : attributeBase (.Subscript (.Name x px) ei p1) "append" X.env (eval (.Subscript (.Name x px) ei p1) X.env) = eval (.Subscript (.Name x px) ei p1) X.env := by rfl)
    (hfew : ((backTo pos (starEach [e] X.env)).all (fun x => !x.1) && (backToKw pos (keywordEach [] X.env)).all (fun x => x.1.isSome)
      && decide ([e].length + ([] : List Keyword).length + (if ([] : List Keyword).isEmpty then 0 else 1) < 30)) = true := by rfl)
    (hline : (pa.endLine == pos.line) = true := by rfl) (hse : starEach [e] X.env = (false, eval e X.env) :: starEach [] X.env := by rfl) (hplain : (backTo pos (starEach [] X.env)).any (·.1) = false := by rfl)
    (hs : swapsWith (.Call (.Attribute (.Subscript (.Name x px) ei p1) "append" pa) [e] [] pos) none spos.line X.env = pure false := by rfl) :
    PSW X g EX (.Expr (.Call (.Attribute (.Subscript (.Name x px) ei p1) "append" pa) [e] [] pos) spos) (sAppendL i ti te) := by
  refine PS.imp (ps_expr (pe_bm PySem.F.plainAttrs_list PySem.F.slot_list_append PySem.F.type_list_append mt_append (pe_ix ix_seq (pe_var (i := i) hN hv hd hcd) hi hpi) (pa_cons he pa_nil hse) hbase hfew hline hse hplain) hs) fun D σ H ⟨A, w, E0, R0, q, k⟩ => ?_
  obtain ⟨q0, q⟩ := q
  split at q0
  · rename_i as0 xss0 ew
    obtain ⟨a, es, ha0, _, _, _⟩ := ownL_at R0 ew
    refine ⟨_, es, A, w, _, R0, q, fun ix w0 q1 vix H1 R1 r1 l1 => ?_⟩
    split at q1
    · rename_i n as xss e1
      cases r1
      obtain ⟨h0, hlt, q1⟩ := q1
      obtain ⟨a', es', ha, inn, nd, sub⟩ := ownL_at R1 e1
      rw [es] at es'
      cases es'
      obtain ⟨b, vs0, eb, hb, _⟩ := inn.at (List.getElem?_eq_getElem hlt)
      have eat : atI (as.map V.ref) n = some (.ref b) := by
        unfold atI ixN
        have hl2 : n < ((as.map V.ref).length : Int) := by rw [List.length_map, inn.length]; omega
        rw [if_pos h0, if_pos hl2]
        show (as.map V.ref)[n.toNat]? = _
        rw [List.getElem?_map, eb] <;> rfl
      refine .inl ⟨a, as.map V.ref, n, .ref b, rfl, rfl, .inl (.inl ha), eat, .inl ⟨rfl, _, .inl (.inl hb)⟩, A, w0, _, R1, q1, fun y w1 q2 v H2 R2 r2 l2 => ?_⟩
      split at q2
      · rename_i d as' xss' e2
        obtain ⟨eas, q2⟩ := q2
        subst eas
        split at q2
        · rename_i xs exs
          obtain ⟨a'', es'', ha2, inn2, nd2, sub2⟩ := ownL_at R2 e2
          rw [es] at es''
          cases es''
          obtain ⟨b', vs, eb', hb', rb⟩ := inn2.at exs
          rw [eb] at eb'
          cases eb'
          have hbs := List.mem_of_getElem? eb
          have bA : b ∈ A := sub2 b (List.mem_cons_of_mem _ hbs)
          refine ⟨b, vs, v, rfl, rfl, hb', by rw [← rb.length]; exact q2.1, ?_⟩
          obtain ⟨R3, ev⟩ := R2.upOwn (l' := .ownL as' (xss'.set n.toNat (xs ++ [d]))) (o := .lst (vs ++ [v])) e2 bA fun x Ai ex so => by
            rw [es] at ex
            cases ex
            cases so with
            | ownL h9 i9 =>
              have ab : a ≠ b := fun z => (List.nodup_cons.mp nd2).1 (by rw [z]; exact hbs)
              exact ⟨List.mem_cons_of_mem _ hbs, .ownL ((upd_ne ab).trans h9) (Inner.put (rb.append (.one r2)) i9 (List.nodup_cons.mp nd2).2 eb)⟩
          exact k.nx _ q2.2 _ _ _ R3 (by rw [ev]; exact l1.trans l2)
        · exact q2.elim
      · exact q2.elim
    · exact q1.elim
  · exact q0.elim
end
end OW


namespace OW
open PySem PySem.Spec PyProof.Rows L2 PpSet

/-! ### {elt for target in iter}, elt an int -/
section
variable {X : Cx}
theorem addI_ok {pins : List (Addr × Obj)} {σ : L2.St} {H : Hp} {s : Shared} {E : Value → Shared → Prop} {D : Addr} {S : Int → Bool} {n : Nat} {y : Int} {ty : Tok} {Q : Value → Shared → Prop} (I : Inv X pins σ H s) (hD : H D = some (SetO X.w D S n)) (room : n + 1 < scanBound)
    (h : ∀ s', Inv X pins σ (upd H D (SetO X.w D (fun j => S j || decide (j = y)) (if S y = true then n else n + 1))) s' → Q .none s') : wpAny (model X.prog X.w) X.A (call (.builtin "set.add") [.ref D, .int y ty]) Q E s := by
  refine setR_add (setO_get I hD) room fun g' sb new => h _ ?_
  obtain ⟨o, _, _, _, ho, _⟩ := id new
  exact I.write (e := D) (t' := s.toks + 1) (by rw [hD]; trivial) (.inl rfl) (fun b u hb hu => (sb.2 b hb).trans hu) ⟨o, ho⟩ (setO_new new)
def tSi (w : World) (wi : TI) (g : TG) (tt : TT) (te : TE) (vs : List Nat) : TE := fun σ H Q => wi σ H fun J H1 => ∀ D, H1 D = none → ∃ W : Nat → Nat → Hp → Prop, (∃ m, W 0 m (upd H1 D (SetO w D (fun _ => false) 0))) ∧ ∀ i m H, W i m H →
  (J.stop i H ∧ Q (.ref D) H) ∨ (J.go i H ∧ ∃ Nx : Hp → Prop, (∀ H', Nx H' → ∃ m', m' < m ∧ W (i + 1) m' H') ∧ ∀ x H', J.yld i H x H' → g x (wipe σ vs) H' fun σ2 H2 => wipe σ2 vs = wipe σ vs ∧ tt σ2 H2 fun b H3 =>
    if b = true then te σ2 H3 fun y H4 => ∃ (c : Int) (S : Int → Bool) (n : Nat), y = .int c ∧ H4 D = some (SetO w D S n) ∧ n + 1 < scanBound ∧ Nx (upd H4 D (SetO w D (fun j => S j || decide (j = c)) (if S c = true then n else n + 1))) else Nx H3)
theorem si_core {pn0 : List (Addr × Obj)} {s : Shared} {σ : L2.St} {H : Hp} {Q : VK} {el tg itr : Expr} {ifs : List Expr} {sc : Scope} {loc : List (PySem.Str × Nat)} {pos pos' : Pos} {wi : TI} {g : TG} {tt : TT} {te : TE} {use : Option (Value → Sem Unit)} {Qf : Value → Shared → Prop}
    (hc : X.calm = true) (hN : X.N.Nodup) (I : Inv X pn0 σ H s) (hi : PI X tg itr wi) (ok : BlkOk X.N X.env.scope sc loc)
    (hg : ∀ (s : Shared) (H : Hp) (C : Addr) (cl : List (PySem.Str × Addr)) (ff : List Addr), PG (X.blk s H sc (compEnvC sc cl C X.env) ff) tg g) (ht : ∀ (s : Shared) (H : Hp) (C : Addr) (cl : List (PySem.Str × Addr)) (ff : List Addr), PTs (X.blk s H sc (compEnvC sc cl C X.env) ff) ifs tt)
    (he : ∀ (s : Shared) (H : Hp) (C : Addr) (cl : List (PySem.Str × Addr)) (ff : List Addr), PE (X.blk s H sc (compEnvC sc cl C X.env) ff) el te) (hs : ∀ x, foldedSetIterable itr X.env x = pure x)
    (h : tSi X.w wi g tt te (loc.map (·.2)) σ H Q)
    (hRR : ∀ D C s' m H', Inv X pn0 σ H' s' → Q (.ref D) H' → s'.heap.Ns C m → FpOk X pn0 H' C → compPost (model X.prog X.w) X.A X.xe use Qf (.ref D) C (.ok .next) s') :
    wpAny (model X.prog X.w) X.A (comprehension (.SetComp el [⟨tg, itr, ifs, 0⟩] sc pos) sc X.env pos' (newSet (.type "set")) false (eval itr X.env) use) Qf X.xe s := by
  have hfree : ∀ y ∈ sc.names, y.2 = .free → ∃ c, X.env.cells.lookup y.1 = some c := fun y hy e => by
    rcases ok.free y hy e with k | k
    · exact I.ok.has _ (.inl k)
    · exact I.ok.has _ (.inr k)
  refine wpAny_comprehension_free (use := use) rfl hs (closure_ok hfree) ok.kind (fun y hy e => by rw [ok.uniq y hy, e])
    (thn (hi.run pn0 s σ H _ I h) fun xA sA gx => thn gx fun xB sB gB => ?_)
  obtain ⟨it, ff, tt0, J, hB, e, iB, T, kB, fB, q⟩ := gB
  subst e
  refine newSet_ok (newEnv_comp ?_)
  generalize eD : sB.heap.objs.size = D
  have nD : hB D = none := iB.hok.fresh (Nat.le_of_eq eD)
  obtain ⟨W, ⟨mA, wA⟩, trn⟩ := q D nD
  -- the new list
  generalize esC : ({ sB with heap := sB.heap.push { cls := .type "set", dict := none, data := .set #[] 0 (.fresh 0 0 (!X.w.params.followText "set-order")) } } : Shared) = sC
  have iC : Inv X pn0 σ (upd hB D (SetO X.w D (fun (_ : Int) => false) 0)) sC := by
    rw [← esC]
    refine iB.laid (t' := sB.toks) (fun b o e => Heap.get?_push_of_some _ e) (Nat.le_of_eq eD) ?_
    rw [← eD]
    exact setO_new (setR_fresh X.w)
  have gC : sC.heap = sB.heap.push { cls := .type "set", dict := none, data := .set #[] 0 (.fresh 0 0 (!X.w.params.followText "set-order")) } := by rw [← esC]
  have szf : ∀ b ∈ ff, b < sB.heap.objs.size := fun b hb => by
    obtain ⟨o, e, _⟩ := T.obj _ _ kB b hb
    exact Heap.lt_size e
  have fC : ∀ b ∈ ff, FpOk X pn0 (upd hB D (SetO X.w D (fun (_ : Int) => false) 0)) b ∧ b < sC.heap.objs.size := fun b hb => by
    have lt0 := szf b hb
    refine ⟨⟨?_, (fB b hb).2⟩, by rw [gC, Heap.size_push]; exact Nat.lt_succ_of_lt lt0⟩
    rw [upd_ne (by rw [← eD]; exact Nat.ne_of_lt lt0)]
    exact (fB b hb).1
  have kC : tt0 0 sC.heap := T.keep _ _ _ kB fun b _ o e => by rw [gC]; exact Heap.get?_push_of_some _ e
  have iD := block_start iC ok hN fC
  have pgA := hg sC (upd hB D (SetO X.w D (fun (_ : Int) => false) 0)) sC.heap.objs.size (cellsFrom (sC.heap.objs.size + 1) sc.names (cloFrom X.env.cells sc.names [])) ff
  have ptA := ht sC (upd hB D (SetO X.w D (fun (_ : Int) => false) 0)) sC.heap.objs.size (cellsFrom (sC.heap.objs.size + 1) sc.names (cloFrom X.env.cells sc.names [])) ff
  have peA := he sC (upd hB D (SetO X.w D (fun (_ : Int) => false) 0)) sC.heap.objs.size (cellsFrom (sC.heap.objs.size + 1) sc.names (cloFrom X.env.cells sc.names [])) ff
  show codeAny _ _ (.compStart (.SetComp el [⟨tg, itr, ifs, 0⟩] sc pos) 0 (.ref it) (.ref D) (compEnvC sc (cellsFrom (sC.heap.objs.size + 1) sc.names (cloFrom X.env.cells sc.names [])) sC.heap.objs.size X.env)) (compPost (model X.prog X.w) X.A X.xe use Qf (.ref D) sC.heap.objs.size) { sC with heap := pushCells (sC.heap.push { cls := .type "dict", data := .dict #[] }) sc.names }
  have nff : ∀ b ∈ ff, (upd hB D (SetO X.w D (fun (_ : Int) => false) 0)) b = none := fun b hb => (fC b hb).1.1
  generalize hev : compEnvC sc (cellsFrom (sC.heap.objs.size + 1) sc.names (cloFrom X.env.cells sc.names [])) sC.heap.objs.size X.env = ev at iD pgA ptA peA ⊢
  have eL : ev.locals = sC.heap.objs.size := by subst hev; rfl
  generalize ehC : upd hB D (SetO X.w D (fun (_ : Int) => false) 0) = hC at iC iD pgA ptA peA wA nff fC
  generalize esD : ({ sC with heap := pushCells (sC.heap.push { cls := .type "dict", data := .dict #[] }) sc.names } : Shared) = sD at iD ⊢
  have kD : tt0 0 sD.heap := T.keep _ _ _ kC fun b _ o e => by rw [← esD]; exact pushCells_keeps _ _ _ _ (Heap.get?_push_of_some _ e)
  have sta : ∀ {σ' : L2.St} {H' : Hp} {s' : Shared}, Inv (X.blk sC hC sc ev ff) [] σ' H' s' → (∀ b ∈ ff, H' b = none) → ∀ b ∈ ff, FpOk (X.blk sC hC sc ev ff) [] H' b := fun {σ' H' s'} I' hns b hb =>
    ⟨hns b hb, (I'.ok.exf b hb).1, I'.ok.exfs b hb, .inl hb, fun x c e => (I'.ok.exf b hb).2 x c e, fun p hp => absurd (show p ∈ ([] : List (Addr × Obj)) ++ [] from hp) (by simp)⟩
  have lop : codeAny (model X.prog X.w) X.A (.compLoop (.SetComp el [⟨tg, itr, ifs, 0⟩] sc pos) 0 (.ref it) (.ref D) ev) (compPost (model X.prog X.w) X.A X.xe use Qf (.ref D) sC.heap.objs.size) sD := by
    refine compLoopS_any (fun n s' => ∃ i H', Inv (X.blk sC hC sc ev ff) [] (wipe σ (loc.map (·.2))) H' s' ∧ tt0 i s'.heap ∧ (∀ b ∈ ff, H' b = none) ∧ W i n H') ?_ mA ⟨0, hC, iD, kD, nff, wA⟩
    rintro n sE ⟨i, hE, iE, kE, nE, wE⟩
    rcases trn i n hE wE with ⟨ss, qz⟩ | ⟨gg, Nn, hNn, stp⟩
    · have tdn := T.done (X.blk sC hC sc ev ff) rfl rfl rfl hc i [] sE _ hE (fun _ _ => False) iE (sta iE nE) kE ss
      refine thnF tdn fun r sF ⟨er, iF⟩ => ?_
      subst er
      -- back in the def's context
      have iG : Inv X pn0 σ hE sF := iC.call' (ch := ff) iF.os iF.base iF.hok iF.bare fun b hb => ⟨(fC b hb).1.2.2.2.1, (fC b hb).1.2.1, (fC b hb).1.2.2.2.2.1, (fC b hb).1.2.2.2.2.2⟩
      have nCC : hE sC.heap.objs.size = none := by
        have z : hE ev.locals = none := iF.free
        rw [eL] at z
        exact z
      obtain ⟨m, hns, _⟩ := iF.loc
      have hns : sF.heap.Ns ev.locals m := hns
      rw [eL] at hns
      exact hRR D sC.heap.objs.size sF m hE iG qz hns (iC.fpOk (Nat.le_refl _) nCC)
    · have tit := T.item (X.blk sC hC sc ev ff) rfl rfl rfl hc i [] sE _ hE (fun _ _ => False) iE (sta iE nE) kE gg
      refine thnF tit fun r sF ⟨u, er, gF⟩ => ?_
      subst er
      refine thnF gF fun _ sG ⟨x, hG, iG, rG, yG, kG, nG⟩ => ?_
      have iG' := iG.pinned (sta iG nG) (T.obj _ _ kG)
      refine thnF (pgA.run _ sG _ hG x u _ iG' rG (stp x hG yG)) fun _ sH ⟨σ8, hH, iH, wH, qH⟩ => ?_
      refine thnF (ptA.run _ sH σ8 hH _ iH qH) fun b sI ⟨hI, iI, qI⟩ => ?_
      -- the turn's end
      have fi : ∀ {s' : Shared} {H' : Hp}, Inv (X.blk sC hC sc ev ff) ([] ++ pinsAt ff sG.heap) σ8 H' s' → Nn H' → ∃ m, m < n ∧ ∃ i H', Inv (X.blk sC hC sc ev ff) [] (wipe σ (loc.map (·.2))) H' s' ∧ tt0 i s'.heap ∧ (∀ b ∈ ff, H' b = none) ∧ W i m H' := fun {s' H'} I' nn => by
        obtain ⟨m9, em, w9⟩ := hNn H' nn
        have pk' : ∀ b ∈ ff, ∀ o, sG.heap.get? b = some o → s'.heap.get? b = some o ∧ H' b = none := fun b hb o e =>
          let z := I'.pin (b, o) (List.mem_append_right _ (List.mem_append_right _ (mem_pinsAt hb e)))
          ⟨z.1, z.2.1⟩
        have el2 : (wipe σ (loc.map (·.2))).length = σ8.length := by rw [← wH, wipe_length]
        refine ⟨m9, em, i + 1, H', (I'.unpinned (pins := [])).weak el2 (fun j v e => ?_), T.keep _ _ _ kG fun b hb o e => (pk' b hb o e).1, fun b hb => ?_, w9⟩
        · rw [← wH] at e
          exact (wipe_some e).1
        · obtain ⟨o, e, _⟩ := T.obj _ _ kG b hb
          exact (pk' b hb o e).2
      cases b with
      | false =>
        simp only [Bool.false_eq_true, if_false] at qI ⊢
        exact fi iI qI
      | true =>
        simp only [if_true] at qI ⊢
        refine thnF (peA.run _ sI σ8 hI _ iI qI) fun z sJ ⟨yv, hJ, iJ, rJ, cb, S0, n0, ey, hD10, hz10, nn⟩ => ?_
        subst ey
        obtain ⟨tz, rfl⟩ : ∃ t, z = Value.int cb t := rJ
        exact addI_ok (X := X.blk sC hC sc ev ff) iJ hD10 hz10 fun sK iK => fi iK nn
  exact codeAny_compStart_set lop (T.self X.A 0 _ _ _ kD lop)
/-- as a value -/
theorem pe_si {el tg itr : Expr} {ifs : List Expr} {sc : Scope} {loc : List (PySem.Str × Nat)} {pos : Pos} {wi : TI} {g : TG} {tt : TT} {te : TE} (hc : X.calm = true) (hN : X.N.Nodup) (hi : PI X tg itr wi) (ok : BlkOk X.N X.env.scope sc loc)
    (hg : ∀ (s : Shared) (H : Hp) (C : Addr) (cl : List (PySem.Str × Addr)) (ff : List Addr), PG (X.blk s H sc (compEnvC sc cl C X.env) ff) tg g) (ht : ∀ (s : Shared) (H : Hp) (C : Addr) (cl : List (PySem.Str × Addr)) (ff : List Addr), PTs (X.blk s H sc (compEnvC sc cl C X.env) ff) ifs tt)
    (he : ∀ (s : Shared) (H : Hp) (C : Addr) (cl : List (PySem.Str × Addr)) (ff : List Addr), PE (X.blk s H sc (compEnvC sc cl C X.env) ff) el te) (hs : ∀ x, foldedSetIterable itr X.env x = pure x := by intro _; rfl) :
    PE X (.SetComp el [⟨tg, itr, ifs, 0⟩] sc pos) (tSi X.w wi g tt te (loc.map (·.2))) := by
  refine ⟨fun pn0 s σ H Q I h => ?_⟩
  rw [eval_SetComp]
  refine si_core hc hN I hi ok hg ht he hs h fun D C s' m H' I' q hns f => ⟨m, hns, fun h'' sb => ?_⟩
  obtain ⟨f0, f1, fB, fC, f4, f5⟩ := f
  exact ⟨.ref D, H', I'.turned (t' := s'.toks) (fun b o hb e => (sb.2 b hb).trans e) f0 f1 fC f4 f5, rfl, q⟩
end
section
variable {X : Cx}
/-- len of a set of ints -/
theorem call_lenI : CallR X (.builtin "len") (fun xs H Q => ∃ a S n, xs = [.ref a] ∧ H a = some (SetO X.w a S n) ∧ Q (.int n) H) := by
  intro pins s σ H xs us Q I r h
  obtain ⟨a, S, n, rfl, ha, q⟩ := h
  obtain ⟨u, rfl, rx⟩ := vals1 r
  cases rx
  obtain ⟨o, es, ep, t, ho, hex, hd, _, _, _, hsz, hf, hn, _, _⟩ := setO_get I ha
  have hb : scanBound = 4096 := rfl
  refine call_len_set ho hex hd hf (by omega) ⟨.int n, H, I.tok _, ⟨_, by rw [hn]⟩, q⟩
end
section
variable {X : Cx} {g : G0} {K : PySem.W.Frag}
/-- how many different -/
def many : List Int → Nat
  | [] => 0
  | x :: r => if x ∈ r then many r else many r + 1
/-- the turns: the answers so far -/
def scW (gt : TGw) (te : TW) (w : W) : List D → List Int → (List Int → Prop) → Prop
  | [], acc, Q => Q acc
  | x :: r, acc, Q => gt x w fun w1 => te w1 fun e w2 => w2 = w1 ∧ match e with
      | .d (.int i) => scW gt te w r (i :: acc) Q
      | _ => False
def eLenSet (ti : TIw) (gt : TGw) (te : TW) (vs : List Nat) : TW := fun w Q => ti w fun xs w1 => okWipe w1 vs ∧ xs.length < 1000 ∧ scW gt te (wipeW w1 vs) xs [] fun ys => Q (.d (.int (many ys))) w1
theorem many_le : ∀ ys : List Int, many ys ≤ ys.length
  | [] => Nat.le_refl _
  | x :: r => by
    have := many_le r
    unfold many
    split <;> simp only [List.length_cons] <;> omega
def exE2 (K : PySem.W.Frag) (g : G0) (t : TW) : TE := fun σ H Q => ∃ D o, up K (g.blkO D o) t σ H Q
def exG2 (K : PySem.W.Frag) (g : G0) (is : List Nat) (t : TGw) : TG := fun v σ H Q => ∃ D o, upG K (g.blkO D o) is t v σ H Q
theorem PE.ex2 {e : Expr} {t : TW} (h : ∀ D o, PEW X (g.blkO D o) e t) : PE X e (exE2 X.K g t) := ⟨fun pins s σ H Q I ⟨D, o, q⟩ => (h D o).run pins s σ H Q I q⟩
theorem PG.ex2 {e : Expr} {is : List Nat} {t : TGw} (h : ∀ D o, PGW X (g.blkO D o) is e t) : PG X e (exG2 X.K g is t) := ⟨fun pins s σ H v u Q I r ⟨D, o, q⟩ => (h D o).run pins s σ H v u Q I r q⟩
theorem set_turns {wd : World} {is vs : List Nat} {gt : TGw} {te : TW} (sub : ∀ i ∈ is, i ∈ vs) (only : GOnly gt vs) {A : List Addr} {w : W} {σ : L2.St} {H1 : Hp} {xs : List D} {J : It} {Q0 : E → W → Prop} {Q : VK}
    (R0 : Rel (gmK K g) [] A w σ H1) (wk : Walk K (vis g A H1) J xs) (ok : okWipe w vs) (hlen : xs.length < 1000) (q : scW gt te (wipeW w vs) xs [] fun ys => Q0 (.d (.int (many ys))) w) (k : Then K g A σ H1 Q0 Q) (D : Addr) (hD : H1 D = none) :
    ∃ Wv : Nat → Nat → Hp → Prop, (∃ m, Wv 0 m (upd H1 D (SetO wd D (fun _ => false) 0))) ∧ ∀ i m H, Wv i m H →
      (J.stop i H ∧ ∃ a S n, [V.ref D] = [.ref a] ∧ H a = some (SetO wd a S n) ∧ Q (.int n) H) ∨ (J.go i H ∧ ∃ Nx : Hp → Prop, (∀ H', Nx H' → ∃ m', m' < m ∧ Wv (i + 1) m' H') ∧ ∀ x H', J.yld i H x H' → exG2 K g is gt x (wipe σ vs) H' fun σ2 H2 => wipe σ2 vs = wipe σ vs ∧ tYes σ2 H2 fun b H3 =>
        if b = true then exE2 K g te σ2 H3 fun y H4 => ∃ (c : Int) (S : Int → Bool) (n : Nat), y = .int c ∧ H4 D = some (SetO wd D S n) ∧ n + 1 < scanBound ∧ Nx (upd H4 D (SetO wd D (fun j => S j || decide (j = c)) (if S c = true then n else n + 1))) else Nx H3) := by
  obtain ⟨np, eD⟩ := R0.fresh_out hD
  have nD : D ∉ g.O := fun z => np (by simp [z])
  have B : BlkD K g D := ⟨eD, nD, R0.st.mem, R0.st.memT, R0.st.cells⟩
  have Rw := (wipe_ok R0 ok).1
  have okw : okWipe (wipeW w vs) vs := fun v hv => wipeW_plain (ok v hv)
  have ww : wipeW (wipeW w vs) vs = wipeW w vs := by
    have : ∀ us : List Nat, (∀ u ∈ us, u ∈ vs) → wipeW (wipeW w us) vs = wipeW w vs := fun us => by
      induction us with
      | nil => intro _; rfl
      | cons u us ih =>
        intro h
        show wipeW ((wipeW w us).set u .un) vs = _
        rw [wipeW_only (h u (List.mem_cons_self ..)), ih fun y hy => h y (List.mem_cons_of_mem _ hy)]
    exact this vs fun _ h => h
  let Pv : Nat → Hp → Prop := fun i H => ∃ (ys : List Int) (S : Int → Bool), (∀ j, S j = decide (j ∈ ys)) ∧ ys.length ≤ i ∧ Rel (gmK K (g.blkO D (SetO wd D S (many ys)))) [] A (wipeW w vs) (wipe σ vs) H ∧ GLe (vis g A H1) (hid H ([D] ++ A ++ g.O)) ∧
    scW gt te (wipeW w vs) (xs.drop i) ys (fun ys => Q0 (.d (.int (many ys))) w)
  have l0 : GLe (vis g A H1) (hid (upd H1 D (SetO wd D (fun _ => false) 0)) ([D] ++ A ++ g.O)) := by
    intro b o e
    obtain ⟨n, e⟩ := hid_of e
    have nb : b ≠ D := fun z => by rw [z, hD] at e; cases e
    rw [hid_out (by simp at n ⊢; exact ⟨nb, n⟩), upd_ne nb]
    exact e
  have p0 : Pv 0 (upd H1 D (SetO wd D (fun _ => false) 0)) := ⟨[], fun _ => false, fun j => by simp, Nat.le_refl _, (Rw.newEx hD).enter upd_same, l0, by simpa using q⟩
  refine ⟨fun i m H => m = xs.length - i ∧ i ≤ xs.length ∧ Pv i H, ⟨xs.length, by simp, Nat.zero_le _, p0⟩, ?_⟩
  rintro i m H ⟨rfl, hi, ys, S, hS, hy, R2, l2, q2⟩
  have at_ : ∀ {S : Int → Bool} {n : Nat} {w5 : W} {σ5 : L2.St} {H5 : Hp}, Rel (gmK K (g.blkO D (SetO wd D S n))) [] A w5 σ5 H5 → H5 D = some (SetO wd D S n) := fun {S n w5 σ5 H5} R5 => R5.since D _ (show L2.upd g.He D _ D = _ from upd_same) B.free
  by_cases hlt : i < xs.length
  · obtain ⟨g1, g2⟩ := wk.go H i xs[i] (l2.trans hid_le) (by simp [hlt])
    rw [List.drop_eq_getElem_cons hlt] at q2
    refine .inr ⟨g1, Pv (i + 1), fun H' p => ⟨xs.length - (i + 1), by omega, rfl, hlt, p⟩, fun x H3 y => ?_⟩
    obtain ⟨e, rx⟩ := g2 x H3 y
    subst e
    have vb : ∀ H5, vis (g.blkO D (SetO wd D S (many ys))) A H5 = hid H5 ([D] ++ A ++ g.O) := fun H5 => hid_blk
    refine ⟨D, SetO wd D S (many ys), A, wipeW w vs, _, _, R2, by rw [vb]; exact rx.mono l2, only _ _ _ okw q2, fun w4 ⟨q4, ew4, ok4⟩ σ4 H4 R4 so l4 => ?_⟩
    rw [vb, vb] at l4
    have eσ : wipe σ4 vs = wipe σ vs := (wipe_only so sub).trans (wipe_wipe σ vs)
    refine ⟨eσ, ?_⟩
    show (if true = true then exE2 K g te σ4 H4 _ else Pv (i + 1) H4)
    rw [if_pos rfl]
    refine ⟨D, SetO wd D S (many ys), A, w4, _, R4, q4, fun e w6 q6 v H6 R6 r6 l6 => ?_⟩
    rw [vb, vb] at l6
    obtain ⟨ew6, q6⟩ := q6
    subst ew6
    split at q6
    · rename_i c
      cases r6
      have hm := many_le ys
      have hb : scanBound = 4096 := rfl
      refine ⟨c, S, many ys, rfl, at_ R6, by omega, c :: ys, (fun j => S j || decide (j = c)), fun j => ?_, by simp; omega, ?_, ?_, q6⟩
      · show (S j || decide (j = c)) = _
        rw [hS j, Bool.eq_iff_iff]
        simp [or_comm]
      · have back := (wipe_ok R6 ok4).1
        rw [ew4, ww, eσ] at back
        have em : many (c :: ys) = if S c = true then many ys else many ys + 1 := by
          rw [hS c]
          show (if c ∈ ys then many ys else many ys + 1) = _
          by_cases h : c ∈ ys <;> simp [h]
        rw [em]
        exact back.grow B
      · rw [hid_upd (by simp)]
        exact (l2.trans l4).trans l6
    · exact q6.elim
  · have e : i = xs.length := by omega
    subst e
    rw [List.drop_length] at q2
    have eH := at_ R2
    have R4 : Rel (gmK K g) [D] A w σ H := R2.leave B fun z => slots_back l2 R0.slots z ok
    obtain ⟨R5, l5⟩ := R4.unEx
    exact .inl ⟨wk.stop H _ (l2.trans hid_le) (Nat.le_refl _), D, S, many ys, rfl, eH, k _ _ q2 _ _ R5 (.int _) (l2.trans l5)⟩
theorem e_lenSet {elt tg iter : Expr} {scope : Scope} {own : List (Str × Nat)} {p pos pos2 : Pos} {ti : TIw} {is : List Nat} {gt : TGw} {te : TW} (hc : X.calm = true) (hN : X.N.Nodup) (T : Blt X.mg) (hi : PIW X g tg iter ti) (ok : BlkOk X.N X.env.scope scope own)
    (hgt : ∀ (s : Shared) (H : Hp) (C : Addr) (cl : List (Str × Addr)) (fp : List Addr) (D : Addr) (o : HO), PGW (X.blk s H scope (compEnvC scope cl C X.env) fp) (g.blkO D o) is tg gt)
    (he : ∀ (s : Shared) (H : Hp) (C : Addr) (cl : List (Str × Addr)) (fp : List Addr) (D : Addr) (o : HO), PEW (X.blk s H scope (compEnvC scope cl C X.env) fp) (g.blkO D o) elt te) (only : GOnly gt (own.map (·.2))) (sub : ∀ i ∈ is, i ∈ own.map (·.2) := by decide) (hg : Gl X "len" := by rfl) (hs : ∀ x, foldedSetIterable iter X.env x = pure x := by intro _; rfl)
    (h1 : starEach [.SetComp elt [⟨tg, iter, [], 0⟩] scope pos2] X.env = (false, eval (.SetComp elt [⟨tg, iter, [], 0⟩] scope pos2) X.env) :: starEach [] X.env := by rfl) (h2 : (backTo pos (starEach [] X.env)).any (·.1) = false := by rfl) :
    PEW X g (.Call (.Name "len" p) [.SetComp elt [⟨tg, iter, [], 0⟩] scope pos2] [] pos) (eLenSet ti gt te (own.map (·.2))) :=
  PE.imp (pe_callB call_lenI hg T.len (by decide +kernel) (pa_cons (pe_si (loc := own) hc hN hi ok (fun s H C cl fp => PG.ex2 (hgt s H C cl fp)) (fun s H C cl fp => pts_nil) (fun s H C cl fp => PE.ex2 (he s H C cl fp)) hs) pa_nil h1) (by decide) (by decide) h1 h2) fun σ H Q ⟨A, w, Q0, R0, q, k⟩ =>
    ⟨A, w, _, R0, q, fun xs w1 q1 J H1 R1 wk l1 D hD => set_turns sub only R1 wk q1.1 q1.2.1 q1.2.2 (k.comp l1) D hD⟩
end
end OW


namespace OW
open PySem PySem.Spec PyProof.Rows L2

/-! ### defs that may raise one exception of the program's own, with one field -/
/-- the exception's class, its field -/
abbrev SpecX := List E → (R → Prop) → (D → Prop) → Prop
def spUX (K : PySem.W.Frag) (TB : List Addr) (C : Addr) (fld : Str) (spec : SpecX) : Sp := fun vs H Q EX => ∃ (g : G0) (es : List E) (Q0 : R → Prop) (E0 : D → Prop), g.He = H ∧ g.s0.tb = TB ∧ (∀ b ∈ g.O, H b ≠ none) ∧ StIn K g.O g.s0 H H ∧ RepEs K g (hid H g.O) [] es vs ∧ spec es Q0 E0 ∧
  (∀ r, Q0 r → ∀ v H', Keep g.s0 H H' → StO g.s0 H' → RepR K g.O H H' r v → Q v H') ∧
  ∀ d, E0 d → ∀ v H' dd, Keep g.s0 H H' → StO g.s0 H' → Rep K (hid H' g.O) d v → H' dd = none → EX (.ref C) (some dd) (upd H' dd (.xd [(fld, v)]))
section
variable {P : Program} {w : World} {K : PySem.W.Frag} {mg : Str → Option Value} {base : Heap}
/-- __init__: self.fld = v -/
def spInit (C : Addr) (fld : Str) : Sp := fun vs H Q _ => ∃ a v, vs = [.ref a, v] ∧ H a = some (exo a C none) ∧ ∀ dx, H dx = none → dx ≠ a → Q .non (upd (upd H dx (exd dx [(fld, v)])) a (exo a C (some dx)))
theorem init_ok {qual fld : Str} {params : Arguments} {body : List Stmt} {scope : Scope} {f C : Addr} {fd : FuncData} {p1 p2 p3 p4 : Pos} (F : FunD K "__init__" qual params body scope [] [] f fd) (S : FnScope ["self", fld] ["self", fld] scope) (T : OexC K C) (hno : PySem.W.findIn K (.ref C) fld = some none)
    (hb : body = [.Assign [.Attribute (.Name "self" p1) fld p2] (.Name fld p3) p4]) (h0 : ∀ l f cdv, swapsWith (.Name fld p3) (some (.Attribute (.Name "self" p1) fld p2)) p4.line (envOfC qual scope l f cdv) = pure false) (hd : (fld == ("__debug__" : Str)) = false) (hcd : (fld == ("__classdict__" : Str)) = false)
    (hv1 : Vis scope "self") (hv2 : Vis scope fld) : FnOk P w K mg base CX0 1 f fd ["self", fld] (spInit C fld) := by
  subst hb
  refine F.ok S (fun vs H Q E h => ?_) (fun cdv A outer s H vs Q E hr h => ⟨_, PSs.nox (pss_one (ps_ost (pe_var (i := 0) rfl hv1 (by decide) (by decide)) (pe_var (i := 1) rfl hv2 hd hcd) (h0 _ _ _))), ?_⟩)
  · obtain ⟨a, v, rfl, _⟩ := h
    rfl
  · obtain ⟨a, v, rfl, ha, q⟩ := h
    exact ⟨v, rfl, .ref a, rfl, a, C, rfl, T, hno, .inl ⟨ha, fun dx h1 h2 => q dx h1 h2⟩⟩
end
section
variable {X : Cx} {g : G0} {K : PySem.W.Frag} {EX : EXV}
def sRaise (te : TW) : SW := fun E w => te w fun x _ => match x with
  | .d d => E.ex d
  | _ => False
theorem s_raise {W : WX} {x fld : Str} {C fI : Addr} {k : Nat} {fd : FuncData} {e : Expr} {te : TW} {p pos pos' : Pos} (hc : X.calm = true) (tk : Takes X W) (hW : ∀ v σ H dd, EX v H → H dd = none → W (.ref C) (some dd) σ (upd H dd (.xd [(fld, v)])))
    (T : OexC X.K C) (iC : PySem.W.findIn X.K (.ref C) "__init__" = some (some (.ref fI))) (tI : PySem.W.typeIn X.K (.ref fI) = some (.type "function")) (F1 : FnOk X.prog X.w X.K X.mg X.base CX0 k fI fd ["self", fld] (spInit C fld)) (hr : Room (k + 1) X.A) (hb : Binds X.K fd ["self", fld] [])
    (hg : Gl X x) (hm : X.mg x = some (.ref C)) (ha : PEW X g e te) (hdb : (x == ("__debug__" : Str)) = false := by decide) (he : starEach [e] X.env = (false, eval e X.env) :: starEach [] X.env := by rfl) (hpl : (backTo pos (starEach [] X.env)).any (·.1) = false := by rfl) :
    PSW X g EX (.Raise (some (.Call (.Name x p) [e] [] pos)) none pos') (sRaise te) :=
  PS.imp (ps_raise hc tk (pmk_oex T iC tI F1 hr hb .nil pass0 hg hm (pa_cons ha pa_nil he) hdb he hpl)) fun D σ H ⟨A, w, E0, R0, q, kk⟩ => ⟨A, w, _, R0, q, fun y w1 q1 v H1 R1 r1 l1 => by
    split at q1
    · rename_i d
      refine ⟨by simp, fun a hn => ?_⟩
      refine ⟨a, v, rfl, upd_same, fun dx h1 h2 => ⟨rfl, dx, [(fld, v)], upd_same, ?_, ?_, ?_⟩⟩
      · rw [upd_ne h2, upd_same]
      · rw [upd_ne h2] at h1; exact h1
      · have h1' : H1 dx = none := by rw [upd_ne h2] at h1; exact h1
        have := hW v σ H1 dx (kk.ex _ q1 _ _ R1.out (Rep.mono vis_out r1)) h1'
        have e : upd (del (upd (upd (upd H1 a (exo a C none)) dx (exd dx [(fld, v)])) a (exo a C (some dx))) a) dx (.xd [(fld, v)]) = upd H1 dx (.xd [(fld, v)]) := by
          funext b
          by_cases z : b = dx
          · rw [z, upd_same, upd_same]
          · rw [upd_ne z, upd_ne z]
            by_cases y : b = a
            · rw [y, del_same, hn]
            · rw [del_ne y, upd_ne y, upd_ne z, upd_ne y]
        show W (.ref C) (some dx) σ _
        rw [e]
        exact this
    · exact q1.elim⟩
end
/-! a def with generator expressions, by its code object, that may raise -/
section
variable {P : Program} {w : World} {K : PySem.W.Frag} {mg : Str → Option Value} {base : Heap} {x qual : Str} {params : Arguments} {body : List Stmt} {scope : Scope} {f : Addr} {fd : FuncData} {N ps : List Str} {k : Nat} {spec : SpecX} {t : SW} {TB : List Addr} {C : Addr} {fld : Str}
abbrev exOf (C : Addr) (fld : Str) (E : XK) : EXV := fun v H => ∀ dd, H dd = none → E (.ref C) (some dd) (upd H dd (.xd [(fld, v)]))
theorem def_okTX {c : Addr} {nm : He.Defn} (F : FunD K x qual params body scope [] [] f fd) (hf : f = He.fAd K nm) (hc : He.codeOf K nm = c) (S : FnScope N ps scope) (len : ∀ es Q E, spec es Q E → es.length = ps.length)
    (hb : ∀ (A : Around) (outer : List Env) (s : Shared) (H : Hp) (E : XK) (g : G0), g.s0.tb = TB → Room k (A.deeper (envOfC qual scope s.heap.objs.size f (.ref c))) → PSsW (cxOf (L2.CX P w) P w K mg base N qual scope f (.ref c) A outer s H E) g (exOf C fld E) body t)
    (hp : ∀ es Q E, spec es Q E → t { nx := fun _ => Q (.val .non), rt := Q, ex := E } (startW N.length es)) : FnOk P w K mg base (L2.CX P w) (k + 1) f fd ps (spUX K TB C fld spec) := by
  obtain ⟨oc, od, dV, kV, doc, pm, an, cdv, ct, osl, rfl, lk, hcd, _, _⟩ := F.ex
  obtain ⟨c', rfl⟩ := He.codeIn_ref hcd
  have ec : c' = c := by
    rw [← hc]
    subst hf
    exact (He.codeOf_eq lk rfl).symm
  subst ec
  refine fn_of lk hcd S (fun vs H Q E h => ?_) (fun A outer s H vs Q E hr h => ?_)
  · obtain ⟨g, es, Q0, E0, _, _, _, _, r, hs, _⟩ := h
    rw [← r.length]
    exact len es Q0 E0 hs
  · obtain ⟨⟨He, O, s0⟩, es, Q0, E0, rfl, htb, al, st, r, hs, kk, ke⟩ := h
    refine ⟨_, hb A outer s _ E ⟨He, O, s0⟩ htb hr, [], _, _, start_rel (g := ⟨He, O, s0⟩) (N := N) al st r, hp es Q0 E0 hs, ?_⟩
    refine ⟨fun w' q A' σ' H' R' l => ?_, fun _ q => q.elim, fun _ q => q.elim, fun r q v H' o rr => ?_, fun d q v H' o rr dd hdd => ?_⟩
    · exact kk _ q _ _ R'.since R'.st.cont .non
    · exact kk _ q _ _ o.1 o.2 rr
    · exact ke _ q _ _ _ o.1 o.2 rr hdd
theorem takes_ow {qual : Str} {scope : Scope} {f : Addr} {cd : Value} {A : Around} {outer : List Env} {s : Shared} {H : Hp} {E : XK} : Takes (cxOf (L2.CX P w) P w K mg base N qual scope f cd A outer s H E) (fun cls d _ H' => E cls d H') :=
  takes_of rfl rfl rfl rfl
theorem owns_ow {qual : Str} {scope : Scope} {f : Addr} {cd : Value} {A : Around} {outer : List Env} {s : Shared} {H : Hp} {E : XK} : PassesOwn (model P w) (cxOf (L2.CX P w) P w K mg base N qual scope f cd A outer s H E).A (cxOf (L2.CX P w) P w K mg base N qual scope f cd A outer s H E).env (cxOf (L2.CX P w) P w K mg base N qual scope f cd A outer s H E).xe :=
  passes_of (X := cxOf (L2.CX P w) P w K mg base N qual scope f cd A outer s H E) rfl
end
/-! ### calls by keywords alone, calls of a def that may raise -/
section
variable {K : PySem.W.Frag} {x qual : Str} {params : Arguments} {body : List Stmt} {scope : Scope} {kws : List (Str × V)} {f : Addr} {fd : FuncData} {ps : List Str}
theorem kbind0 (F : FunD K x qual params body scope [] kws f fd)
    (h : ∀ (kV doc pm : Value) (an : Option Addr) (cdv ct : Value) (ws : List Value), ws.length = ps.length → bindArgs (PySem.W.fnOf x qual params body scope .none kV doc pm an cdv ct) ⟨[], ps.zip ws⟩ = pure (ps.zip ws)) : KBn K fd ps 0 ps (fun _ ws => ws) (fun _ zs => zs) := by
  obtain ⟨oc, od, dV, kV, doc, pm, an, cdv, ct, osl, rfl, lk, hcd, hD, hK⟩ := F.ex
  rcases hD with ⟨_, rfl⟩ | ⟨e, _⟩
  · exact ⟨fun s us ws _ l1 l2 => by
      have e : us = [] := List.eq_nil_of_length_eq_zero l1
      subst e
      exact .of_eq (h kV doc pm an cdv ct ws l2), fun _ r => r⟩
  · exact absurd rfl e
end
structure HasX (P : Program) (w : World) (K : PySem.W.Frag) (mg : Str → Option Value) (base : Heap) (TB : List Addr) (k : Nat) (x : Str) (ps : List Str) (C : Addr) (fld : Str) (spec : SpecX) : Prop where
  ex : ∃ f fd, FnOk P w K mg base (L2.CX P w) k f fd ps (spUX K TB C fld spec) ∧ mg x = some (.ref f) ∧ PySem.W.keepIn K (.ref f) = true ∧ Binds K fd ps [] ∧ KBn K fd ps 0 ps (fun _ ws => ws) (fun _ zs => zs)
section
variable {X : Cx} {g : G0} {K : PySem.W.Frag} {k : Nat} {ps : List Str} {spec : SpecX} {TB : List Addr} {C : Addr} {fld : Str} {x : Str} {p pos : Pos} {e : Expr} {es : List Expr} {ta : TWa} {W : WX}
/-- what the surroundings do with the exception -/
def Caught (K : PySem.W.Frag) (g : G0) (n : Nat) (C : Addr) (fld : Str) (W : WX) (Ex : D → Prop) : Prop :=
  ∀ d, Ex d → ∀ (A : List Addr) (w : OW.W) (σ0 : L2.St) (H : Hp) (v : V) (dd : Addr), Rel (gmK K g) [] A w σ0 H → Rep K (vis g A H) d v → H dd = none → ∀ σ : L2.St, σ.length = n → W (.ref C) (some dd) σ (upd H dd (.xd [(fld, v)]))
def eFnX (spec : SpecX) (Ex : D → Prop) (ta : TWa) : TW := fun w Q => ta w fun xs w1 => okArgs xs ∧ spec xs (fun r => match r with
  | .val d => Q (.d d) w1
  | .new ys => Q (.d (.lst ys)) w1) Ex
theorem call_ownX {Ex : D → Prop} {n : Nat} {A : List Addr} {w : OW.W} {σ : L2.St} {H : Hp} {es : List E} {vs : List V} {Q0 : R → Prop} {Q : VK} (htb : g.s0.tb = TB) (hW : Caught K g n C fld W Ex) (R0 : Rel (gmK K g) [] A w σ H) (r : RepEs K g (vis g A H) σ es vs) (ok : okArgs es) (h : spec es Q0 Ex)
    (k : ∀ r, Q0 r → ∀ v H', Rel (gmK K g) [] A w σ H' → GLe (vis g A H) (vis g A H') → Keep g.s0 H H' → RepR K (A ++ g.O) H H' r v → Q v H') : spUX K TB C fld spec vs H Q (fun cls d H' => ∀ σ' : L2.St, σ'.length = n → W cls d σ' H') := by
  obtain ⟨al, st⟩ := StIn.call R0
  refine ⟨⟨H, A ++ g.O, g.s0⟩, es, Q0, Ex, rfl, htb, al, st, (RepEs.nobor (O := A ++ g.O) r ok).he, h, fun r q v H' kp hs rr => ?_, fun d q v H' dd kp hs rr hdd σ' hl => ?_⟩
  · obtain ⟨R1, l1⟩ := R0.keep kp hs
    exact k r q v H' R1 l1 kp rr
  · obtain ⟨R1, l1⟩ := R0.keep kp hs
    exact hW d q A w σ H' v dd R1 (show Rep K (hid H' ([] ++ A ++ g.O)) d v by rw [List.nil_append]; exact rr) hdd σ' hl
theorem passX {n : Nat} (hn : X.N.length = n) (tk : Takes X W) : Passes (L2.CX X.prog X.w) X (fun cls d H' => ∀ σ' : L2.St, σ'.length = n → W cls d σ' H') := fun pins σ H s e s' I c =>
  tk e s' (XE.of_call I (fun cls d H' h => h σ (I.len.trans hn)) c)
theorem e_callX {Ex : D → Prop} {n : Nat} (h : HasX X.prog X.w X.K X.mg X.base TB k x ps C fld spec) (htb : g.s0.tb = TB) (hn : X.N.length = n) (tk : Takes X W) (hW : Caught X.K g n C fld W Ex) (hr : Room k X.A) (ha : PAW X g (e :: es) ta) (hg : Gl X x := by rfl) (hdb : (x == ("__debug__" : Str)) = false := by decide)
    (he : starEach (e :: es) X.env = (false, eval e X.env) :: starEach es X.env := by rfl) (hpl : (backTo pos (starEach es X.env)).any (·.1) = false := by rfl) : PEW X g (.Call (.Name x p) (e :: es) [] pos) (eFnX spec Ex ta) := by
  obtain ⟨f, fd, F, hm, hk, hb, _⟩ := h.ex
  exact PE.imp (pe_call F hr hg hm hk hb .nil (passX hn tk) ha hdb he hpl) fun σ H Q ⟨A, w, Q0, R0, q, kk⟩ => ⟨A, w, _, R0, q, fun xs w1 q1 vs H1 R1 r1 l1 => by
    show spUX X.K TB C fld spec (vs ++ []) H1 Q _
    rw [List.append_nil]
    exact call_ownX htb hW R1 r1 q1.1 q1.2 fun r q2 v H2 R2 l2 kp rr => ret_val R1 (kk.comp l1) q2 R2 l2 kp rr⟩
abbrev PKW (X : Cx) (g : G0) (kws : List Keyword) (t : TWa) : Prop := PK X kws (upA X.K g t)
theorem PK.imp {kws : List Keyword} {t t' : TA} (h : PK X kws t) (k : ∀ σ H Q, t' σ H Q → t σ H Q) : PK X kws t' := ⟨fun pos pins s σ H Q I q => h.run pos pins s σ H Q I (k σ H Q q)⟩
theorem k_nil : PKW X g [] aNil := PK.imp pk_nil fun σ H Q ⟨A, w, Q0, R, h, k⟩ => k _ _ h _ _ R .nil (GLe.refl _)
theorem k_cons {a : Expr} {te : TW} {tz : TWa} {kws : List Keyword} {nm : Option Str} {kpos : Pos} (ha : PEW X g a te) (hr : PKW X g kws tz) : PKW X g (⟨nm, a, kpos⟩ :: kws) (aCons te tz) :=
  PK.imp (pk_cons ha hr) fun σ H Q ⟨A, w, Q0, R, h, k⟩ => ⟨A, w, _, R, h, fun x w1 q1 v H1 R1 r1 l1 => ⟨A, w1, _, R1, q1, fun xs w2 q2 vs H2 R2 r2 l2 => k _ _ q2 _ _ R2 (.cons (r1.mono l2) r2) (l1.trans l2)⟩⟩
theorem e_callKX {Ex : D → Prop} {n : Nat} {kws : List Keyword} (h : HasX X.prog X.w X.K X.mg X.base TB k x ps C fld spec) (htb : g.s0.tb = TB) (hlen : ∀ es Q E, spec es Q E → es.length = ps.length) (hn : X.N.length = n) (tk : Takes X W) (hW : Caught X.K g n C fld W Ex) (hr : Room k X.A) (ha : PKW X g kws ta)
    (hks : (backToKw pos (keywordEach kws X.env)).filterMap (·.1) = ps := by rfl) (hg : Gl X x := by rfl) (hdb : (x == ("__debug__" : Str)) = false := by decide) (hall : (backToKw pos (keywordEach kws X.env)).all (·.1.isSome) = true := by rfl)
    (hpl : ((backTo pos (starEach [] X.env)).any (·.1) || (backToKw pos (keywordEach kws X.env)).any (·.1.isNone)) = false := by rfl) : PEW X g (.Call (.Name x p) [] kws pos) (eFnX spec Ex ta) := by
  obtain ⟨f, fd, F, hm, hk, _, hb⟩ := h.ex
  refine ⟨fun pins s σ H Q I ⟨A, w, Q0, R0, q, kk⟩ => ?_⟩
  refine wpAny_Call_Name_kw (ld_glob I hg hm ?_ hdb)
  refine PySem.W.callWith_KW0 (h₀ := X.base) I.ok.mod.kin hk hall ?_ hpl
  refine thn (ha.run pos pins s σ H (fun zs H2 => zs.length = ps.length ∧ spUX X.K TB C fld spec zs H2 Q (fun cls d H' => ∀ σ' : L2.St, σ'.length = n → W cls d σ' H')) I ⟨A, w, _, R0, q, fun xs w1 q1 vs H1 R1 r1 l1 => ?_⟩) fun ws s2 ⟨zs, H2, I2, rz, l2, q2⟩ => ⟨I2.kIn, ?_⟩
  · refine ⟨?_, call_ownX htb hW R1 r1 q1.1 q1.2 fun r q2 v H2 R2 l2 kp rr => ret_val R1 (kk.comp l1) q2 R2 l2 kp rr⟩
    rw [← r1.length]
    exact hlen _ _ _ q1.2
  · rw [hks]
    exact run_fnN (us := []) (vs := []) F hr hb (passX hn tk) I2 .nil rz rfl l2 q2
end
section
variable {X : Cx} {g : G0} {EX : EXV}
/-! ### try: return e; except C as n: return (tag, n.fld) -/
def sTryRet (tag : Str) (te : (D → Prop) → TW) : SW := fun E w => ∃ Ex : D → Prop, (∀ d, Ex d → E.rt (.val (.tup [.str tag, d]))) ∧ sRet (te Ex) E w
theorem s_tryRet {i : Nat} {x n tag fld : Str} {C : Addr} {e : Expr} {te : (D → Prop) → TW} {np p2 p3 p4 p5 p6 pos' pos rp : Pos} {j kt : Nat} (hs : X.stack = X.env :: X.outer) (hf : X.env.frame = some X.env.locals) (hN : X.N.Nodup) (hi : X.N[i]? = some n) (hln : X.env.kindOf n = some .local) (hg : Gl X x) (hm : X.mg x = some (.ref C))
    (hex : PySem.W.exmOne X.K (.ref C) (.ref C) = some true) (T : XfC X.K C) (hno : PySem.W.findIn X.K (.ref C) fld = some none)
    (he : ∀ (W : WX) (pn : List (Addr × Obj)) (xe : Value → Shared → Prop) (Ex : D → Prop), Takes (X.tr pn xe) W → Caught X.K g X.N.length C fld W Ex → PEW (X.tr pn xe) g e (te Ex))
    (hdb : (x == ("__debug__" : Str)) = false := by decide) (hd : (n == ("__debug__" : Str)) = false := by decide) (hcd : (n == ("__classdict__" : Str)) = false := by decide) (hb : attributeBase (.Name n p3) fld X.env (eval (.Name n p3) X.env) = eval (.Name n p3) X.env := by rfl)
    (hst : ∀ env : Env, starEach [.Constant (.str tag) j p2, .Attribute (.Name n p3) fld p4] env = (false, eval (.Constant (.str tag) j p2) env) :: starEach [.Attribute (.Name n p3) fld p4] env := by intro _; rfl) (hst2 : ∀ env : Env, starEach [.Attribute (.Name n p3) fld p4] env = (false, eval (.Attribute (.Name n p3) fld p4) env) :: starEach [] env := by intro _; rfl) :
    PSW X g EX (.Try [.Return (some e) rp] [.ExceptHandler (some (.Name x np)) (some n) [.Return (some (.Tuple [.Constant (.str tag) j p2, .Attribute (.Name n p3) fld p4] kt p5)) p6] pos'] [] [] pos) (sTryRet tag te) := by
  have hv : Vis X.env.scope n := .inl hln
  have core := ps_try_as (X := X) (x := x) (n := n) (c := .ref C) (i := i) (body := [.Return (some e) rp]) (suite := []) (b₀ := .Return (some (.Tuple [.Constant (.str tag) j p2, .Attribute (.Name n p3) fld p4] kt p5)) p6) (np := np) (pos := pos) (pos' := pos')
    (tb := fun W => fun D σ H => ∃ Ex : OW.D → Prop, Caught X.K g X.N.length C fld W Ex ∧ upS X.K g (fun _ _ => False) (sRet (te Ex)) D σ H)
    (ts := fun a cls d => tRet (tTup (tCons (tC (.str tag)) (tCons (tXf a cls d C fld (tVar i)) tNil)))) (Wout := fun _ _ _ _ => False) hs hf hN hi hln ⟨hg, hdb, .inl hm⟩ takes0
    (fun W pn xe tk _ => ⟨fun pins s σ H D I ⟨Ex, hW, q⟩ => (s_one (s_ret (he W pn xe Ex tk hW))).run pins s σ H D I q⟩)
    (fun a oe cls d pn hz hf2 => pss_one (ps_ret (pe_tup (pa_cons pe_str (pa_cons (pe_xf T hno hz hf2 (pe_var (i := i) hi hv hd hcd) hb) pa_nil (hst2 _)) (hst _)))))
  refine PS.imp core fun D σ H ⟨A, w, E0, R0, ⟨Ex, hEx, q⟩, k⟩ => ⟨Ex, ?_, A, w, { E0 with ex := fun _ => False }, R0, q, ⟨k.nx, k.bk, k.ct, k.rt, fun _ q => q.elim⟩⟩
  · intro d hd2 A1 w1 σ0 H1 v dd R1 rv hdd σ' hl
    refine ⟨true, hex, fun _ a ha => ?_, fun z => by cases z⟩
    have hi2 : i < σ'.length := by
      rw [hl]
      exact (List.getElem?_eq_some_iff.mp hi).1
    refine ⟨.ref a, List.getElem?_set_self hi2, rfl, rfl, dd, [(fld, v)], v, rfl, upd_same, by simp [List.lookup], ?_⟩
    refine ⟨by rw [sizeLine_eq]; simp, fun p hp => ?_⟩
    have pd : p ≠ dd := fun z => by rw [z, upd_same] at hp; cases hp
    have hp1 : H1 p = none := by rw [upd_ne pd] at hp; exact hp
    have R2 := (R1.new (o := .xd [(fld, v)]) hdd)
    have R3 := (R2.1.new (o := .tup [.str tag, v]) hp)
    refine k.rt _ (hEx d hd2) _ _ R3.1.out (.tup (.inl (.inl ?_)) (.cons (.str _) (.cons (Rep.mono ((R2.2.trans R3.2).trans vis_out) rv) .nil)))
    exact (hid_out fun z => (R2.1.fresh_out hp).1 (List.mem_append_right _ z)).trans upd_same
end
end OW


namespace OW
open PySem PySem.Spec PyProof.Rows L2

section
variable {X : Cx} {g : G0} {K : PySem.W.Frag}
/-! ### a slot's own list, dict lent to a callee whose answer holds none of it -/
def lendE (w : W) : E → Option E
  | .d x => some (.d x)
  | .st => some .st
  | .bor i => match w[i]? with
    | some (.own xs) => some (.d (.lst xs))
    | some (.ownD ds) => some (.d (.dic ds))
    | _ => none
def lend (w : W) : List E → Option (List E)
  | [] => some []
  | x :: r => match lendE w x, lend w r with
    | some y, some ys => some (y :: ys)
    | _, _ => none
theorem lend_ok {A : List Addr} {w : W} {σ : L2.St} {H : Hp} (R0 : Rel (gmK K g) [] A w σ H) : ∀ {es ys : List E} {vs : List V}, RepEs K g (vis g A H) σ es vs → lend w es = some ys → RepEs K ⟨H, g.O, g.s0⟩ (hid H g.O) [] ys vs
  | [], _, _, .nil, e => by
    cases e
    exact .nil
  | x :: r, ys, _, .cons (v := v) (vs := us) h t, e => by
    have e' : (match lendE w x, lend w r with
      | some y, some ys => some (y :: ys)
      | _, _ => none) = some ys := e
    split at e'
    · rename_i y zs e1 e2
      cases e'
      refine .cons ?_ (lend_ok R0 t e2)
      cases x with
      | d d =>
        cases e1
        exact Rep.mono vis_out h
      | st =>
        cases e1
        exact h
      | bor i =>
        have h' : σ[i]? = some (some v) := h
        have e1' : (match w[i]? with
          | some (.own xs) => some (E.d (.lst xs))
          | some (.ownD ds) => some (E.d (.dic ds))
          | _ => none) = some y := e1
        split at e1'
        · rename_i xs ew
          cases e1'
          obtain ⟨a, us, es, ha, ra, hA⟩ := own_at R0 ew
          rw [h'] at es
          cases es
          exact .lst ((hid_out (R0.own a (by simpa using hA)).1).trans ha) (ra.mono vis_out)
        · rename_i ds ew
          cases e1'
          obtain ⟨a, kvs, es, ha, n, ek, ra, hA⟩ := ownD_at R0 ew
          rw [h'] at es
          cases es
          exact .dic ((hid_out (R0.own a (by simpa using hA)).1).trans ha) n ek (ra.mono vis_out)
        · cases e1'
    · cases e'
theorem flat_any {G G' : Hp} {d : D} {v : V} (h : flatD d = true) (r : Rep K G d v) : Rep K G' d v := by
  cases r <;> first | (simp [flatD] at h; done) | skip
  · exact .non
  · exact .bl _
  · exact .int _
  · exact .str _
def eFnB (spec : Spec) (ta : TWa) : TW := fun w Q => ta w fun xs w1 => match lend w1 xs with
  | some ys => spec ys fun r => match r with
    | .val d => flatD d = true ∧ Q (.d d) w1
    | .new _ => False
  | none => False
theorem e_ownB {k : Nat} {ps : List Str} {spec : Spec} {TB : List Addr} {x : Str} {p pos : Pos} {e : Expr} {es : List Expr} {ta : TWa} (h : Has X.prog X.w X.K X.mg X.base TB k x ps spec) (htb : g.s0.tb = TB) (hr : Room k X.A) (ha : PAW X g (e :: es) ta) (hg : Gl X x := by rfl) (hdb : (x == ("__debug__" : Str)) = false := by decide)
    (he : starEach (e :: es) X.env = (false, eval e X.env) :: starEach es X.env := by rfl) (hpl : (backTo pos (starEach es X.env)).any (·.1) = false := by rfl) : PEW X g (.Call (.Name x p) (e :: es) [] pos) (eFnB spec ta) := by
  obtain ⟨f, fd, F, hm, hk, hb⟩ := h.ex
  exact PE.imp (pe_call F hr hg hm hk hb .nil pass0 ha hdb he hpl) fun σ H Q ⟨A, w, Q0, R0, q, kk⟩ => ⟨A, w, _, R0, q, fun xs w1 q1 vs H1 R1 r1 l1 => by
    show spU X.K TB spec (vs ++ []) H1 Q E0
    rw [List.append_nil]
    split at q1
    · rename_i ys ey
      have rr := lend_ok R1 r1 ey
      obtain ⟨al, st⟩ := StIn.call R1
      refine ⟨⟨H1, g.O, g.s0⟩, ys, _, rfl, htb, fun b hb => al b (List.mem_append_right _ hb), ⟨R1.st.mem, R1.st.memT, R1.st.fre, R1.st.stT, st.cells, R1.st.cont⟩, rr, q1, fun r q2 v H' kp hs r2 => ?_⟩
      obtain ⟨R2, l2⟩ := R1.keep kp hs
      cases r with
      | new _ => exact q2.elim
      | val d => exact kk _ _ q2.2 _ _ R2 (show Rep X.K _ d v from flat_any q2.1 r2) (l1.trans l2)
    · exact q1.elim⟩
end
end OW


namespace K80
open PySem PySem.Spec PyProof.Rows L2 OW GenX
def top (i : Nat) : Stmt := PySem.Challenge.pw_earlyback_k80_sets_looked_at.main.body.getD i (.Pass ⟨0, 0, 0, 0⟩)
section
variable {P : Program} {w : World} {K : PySem.W.Frag} {mg : Str → Option Value} {base : Heap} {TB : List Addr}

/-! ### is_number -/
theorem scis_number : FnScope ["value"] ["value"] (defScope (top 4)) := ⟨rfl, rfl, rfl, by decide +kernel, rfl, by decide +kernel, by decide +kernel⟩
def tis_number : SW := (sRet (eAnd (eIsi "int" (eVar 0)) (eNot (eIsi "bool" (eVar 0)))))
theorem bodyis_number (T : Blt mg)  (cdv : Value) (A : Around) (outer : List Env) (s : Shared) (H : Hp) (E : XK) (g : G0) {f : Addr} (htb : g.s0.tb = TB) (hr : Room 0 (A.deeper (envOfC "is_number" (defScope (top 4)) s.heap.objs.size f cdv))) :
    PSsW (cxOf CX0 P w K mg base ["value"] "is_number" (defScope (top 4)) f cdv A outer s H E).nox g (fun _ _ => False) (defBody (top 4)) (tis_number) := by
  have hu := hr.units
  have hu1 := hu_of hr
  have nd := scis_number.nd
  exact (s_one (s_ret (e_and (e_isInt T (e_var (i := 0))) (e_one (e_not (e_isBool T (e_var (i := 0))))))))
/-! ### number_in -/
theorem scnumber_in : FnScope ["value", "low", "high"] ["value", "low", "high"] (defScope (top 5)) := ⟨rfl, rfl, rfl, by decide +kernel, rfl, by decide +kernel, by decide +kernel⟩
def tnumber_in (spis_number : OW.Spec) : SW := (sRet (eAnd (eFn spis_number (aCons (eVar 0) aNil)) (eChain oLe oLe (eVar 1) (eVar 0) (eVar 2))))
theorem bodynumber_in {spis_number : OW.Spec} (T : Blt mg) (his_number : Has P w K mg base TB 1 "is_number" ["value"] spis_number) (cdv : Value) (A : Around) (outer : List Env) (s : Shared) (H : Hp) (E : XK) (g : G0) {f : Addr} (htb : g.s0.tb = TB) (hr : Room 1 (A.deeper (envOfC "number_in" (defScope (top 5)) s.heap.objs.size f cdv))) :
    PSsW (cxOf CX0 P w K mg base ["value", "low", "high"] "number_in" (defScope (top 5)) f cdv A outer s H E).nox g (fun _ _ => False) (defBody (top 5)) (tnumber_in spis_number) := by
  have hu := hr.units
  have hu1 := hu_of hr
  have nd := scnumber_in.nd
  exact (s_one (s_ret (e_and (e_own his_number htb (hr.mono (by omega)) (a_cons (e_var (i := 0)) a_nil)) (e_one (e_leLe (e_var (i := 1)) (e_var (i := 0)) (e_var (i := 2)))))))
/-! ### is_tuple -/
theorem scis_tuple : FnScope ["value", "size"] ["value", "size"] (defScope (top 6)) := ⟨rfl, rfl, rfl, by decide +kernel, rfl, by decide +kernel, by decide +kernel⟩
def tis_tuple : SW := (sRet (eAnd (eIsi "tuple" (eVar 0)) (eOp oEq (eCall cLen (aCons (eVar 0) aNil)) (eVar 1))))
theorem bodyis_tuple (T : Blt mg)  (cdv : Value) (A : Around) (outer : List Env) (s : Shared) (H : Hp) (E : XK) (g : G0) {f : Addr} (htb : g.s0.tb = TB) (hr : Room 0 (A.deeper (envOfC "is_tuple" (defScope (top 6)) s.heap.objs.size f cdv))) :
    PSsW (cxOf CX0 P w K mg base ["value", "size"] "is_tuple" (defScope (top 6)) f cdv A outer s H E).nox g (fun _ _ => False) (defBody (top 6)) (tis_tuple) := by
  have hu := hr.units
  have hu1 := hu_of hr
  have nd := scis_tuple.nd
  exact (s_one (s_ret (e_and (e_isTuple T (e_var (i := 0))) (e_one (e_eq hu (e_len T (e_var (i := 0))) (e_var (i := 1)))))))
/-! ### ascends -/
theorem scascends : FnScope ["items", "at"] ["items"] (defScope (top 7)) := ⟨rfl, rfl, rfl, by decide +kernel, rfl, by decide +kernel, by decide +kernel⟩
def tascends : SW := (sSeq (sFor (iRange2 (aCons (eC (.int 1)) (aCons (eCall cLen (aCons (eVar 0) aNil)) aNil))) (gN 1)
  (sIf (tNot' (tOf (eOp oLtA (eOp oIx (eVar 0) (eOp oSub (eVar 1) (eC (.int 1)))) (eOp oIx (eVar 0) (eVar 1)))))
  (sRet (eC (.bl false)))
  sNil))
  (sRet (eC (.bl true))))
theorem bodyascends (T : Blt mg)  (cdv : Value) (A : Around) (outer : List Env) (s : Shared) (H : Hp) (E : XK) (g : G0) {f : Addr} (htb : g.s0.tb = TB) (hr : Room 0 (A.deeper (envOfC "ascends" (defScope (top 7)) s.heap.objs.size f cdv))) :
    PSsW (cxOf CX0 P w K mg base ["items", "at"] "ascends" (defScope (top 7)) f cdv A outer s H E).nox g (fun _ _ => False) (defBody (top 7)) (tascends) := by
  have hu := hr.units
  have hu1 := hu_of hr
  have nd := scascends.nd
  exact (s_cons (s_for PassesOwn.never rfl (i_range2 rfl T.range (a_cons e_int (a_cons (e_len T (e_var (i := 0))) a_nil))) (g_name (i := 1) nd rfl (by first | exact Or.inl rfl | exact Or.inr rfl))
  (s_one (s_if (t_not (t_ltA hu (e_ix hu1 (e_var (i := 0)) (e_sub (e_var (i := 1)) e_int)) (e_ix hu1 (e_var (i := 0)) (e_var (i := 1)))))
  (s_one (s_ret e_bl))
  s_nil)))
  (s_one (s_ret e_bl)))
/-! ### members_of -/
theorem scmembers_of : FnScope ["library", "stand", "found", "work", "copy", "place", "number", "reader", "rank", "told"] ["library", "stand"] (defScope (top 9)) := ⟨rfl, rfl, rfl, by decide +kernel, rfl, by decide +kernel, by decide +kernel⟩
def tmembers_of : SW := (sSeq (sNewD 2)
  (sSeq (sFor (iRange1 (aCons (eCall cLen (aCons (eOp oIx (eVar 1) (eC (.int 3))) aNil)) aNil)) (gN 3)
  (sFor (iOf (eOp oIx (eOp oIx (eVar 1) (eC (.int 3))) (eVar 3))) (gSeqW 4 (gsCons (gN 6) (gsCons (gN 7) (gsCons (gN 8) (gsCons (gN 9) gsNil)))))
  (sDput 2 (eVar 6) (eTup (aCons (eVar 7) (aCons (eVar 3) (aCons (eC (.str "line")) (aCons (eVar 9) aNil))))))))
  (sSeq (sFor (iRange1 (aCons (eCall cLen (aCons (eOp oIx (eVar 1) (eC (.int 1))) aNil)) aNil)) (gN 4)
  (sSeq (sSet 5 (eOp oIx (eOp oIx (eVar 1) (eC (.int 1))) (eVar 4)))
  (sIf (tOf (eOp (oIn false) (eOp oIx (eVar 5) (eC (.int 0))) (eTup (aCons (eC (.str "way")) (aCons (eC (.str "ready")) aNil)))))
  (sDput 2 (eOp oIx (eVar 5) (eC (.int 2))) (eTup (aCons (eOp oIx (eVar 5) (eC (.int 3))) (aCons (eOp oIx (eOp oIx (eOp oIx (eVar 0) (eC (.int 2))) (eVar 4)) (eC (.int 0))) (aCons (eOp oIx (eVar 5) (eC (.int 0))) (aCons (eOp oIx (eVar 5) (eC (.int 1))) aNil))))))
  sNil)))
  (sRetD 2))))
theorem bodymembers_of (T : Blt mg)  (cdv : Value) (A : Around) (outer : List Env) (s : Shared) (H : Hp) (E : XK) (g : G0) {f : Addr} (htb : g.s0.tb = TB) (hr : Room 0 (A.deeper (envOfC "members_of" (defScope (top 9)) s.heap.objs.size f cdv))) :
    PSsW (cxOf CX0 P w K mg base ["library", "stand", "found", "work", "copy", "place", "number", "reader", "rank", "told"] "members_of" (defScope (top 9)) f cdv A outer s H E).nox g (fun _ _ => False) (defBody (top 9)) (tmembers_of) := by
  have hu := hr.units
  have hu1 := hu_of hr
  have nd := scmembers_of.nd
  exact (s_cons (s_newD (i := 2) nd rfl (by first | exact Or.inl rfl | exact Or.inr rfl))
  (s_cons (s_for PassesOwn.never rfl (i_range1 rfl T.range (a_cons (e_len T (e_ix hu1 (e_var (i := 1)) e_int)) a_nil)) (g_name (i := 3) nd rfl (by first | exact Or.inl rfl | exact Or.inr rfl))
  (s_one (s_for PassesOwn.never rfl (i_seq (e_ix hu1 (e_ix hu1 (e_var (i := 1)) e_int) (e_var (i := 3)))) (g_seq rfl (gs_cons (g_name (i := 6) nd rfl (by first | exact Or.inl rfl | exact Or.inr rfl)) (gs_cons (g_name (i := 7) nd rfl (by first | exact Or.inl rfl | exact Or.inr rfl)) (gs_cons (g_name (i := 8) nd rfl (by first | exact Or.inl rfl | exact Or.inr rfl)) (gs_cons (g_name (i := 9) nd rfl (by first | exact Or.inl rfl | exact Or.inr rfl)) gs_nil)))))
  (s_one (s_dput hu1 (i := 2) (e_var (i := 6)) (e_tup (a_cons (e_var (i := 7)) (a_cons (e_var (i := 3)) (a_cons e_str (a_cons (e_var (i := 9)) a_nil))))))))))
  (s_cons (s_for PassesOwn.never rfl (i_range1 rfl T.range (a_cons (e_len T (e_ix hu1 (e_var (i := 1)) e_int)) a_nil)) (g_name (i := 4) nd rfl (by first | exact Or.inl rfl | exact Or.inr rfl))
  (s_cons (s_set (i := 5) nd rfl (by first | exact Or.inl rfl | exact Or.inr rfl) (e_ix hu1 (e_ix hu1 (e_var (i := 1)) e_int) (e_var (i := 4))))
  (s_one (s_if (t_in hu1 (e_ix hu1 (e_var (i := 5)) e_int) (e_tup (a_cons e_str (a_cons e_str a_nil))))
  (s_one (s_dput hu1 (i := 2) (e_ix hu1 (e_var (i := 5)) e_int) (e_tup (a_cons (e_ix hu1 (e_var (i := 5)) e_int) (a_cons (e_ix hu1 (e_ix hu1 (e_ix hu1 (e_var (i := 0)) e_int) (e_var (i := 4))) e_int) (a_cons (e_ix hu1 (e_var (i := 5)) e_int) (a_cons (e_ix hu1 (e_var (i := 5)) e_int) a_nil)))))))
  s_nil))))
  (s_one (s_retD (i := 2))))))
/-! ### told_fits -/
theorem sctold_fits : FnScope ["member", "told", "word", "day"] ["member", "told"] (defScope (top 10)) := ⟨rfl, rfl, rfl, by decide +kernel, rfl, by decide +kernel, by decide +kernel⟩
def ttold_fits : SW := (sSeq (sUnp (eSlice (eVar 0) (oSome (eC (.int 2))) oNone) (gSeqW 2 (gsCons (gN 2) (gsCons (gN 3) gsNil))))
  (sSeq (sIf (tOf (eOp oEq (eVar 2) (eC (.str "line"))))
  (sRet (eOp oEq (eVar 3) (eVar 1)))
  sNil)
  (sRet (eOr (eOp oEq (eVar 2) (eC (.str "ready"))) (eOp oLe (eVar 3) (eVar 1))))))
theorem bodytold_fits (T : Blt mg)  (cdv : Value) (A : Around) (outer : List Env) (s : Shared) (H : Hp) (E : XK) (g : G0) {f : Addr} (htb : g.s0.tb = TB) (hr : Room 0 (A.deeper (envOfC "told_fits" (defScope (top 10)) s.heap.objs.size f cdv))) :
    PSsW (cxOf CX0 P w K mg base ["member", "told", "word", "day"] "told_fits" (defScope (top 10)) f cdv A outer s H E).nox g (fun _ _ => False) (defBody (top 10)) (ttold_fits) := by
  have hu := hr.units
  have hu1 := hu_of hr
  have nd := sctold_fits.nd
  exact (s_cons (s_unp (e_slice (e_var (i := 0)) (o_some e_int) o_none) (g_seq rfl (gs_cons (g_name (i := 2) nd rfl (by first | exact Or.inl rfl | exact Or.inr rfl)) (gs_cons (g_name (i := 3) nd rfl (by first | exact Or.inl rfl | exact Or.inr rfl)) gs_nil))))
  (s_cons (s_if (t_eq hu (e_var (i := 2)) e_str)
  (s_one (s_ret (e_eq hu (e_var (i := 3)) (e_var (i := 1)))))
  s_nil)
  (s_one (s_ret (e_or (e_eq hu (e_var (i := 2)) e_str) (e_one (e_le (e_var (i := 3)) (e_var (i := 1)))))))))
/-! ### is_set -/
theorem scis_set : FnScope ["members", "today", "value", "each", "numbers", "told", "number", "member"] ["members", "today", "value"] (defScope (top 11)) := ⟨rfl, rfl, rfl, by decide +kernel, rfl, by decide +kernel, by decide +kernel⟩
def tis_set (spis_tuple spnumber_in spascends sptold_fits spis_number : OW.Spec) : SW := (sSeq (sIf (tOr' (tNot' (tOf (eFn spis_tuple (aCons (eVar 2) (aCons (eC (.int 2)) aNil))))) (tNot' (tOf (eFn spnumber_in (aCons (eOp oIx (eVar 2) (eC (.int 1))) (aCons (eOp oAdd (eVar 1) (eC (.int 1))) (aCons (eC (.int 1000000)) aNil)))))))
  (sRet (eC (.bl false)))
  sNil)
  (sSeq (sUnp (eVar 2) (gSeqW 2 (gsCons (gN 4) (gsCons (gN 5) gsNil))))
  (sSeq (sIf (tOr' (tNot' (tOf (eIsi "tuple" (eVar 4)))) (tNot' (tOf (eChain oLe oLe (eC (.int 2)) (eCall cLen (aCons (eVar 4) aNil)) (eC (.int 4))))))
  (sRet (eC (.bl false)))
  sNil)
  (sSeq (sIf (tOr' (tNot' (tOf (eAny false (iOf (eVar 4)) (gN 6) (eAnd (eFn spis_number (aCons (eVar 6) aNil)) (eOp (oIn false) (eVar 6) (eVar 0))) [6]))) (tNot' (tOf (eFn spascends (aCons (eVar 4) aNil)))))
  (sRet (eC (.bl false)))
  sNil)
  (sSeq (sSet 3 (eF (fLc (iOf (eVar 4)) (gN 6) tYesW (eOp oIx (eVar 0) (eVar 6)) [6])))
  (sSeq (sIf (tOr' (tOf (eAny true (iOf (eVar 3)) (gN 7) (eOp oNe (eOp oIx (eVar 7) (eC (.int 0))) (eOp oIx (eOp oIx (eVar 3) (eC (.int 0))) (eC (.int 0)))) [7])) (tOf (eOp oLtA (eLenSet (iOf (eVar 3)) (gN 7) (eOp oIx (eVar 7) (eC (.int 1))) [7]) (eCall cLen (aCons (eVar 3) aNil)))))
  (sRet (eC (.bl false)))
  sNil)
  (sRet (eAnd (eAny false (iOf (eVar 3)) (gN 7) (eFn sptold_fits (aCons (eVar 7) (aCons (eVar 5) aNil))) [7]) (eAny true (iOf (eVar 3)) (gN 7) (eOp oNe (eOp oIx (eVar 7) (eC (.int 2))) (eC (.str "ready"))) [7])))))))))
theorem bodyis_set {spis_tuple spnumber_in spascends sptold_fits spis_number : OW.Spec} {c Pt : Addr} (TBf : GxR.TabB base mg c Pt) (hPt : Pt ∈ TB) (T : Blt mg) (his_tuple : Has P w K mg base TB 1 "is_tuple" ["value", "size"] spis_tuple) (hnumber_in : Has P w K mg base TB 2 "number_in" ["value", "low", "high"] spnumber_in) (hascends : Has P w K mg base TB 1 "ascends" ["items"] spascends) (htold_fits : Has P w K mg base TB 1 "told_fits" ["member", "told"] sptold_fits) (his_number : Has P w K mg base TB 1 "is_number" ["value"] spis_number) (A : Around) (outer : List Env) (s : Shared) (H : Hp) (E : XK) (g : G0) {f : Addr} (htb : g.s0.tb = TB) (hr : Room 4 (A.deeper (envOfC "is_set" (defScope (top 11)) s.heap.objs.size f (.ref c)))) :
    PSsW (cxOf CX0 P w K mg base ["members", "today", "value", "each", "numbers", "told", "number", "member"] "is_set" (defScope (top 11)) f (.ref c) A outer s H E).nox g (fun _ _ => False) (defBody (top 11)) (tis_set spis_tuple spnumber_in spascends sptold_fits spis_number) := by
  have hu := hr.units
  have hu1 := hu_of hr
  have nd := scis_set.nd
  have hP : Pt ∈ g.s0.tb := by rw [htb]; exact hPt
  have hrg : ∀ ge, Room 1 ((A.deeper (envOfC "is_set" (defScope (top 11)) s.heap.objs.size f (.ref c))).in1.in1.deeper ge) := fun ge => room_gen hr
  have hug : ∀ ge, ((A.deeper (envOfC "is_set" (defScope (top 11)) s.heap.objs.size f (.ref c))).in1.in1.deeper ge).units + 64 < cLine := fun ge => (hrg ge).units
  have hu1g : ∀ ge, ((A.deeper (envOfC "is_set" (defScope (top 11)) s.heap.objs.size f (.ref c))).in1.in1.deeper ge).units + 1 < cLine := fun ge => hu_of (hrg ge)
  exact (s_cons (s_if (t_w (w_or (t_not (t_val (e_own his_tuple htb (hr.mono (by omega)) (a_cons (e_var (i := 2)) (a_cons e_int a_nil))))) (w_or1 (t_not (t_val (e_own hnumber_in htb (hr.mono (by omega)) (a_cons (e_ix hu1 (e_var (i := 2)) e_int) (a_cons (e_add (e_var (i := 1)) e_int) (a_cons e_int a_nil)))))))))
  (s_one (s_ret e_bl))
  s_nil)
  (s_cons (s_unp (e_var (i := 2)) (g_seq rfl (gs_cons (g_name (i := 4) nd rfl (by first | exact Or.inl rfl | exact Or.inr rfl)) (gs_cons (g_name (i := 5) nd rfl (by first | exact Or.inl rfl | exact Or.inr rfl)) gs_nil))))
  (s_cons (s_if (t_w (w_or (t_not (t_val (e_isTuple T (e_var (i := 4))))) (w_or1 (t_not (t_leLe e_int (e_len T (e_var (i := 4))) e_int)))))
  (s_one (s_ret e_bl))
  s_nil)
  (s_cons (s_if (t_w (w_or (t_not (t_val (e_all (own := [("number", 6)]) rfl nd hr T TBf rfl hP (i_seq (e_var (i := 4))) ⟨rfl, by decide +kernel, rfl⟩ (blkOk_by (by first | decide +kernel | kernel_rfl)) (fun _ _ _ _ _ _ => (g_name (i := 6) nd rfl (by first | exact Or.inl rfl | exact Or.inr rfl))) (fun _ _ _ _ _ _ => (e_and (e_own his_number htb ((hrg _).mono (by omega)) (a_cons (e_var (i := 6)) a_nil)) (e_one (e_in (hu1g _) (e_var (i := 6)) (e_var (i := 0)))))) (only_name (by decide))))) (w_or1 (t_not (t_val (e_own hascends htb (hr.mono (by omega)) (a_cons (e_var (i := 4)) a_nil)))))))
  (s_one (s_ret e_bl))
  s_nil)
  (s_cons (s_set (i := 3) nd rfl (by first | exact Or.inl rfl | exact Or.inr rfl) (f_e (f_lc (own := [("number", 6)]) rfl nd (i_seq (e_var (i := 4))) (blkOk_by (by first | decide +kernel | kernel_rfl)) (fun _ _ _ _ _ _ _ => (g_name (i := 6) nd rfl (by first | exact Or.inl rfl | exact Or.inr rfl))) (fun _ _ _ _ _ _ _ => ts_nil) (fun _ _ _ _ _ _ _ => (e_ix hu1 (e_var (i := 0)) (e_var (i := 6)))) (only_name (by decide)))))
  (s_cons (s_if (t_w (w_or (t_val (e_any (own := [("member", 7)]) rfl nd hr T TBf rfl hP (i_seq (e_var (i := 3))) ⟨rfl, by decide +kernel, rfl⟩ (blkOk_by (by first | decide +kernel | kernel_rfl)) (fun _ _ _ _ _ _ => (g_name (i := 7) nd rfl (by first | exact Or.inl rfl | exact Or.inr rfl))) (fun _ _ _ _ _ _ => (e_ne (hug _) (e_ix (hu1g _) (e_var (i := 7)) e_int) (e_ix (hu1g _) (e_ix (hu1g _) (e_var (i := 3)) e_int) e_int))) (only_name (by decide)))) (w_or1 (t_ltA hu (e_lenSet (own := [("member", 7)]) rfl nd T (i_seq (e_var (i := 3))) (blkOk_by (by first | decide +kernel | kernel_rfl)) (fun _ _ _ _ _ _ _ => (g_name (i := 7) nd rfl (by first | exact Or.inl rfl | exact Or.inr rfl))) (fun _ _ _ _ _ _ _ => (e_ix hu1 (e_var (i := 7)) e_int)) (only_name (by decide))) (e_len T (e_var (i := 3)))))))
  (s_one (s_ret e_bl))
  s_nil)
  (s_one (s_ret (e_and (e_all (own := [("member", 7)]) rfl nd hr T TBf rfl hP (i_seq (e_var (i := 3))) ⟨rfl, by decide +kernel, rfl⟩ (blkOk_by (by first | decide +kernel | kernel_rfl)) (fun _ _ _ _ _ _ => (g_name (i := 7) nd rfl (by first | exact Or.inl rfl | exact Or.inr rfl))) (fun _ _ _ _ _ _ => (e_own htold_fits htb ((hrg _).mono (by omega)) (a_cons (e_var (i := 7)) (a_cons (e_var (i := 5)) a_nil)))) (only_name (by decide))) (e_one (e_any (own := [("member", 7)]) rfl nd hr T TBf rfl hP (i_seq (e_var (i := 3))) ⟨rfl, by decide +kernel, rfl⟩ (blkOk_by (by first | decide +kernel | kernel_rfl)) (fun _ _ _ _ _ _ => (g_name (i := 7) nd rfl (by first | exact Or.inl rfl | exact Or.inr rfl))) (fun _ _ _ _ _ _ => (e_ne (hug _) (e_ix (hu1g _) (e_var (i := 7)) e_int) e_str)) (only_name (by decide)))))))))))))
/-! ### check_sets -/
theorem sccheck_sets : FnScope ["library", "stand", "value", "members", "met", "at", "number"] ["library", "stand", "value"] (defScope (top 12)) := ⟨rfl, rfl, rfl, by decide +kernel, rfl, by decide +kernel, by decide +kernel⟩
def tcheck_sets (spmembers_of spis_set : OW.Spec) : SW := (sSeq (sIf (tNot' (tOf (eIsi "tuple" (eVar 2))))
  (sRaise (eNeg (eC (.int 1))))
  sNil)
  (sSeq (sSet 3 (eFn spmembers_of (aCons (eVar 0) (aCons (eVar 1) aNil))))
  (sSeq (sNewD 4)
  (sFor (iRange1 (aCons (eCall cLen (aCons (eVar 2) aNil)) aNil)) (gN 5)
  (sSeq (sIf (tOr' (tNot' (tOf (eFn spis_set (aCons (eVar 3) (aCons (eOp oIx (eVar 1) (eC (.int 0))) (aCons (eOp oIx (eVar 2) (eVar 5)) aNil)))))) (tOf (eAny true (iOf (eOp oIx (eOp oIx (eVar 2) (eVar 5)) (eC (.int 0)))) (gN 6) (eOp (oIn false) (eVar 6) (eVar 4)) [6])))
  (sRaise (eVar 5))
  sNil)
  (sSeq (sIf (tAnd' (tOf (eOp oGt (eVar 5) (eC (.int 0)))) (tNot' (tOf (eOp oLtA (eOp oIx (eVar 2) (eOp oSub (eVar 5) (eC (.int 1)))) (eOp oIx (eVar 2) (eVar 5))))))
  (sRaise (eVar 5))
  sNil)
  (sFor (iOf (eOp oIx (eOp oIx (eVar 2) (eVar 5)) (eC (.int 0)))) (gN 6)
  (sDput 4 (eVar 6) (eC (.bl true))))))))))
theorem bodycheck_sets {spmembers_of spis_set : OW.Spec} {c Pt : Addr} (TBf : GxR.TabB base mg c Pt) (hPt : Pt ∈ TB) {C fI : Addr} {fdI : FuncData} (XT : OexC K C) (iC : PySem.W.findIn K (.ref C) "__init__" = some (some (.ref fI))) (tI : PySem.W.typeIn K (.ref fI) = some (.type "function")) (F1 : FnOk P w K mg base CX0 1 fI fdI ["self", "number"] (spInit C "number")) (hbI : Binds K fdI ["self", "number"] []) (hmC : mg "BadSets" = some (.ref C)) (T : Blt mg) (hmembers_of : Has P w K mg base TB 1 "members_of" ["library", "stand"] spmembers_of) (his_set : Has P w K mg base TB 5 "is_set" ["members", "today", "value"] spis_set) (A : Around) (outer : List Env) (s : Shared) (H : Hp) (E : XK) (g : G0) {f : Addr} (htb : g.s0.tb = TB) (hr : Room 5 (A.deeper (envOfC "check_sets" (defScope (top 12)) s.heap.objs.size f (.ref c)))) :
    PSsW (cxOf (L2.CX P w) P w K mg base ["library", "stand", "value", "members", "met", "at", "number"] "check_sets" (defScope (top 12)) f (.ref c) A outer s H E) g (exOf C "number" E) (defBody (top 12)) (tcheck_sets spmembers_of spis_set) := by
  have hu := hr.units
  have hu1 := hu_of hr
  have nd := sccheck_sets.nd
  have hP : Pt ∈ g.s0.tb := by rw [htb]; exact hPt
  have hrg : ∀ ge, Room 2 ((A.deeper (envOfC "check_sets" (defScope (top 12)) s.heap.objs.size f (.ref c))).in1.in1.deeper ge) := fun ge => room_gen hr
  have hug : ∀ ge, ((A.deeper (envOfC "check_sets" (defScope (top 12)) s.heap.objs.size f (.ref c))).in1.in1.deeper ge).units + 64 < cLine := fun ge => (hrg ge).units
  have hu1g : ∀ ge, ((A.deeper (envOfC "check_sets" (defScope (top 12)) s.heap.objs.size f (.ref c))).in1.in1.deeper ge).units + 1 < cLine := fun ge => hu_of (hrg ge)
  exact (s_cons (s_if (t_not (t_val (e_isTuple T (e_var (i := 2)))))
  (s_one (s_raise (W := fun cls d _ H1 => E cls d H1) rfl takes_ow (fun v σ H1 dd h1 h2 => h1 dd h2) XT iC tI F1 (hr.mono (by omega)) hbI rfl hmC (e_neg e_int)))
  s_nil)
  (s_cons (s_set (i := 3) nd rfl (by first | exact Or.inl rfl | exact Or.inr rfl) (e_own hmembers_of htb (hr.mono (by omega)) (a_cons (e_var (i := 0)) (a_cons (e_var (i := 1)) a_nil))))
  (s_cons (s_newD (i := 4) nd rfl (by first | exact Or.inl rfl | exact Or.inr rfl))
  (s_one (s_for owns_ow rfl (i_range1 rfl T.range (a_cons (e_len T (e_var (i := 2))) a_nil)) (g_name (i := 5) nd rfl (by first | exact Or.inl rfl | exact Or.inr rfl))
  (s_cons (s_if (t_w (w_or (t_not (t_val (e_own his_set htb (hr.mono (by omega)) (a_cons (e_var (i := 3)) (a_cons (e_ix hu1 (e_var (i := 1)) e_int) (a_cons (e_ix hu1 (e_var (i := 2)) (e_var (i := 5))) a_nil)))))) (w_or1 (t_val (e_any (own := [("number", 6)]) rfl nd hr T TBf rfl hP (i_seq (e_ix hu1 (e_ix hu1 (e_var (i := 2)) (e_var (i := 5))) e_int)) ⟨rfl, by decide +kernel, rfl⟩ (blkOk_by (by first | decide +kernel | kernel_rfl)) (fun _ _ _ _ _ _ => (g_name (i := 6) nd rfl (by first | exact Or.inl rfl | exact Or.inr rfl))) (fun _ _ _ _ _ _ => (e_in (hu1g _) (e_var (i := 6)) (e_var (i := 4)))) (only_name (by decide)))))))
  (s_one (s_raise (W := fun cls d _ H1 => E cls d H1) rfl takes_ow (fun v σ H1 dd h1 h2 => h1 dd h2) XT iC tI F1 (hr.mono (by omega)) hbI rfl hmC (e_var (i := 5))))
  s_nil)
  (s_cons (s_if (t_w (w_and (t_gt (e_var (i := 5)) e_int) (w_and1 (t_not (t_ltA hu (e_ix hu1 (e_var (i := 2)) (e_sub (e_var (i := 5)) e_int)) (e_ix hu1 (e_var (i := 2)) (e_var (i := 5))))))))
  (s_one (s_raise (W := fun cls d _ H1 => E cls d H1) rfl takes_ow (fun v σ H1 dd h1 h2 => h1 dd h2) XT iC tI F1 (hr.mono (by omega)) hbI rfl hmC (e_var (i := 5))))
  s_nil)
  (s_one (s_for owns_ow rfl (i_seq (e_ix hu1 (e_ix hu1 (e_var (i := 2)) (e_var (i := 5))) e_int)) (g_name (i := 6) nd rfl (by first | exact Or.inl rfl | exact Or.inr rfl))
  (s_one (s_dput hu1 (i := 4) (e_var (i := 6)) e_bl)))))))))))
/-! ### _law_mixed -/
theorem sc_law_mixed : FnScope ["number", "k", "first", "second"] ["number", "k"] (defScope (top 14)) := ⟨rfl, rfl, rfl, by decide +kernel, rfl, by decide +kernel, by decide +kernel⟩
def t_law_mixed : SW := (sSeq (sSet 2 (eOp oMod (eCall cInt (aCons (eOp oAdd (eOp oAdd (eOp oMulI (eVar 0) (eC (.int 48271))) (eOp oMulI (eVar 1) (eC (.int 69621)))) (eC (.int 97))) aNil)) (eC (.int 2147483647))))
  (sSeq (sSet 3 (eOp oMod (eCall cInt (aCons (eOp oAdd (eOp oAdd (eOp oMulI (eVar 2) (eOp oAdd (eOp oAdd (eVar 2) (eOp oMulI (eC (.int 2)) (eVar 1))) (eC (.int 1)))) (eOp oMulI (eVar 1) (eC (.int 16807)))) (eC (.int 31))) aNil)) (eC (.int 2147483629))))
  (sRet (eOp oMod (eCall cInt (aCons (eOp oAdd (eOp oMulI (eVar 3) (eC (.int 40692))) (eVar 2)) aNil)) (eC (.int 2147483587))))))
theorem body_law_mixed (T : Blt mg)  (cdv : Value) (A : Around) (outer : List Env) (s : Shared) (H : Hp) (E : XK) (g : G0) {f : Addr} (htb : g.s0.tb = TB) (hr : Room 0 (A.deeper (envOfC "_law_mixed" (defScope (top 14)) s.heap.objs.size f cdv))) :
    PSsW (cxOf CX0 P w K mg base ["number", "k", "first", "second"] "_law_mixed" (defScope (top 14)) f cdv A outer s H E).nox g (fun _ _ => False) (defBody (top 14)) (t_law_mixed) := by
  have hu := hr.units
  have hu1 := hu_of hr
  have nd := sc_law_mixed.nd
  exact (s_cons (s_set (i := 2) nd rfl (by first | exact Or.inl rfl | exact Or.inr rfl) (e_mod (e_toInt T (e_add (e_add (e_mulI (e_var (i := 0)) e_int) (e_mulI (e_var (i := 1)) e_int)) e_int)) e_int))
  (s_cons (s_set (i := 3) nd rfl (by first | exact Or.inl rfl | exact Or.inr rfl) (e_mod (e_toInt T (e_add (e_add (e_mulI (e_var (i := 2)) (e_add (e_add (e_var (i := 2)) (e_mulI e_int (e_var (i := 1)))) e_int)) (e_mulI (e_var (i := 1)) e_int)) e_int)) e_int))
  (s_one (s_ret (e_mod (e_toInt T (e_add (e_mulI (e_var (i := 3)) e_int) (e_var (i := 2)))) e_int)))))
/-! ### _law_pick -/
theorem sc_law_pick : FnScope ["state", "some"] ["state", "some"] (defScope (top 17)) := ⟨rfl, rfl, rfl, by decide +kernel, rfl, by decide +kernel, by decide +kernel⟩
def t_law_pick (sp_law_take : OW.Spec) : SW := (sRet (eOp oIx (eVar 1) (eFn sp_law_take (aCons (eVar 0) (aCons (eCall cLen (aCons (eVar 1) aNil)) aNil)))))
theorem body_law_pick {sp_law_take : OW.Spec} (T : Blt mg) (h_law_take : Has P w K mg base TB 2 "_law_take" ["state", "limit"] sp_law_take) (cdv : Value) (A : Around) (outer : List Env) (s : Shared) (H : Hp) (E : XK) (g : G0) {f : Addr} (htb : g.s0.tb = TB) (hr : Room 2 (A.deeper (envOfC "_law_pick" (defScope (top 17)) s.heap.objs.size f cdv))) :
    PSsW (cxOf CX0 P w K mg base ["state", "some"] "_law_pick" (defScope (top 17)) f cdv A outer s H E).nox g (fun _ _ => False) (defBody (top 17)) (t_law_pick sp_law_take) := by
  have hu := hr.units
  have hu1 := hu_of hr
  have nd := sc_law_pick.nd
  exact (s_one (s_ret (e_ix hu1 (e_var (i := 1)) (e_own h_law_take htb (hr.mono (by omega)) (a_cons (e_var (i := 0)) (a_cons (e_len T (e_var (i := 1))) a_nil))))))
/-! ### _law_shuffled -/
theorem sc_law_shuffled : FnScope ["state", "some", "left", "found", "k", "at"] ["state", "some"] (defScope (top 18)) := ⟨rfl, rfl, rfl, by decide +kernel, rfl, by decide +kernel, by decide +kernel⟩
def t_law_shuffled (sp_law_take : OW.Spec) : SW := (sSeq (sSet 2 (eF (fCall fcList (aCons (eVar 1) aNil))))
  (sSeq (sSetF 3 (fLst aNil))
  (sSeq (sFor (iRange1 (aCons (eCall cLen (aCons (eVar 1) aNil)) aNil)) (gN 4)
  (sSeq (sSet 5 (eFn sp_law_take (aCons (eVar 0) (aCons (eCall cLen (aCons (eVar 2) aNil)) aNil))))
  (sSeq (sAppend 3 (eOp oIx (eVar 2) (eVar 5)))
  (sSet 2 (eOp oAdd (eSlice (eVar 2) oNone (oSome (eVar 5))) (eSlice (eVar 2) (oSome (eOp oAdd (eVar 5) (eC (.int 1)))) oNone))))))
  (sRetO 3))))
theorem body_law_shuffled {sp_law_take : OW.Spec} (T : Blt mg) (h_law_take : Has P w K mg base TB 2 "_law_take" ["state", "limit"] sp_law_take) (cdv : Value) (A : Around) (outer : List Env) (s : Shared) (H : Hp) (E : XK) (g : G0) {f : Addr} (htb : g.s0.tb = TB) (hr : Room 2 (A.deeper (envOfC "_law_shuffled" (defScope (top 18)) s.heap.objs.size f cdv))) :
    PSsW (cxOf CX0 P w K mg base ["state", "some", "left", "found", "k", "at"] "_law_shuffled" (defScope (top 18)) f cdv A outer s H E).nox g (fun _ _ => False) (defBody (top 18)) (t_law_shuffled sp_law_take) := by
  have hu := hr.units
  have hu1 := hu_of hr
  have nd := sc_law_shuffled.nd
  exact (s_cons (s_set (i := 2) nd rfl (by first | exact Or.inl rfl | exact Or.inr rfl) (f_e (f_list T (e_var (i := 1)))))
  (s_cons (s_setF (i := 3) nd rfl (by first | exact Or.inl rfl | exact Or.inr rfl) (f_lst a_nil))
  (s_cons (s_for PassesOwn.never rfl (i_range1 rfl T.range (a_cons (e_len T (e_var (i := 1))) a_nil)) (g_name (i := 4) nd rfl (by first | exact Or.inl rfl | exact Or.inr rfl))
  (s_cons (s_set (i := 5) nd rfl (by first | exact Or.inl rfl | exact Or.inr rfl) (e_own h_law_take htb (hr.mono (by omega)) (a_cons (e_var (i := 0)) (a_cons (e_len T (e_var (i := 2))) a_nil))))
  (s_cons (s_append (i := 3) (e_ix hu1 (e_var (i := 2)) (e_var (i := 5))))
  (s_one (s_set (i := 2) nd rfl (by first | exact Or.inl rfl | exact Or.inr rfl) (e_add (e_slice (e_var (i := 2)) o_none (o_some (e_var (i := 5)))) (e_slice (e_var (i := 2)) (o_some (e_add (e_var (i := 5)) e_int)) o_none)))))))
  (s_one (s_retO (i := 3))))))
/-! ### _law_same -/
theorem sc_law_same : FnScope ["told", "due", "k"] ["told", "due"] (defScope (top 19)) := ⟨rfl, rfl, rfl, by decide +kernel, rfl, by decide +kernel, by decide +kernel⟩
def t_law_same (sp_law_same : OW.Spec) : SW := (sSeq (sIf (tOf (eOp oIsN (eVar 1) (eC .non)))
  (sRet (eOp oIsN (eVar 0) (eC .non)))
  sNil)
  (sSeq (sIf (tOf (eIsi "bool" (eVar 1)))
  (sRet (eAnd (eIsi "bool" (eVar 0)) (eOp oEq (eVar 0) (eVar 1))))
  sNil)
  (sSeq (sIf (tOf (eIsi "int" (eVar 1)))
  (sRet (eAnd (eIsi "int" (eVar 0)) (eAnd (eNot (eIsi "bool" (eVar 0))) (eOp oEq (eVar 0) (eVar 1)))))
  sNil)
  (sSeq (sIf (tOf (eIsi "str" (eVar 1)))
  (sRet (eAnd (eIsi "str" (eVar 0)) (eOp oEq (eVar 0) (eVar 1))))
  sNil)
  (sSeq (sIf (tOr' (tNot' (tOf (eIsi "tuple" (eVar 0)))) (tOf (eOp oNe (eCall cLen (aCons (eVar 0) aNil)) (eCall cLen (aCons (eVar 1) aNil)))))
  (sRet (eC (.bl false)))
  sNil)
  (sSeq (sFor (iRange1 (aCons (eCall cLen (aCons (eVar 1) aNil)) aNil)) (gN 2)
  (sIf (tNot' (tOf (eFn sp_law_same (aCons (eOp oIx (eVar 0) (eVar 2)) (aCons (eOp oIx (eVar 1) (eVar 2)) aNil)))))
  (sRet (eC (.bl false)))
  sNil))
  (sRet (eC (.bl true)))))))))
theorem body_law_same {sp_law_same : OW.Spec} {n : Nat} (hn : 0 ≤ n) (T : Blt mg) (h_law_same : Has P w K mg base TB n "_law_same" ["told", "due"] sp_law_same) (cdv : Value) (A : Around) (outer : List Env) (s : Shared) (H : Hp) (E : XK) (g : G0) {f : Addr} (htb : g.s0.tb = TB) (hr : Room n (A.deeper (envOfC "_law_same" (defScope (top 19)) s.heap.objs.size f cdv))) :
    PSsW (cxOf CX0 P w K mg base ["told", "due", "k"] "_law_same" (defScope (top 19)) f cdv A outer s H E).nox g (fun _ _ => False) (defBody (top 19)) (t_law_same sp_law_same) := by
  have hu := hr.units
  have hu1 := hu_of hr
  have nd := sc_law_same.nd
  exact (s_cons (s_if (t_isN (e_var (i := 1)) e_non)
  (s_one (s_ret (e_isN (e_var (i := 0)) e_non)))
  s_nil)
  (s_cons (s_if (t_val (e_isBool T (e_var (i := 1))))
  (s_one (s_ret (e_and (e_isBool T (e_var (i := 0))) (e_one (e_eq hu (e_var (i := 0)) (e_var (i := 1)))))))
  s_nil)
  (s_cons (s_if (t_val (e_isInt T (e_var (i := 1))))
  (s_one (s_ret (e_and (e_isInt T (e_var (i := 0))) (e_and (e_not (e_isBool T (e_var (i := 0)))) (e_one (e_eq hu (e_var (i := 0)) (e_var (i := 1))))))))
  s_nil)
  (s_cons (s_if (t_val (e_isStr T (e_var (i := 1))))
  (s_one (s_ret (e_and (e_isStr T (e_var (i := 0))) (e_one (e_eq hu (e_var (i := 0)) (e_var (i := 1)))))))
  s_nil)
  (s_cons (s_if (t_w (w_or (t_not (t_val (e_isTuple T (e_var (i := 0))))) (w_or1 (t_ne hu (e_len T (e_var (i := 0))) (e_len T (e_var (i := 1)))))))
  (s_one (s_ret e_bl))
  s_nil)
  (s_cons (s_for PassesOwn.never rfl (i_range1 rfl T.range (a_cons (e_len T (e_var (i := 1))) a_nil)) (g_name (i := 2) nd rfl (by first | exact Or.inl rfl | exact Or.inr rfl))
  (s_one (s_if (t_not (t_val (e_own h_law_same htb (hr.mono (by omega)) (a_cons (e_ix hu1 (e_var (i := 0)) (e_var (i := 2))) (a_cons (e_ix hu1 (e_var (i := 1)) (e_var (i := 2))) a_nil)))))
  (s_one (s_ret e_bl))
  s_nil)))
  (s_one (s_ret e_bl))))))))
/-! ### _law_is_int -/
theorem sc_law_is_int : FnScope ["value", "low", "high"] ["value", "low", "high"] (defScope (top 20)) := ⟨rfl, rfl, rfl, by decide +kernel, rfl, by decide +kernel, by decide +kernel⟩
def t_law_is_int : SW := (sRet (eAnd (eIsi "int" (eVar 0)) (eAnd (eNot (eIsi "bool" (eVar 0))) (eChain oLe oLe (eVar 1) (eVar 0) (eVar 2)))))
theorem body_law_is_int (T : Blt mg)  (cdv : Value) (A : Around) (outer : List Env) (s : Shared) (H : Hp) (E : XK) (g : G0) {f : Addr} (htb : g.s0.tb = TB) (hr : Room 0 (A.deeper (envOfC "_law_is_int" (defScope (top 20)) s.heap.objs.size f cdv))) :
    PSsW (cxOf CX0 P w K mg base ["value", "low", "high"] "_law_is_int" (defScope (top 20)) f cdv A outer s H E).nox g (fun _ _ => False) (defBody (top 20)) (t_law_is_int) := by
  have hu := hr.units
  have hu1 := hu_of hr
  have nd := sc_law_is_int.nd
  exact (s_one (s_ret (e_and (e_isInt T (e_var (i := 0))) (e_and (e_not (e_isBool T (e_var (i := 0)))) (e_one (e_leLe (e_var (i := 1)) (e_var (i := 0)) (e_var (i := 2))))))))
/-! ### _law_next -/
theorem sc_law_next : FnScope ["week", "day", "k"] ["week", "day"] (defScope (top 21)) := ⟨rfl, rfl, rfl, by decide +kernel, rfl, by decide +kernel, by decide +kernel⟩
def t_law_next : SW := (sSeq (sFor (iRange1 (aCons (eC (.int 7)) aNil)) (gN 2)
  (sIf (tOf (eOp oEq (eOp oIx (eVar 0) (eOp oMod (eCall cInt (aCons (eOp oAdd (eVar 1) (eVar 2)) aNil)) (eC (.int 7)))) (eC (.int 1))))
  (sRet (eOp oAdd (eVar 1) (eVar 2)))
  sNil))
  (sRet (eC .non)))
theorem body_law_next (T : Blt mg)  (cdv : Value) (A : Around) (outer : List Env) (s : Shared) (H : Hp) (E : XK) (g : G0) {f : Addr} (htb : g.s0.tb = TB) (hr : Room 0 (A.deeper (envOfC "_law_next" (defScope (top 21)) s.heap.objs.size f cdv))) :
    PSsW (cxOf CX0 P w K mg base ["week", "day", "k"] "_law_next" (defScope (top 21)) f cdv A outer s H E).nox g (fun _ _ => False) (defBody (top 21)) (t_law_next) := by
  have hu := hr.units
  have hu1 := hu_of hr
  have nd := sc_law_next.nd
  exact (s_cons (s_for PassesOwn.never rfl (i_range1 rfl T.range (a_cons e_int a_nil)) (g_name (i := 2) nd rfl (by first | exact Or.inl rfl | exact Or.inr rfl))
  (s_one (s_if (t_eq hu (e_ix hu1 (e_var (i := 0)) (e_mod (e_toInt T (e_add (e_var (i := 1)) (e_var (i := 2)))) e_int)) e_int)
  (s_one (s_ret (e_add (e_var (i := 1)) (e_var (i := 2)))))
  s_nil)))
  (s_one (s_ret e_non)))
/-! ### _law_nth -/
theorem sc_law_nth : FnScope ["week", "day", "n", "k"] ["week", "day", "n"] (defScope (top 22)) := ⟨rfl, rfl, rfl, by decide +kernel, rfl, by decide +kernel, by decide +kernel⟩
def t_law_nth (sp_law_next : OW.Spec) : SW := (sSeq (sFor (iRange1 (aCons (eVar 2) aNil)) (gN 3)
  (sSet 1 (eFn sp_law_next (aCons (eVar 0) (aCons (eOp oAdd (eVar 1) (eC (.int 1))) aNil)))))
  (sRet (eVar 1)))
theorem body_law_nth {sp_law_next : OW.Spec} (T : Blt mg) (h_law_next : Has P w K mg base TB 1 "_law_next" ["week", "day"] sp_law_next) (cdv : Value) (A : Around) (outer : List Env) (s : Shared) (H : Hp) (E : XK) (g : G0) {f : Addr} (htb : g.s0.tb = TB) (hr : Room 1 (A.deeper (envOfC "_law_nth" (defScope (top 22)) s.heap.objs.size f cdv))) :
    PSsW (cxOf CX0 P w K mg base ["week", "day", "n", "k"] "_law_nth" (defScope (top 22)) f cdv A outer s H E).nox g (fun _ _ => False) (defBody (top 22)) (t_law_nth sp_law_next) := by
  have hu := hr.units
  have hu1 := hu_of hr
  have nd := sc_law_nth.nd
  exact (s_cons (s_for PassesOwn.never rfl (i_range1 rfl T.range (a_cons (e_var (i := 2)) a_nil)) (g_name (i := 3) nd rfl (by first | exact Or.inl rfl | exact Or.inr rfl))
  (s_one (s_set (i := 1) nd rfl (by first | exact Or.inl rfl | exact Or.inr rfl) (e_own h_law_next htb (hr.mono (by omega)) (a_cons (e_var (i := 0)) (a_cons (e_add (e_var (i := 1)) e_int) a_nil))))))
  (s_one (s_ret (e_var (i := 1)))))
/-! ### _law_week -/
theorem sc_law_week : FnScope ["state", "way", "one", "k"] ["state"] (defScope (top 23)) := ⟨rfl, rfl, rfl, by decide +kernel, rfl, by decide +kernel, by decide +kernel⟩
def t_law_week (sp_law_take : OW.Spec) : SW := (sSeq (sSet 1 (eFn sp_law_take (aCons (eVar 0) (aCons (eC (.int 4)) aNil))))
  (sSeq (sIf (tOf (eOp oEq (eVar 1) (eC (.int 0))))
  (sRet (eTup (aCons (eC (.int 1)) (aCons (eC (.int 1)) (aCons (eC (.int 1)) (aCons (eC (.int 1)) (aCons (eC (.int 1)) (aCons (eC (.int 1)) (aCons (eC (.int 1)) aNil)))))))))
  sNil)
  (sSeq (sSet 2 (eFn sp_law_take (aCons (eVar 0) (aCons (eC (.int 7)) aNil))))
  (sRet (eCall cTuple (aCons (eF (fLc (iRange1 (aCons (eC (.int 7)) aNil)) (gN 3) tYesW (eCall cInt (aCons (eOr (eOp oEq (eVar 3) (eVar 2)) (eAnd (eOp oGt (eVar 1) (eC (.int 1))) (eOp oEq (eFn sp_law_take (aCons (eVar 0) (aCons (eC (.int 2)) aNil))) (eC (.int 0))))) aNil)) [3])) aNil))))))
theorem body_law_week {sp_law_take : OW.Spec} (T : Blt mg) (h_law_take : Has P w K mg base TB 2 "_law_take" ["state", "limit"] sp_law_take) (cdv : Value) (A : Around) (outer : List Env) (s : Shared) (H : Hp) (E : XK) (g : G0) {f : Addr} (htb : g.s0.tb = TB) (hr : Room 2 (A.deeper (envOfC "_law_week" (defScope (top 23)) s.heap.objs.size f cdv))) :
    PSsW (cxOf CX0 P w K mg base ["state", "way", "one", "k"] "_law_week" (defScope (top 23)) f cdv A outer s H E).nox g (fun _ _ => False) (defBody (top 23)) (t_law_week sp_law_take) := by
  have hu := hr.units
  have hu1 := hu_of hr
  have nd := sc_law_week.nd
  exact (s_cons (s_set (i := 1) nd rfl (by first | exact Or.inl rfl | exact Or.inr rfl) (e_own h_law_take htb (hr.mono (by omega)) (a_cons (e_var (i := 0)) (a_cons e_int a_nil))))
  (s_cons (s_if (t_eq hu (e_var (i := 1)) e_int)
  (s_one (s_ret (e_tup (a_cons e_int (a_cons e_int (a_cons e_int (a_cons e_int (a_cons e_int (a_cons e_int (a_cons e_int a_nil))))))))))
  s_nil)
  (s_cons (s_set (i := 2) nd rfl (by first | exact Or.inl rfl | exact Or.inr rfl) (e_own h_law_take htb (hr.mono (by omega)) (a_cons (e_var (i := 0)) (a_cons e_int a_nil))))
  (s_one (s_ret (e_tuple T (f_e (f_lc (own := [("k", 3)]) rfl nd (i_range1 rfl T.range (a_cons e_int a_nil)) (blkOk_by (by first | decide +kernel | kernel_rfl)) (fun _ _ _ _ _ _ _ => (g_name (i := 3) nd rfl (by first | exact Or.inl rfl | exact Or.inr rfl))) (fun _ _ _ _ _ _ _ => ts_nil) (fun _ _ _ _ _ _ _ => (e_toInt T (e_or (e_eq hu (e_var (i := 3)) (e_var (i := 2))) (e_one (e_and (e_gt (e_var (i := 1)) e_int) (e_one (e_eq hu (e_own h_law_take htb (hr.mono (by omega)) (a_cons (e_var (i := 0)) (a_cons e_int a_nil))) e_int))))))) (only_name (by decide))))))))))
/-! ### _law_book -/
theorem sc_law_book : FnScope ["state", "many", "classes", "pairs", "houses", "home", "loans", "house", "often", "circle", "ways", "window", "grace", "k", "pair", "kind"] ["state", "many", "classes"] (defScope (top 24)) := ⟨rfl, rfl, rfl, by decide +kernel, rfl, by decide +kernel, by decide +kernel⟩
def t_law_book (sp_law_pick sp_law_week sp_law_take : OW.Spec) : SW := (sSeq (sSet 3 (eF (fLc (iRange1 (aCons (eOp oMulI (eVar 1) (eVar 2)) aNil)) (gN 13) tYesW (eTup (aCons (eOp oFdiv (eVar 13) (eVar 2)) (aCons (eOp oMod (eCall cInt (aCons (eVar 13) aNil)) (eVar 2)) aNil))) [13])))
  (sSeq (sSetF 4 (fLst aNil))
  (sSeq (sFor (iRange1 (aCons (eVar 1) aNil)) (gN 5)
  (sSeq (sSet 8 (eFn sp_law_pick (aCons (eVar 0) (aCons (eF (fLst (aCons (eC (.int 0)) (aCons (eC (.int 1)) (aCons (eC (.int 3)) (aCons (eC (.int 4)) aNil)))))) aNil))))
  (sSeq (sSet 9 (eCall cTuple (aCons (eF (fLc (iOf (eVar 3)) (gN 14) (tOf (eOp oLtA (eFn sp_law_take (aCons (eVar 0) (aCons (eC (.int 4)) aNil))) (eVar 8))) (eVar 14) [14])) aNil)))
  (sSeq (sSet 10 (eCall cTuple (aCons (eF (fLc (iRange1 (aCons (eVar 1) aNil)) (gN 7) tYesW (eFn sp_law_pick (aCons (eVar 0) (aCons (eF (fLst (aCons (eC (.int 0)) (aCons (eC (.int 14)) (aCons (eFn sp_law_take (aCons (eVar 0) (aCons (eC (.int 15)) aNil))) (aCons (eFn sp_law_take (aCons (eVar 0) (aCons (eC (.int 4)) aNil))) aNil)))))) aNil))) [7])) aNil)))
  (sAppend 4 (eTup (aCons (eFn sp_law_week (aCons (eVar 0) aNil)) (aCons (eVar 9) (aCons (eFn sp_law_pick (aCons (eVar 0) (aCons (eF (fLst (aCons (eC (.int 0)) (aCons (eC (.int 30)) (aCons (eFn sp_law_take (aCons (eVar 0) (aCons (eC (.int 31)) aNil))) aNil))))) aNil))) (aCons (eVar 10) aNil))))))))))
  (sSeq (sSetF 6 (fLst aNil))
  (sSeq (sFor (iRange1 (aCons (eVar 1) aNil)) (gN 7)
  (sAppend 6 (eCall cTuple (aCons (eF (fLc (iRange1 (aCons (eVar 2) aNil)) (gN 15) tYesW (eFn sp_law_pick (aCons (eVar 0) (aCons (eF (fLst (aCons (eC (.int 12)) (aCons (eC (.int 60)) (aCons (eOp oAdd (eC (.int 12)) (eFn sp_law_take (aCons (eVar 0) (aCons (eC (.int 49)) aNil)))) aNil))))) aNil))) [15])) aNil))))
  (sSeq (sPar 11 12 (aCons (eFn sp_law_pick (aCons (eVar 0) (aCons (eF (fLst (aCons (eC (.int 1)) (aCons (eC (.int 14)) (aCons (eOp oAdd (eC (.int 1)) (eFn sp_law_take (aCons (eVar 0) (aCons (eC (.int 14)) aNil)))) aNil))))) aNil))) (aCons (eFn sp_law_pick (aCons (eVar 0) (aCons (eF (fLst (aCons (eC (.int 0)) (aCons (eC (.int 14)) (aCons (eFn sp_law_take (aCons (eVar 0) (aCons (eC (.int 15)) aNil))) aNil))))) aNil))) aNil)))
  (sRet (eTup (aCons (eCall cTuple (aCons (eVar 4) aNil)) (aCons (eVar 2) (aCons (eCall cTuple (aCons (eVar 6) aNil)) (aCons (eVar 11) (aCons (eVar 12) aNil)))))))))))))
theorem body_law_book {sp_law_pick sp_law_week sp_law_take : OW.Spec} (T : Blt mg) (h_law_pick : Has P w K mg base TB 3 "_law_pick" ["state", "some"] sp_law_pick) (h_law_week : Has P w K mg base TB 3 "_law_week" ["state"] sp_law_week) (h_law_take : Has P w K mg base TB 2 "_law_take" ["state", "limit"] sp_law_take) (cdv : Value) (A : Around) (outer : List Env) (s : Shared) (H : Hp) (E : XK) (g : G0) {f : Addr} (htb : g.s0.tb = TB) (hr : Room 3 (A.deeper (envOfC "_law_book" (defScope (top 24)) s.heap.objs.size f cdv))) :
    PSsW (cxOf CX0 P w K mg base ["state", "many", "classes", "pairs", "houses", "home", "loans", "house", "often", "circle", "ways", "window", "grace", "k", "pair", "kind"] "_law_book" (defScope (top 24)) f cdv A outer s H E).nox g (fun _ _ => False) (defBody (top 24)) (t_law_book sp_law_pick sp_law_week sp_law_take) := by
  have hu := hr.units
  have hu1 := hu_of hr
  have nd := sc_law_book.nd
  exact (s_cons (s_setLc (i := 3) (own := [("k", 13)]) rfl nd rfl rfl (sw_true rfl rfl rfl (by decide +kernel)) (i_range1 rfl T.range (a_cons (e_mulI (e_var (i := 1)) (e_var (i := 2))) a_nil)) (blkOk_by (by first | decide +kernel | kernel_rfl)) (fun _ _ _ _ _ _ _ => (g_name (i := 13) nd rfl (by first | exact Or.inl rfl | exact Or.inr rfl))) (fun _ _ _ _ _ _ _ => ts_nil) (fun _ _ _ _ _ _ _ => (e_tup (a_cons (e_fdiv (e_var (i := 13)) (e_var (i := 2))) (a_cons (e_mod (e_toInt T (e_var (i := 13))) (e_var (i := 2))) a_nil)))) (only_name (by decide)))
  (s_cons (s_setF (i := 4) nd rfl (by first | exact Or.inl rfl | exact Or.inr rfl) (f_lst a_nil))
  (s_cons (s_for PassesOwn.never rfl (i_range1 rfl T.range (a_cons (e_var (i := 1)) a_nil)) (g_name (i := 5) nd rfl (by first | exact Or.inl rfl | exact Or.inr rfl))
  (s_cons (s_set (i := 8) nd rfl (by first | exact Or.inl rfl | exact Or.inr rfl) (e_own h_law_pick htb (hr.mono (by omega)) (a_cons (e_var (i := 0)) (a_cons (f_e (f_lst (a_cons e_int (a_cons e_int (a_cons e_int (a_cons e_int a_nil)))))) a_nil))))
  (s_cons (s_set (i := 9) nd rfl (by first | exact Or.inl rfl | exact Or.inr rfl) (e_tuple T (f_e (f_lc (own := [("pair", 14)]) rfl nd (i_seq (e_var (i := 3))) (blkOk_by (by first | decide +kernel | kernel_rfl)) (fun _ _ _ _ _ _ _ => (g_name (i := 14) nd rfl (by first | exact Or.inl rfl | exact Or.inr rfl))) (fun _ _ _ _ _ _ _ => (ts_one (t_ltA hu (e_own h_law_take htb (hr.mono (by omega)) (a_cons (e_var (i := 0)) (a_cons e_int a_nil))) (e_var (i := 8))))) (fun _ _ _ _ _ _ _ => (e_var (i := 14))) (only_name (by decide))))))
  (s_cons (s_set (i := 10) nd rfl (by first | exact Or.inl rfl | exact Or.inr rfl) (e_tuple T (f_e (f_lc (own := [("house", 7)]) rfl nd (i_range1 rfl T.range (a_cons (e_var (i := 1)) a_nil)) (blkOk_by (by first | decide +kernel | kernel_rfl)) (fun _ _ _ _ _ _ _ => (g_name (i := 7) nd rfl (by first | exact Or.inl rfl | exact Or.inr rfl))) (fun _ _ _ _ _ _ _ => ts_nil) (fun _ _ _ _ _ _ _ => (e_own h_law_pick htb (hr.mono (by omega)) (a_cons (e_var (i := 0)) (a_cons (f_e (f_lst (a_cons e_int (a_cons e_int (a_cons (e_own h_law_take htb (hr.mono (by omega)) (a_cons (e_var (i := 0)) (a_cons e_int a_nil))) (a_cons (e_own h_law_take htb (hr.mono (by omega)) (a_cons (e_var (i := 0)) (a_cons e_int a_nil))) a_nil)))))) a_nil)))) (only_name (by decide))))))
  (s_one (s_append (i := 4) (e_tup (a_cons (e_own h_law_week htb (hr.mono (by omega)) (a_cons (e_var (i := 0)) a_nil)) (a_cons (e_var (i := 9)) (a_cons (e_own h_law_pick htb (hr.mono (by omega)) (a_cons (e_var (i := 0)) (a_cons (f_e (f_lst (a_cons e_int (a_cons e_int (a_cons (e_own h_law_take htb (hr.mono (by omega)) (a_cons (e_var (i := 0)) (a_cons e_int a_nil))) a_nil))))) a_nil))) (a_cons (e_var (i := 10)) a_nil)))))))))))
  (s_cons (s_setF (i := 6) nd rfl (by first | exact Or.inl rfl | exact Or.inr rfl) (f_lst a_nil))
  (s_cons (s_for PassesOwn.never rfl (i_range1 rfl T.range (a_cons (e_var (i := 1)) a_nil)) (g_name (i := 7) nd rfl (by first | exact Or.inl rfl | exact Or.inr rfl))
  (s_one (s_append (i := 6) (e_tuple T (f_e (f_lc (own := [("kind", 15)]) rfl nd (i_range1 rfl T.range (a_cons (e_var (i := 2)) a_nil)) (blkOk_by (by first | decide +kernel | kernel_rfl)) (fun _ _ _ _ _ _ _ => (g_name (i := 15) nd rfl (by first | exact Or.inl rfl | exact Or.inr rfl))) (fun _ _ _ _ _ _ _ => ts_nil) (fun _ _ _ _ _ _ _ => (e_own h_law_pick htb (hr.mono (by omega)) (a_cons (e_var (i := 0)) (a_cons (f_e (f_lst (a_cons e_int (a_cons e_int (a_cons (e_add e_int (e_own h_law_take htb (hr.mono (by omega)) (a_cons (e_var (i := 0)) (a_cons e_int a_nil)))) a_nil))))) a_nil)))) (only_name (by decide))))))))
  (s_cons (s_par (i := 11) (j := 12) rfl nd rfl rfl (by decide) rfl rfl (a_cons (e_own h_law_pick htb (hr.mono (by omega)) (a_cons (e_var (i := 0)) (a_cons (f_e (f_lst (a_cons e_int (a_cons e_int (a_cons (e_add e_int (e_own h_law_take htb (hr.mono (by omega)) (a_cons (e_var (i := 0)) (a_cons e_int a_nil)))) a_nil))))) a_nil))) (a_cons (e_own h_law_pick htb (hr.mono (by omega)) (a_cons (e_var (i := 0)) (a_cons (f_e (f_lst (a_cons e_int (a_cons e_int (a_cons (e_own h_law_take htb (hr.mono (by omega)) (a_cons (e_var (i := 0)) (a_cons e_int a_nil))) a_nil))))) a_nil))) a_nil)) rfl)
  (s_one (s_ret (e_tup (a_cons (e_tuple T (e_var (i := 4))) (a_cons (e_var (i := 2)) (a_cons (e_tuple T (e_var (i := 6))) (a_cons (e_var (i := 11)) (a_cons (e_var (i := 12)) a_nil))))))))))))))
/-! ### _law_put -/
theorem sc_law_put : FnScope ["value", "path", "new", "at"] ["value", "path", "new"] (defScope (top 25)) := ⟨rfl, rfl, rfl, by decide +kernel, rfl, by decide +kernel, by decide +kernel⟩
def t_law_put (sp_law_put : OW.Spec) : SW := (sSeq (sIf (tOf (eOp oEq (eVar 1) (eTup aNil)))
  (sRet (eVar 2))
  sNil)
  (sSeq (sSet 3 (eOp oIx (eVar 1) (eC (.int 0))))
  (sRet (eOp oAdd (eOp oAdd (eSlice (eVar 0) oNone (oSome (eVar 3))) (eTup (aCons (eFn sp_law_put (aCons (eOp oIx (eVar 0) (eVar 3)) (aCons (eSlice (eVar 1) (oSome (eC (.int 1))) oNone) (aCons (eVar 2) aNil)))) aNil))) (eSlice (eVar 0) (oSome (eOp oAdd (eVar 3) (eC (.int 1)))) oNone)))))
theorem body_law_put {sp_law_put : OW.Spec} {n : Nat} (hn : 0 ≤ n) (T : Blt mg) (h_law_put : Has P w K mg base TB n "_law_put" ["value", "path", "new"] sp_law_put) (cdv : Value) (A : Around) (outer : List Env) (s : Shared) (H : Hp) (E : XK) (g : G0) {f : Addr} (htb : g.s0.tb = TB) (hr : Room n (A.deeper (envOfC "_law_put" (defScope (top 25)) s.heap.objs.size f cdv))) :
    PSsW (cxOf CX0 P w K mg base ["value", "path", "new", "at"] "_law_put" (defScope (top 25)) f cdv A outer s H E).nox g (fun _ _ => False) (defBody (top 25)) (t_law_put sp_law_put) := by
  have hu := hr.units
  have hu1 := hu_of hr
  have nd := sc_law_put.nd
  exact (s_cons (s_if (t_eq hu (e_var (i := 1)) (e_tup a_nil))
  (s_one (s_ret (e_var (i := 2))))
  s_nil)
  (s_cons (s_set (i := 3) nd rfl (by first | exact Or.inl rfl | exact Or.inr rfl) (e_ix hu1 (e_var (i := 1)) e_int))
  (s_one (s_ret (e_add (e_add (e_slice (e_var (i := 0)) o_none (o_some (e_var (i := 3)))) (e_tup (a_cons (e_own h_law_put htb (hr.mono (by omega)) (a_cons (e_ix hu1 (e_var (i := 0)) (e_var (i := 3))) (a_cons (e_slice (e_var (i := 1)) (o_some e_int) o_none) (a_cons (e_var (i := 2)) a_nil)))) a_nil))) (e_slice (e_var (i := 0)) (o_some (e_add (e_var (i := 3)) e_int)) o_none))))))
/-! ### _law_leaf -/
theorem sc_law_leaf : FnScope ["state", "value", "some"] ["state", "value"] (defScope (top 26)) := ⟨rfl, rfl, rfl, by decide +kernel, rfl, by decide +kernel, by decide +kernel⟩
def t_law_leaf (sp_law_pick : OW.Spec) : SW := (sSeq (sIf (tOf (eIsi "str" (eVar 1)))
  (sRet (eFn sp_law_pick (aCons (eVar 0) (aCons (eF (fLst (aCons (eC (.str "")) (aCons (eOp oAdd (eVar 1) (eC (.str "x"))) (aCons (eSlice (eVar 1) oNone (oSome (eNeg (eC (.int 1))))) (aCons (eOp oAdd (eC (.str "A")) (eVar 1)) (aCons (eOp oAdd (eVar 1) (eC (.str "\n"))) (aCons (eC (.str "free")) (aCons (eC (.str "in")) (aCons (eC (.str "way")) (aCons (eC (.str "ready")) (aCons (eC (.str "lent")) (aCons (eC (.str "lost")) (aCons (eC (.int 0)) (aCons (eC .non) (aCons (eTup (aCons (eVar 1) aNil)) aNil)))))))))))))))) aNil))))
  sNil)
  (sSeq (sIf (tNot' (tOf (eIsi "int" (eVar 1))))
  (sRet (eFn sp_law_pick (aCons (eVar 0) (aCons (eF (fLst (aCons (eC (.int 0)) (aCons (eC (.int 1)) (aCons (eTup aNil) (aCons (eC (.str "free")) (aCons (eC (.bl true)) (aCons (eNeg (eC (.int 1))) (aCons (eC .non) aNil))))))))) aNil))))
  sNil)
  (sSeq (sSet 2 (eF (fLst (aCons (eOp oAdd (eVar 1) (eC (.int 1))) (aCons (eOp oSub (eVar 1) (eC (.int 1))) (aCons (eNeg (eVar 1)) (aCons (eNeg (eC (.int 1))) (aCons (eC (.int 0)) (aCons (eC (.int 1)) (aCons (eC (.int 2)) (aCons (eC (.int 4)) (aCons (eC (.int 5)) (aCons (eC (.int 9)) (aCons (eC (.int 10)) (aCons (eC (.int 12)) (aCons (eC (.int 14)) (aCons (eC (.int 15)) (aCons (eC (.int 24)) (aCons (eC (.int 25)) (aCons (eC (.int 30)) (aCons (eC (.int 31)) (aCons (eC (.int 60)) (aCons (eC (.int 61)) (aCons (eC (.int 366)) (aCons (eC (.int 367)) aNil)))))))))))))))))))))))))
  (sRet (eFn sp_law_pick (aCons (eVar 0) (aCons (eOp oAdd (eVar 2) (eF (fLst (aCons (eC (.int 999999)) (aCons (eC (.int 1000000)) (aCons (eC (.int 1000001)) (aCons (eC (.int 99999)) (aCons (eC (.int 100000)) (aCons (eOp oEq (eVar 1) (eC (.int 1))) (aCons (eOp oEq (eVar 1) (eC (.int 0))) (aCons (eC .non) (aCons (eCall cStr (aCons (eVar 1) aNil)) (aCons (eTup (aCons (eVar 1) aNil)) (aCons (eTup aNil) aNil)))))))))))))) aNil)))))))
theorem body_law_leaf {sp_law_pick : OW.Spec} (T : Blt mg) (h_law_pick : Has P w K mg base TB 3 "_law_pick" ["state", "some"] sp_law_pick) (cdv : Value) (A : Around) (outer : List Env) (s : Shared) (H : Hp) (E : XK) (g : G0) {f : Addr} (htb : g.s0.tb = TB) (hr : Room 3 (A.deeper (envOfC "_law_leaf" (defScope (top 26)) s.heap.objs.size f cdv))) :
    PSsW (cxOf CX0 P w K mg base ["state", "value", "some"] "_law_leaf" (defScope (top 26)) f cdv A outer s H E).nox g (fun _ _ => False) (defBody (top 26)) (t_law_leaf sp_law_pick) := by
  have hu := hr.units
  have hu1 := hu_of hr
  have nd := sc_law_leaf.nd
  exact (s_cons (s_if (t_val (e_isStr T (e_var (i := 1))))
  (s_one (s_ret (e_own h_law_pick htb (hr.mono (by omega)) (a_cons (e_var (i := 0)) (a_cons (f_e (f_lst (a_cons e_str (a_cons (e_add (e_var (i := 1)) e_str) (a_cons (e_slice (e_var (i := 1)) o_none (o_some (e_neg e_int))) (a_cons (e_add e_str (e_var (i := 1))) (a_cons (e_add (e_var (i := 1)) e_str) (a_cons e_str (a_cons e_str (a_cons e_str (a_cons e_str (a_cons e_str (a_cons e_str (a_cons e_int (a_cons e_non (a_cons (e_tup (a_cons (e_var (i := 1)) a_nil)) a_nil)))))))))))))))) a_nil)))))
  s_nil)
  (s_cons (s_if (t_not (t_val (e_isInt T (e_var (i := 1)))))
  (s_one (s_ret (e_own h_law_pick htb (hr.mono (by omega)) (a_cons (e_var (i := 0)) (a_cons (f_e (f_lst (a_cons e_int (a_cons e_int (a_cons (e_tup a_nil) (a_cons e_str (a_cons e_bl (a_cons (e_neg e_int) (a_cons e_non a_nil))))))))) a_nil)))))
  s_nil)
  (s_cons (s_set (i := 2) nd rfl (by first | exact Or.inl rfl | exact Or.inr rfl) (f_e (f_lst (a_cons (e_add (e_var (i := 1)) e_int) (a_cons (e_sub (e_var (i := 1)) e_int) (a_cons (e_neg (e_var (i := 1))) (a_cons (e_neg e_int) (a_cons e_int (a_cons e_int (a_cons e_int (a_cons e_int (a_cons e_int (a_cons e_int (a_cons e_int (a_cons e_int (a_cons e_int (a_cons e_int (a_cons e_int (a_cons e_int (a_cons e_int (a_cons e_int (a_cons e_int (a_cons e_int (a_cons e_int (a_cons e_int a_nil)))))))))))))))))))))))))
  (s_one (s_ret (e_own h_law_pick htb (hr.mono (by omega)) (a_cons (e_var (i := 0)) (a_cons (e_add (e_var (i := 2)) (f_e (f_lst (a_cons e_int (a_cons e_int (a_cons e_int (a_cons e_int (a_cons e_int (a_cons (e_eq hu (e_var (i := 1)) e_int) (a_cons (e_eq hu (e_var (i := 1)) e_int) (a_cons e_non (a_cons (e_toStr T (e_var (i := 1))) (a_cons (e_tup (a_cons (e_var (i := 1)) a_nil)) (a_cons (e_tup a_nil) a_nil)))))))))))))) a_nil))))))))
/-! ### _law_spoilt -/
theorem sc_law_spoilt : FnScope ["state", "value", "deep", "at", "way"] ["state", "value", "deep"] (defScope (top 27)) := ⟨rfl, rfl, rfl, by decide +kernel, rfl, by decide +kernel, by decide +kernel⟩
def t_law_spoilt (sp_law_take sp_law_leaf sp_law_pick sp_law_spoilt : OW.Spec) : SW := (sSeq (sIf (tNot' (tOf (eIsi "tuple" (eVar 1))))
  (sRet (eFn sp_law_leaf (aCons (eVar 0) (aCons (eVar 1) aNil))))
  sNil)
  (sSeq (sSet 3 (eFn sp_law_take (aCons (eVar 0) (aCons (eOp oAdd (eCall cLen (aCons (eVar 1) aNil)) (eC (.int 1))) aNil))))
  (sSeq (sIf (tAnd' (tOf (eOp oGt (eCall cLen (aCons (eVar 1) aNil)) (eC (.int 0)))) (tAnd' (tOf (eOp oGt (eVar 2) (eC (.int 0)))) (tOf (eOp oGt (eFn sp_law_take (aCons (eVar 0) (aCons (eC (.int 6)) aNil))) (eC (.int 0))))))
  (sSeq (sSet 3 (eOp oMod (eCall cInt (aCons (eVar 3) aNil)) (eCall cLen (aCons (eVar 1) aNil))))
  (sRet (eOp oAdd (eOp oAdd (eSlice (eVar 1) oNone (oSome (eVar 3))) (eTup (aCons (eFn sp_law_spoilt (aCons (eVar 0) (aCons (eOp oIx (eVar 1) (eVar 3)) (aCons (eOp oSub (eVar 2) (eC (.int 1))) aNil)))) aNil))) (eSlice (eVar 1) (oSome (eOp oAdd (eVar 3) (eC (.int 1)))) oNone))))
  sNil)
  (sSeq (sSet 4 (eFn sp_law_take (aCons (eVar 0) (aCons (eC (.int 9)) aNil))))
  (sSeq (sIf (tOf (eOp oEq (eVar 4) (eC (.int 0))))
  (sRet (eOp oAdd (eSlice (eVar 1) oNone (oSome (eVar 3))) (eSlice (eVar 1) (oSome (eOp oAdd (eVar 3) (eC (.int 1)))) oNone)))
  sNil)
  (sSeq (sIf (tOf (eOp oEq (eVar 4) (eC (.int 1))))
  (sRet (eOp oAdd (eOp oAdd (eSlice (eVar 1) oNone (oSome (eVar 3))) (eSlice (eVar 1) (oSome (eVar 3)) (oSome (eOp oAdd (eVar 3) (eC (.int 1)))))) (eSlice (eVar 1) (oSome (eVar 3)) oNone)))
  sNil)
  (sSeq (sIf (tOf (eOp oEq (eVar 4) (eC (.int 2))))
  (sRet (eOp oAdd (eSlice (eVar 1) (oSome (eVar 3)) oNone) (eSlice (eVar 1) oNone (oSome (eVar 3)))))
  sNil)
  (sSeq (sIf (tOf (eOp oEq (eVar 4) (eC (.int 3))))
  (sRet (eTup aNil))
  sNil)
  (sSeq (sIf (tOf (eOp oEq (eVar 4) (eC (.int 4))))
  (sRet (eOp oAdd (eOp oAdd (eSlice (eVar 1) oNone (oSome (eVar 3))) (eTup (aCons (eTup aNil) aNil))) (eSlice (eVar 1) (oSome (eVar 3)) oNone)))
  sNil)
  (sSeq (sIf (tOf (eOp oEq (eVar 4) (eC (.int 5))))
  (sRet (eOp oAdd (eOp oAdd (eSlice (eVar 1) oNone (oSome (eVar 3))) (eTup (aCons (eC (.int 0)) aNil))) (eSlice (eVar 1) (oSome (eVar 3)) oNone)))
  sNil)
  (sSeq (sIf (tOf (eOp oEq (eVar 4) (eC (.int 6))))
  (sRet (eRev (eVar 1)))
  sNil)
  (sRet (eIf (tOf (eOp oEq (eVar 4) (eC (.int 7)))) (eFn sp_law_pick (aCons (eVar 0) (aCons (eF (fLst (aCons (eC .non) (aCons (eC (.int 0)) (aCons (eC (.str "")) (aCons (eSlice (eVar 1) oNone (oSome (eC (.int 1)))) (aCons (eC (.bl true)) aNil))))))) aNil))) (eOp oAdd (eOp oAdd (eSlice (eVar 1) oNone (oSome (eVar 3))) (eTup (aCons (eFn sp_law_pick (aCons (eVar 0) (aCons (eF (fLst (aCons (eC (.int 1)) (aCons (eC .non) (aCons (eC (.str "in")) aNil))))) aNil))) aNil))) (eSlice (eVar 1) (oSome (eVar 3)) oNone)))))))))))))))
theorem body_law_spoilt {sp_law_take sp_law_leaf sp_law_pick sp_law_spoilt : OW.Spec} {n : Nat} (hn : 4 ≤ n) (T : Blt mg) (h_law_take : Has P w K mg base TB 2 "_law_take" ["state", "limit"] sp_law_take) (h_law_leaf : Has P w K mg base TB 4 "_law_leaf" ["state", "value"] sp_law_leaf) (h_law_pick : Has P w K mg base TB 3 "_law_pick" ["state", "some"] sp_law_pick) (h_law_spoilt : Has P w K mg base TB n "_law_spoilt" ["state", "value", "deep"] sp_law_spoilt) (cdv : Value) (A : Around) (outer : List Env) (s : Shared) (H : Hp) (E : XK) (g : G0) {f : Addr} (htb : g.s0.tb = TB) (hr : Room n (A.deeper (envOfC "_law_spoilt" (defScope (top 27)) s.heap.objs.size f cdv))) :
    PSsW (cxOf CX0 P w K mg base ["state", "value", "deep", "at", "way"] "_law_spoilt" (defScope (top 27)) f cdv A outer s H E).nox g (fun _ _ => False) (defBody (top 27)) (t_law_spoilt sp_law_take sp_law_leaf sp_law_pick sp_law_spoilt) := by
  have hu := hr.units
  have hu1 := hu_of hr
  have nd := sc_law_spoilt.nd
  exact (s_cons (s_if (t_not (t_val (e_isTuple T (e_var (i := 1)))))
  (s_one (s_ret (e_own h_law_leaf htb (hr.mono (by omega)) (a_cons (e_var (i := 0)) (a_cons (e_var (i := 1)) a_nil)))))
  s_nil)
  (s_cons (s_set (i := 3) nd rfl (by first | exact Or.inl rfl | exact Or.inr rfl) (e_own h_law_take htb (hr.mono (by omega)) (a_cons (e_var (i := 0)) (a_cons (e_add (e_len T (e_var (i := 1))) e_int) a_nil))))
  (s_cons (s_if (t_w (w_and (t_gt (e_len T (e_var (i := 1))) e_int) (w_and (t_gt (e_var (i := 2)) e_int) (w_and1 (t_gt (e_own h_law_take htb (hr.mono (by omega)) (a_cons (e_var (i := 0)) (a_cons e_int a_nil))) e_int)))))
  (s_cons (s_set (i := 3) nd rfl (by first | exact Or.inl rfl | exact Or.inr rfl) (e_mod (e_toInt T (e_var (i := 3))) (e_len T (e_var (i := 1)))))
  (s_one (s_ret (e_add (e_add (e_slice (e_var (i := 1)) o_none (o_some (e_var (i := 3)))) (e_tup (a_cons (e_own h_law_spoilt htb (hr.mono (by omega)) (a_cons (e_var (i := 0)) (a_cons (e_ix hu1 (e_var (i := 1)) (e_var (i := 3))) (a_cons (e_sub (e_var (i := 2)) e_int) a_nil)))) a_nil))) (e_slice (e_var (i := 1)) (o_some (e_add (e_var (i := 3)) e_int)) o_none)))))
  s_nil)
  (s_cons (s_set (i := 4) nd rfl (by first | exact Or.inl rfl | exact Or.inr rfl) (e_own h_law_take htb (hr.mono (by omega)) (a_cons (e_var (i := 0)) (a_cons e_int a_nil))))
  (s_cons (s_if (t_eq hu (e_var (i := 4)) e_int)
  (s_one (s_ret (e_add (e_slice (e_var (i := 1)) o_none (o_some (e_var (i := 3)))) (e_slice (e_var (i := 1)) (o_some (e_add (e_var (i := 3)) e_int)) o_none))))
  s_nil)
  (s_cons (s_if (t_eq hu (e_var (i := 4)) e_int)
  (s_one (s_ret (e_add (e_add (e_slice (e_var (i := 1)) o_none (o_some (e_var (i := 3)))) (e_slice (e_var (i := 1)) (o_some (e_var (i := 3))) (o_some (e_add (e_var (i := 3)) e_int)))) (e_slice (e_var (i := 1)) (o_some (e_var (i := 3))) o_none))))
  s_nil)
  (s_cons (s_if (t_eq hu (e_var (i := 4)) e_int)
  (s_one (s_ret (e_add (e_slice (e_var (i := 1)) (o_some (e_var (i := 3))) o_none) (e_slice (e_var (i := 1)) o_none (o_some (e_var (i := 3)))))))
  s_nil)
  (s_cons (s_if (t_eq hu (e_var (i := 4)) e_int)
  (s_one (s_ret (e_tup a_nil)))
  s_nil)
  (s_cons (s_if (t_eq hu (e_var (i := 4)) e_int)
  (s_one (s_ret (e_add (e_add (e_slice (e_var (i := 1)) o_none (o_some (e_var (i := 3)))) (e_tup (a_cons (e_tup a_nil) a_nil))) (e_slice (e_var (i := 1)) (o_some (e_var (i := 3))) o_none))))
  s_nil)
  (s_cons (s_if (t_eq hu (e_var (i := 4)) e_int)
  (s_one (s_ret (e_add (e_add (e_slice (e_var (i := 1)) o_none (o_some (e_var (i := 3)))) (e_tup (a_cons e_int a_nil))) (e_slice (e_var (i := 1)) (o_some (e_var (i := 3))) o_none))))
  s_nil)
  (s_cons (s_if (t_eq hu (e_var (i := 4)) e_int)
  (s_one (s_ret (e_rev (e_var (i := 1)))))
  s_nil)
  (s_one (s_ret (e_if (t_eq hu (e_var (i := 4)) e_int) (e_own h_law_pick htb (hr.mono (by omega)) (a_cons (e_var (i := 0)) (a_cons (f_e (f_lst (a_cons e_non (a_cons e_int (a_cons e_str (a_cons (e_slice (e_var (i := 1)) o_none (o_some e_int)) (a_cons e_bl a_nil))))))) a_nil))) (e_add (e_add (e_slice (e_var (i := 1)) o_none (o_some (e_var (i := 3)))) (e_tup (a_cons (e_own h_law_pick htb (hr.mono (by omega)) (a_cons (e_var (i := 0)) (a_cons (f_e (f_lst (a_cons e_int (a_cons e_non (a_cons e_str a_nil))))) a_nil))) a_nil))) (e_slice (e_var (i := 1)) (o_some (e_var (i := 3))) o_none))))))))))))))))
/-! ### _law_members -/
theorem sc_law_members : FnScope ["library", "stand", "found", "k", "work", "place", "number", "reader", "rank", "told"] ["library", "stand"] (defScope (top 28)) := ⟨rfl, rfl, rfl, by decide +kernel, rfl, by decide +kernel, by decide +kernel⟩
def t_law_members : SW := (sSeq (sNewD 2)
  (sSeq (sFor (iRange1 (aCons (eCall cLen (aCons (eOp oIx (eVar 1) (eC (.int 1))) aNil)) aNil)) (gN 3)
  (sSeq (sSet 5 (eOp oIx (eOp oIx (eVar 1) (eC (.int 1))) (eVar 3)))
  (sIf (tOr' (tOf (eOp oEq (eOp oIx (eVar 5) (eC (.int 0))) (eC (.str "way")))) (tOf (eOp oEq (eOp oIx (eVar 5) (eC (.int 0))) (eC (.str "ready")))))
  (sDput 2 (eOp oIx (eVar 5) (eC (.int 2))) (eTup (aCons (eOp oIx (eVar 5) (eC (.int 3))) (aCons (eOp oIx (eOp oIx (eOp oIx (eVar 0) (eC (.int 2))) (eVar 3)) (eC (.int 0))) (aCons (eOp oIx (eVar 5) (eC (.int 0))) (aCons (eOp oIx (eVar 5) (eC (.int 1))) aNil))))))
  sNil)))
  (sSeq (sFor (iRange1 (aCons (eCall cLen (aCons (eOp oIx (eVar 1) (eC (.int 3))) aNil)) aNil)) (gN 4)
  (sFor (iOf (eOp oIx (eOp oIx (eVar 1) (eC (.int 3))) (eVar 4))) (gSeqW 4 (gsCons (gN 6) (gsCons (gN 7) (gsCons (gN 8) (gsCons (gN 9) gsNil)))))
  (sDput 2 (eVar 6) (eTup (aCons (eVar 7) (aCons (eVar 4) (aCons (eC (.str "wait")) (aCons (eVar 9) aNil))))))))
  (sRetD 2))))
theorem body_law_members (T : Blt mg)  (cdv : Value) (A : Around) (outer : List Env) (s : Shared) (H : Hp) (E : XK) (g : G0) {f : Addr} (htb : g.s0.tb = TB) (hr : Room 0 (A.deeper (envOfC "_law_members" (defScope (top 28)) s.heap.objs.size f cdv))) :
    PSsW (cxOf CX0 P w K mg base ["library", "stand", "found", "k", "work", "place", "number", "reader", "rank", "told"] "_law_members" (defScope (top 28)) f cdv A outer s H E).nox g (fun _ _ => False) (defBody (top 28)) (t_law_members) := by
  have hu := hr.units
  have hu1 := hu_of hr
  have nd := sc_law_members.nd
  exact (s_cons (s_newD (i := 2) nd rfl (by first | exact Or.inl rfl | exact Or.inr rfl))
  (s_cons (s_for PassesOwn.never rfl (i_range1 rfl T.range (a_cons (e_len T (e_ix hu1 (e_var (i := 1)) e_int)) a_nil)) (g_name (i := 3) nd rfl (by first | exact Or.inl rfl | exact Or.inr rfl))
  (s_cons (s_set (i := 5) nd rfl (by first | exact Or.inl rfl | exact Or.inr rfl) (e_ix hu1 (e_ix hu1 (e_var (i := 1)) e_int) (e_var (i := 3))))
  (s_one (s_if (t_w (w_or (t_eq hu (e_ix hu1 (e_var (i := 5)) e_int) e_str) (w_or1 (t_eq hu (e_ix hu1 (e_var (i := 5)) e_int) e_str))))
  (s_one (s_dput hu1 (i := 2) (e_ix hu1 (e_var (i := 5)) e_int) (e_tup (a_cons (e_ix hu1 (e_var (i := 5)) e_int) (a_cons (e_ix hu1 (e_ix hu1 (e_ix hu1 (e_var (i := 0)) e_int) (e_var (i := 3))) e_int) (a_cons (e_ix hu1 (e_var (i := 5)) e_int) (a_cons (e_ix hu1 (e_var (i := 5)) e_int) a_nil)))))))
  s_nil))))
  (s_cons (s_for PassesOwn.never rfl (i_range1 rfl T.range (a_cons (e_len T (e_ix hu1 (e_var (i := 1)) e_int)) a_nil)) (g_name (i := 4) nd rfl (by first | exact Or.inl rfl | exact Or.inr rfl))
  (s_one (s_for PassesOwn.never rfl (i_seq (e_ix hu1 (e_ix hu1 (e_var (i := 1)) e_int) (e_var (i := 4)))) (g_seq rfl (gs_cons (g_name (i := 6) nd rfl (by first | exact Or.inl rfl | exact Or.inr rfl)) (gs_cons (g_name (i := 7) nd rfl (by first | exact Or.inl rfl | exact Or.inr rfl)) (gs_cons (g_name (i := 8) nd rfl (by first | exact Or.inl rfl | exact Or.inr rfl)) (gs_cons (g_name (i := 9) nd rfl (by first | exact Or.inl rfl | exact Or.inr rfl)) gs_nil)))))
  (s_one (s_dput hu1 (i := 2) (e_var (i := 6)) (e_tup (a_cons (e_var (i := 7)) (a_cons (e_var (i := 4)) (a_cons e_str (a_cons (e_var (i := 9)) a_nil))))))))))
  (s_one (s_retD (i := 2))))))
/-! ### _law_is_set -/
theorem sc_law_is_set : FnScope ["value", "members", "day", "seen", "rows", "k", "numbers", "told", "n", "row"] ["value", "members", "day", "seen"] (defScope (top 29)) := ⟨rfl, rfl, rfl, by decide +kernel, rfl, by decide +kernel, by decide +kernel⟩
def t_law_is_set (sp_law_is_int : OW.Spec) : SW := (sSeq (sIf (tOr' (tNot' (tOf (eIsi "tuple" (eVar 0)))) (tOr' (tOf (eOp oNe (eCall cLen (aCons (eVar 0) aNil)) (eC (.int 2)))) (tOr' (tNot' (tOf (eIsi "tuple" (eOp oIx (eVar 0) (eC (.int 0)))))) (tNot' (tOf (eChain oLe oLe (eC (.int 2)) (eCall cLen (aCons (eOp oIx (eVar 0) (eC (.int 0))) aNil)) (eC (.int 4))))))))
  (sRet (eC (.bl false)))
  sNil)
  (sSeq (sUnp (eVar 0) (gSeqW 2 (gsCons (gN 6) (gsCons (gN 7) gsNil))))
  (sSeq (sIf (tOf (eOp oGt (eCall cLen (aCons (eF (fLc (iOf (eVar 6)) (gN 8) (tOr' (tNot' (tOf (eFn sp_law_is_int (aCons (eVar 8) (aCons (eC (.int 0)) (aCons (eC (.int 999999)) aNil)))))) (tOr' (tOf (eOp (oIn true) (eVar 8) (eVar 1))) (tOf (eOp (oIn false) (eVar 8) (eVar 3))))) (eVar 8) [8])) aNil)) (eC (.int 0))))
  (sRet (eC (.bl false)))
  sNil)
  (sSeq (sIf (tOr' (tOf (eOp oGt (eCall cLen (aCons (eF (fLc (iRange2 (aCons (eC (.int 1)) (aCons (eCall cLen (aCons (eVar 6) aNil)) aNil))) (gN 5) (tOf (eOp oGe (eOp oIx (eVar 6) (eOp oSub (eVar 5) (eC (.int 1)))) (eOp oIx (eVar 6) (eVar 5)))) (eVar 5) [5])) aNil)) (eC (.int 0)))) (tNot' (tOf (eFn sp_law_is_int (aCons (eVar 7) (aCons (eOp oAdd (eVar 2) (eC (.int 1))) (aCons (eC (.int 1000000)) aNil)))))))
  (sRet (eC (.bl false)))
  sNil)
  (sSeq (sSet 4 (eF (fLc (iOf (eVar 6)) (gN 8) tYesW (eOp oIx (eVar 1) (eVar 8)) [8])))
  (sSeq (sFor (iRange1 (aCons (eCall cLen (aCons (eVar 4) aNil)) aNil)) (gN 5)
  (sSeq (sIf (tOr' (tOf (eOp oNe (eOp oIx (eOp oIx (eVar 4) (eVar 5)) (eC (.int 0))) (eOp oIx (eOp oIx (eVar 4) (eC (.int 0))) (eC (.int 0))))) (tOf (eOp (oIn false) (eOp oIx (eOp oIx (eVar 4) (eVar 5)) (eC (.int 1))) (eF (fLc (iOf (eSlice (eVar 4) oNone (oSome (eVar 5)))) (gN 9) tYesW (eOp oIx (eVar 9) (eC (.int 1))) [9])))))
  (sRet (eC (.bl false)))
  sNil)
  (sIf (tOr' (tAnd' (tOf (eOp oEq (eOp oIx (eOp oIx (eVar 4) (eVar 5)) (eC (.int 2))) (eC (.str "wait")))) (tOf (eOp oNe (eOp oIx (eOp oIx (eVar 4) (eVar 5)) (eC (.int 3))) (eVar 7)))) (tAnd' (tOf (eOp oEq (eOp oIx (eOp oIx (eVar 4) (eVar 5)) (eC (.int 2))) (eC (.str "way")))) (tOf (eOp oGt (eOp oIx (eOp oIx (eVar 4) (eVar 5)) (eC (.int 3))) (eVar 7)))))
  (sRet (eC (.bl false)))
  sNil)))
  (sRet (eOp oGt (eCall cLen (aCons (eF (fLc (iOf (eVar 4)) (gN 9) (tOf (eOp oNe (eOp oIx (eVar 9) (eC (.int 2))) (eC (.str "ready")))) (eVar 9) [9])) aNil)) (eC (.int 0))))))))))
theorem body_law_is_set {sp_law_is_int : OW.Spec} (T : Blt mg) (h_law_is_int : Has P w K mg base TB 1 "_law_is_int" ["value", "low", "high"] sp_law_is_int) (cdv : Value) (A : Around) (outer : List Env) (s : Shared) (H : Hp) (E : XK) (g : G0) {f : Addr} (htb : g.s0.tb = TB) (hr : Room 1 (A.deeper (envOfC "_law_is_set" (defScope (top 29)) s.heap.objs.size f cdv))) :
    PSsW (cxOf CX0 P w K mg base ["value", "members", "day", "seen", "rows", "k", "numbers", "told", "n", "row"] "_law_is_set" (defScope (top 29)) f cdv A outer s H E).nox g (fun _ _ => False) (defBody (top 29)) (t_law_is_set sp_law_is_int) := by
  have hu := hr.units
  have hu1 := hu_of hr
  have nd := sc_law_is_set.nd
  exact (s_cons (s_if (t_w (w_or (t_not (t_val (e_isTuple T (e_var (i := 0))))) (w_or (t_ne hu (e_len T (e_var (i := 0))) e_int) (w_or (t_not (t_val (e_isTuple T (e_ix hu1 (e_var (i := 0)) e_int)))) (w_or1 (t_not (t_leLe e_int (e_len T (e_ix hu1 (e_var (i := 0)) e_int)) e_int)))))))
  (s_one (s_ret e_bl))
  s_nil)
  (s_cons (s_unp (e_var (i := 0)) (g_seq rfl (gs_cons (g_name (i := 6) nd rfl (by first | exact Or.inl rfl | exact Or.inr rfl)) (gs_cons (g_name (i := 7) nd rfl (by first | exact Or.inl rfl | exact Or.inr rfl)) gs_nil))))
  (s_cons (s_if (t_gt (e_len T (f_e (f_lc (own := [("n", 8)]) rfl nd (i_seq (e_var (i := 6))) (blkOk_by (by first | decide +kernel | kernel_rfl)) (fun _ _ _ _ _ _ _ => (g_name (i := 8) nd rfl (by first | exact Or.inl rfl | exact Or.inr rfl))) (fun _ _ _ _ _ _ _ => (ts_one (t_w (w_or (t_not (t_val (e_own h_law_is_int htb (hr.mono (by omega)) (a_cons (e_var (i := 8)) (a_cons e_int (a_cons e_int a_nil)))))) (w_or (t_notIn hu1 (e_var (i := 8)) (e_var (i := 1))) (w_or1 (t_in hu1 (e_var (i := 8)) (e_var (i := 3))))))))) (fun _ _ _ _ _ _ _ => (e_var (i := 8))) (only_name (by decide))))) e_int)
  (s_one (s_ret e_bl))
  s_nil)
  (s_cons (s_if (t_w (w_or (t_gt (e_len T (f_e (f_lc (own := [("k", 5)]) rfl nd (i_range2 rfl T.range (a_cons e_int (a_cons (e_len T (e_var (i := 6))) a_nil))) (blkOk_by (by first | decide +kernel | kernel_rfl)) (fun _ _ _ _ _ _ _ => (g_name (i := 5) nd rfl (by first | exact Or.inl rfl | exact Or.inr rfl))) (fun _ _ _ _ _ _ _ => (ts_one (t_ge (e_ix hu1 (e_var (i := 6)) (e_sub (e_var (i := 5)) e_int)) (e_ix hu1 (e_var (i := 6)) (e_var (i := 5)))))) (fun _ _ _ _ _ _ _ => (e_var (i := 5))) (only_name (by decide))))) e_int) (w_or1 (t_not (t_val (e_own h_law_is_int htb (hr.mono (by omega)) (a_cons (e_var (i := 7)) (a_cons (e_add (e_var (i := 2)) e_int) (a_cons e_int a_nil)))))))))
  (s_one (s_ret e_bl))
  s_nil)
  (s_cons (s_setLc (i := 4) (own := [("n", 8)]) rfl nd rfl rfl (sw_true rfl rfl rfl (by decide +kernel)) (i_seq (e_var (i := 6))) (blkOk_by (by first | decide +kernel | kernel_rfl)) (fun _ _ _ _ _ _ _ => (g_name (i := 8) nd rfl (by first | exact Or.inl rfl | exact Or.inr rfl))) (fun _ _ _ _ _ _ _ => ts_nil) (fun _ _ _ _ _ _ _ => (e_ix hu1 (e_var (i := 1)) (e_var (i := 8)))) (only_name (by decide)))
  (s_cons (s_for PassesOwn.never rfl (i_range1 rfl T.range (a_cons (e_len T (e_var (i := 4))) a_nil)) (g_name (i := 5) nd rfl (by first | exact Or.inl rfl | exact Or.inr rfl))
  (s_cons (s_if (t_w (w_or (t_ne hu (e_ix hu1 (e_ix hu1 (e_var (i := 4)) (e_var (i := 5))) e_int) (e_ix hu1 (e_ix hu1 (e_var (i := 4)) e_int) e_int)) (w_or1 (t_in hu1 (e_ix hu1 (e_ix hu1 (e_var (i := 4)) (e_var (i := 5))) e_int) (f_e (f_lc (own := [("row", 9)]) rfl nd (i_seq (e_slice (e_var (i := 4)) o_none (o_some (e_var (i := 5))))) (blkOk_by (by first | decide +kernel | kernel_rfl)) (fun _ _ _ _ _ _ _ => (g_name (i := 9) nd rfl (by first | exact Or.inl rfl | exact Or.inr rfl))) (fun _ _ _ _ _ _ _ => ts_nil) (fun _ _ _ _ _ _ _ => (e_ix hu1 (e_var (i := 9)) e_int)) (only_name (by decide))))))))
  (s_one (s_ret e_bl))
  s_nil)
  (s_one (s_if (t_w (w_or (t_w (w_and (t_eq hu (e_ix hu1 (e_ix hu1 (e_var (i := 4)) (e_var (i := 5))) e_int) e_str) (w_and1 (t_ne hu (e_ix hu1 (e_ix hu1 (e_var (i := 4)) (e_var (i := 5))) e_int) (e_var (i := 7)))))) (w_or1 (t_w (w_and (t_eq hu (e_ix hu1 (e_ix hu1 (e_var (i := 4)) (e_var (i := 5))) e_int) e_str) (w_and1 (t_gt (e_ix hu1 (e_ix hu1 (e_var (i := 4)) (e_var (i := 5))) e_int) (e_var (i := 7)))))))))
  (s_one (s_ret e_bl))
  s_nil))))
  (s_one (s_ret (e_gt (e_len T (f_e (f_lc (own := [("row", 9)]) rfl nd (i_seq (e_var (i := 4))) (blkOk_by (by first | decide +kernel | kernel_rfl)) (fun _ _ _ _ _ _ _ => (g_name (i := 9) nd rfl (by first | exact Or.inl rfl | exact Or.inr rfl))) (fun _ _ _ _ _ _ _ => (ts_one (t_ne hu (e_ix hu1 (e_var (i := 9)) e_int) e_str))) (fun _ _ _ _ _ _ _ => (e_var (i := 9))) (only_name (by decide))))) e_int)))))))))
/-! ### _law_fault -/
theorem sc_law_fault : FnScope ["library", "stand", "value", "members", "seen", "k", "number"] ["library", "stand", "value"] (defScope (top 30)) := ⟨rfl, rfl, rfl, by decide +kernel, rfl, by decide +kernel, by decide +kernel⟩
def t_law_fault (sp_law_members sp_law_is_set : OW.Spec) : SW := (sSeq (sIf (tNot' (tOf (eIsi "tuple" (eVar 2))))
  (sRet (eNeg (eC (.int 1))))
  sNil)
  (sSeq (sSet 3 (eFn sp_law_members (aCons (eVar 0) (aCons (eVar 1) aNil))))
  (sSeq (sNewD 4)
  (sSeq (sFor (iRange1 (aCons (eCall cLen (aCons (eVar 2) aNil)) aNil)) (gN 5)
  (sSeq (sIf (tOr' (tNot' (tOf (eFnB sp_law_is_set (aCons (eOp oIx (eVar 2) (eVar 5)) (aCons (eVar 3) (aCons (eOp oIx (eVar 1) (eC (.int 0))) (aCons (eVar 4) aNil))))))) (tAnd' (tOf (eOp oGt (eVar 5) (eC (.int 0)))) (tNot' (tOf (eOp oLtA (eOp oIx (eVar 2) (eOp oSub (eVar 5) (eC (.int 1)))) (eOp oIx (eVar 2) (eVar 5)))))))
  (sRet (eVar 5))
  sNil)
  (sFor (iOf (eOp oIx (eOp oIx (eVar 2) (eVar 5)) (eC (.int 0)))) (gN 6)
  (sDput 4 (eVar 6) (eC (.bl true))))))
  (sRet (eC .non))))))
theorem body_law_fault {sp_law_members sp_law_is_set : OW.Spec} (T : Blt mg) (h_law_members : Has P w K mg base TB 1 "_law_members" ["library", "stand"] sp_law_members) (h_law_is_set : Has P w K mg base TB 2 "_law_is_set" ["value", "members", "day", "seen"] sp_law_is_set) (cdv : Value) (A : Around) (outer : List Env) (s : Shared) (H : Hp) (E : XK) (g : G0) {f : Addr} (htb : g.s0.tb = TB) (hr : Room 2 (A.deeper (envOfC "_law_fault" (defScope (top 30)) s.heap.objs.size f cdv))) :
    PSsW (cxOf CX0 P w K mg base ["library", "stand", "value", "members", "seen", "k", "number"] "_law_fault" (defScope (top 30)) f cdv A outer s H E).nox g (fun _ _ => False) (defBody (top 30)) (t_law_fault sp_law_members sp_law_is_set) := by
  have hu := hr.units
  have hu1 := hu_of hr
  have nd := sc_law_fault.nd
  exact (s_cons (s_if (t_not (t_val (e_isTuple T (e_var (i := 2)))))
  (s_one (s_ret (e_neg e_int)))
  s_nil)
  (s_cons (s_set (i := 3) nd rfl (by first | exact Or.inl rfl | exact Or.inr rfl) (e_own h_law_members htb (hr.mono (by omega)) (a_cons (e_var (i := 0)) (a_cons (e_var (i := 1)) a_nil))))
  (s_cons (s_newD (i := 4) nd rfl (by first | exact Or.inl rfl | exact Or.inr rfl))
  (s_cons (s_for PassesOwn.never rfl (i_range1 rfl T.range (a_cons (e_len T (e_var (i := 2))) a_nil)) (g_name (i := 5) nd rfl (by first | exact Or.inl rfl | exact Or.inr rfl))
  (s_cons (s_if (t_w (w_or (t_not (t_val (e_ownB h_law_is_set htb (hr.mono (by omega)) (a_cons (e_ix hu1 (e_var (i := 2)) (e_var (i := 5))) (a_cons (e_var (i := 3)) (a_cons (e_ix hu1 (e_var (i := 1)) e_int) (a_cons (e_var (i := 4)) a_nil))))))) (w_or1 (t_w (w_and (t_gt (e_var (i := 5)) e_int) (w_and1 (t_not (t_ltA hu (e_ix hu1 (e_var (i := 2)) (e_sub (e_var (i := 5)) e_int)) (e_ix hu1 (e_var (i := 2)) (e_var (i := 5)))))))))))
  (s_one (s_ret (e_var (i := 5))))
  s_nil)
  (s_one (s_for PassesOwn.never rfl (i_seq (e_ix hu1 (e_ix hu1 (e_var (i := 2)) (e_var (i := 5))) e_int)) (g_name (i := 6) nd rfl (by first | exact Or.inl rfl | exact Or.inr rfl))
  (s_one (s_dput hu1 (i := 4) (e_var (i := 6)) e_bl))))))
  (s_one (s_ret e_non))))))
/-! ### _law_member -/
theorem sc_law_member : FnScope ["state", "book", "goal", "day", "told", "week", "kind", "days", "d"] ["state", "book", "goal", "day", "told"] (defScope (top 31)) := ⟨rfl, rfl, rfl, by decide +kernel, rfl, by decide +kernel, by decide +kernel⟩
def t_law_member (sp_law_pick sp_law_nth sp_law_next sp_law_take : OW.Spec) : SW := (sSeq (sSet 5 (eOp oIx (eOp oIx (eOp oIx (eVar 1) (eC (.int 0))) (eVar 2)) (eC (.int 0))))
  (sSeq (sSet 6 (eFn sp_law_pick (aCons (eVar 0) (aCons (eF (fLst (aCons (eC (.str "wait")) (aCons (eC (.str "wait")) (aCons (eC (.str "way")) (aCons (eC (.str "ready")) aNil)))))) aNil))))
  (sSeq (sIf (tOf (eOp oEq (eVar 6) (eC (.str "ready"))))
  (sRet (eTup (aCons (eC (.str "ready")) (aCons (eFn sp_law_nth (aCons (eVar 5) (aCons (eVar 3) (aCons (eOp oAdd (eC (.int 1)) (eFn sp_law_take (aCons (eVar 0) (aCons (eOp oIx (eVar 1) (eC (.int 3))) aNil)))) aNil)))) aNil))))
  sNil)
  (sSeq (sSet 7 (eF (fLc (iOf (eF (fLst (aCons (eFn sp_law_next (aCons (eVar 5) (aCons (eOp oAdd (eVar 3) (eC (.int 1))) aNil))) (aCons (eFn sp_law_next (aCons (eVar 5) (aCons (eOp oAdd (eOp oAdd (eVar 3) (eC (.int 1))) (eFn sp_law_take (aCons (eVar 0) (aCons (eC (.int 20)) aNil)))) aNil))) (aCons (eVar 4) aNil)))))) (gN 8) (tOf (eChain oLt oLe (eVar 3) (eVar 8) (eCall cMin2 (aCons (eVar 4) (aCons (eOp oAdd (eVar 3) (eC (.int 3000))) aNil))))) (eVar 8) [8])))
  (sSeq (sSet 7 (eF (fLc (iOf (eVar 7)) (gN 8) (tOf (eOp oEq (eOp oIx (eVar 5) (eOp oMod (eCall cInt (aCons (eVar 8) aNil)) (eC (.int 7)))) (eC (.int 1)))) (eVar 8) [8])))
  (sRet (eIf (tOr' (tOf (eOp oEq (eVar 6) (eC (.str "wait")))) (tOf (eOp oEq (eVar 7) (eF (fLst aNil))))) (eC .non) (eTup (aCons (eC (.str "way")) (aCons (eFn sp_law_pick (aCons (eVar 0) (aCons (eVar 7) aNil))) aNil))))))))))
theorem body_law_member {sp_law_pick sp_law_nth sp_law_next sp_law_take : OW.Spec} (T : Blt mg) (h_law_pick : Has P w K mg base TB 3 "_law_pick" ["state", "some"] sp_law_pick) (h_law_nth : Has P w K mg base TB 2 "_law_nth" ["week", "day", "n"] sp_law_nth) (h_law_next : Has P w K mg base TB 1 "_law_next" ["week", "day"] sp_law_next) (h_law_take : Has P w K mg base TB 2 "_law_take" ["state", "limit"] sp_law_take) (cdv : Value) (A : Around) (outer : List Env) (s : Shared) (H : Hp) (E : XK) (g : G0) {f : Addr} (htb : g.s0.tb = TB) (hr : Room 3 (A.deeper (envOfC "_law_member" (defScope (top 31)) s.heap.objs.size f cdv))) :
    PSsW (cxOf CX0 P w K mg base ["state", "book", "goal", "day", "told", "week", "kind", "days", "d"] "_law_member" (defScope (top 31)) f cdv A outer s H E).nox g (fun _ _ => False) (defBody (top 31)) (t_law_member sp_law_pick sp_law_nth sp_law_next sp_law_take) := by
  have hu := hr.units
  have hu1 := hu_of hr
  have nd := sc_law_member.nd
  exact (s_cons (s_set (i := 5) nd rfl (by first | exact Or.inl rfl | exact Or.inr rfl) (e_ix hu1 (e_ix hu1 (e_ix hu1 (e_var (i := 1)) e_int) (e_var (i := 2))) e_int))
  (s_cons (s_set (i := 6) nd rfl (by first | exact Or.inl rfl | exact Or.inr rfl) (e_own h_law_pick htb (hr.mono (by omega)) (a_cons (e_var (i := 0)) (a_cons (f_e (f_lst (a_cons e_str (a_cons e_str (a_cons e_str (a_cons e_str a_nil)))))) a_nil))))
  (s_cons (s_if (t_eq hu (e_var (i := 6)) e_str)
  (s_one (s_ret (e_tup (a_cons e_str (a_cons (e_own h_law_nth htb (hr.mono (by omega)) (a_cons (e_var (i := 5)) (a_cons (e_var (i := 3)) (a_cons (e_add e_int (e_own h_law_take htb (hr.mono (by omega)) (a_cons (e_var (i := 0)) (a_cons (e_ix hu1 (e_var (i := 1)) e_int) a_nil)))) a_nil)))) a_nil)))))
  s_nil)
  (s_cons (s_setLc (i := 7) (own := [("d", 8)]) rfl nd rfl rfl (sw_true rfl rfl rfl (by decide +kernel)) (i_seq (f_e (f_lst (a_cons (e_own h_law_next htb (hr.mono (by omega)) (a_cons (e_var (i := 5)) (a_cons (e_add (e_var (i := 3)) e_int) a_nil))) (a_cons (e_own h_law_next htb (hr.mono (by omega)) (a_cons (e_var (i := 5)) (a_cons (e_add (e_add (e_var (i := 3)) e_int) (e_own h_law_take htb (hr.mono (by omega)) (a_cons (e_var (i := 0)) (a_cons e_int a_nil)))) a_nil))) (a_cons (e_var (i := 4)) a_nil)))))) (blkOk_by (by first | decide +kernel | kernel_rfl)) (fun _ _ _ _ _ _ _ => (g_name (i := 8) nd rfl (by first | exact Or.inl rfl | exact Or.inr rfl))) (fun _ _ _ _ _ _ _ => (ts_one (t_ltLe (e_var (i := 3)) (e_var (i := 8)) (e_min2 rfl T (e_var (i := 4)) (e_add (e_var (i := 3)) e_int))))) (fun _ _ _ _ _ _ _ => (e_var (i := 8))) (only_name (by decide)))
  (s_cons (s_setLc (i := 7) (own := [("d", 8)]) rfl nd rfl rfl (sw_true rfl rfl rfl (by decide +kernel)) (i_seq (e_var (i := 7))) (blkOk_by (by first | decide +kernel | kernel_rfl)) (fun _ _ _ _ _ _ _ => (g_name (i := 8) nd rfl (by first | exact Or.inl rfl | exact Or.inr rfl))) (fun _ _ _ _ _ _ _ => (ts_one (t_eq hu (e_ix hu1 (e_var (i := 5)) (e_mod (e_toInt T (e_var (i := 8))) e_int)) e_int))) (fun _ _ _ _ _ _ _ => (e_var (i := 8))) (only_name (by decide)))
  (s_one (s_ret (e_if (t_w (w_or (t_eq hu (e_var (i := 6)) e_str) (w_or1 (t_eq hu (e_var (i := 7)) (f_e (f_lst a_nil)))))) e_non (e_tup (a_cons e_str (a_cons (e_own h_law_pick htb (hr.mono (by omega)) (a_cons (e_var (i := 0)) (a_cons (e_var (i := 7)) a_nil))) a_nil)))))))))))
/-! ### _law_world -/
theorem sc_law_world : FnScope ["state", "book", "pairs", "readers", "day", "first", "numbers", "lines", "turn", "stand", "many", "works", "copies", "places", "sets", "reader", "told", "members", "held", "work", "place", "k", "line", "one"] ["state"] (defScope (top 32)) := ⟨rfl, rfl, rfl, by decide +kernel, rfl, by decide +kernel, by decide +kernel⟩
def t_law_world (sp_law_book sp_law_pick sp_law_take sp_law_shuffled sp_law_member : OW.Spec) : SW := (sSeq (sPar 10 11 (aCons (eOp oAdd (eC (.int 1)) (eFn sp_law_take (aCons (eVar 0) (aCons (eC (.int 3)) aNil)))) (aCons (eOp oAdd (eC (.int 3)) (eFn sp_law_take (aCons (eVar 0) (aCons (eC (.int 4)) aNil)))) aNil)))
  (sSeq (sSet 1 (eFn sp_law_book (aCons (eVar 0) (aCons (eVar 10) (aCons (eOp oAdd (eC (.int 1)) (eFn sp_law_take (aCons (eVar 0) (aCons (eC (.int 2)) aNil)))) aNil)))))
  (sSeq (sSet 2 (eCall cTuple (aCons (eF (fLc (iRange1 (aCons (eOp oMulI (eVar 10) (eOp oIx (eVar 1) (eC (.int 1)))) aNil)) (gN 21) tYesW (eTup (aCons (eOp oFdiv (eVar 21) (eOp oIx (eVar 1) (eC (.int 1)))) (aCons (eOp oMod (eCall cInt (aCons (eVar 21) aNil)) (eOp oIx (eVar 1) (eC (.int 1)))) aNil))) [21])) aNil)))
  (sSeq (sSet 1 (eOp oAdd (eTup (aCons (eCall cTuple (aCons (eF (fLc (iOf (eOp oIx (eVar 1) (eC (.int 0)))) (gN 23) tYesW (eTup (aCons (eOp oIx (eVar 23) (eC (.int 0))) (aCons (eVar 2) (aCons (eOp oIx (eVar 23) (eC (.int 2))) (aCons (eOp oIx (eVar 23) (eC (.int 3))) aNil))))) [23])) aNil)) aNil)) (eSlice (eVar 1) (oSome (eC (.int 1))) oNone)))
  (sSeq (sSet 3 (eCall cTuple (aCons (eF (fLc (iRange1 (aCons (eOp oAdd (eC (.int 2)) (eFn sp_law_take (aCons (eVar 0) (aCons (eC (.int 3)) aNil)))) aNil)) (gN 21) tYesW (eFn sp_law_pick (aCons (eVar 0) (aCons (eVar 2) aNil))) [21])) aNil)))
  (sSeq (sSet 4 (eFn sp_law_pick (aCons (eVar 0) (aCons (eF (fLst (aCons (eC (.int 0)) (aCons (eC (.int 99999)) (aCons (eFn sp_law_take (aCons (eVar 0) (aCons (eC (.int 99999)) aNil))) (aCons (eFn sp_law_take (aCons (eVar 0) (aCons (eC (.int 40)) aNil))) aNil)))))) aNil))))
  (sSeq (sSet 5 (eFn sp_law_take (aCons (eVar 0) (aCons (eC (.int 999900)) aNil))))
  (sSeq (sSetF 6 (fFn sp_law_shuffled (aCons (eVar 0) (aCons (eF (fRange2 (aCons (eVar 5) (aCons (eOp oAdd (eVar 5) (eC (.int 60))) aNil)))) aNil))))
  (sSeq (sPar3nil 12 13 14)
  (sSeq (sNewLL 7 (iRange1 (aCons (eVar 11) aNil)) [19])
  (sSeq (sFor (iRange1 (aCons (eOp oAdd (eC (.int 1)) (eFn sp_law_take (aCons (eVar 0) (aCons (eC (.int 3)) aNil)))) aNil)) (gN 8)
  (sSeq (sSet 15 (eFn sp_law_take (aCons (eVar 0) (aCons (eCall cLen (aCons (eVar 3) aNil)) aNil))))
  (sSeq (sSet 16 (eOp oAdd (eVar 4) (eFn sp_law_pick (aCons (eVar 0) (aCons (eF (fLst (aCons (eC (.int 1)) (aCons (eOp oAdd (eC (.int 1)) (eFn sp_law_take (aCons (eVar 0) (aCons (eC (.int 40)) aNil)))) (aCons (eOp oSub (eC (.int 1000000)) (eVar 4)) aNil))))) aNil)))))
  (sSeq (sSetF 17 (fLst aNil))
  (sSeq (sSet 18 (eC (.int 0)))
  (sSeq (sFor (iOf (eSlice (eFn sp_law_shuffled (aCons (eVar 0) (aCons (eF (fRange1 (aCons (eVar 11) aNil))) aNil))) oNone (oSome (eOp oAdd (eC (.int 2)) (eFn sp_law_take (aCons (eVar 0) (aCons (eC (.int 3)) aNil))))))) (gN 19)
  (sSeq (sAppend 17 (ePop 6))
  (sSeq (sSet 20 (eFn sp_law_member (aCons (eVar 0) (aCons (eVar 1) (aCons (eOp oIx (eOp oIx (eVar 3) (eVar 15)) (eC (.int 0))) (aCons (eVar 4) (aCons (eVar 16) aNil)))))))
  (sIf (tOr' (tOf (eOp oIsN (eVar 20) (eC .non))) (tAnd' (tOf (eOp oEq (eOp oIx (eVar 20) (eC (.int 0))) (eC (.str "ready")))) (tOf (eOp oEq (eVar 18) (eC (.int 0))))))
  (sSeq (sAppendL 7 (eVar 19) (eTup (aCons (eOp oIx (eVar 17) (eNeg (eC (.int 1)))) (aCons (eVar 15) (aCons (eFn sp_law_take (aCons (eVar 0) (aCons (eC (.int 10)) aNil))) (aCons (eVar 16) aNil))))))
  (sSet 18 (eC (.int 1))))
  (sSeq (sSet 18 (eOp oAdd (eVar 18) (eCall cInt (aCons (eOp oEq (eOp oIx (eVar 20) (eC (.int 0))) (eC (.str "way"))) aNil))))
  (sSeq (sAppend 12 (eTup (aCons (eVar 19) (aCons (eFn sp_law_take (aCons (eVar 0) (aCons (eVar 10) aNil))) aNil))))
  (sAppend 13 (eOp oAdd (eVar 20) (eTup (aCons (eOp oIx (eVar 17) (eNeg (eC (.int 1)))) (aCons (eVar 15) aNil)))))))))))
  (sSeq (sAppend 14 (eTup (aCons (eCall cTuple (aCons (eF (fCall fcSorted (aCons (eVar 17) aNil))) aNil)) (aCons (eVar 16) aNil))))
  (sSeq (sSet 19 (eFn sp_law_pick (aCons (eVar 0) (aCons (eF (fRange1 (aCons (eVar 11) aNil))) aNil))))
  (sSeq (sAppendL 7 (eVar 19) (eTup (aCons (ePop 6) (aCons (eVar 15) (aCons (eC (.int 0)) (aCons (eFn sp_law_pick (aCons (eVar 0) (aCons (eF (fLst (aCons (eVar 16) (aCons (eVar 16) (aCons (eC .non) aNil))))) aNil))) aNil))))))
  (sAppendL 7 (eFn sp_law_take (aCons (eVar 0) (aCons (eVar 11) aNil))) (eTup (aCons (ePop 6) (aCons (eFn sp_law_take (aCons (eVar 0) (aCons (eCall cLen (aCons (eVar 3) aNil)) aNil))) (aCons (eC (.int 3)) (aCons (eFn sp_law_pick (aCons (eVar 0) (aCons (eF (fLst (aCons (eVar 16) (aCons (eC .non) aNil)))) aNil))) aNil)))))))))))))))
  (sSeq (sFor (iRange1 (aCons (eFn sp_law_take (aCons (eVar 0) (aCons (eC (.int 3)) aNil))) aNil)) (gN 8)
  (sSeq (sAppend 12 (eTup (aCons (eFn sp_law_take (aCons (eVar 0) (aCons (eVar 11) aNil))) (aCons (eFn sp_law_take (aCons (eVar 0) (aCons (eVar 10) aNil))) aNil))))
  (sAppend 13 (eFn sp_law_pick (aCons (eVar 0) (aCons (eF (fLst (aCons (eTup (aCons (eC (.str "free")) aNil)) (aCons (eTup (aCons (eC (.str "lent")) (aCons (eOp oAdd (eVar 4) (eC (.int 5))) (aCons (ePop 6) (aCons (eFn sp_law_take (aCons (eVar 0) (aCons (eCall cLen (aCons (eVar 3) aNil)) aNil))) aNil))))) aNil)))) aNil))))))
  (sFrz 7 (sSeq (sSet 7 (eCall cTuple (aCons (eF (fLc (iOf (eVar 7)) (gN 22) tYesW (eCall cTuple (aCons (eFn sp_law_shuffled (aCons (eVar 0) (aCons (eVar 22) aNil))) aNil)) [22])) aNil)))
  (sSeq (sSet 9 (eTup (aCons (eVar 4) (aCons (eCall cTuple (aCons (eVar 13) aNil)) (aCons (eOp oMulT (eTup (aCons (eC (.int 0)) aNil)) (eCall cLen (aCons (eVar 13) aNil))) (aCons (eVar 7) (aCons (eOp oMulT (eTup (aCons (eC (.int 1)) aNil)) (eVar 11)) (aCons (eC (.int 0)) aNil))))))))
  (sFrz 6 (sRetF (fLst (aCons (eTup (aCons (eVar 1) (aCons (eVar 11) (aCons (eCall cTuple (aCons (eVar 12) aNil)) (aCons (eVar 3) aNil))))) (aCons (eVar 9) (aCons (eCall cTuple (aCons (eF (fCall fcSorted (aCons (eVar 14) aNil))) aNil)) (aCons (eVar 6) aNil))))))))))))))))))))))
theorem body_law_world {sp_law_book sp_law_pick sp_law_take sp_law_shuffled sp_law_member : OW.Spec} (T : Blt mg) (h_law_book : Has P w K mg base TB 4 "_law_book" ["state", "many", "classes"] sp_law_book) (h_law_pick : Has P w K mg base TB 3 "_law_pick" ["state", "some"] sp_law_pick) (h_law_take : Has P w K mg base TB 2 "_law_take" ["state", "limit"] sp_law_take) (h_law_shuffled : Has P w K mg base TB 3 "_law_shuffled" ["state", "some"] sp_law_shuffled) (h_law_member : Has P w K mg base TB 4 "_law_member" ["state", "book", "goal", "day", "told"] sp_law_member) (cdv : Value) (A : Around) (outer : List Env) (s : Shared) (H : Hp) (E : XK) (g : G0) {f : Addr} (htb : g.s0.tb = TB) (hr : Room 4 (A.deeper (envOfC "_law_world" (defScope (top 32)) s.heap.objs.size f cdv))) :
    PSsW (cxOf CX0 P w K mg base ["state", "book", "pairs", "readers", "day", "first", "numbers", "lines", "turn", "stand", "many", "works", "copies", "places", "sets", "reader", "told", "members", "held", "work", "place", "k", "line", "one"] "_law_world" (defScope (top 32)) f cdv A outer s H E).nox g (fun _ _ => False) (defBody (top 32)) (t_law_world sp_law_book sp_law_pick sp_law_take sp_law_shuffled sp_law_member) := by
  have hu := hr.units
  have hu1 := hu_of hr
  have nd := sc_law_world.nd
  exact (s_cons (s_par (i := 10) (j := 11) rfl nd rfl rfl (by decide) rfl rfl (a_cons (e_add e_int (e_own h_law_take htb (hr.mono (by omega)) (a_cons (e_var (i := 0)) (a_cons e_int a_nil)))) (a_cons (e_add e_int (e_own h_law_take htb (hr.mono (by omega)) (a_cons (e_var (i := 0)) (a_cons e_int a_nil)))) a_nil)) rfl)
  (s_cons (s_set (i := 1) nd rfl (by first | exact Or.inl rfl | exact Or.inr rfl) (e_own h_law_book htb (hr.mono (by omega)) (a_cons (e_var (i := 0)) (a_cons (e_var (i := 10)) (a_cons (e_add e_int (e_own h_law_take htb (hr.mono (by omega)) (a_cons (e_var (i := 0)) (a_cons e_int a_nil)))) a_nil)))))
  (s_cons (s_set (i := 2) nd rfl (by first | exact Or.inl rfl | exact Or.inr rfl) (e_tuple T (f_e (f_lc (own := [("k", 21)]) rfl nd (i_range1 rfl T.range (a_cons (e_mulI (e_var (i := 10)) (e_ix hu1 (e_var (i := 1)) e_int)) a_nil)) (blkOk_by (by first | decide +kernel | kernel_rfl)) (fun _ _ _ _ _ _ _ => (g_name (i := 21) nd rfl (by first | exact Or.inl rfl | exact Or.inr rfl))) (fun _ _ _ _ _ _ _ => ts_nil) (fun _ _ _ _ _ _ _ => (e_tup (a_cons (e_fdiv (e_var (i := 21)) (e_ix hu1 (e_var (i := 1)) e_int)) (a_cons (e_mod (e_toInt T (e_var (i := 21))) (e_ix hu1 (e_var (i := 1)) e_int)) a_nil)))) (only_name (by decide))))))
  (s_cons (s_set (i := 1) nd rfl (by first | exact Or.inl rfl | exact Or.inr rfl) (e_add (e_tup (a_cons (e_tuple T (f_e (f_lc (own := [("one", 23)]) rfl nd (i_seq (e_ix hu1 (e_var (i := 1)) e_int)) (blkOk_by (by first | decide +kernel | kernel_rfl)) (fun _ _ _ _ _ _ _ => (g_name (i := 23) nd rfl (by first | exact Or.inl rfl | exact Or.inr rfl))) (fun _ _ _ _ _ _ _ => ts_nil) (fun _ _ _ _ _ _ _ => (e_tup (a_cons (e_ix hu1 (e_var (i := 23)) e_int) (a_cons (e_var (i := 2)) (a_cons (e_ix hu1 (e_var (i := 23)) e_int) (a_cons (e_ix hu1 (e_var (i := 23)) e_int) a_nil)))))) (only_name (by decide))))) a_nil)) (e_slice (e_var (i := 1)) (o_some e_int) o_none)))
  (s_cons (s_set (i := 3) nd rfl (by first | exact Or.inl rfl | exact Or.inr rfl) (e_tuple T (f_e (f_lc (own := [("k", 21)]) rfl nd (i_range1 rfl T.range (a_cons (e_add e_int (e_own h_law_take htb (hr.mono (by omega)) (a_cons (e_var (i := 0)) (a_cons e_int a_nil)))) a_nil)) (blkOk_by (by first | decide +kernel | kernel_rfl)) (fun _ _ _ _ _ _ _ => (g_name (i := 21) nd rfl (by first | exact Or.inl rfl | exact Or.inr rfl))) (fun _ _ _ _ _ _ _ => ts_nil) (fun _ _ _ _ _ _ _ => (e_own h_law_pick htb (hr.mono (by omega)) (a_cons (e_var (i := 0)) (a_cons (e_var (i := 2)) a_nil)))) (only_name (by decide))))))
  (s_cons (s_set (i := 4) nd rfl (by first | exact Or.inl rfl | exact Or.inr rfl) (e_own h_law_pick htb (hr.mono (by omega)) (a_cons (e_var (i := 0)) (a_cons (f_e (f_lst (a_cons e_int (a_cons e_int (a_cons (e_own h_law_take htb (hr.mono (by omega)) (a_cons (e_var (i := 0)) (a_cons e_int a_nil))) (a_cons (e_own h_law_take htb (hr.mono (by omega)) (a_cons (e_var (i := 0)) (a_cons e_int a_nil))) a_nil)))))) a_nil))))
  (s_cons (s_set (i := 5) nd rfl (by first | exact Or.inl rfl | exact Or.inr rfl) (e_own h_law_take htb (hr.mono (by omega)) (a_cons (e_var (i := 0)) (a_cons e_int a_nil))))
  (s_cons (s_setF (i := 6) nd rfl (by first | exact Or.inl rfl | exact Or.inr rfl) (f_own h_law_shuffled htb (hr.mono (by omega)) (a_cons (e_var (i := 0)) (a_cons (f_e (f_listRg2 rfl T (e_var (i := 5)) (e_add (e_var (i := 5)) e_int))) a_nil))))
  (s_cons (s_par3nil (i := 12) (j := 13) (l := 14) rfl nd rfl rfl rfl (by decide) (by decide) (by decide) rfl rfl rfl rfl)
  (s_cons (s_setLL (i := 7) (v := 19) (own := [("work", 19)]) rfl nd rfl rfl (sw_true rfl rfl rfl (by decide +kernel)) (i_range1 rfl T.range (a_cons (e_var (i := 11)) a_nil)) (blkOk_by (by first | decide +kernel | kernel_rfl)) (fun _ _ _ _ _ => pg_name nd rfl (by first | exact Or.inl rfl | exact Or.inr rfl)))
  (s_cons (s_for PassesOwn.never rfl (i_range1 rfl T.range (a_cons (e_add e_int (e_own h_law_take htb (hr.mono (by omega)) (a_cons (e_var (i := 0)) (a_cons e_int a_nil)))) a_nil)) (g_name (i := 8) nd rfl (by first | exact Or.inl rfl | exact Or.inr rfl))
  (s_cons (s_set (i := 15) nd rfl (by first | exact Or.inl rfl | exact Or.inr rfl) (e_own h_law_take htb (hr.mono (by omega)) (a_cons (e_var (i := 0)) (a_cons (e_len T (e_var (i := 3))) a_nil))))
  (s_cons (s_set (i := 16) nd rfl (by first | exact Or.inl rfl | exact Or.inr rfl) (e_add (e_var (i := 4)) (e_own h_law_pick htb (hr.mono (by omega)) (a_cons (e_var (i := 0)) (a_cons (f_e (f_lst (a_cons e_int (a_cons (e_add e_int (e_own h_law_take htb (hr.mono (by omega)) (a_cons (e_var (i := 0)) (a_cons e_int a_nil)))) (a_cons (e_sub e_int (e_var (i := 4))) a_nil))))) a_nil)))))
  (s_cons (s_setF (i := 17) nd rfl (by first | exact Or.inl rfl | exact Or.inr rfl) (f_lst a_nil))
  (s_cons (s_set (i := 18) nd rfl (by first | exact Or.inl rfl | exact Or.inr rfl) e_int)
  (s_cons (s_for PassesOwn.never rfl (i_seq (e_slice (e_own h_law_shuffled htb (hr.mono (by omega)) (a_cons (e_var (i := 0)) (a_cons (f_e (f_listRg1 rfl T (e_var (i := 11)))) a_nil))) o_none (o_some (e_add e_int (e_own h_law_take htb (hr.mono (by omega)) (a_cons (e_var (i := 0)) (a_cons e_int a_nil))))))) (g_name (i := 19) nd rfl (by first | exact Or.inl rfl | exact Or.inr rfl))
  (s_cons (s_append (i := 17) (e_pop (i := 6)))
  (s_cons (s_set (i := 20) nd rfl (by first | exact Or.inl rfl | exact Or.inr rfl) (e_own h_law_member htb (hr.mono (by omega)) (a_cons (e_var (i := 0)) (a_cons (e_var (i := 1)) (a_cons (e_ix hu1 (e_ix hu1 (e_var (i := 3)) (e_var (i := 15))) e_int) (a_cons (e_var (i := 4)) (a_cons (e_var (i := 16)) a_nil)))))))
  (s_one (s_if (t_w (w_or (t_isN (e_var (i := 20)) e_non) (w_or1 (t_w (w_and (t_eq hu (e_ix hu1 (e_var (i := 20)) e_int) e_str) (w_and1 (t_eq hu (e_var (i := 18)) e_int)))))))
  (s_cons (s_appendL (i := 7) (e_var (i := 19)) (e_tup (a_cons (e_ix hu1 (e_var (i := 17)) (e_neg e_int)) (a_cons (e_var (i := 15)) (a_cons (e_own h_law_take htb (hr.mono (by omega)) (a_cons (e_var (i := 0)) (a_cons e_int a_nil))) (a_cons (e_var (i := 16)) a_nil))))))
  (s_one (s_set (i := 18) nd rfl (by first | exact Or.inl rfl | exact Or.inr rfl) e_int)))
  (s_cons (s_set (i := 18) nd rfl (by first | exact Or.inl rfl | exact Or.inr rfl) (e_add (e_var (i := 18)) (e_toInt T (e_eq hu (e_ix hu1 (e_var (i := 20)) e_int) e_str))))
  (s_cons (s_append (i := 12) (e_tup (a_cons (e_var (i := 19)) (a_cons (e_own h_law_take htb (hr.mono (by omega)) (a_cons (e_var (i := 0)) (a_cons (e_var (i := 10)) a_nil))) a_nil))))
  (s_one (s_append (i := 13) (e_add (e_var (i := 20)) (e_tup (a_cons (e_ix hu1 (e_var (i := 17)) (e_neg e_int)) (a_cons (e_var (i := 15)) a_nil)))))))))))))
  (s_cons (s_append (i := 14) (e_tup (a_cons (e_tuple T (f_e (f_sorted hu T (e_var (i := 17))))) (a_cons (e_var (i := 16)) a_nil))))
  (s_cons (s_set (i := 19) nd rfl (by first | exact Or.inl rfl | exact Or.inr rfl) (e_own h_law_pick htb (hr.mono (by omega)) (a_cons (e_var (i := 0)) (a_cons (f_e (f_listRg1 rfl T (e_var (i := 11)))) a_nil))))
  (s_cons (s_appendL (i := 7) (e_var (i := 19)) (e_tup (a_cons (e_pop (i := 6)) (a_cons (e_var (i := 15)) (a_cons e_int (a_cons (e_own h_law_pick htb (hr.mono (by omega)) (a_cons (e_var (i := 0)) (a_cons (f_e (f_lst (a_cons (e_var (i := 16)) (a_cons (e_var (i := 16)) (a_cons e_non a_nil))))) a_nil))) a_nil))))))
  (s_one (s_appendL (i := 7) (e_own h_law_take htb (hr.mono (by omega)) (a_cons (e_var (i := 0)) (a_cons (e_var (i := 11)) a_nil))) (e_tup (a_cons (e_pop (i := 6)) (a_cons (e_own h_law_take htb (hr.mono (by omega)) (a_cons (e_var (i := 0)) (a_cons (e_len T (e_var (i := 3))) a_nil))) (a_cons e_int (a_cons (e_own h_law_pick htb (hr.mono (by omega)) (a_cons (e_var (i := 0)) (a_cons (f_e (f_lst (a_cons (e_var (i := 16)) (a_cons e_non a_nil)))) a_nil))) a_nil))))))))))))))))
  (s_cons (s_for PassesOwn.never rfl (i_range1 rfl T.range (a_cons (e_own h_law_take htb (hr.mono (by omega)) (a_cons (e_var (i := 0)) (a_cons e_int a_nil))) a_nil)) (g_name (i := 8) nd rfl (by first | exact Or.inl rfl | exact Or.inr rfl))
  (s_cons (s_append (i := 12) (e_tup (a_cons (e_own h_law_take htb (hr.mono (by omega)) (a_cons (e_var (i := 0)) (a_cons (e_var (i := 11)) a_nil))) (a_cons (e_own h_law_take htb (hr.mono (by omega)) (a_cons (e_var (i := 0)) (a_cons (e_var (i := 10)) a_nil))) a_nil))))
  (s_one (s_append (i := 13) (e_own h_law_pick htb (hr.mono (by omega)) (a_cons (e_var (i := 0)) (a_cons (f_e (f_lst (a_cons (e_tup (a_cons e_str a_nil)) (a_cons (e_tup (a_cons e_str (a_cons (e_add (e_var (i := 4)) e_int) (a_cons (e_pop (i := 6)) (a_cons (e_own h_law_take htb (hr.mono (by omega)) (a_cons (e_var (i := 0)) (a_cons (e_len T (e_var (i := 3))) a_nil))) a_nil))))) a_nil)))) a_nil)))))))
  (s_frz (i := 7) (s_cons (s_set (i := 7) nd rfl (by first | exact Or.inl rfl | exact Or.inr rfl) (e_tuple T (f_e (f_lc (own := [("line", 22)]) rfl nd (i_seq (e_var (i := 7))) (blkOk_by (by first | decide +kernel | kernel_rfl)) (fun _ _ _ _ _ _ _ => (g_name (i := 22) nd rfl (by first | exact Or.inl rfl | exact Or.inr rfl))) (fun _ _ _ _ _ _ _ => ts_nil) (fun _ _ _ _ _ _ _ => (e_tuple T (e_own h_law_shuffled htb (hr.mono (by omega)) (a_cons (e_var (i := 0)) (a_cons (e_var (i := 22)) a_nil))))) (only_name (by decide))))))
  (s_cons (s_set (i := 9) nd rfl (by first | exact Or.inl rfl | exact Or.inr rfl) (e_tup (a_cons (e_var (i := 4)) (a_cons (e_tuple T (e_var (i := 13))) (a_cons (e_mulT (e_tup (a_cons e_int a_nil)) (e_len T (e_var (i := 13)))) (a_cons (e_var (i := 7)) (a_cons (e_mulT (e_tup (a_cons e_int a_nil)) (e_var (i := 11))) (a_cons e_int a_nil))))))))
  (s_frz (i := 6) (s_one (s_retF (f_lst (a_cons (e_tup (a_cons (e_var (i := 1)) (a_cons (e_var (i := 11)) (a_cons (e_tuple T (e_var (i := 12))) (a_cons (e_var (i := 3)) a_nil))))) (a_cons (e_var (i := 9)) (a_cons (e_tuple T (f_e (f_sorted hu T (e_var (i := 14))))) (a_cons (e_var (i := 6)) a_nil)))))))))))))))))))))))
/-! ### _law_edges -/
theorem sc_law_edges : FnScope ["state", "stand", "sets", "numbers", "s", "more", "line", "lots", "n", "found", "days", "row", "told", "lot", "place", "new", "hold"] ["state", "stand", "sets", "numbers"] (defScope (top 33)) := ⟨rfl, rfl, rfl, by decide +kernel, rfl, by decide +kernel, by decide +kernel⟩
def t_law_edges (sp_law_take sp_law_shuffled sp_law_put : OW.Spec) : SW := (sSeq (sSet 4 (eFn sp_law_take (aCons (eVar 0) (aCons (eCall cLen (aCons (eVar 2) aNil)) aNil))))
  (sSeq (sUnp (eOp oIx (eVar 2) (eVar 4)) (gSeqW 2 (gsCons (gN 11) (gsCons (gN 12) gsNil))))
  (sSeq (sSet 5 (eOp oAdd (eF (fLc (iOf (eOp oIx (eVar 1) (eC (.int 1)))) (gN 14) (tOf (eOp oEq (eCall cLen (aCons (eVar 14) aNil)) (eC (.int 4)))) (eOp oIx (eVar 14) (eC (.int 2))) [14])) (eSlice (eVar 3) oNone (oSome (eC (.int 1))))))
  (sSeq (sFor (iOf (eOp oIx (eVar 1) (eC (.int 3)))) (gN 6)
  (sSet 5 (eOp oAdd (eVar 5) (eF (fLc (iOf (eVar 6)) (gN 16) tYesW (eOp oIx (eVar 16) (eC (.int 0))) [16])))))
  (sSeq (sSet 7 (eF (fLst (aCons (eSlice (eVar 11) oNone (oSome (eNeg (eC (.int 1))))) (aCons (eSlice (eVar 11) (oSome (eC (.int 1))) oNone) (aCons (eSlice (eVar 11) oNone (oSome (eC (.int 1)))) (aCons (eTup aNil) (aCons (eRev (eVar 11)) (aCons (eOp oAdd (eVar 11) (eSlice (eVar 11) (oSome (eNeg (eC (.int 1)))) oNone)) (aCons (eSlice (eVar 11) oNone (oSome (eC (.int 2)))) (aCons (eSlice (eVar 11) (oSome (eC (.int 1))) (oSome (eC (.int 3)))) (aCons (eC .non) (aCons (eC (.int 0)) (aCons (eOp oAdd (eVar 11) (eTup (aCons (eC (.bl true)) aNil))) (aCons (eOp oAdd (eVar 11) (eTup (aCons (eC .non) aNil))) (aCons (eTup (aCons (eVar 11) aNil)) aNil))))))))))))))))
  (sSeq (sFor (iOf (eSlice (eFn sp_law_shuffled (aCons (eVar 0) (aCons (eVar 5) aNil))) oNone (oSome (eC (.int 8))))) (gN 8)
  (sSet 7 (eOp oAdd (eVar 7) (eF (fLst (aCons (eCall cTuple (aCons (eF (fCall fcSorted (aCons (eOp oAdd (eSlice (eVar 11) oNone (oSome (eC (.int 3)))) (eTup (aCons (eVar 8) aNil))) aNil))) aNil)) (aCons (eCall cTuple (aCons (eF (fCall fcSorted (aCons (eOp oAdd (eSlice (eVar 11) oNone (oSome (eNeg (eC (.int 1))))) (eTup (aCons (eVar 8) aNil))) aNil))) aNil)) (aCons (eCall cTuple (aCons (eF (fCall fcSorted (aCons (eOp oAdd (eVar 11) (eTup (aCons (eVar 8) aNil))) aNil))) aNil)) aNil))))))))
  (sSeq (sSet 9 (eF (fLc (iOf (eVar 7)) (gN 13) tYesW (eFn sp_law_put (aCons (eVar 2) (aCons (eTup (aCons (eVar 4) (aCons (eC (.int 0)) aNil))) (aCons (eVar 13) aNil)))) [13])))
  (sSeq (sSet 10 (eF (fLst (aCons (eOp oSub (eVar 12) (eC (.int 1))) (aCons (eOp oAdd (eVar 12) (eC (.int 1))) (aCons (eOp oIx (eVar 1) (eC (.int 0))) (aCons (eOp oAdd (eOp oIx (eVar 1) (eC (.int 0))) (eC (.int 1))) (aCons (eC (.int 1000000)) (aCons (eC (.int 1000001)) (aCons (eNeg (eC (.int 1))) (aCons (eC (.bl true)) (aCons (eC .non) (aCons (eCall cStr (aCons (eVar 12) aNil)) aNil)))))))))))))
  (sSeq (sSet 9 (eOp oAdd (eVar 9) (eF (fLc (iOf (eVar 10)) (gN 15) tYesW (eFn sp_law_put (aCons (eVar 2) (aCons (eTup (aCons (eVar 4) (aCons (eC (.int 1)) aNil))) (aCons (eVar 15) aNil)))) [15]))))
  (sSeq (sSet 9 (eOp oAdd (eVar 9) (eF (fLc (iOf (eTup (aCons (eTup (aCons (eVar 11) aNil)) (aCons (eTup (aCons (eVar 11) (aCons (eVar 12) (aCons (eC (.int 0)) aNil)))) (aCons (eTup (aCons (eVar 12) (aCons (eVar 11) aNil))) (aCons (eC .non) (aCons (eTup aNil) (aCons (eVar 11) aNil)))))))) (gN 15) tYesW (eFn sp_law_put (aCons (eVar 2) (aCons (eTup (aCons (eVar 4) aNil)) (aCons (eVar 15) aNil)))) [15]))))
  (sRet (eOp oAdd (eVar 9) (eF (fLst (aCons (eRev (eVar 2)) (aCons (eOp oAdd (eVar 2) (eSlice (eVar 2) oNone (oSome (eC (.int 1))))) (aCons (eSlice (eVar 2) oNone (oSome (eC (.int 1)))) (aCons (eSlice (eVar 2) (oSome (eC (.int 1))) oNone) (aCons (eTup aNil) (aCons (eC .non) (aCons (eC (.int 0)) (aCons (eC (.str "sets")) (aCons (eOp oAdd (eVar 2) (eTup (aCons (eC .non) aNil))) (aCons (eTup (aCons (eVar 2) aNil)) (aCons (eOp oIx (eVar 2) (eC (.int 0))) (aCons (eOp oAdd (eVar 2) (eTup (aCons (eTup (aCons (eTup aNil) (aCons (eC (.int 0)) aNil))) aNil))) aNil))))))))))))))))))))))))))
theorem body_law_edges {sp_law_take sp_law_shuffled sp_law_put : OW.Spec} (T : Blt mg) (h_law_take : Has P w K mg base TB 2 "_law_take" ["state", "limit"] sp_law_take) (h_law_shuffled : Has P w K mg base TB 3 "_law_shuffled" ["state", "some"] sp_law_shuffled) (h_law_put : Has P w K mg base TB 12 "_law_put" ["value", "path", "new"] sp_law_put) (cdv : Value) (A : Around) (outer : List Env) (s : Shared) (H : Hp) (E : XK) (g : G0) {f : Addr} (htb : g.s0.tb = TB) (hr : Room 12 (A.deeper (envOfC "_law_edges" (defScope (top 33)) s.heap.objs.size f cdv))) :
    PSsW (cxOf CX0 P w K mg base ["state", "stand", "sets", "numbers", "s", "more", "line", "lots", "n", "found", "days", "row", "told", "lot", "place", "new", "hold"] "_law_edges" (defScope (top 33)) f cdv A outer s H E).nox g (fun _ _ => False) (defBody (top 33)) (t_law_edges sp_law_take sp_law_shuffled sp_law_put) := by
  have hu := hr.units
  have hu1 := hu_of hr
  have nd := sc_law_edges.nd
  exact (s_cons (s_set (i := 4) nd rfl (by first | exact Or.inl rfl | exact Or.inr rfl) (e_own h_law_take htb (hr.mono (by omega)) (a_cons (e_var (i := 0)) (a_cons (e_len T (e_var (i := 2))) a_nil))))
  (s_cons (s_unp (e_ix hu1 (e_var (i := 2)) (e_var (i := 4))) (g_seq rfl (gs_cons (g_name (i := 11) nd rfl (by first | exact Or.inl rfl | exact Or.inr rfl)) (gs_cons (g_name (i := 12) nd rfl (by first | exact Or.inl rfl | exact Or.inr rfl)) gs_nil))))
  (s_cons (s_set (i := 5) nd rfl (by first | exact Or.inl rfl | exact Or.inr rfl) (e_add (f_e (f_lc (own := [("place", 14)]) rfl nd (i_seq (e_ix hu1 (e_var (i := 1)) e_int)) (blkOk_by (by first | decide +kernel | kernel_rfl)) (fun _ _ _ _ _ _ _ => (g_name (i := 14) nd rfl (by first | exact Or.inl rfl | exact Or.inr rfl))) (fun _ _ _ _ _ _ _ => (ts_one (t_eq hu (e_len T (e_var (i := 14))) e_int))) (fun _ _ _ _ _ _ _ => (e_ix hu1 (e_var (i := 14)) e_int)) (only_name (by decide)))) (e_slice (e_var (i := 3)) o_none (o_some e_int))))
  (s_cons (s_for PassesOwn.never rfl (i_seq (e_ix hu1 (e_var (i := 1)) e_int)) (g_name (i := 6) nd rfl (by first | exact Or.inl rfl | exact Or.inr rfl))
  (s_one (s_set (i := 5) nd rfl (by first | exact Or.inl rfl | exact Or.inr rfl) (e_add (e_var (i := 5)) (f_e (f_lc (own := [("hold", 16)]) rfl nd (i_seq (e_var (i := 6))) (blkOk_by (by first | decide +kernel | kernel_rfl)) (fun _ _ _ _ _ _ _ => (g_name (i := 16) nd rfl (by first | exact Or.inl rfl | exact Or.inr rfl))) (fun _ _ _ _ _ _ _ => ts_nil) (fun _ _ _ _ _ _ _ => (e_ix hu1 (e_var (i := 16)) e_int)) (only_name (by decide))))))))
  (s_cons (s_set (i := 7) nd rfl (by first | exact Or.inl rfl | exact Or.inr rfl) (f_e (f_lst (a_cons (e_slice (e_var (i := 11)) o_none (o_some (e_neg e_int))) (a_cons (e_slice (e_var (i := 11)) (o_some e_int) o_none) (a_cons (e_slice (e_var (i := 11)) o_none (o_some e_int)) (a_cons (e_tup a_nil) (a_cons (e_rev (e_var (i := 11))) (a_cons (e_add (e_var (i := 11)) (e_slice (e_var (i := 11)) (o_some (e_neg e_int)) o_none)) (a_cons (e_slice (e_var (i := 11)) o_none (o_some e_int)) (a_cons (e_slice (e_var (i := 11)) (o_some e_int) (o_some e_int)) (a_cons e_non (a_cons e_int (a_cons (e_add (e_var (i := 11)) (e_tup (a_cons e_bl a_nil))) (a_cons (e_add (e_var (i := 11)) (e_tup (a_cons e_non a_nil))) (a_cons (e_tup (a_cons (e_var (i := 11)) a_nil)) a_nil))))))))))))))))
  (s_cons (s_for PassesOwn.never rfl (i_seq (e_slice (e_own h_law_shuffled htb (hr.mono (by omega)) (a_cons (e_var (i := 0)) (a_cons (e_var (i := 5)) a_nil))) o_none (o_some e_int))) (g_name (i := 8) nd rfl (by first | exact Or.inl rfl | exact Or.inr rfl))
  (s_one (s_set (i := 7) nd rfl (by first | exact Or.inl rfl | exact Or.inr rfl) (e_add (e_var (i := 7)) (f_e (f_lst (a_cons (e_tuple T (f_e (f_sorted hu T (e_add (e_slice (e_var (i := 11)) o_none (o_some e_int)) (e_tup (a_cons (e_var (i := 8)) a_nil)))))) (a_cons (e_tuple T (f_e (f_sorted hu T (e_add (e_slice (e_var (i := 11)) o_none (o_some (e_neg e_int))) (e_tup (a_cons (e_var (i := 8)) a_nil)))))) (a_cons (e_tuple T (f_e (f_sorted hu T (e_add (e_var (i := 11)) (e_tup (a_cons (e_var (i := 8)) a_nil)))))) a_nil)))))))))
  (s_cons (s_setLc (i := 9) (own := [("lot", 13)]) rfl nd rfl rfl (sw_true rfl rfl rfl (by decide +kernel)) (i_seq (e_var (i := 7))) (blkOk_by (by first | decide +kernel | kernel_rfl)) (fun _ _ _ _ _ _ _ => (g_name (i := 13) nd rfl (by first | exact Or.inl rfl | exact Or.inr rfl))) (fun _ _ _ _ _ _ _ => ts_nil) (fun _ _ _ _ _ _ _ => (e_own h_law_put htb (hr.mono (by omega)) (a_cons (e_var (i := 2)) (a_cons (e_tup (a_cons (e_var (i := 4)) (a_cons e_int a_nil))) (a_cons (e_var (i := 13)) a_nil))))) (only_name (by decide)))
  (s_cons (s_set (i := 10) nd rfl (by first | exact Or.inl rfl | exact Or.inr rfl) (f_e (f_lst (a_cons (e_sub (e_var (i := 12)) e_int) (a_cons (e_add (e_var (i := 12)) e_int) (a_cons (e_ix hu1 (e_var (i := 1)) e_int) (a_cons (e_add (e_ix hu1 (e_var (i := 1)) e_int) e_int) (a_cons e_int (a_cons e_int (a_cons (e_neg e_int) (a_cons e_bl (a_cons e_non (a_cons (e_toStr T (e_var (i := 12))) a_nil)))))))))))))
  (s_cons (s_set (i := 9) nd rfl (by first | exact Or.inl rfl | exact Or.inr rfl) (e_add (e_var (i := 9)) (f_e (f_lc (own := [("new", 15)]) rfl nd (i_seq (e_var (i := 10))) (blkOk_by (by first | decide +kernel | kernel_rfl)) (fun _ _ _ _ _ _ _ => (g_name (i := 15) nd rfl (by first | exact Or.inl rfl | exact Or.inr rfl))) (fun _ _ _ _ _ _ _ => ts_nil) (fun _ _ _ _ _ _ _ => (e_own h_law_put htb (hr.mono (by omega)) (a_cons (e_var (i := 2)) (a_cons (e_tup (a_cons (e_var (i := 4)) (a_cons e_int a_nil))) (a_cons (e_var (i := 15)) a_nil))))) (only_name (by decide))))))
  (s_cons (s_set (i := 9) nd rfl (by first | exact Or.inl rfl | exact Or.inr rfl) (e_add (e_var (i := 9)) (f_e (f_lc (own := [("new", 15)]) rfl nd (i_seq (e_tup (a_cons (e_tup (a_cons (e_var (i := 11)) a_nil)) (a_cons (e_tup (a_cons (e_var (i := 11)) (a_cons (e_var (i := 12)) (a_cons e_int a_nil)))) (a_cons (e_tup (a_cons (e_var (i := 12)) (a_cons (e_var (i := 11)) a_nil))) (a_cons e_non (a_cons (e_tup a_nil) (a_cons (e_var (i := 11)) a_nil)))))))) (blkOk_by (by first | decide +kernel | kernel_rfl)) (fun _ _ _ _ _ _ _ => (g_name (i := 15) nd rfl (by first | exact Or.inl rfl | exact Or.inr rfl))) (fun _ _ _ _ _ _ _ => ts_nil) (fun _ _ _ _ _ _ _ => (e_own h_law_put htb (hr.mono (by omega)) (a_cons (e_var (i := 2)) (a_cons (e_tup (a_cons (e_var (i := 4)) a_nil)) (a_cons (e_var (i := 15)) a_nil))))) (only_name (by decide))))))
  (s_one (s_ret (e_add (e_var (i := 9)) (f_e (f_lst (a_cons (e_rev (e_var (i := 2))) (a_cons (e_add (e_var (i := 2)) (e_slice (e_var (i := 2)) o_none (o_some e_int))) (a_cons (e_slice (e_var (i := 2)) o_none (o_some e_int)) (a_cons (e_slice (e_var (i := 2)) (o_some e_int) o_none) (a_cons (e_tup a_nil) (a_cons e_non (a_cons e_int (a_cons e_str (a_cons (e_add (e_var (i := 2)) (e_tup (a_cons e_non a_nil))) (a_cons (e_tup (a_cons (e_var (i := 2)) a_nil)) (a_cons (e_ix hu1 (e_var (i := 2)) e_int) (a_cons (e_add (e_var (i := 2)) (e_tup (a_cons (e_tup (a_cons (e_tup a_nil) (a_cons e_int a_nil))) a_nil))) a_nil)))))))))))))))))))))))))))
/-! ### _law_stands -/
theorem sc_law_stands : FnScope ["state", "stand", "sets", "found", "work", "k", "place", "told", "new"] ["state", "stand", "sets"] (defScope (top 34)) := ⟨rfl, rfl, rfl, by decide +kernel, rfl, by decide +kernel, by decide +kernel⟩
def t_law_stands (sp_law_shuffled sp_law_put : OW.Spec) : SW := (sSeq (sSetF 3 (fLst aNil))
  (sSeq (sFor (iRange1 (aCons (eCall cLen (aCons (eOp oIx (eVar 1) (eC (.int 3))) aNil)) aNil)) (gN 4)
  (sFor (iRange1 (aCons (eCall cLen (aCons (eOp oIx (eOp oIx (eVar 1) (eC (.int 3))) (eVar 4)) aNil)) aNil)) (gN 5)
  (sSeq (sSet 7 (eOp oIx (eOp oIx (eOp oIx (eOp oIx (eVar 1) (eC (.int 3))) (eVar 4)) (eVar 5)) (eC (.int 3))))
  (sFor (iOf (eOp oAdd (eF (fLst (aCons (eC .non) aNil))) (eIf (tAnd' (tOf (eOp oNotN (eVar 7) (eC .non))) (tOf (eOp oLtA (eVar 7) (eC (.int 1000000))))) (eF (fLst (aCons (eOp oAdd (eVar 7) (eC (.int 1))) (aCons (eOp oSub (eVar 7) (eC (.int 1))) aNil)))) (eF (fLst aNil))))) (gN 8)
  (sAppend 3 (eFn sp_law_put (aCons (eVar 1) (aCons (eTup (aCons (eC (.int 3)) (aCons (eVar 4) (aCons (eVar 5) (aCons (eC (.int 3)) aNil))))) (aCons (eVar 8) aNil)))))))))
  (sSeq (sFor (iRange1 (aCons (eCall cLen (aCons (eOp oIx (eVar 1) (eC (.int 1))) aNil)) aNil)) (gN 5)
  (sSeq (sSet 6 (eOp oIx (eOp oIx (eVar 1) (eC (.int 1))) (eVar 5)))
  (sIf (tOf (eOp oEq (eOp oIx (eVar 6) (eC (.int 0))) (eC (.str "way"))))
  (sSeq (sAppend 3 (eFn sp_law_put (aCons (eVar 1) (aCons (eTup (aCons (eC (.int 1)) (aCons (eVar 5) (aCons (eC (.int 1)) aNil)))) (aCons (eOp oAdd (eOp oIx (eVar 6) (eC (.int 1))) (eC (.int 7))) aNil)))))
  (sAppend 3 (eFn sp_law_put (aCons (eVar 1) (aCons (eTup (aCons (eC (.int 1)) (aCons (eVar 5) aNil))) (aCons (eOp oAdd (eTup (aCons (eC (.str "lent")) (aCons (eOp oAdd (eOp oIx (eVar 1) (eC (.int 0))) (eC (.int 9))) aNil))) (eSlice (eVar 6) (oSome (eC (.int 2))) oNone)) aNil))))))
  sNil)))
  (sFrz 3 (sRet (eSlice (eFn sp_law_shuffled (aCons (eVar 0) (aCons (eVar 3) aNil))) oNone (oSome (eC (.int 6)))))))))
theorem body_law_stands {sp_law_shuffled sp_law_put : OW.Spec} (T : Blt mg) (h_law_shuffled : Has P w K mg base TB 3 "_law_shuffled" ["state", "some"] sp_law_shuffled) (h_law_put : Has P w K mg base TB 12 "_law_put" ["value", "path", "new"] sp_law_put) (cdv : Value) (A : Around) (outer : List Env) (s : Shared) (H : Hp) (E : XK) (g : G0) {f : Addr} (htb : g.s0.tb = TB) (hr : Room 12 (A.deeper (envOfC "_law_stands" (defScope (top 34)) s.heap.objs.size f cdv))) :
    PSsW (cxOf CX0 P w K mg base ["state", "stand", "sets", "found", "work", "k", "place", "told", "new"] "_law_stands" (defScope (top 34)) f cdv A outer s H E).nox g (fun _ _ => False) (defBody (top 34)) (t_law_stands sp_law_shuffled sp_law_put) := by
  have hu := hr.units
  have hu1 := hu_of hr
  have nd := sc_law_stands.nd
  exact (s_cons (s_setF (i := 3) nd rfl (by first | exact Or.inl rfl | exact Or.inr rfl) (f_lst a_nil))
  (s_cons (s_for PassesOwn.never rfl (i_range1 rfl T.range (a_cons (e_len T (e_ix hu1 (e_var (i := 1)) e_int)) a_nil)) (g_name (i := 4) nd rfl (by first | exact Or.inl rfl | exact Or.inr rfl))
  (s_one (s_for PassesOwn.never rfl (i_range1 rfl T.range (a_cons (e_len T (e_ix hu1 (e_ix hu1 (e_var (i := 1)) e_int) (e_var (i := 4)))) a_nil)) (g_name (i := 5) nd rfl (by first | exact Or.inl rfl | exact Or.inr rfl))
  (s_cons (s_set (i := 7) nd rfl (by first | exact Or.inl rfl | exact Or.inr rfl) (e_ix hu1 (e_ix hu1 (e_ix hu1 (e_ix hu1 (e_var (i := 1)) e_int) (e_var (i := 4))) (e_var (i := 5))) e_int))
  (s_one (s_for PassesOwn.never rfl (i_seq (e_add (f_e (f_lst (a_cons e_non a_nil))) (e_if (t_w (w_and (t_notN (e_var (i := 7)) e_non) (w_and1 (t_ltA hu (e_var (i := 7)) e_int)))) (f_e (f_lst (a_cons (e_add (e_var (i := 7)) e_int) (a_cons (e_sub (e_var (i := 7)) e_int) a_nil)))) (f_e (f_lst a_nil))))) (g_name (i := 8) nd rfl (by first | exact Or.inl rfl | exact Or.inr rfl))
  (s_one (s_append (i := 3) (e_own h_law_put htb (hr.mono (by omega)) (a_cons (e_var (i := 1)) (a_cons (e_tup (a_cons e_int (a_cons (e_var (i := 4)) (a_cons (e_var (i := 5)) (a_cons e_int a_nil))))) (a_cons (e_var (i := 8)) a_nil))))))))))))
  (s_cons (s_for PassesOwn.never rfl (i_range1 rfl T.range (a_cons (e_len T (e_ix hu1 (e_var (i := 1)) e_int)) a_nil)) (g_name (i := 5) nd rfl (by first | exact Or.inl rfl | exact Or.inr rfl))
  (s_cons (s_set (i := 6) nd rfl (by first | exact Or.inl rfl | exact Or.inr rfl) (e_ix hu1 (e_ix hu1 (e_var (i := 1)) e_int) (e_var (i := 5))))
  (s_one (s_if (t_eq hu (e_ix hu1 (e_var (i := 6)) e_int) e_str)
  (s_cons (s_append (i := 3) (e_own h_law_put htb (hr.mono (by omega)) (a_cons (e_var (i := 1)) (a_cons (e_tup (a_cons e_int (a_cons (e_var (i := 5)) (a_cons e_int a_nil)))) (a_cons (e_add (e_ix hu1 (e_var (i := 6)) e_int) e_int) a_nil)))))
  (s_one (s_append (i := 3) (e_own h_law_put htb (hr.mono (by omega)) (a_cons (e_var (i := 1)) (a_cons (e_tup (a_cons e_int (a_cons (e_var (i := 5)) a_nil))) (a_cons (e_add (e_tup (a_cons e_str (a_cons (e_add (e_ix hu1 (e_var (i := 1)) e_int) e_int) a_nil))) (e_slice (e_var (i := 6)) (o_some e_int) o_none)) a_nil)))))))
  s_nil))))
  (s_frz (i := 3) (s_one (s_ret (e_slice (e_own h_law_shuffled htb (hr.mono (by omega)) (a_cons (e_var (i := 0)) (a_cons (e_var (i := 3)) a_nil))) o_none (o_some e_int))))))))
/-! ### _law_told -/
theorem sc_law_told : FnScope ["library", "stand", "value", "by_name", "e"] ["library", "stand", "value", "by_name"] (defScope (top 35)) := ⟨rfl, rfl, rfl, by decide +kernel, rfl, by decide +kernel, by decide +kernel⟩
def t_law_told (spcheck_sets : SpecX) : SW := (sTryRet "wrong" fun Ex => (eTup (aCons (eC (.str "right")) (aCons (eIf (tOf (eVar 3)) (eFnX spcheck_sets Ex (aCons (eVar 0) (aCons (eVar 1) (aCons (eVar 2) aNil)))) (eFnX spcheck_sets Ex (aCons (eVar 0) (aCons (eVar 1) (aCons (eVar 2) aNil))))) aNil))))
theorem body_law_told {spcheck_sets : SpecX} {C : Addr} (T : Blt mg)  (hcheck_sets : HasX P w K mg base TB 6 "check_sets" ["library", "stand", "value"] C "number" spcheck_sets) (hlen : ∀ es Q E, spcheck_sets es Q E → es.length = 3) (hex : PySem.W.exmOne K (.ref C) (.ref C) = some true) (XF : XfC K C) (hno : PySem.W.findIn K (.ref C) "number" = some none) (hmC : mg "BadSets" = some (.ref C)) (cdv : Value) (A : Around) (outer : List Env) (s : Shared) (H : Hp) (E : XK) (g : G0) {f : Addr} (htb : g.s0.tb = TB) (hr : Room 6 (A.deeper (envOfC "_law_told" (defScope (top 35)) s.heap.objs.size f cdv))) :
    PSsW (cxOf CX0 P w K mg base ["library", "stand", "value", "by_name", "e"] "_law_told" (defScope (top 35)) f cdv A outer s H E).nox g (fun _ _ => False) (defBody (top 35)) (t_law_told spcheck_sets) := by
  have hu := hr.units
  have hu1 := hu_of hr
  have nd := sc_law_told.nd
  exact (s_one (s_tryRet (i := 4) rfl rfl nd rfl rfl rfl hmC hex XF hno (fun W pn xe Ex tk hW => (e_tup (a_cons e_str (a_cons (e_if (t_val (e_var (i := 3))) (e_callKX hcheck_sets htb hlen rfl tk hW (hr.mono (by omega)) (k_cons (e_var (i := 0)) (k_cons (e_var (i := 1)) (k_cons (e_var (i := 2)) k_nil)))) (e_callX hcheck_sets htb rfl tk hW (hr.mono (by omega)) (a_cons (e_var (i := 0)) (a_cons (e_var (i := 1)) (a_cons (e_var (i := 2)) a_nil))))) a_nil))))))
end
end K80


namespace OW
open PySem PySem.Spec PyProof.Rows L2
/-! ### the drawing list's own defs, by hand -/
section
variable {X : Cx}
def rGetL : V → V → Hp → VK → Prop := fun o i H Q => ∃ p xs k v, o = .ref p ∧ i = .int k ∧ H p = some (.lst xs) ∧ 0 ≤ k ∧ k < 1000 ∧ xs[k.toNat]? = some v ∧ Q v H
theorem get_list : PGet X rGetL := by
  intro pins s σ H o i ov iv Q I ro ri h
  obtain ⟨p, xs, k, v, rfl, rfl, hp, h0, h1, hv, q⟩ := h
  cases ro
  obtain ⟨t, rfl⟩ := ri
  obtain ⟨its, n, r, ho, hz⟩ := I.lst hp
  obtain ⟨u, hu, ru⟩ := r.get hv
  exact wpAny_getItem_list (items := its.toArray) ⟨_, ho, rfl, n, rfl⟩ h0 (by omega) (by simpa using hu) ⟨v, H, I, ru, q⟩
end
end OW
namespace K80
open PySem PySem.Spec PyProof.Rows L2 OW
section
variable {P : Program} {w : World} {K : PySem.W.Frag} {mg : Str → Option Value} {base : Heap} {TB : List Addr}
/-- _law_mixed: some number -/
def sp_law_mixed : OW.Spec := fun es Q => ∃ a b : Int, es = [.d (.int a), .d (.int b)] ∧ ∀ r : Int, 0 ≤ r → r < 2 ^ 31 → Q (.val (.int r))
theorem sc_law_take : FnScope ["state", "limit", "cells", "cell", "value"] ["state", "limit"] (defScope (top 16)) := ⟨rfl, rfl, rfl, by decide +kernel, rfl, by decide +kernel, by decide +kernel⟩
/-- _law_take: some number below the limit -/
def sp_law_take : OW.Spec := fun es Q => ∃ n : Int, es = [.st, .d (.int n)] ∧ 0 < n ∧ n < 2 ^ 30 ∧ ∀ r : Int, 0 ≤ r → r < n → Q (.val (.int r))
theorem ixS {H : Hp} {p : Addr} {xs : List V} {j : Int} {v : V} {Q : VK} (h : H p = some (.lst xs)) (e : atI xs j = some v) (q : Q v H) : rIx K (.ref p) (.int j) H Q := .inl ⟨p, xs, j, v, rfl, rfl, .inl (.inl h), e, q⟩
/-- the drawing list alone is written -/
theorem only_st {O : List Addr} {s0 : S0} {He H1 : Hp} {sa ca : Addr} {a i m sd k : Int} (st : StIn K O s0 He He) (al : ∀ b ∈ O, He b ≠ none) (es : s0.st = some (sa, ca)) (same : ∀ b, b ≠ sa → H1 b = He b) (ha : 0 ≤ a) (hi : 0 ≤ i) (hs : H1 sa = some (.lst [.int a, .int i, .int m, .int sd, .ref ca, .int k])) :
    StIn K O s0 H1 H1 ∧ (∀ b ∈ O, H1 b ≠ none) ∧ Keep s0 He H1 := by
  have keep : Keep s0 He H1 := fun b o e n => by rw [same b (n.1 sa ca es)]; exact e
  have uniq : ∀ {s c : Addr}, s0.st = some (s, c) → s = sa ∧ c = ca := fun {s c} e => by rw [es] at e; cases e; exact ⟨rfl, rfl⟩
  refine ⟨⟨st.mem, st.memT, st.fre, st.stT, fun s c e => ?_, ⟨fun s c e => ?_, fun P hP => ?_⟩⟩, fun b hb => ?_, keep⟩
  · obtain ⟨rfl, rfl⟩ := uniq e
    obtain ⟨cs, hc⟩ := st.cells s c e
    have e1 := same c ((st.fre s c e).1 s c e)
    refine ⟨cs, ?_⟩
    rcases hc with (hc | ⟨o, hc⟩) | hc
    · exact .inl (.inl (e1.trans hc))
    · exact .inl (.inr ⟨o, e1.trans hc⟩)
    · exact .inr hc
  · obtain ⟨rfl, rfl⟩ := uniq e
    exact ⟨a, i, m, sd, k, ha, hi, hs⟩
  · obtain ⟨ps, h1, h2⟩ := st.cont.2 P hP
    exact ⟨ps, (same P fun z => st.stT sa ca es (by rw [← z]; exact hP)).trans h1, h2⟩
  · by_cases z : b = sa
    · rw [z, hs]; exact fun y => nomatch y
    · rw [same b z]; exact al b hb
/-- the call of _law_mixed while the drawing list stands at s -/
theorem mixed_at {g : G0} {H1 : Hp} {x y : Int} {Q : VK} {E : XK} (htb : g.s0.tb = TB) (al : ∀ b ∈ g.O, H1 b ≠ none) (st : StIn K g.O g.s0 H1 H1) (k : ∀ r : Int, 0 ≤ r → r < 2 ^ 31 → ∀ H', Keep g.s0 H1 H' → StO g.s0 H' → Q (.int r) H') :
    spU K TB sp_law_mixed [.int x, .int y] H1 Q E :=
  ⟨⟨H1, g.O, g.s0⟩, [.d (.int x), .d (.int y)], fun r => ∃ i : Int, r = .val (.int i) ∧ 0 ≤ i ∧ i < 2 ^ 31, rfl, htb, al, st, .cons (.int _) (.cons (.int _) .nil), ⟨x, y, rfl, fun r h0 h1 => ⟨r, rfl, h0, h1⟩⟩, fun r ⟨i, e, h0, h1⟩ v H' kp hs rr => by
    subst e
    cases rr
    exact k i h0 h1 H' kp hs⟩
abbrev rIntW : List V → Hp → VK → Prop := fun xs H Q => (∃ i, xs = [.int i] ∧ Q (.int i) H) ∨ ∃ k, xs = [.bl k] ∧ Q (.int (if k then 1 else 0)) H
abbrev rModW : R2 := rI (fun _ j => 0 < j) fun i j => .int (i % j)
def stI (K : PySem.W.Frag) (j : Int) : TE := tOp (rIx K) (tVar 0) (tC (.int j))
def tMixed (K : PySem.W.Frag) (TB : List Addr) (ta tb : TE) : TE := tCall (spU K TB sp_law_mixed) [] E0 (tCons ta (tCons tb tNil))
def tRest (K : PySem.W.Frag) (TB : List Addr) : TS := tSeq (tIfS (tTest (tOp rEq (stI K 0) (tC (.int 0)))) (tRet (tOp rModW (tCB rIntW (tCons (tMixed K TB (stI K 3) (stI K 2)) tNil)) (tVar 1))) (fun D σ H => D.nx σ H))
  (tSeq (tAsg (tOp rModW (tCB rIntW (tCons (stI K 0) tNil)) (tVar 1)) (gName 4)) (tSeq (tAugS (tVar 0) (tC (.int 5)) (tC (.int 1)) rGetL (ipI fun i j => i - j) rSetL)
  (tSeq (tAsg (tOp (rI CMul fun i j => .int (i * j)) (tOp (rI CDiv fun i j => .int (i / j)) (stI K 0) (tVar 1)) (tCB rIntW (tCons (tOp (rI0 fun i j => .bl (decide (j < i))) (stI K 5) (tC (.int 0))) tNil))) (gSub (tVar 0) (tC (.int 0)) rSetL)) (tRet (tVar 4)))))
theorem take_ok {f : Addr} {fd : FuncData} (F : FunD K "_law_take" "_law_take" (defArgs (top 16)) (defBody (top 16)) (defScope (top 16)) [] [] f fd) (T : Blt mg) (hM : Has P w K mg base TB 1 "_law_mixed" ["number", "k"] sp_law_mixed) : FnOk P w K mg base CX0 2 f fd ["state", "limit"] (spU K TB sp_law_take) := by
  obtain ⟨fM, fdM, FM, hmM, hkM, hbM⟩ := hM.ex
  have nd := sc_law_take.nd
  refine F.ok sc_law_take (fun vs H Q E h => ?_) (fun cdv A outer s H vs Q E hr h => ⟨_, PSs.nox (pss_cons (ps_set (i := 2) nd rfl (Or.inl rfl) (pe_ix ix_seq (pe_var (i := 0) rfl (Or.inl rfl)) pe_int fun _ _ => rfl))
    (pss_cons (ps_augS (pe_var (i := 0) rfl (Or.inl rfl)) pe_int get_list pe_int ip_add set_list)
    (pss_cons (ps_if (PW.pt (pw_and (pt_cmpR op_eq (pe_ix ix_seq (pe_var (i := 0) rfl (Or.inl rfl)) pe_int fun _ _ => rfl) pe_int (nomark _)) (pw_and1 (pt_cmpR op_lt (pe_ix ix_seq (pe_var (i := 0) rfl (Or.inl rfl)) pe_int fun _ _ => rfl) (pe_callB call_len rfl T.len boot_len (pa_cons (pe_var (i := 2) rfl (Or.inl rfl)) pa_nil)) (nomark _)))))
      (pss_cons (ps_set (i := 3) nd rfl (Or.inl rfl) (pe_ix ix_seq (pe_var (i := 2) rfl (Or.inl rfl)) (pe_ix ix_seq (pe_var (i := 0) rfl (Or.inl rfl)) pe_int fun _ _ => rfl) fun _ _ => rfl))
      (pss_cons (ps_augS (pe_var (i := 0) rfl (Or.inl rfl)) pe_int get_list pe_int ip_add set_list)
      (pss_cons (ps_if (pt_cmpR op_lt (pe_callB call_abs rfl T.abs (by decide +kernel) (pa_cons (pe_var (i := 3) rfl (Or.inl rfl)) pa_nil)) (pe_op op_pow pe_int pe_int) (nomark _))
        (pss_one (ps_ret (pe_op op_mod (pe_callTy call_int1 rfl T.int (by decide +kernel) (pa_cons (pe_call FM (hr.mono (by omega)) rfl hmM hkM hbM .nil pass0 (pa_cons (pe_var (i := 3) rfl (Or.inl rfl)) (pa_cons (pe_ix ix_seq (pe_var (i := 0) rfl (Or.inl rfl)) pe_int fun _ _ => rfl) pa_nil))) pa_nil)) (pe_var (i := 1) rfl (Or.inl rfl)))))
        pss_nil)
      (pss_cons (ps_asg (pe_callB call_abs rfl T.abs (by decide +kernel) (pa_cons (pe_var (i := 3) rfl (Or.inl rfl)) pa_nil)) (pg_sub (pe_var (i := 0) rfl (Or.inl rfl)) pe_int set_list))
      (pss_one (ps_asg pe_int (pg_sub (pe_var (i := 0) rfl (Or.inl rfl)) pe_int set_list)))))))
      pss_nil)
    (pss_cons (ps_if (pt_cmpR op_eq (pe_ix ix_seq (pe_var (i := 0) rfl (Or.inl rfl)) pe_int fun _ _ => rfl) pe_int (nomark _))
      (pss_one (ps_ret (pe_op op_mod (pe_callTy call_int1 rfl T.int (by decide +kernel) (pa_cons (pe_call FM (hr.mono (by omega)) rfl hmM hkM hbM .nil pass0 (pa_cons (pe_ix ix_seq (pe_var (i := 0) rfl (Or.inl rfl)) pe_int fun _ _ => rfl) (pa_cons (pe_ix ix_seq (pe_var (i := 0) rfl (Or.inl rfl)) pe_int fun _ _ => rfl) pa_nil))) pa_nil)) (pe_var (i := 1) rfl (Or.inl rfl)))))
      pss_nil)
    (pss_cons (ps_set (i := 4) nd rfl (Or.inl rfl) (pe_op op_mod (pe_callTy call_int1 rfl T.int (by decide +kernel) (pa_cons (pe_ix ix_seq (pe_var (i := 0) rfl (Or.inl rfl)) pe_int fun _ _ => rfl) pa_nil)) (pe_var (i := 1) rfl (Or.inl rfl))))
    (pss_cons (ps_augS (pe_var (i := 0) rfl (Or.inl rfl)) pe_int get_list pe_int ip_sub set_list)
    (pss_cons (ps_asg (pe_op op_mul (pe_op op_fdiv (pe_ix ix_seq (pe_var (i := 0) rfl (Or.inl rfl)) pe_int fun _ _ => rfl) (pe_var (i := 1) rfl (Or.inl rfl))) (pe_callTy call_int1 rfl T.int (by decide +kernel) (pa_cons (pe_cmpR op_gt (pe_ix ix_seq (pe_var (i := 0) rfl (Or.inl rfl)) pe_int fun _ _ => rfl) pe_int (nomark _)) pa_nil))) (pg_sub (pe_var (i := 0) rfl (Or.inl rfl)) pe_int set_list))
    (pss_one (ps_ret (pe_var (i := 4) rfl (Or.inl rfl))))))))))), ?_⟩)
  · obtain ⟨g, es, Q0, _, _, _, _, r, hs, _⟩ := h
    obtain ⟨n, rfl, _⟩ := hs
    rw [← r.length] <;> rfl
  · obtain ⟨g, es, Q0, rfl, htb, al, st, r, ⟨n, rfl, hn0, hn1, hq⟩, kk⟩ := h
    cases r with
    | cons r1 r2 =>
    cases r2 with
    | cons r2 r3 =>
    cases r3
    cases r2
    obtain ⟨sa, ca, es, rfl⟩ := r1
    obtain ⟨a, i, m, sd, k, ha, hi, hs⟩ := st.cont.1 sa ca es
    obtain ⟨cs, hc⟩ := st.cells sa ca es
    have hne : ca ≠ sa := (st.fre sa ca es).1 sa ca es
    refine ⟨_, rfl, ixS hs rfl ?_⟩
    refine ⟨_, rfl, _, _, _, _, rfl, rfl, hs, by decide, by decide, rfl, _, _, rfl, rfl, _, _, _, _, rfl, rfl, hs, rfl, ?_⟩
    have hs1 : upd g.He sa (.lst [.int a, .int i, .int (m + 1), .int sd, .ref ca, .int k]) sa = some (.lst [.int a, .int i, .int (m + 1), .int sd, .ref ca, .int k]) := upd_same
    have sm1 : ∀ b, b ≠ sa → upd g.He sa (.lst [.int a, .int i, .int (m + 1), .int sd, .ref ca, .int k]) b = g.He b := fun b hb => upd_ne hb
    have hc1 : ∀ {H' : Hp}, (∀ b, b ≠ sa → H' b = g.He b) → SqL K H' ca (cs.map V.int) := fun {H'} sm => by
      have e1 := sm ca hne
      rcases hc with (hc | ⟨o, hc⟩) | hc
      · exact .inl (.inl (e1.trans hc))
      · exact .inl (.inr ⟨o, e1.trans hc⟩)
      · exact .inr hc
    -- an answer below the limit
    have fin : ∀ {H' : Hp} {z : Int}, Keep g.s0 g.He H' → StO g.s0 H' → Q (.int (z % n)) H' := fun {H' z} kp so =>
      kk _ (hq _ (Int.emod_nonneg _ (by omega)) (Int.emod_lt_of_pos _ hn0)) _ _ kp so (.int _)
    -- .. by _law_mixed
    have mixed : ∀ {H' : Hp} {a' i' m' sd' k' : Int} {x y : Int} {Qc : VK}, (∀ b, b ≠ sa → H' b = g.He b) → 0 ≤ a' → 0 ≤ i' → H' sa = some (.lst [.int a', .int i', .int m', .int sd', .ref ca, .int k']) → (∀ (z : Int) H2, Keep g.s0 g.He H2 → StO g.s0 H2 → Qc (.int z) H2) → spU K TB sp_law_mixed [.int x, .int y] H' Qc E0 := fun {H' a' i' m' sd' k' x y Qc} sm h1 h2 h3 kq => by
      obtain ⟨st', al', kp'⟩ := only_st st al es sm h1 h2 h3
      exact mixed_at htb al' st' fun r _ _ H2 kp so => kq r H2 (fun b o e nf => kp b o (kp' b o e nf) nf) so
    -- what follows the first if
    have rest : ∀ {σ' : L2.St} {H' : Hp} {a' i' k' : Int}, σ'[0]? = some (some (.ref sa)) → σ'[1]? = some (some (.int n)) → σ'.length = 5 → (∀ b, b ≠ sa → H' b = g.He b) → 0 ≤ a' → 0 ≤ i' → H' sa = some (.lst [.int a', .int i', .int (m + 1), .int sd, .ref ca, .int k']) →
        tRest K TB { nx := fun _ H' => Q .non H', rt := Q } σ' H' := fun {σ' H' a' i' k'} e0 e1 hl sm h1 h2 h3 => by
      refine ⟨_, e0, ixS h3 rfl ⟨rfl, _, rfl, ?_⟩⟩
      generalize decide (V.int a' = V.int 0) = bz
      cases bz with
      | true =>
        simp only [if_true]
        refine ⟨_, e0, ixS h3 rfl ⟨_, e0, ixS h3 rfl ?_⟩⟩
        exact mixed sm h1 h2 h3 fun z H2 kp so => .inl ⟨z, rfl, _, e1, z, n, rfl, rfl, hn0, fin kp so⟩
      | false =>
        simp only [Bool.false_eq_true, if_false]
        refine ⟨_, e0, ixS h3 rfl (.inl ⟨_, rfl, _, e1, _, _, rfl, rfl, hn0, ?_⟩)⟩
        refine ⟨_, (List.getElem?_set_ne (by decide)).trans e0, _, _, _, _, rfl, rfl, h3, by decide, by decide, rfl, _, _, rfl, rfl, _, _, _, _, rfl, rfl, h3, rfl, ?_⟩
        have h4 : upd H' sa (.lst [.int a', .int i', .int (m + 1), .int sd, .ref ca, .int (k' - 1)]) sa = some (.lst [.int a', .int i', .int (m + 1), .int sd, .ref ca, .int (k' - 1)]) := upd_same
        refine ⟨_, (List.getElem?_set_ne (by decide)).trans e0, ixS h4 rfl ⟨_, (List.getElem?_set_ne (by decide)).trans e1, _, _, rfl, rfl, ⟨hn0, by omega⟩, ?_⟩⟩
        refine ⟨_, (List.getElem?_set_ne (by decide)).trans e0, ixS h4 rfl ⟨_, _, rfl, rfl, .inr ⟨_, rfl, ?_⟩⟩⟩
        refine ⟨_, _, rfl, rfl, ?_, ?_⟩
        · right
          constructor <;> (split <;> decide)
        refine ⟨_, (List.getElem?_set_ne (by decide)).trans e0, _, _, _, _, rfl, rfl, h4, rfl, ?_⟩
        refine ⟨_, List.getElem?_set_self (by omega), ?_⟩
        have h5 : 0 ≤ a' / n * (if decide (0 < k' - 1) = true then (1 : Int) else 0) := by
          have := Int.ediv_nonneg h1 (show 0 ≤ n by omega)
          split <;> omega
        obtain ⟨st', al', kp'⟩ := only_st (H1 := upd (upd H' sa (.lst [.int a', .int i', .int (m + 1), .int sd, .ref ca, .int (k' - 1)])) sa (.lst [.int (a' / n * (if decide (0 < k' - 1) = true then (1 : Int) else 0)), .int i', .int (m + 1), .int sd, .ref ca, .int (k' - 1)])) st al es (fun b hb => by rw [upd_ne hb, upd_ne hb]; exact sm b hb) h5 h2 upd_same
        exact fin kp' st'.cont
    refine ⟨_, rfl, ixS hs1 rfl ⟨(rfl : scal (.int a) (.int 0) = true), _, rfl, ?_⟩⟩
    generalize decide (V.int a = V.int 0) = bz
    cases bz with
    | true =>
      simp only [if_true]
      refine ⟨_, rfl, ixS hs1 rfl ⟨_, rfl, ⟨_, _, rfl, .inl ⟨_, hc1 sm1, rfl⟩, ⟨_, _, rfl, rfl, _, rfl, ?_⟩⟩⟩⟩
      rw [List.length_map]
      by_cases hlt : i < (cs.length : Int)
      · rw [decide_eq_true hlt]
        simp only [if_true]
        have hcell : atI (cs.map V.int) i = some (.int (cs[i.toNat]'(by omega))) := by
          unfold atI ixN
          rw [if_pos hi, if_pos (by rw [List.length_map]; exact hlt)]
          show (cs.map V.int)[i.toNat]? = _
          rw [List.getElem?_map, List.getElem?_eq_getElem (by omega)] <;> rfl
        generalize (cs[i.toNat]'(by omega)) = cell at hcell
        refine ⟨_, rfl, ⟨_, rfl, ixS hs1 rfl (.inl ⟨_, _, _, _, rfl, rfl, hc1 sm1, hcell, ?_⟩)⟩⟩
        refine ⟨_, rfl, _, _, _, _, rfl, rfl, hs1, by decide, by decide, rfl, _, _, rfl, rfl, _, _, _, _, rfl, rfl, hs1, rfl, ?_⟩
        have hs2 : upd (upd g.He sa (.lst [.int a, .int i, .int (m + 1), .int sd, .ref ca, .int k])) sa (.lst [.int a, .int (i + 1), .int (m + 1), .int sd, .ref ca, .int k]) sa = some (.lst [.int a, .int (i + 1), .int (m + 1), .int sd, .ref ca, .int k]) := upd_same
        have sm2 : ∀ b, b ≠ sa → upd (upd g.He sa (.lst [.int a, .int i, .int (m + 1), .int sd, .ref ca, .int k])) sa (.lst [.int a, .int (i + 1), .int (m + 1), .int sd, .ref ca, .int k]) b = g.He b := fun b hb => by rw [upd_ne hb]; exact sm1 b hb
        refine ⟨_, rfl, _, rfl, _, _, rfl, rfl, ⟨by decide, by decide, by decide⟩, _, _, rfl, rfl, _, rfl, ?_⟩
        generalize decide ((if cell < 0 then -cell else cell) < 10 ^ (18 : Int).toNat) = bs
        cases bs with
        | true =>
          simp only [if_true]
          refine ⟨_, rfl, ⟨_, rfl, ixS hs2 rfl ?_⟩⟩
          exact mixed sm2 ha (by omega) hs2 fun z H2 kp so => .inl ⟨z, rfl, _, rfl, z, n, rfl, rfl, hn0, fin kp so⟩
        | false =>
          simp only [Bool.false_eq_true, if_false]
          refine ⟨_, rfl, cell, rfl, _, rfl, _, _, _, _, rfl, rfl, hs2, rfl, ?_⟩
          have hs3 : upd (upd (upd g.He sa (.lst [.int a, .int i, .int (m + 1), .int sd, .ref ca, .int k])) sa (.lst [.int a, .int (i + 1), .int (m + 1), .int sd, .ref ca, .int k])) sa (.lst [.int (if cell < 0 then -cell else cell), .int (i + 1), .int (m + 1), .int sd, .ref ca, .int k]) sa = some (.lst [.int (if cell < 0 then -cell else cell), .int (i + 1), .int (m + 1), .int sd, .ref ca, .int k]) := upd_same
          refine ⟨_, rfl, _, _, _, _, rfl, rfl, hs3, rfl, ?_⟩
          exact rest (a' := if cell < 0 then -cell else cell) (i' := i + 1) (k' := 60) rfl rfl rfl (fun b hb => by rw [upd_ne hb, upd_ne hb]; exact sm2 b hb) (by split <;> omega) (by omega) upd_same
      · rw [decide_eq_false hlt]
        simp only [Bool.false_eq_true, if_false]
        exact rest rfl rfl rfl sm1 ha hi hs1
    | false =>
      simp only [Bool.false_eq_true, if_false]
      exact rest rfl rfl rfl sm1 ha hi hs1
/-! ### _law_start -/
theorem sc_law_start : FnScope ["script", "seed", "cell"] ["script"] (defScope (top 15)) := ⟨rfl, rfl, rfl, by decide +kernel, rfl, by decide +kernel, by decide +kernel⟩
/-- the drawing list is made, with its cells -/
def spStart (K : PySem.W.Frag) (TB : List Addr) : Sp := fun vs H Q _ => ∃ (a : Addr) (ns : List Int), vs = [.ref a] ∧ SqL K H a (ns.map V.int) ∧ ns.length < 1000 ∧ (∀ P ∈ TB, GxR.TabG H P) ∧
  ∀ (s c : Addr) (cs : List Int) (sd : Int) (H' : Hp), (∀ P ∈ TB, GxR.TabG H' P) → (∀ P ∈ TB, P ≠ s ∧ P ≠ c) → s ≠ c → H' s = some (.lst [.int 0, .int 0, .int 0, .int sd, .ref c, .int 0]) → H' c = some (.lst (cs.map V.int)) → Q (.ref s) H'
def cutI (ns : List Int) (lo hi : Option Int) : List Int := (ns.drop (HT.sIx ns.length 0 lo)).take (HT.sIx ns.length ns.length hi - HT.sIx ns.length 0 lo)
theorem cutI_ok (ns : List Int) (lo hi : Option Int) : cutV (ns.map V.int) lo hi = (cutI ns lo hi).map V.int := by
  unfold cutV cutI
  rw [List.length_map, List.map_take, List.map_drop]
theorem cutI_le (ns : List Int) (lo hi : Option Int) : (cutI ns lo hi).length ≤ ns.length := by
  unfold cutI
  rw [List.length_take, List.length_drop]
  omega
/-- what is kept while the list is made -/
structure Made0 (K : PySem.W.Frag) (TB : List Addr) (a : Addr) (ns : List Int) (H : Hp) : Prop where
  sq : SqL K H a (ns.map V.int)
  tab : ∀ P ∈ TB, GxR.TabG H P
theorem Made0.new {a p : Addr} {ns : List Int} {H : Hp} {o : HO} (h : Made0 K TB a ns H) (hp : H p = none) : Made0 K TB a ns (upd H p o) ∧ ∀ P ∈ TB, P ≠ p := by
  have np : ∀ b u, H b = some u → b ≠ p := fun b u e => ne_of_none e hp
  refine ⟨⟨?_, fun P hP => ?_⟩, fun P hP => ?_⟩
  · rcases h.sq with (q | ⟨o, q⟩) | q
    · exact .inl (.inl (by rw [upd_ne (np _ _ q)]; exact q))
    · exact .inl (.inr ⟨o, by rw [upd_ne (np _ _ q)]; exact q⟩)
    · exact .inr q
  · obtain ⟨ps, h1, h2⟩ := h.tab P hP
    exact ⟨ps, by rw [upd_ne (np _ _ h1)]; exact h1, h2⟩
  · obtain ⟨ps, h1, h2⟩ := h.tab P hP
    exact np _ _ h1
theorem Made0.keep {a : Addr} {ns : List Int} {H H' : Hp} (h : Made0 K TB a ns H) (k : Keep ⟨none, TB⟩ H H') (so : StO ⟨none, TB⟩ H') : Made0 K TB a ns H' := by
  refine ⟨?_, so.2⟩
  have fr : ∀ u, H a = some u → (∀ ps, u ≠ .tbl ps) → H' a = some u := fun u e nt => k a u e ⟨fun s c z => (nomatch z), fun z => by
    obtain ⟨ps, h1, _⟩ := h.tab a z
    rw [e] at h1
    exact nt ps (Option.some.inj h1)⟩
  rcases h.sq with (q | ⟨o, q⟩) | q
  · exact .inl (.inl (fr _ q fun ps z => by cases z))
  · exact .inl (.inr ⟨o, fr _ q fun ps z => by cases z⟩)
  · exact .inr q
theorem Made0.st {a : Addr} {ns : List Int} {H : Hp} (h : Made0 K TB a ns H) : (∀ b ∈ TB, H b ≠ none) ∧ StIn K TB ⟨none, TB⟩ H H :=
  ⟨fun b hb e => by
    obtain ⟨ps, h1, _⟩ := h.tab b hb
    rw [e] at h1
    exact (nomatch h1), ⟨fun s c z => (nomatch z), fun P hP => hP, fun s c z => (nomatch z), fun s c z => (nomatch z), fun s c z => (nomatch z), ⟨fun s c z => (nomatch z), h.tab⟩⟩⟩
theorem start_ok {f : Addr} {fd : FuncData} (F : FunD K "_law_start" "_law_start" (defArgs (top 15)) (defBody (top 15)) (defScope (top 15)) [] [] f fd) (T : Blt mg) (hM : Has P w K mg base TB 1 "_law_mixed" ["number", "k"] sp_law_mixed) : FnOk P w K mg base CX0 2 f fd ["script"] (spStart K TB) := by
  obtain ⟨fM, fdM, FM, hmM, hkM, hbM⟩ := hM.ex
  have nd := sc_law_start.nd
  refine F.ok sc_law_start (fun vs H Q E h => ?_) (fun cdv A outer s H vs Q E hr h => ⟨_, PSs.nox (pss_cons (ps_set (i := 1) nd rfl (Or.inl rfl) (pe_callB call_len rfl T.len boot_len (pa_cons (pe_var (i := 0) rfl (Or.inl rfl)) pa_nil)))
    (pss_cons (ps_for PassesOwn.never rfl (pi_list (pe_slice sl_list (pe_var (i := 0) rfl (Or.inl rfl)) po_none (po_some pe_int))) (pg_name (i := 2) nd rfl (Or.inl rfl))
      (pss_one (ps_set (i := 1) nd rfl (Or.inl rfl) (pe_call FM (hr.mono (by omega)) rfl hmM hkM hbM .nil pass0 (pa_cons (pe_op op_add (pe_var (i := 1) rfl (Or.inl rfl)) (pe_var (i := 2) rfl (Or.inl rfl))) (pa_cons pe_int pa_nil))))))
    (pss_one (ps_ret (pe_lst (pa_cons pe_int (pa_cons pe_int (pa_cons pe_int (pa_cons (pe_var (i := 1) rfl (Or.inl rfl)) (pa_cons (pe_callTy call_list_of rfl T.list (by decide +kernel) (pa_cons (pe_slice sl_list (pe_var (i := 0) rfl (Or.inl rfl)) po_none (po_some pe_int)) pa_nil)) (pa_cons pe_int pa_nil))))))))))), ?_⟩)
  · obtain ⟨a, ns, rfl, _⟩ := h
    rfl
  · obtain ⟨a, ns, rfl, hs, hl, hT, kk⟩ := h
    refine ⟨_, rfl, _, _, rfl, .inl ⟨_, hs, rfl⟩, ?_⟩
    have M0 : Made0 K TB a ns H := ⟨hs, hT⟩
    refine ⟨_, rfl, 63, rfl, a, _, rfl, hs, fun p hp => ?_⟩
    rw [cutI_ok]
    obtain ⟨M1, np⟩ := M0.new (o := .lst ((cutI ns none (some 63)).map V.int)) hp
    have e1 : upd H p (.lst ((cutI ns none (some 63)).map V.int)) p = some (.lst ((cutI ns none (some 63)).map V.int)) := upd_same
    generalize upd H p (.lst ((cutI ns none (some 63)).map V.int)) = H1 at M1 e1
    generalize cutI ns none (some 63) = cs at e1
    refine ⟨p, rfl, ⟨_, .inl (.inl e1)⟩, fun i m σ H' => m = cs.length - i ∧ i ≤ cs.length ∧ σ[0]? = some (some (.ref a)) ∧ σ.length = 3 ∧ (∃ sd : Int, σ[1]? = some (some (.int sd))) ∧ Made0 K TB a ns H' ∧ H' p = some (.lst (cs.map V.int)), ⟨cs.length, by simp, Nat.zero_le _, rfl, rfl, ⟨_, rfl⟩, M1, e1⟩, ?_⟩
    rintro i m σ H2 ⟨rfl, hi, s0, sl, ⟨sd, s1⟩, M2, e2⟩
    have hq2 : SqL K H2 p (cs.map V.int) := .inl (.inl e2)
    by_cases hlt : i < cs.length
    · refine .inr ⟨⟨_, .int cs[i], hq2, by rw [List.getElem?_map, List.getElem?_eq_getElem hlt] <;> rfl⟩, fun σ' H' => σ'[0]? = some (some (.ref a)) ∧ σ'.length = 3 ∧ (∃ sd : Int, σ'[1]? = some (some (.int sd))) ∧ Made0 K TB a ns H' ∧ H' p = some (.lst (cs.map V.int)), fun σ' H' ⟨q0, q1, q2, q3, q4⟩ => ⟨_, by omega, rfl, hlt, q0, q1, q2, q3, q4⟩, fun x H3 ⟨eH, y⟩ => ?_⟩
      subst eH
      have ex := y _ hq2
      rw [List.getElem?_map, List.getElem?_eq_getElem hlt] at ex
      have ex : x = V.int cs[i] := (Option.some.inj ex).symm
      subst ex
      show tAsg _ _ _ (σ.set 2 (some (V.int cs[i]))) H3
      obtain ⟨al, st⟩ := M2.st
      refine ⟨_, (List.getElem?_set_ne (by decide)).trans s1, _, List.getElem?_set_self (by omega), _, _, rfl, rfl, ?_⟩
      show spU K TB sp_law_mixed [.int (sd + cs[i]), .int 5] H3 _ E0
      refine mixed_at (g := ⟨H3, TB, ⟨none, TB⟩⟩) rfl al st fun r _ _ H4 kp so => ?_
      refine ⟨?_, ?_, ⟨r, ?_⟩, M2.keep kp so, kp _ _ e2 ⟨fun s c z => (nomatch z), fun z => np p z rfl⟩⟩
      · rw [List.getElem?_set_ne (by decide), List.getElem?_set_ne (by decide)]; exact s0
      · rw [List.length_set, List.length_set]; exact sl
      · rw [List.getElem?_set_self (by rw [List.length_set]; omega)]
    · refine .inl ⟨⟨_, hq2, by rw [List.length_map]; omega⟩, ?_⟩
      refine ⟨_, s1, _, s0, 63, rfl, a, _, rfl, M2.sq, fun p2 hp2 => ?_⟩
      rw [cutI_ok]
      obtain ⟨M3, np3⟩ := M2.new (o := .lst ((cutI ns none (some 63)).map V.int)) hp2
      refine ⟨p2, _, rfl, .inl (.inl (.inl upd_same)), fun l hl4 => ?_⟩
      obtain ⟨M4, np4⟩ := M3.new (o := .lst ((cutI ns none (some 63)).map V.int)) hl4
      refine ⟨by rw [sizeLine_eq]; exact (by decide : (6:Nat) ≤ 16777216), fun s5 hs5 => ?_⟩
      obtain ⟨M5, np5⟩ := M4.new (o := .lst [.int 0, .int 0, .int 0, .int sd, .ref l, .int 0]) hs5
      have n45 : l ≠ s5 := fun z => by rw [← z, upd_same] at hs5; cases hs5
      exact kk s5 l _ sd _ M5.tab (fun P hP => ⟨np5 P hP, np4 P hP⟩) (Ne.symm n45) upd_same (by rw [upd_ne n45, upd_same])
end
end K80


namespace OW
open PySem PySem.Spec PyProof.Rows L2
/-! ### the trees of conditions, step by step (for simp) -/
section
variable {E0 : En} {w : W} {Q : E → W → Prop} {Qb : Bool → W → Prop} {Qa : List E → W → Prop} {Qn : List D → W → Prop} {Qw : W → Prop} {Qo : Option Int → W → Prop}
@[simp] theorem q_seq {t u : SW} : sSeq t u E0 w = t { E0 with nx := u E0 } w := rfl
@[simp] theorem q_nil : sNil E0 w = E0.nx w := rfl
@[simp] theorem q_pass : sPass E0 w = E0.nx w := rfl
@[simp] theorem q_break : sBreak E0 w = E0.bk w := rfl
@[simp] theorem q_cont : sCont E0 w = E0.ct w := rfl
@[simp] theorem q_retN : sRetN E0 w = E0.rt (.val .non) := rfl
@[simp] theorem q_ret {te : TW} : sRet te E0 w = te w fun x _ => match x with
  | .d d => E0.rt (.val d)
  | _ => False := rfl
@[simp] theorem q_retF {te : TWn} : sRetF te E0 w = te w fun xs _ => E0.rt (.new xs) := rfl
@[simp] theorem q_retO {i : Nat} : sRetO i E0 w = match w[i]? with
  | some (.own xs) => E0.rt (.new xs)
  | _ => False := rfl
@[simp] theorem q_if {c : TWt} {t u : SW} : sIf c t u E0 w = c w fun b w1 => if b = true then t E0 w1 else u E0 w1 := rfl
@[simp] theorem q_expr {te : TW} : sExpr te E0 w = te w fun _ w1 => E0.nx w1 := rfl
@[simp] theorem q_const {d : D} : eC d w Q = Q (.d d) w := rfl
@[simp] theorem q_op {o : E → E → W → (E → W → Prop) → Prop} {ta tb : TW} : eOp o ta tb w Q = ta w fun x w1 => tb w1 fun y w2 => o x y w2 Q := rfl
@[simp] theorem q_call {o : List E → W → (E → W → Prop) → Prop} {ta : TWa} : eCall o ta w Q = ta w fun xs w1 => o xs w1 Q := rfl
@[simp] theorem q_and {t u : TWt} : tAnd' t u w Qb = t w fun c w1 => if c = true then u w1 Qb else Qb false w1 := rfl
@[simp] theorem q_or {t u : TWt} : tOr' t u w Qb = t w fun c w1 => if c = true then Qb true w1 else u w1 Qb := rfl
@[simp] theorem q_not {t : TWt} : tNot' t w Qb = t w fun c w1 => Qb (!c) w1 := rfl
@[simp] theorem q_yes : tYesW w Qb = Qb true w := rfl
@[simp] theorem q_eif {c : TWt} {ta tb : TW} : eIf c ta tb w Q = c w fun b w1 => if b = true then ta w1 Q else tb w1 Q := rfl
@[simp] theorem q_anil : aNil w Qa = Qa [] w := rfl
@[simp] theorem q_acons {ta : TW} {tr : TWa} : aCons ta tr w Qa = ta w fun x w1 => tr w1 fun xs w2 => Qa (x :: xs) w2 := rfl
@[simp] theorem q_eF {t : TWn} : eF t w Q = t w fun xs w1 => Q (.d (.lst xs)) w1 := rfl
@[simp] theorem q_fcall {o : List E → W → (List D → W → Prop) → Prop} {ta : TWa} : fCall o ta w Qn = ta w fun xs w1 => o xs w1 Qn := rfl
@[simp] theorem q_onone : oNone w Qo = Qo none w := rfl
end
section
variable {E0 : En} {w : W} {Q : E → W → Prop} {Qb : Bool → W → Prop} {Qa : List E → W → Prop} {Qn : List D → W → Prop} {Qw : W → Prop} {Qo : Option Int → W → Prop} {xs ys : List D} {i j : Int} {b c : Bool} {s t : Str} {d : D} {ds : List (Key × D)} {k : Nat}
@[simp] theorem q_set {i : Nat} {te : TW} : sSet i te E0 w = te w fun x w1 => match x with
  | .d d => E0.nx (w1.set i (.v d))
  | _ => False := rfl
@[simp] theorem q_setF {i : Nat} {te : TWn} : sSetF i te E0 w = (i < w.length ∧ te w fun xs w1 => i < w1.length ∧ E0.nx (w1.set i (.own xs))) := rfl
@[simp] theorem q_newD {i : Nat} : sNewD i E0 w = (i < w.length ∧ E0.nx (w.set i (.ownD []))) := rfl
@[simp] theorem q_tOf {ta : TW} : tOf ta w Qb = ta w fun x w1 => match x with
  | .d (.bl b) => Qb b w1
  | _ => False := rfl
@[simp] theorem q_eNot {ta : TW} : eNot ta w Q = ta w fun x w1 => match x with
  | .d (.bl b) => Q (.d (.bl (!b))) w1
  | _ => False := rfl
theorem andE {b : Bool} {A B : Prop} : ((match (E.d (.bl b)) with | .d (.bl true) => A | .d (.bl false) => B | _ => False) : Prop) = (if b = true then A else B) := by cases b <;> rfl
@[simp] theorem q_eAnd {ta tb : TW} : eAnd ta tb w Q = ta w fun x w1 => match x with
  | .d (.bl b) => if b = true then tb w1 Q else Q (.d (.bl false)) w1
  | _ => False := by
  unfold eAnd
  congr 1
  funext x w1
  split
  · rfl
  · rfl
  · rename_i h1 h2
    split
    · rename_i b
      cases b
      · exact absurd rfl h2
      · exact absurd rfl h1
    · rfl
@[simp] theorem q_eOr {ta tb : TW} : eOr ta tb w Q = ta w fun x w1 => match x with
  | .d (.bl b) => if b = true then Q (.d (.bl true)) w1 else tb w1 Q
  | _ => False := by
  unfold eOr
  congr 1
  funext x w1
  split
  · rfl
  · rfl
  · rename_i h1 h2
    split
    · rename_i b
      cases b
      · exact absurd rfl h2
      · exact absurd rfl h1
    · rfl
@[simp] theorem q_neg {ta : TW} : eNeg ta w Q = ta w fun x w1 => match x with
  | .d (.int i) => Q (.d (.int (-i))) w1
  | _ => False := rfl
@[simp] theorem q_chain {o o' : E → E → W → (E → W → Prop) → Prop} {ta tb tc : TW} : eChain o o' ta tb tc w Q = ta w fun x w1 => tb w1 fun y w2 => o x y w2 fun z w3 => match z with
  | .d (.bl b) => if b = true then tc w3 fun u w4 => o' y u w4 Q else Q (.d (.bl false)) w3
  | _ => False := by
  unfold eChain
  congr 1
  funext x w1
  congr 1
  funext y w2
  congr 1
  funext z w3
  split
  · rfl
  · rfl
  · rename_i h1 h2
    split
    · rename_i b
      cases b
      · exact absurd rfl h2
      · exact absurd rfl h1
    · rfl
@[simp] theorem q_int1 : cInt [.d (.int i)] w Q = Q (.d (.int i)) w := rfl
@[simp] theorem q_int2 : cInt [.d (.bl b)] w Q = Q (.d (.int (if b = true then 1 else 0))) w := rfl
@[simp] theorem q_lenT : cLen [.d (.tup xs)] w Q = Q (.d (.int xs.length)) w := rfl
@[simp] theorem q_lenL : cLen [.d (.lst xs)] w Q = Q (.d (.int xs.length)) w := rfl
@[simp] theorem q_lenD : cLen [.d (.dic ds)] w Q = Q (.d (.int ds.length)) w := rfl
@[simp] theorem q_dats0 : dats [] = some [] := rfl
@[simp] theorem q_dats1 {es : List E} : dats (.d d :: es) = (dats es).map (d :: ·) := by rw [dats]
@[simp] theorem q_itS1 : itS w (.d (.tup xs)) = some xs := rfl
@[simp] theorem q_itS2 : itS w (.d (.lst xs)) = some xs := rfl
@[simp] theorem q_itL2 : itL w (.d (.lst xs)) = some xs := rfl
@[simp] theorem q_tup {ta : TWa} : eTup ta w Q = ta w fun xs w1 => match dats xs with
    | some ds => ds.length ≤ sizeLine ∧ Q (.d (.tup ds)) w1
    | none => False := rfl
@[simp] theorem q_fLst {ta : TWa} : fLst ta w Qn = ta w fun xs w1 => match dats xs with
    | some ds => ds.length ≤ sizeLine ∧ Qn ds w1
    | none => False := rfl
@[simp] theorem q_add1 : oAdd (.d (.int i)) (.d (.int j)) w Q = Q (.d (.int (i + j))) w := rfl
@[simp] theorem q_add2 : oAdd (.d (.str s)) (.d (.str t)) w Q = (s.length + t.length ≤ sizeLine ∧ Q (.d (.str (s ++ t))) w) := rfl
@[simp] theorem q_add3 : oAdd (.d (.tup xs)) (.d (.tup ys)) w Q = (xs.length + ys.length ≤ sizeLine ∧ Q (.d (.tup (xs ++ ys))) w) := rfl
@[simp] theorem q_add4 : oAdd (.d (.lst xs)) (.d (.lst ys)) w Q = (xs.length + ys.length ≤ sizeLine ∧ Q (.d (.lst (xs ++ ys))) w) := rfl
@[simp] theorem q_oInt {C : Int → Int → Prop} {f : Int → Int → D} : oInt C f (.d (.int i)) (.d (.int j)) w Q = (C i j ∧ Q (.d (f i j)) w) := rfl
@[simp] theorem q_oInt0 {f : Int → Int → D} : oInt0 f (.d (.int i)) (.d (.int j)) w Q = Q (.d (f i j)) w := rfl
@[simp] theorem q_ltA : oLtA (.d (.int i)) (.d (.int j)) w Q = Q (.d (.bl (decide (i < j)))) w := rfl
@[simp] theorem q_isN : oIsN (.d d) (.d .non) w Q = Q (.d (.bl (isNonD d))) w := rfl
@[simp] theorem q_notN : oNotN (.d d) (.d .non) w Q = Q (.d (.bl (!isNonD d))) w := rfl
@[simp] theorem q_eq1 : oEq (.d (.int i)) (.d (.int j)) w Q = Q (.d (.bl (decide (i = j)))) w := rfl
@[simp] theorem q_eq2 : oEq (.d (.str s)) (.d (.str t)) w Q = Q (.d (.bl (decide (s = t)))) w := rfl
@[simp] theorem q_eq3 : oEq (.d (.bl b)) (.d (.bl c)) w Q = Q (.d (.bl (decide (b = c)))) w := rfl
@[simp] theorem q_eq4 : oEq (.d .non) (.d .non) w Q = Q (.d (.bl true)) w := rfl
@[simp] theorem q_eq5 : oEq (.d .non) (.d (.int i)) w Q = Q (.d (.bl false)) w := rfl
@[simp] theorem q_eq6 : oEq (.d (.int i)) (.d .non) w Q = Q (.d (.bl false)) w := rfl
@[simp] theorem q_ne1 : oNe (.d (.int i)) (.d (.int j)) w Q = Q (.d (.bl (!decide (i = j)))) w := rfl
@[simp] theorem q_ne2 : oNe (.d (.str s)) (.d (.str t)) w Q = Q (.d (.bl (!decide (s = t)))) w := rfl
@[simp] theorem q_ne3 : oNe (.d (.bl b)) (.d (.bl c)) w Q = Q (.d (.bl (!decide (b = c)))) w := rfl
@[simp] theorem q_ne4 : oNe (.d .non) (.d .non) w Q = Q (.d (.bl false)) w := rfl
@[simp] theorem q_ne5 : oNe (.d .non) (.d (.int i)) w Q = Q (.d (.bl true)) w := rfl
@[simp] theorem q_ne6 : oNe (.d (.int i)) (.d .non) w Q = Q (.d (.bl true)) w := rfl
@[simp] theorem q_ixT : oIx (.d (.tup xs)) (.d (.int i)) w Q = match atI xs i with
  | some d => Q (.d d) w
  | none => False := rfl
@[simp] theorem q_ixL : oIx (.d (.lst xs)) (.d (.int i)) w Q = match atI xs i with
  | some d => Q (.d d) w
  | none => False := rfl
@[simp] theorem q_ixD : oIx (.d (.dic ds)) (.d (.int i)) w Q = match dlook ds (.inl i) with
  | some d => Q (.d d) w
  | none => False := rfl
@[simp] theorem q_inD {neg : Bool} : oIn neg (.d (.int i)) (.d (.dic ds)) w Q = Q (.d (.bl (if neg then !(dlook ds (.inl i)).isSome else (dlook ds (.inl i)).isSome))) w := rfl
@[simp] theorem q_inT {neg : Bool} : oIn neg (.d d) (.d (.tup xs)) w Q = (flatD d = true ∧ xs.all flatD = true ∧ Q (.d (.bl (if neg then !xs.any (fun y => feq y d) else xs.any (fun y => feq y d)))) w) := rfl
@[simp] theorem q_inL {neg : Bool} : oIn neg (.d d) (.d (.lst xs)) w Q = (flatD d = true ∧ xs.all flatD = true ∧ Q (.d (.bl (if neg then !xs.any (fun y => feq y d) else xs.any (fun y => feq y d)))) w) := rfl
theorem atN {α : Type} {xs : List α} {k : Nat} : atI xs (k : Int) = xs[k]? := by
  unfold atI ixN
  rw [if_pos (by omega)]
  split
  · simp
  · rename_i h
    have : xs.length ≤ k := by omega
    simp [List.getElem?_eq_none this]
@[simp] theorem atI_0 {α : Type} {xs : List α} : atI xs 0 = xs[0]? := atN (k := 0)
@[simp] theorem atI_1 {α : Type} {xs : List α} : atI xs 1 = xs[1]? := atN (k := 1)
@[simp] theorem atI_2 {α : Type} {xs : List α} : atI xs 2 = xs[2]? := atN (k := 2)
@[simp] theorem atI_3 {α : Type} {xs : List α} : atI xs 3 = xs[3]? := atN (k := 3)
@[simp] theorem atI_4 {α : Type} {xs : List α} : atI xs 4 = xs[4]? := atN (k := 4)
@[simp] theorem q_osome {te : TW} : oSome te w Qo = te w fun x w1 => match x with
  | .d (.int i) => Qo (some i) w1
  | _ => False := rfl
@[simp] theorem q_slice {te : TW} {tl th : TWo} : eSlice te tl th w Q = te w fun x w1 => tl w1 fun lo w2 => th w2 fun hi w3 => match x with
  | .d (.tup xs) => Q (.d (.tup (cutD xs lo hi))) w3
  | .d (.str s) => s.length ≤ sizeLine ∧ Q (.d (.str (cutS s lo hi))) w3
  | x => (match itL w3 x with
    | some xs => Q (.d (.lst (cutD xs lo hi))) w3
    | none => False) := rfl
@[simp] theorem q_unp {te : TW} {gt : TGw} : sUnp te gt E0 w = te w fun x w1 => match x with
  | .d d => gt d w1 E0.nx
  | _ => False := rfl
@[simp] theorem q_gSeqT {n : Nat} {t : List D → W → (W → Prop) → Prop} : gSeqW n t (.tup xs) w Qw = (xs.length = n ∧ t xs w Qw) := rfl
@[simp] theorem q_gSeqL {n : Nat} {t : List D → W → (W → Prop) → Prop} : gSeqW n t (.lst xs) w Qw = (xs.length = n ∧ t xs w Qw) := rfl
@[simp] theorem q_gsNil : gsNil [] w Qw = Qw w := rfl
@[simp] theorem q_gsCons {t : TGw} {u : List D → W → (W → Prop) → Prop} : gsCons t u (d :: xs) w Qw = t d w fun w1 => u xs w1 Qw := rfl
@[simp] theorem q_iOf {te : TW} : iOf te w Qn = te w fun e w1 => match e with
  | .d (.lst xs) => Qn xs w1
  | .d (.tup xs) => Qn xs w1
  | _ => False := rfl
@[simp] theorem q_rg1 {ta : TWa} : iRange1 ta w Qn = ta w fun xs w1 => match xs with
  | [.d (.int j)] => -(2 ^ 62) ≤ j ∧ j < 2 ^ 62 ∧ Qn (rangeD 0 j.toNat) w1
  | _ => False := rfl
@[simp] theorem q_rg2 {ta : TWa} : iRange2 ta w Qn = ta w fun xs w1 => match xs with
  | [.d (.int i), .d (.int j)] => (-(2 ^ 62) ≤ i ∧ i < 2 ^ 62 ∧ -(2 ^ 62) ≤ j ∧ j < 2 ^ 62) ∧ Qn (rangeD i (j - i).toNat) w1
  | _ => False := rfl
@[simp] theorem q_for {ti : TIw} {gt : TGw} {body : SW} : sFor ti gt body E0 w = ti w fun xs w1 => forW gt body xs E0 w1 := rfl
@[simp] theorem q_for0 {gt : TGw} {body : SW} : forW gt body [] E0 w = E0.nx w := rfl
@[simp] theorem q_rg0 {lo : Int} : rangeD lo 0 = [] := rfl
theorem rangeD_succ {lo : Int} {n : Nat} : rangeD lo (n + 1) = .int lo :: rangeD (lo + 1) n := by
  unfold rangeD
  rw [List.range_succ_eq_map, List.map_cons, List.map_map]
  congr 1
  · simp
  · apply List.map_congr_left
    intro a _
    simp
    omega
@[simp] theorem q_fn {spec : Spec} {ta : TWa} : eFn spec ta w Q = ta w fun xs w1 => okArgs xs ∧ spec xs fun r => match r with
  | .val d => Q (.d d) w1
  | .new ys => Q (.d (.lst ys)) w1 := rfl
@[simp] theorem q_fFn {spec : Spec} {ta : TWa} : fFn spec ta w Qn = ta w fun xs w1 => okArgs xs ∧ spec xs fun r => match r with
  | .val _ => False
  | .new ys => Qn ys w1 := rfl
@[simp] theorem q_ok0 : okArgs [] = True := rfl
@[simp] theorem q_ok1 {es : List E} : okArgs (.d d :: es) = okArgs es := rfl
@[simp] theorem q_ok2 {es : List E} : okArgs (.st :: es) = okArgs es := rfl
@[simp] theorem q_lc {ti : TIw} {gt : TGw} {tt : TWt} {te : TW} {vs : List Nat} : fLc ti gt tt te vs w Qn = ti w fun xs w1 => okWipe w1 vs ∧ lcW gt tt te (wipeW w1 vs) xs [] fun ys => Qn ys w1 := rfl
@[simp] theorem q_any {ti : TIw} {gt : TGw} {te : TW} {vs : List Nat} {stop : Bool} : eAny stop ti gt te vs w Q = ti w fun xs w1 => okWipe w1 vs ∧ anyW stop gt te (wipeW w1 vs) xs fun b => Q (.d (.bl b)) w1 := rfl
@[simp] theorem q_isiI {ta : TW} : eIsi "int" ta w Q = ta w fun x w1 => match x with
  | .d x => Q (.d (.bl (isTy "int" x))) w1
  | _ => False := by
  unfold eIsi
  congr 1
  funext x w1
  cases x with
  | d x => cases x <;> exact propext ⟨fun h => h.2, fun h => ⟨rfl, h⟩⟩
  | _ => rfl
@[simp] theorem q_isiB {ta : TW} : eIsi "bool" ta w Q = ta w fun x w1 => match x with
  | .d x => Q (.d (.bl (isTy "bool" x))) w1
  | _ => False := by
  unfold eIsi
  congr 1
  funext x w1
  cases x with
  | d x => cases x <;> exact propext ⟨fun h => h.2, fun h => ⟨rfl, h⟩⟩
  | _ => rfl
@[simp] theorem q_isiS {ta : TW} : eIsi "str" ta w Q = ta w fun x w1 => match x with
  | .d x => Q (.d (.bl (isTy "str" x))) w1
  | _ => False := by
  unfold eIsi
  congr 1
  funext x w1
  cases x with
  | d x => cases x <;> exact propext ⟨fun h => h.2, fun h => ⟨rfl, h⟩⟩
  | _ => rfl
@[simp] theorem q_isiT {ta : TW} : eIsi "tuple" ta w Q = ta w fun x w1 => match x with
  | .d x => Q (.d (.bl (isTy "tuple" x))) w1
  | _ => False := by
  unfold eIsi
  congr 1
  funext x w1
  cases x with
  | d x => cases x <;> exact propext ⟨fun h => h.2, fun h => ⟨rfl, h⟩⟩
  | _ => rfl
def isIntD : D → Bool | .int _ => true | _ => false
def isBlD : D → Bool | .bl _ => true | _ => false
def isStrD : D → Bool | .str _ => true | _ => false
def isTupD : D → Bool | .tup _ => true | _ => false
@[simp] theorem ty_int : isTy "int" d = (isIntD d || isBlD d) := by cases d <;> rfl
@[simp] theorem ty_bl : isTy "bool" d = isBlD d := by cases d <;> rfl
@[simp] theorem ty_str : isTy "str" d = isStrD d := by cases d <;> rfl
@[simp] theorem ty_tup : isTy "tuple" d = isTupD d := by cases d <;> rfl
@[simp] theorem sz : sizeLine = 16777216 := sizeLine_eq
end
section
variable {w : W} {Q : E → W → Prop} {Qw : W → Prop} {l : L} {k : Nat}
theorem q_var {i : Nat} : eVar i w Q = match w[i]? with
  | some (.v d) => Q (.d d) w
  | some (.own _) => Q (.bor i) w
  | some (.ownD _) => Q (.bor i) w
  | some (.ownL _ _) => Q (.bor i) w
  | some .st => Q .st w
  | _ => False := rfl
theorem q_gN {i : Nat} {d : D} : gN i d w Qw = match w[i]? with
  | some .un => Qw (w.set i (.v d))
  | some (.v _) => Qw (w.set i (.v d))
  | _ => False := rfl
end

/-! ### loops -/
def pl : L → Bool
  | .un => true
  | .v _ => true
  | _ => false
@[simp] theorem pl1 : pl .un = true := rfl
@[simp] theorem pl2 {d : D} : pl (.v d) = true := rfl
theorem q_gP {w : W} {Qw : W → Prop} {i : Nat} {d : D} {l : L} (h : w[i]? = some l) (p : pl l = true) : gN i d w Qw = Qw (w.set i (.v d)) := by
  rw [q_gN, h]
  cases l <;> first | rfl | (simp [pl] at p)
theorem q_gM {w : W} {Qw : W → Prop} {i : Nat} {d : D} : gN i d w Qw = match w[i]? with
  | some l => if pl l = true then Qw (w.set i (.v d)) else False
  | none => False := by
  rw [q_gN]
  cases w[i]? with
  | none => rfl
  | some l => cases l <;> simp [pl]
theorem forW_ind {gt : TGw} {body : SW} {E0 : En} {w : W} {xs : List D} (I : Nat → W → Prop) (h0 : I 0 w)
    (step : ∀ k w x, xs[k]? = some x → I k w → ∀ N : W → Prop, (∀ w', I (k + 1) w' → N w') → gt x w fun w1 => body { E0 with nx := N, ct := N, bk := E0.nx } w1)
    (fin : ∀ w, I xs.length w → E0.nx w) : forW gt body xs E0 w := by
  have go : ∀ (r : List D) (k : Nat) (w : W), xs.drop k = r → k ≤ xs.length → I k w → forW gt body r E0 w := by
    intro r
    induction r with
    | nil =>
      intro k w e hk hI
      have : xs.length ≤ k := by
        have := congrArg List.length e
        simp at this
        omega
      have : k = xs.length := by omega
      subst this
      exact fin _ hI
    | cons x r ih =>
      intro k w e hk hI
      unfold forW
      have hx : xs[k]? = some x := by
        have := congrArg (fun l => l[0]?) e
        simpa using this
      have hk2 : k < xs.length := (List.getElem?_eq_some_iff.mp hx).1
      refine step k w x hx hI _ fun w' hI' => ih (k + 1) w' ?_ hk2 hI'
      rw [← List.drop_drop, e]
      rfl
  exact go xs 0 w rfl (Nat.zero_le _) h0
theorem rg_get {lo : Int} {n k : Nat} {x : D} (h : (rangeD lo n)[k]? = some x) : x = .int (lo + k) ∧ k < n := by
  unfold rangeD at h
  rw [List.getElem?_map] at h
  by_cases hk : k < n
  · rw [List.getElem?_range hk] at h
    exact ⟨(Option.some.inj h).symm, hk⟩
  · rw [List.getElem?_eq_none (by simpa using hk)] at h
    cases h
@[simp] theorem rg_len {lo : Int} {n : Nat} : (rangeD lo n).length = n := by simp [rangeD]
theorem anyW_ok {stop : Bool} {gt : TGw} {te : TW} {w : W} (p : D → Bool) : ∀ {xs : List D} {Q : Bool → Prop}, (∀ x ∈ xs, ∀ N : Bool → Prop, N (p x) → gt x w fun w1 => te w1 fun e w2 => w2 = w1 ∧ match e with
      | .d (.bl b) => N b
      | _ => False) → Q (if stop = true then xs.any p else xs.all p) → anyW stop gt te w xs Q
  | [], Q, _, q => by
    unfold anyW
    cases stop <;> exact q
  | x :: r, Q, h, q => by
    unfold anyW
    refine h x (List.mem_cons_self ..) (fun b => if b = stop then Q stop else anyW stop gt te w r Q) ?_
    show if p x = stop then Q stop else anyW stop gt te w r Q
    split
    · rename_i e
      cases stop <;> simpa [e] using q
    · rename_i e
      refine anyW_ok p (fun y hy => h y (List.mem_cons_of_mem _ hy)) ?_
      cases stop <;> simp at e <;> simpa [e] using q
inductive LcR (S : D → Option D → Prop) : List D → List D → Prop
  | nil : LcR S [] []
  | some {x d : D} {xs ys : List D} : S x (some d) → LcR S xs ys → LcR S (x :: xs) (d :: ys)
  | none {x : D} {xs ys : List D} : S x none → LcR S xs ys → LcR S (x :: xs) ys
theorem lcW_ok {gt : TGw} {tt : TWt} {te : TW} {w : W} (S : D → Option D → Prop) : ∀ {xs acc : List D} {Q : List D → Prop}, (∀ x ∈ xs, ∀ N : Option D → Prop, (∀ o, S x o → N o) → gt x w fun w1 => tt w1 fun b w2 => w2 = w1 ∧ if b = true then te w1 fun e w3 => w3 = w1 ∧ match e with
      | .d d => N (some d)
      | _ => False
    else N none) → acc.length + xs.length ≤ sizeLine → (∀ ys, LcR S xs ys → Q (acc ++ ys)) → lcW gt tt te w xs acc Q
  | [], acc, Q, _, _, q => by
    unfold lcW
    simpa using q [] .nil
  | x :: r, acc, Q, h, hl, q => by
    simp only [List.length_cons] at hl
    unfold lcW
    refine h x (List.mem_cons_self ..) (fun o => match o with
      | some d => acc.length < sizeLine ∧ lcW gt tt te w r (acc ++ [d]) Q
      | none => lcW gt tt te w r acc Q) fun o ho => ?_
    cases o with
    | some d =>
      refine ⟨by omega, lcW_ok S (fun y hy => h y (List.mem_cons_of_mem _ hy)) (by simp only [List.length_append, List.length_cons, List.length_nil]; omega) fun ys hy => ?_⟩
      simpa using q (d :: ys) (.some ho hy)
    | none => exact lcW_ok S (fun y hy => h y (List.mem_cons_of_mem _ hy)) (by omega) fun ys hy => q ys (.none ho hy)
theorem LcR.det {f : D → Option D} : ∀ {xs ys : List D}, LcR (fun x o => o = f x) xs ys → ys = xs.filterMap f
  | _, _, .nil => rfl
  | _, _, .some h t => by rw [List.filterMap_cons, ← h, t.det]
  | _, _, .none h t => by rw [List.filterMap_cons, ← h, t.det]
theorem lcW_det {gt : TGw} {tt : TWt} {te : TW} {w : W} (f : D → Option D) {xs : List D} {Q : List D → Prop} (h : ∀ x ∈ xs, ∀ N : Option D → Prop, N (f x) → gt x w fun w1 => tt w1 fun b w2 => w2 = w1 ∧ if b = true then te w1 fun e w3 => w3 = w1 ∧ match e with
      | .d d => N (some d)
      | _ => False
    else N none) (hl : xs.length ≤ sizeLine) (q : Q (xs.filterMap f)) : lcW gt tt te w xs [] Q :=
  lcW_ok (fun x o => o = f x) (fun x hx N hN => h x hx N (hN _ rfl)) (by simpa using hl) fun ys hy => by rw [hy.det]; simpa using q
theorem scW_ok {gt : TGw} {te : TW} {w : W} (f : D → Int) : ∀ {xs : List D} {acc : List Int} {Q : List Int → Prop}, (∀ x ∈ xs, ∀ N : Int → Prop, N (f x) → gt x w fun w1 => te w1 fun e w2 => w2 = w1 ∧ match e with
      | .d (.int i) => N i
      | _ => False) → Q ((xs.map f).reverse ++ acc) → scW gt te w xs acc Q
  | [], acc, Q, _, q => by
    unfold scW
    simpa using q
  | x :: r, acc, Q, h, q => by
    unfold scW
    refine h x (List.mem_cons_self ..) (fun i => scW gt te w r (i :: acc) Q) ?_
    exact scW_ok f (fun y hy => h y (List.mem_cons_of_mem _ hy)) (by simpa using q)
theorem anyW_map {α : Type} {stop : Bool} {gt : TGw} {te : TW} {w : W} (f : α → D) (p : α → Bool) : ∀ {xs : List α} {Q : Bool → Prop}, (∀ x ∈ xs, ∀ N : Bool → Prop, N (p x) → gt (f x) w fun w1 => te w1 fun e w2 => w2 = w1 ∧ match e with
      | .d (.bl b) => N b
      | _ => False) → Q (if stop = true then xs.any p else xs.all p) → anyW stop gt te w (xs.map f) Q
  | [], Q, _, q => by
    unfold anyW
    cases stop <;> exact q
  | x :: r, Q, h, q => by
    unfold anyW
    refine h x (List.mem_cons_self ..) (fun b => if b = stop then Q stop else anyW stop gt te w (r.map f) Q) ?_
    show if p x = stop then Q stop else anyW stop gt te w (r.map f) Q
    split
    · rename_i e
      cases stop <;> simpa [e] using q
    · rename_i e
      refine anyW_map f p (fun y hy => h y (List.mem_cons_of_mem _ hy)) ?_
      cases stop <;> simp at e <;> simpa [e] using q
theorem scW_map {α : Type} {gt : TGw} {te : TW} {w : W} (g : α → D) (f : α → Int) : ∀ {xs : List α} {acc : List Int} {Q : List Int → Prop}, (∀ x ∈ xs, ∀ N : Int → Prop, N (f x) → gt (g x) w fun w1 => te w1 fun e w2 => w2 = w1 ∧ match e with
      | .d (.int i) => N i
      | _ => False) → Q ((xs.map f).reverse ++ acc) → scW gt te w (xs.map g) acc Q
  | [], acc, Q, _, q => by
    unfold scW
    simpa using q
  | x :: r, acc, Q, h, q => by
    unfold scW
    refine h x (List.mem_cons_self ..) (fun i => scW gt te w (r.map g) (i :: acc) Q) ?_
    exact scW_map g f (fun y hy => h y (List.mem_cons_of_mem _ hy)) (by simpa using q)
theorem lcW_map {α : Type} {gt : TGw} {tt : TWt} {te : TW} {w : W} (g : α → D) (f : α → Option D) : ∀ {xs : List α} {acc : List D} {Q : List D → Prop}, (∀ x ∈ xs, ∀ N : Option D → Prop, N (f x) → gt (g x) w fun w1 => tt w1 fun b w2 => w2 = w1 ∧ if b = true then te w1 fun e w3 => w3 = w1 ∧ match e with
      | .d d => N (some d)
      | _ => False
    else N none) → acc.length + xs.length ≤ 16777216 → Q (acc ++ xs.filterMap f) → lcW gt tt te w (xs.map g) acc Q
  | [], acc, Q, _, _, q => by
    unfold lcW
    simpa using q
  | x :: r, acc, Q, h, hl, q => by
    simp only [List.length_cons] at hl
    unfold lcW
    refine h x (List.mem_cons_self ..) (fun o => match o with
      | some d => acc.length < sizeLine ∧ lcW gt tt te w (r.map g) (acc ++ [d]) Q
      | none => lcW gt tt te w (r.map g) acc Q) ?_
    rw [List.filterMap_cons] at q
    cases e : f x with
    | some d =>
      rw [e] at q
      exact ⟨by rw [sizeLine_eq]; omega, lcW_map g f (fun y hy => h y (List.mem_cons_of_mem _ hy)) (by simp only [List.length_append, List.length_cons, List.length_nil]; omega) (by simpa using q)⟩
    | none =>
      rw [e] at q
      exact lcW_map g f (fun y hy => h y (List.mem_cons_of_mem _ hy)) (by omega) q
@[simp] theorem q_okw {w : W} {i : Nat} : okWipe w [i] = match w[i]? with
  | some l => plainL l = true
  | none => False := by
  unfold okWipe
  apply propext
  constructor
  · intro h
    obtain ⟨l, e, p⟩ := h i (List.mem_cons_self ..)
    rw [e]
    exact p
  · intro h v hv
    simp at hv
    subst hv
    cases e : w[v]? with
    | none => rw [e] at h; exact h.elim
    | some l => rw [e] at h; exact ⟨l, rfl, h⟩
@[simp] theorem q_wipe {w : W} {i : Nat} : wipeW w [i] = w.set i .un := rfl
@[simp] theorem plain1 : plainL .un = true := rfl
@[simp] theorem plain2 {d : D} : plainL (.v d) = true := rfl
@[simp] theorem q_lenset {w : W} {Q : E → W → Prop} {ti : TIw} {gt : TGw} {te : TW} {vs : List Nat} : eLenSet ti gt te vs w Q = ti w fun xs w1 => okWipe w1 vs ∧ xs.length < 1000 ∧ scW gt te (wipeW w1 vs) xs [] fun ys => Q (.d (.int (many ys))) w1 := rfl
end OW


namespace K80
open PySem PySem.Spec PyProof.Rows L2 OW
variable {Q : R → Prop} {es : List E}
/-! ### small defs -/
def inI (v : D) (lo hi : Int) : Bool := match v with
  | .int i => decide (lo ≤ i) && decide (i ≤ hi)
  | _ => false
def sp_is_number : OW.Spec := fun es Q => ∃ v, es = [.d v] ∧ Q (.val (.bl (isIntD v)))
theorem p_is_number (h : sp_is_number es Q) : tis_number { nx := fun _ => Q (.val .non), rt := Q } (startW 1 es) := by
  obtain ⟨v, rfl, q⟩ := h
  cases v <;> simpa [tis_number, startW, toL, q_var, isIntD, isBlD] using q
def sp_in : OW.Spec := fun es Q => ∃ v lo hi, es = [.d v, .d (.int lo), .d (.int hi)] ∧ Q (.val (.bl (inI v lo hi)))
theorem p_number_in (h : sp_in es Q) : tnumber_in sp_is_number { nx := fun _ => Q (.val .non), rt := Q } (startW 3 es) := by
  obtain ⟨v, lo, hi, rfl, q⟩ := h
  simp [tnumber_in, startW, toL, q_var]
  refine ⟨_, rfl, ?_⟩
  cases v with
  | int i =>
    simp [isIntD]
    split
    · rename_i h; simpa [inI, h] using q
    · rename_i h; simpa [inI, h] using q
  | _ => simpa [isIntD, inI] using q
theorem p_law_is_int (h : sp_in es Q) : t_law_is_int { nx := fun _ => Q (.val .non), rt := Q } (startW 3 es) := by
  obtain ⟨v, lo, hi, rfl, q⟩ := h
  cases v with
  | int i =>
    simp [t_law_is_int, startW, toL, q_var, isIntD, isBlD]
    split
    · rename_i h; simpa [inI, h] using q
    · rename_i h; simpa [inI, h] using q
  | _ => simpa [t_law_is_int, startW, toL, q_var, isIntD, isBlD, inI] using q
def tupLen (v : D) (n : Int) : Bool := match v with
  | .tup xs => decide ((xs.length : Int) = n)
  | _ => false
def sp_is_tuple : OW.Spec := fun es Q => ∃ v n, es = [.d v, .d (.int n)] ∧ Q (.val (.bl (tupLen v n)))
theorem p_is_tuple (h : sp_is_tuple es Q) : tis_tuple { nx := fun _ => Q (.val .non), rt := Q } (startW 2 es) := by
  obtain ⟨v, n, rfl, q⟩ := h
  cases v <;> simpa [tis_tuple, startW, toL, q_var, isTupD, tupLen] using q
/-- rows that ascend -/
def asc : List Int → Bool
  | a :: b :: r => decide (a < b) && asc (b :: r)
  | _ => true
def sp_ascends : OW.Spec := fun es Q => ∃ ns : List Int, es = [.d (.tup (ns.map .int))] ∧ ns.length < 1000 ∧ Q (.val (.bl (asc ns)))
theorem p_ascends (h : sp_ascends es Q) : tascends { nx := fun _ => Q (.val .non), rt := Q } (startW 2 es) := by
  obtain ⟨ns, rfl, hl, q⟩ := h
  simp [tascends, startW, toL, q_var]
  refine ⟨by omega, ?_⟩
  have e0 : ∀ k, asc (ns.drop k) = true → k + 1 ≥ ns.length ∨ k + 1 < ns.length := fun k _ => by omega
  refine forW_ind (fun k w => (∃ l, pl l = true ∧ w = [.v (.tup (ns.map .int)), l]) ∧ asc (ns.drop k) = asc ns) ⟨⟨_, rfl, rfl⟩, rfl⟩ (fun k w x hx hI N hN => ?_) (fun w hI => ?_)
  · obtain ⟨rfl, hk⟩ := rg_get hx
    obtain ⟨⟨l, hl, rfl⟩, ha⟩ := hI
    have hk2 : k + 1 < ns.length := by omega
    have f1 : atI (ns.map D.int) ((1 + (k : Int)) - 1) = some (.int ns[k]) := by
      rw [show ((1 + (k : Int)) - 1) = ((k : Nat) : Int) by omega, OW.atN, List.getElem?_map, List.getElem?_eq_getElem (by omega)] <;> rfl
    have f2 : atI (ns.map D.int) (1 + (k : Int)) = some (.int ns[k+1]) := by
      rw [show (1 + (k : Int)) = ((k + 1 : Nat) : Int) by omega, OW.atN, List.getElem?_map, List.getElem?_eq_getElem (by omega)] <;> rfl
    have e1 : ns.drop k = ns[k] :: ns[k+1] :: ns.drop (k + 2) := by
      rw [List.drop_eq_getElem_cons (by omega), List.drop_eq_getElem_cons (by omega)]
    rw [q_gP rfl hl]
    by_cases h : ns[k] < ns[k+1]
    · simp [q_var, f1, f2, h]
      refine hN _ ⟨⟨_, rfl, rfl⟩, ?_⟩
      rw [← ha, e1, asc, decide_eq_true h, Bool.true_and, List.drop_eq_getElem_cons (by omega)]
    · simp [q_var, f1, f2, h]
      rw [← ha, e1] at q
      simpa [asc, h] using q
  · obtain ⟨⟨l, hl, rfl⟩, ha⟩ := hI
    have : asc ns = true := by
      rw [← ha]
      simp
      generalize hd : ns.drop (ns.length - 1) = r
      match r with
      | [] => rfl
      | [x] => rfl
      | x :: y :: r =>
        have := congrArg List.length hd
        simp at this
        omega
    rw [this] at q
    simpa using q
end K80


namespace K80
open PySem PySem.Spec PyProof.Rows L2 OW
/-! ### the data: places, lines, members -/
def optD : Option Int → D
  | some i => .int i
  | none => .non
inductive Wd where | line | way | ready deriving DecidableEq
def wdD (l : Str) : Wd → D
  | .line => .str l
  | .way => .str "way"
  | .ready => .str "ready"
structure Mem where
  reader : Int
  work : Int
  word : Wd
  day : Option Int
def memD (l : Str) (m : Mem) : D := .tup [.int m.reader, .int m.work, wdD l m.word, optD m.day]
inductive Pl where
  | way (d n r : Int)
  | ready (d n r : Int)
  | free
  | lent (d n r : Int)
def plD : Pl → D
  | .way d n r => .tup [.str "way", .int d, .int n, .int r]
  | .ready d n r => .tup [.str "ready", .int d, .int n, .int r]
  | .free => .tup [.str "free"]
  | .lent d n r => .tup [.str "lent", .int d, .int n, .int r]
structure Ln where
  number : Int
  reader : Int
  rank : Int
  told : Option Int
def lnD (l : Ln) : D := .tup [.int l.number, .int l.reader, .int l.rank, optD l.told]
def lineD (l : List Ln) : D := .tup (l.map lnD)
structure Std where
  day : Int
  places : List Pl
  held : D
  lines : List (List Ln)
  many : D
  last : D
def stdD (s : Std) : D := .tup [.int s.day, .tup (s.places.map plD), s.held, .tup (s.lines.map lineD), s.many, s.last]
structure Lib where
  book : D
  works : D
  copies : List (Int × Int)
  readers : D
def copD (c : Int × Int) : D := .tup [.int c.1, .int c.2]
def libD (l : Lib) : D := .tup [l.book, l.works, .tup (l.copies.map copD), l.readers]
abbrev Ent := Int × Mem
def lnE (k : Nat) (l : Ln) : Ent := (l.number, ⟨l.reader, k, .line, l.told⟩)
def lineEs (lines : List (List Ln)) : List (List Ent) := lines.mapIdx fun k l => l.map (lnE k)
def plE (c : Int × Int) : Pl → List Ent
  | .way d n r => [(n, ⟨r, c.1, .way, some d⟩)]
  | .ready d n r => [(n, ⟨r, c.1, .ready, some d⟩)]
  | _ => []
def heldEs (places : List Pl) (copies : List (Int × Int)) : List (List Ent) := List.zipWith (fun p c => plE c p) places copies
def putAll (l : Str) (ds : List (Key × D)) (es : List Ent) : List (Key × D) := es.foldl (fun ds e => dputD ds (.inl e.1) (memD l e.2)) ds
theorem putAll_append (l : Str) (ds : List (Key × D)) (a b : List Ent) : putAll l ds (a ++ b) = putAll l (putAll l ds a) b := List.foldl_append
theorem putAll_len (l : Str) : ∀ (es : List Ent) (ds : List (Key × D)), (putAll l ds es).length ≤ ds.length + es.length
  | [], ds => Nat.le_refl _
  | e :: r, ds => by
    have h1 := putAll_len l r (dputD ds (.inl e.1) (memD l e.2))
    have h2 := put_len (.inl e.1) ds (memD l e.2)
    have : putAll l ds (e :: r) = putAll l (dputD ds (.inl e.1) (memD l e.2)) r := rfl
    rw [this, List.length_cons]
    omega
/-! ### looking up -/
theorem dlook_cons {a j : Key} {x : D} {r : List (Key × D)} : dlook ((a, x) :: r) j = if a = j then some x else dlook r j := by
  unfold dlook
  rw [List.find?_cons]
  by_cases h : a = j <;> simp [h]
theorem dlook_app {ds : List (Key × D)} {k j : Key} {v : D} : dlook (ds ++ [(k, v)]) j = match dlook ds j with
    | some d => some d
    | none => if k = j then some v else none := by
  induction ds with
  | nil => rw [List.nil_append, dlook_cons]; rfl
  | cons a r ih =>
    obtain ⟨a, x⟩ := a
    rw [List.cons_append, dlook_cons, dlook_cons]
    split
    · rfl
    · exact ih
theorem dlook_map {k j : Key} {v : D} : ∀ {ds : List (Key × D)}, dlook (ds.map fun kv => if kv.1 = k then (kv.1, v) else kv) j = if j = k then (dlook ds j).map (fun _ => v) else dlook ds j
  | [] => by simp [dlook]
  | (a, x) :: r => by
    rw [List.map_cons, dlook_cons]
    by_cases hk : a = k
    · subst hk
      rw [if_pos rfl, dlook_cons, dlook_map]
      by_cases hj : a = j
      · subst hj; simp
      · simp [hj, fun z : j = a => hj z.symm]
    · rw [if_neg hk, dlook_cons, dlook_map]
      by_cases hj : a = j
      · subst hj; simp [hk]
      · simp [hj]
theorem dlook_none {k : Key} : ∀ {ds : List (Key × D)}, (ds.any fun kv => decide (kv.1 = k)) = (dlook ds k).isSome
  | [] => rfl
  | (a, x) :: r => by
    rw [List.any_cons, dlook_cons, dlook_none]
    by_cases h : a = k <;> simp [h]
theorem dlook_put {ds : List (Key × D)} {k j : Key} {v : D} : dlook (dputD ds k v) j = if j = k then some v else dlook ds j := by
  unfold dputD
  rw [dlook_none]
  by_cases hs : (dlook ds k).isSome = true
  · rw [if_pos hs, dlook_map]
    by_cases hj : j = k
    · subst hj
      rw [if_pos rfl, if_pos rfl]
      obtain ⟨d, e⟩ := Option.isSome_iff_exists.mp hs
      rw [e]; rfl
    · rw [if_neg hj, if_neg hj]
  · rw [if_neg hs, dlook_app]
    by_cases hj : j = k
    · subst hj
      rw [if_pos rfl, if_pos rfl]
      simp at hs
      rw [hs]
    · rw [if_neg hj, if_neg fun z => hj z.symm]
      cases dlook ds j <;> rfl
def memOf (es : List Ent) (n : Int) : Option Mem := (es.find? fun e => decide (e.1 = n)).map (·.2)
theorem memOf_none {es : List Ent} {n : Int} (h : n ∉ es.map (·.1)) : memOf es n = none := by
  unfold memOf
  rw [Option.map_eq_none_iff, List.find?_eq_none]
  intro x hx z
  exact h (List.mem_map.mpr ⟨x, hx, by simpa using z⟩)
theorem look_all (l : Str) (n : Int) : ∀ (es : List Ent) (ds : List (Key × D)), (es.map (·.1)).Nodup → dlook (putAll l ds es) (.inl n) = match memOf es n with
    | some m => some (memD l m)
    | none => dlook ds (.inl n)
  | [], ds, _ => rfl
  | e :: r, ds, h => by
    rw [List.map_cons, List.nodup_cons] at h
    have : putAll l ds (e :: r) = putAll l (dputD ds (.inl e.1) (memD l e.2)) r := rfl
    rw [this, look_all l n r _ h.2, dlook_put]
    by_cases z : e.1 = n
    · subst z
      rw [memOf_none h.1]
      simp [memOf]
    · have z2 : ¬ (Sum.inl n : Key) = .inl e.1 := fun y => z (Sum.inl.inj y).symm
      have : memOf (e :: r) n = memOf r n := by simp [memOf, z]
      rw [this, if_neg z2]
theorem memOf_swap {a b : List Ent} {n : Int} (h : ((a ++ b).map (·.1)).Nodup) : memOf (a ++ b) n = memOf (b ++ a) n := by
  rw [List.map_append, List.nodup_append] at h
  unfold memOf
  rw [List.find?_append, List.find?_append]
  cases ea : a.find? (fun e => decide (e.1 = n)) with
  | none => cases eb : b.find? (fun e => decide (e.1 = n)) <;> simp
  | some x =>
    cases eb : b.find? (fun e => decide (e.1 = n)) with
    | none => simp
    | some y =>
      have h1 := List.find?_some ea
      have h2 := List.find?_some eb
      simp at h1 h2
      exact absurd (h1.trans h2.symm) (h.2.2 _ (List.mem_map_of_mem (List.mem_of_find?_eq_some ea)) _ (List.mem_map_of_mem (List.mem_of_find?_eq_some eb)))
/-! ### members_of, _law_members -/
def entsL (s : Std) : List Ent := (lineEs s.lines).flatten
def entsP (b : Lib) (s : Std) : List Ent := (heldEs s.places b.copies).flatten
/-- the stand and the library fit -/
structure Fit (b : Lib) (s : Std) : Prop where
  len : b.copies.length = s.places.length
  lens : s.places.length < 1000
  lensL : s.lines.length < 1000
  many : (entsL s ++ entsP b s).length < 1000
  nd : ((entsL s ++ entsP b s).map (·.1)).Nodup
  rg : ∀ e ∈ entsL s ++ entsP b s, 0 ≤ e.1 ∧ e.1 ≤ 999999
variable {Q : R → Prop} {es : List E}
def sp_members_of : OW.Spec := fun es Q => ∃ b s, es = [.d (libD b), .d (stdD s)] ∧ Fit b s ∧ Q (.val (.dic (putAll "line" [] (entsL s ++ entsP b s))))
def sp_law_members : OW.Spec := fun es Q => ∃ b s, es = [.d (libD b), .d (stdD s)] ∧ Fit b s ∧ Q (.val (.dic (putAll "wait" [] (entsP b s ++ entsL s))))
theorem flat_take {α : Type} {xss : List (List α)} {k : Nat} {x : List α} (h : xss[k]? = some x) : (xss.take (k + 1)).flatten = (xss.take k).flatten ++ x := by
  rw [List.take_succ, h, List.flatten_append]
  simp
theorem flat_take_le {α : Type} {xss : List (List α)} {k : Nat} : (xss.take k).flatten.length ≤ xss.flatten.length := by
  conv => rhs; rw [← List.take_append_drop k xss, List.flatten_append, List.length_append]
  omega
end K80


namespace K80
open PySem PySem.Spec PyProof.Rows L2 OW
variable {Q : R → Prop} {es : List E}
section
variable {w : W} {Q : E → W → Prop} {s : Std} {b : Lib} {c : Int × Int}
@[simp] theorem std_0 : oIx (.d (stdD s)) (.d (.int 0)) w Q = Q (.d (.int s.day)) w := by simp [stdD]
@[simp] theorem std_1 : oIx (.d (stdD s)) (.d (.int 1)) w Q = Q (.d (.tup (s.places.map plD))) w := by simp [stdD]
@[simp] theorem std_3 : oIx (.d (stdD s)) (.d (.int 3)) w Q = Q (.d (.tup (s.lines.map lineD))) w := by simp [stdD]
@[simp] theorem lib_2 : oIx (.d (libD b)) (.d (.int 2)) w Q = Q (.d (.tup (b.copies.map copD))) w := by simp [libD]
@[simp] theorem cop_0 : oIx (.d (copD c)) (.d (.int 0)) w Q = Q (.d (.int c.1)) w := by simp [copD]
end
@[simp] theorem putAll_nil {l : Str} {ds : List (Key × D)} : putAll l ds [] = ds := rfl
theorem q_dput {i : Nat} {tk tv : TW} {E0 : En} {w : W} : sDput i tk tv E0 w = tv w fun v w1 => (match w1[i]? with | some (.ownD _) => True | _ => False) ∧ tk w1 fun x w2 => match v, x, w2[i]? with
    | .d v, .d x, some (.ownD ds) => (match keyD x with
      | some k => ds.length < sizeLine ∧ E0.nx (w2.set i (.ownD (dputD ds k v)))
      | none => False)
    | _, _, _ => False := rfl
/-- the turns over a line -/
theorem p_line {l : Str} {lib std wk la lb : L} {ds : List (Key × D)} {k : Nat} (ln : List Ln) {E0 : En} {body : SW} (i3 i4 : Nat)
    (hb : ∀ (x : Ln) (ds : List (Key × D)) (c d e f : L) (N : W → Prop), pl c = true → pl d = true → pl e = true → pl f = true → ds.length < sizeLine →
      (∀ c d e f : L, pl c = true → pl d = true → pl e = true → pl f = true → N [lib, std, .ownD (dputD ds (.inl (lnE k x).1) (memD l (lnE k x).2)), wk, la, lb, c, d, e, f]) →
      gSeqW 4 (gsCons (gN 6) (gsCons (gN 7) (gsCons (gN 8) (gsCons (gN 9) gsNil)))) (lnD x) [lib, std, .ownD ds, wk, la, lb, c, d, e, f] fun w1 => body { E0 with nx := N, ct := N, bk := E0.nx } w1)
    (hd : ds.length + ln.length < 16777216) {c d e f : L} (hc : pl c = true) (hd' : pl d = true) (he : pl e = true) (hf : pl f = true)
    (hq : ∀ c d e f : L, pl c = true → pl d = true → pl e = true → pl f = true → E0.nx [lib, std, .ownD (putAll l ds (ln.map (lnE k))), wk, la, lb, c, d, e, f]) :
    forW (gSeqW 4 (gsCons (gN 6) (gsCons (gN 7) (gsCons (gN 8) (gsCons (gN 9) gsNil))))) body (ln.map lnD) E0 [lib, std, .ownD ds, wk, la, lb, c, d, e, f] := by
  refine forW_ind (fun j w => ∃ c d e f : L, pl c = true ∧ pl d = true ∧ pl e = true ∧ pl f = true ∧ w = [lib, std, .ownD (putAll l ds ((ln.map (lnE k)).take j)), wk, la, lb, c, d, e, f]) ⟨c, d, e, f, hc, hd', he, hf, rfl⟩ ?_ ?_
  · rintro j w x hx ⟨c, d, e, f, hc, hd', he, hf, rfl⟩ N hN
    rw [List.getElem?_map] at hx
    obtain ⟨y, hy, rfl⟩ := Option.map_eq_some_iff.mp hx
    have hj := (List.getElem?_eq_some_iff.mp hy).1
    refine hb y _ c d e f N hc hd' he hf ?_ fun c d e f h1 h2 h3 h4 => hN _ ⟨c, d, e, f, h1, h2, h3, h4, ?_⟩
    · have := putAll_len l ((ln.map (lnE k)).take j) ds
      rw [List.length_take, List.length_map] at this
      rw [sizeLine_eq]
      omega
    · have e1 : (ln.map (lnE k))[j]? = some (lnE k y) := by rw [List.getElem?_map, hy]; rfl
      rw [List.take_succ, e1]
      show _ = [lib, std, .ownD (putAll l ds (_ ++ [lnE k y])), wk, la, lb, c, d, e, f]
      rw [putAll_append]
      rfl
  · rintro w ⟨c, d, e, f, hc, hd', he, hf, rfl⟩
    have := hq c d e f hc hd' he hf
    rw [List.length_map, List.take_of_length_le (by simp)]
    exact this
theorem p_members_of (h : sp_members_of es Q) : tmembers_of { nx := fun _ => Q (.val .non), rt := Q } (startW 10 es) := by
  obtain ⟨b, s, rfl, F, q⟩ := h
  have hn := F.many
  rw [List.length_append] at hn
  have hlens := F.lens
  have hlensL := F.lensL
  simp [tmembers_of, startW, toL, q_var]
  refine ⟨by omega, ?_⟩
  refine forW_ind (fun k w => ∃ a b' c' c d e f : L, pl a = true ∧ pl b' = true ∧ pl c' = true ∧ pl c = true ∧ pl d = true ∧ pl e = true ∧ pl f = true ∧
    w = [.v (libD b), .v (stdD s), .ownD (putAll "line" [] ((lineEs s.lines).take k).flatten), a, b', c', c, d, e, f]) ⟨_, _, _, _, _, _, _, rfl, rfl, rfl, rfl, rfl, rfl, rfl, rfl⟩ ?_ ?_
  · rintro k w x hx ⟨a, b', c', c, d, e, f, ha, hb, hc', hc, hd, he, hf, rfl⟩ N hN
    obtain ⟨rfl, hk⟩ := rg_get hx
    rw [q_gP rfl ha]
    have e1 : atI (s.lines.map lineD) (k : Int) = some (lineD s.lines[k]) := by
      rw [OW.atN, List.getElem?_map, List.getElem?_eq_getElem hk]
      rfl
    have e2 : (lineEs s.lines)[k]? = some (s.lines[k].map (lnE k)) := by
      unfold lineEs
      rw [List.getElem?_mapIdx, List.getElem?_eq_getElem hk]
      rfl
    have hle := flat_take_le (xss := lineEs s.lines) (k := k + 1)
    have hft := flat_take e2
    have hen : (lineEs s.lines).flatten = entsL s := rfl
    simp [q_var, e1, lineD]
    show forW _ _ (s.lines[k].map lnD) _ _
    refine p_line (l := "line") (k := k) s.lines[k] 3 4 ?_ ?_ hc hd he hf ?_
    · intro x ds c d e f N hc hd he hf hds hN
      simp [lnD, q_gM, hc, hd, he, hf, q_dput, q_var, keyD]
      rw [sizeLine_eq] at hds
      exact ⟨by omega, by simpa [lnE, memD, wdD] using hN _ _ _ _ rfl rfl rfl rfl⟩
    · have := putAll_len "line" ((lineEs s.lines).take k).flatten []
      rw [hft, List.length_append, List.length_map, hen] at hle
      simp only [List.length_nil] at this
      omega
    · intro c d e f hc hd he hf
      refine hN _ ⟨.v (.int k), b', c', c, d, e, f, rfl, hb, hc', hc, hd, he, hf, ?_⟩
      rw [hft, putAll_append]
  · rintro w ⟨a, b', c', c, d, e, f, ha, hb, hc', hc, hd, he, hf, rfl⟩
    have ht : (lineEs s.lines).take (rangeD 0 s.lines.length).length = lineEs s.lines := List.take_of_length_le (by simp [lineEs])
    rw [ht]
    simp [q_var]
    refine ⟨by omega, ?_⟩
    refine forW_ind (fun k w => ∃ a b' c' c d e f : L, pl a = true ∧ pl b' = true ∧ pl c' = true ∧ pl c = true ∧ pl d = true ∧ pl e = true ∧ pl f = true ∧
      w = [.v (libD b), .v (stdD s), .ownD (putAll "line" [] (entsL s ++ ((heldEs s.places b.copies).take k).flatten)), a, b', c', c, d, e, f]) ⟨_, _, _, _, _, _, _, ha, hb, hc', hc, hd, he, hf, by simp [entsL]⟩ ?_ ?_
    · rintro k w x hx ⟨a, b', c', c, d, e, f, ha, hb, hc', hc, hd, he, hf, rfl⟩ N hN
      obtain ⟨rfl, hk⟩ := rg_get hx
      rw [q_gP rfl hb]
      have hk2 : k < b.copies.length := by rw [F.len]; exact hk
      have e1 : atI (s.places.map plD) (k : Int) = some (plD s.places[k]) := by
        rw [OW.atN, List.getElem?_map, List.getElem?_eq_getElem hk]
        rfl
      have e3 : atI (b.copies.map copD) (k : Int) = some (copD b.copies[k]) := by
        rw [OW.atN, List.getElem?_map, List.getElem?_eq_getElem hk2]
        rfl
      have e2 : (heldEs s.places b.copies)[k]? = some (plE b.copies[k] s.places[k]) := by
        unfold heldEs
        rw [List.getElem?_zipWith, List.getElem?_eq_getElem hk, List.getElem?_eq_getElem hk2]
      have hle := flat_take_le (xss := heldEs s.places b.copies) (k := k + 1)
      have hft := flat_take e2
      have hen : (heldEs s.places b.copies).flatten = entsP b s := rfl
      have hl := putAll_len "line" (entsL s ++ ((heldEs s.places b.copies).take k).flatten) []
      rw [List.length_append] at hl
      rw [hft, List.length_append, hen] at hle
      simp only [List.length_nil] at hl
      have hN' := fun a b' c' c d e f ha hb hc' hc hd he hf => hN _ ⟨a, b', c', c, d, e, f, ha, hb, hc', hc, hd, he, hf, rfl⟩
      rw [hft, ← List.append_assoc, putAll_append] at hN'
      cases hp : s.places[k] with
      | way dd n r =>
        rw [hp] at e1 hN' 
        simp [q_var, e1, plD, q_dput, e3, keyD, flatD, feq]
        exact ⟨by omega, hN' _ _ _ _ _ _ _ ha rfl rfl hc hd he hf⟩
      | ready dd n r =>
        rw [hp] at e1 hN' 
        simp [q_var, e1, plD, q_dput, e3, keyD, flatD, feq]
        exact ⟨by omega, hN' _ _ _ _ _ _ _ ha rfl rfl hc hd he hf⟩
      | free =>
        rw [hp] at e1 hN' 
        simp [q_var, e1, plD, q_dput, e3, keyD, flatD, feq]
        simp only [plE, putAll_nil] at hN'
        refine ⟨by decide, ?_⟩
        refine hN' _ _ _ _ _ _ _ ?_ ?_ ?_ ?_ ?_ ?_ ?_ <;> first | rfl | assumption
      | lent dd n r =>
        rw [hp] at e1 hN' 
        simp [q_var, e1, plD, q_dput, e3, keyD, flatD, feq]
        simp only [plE, putAll_nil] at hN'
        refine hN' _ _ _ _ _ _ _ ?_ ?_ ?_ ?_ ?_ ?_ ?_ <;> first | rfl | assumption
    · rintro w ⟨a, b', c', c, d, e, f, ha, hb, hc', hc, hd, he, hf, rfl⟩
      have ht : (heldEs s.places b.copies).take (rangeD 0 s.places.length).length = heldEs s.places b.copies := List.take_of_length_le (by simp [heldEs]; omega)
      rw [ht]
      exact q
theorem p_law_members (h : sp_law_members es Q) : t_law_members { nx := fun _ => Q (.val .non), rt := Q } (startW 10 es) := by
  obtain ⟨b, s, rfl, F, q⟩ := h
  have hn := F.many
  rw [List.length_append] at hn
  have hlens := F.lens
  have hlensL := F.lensL
  simp [t_law_members, startW, toL, q_var]
  refine ⟨by omega, ?_⟩
  refine forW_ind (fun k w => ∃ a b' c' c d e f : L, pl a = true ∧ pl b' = true ∧ pl c' = true ∧ pl c = true ∧ pl d = true ∧ pl e = true ∧ pl f = true ∧
      w = [.v (libD b), .v (stdD s), .ownD (putAll "wait" [] (((heldEs s.places b.copies).take k).flatten)), a, b', c', c, d, e, f]) ⟨_, _, _, _, _, _, _, rfl, rfl, rfl, rfl, rfl, rfl, rfl, rfl⟩ ?_ ?_
  · rintro k w x hx ⟨a, b', c', c, d, e, f, ha, hb, hc', hc, hd, he, hf, rfl⟩ N hN
    obtain ⟨rfl, hk⟩ := rg_get hx
    rw [q_gP rfl ha]
    have hk2 : k < b.copies.length := by rw [F.len]; exact hk
    have e1 : atI (s.places.map plD) (k : Int) = some (plD s.places[k]) := by
      rw [OW.atN, List.getElem?_map, List.getElem?_eq_getElem hk]
      rfl
    have e3 : atI (b.copies.map copD) (k : Int) = some (copD b.copies[k]) := by
      rw [OW.atN, List.getElem?_map, List.getElem?_eq_getElem hk2]
      rfl
    have e2 : (heldEs s.places b.copies)[k]? = some (plE b.copies[k] s.places[k]) := by
      unfold heldEs
      rw [List.getElem?_zipWith, List.getElem?_eq_getElem hk, List.getElem?_eq_getElem hk2]
    have hle := flat_take_le (xss := heldEs s.places b.copies) (k := k + 1)
    have hft := flat_take e2
    have hen : (heldEs s.places b.copies).flatten = entsP b s := rfl
    have hl := putAll_len "wait" (((heldEs s.places b.copies).take k).flatten) []
    rw [hft, List.length_append, hen] at hle
    simp only [List.length_nil] at hl
    have hN' := fun a b' c' c d e f ha hb hc' hc hd he hf => hN _ ⟨a, b', c', c, d, e, f, ha, hb, hc', hc, hd, he, hf, rfl⟩
    rw [hft, putAll_append] at hN'
    cases hp : s.places[k] with
    | way dd n r =>
      rw [hp] at e1 hN' 
      simp [q_var, e1, plD, q_dput, e3, keyD]
      exact ⟨by omega, hN' _ _ _ _ _ _ _ rfl hb rfl hc hd he hf⟩
    | ready dd n r =>
      rw [hp] at e1 hN' 
      simp [q_var, e1, plD, q_dput, e3, keyD, show ¬ (("ready" : Str) = "way") by decide]
      exact ⟨by omega, hN' _ _ _ _ _ _ _ rfl hb rfl hc hd he hf⟩
    | free =>
      rw [hp] at e1 hN' 
      simp [q_var, e1, plD, q_dput, e3, keyD, show ¬ (("free" : Str) = "way") by decide, show ¬ (("free" : Str) = "ready") by decide]
      simp only [plE, putAll_nil] at hN'
      refine hN' _ _ _ _ _ _ _ ?_ ?_ ?_ ?_ ?_ ?_ ?_ <;> first | rfl | assumption
    | lent dd n r =>
      rw [hp] at e1 hN' 
      simp [q_var, e1, plD, q_dput, e3, keyD, show ¬ (("lent" : Str) = "way") by decide, show ¬ (("lent" : Str) = "ready") by decide]
      simp only [plE, putAll_nil] at hN'
      refine hN' _ _ _ _ _ _ _ ?_ ?_ ?_ ?_ ?_ ?_ ?_ <;> first | rfl | assumption
  · rintro w ⟨a, b', c', c, d, e, f, ha, hb, hc', hc, hd, he, hf, rfl⟩
    have ht : (heldEs s.places b.copies).take (rangeD 0 s.places.length).length = heldEs s.places b.copies := List.take_of_length_le (by have := F.len; simp [heldEs]; omega)
    rw [ht]
    simp [q_var]
    refine ⟨by omega, ?_⟩
    refine forW_ind (fun k w => ∃ a b' c' c d e f : L, pl a = true ∧ pl b' = true ∧ pl c' = true ∧ pl c = true ∧ pl d = true ∧ pl e = true ∧ pl f = true ∧
      w = [.v (libD b), .v (stdD s), .ownD (putAll "wait" [] (entsP b s ++ ((lineEs s.lines).take k).flatten)), a, b', c', c, d, e, f]) ⟨_, _, _, _, _, _, _, ha, hb, hc', hc, hd, he, hf, by simp [entsP]⟩ ?_ ?_
    · rintro k w x hx ⟨a, b', c', c, d, e, f, ha, hb, hc', hc, hd, he, hf, rfl⟩ N hN
      obtain ⟨rfl, hk⟩ := rg_get hx
      rw [q_gP rfl hb]
      have e1 : atI (s.lines.map lineD) (k : Int) = some (lineD s.lines[k]) := by
        rw [OW.atN, List.getElem?_map, List.getElem?_eq_getElem hk]
        rfl
      have e2 : (lineEs s.lines)[k]? = some (s.lines[k].map (lnE k)) := by
        unfold lineEs
        rw [List.getElem?_mapIdx, List.getElem?_eq_getElem hk]
        rfl
      have hle := flat_take_le (xss := lineEs s.lines) (k := k + 1)
      have hft := flat_take e2
      have hen : (lineEs s.lines).flatten = entsL s := rfl
      simp [q_var, e1, lineD]
      show forW _ _ (s.lines[k].map lnD) _ _
      refine p_line (l := "wait") (k := k) s.lines[k] 3 4 ?_ ?_ hc hd he hf ?_
      · intro x ds c d e f N hc hd he hf hds hN
        simp [lnD, q_gM, hc, hd, he, hf, q_dput, q_var, keyD]
        rw [sizeLine_eq] at hds
        exact ⟨by omega, by simpa [lnE, memD, wdD] using hN _ _ _ _ rfl rfl rfl rfl⟩
      · have := putAll_len "wait" (entsP b s ++ ((lineEs s.lines).take k).flatten) []
        rw [hft, List.length_append, List.length_map, hen] at hle
        rw [List.length_append] at this
        simp only [List.length_nil] at this
        omega
      · intro c d e f hc hd he hf
        refine hN _ ⟨a, .v (.int k), c', c, d, e, f, ha, rfl, hc', hc, hd, he, hf, ?_⟩
        rw [hft, ← List.append_assoc, putAll_append _ _ (entsP b s ++ _)]
    · rintro w ⟨a, b', c', c, d, e, f, ha, hb, hc', hc, hd, he, hf, rfl⟩
      have ht : (lineEs s.lines).take (rangeD 0 s.lines.length).length = lineEs s.lines := List.take_of_length_le (by simp [lineEs])
      rw [ht]
      exact q
end K80


namespace K80
open PySem PySem.Spec PyProof.Rows L2 OW
variable {Q : R → Prop} {es : List E}
/-! ### is_set, _law_is_set -/
def fitsI (told : Int) (m : Mem) : Bool := match m.word with
  | .line => decide (m.day = some told)
  | .ready => true
  | .way => decide ((m.day.getD 0) ≤ told)
def sp_told_fits : OW.Spec := fun es Q => ∃ (m : Mem) (told : Int), es = [.d (memD "line" m), .d (.int told)] ∧ (m.word = .way → m.day ≠ none) ∧ Q (.val (.bl (fitsI told m)))
theorem p_told_fits (h : sp_told_fits es Q) : ttold_fits { nx := fun _ => Q (.val .non), rt := Q } (startW 4 es) := by
  obtain ⟨⟨rd, wk, wd, dy⟩, told, rfl, hw, q⟩ := h
  cases wd with
  | line => 
    cases dy with
    | none => simpa [ttold_fits, startW, toL, q_var, memD, wdD, OW.cutD, HT.sIx, q_gM, optD, fitsI] using q
    | some d => simpa [ttold_fits, startW, toL, q_var, memD, wdD, OW.cutD, HT.sIx, q_gM, optD, fitsI] using q
  | ready => simpa [ttold_fits, startW, toL, q_var, memD, wdD, OW.cutD, HT.sIx, q_gM, optD, fitsI, show ¬ (("ready" : Str) = "line") by decide] using q
  | way =>
    cases dy with
    | none => exact absurd rfl (hw rfl)
    | some d => simpa [ttold_fits, startW, toL, q_var, memD, wdD, OW.cutD, HT.sIx, q_gM, optD, fitsI, show ¬ (("way" : Str) = "line") by decide, show ¬ (("way" : Str) = "ready") by decide] using q
/-- numbers, all of them ints with a member -/
def rowsM (M : Int → Option Mem) : List D → Option (List (Int × Mem))
  | [] => some []
  | .int n :: r => (match M n, rowsM M r with
    | some m, some ms => some ((n, m) :: ms)
    | _, _ => none)
  | _ :: _ => none
def rowsOk (told : Int) (ms : List (Int × Mem)) : Bool :=
  asc (ms.map (·.1)) && (ms.all (fun m => decide (m.2.reader = (ms.head?.map (·.2.reader)).getD 0)) && (decide ((ms.map (·.2.work)).Nodup) && (ms.all (fun m => fitsI told m.2) && ms.any (fun m => decide (m.2.word ≠ .ready)))))
def setOk (M : Int → Option Mem) (day : Int) : D → Bool
  | .tup [.tup ns, .int t] => decide (day + 1 ≤ t) && decide (t ≤ 1000000) && (decide (2 ≤ ns.length) && decide (ns.length ≤ 4)) && (match rowsM M ns with
    | some ms => rowsOk t ms
    | none => false)
  | _ => false
theorem rowsM_some {M : Int → Option Mem} : ∀ {ns : List D} {ms : List (Int × Mem)}, rowsM M ns = some ms → ns = ms.map (fun m => .int m.1) ∧ ∀ m ∈ ms, M m.1 = some m.2
  | [], ms, h => by
    cases h
    exact ⟨rfl, fun _ h => by simp at h⟩
  | .int n :: r, ms, h => by
    unfold rowsM at h
    cases e1 : M n with
    | none => rw [e1] at h; simp at h
    | some m =>
      cases e2 : rowsM M r with
      | none => rw [e1, e2] at h; simp at h
      | some ms' =>
        rw [e1, e2] at h
        cases h
        obtain ⟨h1, h2⟩ := rowsM_some e2
        exact ⟨by rw [h1]; rfl, fun m hm => by
          rcases List.mem_cons.mp hm with rfl | hm
          · exact e1
          · exact h2 m hm⟩
  | .non :: _, _, h => by simp [rowsM] at h
  | .bl _ :: _, _, h => by simp [rowsM] at h
  | .str _ :: _, _, h => by simp [rowsM] at h
  | .tup _ :: _, _, h => by simp [rowsM] at h
  | .lst _ :: _, _, h => by simp [rowsM] at h
  | .dic _ :: _, _, h => by simp [rowsM] at h
def isMem (M : Int → Option Mem) : D → Bool
  | .int n => (M n).isSome
  | _ => false
theorem rowsM_all {M : Int → Option Mem} : ∀ {ns : List D}, (rowsM M ns).isSome = ns.all (isMem M)
  | [] => rfl
  | .int n :: r => by
    unfold rowsM
    rw [List.all_cons, ← rowsM_all]
    cases e1 : M n <;> cases e2 : rowsM M r <;> simp [isMem, e1]
  | .non :: _ => rfl
  | .bl _ :: _ => rfl
  | .str _ :: _ => rfl
  | .tup _ :: _ => rfl
  | .lst _ :: _ => rfl
  | .dic _ :: _ => rfl
/-- what the members' table tells -/
structure Tab (l : Str) (ds : List (Key × D)) (M : Int → Option Mem) : Prop where
  look : ∀ n, dlook ds (.inl n) = (M n).map (memD l)
  way : ∀ n m, M n = some m → m.word = .way → m.day ≠ none
  rg : ∀ n m, M n = some m → 0 ≤ n ∧ n ≤ 999999
theorem many_lt : ∀ {ys : List Int}, many ys < ys.length ↔ ¬ ys.Nodup
  | [] => by simp [many]
  | x :: r => by
    have := many_le r
    have ih := many_lt (ys := r)
    rw [List.nodup_cons]
    unfold many
    rw [List.length_cons]
    split
    · rename_i h
      exact ⟨fun _ z => z.1 h, fun _ => by omega⟩
    · rename_i h
      constructor
      · intro z y
        exact ih.mp (by omega) y.2
      · intro z
        have := ih.mpr fun y => z ⟨h, y⟩
        omega
theorem lcW_len {α : Type} {f : α → D} {xs : List α} : (xs.map f).length = xs.length := List.length_map _
def sp_is_set : OW.Spec := fun es Q => ∃ (ds : List (Key × D)) (M : Int → Option Mem) (day : Int) (v : D), es = [.d (.dic ds), .d (.int day), .d v] ∧ Tab "line" ds M ∧ Q (.val (.bl (setOk M day v)))
theorem p_is_set (h : sp_is_set es Q) : tis_set sp_is_tuple sp_in sp_ascends sp_told_fits sp_is_number { nx := fun _ => Q (.val .non), rt := Q } (startW 8 es) := by
  obtain ⟨ds, M, day, v, rfl, T, q⟩ := h
  have no : ∀ b, setOk M day v = b → Q (.val (.bl b)) := fun b e => e ▸ q
  simp only [tis_set, startW, toL, q_seq, q_if, q_or, q_not, q_tOf, q_fn, q_acons, q_anil, q_const, q_var, List.map_cons, List.map_nil, List.cons_append, List.nil_append, List.getElem?_cons_succ, List.getElem?_cons_zero]
  refine ⟨trivial, v, 2, rfl, ?_⟩
  match v, no with
  | .tup [x, y], no =>
    simp [tupLen, List.replicate, q_var]
    refine ⟨y, day + 1, 1000000, rfl, ?_⟩
    have noI : inI y (day + 1) 1000000 = false → setOk M day (.tup [x, y]) = false := fun h => by
      cases x <;> cases y <;> first | rfl | skip
      simp only [inI] at h
      simp only [setOk, h, Bool.false_and]
    cases hI : inI y (day + 1) 1000000 with
    | false => 
      simp
      exact no _ (noI hI)
    | true =>
      simp [q_gM]
      cases y with
      | int t =>
        simp only [inI] at hI
        match x, no with
        | .tup ns, no =>
          simp [isTupD]
          by_cases hl : 2 ≤ (ns.length : Int) ∧ (ns.length : Int) ≤ 4
          · obtain ⟨hl1, hl2⟩ := hl
            have hl1' : 2 ≤ ns.length := by omega
            have hl2' : ns.length ≤ 4 := by omega
            have e0 : setOk M day (.tup [.tup ns, .int t]) = match rowsM M ns with
              | some ms => rowsOk t ms
              | none => false := by
              simp only [setOk, hI, decide_eq_true hl1', decide_eq_true hl2', Bool.and_self, Bool.true_and]
            simp [hl1, hl2]
            refine anyW_ok (isMem M) (fun z hz N hN => ?_) ?_
            · cases z <;> simpa [q_gM, q_var, sp_is_number, isIntD, isMem, T.look] using hN
            simp only [Bool.false_eq_true, if_false]
            rw [← rowsM_all]
            cases hr : rowsM M ns with
            | none =>
              rw [hr] at e0
              simp
              exact no _ e0
            | some ms =>
              rw [hr] at e0
              obtain ⟨hms, hM⟩ := rowsM_some hr
              have e0 : setOk M day (.tup [.tup ns, .int t]) = rowsOk t ms := e0
              rw [e0] at q
              subst hms
              rw [List.length_map] at hl1' hl2'
              simp only [Option.isSome_some, if_true]
              refine ⟨ms.map (·.1), by rw [List.map_map]; rfl, by rw [List.length_map]; omega, ?_⟩
              simp
              unfold rowsOk at q
              cases ha : asc (ms.map (·.1)) with
              | false =>
                rw [ha] at q
                simpa using q
              | true =>
                rw [ha, Bool.true_and] at q
                simp
                refine lcW_map (fun m : Int × Mem => D.int m.1) (fun m : Int × Mem => some (memD "line" m.2)) (fun m hm N hN => ?_) (by simp; omega) ?_
                · simpa [q_gM, q_var, T.look, hM m hm] using hN
                simp
                obtain ⟨m0, r0, rfl⟩ : ∃ m0 r0, ms = m0 :: r0 := by
                  cases ms with
                  | nil => simp at hl1'
                  | cons a b => exact ⟨a, b, rfl⟩
                refine anyW_map (fun m : Int × Mem => memD "line" m.2) (fun m => !decide (m.2.reader = m0.2.reader)) (fun m hm N hN => ?_) ?_
                · simpa [q_gM, q_var, memD] using hN
                simp only [if_true]
                rw [← List.not_all_eq_any_not]
                replace q : Q (.val (.bl (((m0 :: r0).all fun m => decide (m.2.reader = m0.2.reader)) && (decide (((m0 :: r0).map fun m => m.2.work).Nodup) && ((m0 :: r0).all (fun m => fitsI t m.2) && (m0 :: r0).any fun m => decide (m.2.word ≠ .ready)))))) := q
                cases h1 : (m0 :: r0).all fun m => decide (m.2.reader = m0.2.reader) with
                | false =>
                  rw [h1] at q
                  simpa using q
                | true =>
                  rw [h1, Bool.true_and] at q
                  simp only [Bool.not_true, Bool.false_eq_true, if_false]
                  refine ⟨by omega, scW_map (fun m : Int × Mem => memD "line" m.2) (fun m => m.2.work) (fun m hm N hN => ?_) ?_⟩
                  · simpa [q_gM, q_var, memD] using hN
                  have hmany : many (((m0 :: r0).map fun m => m.2.work).reverse ++ []) < (m0 :: r0).length ↔ ¬ ((m0 :: r0).map fun m => m.2.work).Nodup := by
                    rw [List.append_nil, ← (List.reverse_perm _).nodup_iff, ← many_lt, List.length_reverse, List.length_map]
                  by_cases hnd : ((m0 :: r0).map fun m => m.2.work).Nodup
                  · rw [if_neg fun z => hmany.mp z hnd]
                    rw [decide_eq_true hnd, Bool.true_and] at q
                    refine anyW_map (fun m : Int × Mem => memD "line" m.2) (fun m => fitsI t m.2) (fun m hm N hN => ?_) ?_
                    · simp [q_gM, q_var]
                      exact ⟨m.2, t, rfl, T.way _ _ (hM m hm), hN⟩
                    simp only [Bool.false_eq_true, if_false]
                    cases h2 : (m0 :: r0).all fun m => fitsI t m.2 with
                    | false =>
                      rw [h2] at q
                      simpa using q
                    | true =>
                      rw [h2, Bool.true_and] at q
                      simp only [if_true]
                      refine anyW_map (fun m : Int × Mem => memD "line" m.2) (fun m => decide (m.2.word ≠ .ready)) (fun m hm N hN => ?_) ?_
                      · cases hw : m.2.word <;> simpa [q_gM, q_var, memD, hw, wdD, show ¬ (("line" : Str) = "ready") by decide, show ¬ (("way" : Str) = "ready") by decide] using hN
                      · simpa using q
                  · rw [if_pos (hmany.mpr hnd)]
                    rw [decide_eq_false hnd] at q
                    simpa using q
          · have e : setOk M day (.tup [.tup ns, .int t]) = false := by
              simp only [setOk, hI, Bool.true_and]
              have : (decide (2 ≤ ns.length) && decide (ns.length ≤ 4)) = false := by
                simp; omega
              rw [this, Bool.false_and]
            by_cases h1 : 2 ≤ (ns.length : Int)
            · have h2 : ¬ (ns.length : Int) ≤ 4 := fun z => hl ⟨h1, z⟩
              simp [h1, h2]
              exact no _ e
            · simp [h1]
              exact no _ e
        | .non, no => simp [isTupD]; exact no _ rfl
        | .bl _, no => simp [isTupD]; exact no _ rfl
        | .int _, no => simp [isTupD]; exact no _ rfl
        | .str _, no => simp [isTupD]; exact no _ rfl
        | .lst _, no => simp [isTupD]; exact no _ rfl
        | .dic _, no => simp [isTupD]; exact no _ rfl
      | _ => simp [inI] at hI
  | .non, no => simp [tupLen]; exact no _ rfl
  | .bl _, no => simp [tupLen]; exact no _ rfl
  | .int _, no => simp [tupLen]; exact no _ rfl
  | .str _, no => simp [tupLen]; exact no _ rfl
  | .lst _, no => simp [tupLen]; exact no _ rfl
  | .dic _, no => simp [tupLen]; exact no _ rfl
  | .tup [], no => simp [tupLen]; exact no _ rfl
  | .tup [x], no => simp [tupLen]; exact no _ (by simp [setOk])
  | .tup (x :: y :: z :: r), no =>
    have : ¬ ((r.length : Int) + 1 + 1 + 1 = 2) := by omega
    simp [tupLen, this]
    exact no false (by simp [setOk])
end K80


namespace K80
open PySem PySem.Spec PyProof.Rows L2 OW
variable {Q : R → Prop} {es : List E}
section
variable {w : W} {Q : E → W → Prop} {l : Str} {m : Mem}
@[simp] theorem m_0 : oIx (.d (memD l m)) (.d (.int 0)) w Q = Q (.d (.int m.reader)) w := by simp [memD]
@[simp] theorem m_1 : oIx (.d (memD l m)) (.d (.int 1)) w Q = Q (.d (.int m.work)) w := by simp [memD]
@[simp] theorem m_2 : oIx (.d (memD l m)) (.d (.int 2)) w Q = Q (.d (wdD l m.word)) w := by simp [memD]
@[simp] theorem m_3 : oIx (.d (memD l m)) (.d (.int 3)) w Q = Q (.d (optD m.day)) w := by simp [memD]
end
theorem c_in {v : D} {lo hi : Int} {Q : R → Prop} : sp_in [.d v, .d (.int lo), .d (.int hi)] Q = Q (.val (.bl (inI v lo hi))) :=
  propext ⟨fun ⟨v, lo, hi, e, q⟩ => by cases e; exact q, fun q => ⟨_, _, _, rfl, q⟩⟩
theorem asc_iff : ∀ {l : List Int}, asc l = true ↔ ∀ i (h : i + 1 < l.length), l[i] < l[i+1]
  | [] => by simp [asc]
  | [x] => by simp [asc]
  | a :: b :: r => by
    rw [asc, Bool.and_eq_true, decide_eq_true_eq, asc_iff]
    constructor
    · rintro ⟨h1, h2⟩ i h
      cases i with
      | zero => exact h1
      | succ i => exact h2 i (by simpa using h)
    · intro h
      exact ⟨h 0 (by simp), fun i hi => h (i + 1) (by simpa using hi)⟩
def okN (M : Int → Option Mem) (seen : List (Key × D)) : D → Bool
  | .int i => (M i).isSome && !(dlook seen (.inl i)).isSome
  | _ => false
def noSeenL (seen : List (Key × D)) (ns : List D) : Bool := ns.all fun n => match n with
  | .int i => !(dlook seen (.inl i)).isSome
  | _ => true
def noSeen (seen : List (Key × D)) : D → Bool
  | .tup [.tup ns, _] => noSeenL seen ns
  | _ => true
theorem okN_all {M : Int → Option Mem} {seen : List (Key × D)} : ∀ {ns : List D}, ns.all (okN M seen) = (ns.all (isMem M) && noSeenL seen ns)
  | [] => rfl
  | x :: r => by
    unfold noSeenL
    rw [List.all_cons, List.all_cons, List.all_cons, okN_all]
    unfold noSeenL
    cases x <;> simp [okN, isMem]
    rename_i i
    cases (M i).isSome <;> cases (dlook seen (.inl i)).isSome <;> simp [Bool.and_left_comm]
theorem setOk_mem {M : Int → Option Mem} {day : Int} {ns : List D} {y : D} (h : setOk M day (.tup [.tup ns, y]) = true) : ns.all (isMem M) = true := by
  cases y <;> first | (simp [setOk] at h; done) | skip
  rw [← rowsM_all]
  simp only [setOk, Bool.and_eq_true] at h
  cases e : rowsM M ns with
  | none => rw [e] at h; exact absurd h.2 (by simp)
  | some ms => rfl
def ascP (is : List Int) (i : Nat) : Bool := decide (is.getD i 0 < is.getD (i + 1) 0)
theorem asc_all {is : List Int} : asc is = (List.range (is.length - 1)).all (ascP is) := by
  rw [Bool.eq_iff_iff, asc_iff, List.all_eq_true]
  constructor
  · intro h i hi
    have hi : i + 1 < is.length := by have := List.mem_range.mp hi; omega
    unfold ascP
    rw [List.getD_eq_getElem?_getD, List.getD_eq_getElem?_getD, List.getElem?_eq_getElem hi, List.getElem?_eq_getElem (by omega)]
    exact decide_eq_true (h i hi)
  · intro h i hi
    have := h i (List.mem_range.mpr (by omega))
    unfold ascP at this
    rw [List.getD_eq_getElem?_getD, List.getD_eq_getElem?_getD, List.getElem?_eq_getElem hi, List.getElem?_eq_getElem (by omega)] at this
    exact of_decide_eq_true this
theorem filt_pos {α β : Type} {p : α → Bool} {g : α → β} {xs : List α} : (xs.filterMap fun x => if p x = true then none else some (g x)).length = 0 ↔ xs.all p = true := by
  rw [List.length_eq_zero_iff, List.filterMap_eq_nil_iff, List.all_eq_true]
  constructor
  · intro h x hx
    have := h x hx
    cases e : p x
    · rw [e] at this; simp at this
    · rfl
  · intro h x hx
    rw [h x hx]; rfl
def okAt (t : Int) (ms : List (Int × Mem)) (k : Nat) (m : Mem) : Prop := m.reader = (ms.head?.map (·.2.reader)).getD 0 ∧ m.work ∉ (ms.take k).map (·.2.work) ∧ fitsI t m = true
theorem okAt_of {t : Int} {ms : List (Int × Mem)} {k : Nat} {m : Int × Mem} (hk : ms[k]? = some m) (ha : asc (ms.map (·.1)) = true) (h : ¬ okAt t ms k m.2) : rowsOk t ms = false := by
  have hmem := List.mem_of_getElem? hk
  cases e : rowsOk t ms with
  | false => rfl
  | true =>
    refine absurd ?_ h
    unfold rowsOk at e
    simp only [Bool.and_eq_true, decide_eq_true_eq, List.all_eq_true] at e
    obtain ⟨_, h1, h2, h3, _⟩ := e
    refine ⟨h1 m hmem, fun hin => ?_, h3 m hmem⟩
    have e1 : (ms.map (·.2.work)) = (ms.take k).map (·.2.work) ++ (ms.drop k).map (·.2.work) := by rw [← List.map_append, List.take_append_drop]
    rw [e1, List.nodup_append] at h2
    have hk2 := (List.getElem?_eq_some_iff.mp hk)
    obtain ⟨hlt, hge⟩ := hk2
    refine h2.2.2 _ hin m.2.work ?_ rfl
    rw [List.drop_eq_getElem_cons hlt, hge]
    simp
theorem rowsOk_of {t : Int} {ms : List (Int × Mem)} (ha : asc (ms.map (·.1)) = true) (h : ∀ k m, ms[k]? = some m → okAt t ms k m.2) : rowsOk t ms = ms.any (fun m => decide (m.2.word ≠ .ready)) := by
  unfold rowsOk
  have h1 : ms.all (fun m => decide (m.2.reader = (ms.head?.map (·.2.reader)).getD 0)) = true := by
    rw [List.all_eq_true]
    intro m hm
    obtain ⟨k, hk⟩ := List.getElem?_of_mem hm
    exact decide_eq_true (h k m hk).1
  have h3 : ms.all (fun m => fitsI t m.2) = true := by
    rw [List.all_eq_true]
    intro m hm
    obtain ⟨k, hk⟩ := List.getElem?_of_mem hm
    exact (h k m hk).2.2
  have h2 : (ms.map (·.2.work)).Nodup := by
    rw [List.nodup_iff_pairwise_ne, List.pairwise_iff_getElem]
    intro i j hi hj hij e
    rw [List.length_map] at hi hj
    have := (h j _ (List.getElem?_eq_getElem hj)).2.1
    apply this
    rw [List.getElem_map, List.getElem_map] at e
    rw [← e]
    refine List.mem_map.mpr ⟨ms[i], ?_, rfl⟩
    rw [List.mem_take_iff_getElem]
    exact ⟨i, by omega, rfl⟩
  rw [ha, h1, h3, decide_eq_true h2]
  simp
def sp_law_is_set : OW.Spec := fun es Q => ∃ (ds seen : List (Key × D)) (M : Int → Option Mem) (day : Int) (v : D), es = [.d v, .d (.dic ds), .d (.int day), .d (.dic seen)] ∧ Tab "wait" ds M ∧ Q (.val (.bl (setOk M day v && noSeen seen v)))
theorem p_law_is_set (h : sp_law_is_set es Q) : t_law_is_set sp_in { nx := fun _ => Q (.val .non), rt := Q } (startW 10 es) := by
  obtain ⟨ds, seen, M, day, v, rfl, T, q⟩ := h
  have no : setOk M day v = false → Q (.val (.bl false)) := fun e => by rw [e] at q; simpa using q
  simp only [t_law_is_set, startW, toL, q_seq, q_if, q_or, q_not, q_tOf, q_isiT, q_var, List.map_cons, List.map_nil, List.cons_append, List.nil_append, List.getElem?_cons_succ, List.getElem?_cons_zero]
  match v, no, q with
  | .tup [x, y], no, q =>
    simp [isTupD, List.replicate, q_var]
    match x, no, q with
    | .tup ns, no, q =>
      simp
      by_cases hl : 2 ≤ (ns.length : Int) ∧ (ns.length : Int) ≤ 4
      · obtain ⟨hl1, hl2⟩ := hl
        have hl1' : 2 ≤ ns.length := by omega
        have hl2' : ns.length ≤ 4 := by omega
        simp [hl1, hl2, q_gM, q_var]
        refine lcW_det (xs := ns) (fun x => if okN M seen x = true then none else some x) (fun z hz N hN => ?_) (by rw [sizeLine_eq]; omega) ?_
        · cases z with
          | int i =>
            cases hm : M i with
            | none =>
              simp [okN, hm] at hN
              by_cases h0 : 0 ≤ i
              · by_cases h1 : i ≤ 999999
                · simpa [q_gM, q_var, c_in, inI, T.look, hm, h0, h1] using hN
                · simpa [q_gM, q_var, c_in, inI, T.look, hm, h0, h1] using hN
              · simpa [q_gM, q_var, c_in, inI, T.look, hm, h0] using hN
            | some m =>
              obtain ⟨h0, h1⟩ := T.rg i m hm
              cases hs : dlook seen (.inl i) with
              | none => 
                simp [okN, hm, hs] at hN
                simpa [q_gM, q_var, c_in, inI, T.look, hm, h0, h1, hs] using hN
              | some d =>
                simp [okN, hm, hs] at hN
                simpa [q_gM, q_var, c_in, inI, T.look, hm, h0, h1, hs] using hN
          | _ => simpa [q_gM, q_var, c_in, inI, okN] using hN
        cases hok : ns.all (okN M seen) with
        | false =>
          rw [if_pos (Nat.pos_of_ne_zero fun z => by rw [filt_pos (g := fun x => x)] at z; rw [z] at hok; cases hok)]
          have : (setOk M day (.tup [.tup ns, y]) && noSeen seen (.tup [.tup ns, y])) = false := by
            rw [okN_all] at hok
            cases hs : setOk M day (.tup [.tup ns, y]) with
            | false => rfl
            | true =>
              rw [setOk_mem hs] at hok
              simpa [noSeen] using hok
          rw [this] at q
          exact q
        | true =>
          rw [if_neg (by rw [(filt_pos (g := fun x => x)).mpr hok]; omega)]
          rw [okN_all, Bool.and_eq_true] at hok
          have hns : noSeen seen (.tup [.tup ns, y]) = true := hok.2
          rw [hns, Bool.and_true] at q
          have hrr := hok.1
          rw [← rowsM_all] at hrr
          obtain ⟨ms, hr⟩ := Option.isSome_iff_exists.mp hrr
          obtain ⟨hms, hM⟩ := rowsM_some hr
          refine ⟨by omega, ?_⟩
          have hlen : ns.length = ms.length := by rw [hms, List.length_map]
          have hget : ∀ i : Nat, i < ms.length → atI ns (i : Int) = some (.int ((ms.map (·.1)).getD i 0)) := fun i hi => by
            rw [OW.atN, hms, List.getElem?_map, List.getElem?_eq_getElem hi, List.getD_eq_getElem?_getD, List.getElem?_map, List.getElem?_eq_getElem hi]
            rfl
          refine lcW_map (fun i : Nat => D.int (1 + (i : Int))) (fun i => if ascP (ms.map (·.1)) i = true then none else some (D.int (1 + (i : Int)))) (fun i hi N hN => ?_) (by simp; omega) ?_
          · have hi := List.mem_range.mp hi
            have g1 := hget i (by omega)
            have g2 := hget (i + 1) (by omega)
            have z1 : (1 + (i : Int)) - 1 = (i : Int) := by omega
            have z2 : (1 + (i : Int)) = ((i + 1 : Nat) : Int) := by omega
            simp only [q_gM, q_tOf, q_op, q_var, q_const, q_oInt0, q_ixT, List.getElem?_cons_succ, List.getElem?_cons_zero, List.set_cons_succ, List.set_cons_zero, pl1, if_true, z1, g1]
            rw [z2, g2]
            unfold ascP at hN
            by_cases hlt : (ms.map (·.1)).getD i 0 < (ms.map (·.1)).getD (i + 1) 0
            · have : ¬ (ms.map (·.1)).getD (i + 1) 0 ≤ (ms.map (·.1)).getD i 0 := by omega
              rw [decide_eq_true hlt] at hN
              refine ⟨rfl, ?_⟩
              rw [if_neg (by simpa using this)]
              exact hN
            · have : (ms.map (·.1)).getD (i + 1) 0 ≤ (ms.map (·.1)).getD i 0 := by omega
              rw [decide_eq_false hlt] at hN
              refine ⟨rfl, ?_⟩
              rw [if_pos (by simpa using this)]
              refine ⟨trivial, ?_⟩
              rw [← z2]
              exact hN
          rw [List.nil_append]
          have hasc : asc (ms.map (·.1)) = (List.range (ns.length - 1)).all (ascP (ms.map (·.1))) := by rw [asc_all, List.length_map, hlen]
          cases ha : asc (ms.map (·.1)) with
          | false =>
            rw [if_pos (Nat.pos_of_ne_zero fun z => by rw [filt_pos (g := fun i : Nat => D.int (1 + (i : Int)))] at z; rw [← hasc, ha] at z; cases z)]
            apply no
            cases hs : setOk M day (.tup [.tup ns, y]) with
            | false => rfl
            | true =>
              cases y <;> first | (simp [setOk] at hs; done) | skip
              simp [setOk, hr, rowsOk, ha] at hs
          | true =>
            rw [if_neg (by rw [(filt_pos (g := fun i : Nat => D.int (1 + (i : Int)))).mpr (hasc ▸ ha)]; omega)]
            rw [c_in]
            cases y with
            | int t =>
              cases hI : inI (.int t) (day + 1) 1000000 with
              | false =>
                simp
                apply no
                simp only [inI] at hI
                simp only [setOk, hI, Bool.false_and]
              | true =>
                simp only [inI] at hI
                have e0 : setOk M day (.tup [.tup ns, .int t]) = rowsOk t ms := by
                  simp only [setOk, hI, decide_eq_true hl1', decide_eq_true hl2', Bool.and_self, Bool.true_and, hr]
                rw [e0] at q
                simp
                subst hms
                refine lcW_map (fun m : Int × Mem => D.int m.1) (fun m : Int × Mem => some (memD "wait" m.2)) (fun m hm N hN => ?_) (by rw [List.length_nil]; omega) ?_
                · simpa [q_gM, q_var, T.look, hM m hm] using hN
                simp
                refine ⟨by omega, ?_⟩
                have hpos : 0 < ms.length := by omega
                refine forW_ind (fun k w => (∃ l, pl l = true ∧ w = [.v (.tup [.tup (ms.map fun m => .int m.1), .int t]), .v (.dic ds), .v (.int day), .v (.dic seen), .v (.lst (ms.map fun m => memD "wait" m.2)), l, .v (.tup (ms.map fun m => .int m.1)), .v (.int t), .un, .un]) ∧ ∀ j m, j < k → ms[j]? = some m → okAt t ms j m.2) ⟨⟨_, rfl, rfl⟩, fun j m h => absurd h (Nat.not_lt_zero _)⟩ ?_ ?_
                · rintro k w x hx ⟨⟨l, hl, rfl⟩, hj⟩ N hN
                  obtain ⟨rfl, hk⟩ := rg_get hx
                  rw [q_gP rfl hl]
                  have g1 : atI (ms.map fun m => memD "wait" m.2) (k : Int) = some (memD "wait" ms[k].2) := by
                    rw [OW.atN, List.getElem?_map, List.getElem?_eq_getElem hk]; rfl
                  have g0 : (ms.map fun m => memD "wait" m.2)[0]? = some (memD "wait" ms[0].2) := by
                    rw [List.getElem?_map, List.getElem?_eq_getElem hpos]; rfl
                  have hhead : (ms.head?.map (·.2.reader)).getD 0 = ms[0].2.reader := by
                    rw [List.head?_eq_getElem?, List.getElem?_eq_getElem hpos]; rfl
                  have hcut : OW.cutD (ms.map fun m => memD "wait" m.2) none (some (k : Int)) = (ms.take k).map fun m => memD "wait" m.2 := by
                    unfold OW.cutD HT.sIx
                    rw [List.length_map]
                    simp
                    rw [if_neg (by omega)]
                    omega
                  have bad : ¬ okAt t ms k ms[k].2 → Q (.val (.bl false)) := fun h => by
                    rw [okAt_of (List.getElem?_eq_getElem hk) ha h] at q
                    exact q
                  have good : okAt t ms k ms[k].2 → N [.v (.tup [.tup (ms.map fun m => .int m.1), .int t]), .v (.dic ds), .v (.int day), .v (.dic seen), .v (.lst (ms.map fun m => memD "wait" m.2)), .v (.int k), .v (.tup (ms.map fun m => .int m.1)), .v (.int t), .un, .un] := fun h => hN _ ⟨⟨_, rfl, rfl⟩, fun j m hjk hm => by
                    by_cases e : j = k
                    · subst e
                      rw [List.getElem?_eq_getElem hk] at hm
                      cases hm
                      exact h
                    · exact hj j m (by omega) hm⟩
                  by_cases r1 : ms[k].2.reader = ms[0].2.reader
                  · have sl : ∀ Q' : List D → Prop, Q' ((ms.take k).map fun m => D.int m.2.work) → lcW (gN 9) tYesW (eOp oIx (eVar 9) (eC (.int 1))) [.v (.tup [.tup (ms.map fun m => .int m.1), .int t]), .v (.dic ds), .v (.int day), .v (.dic seen), .v (.lst (ms.map fun m => memD "wait" m.2)), .v (.int k), .v (.tup (ms.map fun m => .int m.1)), .v (.int t), .un, .un] ((ms.take k).map fun m => memD "wait" m.2) [] Q' := fun Q' hQ => by
                      refine lcW_map (fun m : Int × Mem => memD "wait" m.2) (fun m : Int × Mem => some (D.int m.2.work)) (fun m hm N hN => ?_) (by simp; omega) ?_
                      · simpa [q_gM, q_var] using hN
                      · simpa using hQ
                    have hall : ((ms.take k).map fun m => D.int m.2.work).all flatD = true := by
                      rw [List.all_eq_true]
                      intro x hx
                      obtain ⟨m, _, rfl⟩ := List.mem_map.mp hx
                      rfl
                    have hany : (((ms.take k).map fun m => D.int m.2.work).any fun y => feq y (.int ms[k].2.work)) = decide (ms[k].2.work ∈ (ms.take k).map (·.2.work)) := by
                      rw [Bool.eq_iff_iff, List.any_eq_true, decide_eq_true_eq]
                      constructor
                      · rintro ⟨x, hx, e⟩
                        obtain ⟨m, hm, rfl⟩ := List.mem_map.mp hx
                        have : m.2.work = ms[k].2.work := by simpa [feq] using e
                        exact List.mem_map.mpr ⟨m, hm, this⟩
                      · intro h
                        obtain ⟨m, hm, e⟩ := List.mem_map.mp h
                        exact ⟨_, List.mem_map.mpr ⟨m, hm, rfl⟩, by simp [feq, e]⟩
                    by_cases hwk : ms[k].2.work ∈ (ms.take k).map (·.2.work)
                    · rw [decide_eq_true hwk] at hany
                      have bd := bad fun h => h.2.1 hwk
                      simp only [q_var, q_seq, q_if, q_or, q_tOf, q_op, q_const, q_ixL, q_ixT, q_ne1, q_eF, q_lc, q_iOf, q_slice, q_onone, q_osome, List.getElem?_cons_succ, List.getElem?_cons_zero, List.set_cons_succ, List.set_cons_zero, g1, g0, m_0, m_1, OW.atI_0, Int.zero_add, decide_eq_true r1, Bool.not_true, Bool.false_eq_true, if_false, q_itL2, hcut, q_okw, q_wipe, OW.plain1, true_and, flatD]
                      refine sl _ ?_
                      simp only [q_inL, hall, hany, flatD, if_true, Bool.false_eq_true, if_false, true_and, q_ret, q_const]
                      exact bd
                    · rw [decide_eq_false hwk] at hany
                      simp only [q_var, q_seq, q_if, q_or, q_tOf, q_op, q_const, q_ixL, q_ixT, q_ne1, q_eF, q_lc, q_iOf, q_slice, q_onone, q_osome, List.getElem?_cons_succ, List.getElem?_cons_zero, List.set_cons_succ, List.set_cons_zero, g1, g0, m_0, m_1, OW.atI_0, Int.zero_add, decide_eq_true r1, Bool.not_true, Bool.false_eq_true, if_false, q_itL2, hcut, q_okw, q_wipe, OW.plain1, true_and, flatD]
                      refine sl _ ?_
                      simp only [q_inL, hall, hany, flatD, Bool.false_eq_true, if_false, true_and]
                      have ok : fitsI t ms[k].2 = true → okAt t ms k ms[k].2 := fun h => ⟨by rw [hhead]; exact r1, hwk, h⟩
                      have nok : fitsI t ms[k].2 = false → Q (.val (.bl false)) := fun h => bad fun y => by rw [y.2.2] at h; cases h
                      cases hw : ms[k].2.word with
                      | ready =>
                        simp [q_var, g1, hw, wdD, show ¬ (("ready" : Str) = "wait") by decide, show ¬ (("ready" : Str) = "way") by decide]
                        exact good (ok (by simp [fitsI, hw]))
                      | line =>
                        cases hd : ms[k].2.day with
                        | none =>
                          simp [q_var, g1, hw, wdD, hd, optD]
                          exact nok (by simp [fitsI, hw, hd])
                        | some d =>
                          by_cases hdt : d = t
                          · simp [q_var, g1, hw, wdD, hd, optD, hdt, show ¬ (("wait" : Str) = "way") by decide]
                            exact good (ok (by simp [fitsI, hw, hd, hdt]))
                          · simp [q_var, g1, hw, wdD, hd, optD, hdt]
                            exact nok (by simp [fitsI, hw, hd, hdt])
                      | way =>
                        cases hd : ms[k].2.day with
                        | none => exact absurd hd (T.way _ _ (hM _ (List.getElem_mem hk)) hw)
                        | some d =>
                          by_cases hdt : t < d
                          · simp [q_var, g1, hw, wdD, hd, optD, hdt, show ¬ (("way" : Str) = "wait") by decide]
                            exact nok (by simp [fitsI, hw, hd]; omega)
                          · simp [q_var, g1, hw, wdD, hd, optD, hdt, show ¬ (("way" : Str) = "wait") by decide]
                            exact good (ok (by simp [fitsI, hw, hd]; omega))
                  · simp [q_var, g1, g0, r1]
                    exact bad fun h => r1 (by rw [← hhead]; exact h.1)
                · rintro w ⟨⟨l, hl, rfl⟩, hj⟩
                  rw [rg_len] at hj
                  rw [rowsOk_of ha fun k m hk => hj k m (List.getElem?_eq_some_iff.mp hk).1 hk] at q
                  simp [q_var]
                  refine lcW_map (fun m : Int × Mem => memD "wait" m.2) (fun m : Int × Mem => if decide (m.2.word = .ready) = true then none else some (memD "wait" m.2)) (fun m hm N hN => ?_) (by rw [List.length_nil]; omega) ?_
                  · cases hw : m.2.word <;> rw [hw] at hN <;> simpa [q_gM, q_var, hw, wdD, show ¬ (("wait" : Str) = "ready") by decide, show ¬ (("way" : Str) = "ready") by decide] using hN
                  · rw [List.nil_append]
                    have e : decide (0 < (ms.filterMap fun m => if decide (m.2.word = .ready) = true then none else some (memD "wait" m.2)).length) = ms.any fun m => decide (m.2.word ≠ .ready) := by
                      rw [Bool.eq_iff_iff, decide_eq_true_eq, Nat.pos_iff_ne_zero, ne_eq, filt_pos (g := fun m : Int × Mem => memD "wait" m.2)]
                      simp
                    rw [e]
                    exact q
            | _ => simp [inI]; exact no rfl
      · have e : setOk M day (.tup [.tup ns, y]) = false := by
          have : (decide (2 ≤ ns.length) && decide (ns.length ≤ 4)) = false := by
            simp; omega
          cases y <;> first | rfl | skip
          simp only [setOk, this, Bool.and_false, Bool.false_and]
        by_cases h1 : 2 ≤ (ns.length : Int)
        · have h2 : ¬ (ns.length : Int) ≤ 4 := fun z => hl ⟨h1, z⟩
          simp [h1, h2]
          exact no e
        · simp [h1]
          exact no e
    | .non, no, q => simp; exact no rfl
    | .bl _, no, q => simp; exact no rfl
    | .int _, no, q => simp; exact no rfl
    | .str _, no, q => simp; exact no rfl
    | .lst _, no, q => simp; exact no rfl
    | .dic _, no, q => simp; exact no rfl
  | .non, no, q => simp [isTupD]; exact no rfl
  | .bl _, no, q => simp [isTupD]; exact no rfl
  | .int _, no, q => simp [isTupD]; exact no rfl
  | .str _, no, q => simp [isTupD]; exact no rfl
  | .lst _, no, q => simp [isTupD]; exact no rfl
  | .dic _, no, q => simp [isTupD]; exact no rfl
  | .tup [], no, q => simp [isTupD]; exact no rfl
  | .tup [x], no, q => simp [isTupD]; exact no (by simp [setOk])
  | .tup (x :: y :: z :: r), no, q =>
    have : ¬ ((r.length : Int) + 1 + 1 + 1 = 2) := by omega
    simp [isTupD, this]
    exact no (by simp [setOk])
end K80


namespace K80
open PySem PySem.Spec PyProof.Rows L2 OW
variable {Q : R → Prop} {es : List E}
/-! ### check_sets, _law_fault -/
def numsL : List D → List Int
  | [] => []
  | .int i :: r => i :: numsL r
  | _ :: r => numsL r
def nums : D → List Int
  | .tup [.tup ns, _] => numsL ns
  | _ => []
def seenAt (xs : List D) (k : Nat) : List Int := ((xs.take k).map nums).flatten
def goodAt (M : Int → Option Mem) (day : Int) (xs : List D) (k : Nat) : Bool :=
  setOk M day (xs.getD k .non) && ((nums (xs.getD k .non)).all (fun n => decide (n ∉ seenAt xs k)) && (decide (k = 0) || dlt (xs.getD (k - 1) .non) (xs.getD k .non)))
/-- the first that is not good -/
def outcome (M : Int → Option Mem) (day : Int) : D → Option Int
  | .tup xs => ((List.range xs.length).find? fun k => !goodAt M day xs k).map fun (k : Nat) => (k : Int)
  | _ => some (-1)
/-- what a set looks like -/
theorem setOk_shape {M : Int → Option Mem} {day : Int} {v : D} (h : setOk M day v = true) : ∃ (is : List Int) (t : Int), v = .tup [.tup (is.map .int), .int t] ∧ is.length ≤ 4 := by
  match v, h with
  | .tup [.tup ns, .int t], h =>
    simp only [setOk, Bool.and_eq_true] at h
    obtain ⟨⟨_, ⟨_, h2⟩⟩, h3⟩ := h
    cases e : rowsM M ns with
    | none => rw [e] at h3; simp at h3
    | some ms =>
      obtain ⟨h4, _⟩ := rowsM_some e
      refine ⟨ms.map (·.1), t, by rw [h4, List.map_map]; rfl, ?_⟩
      rw [h4, List.length_map] at h2
      rw [List.length_map]
      exact of_decide_eq_true h2
theorem pys_ints : ∀ {is : List Int}, pys (is.map .int) = is.map .int
  | [] => rfl
  | i :: r => by
    show py (.int i) :: pys (r.map .int) = _
    rw [pys_ints]
    rfl
theorem noDics_ints : ∀ {is : List Int}, noDics (is.map .int) = true
  | [] => rfl
  | i :: r => by
    show (noDic (.int i) && noDics (r.map .int)) = true
    rw [noDics_ints]
    rfl
theorem alike_ints : ∀ {is js : List Int}, PySem.W.alikeAll (is.map .int) (js.map .int) = true
  | [], [] => rfl
  | [], _ :: _ => rfl
  | _ :: _, [] => rfl
  | i :: r, j :: s => by
    show (PySem.W.alike (.int i) (.int j) && PySem.W.alikeAll (r.map .int) (s.map .int)) = true
    rw [alike_ints]
    rfl
theorem depth_ints : ∀ {is : List Int}, PyData.depthAll (is.map .int) ≤ 1
  | [] => by simp [PyData.depthAll]
  | i :: r => by
    have := depth_ints (is := r)
    simp [PyData.depthAll, PyData.depth]
    omega
theorem lt_sets {is js : List Int} {t u : Int} : okLt (.tup [.tup (is.map .int), .int t]) (.tup [.tup (js.map .int), .int u]) = true := by
  have h1 : ∀ (is : List Int) (t : Int), noDic (.tup [.tup (is.map .int), .int t]) = true := fun is t => by
    simp [noDic, noDics, noDics_ints]
  have h2 : PySem.W.alike (py (.tup [.tup (is.map .int), .int t])) (py (.tup [.tup (js.map .int), .int u])) = true := by
    simp [py, pys, pys_ints, PySem.W.alike, PySem.W.alikeAll, alike_ints]
  have h3 : (py (.tup [.tup (is.map .int), .int t])).depth ≤ 64 := by
    have := depth_ints (is := is)
    simp [py, pys, pys_ints, PyData.depth, PyData.depthAll]
    omega
  unfold okLt
  rw [h1, h1, h2]
  simp [isNonD]
  omega
theorem q_ltS {is js : List Int} {t u : Int} {w : W} {Q : E → W → Prop} : oLtA (.d (.tup [.tup (is.map .int), .int t])) (.d (.tup [.tup (js.map .int), .int u])) w Q = Q (.d (.bl (dlt (.tup [.tup (is.map .int), .int t]) (.tup [.tup (js.map .int), .int u])))) w := by
  show (okLt _ _ = true ∧ _) = _
  rw [lt_sets]
  simp
theorem numsL_ints : ∀ {is : List Int}, numsL (is.map .int) = is
  | [] => rfl
  | i :: r => by
    show i :: numsL (r.map .int) = _
    rw [numsL_ints]
/-- the turns that note what is met -/
theorem p_met {body : SW} {E0 : En} (mk : List (Key × D) → L → W) (hl : ∀ (i : Int) (ds : List (Key × D)) (l : L) (N : W → Prop), pl l = true → ds.length < 16777216 → N (mk (dputD ds (.inl i) (.bl true)) (.v (.int i))) → gN 6 (.int i) (mk ds l) fun w1 => body { E0 with nx := N, ct := N, bk := E0.nx } w1)
    {is : List Int} {ds : List (Key × D)} {l : L} (hp : pl l = true) (hd : ds.length + is.length < 16777216) (hq : ∀ ds' l', pl l' = true → ds'.length ≤ ds.length + is.length → (∀ n, (dlook ds' (.inl n)).isSome = ((dlook ds (.inl n)).isSome || decide (n ∈ is))) → E0.nx (mk ds' l')) :
    forW (gN 6) body (is.map .int) E0 (mk ds l) := by
  refine forW_ind (fun k w => ∃ ds' l', pl l' = true ∧ ds'.length ≤ ds.length + k ∧ (∀ n, (dlook ds' (.inl n)).isSome = ((dlook ds (.inl n)).isSome || decide (n ∈ is.take k))) ∧ w = mk ds' l') ⟨ds, l, hp, by omega, fun n => by simp, rfl⟩ ?_ ?_
  · rintro k w x hx ⟨ds', l', hp', hl', hs, rfl⟩ N hN
    rw [List.getElem?_map] at hx
    obtain ⟨i, hi, rfl⟩ := Option.map_eq_some_iff.mp hx
    have hk := (List.getElem?_eq_some_iff.mp hi).1
    refine hl i ds' l' N hp' (by omega) (hN _ ⟨_, _, rfl, ?_, fun n => ?_, rfl⟩)
    · have := put_len (.inl i) ds' (.bl true)
      omega
    · rw [dlook_put, List.take_succ, hi]
      by_cases h : n = i
      · subst h
        simp
      · have : ¬ (Sum.inl n : Key) = .inl i := fun z => h (Sum.inl.inj z)
        rw [if_neg this, hs]
        simp [h]
  · rintro w ⟨ds', l', hp', hl', hs, rfl⟩
    rw [List.length_map] at hl' hs
    rw [List.take_length] at hs
    exact hq ds' l' hp' hl' hs
end K80
namespace K80
open PySem PySem.Spec PyProof.Rows L2 OW
variable {Q : R → Prop} {es : List E}
theorem ents_way {b : Lib} {s : Std} {e : Ent} (h : e ∈ entsL s ++ entsP b s) (hw : e.2.word = .way) : e.2.day ≠ none := by
  rcases List.mem_append.mp h with h | h
  · unfold entsL lineEs at h
    obtain ⟨l, hl, he⟩ := List.mem_flatten.mp h
    rw [List.mem_mapIdx] at hl
    obtain ⟨i, hi, rfl⟩ := hl
    obtain ⟨x, _, rfl⟩ := List.mem_map.mp he
    cases hw
  · unfold entsP heldEs at h
    obtain ⟨l, hl, he⟩ := List.mem_flatten.mp h
    obtain ⟨i, hi, rfl⟩ := List.getElem_of_mem hl
    rw [List.getElem_zipWith] at he
    generalize s.places[i]'(by rw [List.length_zipWith] at hi; omega) = p at he
    cases p <;> simp [plE] at he <;> subst he <;> simp
theorem memOf_mem {es : List Ent} {n : Int} {m : Mem} (h : memOf es n = some m) : (n, m) ∈ es := by
  unfold memOf at h
  obtain ⟨e, he, rfl⟩ := Option.map_eq_some_iff.mp h
  have h1 := List.find?_some he
  have h2 := List.mem_of_find?_eq_some he
  simp at h1
  subst h1
  exact h2
theorem tab_line {b : Lib} {s : Std} (F : Fit b s) : Tab "line" (putAll "line" [] (entsL s ++ entsP b s)) (memOf (entsL s ++ entsP b s)) where
  look n := by
    rw [look_all _ _ _ _ F.nd]
    cases memOf (entsL s ++ entsP b s) n <;> rfl
  way n m h hw := ents_way (memOf_mem h) hw
  rg n m h := F.rg _ (memOf_mem h)
theorem tab_wait {b : Lib} {s : Std} (F : Fit b s) : Tab "wait" (putAll "wait" [] (entsP b s ++ entsL s)) (memOf (entsL s ++ entsP b s)) where
  look n := by
    have nd : ((entsP b s ++ entsL s).map (·.1)).Nodup := (List.Perm.map _ List.perm_append_comm).nodup_iff.mp F.nd
    rw [look_all _ _ _ _ nd, memOf_swap F.nd]
    cases memOf (entsP b s ++ entsL s) n <;> rfl
  way n m h hw := ents_way (memOf_mem h) hw
  rg n m h := F.rg _ (memOf_mem h)
end K80


namespace OW
@[simp] theorem lend0 {w : W} : lend w [] = some [] := rfl
theorem lend1 {w : W} {x : E} {r : List E} : lend w (x :: r) = match lendE w x, lend w r with
    | some y, some ys => some (y :: ys)
    | _, _ => none := rfl
end OW
namespace K80
open PySem PySem.Spec PyProof.Rows L2 OW
variable {Q : R → Prop} {es : List E}
def faultD (o : Option Int) : D := match o with
  | some k => .int k
  | none => .non
def sp_law_fault : OW.Spec := fun es Q => ∃ b s v, es = [.d (libD b), .d (stdD s), .d v] ∧ Fit b s ∧ (∀ xs, v = .tup xs → xs.length < 1000) ∧ Q (.val (faultD (outcome (memOf (entsL s ++ entsP b s)) s.day v)))
/-- the first bad one -/
theorem find_bad {p : Nat → Bool} {n k : Nat} (hk : k < n) (h : ∀ j < k, p j = false) (hp : p k = true) : (List.range n).find? p = some k := by
  rw [List.find?_range_eq_some]
  exact ⟨hp, List.mem_range.mpr hk, fun j hj => by rw [h j hj]; rfl⟩
theorem find_no {p : Nat → Bool} {n : Nat} (h : ∀ j < n, p j = false) : (List.range n).find? p = none := by
  rw [List.find?_eq_none]
  intro x hx
  rw [h x (List.mem_range.mp hx)]
  simp
theorem seenAt_succ {xs : List D} {k : Nat} (hk : k < xs.length) : seenAt xs (k + 1) = seenAt xs k ++ nums (xs[k]) := by
  unfold seenAt
  rw [List.take_succ, List.getElem?_eq_getElem hk, List.map_append, List.flatten_append]
  simp only [Option.toList_some, List.map_cons, List.map_nil, List.flatten_cons, List.flatten_nil, List.append_nil]
theorem noSeen_nums {sn : List (Key × D)} {sl : List Int} (hs : ∀ n, (dlook sn (.inl n)).isSome = decide (n ∈ sl)) (is : List Int) (y : D) : noSeen sn (.tup [.tup (is.map .int), y]) = (nums (.tup [.tup (is.map .int), y])).all fun n => decide (n ∉ sl) := by
  show noSeenL sn (is.map .int) = (numsL (is.map .int)).all _
  rw [numsL_ints]
  unfold noSeenL
  induction is with
  | nil => rfl
  | cons i r ih =>
    rw [List.map_cons, List.all_cons, List.all_cons, ih]
    simp [hs]
theorem p_law_fault (h : sp_law_fault es Q) : t_law_fault sp_law_members sp_law_is_set { nx := fun _ => Q (.val .non), rt := Q } (startW 7 es) := by
  obtain ⟨b, s, v, rfl, F, hv, q⟩ := h
  simp only [t_law_fault, startW, toL, q_seq, q_if, q_not, q_tOf, q_isiT, q_var, List.map_cons, List.map_nil, List.cons_append, List.nil_append, List.getElem?_cons_succ, List.getElem?_cons_zero]
  match v, hv, q with
  | .tup xs, hv, q =>
    have hlen := hv xs rfl
    simp [isTupD, List.replicate, q_var]
    refine ⟨b, s, rfl, F, ?_⟩
    simp
    refine ⟨by omega, ?_⟩
    have T := tab_wait F
    have q : Q (.val (faultD (((List.range xs.length).find? fun k => !goodAt (memOf (entsL s ++ entsP b s)) s.day xs k).map fun (k : Nat) => (k : Int)))) := q
    generalize memOf (entsL s ++ entsP b s) = M at T q
    generalize putAll "wait" [] (entsP b s ++ entsL s) = ds at T
    refine forW_ind (fun k w => (∃ sn l5 l6, pl l5 = true ∧ pl l6 = true ∧ sn.length ≤ 4 * k ∧ (∀ n, (dlook sn (.inl n)).isSome = decide (n ∈ seenAt xs k)) ∧ w = [.v (libD b), .v (stdD s), .v (.tup xs), .v (.dic ds), .ownD sn, l5, l6]) ∧ ∀ j < k, goodAt M s.day xs j = true) ⟨⟨_, _, _, rfl, rfl, by simp, fun n => by simp [dlook, seenAt], rfl⟩, fun j h => absurd h (Nat.not_lt_zero _)⟩ ?_ ?_
    · rintro k w x hx ⟨⟨sn, l5, l6, h5, h6, hsl, hs, rfl⟩, hj⟩ N hN
      obtain ⟨rfl, hk⟩ := rg_get hx
      rw [q_gP rfl h5]
      have g1 : atI xs (k : Int) = some xs[k] := by rw [OW.atN, List.getElem?_eq_getElem hk]
      have gd : xs.getD k .non = xs[k] := by rw [List.getD_eq_getElem?_getD, List.getElem?_eq_getElem hk]; rfl
      have bad : goodAt M s.day xs k = false → Q (.val (.int k)) := fun h => by
        rw [find_bad hk (fun j hj' => by rw [hj j hj']; rfl) (by rw [h]; rfl)] at q
        exact q
      simp [q_var, g1, lend1, lendE, eFnB]
      refine ⟨_, _, _, _, _, rfl, T, ?_⟩
      cases hso : setOk M s.day xs[k] with
      | false =>
        simp [flatD]
        exact bad (by simp only [goodAt, gd, hso, Bool.false_and])
      | true =>
        obtain ⟨is, t, e, hl4⟩ := setOk_shape hso
        have hnn := noSeen_nums hs is (.int t)
        rw [← e] at hnn
        cases hn : noSeen sn xs[k] with
        | false =>
          simp [flatD]
          rw [hn] at hnn
          exact bad (by simp only [goodAt, gd, ← hnn, Bool.false_and, Bool.and_false])
        | true =>
          rw [hn] at hnn
          have nxt : goodAt M s.day xs k = true → forW (gN 6) (sDput 4 (eVar 6) (eC (.bl true))) (is.map .int) { nx := N, rt := Q, bk := sRet (eC .non) { nx := fun x => Q (.val .non), rt := Q }, ct := N } [.v (libD b), .v (stdD s), .v (.tup xs), .v (.dic ds), .ownD sn, .v (.int k), l6] := fun hg => by
            refine p_met (fun ds' l => [.v (libD b), .v (stdD s), .v (.tup xs), .v (.dic ds), .ownD ds', .v (.int k), l]) (fun i ds' l N hp hd hN => ?_) h6 (by omega) fun ds' l' hp' hl' hs' => hN _ ⟨⟨ds', _, l', rfl, hp', by omega, fun n => ?_, rfl⟩, fun j hjk => ?_⟩
            · simp [q_gM, hp, q_dput, q_var, keyD]
              exact ⟨hd, hN⟩
            · rw [hs', hs, seenAt_succ hk, e]
              show _ = decide (n ∈ seenAt xs k ++ numsL (is.map .int))
              rw [numsL_ints]
              simp
            · by_cases z : j = k
              · rw [z]; exact hg
              · exact hj j (by omega)
          by_cases hk0 : k = 0
          · have hg : goodAt M s.day xs k = true := by simp only [goodAt, gd, hso, ← hnn, decide_eq_true hk0, Bool.true_or, Bool.and_self]
            have hk1 : ¬ 0 < k := by omega
            simp [flatD, hk1, q_var, g1, e]
            exact nxt hg
          · have hk1 : 0 < k := by omega
            have hk2 : k - 1 < xs.length := by omega
            have g2 : atI xs ((k : Int) - 1) = some xs[k-1] := by
              rw [show ((k : Int) - 1) = ((k - 1 : Nat) : Int) by omega, OW.atN, List.getElem?_eq_getElem hk2]
            have gd2 : xs.getD (k - 1) .non = xs[k-1] := by rw [List.getD_eq_getElem?_getD, List.getElem?_eq_getElem hk2]; rfl
            have hp := hj (k - 1) (by omega)
            simp only [goodAt, Bool.and_eq_true] at hp
            rw [gd2] at hp
            obtain ⟨js, u, e2, _⟩ := setOk_shape hp.1
            have hgo : goodAt M s.day xs k = dlt xs[k-1] xs[k] := by
              simp only [goodAt, gd, gd2, hso, ← hnn, Bool.true_and, decide_eq_false hk0, Bool.false_or]
            rw [e, e2] at hgo
            cases hlt : dlt (.tup [.tup (js.map .int), .int u]) (.tup [.tup (is.map .int), .int t]) with
            | false =>
              simp [flatD, hk1, q_var, g1, g2, e, e2, q_ltS, hlt]
              exact bad (hgo.trans hlt)
            | true =>
              simp [flatD, hk1, q_var, g1, g2, e, e2, q_ltS, hlt]
              exact nxt (hgo.trans hlt)
    · rintro w ⟨⟨sn, l5, l6, h5, h6, hsl, hs, rfl⟩, hj⟩
      rw [rg_len] at hj
      rw [find_no fun j hj' => by rw [hj j hj']; rfl] at q
      exact q
  | .non, _, q => simp [isTupD]; exact q
  | .bl _, _, q => simp [isTupD]; exact q
  | .int _, _, q => simp [isTupD]; exact q
  | .str _, _, q => simp [isTupD]; exact q
  | .lst _, _, q => simp [isTupD]; exact q
  | .dic _, _, q => simp [isTupD]; exact q
end K80


namespace OW
open PySem PySem.Spec PyProof.Rows L2
theorem q_inB {w : W} {Q : E → W → Prop} {neg : Bool} {i : Int} {j : Nat} {ds : List (Key × D)} (h : w[j]? = some (.ownD ds)) : oIn neg (.d (.int i)) (.bor j) w Q = Q (.d (.bl (if neg then !(dlook ds (.inl i)).isSome else (dlook ds (.inl i)).isSome))) w := by
  unfold oIn itD
  simp only [h]
  rfl
@[simp] theorem q_raise {te : TW} {E0 : En} {w : W} : sRaise te E0 w = te w fun x _ => match x with
  | .d d => E0.ex d
  | _ => False := rfl
end OW
namespace K80
open PySem PySem.Spec PyProof.Rows L2 OW
variable {Q : R → Prop} {es : List E} {Ex : D → Prop}
def sp_check_sets : OW.SpecX := fun es Q Ex => ∃ b s v, es = [.d (libD b), .d (stdD s), .d v] ∧ Fit b s ∧ (∀ xs, v = .tup xs → xs.length < 1000) ∧ (match outcome (memOf (entsL s ++ entsP b s)) s.day v with
  | some k => Ex (.int k)
  | none => Q (.val .non))
theorem p_check_sets (h : sp_check_sets es Q Ex) : tcheck_sets sp_members_of sp_is_set { nx := fun _ => Q (.val .non), rt := Q, ex := Ex } (startW 7 es) := by
  obtain ⟨b, s, v, rfl, F, hv, q⟩ := h
  simp only [tcheck_sets, startW, toL, q_seq, q_if, q_not, q_tOf, q_isiT, q_var, List.map_cons, List.map_nil, List.cons_append, List.nil_append, List.getElem?_cons_succ, List.getElem?_cons_zero]
  match v, hv, q with
  | .tup xs, hv, q =>
    have hlen := hv xs rfl
    simp [isTupD, List.replicate, q_var]
    refine ⟨b, s, rfl, F, ?_⟩
    simp
    refine ⟨by omega, ?_⟩
    have T := tab_line F
    replace q : match ((List.range xs.length).find? fun k => !goodAt (memOf (entsL s ++ entsP b s)) s.day xs k).map (fun (k : Nat) => (k : Int)) with
      | some k => Ex (.int k)
      | none => Q (.val .non) := q
    generalize memOf (entsL s ++ entsP b s) = M at T q
    generalize putAll "line" [] (entsL s ++ entsP b s) = ds at T
    refine forW_ind (fun k w => (∃ sn l5 l6, pl l5 = true ∧ pl l6 = true ∧ sn.length ≤ 4 * k ∧ (∀ n, (dlook sn (.inl n)).isSome = decide (n ∈ seenAt xs k)) ∧ w = [.v (libD b), .v (stdD s), .v (.tup xs), .v (.dic ds), .ownD sn, l5, l6]) ∧ ∀ j < k, goodAt M s.day xs j = true) ⟨⟨_, _, _, rfl, rfl, by simp, fun n => by simp [dlook, seenAt], rfl⟩, fun j h => absurd h (Nat.not_lt_zero _)⟩ ?_ ?_
    · rintro k w x hx ⟨⟨sn, l5, l6, h5, h6, hsl, hs, rfl⟩, hj⟩ N hN
      obtain ⟨rfl, hk⟩ := rg_get hx
      rw [q_gP rfl h5]
      have g1 : atI xs (k : Int) = some xs[k] := by rw [OW.atN, List.getElem?_eq_getElem hk]
      have gd : xs.getD k .non = xs[k] := by rw [List.getD_eq_getElem?_getD, List.getElem?_eq_getElem hk]; rfl
      have bad : goodAt M s.day xs k = false → Ex (.int k) := fun h => by
        rw [find_bad hk (fun j hj' => by rw [hj j hj']; rfl) (by rw [h]; rfl)] at q
        exact q
      simp [q_var, g1]
      refine ⟨_, _, _, _, rfl, T, ?_⟩
      cases hso : setOk M s.day xs[k] with
      | false =>
        simp
        exact bad (by simp only [goodAt, gd, hso, Bool.false_and])
      | true =>
        obtain ⟨is, t, e, hl4⟩ := setOk_shape hso
        have hnum : nums xs[k] = is := by rw [e]; exact numsL_ints
        have any : ∀ Q' : Bool → Prop, Q' (is.any fun n => decide (n ∈ seenAt xs k)) → anyW true (gN 6) (eOp (oIn false) (eVar 6) (eVar 4)) [.v (libD b), .v (stdD s), .v (.tup xs), .v (.dic ds), .ownD sn, .v (.int k), .un] (is.map .int) Q' := fun Q' hQ => by
          refine anyW_map D.int (fun n => decide (n ∈ seenAt xs k)) (fun n hn N hN => ?_) hQ
          rw [← hs] at hN
          simp [q_gM, q_var]
          rw [q_inB (ds := sn) rfl]
          exact ⟨rfl, hN⟩
        have h6' : plainL l6 = true := by cases l6 <;> first | rfl | (simp [pl] at h6)
        have nxt : goodAt M s.day xs k = true → ∀ X : W → Prop, forW (gN 6) (sDput 4 (eVar 6) (eC (.bl true))) (is.map .int) { nx := N, rt := Q, bk := X, ct := N, ex := Ex } [.v (libD b), .v (stdD s), .v (.tup xs), .v (.dic ds), .ownD sn, .v (.int k), l6] := fun hg X => by
            refine p_met (fun ds' l => [.v (libD b), .v (stdD s), .v (.tup xs), .v (.dic ds), .ownD ds', .v (.int k), l]) (fun i ds' l N hp hd hN => ?_) h6 (by omega) fun ds' l' hp' hl' hs' => hN _ ⟨⟨ds', _, l', rfl, hp', by omega, fun n => ?_, rfl⟩, fun j hjk => ?_⟩
            · simp [q_gM, hp, q_dput, q_var, keyD]
              exact ⟨hd, hN⟩
            · rw [hs', hs, seenAt_succ hk, hnum]
              simp
            · by_cases z : j = k
              · rw [z]; exact hg
              · exact hj j (by omega)
        simp [q_var, g1, e, h6']
        refine any _ ?_
        have hall : ((nums xs[k]).all fun n => decide (n ∉ seenAt xs k)) = !(is.any fun n => decide (n ∈ seenAt xs k)) := by
          rw [hnum, List.not_any_eq_all_not]
          congr 1
          funext n
          simp
        cases hn : is.any fun n => decide (n ∈ seenAt xs k) with
        | true =>
          rw [hn] at hall
          simp
          exact bad (by simp only [goodAt, gd, hall, Bool.not_true, Bool.false_and, Bool.and_false])
        | false =>
          rw [hn] at hall
          by_cases hk0 : k = 0
          · have hg : goodAt M s.day xs k = true := by simp only [goodAt, gd, hso, hall, decide_eq_true hk0, Bool.not_false, Bool.true_or, Bool.and_self]
            have hk1 : ¬ 0 < k := by omega
            simp [hk1, q_var, g1, e]
            exact nxt hg _
          · have hk1 : 0 < k := by omega
            have hk2 : k - 1 < xs.length := by omega
            have g2 : atI xs ((k : Int) - 1) = some xs[k-1] := by
              rw [show ((k : Int) - 1) = ((k - 1 : Nat) : Int) by omega, OW.atN, List.getElem?_eq_getElem hk2]
            have gd2 : xs.getD (k - 1) .non = xs[k-1] := by rw [List.getD_eq_getElem?_getD, List.getElem?_eq_getElem hk2]; rfl
            have hp := hj (k - 1) (by omega)
            simp only [goodAt, Bool.and_eq_true] at hp
            rw [gd2] at hp
            obtain ⟨js, u, e2, _⟩ := setOk_shape hp.1
            have hgo : goodAt M s.day xs k = dlt xs[k-1] xs[k] := by
              simp only [goodAt, gd, gd2, hso, hall, Bool.not_false, Bool.true_and, decide_eq_false hk0, Bool.false_or]
            rw [e, e2] at hgo
            cases hlt : dlt (.tup [.tup (js.map .int), .int u]) (.tup [.tup (is.map .int), .int t]) with
            | false =>
              simp [hk1, q_var, g1, g2, e, e2, q_ltS, hlt]
              exact bad (hgo.trans hlt)
            | true =>
              simp [hk1, q_var, g1, g2, e, e2, q_ltS, hlt]
              exact nxt (hgo.trans hlt) _
    · rintro w ⟨⟨sn, l5, l6, h5, h6, hsl, hs, rfl⟩, hj⟩
      rw [rg_len] at hj
      rw [find_no fun j hj' => by rw [hj j hj']; rfl] at q
      exact q
  | .non, _, q => simp [isTupD]; exact q
  | .bl _, _, q => simp [isTupD]; exact q
  | .int _, _, q => simp [isTupD]; exact q
  | .str _, _, q => simp [isTupD]; exact q
  | .lst _, _, q => simp [isTupD]; exact q
  | .dic _, _, q => simp [isTupD]; exact q
end K80


namespace K80
open PySem PySem.Spec PyProof.Rows L2 OW
variable {Q : R → Prop} {es : List E}
/-! ### the draws -/
def seqD : D → Option (List D)
  | .tup xs => some xs
  | .lst xs => some xs
  | _ => none
/-- _law_pick: one of them -/
def sp_law_pick : OW.Spec := fun es Q => ∃ v xs, es = [.st, .d v] ∧ seqD v = some xs ∧ xs ≠ [] ∧ xs.length < 1000000 ∧ ∀ x ∈ xs, Q (.val x)
theorem p_law_pick (h : sp_law_pick es Q) : t_law_pick sp_law_take { nx := fun _ => Q (.val .non), rt := Q } (startW 2 es) := by
  obtain ⟨v, xs, rfl, hv, hne, hl, q⟩ := h
  have h0 : 0 < xs.length := List.length_pos_iff.mpr hne
  have fin : ∀ r : Int, 0 ≤ r → r < xs.length → ∃ x, atI xs r = some x ∧ Q (.val x) := fun r h1 h2 => by
    have e : r = ((r.toNat : Nat) : Int) := by omega
    rw [e, OW.atN, List.getElem?_eq_getElem (by omega)]
    exact ⟨_, rfl, q _ (List.getElem_mem _)⟩
  cases v with
  | tup ys =>
    cases hv
    simp [t_law_pick, startW, toL, q_var]
    refine ⟨xs.length, rfl, by omega, by omega, fun r h1 h2 => ?_⟩
    obtain ⟨x, e, qx⟩ := fin r h1 h2
    simpa [e] using qx
  | lst ys =>
    cases hv
    simp [t_law_pick, startW, toL, q_var]
    refine ⟨xs.length, rfl, by omega, by omega, fun r h1 h2 => ?_⟩
    obtain ⟨x, e, qx⟩ := fin r h1 h2
    simpa [e] using qx
  | _ => cases hv
theorem q_app {i : Nat} {te : TW} {E0 : En} {w : W} : sAppend i te E0 w = (isOwn w[i]? ∧ te w fun x w1 => match x, w1[i]? with
    | .d d, some (.own xs) => xs.length < sizeLine ∧ E0.nx (w1.set i (.own (xs ++ [d])))
    | _, _ => False) := rfl
@[simp] theorem q_fcL {xs : List E} {w : W} {Qn : List D → W → Prop} {x : E} : fcList [x] w Qn = match itS w x with
  | some xs => Qn xs w
  | none => False := rfl
@[simp] theorem own1 {xs : List D} : isOwn (some (.own xs)) = True := rfl
/-- _law_shuffled: some order -/
def sp_law_shuffled : OW.Spec := fun es Q => ∃ v xs, es = [.st, .d v] ∧ seqD v = some xs ∧ xs.length < 1000000 ∧ ∀ ys : List D, ys.Perm xs → Q (.new ys)
theorem cut_hi {xs : List D} {k : Nat} (h : k ≤ xs.length) : OW.cutD xs none (some (k : Int)) = xs.take k := by
  unfold OW.cutD HT.sIx
  simp
  rw [if_neg (by omega)]
  omega
theorem cut_lo {xs : List D} {k : Nat} (h : k ≤ xs.length) : OW.cutD xs (some (k : Int)) none = xs.drop k := by
  unfold OW.cutD HT.sIx
  simp
  rw [if_neg (by omega), Nat.min_eq_left h]
  exact List.take_of_length_le (by simp)
theorem p_law_shuffled (h : sp_law_shuffled es Q) : t_law_shuffled sp_law_take { nx := fun _ => Q (.val .non), rt := Q } (startW 6 es) := by
  obtain ⟨v, xs, rfl, hv, hl, q⟩ := h
  have go : t_law_shuffled sp_law_take { nx := fun _ => Q (.val .non), rt := Q } [.st, .v v, .un, .un, .un, .un] := by
    have hlen : ∀ (w : W) (Q' : E → W → Prop), cLen [.d v] w Q' = Q' (.d (.int xs.length)) w := fun w Q' => by
      cases v <;> cases hv <;> rfl
    have hit : ∀ w : W, itS w (.d v) = some xs := fun w => by
      cases v <;> cases hv <;> rfl
    simp [t_law_shuffled, q_var, hit, hlen]
    refine ⟨by omega, ?_⟩
    refine forW_ind (fun k w => ∃ left fnd l4 l5, pl l4 = true ∧ (fnd ++ left).Perm xs ∧ left.length + k = xs.length ∧ w = [.st, .v v, .v (.lst left), .own fnd, l4, l5]) ⟨xs, [], _, _, rfl, by simp, by simp, rfl⟩ ?_ ?_
    · rintro k w x hx ⟨left, fnd, l4, l5, h4, hp, hk', rfl⟩ N hN
      obtain ⟨rfl, hk⟩ := rg_get hx
      rw [q_gP rfl h4]
      have hf : fnd.length ≤ xs.length := by
        have := hp.length_eq
        rw [List.length_append] at this
        omega
      simp [q_var]
      refine ⟨left.length, rfl, by omega, by omega, fun r h1 h2 => ?_⟩
      obtain ⟨j, rfl⟩ : ∃ j : Nat, r = (j : Int) := ⟨r.toNat, by omega⟩
      have hj : j < left.length := by omega
      have e1 : atI left (j : Int) = some left[j] := by rw [OW.atN, List.getElem?_eq_getElem hj]
      have c1 := cut_hi (xs := left) (k := j) (by omega)
      have c2 : OW.cutD left (some ((j : Int) + 1)) none = left.drop (j + 1) := by
        have := cut_lo (xs := left) (k := j + 1) (by omega)
        rw [← this]
        rfl
      simp [q_var, q_app, e1, c1, c2]
      refine ⟨by omega, by omega, hN _ ⟨_, _, _, _, rfl, ?_, ?_, rfl⟩⟩
      · refine List.Perm.trans ?_ hp
        rw [List.append_assoc]
        refine List.Perm.append_left _ ?_
        have e : left = left.take j ++ left[j] :: left.drop (j + 1) := by
          rw [← List.drop_eq_getElem_cons hj, List.take_append_drop]
        conv => rhs; rw [e]
        rw [List.singleton_append]
        exact List.perm_middle.symm
      · simp
        omega
    · rintro w ⟨left, fnd, l4, l5, h4, hp, hk', rfl⟩
      rw [rg_len] at hk'
      have : left = [] := List.length_eq_zero_iff.mp (by omega)
      subst this
      rw [List.append_nil] at hp
      exact q _ hp
  exact go
end K80


namespace K80
open PySem PySem.Spec PyProof.Rows L2 OW
variable {Q : R → Prop} {es : List E}
theorem atT {α : Type} {xs : List α} {r : Int} (h : 0 ≤ r) : atI xs r = xs[r.toNat]? := by
  obtain ⟨n, rfl⟩ := Int.eq_ofNat_of_zero_le h
  rw [OW.atN]
  rfl
/-! ### weeks -/
structure WeekD (d : D) : Prop where
  ex : ∃ ws : List Int, d = .tup (ws.map .int) ∧ ws.length = 7 ∧ ∃ i : Nat, i < 7 ∧ ws[i]? = some 1
def sp_law_next : OW.Spec := fun es Q => ∃ (wk : D) (day : Int), es = [.d wk, .d (.int day)] ∧ WeekD wk ∧ ∀ k : Int, Q (.val (.int k))
theorem p_law_next (h : sp_law_next es Q) : t_law_next { nx := fun _ => Q (.val .non), rt := Q } (startW 3 es) := by
  obtain ⟨_, day, rfl, ⟨ws, rfl, hl, i, hi, he⟩, q⟩ := h
  simp [t_law_next, startW, toL, q_var]
  refine forW_ind (fun k w => ∃ l, pl l = true ∧ w = [.v (.tup (ws.map .int)), .v (.int day), l] ∧ ∀ j : Nat, j < k → ws[((day + j) % 7).toNat]? ≠ some 1) ⟨_, rfl, rfl, fun j hj => absurd hj (Nat.not_lt_zero _)⟩ ?_ ?_
  · rintro k w x hx ⟨l, hp, rfl, hj⟩ N hN
    obtain ⟨rfl, hk⟩ := rg_get hx
    rw [q_gP rfl hp]
    have hlt : ((day + (k : Int)) % 7).toNat < ws.length := by
      have := Int.emod_lt_of_pos (day + (k : Int)) (show (0 : Int) < 7 by decide)
      omega
    have e1 : atI (ws.map D.int) ((day + (k : Int)) % 7) = some (.int ws[((day + (k : Int)) % 7).toNat]) := by
      rw [atT (Int.emod_nonneg _ (by decide)), List.getElem?_map, List.getElem?_eq_getElem hlt]; rfl
    by_cases h1 : ws[((day + (k : Int)) % 7).toNat] = 1
    · simp [q_var, e1, h1]
      exact q _
    · simp [q_var, e1, h1]
      refine hN _ ⟨_, rfl, rfl, fun j hjk => ?_⟩
      by_cases z : j = k
      · subst z
        rw [List.getElem?_eq_getElem hlt]
        intro y
        exact h1 (Option.some.inj y)
      · exact hj j (by omega)
  · rintro w ⟨l, hp, rfl, hj⟩
    exfalso
    rw [rg_len] at hj
    refine hj (((i : Int) - day) % 7).toNat ?_ ?_
    · have := Int.emod_lt_of_pos ((i : Int) - day) (show (0 : Int) < 7 by decide)
      have := Int.emod_nonneg ((i : Int) - day) (show (7 : Int) ≠ 0 by decide)
      omega
    · have h0 := Int.emod_nonneg ((i : Int) - day) (show (7 : Int) ≠ 0 by decide)
      have : (day + ((((i : Int) - day) % 7).toNat : Int)) % 7 = i := by
        rw [Int.toNat_of_nonneg h0]
        omega
      rw [this]
      exact he
def sp_law_nth : OW.Spec := fun es Q => ∃ (wk : D) (day n : Int), es = [.d wk, .d (.int day), .d (.int n)] ∧ WeekD wk ∧ 0 ≤ n ∧ n < 1000 ∧ ∀ k : Int, Q (.val (.int k))
theorem p_law_nth (h : sp_law_nth es Q) : t_law_nth sp_law_next { nx := fun _ => Q (.val .non), rt := Q } (startW 4 es) := by
  obtain ⟨wk, day, n, rfl, W, h0, h1, q⟩ := h
  simp [t_law_nth, startW, toL, q_var]
  refine ⟨by omega, by omega, ?_⟩
  refine forW_ind (fun k w => ∃ l d, pl l = true ∧ w = [.v wk, .v (.int d), .v (.int n), l]) ⟨_, _, rfl, rfl⟩ ?_ ?_
  · rintro k w x hx ⟨l, d, hp, rfl⟩ N hN
    rw [q_gP rfl hp]
    simp [q_var]
    exact ⟨wk, d + 1, rfl, W, fun r => hN _ ⟨_, _, rfl, rfl⟩⟩
  · rintro w ⟨l, d, hp, rfl⟩
    simpa [q_var] using q d
def sp_law_week : OW.Spec := fun es Q => es = [.st] ∧ ∀ d, WeekD d → Q (.val d)
theorem week_list {one : Int} {S : D → Option D → Prop} (hS : ∀ k o, S (.int k) o → ∃ b : Int, o = some (.int b) ∧ (k = one → b = 1)) : ∀ {n : Nat} {lo : Int} {ys : List D}, LcR S (rangeD lo n) ys → ∃ ws : List Int, ys = ws.map .int ∧ ws.length = n ∧ ∀ i : Nat, i < n → lo + i = one → ws[i]? = some 1
  | 0, lo, ys, h => by
    cases h
    exact ⟨[], rfl, rfl, fun i hi => absurd hi (Nat.not_lt_zero _)⟩
  | n + 1, lo, ys, h => by
    rw [rangeD_succ] at h
    cases h with
    | none hs t =>
      obtain ⟨b, e, _⟩ := hS _ _ hs
      cases e
    | some hs t =>
      obtain ⟨b, e, hb⟩ := hS _ _ hs
      cases e
      obtain ⟨ws, rfl, hl, hw⟩ := week_list hS t
      refine ⟨b :: ws, rfl, by simp [hl], fun i hi e => ?_⟩
      cases i with
      | zero =>
        have := hb (by simpa using e)
        simp [this]
      | succ i =>
        have := hw i (by omega) (by omega)
        simpa using this
theorem p_law_week (h : sp_law_week es Q) : t_law_week sp_law_take { nx := fun _ => Q (.val .non), rt := Q } (startW 4 es) := by
  obtain ⟨rfl, q⟩ := h
  simp [t_law_week, startW, toL, q_var, List.replicate]
  refine ⟨4, rfl, by decide, by decide, fun way h0 h1 => ?_⟩
  by_cases hw : way = 0
  · simp [hw]
    exact q _ ⟨[1, 1, 1, 1, 1, 1, 1], rfl, rfl, 0, by decide, rfl⟩
  · simp [hw]
    refine ⟨7, rfl, by decide, by decide, fun one g0 g1 => ?_⟩
    simp
    refine lcW_ok (fun x o => ∃ k : Int, x = .int k ∧ ∃ b : Int, o = some (.int b) ∧ (k = one → b = 1)) (fun x hx N hN => ?_) (by rw [sizeLine_eq]; simp) fun ys hy => ?_
    · obtain ⟨k, hk⟩ := List.getElem?_of_mem hx
      obtain ⟨rfl, _⟩ := rg_get hk
      have hN := fun b hb => hN _ ⟨_, rfl, b, rfl, hb⟩
      by_cases e1 : (0 + (k : Int)) = one
      · have e1' : (k : Int) = one := by omega
        simp [q_gM, q_var, e1']
        exact hN 1 (fun _ => rfl)
      · have e1' : ¬ (k : Int) = one := by omega
        by_cases e2 : 1 < way
        · simp [q_gM, q_var, e1', e2]
          refine ⟨2, rfl, by decide, by decide, fun r _ _ => ?_⟩
          simp
          exact hN _ fun z => absurd z e1
        · simp [q_gM, q_var, e1', e2]
          exact hN 0 fun z => absurd z e1
    · obtain ⟨ws, rfl, hl, hws⟩ := week_list (one := one) (fun k o ⟨k', e, b, eb, hb⟩ => by cases e; exact ⟨b, eb, hb⟩) hy
      simp
      exact q _ ⟨ws, rfl, hl, one.toNat, by omega, hws _ (by omega) (by omega)⟩
end K80


namespace K80
open PySem PySem.Spec PyProof.Rows L2 OW
variable {Q : R → Prop} {es : List E}
theorem c_take {n : Int} (h0 : 0 < n) (h1 : n < 2 ^ 30) (h : ∀ r : Int, 0 ≤ r → r < n → Q (.val (.int r))) : sp_law_take [.st, .d (.int n)] Q := ⟨n, rfl, h0, h1, h⟩
theorem c_pick {xs : List D} (h0 : xs ≠ []) (h1 : xs.length < 1000000) (h : ∀ x ∈ xs, Q (.val x)) : sp_law_pick [.st, .d (.lst xs)] Q := ⟨_, xs, rfl, rfl, h0, h1, h⟩
theorem c_pickT {xs : List D} (h0 : xs ≠ []) (h1 : xs.length < 1000000) (h : ∀ x ∈ xs, Q (.val x)) : sp_law_pick [.st, .d (.tup xs)] Q := ⟨_, xs, rfl, rfl, h0, h1, h⟩
theorem LcR.all {S : D → Option D → Prop} {Pr : D → Prop} (h : ∀ x d, S x (some d) → Pr d) : ∀ {xs ys : List D}, LcR S xs ys → (∀ d ∈ ys, Pr d) ∧ ys.length ≤ xs.length
  | _, _, .nil => ⟨fun _ h => by simp at h, Nat.le_refl _⟩
  | _, _, .some hs t => by
    obtain ⟨t1, t2⟩ := LcR.all h t
    refine ⟨fun d hd => ?_, by simp; exact t2⟩
    rcases List.mem_cons.mp hd with rfl | hd
    · exact h _ _ hs
    · exact t1 d hd
  | _, _, .none hs t => by
    obtain ⟨t1, t2⟩ := LcR.all h t
    exact ⟨t1, by simp; omega⟩
theorem q_par {i j : Nat} {ta : TWa} {E0 : En} {w : W} : sPar i j ta E0 w = ta w fun xs w1 => match xs with
  | [.d x, .d y] => E0.nx ((w1.set i (.v x)).set j (.v y))
  | _ => False := rfl
theorem q_tupC {x : E} {w : W} {Q : E → W → Prop} : cTuple [x] w Q = match itS w x with
  | some xs => Q (.d (.tup xs)) w
  | none => False := rfl
theorem q_itSB {w : W} {i : Nat} : itS w (.bor i) = match w[i]? with
  | some (.own xs) => some xs
  | _ => none := rfl
/-! ### _law_book -/
def HouseD (h : D) : Prop := ∃ wk a b c, h = .tup [wk, a, b, c] ∧ WeekD wk
def bookD (houses : List D) (classes : Int) (loans : D) (win : Int) (grace : D) : D := .tup [.tup houses, .int classes, loans, .int win, grace]
def sp_law_book : OW.Spec := fun es Q => ∃ many classes : Int, es = [.st, .d (.int many), .d (.int classes)] ∧ 1 ≤ many ∧ many ≤ 10 ∧ 1 ≤ classes ∧ classes ≤ 10 ∧
  ∀ houses : List D, (houses.length : Int) = many → (∀ h ∈ houses, HouseD h) → ∀ (loans : D) (win : Int) (grace : D), 1 ≤ win → win ≤ 14 → Q (.val (bookD houses classes loans win grace))
theorem p_law_book (h : sp_law_book es Q) : t_law_book sp_law_pick sp_law_week sp_law_take { nx := fun _ => Q (.val .non), rt := Q } (startW 16 es) := by
  obtain ⟨many, classes, rfl, m0, m1, c0, c1, q⟩ := h
  have hmc : many * classes ≤ 100 := Int.le_trans (Int.mul_le_mul_of_nonneg_right m1 (by omega)) (by omega)
  have hmc0 : 0 ≤ many * classes := Int.mul_nonneg (by omega) (by omega)
  simp [t_law_book, startW, toL, q_var, List.replicate]
  refine ⟨.inl ⟨by omega, by omega⟩, by omega, by omega, ?_⟩
  refine lcW_ok (fun x o => ∃ d, o = some d) (fun x hx N hN => ?_) (by rw [sizeLine_eq]; simp; omega) fun pairs hpairs => ?_
  · obtain ⟨k, hk⟩ := List.getElem?_of_mem hx
    obtain ⟨rfl, _⟩ := rg_get hk
    simp [q_gM, q_var, CDiv]
    exact ⟨⟨by omega, by omega⟩, by omega, hN _ ⟨_, rfl⟩⟩
  have hplen : pairs.length ≤ 100 := by
    have := (LcR.all (Pr := fun _ => True) (fun _ _ _ => trivial) hpairs).2
    rw [rg_len] at this
    omega
  rw [List.nil_append]
  refine ⟨by omega, by omega, ?_⟩
  refine forW_ind (fun k w => ∃ hs l5 l7 l8 l9 l10, pl l5 = true ∧ plainL l7 = true ∧ pl l8 = true ∧ pl l9 = true ∧ pl l10 = true ∧ hs.length = k ∧ (∀ h ∈ hs, HouseD h) ∧ w = [.st, .v (.int many), .v (.int classes), .v (.lst pairs), .own hs, l5, .un, l7, l8, l9, l10, .un, .un, .un, .un, .un]) ⟨[], _, _, _, _, _, rfl, rfl, rfl, rfl, rfl, rfl, fun h hh => by simp at hh, rfl⟩ ?_ ?_
  · rintro k w x hx ⟨hs, l5, l7, l8, l9, l10, h5, h7, h8, h9, h10, hk, hh, rfl⟩ N hN
    obtain ⟨rfl, hk2⟩ := rg_get hx
    rw [q_gP rfl h5]
    simp [q_var]
    refine c_pick (by simp) (by simp) fun often hof => ?_
    obtain ⟨o, rfl⟩ : ∃ o : Int, often = .int o := by
      simp at hof
      rcases hof with rfl | rfl | rfl | rfl <;> exact ⟨_, rfl⟩
    simp
    refine lcW_ok (fun x o => True) (fun x hx N hN => ?_) (by rw [sizeLine_eq, List.length_nil]; omega) fun circle hc => ?_
    · simp [q_gM, q_var]
      refine c_take (by decide) (by decide) fun r _ _ => ?_
      simp [q_var]
      split <;> exact hN _ trivial
    simp [q_var, h7]
    refine ⟨by omega, by omega, h7, ?_⟩
    simp only [List.set_cons_succ, List.set_cons_zero]
    refine lcW_ok (fun x o => True) (fun x hx N hN => ?_) (by rw [sizeLine_eq, List.length_nil, rg_len]; omega) fun ways hw => ?_
    · simp [q_gM, q_var]
      refine c_take (by decide) (by decide) fun r1 _ _ => ?_
      simp [q_var]
      refine c_take (by decide) (by decide) fun r2 _ _ => ?_
      simp
      exact c_pick (by simp) (by simp) fun z hz => hN _ trivial
    simp [q_var, q_app]
    refine ⟨trivial, rfl, fun wk W => ?_⟩
    simp [q_var]
    refine c_take (by decide) (by decide) fun r1 _ _ => ?_
    simp
    refine c_pick (by simp) (by simp) fun z hz => ?_
    simp
    refine ⟨by omega, hN _ ⟨_, _, _, _, _, _, rfl, h7, rfl, rfl, rfl, by simp [hk], fun h hm => ?_, rfl⟩⟩
    rcases List.mem_append.mp hm with hm | hm
    · exact hh h hm
    · simp at hm
      subst hm
      exact ⟨_, _, _, _, rfl, W⟩
  · rintro w ⟨hs, l5, l7, l8, l9, l10, h5, h7, h8, h9, h10, hk, hh, rfl⟩
    rw [rg_len] at hk
    simp [q_var]
    refine ⟨by omega, by omega, ?_⟩
    refine forW_ind (fun k w => ∃ ls l7, plainL l7 = true ∧ ls.length = k ∧ w = [.st, .v (.int many), .v (.int classes), .v (.lst pairs), .own hs, l5, .own ls, l7, l8, l9, l10, .un, .un, .un, .un, .un]) ⟨[], _, h7, rfl, rfl⟩ ?_ ?_
    · rintro k w x hx ⟨ls, l7, h7, hk3, rfl⟩ N hN
      obtain ⟨rfl, hk2⟩ := rg_get hx
      have h7' : pl l7 = true := by cases l7 <;> first | rfl | (simp [plainL] at h7)
      rw [q_gP rfl h7']
      simp [q_var, q_app]
      refine ⟨by omega, by omega, ?_⟩
      refine lcW_ok (fun x o => True) (fun x hx N hN => ?_) (by rw [sizeLine_eq]; simp; omega) fun kinds hw => ?_
      · simp [q_gM, q_var]
        refine c_take (by decide) (by decide) fun r1 _ _ => ?_
        simp [q_var]
        exact c_pick (by simp) (by simp) fun z hz => hN _ trivial
      simp
      exact ⟨by omega, hN _ ⟨_, _, rfl, by simp [hk3], rfl⟩⟩
    · rintro w ⟨ls, l7, h7, hk3, rfl⟩
      rw [rg_len] at hk3
      simp [q_var, q_par]
      refine c_take (by decide) (by decide) fun r1 g0 g1 => ?_
      simp [q_var]
      refine c_pick (by simp) (by simp) fun win hwin => ?_
      obtain ⟨wn, rfl, w0, w1⟩ : ∃ wn : Int, win = .int wn ∧ 1 ≤ wn ∧ wn ≤ 14 := by
        simp at hwin
        rcases hwin with rfl | rfl | rfl
        · exact ⟨_, rfl, by decide, by decide⟩
        · exact ⟨_, rfl, by decide, by decide⟩
        · exact ⟨_, rfl, by omega, by omega⟩
      simp [q_var]
      refine c_take (by decide) (by decide) fun r2 _ _ => ?_
      simp [q_var]
      refine c_pick (by simp) (by simp) fun grace hgr => ?_
      simp only [q_var, List.getElem?_cons_succ, List.getElem?_cons_zero]
      rw [q_tupC, q_itSB]
      simp only [List.getElem?_cons_succ, List.getElem?_cons_zero]
      rw [q_tupC, q_itSB]
      simp only [List.getElem?_cons_succ, List.getElem?_cons_zero, q_dats0, q_dats1, Option.map_some]
      refine ⟨(by decide : (5 : Nat) ≤ 16777216), ?_⟩
      exact q hs (by omega) hh _ wn grace w0 w1
end K80


namespace OW
open PySem PySem.Spec PyProof.Rows L2
@[simp] theorem q_rev {te : TW} {w : W} {Q : E → W → Prop} : eRev te w Q = te w fun x w1 => match x with
  | .d (.tup xs) => Q (.d (.tup xs.reverse)) w1
  | _ => False := rfl
@[simp] theorem q_str {i : Int} {w : W} {Q : E → W → Prop} : cStr [.d (.int i)] w Q = (i.natAbs.log2 < 1920 ∧ Q (.d (.str (toString i))) w) := rfl
theorem cut_len {xs : List D} {lo hi : Option Int} : (cutD xs lo hi).length ≤ xs.length := by
  unfold cutD
  rw [List.length_take, List.length_drop]
  omega
theorem cut_mem {xs : List D} {lo hi : Option Int} {x : D} (h : x ∈ cutD xs lo hi) : x ∈ xs := List.mem_of_mem_drop (List.mem_of_mem_take h)
end OW
namespace K80
open PySem PySem.Spec PyProof.Rows L2 OW
variable {Q : R → Prop} {es : List E}
/-! ### _law_same -/
def sp_same0 : OW.Spec := fun es Q => ∃ d, es = [.d d, .d d] ∧ flatD d = true ∧ Q (.val (.bl true))
theorem p_same0 {sp : OW.Spec} (h : sp_same0 es Q) : t_law_same sp { nx := fun _ => Q (.val .non), rt := Q } (startW 3 es) := by
  obtain ⟨d, rfl, hf, q⟩ := h
  cases d <;> first | (simp [flatD] at hf; done) | (simpa [t_law_same, startW, toL, q_var, isIntD, isBlD, isStrD, isTupD, isNonD] using q)
def sp_same1 : OW.Spec := fun es Q => ∃ xs : List D, es = [.d (.tup xs), .d (.tup xs)] ∧ xs.length < 1000 ∧ (∀ x ∈ xs, flatD x = true) ∧ Q (.val (.bl true))
theorem p_same1 (h : sp_same1 es Q) : t_law_same sp_same0 { nx := fun _ => Q (.val .non), rt := Q } (startW 3 es) := by
  obtain ⟨xs, rfl, hl, hf, q⟩ := h
  simp [t_law_same, startW, toL, q_var, isIntD, isBlD, isStrD, isTupD, isNonD]
  refine ⟨by omega, ?_⟩
  refine forW_ind (fun k w => ∃ l, pl l = true ∧ w = [.v (.tup xs), .v (.tup xs), l]) ⟨_, rfl, rfl⟩ ?_ ?_
  · rintro k w x hx ⟨l, hp, rfl⟩ N hN
    obtain ⟨rfl, hk⟩ := rg_get hx
    rw [q_gP rfl hp]
    have hk2 : k < xs.length := by simpa using hk
    have e1 : atI xs (k : Int) = some xs[k] := by rw [OW.atN, List.getElem?_eq_getElem hk2]
    simp [q_var, e1]
    exact ⟨xs[k], rfl, hf _ (List.getElem_mem _), hN _ ⟨_, rfl, rfl⟩⟩
  · rintro w ⟨l, hp, rfl⟩
    exact q
/-! ### _law_put -/
def putD : D → List Int → D → Option D
  | _, [], new => some new
  | .tup xs, k :: p, new => if 0 ≤ k ∧ xs.length < 1000 then (match xs[k.toNat]? with
    | some x => (putD x p new).map fun y => .tup (xs.set k.toNat y)
    | none => none) else none
  | _, _ :: _, _ => none
def pathD (p : List Int) : D := .tup (p.map .int)
def sp_put : Nat → OW.Spec
  | 0 => fun _ _ => False
  | n + 1 => fun es Q => ∃ (v : D) (p : List Int) (new r : D), es = [.d v, .d (pathD p), .d new] ∧ p.length ≤ n ∧ p.length ≤ 10 ∧ putD v p new = some r ∧ Q (.val r)
theorem can_ints : ∀ {is : List Int}, PyData.canLayAll0 (is.map PyData.int) = true
  | [] => rfl
  | i :: r => by
    show (PyData.canLay0 (.int i) && PyData.canLayAll0 (r.map .int)) = true
    rw [can_ints]
    rfl
theorem pys_ints2 : ∀ {is : List Int}, pys (is.map D.int) = is.map PyData.int
  | [] => rfl
  | i :: r => by
    show py (.int i) :: pys (r.map .int) = _
    rw [pys_ints2]
    rfl
theorem okEq_ints {is : List Int} : okEq (.tup (is.map .int)) = true := by
  have h := depth_ints (is := is)
  simp [okEq, noDic, noDics_ints, py, pys_ints2, SeqAt.shaped, PyData.canLay0, can_ints, PyData.depth]
  omega
theorem q_eqP {is : List Int} {w : W} {Q : E → W → Prop} : oEq (.d (.tup (is.map .int))) (.d (.tup [])) w Q = Q (.d (.bl is.isEmpty)) w := by
  show (okEq _ = true ∧ okEq (.tup (([] : List Int).map .int)) = true ∧ Q (.d (.bl (deq _ _))) w) = _
  have h3 : deq (.tup (is.map .int)) (.tup []) = is.isEmpty := by
    cases is with
    | nil => rfl
    | cons i r => rfl
  rw [okEq_ints, okEq_ints, h3]
  simp
theorem q_eqPc {i : Int} {r : List Int} {w : W} {Q : E → W → Prop} : oEq (.d (.tup (.int i :: r.map .int))) (.d (.tup [])) w Q = Q (.d (.bl false)) w := q_eqP (is := i :: r)
theorem q_eqPn {w : W} {Q : E → W → Prop} : oEq (.d (.tup [])) (.d (.tup [])) w Q = Q (.d (.bl true)) w := q_eqP (is := [])
theorem p_law_put {n : Nat} (h : sp_put (n + 1) es Q) : t_law_put (sp_put n) { nx := fun _ => Q (.val .non), rt := Q } (startW 4 es) := by
  obtain ⟨v, p, new, r, rfl, hn, h10, e, q⟩ := h
  cases p with
  | nil =>
    have e : some new = some r := by
      cases v <;> exact e
    cases e
    simp [t_law_put, startW, toL, q_var, pathD, q_eqPn]
    exact q
  | cons k p =>
    match v, e with
    | .tup xs, e =>
      unfold putD at e
      split at e
      · rename_i hl
        split at e
        · rename_i x hx
          obtain ⟨y, ey, rfl⟩ := Option.map_eq_some_iff.mp e
          obtain ⟨j, rfl⟩ := Int.eq_ofNat_of_zero_le hl.1
          rw [Int.toNat_natCast] at hx q
          have hk : j < xs.length := (List.getElem?_eq_some_iff.mp hx).1
          have e1 : atI xs (j : Int) = some x := by rw [OW.atN]; exact hx
          have c1 := cut_hi (xs := xs) (k := j) (by omega)
          have c2 : cutD xs (some ((j : Int) + 1)) none = xs.drop (j + 1) := by
            have := cut_lo (xs := xs) (k := j + 1) (by omega)
            rw [← this]
            rfl
          have c3 : cutD (.int (j : Int) :: p.map .int) (some 1) none = p.map .int := by
            have := cut_lo (xs := .int (j : Int) :: p.map .int) (k := 1) (by simp)
            exact this
          obtain ⟨m, rfl⟩ : ∃ m, n = m + 1 := ⟨n - 1, by simp at hn; omega⟩
          simp at hn h10
          simp [t_law_put, startW, toL, q_var, pathD, q_eqPc, e1, c1, c2, c3, List.replicate]
          refine ⟨x, p, new, y, rfl, hn, by omega, ey, ?_⟩
          simp
          rw [List.set_eq_take_append_cons_drop, if_pos hk] at q
          exact ⟨by omega, by omega, q⟩
        · cases e
      · cases e
/-! ### _law_leaf, _law_spoilt -/
/-- a tuple of few -/
def shortB : D → Bool
  | .tup ys => decide (ys.length < 1000)
  | _ => true
theorem short_len {v : D} (h : shortB v = true) : ∀ xs, v = .tup xs → xs.length < 1000 := fun xs e => by
  subst e
  exact of_decide_eq_true h
theorem log_ok {i : Int} (h : i.natAbs < 2 ^ 30) : i.natAbs.log2 < 1920 := by
  by_cases h0 : i.natAbs = 0
  · rw [h0]; decide
  · exact (Nat.log2_lt h0).mpr (Nat.lt_of_lt_of_le h (Nat.pow_le_pow_right (by decide) (by decide)))
def sp_law_leaf : OW.Spec := fun es Q => ∃ i : Int, es = [.st, .d (.int i)] ∧ i.natAbs < 2 ^ 30 ∧ ∀ r, shortB r = true → Q (.val r)
theorem c_pickS {xs : List D} (h0 : xs ≠ []) (h1 : xs.length < 1000000) (h2 : xs.all shortB = true) (h : ∀ r, shortB r = true → Q (.val r)) : sp_law_pick [.st, .d (.lst xs)] Q := c_pick h0 h1 fun x hx => h x (List.all_eq_true.mp h2 x hx)
theorem p_law_leaf (h : sp_law_leaf es Q) : t_law_leaf sp_law_pick { nx := fun _ => Q (.val .non), rt := Q } (startW 3 es) := by
  obtain ⟨i, rfl, hi, q⟩ := h
  simp (config := { maxSteps := 2000000 }) [t_law_leaf, startW, toL, q_var, isStrD, isIntD, isBlD, List.replicate]
  refine ⟨log_ok hi, ?_⟩
  exact c_pickS (by simp) (by simp) (by simp [shortB]) fun r hr => q r hr
end K80


namespace K80
open PySem PySem.Spec PyProof.Rows L2 OW
/-! ### permutations -/
theorem perm_map {α β : Type} {f : α → β} {ys zs : List β} (h : ys.Perm zs) : ∀ {l : List α}, zs = l.map f → ∃ l' : List α, l'.Perm l ∧ ys = l'.map f := by
  induction h with
  | nil =>
    intro l e
    exact ⟨[], by rw [List.map_eq_nil_iff.mp e.symm], rfl⟩
  | cons x _ ih =>
    intro l e
    cases l with
    | nil => cases e
    | cons a l =>
      rw [List.map_cons] at e
      obtain ⟨e1, e2⟩ := List.cons.inj e
      obtain ⟨l', h1, h2⟩ := ih e2
      exact ⟨a :: l', h1.cons a, by rw [h2, e1]; rfl⟩
  | swap x y l0 =>
    intro l e
    match l, e with
    | [], e => cases e
    | [a], e => simp at e
    | a :: b :: l, e =>
      rw [List.map_cons, List.map_cons] at e
      obtain ⟨e1, e'⟩ := List.cons.inj e
      obtain ⟨e2, e3⟩ := List.cons.inj e'
      exact ⟨b :: a :: l, .swap a b l, by rw [e1, e2, e3]; rfl⟩
  | trans _ _ ih1 ih2 =>
    intro l e
    obtain ⟨l2, h1, h2⟩ := ih2 e
    obtain ⟨l1, h3, h4⟩ := ih1 h2
    exact ⟨l1, h3.trans h1, h4⟩
theorem set_same {α : Type} {xs : List α} {k : Nat} {x : α} (h : xs[k]? = some x) : xs.set k x = xs := by
  obtain ⟨hk, rfl⟩ := List.getElem?_eq_some_iff.mp h
  exact List.set_getElem_self hk
/-! ### the numbers of a stand -/
def plN : Pl → List Int
  | .way _ n _ => [n]
  | .ready _ n _ => [n]
  | _ => []
def lnNums (lines : List (List Ln)) : List Int := (lines.map fun l => l.map (·.number)).flatten
def plNums (places : List Pl) : List Int := (places.map plN).flatten
theorem entsL_nums {s : Std} : (entsL s).map (·.1) = lnNums s.lines := by
  unfold entsL lnNums lineEs
  rw [List.map_flatten]
  congr 1
  refine List.ext_getElem? fun i => ?_
  rw [List.getElem?_map, List.getElem?_mapIdx, List.getElem?_map]
  cases s.lines[i]? with
  | none => rfl
  | some l => simp [lnE, Function.comp_def]
theorem entsP_nums {b : Lib} {s : Std} (h : b.copies.length = s.places.length) : (entsP b s).map (·.1) = plNums s.places := by
  unfold entsP heldEs plNums
  generalize s.places = ps at h
  generalize b.copies = cs at h
  induction ps generalizing cs with
  | nil => rfl
  | cons p r ih =>
    cases cs with
    | nil => simp at h
    | cons c cs =>
      simp only [List.zipWith_cons_cons, List.flatten_cons, List.map_append, List.map_cons]
      rw [ih cs (by simpa using h)]
      cases p <;> rfl
theorem nums_eq {b : Lib} {s : Std} (h : b.copies.length = s.places.length) : (entsL s ++ entsP b s).map (·.1) = lnNums s.lines ++ plNums s.places := by
  rw [List.map_append, entsL_nums, entsP_nums h]
theorem fit_of {b : Lib} {s : Std} (len : b.copies.length = s.places.length) (l1 : s.places.length < 1000) (l2 : s.lines.length < 1000) (m : (lnNums s.lines ++ plNums s.places).length < 1000) (nd : (lnNums s.lines ++ plNums s.places).Nodup)
    (rg : ∀ n ∈ lnNums s.lines ++ plNums s.places, 0 ≤ n ∧ n ≤ 999999) : Fit b s := by
  have e := nums_eq len
  exact ⟨len, l1, l2, by have := congrArg List.length e; rw [List.length_map] at this; omega, by rw [e]; exact nd, fun x hx => rg _ (by rw [← e]; exact List.mem_map_of_mem hx)⟩
/-- the same numbers, or fewer -/
theorem Fit.near {b : Lib} {s s' : Std} (F : Fit b s) (h1 : s'.places.length = s.places.length) (h2 : s'.lines.length = s.lines.length) (h3 : lnNums s'.lines = lnNums s.lines) (h4 : (plNums s'.places).Sublist (plNums s.places)) : Fit b s' := by
  have e := nums_eq F.len
  have sub : (lnNums s'.lines ++ plNums s'.places).Sublist (lnNums s.lines ++ plNums s.places) := by
    rw [h3]
    exact (List.Sublist.refl _).append h4
  refine fit_of (F.len.trans h1.symm) (by rw [h1]; exact F.lens) (by rw [h2]; exact F.lensL) ?_ ?_ ?_
  · refine Nat.lt_of_le_of_lt sub.length_le ?_
    rw [← e, List.length_map]
    exact F.many
  · refine sub.nodup ?_
    rw [← e]
    exact F.nd
  · intro n hn
    have := sub.subset hn
    rw [← e] at this
    obtain ⟨x, hx, rfl⟩ := List.mem_map.mp this
    exact F.rg x hx
theorem ln_same {lines : List (List Ln)} {k j : Nat} {l : List Ln} {x y : Ln} (hl : lines[k]? = some l) (hy : l[j]? = some y) (e : x.number = y.number) : lnNums (lines.set k (l.set j x)) = lnNums lines := by
  unfold lnNums
  congr 1
  rw [List.map_set]
  refine set_same ?_
  rw [List.getElem?_map, hl, List.map_set]
  refine congrArg some (set_same ?_).symm
  rw [List.getElem?_map, hy, e]
  rfl
theorem pl_sub : ∀ {ps : List Pl} {k : Nat} {p p' : Pl}, ps[k]? = some p → (plN p').Sublist (plN p) → (plNums (ps.set k p')).Sublist (plNums ps)
  | [], _, _, _, h, _ => by simp at h
  | q :: r, 0, p, p', h, s => by
    have e : q = p := by simpa using h
    subst e
    exact s.append (List.Sublist.refl _)
  | q :: r, k + 1, p, p', h, s => (List.Sublist.refl (plN q)).append (pl_sub (ps := r) (k := k) (by simpa using h) s)
theorem ln_add : ∀ {lines : List (List Ln)} {k : Nat} {l : List Ln} {x : Ln}, lines[k]? = some l → (lnNums (lines.set k (l ++ [x]))).Perm (x.number :: lnNums lines)
  | [], _, _, _, h => by simp at h
  | l0 :: r, 0, l, x, h => by
    have e : l0 = l := by simpa using h
    subst e
    have e1 : lnNums ((l0 :: r).set 0 (l0 ++ [x])) = l0.map (·.number) ++ x.number :: lnNums r := by
      simp [lnNums]
    rw [e1]
    exact List.perm_middle
  | l0 :: r, k + 1, l, x, h => by
    have ih := ln_add (lines := r) (k := k) (l := l) (x := x) (by simpa using h)
    exact ((ih.append_left (l0.map (·.number))).trans List.perm_middle)
theorem pl_add {ps : List Pl} {p : Pl} : plNums (ps ++ [p]) = plNums ps ++ plN p := by simp [plNums]
/-! ### a world in the making -/
structure Wld (c : Nat) (nums : List Int) (lines : List (List Ln)) (copies : List (Int × Int)) (places : List Pl) : Prop where
  len : copies.length = places.length
  nd : (lnNums lines ++ plNums places ++ nums).Nodup
  rg : ∀ n ∈ lnNums lines ++ plNums places ++ nums, 0 ≤ n ∧ n ≤ 999999
  tot : (lnNums lines ++ plNums places ++ nums).length ≤ 60
  pls : places.length + nums.length ≤ 60
  more : 60 ≤ nums.length + c
variable {c : Nat} {nums : List Int} {n : Int} {lines : List (List Ln)} {copies : List (Int × Int)} {places : List Pl}
theorem Wld.line {k : Nat} {l : List Ln} {x : Ln} (h : Wld c (nums ++ [n]) lines copies places) (e : lines[k]? = some l) (hx : x.number = n) : Wld (c + 1) nums (lines.set k (l ++ [x])) copies places := by
  have P : (lnNums (lines.set k (l ++ [x])) ++ plNums places ++ nums).Perm (lnNums lines ++ plNums places ++ (nums ++ [n])) := by
    refine (((ln_add e).append_right (plNums places)).append_right nums).trans ?_
    rw [hx, ← List.append_assoc]
    exact (List.perm_append_singleton _ _).symm
  have hp := h.pls
  have hm := h.more
  rw [List.length_append, List.length_singleton] at hp hm
  exact ⟨h.len, P.nodup_iff.mpr h.nd, fun m hm => h.rg m (P.mem_iff.mp hm), by rw [P.length_eq]; exact h.tot, by omega, by omega⟩
theorem Wld.place {p : Pl} {cp : Int × Int} (h : Wld c (nums ++ [n]) lines copies places) (hx : plN p = [n] ∨ plN p = []) : Wld (c + 1) nums lines (copies ++ [cp]) (places ++ [p]) := by
  have hp := h.pls
  have hm := h.more
  have hl := h.len
  rw [List.length_append, List.length_singleton] at hp hm
  have S : ∃ q, (lnNums lines ++ plNums (places ++ [p]) ++ nums).Perm q ∧ q.Sublist (lnNums lines ++ plNums places ++ (nums ++ [n])) := by
    rw [pl_add]
    rcases hx with hx | hx
    · rw [hx]
      refine ⟨_, ?_, List.Sublist.refl _⟩
      rw [← List.append_assoc, List.append_assoc _ [n] nums]
      exact List.Perm.append_left _ List.perm_append_comm
    · rw [hx, List.append_nil]
      exact ⟨_, .refl _, (List.Sublist.refl _).append (List.sublist_append_left _ _)⟩
  obtain ⟨q, P, S⟩ := S
  refine ⟨by rw [List.length_append, List.length_append, hl]; rfl, P.nodup_iff.mpr (S.nodup h.nd), fun m hm => h.rg m (S.subset (P.mem_iff.mp hm)), ?_, by rw [List.length_append, List.length_singleton]; omega, by omega⟩
  rw [P.length_eq]
  exact Nat.le_trans S.length_le h.tot
theorem Wld.fit {b : Lib} {s : Std} (h : Wld c nums lines copies places) (hb : b.copies = copies) (hs : s.places = places) (hl : (lnNums s.lines).Perm (lnNums lines)) (hn : s.lines.length < 1000) : Fit b s := by
  have P : (lnNums s.lines ++ plNums s.places).Perm (lnNums lines ++ plNums places) := by
    rw [hs]
    exact hl.append_right _
  have S : (lnNums lines ++ plNums places).Sublist (lnNums lines ++ plNums places ++ nums) := List.sublist_append_left _ _
  have hp := h.pls
  refine fit_of (by rw [hb, hs]; exact h.len) (by rw [hs]; omega) hn ?_ (P.nodup_iff.mpr (S.nodup h.nd)) fun m hm => h.rg m (S.subset (P.mem_iff.mp hm))
  rw [P.length_eq]
  exact Nat.lt_of_le_of_lt (Nat.le_trans S.length_le h.tot) (by decide)
/-! ### sets -/
def setD (s : List Int × Int) : D := .tup [.tup (s.1.map .int), .int s.2]
def setsD (ss : List (List Int × Int)) : D := .tup (ss.map setD)
structure SetsOk (ss : List (List Int × Int)) : Prop where
  ne : ss ≠ []
  few : ss.length ≤ 3
  row : ∀ s ∈ ss, s.1.length ≤ 4 ∧ (∀ i ∈ s.1, i.natAbs < 2 ^ 30) ∧ s.2.natAbs < 2 ^ 30
end K80


namespace OW
open PySem PySem.Spec PyProof.Rows L2
section
variable {Q : E → W → Prop} {Qw : W → Prop} {w : W} {d e : D} {xs : List D} {ds : List (Key × D)} {as : List Addr} {xss : List (List D)}
variable {l0 l1 l2 l3 l4 l5 l6 l7 l8 l9 l10 l11 l12 l13 l14 l15 l16 l17 l18 l19 l20 l21 l22 l23 : L}
@[simp] theorem var_v0 : eVar 0 (.v d :: w) Q = Q (.d d) (.v d :: w) := rfl
@[simp] theorem var_o0 : eVar 0 (.own xs :: w) Q = Q (.bor 0) (.own xs :: w) := rfl
@[simp] theorem var_d0 : eVar 0 (.ownD ds :: w) Q = Q (.bor 0) (.ownD ds :: w) := rfl
@[simp] theorem var_l0 : eVar 0 (.ownL as xss :: w) Q = Q (.bor 0) (.ownL as xss :: w) := rfl
@[simp] theorem var_s0 : eVar 0 (.st :: w) Q = Q (.st) (.st :: w) := rfl
@[simp] theorem gn_u0 : gN 0 d (.un :: w) Qw = Qw (.v d :: w) := rfl
@[simp] theorem gn_v0 : gN 0 d (.v e :: w) Qw = Qw (.v d :: w) := rfl
@[simp] theorem var_v1 : eVar 1 (l0 :: .v d :: w) Q = Q (.d d) (l0 :: .v d :: w) := rfl
@[simp] theorem var_o1 : eVar 1 (l0 :: .own xs :: w) Q = Q (.bor 1) (l0 :: .own xs :: w) := rfl
@[simp] theorem var_d1 : eVar 1 (l0 :: .ownD ds :: w) Q = Q (.bor 1) (l0 :: .ownD ds :: w) := rfl
@[simp] theorem var_l1 : eVar 1 (l0 :: .ownL as xss :: w) Q = Q (.bor 1) (l0 :: .ownL as xss :: w) := rfl
@[simp] theorem var_s1 : eVar 1 (l0 :: .st :: w) Q = Q (.st) (l0 :: .st :: w) := rfl
@[simp] theorem gn_u1 : gN 1 d (l0 :: .un :: w) Qw = Qw (l0 :: .v d :: w) := rfl
@[simp] theorem gn_v1 : gN 1 d (l0 :: .v e :: w) Qw = Qw (l0 :: .v d :: w) := rfl
@[simp] theorem var_v2 : eVar 2 (l0 :: l1 :: .v d :: w) Q = Q (.d d) (l0 :: l1 :: .v d :: w) := rfl
@[simp] theorem var_o2 : eVar 2 (l0 :: l1 :: .own xs :: w) Q = Q (.bor 2) (l0 :: l1 :: .own xs :: w) := rfl
@[simp] theorem var_d2 : eVar 2 (l0 :: l1 :: .ownD ds :: w) Q = Q (.bor 2) (l0 :: l1 :: .ownD ds :: w) := rfl
@[simp] theorem var_l2 : eVar 2 (l0 :: l1 :: .ownL as xss :: w) Q = Q (.bor 2) (l0 :: l1 :: .ownL as xss :: w) := rfl
@[simp] theorem var_s2 : eVar 2 (l0 :: l1 :: .st :: w) Q = Q (.st) (l0 :: l1 :: .st :: w) := rfl
@[simp] theorem gn_u2 : gN 2 d (l0 :: l1 :: .un :: w) Qw = Qw (l0 :: l1 :: .v d :: w) := rfl
@[simp] theorem gn_v2 : gN 2 d (l0 :: l1 :: .v e :: w) Qw = Qw (l0 :: l1 :: .v d :: w) := rfl
@[simp] theorem var_v3 : eVar 3 (l0 :: l1 :: l2 :: .v d :: w) Q = Q (.d d) (l0 :: l1 :: l2 :: .v d :: w) := rfl
@[simp] theorem var_o3 : eVar 3 (l0 :: l1 :: l2 :: .own xs :: w) Q = Q (.bor 3) (l0 :: l1 :: l2 :: .own xs :: w) := rfl
@[simp] theorem var_d3 : eVar 3 (l0 :: l1 :: l2 :: .ownD ds :: w) Q = Q (.bor 3) (l0 :: l1 :: l2 :: .ownD ds :: w) := rfl
@[simp] theorem var_l3 : eVar 3 (l0 :: l1 :: l2 :: .ownL as xss :: w) Q = Q (.bor 3) (l0 :: l1 :: l2 :: .ownL as xss :: w) := rfl
@[simp] theorem var_s3 : eVar 3 (l0 :: l1 :: l2 :: .st :: w) Q = Q (.st) (l0 :: l1 :: l2 :: .st :: w) := rfl
@[simp] theorem gn_u3 : gN 3 d (l0 :: l1 :: l2 :: .un :: w) Qw = Qw (l0 :: l1 :: l2 :: .v d :: w) := rfl
@[simp] theorem gn_v3 : gN 3 d (l0 :: l1 :: l2 :: .v e :: w) Qw = Qw (l0 :: l1 :: l2 :: .v d :: w) := rfl
@[simp] theorem var_v4 : eVar 4 (l0 :: l1 :: l2 :: l3 :: .v d :: w) Q = Q (.d d) (l0 :: l1 :: l2 :: l3 :: .v d :: w) := rfl
@[simp] theorem var_o4 : eVar 4 (l0 :: l1 :: l2 :: l3 :: .own xs :: w) Q = Q (.bor 4) (l0 :: l1 :: l2 :: l3 :: .own xs :: w) := rfl
@[simp] theorem var_d4 : eVar 4 (l0 :: l1 :: l2 :: l3 :: .ownD ds :: w) Q = Q (.bor 4) (l0 :: l1 :: l2 :: l3 :: .ownD ds :: w) := rfl
@[simp] theorem var_l4 : eVar 4 (l0 :: l1 :: l2 :: l3 :: .ownL as xss :: w) Q = Q (.bor 4) (l0 :: l1 :: l2 :: l3 :: .ownL as xss :: w) := rfl
@[simp] theorem var_s4 : eVar 4 (l0 :: l1 :: l2 :: l3 :: .st :: w) Q = Q (.st) (l0 :: l1 :: l2 :: l3 :: .st :: w) := rfl
@[simp] theorem gn_u4 : gN 4 d (l0 :: l1 :: l2 :: l3 :: .un :: w) Qw = Qw (l0 :: l1 :: l2 :: l3 :: .v d :: w) := rfl
@[simp] theorem gn_v4 : gN 4 d (l0 :: l1 :: l2 :: l3 :: .v e :: w) Qw = Qw (l0 :: l1 :: l2 :: l3 :: .v d :: w) := rfl
@[simp] theorem var_v5 : eVar 5 (l0 :: l1 :: l2 :: l3 :: l4 :: .v d :: w) Q = Q (.d d) (l0 :: l1 :: l2 :: l3 :: l4 :: .v d :: w) := rfl
@[simp] theorem var_o5 : eVar 5 (l0 :: l1 :: l2 :: l3 :: l4 :: .own xs :: w) Q = Q (.bor 5) (l0 :: l1 :: l2 :: l3 :: l4 :: .own xs :: w) := rfl
@[simp] theorem var_d5 : eVar 5 (l0 :: l1 :: l2 :: l3 :: l4 :: .ownD ds :: w) Q = Q (.bor 5) (l0 :: l1 :: l2 :: l3 :: l4 :: .ownD ds :: w) := rfl
@[simp] theorem var_l5 : eVar 5 (l0 :: l1 :: l2 :: l3 :: l4 :: .ownL as xss :: w) Q = Q (.bor 5) (l0 :: l1 :: l2 :: l3 :: l4 :: .ownL as xss :: w) := rfl
@[simp] theorem var_s5 : eVar 5 (l0 :: l1 :: l2 :: l3 :: l4 :: .st :: w) Q = Q (.st) (l0 :: l1 :: l2 :: l3 :: l4 :: .st :: w) := rfl
@[simp] theorem gn_u5 : gN 5 d (l0 :: l1 :: l2 :: l3 :: l4 :: .un :: w) Qw = Qw (l0 :: l1 :: l2 :: l3 :: l4 :: .v d :: w) := rfl
@[simp] theorem gn_v5 : gN 5 d (l0 :: l1 :: l2 :: l3 :: l4 :: .v e :: w) Qw = Qw (l0 :: l1 :: l2 :: l3 :: l4 :: .v d :: w) := rfl
@[simp] theorem var_v6 : eVar 6 (l0 :: l1 :: l2 :: l3 :: l4 :: l5 :: .v d :: w) Q = Q (.d d) (l0 :: l1 :: l2 :: l3 :: l4 :: l5 :: .v d :: w) := rfl
@[simp] theorem var_o6 : eVar 6 (l0 :: l1 :: l2 :: l3 :: l4 :: l5 :: .own xs :: w) Q = Q (.bor 6) (l0 :: l1 :: l2 :: l3 :: l4 :: l5 :: .own xs :: w) := rfl
@[simp] theorem var_d6 : eVar 6 (l0 :: l1 :: l2 :: l3 :: l4 :: l5 :: .ownD ds :: w) Q = Q (.bor 6) (l0 :: l1 :: l2 :: l3 :: l4 :: l5 :: .ownD ds :: w) := rfl
@[simp] theorem var_l6 : eVar 6 (l0 :: l1 :: l2 :: l3 :: l4 :: l5 :: .ownL as xss :: w) Q = Q (.bor 6) (l0 :: l1 :: l2 :: l3 :: l4 :: l5 :: .ownL as xss :: w) := rfl
@[simp] theorem var_s6 : eVar 6 (l0 :: l1 :: l2 :: l3 :: l4 :: l5 :: .st :: w) Q = Q (.st) (l0 :: l1 :: l2 :: l3 :: l4 :: l5 :: .st :: w) := rfl
@[simp] theorem gn_u6 : gN 6 d (l0 :: l1 :: l2 :: l3 :: l4 :: l5 :: .un :: w) Qw = Qw (l0 :: l1 :: l2 :: l3 :: l4 :: l5 :: .v d :: w) := rfl
@[simp] theorem gn_v6 : gN 6 d (l0 :: l1 :: l2 :: l3 :: l4 :: l5 :: .v e :: w) Qw = Qw (l0 :: l1 :: l2 :: l3 :: l4 :: l5 :: .v d :: w) := rfl
@[simp] theorem var_v7 : eVar 7 (l0 :: l1 :: l2 :: l3 :: l4 :: l5 :: l6 :: .v d :: w) Q = Q (.d d) (l0 :: l1 :: l2 :: l3 :: l4 :: l5 :: l6 :: .v d :: w) := rfl
@[simp] theorem var_o7 : eVar 7 (l0 :: l1 :: l2 :: l3 :: l4 :: l5 :: l6 :: .own xs :: w) Q = Q (.bor 7) (l0 :: l1 :: l2 :: l3 :: l4 :: l5 :: l6 :: .own xs :: w) := rfl
@[simp] theorem var_d7 : eVar 7 (l0 :: l1 :: l2 :: l3 :: l4 :: l5 :: l6 :: .ownD ds :: w) Q = Q (.bor 7) (l0 :: l1 :: l2 :: l3 :: l4 :: l5 :: l6 :: .ownD ds :: w) := rfl
@[simp] theorem var_l7 : eVar 7 (l0 :: l1 :: l2 :: l3 :: l4 :: l5 :: l6 :: .ownL as xss :: w) Q = Q (.bor 7) (l0 :: l1 :: l2 :: l3 :: l4 :: l5 :: l6 :: .ownL as xss :: w) := rfl
@[simp] theorem var_s7 : eVar 7 (l0 :: l1 :: l2 :: l3 :: l4 :: l5 :: l6 :: .st :: w) Q = Q (.st) (l0 :: l1 :: l2 :: l3 :: l4 :: l5 :: l6 :: .st :: w) := rfl
@[simp] theorem gn_u7 : gN 7 d (l0 :: l1 :: l2 :: l3 :: l4 :: l5 :: l6 :: .un :: w) Qw = Qw (l0 :: l1 :: l2 :: l3 :: l4 :: l5 :: l6 :: .v d :: w) := rfl
@[simp] theorem gn_v7 : gN 7 d (l0 :: l1 :: l2 :: l3 :: l4 :: l5 :: l6 :: .v e :: w) Qw = Qw (l0 :: l1 :: l2 :: l3 :: l4 :: l5 :: l6 :: .v d :: w) := rfl
@[simp] theorem var_v8 : eVar 8 (l0 :: l1 :: l2 :: l3 :: l4 :: l5 :: l6 :: l7 :: .v d :: w) Q = Q (.d d) (l0 :: l1 :: l2 :: l3 :: l4 :: l5 :: l6 :: l7 :: .v d :: w) := rfl
@[simp] theorem var_o8 : eVar 8 (l0 :: l1 :: l2 :: l3 :: l4 :: l5 :: l6 :: l7 :: .own xs :: w) Q = Q (.bor 8) (l0 :: l1 :: l2 :: l3 :: l4 :: l5 :: l6 :: l7 :: .own xs :: w) := rfl
@[simp] theorem var_d8 : eVar 8 (l0 :: l1 :: l2 :: l3 :: l4 :: l5 :: l6 :: l7 :: .ownD ds :: w) Q = Q (.bor 8) (l0 :: l1 :: l2 :: l3 :: l4 :: l5 :: l6 :: l7 :: .ownD ds :: w) := rfl
@[simp] theorem var_l8 : eVar 8 (l0 :: l1 :: l2 :: l3 :: l4 :: l5 :: l6 :: l7 :: .ownL as xss :: w) Q = Q (.bor 8) (l0 :: l1 :: l2 :: l3 :: l4 :: l5 :: l6 :: l7 :: .ownL as xss :: w) := rfl
@[simp] theorem var_s8 : eVar 8 (l0 :: l1 :: l2 :: l3 :: l4 :: l5 :: l6 :: l7 :: .st :: w) Q = Q (.st) (l0 :: l1 :: l2 :: l3 :: l4 :: l5 :: l6 :: l7 :: .st :: w) := rfl
@[simp] theorem gn_u8 : gN 8 d (l0 :: l1 :: l2 :: l3 :: l4 :: l5 :: l6 :: l7 :: .un :: w) Qw = Qw (l0 :: l1 :: l2 :: l3 :: l4 :: l5 :: l6 :: l7 :: .v d :: w) := rfl
@[simp] theorem gn_v8 : gN 8 d (l0 :: l1 :: l2 :: l3 :: l4 :: l5 :: l6 :: l7 :: .v e :: w) Qw = Qw (l0 :: l1 :: l2 :: l3 :: l4 :: l5 :: l6 :: l7 :: .v d :: w) := rfl
@[simp] theorem var_v9 : eVar 9 (l0 :: l1 :: l2 :: l3 :: l4 :: l5 :: l6 :: l7 :: l8 :: .v d :: w) Q = Q (.d d) (l0 :: l1 :: l2 :: l3 :: l4 :: l5 :: l6 :: l7 :: l8 :: .v d :: w) := rfl
@[simp] theorem var_o9 : eVar 9 (l0 :: l1 :: l2 :: l3 :: l4 :: l5 :: l6 :: l7 :: l8 :: .own xs :: w) Q = Q (.bor 9) (l0 :: l1 :: l2 :: l3 :: l4 :: l5 :: l6 :: l7 :: l8 :: .own xs :: w) := rfl
@[simp] theorem var_d9 : eVar 9 (l0 :: l1 :: l2 :: l3 :: l4 :: l5 :: l6 :: l7 :: l8 :: .ownD ds :: w) Q = Q (.bor 9) (l0 :: l1 :: l2 :: l3 :: l4 :: l5 :: l6 :: l7 :: l8 :: .ownD ds :: w) := rfl
@[simp] theorem var_l9 : eVar 9 (l0 :: l1 :: l2 :: l3 :: l4 :: l5 :: l6 :: l7 :: l8 :: .ownL as xss :: w) Q = Q (.bor 9) (l0 :: l1 :: l2 :: l3 :: l4 :: l5 :: l6 :: l7 :: l8 :: .ownL as xss :: w) := rfl
@[simp] theorem var_s9 : eVar 9 (l0 :: l1 :: l2 :: l3 :: l4 :: l5 :: l6 :: l7 :: l8 :: .st :: w) Q = Q (.st) (l0 :: l1 :: l2 :: l3 :: l4 :: l5 :: l6 :: l7 :: l8 :: .st :: w) := rfl
@[simp] theorem gn_u9 : gN 9 d (l0 :: l1 :: l2 :: l3 :: l4 :: l5 :: l6 :: l7 :: l8 :: .un :: w) Qw = Qw (l0 :: l1 :: l2 :: l3 :: l4 :: l5 :: l6 :: l7 :: l8 :: .v d :: w) := rfl
@[simp] theorem gn_v9 : gN 9 d (l0 :: l1 :: l2 :: l3 :: l4 :: l5 :: l6 :: l7 :: l8 :: .v e :: w) Qw = Qw (l0 :: l1 :: l2 :: l3 :: l4 :: l5 :: l6 :: l7 :: l8 :: .v d :: w) := rfl
@[simp] theorem var_v10 : eVar 10 (l0 :: l1 :: l2 :: l3 :: l4 :: l5 :: l6 :: l7 :: l8 :: l9 :: .v d :: w) Q = Q (.d d) (l0 :: l1 :: l2 :: l3 :: l4 :: l5 :: l6 :: l7 :: l8 :: l9 :: .v d :: w) := rfl
@[simp] theorem var_o10 : eVar 10 (l0 :: l1 :: l2 :: l3 :: l4 :: l5 :: l6 :: l7 :: l8 :: l9 :: .own xs :: w) Q = Q (.bor 10) (l0 :: l1 :: l2 :: l3 :: l4 :: l5 :: l6 :: l7 :: l8 :: l9 :: .own xs :: w) := rfl
@[simp] theorem var_d10 : eVar 10 (l0 :: l1 :: l2 :: l3 :: l4 :: l5 :: l6 :: l7 :: l8 :: l9 :: .ownD ds :: w) Q = Q (.bor 10) (l0 :: l1 :: l2 :: l3 :: l4 :: l5 :: l6 :: l7 :: l8 :: l9 :: .ownD ds :: w) := rfl
@[simp] theorem var_l10 : eVar 10 (l0 :: l1 :: l2 :: l3 :: l4 :: l5 :: l6 :: l7 :: l8 :: l9 :: .ownL as xss :: w) Q = Q (.bor 10) (l0 :: l1 :: l2 :: l3 :: l4 :: l5 :: l6 :: l7 :: l8 :: l9 :: .ownL as xss :: w) := rfl
@[simp] theorem var_s10 : eVar 10 (l0 :: l1 :: l2 :: l3 :: l4 :: l5 :: l6 :: l7 :: l8 :: l9 :: .st :: w) Q = Q (.st) (l0 :: l1 :: l2 :: l3 :: l4 :: l5 :: l6 :: l7 :: l8 :: l9 :: .st :: w) := rfl
@[simp] theorem gn_u10 : gN 10 d (l0 :: l1 :: l2 :: l3 :: l4 :: l5 :: l6 :: l7 :: l8 :: l9 :: .un :: w) Qw = Qw (l0 :: l1 :: l2 :: l3 :: l4 :: l5 :: l6 :: l7 :: l8 :: l9 :: .v d :: w) := rfl
@[simp] theorem gn_v10 : gN 10 d (l0 :: l1 :: l2 :: l3 :: l4 :: l5 :: l6 :: l7 :: l8 :: l9 :: .v e :: w) Qw = Qw (l0 :: l1 :: l2 :: l3 :: l4 :: l5 :: l6 :: l7 :: l8 :: l9 :: .v d :: w) := rfl
@[simp] theorem var_v11 : eVar 11 (l0 :: l1 :: l2 :: l3 :: l4 :: l5 :: l6 :: l7 :: l8 :: l9 :: l10 :: .v d :: w) Q = Q (.d d) (l0 :: l1 :: l2 :: l3 :: l4 :: l5 :: l6 :: l7 :: l8 :: l9 :: l10 :: .v d :: w) := rfl
@[simp] theorem var_o11 : eVar 11 (l0 :: l1 :: l2 :: l3 :: l4 :: l5 :: l6 :: l7 :: l8 :: l9 :: l10 :: .own xs :: w) Q = Q (.bor 11) (l0 :: l1 :: l2 :: l3 :: l4 :: l5 :: l6 :: l7 :: l8 :: l9 :: l10 :: .own xs :: w) := rfl
@[simp] theorem var_d11 : eVar 11 (l0 :: l1 :: l2 :: l3 :: l4 :: l5 :: l6 :: l7 :: l8 :: l9 :: l10 :: .ownD ds :: w) Q = Q (.bor 11) (l0 :: l1 :: l2 :: l3 :: l4 :: l5 :: l6 :: l7 :: l8 :: l9 :: l10 :: .ownD ds :: w) := rfl
@[simp] theorem var_l11 : eVar 11 (l0 :: l1 :: l2 :: l3 :: l4 :: l5 :: l6 :: l7 :: l8 :: l9 :: l10 :: .ownL as xss :: w) Q = Q (.bor 11) (l0 :: l1 :: l2 :: l3 :: l4 :: l5 :: l6 :: l7 :: l8 :: l9 :: l10 :: .ownL as xss :: w) := rfl
@[simp] theorem var_s11 : eVar 11 (l0 :: l1 :: l2 :: l3 :: l4 :: l5 :: l6 :: l7 :: l8 :: l9 :: l10 :: .st :: w) Q = Q (.st) (l0 :: l1 :: l2 :: l3 :: l4 :: l5 :: l6 :: l7 :: l8 :: l9 :: l10 :: .st :: w) := rfl
@[simp] theorem gn_u11 : gN 11 d (l0 :: l1 :: l2 :: l3 :: l4 :: l5 :: l6 :: l7 :: l8 :: l9 :: l10 :: .un :: w) Qw = Qw (l0 :: l1 :: l2 :: l3 :: l4 :: l5 :: l6 :: l7 :: l8 :: l9 :: l10 :: .v d :: w) := rfl
@[simp] theorem gn_v11 : gN 11 d (l0 :: l1 :: l2 :: l3 :: l4 :: l5 :: l6 :: l7 :: l8 :: l9 :: l10 :: .v e :: w) Qw = Qw (l0 :: l1 :: l2 :: l3 :: l4 :: l5 :: l6 :: l7 :: l8 :: l9 :: l10 :: .v d :: w) := rfl
@[simp] theorem var_v12 : eVar 12 (l0 :: l1 :: l2 :: l3 :: l4 :: l5 :: l6 :: l7 :: l8 :: l9 :: l10 :: l11 :: .v d :: w) Q = Q (.d d) (l0 :: l1 :: l2 :: l3 :: l4 :: l5 :: l6 :: l7 :: l8 :: l9 :: l10 :: l11 :: .v d :: w) := rfl
@[simp] theorem var_o12 : eVar 12 (l0 :: l1 :: l2 :: l3 :: l4 :: l5 :: l6 :: l7 :: l8 :: l9 :: l10 :: l11 :: .own xs :: w) Q = Q (.bor 12) (l0 :: l1 :: l2 :: l3 :: l4 :: l5 :: l6 :: l7 :: l8 :: l9 :: l10 :: l11 :: .own xs :: w) := rfl
@[simp] theorem var_d12 : eVar 12 (l0 :: l1 :: l2 :: l3 :: l4 :: l5 :: l6 :: l7 :: l8 :: l9 :: l10 :: l11 :: .ownD ds :: w) Q = Q (.bor 12) (l0 :: l1 :: l2 :: l3 :: l4 :: l5 :: l6 :: l7 :: l8 :: l9 :: l10 :: l11 :: .ownD ds :: w) := rfl
@[simp] theorem var_l12 : eVar 12 (l0 :: l1 :: l2 :: l3 :: l4 :: l5 :: l6 :: l7 :: l8 :: l9 :: l10 :: l11 :: .ownL as xss :: w) Q = Q (.bor 12) (l0 :: l1 :: l2 :: l3 :: l4 :: l5 :: l6 :: l7 :: l8 :: l9 :: l10 :: l11 :: .ownL as xss :: w) := rfl
@[simp] theorem var_s12 : eVar 12 (l0 :: l1 :: l2 :: l3 :: l4 :: l5 :: l6 :: l7 :: l8 :: l9 :: l10 :: l11 :: .st :: w) Q = Q (.st) (l0 :: l1 :: l2 :: l3 :: l4 :: l5 :: l6 :: l7 :: l8 :: l9 :: l10 :: l11 :: .st :: w) := rfl
@[simp] theorem gn_u12 : gN 12 d (l0 :: l1 :: l2 :: l3 :: l4 :: l5 :: l6 :: l7 :: l8 :: l9 :: l10 :: l11 :: .un :: w) Qw = Qw (l0 :: l1 :: l2 :: l3 :: l4 :: l5 :: l6 :: l7 :: l8 :: l9 :: l10 :: l11 :: .v d :: w) := rfl
@[simp] theorem gn_v12 : gN 12 d (l0 :: l1 :: l2 :: l3 :: l4 :: l5 :: l6 :: l7 :: l8 :: l9 :: l10 :: l11 :: .v e :: w) Qw = Qw (l0 :: l1 :: l2 :: l3 :: l4 :: l5 :: l6 :: l7 :: l8 :: l9 :: l10 :: l11 :: .v d :: w) := rfl
@[simp] theorem var_v13 : eVar 13 (l0 :: l1 :: l2 :: l3 :: l4 :: l5 :: l6 :: l7 :: l8 :: l9 :: l10 :: l11 :: l12 :: .v d :: w) Q = Q (.d d) (l0 :: l1 :: l2 :: l3 :: l4 :: l5 :: l6 :: l7 :: l8 :: l9 :: l10 :: l11 :: l12 :: .v d :: w) := rfl
@[simp] theorem var_o13 : eVar 13 (l0 :: l1 :: l2 :: l3 :: l4 :: l5 :: l6 :: l7 :: l8 :: l9 :: l10 :: l11 :: l12 :: .own xs :: w) Q = Q (.bor 13) (l0 :: l1 :: l2 :: l3 :: l4 :: l5 :: l6 :: l7 :: l8 :: l9 :: l10 :: l11 :: l12 :: .own xs :: w) := rfl
@[simp] theorem var_d13 : eVar 13 (l0 :: l1 :: l2 :: l3 :: l4 :: l5 :: l6 :: l7 :: l8 :: l9 :: l10 :: l11 :: l12 :: .ownD ds :: w) Q = Q (.bor 13) (l0 :: l1 :: l2 :: l3 :: l4 :: l5 :: l6 :: l7 :: l8 :: l9 :: l10 :: l11 :: l12 :: .ownD ds :: w) := rfl
@[simp] theorem var_l13 : eVar 13 (l0 :: l1 :: l2 :: l3 :: l4 :: l5 :: l6 :: l7 :: l8 :: l9 :: l10 :: l11 :: l12 :: .ownL as xss :: w) Q = Q (.bor 13) (l0 :: l1 :: l2 :: l3 :: l4 :: l5 :: l6 :: l7 :: l8 :: l9 :: l10 :: l11 :: l12 :: .ownL as xss :: w) := rfl
@[simp] theorem var_s13 : eVar 13 (l0 :: l1 :: l2 :: l3 :: l4 :: l5 :: l6 :: l7 :: l8 :: l9 :: l10 :: l11 :: l12 :: .st :: w) Q = Q (.st) (l0 :: l1 :: l2 :: l3 :: l4 :: l5 :: l6 :: l7 :: l8 :: l9 :: l10 :: l11 :: l12 :: .st :: w) := rfl
@[simp] theorem gn_u13 : gN 13 d (l0 :: l1 :: l2 :: l3 :: l4 :: l5 :: l6 :: l7 :: l8 :: l9 :: l10 :: l11 :: l12 :: .un :: w) Qw = Qw (l0 :: l1 :: l2 :: l3 :: l4 :: l5 :: l6 :: l7 :: l8 :: l9 :: l10 :: l11 :: l12 :: .v d :: w) := rfl
@[simp] theorem gn_v13 : gN 13 d (l0 :: l1 :: l2 :: l3 :: l4 :: l5 :: l6 :: l7 :: l8 :: l9 :: l10 :: l11 :: l12 :: .v e :: w) Qw = Qw (l0 :: l1 :: l2 :: l3 :: l4 :: l5 :: l6 :: l7 :: l8 :: l9 :: l10 :: l11 :: l12 :: .v d :: w) := rfl
@[simp] theorem var_v14 : eVar 14 (l0 :: l1 :: l2 :: l3 :: l4 :: l5 :: l6 :: l7 :: l8 :: l9 :: l10 :: l11 :: l12 :: l13 :: .v d :: w) Q = Q (.d d) (l0 :: l1 :: l2 :: l3 :: l4 :: l5 :: l6 :: l7 :: l8 :: l9 :: l10 :: l11 :: l12 :: l13 :: .v d :: w) := rfl
@[simp] theorem var_o14 : eVar 14 (l0 :: l1 :: l2 :: l3 :: l4 :: l5 :: l6 :: l7 :: l8 :: l9 :: l10 :: l11 :: l12 :: l13 :: .own xs :: w) Q = Q (.bor 14) (l0 :: l1 :: l2 :: l3 :: l4 :: l5 :: l6 :: l7 :: l8 :: l9 :: l10 :: l11 :: l12 :: l13 :: .own xs :: w) := rfl
@[simp] theorem var_d14 : eVar 14 (l0 :: l1 :: l2 :: l3 :: l4 :: l5 :: l6 :: l7 :: l8 :: l9 :: l10 :: l11 :: l12 :: l13 :: .ownD ds :: w) Q = Q (.bor 14) (l0 :: l1 :: l2 :: l3 :: l4 :: l5 :: l6 :: l7 :: l8 :: l9 :: l10 :: l11 :: l12 :: l13 :: .ownD ds :: w) := rfl
@[simp] theorem var_l14 : eVar 14 (l0 :: l1 :: l2 :: l3 :: l4 :: l5 :: l6 :: l7 :: l8 :: l9 :: l10 :: l11 :: l12 :: l13 :: .ownL as xss :: w) Q = Q (.bor 14) (l0 :: l1 :: l2 :: l3 :: l4 :: l5 :: l6 :: l7 :: l8 :: l9 :: l10 :: l11 :: l12 :: l13 :: .ownL as xss :: w) := rfl
@[simp] theorem var_s14 : eVar 14 (l0 :: l1 :: l2 :: l3 :: l4 :: l5 :: l6 :: l7 :: l8 :: l9 :: l10 :: l11 :: l12 :: l13 :: .st :: w) Q = Q (.st) (l0 :: l1 :: l2 :: l3 :: l4 :: l5 :: l6 :: l7 :: l8 :: l9 :: l10 :: l11 :: l12 :: l13 :: .st :: w) := rfl
@[simp] theorem gn_u14 : gN 14 d (l0 :: l1 :: l2 :: l3 :: l4 :: l5 :: l6 :: l7 :: l8 :: l9 :: l10 :: l11 :: l12 :: l13 :: .un :: w) Qw = Qw (l0 :: l1 :: l2 :: l3 :: l4 :: l5 :: l6 :: l7 :: l8 :: l9 :: l10 :: l11 :: l12 :: l13 :: .v d :: w) := rfl
@[simp] theorem gn_v14 : gN 14 d (l0 :: l1 :: l2 :: l3 :: l4 :: l5 :: l6 :: l7 :: l8 :: l9 :: l10 :: l11 :: l12 :: l13 :: .v e :: w) Qw = Qw (l0 :: l1 :: l2 :: l3 :: l4 :: l5 :: l6 :: l7 :: l8 :: l9 :: l10 :: l11 :: l12 :: l13 :: .v d :: w) := rfl
@[simp] theorem var_v15 : eVar 15 (l0 :: l1 :: l2 :: l3 :: l4 :: l5 :: l6 :: l7 :: l8 :: l9 :: l10 :: l11 :: l12 :: l13 :: l14 :: .v d :: w) Q = Q (.d d) (l0 :: l1 :: l2 :: l3 :: l4 :: l5 :: l6 :: l7 :: l8 :: l9 :: l10 :: l11 :: l12 :: l13 :: l14 :: .v d :: w) := rfl
@[simp] theorem var_o15 : eVar 15 (l0 :: l1 :: l2 :: l3 :: l4 :: l5 :: l6 :: l7 :: l8 :: l9 :: l10 :: l11 :: l12 :: l13 :: l14 :: .own xs :: w) Q = Q (.bor 15) (l0 :: l1 :: l2 :: l3 :: l4 :: l5 :: l6 :: l7 :: l8 :: l9 :: l10 :: l11 :: l12 :: l13 :: l14 :: .own xs :: w) := rfl
@[simp] theorem var_d15 : eVar 15 (l0 :: l1 :: l2 :: l3 :: l4 :: l5 :: l6 :: l7 :: l8 :: l9 :: l10 :: l11 :: l12 :: l13 :: l14 :: .ownD ds :: w) Q = Q (.bor 15) (l0 :: l1 :: l2 :: l3 :: l4 :: l5 :: l6 :: l7 :: l8 :: l9 :: l10 :: l11 :: l12 :: l13 :: l14 :: .ownD ds :: w) := rfl
@[simp] theorem var_l15 : eVar 15 (l0 :: l1 :: l2 :: l3 :: l4 :: l5 :: l6 :: l7 :: l8 :: l9 :: l10 :: l11 :: l12 :: l13 :: l14 :: .ownL as xss :: w) Q = Q (.bor 15) (l0 :: l1 :: l2 :: l3 :: l4 :: l5 :: l6 :: l7 :: l8 :: l9 :: l10 :: l11 :: l12 :: l13 :: l14 :: .ownL as xss :: w) := rfl
@[simp] theorem var_s15 : eVar 15 (l0 :: l1 :: l2 :: l3 :: l4 :: l5 :: l6 :: l7 :: l8 :: l9 :: l10 :: l11 :: l12 :: l13 :: l14 :: .st :: w) Q = Q (.st) (l0 :: l1 :: l2 :: l3 :: l4 :: l5 :: l6 :: l7 :: l8 :: l9 :: l10 :: l11 :: l12 :: l13 :: l14 :: .st :: w) := rfl
@[simp] theorem gn_u15 : gN 15 d (l0 :: l1 :: l2 :: l3 :: l4 :: l5 :: l6 :: l7 :: l8 :: l9 :: l10 :: l11 :: l12 :: l13 :: l14 :: .un :: w) Qw = Qw (l0 :: l1 :: l2 :: l3 :: l4 :: l5 :: l6 :: l7 :: l8 :: l9 :: l10 :: l11 :: l12 :: l13 :: l14 :: .v d :: w) := rfl
@[simp] theorem gn_v15 : gN 15 d (l0 :: l1 :: l2 :: l3 :: l4 :: l5 :: l6 :: l7 :: l8 :: l9 :: l10 :: l11 :: l12 :: l13 :: l14 :: .v e :: w) Qw = Qw (l0 :: l1 :: l2 :: l3 :: l4 :: l5 :: l6 :: l7 :: l8 :: l9 :: l10 :: l11 :: l12 :: l13 :: l14 :: .v d :: w) := rfl
@[simp] theorem var_v16 : eVar 16 (l0 :: l1 :: l2 :: l3 :: l4 :: l5 :: l6 :: l7 :: l8 :: l9 :: l10 :: l11 :: l12 :: l13 :: l14 :: l15 :: .v d :: w) Q = Q (.d d) (l0 :: l1 :: l2 :: l3 :: l4 :: l5 :: l6 :: l7 :: l8 :: l9 :: l10 :: l11 :: l12 :: l13 :: l14 :: l15 :: .v d :: w) := rfl
@[simp] theorem var_o16 : eVar 16 (l0 :: l1 :: l2 :: l3 :: l4 :: l5 :: l6 :: l7 :: l8 :: l9 :: l10 :: l11 :: l12 :: l13 :: l14 :: l15 :: .own xs :: w) Q = Q (.bor 16) (l0 :: l1 :: l2 :: l3 :: l4 :: l5 :: l6 :: l7 :: l8 :: l9 :: l10 :: l11 :: l12 :: l13 :: l14 :: l15 :: .own xs :: w) := rfl
@[simp] theorem var_d16 : eVar 16 (l0 :: l1 :: l2 :: l3 :: l4 :: l5 :: l6 :: l7 :: l8 :: l9 :: l10 :: l11 :: l12 :: l13 :: l14 :: l15 :: .ownD ds :: w) Q = Q (.bor 16) (l0 :: l1 :: l2 :: l3 :: l4 :: l5 :: l6 :: l7 :: l8 :: l9 :: l10 :: l11 :: l12 :: l13 :: l14 :: l15 :: .ownD ds :: w) := rfl
@[simp] theorem var_l16 : eVar 16 (l0 :: l1 :: l2 :: l3 :: l4 :: l5 :: l6 :: l7 :: l8 :: l9 :: l10 :: l11 :: l12 :: l13 :: l14 :: l15 :: .ownL as xss :: w) Q = Q (.bor 16) (l0 :: l1 :: l2 :: l3 :: l4 :: l5 :: l6 :: l7 :: l8 :: l9 :: l10 :: l11 :: l12 :: l13 :: l14 :: l15 :: .ownL as xss :: w) := rfl
@[simp] theorem var_s16 : eVar 16 (l0 :: l1 :: l2 :: l3 :: l4 :: l5 :: l6 :: l7 :: l8 :: l9 :: l10 :: l11 :: l12 :: l13 :: l14 :: l15 :: .st :: w) Q = Q (.st) (l0 :: l1 :: l2 :: l3 :: l4 :: l5 :: l6 :: l7 :: l8 :: l9 :: l10 :: l11 :: l12 :: l13 :: l14 :: l15 :: .st :: w) := rfl
@[simp] theorem gn_u16 : gN 16 d (l0 :: l1 :: l2 :: l3 :: l4 :: l5 :: l6 :: l7 :: l8 :: l9 :: l10 :: l11 :: l12 :: l13 :: l14 :: l15 :: .un :: w) Qw = Qw (l0 :: l1 :: l2 :: l3 :: l4 :: l5 :: l6 :: l7 :: l8 :: l9 :: l10 :: l11 :: l12 :: l13 :: l14 :: l15 :: .v d :: w) := rfl
@[simp] theorem gn_v16 : gN 16 d (l0 :: l1 :: l2 :: l3 :: l4 :: l5 :: l6 :: l7 :: l8 :: l9 :: l10 :: l11 :: l12 :: l13 :: l14 :: l15 :: .v e :: w) Qw = Qw (l0 :: l1 :: l2 :: l3 :: l4 :: l5 :: l6 :: l7 :: l8 :: l9 :: l10 :: l11 :: l12 :: l13 :: l14 :: l15 :: .v d :: w) := rfl
@[simp] theorem var_v17 : eVar 17 (l0 :: l1 :: l2 :: l3 :: l4 :: l5 :: l6 :: l7 :: l8 :: l9 :: l10 :: l11 :: l12 :: l13 :: l14 :: l15 :: l16 :: .v d :: w) Q = Q (.d d) (l0 :: l1 :: l2 :: l3 :: l4 :: l5 :: l6 :: l7 :: l8 :: l9 :: l10 :: l11 :: l12 :: l13 :: l14 :: l15 :: l16 :: .v d :: w) := rfl
@[simp] theorem var_o17 : eVar 17 (l0 :: l1 :: l2 :: l3 :: l4 :: l5 :: l6 :: l7 :: l8 :: l9 :: l10 :: l11 :: l12 :: l13 :: l14 :: l15 :: l16 :: .own xs :: w) Q = Q (.bor 17) (l0 :: l1 :: l2 :: l3 :: l4 :: l5 :: l6 :: l7 :: l8 :: l9 :: l10 :: l11 :: l12 :: l13 :: l14 :: l15 :: l16 :: .own xs :: w) := rfl
@[simp] theorem var_d17 : eVar 17 (l0 :: l1 :: l2 :: l3 :: l4 :: l5 :: l6 :: l7 :: l8 :: l9 :: l10 :: l11 :: l12 :: l13 :: l14 :: l15 :: l16 :: .ownD ds :: w) Q = Q (.bor 17) (l0 :: l1 :: l2 :: l3 :: l4 :: l5 :: l6 :: l7 :: l8 :: l9 :: l10 :: l11 :: l12 :: l13 :: l14 :: l15 :: l16 :: .ownD ds :: w) := rfl
@[simp] theorem var_l17 : eVar 17 (l0 :: l1 :: l2 :: l3 :: l4 :: l5 :: l6 :: l7 :: l8 :: l9 :: l10 :: l11 :: l12 :: l13 :: l14 :: l15 :: l16 :: .ownL as xss :: w) Q = Q (.bor 17) (l0 :: l1 :: l2 :: l3 :: l4 :: l5 :: l6 :: l7 :: l8 :: l9 :: l10 :: l11 :: l12 :: l13 :: l14 :: l15 :: l16 :: .ownL as xss :: w) := rfl
@[simp] theorem var_s17 : eVar 17 (l0 :: l1 :: l2 :: l3 :: l4 :: l5 :: l6 :: l7 :: l8 :: l9 :: l10 :: l11 :: l12 :: l13 :: l14 :: l15 :: l16 :: .st :: w) Q = Q (.st) (l0 :: l1 :: l2 :: l3 :: l4 :: l5 :: l6 :: l7 :: l8 :: l9 :: l10 :: l11 :: l12 :: l13 :: l14 :: l15 :: l16 :: .st :: w) := rfl
@[simp] theorem gn_u17 : gN 17 d (l0 :: l1 :: l2 :: l3 :: l4 :: l5 :: l6 :: l7 :: l8 :: l9 :: l10 :: l11 :: l12 :: l13 :: l14 :: l15 :: l16 :: .un :: w) Qw = Qw (l0 :: l1 :: l2 :: l3 :: l4 :: l5 :: l6 :: l7 :: l8 :: l9 :: l10 :: l11 :: l12 :: l13 :: l14 :: l15 :: l16 :: .v d :: w) := rfl
@[simp] theorem gn_v17 : gN 17 d (l0 :: l1 :: l2 :: l3 :: l4 :: l5 :: l6 :: l7 :: l8 :: l9 :: l10 :: l11 :: l12 :: l13 :: l14 :: l15 :: l16 :: .v e :: w) Qw = Qw (l0 :: l1 :: l2 :: l3 :: l4 :: l5 :: l6 :: l7 :: l8 :: l9 :: l10 :: l11 :: l12 :: l13 :: l14 :: l15 :: l16 :: .v d :: w) := rfl
@[simp] theorem var_v18 : eVar 18 (l0 :: l1 :: l2 :: l3 :: l4 :: l5 :: l6 :: l7 :: l8 :: l9 :: l10 :: l11 :: l12 :: l13 :: l14 :: l15 :: l16 :: l17 :: .v d :: w) Q = Q (.d d) (l0 :: l1 :: l2 :: l3 :: l4 :: l5 :: l6 :: l7 :: l8 :: l9 :: l10 :: l11 :: l12 :: l13 :: l14 :: l15 :: l16 :: l17 :: .v d :: w) := rfl
@[simp] theorem var_o18 : eVar 18 (l0 :: l1 :: l2 :: l3 :: l4 :: l5 :: l6 :: l7 :: l8 :: l9 :: l10 :: l11 :: l12 :: l13 :: l14 :: l15 :: l16 :: l17 :: .own xs :: w) Q = Q (.bor 18) (l0 :: l1 :: l2 :: l3 :: l4 :: l5 :: l6 :: l7 :: l8 :: l9 :: l10 :: l11 :: l12 :: l13 :: l14 :: l15 :: l16 :: l17 :: .own xs :: w) := rfl
@[simp] theorem var_d18 : eVar 18 (l0 :: l1 :: l2 :: l3 :: l4 :: l5 :: l6 :: l7 :: l8 :: l9 :: l10 :: l11 :: l12 :: l13 :: l14 :: l15 :: l16 :: l17 :: .ownD ds :: w) Q = Q (.bor 18) (l0 :: l1 :: l2 :: l3 :: l4 :: l5 :: l6 :: l7 :: l8 :: l9 :: l10 :: l11 :: l12 :: l13 :: l14 :: l15 :: l16 :: l17 :: .ownD ds :: w) := rfl
@[simp] theorem var_l18 : eVar 18 (l0 :: l1 :: l2 :: l3 :: l4 :: l5 :: l6 :: l7 :: l8 :: l9 :: l10 :: l11 :: l12 :: l13 :: l14 :: l15 :: l16 :: l17 :: .ownL as xss :: w) Q = Q (.bor 18) (l0 :: l1 :: l2 :: l3 :: l4 :: l5 :: l6 :: l7 :: l8 :: l9 :: l10 :: l11 :: l12 :: l13 :: l14 :: l15 :: l16 :: l17 :: .ownL as xss :: w) := rfl
@[simp] theorem var_s18 : eVar 18 (l0 :: l1 :: l2 :: l3 :: l4 :: l5 :: l6 :: l7 :: l8 :: l9 :: l10 :: l11 :: l12 :: l13 :: l14 :: l15 :: l16 :: l17 :: .st :: w) Q = Q (.st) (l0 :: l1 :: l2 :: l3 :: l4 :: l5 :: l6 :: l7 :: l8 :: l9 :: l10 :: l11 :: l12 :: l13 :: l14 :: l15 :: l16 :: l17 :: .st :: w) := rfl
@[simp] theorem gn_u18 : gN 18 d (l0 :: l1 :: l2 :: l3 :: l4 :: l5 :: l6 :: l7 :: l8 :: l9 :: l10 :: l11 :: l12 :: l13 :: l14 :: l15 :: l16 :: l17 :: .un :: w) Qw = Qw (l0 :: l1 :: l2 :: l3 :: l4 :: l5 :: l6 :: l7 :: l8 :: l9 :: l10 :: l11 :: l12 :: l13 :: l14 :: l15 :: l16 :: l17 :: .v d :: w) := rfl
@[simp] theorem gn_v18 : gN 18 d (l0 :: l1 :: l2 :: l3 :: l4 :: l5 :: l6 :: l7 :: l8 :: l9 :: l10 :: l11 :: l12 :: l13 :: l14 :: l15 :: l16 :: l17 :: .v e :: w) Qw = Qw (l0 :: l1 :: l2 :: l3 :: l4 :: l5 :: l6 :: l7 :: l8 :: l9 :: l10 :: l11 :: l12 :: l13 :: l14 :: l15 :: l16 :: l17 :: .v d :: w) := rfl
@[simp] theorem var_v19 : eVar 19 (l0 :: l1 :: l2 :: l3 :: l4 :: l5 :: l6 :: l7 :: l8 :: l9 :: l10 :: l11 :: l12 :: l13 :: l14 :: l15 :: l16 :: l17 :: l18 :: .v d :: w) Q = Q (.d d) (l0 :: l1 :: l2 :: l3 :: l4 :: l5 :: l6 :: l7 :: l8 :: l9 :: l10 :: l11 :: l12 :: l13 :: l14 :: l15 :: l16 :: l17 :: l18 :: .v d :: w) := rfl
@[simp] theorem var_o19 : eVar 19 (l0 :: l1 :: l2 :: l3 :: l4 :: l5 :: l6 :: l7 :: l8 :: l9 :: l10 :: l11 :: l12 :: l13 :: l14 :: l15 :: l16 :: l17 :: l18 :: .own xs :: w) Q = Q (.bor 19) (l0 :: l1 :: l2 :: l3 :: l4 :: l5 :: l6 :: l7 :: l8 :: l9 :: l10 :: l11 :: l12 :: l13 :: l14 :: l15 :: l16 :: l17 :: l18 :: .own xs :: w) := rfl
@[simp] theorem var_d19 : eVar 19 (l0 :: l1 :: l2 :: l3 :: l4 :: l5 :: l6 :: l7 :: l8 :: l9 :: l10 :: l11 :: l12 :: l13 :: l14 :: l15 :: l16 :: l17 :: l18 :: .ownD ds :: w) Q = Q (.bor 19) (l0 :: l1 :: l2 :: l3 :: l4 :: l5 :: l6 :: l7 :: l8 :: l9 :: l10 :: l11 :: l12 :: l13 :: l14 :: l15 :: l16 :: l17 :: l18 :: .ownD ds :: w) := rfl
@[simp] theorem var_l19 : eVar 19 (l0 :: l1 :: l2 :: l3 :: l4 :: l5 :: l6 :: l7 :: l8 :: l9 :: l10 :: l11 :: l12 :: l13 :: l14 :: l15 :: l16 :: l17 :: l18 :: .ownL as xss :: w) Q = Q (.bor 19) (l0 :: l1 :: l2 :: l3 :: l4 :: l5 :: l6 :: l7 :: l8 :: l9 :: l10 :: l11 :: l12 :: l13 :: l14 :: l15 :: l16 :: l17 :: l18 :: .ownL as xss :: w) := rfl
@[simp] theorem var_s19 : eVar 19 (l0 :: l1 :: l2 :: l3 :: l4 :: l5 :: l6 :: l7 :: l8 :: l9 :: l10 :: l11 :: l12 :: l13 :: l14 :: l15 :: l16 :: l17 :: l18 :: .st :: w) Q = Q (.st) (l0 :: l1 :: l2 :: l3 :: l4 :: l5 :: l6 :: l7 :: l8 :: l9 :: l10 :: l11 :: l12 :: l13 :: l14 :: l15 :: l16 :: l17 :: l18 :: .st :: w) := rfl
@[simp] theorem gn_u19 : gN 19 d (l0 :: l1 :: l2 :: l3 :: l4 :: l5 :: l6 :: l7 :: l8 :: l9 :: l10 :: l11 :: l12 :: l13 :: l14 :: l15 :: l16 :: l17 :: l18 :: .un :: w) Qw = Qw (l0 :: l1 :: l2 :: l3 :: l4 :: l5 :: l6 :: l7 :: l8 :: l9 :: l10 :: l11 :: l12 :: l13 :: l14 :: l15 :: l16 :: l17 :: l18 :: .v d :: w) := rfl
@[simp] theorem gn_v19 : gN 19 d (l0 :: l1 :: l2 :: l3 :: l4 :: l5 :: l6 :: l7 :: l8 :: l9 :: l10 :: l11 :: l12 :: l13 :: l14 :: l15 :: l16 :: l17 :: l18 :: .v e :: w) Qw = Qw (l0 :: l1 :: l2 :: l3 :: l4 :: l5 :: l6 :: l7 :: l8 :: l9 :: l10 :: l11 :: l12 :: l13 :: l14 :: l15 :: l16 :: l17 :: l18 :: .v d :: w) := rfl
@[simp] theorem var_v20 : eVar 20 (l0 :: l1 :: l2 :: l3 :: l4 :: l5 :: l6 :: l7 :: l8 :: l9 :: l10 :: l11 :: l12 :: l13 :: l14 :: l15 :: l16 :: l17 :: l18 :: l19 :: .v d :: w) Q = Q (.d d) (l0 :: l1 :: l2 :: l3 :: l4 :: l5 :: l6 :: l7 :: l8 :: l9 :: l10 :: l11 :: l12 :: l13 :: l14 :: l15 :: l16 :: l17 :: l18 :: l19 :: .v d :: w) := rfl
@[simp] theorem var_o20 : eVar 20 (l0 :: l1 :: l2 :: l3 :: l4 :: l5 :: l6 :: l7 :: l8 :: l9 :: l10 :: l11 :: l12 :: l13 :: l14 :: l15 :: l16 :: l17 :: l18 :: l19 :: .own xs :: w) Q = Q (.bor 20) (l0 :: l1 :: l2 :: l3 :: l4 :: l5 :: l6 :: l7 :: l8 :: l9 :: l10 :: l11 :: l12 :: l13 :: l14 :: l15 :: l16 :: l17 :: l18 :: l19 :: .own xs :: w) := rfl
@[simp] theorem var_d20 : eVar 20 (l0 :: l1 :: l2 :: l3 :: l4 :: l5 :: l6 :: l7 :: l8 :: l9 :: l10 :: l11 :: l12 :: l13 :: l14 :: l15 :: l16 :: l17 :: l18 :: l19 :: .ownD ds :: w) Q = Q (.bor 20) (l0 :: l1 :: l2 :: l3 :: l4 :: l5 :: l6 :: l7 :: l8 :: l9 :: l10 :: l11 :: l12 :: l13 :: l14 :: l15 :: l16 :: l17 :: l18 :: l19 :: .ownD ds :: w) := rfl
@[simp] theorem var_l20 : eVar 20 (l0 :: l1 :: l2 :: l3 :: l4 :: l5 :: l6 :: l7 :: l8 :: l9 :: l10 :: l11 :: l12 :: l13 :: l14 :: l15 :: l16 :: l17 :: l18 :: l19 :: .ownL as xss :: w) Q = Q (.bor 20) (l0 :: l1 :: l2 :: l3 :: l4 :: l5 :: l6 :: l7 :: l8 :: l9 :: l10 :: l11 :: l12 :: l13 :: l14 :: l15 :: l16 :: l17 :: l18 :: l19 :: .ownL as xss :: w) := rfl
@[simp] theorem var_s20 : eVar 20 (l0 :: l1 :: l2 :: l3 :: l4 :: l5 :: l6 :: l7 :: l8 :: l9 :: l10 :: l11 :: l12 :: l13 :: l14 :: l15 :: l16 :: l17 :: l18 :: l19 :: .st :: w) Q = Q (.st) (l0 :: l1 :: l2 :: l3 :: l4 :: l5 :: l6 :: l7 :: l8 :: l9 :: l10 :: l11 :: l12 :: l13 :: l14 :: l15 :: l16 :: l17 :: l18 :: l19 :: .st :: w) := rfl
@[simp] theorem gn_u20 : gN 20 d (l0 :: l1 :: l2 :: l3 :: l4 :: l5 :: l6 :: l7 :: l8 :: l9 :: l10 :: l11 :: l12 :: l13 :: l14 :: l15 :: l16 :: l17 :: l18 :: l19 :: .un :: w) Qw = Qw (l0 :: l1 :: l2 :: l3 :: l4 :: l5 :: l6 :: l7 :: l8 :: l9 :: l10 :: l11 :: l12 :: l13 :: l14 :: l15 :: l16 :: l17 :: l18 :: l19 :: .v d :: w) := rfl
@[simp] theorem gn_v20 : gN 20 d (l0 :: l1 :: l2 :: l3 :: l4 :: l5 :: l6 :: l7 :: l8 :: l9 :: l10 :: l11 :: l12 :: l13 :: l14 :: l15 :: l16 :: l17 :: l18 :: l19 :: .v e :: w) Qw = Qw (l0 :: l1 :: l2 :: l3 :: l4 :: l5 :: l6 :: l7 :: l8 :: l9 :: l10 :: l11 :: l12 :: l13 :: l14 :: l15 :: l16 :: l17 :: l18 :: l19 :: .v d :: w) := rfl
@[simp] theorem var_v21 : eVar 21 (l0 :: l1 :: l2 :: l3 :: l4 :: l5 :: l6 :: l7 :: l8 :: l9 :: l10 :: l11 :: l12 :: l13 :: l14 :: l15 :: l16 :: l17 :: l18 :: l19 :: l20 :: .v d :: w) Q = Q (.d d) (l0 :: l1 :: l2 :: l3 :: l4 :: l5 :: l6 :: l7 :: l8 :: l9 :: l10 :: l11 :: l12 :: l13 :: l14 :: l15 :: l16 :: l17 :: l18 :: l19 :: l20 :: .v d :: w) := rfl
@[simp] theorem var_o21 : eVar 21 (l0 :: l1 :: l2 :: l3 :: l4 :: l5 :: l6 :: l7 :: l8 :: l9 :: l10 :: l11 :: l12 :: l13 :: l14 :: l15 :: l16 :: l17 :: l18 :: l19 :: l20 :: .own xs :: w) Q = Q (.bor 21) (l0 :: l1 :: l2 :: l3 :: l4 :: l5 :: l6 :: l7 :: l8 :: l9 :: l10 :: l11 :: l12 :: l13 :: l14 :: l15 :: l16 :: l17 :: l18 :: l19 :: l20 :: .own xs :: w) := rfl
@[simp] theorem var_d21 : eVar 21 (l0 :: l1 :: l2 :: l3 :: l4 :: l5 :: l6 :: l7 :: l8 :: l9 :: l10 :: l11 :: l12 :: l13 :: l14 :: l15 :: l16 :: l17 :: l18 :: l19 :: l20 :: .ownD ds :: w) Q = Q (.bor 21) (l0 :: l1 :: l2 :: l3 :: l4 :: l5 :: l6 :: l7 :: l8 :: l9 :: l10 :: l11 :: l12 :: l13 :: l14 :: l15 :: l16 :: l17 :: l18 :: l19 :: l20 :: .ownD ds :: w) := rfl
@[simp] theorem var_l21 : eVar 21 (l0 :: l1 :: l2 :: l3 :: l4 :: l5 :: l6 :: l7 :: l8 :: l9 :: l10 :: l11 :: l12 :: l13 :: l14 :: l15 :: l16 :: l17 :: l18 :: l19 :: l20 :: .ownL as xss :: w) Q = Q (.bor 21) (l0 :: l1 :: l2 :: l3 :: l4 :: l5 :: l6 :: l7 :: l8 :: l9 :: l10 :: l11 :: l12 :: l13 :: l14 :: l15 :: l16 :: l17 :: l18 :: l19 :: l20 :: .ownL as xss :: w) := rfl
@[simp] theorem var_s21 : eVar 21 (l0 :: l1 :: l2 :: l3 :: l4 :: l5 :: l6 :: l7 :: l8 :: l9 :: l10 :: l11 :: l12 :: l13 :: l14 :: l15 :: l16 :: l17 :: l18 :: l19 :: l20 :: .st :: w) Q = Q (.st) (l0 :: l1 :: l2 :: l3 :: l4 :: l5 :: l6 :: l7 :: l8 :: l9 :: l10 :: l11 :: l12 :: l13 :: l14 :: l15 :: l16 :: l17 :: l18 :: l19 :: l20 :: .st :: w) := rfl
@[simp] theorem gn_u21 : gN 21 d (l0 :: l1 :: l2 :: l3 :: l4 :: l5 :: l6 :: l7 :: l8 :: l9 :: l10 :: l11 :: l12 :: l13 :: l14 :: l15 :: l16 :: l17 :: l18 :: l19 :: l20 :: .un :: w) Qw = Qw (l0 :: l1 :: l2 :: l3 :: l4 :: l5 :: l6 :: l7 :: l8 :: l9 :: l10 :: l11 :: l12 :: l13 :: l14 :: l15 :: l16 :: l17 :: l18 :: l19 :: l20 :: .v d :: w) := rfl
@[simp] theorem gn_v21 : gN 21 d (l0 :: l1 :: l2 :: l3 :: l4 :: l5 :: l6 :: l7 :: l8 :: l9 :: l10 :: l11 :: l12 :: l13 :: l14 :: l15 :: l16 :: l17 :: l18 :: l19 :: l20 :: .v e :: w) Qw = Qw (l0 :: l1 :: l2 :: l3 :: l4 :: l5 :: l6 :: l7 :: l8 :: l9 :: l10 :: l11 :: l12 :: l13 :: l14 :: l15 :: l16 :: l17 :: l18 :: l19 :: l20 :: .v d :: w) := rfl
@[simp] theorem var_v22 : eVar 22 (l0 :: l1 :: l2 :: l3 :: l4 :: l5 :: l6 :: l7 :: l8 :: l9 :: l10 :: l11 :: l12 :: l13 :: l14 :: l15 :: l16 :: l17 :: l18 :: l19 :: l20 :: l21 :: .v d :: w) Q = Q (.d d) (l0 :: l1 :: l2 :: l3 :: l4 :: l5 :: l6 :: l7 :: l8 :: l9 :: l10 :: l11 :: l12 :: l13 :: l14 :: l15 :: l16 :: l17 :: l18 :: l19 :: l20 :: l21 :: .v d :: w) := rfl
@[simp] theorem var_o22 : eVar 22 (l0 :: l1 :: l2 :: l3 :: l4 :: l5 :: l6 :: l7 :: l8 :: l9 :: l10 :: l11 :: l12 :: l13 :: l14 :: l15 :: l16 :: l17 :: l18 :: l19 :: l20 :: l21 :: .own xs :: w) Q = Q (.bor 22) (l0 :: l1 :: l2 :: l3 :: l4 :: l5 :: l6 :: l7 :: l8 :: l9 :: l10 :: l11 :: l12 :: l13 :: l14 :: l15 :: l16 :: l17 :: l18 :: l19 :: l20 :: l21 :: .own xs :: w) := rfl
@[simp] theorem var_d22 : eVar 22 (l0 :: l1 :: l2 :: l3 :: l4 :: l5 :: l6 :: l7 :: l8 :: l9 :: l10 :: l11 :: l12 :: l13 :: l14 :: l15 :: l16 :: l17 :: l18 :: l19 :: l20 :: l21 :: .ownD ds :: w) Q = Q (.bor 22) (l0 :: l1 :: l2 :: l3 :: l4 :: l5 :: l6 :: l7 :: l8 :: l9 :: l10 :: l11 :: l12 :: l13 :: l14 :: l15 :: l16 :: l17 :: l18 :: l19 :: l20 :: l21 :: .ownD ds :: w) := rfl
@[simp] theorem var_l22 : eVar 22 (l0 :: l1 :: l2 :: l3 :: l4 :: l5 :: l6 :: l7 :: l8 :: l9 :: l10 :: l11 :: l12 :: l13 :: l14 :: l15 :: l16 :: l17 :: l18 :: l19 :: l20 :: l21 :: .ownL as xss :: w) Q = Q (.bor 22) (l0 :: l1 :: l2 :: l3 :: l4 :: l5 :: l6 :: l7 :: l8 :: l9 :: l10 :: l11 :: l12 :: l13 :: l14 :: l15 :: l16 :: l17 :: l18 :: l19 :: l20 :: l21 :: .ownL as xss :: w) := rfl
@[simp] theorem var_s22 : eVar 22 (l0 :: l1 :: l2 :: l3 :: l4 :: l5 :: l6 :: l7 :: l8 :: l9 :: l10 :: l11 :: l12 :: l13 :: l14 :: l15 :: l16 :: l17 :: l18 :: l19 :: l20 :: l21 :: .st :: w) Q = Q (.st) (l0 :: l1 :: l2 :: l3 :: l4 :: l5 :: l6 :: l7 :: l8 :: l9 :: l10 :: l11 :: l12 :: l13 :: l14 :: l15 :: l16 :: l17 :: l18 :: l19 :: l20 :: l21 :: .st :: w) := rfl
@[simp] theorem gn_u22 : gN 22 d (l0 :: l1 :: l2 :: l3 :: l4 :: l5 :: l6 :: l7 :: l8 :: l9 :: l10 :: l11 :: l12 :: l13 :: l14 :: l15 :: l16 :: l17 :: l18 :: l19 :: l20 :: l21 :: .un :: w) Qw = Qw (l0 :: l1 :: l2 :: l3 :: l4 :: l5 :: l6 :: l7 :: l8 :: l9 :: l10 :: l11 :: l12 :: l13 :: l14 :: l15 :: l16 :: l17 :: l18 :: l19 :: l20 :: l21 :: .v d :: w) := rfl
@[simp] theorem gn_v22 : gN 22 d (l0 :: l1 :: l2 :: l3 :: l4 :: l5 :: l6 :: l7 :: l8 :: l9 :: l10 :: l11 :: l12 :: l13 :: l14 :: l15 :: l16 :: l17 :: l18 :: l19 :: l20 :: l21 :: .v e :: w) Qw = Qw (l0 :: l1 :: l2 :: l3 :: l4 :: l5 :: l6 :: l7 :: l8 :: l9 :: l10 :: l11 :: l12 :: l13 :: l14 :: l15 :: l16 :: l17 :: l18 :: l19 :: l20 :: l21 :: .v d :: w) := rfl
@[simp] theorem var_v23 : eVar 23 (l0 :: l1 :: l2 :: l3 :: l4 :: l5 :: l6 :: l7 :: l8 :: l9 :: l10 :: l11 :: l12 :: l13 :: l14 :: l15 :: l16 :: l17 :: l18 :: l19 :: l20 :: l21 :: l22 :: .v d :: w) Q = Q (.d d) (l0 :: l1 :: l2 :: l3 :: l4 :: l5 :: l6 :: l7 :: l8 :: l9 :: l10 :: l11 :: l12 :: l13 :: l14 :: l15 :: l16 :: l17 :: l18 :: l19 :: l20 :: l21 :: l22 :: .v d :: w) := rfl
@[simp] theorem var_o23 : eVar 23 (l0 :: l1 :: l2 :: l3 :: l4 :: l5 :: l6 :: l7 :: l8 :: l9 :: l10 :: l11 :: l12 :: l13 :: l14 :: l15 :: l16 :: l17 :: l18 :: l19 :: l20 :: l21 :: l22 :: .own xs :: w) Q = Q (.bor 23) (l0 :: l1 :: l2 :: l3 :: l4 :: l5 :: l6 :: l7 :: l8 :: l9 :: l10 :: l11 :: l12 :: l13 :: l14 :: l15 :: l16 :: l17 :: l18 :: l19 :: l20 :: l21 :: l22 :: .own xs :: w) := rfl
@[simp] theorem var_d23 : eVar 23 (l0 :: l1 :: l2 :: l3 :: l4 :: l5 :: l6 :: l7 :: l8 :: l9 :: l10 :: l11 :: l12 :: l13 :: l14 :: l15 :: l16 :: l17 :: l18 :: l19 :: l20 :: l21 :: l22 :: .ownD ds :: w) Q = Q (.bor 23) (l0 :: l1 :: l2 :: l3 :: l4 :: l5 :: l6 :: l7 :: l8 :: l9 :: l10 :: l11 :: l12 :: l13 :: l14 :: l15 :: l16 :: l17 :: l18 :: l19 :: l20 :: l21 :: l22 :: .ownD ds :: w) := rfl
@[simp] theorem var_l23 : eVar 23 (l0 :: l1 :: l2 :: l3 :: l4 :: l5 :: l6 :: l7 :: l8 :: l9 :: l10 :: l11 :: l12 :: l13 :: l14 :: l15 :: l16 :: l17 :: l18 :: l19 :: l20 :: l21 :: l22 :: .ownL as xss :: w) Q = Q (.bor 23) (l0 :: l1 :: l2 :: l3 :: l4 :: l5 :: l6 :: l7 :: l8 :: l9 :: l10 :: l11 :: l12 :: l13 :: l14 :: l15 :: l16 :: l17 :: l18 :: l19 :: l20 :: l21 :: l22 :: .ownL as xss :: w) := rfl
@[simp] theorem var_s23 : eVar 23 (l0 :: l1 :: l2 :: l3 :: l4 :: l5 :: l6 :: l7 :: l8 :: l9 :: l10 :: l11 :: l12 :: l13 :: l14 :: l15 :: l16 :: l17 :: l18 :: l19 :: l20 :: l21 :: l22 :: .st :: w) Q = Q (.st) (l0 :: l1 :: l2 :: l3 :: l4 :: l5 :: l6 :: l7 :: l8 :: l9 :: l10 :: l11 :: l12 :: l13 :: l14 :: l15 :: l16 :: l17 :: l18 :: l19 :: l20 :: l21 :: l22 :: .st :: w) := rfl
@[simp] theorem gn_u23 : gN 23 d (l0 :: l1 :: l2 :: l3 :: l4 :: l5 :: l6 :: l7 :: l8 :: l9 :: l10 :: l11 :: l12 :: l13 :: l14 :: l15 :: l16 :: l17 :: l18 :: l19 :: l20 :: l21 :: l22 :: .un :: w) Qw = Qw (l0 :: l1 :: l2 :: l3 :: l4 :: l5 :: l6 :: l7 :: l8 :: l9 :: l10 :: l11 :: l12 :: l13 :: l14 :: l15 :: l16 :: l17 :: l18 :: l19 :: l20 :: l21 :: l22 :: .v d :: w) := rfl
@[simp] theorem gn_v23 : gN 23 d (l0 :: l1 :: l2 :: l3 :: l4 :: l5 :: l6 :: l7 :: l8 :: l9 :: l10 :: l11 :: l12 :: l13 :: l14 :: l15 :: l16 :: l17 :: l18 :: l19 :: l20 :: l21 :: l22 :: .v e :: w) Qw = Qw (l0 :: l1 :: l2 :: l3 :: l4 :: l5 :: l6 :: l7 :: l8 :: l9 :: l10 :: l11 :: l12 :: l13 :: l14 :: l15 :: l16 :: l17 :: l18 :: l19 :: l20 :: l21 :: l22 :: .v d :: w) := rfl
end
end OW
namespace OW
open PySem PySem.Spec PyProof.Rows L2
/-! ### the same readings, what comes behind said once -/
def retE : R → E
  | .val d => .d d
  | .new ys => .d (.lst ys)
@[simp] theorem retE_v {d : D} : retE (.val d) = .d d := rfl
@[simp] theorem retE_n {ys : List D} : retE (.new ys) = .d (.lst ys) := rfl
theorem q_fn2 {spec : Spec} {ta : TWa} {w : W} {Q : E → W → Prop} : eFn spec ta w Q = ta w fun xs w1 => okArgs xs ∧ spec xs fun r => Q (retE r) w1 := by
  unfold eFn
  congr 1
  funext xs w1
  congr 2
  funext r
  cases r <;> rfl
def iOfK (e : E) (w : W) (Q : List D → W → Prop) : Prop := match e with
  | .d (.lst xs) => Q xs w
  | .d (.tup xs) => Q xs w
  | _ => False
theorem q_iOf2 {te : TW} {w : W} {Q : List D → W → Prop} : iOf te w Q = te w fun e w1 => iOfK e w1 Q := rfl
@[simp] theorem iOfK1 {xs : List D} {w : W} {Q : List D → W → Prop} : iOfK (.d (.lst xs)) w Q = Q xs w := rfl
@[simp] theorem iOfK2 {xs : List D} {w : W} {Q : List D → W → Prop} : iOfK (.d (.tup xs)) w Q = Q xs w := rfl
def slK (x : E) (lo hi : Option Int) (w3 : W) (Q : E → W → Prop) : Prop := match x with
  | .d (.tup xs) => Q (.d (.tup (cutD xs lo hi))) w3
  | .d (.str s) => s.length ≤ sizeLine ∧ Q (.d (.str (cutS s lo hi))) w3
  | x => (match itL w3 x with
    | some xs => Q (.d (.lst (cutD xs lo hi))) w3
    | none => False)
theorem q_slice2 {te : TW} {tl th : TWo} {w : W} {Q : E → W → Prop} : eSlice te tl th w Q = te w fun x w1 => tl w1 fun lo w2 => th w2 fun hi w3 => slK x lo hi w3 Q := rfl
@[simp] theorem slK1 {xs : List D} {lo hi : Option Int} {w : W} {Q : E → W → Prop} : slK (.d (.tup xs)) lo hi w Q = Q (.d (.tup (cutD xs lo hi))) w := rfl
@[simp] theorem slK2 {xs : List D} {lo hi : Option Int} {w : W} {Q : E → W → Prop} : slK (.d (.lst xs)) lo hi w Q = Q (.d (.lst (cutD xs lo hi))) w := rfl
end OW


namespace OW
@[simp] theorem q_min2 {i j : Int} {w : W} {Q : E → W → Prop} : cMin2 [.d (.int i), .d (.int j)] w Q = Q (.d (.int (if j < i then j else i))) w := rfl
end OW
namespace K80
open PySem PySem.Spec PyProof.Rows L2 OW
variable {Q : R → Prop} {es : List E}
/-! ### _law_member -/
@[simp] theorem ne_wait_way : (Str.ofString "wait" = Str.ofString "way") = False := eq_false (by decide)
@[simp] theorem ne_wait_ready : (Str.ofString "wait" = Str.ofString "ready") = False := eq_false (by decide)
@[simp] theorem ne_wait_free : (Str.ofString "wait" = Str.ofString "free") = False := eq_false (by decide)
@[simp] theorem ne_wait_lent : (Str.ofString "wait" = Str.ofString "lent") = False := eq_false (by decide)
@[simp] theorem ne_way_wait : (Str.ofString "way" = Str.ofString "wait") = False := eq_false (by decide)
@[simp] theorem ne_way_ready : (Str.ofString "way" = Str.ofString "ready") = False := eq_false (by decide)
@[simp] theorem ne_way_free : (Str.ofString "way" = Str.ofString "free") = False := eq_false (by decide)
@[simp] theorem ne_way_lent : (Str.ofString "way" = Str.ofString "lent") = False := eq_false (by decide)
@[simp] theorem ne_ready_wait : (Str.ofString "ready" = Str.ofString "wait") = False := eq_false (by decide)
@[simp] theorem ne_ready_way : (Str.ofString "ready" = Str.ofString "way") = False := eq_false (by decide)
@[simp] theorem ne_ready_free : (Str.ofString "ready" = Str.ofString "free") = False := eq_false (by decide)
@[simp] theorem ne_ready_lent : (Str.ofString "ready" = Str.ofString "lent") = False := eq_false (by decide)
@[simp] theorem ne_free_wait : (Str.ofString "free" = Str.ofString "wait") = False := eq_false (by decide)
@[simp] theorem ne_free_way : (Str.ofString "free" = Str.ofString "way") = False := eq_false (by decide)
@[simp] theorem ne_free_ready : (Str.ofString "free" = Str.ofString "ready") = False := eq_false (by decide)
@[simp] theorem ne_free_lent : (Str.ofString "free" = Str.ofString "lent") = False := eq_false (by decide)
@[simp] theorem ne_lent_wait : (Str.ofString "lent" = Str.ofString "wait") = False := eq_false (by decide)
@[simp] theorem ne_lent_way : (Str.ofString "lent" = Str.ofString "way") = False := eq_false (by decide)
@[simp] theorem ne_lent_ready : (Str.ofString "lent" = Str.ofString "ready") = False := eq_false (by decide)
@[simp] theorem ne_lent_free : (Str.ofString "lent" = Str.ofString "free") = False := eq_false (by decide)
theorem c_next {wk : D} {day : Int} (W : WeekD wk) (h : ∀ k : Int, Q (.val (.int k))) : sp_law_next [.d wk, .d (.int day)] Q := ⟨wk, day, rfl, W, h⟩
theorem c_nth {wk : D} {day n : Int} (W : WeekD wk) (h0 : 0 ≤ n) (h1 : n < 1000) (h : ∀ k : Int, Q (.val (.int k))) : sp_law_nth [.d wk, .d (.int day), .d (.int n)] Q := ⟨wk, day, n, rfl, W, h0, h1, h⟩
theorem pys_len : ∀ {is : List Int}, pys (is.map D.int) = is.map PyData.int := pys_ints2
theorem okEqL_ints {is : List Int} : okEq (.lst (is.map .int)) = true := by
  have h := depth_ints (is := is)
  simp [-q_fn, -q_iOf, -q_slice, q_fn2, q_iOf2, q_slice2, okEq, noDic, noDics_ints, py, pys_ints2, SeqAt.shaped, PyData.canLay0, can_ints, PyData.depth]
  omega
theorem q_eqL {is : List Int} {w : W} {Q : E → W → Prop} : oEq (.d (.lst (is.map .int))) (.d (.lst [])) w Q = Q (.d (.bl is.isEmpty)) w := by
  show (okEq _ = true ∧ okEq (.lst (([] : List Int).map .int)) = true ∧ Q (.d (.bl (deq _ _))) w) = _
  have h3 : deq (.lst (is.map .int)) (.lst []) = is.isEmpty := by
    cases is with
    | nil => rfl
    | cons i r => rfl
  rw [okEqL_ints, okEqL_ints, h3]
  simp [-q_fn, -q_iOf, -q_slice, q_fn2, q_iOf2, q_slice2]
/-- all of them are numbers -/
theorem all_ints : ∀ {ys : List D}, (∀ d ∈ ys, ∃ i : Int, d = .int i) → ∃ is : List Int, ys = is.map .int
  | [], _ => ⟨[], rfl⟩
  | d :: r, h => by
    obtain ⟨i, rfl⟩ := h _ (List.mem_cons_self ..)
    obtain ⟨is, rfl⟩ := all_ints (ys := r) fun x hx => h x (List.mem_cons_of_mem _ hx)
    exact ⟨i :: is, rfl⟩
def sp_law_member : OW.Spec := fun es Q => ∃ (houses : List D) (classes : Int) (loans : D) (win : Int) (grace : D) (goal day told : Int), es = [.st, .d (bookD houses classes loans win grace), .d (.int goal), .d (.int day), .d (.int told)] ∧ 0 ≤ goal ∧ goal < houses.length ∧ (∀ h ∈ houses, HouseD h) ∧ 1 ≤ win ∧ win ≤ 14 ∧
  Q (.val .non) ∧ (∀ d : Int, Q (.val (.tup [.str "way", .int d]))) ∧ ∀ d : Int, Q (.val (.tup [.str "ready", .int d]))
theorem p_law_member (h : sp_law_member es Q) : t_law_member sp_law_pick sp_law_nth sp_law_next sp_law_take { nx := fun _ => Q (.val .non), rt := Q } (startW 9 es) := by
  obtain ⟨houses, classes, loans, win, grace, goal, day, told, rfl, g0, g1, hh, w0, w1, q0, qw, qr⟩ := h
  obtain ⟨j, rfl⟩ := Int.eq_ofNat_of_zero_le g0
  have hj : j < houses.length := by omega
  obtain ⟨wk, a, b, c, eh, W⟩ := hh _ (List.getElem_mem hj)
  have e1 : atI houses (j : Int) = some (.tup [wk, a, b, c]) := by rw [OW.atN, List.getElem?_eq_getElem hj, eh]
  simp [-q_fn, -q_iOf, -q_slice, q_fn2, q_iOf2, q_slice2, t_law_member, startW, toL, List.replicate, bookD, e1]
  refine c_pick (by simp) (by simp) fun kind hk => ?_
  have hk3 : kind = .str "wait" ∨ kind = .str "way" ∨ kind = .str "ready" := by
    simp at hk
    rcases hk with h | h | h
    · exact .inl h
    · exact .inr (.inl h)
    · exact .inr (.inr h)
  clear hk
  obtain ⟨ws, rfl, hl7, _⟩ := W.ex
  rcases hk3 with rfl | rfl | rfl
  · have _ := 0
    simp [-q_fn, -q_iOf, -q_slice, q_fn2, q_iOf2, q_slice2]
    refine c_next W fun k1 => ?_
    simp [-q_fn, -q_iOf, -q_slice, q_fn2, q_iOf2, q_slice2]
    refine c_take (by decide) (by decide) fun r1 _ _ => ?_
    simp [-q_fn, -q_iOf, -q_slice, q_fn2, q_iOf2, q_slice2]
    refine c_next W fun k2 => ?_
    simp [-q_fn, -q_iOf, -q_slice, q_fn2, q_iOf2, q_slice2]
    refine lcW_ok (fun x o => ∀ d, o = some d → ∃ i : Int, d = .int i) (fun x hx N hN => ?_) (by simp) fun ys hys => ?_
    · obtain ⟨i, rfl⟩ : ∃ i : Int, x = .int i := by
        simp at hx
        rcases hx with rfl | rfl | rfl <;> exact ⟨_, rfl⟩
      have n1 := hN (some (.int i)) fun d e => ⟨i, by cases e; rfl⟩
      have n2 := hN none fun d e => by cases e
      simp [-q_fn, -q_iOf, -q_slice, q_fn2, q_iOf2, q_slice2]
      repeat' split
      all_goals first | exact n1 | exact n2
    obtain ⟨is, rfl⟩ : ∃ is : List Int, ys = is.map .int := all_ints fun d hd => (LcR.all (Pr := fun d => ∃ i : Int, d = .int i) (fun x d hs => hs d rfl) hys).1 d hd
    have hlen := (LcR.all (Pr := fun _ => True) (fun _ _ _ => trivial) hys).2
    simp at hlen
    simp [-q_fn, -q_iOf, -q_slice, q_fn2, q_iOf2, q_slice2]
    refine lcW_ok (fun x o => ∀ d, o = some d → ∃ i : Int, d = .int i) (fun x hx N hN => ?_) (by simp; omega) fun ys hys => ?_
    · obtain ⟨i, _, rfl⟩ := List.mem_map.mp hx
      have n1 := hN (some (.int i)) fun d e => ⟨i, by cases e; rfl⟩
      have n2 := hN none fun d e => by cases e
      have hlt : (i % 7).toNat < ws.length := by
        have := Int.emod_lt_of_pos i (show (0 : Int) < 7 by decide)
        omega
      have e2 : atI (ws.map D.int) (i % 7) = some (.int ws[(i % 7).toNat]) := by
        rw [atT (Int.emod_nonneg _ (by decide)), List.getElem?_map, List.getElem?_eq_getElem hlt]; rfl
      simp [-q_fn, -q_iOf, -q_slice, q_fn2, q_iOf2, q_slice2, e2]
      split
      · exact n1
      · exact n2
    obtain ⟨js, rfl⟩ : ∃ is : List Int, ys = is.map .int := all_ints fun d hd => (LcR.all (Pr := fun d => ∃ i : Int, d = .int i) (fun x d hs => hs d rfl) hys).1 d hd
    have hlen2 := (LcR.all (Pr := fun _ => True) (fun _ _ _ => trivial) hys).2
    simp at hlen2
    try simp [-q_fn, -q_iOf, -q_slice, q_fn2, q_iOf2, q_slice2]
    exact q0
  · have _ := 0
    simp [-q_fn, -q_iOf, -q_slice, q_fn2, q_iOf2, q_slice2]
    refine c_next W fun k1 => ?_
    simp [-q_fn, -q_iOf, -q_slice, q_fn2, q_iOf2, q_slice2]
    refine c_take (by decide) (by decide) fun r1 _ _ => ?_
    simp [-q_fn, -q_iOf, -q_slice, q_fn2, q_iOf2, q_slice2]
    refine c_next W fun k2 => ?_
    simp [-q_fn, -q_iOf, -q_slice, q_fn2, q_iOf2, q_slice2]
    refine lcW_ok (fun x o => ∀ d, o = some d → ∃ i : Int, d = .int i) (fun x hx N hN => ?_) (by simp) fun ys hys => ?_
    · obtain ⟨i, rfl⟩ : ∃ i : Int, x = .int i := by
        simp at hx
        rcases hx with rfl | rfl | rfl <;> exact ⟨_, rfl⟩
      have n1 := hN (some (.int i)) fun d e => ⟨i, by cases e; rfl⟩
      have n2 := hN none fun d e => by cases e
      simp [-q_fn, -q_iOf, -q_slice, q_fn2, q_iOf2, q_slice2]
      repeat' split
      all_goals first | exact n1 | exact n2
    obtain ⟨is, rfl⟩ : ∃ is : List Int, ys = is.map .int := all_ints fun d hd => (LcR.all (Pr := fun d => ∃ i : Int, d = .int i) (fun x d hs => hs d rfl) hys).1 d hd
    have hlen := (LcR.all (Pr := fun _ => True) (fun _ _ _ => trivial) hys).2
    simp at hlen
    simp [-q_fn, -q_iOf, -q_slice, q_fn2, q_iOf2, q_slice2]
    refine lcW_ok (fun x o => ∀ d, o = some d → ∃ i : Int, d = .int i) (fun x hx N hN => ?_) (by simp; omega) fun ys hys => ?_
    · obtain ⟨i, _, rfl⟩ := List.mem_map.mp hx
      have n1 := hN (some (.int i)) fun d e => ⟨i, by cases e; rfl⟩
      have n2 := hN none fun d e => by cases e
      have hlt : (i % 7).toNat < ws.length := by
        have := Int.emod_lt_of_pos i (show (0 : Int) < 7 by decide)
        omega
      have e2 : atI (ws.map D.int) (i % 7) = some (.int ws[(i % 7).toNat]) := by
        rw [atT (Int.emod_nonneg _ (by decide)), List.getElem?_map, List.getElem?_eq_getElem hlt]; rfl
      simp [-q_fn, -q_iOf, -q_slice, q_fn2, q_iOf2, q_slice2, e2]
      split
      · exact n1
      · exact n2
    obtain ⟨js, rfl⟩ : ∃ is : List Int, ys = is.map .int := all_ints fun d hd => (LcR.all (Pr := fun d => ∃ i : Int, d = .int i) (fun x d hs => hs d rfl) hys).1 d hd
    have hlen2 := (LcR.all (Pr := fun _ => True) (fun _ _ _ => trivial) hys).2
    simp at hlen2
    try simp [-q_fn, -q_iOf, -q_slice, q_fn2, q_iOf2, q_slice2]
    rw [q_eqL]
    cases js with
    | nil =>
      simp [-q_fn, -q_iOf, -q_slice, q_fn2, q_iOf2, q_slice2]
      exact q0
    | cons i js =>
      simp only [List.length_cons] at hlen2
      simp [-q_fn, -q_iOf, -q_slice, q_fn2, q_iOf2, q_slice2]
      refine c_pick (by simp) (by simp; omega) fun d hd => ?_
      obtain ⟨k, _, rfl⟩ := List.mem_map.mp (show d ∈ (i :: js).map D.int from hd)
      simp [-q_fn, -q_iOf, -q_slice, q_fn2, q_iOf2, q_slice2]
      exact qw k
  · simp [-q_fn, -q_iOf, -q_slice, q_fn2, q_iOf2, q_slice2]
    refine c_take (by omega) (by omega) fun r1 _ _ => ?_
    simp [-q_fn, -q_iOf, -q_slice, q_fn2, q_iOf2, q_slice2]
    refine c_nth W (by omega) (by omega) fun k => ?_
    simp [-q_fn, -q_iOf, -q_slice, q_fn2, q_iOf2, q_slice2]
    exact qr k
end K80


namespace K80
open PySem PySem.Spec PyProof.Rows L2 OW
variable {Q : R → Prop} {es : List E}
/-! ### _law_spoilt -/
def Sh : Nat → D → Prop
  | 0, v => ∃ i : Int, v = .int i ∧ i.natAbs < 2 ^ 30
  | n + 1, v => (∃ i : Int, v = .int i ∧ i.natAbs < 2 ^ 30) ∨ ∃ xs, v = .tup xs ∧ xs.length ≤ 20 ∧ ∀ x ∈ xs, Sh n x
def sp_spoilt : Nat → OW.Spec
  | 0 => fun _ _ => False
  | n + 1 => fun es Q => ∃ (v : D) (deep : Int), es = [.st, .d v, .d (.int deep)] ∧ Sh n v ∧ ∀ r, shortB r = true → Q (.val r)
theorem spoilt_int {sp : OW.Spec} {i deep : Int} (hi : i.natAbs < 2 ^ 30) (q : ∀ r, shortB r = true → Q (.val r)) : t_law_spoilt sp_law_take sp_law_leaf sp_law_pick sp { nx := fun _ => Q (.val .non), rt := Q } (startW 5 [.st, .d (.int i), .d (.int deep)]) := by
  simp [-q_fn, -q_iOf, -q_slice, q_fn2, q_iOf2, q_slice2, t_law_spoilt, startW, toL, isTupD, List.replicate]
  exact ⟨i, rfl, hi, q⟩
theorem p_law_spoilt {n : Nat} (h : sp_spoilt (n + 1) es Q) : t_law_spoilt sp_law_take sp_law_leaf sp_law_pick (sp_spoilt n) { nx := fun _ => Q (.val .non), rt := Q } (startW 5 es) := by
  obtain ⟨v, deep, rfl, hs, q⟩ := h
  cases n with
  | zero =>
    obtain ⟨i, rfl, hi⟩ := hs
    exact spoilt_int hi q
  | succ n =>
    rcases hs with ⟨i, rfl, hi⟩ | ⟨xs, rfl, hl, hx⟩
    · exact spoilt_int hi q
    · have ql : ∀ ys : List D, ys.length < 1000 → Q (.val (.tup ys)) := fun ys h => q _ (decide_eq_true h)
      have cl := fun lo hi => @cut_len xs lo hi
      simp [-q_fn, -q_iOf, -q_slice, q_fn2, q_iOf2, q_slice2, t_law_spoilt, startW, toL, isTupD, List.replicate]
      refine c_take (by omega) (by omega) fun at_ a0 a1 => ?_
      obtain ⟨j, rfl⟩ := Int.eq_ofNat_of_zero_le a0
      have k1 := cl none (some (j : Int))
      have k2 := cl (some ((j : Int) + 1)) none
      have k3 := cl (some (j : Int)) (some ((j : Int) + 1))
      have k4 := cl (some (j : Int)) none
      have k5 := cl none (some 1)
      by_cases hp : 0 < xs.length
      · have m0 := Int.emod_nonneg (j : Int) (show (xs.length : Int) ≠ 0 by omega)
        have m1 := Int.emod_lt_of_pos (j : Int) (show (0 : Int) < xs.length by omega)
        have k6 := cl none (some ((j : Int) % xs.length))
        have k7 := cl (some ((j : Int) % xs.length + 1)) none
        have hlt : ((j : Int) % (xs.length : Int)).toNat < xs.length := by omega
        obtain ⟨x1, hx1, e1⟩ : ∃ x, x ∈ xs ∧ atI xs ((j : Int) % (xs.length : Int)) = some x := ⟨xs[((j : Int) % (xs.length : Int)).toNat], List.getElem_mem hlt, by rw [atT m0, List.getElem?_eq_getElem hlt]⟩
        by_cases hd : 0 < deep
        · simp [-q_fn, -q_iOf, -q_slice, q_fn2, q_iOf2, q_slice2, hp, hd]
          refine c_take (by decide) (by decide) fun r _ _ => ?_
          simp only [retE_v, q_oInt0]
          by_cases h0 : 0 < r
          · simp only [h0, decide_true, if_true]
            simp [-q_fn, -q_iOf, -q_slice, q_fn2, q_iOf2, q_slice2, hp]
            rw [e1]
            refine ⟨_, _, rfl, hx _ hx1, fun r hr => ?_⟩
            simp [-q_fn, -q_iOf, -q_slice, q_fn2, q_iOf2, q_slice2]
            exact ⟨by omega, by omega, ql _ (by simp only [List.length_reverse, List.length_append, List.length_cons, List.length_nil]; omega)⟩
          · simp only [h0, decide_false, Bool.false_eq_true, if_false]
            simp [-q_fn, -q_iOf, -q_slice, q_fn2, q_iOf2, q_slice2]
            refine c_take (by decide) (by decide) fun way _ _ => ?_
            simp [-q_fn, -q_iOf, -q_slice, q_fn2, q_iOf2, q_slice2]
            repeat' split
            all_goals first
              | exact ⟨by omega, ql _ (by simp only [List.length_reverse, List.length_append, List.length_cons, List.length_nil]; omega)⟩
              | exact ⟨by omega, by omega, ql _ (by simp only [List.length_reverse, List.length_append, List.length_cons, List.length_nil]; omega)⟩
              | exact ql [] (by decide)
              | exact ql _ (by simp only [List.length_reverse, List.length_append, List.length_cons, List.length_nil]; omega)
              | skip
            · exact c_pickS (by simp) (by simp) (by simp [shortB]; omega) fun r hr => q r hr
            · refine c_pick (by simp) (by simp) fun x hx => ?_
              simp [-q_fn, -q_iOf, -q_slice, q_fn2, q_iOf2, q_slice2]
              exact ⟨by omega, by omega, ql _ (by simp only [List.length_reverse, List.length_append, List.length_cons, List.length_nil]; omega)⟩
        · simp [-q_fn, -q_iOf, -q_slice, q_fn2, q_iOf2, q_slice2, hp, hd]
          refine c_take (by decide) (by decide) fun way _ _ => ?_
          simp [-q_fn, -q_iOf, -q_slice, q_fn2, q_iOf2, q_slice2]
          repeat' split
          all_goals first
            | exact ⟨by omega, ql _ (by simp only [List.length_reverse, List.length_append, List.length_cons, List.length_nil]; omega)⟩
            | exact ⟨by omega, by omega, ql _ (by simp only [List.length_reverse, List.length_append, List.length_cons, List.length_nil]; omega)⟩
            | exact ql [] (by decide)
            | exact ql _ (by simp only [List.length_reverse, List.length_append, List.length_cons, List.length_nil]; omega)
            | skip
          · exact c_pickS (by simp) (by simp) (by simp [shortB]; omega) fun r hr => q r hr
          · refine c_pick (by simp) (by simp) fun x hx => ?_
            simp [-q_fn, -q_iOf, -q_slice, q_fn2, q_iOf2, q_slice2]
            exact ⟨by omega, by omega, ql _ (by simp only [List.length_reverse, List.length_append, List.length_cons, List.length_nil]; omega)⟩
      · simp [-q_fn, -q_iOf, -q_slice, q_fn2, q_iOf2, q_slice2, hp]
        refine c_take (by decide) (by decide) fun way _ _ => ?_
        simp [-q_fn, -q_iOf, -q_slice, q_fn2, q_iOf2, q_slice2]
        repeat' split
        all_goals first
          | exact ⟨by omega, ql _ (by simp only [List.length_reverse, List.length_append, List.length_cons, List.length_nil]; omega)⟩
          | exact ⟨by omega, by omega, ql _ (by simp only [List.length_reverse, List.length_append, List.length_cons, List.length_nil]; omega)⟩
          | exact ql [] (by decide)
          | exact ql _ (by simp only [List.length_reverse, List.length_append, List.length_cons, List.length_nil]; omega)
          | skip
        · exact c_pickS (by simp) (by simp) (by simp [shortB]; omega) fun r hr => q r hr
        · refine c_pick (by simp) (by simp) fun x hx => ?_
          simp [-q_fn, -q_iOf, -q_slice, q_fn2, q_iOf2, q_slice2]
          exact ⟨by omega, by omega, ql _ (by simp only [List.length_reverse, List.length_append, List.length_cons, List.length_nil]; omega)⟩
end K80


namespace OW
open PySem PySem.Spec PyProof.Rows L2
section
variable {Q : E → W → Prop} {Qn : List D → W → Prop} {Qb : Bool → W → Prop} {w : W} {E0 : En} {d : D} {xs : List D} {ta : TWa} {ti te : TW} {i j l : Nat}
@[simp] theorem q_par' {ta : TWa} : sPar i j ta E0 w = ta w fun xs w1 => match xs with
  | [.d x, .d y] => E0.nx ((w1.set i (.v x)).set j (.v y))
  | _ => False := rfl
@[simp] theorem q_app' : sAppend i te E0 w = (isOwn w[i]? ∧ te w fun x w1 => match x, w1[i]? with
    | .d d, some (.own xs) => xs.length < sizeLine ∧ E0.nx (w1.set i (.own (xs ++ [d])))
    | _, _ => False) := rfl
@[simp] theorem q_par3 : sPar3nil i j l E0 w = ((i < w.length ∧ j < w.length ∧ l < w.length) ∧ E0.nx (((w.set i (.own [])).set j (.own [])).set l (.own []))) := rfl
@[simp] theorem q_newLL {tr : TIw} {vs : List Nat} : sNewLL i tr vs E0 w = tr w fun xs w1 => okWipe w1 vs ∧ xs.length < sizeLine ∧ i < w1.length ∧ ∀ as : List Addr, as.length = xs.length → E0.nx (w1.set i (.ownL as (List.replicate as.length []))) := rfl
@[simp] theorem q_frz {t : SW} : sFrz i t E0 w = match w[i]? with
  | some (.own xs) => t E0 (w.set i (.v (.lst xs)))
  | some (.ownD ds) => t E0 (w.set i (.v (.dic ds)))
  | some (.ownL _ xss) => t E0 (w.set i (.v (.lst (xss.map D.lst))))
  | _ => False := rfl
@[simp] theorem q_appL : sAppendL i ti te E0 w = ((match w[i]? with | some (.ownL _ _) => True | _ => False) ∧ ti w fun ix w0 => match ix, w0[i]? with
  | .d (.int n), some (.ownL as xss0) => 0 ≤ n ∧ n.toNat < xss0.length ∧ te w0 fun x w1 => match x, w1[i]? with
    | .d d, some (.ownL as' xss) => as' = as ∧ (match xss[n.toNat]? with
      | some xs => xs.length < sizeLine ∧ E0.nx (w1.set i (.ownL as (xss.set n.toNat (xs ++ [d]))))
      | none => False)
    | _, _ => False
  | _, _ => False) := rfl
@[simp] theorem q_rgF1 : fRange1 ta w Qn = ta w fun xs w1 => match xs with
  | [.d (.int j)] => L2.RgOk 0 j ∧ Qn (rangeD 0 j.toNat) w1
  | _ => False := rfl
@[simp] theorem q_rgF2 : fRange2 ta w Qn = ta w fun xs w1 => match xs with
  | [.d (.int i), .d (.int j)] => L2.RgOk i j ∧ Qn (rangeD i (j - i).toNat) w1
  | _ => False := rfl
@[simp] theorem q_mulT {k : Int} : oMulT (.d (.tup xs)) (.d (.int k)) w Q = (xs ≠ [] ∧ 0 ≤ k ∧ k ≤ 1000 ∧ xs.length ≤ 1000 ∧ Q (.d (.tup (List.replicate k.toNat xs).flatten)) w) := rfl
@[simp] theorem q_tup1 : cTuple [.d (.lst xs)] w Q = Q (.d (.tup xs)) w := rfl
theorem q_tupB (i : Nat) {l0 : L} {ys : List D} (h : w[i]? = some (.own ys)) : cTuple [.bor i] w Q = Q (.d (.tup ys)) w := by
  show (match (match w[i]? with
      | some (.own xs) => some xs
      | _ => none) with
    | some xs => Q (.d (.tup xs)) w
    | none => False) = _
  rw [h]
@[simp] theorem pop6 {l0 l1 l2 l3 l4 l5 : L} : ePop 6 (l0 :: l1 :: l2 :: l3 :: l4 :: l5 :: .own (xs ++ [d]) :: w) Q = Q (.d d) (l0 :: l1 :: l2 :: l3 :: l4 :: l5 :: .own xs :: w) := by
  show (match (xs ++ [d])[(xs ++ [d]).length - 1]? with
    | some e => Q (.d e) (l0 :: l1 :: l2 :: l3 :: l4 :: l5 :: .own (xs ++ [d]).dropLast :: w)
    | none => False) = _
  have e1 : (xs ++ [d])[(xs ++ [d]).length - 1]? = some d := by simp
  rw [e1, List.dropLast_concat]
/-- xs[-1] -/
@[simp] theorem ixB17 {l0 l1 l2 l3 l4 l5 l6 l7 l8 l9 l10 l11 l12 l13 l14 l15 l16 : L} : oIx (.bor 17) (.d (.int (-1))) (l0 :: l1 :: l2 :: l3 :: l4 :: l5 :: l6 :: l7 :: l8 :: l9 :: l10 :: l11 :: l12 :: l13 :: l14 :: l15 :: l16 :: .own (xs ++ [d]) :: w) Q = Q (.d d) (l0 :: l1 :: l2 :: l3 :: l4 :: l5 :: l6 :: l7 :: l8 :: l9 :: l10 :: l11 :: l12 :: l13 :: l14 :: l15 :: l16 :: .own (xs ++ [d]) :: w) := by
  show (match atI (xs ++ [d]) (-1) with
    | some e => Q (.d e) _
    | none => False) = _
  have e1 : atI (xs ++ [d]) (-1) = some d := by
    unfold atI ixN
    rw [if_neg (by decide), if_pos (by simp; omega)]
    show (xs ++ [d])[((-1 : Int) + ((xs ++ [d]).length : Int)).toNat]? = some d
    have e2 : ((-1 : Int) + ((xs ++ [d]).length : Int)).toNat = xs.length := by
      rw [List.length_append, List.length_singleton]
      omega
    rw [e2]
    simp
  rw [e1]
end
end OW
namespace K80
open PySem PySem.Spec PyProof.Rows L2 OW
variable {Q : R → Prop} {es : List E}
/-! ### rules for the draws -/
theorem c_shuf {xs : List D} (h1 : xs.length < 1000000) (h : ∀ ys : List D, ys.Perm xs → Q (.new ys)) : sp_law_shuffled [.st, .d (.lst xs)] Q := ⟨_, xs, rfl, rfl, h1, h⟩
theorem c_book {many classes : Int} (m0 : 1 ≤ many) (m1 : many ≤ 10) (c0 : 1 ≤ classes) (c1 : classes ≤ 10) (h : ∀ houses : List D, (houses.length : Int) = many → (∀ h ∈ houses, HouseD h) → ∀ (loans : D) (win : Int) (grace : D), 1 ≤ win → win ≤ 14 → Q (.val (bookD houses classes loans win grace))) :
    sp_law_book [.st, .d (.int many), .d (.int classes)] Q := ⟨many, classes, rfl, m0, m1, c0, c1, h⟩
theorem c_member {houses : List D} {classes : Int} {loans : D} {win : Int} {grace : D} {goal day told : Int} (g0 : 0 ≤ goal) (g1 : goal < houses.length) (hh : ∀ h ∈ houses, HouseD h) (w0 : 1 ≤ win) (w1 : win ≤ 14)
    (q0 : Q (.val .non)) (qw : ∀ d : Int, Q (.val (.tup [.str "way", .int d]))) (qr : ∀ d : Int, Q (.val (.tup [.str "ready", .int d]))) : sp_law_member [.st, .d (bookD houses classes loans win grace), .d (.int goal), .d (.int day), .d (.int told)] Q :=
  ⟨houses, classes, loans, win, grace, goal, day, told, rfl, g0, g1, hh, w0, w1, q0, qw, qr⟩
theorem LcR.len {S : D → Option D → Prop} (h : ∀ x, ¬ S x none) : ∀ {xs ys : List D}, LcR S xs ys → ys.length = xs.length
  | _, _, .nil => rfl
  | _, _, .some _ t => by rw [List.length_cons, List.length_cons, LcR.len h t]
  | _, _, .none hs _ => (h _ hs).elim
theorem rangeD_ints {lo : Int} {n : Nat} : rangeD lo n = ((List.range n).map fun (i : Nat) => lo + (i : Int)).map D.int := by
  unfold rangeD
  rw [List.map_map]
  rfl
theorem Wld.mono {c c' : Nat} {nums : List Int} {lines : List (List Ln)} {copies : List (Int × Int)} {places : List Pl} (h : Wld c nums lines copies places) (hc : c ≤ c') : Wld c' nums lines copies places :=
  ⟨h.len, h.nd, h.rg, h.tot, h.pls, Nat.le_trans h.more (Nat.add_le_add_left hc _)⟩
theorem Wld.pop {c : Nat} {nums : List Int} {lines : List (List Ln)} {copies : List (Int × Int)} {places : List Pl} (h : Wld c nums lines copies places) (hc : c < 60) : ∃ ns n, nums = ns ++ [n] ∧ 0 ≤ n ∧ n ≤ 999999 := by
  have hm := h.more
  have hne : nums ≠ [] := fun z => by
    subst z
    simp at hm
    omega
  refine ⟨nums.dropLast, nums.getLast hne, (List.dropLast_concat_getLast hne).symm, h.rg _ (List.mem_append_right _ (List.getLast_mem hne))⟩
theorem Wld.start {first : Int} {nums : List Int} {works : Nat} (h0 : 0 ≤ first) (h1 : first < 999900) (P : nums.Perm ((List.range 60).map fun (i : Nat) => first + (i : Int))) : Wld 0 nums (List.replicate works []) [] [] := by
  have e1 : lnNums (List.replicate works []) = [] := by
    unfold lnNums
    rw [List.map_replicate]
    simp
  have e2 : plNums [] = [] := rfl
  have nd : ((List.range 60).map fun (i : Nat) => first + (i : Int)).Nodup := by
    rw [List.Nodup, List.pairwise_map]
    have h0 : (List.range 60).Pairwise (· ≠ ·) := List.nodup_range
    refine h0.imp ?_
    intro a b h z
    exact h (by omega)
  have hl : nums.length = 60 := by rw [P.length_eq]; simp
  refine ⟨rfl, ?_, ?_, ?_, by simp [hl], by omega⟩
  · rw [e1, e2]
    exact P.nodup_iff.mpr nd
  · rw [e1, e2]
    intro n hn
    obtain ⟨i, hi, rfl⟩ := List.mem_map.mp (P.mem_iff.mp hn)
    have := List.mem_range.mp hi
    omega
  · rw [e1, e2]
    simp [hl]
/-! ### sorted -/
theorem q_sortI {x : E} {w : W} {is : List Int} {Qn : List D → W → Prop} (h : itS w x = some (is.map .int)) (q : ∀ js : List Int, js.Perm is → Qn (js.map .int) w) : fcSorted [x] w Qn := by
  unfold fcSorted
  simp only [h]
  have hp : ∀ d ∈ (is.map D.int).map py, ∃ i, d = .int i := fun d hd => by
    simp at hd
    obtain ⟨i, _, rfl⟩ := hd
    exact ⟨i, rfl⟩
  refine ⟨noDics_ints, fun d hd e he => ?_, .inr fun d hd => ?_, fun d hd => ?_, fun ys P => ?_⟩
  · obtain ⟨i, rfl⟩ := hp d hd
    obtain ⟨j, rfl⟩ := hp e he
    rfl
  · obtain ⟨i, rfl⟩ := hp d hd
    exact ⟨fun z => (nomatch z), fun xs z => (nomatch z)⟩
  · obtain ⟨i, _, rfl⟩ := List.mem_map.mp hd
    simp [py, PyData.depth]
  · obtain ⟨js, P2, rfl⟩ := perm_map P rfl
    exact q js P2
theorem noDics_sets : ∀ {ss : List (List Int × Int)}, noDics (ss.map setD) = true
  | [] => rfl
  | s :: r => by
    show (noDic (setD s) && noDics (r.map setD)) = true
    rw [noDics_sets]
    simp [setD, noDic, noDics, noDics_ints]
theorem q_sortS {x : E} {w : W} {ss : List (List Int × Int)} {Qn : List D → W → Prop} (h : itS w x = some (ss.map setD)) (q : ∀ ts : List (List Int × Int), ts.Perm ss → Qn (ts.map setD) w) : fcSorted [x] w Qn := by
  unfold fcSorted
  simp only [h]
  have hp : ∀ d ∈ (ss.map setD).map py, ∃ s, d = py (setD s) := fun d hd => by
    simp at hd
    obtain ⟨a, b, _, rfl⟩ := hd
    exact ⟨(a, b), rfl⟩
  refine ⟨noDics_sets, fun d hd e he => ?_, .inl fun d hd => ?_, fun d hd => ?_, fun ys P => ?_⟩
  · obtain ⟨s, rfl⟩ := hp d hd
    obtain ⟨t, rfl⟩ := hp e he
    simp [setD, py, pys, pys_ints, PySem.W.alike, PySem.W.alikeAll, alike_ints]
  · obtain ⟨s, rfl⟩ := hp d hd
    exact ⟨_, _, rfl⟩
  · obtain ⟨s, _, rfl⟩ := List.mem_map.mp hd
    have := depth_ints (is := s.1)
    simp [setD, py, pys, pys_ints2, PyData.depth, PyData.depthAll]
    omega
  · obtain ⟨js, P2, rfl⟩ := perm_map P rfl
    exact q js P2
end K80


namespace OW
open PySem PySem.Spec PyProof.Rows L2
section
variable {Q : E → W → Prop} {w : W} {xs : List D}
@[simp] theorem tupB13 {l0 l1 l2 l3 l4 l5 l6 l7 l8 l9 l10 l11 l12 : L} : cTuple [.bor 13] (l0 :: l1 :: l2 :: l3 :: l4 :: l5 :: l6 :: l7 :: l8 :: l9 :: l10 :: l11 :: l12 :: .own xs :: w) Q = Q (.d (.tup xs)) (l0 :: l1 :: l2 :: l3 :: l4 :: l5 :: l6 :: l7 :: l8 :: l9 :: l10 :: l11 :: l12 :: .own xs :: w) := rfl
@[simp] theorem tupB12 {l0 l1 l2 l3 l4 l5 l6 l7 l8 l9 l10 l11 : L} : cTuple [.bor 12] (l0 :: l1 :: l2 :: l3 :: l4 :: l5 :: l6 :: l7 :: l8 :: l9 :: l10 :: l11 :: .own xs :: w) Q = Q (.d (.tup xs)) (l0 :: l1 :: l2 :: l3 :: l4 :: l5 :: l6 :: l7 :: l8 :: l9 :: l10 :: l11 :: .own xs :: w) := rfl
@[simp] theorem lenB13 {l0 l1 l2 l3 l4 l5 l6 l7 l8 l9 l10 l11 l12 : L} : cLen [.bor 13] (l0 :: l1 :: l2 :: l3 :: l4 :: l5 :: l6 :: l7 :: l8 :: l9 :: l10 :: l11 :: l12 :: .own xs :: w) Q = Q (.d (.int xs.length)) (l0 :: l1 :: l2 :: l3 :: l4 :: l5 :: l6 :: l7 :: l8 :: l9 :: l10 :: l11 :: l12 :: .own xs :: w) := rfl
inductive LcF {α : Type} (S : α → D → Prop) : List α → List D → Prop
  | nil : LcF S [] []
  | cons {x : α} {d : D} {xs : List α} {ys : List D} : S x d → LcF S xs ys → LcF S (x :: xs) (d :: ys)
theorem lcW_F {α : Type} {gt : TGw} {tt : TWt} {te : TW} {w : W} (g : α → D) (S : α → D → Prop) : ∀ {xs : List α} {acc : List D} {Q : List D → Prop}, (∀ x ∈ xs, ∀ N : Option D → Prop, (∀ d, S x d → N (some d)) → gt (g x) w fun w1 => tt w1 fun b w2 => w2 = w1 ∧ if b = true then te w1 fun e w3 => w3 = w1 ∧ match e with
      | .d d => N (some d)
      | _ => False
    else N none) → acc.length + xs.length ≤ 16777216 → (∀ ys, LcF S xs ys → Q (acc ++ ys)) → lcW gt tt te w (xs.map g) acc Q
  | [], acc, Q, _, _, q => by
    unfold lcW
    simpa using q [] .nil
  | x :: r, acc, Q, h, hl, q => by
    simp only [List.length_cons] at hl
    rw [List.map_cons]
    unfold lcW
    refine h x (List.mem_cons_self ..) (fun o => match o with
      | some d => acc.length < sizeLine ∧ lcW gt tt te w (r.map g) (acc ++ [d]) Q
      | none => lcW gt tt te w (r.map g) acc Q) fun d hd => ?_
    refine ⟨by rw [sizeLine_eq]; omega, lcW_F g S (fun y hy => h y (List.mem_cons_of_mem _ hy)) (by simp only [List.length_append, List.length_cons, List.length_nil]; omega) fun ys hy => ?_⟩
    simpa using q (d :: ys) (.cons hd hy)
end
end OW
namespace K80
open PySem PySem.Spec PyProof.Rows L2 OW
variable {Q : R → Prop} {es : List E}
/-! ### _law_world -/
theorem lines_perm : ∀ {lines : List (List Ln)} {ys : List D}, LcF (fun l d => ∃ l' : List Ln, l'.Perm l ∧ d = lineD l') lines ys → ∃ lines' : List (List Ln), ys = lines'.map lineD ∧ lines'.length = lines.length ∧ (lnNums lines').Perm (lnNums lines)
  | _, _, .nil => ⟨[], rfl, rfl, .refl _⟩
  | _, _, .cons ⟨l', hp, e⟩ t => by
    obtain ⟨r, e2, e3, e4⟩ := lines_perm t
    exact ⟨l' :: r, by rw [e, e2]; rfl, by rw [List.length_cons, List.length_cons, e3], (hp.map _).append e4⟩
theorem ln_len : ∀ {lines : List (List Ln)} {k : Nat} {l : List Ln}, lines[k]? = some l → l.length ≤ (lnNums lines).length
  | [], _, _, h => by simp at h
  | a :: r, 0, l, h => by
    have e : a = l := by simpa using h
    subst e
    simp [lnNums]
  | a :: r, k + 1, l, h => by
    have ih := ln_len (lines := r) (k := k) (l := l) (by simpa using h)
    have e : lnNums (a :: r) = a.map (·.number) ++ lnNums r := rfl
    rw [e, List.length_append]
    omega
theorem cut_few {xs : List D} {k : Int} (h : 0 ≤ k) : (OW.cutD xs none (some k)).length ≤ k.toNat := by
  unfold OW.cutD HT.sIx
  rw [List.length_take]
  refine Nat.le_trans (Nat.min_le_left _ _) ?_
  simp
  split
  · omega
  · omega
def sp_law_world : OW.Spec := fun es Q => es = [.st] ∧ ∀ (b : Lib) (s : Std) (ss : List (List Int × Int)) (nums : List Int), Fit b s → SetsOk ss → nums.length ≤ 60 → Q (.new [libD b, stdD s, setsD ss, .lst (nums.map .int)])
def RowOk (s : List Int × Int) : Prop := s.1.length ≤ 4 ∧ (∀ i ∈ s.1, i.natAbs < 2 ^ 30) ∧ s.2.natAbs < 2 ^ 30
def PairD (many : Int) (d : D) : Prop := ∃ g k : Int, d = .tup [.int g, .int k] ∧ 0 ≤ g ∧ g < many
theorem p_law_world (h : sp_law_world es Q) : t_law_world sp_law_book sp_law_pick sp_law_take sp_law_shuffled sp_law_member { nx := fun _ => Q (.val .non), rt := Q } (startW 24 es) := by
  obtain ⟨rfl, q⟩ := h
  simp [-q_fn, -q_iOf, -q_slice, q_fn2, q_iOf2, q_slice2, t_law_world, startW, toL, List.replicate, q_par]
  refine c_take (by decide) (by decide) fun r1 _ _ => ?_
  simp [-q_fn, -q_iOf, -q_slice, q_fn2, q_iOf2, q_slice2]
  refine c_take (by decide) (by decide) fun r2 _ _ => ?_
  simp [-q_fn, -q_iOf, -q_slice, q_fn2, q_iOf2, q_slice2]
  refine c_take (by decide) (by decide) fun r3 _ _ => ?_
  simp [-q_fn, -q_iOf, -q_slice, q_fn2, q_iOf2, q_slice2]
  refine c_book (by omega) (by omega) (by omega) (by omega) fun houses hlen hh loans win grace w0 w1 => ?_
  obtain ⟨many, hmany⟩ : ∃ m, m = 1 + r1 := ⟨_, rfl⟩
  obtain ⟨cls, hcls⟩ : ∃ m, m = 1 + r3 := ⟨_, rfl⟩
  obtain ⟨works, hworks⟩ : ∃ m : Nat, (m : Int) = 3 + r2 := ⟨(3 + r2).toNat, by omega⟩
  rw [← hmany] at hlen
  simp [-q_fn, -q_iOf, -q_slice, q_fn2, q_iOf2, q_slice2, bookD]
  rw [← hmany, ← hcls, ← hworks]
  have hmc0 : 1 * 1 ≤ many * cls := Int.mul_le_mul (by omega) (by omega) (by decide) (by omega)
  have hmc1 : many * cls ≤ 3 * 2 := Int.mul_le_mul (by omega) (by omega) (by omega) (by decide)
  refine ⟨.inl ⟨by omega, by omega⟩, by omega, by omega, ?_⟩
  refine lcW_ok (fun x o => ∃ d, o = some d ∧ PairD many d) (fun x hx N hN => ?_) (by rw [sizeLine_eq, List.length_nil, rg_len]; omega) fun pairs hpairs => ?_
  · obtain ⟨k, hk⟩ := List.getElem?_of_mem hx
    obtain ⟨rfl, hk2⟩ := rg_get hk
    simp [-q_fn, -q_iOf, -q_slice, q_fn2, q_iOf2, q_slice2, CDiv]
    refine ⟨⟨by omega, by omega⟩, by omega, hN _ ⟨_, rfl, _, _, rfl, Int.ediv_nonneg (by omega) (by omega), Int.ediv_lt_of_lt_mul (by omega) ?_⟩⟩
    omega
  have hpl : pairs.length = (many * cls).toNat := by rw [LcR.len (fun x ⟨d, e, _⟩ => by cases e) hpairs, rg_len]
  have hpa := (LcR.all (Pr := PairD many) (fun x d ⟨e, h1, h2⟩ => by cases h1; exact h2) hpairs).1
  have hpne : pairs ≠ [] := fun z => by
    rw [z] at hpl
    simp at hpl
    omega
  rw [List.nil_append]
  clear hpairs
  refine lcW_ok (fun x o => ∃ d, o = some d ∧ HouseD d) (fun x hx N hN => ?_) (by rw [sizeLine_eq, List.length_nil]; omega) fun houses2 hh2 => ?_
  · obtain ⟨wk, a, b, c, rfl, W⟩ := hh x hx
    simp [-q_fn, -q_iOf, -q_slice, q_fn2, q_iOf2, q_slice2]
    exact hN _ ⟨_, rfl, _, _, _, _, rfl, W⟩
  have hlen2 : (houses2.length : Int) = many := by rw [LcR.len (fun x ⟨d, e, _⟩ => by cases e) hh2, hlen]
  have hhs := (LcR.all (Pr := HouseD) (fun x d ⟨e, h1, h2⟩ => by cases h1; exact h2) hh2).1
  have c5 : cutD [.tup houses, .int cls, loans, .int win, grace] (some 1) none = [.int cls, loans, .int win, grace] := by rfl
  rw [c5]
  simp [-q_fn, -q_iOf, -q_slice, q_fn2, q_iOf2, q_slice2]
  refine c_take (by decide) (by decide) fun r4 _ _ => ?_
  simp [-q_fn, -q_iOf, -q_slice, q_fn2, q_iOf2, q_slice2]
  refine ⟨by omega, by omega, ?_⟩
  refine lcW_ok (fun x o => ∃ d, o = some d ∧ PairD many d) (fun x hx N hN => ?_) (by rw [sizeLine_eq, List.length_nil, rg_len]; omega) fun readers hreaders => ?_
  · obtain ⟨k, hk⟩ := List.getElem?_of_mem hx
    obtain ⟨rfl, hk2⟩ := rg_get hk
    simp [-q_fn, -q_iOf, -q_slice, q_fn2, q_iOf2, q_slice2]
    refine c_pickT hpne (by omega) fun x hx => ?_
    simp [-q_fn, -q_iOf, -q_slice, q_fn2, q_iOf2, q_slice2]
    exact hN _ ⟨_, rfl, hpa x hx⟩
  have hrl : readers.length = (2 + r4).toNat := by rw [LcR.len (fun x ⟨d, e, _⟩ => by cases e) hreaders, rg_len]
  have hra := (LcR.all (Pr := PairD many) (fun x d ⟨e, h1, h2⟩ => by cases h1; exact h2) hreaders).1
  clear hreaders hh2
  try simp [-q_fn, -q_iOf, -q_slice, q_fn2, q_iOf2, q_slice2]
  refine c_take (by decide) (by decide) fun d1 _ _ => ?_
  simp [-q_fn, -q_iOf, -q_slice, q_fn2, q_iOf2, q_slice2]
  refine c_take (by decide) (by decide) fun d2 _ _ => ?_
  simp [-q_fn, -q_iOf, -q_slice, q_fn2, q_iOf2, q_slice2]
  refine c_pick (by simp) (by simp) fun dayD hday => ?_
  obtain ⟨day, rfl, day0, day1⟩ : ∃ day : Int, dayD = .int day ∧ 0 ≤ day ∧ day ≤ 99999 := by
    simp at hday
    rcases hday with rfl | rfl | rfl | rfl <;> exact ⟨_, rfl, by omega, by omega⟩
  clear hday
  simp [-q_fn, -q_iOf, -q_slice, q_fn2, q_iOf2, q_slice2]
  refine c_take (by decide) (by decide) fun first f0 f1 => ?_
  simp [-q_fn, -q_iOf, -q_slice, q_fn2, q_iOf2, q_slice2, q_rgF2]
  refine ⟨L2.RgOk.of_le (by omega) (by omega) (by omega) (by omega), ?_⟩
  rw [show (first + 60 - first).toNat = 60 by omega]
  refine c_shuf (by simp) fun ys hys => ?_
  obtain ⟨nums, P, rfl⟩ := perm_map hys rangeD_ints
  simp [-q_fn, -q_iOf, -q_slice, q_fn2, q_iOf2, q_slice2]
  refine ⟨by omega, by omega, fun as has => ?_⟩
  refine c_take (by decide) (by decide) fun r5 _ _ => ?_
  simp [-q_fn, -q_iOf, -q_slice, q_fn2, q_iOf2, q_slice2]
  refine ⟨by omega, by omega, ?_⟩
  have W0 := Wld.start (works := works) f0 f1 P
  refine forW_ind (fun k w => ∃ nums lines copies places ss l8 l15 l16 l17 l18 l19 l20, pl l8 = true ∧ pl l19 = true ∧ Wld (6 * k) nums lines copies places ∧ lines.length = works ∧ ss.length = k ∧ (∀ s ∈ ss, RowOk s) ∧ w = [.st, .v (.tup [.tup houses2, .int cls, loans, .int win, grace]), .v (.tup pairs), .v (.tup readers), .v (.int day), .v (.int first), .own (nums.map .int), .ownL as (lines.map fun l => l.map lnD), l8, .un, .v (.int many), .v (.int works), .own (copies.map copD), .own (places.map plD), .own (ss.map setD), l15, l16, l17, l18, l19, l20, .un, .un, .un]) ⟨nums, List.replicate works [], [], [], [], .un, .un, .un, .un, .un, .un, .un, rfl, rfl, W0, by simp, rfl, by simp, by simp [has]⟩ ?_ ?_
  · rintro k w x hx ⟨nums, lines, copies, places, ss, l8, l15, l16, l17, l18, l19, l20, h8, h19, W1, hll, hsl, hss, rfl⟩ N hN
    obtain ⟨rfl, hk⟩ := rg_get hx
    rw [q_gP rfl h8]
    simp [-q_fn, -q_iOf, -q_slice, q_fn2, q_iOf2, q_slice2]
    refine c_take (by omega) (by omega) fun reader rd0 rd1 => ?_
    obtain ⟨g, kk, er, g0, g1⟩ : ∃ g kk : Int, atI readers reader = some (.tup [.int g, .int kk]) ∧ 0 ≤ g ∧ g < many := by
      obtain ⟨j, rfl⟩ := Int.eq_ofNat_of_zero_le rd0
      have hj : j < readers.length := by omega
      obtain ⟨g, kk, e, h0, h1⟩ := hra _ (List.getElem_mem hj)
      exact ⟨g, kk, by rw [OW.atN, List.getElem?_eq_getElem hj, e], h0, h1⟩
    simp [-q_fn, -q_iOf, -q_slice, q_fn2, q_iOf2, q_slice2]
    refine c_take (by decide) (by decide) fun r6 _ _ => ?_
    simp [-q_fn, -q_iOf, -q_slice, q_fn2, q_iOf2, q_slice2]
    refine c_pick (by simp) (by simp) fun tD htD => ?_
    obtain ⟨t, rfl, t0, t1⟩ : ∃ t : Int, tD = .int t ∧ 1 ≤ t ∧ t ≤ 1000000 := by
      simp at htD
      rcases htD with rfl | rfl | rfl <;> exact ⟨_, rfl, by omega, by omega⟩
    clear htD
    simp [-q_fn, -q_iOf, -q_slice, q_fn2, q_iOf2, q_slice2]
    refine ⟨L2.RgOk.of_le (by decide) (by omega) (by decide) (by omega), ?_⟩
    refine c_shuf (by simp; omega) fun ys hys => ?_
    obtain ⟨ws, Pw, rfl⟩ := perm_map hys rangeD_ints
    have hws : ∀ x ∈ ws.map D.int, ∃ wk : Nat, x = .int wk ∧ wk < works := fun x hx => by
      obtain ⟨y, hy, rfl⟩ := List.mem_map.mp hx
      obtain ⟨wk, h1, rfl⟩ := List.mem_map.mp (Pw.mem_iff.mp hy)
      exact ⟨wk, by simp, by simpa using h1⟩
    simp [-q_fn, -q_iOf, -q_slice, q_fn2, q_iOf2, q_slice2]
    refine c_take (by decide) (by decide) fun r7 _ _ => ?_
    simp [-q_fn, -q_iOf, -q_slice, q_fn2, q_iOf2, q_slice2]
    have hcl := cut_few (xs := ws.map D.int) (k := 2 + r7) (by omega)
    have hcm : ∀ x ∈ cutD (ws.map D.int) none (some (2 + r7)), ∃ wk : Nat, x = .int wk ∧ wk < works := fun x hx => hws x (cut_mem hx)
    generalize cutD (ws.map D.int) none (some (2 + r7)) = cs at hcl hcm
    refine forW_ind (fun j w => ∃ nums lines copies places ms held l19 l20, pl l19 = true ∧ Wld (6 * k + j) nums lines copies places ∧ lines.length = works ∧ ms.length = j ∧ (∀ i ∈ ms, 0 ≤ i ∧ i ≤ 999999) ∧ w = [.st, .v (.tup [.tup houses2, .int cls, loans, .int win, grace]), .v (.tup pairs), .v (.tup readers), .v (.int day), .v (.int first), .own (nums.map .int), .ownL as (lines.map fun l => l.map lnD), .v (.int k), .un, .v (.int many), .v (.int works), .own (copies.map copD), .own (places.map plD), .own (ss.map setD), .v (.int reader), .v (.int (day + t)), .own (ms.map .int), .v (.int held), l19, l20, .un, .un, .un]) ⟨nums, lines, copies, places, [], 0, _, l20, h19, W1, hll, rfl, by simp, rfl⟩ ?_ ?_
    · rintro j w x hx ⟨nums, lines, copies, places, ms, held, l19, l20, h19, W1, hll, hml, hms, rfl⟩ N2 hN2
      have hj : j < cs.length := (List.getElem?_eq_some_iff.mp hx).1
      obtain ⟨wk, rfl, hwk⟩ := hcm x (List.mem_of_getElem? hx)
      obtain ⟨ns, n, rfl, n0, n1⟩ := W1.pop (by omega)
      rw [q_gP rfl h19]
      simp [-q_fn, -q_iOf, -q_slice, q_fn2, q_iOf2, q_slice2, er]
      have hms2 : ∀ i ∈ ms ++ [n], 0 ≤ i ∧ i ≤ 999999 := fun i hi => by
        rcases List.mem_append.mp hi with h | h
        · exact hms i h
        · simp at h
          subst h
          exact ⟨n0, n1⟩
      obtain ⟨ln, eln⟩ : ∃ l, lines[wk]? = some l := ⟨_, List.getElem?_eq_getElem (by omega)⟩
      refine ⟨by omega, ?_⟩
      have lle := ln_len eln
      have htot := W1.tot
      have hpls := W1.pls
      have hlen3 := W1.len
      simp at htot hpls
      refine c_member g0 (by omega) hhs w0 w1 ?_ (fun d => ?_) (fun d => ?_)
      · simp [-q_fn, -q_iOf, -q_slice, q_fn2, q_iOf2, q_slice2, eln, isNonD]
        refine ⟨by omega, ?_⟩
        refine c_take (by decide) (by decide) fun rank _ _ => ?_
        simp [-q_fn, -q_iOf, -q_slice, q_fn2, q_iOf2, q_slice2]
        exact ⟨by omega, hN2 _ ⟨ns, lines.set wk (ln ++ [⟨n, reader, rank, some (day + t)⟩]), copies, places, ms ++ [n], 1, .v (.int (wk : Int)), .v .non, rfl, W1.line eln rfl, by simp [hll], by simp [hml], hms2, by simp [lnD, optD]⟩⟩
      · simp [-q_fn, -q_iOf, -q_slice, q_fn2, q_iOf2, q_slice2, isNonD]
        refine c_take (by omega) (by omega) fun home _ _ => ?_
        simp [-q_fn, -q_iOf, -q_slice, q_fn2, q_iOf2, q_slice2]
        exact ⟨by omega, by omega, hN2 _ ⟨ns, lines, copies ++ [((wk : Int), home)], places ++ [.way d n reader], ms ++ [n], held + 1, .v (.int (wk : Int)), .v (.tup [.str "way", .int d]), rfl, W1.place (.inl rfl), hll, by simp [hml], hms2, by simp [copD, plD]⟩⟩
      · by_cases h0 : held = 0
        · simp [-q_fn, -q_iOf, -q_slice, q_fn2, q_iOf2, q_slice2, isNonD, h0, eln]
          refine ⟨by omega, ?_⟩
          refine c_take (by decide) (by decide) fun rank _ _ => ?_
          simp [-q_fn, -q_iOf, -q_slice, q_fn2, q_iOf2, q_slice2]
          exact ⟨by omega, hN2 _ ⟨ns, lines.set wk (ln ++ [⟨n, reader, rank, some (day + t)⟩]), copies, places, ms ++ [n], 1, .v (.int (wk : Int)), .v (.tup [.str "ready", .int d]), rfl, W1.line eln rfl, by simp [hll], by simp [hml], hms2, by simp [lnD, optD]⟩⟩
        · simp [-q_fn, -q_iOf, -q_slice, q_fn2, q_iOf2, q_slice2, isNonD, h0]
          refine c_take (by omega) (by omega) fun home _ _ => ?_
          simp [-q_fn, -q_iOf, -q_slice, q_fn2, q_iOf2, q_slice2]
          exact ⟨by omega, by omega, hN2 _ ⟨ns, lines, copies ++ [((wk : Int), home)], places ++ [.ready d n reader], ms ++ [n], held, .v (.int (wk : Int)), .v (.tup [.str "ready", .int d]), rfl, W1.place (.inl rfl), hll, by simp [hml], hms2, by simp [copD, plD]⟩⟩
    · rintro w ⟨nums, lines, copies, places, ms, held, l19, l20, h19, W1, hll, hml, hms, rfl⟩
      simp [-q_fn, -q_iOf, -q_slice, q_fn2, q_iOf2, q_slice2]
      have hj4 : cs.length ≤ 4 := by omega
      have hpls := W1.pls
      refine q_sortI rfl fun is Pis => ?_
      simp [-q_fn, -q_iOf, -q_slice, q_fn2, q_iOf2, q_slice2]
      refine ⟨by omega, L2.RgOk.of_le (by decide) (by omega) (by decide) (by omega), ?_⟩
      refine c_pick (fun z => by have := congrArg List.length z; simp at this; omega) (by simp; omega) fun wD hwD => ?_
      obtain ⟨wk, rfl, hwk⟩ : ∃ wk : Nat, wD = .int wk ∧ wk < works := by
        obtain ⟨i, hi⟩ := List.getElem?_of_mem hwD
        obtain ⟨rfl, h2⟩ := rg_get hi
        exact ⟨i, by simp, h2⟩
      obtain ⟨ns, n, rfl, n0, n1⟩ := W1.pop (by omega)
      obtain ⟨ln, eln⟩ : ∃ l, lines[wk]? = some l := ⟨_, List.getElem?_eq_getElem (by omega)⟩
      have lle := ln_len eln
      have htot := W1.tot
      simp at htot
      simp [-q_fn, -q_iOf, -q_slice, q_fn2, q_iOf2, q_slice2, eln]
      refine ⟨by omega, ?_⟩
      refine c_pick (by simp) (by simp) fun toD htoD => ?_
      obtain ⟨to, rfl⟩ : ∃ o : Option Int, toD = optD o := by
        simp at htoD
        rcases htoD with rfl | rfl
        · exact ⟨some _, rfl⟩
        · exact ⟨none, rfl⟩
      clear htoD
      simp [-q_fn, -q_iOf, -q_slice, q_fn2, q_iOf2, q_slice2]
      refine ⟨by omega, ?_⟩
      have W2 := W1.line (x := ⟨n, reader, 0, to⟩) eln rfl
      have el2 : (lines.map fun l => l.map lnD).set wk (ln.map lnD ++ [.tup [.int n, .int reader, .int 0, optD to]]) = (lines.set wk (ln ++ [⟨n, reader, 0, to⟩])).map fun l => l.map lnD := by simp [List.map_set, lnD]
      have hll2 : (lines.set wk (ln ++ [⟨n, reader, 0, to⟩])).length = works := by simp [hll]
      rw [el2]
      generalize lines.set wk (ln ++ [⟨n, reader, 0, to⟩]) = lines2 at W2 hll2
      obtain ⟨ns2, n2, rfl, m0, m1⟩ := W2.pop (by omega)
      refine c_take (by omega) (by omega) fun wk2i v0 v1 => ?_
      obtain ⟨wk2, rfl⟩ := Int.eq_ofNat_of_zero_le v0
      obtain ⟨ln2, eln2⟩ : ∃ l, lines2[wk2]? = some l := ⟨_, List.getElem?_eq_getElem (by omega)⟩
      have lle2 := ln_len eln2
      have htot2 := W2.tot
      simp at htot2
      simp [-q_fn, -q_iOf, -q_slice, q_fn2, q_iOf2, q_slice2, eln2]
      refine ⟨by omega, ?_⟩
      refine c_take (by omega) (by omega) fun rd2 _ _ => ?_
      simp [-q_fn, -q_iOf, -q_slice, q_fn2, q_iOf2, q_slice2]
      refine c_pick (by simp) (by simp) fun toD htoD => ?_
      obtain ⟨to2, rfl⟩ : ∃ o : Option Int, toD = optD o := by
        simp at htoD
        rcases htoD with rfl | rfl
        · exact ⟨some _, rfl⟩
        · exact ⟨none, rfl⟩
      clear htoD
      simp [-q_fn, -q_iOf, -q_slice, q_fn2, q_iOf2, q_slice2]
      have hrow : RowOk (is, day + t) := ⟨by have := Pis.length_eq; show is.length ≤ 4; omega, fun i hi => by have := hms i (Pis.mem_iff.mp hi); omega, by show (day + t).natAbs < 2 ^ 30; omega⟩
      exact ⟨by omega, hN _ ⟨ns2, lines2.set wk2 (ln2 ++ [⟨n2, rd2, 3, to2⟩]), copies, places, ss ++ [(is, day + t)], .v (.int k), .v (.int reader), .v (.int (day + t)), .own (ms.map .int), .v (.int held), .v (.int wk), l20, rfl, rfl, (W2.line eln2 rfl).mono (by omega), by simp [hll2], by simp [hsl], fun s hs => by
        rcases List.mem_append.mp hs with h | h
        · exact hss s h
        · simp at h
          subst h
          exact hrow, by simp [lnD, setD]⟩⟩
  · rintro w ⟨nums, lines, copies, places, ss, l8, l15, l16, l17, l18, l19, l20, h8, h19, W1, hll, hsl, hss, rfl⟩
    rw [rg_len] at hsl W1
    simp [-q_fn, -q_iOf, -q_slice, q_fn2, q_iOf2, q_slice2]
    refine c_take (by decide) (by decide) fun r8 _ _ => ?_
    simp [-q_fn, -q_iOf, -q_slice, q_fn2, q_iOf2, q_slice2]
    refine ⟨by omega, by omega, ?_⟩
    have hk3 : (1 + r5).toNat ≤ 3 := by omega
    have W2 := W1.mono (c' := 18) (by omega)
    have ssok : SetsOk ss := ⟨fun z => by subst z; simp at hsl; omega, by omega, hss⟩
    refine forW_ind (fun k w => ∃ nums copies places l8, pl l8 = true ∧ Wld (18 + k) nums lines copies places ∧ w = [.st, .v (.tup [.tup houses2, .int cls, loans, .int win, grace]), .v (.tup pairs), .v (.tup readers), .v (.int day), .v (.int first), .own (nums.map .int), .ownL as (lines.map fun l => l.map lnD), l8, .un, .v (.int many), .v (.int works), .own (copies.map copD), .own (places.map plD), .own (ss.map setD), l15, l16, l17, l18, l19, l20, .un, .un, .un]) ⟨nums, copies, places, l8, h8, W2, rfl⟩ ?_ ?_
    · rintro k w x hx ⟨nums, copies, places, l8, h8, W1, rfl⟩ N hN
      obtain ⟨rfl, hk⟩ := rg_get hx
      obtain ⟨ns, n, rfl, n0, n1⟩ := W1.pop (by omega)
      have hpls := W1.pls
      have hl := W1.len
      simp at hpls
      rw [q_gP rfl h8]
      simp [-q_fn, -q_iOf, -q_slice, q_fn2, q_iOf2, q_slice2]
      refine c_take (by omega) (by omega) fun wk _ _ => ?_
      simp [-q_fn, -q_iOf, -q_slice, q_fn2, q_iOf2, q_slice2]
      refine c_take (by omega) (by omega) fun home _ _ => ?_
      simp [-q_fn, -q_iOf, -q_slice, q_fn2, q_iOf2, q_slice2]
      refine ⟨by omega, ?_⟩
      refine c_take (by omega) (by omega) fun rd _ _ => ?_
      simp [-q_fn, -q_iOf, -q_slice, q_fn2, q_iOf2, q_slice2]
      refine c_pick (by simp) (by simp) fun pD hpD => ?_
      obtain ⟨p, rfl, hp⟩ : ∃ p, pD = plD p ∧ plN p = [] := by
        simp at hpD
        rcases hpD with rfl | rfl
        · exact ⟨.free, rfl, rfl⟩
        · exact ⟨.lent (day + 5) n rd, rfl, rfl⟩
      clear hpD
      simp [-q_fn, -q_iOf, -q_slice, q_fn2, q_iOf2, q_slice2]
      exact ⟨by omega, hN _ ⟨ns, copies ++ [(wk, home)], places ++ [p], .v (.int k), rfl, W1.place (.inr hp), by simp [copD]⟩⟩
    · rintro w ⟨nums, copies, places, l8, h8, W1, rfl⟩
      rw [rg_len] at W1
      have htot := W1.tot
      have hpls := W1.pls
      have hlen3 := W1.len
      simp at htot
      simp [-q_fn, -q_iOf, -q_slice, q_fn2, q_iOf2, q_slice2]
      refine lcW_F (xs := lines) (D.lst ∘ fun l => l.map lnD) (fun l d => ∃ l' : List Ln, l'.Perm l ∧ d = lineD l') (fun l hl N hN => ?_) (by rw [List.length_nil]; omega) fun ys hys => ?_
      · obtain ⟨i, hi⟩ := List.getElem?_of_mem hl
        have lle := ln_len hi
        simp [-q_fn, -q_iOf, -q_slice, q_fn2, q_iOf2, q_slice2]
        refine c_shuf (by simp; omega) fun zs hzs => ?_
        obtain ⟨l', P2, rfl⟩ := perm_map hzs rfl
        simp [-q_fn, -q_iOf, -q_slice, q_fn2, q_iOf2, q_slice2]
        exact hN _ ⟨l', P2, rfl⟩
      obtain ⟨lines', rfl, hll2, P2⟩ := lines_perm hys
      simp [-q_fn, -q_iOf, -q_slice, q_fn2, q_iOf2, q_slice2]
      refine ⟨by omega, by omega, ?_⟩
      refine q_sortS rfl fun ss' Pss => ?_
      have sok : SetsOk ss' := ⟨fun z => ssok.ne (by subst z; exact Pss.nil_eq.symm), by rw [Pss.length_eq]; exact ssok.few, fun s hs => ssok.row s (Pss.mem_iff.mp hs)⟩
      have F : Fit ⟨bookD houses2 cls loans win grace, .int works, copies, .tup readers⟩ ⟨day, places, .tup (List.replicate places.length (.int 0)), lines', .tup (List.replicate works (.int 1)), .int 0⟩ := W1.fit rfl rfl P2 (by show lines'.length < 1000; omega)
      have fin := q _ _ ss' nums F sok (by omega)
      simp [-q_fn, -q_iOf, -q_slice, q_fn2, q_iOf2, q_slice2]
      exact fin
end K80


namespace K80
open PySem PySem.Spec PyProof.Rows L2 OW
variable {Q : R → Prop} {es : List E}
/-! ### _law_edges -/
theorem cut_ints {is : List Int} {lo hi : Option Int} : ∃ js : List Int, OW.cutD (is.map .int) lo hi = js.map .int ∧ js.length ≤ is.length := by
  refine ⟨(is.drop (HT.sIx is.length 0 lo)).take (HT.sIx is.length is.length hi - HT.sIx is.length 0 lo), ?_, ?_⟩
  · unfold OW.cutD
    rw [List.length_map, List.map_take, List.map_drop]
  · rw [List.length_take, List.length_drop]
    omega
def pnum : Pl → Option Int
  | .way _ n _ => some n
  | .ready _ n _ => some n
  | .lent _ n _ => some n
  | .free => none
def sp_law_edges : OW.Spec := fun es Q => ∃ (b : Lib) (s : Std) (ss : List (List Int × Int)) (nums : List Int), es = [.st, .d (stdD s), .d (setsD ss), .d (.lst (nums.map .int))] ∧ Fit b s ∧ SetsOk ss ∧ nums.length ≤ 60 ∧ ∀ vs : List D, vs.length < 1000000 → vs.all shortB = true → Q (.val (.lst vs))
theorem p_law_edges (h : sp_law_edges es Q) : t_law_edges sp_law_take sp_law_shuffled (sp_put 5) { nx := fun _ => Q (.val .non), rt := Q } (startW 17 es) := by
  obtain ⟨b, s, ss, nums, rfl, F, sok, hn, q⟩ := h
  have ss0 : 0 < ss.length := List.length_pos_iff.mpr sok.ne
  have ss3 := sok.few
  have hpl := F.lens
  have hll := F.lensL
  simp [-q_fn, -q_iOf, -q_slice, q_fn2, q_iOf2, q_slice2, t_law_edges, startW, toL, List.replicate, setsD, stdD]
  refine c_take (by omega) (by omega) fun sii s0 s1 => ?_
  obtain ⟨si, rfl⟩ := Int.eq_ofNat_of_zero_le s0
  have hsi : si < ss.length := by omega
  obtain ⟨⟨row, told⟩, est⟩ : ∃ st, ss[si]? = some st := ⟨_, List.getElem?_eq_getElem hsi⟩
  obtain ⟨row4, rowB, toldB⟩ := sok.row _ (List.mem_of_getElem? est)
  have row4 : row.length ≤ 4 := row4
  have rowB : ∀ i ∈ row, i.natAbs < 2 ^ 30 := rowB
  have toldB : told.natAbs < 2 ^ 30 := toldB
  have e1 : atI (ss.map setD) (si : Int) = some (.tup [.tup (row.map .int), .int told]) := by rw [OW.atN, List.getElem?_map, est]; rfl
  simp [-q_fn, -q_iOf, -q_slice, q_fn2, q_iOf2, q_slice2, e1]
  refine lcW_map (xs := s.places) plD (fun p => (pnum p).map D.int) (fun p hp N hN => ?_) (by simp; omega) ?_
  · cases p <;> (simp [-q_fn, -q_iOf, -q_slice, q_fn2, q_iOf2, q_slice2, plD]; exact hN)
  obtain ⟨m1, em1, lm1⟩ : ∃ m1 : List Int, [] ++ s.places.filterMap (fun p => (pnum p).map D.int) = m1.map .int ∧ m1.length ≤ s.places.length := ⟨s.places.filterMap pnum, by rw [List.nil_append, List.map_filterMap], List.length_filterMap_le ..⟩
  obtain ⟨m2, em2, lm2⟩ := cut_ints (is := nums) (lo := none) (hi := some 1)
  rw [em1, em2, ← List.map_append]
  have lm : (m1 ++ m2).length ≤ 1060 := by rw [List.length_append]; omega
  generalize m1 ++ m2 = m0 at lm
  refine ⟨by simp; omega, ?_⟩
  have nlen : s.lines.flatten.length < 1000 := by
    have h1 := F.many
    have h2 := congrArg List.length (entsL_nums (s := s))
    rw [List.length_map] at h2
    have h3 : (lnNums s.lines).length = s.lines.flatten.length := by
      unfold lnNums
      rw [← List.map_flatten, List.length_map]
    rw [List.length_append] at h1
    omega
  refine forW_ind (fun k w => ∃ (ms : List Int) (l6 : L), pl l6 = true ∧ ms.length ≤ 1060 + (s.lines.take k).flatten.length ∧ w = [.st, .v (.tup [.int s.day, .tup (s.places.map plD), s.held, .tup (s.lines.map lineD), s.many, s.last]), .v (.tup (ss.map setD)), .v (.lst (nums.map .int)), .v (.int si), .v (.lst (ms.map .int)), l6, .un, .un, .un, .un, .v (.tup (row.map .int)), .v (.int told), .un, .un, .un, .un]) ⟨m0, .un, rfl, by simp; omega, rfl⟩ ?_ ?_
  · rintro k w x hx ⟨ms, l6, h6, hms, rfl⟩ N hN
    rw [List.getElem?_map] at hx
    obtain ⟨l, hl, rfl⟩ := Option.map_eq_some_iff.mp hx
    rw [q_gP rfl h6]
    have hfl := flat_take hl
    have hle := flat_take_le (xss := s.lines) (k := k + 1)
    rw [hfl, List.length_append] at hle
    simp [-q_fn, -q_iOf, -q_slice, q_fn2, q_iOf2, q_slice2, lineD]
    refine lcW_map (xs := l) lnD (fun l => some (.int l.number)) (fun p hp N hN => ?_) (by simp; omega) ?_
    · simp [-q_fn, -q_iOf, -q_slice, q_fn2, q_iOf2, q_slice2, lnD]
      exact hN
    have e2 : [] ++ l.filterMap (fun l => some (D.int l.number)) = (l.map (·.number)).map .int := by simp
    rw [e2]
    refine ⟨by simp; omega, hN _ ⟨ms ++ l.map (·.number), .v (lineD l), rfl, ?_, by simp [lineD]⟩⟩
    rw [hfl, List.length_append, List.length_append, List.length_map]
    omega
  · rintro w ⟨ms, l6, h6, hms, rfl⟩
    have hms2 : ms.length ≤ 2060 := by
      have := flat_take_le (xss := s.lines) (k := (s.lines.map lineD).length)
      omega
    clear hms
    simp [-q_fn, -q_iOf, -q_slice, q_fn2, q_iOf2, q_slice2]
    have cl : ∀ lo hi, (OW.cutD (row.map .int) lo hi).length ≤ row.length := fun lo hi => by
      have := @cut_len (row.map .int) lo hi
      simpa using this
    have k1 := cl (some (-1)) none
    have k2 := cl none (some (-1))
    have k3 := cl (some 1) none
    have k4 := cl none (some 1)
    have k5 := cl none (some 2)
    have k6 := cl (some 1) (some 3)
    refine ⟨by omega, by omega, ?_⟩
    refine c_shuf (by simp; omega) fun ys hys => ?_
    obtain ⟨ms2, Pm, rfl⟩ := perm_map hys rfl
    simp [-q_fn, -q_iOf, -q_slice, q_fn2, q_iOf2, q_slice2]
    obtain ⟨m8, em8, _⟩ := cut_ints (is := ms2) (lo := none) (hi := some 8)
    have l8 := cut_few (xs := ms2.map .int) (k := 8) (by decide)
    rw [em8] at l8 ⊢
    rw [List.length_map] at l8
    have l8 : m8.length ≤ 8 := l8
    refine forW_ind (fun k w => ∃ (lots : List D) (l8 : L), pl l8 = true ∧ lots.length = 13 + 3 * k ∧ lots.all shortB = true ∧ w = [.st, .v (.tup [.int s.day, .tup (s.places.map plD), s.held, .tup (s.lines.map lineD), s.many, s.last]), .v (.tup (ss.map setD)), .v (.lst (nums.map .int)), .v (.int si), .v (.lst (ms.map .int)), l6, .v (.lst lots), l8, .un, .un, .v (.tup (row.map .int)), .v (.int told), .un, .un, .un, .un]) ⟨_, .un, rfl, rfl, by simp [shortB]; omega, rfl⟩ ?_ ?_
    · rintro k w x hx ⟨lots, l8', h8', hlen, hsh, rfl⟩ N hN
      have hk := (List.getElem?_eq_some_iff.mp hx).1
      rw [List.length_map] at hk
      rw [List.getElem?_map] at hx
      obtain ⟨n, _, rfl⟩ := Option.map_eq_some_iff.mp hx
      rw [q_gP rfl h8']
      obtain ⟨j1, ej1, lj1⟩ := cut_ints (is := row) (lo := none) (hi := some 3)
      obtain ⟨j2, ej2, lj2⟩ := cut_ints (is := row) (lo := none) (hi := some (-1))
      simp [-q_fn, -q_iOf, -q_slice, q_fn2, q_iOf2, q_slice2, ej1, ej2]
      refine ⟨by omega, ?_⟩
      refine q_sortI (is := j1 ++ [n]) (by simp) fun t1 P1 => ?_
      have p1 := P1.length_eq
      simp [-q_fn, -q_iOf, -q_slice, q_fn2, q_iOf2, q_slice2, ej1, ej2]
      refine ⟨by omega, ?_⟩
      refine q_sortI (is := j2 ++ [n]) (by simp) fun t2 P2 => ?_
      have p2 := P2.length_eq
      simp [-q_fn, -q_iOf, -q_slice, q_fn2, q_iOf2, q_slice2, ej1, ej2]
      refine ⟨by omega, ?_⟩
      refine q_sortI (is := row ++ [n]) (by simp) fun t3 P3 => ?_
      have p3 := P3.length_eq
      rw [List.length_append, List.length_singleton] at p1 p2 p3
      simp [-q_fn, -q_iOf, -q_slice, q_fn2, q_iOf2, q_slice2]
      refine ⟨by omega, hN _ ⟨lots ++ [.tup (t1.map .int), .tup (t2.map .int), .tup (t3.map .int)], .v (.int n), rfl, by simp; omega, ?_, rfl⟩⟩
      rw [List.all_append, hsh]
      simp [shortB]
      omega
    · rintro w ⟨lots, l8', h8', hlen, hsh, rfl⟩
      rw [List.length_map] at hlen
      simp [-q_fn, -q_iOf, -q_slice, q_fn2, q_iOf2, q_slice2]
      have put0 : ∀ x, putD (.tup (ss.map setD)) [(si : Int), 0] x = some (.tup ((ss.map setD).set si (.tup [x, .int told]))) := fun x => by
        simp [putD, est, setD]
        omega
      have put1 : ∀ x, putD (.tup (ss.map setD)) [(si : Int), 1] x = some (.tup ((ss.map setD).set si (.tup [.tup (row.map .int), x]))) := fun x => by
        simp [putD, est, setD]
        omega
      have put2 : ∀ x, putD (.tup (ss.map setD)) [(si : Int)] x = some (.tup ((ss.map setD).set si x)) := fun x => by
        simp [putD, est, setD]
        omega
      refine lcW_ok (fun x o => ∃ d, o = some d ∧ shortB d = true) (fun x hx N hN => ?_) (by simp; omega) fun y1 hy1 => ?_
      · simp [-q_fn, -q_iOf, -q_slice, q_fn2, q_iOf2, q_slice2]
        refine ⟨_, [(si : Int), 0], x, _, rfl, by simp, by simp, put0 x, ?_⟩
        simp [-q_fn, -q_iOf, -q_slice, q_fn2, q_iOf2, q_slice2]
        exact hN _ ⟨_, rfl, decide_eq_true (by rw [List.length_set, List.length_map]; omega)⟩
      have ly1 := LcR.len (fun x ⟨d, e, _⟩ => by cases e) hy1
      have ay1 := (LcR.all (Pr := fun d => shortB d = true) (fun x d ⟨e, h1, h2⟩ => by cases h1; exact h2) hy1).1
      rw [List.nil_append]
      refine ⟨log_ok toldB, ?_⟩
      refine lcW_ok (fun x o => ∃ d, o = some d ∧ shortB d = true) (fun x hx N hN => ?_) (by simp) fun y2 hy2 => ?_
      · simp [-q_fn, -q_iOf, -q_slice, q_fn2, q_iOf2, q_slice2]
        refine ⟨_, [(si : Int), 1], x, _, rfl, by simp, by simp, put1 x, ?_⟩
        simp [-q_fn, -q_iOf, -q_slice, q_fn2, q_iOf2, q_slice2]
        exact hN _ ⟨_, rfl, decide_eq_true (by rw [List.length_set, List.length_map]; omega)⟩
      have ly2 := LcR.len (fun x ⟨d, e, _⟩ => by cases e) hy2
      have ay2 := (LcR.all (Pr := fun d => shortB d = true) (fun x d ⟨e, h1, h2⟩ => by cases h1; exact h2) hy2).1
      rw [List.nil_append]
      have ly2 : y2.length = 10 := ly2
      refine ⟨by omega, ?_⟩
      refine lcW_ok (fun x o => ∃ d, o = some d ∧ shortB d = true) (fun x hx N hN => ?_) (by simp) fun y3 hy3 => ?_
      · simp [-q_fn, -q_iOf, -q_slice, q_fn2, q_iOf2, q_slice2]
        refine ⟨_, [(si : Int)], x, _, rfl, by simp, by simp, put2 x, ?_⟩
        simp [-q_fn, -q_iOf, -q_slice, q_fn2, q_iOf2, q_slice2]
        exact hN _ ⟨_, rfl, decide_eq_true (by rw [List.length_set, List.length_map]; omega)⟩
      have ly3 := LcR.len (fun x ⟨d, e, _⟩ => by cases e) hy3
      have ay3 := (LcR.all (Pr := fun d => shortB d = true) (fun x d ⟨e, h1, h2⟩ => by cases h1; exact h2) hy3).1
      rw [List.nil_append]
      have ly3 : y3.length = 6 := ly3
      have c1 := @cut_len (ss.map setD) none (some 1)
      have c2 := @cut_len (ss.map setD) (some 1) none
      rw [List.length_map] at c1 c2
      obtain ⟨st0, e0⟩ : ∃ st, ss[0]? = some st := ⟨_, List.getElem?_eq_getElem ss0⟩
      rw [e0]
      refine ⟨by omega, by omega, by omega, by omega, by omega, q _ (by simp; omega) ?_⟩
      rw [List.all_append, List.all_append, List.all_append, List.all_eq_true.mpr ay1, List.all_eq_true.mpr ay2, List.all_eq_true.mpr ay3]
      simp [shortB, setD]
      omega
end K80


namespace OW
open PySem PySem.Spec PyProof.Rows L2
@[simp] theorem notN1 {d : D} {w : W} {Q : E → W → Prop} : oNotN (.d d) (.d .non) w Q = Q (.d (.bl (!isNonD d))) w := rfl
end OW
namespace K80
open PySem PySem.Spec PyProof.Rows L2 OW
variable {Q : R → Prop} {es : List E}
/-! ### _law_stands -/
@[simp] theorem ix_std0 {s : Std} {w : W} {Q : E → W → Prop} : oIx (.d (stdD s)) (.d (.int 0)) w Q = Q (.d (.int s.day)) w := rfl
@[simp] theorem ix_std1 {s : Std} {w : W} {Q : E → W → Prop} : oIx (.d (stdD s)) (.d (.int 1)) w Q = Q (.d (.tup (s.places.map plD))) w := rfl
@[simp] theorem ix_std3 {s : Std} {w : W} {Q : E → W → Prop} : oIx (.d (stdD s)) (.d (.int 3)) w Q = Q (.d (.tup (s.lines.map lineD))) w := rfl
@[simp] theorem ix_ln3 {x : Ln} {w : W} {Q : E → W → Prop} : oIx (.d (lnD x)) (.d (.int 3)) w Q = Q (.d (optD x.told)) w := rfl
@[simp] theorem len_line {l : List Ln} {w : W} {Q : E → W → Prop} : cLen [.d (lineD l)] w Q = Q (.d (.int l.length)) w := by
  show Q (.d (.int (l.map lnD).length)) w = _
  rw [List.length_map]
theorem ix_line {l : List Ln} {k : Nat} {x : Ln} {w : W} {Q : E → W → Prop} (h : l[k]? = some x) : oIx (.d (lineD l)) (.d (.int (k : Int))) w Q = Q (.d (lnD x)) w := by
  show (match atI (l.map lnD) (k : Int) with
    | some d => Q (.d d) w
    | none => False) = _
  rw [OW.atN, List.getElem?_map, h]
  rfl
def setTold (s : Std) (w k : Nat) (l : List Ln) (x : Ln) (o : Option Int) : Std := { s with lines := s.lines.set w (l.set k { x with told := o }) }
def setPl (s : Std) (k : Nat) (p : Pl) : Std := { s with places := s.places.set k p }
theorem put_told {s : Std} {w k : Nat} {l : List Ln} {x : Ln} {o : Option Int} (hl : s.lines[w]? = some l) (hx : l[k]? = some x) (b1 : s.lines.length < 1000) (b2 : l.length < 1000) : putD (stdD s) [3, (w : Int), (k : Int), 3] (optD o) = some (stdD (setTold s w k l x o)) := by
  simp [putD, stdD, hl, hx, lineD, lnD, b1, b2, List.map_set, setTold]
theorem put_way {s : Std} {k : Nat} {d n r e : Int} (hp : s.places[k]? = some (.way d n r)) (b1 : s.places.length < 1000) : putD (stdD s) [1, (k : Int), 1] (.int e) = some (stdD (setPl s k (.way e n r))) := by
  simp [putD, stdD, hp, plD, b1, List.map_set, setPl]
theorem put_lent {s : Std} {k : Nat} {d n r e : Int} (hp : s.places[k]? = some (.way d n r)) (b1 : s.places.length < 1000) : putD (stdD s) [1, (k : Int)] (.tup [.str "lent", .int e, .int n, .int r]) = some (stdD (setPl s k (.lent e n r))) := by
  simp [putD, stdD, hp, plD, b1, List.map_set, setPl]
/-- what fits the one fits the other -/
def Near (s s' : Std) : Prop := ∀ b, Fit b s → Fit b s'
theorem near_told {s : Std} {w k : Nat} {l : List Ln} {x : Ln} {o : Option Int} (hl : s.lines[w]? = some l) (hx : l[k]? = some x) : Near s (setTold s w k l x o) := fun b F =>
  F.near rfl (by simp [setTold]) (ln_same hl hx rfl) (List.Sublist.refl _)
theorem near_way {s : Std} {k : Nat} {d n r e : Int} (hp : s.places[k]? = some (.way d n r)) : Near s (setPl s k (.way e n r)) := fun b F =>
  F.near (by simp [setPl]) rfl rfl (pl_sub hp (List.Sublist.refl _))
theorem near_lent {s : Std} {k : Nat} {d n r e : Int} (hp : s.places[k]? = some (.way d n r)) : Near s (setPl s k (.lent e n r)) := fun b F =>
  F.near (by simp [setPl]) rfl rfl (pl_sub hp (List.nil_sublist _))
theorem all_std {P : Std → Prop} : ∀ {ys : List D}, (∀ d ∈ ys, ∃ s, d = stdD s ∧ P s) → ∃ ss : List Std, ys = ss.map stdD ∧ ∀ s ∈ ss, P s
  | [], _ => ⟨[], rfl, fun s h => by cases h⟩
  | d :: r, h => by
    obtain ⟨s, rfl, hs⟩ := h _ (List.mem_cons_self ..)
    obtain ⟨ss, rfl, ha⟩ := all_std (ys := r) fun x hx => h x (List.mem_cons_of_mem _ hx)
    exact ⟨s :: ss, rfl, fun t ht => by
      rcases List.mem_cons.mp ht with rfl | ht
      · exact hs
      · exact ha t ht⟩
def sp_law_stands : OW.Spec := fun es Q => ∃ (b : Lib) (s : Std) (v : D), es = [.st, .d (stdD s), .d v] ∧ Fit b s ∧ ∀ ss' : List Std, ss'.length ≤ 6 → (∀ s' ∈ ss', Near s s') → Q (.val (.lst (ss'.map stdD)))
theorem p_law_stands (h : sp_law_stands es Q) : t_law_stands sp_law_shuffled (sp_put 5) { nx := fun _ => Q (.val .non), rt := Q } (startW 9 es) := by
  obtain ⟨b, s, v, rfl, F, q⟩ := h
  have hpl := F.lens
  have hll := F.lensL
  have nlen : s.lines.flatten.length < 1000 := by
    have h1 := F.many
    have h2 := congrArg List.length (entsL_nums (s := s))
    rw [List.length_map] at h2
    have h3 : (lnNums s.lines).length = s.lines.flatten.length := by
      unfold lnNums
      rw [← List.map_flatten, List.length_map]
    rw [List.length_append] at h1
    omega
  simp [-q_fn, -q_iOf, -q_slice, q_fn2, q_iOf2, q_slice2, t_law_stands, startW, toL, List.replicate]
  refine ⟨by omega, ?_⟩
  refine forW_ind (fun k w => ∃ (fs : List Std) (l4 l5 l7 l8 : L), pl l4 = true ∧ pl l5 = true ∧ pl l8 = true ∧ (∀ f ∈ fs, Near s f) ∧ fs.length ≤ 3 * (s.lines.take k).flatten.length ∧ w = [.st, .v (stdD s), .v v, .own (fs.map stdD), l4, l5, .un, l7, l8]) ⟨[], .un, .un, .un, .un, rfl, rfl, rfl, fun f h => (nomatch h), Nat.zero_le _, rfl⟩ ?_ ?_
  · rintro wk w x hx ⟨fs, l4, l5, l7, l8, h4, h5, h8, hf, hfl, rfl⟩ N1 hN1
    obtain ⟨rfl, hwk⟩ := rg_get hx
    obtain ⟨l, el⟩ : ∃ l, s.lines[wk]? = some l := ⟨_, List.getElem?_eq_getElem hwk⟩
    have hft := flat_take el
    have hle := flat_take_le (xss := s.lines) (k := wk + 1)
    rw [hft, List.length_append] at hle
    have e1 : atI (s.lines.map lineD) (wk : Int) = some (lineD l) := by rw [OW.atN, List.getElem?_map, el]; rfl
    rw [q_gP rfl h4]
    simp [-q_fn, -q_iOf, -q_slice, q_fn2, q_iOf2, q_slice2, e1]
    refine ⟨by omega, ?_⟩
    refine forW_ind (fun j w => ∃ (fs : List Std) (l5 l7 l8 : L), pl l5 = true ∧ pl l8 = true ∧ (∀ f ∈ fs, Near s f) ∧ fs.length ≤ 3 * ((s.lines.take wk).flatten.length + j) ∧ w = [.st, .v (stdD s), .v v, .own (fs.map stdD), .v (.int wk), l5, .un, l7, l8]) ⟨fs, l5, l7, l8, h5, h8, hf, hfl, rfl⟩ ?_ ?_
    · rintro j w x hx ⟨fs, l5, l7, l8, h5, h8, hf, hfl, rfl⟩ N hN
      obtain ⟨rfl, hj⟩ := rg_get hx
      obtain ⟨x, ex⟩ : ∃ x, l[j]? = some x := ⟨_, List.getElem?_eq_getElem hj⟩
      rw [q_gP rfl h5]
      have inner : ∀ (d7 : D) (os : List (Option Int)), os.length ≤ 3 → forW (gN 8) (sAppend 3 (eFn (sp_put 5) (aCons (eVar 1) (aCons (eTup (aCons (eC (.int 3)) (aCons (eVar 4) (aCons (eVar 5) (aCons (eC (.int 3)) aNil))))) (aCons (eVar 8) aNil))))) (os.map optD) { nx := N, rt := Q, bk := N1, ct := N } [.st, .v (stdD s), .v v, .own (fs.map stdD), .v (.int wk), .v (.int j), .un, .v d7, l8] := fun d7 os hos => by
        refine forW_ind (fun i w => ∃ (fs : List Std) (l8 : L), pl l8 = true ∧ (∀ f ∈ fs, Near s f) ∧ fs.length ≤ 3 * ((s.lines.take wk).flatten.length + j) + i ∧ w = [.st, .v (stdD s), .v v, .own (fs.map stdD), .v (.int wk), .v (.int j), .un, .v d7, l8]) ⟨fs, l8, h8, hf, hfl, rfl⟩ ?_ ?_
        · rintro i w y hy ⟨fs, l8, h8, hf, hfl, rfl⟩ N2 hN2
          have hi := (List.getElem?_eq_some_iff.mp hy).1
          rw [List.length_map] at hi
          rw [List.getElem?_map] at hy
          obtain ⟨o, _, rfl⟩ := Option.map_eq_some_iff.mp hy
          rw [q_gP rfl h8]
          simp [-q_fn, -q_iOf, -q_slice, q_fn2, q_iOf2, q_slice2]
          refine ⟨_, [3, (wk : Int), (j : Int), 3], _, _, rfl, by simp, by simp, put_told el ex hll (by omega), ?_⟩
          simp [-q_fn, -q_iOf, -q_slice, q_fn2, q_iOf2, q_slice2]
          refine ⟨by omega, hN2 _ ⟨fs ++ [setTold s wk j l x o], .v (optD o), rfl, fun f hf2 => ?_, by rw [List.length_append, List.length_singleton]; omega, by simp⟩⟩
          rcases List.mem_append.mp hf2 with h | h
          · exact hf f h
          · simp at h
            subst h
            exact near_told el ex
        · rintro w ⟨fs, l8, h8, hf, hfl, rfl⟩
          rw [List.length_map] at hfl
          exact hN _ ⟨fs, .v (.int j), .v d7, l8, rfl, h8, hf, by omega, rfl⟩
      simp [-q_fn, -q_iOf, -q_slice, q_fn2, q_iOf2, q_slice2, e1, ix_line ex]
      cases ht : x.told with
      | none =>
        simp [-q_fn, -q_iOf, -q_slice, q_fn2, q_iOf2, q_slice2, optD, isNonD]
        exact inner .non [none] (by decide)
      | some t =>
        by_cases h6 : t < 1000000
        · simp [-q_fn, -q_iOf, -q_slice, q_fn2, q_iOf2, q_slice2, optD, isNonD, h6]
          exact inner (.int t) [none, some (t + 1), some (t - 1)] (by simp)
        · simp [-q_fn, -q_iOf, -q_slice, q_fn2, q_iOf2, q_slice2, optD, isNonD, h6]
          exact inner (.int t) [none] (by decide)
    · rintro w ⟨fs, l5, l7, l8, h5, h8, hf, hfl, rfl⟩
      rw [rg_len] at hfl
      exact hN1 _ ⟨fs, .v (.int wk), l5, l7, l8, rfl, h5, h8, hf, by rw [hft, List.length_append]; exact hfl, rfl⟩
  · rintro w ⟨fs, l4, l5, l7, l8, h4, h5, h8, hf, hfl, rfl⟩
    rw [rg_len, List.take_length] at hfl
    have hfl0 : fs.length ≤ 3000 := by omega
    clear hfl
    simp [-q_fn, -q_iOf, -q_slice, q_fn2, q_iOf2, q_slice2]
    refine ⟨by omega, ?_⟩
    refine forW_ind (fun k w => ∃ (fs : List Std) (l5 l6 : L), pl l5 = true ∧ (∀ f ∈ fs, Near s f) ∧ fs.length ≤ 3000 + 2 * k ∧ w = [.st, .v (stdD s), .v v, .own (fs.map stdD), l4, l5, l6, l7, l8]) ⟨fs, l5, .un, h5, hf, hfl0, rfl⟩ ?_ ?_
    · rintro k w x hx ⟨fs, l5, l6, h5, hf, hfl, rfl⟩ N hN
      obtain ⟨rfl, hk⟩ := rg_get hx
      obtain ⟨p, ep⟩ : ∃ p, s.places[k]? = some p := ⟨_, List.getElem?_eq_getElem hk⟩
      have e1 : atI (s.places.map plD) (k : Int) = some (plD p) := by rw [OW.atN, List.getElem?_map, ep]; rfl
      rw [q_gP rfl h5]
      cases p with
      | way d n r =>
        have c2 : OW.cutD [.str "way", .int d, .int n, .int r] (some 2) none = [.int n, .int r] := rfl
        simp [-q_fn, -q_iOf, -q_slice, q_fn2, q_iOf2, q_slice2, e1, plD]
        refine ⟨_, [1, (k : Int), 1], _, _, rfl, by simp, by simp, put_way ep hpl, ?_⟩
        simp [-q_fn, -q_iOf, -q_slice, q_fn2, q_iOf2, q_slice2]
        rw [c2]
        refine ⟨by omega, by simp, ?_⟩
        refine ⟨_, [1, (k : Int)], _, _, rfl, by simp, by simp, put_lent ep hpl, ?_⟩
        simp [-q_fn, -q_iOf, -q_slice, q_fn2, q_iOf2, q_slice2]
        refine ⟨by omega, hN _ ⟨fs ++ [setPl s k (.way (d + 7) n r), setPl s k (.lent (s.day + 9) n r)], .v (.int k), .v (plD (.way d n r)), rfl, fun f hf2 => ?_, by rw [List.length_append, List.length_cons, List.length_singleton]; omega, by simp [plD]⟩⟩
        rcases List.mem_append.mp hf2 with h | h
        · exact hf f h
        · simp at h
          rcases h with rfl | rfl
          · exact near_way ep
          · exact near_lent ep
      | ready d n r =>
        simp [-q_fn, -q_iOf, -q_slice, q_fn2, q_iOf2, q_slice2, e1, plD]
        exact hN _ ⟨fs, .v (.int k), _, rfl, hf, by omega, rfl⟩
      | free =>
        simp [-q_fn, -q_iOf, -q_slice, q_fn2, q_iOf2, q_slice2, e1, plD]
        exact hN _ ⟨fs, .v (.int k), _, rfl, hf, by omega, rfl⟩
      | lent d n r =>
        simp [-q_fn, -q_iOf, -q_slice, q_fn2, q_iOf2, q_slice2, e1, plD]
        exact hN _ ⟨fs, .v (.int k), _, rfl, hf, by omega, rfl⟩
    · rintro w ⟨fs, l5, l6, h5, hf, hfl, rfl⟩
      rw [rg_len] at hfl
      simp [-q_fn, -q_iOf, -q_slice, q_fn2, q_iOf2, q_slice2]
      refine c_shuf (by simp; omega) fun ys hys => ?_
      simp [-q_fn, -q_iOf, -q_slice, q_fn2, q_iOf2, q_slice2]
      have c6 := cut_few (xs := ys) (k := 6) (by decide)
      obtain ⟨fs2, e2, h2⟩ := all_std (P := Near s) (ys := OW.cutD ys none (some 6)) fun d hd => by
        obtain ⟨f, h1, rfl⟩ := List.mem_map.mp (hys.mem_iff.mp (cut_mem hd))
        exact ⟨f, rfl, hf f h1⟩
      rw [e2] at c6 ⊢
      rw [List.length_map] at c6
      exact q fs2 c6 h2
end K80


namespace K80
open PySem PySem.Spec PyProof.Rows L2 OW GenX
section
variable {P : Program} {w : World} {K : PySem.W.Frag} {mg : Str → Option Value} {base : Heap} {TB : List Addr}
/-! ### law -/
theorem sclaw : FnScope ["script", "state", "cases", "value", "other", "k", "library", "stand", "sets", "numbers", "place", "due", "told"] ["script"] (defScope (top 36)) := ⟨rfl, rfl, rfl, by decide +kernel, rfl, by decide +kernel, by decide +kernel⟩
def tlaw (sp_law_world sp_law_stands sp_law_shuffled sp_law_fault sp_law_told sp_law_edges sp_law_same sp_law_spoilt sp_law_take : OW.Spec) : SW := (sSeq (sUnp (eFn sp_law_world (aCons (eVar 1) aNil)) (gSeqW 4 (gsCons (gN 6) (gsCons (gN 7) (gsCons (gN 8) (gsCons (gN 9) gsNil))))))
  (sSeq (sSetF 2 (fLst (aCons (eTup (aCons (eVar 7) (aCons (eVar 8) aNil))) (aCons (eTup (aCons (eVar 7) (aCons (eVar 8) aNil))) aNil))))
  (sSeq (sFor (iOf (eSlice (eFn sp_law_shuffled (aCons (eVar 1) (aCons (eFn sp_law_edges (aCons (eVar 1) (aCons (eVar 7) (aCons (eVar 8) (aCons (eVar 9) aNil))))) aNil))) oNone (oSome (eC (.int 26))))) (gN 3)
  (sAppend 2 (eTup (aCons (eVar 7) (aCons (eVar 3) aNil)))))
  (sSeq (sFor (iOf (eFn sp_law_stands (aCons (eVar 1) (aCons (eVar 7) (aCons (eVar 8) aNil))))) (gN 4)
  (sAppend 2 (eTup (aCons (eVar 4) (aCons (eVar 8) aNil)))))
  (sSeq (sFor (iRange1 (aCons (eC (.int 6)) aNil)) (gN 5)
  (sAppend 2 (eTup (aCons (eVar 7) (aCons (eFn sp_law_spoilt (aCons (eVar 1) (aCons (eVar 8) (aCons (eOp oAdd (eC (.int 1)) (eFn sp_law_take (aCons (eVar 1) (aCons (eC (.int 5)) aNil)))) aNil)))) aNil)))))
  (sFrz 2 (sSeq (sFor (iOf (eVar 2)) (gSeqW 2 (gsCons (gN 10) (gsCons (gN 3) gsNil)))
  (sSeq (sSet 11 (eFn sp_law_fault (aCons (eVar 6) (aCons (eVar 10) (aCons (eVar 3) aNil)))))
  (sSeq (sSet 12 (eFn sp_law_told (aCons (eVar 6) (aCons (eVar 10) (aCons (eVar 3) (aCons (eOp oEq (eFn sp_law_take (aCons (eVar 1) (aCons (eC (.int 2)) aNil))) (eC (.int 0))) aNil))))))
  (sIf (tNot' (tOf (eFn sp_law_same (aCons (eVar 12) (aCons (eIf (tOf (eOp oIsN (eVar 11) (eC .non))) (eTup (aCons (eC (.str "right")) (aCons (eC .non) aNil))) (eTup (aCons (eC (.str "wrong")) (aCons (eVar 11) aNil)))) aNil)))))
  (sRet (eC (.bl false)))
  sNil))))
  (sRet (eC (.bl true))))))))))
theorem bodylaw {sp_law_world sp_law_stands sp_law_shuffled sp_law_fault sp_law_told sp_law_edges sp_law_same sp_law_spoilt sp_law_take : OW.Spec} (T : Blt mg) (h_law_world : Has P w K mg base TB 5 "_law_world" ["state"] sp_law_world) (h_law_stands : Has P w K mg base TB 13 "_law_stands" ["state", "stand", "sets"] sp_law_stands) (h_law_shuffled : Has P w K mg base TB 3 "_law_shuffled" ["state", "some"] sp_law_shuffled) (h_law_fault : Has P w K mg base TB 3 "_law_fault" ["library", "stand", "value"] sp_law_fault) (h_law_told : Has P w K mg base TB 7 "_law_told" ["library", "stand", "value", "by_name"] sp_law_told) (h_law_edges : Has P w K mg base TB 13 "_law_edges" ["state", "stand", "sets", "numbers"] sp_law_edges) (h_law_same : Has P w K mg base TB 3 "_law_same" ["told", "due"] sp_law_same) (h_law_spoilt : Has P w K mg base TB 12 "_law_spoilt" ["state", "value", "deep"] sp_law_spoilt) (h_law_take : Has P w K mg base TB 2 "_law_take" ["state", "limit"] sp_law_take) (cdv : Value) (A : Around) (outer : List Env) (s : Shared) (H : Hp) (E : XK) (g : G0) {f : Addr} (htb : g.s0.tb = TB) (hr : Room 15 (A.deeper (envOfC "law" (defScope (top 36)) s.heap.objs.size f cdv))) :
    PSsW (cxOf CX0 P w K mg base ["script", "state", "cases", "value", "other", "k", "library", "stand", "sets", "numbers", "place", "due", "told"] "law" (defScope (top 36)) f cdv A outer s H E).nox g (fun _ _ => False) ((defBody (top 36)).drop 1) (tlaw sp_law_world sp_law_stands sp_law_shuffled sp_law_fault sp_law_told sp_law_edges sp_law_same sp_law_spoilt sp_law_take) := by
  have hu := hr.units
  have hu1 := hu_of hr
  have nd := sclaw.nd
  exact (s_cons (s_unp (e_own h_law_world htb (hr.mono (by omega)) (a_cons (e_var (i := 1)) a_nil)) (g_seq rfl (gs_cons (g_name (i := 6) nd rfl (by first | exact Or.inl rfl | exact Or.inr rfl)) (gs_cons (g_name (i := 7) nd rfl (by first | exact Or.inl rfl | exact Or.inr rfl)) (gs_cons (g_name (i := 8) nd rfl (by first | exact Or.inl rfl | exact Or.inr rfl)) (gs_cons (g_name (i := 9) nd rfl (by first | exact Or.inl rfl | exact Or.inr rfl)) gs_nil))))))
  (s_cons (s_setF (i := 2) nd rfl (by first | exact Or.inl rfl | exact Or.inr rfl) (f_lst (a_cons (e_tup (a_cons (e_var (i := 7)) (a_cons (e_var (i := 8)) a_nil))) (a_cons (e_tup (a_cons (e_var (i := 7)) (a_cons (e_var (i := 8)) a_nil))) a_nil))))
  (s_cons (s_for PassesOwn.never rfl (i_seq (e_slice (e_own h_law_shuffled htb (hr.mono (by omega)) (a_cons (e_var (i := 1)) (a_cons (e_own h_law_edges htb (hr.mono (by omega)) (a_cons (e_var (i := 1)) (a_cons (e_var (i := 7)) (a_cons (e_var (i := 8)) (a_cons (e_var (i := 9)) a_nil))))) a_nil))) o_none (o_some e_int))) (g_name (i := 3) nd rfl (by first | exact Or.inl rfl | exact Or.inr rfl))
  (s_one (s_append (i := 2) (e_tup (a_cons (e_var (i := 7)) (a_cons (e_var (i := 3)) a_nil))))))
  (s_cons (s_for PassesOwn.never rfl (i_seq (e_own h_law_stands htb (hr.mono (by omega)) (a_cons (e_var (i := 1)) (a_cons (e_var (i := 7)) (a_cons (e_var (i := 8)) a_nil))))) (g_name (i := 4) nd rfl (by first | exact Or.inl rfl | exact Or.inr rfl))
  (s_one (s_append (i := 2) (e_tup (a_cons (e_var (i := 4)) (a_cons (e_var (i := 8)) a_nil))))))
  (s_cons (s_for PassesOwn.never rfl (i_range1 rfl T.range (a_cons e_int a_nil)) (g_name (i := 5) nd rfl (by first | exact Or.inl rfl | exact Or.inr rfl))
  (s_one (s_append (i := 2) (e_tup (a_cons (e_var (i := 7)) (a_cons (e_own h_law_spoilt htb (hr.mono (by omega)) (a_cons (e_var (i := 1)) (a_cons (e_var (i := 8)) (a_cons (e_add e_int (e_own h_law_take htb (hr.mono (by omega)) (a_cons (e_var (i := 1)) (a_cons e_int a_nil)))) a_nil)))) a_nil))))))
  (s_frz (i := 2) (s_cons (s_for PassesOwn.never rfl (i_seq (e_var (i := 2))) (g_seq rfl (gs_cons (g_name (i := 10) nd rfl (by first | exact Or.inl rfl | exact Or.inr rfl)) (gs_cons (g_name (i := 3) nd rfl (by first | exact Or.inl rfl | exact Or.inr rfl)) gs_nil)))
  (s_cons (s_set (i := 11) nd rfl (by first | exact Or.inl rfl | exact Or.inr rfl) (e_own h_law_fault htb (hr.mono (by omega)) (a_cons (e_var (i := 6)) (a_cons (e_var (i := 10)) (a_cons (e_var (i := 3)) a_nil)))))
  (s_cons (s_set (i := 12) nd rfl (by first | exact Or.inl rfl | exact Or.inr rfl) (e_own h_law_told htb (hr.mono (by omega)) (a_cons (e_var (i := 6)) (a_cons (e_var (i := 10)) (a_cons (e_var (i := 3)) (a_cons (e_eq hu (e_own h_law_take htb (hr.mono (by omega)) (a_cons (e_var (i := 1)) (a_cons e_int a_nil))) e_int) a_nil))))))
  (s_one (s_if (t_not (t_val (e_own h_law_same htb (hr.mono (by omega)) (a_cons (e_var (i := 12)) (a_cons (e_if (t_isN (e_var (i := 11)) e_non) (e_tup (a_cons e_str (a_cons e_non a_nil))) (e_tup (a_cons e_str (a_cons (e_var (i := 11)) a_nil)))) a_nil)))))
  (s_one (s_ret e_bl))
  s_nil)))))
  (s_one (s_ret e_bl)))))))))
end
end K80


namespace K80
open PySem PySem.Spec PyProof.Rows L2 OW
section
variable {P : Program} {w : World} {K : PySem.W.Frag} {mg : Str → Option Value} {base : Heap} {TB : List Addr}
/-- a def at the written part that keeps a promise over values -/
structure HasV (P : Program) (w : World) (K : PySem.W.Frag) (mg : Str → Option Value) (base : Heap) (k : Nat) (x : Str) (ps : List Str) (sp : Sp) : Prop where
  ex : ∃ f fd, FnOk P w K mg base CX0 k f fd ps sp ∧ mg x = some (.ref f) ∧ PySem.W.keepIn K (.ref f) = true ∧ Binds K fd ps []
def spLaw (K : PySem.W.Frag) (TB : List Addr) : Sp := fun vs H Q _ => ∃ (a : Addr) (ns : List Int), vs = [.ref a] ∧ SqL K H a (ns.map V.int) ∧ ns.length < 1000 ∧ (∀ P ∈ TB, GxR.TabG H P) ∧ ∀ H', Q (.bl true) H'
/-- law's statements behind the first begin with the drawing list just made -/
def tRestG (K : PySem.W.Frag) (TB : List Addr) (t : SW) : TS := fun D σ H => ∃ g : G0, g.s0.tb = TB ∧ upS K g (fun _ _ => False) t D σ H
def law0 : W := [.un, .st, .un, .un, .un, .un, .un, .un, .un, .un, .un, .un, .un]
theorem law_ok {sp_law_world sp_law_stands sp_law_shuffled sp_law_fault sp_law_told sp_law_edges sp_law_same sp_law_spoilt sp_law_take : OW.Spec} {f : Addr} {fd : FuncData} (F : FunD K "law" "law" (defArgs (top 36)) (defBody (top 36)) (defScope (top 36)) [] [] f fd) (T : Blt mg)
    (h_start : HasV P w K mg base 2 "_law_start" ["script"] (spStart K TB))
    (h_law_world : Has P w K mg base TB 5 "_law_world" ["state"] sp_law_world) (h_law_stands : Has P w K mg base TB 13 "_law_stands" ["state", "stand", "sets"] sp_law_stands) (h_law_shuffled : Has P w K mg base TB 3 "_law_shuffled" ["state", "some"] sp_law_shuffled) (h_law_fault : Has P w K mg base TB 3 "_law_fault" ["library", "stand", "value"] sp_law_fault) (h_law_told : Has P w K mg base TB 7 "_law_told" ["library", "stand", "value", "by_name"] sp_law_told) (h_law_edges : Has P w K mg base TB 13 "_law_edges" ["state", "stand", "sets", "numbers"] sp_law_edges) (h_law_same : Has P w K mg base TB 3 "_law_same" ["told", "due"] sp_law_same) (h_law_spoilt : Has P w K mg base TB 12 "_law_spoilt" ["state", "value", "deep"] sp_law_spoilt) (h_law_take : Has P w K mg base TB 2 "_law_take" ["state", "limit"] sp_law_take)
    (hp : tlaw sp_law_world sp_law_stands sp_law_shuffled sp_law_fault sp_law_told sp_law_edges sp_law_same sp_law_spoilt sp_law_take { nx := fun _ => False, rt := fun r => r = .val (.bl true) } law0) :
    FnOk P w K mg base CX0 16 f fd ["script"] (spLaw K TB) := by
  obtain ⟨fS, fdS, FS, hmS, hkS, hbS⟩ := h_start.ex
  have nd := sclaw.nd
  refine F.ok sclaw (fun vs H Q E h => ?_) (fun cdv A outer s H vs Q E hr h => ⟨tSeq _ (tRestG K TB _), PSs.nox (pss_cons (rest := (defBody (top 36)).drop 1) (ps_set (i := 1) nd rfl (Or.inl rfl) (pe_call FS (hr.mono (by omega)) rfl hmS hkS hbS .nil pass0 (pa_cons (pe_var (i := 0) rfl (Or.inl rfl)) pa_nil)))
    (u := tRestG K TB (tlaw sp_law_world sp_law_stands sp_law_shuffled sp_law_fault sp_law_told sp_law_edges sp_law_same sp_law_spoilt sp_law_take))
    ⟨fun pins s1 σ H1 D I ⟨g, htb, h1⟩ => (bodylaw T h_law_world h_law_stands h_law_shuffled h_law_fault h_law_told h_law_edges h_law_same h_law_spoilt h_law_take cdv A outer s H E g htb hr).run pins s1 σ H1 D I h1⟩), ?_⟩)
  · obtain ⟨a, ns, rfl, _⟩ := h
    rfl
  · obtain ⟨a, ns, rfl, hs, hl, hT, q⟩ := h
    refine ⟨_, rfl, a, ns, rfl, hs, hl, hT, fun sa ca cs sd H' tab nP ne hsa hca => ?_⟩
    refine ⟨⟨H', sa :: ca :: TB, ⟨some (sa, ca), TB⟩⟩, rfl, [], law0, _, ?_, hp, ?_⟩
    · refine ⟨?_, by simp, fun b hb => by simp at hb, fun b o e _ => e, fun b hb => ?_, ?_⟩
      · refine .cons (A1 := []) (.un _) (.cons (A1 := []) (.st rfl) ?_)
        exact slots_un 11
      · rcases List.mem_cons.mp hb with rfl | hb
        · rw [hsa]; exact fun z => nomatch z
        · rcases List.mem_cons.mp hb with rfl | hb
          · rw [hca]; exact fun z => nomatch z
          · obtain ⟨ps, h1, _⟩ := tab b hb
            rw [h1]; exact fun z => nomatch z
      · refine ⟨fun s c e => ?_, fun P hP => List.mem_cons_of_mem _ (List.mem_cons_of_mem _ hP), fun s c e => ?_, fun s c e => ?_, fun s c e => ?_, fun s c e => ?_, tab⟩
        · cases e
          exact List.mem_cons_self ..
        · cases e
          exact ⟨fun s c e => by cases e; exact Ne.symm ne, fun z => (nP _ z).2 rfl⟩
        · cases e
          exact fun z => (nP _ z).1 rfl
        · cases e
          exact ⟨cs, .inl (.inl hca)⟩
        · cases e
          exact ⟨0, 0, 0, sd, 0, by decide, by decide, hsa⟩
    · exact ⟨fun _ q => q.elim, fun _ q => q.elim, fun _ q => q.elim, fun r e v H2 o rr => by
        subst e
        cases rr
        exact q H2, fun _ q => q.elim⟩
end
end K80


namespace OW
open PySem PySem.Spec PyProof.Rows L2
@[simp] theorem q_fnX {spec : SpecX} {Ex : D → Prop} {ta : TWa} {w : W} {Q : E → W → Prop} : eFnX spec Ex ta w Q = ta w fun xs w1 => okArgs xs ∧ spec xs (fun r => match r with
  | .val d => Q (.d d) w1
  | .new ys => Q (.d (.lst ys)) w1) Ex := rfl
end OW
namespace K80
open PySem PySem.Spec PyProof.Rows L2 OW
variable {Q : R → Prop} {es : List E}
/-! ### _law_told -/
def toldD (o : Option Int) : D := match o with
  | some k => .tup [.str "wrong", .int k]
  | none => .tup [.str "right", .non]
def outcomeOf (b : Lib) (s : Std) (v : D) : Option Int := outcome (memOf (entsL s ++ entsP b s)) s.day v
def sp_law_told : OW.Spec := fun es Q => ∃ (b : Lib) (s : Std) (v : D) (by_ : Bool), es = [.d (libD b), .d (stdD s), .d v, .d (.bl by_)] ∧ Fit b s ∧ (∀ xs, v = .tup xs → xs.length < 1000) ∧ Q (.val (toldD (outcomeOf b s v)))
theorem p_law_told (h : sp_law_told es Q) : t_law_told sp_check_sets { nx := fun _ => Q (.val .non), rt := Q } (startW 5 es) := by
  obtain ⟨b, s, v, by_, rfl, F, hv, q⟩ := h
  refine ⟨fun d => Q (.val (.tup [.str "wrong", d])), fun d h => h, ?_⟩
  have main : sp_check_sets [.d (libD b), .d (stdD s), .d v] (fun r => match r with
      | .val d => Q (.val (.tup [.str "right", d]))
      | .new ys => Q (.val (.tup [.str "right", .lst ys]))) (fun d => Q (.val (.tup [.str "wrong", d]))) := by
    refine ⟨b, s, v, rfl, F, hv, ?_⟩
    have q : Q (.val (toldD (outcome (memOf (entsL s ++ entsP b s)) s.day v))) := q
    cases e : outcome (memOf (entsL s ++ entsP b s)) s.day v with
    | none =>
      rw [e] at q
      exact q
    | some k =>
      rw [e] at q
      exact q
  simp [-q_fn, -q_iOf, -q_slice, q_fn2, q_iOf2, q_slice2, startW, toL, List.replicate]
  exact main
/-! ### law -/
def caseD (c : Std × D) : D := .tup [stdD c.1, c.2]
theorem sh_sets {ss : List (List Int × Int)} (h : SetsOk ss) : Sh 3 (setsD ss) := by
  refine .inr ⟨_, rfl, by rw [List.length_map]; exact Nat.le_trans h.few (by decide), fun x hx => ?_⟩
  obtain ⟨st, hst, rfl⟩ := List.mem_map.mp hx
  obtain ⟨h1, h2, h3⟩ := h.row st hst
  refine .inr ⟨_, rfl, (by decide : (2 : Nat) ≤ 20), fun y hy => ?_⟩
  rcases List.mem_cons.mp hy with rfl | hy
  · refine .inr ⟨_, rfl, by rw [List.length_map]; omega, fun z hz => ?_⟩
    obtain ⟨i, hi, rfl⟩ := List.mem_map.mp hz
    exact ⟨i, rfl, h2 i hi⟩
  · rcases List.mem_cons.mp hy with rfl | hy
    · exact .inl ⟨_, rfl, h3⟩
    · cases hy
theorem short_sets {ss : List (List Int × Int)} (h : SetsOk ss) : shortB (setsD ss) = true := decide_eq_true (by rw [List.length_map]; exact Nat.lt_of_le_of_lt h.few (by decide))
theorem mem_add {b : Lib} {cs : List (Std × D)} {s : Std} {v : D} (h : ∀ c ∈ cs, Fit b c.1 ∧ shortB c.2 = true) (F : Fit b s) (hv : shortB v = true) : ∀ c ∈ cs ++ [(s, v)], Fit b c.1 ∧ shortB c.2 = true := fun c hc => by
  rcases List.mem_append.mp hc with hc | hc
  · exact h c hc
  · simp at hc
    subst hc
    exact ⟨F, hv⟩
theorem p_law : tlaw sp_law_world sp_law_stands sp_law_shuffled sp_law_fault sp_law_told sp_law_edges sp_same1 (sp_spoilt 4) sp_law_take { nx := fun _ => False, rt := fun r => r = .val (.bl true) } law0 := by
  simp [-q_fn, -q_iOf, -q_slice, q_fn2, q_iOf2, q_slice2, tlaw, law0]
  refine ⟨rfl, fun b s ss nums F sok hn => ?_⟩
  simp [-q_fn, -q_iOf, -q_slice, q_fn2, q_iOf2, q_slice2]
  refine ⟨b, s, ss, nums, rfl, F, sok, hn, fun vs hl hs => ?_⟩
  simp [-q_fn, -q_iOf, -q_slice, q_fn2, q_iOf2, q_slice2]
  refine c_shuf hl fun ys hys => ?_
  simp [-q_fn, -q_iOf, -q_slice, q_fn2, q_iOf2, q_slice2]
  have c26 := cut_few (xs := ys) (k := 26) (by decide)
  have hsh : ∀ d ∈ OW.cutD ys none (some 26), shortB d = true := fun d hd => List.all_eq_true.mp hs d (hys.mem_iff.mp (cut_mem hd))
  generalize OW.cutD ys none (some 26) = vs2 at c26 hsh
  have c26 : vs2.length ≤ 26 := c26
  refine forW_ind (fun k w => ∃ (cs : List (Std × D)) (l3 : L), pl l3 = true ∧ (∀ c ∈ cs, Fit b c.1 ∧ shortB c.2 = true) ∧ cs.length ≤ 2 + k ∧ w = [.un, .st, .own (cs.map caseD), l3, .un, .un, .v (libD b), .v (stdD s), .v (setsD ss), .v (.lst (nums.map .int)), .un, .un, .un]) ⟨[(s, setsD ss), (s, setsD ss)], .un, rfl, fun c hc => by simp at hc; subst hc; exact ⟨F, short_sets sok⟩, by simp, rfl⟩ ?_ ?_
  · rintro k w x hx ⟨cs, l3, h3, hc, hcl, rfl⟩ N hN
    have hk := (List.getElem?_eq_some_iff.mp hx).1
    have hxs := hsh x (List.mem_of_getElem? hx)
    rw [q_gP rfl h3]
    simp [-q_fn, -q_iOf, -q_slice, q_fn2, q_iOf2, q_slice2]
    exact ⟨by omega, hN _ ⟨cs ++ [(s, x)], .v x, rfl, mem_add hc F hxs, by simp; omega, by simp [caseD]⟩⟩
  rintro w ⟨cs, l3, h3, hc, hcl, rfl⟩
  have hcl : cs.length ≤ 28 := by omega
  simp [-q_fn, -q_iOf, -q_slice, q_fn2, q_iOf2, q_slice2]
  refine ⟨b, s, setsD ss, rfl, F, fun ss' h6 hnear => ?_⟩
  simp [-q_fn, -q_iOf, -q_slice, q_fn2, q_iOf2, q_slice2]
  refine forW_ind (fun k w => ∃ (cs : List (Std × D)) (l4 : L), pl l4 = true ∧ (∀ c ∈ cs, Fit b c.1 ∧ shortB c.2 = true) ∧ cs.length ≤ 28 + k ∧ w = [.un, .st, .own (cs.map caseD), l3, l4, .un, .v (libD b), .v (stdD s), .v (setsD ss), .v (.lst (nums.map .int)), .un, .un, .un]) ⟨cs, .un, rfl, hc, hcl, rfl⟩ ?_ ?_
  · rintro k w x hx ⟨cs, l4, h4, hc, hcl, rfl⟩ N hN
    have hk := (List.getElem?_eq_some_iff.mp hx).1
    rw [List.length_map] at hk
    rw [List.getElem?_map] at hx
    obtain ⟨s', hs', rfl⟩ := Option.map_eq_some_iff.mp hx
    rw [q_gP rfl h4]
    simp [-q_fn, -q_iOf, -q_slice, q_fn2, q_iOf2, q_slice2]
    exact ⟨by omega, hN _ ⟨cs ++ [(s', setsD ss)], .v (stdD s'), rfl, mem_add hc (hnear s' (List.mem_of_getElem? hs') b F) (short_sets sok), by simp; omega, by simp [caseD]⟩⟩
  rintro w ⟨cs, l4, h4, hc, hcl, rfl⟩
  rw [List.length_map] at hcl
  have hcl : cs.length ≤ 34 := by omega
  simp [-q_fn, -q_iOf, -q_slice, q_fn2, q_iOf2, q_slice2]
  refine forW_ind (fun k w => ∃ (cs : List (Std × D)) (l5 : L), pl l5 = true ∧ (∀ c ∈ cs, Fit b c.1 ∧ shortB c.2 = true) ∧ cs.length ≤ 34 + k ∧ w = [.un, .st, .own (cs.map caseD), l3, l4, l5, .v (libD b), .v (stdD s), .v (setsD ss), .v (.lst (nums.map .int)), .un, .un, .un]) ⟨cs, .un, rfl, hc, hcl, rfl⟩ ?_ ?_
  · rintro k w x hx ⟨cs, l5, h5, hc, hcl, rfl⟩ N hN
    obtain ⟨rfl, hk⟩ := rg_get hx
    rw [q_gP rfl h5]
    simp [-q_fn, -q_iOf, -q_slice, q_fn2, q_iOf2, q_slice2]
    refine c_take (by decide) (by decide) fun r _ _ => ?_
    simp [-q_fn, -q_iOf, -q_slice, q_fn2, q_iOf2, q_slice2]
    refine ⟨setsD ss, _, rfl, sh_sets sok, fun v hv => ?_⟩
    simp [-q_fn, -q_iOf, -q_slice, q_fn2, q_iOf2, q_slice2]
    exact ⟨by omega, hN _ ⟨cs ++ [(s, v)], .v (.int k), rfl, mem_add hc F hv, by simp; omega, by simp [caseD]⟩⟩
  rintro w ⟨cs, l5, h5, hc, hcl, rfl⟩
  simp [-q_fn, -q_iOf, -q_slice, q_fn2, q_iOf2, q_slice2]
  refine forW_ind (fun k w => ∃ (l3 l10 l11 l12 : L), pl l3 = true ∧ pl l10 = true ∧ w = [.un, .st, .v (.lst (cs.map caseD)), l3, l4, l5, .v (libD b), .v (stdD s), .v (setsD ss), .v (.lst (nums.map .int)), l10, l11, l12]) ⟨l3, .un, .un, .un, h3, rfl, rfl⟩ ?_ ?_
  · rintro k w x hx ⟨l3, l10, l11, l12, h3, h10, rfl⟩ N hN
    rw [List.getElem?_map] at hx
    obtain ⟨⟨s', v⟩, hs', rfl⟩ := Option.map_eq_some_iff.mp hx
    obtain ⟨F', hv⟩ := hc _ (List.mem_of_getElem? hs')
    simp [-q_fn, -q_iOf, -q_slice, q_fn2, q_iOf2, q_slice2, caseD]
    rw [q_gP rfl h10]
    simp [-q_fn, -q_iOf, -q_slice, q_fn2, q_iOf2, q_slice2]
    rw [q_gP rfl h3]
    simp [-q_fn, -q_iOf, -q_slice, q_fn2, q_iOf2, q_slice2]
    refine ⟨b, s', v, rfl, F', short_len hv, ?_⟩
    simp [-q_fn, -q_iOf, -q_slice, q_fn2, q_iOf2, q_slice2]
    refine c_take (by decide) (by decide) fun r _ _ => ?_
    simp [-q_fn, -q_iOf, -q_slice, q_fn2, q_iOf2, q_slice2]
    refine ⟨b, s', v, _, rfl, F', short_len hv, ?_⟩
    unfold outcomeOf
    cases e : outcome (memOf (entsL s' ++ entsP b s')) s'.day v with
    | none =>
      simp [-q_fn, -q_iOf, -q_slice, q_fn2, q_iOf2, q_slice2, faultD, toldD, isNonD]
      refine ⟨_, rfl, by simp, fun x hx => ?_, rfl, hN _ ⟨_, _, _, _, rfl, rfl, rfl⟩⟩
      simp at hx
      rcases hx with rfl | rfl <;> rfl
    | some k =>
      simp [-q_fn, -q_iOf, -q_slice, q_fn2, q_iOf2, q_slice2, faultD, toldD, isNonD]
      refine ⟨_, rfl, by simp, fun x hx => ?_, rfl, hN _ ⟨_, _, _, _, rfl, rfl, rfl⟩⟩
      simp at hx
      rcases hx with rfl | rfl <;> rfl
  · rintro w ⟨l3, l10, l11, l12, h3, h10, rfl⟩
    simp [-q_fn, -q_iOf, -q_slice, q_fn2, q_iOf2, q_slice2]
end K80


namespace K80
open PySem PySem.Spec PyProof.Rows L2 OW
/-! ### what the head tells of the exception's class -/
def oexB (K : PySem.W.Frag) (C : Addr) : Bool := match K.lookup C with
  | some ⟨.type "type", _, .cls cd, sl⟩ => (match cd.mro, sl.toList with
    | .ref C' :: bm, [_, _, _, _, some (.builtin n), _] => C' == C && n == "ValueError.__new__" && !cd.hasDel && cd.hasDict && PySem.HandSPX.refsVE bm
    | _, _ => false)
  | _ => false
theorem oexB_ok {K : PySem.W.Frag} {C : Addr} (q : oexB K C = true) : ∃ nm q N bs bm sn sub ab col dd k0 k1 k2 k3 k5, K.lookup C = some (excClassObj nm q C N bs bm true sn sub ab col dd k0 k1 k2 k3 k5 "ValueError.__new__") ∧ PySem.HandSPX.refsVE bm = true := by
  unfold oexB at q
  split at q
  · rename_i dd cd sl ho
    split at q
    · rename_i C' bm k0 k1 k2 k3 n k5 hm hs
      simp only [Bool.and_eq_true, beq_iff_eq, Bool.not_eq_true'] at q
      obtain ⟨⟨⟨⟨rfl, rfl⟩, hdel⟩, hd⟩, ht⟩ := q
      obtain ⟨nm, bs, mro, ns, qn, hd', sn, sub, ab, col, del⟩ := cd
      dsimp only at hm hdel hd
      subst hm hdel hd
      have hsl : sl = #[k0, k1, k2, k3, some (.builtin "ValueError.__new__"), k5] := by
        obtain ⟨l⟩ := sl
        simp only at hs
        rw [hs]
      subst hsl
      exact ⟨nm, qn, ns, bs, bm, sn, sub, ab, col, dd, k0, k1, k2, k3, k5, ho, ht⟩
    · cases q
  · cases q
abbrev bC (K : PySem.W.Frag) : Addr := He.ga K "BadSets"
abbrev bI (K : PySem.W.Frag) : Addr := He.ma K (bC K) "__init__"
def exB (K : PySem.W.Frag) : Bool := oexB K (bC K) && (decide (PySem.W.findIn K (.ref (bC K)) "__setattr__" = some (some (.builtin "object.__setattr__"))) && (decide (PySem.W.subIn K (.ref (bC K)) (.type "BaseException") = some true) && (decide (PySem.W.typeIn K (.ref (bC K)) = some (.type "type")) && (PySem.W.keepIn K (.ref (bC K)) &&
  (xfB K (bC K) && (decide (PySem.W.findIn K (.ref (bC K)) "number" = some none) && (decide (PySem.W.findIn K (.ref (bC K)) "__init__" = some (some (.ref (bI K)))) && (decide (PySem.W.typeIn K (.ref (bI K)) = some (.type "function")) && decide (PySem.W.exmOne K (.ref (bC K)) (.ref (bC K)) = some true)))))))))
structure ExF (K : PySem.W.Frag) : Prop where
  o : OexC K (bC K)
  x : XfC K (bC K)
  no : PySem.W.findIn K (.ref (bC K)) "number" = some none
  ini : PySem.W.findIn K (.ref (bC K)) "__init__" = some (some (.ref (bI K)))
  tI : PySem.W.typeIn K (.ref (bI K)) = some (.type "function")
  exm : PySem.W.exmOne K (.ref (bC K)) (.ref (bC K)) = some true
theorem exB_ok {K : PySem.W.Frag} (h : exB K = true) : ExF K := by
  unfold exB at h
  simp only [Bool.and_eq_true, decide_eq_true_eq] at h
  obtain ⟨h1, h2, h3, h4, h5, h6, h7, h8, h9, h10⟩ := h
  exact ⟨⟨oexB_ok h1, h2, h3, h4, h5⟩, xfB_ok h6, h7, h8, h9, h10⟩
/-! ### the defs, by places -/
def d_init : He.DefD := ⟨("BadSets", some "__init__"), "__init__", "BadSets.__init__", defArgs (inClass (top 2) 0), defBody (inClass (top 2) 0), defScope (inClass (top 2) 0), [], []⟩
def d_is_number : He.DefD := ⟨("is_number", none), "is_number", "is_number", defArgs (top 4), defBody (top 4), defScope (top 4), [], []⟩
def d_number_in : He.DefD := ⟨("number_in", none), "number_in", "number_in", defArgs (top 5), defBody (top 5), defScope (top 5), [], []⟩
def d_is_tuple : He.DefD := ⟨("is_tuple", none), "is_tuple", "is_tuple", defArgs (top 6), defBody (top 6), defScope (top 6), [], []⟩
def d_ascends : He.DefD := ⟨("ascends", none), "ascends", "ascends", defArgs (top 7), defBody (top 7), defScope (top 7), [], []⟩
def d_members_of : He.DefD := ⟨("members_of", none), "members_of", "members_of", defArgs (top 9), defBody (top 9), defScope (top 9), [], []⟩
def d_told_fits : He.DefD := ⟨("told_fits", none), "told_fits", "told_fits", defArgs (top 10), defBody (top 10), defScope (top 10), [], []⟩
def d_is_set : He.DefD := ⟨("is_set", none), "is_set", "is_set", defArgs (top 11), defBody (top 11), defScope (top 11), [], []⟩
def d_check_sets : He.DefD := ⟨("check_sets", none), "check_sets", "check_sets", defArgs (top 12), defBody (top 12), defScope (top 12), [], []⟩
def d__law_mixed : He.DefD := ⟨("_law_mixed", none), "_law_mixed", "_law_mixed", defArgs (top 14), defBody (top 14), defScope (top 14), [], []⟩
def d__law_start : He.DefD := ⟨("_law_start", none), "_law_start", "_law_start", defArgs (top 15), defBody (top 15), defScope (top 15), [], []⟩
def d__law_take : He.DefD := ⟨("_law_take", none), "_law_take", "_law_take", defArgs (top 16), defBody (top 16), defScope (top 16), [], []⟩
def d__law_pick : He.DefD := ⟨("_law_pick", none), "_law_pick", "_law_pick", defArgs (top 17), defBody (top 17), defScope (top 17), [], []⟩
def d__law_shuffled : He.DefD := ⟨("_law_shuffled", none), "_law_shuffled", "_law_shuffled", defArgs (top 18), defBody (top 18), defScope (top 18), [], []⟩
def d__law_same : He.DefD := ⟨("_law_same", none), "_law_same", "_law_same", defArgs (top 19), defBody (top 19), defScope (top 19), [], []⟩
def d__law_is_int : He.DefD := ⟨("_law_is_int", none), "_law_is_int", "_law_is_int", defArgs (top 20), defBody (top 20), defScope (top 20), [], []⟩
def d__law_next : He.DefD := ⟨("_law_next", none), "_law_next", "_law_next", defArgs (top 21), defBody (top 21), defScope (top 21), [], []⟩
def d__law_nth : He.DefD := ⟨("_law_nth", none), "_law_nth", "_law_nth", defArgs (top 22), defBody (top 22), defScope (top 22), [], []⟩
def d__law_week : He.DefD := ⟨("_law_week", none), "_law_week", "_law_week", defArgs (top 23), defBody (top 23), defScope (top 23), [], []⟩
def d__law_book : He.DefD := ⟨("_law_book", none), "_law_book", "_law_book", defArgs (top 24), defBody (top 24), defScope (top 24), [], []⟩
def d__law_put : He.DefD := ⟨("_law_put", none), "_law_put", "_law_put", defArgs (top 25), defBody (top 25), defScope (top 25), [], []⟩
def d__law_leaf : He.DefD := ⟨("_law_leaf", none), "_law_leaf", "_law_leaf", defArgs (top 26), defBody (top 26), defScope (top 26), [], []⟩
def d__law_spoilt : He.DefD := ⟨("_law_spoilt", none), "_law_spoilt", "_law_spoilt", defArgs (top 27), defBody (top 27), defScope (top 27), [], []⟩
def d__law_members : He.DefD := ⟨("_law_members", none), "_law_members", "_law_members", defArgs (top 28), defBody (top 28), defScope (top 28), [], []⟩
def d__law_is_set : He.DefD := ⟨("_law_is_set", none), "_law_is_set", "_law_is_set", defArgs (top 29), defBody (top 29), defScope (top 29), [], []⟩
def d__law_fault : He.DefD := ⟨("_law_fault", none), "_law_fault", "_law_fault", defArgs (top 30), defBody (top 30), defScope (top 30), [], []⟩
def d__law_member : He.DefD := ⟨("_law_member", none), "_law_member", "_law_member", defArgs (top 31), defBody (top 31), defScope (top 31), [], []⟩
def d__law_world : He.DefD := ⟨("_law_world", none), "_law_world", "_law_world", defArgs (top 32), defBody (top 32), defScope (top 32), [], []⟩
def d__law_edges : He.DefD := ⟨("_law_edges", none), "_law_edges", "_law_edges", defArgs (top 33), defBody (top 33), defScope (top 33), [], []⟩
def d__law_stands : He.DefD := ⟨("_law_stands", none), "_law_stands", "_law_stands", defArgs (top 34), defBody (top 34), defScope (top 34), [], []⟩
def d__law_told : He.DefD := ⟨("_law_told", none), "_law_told", "_law_told", defArgs (top 35), defBody (top 35), defScope (top 35), [], []⟩
def d_law : He.DefD := ⟨("law", none), "law", "law", defArgs (top 36), defBody (top 36), defScope (top 36), [], []⟩
def fn : List He.DefD := [d_init, d_is_number, d_number_in, d_is_tuple, d_ascends, d_members_of, d_told_fits, d_is_set, d_check_sets, d__law_mixed, d__law_start, d__law_take, d__law_pick, d__law_shuffled, d__law_same, d__law_is_int, d__law_next, d__law_nth, d__law_week, d__law_book, d__law_put, d__law_leaf, d__law_spoilt, d__law_members, d__law_is_set, d__law_fault, d__law_member, d__law_world, d__law_edges, d__law_stands, d__law_told, d_law]
def fa1 : List He.Fa := [.glo "LibraryError", .glo "BadSets", .glo "is_number", .glo "number_in", .glo "is_tuple", .glo "ascends", .glo "members_of", .glo "told_fits", .glo "is_set", .glo "check_sets", .glo "_law_mixed", .glo "_law_start", .glo "_law_take", .glo "_law_pick", .glo "_law_shuffled", .glo "_law_same", .glo "_law_is_int", .glo "_law_next", .glo "_law_nth", .glo "_law_week", .glo "_law_book", .glo "_law_put", .glo "_law_leaf", .glo "_law_spoilt", .glo "_law_members", .glo "_law_is_set", .glo "_law_fault", .glo "_law_member", .glo "_law_world", .glo "_law_edges"]
def fa2 : List He.Fa := [.glo "_law_stands", .glo "_law_told", .glo "law", .free "len", .free "range", .free "isinstance", .free "tuple", .free "int", .free "list", .free "sorted", .free "any", .free "all", .free "abs", .free "str", .free "min", .free "bool"]
def fa : List He.Fa := fa1 ++ fa2
def loose : List Str := ["LibraryError", "BadSets", "is_number", "number_in", "is_tuple", "ascends", "members_of", "told_fits", "is_set", "check_sets", "_law_mixed", "_law_start", "_law_take", "_law_pick", "_law_shuffled", "_law_same", "_law_is_int", "_law_next", "_law_nth", "_law_week", "_law_book", "_law_put", "_law_leaf", "_law_spoilt", "_law_members", "_law_is_set", "_law_fault", "_law_member", "_law_world", "_law_edges", "_law_stands", "_law_told"]
def tf : List He.Defn := [("is_set", none), ("check_sets", none)]
abbrev Rw : PySem.W.OpenRow := PySem.W.OpenLaw.row PySem.Challenge.rw_earlyback_k80_sets_looked_at
abbrev hk : PySem.W.Hook := He.hookX 4 fa fn [] tf exB
def ob (s : PySem.W.SharedT) : He.AlX := He.obsX 4 fa fn [] tf exB (HandSHeadRun.getT s)
theorem ob_eq (s : PySem.W.SharedT) : ob s = hk.obs s.abs := He.obsX_eq (HandSHeadRun.getT_eq s)
theorem run (w : World) : HandSHeadRun.RunEq Rw (PySem.W.view Rw.prog [36]) hk ob 4000 loose w := by
  intro os
  kernel_rfl
end K80


namespace K80
open PySem PySem.Spec PyProof.Rows L2 OW
section
variable {P : Program} {w : World} {K : PySem.W.Frag} {mg : Str → Option Value} {base : Heap} {TB : List Addr}
theorem p_law_mixed {Q : R → Prop} {es : List E} (h : sp_law_mixed es Q) : t_law_mixed { nx := fun _ => Q (.val .non), rt := Q } (startW 4 es) := by
  obtain ⟨a, b, rfl, q⟩ := h
  simp [t_law_mixed, startW, toL, List.replicate]
  have r : ∀ x m : Int, 0 < m → 0 ≤ x % m ∧ x % m < m := fun x m h => ⟨Int.emod_nonneg x (by omega), Int.emod_lt_of_pos x h⟩
  obtain ⟨x0, x1⟩ := r (a * 48271 + b * 69621 + 97) 2147483647 (by decide)
  refine ⟨.inr (by decide), .inr (by decide), .inl (by decide), .inl ⟨by omega, by omega⟩, .inr (by decide), .inr (by decide), q _ (r _ _ (by decide)).1 ?_⟩
  have := (r (((a * 48271 + b * 69621 + 97) % 2147483647 * ((a * 48271 + b * 69621 + 97) % 2147483647 + 2 * b + 1) + b * 16807 + 31) % 2147483629 * 40692 + (a * 48271 + b * 69621 + 97) % 2147483647) 2147483587 (by decide)).2
  omega
theorem has_mono {j k : Nat} {x : Str} {ps : List Str} {sp : OW.Spec} (h : Has P w K mg base TB j x ps sp) (hk : j ≤ k) : Has P w K mg base TB k x ps sp := by
  obtain ⟨f, fd, F, a, b, c⟩ := h.ex
  exact ⟨f, fd, F.mono hk, a, b, c⟩
/-- a def that asks for what is never so -/
theorem has_none {k : Nat} {x : Str} {ps : List Str} {f : Addr} {fd : FuncData} {sp : OW.Spec} (hs : ∀ es Q, ¬ sp es Q) (hm : mg x = some (.ref f)) (hk : PySem.W.keepIn K (.ref f) = true) (hb : Binds K fd ps []) : Has P w K mg base TB k x ps sp :=
  ⟨f, fd, ⟨fun vs H Q E ⟨g, es, Q0, _, _, _, _, _, hsp, _⟩ => (hs es Q0 hsp).elim, fun A outer s H args us vs Q E _ _ _ _ ⟨g, es, Q0, _, _, _, _, _, hsp, _⟩ => (hs es Q0 hsp).elim⟩, hm, hk, hb⟩

theorem codeHd_tab {h : Heap} (X : K.In h) {p : He.Defn} (hd : PySem.W.codeHdIn K (He.cT K p).1 (He.cT K p).2 = true) : PySem.W.CodeHd h (He.cT K p).1 (He.cT K p).2 := PySem.W.codeHd_of_K X hd
end
/-- every def keeps its promise, at the head's heap -/
theorem lawAt {w : World} {K : PySem.W.Frag} {h : Heap} {mg : Str → Option Value} {fL : Addr} (X : K.In h) (G : h.Ns mainGlobals mg) (c : He.SaysX fa fn [] tf exB w h K) (hfa : mg ("law" : Str) = some (.ref fL)) : LamX.LawAtS PySem.Challenge.rw_earlyback_k80_sets_looked_at w K CX0 16 63 "script" mg fL h := by
  have D : He.SaysD fa fn K := c.t.d
  have EX := exB_ok c.more
  obtain ⟨fdis_number, Fis_number⟩ := D.def_ 1 (d := d_is_number) rfl
  obtain ⟨fdnumber_in, Fnumber_in⟩ := D.def_ 2 (d := d_number_in) rfl
  obtain ⟨fdis_tuple, Fis_tuple⟩ := D.def_ 3 (d := d_is_tuple) rfl
  obtain ⟨fdascends, Fascends⟩ := D.def_ 4 (d := d_ascends) rfl
  obtain ⟨fdmembers_of, Fmembers_of⟩ := D.def_ 5 (d := d_members_of) rfl
  obtain ⟨fdtold_fits, Ftold_fits⟩ := D.def_ 6 (d := d_told_fits) rfl
  obtain ⟨fdis_set, Fis_set⟩ := D.def_ 7 (d := d_is_set) rfl
  obtain ⟨fdcheck_sets, Fcheck_sets⟩ := D.def_ 8 (d := d_check_sets) rfl
  obtain ⟨fd_law_mixed, F_law_mixed⟩ := D.def_ 9 (d := d__law_mixed) rfl
  obtain ⟨fd_law_start, F_law_start⟩ := D.def_ 10 (d := d__law_start) rfl
  obtain ⟨fd_law_take, F_law_take⟩ := D.def_ 11 (d := d__law_take) rfl
  obtain ⟨fd_law_pick, F_law_pick⟩ := D.def_ 12 (d := d__law_pick) rfl
  obtain ⟨fd_law_shuffled, F_law_shuffled⟩ := D.def_ 13 (d := d__law_shuffled) rfl
  obtain ⟨fd_law_same, F_law_same⟩ := D.def_ 14 (d := d__law_same) rfl
  obtain ⟨fd_law_is_int, F_law_is_int⟩ := D.def_ 15 (d := d__law_is_int) rfl
  obtain ⟨fd_law_next, F_law_next⟩ := D.def_ 16 (d := d__law_next) rfl
  obtain ⟨fd_law_nth, F_law_nth⟩ := D.def_ 17 (d := d__law_nth) rfl
  obtain ⟨fd_law_week, F_law_week⟩ := D.def_ 18 (d := d__law_week) rfl
  obtain ⟨fd_law_book, F_law_book⟩ := D.def_ 19 (d := d__law_book) rfl
  obtain ⟨fd_law_put, F_law_put⟩ := D.def_ 20 (d := d__law_put) rfl
  obtain ⟨fd_law_leaf, F_law_leaf⟩ := D.def_ 21 (d := d__law_leaf) rfl
  obtain ⟨fd_law_spoilt, F_law_spoilt⟩ := D.def_ 22 (d := d__law_spoilt) rfl
  obtain ⟨fd_law_members, F_law_members⟩ := D.def_ 23 (d := d__law_members) rfl
  obtain ⟨fd_law_is_set, F_law_is_set⟩ := D.def_ 24 (d := d__law_is_set) rfl
  obtain ⟨fd_law_fault, F_law_fault⟩ := D.def_ 25 (d := d__law_fault) rfl
  obtain ⟨fd_law_member, F_law_member⟩ := D.def_ 26 (d := d__law_member) rfl
  obtain ⟨fd_law_world, F_law_world⟩ := D.def_ 27 (d := d__law_world) rfl
  obtain ⟨fd_law_edges, F_law_edges⟩ := D.def_ 28 (d := d__law_edges) rfl
  obtain ⟨fd_law_stands, F_law_stands⟩ := D.def_ 29 (d := d__law_stands) rfl
  obtain ⟨fd_law_told, F_law_told⟩ := D.def_ 30 (d := d__law_told) rfl
  obtain ⟨fdlaw, Flaw⟩ := D.def_ 31 (d := d_law) rfl
  obtain ⟨fdI, FI⟩ := D.def_ 0 (d := d_init) rfl
  have mLibraryError := He.glo_ok X G (D.fact 0 (f := .glo "LibraryError") rfl)
  have mBadSets := He.glo_ok X G (D.fact 1 (f := .glo "BadSets") rfl)
  have mis_number := He.glo_ok X G (D.fact 2 (f := .glo "is_number") rfl)
  have mnumber_in := He.glo_ok X G (D.fact 3 (f := .glo "number_in") rfl)
  have mis_tuple := He.glo_ok X G (D.fact 4 (f := .glo "is_tuple") rfl)
  have mascends := He.glo_ok X G (D.fact 5 (f := .glo "ascends") rfl)
  have mmembers_of := He.glo_ok X G (D.fact 6 (f := .glo "members_of") rfl)
  have mtold_fits := He.glo_ok X G (D.fact 7 (f := .glo "told_fits") rfl)
  have mis_set := He.glo_ok X G (D.fact 8 (f := .glo "is_set") rfl)
  have mcheck_sets := He.glo_ok X G (D.fact 9 (f := .glo "check_sets") rfl)
  have m_law_mixed := He.glo_ok X G (D.fact 10 (f := .glo "_law_mixed") rfl)
  have m_law_start := He.glo_ok X G (D.fact 11 (f := .glo "_law_start") rfl)
  have m_law_take := He.glo_ok X G (D.fact 12 (f := .glo "_law_take") rfl)
  have m_law_pick := He.glo_ok X G (D.fact 13 (f := .glo "_law_pick") rfl)
  have m_law_shuffled := He.glo_ok X G (D.fact 14 (f := .glo "_law_shuffled") rfl)
  have m_law_same := He.glo_ok X G (D.fact 15 (f := .glo "_law_same") rfl)
  have m_law_is_int := He.glo_ok X G (D.fact 16 (f := .glo "_law_is_int") rfl)
  have m_law_next := He.glo_ok X G (D.fact 17 (f := .glo "_law_next") rfl)
  have m_law_nth := He.glo_ok X G (D.fact 18 (f := .glo "_law_nth") rfl)
  have m_law_week := He.glo_ok X G (D.fact 19 (f := .glo "_law_week") rfl)
  have m_law_book := He.glo_ok X G (D.fact 20 (f := .glo "_law_book") rfl)
  have m_law_put := He.glo_ok X G (D.fact 21 (f := .glo "_law_put") rfl)
  have m_law_leaf := He.glo_ok X G (D.fact 22 (f := .glo "_law_leaf") rfl)
  have m_law_spoilt := He.glo_ok X G (D.fact 23 (f := .glo "_law_spoilt") rfl)
  have m_law_members := He.glo_ok X G (D.fact 24 (f := .glo "_law_members") rfl)
  have m_law_is_set := He.glo_ok X G (D.fact 25 (f := .glo "_law_is_set") rfl)
  have m_law_fault := He.glo_ok X G (D.fact 26 (f := .glo "_law_fault") rfl)
  have m_law_member := He.glo_ok X G (D.fact 27 (f := .glo "_law_member") rfl)
  have m_law_world := He.glo_ok X G (D.fact 28 (f := .glo "_law_world") rfl)
  have m_law_edges := He.glo_ok X G (D.fact 29 (f := .glo "_law_edges") rfl)
  have m_law_stands := He.glo_ok X G (D.fact 30 (f := .glo "_law_stands") rfl)
  have m_law_told := He.glo_ok X G (D.fact 31 (f := .glo "_law_told") rfl)
  have mlaw := He.glo_ok X G (D.fact 32 (f := .glo "law") rfl)
  have mlen := He.free_ok X G (D.fact 33 (f := .free "len") rfl)
  have mrange := He.free_ok X G (D.fact 34 (f := .free "range") rfl)
  have misinstance := He.free_ok X G (D.fact 35 (f := .free "isinstance") rfl)
  have mtuple := He.free_ok X G (D.fact 36 (f := .free "tuple") rfl)
  have mint := He.free_ok X G (D.fact 37 (f := .free "int") rfl)
  have mlist := He.free_ok X G (D.fact 38 (f := .free "list") rfl)
  have msorted := He.free_ok X G (D.fact 39 (f := .free "sorted") rfl)
  have many := He.free_ok X G (D.fact 40 (f := .free "any") rfl)
  have mall := He.free_ok X G (D.fact 41 (f := .free "all") rfl)
  have mabs := He.free_ok X G (D.fact 42 (f := .free "abs") rfl)
  have mstr := He.free_ok X G (D.fact 43 (f := .free "str") rfl)
  have mmin := He.free_ok X G (D.fact 44 (f := .free "min") rfl)
  have mbool := He.free_ok X G (D.fact 45 (f := .free "bool") rfl)
  have T : Blt mg := ⟨mlen, mrange, misinstance, mtuple, mint, mlist, msorted, many, mall, mabs, mstr, mmin, mbool⟩
  have e := hfa.symm.trans mlaw
  cases e
  have hbI : Binds K fdI ["self", "number"] [] := FI.bindsN (ps := ["self", "number"]) (fun _ _ _ _ _ _ us hl => match us, hl with | [_, _], _ => rfl)
  have scI : FnScope ["self", "number"] ["self", "number"] (defScope (inClass (top 2) 0)) := ⟨rfl, rfl, rfl, by decide +kernel, rfl, by decide +kernel, by decide +kernel⟩
  have hcs : ∀ p ∈ tf.map (He.cT K), ∃ q ∈ tf, p = He.cT K q := fun p hp => by
    obtain ⟨q, hq, e⟩ := List.mem_map.mp hp
    exact ⟨q, hq, e.symm⟩
  refine ⟨fdlaw, tf.map (He.cT K), spLaw K ((tf.map (He.cT K)).map (·.2)), fun p hp => ?_, fun p hp => ?_, fun p hp => ?_, fun s u => ?_, fun H a ns hl _ hH hS => ?_, fun base XB GB TBs => ?_⟩
  · obtain ⟨q, hq, rfl⟩ := hcs p hp
    exact c.empty q hq
  · obtain ⟨q, hq, rfl⟩ := hcs p hp
    exact c.out q hq
  · obtain ⟨q, hq, rfl⟩ := hcs p hp
    exact PySem.W.codeHd_of_K X (c.hd q hq)
  · exact FunD.bindsA (ps := ["script"]) Flaw (fun _ _ _ _ _ _ us hl => match us, hl with | [_], _ => rfl) s [u] rfl
  · refine ⟨a, ns, rfl, hS, by omega, fun P hP => ?_, fun _ => rfl⟩
    obtain ⟨p, hp, rfl⟩ := List.mem_map.mp hP
    exact ⟨#[], hH p hp, trivial⟩
  have tb1 := TBs (He.cT K ("is_set", none)) (by simp [tf])
  have tb2 := TBs (He.cT K ("check_sets", none)) (by simp [tf])
  have TB1 : GxR.TabB base mg (He.cT K ("is_set", none)).1 (He.cT K ("is_set", none)).2 := ⟨tb1.code, tb1.bm, tb1.gP⟩
  have TB2 : GxR.TabB base mg (He.cT K ("check_sets", none)).1 (He.cT K ("check_sets", none)).2 := ⟨tb2.code, tb2.bm, tb2.gP⟩
  have hP1 : (He.cT K ("is_set", none)).2 ∈ (tf.map (He.cT K)).map (·.2) := by simp [tf]
  have hP2 : (He.cT K ("check_sets", none)).2 ∈ (tf.map (He.cT K)).map (·.2) := by simp [tf]
  generalize (tf.map (He.cT K)).map (·.2) = TB at hP1 hP2
  have His_number : Has PySem.Challenge.rw_earlyback_k80_sets_looked_at.prog w K mg base TB 1 "is_number" ["value"] (sp_is_number) := ⟨_, _, def_ok Fis_number scis_number (by intro es Q h; repeat (first | (obtain ⟨rfl, _⟩ := h; rfl) | (obtain ⟨_, h⟩ := h))) (fun cdv A outer s H E g htb hr => bodyis_number T  cdv A outer s H E g htb hr) (fun es Q h => p_is_number h), mis_number, Fis_number.kp, Fis_number.bindsN (ps := ["value"]) (fun _ _ _ _ _ _ us hl => match us, hl with | [_], _ => rfl)⟩
  have Hnumber_in : Has PySem.Challenge.rw_earlyback_k80_sets_looked_at.prog w K mg base TB 2 "number_in" ["value", "low", "high"] (sp_in) := ⟨_, _, def_ok Fnumber_in scnumber_in (by intro es Q h; repeat (first | (obtain ⟨rfl, _⟩ := h; rfl) | (obtain ⟨_, h⟩ := h))) (fun cdv A outer s H E g htb hr => bodynumber_in T His_number cdv A outer s H E g htb hr) (fun es Q h => p_number_in h), mnumber_in, Fnumber_in.kp, Fnumber_in.bindsN (ps := ["value", "low", "high"]) (fun _ _ _ _ _ _ us hl => match us, hl with | [_, _, _], _ => rfl)⟩
  have His_tuple : Has PySem.Challenge.rw_earlyback_k80_sets_looked_at.prog w K mg base TB 1 "is_tuple" ["value", "size"] (sp_is_tuple) := ⟨_, _, def_ok Fis_tuple scis_tuple (by intro es Q h; repeat (first | (obtain ⟨rfl, _⟩ := h; rfl) | (obtain ⟨_, h⟩ := h))) (fun cdv A outer s H E g htb hr => bodyis_tuple T  cdv A outer s H E g htb hr) (fun es Q h => p_is_tuple h), mis_tuple, Fis_tuple.kp, Fis_tuple.bindsN (ps := ["value", "size"]) (fun _ _ _ _ _ _ us hl => match us, hl with | [_, _], _ => rfl)⟩
  have Hascends : Has PySem.Challenge.rw_earlyback_k80_sets_looked_at.prog w K mg base TB 1 "ascends" ["items"] (sp_ascends) := ⟨_, _, def_ok Fascends scascends (by intro es Q h; repeat (first | (obtain ⟨rfl, _⟩ := h; rfl) | (obtain ⟨_, h⟩ := h))) (fun cdv A outer s H E g htb hr => bodyascends T  cdv A outer s H E g htb hr) (fun es Q h => p_ascends h), mascends, Fascends.kp, Fascends.bindsN (ps := ["items"]) (fun _ _ _ _ _ _ us hl => match us, hl with | [_], _ => rfl)⟩
  have Hmembers_of : Has PySem.Challenge.rw_earlyback_k80_sets_looked_at.prog w K mg base TB 1 "members_of" ["library", "stand"] (sp_members_of) := ⟨_, _, def_ok Fmembers_of scmembers_of (by intro es Q h; repeat (first | (obtain ⟨rfl, _⟩ := h; rfl) | (obtain ⟨_, h⟩ := h))) (fun cdv A outer s H E g htb hr => bodymembers_of T  cdv A outer s H E g htb hr) (fun es Q h => p_members_of h), mmembers_of, Fmembers_of.kp, Fmembers_of.bindsN (ps := ["library", "stand"]) (fun _ _ _ _ _ _ us hl => match us, hl with | [_, _], _ => rfl)⟩
  have Htold_fits : Has PySem.Challenge.rw_earlyback_k80_sets_looked_at.prog w K mg base TB 1 "told_fits" ["member", "told"] (sp_told_fits) := ⟨_, _, def_ok Ftold_fits sctold_fits (by intro es Q h; repeat (first | (obtain ⟨rfl, _⟩ := h; rfl) | (obtain ⟨_, h⟩ := h))) (fun cdv A outer s H E g htb hr => bodytold_fits T  cdv A outer s H E g htb hr) (fun es Q h => p_told_fits h), mtold_fits, Ftold_fits.kp, Ftold_fits.bindsN (ps := ["member", "told"]) (fun _ _ _ _ _ _ us hl => match us, hl with | [_, _], _ => rfl)⟩
  have His_set : Has PySem.Challenge.rw_earlyback_k80_sets_looked_at.prog w K mg base TB 5 "is_set" ["members", "today", "value"] sp_is_set := ⟨_, _, def_okT (nm := ("is_set", none)) Fis_set rfl rfl scis_set (by intro es Q h; repeat (first | (obtain ⟨rfl, _⟩ := h; rfl) | (obtain ⟨_, h⟩ := h))) (fun A outer s H E g htb hr => bodyis_set TB1 hP1 T His_tuple Hnumber_in Hascends Htold_fits His_number A outer s H E g htb hr) (fun es Q h => p_is_set h), mis_set, Fis_set.kp, Fis_set.bindsN (ps := ["members", "today", "value"]) (fun _ _ _ _ _ _ us hl => match us, hl with | [_, _, _], _ => rfl)⟩
  have F1 : FnOk PySem.Challenge.rw_earlyback_k80_sets_looked_at.prog w K mg base CX0 1 (bI K) fdI ["self", "number"] (spInit (bC K) "number") := init_ok FI scI EX.o EX.no rfl (by intro _ _ _; rfl) (by decide) (by decide) (by first | exact Or.inl rfl | exact Or.inr (Or.inl rfl) | exact Or.inr (Or.inr rfl)) (by first | exact Or.inl rfl | exact Or.inr (Or.inl rfl) | exact Or.inr (Or.inr rfl))
  have hlen : ∀ es Q E, sp_check_sets es Q E → es.length = 3 := (by intro es Q E h; repeat (first | (obtain ⟨rfl, _⟩ := h; rfl) | (obtain ⟨_, h⟩ := h)))
  have Hcheck_sets : HasX PySem.Challenge.rw_earlyback_k80_sets_looked_at.prog w K mg base TB 6 "check_sets" ["library", "stand", "value"] (bC K) "number" sp_check_sets := ⟨_, _, def_okTX (nm := ("check_sets", none)) Fcheck_sets rfl rfl sccheck_sets hlen (fun A outer s H E g htb hr => bodycheck_sets TB2 hP2 EX.o EX.ini EX.tI F1 hbI mBadSets T Hmembers_of His_set A outer s H E g htb hr) (fun es Q E h => p_check_sets h), mcheck_sets, Fcheck_sets.kp, Fcheck_sets.bindsN (ps := ["library", "stand", "value"]) (fun _ _ _ _ _ _ us hl => match us, hl with | [_, _, _], _ => rfl), kbind0 Fcheck_sets (fun _ _ _ _ _ _ ws hl => match ws, hl with | [_, _, _], _ => rfl)⟩
  have H_law_mixed : Has PySem.Challenge.rw_earlyback_k80_sets_looked_at.prog w K mg base TB 1 "_law_mixed" ["number", "k"] (sp_law_mixed) := ⟨_, _, def_ok F_law_mixed sc_law_mixed (by intro es Q h; repeat (first | (obtain ⟨rfl, _⟩ := h; rfl) | (obtain ⟨_, h⟩ := h))) (fun cdv A outer s H E g htb hr => body_law_mixed T  cdv A outer s H E g htb hr) (fun es Q h => p_law_mixed h), m_law_mixed, F_law_mixed.kp, F_law_mixed.bindsN (ps := ["number", "k"]) (fun _ _ _ _ _ _ us hl => match us, hl with | [_, _], _ => rfl)⟩
  have H_law_take : Has PySem.Challenge.rw_earlyback_k80_sets_looked_at.prog w K mg base TB 2 "_law_take" ["state", "limit"] sp_law_take := ⟨_, _, take_ok F_law_take T H_law_mixed, m_law_take, F_law_take.kp, F_law_take.bindsN (ps := ["state", "limit"]) (fun _ _ _ _ _ _ us hl => match us, hl with | [_, _], _ => rfl)⟩
  have H_law_start : HasV PySem.Challenge.rw_earlyback_k80_sets_looked_at.prog w K mg base 2 "_law_start" ["script"] (spStart K TB) := ⟨_, _, start_ok F_law_start T H_law_mixed, m_law_start, F_law_start.kp, F_law_start.bindsN (ps := ["script"]) (fun _ _ _ _ _ _ us hl => match us, hl with | [_], _ => rfl)⟩
  have H_law_pick : Has PySem.Challenge.rw_earlyback_k80_sets_looked_at.prog w K mg base TB 3 "_law_pick" ["state", "some"] (sp_law_pick) := ⟨_, _, def_ok F_law_pick sc_law_pick (by intro es Q h; repeat (first | (obtain ⟨rfl, _⟩ := h; rfl) | (obtain ⟨_, h⟩ := h))) (fun cdv A outer s H E g htb hr => body_law_pick T H_law_take cdv A outer s H E g htb hr) (fun es Q h => p_law_pick h), m_law_pick, F_law_pick.kp, F_law_pick.bindsN (ps := ["state", "some"]) (fun _ _ _ _ _ _ us hl => match us, hl with | [_, _], _ => rfl)⟩
  have H_law_shuffled : Has PySem.Challenge.rw_earlyback_k80_sets_looked_at.prog w K mg base TB 3 "_law_shuffled" ["state", "some"] (sp_law_shuffled) := ⟨_, _, def_ok F_law_shuffled sc_law_shuffled (by intro es Q h; repeat (first | (obtain ⟨rfl, _⟩ := h; rfl) | (obtain ⟨_, h⟩ := h))) (fun cdv A outer s H E g htb hr => body_law_shuffled T H_law_take cdv A outer s H E g htb hr) (fun es Q h => p_law_shuffled h), m_law_shuffled, F_law_shuffled.kp, F_law_shuffled.bindsN (ps := ["state", "some"]) (fun _ _ _ _ _ _ us hl => match us, hl with | [_, _], _ => rfl)⟩
  have Hsame_ : Has PySem.Challenge.rw_earlyback_k80_sets_looked_at.prog w K mg base TB 0 "_law_same" ["told", "due"] (fun _ _ => False) := has_none (fun _ _ h => h) m_law_same F_law_same.kp (F_law_same.bindsN (ps := ["told", "due"]) (fun _ _ _ _ _ _ us hl => match us, hl with | [_, _], _ => rfl))
  have Hsame0 : Has PySem.Challenge.rw_earlyback_k80_sets_looked_at.prog w K mg base TB 1 "_law_same" ["told", "due"] (sp_same0) := ⟨_, _, def_ok F_law_same sc_law_same (by intro es Q h; repeat (first | (obtain ⟨rfl, _⟩ := h; rfl) | (obtain ⟨_, h⟩ := h))) (fun cdv A outer s H E g htb hr => body_law_same (by omega) T Hsame_ cdv A outer s H E g htb hr) (fun es Q h => p_same0 h), m_law_same, F_law_same.kp, F_law_same.bindsN (ps := ["told", "due"]) (fun _ _ _ _ _ _ us hl => match us, hl with | [_, _], _ => rfl)⟩
  have Hsame1 : Has PySem.Challenge.rw_earlyback_k80_sets_looked_at.prog w K mg base TB 2 "_law_same" ["told", "due"] (sp_same1) := ⟨_, _, def_ok F_law_same sc_law_same (by intro es Q h; repeat (first | (obtain ⟨rfl, _⟩ := h; rfl) | (obtain ⟨_, h⟩ := h))) (fun cdv A outer s H E g htb hr => body_law_same (by omega) T Hsame0 cdv A outer s H E g htb hr) (fun es Q h => p_same1 h), m_law_same, F_law_same.kp, F_law_same.bindsN (ps := ["told", "due"]) (fun _ _ _ _ _ _ us hl => match us, hl with | [_, _], _ => rfl)⟩
  have H_law_is_int : Has PySem.Challenge.rw_earlyback_k80_sets_looked_at.prog w K mg base TB 1 "_law_is_int" ["value", "low", "high"] (sp_in) := ⟨_, _, def_ok F_law_is_int sc_law_is_int (by intro es Q h; repeat (first | (obtain ⟨rfl, _⟩ := h; rfl) | (obtain ⟨_, h⟩ := h))) (fun cdv A outer s H E g htb hr => body_law_is_int T  cdv A outer s H E g htb hr) (fun es Q h => p_law_is_int h), m_law_is_int, F_law_is_int.kp, F_law_is_int.bindsN (ps := ["value", "low", "high"]) (fun _ _ _ _ _ _ us hl => match us, hl with | [_, _, _], _ => rfl)⟩
  have H_law_next : Has PySem.Challenge.rw_earlyback_k80_sets_looked_at.prog w K mg base TB 1 "_law_next" ["week", "day"] (sp_law_next) := ⟨_, _, def_ok F_law_next sc_law_next (by intro es Q h; repeat (first | (obtain ⟨rfl, _⟩ := h; rfl) | (obtain ⟨_, h⟩ := h))) (fun cdv A outer s H E g htb hr => body_law_next T  cdv A outer s H E g htb hr) (fun es Q h => p_law_next h), m_law_next, F_law_next.kp, F_law_next.bindsN (ps := ["week", "day"]) (fun _ _ _ _ _ _ us hl => match us, hl with | [_, _], _ => rfl)⟩
  have H_law_nth : Has PySem.Challenge.rw_earlyback_k80_sets_looked_at.prog w K mg base TB 2 "_law_nth" ["week", "day", "n"] (sp_law_nth) := ⟨_, _, def_ok F_law_nth sc_law_nth (by intro es Q h; repeat (first | (obtain ⟨rfl, _⟩ := h; rfl) | (obtain ⟨_, h⟩ := h))) (fun cdv A outer s H E g htb hr => body_law_nth T H_law_next cdv A outer s H E g htb hr) (fun es Q h => p_law_nth h), m_law_nth, F_law_nth.kp, F_law_nth.bindsN (ps := ["week", "day", "n"]) (fun _ _ _ _ _ _ us hl => match us, hl with | [_, _, _], _ => rfl)⟩
  have H_law_week : Has PySem.Challenge.rw_earlyback_k80_sets_looked_at.prog w K mg base TB 3 "_law_week" ["state"] (sp_law_week) := ⟨_, _, def_ok F_law_week sc_law_week (by intro es Q h; repeat (first | (obtain ⟨rfl, _⟩ := h; rfl) | (obtain ⟨_, h⟩ := h))) (fun cdv A outer s H E g htb hr => body_law_week T H_law_take cdv A outer s H E g htb hr) (fun es Q h => p_law_week h), m_law_week, F_law_week.kp, F_law_week.bindsN (ps := ["state"]) (fun _ _ _ _ _ _ us hl => match us, hl with | [_], _ => rfl)⟩
  have H_law_book : Has PySem.Challenge.rw_earlyback_k80_sets_looked_at.prog w K mg base TB 4 "_law_book" ["state", "many", "classes"] (sp_law_book) := ⟨_, _, def_ok F_law_book sc_law_book (by intro es Q h; repeat (first | (obtain ⟨rfl, _⟩ := h; rfl) | (obtain ⟨_, h⟩ := h))) (fun cdv A outer s H E g htb hr => body_law_book T H_law_pick H_law_week H_law_take cdv A outer s H E g htb hr) (fun es Q h => p_law_book h), m_law_book, F_law_book.kp, F_law_book.bindsN (ps := ["state", "many", "classes"]) (fun _ _ _ _ _ _ us hl => match us, hl with | [_, _, _], _ => rfl)⟩
  have Hput0 : Has PySem.Challenge.rw_earlyback_k80_sets_looked_at.prog w K mg base TB 0 "_law_put" ["value", "path", "new"] (sp_put 0) := has_none (fun _ _ h => h) m_law_put F_law_put.kp (F_law_put.bindsN (ps := ["value", "path", "new"]) (fun _ _ _ _ _ _ us hl => match us, hl with | [_, _, _], _ => rfl))
  have Hput1 : Has PySem.Challenge.rw_earlyback_k80_sets_looked_at.prog w K mg base TB 1 "_law_put" ["value", "path", "new"] (sp_put 1) := ⟨_, _, def_ok F_law_put sc_law_put (by intro es Q h; repeat (first | (obtain ⟨rfl, _⟩ := h; rfl) | (obtain ⟨_, h⟩ := h))) (fun cdv A outer s H E g htb hr => body_law_put (by omega) T Hput0 cdv A outer s H E g htb hr) (fun es Q h => p_law_put h), m_law_put, F_law_put.kp, F_law_put.bindsN (ps := ["value", "path", "new"]) (fun _ _ _ _ _ _ us hl => match us, hl with | [_, _, _], _ => rfl)⟩
  have Hput2 : Has PySem.Challenge.rw_earlyback_k80_sets_looked_at.prog w K mg base TB 2 "_law_put" ["value", "path", "new"] (sp_put 2) := ⟨_, _, def_ok F_law_put sc_law_put (by intro es Q h; repeat (first | (obtain ⟨rfl, _⟩ := h; rfl) | (obtain ⟨_, h⟩ := h))) (fun cdv A outer s H E g htb hr => body_law_put (by omega) T Hput1 cdv A outer s H E g htb hr) (fun es Q h => p_law_put h), m_law_put, F_law_put.kp, F_law_put.bindsN (ps := ["value", "path", "new"]) (fun _ _ _ _ _ _ us hl => match us, hl with | [_, _, _], _ => rfl)⟩
  have Hput3 : Has PySem.Challenge.rw_earlyback_k80_sets_looked_at.prog w K mg base TB 3 "_law_put" ["value", "path", "new"] (sp_put 3) := ⟨_, _, def_ok F_law_put sc_law_put (by intro es Q h; repeat (first | (obtain ⟨rfl, _⟩ := h; rfl) | (obtain ⟨_, h⟩ := h))) (fun cdv A outer s H E g htb hr => body_law_put (by omega) T Hput2 cdv A outer s H E g htb hr) (fun es Q h => p_law_put h), m_law_put, F_law_put.kp, F_law_put.bindsN (ps := ["value", "path", "new"]) (fun _ _ _ _ _ _ us hl => match us, hl with | [_, _, _], _ => rfl)⟩
  have Hput4 : Has PySem.Challenge.rw_earlyback_k80_sets_looked_at.prog w K mg base TB 4 "_law_put" ["value", "path", "new"] (sp_put 4) := ⟨_, _, def_ok F_law_put sc_law_put (by intro es Q h; repeat (first | (obtain ⟨rfl, _⟩ := h; rfl) | (obtain ⟨_, h⟩ := h))) (fun cdv A outer s H E g htb hr => body_law_put (by omega) T Hput3 cdv A outer s H E g htb hr) (fun es Q h => p_law_put h), m_law_put, F_law_put.kp, F_law_put.bindsN (ps := ["value", "path", "new"]) (fun _ _ _ _ _ _ us hl => match us, hl with | [_, _, _], _ => rfl)⟩
  have Hput5 : Has PySem.Challenge.rw_earlyback_k80_sets_looked_at.prog w K mg base TB 5 "_law_put" ["value", "path", "new"] (sp_put 5) := ⟨_, _, def_ok F_law_put sc_law_put (by intro es Q h; repeat (first | (obtain ⟨rfl, _⟩ := h; rfl) | (obtain ⟨_, h⟩ := h))) (fun cdv A outer s H E g htb hr => body_law_put (by omega) T Hput4 cdv A outer s H E g htb hr) (fun es Q h => p_law_put h), m_law_put, F_law_put.kp, F_law_put.bindsN (ps := ["value", "path", "new"]) (fun _ _ _ _ _ _ us hl => match us, hl with | [_, _, _], _ => rfl)⟩
  have H_law_put := has_mono Hput5 (show 5 ≤ 12 by decide)
  have H_law_leaf : Has PySem.Challenge.rw_earlyback_k80_sets_looked_at.prog w K mg base TB 4 "_law_leaf" ["state", "value"] (sp_law_leaf) := ⟨_, _, def_ok F_law_leaf sc_law_leaf (by intro es Q h; repeat (first | (obtain ⟨rfl, _⟩ := h; rfl) | (obtain ⟨_, h⟩ := h))) (fun cdv A outer s H E g htb hr => body_law_leaf T H_law_pick cdv A outer s H E g htb hr) (fun es Q h => p_law_leaf h), m_law_leaf, F_law_leaf.kp, F_law_leaf.bindsN (ps := ["state", "value"]) (fun _ _ _ _ _ _ us hl => match us, hl with | [_, _], _ => rfl)⟩
  have Hspo0 : Has PySem.Challenge.rw_earlyback_k80_sets_looked_at.prog w K mg base TB 4 "_law_spoilt" ["state", "value", "deep"] (sp_spoilt 0) := has_none (fun _ _ h => h) m_law_spoilt F_law_spoilt.kp (F_law_spoilt.bindsN (ps := ["state", "value", "deep"]) (fun _ _ _ _ _ _ us hl => match us, hl with | [_, _, _], _ => rfl))
  have Hspo1 : Has PySem.Challenge.rw_earlyback_k80_sets_looked_at.prog w K mg base TB 5 "_law_spoilt" ["state", "value", "deep"] (sp_spoilt 1) := ⟨_, _, def_ok F_law_spoilt sc_law_spoilt (by intro es Q h; repeat (first | (obtain ⟨rfl, _⟩ := h; rfl) | (obtain ⟨_, h⟩ := h))) (fun cdv A outer s H E g htb hr => body_law_spoilt (by omega) T H_law_take H_law_leaf H_law_pick Hspo0 cdv A outer s H E g htb hr) (fun es Q h => p_law_spoilt h), m_law_spoilt, F_law_spoilt.kp, F_law_spoilt.bindsN (ps := ["state", "value", "deep"]) (fun _ _ _ _ _ _ us hl => match us, hl with | [_, _, _], _ => rfl)⟩
  have Hspo2 : Has PySem.Challenge.rw_earlyback_k80_sets_looked_at.prog w K mg base TB 6 "_law_spoilt" ["state", "value", "deep"] (sp_spoilt 2) := ⟨_, _, def_ok F_law_spoilt sc_law_spoilt (by intro es Q h; repeat (first | (obtain ⟨rfl, _⟩ := h; rfl) | (obtain ⟨_, h⟩ := h))) (fun cdv A outer s H E g htb hr => body_law_spoilt (by omega) T H_law_take H_law_leaf H_law_pick Hspo1 cdv A outer s H E g htb hr) (fun es Q h => p_law_spoilt h), m_law_spoilt, F_law_spoilt.kp, F_law_spoilt.bindsN (ps := ["state", "value", "deep"]) (fun _ _ _ _ _ _ us hl => match us, hl with | [_, _, _], _ => rfl)⟩
  have Hspo3 : Has PySem.Challenge.rw_earlyback_k80_sets_looked_at.prog w K mg base TB 7 "_law_spoilt" ["state", "value", "deep"] (sp_spoilt 3) := ⟨_, _, def_ok F_law_spoilt sc_law_spoilt (by intro es Q h; repeat (first | (obtain ⟨rfl, _⟩ := h; rfl) | (obtain ⟨_, h⟩ := h))) (fun cdv A outer s H E g htb hr => body_law_spoilt (by omega) T H_law_take H_law_leaf H_law_pick Hspo2 cdv A outer s H E g htb hr) (fun es Q h => p_law_spoilt h), m_law_spoilt, F_law_spoilt.kp, F_law_spoilt.bindsN (ps := ["state", "value", "deep"]) (fun _ _ _ _ _ _ us hl => match us, hl with | [_, _, _], _ => rfl)⟩
  have Hspo4 : Has PySem.Challenge.rw_earlyback_k80_sets_looked_at.prog w K mg base TB 8 "_law_spoilt" ["state", "value", "deep"] (sp_spoilt 4) := ⟨_, _, def_ok F_law_spoilt sc_law_spoilt (by intro es Q h; repeat (first | (obtain ⟨rfl, _⟩ := h; rfl) | (obtain ⟨_, h⟩ := h))) (fun cdv A outer s H E g htb hr => body_law_spoilt (by omega) T H_law_take H_law_leaf H_law_pick Hspo3 cdv A outer s H E g htb hr) (fun es Q h => p_law_spoilt h), m_law_spoilt, F_law_spoilt.kp, F_law_spoilt.bindsN (ps := ["state", "value", "deep"]) (fun _ _ _ _ _ _ us hl => match us, hl with | [_, _, _], _ => rfl)⟩
  have H_law_spoilt := has_mono Hspo4 (show 8 ≤ 12 by decide)
  have H_law_members : Has PySem.Challenge.rw_earlyback_k80_sets_looked_at.prog w K mg base TB 1 "_law_members" ["library", "stand"] (sp_law_members) := ⟨_, _, def_ok F_law_members sc_law_members (by intro es Q h; repeat (first | (obtain ⟨rfl, _⟩ := h; rfl) | (obtain ⟨_, h⟩ := h))) (fun cdv A outer s H E g htb hr => body_law_members T  cdv A outer s H E g htb hr) (fun es Q h => p_law_members h), m_law_members, F_law_members.kp, F_law_members.bindsN (ps := ["library", "stand"]) (fun _ _ _ _ _ _ us hl => match us, hl with | [_, _], _ => rfl)⟩
  have H_law_is_set : Has PySem.Challenge.rw_earlyback_k80_sets_looked_at.prog w K mg base TB 2 "_law_is_set" ["value", "members", "day", "seen"] (sp_law_is_set) := ⟨_, _, def_ok F_law_is_set sc_law_is_set (by intro es Q h; repeat (first | (obtain ⟨rfl, _⟩ := h; rfl) | (obtain ⟨_, h⟩ := h))) (fun cdv A outer s H E g htb hr => body_law_is_set T H_law_is_int cdv A outer s H E g htb hr) (fun es Q h => p_law_is_set h), m_law_is_set, F_law_is_set.kp, F_law_is_set.bindsN (ps := ["value", "members", "day", "seen"]) (fun _ _ _ _ _ _ us hl => match us, hl with | [_, _, _, _], _ => rfl)⟩
  have H_law_fault : Has PySem.Challenge.rw_earlyback_k80_sets_looked_at.prog w K mg base TB 3 "_law_fault" ["library", "stand", "value"] (sp_law_fault) := ⟨_, _, def_ok F_law_fault sc_law_fault (by intro es Q h; repeat (first | (obtain ⟨rfl, _⟩ := h; rfl) | (obtain ⟨_, h⟩ := h))) (fun cdv A outer s H E g htb hr => body_law_fault T H_law_members H_law_is_set cdv A outer s H E g htb hr) (fun es Q h => p_law_fault h), m_law_fault, F_law_fault.kp, F_law_fault.bindsN (ps := ["library", "stand", "value"]) (fun _ _ _ _ _ _ us hl => match us, hl with | [_, _, _], _ => rfl)⟩
  have H_law_member : Has PySem.Challenge.rw_earlyback_k80_sets_looked_at.prog w K mg base TB 4 "_law_member" ["state", "book", "goal", "day", "told"] (sp_law_member) := ⟨_, _, def_ok F_law_member sc_law_member (by intro es Q h; repeat (first | (obtain ⟨rfl, _⟩ := h; rfl) | (obtain ⟨_, h⟩ := h))) (fun cdv A outer s H E g htb hr => body_law_member T H_law_pick H_law_nth H_law_next H_law_take cdv A outer s H E g htb hr) (fun es Q h => p_law_member h), m_law_member, F_law_member.kp, F_law_member.bindsN (ps := ["state", "book", "goal", "day", "told"]) (fun _ _ _ _ _ _ us hl => match us, hl with | [_, _, _, _, _], _ => rfl)⟩
  have H_law_world : Has PySem.Challenge.rw_earlyback_k80_sets_looked_at.prog w K mg base TB 5 "_law_world" ["state"] (sp_law_world) := ⟨_, _, def_ok F_law_world sc_law_world (by intro es Q h; repeat (first | (obtain ⟨rfl, _⟩ := h; rfl) | (obtain ⟨_, h⟩ := h))) (fun cdv A outer s H E g htb hr => body_law_world T H_law_book H_law_pick H_law_take H_law_shuffled H_law_member cdv A outer s H E g htb hr) (fun es Q h => p_law_world h), m_law_world, F_law_world.kp, F_law_world.bindsN (ps := ["state"]) (fun _ _ _ _ _ _ us hl => match us, hl with | [_], _ => rfl)⟩
  have H_law_edges : Has PySem.Challenge.rw_earlyback_k80_sets_looked_at.prog w K mg base TB 13 "_law_edges" ["state", "stand", "sets", "numbers"] (sp_law_edges) := ⟨_, _, def_ok F_law_edges sc_law_edges (by intro es Q h; repeat (first | (obtain ⟨rfl, _⟩ := h; rfl) | (obtain ⟨_, h⟩ := h))) (fun cdv A outer s H E g htb hr => body_law_edges T H_law_take H_law_shuffled H_law_put cdv A outer s H E g htb hr) (fun es Q h => p_law_edges h), m_law_edges, F_law_edges.kp, F_law_edges.bindsN (ps := ["state", "stand", "sets", "numbers"]) (fun _ _ _ _ _ _ us hl => match us, hl with | [_, _, _, _], _ => rfl)⟩
  have H_law_stands : Has PySem.Challenge.rw_earlyback_k80_sets_looked_at.prog w K mg base TB 13 "_law_stands" ["state", "stand", "sets"] (sp_law_stands) := ⟨_, _, def_ok F_law_stands sc_law_stands (by intro es Q h; repeat (first | (obtain ⟨rfl, _⟩ := h; rfl) | (obtain ⟨_, h⟩ := h))) (fun cdv A outer s H E g htb hr => body_law_stands T H_law_shuffled H_law_put cdv A outer s H E g htb hr) (fun es Q h => p_law_stands h), m_law_stands, F_law_stands.kp, F_law_stands.bindsN (ps := ["state", "stand", "sets"]) (fun _ _ _ _ _ _ us hl => match us, hl with | [_, _, _], _ => rfl)⟩
  have H_law_told : Has PySem.Challenge.rw_earlyback_k80_sets_looked_at.prog w K mg base TB 7 "_law_told" ["library", "stand", "value", "by_name"] sp_law_told := ⟨_, _, def_ok F_law_told sc_law_told (by intro es Q h; repeat (first | (obtain ⟨rfl, _⟩ := h; rfl) | (obtain ⟨_, h⟩ := h))) (fun cdv A outer s H E g htb hr => body_law_told T Hcheck_sets hlen EX.exm EX.x EX.no mBadSets cdv A outer s H E g htb hr) (fun es Q h => p_law_told h), m_law_told, F_law_told.kp, F_law_told.bindsN (ps := ["library", "stand", "value", "by_name"]) (fun _ _ _ _ _ _ us hl => match us, hl with | [_, _, _, _], _ => rfl)⟩
  exact law_ok Flaw T H_law_start H_law_world H_law_stands H_law_shuffled H_law_fault H_law_told H_law_edges (has_mono Hsame1 (show 2 ≤ 3 by decide)) H_law_spoilt H_law_take p_law
end K80
open PySem PySem.W PySem.Calls PyProof.Rows
theorem PySem.Challenge.cw_earlyback_k80_sets_looked_at_holds : PySem.Challenge.rw_earlyback_k80_sets_looked_at.Holds := by
  w_on; o_law
  refine HandSHeadRun.head_any (r := OpenLaw.row PySem.Challenge.rw_earlyback_k80_sets_looked_at) (q := view (OpenLaw.row PySem.Challenge.rw_earlyback_k80_sets_looked_at).prog [36]) (H := K80.hk) (ob := K80.ob) (M := 4000) (loose := K80.loose) (d := HandSHeadRun.topDef (OpenLaw.row PySem.Challenge.rw_earlyback_k80_sets_looked_at).prog 36) (kwd := []) K80.ob_eq
    (by kernel_rfl) (fun s => by kernel_rfl) K80.run (by kernel_rfl) (by kernel_rfl) (by kernel_rfl) (by rfl) (by first | assumption | decide +kernel) (by decide +kernel) ⟨rfl, rfl, rfl, rfl, rfl, by decide +kernel⟩ ?hw ?hc
  case hw => w_witness2
  case hc =>
    refine LamX.walk_ofTsE (l := PySem.Challenge.rw_earlyback_k80_sets_looked_at) (n := 63) (k := 16) (x := "script") (CX := fun _ => L2.CX0) rfl (by decide) (by kernel_rfl) ⟨rfl, by decide, by decide⟩ ?F (fun _ _ _ _ _ z => z)
    intro w mg fa h Y G hmg0
    obtain ⟨K, KX, c⟩ := Y
    have hmg : mg ("law" : PySem.Str) = some (.ref fa) := by
      have e : (HandSHeadRun.topDef (OpenLaw.row PySem.Challenge.rw_earlyback_k80_sets_looked_at).prog 36).name = ("law" : PySem.Str) := by kernel_rfl
      rw [← e]
      exact hmg0
    exact ⟨K, KX, K80.lawAt KX G c hmg⟩

