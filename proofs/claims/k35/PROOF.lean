import PyProof.Rows.All
import Wide.All
import OpenK.AllK
import Wide.FinOn
import HandS.ForMost
import HandS.AnyAll
import HandS.GenList
import HandS.EndTab
import HandS.EndOwn
import HandS.Wide
import HandS.IsInst
import HandS.Deep
import HandS.TupAny
import HandS.TupMul
import HandS.Star
import HandS.SetFor
import HandS.Strs
import KE.GoesMore
import HandS.Codes
import HandS.Flow
import HandS.Iter
import HandS.Style
import HandS.HeadWalk
import HandS.HeadHook4
import HandS.TupSets
import HandS.Head0
import HandS.Head1
import HandS.Head2
import HandS.HeadHook1
import HandS.HeadHook2
import HandS.HeadHook3
import PySem.Challenge.RW_chiefdeeds_k35_across_plain_namings
set_option Elab.async false
set_option linter.all false
set_option maxRecDepth 100000
set_option maxHeartbeats 0
namespace Cd
open PySem PySem.Spec PyProof.Rows L2 GxR GenW
abbrev Pins := List (Addr × Obj)
/-- the context in which a generator expression's block runs -/
abbrev gcx (X : Cx) (A : Around) (s : Shared) (H : Hp) (cenv : Env) (fp : List Addr) : Cx :=
  { X with A := A, s_0 := s, H_0 := H, env := cenv, outer := X.stack, stack := cenv :: X.stack, ex := fp, fn := fun _ => false, pn := [], xe := fun _ _ => False }
structure GOk (N : List Str) (sc scope : Scope) (own : List (Str × Nat)) : Prop where
  blk : BlkOk N sc scope own
  co : scope.isCoroutine = false
  dot : scope.names.lookup (".0" : Str) = some NameKind.local
  nocell : ∀ y ∈ scope.names, y.2 ≠ .cell
theorem over_gl {A : Around} {elt : Expr} {gs : List Comprehension} {scope : Scope} {pos : Pos} {it acc : Value} {env : Env} :
    A.over (.compLoop (.GeneratorExp elt gs scope pos) 0 it acc env) [] = A.deeper env := by
  first
    | rfl
    | (obtain ⟨hd, d, fr, gs, u⟩ := A; simp [Around.over, Around.deeper, marksOver, frameCount, unitsOf, envsOf, guardsOf, pushEnvs, pushGuards, Code.envs, Code.env?, Code.isFrame, Code.guards, Code.isGuard, Code.weight, Code.frames, Code.isCreation, Code.isCaller, Code.cUnits]; rfl)
theorem over_gs {A : Around} {elt : Expr} {gs : List Comprehension} {scope : Scope} {pos : Pos} {it acc : Value} {env : Env} :
    A.over (.compStart (.GeneratorExp elt gs scope pos) 0 it acc env) [] = A.deeper env := by
  first
    | rfl
    | (obtain ⟨hd, d, fr, gs, u⟩ := A; simp [Around.over, Around.deeper, marksOver, frameCount, unitsOf, envsOf, guardsOf, pushEnvs, pushGuards, Code.envs, Code.env?, Code.isFrame, Code.guards, Code.isGuard, Code.weight, Code.frames, Code.isCreation, Code.isCaller, Code.cUnits]; rfl)
theorem gen_start {X : Cx} {pins : Pins} {σ : L2.St} {H : Hp} {s s' : Shared} {scope : Scope} {own : List (Str × Nat)} {fp : List Addr} {A : Around} {code : Value} {cenv : Env}
    (I : Inv X pins σ H s) (ok : GOk X.N X.env.scope scope own) (hN : X.N.Nodup) (hfp : ∀ b ∈ fp, FpOk X pins H b ∧ b < s.heap.objs.size)
    (hc : cenv = genEnv scope (cloFrom X.env.cells scope.names []) s.heap.objs.size code builtinsNs X.env)
    (hA : A.handled = none) (hfr : A.frames = some (cenv :: X.stack)) (hos : s'.os = s.os) (hb : AllBare s'.gens)
    (kp : ∀ b o, s.heap.get? b = some o → s'.heap.get? b = some o) (hns : ∃ m, s'.heap.Ns s.heap.objs.size m) :
    Inv (gcx X A s H cenv fp) [] (wipe σ (own.map (·.2))) H s' := by
  have hfree : ∀ y ∈ scope.names, y.2 = .free → ∃ c, X.env.cells.lookup y.1 = some c := fun y hy e =>
    (ok.blk.free y hy e).elim (fun k => I.ok.has _ (.inl k)) fun k => I.ok.has _ (.inr k)
  have cells : cenv.cells = cloFrom X.env.cells scope.names [] := by rw [hc]; rfl
  have hsc : cenv.scope = scope := by rw [hc]; rfl
  have hL : cenv.locals = s.heap.objs.size := by rw [hc]; rfl
  have cm : ∀ {y c}, cenv.cells.lookup y = some c → X.env.cells.lookup y = some c := fun {y c} e => by
    rw [cells] at e
    rcases cloFrom_mem (PySem.mem_of_lookup e) with z | ⟨z, e2⟩
    · cases z
    · obtain ⟨c', hc'⟩ := hfree _ z rfl
      rw [e2, hc']; rfl
  have okB : (gcx X A s H cenv fp).Ok := by
    refine ⟨I.ok.mod, ?_, ?_, ?_, ?_, ?_, ?_, ?_, fun _ => hA, hfr, .inr ⟨rfl, ?_⟩, ?_, I.bs, Nat.le_trans I.ok.bsz I.sz, ?_, ?_, I.stack, I.stkFree⟩
    · show cenv.scope.kind = _; rw [hsc]; exact ok.blk.kind
    · show cenv.globals = _; rw [hc]; exact I.ok.glob
    · show cenv.builtins = _; rw [hc]; rfl
    · show s.heap.objs.size ≤ cenv.locals; rw [hL]; exact Nat.le_refl _
    · intro x y c e1 e2; exact I.ok.inj x y c (cm e1) (cm e2)
    · intro x hx
      show ∃ c, cenv.cells.lookup x = some c
      have h2 : scope.names.lookup x = some .cell ∨ scope.names.lookup x = some .free := by
        have h3 : cenv.scope.names.lookup x = some .cell ∨ cenv.scope.names.lookup x = some .free := hx
        rw [hsc] at h3; exact h3
      rcases h2 with h2 | h2
      · exact absurd rfl (ok.nocell _ (PySem.mem_of_lookup h2))
      · obtain ⟨c, hcc⟩ := mem_lookup (cloFrom_has (cells := X.env.cells) (acc := []) (PySem.mem_of_lookup h2))
        exact ⟨c, by rw [cells]; exact hcc⟩
    · intro x c z; cases z
    · show cenv.frame = some cenv.locals; rw [hc]; rfl
    · intro b hb
      refine ⟨by show b ≠ cenv.locals; rw [hL]; exact Nat.ne_of_lt (hfp b hb).2, fun x c e z => ?_⟩
      exact (hfp b hb).1.2.2.2.2.1 x c (cm e) z
    · intro b o e hb
      rcases (hfp b hb).1.2.2.2.1 with z | z
      · exact I.ok.noex b o e z
      · exact absurd (Nat.lt_of_lt_of_le (Heap.lt_size e) (Nat.le_trans I.ok.bsz z)) (Nat.lt_irrefl _)
    · intro b hb z
      rcases List.mem_cons.mp (I.stkSub b z) with z | z
      · exact (hfp b hb).1.2.1 z
      · exact (hfp b hb).1.2.2.1 z
  obtain ⟨m, hm⟩ := hns
  refine ⟨okB, hos, hb, Un.kept kp, ⟨m, by show s'.heap.Ns cenv.locals m; rw [hL]; exact hm, fun i y v e1 e2 e3 => ?_⟩, fun x c e => ?_, ?_, fun x c e => I.freeC x c (cm e), fun p hp => absurd (show p ∈ ([] : Pins) ++ [] from hp) (by simp), I.hok.kept kp, by rw [wipe_length]; exact I.len⟩
  · obtain ⟨e2, hne⟩ := wipe_some e2
    have e3 : Vis cenv.scope y := e3
    rw [hsc] at e3
    have hfr2 : scope.names.lookup y = some .free := by
      rcases e3 with e3 | e3 | e3
      · exfalso
        rcases ok.blk.own _ (PySem.mem_of_lookup e3) (.inl rfl) with e' | e'
        · obtain ⟨p, hp, hpy⟩ := List.mem_map.mp e'
          have e4 := ok.blk.ix p hp
          rw [show p.1 = y from hpy] at e4
          exact hne (List.mem_map.mpr ⟨p, hp, nodup_ix hN e4 e1⟩)
        · exact e' (List.mem_of_getElem? e1)
      · exact absurd rfl (ok.nocell _ (PySem.mem_of_lookup e3))
      · exact e3
    obtain ⟨m0, hn, hl⟩ := I.loc
    have hvis : Vis X.env.scope y := (ok.blk.free _ (PySem.mem_of_lookup hfr2) rfl).elim (fun k => .inr (.inl k)) (fun k => .inr (.inr k))
    obtain ⟨u, r, q⟩ := hl i y v e1 e2 hvis
    refine ⟨u, r, .inr ⟨.inr (by show cenv.scope.names.lookup y = _; rw [hsc]; exact hfr2), ?_⟩⟩
    obtain ⟨c, hcc⟩ := mem_lookup (cloFrom_has (cells := X.env.cells) (acc := []) (PySem.mem_of_lookup hfr2))
    rw [← cells] at hcc
    rcases q with ⟨k, _⟩ | ⟨_, c', e', z⟩
    · have k : X.env.scope.names.lookup y = some .local := k
      rcases ok.blk.free _ (PySem.mem_of_lookup hfr2) rfl with k' | k' <;> (rw [show X.env.scope.names.lookup y = _ from k'] at k; cases k)
    · have := cm hcc
      rw [this] at e'; cases e'
      exact ⟨c, hcc, z.keeps kp⟩
  · obtain ⟨v, z⟩ := I.cell x c (cm e)
    exact ⟨v, z.keeps kp⟩
  · show H cenv.locals = none
    rw [hL]; exact I.hok.fresh (Nat.le_refl _)
/-- what a consumer does between two items -/
def Stp (s : Shared) (H : Hp) (s' : Shared) (H' : Hp) : Prop := ∀ (X : Cx) (pins : Pins) (σ : L2.St), Inv X pins σ H s → Inv X pins σ H' s'
def GYx (X : Cx) (pins : Pins) (σ : L2.St) (a : Addr) (g T : Nat) (Z : Nat → V → Hp → (Hp → Prop) → Prop) : Protocol := fun n _ v s kap =>
  ∃ (j : Nat) (y : V) (H4 : Hp) (N : Hp → Prop), n + j + 1 = T ∧ RelV y v ∧ Inv X pins σ H4 s ∧ s.heap.IsGen a g ∧ Z j y H4 N ∧ ∀ s' H', N H' → Stp s H4 s' H' → kap (.send .none) s'
def GFx (X : Cx) (pins : Pins) (σ : L2.St) (a : Addr) (g : Nat) (End : Hp → Prop) : Nat → Shared → Shared → Prop := fun n _ s => n = 0 ∧ ∃ H5, Inv X pins σ H5 s ∧ s.heap.IsGen a g ∧ End H5
def GEx (X : Cx) (pins : Pins) (σ : L2.St) (a : Addr) (g : Nat) (End : Hp → Prop) : GenEnd := fun n s₀ r s₁ =>
  ((r = .ok (.ret .none) ∨ r = .ok .next) ∧ GFx X pins σ a g End n s₀ s₁) ∨ ∃ e, r = .error e ∧ (fun (_ : Value) (_ : Shared) => False) e s₁
/-- one turn's reading -/
def GTurn (J : It) (W : Nat → Nat → Nat → Hp → Prop) (σ : L2.St) (vs : List Nat) (gt : TG) (tt : TT) (te : TE) (T : Nat) (Z : Nat → V → Hp → (Hp → Prop) → Prop) (End : Hp → Prop) : Prop :=
  ∀ i m j H, W i m j H → (J.stop i H ∧ j = T ∧ End H) ∨ (J.go i H ∧ ∃ Nx : Nat → Hp → Prop, (∀ j' H', Nx j' H' → ∃ m', m' < m ∧ W (i + 1) m' j' H') ∧
    ∀ x H', J.yld i H x H' → gt x (wipe σ vs) H' fun σ2 H2 => wipe σ2 vs = wipe σ vs ∧ tt σ2 H2 fun b H3 => if b = true then te σ2 H3 fun y H4 => j < T ∧ Z j y H4 (Nx (j + 1)) else Nx j H3)
theorem seg_gx {X : Cx} {A : Around} {s3 : Shared} {H3 : Hp} {cenv : Env} {fp : List Addr} {pins : Pins} {σ : L2.St} {vs : List Nat} {elt tg iter : Expr} {ifs : List Expr} {scope : Scope} {pos : Pos}
    {gt : TG} {tt : TT} {te : TE} {J : It} {it a : Addr} {g : Nat} {go : Obj} {tn : Nat → Heap → Prop} {W : Nat → Nat → Nat → Hp → Prop} {T : Nat} {Z : Nat → V → Hp → (Hp → Prop) → Prop} {End : Hp → Prop}
    (I3 : Inv X pins σ H3 s3) (f3 : ∀ b ∈ fp, FpOk X pins H3 b) (hc : X.calm = true) (haf : a ∉ fp)
    (pg : PG (gcx X (A.deeper cenv) s3 H3 cenv fp) tg gt) (pt : PTs (gcx X (A.deeper cenv) s3 H3 cenv fp) ifs tt) (pe : PE (gcx X (A.deeper cenv) s3 H3 cenv fp) elt te)
    (Tn : Turn X.prog X.w X.K tg J fp it tn) (hco : cenv.scope.isCoroutine = false) (hgo : ∀ h : Heap, h.get? a = some go → h.IsGen a g)
    (turn : GTurn J W σ vs gt tt te T Z End) :
    ∀ (m n i j : Nat) (H5 : Hp) (s5 s₀ : Shared), W i m j H5 → Inv (gcx X (A.deeper cenv) s3 H3 cenv fp) [(a, go)] (wipe σ vs) H5 s5 → tn i s5.heap → (∀ b ∈ fp, H5 b = none) → n + j = T →
      Seg (model X.prog X.w) A (GEx X pins σ a g End) (GYx X pins σ a g T Z) n s₀ (.compLoop (.GeneratorExp elt [⟨tg, iter, ifs, 0⟩] scope pos) 0 (.ref it) .none cenv)
        ((model X.prog X.w).den (.compLoop (.GeneratorExp elt [⟨tg, iter, ifs, 0⟩] scope pos) 0 (.ref it) .none cenv)) [] s5 := by
  have back : ∀ {H' : Hp} {s' : Shared} {pins' : Pins} {σ' : L2.St}, Inv (gcx X (A.deeper cenv) s3 H3 cenv fp) pins' σ' H' s' → Inv X pins σ H' s' := fun {H' s' pins' σ'} I' =>
    I3.call' (ch := fp) I'.os I'.base I'.hok I'.bare fun b hb => ⟨(f3 b hb).2.2.2.1, (f3 b hb).2.1, (f3 b hb).2.2.2.2.1, (f3 b hb).2.2.2.2.2⟩
  have stat : ∀ {σ' : L2.St} {H' : Hp} {s' : Shared}, Inv (gcx X (A.deeper cenv) s3 H3 cenv fp) [(a, go)] σ' H' s' → (∀ b ∈ fp, H' b = none) → ∀ b ∈ fp, FpOk (gcx X (A.deeper cenv) s3 H3 cenv fp) [(a, go)] H' b := fun {σ' H' s'} I' hn b hb =>
    ⟨hn b hb, (I'.ok.exf b hb).1, I'.ok.exfs b hb, .inl hb, fun x c e => (I'.ok.exf b hb).2 x c e, fun p hp => by
      rcases List.mem_append.mp hp with z | z
      · exact absurd z (by simp)
      · rw [List.mem_singleton.mp z]; exact fun q => haf (by rw [show a = b from q]; exact hb)⟩
  have gen : ∀ {H' : Hp} {s' : Shared} {pl : Pins} {σ' : L2.St}, Inv (gcx X (A.deeper cenv) s3 H3 cenv fp) ([(a, go)] ++ pl) σ' H' s' → s'.heap.IsGen a g := fun {H' s' pl σ'} I' =>
    hgo _ (I'.pin (a, go) (List.mem_append_right _ (List.mem_append_left _ (List.mem_singleton.mpr rfl)))).1
  intro m
  induction m using Nat.strongRecOn with
  | ind m ih =>
    intro n i j H5 s5 s₀ w5 I5 st5 n5 hn
    show Seg _ A _ _ _ s₀ _ ((compTurn (.GeneratorExp elt [⟨tg, iter, ifs, 0⟩] scope pos) 0 (.ref it) .none cenv).onRaise (leaving cenv)) [] s5
    rw [compTurn_gen, Sem.onRaise_eq_wrap]; refine seg_bind_wrap (wpAny_standAt ?_)
    rcases turn i m j H5 w5 with ⟨stop, hj, he⟩ | ⟨gg, Nx, hNx, step⟩
    · have td := Tn.done (gcx X (A.deeper cenv) s3 H3 cenv fp) rfl rfl rfl hc i [(a, go)] s5 _ H5 (fun _ _ => False) I5 (stat I5 n5) st5 stop
      refine seg_bind_wrap ?_
      rw [over_gl]
      refine thnF td fun r s6 ⟨hr, I6⟩ => ?_
      subst hr
      exact seg_end (.ok .next) (.inl ⟨.inr rfl, by omega, H5, back I6, gen (pl := []) I6, he⟩)
    · have ti := Tn.item (gcx X (A.deeper cenv) s3 H3 cenv fp) rfl rfl rfl hc i [(a, go)] s5 _ H5 (fun _ _ => False) I5 (stat I5 n5) st5 gg
      refine seg_bind_wrap ?_
      rw [over_gl]
      refine thnF ti fun r s6 ⟨u, hr, h6⟩ => ?_
      subst hr
      refine seg_bind_wrap ?_
      rw [over_gl]
      refine thnF h6 fun _ s7 ⟨x, H7, I7, r7, y7, st7, n7⟩ => ?_
      have I7' := I7.pinned (stat I7 n7) (Tn.obj _ _ st7)
      refine seg_bind_wrap ?_
      rw [over_gl]
      refine thnF (pg.run _ s7 _ H7 x u _ I7' r7 (step x H7 y7)) fun _ s8 ⟨σ8, H8, I8, hw8, q8⟩ => ?_
      refine seg_bind_wrap ?_
      rw [over_gl]
      refine thnF (pt.run _ s8 σ8 H8 _ I8 q8) fun b s9 ⟨H9, I9, q9⟩ => ?_
      have fin : ∀ {s' : Shared} {H' : Hp} {n' j' : Nat} {s0' : Shared}, Inv (gcx X (A.deeper cenv) s3 H3 cenv fp) ([(a, go)] ++ pinsAt fp s7.heap) σ8 H' s' → Nx j' H' → n' + j' = T →
          Seg (model X.prog X.w) A (GEx X pins σ a g End) (GYx X pins σ a g T Z) n' s0' (.compLoop (.GeneratorExp elt [⟨tg, iter, ifs, 0⟩] scope pos) 0 (.ref it) .none cenv)
            ((model X.prog X.w).den (.compLoop (.GeneratorExp elt [⟨tg, iter, ifs, 0⟩] scope pos) 0 (.ref it) .none cenv)) [] s' := fun {s' H' n' j' s0'} I' nx hn' => by
        obtain ⟨m', hm, w'⟩ := hNx j' H' nx
        have pin' : ∀ b ∈ fp, ∀ o, s7.heap.get? b = some o → s'.heap.get? b = some o ∧ H' b = none := fun b hb o e =>
          let z := I'.pin (b, o) (List.mem_append_right _ (List.mem_append_right _ (mem_pinsAt hb e)))
          ⟨z.1, z.2.1⟩
        have hl : (wipe σ vs).length = σ8.length := by rw [← hw8, wipe_length]
        refine ih m' hm n' (i + 1) j' H' s' s0' w' (I'.unpinned.weak hl fun q v e => ?_) (Tn.keep _ _ _ st7 fun b hb o e => (pin' b hb o e).1) (fun b hb => ?_) hn'
        · rw [← hw8] at e
          exact (wipe_some e).1
        · obtain ⟨o, e, _⟩ := Tn.obj _ _ st7 b hb
          exact (pin' b hb o e).2
      cases b with
      | false =>
        simp only [Bool.false_eq_true, if_false] at q9 ⊢
        exact seg_again rfl (fin I9 q9 hn)
      | true =>
        simp only [if_true] at q9 ⊢
        have hy : ∀ v, yieldOut cenv v = yieldValue v := fun v => by simp only [yieldOut, hco, Bool.false_eq_true, if_false]
        simp only [hy]
        rw [Sem.bind_eq_wrap', Sem.bind_eq_wrap', Sem.wrap_wrap, Sem.wrap_wrap]; refine seg_wrap ?_
        rw [over_gl]
        refine thnF (pe.run _ s9 σ8 H9 _ I9 q9) fun z s10 ⟨yv, H10, I10, r10, hj, hz⟩ => ?_
        obtain ⟨n', rfl⟩ : ∃ n', n = n' + 1 := ⟨n - 1, by omega⟩
        refine seg_at (seg_yield rfl rfl rfl ⟨j, yv, H10, Nx (j + 1), by omega, r10, back I10, gen I10, hz, fun s' H' nx stp => ?_⟩)
        exact seg_again rfl (fin (stp _ _ _ I10) nx (by omega))
theorem seg_gs {X : Cx} {A : Around} {cenv : Env} {elt tg iter : Expr} {ifs : List Expr} {scope : Scope} {pos : Pos} {J : It} {it : Addr} {fp : List Addr} {tn : Nat → Heap → Prop} {R : GenEnd} {Y : Protocol} {n : Nat} {s₀ s : Shared}
    (Tn : Turn X.prog X.w X.K tg J fp it tn) (st : tn 0 s.heap)
    (loop : Seg (model X.prog X.w) A R Y n s₀ (.compLoop (.GeneratorExp elt [⟨tg, iter, ifs, 0⟩] scope pos) 0 (.ref it) .none cenv)
        ((model X.prog X.w).den (.compLoop (.GeneratorExp elt [⟨tg, iter, ifs, 0⟩] scope pos) 0 (.ref it) .none cenv)) [] s) :
    Seg (model X.prog X.w) A R Y n s₀ (.compStart (.GeneratorExp elt [⟨tg, iter, ifs, 0⟩] scope pos) 0 (.ref it) .none cenv)
        ((model X.prog X.w).den (.compStart (.GeneratorExp elt [⟨tg, iter, ifs, 0⟩] scope pos) 0 (.ref it) .none cenv)) [] s := by
  show Seg _ A _ _ _ s₀ _ ((compStart (.GeneratorExp elt [⟨tg, iter, ifs, 0⟩] scope pos) 0 (.ref it) .none cenv).onRaise (leaving cenv)) [] s
  unfold compStart; rw [Sem.onRaise_eq_wrap]
  show Seg _ A _ _ _ s₀ _ ((ask >>= _).wrap _ _ _ _) [] s
  refine seg_bind_wrap (wpAny_askSetting ?_)
  split
  · exact seg_again rfl loop
  · first
      | exact seg_bind_wrap (wpAny_rule (seg_bind_wrap (wpAny_standAt (seg_bind_wrap (Tn.self _ 0 s _ _ st (seg_again rfl loop))))))
      | (refine seg_bind_wrap (wpAny_rule ?_); show Seg _ A _ _ _ s₀ _ ((standAt iter.pos >>= _).wrap _ _ _ _) [] s; exact seg_bind_wrap (wpAny_standAt (seg_bind_wrap (Tn.self _ 0 s _ _ st (seg_again rfl loop)))))
end Cd
namespace Cd
open PySem PySem.Spec PyProof.Rows L2 GxR GenW
/-- a generator that has just been made, and what is wanted to run it -/
structure GReady (X : Cx) (pins : Pins) (σ : L2.St) (vs : List Nat) (scope : Scope) (elt tg iter : Expr) (ifs : List Expr) (pos : Pos) (J : It) (H2 : Hp) (a : Addr) (g : Nat) (s5 : Shared)
    (cenv : Env) (fp : List Addr) (it : Addr) (tn : Nat → Heap → Prop) (go : Obj) (s3 : Shared) : Prop where
  isg : ∀ h : Heap, h.get? a = some go → h.IsGen a g
  ato : s5.heap.get? a = some go
  gen : s5.gens[g]? = some (.fresh (.compStart (.GeneratorExp elt [⟨tg, iter, ifs, 0⟩] scope pos) 0 (.ref it) .none cenv))
  inv : Inv X pins σ H2 s5
  inv3 : Inv X pins σ H2 s3
  blk : ∀ A : Around, A.handled = none → A.frames = some (cenv :: X.stack) → Inv (gcx X A s3 H2 cenv fp) [(a, go)] (wipe σ vs) H2 s5
  tn0 : tn 0 s5.heap
  trn : Turn X.prog X.w X.K tg J fp it tn
  fpo : ∀ b ∈ fp, FpOk X pins H2 b
  afp : a ∉ fp
  env : ∃ cl C code, cenv = genEnv scope cl C code builtinsNs X.env
theorem gen_make {X : Cx} {pins : Pins} {σ : L2.St} {H : Hp} {s : Shared} {c P : Addr} {elt tg iter : Expr} {ifs : List Expr} {scope : Scope} {own : List (Str × Nat)} {gpos : Pos} {wi : TI} {Q' : Value → Shared → Prop} {R : It → Hp → Prop}
    (hh : X.A.handled = none) (hd : X.A.depth < recursionLimit) (TB : TabB X.base X.mg c P) (hcode : X.env.code = .ref c) (ok : GOk X.N X.env.scope scope own) (hN : X.N.Nodup)
    (hi : PI X tg iter wi) (hs : ∀ v, genFold iter X.env v = pure v) (I : Inv X pins σ H s) (h : wi σ H fun J H1 => TabG H1 P ∧ ∀ H2, Tabbed P H1 H2 → R J H2)
    (hQ : ∀ J H2 a g s5 cenv fp it tn go s3, R J H2 → GReady X pins σ (own.map (·.2)) scope elt tg iter ifs gpos J H2 a g s5 cenv fp it tn go s3 → Q' (.ref a) s5) :
    wpAny (model X.prog X.w) X.A (eval (.GeneratorExp elt [⟨tg, iter, ifs, 0⟩] scope gpos) X.env) Q' X.xe s := by
  have hfree : ∀ y ∈ scope.names, y.2 = .free → ∃ c, X.env.cells.lookup y.1 = some c := fun y hy e =>
    (ok.blk.free y hy e).elim (fun k => I.ok.has _ (.inl k)) fun k => I.ok.has _ (.inr k)
  refine wpAny_GeneratorExp_make ok.co (closure_ok hfree) ok.nocell ok.dot ok.blk.kind hd (thn (hi.run pins s σ H _ I h) fun xv s1 hx => thn hx fun itv s2 h2 => ?_) hs
  obtain ⟨it, fp, tn, J, H1, e, I2, T, st2, f2, ⟨ps, hP, ht⟩, hR⟩ := h2
  subst e
  refine ⟨I2.nolimit, ?_⟩
  have hPs : s2.heap.get? P = some { cls := .none, data := .fields ps } := I2.hok P _ hP
  have cd : PySem.W.CodeHd s2.heap c P := TB.code.keeps fun b u e => I2.bk b u e
  have fP : ∀ b ∈ fp, b ≠ P := fun b hb z => by
    have := (f2 b hb).1
    rw [z, hP] at this; cases this
  have fin : ∀ (code : Value) (h3 : Heap) (tk : Nat) (more : Array Value), Heap.ExtBut P s2.heap h3 → h3.get? P = some { cls := .none, data := .fields (ps ++ more) } → TriplesOk (ps ++ more).toList →
      wpAny (model X.prog X.w) X.A (builtinsFor X.env.globals X.env.builtins) (fun bi s₄ =>
        ∀ h', h'.Ns s₄.heap.objs.size (fun y => if y = ".0" then some (.ref it) else none) → Heap.SameBut s₄.heap.objs.size (s₄.heap.push { cls := .type "frame", data := .dict #[] }) h' →
          Q' (.ref h'.objs.size) { s₄ with
            gens := s₄.gens.push (.fresh (.compStart (.GeneratorExp elt [⟨tg, iter, ifs, 0⟩] scope gpos) 0 (.ref it) .none (genEnv scope (cloFrom X.env.cells scope.names []) s₄.heap.objs.size code bi X.env))),
            toks := s₄.toks + 1 + 1 + 1,
            heap := h'.push { cls := .type "generator", data := .fields #[.int s₄.gens.size 0, .str "<genexpr>" (s₄.toks + 1), .str (X.env.qual ++ "<genexpr>") (s₄.toks + 1 + 1)] } }) X.xe { s2 with heap := h3, toks := tk } := by
    intro code h3 tk more hx hP3 ht3
    obtain ⟨bm, ob, e1, e2, e3, e4, e5, e6, e7, e8⟩ := TB.bm
    have keep3 : ∀ b u, b ≠ P → s2.heap.get? b = some u → h3.get? b = some u := fun b u hb e => hx b u hb e
    refine wpAny_builtinsFor (m := X.mg) (by rw [I2.ok.glob]; exact (I2.mod.glob.keeps I2.bk).extBut hx TB.gP) e1 e2 (keep3 _ _ e4 (I2.bk _ _ e5)) e6 e7 e8 ?_
    intro h' hns hsb
    -- behind the table
    have I3 : Inv X pins σ (upd H1 P (.tbl (ps ++ more))) { s2 with heap := h3, toks := tk } := inv_tab (g' := s2.gens) (d' := s2.drawn) I2 hP (fun b o hb e => keep3 b o hb e) hP3 I2.bare
    have hT : Tabbed P H1 (upd H1 P (.tbl (ps ++ more))) := ⟨⟨ps ++ more, upd_same, ht3⟩, fun b hb => upd_ne hb⟩
    have st3 : tn 0 h3 := T.keep _ _ _ st2 fun b hb o e => keep3 b o (fP b hb) e
    have sz3 : ∀ b ∈ fp, b < h3.objs.size := fun b hb => by
      obtain ⟨o, e, _⟩ := T.obj _ _ st3 b hb
      exact Heap.lt_size e
    have f3 : ∀ b ∈ fp, FpOk X pins (upd H1 P (.tbl (ps ++ more))) b := fun b hb => ⟨by rw [upd_ne (fP b hb)]; exact (f2 b hb).1, (f2 b hb).2⟩
    have hsz : h'.objs.size = h3.objs.size + 1 := by rw [hsb.1, Heap.size_push]
    have k4 : ∀ b o, h3.get? b = some o → h'.get? b = some o := fun b o e => hsb.extBut b o (Nat.ne_of_lt (Heap.lt_size e)) (Heap.get?_push_of_some _ e)
    generalize hgo : ({ cls := .type "generator", data := .fields #[.int s2.gens.size 0, .str "<genexpr>" (tk + 1), .str (X.env.qual ++ "<genexpr>") (tk + 1 + 1)] } : Obj) = go
    have k5 : ∀ b o, h3.get? b = some o → (h'.push go).get? b = some o := fun b o e => Heap.get?_push_of_some _ (k4 b o e)
    have bare5 : ∀ cc : Code, AllBare (s2.gens.push (.fresh cc)) := fun cc => I2.bare.push rfl
    have hgs : ∀ cc : Code, (s2.gens.push (.fresh cc))[s2.gens.size]? = some (.fresh cc) := fun cc => Array.getElem?_push_size ..
    have hao : (h'.push go).get? h'.objs.size = some go := by rw [← hgo]; exact Heap.get?_push_size _ rfl
    have afp : h'.objs.size ∉ fp := fun hb => by
      have h9 : (h'.objs.size : Nat) < h3.objs.size := sz3 _ hb
      omega
    refine hQ J _ h'.objs.size s2.gens.size _ (genEnv scope (cloFrom X.env.cells scope.names []) h3.objs.size code builtinsNs X.env) fp it tn go { s2 with heap := h3, toks := tk } (hR _ hT)
      ⟨fun hh e => ⟨go, _, _, e, by rw [← hgo], by rw [← hgo], by rw [← hgo]⟩, hao, hgs _, ?_, I3, fun A hA hfr => ?_, ?_, T, f3, afp, ⟨_, _, _, rfl⟩⟩
    · exact I3.call' (ch := []) rfl (Un.kept k5) (I3.hok.kept k5) (bare5 _) fun b z => by simp at z
    · have J0 := gen_start (s' := { s2 with gens := s2.gens.push (.fresh (.compStart (.GeneratorExp elt [⟨tg, iter, ifs, 0⟩] scope gpos) 0 (.ref it) .none (genEnv scope (cloFrom X.env.cells scope.names []) h3.objs.size code builtinsNs X.env))), toks := tk + 1 + 1 + 1, heap := h'.push go }) (A := A)
        I3 ok hN (fun b hb => ⟨f3 b hb, sz3 b hb⟩) rfl hA hfr rfl (bare5 _) k5 ⟨_, hns.push go⟩
      refine J0.pins_of fun p hp => ?_
      rw [List.mem_singleton.mp hp]
      have hge : h3.objs.size ≤ h'.objs.size := by omega
      refine ⟨hao, I3.hok.fresh hge, ?_, ?_, fun v q => ?_⟩
      · show h'.objs.size ≠ h3.objs.size
        omega
      · intro hb
        rcases List.mem_cons.mp (I3.stkSub _ hb) with z | z
        · exact absurd I3.lt (by rw [← z]; exact Nat.not_lt.mpr hge)
        · exact I3.nofs hge z
      · rw [show go.data = _ from (by rw [← hgo])] at q; cases q
    · exact T.keep _ _ _ st3 fun b _ o e => k5 b o e
  cases hf : codeAmong gpos ps.toList with
  | none =>
    refine wpAny_genexprCodeX hcode (cd.code hPs ht) (cd.tab hPs) hf fun c' h' tk hx hge hlt hco' _ htab' _ => ?_
    obtain ⟨o1, vs, f1, tf, fl, tg', inF, tx, tt, op, _, _, _, _, _, _, _, _, _, htr, _⟩ := hco'
    exact fin _ h' tk _ hx htab'.2 htr
  | some cv =>
    refine wpAny_genexprCode_hit hcode (cd.code hPs ht) hf ?_
    exact fin cv s2.heap s2.toks #[] (Heap.ExtBut.refl _ _) (by simpa using hPs) (by simpa using ht)
end Cd
namespace Cd
open PySem PySem.Spec PyProof.Rows L2 GxR GenW
theorem stp_gen {s : Shared} {H : Hp} {gs : Array GenState} {t : Nat} (hb : AllBare gs) : Stp s H { s with gens := gs, toks := t } H := fun X pins σ I =>
  I.call' (ch := []) rfl Un.refl I.hok hb fun b z => by simp at z
abbrev ZAll (Qf : Hp → Prop) : Nat → V → Hp → (Hp → Prop) → Prop := fun _ y H4 N => ∃ c, y = .bl c ∧ if c = true then N H4 else Qf H4
abbrev ZAny (Qt : Hp → Prop) : Nat → V → Hp → (Hp → Prop) → Prop := fun _ y H4 N => ∃ c, y = .bl c ∧ if c = true then Qt H4 else N H4
abbrev ZSum (S : Addr) (pre : Nat → Int) : Nat → V → Hp → (Hp → Prop) → Prop := fun j y H4 N =>
  ∃ k : Int, y = .int k ∧ H4 S = some (.lst [.int (pre j)]) ∧ pre (j + 1) = pre j + k ∧ InLong k ∧ InLong (pre (j + 1)) ∧ N (upd H4 S (.lst [.int (pre (j + 1))]))
section
variable {X : Cx} {pins : Pins} {σ : L2.St} {a : Addr} {g T : Nat} {A : Around} {R : Result → Shared → Prop} {End Qf : Hp → Prop}
theorem all_loop (hh : A.handled = none) (hd : A.depth < recursionLimit)
    (hE : ∀ H5 s', Inv X pins σ H5 s' → End H5 → R (.ok (.ret (.bool true))) s') (hF : ∀ H5 s', Inv X pins σ H5 s' → Qf H5 → R (.ok (.ret (.bool false))) s') :
    ∀ (n : Nat) (s : Shared) (gs : GenState), s.heap.IsGen a g → s.heap.NoLimit → s.gens[g]? = some gs →
      gs.Goes (model X.prog X.w) A.in1.in1 (GEx X pins σ a g End) (GYx X pins σ a g T (ZAll Qf)) n (.send .none) (s.setGen g .running) →
      codeAny (model X.prog X.w) A (.builtin "all.loop" ⟨[.ref a], []⟩) R s := by
  intro n
  induction n with
  | zero =>
    intro s gs hg hl hgs hgo
    refine codeAny_builtin F.entry_all_loop ?_
    rw [Around.under_plainId F.plain_all_loop _]
    show wpAny _ A.in1 (pyNext (.ref a) >>= _) _ _ s
    refine wpAny_bind (next_genG (A := A.in1) hh hl hd hg hgs hgo (fun v s₁ gs' hb hv => ?_) (fun s₁ hp h' hk => ?_) fun e s₁ he => he.elim)
    · obtain ⟨j, y, H4, N, hn, ry, I4, hg4, ⟨c, ey, hz⟩, hk⟩ := hv
      subst ey
      obtain rfl : v = Value.bool c := ry
      refine wpAny_bind (wpAny_holding (wpAny_truthy_bool (wpAny_bind (wpAny_letGo ?_))))
      cases c with
      | true =>
        simp only [if_true] at hz
        exact (hk s₁ H4 hz fun _ _ _ I => I).elim
      | false =>
        simp only [Bool.false_eq_true, if_false] at hz ⊢
        exact wpAny_bind (wpAny_rule (wpAny_pure (hF H4 _ (stp_gen (t := s₁.toks) (allBare_setGen I4.bare hb) X pins σ I4) hz)))
    · obtain ⟨_, H5, I5, _, he⟩ := hp
      exact wpAny_bind (wpAny_rule (wpAny_pure (hE H5 _ (I5.call' (ch := []) rfl (Un.kept hk) (I5.hok.kept hk) (allBare_setGen I5.bare rfl) fun b z => by simp at z) he)))
  | succ n ih =>
    intro s gs hg hl hgs hgo
    have hgl : g < s.gens.size := (Array.getElem?_eq_some_iff.mp hgs).1
    refine codeAny_builtin F.entry_all_loop ?_
    rw [Around.under_plainId F.plain_all_loop _]
    show wpAny _ A.in1 (pyNext (.ref a) >>= _) _ _ s
    refine wpAny_bind (wpAny_gsz (n := g + 1) hgl (next_genG (A := A.in1) hh hl hd hg hgs hgo (fun v s₁ gs' hb hv => ?_) (fun s₁ hp h' hk => ?_) fun e s₁ he => he.elim))
    · intro hsz
      obtain ⟨j, y, H4, N, hn, ry, I4, hg4, ⟨c, ey, hz⟩, hk⟩ := hv
      subst ey
      obtain rfl : v = Value.bool c := ry
      refine wpAny_bind (wpAny_holding (wpAny_truthy_bool (wpAny_bind (wpAny_letGo ?_))))
      cases c with
      | true =>
        simp only [if_true] at hz ⊢
        have hsz1 : g < s₁.gens.size := by
          have q : (s₁.setGen g gs').gens.size = s₁.gens.size := setGen_size _ _ _
          have hsz' : g + 1 ≤ (s₁.setGen g gs').gens.size := hsz
          omega
        refine wpAny_pure ⟨plainId_quiet F.plain_all_loop _, ih (s₁.setGen g gs') gs' hg4 I4.nolimit (setGen_at hsz1) ?_⟩
        exact hk _ H4 hz (stp_gen (t := s₁.toks) (allBare_setGen (s := s₁.setGen g gs') (allBare_setGen I4.bare hb) rfl))
      | false =>
        simp only [Bool.false_eq_true, if_false] at hz ⊢
        exact wpAny_bind (wpAny_rule (wpAny_pure (hF H4 _ (stp_gen (t := s₁.toks) (allBare_setGen I4.bare hb) X pins σ I4) hz)))
    · intro hsz
      obtain ⟨_, H5, I5, _, he⟩ := hp
      exact wpAny_bind (wpAny_rule (wpAny_pure (hE H5 _ (I5.call' (ch := []) rfl (Un.kept hk) (I5.hok.kept hk) (allBare_setGen I5.bare rfl) fun b z => by simp at z) he)))
theorem any_loop (hh : A.handled = none) (hd : A.depth < recursionLimit)
    (hE : ∀ H5 s', Inv X pins σ H5 s' → End H5 → R (.ok (.ret (.bool false))) s') (hF : ∀ H5 s', Inv X pins σ H5 s' → Qf H5 → R (.ok (.ret (.bool true))) s') :
    ∀ (n : Nat) (s : Shared) (gs : GenState), s.heap.IsGen a g → s.heap.NoLimit → s.gens[g]? = some gs →
      gs.Goes (model X.prog X.w) A.in1.in1 (GEx X pins σ a g End) (GYx X pins σ a g T (ZAny Qf)) n (.send .none) (s.setGen g .running) →
      codeAny (model X.prog X.w) A (.builtin "any.loop" ⟨[.ref a], []⟩) R s := by
  intro n
  induction n with
  | zero =>
    intro s gs hg hl hgs hgo
    refine codeAny_builtin F.entry_any_loop ?_
    rw [Around.under_plainId F.plain_any_loop _]
    show wpAny _ A.in1 (pyNext (.ref a) >>= _) _ _ s
    refine wpAny_bind (next_genG (A := A.in1) hh hl hd hg hgs hgo (fun v s₁ gs' hb hv => ?_) (fun s₁ hp h' hk => ?_) fun e s₁ he => he.elim)
    · obtain ⟨j, y, H4, N, hn, ry, I4, hg4, ⟨c, ey, hz⟩, hk⟩ := hv
      subst ey
      obtain rfl : v = Value.bool c := ry
      refine wpAny_bind (wpAny_holding (wpAny_truthy_bool (wpAny_bind (wpAny_letGo ?_))))
      cases c with
      | false =>
        simp only [Bool.false_eq_true, if_false] at hz
        exact (hk s₁ H4 hz fun _ _ _ I => I).elim
      | true =>
        simp only [if_true] at hz ⊢
        exact wpAny_bind (wpAny_rule (wpAny_pure (hF H4 _ (stp_gen (t := s₁.toks) (allBare_setGen I4.bare hb) X pins σ I4) hz)))
    · obtain ⟨_, H5, I5, _, he⟩ := hp
      exact wpAny_bind (wpAny_rule (wpAny_pure (hE H5 _ (I5.call' (ch := []) rfl (Un.kept hk) (I5.hok.kept hk) (allBare_setGen I5.bare rfl) fun b z => by simp at z) he)))
  | succ n ih =>
    intro s gs hg hl hgs hgo
    have hgl : g < s.gens.size := (Array.getElem?_eq_some_iff.mp hgs).1
    refine codeAny_builtin F.entry_any_loop ?_
    rw [Around.under_plainId F.plain_any_loop _]
    show wpAny _ A.in1 (pyNext (.ref a) >>= _) _ _ s
    refine wpAny_bind (wpAny_gsz (n := g + 1) hgl (next_genG (A := A.in1) hh hl hd hg hgs hgo (fun v s₁ gs' hb hv => ?_) (fun s₁ hp h' hk => ?_) fun e s₁ he => he.elim))
    · intro hsz
      obtain ⟨j, y, H4, N, hn, ry, I4, hg4, ⟨c, ey, hz⟩, hk⟩ := hv
      subst ey
      obtain rfl : v = Value.bool c := ry
      refine wpAny_bind (wpAny_holding (wpAny_truthy_bool (wpAny_bind (wpAny_letGo ?_))))
      cases c with
      | false =>
        simp only [Bool.false_eq_true, if_false] at hz ⊢
        have hsz1 : g < s₁.gens.size := by
          have q : (s₁.setGen g gs').gens.size = s₁.gens.size := setGen_size _ _ _
          have hsz' : g + 1 ≤ (s₁.setGen g gs').gens.size := hsz
          omega
        refine wpAny_pure ⟨plainId_quiet F.plain_any_loop _, ih (s₁.setGen g gs') gs' hg4 I4.nolimit (setGen_at hsz1) ?_⟩
        exact hk _ H4 hz (stp_gen (t := s₁.toks) (allBare_setGen (s := s₁.setGen g gs') (allBare_setGen I4.bare hb) rfl))
      | true =>
        simp only [if_true] at hz ⊢
        exact wpAny_bind (wpAny_rule (wpAny_pure (hF H4 _ (stp_gen (t := s₁.toks) (allBare_setGen I4.bare hb) X pins σ I4) hz)))
    · intro hsz
      obtain ⟨_, H5, I5, _, he⟩ := hp
      exact wpAny_bind (wpAny_rule (wpAny_pure (hE H5 _ (I5.call' (ch := []) rfl (Un.kept hk) (I5.hok.kept hk) (allBare_setGen I5.bare rfl) fun b z => by simp at z) he)))
end
end Cd
namespace Cd
open PySem PySem.Spec PyProof.Rows L2 GxR GenW
/-- the block's judgements, wherever the generator's frame comes to stand -/
def GBlk (X : Cx) (scope : Scope) (Pj : Cx → Prop) : Prop := ∀ (s : Shared) (H : Hp) (cl : List (Str × Addr)) (C : Addr) (code : Value) (fp : List Addr),
  Pj (gcx X (X.A.in1.in1.deeper (genEnv scope cl C code builtinsNs X.env)) s H (genEnv scope cl C code builtinsNs X.env) fp)
def tGen (P : Addr) (wi : TI) (gt : TG) (tt : TT) (te : TE) (vs : List Nat) (Z : Nat → V → Hp → (Hp → Prop) → Prop) (End : Hp → Prop) : L2.St → Hp → Prop := fun σ H =>
  wi σ H fun J H1 => TabG H1 P ∧ ∀ H2, Tabbed P H1 H2 → ∃ (T : Nat) (W : Nat → Nat → Nat → Hp → Prop), (∃ m, W 0 m 0 H2) ∧ GTurn J W σ vs gt tt te T Z End
def tAllG (P : Addr) (wi : TI) (gt : TG) (tt : TT) (te : TE) (vs : List Nat) : TE := fun σ H Q => tGen P wi gt tt te vs (ZAll (Q (.bl false))) (Q (.bl true)) σ H
def tAnyG (P : Addr) (wi : TI) (gt : TG) (tt : TT) (te : TE) (vs : List Nat) : TE := fun σ H Q => tGen P wi gt tt te vs (ZAny (Q (.bl true))) (Q (.bl false)) σ H
/-- S: where the sum's own list comes to stand; pre: the sums so far -/
def tSumG (P : Addr) (wi : TI) (gt : TG) (tt : TT) (te : TE) (vs : List Nat) : TE := fun σ H Q =>
  wi σ H fun J H1 => TabG H1 P ∧ ∀ H2, Tabbed P H1 H2 → ∀ S, H2 S = none → ∃ (T : Nat) (pre : Nat → Int) (W : Nat → Nat → Nat → Hp → Prop), pre 0 = 0 ∧ (∃ m, W 0 m 0 (upd H2 S (.lst [.int 0]))) ∧
    GTurn J W σ vs gt tt te T (ZSum S pre) (Q (.int (pre T)))
section
variable {X : Cx} {c P : Addr} {elt tg iter : Expr} {ifs : List Expr} {scope : Scope} {own : List (Str × Nat)} {p pos gpos : Pos} {wi : TI} {gt : TG} {tt : TT} {te : TE}
/-- the ready generator, walked -/
theorem goes_of {pins : Pins} {σ : L2.St} {J : It} {H2 H6 : Hp} {a : Addr} {g : Nat} {s5 s6 : Shared} {cenv : Env} {fp : List Addr} {it : Addr} {tn : Nat → Heap → Prop} {go : Obj} {s3 : Shared} {T : Nat} {W : Nat → Nat → Nat → Hp → Prop} {Z : Nat → V → Hp → (Hp → Prop) → Prop} {End : Hp → Prop} {m : Nat}
    (hh : X.A.handled = none) (hc : X.calm = true) (hco : scope.isCoroutine = false)
    (hg : GBlk X scope fun Y => PG Y tg gt) (ht : GBlk X scope fun Y => PTs Y ifs tt) (hel : GBlk X scope fun Y => PE Y elt te)
    (G : GReady X pins σ (own.map (·.2)) scope elt tg iter ifs gpos J H2 a g s5 cenv fp it tn go s3) (turn : GTurn J W σ (own.map (·.2)) gt tt te T Z End) (w0 : W 0 m 0 H6)
    (st : Stp s5 H2 s6 H6) (kp : ∀ b ∈ fp, ∀ o, s5.heap.get? b = some o → s6.heap.get? b = some o) (nf : ∀ b ∈ fp, H6 b = none) :
    GenState.Goes (model X.prog X.w) X.A.in1.in1 (GEx X pins σ a g End) (GYx X pins σ a g T Z) T (.fresh (.compStart (.GeneratorExp elt [⟨tg, iter, ifs, 0⟩] scope gpos) 0 (.ref it) .none cenv)) (.send .none) s6 := by
  obtain ⟨cl, C, code, hce⟩ := G.env
  have hfr : (X.A.in1.in1.deeper cenv).frames = some (cenv :: X.stack) := Around.frames_deeper (show X.A.in1.in1.frames = some X.stack from G.inv.ok.frames)
  refine ⟨rfl, seg_gs G.trn (G.trn.keep _ _ _ G.tn0 kp) (seg_gx G.inv3 G.fpo hc G.afp ?_ ?_ ?_ G.trn (by rw [hce]; exact hco) G.isg turn m T 0 0 H6 s6 s6 w0 (st _ _ _ (G.blk _ hh hfr)) (G.trn.keep _ _ _ G.tn0 kp) nf (Nat.add_zero _))⟩
  · rw [hce]; exact hg _ _ _ _ _ _
  · rw [hce]; exact ht _ _ _ _ _ _
  · rw [hce]; exact hel _ _ _ _ _ _
theorem pe_allG (hh : X.A.handled = none) (hd : X.A.depth < recursionLimit) (hc : X.calm = true) (hgl : Gl X "all") (hm : X.mg "all" = none) (hb : bootBuiltins "all" = some (.builtin "all"))
    (TB : TabB X.base X.mg c P) (hcode : X.env.code = .ref c) (ok : GOk X.N X.env.scope scope own) (hN : X.N.Nodup) (hi : PI X tg iter wi) (hs : ∀ v, genFold iter X.env v = pure v)
    (hg : GBlk X scope fun Y => PG Y tg gt) (ht : GBlk X scope fun Y => PTs Y ifs tt) (hel : GBlk X scope fun Y => PE Y elt te) :
    PE X (.Call (.Name "all" p) [.GeneratorExp elt [⟨tg, iter, ifs, 0⟩] scope gpos] [] pos) (tAllG P wi gt tt te (own.map (·.2))) := by
  refine ⟨fun pins s σ H Q I h => ?_⟩
  have he : starEach [.GeneratorExp elt [⟨tg, iter, ifs, 0⟩] scope gpos] X.env = (false, eval (.GeneratorExp elt [⟨tg, iter, ifs, 0⟩] scope gpos) X.env) :: starEach [] X.env := by rfl
  refine wpAny_Call_Name_kw (ld_blt I hgl hm hb (PyProof.Rows.callWith_builtin1 ?_ he (by rfl)))
  rw [he]
  show wpAny _ _ (spliced ((false, eval (.GeneratorExp elt [⟨tg, iter, ifs, 0⟩] scope gpos) X.env) :: backTo pos (starEach [] X.env))) _ _ s
  refine Calls.spliced_cons (gen_make hh hd TB hcode ok hN hi hs I h fun J H2 a g s5 cenv fp it tn go s3 hR G => Calls.spliced_nil ?_)
  obtain ⟨T, W, ⟨m, w0⟩, turn⟩ := hR
  refine call_function_tree F.kind_all F.plain_all F.entry_all (F.args_all1 _) ?_
  unfold Builtin.«all»
  refine wpAny_bind (m := oneArg "all" _) (wpAny_pure (wpAny_bind (wpAny_pyIter_gen (G.isg _ G.ato) ?_)))
  exact wpAny_pure ⟨plainId_quiet F.plain_all_loop _, all_loop (X := X) (pins := pins) (σ := σ) (T := T) hh hd (fun H5 s' I5 q => ⟨.bl true, H5, I5, rfl, q⟩) (fun H5 s' I5 q => ⟨.bl false, H5, I5, rfl, q⟩) T s5 _ (G.isg _ G.ato) G.inv.nolimit G.gen
    (goes_of hh hc ok.co hg ht hel G turn w0 (stp_gen (t := s5.toks) (allBare_setGen G.inv.bare rfl)) (fun _ _ _ e => e) fun b hb => (G.fpo b hb).1)⟩
theorem pe_anyG (hh : X.A.handled = none) (hd : X.A.depth < recursionLimit) (hc : X.calm = true) (hgl : Gl X "any") (hm : X.mg "any" = none) (hb : bootBuiltins "any" = some (.builtin "any"))
    (TB : TabB X.base X.mg c P) (hcode : X.env.code = .ref c) (ok : GOk X.N X.env.scope scope own) (hN : X.N.Nodup) (hi : PI X tg iter wi) (hs : ∀ v, genFold iter X.env v = pure v)
    (hg : GBlk X scope fun Y => PG Y tg gt) (ht : GBlk X scope fun Y => PTs Y ifs tt) (hel : GBlk X scope fun Y => PE Y elt te) :
    PE X (.Call (.Name "any" p) [.GeneratorExp elt [⟨tg, iter, ifs, 0⟩] scope gpos] [] pos) (tAnyG P wi gt tt te (own.map (·.2))) := by
  refine ⟨fun pins s σ H Q I h => ?_⟩
  have he : starEach [.GeneratorExp elt [⟨tg, iter, ifs, 0⟩] scope gpos] X.env = (false, eval (.GeneratorExp elt [⟨tg, iter, ifs, 0⟩] scope gpos) X.env) :: starEach [] X.env := by rfl
  refine wpAny_Call_Name_kw (ld_blt I hgl hm hb (PyProof.Rows.callWith_builtin1 ?_ he (by rfl)))
  rw [he]
  show wpAny _ _ (spliced ((false, eval (.GeneratorExp elt [⟨tg, iter, ifs, 0⟩] scope gpos) X.env) :: backTo pos (starEach [] X.env))) _ _ s
  refine Calls.spliced_cons (gen_make hh hd TB hcode ok hN hi hs I h fun J H2 a g s5 cenv fp it tn go s3 hR G => Calls.spliced_nil ?_)
  obtain ⟨T, W, ⟨m, w0⟩, turn⟩ := hR
  refine call_function_tree F.kind_any F.plain_any F.entry_any (F.args_any1 _) ?_
  unfold Builtin.«any»
  refine wpAny_bind (m := oneArg "any" _) (wpAny_pure (wpAny_bind (wpAny_pyIter_gen (G.isg _ G.ato) ?_)))
  exact wpAny_pure ⟨plainId_quiet F.plain_any_loop _, any_loop (X := X) (pins := pins) (σ := σ) (T := T) hh hd (fun H5 s' I5 q => ⟨.bl false, H5, I5, rfl, q⟩) (fun H5 s' I5 q => ⟨.bl true, H5, I5, rfl, q⟩) T s5 _ (G.isg _ G.ato) G.inv.nolimit G.gen
    (goes_of hh hc ok.co hg ht hel G turn w0 (stp_gen (t := s5.toks) (allBare_setGen G.inv.bare rfl)) (fun _ _ _ e => e) fun b hb => (G.fpo b hb).1)⟩
end
section
variable {X : Cx} {pins : Pins} {σ : L2.St} {a S : Addr} {g T : Nat} {A : Around} {R : Result → Shared → Prop} {Qs : V → Hp → Prop} {pre : Nat → Int}
theorem sum_loop (hh : A.handled = none) (hd : A.depth < recursionLimit)
    (hE : ∀ H5 s' t, Inv X pins σ H5 s' → Qs (.int (pre T)) H5 → R (.ok (.ret (.int (pre T) t))) s') :
    ∀ (n j : Nat) (s : Shared) (H : Hp) (gs : GenState), n + j = T → Inv X pins σ H s → H S = some (.lst [.int (pre j)]) → s.heap.IsGen a g → s.gens[g]? = some gs →
      gs.Goes (model X.prog X.w) A.in1.in1 (GEx X pins σ a g (Qs (.int (pre T)))) (GYx X pins σ a g T (ZSum S pre)) n (.send .none) (s.setGen g .running) →
      codeAny (model X.prog X.w) A (.builtin "sum.loop" ⟨[.ref a, .ref S, rawInt 0, rawInt 0], []⟩) R s := by
  have obj : ∀ {H4 : Hp} {s' : Shared} {acc : Int}, Inv X pins σ H4 s' → H4 S = some (.lst [.int acc]) → ∃ (t : Tok) (c : Nat), s'.heap.get? S = some { cls := .type "list", dict := none, data := .seq #[.int acc t] c, slots := #[] } := fun {H4 s' acc} I4 e => by
    obtain ⟨_, its, nn, r, e2⟩ := I4.hok S _ e
    cases r with
    | cons r1 rr =>
      cases rr
      obtain ⟨t, rfl⟩ := r1
      exact ⟨t, nn, e2⟩
  have st0 : ∀ {s₁ : Shared} {H4 : Hp} {x k : Int} {t4 tk : Tok} {c4 : Nat}, H4 S = some (.lst [.int x]) → s₁.heap.get? S = some { cls := .type "list", dict := none, data := .seq #[.int x t4] c4, slots := #[] } → ∀ gg, AllBare gg → ∀ tt,
      Stp s₁ H4 { s₁ with gens := gg, toks := tt, heap := s₁.heap.update S (Obj.mapSeq fun _ => #[.int k tk]) } (upd H4 S (.lst [.int k])) := fun {s₁ H4 x k t4 tk c4} hS4 hob4 gg hgg tt X' pins' σ' I' => by
    have J := I'.write (t' := tt) (h' := s₁.heap.update S (Obj.mapSeq fun _ => #[.int k tk])) (x := S) (e := S) (o := .lst [.int k]) (by rw [hS4]; trivial) (.inl rfl)
      (fun b u hb q => (Heap.get?_update_other _ _ (Ne.symm hb)).trans q) ⟨_, Heap.get?_update_self _ hob4 rfl⟩
      ⟨by show 1 ≤ sizeLine; rw [sizeLine_eq]; decide, [.int k tk], _, .cons ⟨_, rfl⟩ .nil, Heap.get?_update_self _ hob4 rfl⟩
    exact stp_gen (t := tt) hgg X' pins' σ' J
  intro n
  induction n with
  | zero =>
    intro j s H gs hn I hS hg hgs hgo
    obtain ⟨t0, c0, hob⟩ := obj I hS
    obtain rfl : j = T := by omega
    refine codeAny_builtin F.entry_sum_loop ?_
    rw [Around.under_plainId F.plain_sum_loop _]
    show wpAny _ A.in1 (seqItems? (.ref S) >>= _) _ _ s
    refine wpAny_bind (wpAny_seqItems hob rfl ?_)
    show wpAny _ A.in1 (tryCatch (pyNext (.ref a)) _ >>= _) _ _ s
    refine wpAny_bind (wpAny_tryCatch (next_genG (A := A.in1) hh I.nolimit hd hg hgs hgo (fun v s₁ gs' hb hv => ?_) (fun s₁ hp h' hk => ?_) fun e s₁ he => he.elim))
    · obtain ⟨j', y, H4, N, hn', ry, I4, hg4, ⟨k, ey, hS4, hp1, hk1, hk2, hz⟩, hk⟩ := hv
      obtain ⟨t4, c4, hob4⟩ := obj I4 hS4
      exact (hk _ _ hz (st0 (tk := 0) hS4 hob4 _ I4.bare 0)).elim
    · obtain ⟨_, H5, I5, _, hq⟩ := hp
      exact wpAny_pure (hE H5 _ t0 (I5.call' (ch := []) rfl (Un.kept hk) (I5.hok.kept hk) (allBare_setGen I5.bare rfl) fun b z => by simp at z) hq)
  | succ n ih =>
    intro j s H gs hn I hS hg hgs hgo
    have hgl : g < s.gens.size := (Array.getElem?_eq_some_iff.mp hgs).1
    obtain ⟨t0, c0, hob⟩ := obj I hS
    refine codeAny_builtin F.entry_sum_loop ?_
    rw [Around.under_plainId F.plain_sum_loop _]
    show wpAny _ A.in1 (seqItems? (.ref S) >>= _) _ _ s
    refine wpAny_bind (wpAny_seqItems hob rfl ?_)
    show wpAny _ A.in1 (tryCatch (pyNext (.ref a)) _ >>= _) _ _ s
    refine wpAny_bind (wpAny_tryCatch (wpAny_gsz (n := g + 1) hgl (next_genG (A := A.in1) hh I.nolimit hd hg hgs hgo (fun v s₁ gs' hb hv => ?_) (fun s₁ hp h' hk => ?_) fun e s₁ he => he.elim)))
    · intro hsz
      obtain ⟨j', y, H4, N, hn', ry, I4, hg4, ⟨k, ey, hS4, hp1, hk1, hk2, hz⟩, hk⟩ := hv
      obtain rfl : j' = j := by omega
      subst ey
      obtain ⟨t, rfl⟩ := (show ∃ t, v = Value.int k t from ry)
      obtain ⟨t4, c4, hob4⟩ := obj I4 hS4
      have hsz1 : g < s₁.gens.size := by
        have q : (s₁.setGen g gs').gens.size = s₁.gens.size := setGen_size _ _ _
        have hsz' : g + 1 ≤ (s₁.setGen g gs').gens.size := hsz
        omega
      have hc : ((decide (-(2 ^ 63) ≤ k) && decide (k < 2 ^ 63)) && (decide (-(2 ^ 63) ≤ pre j' + k) && decide (pre j' + k < 2 ^ 63))) = true := by
        rw [hp1] at hk2
        obtain ⟨f1, f2⟩ := hk1
        obtain ⟨f3, f4⟩ := hk2
        simp only [Bool.and_eq_true, decide_eq_true_eq]
        exact ⟨⟨f1, f2⟩, f3, f4⟩
      show wpAny _ A.in1 (if (_ : Bool) = true then (mkInt (pre j' + k) >>= _) else _) _ _ _
      split
      · rename_i hpos
        refine wpAny_bind (wpAny_mkInt ?_)
        show wpAny _ A.in1 (updateSeq S (fun _ => #[.int (pre j' + k) s₁.toks]) >>= _) _ _ _
        refine wpAny_bind ?_
        have hob5 : (s₁.setGen g gs').heap.get? S = some { cls := .type "list", dict := none, data := .seq #[.int (pre j') t4] c4, slots := #[] } := hob4
        rw [hp1] at hz
        have hgA : ∀ h : Heap, (∀ b o, b ≠ S → s₁.heap.get? b = some o → h.get? b = some o) → h.IsGen a g := fun h hk' => by
          obtain ⟨o, nm, qn, ho, r⟩ := hg4
          refine ⟨o, nm, qn, hk' a o (fun z => ?_) ho, r⟩
          rw [z, hob4] at ho
          cases ho
          exact absurd r.1 (by simp)
        refine wpAny_updateSeq hob5 rfl (wpAny_pure ⟨plainId_quiet F.plain_sum_loop _, ih (j' + 1) _ (upd H4 S (.lst [.int (pre j' + k)])) gs' (by omega) (st0 hS4 hob4 _ (allBare_setGen I4.bare hb) _ X pins σ I4) ?_ (hgA _ fun b o hbS e => (Heap.get?_update_other _ _ (Ne.symm hbS)).trans e) (setGen_at hsz1) ?_⟩)
        · rw [upd_same, hp1]
        · exact hk _ _ hz (st0 hS4 hob4 _ (allBare_setGen (s := s₁.setGen g gs') (allBare_setGen I4.bare hb) rfl) _)
      · rename_i hneg
        exact absurd hc hneg
    · intro hsz
      obtain ⟨h0, _⟩ := hp
      omega
end
end Cd
namespace Cd
open PySem PySem.Spec PyProof.Rows L2 GxR GenW
theorem stp_new {s : Shared} {H : Hp} {x : Int} {t tk : Tok} {gs : Array GenState} (hb : AllBare gs) :
    Stp s H { s with gens := gs, toks := tk, heap := s.heap.push { cls := .type "list", data := .seq #[.int x t] } } (upd H s.heap.objs.size (.lst [.int x])) := fun X pins σ I => by
  have J := I.laid (t' := tk) (h' := s.heap.push { cls := .type "list", data := .seq #[.int x t] }) (a := s.heap.objs.size) (o := .lst [.int x]) (fun b u e => Heap.get?_push_of_some _ e) (Nat.le_refl _)
    ⟨by show 1 ≤ sizeLine; rw [sizeLine_eq]; decide, [.int x t], _, .cons ⟨_, rfl⟩ .nil, Heap.get?_push_size _ rfl⟩
  exact stp_gen (t := tk) hb X pins σ J
section
variable {X : Cx} {c P : Addr} {elt tg iter : Expr} {ifs : List Expr} {scope : Scope} {own : List (Str × Nat)} {p pos gpos : Pos} {wi : TI} {gt : TG} {tt : TT} {te : TE}
theorem pe_sumG (hh : X.A.handled = none) (hd : X.A.depth < recursionLimit) (hc : X.calm = true) (hgl : Gl X "sum") (hm : X.mg "sum" = none) (hb : bootBuiltins "sum" = some (.builtin "sum"))
    (TB : TabB X.base X.mg c P) (hcode : X.env.code = .ref c) (ok : GOk X.N X.env.scope scope own) (hN : X.N.Nodup) (hi : PI X tg iter wi) (hs : ∀ v, genFold iter X.env v = pure v)
    (hg : GBlk X scope fun Y => PG Y tg gt) (ht : GBlk X scope fun Y => PTs Y ifs tt) (hel : GBlk X scope fun Y => PE Y elt te) :
    PE X (.Call (.Name "sum" p) [.GeneratorExp elt [⟨tg, iter, ifs, 0⟩] scope gpos] [] pos) (tSumG P wi gt tt te (own.map (·.2))) := by
  refine ⟨fun pins s σ H Q I h => ?_⟩
  have he : starEach [.GeneratorExp elt [⟨tg, iter, ifs, 0⟩] scope gpos] X.env = (false, eval (.GeneratorExp elt [⟨tg, iter, ifs, 0⟩] scope gpos) X.env) :: starEach [] X.env := by rfl
  refine wpAny_Call_Name_kw (ld_blt I hgl hm hb (PyProof.Rows.callWith_builtin1 ?_ he (by rfl)))
  rw [he]
  show wpAny _ _ (spliced ((false, eval (.GeneratorExp elt [⟨tg, iter, ifs, 0⟩] scope gpos) X.env) :: backTo pos (starEach [] X.env))) _ _ s
  refine Calls.spliced_cons (gen_make hh hd TB hcode ok hN hi hs I h fun J H2 a g s5 cenv fp it tn go s3 hR G => Calls.spliced_nil ?_)
  obtain ⟨T, pre, W, hp0, ⟨m, w0⟩, turn⟩ := hR s5.heap.objs.size (G.inv.hok.fresh (Nat.le_refl _))
  refine call_function_tree F.kind_sum F.plain_sum F.entry_sum (F.args_sum1 _) ?_
  unfold Builtin.«sum»; simp only [List.length_cons, List.length_nil]; rw [if_neg (by decide)]
  refine wpAny_bind (wpAny_of_eq (show Builtin.Builtins.bindParams "sum" ["start"] 0 { } = pure [none] from rfl) (wpAny_bind (wpAny_pyIter_gen (G.isg _ G.ato) ?_)))
  refine wpAny_bind (wpAny_mkInt (wpAny_bind (wpAny_pure ?_)))
  simp only [List.forIn_cons, List.forIn_nil]
  refine wpAny_bind (wpAny_bind (wpAny_bind (wpAny_isInstance (T := "int") (b := false) (typeIs_int _ _ _) PySem.sub_int_str ?_))); simp only [Bool.false_eq_true, if_false]
  refine wpAny_pure (wpAny_bind (wpAny_bind (wpAny_isInstance (T := "int") (b := false) (typeIs_int _ _ _) PySem.sub_int_bytes ?_))); simp only [Bool.false_eq_true, if_false]
  refine wpAny_pure (wpAny_bind (wpAny_bind (wpAny_isInstance (T := "int") (b := false) (typeIs_int _ _ _) PySem.sub_int_bytearray ?_))); simp only [Bool.false_eq_true, if_false]
  refine wpAny_pure (wpAny_pure (wpAny_bind (wpAny_newObj_type ?_)))
  have kp : ∀ b o, s5.heap.get? b = some o → (s5.heap.push { cls := .type "list", data := .seq #[.int 0 s5.toks] }).get? b = some o := fun b o e => Heap.get?_push_of_some _ e
  have hat : a < s5.heap.objs.size := Heap.lt_size G.ato
  refine wpAny_pure ⟨plainId_quiet F.plain_sum_loop _, sum_loop (X := X) (pins := pins) (σ := σ) (T := T) (pre := pre) (Qs := Q) hh hd (fun H5 s' t I5 q => ⟨.int _, H5, I5, ⟨t, rfl⟩, q⟩) T 0 _ (upd H2 s5.heap.objs.size (.lst [.int 0])) _ (Nat.add_zero _)
    (stp_new G.inv.bare X pins σ G.inv) (by rw [upd_same, hp0]) (G.isg _ (kp _ _ G.ato)) G.gen
    (goes_of hh hc ok.co hg ht hel G turn w0 (stp_new (allBare_setGen G.inv.bare rfl)) (fun b _ o e => kp b o e) fun b hb => ?_)⟩
  rw [upd_ne (fun z => ?_)]
  · exact (G.fpo b hb).1
  · obtain ⟨o, e, _⟩ := G.trn.obj _ _ G.tn0 b hb
    exact absurd (Heap.lt_size e) (by rw [z]; exact Nat.lt_irrefl _)
end
end Cd
namespace Cd
open PySem
/-! A small language of expressions and statements over plain data, and how it runs. -/
inductive Slot where
  | no | sh (d : PyData) | ow (l : List PyData) | row
/-- the draws' state -/
structure RS where
  idx : Nat
  seed : Int
  car : Int
inductive Bop where | add | sub | mul | fdiv | mod
inductive Cop where | eq | ne | lt | le | gt | ge | isin | notin | isN | isNotN | isB | notB
inductive B1 where | len | tuple | list | sum | max | min | sorted | abs | int
inductive GK where | all | any | sum
inductive Tg where
  | nm (i : Nat) | tp (is : List Nat)
mutual
inductive E where
  | int (i : Int) | bl (b : Bool) | non | str (s : Str)
  | gi (x : Str) (i : Int)
  | var (i : Nat)
  | bin (o : Bop) (a b : E)
  | neg (a : E)
  | cmp (o : Cop) (a b : E)
  | chn (o p : Cop) (a b c : E)
  | and (a b : E) | or (a b : E) | not (a : E)
  | ite (c a b : E)
  | tup (es : EL) | lst (es : EL)
  | ix (a i : E)
  | sl (a lo hi : E)
  | call (f : Nat) (es : EL)
  | take (r : Nat) (a : E)
  | f1 (f : B1) (a : E)
  | isi (a : E) (ts : List String)
  | count (a b : E) | index (a b : E) | sset (a : E)
  | lc (own : List (Str × Nat)) (t : Tg) (it : It) (c : E) (e : E)
  | g (k : GK) (own : List (Str × Nat)) (t : Tg) (it : It) (e : E)
inductive EL where
  | nil | cons (st : Bool) (e : E) (r : EL)
inductive It where
  | seq (a : E) | r1 (a : E) | r2 (a b : E) | r3 (a b : E) (c : Int) | enum (a : E) | zip (a b : E)
end
mutual
inductive S where
  | set (i : Nat) (e : E)
  | unp (is : List Nat) (e : E)
  | par (is : List Nat) (es : EL)
  | put (i : Nat) (k e : E)
  | app (i : Nat) (e : E)
  | ret (e : E) | retN
  | drop (e : E)
  | ite (c : E) (a b : SL)
  | fr (t : Tg) (it : It) (b : SL)
  | wh (c : E) (b : SL)
  | brk | cnt | pass | fail
inductive SL where
  | nil | cons (fz : List Nat) (s : S) (r : SL)
end
structure Fn where
  np : Nat
  ns : Nat
  body : SL
abbrev M (α : Type) := RS → Option (α × RS)
def M.ret {α : Type} (a : α) : M α := fun r => some (a, r)
def M.bd {α β : Type} (m : M α) (k : α → M β) : M β := fun r => match m r with
  | some (a, r') => k a r'
  | none => none
def M.no {α : Type} : M α := fun _ => none
def M.of {α : Type} (o : Option α) : M α := fun r => match o with
  | some a => some (a, r)
  | none => none
def LB : Nat := 100000
/-! ### values -/
def truthD : PyData → Option Bool
  | .none => some false
  | .bool b => some b
  | .int i => some (i != 0)
  | .list l => some (!l.isEmpty)
  | .tuple l => some (!l.isEmpty)
  | _ => none
def big (a : Int) : Bool := decide (a.natAbs.log2 < 4000)
def binD : Bop → PyData → PyData → Option PyData
  | .add, .int a, .int b => some (.int (a + b))
  | .add, .list a, .list b => if a.length + b.length ≤ LB then some (.list (a ++ b)) else none
  | .add, .tuple a, .tuple b => if a.length + b.length ≤ LB then some (.tuple (a ++ b)) else none
  | .sub, .int a, .int b => some (.int (a - b))
  | .mul, .int a, .int b => if big a && big b then some (.int (a * b)) else none
  | .mul, .list [x], .int b => if 0 ≤ b ∧ b ≤ 1000 then some (.list (List.replicate b.toNat x)) else none
  | .mul, .tuple [x], .int b => if 0 ≤ b ∧ b ≤ 1000 then some (.tuple (List.replicate b.toNat x)) else none
  | .fdiv, .int a, .int b => if 0 < b ∧ big b then some (.int (a / b)) else none
  | .mod, .int a, .int b => if 0 < b then some (.int (a % b)) else none
  | _, _, _ => none
def scalarD : PyData → Bool
  | .none | .bool _ | .int _ | .str _ => true
  | _ => false
/-- data of bounded depth, no dict -/
def okD (d : PyData) : Bool := SeqAt.shaped d
def elemsD : PyData → Option (List PyData)
  | .list l => some l
  | .tuple l => some l
  | _ => none
def intsD : List PyData → Option (List Int)
  | [] => some []
  | .int i :: r => match intsD r with
    | some l => some (i :: l)
    | none => none
  | _ :: _ => none
def ltI : List Int → List Int → Bool
  | [], [] => false
  | [], _ :: _ => true
  | _ :: _, [] => false
  | x :: xs, y :: ys => if x = y then ltI xs ys else decide (x < y)
def nonD : PyData → Bool
  | .none => true
  | _ => false
def cmpD : Cop → PyData → PyData → Option Bool
  | .eq, a, b => if okD a && okD b then some (PyData.eqv a b) else none
  | .ne, a, b => if okD a && okD b then some (!PyData.eqv a b) else none
  | .lt, .int a, .int b => some (decide (a < b))
  | .le, .int a, .int b => some (decide (a ≤ b))
  | .gt, .int a, .int b => some (decide (b < a))
  | .ge, .int a, .int b => some (decide (b ≤ a))
  | .lt, .tuple a, .tuple b => match intsD a, intsD b with
    | some x, some y => some (ltI x y)
    | _, _ => none
  | .isin, a, b => match elemsD b with
    | some l => if okD a && okD b then some (l.any fun z => PyData.eqv z a) else none
    | none => none
  | .notin, a, b => match elemsD b with
    | some l => if okD a && okD b then some (!l.any fun z => PyData.eqv z a) else none
    | none => none
  | .isN, a, _ => some (nonD a)
  | .isNotN, a, _ => some (!nonD a)
  | .isB, .bool a, .bool b => some (a == b)
  | .notB, .bool a, .bool b => some (!(a == b))
  | _, _, _ => none
def ixD {α : Type} (l : List α) (i : Int) : Option α :=
  if 0 ≤ i then l[i.toNat]? else if 0 ≤ i + l.length then l[(i + l.length).toNat]? else none
def partD (n d : Nat) : Option Int → Nat
  | some i => if 0 ≤ i then min i.toNat n else (i + n).toNat
  | none => d
def cutD {α : Type} (l : List α) (lo hi : Option Int) : List α := (l.drop (partD l.length 0 lo)).take (partD l.length l.length hi - partD l.length 0 lo)
def maxI : List Int → Option Int
  | [] => none
  | x :: r => some (r.foldl (fun a b => if a < b then b else a) x)
def minI : List Int → Option Int
  | [] => none
  | x :: r => some (r.foldl (fun a b => if b < a then b else a) x)
def insI (x : Int) : List Int → List Int
  | [] => [x]
  | y :: r => if x ≤ y then x :: y :: r else y :: insI x r
def sortI : List Int → List Int
  | [] => []
  | x :: r => insI x (sortI r)
/-- ascending, each once -/
def insU (x : Int) : List Int → List Int
  | [] => [x]
  | y :: r => if x < y then x :: y :: r else if x = y then y :: r else y :: insU x r
def usort : List Int → List Int
  | [] => []
  | x :: r => insU x (usort r)
def f1D : B1 → PyData → Option PyData
  | .len, .list l => some (.int l.length)
  | .len, .tuple l => some (.int l.length)
  | .tuple, .list l => some (.tuple l)
  | .tuple, .tuple l => some (.tuple l)
  | .list, .list l => some (.list l)
  | .list, .tuple l => some (.list l)
  | .sum, .list l => match intsD l with
    | some x => some (.int x.sum)
    | none => none
  | .sum, .tuple l => match intsD l with
    | some x => if x.length ≤ 1000 ∧ x.all (fun i => decide (-1000000 ≤ i ∧ i ≤ 1000000)) = true then some (.int x.sum) else none
    | none => none
  | .max, .list l => match intsD l with
    | some x => match maxI x with
      | some m => some (.int m)
      | none => none
    | none => none
  | .min, .list l => match intsD l with
    | some x => match minI x with
      | some m => some (.int m)
      | none => none
    | none => none
  | .sorted, .list l => match intsD l with
    | some x => if x.length < 64 then some (.list ((sortI x).map .int)) else none
    | none => none
  | .abs, .int i => some (.int (if i < 0 then -i else i))
  | .int, .int i => some (.int i)
  | .int, .bool b => some (.int (if b then 1 else 0))
  | _, _ => none
def tyD : PyData → String
  | .none => "NoneType"
  | .bool _ => "bool"
  | .int _ => "int"
  | .str _ => "str"
  | .list _ => "list"
  | .tuple _ => "tuple"
  | .dict _ => "dict"
def isiD (d : PyData) (ts : List String) : Bool := ts.any fun t => tyD d == t || (tyD d == "bool" && t == "int")
def countD (l : List PyData) (d : PyData) : Nat := (l.filter fun z => PyData.eqv z d).length
def idxD : List PyData → PyData → Option Nat
  | [], _ => none
  | z :: r, d => if PyData.eqv z d then some 0 else match idxD r d with
    | some n => some (n + 1)
    | none => none
def rngD (a : Int) : Nat → List PyData
  | 0 => []
  | n + 1 => .int a :: rngD (a + 1) n
def rng3D (a c : Int) : Nat → List PyData
  | 0 => []
  | n + 1 => .int a :: rng3D (a + c) c n
def enumD (i : Int) : List PyData → List PyData
  | [] => []
  | x :: r => .tuple [.int i, x] :: enumD (i + 1) r
def zipD : List PyData → List PyData → List PyData
  | x :: r, y :: q => .tuple [x, y] :: zipD r q
  | _, _ => []
/-! ### slots -/
def setS (env : List Slot) (i : Nat) (d : PyData) : List Slot := env.set i (.sh d)
def setAll : List Slot → List Nat → List PyData → Option (List Slot)
  | env, [], [] => some env
  | env, i :: is, d :: ds => setAll (setS env i d) is ds
  | _, _, _ => none
def bindT (env : List Slot) : Tg → PyData → Option (List Slot)
  | .nm i, d => some (setS env i d)
  | .tp is, .tuple l => setAll env is l
  | .tp _, _ => none
def wipeE (env : List Slot) : List Nat → List Slot
  | [] => env
  | v :: vs => (wipeE env vs).set v .no
def thaw (env : List Slot) : List Nat → List Slot
  | [] => env
  | v :: vs => match (thaw env vs)[v]? with
    | some (.ow l) => (thaw env vs).set v (.sh (.list l))
    | _ => thaw env vs
def ownV (env : List Slot) : E → Bool
  | .var i => (match env[i]? with
    | some (.ow _) => true
    | _ => false)
  | _ => false
/-- an own list is lent to a call -/
def brw (env : List Slot) : EL → Bool
  | .nil => false
  | .cons _ e r => ownV env e || brw env r
mutual
/-- no list in it -/
def noL : PyData → Bool
  | .list _ => false
  | .tuple l => noLs l
  | .dict _ => false
  | _ => true
def noLs : List PyData → Bool
  | [] => true
  | x :: r => noL x && noLs r
end
/-- what a call hands back, if an own list was lent -/
def lent (b : Bool) (d : PyData) : M PyData := if b && !noL d then M.no else M.ret d
/-- a plain read of an own list -/
def rd (env : List Slot) (e : E) (k : M PyData) : M PyData := match e with
  | .var i => (match env[i]? with
    | some (.ow l) => M.ret (.list l)
    | _ => k)
  | _ => k
def argOf (env : List Slot) (e : E) (k : M PyData) : M Slot := match e with
  | .var i => (match env[i]? with
    | some .row => M.ret .row
    | some (.ow l) => M.ret (.sh (.list l))
    | _ => M.bd k fun d => M.ret (.sh d))
  | _ => M.bd k fun d => M.ret (.sh d)
/-! ### draws -/
def drawn (ns : List Int) (m : Int) (r : RS) : Int × RS :=
  if r.car > 0 then (r.car % m, { r with car := r.car / m })
  else if r.idx + 1 > ns.length then
    let s := (r.seed * 48271 + 11) % 2147483647
    ((s / 7) % m, { r with idx := r.idx + 1, seed := s })
  else
    let c := ns.getD r.idx 0
    let s := (r.seed * 48271 + c + 11) % 2147483647
    (c % m, { idx := r.idx + 1, seed := s, car := if c ≥ 10 ^ 18 then c / m else r.car })
/-! ### loops over what is known -/
def mapL (f : PyData → M (Option PyData)) : List PyData → M (List PyData)
  | [] => M.ret []
  | x :: r => M.bd (f x) fun o => M.bd (mapL f r) fun l => match o with
    | some y => M.ret (y :: l)
    | none => M.ret l
def allL (f : PyData → M PyData) : List PyData → M Bool
  | [] => M.ret true
  | x :: r => M.bd (f x) fun y => match y with
    | .bool true => allL f r
    | .bool false => M.ret false
    | _ => M.no
def anyL (f : PyData → M PyData) : List PyData → M Bool
  | [] => M.ret false
  | x :: r => M.bd (f x) fun y => match y with
    | .bool false => anyL f r
    | .bool true => M.ret true
    | _ => M.no
def fits (i : Int) : Bool := decide (-(2 ^ 63) ≤ i) && decide (i < 2 ^ 63)
def sumL (f : PyData → M PyData) : Int → List PyData → M Int
  | a, [] => M.ret a
  | a, x :: r => M.bd (f x) fun y => match y with
    | .int k => if fits k && fits (a + k) then sumL f (a + k) r else M.no
    | _ => M.no
/-- a slice's bound -/
def prt : E → PyData → Option (Option Int)
  | .non, _ => some none
  | _, .int i => some (some i)
  | _, _ => none
abbrev CT := Nat → List Slot → M PyData
section
variable (ns : List Int) (C : CT)
mutual
def evE : E → List Slot → M PyData
  | .int i, _ => M.ret (.int i)
  | .bl b, _ => M.ret (.bool b)
  | .non, _ => M.ret .none
  | .str s, _ => M.ret (.str s)
  | .gi _ i, _ => M.ret (.int i)
  | .var i, env => match env[i]? with
    | some (.sh d) => M.ret d
    | _ => M.no
  | .bin o a b, env => M.bd (rd env a (evE a env)) fun x => M.bd (rd env b (evE b env)) fun y => M.of (binD o x y)
  | .neg a, env => M.bd (evE a env) fun x => match x with
    | .int i => M.ret (.int (-i))
    | _ => M.no
  | .cmp o a b, env => M.bd (rd env a (evE a env)) fun x => M.bd (rd env b (evE b env)) fun y => match cmpD o x y with
    | some c => M.ret (.bool c)
    | none => M.no
  | .chn o p a b c, env => M.bd (evE a env) fun x => M.bd (evE b env) fun y => match cmpD o x y with
    | some true => M.bd (evE c env) fun z => (match cmpD p y z with
      | some k => M.ret (.bool k)
      | none => M.no)
    | some false => M.ret (.bool false)
    | none => M.no
  | .and a b, env => M.bd (evE a env) fun x => match truthD x with
    | some true => evE b env
    | some false => M.ret x
    | none => M.no
  | .or a b, env => M.bd (evE a env) fun x => match truthD x with
    | some true => M.ret x
    | some false => evE b env
    | none => M.no
  | .not a, env => M.bd (evE a env) fun x => match truthD x with
    | some b => M.ret (.bool !b)
    | none => M.no
  | .ite c a b, env => M.bd (evT c env) fun t => if t then evE a env else evE b env
  | .tup es, env => M.bd (evL es env) fun l => if l.length ≤ LB then M.ret (.tuple l) else M.no
  | .lst es, env => M.bd (evL es env) fun l => if l.length ≤ LB then M.ret (.list l) else M.no
  | .ix a i, env => M.bd (rd env a (evE a env)) fun x => M.bd (evE i env) fun y => match elemsD x, y with
    | some l, .int k => M.of (ixD l k)
    | _, _ => M.no
  | .sl a lo hi, env => M.bd (rd env a (evE a env)) fun x => M.bd (evE lo env) fun y => M.bd (evE hi env) fun z =>
    match prt lo y, prt hi z, x with
    | some p, some q, .list l => M.ret (.list (cutD l p q))
    | some p, some q, .tuple l => M.ret (.tuple (cutD l p q))
    | _, _, _ => M.no
  | .call f es, env => M.bd (evA es env) fun l => M.bd (C f l) fun d => lent (brw env es) d
  | .take r a, env => M.bd (evE a env) fun x => match env[r]?, x with
    | some .row, .int m => if 0 < m ∧ m < 1000000 then fun s => some (.int (drawn ns m s).1, (drawn ns m s).2) else M.no
    | _, _ => M.no
  | .f1 f a, env => M.bd (rd env a (evE a env)) fun x => M.of (f1D f x)
  | .isi a ts, env => M.bd (rd env a (evE a env)) fun x => M.ret (.bool (isiD x ts))
  | .count a b, env => M.bd (rd env a (evE a env)) fun x => M.bd (evE b env) fun y => match x, y with
    | .list l, .int k => (match intsD l with
      | some xs => M.ret (.int (xs.count k : Nat))
      | none => M.no)
    | _, _ => M.no
  | .index a b, env => M.bd (rd env a (evE a env)) fun x => M.bd (evE b env) fun y => match x with
    | .list l => if okD (.list l) && okD y then (match idxD l y with
      | some n => M.ret (.int (n : Nat))
      | none => M.no) else M.no
    | _ => M.no
  | .sset a, env => M.bd (rd env a (evE a env)) fun x => match elemsD x with
    | some l => (match intsD l with
      | some xs => if xs.length < 60 then M.ret (.list ((usort xs).map .int)) else M.no
      | none => M.no)
    | none => M.no
  | .lc own t it c e, env => M.bd (evI it env) fun l => M.bd (mapL (fun x => match bindT (wipeE env (own.map (·.2))) t x with
    | some env' => M.bd (evT c env') fun k => if k then M.bd (evE e env') fun y => M.ret (some y) else M.ret none
    | none => M.no) l) fun r => if r.length ≤ LB then M.ret (.list r) else M.no
  | .g k own t it e, env => M.bd (evI it env) fun l =>
    let f : PyData → M PyData := fun x => match bindT (wipeE env (own.map (·.2))) t x with
      | some env' => evE e env'
      | none => M.no
    match k with
    | .all => M.bd (allL f l) fun b => M.ret (.bool b)
    | .any => M.bd (anyL f l) fun b => M.ret (.bool b)
    | .sum => M.bd (sumL f 0 l) fun i => M.ret (.int i)
def evL : EL → List Slot → M (List PyData)
  | .nil, _ => M.ret []
  | .cons false e r, env => M.bd (evE e env) fun x => M.bd (evL r env) fun l => M.ret (x :: l)
  | .cons true e r, env => M.bd (rd env e (evE e env)) fun x => M.bd (evL r env) fun l => match elemsD x with
    | some q => M.ret (q ++ l)
    | none => M.no
def evA : EL → List Slot → M (List Slot)
  | .nil, _ => M.ret []
  | .cons false e r, env => M.bd (argOf env e (evE e env)) fun x => M.bd (evA r env) fun l => M.ret (x :: l)
  | .cons true _ _, _ => M.no
/-- the items that are walked -/
def evI : It → List Slot → M (List PyData)
  | .seq a, env => M.bd (rd env a (evE a env)) fun x => M.of (elemsD x)
  | .r1 a, env => M.bd (evE a env) fun x => match x with
    | .int n => if -100000 < n ∧ n < 100000 then M.ret (rngD 0 n.toNat) else M.no
    | _ => M.no
  | .r2 a b, env => M.bd (evE a env) fun x => M.bd (evE b env) fun y => match x, y with
    | .int i, .int j => if -100000 < i ∧ i < 100000 ∧ -100000 < j ∧ j < 100000 then M.ret (rngD i (j - i).toNat) else M.no
    | _, _ => M.no
  | .r3 a b c, env => M.bd (evE a env) fun x => M.bd (evE b env) fun y => match x, y with
    | .int i, .int j => if -100000 < i ∧ i < 100000 ∧ -100000 < j ∧ j < 100000 ∧ c = -1 then M.ret (rng3D i c (i - j).toNat) else M.no
    | _, _ => M.no
  | .enum a, env => M.bd (rd env a (evE a env)) fun x => match x with
    | .list l => M.ret (enumD 0 l)
    | .tuple l => M.ret (enumD 0 l)
    | _ => M.no
  | .zip a b, env => M.bd (rd env a (evE a env)) fun x => M.bd (rd env b (evE b env)) fun y => match x, y with
    | .list l, .list m => M.ret (zipD l m)
    | _, _ => M.no
/-- a test -/
def evT : E → List Slot → M Bool
  | .and a b, env => M.bd (evT a env) fun x => if x then evT b env else M.ret false
  | .or a b, env => M.bd (evT a env) fun x => if x then M.ret true else evT b env
  | .not a, env => M.bd (evT a env) fun x => M.ret !x
  | .var i, env => match env[i]? with
    | some (.sh d) => M.of (truthD d)
    | some (.ow l) => M.ret (!l.isEmpty)
    | _ => M.no
  | .int i, _ => M.ret (i != 0)
  | .bl b, _ => M.ret b
  | .cmp o a b, env => M.bd (rd env a (evE a env)) fun x => M.bd (rd env b (evE b env)) fun y => M.of (cmpD o x y)
  | .chn o p a b c, env => M.bd (evE a env) fun x => M.bd (evE b env) fun y => match cmpD o x y with
    | some true => M.bd (evE c env) fun z => M.of (cmpD p y z)
    | some false => M.ret false
    | none => M.no
  | .call f es, env => M.bd (evA es env) fun l => M.bd (C f l) fun d => M.bd (lent (brw env es) d) fun d => M.of (truthD d)
  | .isi a ts, env => M.bd (rd env a (evE a env)) fun x => M.ret (isiD x ts)
  | .g k own t it e, env => M.bd (evI it env) fun l =>
    let f : PyData → M PyData := fun x => match bindT (wipeE env (own.map (·.2))) t x with
      | some env' => evE e env'
      | none => M.no
    match k with
    | .all => allL f l
    | .any => anyL f l
    | .sum => M.bd (sumL f 0 l) fun i => M.ret (i != 0)
  | .ix a i, env => M.bd (rd env a (evE a env)) fun x => M.bd (evE i env) fun y => match elemsD x, y with
    | some l, .int k => M.bd (M.of (ixD l k)) fun d => M.of (truthD d)
    | _, _ => M.no
  | _, _ => M.no
end
/-! ### statements -/
/-- no own list is walked -/
def frOk (env : List Slot) : It → Bool
  | .seq a => !ownV env a
  | .enum a => !ownV env a
  | .zip a b => !ownV env a && !ownV env b
  | _ => true
inductive Out where
  | nx (env : List Slot) | rt (d : PyData) | bk (env : List Slot) | ct (env : List Slot)
def frL (f : List Slot → PyData → M Out) : List Slot → List PyData → M Out
  | env, [] => M.ret (.nx env)
  | env, x :: r => M.bd (f env x) fun o => match o with
    | .nx env' => frL f env' r
    | .ct env' => frL f env' r
    | .bk env' => M.ret (.nx env')
    | .rt d => M.ret (.rt d)
def whL (c : List Slot → M Bool) (f : List Slot → M Out) : Nat → List Slot → M Out
  | 0, _ => M.no
  | n + 1, env => M.bd (c env) fun t => if t then M.bd (f env) fun o => (match o with
    | .nx env' => whL c f n env'
    | .ct env' => whL c f n env'
    | .bk env' => M.ret (.nx env')
    | .rt d => M.ret (.rt d)) else M.ret (.nx env)
def isFr : E → Bool
  | .lst _ | .lc .. | .f1 .list _ | .f1 .sorted _ | .bin .add _ _ | .bin .mul _ _ => true
  | _ => false
def mkS (f : Bool) (d : PyData) : Slot := match f, d with
  | true, .list l => .ow l
  | _, d => .sh d
def setFr (env : List Slot) (i : Nat) (e : E) (d : PyData) : List Slot := env.set i (mkS (isFr e) d)
def setPar : List Slot → List Nat → EL → List PyData → Option (List Slot)
  | env, [], .nil, [] => some env
  | env, i :: is, .cons false e r, d :: ds => setPar (setFr env i e d) is r ds
  | _, _, _, _ => none
mutual
def exS : S → List Slot → M Out
  | .set i e, env => M.bd (evE ns C e env) fun d => M.ret (.nx (setFr env i e d))
  | .unp is e, env => M.bd (evE ns C e env) fun d => match d with
    | .tuple l => (match setAll env is l with
      | some env' => M.ret (.nx env')
      | none => M.no)
    | _ => M.no
  | .par is es, env => M.bd (evL ns C es env) fun l => match setPar env is es l with
    | some env' => M.ret (.nx env')
    | none => M.no
  | .put i k e, env => M.bd (evE ns C e env) fun d => M.bd (evE ns C k env) fun kk => match env[i]?, kk with
    | some (.ow l), .int j => if 0 ≤ j ∧ j < l.length then M.ret (.nx (env.set i (.ow (l.set j.toNat d)))) else M.no
    | _, _ => M.no
  | .app i e, env => M.bd (evE ns C e env) fun d => match env[i]? with
    | some (.ow l) => if l.length < LB then M.ret (.nx (env.set i (.ow (l ++ [d])))) else M.no
    | _ => M.no
  | .ret e, env => M.bd (evE ns C e env) fun d => M.ret (.rt d)
  | .retN, _ => M.ret (.rt .none)
  | .drop e, env => M.bd (evE ns C e env) fun _ => M.ret (.nx env)
  | .ite c a b, env => M.bd (evT ns C c env) fun t => if t then exL a env else exL b env
  | .fr t it b, env => if !frOk env it then M.no else M.bd (evI ns C it env) fun l => frL (fun env x => match bindT env t x with
    | some env' => exL b env'
    | none => M.no) env l
  | .wh c b, env => whL (fun env => evT ns C c env) (fun env => exL b env) 100000 env
  | .brk, env => M.ret (.bk env)
  | .cnt, env => M.ret (.ct env)
  | .pass, env => M.ret (.nx env)
  | .fail, _ => M.no
def exL : SL → List Slot → M Out
  | .nil, env => M.ret (.nx env)
  | .cons fz s r, env => M.bd (exS s (thaw env fz)) fun o => match o with
    | .nx env' => exL r env'
    | o => M.ret o
end
end
/-- a def of the table, called; n: how deep calls may go -/
def cal (T : List Fn) (ns : List Int) : Nat → CT
  | 0, _, _ => M.no
  | n + 1, f, args => match T[f]? with
    | some fn => if args.length = fn.np then M.bd (exL ns (cal T ns n) fn.body (args ++ List.replicate (fn.ns - fn.np) .no)) fun o => (match o with
      | .rt d => M.ret d
      | .nx _ => M.ret .none
      | _ => M.no) else M.no
    | none => M.no
end Cd
namespace Cd
open PySem PySem.Spec PyProof.Rows L2 GxR
/-! How plain data stands in the heap. B: places that no list in it may have. -/
mutual
inductive Rep (B : Addr → Prop) (H : Hp) : V → PyData → Prop
  | non : Rep B H .non .none
  | bl (b : Bool) : Rep B H (.bl b) (.bool b)
  | int (i : Int) : Rep B H (.int i) (.int i)
  | str (x : Str) : Rep B H (.str x) (.str x)
  | lst {a : Addr} {xs : List V} {ds : List PyData} (hb : ¬ B a) (h : H a = some (.lst xs)) (r : RepL B H xs ds) : Rep B H (.ref a) (.list ds)
  | tup {a : Addr} {xs : List V} {ds : List PyData} (hb : ¬ B a) (h : H a = some (.tup xs)) (r : RepL B H xs ds) : Rep B H (.ref a) (.tuple ds)
inductive RepL (B : Addr → Prop) (H : Hp) : List V → List PyData → Prop
  | nil : RepL B H [] []
  | cons {v : V} {vs : List V} {d : PyData} {ds : List PyData} (a : Rep B H v d) (r : RepL B H vs ds) : RepL B H (v :: vs) (d :: ds)
end
section
variable {B B' : Addr → Prop} {H H' : Hp}
mutual
theorem Rep.mono (hl : ∀ q xs, ¬ B q → H q = some (.lst xs) → ¬ B' q ∧ H' q = some (.lst xs)) (ht : ∀ q xs, ¬ B q → H q = some (.tup xs) → ¬ B' q ∧ H' q = some (.tup xs)) : ∀ {v : V} {d : PyData}, Rep B H v d → Rep B' H' v d
  | _, _, .non => .non
  | _, _, .bl b => .bl b
  | _, _, .int i => .int i
  | _, _, .str x => .str x
  | _, _, .lst hb h r => .lst (hl _ _ hb h).1 (hl _ _ hb h).2 (RepL.mono hl ht r)
  | _, _, .tup hb h r => .tup (ht _ _ hb h).1 (ht _ _ hb h).2 (RepL.mono hl ht r)
theorem RepL.mono (hl : ∀ q xs, ¬ B q → H q = some (.lst xs) → ¬ B' q ∧ H' q = some (.lst xs)) (ht : ∀ q xs, ¬ B q → H q = some (.tup xs) → ¬ B' q ∧ H' q = some (.tup xs)) : ∀ {vs : List V} {ds : List PyData}, RepL B H vs ds → RepL B' H' vs ds
  | _, _, .nil => .nil
  | _, _, .cons a r => .cons (Rep.mono hl ht a) (RepL.mono hl ht r)
end
mutual
theorem Rep.dp {K : PySem.W.Frag} : ∀ {v : V} {d : PyData}, Rep B H v d → Dp K H v d
  | _, _, .non => .non
  | _, _, .bl b => .bl b
  | _, _, .int i => .int i
  | _, _, .str x => .str x
  | _, _, .lst _ h r => .lst (.of h) (RepL.dp r)
  | _, _, .tup _ h r => .tup (.of h) (RepL.dp r)
theorem RepL.dp {K : PySem.W.Frag} : ∀ {vs : List V} {ds : List PyData}, RepL B H vs ds → DpAll K H vs ds
  | _, _, .nil => .nil
  | _, _, .cons a r => .cons (Rep.dp a) (RepL.dp r)
end
theorem RepL.length : ∀ {vs : List V} {ds : List PyData}, RepL B H vs ds → vs.length = ds.length
  | _, _, .nil => rfl
  | _, _, .cons _ r => by rw [List.length_cons, List.length_cons, r.length]
theorem RepL.get : ∀ {vs : List V} {ds : List PyData} {i : Nat} {d : PyData}, RepL B H vs ds → ds[i]? = some d → ∃ v, vs[i]? = some v ∧ Rep B H v d
  | _, _, _, _, .nil, e => by simp at e
  | _, _, 0, _, .cons a r, e => by simp at e; subst e; exact ⟨_, rfl, a⟩
  | _, _, i + 1, d, .cons _ r, e => by
    obtain ⟨v, h1, h2⟩ := r.get (i := i) (d := d) (by simpa using e)
    exact ⟨v, by simpa using h1, h2⟩
theorem RepL.app : ∀ {vs ws : List V} {ds es : List PyData}, RepL B H vs ds → RepL B H ws es → RepL B H (vs ++ ws) (ds ++ es)
  | _, _, _, _, .nil, s => s
  | _, _, _, _, .cons a r, s => .cons a (r.app s)
theorem RepL.set {v : V} {d : PyData} (a : Rep B H v d) : ∀ {vs : List V} {ds : List PyData} (i : Nat), RepL B H vs ds → RepL B H (vs.set i v) (ds.set i d)
  | _, _, _, .nil => .nil
  | _, _, 0, .cons _ r => .cons a r
  | _, _, i + 1, .cons b r => .cons b (RepL.set a i r)
theorem RepL.take : ∀ {vs : List V} {ds : List PyData} (n : Nat), RepL B H vs ds → RepL B H (vs.take n) (ds.take n)
  | _, _, 0, _ => .nil
  | _, _, _ + 1, .nil => .nil
  | _, _, n + 1, .cons a r => .cons a (r.take n)
theorem RepL.drop : ∀ {vs : List V} {ds : List PyData} (n : Nat), RepL B H vs ds → RepL B H (vs.drop n) (ds.drop n)
  | _, _, 0, r => r
  | _, _, _ + 1, .nil => .nil
  | _, _, n + 1, .cons _ r => RepL.drop n r
theorem RepL.ints : ∀ {vs : List V} {ds : List PyData} {ns : List Int}, RepL B H vs ds → intsD ds = some ns → vs = ns.map V.int
  | _, _, _, .nil, e => by cases e; rfl
  | _, _, _, .cons (d := d) a r, e => by
    cases d with
    | int i =>
      cases a
      unfold intsD at e
      split at e
      · rename_i l hl
        cases e
        rw [r.ints hl]; rfl
      · cases e
    | _ => cases e
theorem RepL.ofInts : ∀ (ns : List Int), RepL B H (ns.map V.int) (ns.map PyData.int)
  | [] => .nil
  | i :: r => .cons (.int i) (RepL.ofInts r)
theorem RepL.rep {v : V} {d : PyData} (a : Rep B H v d) : ∀ n : Nat, RepL B H (List.replicate n v) (List.replicate n d)
  | 0 => .nil
  | n + 1 => .cons a (RepL.rep a n)
end
/-- what may be read though the list itself may be an own one; r: the row's place -/
def RepW (r : Addr) (B : Addr → Prop) (H : Hp) (v : V) (d : PyData) : Prop := Rep B H v d ∨ ∃ a xs ds, v = .ref a ∧ d = .list ds ∧ a ≠ r ∧ H a = some (.lst xs) ∧ RepL B H xs ds
theorem RepW.dp {r : Addr} {B : Addr → Prop} {H : Hp} {K : PySem.W.Frag} {v : V} {d : PyData} (h : RepW r B H v d) : Dp K H v d := by
  rcases h with h | ⟨a, xs, ds, rfl, rfl, _, h, r⟩
  · exact h.dp
  · exact .lst (.of h) r.dp
theorem RepW.list {r : Addr} {B : Addr → Prop} {H : Hp} {v : V} {ds : List PyData} (hr : B r) (h : RepW r B H v (.list ds)) : ∃ a xs, v = .ref a ∧ a ≠ r ∧ H a = some (.lst xs) ∧ RepL B H xs ds := by
  rcases h with h | ⟨a, xs, ds', rfl, e, hn, h, r⟩
  · cases h with
    | lst hb h r => exact ⟨_, _, rfl, fun z => hb (z ▸ hr), h, r⟩
  · cases e; exact ⟨a, xs, rfl, hn, h, r⟩
theorem RepW.tuple {r : Addr} {B : Addr → Prop} {H : Hp} {v : V} {ds : List PyData} (h : RepW r B H v (.tuple ds)) : ∃ a xs, v = .ref a ∧ ¬ B a ∧ H a = some (.tup xs) ∧ RepL B H xs ds := by
  rcases h with h | ⟨a, xs, ds', rfl, e, _, h, r⟩
  · cases h with
    | tup hb h r => exact ⟨_, _, rfl, hb, h, r⟩
  · cases e
theorem RepW.elems {r : Addr} {B : Addr → Prop} {H : Hp} {v : V} {d : PyData} {l : List PyData} (hr : B r) (h : RepW r B H v d) (e : elemsD d = some l) : ∃ a xs, v = .ref a ∧ a ≠ r ∧ (H a = some (.lst xs) ∨ H a = some (.tup xs)) ∧ RepL B H xs l := by
  cases d with
  | list ds => cases e; obtain ⟨a, xs, h1, hn, h2, h3⟩ := h.list hr; exact ⟨a, xs, h1, hn, .inl h2, h3⟩
  | tuple ds => cases e; obtain ⟨a, xs, h1, hb, h2, h3⟩ := h.tuple; exact ⟨a, xs, h1, fun z => hb (z ▸ hr), .inr h2, h3⟩
  | _ => cases e
theorem RepW.int {r : Addr} {B : Addr → Prop} {H : Hp} {v : V} {i : Int} (h : RepW r B H v (.int i)) : v = .int i := by
  rcases h with h | ⟨a, xs, ds, rfl, e, _, h, r⟩
  · cases h; rfl
  · cases e
theorem RepW.atom {r : Addr} {B : Addr → Prop} {H : Hp} {v : V} {d : PyData} (hd : ∀ l, d ≠ .list l) (h : RepW r B H v d) : Rep B H v d := by
  rcases h with h | ⟨a, xs, ds, rfl, e, _, h, r⟩
  · exact h
  · exact absurd e (hd _)
theorem Rep.intE {B : Addr → Prop} {H : Hp} {v : V} {i : Int} (h : Rep B H v (.int i)) : v = .int i := by cases h; rfl
theorem Rep.blE {B : Addr → Prop} {H : Hp} {v : V} {b : Bool} (h : Rep B H v (.bool b)) : v = .bl b := by cases h; rfl
theorem Rep.nonE {B : Addr → Prop} {H : Hp} {v : V} (h : Rep B H v .none) : v = .non := by cases h; rfl
/-! ### what is fixed through a law -/
structure Fx where
  r : Addr
  scr : Addr
  ns : List Int
  tabs : List Addr
  T : List Fn
  /-- the written part of the module -/
  K : PySem.W.Frag
  /-- the names of T's defs -/
  dn : List Str
  /-- whole numbers of the module, by name -/
  gi : List (Str × Int)
  /-- a name that the row is drawn by -/
  tk : Str
def RsOk (rs : RS) : Prop := 0 ≤ rs.seed ∧ rs.seed < 2147483647
structure Wd (F : Fx) (H : Hp) (rs : RS) : Prop where
  row : H F.r = some (.lst [.ref F.scr, .int rs.idx, .int rs.seed, .int rs.car])
  scr : SqL F.K H F.scr (F.ns.map V.int)
  tab : ∀ p ∈ F.tabs, TabG H p
  ok : RsOk rs
def Ext (F : Fx) (H H' : Hp) : Prop := ∀ q o, H q = some o → q ≠ F.r → q ∉ F.tabs → H' q = some o
theorem Ext.refl {F : Fx} {H : Hp} : Ext F H H := fun _ _ h _ _ => h
theorem Ext.trans {F : Fx} {H H' H'' : Hp} (a : Ext F H H') (b : Ext F H' H'') : Ext F H H'' := fun q o h h1 h2 => b q o (a q o h h1 h2) h1 h2
def Same (H H' : Hp) : Prop := ∀ q o, H q = some o → H' q = some o
theorem Same.ext {F : Fx} {H H' : Hp} (h : Same H H') : Ext F H H' := fun q o e _ _ => h q o e
theorem Same.new {H : Hp} {p : Addr} {o : HO} (h : H p = none) : Same H (upd H p o) := fun q u e => by rw [upd_ne (ne_of_none e h)]; exact e
theorem SqL.same {K : PySem.W.Frag} {H H' : Hp} {a : Addr} {xs : List V} (h : SqL K H a xs) (s : Same H H') : SqL K H' a xs := by
  rcases h with (h | ⟨o, h⟩) | h
  · exact .inl (.inl (s _ _ h))
  · exact .inl (.inr ⟨o, s _ _ h⟩)
  · exact .inr h
theorem Wd.same {F : Fx} {H H' : Hp} {rs : RS} (h : Wd F H rs) (s : Same H H') : Wd F H' rs :=
  ⟨s _ _ h.row, SqL.same h.scr s, fun p hp => let ⟨ps, e, t⟩ := h.tab p hp; ⟨ps, s _ _ e, t⟩, h.ok⟩
/-! ### slots -/
def SR (F : Fx) (B : Addr → Prop) (H : Hp) : Slot → Option (Option V) → Prop
  | .no, _ => True
  | .sh d, o => ∃ v, o = some (some v) ∧ Rep B H v d
  | .ow ds, o => ∃ p xs, o = some (some (.ref p)) ∧ p ≠ F.r ∧ H p = some (.lst xs) ∧ RepL B H xs ds
  | .row, o => o = some (some (.ref F.r))
def ownAt (env : List Slot) (σ : L2.St) (i : Nat) (p : Addr) : Prop := ∃ ds, env[i]? = some (.ow ds) ∧ σ[i]? = some (some (.ref p))
def Bn (B0 : Addr → Prop) (env : List Slot) (σ : L2.St) : Addr → Prop := fun q => B0 q ∨ ∃ i, ownAt env σ i q
structure Rl (F : Fx) (B0 : Addr → Prop) (H0 : Hp) (σ : L2.St) (H : Hp) (env : List Slot) (rs : RS) : Prop where
  len : env.length = σ.length
  sl : ∀ (i : Nat) (s : Slot), env[i]? = some s → SR F (Bn B0 env σ) H s σ[i]?
  dj : ∀ (i j : Nat) (p : Addr), ownAt env σ i p → ownAt env σ j p → i = j
  fr : ∀ (i : Nat) (p : Addr), ownAt env σ i p → H0 p = none
  b0 : ∀ q, B0 q → ∃ o, H0 q = some o
  br : B0 F.r
  w0 : ∃ r0, Wd F H0 r0
  ext : Ext F H0 H
  wd : Wd F H rs
section
variable {F : Fx} {B0 : Addr → Prop} {H0 : Hp} {σ : L2.St} {H H' : Hp} {env : List Slot} {rs rs' : RS}
theorem Rl.t0 (R : Rl F B0 H0 σ H env rs) : ∀ p ∈ F.tabs, ∃ ps, H0 p = some (.tbl ps) := fun p hp => by
  obtain ⟨r0, w⟩ := R.w0
  obtain ⟨ps, e, _⟩ := w.tab p hp
  exact ⟨ps, e⟩
theorem Rl.ownT (R : Rl F B0 H0 σ H env rs) {i : Nat} {p : Addr} (h : ownAt env σ i p) : p ≠ F.r ∧ p ∉ F.tabs := by
  have h0 := R.fr i p h
  refine ⟨fun z => ?_, fun z => ?_⟩
  · obtain ⟨o, e⟩ := R.b0 _ R.br
    rw [← z, h0] at e; cases e
  · obtain ⟨ps, e⟩ := R.t0 p z
    rw [h0] at e; cases e
theorem keepB {B : Addr → Prop} (hr : B F.r) (hw : Wd F H rs) (he : Ext F H H') : (∀ q xs, ¬ B q → H q = some (.lst xs) → ¬ B q ∧ H' q = some (.lst xs)) ∧ ∀ q xs, ¬ B q → H q = some (.tup xs) → ¬ B q ∧ H' q = some (.tup xs) := by
  refine ⟨fun q xs hb h => ⟨hb, he q _ h (fun z => hb (z ▸ hr)) fun z => ?_⟩, fun q xs hb h => ⟨hb, he q _ h (fun z => hb (z ▸ hr)) fun z => ?_⟩⟩
  · obtain ⟨ps, e, _⟩ := hw.tab q z
    rw [h] at e; cases e
  · obtain ⟨ps, e, _⟩ := hw.tab q z
    rw [h] at e; cases e
theorem Rep.ext {B : Addr → Prop} {v : V} {d : PyData} (hr : B F.r) (hw : Wd F H rs) (he : Ext F H H') (h : Rep B H v d) : Rep B H' v d := h.mono (keepB hr hw he).1 (keepB hr hw he).2
theorem RepL.ext {B : Addr → Prop} {v : List V} {d : List PyData} (hr : B F.r) (hw : Wd F H rs) (he : Ext F H H') (h : RepL B H v d) : RepL B H' v d := h.mono (keepB hr hw he).1 (keepB hr hw he).2
theorem Rl.bn (R : Rl F B0 H0 σ H env rs) : Bn B0 env σ F.r := .inl R.br
/-- every banned place is tracked -/
theorem Rl.bt (R : Rl F B0 H0 σ H env rs) {q : Addr} (h : Bn B0 env σ q) : ∃ o, H q = some o := by
  rcases h with h | ⟨i, ds, h1, h2⟩
  · obtain ⟨o, e⟩ := R.b0 q h
    by_cases hq : q = F.r
    · rw [hq]; exact ⟨_, R.wd.row⟩
    · by_cases ht : q ∈ F.tabs
      · obtain ⟨ps, e, _⟩ := R.wd.tab q ht
        exact ⟨_, e⟩
      · exact ⟨o, R.ext q o e hq ht⟩
  · obtain ⟨p, xs, e1, _, e2, _⟩ := R.sl i _ h1
    rw [h2] at e1; cases e1
    exact ⟨_, e2⟩
theorem Rl.fresh (R : Rl F B0 H0 σ H env rs) {p : Addr} (h : H p = none) : ¬ Bn B0 env σ p := fun z => by
  obtain ⟨o, e⟩ := R.bt z
  rw [h] at e; cases e
theorem Rl.next (R : Rl F B0 H0 σ H env rs) (he : Ext F H H') (hw : Wd F H' rs') : Rl F B0 H0 σ H' env rs' where
  len := R.len
  sl := fun i s e => by
    have h := R.sl i s e
    cases s with
    | no => trivial
    | sh d =>
      obtain ⟨v, e1, r⟩ := h
      exact ⟨v, e1, r.ext R.bn R.wd he⟩
    | ow ds =>
      obtain ⟨p, xs, e1, hn, e2, r⟩ := h
      have := R.ownT ⟨ds, e, e1⟩
      exact ⟨p, xs, e1, hn, he _ _ e2 this.1 this.2, r.ext R.bn R.wd he⟩
    | row => exact h
  dj := R.dj
  fr := R.fr
  b0 := R.b0
  br := R.br
  w0 := R.w0
  ext := R.ext.trans he
  wd := hw
end
/-- what an expression may rely on; B: the banned places -/
structure RE (F : Fx) (B : Addr → Prop) (σ : L2.St) (H : Hp) (env : List Slot) (rs : RS) : Prop where
  len : env.length = σ.length
  sl : ∀ (i : Nat) (s : Slot), env[i]? = some s → SR F B H s σ[i]?
  br : B F.r
  bt : ∀ q, B q → ∃ o, H q = some o
  wd : Wd F H rs
theorem Rl.re {F : Fx} {B0 : Addr → Prop} {H0 : Hp} {σ : L2.St} {H : Hp} {env : List Slot} {rs : RS} (R : Rl F B0 H0 σ H env rs) : RE F (Bn B0 env σ) σ H env rs := ⟨R.len, R.sl, R.bn, fun _ => R.bt, R.wd⟩
theorem Wd.notTab {F : Fx} {H : Hp} {rs : RS} (w : Wd F H rs) {q : Addr} {xs : List V} (h : H q = some (.lst xs) ∨ H q = some (.tup xs)) : q ∉ F.tabs := fun z => by
  obtain ⟨ps, e, _⟩ := w.tab q z
  rcases h with h | h <;> (rw [h] at e; cases e)
section
variable {F : Fx} {B : Addr → Prop} {σ : L2.St} {H H' : Hp} {env : List Slot} {rs rs' : RS}
theorem RE.bt' (R : RE F B σ H env rs) (he : Ext F H H') (hw : Wd F H' rs') : ∀ q, B q → ∃ o, H' q = some o := fun q hq => by
  obtain ⟨o, e⟩ := R.bt q hq
  by_cases h1 : q = F.r
  · rw [h1]; exact ⟨_, hw.row⟩
  · by_cases h2 : q ∈ F.tabs
    · obtain ⟨ps, e, _⟩ := hw.tab q h2
      exact ⟨_, e⟩
    · exact ⟨o, he q o e h1 h2⟩
theorem RE.next (R : RE F B σ H env rs) (he : Ext F H H') (hw : Wd F H' rs') : RE F B σ H' env rs' where
  len := R.len
  sl := fun i s e => by
    have h := R.sl i s e
    cases s with
    | no => trivial
    | sh d =>
      obtain ⟨v, e1, r⟩ := h
      exact ⟨v, e1, r.ext R.br R.wd he⟩
    | ow ds =>
      obtain ⟨p, xs, e1, hn, e2, r⟩ := h
      exact ⟨p, xs, e1, hn, he _ _ e2 hn (R.wd.notTab (.inl e2)), r.ext R.br R.wd he⟩
    | row => exact h
  br := R.br
  bt := R.bt' he hw
  wd := hw
theorem RepW.ext {v : V} {d : PyData} (hr : B F.r) (hw : Wd F H rs) (he : Ext F H H') (h : RepW F.r B H v d) : RepW F.r B H' v d := by
  rcases h with h | ⟨a, xs, ds, rfl, rfl, hn, h, r⟩
  · exact .inl (h.ext hr hw he)
  · exact .inr ⟨a, xs, ds, rfl, rfl, hn, he _ _ h hn (hw.notTab (.inl h)), r.ext hr hw he⟩
theorem RE.fresh (R : RE F B σ H env rs) {p : Addr} (h : H p = none) : ¬ B p := fun z => by
  obtain ⟨o, e⟩ := R.bt p z
  rw [h] at e; cases e
/-- what is free now was free before -/
theorem noneBack (he : Ext F H H') (hw : Wd F H' rs) {p : Addr} (h : H' p = none) : H p = none := by
  cases e : H p with
  | none => rfl
  | some o =>
    exfalso
    by_cases h1 : p = F.r
    · rw [h1, hw.row] at h; cases h
    · by_cases h2 : p ∈ F.tabs
      · obtain ⟨ps, e2, _⟩ := hw.tab p h2
        rw [h] at e2; cases e2
      · rw [he p o e h1 h2] at h; cases h
end
/-! ### readings -/
section
variable (F : Fx) (n : Nat)
/-- a list that is new: its own place is in none of its items -/
abbrev Frs (B : Addr → Prop) (H : Hp) (v : V) (H' : Hp) (d : PyData) : Prop := ∀ l, d = .list l → ∃ p xs, v = .ref p ∧ H p = none ∧ H' p = some (.lst xs) ∧ RepL (fun q => B q ∨ q = p) H' xs l
/-- an expression's reading; fr: a list is a new one -/
def tE (fr : Bool) (ir : E) : TE := fun σ H Q => ∃ B env rs d rs', RE F B σ H env rs ∧ evE F.ns (cal F.T F.ns n) ir env rs = some (d, rs') ∧
  ∀ v H', Ext F H H' → Wd F H' rs' → Rep B H' v d → (fr = true → Frs B H v H' d) → Q v H'
/-- .. where an own list may be read -/
def tW (ir : E) : TE := fun σ H Q => ∃ B env rs d rs', RE F B σ H env rs ∧ rd env ir (evE F.ns (cal F.T F.ns n) ir env) rs = some (d, rs') ∧
  ∀ v H', Ext F H H' → Wd F H' rs' → RepW F.r B H' v d → (ownV env ir = false → Rep B H' v d) → Q v H'
def tT (ir : E) : TT := fun σ H Q => ∃ B env rs b rs', RE F B σ H env rs ∧ evT F.ns (cal F.T F.ns n) ir env rs = some (b, rs') ∧ ∀ H', Ext F H H' → Wd F H' rs' → Q b H'
def tL (es : EL) : TA := fun σ H Q => ∃ B env rs l rs', RE F B σ H env rs ∧ evL F.ns (cal F.T F.ns n) es env rs = some (l, rs') ∧
  ∀ vs H', Ext F H H' → Wd F H' rs' → RepL B H' vs l → Q vs H'
inductive ArgR (F : Fx) (B : Addr → Prop) (H : Hp) : List V → List Slot → Prop
  | nil : ArgR F B H [] []
  | row {vs : List V} {l : List Slot} : ArgR F B H vs l → ArgR F B H (.ref F.r :: vs) (.row :: l)
  | sh {v : V} {d : PyData} {vs : List V} {l : List Slot} : Rep B H v d → ArgR F B H vs l → ArgR F B H (v :: vs) (.sh d :: l)
def tA (es : EL) : TA := fun σ H Q => ∃ B env rs l rs', RE F B σ H env rs ∧ evA F.ns (cal F.T F.ns n) es env rs = some (l, rs') ∧
  ∀ vs H' (P : Addr → Prop), Ext F H H' → Wd F H' rs' → (∀ q, P q → q ≠ F.r ∧ ∃ xs, H' q = some (.lst xs)) → (brw env es = false → ∀ q, ¬ P q) → ArgR F (fun q => B q ∧ ¬ P q) H' vs l → Q vs H'
end
theorem ArgR.length {F : Fx} {B : Addr → Prop} {H : Hp} : ∀ {vs : List V} {l : List Slot}, ArgR F B H vs l → vs.length = l.length
  | _, _, .nil => rfl
  | _, _, .row r => by rw [List.length_cons, List.length_cons, r.length]
  | _, _, .sh _ r => by rw [List.length_cons, List.length_cons, r.length]
theorem ArgR.ext {F : Fx} {B : Addr → Prop} {H H' : Hp} {rs : RS} (hr : B F.r) (hw : Wd F H rs) (he : Ext F H H') : ∀ {vs : List V} {l : List Slot}, ArgR F B H vs l → ArgR F B H' vs l
  | _, _, .nil => .nil
  | _, _, .row r => .row (r.ext hr hw he)
  | _, _, .sh a r => .sh (a.ext hr hw he) (r.ext hr hw he)
/-- a def's promise -/
def spF (F : Fx) (n f : Nat) : Sp := fun vs H Q _ => ∃ (B : Addr → Prop) (l : List Slot) (rs : RS) (d : PyData) (rs' : RS), B F.r ∧ (∀ q, B q → ∃ o, H q = some o) ∧ Wd F H rs ∧ ArgR F B H vs l ∧
  cal F.T F.ns n f l rs = some (d, rs') ∧ ∀ v H', Ext F H H' → Wd F H' rs' → Rep B H' v d → Q v H'
def spTake (F : Fx) : Sp := fun vs H Q _ => ∃ (m : Int) (rs : RS), vs = [.ref F.r, .int m] ∧ 0 < m ∧ m < 1000000 ∧ Wd F H rs ∧
  ∀ H', Ext F H H' → Wd F H' (drawn F.ns m rs).2 → Q (.int (drawn F.ns m rs).1) H'
theorem _root_.L2.PE.weak {X : Cx} {e : Expr} {t t' : TE} (h : PE X e t) (w : ∀ σ H Q, t' σ H Q → t σ H Q) : PE X e t' := ⟨fun pins s σ H Q I q => h.run pins s σ H Q I (w σ H Q q)⟩
theorem _root_.L2.PT.weak {X : Cx} {e : Expr} {t t' : TT} (h : PT X e t) (w : ∀ σ H Q, t' σ H Q → t σ H Q) : PT X e t' := ⟨fun pins s σ H Q I q => h.run pins s σ H Q I (w σ H Q q)⟩
theorem _root_.L2.PA.weak {X : Cx} {e : List Expr} {t t' : TA} (h : PA X e t) (w : ∀ σ H Q, t' σ H Q → t σ H Q) : PA X e t' := ⟨fun pos pins s σ H Q I q => h.run pos pins s σ H Q I (w σ H Q q)⟩
theorem _root_.L2.PS.weak {X : Cx} {e : Stmt} {t t' : TS} (h : PS X e t) (w : ∀ D σ H, t' D σ H → t D σ H) : PS X e t' := ⟨fun pins s σ H D I q => h.run pins s σ H D I (w D σ H q)⟩
theorem _root_.L2.PSs.weak {X : Cx} {e : List Stmt} {t t' : TS} (h : PSs X e t) (w : ∀ D σ H, t' D σ H → t D σ H) : PSs X e t' := ⟨fun pins s σ H D I q => h.run pins s σ H D I (w D σ H q)⟩
theorem _root_.L2.PG.weak {X : Cx} {e : Expr} {t t' : TG} (h : PG X e t) (w : ∀ v σ H Q, t' v σ H Q → t v σ H Q) : PG X e t' := ⟨fun pins s σ H v u Q I r q => h.run pins s σ H v u Q I r (w v σ H Q q)⟩
/-- a plain expression reading is one for own lists, too -/
theorem tW_of {F : Fx} {n : Nat} {fr : Bool} {ir : E} (hv : ∀ i, ir ≠ .var i) {σ : L2.St} {H : Hp} {Q : VK} (h : tW F n ir σ H Q) : tE F n fr ir σ H Q := by
  obtain ⟨B, env, rs, d, rs', R, e, q⟩ := h
  refine ⟨B, env, rs, d, rs', R, ?_, fun v H' h1 h2 h3 _ => q v H' h1 h2 (.inl h3) fun _ => h3⟩
  cases ir with
  | var i => exact absurd rfl (hv i)
  | _ => exact e
theorem tE_fr {F : Fx} {n : Nat} {fr : Bool} {ir : E} {σ : L2.St} {H : Hp} {Q : VK} (h : tE F n false ir σ H Q) : tE F n fr ir σ H Q := by
  obtain ⟨B, env, rs, d, rs', R, e, q⟩ := h
  exact ⟨B, env, rs, d, rs', R, e, fun v H' h1 h2 h3 _ => q v H' h1 h2 h3 fun z => by cases z⟩
end Cd
namespace Cd
open PySem PySem.Spec PyProof.Rows L2 GxR
/-! A tuple, once and no times. -/
theorem once_w {l : Addr} {its : Array Value} {n : Nat} {dd : Option Addr} {sl : Array (Option Value)} {u : Tok} :
    Meets (Builtin.«tuple.__mul__» ⟨[.ref l, .int 1 u], []⟩) (fun _ R s => s.heap.get? l = some { cls := .type "tuple", dict := dd, data := .seq its n, slots := sl } ∧ R (.ok (.ret (.ref l))) s) :=
  .of_wp fun prog w A R s h => by
    obtain ⟨hp, gg, d0, tk, os⟩ := s
    have hl := h.1
    have h2 := h.2
    have f1 := AutoSeq1.idx_int
    have q0 : (decide ((1 : Int) < -(2 ^ 63)) || decide ((1 : Int) ≥ 2 ^ 63)) = false := by decide
    have q1 : (its.isEmpty || (1 : Int) == 1) = true := by rw [Bool.or_eq_true]; exact .inr rfl
    wp_walk using wpAny_loadPart' hl
    repeat (first
      | (refine wpAny_ite_false (decide_eq_false (by rw [q0]; exact nofun)) ?_; wp_walk using wpAny_loadPart' hl)
      | (refine wpAny_ite_true (decide_eq_true (by rw [q1])) ?_; wp_walk using wpAny_loadPart' hl))
    exact ⟨_, rfl, h2⟩
theorem never_w {l : Addr} {its : Array Value} {n : Nat} {dd : Option Addr} {sl : Array (Option Value)} {u : Tok} (hi : its.isEmpty = false) :
    Meets (Builtin.«tuple.__mul__» ⟨[.ref l, .int 0 u], []⟩) (fun _ R s => s.heap.get? l = some { cls := .type "tuple", dict := dd, data := .seq its n, slots := sl } ∧
      R (.ok (.ret (.ref s.heap.objs.size))) { s with heap := s.heap.push { cls := .type "tuple", data := .seq #[] }, toks := s.toks }) :=
  .of_wp fun prog w A R s h => by
    obtain ⟨hp, gg, d0, tk, os⟩ := s
    have hl := h.1
    have h2 := h.2
    have f1 := AutoSeq1.idx_int
    have q0 : (decide ((0 : Int) < -(2 ^ 63)) || decide ((0 : Int) ≥ 2 ^ 63)) = false := by decide
    have q1 : (its.isEmpty || (0 : Int) == 1) = false := by rw [hi]; rfl
    have q2 : (decide ((0 : Int) ≤ 0) || its.isEmpty) = true := by rw [Bool.or_eq_true]; exact .inl rfl
    wp_walk using wpAny_loadPart' hl
    repeat (first
      | (refine wpAny_ite_false (decide_eq_false (by rw [q0]; exact nofun)) ?_; wp_walk using wpAny_loadPart' hl)
      | (refine wpAny_ite_false (decide_eq_false (by rw [q1]; exact nofun)) ?_; wp_walk using wpAny_loadPart' hl)
      | (refine wpAny_ite_true (decide_eq_true (by rw [q2])) ?_; wp_walk using wpAny_loadPart' hl))
    exact ⟨_, rfl, h2⟩
section
variable {X : Cx}
/-- a tuple that holds something, times 0 or 1 -/
def rFew (K : PySem.W.Frag) : R2 := fun x y H Q => ∃ l k xs, x = .ref l ∧ y = .int k ∧ SqT K H l xs ∧ xs ≠ [] ∧ ((k = 1 ∧ Q (.ref l) H) ∨ (k = 0 ∧ ∀ p, H p = none → Q (.ref p) (upd H p (.tup []))))
theorem op_few : OpR X (binaryOp .Mult) (rFew X.K) := by
  intro pins s σ H x y v u Q I rx ry hq
  obtain ⟨l, k, xs, rfl, rfl, hT, hne, cs⟩ := hq
  cases rx
  obtain ⟨t, rfl⟩ := ry
  obtain ⟨its, r, ⟨⟨cls, dd, data, sl⟩, ho, hc, n, hd⟩, hs⟩ := I.tuple hT
  simp only at hc hd
  subst hc hd
  have hi : its.toArray.isEmpty = false := by
    cases its with
    | nil => exact absurd (List.eq_nil_of_length_eq_zero r.length) hne
    | cons a b => rfl
  rcases cs with ⟨rfl, q⟩ | ⟨rfl, q⟩
  · exact wpAny_binaryOp_repeat_ref (T := "tuple") (U := "int") (by decide) ⟨_, ho, rfl⟩ (fun z => typeIs_int z 1 t) noFill_tuple_mul F.fills_int_mul F.slot_int_rmul repeat_tuple F.slot_int_index.lookup
      (call_meets F.slot_int_rmul (typeIs_int s 1 t) F.entry_int_rmul (F.args_int_rmul_2 _ _) (int_rmul_tuple 1 t l its.toArray n dd sl)
        ⟨ho, rfl, ⟨_, ho, rfl⟩, call_meets F.slot_tuple_mul ⟨_, ho, rfl⟩ F.entry_tuple_mul (F.args_tuple_mul_2 _ _) once_w ⟨ho, .ref l, H, I, rfl, q⟩⟩)
  · refine wpAny_binaryOp_repeat_ref (T := "tuple") (U := "int") (by decide) ⟨_, ho, rfl⟩ (fun z => typeIs_int z 0 t) noFill_tuple_mul F.fills_int_mul F.slot_int_rmul repeat_tuple F.slot_int_index.lookup
      (call_meets F.slot_int_rmul (typeIs_int s 0 t) F.entry_int_rmul (F.args_int_rmul_2 _ _) (int_rmul_tuple 0 t l its.toArray n dd sl)
        ⟨ho, rfl, ⟨_, ho, rfl⟩, call_meets F.slot_tuple_mul ⟨_, ho, rfl⟩ F.entry_tuple_mul (F.args_tuple_mul_2 _ _) (never_w hi) ⟨ho, ?_⟩⟩)
    refine ⟨.ref s.heap.objs.size, _, I.laid (t' := s.toks) (o := .tup []) (fun b ob z => Heap.get?_push_of_some _ z) (Nat.le_refl _) ?_, rfl, q _ (I.hok.fresh (Nat.le_refl _))⟩
    exact ⟨by rw [sizeLine_eq]; simp, [], .nil, IsTup.new _ _⟩
/-- the sum of a tuple of small numbers -/
def rSumT (K : PySem.W.Frag) : List V → Hp → VK → Prop := fun vs H Q => ∃ (a : Addr) (ns : List Int), vs = [V.ref a] ∧ SqT K H a (ns.map V.int) ∧ ns.length ≤ 1000 ∧ (∀ i ∈ ns, -1000000 ≤ i ∧ i ≤ 1000000) ∧ Q (.int ns.sum) H
theorem pre_take (ns : List Int) : ∀ j, preSum (fun i => ns.getD i 0) j = (ns.take j).sum
  | 0 => by simp [preSum]
  | j + 1 => by
    rw [preSum, pre_take ns j, List.take_succ, List.sum_append]
    congr 1
    show ns.getD j 0 = _
    rw [List.getD_eq_getElem?_getD]
    cases ns[j]? <;> simp
theorem sum_bnd : ∀ (l : List Int), (∀ i ∈ l, -1000000 ≤ i ∧ i ≤ 1000000) → -1000000 * (l.length : Int) ≤ l.sum ∧ l.sum ≤ 1000000 * (l.length : Int)
  | [], _ => by simp
  | x :: r, h => by
    have h1 := h x List.mem_cons_self
    have h2 := sum_bnd r fun i hi => h i (List.mem_cons_of_mem _ hi)
    rw [List.sum_cons, List.length_cons]
    omega
theorem cr_sumT (hc : X.calm = true) : CallR X (.builtin "sum") (rSumT X.K) := by
  intro pins s σ H vs us Q I r h
  obtain ⟨a, ns, rfl, hT, hl, hb, q⟩ := h
  obtain ⟨its, rv, p, _⟩ := I.tuple hT
  rw [Vals.ref1 r]
  have hi := rv.ints
  have ln := hi.length
  have la : a < s.heap.objs.size := by obtain ⟨_, z, _⟩ := p; exact Heap.lt_size z
  have hd : (X.A.in1).handled = none := I.ok.hd hc
  refine call_sum_walk (wpAny_pyIter_tuple p ?_)
  refine ⟨s.heap.objs.size, _, _, _, _, _, fun i => ns.getD i 0, rfl, Walks.tuple hd _ a (Nat.ne_of_lt la) its.toArray, ⟨⟨_, Heap.get?_push_size _ rfl, rfl, rfl⟩, by obtain ⟨o, z1, z2⟩ := p; exact ⟨o, Heap.get?_push_of_some _ z1, z2⟩⟩, fun b hb => ?_, fun i v hv => ?_, fun j hj => ?_, fun h' tk t' hk => ?_⟩
  · have hz : b = s.heap.objs.size ∨ b = a := by simpa using hb
    show b < (s.heap.push _).objs.size
    rw [Heap.size_push]
    rcases hz with z | z
    · rw [z]; exact Nat.lt_succ_self _
    · rw [z]; exact Nat.lt_succ_of_lt la
  · have hv2 : its[i]? = some v := by simpa using hv
    obtain ⟨m, t, e, hn⟩ := hi.at i v hv2
    refine ⟨t, ?_⟩
    show v = Value.int (ns.getD i 0) t
    rw [e, List.getD_eq_getElem?_getD, hn]; rfl
  · have hj2 : j < ns.length := by
      have : j < its.length := by simpa using hj
      omega
    have b1 : ns.getD j 0 ∈ ns := by rw [List.getD_eq_getElem?_getD, List.getElem?_eq_getElem hj2]; exact List.getElem_mem hj2
    have b2 := hb _ b1
    have b3 := sum_bnd (ns.take (j + 1)) fun i hi => hb i (List.mem_of_mem_take hi)
    rw [List.length_take] at b3
    rw [pre_take]
    show (-(2 ^ 63) ≤ ns.getD j 0 ∧ ns.getD j 0 < 2 ^ 63) ∧ (-(2 ^ 63) ≤ (ns.take (j + 1)).sum ∧ (ns.take (j + 1)).sum < 2 ^ 63)
    omega
  · have e : preSum (fun i => ns.getD i 0) its.toArray.size = ns.sum := by
      rw [pre_take, List.take_of_length_le (by rw [List.size_toArray]; omega)]
    rw [e]
    exact ⟨.int _, H, I.kept (t' := tk) fun b o z => hk b o (fun y => by
      have : b = s.heap.objs.size := by simpa using y
      have l := Heap.lt_size z
      rw [this] at l
      exact Nat.lt_irrefl _ l) (Heap.get?_push_of_some _ z), ⟨_, rfl⟩, q⟩
end
end Cd
namespace Cd
open PySem PySem.Spec PyProof.Rows L2 GxR
/-! The set of a tuple of whole numbers. -/
theorem insU_mem (x k : Int) : ∀ l, k ∈ insU x l ↔ k = x ∨ k ∈ l
  | [] => by simp [insU]
  | y :: r => by
    unfold insU
    by_cases h : x < y
    · simp [h]
    · by_cases e : x = y
      · subst e; simp
      · simp only [h, e, if_false, List.mem_cons, insU_mem x k r]
        constructor
        · rintro (h | h | h) <;> simp [h]
        · rintro (h | h | h) <;> simp [h]
theorem insU_sorted (x : Int) : ∀ l, List.Pairwise (· < ·) l → List.Pairwise (· < ·) (insU x l)
  | [], _ => by simp [insU]
  | y :: r, h => by
    rw [List.pairwise_cons] at h
    unfold insU
    by_cases hx : x < y
    · rw [if_pos hx]
      refine List.pairwise_cons.mpr ⟨fun z hz => ?_, List.pairwise_cons.mpr h⟩
      rcases List.mem_cons.mp hz with rfl | hz
      · exact hx
      · have := h.1 z hz; omega
    · rw [if_neg hx]
      by_cases e : x = y
      · rw [if_pos e]; exact List.pairwise_cons.mpr h
      · rw [if_neg e]
        refine List.pairwise_cons.mpr ⟨fun z hz => ?_, insU_sorted x r h.2⟩
        rcases (insU_mem x z r).mp hz with rfl | hz
        · omega
        · exact h.1 z hz
theorem usort_mem (k : Int) : ∀ l, k ∈ usort l ↔ k ∈ l
  | [] => by simp [usort]
  | x :: r => by rw [usort, insU_mem, usort_mem k r, List.mem_cons]
theorem usort_sorted : ∀ l, List.Pairwise (· < ·) (usort l)
  | [] => .nil
  | x :: r => insU_sorted x _ (usort_sorted r)
theorem asc_eq : ∀ {a b : List Int}, List.Pairwise (· < ·) a → List.Pairwise (· < ·) b → (∀ k, k ∈ a ↔ k ∈ b) → a = b
  | [], [], _, _, _ => rfl
  | [], y :: r, _, _, h => by have := (h y).mpr List.mem_cons_self; simp at this
  | x :: r, [], _, _, h => by have := (h x).mp List.mem_cons_self; simp at this
  | x :: r, y :: q, h1, h2, h => by
    rw [List.pairwise_cons] at h1 h2
    have e : x = y := by
      have a := (h x).mp List.mem_cons_self
      have b := (h y).mpr List.mem_cons_self
      rcases List.mem_cons.mp a with a | a
      · exact a
      · rcases List.mem_cons.mp b with b | b
        · exact b.symm
        · have := h1.1 _ b; have := h2.1 _ a; omega
    subst e
    rw [asc_eq h1.2 h2.2 fun k => ?_]
    constructor
    · intro hk
      rcases List.mem_cons.mp ((h k).mp (List.mem_cons_of_mem _ hk)) with z | z
      · subst z; exact absurd (h1.1 _ hk) (Int.lt_irrefl _)
      · exact z
    · intro hk
      rcases List.mem_cons.mp ((h k).mpr (List.mem_cons_of_mem _ hk)) with z | z
      · subst z; exact absurd (h2.1 _ hk) (Int.lt_irrefl _)
      · exact z
theorem call_set_listI {P : Program} {w : World} {A : Around} {E : Value → Shared → Prop} {s : Shared} {l : Addr} {items : Array Value} (ns : List Int) {Q : Value → Shared → Prop}
    (hh : A.handled = none) (hl : s.heap.IsList l items) (hit : IntsAre items.toList ns) (hb : ns.length + 1 < scanBound)
    (h : ∀ (h' : Heap) (tk c : Nat), SetR w h' s.heap.objs.size (fun j => decide (j ∈ ns)) c → c ≤ ns.length → (∀ (b : Addr) (o : Obj), s.heap.get? b = some o → h'.get? b = some o) → Q (.ref s.heap.objs.size) { s with heap := h', toks := tk }) :
    wpAny (model P w) A (call (.type "set") [.ref l]) Q E s := by
  have hisz : items.size = ns.length := by have := hit.length; simpa using this
  obtain ⟨c, tl, hmro⟩ := F.called_set.mro
  have hmade := F.called_set.made
  have hsub := F.called_set.sub
  refine wpAny_call (codeAny_of_tree (wpAny_pure ⟨Code.quiet_builtin _ (by decide +kernel), codeAny_builtin F.entry_type_call ?_⟩))
  rw [Around.under_plain (weight_type_call_type "set" [.ref l] []) rfl]
  have h1 := F.called_set.notType
  have h2 := F.called_set.canCreate
  have hct := F.typeCall_set_1 (.ref l)
  wp_walk using wpAny_of_eq hct, wpAny_of_eq hmro, wpAny_of_eq hmade
  let s0 : Shared := ⟨s.heap.push { cls := .type "set", data := .set #[] 0 (SetTable.fresh 0 0 !w.params.followText "set-order") }, s.gens, s.drawn, s.toks, s.os⟩
  refine codeAny_mono (L2.code_set_led1 (.ref l) (E := fun _ _ => False) (Q₁ := fun v s1 => v = .ref s.heap.objs.size ∧ s1 = s0) ⟨rfl, rfl⟩) fun r s1 hr => ?_
  cases r with
  | error e => exact False.elim hr
  | ok fl =>
    cases fl with
    | ret v =>
      obtain ⟨rfl, rfl⟩ : v = .ref s.heap.objs.size ∧ s1 = s0 := hr
      have hT : s0.TypeIs (.ref s.heap.objs.size) "set" := ⟨_, Heap.get?_push_size _ rfl, rfl⟩
      have hS : s0.heap.get? s.heap.objs.size = some { cls := .type "set", data := .set #[] 0 (SetTable.fresh 0 0 !w.params.followText "set-order") } := Heap.get?_push_size _ rfl
      have hli := F.called_set.init.lookup
      have hbi := F.called_set.init.bind (.ref s.heap.objs.size)
      wp_walk using wpAny_isInstance hT hsub, wpAny_specialOf hT hli, wpAny_of_eq hbi
      refine codeAny_call_builtin F.called_set.init.plain F.entry_set_init (check_set_init_1 hT ?_)
      obtain ⟨ol, hol, hcl, nl, hd⟩ := hl
      obtain ⟨cl, dd, dt, sl⟩ := ol
      simp only at hcl hd
      subst hcl hd
      have hol' : s0.heap.get? l = some { cls := .type "list", dict := dd, data := .seq items nl, slots := sl } := Heap.get?_push_of_some _ hol
      have hsls := F.sub_list_set
      have hslf := F.sub_list_frozenset
      have hl1 : s0.heap.IsList l items := ⟨_, hol', rfl, nl, rfl⟩
      wp_walk using wpAny_typeOf hT, wpAny_load' hS, wpAny_loadPart' hol', wpAny_of_eq hsls, wpAny_of_eq hslf, wpAny_pyIter_list hl1
      have hh3 : A.in1.in1.in1.handled = none := hh
      have ls : s.heap.objs.size < s0.heap.objs.size := by show _ < (s.heap.push _).objs.size; rw [Heap.size_push]; exact Nat.lt_succ_self _
      have ll : l < s.heap.objs.size := Heap.lt_size hol
      have hne : l ≠ s0.heap.objs.size := Nat.ne_of_lt (Nat.lt_trans ll ls)
      have hit2 : ∀ (i : Nat) (v : Value), items[i]? = some v → ∃ k t, ns[i]? = some k ∧ v = .int k t := fun i v hv => by
        obtain ⟨m, t, e, hn⟩ := hit.at i v (by simpa using hv)
        exact ⟨m, t, hn, e⟩
      have hSf : ¬ s.heap.objs.size ∈ [s0.heap.objs.size, l] := fun z => by
        rcases List.mem_cons.mp z with z | z
        · exact Nat.ne_of_lt ls z
        · exact Nat.ne_of_gt ll (List.mem_singleton.mp z)
      refine set_update_ints (Walks.toS (Walks.list hh3 s0.heap.objs.size l hne items)) s.heap.objs.size hSf ns hisz hb hit2 (items.size - 0) 0 _ rfl (Nat.zero_le _) ?_ ?_ fun s' c hm hc hS2 => ?_
      · exact ⟨⟨_, Heap.get?_push_size _ rfl, rfl, rfl⟩, ⟨_, Heap.get?_push_of_some _ hol', rfl, nl, rfl⟩⟩
      · exact ⟨0, Nat.le_refl _, setR_new_at (Heap.get?_push_of_some _ hS)⟩
      · have hk : ∀ (b : Addr) (o : Obj), s.heap.get? b = some o → s'.heap.get? b = some o := fun b o q => by
          have lb := Heap.lt_size q
          have q2 : (s0.heap.push { cls := Value.type "list_iterator", data := .fields #[.ref l, .int 0 0] }).get? b = some o := Heap.get?_push_of_some _ (Heap.get?_push_of_some _ q)
          refine hm.heap b o (fun z => ?_) q2
          rcases List.mem_cons.mp z with z | z
          · exact Nat.ne_of_lt lb z
          · exact Nat.ne_of_lt (Nat.lt_trans lb ls) (List.mem_singleton.mp z)
        have g1 := hm.gens
        have g2 := hm.drawn
        have g3 := hm.os
        obtain ⟨hp, gg, d0, tk, os⟩ := s'
        have e1 : gg = s.gens := g1
        have e2 : d0 = s.drawn := g2
        have e3 : os = s.os := g3
        subst e1 e2 e3
        wp_walk using wpAny_typeOf hT
        exact h hp tk c hS2 (by omega) hk
    | _ => exact False.elim hr
section
variable {X : Cx}
def rSetT (K : PySem.W.Frag) (w : World) : List V → Hp → VK → Prop := fun vs H Q => ∃ (a : Addr) (ns : List Int), vs = [V.ref a] ∧ (SqL K H a (ns.map V.int) ∨ SqT K H a (ns.map V.int)) ∧ ns.length < 60 ∧ ∀ p c, H p = none → c ≤ ns.length → Q (.ref p) (upd H p (SetO w p (fun j => decide (j ∈ ns)) c))
theorem cr_setT (hc : X.calm = true) : CallR X (.type "set") (rSetT X.K X.w) := by
  intro pins s σ H vs us Q I r h
  obtain ⟨a, ns, rfl, hT, hl, q⟩ := h
  rw [Vals.ref1 r]
  have hd : (X.A.in1).handled = none := I.ok.hd hc
  have hb : ns.length + 1 < scanBound := by
    have : (1000 : Nat) < scanBound := by decide
    omega
  have hf : H s.heap.objs.size = none := I.hok.fresh (Nat.le_refl _)
  rcases hT with hT | hT
  · obtain ⟨its, rv, p, _⟩ := I.list hT
    refine call_set_listI ns hd p.isList rv.ints hb fun h' tk c hS hcn hk => ?_
    exact ⟨.ref s.heap.objs.size, _, I.laid hk (Nat.le_refl _) (setO_new hS), rfl, q _ _ hf hcn⟩
  · obtain ⟨its, rv, p, _⟩ := I.tuple hT
    refine call_set_tupI ns hd p rv.ints hb fun h' tk c hS hcn hk => ?_
    exact ⟨.ref s.heap.objs.size, _, I.laid hk (Nat.le_refl _) (setO_new hS), rfl, q _ _ hf hcn⟩
end
end Cd
namespace Cd
open PySem PySem.Spec PyProof.Rows L2 GxR
/-! Rules by values, over data. -/
abbrev Fre (B : Addr → Prop) (H : Hp) : Prop := ∀ p, H p = none → ¬ B p
/-- whoever is given d's representation in a later heap goes on -/
def Give (B : Addr → Prop) (H : Hp) (d : PyData) (fr : Bool) (Q : VK) : Prop := ∀ v H', Same H H' → Rep B H' v d → (fr = true → Frs B H v H' d) → Q v H'
theorem Same.refl {H : Hp} : Same H H := fun _ _ h => h
theorem Same.trans {H H' H'' : Hp} (a : Same H H') (b : Same H' H'') : Same H H'' := fun q o h => b q o (a q o h)
theorem Rep.same {B : Addr → Prop} {H H' : Hp} {v : V} {d : PyData} (s : Same H H') (h : Rep B H v d) : Rep B H' v d := h.mono (fun q xs b e => ⟨b, s _ _ e⟩) fun q xs b e => ⟨b, s _ _ e⟩
theorem RepL.same {B : Addr → Prop} {H H' : Hp} {v : List V} {d : List PyData} (s : Same H H') (h : RepL B H v d) : RepL B H' v d := h.mono (fun q xs b e => ⟨b, s _ _ e⟩) fun q xs b e => ⟨b, s _ _ e⟩
section
variable {B : Addr → Prop} {H : Hp} {fr : Bool} {d : PyData} {ds : List PyData} {v : V} {xs : List V} {Q : VK} {p : Addr}
theorem give_at (g : Give B H d fr Q) (h : Rep B H v d) (hd : ∀ l, d ≠ .list l) : Q v H := g v H Same.refl h fun _ l e => absurd e (hd l)
theorem give_lst (g : Give B H (.list ds) fr Q) (f : Fre B H) (r : RepL B H xs ds) (hp : H p = none) : Q (.ref p) (upd H p (.lst xs)) :=
  g _ _ (Same.new hp) (.lst (f p hp) upd_same (r.same (Same.new hp))) fun _ l e => by cases e; exact ⟨p, xs, rfl, hp, upd_same, r.mono (fun q ys b h => ⟨fun z => z.elim b fun z => (by rw [z, hp] at h; cases h), Same.new hp _ _ h⟩) fun q ys b h => ⟨fun z => z.elim b fun z => (by rw [z, hp] at h; cases h), Same.new hp _ _ h⟩⟩
theorem give_tup (g : Give B H (.tuple ds) fr Q) (f : Fre B H) (r : RepL B H xs ds) (hp : H p = none) : Q (.ref p) (upd H p (.tup xs)) :=
  g _ _ (Same.new hp) (.tup (f p hp) upd_same (r.same (Same.new hp))) fun _ l e => by cases e
end
theorem flat_one {α : Type} (x : α) : ∀ n : Nat, (List.replicate n [x]).flatten = List.replicate n x
  | 0 => rfl
  | n + 1 => by rw [List.replicate_succ, List.flatten_cons, flat_one x n, List.replicate_succ]; rfl
def bopO : Bop → Operator
  | .add => .Add | .sub => .Sub | .mul => .Mult | .fdiv => .FloorDiv | .mod => .Mod
def rB (F : Fx) (o : Bop) (fr : Bool) : R2 := fun x y H Q => ∃ (B : Addr → Prop) (dx dy d : PyData), B F.r ∧ Fre B H ∧ RepW F.r B H x dx ∧ RepW F.r B H y dy ∧ binD o dx dy = some d ∧ Give B H d fr Q
theorem big_lt {a : Int} (h : big a = true) : a.natAbs.log2 < 4000 := by simpa [big] using h
theorem op_bin {X : Cx} {F : Fx} (o : Bop) (fr : Bool) : OpR X (binaryOp (bopO o)) (rB F o fr) := by
  intro pins s σ H x y v u Q I rx ry ⟨B, dx, dy, d, br, f, hx, hy, e, g⟩
  unfold binD at e
  split at e
  · cases e
    have h1 := hx.int; have h2 := hy.int; subst h1 h2
    exact op_add pins s σ H _ _ v u Q I rx ry ⟨_, _, rfl, rfl, give_at g (.int _) nofun⟩
  · rename_i a b
    split at e
    · rename_i hl
      cases e
      obtain ⟨p, xs, rfl, _, ha, ra⟩ := hx.list br
      obtain ⟨q, ys, rfl, _, hb, rb⟩ := hy.list br
      refine op_cat pins s σ H _ _ v u Q I rx ry ⟨p, q, xs, ys, rfl, rfl, ha, hb, ?_, fun l hl => give_lst g f (ra.app rb) hl⟩
      rw [ra.length, rb.length, sizeLine_eq]; unfold LB at hl; omega
    · cases e
  · rename_i a b
    split at e
    · rename_i hl
      cases e
      obtain ⟨p, xs, rfl, hp, ha, ra⟩ := hx.tuple
      obtain ⟨q, ys, rfl, hq, hb, rb⟩ := hy.tuple
      refine op_catA pins s σ H _ _ v u Q I rx ry ⟨p, q, xs, ys, rfl, rfl, .of ha, .of hb, ?_, fun z => ?_, fun _ z => ?_, fun _ _ l hl => give_tup g f (ra.app rb) hl⟩
      · rw [ra.length, rb.length, sizeLine_eq]; unfold LB at hl; omega
      · subst z; cases ra; exact give_at g (.tup hq hb rb) nofun
      · subst z; cases rb; rw [List.append_nil] at g; exact give_at g (.tup hp ha ra) nofun
    · cases e
  · cases e
    have h1 := hx.int; have h2 := hy.int; subst h1 h2
    exact op_sub pins s σ H _ _ v u Q I rx ry ⟨_, _, rfl, rfl, give_at g (.int _) nofun⟩
  · split at e
    · rename_i hb
      cases e
      have h1 := hx.int; have h2 := hy.int; subst h1 h2
      rw [Bool.and_eq_true] at hb
      have b1 := big_lt hb.1; have b2 := big_lt hb.2
      exact op_mulW pins s σ H _ _ v u Q I rx ry ⟨_, _, rfl, rfl, by unfold CMulW; omega, give_at g (.int _) nofun⟩
    · cases e
  · rename_i z b
    split at e
    · rename_i hb
      cases e
      obtain ⟨p, xs, rfl, _, ha, ra⟩ := hx.list br
      have h2 := hy.int; subst h2
      cases ra with
      | cons a r =>
        cases r
        refine op_rep pins s σ H _ _ v u Q I rx ry ⟨p, _, _, rfl, rfl, ha, by omega, by omega, ?_, fun l hl => ?_⟩
        · rw [sizeLine_eq]; simp only [List.length_cons, List.length_nil]; omega
        · rw [flat_one]; exact give_lst g f (RepL.rep a _) hl
    · cases e
  · rename_i z b
    split at e
    · rename_i hb
      cases e
      obtain ⟨p, xs, rfl, hp, ha, ra⟩ := hx.tuple
      have h2 := hy.int; subst h2
      cases ra with
      | cons a r =>
        cases r
        by_cases b1 : b = 1
        · subst b1
          exact op_few pins s σ H _ _ v u Q I rx ry ⟨p, _, _, rfl, rfl, .of ha, nofun, .inl ⟨rfl, give_at g (.tup hp ha (.cons a .nil)) nofun⟩⟩
        by_cases b0 : b = 0
        · subst b0
          exact op_few pins s σ H _ _ v u Q I rx ry ⟨p, _, _, rfl, rfl, .of ha, nofun, .inr ⟨rfl, fun l hl => give_tup g f .nil hl⟩⟩
        refine op_repT pins s σ H _ _ v u Q I rx ry ⟨p, _, _, rfl, rfl, .of ha, nofun, by omega, hb.2, by simp, fun l hl => ?_⟩
        rw [flat_one]; exact give_tup g f (RepL.rep a _) hl
    · cases e
  · split at e
    · rename_i hb
      cases e
      have h1 := hx.int; have h2 := hy.int; subst h1 h2
      have b2 := big_lt hb.2
      exact op_fdivW pins s σ H _ _ v u Q I rx ry ⟨_, _, rfl, rfl, ⟨hb.1, by omega⟩, give_at g (.int _) nofun⟩
    · cases e
  · split at e
    · rename_i hb
      cases e
      have h1 := hx.int; have h2 := hy.int; subst h1 h2
      exact op_mod pins s σ H _ _ v u Q I rx ry ⟨_, _, rfl, rfl, hb, give_at g (.int _) nofun⟩
    · cases e
  · cases e
/-! ### comparisons -/
def copO : Cop → CmpOp
  | .eq => .Eq | .ne => .NotEq | .lt => .Lt | .le => .LtE | .gt => .Gt | .ge => .GtE | .isin => .In | .notin => .NotIn | .isN => .Is | .isNotN => .IsNot | .isB => .Is | .notB => .IsNot
theorem op_inTD {X : Cx} (hu : X.A.units + 65 < cLine) : OpR X (compareOp .In) fun x y H Q => ∃ d ds, Dp X.K H x d ∧ Dp X.K H y (.tuple ds) ∧ SeqAt.shaped d = true ∧ SeqAt.shaped (.tuple ds) = true ∧ Q (.bl (ds.any fun z => PyData.eqv z d)) H := by
  intro pins s σ H x y v u Q I rx ry ⟨d, ds, hd, he, sd, se, q⟩
  obtain ⟨as, r1⟩ := Dp.reads I d x v hd rx
  obtain ⟨bs, r2⟩ := Dp.reads I (.tuple ds) y u he ry
  exact SeqAt.in_tuple_reads r2 r1 (SeqAt.canLay_of_shaped se) (SeqAt.canLay_of_shaped sd) (room_in_shaped sd hu) ⟨.bl _, H, I, rfl, q⟩
theorem op_notInTD {X : Cx} (hu : X.A.units + 65 < cLine) : OpR X (compareOp .NotIn) fun x y H Q => ∃ d ds, Dp X.K H x d ∧ Dp X.K H y (.tuple ds) ∧ SeqAt.shaped d = true ∧ SeqAt.shaped (.tuple ds) = true ∧ Q (.bl (!ds.any fun z => PyData.eqv z d)) H := by
  intro pins s σ H x y v u Q I rx ry ⟨d, ds, hd, he, sd, se, q⟩
  obtain ⟨as, r1⟩ := Dp.reads I d x v hd rx
  obtain ⟨bs, r2⟩ := Dp.reads I (.tuple ds) y u he ry
  exact SeqAt.notIn_tuple_reads r2 r1 (SeqAt.canLay_of_shaped se) (SeqAt.canLay_of_shaped sd) (room_in_shaped sd hu) ⟨.bl _, H, I, rfl, q⟩
theorem ltI_lex : ∀ a b : List Int, ltI a b = HT.lexLt a b
  | [], [] => rfl
  | [], _ :: _ => rfl
  | _ :: _, [] => rfl
  | x :: xs, y :: ys => by
    rw [HT.lexLt_cons]
    show (if x = y then ltI xs ys else decide (x < y)) = _
    rw [ltI_lex xs ys]
theorem op_isB {X : Cx} : OpR X (compareOp .Is) fun x y H Q => ∃ a b, x = .bl a ∧ y = .bl b ∧ Q (.bl (a == b)) H := by
  intro pins s σ H x y v u Q I rx ry ⟨a, b, hx, hy, q⟩
  subst hx hy
  cases rx
  cases ry
  have e : compareOp .Is (Value.bool a) (Value.bool b) = pure (.bool (a == b)) := by cases a <;> cases b <;> rfl
  rw [e]
  exact wpAny_pure ⟨.bl _, H, I, rfl, q⟩
theorem op_notB {X : Cx} : OpR X (compareOp .IsNot) fun x y H Q => ∃ a b, x = .bl a ∧ y = .bl b ∧ Q (.bl (!(a == b))) H := by
  intro pins s σ H x y v u Q I rx ry ⟨a, b, hx, hy, q⟩
  subst hx hy
  cases rx
  cases ry
  have e : compareOp .IsNot (Value.bool a) (Value.bool b) = pure (.bool (!(a == b))) := by cases a <;> cases b <;> rfl
  rw [e]
  exact wpAny_pure ⟨.bl _, H, I, rfl, q⟩
def rC (F : Fx) (o : Cop) : R2 := fun x y H Q => ∃ (B : Addr → Prop) (dx dy : PyData) (c : Bool), B F.r ∧ RepW F.r B H x dx ∧ RepW F.r B H y dy ∧ cmpD o dx dy = some c ∧ (o = .isN ∨ o = .isNotN → dy = .none) ∧ Q (.bl c) H
theorem decNon {B : Addr → Prop} {r : Addr} {H : Hp} {x : V} {d : PyData} (h : RepW r B H x d) : decide (x = V.non) = nonD d := by
  rcases h with h | ⟨a, xs, ds, rfl, rfl, _, h, r⟩
  · cases h <;> rfl
  · rfl
theorem op_cmp {X : Cx} {F : Fx} (hu : X.A.units + 65 < cLine) (o : Cop) : OpR X (compareOp (copO o)) (rC F o) := by
  intro pins s σ H x y v u Q I rx ry ⟨B, dx, dy, c, br, hx, hy, e, hn, g⟩
  unfold cmpD at e
  split at e
  · split at e
    · rename_i hs
      cases e
      rw [Bool.and_eq_true] at hs
      exact op_eqD (by omega) pins s σ H _ _ v u Q I rx ry ⟨_, _, hx.dp, hy.dp, hs.1, hs.2, g⟩
    · cases e
  · split at e
    · rename_i hs
      cases e
      rw [Bool.and_eq_true] at hs
      exact op_neD (by omega) pins s σ H _ _ v u Q I rx ry ⟨_, _, hx.dp, hy.dp, hs.1, hs.2, g⟩
    · cases e
  · cases e; have h1 := hx.int; have h2 := hy.int; subst h1 h2
    exact op_lt pins s σ H _ _ v u Q I rx ry ⟨_, _, rfl, rfl, g⟩
  · cases e; have h1 := hx.int; have h2 := hy.int; subst h1 h2
    exact op_le pins s σ H _ _ v u Q I rx ry ⟨_, _, rfl, rfl, g⟩
  · cases e; have h1 := hx.int; have h2 := hy.int; subst h1 h2
    exact op_gt pins s σ H _ _ v u Q I rx ry ⟨_, _, rfl, rfl, g⟩
  · cases e; have h1 := hx.int; have h2 := hy.int; subst h1 h2
    exact op_ge pins s σ H _ _ v u Q I rx ry ⟨_, _, rfl, rfl, g⟩
  · split at e
    · rename_i a b ns ms h1 h2
      cases e
      obtain ⟨p, xs, rfl, _, ha, ra⟩ := hx.tuple
      obtain ⟨q, ys, rfl, _, hb, rb⟩ := hy.tuple
      have e1 := ra.ints h1; have e2 := rb.ints h2; subst e1 e2
      exact op_ltT (by omega) pins s σ H _ _ v u Q I rx ry ⟨p, q, ns, ms, rfl, rfl, .of ha, .of hb, by rw [← ltI_lex]; exact g⟩
    · cases e
  · split at e
    · split at e
      · rename_i l hl hs
        cases e
        rw [Bool.and_eq_true] at hs
        cases dy <;> cases hl
        · exact op_inD hu pins s σ H _ _ v u Q I rx ry ⟨_, _, hx.dp, hy.dp, hs.1, hs.2, g⟩
        · exact op_inTD hu pins s σ H _ _ v u Q I rx ry ⟨_, _, hx.dp, hy.dp, hs.1, hs.2, g⟩
      · cases e
    · cases e
  · split at e
    · split at e
      · rename_i l hl hs
        cases e
        rw [Bool.and_eq_true] at hs
        cases dy <;> cases hl
        · exact op_notInD hu pins s σ H _ _ v u Q I rx ry ⟨_, _, hx.dp, hy.dp, hs.1, hs.2, g⟩
        · exact op_notInTD hu pins s σ H _ _ v u Q I rx ry ⟨_, _, hx.dp, hy.dp, hs.1, hs.2, g⟩
      · cases e
    · cases e
  · cases e
    have h2 := hn (.inl rfl); subst h2
    refine op_isN pins s σ H _ _ v u Q I rx ry ⟨Rep.nonE (RepW.atom (d := .none) (fun l z => by cases z) hy), ?_⟩
    rw [decNon hx]; exact g
  · cases e
    have h2 := hn (.inr rfl); subst h2
    refine op_notN pins s σ H _ _ v u Q I rx ry ⟨Rep.nonE (RepW.atom (d := .none) (fun l z => by cases z) hy), ?_⟩
    rw [decNon hx]; exact g
  · cases e
    have h1 := Rep.blE (hx.atom nofun); have h2 := Rep.blE (hy.atom nofun); subst h1 h2
    exact op_isB pins s σ H _ _ v u Q I rx ry ⟨_, _, rfl, rfl, g⟩
  · cases e
    have h1 := Rep.blE (hx.atom nofun); have h2 := Rep.blE (hy.atom nofun); subst h1 h2
    exact op_notB pins s σ H _ _ v u Q I rx ry ⟨_, _, rfl, rfl, g⟩
  · cases e
/-! ### items -/
theorem ixD_at {B : Addr → Prop} {H : Hp} {xs : List V} {ds : List PyData} {i : Int} {d : PyData} (r : RepL B H xs ds) (h : ixD ds i = some d) : ∃ v, atI xs i = some v ∧ Rep B H v d := by
  unfold ixD at h
  have hl := r.length
  split at h
  · rename_i h0
    obtain ⟨v, e, k⟩ := r.get h
    refine ⟨v, ?_, k⟩
    unfold atI ixN
    obtain ⟨hlt, _⟩ := List.getElem?_eq_some_iff.mp e
    rw [if_pos h0, if_pos (by omega)]; exact e
  · rename_i h0
    split at h
    · rename_i h1
      obtain ⟨v, e, k⟩ := r.get h
      refine ⟨v, ?_, k⟩
      unfold atI ixN
      rw [if_neg h0, if_pos (by omega), hl]; exact e
    · cases h
def rX (F : Fx) : R2 := fun x y H Q => ∃ (B : Addr → Prop) (dx : PyData) (l : List PyData) (k : Int) (d : PyData), B F.r ∧ RepW F.r B H x dx ∧ elemsD dx = some l ∧ y = .int k ∧ ixD l k = some d ∧ ∀ v, Rep B H v d → Q v H
theorem ix_any {X : Cx} {F : Fx} : IxR X (rX F) := by
  have h0 : IxR X (fun x y H Q => rIxL X.K x y H Q ∨ rIxT X.K x y H Q) := IxR.or ix_list ix_tup
  intro value slice pins s σ H x y v u Q I rx ry ⟨B, dx, l, k, d, br, hx, hl, hk, e, g⟩ hs
  obtain ⟨a, xs, rfl, _, hh, r⟩ := hx.elems br hl
  obtain ⟨w, e2, rw_⟩ := ixD_at r e
  refine h0 value slice pins s σ H _ _ v u Q I rx ry ?_ hs
  rcases hh with hh | hh
  · exact .inl ⟨a, xs, k, w, rfl, hk, .of hh, e2, g w rw_⟩
  · exact .inr ⟨a, xs, k, w, rfl, hk, .of hh, e2, g w rw_⟩
/-- a list or a tuple -/
def seqD : Bool → List PyData → PyData
  | true, l => .list l
  | false, l => .tuple l
theorem partD_sIx {n d : Nat} (o : Option Int) : HT.sIx n d o = partD n d o := by
  cases o with
  | none => rfl
  | some i =>
    show (if i < 0 then (i + (n : Int)).toNat else min i.toNat n) = (if 0 ≤ i then min i.toNat n else (i + n).toNat)
    by_cases h : 0 ≤ i
    · rw [if_neg (by omega), if_pos h]
    · rw [if_pos (by omega), if_neg h]
theorem cutD_rep {B : Addr → Prop} {H : Hp} {xs : List V} {ds : List PyData} (r : RepL B H xs ds) (lo hi : Option Int) : RepL B H (cutV xs lo hi) (cutD ds lo hi) := by
  unfold cutV cutD
  rw [r.length, partD_sIx, partD_sIx]
  exact RepL.take _ (RepL.drop _ r)
theorem cutD_all {ds : List PyData} {lo hi : Option Int} (h1 : HT.sIx ds.length 0 lo = 0) (h2 : HT.sIx ds.length ds.length hi = ds.length) : cutD ds lo hi = ds := by
  rw [partD_sIx] at h1 h2
  unfold cutD
  rw [h1, h2]
  simp
def rS (F : Fx) : V → Option Int → Option Int → Hp → VK → Prop := fun x lo hi H Q => ∃ (B : Addr → Prop) (b : Bool) (l : List PyData), B F.r ∧ Fre B H ∧ RepW F.r B H x (seqD b l) ∧ Give B H (seqD b (cutD l lo hi)) false Q
theorem sl_any {X : Cx} {F : Fx} : L2.SlR X (rS F) := by
  have h0 := L2.SlR.or (X := X) sl_list sl_tupA
  intro pins s σ H x v vl vu lo hi sl Q I rx hs pl pu ⟨B, b, l, br, f, hx, g⟩
  refine h0 pins s σ H x v vl vu lo hi sl Q I rx hs pl pu ?_
  cases b with
  | true =>
    obtain ⟨a, xs, rfl, _, hh, r⟩ := RepW.list (ds := l) br hx
    exact .inl ⟨a, xs, rfl, .of hh, fun p hp => give_lst g f (cutD_rep r lo hi) hp⟩
  | false =>
    obtain ⟨a, xs, rfl, hb, hh, r⟩ := RepW.tuple (ds := l) hx
    refine .inr ⟨a, xs, rfl, .of hh, fun ⟨h1, h2⟩ => ?_, fun _ p hp => give_tup g f (cutD_rep r lo hi) hp⟩
    rw [r.length] at h1 h2
    have e := cutD_all h1 h2
    rw [e] at g
    exact give_at g (.tup hb hh r) nofun
end Cd
namespace Cd
open PySem PySem.Spec PyProof.Rows L2 GxR C8
theorem bdS {α β : Type} {m : M α} {k : α → M β} {r : RS} {z : β × RS} (h : M.bd m k r = some z) : ∃ a r', m r = some (a, r') ∧ k a r' = some z := by
  unfold M.bd at h
  split at h
  · rename_i a r' e; exact ⟨a, r', e, h⟩
  · cases h
theorem ofS {α : Type} {o : Option α} {r r' : RS} {a : α} (h : M.of o r = some (a, r')) : o = some a ∧ r' = r := by
  unfold M.of at h
  split at h
  · cases h; exact ⟨rfl, rfl⟩
  · cases h
/-! ### calls of builtins -/
def f1V : B1 → Value
  | .len => .builtin "len" | .tuple => .type "tuple" | .list => .type "list" | .sum => .builtin "sum" | .max => .builtin "max" | .min => .builtin "min" | .sorted => .builtin "sorted" | .abs => .builtin "abs" | .int => .type "int"
def f1N : B1 → Str
  | .len => "len" | .tuple => "tuple" | .list => "list" | .sum => "sum" | .max => "max" | .min => "min" | .sorted => "sorted" | .abs => "abs" | .int => "int"
def rF (F : Fx) (f : B1) (fr : Bool) : List V → Hp → VK → Prop := fun vs H Q => ∃ (B : Addr → Prop) (v : V) (d d' : PyData), B F.r ∧ Fre B H ∧ vs = [v] ∧ RepW F.r B H v d ∧ f1D f d = some d' ∧ Give B H d' fr Q
theorem maxI_go : ∀ (r : List Int) (x : Int), (r.foldl (fun a b => if a < b then b else a) x ∈ x :: r) ∧ ∀ y ∈ x :: r, y ≤ r.foldl (fun a b => if a < b then b else a) x
  | [], x => ⟨by simp, by simp⟩
  | z :: r, x => by
    rw [List.foldl_cons]
    by_cases c : x < z
    · rw [if_pos c]
      obtain ⟨h1, h2⟩ := maxI_go r z
      refine ⟨List.mem_cons_of_mem _ h1, fun y hy => ?_⟩
      rcases List.mem_cons.mp hy with e | e
      · have := h2 z List.mem_cons_self; omega
      · exact h2 y e
    · rw [if_neg c]
      obtain ⟨h1, h2⟩ := maxI_go r x
      refine ⟨?_, fun y hy => ?_⟩
      · rcases List.mem_cons.mp h1 with e | e
        · rw [e]; exact List.mem_cons_self
        · exact List.mem_cons_of_mem _ (List.mem_cons_of_mem _ e)
      · rcases List.mem_cons.mp hy with e | e
        · exact h2 y (by rw [e]; exact List.mem_cons_self)
        · rcases List.mem_cons.mp e with e | e
          · have := h2 x List.mem_cons_self; omega
          · exact h2 y (List.mem_cons_of_mem _ e)
theorem maxI_is {ns : List Int} {m k : Int} (h : maxI ns = some m) (hk : k ∈ ns) (hm : ∀ y ∈ ns, y ≤ k) : k = m := by
  cases ns with
  | nil => cases h
  | cons x r =>
    cases h
    obtain ⟨h1, h2⟩ := maxI_go r x
    have a := h2 k hk; have b := hm _ h1
    omega
theorem minI_go : ∀ (r : List Int) (x : Int), (r.foldl (fun a b => if b < a then b else a) x ∈ x :: r) ∧ ∀ y ∈ x :: r, r.foldl (fun a b => if b < a then b else a) x ≤ y
  | [], x => ⟨by simp, by simp⟩
  | z :: r, x => by
    rw [List.foldl_cons]
    by_cases c : z < x
    · rw [if_pos c]
      obtain ⟨h1, h2⟩ := minI_go r z
      refine ⟨List.mem_cons_of_mem _ h1, fun y hy => ?_⟩
      rcases List.mem_cons.mp hy with e | e
      · have := h2 z List.mem_cons_self; omega
      · exact h2 y e
    · rw [if_neg c]
      obtain ⟨h1, h2⟩ := minI_go r x
      refine ⟨?_, fun y hy => ?_⟩
      · rcases List.mem_cons.mp h1 with e | e
        · rw [e]; exact List.mem_cons_self
        · exact List.mem_cons_of_mem _ (List.mem_cons_of_mem _ e)
      · rcases List.mem_cons.mp hy with e | e
        · exact h2 y (by rw [e]; exact List.mem_cons_self)
        · rcases List.mem_cons.mp e with e | e
          · have := h2 x List.mem_cons_self; omega
          · exact h2 y (List.mem_cons_of_mem _ e)
theorem minI_is {ns : List Int} {m k : Int} (h : minI ns = some m) (hk : k ∈ ns) (hm : ∀ y ∈ ns, k ≤ y) : k = m := by
  cases ns with
  | nil => cases h
  | cons x r =>
    cases h
    obtain ⟨h1, h2⟩ := minI_go r x
    have a := h2 k hk; have b := hm _ h1
    omega
theorem insI_perm (x : Int) : ∀ l, (insI x l).Perm (x :: l)
  | [] => .refl _
  | y :: r => by
    unfold insI
    split
    · exact .refl _
    · exact ((insI_perm x r).cons y).trans (.swap x y r)
theorem insI_sorted (x : Int) : ∀ l, List.Pairwise (· ≤ ·) l → List.Pairwise (· ≤ ·) (insI x l)
  | [], _ => by unfold insI; simp
  | y :: r, h => by
    unfold insI
    rw [List.pairwise_cons] at h
    split
    · rename_i hx
      refine List.pairwise_cons.mpr ⟨fun z hz => ?_, List.pairwise_cons.mpr h⟩
      rcases List.mem_cons.mp hz with e | e
      · omega
      · have := h.1 z e; omega
    · refine List.pairwise_cons.mpr ⟨fun z hz => ?_, insI_sorted x r h.2⟩
      rcases List.mem_cons.mp ((insI_perm x r).mem_iff.mp hz) with e | e
      · omega
      · exact h.1 z e
theorem sortI_perm : ∀ l, (sortI l).Perm l
  | [] => .refl _
  | x :: r => (insI_perm x _).trans ((sortI_perm r).cons x)
theorem sortI_sorted : ∀ l, List.Pairwise (· ≤ ·) (sortI l)
  | [] => .nil
  | x :: r => insI_sorted x _ (sortI_sorted r)
theorem sortI_is {ns ns' : List Int} (p : ns'.Perm ns) (h : List.Pairwise (· ≤ ·) ns') : ns' = sortI ns :=
  List.Perm.eq_of_pairwise (le := (· ≤ ·)) (fun a b _ _ h1 h2 => Int.le_antisymm h1 h2) h (sortI_sorted ns) (p.trans (sortI_perm ns).symm)
theorem cr_f1 {X : Cx} {F : Fx} (hc : X.calm = true) (f : B1) (fr : Bool) : CallR X (f1V f) (rF F f fr) := by
  intro pins s σ H xs us Q I r ⟨B, v, d, d', br, f0, hv, hw, e, g⟩
  subst hv
  unfold f1D at e
  split at e
  · cases e; obtain ⟨p, ys, rfl, _, hh, rr⟩ := hw.list br
    exact call_len_seq pins s σ H _ us Q I r ⟨p, ys, rfl, .inl (.of hh), by rw [rr.length]; exact give_at g (.int _) nofun⟩
  · cases e; obtain ⟨p, ys, rfl, _, hh, rr⟩ := hw.tuple
    exact call_len_seq pins s σ H _ us Q I r ⟨p, ys, rfl, .inr (.of hh), by rw [rr.length]; exact give_at g (.int _) nofun⟩
  · cases e; obtain ⟨p, ys, rfl, _, hh, rr⟩ := hw.list br
    exact call_tuple_of pins s σ H _ us Q I r ⟨p, ys, rfl, .inl ⟨.of hh, fun l hl => give_tup g f0 rr hl⟩⟩
  · cases e; obtain ⟨p, ys, rfl, hb, hh, rr⟩ := hw.tuple
    exact call_tuple_of pins s σ H _ us Q I r ⟨p, ys, rfl, .inr ⟨.of hh, give_at g (.tup hb hh rr) nofun⟩⟩
  · cases e; obtain ⟨p, ys, rfl, _, hh, rr⟩ := hw.list br
    exact call_list_of pins s σ H _ us Q I r ⟨p, ys, rfl, .inl (.of hh), fun l hl => give_lst g f0 rr hl⟩
  · cases e; obtain ⟨p, ys, rfl, _, hh, rr⟩ := hw.tuple
    exact call_list_of pins s σ H _ us Q I r ⟨p, ys, rfl, .inr (.of hh), fun l hl => give_lst g f0 rr hl⟩
  · split at e
    · rename_i x hx
      cases e; obtain ⟨p, ys, rfl, _, hh, rr⟩ := hw.list br
      have := rr.ints hx; subst this
      exact cr_sum hc pins s σ H _ us Q I r ⟨p, x, rfl, .of hh, give_at g (.int _) nofun⟩
    · cases e
  · split at e
    · rename_i x hx
      split at e
      · rename_i hk
        cases e; obtain ⟨p, ys, rfl, _, hh, rr⟩ := hw.tuple
        have := rr.ints hx; subst this
        exact cr_sumT hc pins s σ H _ us Q I r ⟨p, x, rfl, .of hh, hk.1, fun i hi => of_decide_eq_true (List.all_eq_true.mp hk.2 i hi), give_at g (.int _) nofun⟩
      · cases e
    · cases e
  · split at e
    · rename_i x hx
      split at e
      · rename_i m hm
        cases e; obtain ⟨p, ys, rfl, _, hh, rr⟩ := hw.list br
        have := rr.ints hx; subst this
        refine cr_max hc pins s σ H _ us Q I r ⟨p, x, rfl, .of hh, ?_, fun k h1 h2 => ?_⟩
        · cases x with
          | nil => cases hm
          | cons _ _ => simp
        · rw [maxI_is hm h1 h2]; exact give_at g (.int _) nofun
      · cases e
    · cases e
  · split at e
    · rename_i x hx
      split at e
      · rename_i m hm
        cases e; obtain ⟨p, ys, rfl, _, hh, rr⟩ := hw.list br
        have := rr.ints hx; subst this
        refine cr_min hc pins s σ H _ us Q I r ⟨p, x, rfl, .of hh, ?_, fun k h1 h2 => ?_⟩
        · cases x with
          | nil => cases hm
          | cons _ _ => simp
        · rw [minI_is hm h1 h2]; exact give_at g (.int _) nofun
      · cases e
    · cases e
  · split at e
    · rename_i x hx
      split at e
      · rename_i hl
        cases e; obtain ⟨p, ys, rfl, _, hh, rr⟩ := hw.list br
        have := rr.ints hx; subst this
        refine cr_sorted pins s σ H _ us Q I r ⟨p, x, rfl, .of hh, hl, fun ns' q h1 h2 h3 => ?_⟩
        rw [sortI_is h1 h2]
        exact give_lst g f0 (RepL.ofInts _) h3
      · cases e
    · cases e
  · cases e; have h1 := hw.int; subst h1
    exact call_abs pins s σ H _ us Q I r ⟨_, rfl, give_at g (.int _) nofun⟩
  · cases e; have h1 := hw.int; subst h1
    exact call_int1 pins s σ H _ us Q I r (.inl ⟨_, rfl, give_at g (.int _) nofun⟩)
  · cases e; have h1 := Rep.blE (hw.atom nofun); subst h1
    exact call_int1 pins s σ H _ us Q I r (.inr ⟨_, rfl, give_at g (.int _) nofun⟩)
  · cases e
/-! ### small facts about trees -/
def nst : Expr → Bool
  | .Starred .. => false
  | _ => true
theorem star_nst {e : Expr} {es : List Expr} {env : Env} (h : nst e = true) : starEach (e :: es) env = (false, eval e env) :: starEach es env := by
  cases e <;> first | rfl | cases h
theorem nost : ∀ {es : List Expr} {env : Env} {pos : Pos}, es.all nst = true → (backTo pos (starEach es env)).any (·.1) = false
  | [], _, _, _ => rfl
  | e :: r, env, pos, h => by
    rw [List.all_cons, Bool.and_eq_true] at h
    rw [star_nst h.1]
    have := nost (env := env) (pos := pos) h.2
    unfold backTo at this ⊢
    rw [List.map_cons, List.any_cons, this]; rfl
def plT : Expr → Bool
  | .UnaryOp .Not _ _ => false
  | .BoolOp .. => false
  | .IfExp .. => false
  | .Compare .. => false
  | _ => true
theorem isTrue_pl {e : Expr} {env : Env} (h : plT e = true) : ∀ whole, PySem.isTrue e env whole = (do let v ← whole; standAt e.pos; holding [v] (truthy v)) := by
  intro w
  cases e with
  | UnaryOp op a p => cases op <;> first | rfl | cases h
  | BoolOp => cases h
  | IfExp => cases h
  | Compare => cases h
  | _ => rfl
def nSet : Expr → Bool
  | .Set .. => false
  | _ => true
theorem beh_nSet {e : Expr} {o : CmpOp} (h : nSet e = true) : behindInMarks o e = false := by
  cases e <;> first | rfl | cases h
theorem fold_nSet {e : Expr} {env : Env} (h : nSet e = true) (x : Value) : foldedSetIterable e env x = pure x := by
  cases e <;> first | rfl | cases h
def nFold : Expr → Bool
  | .Set .. => false
  | .List .. => false
  | _ => true
theorem gf_nFold {e : Expr} {env : Env} (h : nFold e = true) (v : Value) : genFold e env v = pure v := by
  cases e <;> first | rfl | cases h
def nSl : Expr → Bool
  | .Slice .. => false
  | _ => true
theorem plain_nSl {e : Expr} (h : nSl e = true) : PlainIx e := by
  intro o i
  cases e <;> first | rfl | cases h
end Cd
namespace Cd
open PySem PySem.Spec PyProof.Rows L2 GxR C8
/-! The readings of expressions. -/
def lv (n : Nat) : Nat := 8 * n + 4
structure Cok (F : Fx) (n g : Nat) (X : Cx) : Prop where
  calm : X.calm = true
  nd : X.N.Nodup
  K : X.K = F.K
  rm : Room (lv n + 4 * g) X.A
  fns : ∀ j x, F.dn[j]? = some x → Cal X.prog X.w X.K X.mg X.base (lv n) x (spF F n j) []
  take : Cal X.prog X.w X.K X.mg X.base 2 F.tk (spTake F) []
  nob : ∀ x ∈ (["len", "tuple", "list", "sum", "max", "min", "sorted", "abs", "int", "isinstance", "bool", "str", "dict", "all", "any", "range", "enumerate", "zip", "set"] : List Str), X.mg x = none
  gis : ∀ x i, (x, i) ∈ F.gi → ∃ t, X.mg x = some (.int i t)
  gen : 0 < g → ∃ c P, TabB X.base X.mg c P ∧ X.env.code = .ref c ∧ P ∈ F.tabs
/-- names that the rules for names bar -/
def nmOk (x : Str) : Bool := !(x == ("__debug__" : Str)) && !(x == ("__classdict__" : Str))
def visB (sc : Scope) (x : Str) : Bool := (match sc.names.lookup x with
  | some .local => true | some .cell => true | some .free => true | _ => false)
def glB (sc : Scope) (x : Str) : Bool := decide (sc.names.lookup x = some .globalImplicit)
theorem vis_of {sc : Scope} {x : Str} (h : visB sc x = true) : Vis sc x := by
  unfold visB at h
  split at h
  · exact .inl (by assumption)
  · exact .inr (.inl (by assumption))
  · exact .inr (.inr (by assumption))
  · cases h
theorem gl_of {X : Cx} {x : Str} (h : glB X.env.scope x = true) : Gl X x := by
  unfold glB at h
  exact of_decide_eq_true (p := X.env.scope.names.lookup x = some .globalImplicit) h
theorem nmOk1 {x : Str} (h : nmOk x = true) : (x == ("__debug__" : Str)) = false ∧ (x == ("__classdict__" : Str)) = false := by
  unfold nmOk at h
  simpa [Bool.and_eq_true] using h
section
variable {F : Fx} {n g : Nat} {X : Cx}
theorem Room.lo {k j : Nat} {A : Around} (h : Room k A) (hj : j ≤ k) : Room j A := h.mono hj
theorem Cok.un (c : Cok F n g X) : X.A.units + 65 < cLine := by have := c.rm.un; omega
theorem give_of {B : Addr → Prop} {H H2 : Hp} {d : PyData} {fr : Bool} {Q : VK} {rs' : RS} (q : ∀ v H', Ext F H H' → Wd F H' rs' → Rep B H' v d → (fr = true → Frs B H v H' d) → Q v H')
    (e : Ext F H H2) (w : Wd F H2 rs') : Give B H2 d fr Q := fun v H' s r f => q v H' (e.trans s.ext) (w.same s) r fun z l hl => let ⟨p, xs, h1, h2, h3, h4⟩ := f z l hl; ⟨p, xs, h1, noneBack e w h2, h3, h4⟩
theorem _root_.L2.PE.f {e : Expr} {fr : Bool} {ir : E} (h : PE X e (tE F n fr ir)) : PE X e (tE F n false ir) := h.weak fun _ _ _ q => tE_fr q
/-- the reading of atoms -/
theorem e_atom {e : Expr} {v : V} {d : PyData} {fr : Bool} {ir : E} (h : PE X e (tC v)) (hr : ∀ B H, Rep B H v d) (hd : ∀ l, d ≠ .list l) (hev : ∀ env rs, evE F.ns (cal F.T F.ns n) ir env rs = some (d, rs)) : PE X e (tE F n fr ir) :=
  h.weak fun σ H Q ⟨B, env, rs, d', rs', R, ev, q⟩ => by
    rw [hev] at ev; cases ev
    exact q v H .refl R.wd (hr _ _) fun _ l z => absurd z (hd l)
theorem e_var {i : Nat} {x : Str} {pos : Pos} {fr : Bool} (hN : X.N[i]? = some x) (hv : visB X.env.scope x = true) (hk : nmOk x = true) (hf : fr = false) : PE X (.Name x pos) (tE F n fr (.var i)) :=
  (pe_var hN (vis_of hv) (nmOk1 hk).1 (nmOk1 hk).2).weak fun σ H Q ⟨B, env, rs, d', rs', R, ev, q⟩ => by
    simp only [evE] at ev
    generalize hd : env[i]? = w at ev
    split at ev
    · rename_i d
      cases ev
      obtain ⟨v, h1, h2⟩ := R.sl i _ hd
      exact ⟨v, h1, q v H .refl R.wd h2 fun z => by rw [hf] at z; cases z⟩
    · cases ev
theorem w_var {i : Nat} {x : Str} {pos : Pos} (hN : X.N[i]? = some x) (hv : visB X.env.scope x = true) (hk : nmOk x = true) : PE X (.Name x pos) (tW F n (.var i)) :=
  (pe_var hN (vis_of hv) (nmOk1 hk).1 (nmOk1 hk).2).weak fun σ H Q ⟨B, env, rs, d', rs', R, ev, q⟩ => by
    simp only [rd, evE] at ev
    generalize hd : env[i]? = w at ev
    split at ev
    · rename_i l
      cases ev
      obtain ⟨p, xs, h1, h2, h3, h4⟩ := R.sl i _ hd
      exact ⟨_, h1, q _ H .refl R.wd (.inr ⟨p, xs, _, rfl, rfl, h2, h3, h4⟩) fun z => by simp [ownV, hd] at z⟩
    · split at ev
      · rename_i d _
        cases ev
        obtain ⟨v, h1, h2⟩ := R.sl i _ hd
        exact ⟨v, h1, q v H .refl R.wd (.inl h2) fun _ => h2⟩
      · cases ev
/-- two parts in a row -/
theorem tOp_go {r : R2} {a b : E} {σ : L2.St} {H : Hp} {Q : VK} {B : Addr → Prop} {env : List Slot} {rs rs1 rs2 : RS} {x y : PyData} (R : RE F B σ H env rs)
    (ha : rd env a (evE F.ns (cal F.T F.ns n) a env) rs = some (x, rs1)) (hb : rd env b (evE F.ns (cal F.T F.ns n) b env) rs1 = some (y, rs2))
    (k : ∀ v w H', Ext F H H' → Wd F H' rs2 → RepW F.r B H' v x → RepW F.r B H' w y → Fre B H' → r v w H' Q) : tOp r (tW F n a) (tW F n b) σ H Q :=
  ⟨B, env, rs, x, rs1, R, ha, fun v H1 e1 w1 r1 _ => ⟨B, env, rs1, y, rs2, R.next e1 w1, hb, fun w H2 e2 w2 r2 _ => k v w H2 (e1.trans e2) w2 (r1.ext R.br w1 e2) r2 fun p hp => ((R.next e1 w1).next e2 w2).fresh hp⟩⟩
theorem e_bin {o : Bop} {a b : E} {x y : Expr} {pos : Pos} {fr : Bool} (ha : PE X x (tW F n a)) (hb : PE X y (tW F n b)) : PE X (.BinOp x (bopO o) y pos) (tE F n fr (.bin o a b)) :=
  (pe_op (op_bin (F := F) o fr) ha hb).weak fun σ H Q ⟨B, env, rs, d, rs', R, ev, q⟩ => by
    simp only [evE] at ev
    obtain ⟨dx, rs1, h1, ev⟩ := bdS ev
    obtain ⟨dy, rs2, h2, ev⟩ := bdS ev
    obtain ⟨h3, rfl⟩ := ofS ev
    exact tOp_go R h1 h2 fun v w H' e1 w1 r1 r2 f => ⟨B, dx, dy, d, R.br, f, r1, r2, h3, give_of q e1 w1⟩
theorem e_neg {a : E} {x : Expr} {pos : Pos} {fr : Bool} (ha : PE X x (tE F n false a)) : PE X (.UnaryOp .USub x pos) (tE F n fr (.neg a)) :=
  (pe_un un_neg ha).weak fun σ H Q ⟨B, env, rs, d, rs', R, ev, q⟩ => by
    simp only [evE] at ev
    obtain ⟨dx, rs1, h1, ev⟩ := bdS ev
    split at ev
    · cases ev
      exact ⟨B, env, rs, _, _, R, h1, fun v H1 e1 w1 r1 _ => ⟨_, r1.intE, q _ _ e1 w1 (.int _) nofun⟩⟩
    · cases ev
/-- the second side of `is` is None's own tree -/
def isNonE : Cop → E → Bool
  | .isN, .non => true
  | .isNotN, .non => true
  | .isN, _ => false
  | .isNotN, _ => false
  | _, _ => true
theorem isNonE_val {o : Cop} {b : E} {env : List Slot} {rs rs' : RS} {y : PyData} (h : isNonE o b = true) (e : rd env b (evE F.ns (cal F.T F.ns n) b env) rs = some (y, rs')) : o = .isN ∨ o = .isNotN → y = .none := by
  intro ho
  have hb : b = .non := by
    unfold isNonE at h
    split at h
    · rfl
    · rfl
    · cases h
    · cases h
    · rename_i h1 h2; rcases ho with z | z
      · exact absurd z (by assumption)
      · exact absurd z (by assumption)
  subst hb
  simp only [rd, evE] at e
  cases e; rfl
theorem cmp_go {o : Cop} {a b : E} {σ : L2.St} {H : Hp} {Q : VK} {B : Addr → Prop} {env : List Slot} {rs rs1 rs2 : RS} {x y : PyData} {c : Bool} (R : RE F B σ H env rs)
    (ha : rd env a (evE F.ns (cal F.T F.ns n) a env) rs = some (x, rs1)) (hb : rd env b (evE F.ns (cal F.T F.ns n) b env) rs1 = some (y, rs2)) (hn : isNonE o b = true) (hc : cmpD o x y = some c)
    (k : ∀ H', Ext F H H' → Wd F H' rs2 → Q (.bl c) H') : tOp (rC F o) (tW F n a) (tW F n b) σ H Q :=
  tOp_go R ha hb fun v w H' e1 w1 r1 r2 f => ⟨B, x, y, c, R.br, r1, r2, hc, isNonE_val hn hb, k H' e1 w1⟩
theorem e_cmp {o : Cop} {a b : E} {x y : Expr} {pos : Pos} {fr : Bool} (c : Cok F n g X) (ha : PE X x (tW F n a)) (hb : PE X y (tW F n b)) (hs : nSet y = true) (hn : isNonE o b = true) : PE X (.Compare x [copO o] [y] pos) (tE F n fr (.cmp o a b)) :=
  (pe_cmpR (op_cmp (F := F) c.un o) ha hb (beh_nSet hs)).weak fun σ H Q ⟨B, env, rs, d, rs', R, ev, q⟩ => by
    simp only [evE] at ev
    obtain ⟨dx, rs1, h1, ev⟩ := bdS ev
    obtain ⟨dy, rs2, h2, ev⟩ := bdS ev
    generalize hk : cmpD o dx dy = w at ev
    split at ev
    · rename_i k
      cases ev
      exact cmp_go R h1 h2 hn hk fun H' e w => q _ _ e w (.bl _) nofun
    · cases ev
theorem t_cmp {o : Cop} {a b : E} {x y : Expr} {pos : Pos} (c : Cok F n g X) (ha : PE X x (tW F n a)) (hb : PE X y (tW F n b)) (hs : nSet y = true) (hn : isNonE o b = true) : PT X (.Compare x [copO o] [y] pos) (tT F n (.cmp o a b)) :=
  (pt_cmpR (op_cmp (F := F) c.un o) ha hb (beh_nSet hs)).weak fun σ H Q ⟨B, env, rs, d, rs', R, ev, q⟩ => by
    simp only [evT] at ev
    obtain ⟨dx, rs1, h1, ev⟩ := bdS ev
    obtain ⟨dy, rs2, h2, ev⟩ := bdS ev
    obtain ⟨h3, rfl⟩ := ofS ev
    exact cmp_go R h1 h2 hn h3 fun H' e w => ⟨_, rfl, q _ e w⟩
/-- comparisons of a chain: no `is` -/
def chC : Cop → Bool
  | .isN => false | .isNotN => false | _ => true
theorem chC_no {o : Cop} (h : chC o = true) : ∀ {y : PyData}, o = .isN ∨ o = .isNotN → y = .none := by
  intro y z
  rcases z with z | z <;> (subst z; cases h)
theorem ch_go {o p : Cop} {a b c : E} {σ : L2.St} {H : Hp} {Q : VK} {B : Addr → Prop} {env : List Slot} {rs rs1 rs2 rs' : RS} {x y : PyData} {k : Bool} (R : RE F B σ H env rs)
    (ho : chC o = true) (hp : chC p = true) (h1 : evE F.ns (cal F.T F.ns n) a env rs = some (x, rs1)) (h2 : evE F.ns (cal F.T F.ns n) b env rs1 = some (y, rs2))
    (h3 : (cmpD o x y = some false ∧ k = false ∧ rs' = rs2) ∨ cmpD o x y = some true ∧ ∃ z, evE F.ns (cal F.T F.ns n) c env rs2 = some (z, rs') ∧ cmpD p y z = some k)
    (q : ∀ H', Ext F H H' → Wd F H' rs' → Q (.bl k) H') : tChain (rC F o) (rC F p) (tE F n false a) (tE F n false b) (tE F n false c) σ H Q :=
  ⟨B, env, rs, x, rs1, R, h1, fun v H1 e1 w1 r1 _ => ⟨B, env, rs1, y, rs2, R.next e1 w1, h2, fun w H2 e2 w2 r2 _ => by
    have r1' := r1.ext R.br w1 e2
    rcases h3 with ⟨h3, rfl, rfl⟩ | ⟨h3, z, h4, h5⟩
    · exact ⟨B, x, y, false, R.br, .inl r1', .inl r2, h3, chC_no ho, _, rfl, q _ (e1.trans e2) w2⟩
    · exact ⟨B, x, y, true, R.br, .inl r1', .inl r2, h3, chC_no ho, _, rfl, B, env, rs2, z, rs', (R.next e1 w1).next e2 w2, h4, fun u H3 e3 w3 r3 _ =>
        ⟨B, y, z, k, R.br, .inl (r2.ext R.br w2 e3), .inl r3, h5, chC_no hp, q _ ((e1.trans e2).trans e3) w3⟩⟩⟩⟩
theorem e_chn {o p : Cop} {a b c : E} {x y z : Expr} {pos : Pos} {fr : Bool} (C : Cok F n g X) (ha : PE X x (tE F n false a)) (hb : PE X y (tE F n false b)) (hc : PE X z (tE F n false c)) (hs : nSet z = true) (ho : chC o = true) (hp : chC p = true) :
    PE X (.Compare x [copO o, copO p] [y, z] pos) (tE F n fr (.chn o p a b c)) :=
  (pe_chain (op_cmp (F := F) C.un o) (op_cmp (F := F) C.un p) ha hb hc (beh_nSet hs)).weak fun σ H Q ⟨B, env, rs, d, rs', R, ev, q⟩ => by
    simp only [evE] at ev
    obtain ⟨dx, rs1, h1, ev⟩ := bdS ev
    obtain ⟨dy, rs2, h2, ev⟩ := bdS ev
    generalize hk : cmpD o dx dy = w at ev
    split at ev
    · obtain ⟨dz, rs3, h3, ev⟩ := bdS ev
      generalize hk2 : cmpD p dy dz = w at ev
      split at ev
      · rename_i k
        cases ev
        exact ch_go R ho hp h1 h2 (.inr ⟨hk, dz, h3, hk2⟩) fun H' e w => q _ _ e w (.bl _) nofun
      · cases ev
    · cases ev
      exact ch_go R ho hp h1 h2 (.inl ⟨hk, rfl, rfl⟩) fun H' e w => q _ _ e w (.bl _) nofun
    · cases ev
theorem t_chn {o p : Cop} {a b c : E} {x y z : Expr} {pos : Pos} (C : Cok F n g X) (ha : PE X x (tE F n false a)) (hb : PE X y (tE F n false b)) (hc : PE X z (tE F n false c)) (hs : nSet z = true) (ho : chC o = true) (hp : chC p = true) :
    PT X (.Compare x [copO o, copO p] [y, z] pos) (tT F n (.chn o p a b c)) :=
  (pt_chain (op_cmp (F := F) C.un o) (op_cmp (F := F) C.un p) ha hb hc (beh_nSet hs)).weak fun σ H Q ⟨B, env, rs, d, rs', R, ev, q⟩ => by
    simp only [evT] at ev
    obtain ⟨dx, rs1, h1, ev⟩ := bdS ev
    obtain ⟨dy, rs2, h2, ev⟩ := bdS ev
    generalize hk : cmpD o dx dy = w at ev
    split at ev
    · obtain ⟨dz, rs3, h3, ev⟩ := bdS ev
      obtain ⟨h4, rfl⟩ := ofS ev
      exact ch_go R ho hp h1 h2 (.inr ⟨hk, dz, h3, h4⟩) fun H' e w => ⟨_, rfl, q _ e w⟩
    · cases ev
      exact ch_go R ho hp h1 h2 (.inl ⟨hk, rfl, rfl⟩) fun H' e w => ⟨_, rfl, q _ e w⟩
    · cases ev
theorem truV {B : Addr → Prop} {r : Addr} {H : Hp} {K : PySem.W.Frag} {v : V} {d : PyData} {b : Bool} (h : RepW r B H v d) (e : truthD d = some b) : TruV K v H b := by
  have ll : ∀ {xs : List V} {ds : List PyData}, RepL B H xs ds → xs.isEmpty = ds.isEmpty := fun r => by cases r <;> rfl
  rcases h with h | ⟨a, xs, ds, rfl, rfl, _, h, r⟩
  · cases h with
    | non => cases e; rfl
    | bl b => cases e; rfl
    | int i => cases e; rfl
    | str x => cases e
    | lst hb h r => cases e; exact .inl ⟨_, .of h, by rw [ll r]⟩
    | tup hb h r => cases e; exact .inr (.inl ⟨_, .of h, by rw [ll r]⟩)
  · cases e; exact .inl ⟨_, .of h, by rw [ll r]⟩
theorem e_and {a b : E} {x y : Expr} {rest : List Expr} {pos : Pos} (ha : PE X x (tE F n false a)) (hb : PE X (.BoolOp .And (y :: rest) pos) (tE F n false b)) : PE X (.BoolOp .And (x :: y :: rest) pos) (tE F n false (.and a b)) :=
  (pe_andT ha hb).weak fun σ H Q ⟨B, env, rs, d, rs', R, ev, q⟩ => by
    simp only [evE] at ev
    obtain ⟨dx, rs1, h1, ev⟩ := bdS ev
    generalize ht : truthD dx = w0 at ev
    match w0 with
    | some true => exact ⟨B, env, rs, _, rs1, R, h1, fun v H1 e1 w1 r1 _ => ⟨true, truV (r := F.r) (.inl r1) ht, B, env, rs1, d, rs', R.next e1 w1, ev, fun w H2 e2 w2 r2 _ => q w H2 (e1.trans e2) w2 r2 nofun⟩⟩
    | some false =>
      cases ev
      exact ⟨B, env, rs, _, _, R, h1, fun v H1 e1 w1 r1 _ => ⟨false, truV (r := F.r) (.inl r1) ht, q _ _ e1 w1 r1 nofun⟩⟩
    | none => cases ev
theorem e_or {a b : E} {x y : Expr} {rest : List Expr} {pos : Pos} (ha : PE X x (tE F n false a)) (hb : PE X (.BoolOp .Or (y :: rest) pos) (tE F n false b)) : PE X (.BoolOp .Or (x :: y :: rest) pos) (tE F n false (.or a b)) :=
  (pe_orT ha hb).weak fun σ H Q ⟨B, env, rs, d, rs', R, ev, q⟩ => by
    simp only [evE] at ev
    obtain ⟨dx, rs1, h1, ev⟩ := bdS ev
    generalize ht : truthD dx = w0 at ev
    match w0 with
    | some true =>
      cases ev
      exact ⟨B, env, rs, _, _, R, h1, fun v H1 e1 w1 r1 _ => ⟨true, truV (r := F.r) (.inl r1) ht, q _ _ e1 w1 r1 nofun⟩⟩
    | some false => exact ⟨B, env, rs, _, rs1, R, h1, fun v H1 e1 w1 r1 _ => ⟨false, truV (r := F.r) (.inl r1) ht, B, env, rs1, d, rs', R.next e1 w1, ev, fun w H2 e2 w2 r2 _ => q w H2 (e1.trans e2) w2 r2 nofun⟩⟩
    | none => cases ev
theorem e_not {a : E} {x : Expr} {pos : Pos} (ha : PE X x (tE F n false a)) : PE X (.UnaryOp .Not x pos) (tE F n false (.not a)) :=
  (pe_notT ha).weak fun σ H Q ⟨B, env, rs, d, rs', R, ev, q⟩ => by
    simp only [evE] at ev
    obtain ⟨dx, rs1, h1, ev⟩ := bdS ev
    generalize ht : truthD dx = w0 at ev
    match w0 with
    | some c =>
      cases ev
      exact ⟨B, env, rs, _, _, R, h1, fun v H1 e1 w1 r1 _ => ⟨_, truV (r := F.r) (.inl r1) ht, q _ _ e1 w1 (.bl _) nofun⟩⟩
    | none => cases ev
theorem e_ite {c a b : E} {z x y : Expr} {pos : Pos} (hc : PT X z (tT F n c)) (ha : PE X x (tE F n false a)) (hb : PE X y (tE F n false b)) : PE X (.IfExp z x y pos) (tE F n false (.ite c a b)) :=
  (pe_ifExp hc ha hb).weak fun σ H Q ⟨B, env, rs, d, rs', R, ev, q⟩ => by
    simp only [evE] at ev
    obtain ⟨t, rs1, h1, ev⟩ := bdS ev
    refine ⟨B, env, rs, t, rs1, R, h1, fun H1 e1 w1 => ?_⟩
    cases t with
    | true => exact ⟨B, env, rs1, d, rs', R.next e1 w1, ev, fun w H2 e2 w2 r2 _ => q w H2 (e1.trans e2) w2 r2 nofun⟩
    | false => exact ⟨B, env, rs1, d, rs', R.next e1 w1, ev, fun w H2 e2 w2 r2 _ => q w H2 (e1.trans e2) w2 r2 nofun⟩
theorem lbSize {k : Nat} (h : k ≤ LB) : k ≤ sizeLine := by rw [sizeLine_eq]; unfold LB at h; omega
theorem e_tup {es : EL} {xs : List Expr} {pos : Pos} {k : Nat} (h : PA X xs (tL F n es)) : PE X (.Tuple xs k pos) (tE F n false (.tup es)) :=
  (pe_tup h).weak fun σ H Q ⟨B, env, rs, d, rs', R, ev, q⟩ => by
    simp only [evE] at ev
    obtain ⟨l, rs1, h1, ev⟩ := bdS ev
    split at ev
    · rename_i hl
      cases ev
      exact ⟨B, env, rs, l, _, R, h1, fun vs H1 e1 w1 r1 => ⟨by rw [r1.length]; exact lbSize hl, fun p hp => give_tup (give_of q e1 w1) (fun q hq => (R.next e1 w1).fresh hq) r1 hp⟩⟩
    · cases ev
theorem e_lst {es : EL} {xs : List Expr} {pos : Pos} (h : PA X xs (tL F n es)) : PE X (.List xs pos) (tE F n true (.lst es)) :=
  (pe_lst h).weak fun σ H Q ⟨B, env, rs, d, rs', R, ev, q⟩ => by
    simp only [evE] at ev
    obtain ⟨l, rs1, h1, ev⟩ := bdS ev
    split at ev
    · rename_i hl
      cases ev
      exact ⟨B, env, rs, l, _, R, h1, fun vs H1 e1 w1 r1 => ⟨by rw [r1.length]; exact lbSize hl, fun p hp => give_lst (give_of q e1 w1) (fun q hq => (R.next e1 w1).fresh hq) r1 hp⟩⟩
    · cases ev
theorem l_nil : PA X [] (tL F n .nil) :=
  pa_nil.weak fun σ H Q ⟨B, env, rs, d, rs', R, ev, q⟩ => by
    simp only [evL] at ev
    cases ev
    exact q _ _ .refl R.wd .nil
theorem l_cons {e : E} {r : EL} {x : Expr} {xs : List Expr} (ha : PE X x (tE F n false e)) (hr : PA X xs (tL F n r)) (hs : nst x = true) : PA X (x :: xs) (tL F n (.cons false e r)) :=
  (pa_cons ha hr (star_nst hs)).weak fun σ H Q ⟨B, env, rs, d, rs', R, ev, q⟩ => by
    simp only [evL] at ev
    obtain ⟨y, rs1, h1, ev⟩ := bdS ev
    obtain ⟨l, rs2, h2, ev⟩ := bdS ev
    cases ev
    exact ⟨B, env, rs, y, rs1, R, h1, fun v H1 e1 w1 r1 _ => ⟨B, env, rs1, l, _, R.next e1 w1, h2, fun vs H2 e2 w2 r2 => q _ _ (e1.trans e2) w2 (.cons (r1.ext R.br w1 e2) r2)⟩⟩
theorem l_star {e : E} {r : EL} {x : Expr} {xs : List Expr} {p : Pos} (ha : PE X x (tW F n e)) (hr : PA X xs (tL F n r)) : PA X (.Starred x p :: xs) (tL F n (.cons true e r)) :=
  (StX.pa_star ha hr).weak fun σ H Q ⟨B, env, rs, d, rs', R, ev, q⟩ => by
    simp only [evL] at ev
    obtain ⟨y, rs1, h1, ev⟩ := bdS ev
    obtain ⟨l, rs2, h2, ev⟩ := bdS ev
    generalize hm : elemsD y = w at ev
    split at ev
    · rename_i m
      cases ev
      refine ⟨B, env, rs, y, rs1, R, h1, fun v H1 e1 w1 r1 _ => ?_⟩
      obtain ⟨a, ys, rfl, hn, hh, rr⟩ := r1.elems R.br hm
      exact ⟨a, ys, rfl, hh.elim (fun z => .inr (.of z)) fun z => .inl (.of z), B, env, rs1, l, _, R.next e1 w1, h2, fun vs H2 e2 w2 r2 => q _ _ (e1.trans e2) w2 ((rr.ext R.br w1 e2).app r2)⟩
    · cases ev
theorem e_ix {a i : E} {x y : Expr} {pos : Pos} (ha : PE X x (tW F n a)) (hb : PE X y (tE F n false i)) (hs : nSl y = true) : PE X (.Subscript x y pos) (tE F n false (.ix a i)) :=
  (pe_ix (ix_any (F := F)) ha hb (plain_nSl hs)).weak fun σ H Q ⟨B, env, rs, d, rs', R, ev, q⟩ => by
    simp only [evE] at ev
    obtain ⟨dx, rs1, h1, ev⟩ := bdS ev
    obtain ⟨dy, rs2, h2, ev⟩ := bdS ev
    generalize hl : elemsD dx = w at ev
    split at ev
    · rename_i l k
      obtain ⟨h3, rfl⟩ := ofS ev
      exact ⟨B, env, rs, dx, rs1, R, h1, fun v H1 e1 w1 r1 _ => ⟨B, env, rs1, _, _, R.next e1 w1, h2, fun w H2 e2 w2 r2 _ => ⟨B, dx, l, k, d, R.br, r1.ext R.br w1 e2, hl, r2.intE, h3, fun u ru => q u H2 (e1.trans e2) w2 ru nofun⟩⟩⟩
    · cases ev
/-- a slice's bound: how it is read -/
def tP (F : Fx) (n : Nat) (lo : E) : TO := fun σ H Q => ∃ B env rs y rs' o, RE F B σ H env rs ∧ evE F.ns (cal F.T F.ns n) lo env rs = some (y, rs') ∧ prt lo y = some o ∧ ∀ H', Ext F H H' → Wd F H' rs' → Q o H'
theorem po_no : PO X none (tP F n .non) := ⟨fun pins s σ H Q I ⟨B, env, rs, y, rs', o, R, ev, hp, q⟩ => po_none.run pins s σ H Q I (by
  simp only [evE] at ev
  cases ev; cases hp
  exact q H .refl R.wd)⟩
theorem po_yes {lo : E} {x : Expr} (h : PE X x (tE F n false lo)) (hl : lo ≠ .non) : PO X (some x) (tP F n lo) := ⟨fun pins s σ H Q I ⟨B, env, rs, y, rs', o, R, ev, hp, q⟩ => (po_some h).run pins s σ H Q I (by
  have : ∃ i, y = .int i ∧ o = some i := by
    unfold prt at hp
    split at hp
    · exact absurd rfl hl
    · cases hp; exact ⟨_, rfl, rfl⟩
    · cases hp
  obtain ⟨i, rfl, rfl⟩ := this
  exact ⟨B, env, rs, _, rs', R, ev, fun v H1 e1 w1 r1 _ => ⟨i, r1.intE, q H1 e1 w1⟩⟩)⟩
theorem e_sl {a lo hi : E} {x : Expr} {l h : Option Expr} {pos p2 : Pos} (ha : PE X x (tW F n a)) (hl : PO X l (tP F n lo)) (hh : PO X h (tP F n hi)) : PE X (.Subscript x (.Slice l h none p2) pos) (tE F n false (.sl a lo hi)) :=
  (pe_slice (sl_any (F := F)) ha hl hh).weak fun σ H Q ⟨B, env, rs, d, rs', R, ev, q⟩ => by
    simp only [evE] at ev
    obtain ⟨dx, rs1, h1, ev⟩ := bdS ev
    obtain ⟨dy, rs2, h2, ev⟩ := bdS ev
    obtain ⟨dz, rs3, h3, ev⟩ := bdS ev
    have go : ∀ b k p o2, prt lo dy = some p → prt hi dz = some o2 → dx = seqD b k → rs' = rs3 → d = seqD b (cutD k p o2) → tSl (rS F) (tW F n a) (tP F n lo) (tP F n hi) σ H Q := fun b k p o2 hp ho hx hr hd => by
      subst hr hd hx
      exact ⟨B, env, rs, _, rs1, R, h1, fun v H1 e1 w1 r1 _ => ⟨B, env, rs1, dy, rs2, p, R.next e1 w1, h2, hp, fun H2 e2 w2 => ⟨B, env, rs2, dz, rs', o2, (R.next e1 w1).next e2 w2, h3, ho, fun H3 e3 w3 =>
        ⟨B, b, k, R.br, fun q hq => (((R.next e1 w1).next e2 w2).next e3 w3).fresh hq, (r1.ext R.br w1 e2).ext R.br w2 e3, give_of q ((e1.trans e2).trans e3) w3⟩⟩⟩⟩
    generalize hp : prt lo dy = w1 at ev
    generalize ho : prt hi dz = w2 at ev
    split at ev
    · rename_i p o2 k _ _
      cases ev
      exact go true k p o2 hp ho rfl rfl rfl
    · rename_i p o2 k _ _
      cases ev
      exact go false k p o2 hp ho rfl rfl rfl
    · cases ev
/-! ### calls -/
theorem Rep.less {B B' : Addr → Prop} {H : Hp} {v : V} {d : PyData} (h : Rep B H v d) (s : ∀ q, B' q → B q) : Rep B' H v d := h.mono (fun q _ b e => ⟨fun z => b (s q z), e⟩) fun q _ b e => ⟨fun z => b (s q z), e⟩
theorem ArgR.less {B B' : Addr → Prop} {H : Hp} (s : ∀ q, B' q → B q) : ∀ {vs : List V} {l : List Slot}, ArgR F B H vs l → ArgR F B' H vs l
  | _, _, .nil => .nil
  | _, _, .row r => .row (r.less s)
  | _, _, .sh a r => .sh (a.less s) (r.less s)
theorem a_nil : PA X [] (tA F n .nil) :=
  pa_nil.weak fun σ H Q ⟨B, env, rs, d, rs', R, ev, q⟩ => by
    simp only [evA] at ev
    cases ev
    exact q _ _ (fun _ => False) .refl R.wd (fun _ z => z.elim) (fun _ _ z => z) .nil
/-- one argument -/
def A1 (F : Fx) (B : Addr → Prop) (H : Hp) : V → Slot → Prop
  | v, .row => v = .ref F.r
  | v, .sh d => Rep B H v d
  | _, _ => False
theorem A1.less {B B' : Addr → Prop} {H : Hp} {v : V} {s : Slot} (h : A1 F B H v s) (k : ∀ q, B' q → B q) : A1 F B' H v s := by
  cases s with
  | row => exact h
  | sh d => exact Rep.less h k
  | _ => exact h
theorem A1.cons {B : Addr → Prop} {H : Hp} {v : V} {s : Slot} {vs : List V} {l : List Slot} (h : A1 F B H v s) (r : ArgR F B H vs l) : ArgR F B H (v :: vs) (s :: l) := by
  cases s with
  | row => cases (show v = .ref F.r from h); exact .row r
  | sh d => exact .sh h r
  | _ => exact h.elim
theorem A1.ext {B : Addr → Prop} {H H' : Hp} {rs : RS} {v : V} {s : Slot} (hr : B F.r) (hw : Wd F H rs) (he : Ext F H H') (h : A1 F B H v s) : A1 F B H' v s := by
  cases s with
  | row => exact h
  | sh d => exact Rep.ext hr hw he h
  | _ => exact h
/-- an argument: the row, data, or an own list that is lent -/
def tG (F : Fx) (n : Nat) (a : E) : TE := fun σ H Q => ∃ B env rs s rs', RE F B σ H env rs ∧ argOf env a (evE F.ns (cal F.T F.ns n) a env) rs = some (s, rs') ∧ ∀ v H' (P : Addr → Prop), Ext F H H' → Wd F H' rs' → (∀ q, P q → q ≠ F.r ∧ ∃ xs, H' q = some (.lst xs)) → (ownV env a = false → ∀ q, ¬ P q) → A1 F (fun q => B q ∧ ¬ P q) H' v s → Q v H'
theorem g_any {a : E} {x : Expr} (hv : ∀ i, a ≠ .var i) (h : PE X x (tE F n false a)) : PE X x (tG F n a) :=
  h.weak fun σ H Q ⟨B, env, rs, d, rs', R, ev, q⟩ => by
    have e2 : M.bd (evE F.ns (cal F.T F.ns n) a env) (fun d => M.ret (Slot.sh d)) rs = some (d, rs') := by
      cases a with
      | var i => exact absurd rfl (hv i)
      | _ => exact ev
    obtain ⟨y, rs1, h1, ev⟩ := bdS e2
    cases ev
    exact ⟨B, env, rs, y, _, R, h1, fun v H1 e1 w1 r1 _ => q v H1 (fun _ => False) e1 w1 (fun _ z => z.elim) (fun _ _ z => z) (Rep.less r1 fun _ z => z.1)⟩
theorem g_var {i : Nat} {x : Str} {pos : Pos} (hN : X.N[i]? = some x) (hv : visB X.env.scope x = true) (hk : nmOk x = true) : PE X (.Name x pos) (tG F n (.var i)) :=
  (pe_var hN (vis_of hv) (nmOk1 hk).1 (nmOk1 hk).2).weak fun σ H Q ⟨B, env, rs, d', rs', R, ev, q⟩ => by
    simp only [argOf, evE] at ev
    generalize hd : env[i]? = w at ev
    split at ev
    · cases ev
      exact ⟨_, R.sl i _ hd, q _ H (fun _ => False) .refl R.wd (fun _ z => z.elim) (fun _ _ z => z) rfl⟩
    · rename_i l
      cases ev
      obtain ⟨p, xs, h1, hn, h2, h3⟩ := R.sl i _ hd
      exact ⟨_, h1, q _ H (fun z => z = p) .refl R.wd (fun z hz => by subst hz; exact ⟨hn, xs, h2⟩) (fun z => by simp [ownV, hd] at z) (Rep.lst (fun z => z.2 rfl) h2 (h3.mono (fun q _ b e => ⟨fun z => b z.1, e⟩) fun q _ b e => ⟨fun z => b z.1, e⟩))⟩
    · obtain ⟨y, rs1, h1, ev⟩ := bdS ev
      cases ev
      split at h1
      · rename_i d _ _
        cases h1
        obtain ⟨v, h1, h2⟩ := R.sl i _ hd
        exact ⟨v, h1, q v H (fun _ => False) .refl R.wd (fun _ z => z.elim) (fun _ _ z => z) (Rep.less h2 fun _ z => z.1)⟩
      · cases h1
theorem a_cons {e : E} {r : EL} {x : Expr} {xs : List Expr} (ha : PE X x (tG F n e)) (hr : PA X xs (tA F n r)) (hs : nst x = true) : PA X (x :: xs) (tA F n (.cons false e r)) :=
  (pa_cons ha hr (star_nst hs)).weak fun σ H Q ⟨B, env, rs, d, rs', R, ev, q⟩ => by
    simp only [evA] at ev
    obtain ⟨y, rs1, h1, ev⟩ := bdS ev
    obtain ⟨l, rs2, h2, ev⟩ := bdS ev
    cases ev
    refine ⟨B, env, rs, y, rs1, R, h1, fun v H1 P1 e1 w1 p1 n1 r1 => ⟨B, env, rs1, l, _, R.next e1 w1, h2, fun vs H2 P2 e2 w2 p2 n2 r2 => q _ _ (fun z => P1 z ∨ P2 z) (e1.trans e2) w2 (fun z hz => hz.elim (fun hz => ?_) fun hz => p2 z hz) (fun hb z hz => ?_) ?_⟩⟩
    · obtain ⟨g1, xs, g2⟩ := p1 z hz
      exact ⟨g1, xs, e2 z _ g2 g1 (w1.notTab (.inl g2))⟩
    · have hb' : ownV env e = false ∧ brw env r = false := by simpa [brw] using hb
      exact hz.elim (n1 hb'.1 z) (n2 hb'.2 z)
    · have br1 : B F.r ∧ ¬ P1 F.r := ⟨R.br, fun z => (p1 _ z).1 rfl⟩
      have r1' := A1.ext (B := fun q => B q ∧ ¬ P1 q) br1 w1 e2 r1
      exact A1.cons (A1.less r1' fun q z => ⟨z.1, fun y => z.2 (.inl y)⟩) (r2.less fun q z => ⟨z.1, fun y => z.2 (.inr y)⟩)
theorem c_call {j : Nat} {es : EL} {f : Str} {y : Expr} {ys : List Expr} {p pos : Pos} (C : Cok F n g X) (hf : F.dn[j]? = some f) (hg : glB X.env.scope f = true) (hk : nmOk f = true) (hs : (y :: ys).all nst = true) (ha : PA X (y :: ys) (tA F n es)) : PE X (.Call (.Name f p) (y :: ys) [] pos) (tCall (spF F n j) [] C8.E0 (tA F n es)) := by
  rw [List.all_cons, Bool.and_eq_true] at hs
  exact pe_c (C.fns j f hf) (j := lv n + 4 * g) C.rm (by omega) (gl_of hg) ha (nmOk1 hk).1 (star_nst hs.1) (nost hs.2)
mutual
theorem Rep.noL {B B' : Addr → Prop} {H : Hp} (k : ∀ q xs, B q → H q = some (.tup xs) → B' q) : ∀ {v : V} {d : PyData}, Rep B' H v d → noL d = true → Rep B H v d
  | _, _, .non, _ => .non
  | _, _, .bl b, _ => .bl b
  | _, _, .int i, _ => .int i
  | _, _, .str x, _ => .str x
  | _, _, .lst .., h => by simp [Cd.noL] at h
  | _, _, .tup hb h r, hn => .tup (fun z => hb (k _ _ z h)) h (RepL.noL k r (by simpa [Cd.noL] using hn))
theorem RepL.noL {B B' : Addr → Prop} {H : Hp} (k : ∀ q xs, B q → H q = some (.tup xs) → B' q) : ∀ {vs : List V} {ds : List PyData}, RepL B' H vs ds → noLs ds = true → RepL B H vs ds
  | _, _, .nil, _ => .nil
  | _, _, .cons a r, h => by
    rw [noLs, Bool.and_eq_true] at h
    exact .cons (Rep.noL k a h.1) (RepL.noL k r h.2)
end
theorem call_go {j : Nat} {es : EL} {σ : L2.St} {H : Hp} {Q : VK} {B : Addr → Prop} {env l : List Slot} {rs rs1 rs2 : RS} {d : PyData} (R : RE F B σ H env rs) (h1 : evA F.ns (cal F.T F.ns n) es env rs = some (l, rs1)) (h2 : cal F.T F.ns n j l rs1 = some (d, rs2)) (hl : (brw env es && !noL d) = false)
    (q : ∀ v H', Ext F H H' → Wd F H' rs2 → Rep B H' v d → Q v H') : tCall (spF F n j) [] C8.E0 (tA F n es) σ H Q :=
  ⟨B, env, rs, l, rs1, R, h1, fun vs H1 P e1 w1 p1 n1 r1 => ⟨fun q => B q ∧ ¬ P q, l, rs1, d, rs2, ⟨R.br, fun z => (p1 _ z).1 rfl⟩, fun z hz => R.bt' e1 w1 z hz.1, w1, by rw [List.append_nil]; exact r1, h2, fun v H2 e2 w2 r2 => q v H2 (e1.trans e2) w2 (by
    by_cases hb : brw env es = true
    · rw [hb, Bool.true_and, Bool.not_eq_false'] at hl
      refine Rep.noL (fun z xs hz hx => ⟨hz, fun y => ?_⟩) r2 hl
      obtain ⟨g1, ys, g2⟩ := p1 z y
      rw [e2 z _ g2 g1 (w1.notTab (.inl g2))] at hx; cases hx
    · exact Rep.less r2 fun z hz => ⟨hz, n1 (by simpa using hb) z⟩)⟩⟩
theorem lentS {b : Bool} {d d' : PyData} {r r' : RS} (h : lent b d r = some (d', r')) : d' = d ∧ r' = r ∧ (b && !noL d) = false := by
  unfold lent at h
  split at h
  · cases h
  · rename_i hb
    cases h
    exact ⟨rfl, rfl, by simpa using hb⟩
theorem e_call {j : Nat} {es : EL} {f : Str} {y : Expr} {ys : List Expr} {p pos : Pos} (C : Cok F n g X) (hf : F.dn[j]? = some f) (hg : glB X.env.scope f = true) (hk : nmOk f = true) (hs : (y :: ys).all nst = true) (ha : PA X (y :: ys) (tA F n es)) : PE X (.Call (.Name f p) (y :: ys) [] pos) (tE F n false (.call j es)) :=
  (c_call C hf hg hk hs ha).weak fun σ H Q ⟨B, env, rs, d, rs', R, ev, q⟩ => by
    simp only [evE] at ev
    obtain ⟨l, rs1, h1, ev⟩ := bdS ev
    obtain ⟨d1, rs2, h2, ev⟩ := bdS ev
    obtain ⟨rfl, rfl, hl⟩ := lentS ev
    exact call_go R h1 h2 hl fun v H' e w r => q v H' e w r nofun
theorem e_take {r : Nat} {a : E} {x f : Str} {y : Expr} {p p2 pos : Pos} (C : Cok F n g X) (hN : X.N[r]? = some x) (hv : visB X.env.scope x = true) (hkx : nmOk x = true) (hg : glB X.env.scope F.tk = true) (hk : nmOk F.tk = true) (hs : nst y = true) (ha : PE X y (tE F n false a)) : PE X (.Call (.Name F.tk p) [.Name x p2, y] [] pos) (tE F n false (.take r a)) := by
  have h := pe_c (p := p) (pos := pos) C.take (j := lv n + 4 * g) C.rm (by unfold lv; omega) (gl_of hg) (pa_cons (pe_var (pos := p2) hN (vis_of hv) (nmOk1 hkx).1 (nmOk1 hkx).2) (pa_cons ha pa_nil (star_nst hs)) (star_nst rfl)) (nmOk1 hk).1 (star_nst rfl) (nost (by simp [hs]))
  refine h.weak fun σ H Q ⟨B, env, rs, d, rs', R, ev, q⟩ => ?_
  simp only [evE] at ev
  obtain ⟨dx, rs1, h1, ev⟩ := bdS ev
  generalize hrow : env[r]? = w at ev
  split at ev
  · rename_i m
    split at ev
    · rename_i hm
      cases ev
      exact ⟨_, R.sl r _ hrow, B, env, rs, _, rs1, R, h1, fun v H1 e1 w1 r1 _ => ⟨m, rs1, by rw [r1.intE]; rfl, hm.1, hm.2, w1, fun H2 e2 w2 => q _ H2 (e1.trans e2) w2 (.int _) nofun⟩⟩
    · cases ev
  · cases ev
end
end Cd
namespace Cd
open PySem PySem.Spec PyProof.Rows L2 GxR
/-! enumerate over a tuple. -/
theorem drawsT {prog : Program} {w : World} {A : Around} (hh : A.handled = none) (j t : Addr) (hne : t ≠ j) (its : Array Value) :
    Draws prog w A j [j, t] its.size (fun i v => its[i]? = some v) (fun i h => h.IsTupleIter j t i ∧ h.IsTuple t its) where
  live := fun _ _ q => by obtain ⟨o, ho, _⟩ := q.1; exact ⟨o, ho⟩
  frame := fun _ _ _ q k => ⟨q.1.at fun o z => k j (by simp) o z, q.2.at fun o z => k t (by simp) o z⟩
  item := fun i s Q E hi q k => by
    refine wpAny_nextOf_tuple_item q.1 q.2 (x := its[i]) (by simp [hi]) fun h' q' sb => ?_
    exact k _ h' s.toks (by simp [hi]) ⟨q', q.2.extBut sb.extBut hne⟩ sb
  done := fun s Q E q k => wpAny_nextOf_tuple_end hh q.1 q.2 (by simp) k
theorem enumT_new {t : Addr} {its : Array Value} {n : Nat} {dd : Option Addr} {sl : Array (Option Value)} :
    Meets (Builtin.«enumerate.__new__» ⟨[.type "enumerate", .ref t], []⟩) (fun _ R s => s.heap.get? t = some { cls := .type "tuple", dict := dd, data := .seq its n, slots := sl } ∧
      R (.ok (.ret (.ref (s.heap.push { cls := .type "tuple_iterator", data := .fields #[.ref t, .int 0 0] }).objs.size)))
        { s with heap := (s.heap.push { cls := .type "tuple_iterator", data := .fields #[.ref t, .int 0 0] }).push { cls := .type "enumerate", data := .fields #[.none, .bool false, .ref s.heap.objs.size, rawInt 0, .none, .none] } }) :=
  .of_wp fun prog w A R s h => by
    obtain ⟨hp, gg, d0, tk, os⟩ := s
    have ht := h.1
    have h2 := h.2
    have su := sub_enumerate
    have hT : Heap.IsTuple (Shared.heap ⟨hp, gg, d0, tk, os⟩) t its := ⟨_, ht, rfl, n, rfl⟩
    wp_walk using wpAny_loadPart' ht
    refine wpAny_stack_any fun _ => wpAny_pure ?_
    split
    · rename_i c _ _ _ _ _
      cases (c == Value.type "enumerate") <;> (wp_walk using wpAny_loadPart' ht, wpAny_pyIter_tuple hT; exact ⟨_, rfl, h2⟩)
    · wp_walk using wpAny_loadPart' ht, wpAny_pyIter_tuple hT
      exact ⟨_, rfl, h2⟩
section
variable {prog : Program} {w : World} {A : Around} {E : Value → Shared → Prop} {s : Shared}
theorem call_enumT {t : Addr} {its : Array Value} {Q : Value → Shared → Prop} (hT : s.heap.IsTuple t its)
    (k : ∀ h', IsEnum h' (s.heap.objs.size + 1) s.heap.objs.size 0 .none → h'.IsTupleIter s.heap.objs.size t 0 → h'.IsTuple t its →
      (∀ b o, s.heap.get? b = some o → h'.get? b = some o) → Q (.ref (s.heap.objs.size + 1)) { s with heap := h' }) :
    wpAny (model prog w) A (call (.type "enumerate") [.ref t]) Q E s := by
  obtain ⟨⟨c, dd, dt, sl⟩, ht, hc, n, hd⟩ := hT
  have hc2 : c = .type "tuple" := hc
  have hd2 : dt = .seq its n := hd
  subst hc2 hd2
  refine callType_new F.called_enumerate (by decide) (F.typeCall_enumerate_1 _) (F.newCall_enumerate_1 _) (fun ob => F.args_object_init_2 ob _) F.entry_enumerate_new (enumT_new (t := t) (its := its) (n := n) (dd := dd) (sl := sl)) ⟨ht, ?_⟩
  have z1 : (s.heap.push { cls := .type "tuple_iterator", data := .fields #[.ref t, .int 0 0] }).objs.size = s.heap.objs.size + 1 := Heap.size_push ..
  show _ ∧ _
  rw [z1]
  have e0 : ((s.heap.push { cls := .type "tuple_iterator", data := .fields #[.ref t, .int 0 0] }).push { cls := .type "enumerate", data := .fields #[.none, .bool false, .ref s.heap.objs.size, rawInt 0, .none, .none] }).get? (s.heap.objs.size + 1) = some { cls := .type "enumerate", data := .fields #[.none, .bool false, .ref s.heap.objs.size, rawInt 0, .none, .none] } := by
    have q := Heap.get?_push_size (s.heap.push { cls := .type "tuple_iterator", data := .fields #[.ref t, .int 0 0] }) (o := { cls := .type "enumerate", data := .fields #[.none, .bool false, .ref s.heap.objs.size, rawInt 0, .none, .none] }) rfl
    rw [z1] at q; exact q
  exact ⟨⟨_, e0, rfl⟩, k _ e0 ⟨_, Heap.get?_push_of_some _ (Heap.get?_push_size _ rfl), rfl, rfl⟩ ⟨_, Heap.get?_push_of_some _ (Heap.get?_push_of_some _ ht), rfl, n, rfl⟩ fun b o q => Heap.get?_push_of_some _ (Heap.get?_push_of_some _ q)⟩
theorem enumT_end {e j t : Addr} {i m : Nat} {its : Array Value} {old : Value} {Q : Option Value → Shared → Prop} (hh : A.in1.handled = none) (he : IsEnum s.heap e j m old) (hj : s.heap.IsTupleIter j t i) (ht : s.heap.IsTuple t its) (hx : its[i]? = none)
    (k : ∀ h', Heap.ExtBut j s.heap h' → Q none { s with heap := h' }) : wpAny (model prog w) A (pyNext (.ref e)) Q E s := by
  have ty : s.TypeIs (.ref e) "enumerate" := ⟨_, he, rfl⟩
  unfold pyNext
  refine wpAny_bind (wpAny_attempt (wpAny_callSpecial?_slot (name := Str.ofString "__next__") ty F.slot_enumerate_next (wpAny_call_entry F.slot_enumerate_next ty F.entry_enumerate_next ?_ (F.args_enumerate_next_1 _))))
  show wpAny _ _ (field (.ref e) 2 >>= _) _ _ _
  refine wpAny_bind (wpAny_field he rfl (x := .ref j) rfl ?_)
  refine wpAny_bind (wpAny_nextOf_tuple_end hh hj ht hx fun h' x q1 q2 => ?_)
  obtain ⟨o, ho, hc⟩ := q2
  exact wpAny_bind (wpAny_isInstance (T := "StopIteration") (b := true) ⟨o, ho, hc⟩ isSubtype_stop (wpAny_pure (k _ q1)))
end
/-- the tuple at a, each item in a new pair -/
def IteT (K : PySem.W.Frag) (a : Addr) : L2.It :=
  ⟨fun i H => ∃ (xs : List V) (x : V), SqT K H a xs ∧ xs[i]? = some x, fun i H v H' => ∃ T x, v = .ref T ∧ H T = none ∧ H' = upd H T (.tup [.int (i : Nat), x]) ∧ ∀ xs, SqT K H a xs → xs[i]? = some x, fun i H => ∃ xs : List V, SqT K H a xs ∧ xs.length ≤ i⟩
theorem turn_enumT {P : Program} {w : World} {K : PySem.W.Frag} {es : List Expr} {kk : Nat} {tp : Pos} (a e j : Addr) :
    Turn P w K (.Tuple es kk tp) (IteT K a) [e, j] e (fun i h => ((∃ old, IsEnum h e j ((i : Nat) : Int) old) ∧ h.IsTupleIter j a i) ∧ e ≠ j ∧ a ≠ j ∧ e ≠ a) where
  mem := by simp
  obj := fun i h st b hb => by
    obtain ⟨⟨⟨old, he⟩, ⟨o, ho, hc, hd⟩⟩, _⟩ := st
    have hz : b = e ∨ b = j := by simpa using hb
    rcases hz with z | z
    · subst z; exact ⟨_, he, nofun⟩
    · subst z; exact ⟨o, ho, fun v q => by rw [hd] at q; cases q⟩
  keep := fun i h h' st k => by
    obtain ⟨⟨⟨old, he⟩, hi⟩, n1, n2, n3⟩ := st
    exact ⟨⟨⟨old, k e (by simp) _ he⟩, hi.at fun o q => k j (by simp) o q⟩, n1, n2, n3⟩
  item := by
    intro X hP hw hK hc i pins s σ H E I hf st hg
    subst hP hw hK
    obtain ⟨⟨⟨old, he⟩, hi⟩, n1, n2, n3⟩ := st
    obtain ⟨xs, x, hq, hx⟩ := hg
    obtain ⟨its, rv, p, hz⟩ := I.tuple hq
    obtain ⟨u, hu, ru⟩ := rv.get hx
    have le : e < s.heap.objs.size := Heap.lt_size he
    have lj : j < s.heap.objs.size := by obtain ⟨_, q, _⟩ := hi; exact Heap.lt_size q
    have le9 : i < its.toArray.size := by
      have := List.getElem?_eq_some_iff.mp hu
      simpa using this.1
    refine wpAny_pyNext_enum_itemD (drawsT (A := X.A.in1) (I.ok.hd hc) j a n2 its.toArray) he ⟨hi, p⟩ le9 n1 ?_ fun x9 h' tk hx9 ho st9 hT sz hk => ?_
    · simpa using ⟨n1, n3⟩
    have e9 : x9 = u := by
      have q : its.toArray[i]? = some u := by simpa using hu
      have q2 : its.toArray[i]? = some x9 := hx9
      rw [q] at q2; cases q2; rfl
    subst e9
    refine ⟨_, rfl, wpAny_letOwnedTupleGo_enum (s := { s with heap := h', toks := tk + 1 }) ho fun h2 he2 sb => ?_⟩
    have hT2 := (sb.2 _ (Nat.ne_of_gt le)).trans hT
    have hnew : ObjOk X.prog X.w (upd H s.heap.objs.size (.tup [.int (i : Nat), x])) h2 s.heap.objs.size (.tup [.int (i : Nat), x]) := ⟨by show 2 ≤ sizeLine; decide, [.int i tk, x9], .cons ⟨_, rfl⟩ (.cons ru .nil), ⟨_, hT2, rfl, _, rfl⟩⟩
    have I1 : Inv X pins σ (upd H s.heap.objs.size (.tup [.int (i : Nat), x])) { s with heap := h2, toks := tk + 1 } :=
      I.turnedNew (ch := [e, j]) (fun b ob hb q => by
        have z1 : b ≠ e := fun z => hb (by simp [z])
        exact (sb.2 b z1).trans (hk b ob z1 (fun z => hb (by simp [z])) q)) hf (Nat.le_refl _) hnew
    have st2 : h2.IsTupleIter j a (i + 1) := st9.1.at fun o q => (sb.2 j (Ne.symm n1)).trans q
    have ec : ((i + 1 : Nat) : Int) = (i : Int) + 1 := by omega
    refine ⟨.ref s.heap.objs.size, _, I1, rfl, ⟨_, x, rfl, I.hok.fresh (Nat.le_refl _), rfl, fun ys hy => by rw [I.tuple_inj hy hq]; exact hx⟩, ⟨⟨⟨x9, by rw [ec]; exact he2⟩, st2⟩, n1, n2, n3⟩, fun b hb => ?_⟩
    have hz2 : b = e ∨ b = j := by simpa using hb
    rcases hz2 with z | z
    · subst z; rw [upd_ne (Nat.ne_of_lt le)]; exact (hf _ hb).1
    · subst z; rw [upd_ne (Nat.ne_of_lt lj)]; exact (hf _ hb).1
  done := by
    intro X hP hw hK hc i pins s σ H E I hf st hg
    subst hP hw hK
    obtain ⟨⟨⟨old, he⟩, hi⟩, n1, n2, n3⟩ := st
    obtain ⟨xs, hq, hx⟩ := hg
    obtain ⟨its, rv, p, hz⟩ := I.tuple hq
    obtain ⟨f0, f1, f2, f3, f4, f5⟩ := hf j (by simp)
    have ll := rv.length
    exact enumT_end (I.ok.hd hc) he hi p (by simp; omega) fun h' eb => ⟨rfl, I.turned (t' := s.toks) (fun b o hb q => eb b o hb q) f0 f1 f3 f4 f5⟩
  self := fun A i s Q E st h => by
    obtain ⟨⟨⟨_, he⟩, _⟩, _⟩ := st
    exact wpAny_pyIter_enum he h
def iEnumB (K : PySem.W.Frag) (ta : TA) : TI := fun σ H R => ta σ H fun vs H1 => ∃ a xs, vs = [.ref a] ∧ ((SqL K H1 a xs ∧ R (Ite K a) H1) ∨ (SqT K H1 a xs ∧ R (IteT K a) H1))
theorem pi_enumB {X : Cx} {e : Expr} {ta : TA} {p pos tp : Pos} {es : List Expr} {kk : Nat} (hg : Gl X "enumerate") (hm : X.mg "enumerate" = none) (ha : PA X [e] ta) (hs : starEach [e] X.env = [(false, eval e X.env)]) :
    PI X (.Tuple es kk tp) (.Call (.Name "enumerate" p) [e] [] pos) (iEnumB X.K ta) := by
  refine ⟨fun pins s σ H R I h => Call_ (ld_blt I hg hm boot_enumerate (PyProof.Rows.callWith_type1 (thn (ha.run pos pins s σ H _ I h) fun us s1 ⟨vs, H1, I1, r1, a, xs, ex, cs⟩ => ?_) hs rfl))⟩
  subst ex
  cases r1 with
  | cons r rr =>
    cases rr
    cases r
    have fr : ∀ b ∈ [s1.heap.objs.size + 1, s1.heap.objs.size], s1.heap.objs.size ≤ b := fun b hb => by
      have hz : b = s1.heap.objs.size + 1 ∨ b = s1.heap.objs.size := by simpa using hb
      omega
    rcases cs with ⟨hq, q⟩ | ⟨hq, q⟩
    · obtain ⟨its, rv, p1, hz⟩ := I1.list hq
      refine call_enumerate_list p1.isList fun h' he hit _ hk => wpAny_pyIter_enum he ?_
      exact ⟨s1.heap.objs.size + 1, [s1.heap.objs.size + 1, s1.heap.objs.size], _, _, H1, rfl, I1.kept (t' := s1.toks) hk, turn_enum a _ _, ⟨⟨.none, he⟩, hit, Nat.succ_ne_self _⟩, fun b hb => I1.fpOk (fr b hb) (I1.hok.fresh (fr b hb)), q⟩
    · obtain ⟨its, rv, p1, hz⟩ := I1.tuple hq
      have la : a < s1.heap.objs.size := by obtain ⟨_, z, _⟩ := p1; exact Heap.lt_size z
      refine call_enumT p1 fun h' he hit _ hk => wpAny_pyIter_enum he ?_
      exact ⟨s1.heap.objs.size + 1, [s1.heap.objs.size + 1, s1.heap.objs.size], _, _, H1, rfl, I1.kept (t' := s1.toks) hk, turn_enumT a _ _, ⟨⟨⟨.none, he⟩, hit⟩, Nat.succ_ne_self _, Nat.ne_of_lt la, Nat.ne_of_gt (Nat.lt_succ_of_lt la)⟩, fun b hb => I1.fpOk (fr b hb) (I1.hok.fresh (fr b hb)), q⟩
end Cd
namespace Cd
open PySem PySem.Spec PyProof.Rows L2 GxR C8
/-! Walks over data; comprehensions. -/
/-- J walks l; A: places that may change; B: places that no list of l has -/
def JOk (F : Fx) (A B : Addr → Prop) (H1 : Hp) (J : L2.It) (l : List PyData) : Prop := ∀ H', (∀ q o, ¬ A q → q ∉ F.tabs → H1 q = some o → H' q = some o) → ∀ i : Nat, (l.length ≤ i → J.stop i H') ∧ ∀ d, l[i]? = some d → J.go i H' ∧ ∀ x H'', J.yld i H' x H'' → Same H' H'' ∧ ∀ B' : Addr → Prop, Fre B' H' → (∀ q, B' q → B q ∨ H1 q = none) → Rep B' H'' x d
section
variable {F : Fx} {n g : Nat} {X : Cx} {A B : Addr → Prop} {H1 : Hp} {rs : RS}
theorem keptR {B' : Addr → Prop} {H' H'' : Hp} {v : V} {d : PyData} (w : Wd F H1 rs) (hAB : ∀ q, A q → B q) (k : ∀ q o, ¬ A q → q ∉ F.tabs → H1 q = some o → H' q = some o) (s : Same H' H'') (hb : ∀ q, B' q → B q ∨ H1 q = none) (h : Rep B H1 v d) : Rep B' H'' v d :=
  h.mono (fun q xs b e => ⟨fun z => (hb q z).elim b fun m => by (rw [e] at m; cases m), s _ _ (k q _ (fun z => b (hAB q z)) (w.notTab (.inl e)) e)⟩)
    fun q xs b e => ⟨fun z => (hb q z).elim b fun m => by (rw [e] at m; cases m), s _ _ (k q _ (fun z => b (hAB q z)) (w.notTab (.inr e)) e)⟩
theorem jok_list {K : PySem.W.Frag} {a : Addr} {xs : List V} {l : List PyData} (w : Wd F H1 rs) (hAB : ∀ q, A q → B q) (h1 : H1 a = some (.lst xs)) (hA : ¬ A a) (r : RepL B H1 xs l) : JOk F A B H1 (Itl K a) l := fun H' k i => by
  have ha := k a _ hA (w.notTab (.inl h1)) h1
  have hl := r.length
  refine ⟨fun hi => ⟨xs, .of ha, by omega⟩, fun d hd => ?_⟩
  obtain ⟨v, hv, rv⟩ := r.get hd
  refine ⟨⟨xs, v, .of ha, hv⟩, fun x H'' ⟨e, y⟩ => ?_⟩
  subst e
  have e2 := y xs (.of ha)
  rw [hv] at e2; cases e2
  exact ⟨.refl, fun B' _ hb => keptR w hAB k .refl hb rv⟩
theorem jok_tup {K : PySem.W.Frag} {a : Addr} {xs : List V} {l : List PyData} (w : Wd F H1 rs) (hAB : ∀ q, A q → B q) (h1 : H1 a = some (.tup xs)) (hA : ¬ A a) (r : RepL B H1 xs l) : JOk F A B H1 (Itt K a) l := fun H' k i => by
  have ha := k a _ hA (w.notTab (.inr h1)) h1
  have hl := r.length
  refine ⟨fun hi => ⟨xs, .of ha, by omega⟩, fun d hd => ?_⟩
  obtain ⟨v, hv, rv⟩ := r.get hd
  refine ⟨⟨xs, v, .of ha, hv⟩, fun x H'' ⟨e, y⟩ => ?_⟩
  subst e
  have e2 := y xs (.of ha)
  rw [hv] at e2; cases e2
  exact ⟨.refl, fun B' _ hb => keptR w hAB k .refl hb rv⟩
theorem rngD_len : ∀ (k : Nat) (a : Int), (rngD a k).length = k
  | 0, _ => rfl
  | k + 1, a => by unfold rngD; rw [List.length_cons, rngD_len k]
theorem rngD_get : ∀ (k : Nat) (a : Int) (i : Nat) (d : PyData), (rngD a k)[i]? = some d → i < k ∧ d = .int (a + i)
  | 0, _, i, _, h => by simp [rngD] at h
  | k + 1, a, 0, d, h => by unfold rngD at h; simp at h; exact ⟨by omega, by rw [← h]; simp⟩
  | k + 1, a, i + 1, d, h => by
    unfold rngD at h
    obtain ⟨h1, h2⟩ := rngD_get k (a + 1) i d (by simpa using h)
    refine ⟨by omega, ?_⟩
    rw [h2]; congr 1; omega
theorem jok_rng {a : Int} {k : Nat} : JOk F A B H1 (Itr a k) (rngD a k) := fun H' _ i => by
  rw [rngD_len]
  refine ⟨fun h => h, fun d hd => ?_⟩
  obtain ⟨h1, rfl⟩ := rngD_get k a i d hd
  refine ⟨h1, fun x H'' ⟨e, y⟩ => ?_⟩
  subst e y
  exact ⟨.refl, fun _ _ _ => .int _⟩
theorem enumD_len : ∀ (l : List PyData) (a : Int), (enumD a l).length = l.length
  | [], _ => rfl
  | x :: r, a => by unfold enumD; rw [List.length_cons, List.length_cons, enumD_len r]
theorem enumD_get : ∀ (l : List PyData) (a : Int) (i : Nat) (d : PyData), (enumD a l)[i]? = some d → ∃ z, l[i]? = some z ∧ d = .tuple [.int (a + i), z]
  | [], _, i, _, h => by simp [enumD] at h
  | x :: r, a, 0, d, h => by unfold enumD at h; simp at h; exact ⟨x, rfl, by rw [← h]; simp⟩
  | x :: r, a, i + 1, d, h => by
    unfold enumD at h
    obtain ⟨z, h1, h2⟩ := enumD_get r (a + 1) i d (by simpa using h)
    refine ⟨z, by simpa using h1, ?_⟩
    have e9 : a + ((i + 1 : Nat) : Int) = a + 1 + (i : Int) := by omega
    rw [h2, e9]
theorem jok_enum {K : PySem.W.Frag} {a : Addr} {xs : List V} {l : List PyData} (w : Wd F H1 rs) (hAB : ∀ q, A q → B q) (h1 : H1 a = some (.lst xs)) (hA : ¬ A a) (r : RepL B H1 xs l) : JOk F A B H1 (Ite K a) (enumD 0 l) := fun H' k i => by
  have ha := k a _ hA (w.notTab (.inl h1)) h1
  have hl := r.length
  refine ⟨fun hi => ⟨xs, .of ha, by rw [enumD_len] at hi; omega⟩, fun d hd => ?_⟩
  obtain ⟨z, hz, rfl⟩ := enumD_get l 0 i d hd
  obtain ⟨v, hv, rv⟩ := r.get hz
  refine ⟨⟨xs, v, .of ha, hv⟩, fun x H'' ⟨T, u, hx, hT, e, y⟩ => ?_⟩
  subst hx e
  have e2 := y xs (.of ha)
  rw [hv] at e2; cases e2
  refine ⟨.new hT, fun B' hf hb => .tup (hf T hT) upd_same (.cons ?_ (.cons (keptR w hAB k (.new hT) hb rv) .nil))⟩
  rw [Int.zero_add]; exact .int _
theorem jok_enumT {K : PySem.W.Frag} {a : Addr} {xs : List V} {l : List PyData} (w : Wd F H1 rs) (hAB : ∀ q, A q → B q) (h1 : H1 a = some (.tup xs)) (hA : ¬ A a) (r : RepL B H1 xs l) : JOk F A B H1 (IteT K a) (enumD 0 l) := fun H' k i => by
  have ha := k a _ hA (w.notTab (.inr h1)) h1
  have hl := r.length
  refine ⟨fun hi => ⟨xs, .of ha, by rw [enumD_len] at hi; omega⟩, fun d hd => ?_⟩
  obtain ⟨z, hz, rfl⟩ := enumD_get l 0 i d hd
  obtain ⟨v, hv, rv⟩ := r.get hz
  refine ⟨⟨xs, v, .of ha, hv⟩, fun x H'' ⟨T, u, hx, hT, e, y⟩ => ?_⟩
  subst hx e
  have e2 := y xs (.of ha)
  rw [hv] at e2; cases e2
  refine ⟨.new hT, fun B' hf hb => .tup (hf T hT) upd_same (.cons ?_ (.cons (keptR w hAB k (.new hT) hb rv) .nil))⟩
  rw [Int.zero_add]; exact .int _
theorem zipD_len : ∀ (l m : List PyData), (zipD l m).length = min l.length m.length
  | [], m => by unfold zipD; simp
  | x :: r, [] => by unfold zipD; simp
  | x :: r, y :: q => by unfold zipD; rw [List.length_cons, zipD_len r q, List.length_cons, List.length_cons]; omega
theorem zipD_get : ∀ (l m : List PyData) (i : Nat) (d : PyData), (zipD l m)[i]? = some d → ∃ x y, l[i]? = some x ∧ m[i]? = some y ∧ d = .tuple [x, y]
  | [], m, i, d, h => by simp [zipD] at h
  | x :: r, [], i, d, h => by simp [zipD] at h
  | x :: r, y :: q, 0, d, h => by unfold zipD at h; simp at h; exact ⟨x, y, rfl, rfl, h.symm⟩
  | x :: r, y :: q, i + 1, d, h => by
    unfold zipD at h
    obtain ⟨u, v, h1, h2, h3⟩ := zipD_get r q i d (by simpa using h)
    exact ⟨u, v, by simpa using h1, by simpa using h2, h3⟩
theorem jok_zip {K : PySem.W.Frag} {a b : Addr} {xs ys : List V} {l m : List PyData} (w : Wd F H1 rs) (hAB : ∀ q, A q → B q) (h1 : H1 a = some (.lst xs)) (hA : ¬ A a) (r : RepL B H1 xs l) (h2 : H1 b = some (.lst ys)) (hA2 : ¬ A b) (r2 : RepL B H1 ys m) : JOk F A B H1 (Itz K a b) (zipD l m) := fun H' k i => by
  have ha := k a _ hA (w.notTab (.inl h1)) h1
  have hb := k b _ hA2 (w.notTab (.inl h2)) h2
  have hl := r.length
  have hm := r2.length
  refine ⟨fun hi => ⟨xs, ys, .of ha, .of hb, by rw [zipD_len] at hi; omega⟩, fun d hd => ?_⟩
  obtain ⟨z, z2, hz, hz2, rfl⟩ := zipD_get l m i d hd
  obtain ⟨v, hv, rv⟩ := r.get hz
  obtain ⟨v2, hv2, rv2⟩ := r2.get hz2
  refine ⟨⟨xs, ys, v, v2, .of ha, .of hb, hv, hv2⟩, fun x H'' ⟨T, u, u2, hx, hT, e, y, y2⟩ => ?_⟩
  subst hx e
  have e2 := y xs (.of ha)
  rw [hv] at e2; cases e2
  have e3 := y2 ys (.of hb)
  rw [hv2] at e3; cases e3
  exact ⟨.new hT, fun B' hf hB => .tup (hf T hT) upd_same (.cons (keptR w hAB k (.new hT) hB rv) (.cons (keptR w hAB k (.new hT) hB rv2) .nil))⟩
/-- what is walked -/
def tI (F : Fx) (n : Nat) (it : It) : TI := fun σ H R => ∃ B env rs l rs', RE F B σ H env rs ∧ evI F.ns (cal F.T F.ns n) it env rs = some (l, rs') ∧
  ∀ J H1, Ext F H H1 → Wd F H1 rs' → JOk F (· = F.r) B H1 J l → (frOk env it = true → JOk F B B H1 J l) → R J H1
theorem notB {a : Addr} {H : Hp} {l : List PyData} (h : Rep B H (.ref a) (.list l)) : ¬ B a := by cases h; assumption
theorem i_seq {a : E} {x tg : Expr} (h : PE X x (tW F n a)) : PI X tg x (tI F n (.seq a)) := ⟨fun pins s σ H R I ⟨B, env, rs, l, rs', Re, ev, q⟩ => by
  simp only [evI] at ev
  obtain ⟨d, rs1, h1, ev⟩ := bdS ev
  obtain ⟨h2, rfl⟩ := ofS ev
  cases d with
  | list ds =>
    cases h2
    refine (pi_list h).run pins s σ H R I ⟨B, env, rs, _, _, Re, h1, fun v H1 e1 w1 r1 no => ?_⟩
    obtain ⟨p, xs, rfl, hn, hh, rr⟩ := r1.list Re.br
    exact ⟨p, rfl, ⟨xs, .of hh⟩, q _ _ e1 w1 (jok_list w1 (fun q e => e ▸ Re.br) hh hn rr) fun hf => jok_list w1 (fun _ z => z) hh (notB (no (by simpa [frOk] using hf))) rr⟩
  | tuple ds =>
    cases h2
    refine (pi_tup h).run pins s σ H R I ⟨B, env, rs, _, _, Re, h1, fun v H1 e1 w1 r1 no => ?_⟩
    obtain ⟨p, xs, rfl, hb, hh, rr⟩ := r1.tuple
    exact ⟨p, rfl, ⟨xs, .of hh⟩, q _ _ e1 w1 (jok_tup w1 (fun q e => e ▸ Re.br) hh (fun z => hb (z ▸ Re.br)) rr) fun hf => jok_tup w1 (fun _ z => z) hh hb rr⟩
  | _ => cases h2⟩
theorem i_r1 {a : E} {x tg : Expr} {p pos : Pos} (C : Cok F n g X) (hg : glB X.env.scope "range" = true) (h : PE X x (tE F n false a)) (hs : nst x = true) : PI X tg (.Call (.Name "range" p) [x] [] pos) (tI F n (.r1 a)) := ⟨fun pins s σ H R I ⟨B, env, rs, l, rs', Re, ev, q⟩ => by
  simp only [evI] at ev
  obtain ⟨d, rs1, h1, ev⟩ := bdS ev
  refine (pi_range1 (gl_of hg) (C.nob _ (by decide)) (pa_cons h pa_nil (star_nst hs)) (star_nst hs)).run pins s σ H R I ⟨B, env, rs, d, rs1, Re, h1, fun v H1 e1 w1 r1 _ => ?_⟩
  split at ev
  · split at ev
    · rename_i hk
      cases ev
      exact ⟨_, by rw [r1.intE], by omega, by omega, q _ _ e1 w1 jok_rng fun _ => jok_rng⟩
    · cases ev
  · cases ev⟩
theorem i_r2 {a b : E} {x y tg : Expr} {p pos : Pos} (C : Cok F n g X) (hg : glB X.env.scope "range" = true) (ha : PE X x (tE F n false a)) (hb : PE X y (tE F n false b)) (hs : nst x = true) (hs2 : nst y = true) : PI X tg (.Call (.Name "range" p) [x, y] [] pos) (tI F n (.r2 a b)) := ⟨fun pins s σ H R I ⟨B, env, rs, l, rs', Re, ev, q⟩ => by
  simp only [evI] at ev
  obtain ⟨d, rs1, h1, ev⟩ := bdS ev
  obtain ⟨d2, rs2, h2, ev⟩ := bdS ev
  refine (pi_range2 (gl_of hg) (C.nob _ (by decide)) (pa_cons ha (pa_cons hb pa_nil (star_nst hs2)) (star_nst hs)) (by rw [star_nst hs, star_nst hs2]; rfl) (star_nst hs2)).run pins s σ H R I ⟨B, env, rs, d, rs1, Re, h1, fun v H1 e1 w1 r1 _ => ⟨B, env, rs1, d2, rs2, Re.next e1 w1, h2, fun w H2 e2 w2 r2 _ => ?_⟩⟩
  split at ev
  · split at ev
    · rename_i hk
      cases ev
      exact ⟨_, _, by rw [r1.intE, r2.intE], by omega, q _ _ (e1.trans e2) w2 jok_rng fun _ => jok_rng⟩
    · cases ev
  · cases ev⟩
theorem i_enum {a : E} {x : Expr} {p pos tpos : Pos} {elts : List Expr} {kk : Nat} (C : Cok F n g X) (hg : glB X.env.scope "enumerate" = true) (h : PE X x (tW F n a)) (hs : nst x = true) : PI X (.Tuple elts kk tpos) (.Call (.Name "enumerate" p) [x] [] pos) (tI F n (.enum a)) := ⟨fun pins s σ H R I ⟨B, env, rs, l, rs', Re, ev, q⟩ => by
  simp only [evI] at ev
  obtain ⟨d, rs1, h1, ev⟩ := bdS ev
  refine (pi_enumB (gl_of hg) (C.nob _ (by decide)) (pa_cons h pa_nil (star_nst hs)) (star_nst hs)).run pins s σ H R I ⟨B, env, rs, d, rs1, Re, h1, fun v H1 e1 w1 r1 no => ?_⟩
  split at ev
  · cases ev
    obtain ⟨p, xs, rfl, hn, hh, rr⟩ := r1.list Re.br
    exact ⟨p, xs, rfl, .inl ⟨.of hh, q _ _ e1 w1 (jok_enum w1 (fun q e => e ▸ Re.br) hh hn rr) fun hf => jok_enum w1 (fun _ z => z) hh (notB (no (by simpa [frOk] using hf))) rr⟩⟩
  · cases ev
    obtain ⟨p, xs, rfl, hb, hh, rr⟩ := r1.tuple
    exact ⟨p, xs, rfl, .inr ⟨.of hh, q _ _ e1 w1 (jok_enumT w1 (fun q e => e ▸ Re.br) hh (fun z => hb (z ▸ Re.br)) rr) fun hf => jok_enumT w1 (fun _ z => z) hh hb rr⟩⟩
  · cases ev⟩
theorem i_zip {a b : E} {x y : Expr} {p pos tpos : Pos} {elts : List Expr} {kk : Nat} (C : Cok F n g X) (hg : glB X.env.scope "zip" = true) (ha : PE X x (tW F n a)) (hb : PE X y (tW F n b)) (hs : nst x = true) (hs2 : nst y = true) : PI X (.Tuple elts kk tpos) (.Call (.Name "zip" p) [x, y] [] pos) (tI F n (.zip a b)) := ⟨fun pins s σ H R I ⟨B, env, rs, l, rs', Re, ev, q⟩ => by
  simp only [evI] at ev
  obtain ⟨d, rs1, h1, ev⟩ := bdS ev
  obtain ⟨d2, rs2, h2, ev⟩ := bdS ev
  refine (pi_zip (gl_of hg) (C.nob _ (by decide)) (pa_cons ha (pa_cons hb pa_nil (star_nst hs2)) (star_nst hs)) (star_nst hs) (nost (by simp [hs2]))).run pins s σ H R I ⟨B, env, rs, d, rs1, Re, h1, fun v H1 e1 w1 r1 no => ⟨B, env, rs1, d2, rs2, Re.next e1 w1, h2, fun w H2 e2 w2 r2 no2 => ?_⟩⟩
  split at ev
  · cases ev
    obtain ⟨p1, xs, rfl, hn, hh, rr⟩ := (r1.ext Re.br w1 e2).list Re.br
    obtain ⟨p2, ys, rfl, hn2, hh2, rr2⟩ := r2.list Re.br
    refine ⟨p1, p2, xs, ys, rfl, .of hh, .of hh2, q _ _ (e1.trans e2) w2 (jok_zip w2 (fun q e => e ▸ Re.br) hh hn rr hh2 hn2 rr2) fun hf => ?_⟩
    have hf2 : ownV env a = false ∧ ownV env b = false := by simpa [frOk] using hf
    exact jok_zip w2 (fun _ z => z) hh (notB (no hf2.1)) rr hh2 (notB (no2 hf2.2)) rr2
  · cases ev⟩
/-! ### targets -/
def setσ : L2.St → List Nat → List V → L2.St
  | σ, i :: is, v :: vs => setσ (σ.set i (some v)) is vs
  | σ, _, _ => σ
inductive BindR (B : Addr → Prop) (H : Hp) (σ : L2.St) : Tg → PyData → L2.St → Prop
  | nm {i : Nat} {v : V} {d : PyData} (r : Rep B H v d) : BindR B H σ (.nm i) d (σ.set i (some v))
  | tp {is : List Nat} {vs : List V} {l : List PyData} (r : RepL B H vs l) (hl : is.length = l.length) : BindR B H σ (.tp is) (.tuple l) (setσ σ is vs)
def lenOk : Tg → PyData → Prop
  | .nm _, _ => True
  | .tp is, .tuple l => is.length = l.length
  | _, _ => False
def tB (t : Tg) : TG := fun v σ H Q => ∃ B d, Rep B H v d ∧ lenOk t d ∧ ∀ σ', BindR B H σ t d σ' → Q σ' H
/-- a name as a target; fnB: cells that this block owns -/
def tgN (N : List Str) (sc : Scope) (fnB : Str → Bool) (i : Nat) (e : Expr) : Bool := match e with
  | .Name x _ => decide (N[i]? = some x) && (decide (sc.names.lookup x = some .local) || (decide (sc.names.lookup x = some .cell) && fnB x))
  | _ => false
def tgNs (N : List Str) (sc : Scope) (fnB : Str → Bool) : List Nat → List Expr → Bool
  | [], [] => true
  | i :: is, e :: es => tgN N sc fnB i e && tgNs N sc fnB is es
  | _, _ => false
def tgB (N : List Str) (sc : Scope) (fnB : Str → Bool) (t : Tg) (e : Expr) : Bool := match t, e with
  | .nm i, e => tgN N sc fnB i e
  | .tp is, .Tuple es _ _ => tgNs N sc fnB is es
  | _, _ => false
theorem tgN_ok {fnB : Str → Bool} (hN : X.N.Nodup) (hf : ∀ x, fnB x = true → X.fn x = true) {i : Nat} {e : Expr} (h : tgN X.N X.env.scope fnB i e = true) : PG X e (gName i) ∧ nst e = true := by
  unfold tgN at h
  split at h
  · rename_i x pos
    simp only [Bool.and_eq_true, Bool.or_eq_true, decide_eq_true_eq] at h
    refine ⟨?_, rfl⟩
    rcases h.2 with z | ⟨z, z2⟩
    · exact pg_name hN h.1 (.inl z) (.inr z)
    · exact pg_name hN h.1 (.inr z) (.inl (hf _ z2))
  · cases h
theorem asg_nst {e : Expr} {es : List Expr} {env : Env} (h : nst e = true) : assignEach (e :: es) env = (false, assign e env) :: assignEach es env := by
  cases e <;> first | rfl | cases h
def gNs : List Nat → TGs
  | [] => gNil
  | i :: is => gCons (gName i) (gNs is)
theorem tgNs_ok {fnB : Str → Bool} (hN : X.N.Nodup) (hf : ∀ x, fnB x = true → X.fn x = true) : ∀ {is : List Nat} {es : List Expr}, tgNs X.N X.env.scope fnB is es = true → PGs X es (gNs is) ∧ (assignEach es X.env).length = is.length ∧ (assignEach es X.env).findIdx? (·.1) = none
  | [], [], _ => ⟨pgs_nil, rfl, rfl⟩
  | i :: is, e :: es, h => by
    unfold tgNs at h
    rw [Bool.and_eq_true] at h
    obtain ⟨h1, h2⟩ := tgN_ok hN hf h.1
    obtain ⟨h3, h4, h5⟩ := tgNs_ok hN hf h.2
    have e1 := asg_nst (es := es) (env := X.env) h2
    refine ⟨pgs_cons h1 h3 (by rw [e1]; rfl), by rw [e1, List.length_cons, h4]; rfl, ?_⟩
    rw [e1, List.findIdx?_cons]
    simp only [Bool.false_eq_true, if_false]
    rw [h5]; rfl
  | [], _ :: _, h => by cases h
  | _ :: _, [], h => by cases h
theorem gNs_go : ∀ {is : List Nat} {vs : List V} {σ : L2.St} {H : Hp} {Q : L2.St → Hp → Prop}, is.length = vs.length → Q (setσ σ is vs) H → gNs is vs σ H Q
  | [], [], _, _, _, _, q => ⟨rfl, q⟩
  | i :: is, v :: vs, σ, H, Q, h, q => ⟨v, vs, rfl, gNs_go (is := is) (vs := vs) (σ := σ.set i (some v)) (by simpa using h) q⟩
  | [], _ :: _, _, _, _, h, _ => by simp at h
  | _ :: _, [], _, _, _, h, _ => by simp at h
theorem g_tg {fnB : Str → Bool} {t : Tg} {e : Expr} (hc : X.calm = true) (hN : X.N.Nodup) (hf : ∀ x, fnB x = true → X.fn x = true) (h : tgB X.N X.env.scope fnB t e = true) : PG X e (tB t) := by
  unfold tgB at h
  split at h
  · exact (tgN_ok hN hf h).1.weak fun v σ H Q ⟨B, d, r, _, q⟩ => q _ (.nm r)
  · obtain ⟨h1, h2, h3⟩ := tgNs_ok hN hf h
    refine (pg_tup hc h1 h2 h3).weak fun v σ H Q ⟨B, d, r, hl, q⟩ => ?_
    cases d with
    | tuple l =>
      cases r with
      | tup hb hh rr =>
        have hl2 : _ = l.length := hl
        exact ⟨_, _, rfl, .of hh, by rw [rr.length, ← hl2], gNs_go (by rw [rr.length, ← hl2]) (q _ (.tp rr hl2))⟩
    | _ => cases hl
  · cases h
end
end Cd
namespace Cd
open PySem PySem.Spec PyProof.Rows L2 GxR C8 GenW
/-! Blocks of comprehensions and generator expressions. -/
section
variable {F : Fx} {B : Addr → Prop} {σ σ' : L2.St} {H H1 H' : Hp} {env env' : List Slot} {rs rs1 rs' : RS}
theorem RE.set {i : Nat} {v : V} {d : PyData} (R : RE F B σ H env rs) (r : Rep B H v d) : RE F B (σ.set i (some v)) H (env.set i (.sh d)) rs where
  len := by rw [List.length_set, List.length_set]; exact R.len
  sl := fun j s e => by
    rw [List.getElem?_set] at e ⊢
    by_cases h : i = j
    · rw [if_pos h] at e ⊢
      split at e
      · rename_i hl
        cases e
        rw [if_pos (by rw [← R.len]; exact hl)]
        exact ⟨v, rfl, r⟩
      · cases e
    · rw [if_neg h] at e ⊢
      exact R.sl j s e
  br := R.br
  bt := R.bt
  wd := R.wd
theorem RE.setAll : ∀ {is : List Nat} {vs : List V} {l : List PyData} {σ : L2.St} {env env' : List Slot}, RE F B σ H env rs → RepL B H vs l → setAll env is l = some env' → RE F B (setσ σ is vs) H env' rs
  | [], _, [], _, _, _, R, .nil, e => by cases e; exact R
  | i :: is, _, _ :: _, _, _, _, R, .cons a r, e => by have z := RE.setAll (is := is) (R.set (i := i) a) r e; exact z
  | [], _, _ :: _, _, _, _, _, _, e => by cases e
  | _ :: _, _, [], _, _, _, _, _, e => by cases e
theorem RE.bind {t : Tg} {d : PyData} (R : RE F B σ H env rs) (b : BindR B H σ t d σ') (e : bindT env t d = some env') : RE F B σ' H env' rs := by
  cases b with
  | nm r => cases e; exact R.set r
  | tp r hl => exact R.setAll r e
theorem setAll_len : ∀ {is : List Nat} {l : List PyData} {env env' : List Slot}, setAll env is l = some env' → is.length = l.length
  | [], [], _, _, _ => rfl
  | i :: is, _ :: l, _, _, e => congrArg (· + 1) (setAll_len (is := is) (l := l) e)
  | [], _ :: _, _, _, e => by cases e
  | _ :: _, [], _, _, e => by cases e
theorem bindT_len {t : Tg} {d : PyData} (e : bindT env t d = some env') : lenOk t d := by
  unfold bindT at e
  split at e
  · trivial
  · exact setAll_len e
  · cases e
theorem RE.wipe (R : RE F B σ H env rs) : ∀ vs : List Nat, RE F B (wipe σ vs) H (wipeE env vs) rs
  | [] => R
  | i :: vs => by
    have R' := R.wipe vs
    refine ⟨?_, fun j s e => ?_, R.br, R.bt, R.wd⟩
    · show ((wipeE env vs).set i .no).length = ((L2.wipe σ vs).set i none).length
      rw [List.length_set, List.length_set]; exact R'.len
    · have e' : ((wipeE env vs).set i .no)[j]? = some s := e
      show SR F B H s ((L2.wipe σ vs).set i none)[j]?
      rw [List.getElem?_set] at e' ⊢
      by_cases h : i = j
      · rw [if_pos h] at e'
        split at e'
        · cases e'; trivial
        · cases e'
      · rw [if_neg h] at e' ⊢
        exact R'.sl j s e'
theorem wipe_get (σ : L2.St) (j : Nat) : ∀ vs : List Nat, (L2.wipe σ vs)[j]? = if j ∈ vs then (σ[j]?).map (fun _ => none) else σ[j]?
  | [] => by simp [L2.wipe]
  | i :: vs => by
    show ((L2.wipe σ vs).set i none)[j]? = _
    rw [List.getElem?_set, wipe_get σ j vs, wipe_length]
    by_cases h : i = j
    · subst h
      rw [if_pos rfl, if_pos List.mem_cons_self]
      by_cases hl : i < σ.length
      · rw [if_pos hl, List.getElem?_eq_getElem hl]; rfl
      · rw [if_neg hl, List.getElem?_eq_none (by omega)]; rfl
    · rw [if_neg h]
      have : (j ∈ i :: vs) = (j ∈ vs) := by rw [List.mem_cons]; simp [show ¬ j = i from fun z => h z.symm]
      simp only [this]
def tgSl : Tg → List Nat
  | .nm i => [i]
  | .tp is => is
theorem setσ_get (j : Nat) : ∀ (is : List Nat) (vs : List V) (σ : L2.St), j ∉ is → (setσ σ is vs)[j]? = σ[j]?
  | [], _, _, _ => rfl
  | i :: is, [], _, _ => rfl
  | i :: is, v :: vs, σ, h => by
    rw [List.mem_cons, not_or] at h
    show (setσ (σ.set i (some v)) is vs)[j]? = _
    rw [setσ_get j is vs _ h.2, List.getElem?_set, if_neg fun z => h.1 z.symm]
theorem setσ_len : ∀ (is : List Nat) (vs : List V) (σ : L2.St), (setσ σ is vs).length = σ.length
  | [], _, _ => rfl
  | i :: is, [], _ => rfl
  | i :: is, v :: vs, σ => by
    show (setσ (σ.set i (some v)) is vs).length = _
    rw [setσ_len is vs, List.length_set]
theorem bindR_wipe {t : Tg} {d : PyData} {vs : List Nat} (b : BindR B H (L2.wipe σ vs) t d σ') (ht : ∀ i ∈ tgSl t, i ∈ vs) : L2.wipe σ' vs = L2.wipe σ vs := by
  have hl : σ'.length = σ.length ∧ ∀ j, j ∉ vs → σ'[j]? = (L2.wipe σ vs)[j]? := by
    cases b with
    | @nm i v d r =>
      refine ⟨by rw [List.length_set, wipe_length], fun j hj => ?_⟩
      rw [List.getElem?_set, if_neg]
      intro z; exact hj (z ▸ ht i (by simp [tgSl]))
    | @tp is ws l r hl =>
      exact ⟨by rw [setσ_len, wipe_length], fun j hj => setσ_get j is ws _ fun z => hj (ht j z)⟩
  refine List.ext_getElem? fun j => ?_
  rw [wipe_get, wipe_get]
  by_cases hj : j ∈ vs
  · rw [if_pos hj, if_pos hj]
    by_cases h : j < σ.length
    · rw [List.getElem?_eq_getElem h, List.getElem?_eq_getElem (by rw [hl.1]; exact h)]; rfl
    · have h1 : σ.length ≤ j := by omega
      have h2 : σ'.length ≤ j := by rw [hl.1]; exact h1
      rw [List.getElem?_eq_none h2, List.getElem?_eq_none h1]
  · rw [if_neg hj, if_neg hj, hl.2 j hj, wipe_get, if_neg hj]
/-- one more banned place -/
theorem RE.add {D : Addr} (R : RE F B σ H1 env rs1) (hD : H1 D = none) (e : Ext F H1 H') (w : Wd F H' rs') (hD' : ∃ o, H' D = some o) : RE F (fun q => B q ∨ q = D) σ H' env rs' := by
  have R' := R.next e w
  have ml : ∀ q xs, ¬ B q → H1 q = some (.lst xs) → ¬ (B q ∨ q = D) ∧ H' q = some (.lst xs) := fun q xs b h =>
    ⟨fun z => z.elim b fun z => (by rw [z, hD] at h; cases h), e q _ h (fun z => b (z ▸ R.br)) (R.wd.notTab (.inl h))⟩
  have mt : ∀ q xs, ¬ B q → H1 q = some (.tup xs) → ¬ (B q ∨ q = D) ∧ H' q = some (.tup xs) := fun q xs b h =>
    ⟨fun z => z.elim b fun z => (by rw [z, hD] at h; cases h), e q _ h (fun z => b (z ▸ R.br)) (R.wd.notTab (.inr h))⟩
  refine ⟨R.len, fun i s h => ?_, .inl R.br, fun q hq => hq.elim (R'.bt q) fun z => z ▸ hD', w⟩
  have h := R.sl i s h
  cases s with
  | no => trivial
  | sh d => obtain ⟨v, h1, h2⟩ := h; exact ⟨v, h1, h2.mono ml mt⟩
  | ow ds =>
    obtain ⟨p, xs, h1, hn, h2, h3⟩ := h
    exact ⟨p, xs, h1, hn, e p _ h2 hn (R.wd.notTab (.inl h2)), h3.mono ml mt⟩
  | row => exact h
theorem Wd.upd {D : Addr} {o : HO} (w1 : Wd F H1 rs1) (hD : H1 D = none) (e : Ext F H1 H') (w : Wd F H' rs') : Wd F (upd H' D o) rs' := by
  refine ⟨?_, ?_, fun p hp => ?_, w.ok⟩
  · rw [upd_ne]; exact w.row
    intro z; have := w1.row; rw [z, hD] at this; cases this
  · have hs : F.scr ≠ D ∨ ∃ (o : Obj) (its : Array Value) (n : Nat), F.K.lookup F.scr = some o ∧ o.cls = .type "list" ∧ o.dict = none ∧ o.data = .seq its n ∧ its.size ≤ sizeLine ∧ Vals (F.ns.map V.int) its.toList := by
      rcases w1.scr with (h | ⟨ob, h⟩) | h
      · exact .inl fun z => by rw [z, hD] at h; cases h
      · exact .inl fun z => by rw [z, hD] at h; cases h
      · exact .inr h
    rcases hs with hs | hs
    · rcases w.scr with (h | ⟨ob, h⟩) | h
      · exact .inl (.inl (by rw [upd_ne hs]; exact h))
      · exact .inl (.inr ⟨ob, by rw [upd_ne hs]; exact h⟩)
      · exact .inr h
    · exact .inr hs
  · obtain ⟨ps, h, t⟩ := w.tab p hp
    refine ⟨ps, ?_, t⟩
    rw [upd_ne]; exact h
    obtain ⟨ps1, h1, _⟩ := w1.tab p hp
    intro z; rw [z, hD] at h1; cases h1
theorem Ext.upd {D : Addr} {o : HO} (hD : H1 D = none) (e : Ext F H1 H') : Ext F H1 (upd H' D o) := fun q u h h1 h2 => by
  rw [upd_ne]; exact e q u h h1 h2
  intro z; rw [z, hD] at h; cases h
theorem Ext.keep (e : Ext F H H') : ∀ q o, ¬ (q = F.r) → q ∉ F.tabs → H q = some o → H' q = some o := fun q o h1 h2 h => e q o h h1 h2
end
section
variable {F : Fx} {n g : Nat} {X : Cx}
/-- one item of a comprehension -/
def itemF (F : Fx) (n : Nat) (vs : List Nat) (t : Tg) (c e : E) (env : List Slot) : PyData → M (Option PyData) := fun x => match bindT (wipeE env vs) t x with
  | some env' => M.bd (evT F.ns (cal F.T F.ns n) c env') fun k => if k then M.bd (evE F.ns (cal F.T F.ns n) e env') fun y => M.ret (some y) else M.ret none
  | none => M.no
theorem drop_cons {α : Type} {l : List α} {i : Nat} {d : α} (h : l[i]? = some d) : l.drop i = d :: l.drop (i + 1) := by
  obtain ⟨h1, h2⟩ := List.getElem?_eq_some_iff.mp h
  rw [List.drop_eq_getElem_cons h1, h2]
theorem lc_go {own : List (Str × Nat)} {t : Tg} {it : It} {c e : E} {σ : L2.St} {H : Hp} {Q : VK} (ht : ∀ i ∈ tgSl t, i ∈ own.map (·.2)) (h : tE F n true (.lc own t it c e) σ H Q) :
    tLc (tI F n it) (tB t) (tT F n c) (tE F n false e) (own.map (·.2)) σ H Q := by
  obtain ⟨B, env, rs, d, rs', R, ev, q⟩ := h
  simp only [evE] at ev
  obtain ⟨l, rs1, h1, ev⟩ := bdS ev
  obtain ⟨res, rs2, h2, ev⟩ := bdS ev
  split at ev
  · rename_i hres
    cases ev
    refine ⟨B, env, rs, l, rs1, R, h1, fun J H1 e1 w1 jok _ D hD => ?_⟩
    have R1 := R.next e1 w1
    have hDr : D ≠ F.r := fun z => by have := w1.row; rw [← z, hD] at this; cases this
    have hDt : D ∉ F.tabs := fun z => by obtain ⟨ps, h, _⟩ := w1.tab D z; rw [hD] at h; cases h
    have hDB : ¬ B D := R1.fresh hD
    refine ⟨fun i m H' => m = l.length - i ∧ i ≤ l.length ∧ ∃ rsi acc accD rest, Ext F H1 H' ∧ Wd F H' rsi ∧ H' D = some (.lst acc) ∧ RepL (fun q => B q ∨ q = D) H' acc accD ∧ mapL (itemF F n (own.map (·.2)) t c e env) (l.drop i) rsi = some (rest, rs') ∧ res = accD ++ rest, ⟨l.length, rfl, Nat.zero_le _, rs1, [], [], res, Ext.upd hD .refl, w1.upd hD .refl w1, upd_same, .nil, h2, rfl⟩, ?_⟩
    rintro i m H' ⟨rfl, hi, rsi, acc, accD, rest, ee, ww, hacc, racc, hm, hre⟩
    obtain ⟨js, jg⟩ := jok H' ee.keep i
    by_cases hlt : l.length ≤ i
    · refine .inl ⟨js hlt, ?_⟩
      have hil : l.drop i = [] := List.drop_eq_nil_of_le hlt
      rw [hil] at hm
      have hm' : some (([] : List PyData), rsi) = some (rest, rs') := hm
      cases hm'
      rw [List.append_nil] at hre
      subst hre
      exact q _ H' (e1.trans ee) ww (.lst hDB hacc (racc.mono (fun p xs b h => ⟨fun z => b (.inl z), h⟩) fun p xs b h => ⟨fun z => b (.inl z), h⟩)) fun _ l e => by cases e; exact ⟨D, acc, rfl, noneBack e1 w1 hD, hacc, racc⟩
    · have hlt' : i < l.length := by omega
      have hx := List.getElem?_eq_getElem hlt'
      generalize l[i] = x at hx
      obtain ⟨jgo, jy⟩ := jg x hx
      refine .inr ⟨jgo, fun H'' => ∃ m', m' < l.length - i ∧ m' = l.length - (i + 1) ∧ i + 1 ≤ l.length ∧ ∃ rsi acc accD rest, Ext F H1 H'' ∧ Wd F H'' rsi ∧ H'' D = some (.lst acc) ∧ RepL (fun q => B q ∨ q = D) H'' acc accD ∧ mapL (itemF F n (own.map (·.2)) t c e env) (l.drop (i + 1)) rsi = some (rest, rs') ∧ res = accD ++ rest, fun H'' ⟨m', a, b⟩ => ⟨m', a, b⟩, fun v H2 hy => ?_⟩
      obtain ⟨sm, rp⟩ := jy v H2 hy
      rw [drop_cons hx] at hm
      simp only [mapL] at hm
      obtain ⟨o, r2, hf, hm⟩ := bdS hm
      obtain ⟨rest', r3, hm2, hm⟩ := bdS hm
      have RD := (R1.wipe (own.map (·.2))).add hD ee ww ⟨_, hacc⟩
      have rv := rp (fun q => B q ∨ q = D) (fun p hp => RD.fresh hp) fun q hq => hq.elim .inl fun z => .inr (z ▸ hD)
      have RD2 := RD.next (sm.ext) (ww.same sm)
      have ee2 : Ext F H1 H2 := ee.trans sm.ext
      have hD2 := sm _ _ hacc
      have racc2 := racc.same sm
      unfold itemF at hf
      generalize hbt : bindT (wipeE env (own.map (·.2))) t x = w at hf
      split at hf
      · rename_i env' 
        obtain ⟨k, r4, hc, hf⟩ := bdS hf
        refine ⟨_, x, rv, bindT_len hbt, fun σ2 hb => ⟨bindR_wipe hb ht, ?_⟩⟩
        have R3 := RD2.bind hb hbt
        refine ⟨_, env', rsi, k, r4, R3, hc, fun H3 e3 w3 => ?_⟩
        have R4 := R3.next e3 w3
        have hD3 := e3 D _ hD2 hDr hDt
        have racc3 := racc2.ext R3.br R3.wd e3
        cases k with
        | false =>
          have hf' : some ((none : Option PyData), r4) = some (o, r2) := hf
          cases hf'
          have hm' : some (rest', r3) = some (rest, rs') := hm
          cases hm'
          exact ⟨_, by omega, rfl, by omega, _, acc, accD, _, ee2.trans e3, w3, hD3, racc3, hm2, hre⟩
        | true =>
          simp only [if_true] at hf
          obtain ⟨y, r5, he, hf⟩ := bdS hf
          have hf' : some (some y, r5) = some (o, r2) := hf
          cases hf'
          have hm' : some (y :: rest', r3) = some (rest, rs') := hm
          cases hm'
          refine ⟨_, env', r4, y, _, R4, he, fun u H4 e4 w4 ru _ => ?_⟩
          have hD4 := e4 D _ hD3 hDr hDt
          have racc4 := racc3.ext R4.br R4.wd e4
          have hle : acc.length < LB := by
            rw [racc.length]
            have : res.length = accD.length + (y :: rest').length := by rw [hre, List.length_append]
            rw [List.length_cons] at this
            omega
          refine ⟨acc, hD4, by rw [sizeLine_eq]; unfold LB at hle; omega, _, by omega, rfl, by omega, _, _, accD ++ [y], rest', Ext.upd hD ((ee2.trans e3).trans e4), w1.upd hD ((ee2.trans e3).trans e4) w4, upd_same, ?_, hm2, by rw [hre]; simp⟩
          have mo : ∀ p xs, ¬ (B p ∨ p = D) → H4 p = some (.lst xs) → ¬ (B p ∨ p = D) ∧ (L2.upd H4 D (.lst (acc ++ [u]))) p = some (.lst xs) := fun p xs b h => ⟨b, by rw [upd_ne fun z => b (.inr z)]; exact h⟩
          have mo2 : ∀ p xs, ¬ (B p ∨ p = D) → H4 p = some (.tup xs) → ¬ (B p ∨ p = D) ∧ (L2.upd H4 D (.lst (acc ++ [u]))) p = some (.tup xs) := fun p xs b h => ⟨b, by rw [upd_ne fun z => b (.inr z)]; exact h⟩
          exact (racc4.app (.cons ru .nil)).mono mo mo2
      · cases hf
  · cases ev
theorem t_yes : PTs X [] (tT F n (.bl true)) := ⟨fun pins s σ H Q I ⟨B, env, rs, b, rs', R, ev, q⟩ => pts_nil.run pins s σ H Q I (by
  simp only [evT] at ev
  cases ev
  exact q H .refl R.wd)⟩
theorem Cok.blk (C : Cok F n g X) (s : Shared) (H : Hp) (scope : Scope) (cl : List (Str × Addr)) (a : Addr) (fp : List Addr) : Cok F n g (X.blk s H scope (compEnvC scope cl a X.env) fp) :=
  ⟨C.calm, C.nd, C.K, C.rm, C.fns, C.take, C.nob, C.gis, C.gen⟩
theorem e_lc {own : List (Str × Nat)} {t : Tg} {it : It} {c e : E} {elt tg iter : Expr} {ifs : List Expr} {scope : Scope} {pos : Pos} (C : Cok F n g X) (hi : PI X tg iter (tI F n it)) (hb : blkC X.N X.env.scope scope own = true) (ht : ∀ i ∈ tgSl t, i ∈ own.map (·.2))
    (hg : ∀ s H a cl fp, PG (X.blk s H scope (compEnvC scope cl a X.env) fp) tg (tB t)) (hc : ∀ s H a cl fp, PTs (X.blk s H scope (compEnvC scope cl a X.env) fp) ifs (tT F n c)) (he : ∀ s H a cl fp, PE (X.blk s H scope (compEnvC scope cl a X.env) fp) elt (tE F n false e)) (hs : nSet iter = true) :
    PE X (.ListComp elt [⟨tg, iter, ifs, 0⟩] scope pos) (tE F n true (.lc own t it c e)) :=
  (pe_lc C.calm C.nd hi (blkOk_by hb) hg hc he (fold_nSet hs)).weak fun σ H Q h => lc_go ht h
/-! ### generator expressions -/
theorem wd_tab {P : Addr} {H1 H2 : Hp} {rs : RS} (w : Wd F H1 rs) (hP : P ∈ F.tabs) (tb : Tabbed P H1 H2) : Ext F H1 H2 ∧ Wd F H2 rs := by
  obtain ⟨ps, hp, _⟩ := w.tab P hP
  refine ⟨fun q o h h1 h2 => by rw [tb.2 q fun z => h2 (z ▸ hP)]; exact h, ?_, ?_, fun p hp2 => ?_, w.ok⟩
  · rw [tb.2]; exact w.row
    intro z; have := w.row; rw [z, hp] at this; cases this
  · rcases w.scr with (h | ⟨ob, h⟩) | h
    · exact .inl (.inl (by rw [tb.2]; exact h; intro z; rw [z, hp] at h; cases h))
    · exact .inl (.inr ⟨ob, by rw [tb.2]; exact h; intro z; rw [z, hp] at h; cases h⟩)
    · exact .inr h
  · by_cases e : p = P
    · rw [e]; exact tb.1
    · obtain ⟨ps2, h, t⟩ := w.tab p hp2
      exact ⟨ps2, by rw [tb.2 p e]; exact h, t⟩
def itemG (F : Fx) (n : Nat) (vs : List Nat) (t : Tg) (e : E) (env : List Slot) : PyData → M PyData := fun x => match bindT (wipeE env vs) t x with
  | some env' => evE F.ns (cal F.T F.ns n) e env'
  | none => M.no
/-- the turns of all(..) and any(..); stp: the answer that ends early -/
theorem turn_go {vs : List Nat} {t : Tg} {e : E} {σ : L2.St} {H1 : Hp} {B : Addr → Prop} {env : List Slot} {rs1 rs' : RS} {l : List PyData} {J : L2.It} {b stp : Bool} {Q : Bool → Hp → Prop} {W0 : List PyData → M Bool} {Z : Nat → V → Hp → (Hp → Prop) → Prop}
    (hZ : ∀ j y H4 N, (∃ c, y = .bl c ∧ if c = stp then Q stp H4 else N H4) → Z j y H4 N) (h0 : W0 [] = M.ret (!stp)) (hc : ∀ x r s z, W0 (x :: r) s = some z → ∃ y s2, itemG F n vs t e env x s = some (y, s2) ∧ ((y = .bool (!stp) ∧ W0 r s2 = some z) ∨ (y = .bool stp ∧ z = (stp, s2))))
    (R1 : RE F B σ H1 env rs1) (jok : JOk F (· = F.r) B H1 J l) (hw : W0 l rs1 = some (b, rs')) (ht : ∀ i ∈ tgSl t, i ∈ vs) (q : ∀ H', Ext F H1 H' → Wd F H' rs' → Q b H') {H2 : Hp} (e2 : Ext F H1 H2) (w2 : Wd F H2 rs1) :
    ∃ W, (∃ m, W 0 m 0 H2) ∧ GTurn J W σ vs (tB t) (tT F n (.bl true)) (tE F n false e) l.length Z (Q (!stp)) := by
  refine ⟨fun i m j H' => m = l.length - i ∧ j = i ∧ i ≤ l.length ∧ ∃ rsi, Ext F H1 H' ∧ Wd F H' rsi ∧ W0 (l.drop i) rsi = some (b, rs'), ⟨l.length, rfl, rfl, Nat.zero_le _, rs1, e2, w2, hw⟩, ?_⟩
  rintro i m j H' ⟨rfl, rfl, hi, rsi, ee, ww, hm⟩
  obtain ⟨js, jg⟩ := jok H' ee.keep j
  by_cases hlt : l.length ≤ j
  · refine .inl ⟨js hlt, by omega, ?_⟩
    rw [List.drop_eq_nil_of_le hlt, h0] at hm
    have hm' : some (!stp, rsi) = some (b, rs') := hm
    cases hm'
    exact q H' ee ww
  · have hlt' : j < l.length := by omega
    have hx := List.getElem?_eq_getElem hlt'
    generalize l[j] = x at hx
    obtain ⟨jgo, jy⟩ := jg x hx
    refine .inr ⟨jgo, fun j' H'' => ∃ m', m' < l.length - j ∧ m' = l.length - (j + 1) ∧ j' = j + 1 ∧ j + 1 ≤ l.length ∧ ∃ rsi, Ext F H1 H'' ∧ Wd F H'' rsi ∧ W0 (l.drop (j + 1)) rsi = some (b, rs'), fun j' H'' ⟨m', a, b⟩ => ⟨m', a, b⟩, fun v H3 hy => ?_⟩
    obtain ⟨sm, rp⟩ := jy v H3 hy
    rw [drop_cons hx] at hm
    obtain ⟨y, s2, hf, hz⟩ := hc _ _ _ _ hm
    have RD := (R1.next ee ww).wipe vs
    have rv := rp B (fun p hp => RD.fresh hp) fun q hq => .inl hq
    have RD2 := RD.next (sm.ext) (ww.same sm)
    have ee2 : Ext F H1 H3 := ee.trans sm.ext
    unfold itemG at hf
    generalize hbt : bindT (wipeE env vs) t x = w at hf
    split at hf
    · rename_i env'
      refine ⟨_, x, rv, bindT_len hbt, fun σ2 hb => ⟨bindR_wipe hb ht, ?_⟩⟩
      have R3 := RD2.bind hb hbt
      refine ⟨_, env', rsi, true, rsi, R3, by simp only [evT]; rfl, fun H4 e4 w4 => ?_⟩
      refine ⟨_, env', rsi, y, s2, R3.next e4 w4, hf, fun u H5 e5 w5 ru _ => ⟨hlt', ?_⟩⟩
      refine hZ _ _ _ _ ?_
      rcases hz with ⟨rfl, hz⟩ | ⟨rfl, hz⟩
      · refine ⟨_, ru.blE, ?_⟩
        rw [if_neg (by cases stp <;> decide)]
        exact ⟨_, by omega, rfl, rfl, by omega, s2, (ee2.trans e4).trans e5, w5, hz⟩
      · refine ⟨_, ru.blE, ?_⟩
        rw [if_pos rfl]
        cases hz
        exact q _ ((ee2.trans e4).trans e5) w5
    · cases hf

def gokC (N : List Str) (sc scope : Scope) (own : List (Str × Nat)) : Bool :=
  blkC N sc scope own && !scope.isCoroutine && decide (scope.names.lookup (".0" : Str) = some NameKind.local) && scope.names.all fun y => !decide (y.2 = .cell)
theorem gok_by {N : List Str} {sc scope : Scope} {own : List (Str × Nat)} (h : gokC N sc scope own = true) : GOk N sc scope own := by
  unfold gokC at h
  simp only [Bool.and_eq_true, Bool.not_eq_true', decide_eq_true_eq, List.all_eq_true, decide_eq_false_iff_not] at h
  exact ⟨blkOk_by h.1.1.1, h.1.1.2, h.1.2, h.2⟩
theorem room_gen {k : Nat} {A : Around} {env : Env} (h : Room (k + 4) A) : Room k (A.in1.in1.deeper env) := by
  obtain ⟨h1, h2, h3⟩ := h
  have e1 : (A.in1.in1.deeper env).handled = A.handled := rfl
  have e2 : (A.in1.in1.deeper env).depth ≤ A.depth + 3 := by
    first
      | (show A.depth + 1 + 1 + 1 ≤ _; omega)
      | (show A.depth + 1 ≤ _; omega)
      | (simp [Around.deeper, Around.in1]; omega)
      | (simp [Around.deeper, Around.in1])
  have e3 : (A.in1.in1.deeper env).units ≤ A.units + 16 := by
    first
      | (simp [Around.deeper, Around.in1]; omega)
      | (simp [Around.deeper, Around.in1])
  exact ⟨h1, by omega, by omega⟩
theorem Cok.gcx (C : Cok F n (g + 1) X) (s : Shared) (H : Hp) (cl : List (Str × Addr)) (a : Addr) (code : Value) (fp : List Addr) (scope : Scope) : Cok F n 0 (gcx X (X.A.in1.in1.deeper (genEnv scope cl a code builtinsNs X.env)) s H (genEnv scope cl a code builtinsNs X.env) fp) :=
  ⟨C.calm, C.nd, C.K, room_gen (C.rm.mono (by omega)), C.fns, C.take, C.nob, C.gis, fun z => absurd z (by omega)⟩
theorem allL_step {f : PyData → M PyData} {x : PyData} {r : List PyData} {s : RS} {z : Bool × RS} (h : allL f (x :: r) s = some z) : ∃ y s2, f x s = some (y, s2) ∧ ((y = .bool (!false) ∧ allL f r s2 = some z) ∨ (y = .bool false ∧ z = (false, s2))) := by
  simp only [allL] at h
  obtain ⟨y, s2, h1, h⟩ := bdS h
  refine ⟨y, s2, h1, ?_⟩
  split at h
  · exact .inl ⟨rfl, h⟩
  · cases h; exact .inr ⟨rfl, rfl⟩
  · cases h
theorem anyL_step {f : PyData → M PyData} {x : PyData} {r : List PyData} {s : RS} {z : Bool × RS} (h : anyL f (x :: r) s = some z) : ∃ y s2, f x s = some (y, s2) ∧ ((y = .bool (!true) ∧ anyL f r s2 = some z) ∨ (y = .bool true ∧ z = (true, s2))) := by
  simp only [anyL] at h
  obtain ⟨y, s2, h1, h⟩ := bdS h
  refine ⟨y, s2, h1, ?_⟩
  split at h
  · exact .inl ⟨rfl, h⟩
  · cases h; exact .inr ⟨rfl, rfl⟩
  · cases h
section
variable {own : List (Str × Nat)} {t : Tg} {it : It} {e : E} {elt tg iter : Expr} {scope : Scope} {p pos gpos : Pos}
/-- what all(..) answers, as a reading of the outcome -/
def tGo (F : Fx) (n : Nat) (it : It) (W0 : List Slot → List PyData → M Bool) : TE := fun σ H Q => ∃ B env rs l rs1 b rs', RE F B σ H env rs ∧ evI F.ns (cal F.T F.ns n) it env rs = some (l, rs1) ∧ W0 env l rs1 = some (b, rs') ∧ ∀ H', Ext F H H' → Wd F H' rs' → Q (.bl b) H'
theorem gx_all (C : Cok F n (g + 1) X) (hgl : glB X.env.scope "all" = true) (hi : PI X tg iter (tI F n it)) (hb : gokC X.N X.env.scope scope own = true) (ht : ∀ i ∈ tgSl t, i ∈ own.map (·.2)) (hs : nFold iter = true)
    (hg : GBlk X scope fun Y => PG Y tg (tB t)) (he : GBlk X scope fun Y => PE Y elt (tE F n false e)) :
    PE X (.Call (.Name "all" p) [.GeneratorExp elt [⟨tg, iter, [], 0⟩] scope gpos] [] pos) (tGo F n it fun env => allL (itemG F n (own.map (·.2)) t e env)) := by
  obtain ⟨c, P, TB, hcode, hP⟩ := C.gen (by omega)
  refine (pe_allG C.rm.hd (by have := C.rm.dp; omega) C.calm (gl_of hgl) (C.nob _ (by decide)) (by decide +kernel) TB hcode (gok_by hb) C.nd hi (gf_nFold hs) hg (fun _ _ _ _ _ _ => t_yes (F := F) (n := n)) he).weak ?_
  rintro σ H Q ⟨B, env, rs, l, rs1, b, rs', R, h1, h2, q⟩
  refine ⟨B, env, rs, l, rs1, R, h1, fun J H1 e1 w1 jok _ => ⟨w1.tab P hP, fun H2 tb => ?_⟩⟩
  obtain ⟨x2, w2⟩ := wd_tab w1 hP tb
  obtain ⟨W, h3, h4⟩ := turn_go (stp := false) (W0 := allL (itemG F n (own.map (·.2)) t e env)) (Q := fun b H => Q (.bl b) H) (σ := σ) (Z := ZAll (Q (.bl false))) (fun j y H4 N ⟨c, h, k⟩ => ⟨c, h, by cases c <;> simpa using k⟩) rfl (fun x r s z => allL_step) (R.next e1 w1) jok h2 ht (fun H' e w => q H' (e1.trans e) w) x2 w2
  exact ⟨_, W, h3, h4⟩
theorem gx_any (C : Cok F n (g + 1) X) (hgl : glB X.env.scope "any" = true) (hi : PI X tg iter (tI F n it)) (hb : gokC X.N X.env.scope scope own = true) (ht : ∀ i ∈ tgSl t, i ∈ own.map (·.2)) (hs : nFold iter = true)
    (hg : GBlk X scope fun Y => PG Y tg (tB t)) (he : GBlk X scope fun Y => PE Y elt (tE F n false e)) :
    PE X (.Call (.Name "any" p) [.GeneratorExp elt [⟨tg, iter, [], 0⟩] scope gpos] [] pos) (tGo F n it fun env => anyL (itemG F n (own.map (·.2)) t e env)) := by
  obtain ⟨c, P, TB, hcode, hP⟩ := C.gen (by omega)
  refine (pe_anyG C.rm.hd (by have := C.rm.dp; omega) C.calm (gl_of hgl) (C.nob _ (by decide)) (by decide +kernel) TB hcode (gok_by hb) C.nd hi (gf_nFold hs) hg (fun _ _ _ _ _ _ => t_yes (F := F) (n := n)) he).weak ?_
  rintro σ H Q ⟨B, env, rs, l, rs1, b, rs', R, h1, h2, q⟩
  refine ⟨B, env, rs, l, rs1, R, h1, fun J H1 e1 w1 jok _ => ⟨w1.tab P hP, fun H2 tb => ?_⟩⟩
  obtain ⟨x2, w2⟩ := wd_tab w1 hP tb
  obtain ⟨W, h3, h4⟩ := turn_go (stp := true) (W0 := anyL (itemG F n (own.map (·.2)) t e env)) (Q := fun b H => Q (.bl b) H) (σ := σ) (Z := ZAny (Q (.bl true))) (fun j y H4 N ⟨c, h, k⟩ => ⟨c, h, by cases c <;> simpa using k⟩) rfl (fun x r s z => anyL_step) (R.next e1 w1) jok h2 ht (fun H' e w => q H' (e1.trans e) w) x2 w2
  exact ⟨_, W, h3, h4⟩
/-- the sums so far -/
def runS (f : PyData → M PyData) : Int → List PyData → RS → Nat → Int
  | a, _, _, 0 => a
  | a, [], _, _ + 1 => a
  | a, x :: r, s, j + 1 => match f x s with
    | some (.int k, s2) => runS f (a + k) r s2 j
    | _ => a
theorem sumL_step {f : PyData → M PyData} {x : PyData} {r : List PyData} {a : Int} {s : RS} {z : Int × RS} (h : sumL f a (x :: r) s = some z) : ∃ k s2, f x s = some (.int k, s2) ∧ fits k = true ∧ fits (a + k) = true ∧ sumL f (a + k) r s2 = some z := by
  simp only [sumL] at h
  obtain ⟨y, s2, h1, h⟩ := bdS h
  split at h
  · rename_i k
    split at h
    · rename_i hf
      rw [Bool.and_eq_true] at hf
      exact ⟨k, s2, h1, hf.1, hf.2, h⟩
    · cases h
  · cases h
theorem runS_end {f : PyData → M PyData} : ∀ {l : List PyData} {a : Int} {s : RS} {z : Int × RS}, sumL f a l s = some z → runS f a l s l.length = z.1
  | [], a, s, z, h => by
    have h' : some (a, s) = some z := h
    cases h'; rfl
  | x :: r, a, s, z, h => by
    obtain ⟨k, s2, h1, _, _, h2⟩ := sumL_step h
    rw [List.length_cons]
    simp only [runS, h1]
    exact runS_end h2
theorem fits_in {k : Int} (h : fits k = true) : InLong k := by
  simp only [fits, Bool.and_eq_true, decide_eq_true_eq] at h
  unfold InLong
  omega
def tGoS (F : Fx) (n : Nat) (it : It) (W0 : List Slot → List PyData → M Int) : TE := fun σ H Q => ∃ B env rs l rs1 b rs', RE F B σ H env rs ∧ evI F.ns (cal F.T F.ns n) it env rs = some (l, rs1) ∧ W0 env l rs1 = some (b, rs') ∧ ∀ H', Ext F H H' → Wd F H' rs' → Q (.int b) H'
theorem gx_sum (C : Cok F n (g + 1) X) (hgl : glB X.env.scope "sum" = true) (hi : PI X tg iter (tI F n it)) (hb : gokC X.N X.env.scope scope own = true) (ht : ∀ i ∈ tgSl t, i ∈ own.map (·.2)) (hs : nFold iter = true)
    (hg : GBlk X scope fun Y => PG Y tg (tB t)) (he : GBlk X scope fun Y => PE Y elt (tE F n false e)) :
    PE X (.Call (.Name "sum" p) [.GeneratorExp elt [⟨tg, iter, [], 0⟩] scope gpos] [] pos) (tGoS F n it fun env => sumL (itemG F n (own.map (·.2)) t e env) 0) := by
  obtain ⟨c, P, TB, hcode, hP⟩ := C.gen (by omega)
  refine (pe_sumG C.rm.hd (by have := C.rm.dp; omega) C.calm (gl_of hgl) (C.nob _ (by decide)) (by decide +kernel) TB hcode (gok_by hb) C.nd hi (gf_nFold hs) hg (fun _ _ _ _ _ _ => t_yes (F := F) (n := n)) he).weak ?_
  rintro σ H Q ⟨B, env, rs, l, rs1, tot, rs', R, h1, h2, q⟩
  refine ⟨B, env, rs, l, rs1, R, h1, fun J H1 e1 w1 jok _ => ⟨w1.tab P hP, fun H2 tb S hS => ?_⟩⟩
  obtain ⟨x2, w2⟩ := wd_tab w1 hP tb
  have R1 := R.next e1 w1
  have R2 := R1.next x2 w2
  have hS1 : H1 S = none := noneBack x2 w2 hS
  have hSr : S ≠ F.r := fun z => by have := w2.row; rw [← z, hS] at this; cases this
  have hSt : S ∉ F.tabs := fun z => by obtain ⟨ps, h, _⟩ := w2.tab S z; rw [hS] at h; cases h
  refine ⟨l.length, runS (itemG F n (own.map (·.2)) t e env) 0 l rs1, fun i m j H' => m = l.length - i ∧ j = i ∧ i ≤ l.length ∧ ∃ rsi a, Ext F H1 H' ∧ Wd F H' rsi ∧ sumL (itemG F n (own.map (·.2)) t e env) a (l.drop i) rsi = some (tot, rs') ∧
    (∀ k, runS (itemG F n (own.map (·.2)) t e env) 0 l rs1 (i + k) = runS (itemG F n (own.map (·.2)) t e env) a (l.drop i) rsi k) ∧ H' S = some (.lst [.int a]), by cases l <;> rfl,
    ⟨l.length, rfl, rfl, Nat.zero_le _, rs1, 0, Ext.upd hS1 x2, w2.upd hS .refl w2, h2, fun k => by rw [Nat.zero_add]; rfl, upd_same⟩, ?_⟩
  rintro i m j H' ⟨rfl, rfl, hi, rsi, a, ee, ww, hm, hrun, hSl⟩
  obtain ⟨js, jg⟩ := jok H' ee.keep j
  by_cases hlt : l.length ≤ j
  · refine .inl ⟨js hlt, by omega, ?_⟩
    rw [runS_end h2]
    rw [List.drop_eq_nil_of_le hlt] at hm
    have hm' : some (a, rsi) = some (tot, rs') := hm
    cases hm'
    exact q H' (e1.trans ee) ww
  · have hlt' : j < l.length := by omega
    have hx := List.getElem?_eq_getElem hlt'
    generalize l[j] = x at hx
    obtain ⟨jgo, jy⟩ := jg x hx
    refine .inr ⟨jgo, fun j' H'' => ∃ m', m' < l.length - j ∧ m' = l.length - (j + 1) ∧ j' = j + 1 ∧ j + 1 ≤ l.length ∧ ∃ rsi a, Ext F H1 H'' ∧ Wd F H'' rsi ∧ sumL (itemG F n (own.map (·.2)) t e env) a (l.drop (j + 1)) rsi = some (tot, rs') ∧
      (∀ k, runS (itemG F n (own.map (·.2)) t e env) 0 l rs1 (j + 1 + k) = runS (itemG F n (own.map (·.2)) t e env) a (l.drop (j + 1)) rsi k) ∧ H'' S = some (.lst [.int a]), fun j' H'' ⟨m', a, b⟩ => ⟨m', a, b⟩, fun v H3 hy => ?_⟩
    obtain ⟨sm, rp⟩ := jy v H3 hy
    rw [drop_cons hx] at hm
    obtain ⟨k, s2, hf, f1, f2, hm2⟩ := sumL_step hm
    have RD := (R1.wipe (own.map (·.2))).add hS1 ee ww ⟨_, hSl⟩
    have rv := rp (fun q => B q ∨ q = S) (fun p hp => RD.fresh hp) fun q hq => hq.elim .inl fun z => .inr (z ▸ hS1)
    have RD2 := RD.next (sm.ext) (ww.same sm)
    have ee2 : Ext F H1 H3 := ee.trans sm.ext
    have hf0 := hf
    unfold itemG at hf
    generalize hbt : bindT (wipeE env (own.map (·.2))) t x = w at hf
    split at hf
    · rename_i env'
      refine ⟨_, x, rv, bindT_len hbt, fun σ2 hb => ⟨bindR_wipe hb ht, ?_⟩⟩
      have R3 := RD2.bind hb hbt
      refine ⟨_, env', rsi, true, rsi, R3, by simp only [evT]; rfl, fun H4 e4 w4 => ?_⟩
      refine ⟨_, env', rsi, _, s2, R3.next e4 w4, hf, fun u H5 e5 w5 ru _ => ⟨hlt', ?_⟩⟩
      have hS5 := e5 S _ (e4 S _ (sm _ _ hSl) hSr hSt) hSr hSt
      have p0 : runS (itemG F n (own.map (·.2)) t e env) 0 l rs1 j = a := by have := hrun 0; simpa [runS] using this
      have ps : ∀ k', runS (itemG F n (own.map (·.2)) t e env) 0 l rs1 (j + 1 + k') = runS (itemG F n (own.map (·.2)) t e env) (a + k) (l.drop (j + 1)) s2 k' := fun k' => by
        have := hrun (k' + 1)
        rw [drop_cons hx] at this
        simp only [runS, hf0] at this
        rw [← this]; congr 1; omega
      have p1 : runS (itemG F n (own.map (·.2)) t e env) 0 l rs1 (j + 1) = a + k := by have := ps 0; simpa [runS] using this
      refine ⟨k, ru.intE, by rw [p0]; exact hS5, by rw [p0, p1], fits_in f1, by rw [p1]; exact fits_in f2, ?_⟩
      rw [p1]
      exact ⟨_, by omega, rfl, rfl, by omega, s2, a + k, Ext.upd hS1 ((ee2.trans e4).trans e5), w1.upd hS1 ((ee2.trans e4).trans e5) w5, hm2, ps, upd_same⟩
    · cases hf
end
end
end Cd
namespace Cd
open PySem PySem.Spec PyProof.Rows L2 GxR C8 GenW
/-! The checker of expressions, and what it vouches for. -/
section
variable {F : Fx} {n g : Nat} {X : Cx}
theorem e_f1 {f : B1} {a : E} {x : Expr} {p pos : Pos} (C : Cok F n g X) (hg : glB X.env.scope (f1N f) = true) (ha : PE X x (tW F n a)) (hs : nst x = true) : PE X (.Call (.Name (f1N f) p) [x] [] pos) (tE F n (isFr (.f1 f a)) (.f1 f a)) := by
  have hA : PA X [x] (tCons (tW F n a) tNil) := pa_cons ha pa_nil (star_nst hs)
  have h : PE X (.Call (.Name (f1N f) p) [x] [] pos) (tCB (rF F f (isFr (.f1 f a))) (tCons (tW F n a) tNil)) := by
    have hc := cr_f1 (X := X) (F := F) C.calm f (isFr (.f1 f a))
    cases f
    · exact pe_callB (id := "len") hc (gl_of hg) (C.nob _ (by decide)) (by decide +kernel) hA (he := star_nst hs)
    · exact pe_callTy (T := "tuple") hc (gl_of hg) (C.nob _ (by decide)) (by decide +kernel) hA (he := star_nst hs)
    · exact pe_callTy (T := "list") hc (gl_of hg) (C.nob _ (by decide)) (by decide +kernel) hA (he := star_nst hs)
    · exact pe_callB (id := "sum") hc (gl_of hg) (C.nob _ (by decide)) (by decide +kernel) hA (he := star_nst hs)
    · exact pe_callB (id := "max") hc (gl_of hg) (C.nob _ (by decide)) (by decide +kernel) hA (he := star_nst hs)
    · exact pe_callB (id := "min") hc (gl_of hg) (C.nob _ (by decide)) (by decide +kernel) hA (he := star_nst hs)
    · exact pe_callB (id := "sorted") hc (gl_of hg) (C.nob _ (by decide)) (by decide +kernel) hA (he := star_nst hs)
    · exact pe_callB (id := "abs") hc (gl_of hg) (C.nob _ (by decide)) (by decide +kernel) hA (he := star_nst hs)
    · exact pe_callTy (T := "int") hc (gl_of hg) (C.nob _ (by decide)) (by decide +kernel) hA (he := star_nst hs)
  refine h.weak fun σ H Q ⟨B, env, rs, d, rs', R, ev, q⟩ => ?_
  simp only [evE] at ev
  obtain ⟨y, rs1, h1, ev⟩ := bdS ev
  obtain ⟨h2, rfl⟩ := ofS ev
  exact ⟨B, env, rs, y, _, R, h1, fun v H1 e1 w1 r1 _ => ⟨B, v, y, d, R.br, fun p hp => (R.next e1 w1).fresh hp, rfl, r1, h2, give_of q e1 w1⟩⟩
/-! ### isinstance -/
def tyOk (t : String) : Bool := t == "int" || t == "bool" || t == "str" || t == "list" || t == "tuple" || t == "dict"
theorem tyOk_or {t : String} (h : tyOk t = true) : t = "int" ∨ t = "bool" ∨ t = "str" ∨ t = "list" ∨ t = "tuple" ∨ t = "dict" := by
  simpa [tyOk, or_assoc] using h
theorem ty_boot {t : String} (h : tyOk t = true) : bootBuiltins (Str.ofString t) = some (.type t) ∧ (Str.ofString t) ∈ (["len", "tuple", "list", "sum", "max", "min", "sorted", "abs", "int", "isinstance", "bool", "str", "dict", "all", "any", "range", "enumerate", "zip", "set"] : List Str) ∧ Str.ofString t ≠ "__name__" ∧ (Str.ofString t == ("__debug__" : Str)) = false := by
  rcases tyOk_or h with rfl | rfl | rfl | rfl | rfl | rfl <;> exact ⟨by decide +kernel, by decide, by decide, by decide⟩
theorem kit_d {B : Addr → Prop} {r : Addr} {H : Hp} {v : V} {d : PyData} {t : String} (h : RepW r B H v d) (ht : tyOk t = true) : kitB (tyD d) t = some (tyD d == t || (tyD d == "bool" && t == "int")) := by
  have hd : tyD d = "NoneType" ∨ tyD d = "bool" ∨ tyD d = "int" ∨ tyD d = "str" ∨ tyD d = "list" ∨ tyD d = "tuple" := by
    rcases h with h | ⟨a, xs, ds, rfl, rfl, _, h, r⟩
    · cases h <;> simp [tyD]
    · simp [tyD]
  generalize tyD d = k at hd
  rcases tyOk_or ht with rfl | rfl | rfl | rfl | rfl | rfl <;> rcases hd with rfl | rfl | rfl | rfl | rfl | rfl <;> decide +kernel
theorem tyx_of {B : Addr → Prop} {r : Addr} {H : Hp} {K : PySem.W.Frag} {v : V} {d : PyData} (h : RepW r B H v d) : TyX K H v (.type (tyD d)) := by
  rcases h with h | ⟨a, xs, ds, rfl, rfl, _, h, r⟩
  · cases h with
    | non => exact .base .non
    | bl b => exact .base (.bl b)
    | int i => exact .base (.int i)
    | str x => exact .base (.str x)
    | lst hb h r => exact .base (.lst h)
    | tup hb h r => exact .base (.tup h)
  · exact .base (.lst h)
theorem isi_any {K : PySem.W.Frag} {B : Addr → Prop} {r : Addr} {H : Hp} {v : V} {d : PyData} (h : RepW r B H v d) : ∀ {ts : List String}, ts.all tyOk = true → PySem.W.kitAny K (.type (tyD d)) (ts.map Value.type) = some (isiD d ts)
  | [], _ => kitAny_nil
  | t :: ts, ht => by
    rw [List.all_cons, Bool.and_eq_true] at ht
    have h1 := kit_d h ht.1
    have h2 := isi_any (K := K) h ht.2
    rw [List.map_cons]
    refine kitAny_cons (kit_ty h1) (fun z => ?_) fun z => ?_
    · rw [h2]; unfold isiD; rw [List.any_cons, z, Bool.false_or]
    · unfold isiD; rw [List.any_cons, z, Bool.true_or]
def tTys (ts : List String) : TA := fun σ H Q => Q (ts.map V.ty) H
def tyN (sc : Scope) : List String → List Expr → Bool
  | [], [] => true
  | t :: ts, e :: es => (match e with
    | .Name x _ => decide (x = Str.ofString t) && glB sc x && tyOk t
    | _ => false) && tyN sc ts es
  | _, _ => false
theorem tyN_all {sc : Scope} : ∀ {ts : List String} {es : List Expr}, tyN sc ts es = true → ts.all tyOk = true
  | [], [], _ => rfl
  | t :: ts, e :: es, h => by
    unfold tyN at h
    rw [Bool.and_eq_true] at h
    split at h
    · simp only [Bool.and_eq_true] at h
      rw [List.all_cons, h.1.2, tyN_all h.2]; rfl
    · cases h.1
  | [], _ :: _, h => by cases h
  | _ :: _, [], h => by cases h
theorem tyN_ok (C : Cok F n g X) : ∀ {ts : List String} {es : List Expr}, tyN X.env.scope ts es = true → PA X es (tTys ts)
  | [], [], _ => pa_nil.weak fun _ _ _ q => q
  | t :: ts, e :: es, h => by
    unfold tyN at h
    rw [Bool.and_eq_true] at h
    obtain ⟨h1, h2⟩ := h
    split at h1
    · rename_i x p
      simp only [Bool.and_eq_true, decide_eq_true_eq] at h1
      obtain ⟨⟨rfl, hg⟩, ht⟩ := h1
      obtain ⟨b1, b2, b3, b4⟩ := ty_boot ht
      exact (pa_cons (pe_bltn (v := .ty t) (gl_of hg) (C.nob _ b2) b1 rfl b3 b4) (tyN_ok C h2) (star_nst rfl)).weak fun _ _ _ q => q
    · cases h1
  | [], _ :: _, h => by cases h
  | _ :: _, [], h => by cases h
def tyE (sc : Scope) (ts : List String) : Expr → Bool
  | .Tuple es _ _ => tyN sc ts es
  | e => (match ts with
    | [t] => tyN sc [t] [e]
    | _ => false)
theorem clsAll : ∀ ts : List String, Paired ClsV (ts.map V.ty) (ts.map Value.type)
  | [] => .nil
  | t :: ts => .cons (.ty t) (clsAll ts)
theorem tysLen {ts : List String} {es : List Expr} {sc : Scope} (h : tyN sc ts es = true) : ts.length = es.length := by
  induction ts generalizing es with
  | nil => cases es with
    | nil => rfl
    | cons => cases h
  | cons t ts ih => cases es with
    | nil => cases h
    | cons e es =>
      unfold tyN at h
      rw [Bool.and_eq_true] at h
      rw [List.length_cons, List.length_cons, ih h.2]
theorem e_isi {a : E} {ts : List String} {x c : Expr} {p pos : Pos} (C : Cok F n g X) (hg : glB X.env.scope "isinstance" = true) (ha : PE X x (tW F n a)) (hs : nst x = true) (hc : tyE X.env.scope ts c = true) (hl : ts.length < 10) : PE X (.Call (.Name "isinstance" p) [x, c] [] pos) (tE F n false (.isi a ts)) := by
  have one : ∀ t, ts = [t] → tyN X.env.scope [t] [c] = true → PE X (.Call (.Name "isinstance" p) [x, c] [] pos) (tE F n false (.isi a ts)) := fun t ht hn => by
    subst ht
    have hc1 : nst c = true := by
      unfold tyN at hn
      rw [Bool.and_eq_true] at hn
      have h1 := hn.1
      split at h1
      · rfl
      · cases h1
    refine (pe_callB (id := "isinstance") call_isi (gl_of hg) (C.nob _ (by decide)) (by decide +kernel) (pa_cons ha (tyN_ok C hn) (star_nst hs)) (he := star_nst hs) (hpl := nost (by simp [hc1]))).weak fun σ H Q ⟨B, env, rs, d, rs', R, ev, q⟩ => ?_
    simp only [evE] at ev
    obtain ⟨y, rs1, h1, ev⟩ := bdS ev
    cases ev
    refine ⟨B, env, rs, y, _, R, h1, fun v H1 e1 w1 r1 _ => ⟨v, .ty t, .type (tyD y), .type t, isiD y [t], rfl, .ty t, tyx_of r1, ?_, q _ _ e1 w1 (.bl _) nofun⟩⟩
    have h2 := tyN_all hn
    rw [List.all_cons, Bool.and_eq_true] at h2
    have h3 := kit_d r1 h2.1
    rw [show isiD y [t] = (tyD y == t || (tyD y == "bool" && t == "int")) from by simp [isiD]]
    exact kit_ty h3
  unfold tyE at hc
  split at hc
  · rename_i es k ps
    refine (pe_callB (id := "isinstance") call_isiT (gl_of hg) (C.nob _ (by decide)) (by decide +kernel) (pa_cons ha (pa_cons (pe_tup (tyN_ok C hc)) pa_nil (star_nst rfl)) (star_nst hs)) (he := star_nst hs) (hpl := nost (by simp [nst]))).weak fun σ H Q ⟨B, env, rs, d, rs', R, ev, q⟩ => ?_
    simp only [evE] at ev
    obtain ⟨y, rs1, h1, ev⟩ := bdS ev
    cases ev
    refine ⟨B, env, rs, y, _, R, h1, fun v H1 e1 w1 r1 _ => ⟨by rw [List.length_map, sizeLine_eq]; omega, fun P hP => ?_⟩⟩
    have r2 := r1.ext R.br w1 (Same.new (o := .tup (ts.map V.ty)) hP).ext
    exact ⟨v, P, _, .type (tyD y), ts.map Value.type, isiD y ts, rfl, upd_same, clsAll ts, tyx_of r2, isi_any r2 (tyN_all hc), q _ _ (e1.trans (Same.new hP).ext) (w1.same (Same.new hP)) (.bl _) nofun⟩
  · split at hc
    · exact one _ rfl hc
    · cases hc
/-! ### tests -/
theorem t_of {ir : E} {e : Expr} (h : PE X e (tE F n false ir)) (hp : plT e = true) (hev : ∀ env rs b rs', evT F.ns (cal F.T F.ns n) ir env rs = some (b, rs') → ∃ d, evE F.ns (cal F.T F.ns n) ir env rs = some (d, rs') ∧ truthD d = some b) : PT X e (tT F n ir) :=
  (pt_truth h (isTrue_pl hp)).weak fun σ H Q ⟨B, env, rs, b, rs', R, ev, q⟩ => by
    obtain ⟨d, h1, h2⟩ := hev _ _ _ _ ev
    exact ⟨B, env, rs, d, rs', R, h1, fun v H' e w r _ => ⟨b, truV (r := F.r) (.inl r) h2, q H' e w⟩⟩
theorem t_var {i : Nat} {x : Str} {pos : Pos} (hN : X.N[i]? = some x) (hv : visB X.env.scope x = true) (hk : nmOk x = true) : PT X (.Name x pos) (tT F n (.var i)) :=
  (pt_truth (pe_var hN (vis_of hv) (nmOk1 hk).1 (nmOk1 hk).2) (isTrue_pl rfl)).weak fun σ H Q ⟨B, env, rs, b, rs', R, ev, q⟩ => by
    simp only [evT] at ev
    generalize hd : env[i]? = w at ev
    split at ev
    · rename_i d
      obtain ⟨h2, rfl⟩ := ofS ev
      obtain ⟨v, h1, h3⟩ := R.sl i _ hd
      exact ⟨v, h1, b, truV (r := F.r) (.inl h3) h2, q H .refl R.wd⟩
    · rename_i l
      cases ev
      obtain ⟨p, xs, h1, h2, h3, h4⟩ := R.sl i _ hd
      exact ⟨_, h1, _, truV (r := F.r) (d := .list l) (.inr ⟨p, xs, _, rfl, rfl, h2, h3, h4⟩) rfl, q H .refl R.wd⟩
    · cases ev
theorem pt_pw {e : Expr} {t : TT} (h : PW X e t) : PT X e t := ⟨fun pins s σ H Q I q => h.run _ pins s σ H Q I q⟩
theorem pw_pt {op : BoolOp} {vs : List Expr} {pos : Pos} {t : TT} (h : PT X (.BoolOp op vs pos) t) : PW X (.BoolOp op vs pos) t := ⟨fun _ pins s σ H Q I q => h.run pins s σ H Q I q⟩
theorem t_and {a b : E} {x y : Expr} {rest : List Expr} {pos : Pos} (ha : PT X x (tT F n a)) (hb : PW X (.BoolOp .And (y :: rest) pos) (tT F n b)) : PT X (.BoolOp .And (x :: y :: rest) pos) (tT F n (.and a b)) :=
  (pt_pw (pw_and ha hb)).weak fun σ H Q ⟨B, env, rs, r, rs', R, ev, q⟩ => by
    simp only [evT] at ev
    obtain ⟨k, rs1, h1, ev⟩ := bdS ev
    refine ⟨B, env, rs, k, rs1, R, h1, fun H1 e1 w1 => ?_⟩
    cases k with
    | true => exact ⟨B, env, rs1, r, rs', R.next e1 w1, ev, fun H2 e2 w2 => q H2 (e1.trans e2) w2⟩
    | false =>
      have ev' : some (false, rs1) = some (r, rs') := ev
      cases ev'; exact q _ e1 w1
theorem t_or {a b : E} {x y : Expr} {rest : List Expr} {pos : Pos} (ha : PT X x (tT F n a)) (hb : PW X (.BoolOp .Or (y :: rest) pos) (tT F n b)) : PT X (.BoolOp .Or (x :: y :: rest) pos) (tT F n (.or a b)) :=
  (pt_pw (pw_or ha hb)).weak fun σ H Q ⟨B, env, rs, r, rs', R, ev, q⟩ => by
    simp only [evT] at ev
    obtain ⟨k, rs1, h1, ev⟩ := bdS ev
    refine ⟨B, env, rs, k, rs1, R, h1, fun H1 e1 w1 => ?_⟩
    cases k with
    | true =>
      have ev' : some (true, rs1) = some (r, rs') := ev
      cases ev'; exact q _ e1 w1
    | false => exact ⟨B, env, rs1, r, rs', R.next e1 w1, ev, fun H2 e2 w2 => q H2 (e1.trans e2) w2⟩
theorem t_not {a : E} {x : Expr} {pos : Pos} (ha : PT X x (tT F n a)) : PT X (.UnaryOp .Not x pos) (tT F n (.not a)) :=
  (pt_not ha).weak fun σ H Q ⟨B, env, rs, r, rs', R, ev, q⟩ => by
    simp only [evT] at ev
    obtain ⟨k, rs1, h1, ev⟩ := bdS ev
    cases ev
    exact ⟨B, env, rs, k, _, R, h1, fun H1 e1 w1 => q _ e1 w1⟩
/-! ### the answers of all, any, sum, as expressions and tests -/
def gkN : GK → Str
  | .all => "all" | .any => "any" | .sum => "sum"
theorem e_g {k : GK} {own : List (Str × Nat)} {t : Tg} {it : It} {e : E} {elt tg iter : Expr} {scope : Scope} {p pos gpos : Pos} (C : Cok F n (g + 1) X) (hgl : glB X.env.scope (gkN k) = true) (hi : PI X tg iter (tI F n it)) (hb : gokC X.N X.env.scope scope own = true) (ht : ∀ i ∈ tgSl t, i ∈ own.map (·.2)) (hs : nFold iter = true)
    (hg : GBlk X scope fun Y => PG Y tg (tB t)) (he : GBlk X scope fun Y => PE Y elt (tE F n false e)) :
    PE X (.Call (.Name (gkN k) p) [.GeneratorExp elt [⟨tg, iter, [], 0⟩] scope gpos] [] pos) (tE F n false (.g k own t it e)) := by
  cases k with
  | all =>
    refine (gx_all C hgl hi hb ht hs hg he).weak fun σ H Q ⟨B, env, rs, d, rs', R, ev, q⟩ => ?_
    simp only [evE] at ev
    obtain ⟨l, rs1, h1, ev⟩ := bdS ev
    obtain ⟨b, rs2, h2, ev⟩ := bdS ev
    cases ev
    exact ⟨B, env, rs, l, rs1, b, _, R, h1, h2, fun H' e w => q _ H' e w (.bl _) nofun⟩
  | any =>
    refine (gx_any C hgl hi hb ht hs hg he).weak fun σ H Q ⟨B, env, rs, d, rs', R, ev, q⟩ => ?_
    simp only [evE] at ev
    obtain ⟨l, rs1, h1, ev⟩ := bdS ev
    obtain ⟨b, rs2, h2, ev⟩ := bdS ev
    cases ev
    exact ⟨B, env, rs, l, rs1, b, _, R, h1, h2, fun H' e w => q _ H' e w (.bl _) nofun⟩
  | sum =>
    refine (gx_sum C hgl hi hb ht hs hg he).weak fun σ H Q ⟨B, env, rs, d, rs', R, ev, q⟩ => ?_
    simp only [evE] at ev
    obtain ⟨l, rs1, h1, ev⟩ := bdS ev
    obtain ⟨b, rs2, h2, ev⟩ := bdS ev
    cases ev
    exact ⟨B, env, rs, l, rs1, b, _, R, h1, h2, fun H' e w => q _ H' e w (.int _) nofun⟩
theorem e_count {a b : E} {nm : Str} {np : Pos} {y : Expr} {apos cpos : Pos} (ha : PE X (.Name nm np) (tW F n a)) (hb : PE X y (tE F n false b)) (hs : nst y = true) (hl : (apos.endLine == cpos.line) = true) :
    PE X (.Call (.Attribute (.Name nm np) "count" apos) [y] [] cpos) (tE F n false (.count a b)) := by
  have hz : PE X (.Call (.Attribute (.Name nm np) "count" apos) [y] [] cpos) (tBM X.K "list" (rCntI X.K) (tW F n a) (tCons (tE F n false b) tNil)) :=
    pe_bm PySem.F.plainAttrs_list PySem.F.slot_list_count PySem.F.type_list_count mt_lcount ha (pa_cons hb pa_nil (star_nst hs)) rfl (by rw [star_nst hs]; rfl) hl (star_nst hs) rfl
  refine hz.weak fun σ H Q ⟨B, env, rs, d, rs', R, ev, q⟩ => ?_
  simp only [evE] at ev
  obtain ⟨dx, rs1, h1, ev⟩ := bdS ev
  obtain ⟨dy, rs2, h2, ev⟩ := bdS ev
  split at ev
  · rename_i l k _
    generalize hi : intsD l = w0 at ev
    cases w0 with
    | none => cases ev
    | some xs =>
      cases ev
      refine ⟨B, env, rs, _, rs1, R, h1, fun v H1 e1 w1 r1 _ => ?_⟩
      obtain ⟨p, vs, rfl, hn, hh, rr⟩ := r1.list R.br
      refine ⟨.inl ⟨rfl, vs, .of hh⟩, B, env, rs1, _, _, R.next e1 w1, h2, fun w H2 e2 w2 r2 _ => ?_⟩
      obtain ⟨p2, vs2, ep, hn2, hh2, rr2⟩ := (r1.ext R.br w1 e2).list R.br
      cases ep
      have hw := r2.intE
      subst hw
      exact ⟨p, xs, k, rfl, rfl, by rw [← rr2.ints hi]; exact .of hh2, q _ _ (e1.trans e2) w2 (.int _) nofun⟩
  · cases ev
theorem idxD_at : ∀ {l : List PyData} {d : PyData} {j : Nat}, idxD l d = some j → (∃ z, l[j]? = some z ∧ PyData.eqv z d = true) ∧ ∀ (m : Nat) (z : PyData), m < j → l[m]? = some z → PyData.eqv z d = false
  | [], _, _, h => by cases h
  | z :: r, d, j, h => by
    unfold idxD at h
    by_cases e : PyData.eqv z d = true
    · rw [if_pos e] at h
      cases h
      exact ⟨⟨z, rfl, e⟩, fun m _ hm => absurd hm (Nat.not_lt_zero _)⟩
    · rw [if_neg e] at h
      cases hr : idxD r d with
      | none => rw [hr] at h; cases h
      | some k =>
        rw [hr] at h
        cases h
        obtain ⟨⟨y, h1, h2⟩, h3⟩ := idxD_at hr
        refine ⟨⟨y, by simpa using h1, h2⟩, fun m w hm hw => ?_⟩
        cases m with
        | zero =>
          have : z = w := by simpa using hw
          subst this
          simpa using e
        | succ m => exact h3 m w (by omega) (by simpa using hw)
theorem e_index {a b : E} {nm : Str} {np : Pos} {y : Expr} {apos cpos : Pos} (C : Cok F n g X) (ha : PE X (.Name nm np) (tW F n a)) (hb : PE X y (tE F n false b)) (hs : nst y = true) (hl : (apos.endLine == cpos.line) = true) :
    PE X (.Call (.Attribute (.Name nm np) "index" apos) [y] [] cpos) (tE F n false (.index a b)) := by
  have hz : PE X (.Call (.Attribute (.Name nm np) "index" apos) [y] [] cpos) (tBM X.K "list" (rIndexD X.K) (tW F n a) (tCons (tE F n false b) tNil)) :=
    pe_bm PySem.F.plainAttrs_list PySem.F.slot_list_index PySem.F.type_list_index (mt_indexD C.un) ha (pa_cons hb pa_nil (star_nst hs)) rfl (by rw [star_nst hs]; rfl) hl (star_nst hs) rfl
  refine hz.weak fun σ H Q ⟨B, env, rs, d, rs', R, ev, q⟩ => ?_
  simp only [evE] at ev
  obtain ⟨dx, rs1, h1, ev⟩ := bdS ev
  obtain ⟨dy, rs2, h2, ev⟩ := bdS ev
  split at ev
  · rename_i l _
    split at ev
    · rename_i hok
      rw [Bool.and_eq_true] at hok
      generalize hi : idxD l dy = w0 at ev
      cases w0 with
      | none => cases ev
      | some j =>
        cases ev
        obtain ⟨⟨z, z1, z2⟩, z3⟩ := idxD_at hi
        refine ⟨B, env, rs, _, rs1, R, h1, fun v H1 e1 w1 r1 _ => ?_⟩
        obtain ⟨p, vs, rfl, hn, hh, rr⟩ := r1.list R.br
        refine ⟨.inl ⟨rfl, vs, .of hh⟩, B, env, rs1, _, _, R.next e1 w1, h2, fun w H2 e2 w2 r2 _ => ?_⟩
        have r3 := r1.ext R.br w1 e2
        exact ⟨p, w, dy, l, j, z, rfl, rfl, r3.dp, r2.dp, hok.1, hok.2, z1, z2, z3, q _ _ (e1.trans e2) w2 (.int _) nofun⟩
    · cases ev
  · cases ev
theorem e_sset {a : E} {x : Expr} {p p2 pos q : Pos} (C : Cok F n g X) (hg : glB X.env.scope "sorted" = true) (hg2 : glB X.env.scope "set" = true) (ha : PE X x (tW F n a)) (hs : nst x = true) : PE X (.Call (.Name "sorted" p) [.Call (.Name "set" p2) [x] [] q] [] pos) (tE F n false (.sset a)) := by
  have hA : PA X [x] (tCons (tW F n a) tNil) := pa_cons ha pa_nil (star_nst hs)
  have h1 : PE X (.Call (.Name "set" p2) [x] [] q) (tCB (rSetT X.K X.w) (tCons (tW F n a) tNil)) := pe_callTy (T := "set") (cr_setT C.calm) (gl_of hg2) (C.nob _ (by decide)) (by decide +kernel) hA (he := star_nst hs)
  have h : PE X (.Call (.Name "sorted" p) [.Call (.Name "set" p2) [x] [] q] [] pos) (tCB (rSortedSet X.w) (tCons (tCB (rSetT X.K X.w) (tCons (tW F n a) tNil)) tNil)) := pe_callB (id := "sorted") (cr_sortedSet C.calm) (gl_of hg) (C.nob _ (by decide)) (by decide +kernel) (pa_cons h1 pa_nil rfl) (he := rfl)
  refine h.weak fun σ H Q ⟨B, env, rs, d, rs', R, ev, q⟩ => ?_
  simp only [evE] at ev
  obtain ⟨dx, rs1, h1, ev⟩ := bdS ev
  generalize hel : elemsD dx = w1 at ev
  cases w1 with
  | none => cases ev
  | some l =>
    have ev0 : (match intsD l with | some xs => if xs.length < 60 then M.ret (PyData.list ((usort xs).map .int)) else M.no | none => M.no) rs1 = some (d, rs') := ev
    clear ev
    generalize hi : intsD l = w0 at ev0
    cases w0 with
    | none => cases ev0
    | some xs =>
      have ev2 : (if xs.length < 60 then M.ret (PyData.list ((usort xs).map .int)) else M.no) rs1 = some (d, rs') := ev0
      by_cases hl : xs.length < 60
      · rw [if_pos hl] at ev2
        cases ev2
        refine ⟨B, env, rs, _, _, R, h1, fun v H1 e1 w1 r1 _ => ?_⟩
        obtain ⟨a, vs, rfl, hn, hh, rr⟩ := r1.elems R.br hel
        have := rr.ints hi
        subst this
        have hq : SqL X.K H1 a (xs.map V.int) ∨ SqT X.K H1 a (xs.map V.int) := by
          rcases hh with hh | hh
          · exact .inl (.of hh)
          · exact .inr (.of hh)
        refine ⟨a, xs, rfl, hq, hl, fun p1 c hp hc => ?_⟩
        have s1 : Same H1 (upd H1 p1 (SetO X.w p1 (fun j => decide (j ∈ xs)) c)) := .new hp
        refine ⟨p1, _, c, rfl, upd_same, by omega, fun ns p3 k1 k2 k3 k4 => ?_⟩
        have en : ns = usort xs := asc_eq k1 (usort_sorted xs) fun k => by rw [k2, usort_mem]; simp
        subst en
        have s2 := Same.new (o := HO.lst ((usort xs).map V.int)) k4
        have e2 := e1.trans (s1.ext.trans s2.ext)
        have w2 := (w1.same s1).same s2
        exact q _ _ e2 w2 (.lst ((R.next (e1.trans s1.ext) (w1.same s1)).fresh k4) upd_same (RepL.ofInts _)) nofun
      · rw [if_neg hl] at ev2; cases ev2
end
end Cd
namespace Cd
open PySem PySem.Spec PyProof.Rows L2 GxR C8 GenW
def isNon : E → Bool
  | .non => true
  | _ => false
def isTt : E → Bool
  | .bl true => true
  | _ => false
/-- a leaf that may be tested -/
def lfT : E → Bool
  | .int _ | .bl _ | .call .. | .isi .. | .g .. | .ix .. => true
  | _ => false
section
variable (N : List Str) (dn : List Str) (gi : List (Str × Int)) (tk : Str)
mutual
/-- tst: as a test; g: a generator expression may stand here -/
def okE : E → Bool → Bool → Scope → Expr → Bool
  | .int i, tst, g, sc, e => (match e with
    | .Constant (.int j) _ _ => i == j
    | _ => false)
  | .bl b, tst, g, sc, e => (match e with
    | .Constant (.bool c) _ _ => b == c
    | _ => false)
  | .non, tst, g, sc, e => !tst && (match e with
    | .Constant .none _ _ => true
    | _ => false)
  | .str s, tst, g, sc, e => !tst && (match e with
    | .Constant (.str c) _ _ => decide (s = c)
    | _ => false)
  | .gi x i, tst, g, sc, e => !tst && (match e with
    | .Name y _ => decide (y = x) && glB sc x && nmOk x && decide ((x, i) ∈ gi)
    | _ => false)
  | .var i, tst, g, sc, e => (match e with
    | .Name x _ => decide (N[i]? = some x) && visB sc x && nmOk x
    | _ => false)
  | .bin o a b, tst, g, sc, e => !tst && (match e with
    | .BinOp x op y _ => decide (op = bopO o) && okE a false g sc x && okE b false g sc y
    | _ => false)
  | .neg a, tst, g, sc, e => !tst && (match e with
    | .UnaryOp .USub x _ => okE a false g sc x
    | _ => false)
  | .cmp o a b, tst, g, sc, e => (match e with
    | .Compare x [op] [y] _ => decide (op = copO o) && okE a false g sc x && okE b false g sc y && nSet y && isNonE o b
    | _ => false)
  | .chn o p a b c, tst, g, sc, e => (match e with
    | .Compare x [op, op2] [y, z] _ => decide (op = copO o) && decide (op2 = copO p) && okE a false g sc x && okE b false g sc y && okE c false g sc z && nSet z && chC o && chC p
    | _ => false)
  | .and a b, tst, g, sc, e => (match e with
    | .BoolOp .And (x :: y :: rest) pos => okE a tst g sc x && (match rest with
      | [] => okE b tst g sc y
      | _ :: _ => okE b tst g sc (.BoolOp .And (y :: rest) pos))
    | _ => false)
  | .or a b, tst, g, sc, e => (match e with
    | .BoolOp .Or (x :: y :: rest) pos => okE a tst g sc x && (match rest with
      | [] => okE b tst g sc y
      | _ :: _ => okE b tst g sc (.BoolOp .Or (y :: rest) pos))
    | _ => false)
  | .not a, tst, g, sc, e => (match e with
    | .UnaryOp .Not x _ => okE a tst g sc x
    | _ => false)
  | .ite c a b, tst, g, sc, e => !tst && (match e with
    | .IfExp z x y _ => okE c true g sc z && okE a false g sc x && okE b false g sc y
    | _ => false)
  | .tup es, tst, g, sc, e => !tst && (match e with
    | .Tuple xs _ _ => okL es g sc xs
    | _ => false)
  | .lst es, tst, g, sc, e => !tst && (match e with
    | .List xs _ => okL es g sc xs
    | _ => false)
  | .ix a i, tst, g, sc, e => (match e with
    | .Subscript x y _ => okE a false g sc x && okE i false g sc y && nSl y
    | _ => false)
  | .sl a lo hi, tst, g, sc, e => !tst && (match e with
    | .Subscript x (.Slice l h none _) _ => okE a false g sc x && (match l with
      | none => isNon lo
      | some l => !isNon lo && okE lo false g sc l) && (match h with
      | none => isNon hi
      | some h => !isNon hi && okE hi false g sc h)
    | _ => false)
  | .call f es, tst, g, sc, e => (match e with
    | .Call (.Name x _) (y :: ys) [] _ => decide (dn[f]? = some x) && glB sc x && nmOk x && (y :: ys).all nst && okA es g sc (y :: ys)
    | _ => false)
  | .take r a, tst, g, sc, e => !tst && (match e with
    | .Call (.Name f _) [.Name x _, y] [] _ => decide (f = tk) && glB sc tk && nmOk tk && decide (N[r]? = some x) && visB sc x && nmOk x && nst y && okE a false g sc y
    | _ => false)
  | .f1 f a, tst, g, sc, e => !tst && (match e with
    | .Call (.Name x _) [y] [] _ => decide (x = f1N f) && glB sc (f1N f) && nst y && okE a false g sc y
    | _ => false)
  | .isi a ts, tst, g, sc, e => (match e with
    | .Call (.Name f _) [x, c] [] _ => decide (f = ("isinstance" : Str)) && glB sc "isinstance" && nst x && okE a false g sc x && tyE sc ts c && decide (ts.length < 10)
    | _ => false)
  | .count a b, tst, g, sc, e => !tst && (match e with
    | .Call (.Attribute (.Name x np) m apos) [y] [] cpos => decide (m = ("count" : Str)) && (apos.endLine == cpos.line) && nst y && okE a false g sc (.Name x np) && okE b false g sc y
    | _ => false)
  | .index a b, tst, g, sc, e => !tst && (match e with
    | .Call (.Attribute (.Name x np) m apos) [y] [] cpos => decide (m = ("index" : Str)) && (apos.endLine == cpos.line) && nst y && okE a false g sc (.Name x np) && okE b false g sc y
    | _ => false)
  | .sset a, tst, g, sc, e => !tst && (match e with
    | .Call (.Name x _) [.Call (.Name z _) [y] [] _] [] _ => decide (x = ("sorted" : Str)) && decide (z = ("set" : Str)) && glB sc "sorted" && glB sc "set" && nst y && okE a false g sc y
    | _ => false)
  | .lc own t it c x, tst, g, sc, e => !tst && (match e with
    | .ListComp elt [⟨tg, iter, ifs, k⟩] scope _ => decide (k = 0) && okI it g sc tg iter && blkC N sc scope own && (tgSl t).all (fun i => decide (i ∈ own.map (·.2))) && tgB N (relS scope sc) (fun x => scope.names.lookup x == some .cell) t tg &&
      (match ifs with
      | [] => isTt c
      | [z] => okE c true g (relS scope sc) z
      | _ => false) && okE x false g (relS scope sc) elt && nSet iter
    | _ => false)
  | .g k own t it x, tst, g, sc, e => (match e with
    | .Call (.Name f _) [.GeneratorExp elt [⟨tg, iter, [], j⟩] scope _] [] _ => g && decide (j = 0) && decide (f = gkN k) && glB sc (gkN k) && okI it g sc tg iter && gokC N sc scope own && (tgSl t).all (fun i => decide (i ∈ own.map (·.2))) && tgB N scope (fun _ => false) t tg && okE x false false scope elt && nFold iter
    | _ => false)
def okL : EL → Bool → Scope → List Expr → Bool
  | .nil, g, sc, es => es.isEmpty
  | .cons st e r, g, sc, es => (match es with
    | x :: xs => (match st with
      | false => nst x && okE e false g sc x
      | true => (match x with
        | .Starred x _ => okE e false g sc x
        | _ => false)) && okL r g sc xs
    | [] => false)
def okA : EL → Bool → Scope → List Expr → Bool
  | .nil, g, sc, es => es.isEmpty
  | .cons st e r, g, sc, es => (match es with
    | x :: xs => !st && nst x && okE e false g sc x && okA r g sc xs
    | [] => false)
def okI : It → Bool → Scope → Expr → Expr → Bool
  | .seq a, g, sc, tg, e => okE a false g sc e
  | .r1 a, g, sc, tg, e => (match e with
    | .Call (.Name f _) [x] [] _ => decide (f = ("range" : Str)) && glB sc "range" && nst x && okE a false g sc x
    | _ => false)
  | .r2 a b, g, sc, tg, e => (match e with
    | .Call (.Name f _) [x, y] [] _ => decide (f = ("range" : Str)) && glB sc "range" && nst x && nst y && okE a false g sc x && okE b false g sc y
    | _ => false)
  | .r3 .., _, _, _, _ => false
  | .enum a, g, sc, tg, e => (match tg, e with
    | .Tuple .., .Call (.Name f _) [x] [] _ => decide (f = ("enumerate" : Str)) && glB sc "enumerate" && nst x && okE a false g sc x
    | _, _ => false)
  | .zip a b, g, sc, tg, e => (match tg, e with
    | .Tuple .., .Call (.Name f _) [x, y] [] _ => decide (f = ("zip" : Str)) && glB sc "zip" && nst x && nst y && okE a false g sc x && okE b false g sc y
    | _, _ => false)
end
end
section
variable {F : Fx} {n : Nat}
theorem w_of {X : Cx} {g tst : Bool} {ir : E} {e : Expr} (ok : okE X.N F.dn F.gi F.tk ir tst g X.env.scope e = true) (h : PE X e (tE F n (isFr ir) ir)) : PE X e (tW F n ir) := by
  by_cases hv : ∃ i, ir = .var i
  · obtain ⟨i, rfl⟩ := hv
    simp only [okE] at ok
    split at ok
    · simp only [Bool.and_eq_true, decide_eq_true_eq] at ok
      exact w_var ok.1.1 ok.1.2 ok.2
    · cases ok
  · exact h.weak fun σ H Q q => tW_of (fun i z => hv ⟨i, z⟩) q
theorem g_of {X : Cx} {g tst : Bool} {ir : E} {e : Expr} (ok : okE X.N F.dn F.gi F.tk ir tst g X.env.scope e = true) (h : PE X e (tE F n (isFr ir) ir)) : PE X e (tG F n ir) := by
  by_cases hv : ∃ i, ir = .var i
  · obtain ⟨i, rfl⟩ := hv
    simp only [okE] at ok
    split at ok
    · simp only [Bool.and_eq_true, decide_eq_true_eq] at ok
      exact g_var ok.1.1 ok.1.2 ok.2
    · cases ok
  · exact g_any (fun i z => hv ⟨i, z⟩) h.f
/-- what the checker vouches for -/
def Snd (F : Fx) (n : Nat) (X : Cx) (tst : Bool) (ir : E) (e : Expr) : Prop := (tst = false → PE X e (tE F n (isFr ir) ir)) ∧ (tst = true → PT X e (tT F n ir))
theorem Cok.lo {X : Cx} {g : Nat} (C : Cok F n g X) {j : Nat} (h : j ≤ g) : Cok F n j X := ⟨C.calm, C.nd, C.K, C.rm.mono (by omega), C.fns, C.take, C.nob, C.gis, fun z => C.gen (by omega)⟩
mutual
theorem sndE : ∀ (ir : E) (X : Cx) (tst g : Bool) (e : Expr), Cok F n g.toNat X → okE X.N F.dn F.gi F.tk ir tst g X.env.scope e = true → Snd F n X tst ir e
  | .int i, X, tst, g, e, C, ok => by
    simp only [okE] at ok
    split at ok
    · have e1 := eq_of_beq ok; subst e1
      have h : ∀ j pos, PE X (.Constant (.int i) j pos) (tE F n false (.int i)) := fun j pos => e_atom pe_int (fun _ _ => .int i) nofun (fun _ _ => by simp only [evE]; rfl)
      exact ⟨fun _ => h _ _, fun _ => t_of (h _ _) rfl fun env rs b rs' z => by simp only [evT] at z; cases z; exact ⟨.int i, by simp only [evE]; rfl, rfl⟩⟩
    · cases ok
  | .bl i, X, tst, g, e, C, ok => by
    simp only [okE] at ok
    split at ok
    · have e1 := eq_of_beq ok; subst e1
      have h : ∀ j pos, PE X (.Constant (.bool i) j pos) (tE F n false (.bl i)) := fun j pos => e_atom pe_bl (fun _ _ => .bl i) nofun (fun _ _ => by simp only [evE]; rfl)
      exact ⟨fun _ => h _ _, fun _ => t_of (h _ _) rfl fun env rs b rs' z => by simp only [evT] at z; cases z; exact ⟨.bool i, by simp only [evE]; rfl, rfl⟩⟩
    · cases ok
  | .non, X, tst, g, e, C, ok => by
    simp only [okE, Bool.and_eq_true, Bool.not_eq_true'] at ok
    obtain ⟨rfl, ok⟩ := ok
    split at ok
    · exact ⟨fun _ => e_atom pe_non (fun _ _ => .non) nofun (fun _ _ => by simp only [evE]; rfl), nofun⟩
    · cases ok
  | .str x, X, tst, g, e, C, ok => by
    simp only [okE, Bool.and_eq_true, Bool.not_eq_true'] at ok
    obtain ⟨rfl, ok⟩ := ok
    split at ok
    · have e1 := of_decide_eq_true ok; subst e1
      exact ⟨fun _ => e_atom pe_str (fun _ _ => .str x) nofun (fun _ _ => by simp only [evE]; rfl), nofun⟩
    · cases ok
  | .gi x i, X, tst, g, e, C, ok => by
    simp only [okE, Bool.and_eq_true, Bool.not_eq_true'] at ok
    obtain ⟨rfl, ok⟩ := ok
    split at ok
    · simp only [Bool.and_eq_true, decide_eq_true_eq] at ok
      obtain ⟨⟨⟨rfl, hg⟩, hk⟩, hm⟩ := ok
      obtain ⟨t, ht⟩ := C.gis _ i hm
      exact ⟨fun _ => e_atom (pe_glob (v := .int i) (gl_of hg) ht ⟨t, rfl⟩ (nmOk1 hk).1) (fun _ _ => .int i) nofun (fun _ _ => by simp only [evE]; rfl), nofun⟩
    · cases ok
  | .var i, X, tst, g, e, C, ok => by
    simp only [okE] at ok
    split at ok
    · simp only [Bool.and_eq_true, decide_eq_true_eq] at ok
      exact ⟨fun _ => e_var ok.1.1 ok.1.2 ok.2 rfl, fun _ => t_var ok.1.1 ok.1.2 ok.2⟩
    · cases ok
  | .bin o a b, X, tst, g, e, C, ok => by
    simp only [okE, Bool.and_eq_true, Bool.not_eq_true'] at ok
    obtain ⟨rfl, ok⟩ := ok
    split at ok
    · simp only [Bool.and_eq_true, decide_eq_true_eq] at ok
      obtain ⟨⟨rfl, h1⟩, h2⟩ := ok
      exact ⟨fun _ => e_bin (w_of h1 ((sndE a X false g _ C h1).1 rfl)) (w_of h2 ((sndE b X false g _ C h2).1 rfl)), nofun⟩
    · cases ok
  | .neg a, X, tst, g, e, C, ok => by
    simp only [okE, Bool.and_eq_true, Bool.not_eq_true'] at ok
    obtain ⟨rfl, ok⟩ := ok
    split at ok
    · exact ⟨fun _ => e_neg ((sndE a X false g _ C ok).1 rfl).f, nofun⟩
    · cases ok
  | .cmp o a b, X, tst, g, e, C, ok => by
    simp only [okE] at ok
    split at ok
    · simp only [Bool.and_eq_true, decide_eq_true_eq] at ok
      obtain ⟨⟨⟨⟨rfl, h1⟩, h2⟩, h3⟩, h4⟩ := ok
      have w1 := w_of h1 ((sndE a X false g _ C h1).1 rfl)
      have w2 := w_of h2 ((sndE b X false g _ C h2).1 rfl)
      exact ⟨fun _ => e_cmp C w1 w2 h3 h4, fun _ => t_cmp C w1 w2 h3 h4⟩
    · cases ok
  | .chn o p a b c, X, tst, g, e, C, ok => by
    simp only [okE] at ok
    split at ok
    · simp only [Bool.and_eq_true, decide_eq_true_eq] at ok
      obtain ⟨⟨⟨⟨⟨⟨⟨rfl, rfl⟩, h1⟩, h2⟩, h3⟩, h4⟩, h5⟩, h6⟩ := ok
      have w1 := ((sndE a X false g _ C h1).1 rfl).f
      have w2 := ((sndE b X false g _ C h2).1 rfl).f
      have w3 := ((sndE c X false g _ C h3).1 rfl).f
      exact ⟨fun _ => e_chn C w1 w2 w3 h4 h5 h6, fun _ => t_chn C w1 w2 w3 h4 h5 h6⟩
    · cases ok
  | .and a b, X, tst, g, e, C, ok => by
    simp only [okE] at ok
    split at ok
    · rename_i x y rest pos
      rw [Bool.and_eq_true] at ok
      obtain ⟨h1, h2⟩ := ok
      have s1 := sndE a X tst g _ C h1
      cases rest with
      | nil =>
        have s2 := sndE b X tst g _ C h2
        exact ⟨fun z => e_and (s1.1 z).f (pe_one (s2.1 z).f), fun z => t_and (s1.2 z) (pw_and1 (s2.2 z))⟩
      | cons r rs =>
        have s2 := sndE b X tst g _ C h2
        exact ⟨fun z => e_and (s1.1 z).f (s2.1 z).f, fun z => t_and (s1.2 z) (pw_pt (s2.2 z))⟩
    · cases ok
  | .or a b, X, tst, g, e, C, ok => by
    simp only [okE] at ok
    split at ok
    · rename_i x y rest pos
      rw [Bool.and_eq_true] at ok
      obtain ⟨h1, h2⟩ := ok
      have s1 := sndE a X tst g _ C h1
      cases rest with
      | nil =>
        have s2 := sndE b X tst g _ C h2
        exact ⟨fun z => e_or (s1.1 z).f (pe_one (s2.1 z).f), fun z => t_or (s1.2 z) (pw_or1 (s2.2 z))⟩
      | cons r rs =>
        have s2 := sndE b X tst g _ C h2
        exact ⟨fun z => e_or (s1.1 z).f (s2.1 z).f, fun z => t_or (s1.2 z) (pw_pt (s2.2 z))⟩
    · cases ok
  | .not a, X, tst, g, e, C, ok => by
    simp only [okE] at ok
    split at ok
    · have s1 := sndE a X tst g _ C ok
      exact ⟨fun z => e_not (s1.1 z).f, fun z => t_not (s1.2 z)⟩
    · cases ok
  | .ite c a b, X, tst, g, e, C, ok => by
    simp only [okE, Bool.and_eq_true, Bool.not_eq_true'] at ok
    obtain ⟨rfl, ok⟩ := ok
    split at ok
    · simp only [Bool.and_eq_true] at ok
      exact ⟨fun _ => e_ite ((sndE c X true g _ C ok.1.1).2 rfl) ((sndE a X false g _ C ok.1.2).1 rfl).f ((sndE b X false g _ C ok.2).1 rfl).f, nofun⟩
    · cases ok
  | .tup es, X, tst, g, e, C, ok => by
    simp only [okE, Bool.and_eq_true, Bool.not_eq_true'] at ok
    obtain ⟨rfl, ok⟩ := ok
    split at ok
    · exact ⟨fun _ => e_tup (sndL es X g _ C ok), nofun⟩
    · cases ok
  | .lst es, X, tst, g, e, C, ok => by
    simp only [okE, Bool.and_eq_true, Bool.not_eq_true'] at ok
    obtain ⟨rfl, ok⟩ := ok
    split at ok
    · exact ⟨fun _ => e_lst (sndL es X g _ C ok), nofun⟩
    · cases ok
  | .ix a i, X, tst, g, e, C, ok => by
    simp only [okE] at ok
    split at ok
    · simp only [Bool.and_eq_true] at ok
      have h := fun pos => e_ix (pos := pos) (w_of ok.1.1 ((sndE a X false g _ C ok.1.1).1 rfl)) ((sndE i X false g _ C ok.1.2).1 rfl).f ok.2
      refine ⟨fun _ => h _, fun _ => t_of (h _) rfl fun env rs b rs' z => ?_⟩
      simp only [evT] at z
      obtain ⟨y, r1, z1, z⟩ := bdS z
      obtain ⟨k, r2, z2, z⟩ := bdS z
      simp only [evE, M.bd, z1, z2]
      generalize hl : elemsD y = w at z
      split at z
      · obtain ⟨d, r3, z3, z⟩ := bdS z
        obtain ⟨z4, rfl⟩ := ofS z
        obtain ⟨z5, rfl⟩ := ofS z3
        refine ⟨d, ?_, z4⟩
        simp only [z5]
        rfl
      · cases z
    · cases ok
  | .sl a lo hi, X, tst, g, e, C, ok => by
    simp only [okE, Bool.and_eq_true, Bool.not_eq_true'] at ok
    obtain ⟨rfl, ok⟩ := ok
    split at ok
    · rename_i x l h p2 pos
      simp only [Bool.and_eq_true] at ok
      refine ⟨fun _ => e_sl (w_of ok.1.1 ((sndE a X false g _ C ok.1.1).1 rfl)) ?_ ?_, nofun⟩
      · have o := ok.1.2
        cases l with
        | none =>
          cases lo <;> first | exact po_no | cases o
        | some l =>
          simp only [Bool.and_eq_true, Bool.not_eq_true'] at o
          exact po_yes ((sndE lo X false g _ C o.2).1 rfl).f fun z => by subst z; cases o.1
      · have o := ok.2
        cases h with
        | none =>
          cases hi <;> first | exact po_no | cases o
        | some l =>
          simp only [Bool.and_eq_true, Bool.not_eq_true'] at o
          exact po_yes ((sndE hi X false g _ C o.2).1 rfl).f fun z => by subst z; cases o.1
    · cases ok
  | .call f es, X, tst, g, e, C, ok => by
    simp only [okE] at ok
    split at ok
    · simp only [Bool.and_eq_true, decide_eq_true_eq] at ok
      obtain ⟨⟨⟨⟨h1, h2⟩, h3⟩, h4⟩, h5⟩ := ok
      have h := fun p pos => e_call (pos := pos) (p := p) C h1 h2 h3 h4 (sndA es X g _ C h5)
      refine ⟨fun _ => h _ _, fun _ => t_of (h _ _) rfl fun env rs b rs' z => ?_⟩
      simp only [evT] at z
      obtain ⟨l, r1, z1, z⟩ := bdS z
      obtain ⟨d, r2, z2, z⟩ := bdS z
      obtain ⟨d3, r3, z3, z⟩ := bdS z
      obtain ⟨z4, rfl⟩ := ofS z
      exact ⟨d3, by simp only [evE, M.bd, z1, z2]; exact z3, z4⟩
    · cases ok
  | .take r a, X, tst, g, e, C, ok => by
    simp only [okE, Bool.and_eq_true, Bool.not_eq_true'] at ok
    obtain ⟨rfl, ok⟩ := ok
    split at ok
    · simp only [Bool.and_eq_true, decide_eq_true_eq] at ok
      obtain ⟨⟨⟨⟨⟨⟨⟨rfl, h1⟩, h2⟩, h3⟩, h4⟩, h5⟩, h6⟩, h7⟩ := ok
      exact ⟨fun _ => e_take (f := F.tk) C h3 h4 h5 h1 h2 h6 ((sndE a X false g _ C h7).1 rfl).f, nofun⟩
    · cases ok
  | .f1 f a, X, tst, g, e, C, ok => by
    simp only [okE, Bool.and_eq_true, Bool.not_eq_true'] at ok
    obtain ⟨rfl, ok⟩ := ok
    split at ok
    · simp only [Bool.and_eq_true, decide_eq_true_eq] at ok
      obtain ⟨⟨⟨rfl, h1⟩, h2⟩, h3⟩ := ok
      exact ⟨fun _ => e_f1 C h1 (w_of h3 ((sndE a X false g _ C h3).1 rfl)) h2, nofun⟩
    · cases ok
  | .isi a ts, X, tst, g, e, C, ok => by
    simp only [okE] at ok
    split at ok
    · simp only [Bool.and_eq_true, decide_eq_true_eq] at ok
      obtain ⟨⟨⟨⟨⟨rfl, h1⟩, h2⟩, h3⟩, h4⟩, h5⟩ := ok
      have h := fun p pos => e_isi (pos := pos) (p := p) C h1 (w_of h3 ((sndE a X false g _ C h3).1 rfl)) h2 h4 h5
      refine ⟨fun _ => h _ _, fun _ => t_of (h _ _) rfl fun env rs b rs' z => ?_⟩
      simp only [evT] at z
      obtain ⟨y, r1, z1, z⟩ := bdS z
      cases z
      exact ⟨.bool (isiD y ts), by simp only [evE, M.bd, z1]; rfl, rfl⟩
    · cases ok
  | .count a b, X, tst, g, e, C, ok => by
    simp only [okE, Bool.and_eq_true, Bool.not_eq_true'] at ok
    obtain ⟨rfl, ok⟩ := ok
    split at ok
    · simp only [Bool.and_eq_true, decide_eq_true_eq] at ok
      obtain ⟨⟨⟨⟨rfl, h1⟩, h2⟩, h3⟩, h4⟩ := ok
      exact ⟨fun _ => e_count (w_of h3 ((sndE a X false g _ C h3).1 rfl)) ((sndE b X false g _ C h4).1 rfl).f h2 h1, nofun⟩
    · cases ok
  | .index a b, X, tst, g, e, C, ok => by
    simp only [okE, Bool.and_eq_true, Bool.not_eq_true'] at ok
    obtain ⟨rfl, ok⟩ := ok
    split at ok
    · simp only [Bool.and_eq_true, decide_eq_true_eq] at ok
      obtain ⟨⟨⟨⟨rfl, h1⟩, h2⟩, h3⟩, h4⟩ := ok
      exact ⟨fun _ => e_index C (w_of h3 ((sndE a X false g _ C h3).1 rfl)) ((sndE b X false g _ C h4).1 rfl).f h2 h1, nofun⟩
    · cases ok
  | .sset a, X, tst, g, e, C, ok => by
    simp only [okE, Bool.and_eq_true, Bool.not_eq_true'] at ok
    obtain ⟨rfl, ok⟩ := ok
    split at ok
    · simp only [Bool.and_eq_true, decide_eq_true_eq] at ok
      obtain ⟨⟨⟨⟨⟨rfl, rfl⟩, h1⟩, h2⟩, h3⟩, h4⟩ := ok
      exact ⟨fun _ => (e_sset C h1 h2 (w_of h4 ((sndE a X false g _ C h4).1 rfl)) h3).f, nofun⟩
    · cases ok
  | .lc own t it c x, X, tst, g, e, C, ok => by
    simp only [okE, Bool.and_eq_true, Bool.not_eq_true'] at ok
    obtain ⟨rfl, ok⟩ := ok
    split at ok
    · rename_i elt tg iter ifs k scope pos
      simp only [Bool.and_eq_true, decide_eq_true_eq, List.all_eq_true] at ok
      obtain ⟨⟨⟨⟨⟨⟨⟨rfl, h1⟩, h2⟩, h3⟩, h4⟩, h5⟩, h6⟩, h7⟩ := ok
      refine ⟨fun _ => e_lc C (sndI it X g _ _ C h1) h2 h3 (fun s H a cl fp => ?_) (fun s H a cl fp => ?_) (fun s H a cl fp => ?_) h7, nofun⟩
      · exact g_tg (X := X.blk s H scope (compEnvC scope cl a X.env) fp) C.calm C.nd (fun x hx => hx) h4
      · have C2 := C.blk s H scope cl a fp
        cases ifs with
        | nil =>
          have hc : c = .bl true := by
            cases c <;> first | cases h5 | skip
            rename_i b; cases b <;> first | rfl | cases h5
          rw [hc]; exact t_yes
        | cons z zs =>
          cases zs with
          | nil => exact pts_one ((sndE c _ true g _ C2 h5).2 rfl)
          | cons _ _ => cases h5
      · exact ((sndE x _ false g _ (C.blk s H scope cl a fp) h6).1 rfl).f
    · cases ok
  | .g k own t it x, X, tst, g, e, C, ok => by
    simp only [okE] at ok
    split at ok
    · rename_i f p elt tg iter j scope gpos pos
      simp only [Bool.and_eq_true, decide_eq_true_eq, List.all_eq_true] at ok
      obtain ⟨⟨⟨⟨⟨⟨⟨⟨⟨rfl, rfl⟩, rfl⟩, h1⟩, h2⟩, h3⟩, h4⟩, h5⟩, h6⟩, h7⟩ := ok
      have h := e_g (p := p) (pos := pos) (gpos := gpos) (elt := elt) (e := x) (g := 0) C h1 (sndI it X true _ _ C h2) h3 h4 h7 (fun s H cl a code fp => ?_) (fun s H cl a code fp => ?_)
      · refine ⟨fun _ => h, fun _ => t_of h rfl fun env rs b rs' z => ?_⟩
        cases k <;> simp only [evT] at z
        · obtain ⟨l, r1, z1, z⟩ := bdS z
          exact ⟨_, by simp only [evE, M.bd, z1]; rw [z]; rfl, rfl⟩
        · obtain ⟨l, r1, z1, z⟩ := bdS z
          exact ⟨_, by simp only [evE, M.bd, z1]; rw [z]; rfl, rfl⟩
        · obtain ⟨l, r1, z1, z⟩ := bdS z
          obtain ⟨i, r2, z2, z⟩ := bdS z
          cases z
          exact ⟨_, by simp only [evE, M.bd, z1]; rw [z2]; rfl, rfl⟩
      · exact g_tg (X := gcx X (X.A.in1.in1.deeper (genEnv scope cl a code builtinsNs X.env)) s H (genEnv scope cl a code builtinsNs X.env) fp) C.calm C.nd (fun x hx => hx) h5
      · exact ((sndE x _ false false _ (Cok.gcx (g := 0) C s H cl a code fp scope) h6).1 rfl).f
    · cases ok
theorem sndL : ∀ (es : EL) (X : Cx) (g : Bool) (xs : List Expr), Cok F n g.toNat X → okL X.N F.dn F.gi F.tk es g X.env.scope xs = true → PA X xs (tL F n es)
  | .nil, X, g, xs, C, ok => by
    simp only [okL] at ok
    cases xs with
    | nil => exact l_nil
    | cons _ _ => cases ok
  | .cons st e r, X, g, xs, C, ok => by
    simp only [okL] at ok
    cases xs with
    | nil => cases ok
    | cons x xs =>
      simp only [Bool.and_eq_true] at ok
      obtain ⟨h1, h2⟩ := ok
      have hr := sndL r X g xs C h2
      cases st with
      | false =>
        simp only [Bool.and_eq_true] at h1
        exact l_cons ((sndE e X false g _ C h1.2).1 rfl).f hr h1.1
      | true =>
        simp only at h1
        split at h1
        · exact l_star (w_of h1 ((sndE e X false g _ C h1).1 rfl)) hr
        · cases h1
theorem sndA : ∀ (es : EL) (X : Cx) (g : Bool) (xs : List Expr), Cok F n g.toNat X → okA X.N F.dn F.gi F.tk es g X.env.scope xs = true → PA X xs (tA F n es)
  | .nil, X, g, xs, C, ok => by
    simp only [okA] at ok
    cases xs with
    | nil => exact a_nil
    | cons _ _ => cases ok
  | .cons st e r, X, g, xs, C, ok => by
    simp only [okA] at ok
    cases xs with
    | nil => cases ok
    | cons x xs =>
      simp only [Bool.and_eq_true, Bool.not_eq_true'] at ok
      obtain ⟨⟨⟨rfl, h1⟩, h2⟩, h3⟩ := ok
      exact a_cons (g_of h2 ((sndE e X false g _ C h2).1 rfl)) (sndA r X g xs C h3) h1
theorem sndI : ∀ (it : It) (X : Cx) (g : Bool) (tg e : Expr), Cok F n g.toNat X → okI X.N F.dn F.gi F.tk it g X.env.scope tg e = true → PI X tg e (tI F n it)
  | .seq a, X, g, tg, e, C, ok => by
    simp only [okI] at ok
    exact i_seq (w_of ok ((sndE a X false g _ C ok).1 rfl))
  | .r1 a, X, g, tg, e, C, ok => by
    simp only [okI] at ok
    split at ok
    · simp only [Bool.and_eq_true, decide_eq_true_eq] at ok
      obtain ⟨⟨⟨rfl, h1⟩, h2⟩, h3⟩ := ok
      exact i_r1 C h1 ((sndE a X false g _ C h3).1 rfl).f h2
    · cases ok
  | .r2 a b, X, g, tg, e, C, ok => by
    simp only [okI] at ok
    split at ok
    · simp only [Bool.and_eq_true, decide_eq_true_eq] at ok
      obtain ⟨⟨⟨⟨⟨rfl, h1⟩, h2⟩, h3⟩, h4⟩, h5⟩ := ok
      exact i_r2 C h1 ((sndE a X false g _ C h4).1 rfl).f ((sndE b X false g _ C h5).1 rfl).f h2 h3
    · cases ok
  | .r3 .., X, g, tg, e, C, ok => by simp only [okI] at ok; cases ok
  | .enum a, X, g, tg, e, C, ok => by
    simp only [okI] at ok
    split at ok
    · simp only [Bool.and_eq_true, decide_eq_true_eq] at ok
      obtain ⟨⟨⟨rfl, h1⟩, h2⟩, h3⟩ := ok
      exact i_enum C h1 (w_of h3 ((sndE a X false g _ C h3).1 rfl)) h2
    · cases ok
  | .zip a b, X, g, tg, e, C, ok => by
    simp only [okI] at ok
    split at ok
    · simp only [Bool.and_eq_true, decide_eq_true_eq] at ok
      obtain ⟨⟨⟨⟨⟨rfl, h1⟩, h2⟩, h3⟩, h4⟩, h5⟩ := ok
      exact i_zip C h1 (w_of h4 ((sndE a X false g _ C h4).1 rfl)) (w_of h5 ((sndE b X false g _ C h5).1 rfl)) h2 h3
    · cases ok
end
end
end Cd
namespace Cd
open PySem PySem.Spec PyProof.Rows L2 GxR C8 GenW
/-! Stores. -/
theorem Rep.sub {B B' : Addr → Prop} {H : Hp} {v : V} {d : PyData} (h : Rep B H v d) (s : ∀ q, B' q → B q) : Rep B' H v d := h.mono (fun q _ b e => ⟨fun z => b (s q z), e⟩) fun q _ b e => ⟨fun z => b (s q z), e⟩
theorem RepL.sub {B B' : Addr → Prop} {H : Hp} {v : List V} {d : List PyData} (h : RepL B H v d) (s : ∀ q, B' q → B q) : RepL B' H v d := h.mono (fun q _ b e => ⟨fun z => b (s q z), e⟩) fun q _ b e => ⟨fun z => b (s q z), e⟩
/-- Rl, with more places banned -/
structure RlG (F : Fx) (B0 : Addr → Prop) (H0 : Hp) (B : Addr → Prop) (σ : L2.St) (H : Hp) (env : List Slot) (rs : RS) : Prop where
  len : env.length = σ.length
  sl : ∀ (i : Nat) (s : Slot), env[i]? = some s → SR F B H s σ[i]?
  dj : ∀ (i j : Nat) (p : Addr), ownAt env σ i p → ownAt env σ j p → i = j
  fr : ∀ (i : Nat) (p : Addr), ownAt env σ i p → H0 p = none
  b0 : ∀ q, B0 q → ∃ o, H0 q = some o
  br : B0 F.r
  w0 : ∃ r0, Wd F H0 r0
  ext : Ext F H0 H
  wd : Wd F H rs
  inB : ∀ q, Bn B0 env σ q → B q
section
variable {F : Fx} {B0 B : Addr → Prop} {H0 : Hp} {σ : L2.St} {H H' : Hp} {env : List Slot} {rs rs' : RS}
theorem SR.sub {B' : Addr → Prop} {s : Slot} {o : Option (Option V)} (h : SR F B H s o) (k : ∀ q, B' q → B q) : SR F B' H s o := by
  cases s with
  | no => trivial
  | sh d => obtain ⟨v, h1, h2⟩ := h; exact ⟨v, h1, h2.sub k⟩
  | ow ds => obtain ⟨p, xs, h1, hn, h2, h3⟩ := h; exact ⟨p, xs, h1, hn, h2, h3.sub k⟩
  | row => exact h
theorem RlG.rl (R : RlG F B0 H0 B σ H env rs) : Rl F B0 H0 σ H env rs := ⟨R.len, fun i s e => (R.sl i s e).sub R.inB, R.dj, R.fr, R.b0, R.br, R.w0, R.ext, R.wd⟩
/-- what holds in H holds later, though places that were free are banned from now on -/
theorem SR.up {B' : Addr → Prop} {s : Slot} {o : Option (Option V)} (hr : B F.r) (w : Wd F H rs) (e : Ext F H H') (hb : ∀ q, B' q → B q ∨ H q = none) (h : SR F B H s o) : SR F B' H' s o := by
  have ml : ∀ q xs, ¬ B q → H q = some (.lst xs) → ¬ B' q ∧ H' q = some (.lst xs) := fun q xs b h => ⟨fun z => (hb q z).elim b fun z => (by rw [z] at h; cases h), e q _ h (fun z => b (z ▸ hr)) (w.notTab (.inl h))⟩
  have mt : ∀ q xs, ¬ B q → H q = some (.tup xs) → ¬ B' q ∧ H' q = some (.tup xs) := fun q xs b h => ⟨fun z => (hb q z).elim b fun z => (by rw [z] at h; cases h), e q _ h (fun z => b (z ▸ hr)) (w.notTab (.inr h))⟩
  cases s with
  | no => trivial
  | sh d => obtain ⟨v, h1, h2⟩ := h; exact ⟨v, h1, h2.mono ml mt⟩
  | ow ds => obtain ⟨p, xs, h1, hn, h2, h3⟩ := h; exact ⟨p, xs, h1, hn, e p _ h2 hn (w.notTab (.inl h2)), h3.mono ml mt⟩
  | row => exact h
theorem Rl.up {B' : Addr → Prop} (R : Rl F B0 H0 σ H env rs) (e : Ext F H H') (w : Wd F H' rs') (hs : ∀ q, Bn B0 env σ q → B' q) (hb : ∀ q, B' q → Bn B0 env σ q ∨ H q = none) : RlG F B0 H0 B' σ H' env rs' :=
  ⟨R.len, fun i s h => (R.sl i s h).up R.bn R.wd e hb, R.dj, R.fr, R.b0, R.br, R.w0, R.ext.trans e, w, hs⟩
theorem Rl.g (R : Rl F B0 H0 σ H env rs) : RlG F B0 H0 (Bn B0 env σ) σ H env rs := R.up .refl R.wd (fun _ z => z) fun _ z => .inl z
theorem own_set {i j : Nat} {p : Addr} {s : Slot} {o : Option V} (h : ownAt (env.set i s) (σ.set i o) j p) : (j ≠ i ∧ ownAt env σ j p) ∨ (j = i ∧ ∃ ds, s = .ow ds ∧ o = some (.ref p)) := by
  obtain ⟨ds, h1, h2⟩ := h
  by_cases e : i = j
  · subst e
    rw [List.getElem?_set] at h1 h2
    rw [if_pos rfl] at h1 h2
    split at h1
    · cases h1
      split at h2
      · cases h2; exact .inr ⟨rfl, ds, rfl, rfl⟩
      · cases h2
    · cases h1
  · rw [List.getElem?_set, if_neg e] at h1 h2
    exact .inl ⟨fun z => e z.symm, ds, h1, h2⟩
theorem RlG.setSh {i : Nat} {v : V} {d : PyData} (R : RlG F B0 H0 B σ H env rs) (r : Rep B H v d) : RlG F B0 H0 B (σ.set i (some v)) H (env.set i (.sh d)) rs where
  len := by rw [List.length_set, List.length_set]; exact R.len
  sl := fun j s e => by
    rw [List.getElem?_set] at e ⊢
    by_cases h : i = j
    · rw [if_pos h] at e ⊢
      split at e
      · rename_i hl
        cases e
        rw [if_pos (by rw [← R.len]; exact hl)]
        exact ⟨v, rfl, r⟩
      · cases e
    · rw [if_neg h] at e ⊢
      exact R.sl j s e
  dj := fun a b p h1 h2 => by
    rcases own_set h1 with ⟨_, h1⟩ | ⟨_, ds, z, _⟩
    · rcases own_set h2 with ⟨_, h2⟩ | ⟨_, ds, z, _⟩
      · exact R.dj a b p h1 h2
      · cases z
    · cases z
  fr := fun a p h => by
    rcases own_set h with ⟨_, h⟩ | ⟨_, ds, z, _⟩
    · exact R.fr a p h
    · cases z
  b0 := R.b0
  br := R.br
  w0 := R.w0
  ext := R.ext
  wd := R.wd
  inB := fun q h => by
    rcases h with h | ⟨a, h⟩
    · exact R.inB q (.inl h)
    · rcases own_set h with ⟨_, h⟩ | ⟨_, ds, z, _⟩
      · exact R.inB q (.inr ⟨a, h⟩)
      · cases z
theorem RlG.setOw {i : Nat} {p : Addr} {xs : List V} {ds : List PyData} (R : RlG F B0 H0 B σ H env rs) (hp : H p = some (.lst xs)) (r : RepL B H xs ds) (hb : B p) (h0 : H0 p = none) (hn : ∀ j, j ≠ i → ¬ ownAt env σ j p) : RlG F B0 H0 B (σ.set i (some (.ref p))) H (env.set i (.ow ds)) rs where
  len := by rw [List.length_set, List.length_set]; exact R.len
  sl := fun j s e => by
    rw [List.getElem?_set] at e ⊢
    by_cases h : i = j
    · rw [if_pos h] at e ⊢
      split at e
      · rename_i hl
        cases e
        rw [if_pos (by rw [← R.len]; exact hl)]
        refine ⟨p, xs, rfl, fun z => ?_, hp, r⟩
        obtain ⟨o, e⟩ := R.b0 _ R.br
        rw [← z, h0] at e; cases e
      · cases e
    · rw [if_neg h] at e ⊢
      exact R.sl j s e
  dj := fun a b q h1 h2 => by
    rcases own_set h1 with ⟨n1, h1⟩ | ⟨n1, ds, _, z⟩
    · rcases own_set h2 with ⟨_, h2⟩ | ⟨_, ds, _, z⟩
      · exact R.dj a b q h1 h2
      · cases z; exact absurd h1 (hn a n1)
    · rcases own_set h2 with ⟨n2, h2⟩ | ⟨n2, ds, _, z2⟩
      · cases z; exact absurd h2 (hn b n2)
      · rw [n1, n2]
  fr := fun a q h => by
    rcases own_set h with ⟨_, h⟩ | ⟨_, ds, _, z⟩
    · exact R.fr a q h
    · cases z; exact h0
  b0 := R.b0
  br := R.br
  w0 := R.w0
  ext := R.ext
  wd := R.wd
  inB := fun q h => by
    rcases h with h | ⟨a, h⟩
    · exact R.inB q (.inl h)
    · rcases own_set h with ⟨_, h⟩ | ⟨_, ds, _, z⟩
      · exact R.inB q (.inr ⟨a, h⟩)
      · cases z; exact hb
theorem RlG.setAll : ∀ {is : List Nat} {vs : List V} {l : List PyData} {σ : L2.St} {env env' : List Slot}, RlG F B0 H0 B σ H env rs → RepL B H vs l → setAll env is l = some env' → RlG F B0 H0 B (setσ σ is vs) H env' rs
  | [], _, [], _, _, _, R, .nil, e => by cases e; exact R
  | i :: is, _, _ :: _, _, _, _, R, .cons a r, e => by have z := RlG.setAll (is := is) (R.setSh (i := i) a) r e; exact z
  | [], _, _ :: _, _, _, _, _, _, e => by cases e
  | _ :: _, _, [], _, _, _, _, _, e => by cases e
theorem RlG.bind {t : Tg} {d : PyData} {σ' : L2.St} {env' : List Slot} (R : RlG F B0 H0 B σ H env rs) (b : BindR B H σ t d σ') (e : bindT env t d = some env') : RlG F B0 H0 B σ' H env' rs := by
  cases b with
  | nm r => cases e; exact R.setSh r
  | tp r hl => exact R.setAll r e
/-- an own list is handed on, and stays as it is -/
theorem Rl.thaw1 {i : Nat} {l : List PyData} (R : Rl F B0 H0 σ H env rs) (h : env[i]? = some (.ow l)) : Rl F B0 H0 σ H (env.set i (.sh (.list l))) rs := by
  obtain ⟨p, xs, h1, hn, h2, h3⟩ := R.sl i _ h
  have hσ : σ = σ.set i (some (.ref p)) := by
    obtain ⟨hl, e⟩ := List.getElem?_eq_some_iff.mp h1
    rw [← e]; exact (List.set_getElem_self hl).symm
  have sub : ∀ q, Bn B0 (env.set i (.sh (.list l))) σ q → Bn B0 env σ q := fun q z => by
    rcases z with z | ⟨j, z⟩
    · exact .inl z
    · rw [hσ] at z
      rcases own_set z with ⟨_, z⟩ | ⟨_, ds, z, _⟩
      · exact .inr ⟨j, z⟩
      · cases z
  have notp : ¬ Bn B0 (env.set i (.sh (.list l))) σ p := fun z => by
    rcases z with z | ⟨j, z⟩
    · obtain ⟨o, e⟩ := R.b0 p z
      rw [R.fr i p ⟨l, h, h1⟩] at e; cases e
    · rw [hσ] at z
      rcases own_set z with ⟨n, z⟩ | ⟨_, ds, z, _⟩
      · exact n (R.dj j i p z ⟨l, h, h1⟩)
      · cases z
  refine ⟨by rw [List.length_set]; exact R.len, fun j s e => ?_, fun a b q z1 z2 => ?_, fun a q z => ?_, R.b0, R.br, R.w0, R.ext, R.wd⟩
  · rw [List.getElem?_set] at e
    by_cases hij : i = j
    · rw [if_pos hij] at e
      split at e
      · cases e
        subst hij
        exact ⟨.ref p, h1, .lst notp h2 (h3.sub sub)⟩
      · cases e
    · rw [if_neg hij] at e
      exact (R.sl j s e).sub sub
  · rw [hσ] at z1 z2
    rcases own_set z1 with ⟨_, z1⟩ | ⟨_, ds, z, _⟩
    · rcases own_set z2 with ⟨_, z2⟩ | ⟨_, ds, z, _⟩
      · exact R.dj a b q z1 z2
      · cases z
    · cases z
  · rw [hσ] at z
    rcases own_set z with ⟨_, z⟩ | ⟨_, ds, z, _⟩
    · exact R.fr a q z
    · cases z
theorem Rl.thaw1_sub {i : Nat} {l : List PyData} (R : Rl F B0 H0 σ H env rs) (h : env[i]? = some (.ow l)) : ∀ q, Bn B0 (env.set i (.sh (.list l))) σ q → Bn B0 env σ q := fun q z => by
  obtain ⟨p, xs, h1, hn, h2, h3⟩ := R.sl i _ h
  have hσ : σ = σ.set i (some (.ref p)) := by
    obtain ⟨hl, e⟩ := List.getElem?_eq_some_iff.mp h1
    rw [← e]; exact (List.set_getElem_self hl).symm
  rcases z with z | ⟨j, z⟩
  · exact .inl z
  · rw [hσ] at z
    rcases own_set z with ⟨_, z⟩ | ⟨_, ds, z, _⟩
    · exact .inr ⟨j, z⟩
    · cases z
theorem Rl.thaw : ∀ (fz : List Nat), Rl F B0 H0 σ H env rs → Rl F B0 H0 σ H (thaw env fz) rs ∧ ∀ q, Bn B0 (thaw env fz) σ q → Bn B0 env σ q
  | [], R => ⟨R, fun _ z => z⟩
  | i :: fz, R => by
    obtain ⟨R', k⟩ := Rl.thaw fz R
    show Rl F B0 H0 σ H (match (Cd.thaw env fz)[i]? with | some (.ow l) => (Cd.thaw env fz).set i (.sh (.list l)) | _ => Cd.thaw env fz) rs ∧ ∀ q, Bn B0 (match (Cd.thaw env fz)[i]? with | some (.ow l) => (Cd.thaw env fz).set i (.sh (.list l)) | _ => Cd.thaw env fz) σ q → _
    split
    · rename_i l hl
      exact ⟨R'.thaw1 hl, fun q z => k q (R'.thaw1_sub hl q z)⟩
    · exact ⟨R', k⟩
/-! ### what a statement changes -/
/-- B, H before; B', H' after -/
def St (F : Fx) (B : Addr → Prop) (H : Hp) (B' : Addr → Prop) (H' : Hp) : Prop := (∀ q o, ¬ B q → q ∉ F.tabs → H q = some o → H' q = some o) ∧ ∀ q, B' q → B q ∨ H q = none
theorem St.trans {B' B'' : Addr → Prop} {H'' : Hp} (a : St F B H B' H') (b : St F B' H' B'' H'') (ht : ∀ p ∈ F.tabs, ∃ o, H' p = some o) : St F B H B'' H'' := by
  refine ⟨fun q o h1 h2 h => b.1 q o (fun z => (a.2 q z).elim h1 fun z => by rw [z] at h; cases h) h2 (a.1 q o h1 h2 h), fun q z => ?_⟩
  rcases b.2 q z with z | z
  · exact a.2 q z
  · cases hq : H q with
    | none => exact .inr rfl
    | some o =>
      by_cases h1 : B q
      · exact .inl h1
      · by_cases h2 : q ∈ F.tabs
        · obtain ⟨o2, e⟩ := ht q h2
          rw [z] at e; cases e
        · rw [a.1 q o h1 h2 hq] at z; cases z
theorem St.ofExt {B' : Addr → Prop} (hr : B F.r) (e : Ext F H H') (h : ∀ q, B' q → B q ∨ H q = none) : St F B H B' H' := ⟨fun q o h1 h2 hq => e q o hq (fun z => h1 (z ▸ hr)) h2, h⟩
theorem Wd.tabs (w : Wd F H rs) : ∀ p ∈ F.tabs, ∃ o, H p = some o := fun p hp => let ⟨ps, h, _⟩ := w.tab p hp; ⟨_, h⟩
/-- who is told the outcome goes on -/
def Dn (F : Fx) (B0 : Addr → Prop) (H0 : Hp) (B : Addr → Prop) (H : Hp) (D : Ends) (o : Out) (rs' : RS) : Prop := match o with
  | .nx env' => ∀ σ' H', Rl F B0 H0 σ' H' env' rs' → St F B H (Bn B0 env' σ') H' → D.nx σ' H'
  | .bk env' => ∀ σ' H', Rl F B0 H0 σ' H' env' rs' → St F B H (Bn B0 env' σ') H' → D.bk σ' H'
  | .ct env' => ∀ σ' H', Rl F B0 H0 σ' H' env' rs' → St F B H (Bn B0 env' σ') H' → D.ct σ' H'
  | .rt d => ∀ v H', Ext F H0 H' → Wd F H' rs' → Rep B0 H' v d → D.rt v H'
theorem Dn.mono {B' : Addr → Prop} {D : Ends} {o : Out} (h : Dn F B0 H0 B H D o rs') (s : St F B H B' H') (ht : ∀ p ∈ F.tabs, ∃ o, H' p = some o) : Dn F B0 H0 B' H' D o rs' := by
  cases o with
  | nx e => exact fun σ' H2 R s2 => h σ' H2 R (s.trans s2 ht)
  | bk e => exact fun σ' H2 R s2 => h σ' H2 R (s.trans s2 ht)
  | ct e => exact fun σ' H2 R s2 => h σ' H2 R (s.trans s2 ht)
  | rt d => exact h
end
/-- a statement's reading -/
def tS (F : Fx) (n : Nat) (ir : S) : TS := fun D σ H => ∃ B0 H0 env rs o rs', Rl F B0 H0 σ H env rs ∧ exS F.ns (cal F.T F.ns n) ir env rs = some (o, rs') ∧ Dn F B0 H0 (Bn B0 env σ) H D o rs'
def tSs (F : Fx) (n : Nat) (ir : SL) : TS := fun D σ H => ∃ B0 H0 env rs o rs', Rl F B0 H0 σ H env rs ∧ exL F.ns (cal F.T F.ns n) ir env rs = some (o, rs') ∧ Dn F B0 H0 (Bn B0 env σ) H D o rs'
structure Sok (F : Fx) (n g : Nat) (X : Cx) : Prop extends Cok F n g X where
  kd : X.env.scope.kind = .function
  fn : ∀ x, X.fn x = true
  xe : X.xe = fun _ _ => False
theorem Sok.pass {F : Fx} {n g : Nat} {X : Cx} (C : Sok F n g X) : PassesOwn (model X.prog X.w) X.A X.env X.xe := fun e s h => by rw [C.xe] at h; exact h.elim
section
variable {F : Fx} {n g : Nat} {X : Cx}
/-- a value comes to stand in a slot -/
theorem store_one {B0 : Addr → Prop} {H0 : Hp} {σ : L2.St} {H H' : Hp} {env : List Slot} {rs rs' : RS} {i : Nat} {e : E} {v : V} {d : PyData} (R : Rl F B0 H0 σ H env rs) (ee : Ext F H H') (w : Wd F H' rs') (r : Rep (Bn B0 env σ) H' v d) (f : isFr e = true → Frs (Bn B0 env σ) H v H' d) :
    Rl F B0 H0 (σ.set i (some v)) H' (setFr env i e d) rs' ∧ St F (Bn B0 env σ) H (Bn B0 (setFr env i e d) (σ.set i (some v))) H' := by
  have sh : setFr env i e d = env.set i (.sh d) → (Rl F B0 H0 (σ.set i (some v)) H' (setFr env i e d) rs' ∧ St F (Bn B0 env σ) H (Bn B0 (setFr env i e d) (σ.set i (some v))) H') := fun h => by
    have G := (R.up ee w (fun _ z => z) fun _ z => .inl z).setSh (i := i) r
    rw [h]
    exact ⟨G.rl, St.ofExt R.bn ee fun q z => .inl (G.inB q z)⟩
  by_cases hf : isFr e = true
  · cases d with
    | list l =>
      have h : setFr env i e (.list l) = env.set i (.ow l) := by unfold setFr mkS; rw [hf]
      obtain ⟨p, xs, rfl, hp, hp', rr⟩ := f hf l rfl
      have G := (R.up (B' := fun q => Bn B0 env σ q ∨ q = p) ee w (fun _ z => .inl z) fun q z => z.elim .inl fun z => .inr (z ▸ hp)).setOw (i := i) hp' rr (.inr rfl) (noneBack R.ext R.wd hp) fun j _ z => by
        obtain ⟨o, e⟩ := R.bt (.inr ⟨j, z⟩)
        rw [hp] at e; cases e
      rw [h]
      exact ⟨G.rl, St.ofExt R.bn ee fun q z => (G.inB q z).elim .inl fun z => .inr (z ▸ hp)⟩
    | _ => exact sh (by unfold setFr mkS; rw [hf])
  · have hf' : isFr e = false := by simpa using hf
    exact sh (by unfold setFr mkS; rw [hf'])
theorem set_go {i : Nat} {e : E} {D : Ends} {σ : L2.St} {H : Hp} (h : tS F n (.set i e) D σ H) : tAsg (tE F n (isFr e) e) (gName i) D σ H := by
  obtain ⟨B0, H0, env, rs, o, rs', R, ev, q⟩ := h
  simp only [exS] at ev
  obtain ⟨d, rs1, h1, ev⟩ := bdS ev
  cases ev
  refine ⟨_, env, rs, d, _, R.re, h1, fun v H' ee w r f => ?_⟩
  obtain ⟨R', s⟩ := store_one (i := i) (e := e) R ee w r f
  exact q _ _ R' s
/-- an own list is changed in place -/
theorem Rl.mutOw {B0 : Addr → Prop} {H0 : Hp} {σ : L2.St} {H H' : Hp} {env : List Slot} {rs rs' : RS} {i : Nat} {l ds : List PyData} {p : Addr} {ys : List V} (R : Rl F B0 H0 σ H env rs) (ee : Ext F H H') (w : Wd F H' rs') (hi : env[i]? = some (.ow l)) (hp : σ[i]? = some (some (.ref p))) (rr : RepL (Bn B0 env σ) H' ys ds) :
    Rl F B0 H0 σ (upd H' p (.lst ys)) (env.set i (.ow ds)) rs' ∧ St F (Bn B0 env σ) H (Bn B0 (env.set i (.ow ds)) σ) (upd H' p (.lst ys)) := by
  have R' := R.next ee w
  have own : ownAt env σ i p := ⟨l, hi, hp⟩
  have hb : Bn B0 env σ p := .inr ⟨i, own⟩
  have hσ : σ = σ.set i (some (.ref p)) := by
    obtain ⟨hl, e⟩ := List.getElem?_eq_some_iff.mp hp
    rw [← e]; exact (List.set_getElem_self hl).symm
  have sub : ∀ j q, ownAt (env.set i (.ow ds)) σ j q → ownAt env σ j q := fun j q z => by
    rw [hσ] at z
    rcases own_set z with ⟨_, z⟩ | ⟨rfl, _, _, z⟩
    · exact z
    · cases z; exact own
  have subB : ∀ q, Bn B0 (env.set i (.ow ds)) σ q → Bn B0 env σ q := fun q z => z.elim .inl fun ⟨j, z⟩ => .inr ⟨j, sub j q z⟩
  have ml : ∀ q xs, ¬ Bn B0 env σ q → H' q = some (.lst xs) → ¬ Bn B0 (env.set i (.ow ds)) σ q ∧ (upd H' p (.lst ys)) q = some (.lst xs) := fun q xs b h => ⟨fun z => b (subB q z), (upd_ne (show q ≠ p from fun z => b (z ▸ hb))).trans h⟩
  have mt : ∀ q xs, ¬ Bn B0 env σ q → H' q = some (.tup xs) → ¬ Bn B0 (env.set i (.ow ds)) σ q ∧ (upd H' p (.lst ys)) q = some (.tup xs) := fun q xs b h => ⟨fun z => b (subB q z), (upd_ne (show q ≠ p from fun z => b (z ▸ hb))).trans h⟩
  obtain ⟨r0, w0⟩ := R.w0
  have h0 := R.fr i p own
  refine ⟨⟨by rw [List.length_set]; exact R.len, fun j s e => ?_, fun a b q z1 z2 => R.dj a b q (sub a q z1) (sub b q z2), fun a q z => R.fr a q (sub a q z), R.b0, R.br, ⟨r0, w0⟩, Ext.upd h0 R'.ext, w0.upd h0 R'.ext w⟩, fun q o h1 h2 h => ?_, fun q z => .inl (subB q z)⟩
  · rw [List.getElem?_set] at e
    by_cases hij : i = j
    · rw [if_pos hij] at e
      split at e
      · cases e
        subst hij
        exact ⟨p, ys, hp, (R.ownT own).1, upd_same, rr.mono ml mt⟩
      · cases e
    · rw [if_neg hij] at e
      have h := R'.sl j s e
      cases s with
      | no => trivial
      | sh d => obtain ⟨v, h1, h2⟩ := h; exact ⟨v, h1, h2.mono ml mt⟩
      | ow ds2 =>
        obtain ⟨q, xs, h1, hn, h2, h3⟩ := h
        exact ⟨q, xs, h1, hn, (upd_ne (show q ≠ p from fun z => hij (R.dj i j p own (by rw [← z]; exact ⟨ds2, e, h1⟩)))).trans h2, h3.mono ml mt⟩
      | row => exact h
  · exact (upd_ne (show q ≠ p from fun z => h1 (z ▸ hb))).trans (ee q o h (fun z => h1 (z ▸ R.bn)) h2)
theorem s_app {i : Nat} {e : E} {x : Str} {y : Expr} {p apos cpos pos : Pos} (hN : X.N[i]? = some x) (hv : visB X.env.scope x = true) (hk : nmOk x = true) (hs : nst y = true) (hl : (apos.endLine == cpos.line) = true) (h : PE X y (tE F n false e)) :
    PS X (.Expr (.Call (.Attribute (.Name x p) "append" apos) [y] [] cpos) pos) (tS F n (.app i e)) := by
  have hz : PE X (.Call (.Attribute (.Name x p) "append" apos) [y] [] cpos) (tBM X.K "list" rAppend (tVar i) (tCons (tE F n false e) tNil)) :=
    pe_bm PySem.F.plainAttrs_list PySem.F.slot_list_append PySem.F.type_list_append mt_append (pe_var hN (vis_of hv) (nmOk1 hk).1 (nmOk1 hk).2) (pa_cons h pa_nil (star_nst hs)) rfl (by rw [star_nst hs]; rfl) hl (star_nst hs) rfl
  refine (ps_expr hz).weak fun D σ H ⟨B0, H0, env, rs, o, rs', R, ev, q⟩ => ?_
  simp only [exS] at ev
  obtain ⟨d, rs1, h1, ev⟩ := bdS ev
  generalize hi : env[i]? = w at ev
  split at ev
  · rename_i l
    split at ev
    · rename_i hlen
      cases ev
      obtain ⟨P, xs, g1, hn, g2, g3⟩ := R.sl i _ hi
      refine ⟨_, g1, .inl ⟨rfl, _, .of g2⟩, _, env, rs, d, _, R.re, h1, fun v H' ee w r _ => ?_⟩
      have own := R.ownT ⟨l, hi, g1⟩
      have g2' := ee P _ g2 own.1 own.2
      have g3' := g3.ext R.bn R.wd ee
      obtain ⟨R', s⟩ := R.mutOw ee w hi g1 (g3'.app (.cons r .nil))
      exact ⟨P, xs, v, rfl, rfl, g2', by rw [g3.length, sizeLine_eq]; unfold LB at hlen; omega, q _ _ R' s⟩
    · cases ev
  · cases ev
theorem ixN_nat {m : Nat} {j : Int} (h : 0 ≤ j ∧ j < m) : ixN m j = some j.toNat := by
  unfold ixN
  rw [if_pos h.1, if_pos h.2]
theorem sole_sub {a b e : Expr} {p : Pos} {l : Nat} {env : Env} : swapsWithSole [.Subscript a b p] e l env = pure false := by cases e <;> rfl
theorem stores_sub {a b e : Expr} {p : Pos} {env : Env} : swappedStores [.Subscript a b p] e env = pure none := by cases e <;> rfl
theorem s_put {i : Nat} {k e : E} {x : Str} {y z : Expr} {p tpos pos : Pos} (hN : X.N[i]? = some x) (hv : visB X.env.scope x = true) (hk : nmOk x = true) (hs : nSl z = true) (h : PE X y (tE F n false e)) (h2 : PE X z (tE F n false k)) :
    PS X (.Assign [.Subscript (.Name x p) z tpos] y pos) (tS F n (.put i k e)) := by
  refine (ps_asg h (pg_sub (pe_var hN (vis_of hv) (nmOk1 hk).1 (nmOk1 hk).2) h2 set_list (by intro v; cases z <;> first | rfl | cases hs)) sole_sub stores_sub rfl).weak fun D σ H ⟨B0, H0, env, rs, o, rs', R, ev, q⟩ => ?_
  simp only [exS] at ev
  obtain ⟨d, rs1, h1, ev⟩ := bdS ev
  obtain ⟨kk, rs2, h2, ev⟩ := bdS ev
  generalize hi : env[i]? = w at ev
  split at ev
  · rename_i l j
    split at ev
    · rename_i hlen
      cases ev
      obtain ⟨P, xs, g1, hn, g2, g3⟩ := R.sl i _ hi
      refine ⟨_, env, rs, d, rs1, R.re, h1, fun v H1 e1 w1 r1 _ => ⟨_, g1, _, env, rs1, _, _, (R.next e1 w1).re, h2, fun u H2 e2 w2 r2 _ => ?_⟩⟩
      have own := R.ownT ⟨l, hi, g1⟩
      have ee := e1.trans e2
      have g2' := ee P _ g2 own.1 own.2
      have g3' := g3.ext R.bn R.wd ee
      obtain ⟨R', s⟩ := R.mutOw ee w2 hi g1 (RepL.set (r1.ext R.bn w1 e2) j.toNat g3')
      exact ⟨P, xs, j, j.toNat, rfl, r2.intE, g2', ixN_nat (by rw [g3.length]; exact hlen), q _ _ R' s⟩
    · cases ev
  · cases ev
theorem s_ret {e : E} {y : Expr} {pos : Pos} (h : PE X y (tE F n false e)) : PS X (.Return (some y) pos) (tS F n (.ret e)) :=
  (ps_ret h).weak fun D σ H ⟨B0, H0, env, rs, o, rs', R, ev, q⟩ => by
    simp only [exS] at ev
    obtain ⟨d, rs1, h1, ev⟩ := bdS ev
    cases ev
    exact ⟨_, env, rs, d, _, R.re, h1, fun v H' ee w r _ => q v H' (R.ext.trans ee) w (r.sub fun _ z => .inl z)⟩
theorem s_retN {pos : Pos} : PS X (.Return none pos) (tS F n .retN) :=
  ps_retN.weak fun D σ H ⟨B0, H0, env, rs, o, rs', R, ev, q⟩ => by
    simp only [exS] at ev
    cases ev
    exact q .non H R.ext R.wd .non
def nLc : Expr → Bool
  | .ListComp .. => false | .SetComp .. => false | .DictComp .. => false
  | _ => true
theorem sw_nLc {e : Expr} {t : Option Expr} {l : Nat} {env : Env} (h : nLc e = true) : swapsWith e t l env = pure false := by
  cases e <;> first | rfl | cases h
theorem s_drop {e : E} {y : Expr} {pos : Pos} (h : PE X y (tE F n false e)) (hn : nLc y = true) : PS X (.Expr y pos) (tS F n (.drop e)) :=
  (ps_expr h (sw_nLc hn)).weak fun D σ H ⟨B0, H0, env, rs, o, rs', R, ev, q⟩ => by
    simp only [exS] at ev
    obtain ⟨d, rs1, h1, ev⟩ := bdS ev
    cases ev
    exact ⟨_, env, rs, d, _, R.re, h1, fun v H' ee w r _ => q _ _ (R.next ee w) (St.ofExt R.bn ee fun _ z => .inl z)⟩
theorem next_go {D : Ends} {σ : L2.St} {H : Hp} (h : tS F n .pass D σ H) : tNext D σ H := by
  obtain ⟨B0, H0, env, rs, o, rs', R, ev, q⟩ := h
  simp only [exS] at ev
  cases ev
  exact q _ _ R (St.ofExt R.bn .refl fun _ z => .inl z)
theorem s_brk {pos : Pos} : PS X (.Break pos) (tS F n .brk) :=
  ps_break.weak fun D σ H ⟨B0, H0, env, rs, o, rs', R, ev, q⟩ => by
    simp only [exS] at ev
    cases ev
    exact q _ _ R (St.ofExt R.bn .refl fun _ z => .inl z)
theorem s_cnt {pos : Pos} : PS X (.Continue pos) (tS F n .cnt) :=
  ps_continue.weak fun D σ H ⟨B0, H0, env, rs, o, rs', R, ev, q⟩ => by
    simp only [exS] at ev
    cases ev
    exact q _ _ R (St.ofExt R.bn .refl fun _ z => .inl z)
theorem s_ite {c : E} {a b : SL} {z : Expr} {x y : List Stmt} {pos : Pos} (hc : PT X z (tT F n c)) (ha : PSs X x (tSs F n a)) (hb : PSs X y (tSs F n b)) : PS X (.If z x y pos) (tS F n (.ite c a b)) :=
  (ps_if hc ha hb).weak fun D σ H ⟨B0, H0, env, rs, o, rs', R, ev, q⟩ => by
    simp only [exS] at ev
    obtain ⟨t, rs1, h1, ev⟩ := bdS ev
    refine ⟨_, env, rs, t, rs1, R.re, h1, fun H1 e1 w1 => ?_⟩
    have q' := q.mono (St.ofExt (B' := Bn B0 env σ) R.bn e1 fun _ z => .inl z) w1.tabs
    cases t with
    | true => exact ⟨B0, H0, env, rs1, o, rs', R.next e1 w1, ev, q'⟩
    | false => exact ⟨B0, H0, env, rs1, o, rs', R.next e1 w1, ev, q'⟩
theorem ss_nil : PSs X [] (tSs F n .nil) :=
  pss_nil.weak fun D σ H ⟨B0, H0, env, rs, o, rs', R, ev, q⟩ => by
    simp only [exL] at ev
    cases ev
    exact q _ _ R (St.ofExt R.bn .refl fun _ z => .inl z)
theorem ss_cons {fz : List Nat} {s : S} {r : SL} {x : Stmt} {xs : List Stmt} (h : PS X x (tS F n s)) (hr : PSs X xs (tSs F n r)) : PSs X (x :: xs) (tSs F n (.cons fz s r)) :=
  (pss_cons h hr).weak fun D σ H ⟨B0, H0, env, rs, o, rs', R, ev, q⟩ => by
    simp only [exL] at ev
    obtain ⟨o1, rs1, h1, ev⟩ := bdS ev
    obtain ⟨Rt, sub⟩ := R.thaw fz
    have st0 : St F (Bn B0 env σ) H (Bn B0 (Cd.thaw env fz) σ) H := ⟨fun _ _ _ _ h => h, fun q z => .inl (sub q z)⟩
    refine ⟨B0, H0, Cd.thaw env fz, rs, o1, rs1, Rt, h1, ?_⟩
    cases o1 with
    | nx env1 => exact fun σ' H' R' s => ⟨B0, H0, env1, rs1, o, rs', R', ev, q.mono (st0.trans s R.wd.tabs) R'.wd.tabs⟩
    | bk e => cases ev; exact q.mono st0 R.wd.tabs
    | ct e => cases ev; exact q.mono st0 R.wd.tabs
    | rt d => cases ev; exact q
theorem s_fr {t : Tg} {it : It} {b : SL} {tg iter : Expr} {body : List Stmt} {pos : Pos} (C : Sok F n g X) (hi : PI X tg iter (tI F n it)) (hg : PG X tg (tB t)) (hb : PSs X body (tSs F n b)) (hs : nSet iter = true) : PS X (.For tg iter body [] pos) (tS F n (.fr t it b)) :=
  (ps_for C.pass C.calm hi hg hb (fold_nSet hs)).weak fun D σ H ⟨B0, H0, env, rs, o, rs', R, ev, q⟩ => by
    simp only [exS] at ev
    split at ev
    · cases ev
    · rename_i hfr
      have hfr' : frOk env it = true := by simpa using hfr
      obtain ⟨l, rs1, h1, ev⟩ := bdS ev
      refine ⟨_, env, rs, l, rs1, R.re, h1, fun J H1 e1 w1 _ jok => ?_⟩
      have jok := jok hfr'
      have R1 := R.next e1 w1
      have q1 := q.mono (St.ofExt (B' := Bn B0 env σ) R.bn e1 fun _ z => .inl z) w1.tabs
      refine ⟨fun i m σi Hi => m = l.length - i ∧ i ≤ l.length ∧ ∃ envi rsi, Rl F B0 H0 σi Hi envi rsi ∧ St F (Bn B0 env σ) H1 (Bn B0 envi σi) Hi ∧ frL (fun env x => match bindT env t x with | some env' => exL F.ns (cal F.T F.ns n) b env' | none => M.no) envi (l.drop i) rsi = some (o, rs'), ⟨l.length, rfl, Nat.zero_le _, env, rs1, R1, ⟨fun _ _ _ _ h => h, fun _ z => .inl z⟩, ev⟩, ?_⟩
      rintro i m σi Hi ⟨rfl, hil, envi, rsi, Ri, si, hm⟩
      obtain ⟨js, jg⟩ := jok Hi si.1 i
      have qi := q1.mono si Ri.wd.tabs
      by_cases hlt : l.length ≤ i
      · refine .inl ⟨js hlt, ?_⟩
        rw [List.drop_eq_nil_of_le hlt] at hm
        have hm' : some (Out.nx envi, rsi) = some (o, rs') := hm
        cases hm'
        exact qi _ _ Ri ⟨fun _ _ _ _ h => h, fun _ z => .inl z⟩
      · have hlt' : i < l.length := by omega
        have hx := List.getElem?_eq_getElem hlt'
        generalize l[i] = x at hx
        obtain ⟨jgo, jy⟩ := jg x hx
        refine .inr ⟨jgo, fun σ' H' => ∃ m', m' < l.length - i ∧ m' = l.length - (i + 1) ∧ i + 1 ≤ l.length ∧ ∃ envi rsi, Rl F B0 H0 σ' H' envi rsi ∧ St F (Bn B0 env σ) H1 (Bn B0 envi σ') H' ∧ frL (fun env x => match bindT env t x with | some env' => exL F.ns (cal F.T F.ns n) b env' | none => M.no) envi (l.drop (i + 1)) rsi = some (o, rs'), fun σ' H' ⟨m', a, b⟩ => ⟨m', a, b⟩, fun v H2 hy => ?_⟩
        obtain ⟨sm, rp⟩ := jy v H2 hy
        have rv := rp (Bn B0 envi σi) (fun p hp => Ri.fresh hp) si.2
        rw [drop_cons hx] at hm
        simp only [frL] at hm
        obtain ⟨o1, r1, hf, hm⟩ := bdS hm
        generalize hbt : bindT envi t x = w at hf
        split at hf
        · rename_i env'
          have R2 := Ri.next sm.ext (Ri.wd.same sm)
          refine ⟨_, x, rv, bindT_len hbt, fun σ2 hb2 => ?_⟩
          have R3 := R2.g.bind hb2 hbt
          have s3 : St F (Bn B0 env σ) H1 (Bn B0 env' σ2) H2 := si.trans (B' := Bn B0 envi σi) (St.ofExt Ri.bn sm.ext fun q z => .inl (R3.inB q z)) Ri.wd.tabs
          have q3 := q1.mono s3 R2.wd.tabs
          refine ⟨B0, H0, env', rsi, o1, r1, R3.rl, hf, ?_⟩
          cases o1 with
          | nx e => exact fun σ' H' R' s => ⟨_, by omega, rfl, by omega, e, r1, R', s3.trans s R2.wd.tabs, hm⟩
          | ct e => exact fun σ' H' R' s => ⟨_, by omega, rfl, by omega, e, r1, R', s3.trans s R2.wd.tabs, hm⟩
          | bk e =>
            have hm' : some (Out.nx e, r1) = some (o, rs') := hm
            cases hm'
            exact fun σ' H' R' s => q3 σ' H' R' s
          | rt d =>
            have hm' : some (Out.rt d, r1) = some (o, rs') := hm
            cases hm'
            exact q3
        · cases hf
theorem s_wh {c : E} {b : SL} {z : Expr} {body : List Stmt} {pos : Pos} (C : Sok F n g X) (hc : PT X z (tT F n c)) (hb : PSs X body (tSs F n b)) : PS X (.While z body [] pos) (tS F n (.wh c b)) :=
  (ps_while C.pass hc hb).weak fun D σ H ⟨B0, H0, env, rs, o, rs', R, ev, q⟩ => by
    simp only [exS] at ev
    generalize 100000 = fuel at ev
    refine ⟨fun m σi Hi => ∃ envi rsi, Rl F B0 H0 σi Hi envi rsi ∧ St F (Bn B0 env σ) H (Bn B0 envi σi) Hi ∧ whL (fun env => evT F.ns (cal F.T F.ns n) c env) (fun env => exL F.ns (cal F.T F.ns n) b env) m envi rsi = some (o, rs'), ⟨fuel, env, rs, R, ⟨fun _ _ _ _ h => h, fun _ z => .inl z⟩, ev⟩, ?_⟩
    rintro m σi Hi ⟨envi, rsi, Ri, si, hm⟩
    cases m with
    | zero => cases hm
    | succ m =>
      simp only [whL] at hm
      obtain ⟨k, r1, h1, hm⟩ := bdS hm
      refine ⟨_, envi, rsi, k, r1, Ri.re, h1, fun H1 e1 w1 => ?_⟩
      have R1 := Ri.next e1 w1
      have s1 : St F (Bn B0 env σ) H (Bn B0 envi σi) H1 := si.trans (St.ofExt (B' := Bn B0 envi σi) Ri.bn e1 fun _ z => .inl z) Ri.wd.tabs
      have q1 := q.mono s1 w1.tabs
      cases k with
      | false =>
        have hm' : some (Out.nx envi, r1) = some (o, rs') := hm
        cases hm'
        exact q1 _ _ R1 ⟨fun _ _ _ _ h => h, fun _ z => .inl z⟩
      | true =>
        simp only [if_true] at hm
        obtain ⟨o1, r2, h2, hm⟩ := bdS hm
        refine ⟨fun σ' H' => ∃ m', m' < m + 1 ∧ ∃ envi rsi, Rl F B0 H0 σ' H' envi rsi ∧ St F (Bn B0 env σ) H (Bn B0 envi σ') H' ∧ whL (fun env => evT F.ns (cal F.T F.ns n) c env) (fun env => exL F.ns (cal F.T F.ns n) b env) m' envi rsi = some (o, rs'), fun σ' H' z => z, B0, H0, envi, r1, o1, r2, R1, h2, ?_⟩
        cases o1 with
        | nx e => exact fun σ' H' R' s => ⟨m, by omega, e, r2, R', s1.trans s w1.tabs, hm⟩
        | ct e => exact fun σ' H' R' s => ⟨m, by omega, e, r2, R', s1.trans s w1.tabs, hm⟩
        | bk e =>
          have hm' : some (Out.nx e, r2) = some (o, rs') := hm
          cases hm'
          exact fun σ' H' R' s => q1 σ' H' R' s
        | rt d =>
          have hm' : some (Out.rt d, r2) = some (o, rs') := hm
          cases hm'
          exact q1
end
end Cd
namespace Cd
open PySem PySem.Spec PyProof.Rows L2 GxR C8 GenW
/-! Several names at once; the checker of statements. -/
theorem RepL.up {F : Fx} {B B' : Addr → Prop} {H H' : Hp} {rs : RS} {vs : List V} {ds : List PyData} (hr : B F.r) (w : Wd F H rs) (e : Ext F H H') (hb : ∀ q, B' q → B q ∨ H q = none) (h : RepL B H vs ds) : RepL B' H' vs ds :=
  h.mono (fun q xs b h => ⟨fun z => (hb q z).elim b fun z => (by rw [z] at h; cases h), e q _ h (fun z => b (z ▸ hr)) (w.notTab (.inl h))⟩) fun q xs b h => ⟨fun z => (hb q z).elim b fun z => (by rw [z] at h; cases h), e q _ h (fun z => b (z ▸ hr)) (w.notTab (.inr h))⟩
theorem Rep.up {F : Fx} {B B' : Addr → Prop} {H H' : Hp} {rs : RS} {v : V} {d : PyData} (hr : B F.r) (w : Wd F H rs) (e : Ext F H H') (hb : ∀ q, B' q → B q ∨ H q = none) (h : Rep B H v d) : Rep B' H' v d :=
  h.mono (fun q xs b h => ⟨fun z => (hb q z).elim b fun z => (by rw [z] at h; cases h), e q _ h (fun z => b (z ▸ hr)) (w.notTab (.inl h))⟩) fun q xs b h => ⟨fun z => (hb q z).elim b fun z => (by rw [z] at h; cases h), e q _ h (fun z => b (z ▸ hr)) (w.notTab (.inr h))⟩
/-- values that are to be stored together; H: where each was begun -/
inductive ParR (B' : Addr → Prop) (H' : Hp) : Hp → EL → List V → List PyData → Prop
  | nil {H : Hp} : ParR B' H' H .nil [] []
  | sh {H H1 : Hp} {e : E} {r : EL} {v : V} {vs : List V} {d : PyData} {ds : List PyData} (a : Rep B' H' v d) (hf : mkS (isFr e) d = .sh d) (h : ∀ q, H1 q = none → H q = none) (t : ParR B' H' H1 r vs ds) : ParR B' H' H (.cons false e r) (v :: vs) (d :: ds)
  | ow {H H1 : Hp} {e : E} {r : EL} {p : Addr} {xs : List V} {l : List PyData} {vs : List V} {ds : List PyData} (hf : isFr e = true) (hp : H p = none) (hp1 : H1 p ≠ none) (hx : H' p = some (.lst xs)) (rr : RepL B' H' xs l) (hb : B' p) (h : ∀ q, H1 q = none → H q = none) (t : ParR B' H' H1 r vs ds) : ParR B' H' H (.cons false e r) (.ref p :: vs) (.list l :: ds)
theorem ParR.same {B' : Addr → Prop} {H' H2 : Hp} (s : Same H' H2) : ∀ {H : Hp} {es : EL} {vs : List V} {l : List PyData}, ParR B' H' H es vs l → ParR B' H2 H es vs l
  | _, _, _, _, .nil => .nil
  | _, _, _, _, .sh a hf h t => .sh (a.same s) hf h (t.same s)
  | _, _, _, _, .ow hf hp hp1 hx rr hb h t => .ow hf hp hp1 (s _ _ hx) (rr.same s) hb h (t.same s)
theorem ParR.len {B' : Addr → Prop} {H' : Hp} : ∀ {H : Hp} {es : EL} {vs : List V} {l : List PyData}, ParR B' H' H es vs l → vs.length = l.length
  | _, _, _, _, .nil => rfl
  | _, _, _, _, .sh _ _ _ t => congrArg (· + 1) t.len
  | _, _, _, _, .ow _ _ _ _ _ _ _ t => congrArg (· + 1) t.len
def tQ (F : Fx) (n : Nat) (es : EL) : TA := fun σ H Q => ∃ B env rs l rs', RE F B σ H env rs ∧ evL F.ns (cal F.T F.ns n) es env rs = some (l, rs') ∧
  ∀ vs H' B', Ext F H H' → Wd F H' rs' → (∀ q, B q → B' q) → (∀ q, B' q → B q ∨ H q = none) → ParR B' H' H es vs l → Q vs H'
section
variable {F : Fx} {n g : Nat} {X : Cx}
theorem q_nil : PA X [] (tQ F n .nil) :=
  pa_nil.weak fun σ H Q ⟨B, env, rs, d, rs', R, ev, q⟩ => by
    simp only [evL] at ev
    cases ev
    exact q _ _ B .refl R.wd (fun _ z => z) (fun _ z => .inl z) .nil
theorem q_cons {e : E} {r : EL} {x : Expr} {xs : List Expr} (ha : PE X x (tE F n (isFr e) e)) (hr : PA X xs (tQ F n r)) (hs : nst x = true) : PA X (x :: xs) (tQ F n (.cons false e r)) :=
  (pa_cons ha hr (star_nst hs)).weak fun σ H Q ⟨B, env, rs, d, rs', R, ev, q⟩ => by
    simp only [evL] at ev
    obtain ⟨y, rs1, h1, ev⟩ := bdS ev
    obtain ⟨l, rs2, h2, ev⟩ := bdS ev
    cases ev
    refine ⟨B, env, rs, y, rs1, R, h1, fun v H1 e1 w1 r1 f => ?_⟩
    have R1 := R.next e1 w1
    have sh : mkS (isFr e) y = .sh y → tQ F n r σ H1 fun vs H' => Q (v :: vs) H' := fun hm =>
      ⟨B, env, rs1, l, _, R1, h2, fun vs H2 B' e2 w2 s1 s2 p => q _ _ B' (e1.trans e2) w2 s1 (fun q z => (s2 q z).elim .inl fun z => .inr (noneBack e1 w1 z)) (.sh (r1.up R.br w1 e2 s2) hm (fun q z => noneBack e1 w1 z) p)⟩
    by_cases hf : isFr e = true
    · cases y with
      | list ds =>
        obtain ⟨p, ys, rfl, hp, hp1, rr⟩ := f hf ds rfl
        have R2 := R.add hp e1 w1 ⟨_, hp1⟩
        refine ⟨_, env, rs1, l, _, R2, h2, fun vs H2 B' e2 w2 s1 s2 pr => q _ _ B' (e1.trans e2) w2 (fun q z => s1 q (.inl z)) (fun q z => (s2 q z).elim (fun z => z.elim .inl fun z => .inr (z ▸ hp)) fun z => .inr (noneBack e1 w1 z)) (.ow hf hp (by rw [hp1]; exact nofun) (e2 p _ hp1 (fun z => ?_) (w1.notTab (.inl hp1))) (rr.up R2.br w1 e2 s2) (s1 p (.inr rfl)) (fun q z => noneBack e1 w1 z) pr)⟩
        have := R.wd.row; rw [← z, hp] at this; cases this
      | _ => exact sh (by rw [hf]; rfl)
    · have hf' : isFr e = false := by simpa using hf
      exact sh (by rw [hf']; rfl)
theorem RlG.par {B0 B' : Addr → Prop} {H0 H' : Hp} {rs : RS} {env' : List Slot} {is : List Nat} : ∀ {es : EL} {H : Hp} {vs : List V} {l : List PyData} {σ : L2.St} {env : List Slot}, RlG F B0 H0 B' σ H' env rs → ParR B' H' H es vs l → (∀ i p, ownAt env σ i p → H p ≠ none) → (∀ q, H q = none → H0 q = none) → setPar env is es l = some env' → RlG F B0 H0 B' (setσ σ is vs) H' env' rs := by
  induction is with
  | nil =>
    intro es H vs l σ env R pr ho h0 e
    cases pr with
    | nil => cases e; exact R
    | sh => cases e
    | ow => cases e
  | cons i is ih =>
    intro es H vs l σ env R pr ho h0 e
    cases pr with
    | nil => cases e
    | @sh _ H1 ir r v vs d ds a hf h t =>
      have e' : setPar (setFr env i ir d) is r ds = some env' := e
      have hs : setFr env i ir d = env.set i (.sh d) := by unfold setFr; rw [hf]
      rw [hs] at e'
      refine ih (R.setSh (i := i) a) t (fun j p z w => ?_) (fun q z => h0 q (h q z)) e'
      rcases own_set z with ⟨_, z⟩ | ⟨_, ds, z, _⟩
      · exact ho j p z (h p w)
      · cases z
    | @ow _ H1 ir r p xs l vs ds hf hp hp1 hx rr hb h t =>
      have e' : setPar (setFr env i ir (.list l)) is r ds = some env' := e
      have hs : setFr env i ir (.list l) = env.set i (.ow l) := by unfold setFr mkS; rw [hf]
      rw [hs] at e'
      refine ih (R.setOw (i := i) hx rr hb (h0 p hp) fun j _ z => ho j p z hp) t (fun j p' z w => ?_) (fun q z => h0 q (h q z)) e'
      rcases own_set z with ⟨_, z⟩ | ⟨_, ds, _, z⟩
      · exact ho j p' z (h p' w)
      · cases z; exact hp1 w
theorem setPar_len : ∀ {is : List Nat} {es : EL} {l : List PyData} {env env' : List Slot}, setPar env is es l = some env' → is.length = l.length
  | [], .nil, [], _, _, _ => rfl
  | i :: is, .cons false _ r, _ :: l, _, _, e => congrArg (· + 1) (setPar_len (is := is) (es := r) (l := l) e)
  | [], .nil, _ :: _, _, _, e => by cases e
  | [], .cons .., _, _, _, e => by cases e
  | _ :: _, .nil, _, _, _, e => by cases e
  | _ :: _, .cons true .., _, _, _, e => by cases e
  | _ :: _, .cons false .., [], _, _, e => by cases e
theorem par_go {is : List Nat} {es : EL} {D : Ends} {σ : L2.St} {H : Hp} (hi : is.length < 10) (h : tS F n (.par is es) D σ H) : tQ F n es σ H fun vs H' => vs.length = is.length ∧ vs.length ≤ sizeLine ∧ ∀ H2, Same H' H2 → D.nx (setσ σ is vs) H2 := by
  obtain ⟨B0, H0, env, rs, o, rs', R, ev, q⟩ := h
  simp only [exS] at ev
  obtain ⟨l, rs1, h1, ev⟩ := bdS ev
  generalize hp : setPar env is es l = w at ev
  split at ev
  · rename_i env'
    cases ev
    refine ⟨_, env, rs, l, _, R.re, h1, fun vs H' B' ee w s1 s2 pr => ⟨by rw [pr.len, setPar_len hp], ?_, fun H2 sm => ?_⟩⟩
    · rw [pr.len, ← setPar_len hp, sizeLine_eq]
      exact Nat.le_trans (Nat.le_of_lt hi) (by decide)
    · have G := R.up (ee.trans sm.ext) (w.same sm) s1 s2
      have G2 := G.par (pr.same sm) (fun i p z w => by
        obtain ⟨o, e⟩ := R.bt (.inr ⟨i, z⟩)
        rw [w] at e; cases e) (fun q z => noneBack R.ext R.wd z) hp
      exact q _ _ G2.rl (St.ofExt R.bn (ee.trans sm.ext) fun q z => s2 q (G2.inB q z))
  · cases ev
/-! ### two or three names at once -/
def lineOf (ts : List Expr) : Nat := (ts.head?.map (·.pos.line)).getD 0
def locF (sc : Scope) (ln : Nat) : Expr → Option Str
  | .Name x p => if sc.names.lookup x == some .local && p.line == ln then some x else none
  | _ => none
theorem locF_is {sc : Scope} {ln : Nat} {x w : Str} {p : Pos} (h : locF sc ln (.Name x p) = some w) : w = x := by
  have h' : (if (sc.names.lookup x == some .local && p.line == ln) = true then some x else none) = some w := h
  split at h'
  · cases h'; rfl
  · cases h'
def locs (sc : Scope) (ts : List Expr) : List Str := ts.filterMap (locF sc (lineOf ts))
/-- stored from the right -/
def swY (sc : Scope) (ts vs : List Expr) : Bool := (ts.length == 2 || ts.length == 3) && vs.length == ts.length && vs.all nst && (locs sc ts).length == ts.length && (locs sc ts).eraseDups.length == (locs sc ts).length && !vs.all (foldedForSure 8) && !vs.all (constantsAlone 8)
/-- by way of the tuple -/
def swN (sc : Scope) (ts vs : List Expr) : Bool := !(ts.length == 2 || ts.length == 3) || (vs.length == ts.length && vs.all nst && (!((locs sc ts).length == ts.length) || ((locs sc ts).eraseDups.length == (locs sc ts).length && vs.all (foldedForSure 8))))
theorem bk_fn {env : Env} (h : env.scope.kind = .function) : env.blockKind = .function := by
  unfold Env.blockKind
  rw [h]; rfl
theorem no_star {vs : List Expr} {f : Expr → Bool} (hf : ∀ e, nst e = true → f e = false) (h : vs.all nst = true) : vs.any f = false := by
  rw [List.any_eq_false]
  rw [List.all_eq_true] at h
  intro e he
  rw [hf e (h e he)]
  exact Bool.false_ne_true
theorem swY_ok {env : Env} {ts vs : List Expr} {k k2 : Nat} {p p2 : Pos} (kd : env.scope.kind = .function) (h : swY env.scope ts vs = true) : swappedStores [.Tuple ts k p] (.Tuple vs k2 p2) env = pure (some (locs env.scope ts)) := by
  unfold swY at h
  simp only [Bool.and_eq_true, Bool.not_eq_true', beq_iff_eq] at h
  obtain ⟨⟨⟨⟨⟨⟨h1, h2⟩, h3⟩, h4⟩, h5⟩, h6⟩, h7⟩ := h
  unfold swappedStores
  simp only [h1, h2, bk_fn kd]
  rw [no_star (fun e he => by cases e <;> first | rfl | cases he) h3]
  rw [if_neg (show ¬ ((!true || ts.length != ts.length || ScopeKind.function != ScopeKind.function) = true) from by simp), if_neg Bool.false_ne_true]
  show (if ((locs env.scope ts).length != ts.length || (locs env.scope ts).eraseDups.length != (locs env.scope ts).length) = true then (pure none : Sem (Option (List Str))) else if vs.all (foldedForSure 8) = true then pure none else _) = _
  rw [h5, h4, h6, if_neg (show ¬ ((ts.length != ts.length || ts.length != ts.length) = true) from by simp), if_neg Bool.false_ne_true, h7, if_neg Bool.false_ne_true]
  rfl
theorem swN_ok {env : Env} {ts vs : List Expr} {k k2 : Nat} {p p2 : Pos} (kd : env.scope.kind = .function) (h : swN env.scope ts vs = true) : swappedStores [.Tuple ts k p] (.Tuple vs k2 p2) env = pure none := by
  unfold swN at h
  rw [Bool.or_eq_true] at h
  unfold swappedStores
  rcases h with h | h
  · simp only [h]
    rfl
  · simp only [Bool.and_eq_true, beq_iff_eq] at h
    obtain ⟨⟨h2, h3⟩, h4⟩ := h
    by_cases h1 : (ts.length == 2 || ts.length == 3) = true
    · simp only [h1, h2, bk_fn kd]
      rw [no_star (fun e he => by cases e <;> first | rfl | cases he) h3]
      rw [if_neg (show ¬ ((!true || ts.length != ts.length || ScopeKind.function != ScopeKind.function) = true) from by simp), if_neg Bool.false_ne_true]
      show (if ((locs env.scope ts).length != ts.length || (locs env.scope ts).eraseDups.length != (locs env.scope ts).length) = true then (pure none : Sem (Option (List Str))) else if vs.all (foldedForSure 8) = true then pure none else _) = _
      rw [Bool.or_eq_true] at h4
      rcases h4 with h4 | h4
      · rw [Bool.not_eq_true'] at h4
        have : ((locs env.scope ts).length != ts.length) = true := by unfold bne; rw [h4]; rfl
        rw [this]; rfl
      · rw [Bool.and_eq_true] at h4
        by_cases h5 : ((locs env.scope ts).length != ts.length || (locs env.scope ts).eraseDups.length != (locs env.scope ts).length) = true
        · rw [if_pos h5]
        · rw [if_neg h5, h4.2]; rfl
    · have h1' : (ts.length == 2 || ts.length == 3) = false := by simpa using h1
      simp only [h1']
      rfl
/-- every element is read by itself -/
def okQ (N : List Str) (dn : List Str) (gi : List (Str × Int)) (tk : Str) (g : Bool) (sc : Scope) : EL → List Expr → Bool
  | .nil, [] => true
  | .cons false e r, x :: xs => nst x && okE N dn gi tk e false g sc x && okQ N dn gi tk g sc r xs
  | _, _ => false
theorem sndQ : ∀ (es : EL) (X : Cx) (g : Bool) (xs : List Expr), Cok F n g.toNat X → okQ X.N F.dn F.gi F.tk g X.env.scope es xs = true → PA X xs (tQ F n es) ∧ xs.all nst = true
  | .nil, X, g, xs, C, ok => by
    cases xs with
    | nil => exact ⟨q_nil, rfl⟩
    | cons _ _ => cases ok
  | .cons st e r, X, g, xs, C, ok => by
    cases st with
    | true => cases xs <;> cases ok
    | false =>
      cases xs with
      | nil => cases ok
      | cons x xs =>
        simp only [okQ, Bool.and_eq_true] at ok
        obtain ⟨h1, h2⟩ := sndQ r X g xs C ok.2
        exact ⟨q_cons ((sndE e X false g _ C ok.1.2).1 rfl) h1 ok.1.1, by rw [List.all_cons, ok.1.1, h2]; rfl⟩
def nmOf : Expr → Option (Str × Pos)
  | .Name x p => some (x, p)
  | _ => none
theorem nmOf_eq {e : Expr} {x : Str} {p : Pos} (h : nmOf e = some (x, p)) : e = .Name x p := by
  unfold nmOf at h
  split at h
  · cases h; rfl
  · cases h
theorem s_parN {is : List Nat} {es : EL} {ts vs : List Expr} {k k2 : Nat} {p p2 pos : Pos} (C : Sok F n g X) (ha : PA X vs (tQ F n es)) (ht : tgNs X.N X.env.scope (fun _ => true) is ts = true) (hw : swN X.env.scope ts vs = true) (hl : is.length < 10) :
    PS X (.Assign [.Tuple ts k p] (.Tuple vs k2 p2) pos) (tS F n (.par is es)) := by
  obtain ⟨h1, h2, h3⟩ := tgNs_ok (fnB := fun _ => true) C.nd (fun x _ => C.fn x) ht
  refine (ps_asg (pe_tup ha) (pg_tup C.calm h1 h2 h3) rfl (swN_ok C.kd hw) rfl).weak fun D σ H h => ?_
  obtain ⟨B, env, rs, l, rs', R, ev, q⟩ := par_go hl h
  refine ⟨B, env, rs, l, rs', R, ev, fun vs H' B' ee w s1 s2 pr => ?_⟩
  obtain ⟨q1, q2, q3⟩ := q vs H' B' ee w s1 s2 pr
  exact ⟨q2, fun P hP => ⟨P, vs, rfl, .of upd_same, q1, gNs_go q1.symm (q3 _ (Same.new hP))⟩⟩
def locN (N : List Str) (sc : Scope) (i : Nat) (e : Expr) (x : Str) (p : Pos) : Prop := e = .Name x p ∧ N[i]? = some x ∧ sc.names.lookup x = some .local
def locB (N : List Str) (sc : Scope) (i : Nat) (e : Expr) : Bool := match e with
  | .Name x _ => decide (N[i]? = some x) && decide (sc.names.lookup x = some .local)
  | _ => false
theorem locB_ok {N : List Str} {sc : Scope} {i : Nat} {e : Expr} (h : locB N sc i e = true) : ∃ x p, locN N sc i e x p := by
  unfold locB at h
  split at h
  · rename_i x p
    simp only [Bool.and_eq_true, decide_eq_true_eq] at h
    exact ⟨x, p, rfl, h.1, h.2⟩
  · cases h
theorem filt_all {α β : Type} {f : α → Option β} : ∀ {l : List α}, (l.filterMap f).length = l.length → ∀ x ∈ l, ∃ y, f x = some y
  | [], _, x, h => by cases h
  | a :: l, h, x, hx => by
    cases e : f a with
    | none =>
      rw [List.filterMap_cons_none e] at h
      have := List.length_filterMap_le f l
      rw [h, List.length_cons] at this
      omega
    | some y =>
      rw [List.filterMap_cons_some e, List.length_cons, List.length_cons] at h
      rcases List.mem_cons.mp hx with z | z
      · exact ⟨y, z ▸ e⟩
      · exact filt_all (Nat.succ.inj h) x z
theorem s_par2 {i j : Nat} {es : EL} {a b : Expr} {vs : List Expr} {k k2 : Nat} {p p2 pos : Pos} (C : Sok F n g X) (ha : PA X vs (tQ F n es)) (h1 : locB X.N X.env.scope i a = true) (h2 : locB X.N X.env.scope j b = true) (hij : i ≠ j) (hw : swY X.env.scope [a, b] vs = true) :
    PS X (.Assign [.Tuple [a, b] k p] (.Tuple vs k2 p2) pos) (tS F n (.par [i, j] es)) := by
  obtain ⟨x, px, rfl, n1, l1⟩ := locB_ok h1
  obtain ⟨y, py, rfl, n2, l2⟩ := locB_ok h2
  have hv : vs.length = 2 ∧ (locs X.env.scope [.Name x px, .Name y py]).length = 2 := by
    unfold swY at hw
    simp only [Bool.and_eq_true, beq_iff_eq] at hw
    exact ⟨hw.1.1.1.1.1.2, hw.1.1.1.2⟩
  obtain ⟨u, v, rfl⟩ : ∃ u v, vs = [u, v] := by
    match vs, hv.1 with
    | [u, v], _ => exact ⟨u, v, rfl⟩
  have hlo : locs X.env.scope [.Name x px, .Name y py] = [x, y] := by
    have z1 := filt_all hv.2 (.Name x px) (by simp)
    have z2 := filt_all hv.2 (.Name y py) (by simp)
    obtain ⟨w1, z1⟩ := z1
    obtain ⟨w2, z2⟩ := z2
    unfold locs
    have e1 : w1 = x := locF_is z1
    have e2 : w2 = y := locF_is z2
    subst e1 e2
    rw [List.filterMap_cons_some z1, List.filterMap_cons_some z2]; rfl
  have sw := swY_ok (k := k) (k2 := k2) (p := p) (p2 := p2) C.kd hw
  rw [hlo] at sw
  refine (ps_par (i := i) (j := j) C.calm C.nd n1 n2 hij l1 l2 ha sw rfl).weak fun D σ H h => ?_
  obtain ⟨B, env, rs, l, rs', R, ev, q⟩ := par_go (by simp) h
  refine ⟨B, env, rs, l, rs', R, ev, fun vs H' B' ee w s1 s2 pr => ?_⟩
  obtain ⟨q1, q2, q3⟩ := q vs H' B' ee w s1 s2 pr
  match vs, q1 with
  | [u, v], _ => exact ⟨u, v, rfl, q3 _ .refl⟩
theorem s_par3 {i j m : Nat} {es : EL} {a b c : Expr} {vs : List Expr} {k k2 : Nat} {p p2 pos : Pos} (C : Sok F n g X) (ha : PA X vs (tQ F n es)) (h1 : locB X.N X.env.scope i a = true) (h2 : locB X.N X.env.scope j b = true) (h3 : locB X.N X.env.scope m c = true) (hij : i ≠ j) (him : i ≠ m) (hjm : j ≠ m) (hw : swY X.env.scope [a, b, c] vs = true) :
    PS X (.Assign [.Tuple [a, b, c] k p] (.Tuple vs k2 p2) pos) (tS F n (.par [i, j, m] es)) := by
  obtain ⟨x, px, rfl, n1, l1⟩ := locB_ok h1
  obtain ⟨y, py, rfl, n2, l2⟩ := locB_ok h2
  obtain ⟨z, pz, rfl, n3, l3⟩ := locB_ok h3
  have hv : vs.length = 3 ∧ (locs X.env.scope [.Name x px, .Name y py, .Name z pz]).length = 3 := by
    unfold swY at hw
    simp only [Bool.and_eq_true, beq_iff_eq] at hw
    exact ⟨hw.1.1.1.1.1.2, hw.1.1.1.2⟩
  obtain ⟨u, v, w, rfl⟩ : ∃ u v w, vs = [u, v, w] := by
    match vs, hv.1 with
    | [u, v, w], _ => exact ⟨u, v, w, rfl⟩
  have hlo : locs X.env.scope [.Name x px, .Name y py, .Name z pz] = [x, y, z] := by
    obtain ⟨w1, z1⟩ := filt_all hv.2 (.Name x px) (by simp)
    obtain ⟨w2, z2⟩ := filt_all hv.2 (.Name y py) (by simp)
    obtain ⟨w3, z3⟩ := filt_all hv.2 (.Name z pz) (by simp)
    unfold locs
    have e1 : w1 = x := locF_is z1
    have e2 : w2 = y := locF_is z2
    have e3 : w3 = z := locF_is z3
    subst e1 e2 e3
    rw [List.filterMap_cons_some z1, List.filterMap_cons_some z2, List.filterMap_cons_some z3]; rfl
  have sw := swY_ok (k := k) (k2 := k2) (p := p) (p2 := p2) C.kd hw
  rw [hlo] at sw
  refine (ps_par3 (i := i) (j := j) (l := m) C.calm C.nd n1 n2 n3 hij him hjm l1 l2 l3 ha sw rfl).weak fun D σ H h => ?_
  obtain ⟨B, env, rs, l, rs', R, ev, q⟩ := par_go (by simp) h
  refine ⟨B, env, rs, l, rs', R, ev, fun vs H' B' ee w s1 s2 pr => ?_⟩
  obtain ⟨q1, q2, q3⟩ := q vs H' B' ee w s1 s2 pr
  match vs, q1 with
  | [u, v, w], _ => exact ⟨u, v, w, rfl, q3 _ .refl⟩
end
end Cd
namespace Cd
open PySem PySem.Spec PyProof.Rows L2 GxR C8 GenW
/-! The checker of statements, and what it vouches for. -/
def swB (sc : Scope) (x : Str) (px : Pos) (cs : Scope) (cp : Pos) : Bool := sc.names.lookup x == some .local && px.line == cp.line && !(cs.names.any fun y => y.1 == x && (y.2 == .local || y.2 == .cell))
theorem sw_lc {elt : Expr} {gs : List Comprehension} {cs : Scope} {cp px : Pos} {x : Str} {l : Nat} {env : Env} (kd : env.scope.kind = .function) : swapsWith (.ListComp elt gs cs cp) (some (.Name x px)) l env = pure (swB env.scope x px cs cp) := by
  unfold swapsWith swB
  simp only [bk_fn kd]
  rfl
def nTu : Expr → Bool
  | .Tuple .. => false
  | _ => true
section
variable (N : List Str) (dn : List Str) (gi : List (Str × Int)) (tk : Str) (g : Bool) (sc : Scope)
mutual
def okS : S → Stmt → Bool
  | .set i e, st => (match st with
    | .Assign [.Name x px] y _ => decide (N[i]? = some x) && (decide (sc.names.lookup x = some .local) || decide (sc.names.lookup x = some .cell)) && okE N dn gi tk e false g sc y && (match y with
      | .ListComp _ _ cs cp => if swB sc x px cs cp then (match e with
        | .lc .. => decide (sc.names.lookup x = some .local)
        | _ => false) else true
      | y => nLc y)
    | _ => false)
  | .unp is e, st => (match st with
    | .Assign [.Tuple ts _ _] y _ => tgNs N sc (fun _ => true) is ts && okE N dn gi tk e false g sc y && nTu y && nLc y
    | _ => false)
  | .par is es, st => (match st with
    | .Assign [.Tuple ts _ _] (.Tuple vs _ _) _ => okQ N dn gi tk g sc es vs && ((swN sc ts vs && tgNs N sc (fun _ => true) is ts && decide (is.length < 10)) || (swY sc ts vs && (match is, ts with
      | [i, j], [a, b] => locB N sc i a && locB N sc j b && decide (i ≠ j)
      | [i, j, m], [a, b, c] => locB N sc i a && locB N sc j b && locB N sc m c && decide (i ≠ j) && decide (i ≠ m) && decide (j ≠ m)
      | _, _ => false)))
    | _ => false)
  | .put i k e, st => (match st with
    | .Assign [.Subscript (.Name x _) z _] y _ => decide (N[i]? = some x) && visB sc x && nmOk x && nSl z && okE N dn gi tk e false g sc y && okE N dn gi tk k false g sc z
    | _ => false)
  | .app i e, st => (match st with
    | .Expr (.Call (.Attribute (.Name x _) m apos) [y] [] cpos) _ => decide (m = ("append" : Str)) && decide (N[i]? = some x) && visB sc x && nmOk x && nst y && (apos.endLine == cpos.line) && okE N dn gi tk e false g sc y
    | _ => false)
  | .ret e, st => (match st with
    | .Return (some y) _ => okE N dn gi tk e false g sc y
    | _ => false)
  | .retN, st => (match st with
    | .Return none _ => true
    | _ => false)
  | .drop e, st => (match st with
    | .Expr y _ => okE N dn gi tk e false g sc y && nLc y
    | _ => false)
  | .ite c a b, st => (match st with
    | .If z x y _ => okE N dn gi tk c true g sc z && okSL a x && okSL b y
    | _ => false)
  | .fr t it b, st => (match st with
    | .For tg iter body [] _ => okI N dn gi tk it g sc tg iter && tgB N sc (fun _ => true) t tg && okSL b body && nSet iter
    | _ => false)
  | .wh c b, st => (match st with
    | .While z body [] _ => okE N dn gi tk c true g sc z && okSL b body
    | _ => false)
  | .brk, st => (match st with
    | .Break _ => true
    | _ => false)
  | .cnt, st => (match st with
    | .Continue _ => true
    | _ => false)
  | .pass, st => (match st with
    | .Pass _ => true
    | .Expr (.Constant (.str _) _ _) _ => true
    | _ => false)
  | .fail, _ => true
def okSL : SL → List Stmt → Bool
  | .nil, sts => sts.isEmpty
  | .cons _ s r, sts => (match sts with
    | x :: xs => okS s x && okSL r xs
    | [] => false)
end
end
section
variable {F : Fx} {n : Nat}
theorem s_setLc {i : Nat} {own : List (Str × Nat)} {t : Tg} {it : It} {c x : E} {y : Str} {elt : Expr} {gs : List Comprehension} {scope : Scope} {px pos spos : Pos} {X : Cx} {g : Bool} (C : Sok F n g.toNat X) (hN : X.N[i]? = some y) (hl : X.env.scope.names.lookup y = some .local) (hw : swB X.env.scope y px scope pos = true)
    (ok : okE X.N F.dn F.gi F.tk (.lc own t it c x) false g X.env.scope (.ListComp elt gs scope pos) = true) : PS X (.Assign [.Name y px] (.ListComp elt gs scope pos) spos) (tS F n (.set i (.lc own t it c x))) := by
  have C0 := C.toCok
  simp only [okE, Bool.and_eq_true, Bool.not_eq_true'] at ok
  obtain ⟨_, ok⟩ := ok
  match gs, ok with
  | [⟨tg, iter, ifs, k⟩], ok =>
    simp only [Bool.and_eq_true, decide_eq_true_eq, List.all_eq_true] at ok
    obtain ⟨⟨⟨⟨⟨⟨⟨rfl, h1⟩, h2⟩, h3⟩, h4⟩, h5⟩, h6⟩, h7⟩ := ok
    have sw := sw_lc (elt := elt) (gs := [⟨tg, iter, ifs, 0⟩]) (cs := scope) (cp := pos) (px := px) (x := y) (l := spos.line) C.kd
    rw [hw] at sw
    refine (ps_setLc (g := tB t) (tt := tT F n c) (te := tE F n false x) C.calm C.nd hN hl sw (sndI it X g _ _ C0 h1) (blkOk_by h2) (fun s H a cl fp => ?_) (fun s H a cl fp => ?_) (fun s H a cl fp => ?_) (fold_nSet h7)).weak fun D σ H h => ?_
    · exact g_tg (X := X.blk s H scope (compEnvC scope cl a X.env) fp) C.calm C.nd (fun x hx => hx) h4
    · have C2 := C0.blk s H scope cl a fp
      cases ifs with
      | nil =>
        have hc : c = .bl true := by
          cases c <;> first | cases h5 | skip
          rename_i b; cases b <;> first | rfl | cases h5
        rw [hc]; exact t_yes
      | cons z zs =>
        cases zs with
        | nil => exact pts_one ((sndE c _ true g _ C2 h5).2 rfl)
        | cons _ _ => cases h5
    · exact ((sndE x _ false g _ (C0.blk s H scope cl a fp) h6).1 rfl).f
    · exact lc_go h3 (set_go h)
  | [], ok => cases ok
  | _ :: _ :: _, ok => simp at ok
theorem sole_tu {ts : List Expr} {k : Nat} {p : Pos} {e : Expr} {l : Nat} {env : Env} : swapsWithSole [.Tuple ts k p] e l env = pure false := by cases e <;> rfl
theorem stores_nTu {ts : List Expr} {k : Nat} {p : Pos} {e : Expr} {env : Env} (h : nTu e = true) : swappedStores [.Tuple ts k p] e env = pure none := by cases e <;> first | rfl | cases h
theorem s_unp {is : List Nat} {e : E} {ts : List Expr} {k : Nat} {p pos : Pos} {y : Expr} {X : Cx} {g : Nat} (C : Sok F n g X) (h : PE X y (tE F n false e)) (ht : tgNs X.N X.env.scope (fun _ => true) is ts = true) (h1 : nTu y = true) : PS X (.Assign [.Tuple ts k p] y pos) (tS F n (.unp is e)) := by
  refine (ps_asg h (g_tg (t := .tp is) (fnB := fun _ => true) C.calm C.nd (fun x _ => C.fn x) (by unfold tgB; exact ht)) sole_tu (stores_nTu h1) rfl).weak fun D σ H ⟨B0, H0, env, rs, o, rs', R, ev, q⟩ => ?_
  simp only [exS] at ev
  obtain ⟨d, rs1, h1, ev⟩ := bdS ev
  obtain ⟨l, env', rfl, hp, rfl, rfl⟩ : ∃ l env', d = .tuple l ∧ setAll env is l = some env' ∧ o = .nx env' ∧ rs' = rs1 := by
    cases d with
    | tuple l =>
      simp only at ev
      generalize hp : setAll env is l = w at ev
      cases w with
      | none => cases ev
      | some env' => cases ev; exact ⟨l, env', rfl, hp, rfl, rfl⟩
    | _ => cases ev
  refine ⟨_, env, rs, _, _, R.re, h1, fun v H' ee w r _ => ⟨_, _, r, setAll_len hp, fun σ' hb => ?_⟩⟩
  have G := (R.next ee w).g.bind (t := .tp is) hb hp
  exact q _ _ G.rl (St.ofExt R.bn ee fun q z => .inl (G.inB q z))
mutual
theorem sndS : ∀ (ir : S) (X : Cx) (g : Bool) (st : Stmt), Sok F n g.toNat X → okS X.N F.dn F.gi F.tk g X.env.scope ir st = true → PS X st (tS F n ir)
  | .set i e, X, g, st, C, ok => by
    simp only [okS] at ok
    split at ok
    · rename_i x px y pos
      simp only [Bool.and_eq_true, Bool.or_eq_true, decide_eq_true_eq] at ok
      obtain ⟨⟨⟨h1, h2⟩, h3⟩, h4⟩ := ok
      have he := (sndE e X false g _ C.toCok h3).1 rfl
      have plain : swapsWith y (some (.Name x px)) pos.line X.env = pure false → PS X (.Assign [.Name x px] y pos) (tS F n (.set i e)) := fun hs =>
        (ps_set C.nd h1 h2 he hs (.inl (C.fn x))).weak fun D σ H h => set_go h
      split at h4
      · rename_i elt gs cs cp
        split at h4
        · rename_i hw
          split at h4
          · exact s_setLc C h1 (of_decide_eq_true h4) hw h3
          · cases h4
        · rename_i hw
          have hw' : swB X.env.scope x px cs cp = false := by simpa using hw
          exact plain (by rw [sw_lc C.kd, hw'])
      · exact plain (sw_nLc h4)
    · cases ok
  | .unp is e, X, g, st, C, ok => by
    simp only [okS] at ok
    split at ok
    · simp only [Bool.and_eq_true] at ok
      obtain ⟨⟨⟨h1, h2⟩, h3⟩, h4⟩ := ok
      exact s_unp C ((sndE e X false g _ C.toCok h2).1 rfl).f h1 h3
    · cases ok
  | .par is es, X, g, st, C, ok => by
    simp only [okS] at ok
    split at ok
    · rename_i ts k p vs k2 p2 pos
      rw [Bool.and_eq_true, Bool.or_eq_true] at ok
      obtain ⟨h1, h2⟩ := ok
      have hq := (sndQ es X g vs C.toCok h1).1
      rcases h2 with h2 | h2
      · simp only [Bool.and_eq_true, decide_eq_true_eq] at h2
        exact s_parN C hq h2.1.2 h2.1.1 h2.2
      · rw [Bool.and_eq_true] at h2
        obtain ⟨h2, h3⟩ := h2
        split at h3
        · simp only [Bool.and_eq_true, decide_eq_true_eq] at h3
          exact s_par2 C hq h3.1.1 h3.1.2 h3.2 h2
        · simp only [Bool.and_eq_true, decide_eq_true_eq] at h3
          exact s_par3 C hq h3.1.1.1.1.1 h3.1.1.1.1.2 h3.1.1.1.2 h3.1.1.2 h3.1.2 h3.2 h2
        · cases h3
    · cases ok
  | .put i k e, X, g, st, C, ok => by
    simp only [okS] at ok
    split at ok
    · simp only [Bool.and_eq_true, decide_eq_true_eq] at ok
      obtain ⟨⟨⟨⟨⟨h1, h2⟩, h3⟩, h4⟩, h5⟩, h6⟩ := ok
      exact s_put h1 h2 h3 h4 ((sndE e X false g _ C.toCok h5).1 rfl).f ((sndE k X false g _ C.toCok h6).1 rfl).f
    · cases ok
  | .app i e, X, g, st, C, ok => by
    simp only [okS] at ok
    split at ok
    · simp only [Bool.and_eq_true, decide_eq_true_eq] at ok
      obtain ⟨⟨⟨⟨⟨⟨rfl, h1⟩, h2⟩, h3⟩, h4⟩, h5⟩, h6⟩ := ok
      exact s_app h1 h2 h3 h4 h5 ((sndE e X false g _ C.toCok h6).1 rfl).f
    · cases ok
  | .ret e, X, g, st, C, ok => by
    simp only [okS] at ok
    split at ok
    · exact s_ret ((sndE e X false g _ C.toCok ok).1 rfl).f
    · cases ok
  | .retN, X, g, st, C, ok => by
    simp only [okS] at ok
    split at ok
    · exact s_retN
    · cases ok
  | .drop e, X, g, st, C, ok => by
    simp only [okS] at ok
    split at ok
    · rw [Bool.and_eq_true] at ok
      exact s_drop ((sndE e X false g _ C.toCok ok.1).1 rfl).f ok.2
    · cases ok
  | .ite c a b, X, g, st, C, ok => by
    simp only [okS] at ok
    split at ok
    · simp only [Bool.and_eq_true] at ok
      exact s_ite ((sndE c X true g _ C.toCok ok.1.1).2 rfl) (sndSL a X g _ C ok.1.2) (sndSL b X g _ C ok.2)
    · cases ok
  | .fr t it b, X, g, st, C, ok => by
    simp only [okS] at ok
    split at ok
    · simp only [Bool.and_eq_true] at ok
      obtain ⟨⟨⟨h1, h2⟩, h3⟩, h4⟩ := ok
      exact s_fr C (sndI it X g _ _ C.toCok h1) (g_tg C.calm C.nd (fun x _ => C.fn x) h2) (sndSL b X g _ C h3) h4
    · cases ok
  | .wh c b, X, g, st, C, ok => by
    simp only [okS] at ok
    split at ok
    · simp only [Bool.and_eq_true] at ok
      exact s_wh C ((sndE c X true g _ C.toCok ok.1).2 rfl) (sndSL b X g _ C ok.2)
    · cases ok
  | .brk, X, g, st, C, ok => by
    simp only [okS] at ok
    split at ok
    · exact s_brk
    · cases ok
  | .cnt, X, g, st, C, ok => by
    simp only [okS] at ok
    split at ok
    · exact s_cnt
    · cases ok
  | .pass, X, g, st, C, ok => by
    simp only [okS] at ok
    split at ok
    · exact ps_pass.weak fun D σ H h => next_go h
    · exact ps_doc.weak fun D σ H h => next_go h
    · cases ok
  | .fail, X, g, st, C, ok => ps_never.weak fun D σ H ⟨B0, H0, env, rs, o, rs', R, ev, q⟩ => by simp only [exS] at ev; cases ev
theorem sndSL : ∀ (ir : SL) (X : Cx) (g : Bool) (sts : List Stmt), Sok F n g.toNat X → okSL X.N F.dn F.gi F.tk g X.env.scope ir sts = true → PSs X sts (tSs F n ir)
  | .nil, X, g, sts, C, ok => by
    simp only [okSL] at ok
    cases sts with
    | nil => exact ss_nil
    | cons _ _ => cases ok
  | .cons fz s r, X, g, sts, C, ok => by
    simp only [okSL] at ok
    cases sts with
    | nil => cases ok
    | cons x xs =>
      simp only [Bool.and_eq_true] at ok
      exact ss_cons (sndS s X g x C ok.1) (sndSL r X g xs C ok.2)
end
end
end Cd
namespace Cd
open PySem PySem.Spec PyProof.Rows L2 GxR C8 GenW
/-! How a row is drawn from; q: the places of the tree. -/
abbrev kIt (q : Nat → Pos) (i : Int) (k : Nat) : Expr := .Subscript (.Name "_law_row_here" (q k)) (.Constant (.int i) 0 (q (k + 1))) (q (k + 2))
abbrev kC (q : Nat → Pos) (i : Int) (k : Nat) : Expr := .Constant (.int i) 0 (q k)
abbrev kM (q : Nat → Pos) (k : Nat) : Expr := .Name "_law_many" (q k)
abbrev kV (q : Nat → Pos) (k : Nat) : Expr := .Name "_law_cell" (q k)
abbrev kI (q : Nat → Pos) (k : Nat) (e : Expr) (m : Nat) : Expr := .Call (.Name "int" (q k)) [e] [] (q m)
abbrev kS (q : Nat → Pos) (i : Int) (k : Nat) (e : Expr) (m : Nat) : Stmt := .Assign [kIt q i k] e (q m)
def takeBody (q : Nat → Pos) : List Stmt :=
  [.If (.Compare (kIt q 3 0) [.Gt] [kC q 0 3] (q 4)) [.Assign [.Name "_law_found" (q 5)] (.BinOp (kI q 6 (kIt q 3 7) 10) .Mod (kM q 11) (q 12)) (q 13), kS q 3 14 (.BinOp (kIt q 3 17) .FloorDiv (kM q 20) (q 21)) 22, .Return (some (.Name "_law_found" (q 23))) (q 24)] [] (q 25),
   kS q 1 26 (.BinOp (kIt q 1 29) .Add (kC q 1 32) (q 33)) 34,
   .If (.Compare (kIt q 1 35) [.Gt] [.Call (.Name "len" (q 38)) [kIt q 0 39] [] (q 42)] (q 43))
     [kS q 2 44 (.BinOp (kI q 47 (.BinOp (.BinOp (kIt q 2 48) .Mult (kC q 48271 51) (q 52)) .Add (kC q 11 53) (q 54)) 55) .Mod (kC q 2147483647 56) (q 57)) 58, .Return (some (.BinOp (kI q 59 (.BinOp (kIt q 2 60) .FloorDiv (kC q 7 63) (q 64)) 65) .Mod (kM q 66) (q 67))) (q 68)] [] (q 69),
   .Assign [kV q 70] (.Subscript (kIt q 0 71) (.BinOp (kIt q 1 74) .Sub (kC q 1 77) (q 78)) (q 79)) (q 80),
   kS q 2 81 (.BinOp (kI q 84 (.BinOp (.BinOp (.BinOp (kIt q 2 85) .Mult (kC q 48271 88) (q 89)) .Add (kV q 90) (q 91)) .Add (kC q 11 92) (q 93)) 94) .Mod (kC q 2147483647 95) (q 96)) 97,
   .If (.Compare (kV q 98) [.GtE] [.BinOp (kC q 10 99) .Pow (kC q 18 100) (q 101)] (q 102)) [kS q 3 103 (.BinOp (kV q 106) .FloorDiv (kM q 107) (q 108)) 109] [] (q 110),
   .Return (some (.BinOp (kI q 111 (kV q 112) 113) .Mod (kM q 114) (q 115))) (q 116)]
def takeN : List Str := ["_law_row_here", "_law_many", "_law_found", "_law_cell"]
theorem Wd.row' {F : Fx} {H : Hp} {rs rs' : RS} (w : Wd F H rs) (ok : RsOk rs') {x y z : Int} (hx : x = rs'.idx) (hy : y = rs'.seed) (hz : z = rs'.car) : Wd F (L2.upd H F.r (.lst [.ref F.scr, .int x, .int y, .int z])) rs' := by
  subst hx hy hz
  have hn : F.scr ≠ F.r ∨ ∃ (o : Obj) (its : Array Value) (n : Nat), F.K.lookup F.scr = some o ∧ o.cls = .type "list" ∧ o.dict = none ∧ o.data = .seq its n ∧ its.size ≤ sizeLine ∧ Vals (F.ns.map V.int) its.toList := by
    have no : ∀ u : HO, H F.scr = some u → (u = .lst (F.ns.map V.int) ∨ ∃ ob, u = .frz ob (.lst (F.ns.map V.int))) → F.scr ≠ F.r := fun u h e z => by
      rw [z, w.row] at h
      cases h
      rcases e with e | ⟨ob, e⟩
      · cases hns : F.ns with
        | nil => rw [hns] at e; cases e
        | cons a b => rw [hns] at e; cases e
      · cases e
    rcases w.scr with (h | ⟨ob, h⟩) | h
    · exact .inl (no _ h (.inl rfl))
    · exact .inl (no _ h (.inr ⟨ob, rfl⟩))
    · exact .inr h
  refine ⟨upd_same, ?_, fun p hp => ?_, ok⟩
  · rcases hn with hn | hn
    · rcases w.scr with (h | ⟨ob, h⟩) | h
      · exact .inl (.inl (by rw [upd_ne hn]; exact h))
      · exact .inl (.inr ⟨ob, by rw [upd_ne hn]; exact h⟩)
      · exact .inr h
    · exact .inr hn
  · obtain ⟨ps, h, t⟩ := w.tab p hp
    refine ⟨ps, ?_, t⟩
    rw [upd_ne]; exact h
    intro z; rw [z, w.row] at h; cases h
theorem Ext.row {F : Fx} {H H' : Hp} {o : HO} (e : Ext F H H') : Ext F H (L2.upd H' F.r o) := fun q u h h1 h2 => by rw [upd_ne h1]; exact e q u h h1 h2
theorem seed_mul {s : Int} (h : 0 ≤ s ∧ s < 2147483647) : CMulW s 48271 := by
  unfold CMulW
  have e : (48271 : Int).natAbs.log2 = 15 := by decide
  rw [e]
  have : s.natAbs < 2 ^ 31 := by omega
  have h2 : s.natAbs.log2 < 31 := by
    by_cases z : s.natAbs = 0
    · rw [z]; decide
    · exact (Nat.log2_lt z).mpr this
  omega
theorem many_log {m : Int} (h : 0 < m ∧ m < 1000000) : m.natAbs.log2 < 9000 := by
  have : m.natAbs < 2 ^ 20 := by omega
  have z : m.natAbs ≠ 0 := by omega
  have := (Nat.log2_lt z).mpr this
  omega
section
variable {F : Fx} {X : Cx}
/-- the opening test's and the last row's parts -/
theorem take_ps {q : Nat → Pos} (hN : X.N = takeN) (hnd : X.N.Nodup) (hl : ∀ x ∈ takeN, X.env.scope.names.lookup x = some .local) (hg : Gl X "int" ∧ Gl X "len") (hm : X.mg "int" = none ∧ X.mg "len" = none) (D : Ends) (H : Hp) (m : Int) (rs : RS)
    (hm0 : 0 < m ∧ m < 1000000) (w : Wd F H rs) (hK : X.K = F.K) (hD : ∀ H', Ext F H H' → Wd F H' (drawn F.ns m rs).2 → D.rt (.int (drawn F.ns m rs).1) H') :
    ∃ t, PSs X (takeBody q) t ∧ t D (start X.N [.ref F.r, .int m]) H := by
  have n0 : X.N[0]? = some ("_law_row_here" : Str) := by rw [hN]; rfl
  have n1 : X.N[1]? = some ("_law_many" : Str) := by rw [hN]; rfl
  have n2 : X.N[2]? = some ("_law_found" : Str) := by rw [hN]; rfl
  have n3 : X.N[3]? = some ("_law_cell" : Str) := by rw [hN]; rfl
  have l0 := hl "_law_row_here" (by decide)
  have l1 := hl "_law_many" (by decide)
  have l2 := hl "_law_found" (by decide)
  have l3 := hl "_law_cell" (by decide)
  have v0 : ∀ {p}, PE X (.Name "_law_row_here" p) (tVar 0) := pe_var n0 (.inl l0)
  have v1 : ∀ {p}, PE X (.Name "_law_many" p) (tVar 1) := pe_var n1 (.inl l1)
  have v2 : ∀ {p}, PE X (.Name "_law_found" p) (tVar 2) := pe_var n2 (.inl l2)
  have v3 : ∀ {p}, PE X (.Name "_law_cell" p) (tVar 3) := pe_var n3 (.inl l3)
  have it : ∀ {i : Int} {a b c : Pos}, PE X (.Subscript (.Name "_law_row_here" a) (.Constant (.int i) 0 b) c) (tOp (rIxL X.K) (tVar 0) (tC (.int i))) := fun {i a b c} => pe_ix ix_list v0 pe_int (plain_nSl rfl)
  have st : ∀ {i : Int} {a b c pos : Pos} {e : Expr} {te : TE}, PE X e te → PS X (.Assign [.Subscript (.Name "_law_row_here" a) (.Constant (.int i) 0 b) c] e pos) (tAsg te (gSub (tVar 0) (tC (.int i)) rSetL)) := fun {i a b c pos e te} h => ps_asg h (pg_sub v0 pe_int set_list) sole_sub stores_sub rfl
  have ic : ∀ {e : Expr} {te : TE} {p pos : Pos}, PE X e te → nst e = true → PE X (.Call (.Name "int" p) [e] [] pos) (tCB (fun xs H Q => (∃ i, xs = [.int i] ∧ Q (.int i) H) ∨ ∃ k, xs = [.bl k] ∧ Q (.int (if k then 1 else 0)) H) (tCons te tNil)) := fun {e te p pos} h hs => pe_callTy (T := "int") call_int1 hg.1 hm.1 (by decide +kernel) (pa_cons h pa_nil (star_nst hs)) (he := star_nst hs)
  refine ⟨_, pss_cons (ps_if (pt_cmpR op_gt it pe_int (beh_nSet rfl)) (pss_cons (ps_set (i := 2) hnd n2 (.inl l2) (pe_op op_mod (ic it rfl) v1) rfl (.inr l2)) (pss_cons (st (pe_op op_fdivW it v1)) (pss_one (ps_ret v2)))) pss_nil)
    (pss_cons (st (pe_op op_add it pe_int)) (pss_cons (ps_if (pt_cmpR op_gt it (pe_callB (id := "len") call_len_seq hg.2 hm.2 (by decide +kernel) (pa_cons it pa_nil)) (beh_nSet rfl)) (pss_cons (st (pe_op op_mod (ic (pe_op op_add (pe_op op_mulW it pe_int) pe_int) rfl) pe_int)) (pss_one (ps_ret (pe_op op_mod (ic (pe_op op_fdivW it pe_int) rfl) v1)))) pss_nil)
    (pss_cons (ps_set (i := 3) hnd n3 (.inl l3) (pe_ix ix_list it (pe_op op_sub it pe_int) (plain_nSl rfl)) rfl (.inr l3)) (pss_cons (st (pe_op op_mod (ic (pe_op op_add (pe_op op_add (pe_op op_mulW it pe_int) v3) pe_int) rfl) pe_int))
    (pss_cons (ps_if (pt_cmpR op_ge v3 (pe_op op_pow pe_int pe_int) (beh_nSet rfl)) (pss_one (st (pe_op op_fdivW v3 v1))) pss_nil) (pss_one (ps_ret (pe_op op_mod (ic v3 rfl) v1)))))))), ?_⟩
  rw [hN]
  refine ⟨_, rfl, F.r, _, 3, _, rfl, rfl, .of w.row, rfl, rs.car, 0, rfl, rfl, _, rfl, ?_⟩
  by_cases hc : rs.car > 0
  · dsimp only
    rw [if_pos (by simpa using hc)]
    have hd : drawn F.ns m rs = (rs.car % m, { rs with car := rs.car / m }) := by unfold drawn; rw [if_pos hc]
    rw [hd] at hD
    refine ⟨_, rfl, F.r, _, 3, _, rfl, rfl, .of w.row, rfl, .inl ⟨rs.car, rfl, _, rfl, rs.car, m, rfl, rfl, hm0.1, ?_⟩⟩
    refine ⟨_, rfl, F.r, _, 3, _, rfl, rfl, .of w.row, rfl, _, rfl, rs.car, m, rfl, rfl, ⟨hm0.1, many_log hm0⟩, _, rfl, F.r, _, 3, 3, rfl, rfl, w.row, rfl, ?_⟩
    exact ⟨_, rfl, hD _ (Ext.row .refl) (w.row' (rs' := { rs with car := rs.car / m }) w.ok rfl rfl rfl)⟩
  · dsimp only
    rw [if_neg (by simpa using hc)]
    refine ⟨_, rfl, F.r, _, 1, _, rfl, rfl, .of w.row, rfl, rs.idx, 1, rfl, rfl, _, rfl, F.r, _, 1, 1, rfl, rfl, w.row, rfl, ?_⟩
    have wA : Wd F (upd H F.r (.lst [.ref F.scr, .int ((rs.idx : Int) + 1), .int rs.seed, .int rs.car])) { rs with idx := rs.idx + 1 } := w.row' (rs' := { rs with idx := rs.idx + 1 }) w.ok (by show (rs.idx : Int) + 1 = ((rs.idx + 1 : Nat) : Int); omega) rfl rfl
    have eA : Ext F H (upd H F.r (.lst [.ref F.scr, .int ((rs.idx : Int) + 1), .int rs.seed, .int rs.car])) := Ext.row .refl
    show tSeq _ _ _ _ (upd H F.r (.lst [.ref F.scr, .int ((rs.idx : Int) + 1), .int rs.seed, .int rs.car]))
    generalize upd H F.r (.lst [.ref F.scr, .int ((rs.idx : Int) + 1), .int rs.seed, .int rs.car]) = HA at wA eA
    have rA := wA.row
    have sA : SqL X.K HA F.scr (F.ns.map V.int) := by rw [hK]; exact wA.scr
    refine ⟨_, rfl, F.r, _, 1, _, rfl, rfl, .of rA, rfl, _, rfl, F.r, _, 0, _, rfl, rfl, .of rA, rfl, F.scr, _, rfl, .inl sA, _, _, rfl, rfl, _, rfl, ?_⟩
    by_cases hx : rs.idx + 1 > F.ns.length
    · dsimp only
      rw [if_pos (by rw [List.length_map]; simp only [decide_eq_true_eq]; show _ < (((rs.idx + 1 : Nat) : Int)); omega)]
      have hd : drawn F.ns m rs = ((((rs.seed * 48271 + 11) % 2147483647) / 7) % m, { rs with idx := rs.idx + 1, seed := (rs.seed * 48271 + 11) % 2147483647 }) := by unfold drawn; rw [if_neg hc, if_pos hx]
      rw [hd] at hD
      have okB : RsOk { rs with idx := rs.idx + 1, seed := (rs.seed * 48271 + 11) % 2147483647 } := ⟨Int.emod_nonneg _ (by decide), Int.emod_lt_of_pos _ (by decide)⟩
      have wB := wA.row' okB (x := ((rs.idx + 1 : Nat) : Int)) rfl rfl rfl
      refine ⟨_, rfl, F.r, _, 2, _, rfl, rfl, .of rA, rfl, rs.seed, 48271, rfl, rfl, seed_mul w.ok, _, 11, rfl, rfl, .inl ⟨_, rfl, _, 2147483647, rfl, rfl, (by decide : (0 : Int) < 2147483647), _, rfl, F.r, _, 2, 2, rfl, rfl, rA, rfl, ?_⟩⟩
      exact ⟨_, rfl, F.r, _, 2, _, rfl, rfl, .of upd_same, rfl, _, 7, rfl, rfl, ⟨by decide, by decide⟩, .inl ⟨_, rfl, _, rfl, _, m, rfl, rfl, hm0.1, hD _ (Ext.row eA) wB⟩⟩
    · dsimp only
      rw [if_neg (by rw [List.length_map]; simp only [decide_eq_true_eq]; show ¬ (_ < (((rs.idx + 1 : Nat) : Int))); omega)]
      have hi : rs.idx < F.ns.length := by omega
      have hat : atI (F.ns.map V.int) (((rs.idx + 1 : Nat) : Int) - 1) = some (.int (F.ns.getD rs.idx 0)) := by
        unfold atI ixN
        rw [List.length_map, if_pos (by omega), if_pos (by omega)]
        show (F.ns.map V.int)[(((rs.idx + 1 : Nat) : Int) - 1).toNat]? = _
        have e : (((rs.idx + 1 : Nat) : Int) - 1).toNat = rs.idx := by omega
        rw [e, List.getElem?_map, List.getD_eq_getElem?_getD, List.getElem?_eq_getElem hi]; rfl
      have hd : drawn F.ns m rs = (F.ns.getD rs.idx 0 % m, { idx := rs.idx + 1, seed := (rs.seed * 48271 + F.ns.getD rs.idx 0 + 11) % 2147483647, car := if F.ns.getD rs.idx 0 ≥ 10 ^ 18 then F.ns.getD rs.idx 0 / m else rs.car }) := by unfold drawn; rw [if_neg hc, if_neg hx]
      rw [hd] at hD
      generalize F.ns.getD rs.idx 0 = c at hat hD
      refine ⟨_, rfl, F.r, _, 0, _, rfl, rfl, .of rA, rfl, _, rfl, F.r, _, 1, _, rfl, rfl, .of rA, rfl, _, 1, rfl, rfl, F.scr, _, _, _, rfl, rfl, sA, hat, ?_⟩
      refine ⟨_, rfl, F.r, _, 2, _, rfl, rfl, .of rA, rfl, rs.seed, 48271, rfl, rfl, seed_mul w.ok, _, rfl, _, c, rfl, rfl, _, 11, rfl, rfl, .inl ⟨_, rfl, _, 2147483647, rfl, rfl, (by decide : (0 : Int) < 2147483647), _, rfl, F.r, _, 2, 2, rfl, rfl, rA, rfl, ?_⟩⟩
      refine ⟨_, rfl, 10, 18, rfl, rfl, ⟨by decide, by decide, by decide⟩, c, _, rfl, rfl, _, rfl, ?_⟩
      have e18 : ((10 : Int) ^ (18 : Int).toNat) = 10 ^ 18 := by decide
      by_cases hb : c ≥ 10 ^ 18
      · dsimp only
        rw [if_pos (by rw [e18]; simpa using hb)]
        rw [if_pos hb] at hD
        have okB : RsOk { idx := rs.idx + 1, seed := (rs.seed * 48271 + c + 11) % 2147483647, car := c / m } := ⟨Int.emod_nonneg _ (by decide), Int.emod_lt_of_pos _ (by decide)⟩
        have okB' : RsOk { idx := rs.idx + 1, seed := (rs.seed * 48271 + c + 11) % 2147483647, car := rs.car } := okB
        have wB := wA.row' okB' (x := ((rs.idx + 1 : Nat) : Int)) rfl rfl rfl
        have wC := wB.row' okB (x := ((rs.idx + 1 : Nat) : Int)) rfl rfl rfl
        refine ⟨_, rfl, _, rfl, c, m, rfl, rfl, ⟨hm0.1, many_log hm0⟩, _, rfl, F.r, _, 3, 3, rfl, rfl, upd_same, rfl, ?_⟩
        exact ⟨_, rfl, .inl ⟨c, rfl, _, rfl, c, m, rfl, rfl, hm0.1, hD _ (Ext.row (Ext.row eA)) wC⟩⟩
      · dsimp only
        rw [if_neg (by rw [e18]; simpa using hb)]
        rw [if_neg hb] at hD
        have okB : RsOk { idx := rs.idx + 1, seed := (rs.seed * 48271 + c + 11) % 2147483647, car := rs.car } := ⟨Int.emod_nonneg _ (by decide), Int.emod_lt_of_pos _ (by decide)⟩
        have wB := wA.row' okB (x := ((rs.idx + 1 : Nat) : Int)) rfl rfl rfl
        exact ⟨_, rfl, .inl ⟨c, rfl, _, rfl, c, m, rfl, rfl, hm0.1, hD _ (Ext.row eA) wB⟩⟩
end
end Cd
namespace Cd
open PySem PySem.Spec PyProof.Rows L2 GxR C8 GenW
/-! The defs keep their promises. -/
/-- a def: what the head tells, its slots, whether it holds a generator expression, its meaning -/
structure DI where
  d : He.DefD
  N : List Str
  g : Bool
  fn : Fn
def DI.ps (i : DI) : List Str := i.N.take i.fn.np
def okDf (dn : List Str) (gi : List (Str × Int)) (tk : Str) (i : DI) : Bool := scC i.N i.ps i.d.scope && okSL i.N dn gi tk i.g i.d.scope i.fn.body i.d.body && decide (i.fn.ns = i.N.length) && decide (i.fn.np ≤ i.N.length)
theorem argR_sr {F : Fx} {B : Addr → Prop} {H : Hp} : ∀ {vs : List V} {l : List Slot}, ArgR F B H vs l → ∀ (i : Nat) (s : Slot), l[i]? = some s → SR F B H s ((vs.map some)[i]?) ∧ (∀ ds, s ≠ .ow ds)
  | _, _, .nil, i, s, h => by simp at h
  | _, _, .row r, 0, s, h => by simp at h; subst h; exact ⟨rfl, nofun⟩
  | _, _, .row r, i + 1, s, h => argR_sr r i s (by simpa using h)
  | _, _, .sh a r, 0, s, h => by simp at h; subst h; exact ⟨⟨_, rfl, a⟩, nofun⟩
  | _, _, .sh a r, i + 1, s, h => argR_sr r i s (by simpa using h)
theorem start_rl {F : Fx} {B : Addr → Prop} {H : Hp} {rs : RS} {N : List Str} {vs : List V} {l : List Slot} (br : B F.r) (bt : ∀ q, B q → ∃ o, H q = some o) (w : Wd F H rs) (a : ArgR F B H vs l) : Rl F B H (L2.start N vs) H (l ++ List.replicate (N.length - vs.length) .no) rs := by
  have noOw : ∀ (i : Nat) (ds : List PyData), (l ++ List.replicate (N.length - vs.length) Slot.no)[i]? ≠ some (.ow ds) := fun i ds h => by
    rw [List.getElem?_append] at h
    split at h
    · exact (argR_sr a i _ h).2 ds rfl
    · rw [List.getElem?_replicate] at h
      split at h <;> cases h
  have noA : ∀ i p, ¬ ownAt (l ++ List.replicate (N.length - vs.length) Slot.no) (L2.start N vs) i p := fun i p ⟨ds, h, _⟩ => noOw i ds h
  refine ⟨?_, fun i s h => ?_, fun i j p h => absurd h (noA i p), fun i p h => absurd h (noA i p), bt, br, ⟨rs, w⟩, .refl, w⟩
  · unfold L2.start
    rw [List.length_append, List.length_append, List.length_replicate, List.length_replicate, List.length_map, a.length]
  · have h1 := a.length
    rw [List.getElem?_append] at h
    unfold L2.start
    split at h
    · rename_i hi
      rw [List.getElem?_append_left (by rw [List.length_map]; omega)]
      exact (argR_sr a i s h).1.sub fun q z => z.elim (fun z => z) fun ⟨j, z⟩ => absurd z (noA j q)
    · rw [List.getElem?_replicate] at h
      split at h
      · cases h; trivial
      · cases h
/-- what all defs of the module share -/
structure Bs (P : Program) (w : World) (K : PySem.W.Frag) (mg : Str → Option Value) (base : Heap) (F : Fx) : Prop where
  kk : K = F.K
  take : Cal P w K mg base 2 F.tk (spTake F) []
  nob : ∀ x ∈ (["len", "tuple", "list", "sum", "max", "min", "sorted", "abs", "int", "isinstance", "bool", "str", "dict", "all", "any", "range", "enumerate", "zip", "set"] : List Str), mg x = none
  gis : ∀ x i, (x, i) ∈ F.gi → ∃ t, mg x = some (.int i t)
/-- what is known of one def -/
structure DOk (K : PySem.W.Frag) (mg : Str → Option Value) (base : Heap) (F : Fx) (i : DI) : Prop where
  f : ∃ (fd : FuncData), FunD K i.d.name i.d.name i.d.params i.d.body i.d.scope [] [] (He.fAd K i.d.at_) fd
  at_ : i.d.at_ = (i.d.name, none)
  mgf : mg i.d.name = some (.ref (He.fAd K i.d.at_))
  binds : ∀ (kV doc pm : Value) (an : Option Addr) (cdv ct : Value) (us : List Value), us.length = i.ps.length → bindArgs (PySem.W.fnOf i.d.name i.d.name i.d.params i.d.body i.d.scope .none kV doc pm an cdv ct) ⟨us, []⟩ = pure (i.ps.zip us)
  ok : okDf F.dn F.gi F.tk i = true
  gen : i.g = true → ∃ Q, TabB base mg (He.codeOf K i.d.at_) Q ∧ Q ∈ F.tabs
section
variable {P : Program} {w : World} {K : PySem.W.Frag} {mg : Str → Option Value} {base : Heap} {F : Fx}
theorem DI.psLen {i : DI} (h : i.fn.np ≤ i.N.length) : i.ps.length = i.fn.np := by
  unfold DI.ps
  rw [List.length_take]; omega
theorem spF_len {n j np : Nat} {fn : Fn} (hT : F.T[j]? = some fn) {vs : List V} {H : Hp} {Q : VK} {E : XK} (h : spF F n j vs H Q E) : vs.length = fn.np ∧ 0 < n := by
  obtain ⟨B, l, rs, d, rs', _, _, _, a, hc, _⟩ := h
  cases n with
  | zero => cases hc
  | succ n =>
    refine ⟨?_, Nat.succ_pos _⟩
    simp only [cal, hT] at hc
    split at hc
    · rename_i e; rw [a.length, e]
    · cases hc
/-- the body of a def, with its context -/
theorem body_ok {n j : Nat} {i : DI} (b : Bs P w K mg base F) (hT : F.T[j]? = some i.fn) (hok : okDf F.dn F.gi F.tk i = true) (IH : ∀ j x, F.dn[j]? = some x → Cal P w K mg base (lv n) x (spF F n j) []) {f : Addr} {cdv : Value} (gen : i.g = true → ∃ c Q, TabB base mg c Q ∧ cdv = .ref c ∧ Q ∈ F.tabs)
    {A : Around} {outer : List Env} {s : Shared} {H : Hp} {vs : List V} {Q : VK} {E : XK} (hr : Room (lv n + 7) (A.deeper (envOfC i.d.name i.d.scope s.heap.objs.size f cdv))) (h : spF F (n + 1) j vs H Q E) :
    ∃ t, PSs (cxOf C8.CX0 P w K mg base i.N i.d.name i.d.scope f cdv A outer s H E) i.d.body t ∧ t { nx := fun _ H' => Q .non H', rt := Q } (L2.start i.N vs) H := by
  unfold okDf at hok
  simp only [Bool.and_eq_true, decide_eq_true_eq] at hok
  obtain ⟨⟨⟨h1, h2⟩, h3⟩, h4⟩ := hok
  have S := fnScope_by h1
  have hg1 : i.g.toNat ≤ 1 := by cases i.g <;> decide
  refine ⟨tSs F n i.fn.body, PSs.nox (sndSL i.fn.body _ i.g _ ⟨⟨rfl, S.nd, b.kk, hr.mono (by omega), IH, b.take, b.nob, b.gis, fun z => ?_⟩, S.kind, fun _ => rfl, rfl⟩ h2), ?_⟩
  · have hg : i.g = true := by
      cases hgg : i.g with
      | true => rfl
      | false => rw [hgg] at z; cases z
    obtain ⟨c, Q, t1, t2, t3⟩ := gen hg
    exact ⟨c, Q, t1, t2, t3⟩
  · have hl := (spF_len (np := 0) hT h).1
    obtain ⟨B, l, rs, d, rs', br, bt, wd, a, hc, k⟩ := h
    simp only [cal, hT] at hc
    split at hc
    · obtain ⟨o, rs1, he, hc⟩ := bdS hc
      have R := start_rl (N := i.N) br bt wd a
      rw [hl, ← h3] at R
      refine ⟨B, H, _, rs, o, rs1, R, he, ?_⟩
      cases o with
      | rt d' => cases hc; exact fun v H' e w r => k v H' e w r
      | nx e => cases hc; exact fun σ' H' R' _ => k .non H' R'.ext R'.wd .non
      | bk e => cases hc
      | ct e => cases hc
    · cases hc
theorem defs_all {infos : List DI} (b : Bs P w K mg base F) (hT : F.T = infos.map (·.fn)) (hdn : F.dn = infos.map (·.d.name)) (hi : ∀ i ∈ infos, DOk K mg base F i) : ∀ n j x, F.dn[j]? = some x → Cal P w K mg base (lv n) x (spF F n j) [] := by
  intro n
  induction n with
  | zero =>
    intro j x hx
    rw [hdn, List.getElem?_map] at hx
    cases hj : infos[j]? with
    | none => rw [hj] at hx; cases hx
    | some i =>
      rw [hj] at hx; cases hx
      have o := hi i (List.mem_of_getElem? hj)
      obtain ⟨fd, fu⟩ := o.f
      have hTj : F.T[j]? = some i.fn := by rw [hT, List.getElem?_map, hj]; rfl
      exact ⟨_, fd, i.ps, [], ⟨fun vs H Q E h => absurd (spF_len (np := 0) hTj h).2 (by omega), fun A outer s H args us vs Q E _ _ _ _ h => absurd (spF_len (np := 0) hTj h).2 (by omega)⟩, o.mgf, fu.kp, fu.bindsN o.binds, .nil⟩
  | succ n IH =>
    intro j x hx
    rw [hdn, List.getElem?_map] at hx
    cases hj : infos[j]? with
    | none => rw [hj] at hx; cases hx
    | some i =>
      rw [hj] at hx; cases hx
      have o := hi i (List.mem_of_getElem? hj)
      obtain ⟨fd, fu⟩ := o.f
      have hTj : F.T[j]? = some i.fn := by rw [hT, List.getElem?_map, hj]; rfl
      have bd := fu.bindsN o.binds
      have kp := fu.kp
      have hok := o.ok
      obtain ⟨oc, od, dV, kV, doc, pm, an, cdv, ct, osl, rfl, lk, hcd, _, _⟩ := fu.ex
      have hc := o.ok
      unfold okDf at hc
      simp only [Bool.and_eq_true, decide_eq_true_eq] at hc
      have e : lv (n + 1) = lv n + 7 + 1 := by unfold lv; omega
      rw [e]
      refine ⟨_, _, i.ps, [], fn_of lk hcd (fnScope_by hc.1.1.1) (fun vs H Q E h => by rw [(spF_len (np := 0) hTj h).1, DI.psLen hc.2]) fun A outer s H vs Q E hr h => body_ok b hTj hok IH (fun hg => ?_) hr h, o.mgf, kp, bd, .nil⟩
      obtain ⟨Q, t1, t2⟩ := o.gen hg
      obtain ⟨c, hcc⟩ := He.codeIn_ref hcd
      have := He.codeOf_eq lk hcc
      rw [this] at t1
      exact ⟨c, Q, t1, hcc, t2⟩
end
end Cd
namespace Cd
open PySem PySem.Spec PyProof.Rows L2 GxR C8 GenW
/-! The draw's def, and the law's own def. -/
def lkOk (sc : Scope) : Bool := takeN.all (fun x => decide (sc.names.lookup x = some .local)) && glB sc "int" && glB sc "len"
section
variable {P : Program} {w : World} {K : PySem.W.Frag} {mg : Str → Option Value} {base : Heap}
theorem take_cal {F : Fx} {x : Str} {at_ : Str × Option Str} {params : Arguments} {body : List Stmt} {scope : Scope} {q : Nat → Pos} {fd : FuncData} (hK : K = F.K) (fu : FunD K x x params body scope [] [] (He.fAd K at_) fd) (hb : body = takeBody q) (hs : scC takeN (takeN.take 2) scope = true) (hl : lkOk scope = true)
    (hm : mg x = some (.ref (He.fAd K at_))) (hi : mg "int" = none) (hn : mg "len" = none) (binds : ∀ (kV doc pm : Value) (an : Option Addr) (cdv ct : Value) (us : List Value), us.length = (takeN.take 2).length → bindArgs (PySem.W.fnOf x x params body scope .none kV doc pm an cdv ct) ⟨us, []⟩ = pure ((takeN.take 2).zip us)) : Cal P w K mg base 2 x (spTake F) [] := by
  subst hb
  have S := fnScope_by hs
  unfold lkOk at hl
  simp only [Bool.and_eq_true, List.all_eq_true, decide_eq_true_eq] at hl
  have ok : FnOk P w K mg base C8.CX0 (1 + 1) (He.fAd K at_) fd (takeN.take 2) (spTake F) := by
    refine fu.ok S (fun vs H Q E h => ?_) fun cdv A outer s H vs Q E hr h => ?_
    · obtain ⟨m, rs, rfl, _⟩ := h; rfl
    · obtain ⟨m, rs, rfl, h1, h2, wd, k⟩ := h
      obtain ⟨t, h3, h4⟩ := take_ps (F := F) (X := (cxOf C8.CX0 P w K mg base takeN x scope (He.fAd K at_) cdv A outer s H E).nox) (q := q) rfl S.nd (fun x hx => hl.1.1 x hx) ⟨gl_of (X := (cxOf C8.CX0 P w K mg base takeN x scope (He.fAd K at_) cdv A outer s H E).nox) hl.1.2, gl_of (X := (cxOf C8.CX0 P w K mg base takeN x scope (He.fAd K at_) cdv A outer s H E).nox) hl.2⟩ ⟨hi, hn⟩ { nx := fun _ H' => Q .non H', rt := Q } H m rs ⟨h1, h2⟩ wd hK k
      exact ⟨t, PSs.nox h3, h4⟩
  exact ⟨_, fd, _, [], ok, hm, fu.kp, fu.bindsN binds, .nil⟩
/-- the law's first row -/
def lawSt (x : Str) (seed : Int) (q : Nat → Pos) : Stmt := .Assign [.Name x (q 0)] (.List [.Name "_law_script" (q 1), .Constant (.int 0) 0 (q 2), .Constant (.int seed) 0 (q 3), .Constant (.int 0) 0 (q 4)] (q 5)) (q 6)
/-- the fixed things of a law: all but the places of the row and the script -/
structure Lw where
  K : PySem.W.Frag
  tabs : List Addr
  T : List Fn
  dn : List Str
  gi : List (Str × Int)
  tk : Str
def Lw.fx (L : Lw) (r a : Addr) (ns : List Int) : Fx := ⟨r, a, ns, L.tabs, L.T, L.K, L.dn, L.gi, L.tk⟩
def spLaw (L : Lw) (most : Nat) : Sp := fun vs H Q _ => ∃ (a : Addr) (ns : List Int), vs = [.ref a] ∧ SqL L.K H a (ns.map V.int) ∧ (∀ p ∈ L.tabs, H p = some (.tbl #[])) ∧ ns.length ≤ most ∧ ∀ H', Q (.bl true) H'
def tX (L : Lw) (n : Nat) (b : SL) : TS := fun D σ H => ∃ r a ns, tSs (L.fx r a ns) n b D σ H
def env0 (N : List Str) (ri : Nat) : List Slot := (List.replicate N.length Slot.no).set ri .row
theorem law_fn {L : Lw} {n ri most : Nat} {seed : Int} {i : DI} {q : Nat → Pos} {rest : List Stmt} {x : Str} (hb : i.d.body = lawSt x seed q :: rest) (hL : L.K = K)
    (bs : ∀ r a ns, Bs P w K mg base (L.fx r a ns)) (hfns : ∀ r a ns j y, L.dn[j]? = some y → Cal P w K mg base (lv n) y (spF (L.fx r a ns) n j) [])
    {fd : FuncData} (fu : FunD K i.d.name i.d.name i.d.params i.d.body i.d.scope [] [] (He.fAd K i.d.at_) fd)
    (gen : i.g = true → ∃ Q, TabB base mg (He.codeOf K i.d.at_) Q ∧ Q ∈ L.tabs)
    (hsc : scC i.N ["_law_script"] i.d.scope = true) (hok : okSL i.N L.dn L.gi L.tk i.g i.d.scope i.fn.body rest = true) (hx : i.N[ri]? = some x) (hx2 : tgN i.N i.d.scope (fun _ => true) ri (.Name x (q 0)) = true) (hv : visB i.d.scope "_law_script" = true) (h0 : ri ≠ 0) (hs : RsOk ⟨0, seed, 0⟩)
    (hmath : ∀ ns : List Int, ns.length ≤ most → ∃ rs', exL ns (cal L.T ns n) i.fn.body (env0 i.N ri) ⟨0, seed, 0⟩ = some (.rt (.bool true), rs')) :
    FnOk P w K mg base C8.CX0 (lv n + 7 + 1) (He.fAd K i.d.at_) fd ["_law_script"] (spLaw L most) := by
  subst hL
  have S := fnScope_by hsc
  have hg1 : i.g.toNat ≤ 1 := by cases i.g <;> decide
  have n0 : i.N[0]? = some ("_law_script" : Str) := by
    have := S.pre
    cases hN : i.N with
    | nil => rw [hN] at this; cases this
    | cons a b => rw [hN] at this; simp at this; rw [this]; rfl
  obtain ⟨oc, od, dV, kV, doc, pm, an, cdv, ct, osl, rfl, lk, hcd, _, _⟩ := fu.ex
  refine fn_of lk hcd S (fun vs H Q E h => by obtain ⟨a, ns, rfl, _⟩ := h; rfl) fun A outer s H vs Q E hr h => ?_
  obtain ⟨a, ns, rfl, hS, ht, hl, hQ⟩ := h
  rw [hb]
  have sok : ∀ r a ns, Sok (L.fx r a ns) n i.g.toNat (cxOf C8.CX0 P w L.K mg base i.N i.d.name i.d.scope (He.fAd L.K i.d.at_) cdv A outer s H E).nox := fun r a ns => ⟨⟨rfl, S.nd, rfl, hr.mono (by omega), hfns r a ns, (bs r a ns).take, (bs r a ns).nob, (bs r a ns).gis, fun z => by
    have hg : i.g = true := by
      cases hgg : i.g with
      | true => rfl
      | false => rw [hgg] at z; cases z
    obtain ⟨Q, t1, t2⟩ := gen hg
    obtain ⟨c, hcc⟩ := He.codeIn_ref hcd
    have := He.codeOf_eq lk hcc
    rw [this] at t1
    exact ⟨c, Q, t1, hcc, t2⟩⟩, S.kind, fun _ => rfl, rfl⟩
  have p1 : PSs (cxOf C8.CX0 P w L.K mg base i.N i.d.name i.d.scope (He.fAd L.K i.d.at_) cdv A outer s H E).nox rest (tX L n i.fn.body) := ⟨fun pins s1 σ H1 D I ⟨r, a, ns, h⟩ => (sndSL i.fn.body _ i.g rest (sok r a ns) hok).run pins s1 σ H1 D I h⟩
  obtain ⟨g1, _⟩ := tgN_ok (X := (cxOf C8.CX0 P w L.K mg base i.N i.d.name i.d.scope (He.fAd L.K i.d.at_) cdv A outer s H E).nox) (fnB := fun _ => true) S.nd (fun _ _ => rfl) hx2
  have p0 := ps_asg (pos := q 6) (pe_lst (pos := q 5) (pa_cons (pe_var (X := (cxOf C8.CX0 P w L.K mg base i.N i.d.name i.d.scope (He.fAd L.K i.d.at_) cdv A outer s H E).nox) (pos := q 1) n0 (vis_of hv)) (pa_cons (pe_int (i := 0) (j := 0) (pos := q 2)) (pa_cons (pe_int (i := seed) (j := 0) (pos := q 3)) (pa_cons (pe_int (i := 0) (j := 0) (pos := q 4)) pa_nil))))) g1 rfl rfl rfl
  refine ⟨_, PSs.nox (pss_cons p0 p1), ?_⟩
  have hri : ri < i.N.length := (List.getElem?_eq_some_iff.mp hx).1
  have hN1 : 1 ≤ i.N.length := by omega
  refine ⟨.ref a, ?_, by simp; rw [sizeLine_eq]; decide, fun p hp => ?_⟩
  · unfold L2.start
    rfl
  · have hap : ∀ {z : Addr} {o : HO}, H z = some o → z ≠ p := fun {z o} e y => by rw [y, hp] at e; cases e
    have wd : Wd (L.fx p a ns) (upd H p (.lst [.ref a, .int 0, .int seed, .int 0])) ⟨0, seed, 0⟩ := by
      refine ⟨upd_same, ?_, fun t htt => ⟨#[], ?_, ?_⟩, hs⟩
      · rcases hS with (h | ⟨ob, h⟩) | h
        · exact .inl (.inl ((upd_ne (hap h)).trans h))
        · exact .inl (.inr ⟨ob, (upd_ne (hap h)).trans h⟩)
        · exact .inr h
      · rw [upd_ne (hap (ht t htt))]; exact ht t htt
      · first | exact trivial | constructor | simp [TriplesOk]
    obtain ⟨rs', hm⟩ := hmath ns hl
    have len0 : (L2.start i.N [.ref a]).length = i.N.length := by
      unfold L2.start
      rw [List.length_append, List.length_map, List.length_replicate]
      show 1 + (i.N.length - 1) = _
      omega
    have noOw : ∀ (k : Nat) (ds : List PyData), (env0 i.N ri)[k]? ≠ some (.ow ds) := fun k ds h => by
      unfold env0 at h
      rw [List.getElem?_set] at h
      split at h
      · split at h <;> cases h
      · rw [List.getElem?_replicate] at h
        split at h <;> cases h
    have noA : ∀ σ k z, ¬ ownAt (env0 i.N ri) σ k z := fun σ k z ⟨ds, h, _⟩ => noOw k ds h
    refine ⟨p, a, ns, fun q => q = p, _, env0 i.N ri, ⟨0, seed, 0⟩, _, rs', ⟨?_, fun k s h => ?_, fun k j z h => absurd h (noA _ k z), fun k z h => absurd h (noA _ k z), fun z hz => by subst hz; exact ⟨_, upd_same⟩, rfl, ⟨_, wd⟩, .refl, wd⟩, hm, fun v H' _ _ rep => by rw [rep.blE]; exact hQ H'⟩
    · unfold env0
      rw [List.length_set, List.length_replicate, List.length_set, len0]
    · unfold env0 at h
      rw [List.getElem?_set] at h ⊢
      by_cases hk : ri = k
      · rw [if_pos hk] at h ⊢
        split at h
        · cases h
          rw [if_pos (show ri < (L2.start i.N [V.ref a]).length from by rw [len0]; omega)]
          rfl
        · cases h
      · rw [if_neg hk] at h
        rw [List.getElem?_replicate] at h
        split at h
        · cases h; trivial
        · cases h
end
end Cd
namespace Cd
open PySem PySem.Spec PyProof.Rows L2 GxR C8 GenW
/-! A law, from its data. -/
def nobs : List Str := ["len", "tuple", "list", "sum", "max", "min", "sorted", "abs", "int", "isinstance", "bool", "str", "dict", "all", "any", "range", "enumerate", "zip", "set"]
structure LD where
  infos : List DI
  law : DI
  tk : He.DefD
  gi : List (Str × Int)
  /-- how deep calls may go -/
  n : Nat
  /-- the row's slot, its name, the seed, the places of the opening statement, of the draw's def, the rest of the law -/
  ri : Nat
  x : Str
  seed : Int
  q : Nat → Pos
  qt : Nat → Pos
  rest : List Stmt
namespace LD
variable (D : LD)
def fn : List He.DefD := D.infos.map (·.d) ++ [D.tk, D.law.d]
def fa : List He.Fa := D.infos.map (fun i => He.Fa.glo i.d.name) ++ (He.Fa.glo D.tk.name :: He.Fa.glo D.law.d.name :: (nobs.map He.Fa.free ++ D.gi.map fun p => He.Fa.int p.1 p.2))
def tf : List He.Defn := (D.infos.filter (·.g)).map (·.d.at_) ++ (if D.law.g then [D.law.d.at_] else [])
def dn : List Str := D.infos.map (·.d.name)
def T : List Fn := D.infos.map (·.fn)
def lw (K : PySem.W.Frag) : Lw := ⟨K, (D.tf.map (He.cT K)).map (·.2), D.T, D.dn, D.gi, D.tk.name⟩
def plain (d : He.DefD) : Bool := decide (d.at_ = (d.name, none)) && decide (d.qual = d.name) && d.dfl.isEmpty && d.kwd.isEmpty
/-- what the kernel looks at -/
def chk : Bool := D.infos.all (fun i => plain i.d && okDf D.dn D.gi D.tk.name i) && plain D.tk && plain D.law.d && scC takeN (takeN.take 2) D.tk.scope && lkOk D.tk.scope && decide (D.law.d.name = ("law" : Str)) &&
  scC D.law.N ["_law_script"] D.law.d.scope && okSL D.law.N D.dn D.gi D.tk.name D.law.g D.law.d.scope D.law.fn.body D.rest && decide (D.law.N[D.ri]? = some D.x) && tgN D.law.N D.law.d.scope (fun _ => true) D.ri (.Name D.x (D.q 0)) && visB D.law.d.scope "_law_script" && decide (D.ri ≠ 0) && decide (0 ≤ D.seed ∧ D.seed < 2147483647)
/-- the mathematics: what is left to be shown of the law -/
def Math (most : Nat) : Prop := ∀ ns : List Int, ns.length ≤ most → ∃ rs', exL ns (cal D.T ns D.n) D.law.fn.body (env0 D.law.N D.ri) ⟨0, D.seed, 0⟩ = some (.rt (.bool true), rs')
def Binds (d : He.DefD) (ps : List Str) : Prop := ∀ (kV doc pm : Value) (an : Option Addr) (cdv ct : Value) (us : List Value), us.length = ps.length → bindArgs (PySem.W.fnOf d.name d.name d.params d.body d.scope .none kV doc pm an cdv ct) ⟨us, []⟩ = pure (ps.zip us)
end LD
theorem funD_of {fa : List He.Fa} {fn : List He.DefD} {K : PySem.W.Frag} (c : He.SaysD fa fn K) {d : He.DefD} (h : d ∈ fn) (hp : LD.plain d = true) : ∃ fd, FunD K d.name d.name d.params d.body d.scope [] [] (He.fAd K d.at_) fd := by
  obtain ⟨fd, f⟩ := c.defs h
  unfold LD.plain at hp
  simp only [Bool.and_eq_true, decide_eq_true_eq, List.isEmpty_iff] at hp
  unfold He.DefD.dvs He.DefD.kws at f
  rw [hp.1.1.2, hp.1.2, hp.2] at f
  exact ⟨fd, f⟩
theorem law_at {l : PySem.W.OpenLaw} {D : LD} {most : Nat} {w : World} {K : PySem.W.Frag} {mg : Str → Option Value} {fa0 : Addr} {h : Heap} {ex : PySem.W.Frag → Bool} (KX : K.In h) (c : He.SaysX D.fa D.fn [] D.tf ex w h K) (G : h.Ns mainGlobals mg) (hfa : mg ("law" : Str) = some (.ref fa0))
    (ok : D.chk = true) (hbT : D.tk.body = takeBody D.qt) (hbL : D.law.d.body = lawSt D.x D.seed D.q :: D.rest) (b : ∀ i ∈ D.infos, LD.Binds i.d i.ps) (bT : LD.Binds D.tk (takeN.take 2)) (bL : LD.Binds D.law.d ["_law_script"]) (math : D.Math most) :
    LamX.LawAtS l w K C8.CX0 (lv D.n + 7 + 1) most "_law_script" mg fa0 h := by
  have cd := c.t.d
  unfold LD.chk at ok
  simp only [Bool.and_eq_true, List.all_eq_true, decide_eq_true_eq] at ok
  obtain ⟨⟨⟨⟨⟨⟨⟨⟨⟨⟨⟨⟨k1, k2⟩, k3⟩, k4⟩, k5⟩, k6⟩, k7⟩, k8⟩, k9⟩, k10⟩, k11⟩, k12⟩, k13⟩ := ok
  have hfn : ∀ i ∈ D.infos, i.d ∈ D.fn := fun i hi => List.mem_append.mpr (.inl (List.mem_map.mpr ⟨i, hi, rfl⟩))
  have hat : ∀ {d : He.DefD}, LD.plain d = true → d.at_ = (d.name, none) := fun {d} hp => by
    unfold LD.plain at hp
    simp only [Bool.and_eq_true, decide_eq_true_eq] at hp
    exact hp.1.1.1
  have hga : ∀ {d : He.DefD}, LD.plain d = true → He.fAd K d.at_ = He.ga K d.name := fun {d} hp => by rw [hat hp]; rfl
  have glo : ∀ {y : Str}, He.Fa.glo y ∈ D.fa → mg y = some (.ref (He.ga K y)) := fun {y} hy => He.glo_ok KX G (cd.facts hy)
  have tkM : mg D.tk.name = some (.ref (He.fAd K D.tk.at_)) := by rw [hga k2]; exact glo (List.mem_append.mpr (.inr List.mem_cons_self))
  have lawM : mg D.law.d.name = some (.ref (He.fAd K D.law.d.at_)) := by rw [hga k3]; exact glo (List.mem_append.mpr (.inr (List.mem_cons_of_mem _ List.mem_cons_self)))
  have free : ∀ y ∈ nobs, mg y = none := fun y hy => He.free_ok KX G (cd.facts (List.mem_append.mpr (.inr (List.mem_cons_of_mem _ (List.mem_cons_of_mem _ (List.mem_append.mpr (.inl (List.mem_map.mpr ⟨y, hy, rfl⟩))))))))
  have gis : ∀ y i, (y, i) ∈ D.gi → ∃ t, mg y = some (.int i t) := fun y i hy => He.int_ok KX G (cd.facts (List.mem_append.mpr (.inr (List.mem_cons_of_mem _ (List.mem_cons_of_mem _ (List.mem_append.mpr (.inr (List.mem_map.mpr ⟨_, hy, rfl⟩))))))))
  obtain ⟨fdL, fuL⟩ := funD_of cd (d := D.law.d) (List.mem_append.mpr (.inr (by simp))) k3
  obtain ⟨fdT, fuT⟩ := funD_of cd (d := D.tk) (List.mem_append.mpr (.inr (by simp))) k2
  have ha : fa0 = He.fAd K D.law.d.at_ := by
    rw [← k6, lawM] at hfa
    cases hfa; rfl
  subst ha
  have gen : ∀ {base : Heap} {i : DI}, (∀ p ∈ D.tf.map (He.cT K), TabB base mg p.1 p.2) → i.d.at_ ∈ D.tf → ∃ Q, TabB base mg (He.codeOf K i.d.at_) Q ∧ Q ∈ (D.tf.map (He.cT K)).map (·.2) := fun {base i} TB hi =>
    ⟨_, TB (He.cT K i.d.at_) (List.mem_map.mpr ⟨_, hi, rfl⟩), List.mem_map.mpr ⟨_, List.mem_map.mpr ⟨_, hi, rfl⟩, rfl⟩⟩
  refine ⟨fdL, D.tf.map (He.cT K), spLaw (D.lw K) most, fun p hp => ?_, fun p hp => ?_, fun p hp => ?_, fun s u => fuL.bindsA bL s [u] rfl, fun H a ns hl _ ht hS => ⟨a, ns, rfl, hS, fun p hp => ?_, hl, fun _ => rfl⟩, fun base KB GB TB0 => ?_⟩
  · obtain ⟨y, hy, rfl⟩ := List.mem_map.mp hp; exact c.empty y hy
  · obtain ⟨y, hy, rfl⟩ := List.mem_map.mp hp; exact c.out y hy
  · obtain ⟨y, hy, rfl⟩ := List.mem_map.mp hp; exact PySem.W.codeHd_of_K KX (c.hd y hy)
  · obtain ⟨y, hy, rfl⟩ := List.mem_map.mp hp; exact ht y hy
  · have TB : ∀ p ∈ D.tf.map (He.cT K), TabB base mg p.1 p.2 := fun p hp => ⟨(TB0 p hp).code, (TB0 p hp).bm, (TB0 p hp).gP⟩
    have bs : ∀ r a ns, Bs l.prog w K mg base (Lw.fx (D.lw K) r a ns) := fun r a ns =>
      ⟨rfl, take_cal rfl fuT hbT k4 k5 tkM (free _ (by decide)) (free _ (by decide)) bT, free, gis⟩
    have di : ∀ r a ns, ∀ i ∈ D.infos, DOk K mg base (Lw.fx (D.lw K) r a ns) i := fun r a ns i hi => by
      obtain ⟨p1, p2⟩ := k1 i hi
      refine ⟨funD_of cd (hfn i hi) p1, hat p1, ?_, b i hi, p2, fun hg => gen TB ?_⟩
      · rw [hga p1]; exact glo (List.mem_append.mpr (.inl (List.mem_map.mpr ⟨i, hi, rfl⟩)))
      · exact List.mem_append.mpr (.inl (List.mem_map.mpr ⟨i, List.mem_filter.mpr ⟨hi, hg⟩, rfl⟩))
    exact law_fn (L := D.lw K) (n := D.n) hbL rfl bs (fun r a ns => defs_all (infos := D.infos) (bs r a ns) rfl rfl (di r a ns) D.n) fuL (fun hg => gen TB (List.mem_append.mpr (.inr (by rw [hg]; simp)))) k7 k8 k9 k10 k11 k12 ⟨k13.1, k13.2⟩ math
end Cd
namespace Cd
open PySem
/-! Small laws of the small language. -/
theorem draw_bd (ns : List Int) (m : Int) (rs : RS) (h : 0 < m) : 0 ≤ (drawn ns m rs).1 ∧ (drawn ns m rs).1 < m := by
  unfold drawn
  split
  · exact ⟨Int.emod_nonneg _ (by omega), Int.emod_lt_of_pos _ h⟩
  · split
    · exact ⟨Int.emod_nonneg _ (by omega), Int.emod_lt_of_pos _ h⟩
    · exact ⟨Int.emod_nonneg _ (by omega), Int.emod_lt_of_pos _ h⟩
theorem exL_cons {ns : List Int} {C : CT} {fz : List Nat} {s : S} {r : SL} {env e1 : List Slot} {rs rs1 : RS} (h : exS ns C s (thaw env fz) rs = some (.nx e1, rs1)) : exL ns C (.cons fz s r) env rs = exL ns C r e1 rs1 := by
  simp only [exL, M.bd, h]
def restOf : SL → Nat → SL
  | s, 0 => s
  | .cons _ _ r, n + 1 => restOf r n
  | .nil, _ => .nil
end Cd
namespace Cd
open PySem
/-! Equations of the small language, where nothing is drawn. -/
section
theorem bd_ret {α β : Type} (a : α) (k : α → M β) : M.bd (M.ret a) k = k a := rfl
theorem of_some {α : Type} (a : α) : M.of (some a) = M.ret a := rfl
theorem mapL_pure {f : PyData → M (Option PyData)} {g : PyData → Option PyData} : ∀ {l : List PyData}, (∀ x ∈ l, f x = M.ret (g x)) → mapL f l = M.ret (l.filterMap g)
  | [], _ => rfl
  | x :: r, h => by
    unfold mapL
    rw [h x List.mem_cons_self, bd_ret, mapL_pure (l := r) fun y hy => h y (List.mem_cons_of_mem _ hy), bd_ret]
    cases e : g x with
    | none => rw [List.filterMap_cons_none e]
    | some y => rw [List.filterMap_cons_some e]
theorem allL_pure {f : PyData → M PyData} {p : PyData → Bool} : ∀ {l : List PyData}, (∀ x ∈ l, f x = M.ret (.bool (p x))) → allL f l = M.ret (l.all p)
  | [], _ => rfl
  | x :: r, h => by
    unfold allL
    rw [h x List.mem_cons_self, bd_ret, List.all_cons]
    cases p x with
    | true => rw [Bool.true_and]; exact allL_pure fun y hy => h y (List.mem_cons_of_mem _ hy)
    | false => rw [Bool.false_and]
theorem anyL_pure {f : PyData → M PyData} {p : PyData → Bool} : ∀ {l : List PyData}, (∀ x ∈ l, f x = M.ret (.bool (p x))) → anyL f l = M.ret (l.any p)
  | [], _ => rfl
  | x :: r, h => by
    unfold anyL
    rw [h x List.mem_cons_self, bd_ret, List.any_cons]
    cases p x with
    | true => rw [Bool.true_or]
    | false => rw [Bool.false_or]; exact anyL_pure fun y hy => h y (List.mem_cons_of_mem _ hy)
/-- a loop whose turns change a state; enc: the slots of a state -/
theorem frL_fold {σ : Type} {f : List Slot → PyData → M Out} (enc : σ → List Slot) (g : σ → PyData → σ) (Inv : σ → Prop) : ∀ {l : List PyData} {s : σ}, Inv s → (∀ s x, x ∈ l → Inv s → f (enc s) x = M.ret (.nx (enc (g s x))) ∧ Inv (g s x)) → frL f (enc s) l = M.ret (.nx (enc (l.foldl g s))) ∧ Inv (l.foldl g s)
  | [], s, i, _ => ⟨rfl, i⟩
  | x :: r, s, i, h => by
    obtain ⟨h1, h2⟩ := h s x List.mem_cons_self i
    unfold frL
    rw [h1, bd_ret, List.foldl_cons]
    exact frL_fold enc g Inv h2 fun s y hy => h s y (List.mem_cons_of_mem _ hy)
/-- a loop that may be left by a return -/
theorem frL_find {σ : Type} {f : List Slot → PyData → M Out} (enc : σ → List Slot) (g : σ → PyData → σ) (q : σ → PyData → Option PyData) : ∀ {l : List PyData} {s : σ}, (∀ s x, x ∈ l → f (enc s) x = M.ret (match q s x with | some d => Out.rt d | none => .nx (enc (g s x)))) → (∀ s x, x ∈ l → q s x = none) → frL f (enc s) l = M.ret (.nx (enc (l.foldl g s)))
  | [], s, _, _ => rfl
  | x :: r, s, h, hn => by
    unfold frL
    rw [h s x List.mem_cons_self, hn s x List.mem_cons_self, bd_ret, List.foldl_cons]
    exact frL_find enc g q (fun s y hy => h s y (List.mem_cons_of_mem _ hy)) fun s y hy => hn s y (List.mem_cons_of_mem _ hy)
/-- g, k times -/
def iter {σ : Type} (g : σ → σ) : Nat → σ → σ
  | 0, s => s
  | k + 1, s => iter g k (g s)
/-- a while loop: m bounds what is left -/
theorem whL_run {σ : Type} {c : List Slot → M Bool} {f : List Slot → M Out} (enc : σ → List Slot) (p : σ → Bool) (g : σ → σ) (Inv : σ → Prop) (m : σ → Nat) (hc : ∀ s, Inv s → c (enc s) = M.ret (p s)) (hf : ∀ s, Inv s → p s = true → f (enc s) = M.ret (.nx (enc (g s))) ∧ Inv (g s) ∧ m (g s) < m s) : ∀ (n : Nat) (s : σ), Inv s → m s < n → ∃ s', whL c f n (enc s) = M.ret (.nx (enc s')) ∧ Inv s' ∧ p s' = false ∧ ∃ k, s' = iter g k s ∧ ∀ j, j < k → p (iter g j s) = true := by
  intro n
  induction n with
  | zero => intro s _ h; omega
  | succ n ih =>
    intro s i h
    unfold whL
    rw [hc s i, bd_ret]
    cases e : p s with
    | false => exact ⟨s, by simp, i, e, 0, rfl, fun j hj => by omega⟩
    | true =>
      obtain ⟨h1, h2, h3⟩ := hf s i e
      rw [if_pos rfl, h1, bd_ret]
      obtain ⟨s', k1, k2, k3, k, k4, k5⟩ := ih (g s) h2 (by omega)
      refine ⟨s', k1, k2, k3, k + 1, k4, fun j hj => ?_⟩
      cases j with
      | zero => exact e
      | succ j => exact k5 j (by omega)
/-- a loop, by what holds before each turn -/
theorem frL_inv {f : List Slot → PyData → M Out} : ∀ {l : List PyData} (P : Nat → List Slot → Prop), (∀ i x env, l[i]? = some x → P i env → ∃ env', f env x = M.ret (.nx env') ∧ P (i + 1) env') → ∀ {env : List Slot}, P 0 env → ∃ env', frL f env l = M.ret (.nx env') ∧ P l.length env'
  | [], _, _, env, h => ⟨env, rfl, h⟩
  | x :: r, P, h, env, h0 => by
    obtain ⟨e1, h1, h2⟩ := h 0 x env rfl h0
    obtain ⟨e2, h3, h4⟩ := frL_inv (l := r) (fun i env => P (i + 1) env) (fun i y env hy => h (i + 1) y env (by simpa using hy)) h2
    refine ⟨e2, ?_, h4⟩
    unfold frL
    rw [h1, bd_ret]; exact h3
theorem whL_inv {c : List Slot → M Bool} {f : List Slot → M Out} (P : Nat → List Slot → Prop) (Q : List Slot → Prop) (h : ∀ m env, P m env → (c env = M.ret false ∧ Q env) ∨ (c env = M.ret true ∧ ∃ env' m', f env = M.ret (.nx env') ∧ m' < m ∧ P m' env')) : ∀ (n m : Nat) (env : List Slot), P m env → m < n → ∃ env', whL c f n env = M.ret (.nx env') ∧ Q env' := by
  intro n
  induction n with
  | zero => intro m env _ h; omega
  | succ n ih =>
    intro m env hp hm
    unfold whL
    rcases h m env hp with ⟨h1, h2⟩ | ⟨h1, env', m', h2, h3, h4⟩
    · exact ⟨env, by rw [h1, bd_ret]; rfl, h2⟩
    · obtain ⟨e2, k1, k2⟩ := ih m' env' h4 (by omega)
      exact ⟨e2, by rw [h1, bd_ret, if_pos rfl, h2, bd_ret]; exact k1, k2⟩
/-! ### steps -/
variable {ns : List Int} {C : CT}
theorem exL_step {fz : List Nat} {s : S} {r : SL} {env e1 : List Slot} (h : exS ns C s (thaw env fz) = M.ret (.nx e1)) : exL ns C (.cons fz s r) env = exL ns C r e1 := by
  simp only [exL, h, bd_ret]
theorem exL_ret {fz : List Nat} {s : S} {r : SL} {env : List Slot} {d : PyData} (h : exS ns C s (thaw env fz) = M.ret (.rt d)) : exL ns C (.cons fz s r) env = M.ret (.rt d) := by
  simp only [exL, h, bd_ret]
theorem exL_nil {env : List Slot} : exL ns C .nil env = M.ret (.nx env) := by simp only [exL]
theorem x_set {i : Nat} {e : E} {env : List Slot} {d : PyData} (h : evE ns C e env = M.ret d) : exS ns C (.set i e) env = M.ret (.nx (setFr env i e d)) := by simp only [exS, h, bd_ret]
theorem x_ret {e : E} {env : List Slot} {d : PyData} (h : evE ns C e env = M.ret d) : exS ns C (.ret e) env = M.ret (.rt d) := by simp only [exS, h, bd_ret]
theorem x_drop {e : E} {env : List Slot} {d : PyData} (h : evE ns C e env = M.ret d) : exS ns C (.drop e) env = M.ret (.nx env) := by simp only [exS, h, bd_ret]
theorem x_app {i : Nat} {e : E} {env : List Slot} {l : List PyData} {d : PyData} (h : evE ns C e env = M.ret d) (hi : env[i]? = some (.ow l)) (hl : l.length < LB) : exS ns C (.app i e) env = M.ret (.nx (env.set i (.ow (l ++ [d])))) := by simp only [exS, h, bd_ret, hi, if_pos hl]
theorem x_par {is : List Nat} {es : EL} {env e1 : List Slot} {l : List PyData} (h : evL ns C es env = M.ret l) (hs : setPar env is es l = some e1) : exS ns C (.par is es) env = M.ret (.nx e1) := by simp only [exS, h, bd_ret, hs]
theorem x_ite {c : E} {a b : SL} {env : List Slot} {t : Bool} (h : evT ns C c env = M.ret t) : exS ns C (.ite c a b) env = if t then exL ns C a env else exL ns C b env := by simp only [exS, h, bd_ret]
theorem x_wh {c : E} {b : SL} {env : List Slot} : exS ns C (.wh c b) env = whL (fun env => evT ns C c env) (fun env => exL ns C b env) 100000 env := by simp only [exS]
theorem x_fr {t : Tg} {it : It} {b : SL} {env : List Slot} {l : List PyData} (hf : frOk env it = true) (h : evI ns C it env = M.ret l) : exS ns C (.fr t it b) env = frL (fun env x => match bindT env t x with | some env' => exL ns C b env' | none => M.no) env l := by simp only [exS, hf, h, bd_ret] <;> rfl
theorem l_one {e : E} {r : EL} {env : List Slot} {d : PyData} {l : List PyData} (h : evE ns C e env = M.ret d) (hr : evL ns C r env = M.ret l) : evL ns C (.cons false e r) env = M.ret (d :: l) := by simp only [evL, h, hr, bd_ret]
theorem okD_int (i : Int) : okD (.int i) = true := rfl
theorem eqv_int (a b : Int) : PyData.eqv (.int a) (.int b) = decide (a = b) := by
  first
    | rfl
    | (simp [PyData.eqv])
theorem cmp_ne (a b : Int) : cmpD .ne (.int a) (.int b) = some (decide (a ≠ b)) := by
  unfold cmpD
  simp [okD_int, eqv_int]
theorem cmp_eq (a b : Int) : cmpD .eq (.int a) (.int b) = some (decide (a = b)) := by
  unfold cmpD
  simp [okD_int, eqv_int]
theorem t_ne {a b : E} {env : List Slot} {i j : Int} (ha : rd env a (evE ns C a env) = M.ret (.int i)) (hb : rd env b (evE ns C b env) = M.ret (.int j)) : evT ns C (.cmp .ne a b) env = M.ret (decide (i ≠ j)) := by
  simp only [evT, ha, hb, bd_ret, cmp_ne] <;> rfl
theorem t_eq {a b : E} {env : List Slot} {i j : Int} (ha : rd env a (evE ns C a env) = M.ret (.int i)) (hb : rd env b (evE ns C b env) = M.ret (.int j)) : evT ns C (.cmp .eq a b) env = M.ret (decide (i = j)) := by
  simp only [evT, ha, hb, bd_ret, cmp_eq] <;> rfl
theorem t_and2 {a b : E} {env : List Slot} {p q : Bool} (ha : evT ns C a env = M.ret p) (hb : p = true → evT ns C b env = M.ret q) : evT ns C (.and a b) env = M.ret (p && q) := by
  simp only [evT, ha, bd_ret]
  cases p with
  | true => rw [if_pos rfl, hb rfl, Bool.true_and]
  | false => rfl
theorem e_bin2 {o : Bop} {a b : E} {env : List Slot} {x y d : PyData} (ha : rd env a (evE ns C a env) = M.ret x) (hb : rd env b (evE ns C b env) = M.ret y) (h : binD o x y = some d) : evE ns C (.bin o a b) env = M.ret d := by
  simp only [evE, ha, hb, bd_ret, h, of_some]
theorem e_f12 {f : B1} {a : E} {env : List Slot} {x d : PyData} (ha : rd env a (evE ns C a env) = M.ret x) (h : f1D f x = some d) : evE ns C (.f1 f a) env = M.ret d := by
  simp only [evE, ha, bd_ret, h, of_some]
theorem e_cmp2 {o : Cop} {a b : E} {env : List Slot} {x y : PyData} {k : Bool} (ha : rd env a (evE ns C a env) = M.ret x) (hb : rd env b (evE ns C b env) = M.ret y) (h : cmpD o x y = some k) : evE ns C (.cmp o a b) env = M.ret (.bool k) := by
  simp only [evE, ha, hb, bd_ret, h]
theorem t_cmp2 {o : Cop} {a b : E} {env : List Slot} {x y : PyData} {k : Bool} (ha : rd env a (evE ns C a env) = M.ret x) (hb : rd env b (evE ns C b env) = M.ret y) (h : cmpD o x y = some k) : evT ns C (.cmp o a b) env = M.ret k := by
  simp only [evT, ha, hb, bd_ret, h, of_some]
theorem bin_addL {a b : List PyData} (h : a.length + b.length ≤ LB) : binD .add (.list a) (.list b) = some (.list (a ++ b)) := by
  simp only [binD, if_pos h]
theorem bin_mul1 {x : PyData} {b : Int} (h : 0 ≤ b ∧ b ≤ 1000) : binD .mul (.list [x]) (.int b) = some (.list (List.replicate b.toNat x)) := by
  simp only [binD, if_pos h]
theorem e_call2 {f : Nat} {es : EL} {env l : List Slot} {d : PyData} (h : evA ns C es env = M.ret l) (hc : C f l = M.ret d) (hb : (brw env es && !noL d) = false) : evE ns C (.call f es) env = M.ret d := by
  simp only [evE, h, hc, bd_ret, lent, hb] <;> rfl
theorem t_call2 {f : Nat} {es : EL} {env l : List Slot} {d : PyData} {k : Bool} (h : evA ns C es env = M.ret l) (hc : C f l = M.ret d) (hb : (brw env es && !noL d) = false) (hk : truthD d = some k) : evT ns C (.call f es) env = M.ret k := by
  have e : lent (brw env es) d = M.ret d := by unfold lent; rw [hb]; rfl
  simp only [evT, h, hc, bd_ret, e, hk, of_some]
end
end Cd
namespace Cd
open PySem
/-! Charts, and the defs that nearly every law shares. -/
abbrev dN (k : Nat) : PyData := .int (k : Int)
abbrev mN (l : List Nat) : List PyData := l.map dN
abbrev dT (l : List Nat) : PyData := .tuple (mN l)
def up (c : List Nat) (k : Nat) : Nat := c.getD (k - 1) 0
/-- a chart of at most six: nobody is above himself; r: how low each stands -/
structure Good (c : List Nat) : Prop where
  one : 1 ≤ c.length
  six : c.length ≤ 6
  rk : ∃ r : Nat → Nat, ∀ k, 1 ≤ k → k ≤ c.length → up c k ≤ c.length ∧ (up c k ≠ 0 → r (up c k) < r k) ∧ r k < c.length
/-- here and all above -/
def asc (c : List Nat) : Nat → Nat → List Nat
  | 0, _ => []
  | f + 1, h => if h = 0 then [] else h :: asc c f (up c h)
def chainS (c : List Nat) (k : Nat) : List Nat := asc c c.length (up c k)
theorem asc_same {c : List Nat} {r : Nat → Nat} (hr : ∀ k, 1 ≤ k → k ≤ c.length → up c k ≤ c.length ∧ (up c k ≠ 0 → r (up c k) < r k) ∧ r k < c.length) : ∀ (f f' h : Nat), h ≤ c.length → (h ≠ 0 → r h < f ∧ r h < f') → asc c f h = asc c f' h
  | 0, 0, _, _, _ => rfl
  | 0, f' + 1, h, _, k => by
    by_cases h0 : h = 0
    · subst h0; simp [asc]
    · exact absurd (k h0).1 (by omega)
  | f + 1, 0, h, _, k => by
    by_cases h0 : h = 0
    · subst h0; simp [asc]
    · exact absurd (k h0).2 (by omega)
  | f + 1, f' + 1, h, hl, k => by
    by_cases h0 : h = 0
    · subst h0; simp [asc]
    · obtain ⟨a, b, d⟩ := hr h (by omega) hl
      have e := k h0
      simp only [asc, if_neg h0]
      rw [asc_same hr f f' (up c h) a fun z => by have := b z; omega]
theorem Good.step {c : List Nat} (g : Good c) {h : Nat} (h0 : h ≠ 0) (hl : h ≤ c.length) : asc c c.length h = h :: asc c c.length (up c h) := by
  obtain ⟨r, hr⟩ := g.rk
  obtain ⟨a, b, d⟩ := hr h (by omega) hl
  have e : asc c c.length h = asc c (c.length + 1) h := asc_same hr _ _ h hl fun _ => ⟨d, by omega⟩
  rw [e]
  simp only [asc, if_neg h0]
theorem Good.le {c : List Nat} (g : Good c) {k : Nat} (h1 : 1 ≤ k) (hl : k ≤ c.length) : up c k ≤ c.length := by
  obtain ⟨r, hr⟩ := g.rk
  exact (hr k h1 hl).1
theorem asc_len (c : List Nat) : ∀ (f h : Nat), (asc c f h).length ≤ f
  | 0, _ => Nat.le_refl _
  | f + 1, h => by
    unfold asc
    split
    · simp
    · have := asc_len c f (up c h); simp; omega
/-! ### reading -/
theorem ixD_nat {l : List PyData} {i : Nat} {d : PyData} (h : l[i]? = some d) : ixD l (i : Int) = some d := by
  unfold ixD
  rw [if_pos (by omega)]
  simpa using h
theorem ix_up {c : List Nat} {k : Nat} (h1 : 1 ≤ k) (hl : k ≤ c.length) : ixD (mN c) ((k : Int) - 1) = some (dN (up c k)) := by
  have e : ((k : Int) - 1) = ((k - 1 : Nat) : Int) := by omega
  rw [e]
  refine ixD_nat ?_
  rw [List.getElem?_map, List.getElem?_eq_getElem (by omega)]
  unfold up
  rw [List.getD_eq_getElem?_getD, List.getElem?_eq_getElem (by omega)]
  rfl
section
variable (ns : List Int) (C : CT)
theorem ev_up {env : List Slot} {i j : Nat} {c : List Nat} {k : Nat} (hi : env[i]? = some (.sh (dT c))) (hj : env[j]? = some (.sh (dN k))) (h1 : 1 ≤ k) (hl : k ≤ c.length) : evE ns C (.ix (.var i) (.bin .sub (.var j) (.int 1))) env = M.ret (dN (up c k)) := by
  simp only [evE, rd, hi, hj, bd_ret, binD, of_some, elemsD, ix_up h1 hl]
def ir_chain : SL := (.cons [] (.par [2, 3] (.cons false (.lst .nil) (.cons false (.ix (.var 0) (.bin .sub (.var 1) (.int 1))) .nil)))
  (.cons [] (.wh (.cmp .ne (.var 3) (.int 0)) (.cons [] (.app 2 (.var 3))
  (.cons [] (.set 3 (.ix (.var 0) (.bin .sub (.var 3) (.int 1))))
  .nil)))
  (.cons [2] (.ret (.var 2))
  .nil)))
theorem chain_ok {c : List Nat} {k : Nat} (g : Good c) (h1 : 1 ≤ k) (hl : k ≤ c.length) : exL ns C ir_chain [.sh (dT c), .sh (dN k), .no, .no] = M.ret (.rt (.list (mN (chainS c k)))) := by
  obtain ⟨r, hr⟩ := g.rk
  have s1 : exS ns C (.par [2, 3] (.cons false (.lst .nil) (.cons false (.ix (.var 0) (.bin .sub (.var 1) (.int 1))) .nil))) [.sh (dT c), .sh (dN k), .no, .no] = M.ret (.nx [.sh (dT c), .sh (dN k), .ow [], .sh (dN (up c k))]) :=
    x_par (l_one (d := .list []) rfl (l_one (ev_up ns C (i := 0) (j := 1) rfl rfl h1 hl) rfl)) rfl
  have w := whL_run (c := fun env => evT ns C (.cmp .ne (.var 3) (.int 0)) env) (f := fun env => exL ns C (.cons [] (.app 2 (.var 3)) (.cons [] (.set 3 (.ix (.var 0) (.bin .sub (.var 3) (.int 1)))) .nil)) env)
    (fun s : List Nat × Nat => [.sh (dT c), .sh (dN k), .ow (mN s.1), .sh (dN s.2)]) (fun s => s.2 != 0) (fun s => (s.1 ++ [s.2], up c s.2)) (fun s => s.2 ≤ c.length ∧ s.1 ++ asc c c.length s.2 = chainS c k) (fun s => if s.2 = 0 then 0 else r s.2 + 1)
    (fun s i => ?_) (fun s i e => ?_) 100000 ([], up c k) ⟨g.le h1 hl, by simp [chainS]⟩ ?_
  · obtain ⟨s', w1, ⟨i1, i2⟩, w3, _⟩ := w
    have h0 : s'.2 = 0 := by simpa using w3
    have hc : s'.1 = chainS c k := by
      rw [h0] at i2
      cases hn : c.length with
      | zero => have := g.one; omega
      | succ m => rw [hn] at i2; simpa [asc] using i2
    unfold ir_chain
    rw [exL_step s1, exL_step (x_wh.trans w1), hc]
    exact exL_ret (x_ret rfl)
  · show M.of (cmpD .ne (.int (s.2 : Int)) (.int 0)) = _
    rw [cmp_ne]
    show M.ret (decide ((s.2 : Int) ≠ 0)) = M.ret (s.2 != 0)
    congr 1
    cases hs : s.2 <;> simp
    omega
  · have h0 : s.2 ≠ 0 := by simpa using e
    have hle : s.1.length < LB := by
      have e1 := congrArg List.length i.2
      rw [List.length_append] at e1
      have e2 : (chainS c k).length ≤ c.length := asc_len c _ _
      have e3 := g.six
      unfold LB; omega
    refine ⟨?_, ⟨g.le (by omega) i.1, ?_⟩, ?_⟩
    · show exL ns C _ [.sh (dT c), .sh (dN k), .ow (mN s.1), .sh (dN s.2)] = _
      rw [exL_step (x_app (l := mN s.1) (d := dN s.2) rfl rfl (by rw [List.length_map]; exact hle)), exL_step (x_set (ev_up ns C (i := 0) (j := 3) (c := c) (k := s.2) rfl rfl (by omega) i.1)), exL_nil]
      show M.ret (Out.nx [.sh (dT c), .sh (dN k), .ow (mN s.1 ++ [dN s.2]), .sh (dN (up c s.2))]) = M.ret (Out.nx [.sh (dT c), .sh (dN k), .ow (mN (s.1 ++ [s.2])), .sh (dN (up c s.2))])
      have e9 : mN (s.1 ++ [s.2]) = mN s.1 ++ [dN s.2] := List.map_append
      rw [e9]
    · rw [← i.2, g.step h0 i.1, List.append_assoc]; rfl
    · obtain ⟨a, b, d⟩ := hr s.2 (by omega) i.1
      show (if up c s.2 = 0 then 0 else r (up c s.2) + 1) < (if s.2 = 0 then 0 else r s.2 + 1)
      rw [if_neg h0]
      split
      · omega
      · have := b (by assumption); omega
  · show (if up c k = 0 then 0 else r (up c k) + 1) < 100000
    have := g.six
    split
    · omega
    · obtain ⟨a, b, d⟩ := hr (up c k) (by omega) (g.le h1 hl)
      omega
theorem lenN (l : List Nat) : (mN l).length = l.length := List.length_map ..
theorem rngD_at {a : Int} {n i : Nat} {x : PyData} (h : (rngD a n)[i]? = some x) : i < n ∧ x = .int (a + i) := rngD_get n a i x h
def ir_is_in : SL := (.cons [] (.ret (.and (.isi (.var 0) ["int"]) (.and (.not (.isi (.var 0) ["bool"])) (.chn .le .le (.var 1) (.var 0) (.var 2)))))
  .nil)
theorem is_in_ok {v a b : Int} : exL ns C ir_is_in [.sh (.int v), .sh (.int a), .sh (.int b)] = M.ret (.rt (.bool (decide (a ≤ v ∧ v ≤ b)))) := by
  refine exL_ret (x_ret ?_)
  by_cases h1 : a ≤ v
  · have e1 : cmpD .le (.int a) (.int v) = some true := by simp [cmpD, h1]
    by_cases h2 : v ≤ b
    · have e2 : cmpD .le (.int v) (.int b) = some true := by simp [cmpD, h2]
      show (match cmpD .le (.int a) (.int v) with | some true => M.bd (M.ret (PyData.int b)) fun z => (match cmpD .le (.int v) z with | some k => M.ret (PyData.bool k) | none => M.no) | some false => M.ret (.bool false) | none => M.no) = _
      rw [e1]
      show (match cmpD .le (.int v) (.int b) with | some k => M.ret (PyData.bool k) | none => M.no) = _
      rw [e2]
      simp [h1, h2]
    · have e2 : cmpD .le (.int v) (.int b) = some false := by simp [cmpD, h2]
      show (match cmpD .le (.int a) (.int v) with | some true => M.bd (M.ret (PyData.int b)) fun z => (match cmpD .le (.int v) z with | some k => M.ret (PyData.bool k) | none => M.no) | some false => M.ret (.bool false) | none => M.no) = _
      rw [e1]
      show (match cmpD .le (.int v) (.int b) with | some k => M.ret (PyData.bool k) | none => M.no) = _
      rw [e2]
      simp [h1, h2]
  · have e1 : cmpD .le (.int a) (.int v) = some false := by simp [cmpD, h1]
    show (match cmpD .le (.int a) (.int v) with | some true => M.bd (M.ret (PyData.int b)) fun z => (match cmpD .le (.int v) z with | some k => M.ret (PyData.bool k) | none => M.no) | some false => M.ret (.bool false) | none => M.no) = _
    rw [e1]
    simp [h1]
def ir_comes_up : SL := (.cons [] (.fr (.nm 1) (.r2 (.int 1) (.bin .add (.f1 .len (.var 0)) (.int 1))) (.cons [] (.par [2, 3] (.cons false (.var 1) (.cons false (.int 0) .nil)))
  (.cons [] (.wh (.and (.cmp .ne (.var 2) (.int 0)) (.cmp .le (.var 3) (.f1 .len (.var 0)))) (.cons [] (.par [2, 3] (.cons false (.ix (.var 0) (.bin .sub (.var 2) (.int 1))) (.cons false (.bin .add (.var 3) (.int 1)) .nil)))
  .nil))
  (.cons [] (.ite (.cmp .ne (.var 2) (.int 0)) (.cons [] (.ret (.bl false))
  .nil) .nil)
  .nil))))
  (.cons [] (.ret (.bl true))
  .nil))
theorem rng_len {c : List Nat} {env : List Slot} {i : Nat} (h : env[i]? = some (.sh (dT c))) (hs : c.length ≤ 6) : evI ns C (.r2 (.int 1) (.bin .add (.f1 .len (.var i)) (.int 1))) env = M.ret (rngD 1 c.length) := by
  simp only [evI, evE, rd, h, bd_ret, f1D, of_some, binD, lenN]
  rw [if_pos (by omega)]
  congr 2
  omega
theorem comes_up_ok {c : List Nat} (g : Good c) : exL ns C ir_comes_up [.sh (dT c), .no, .no, .no] = M.ret (.rt (.bool true)) := by
  obtain ⟨r, hr⟩ := g.rk
  have six := g.six
  have w0 := frL_inv (f := fun env x => match bindT env (.nm 1) x with | some env' => exL ns C (.cons [] (.par [2, 3] (.cons false (.var 1) (.cons false (.int 0) .nil)))
    (.cons [] (.wh (.and (.cmp .ne (.var 2) (.int 0)) (.cmp .le (.var 3) (.f1 .len (.var 0)))) (.cons [] (.par [2, 3] (.cons false (.ix (.var 0) (.bin .sub (.var 2) (.int 1))) (.cons false (.bin .add (.var 3) (.int 1)) .nil))) .nil))
    (.cons [] (.ite (.cmp .ne (.var 2) (.int 0)) (.cons [] (.ret (.bl false)) .nil) .nil) .nil))) env' | none => M.no) (l := rngD 1 c.length) (fun _ env => ∃ s1 s2 s3, env = [.sh (dT c), s1, s2, s3]) (fun i x env hx ⟨s1, s2, s3, he⟩ => ?_) ⟨.no, .no, .no, rfl⟩
  · obtain ⟨e1, h1, -⟩ := w0
    unfold ir_comes_up
    rw [exL_step ((x_fr (ns := ns) (C := C) rfl (rng_len ns C rfl six)).trans h1)]
    first | done | exact exL_ret (x_ret rfl)
  · subst he
    obtain ⟨hi, rfl⟩ := rngD_at hx
    have e9 : (1 : Int) + (i : Int) = ((i + 1 : Nat) : Int) := by omega
    rw [e9]
    have w1 := whL_inv (c := fun env => evT ns C (.and (.cmp .ne (.var 2) (.int 0)) (.cmp .le (.var 3) (.f1 .len (.var 0)))) env) (f := fun env => exL ns C (.cons [] (.par [2, 3] (.cons false (.ix (.var 0) (.bin .sub (.var 2) (.int 1))) (.cons false (.bin .add (.var 3) (.int 1)) .nil))) .nil) env)
      (fun m env => ∃ h k : Nat, env = [.sh (dT c), .sh (dN (i + 1)), .sh (dN h), .sh (dN k)] ∧ h ≤ c.length ∧ (h ≠ 0 → k + r h < c.length ∧ m = r h + 1)) (fun env => ∃ k : Nat, env = [.sh (dT c), .sh (dN (i + 1)), .sh (dN 0), .sh (dN k)])
      (fun m env ⟨h, k, he, hh, hm⟩ => ?_) 100000 (r (i + 1) + 1) [.sh (dT c), .sh (dN (i + 1)), .sh (dN (i + 1)), .sh (dN 0)] ⟨i + 1, 0, rfl, by omega, fun _ => ⟨by have := (hr (i + 1) (by omega) (by omega)).2.2; omega, rfl⟩⟩ (by have := (hr (i + 1) (by omega) (by omega)).2.2; omega)
    · obtain ⟨e2, k1, m9, k2⟩ := w1
      subst k2
      refine ⟨[.sh (dT c), .sh (dN (i + 1)), .sh (dN 0), .sh (dN m9)], ?_, _, _, _, rfl⟩
      show exL ns C _ [.sh (dT c), .sh (dN (i + 1)), s2, s3] = _
      rw [exL_step (x_par (l := [dN (i + 1), .int 0]) (l_one rfl (l_one rfl rfl)) rfl), exL_step (x_wh.trans k1), exL_step ((x_ite (t_ne (i := 0) (j := 0) rfl rfl)).trans rfl), exL_nil]
      rfl
    · subst he
      have hc1 : evT ns C (.cmp .ne (.var 2) (.int 0)) [.sh (dT c), .sh (dN (i + 1)), .sh (dN h), .sh (dN k)] = M.ret (decide ((h : Int) ≠ 0)) := t_ne rfl rfl
      by_cases h0 : h = 0
      · subst h0
        refine .inl ⟨?_, k, rfl⟩
        exact (t_and2 (q := true) hc1 (fun z => by simp at z)).trans rfl
      · obtain ⟨hm1, hm2⟩ := hm h0
        obtain ⟨u1, u2, u3⟩ := hr h (by omega) hh
        refine .inr ⟨?_, [.sh (dT c), .sh (dN (i + 1)), .sh (dN (up c h)), .sh (dN (k + 1))], if up c h = 0 then 0 else r (up c h) + 1, ?_, ?_, up c h, k + 1, rfl, u1, fun z => ⟨by have := u2 z; omega, by rw [if_neg z]⟩⟩
        · have hc2 : evT ns C (.cmp .le (.var 3) (.f1 .len (.var 0))) [.sh (dT c), .sh (dN (i + 1)), .sh (dN h), .sh (dN k)] = M.ret true := by
            show M.of (some (decide ((k : Int) ≤ (mN c).length))) = _
            rw [lenN, decide_eq_true (by omega)]; rfl
          refine (t_and2 hc1 fun _ => hc2).trans ?_
          have : decide ((h : Int) ≠ 0) = true := by simpa using h0
          rw [this]; rfl
        · show exL ns C _ [.sh (dT c), .sh (dN (i + 1)), .sh (dN h), .sh (dN k)] = _
          rw [exL_step (x_par (l := [dN (up c h), .int ((k : Int) + 1)]) (l_one (ev_up ns C (i := 0) (j := 2) rfl rfl (by omega) hh) (l_one rfl rfl)) rfl), exL_nil]
          rfl
        · split
          · omega
          · have := u2 (by assumption); omega
def ir_is_chart (f g : Nat) : SL := (.cons [] (.ite (.or (.not (.isi (.var 0) ["tuple"])) (.not (.chn .le .le (.int 1) (.f1 .len (.var 0)) (.gi "MOST_PEOPLE" 6)))) (.cons [] (.ret (.bl false))
  .nil) .nil)
  (.cons [] (.ret (.and (.g .all [("one", 1)] (.nm 1) (.seq (.var 0)) (.call f (.cons false (.var 1) (.cons false (.int 0) (.cons false (.f1 .len (.var 0)) .nil))))) (.call g (.cons false (.var 0) .nil))))
  .nil))
/-- what a def that answers by its numbers says -/
def InOk (C : CT) (f : Nat) : Prop := ∀ v a b : Int, C f [.sh (.int v), .sh (.int a), .sh (.int b)] = M.ret (.bool (decide (a ≤ v ∧ v ≤ b)))
theorem mem_le {c : List Nat} (g : Good c) : ∀ x ∈ c, x ≤ c.length := fun x hx => by
  obtain ⟨i, hi, e⟩ := List.mem_iff_getElem.mp hx
  have := g.le (k := i + 1) (by omega) (by omega)
  unfold up at this
  rw [List.getD_eq_getElem?_getD, Nat.add_sub_cancel, List.getElem?_eq_getElem hi, e] at this
  exact this
theorem allL_true {f : PyData → M PyData} : ∀ {l : List PyData}, (∀ x ∈ l, f x = M.ret (.bool true)) → allL f l = M.ret true := fun {l} h => by
  rw [allL_pure (p := fun _ => true) h]
  congr 1
  simp
theorem e_and2 {a b : E} {env : List Slot} {p q : Bool} (ha : evE ns C a env = M.ret (.bool p)) (hb : p = true → evE ns C b env = M.ret (.bool q)) : evE ns C (.and a b) env = M.ret (.bool (p && q)) := by
  have e : evE ns C (.and a b) env = M.bd (evE ns C a env) fun x => (match truthD x with | some true => evE ns C b env | some false => M.ret x | none => M.no) := by simp only [evE] <;> rfl
  rw [e, ha, bd_ret]
  cases p with
  | true => rw [Bool.true_and]; exact hb rfl
  | false => rfl
theorem is_chart_ok {c : List Nat} (gd : Good c) {f g : Nat} (hf : InOk C f) (hg : C g [.sh (dT c)] = M.ret (.bool true)) : exL ns C (ir_is_chart f g) [.sh (dT c), .no] = M.ret (.rt (.bool true)) := by
  have one := gd.one
  have six := gd.six
  have t1 : evT ns C (.or (.not (.isi (.var 0) ["tuple"])) (.not (.chn .le .le (.int 1) (.f1 .len (.var 0)) (.gi "MOST_PEOPLE" 6)))) [.sh (dT c), .no] = M.ret false := by
    have a1 : evT ns C (.isi (.var 0) ["tuple"]) [.sh (dT c), .no] = M.ret true := rfl
    have a2 : evT ns C (.chn .le .le (.int 1) (.f1 .len (.var 0)) (.gi "MOST_PEOPLE" 6)) [.sh (dT c), .no] = M.ret true := by
      show (match cmpD .le (.int 1) (.int (mN c).length) with | some true => M.bd (M.ret (PyData.int 6)) fun z => M.of (cmpD .le (.int (mN c).length) z) | some false => M.ret false | none => M.no) = _
      rw [lenN]
      have e1 : cmpD .le (.int 1) (.int (c.length : Int)) = some true := by simp [cmpD]; omega
      have e2 : cmpD .le (.int (c.length : Int)) (.int 6) = some true := by simp [cmpD]; omega
      rw [e1]
      show M.of (cmpD .le (.int (c.length : Int)) (.int 6)) = _
      rw [e2]; rfl
    simp only [evT] at a1 a2 ⊢
    rw [a1]
    simp only [bd_ret, a2]
    rfl
  unfold ir_is_chart
  rw [exL_step ((x_ite t1).trans rfl)]
  refine exL_ret (x_ret ?_)
  have a3 : evE ns C (.g .all [("one", 1)] (.nm 1) (.seq (.var 0)) (.call f (.cons false (.var 1) (.cons false (.int 0) (.cons false (.f1 .len (.var 0)) .nil))))) [.sh (dT c), .no] = M.ret (.bool true) := by
    have a4 : allL (fun x => match bindT (wipeE [.sh (dT c), .no] [1]) (.nm 1) x with | some env' => evE ns C (.call f (.cons false (.var 1) (.cons false (.int 0) (.cons false (.f1 .len (.var 0)) .nil)))) env' | none => M.no) (mN c) = M.ret true := allL_true fun x hx => ?_
    · simp only [evE]
      rw [show evI ns C (.seq (.var 0)) [.sh (dT c), .no] = M.ret (mN c) from rfl, bd_ret]
      exact (congrArg (fun m => M.bd m fun b => M.ret (PyData.bool b)) a4).trans rfl
    obtain ⟨k, hk, rfl⟩ := List.mem_map.mp hx
    have hk2 := mem_le gd k hk
    refine e_call2 (env := [.sh (dT c), .sh (dN k)]) (l := [.sh (dN k), .sh (.int 0), .sh (.int (mN c).length)]) rfl ?_ rfl
    rw [hf, lenN, decide_eq_true (by omega)]
  exact (e_and2 ns C (q := true) a3 fun _ => e_call2 (l := [.sh (dT c)]) rfl hg rfl).trans rfl
def ir_need_chart (f : Nat) : SL := (.cons [] (.ite (.not (.call f (.cons false (.var 0) .nil))) (.cons [] .fail
  .nil) .nil)
  .nil)
theorem need_chart_ok {d : PyData} {f : Nat} (hf : C f [.sh d] = M.ret (.bool true)) : exL ns C (ir_need_chart f) [.sh d] = M.ret (.nx [.sh d]) := by
  have t : evT ns C (.not (.call f (.cons false (.var 0) .nil))) [.sh d] = M.ret false := by
    have t1 : evT ns C (.call f (.cons false (.var 0) .nil)) [.sh d] = M.ret true := t_call2 (l := [.sh d]) rfl hf rfl rfl
    simp only [evT] at t1 ⊢
    rw [t1]; rfl
  unfold ir_need_chart
  rw [exL_step ((x_ite t).trans rfl), exL_nil]
end
end Cd
namespace Cd
open PySem
/-! What holds of an answer, whatever is drawn. -/
def Ev {α : Type} (m : M α) (P : α → Prop) : Prop := ∀ rs, ∃ a rs', m rs = some (a, rs') ∧ P a
theorem Ev.of {α : Type} {m : M α} {a : α} {P : α → Prop} (h : m = M.ret a) (p : P a) : Ev m P := fun rs => ⟨a, rs, by rw [h]; rfl, p⟩
theorem Ev.bd {α β : Type} {m : M α} {k : α → M β} {P : α → Prop} {Q : β → Prop} (h : Ev m P) (hk : ∀ a, P a → Ev (k a) Q) : Ev (M.bd m k) Q := fun rs => by
  obtain ⟨a, r1, h1, p⟩ := h rs
  obtain ⟨b, r2, h2, q⟩ := hk a p r1
  exact ⟨b, r2, by simp only [M.bd, h1, h2], q⟩
theorem Ev.mono {α : Type} {m : M α} {P Q : α → Prop} (h : Ev m P) (k : ∀ a, P a → Q a) : Ev m Q := fun rs => by
  obtain ⟨a, r, h1, p⟩ := h rs
  exact ⟨a, r, h1, k a p⟩
theorem Ev.eq {α : Type} {m : M α} {a : α} (h : Ev m fun x => x = a) (rs : RS) : ∃ rs', m rs = some (a, rs') := by
  obtain ⟨b, r, h1, rfl⟩ := h rs
  exact ⟨r, h1⟩
section
variable {ns : List Int} {C : CT}
/-- what goes on to the next statement with P -/
def Nx (P : List Slot → Prop) : Out → Prop := fun o => ∃ e, o = .nx e ∧ P e
def Rt (P : PyData → Prop) : Out → Prop := fun o => ∃ d, o = .rt d ∧ P d
theorem v_step {fz : List Nat} {s : S} {r : SL} {env : List Slot} {P : List Slot → Prop} {Q : Out → Prop} (h : Ev (exS ns C s (thaw env fz)) (Nx P)) (k : ∀ e, P e → Ev (exL ns C r e) Q) : Ev (exL ns C (.cons fz s r) env) Q := by
  have e : exL ns C (.cons fz s r) env = M.bd (exS ns C s (thaw env fz)) fun o => match o with | .nx env' => exL ns C r env' | o => M.ret o := by simp only [exL] <;> rfl
  rw [e]
  refine h.bd fun o ⟨e1, ho, p⟩ => ?_
  subst ho
  exact k e1 p
theorem v_ret {fz : List Nat} {s : S} {r : SL} {env : List Slot} {P : PyData → Prop} (h : Ev (exS ns C s (thaw env fz)) (Rt P)) : Ev (exL ns C (.cons fz s r) env) (Rt P) := by
  have e : exL ns C (.cons fz s r) env = M.bd (exS ns C s (thaw env fz)) fun o => match o with | .nx env' => exL ns C r env' | o => M.ret o := by simp only [exL] <;> rfl
  rw [e]
  refine h.bd fun o ⟨d, ho, p⟩ => ?_
  subst ho
  exact .of rfl ⟨d, rfl, p⟩
theorem v_nil {env : List Slot} {P : List Slot → Prop} (p : P env) : Ev (exL ns C .nil env) (Nx P) := .of exL_nil ⟨env, rfl, p⟩
theorem v_set {i : Nat} {e : E} {env : List Slot} {P : PyData → Prop} (h : Ev (evE ns C e env) P) : Ev (exS ns C (.set i e) env) (Nx fun e1 => ∃ d, P d ∧ e1 = setFr env i e d) := by
  have e0 : exS ns C (.set i e) env = M.bd (evE ns C e env) fun d => M.ret (.nx (setFr env i e d)) := by simp only [exS]
  rw [e0]
  exact h.bd fun d p => .of rfl ⟨_, rfl, d, p, rfl⟩
theorem v_retS {e : E} {env : List Slot} {P : PyData → Prop} (h : Ev (evE ns C e env) P) : Ev (exS ns C (.ret e) env) (Rt P) := by
  have e0 : exS ns C (.ret e) env = M.bd (evE ns C e env) fun d => M.ret (.rt d) := by simp only [exS]
  rw [e0]
  exact h.bd fun d p => .of rfl ⟨d, rfl, p⟩
/-- a statement that draws nothing -/
theorem v_eq {s : S} {env e1 : List Slot} (h : exS ns C s env = M.ret (.nx e1)) : Ev (exS ns C s env) (Nx fun e => e = e1) := .of h ⟨e1, rfl, rfl⟩
theorem frL_ev {f : List Slot → PyData → M Out} : ∀ {l : List PyData} (P : Nat → List Slot → Prop), (∀ i x env, l[i]? = some x → P i env → Ev (f env x) (Nx (P (i + 1)))) → ∀ {env : List Slot}, P 0 env → Ev (frL f env l) (Nx (P l.length))
  | [], P, _, env, h => .of rfl ⟨env, rfl, h⟩
  | x :: r, P, h, env, h0 => by
    have e : frL f env (x :: r) = M.bd (f env x) fun o => match o with | .nx env' => frL f env' r | .ct env' => frL f env' r | .bk env' => M.ret (.nx env') | .rt d => M.ret (.rt d) := rfl
    rw [e]
    refine (h 0 x env rfl h0).bd fun o ⟨e1, ho, p⟩ => ?_
    subst ho
    exact frL_ev (l := r) (fun i env => P (i + 1) env) (fun i y env hy => h (i + 1) y env (by simpa using hy)) p
theorem draw_ev {m : Int} (h : 0 < m) : ∀ rs, ∃ v rs', drawn ns m rs = (v, rs') ∧ 0 ≤ v ∧ v < m := fun rs => ⟨_, _, rfl, draw_bd ns m rs h⟩
theorem take_ev {r : Nat} {a : E} {env : List Slot} {m : Int} (hr : env[r]? = some .row) (ha : evE ns C a env = M.ret (.int m)) (h : 0 < m) (h2 : m < 1000000) : Ev (evE ns C (.take r a) env) fun d => ∃ v : Nat, (v : Int) < m ∧ d = dN v := fun rs => by
  obtain ⟨v, rs', e, h3, h4⟩ := draw_ev (ns := ns) h rs
  refine ⟨.int v, rs', ?_, v.toNat, by omega, by show PyData.int v = .int (v.toNat : Int); congr 1; omega⟩
  simp only [evE, ha, bd_ret, hr, if_pos (And.intro h h2), e]
theorem v_call {f : Nat} {es : EL} {env l : List Slot} {P : PyData → Prop} (h : evA ns C es env = M.ret l) (hc : Ev (C f l) P) (hb : ∀ d, P d → (brw env es && !noL d) = false) : Ev (evE ns C (.call f es) env) P := by
  have e : evE ns C (.call f es) env = M.bd (C f l) fun d => lent (brw env es) d := by simp only [evE, h, bd_ret]
  rw [e]
  refine hc.bd fun d p => .of (a := d) ?_ p
  unfold lent
  rw [hb d p]; rfl
theorem v_put {i : Nat} {k e : E} {env : List Slot} {P : PyData → Prop} {l : List PyData} {j : Int} (h : Ev (evE ns C e env) P) (hk : evE ns C k env = M.ret (.int j)) (hi : env[i]? = some (.ow l)) (hj : 0 ≤ j ∧ j < l.length) : Ev (exS ns C (.put i k e) env) (Nx fun e1 => ∃ d, P d ∧ e1 = env.set i (.ow (l.set j.toNat d))) := by
  have e0 : exS ns C (.put i k e) env = M.bd (evE ns C e env) fun d => M.ret (.nx (env.set i (.ow (l.set j.toNat d)))) := by
    simp only [exS, hk, bd_ret, hi, if_pos hj]
  rw [e0]
  exact h.bd fun d p => .of rfl ⟨_, rfl, d, p, rfl⟩
/-- a list comprehension that draws nothing -/
theorem e_lc2 {own : List (Str × Nat)} {t : Tg} {it : It} {c e : E} {env : List Slot} {l : List PyData} (g : PyData → Option PyData) (h : evI ns C it env = M.ret l) (hl : (l.filterMap g).length ≤ LB)
    (hg : ∀ x ∈ l, (match bindT (wipeE env (own.map (·.2))) t x with | some env' => M.bd (evT ns C c env') fun k => if k then M.bd (evE ns C e env') fun y => M.ret (some y) else M.ret none | none => M.no) = M.ret (g x)) : evE ns C (.lc own t it c e) env = M.ret (.list (l.filterMap g)) := by
  simp only [evE, h, bd_ret]
  exact (congrArg (fun m => M.bd m fun r => if r.length ≤ LB then M.ret (PyData.list r) else M.no) (mapL_pure hg)).trans (by rw [bd_ret, if_pos hl])
def ir_law_pick : SL := (.cons [] (.ret (.ix (.var 1) (.take 0 (.f1 .len (.var 1)))))
  .nil)
theorem pick_ok {d : PyData} {l : List PyData} (hd : elemsD d = some l) (h0 : 0 < l.length) (h1 : l.length < 1000000) : Ev (exL ns C ir_law_pick [.row, .sh d]) (Rt fun x => x ∈ l) := by
  refine v_ret (v_retS ?_)
  have hl : evE ns C (.f1 .len (.var 1)) [.row, .sh d] = M.ret (.int l.length) := by
    show M.of (f1D .len d) = _
    cases d <;> cases hd <;> rfl
  have t := take_ev (ns := ns) (C := C) (r := 0) (env := [.row, .sh d]) rfl hl (by omega) (by omega)
  have e : evE ns C (.ix (.var 1) (.take 0 (.f1 .len (.var 1)))) [.row, .sh d] = M.bd (evE ns C (.take 0 (.f1 .len (.var 1))) [.row, .sh d]) fun y => match elemsD d, y with | some l, .int k => M.of (ixD l k) | _, _ => M.no := by
    simp only [evE, rd] <;> rfl
  show Ev (evE ns C (.ix (.var 1) (.take 0 (.f1 .len (.var 1)))) [.row, .sh d]) _
  rw [e]
  refine t.bd fun y ⟨v, h2, hy⟩ => ?_
  subst hy
  have hv : v < l.length := by omega
  refine .of (a := l[v]) ?_ (List.getElem_mem _)
  rw [hd]
  show M.of (ixD l (v : Int)) = _
  rw [ixD_nat (List.getElem?_eq_getElem hv)]; rfl
theorem e_ite2 {c a b : E} {env : List Slot} {t : Bool} (h : evT ns C c env = M.ret t) : evE ns C (.ite c a b) env = if t then evE ns C a env else evE ns C b env := by simp only [evE, h, bd_ret]
def ir_law_above : SL := (.cons [] (.set 2 (.lst .nil))
  (.cons [] (.fr (.nm 3) (.r1 (.f1 .len (.var 0))) (.cons [] (.set 1 (.ite (.cmp .ne (.var 1) (.int 0)) (.ix (.var 0) (.bin .sub (.var 1) (.int 1))) (.int 0)))
  (.cons [] (.set 2 (.bin .add (.var 2) (.bin .mul (.lst (.cons false (.var 1) .nil)) (.f1 .int (.cmp .ne (.var 1) (.int 0))))))
  .nil)))
  (.cons [2] (.ret (.var 2))
  .nil)))
theorem st0 {s : S} {r : SL} {env e1 : List Slot} {o : M Out} (h : exS ns C s env = M.ret (.nx e1)) (k : exL ns C r e1 = o) : exL ns C (.cons [] s r) env = o := (exL_step (fz := []) h).trans k
theorem rng0_len {c : List Nat} {env : List Slot} {i : Nat} (h : env[i]? = some (.sh (dT c))) (hs : c.length ≤ 6) : evI ns C (.r1 (.f1 .len (.var i))) env = M.ret (rngD 0 c.length) := by
  simp only [evI, evE, rd, h, bd_ret, f1D, of_some, lenN]
  rw [if_pos (by omega)]
  congr 1
theorem law_above_ok {c : List Nat} {k : Nat} (g : Good c) (h1 : 1 ≤ k) (hl : k ≤ c.length) : exL ns C ir_law_above [.sh (dT c), .sh (dN k), .no, .no] = M.ret (.rt (.list (mN (chainS c k)))) := by
  obtain ⟨r, hr⟩ := g.rk
  have six := g.six
  have w := frL_inv (f := fun env x => match bindT env (.nm 3) x with | some env' => exL ns C (.cons [] (.set 1 (.ite (.cmp .ne (.var 1) (.int 0)) (.ix (.var 0) (.bin .sub (.var 1) (.int 1))) (.int 0)))
    (.cons [] (.set 2 (.bin .add (.var 2) (.bin .mul (.lst (.cons false (.var 1) .nil)) (.f1 .int (.cmp .ne (.var 1) (.int 0)))))) .nil)) env' | none => M.no) (l := rngD 0 c.length)
    (fun i env => ∃ (h : Nat) (acc : List Nat) (s3 : Slot), env = [.sh (dT c), .sh (dN h), .ow (mN acc), s3] ∧ h ≤ c.length ∧ (h ≠ 0 → r h + i < c.length) ∧ acc ++ asc c c.length (if h = 0 then 0 else up c h) = chainS c k)
    (fun i x env hx ⟨h, acc, s3, he, h2, h3, h4⟩ => ?_) (env := [.sh (dT c), .sh (dN k), .ow [], .no]) ⟨k, [], .no, rfl, hl, fun _ => by have := (hr k h1 hl).2.2; omega, by rw [if_neg (by omega)]; rfl⟩
  · obtain ⟨e1, w1, h, acc, s3, he, h2, h3, h4⟩ := w
    subst he
    rw [rngD_len] at h3
    have h0 : h = 0 := by
      by_cases z : h = 0
      · exact z
      · have := h3 z; omega
    subst h0
    have hacc : acc = chainS c k := by
      rw [if_pos rfl] at h4
      cases hn : c.length with
      | zero => have := g.one; omega
      | succ m => rw [hn] at h4; simpa [asc] using h4
    have ei := rng0_len (ns := ns) (C := C) (c := c) (env := [.sh (dT c), .sh (dN k), .ow [], .no]) (i := 0) rfl six
    unfold ir_law_above
    have s1 : exS ns C (.set 2 (.lst .nil)) [.sh (dT c), .sh (dN k), .no, .no] = M.ret (.nx [.sh (dT c), .sh (dN k), .ow [], .no]) := x_set (d := .list []) rfl
    have s2 := (x_fr (ns := ns) (C := C) (t := .nm 3) (it := .r1 (.f1 .len (.var 0))) (env := [.sh (dT c), .sh (dN k), .ow [], .no]) (b := .cons [] (.set 1 (.ite (.cmp .ne (.var 1) (.int 0)) (.ix (.var 0) (.bin .sub (.var 1) (.int 1))) (.int 0))) (.cons [] (.set 2 (.bin .add (.var 2) (.bin .mul (.lst (.cons false (.var 1) .nil)) (.f1 .int (.cmp .ne (.var 1) (.int 0)))))) .nil)) rfl ei).trans w1
    refine st0 s1 (st0 s2 ?_)
    rw [hacc]
    exact exL_ret (x_ret rfl)
  · subst he
    show ∃ env', exL ns C _ [.sh (dT c), .sh (dN h), .ow (mN acc), .sh x] = _ ∧ _
    have ha : acc.length ≤ 6 := by
      have e1 := congrArg List.length h4
      rw [List.length_append] at e1
      have e2 : (chainS c k).length ≤ c.length := asc_len c _ _
      omega
    have eb : ∀ h' : Nat, evE ns C (.bin .add (.var 2) (.bin .mul (.lst (.cons false (.var 1) .nil)) (.f1 .int (.cmp .ne (.var 1) (.int 0))))) [.sh (dT c), .sh (dN h'), .ow (mN acc), .sh x] = M.ret (.list (mN (acc ++ if h' = 0 then [] else [h']))) := fun h' => by
      have q1 : evE ns C (.cmp .ne (.var 1) (.int 0)) [.sh (dT c), .sh (dN h'), .ow (mN acc), .sh x] = M.ret (.bool (decide ((h' : Int) ≠ 0))) := e_cmp2 (x := .int h') (y := .int 0) rfl rfl (cmp_ne _ _)
      have q2 : evE ns C (.f1 .int (.cmp .ne (.var 1) (.int 0))) [.sh (dT c), .sh (dN h'), .ow (mN acc), .sh x] = M.ret (.int (if decide ((h' : Int) ≠ 0) = true then 1 else 0)) := e_f12 (x := .bool (decide ((h' : Int) ≠ 0))) q1 rfl
      by_cases h0 : h' = 0
      · subst h0
        have q3 : evE ns C (.bin .mul (.lst (.cons false (.var 1) .nil)) (.f1 .int (.cmp .ne (.var 1) (.int 0)))) [.sh (dT c), .sh (dN 0), .ow (mN acc), .sh x] = M.ret (.list []) := e_bin2 (x := .list [dN 0]) (y := .int 0) rfl q2 (bin_mul1 (by omega))
        refine e_bin2 (x := .list (mN acc)) (y := .list []) rfl q3 ((bin_addL (by rw [lenN]; unfold LB; simp; omega)).trans ?_)
        simp
      · have e1 : (if decide ((h' : Int) ≠ 0) = true then (1 : Int) else 0) = 1 := by rw [if_pos]; simpa using h0
        rw [e1] at q2
        have q3 : evE ns C (.bin .mul (.lst (.cons false (.var 1) .nil)) (.f1 .int (.cmp .ne (.var 1) (.int 0)))) [.sh (dT c), .sh (dN h'), .ow (mN acc), .sh x] = M.ret (.list [dN h']) := e_bin2 (x := .list [dN h']) (y := .int 1) rfl q2 (bin_mul1 (by omega))
        refine e_bin2 (x := .list (mN acc)) (y := .list [dN h']) rfl q3 ((bin_addL (by rw [lenN]; unfold LB; simp; omega)).trans ?_)
        rw [if_neg h0]
        have e9 : mN (acc ++ [h']) = mN acc ++ [dN h'] := List.map_append
        rw [e9]
    have et : evT ns C (.cmp .ne (.var 1) (.int 0)) [.sh (dT c), .sh (dN h), .ow (mN acc), .sh x] = M.ret (decide ((h : Int) ≠ 0)) := t_ne rfl rfl
    by_cases h0 : h = 0
    · subst h0
      refine ⟨[.sh (dT c), .sh (dN 0), .ow (mN acc), .sh x], ?_, 0, acc, _, rfl, by omega, fun z => absurd rfl z, h4⟩
      refine st0 (x_set (d := .int 0) ((e_ite2 et).trans rfl)) (st0 (e1 := [.sh (dT c), .sh (dN 0), .ow (mN acc), .sh x]) ((x_set (eb 0)).trans ?_) exL_nil)
      rw [if_pos rfl, List.append_nil]; rfl
    · have hi := (hr h (by omega) h2)
      have hu := ev_up ns C (env := [.sh (dT c), .sh (dN h), .ow (mN acc), .sh x]) (i := 0) (j := 1) rfl rfl (by omega) h2
      have d1 : decide ((h : Int) ≠ 0) = true := by simpa using h0
      rw [d1] at et
      have s1 : exS ns C (.set 1 (.ite (.cmp .ne (.var 1) (.int 0)) (.ix (.var 0) (.bin .sub (.var 1) (.int 1))) (.int 0))) [.sh (dT c), .sh (dN h), .ow (mN acc), .sh x] = M.ret (.nx [.sh (dT c), .sh (dN (up c h)), .ow (mN acc), .sh x]) := x_set (d := dN (up c h)) ((e_ite2 et).trans (by rw [if_pos rfl]; exact hu))
      refine ⟨[.sh (dT c), .sh (dN (up c h)), .ow (mN (acc ++ if up c h = 0 then [] else [up c h])), .sh x], st0 s1 (st0 (x_set (eb (up c h))) exL_nil), up c h, _, _, rfl, hi.1, fun z => by have := hi.2.1 z; have := h3 h0; omega, ?_⟩
      rw [← h4, if_neg h0]
      by_cases z : up c h = 0
      · rw [if_pos z, if_pos z, List.append_nil, z]
      · rw [if_neg z, if_neg z, g.step z hi.1, List.append_assoc]; rfl
end
end Cd
namespace Cd
open PySem
/-! The law's own drawn chart. -/
section
variable {ns : List Int} {C : CT}
/-- i people are placed: left, found, placed -/
structure Plc (n i : Nat) (left found placed : List Nat) : Prop where
  fl : found.length = n
  pl : placed.length = i + 1
  ll : left.length = n - i
  p0 : placed[0]? = some 0
  pn : placed.Nodup
  ln : left.Nodup
  le : ∀ x ∈ placed, x ≤ n
  mem : ∀ x : Nat, x ∈ left ↔ (1 ≤ x ∧ x ≤ n) ∧ x ∉ placed
  ch : ∀ (j x : Nat), placed[j]? = some x → x ≠ 0 → ∃ (j' y : Nat), placed[j']? = some y ∧ j' < j ∧ found[x - 1]? = some y
theorem Plc.next {n i : Nat} {left found placed : List Nat} (h : Plc n i left found placed) {x y : Nat} (hx : x ∈ left) (hy : y ∈ placed) (hi : i < n) : Plc n (i + 1) (left.filter (· ≠ x)) (found.set (x - 1) y) (placed ++ [x]) := by
  obtain ⟨⟨x1, x2⟩, x3⟩ := (h.mem x).mp hx
  obtain ⟨jy, hjy, ey⟩ := List.mem_iff_getElem.mp hy
  have hx0 : placed.length ≠ 0 := by rw [h.pl]; omega
  refine ⟨by rw [List.length_set]; exact h.fl, by rw [List.length_append, h.pl]; rfl, ?_, ?_, ?_, h.ln.filter _, fun z hz => ?_, fun z => ?_, fun j z hz z0 => ?_⟩
  · have e1 : left.filter (· ≠ x) = left.erase x := by
      rw [h.ln.erase_eq_filter]
      congr 1
      funext a
      simp [bne, BEq.beq]
    rw [e1, List.length_erase_of_mem hx, h.ll]
    omega
  · rw [List.getElem?_append_left (by rw [h.pl]; omega)]; exact h.p0
  · rw [List.nodup_append]
    refine ⟨h.pn, by simp, fun a ha b hb => ?_⟩
    have : b = x := by simpa using hb
    subst this
    intro z; subst z; exact x3 ha
  · rcases List.mem_append.mp hz with z1 | z1
    · exact h.le z z1
    · have : z = x := by simpa using z1
      omega
  · rw [List.mem_filter, h.mem z, List.mem_append]
    constructor
    · rintro ⟨⟨a, b⟩, c⟩
      refine ⟨a, fun d => d.elim b fun d => ?_⟩
      have : z = x := by simpa using d
      simp [this] at c
    · rintro ⟨a, b⟩
      exact ⟨⟨a, fun d => b (.inl d)⟩, by simpa using fun d => b (.inr (by simp [d]))⟩
  · by_cases hj : j < placed.length
    · rw [List.getElem?_append_left hj] at hz
      obtain ⟨j', y', g1, g2, g3⟩ := h.ch j z hz z0
      have hzx : z ≠ x := fun e => x3 (e ▸ List.mem_of_getElem? hz)
      refine ⟨j', y', by rw [List.getElem?_append_left (by omega)]; exact g1, g2, ?_⟩
      rw [List.getElem?_set, if_neg (by omega)]; exact g3
    · have hj2 : j = placed.length := by
        have := (List.getElem?_eq_some_iff.mp hz).1
        rw [List.length_append] at this
        simp at this; omega
      subst hj2
      rw [List.getElem?_append_right (by omega), Nat.sub_self] at hz
      have : z = x := by simpa using hz.symm
      subst this
      refine ⟨jy, y, by rw [List.getElem?_append_left hjy, List.getElem?_eq_getElem hjy, ey], hjy, ?_⟩
      rw [List.getElem?_set, if_pos rfl, if_pos (by rw [h.fl]; omega)]
/-- all are placed: a chart -/
theorem Plc.good {n : Nat} {left found placed : List Nat} (h : Plc n n left found placed) (h1 : 1 ≤ n) (h6 : n ≤ 6) : Good found := by
  have hl : left = [] := List.length_eq_zero_iff.mp (by rw [h.ll]; omega)
  have all : ∀ k, 1 ≤ k → k ≤ n → k ∈ placed := fun k a b => by
    by_cases z : k ∈ placed
    · exact z
    · have := (h.mem k).mpr ⟨⟨a, b⟩, z⟩
      rw [hl] at this; cases this
  refine ⟨by rw [h.fl]; exact h1, by rw [h.fl]; exact h6, fun k => placed.idxOf k - 1, fun k a b => ?_⟩
  rw [h.fl] at b
  have hk := all k a b
  have ik := List.idxOf_lt_length_of_mem hk
  have gk : placed[placed.idxOf k]? = some k := by rw [List.getElem?_eq_getElem ik, List.getElem_idxOf]
  obtain ⟨j', y, g1, g2, g3⟩ := h.ch _ k gk (by omega)
  have uy : up found k = y := by
    unfold up
    rw [List.getD_eq_getElem?_getD, g3]; rfl
  have iy : placed.idxOf y = j' := by
    obtain ⟨hj, ej⟩ := List.getElem?_eq_some_iff.mp g1
    rw [← ej]; exact h.pn.idxOf_getElem j' hj
  have ypos : y ≠ 0 → 0 < placed.idxOf y := fun z => by
    rw [iy]
    by_cases q : j' = 0
    · subst q; rw [h.p0] at g1; cases g1; exact absurd rfl z
    · omega
  refine ⟨?_, fun z => ?_, ?_⟩
  · rw [uy, h.fl]; exact h.le y (List.mem_of_getElem? g1)
  · rw [uy] at z ⊢
    have := ypos z
    show placed.idxOf y - 1 < placed.idxOf k - 1
    rw [iy] at this ⊢
    omega
  · show placed.idxOf k - 1 < found.length
    rw [h.fl]
    have := h.pl
    omega
def chartBody (p : Nat) : SL := (.cons [] (.set 6 (.call p (.cons false (.var 0) (.cons false (.var 3) .nil))))
  (.cons [] (.put 4 (.bin .sub (.var 6) (.int 1)) (.call p (.cons false (.var 0) (.cons false (.var 5) .nil))))
  (.cons [] (.app 5 (.var 6))
  (.cons [] (.set 3 (.lc [("_law_one", 8)] (.nm 8) (.seq (.var 3)) (.cmp .ne (.var 8) (.var 6)) (.var 8)))
  .nil))))
def ir_law_chart (p : Nat) : SL := (.cons [] (.par [3, 4, 5] (.cons false (.lc [("_law_k", 7)] (.nm 7) (.r1 (.var 1)) (.bl true) (.bin .add (.var 7) (.int 1))) (.cons false (.bin .mul (.lst (.cons false (.int 0) .nil)) (.var 1)) (.cons false (.lst (.cons false (.int 0) .nil)) .nil))))
  (.cons [] (.fr (.nm 2) (.r1 (.var 1)) (chartBody p))
  (.cons [] (.ret (.f1 .tuple (.var 4)))
  .nil)))
/-- the draw of one of some numbers -/
def PickOk (C : CT) (p : Nat) : Prop := ∀ l : List Nat, l ≠ [] → l.length ≤ 7 → Ev (C p [.row, .sh (.list (mN l))]) fun d => ∃ x, x ∈ l ∧ d = dN x
def neK (k : Nat) (d : PyData) : Option PyData := match d with
  | .int a => if a ≠ (k : Int) then some (.int a) else none
  | _ => none
theorem neK_at (k a : Nat) : neK k (dN a) = if a = k then none else some (dN a) := by
  show (if (a : Int) ≠ (k : Int) then some (PyData.int a) else none) = _
  by_cases z : a = k
  · rw [if_neg (by omega), if_pos z]
  · rw [if_pos (by omega), if_neg z]
theorem filt_ne (k : Nat) : ∀ l : List Nat, (mN l).filterMap (neK k) = mN (l.filter (· ≠ k))
  | [] => rfl
  | a :: r => by
    show List.filterMap (neK k) (dN a :: mN r) = _
    by_cases z : a = k
    · rw [List.filterMap_cons_none (by rw [neK_at, if_pos z]), filt_ne k r, List.filter_cons_of_neg (by simpa using z)]
    · rw [List.filterMap_cons_some (by rw [neK_at, if_neg z]), filt_ne k r, List.filter_cons_of_pos (by simpa using z)]; rfl
theorem chart_turn {p n i : Nat} {left found placed : List Nat} {s6 : Slot} {x : PyData} (hp : PickOk C p) (h6 : n ≤ 6) (hi : i < n) (h : Plc n i left found placed) :
    Ev (exL ns C (chartBody p) [.row, .sh (dN n), .sh x, .ow (mN left), .ow (mN found), .ow (mN placed), s6, .no, .no]) (Nx fun e => ∃ left found placed s6, e = [.row, .sh (dN n), .sh x, .ow (mN left), .ow (mN found), .ow (mN placed), s6, .no, .no] ∧ Plc n (i + 1) left found placed) := by
  have l1 : left ≠ [] := fun z => by have := h.ll; rw [z] at this; simp at this; omega
  have l2 : placed ≠ [] := fun z => by have := h.pl; rw [z] at this; simp at this
  refine v_step (v_set (v_call (l := [.row, .sh (.list (mN left))]) rfl (hp left l1 (by rw [h.ll]; omega)) fun d ⟨y, _, e⟩ => by subst e; rfl)) fun e1 ⟨d, ⟨k, hk, hd⟩, he⟩ => ?_
  subst hd he
  obtain ⟨⟨k1, k2⟩, k3⟩ := (h.mem k).mp hk
  have hj : (0 : Int) ≤ (k : Int) - 1 ∧ (k : Int) - 1 < (mN found).length := by rw [lenN, h.fl]; omega
  refine v_step (v_put (i := 4) (l := mN found) (j := (k : Int) - 1) (v_call (env := [.row, .sh (dN n), .sh x, .ow (mN left), .ow (mN found), .ow (mN placed), .sh (dN k), .no, .no]) (l := [.row, .sh (.list (mN placed))]) rfl (hp placed l2 (by rw [h.pl]; omega)) fun d ⟨y, _, e⟩ => by subst e; rfl) rfl rfl hj) fun e1 ⟨d, ⟨y, hy, hd⟩, he⟩ => ?_
  subst hd he
  have e9 : (mN found).set ((k : Int) - 1).toNat (dN y) = mN (found.set (k - 1) y) := by
    have : ((k : Int) - 1).toNat = k - 1 := by omega
    rw [this]; exact List.map_set.symm
  rw [e9]
  refine v_step (v_eq (x_app (i := 5) (e := .var 6) (env := [.row, .sh (dN n), .sh x, .ow (mN left), .ow (mN (found.set (k - 1) y)), .ow (mN placed), .sh (dN k), .no, .no]) (l := mN placed) (d := dN k) rfl rfl (by rw [lenN, h.pl]; unfold LB; omega))) fun e1 he => ?_
  subst he
  have ea : mN placed ++ [dN k] = mN (placed ++ [k]) := by
    have e8 : mN (placed ++ [k]) = mN placed ++ [dN k] := List.map_append
    exact e8.symm
  rw [ea]
  have hf := filt_ne k left
  have hlc := e_lc2 (ns := ns) (C := C) (own := [("_law_one", 8)]) (t := .nm 8) (it := .seq (.var 3)) (c := .cmp .ne (.var 8) (.var 6)) (e := .var 8) (env := [.row, .sh (dN n), .sh x, .ow (mN left), .ow (mN (found.set (k - 1) y)), .ow (mN (placed ++ [k])), .sh (dN k), .no, .no]) (l := mN left)
    (neK k) rfl (by rw [hf, lenN]; have := List.length_filter_le (· ≠ k) left; have := h.ll; unfold LB; omega) (fun d hd => by
      obtain ⟨a, _, rfl⟩ := List.mem_map.mp hd
      have q := t_ne (ns := ns) (C := C) (a := .var 8) (b := .var 6) (env := [.row, .sh (dN n), .sh x, .ow (mN left), .ow (mN (found.set (k - 1) y)), .ow (mN (placed ++ [k])), .sh (dN k), .no, .sh (dN a)]) (i := a) (j := k) rfl rfl
      refine (congrArg (fun m => M.bd m fun k2 => if k2 then M.bd (evE ns C (.var 8) [.row, .sh (dN n), .sh x, .ow (mN left), .ow (mN (found.set (k - 1) y)), .ow (mN (placed ++ [k])), .sh (dN k), .no, .sh (dN a)]) fun y => M.ret (some y) else M.ret none) q).trans ?_
      rw [bd_ret]
      rw [neK_at]
      by_cases z : a = k
      · rw [if_neg (by simp; omega), if_pos z]
      · rw [if_pos (by simp; omega), if_neg z]; rfl)
  rw [hf] at hlc
  refine v_step (v_eq (x_set (i := 3) hlc)) fun e1 he => ?_
  subst he
  exact v_nil ⟨_, _, _, _, rfl, h.next hk hy hi⟩
def ones (n : Nat) : List Nat := List.range' 1 n
theorem plc0 {n : Nat} : Plc n 0 (ones n) (List.replicate n 0) [0] := by
  refine ⟨List.length_replicate, rfl, by simp [ones], rfl, by simp, List.nodup_range' .., by simp, fun x => ?_, fun j x hx x0 => ?_⟩
  · unfold ones
    rw [List.mem_range'_1]
    simp
    omega
  · cases j with
    | zero => cases hx; exact absurd rfl x0
    | succ j => simp at hx
theorem law_chart_ok {p n : Nat} (hp : PickOk C p) (h1 : 1 ≤ n) (h6 : n ≤ 6) : Ev (exL ns C (ir_law_chart p) [.row, .sh (dN n), .no, .no, .no, .no, .no, .no, .no]) (Rt fun d => ∃ c, Good c ∧ c.length = n ∧ d = dT c) := by
  have s1 : exS ns C (.par [3, 4, 5] (.cons false (.lc [("_law_k", 7)] (.nm 7) (.r1 (.var 1)) (.bl true) (.bin .add (.var 7) (.int 1))) (.cons false (.bin .mul (.lst (.cons false (.int 0) .nil)) (.var 1)) (.cons false (.lst (.cons false (.int 0) .nil)) .nil)))) [.row, .sh (dN n), .no, .no, .no, .no, .no, .no, .no] = M.ret (.nx [.row, .sh (dN n), .no, .ow (mN (ones n)), .ow (mN (List.replicate n 0)), .ow (mN [0]), .no, .no, .no]) := by
    have : n = 1 ∨ n = 2 ∨ n = 3 ∨ n = 4 ∨ n = 5 ∨ n = 6 := by omega
    rcases this with rfl | rfl | rfl | rfl | rfl | rfl <;> rfl
  have ei : evI ns C (.r1 (.var 1)) [.row, .sh (dN n), .no, .ow (mN (ones n)), .ow (mN (List.replicate n 0)), .ow (mN [0]), .no, .no, .no] = M.ret (rngD 0 n) := by
    have : n = 1 ∨ n = 2 ∨ n = 3 ∨ n = 4 ∨ n = 5 ∨ n = 6 := by omega
    rcases this with rfl | rfl | rfl | rfl | rfl | rfl <;> rfl
  refine v_step (v_eq s1) fun e he => ?_
  subst he
  have w := frL_ev (f := fun env x => match bindT env (.nm 2) x with | some env' => exL ns C (chartBody p) env' | none => M.no) (l := rngD 0 n)
    (fun i env => ∃ left found placed s2 s6, env = [.row, .sh (dN n), s2, .ow (mN left), .ow (mN found), .ow (mN placed), s6, .no, .no] ∧ Plc n i left found placed)
    (fun i x env hx ⟨left, found, placed, s2, s6, he, h⟩ => by
      subst he
      exact (chart_turn (ns := ns) (s6 := s6) (x := x) hp h6 (rngD_at hx).1 h).mono fun o ⟨e, ho, l, f, pl, s, he, q⟩ => ⟨e, ho, l, f, pl, _, s, he, q⟩)
    (env := [.row, .sh (dN n), .no, .ow (mN (ones n)), .ow (mN (List.replicate n 0)), .ow (mN [0]), .no, .no, .no]) ⟨_, _, _, _, _, rfl, plc0⟩
  rw [rngD_len] at w
  have e2 := x_fr (ns := ns) (C := C) (t := .nm 2) (it := .r1 (.var 1)) (b := chartBody p) (env := [.row, .sh (dN n), .no, .ow (mN (ones n)), .ow (mN (List.replicate n 0)), .ow (mN [0]), .no, .no, .no]) rfl ei
  have e3 : Ev (exS ns C (.fr (.nm 2) (.r1 (.var 1)) (chartBody p)) [.row, .sh (dN n), .no, .ow (mN (ones n)), .ow (mN (List.replicate n 0)), .ow (mN [0]), .no, .no, .no]) (Nx fun env => ∃ left found placed s2 s6, env = [.row, .sh (dN n), s2, .ow (mN left), .ow (mN found), .ow (mN placed), s6, .no, .no] ∧ Plc n n left found placed) := by
    rw [e2]; exact w
  refine v_step (fz := []) e3 fun e ⟨left, found, placed, s2, s6, he, h⟩ => ?_
  subst he
  exact v_ret (v_retS (.of (a := dT found) rfl ⟨found, h.good h1 h6, h.fl, rfl⟩))
end
end Cd
namespace Cd
open PySem
/-! Data that are equal are alike. -/
mutual
/-- data that `_law_alike` takes: whole numbers, truth values, None, tuples and lists of such -/
def alD : PyData → Bool
  | .none => true
  | .bool _ => true
  | .int _ => true
  | .tuple l => alDs l
  | .list l => alDs l
  | _ => false
def alDs : List PyData → Bool
  | [] => true
  | x :: r => alD x && alDs r
end
mutual
def dpD : PyData → Nat
  | .tuple l => dpDs l + 1
  | .list l => dpDs l + 1
  | _ => 1
def dpDs : List PyData → Nat
  | [] => 0
  | x :: r => max (dpD x) (dpDs r)
end
theorem alDs_get : ∀ {l : List PyData} {i : Nat} {x : PyData}, alDs l = true → l[i]? = some x → alD x = true ∧ dpD x ≤ dpDs l
  | [], i, x, _, h => by simp at h
  | y :: r, 0, x, ha, h => by
    rw [alDs, Bool.and_eq_true] at ha
    simp at h; subst h
    exact ⟨ha.1, by rw [dpDs]; omega⟩
  | y :: r, i + 1, x, ha, h => by
    rw [alDs, Bool.and_eq_true] at ha
    obtain ⟨h1, h2⟩ := alDs_get (l := r) (i := i) ha.2 (by simpa using h)
    exact ⟨h1, by rw [dpDs]; omega⟩
def ir_law_alike (f : Nat) : SL := (.cons [] (.ite (.isi (.var 1) ["tuple", "list"]) (.cons [] (.ite (.or (.not (.isi (.var 0) ["tuple", "list"])) (.cmp .ne (.isi (.var 0) ["list"]) (.isi (.var 1) ["list"]))) (.cons [] (.ret (.bl false))
  .nil) .nil)
  (.cons [] (.ite (.cmp .ne (.f1 .len (.var 0)) (.f1 .len (.var 1))) (.cons [] (.ret (.bl false))
  .nil) .nil)
  (.cons [] (.ret (.cmp .eq (.lc [("_law_k", 2)] (.nm 2) (.r1 (.f1 .len (.var 1))) (.not (.call f (.cons false (.ix (.var 0) (.var 2)) (.cons false (.ix (.var 1) (.var 2)) .nil)))) (.var 2)) (.lst .nil)))
  .nil))) .nil)
  (.cons [] (.ite (.or (.cmp .isN (.var 1) .non) (.isi (.var 1) ["str"])) (.cons [] (.ret (.and (.cmp .eq (.var 0) (.var 1)) (.cmp .eq (.isi (.var 0) ["str"]) (.isi (.var 1) ["str"]))))
  .nil) .nil)
  (.cons [] (.ret (.and (.isi (.var 0) ["int"]) (.and (.cmp .eq (.isi (.var 0) ["bool"]) (.isi (.var 1) ["bool"])) (.cmp .eq (.var 0) (.var 1)))))
  .nil)))
section
variable {ns : List Int} {C : CT}
theorem alike_int {f : Nat} (i : Int) : exL ns C (ir_law_alike f) [.sh (.int i), .sh (.int i), .no] = M.ret (.rt (.bool true)) := by
  have e : cmpD .eq (.int i) (.int i) = some true := by rw [cmp_eq]; simp
  have q : evE ns C (.cmp .eq (.var 0) (.var 1)) [.sh (.int i), .sh (.int i), .no] = M.ret (.bool true) := e_cmp2 (x := .int i) (y := .int i) rfl rfl e
  have q2 : evE ns C (.and (.cmp .eq (.isi (.var 0) ["bool"]) (.isi (.var 1) ["bool"])) (.cmp .eq (.var 0) (.var 1))) [.sh (.int i), .sh (.int i), .no] = M.ret (.bool true) := e_and2 ns C (p := true) (q := true) rfl fun _ => q
  refine st0 (e1 := [.sh (.int i), .sh (.int i), .no]) rfl (st0 (e1 := [.sh (.int i), .sh (.int i), .no]) rfl (exL_ret (x_ret (e_and2 ns C (p := true) (q := true) rfl fun _ => q2))))
theorem alike_bool {f : Nat} (b : Bool) : exL ns C (ir_law_alike f) [.sh (.bool b), .sh (.bool b), .no] = M.ret (.rt (.bool true)) := by cases b <;> rfl
theorem alike_none {f : Nat} : exL ns C (ir_law_alike f) [.sh .none, .sh .none, .no] = M.ret (.rt (.bool true)) := rfl
theorem alike_seq {f : Nat} {b : Bool} {l : List PyData} (hl : l.length < 100000) (h : ∀ x ∈ l, C f [.sh x, .sh x] = M.ret (.bool true)) : exL ns C (ir_law_alike f) [.sh (seqD b l), .sh (seqD b l), .no] = M.ret (.rt (.bool true)) := by
  have hd : elemsD (seqD b l) = some l := by cases b <;> rfl
  have el : ∀ {v : Slot} {i : Nat}, i < 2 → evE ns C (.f1 .len (.var i)) [.sh (seqD b l), .sh (seqD b l), v] = M.ret (.int l.length) := fun {v i} hi => by
    have hf : f1D .len (seqD b l) = some (.int l.length) := by cases b <;> rfl
    match i, hi with
    | 0, _ => exact e_f12 (x := seqD b l) rfl hf
    | 1, _ => exact e_f12 (x := seqD b l) rfl hf
  have t1 : evT ns C (.isi (.var 1) ["tuple", "list"]) [.sh (seqD b l), .sh (seqD b l), .no] = M.ret true := by cases b <;> rfl
  have t2 : evT ns C (.or (.not (.isi (.var 0) ["tuple", "list"])) (.cmp .ne (.isi (.var 0) ["list"]) (.isi (.var 1) ["list"]))) [.sh (seqD b l), .sh (seqD b l), .no] = M.ret false := by cases b <;> rfl
  have t3 : evT ns C (.cmp .ne (.f1 .len (.var 0)) (.f1 .len (.var 1))) [.sh (seqD b l), .sh (seqD b l), .no] = M.ret false := by
    refine (t_ne (a := .f1 .len (.var 0)) (b := .f1 .len (.var 1)) (env := [.sh (seqD b l), .sh (seqD b l), .no]) (i := l.length) (j := l.length) (el (i := 0) (by omega)) (el (i := 1) (by omega))).trans ?_
    simp
  have ei : evI ns C (.r1 (.f1 .len (.var 1))) [.sh (seqD b l), .sh (seqD b l), .no] = M.ret (rngD 0 l.length) := by
    have := el (v := .no) (i := 1) (by omega)
    simp only [evI, evE] at this ⊢
    rw [this, bd_ret]
    simp only
    rw [if_pos (by omega)]
    congr 1
  have ix : ∀ {i k : Nat} {x : PyData}, i < 2 → l[k]? = some x → evE ns C (.ix (.var i) (.var 2)) [.sh (seqD b l), .sh (seqD b l), .sh (dN k)] = M.ret x := fun {i k x} hi hx => by
    match i, hi with
    | 0, _ => simp only [evE, rd, List.getElem?_cons_zero, List.getElem?_cons_succ, bd_ret, hd, ixD_nat hx, of_some]
    | 1, _ => simp only [evE, rd, List.getElem?_cons_zero, List.getElem?_cons_succ, bd_ret, hd, ixD_nat hx, of_some]
  have hn : ∀ {q : List PyData}, q.filterMap (fun _ => (none : Option PyData)) = [] := fun {q} => List.filterMap_eq_nil_iff.mpr fun _ _ => rfl
  have lc := e_lc2 (ns := ns) (C := C) (own := [("_law_k", 2)]) (t := .nm 2) (it := .r1 (.f1 .len (.var 1))) (c := .not (.call f (.cons false (.ix (.var 0) (.var 2)) (.cons false (.ix (.var 1) (.var 2)) .nil)))) (e := .var 2) (env := [.sh (seqD b l), .sh (seqD b l), .no]) (fun _ => none) ei (by rw [hn]; exact Nat.zero_le _) (fun x hx => by
    obtain ⟨k, hk⟩ := List.mem_iff_getElem?.mp hx
    obtain ⟨k1, rfl⟩ := rngD_at hk
    have e0 : (0 : Int) + (k : Int) = k := by omega
    rw [e0]
    have hx2 : l[k]? = some l[k] := List.getElem?_eq_getElem k1
    have a1 : evA ns C (.cons false (.ix (.var 0) (.var 2)) (.cons false (.ix (.var 1) (.var 2)) .nil)) [.sh (seqD b l), .sh (seqD b l), .sh (dN k)] = M.ret [.sh l[k], .sh l[k]] := by
      simp only [evA, argOf, ix (show 0 < 2 by omega) hx2, ix (show 1 < 2 by omega) hx2, bd_ret]
    have c1 : evT ns C (.call f (.cons false (.ix (.var 0) (.var 2)) (.cons false (.ix (.var 1) (.var 2)) .nil))) [.sh (seqD b l), .sh (seqD b l), .sh (dN k)] = M.ret true := t_call2 a1 (h _ (List.getElem_mem k1)) rfl rfl
    have c2 : evT ns C (.not (.call f (.cons false (.ix (.var 0) (.var 2)) (.cons false (.ix (.var 1) (.var 2)) .nil)))) [.sh (seqD b l), .sh (seqD b l), .sh (dN k)] = M.ret false := by
      simp only [evT] at c1 ⊢
      rw [c1]; rfl
    exact (congrArg (fun m => M.bd m fun k2 => if k2 then M.bd (evE ns C (.var 2) [.sh (seqD b l), .sh (seqD b l), .sh (dN k)]) fun y => M.ret (some y) else M.ret none) c2).trans rfl)
  have fin : exL ns C (.cons [] (.ret (.cmp .eq (.lc [("_law_k", 2)] (.nm 2) (.r1 (.f1 .len (.var 1))) (.not (.call f (.cons false (.ix (.var 0) (.var 2)) (.cons false (.ix (.var 1) (.var 2)) .nil)))) (.var 2)) (.lst .nil))) .nil) [.sh (seqD b l), .sh (seqD b l), .no] = M.ret (.rt (.bool true)) := by
    refine exL_ret (x_ret (e_cmp2 (x := .list []) (y := .list []) ?_ rfl rfl))
    refine lc.trans ?_
    rw [hn]
  refine exL_ret (fz := []) ((x_ite t1).trans ?_)
  rw [if_pos rfl]
  exact st0 ((x_ite t2).trans rfl) (st0 ((x_ite t3).trans rfl) fin)
end
end Cd
namespace Cd
open PySem
/-! Calls by their bodies; comprehensions over numbers. -/
section
variable {ns : List Int} {C : CT}
theorem cal_eq {T : List Fn} {k f : Nat} {fn : Fn} {args : List Slot} (hT : T[f]? = some fn) (ha : args.length = fn.np) : cal T ns (k + 1) f args = M.bd (exL ns (cal T ns k) fn.body (args ++ List.replicate (fn.ns - fn.np) .no)) fun o => (match o with
      | .rt d => M.ret d
      | .nx _ => M.ret .none
      | _ => M.no) := by
  rw [cal, hT]
  exact if_pos ha
theorem cal_ret {T : List Fn} {k f np n : Nat} {b : SL} {args env : List Slot} {d : PyData} (hT : T[f]? = some ⟨np, n, b⟩) (ha : args.length = np) (he : args ++ List.replicate (n - np) .no = env) (h : exL ns (cal T ns k) b env = M.ret (.rt d)) : cal T ns (k + 1) f args = M.ret d := by
  rw [cal_eq hT ha]
  show M.bd (exL ns (cal T ns k) b (args ++ List.replicate (n - np) .no)) _ = _
  rw [he, h]; rfl
theorem cal_nx {T : List Fn} {k f np n : Nat} {b : SL} {args env e1 : List Slot} (hT : T[f]? = some ⟨np, n, b⟩) (ha : args.length = np) (he : args ++ List.replicate (n - np) .no = env) (h : exL ns (cal T ns k) b env = M.ret (.nx e1)) : cal T ns (k + 1) f args = M.ret .none := by
  rw [cal_eq hT ha]
  show M.bd (exL ns (cal T ns k) b (args ++ List.replicate (n - np) .no)) _ = _
  rw [he, h]; rfl
theorem cal_ev {T : List Fn} {k f np n : Nat} {b : SL} {args env : List Slot} {P : PyData → Prop} (hT : T[f]? = some ⟨np, n, b⟩) (ha : args.length = np) (he : args ++ List.replicate (n - np) .no = env) (h : Ev (exL ns (cal T ns k) b env) (Rt P)) : Ev (cal T ns (k + 1) f args) P := by
  rw [cal_eq hT ha]
  show Ev (M.bd (exL ns (cal T ns k) b (args ++ List.replicate (n - np) .no)) _) _
  rw [he]
  exact h.bd fun o ⟨d, ho, p⟩ => by subst ho; exact .of rfl p
/-! ### numbers in data -/
theorem canLayN : ∀ l : List Nat, PyData.canLayAll0 (mN l) = true ∧ PyData.depthAll (mN l) = 0
  | [] => ⟨by simp [PyData.canLayAll0], by simp [PyData.depthAll]⟩
  | a :: r => by
    have ih := canLayN r
    constructor
    · show PyData.canLayAll0 (dN a :: mN r) = true
      simp [PyData.canLayAll0, PyData.canLay0, ih.1]
    · show PyData.depthAll (dN a :: mN r) = 0
      simp [PyData.depthAll, PyData.depth, ih.2]
theorem okD_T (l : List Nat) : okD (dT l) = true := by
  unfold okD SeqAt.shaped
  have := canLayN l
  simp [PyData.canLay0, PyData.depth, this.1, this.2]
theorem okD_L (l : List Nat) : okD (.list (mN l)) = true := by
  unfold okD SeqAt.shaped
  have := canLayN l
  simp [PyData.canLay0, PyData.depth, this.1, this.2]
theorem anyN (x : Nat) : ∀ l : List Nat, ((mN l).any fun z => PyData.eqv z (dN x)) = decide (x ∈ l)
  | [] => by simp
  | a :: r => by
    show (PyData.eqv (dN a) (dN x) || (mN r).any fun z => PyData.eqv z (dN x)) = _
    rw [anyN x r, eqv_int]
    by_cases h : x = a
    · subst h; simp
    · have : ¬ ((a : Int) = (x : Int)) := by omega
      simp [h, this]
theorem in_T (x : Nat) (l : List Nat) : cmpD .isin (dN x) (dT l) = some (decide (x ∈ l)) := by
  show (if okD (dN x) && okD (dT l) then some ((mN l).any fun z => PyData.eqv z (dN x)) else none) = _
  rw [okD_T, anyN]; rfl
theorem in_L (x : Nat) (l : List Nat) : cmpD .isin (dN x) (.list (mN l)) = some (decide (x ∈ l)) := by
  show (if okD (dN x) && okD (.list (mN l)) then some ((mN l).any fun z => PyData.eqv z (dN x)) else none) = _
  rw [okD_L, anyN]; rfl
theorem nin_T (x : Nat) (l : List Nat) : cmpD .notin (dN x) (dT l) = some (!decide (x ∈ l)) := by
  show (if okD (dN x) && okD (dT l) then some (!(mN l).any fun z => PyData.eqv z (dN x)) else none) = _
  rw [okD_T, anyN]; rfl
theorem nin_L (x : Nat) (l : List Nat) : cmpD .notin (dN x) (.list (mN l)) = some (!decide (x ∈ l)) := by
  show (if okD (dN x) && okD (.list (mN l)) then some (!(mN l).any fun z => PyData.eqv z (dN x)) else none) = _
  rw [okD_L, anyN]; rfl
theorem eqvN : ∀ l m : List Nat, PyData.eqvAll (mN l) (mN m) = decide (l = m)
  | [], [] => by simp [PyData.eqvAll]
  | [], b :: m => by simp [PyData.eqvAll]
  | a :: l, [] => by simp [PyData.eqvAll]
  | a :: l, b :: m => by
    show PyData.eqvAll (dN a :: mN l) (dN b :: mN m) = _
    rw [PyData.eqvAll, eqvN l m, eqv_int]
    by_cases h : a = b
    · subst h; simp
    · have : ¬ ((a : Int) = (b : Int)) := by omega
      simp [h, this]
theorem eq_T (l m : List Nat) : cmpD .eq (dT l) (dT m) = some (decide (l = m)) := by
  show (if okD (dT l) && okD (dT m) then some (PyData.eqv (dT l) (dT m)) else none) = _
  rw [okD_T, okD_T, PyData.eqv, eqvN]; rfl
theorem ne_T (l m : List Nat) : cmpD .ne (dT l) (dT m) = some (!decide (l = m)) := by
  show (if okD (dT l) && okD (dT m) then some (!PyData.eqv (dT l) (dT m)) else none) = _
  rw [okD_T, okD_T, PyData.eqv, eqvN]; rfl
theorem eq_L (l m : List Nat) : cmpD .eq (.list (mN l)) (.list (mN m)) = some (decide (l = m)) := by
  show (if okD (.list (mN l)) && okD (.list (mN m)) then some (PyData.eqv (.list (mN l)) (.list (mN m))) else none) = _
  rw [okD_L, okD_L, PyData.eqv, eqvN]; rfl
theorem ne_L (l m : List Nat) : cmpD .ne (.list (mN l)) (.list (mN m)) = some (!decide (l = m)) := by
  show (if okD (.list (mN l)) && okD (.list (mN m)) then some (!PyData.eqv (.list (mN l)) (.list (mN m))) else none) = _
  rw [okD_L, okD_L, PyData.eqv, eqvN]; rfl
theorem eq_N (a b : Nat) : cmpD .eq (dN a) (dN b) = some (decide (a = b)) := by
  rw [cmp_eq]; congr 1
  by_cases h : a = b
  · subst h; simp
  · rw [decide_eq_false (by omega), decide_eq_false h]
theorem ne_N (a b : Nat) : cmpD .ne (dN a) (dN b) = some (!decide (a = b)) := by
  rw [cmp_ne]; congr 1
  by_cases h : a = b
  · subst h; simp
  · rw [decide_eq_true (by omega), decide_eq_false h]; rfl
theorem lt_N (a b : Nat) : cmpD .lt (dN a) (dN b) = some (decide (a < b)) := by
  show some (decide ((a : Int) < b)) = _
  congr 1
  by_cases h : a < b
  · rw [decide_eq_true (by omega), decide_eq_true h]
  · rw [decide_eq_false (by omega), decide_eq_false h]
/-! ### the numbers that are walked -/
theorem rngN : ∀ (n a : Nat), rngD (a : Int) n = mN (List.range' a n)
  | 0, a => rfl
  | n + 1, a => by
    show (dN a : PyData) :: rngD ((a : Int) + 1) n = dN a :: mN (List.range' (a + 1) n)
    have e : ((a : Int) + 1) = ((a + 1 : Nat) : Int) := by omega
    rw [e, rngN n (a + 1)]
theorem ii_r1 {e : E} {env : List Slot} {n : Nat} (h : evE ns C e env = M.ret (dN n)) (hn : n < 100000) : evI ns C (.r1 e) env = M.ret (mN (List.range' 0 n)) := by
  simp only [evI, h, bd_ret]
  rw [if_pos (by omega), ← rngN]
  congr 1
theorem ii_r2 {e g : E} {env : List Slot} {a b : Nat} (h : evE ns C e env = M.ret (dN a)) (hg : evE ns C g env = M.ret (dN b)) (ha : a < 100000) (hb : b < 100000) : evI ns C (.r2 e g) env = M.ret (mN (List.range' a (b - a))) := by
  simp only [evI, h, hg, bd_ret]
  rw [if_pos (by omega), ← rngN]
  congr 2
  omega
/-- range(1, len(x) + 1) -/
theorem i_len1 {env : List Slot} {i : Nat} {c : List Nat} (h : env[i]? = some (.sh (dT c))) (hs : c.length < 90000) : evI ns C (.r2 (.int 1) (.bin .add (.f1 .len (.var i)) (.int 1))) env = M.ret (mN (ones c.length)) := by
  have e1 : evE ns C (.bin .add (.f1 .len (.var i)) (.int 1)) env = M.ret (dN (c.length + 1)) := by
    simp only [evE, rd, h, bd_ret, f1D, of_some, binD, lenN]
    rfl
  exact ii_r2 (a := 1) (b := c.length + 1) rfl e1 (by omega) (by omega)
/-- a comprehension over numbers -/
theorem lcN {own : List (Str × Nat)} {i : Nat} {it : It} {c e : E} {env : List Slot} {l : List Nat} (p : Nat → Bool) (h : Nat → PyData) (hi : evI ns C it env = M.ret (mN l)) (hl : l.length ≤ LB)
    (hc : ∀ x, x ∈ l → evT ns C c (setS (wipeE env (own.map (·.2))) i (dN x)) = M.ret (p x))
    (he : ∀ x, x ∈ l → p x = true → evE ns C e (setS (wipeE env (own.map (·.2))) i (dN x)) = M.ret (h x)) : evE ns C (.lc own (.nm i) it c e) env = M.ret (.list ((l.filter p).map h)) := by
  let g : PyData → Option PyData := fun d => match d with
    | .int a => if p a.toNat then some (h a.toNat) else none
    | _ => none
  have hg : ∀ x : Nat, g (dN x) = if p x then some (h x) else none := fun x => rfl
  have hf : ∀ m : List Nat, (mN m).filterMap g = (m.filter p).map h := by
    intro m
    induction m with
    | nil => rfl
    | cons a r ih =>
      show List.filterMap g (dN a :: mN r) = _
      by_cases z : p a = true
      · rw [List.filterMap_cons_some (by rw [hg, if_pos z]), ih, List.filter_cons_of_pos z]; rfl
      · rw [List.filterMap_cons_none (by rw [hg, if_neg z]), ih, List.filter_cons_of_neg z]
  rw [← hf l]
  refine e_lc2 g hi (by rw [hf, List.length_map]; exact Nat.le_trans (List.length_filter_le ..) hl) fun d hd => ?_
  obtain ⟨x, hx, rfl⟩ := List.mem_map.mp hd
  show M.bd (evT ns C c (setS (wipeE env (own.map (·.2))) i (dN x))) (fun k => if k then M.bd (evE ns C e (setS (wipeE env (own.map (·.2))) i (dN x))) fun y => M.ret (some y) else M.ret none) = _
  rw [hc x hx, bd_ret, hg]
  by_cases z : p x = true
  · rw [if_pos z, if_pos z, he x hx z, bd_ret]
  · rw [if_neg z, if_neg z]
/-- the same, all of them -/
theorem lcA {own : List (Str × Nat)} {i : Nat} {it : It} {e : E} {env : List Slot} {l : List Nat} (h : Nat → PyData) (hi : evI ns C it env = M.ret (mN l)) (hl : l.length ≤ LB)
    (he : ∀ x, x ∈ l → evE ns C e (setS (wipeE env (own.map (·.2))) i (dN x)) = M.ret (h x)) : evE ns C (.lc own (.nm i) it (.bl true) e) env = M.ret (.list (l.map h)) := by
  have := lcN (ns := ns) (C := C) (own := own) (i := i) (it := it) (c := .bl true) (e := e) (env := env) (l := l) (fun _ => true) h hi hl (fun x _ => by simp only [evT]) (fun x hx _ => he x hx)
  rwa [List.filter_eq_self.mpr fun _ _ => rfl] at this
/-- the numbers themselves, some of them -/
theorem lcF {own : List (Str × Nat)} {i : Nat} {it : It} {c : E} {env : List Slot} {l : List Nat} (p : Nat → Bool) (hi : evI ns C it env = M.ret (mN l)) (hl : l.length ≤ LB)
    (hc : ∀ x, x ∈ l → evT ns C c (setS (wipeE env (own.map (·.2))) i (dN x)) = M.ret (p x)) (hs : ∀ x, (setS (wipeE env (own.map (·.2))) i (dN x))[i]? = some (.sh (dN x))) : evE ns C (.lc own (.nm i) it c (.var i)) env = M.ret (.list (mN (l.filter p))) := by
  refine lcN p dN hi hl hc fun x _ _ => ?_
  simp only [evE, hs x]
theorem allN {own : List (Str × Nat)} {i : Nat} {it : It} {e : E} {env : List Slot} {l : List Nat} (p : Nat → Bool) (hi : evI ns C it env = M.ret (mN l))
    (he : ∀ x, x ∈ l → evE ns C e (setS (wipeE env (own.map (·.2))) i (dN x)) = M.ret (.bool (p x))) : evE ns C (.g .all own (.nm i) it e) env = M.ret (.bool (l.all p)) ∧ evT ns C (.g .all own (.nm i) it e) env = M.ret (l.all p) := by
  have a4 : allL (fun x => match bindT (wipeE env (own.map (·.2))) (.nm i) x with | some env' => evE ns C e env' | none => M.no) (mN l) = M.ret (l.all p) := by
    let g : PyData → Bool := fun d => match d with
      | .int a => p a.toNat
      | _ => false
    have e1 : (mN l).all g = l.all p := by
      rw [List.all_map]
      congr 1
    rw [← e1]
    refine allL_pure fun d hd => ?_
    obtain ⟨x, hx, rfl⟩ := List.mem_map.mp hd
    exact he x hx
  constructor
  · simp only [evE, hi, bd_ret]
    exact (congrArg (fun m => M.bd m fun b => M.ret (PyData.bool b)) a4).trans rfl
  · simp only [evT, hi, bd_ret]
    exact a4
theorem anyNn {own : List (Str × Nat)} {i : Nat} {it : It} {e : E} {env : List Slot} {l : List Nat} (p : Nat → Bool) (hi : evI ns C it env = M.ret (mN l))
    (he : ∀ x, x ∈ l → evE ns C e (setS (wipeE env (own.map (·.2))) i (dN x)) = M.ret (.bool (p x))) : evE ns C (.g .any own (.nm i) it e) env = M.ret (.bool (l.any p)) ∧ evT ns C (.g .any own (.nm i) it e) env = M.ret (l.any p) := by
  have a4 : anyL (fun x => match bindT (wipeE env (own.map (·.2))) (.nm i) x with | some env' => evE ns C e env' | none => M.no) (mN l) = M.ret (l.any p) := by
    let g : PyData → Bool := fun d => match d with
      | .int a => p a.toNat
      | _ => false
    have e1 : (mN l).any g = l.any p := by
      rw [List.any_map]
      congr 1
    rw [← e1]
    refine anyL_pure fun d hd => ?_
    obtain ⟨x, hx, rfl⟩ := List.mem_map.mp hd
    exact he x hx
  constructor
  · simp only [evE, hi, bd_ret]
    exact (congrArg (fun m => M.bd m fun b => M.ret (PyData.bool b)) a4).trans rfl
  · simp only [evT, hi, bd_ret]
    exact a4
/-! ### tests, steps -/
theorem tt_not {e : E} {env : List Slot} {b : Bool} (h : evT ns C e env = M.ret b) : evT ns C (.not e) env = M.ret !b := by
  simp only [evT, h, bd_ret]
theorem t_or2 {a b : E} {env : List Slot} {p q : Bool} (ha : evT ns C a env = M.ret p) (hb : p = false → evT ns C b env = M.ret q) : evT ns C (.or a b) env = M.ret (p || q) := by
  simp only [evT, ha, bd_ret]
  cases p with
  | true => rfl
  | false => rw [Bool.false_or, ← hb rfl]; rfl
theorem x_skip {c : E} {a : SL} {env : List Slot} (h : evT ns C c env = M.ret false) : exS ns C (.ite c a .nil) env = M.ret (.nx env) := (x_ite h).trans (by rw [if_neg (by simp), exL_nil])
theorem x_guard {e : E} {a : SL} {env : List Slot} (h : evT ns C e env = M.ret true) : exS ns C (.ite (.not e) a .nil) env = M.ret (.nx env) := x_skip (tt_not h)
theorem t_in {f : Nat} {es : EL} {env : List Slot} {v a b : Nat} (hf : InOk C f) (h : evA ns C es env = M.ret [.sh (dN v), .sh (dN a), .sh (dN b)]) (h1 : a ≤ v) (h2 : v ≤ b) : evT ns C (.call f es) env = M.ret true := by
  refine t_call2 h (hf v a b) ?_ ?_
  · simp [noL]
  · rw [decide_eq_true (by omega)]; rfl
/-! ### like data -/
section
variable {T : List Fn} {k f : Nat} (hT : T[f]? = some ⟨2, 3, ir_law_alike f⟩)
include hT
theorem al_int (i : Int) : cal T ns (k + 1) f [.sh (.int i), .sh (.int i)] = M.ret (.bool true) := cal_ret hT rfl rfl (alike_int i)
theorem al_bool (b : Bool) : cal T ns (k + 1) f [.sh (.bool b), .sh (.bool b)] = M.ret (.bool true) := cal_ret hT rfl rfl (alike_bool b)
theorem al_none : cal T ns (k + 1) f [.sh .none, .sh .none] = M.ret (.bool true) := cal_ret hT rfl rfl alike_none
theorem al_seq (b : Bool) {l : List PyData} (hl : l.length < 100000) (h : ∀ x ∈ l, cal T ns k f [.sh x, .sh x] = M.ret (.bool true)) : cal T ns (k + 1) f [.sh (seqD b l), .sh (seqD b l)] = M.ret (.bool true) := cal_ret hT rfl rfl (alike_seq hl h)
end
end
end Cd
namespace Cd
open PySem
/-! Places: what the defs about people above and below compute. -/
section
variable {ns : List Int} {C : CT}
/-- what need_chart says -/
def NeedOk (C : CT) (f : Nat) : Prop := ∀ c, Good c → C f [.sh (dT c)] = M.ret .none
def ChainOk (C : CT) (f : Nat) : Prop := ∀ c k, Good c → 1 ≤ k → k ≤ c.length → C f [.sh (dT c), .sh (dN k)] = M.ret (.list (mN (chainS c k)))
def PersonOk (C : CT) (f : Nat) : Prop := ∀ c k, Good c → 1 ≤ k → k ≤ c.length → C f [.sh (dT c), .sh (dN k)] = M.ret .none
theorem x_need {f : Nat} {es : EL} {env : List Slot} {d : PyData} {l : List Slot} (h : evA ns C es env = M.ret l) (hc : C f l = M.ret .none) : exS ns C (.drop (.call f es)) env = M.ret (.nx env) := x_drop (e_call2 h hc (by simp [noL]))
theorem chain_le {c : List Nat} (g : Good c) : ∀ (f h : Nat), h ≤ c.length → ∀ x ∈ asc c f h, 1 ≤ x ∧ x ≤ c.length
  | 0, h, _, x, hx => by simp [asc] at hx
  | f + 1, h, hl, x, hx => by
    unfold asc at hx
    split at hx
    · simp at hx
    · rename_i h0
      rcases List.mem_cons.mp hx with rfl | hx
      · omega
      · exact chain_le g f (up c h) (g.le (by omega) hl) x hx
theorem mem_chain {c : List Nat} (g : Good c) {k x : Nat} (h1 : 1 ≤ k) (hl : k ≤ c.length) (h : x ∈ chainS c k) : 1 ≤ x ∧ x ≤ c.length := chain_le g _ _ (g.le h1 hl) x h
theorem mem_ones {n x : Nat} : x ∈ ones n ↔ 1 ≤ x ∧ x ≤ n := by
  unfold ones
  rw [List.mem_range'_1]
  omega
theorem ones_len (n : Nat) : (ones n).length = n := by unfold ones; simp
def ir_need_person (f g : Nat) : SL := (.cons [] (.drop (.call f (.cons false (.var 0) .nil)))
  (.cons [] (.ite (.not (.call g (.cons false (.var 1) (.cons false (.int 1) (.cons false (.f1 .len (.var 0)) .nil))))) (.cons [] .fail
  .nil) .nil)
  .nil))
theorem a_len {i : Nat} {a : E} {c : List Nat} {env : List Slot} {v j : Nat} (hi : env[i]? = some (.sh (dT c))) (ha : argOf env a (evE ns C a env) = M.ret (.sh (dN v))) : evA ns C (.cons false a (.cons false (.int j) (.cons false (.f1 .len (.var i)) .nil))) env = M.ret [.sh (dN v), .sh (dN j), .sh (dN c.length)] := by
  have e1 : evE ns C (.f1 .len (.var i)) env = M.ret (dN c.length) := by
    simp only [evE, rd, hi, bd_ret, f1D, of_some, lenN]
  have e2 : argOf env (.int j) (evE ns C (.int j) env) = M.ret (.sh (dN j)) := rfl
  have e3 : argOf env (.f1 .len (.var i)) (evE ns C (.f1 .len (.var i)) env) = M.ret (.sh (dN c.length)) := by
    show M.bd (evE ns C (.f1 .len (.var i)) env) _ = _
    rw [e1]; rfl
  simp only [evA, ha, e2, e3, bd_ret]
theorem need_person_ok {f g : Nat} (hf : NeedOk C f) (hg : InOk C g) {c : List Nat} {k : Nat} (gd : Good c) (h1 : 1 ≤ k) (hl : k ≤ c.length) : exL ns C (ir_need_person f g) [.sh (dT c), .sh (dN k)] = M.ret (.nx [.sh (dT c), .sh (dN k)]) := by
  refine st0 (x_need (d := .none) (l := [.sh (dT c)]) rfl (hf c gd)) (st0 (x_guard (t_in hg (a_len (c := c) (v := k) (j := 1) rfl rfl) h1 hl)) exL_nil)
def ir_above (f g : Nat) : SL := (.cons [] (.drop (.call f (.cons false (.var 0) (.cons false (.var 1) .nil))))
  (.cons [] (.ret (.f1 .tuple (.call g (.cons false (.var 0) (.cons false (.var 1) .nil)))))
  .nil))
theorem above_ok {f g : Nat} (hf : PersonOk C f) (hg : ChainOk C g) {c : List Nat} {k : Nat} (gd : Good c) (h1 : 1 ≤ k) (hl : k ≤ c.length) : exL ns C (ir_above f g) [.sh (dT c), .sh (dN k)] = M.ret (.rt (dT (chainS c k))) := by
  refine st0 (x_need (d := .none) (l := [.sh (dT c), .sh (dN k)]) rfl (hf c k gd h1 hl)) (exL_ret (x_ret (e_f12 (x := .list (mN (chainS c k))) (e_call2 (l := [.sh (dT c), .sh (dN k)]) rfl (hg c k gd h1 hl) rfl) rfl)))
def ir_below (f g : Nat) : SL := (.cons [] (.drop (.call f (.cons false (.var 0) (.cons false (.var 1) .nil))))
  (.cons [] (.ret (.f1 .tuple (.lc [("one", 2)] (.nm 2) (.r2 (.int 1) (.bin .add (.f1 .len (.var 0)) (.int 1))) (.cmp .isin (.var 1) (.call g (.cons false (.var 0) (.cons false (.var 2) .nil)))) (.var 2))))
  .nil))
def belowS (c : List Nat) (k : Nat) : List Nat := (ones c.length).filter fun x => decide (k ∈ chainS c x)
theorem t_inC {g : Nat} {es : EL} {a : E} {env : List Slot} {c : List Nat} {j k : Nat} (hg : ChainOk C g) (gd : Good c) (ha : rd env a (evE ns C a env) = M.ret (dN j)) (h : evA ns C es env = M.ret [.sh (dT c), .sh (dN k)]) (hb : brw env es = false) (h1 : 1 ≤ k) (hl : k ≤ c.length) : evT ns C (.cmp .isin a (.call g es)) env = M.ret (decide (j ∈ chainS c k)) :=
  t_cmp2 ha (e_call2 (d := .list (mN (chainS c k))) h (hg c k gd h1 hl) (by rw [hb]; rfl)) (in_L ..)
theorem below_ok {f g : Nat} (hf : PersonOk C f) (hg : ChainOk C g) {c : List Nat} {k : Nat} (gd : Good c) (h1 : 1 ≤ k) (hl : k ≤ c.length) : exL ns C (ir_below f g) [.sh (dT c), .sh (dN k), .no] = M.ret (.rt (dT (belowS c k))) := by
  have six := gd.six
  refine st0 (x_need (d := .none) (l := [.sh (dT c), .sh (dN k)]) rfl (hf c k gd h1 hl)) (exL_ret (x_ret (e_f12 (x := .list (mN (belowS c k))) ?_ rfl)))
  refine lcF (l := ones c.length) _ (i_len1 rfl (by omega)) (by rw [ones_len]; unfold LB; omega) (fun x hx => ?_) (fun _ => rfl)
  obtain ⟨x1, x2⟩ := mem_ones.mp hx
  exact t_inC (env := [.sh (dT c), .sh (dN k), .sh (dN x)]) hg gd rfl rfl rfl x1 x2
def ir_right_below (f g : Nat) : SL := (.cons [] (.drop (.call f (.cons false (.var 0) .nil)))
  (.cons [] (.ite (.not (.call g (.cons false (.var 1) (.cons false (.int 0) (.cons false (.f1 .len (.var 0)) .nil))))) (.cons [] .fail
  .nil) .nil)
  (.cons [] (.ret (.f1 .tuple (.lc [("one", 2)] (.nm 2) (.r2 (.int 1) (.bin .add (.f1 .len (.var 0)) (.int 1))) (.cmp .eq (.ix (.var 0) (.bin .sub (.var 2) (.int 1))) (.var 1)) (.var 2))))
  .nil)))
def rightS (c : List Nat) (k : Nat) : List Nat := (ones c.length).filter fun x => decide (up c x = k)
theorem right_below_ok {f g : Nat} (hf : NeedOk C f) (hg : InOk C g) {c : List Nat} {k : Nat} (gd : Good c) (hl : k ≤ c.length) : exL ns C (ir_right_below f g) [.sh (dT c), .sh (dN k), .no] = M.ret (.rt (dT (rightS c k))) := by
  have six := gd.six
  refine st0 (x_need (d := .none) (l := [.sh (dT c)]) rfl (hf c gd)) (st0 (x_guard (t_in hg (a_len (c := c) (v := k) (j := 0) rfl rfl) (by omega) hl)) (exL_ret (x_ret (e_f12 (x := .list (mN (rightS c k))) ?_ rfl))))
  refine lcF (l := ones c.length) _ (i_len1 rfl (by omega)) (by rw [ones_len]; unfold LB; omega) (fun x hx => ?_) (fun _ => rfl)
  obtain ⟨x1, x2⟩ := mem_ones.mp hx
  exact t_cmp2 (env := [.sh (dT c), .sh (dN k), .sh (dN x)]) (x := dN (up c x)) (y := dN k) (ev_up ns C (i := 0) (j := 2) rfl rfl x1 x2) rfl (eq_N ..)
def ir_rows_of_chiefs (f g : Nat) : SL := (.cons [] (.drop (.call f (.cons false (.var 0) .nil)))
  (.cons [] (.ret (.f1 .tuple (.lc [("one", 1)] (.nm 1) (.r2 (.int 1) (.bin .add (.f1 .len (.var 0)) (.int 1))) (.bl true) (.f1 .len (.call g (.cons false (.var 0) (.cons false (.var 1) .nil)))))))
  .nil))
def rowsS (c : List Nat) : List Nat := (ones c.length).map fun x => (chainS c x).length
theorem e_lenC {g : Nat} {es : EL} {env : List Slot} {c : List Nat} {k : Nat} (hg : ChainOk C g) (gd : Good c) (h : evA ns C es env = M.ret [.sh (dT c), .sh (dN k)]) (hb : brw env es = false) (h1 : 1 ≤ k) (hl : k ≤ c.length) : evE ns C (.f1 .len (.call g es)) env = M.ret (dN (chainS c k).length) :=
  e_f12 (x := .list (mN (chainS c k))) (e_call2 (d := .list (mN (chainS c k))) h (hg c k gd h1 hl) (by rw [hb]; rfl)) (by show some (PyData.int ((mN (chainS c k)).length : Nat)) = _; rw [lenN])
theorem map_mN (l : List Nat) (h : Nat → Nat) : l.map (fun x => dN (h x)) = mN (l.map h) := by
  unfold mN
  rw [List.map_map]; rfl
theorem rows_ok {f g : Nat} (hf : NeedOk C f) (hg : ChainOk C g) {c : List Nat} (gd : Good c) : exL ns C (ir_rows_of_chiefs f g) [.sh (dT c), .no] = M.ret (.rt (dT (rowsS c))) := by
  have six := gd.six
  refine st0 (x_need (d := .none) (l := [.sh (dT c)]) rfl (hf c gd)) (exL_ret (x_ret (e_f12 (x := .list (mN (rowsS c))) ?_ rfl)))
  unfold rowsS
  rw [← map_mN]
  refine lcA (l := ones c.length) _ (i_len1 rfl (by omega)) (by rw [ones_len]; unfold LB; omega) fun x hx => ?_
  obtain ⟨x1, x2⟩ := mem_ones.mp hx
  exact e_lenC (env := [.sh (dT c), .sh (dN x)]) hg gd rfl rfl x1 x2
def ir_is_above (f g h : Nat) : SL := (.cons [] (.drop (.call f (.cons false (.var 0) (.cons false (.var 1) .nil))))
  (.cons [] (.ite (.not (.call g (.cons false (.var 2) (.cons false (.int 1) (.cons false (.f1 .len (.var 0)) .nil))))) (.cons [] .fail
  .nil) .nil)
  (.cons [] (.ret (.cmp .isin (.var 1) (.call h (.cons false (.var 0) (.cons false (.var 2) .nil)))))
  .nil)))
theorem is_above_ok {f g h : Nat} (hf : PersonOk C f) (hg : InOk C g) (hh : ChainOk C h) {c : List Nat} {j k : Nat} (gd : Good c) (j1 : 1 ≤ j) (jl : j ≤ c.length) (h1 : 1 ≤ k) (hl : k ≤ c.length) : exL ns C (ir_is_above f g h) [.sh (dT c), .sh (dN j), .sh (dN k)] = M.ret (.rt (.bool (decide (j ∈ chainS c k)))) := by
  refine st0 (x_need (d := .none) (l := [.sh (dT c), .sh (dN j)]) rfl (hf c j gd j1 jl)) (st0 (x_guard (t_in hg (a_len (c := c) (v := k) (j := 1) rfl rfl) h1 hl)) (exL_ret (x_ret ?_)))
  exact e_cmp2 (x := dN j) rfl (e_call2 (d := .list (mN (chainS c k))) (l := [.sh (dT c), .sh (dN k)]) rfl (hh c k gd h1 hl) rfl) (in_L ..)
def ir_nearest_of (g : Nat) : SL := (.cons [] (.fr (.nm 3) (.seq (.call g (.cons false (.var 0) (.cons false (.var 1) .nil)))) (.cons [] (.ite (.cmp .isin (.var 3) (.var 2)) (.cons [] (.ret (.var 3))
  .nil) .nil)
  .nil))
  (.cons [] (.ret (.int 0))
  .nil))
def nearS (c lot : List Nat) (k : Nat) : Nat := ((chainS c k).filter fun x => decide (x ∈ lot)).headD 0
theorem nearest_of_ok {g : Nat} (hg : ChainOk C g) {c lot : List Nat} {k : Nat} (gd : Good c) (h1 : 1 ≤ k) (hl : k ≤ c.length) : exL ns C (ir_nearest_of g) [.sh (dT c), .sh (dN k), .sh (dT lot), .no] = M.ret (.rt (dN (nearS c lot k))) := by
  have lp : ∀ (l : List Nat) (s : Slot), ∃ s', frL (fun env x => match bindT env (.nm 3) x with | some env' => exL ns C (.cons [] (.ite (.cmp .isin (.var 3) (.var 2)) (.cons [] (.ret (.var 3)) .nil) .nil) .nil) env' | none => M.no) [.sh (dT c), .sh (dN k), .sh (dT lot), s] (mN l) = M.ret (match l.filter fun x => decide (x ∈ lot) with | [] => .nx [.sh (dT c), .sh (dN k), .sh (dT lot), s'] | x :: _ => .rt (dN x)) := by
    intro l
    induction l with
    | nil => exact fun s => ⟨s, rfl⟩
    | cons a r ih =>
      intro s
      obtain ⟨s', hs⟩ := ih (.sh (dN a))
      refine ⟨s', ?_⟩
      have t : evT ns C (.cmp .isin (.var 3) (.var 2)) [.sh (dT c), .sh (dN k), .sh (dT lot), .sh (dN a)] = M.ret (decide (a ∈ lot)) := t_cmp2 (x := dN a) (y := dT lot) rfl rfl (in_T ..)
      show M.bd (exL ns C (.cons [] (.ite (.cmp .isin (.var 3) (.var 2)) (.cons [] (.ret (.var 3)) .nil) .nil) .nil) [.sh (dT c), .sh (dN k), .sh (dT lot), .sh (dN a)]) _ = _
      by_cases z : a ∈ lot
      · rw [List.filter_cons_of_pos (by simpa using z)]
        rw [decide_eq_true z] at t
        have e1 : exL ns C (.cons [] (.ite (.cmp .isin (.var 3) (.var 2)) (.cons [] (.ret (.var 3)) .nil) .nil) .nil) [.sh (dT c), .sh (dN k), .sh (dT lot), .sh (dN a)] = M.ret (.rt (dN a)) := exL_ret (fz := []) ((x_ite t).trans (by rw [if_pos rfl]; exact exL_ret (x_ret rfl)))
        rw [e1, bd_ret]
      · rw [List.filter_cons_of_neg (by simpa using z)]
        rw [decide_eq_false z] at t
        have e1 : exL ns C (.cons [] (.ite (.cmp .isin (.var 3) (.var 2)) (.cons [] (.ret (.var 3)) .nil) .nil) .nil) [.sh (dT c), .sh (dN k), .sh (dT lot), .sh (dN a)] = M.ret (.nx [.sh (dT c), .sh (dN k), .sh (dT lot), .sh (dN a)]) := st0 (x_skip t) exL_nil
        rw [e1, bd_ret]
        exact hs
  obtain ⟨s', e⟩ := lp (chainS c k) .no
  have hi : evI ns C (.seq (.call g (.cons false (.var 0) (.cons false (.var 1) .nil)))) [.sh (dT c), .sh (dN k), .sh (dT lot), .no] = M.ret (mN (chainS c k)) := by
    have : evE ns C (.call g (.cons false (.var 0) (.cons false (.var 1) .nil))) [.sh (dT c), .sh (dN k), .sh (dT lot), .no] = M.ret (.list (mN (chainS c k))) := e_call2 (l := [.sh (dT c), .sh (dN k)]) rfl (hg c k gd h1 hl) rfl
    simp only [evI, rd, this, bd_ret, elemsD, of_some]
  have e2 := (x_fr (ns := ns) (C := C) (t := .nm 3) (env := [.sh (dT c), .sh (dN k), .sh (dT lot), .no]) rfl hi).trans e
  unfold nearS
  generalize (chainS c k).filter (fun x => decide (x ∈ lot)) = q at e2
  cases q with
  | nil => exact st0 e2 (exL_ret (x_ret rfl))
  | cons x r => exact exL_ret (fz := []) e2
def ir_are_people (g : Nat) : SL := (.cons [] (.ite (.or (.not (.isi (.var 1) ["tuple"])) (.not (.g .all [("one", 3)] (.nm 3) (.seq (.var 1)) (.call g (.cons false (.var 3) (.cons false (.int 1) (.cons false (.var 0) .nil))))))) (.cons [] (.ret (.bl false))
  .nil) .nil)
  (.cons [] (.ret (.g .all [("k", 2)] (.nm 2) (.r1 (.bin .sub (.f1 .len (.var 1)) (.int 1))) (.cmp .lt (.ix (.var 1) (.var 2)) (.ix (.var 1) (.bin .add (.var 2) (.int 1))))))
  .nil))
/-- some people, ascending -/
structure Lot (n : Nat) (l : List Nat) : Prop where
  mem : ∀ x ∈ l, 1 ≤ x ∧ x ≤ n
  asc : ∀ i x y, l[i]? = some x → l[i + 1]? = some y → x < y
  len : l.length ≤ n
theorem e_ixN {i j k : Nat} {l : List Nat} {env : List Slot} {e : E} (hi : env[i]? = some (.sh (dT l))) (he : evE ns C e env = M.ret (dN k)) (hk : k < l.length) : evE ns C (.ix (.var i) e) env = M.ret (dN l[k]) := by
  have : ixD (mN l) (k : Int) = some (dN l[k]) := ixD_nat (by rw [List.getElem?_map, List.getElem?_eq_getElem hk]; rfl)
  simp only [evE, rd, hi, bd_ret, he, elemsD, this, of_some]
theorem are_people_ok {g n : Nat} (hg : InOk C g) (hn : n ≤ 6) {l : List Nat} (hl : Lot n l) : exL ns C (ir_are_people g) [.sh (dN n), .sh (dT l), .no, .no] = M.ret (.rt (.bool true)) := by
  have hlen := hl.len
  have a1 : evT ns C (.g .all [("one", 3)] (.nm 3) (.seq (.var 1)) (.call g (.cons false (.var 3) (.cons false (.int 1) (.cons false (.var 0) .nil))))) [.sh (dN n), .sh (dT l), .no, .no] = M.ret true := by
    have := (allN (ns := ns) (C := C) (own := [("one", 3)]) (i := 3) (it := .seq (.var 1)) (e := .call g (.cons false (.var 3) (.cons false (.int 1) (.cons false (.var 0) .nil)))) (env := [.sh (dN n), .sh (dT l), .no, .no]) (l := l) (fun _ => true) rfl (fun x hx => by
      refine e_call2 (env := [.sh (dN n), .sh (dT l), .no, .sh (dN x)]) (l := [.sh (dN x), .sh (dN 1), .sh (dN n)]) rfl ?_ rfl
      have := hl.mem x hx
      rw [hg, decide_eq_true (by omega)])).2
    rw [this]; congr 1; simp
  refine st0 (x_skip ((t_or2 (p := false) (q := false) rfl fun _ => tt_not a1))) (exL_ret (x_ret ?_))
  by_cases h0 : l.length = 0
  · have : l = [] := List.length_eq_zero_iff.mp h0
    subst this
    rfl
  · have hi : evE ns C (.bin .sub (.f1 .len (.var 1)) (.int 1)) [.sh (dN n), .sh (dT l), .no, .no] = M.ret (dN (l.length - 1)) := by
      refine e_bin2 (x := .int (mN l).length) (y := .int 1) rfl rfl ?_
      rw [lenN]
      show some (PyData.int ((l.length : Int) - 1)) = some (.int ((l.length - 1 : Nat) : Int))
      congr 2; omega
    have := (allN (ns := ns) (C := C) (own := [("k", 2)]) (i := 2) (e := .cmp .lt (.ix (.var 1) (.var 2)) (.ix (.var 1) (.bin .add (.var 2) (.int 1)))) (fun _ => true) (ii_r1 hi (by omega)) (fun x hx => by
      have hx2 := List.mem_range'_1.mp hx
      have hx1 : x + 1 < l.length := by omega
      have q := hl.asc x l[x] l[x + 1] (List.getElem?_eq_getElem _) (List.getElem?_eq_getElem _)
      refine e_cmp2 (env := [.sh (dN n), .sh (dT l), .sh (dN x), .no]) (x := dN l[x]) (y := dN l[x + 1]) (e_ixN (j := 0) rfl rfl (by omega)) (e_ixN (j := 0) (k := x + 1) rfl rfl (by omega)) ?_
      rw [lt_N, decide_eq_true q])).1
    refine this.trans ?_
    congr 2; simp
def ir_nearest (f g h : Nat) : SL := (.cons [] (.drop (.call f (.cons false (.var 0) .nil)))
  (.cons [] (.ite (.not (.call g (.cons false (.f1 .len (.var 0)) (.cons false (.var 1) .nil)))) (.cons [] .fail
  .nil) .nil)
  (.cons [] (.ret (.f1 .tuple (.lc [("one", 2)] (.nm 2) (.seq (.var 1)) (.bl true) (.call h (.cons false (.var 0) (.cons false (.var 2) (.cons false (.var 1) .nil)))))))
  .nil)))
def PeopleOk (C : CT) (f : Nat) : Prop := ∀ n l, n ≤ 6 → Lot n l → C f [.sh (dN n), .sh (dT l)] = M.ret (.bool true)
def NearOk (C : CT) (f : Nat) : Prop := ∀ c lot k, Good c → 1 ≤ k → k ≤ c.length → C f [.sh (dT c), .sh (dN k), .sh (dT lot)] = M.ret (dN (nearS c lot k))
theorem nearest_ok {f g h : Nat} (hf : NeedOk C f) (hg : PeopleOk C g) (hh : NearOk C h) {c lot : List Nat} (gd : Good c) (hl : Lot c.length lot) : exL ns C (ir_nearest f g h) [.sh (dT c), .sh (dT lot), .no] = M.ret (.rt (dT (lot.map (nearS c lot)))) := by
  have six := gd.six
  have hlen := hl.len
  have a0 : evA ns C (.cons false (.f1 .len (.var 0)) (.cons false (.var 1) .nil)) [.sh (dT c), .sh (dT lot), .no] = M.ret [.sh (dN c.length), .sh (dT lot)] := by
    have e1 : evE ns C (.f1 .len (.var 0)) [.sh (dT c), .sh (dT lot), .no] = M.ret (dN c.length) := e_f12 (x := dT c) rfl (by show some (PyData.int ((mN c).length : Nat)) = _; rw [lenN])
    simp only [evA, argOf, e1, bd_ret]
    rfl
  refine st0 (x_need (d := .none) (l := [.sh (dT c)]) rfl (hf c gd)) (st0 (x_guard (t_call2 a0 (hg c.length lot six hl) rfl rfl)) (exL_ret (x_ret (e_f12 (x := .list (mN (lot.map (nearS c lot)))) ?_ rfl))))
  rw [← map_mN]
  refine lcA (l := lot) _ rfl (by unfold LB; omega) fun x hx => ?_
  obtain ⟨x1, x2⟩ := hl.mem x hx
  exact e_call2 (env := [.sh (dT c), .sh (dT lot), .sh (dN x)]) (l := [.sh (dT c), .sh (dN x), .sh (dT lot)]) rfl (hh c lot x gd x1 x2) rfl
end
end Cd
namespace Cd
open PySem
/-! Draws in a law's own text. -/
section
variable {ns : List Int} {C : CT}
theorem st1 {fz : List Nat} {s : S} {r : SL} {env e1 : List Slot} {o : M Out} (ht : thaw env fz = env) (h : exS ns C s env = M.ret (.nx e1)) (k : exL ns C r e1 = o) : exL ns C (.cons fz s r) env = o := (exL_step (fz := fz) (by rw [ht]; exact h)).trans k
/-- a statement that draws nothing, then what follows -/
theorem w_step {fz : List Nat} {s : S} {r : SL} {env e1 : List Slot} {Q : Out → Prop} (ht : thaw env fz = env) (h : exS ns C s env = M.ret (.nx e1)) (k : Ev (exL ns C r e1) Q) : Ev (exL ns C (.cons fz s r) env) Q := by
  rw [exL_step (fz := fz) (by rw [ht]; exact h)]; exact k
theorem w_ret {fz : List Nat} {e : E} {r : SL} {env : List Slot} {d : PyData} {P : PyData → Prop} (ht : thaw env fz = env) (h : evE ns C e env = M.ret d) (p : P d) : Ev (exL ns C (.cons fz (.ret e) r) env) (Rt P) := .of (exL_ret (d := d) (by rw [ht]; exact x_ret h)) ⟨d, rfl, p⟩
theorem v_take {r : Nat} {a : E} {env : List Slot} {m : Nat} (hr : env[r]? = some .row) (ha : evE ns C a env = M.ret (dN m)) (h : 0 < m) (h2 : m < 1000000) : Ev (evE ns C (.take r a) env) fun d => ∃ v : Nat, v < m ∧ d = dN v :=
  (take_ev hr ha (by omega) (by omega)).mono fun d ⟨v, h1, h2⟩ => ⟨v, by omega, h2⟩
theorem v_1take {r : Nat} {a : E} {env : List Slot} {m : Nat} (hr : env[r]? = some .row) (ha : evE ns C a env = M.ret (dN m)) (h : 0 < m) (h2 : m < 1000000) : Ev (evE ns C (.bin .add (.int 1) (.take r a)) env) fun d => ∃ v : Nat, 1 ≤ v ∧ v ≤ m ∧ d = dN v := by
  have e : evE ns C (.bin .add (.int 1) (.take r a)) env = M.bd (evE ns C (.take r a) env) fun y => M.of (binD .add (.int 1) y) := by
    simp only [evE, rd] <;> rfl
  rw [e]
  refine (v_take hr ha h h2).bd fun d ⟨v, h1, hd⟩ => ?_
  subst hd
  refine .of (a := dN (v + 1)) ?_ ⟨v + 1, by omega, by omega, rfl⟩
  show M.ret (PyData.int (1 + (v : Int))) = M.ret (.int ((v + 1 : Nat) : Int))
  congr 2; omega
theorem vL_nil {env : List Slot} : Ev (evL ns C .nil env) fun l => l = [] := .of rfl rfl
theorem vL_cons {e : E} {r : EL} {env : List Slot} {P : PyData → Prop} {Q : List PyData → Prop} (h : Ev (evE ns C e env) P) (k : Ev (evL ns C r env) Q) : Ev (evL ns C (.cons false e r) env) fun l => ∃ d t, l = d :: t ∧ P d ∧ Q t := by
  have e0 : evL ns C (.cons false e r) env = M.bd (evE ns C e env) fun x => M.bd (evL ns C r env) fun l => M.ret (x :: l) := by simp only [evL]
  rw [e0]
  exact h.bd fun d p => k.bd fun t q => .of rfl ⟨d, t, rfl, p, q⟩
theorem v_par {is : List Nat} {es : EL} {env : List Slot} {P : List PyData → Prop} {Q : List Slot → Prop} (h : Ev (evL ns C es env) P) (k : ∀ l, P l → ∃ e1, setPar env is es l = some e1 ∧ Q e1) : Ev (exS ns C (.par is es) env) (Nx Q) := by
  have e0 : exS ns C (.par is es) env = M.bd (evL ns C es env) fun l => match setPar env is es l with | some env' => M.ret (.nx env') | none => M.no := by simp only [exS] <;> rfl
  rw [e0]
  refine h.bd fun l p => ?_
  obtain ⟨e1, h1, q⟩ := k l p
  rw [h1]
  exact .of rfl ⟨e1, rfl, q⟩
theorem v_f1 {f : B1} {a : E} {env : List Slot} {P Q : PyData → Prop} (hr : rd env a (evE ns C a env) = evE ns C a env) (h : Ev (evE ns C a env) P) (k : ∀ d, P d → ∃ y, f1D f d = some y ∧ Q y) : Ev (evE ns C (.f1 f a) env) Q := by
  have e0 : evE ns C (.f1 f a) env = M.bd (evE ns C a env) fun x => M.of (f1D f x) := by simp only [evE, hr]
  rw [e0]
  refine h.bd fun d p => ?_
  obtain ⟨y, h1, q⟩ := k d p
  rw [h1]
  exact .of rfl q
theorem mapL_ev {f : PyData → M (Option PyData)} : ∀ (l : List Nat), (∀ x ∈ l, Ev (f (dN x)) fun o => o = none ∨ o = some (dN x)) → Ev (mapL f (mN l)) fun d => ∃ m : List Nat, m.Sublist l ∧ d = mN m
  | [], _ => .of rfl ⟨[], .refl _, rfl⟩
  | a :: r, h => by
    have e0 : mapL f (mN (a :: r)) = M.bd (f (dN a)) fun o => M.bd (mapL f (mN r)) fun l => match o with | some y => M.ret (y :: l) | none => M.ret l := rfl
    rw [e0]
    refine (h a List.mem_cons_self).bd fun o ho => (mapL_ev r fun x hx => h x (List.mem_cons_of_mem _ hx)).bd fun d ⟨m, hm, hd⟩ => ?_
    subst hd
    rcases ho with rfl | rfl
    · exact .of rfl ⟨m, hm.cons _, rfl⟩
    · exact .of rfl ⟨a :: m, hm.cons₂ _, rfl⟩
/-- some of the numbers, by a draw each -/
theorem v_lcSub {own : List (Str × Nat)} {i r : Nat} {it : It} {env : List Slot} {l : List Nat} (hi : evI ns C it env = M.ret (mN l)) (hl : l.length ≤ LB) (hr : ∀ x, (setS (wipeE env (own.map (·.2))) i (dN x))[r]? = some .row) (hs : ∀ x, (setS (wipeE env (own.map (·.2))) i (dN x))[i]? = some (.sh (dN x))) :
    Ev (evE ns C (.lc own (.nm i) it (.cmp .eq (.take r (.int 2)) (.int 0)) (.var i)) env) fun d => ∃ m : List Nat, m.Sublist l ∧ d = .list (mN m) := by
  have e0 : evE ns C (.lc own (.nm i) it (.cmp .eq (.take r (.int 2)) (.int 0)) (.var i)) env = M.bd (mapL (fun x => match bindT (wipeE env (own.map (·.2))) (.nm i) x with
      | some env' => M.bd (evT ns C (.cmp .eq (.take r (.int 2)) (.int 0)) env') fun k => if k then M.bd (evE ns C (.var i) env') fun y => M.ret (some y) else M.ret none
      | none => M.no) (mN l)) fun r => if r.length ≤ LB then M.ret (.list r) else M.no := by
    simp only [evE, hi, bd_ret] <;> rfl
  rw [e0]
  refine (mapL_ev l fun x _ => ?_).bd fun d ⟨m, hm, hd⟩ => ?_
  · show Ev (M.bd (evT ns C (.cmp .eq (.take r (.int 2)) (.int 0)) (setS (wipeE env (own.map (·.2))) i (dN x))) fun k => if k then M.bd (evE ns C (.var i) (setS (wipeE env (own.map (·.2))) i (dN x))) fun y => M.ret (some y) else M.ret none) _
    have e1 : evT ns C (.cmp .eq (.take r (.int 2)) (.int 0)) (setS (wipeE env (own.map (·.2))) i (dN x)) = M.bd (evE ns C (.take r (.int 2)) (setS (wipeE env (own.map (·.2))) i (dN x))) fun y => M.of (cmpD .eq y (.int 0)) := by
      simp only [evT, rd]
      rfl
    have e2 : evE ns C (.var i) (setS (wipeE env (own.map (·.2))) i (dN x)) = M.ret (dN x) := by simp only [evE, hs x]
    have q : Ev (evT ns C (.cmp .eq (.take r (.int 2)) (.int 0)) (setS (wipeE env (own.map (·.2))) i (dN x))) fun _ => True := by
      rw [e1]
      refine (v_take (m := 2) (hr x) rfl (by omega) (by omega)).bd fun d ⟨v, h1, hd⟩ => ?_
      subst hd
      refine .of (a := decide (v = 0)) ?_ trivial
      rw [show (PyData.int 0) = dN 0 from rfl, eq_N]; rfl
    refine q.bd fun b _ => ?_
    cases b with
    | true => rw [if_pos rfl, e2, bd_ret]; exact .of rfl (.inr rfl)
    | false => exact .of rfl (.inl rfl)
  · subst hd
    exact .of (if_pos (by rw [lenN]; exact Nat.le_trans hm.length_le hl)) ⟨m, hm, rfl⟩
theorem lot_of {n : Nat} {l : List Nat} (h : l.Sublist (ones n)) : Lot n l := by
  have pw : l.Pairwise (· < ·) := List.Pairwise.sublist h (List.pairwise_lt_range' ..)
  refine ⟨fun x hx => mem_ones.mp (h.subset hx), fun i x y hx hy => ?_, by have := h.length_le; rwa [ones_len] at this⟩
  obtain ⟨h1, e1⟩ := List.getElem?_eq_some_iff.mp hx
  obtain ⟨h2, e2⟩ := List.getElem?_eq_some_iff.mp hy
  rw [← e1, ← e2]
  exact List.pairwise_iff_getElem.mp pw i (i + 1) h1 h2 (by omega)
theorem ones_map (n : Nat) : (List.range' 0 n).map (fun x => x + 1) = ones n := by
  unfold ones
  have := List.range'_eq_map_range (s := 0) (n := n)
  rw [List.range'_eq_map_range (s := 1), this, List.map_map]
  congr 1
  funext x
  simp; omega
theorem arg_of {X : E} {env : List Slot} {d : PyData} (h : evE ns C X env = M.ret d) : M.bd (evE ns C X env) (fun d => M.ret (Slot.sh d)) = M.ret (.sh d) := by rw [h]; rfl
theorem aa2 {X Y : E} {env : List Slot} {s t : Slot} (h : argOf env X (evE ns C X env) = M.ret s) (k : argOf env Y (evE ns C Y env) = M.ret t) : evA ns C (.cons false X (.cons false Y .nil)) env = M.ret [s, t] := by
  simp only [evA, h, k, bd_ret]
theorem aa1 {X : E} {env : List Slot} {s : Slot} (h : argOf env X (evE ns C X env) = M.ret s) : evA ns C (.cons false X .nil) env = M.ret [s] := by
  simp only [evA, h, bd_ret]
theorem aa3 {X Y Z : E} {env : List Slot} {s t u : Slot} (h : argOf env X (evE ns C X env) = M.ret s) (k : argOf env Y (evE ns C Y env) = M.ret t) (j : argOf env Z (evE ns C Z env) = M.ret u) : evA ns C (.cons false X (.cons false Y (.cons false Z .nil))) env = M.ret [s, t, u] := by
  simp only [evA, h, k, j, bd_ret]
theorem pickOk_of {p : Nat} (h : ∀ d l, elemsD d = some l → 0 < l.length → l.length < 1000000 → Ev (C p [.row, .sh d]) fun x => x ∈ l) : PickOk C p := fun l h0 h7 =>
  (h (.list (mN l)) (mN l) rfl (by rw [lenN]; exact List.length_pos_iff.mpr h0) (by rw [lenN]; omega)).mono fun d hd => by
    obtain ⟨x, hx, rfl⟩ := List.mem_map.mp hd
    exact ⟨x, hx, rfl⟩
theorem t_alike {f : Nat} {es : EL} {env : List Slot} {d : PyData} (h : evA ns C es env = M.ret [.sh d, .sh d]) (k : C f [.sh d, .sh d] = M.ret (.bool true)) : evT ns C (.call f es) env = M.ret true := t_call2 h k (by simp [noL]) rfl
/-- an expression whose value is handed on -/
def Hand (env : List Slot) (X : E) : Prop := ∀ k : M PyData, argOf env X k = M.bd k fun d => M.ret (.sh d)
theorem a_hand {X : E} {env : List Slot} {d : PyData} (n : Hand env X) (h : evE ns C X env = M.ret d) : argOf env X (evE ns C X env) = M.ret (.sh d) := by rw [n, h]; rfl
/-- `if not alike(X, Y): return False` -/
theorem w_alike {fz : List Nat} {f : Nat} {X Y : E} {a r : SL} {env : List Slot} {d : PyData} {Q : Out → Prop} (ht : thaw env fz = env) (nX : Hand env X) (nY : Hand env Y) (hX : evE ns C X env = M.ret d) (hY : evE ns C Y env = M.ret d) (hal : C f [.sh d, .sh d] = M.ret (.bool true)) (k : Ev (exL ns C r env) Q) :
    Ev (exL ns C (.cons fz (.ite (.not (.call f (.cons false X (.cons false Y .nil)))) a .nil) r) env) Q :=
  w_step ht (x_guard (t_alike (aa2 (a_hand nX hX) (a_hand nY hY)) hal)) k
theorem w_skip {fz : List Nat} {c : E} {a r : SL} {env : List Slot} {b : Bool} {Q : Out → Prop} (ht : thaw env fz = env) (h : evT ns C c env = M.ret b) (hb : b = false) (k : Ev (exL ns C r env) Q) : Ev (exL ns C (.cons fz (.ite c a .nil) r) env) Q :=
  w_step ht (x_skip (by rw [h, hb])) k
/-- `return alike(X, Y)` -/
theorem w_ralike {fz : List Nat} {f : Nat} {X Y : E} {r : SL} {env : List Slot} {d : PyData} (ht : thaw env fz = env) (nX : Hand env X) (nY : Hand env Y) (hX : evE ns C X env = M.ret d) (hY : evE ns C Y env = M.ret d) (hal : C f [.sh d, .sh d] = M.ret (.bool true)) :
    Ev (exL ns C (.cons fz (.ret (.call f (.cons false X (.cons false Y .nil)))) r) env) (Rt fun d => d = .bool true) :=
  w_ret ht (e_call2 (aa2 (a_hand nX hX) (a_hand nY hY)) hal (by simp [noL])) rfl
end
end Cd
namespace Cd
open PySem
/-! Steps and rows. -/
/-- a step among n people -/
structure StpN (n p q : Nat) : Prop where
  p1 : 1 ≤ p
  pn : p ≤ n
  qn : q ≤ n
  ne : p ≠ q
def stepS (c : List Nat) (p q : Nat) : List Nat := (c.map fun x => if x = p then up c p else x).set (p - 1) q
theorem stepS_len (c : List Nat) (p q : Nat) : (stepS c p q).length = c.length := by simp [stepS]
theorem up_get {c : List Nat} {k : Nat} (h1 : 1 ≤ k) (hl : k ≤ c.length) : c[k - 1]? = some (up c k) := by
  unfold up
  rw [List.getD_eq_getElem?_getD, List.getElem?_eq_getElem (by omega)]; rfl
theorem stepS_up {c : List Nat} {p q k : Nat} (h1 : 1 ≤ k) (hl : k ≤ c.length) (p1 : 1 ≤ p) : up (stepS c p q) k = if k = p then q else if up c k = p then up c p else up c k := by
  have e : (stepS c p q)[k - 1]? = some (if k = p then q else if up c k = p then up c p else up c k) := by
    unfold stepS
    rw [List.getElem?_set]
    by_cases h : k = p
    · subst h
      rw [if_pos rfl, List.length_map, if_pos (by omega), if_pos rfl]
    · rw [if_neg (by omega), if_neg h, List.getElem?_map, up_get h1 hl]; rfl
  have e2 := up_get (c := stepS c p q) (k := k) h1 (by rw [stepS_len]; exact hl)
  rw [e] at e2
  exact (Option.some.inj e2).symm
/-- who stands lower than how many: any rank will do -/
theorem good_of {c : List Nat} (h1 : 1 ≤ c.length) (h6 : c.length ≤ 6) (r : Nat → Nat) (hr : ∀ k, 1 ≤ k → k ≤ c.length → up c k ≤ c.length ∧ (up c k ≠ 0 → r (up c k) < r k)) : Good c := by
  let r2 : Nat → Nat := fun k => ((ones c.length).filter fun x => decide (r x < r k)).length
  refine ⟨h1, h6, r2, fun k k1 kl => ⟨(hr k k1 kl).1, fun h => ?_, ?_⟩⟩
  · have a := (hr k k1 kl).2 h
    have al := (hr k k1 kl).1
    have sub : ∀ l : List Nat, (l.filter fun x => decide (r x < r (up c k))).length ≤ (l.filter fun x => decide (r x < r k)).length := by
      intro l
      induction l with
      | nil => exact Nat.le_refl _
      | cons x l ih =>
        by_cases z : r x < r (up c k)
        · rw [List.filter_cons_of_pos (by simpa using z), List.filter_cons_of_pos (by simp; omega)]
          simp; exact ih
        · rw [List.filter_cons_of_neg (by simpa using z)]
          by_cases z2 : r x < r k
          · rw [List.filter_cons_of_pos (by simpa using z2)]; simp; omega
          · rw [List.filter_cons_of_neg (by simpa using z2)]; exact ih
    have strict : ∀ l : List Nat, up c k ∈ l → (l.filter fun x => decide (r x < r (up c k))).length < (l.filter fun x => decide (r x < r k)).length := by
      intro l
      induction l with
      | nil => intro z; simp at z
      | cons x l ih =>
        intro z
        by_cases e : x = up c k
        · subst e
          rw [List.filter_cons_of_neg (by simp), List.filter_cons_of_pos (by simpa using a)]
          have := sub l
          simp; omega
        · have z2 := ih ((List.mem_cons.mp z).resolve_left fun z => e z.symm)
          by_cases w : r x < r (up c k)
          · rw [List.filter_cons_of_pos (by simpa using w), List.filter_cons_of_pos (by simp; omega)]
            simp; exact z2
          · rw [List.filter_cons_of_neg (by simpa using w)]
            by_cases w2 : r x < r k
            · rw [List.filter_cons_of_pos (by simpa using w2)]; simp; omega
            · rw [List.filter_cons_of_neg (by simpa using w2)]; exact z2
    exact strict (ones c.length) (mem_ones.mpr ⟨by omega, al⟩)
  · have lt : ∀ l : List Nat, k ∈ l → (l.filter fun x => decide (r x < r k)).length < l.length := by
      intro l
      induction l with
      | nil => intro z; simp at z
      | cons x l ih =>
        intro z
        have le := List.length_filter_le (fun x => decide (r x < r k)) l
        by_cases e : x = k
        · subst e
          rw [List.filter_cons_of_neg (by simp), List.length_cons]; omega
        · have z2 := ih ((List.mem_cons.mp z).resolve_left fun z => e z.symm)
          by_cases w : r x < r k
          · rw [List.filter_cons_of_pos (by simpa using w), List.length_cons, List.length_cons]; omega
          · rw [List.filter_cons_of_neg (by simpa using w), List.length_cons]; omega
    have := lt (ones c.length) (mem_ones.mpr ⟨k1, kl⟩)
    rwa [ones_len] at this
theorem Good.stepS {c : List Nat} (g : Good c) {p q : Nat} (s : StpN c.length p q) : Good (stepS c p q) := by
  obtain ⟨r, hr⟩ := g.rk
  have pu := hr p s.p1 s.pn
  refine good_of (by rw [stepS_len]; exact g.one) (by rw [stepS_len]; exact g.six) (fun k => if k = p then r q + 1 else r k) fun k k1 kl => ?_
  rw [stepS_len] at kl ⊢
  rw [stepS_up k1 kl s.p1]
  have ku := hr k k1 kl
  by_cases h : k = p
  · subst h
    rw [if_pos rfl]
    exact ⟨s.qn, fun _ => by rw [if_neg (Ne.symm s.ne), if_pos rfl]; omega⟩
  · rw [if_neg h]
    by_cases h2 : up c k = p
    · rw [if_pos h2]
      have kp : r p < r k := by have := ku.2.1 (by have := s.p1; omega); rwa [h2] at this
      refine ⟨pu.1, fun z => ?_⟩
      have q1 := pu.2.1 z
      have np : up c p ≠ p := fun e => by rw [e] at q1; omega
      rw [if_neg np, if_neg h]; omega
    · rw [if_neg h2]
      exact ⟨ku.1, fun z => by rw [if_neg h2, if_neg h]; exact ku.2.1 z⟩
def sD (s : Nat × Nat) : PyData := dT [s.1, s.2]
def rowD (row : List (Nat × Nat)) : PyData := .tuple (row.map sD)
def RowOk (n : Nat) (row : List (Nat × Nat)) : Prop := ∀ s ∈ row, StpN n s.1 s.2
def endS (c : List Nat) (row : List (Nat × Nat)) : List Nat := row.foldl (fun c s => stepS c s.1 s.2) c
theorem endS_len (c : List Nat) : ∀ (row : List (Nat × Nat)), (endS c row).length = c.length := by
  intro row
  unfold endS
  induction row generalizing c with
  | nil => rfl
  | cons s r ih => rw [List.foldl_cons, ih, stepS_len]
theorem Good.endS {c : List Nat} (g : Good c) : ∀ {row : List (Nat × Nat)}, RowOk c.length row → Good (endS c row) := by
  intro row h
  unfold Cd.endS
  induction row generalizing c with
  | nil => exact g
  | cons s r ih =>
    rw [List.foldl_cons]
    exact ih (g.stepS (h s List.mem_cons_self)) fun t ht => by rw [stepS_len]; exact h t (List.mem_cons_of_mem _ ht)
theorem endS_snoc (c : List Nat) (row : List (Nat × Nat)) (i : Nat) (s : Nat × Nat) (h : row[i]? = some s) : endS c (row.take (i + 1)) = stepS (endS c (row.take i)) s.1 s.2 := by
  unfold endS
  rw [List.take_succ, h, List.foldl_append]; rfl
theorem RowOk.take {n : Nat} {row : List (Nat × Nat)} (h : RowOk n row) (i : Nat) : RowOk n (row.take i) := fun s hs => h s (List.mem_of_mem_take hs)
def traceL (c : List Nat) (row : List (Nat × Nat)) (i : Nat) : List PyData := (List.range (i + 1)).map fun j => dT (endS c (row.take j))
theorem traceL_len (c : List Nat) (row : List (Nat × Nat)) (i : Nat) : (traceL c row i).length = i + 1 := by simp [traceL]
theorem traceL_last (c : List Nat) (row : List (Nat × Nat)) (i : Nat) : ixD (traceL c row i) (-1) = some (dT (endS c (row.take i))) := by
  unfold ixD
  rw [if_neg (by omega), if_pos (by rw [traceL_len]; omega)]
  have e : ((-1 : Int) + ((traceL c row i).length : Nat)).toNat = i := by rw [traceL_len]; omega
  rw [e]
  unfold traceL
  rw [List.getElem?_map, List.getElem?_range (by omega)]; rfl
theorem traceL_snoc (c : List Nat) (row : List (Nat × Nat)) (i : Nat) : traceL c row (i + 1) = traceL c row i ++ [dT (endS c (row.take (i + 1)))] := by
  unfold traceL
  rw [List.range_succ, List.map_append]; rfl
section
variable {ns : List Int} {C : CT}
def ir_need_size (f : Nat) : SL := (.cons [] (.ite (.not (.call f (.cons false (.var 0) (.cons false (.int 1) (.cons false (.gi "MOST_PEOPLE" 6) .nil))))) (.cons [] .fail
  .nil) .nil)
  .nil)
theorem need_size_ok {f : Nat} (hf : InOk C f) {n : Nat} (h1 : 1 ≤ n) (h6 : n ≤ 6) : exL ns C (ir_need_size f) [.sh (dN n)] = M.ret (.nx [.sh (dN n)]) :=
  st0 (x_guard (t_in (v := n) (a := 1) (b := 6) hf rfl h1 h6)) exL_nil
def ir_is_step (f : Nat) : SL := (.cons [] (.ite (.or (.not (.isi (.var 1) ["tuple"])) (.or (.cmp .ne (.f1 .len (.var 1)) (.int 2)) (.not (.call f (.cons false (.ix (.var 1) (.int 0)) (.cons false (.int 1) (.cons false (.var 0) .nil))))))) (.cons [] (.ret (.bl false))
  .nil) .nil)
  (.cons [] (.ret (.and (.call f (.cons false (.ix (.var 1) (.int 1)) (.cons false (.int 0) (.cons false (.var 0) .nil)))) (.cmp .ne (.ix (.var 1) (.int 0)) (.ix (.var 1) (.int 1)))))
  .nil))
theorem is_step_ok {f n p q : Nat} (hf : InOk C f) (s : StpN n p q) : exL ns C (ir_is_step f) [.sh (dN n), .sh (dT [p, q])] = M.ret (.rt (.bool true)) := by
  have a1 : evT ns C (.call f (.cons false (.ix (.var 1) (.int 0)) (.cons false (.int 1) (.cons false (.var 0) .nil)))) [.sh (dN n), .sh (dT [p, q])] = M.ret true := t_in (v := p) (a := 1) (b := n) hf rfl s.p1 s.pn
  have a2 : evE ns C (.call f (.cons false (.ix (.var 1) (.int 1)) (.cons false (.int 0) (.cons false (.var 0) .nil)))) [.sh (dN n), .sh (dT [p, q])] = M.ret (.bool true) := by
    refine e_call2 (l := [.sh (dN q), .sh (dN 0), .sh (dN n)]) rfl ?_ rfl
    rw [hf, decide_eq_true (by have := s.qn; omega)]
  refine st0 (x_skip (t_or2 (p := false) (q := false) rfl fun _ => t_or2 (p := false) (q := false) rfl fun _ => tt_not a1)) (exL_ret (x_ret (e_and2 ns C (p := true) (q := true) a2 fun _ => ?_)))
  have q1 : evE ns C (.cmp .ne (.ix (.var 1) (.int 0)) (.ix (.var 1) (.int 1))) [.sh (dN n), .sh (dT [p, q])] = M.ret (.bool (!decide (p = q))) := e_cmp2 (x := dN p) (y := dN q) rfl rfl (ne_N ..)
  rw [decide_eq_false s.ne] at q1; exact q1
def IsStepOk (C : CT) (f : Nat) : Prop := ∀ n p q, StpN n p q → C f [.sh (dN n), .sh (dT [p, q])] = M.ret (.bool true)
theorem x_put {i j : Nat} {k e : E} {env : List Slot} {l : List PyData} {d : PyData} (h : evE ns C e env = M.ret d) (hk : evE ns C k env = M.ret (.int (j : Int))) (hi : env[i]? = some (.ow l)) (hj : j < l.length) : exS ns C (.put i k e) env = M.ret (.nx (env.set i (.ow (l.set j d)))) := by
  simp only [exS, h, hk, bd_ret, hi]
  rw [if_pos (by omega)]
  congr 3
def ir_stepped : SL := (.cons [] (.unp [4, 5] (.var 1))
  (.cons [] (.set 2 (.ix (.var 0) (.bin .sub (.var 4) (.int 1))))
  (.cons [] (.set 3 (.lc [("one", 6)] (.nm 6) (.seq (.var 0)) (.bl true) (.ite (.cmp .eq (.var 6) (.var 4)) (.var 2) (.var 6))))
  (.cons [] (.put 3 (.bin .sub (.var 4) (.int 1)) (.var 5))
  (.cons [] (.ret (.f1 .tuple (.var 3)))
  .nil)))))
theorem e_sub1 {i k : Nat} {env : List Slot} (h : env[i]? = some (.sh (dN k))) (h1 : 1 ≤ k) : evE ns C (.bin .sub (.var i) (.int 1)) env = M.ret (.int ((k - 1 : Nat) : Int)) := by
  simp only [evE, rd, h, bd_ret, binD, of_some]
  congr 2; omega
theorem stepped_ok {c : List Nat} {p q : Nat} (h6 : c.length ≤ 6) (p1 : 1 ≤ p) (pl : p ≤ c.length) : exL ns C ir_stepped [.sh (dT c), .sh (dT [p, q]), .no, .no, .no, .no, .no] = M.ret (.rt (dT (stepS c p q))) := by
  refine st0 (e1 := [.sh (dT c), .sh (dT [p, q]), .no, .no, .sh (dN p), .sh (dN q), .no]) rfl ?_
  refine st0 (e1 := [.sh (dT c), .sh (dT [p, q]), .sh (dN (up c p)), .no, .sh (dN p), .sh (dN q), .no]) (x_set (ev_up ns C (i := 0) (j := 4) rfl rfl p1 pl)) ?_
  refine st0 (e1 := [.sh (dT c), .sh (dT [p, q]), .sh (dN (up c p)), .ow (mN (c.map fun x => if x = p then up c p else x)), .sh (dN p), .sh (dN q), .no]) (x_set (d := .list (mN (c.map fun x => if x = p then up c p else x))) ?_) ?_
  · rw [← map_mN]
    refine lcA (l := c) _ rfl (by unfold LB; omega) fun x _ => ?_
    have t : evT ns C (.cmp .eq (.var 6) (.var 4)) [.sh (dT c), .sh (dT [p, q]), .sh (dN (up c p)), .no, .sh (dN p), .sh (dN q), .sh (dN x)] = M.ret (decide (x = p)) := t_cmp2 (x := dN x) (y := dN p) rfl rfl (eq_N ..)
    refine (e_ite2 (env := [.sh (dT c), .sh (dT [p, q]), .sh (dN (up c p)), .no, .sh (dN p), .sh (dN q), .sh (dN x)]) t).trans ?_
    by_cases z : x = p
    · rw [if_pos (by simpa using z), if_pos z]; rfl
    · rw [if_neg (by simpa using z), if_neg z]; rfl
  refine st0 ((x_put (i := 3) (j := p - 1) (l := mN (c.map fun x => if x = p then up c p else x)) (d := dN q) rfl (e_sub1 (i := 4) rfl p1) rfl (by rw [lenN, List.length_map]; omega)).trans rfl) (exL_ret (x_ret (e_f12 (x := .list (mN (stepS c p q))) ?_ rfl)))
  show M.ret (PyData.list ((mN (c.map fun x => if x = p then up c p else x)).set (p - 1) (dN q))) = _
  unfold stepS
  congr 2
  exact List.map_set.symm
/-- what a def that does a step says -/
def StepOk (C : CT) (f : Nat) : Prop := ∀ c p q, Good c → StpN c.length p q → C f [.sh (dT c), .sh (dT [p, q])] = M.ret (dT (stepS c p q))
theorem e_lenT {i : Nat} {c : List Nat} {env : List Slot} (h : env[i]? = some (.sh (dT c))) : evE ns C (.f1 .len (.var i)) env = M.ret (dN c.length) := by
  simp only [evE, rd, h, bd_ret, f1D, of_some, lenN]
def ir_step_done (f g h : Nat) : SL := (.cons [] (.drop (.call f (.cons false (.var 0) .nil)))
  (.cons [] (.ite (.not (.call g (.cons false (.f1 .len (.var 0)) (.cons false (.var 1) .nil)))) (.cons [] .fail
  .nil) .nil)
  (.cons [] (.ret (.call h (.cons false (.var 0) (.cons false (.var 1) .nil))))
  .nil)))
theorem step_done_ok {f g h : Nat} (hf : NeedOk C f) (hg : IsStepOk C g) (hh : StepOk C h) {c : List Nat} {p q : Nat} (gd : Good c) (s : StpN c.length p q) : exL ns C (ir_step_done f g h) [.sh (dT c), .sh (dT [p, q])] = M.ret (.rt (dT (stepS c p q))) := by
  refine st0 (x_need (d := .none) (l := [.sh (dT c)]) rfl (hf c gd)) (st0 (x_guard (t_call2 (l := [.sh (dN c.length), .sh (dT [p, q])]) (aa2 (a_hand (fun _ => rfl) (e_lenT (i := 0) rfl)) rfl) (hg _ p q s) rfl rfl)) (exL_ret (x_ret (e_call2 (l := [.sh (dT c), .sh (dT [p, q])]) rfl (hh c p q gd s) rfl))))
def ir_need_row (f : Nat) : SL := (.cons [] (.ite (.or (.not (.isi (.var 1) ["tuple"])) (.cmp .gt (.f1 .len (.var 1)) (.gi "MOST_ROW" 40))) (.cons [] .fail
  .nil) .nil)
  (.cons [] (.fr (.tp [2, 3]) (.enum (.var 1)) (.cons [] (.ite (.not (.call f (.cons false (.var 0) (.cons false (.var 3) .nil)))) (.cons [] .fail
  .nil) .nil)
  .nil))
  .nil))
theorem need_row_ok {f n : Nat} (hf : IsStepOk C f) {row : List (Nat × Nat)} (hr : RowOk n row) (hl : row.length ≤ 40) : ∃ e, exL ns C (ir_need_row f) [.sh (dN n), .sh (rowD row), .no, .no] = M.ret (.nx e) := by
  have t1 : evT ns C (.cmp .gt (.f1 .len (.var 1)) (.gi "MOST_ROW" 40)) [.sh (dN n), .sh (rowD row), .no, .no] = M.ret false := by
    refine t_cmp2 (x := .int row.length) (y := .int 40) ?_ rfl ?_
    · show M.ret (PyData.int ((row.map sD).length : Nat)) = _
      rw [List.length_map]
    · show some (decide ((40 : Int) < row.length)) = _
      rw [decide_eq_false (by omega)]
  have w := frL_inv (f := fun env x => match bindT env (.tp [2, 3]) x with | some env' => exL ns C (.cons [] (.ite (.not (.call f (.cons false (.var 0) (.cons false (.var 3) .nil)))) (.cons [] .fail .nil) .nil) .nil) env' | none => M.no) (l := enumD 0 (row.map sD))
    (fun _ env => ∃ s2 s3, env = [.sh (dN n), .sh (rowD row), s2, s3]) (fun i x env hx ⟨s2, s3, he⟩ => by
      subst he
      obtain ⟨z, hz, rfl⟩ := enumD_get _ 0 i x hx
      rw [List.getElem?_map] at hz
      cases hy : row[i]? with
      | none => rw [hy] at hz; cases hz
      | some s =>
        rw [hy] at hz
        cases hz
        have hs := hr s (List.mem_of_getElem? hy)
        refine ⟨[.sh (dN n), .sh (rowD row), .sh (.int (0 + (i : Int))), .sh (sD s)], ?_, _, _, rfl⟩
        show exL ns C _ [.sh (dN n), .sh (rowD row), .sh (.int (0 + (i : Int))), .sh (sD s)] = _
        exact st0 (x_guard (t_call2 (l := [.sh (dN n), .sh (dT [s.1, s.2])]) rfl (hf n s.1 s.2 hs) rfl rfl)) exL_nil) (env := [.sh (dN n), .sh (rowD row), .no, .no]) ⟨_, _, rfl⟩
  obtain ⟨e, h1, _⟩ := w
  refine ⟨e, st0 (x_skip (t_or2 (p := false) (q := false) rfl fun _ => t1)) (st0 ((x_fr (l := enumD 0 (row.map sD)) rfl rfl).trans h1) exL_nil)⟩
def NeedRowOk (C : CT) (f : Nat) : Prop := ∀ n row, RowOk n row → row.length ≤ 40 → C f [.sh (dN n), .sh (rowD row)] = M.ret .none
def ir_trace (f : Nat) : SL := (.cons [] (.set 2 (.lst (.cons false (.var 0) .nil)))
  (.cons [] (.fr (.nm 3) (.seq (.var 1)) (.cons [] (.app 2 (.call f (.cons false (.ix (.var 2) (.neg (.int 1))) (.cons false (.var 3) .nil))))
  .nil))
  (.cons [2] (.ret (.var 2))
  .nil)))
theorem a_last {i j : Nat} {env : List Slot} {l : List PyData} {d e : PyData} (hi : env[i]? = some (.ow l)) (hl : ixD l (-1) = some d) (hj : env[j]? = some (.sh e)) : evA ns C (.cons false (.ix (.var i) (.neg (.int 1))) (.cons false (.var j) .nil)) env = M.ret [.sh d, .sh e] := by
  have e1 : evE ns C (.ix (.var i) (.neg (.int 1))) env = M.ret d := by
    simp only [evE, rd, hi, bd_ret, elemsD]
    show M.of (ixD l (-1)) = _
    rw [hl]; rfl
  have e2 : argOf env (.var j) (evE ns C (.var j) env) = M.ret (.sh e) := by
    simp only [argOf, evE, hj, bd_ret]
  exact aa2 (a_hand (fun _ => rfl) e1) e2
theorem trace_ok {f : Nat} (hf : StepOk C f) {c : List Nat} {row : List (Nat × Nat)} (g : Good c) (hr : RowOk c.length row) (hl : row.length ≤ 90000) : exL ns C (ir_trace f) [.sh (dT c), .sh (rowD row), .no, .no] = M.ret (.rt (.list (traceL c row row.length))) := by
  have w := frL_inv (f := fun env x => match bindT env (.nm 3) x with | some env' => exL ns C (.cons [] (.app 2 (.call f (.cons false (.ix (.var 2) (.neg (.int 1))) (.cons false (.var 3) .nil)))) .nil) env' | none => M.no) (l := row.map sD)
    (fun i env => i ≤ row.length ∧ ∃ s3, env = [.sh (dT c), .sh (rowD row), .ow (traceL c row i), s3]) (fun i x env hx ⟨hi, s3, he⟩ => by
      subst he
      rw [List.getElem?_map] at hx
      cases hy : row[i]? with
      | none => rw [hy] at hx; cases hx
      | some s =>
        rw [hy] at hx
        cases hx
        have hs := hr s (List.mem_of_getElem? hy)
        have hi2 : i < row.length := (List.getElem?_eq_some_iff.mp hy).1
        refine ⟨[.sh (dT c), .sh (rowD row), .ow (traceL c row (i + 1)), .sh (sD s)], ?_, hi2, _, rfl⟩
        show exL ns C _ [.sh (dT c), .sh (rowD row), .ow (traceL c row i), .sh (sD s)] = _
        refine st0 ((x_app (i := 2) (l := traceL c row i) (d := dT (endS c (row.take (i + 1)))) (e_call2 (l := [.sh (dT (endS c (row.take i))), .sh (dT [s.1, s.2])]) (a_last (i := 2) (j := 3) (l := traceL c row i) rfl (traceL_last c row i) rfl) ?_ ?_) rfl (by rw [traceL_len]; unfold LB; omega)).trans ?_) exL_nil
        · rw [hf _ s.1 s.2 (g.endS (hr.take i)) (by rw [endS_len]; exact hs), endS_snoc c row i s hy]
        · rfl
        · rw [traceL_snoc]; rfl) (env := [.sh (dT c), .sh (rowD row), .ow (traceL c row 0), .no]) ⟨Nat.zero_le _, _, rfl⟩
  obtain ⟨e, h1, _, s3, he⟩ := w
  subst he
  rw [List.length_map] at h1
  exact st0 rfl (st0 ((x_fr (t := .nm 3) (l := row.map sD) rfl rfl).trans h1) (exL_ret (x_ret rfl)))
def TraceOk (C : CT) (f : Nat) : Prop := ∀ c row, Good c → RowOk c.length row → row.length ≤ 40 → C f [.sh (dT c), .sh (rowD row)] = M.ret (.list (traceL c row row.length))
def ir_done (f g h : Nat) : SL := (.cons [] (.drop (.call f (.cons false (.var 0) .nil)))
  (.cons [] (.drop (.call g (.cons false (.f1 .len (.var 0)) (.cons false (.var 1) .nil))))
  (.cons [] (.ret (.ix (.call h (.cons false (.var 0) (.cons false (.var 1) .nil))) (.neg (.int 1))))
  .nil)))
theorem done_ok {f g h : Nat} (hf : NeedOk C f) (hg : NeedRowOk C g) (hh : TraceOk C h) {c : List Nat} {row : List (Nat × Nat)} (gd : Good c) (hr : RowOk c.length row) (hl : row.length ≤ 40) : exL ns C (ir_done f g h) [.sh (dT c), .sh (rowD row)] = M.ret (.rt (dT (endS c row))) := by
  refine st0 (x_need (d := .none) (l := [.sh (dT c)]) rfl (hf c gd)) (st0 (x_need (d := .none) (l := [.sh (dN c.length), .sh (rowD row)]) (aa2 (a_hand (fun _ => rfl) (e_lenT (i := 0) rfl)) rfl) (hg _ row hr hl)) (exL_ret (x_ret ?_)))
  have e1 : evE ns C (.call h (.cons false (.var 0) (.cons false (.var 1) .nil))) [.sh (dT c), .sh (rowD row)] = M.ret (.list (traceL c row row.length)) := e_call2 (l := [.sh (dT c), .sh (rowD row)]) rfl (hh c row gd hr hl) rfl
  have e2 := traceL_last c row row.length
  rw [List.take_length] at e2
  have e3 : evE ns C (.ix (.call h (.cons false (.var 0) (.cons false (.var 1) .nil))) (.neg (.int 1))) [.sh (dT c), .sh (rowD row)] = M.bd (evE ns C (.call h (.cons false (.var 0) (.cons false (.var 1) .nil))) [.sh (dT c), .sh (rowD row)]) fun x => M.bd (M.ret (PyData.int (-1))) fun y => match elemsD x, y with | some l, .int k => M.of (ixD l k) | _, _ => M.no := by
    simp only [evE, rd, bd_ret] <;> rfl
  show evE ns C (.ix (.call h (.cons false (.var 0) (.cons false (.var 1) .nil))) (.neg (.int 1))) [.sh (dT c), .sh (rowD row)] = _
  rw [e3, e1]
  show M.of (ixD (traceL c row row.length) (-1)) = _
  rw [e2]; rfl
def ir_traced (f g h : Nat) : SL := (.cons [] (.drop (.call f (.cons false (.var 0) .nil)))
  (.cons [] (.drop (.call g (.cons false (.f1 .len (.var 0)) (.cons false (.var 1) .nil))))
  (.cons [] (.ret (.f1 .tuple (.call h (.cons false (.var 0) (.cons false (.var 1) .nil)))))
  .nil)))
theorem traced_ok {f g h : Nat} (hf : NeedOk C f) (hg : NeedRowOk C g) (hh : TraceOk C h) {c : List Nat} {row : List (Nat × Nat)} (gd : Good c) (hr : RowOk c.length row) (hl : row.length ≤ 40) : exL ns C (ir_traced f g h) [.sh (dT c), .sh (rowD row)] = M.ret (.rt (.tuple (traceL c row row.length))) := by
  refine st0 (x_need (d := .none) (l := [.sh (dT c)]) rfl (hf c gd)) (st0 (x_need (d := .none) (l := [.sh (dN c.length), .sh (rowD row)]) (aa2 (a_hand (fun _ => rfl) (e_lenT (i := 0) rfl)) rfl) (hg _ row hr hl)) (exL_ret (x_ret (e_f12 (x := .list (traceL c row row.length)) (e_call2 (l := [.sh (dT c), .sh (rowD row)]) rfl (hh c row gd hr hl) rfl) rfl))))
end
end Cd
namespace Cd
open PySem
/-! The laws' own steps and rows; all charts; powers. -/
section
variable {ns : List Int} {C : CT}
/-- a list that grows by one at each turn -/
theorem app_run {f : List Slot → PyData → M Out} {l : List PyData} (env : List PyData → Slot → List Slot) (h : Nat → PyData) (a0 : List PyData) (s0 : Slot) (hs : ∀ i x s acc, l[i]? = some x → acc = a0 ++ (List.range i).map h → f (env acc s) x = M.ret (.nx (env (acc ++ [h i]) (.sh x)))) : ∃ s', frL f (env a0 s0) l = M.ret (.nx (env (a0 ++ (List.range l.length).map h) s')) := by
  have w := frL_inv (f := f) (l := l) (fun i e => ∃ s', e = env (a0 ++ (List.range i).map h) s') (fun i x e hx ⟨s', he⟩ => by
    subst he
    refine ⟨_, hs i x s' _ hx rfl, .sh x, ?_⟩
    rw [List.range_succ, List.map_append, List.append_assoc]; rfl) (env := env a0 s0) ⟨s0, by simp⟩
  obtain ⟨e, h1, s', he⟩ := w
  exact ⟨s', by rw [h1, he]⟩
theorem rngN_at {n i : Nat} {x : PyData} (h : (mN (List.range' 0 n))[i]? = some x) : i < n ∧ x = dN i := by
  rw [List.getElem?_map] at h
  cases hy : (List.range' 0 n)[i]? with
  | none => rw [hy] at h; cases h
  | some y =>
    rw [hy] at h
    cases h
    obtain ⟨h1, h2⟩ := List.getElem?_eq_some_iff.mp hy
    rw [List.getElem_range'] at h2
    rw [List.length_range'] at h1
    exact ⟨h1, by rw [← h2]; simp⟩
def ir_law_step : SL := (.cons [] (.unp [4, 5] (.var 1))
  (.cons [] (.set 2 (.lst .nil))
  (.cons [] (.fr (.nm 3) (.r1 (.f1 .len (.var 0))) (.cons [] (.app 2 (.ite (.cmp .eq (.bin .add (.var 3) (.int 1)) (.var 4)) (.var 5) (.ite (.cmp .eq (.ix (.var 0) (.var 3)) (.var 4)) (.ix (.var 0) (.bin .sub (.var 4) (.int 1))) (.ix (.var 0) (.var 3)))))
  .nil))
  (.cons [] (.ret (.f1 .tuple (.var 2)))
  .nil))))
theorem lstep_eq (c : List Nat) (p q : Nat) (p1 : 1 ≤ p) : (List.range c.length).map (fun k => if k + 1 = p then q else if c.getD k 0 = p then up c p else c.getD k 0) = stepS c p q := by
  refine List.ext_getElem? fun i => ?_
  by_cases h : i < c.length
  · rw [List.getElem?_map, List.getElem?_range h]
    unfold stepS
    rw [List.getElem?_set, List.length_map, List.getElem?_map]
    have e1 : c[i]? = some (c.getD i 0) := by rw [List.getD_eq_getElem?_getD, List.getElem?_eq_getElem h]; rfl
    by_cases z : i + 1 = p
    · rw [if_pos (by omega), if_pos (by omega)]
      simp only [Option.map_some]
      rw [if_pos z]
    · rw [if_neg (by omega), e1]
      simp only [Option.map_some]
      rw [if_neg z]
  · rw [List.getElem?_eq_none (by simp; omega), List.getElem?_eq_none (by rw [stepS_len]; omega)]
theorem law_step_ok {c : List Nat} {p q : Nat} (h6 : c.length ≤ 6) (p1 : 1 ≤ p) (pl : p ≤ c.length) : exL ns C ir_law_step [.sh (dT c), .sh (dT [p, q]), .no, .no, .no, .no] = M.ret (.rt (dT (stepS c p q))) := by
  have w := app_run (f := fun env x => match bindT env (.nm 3) x with | some env' => exL ns C (.cons [] (.app 2 (.ite (.cmp .eq (.bin .add (.var 3) (.int 1)) (.var 4)) (.var 5) (.ite (.cmp .eq (.ix (.var 0) (.var 3)) (.var 4)) (.ix (.var 0) (.bin .sub (.var 4) (.int 1))) (.ix (.var 0) (.var 3))))) .nil) env' | none => M.no) (l := mN (List.range' 0 c.length)) (fun acc s => [.sh (dT c), .sh (dT [p, q]), .ow acc, s, .sh (dN p), .sh (dN q)]) (fun k => dN (if k + 1 = p then q else if c.getD k 0 = p then up c p else c.getD k 0)) [] .no (fun i x s acc hx ha => by
    obtain ⟨hi, rfl⟩ := rngN_at hx
    have al : acc.length ≤ 6 := by rw [ha]; simp; omega
    show exL ns C _ [.sh (dT c), .sh (dT [p, q]), .ow acc, .sh (dN i), .sh (dN p), .sh (dN q)] = _
    refine st0 ((x_app (l := acc) (d := dN (if i + 1 = p then q else if c.getD i 0 = p then up c p else c.getD i 0)) ?_ rfl (by unfold LB; omega)).trans rfl) exL_nil
    have eg : c[i]? = some (c.getD i 0) := by rw [List.getD_eq_getElem?_getD, List.getElem?_eq_getElem hi]; rfl
    have e1 : evE ns C (.bin .add (.var 3) (.int 1)) [.sh (dT c), .sh (dT [p, q]), .ow acc, .sh (dN i), .sh (dN p), .sh (dN q)] = M.ret (dN (i + 1)) := rfl
    have t1 : evT ns C (.cmp .eq (.bin .add (.var 3) (.int 1)) (.var 4)) [.sh (dT c), .sh (dT [p, q]), .ow acc, .sh (dN i), .sh (dN p), .sh (dN q)] = M.ret (decide (i + 1 = p)) := t_cmp2 (x := dN (i + 1)) (y := dN p) e1 rfl (eq_N ..)
    have e2 : evE ns C (.ix (.var 0) (.var 3)) [.sh (dT c), .sh (dT [p, q]), .ow acc, .sh (dN i), .sh (dN p), .sh (dN q)] = M.ret (dN (c.getD i 0)) := by
      rw [e_ixN (j := 0) (k := i) (l := c) rfl rfl hi, List.getD_eq_getElem?_getD, List.getElem?_eq_getElem hi]; rfl
    have t2 : evT ns C (.cmp .eq (.ix (.var 0) (.var 3)) (.var 4)) [.sh (dT c), .sh (dT [p, q]), .ow acc, .sh (dN i), .sh (dN p), .sh (dN q)] = M.ret (decide (c.getD i 0 = p)) := t_cmp2 (x := dN (c.getD i 0)) (y := dN p) e2 rfl (eq_N ..)
    refine (e_ite2 t1).trans ?_
    by_cases z : i + 1 = p
    · rw [if_pos (by simpa using z), if_pos z]; rfl
    · rw [if_neg (by simpa using z), if_neg z]
      refine (e_ite2 t2).trans ?_
      by_cases z2 : c.getD i 0 = p
      · rw [if_pos (by rw [z2]; simp), if_pos z2]; exact ev_up ns C (i := 0) (j := 4) rfl rfl p1 pl
      · rw [if_neg (by rw [decide_eq_false z2]; simp), if_neg z2]; exact e2)
  obtain ⟨s', w⟩ := w
  have e3 : [] ++ (List.range (mN (List.range' 0 c.length)).length).map (fun k => dN (if k + 1 = p then q else if c.getD k 0 = p then up c p else c.getD k 0)) = mN (stepS c p q) := by
    rw [lenN, List.length_range', List.nil_append, map_mN, lstep_eq c p q p1]
  rw [e3] at w
  refine st0 (e1 := [.sh (dT c), .sh (dT [p, q]), .no, .no, .sh (dN p), .sh (dN q)]) rfl (st0 rfl (st0 ((x_fr (ns := ns) (C := C) (t := .nm 3) (l := mN (List.range' 0 c.length)) (env := [.sh (dT c), .sh (dT [p, q]), .ow [], .no, .sh (dN p), .sh (dN q)]) rfl (ii_r1 (e_lenT (i := 0) rfl) (by omega))).trans w) (exL_ret (x_ret rfl))))
def ir_law_done (f : Nat) : SL := (.cons [] (.fr (.nm 2) (.seq (.var 1)) (.cons [] (.set 0 (.call f (.cons false (.var 0) (.cons false (.var 2) .nil))))
  .nil))
  (.cons [] (.ret (.var 0))
  .nil))
theorem law_done_ok {f : Nat} (hf : StepOk C f) {c : List Nat} {row : List (Nat × Nat)} (g : Good c) (hr : RowOk c.length row) : exL ns C (ir_law_done f) [.sh (dT c), .sh (rowD row), .no] = M.ret (.rt (dT (endS c row))) := by
  have w := frL_inv (f := fun env x => match bindT env (.nm 2) x with | some env' => exL ns C (.cons [] (.set 0 (.call f (.cons false (.var 0) (.cons false (.var 2) .nil)))) .nil) env' | none => M.no) (l := row.map sD)
    (fun i env => ∃ s2, env = [.sh (dT (endS c (row.take i))), .sh (rowD row), s2]) (fun i x env hx ⟨s2, he⟩ => by
      subst he
      rw [List.getElem?_map] at hx
      cases hy : row[i]? with
      | none => rw [hy] at hx; cases hx
      | some s =>
        rw [hy] at hx
        cases hx
        have hs := hr s (List.mem_of_getElem? hy)
        refine ⟨[.sh (dT (endS c (row.take (i + 1)))), .sh (rowD row), .sh (sD s)], ?_, _, rfl⟩
        show exL ns C _ [.sh (dT (endS c (row.take i))), .sh (rowD row), .sh (sD s)] = _
        refine st0 ((x_set (d := dT (endS c (row.take (i + 1)))) (e_call2 (l := [.sh (dT (endS c (row.take i))), .sh (dT [s.1, s.2])]) rfl ?_ rfl)).trans rfl) exL_nil
        rw [hf _ s.1 s.2 (g.endS (hr.take i)) (by rw [endS_len]; exact hs), endS_snoc c row i s hy]) (env := [.sh (dT c), .sh (rowD row), .no]) ⟨_, rfl⟩
  obtain ⟨e, h1, s2, he⟩ := w
  subst he
  rw [List.length_map, List.take_length] at h1
  exact st0 ((x_fr (l := row.map sD) rfl rfl).trans h1) (exL_ret (x_ret rfl))
/-! ### drawn rows -/
def stepsP (n : Nat) : List (Nat × Nat) := (ones n).flatMap fun p => ((List.range' 0 (n + 1)).filter fun q => !decide (q = p)).map fun q => (p, q)
theorem stepsP_mem {n : Nat} {s : Nat × Nat} (h : s ∈ stepsP n) : StpN n s.1 s.2 := by
  obtain ⟨p, hp, h2⟩ := List.mem_flatMap.mp h
  obtain ⟨q, hq, rfl⟩ := List.mem_map.mp h2
  obtain ⟨q1, q2⟩ := List.mem_filter.mp hq
  obtain ⟨p1, p2⟩ := mem_ones.mp hp
  have := List.mem_range'_1.mp q1
  have ne : ¬ q = p := by simpa using q2
  exact ⟨p1, p2, by show q ≤ n; omega, fun e => ne e.symm⟩
def ir_law_steps : SL := (.cons [] (.set 1 (.lst .nil))
  (.cons [] (.fr (.nm 2) (.r2 (.int 1) (.bin .add (.var 0) (.int 1))) (.cons [] (.set 1 (.bin .add (.var 1) (.lc [("_law_chief", 3)] (.nm 3) (.r1 (.bin .add (.var 0) (.int 1))) (.cmp .ne (.var 3) (.var 2)) (.tup (.cons false (.var 2) (.cons false (.var 3) .nil))))))
  .nil))
  (.cons [1] (.ret (.var 1))
  .nil)))
theorem law_steps_ok {n : Nat} (h1 : 1 ≤ n) (h6 : n ≤ 6) : exL ns C ir_law_steps [.sh (dN n), .no, .no, .no] = M.ret (.rt (.list ((stepsP n).map sD))) := by
  have w := frL_inv (f := fun env x => match bindT env (.nm 2) x with | some env' => exL ns C (.cons [] (.set 1 (.bin .add (.var 1) (.lc [("_law_chief", 3)] (.nm 3) (.r1 (.bin .add (.var 0) (.int 1))) (.cmp .ne (.var 3) (.var 2)) (.tup (.cons false (.var 2) (.cons false (.var 3) .nil)))))) .nil) env' | none => M.no) (l := mN (ones n))
    (fun i env => ∃ s2, env = [.sh (dN n), .ow ((((ones n).take i).flatMap fun p => ((List.range' 0 (n + 1)).filter fun q => !decide (q = p)).map fun q => (p, q)).map sD), s2, .no]) (fun i x env hx ⟨s2, he⟩ => by
      subst he
      rw [List.getElem?_map] at hx
      cases hy : (ones n)[i]? with
      | none => rw [hy] at hx; cases hx
      | some p =>
        rw [hy] at hx
        cases hx
        have ll : ∀ l : List Nat, ((l.flatMap fun p => ((List.range' 0 (n + 1)).filter fun q => !decide (q = p)).map fun q => (p, q)).map sD).length ≤ l.length * 7 := by
          intro l
          induction l with
          | nil => simp
          | cons a r ih =>
            rw [List.flatMap_cons, List.map_append, List.length_append, List.length_cons]
            have : ((((List.range' 0 (n + 1)).filter fun q => !decide (q = a)).map fun q => (a, q)).map sD).length ≤ 7 := by
              rw [List.length_map, List.length_map]
              refine Nat.le_trans (List.length_filter_le ..) ?_
              rw [List.length_range']; omega
            omega
        have l1 := ll ((ones n).take i)
        have l2 : ((ones n).take i).length ≤ 6 := by rw [List.length_take, ones_len]; omega
        have lc := lcN (ns := ns) (C := C) (own := [("_law_chief", 3)]) (i := 3) (it := .r1 (.bin .add (.var 0) (.int 1))) (c := .cmp .ne (.var 3) (.var 2)) (e := .tup (.cons false (.var 2) (.cons false (.var 3) .nil))) (env := [.sh (dN n), .ow ((((ones n).take i).flatMap fun p => ((List.range' 0 (n + 1)).filter fun q => !decide (q = p)).map fun q => (p, q)).map sD), .sh (dN p), .no]) (l := List.range' 0 (n + 1)) (fun q => !decide (q = p)) (fun q => dT [p, q]) (ii_r1 rfl (by omega)) (by rw [List.length_range']; unfold LB; omega) (fun q _ => t_cmp2 (x := dN q) (y := dN p) rfl rfl (ne_N ..)) (fun q _ _ => rfl)
        have l3 : (((List.range' 0 (n + 1)).filter fun q => !decide (q = p)).map fun q => dT [p, q]).length ≤ 7 := by
          rw [List.length_map]
          refine Nat.le_trans (List.length_filter_le ..) ?_
          rw [List.length_range']; omega
        refine ⟨[.sh (dN n), .ow ((((ones n).take (i + 1)).flatMap fun p => ((List.range' 0 (n + 1)).filter fun q => !decide (q = p)).map fun q => (p, q)).map sD), .sh (dN p), .no], ?_, _, rfl⟩
        show exL ns C _ [.sh (dN n), .ow ((((ones n).take i).flatMap fun p => ((List.range' 0 (n + 1)).filter fun q => !decide (q = p)).map fun q => (p, q)).map sD), .sh (dN p), .no] = _
        refine st0 (e1 := [.sh (dN n), .ow ((((ones n).take (i + 1)).flatMap fun p => ((List.range' 0 (n + 1)).filter fun q => !decide (q = p)).map fun q => (p, q)).map sD), .sh (dN p), .no]) (x_set (d := .list ((((ones n).take (i + 1)).flatMap fun p => ((List.range' 0 (n + 1)).filter fun q => !decide (q = p)).map fun q => (p, q)).map sD)) (e_bin2 (x := .list ((((ones n).take i).flatMap fun p => ((List.range' 0 (n + 1)).filter fun q => !decide (q = p)).map fun q => (p, q)).map sD)) rfl lc ((bin_addL (by unfold LB; omega)).trans ?_))) exL_nil
        rw [List.take_succ, hy, List.flatMap_append, List.map_append]
        simp [sD]) (env := [.sh (dN n), .ow [], .no, .no]) ⟨.no, by simp⟩
  obtain ⟨e, h2, s2, he⟩ := w
  subst he
  rw [lenN, List.take_length] at h2
  exact st0 (e1 := [.sh (dN n), .ow [], .no, .no]) rfl (st0 ((x_fr (t := .nm 2) (l := mN (ones n)) (env := [.sh (dN n), .ow [], .no, .no]) rfl (ii_r2 (a := 1) (b := n + 1) rfl rfl (by omega) (by omega))).trans h2) (exL_ret (x_ret rfl)))
theorem mapL_evP {f : PyData → M (Option PyData)} {P : PyData → Prop} : ∀ (l : List PyData), (∀ x ∈ l, Ev (f x) fun o => ∃ y, o = some y ∧ P y) → Ev (mapL f l) fun r => r.length = l.length ∧ ∀ y ∈ r, P y
  | [], _ => .of rfl ⟨rfl, fun y hy => by simp at hy⟩
  | a :: r, h => by
    have e0 : mapL f (a :: r) = M.bd (f a) fun o => M.bd (mapL f r) fun l => match o with | some y => M.ret (y :: l) | none => M.ret l := rfl
    rw [e0]
    refine (h a List.mem_cons_self).bd fun o ⟨y, ho, py⟩ => (mapL_evP r fun x hx => h x (List.mem_cons_of_mem _ hx)).bd fun d ⟨hd, hp⟩ => ?_
    subst ho
    refine .of rfl ⟨by simp [hd], fun z hz => ?_⟩
    rcases List.mem_cons.mp hz with rfl | hz
    · exact py
    · exact hp z hz
/-- as many draws as are walked -/
theorem v_lcE {own : List (Str × Nat)} {i m : Nat} {it : It} {e : E} {env : List Slot} {P : PyData → Prop} (hi : Ev (evI ns C it env) fun l => ∃ k, k ≤ m ∧ l = mN (List.range' 0 k)) (hm : m ≤ LB)
    (he : ∀ x, Ev (evE ns C e (setS (wipeE env (own.map (·.2))) i (dN x))) P) : Ev (evE ns C (.lc own (.nm i) it (.bl true) e) env) fun d => ∃ l : List PyData, l.length ≤ m ∧ (∀ x ∈ l, P x) ∧ d = .list l := by
  have e0 : evE ns C (.lc own (.nm i) it (.bl true) e) env = M.bd (evI ns C it env) fun l => M.bd (mapL (fun x => match bindT (wipeE env (own.map (·.2))) (.nm i) x with
      | some env' => M.bd (evT ns C (.bl true) env') fun k => if k then M.bd (evE ns C e env') fun y => M.ret (some y) else M.ret none
      | none => M.no) l) fun r => if r.length ≤ LB then M.ret (.list r) else M.no := by
    simp only [evE] <;> rfl
  rw [e0]
  refine hi.bd fun l ⟨k, hk, hl⟩ => ?_
  subst hl
  refine (mapL_evP (P := P) _ fun x hx => ?_).bd fun d ⟨hd, hp⟩ => ?_
  · obtain ⟨y, _, rfl⟩ := List.mem_map.mp hx
    show Ev (M.bd (evT ns C (.bl true) (setS (wipeE env (own.map (·.2))) i (dN y))) fun k => if k then M.bd (evE ns C e (setS (wipeE env (own.map (·.2))) i (dN y))) fun y => M.ret (some y) else M.ret none) _
    have e1 : evT ns C (.bl true) (setS (wipeE env (own.map (·.2))) i (dN y)) = M.ret true := by simp only [evT]
    rw [e1, bd_ret, if_pos rfl]
    exact (he y).bd fun z hz => .of rfl ⟨z, rfl, hz⟩
  · rw [lenN, List.length_range'] at hd
    exact .of (if_pos (by omega)) ⟨d, by omega, hp, rfl⟩
def ir_law_row (f g : Nat) : SL := (.cons [] (.ite (.cmp .eq (.var 1) (.int 1)) (.cons [] (.ret (.bin .mul (.tup (.cons false (.tup (.cons false (.int 1) (.cons false (.int 0) .nil))) .nil)) (.take 0 (.bin .add (.var 2) (.int 1)))))
  .nil) .nil)
  (.cons [] (.set 3 (.call f (.cons false (.var 1) .nil)))
  (.cons [] (.ret (.f1 .tuple (.lc [("_law_k", 4)] (.nm 4) (.r1 (.take 0 (.bin .add (.var 2) (.int 1)))) (.bl true) (.call g (.cons false (.var 0) (.cons false (.var 3) .nil))))))
  .nil)))
theorem rows_from {n : Nat} : ∀ {l : List PyData}, (∀ x ∈ l, ∃ s, StpN n s.1 s.2 ∧ x = sD s) → ∃ row, RowOk n row ∧ row.length = l.length ∧ l = row.map sD
  | [], _ => ⟨[], fun s h => by simp at h, rfl, rfl⟩
  | x :: r, h => by
    obtain ⟨s, hs, rfl⟩ := h x List.mem_cons_self
    obtain ⟨row, h1, h2, rfl⟩ := rows_from (l := r) fun y hy => h y (List.mem_cons_of_mem _ hy)
    refine ⟨s :: row, fun t ht => ?_, by simp, rfl⟩
    rcases List.mem_cons.mp ht with rfl | ht
    · exact hs
    · exact h1 t ht
def PickD (C : CT) (p : Nat) : Prop := ∀ d l, elemsD d = some l → 0 < l.length → l.length < 1000000 → Ev (C p [.row, .sh d]) fun x => x ∈ l
def StepsOk (C : CT) (f : Nat) : Prop := ∀ n, 1 ≤ n → n ≤ 6 → C f [.sh (dN n)] = M.ret (.list ((stepsP n).map sD))
theorem stepsP_len {n : Nat} (h2 : 2 ≤ n) (h6 : n ≤ 6) : 0 < (stepsP n).length ∧ (stepsP n).length < 1000 := by
  have : n = 2 ∨ n = 3 ∨ n = 4 ∨ n = 5 ∨ n = 6 := by omega
  rcases this with rfl | rfl | rfl | rfl | rfl <;> decide
theorem law_row_ok {f g n m : Nat} (hf : StepsOk C f) (hg : PickD C g) (h1 : 1 ≤ n) (h6 : n ≤ 6) (hm : m ≤ 900) : Ev (exL ns C (ir_law_row f g) [.row, .sh (dN n), .sh (dN m), .no, .no]) (Rt fun d => ∃ row, RowOk n row ∧ row.length ≤ m ∧ d = rowD row) := by
  have t : evT ns C (.cmp .eq (.var 1) (.int 1)) [.row, .sh (dN n), .sh (dN m), .no, .no] = M.ret (decide (n = 1)) := t_cmp2 (x := dN n) (y := dN 1) rfl rfl (eq_N ..)
  have tk : ∀ s3 s4, Ev (evE ns C (.take 0 (.bin .add (.var 2) (.int 1))) [.row, .sh (dN n), .sh (dN m), s3, s4]) fun d => ∃ v : Nat, v < m + 1 ∧ d = dN v := fun s3 s4 => v_take (m := m + 1) rfl rfl (by omega) (by omega)
  by_cases z : n = 1
  · rw [decide_eq_true z] at t
    refine v_ret ?_
    show Ev (exS ns C (.ite _ _ _) [.row, .sh (dN n), .sh (dN m), .no, .no]) _
    rw [x_ite t, if_pos rfl]
    refine v_ret (v_retS ?_)
    show Ev (evE ns C (.bin .mul (.tup (.cons false (.tup (.cons false (.int 1) (.cons false (.int 0) .nil))) .nil)) (.take 0 (.bin .add (.var 2) (.int 1)))) [.row, .sh (dN n), .sh (dN m), .no, .no]) _
    have e : evE ns C (.bin .mul (.tup (.cons false (.tup (.cons false (.int 1) (.cons false (.int 0) .nil))) .nil)) (.take 0 (.bin .add (.var 2) (.int 1)))) [.row, .sh (dN n), .sh (dN m), .no, .no] = M.bd (evE ns C (.take 0 (.bin .add (.var 2) (.int 1))) [.row, .sh (dN n), .sh (dN m), .no, .no]) fun y => M.of (binD .mul (.tuple [sD (1, 0)]) y) := by
      have e2 : evE ns C (.tup (.cons false (.tup (.cons false (.int 1) (.cons false (.int 0) .nil))) .nil)) [.row, .sh (dN n), .sh (dN m), .no, .no] = M.ret (.tuple [sD (1, 0)]) := rfl
      have e3 : ∀ a b env, evE ns C (.bin .mul a b) env = M.bd (rd env a (evE ns C a env)) fun x => M.bd (rd env b (evE ns C b env)) fun y => M.of (binD .mul x y) := fun a b env => by simp only [evE]
      rw [e3]
      show M.bd (evE ns C (.tup (.cons false (.tup (.cons false (.int 1) (.cons false (.int 0) .nil))) .nil)) [.row, .sh (dN n), .sh (dN m), .no, .no]) _ = _
      rw [e2]; rfl
    rw [e]
    refine (tk .no .no).bd fun d ⟨v, hv, hd⟩ => ?_
    subst hd
    refine .of (a := rowD (List.replicate v (1, 0))) ?_ ⟨List.replicate v (1, 0), fun s hs => ?_, by rw [List.length_replicate]; omega, rfl⟩
    · show M.of (if 0 ≤ (v : Int) ∧ (v : Int) ≤ 1000 then some (PyData.tuple (List.replicate (v : Int).toNat (sD (1, 0)))) else none) = _
      rw [if_pos (by omega)]
      unfold rowD
      rw [List.map_replicate]; rfl
    · rw [List.eq_of_mem_replicate hs]
      exact ⟨Nat.le_refl _, by omega, by omega, by decide⟩
  · rw [decide_eq_false z] at t
    refine w_step (fz := []) rfl (x_skip t) (w_step (fz := []) (e1 := [.row, .sh (dN n), .sh (dN m), .sh (.list ((stepsP n).map sD)), .no]) rfl (x_set (e_call2 (l := [.sh (dN n)]) rfl (hf n h1 h6) rfl)) (v_ret (v_retS ?_)))
    obtain ⟨l1, l2⟩ := stepsP_len (n := n) (by omega) h6
    refine v_f1 (P := fun d => ∃ l : List PyData, l.length ≤ m ∧ (∀ x ∈ l, ∃ s, StpN n s.1 s.2 ∧ x = sD s) ∧ d = .list l) rfl (v_lcE (m := m) ?_ (by unfold LB; omega) fun x => ?_) fun d ⟨l, hl, hp, hd⟩ => ?_
    · have e : evI ns C (.r1 (.take 0 (.bin .add (.var 2) (.int 1)))) [.row, .sh (dN n), .sh (dN m), .sh (.list ((stepsP n).map sD)), .no] = M.bd (evE ns C (.take 0 (.bin .add (.var 2) (.int 1))) [.row, .sh (dN n), .sh (dN m), .sh (.list ((stepsP n).map sD)), .no]) fun x => match x with | .int n => if -100000 < n ∧ n < 100000 then M.ret (rngD 0 n.toNat) else M.no | _ => M.no := by
        simp only [evI] <;> rfl
      show Ev (evI ns C (.r1 (.take 0 (.bin .add (.var 2) (.int 1)))) [.row, .sh (dN n), .sh (dN m), .sh (.list ((stepsP n).map sD)), .no]) _
      rw [e]
      refine (tk _ _).bd fun d ⟨v, hv, hd⟩ => ?_
      subst hd
      refine .of (if_pos (by omega)) ⟨v, by omega, ?_⟩
      have := rngN v 0
      exact this
    · refine (v_call (env := [.row, .sh (dN n), .sh (dN m), .sh (.list ((stepsP n).map sD)), .sh (dN x)]) (l := [.row, .sh (.list ((stepsP n).map sD))]) rfl (hg (.list ((stepsP n).map sD)) _ rfl (by rw [List.length_map]; exact l1) (by rw [List.length_map]; omega)) fun d hd => rfl).mono fun d hd => ?_
      obtain ⟨s, hs, rfl⟩ := List.mem_map.mp hd
      exact ⟨s, stepsP_mem hs, rfl⟩
    · subst hd
      obtain ⟨row, r1, r2, rfl⟩ := rows_from hp
      exact ⟨_, rfl, row, r1, by omega, rfl⟩
end
end Cd
namespace Cd
open PySem
/-! All charts; powers. -/
/-- going up so many times, 0 stays -/
def upN (c : List Nat) : Nat → Nat → Nat
  | 0, h => h
  | i + 1, h => if upN c i h = 0 then 0 else up c (upN c i h)
def Ent (c : List Nat) : Prop := ∀ x ∈ c, x ≤ c.length
theorem Ent.up {c : List Nat} (e : Ent c) (k : Nat) : up c k ≤ c.length := by
  unfold Cd.up
  rw [List.getD_eq_getElem?_getD]
  cases h : c[k - 1]? with
  | none => exact Nat.zero_le _
  | some x => exact e x (List.mem_of_getElem? h)
theorem upN_le {c : List Nat} (e : Ent c) : ∀ (i h : Nat), h ≤ c.length → upN c i h ≤ c.length
  | 0, h, hl => hl
  | i + 1, h, hl => by
    unfold upN
    split
    · exact Nat.zero_le _
    · exact e.up _
theorem upN_zero {c : List Nat} {i h : Nat} (z : upN c i h = 0) : ∀ j, i ≤ j → upN c j h = 0 := by
  intro j hj
  induction j with
  | zero => have : i = 0 := by omega
            subst this; exact z
  | succ j ih =>
    by_cases e : i = j + 1
    · subst e; exact z
    · unfold upN; rw [if_pos (ih (by omega))]
theorem Good.upz {c : List Nat} (g : Good c) {h : Nat} (hl : h ≤ c.length) : upN c c.length h = 0 := by
  obtain ⟨r, hr⟩ := g.rk
  have w : ∀ i, upN c i h ≤ c.length ∧ (upN c i h ≠ 0 → r (upN c i h) + i < c.length) := by
    intro i
    induction i with
    | zero =>
      refine ⟨hl, fun z => ?_⟩
      have z' : h ≠ 0 := z
      exact (hr h (by omega) hl).2.2
    | succ i ih =>
      unfold Cd.upN
      split
      · exact ⟨Nat.zero_le _, fun z => absurd rfl z⟩
      · rename_i z
        obtain ⟨a, b, d⟩ := hr (Cd.upN c i h) (by omega) ih.1
        refine ⟨a, fun y => ?_⟩
        have := ih.2 z
        have := b y
        omega
  by_cases z : Cd.upN c c.length h = 0
  · exact z
  · have := (w c.length).2 z; omega
def upA (c : List Nat) : Bool := (ones c.length).all fun p => decide (upN c (c.length + 1) p = 0)
def upB (c : List Nat) : Bool := (ones c.length).all fun p => decide (upN c c.length p = 0)
theorem Good.isB {c : List Nat} (g : Good c) : upB c = true := by
  unfold upB
  rw [List.all_eq_true]
  intro p hp
  exact decide_eq_true (g.upz (mem_ones.mp hp).2)
theorem Good.ent {c : List Nat} (g : Good c) : Ent c := mem_le g
section
variable {ns : List Int} {C : CT}
/-- a loop that is left by a return where a test fails -/
theorem frL_all {f : List Slot → PyData → M Out} {d : PyData} (Inv : List Slot → Prop) (p : Nat → Bool) : ∀ (l : List Nat), (∀ x ∈ l, ∀ env, Inv env → (p x = true → ∃ e, f env (dN x) = M.ret (.nx e) ∧ Inv e) ∧ (p x = false → f env (dN x) = M.ret (.rt d))) → ∀ env, Inv env → ∃ e, Inv e ∧ frL f env (mN l) = M.ret (if l.all p then .nx e else .rt d)
  | [], _, env, i => ⟨env, i, rfl⟩
  | x :: r, h, env, i => by
    obtain ⟨h1, h2⟩ := h x List.mem_cons_self env i
    have e0 : frL f env (mN (x :: r)) = M.bd (f env (dN x)) fun o => match o with | .nx env' => frL f env' (mN r) | .ct env' => frL f env' (mN r) | .bk env' => M.ret (.nx env') | .rt d => M.ret (.rt d) := rfl
    rw [e0, List.all_cons]
    cases hp : p x with
    | true =>
      obtain ⟨e1, h3, i1⟩ := h1 hp
      obtain ⟨e2, i2, h4⟩ := frL_all Inv p r (fun y hy => h y (List.mem_cons_of_mem _ hy)) e1 i1
      exact ⟨e2, i2, by rw [h3, bd_ret, Bool.true_and]; exact h4⟩
    | false => exact ⟨env, i, by rw [h2 hp, bd_ret, Bool.false_and]; rfl⟩
def wh_body : SL := .cons [] (.par [2, 3] (.cons false (.ix (.var 0) (.bin .sub (.var 2) (.int 1))) (.cons false (.bin .add (.var 3) (.int 1)) .nil))) .nil
theorem comes_up_gen {c : List Nat} (en : Ent c) (hs : c.length ≤ 6) : exL ns C ir_comes_up [.sh (dT c), .no, .no, .no] = M.ret (.rt (.bool (upA c))) := by
  have w0 := frL_all (f := fun env x => match bindT env (.nm 1) x with | some env' => exL ns C (.cons [] (.par [2, 3] (.cons false (.var 1) (.cons false (.int 0) .nil)))
    (.cons [] (.wh (.and (.cmp .ne (.var 2) (.int 0)) (.cmp .le (.var 3) (.f1 .len (.var 0)))) wh_body)
    (.cons [] (.ite (.cmp .ne (.var 2) (.int 0)) (.cons [] (.ret (.bl false)) .nil) .nil) .nil))) env' | none => M.no) (d := .bool false) (fun env => ∃ s1 s2 s3, env = [.sh (dT c), s1, s2, s3]) (fun p => decide (upN c (c.length + 1) p = 0)) (ones c.length) (fun p hp env ⟨s1, s2, s3, he⟩ => by
      subst he
      obtain ⟨p1, p2⟩ := mem_ones.mp hp
      have w1 := whL_inv (c := fun env => evT ns C (.and (.cmp .ne (.var 2) (.int 0)) (.cmp .le (.var 3) (.f1 .len (.var 0)))) env) (f := fun env => exL ns C wh_body env)
        (fun m env => ∃ k : Nat, env = [.sh (dT c), .sh (dN p), .sh (dN (upN c k p)), .sh (dN k)] ∧ k + m = c.length + 1) (fun env => ∃ k : Nat, env = [.sh (dT c), .sh (dN p), .sh (dN (upN c (c.length + 1) p)), .sh (dN k)])
        (fun m env ⟨k, he, hk⟩ => by
          subst he
          have hc1 : evT ns C (.cmp .ne (.var 2) (.int 0)) [.sh (dT c), .sh (dN p), .sh (dN (upN c k p)), .sh (dN k)] = M.ret (decide (((upN c k p : Nat) : Int) ≠ 0)) := t_ne rfl rfl
          have hc2 : evT ns C (.cmp .le (.var 3) (.f1 .len (.var 0))) [.sh (dT c), .sh (dN p), .sh (dN (upN c k p)), .sh (dN k)] = M.ret (decide ((k : Int) ≤ c.length)) := by
            show M.of (some (decide ((k : Int) ≤ (mN c).length))) = _
            rw [lenN]; rfl
          have hc := t_and2 hc1 fun _ => hc2
          by_cases z : upN c k p = 0
          · refine .inl ⟨?_, k, by rw [upN_zero z (c.length + 1) (by omega), z]⟩
            rw [hc, z]; rfl
          · by_cases z2 : k ≤ c.length
            · refine .inr ⟨by rw [hc, decide_eq_true (by omega), decide_eq_true (by omega)]; rfl, [.sh (dT c), .sh (dN p), .sh (dN (upN c (k + 1) p)), .sh (dN (k + 1))], m - 1, ?_, by omega, k + 1, rfl, by omega⟩
              show exL ns C wh_body [.sh (dT c), .sh (dN p), .sh (dN (upN c k p)), .sh (dN k)] = _
              have e9 : upN c (k + 1) p = up c (upN c k p) := by rw [upN, if_neg z]
              rw [e9]
              unfold wh_body
              rw [exL_step (x_par (l := [dN (up c (upN c k p)), .int ((k : Int) + 1)]) (l_one (ev_up ns C (i := 0) (j := 2) rfl rfl (by omega) (upN_le en k p p2)) (l_one rfl rfl)) rfl), exL_nil]
              rfl
            · have : k = c.length + 1 := by omega
              subst this
              refine .inl ⟨by rw [hc, decide_eq_false (show ¬ (((c.length + 1 : Nat) : Int) ≤ c.length) by omega), Bool.and_false], _, rfl⟩) 100000 (c.length + 1) [.sh (dT c), .sh (dN p), .sh (dN p), .sh (dN 0)] ⟨0, rfl, by omega⟩ (by omega)
      obtain ⟨e2, k1, k, k2⟩ := w1
      subst k2
      have tl : evT ns C (.cmp .ne (.var 2) (.int 0)) [.sh (dT c), .sh (dN p), .sh (dN (upN c (c.length + 1) p)), .sh (dN k)] = M.ret (!decide (upN c (c.length + 1) p = 0)) := t_cmp2 (x := dN (upN c (c.length + 1) p)) (y := dN 0) rfl rfl (ne_N ..)
      have st : ∀ o, exL ns C (.cons [] (.ite (.cmp .ne (.var 2) (.int 0)) (.cons [] (.ret (.bl false)) .nil) .nil) .nil) [.sh (dT c), .sh (dN p), .sh (dN (upN c (c.length + 1) p)), .sh (dN k)] = o → exL ns C (.cons [] (.par [2, 3] (.cons false (.var 1) (.cons false (.int 0) .nil)))
          (.cons [] (.wh (.and (.cmp .ne (.var 2) (.int 0)) (.cmp .le (.var 3) (.f1 .len (.var 0)))) wh_body)
          (.cons [] (.ite (.cmp .ne (.var 2) (.int 0)) (.cons [] (.ret (.bl false)) .nil) .nil) .nil))) [.sh (dT c), .sh (dN p), s2, s3] = o := fun o h =>
        st0 (e1 := [.sh (dT c), .sh (dN p), .sh (dN p), .sh (dN 0)]) (x_par (l := [dN p, .int 0]) (l_one rfl (l_one rfl rfl)) rfl) (st0 (x_wh.trans k1) h)
      refine ⟨fun h => ⟨[.sh (dT c), .sh (dN p), .sh (dN (upN c (c.length + 1) p)), .sh (dN k)], st _ ?_, _, _, _, rfl⟩, fun h => st _ ?_⟩
      · rw [h] at tl
        exact st0 (x_skip tl) exL_nil
      · rw [h] at tl
        exact exL_ret (fz := []) ((x_ite tl).trans (by rw [if_pos (show (!false) = true from rfl)]; exact exL_ret (x_ret rfl)))) [.sh (dT c), .no, .no, .no] ⟨_, _, _, rfl⟩
  obtain ⟨e1, ⟨s1, s2, s3, he⟩, h1⟩ := w0
  subst he
  have h2 := (x_fr (ns := ns) (C := C) (t := .nm 1) (env := [.sh (dT c), .no, .no, .no]) rfl (i_len1 (i := 0) rfl (by omega))).trans h1
  unfold upA
  cases hu : (ones c.length).all fun p => decide (upN c (c.length + 1) p = 0) with
  | true =>
    rw [hu] at h2
    exact st0 h2 (exL_ret (x_ret rfl))
  | false =>
    rw [hu] at h2
    exact exL_ret (fz := []) h2
def ir_law_is_chart : SL := (.cons [] (.fr (.nm 1) (.r2 (.int 1) (.bin .add (.f1 .len (.var 0)) (.int 1))) (.cons [] (.set 2 (.var 1))
  (.cons [] (.fr (.nm 3) (.r1 (.f1 .len (.var 0))) (.cons [] (.set 2 (.ite (.cmp .ne (.var 2) (.int 0)) (.ix (.var 0) (.bin .sub (.var 2) (.int 1))) (.int 0)))
  .nil))
  (.cons [] (.ite (.cmp .ne (.var 2) (.int 0)) (.cons [] (.ret (.bl false))
  .nil) .nil)
  .nil))))
  (.cons [] (.ret (.bl true))
  .nil))
theorem law_is_chart_gen {c : List Nat} (en : Ent c) (hs : c.length ≤ 6) : exL ns C ir_law_is_chart [.sh (dT c), .no, .no, .no] = M.ret (.rt (.bool (upB c))) := by
  have w0 := frL_all (f := fun env x => match bindT env (.nm 1) x with | some env' => exL ns C (.cons [] (.set 2 (.var 1))
    (.cons [] (.fr (.nm 3) (.r1 (.f1 .len (.var 0))) (.cons [] (.set 2 (.ite (.cmp .ne (.var 2) (.int 0)) (.ix (.var 0) (.bin .sub (.var 2) (.int 1))) (.int 0))) .nil))
    (.cons [] (.ite (.cmp .ne (.var 2) (.int 0)) (.cons [] (.ret (.bl false)) .nil) .nil) .nil))) env' | none => M.no) (d := .bool false) (fun env => ∃ s1 s2 s3, env = [.sh (dT c), s1, s2, s3]) (fun p => decide (upN c c.length p = 0)) (ones c.length) (fun p hp env ⟨s1, s2, s3, he⟩ => by
      subst he
      obtain ⟨p1, p2⟩ := mem_ones.mp hp
      have w1 := frL_inv (f := fun env x => match bindT env (.nm 3) x with | some env' => exL ns C (.cons [] (.set 2 (.ite (.cmp .ne (.var 2) (.int 0)) (.ix (.var 0) (.bin .sub (.var 2) (.int 1))) (.int 0))) .nil) env' | none => M.no) (l := mN (List.range' 0 c.length))
        (fun i env => ∃ s3, env = [.sh (dT c), .sh (dN p), .sh (dN (upN c i p)), s3]) (fun i x env hx ⟨s3, he⟩ => by
          subst he
          refine ⟨[.sh (dT c), .sh (dN p), .sh (dN (upN c (i + 1) p)), .sh x], ?_, _, rfl⟩
          show exL ns C _ [.sh (dT c), .sh (dN p), .sh (dN (upN c i p)), .sh x] = _
          have t : evT ns C (.cmp .ne (.var 2) (.int 0)) [.sh (dT c), .sh (dN p), .sh (dN (upN c i p)), .sh x] = M.ret (!decide (upN c i p = 0)) := t_cmp2 (x := dN (upN c i p)) (y := dN 0) rfl rfl (ne_N ..)
          refine st0 (e1 := [.sh (dT c), .sh (dN p), .sh (dN (upN c (i + 1) p)), .sh x]) (x_set (d := dN (upN c (i + 1) p)) ((e_ite2 t).trans ?_)) exL_nil
          by_cases z : upN c i p = 0
          · rw [decide_eq_true z, upN, if_pos z]; rfl
          · rw [decide_eq_false z, upN, if_neg z]
            exact ev_up ns C (i := 0) (j := 2) rfl rfl (by omega) (upN_le en i p p2)) (env := [.sh (dT c), .sh (dN p), .sh (dN p), s3]) ⟨_, rfl⟩
      obtain ⟨e2, k1, k, k2⟩ := w1
      subst k2
      rw [lenN, List.length_range'] at k1
      have tl : evT ns C (.cmp .ne (.var 2) (.int 0)) [.sh (dT c), .sh (dN p), .sh (dN (upN c c.length p)), k] = M.ret (!decide (upN c c.length p = 0)) := t_cmp2 (x := dN (upN c c.length p)) (y := dN 0) rfl rfl (ne_N ..)
      have st : ∀ o, exL ns C (.cons [] (.ite (.cmp .ne (.var 2) (.int 0)) (.cons [] (.ret (.bl false)) .nil) .nil) .nil) [.sh (dT c), .sh (dN p), .sh (dN (upN c c.length p)), k] = o → exL ns C (.cons [] (.set 2 (.var 1))
          (.cons [] (.fr (.nm 3) (.r1 (.f1 .len (.var 0))) (.cons [] (.set 2 (.ite (.cmp .ne (.var 2) (.int 0)) (.ix (.var 0) (.bin .sub (.var 2) (.int 1))) (.int 0))) .nil))
          (.cons [] (.ite (.cmp .ne (.var 2) (.int 0)) (.cons [] (.ret (.bl false)) .nil) .nil) .nil))) [.sh (dT c), .sh (dN p), s2, s3] = o := fun o h =>
        st0 (e1 := [.sh (dT c), .sh (dN p), .sh (dN p), s3]) rfl (st0 ((x_fr (t := .nm 3) (env := [.sh (dT c), .sh (dN p), .sh (dN p), s3]) rfl (ii_r1 (e_lenT (i := 0) rfl) (by omega))).trans k1) h)
      refine ⟨fun h => ⟨[.sh (dT c), .sh (dN p), .sh (dN (upN c c.length p)), k], st _ ?_, _, _, _, rfl⟩, fun h => st _ ?_⟩
      · rw [h] at tl
        exact st0 (x_skip tl) exL_nil
      · rw [h] at tl
        exact exL_ret (fz := []) ((x_ite tl).trans (by rw [if_pos (show (!false) = true from rfl)]; exact exL_ret (x_ret rfl)))) [.sh (dT c), .no, .no, .no] ⟨_, _, _, rfl⟩
  obtain ⟨e1, ⟨s1, s2, s3, he⟩, h1⟩ := w0
  subst he
  have h2 := (x_fr (ns := ns) (C := C) (t := .nm 1) (env := [.sh (dT c), .no, .no, .no]) rfl (i_len1 (i := 0) rfl (by omega))).trans h1
  unfold upB
  cases hu : (ones c.length).all fun p => decide (upN c c.length p = 0) with
  | true =>
    rw [hu] at h2
    exact st0 h2 (exL_ret (x_ret rfl))
  | false =>
    rw [hu] at h2
    exact exL_ret (fz := []) h2
end
end Cd
namespace Cd
open PySem
/-! Lists of all charts; powers. -/
def ext (n : Nat) (L : List (List Nat)) : List (List Nat) := L.flatMap fun t => (List.range' 0 (n + 1)).map fun q => t ++ [q]
def tups (n : Nat) : Nat → List (List Nat)
  | 0 => [[]]
  | k + 1 => ext n (tups n k)
theorem ext_len (n : Nat) : ∀ L : List (List Nat), (ext n L).length = L.length * (n + 1)
  | [] => by simp [ext]
  | t :: r => by
    have e : ext n (t :: r) = ((List.range' 0 (n + 1)).map fun q => t ++ [q]) ++ ext n r := rfl
    rw [e, List.length_append, ext_len n r, List.length_map, List.length_range', List.length_cons, Nat.succ_mul]
    omega
theorem tups_len (n : Nat) : ∀ k, (tups n k).length = (n + 1) ^ k
  | 0 => rfl
  | k + 1 => by rw [tups, ext_len, tups_len n k, Nat.pow_succ]
theorem tups_mem {n : Nat} : ∀ {k : Nat} {t : List Nat}, t ∈ tups n k → t.length = k ∧ ∀ x ∈ t, x ≤ n
  | 0, t, h => by
    have : t = [] := by simpa [tups] using h
    subst this
    exact ⟨rfl, fun x hx => by simp at hx⟩
  | k + 1, t, h => by
    obtain ⟨u, hu, h2⟩ := List.mem_flatMap.mp h
    obtain ⟨q, hq, rfl⟩ := List.mem_map.mp h2
    obtain ⟨l1, l2⟩ := tups_mem hu
    refine ⟨by simp [l1], fun x hx => ?_⟩
    rcases List.mem_append.mp hx with hx | hx
    · exact l2 x hx
    · have : x = q := by simpa using hx
      subst this
      have := List.mem_range'_1.mp hq
      omega
theorem tups_ent {n : Nat} {t : List Nat} (h : t ∈ tups n n) : Ent t := fun x hx => by
  obtain ⟨l1, l2⟩ := tups_mem h
  rw [l1]; exact l2 x hx
theorem pow_le {n k : Nat} (hn : n ≤ 4) (hk : k ≤ 4) : (n + 1) ^ k ≤ 625 := by
  have a : (n + 1) ^ k ≤ 5 ^ k := Nat.pow_le_pow_left (by omega) k
  have b : 5 ^ k ≤ 5 ^ 4 := Nat.pow_le_pow_right (by omega) hk
  have c : 5 ^ 4 = 625 := by decide
  omega
section
variable {ns : List Int} {C : CT}
theorem mapL_T {f : PyData → M (Option PyData)} (p : List Nat → Bool) : ∀ {L : List (List Nat)}, (∀ t ∈ L, f (dT t) = M.ret (if p t then some (dT t) else none)) → mapL f (L.map dT) = M.ret ((L.filter p).map dT)
  | [], _ => rfl
  | t :: r, h => by
    have e0 : mapL f ((t :: r).map dT) = M.bd (f (dT t)) fun o => M.bd (mapL f (r.map dT)) fun l => match o with | some y => M.ret (y :: l) | none => M.ret l := rfl
    rw [e0, h t List.mem_cons_self, bd_ret, mapL_T p fun u hu => h u (List.mem_cons_of_mem _ hu), bd_ret]
    by_cases z : p t = true
    · rw [if_pos z, List.filter_cons_of_pos z]; rfl
    · rw [if_neg z, List.filter_cons_of_neg z]
theorem lcT {own : List (Str × Nat)} {i : Nat} {it : It} {c : E} {env : List Slot} {L : List (List Nat)} (p : List Nat → Bool) (hi : evI ns C it env = M.ret (L.map dT)) (hl : L.length ≤ LB)
    (hc : ∀ x, x ∈ L → evT ns C c (setS (wipeE env (own.map (·.2))) i (dT x)) = M.ret (p x)) (hs : ∀ x, (setS (wipeE env (own.map (·.2))) i (dT x))[i]? = some (.sh (dT x))) : evE ns C (.lc own (.nm i) it c (.var i)) env = M.ret (.list ((L.filter p).map dT)) := by
  simp only [evE, hi, bd_ret]
  have h := mapL_T (f := fun x => match bindT (wipeE env (own.map (·.2))) (.nm i) x with
    | some env' => M.bd (evT ns C c env') fun k => if k then M.bd (evE ns C (.var i) env') fun y => M.ret (some y) else M.ret none
    | none => M.no) (L := L) p fun t ht => by
      show M.bd (evT ns C c (setS (wipeE env (own.map (·.2))) i (dT t))) (fun k => if k then M.bd (evE ns C (.var i) (setS (wipeE env (own.map (·.2))) i (dT t))) fun y => M.ret (some y) else M.ret none) = _
      have e2 : evE ns C (.var i) (setS (wipeE env (own.map (·.2))) i (dT t)) = M.ret (dT t) := by simp only [evE, hs t]
      rw [hc t ht, bd_ret, e2, bd_ret]
      by_cases z : p t = true
      · rw [if_pos z, if_pos z]
      · rw [if_neg z, if_neg z]
  simp only [evE] at h
  exact (congrArg (fun m => M.bd m fun r => if r.length ≤ LB then M.ret (PyData.list r) else M.no) h).trans (by rw [bd_ret, if_pos (by rw [List.length_map]; exact Nat.le_trans (List.length_filter_le ..) hl)])
def ir_charts0 (x y : Str) (e : E) (f : Nat) : SL := (.cons [] (.set 1 (.lst (.cons false (.tup .nil) .nil)))
  (.cons [] (.fr (.nm 2) (.r1 (.var 0)) (.cons [] (.set 3 (.lst .nil))
  (.cons [1] (.fr (.nm 4) (.seq (.var 1)) (.cons [] (.set 3 (.bin .add (.var 3) (.lc [(x, 5)] (.nm 5) (.r1 (.bin .add (.var 0) (.int 1))) (.bl true) e)))
  .nil))
  (.cons [3] (.set 1 (.var 3))
  .nil))))
  (.cons [] (.ret (.lc [(y, 4)] (.nm 4) (.seq (.var 1)) (.call f (.cons false (.var 4) .nil)) (.var 4)))
  .nil)))
def ir_all_charts (f : Nat) : SL := ir_charts0 "chief" "chiefs" (.tup (.cons true (.var 4) (.cons false (.var 5) .nil))) f
def ir_law_charts (f : Nat) : SL := ir_charts0 "_law_chief" "_law_one" (.bin .add (.var 4) (.tup (.cons false (.var 5) .nil))) f
theorem mN_snoc (t : List Nat) (q : Nat) : mN (t ++ [q]) = mN t ++ [dN q] := List.map_append
theorem ext_all {env : List Slot} {t : List Nat} {q : Nat} (h4 : env[4]? = some (.sh (dT t))) (h5 : env[5]? = some (.sh (dN q))) (hl : t.length ≤ 10) : evE ns C (.tup (.cons true (.var 4) (.cons false (.var 5) .nil))) env = M.ret (dT (t ++ [q])) := by
  simp only [evE, evL, rd, h4, h5, bd_ret, elemsD]
  rw [if_pos (by rw [List.length_append, lenN]; simp; unfold LB; omega), ← mN_snoc]
theorem ext_law {env : List Slot} {t : List Nat} {q : Nat} (h4 : env[4]? = some (.sh (dT t))) (h5 : env[5]? = some (.sh (dN q))) (hl : t.length ≤ 10) : evE ns C (.bin .add (.var 4) (.tup (.cons false (.var 5) .nil))) env = M.ret (dT (t ++ [q])) := by
  have e1 : evE ns C (.tup (.cons false (.var 5) .nil)) env = M.ret (.tuple [dN q]) := by
    simp only [evE, evL, h5, bd_ret]
    exact if_pos (by simp [LB])
  refine e_bin2 (x := dT t) (y := .tuple [dN q]) (by simp only [rd, evE, h4]) e1 ?_
  show (if (mN t).length + 1 ≤ LB then some (PyData.tuple (mN t ++ [dN q])) else none) = _
  rw [if_pos (by rw [lenN]; unfold LB; omega), ← mN_snoc]
def ExtOk (ns : List Int) (C : CT) (e : E) : Prop := ∀ (env : List Slot) (t : List Nat) (q : Nat), env[4]? = some (.sh (dT t)) → env[5]? = some (.sh (dN q)) → t.length ≤ 10 → evE ns C e env = M.ret (dT (t ++ [q]))
theorem charts0_in {x : Str} {e : E} {n : Nat} {L : List (List Nat)} {s1 s2 s4 : Slot} (he : ExtOk ns C e) (hn : n ≤ 4) (hL : L.length ≤ 625) (ht : ∀ t ∈ L, t.length ≤ 10) :
    ∃ s4', frL (fun env d => match bindT env (.nm 4) d with | some env' => exL ns C (.cons [] (.set 3 (.bin .add (.var 3) (.lc [(x, 5)] (.nm 5) (.r1 (.bin .add (.var 0) (.int 1))) (.bl true) e))) .nil) env' | none => M.no) [.sh (dN n), s1, s2, .ow [], s4, .no] (L.map dT) = M.ret (.nx [.sh (dN n), s1, s2, .ow ((ext n L).map dT), s4', .no]) := by
  have w := frL_inv (f := fun env d => match bindT env (.nm 4) d with | some env' => exL ns C (.cons [] (.set 3 (.bin .add (.var 3) (.lc [(x, 5)] (.nm 5) (.r1 (.bin .add (.var 0) (.int 1))) (.bl true) e))) .nil) env' | none => M.no) (l := L.map dT)
    (fun i env => ∃ s4', env = [.sh (dN n), s1, s2, .ow ((ext n (L.take i)).map dT), s4', .no]) (fun i d env hx ⟨s4', hE⟩ => by
      subst hE
      rw [List.getElem?_map] at hx
      cases hy : L[i]? with
      | none => rw [hy] at hx; cases hx
      | some t =>
        rw [hy] at hx
        cases hx
        have tl := ht t (List.mem_of_getElem? hy)
        have l1 : ((ext n (L.take i)).map dT).length ≤ 625 * 5 := by
          rw [List.length_map, ext_len, List.length_take]
          exact Nat.mul_le_mul (by omega) (by omega)
        have lc := lcA (ns := ns) (C := C) (own := [(x, 5)]) (i := 5) (it := .r1 (.bin .add (.var 0) (.int 1))) (e := e) (env := [.sh (dN n), s1, s2, .ow ((ext n (L.take i)).map dT), .sh (dT t), .no]) (l := List.range' 0 (n + 1)) (fun q => dT (t ++ [q])) (ii_r1 rfl (by omega)) (by rw [List.length_range']; unfold LB; omega) (fun q _ => he _ t q rfl rfl tl)
        have e9 : (ext n (L.take (i + 1))).map dT = (ext n (L.take i)).map dT ++ (List.range' 0 (n + 1)).map fun q => dT (t ++ [q]) := by
          rw [List.take_succ, hy]
          unfold ext
          rw [List.flatMap_append, List.map_append]
          congr 1
          show ((((List.range' 0 (n + 1)).map fun q => t ++ [q]) ++ []).map dT) = _
          rw [List.append_nil, List.map_map]; rfl
        refine ⟨[.sh (dN n), s1, s2, .ow ((ext n (L.take (i + 1))).map dT), .sh (dT t), .no], ?_, _, rfl⟩
        show exL ns C _ [.sh (dN n), s1, s2, .ow ((ext n (L.take i)).map dT), .sh (dT t), .no] = _
        refine st0 (e1 := [.sh (dN n), s1, s2, .ow ((ext n (L.take (i + 1))).map dT), .sh (dT t), .no]) (x_set (d := .list ((ext n (L.take (i + 1))).map dT)) (e_bin2 (x := .list ((ext n (L.take i)).map dT)) rfl lc ((bin_addL ?_).trans (by rw [← e9])))) exL_nil
        rw [List.length_map (f := fun q => dT (t ++ [q])), List.length_range']; unfold LB; omega) (env := [.sh (dN n), s1, s2, .ow [], s4, .no]) ⟨s4, by simp [ext]⟩
  obtain ⟨e1, h1, s4', hE⟩ := w
  subst hE
  rw [List.length_map, List.take_length] at h1
  exact ⟨s4', h1⟩
def ch_body (x : Str) (e : E) : SL := .cons [] (.set 3 (.lst .nil)) (.cons [1] (.fr (.nm 4) (.seq (.var 1)) (.cons [] (.set 3 (.bin .add (.var 3) (.lc [(x, 5)] (.nm 5) (.r1 (.bin .add (.var 0) (.int 1))) (.bl true) e))) .nil)) (.cons [3] (.set 1 (.var 3)) .nil))
theorem charts0_ok {x y : Str} {e : E} {f n : Nat} {p : List Nat → Bool} (he : ExtOk ns C e) (hn : n ≤ 4) (hf : ∀ t ∈ tups n n, C f [.sh (dT t)] = M.ret (.bool (p t))) : exL ns C (ir_charts0 x y e f) [.sh (dN n), .no, .no, .no, .no, .no] = M.ret (.rt (.list (((tups n n).filter p).map dT))) := by
  have w := frL_inv (f := fun env d => match bindT env (.nm 2) d with | some env' => exL ns C (ch_body x e) env' | none => M.no) (l := mN (List.range' 0 n))
    (fun i env => ∃ s1 s2 s3 s4, (s1 = .ow ((tups n i).map dT) ∨ s1 = .sh (.list ((tups n i).map dT))) ∧ env = [.sh (dN n), s1, s2, s3, s4, .no]) (fun i d env hx ⟨s1, s2, s3, s4, h1, hE⟩ => by
      subst hE
      obtain ⟨hi, rfl⟩ := rngN_at hx
      obtain ⟨s4', w1⟩ := charts0_in (ns := ns) (C := C) (x := x) (e := e) (n := n) (L := tups n i) (s1 := .sh (.list ((tups n i).map dT))) (s2 := .sh (dN i)) (s4 := s4) he hn (by rw [tups_len]; exact pow_le hn (by omega)) (fun t ht => by have := (tups_mem ht).1; omega)
      refine ⟨[.sh (dN n), .sh (.list ((tups n (i + 1)).map dT)), .sh (dN i), .sh (.list ((tups n (i + 1)).map dT)), s4', .no], ?_, _, _, _, _, .inr rfl, rfl⟩
      show exL ns C (ch_body x e) [.sh (dN n), s1, .sh (dN i), s3, s4, .no] = _
      refine st0 (e1 := [.sh (dN n), s1, .sh (dN i), .ow [], s4, .no]) rfl ?_
      have ht : thaw [.sh (dN n), s1, .sh (dN i), .ow [], s4, .no] [1] = [.sh (dN n), .sh (.list ((tups n i).map dT)), .sh (dN i), .ow [], s4, .no] := by
        rcases h1 with rfl | rfl <;> rfl
      rw [exL_step (e1 := [.sh (dN n), .sh (.list ((tups n i).map dT)), .sh (dN i), .ow ((ext n (tups n i)).map dT), s4', .no]) (by rw [ht]; exact (x_fr (t := .nm 4) (l := (tups n i).map dT) rfl rfl).trans w1)]
      rw [exL_step (e1 := [.sh (dN n), .sh (.list ((tups n (i + 1)).map dT)), .sh (dN i), .sh (.list ((tups n (i + 1)).map dT)), s4', .no]) rfl, exL_nil]) (env := [.sh (dN n), .ow ((tups n 0).map dT), .no, .no, .no, .no]) ⟨_, _, _, _, .inl rfl, rfl⟩
  obtain ⟨e1, h2, s1, s2, s3, s4, h1, hE⟩ := w
  subst hE
  rw [lenN, List.length_range'] at h1
  unfold ir_charts0
  refine st0 (e1 := [.sh (dN n), .ow ((tups n 0).map dT), .no, .no, .no, .no]) rfl (st0 ((x_fr (t := .nm 2) (l := mN (List.range' 0 n)) (env := [.sh (dN n), .ow ((tups n 0).map dT), .no, .no, .no, .no]) rfl (ii_r1 rfl (by omega))).trans h2) (exL_ret (x_ret ?_)))
  refine lcT (env := [.sh (dN n), s1, s2, s3, s4, .no]) p ?_ (by rw [tups_len]; have := pow_le hn hn; unfold LB; omega) (fun t ht => ?_) (fun _ => rfl)
  · rcases h1 with rfl | rfl <;> rfl
  · exact t_call2 (env := [.sh (dN n), s1, s2, s3, .sh (dT t), .no]) (l := [.sh (dT t)]) rfl (hf t ht) (by simp [noL]) rfl
/-! ### powers -/
theorem bigN {a : Nat} (h : a < 2 ^ 4000) : big (a : Int) = true := by
  unfold big
  rw [Int.natAbs_natCast]
  refine decide_eq_true ?_
  by_cases z : a = 0
  · subst z; decide
  · exact (Nat.log2_lt z).mpr h
theorem mul_N {a b : Nat} (ha : a < 2 ^ 4000) (hb : b < 2 ^ 4000) : binD .mul (dN a) (dN b) = some (dN (a * b)) := by
  show (if big (a : Int) && big (b : Int) then some (PyData.int ((a : Int) * b)) else none) = _
  rw [bigN ha, bigN hb]
  show some (PyData.int ((a : Int) * b)) = some (.int ((a * b : Nat) : Int))
  rw [Int.natCast_mul]
theorem pow_big {b k : Nat} (hb : b ≤ 101) (hk : k ≤ 100) : b ^ k < 2 ^ 4000 := by
  have a1 : b ^ k ≤ 101 ^ k := Nat.pow_le_pow_left hb k
  have a2 : 101 ^ k ≤ 101 ^ 100 := Nat.pow_le_pow_right (by omega) hk
  have a3 : 101 ^ 100 < 2 ^ 4000 := by decide +kernel
  omega
def ir_powered : SL := (.cons [] (.set 2 (.int 1))
  (.cons [] (.fr (.nm 3) (.r1 (.var 1)) (.cons [] (.set 2 (.bin .mul (.var 2) (.var 0)))
  .nil))
  (.cons [2] (.ret (.var 2))
  .nil)))
theorem powered_ok {b k : Nat} (hb : b ≤ 101) (hk : k ≤ 100) : exL ns C ir_powered [.sh (dN b), .sh (dN k), .no, .no] = M.ret (.rt (dN (b ^ k))) := by
  have w := frL_inv (f := fun env d => match bindT env (.nm 3) d with | some env' => exL ns C (.cons [] (.set 2 (.bin .mul (.var 2) (.var 0))) .nil) env' | none => M.no) (l := mN (List.range' 0 k))
    (fun i env => ∃ s, env = [.sh (dN b), .sh (dN k), .sh (dN (b ^ i)), s]) (fun i d env hx ⟨s, hE⟩ => by
      subst hE
      obtain ⟨hi, rfl⟩ := rngN_at hx
      refine ⟨[.sh (dN b), .sh (dN k), .sh (dN (b ^ (i + 1))), .sh (dN i)], ?_, _, rfl⟩
      show exL ns C _ [.sh (dN b), .sh (dN k), .sh (dN (b ^ i)), .sh (dN i)] = _
      exact st0 (e1 := [.sh (dN b), .sh (dN k), .sh (dN (b ^ (i + 1))), .sh (dN i)]) (x_set (d := dN (b ^ (i + 1))) (e_bin2 (x := dN (b ^ i)) (y := dN b) rfl rfl (mul_N (pow_big hb (by omega)) (by have := pow_big (b := b) (k := 1) hb (by omega); rwa [Nat.pow_one] at this)))) exL_nil) (env := [.sh (dN b), .sh (dN k), .sh (dN (b ^ 0)), .no]) ⟨_, rfl⟩
  obtain ⟨e, h1, s, hE⟩ := w
  subst hE
  rw [lenN, List.length_range'] at h1
  exact st0 (e1 := [.sh (dN b), .sh (dN k), .sh (dN (b ^ 0)), .no]) rfl (st0 ((x_fr (t := .nm 3) (l := mN (List.range' 0 k)) (env := [.sh (dN b), .sh (dN k), .sh (dN (b ^ 0)), .no]) rfl (ii_r1 rfl (by omega))).trans h1) (exL_ret (x_ret rfl)))
def PowOk (C : CT) (f : Nat) : Prop := ∀ b k, b ≤ 101 → k ≤ 100 → C f [.sh (dN b), .sh (dN k)] = M.ret (dN (b ^ k))
def ir_chart_count (x : Str) (f g : Nat) : SL := (.cons [] (.ite (.not (.call f (.cons false (.var 0) (.cons false (.int 1) (.cons false (.gi x 100) .nil))))) (.cons [] .fail
  .nil) .nil)
  (.cons [] (.ret (.call g (.cons false (.bin .add (.var 0) (.int 1)) (.cons false (.bin .sub (.var 0) (.int 1)) .nil))))
  .nil))
theorem chart_count_ok {x : Str} {f g m : Nat} (hf : InOk C f) (hg : PowOk C g) (h1 : 1 ≤ m) (hm : m ≤ 100) : exL ns C (ir_chart_count x f g) [.sh (dN m)] = M.ret (.rt (dN ((m + 1) ^ (m - 1)))) := by
  refine st0 (x_guard (t_in (v := m) (a := 1) (b := 100) hf rfl h1 hm)) (exL_ret (x_ret (e_call2 (l := [.sh (dN (m + 1)), .sh (dN (m - 1))]) (aa2 (a_hand (fun _ => rfl) rfl) (a_hand (fun _ => rfl) ?_)) (hg _ _ (by omega) (by omega)) rfl)))
  exact e_sub1 (i := 0) rfl h1
def ir_charts (f g : Nat) : SL := (.cons [] (.drop (.call f (.cons false (.var 0) .nil)))
  (.cons [] (.ite (.cmp .gt (.var 0) (.gi "MOST_LISTED" 5)) (.cons [] .fail
  .nil) .nil)
  (.cons [] (.ret (.f1 .tuple (.call g (.cons false (.var 0) .nil))))
  .nil)))
theorem charts_ok {f g n : Nat} {l : List PyData} (hn : n ≤ 5) (hf : C f [.sh (dN n)] = M.ret .none) (hg : C g [.sh (dN n)] = M.ret (.list l)) : exL ns C (ir_charts f g) [.sh (dN n)] = M.ret (.rt (.tuple l)) := by
  have t : evT ns C (.cmp .gt (.var 0) (.gi "MOST_LISTED" 5)) [.sh (dN n)] = M.ret false := by
    refine t_cmp2 (x := dN n) (y := .int 5) rfl rfl ?_
    show some (decide ((5 : Int) < n)) = _
    rw [decide_eq_false (by omega)]
  exact st0 (x_need (d := .none) (l := [.sh (dN n)]) rfl hf) (st0 (x_skip t) (exL_ret (x_ret (e_f12 (x := .list l) (e_call2 (l := [.sh (dN n)]) rfl hg rfl) rfl))))
theorem same_charts {n : Nat} (h1 : 1 ≤ n) (h4 : n ≤ 4) : (tups n n).filter upA = (tups n n).filter upB ∧ ((tups n n).filter upB).length = (n + 1) ^ (n - 1) := by
  have : n = 1 ∨ n = 2 ∨ n = 3 ∨ n = 4 := by omega
  rcases this with rfl | rfl | rfl | rfl <;> decide +kernel
end
end Cd
namespace Cd
open PySem
/-! Levels, ends; lists of numbers counted. -/
theorem ints_mN : ∀ l : List Nat, intsD (mN l) = some (l.map fun (x : Nat) => (x : Int))
  | [] => rfl
  | a :: r => by
    show (match intsD (mN r) with | some l => some ((a : Int) :: l) | none => none) = _
    rw [ints_mN r]; rfl
theorem count_mN (k : Nat) : ∀ l : List Nat, (l.map fun (x : Nat) => (x : Int)).count (k : Int) = l.count k
  | [] => rfl
  | a :: r => by
    rw [List.map_cons, List.count_cons, List.count_cons, count_mN k r]
    congr 1
    by_cases h : a = k
    · subst h; simp
    · have : ¬ ((a : Int) = (k : Int)) := by omega
      simp [h, this]
def maxN (l : List Nat) : Nat := l.foldl max 0
theorem maxI_from : ∀ (r : List Nat) (x : Nat), (r.map fun (x : Nat) => (x : Int)).foldl (fun a b => if a < b then b else a) (x : Int) = ((r.foldl max x : Nat) : Int)
  | [], x => rfl
  | a :: r, x => by
    rw [List.map_cons, List.foldl_cons, List.foldl_cons]
    have e : (if (x : Int) < (a : Int) then (a : Int) else (x : Int)) = ((max x a : Nat) : Int) := by
      split <;> omega
    rw [e]
    exact maxI_from r (max x a)
theorem max_mN {l : List Nat} (h : l ≠ []) : f1D .max (.list (mN l)) = some (dN (maxN l)) := by
  show (match intsD (mN l) with | some x => (match maxI x with | some m => some (PyData.int m) | none => none) | none => none) = _
  rw [ints_mN]
  cases l with
  | nil => exact absurd rfl h
  | cons a r =>
    show some (PyData.int ((r.map fun (x : Nat) => (x : Int)).foldl (fun a b => if a < b then b else a) (a : Int))) = _
    rw [maxI_from]
    show _ = some (PyData.int ((r.foldl max (max 0 a) : Nat) : Int))
    rw [Nat.zero_max]
theorem sum_mN (l : List Nat) : f1D .sum (.list (mN l)) = some (dN l.sum) := by
  show (match intsD (mN l) with | some x => some (PyData.int x.sum) | none => none) = _
  rw [ints_mN]
  show some (PyData.int (l.map fun (x : Nat) => (x : Int)).sum) = _
  congr 2
  induction l with
  | nil => rfl
  | cons a r ih => rw [List.map_cons, List.sum_cons, List.sum_cons, ih]; omega
section
variable {ns : List Int} {C : CT}
theorem e_countN {a b : E} {env : List Slot} {l : List Nat} {k : Nat} (ha : rd env a (evE ns C a env) = M.ret (.list (mN l))) (hb : evE ns C b env = M.ret (dN k)) : evE ns C (.count a b) env = M.ret (dN (l.count k)) := by
  simp only [evE, ha, hb, bd_ret, ints_mN, count_mN]
theorem chain_all {c : List Nat} (g : Good c) (k : Nat) : (chainS c k).length ≤ 6 := by
  have : (chainS c k).length ≤ c.length := asc_len c _ _
  have := g.six
  omega
theorem rowsS_len (c : List Nat) : (rowsS c).length = c.length := by unfold rowsS; rw [List.length_map, ones_len]
theorem maxN_le {l : List Nat} {m : Nat} (h : ∀ x ∈ l, x ≤ m) : maxN l ≤ m := by
  have w : ∀ (l : List Nat) (a : Nat), a ≤ m → (∀ x ∈ l, x ≤ m) → l.foldl max a ≤ m := by
    intro l
    induction l with
    | nil => exact fun a h _ => h
    | cons x r ih => exact fun a ha hx => ih _ (by have := hx x List.mem_cons_self; omega) fun y hy => hx y (List.mem_cons_of_mem _ hy)
  exact w l 0 (Nat.zero_le _) h
theorem rowsS_max {c : List Nat} (g : Good c) : maxN (rowsS c) ≤ 6 := maxN_le fun x hx => by
  obtain ⟨k, _, rfl⟩ := List.mem_map.mp hx
  exact chain_all g k
theorem rowsS_ne {c : List Nat} (g : Good c) : rowsS c ≠ [] := fun e => by
  have := rowsS_len c
  rw [e] at this
  have h1 := g.one
  have h2 : (0 : Nat) = c.length := this
  omega
def levelsS (c : List Nat) : List Nat := (List.range' 0 (maxN (rowsS c) + 1)).map fun l => (rowsS c).count l
def ir_level_counts (f g : Nat) : SL := (.cons [] (.drop (.call f (.cons false (.var 0) .nil)))
  (.cons [] (.set 1 (.lc [("one", 2)] (.nm 2) (.r2 (.int 1) (.bin .add (.f1 .len (.var 0)) (.int 1))) (.bl true) (.f1 .len (.call g (.cons false (.var 0) (.cons false (.var 2) .nil))))))
  (.cons [] (.ret (.f1 .tuple (.lc [("level", 3)] (.nm 3) (.r1 (.bin .add (.f1 .max (.var 1)) (.int 1))) (.bl true) (.count (.var 1) (.var 3)))))
  .nil)))
theorem level_counts_ok {f g : Nat} (hf : NeedOk C f) (hg : ChainOk C g) {c : List Nat} (gd : Good c) : exL ns C (ir_level_counts f g) [.sh (dT c), .no, .no, .no] = M.ret (.rt (dT (levelsS c))) := by
  have six := gd.six
  have mx := rowsS_max gd
  refine st0 (x_need (d := .none) (l := [.sh (dT c)]) rfl (hf c gd)) (st0 (e1 := [.sh (dT c), .ow (mN (rowsS c)), .no, .no]) (x_set (d := .list (mN (rowsS c))) ?_) (exL_ret (x_ret (e_f12 (x := .list (mN (levelsS c))) ?_ rfl))))
  · unfold rowsS
    rw [← map_mN]
    refine lcA (l := ones c.length) _ (i_len1 rfl (by omega)) (by rw [ones_len]; unfold LB; omega) fun x hx => ?_
    obtain ⟨x1, x2⟩ := mem_ones.mp hx
    exact e_lenC (env := [.sh (dT c), .no, .sh (dN x), .no]) hg gd rfl rfl x1 x2
  · unfold levelsS
    rw [← map_mN]
    have hm : evE ns C (.bin .add (.f1 .max (.var 1)) (.int 1)) [.sh (dT c), .ow (mN (rowsS c)), .no, .no] = M.ret (dN (maxN (rowsS c) + 1)) :=
      e_bin2 (x := dN (maxN (rowsS c))) (y := .int 1) (e_f12 (x := .list (mN (rowsS c))) rfl (max_mN (rowsS_ne gd))) rfl rfl
    exact lcA (l := List.range' 0 (maxN (rowsS c) + 1)) _ (ii_r1 hm (by omega)) (by rw [List.length_range']; unfold LB; omega) fun x _ => e_countN (env := [.sh (dT c), .ow (mN (rowsS c)), .no, .sh (dN x)]) rfl rfl
def endsS (c : List Nat) : List Nat := (ones c.length).filter fun x => !decide (x ∈ c)
def ir_ends_of (f : Nat) : SL := (.cons [] (.drop (.call f (.cons false (.var 0) .nil)))
  (.cons [] (.ret (.f1 .tuple (.lc [("one", 1)] (.nm 1) (.r2 (.int 1) (.bin .add (.f1 .len (.var 0)) (.int 1))) (.cmp .notin (.var 1) (.var 0)) (.var 1))))
  .nil))
theorem ends_of_ok {f : Nat} (hf : NeedOk C f) {c : List Nat} (gd : Good c) : exL ns C (ir_ends_of f) [.sh (dT c), .no] = M.ret (.rt (dT (endsS c))) := by
  have six := gd.six
  refine st0 (x_need (d := .none) (l := [.sh (dT c)]) rfl (hf c gd)) (exL_ret (x_ret (e_f12 (x := .list (mN (endsS c))) ?_ rfl)))
  exact lcF (l := ones c.length) _ (i_len1 rfl (by omega)) (by rw [ones_len]; unfold LB; omega) (fun x hx => t_cmp2 (env := [.sh (dT c), .sh (dN x)]) (x := dN x) (y := dT c) rfl rfl (nin_T ..)) (fun _ => rfl)
end
/-- a chart, by looking -/
def goodB (c : List Nat) : Bool := decide (1 ≤ c.length) && decide (c.length ≤ 6) && (ones c.length).all fun k => decide (up c k ≤ c.length) && (up c k == 0 || decide ((asc c 6 (up c k)).length < (asc c 6 k).length))
theorem goodB_ok {c : List Nat} (h : goodB c = true) : Good c := by
  unfold goodB at h
  simp only [Bool.and_eq_true, decide_eq_true_eq, List.all_eq_true, Bool.or_eq_true, beq_iff_eq] at h
  obtain ⟨⟨h1, h6⟩, h⟩ := h
  refine good_of h1 h6 (fun k => (asc c 6 k).length) fun k k1 kl => ?_
  obtain ⟨a, b⟩ := h k (mem_ones.mpr ⟨k1, kl⟩)
  exact ⟨a, fun z => b.resolve_left z⟩
end Cd
namespace Cd
open PySem
/-! Measures of a chart. -/
section
variable {ns : List Int} {C : CT}
/-- a sum over numbers -/
theorem sumL_N {f : PyData → M PyData} (h : Nat → Nat) : ∀ {l : List Nat} {a : Nat}, (∀ x ∈ l, f (dN x) = M.ret (dN (h x))) → (∀ x ∈ l, h x ≤ 1000000) → a + l.length * 1000000 ≤ 10 ^ 15 → sumL f (a : Int) (mN l) = M.ret (((a + (l.map h).sum : Nat)) : Int)
  | [], a, _, _, _ => by show M.ret (a : Int) = _; simp
  | x :: r, a, hf, hh, hb => by
    have hx := hh x List.mem_cons_self
    rw [List.length_cons] at hb
    have e : sumL f (a : Int) (mN (x :: r)) = M.bd (f (dN x)) fun y => match y with
      | .int k => if fits k && fits ((a : Int) + k) then sumL f ((a : Int) + k) (mN r) else M.no
      | _ => M.no := rfl
    rw [e, hf x List.mem_cons_self, bd_ret]
    have f1 : fits (h x : Int) = true := by unfold fits; rw [decide_eq_true (by omega), decide_eq_true (by omega)]; rfl
    have f2 : fits ((a : Int) + (h x : Int)) = true := by unfold fits; rw [decide_eq_true (by omega), decide_eq_true (by omega)]; rfl
    show (if fits (h x : Int) && fits ((a : Int) + (h x : Int)) then sumL f ((a : Int) + (h x : Int)) (mN r) else M.no) = _
    rw [f1, f2]
    show sumL f ((a : Int) + (h x : Int)) (mN r) = _
    have e2 : (a : Int) + (h x : Int) = ((a + h x : Nat) : Int) := by omega
    rw [e2, sumL_N h (fun y hy => hf y (List.mem_cons_of_mem _ hy)) (fun y hy => hh y (List.mem_cons_of_mem _ hy)) (by omega)]
    rw [List.map_cons, List.sum_cons, Nat.add_assoc]
theorem gsumN {own : List (Str × Nat)} {i : Nat} {it : It} {e : E} {env : List Slot} {l : List Nat} (h : Nat → Nat) (hi : evI ns C it env = M.ret (mN l)) (hl : l.length ≤ 1000) (hh : ∀ x ∈ l, h x ≤ 1000000)
    (he : ∀ x, x ∈ l → evE ns C e (setS (wipeE env (own.map (·.2))) i (dN x)) = M.ret (dN (h x))) : evE ns C (.g .sum own (.nm i) it e) env = M.ret (dN (l.map h).sum) := by
  have a4 : sumL (fun x => match bindT (wipeE env (own.map (·.2))) (.nm i) x with | some env' => evE ns C e env' | none => M.no) 0 (mN l) = M.ret (((l.map h).sum : Nat) : Int) := by
    have := sumL_N (f := fun x => match bindT (wipeE env (own.map (·.2))) (.nm i) x with | some env' => evE ns C e env' | none => M.no) h (l := l) (a := 0) (fun x hx => he x hx) hh (by omega)
    rw [Nat.zero_add] at this
    exact this
  simp only [evE, hi, bd_ret]
  exact (congrArg (fun m => M.bd m fun b => M.ret (PyData.int b)) a4).trans rfl
def besideS (c : List Nat) (p : Nat) : List Nat := (ones c.length).filter fun x => decide (up c x = up c p) && !decide (x = p)
def ir_beside (f : Nat) : SL := (.cons [] (.drop (.call f (.cons false (.var 0) (.cons false (.var 1) .nil))))
  (.cons [] (.set 2 (.ix (.var 0) (.bin .sub (.var 1) (.int 1))))
  (.cons [] (.ret (.f1 .tuple (.lc [("one", 3)] (.nm 3) (.r2 (.int 1) (.bin .add (.f1 .len (.var 0)) (.int 1))) (.and (.cmp .eq (.ix (.var 0) (.bin .sub (.var 3) (.int 1))) (.var 2)) (.cmp .ne (.var 3) (.var 1))) (.var 3))))
  .nil)))
theorem beside_ok {f : Nat} (hf : PersonOk C f) {c : List Nat} {k : Nat} (gd : Good c) (h1 : 1 ≤ k) (hl : k ≤ c.length) : exL ns C (ir_beside f) [.sh (dT c), .sh (dN k), .no, .no] = M.ret (.rt (dT (besideS c k))) := by
  have six := gd.six
  refine st0 (x_need (d := .none) (l := [.sh (dT c), .sh (dN k)]) rfl (hf c k gd h1 hl)) (st0 (e1 := [.sh (dT c), .sh (dN k), .sh (dN (up c k)), .no]) (x_set (d := dN (up c k)) (ev_up ns C (i := 0) (j := 1) rfl rfl h1 hl)) (exL_ret (x_ret (e_f12 (x := .list (mN (besideS c k))) ?_ rfl))))
  refine lcF (l := ones c.length) _ (i_len1 rfl (by omega)) (by rw [ones_len]; unfold LB; omega) (fun x hx => ?_) (fun _ => rfl)
  obtain ⟨x1, x2⟩ := mem_ones.mp hx
  exact t_and2 (t_cmp2 (env := [.sh (dT c), .sh (dN k), .sh (dN (up c k)), .sh (dN x)]) (x := dN (up c x)) (y := dN (up c k)) (ev_up ns C (i := 0) (j := 3) rfl rfl x1 x2) rfl (eq_N ..)) fun _ => t_cmp2 (x := dN x) (y := dN k) rfl rfl (ne_N ..)
def ir_level_of (f g : Nat) : SL := (.cons [] (.drop (.call f (.cons false (.var 0) (.cons false (.var 1) .nil))))
  (.cons [] (.ret (.f1 .len (.call g (.cons false (.var 0) (.cons false (.var 1) .nil)))))
  .nil))
theorem level_of_ok {f g : Nat} (hf : PersonOk C f) (hg : ChainOk C g) {c : List Nat} {k : Nat} (gd : Good c) (h1 : 1 ≤ k) (hl : k ≤ c.length) : exL ns C (ir_level_of f g) [.sh (dT c), .sh (dN k)] = M.ret (.rt (dN (chainS c k).length)) :=
  st0 (x_need (d := .none) (l := [.sh (dT c), .sh (dN k)]) rfl (hf c k gd h1 hl)) (exL_ret (x_ret (e_lenC hg gd rfl rfl h1 hl)))
def heightS (c : List Nat) : Nat := maxN ((ones c.length).map fun k => (chainS c k).length + 1)
def ir_height (f g : Nat) : SL := (.cons [] (.drop (.call f (.cons false (.var 0) .nil)))
  (.cons [] (.ret (.f1 .max (.lc [("one", 1)] (.nm 1) (.r2 (.int 1) (.bin .add (.f1 .len (.var 0)) (.int 1))) (.bl true) (.bin .add (.f1 .len (.call g (.cons false (.var 0) (.cons false (.var 1) .nil)))) (.int 1)))))
  .nil))
theorem ones_ne {c : List Nat} (g : Good c) {β : Type} (f : Nat → β) : (ones c.length).map f ≠ [] := fun e => by
  have := congrArg List.length e
  rw [List.length_map, ones_len] at this
  have h1 := g.one
  have h2 : c.length = 0 := this
  omega
theorem height_ok {f g : Nat} (hf : NeedOk C f) (hg : ChainOk C g) {c : List Nat} (gd : Good c) : exL ns C (ir_height f g) [.sh (dT c), .no] = M.ret (.rt (dN (heightS c))) := by
  have six := gd.six
  refine st0 (x_need (d := .none) (l := [.sh (dT c)]) rfl (hf c gd)) (exL_ret (x_ret (e_f12 (x := .list (mN ((ones c.length).map fun k => (chainS c k).length + 1))) ?_ (max_mN (ones_ne gd _)))))
  show evE ns C (.lc [("one", 1)] (.nm 1) (.r2 (.int 1) (.bin .add (.f1 .len (.var 0)) (.int 1))) (.bl true) (.bin .add (.f1 .len (.call g (.cons false (.var 0) (.cons false (.var 1) .nil)))) (.int 1))) [.sh (dT c), .no] = _
  rw [← map_mN]
  refine lcA (l := ones c.length) _ (i_len1 rfl (by omega)) (by rw [ones_len]; unfold LB; omega) fun x hx => ?_
  obtain ⟨x1, x2⟩ := mem_ones.mp hx
  exact e_bin2 (x := dN (chainS c x).length) (y := .int 1) (e_lenC (env := [.sh (dT c), .sh (dN x)]) hg gd rfl rfl x1 x2) rfl rfl
def pathS (c : List Nat) : Nat := ((ones c.length).map fun k => (chainS c k).length).sum
def ir_path_sum (f g : Nat) : SL := (.cons [] (.drop (.call f (.cons false (.var 0) .nil)))
  (.cons [] (.ret (.g .sum [("one", 1)] (.nm 1) (.r2 (.int 1) (.bin .add (.f1 .len (.var 0)) (.int 1))) (.f1 .len (.call g (.cons false (.var 0) (.cons false (.var 1) .nil))))))
  .nil))
theorem path_sum_ok {f g : Nat} (hf : NeedOk C f) (hg : ChainOk C g) {c : List Nat} (gd : Good c) : exL ns C (ir_path_sum f g) [.sh (dT c), .no] = M.ret (.rt (dN (pathS c))) := by
  have six := gd.six
  refine st0 (x_need (d := .none) (l := [.sh (dT c)]) rfl (hf c gd)) (exL_ret (x_ret (gsumN (l := ones c.length) _ (i_len1 rfl (by omega)) (by rw [ones_len]; omega) (fun x _ => by have := chain_all gd x; omega) fun x hx => ?_)))
  obtain ⟨x1, x2⟩ := mem_ones.mp hx
  exact e_lenC (env := [.sh (dT c), .sh (dN x)]) hg gd rfl rfl x1 x2
def bump (l : List Nat) (x : Nat) : List Nat := l.set (x - 1) (l.getD (x - 1) 0 + 1)
def sizesS (c : List Nat) : List Nat := (ones c.length).foldl (fun a k => (chainS c k).foldl bump a) (List.replicate c.length 1)
theorem bump_len (l : List Nat) (x : Nat) : (bump l x).length = l.length := by unfold bump; rw [List.length_set]
theorem bumps_len : ∀ (l a : List Nat), (l.foldl bump a).length = a.length
  | [], a => rfl
  | x :: r, a => by rw [List.foldl_cons, bumps_len r, bump_len]
def ir_sizes_below (g : Nat) : SL := (.cons [] (.set 1 (.lc [("one", 3)] (.nm 3) (.seq (.var 0)) (.bl true) (.int 1)))
  (.cons [] (.fr (.nm 2) (.r2 (.int 1) (.bin .add (.f1 .len (.var 0)) (.int 1))) (.cons [] (.fr (.nm 3) (.seq (.call g (.cons false (.var 0) (.cons false (.var 2) .nil)))) (.cons [] (.put 1 (.bin .sub (.var 3) (.int 1)) (.bin .add (.ix (.var 1) (.bin .sub (.var 3) (.int 1))) (.int 1)))
  .nil))
  .nil))
  (.cons [1] (.ret (.var 1))
  .nil)))
theorem sizes_in {c a : List Nat} {s2 s3 : Slot} (hal : a.length = c.length) : ∀ (l : List Nat), (∀ x ∈ l, 1 ≤ x ∧ x ≤ c.length) → ∃ s3', frL (fun env x => match bindT env (.nm 3) x with | some env' => exL ns C (.cons [] (.put 1 (.bin .sub (.var 3) (.int 1)) (.bin .add (.ix (.var 1) (.bin .sub (.var 3) (.int 1))) (.int 1))) .nil) env' | none => M.no) [.sh (dT c), .ow (mN a), s2, s3] (mN l) = M.ret (.nx [.sh (dT c), .ow (mN (l.foldl bump a)), s2, s3']) := by
  intro l hl
  have w := frL_inv (f := fun env x => match bindT env (.nm 3) x with | some env' => exL ns C (.cons [] (.put 1 (.bin .sub (.var 3) (.int 1)) (.bin .add (.ix (.var 1) (.bin .sub (.var 3) (.int 1))) (.int 1))) .nil) env' | none => M.no) (l := mN l)
    (fun i env => ∃ s3', env = [.sh (dT c), .ow (mN ((l.take i).foldl bump a)), s2, s3']) (fun i x env hx ⟨s3', he⟩ => by
      subst he
      rw [List.getElem?_map] at hx
      cases hy : l[i]? with
      | none => rw [hy] at hx; cases hx
      | some y =>
        rw [hy] at hx
        cases hx
        obtain ⟨y1, y2⟩ := hl y (List.mem_of_getElem? hy)
        have e1 : (l.take (i + 1)).foldl bump a = bump ((l.take i).foldl bump a) y := by
          rw [List.take_succ, hy, List.foldl_append]; rfl
        have len : ((l.take i).foldl bump a).length = c.length := by rw [bumps_len, hal]
        refine ⟨[.sh (dT c), .ow (mN ((l.take (i + 1)).foldl bump a)), s2, .sh (dN y)], ?_, _, rfl⟩
        rw [e1]
        generalize (l.take i).foldl bump a = b at len
        show exL ns C _ [.sh (dT c), .ow (mN b), s2, .sh (dN y)] = _
        have hb : b[y - 1]? = some (b.getD (y - 1) 0) := by rw [List.getD_eq_getElem?_getD, List.getElem?_eq_getElem (by omega)]; rfl
        have e2 : evE ns C (.ix (.var 1) (.bin .sub (.var 3) (.int 1))) [.sh (dT c), .ow (mN b), s2, .sh (dN y)] = M.ret (dN (b.getD (y - 1) 0)) := by
          show M.of (ixD (mN b) ((y : Int) - 1)) = _
          have e3 : ((y : Int) - 1) = ((y - 1 : Nat) : Int) := by omega
          rw [e3, ixD_nat (d := dN (b.getD (y - 1) 0)) (by rw [List.getElem?_map, hb]; rfl)]; rfl
        refine st0 ((x_put (env := [.sh (dT c), .ow (mN b), s2, .sh (dN y)]) (i := 1) (j := y - 1) (l := mN b) (d := dN (b.getD (y - 1) 0 + 1)) (e_bin2 (C := C) (ns := ns) (a := .ix (.var 1) (.bin .sub (.var 3) (.int 1))) (x := dN (b.getD (y - 1) 0)) (y := .int 1) e2 rfl rfl) (e_sub1 (i := 3) rfl y1) rfl (by rw [lenN]; omega)).trans ?_) exL_nil
        have e9 : (mN b).set (y - 1) (dN (b.getD (y - 1) 0 + 1)) = mN (bump b y) := List.map_set.symm
        rw [e9]; rfl) (env := [.sh (dT c), .ow (mN a), s2, s3]) ⟨s3, rfl⟩
  obtain ⟨e, h1, s3', he⟩ := w
  subst he
  rw [lenN, List.take_length] at h1
  exact ⟨s3', h1⟩
theorem sizes_below_ok {g : Nat} (hg : ChainOk C g) {c : List Nat} (gd : Good c) : exL ns C (ir_sizes_below g) [.sh (dT c), .no, .no, .no] = M.ret (.rt (.list (mN (sizesS c)))) ∧ (sizesS c).length = c.length := by
  have six := gd.six
  have flen : ∀ (l a : List Nat), (l.foldl (fun a k => (chainS c k).foldl bump a) a).length = a.length := by
    intro l
    induction l with
    | nil => exact fun a => rfl
    | cons k r ih => exact fun a => by rw [List.foldl_cons, ih, bumps_len]
  have w := frL_inv (f := fun env x => match bindT env (.nm 2) x with | some env' => exL ns C (.cons [] (.fr (.nm 3) (.seq (.call g (.cons false (.var 0) (.cons false (.var 2) .nil)))) (.cons [] (.put 1 (.bin .sub (.var 3) (.int 1)) (.bin .add (.ix (.var 1) (.bin .sub (.var 3) (.int 1))) (.int 1))) .nil)) .nil) env' | none => M.no) (l := mN (ones c.length))
    (fun i env => ∃ s2 s3, env = [.sh (dT c), .ow (mN (((ones c.length).take i).foldl (fun a k => (chainS c k).foldl bump a) (List.replicate c.length 1))), s2, s3]) (fun i x env hx ⟨s2, s3, he⟩ => by
      subst he
      rw [List.getElem?_map] at hx
      cases hy : (ones c.length)[i]? with
      | none => rw [hy] at hx; cases hx
      | some k =>
        rw [hy] at hx
        cases hx
        obtain ⟨k1, k2⟩ := mem_ones.mp (List.mem_of_getElem? hy)
        have e1 : ((ones c.length).take (i + 1)).foldl (fun a k => (chainS c k).foldl bump a) (List.replicate c.length 1) = (chainS c k).foldl bump (((ones c.length).take i).foldl (fun a k => (chainS c k).foldl bump a) (List.replicate c.length 1)) := by
          rw [List.take_succ, hy, List.foldl_append]; rfl
        obtain ⟨s3', w1⟩ := sizes_in (ns := ns) (C := C) (c := c) (a := ((ones c.length).take i).foldl (fun a k => (chainS c k).foldl bump a) (List.replicate c.length 1)) (s2 := .sh (dN k)) (s3 := s3) (by rw [flen, List.length_replicate]) (chainS c k) fun x hx => mem_chain gd k1 k2 hx
        refine ⟨[.sh (dT c), .ow (mN (((ones c.length).take (i + 1)).foldl (fun a k => (chainS c k).foldl bump a) (List.replicate c.length 1))), .sh (dN k), s3'], ?_, _, _, rfl⟩
        rw [e1]
        show exL ns C _ [.sh (dT c), .ow (mN (((ones c.length).take i).foldl (fun a k => (chainS c k).foldl bump a) (List.replicate c.length 1))), .sh (dN k), s3] = _
        refine st0 ((x_fr (t := .nm 3) (l := mN (chainS c k)) rfl ?_).trans w1) exL_nil
        have : evE ns C (.call g (.cons false (.var 0) (.cons false (.var 2) .nil))) [.sh (dT c), .ow (mN (((ones c.length).take i).foldl (fun a k => (chainS c k).foldl bump a) (List.replicate c.length 1))), .sh (dN k), s3] = M.ret (.list (mN (chainS c k))) := e_call2 (l := [.sh (dT c), .sh (dN k)]) rfl (hg c k gd k1 k2) rfl
        simp only [evI, rd, this, bd_ret, elemsD, of_some]) (env := [.sh (dT c), .ow (mN (List.replicate c.length 1)), .no, .no]) ⟨_, _, rfl⟩
  obtain ⟨e, h1, s2, s3, he⟩ := w
  subst he
  rw [lenN, List.take_length] at h1
  refine ⟨st0 (e1 := [.sh (dT c), .ow (mN (List.replicate c.length 1)), .no, .no]) (x_set (d := .list (mN (List.replicate c.length 1))) ?_) (st0 ((x_fr (t := .nm 2) (l := mN (ones c.length)) (env := [.sh (dT c), .ow (mN (List.replicate c.length 1)), .no, .no]) rfl (i_len1 (i := 0) rfl (by omega))).trans h1) (exL_ret (x_ret rfl))), by unfold sizesS; rw [flen, List.length_replicate]⟩
  have e9 : mN (List.replicate c.length 1) = c.map fun _ => dN 1 := by
    unfold mN
    rw [List.map_replicate]
    exact (List.map_const' ..).symm
  rw [e9]
  exact lcA (l := c) (fun _ => dN 1) rfl (by unfold LB; omega) fun x _ => rfl
def ir_weights_below (f g : Nat) : SL := (.cons [] (.drop (.call f (.cons false (.var 0) .nil)))
  (.cons [] (.ret (.f1 .tuple (.call g (.cons false (.var 0) .nil))))
  .nil))
theorem weights_below_ok {f g : Nat} (hf : NeedOk C f) {c : List Nat} (gd : Good c) (hg : C g [.sh (dT c)] = M.ret (.list (mN (sizesS c)))) : exL ns C (ir_weights_below f g) [.sh (dT c)] = M.ret (.rt (dT (sizesS c))) :=
  st0 (x_need (d := .none) (l := [.sh (dT c)]) rfl (hf c gd)) (exL_ret (x_ret (e_f12 (x := .list (mN (sizesS c))) (e_call2 (l := [.sh (dT c)]) rfl hg rfl) rfl)))
end
end Cd
namespace Cd
open PySem
/-! Plain facts of charts and steps. -/
section
variable {c : List Nat}
theorem chain_cons (g : Good c) {k : Nat} (h1 : 1 ≤ k) (hl : k ≤ c.length) : chainS c k = if up c k = 0 then [] else up c k :: chainS c (up c k) := by
  by_cases z : up c k = 0
  · rw [if_pos z]
    unfold chainS
    rw [z]
    cases hn : c.length with
    | zero => have := g.one; omega
    | succ m => simp [asc]
  · rw [if_neg z]
    unfold chainS
    exact g.step z (g.le h1 hl)
/-- going up, by the rank -/
theorem up_ind (g : Good c) {P : Nat → Prop} (h : ∀ k, 1 ≤ k → k ≤ c.length → (up c k ≠ 0 → P (up c k)) → P k) : ∀ k, 1 ≤ k → k ≤ c.length → P k := by
  obtain ⟨r, hr⟩ := g.rk
  have w : ∀ (m k : Nat), r k < m → 1 ≤ k → k ≤ c.length → P k := by
    intro m
    induction m with
    | zero => intro k hk; omega
    | succ m ih =>
      intro k hk h1 hl
      refine h k h1 hl fun z => ?_
      obtain ⟨a, b, _⟩ := hr k h1 hl
      exact ih _ (by have := b z; omega) (by omega) a
  exact fun k => w (r k + 1) k (by omega)
theorem chain_up (g : Good c) : ∀ k, 1 ≤ k → k ≤ c.length → ∀ x ∈ chainS c k, ∃ j, 1 ≤ j ∧ j ≤ c.length ∧ x = up c j ∧ x ≠ 0 := by
  refine up_ind g fun k h1 hl ih x hx => ?_
  rw [chain_cons g h1 hl] at hx
  by_cases z : up c k = 0
  · rw [if_pos z] at hx; simp at hx
  · rw [if_neg z] at hx
    rcases List.mem_cons.mp hx with rfl | hx
    · exact ⟨k, h1, hl, rfl, z⟩
    · exact ih z x hx
theorem chain_rank (g : Good c) {r : Nat → Nat} (hr : ∀ k, 1 ≤ k → k ≤ c.length → up c k ≤ c.length ∧ (up c k ≠ 0 → r (up c k) < r k) ∧ r k < c.length) : ∀ k, 1 ≤ k → k ≤ c.length → (∀ x ∈ chainS c k, r x < r k) ∧ (chainS c k).length ≤ r k ∧ (chainS c k).Nodup := by
  refine up_ind g fun k h1 hl ih => ?_
  rw [chain_cons g h1 hl]
  by_cases z : up c k = 0
  · rw [if_pos z]; exact ⟨fun x hx => by simp at hx, by simp, List.nodup_nil⟩
  · rw [if_neg z]
    obtain ⟨a, b, d⟩ := ih z
    have lt := (hr k h1 hl).2.1 z
    refine ⟨fun x hx => ?_, by rw [List.length_cons]; omega, List.nodup_cons.mpr ⟨fun hm => by have := a _ hm; omega, d⟩⟩
    rcases List.mem_cons.mp hx with rfl | hx
    · exact lt
    · have := a x hx; omega
theorem chain_nodup (g : Good c) {k : Nat} (h1 : 1 ≤ k) (hl : k ≤ c.length) : (chainS c k).Nodup := by
  obtain ⟨r, hr⟩ := g.rk
  exact (chain_rank g hr k h1 hl).2.2
theorem chain_lt (g : Good c) {k : Nat} (h1 : 1 ≤ k) (hl : k ≤ c.length) : (chainS c k).length < c.length := by
  obtain ⟨r, hr⟩ := g.rk
  have := (chain_rank g hr k h1 hl).2.1
  have := (hr k h1 hl).2.2
  omega
theorem chain_self (g : Good c) {k : Nat} (h1 : 1 ≤ k) (hl : k ≤ c.length) : k ∉ chainS c k := fun h => by
  obtain ⟨r, hr⟩ := g.rk
  have := (chain_rank g hr k h1 hl).1 k h
  omega
/-! ### a step -/
variable {p q : Nat}
theorem step_up_ne (g : Good c) (s : StpN c.length p q) {k : Nat} (h1 : 1 ≤ k) (hl : k ≤ c.length) : up (stepS c p q) k ≠ p := by
  rw [stepS_up h1 hl s.p1]
  obtain ⟨r, hr⟩ := g.rk
  by_cases z : k = p
  · rw [if_pos z]; exact Ne.symm s.ne
  · rw [if_neg z]
    by_cases z2 : up c k = p
    · rw [if_pos z2]
      intro e
      have p1 := s.p1
      have := (hr p s.p1 s.pn).2.1 (by omega)
      rw [e] at this; omega
    · rw [if_neg z2]; exact z2
theorem step_chain_p (g : Good c) (s : StpN c.length p q) {k : Nat} (h1 : 1 ≤ k) (hl : k ≤ c.length) : p ∉ chainS (stepS c p q) k := fun h => by
  have gs := g.stepS s
  obtain ⟨j, j1, j2, e, _⟩ := chain_up gs k h1 (by rw [stepS_len]; exact hl) p h
  rw [stepS_len] at j2
  exact step_up_ne g s j1 j2 e.symm
theorem step_chain (g : Good c) (s : StpN c.length p q) : ∀ k, 1 ≤ k → k ≤ c.length → k ≠ p → chainS (stepS c p q) k = (chainS c k).filter fun x => !decide (x = p) := by
  have gs := g.stepS s
  have len := stepS_len c p q
  have p1 := s.p1
  have w : ∀ k, 1 ≤ k → k ≤ c.length → (k ≠ p → chainS (stepS c p q) k = (chainS c k).filter fun x => !decide (x = p)) ∧ (k = p → up c k ≠ 0 → chainS (stepS c p q) (up c k) = (chainS c (up c k)).filter fun x => !decide (x = p)) := by
    obtain ⟨r, hr⟩ := g.rk
    refine up_ind g fun k h1 hl ih => ⟨fun ne => ?_, fun e z => ?_⟩
    · rw [chain_cons gs h1 (by omega), stepS_up h1 hl p1, if_neg ne, chain_cons g h1 hl]
      by_cases z0 : up c k = 0
      · have : up c k ≠ p := by omega
        rw [if_neg this, if_pos z0, if_pos z0]; rfl
      · by_cases z2 : up c k = p
        · rw [if_pos z2, if_neg z0, z2, List.filter_cons_of_neg (by simp), chain_cons g s.p1 s.pn]
          by_cases z3 : up c p = 0
          · rw [if_pos z3, if_pos z3]; rfl
          · have np : up c p ≠ p := fun e => by
              have := (hr p s.p1 s.pn).2.1 z3
              rw [e] at this; omega
            rw [if_neg z3, if_neg z3, List.filter_cons_of_pos (by simpa using np)]
            have := (ih z0).2 z2
            rw [z2] at this
            rw [this z3]
        · rw [if_neg z2, if_neg z0, if_neg z0, List.filter_cons_of_pos (by simpa using z2), (ih z0).1 z2]
    · have lt := (hr k h1 hl).2.1 z
      refine (ih z).1 fun e2 => ?_
      rw [e2, ← e] at lt; omega
  exact fun k h1 hl ne => (w k h1 hl).1 ne
theorem filter_ne_len : ∀ {l : List Nat}, l.Nodup → (l.filter fun x => !decide (x = p)).length + (if p ∈ l then 1 else 0) = l.length
  | [], _ => rfl
  | a :: r, h => by
    obtain ⟨h1, h2⟩ := List.nodup_cons.mp h
    have ih := filter_ne_len h2
    by_cases e : a = p
    · subst e
      rw [if_neg h1] at ih
      rw [List.filter_cons_of_neg (by simp), if_pos List.mem_cons_self, List.length_cons]; omega
    · rw [List.filter_cons_of_pos (by simpa using e), List.length_cons, List.length_cons]
      by_cases m : p ∈ r
      · rw [if_pos m] at ih; rw [if_pos (List.mem_cons_of_mem _ m)]; omega
      · rw [if_neg m] at ih
        rw [if_neg fun z => (List.mem_cons.mp z).elim (fun z => e z.symm) m]; omega
theorem step_level (g : Good c) (s : StpN c.length p q) {k : Nat} (h1 : 1 ≤ k) (hl : k ≤ c.length) (ne : k ≠ p) : (chainS (stepS c p q) k).length + (if p ∈ chainS c k then 1 else 0) = (chainS c k).length := by
  rw [step_chain g s k h1 hl ne]
  exact filter_ne_len (chain_nodup g h1 hl)
theorem step_chain_own (g : Good c) (s : StpN c.length p q) : chainS (stepS c p q) p = if q = 0 then [] else q :: chainS (stepS c p q) q := by
  have := chain_cons (g.stepS s) s.p1 (by rw [stepS_len]; exact s.pn)
  rwa [stepS_up s.p1 s.pn s.p1, if_pos rfl] at this
theorem le_maxN : ∀ {l : List Nat} {x : Nat}, x ∈ l → x ≤ maxN l := by
  have mono : ∀ (l : List Nat) (a : Nat), a ≤ l.foldl max a := by
    intro l
    induction l with
    | nil => exact fun a => Nat.le_refl _
    | cons x r ih => exact fun a => Nat.le_trans (Nat.le_max_left a x) (ih _)
  have w : ∀ (l : List Nat) (a x : Nat), x ∈ l → x ≤ l.foldl max a := by
    intro l
    induction l with
    | nil => intro a x h; simp at h
    | cons y r ih =>
      intro a x h
      rcases List.mem_cons.mp h with rfl | h
      · exact Nat.le_trans (Nat.le_max_right a x) (mono r _)
      · exact ih _ x h
  exact fun {l x} h => w l 0 x h
theorem maxN_mem {l : List Nat} (h : l ≠ []) : maxN l ∈ l := by
  have w : ∀ (l : List Nat) (a : Nat), l.foldl max a = a ∨ l.foldl max a ∈ l := by
    intro l
    induction l with
    | nil => exact fun a => .inl rfl
    | cons x r ih =>
      intro a
      rw [List.foldl_cons]
      rcases ih (max a x) with e | e
      · rw [e]
        by_cases z : a ≤ x
        · rw [Nat.max_eq_right z]; exact .inr List.mem_cons_self
        · rw [Nat.max_eq_left (by omega)]; exact .inl rfl
      · exact .inr (List.mem_cons_of_mem _ e)
  cases l with
  | nil => exact absurd rfl h
  | cons x r =>
    show r.foldl max (max 0 x) ∈ x :: r
    rw [Nat.zero_max]
    rcases w r x with e | e
    · rw [e]; exact List.mem_cons_self
    · exact List.mem_cons_of_mem _ e
theorem height_ge {k : Nat} (h1 : 1 ≤ k) (hl : k ≤ c.length) : (chainS c k).length + 1 ≤ heightS c := le_maxN (List.mem_map.mpr ⟨k, mem_ones.mpr ⟨h1, hl⟩, rfl⟩)
theorem step_height (g : Good c) (s : StpN c.length p q) : heightS (stepS c p q) ≤ heightS c + 1 := by
  refine maxN_le fun x hx => ?_
  obtain ⟨k, hk, rfl⟩ := List.mem_map.mp hx
  rw [stepS_len] at hk
  obtain ⟨k1, k2⟩ := mem_ones.mp hk
  by_cases e : k = p
  · subst e
    rw [step_chain_own g s]
    by_cases z : q = 0
    · rw [if_pos z]; simp
    · rw [if_neg z, List.length_cons]
      have a := step_level g s (k := q) (by omega) s.qn (Ne.symm s.ne)
      have b := height_ge (c := c) (k := q) (by omega) s.qn
      omega
  · have a := step_level g s k1 k2 e
    have b := height_ge (c := c) k1 k2
    omega
theorem sum_le_one {f h : Nat → Nat} {m : Nat} : ∀ {l : List Nat}, l.Nodup → (∀ k ∈ l, f k ≤ h k + if k = p then m else 0) → (l.map f).sum ≤ (l.map h).sum + m
  | [], _, _ => by simp
  | a :: r, nd, hk => by
    obtain ⟨n1, n2⟩ := List.nodup_cons.mp nd
    have ha := hk a List.mem_cons_self
    rw [List.map_cons, List.map_cons, List.sum_cons, List.sum_cons]
    by_cases e : a = p
    · rw [if_pos e] at ha
      have w : ∀ l : List Nat, p ∉ l → (∀ k ∈ l, f k ≤ h k + if k = p then m else 0) → (l.map f).sum ≤ (l.map h).sum := by
        intro l
        induction l with
        | nil => intro _ _; simp
        | cons b q ih =>
          intro np hb
          have h1 := hb b List.mem_cons_self
          rw [if_neg fun z => np (by rw [z]; exact List.mem_cons_self)] at h1
          have h2 := ih (fun z => np (List.mem_cons_of_mem _ z)) fun k hk => hb k (List.mem_cons_of_mem _ hk)
          rw [List.map_cons, List.map_cons, List.sum_cons, List.sum_cons]; omega
      have := w r (by rw [← e]; exact n1) fun k z => hk k (List.mem_cons_of_mem _ z)
      omega
    · rw [if_neg e] at ha
      have := sum_le_one (f := f) (h := h) (m := m) n2 fun k z => hk k (List.mem_cons_of_mem _ z)
      omega
theorem ones_nodup (n : Nat) : (ones n).Nodup := List.nodup_range' ..
theorem step_path (g : Good c) (s : StpN c.length p q) : pathS (stepS c p q) ≤ pathS c + (c.length - 1) := by
  unfold pathS
  rw [stepS_len]
  refine sum_le_one (p := p) (ones_nodup _) fun k hk => ?_
  obtain ⟨k1, k2⟩ := mem_ones.mp hk
  by_cases e : k = p
  · rw [if_pos e]
    have := chain_lt (g.stepS s) (k := k) k1 (by rw [stepS_len]; exact k2)
    rw [stepS_len] at this
    omega
  · rw [if_neg e]
    have := step_level g s k1 k2 e
    omega
theorem step_ends (g : Good c) (s : StpN c.length p q) : p ∈ endsS (stepS c p q) := by
  unfold endsS
  rw [stepS_len]
  refine List.mem_filter.mpr ⟨mem_ones.mpr ⟨s.p1, s.pn⟩, ?_⟩
  have : p ∉ stepS c p q := fun h => by
    obtain ⟨i, hi, e⟩ := List.mem_iff_getElem.mp h
    rw [stepS_len] at hi
    have q2 := up_get (c := stepS c p q) (k := i + 1) (by omega) (by rw [stepS_len]; omega)
    rw [Nat.add_sub_cancel, List.getElem?_eq_getElem (by rw [stepS_len]; exact hi), e] at q2
    exact step_up_ne g s (k := i + 1) (by omega) (by omega) (Option.some.inj q2).symm
  simpa using this
theorem step_right (g : Good c) (s : StpN c.length p q) : rightS (stepS c p q) p = [] := by
  unfold rightS
  rw [stepS_len]
  refine List.filter_eq_nil_iff.mpr fun k hk => ?_
  obtain ⟨k1, k2⟩ := mem_ones.mp hk
  simpa using step_up_ne g s k1 k2
theorem bump_other {l : List Nat} {x j : Nat} (h : x - 1 ≠ j) : (bump l x)[j]? = l[j]? := by
  unfold bump
  rw [List.getElem?_set, if_neg h]
theorem bumps_other {j : Nat} : ∀ (l a : List Nat), (∀ x ∈ l, x - 1 ≠ j) → (l.foldl bump a)[j]? = a[j]?
  | [], a, _ => rfl
  | x :: r, a, h => by rw [List.foldl_cons, bumps_other r _ fun y hy => h y (List.mem_cons_of_mem _ hy), bump_other (h x List.mem_cons_self)]
theorem step_size (g : Good c) (s : StpN c.length p q) : (sizesS (stepS c p q))[p - 1]? = some 1 := by
  have gs := g.stepS s
  have pn := s.pn
  have p1 := s.p1
  unfold sizesS
  rw [stepS_len]
  have w : ∀ (l a : List Nat), (∀ k ∈ l, 1 ≤ k ∧ k ≤ c.length) → (l.foldl (fun a k => (chainS (stepS c p q) k).foldl bump a) a)[p - 1]? = a[p - 1]? := by
    intro l
    induction l with
    | nil => exact fun a _ => rfl
    | cons k r ih =>
      intro a h
      obtain ⟨k1, k2⟩ := h k List.mem_cons_self
      rw [List.foldl_cons, ih _ fun y hy => h y (List.mem_cons_of_mem _ hy), bumps_other]
      intro x hx e
      have x1 := (mem_chain gs k1 (by rw [stepS_len]; exact k2) hx).1
      have : x = p := by omega
      subst this
      exact step_chain_p g s k1 k2 hx
  rw [w _ _ fun k hk => mem_ones.mp hk, List.getElem?_replicate, if_pos (by omega)]
/-! ### levels -/
theorem beside_len (g : Good c) {k : Nat} (h1 : 1 ≤ k) (hl : k ≤ c.length) : (besideS c k).length + 1 = (rightS c (up c k)).length := by
  unfold besideS rightS
  have w : ∀ l : List Nat, l.Nodup → (l.filter fun x => decide (up c x = up c k) && !decide (x = k)).length + (if k ∈ l then 1 else 0) = (l.filter fun x => decide (up c x = up c k)).length := by
    intro l
    induction l with
    | nil => intro _; rfl
    | cons a r ih =>
      intro nd
      obtain ⟨n1, n2⟩ := List.nodup_cons.mp nd
      have ih2 := ih n2
      by_cases e : a = k
      · subst e
        rw [if_neg n1] at ih2
        rw [if_pos List.mem_cons_self, List.filter_cons_of_neg (by simp), List.filter_cons_of_pos (by simp), List.length_cons]; omega
      · have m : (if k ∈ a :: r then 1 else 0) = if k ∈ r then 1 else 0 := by
          by_cases z : k ∈ r
          · rw [if_pos z, if_pos (List.mem_cons_of_mem _ z)]
          · rw [if_neg z, if_neg fun y => (List.mem_cons.mp y).elim (fun y => e y.symm) z]
        rw [m]
        by_cases u : up c a = up c k
        · rw [List.filter_cons_of_pos (by simp [u, e]), List.filter_cons_of_pos (by simpa using u), List.length_cons, List.length_cons]; omega
        · rw [List.filter_cons_of_neg (by simp [u]), List.filter_cons_of_neg (by simpa using u)]; exact ih2
  have := w (ones c.length) (ones_nodup _)
  rw [if_pos (mem_ones.mpr ⟨h1, hl⟩)] at this
  exact this
theorem count_map (f : Nat → Nat) (a : Nat) : ∀ l : List Nat, (l.map f).count a = (l.filter fun x => decide (f x = a)).length
  | [] => rfl
  | b :: r => by
    rw [List.map_cons, List.count_cons, count_map f a r]
    by_cases e : f b = a
    · rw [List.filter_cons_of_pos (by simpa using e), List.length_cons]; simp [e]
    · rw [List.filter_cons_of_neg (by simpa using e)]; simp [e]
theorem levels_zero (g : Good c) : (rowsS c).count 0 = (rightS c 0).length := by
  unfold rowsS rightS
  rw [count_map]
  congr 1
  refine List.filter_congr fun k hk => ?_
  obtain ⟨k1, k2⟩ := mem_ones.mp hk
  rw [chain_cons g k1 k2]
  by_cases z : up c k = 0
  · rw [if_pos z, decide_eq_true z]; rfl
  · rw [if_neg z, decide_eq_false z]; simp
theorem filter_len_le {f h : Nat → Bool} : ∀ {l : List Nat}, (∀ x ∈ l, f x = true → h x = true) → (l.filter f).length ≤ (l.filter h).length
  | [], _ => Nat.le_refl _
  | a :: r, k => by
    have ih := filter_len_le (f := f) (h := h) (l := r) fun x hx => k x (List.mem_cons_of_mem _ hx)
    by_cases e : f a = true
    · rw [List.filter_cons_of_pos e, List.filter_cons_of_pos (k a List.mem_cons_self e), List.length_cons, List.length_cons]; omega
    · rw [List.filter_cons_of_neg e]
      by_cases e2 : h a = true
      · rw [List.filter_cons_of_pos e2, List.length_cons]; omega
      · rw [List.filter_cons_of_neg e2]; exact ih
theorem rows_mem {k : Nat} (h1 : 1 ≤ k) (hl : k ≤ c.length) : (chainS c k).length ∈ rowsS c := List.mem_map.mpr ⟨k, mem_ones.mpr ⟨h1, hl⟩, rfl⟩
theorem ends_ge (g : Good c) : (rowsS c).count (maxN (rowsS c)) ≤ (endsS c).length := by
  have e0 : (rowsS c).count (maxN (rowsS c)) = ((ones c.length).filter fun k => decide ((chainS c k).length = maxN (rowsS c))).length := count_map ..
  rw [e0]
  unfold endsS
  refine filter_len_le fun k hk h => ?_
  obtain ⟨k1, k2⟩ := mem_ones.mp hk
  have e : (chainS c k).length = maxN (rowsS c) := by simpa using h
  have : k ∉ c := fun hm => by
    obtain ⟨i, hi, e2⟩ := List.mem_iff_getElem.mp hm
    have q2 := up_get (c := c) (k := i + 1) (by omega) (by omega)
    rw [Nat.add_sub_cancel, List.getElem?_eq_getElem hi, e2] at q2
    have q3 : up c (i + 1) = k := (Option.some.inj q2).symm
    have q4 := chain_cons g (k := i + 1) (by omega) (by omega)
    rw [q3, if_neg (by omega)] at q4
    have q5 := le_maxN (rows_mem (c := c) (k := i + 1) (by omega) (by omega))
    rw [q4, List.length_cons] at q5
    omega
  simpa using this
theorem levels_all (g : Good c) {l : Nat} (h : l ≤ maxN (rowsS c)) : 1 ≤ (rowsS c).count l := by
  have w : ∀ k, 1 ≤ k → k ≤ c.length → ∀ l, l ≤ (chainS c k).length → l ∈ rowsS c := by
    refine up_ind g fun k h1 hl ih l hk => ?_
    by_cases e : l = (chainS c k).length
    · rw [e]; exact rows_mem h1 hl
    · rw [chain_cons g h1 hl] at hk e
      by_cases z : up c k = 0
      · rw [if_pos z] at hk e
        simp at hk e; omega
      · rw [if_neg z, List.length_cons] at hk e
        exact ih z l (by omega)
  have m := maxN_mem (rowsS_ne g)
  obtain ⟨k, hk, e⟩ := List.mem_map.mp m
  obtain ⟨k1, k2⟩ := mem_ones.mp hk
  exact List.count_pos_iff.mpr (w k k1 k2 l (by rw [e]; exact h))
end
end Cd
namespace Cd
open PySem
/-! Namings. -/
def oD : Option Int → PyData
  | none => .none
  | some x => .int x
abbrev nL (v : List (Option Int)) : List PyData := v.map oD
abbrev nD (v : List (Option Int)) : PyData := .tuple (nL v)
theorem nL_len (v : List (Option Int)) : (nL v).length = v.length := List.length_map ..
def idleO (n : Nat) : List (Option Int) := List.replicate n none
def stepO (n p q : Nat) : List (Option Int) := (ones n).map fun k => if k = p then some (q : Int) else none
theorem stepO_len (n p q : Nat) : (stepO n p q).length = n := by unfold stepO; rw [List.length_map, ones_len]
def upO (one other : List (Option Int)) : Nat → Nat → Option Int
  | 0, _ => none
  | f + 1, p => match one[p - 1]? with
    | none => none
    | some none => some (-(p : Int))
    | some (some ch) => if ch ≤ 0 then some ch else match other[(ch - 1).toNat]? with
      | none => none
      | some none => some ch
      | some (some _) => upO one other f ch.toNat
def itemO (f : Nat) (one other : List (Option Int)) (k : Nat) : Option (Option Int) := match other[k]? with
  | none => none
  | some none => (match one[k]? with
    | none => none
    | some none => some none
    | some (some _) => (upO one other f (k + 1)).map some)
  | some (some ch) => if 0 ≤ ch then some (some ch) else (upO one other f (-ch).toNat).map some
def seqO {α : Type} : List (Option α) → Option (List α)
  | [] => some []
  | none :: _ => none
  | some x :: r => match seqO r with
    | none => none
    | some l => some (x :: l)
theorem seqO_get {α : Type} : ∀ {l : List (Option α)} {r : List α}, seqO l = some r → r.length = l.length ∧ ∀ (i : Nat) (x : α), r[i]? = some x → l[i]? = some (some x)
  | [], r, h => by
    cases h
    exact ⟨rfl, fun i x hx => by simp at hx⟩
  | none :: l, r, h => by cases h
  | some y :: l, r, h => by
    unfold seqO at h
    cases e : seqO l with
    | none => rw [e] at h; cases h
    | some m =>
      rw [e] at h
      cases h
      obtain ⟨h1, h2⟩ := seqO_get e
      refine ⟨by simp [h1], fun i x hx => ?_⟩
      cases i with
      | zero => simpa using hx
      | succ i => simpa using h2 i x (by simpa using hx)
def afterO (f : Nat) (one other : List (Option Int)) : Option (List (Option Int)) := seqO ((List.range other.length).map (itemO f one other))
theorem afterO_get {f : Nat} {one other r : List (Option Int)} (h : afterO f one other = some r) : r.length = other.length ∧ ∀ k, k < other.length → ∃ x, r[k]? = some x ∧ itemO f one other k = some x := by
  obtain ⟨h1, h2⟩ := seqO_get h
  rw [List.length_map, List.length_range] at h1
  refine ⟨h1, fun k hk => ?_⟩
  have hx : r[k]? = some r[k] := List.getElem?_eq_getElem (by omega)
  have := h2 k _ hx
  rw [List.getElem?_map, List.getElem?_range hk] at this
  exact ⟨_, hx, Option.some.inj this⟩
section
variable {ns : List Int} {C : CT}
theorem t_isN {a : E} {env : List Slot} {o : Option Int} (ha : rd env a (evE ns C a env) = M.ret (oD o)) : evT ns C (.cmp .isN a .non) env = M.ret o.isNone := by
  refine t_cmp2 ha (y := .none) rfl ?_
  cases o <;> rfl
theorem t_isNotN {a : E} {env : List Slot} {o : Option Int} (ha : rd env a (evE ns C a env) = M.ret (oD o)) : evT ns C (.cmp .isNotN a .non) env = M.ret o.isSome := by
  refine t_cmp2 ha (y := .none) rfl ?_
  cases o <;> rfl
theorem ix_nat {v : List (Option Int)} {k : Nat} {o : Option Int} (h : v[k]? = some o) : ixD (nL v) (k : Int) = some (oD o) := ixD_nat (by rw [List.getElem?_map, h]; rfl)
theorem e_ixO {i : Nat} {k : Nat} {v : List (Option Int)} {o : Option Int} {env : List Slot} {e : E} (hi : env[i]? = some (.sh (nD v))) (he : evE ns C e env = M.ret (.int (k : Int))) (hk : v[k]? = some o) : evE ns C (.ix (.var i) e) env = M.ret (oD o) := by
  simp only [evE, rd, hi, bd_ret, he, elemsD]
  show M.of (ixD (nL v) (k : Int)) = _
  rw [ix_nat hk]; rfl
def ir_up (u : Nat) : SL := (.cons [] (.set 3 (.ix (.var 0) (.bin .sub (.var 2) (.int 1))))
  (.cons [] (.ite (.cmp .isN (.var 3) .non) (.cons [] (.ret (.bin .sub (.int 0) (.var 2)))
  .nil) .nil)
  (.cons [] (.ite (.or (.cmp .le (.var 3) (.int 0)) (.cmp .isN (.ix (.var 1) (.bin .sub (.var 3) (.int 1))) .non)) (.cons [] (.ret (.var 3))
  .nil) .nil)
  (.cons [] (.ret (.call u (.cons false (.var 0) (.cons false (.var 1) (.cons false (.var 3) .nil)))))
  .nil))))
theorem x_take {c : E} {a : SL} {env : List Slot} {o : Out} (h : evT ns C c env = M.ret true) (k : exL ns C a env = M.ret o) : exS ns C (.ite c a .nil) env = M.ret o := (x_ite h).trans (by rw [if_pos rfl, k])
theorem le_I (a b : Int) : cmpD .le (.int a) (.int b) = some (decide (a ≤ b)) := rfl
theorem up_body {u f p : Nat} {one other : List (Option Int)} {v : Int} (hu : ∀ p v, 1 ≤ p → upO one other f p = some v → C u [.sh (nD one), .sh (nD other), .sh (dN p)] = M.ret (.int v)) (h1 : 1 ≤ p) (h : upO one other (f + 1) p = some v) :
    exL ns C (ir_up u) [.sh (nD one), .sh (nD other), .sh (dN p), .no] = M.ret (.rt (.int v)) := by
  unfold upO at h
  cases hp : one[p - 1]? with
  | none => rw [hp] at h; cases h
  | some o =>
    rw [hp] at h
    have s1 : exS ns C (.set 3 (.ix (.var 0) (.bin .sub (.var 2) (.int 1)))) [.sh (nD one), .sh (nD other), .sh (dN p), .no] = M.ret (.nx [.sh (nD one), .sh (nD other), .sh (dN p), .sh (oD o)]) := x_set (d := oD o) (e_ixO (i := 0) rfl (e_sub1 (i := 2) rfl h1) hp)
    cases o with
    | none =>
      cases h
      refine st0 s1 (exL_ret (fz := []) (x_take (t_isN (o := none) rfl) (exL_ret (x_ret (d := .int (-(p : Int))) ?_))))
      show M.ret (PyData.int (0 - (p : Int))) = _
      rw [Int.zero_sub]
    | some ch =>
      have t1 : evT ns C (.cmp .isN (.var 3) .non) [.sh (nD one), .sh (nD other), .sh (dN p), .sh (.int ch)] = M.ret false := t_isN (o := some ch) rfl
      have t2 : evT ns C (.cmp .le (.var 3) (.int 0)) [.sh (nD one), .sh (nD other), .sh (dN p), .sh (.int ch)] = M.ret (decide (ch ≤ 0)) := t_cmp2 (x := .int ch) (y := .int 0) rfl rfl (le_I ..)
      refine st0 s1 (st0 (x_skip t1) ?_)
      by_cases z : ch ≤ 0
      · have h' : some ch = some v := by simpa [z] using h
        cases h'
        rw [decide_eq_true z] at t2
        refine exL_ret (fz := []) (x_take (c := .or (.cmp .le (.var 3) (.int 0)) (.cmp .isN (.ix (.var 1) (.bin .sub (.var 3) (.int 1))) .non)) ((t_or2 (q := true) t2 fun y => by cases y).trans rfl) (exL_ret (x_ret rfl)))
      · rw [decide_eq_false z] at t2
        have h' : (match other[(ch - 1).toNat]? with | none => none | some none => some ch | some (some _) => upO one other f ch.toNat) = some v := by simpa [z] using h
        cases ho : other[(ch - 1).toNat]? with
        | none => rw [ho] at h'; cases h'
        | some o2 =>
          rw [ho] at h'
          have e1 : evE ns C (.bin .sub (.var 3) (.int 1)) [.sh (nD one), .sh (nD other), .sh (dN p), .sh (.int ch)] = M.ret (.int (((ch - 1).toNat : Nat) : Int)) := by
            show M.ret (PyData.int (ch - 1)) = _
            congr 2; omega
          have t3 : evT ns C (.cmp .isN (.ix (.var 1) (.bin .sub (.var 3) (.int 1))) .non) [.sh (nD one), .sh (nD other), .sh (dN p), .sh (.int ch)] = M.ret o2.isNone := t_isN (a := .ix (.var 1) (.bin .sub (.var 3) (.int 1))) (e_ixO (i := 1) rfl e1 ho)
          cases o2 with
          | none =>
            have h2 : some ch = some v := h'
            cases h2
            exact exL_ret (fz := []) (x_take (t_or2 (p := false) (q := true) t2 fun _ => t3) (exL_ret (x_ret rfl)))
          | some y =>
            have e2 : (ch : Int) = ((ch.toNat : Nat) : Int) := by omega
            refine st0 (x_skip (t_or2 (p := false) (q := false) t2 fun _ => t3)) (exL_ret (x_ret (e_call2 (l := [.sh (nD one), .sh (nD other), .sh (dN ch.toNat)]) ?_ (hu ch.toNat v (by omega) h') rfl)))
            show M.ret [Slot.sh (nD one), .sh (nD other), .sh (.int ch)] = M.ret [.sh (nD one), .sh (nD other), .sh (dN ch.toNat)]
            have e3 : PyData.int ch = dN ch.toNat := by
              show PyData.int ch = PyData.int ((ch.toNat : Nat) : Int)
              rw [← e2]
            rw [e3]
theorem up_cal {T : List Fn} {u : Nat} (hT : T[u]? = some ⟨3, 4, ir_up u⟩) {one other : List (Option Int)} (k : Nat) : ∀ (f p : Nat) (v : Int), 1 ≤ p → upO one other f p = some v → cal T ns (k + f) u [.sh (nD one), .sh (nD other), .sh (dN p)] = M.ret (.int v)
  | 0, p, v, _, h => by cases h
  | f + 1, p, v, h1, h => cal_ret (k := k + f) hT rfl rfl (up_body (fun p v h1 h => up_cal hT k f p v h1 h) h1 h)
def UpOk (C : CT) (u f : Nat) : Prop := ∀ one other p v, 1 ≤ p → upO one other f p = some v → C u [.sh (nD one), .sh (nD other), .sh (dN p)] = M.ret (.int v)
def ir_after_of (u : Nat) : SL := (.cons [] (.set 2 (.lst .nil))
  (.cons [] (.fr (.tp [3, 4]) (.enum (.var 1)) (.cons [] (.ite (.cmp .isN (.var 4) .non) (.cons [] (.app 2 (.ite (.cmp .isN (.ix (.var 0) (.var 3)) .non) .non (.call u (.cons false (.var 0) (.cons false (.var 1) (.cons false (.bin .add (.var 3) (.int 1)) .nil))))))
  .nil) (.cons [] (.app 2 (.ite (.cmp .ge (.var 4) (.int 0)) (.var 4) (.call u (.cons false (.var 0) (.cons false (.var 1) (.cons false (.bin .sub (.int 0) (.var 4)) .nil))))))
  .nil))
  .nil))
  (.cons [] (.ret (.f1 .tuple (.var 2)))
  .nil)))
theorem after_of_ok {u f : Nat} (hu : UpOk C u f) {one other r : List (Option Int)} (h : afterO f one other = some r) (h6 : other.length ≤ 6) : exL ns C (ir_after_of u) [.sh (nD one), .sh (nD other), .no, .no, .no] = M.ret (.rt (nD r)) := by
  obtain ⟨h1, h2⟩ := afterO_get h
  have w := frL_inv (f := fun env x => match bindT env (.tp [3, 4]) x with | some env' => exL ns C (.cons [] (.ite (.cmp .isN (.var 4) .non) (.cons [] (.app 2 (.ite (.cmp .isN (.ix (.var 0) (.var 3)) .non) .non (.call u (.cons false (.var 0) (.cons false (.var 1) (.cons false (.bin .add (.var 3) (.int 1)) .nil)))))) .nil) (.cons [] (.app 2 (.ite (.cmp .ge (.var 4) (.int 0)) (.var 4) (.call u (.cons false (.var 0) (.cons false (.var 1) (.cons false (.bin .sub (.int 0) (.var 4)) .nil)))))) .nil)) .nil) env' | none => M.no) (l := enumD 0 (nL other))
    (fun i env => ∃ s3 s4, env = [.sh (nD one), .sh (nD other), .ow (nL (r.take i)), s3, s4]) (fun i x env hx ⟨s3, s4, he⟩ => by
      subst he
      obtain ⟨z, hz, rfl⟩ := enumD_get _ 0 i x hx
      rw [List.getElem?_map] at hz
      cases hy : other[i]? with
      | none => rw [hy] at hz; cases hz
      | some o =>
        rw [hy] at hz
        cases hz
        have hi : i < other.length := (List.getElem?_eq_some_iff.mp hy).1
        obtain ⟨y, hr, hit⟩ := h2 i hi
        have tk : nL (r.take (i + 1)) = nL (r.take i) ++ [oD y] := by
          show (r.take (i + 1)).map oD = _
          rw [List.take_succ, hr, List.map_append]; rfl
        have ll : (nL (r.take i)).length < LB := by rw [nL_len, List.length_take]; unfold LB; omega
        have e0 : (0 : Int) + (i : Int) = (i : Int) := by omega
        rw [e0]
        refine ⟨[.sh (nD one), .sh (nD other), .ow (nL (r.take (i + 1))), .sh (dN i), .sh (oD o)], ?_, _, _, rfl⟩
        rw [tk]
        show exL ns C _ [.sh (nD one), .sh (nD other), .ow (nL (r.take i)), .sh (dN i), .sh (oD o)] = _
        have t1 : evT ns C (.cmp .isN (.var 4) .non) [.sh (nD one), .sh (nD other), .ow (nL (r.take i)), .sh (dN i), .sh (oD o)] = M.ret o.isNone := t_isN rfl
        unfold itemO at hit
        rw [hy] at hit
        cases o with
        | none =>
          refine st0 (e1 := [.sh (nD one), .sh (nD other), .ow (nL (r.take i) ++ [oD y]), .sh (dN i), .sh .none]) (x_take t1 (st0 (x_app (i := 2) (l := nL (r.take i)) (d := oD y) ?_ rfl ll) exL_nil)) exL_nil
          have hit2 : (match one[i]? with | none => none | some none => some none | some (some _) => (upO one other f (i + 1)).map some) = some y := hit
          cases ho : one[i]? with
          | none => rw [ho] at hit2; cases hit2
          | some o1 =>
            rw [ho] at hit2
            have t2 : evT ns C (.cmp .isN (.ix (.var 0) (.var 3)) .non) [.sh (nD one), .sh (nD other), .ow (nL (r.take i)), .sh (dN i), .sh .none] = M.ret o1.isNone := t_isN (a := .ix (.var 0) (.var 3)) (e_ixO (i := 0) rfl rfl ho)
            refine (e_ite2 t2).trans ?_
            cases o1 with
            | none => cases hit2; rfl
            | some q =>
              have hit3 : (upO one other f (i + 1)).map some = some y := hit2
              cases hv : upO one other f (i + 1) with
              | none => rw [hv] at hit3; cases hit3
              | some v =>
                rw [hv] at hit3
                cases hit3
                exact e_call2 (l := [.sh (nD one), .sh (nD other), .sh (dN (i + 1))]) rfl (hu one other (i + 1) v (by omega) hv) rfl
        | some ch =>
          have s1 : exS ns C (.ite (.cmp .isN (.var 4) .non) (.cons [] (.app 2 (.ite (.cmp .isN (.ix (.var 0) (.var 3)) .non) .non (.call u (.cons false (.var 0) (.cons false (.var 1) (.cons false (.bin .add (.var 3) (.int 1)) .nil)))))) .nil) (.cons [] (.app 2 (.ite (.cmp .ge (.var 4) (.int 0)) (.var 4) (.call u (.cons false (.var 0) (.cons false (.var 1) (.cons false (.bin .sub (.int 0) (.var 4)) .nil)))))) .nil)) [.sh (nD one), .sh (nD other), .ow (nL (r.take i)), .sh (dN i), .sh (.int ch)] = M.ret (.nx [.sh (nD one), .sh (nD other), .ow (nL (r.take i) ++ [oD y]), .sh (dN i), .sh (.int ch)]) := by
            refine (x_ite t1).trans ?_
            rw [if_neg (by simp)]
            refine st0 (x_app (i := 2) (l := nL (r.take i)) (d := oD y) ?_ rfl ll) exL_nil
            have t2 : evT ns C (.cmp .ge (.var 4) (.int 0)) [.sh (nD one), .sh (nD other), .ow (nL (r.take i)), .sh (dN i), .sh (.int ch)] = M.ret (decide (0 ≤ ch)) := t_cmp2 (x := .int ch) (y := .int 0) rfl rfl rfl
            refine (e_ite2 t2).trans ?_
            by_cases z : 0 ≤ ch
            · have hit2 : some (some ch) = some y := by simpa [z] using hit
              cases hit2
              rw [decide_eq_true z]; rfl
            · have hit2 : (upO one other f (-ch).toNat).map some = some y := by simpa [z] using hit
              rw [decide_eq_false z]
              cases hv : upO one other f (-ch).toNat with
              | none => rw [hv] at hit2; cases hit2
              | some v =>
                rw [hv] at hit2
                cases hit2
                have e2 : (0 : Int) - ch = (((-ch).toNat : Nat) : Int) := by omega
                refine e_call2 (l := [.sh (nD one), .sh (nD other), .sh (dN (-ch).toNat)]) ?_ (hu one other (-ch).toNat v (by omega) hv) rfl
                show M.ret [Slot.sh (nD one), .sh (nD other), .sh (.int (0 - ch))] = M.ret [.sh (nD one), .sh (nD other), .sh (dN (-ch).toNat)]
                rw [e2]
          exact st0 s1 exL_nil) (env := [.sh (nD one), .sh (nD other), .ow [], .no, .no]) ⟨_, _, rfl⟩
  obtain ⟨e, k1, s3, s4, he⟩ := w
  subst he
  have el : (enumD 0 (nL other)).length = r.length := by rw [enumD_len, nL_len, h1]
  rw [el, List.take_length] at k1
  exact st0 (e1 := [.sh (nD one), .sh (nD other), .ow [], .no, .no]) rfl (st0 ((x_fr (l := enumD 0 (nL other)) rfl rfl).trans k1) (exL_ret (x_ret rfl)))
def AfterOk (C : CT) (g f : Nat) : Prop := ∀ one other r, afterO f one other = some r → other.length ≤ 6 → C g [.sh (nD one), .sh (nD other)] = M.ret (nD r)
def ir_idle_of : SL := (.cons [] (.ret (.f1 .tuple (.lc [("person", 1)] (.nm 1) (.r1 (.var 0)) (.bl true) .non)))
  .nil)
theorem idle_of_ok {n : Nat} (h6 : n ≤ 6) : exL ns C ir_idle_of [.sh (dN n), .no] = M.ret (.rt (nD (idleO n))) := by
  refine exL_ret (x_ret (e_f12 (x := .list (nL (idleO n))) ?_ rfl))
  have e : nL (idleO n) = (List.range' 0 n).map fun _ => PyData.none := by
    show (List.replicate n (none : Option Int)).map oD = _
    rw [List.map_replicate, List.map_const', List.length_range']; rfl
  rw [e]
  exact lcA (l := List.range' 0 n) _ (ii_r1 rfl (by omega)) (by rw [List.length_range']; unfold LB; omega) fun x _ => rfl
def ir_step_of : SL := (.cons [] (.ret (.f1 .tuple (.lc [("person", 2)] (.nm 2) (.r2 (.int 1) (.bin .add (.var 0) (.int 1))) (.bl true) (.ite (.cmp .eq (.var 2) (.ix (.var 1) (.int 0))) (.ix (.var 1) (.int 1)) .non))))
  .nil)
theorem step_of_ok {n p q : Nat} (h6 : n ≤ 6) : exL ns C ir_step_of [.sh (dN n), .sh (dT [p, q]), .no] = M.ret (.rt (nD (stepO n p q))) := by
  refine exL_ret (x_ret (e_f12 (x := .list (nL (stepO n p q))) ?_ rfl))
  have e : nL (stepO n p q) = (ones n).map fun k => oD (if k = p then some (q : Int) else none) := by
    show ((ones n).map _).map oD = _
    rw [List.map_map]; rfl
  rw [e]
  refine lcA (l := ones n) _ (ii_r2 (a := 1) (b := n + 1) rfl rfl (by omega) (by omega)) (by rw [ones_len]; unfold LB; omega) fun x _ => ?_
  have t : evT ns C (.cmp .eq (.var 2) (.ix (.var 1) (.int 0))) [.sh (dN n), .sh (dT [p, q]), .sh (dN x)] = M.ret (decide (x = p)) := t_cmp2 (x := dN x) (y := dN p) rfl rfl (eq_N ..)
  refine (e_ite2 (env := [.sh (dN n), .sh (dT [p, q]), .sh (dN x)]) t).trans ?_
  by_cases z : x = p
  · rw [decide_eq_true z, if_pos z]; rfl
  · rw [decide_eq_false z, if_neg z]; rfl
def StepOfOk (C : CT) (f : Nat) : Prop := ∀ n p q, n ≤ 6 → C f [.sh (dN n), .sh (dT [p, q])] = M.ret (nD (stepO n p q))
def IdleOk (C : CT) (f : Nat) : Prop := ∀ n, n ≤ 6 → C f [.sh (dN n)] = M.ret (nD (idleO n))
def namO (f n : Nat) : List (Option Int) → List (Nat × Nat) → Option (List (Option Int))
  | v, [] => some v
  | v, s :: r => match afterO f v (stepO n s.1 s.2) with
    | none => none
    | some w => namO f n w r
def ir_naming_of (a b d : Nat) : SL := (.cons [] (.set 2 (.call a (.cons false (.var 0) .nil)))
  (.cons [] (.fr (.nm 3) (.seq (.var 1)) (.cons [] (.set 2 (.call b (.cons false (.var 2) (.cons false (.call d (.cons false (.var 0) (.cons false (.var 3) .nil))) .nil))))
  .nil))
  (.cons [] (.ret (.var 2))
  .nil)))
theorem naming_run {b d f n : Nat} {R : PyData} (hb : AfterOk C b f) (hd : StepOfOk C d) (h6 : n ≤ 6) : ∀ (row : List (Nat × Nat)) (v w : List (Option Int)) (s3 : Slot), namO f n v row = some w → ∃ s3', frL (fun env x => match bindT env (.nm 3) x with | some env' => exL ns C (.cons [] (.set 2 (.call b (.cons false (.var 2) (.cons false (.call d (.cons false (.var 0) (.cons false (.var 3) .nil))) .nil)))) .nil) env' | none => M.no) [.sh (dN n), .sh R, .sh (nD v), s3] (row.map sD) = M.ret (.nx [.sh (dN n), .sh R, .sh (nD w), s3'])
  | [], v, w, s3, h => by cases h; exact ⟨s3, rfl⟩
  | s :: r, v, w, s3, h => by
    unfold namO at h
    cases e : afterO f v (stepO n s.1 s.2) with
    | none => rw [e] at h; cases h
    | some v2 =>
      rw [e] at h
      obtain ⟨s3', k⟩ := naming_run (R := R) hb hd h6 r v2 w (.sh (sD s)) h
      refine ⟨s3', ?_⟩
      have e1 : exL ns C (.cons [] (.set 2 (.call b (.cons false (.var 2) (.cons false (.call d (.cons false (.var 0) (.cons false (.var 3) .nil))) .nil)))) .nil) [.sh (dN n), .sh R, .sh (nD v), .sh (sD s)] = M.ret (.nx [.sh (dN n), .sh R, .sh (nD v2), .sh (sD s)]) := by
        refine st0 (x_set (d := nD v2) (e_call2 (aa2 rfl (a_hand (fun _ => rfl) (e_call2 (l := [.sh (dN n), .sh (dT [s.1, s.2])]) rfl (hd n s.1 s.2 h6) rfl))) (hb v _ v2 e (by rw [stepO_len]; exact h6)) rfl)) exL_nil
      show M.bd (exL ns C (.cons [] (.set 2 (.call b (.cons false (.var 2) (.cons false (.call d (.cons false (.var 0) (.cons false (.var 3) .nil))) .nil)))) .nil) [.sh (dN n), .sh R, .sh (nD v), .sh (sD s)]) _ = _
      rw [e1, bd_ret]
      exact k
theorem naming_of_ok {a b d f n : Nat} (ha : IdleOk C a) (hb : AfterOk C b f) (hd : StepOfOk C d) (h6 : n ≤ 6) {row : List (Nat × Nat)} {w : List (Option Int)} (h : namO f n (idleO n) row = some w) : exL ns C (ir_naming_of a b d) [.sh (dN n), .sh (rowD row), .no, .no] = M.ret (.rt (nD w)) := by
  obtain ⟨s3, k⟩ := naming_run (ns := ns) (R := rowD row) hb hd h6 row (idleO n) w .no h
  exact st0 (e1 := [.sh (dN n), .sh (rowD row), .sh (nD (idleO n)), .no]) (x_set (e_call2 (l := [.sh (dN n)]) rfl (ha n h6) rfl)) (st0 ((x_fr (t := .nm 3) (l := row.map sD) rfl rfl).trans k) (exL_ret (x_ret rfl)))
def NamOk (C : CT) (g f : Nat) : Prop := ∀ n row w, n ≤ 6 → namO f n (idleO n) row = some w → C g [.sh (dN n), .sh (rowD row)] = M.ret (nD w)
def ir_naming (a b d : Nat) : SL := (.cons [] (.drop (.call a (.cons false (.var 0) .nil)))
  (.cons [] (.drop (.call b (.cons false (.var 0) (.cons false (.var 1) .nil))))
  (.cons [] (.ret (.call d (.cons false (.var 0) (.cons false (.var 1) .nil))))
  .nil)))
theorem naming_ok {a b d f n : Nat} (h1 : 1 ≤ n) (h6 : n ≤ 6) (ha : C a [.sh (dN n)] = M.ret .none) (hb : NeedRowOk C b) (hd : NamOk C d f) {row : List (Nat × Nat)} {w : List (Option Int)} (hr : RowOk n row) (hl : row.length ≤ 40) (h : namO f n (idleO n) row = some w) : exL ns C (ir_naming a b d) [.sh (dN n), .sh (rowD row)] = M.ret (.rt (nD w)) :=
  st0 (x_need (d := .none) (l := [.sh (dN n)]) rfl ha) (st0 (x_need (d := .none) (l := [.sh (dN n), .sh (rowD row)]) rfl (hb n row hr hl)) (exL_ret (x_ret (e_call2 (l := [.sh (dN n), .sh (rowD row)]) rfl (hd n row w h6 h) rfl))))
def ir_step_naming (a b d : Nat) : SL := (.cons [] (.drop (.call a (.cons false (.var 0) .nil)))
  (.cons [] (.ite (.not (.call b (.cons false (.var 0) (.cons false (.var 1) .nil)))) (.cons [] .fail
  .nil) .nil)
  (.cons [] (.ret (.call d (.cons false (.var 0) (.cons false (.var 1) .nil))))
  .nil)))
theorem step_naming_ok {a b d n p q : Nat} (h6 : n ≤ 6) (ha : C a [.sh (dN n)] = M.ret .none) (hb : IsStepOk C b) (hd : StepOfOk C d) (s : StpN n p q) : exL ns C (ir_step_naming a b d) [.sh (dN n), .sh (dT [p, q])] = M.ret (.rt (nD (stepO n p q))) :=
  st0 (x_need (d := .none) (l := [.sh (dN n)]) rfl ha) (st0 (x_guard (t_call2 (l := [.sh (dN n), .sh (dT [p, q])]) rfl (hb n p q s) rfl rfl)) (exL_ret (x_ret (e_call2 (l := [.sh (dN n), .sh (dT [p, q])]) rfl (hd n p q h6) rfl))))
end
end Cd
namespace Cd
open PySem
/-! Namings that can stand. -/
structure Nm (v : List (Option Int)) : Prop where
  one : 1 ≤ v.length
  six : v.length ≤ 6
  rng : ∀ (k : Nat) (x : Int), v[k]? = some (some x) → -(v.length : Int) ≤ x ∧ x ≤ v.length ∧ x ≠ (k : Int) + 1
  mv : ∀ (k : Nat) (x : Int), v[k]? = some (some x) → x < 0 → ∃ y, v[(-x - 1).toNat]? = some (some y)
  ch : ∃ c, Good c ∧ c.length = v.length ∧ ∀ (k : Nat) (x : Int), v[k]? = some (some x) → 0 ≤ x → (up c (k + 1) : Int) = x
theorem flat_good {n : Nat} (h1 : 1 ≤ n) (h6 : n ≤ 6) : Good (List.replicate n 0) := by
  refine good_of (by rw [List.length_replicate]; exact h1) (by rw [List.length_replicate]; exact h6) (fun _ => 0) fun k k1 kl => ?_
  have : up (List.replicate n 0) k = 0 := by
    unfold up
    rw [List.getD_eq_getElem?_getD, List.getElem?_replicate]
    split <;> rfl
  rw [this]
  exact ⟨Nat.zero_le _, fun z => absurd rfl z⟩
theorem stepO_get {n p q k : Nat} {x : Int} (h : (stepO n p q)[k]? = some (some x)) : k + 1 = p ∧ x = q := by
  unfold stepO at h
  rw [List.getElem?_map] at h
  cases hy : (ones n)[k]? with
  | none => rw [hy] at h; cases h
  | some y =>
    rw [hy] at h
    have hy2 : (List.range' 1 n)[k]? = some y := hy
    obtain ⟨h1, h2⟩ := List.getElem?_eq_some_iff.mp hy2
    rw [List.getElem_range'] at h2
    have h3 : (if y = p then some (q : Int) else none) = some x := Option.some.inj h
    by_cases z : y = p
    · rw [if_pos z] at h3
      cases h3
      exact ⟨by omega, rfl⟩
    · rw [if_neg z] at h3; cases h3
theorem stepO_nm {n p q : Nat} (h1 : 1 ≤ n) (h6 : n ≤ 6) (s : StpN n p q) : Nm (stepO n p q) := by
  have fg := flat_good h1 h6
  have fl : (List.replicate n 0).length = n := List.length_replicate
  have p1 := s.p1
  have pn := s.pn
  have qn := s.qn
  have ne := s.ne
  refine ⟨by rw [stepO_len]; exact h1, by rw [stepO_len]; exact h6, fun k x h => ?_, fun k x h z => ?_, stepS (List.replicate n 0) p q, fg.stepS (by rw [fl]; exact s), by rw [stepS_len, fl, stepO_len], fun k x h z => ?_⟩
  · obtain ⟨a, b⟩ := stepO_get h
    rw [stepO_len]
    omega
  · obtain ⟨a, b⟩ := stepO_get h
    omega
  · obtain ⟨a, b⟩ := stepO_get h
    rw [a, stepS_up p1 (by rw [fl]; exact pn) p1, if_pos rfl, b]
section
variable {ns : List Int} {C : CT}
def ir_goes_round : SL := (.cons [] (.fr (.nm 1) (.r2 (.int 1) (.bin .add (.f1 .len (.var 0)) (.int 1))) (.cons [] (.par [2, 3] (.cons false (.ix (.var 0) (.bin .sub (.var 1) (.int 1))) (.cons false (.int 0) .nil)))
  (.cons [] (.wh (.and (.cmp .isNotN (.var 2) .non) (.and (.cmp .gt (.var 2) (.int 0)) (.cmp .le (.var 3) (.f1 .len (.var 0))))) (.cons [] (.par [2, 3] (.cons false (.ix (.var 0) (.bin .sub (.var 2) (.int 1))) (.cons false (.bin .add (.var 3) (.int 1)) .nil)))
  .nil))
  (.cons [] (.ite (.cmp .gt (.var 3) (.f1 .len (.var 0))) (.cons [] (.ret (.bl true))
  .nil) .nil)
  .nil))))
  (.cons [] (.ret (.bl false))
  .nil))
theorem e_lenO {i : Nat} {v : List (Option Int)} {env : List Slot} (h : env[i]? = some (.sh (nD v))) : evE ns C (.f1 .len (.var i)) env = M.ret (dN v.length) := by
  simp only [evE, rd, h, bd_ret, f1D, of_some, nL_len]
theorem i_lenO {env : List Slot} {i : Nat} {v : List (Option Int)} (h : env[i]? = some (.sh (nD v))) (hs : v.length < 90000) : evI ns C (.r2 (.int 1) (.bin .add (.f1 .len (.var i)) (.int 1))) env = M.ret (mN (ones v.length)) := by
  have e1 : evE ns C (.bin .add (.f1 .len (.var i)) (.int 1)) env = M.ret (dN (v.length + 1)) := e_bin2 (x := dN v.length) (y := .int 1) (e_lenO h) rfl rfl
  exact ii_r2 (a := 1) (b := v.length + 1) rfl e1 (by omega) (by omega)
theorem goes_round_ok {v : List (Option Int)} (g : Nm v) : exL ns C ir_goes_round [.sh (nD v), .no, .no, .no] = M.ret (.rt (.bool false)) := by
  obtain ⟨c, gc, cl, hc⟩ := g.ch
  obtain ⟨r, hr⟩ := gc.rk
  have six := g.six
  rw [cl] at hr
  have w0 := frL_inv (f := fun env x => match bindT env (.nm 1) x with | some env' => exL ns C (.cons [] (.par [2, 3] (.cons false (.ix (.var 0) (.bin .sub (.var 1) (.int 1))) (.cons false (.int 0) .nil)))
    (.cons [] (.wh (.and (.cmp .isNotN (.var 2) .non) (.and (.cmp .gt (.var 2) (.int 0)) (.cmp .le (.var 3) (.f1 .len (.var 0))))) (.cons [] (.par [2, 3] (.cons false (.ix (.var 0) (.bin .sub (.var 2) (.int 1))) (.cons false (.bin .add (.var 3) (.int 1)) .nil))) .nil))
    (.cons [] (.ite (.cmp .gt (.var 3) (.f1 .len (.var 0))) (.cons [] (.ret (.bl true)) .nil) .nil) .nil))) env' | none => M.no) (l := mN (ones v.length)) (fun _ env => ∃ s1 s2 s3, env = [.sh (nD v), s1, s2, s3]) (fun i x env hx ⟨s1, s2, s3, he⟩ => by
      subst he
      rw [List.getElem?_map] at hx
      cases hy : (ones v.length)[i]? with
      | none => rw [hy] at hx; cases hx
      | some p =>
        rw [hy] at hx
        cases hx
        obtain ⟨p1, p2⟩ := mem_ones.mp (List.mem_of_getElem? hy)
        have hv : v[p - 1]? = some v[p - 1] := List.getElem?_eq_getElem (by omega)
        have w1 := whL_inv (c := fun env => evT ns C (.and (.cmp .isNotN (.var 2) .non) (.and (.cmp .gt (.var 2) (.int 0)) (.cmp .le (.var 3) (.f1 .len (.var 0))))) env) (f := fun env => exL ns C (.cons [] (.par [2, 3] (.cons false (.ix (.var 0) (.bin .sub (.var 2) (.int 1))) (.cons false (.bin .add (.var 3) (.int 1)) .nil))) .nil) env)
          (fun m env => ∃ (o : Option Int) (k : Nat), env = [.sh (nD v), .sh (dN p), .sh (oD o), .sh (dN k)] ∧ k ≤ v.length ∧ (∀ x : Int, o = some x → 0 < x → x ≤ v.length ∧ r x.toNat + k < v.length ∧ m = r x.toNat + 1)) (fun env => ∃ (o : Option Int) (k : Nat), env = [.sh (nD v), .sh (dN p), .sh (oD o), .sh (dN k)] ∧ k ≤ v.length)
          (fun m env ⟨o, k, he, hk, ho⟩ => by
            subst he
            have t1 : evT ns C (.cmp .isNotN (.var 2) .non) [.sh (nD v), .sh (dN p), .sh (oD o), .sh (dN k)] = M.ret o.isSome := t_isNotN rfl
            cases o with
            | none => exact .inl ⟨(t_and2 (q := false) t1 fun z => by cases z).trans rfl, none, k, rfl, hk⟩
            | some x =>
              have t2 : evT ns C (.cmp .gt (.var 2) (.int 0)) [.sh (nD v), .sh (dN p), .sh (.int x), .sh (dN k)] = M.ret (decide (0 < x)) := t_cmp2 (x := .int x) (y := .int 0) rfl rfl rfl
              have t3 : evT ns C (.cmp .le (.var 3) (.f1 .len (.var 0))) [.sh (nD v), .sh (dN p), .sh (.int x), .sh (dN k)] = M.ret true := by
                refine t_cmp2 (x := dN k) (y := dN v.length) rfl (e_lenO (i := 0) rfl) ?_
                rw [le_I, decide_eq_true (by omega)]
              by_cases z : 0 < x
              · obtain ⟨x1, x2, x3⟩ := ho x rfl z
                have hx2 : v[x.toNat - 1]? = some v[x.toNat - 1] := List.getElem?_eq_getElem (by omega)
                have ex : evE ns C (.bin .sub (.var 2) (.int 1)) [.sh (nD v), .sh (dN p), .sh (.int x), .sh (dN k)] = M.ret (.int ((x.toNat - 1 : Nat) : Int)) := by
                  show M.ret (PyData.int (x - 1)) = _
                  congr 2; omega
                refine .inr ⟨(t_and2 (q := true) t1 fun _ => (t_and2 t2 fun _ => t3).trans (by rw [decide_eq_true z]; rfl)).trans rfl, [.sh (nD v), .sh (dN p), .sh (oD v[x.toNat - 1]), .sh (dN (k + 1))], (match v[x.toNat - 1] with | some y => if 0 < y then r y.toNat + 1 else 0 | none => 0), ?_, ?_, v[x.toNat - 1], k + 1, rfl, by omega, ?_⟩
                · show exL ns C _ [.sh (nD v), .sh (dN p), .sh (.int x), .sh (dN k)] = _
                  exact st0 (x_par (l := [oD v[x.toNat - 1], dN (k + 1)]) (l_one (e_ixO (i := 0) rfl ex hx2) (l_one rfl rfl)) rfl) exL_nil
                · cases hq : v[x.toNat - 1] with
                  | none =>
                    show (0 : Nat) < m
                    omega
                  | some y =>
                    show (if 0 < y then r y.toNat + 1 else 0) < m
                    by_cases zy : 0 < y
                    · rw [if_pos zy]
                      have h1 := hc (x.toNat - 1) y (by rw [hx2, hq]) (by omega)
                      have e9 : x.toNat - 1 + 1 = x.toNat := by omega
                      rw [e9] at h1
                      have h2 := (hr x.toNat (by omega) (by omega)).2.1 (by omega)
                      have e8 : up c x.toNat = y.toNat := by omega
                      rw [e8] at h2; omega
                    · rw [if_neg zy]; omega
                · intro y hy zy
                  have h0 : v[x.toNat - 1]? = some (some y) := by rw [hx2, hy]
                  have h1 := hc (x.toNat - 1) y h0 (by omega)
                  have e9 : x.toNat - 1 + 1 = x.toNat := by omega
                  rw [e9] at h1
                  have h2 := (hr x.toNat (by omega) (by omega)).2.1 (by omega)
                  have e8 : up c x.toNat = y.toNat := by omega
                  rw [e8] at h2
                  refine ⟨(g.rng _ _ h0).2.1, by omega, ?_⟩
                  rw [hy]
                  show (if 0 < y then r y.toNat + 1 else 0) = _
                  rw [if_pos zy]
              · exact .inl ⟨(t_and2 (q := false) t1 fun _ => (t_and2 t2 fun _ => t3).trans (by rw [decide_eq_false z]; rfl)).trans rfl, some x, k, rfl, hk⟩) 100000 (match v[p - 1] with | some y => if 0 < y then r y.toNat + 1 else 0 | none => 0) [.sh (nD v), .sh (dN p), .sh (oD v[p - 1]), .sh (dN 0)] ⟨v[p - 1], 0, rfl, Nat.zero_le _, fun x hx zx => by
            have h0 : v[p - 1]? = some (some x) := by rw [hv, hx]
            have h1 := g.rng _ _ h0
            have h2 := (hr x.toNat (by omega) (by omega)).2.2
            refine ⟨h1.2.1, by omega, ?_⟩
            rw [hx]
            show (if 0 < x then r x.toNat + 1 else 0) = _
            rw [if_pos zx]⟩ (by
            cases hq : v[p - 1] with
            | none => show (0 : Nat) < 100000; omega
            | some y =>
              show (if 0 < y then r y.toNat + 1 else 0) < 100000
              by_cases zy : 0 < y
              · rw [if_pos zy]
                have h1 := g.rng (p - 1) y (by rw [hv, hq])
                have := (hr y.toNat (by omega) (by omega)).2.2
                omega
              · rw [if_neg zy]; omega)
        obtain ⟨e2, k1, o, k, k2, k3⟩ := w1
        subst k2
        refine ⟨[.sh (nD v), .sh (dN p), .sh (oD o), .sh (dN k)], ?_, _, _, _, rfl⟩
        show exL ns C _ [.sh (nD v), .sh (dN p), s2, s3] = _
        refine st0 (e1 := [.sh (nD v), .sh (dN p), .sh (oD v[p - 1]), .sh (dN 0)]) (x_par (l := [oD v[p - 1], .int 0]) (l_one (e_ixO (i := 0) rfl (e_sub1 (i := 1) rfl p1) hv) (l_one rfl rfl)) rfl) (st0 (x_wh.trans k1) (st0 (x_skip (t_cmp2 (x := dN k) (y := dN v.length) rfl (e_lenO (i := 0) rfl) ?_)) exL_nil))
        show some (decide ((v.length : Int) < k)) = _
        rw [decide_eq_false (by omega)]) (env := [.sh (nD v), .no, .no, .no]) ⟨_, _, _, rfl⟩
  obtain ⟨e1, h1, s1, s2, s3, he⟩ := w0
  subst he
  exact st0 ((x_fr (ns := ns) (C := C) (t := .nm 1) (env := [.sh (nD v), .no, .no, .no]) rfl (i_lenO (i := 0) rfl (by omega))).trans h1) (exL_ret (x_ret rfl))
def ir_is_naming (f g : Nat) : SL := (.cons [] (.ite (.or (.not (.isi (.var 0) ["tuple"])) (.not (.chn .le .le (.int 1) (.f1 .len (.var 0)) (.gi "MOST_PEOPLE" 6)))) (.cons [] (.ret (.bl false))
  .nil) .nil)
  (.cons [] (.set 1 (.f1 .len (.var 0)))
  (.cons [] (.fr (.tp [2, 3]) (.enum (.var 0)) (.cons [] (.ite (.and (.cmp .isNotN (.var 3) .non) (.or (.not (.call f (.cons false (.var 3) (.cons false (.bin .sub (.int 0) (.var 1)) (.cons false (.var 1) .nil))))) (.cmp .eq (.var 3) (.bin .add (.var 2) (.int 1))))) (.cons [] (.ret (.bl false))
  .nil) .nil)
  (.cons [] (.ite (.and (.cmp .isNotN (.var 3) .non) (.and (.cmp .lt (.var 3) (.int 0)) (.cmp .isN (.ix (.var 0) (.bin .sub (.bin .sub (.int 0) (.var 3)) (.int 1))) .non))) (.cons [] (.ret (.bl false))
  .nil) .nil)
  .nil)))
  (.cons [] (.ret (.not (.call g (.cons false (.var 0) .nil))))
  .nil))))
theorem t_and0 {a b : E} {env : List Slot} (ha : evT ns C a env = M.ret false) : evT ns C (.and a b) env = M.ret false := (t_and2 (q := false) ha fun z => by cases z).trans rfl
theorem t_chn2 {a b c : E} {env : List Slot} {x y z : PyData} {o p : Cop} {k : Bool} (ha : evE ns C a env = M.ret x) (hb : evE ns C b env = M.ret y) (h1 : cmpD o x y = some true) (hc : evE ns C c env = M.ret z) (h2 : cmpD p y z = some k) : evT ns C (.chn o p a b c) env = M.ret k := by
  simp only [evT, ha, hb, bd_ret, h1, hc, h2, of_some]
theorem is_naming_ok {f q : Nat} (hf : InOk C f) {v : List (Option Int)} (g : Nm v) (hq : C q [.sh (nD v)] = M.ret (.bool false)) : exL ns C (ir_is_naming f q) [.sh (nD v), .no, .no, .no] = M.ret (.rt (.bool true)) := by
  have one := g.one
  have six := g.six
  have t0 : evT ns C (.or (.not (.isi (.var 0) ["tuple"])) (.not (.chn .le .le (.int 1) (.f1 .len (.var 0)) (.gi "MOST_PEOPLE" 6)))) [.sh (nD v), .no, .no, .no] = M.ret false :=
    t_or2 (p := false) (q := false) rfl fun _ => tt_not (b := true) (t_chn2 (x := .int 1) (y := dN v.length) (z := .int 6) rfl (e_lenO (i := 0) rfl) (by rw [le_I, decide_eq_true (by omega)]) rfl (by rw [le_I, decide_eq_true (by omega)]))
  have w := frL_inv (f := fun env x => match bindT env (.tp [2, 3]) x with | some env' => exL ns C (.cons [] (.ite (.and (.cmp .isNotN (.var 3) .non) (.or (.not (.call f (.cons false (.var 3) (.cons false (.bin .sub (.int 0) (.var 1)) (.cons false (.var 1) .nil))))) (.cmp .eq (.var 3) (.bin .add (.var 2) (.int 1))))) (.cons [] (.ret (.bl false)) .nil) .nil) (.cons [] (.ite (.and (.cmp .isNotN (.var 3) .non) (.and (.cmp .lt (.var 3) (.int 0)) (.cmp .isN (.ix (.var 0) (.bin .sub (.bin .sub (.int 0) (.var 3)) (.int 1))) .non))) (.cons [] (.ret (.bl false)) .nil) .nil) .nil)) env' | none => M.no) (l := enumD 0 (nL v))
    (fun _ env => ∃ s2 s3, env = [.sh (nD v), .sh (dN v.length), s2, s3]) (fun i x env hx ⟨s2, s3, he⟩ => by
      subst he
      obtain ⟨z, hz, rfl⟩ := enumD_get _ 0 i x hx
      rw [List.getElem?_map] at hz
      cases hy : v[i]? with
      | none => rw [hy] at hz; cases hz
      | some o =>
        rw [hy] at hz
        cases hz
        have e0 : (0 : Int) + (i : Int) = (i : Int) := by omega
        rw [e0]
        refine ⟨[.sh (nD v), .sh (dN v.length), .sh (dN i), .sh (oD o)], ?_, _, _, rfl⟩
        show exL ns C _ [.sh (nD v), .sh (dN v.length), .sh (dN i), .sh (oD o)] = _
        have t1 : evT ns C (.cmp .isNotN (.var 3) .non) [.sh (nD v), .sh (dN v.length), .sh (dN i), .sh (oD o)] = M.ret o.isSome := t_isNotN rfl
        cases o with
        | none => exact st0 (x_skip (t_and0 t1)) (st0 (x_skip (t_and0 t1)) exL_nil)
        | some x =>
          obtain ⟨r1, r2, r3⟩ := g.rng i x hy
          have a1 : evT ns C (.call f (.cons false (.var 3) (.cons false (.bin .sub (.int 0) (.var 1)) (.cons false (.var 1) .nil)))) [.sh (nD v), .sh (dN v.length), .sh (dN i), .sh (.int x)] = M.ret true := by
            refine t_call2 (d := .bool true) (l := [.sh (.int x), .sh (.int (0 - (v.length : Int))), .sh (dN v.length)]) rfl ?_ rfl rfl
            rw [hf, decide_eq_true (by omega)]
          have a2 : evT ns C (.cmp .eq (.var 3) (.bin .add (.var 2) (.int 1))) [.sh (nD v), .sh (dN v.length), .sh (dN i), .sh (.int x)] = M.ret false := by
            refine t_cmp2 (x := .int x) (y := .int ((i : Int) + 1)) rfl rfl ?_
            rw [cmp_eq, decide_eq_false r3]
          have b1 : evT ns C (.cmp .lt (.var 3) (.int 0)) [.sh (nD v), .sh (dN v.length), .sh (dN i), .sh (.int x)] = M.ret (decide (x < 0)) := t_cmp2 (x := .int x) (y := .int 0) rfl rfl rfl
          refine st0 (x_skip ((t_and2 t1 fun _ => t_or2 (p := false) (q := false) (tt_not a1) fun _ => a2).trans rfl)) (st0 (x_skip ((t_and2 (q := false) t1 fun _ => ?_).trans rfl)) exL_nil)
          by_cases z : x < 0
          · obtain ⟨y, hy2⟩ := g.mv i x hy z
            have ex : evE ns C (.bin .sub (.bin .sub (.int 0) (.var 3)) (.int 1)) [.sh (nD v), .sh (dN v.length), .sh (dN i), .sh (.int x)] = M.ret (.int (((-x - 1).toNat : Nat) : Int)) := by
              show M.ret (PyData.int (0 - x - 1)) = _
              congr 2; omega
            have b2 : evT ns C (.cmp .isN (.ix (.var 0) (.bin .sub (.bin .sub (.int 0) (.var 3)) (.int 1))) .non) [.sh (nD v), .sh (dN v.length), .sh (dN i), .sh (.int x)] = M.ret false := t_isN (a := .ix (.var 0) (.bin .sub (.bin .sub (.int 0) (.var 3)) (.int 1))) (e_ixO (i := 0) rfl ex hy2)
            exact (t_and2 b1 fun _ => b2).trans (by rw [Bool.and_false])
          · rw [decide_eq_false z] at b1
            exact t_and0 b1) (env := [.sh (nD v), .sh (dN v.length), .no, .no]) ⟨_, _, rfl⟩
  obtain ⟨e, k1, s2, s3, he⟩ := w
  subst he
  refine st0 (x_skip t0) (st0 (e1 := [.sh (nD v), .sh (dN v.length), .no, .no]) (x_set (e_lenO (i := 0) rfl)) (st0 ((x_fr (l := enumD 0 (nL v)) rfl rfl).trans k1) (exL_ret (x_ret ?_))))
  have e9 : evE ns C (.call q (.cons false (.var 0) .nil)) [.sh (nD v), .sh (dN v.length), s2, s3] = M.ret (.bool false) := e_call2 (l := [.sh (nD v)]) rfl hq rfl
  show evE ns C (.not (.call q (.cons false (.var 0) .nil))) [.sh (nD v), .sh (dN v.length), s2, s3] = _
  have e8 : evE ns C (.not (.call q (.cons false (.var 0) .nil))) [.sh (nD v), .sh (dN v.length), s2, s3] = M.bd (evE ns C (.call q (.cons false (.var 0) .nil)) [.sh (nD v), .sh (dN v.length), s2, s3]) fun x => match truthD x with | some b => M.ret (.bool !b) | none => M.no := by simp only [evE] <;> rfl
  rw [e8, e9]; rfl
def IsNmOk (C : CT) (f : Nat) : Prop := ∀ v, Nm v → C f [.sh (nD v)] = M.ret (.bool true)
def ir_need_naming (f : Nat) : SL := (.cons [] (.ite (.not (.call f (.cons false (.var 0) .nil))) (.cons [] .fail
  .nil) .nil)
  .nil)
theorem need_naming_ok {f : Nat} (hf : IsNmOk C f) {v : List (Option Int)} (g : Nm v) : exL ns C (ir_need_naming f) [.sh (nD v)] = M.ret (.nx [.sh (nD v)]) :=
  st0 (x_guard (t_call2 (l := [.sh (nD v)]) rfl (hf v g) rfl rfl)) exL_nil
def NeedNmOk (C : CT) (f : Nat) : Prop := ∀ v, Nm v → C f [.sh (nD v)] = M.ret .none
def ir_need_two (f g : Nat) : SL := (.cons [] (.drop (.call f (.cons false (.var 0) .nil)))
  (.cons [] (.ite (.or (.not (.call g (.cons false (.var 1) .nil))) (.cmp .ne (.f1 .len (.var 1)) (.f1 .len (.var 0)))) (.cons [] .fail
  .nil) .nil)
  .nil))
theorem need_two_ok {f q : Nat} (hf : NeedNmOk C f) (hq : IsNmOk C q) {v w : List (Option Int)} (g : Nm v) (h : Nm w) (e : w.length = v.length) : exL ns C (ir_need_two f q) [.sh (nD v), .sh (nD w)] = M.ret (.nx [.sh (nD v), .sh (nD w)]) := by
  refine st0 (x_need (d := .none) (l := [.sh (nD v)]) rfl (hf v g)) (st0 (x_skip (t_or2 (p := false) (q := false) (tt_not (b := true) (t_call2 (l := [.sh (nD w)]) rfl (hq w h) rfl rfl)) fun _ => ?_)) exL_nil)
  have := t_cmp2 (ns := ns) (C := C) (o := .ne) (a := .f1 .len (.var 1)) (b := .f1 .len (.var 0)) (env := [.sh (nD v), .sh (nD w)]) (x := dN w.length) (y := dN v.length) (e_lenO (i := 1) rfl) (e_lenO (i := 0) rfl) (ne_N ..)
  rwa [decide_eq_true e] at this
def NeedTwoOk (C : CT) (f : Nat) : Prop := ∀ v w, Nm v → Nm w → w.length = v.length → C f [.sh (nD v), .sh (nD w)] = M.ret .none
def ir_after (f g : Nat) : SL := (.cons [] (.drop (.call f (.cons false (.var 0) (.cons false (.var 1) .nil))))
  (.cons [] (.ret (.call g (.cons false (.var 0) (.cons false (.var 1) .nil))))
  .nil))
theorem after_ok {a b f : Nat} (ha : NeedTwoOk C a) (hb : AfterOk C b f) {v w r : List (Option Int)} (g : Nm v) (h : Nm w) (e : w.length = v.length) (hr : afterO f v w = some r) : exL ns C (ir_after a b) [.sh (nD v), .sh (nD w)] = M.ret (.rt (nD r)) :=
  st0 (x_need (d := .none) (l := [.sh (nD v), .sh (nD w)]) rfl (ha v w g h e)) (exL_ret (x_ret (e_call2 (l := [.sh (nD v), .sh (nD w)]) rfl (hb v w r hr h.six) rfl)))
end
end Cd
namespace Cd
open PySem
/-! Namings compared; steps that change places. -/
theorem canLayO : ∀ v : List (Option Int), PyData.canLayAll0 (nL v) = true ∧ PyData.depthAll (nL v) = 0
  | [] => ⟨by simp [PyData.canLayAll0], by simp [PyData.depthAll]⟩
  | o :: r => by
    have ih := canLayO r
    constructor
    · show PyData.canLayAll0 (oD o :: nL r) = true
      cases o <;> simp [oD, PyData.canLayAll0, PyData.canLay0, ih.1]
    · show PyData.depthAll (oD o :: nL r) = 0
      cases o <;> simp [oD, PyData.depthAll, PyData.depth, ih.2]
theorem okD_O (v : List (Option Int)) : okD (nD v) = true := by
  unfold okD SeqAt.shaped
  have := canLayO v
  simp [PyData.canLay0, PyData.depth, this.1, this.2]
theorem eqv_o (a b : Option Int) : PyData.eqv (oD a) (oD b) = decide (a = b) := by
  cases a <;> cases b
  · simp [oD, PyData.eqv]
  · simp [oD, PyData.eqv]
  · simp [oD, PyData.eqv]
  · show PyData.eqv (.int _) (.int _) = _
    rw [eqv_int]; simp
theorem eqvO : ∀ v w : List (Option Int), PyData.eqvAll (nL v) (nL w) = decide (v = w)
  | [], [] => by simp [PyData.eqvAll]
  | [], b :: m => by simp [PyData.eqvAll]
  | a :: l, [] => by simp [PyData.eqvAll]
  | a :: l, b :: m => by
    show PyData.eqvAll (oD a :: nL l) (oD b :: nL m) = _
    rw [PyData.eqvAll, eqvO l m, eqv_o]
    by_cases h : a = b
    · subst h; simp
    · simp [h]
theorem eq_O (v w : List (Option Int)) : cmpD .eq (nD v) (nD w) = some (decide (v = w)) := by
  show (if okD (nD v) && okD (nD w) then some (PyData.eqv (nD v) (nD w)) else none) = _
  rw [okD_O, okD_O, PyData.eqv, eqvO]; rfl
theorem ne_O (v w : List (Option Int)) : cmpD .ne (nD v) (nD w) = some (!decide (v = w)) := by
  show (if okD (nD v) && okD (nD w) then some (!PyData.eqv (nD v) (nD w)) else none) = _
  rw [okD_O, okD_O, PyData.eqv, eqvO]; rfl
theorem ne_B (a b : Bool) : cmpD .ne (.bool a) (.bool b) = some (a != b) := by cases a <;> cases b <;> decide
theorem ext_up {c d : List Nat} (hl : d.length = c.length) (h : ∀ k, 1 ≤ k → k ≤ c.length → up c k = up d k) : c = d := by
  refine List.ext_getElem? fun i => ?_
  by_cases hi : i < c.length
  · have h1 := up_get (c := c) (k := i + 1) (by omega) (by omega)
    have h2 := up_get (c := d) (k := i + 1) (by omega) (by omega)
    rw [Nat.add_sub_cancel] at h1 h2
    rw [h1, h2, h (i + 1) (by omega) (by omega)]
  · rw [List.getElem?_eq_none (by omega), List.getElem?_eq_none (by omega)]
theorem step_comm {c : List Nat} (g : Good c) {p q p' q' : Nat} (s : StpN c.length p q) (t : StpN c.length p' q') (h1 : p ≠ p') (h2 : q ≠ p') (h3 : q' ≠ p) : stepS (stepS c p q) p' q' = stepS (stepS c p' q') p q := by
  have p1 := s.p1
  have pn := s.pn
  have p1' := t.p1
  have pn' := t.pn
  obtain ⟨r, hr⟩ := g.rk
  have c1 : up c p = p' → up c p' ≠ p := fun e e2 => by
    have a := (hr p p1 pn).2.1 (by omega)
    have b := (hr p' p1' pn').2.1 (by omega)
    rw [e] at a
    rw [e2] at b
    omega
  refine ext_up (by simp [stepS_len]) fun k k1 kl => ?_
  rw [stepS_len, stepS_len] at kl
  rw [stepS_up (c := stepS c p q) (p := p') (q := q') k1 (by rw [stepS_len]; exact kl) p1', stepS_up (c := stepS c p' q') (p := p) (q := q) k1 (by rw [stepS_len]; exact kl) p1, stepS_up (c := c) (p := p) (q := q) k1 kl p1, stepS_up (c := c) (p := p) (q := q) p1' pn' p1, stepS_up (c := c) (p := p') (q := q') k1 kl p1', stepS_up (c := c) (p := p') (q := q') p1 pn p1']
  by_cases a1 : k = p
  · subst a1
    simp [h1, h2, s.ne]
  · by_cases a2 : k = p'
    · subst a2
      simp [a1, h3]
    · by_cases a3 : up c k = p
      · by_cases a4 : up c p = p'
        · have := c1 a4
          simp [a1, a2, a3, a4, h1, Ne.symm h1, this]
        · simp [a1, a2, a3, a4, h1, Ne.symm h1]
      · by_cases a5 : up c k = p'
        · by_cases a6 : up c p' = p
          · have : up c p ≠ p' := fun e => c1 e a6
            simp [a1, a2, a3, a5, a6, h1, Ne.symm h1, this]
          · simp [a1, a2, a3, a5, a6, h1, Ne.symm h1]
        · simp [a1, a2, a3, a5]
section
variable {ns : List Int} {C : CT}
theorem e_or2 {a b : E} {env : List Slot} {p q : Bool} (ha : evE ns C a env = M.ret (.bool p)) (hb : p = false → evE ns C b env = M.ret (.bool q)) : evE ns C (.or a b) env = M.ret (.bool (p || q)) := by
  have e : evE ns C (.or a b) env = M.bd (evE ns C a env) fun x => (match truthD x with | some true => M.ret x | some false => evE ns C b env | none => M.no) := by simp only [evE] <;> rfl
  rw [e, ha, bd_ret]
  cases p with
  | true => rfl
  | false => rw [Bool.false_or]; exact hb rfl
end
end Cd
namespace Cd
open PySem
/-! Charts counted by ends, heights, levels. -/
def chS (w : Nat) : Nat → Nat
  | 0 => 1
  | k + 1 => chS w k * (w - k) / (k + 1)
def partR (n : Nat) : Nat → List Nat
  | 0 => 1 :: List.replicate n 0
  | t + 1 => 0 :: (ones n).map fun k => (partR n t).getD (k - 1) 0 + k * (partR n t).getD k 0
def endsF (n m : Nat) : Nat := (List.range' m (n - m)).foldl (fun a k => a * (k + 1)) ((partR n n).getD (n - m + 1) 0)
def trF (n : Nat) (l : List Nat) : List Nat := (List.range' 0 (n + 1)).map fun m => if m = 0 then 0 else m * l.getD (m - 1) 0
def totF (tr l : List Nat) (j : Nat) : Nat := ((ones (j + 1)).map fun f => chS j (f - 1) * tr.getD f 0 * l.getD (j + 1 - f) 0).sum
def latF (tr : List Nat) : Nat → List Nat
  | 0 => [1]
  | j + 1 => latF tr j ++ [totF tr (latF tr j) j]
def hF (n : Nat) : Nat → List Nat
  | 0 => List.replicate (n + 1) 1
  | L + 1 => latF (trF n (hF n L)) n
def lvW (n : Nat) : Nat → Nat
  | 0 => 1
  | k + 1 => lvW n k * (n - k)
def lvF (n l : Nat) : Nat := if n ≤ l then 0 else if n - l - 1 = 0 then lvW n (l + 1) else lvW n (l + 1) * (l + 2) * (n + 1) ^ (n - l - 1 - 1)
def hdF (n m : Nat) : Nat := if m = n then 1 else chS (n - 1) (m - 1) * n ^ (n - m)
abbrev Sm (x : Nat) : Prop := x < 2 ^ 1000
theorem chS_le (w : Nat) : ∀ k, chS w k ≤ w ^ k
  | 0 => Nat.le_refl _
  | k + 1 => by
    unfold chS
    refine Nat.le_trans (Nat.div_le_self _ _) ?_
    rw [Nat.pow_succ]
    exact Nat.mul_le_mul (chS_le w k) (Nat.sub_le _ _)
theorem pow_sm {b k : Nat} (hb : b ≤ 101) (hk : k ≤ 100) : b ^ k < 2 ^ 700 := by
  have a1 : b ^ k ≤ 101 ^ k := Nat.pow_le_pow_left hb k
  have a2 : 101 ^ k ≤ 101 ^ 100 := Nat.pow_le_pow_right (by omega) hk
  have a3 : 101 ^ 100 < 2 ^ 700 := by decide +kernel
  omega
theorem chS_sm {w k : Nat} (hw : w ≤ 101) (hk : k ≤ 100) : chS w k < 2 ^ 700 := Nat.lt_of_le_of_lt (chS_le w k) (pow_sm hw hk)
theorem mul_lt {a b x y : Nat} (ha : a < 2 ^ x) (hb : b < 2 ^ y) : a * b < 2 ^ (x + y) := by
  rw [Nat.pow_add]
  exact Nat.mul_lt_mul'' ha hb
theorem up4 {a x : Nat} (h : a < 2 ^ x) (hx : x ≤ 4000) : a < 2 ^ 4000 := Nat.lt_of_lt_of_le h (Nat.pow_le_pow_right (by omega) hx)
theorem sm4 {a : Nat} (h : a ≤ 1000) : a < 2 ^ 10 := by omega
section
variable {ns : List Int} {C : CT}
theorem e_subN {a b : E} {env : List Slot} {x y : Nat} (ha : rd env a (evE ns C a env) = M.ret (dN x)) (hb : rd env b (evE ns C b env) = M.ret (dN y)) (h : y ≤ x) : evE ns C (.bin .sub a b) env = M.ret (dN (x - y)) := by
  refine e_bin2 ha hb ?_
  show some (PyData.int ((x : Int) - y)) = some (PyData.int ((x - y : Nat) : Int))
  congr 2; omega
theorem e_mulN {a b : E} {env : List Slot} {x y : Nat} (ha : rd env a (evE ns C a env) = M.ret (dN x)) (hb : rd env b (evE ns C b env) = M.ret (dN y)) (hx : x < 2 ^ 4000) (hy : y < 2 ^ 4000) : evE ns C (.bin .mul a b) env = M.ret (dN (x * y)) := e_bin2 ha hb (mul_N hx hy)
theorem e_addN {a b : E} {env : List Slot} {x y : Nat} (ha : rd env a (evE ns C a env) = M.ret (dN x)) (hb : rd env b (evE ns C b env) = M.ret (dN y)) : evE ns C (.bin .add a b) env = M.ret (dN (x + y)) := e_bin2 ha hb rfl
theorem e_divN {a b : E} {env : List Slot} {x y : Nat} (ha : rd env a (evE ns C a env) = M.ret (dN x)) (hb : rd env b (evE ns C b env) = M.ret (dN y)) (h0 : 0 < y) (hy : y < 2 ^ 4000) : evE ns C (.bin .fdiv a b) env = M.ret (dN (x / y)) := by
  refine e_bin2 ha hb ?_
  show (if 0 < (y : Int) ∧ big (y : Int) = true then some (PyData.int ((x : Int) / y)) else none) = _
  rw [if_pos ⟨by omega, bigN hy⟩]
  show some (PyData.int ((x : Int) / y)) = some (PyData.int ((x / y : Nat) : Int))
  rw [Int.natCast_ediv]
theorem e_ixW {i k x : Nat} {l : List Nat} {env : List Slot} {e : E} (hi : env[i]? = some (.ow (mN l)) ∨ env[i]? = some (.sh (.list (mN l)))) (he : evE ns C e env = M.ret (dN k)) (hk : l[k]? = some x) : evE ns C (.ix (.var i) e) env = M.ret (dN x) := by
  have : ixD (mN l) (k : Int) = some (dN x) := ixD_nat (by rw [List.getElem?_map, hk]; rfl)
  rcases hi with hi | hi <;> simp only [evE, rd, hi, bd_ret, he, elemsD, this, of_some]
theorem getD_of {l : List Nat} {k : Nat} (h : k < l.length) : l[k]? = some (l.getD k 0) := by rw [List.getD_eq_getElem?_getD, List.getElem?_eq_getElem h]; rfl
theorem getD_mem {l : List Nat} {k : Nat} (h : k < l.length) : l.getD k 0 ∈ l := List.mem_of_getElem? (getD_of h)
theorem getD_sm {l : List Nat} {x : Nat} (k : Nat) (h : ∀ y ∈ l, y < 2 ^ x) : l.getD k 0 < 2 ^ x := by
  by_cases z : k < l.length
  · exact h _ (getD_mem z)
  · rw [List.getD_eq_getElem?_getD, List.getElem?_eq_none (by omega)]
    exact Nat.two_pow_pos x
def ir_choices : SL := (.cons [] (.set 2 (.int 1))
  (.cons [] (.fr (.nm 3) (.r1 (.var 1)) (.cons [] (.set 2 (.bin .fdiv (.bin .mul (.var 2) (.bin .sub (.var 0) (.var 3))) (.bin .add (.var 3) (.int 1))))
  .nil))
  (.cons [] (.ret (.var 2))
  .nil)))
theorem choices_ok {w p : Nat} (h : p ≤ w) (hw : w ≤ 100) : exL ns C ir_choices [.sh (dN w), .sh (dN p), .no, .no] = M.ret (.rt (dN (chS w p))) := by
  have k := frL_inv (f := fun env d => match bindT env (.nm 3) d with | some env' => exL ns C (.cons [] (.set 2 (.bin .fdiv (.bin .mul (.var 2) (.bin .sub (.var 0) (.var 3))) (.bin .add (.var 3) (.int 1)))) .nil) env' | none => M.no) (l := mN (List.range' 0 p))
    (fun i env => ∃ s, env = [.sh (dN w), .sh (dN p), .sh (dN (chS w i)), s]) (fun i d env hx ⟨s, hE⟩ => by
      subst hE
      obtain ⟨hi, rfl⟩ := rngN_at hx
      refine ⟨[.sh (dN w), .sh (dN p), .sh (dN (chS w (i + 1))), .sh (dN i)], ?_, _, rfl⟩
      show exL ns C _ [.sh (dN w), .sh (dN p), .sh (dN (chS w i)), .sh (dN i)] = _
      have e1 : evE ns C (.bin .sub (.var 0) (.var 3)) [.sh (dN w), .sh (dN p), .sh (dN (chS w i)), .sh (dN i)] = M.ret (dN (w - i)) := e_subN (x := w) (y := i) rfl rfl (by omega)
      have e2 : evE ns C (.bin .mul (.var 2) (.bin .sub (.var 0) (.var 3))) [.sh (dN w), .sh (dN p), .sh (dN (chS w i)), .sh (dN i)] = M.ret (dN (chS w i * (w - i))) := e_mulN (x := chS w i) rfl e1 (up4 (chS_sm (by omega) (by omega)) (by omega)) (up4 (sm4 (by omega)) (by omega))
      exact st0 (e1 := [.sh (dN w), .sh (dN p), .sh (dN (chS w (i + 1))), .sh (dN i)]) (x_set (e_divN (x := chS w i * (w - i)) (y := i + 1) e2 rfl (by omega) (up4 (sm4 (by omega)) (by omega)))) exL_nil) (env := [.sh (dN w), .sh (dN p), .sh (dN (chS w 0)), .no]) ⟨_, rfl⟩
  obtain ⟨e, h1, s, hE⟩ := k
  subst hE
  rw [lenN, List.length_range'] at h1
  exact st0 (e1 := [.sh (dN w), .sh (dN p), .sh (dN (chS w 0)), .no]) rfl (st0 ((x_fr (t := .nm 3) (l := mN (List.range' 0 p)) (env := [.sh (dN w), .sh (dN p), .sh (dN (chS w 0)), .no]) rfl (ii_r1 rfl (by omega))).trans h1) (exL_ret (x_ret rfl)))
def ChOk (C : CT) (f : Nat) : Prop := ∀ w p, p ≤ w → w ≤ 100 → C f [.sh (dN w), .sh (dN p)] = M.ret (dN (chS w p))
theorem partR_len (n : Nat) : ∀ t, (partR n t).length = n + 1
  | 0 => by simp [partR]
  | t + 1 => by simp [partR, ones_len]
def ir_parted : SL := (.cons [] (.set 2 (.bin .add (.lst (.cons false (.int 1) .nil)) (.lc [("k", 4)] (.nm 4) (.r1 (.var 0)) (.bl true) (.int 0))))
  (.cons [] (.fr (.nm 3) (.r1 (.var 0)) (.cons [] (.set 2 (.bin .add (.lst (.cons false (.int 0) .nil)) (.lc [("k", 4)] (.nm 4) (.r2 (.int 1) (.bin .add (.var 0) (.int 1))) (.bl true) (.bin .add (.ix (.var 2) (.bin .sub (.var 4) (.int 1))) (.bin .mul (.var 4) (.ix (.var 2) (.var 4)))))))
  .nil))
  (.cons [] (.ret (.ix (.var 2) (.var 1)))
  .nil)))
theorem parted_ok {n m : Nat} (hn : n ≤ 60) (hm : m ≤ n) (hp : ∀ t, t ≤ n → ∀ x ∈ partR n t, Sm x) : exL ns C ir_parted [.sh (dN n), .sh (dN m), .no, .no, .no] = M.ret (.rt (dN ((partR n n).getD m 0))) := by
  have k := frL_inv (f := fun env d => match bindT env (.nm 3) d with | some env' => exL ns C (.cons [] (.set 2 (.bin .add (.lst (.cons false (.int 0) .nil)) (.lc [("k", 4)] (.nm 4) (.r2 (.int 1) (.bin .add (.var 0) (.int 1))) (.bl true) (.bin .add (.ix (.var 2) (.bin .sub (.var 4) (.int 1))) (.bin .mul (.var 4) (.ix (.var 2) (.var 4))))))) .nil) env' | none => M.no) (l := mN (List.range' 0 n))
    (fun i env => ∃ s, env = [.sh (dN n), .sh (dN m), .ow (mN (partR n i)), s, .no]) (fun i d env hx ⟨s, hE⟩ => by
      subst hE
      obtain ⟨hi, rfl⟩ := rngN_at hx
      have len := partR_len n i
      have e9 : mN (partR n (i + 1)) = [dN 0] ++ (ones n).map fun k => dN ((partR n i).getD (k - 1) 0 + k * (partR n i).getD k 0) := by
        rw [map_mN]; rfl
      refine ⟨[.sh (dN n), .sh (dN m), .ow (mN (partR n (i + 1))), .sh (dN i), .no], ?_, _, rfl⟩
      show exL ns C _ [.sh (dN n), .sh (dN m), .ow (mN (partR n i)), .sh (dN i), .no] = _
      have lc := lcA (ns := ns) (C := C) (own := [("k", 4)]) (i := 4) (it := .r2 (.int 1) (.bin .add (.var 0) (.int 1))) (e := .bin .add (.ix (.var 2) (.bin .sub (.var 4) (.int 1))) (.bin .mul (.var 4) (.ix (.var 2) (.var 4)))) (env := [.sh (dN n), .sh (dN m), .ow (mN (partR n i)), .sh (dN i), .no]) (l := ones n) (fun k => dN ((partR n i).getD (k - 1) 0 + k * (partR n i).getD k 0)) (ii_r2 (a := 1) (b := n + 1) rfl rfl (by omega) (by omega)) (by rw [ones_len]; unfold LB; omega) (fun k hk => by
        obtain ⟨k1, k2⟩ := mem_ones.mp hk
        have a1 : evE ns C (.ix (.var 2) (.bin .sub (.var 4) (.int 1))) [.sh (dN n), .sh (dN m), .ow (mN (partR n i)), .sh (dN i), .sh (dN k)] = M.ret (dN ((partR n i).getD (k - 1) 0)) := e_ixW (i := 2) (.inl rfl) (e_subN (x := k) (y := 1) rfl rfl k1) (getD_of (by omega))
        have a2 : evE ns C (.ix (.var 2) (.var 4)) [.sh (dN n), .sh (dN m), .ow (mN (partR n i)), .sh (dN i), .sh (dN k)] = M.ret (dN ((partR n i).getD k 0)) := e_ixW (i := 2) (.inl rfl) rfl (getD_of (by omega))
        exact e_addN (x := (partR n i).getD (k - 1) 0) (y := k * (partR n i).getD k 0) a1 (e_mulN (x := k) (y := (partR n i).getD k 0) rfl a2 (up4 (sm4 (by omega)) (by omega)) (up4 (getD_sm k (hp i (by omega))) (by omega))))
      exact st0 (e1 := [.sh (dN n), .sh (dN m), .ow (mN (partR n (i + 1))), .sh (dN i), .no]) (x_set (d := .list (mN (partR n (i + 1)))) (e_bin2 (x := .list [dN 0]) rfl lc ((bin_addL (by rw [List.length_map, ones_len]; simp; unfold LB; omega)).trans (by rw [e9])))) exL_nil) (env := [.sh (dN n), .sh (dN m), .ow (mN (partR n 0)), .no, .no]) ⟨_, rfl⟩
  obtain ⟨e, h1, s, hE⟩ := k
  subst hE
  rw [lenN, List.length_range'] at h1
  have lc0 := lcA (ns := ns) (C := C) (own := [("k", 4)]) (i := 4) (it := .r1 (.var 0)) (e := .int 0) (env := [.sh (dN n), .sh (dN m), .no, .no, .no]) (l := List.range' 0 n) (fun _ => dN 0) (ii_r1 rfl (by omega)) (by rw [List.length_range']; unfold LB; omega) (fun k hk => rfl)
  have e8 : mN (partR n 0) = [dN 1] ++ (List.range' 0 n).map fun _ => dN 0 := by
    rw [List.map_const', List.length_range']
    show dN 1 :: mN (List.replicate n 0) = _
    unfold mN
    rw [List.map_replicate]; rfl
  refine st0 (e1 := [.sh (dN n), .sh (dN m), .ow (mN (partR n 0)), .no, .no]) (x_set (d := .list (mN (partR n 0))) (e_bin2 (x := .list [dN 1]) rfl lc0 ((bin_addL (by rw [List.length_map, List.length_range']; simp; unfold LB; omega)).trans (by rw [e8])))) (st0 ((x_fr (t := .nm 3) (l := mN (List.range' 0 n)) (env := [.sh (dN n), .sh (dN m), .ow (mN (partR n 0)), .no, .no]) rfl (ii_r1 rfl (by omega))).trans h1) (exL_ret (x_ret (e_ixW (i := 2) (.inl rfl) rfl (getD_of (by rw [partR_len]; omega))))))
def PartHyp (n : Nat) : Prop := ∀ t, t ≤ n → ∀ x ∈ partR n t, Sm x
def PartOk (C : CT) (f : Nat) : Prop := ∀ n m, n ≤ 60 → m ≤ n → PartHyp n → C f [.sh (dN n), .sh (dN m)] = M.ret (dN ((partR n n).getD m 0))
def ir_need_range (f : Nat) : SL := (.cons [] (.ite (.not (.call f (.cons false (.var 0) (.cons false (.var 1) (.cons false (.var 2) .nil))))) (.cons [] .fail
  .nil) .nil)
  .nil)
theorem need_range_ok {f v a b : Nat} (hf : InOk C f) (h1 : a ≤ v) (h2 : v ≤ b) : exL ns C (ir_need_range f) [.sh (dN v), .sh (dN a), .sh (dN b)] = M.ret (.nx [.sh (dN v), .sh (dN a), .sh (dN b)]) :=
  st0 (x_guard (t_in (v := v) (a := a) (b := b) hf rfl h1 h2)) exL_nil
def RangeOk (C : CT) (f : Nat) : Prop := ∀ v a b : Nat, a ≤ v → v ≤ b → C f [.sh (dN v), .sh (dN a), .sh (dN b)] = M.ret .none
def ir_ends_count (x : Str) (f g : Nat) : SL := (.cons [] (.drop (.call f (.cons false (.var 0) (.cons false (.int 1) (.cons false (.gi x 60) .nil)))))
  (.cons [] (.drop (.call f (.cons false (.var 1) (.cons false (.int 1) (.cons false (.var 0) .nil)))))
  (.cons [] (.set 2 (.call g (.cons false (.var 0) (.cons false (.bin .add (.bin .sub (.var 0) (.var 1)) (.int 1)) .nil))))
  (.cons [] (.fr (.nm 3) (.r2 (.var 1) (.var 0)) (.cons [] (.set 2 (.bin .mul (.var 2) (.bin .add (.var 3) (.int 1))))
  .nil))
  (.cons [2] (.ret (.var 2))
  .nil)))))
theorem rngA_at {a n i : Nat} {x : PyData} (h : (mN (List.range' a n))[i]? = some x) : i < n ∧ x = dN (a + i) := by
  rw [List.getElem?_map] at h
  cases hy : (List.range' a n)[i]? with
  | none => rw [hy] at h; cases h
  | some y =>
    rw [hy] at h
    cases h
    obtain ⟨h1, h2⟩ := List.getElem?_eq_some_iff.mp hy
    rw [List.getElem_range'] at h2
    rw [List.length_range'] at h1
    exact ⟨h1, by rw [← h2]; simp⟩
theorem fold_take {α : Type} (f : α → Nat → α) (a b n i : Nat) (x : α) (h : i < n) : ((List.range' a n).take (i + 1)).foldl f x = f (((List.range' a n).take i).foldl f x) (a + i) := by
  have hy : (List.range' a n)[i]? = some (a + i) := by rw [List.getElem?_eq_getElem (by rw [List.length_range']; exact h), List.getElem_range']; simp
  rw [List.take_succ, hy, List.foldl_append]; rfl
theorem ends_count_ok {x : Str} {f g n m : Nat} (hf : RangeOk C f) (hg : PartOk C g) (m1 : 1 ≤ m) (mn : m ≤ n) (hn : n ≤ 60) (hp : PartHyp n) : exL ns C (ir_ends_count x f g) [.sh (dN n), .sh (dN m), .no, .no] = M.ret (.rt (dN (endsF n m))) := by
  have bnd : ∀ i, i ≤ n - m → ((List.range' m (n - m)).take i).foldl (fun a k => a * (k + 1)) ((partR n n).getD (n - m + 1) 0) < 2 ^ (1000 + 10 * i) := by
    intro i
    induction i with
    | zero => exact fun _ => getD_sm _ (hp n (Nat.le_refl _))
    | succ i ih =>
      intro hi
      rw [fold_take (b := 0) _ _ _ _ _ (by omega)]
      have e : 1000 + 10 * (i + 1) = 1000 + 10 * i + 10 := by omega
      rw [e]
      exact mul_lt (ih (by omega)) (sm4 (by omega))
  have k := frL_inv (f := fun env d => match bindT env (.nm 3) d with | some env' => exL ns C (.cons [] (.set 2 (.bin .mul (.var 2) (.bin .add (.var 3) (.int 1)))) .nil) env' | none => M.no) (l := mN (List.range' m (n - m)))
    (fun i env => ∃ s, env = [.sh (dN n), .sh (dN m), .sh (dN (((List.range' m (n - m)).take i).foldl (fun a k => a * (k + 1)) ((partR n n).getD (n - m + 1) 0))), s]) (fun i d env hx ⟨s, hE⟩ => by
      subst hE
      obtain ⟨hi, rfl⟩ := rngA_at hx
      rw [fold_take (b := 0) _ _ _ _ _ hi]
      have b1 := bnd i (by omega)
      generalize ((List.range' m (n - m)).take i).foldl (fun a k => a * (k + 1)) ((partR n n).getD (n - m + 1) 0) = y at b1
      refine ⟨[.sh (dN n), .sh (dN m), .sh (dN (y * (m + i + 1))), .sh (dN (m + i))], ?_, _, rfl⟩
      show exL ns C _ [.sh (dN n), .sh (dN m), .sh (dN y), .sh (dN (m + i))] = _
      exact st0 (e1 := [.sh (dN n), .sh (dN m), .sh (dN (y * (m + i + 1))), .sh (dN (m + i))]) (x_set (e_mulN (x := y) (y := m + i + 1) rfl rfl (up4 b1 (by omega)) (up4 (sm4 (by omega)) (by omega)))) exL_nil) (env := [.sh (dN n), .sh (dN m), .sh (dN ((partR n n).getD (n - m + 1) 0)), .no]) ⟨_, rfl⟩
  obtain ⟨e, h1, s, hE⟩ := k
  subst hE
  rw [lenN, List.length_range'] at h1
  have tk : (List.range' m (n - m)).take (n - m) = List.range' m (n - m) := by rw [List.take_of_length_le (by rw [List.length_range']; exact Nat.le_refl _)]
  rw [tk] at h1
  refine st0 (x_need (d := .none) (l := [.sh (dN n), .sh (dN 1), .sh (dN 60)]) rfl (hf n 1 60 (by omega) hn)) (st0 (x_need (d := .none) (l := [.sh (dN m), .sh (dN 1), .sh (dN n)]) rfl (hf m 1 n m1 mn)) (st0 (e1 := [.sh (dN n), .sh (dN m), .sh (dN ((partR n n).getD (n - m + 1) 0)), .no]) (x_set (e_call2 (l := [.sh (dN n), .sh (dN (n - m + 1))]) (aa2 rfl (a_hand (fun _ => rfl) (e_addN (x := n - m) (y := 1) (e_subN (x := n) (y := m) rfl rfl mn) rfl))) (hg n (n - m + 1) hn (by omega) hp) rfl)) (st0 ((x_fr (t := .nm 3) (l := mN (List.range' m (n - m))) (env := [.sh (dN n), .sh (dN m), .sh (dN ((partR n n).getD (n - m + 1) 0)), .no]) rfl (ii_r2 (a := m) (b := n) rfl rfl (by omega) (by omega))).trans h1) (exL_ret (x_ret rfl)))))
end
end Cd
namespace Cd
open PySem
/-! Charts counted by heights, levels, heads. -/
theorem latF_len (tr : List Nat) : ∀ j, (latF tr j).length = j + 1
  | 0 => rfl
  | j + 1 => by rw [latF, List.length_append, latF_len tr j]; rfl
theorem latF_pre (tr : List Nat) {j : Nat} : ∀ {k : Nat}, j ≤ k → ∀ x ∈ latF tr j, x ∈ latF tr k
  | 0, h, x, hx => by have : j = 0 := by omega
                      subst this; exact hx
  | k + 1, h, x, hx => by
    by_cases e : j = k + 1
    · subst e; exact hx
    · exact List.mem_append.mpr (.inl (latF_pre tr (by omega) x hx))
theorem hF_len (n : Nat) : ∀ L, (hF n L).length = n + 1
  | 0 => List.length_replicate
  | L + 1 => by rw [hF, latF_len]
def HgtHyp (n h : Nat) : Prop := ∀ L, L ≤ h → ∀ x ∈ hF n L, x < 2 ^ 1000
section
variable {ns : List Int} {C : CT}
def hc_b3 (ch : Nat) : SL := (.cons [] (.set 7 (.bin .add (.var 7) (.bin .mul (.bin .mul (.call ch (.cons false (.bin .sub (.var 6) (.int 1)) (.cons false (.bin .sub (.var 8) (.int 1)) .nil))) (.ix (.var 4) (.var 8))) (.ix (.var 5) (.bin .sub (.var 6) (.var 8))))))
  .nil)
def hc_b2 (ch : Nat) : SL := (.cons [] (.set 7 (.int 0))
  (.cons [] (.fr (.nm 8) (.r2 (.int 1) (.bin .add (.var 6) (.int 1))) (hc_b3 ch))
  (.cons [7] (.app 5 (.var 7))
  .nil)))
def hc_b1 (ch : Nat) : SL := (.cons [] (.set 4 (.lc [("many", 6)] (.nm 6) (.r1 (.bin .add (.var 0) (.int 1))) (.bl true) (.ite (.var 6) (.bin .mul (.var 6) (.ix (.var 2) (.bin .sub (.var 6) (.int 1)))) (.int 0))))
  (.cons [] (.set 5 (.lst (.cons false (.int 1) .nil)))
  (.cons [] (.fr (.nm 6) (.r2 (.int 1) (.bin .add (.var 0) (.int 1))) (hc_b2 ch))
  (.cons [5] (.set 2 (.var 5))
  .nil))))
def ir_height_count (x : Str) (f ch : Nat) : SL := (.cons [] (.drop (.call f (.cons false (.var 0) (.cons false (.int 1) (.cons false (.gi x 60) .nil)))))
  (.cons [] (.drop (.call f (.cons false (.var 1) (.cons false (.int 1) (.cons false (.gi x 60) .nil)))))
  (.cons [] (.set 2 (.lc [("many", 6)] (.nm 6) (.r1 (.bin .add (.var 0) (.int 1))) (.bl true) (.int 1)))
  (.cons [] (.fr (.nm 3) (.r1 (.bin .sub (.var 1) (.int 1))) (hc_b1 ch))
  (.cons [] (.ret (.ix (.var 2) (.var 0)))
  .nil)))))
theorem hc_in {ch n j : Nat} {h : Slot} {tr l : List Nat} {s2 s3 s7 s8 : Slot} (hc : ChOk C ch) (hn : n ≤ 60) (hj : j < n) (ht : tr.length = n + 1) (hl : l.length = j + 1) (bt : ∀ x ∈ tr, x < 2 ^ 1010) (bl : ∀ x ∈ l, x < 2 ^ 1000) :
    ∃ s7' s8', exL ns C (hc_b2 ch) [.sh (dN n), h, s2, s3, .ow (mN tr), .ow (mN l), .sh (dN (j + 1)), s7, s8] = M.ret (.nx [.sh (dN n), h, s2, s3, .ow (mN tr), .ow (mN (l ++ [totF tr l j])), .sh (dN (j + 1)), s7', s8']) := by
  have w := frL_inv (f := fun env d => match bindT env (.nm 8) d with | some env' => exL ns C (hc_b3 ch) env' | none => M.no) (l := mN (ones (j + 1)))
    (fun i env => ∃ s8, env = [.sh (dN n), h, s2, s3, .ow (mN tr), .ow (mN l), .sh (dN (j + 1)), .sh (dN (((ones (j + 1)).take i).map fun f => chS j (f - 1) * tr.getD f 0 * l.getD (j + 1 - f) 0).sum), s8]) (fun i d env hx ⟨s8, hE⟩ => by
      subst hE
      rw [List.getElem?_map] at hx
      cases hy : (ones (j + 1))[i]? with
      | none => rw [hy] at hx; cases hx
      | some f =>
        rw [hy] at hx
        cases hx
        obtain ⟨f1, f2⟩ := mem_ones.mp (List.mem_of_getElem? hy)
        have e9 : (((ones (j + 1)).take (i + 1)).map fun f => chS j (f - 1) * tr.getD f 0 * l.getD (j + 1 - f) 0).sum = (((ones (j + 1)).take i).map fun f => chS j (f - 1) * tr.getD f 0 * l.getD (j + 1 - f) 0).sum + chS j (f - 1) * tr.getD f 0 * l.getD (j + 1 - f) 0 := by
          rw [List.take_succ, hy, List.map_append, List.sum_append]; simp
        rw [e9]
        generalize (((ones (j + 1)).take i).map fun f => chS j (f - 1) * tr.getD f 0 * l.getD (j + 1 - f) 0).sum = t
        refine ⟨[.sh (dN n), h, s2, s3, .ow (mN tr), .ow (mN l), .sh (dN (j + 1)), .sh (dN (t + chS j (f - 1) * tr.getD f 0 * l.getD (j + 1 - f) 0)), .sh (dN f)], ?_, _, rfl⟩
        let E : List Slot := [.sh (dN n), h, s2, s3, .ow (mN tr), .ow (mN l), .sh (dN (j + 1)), .sh (dN t), .sh (dN f)]
        show exL ns C (hc_b3 ch) E = _
        have a1 : evE ns C (.call ch (.cons false (.bin .sub (.var 6) (.int 1)) (.cons false (.bin .sub (.var 8) (.int 1)) .nil))) E = M.ret (dN (chS j (f - 1))) := by
          refine e_call2 (l := [.sh (dN j), .sh (dN (f - 1))]) (aa2 (a_hand (fun _ => rfl) ?_) (a_hand (fun _ => rfl) ?_)) (hc j (f - 1) (by omega) (by omega)) rfl
          · exact e_subN (x := j + 1) (y := 1) rfl rfl (by omega)
          · exact e_subN (x := f) (y := 1) rfl rfl f1
        have a2 : evE ns C (.ix (.var 4) (.var 8)) E = M.ret (dN (tr.getD f 0)) := e_ixW (i := 4) (.inl rfl) rfl (getD_of (by omega))
        have a3 : evE ns C (.ix (.var 5) (.bin .sub (.var 6) (.var 8))) E = M.ret (dN (l.getD (j + 1 - f) 0)) := e_ixW (i := 5) (.inl rfl) (e_subN (x := j + 1) (y := f) rfl rfl f2) (getD_of (by omega))
        have b1 : chS j (f - 1) < 2 ^ 700 := chS_sm (by omega) (by omega)
        have b2 := getD_sm f bt
        have b3 := getD_sm (j + 1 - f) bl
        have a4 : evE ns C (.bin .mul (.call ch (.cons false (.bin .sub (.var 6) (.int 1)) (.cons false (.bin .sub (.var 8) (.int 1)) .nil))) (.ix (.var 4) (.var 8))) E = M.ret (dN (chS j (f - 1) * tr.getD f 0)) := e_mulN (x := chS j (f - 1)) (y := tr.getD f 0) a1 a2 (up4 b1 (by omega)) (up4 b2 (by omega))
        have a5 := e_mulN (ns := ns) (C := C) (a := .bin .mul (.call ch (.cons false (.bin .sub (.var 6) (.int 1)) (.cons false (.bin .sub (.var 8) (.int 1)) .nil))) (.ix (.var 4) (.var 8))) (b := .ix (.var 5) (.bin .sub (.var 6) (.var 8))) (env := E) (x := chS j (f - 1) * tr.getD f 0) (y := l.getD (j + 1 - f) 0) a4 a3 (up4 (mul_lt b1 b2) (by omega)) (up4 b3 (by omega))
        exact st0 (x_set (e_addN (x := t) rfl a5)) exL_nil) (env := [.sh (dN n), h, s2, s3, .ow (mN tr), .ow (mN l), .sh (dN (j + 1)), .sh (dN 0), s8]) ⟨_, rfl⟩
  obtain ⟨e, w1, s8', hE⟩ := w
  subst hE
  rw [lenN, List.take_length] at w1
  refine ⟨.sh (dN (totF tr l j)), s8', ?_⟩
  unfold hc_b2
  refine st0 (e1 := [.sh (dN n), h, s2, s3, .ow (mN tr), .ow (mN l), .sh (dN (j + 1)), .sh (dN 0), s8]) rfl (st0 ((x_fr (t := .nm 8) (l := mN (ones (j + 1))) (env := [.sh (dN n), h, s2, s3, .ow (mN tr), .ow (mN l), .sh (dN (j + 1)), .sh (dN 0), s8]) rfl (ii_r2 (a := 1) (b := j + 1 + 1) rfl rfl (by omega) (by omega))).trans w1) ?_)
  refine st1 (fz := [7]) (e1 := [.sh (dN n), h, s2, s3, .ow (mN tr), .ow (mN (l ++ [totF tr l j])), .sh (dN (j + 1)), .sh (dN (totF tr l j)), s8']) rfl ((x_app (i := 5) (l := mN l) (d := dN (totF tr l j)) rfl rfl (by rw [lenN, hl]; unfold LB; omega)).trans ?_) exL_nil
  rw [mN_snoc]; rfl
theorem hc_level {ch n L : Nat} {h s2 s3 s4 s5 s6 s7 s8 : Slot} (hc : ChOk C ch) (hn : n ≤ 60) (h2 : s2 = .ow (mN (hF n L)) ∨ s2 = .sh (.list (mN (hF n L)))) (b1 : ∀ x ∈ hF n L, x < 2 ^ 1000) (b2 : ∀ x ∈ hF n (L + 1), x < 2 ^ 1000) :
    ∃ s2' s4' s5' s6' s7' s8', (s2' = .ow (mN (hF n (L + 1))) ∨ s2' = .sh (.list (mN (hF n (L + 1))))) ∧ exL ns C (hc_b1 ch) [.sh (dN n), h, s2, s3, s4, s5, s6, s7, s8] = M.ret (.nx [.sh (dN n), h, s2', s3, s4', s5', s6', s7', s8']) := by
  have len := hF_len n L
  have tl : (trF n (hF n L)).length = n + 1 := by unfold trF; rw [List.length_map, List.length_range']
  have bt : ∀ x ∈ trF n (hF n L), x < 2 ^ 1010 := fun x hx => by
    obtain ⟨m, hm, rfl⟩ := List.mem_map.mp hx
    have := List.mem_range'_1.mp hm
    by_cases z : m = 0
    · rw [if_pos z]; exact Nat.two_pow_pos _
    · rw [if_neg z]
      have e : (1010 : Nat) = 10 + 1000 := rfl
      rw [e]
      exact mul_lt (sm4 (by omega)) (getD_sm _ b1)
  have lc := lcA (ns := ns) (C := C) (own := [("many", 6)]) (i := 6) (it := .r1 (.bin .add (.var 0) (.int 1))) (e := .ite (.var 6) (.bin .mul (.var 6) (.ix (.var 2) (.bin .sub (.var 6) (.int 1)))) (.int 0)) (env := [.sh (dN n), h, s2, s3, s4, s5, s6, s7, s8]) (l := List.range' 0 (n + 1)) (fun m => dN (if m = 0 then 0 else m * (hF n L).getD (m - 1) 0)) (ii_r1 rfl (by omega)) (by rw [List.length_range']; unfold LB; omega) (fun m hm => by
    have hm2 := List.mem_range'_1.mp hm
    have t : evT ns C (.var 6) [.sh (dN n), h, s2, s3, s4, s5, .sh (dN m), s7, s8] = M.ret ((m : Int) != 0) := rfl
    refine (e_ite2 t).trans ?_
    by_cases z : m = 0
    · subst z; rfl
    · have : ((m : Int) != 0) = true := by simpa using z
      rw [if_pos this, if_neg z]
      refine e_mulN (x := m) (y := (hF n L).getD (m - 1) 0) rfl (e_ixW (i := 2) ?_ (e_subN (x := m) (y := 1) rfl rfl (by omega)) (getD_of (by omega))) (up4 (sm4 (by omega)) (by omega)) (up4 (getD_sm _ b1) (by omega))
      rcases h2 with rfl | rfl
      · exact .inl rfl
      · exact .inr rfl)
  rw [map_mN] at lc
  have w := frL_inv (f := fun env d => match bindT env (.nm 6) d with | some env' => exL ns C (hc_b2 ch) env' | none => M.no) (l := mN (ones n))
    (fun i env => ∃ s6 s7 s8, env = [.sh (dN n), h, s2, s3, .ow (mN (trF n (hF n L))), .ow (mN (latF (trF n (hF n L)) i)), s6, s7, s8]) (fun i d env hx ⟨s6, s7, s8, hE⟩ => by
      subst hE
      rw [List.getElem?_map] at hx
      cases hy : (ones n)[i]? with
      | none => rw [hy] at hx; cases hx
      | some k =>
        rw [hy] at hx
        cases hx
        have hy2 : (List.range' 1 n)[i]? = some k := hy
        obtain ⟨i1, i2⟩ := List.getElem?_eq_some_iff.mp hy2
        rw [List.getElem_range'] at i2
        rw [List.length_range'] at i1
        have ek : k = i + 1 := by omega
        subst ek
        obtain ⟨s7', s8', k1⟩ := hc_in (ns := ns) (C := C) (ch := ch) (n := n) (j := i) (h := h) (tr := trF n (hF n L)) (l := latF (trF n (hF n L)) i) (s2 := s2) (s3 := s3) (s7 := s7) (s8 := s8) hc hn i1 tl (latF_len _ _) bt (fun x hx => b2 x (latF_pre _ (by omega) x hx))
        exact ⟨_, k1, _, _, _, rfl⟩) (env := [.sh (dN n), h, s2, s3, .ow (mN (trF n (hF n L))), .ow (mN [1]), s6, s7, s8]) ⟨_, _, _, rfl⟩
  obtain ⟨e, w1, s6', s7', s8', hE⟩ := w
  subst hE
  rw [lenN, ones_len] at w1
  refine ⟨.sh (.list (mN (hF n (L + 1)))), .ow (mN (trF n (hF n L))), .sh (.list (mN (hF n (L + 1)))), s6', s7', s8', .inr rfl, ?_⟩
  unfold hc_b1
  refine st0 (e1 := [.sh (dN n), h, s2, s3, .ow (mN (trF n (hF n L))), s5, s6, s7, s8]) (x_set lc) (st0 (e1 := [.sh (dN n), h, s2, s3, .ow (mN (trF n (hF n L))), .ow (mN [1]), s6, s7, s8]) rfl (st0 ((x_fr (t := .nm 6) (l := mN (ones n)) (env := [.sh (dN n), h, s2, s3, .ow (mN (trF n (hF n L))), .ow (mN [1]), s6, s7, s8]) rfl (ii_r2 (a := 1) (b := n + 1) rfl rfl (by omega) (by omega))).trans w1) ?_))
  rw [exL_step (fz := [5]) (e1 := [.sh (dN n), h, .sh (.list (mN (hF n (L + 1)))), s3, .ow (mN (trF n (hF n L))), .sh (.list (mN (hF n (L + 1)))), s6', s7', s8']) rfl, exL_nil]
theorem height_count_ok {x : Str} {f ch n h : Nat} (hf : RangeOk C f) (hc : ChOk C ch) (n1 : 1 ≤ n) (hn : n ≤ 60) (h1 : 1 ≤ h) (hh : h ≤ 60) (hb : HgtHyp n (h - 1)) : exL ns C (ir_height_count x f ch) [.sh (dN n), .sh (dN h), .no, .no, .no, .no, .no, .no, .no] = M.ret (.rt (dN ((hF n (h - 1)).getD n 0))) := by
  have w := frL_inv (f := fun env d => match bindT env (.nm 3) d with | some env' => exL ns C (hc_b1 ch) env' | none => M.no) (l := mN (List.range' 0 (h - 1)))
    (fun i env => ∃ s2 s3 s4 s5 s6 s7 s8, (s2 = .ow (mN (hF n i)) ∨ s2 = .sh (.list (mN (hF n i)))) ∧ env = [.sh (dN n), .sh (dN h), s2, s3, s4, s5, s6, s7, s8]) (fun i d env hx ⟨s2, s3, s4, s5, s6, s7, s8, h2, hE⟩ => by
      subst hE
      obtain ⟨hi, rfl⟩ := rngN_at hx
      obtain ⟨s2', s4', s5', s6', s7', s8', k1, k2⟩ := hc_level (ns := ns) (C := C) (ch := ch) (n := n) (L := i) (h := .sh (dN h)) (s2 := s2) (s3 := .sh (dN i)) (s4 := s4) (s5 := s5) (s6 := s6) (s7 := s7) (s8 := s8) hc hn h2 (hb i (by omega)) (hb (i + 1) (by omega))
      exact ⟨_, k2, s2', _, _, _, _, _, _, k1, rfl⟩) (env := [.sh (dN n), .sh (dN h), .ow (mN (hF n 0)), .no, .no, .no, .no, .no, .no]) ⟨_, _, _, _, _, _, _, .inl rfl, rfl⟩
  obtain ⟨e, w1, s2, s3, s4, s5, s6, s7, s8, h2, hE⟩ := w
  subst hE
  rw [lenN, List.length_range'] at h2
  have lc := lcA (ns := ns) (C := C) (own := [("many", 6)]) (i := 6) (it := .r1 (.bin .add (.var 0) (.int 1))) (e := .int 1) (env := [.sh (dN n), .sh (dN h), .no, .no, .no, .no, .no, .no, .no]) (l := List.range' 0 (n + 1)) (fun _ => dN 1) (ii_r1 rfl (by omega)) (by rw [List.length_range']; unfold LB; omega) (fun m hm => rfl)
  have e8 : ((List.range' 0 (n + 1)).map fun _ => dN 1) = mN (hF n 0) := by
    rw [List.map_const', List.length_range']
    show _ = mN (List.replicate (n + 1) 1)
    unfold mN
    rw [List.map_replicate]
  rw [e8] at lc
  refine st0 (x_need (d := .none) (l := [.sh (dN n), .sh (dN 1), .sh (dN 60)]) rfl (hf n 1 60 n1 hn)) (st0 (x_need (d := .none) (l := [.sh (dN h), .sh (dN 1), .sh (dN 60)]) rfl (hf h 1 60 h1 hh)) (st0 (e1 := [.sh (dN n), .sh (dN h), .ow (mN (hF n 0)), .no, .no, .no, .no, .no, .no]) (x_set lc) (st0 ((x_fr (t := .nm 3) (l := mN (List.range' 0 (h - 1))) (env := [.sh (dN n), .sh (dN h), .ow (mN (hF n 0)), .no, .no, .no, .no, .no, .no]) rfl (ii_r1 (e_subN (x := h) (y := 1) rfl rfl h1) (by omega))).trans w1) (exL_ret (x_ret (e_ixW (i := 2) ?_ rfl (getD_of (by rw [hF_len]; omega))))))))
  rcases h2 with rfl | rfl
  · exact .inl rfl
  · exact .inr rfl
theorem lvW_le (n : Nat) : ∀ k, lvW n k ≤ n ^ k
  | 0 => Nat.le_refl _
  | k + 1 => by
    unfold lvW
    rw [Nat.pow_succ]
    exact Nat.mul_le_mul (lvW_le n k) (Nat.sub_le _ _)
def ir_level_total (x : Str) (f g : Nat) : SL := (.cons [] (.drop (.call f (.cons false (.var 0) (.cons false (.int 1) (.cons false (.gi x 60) .nil)))))
  (.cons [] (.drop (.call f (.cons false (.var 1) (.cons false (.int 0) (.cons false (.gi x 60) .nil)))))
  (.cons [] (.ite (.cmp .ge (.var 1) (.var 0)) (.cons [] (.ret (.int 0))
  .nil) .nil)
  (.cons [] (.set 2 (.int 1))
  (.cons [] (.fr (.nm 3) (.r1 (.bin .add (.var 1) (.int 1))) (.cons [] (.set 2 (.bin .mul (.var 2) (.bin .sub (.var 0) (.var 3))))
  .nil))
  (.cons [] (.set 4 (.bin .sub (.bin .sub (.var 0) (.var 1)) (.int 1)))
  (.cons [2] (.ret (.ite (.cmp .eq (.var 4) (.int 0)) (.var 2) (.bin .mul (.bin .mul (.var 2) (.bin .add (.var 1) (.int 2))) (.call g (.cons false (.bin .add (.var 0) (.int 1)) (.cons false (.bin .sub (.var 4) (.int 1)) .nil))))))
  .nil)))))))
theorem level_total_ok {x : Str} {f g n l : Nat} (hf : RangeOk C f) (hg : PowOk C g) (n1 : 1 ≤ n) (hn : n ≤ 60) (hl : l ≤ 60) : exL ns C (ir_level_total x f g) [.sh (dN n), .sh (dN l), .no, .no, .no] = M.ret (.rt (dN (lvF n l))) := by
  refine st0 (x_need (d := .none) (l := [.sh (dN n), .sh (dN 1), .sh (dN 60)]) rfl (hf n 1 60 n1 hn)) (st0 (x_need (d := .none) (l := [.sh (dN l), .sh (dN 0), .sh (dN 60)]) rfl (hf l 0 60 (Nat.zero_le _) hl)) ?_)
  have t : evT ns C (.cmp .ge (.var 1) (.var 0)) [.sh (dN n), .sh (dN l), .no, .no, .no] = M.ret (decide ((n : Int) ≤ l)) := t_cmp2 (x := dN l) (y := dN n) rfl rfl rfl
  unfold lvF
  by_cases z : n ≤ l
  · rw [if_pos z]
    rw [decide_eq_true (by omega)] at t
    exact exL_ret (fz := []) (x_take t (exL_ret (x_ret rfl)))
  · rw [if_neg z]
    rw [decide_eq_false (by omega)] at t
    have sm : ∀ i, i ≤ l + 1 → lvW n i < 2 ^ 700 := fun i hi => Nat.lt_of_le_of_lt (lvW_le n i) (pow_sm (by omega) (by omega))
    have w := frL_inv (f := fun env d => match bindT env (.nm 3) d with | some env' => exL ns C (.cons [] (.set 2 (.bin .mul (.var 2) (.bin .sub (.var 0) (.var 3)))) .nil) env' | none => M.no) (l := mN (List.range' 0 (l + 1)))
      (fun i env => ∃ s3, env = [.sh (dN n), .sh (dN l), .sh (dN (lvW n i)), s3, .no]) (fun i d env hx ⟨s3, hE⟩ => by
        subst hE
        obtain ⟨hi, rfl⟩ := rngN_at hx
        refine ⟨[.sh (dN n), .sh (dN l), .sh (dN (lvW n (i + 1))), .sh (dN i), .no], ?_, _, rfl⟩
        show exL ns C _ [.sh (dN n), .sh (dN l), .sh (dN (lvW n i)), .sh (dN i), .no] = _
        have e1 : evE ns C (.bin .sub (.var 0) (.var 3)) [.sh (dN n), .sh (dN l), .sh (dN (lvW n i)), .sh (dN i), .no] = M.ret (dN (n - i)) := e_subN (x := n) (y := i) rfl rfl (by omega)
        exact st0 (e1 := [.sh (dN n), .sh (dN l), .sh (dN (lvW n (i + 1))), .sh (dN i), .no]) (x_set (d := dN (lvW n (i + 1))) (e_mulN (a := .var 2) (b := .bin .sub (.var 0) (.var 3)) (x := lvW n i) (y := n - i) rfl e1 (up4 (sm i (by omega)) (by omega)) (up4 (sm4 (by omega)) (by omega)))) exL_nil) (env := [.sh (dN n), .sh (dN l), .sh (dN (lvW n 0)), .no, .no]) ⟨_, rfl⟩
    obtain ⟨e, w1, s3, hE⟩ := w
    subst hE
    rw [lenN, List.length_range'] at w1
    have e4 : evE ns C (.bin .sub (.bin .sub (.var 0) (.var 1)) (.int 1)) [.sh (dN n), .sh (dN l), .sh (dN (lvW n (l + 1))), s3, .no] = M.ret (dN (n - l - 1)) := by
      have e5 : evE ns C (.bin .sub (.var 0) (.var 1)) [.sh (dN n), .sh (dN l), .sh (dN (lvW n (l + 1))), s3, .no] = M.ret (dN (n - l)) := e_subN (x := n) (y := l) rfl rfl (by omega)
      exact e_subN (a := .bin .sub (.var 0) (.var 1)) (x := n - l) (y := 1) e5 rfl (by omega)
    refine st0 (x_skip t) (st0 (e1 := [.sh (dN n), .sh (dN l), .sh (dN (lvW n 0)), .no, .no]) rfl (st0 ((x_fr (t := .nm 3) (l := mN (List.range' 0 (l + 1))) (env := [.sh (dN n), .sh (dN l), .sh (dN (lvW n 0)), .no, .no]) rfl (ii_r1 rfl (by omega))).trans w1) (st0 (e1 := [.sh (dN n), .sh (dN l), .sh (dN (lvW n (l + 1))), s3, .sh (dN (n - l - 1))]) (x_set e4) (exL_ret (x_ret ?_)))))
    let E : List Slot := [.sh (dN n), .sh (dN l), .sh (dN (lvW n (l + 1))), s3, .sh (dN (n - l - 1))]
    show evE ns C (.ite (.cmp .eq (.var 4) (.int 0)) (.var 2) (.bin .mul (.bin .mul (.var 2) (.bin .add (.var 1) (.int 2))) (.call g (.cons false (.bin .add (.var 0) (.int 1)) (.cons false (.bin .sub (.var 4) (.int 1)) .nil))))) E = _
    have t2 : evT ns C (.cmp .eq (.var 4) (.int 0)) E = M.ret (decide (n - l - 1 = 0)) := t_cmp2 (x := dN (n - l - 1)) (y := dN 0) rfl rfl (eq_N ..)
    refine (e_ite2 t2).trans ?_
    by_cases y : n - l - 1 = 0
    · rw [decide_eq_true y, if_pos rfl, if_pos y]; rfl
    · rw [decide_eq_false y, if_neg (by simp), if_neg y]
      have a1 : evE ns C (.bin .mul (.var 2) (.bin .add (.var 1) (.int 2))) E = M.ret (dN (lvW n (l + 1) * (l + 2))) := e_mulN (x := lvW n (l + 1)) (y := l + 2) rfl rfl (up4 (sm _ (Nat.le_refl _)) (by omega)) (up4 (sm4 (by omega)) (by omega))
      have a2 : evE ns C (.call g (.cons false (.bin .add (.var 0) (.int 1)) (.cons false (.bin .sub (.var 4) (.int 1)) .nil))) E = M.ret (dN ((n + 1) ^ (n - l - 1 - 1))) := by
        refine e_call2 (l := [.sh (dN (n + 1)), .sh (dN (n - l - 1 - 1))]) (aa2 (a_hand (fun _ => rfl) rfl) (a_hand (fun _ => rfl) ?_)) (hg (n + 1) (n - l - 1 - 1) (by omega) (by omega)) rfl
        exact e_subN (x := n - l - 1) (y := 1) rfl rfl (by omega)
      exact e_mulN (a := .bin .mul (.var 2) (.bin .add (.var 1) (.int 2))) (x := lvW n (l + 1) * (l + 2)) a1 a2 (up4 (mul_lt (sm _ (Nat.le_refl _)) (sm4 (a := l + 2) (by omega))) (by omega)) (up4 (pow_sm (by omega) (by omega)) (by omega))
def ir_heads_count (x : Str) (f g h : Nat) : SL := (.cons [] (.ite (.or (.not (.call f (.cons false (.var 0) (.cons false (.int 1) (.cons false (.gi x 100) .nil))))) (.not (.call f (.cons false (.var 1) (.cons false (.int 1) (.cons false (.var 0) .nil)))))) (.cons [] .fail
  .nil) .nil)
  (.cons [] (.ite (.cmp .eq (.var 1) (.var 0)) (.cons [] (.ret (.int 1))
  .nil) .nil)
  (.cons [] (.ret (.bin .mul (.call g (.cons false (.bin .sub (.var 0) (.int 1)) (.cons false (.bin .sub (.var 1) (.int 1)) .nil))) (.call h (.cons false (.var 0) (.cons false (.bin .sub (.var 0) (.var 1)) .nil)))))
  .nil)))
theorem heads_count_ok {x : Str} {f g h n m : Nat} (hf : InOk C f) (hg : ChOk C g) (hh : PowOk C h) (m1 : 1 ≤ m) (mn : m ≤ n) (hn : n ≤ 100) : exL ns C (ir_heads_count x f g h) [.sh (dN n), .sh (dN m)] = M.ret (.rt (dN (hdF n m))) := by
  have t1 : evT ns C (.call f (.cons false (.var 0) (.cons false (.int 1) (.cons false (.gi x 100) .nil)))) [.sh (dN n), .sh (dN m)] = M.ret true := t_in (v := n) (a := 1) (b := 100) hf rfl (by omega) hn
  have t2 : evT ns C (.call f (.cons false (.var 1) (.cons false (.int 1) (.cons false (.var 0) .nil)))) [.sh (dN n), .sh (dN m)] = M.ret true := t_in (v := m) (a := 1) (b := n) hf rfl m1 mn
  have t3 : evT ns C (.cmp .eq (.var 1) (.var 0)) [.sh (dN n), .sh (dN m)] = M.ret (decide (m = n)) := t_cmp2 (x := dN m) (y := dN n) rfl rfl (eq_N ..)
  refine st0 (x_skip (t_or2 (p := false) (q := false) (tt_not t1) fun _ => tt_not t2)) ?_
  unfold hdF
  by_cases z : m = n
  · rw [decide_eq_true z] at t3
    rw [if_pos z]
    exact exL_ret (fz := []) (x_take t3 (exL_ret (x_ret rfl)))
  · rw [decide_eq_false z] at t3
    rw [if_neg z]
    have a1 : evE ns C (.call g (.cons false (.bin .sub (.var 0) (.int 1)) (.cons false (.bin .sub (.var 1) (.int 1)) .nil))) [.sh (dN n), .sh (dN m)] = M.ret (dN (chS (n - 1) (m - 1))) := e_call2 (l := [.sh (dN (n - 1)), .sh (dN (m - 1))]) (aa2 (a_hand (fun _ => rfl) (e_subN (x := n) (y := 1) rfl rfl (by omega))) (a_hand (fun _ => rfl) (e_subN (x := m) (y := 1) rfl rfl m1))) (hg _ _ (by omega) (by omega)) rfl
    have a2 : evE ns C (.call h (.cons false (.var 0) (.cons false (.bin .sub (.var 0) (.var 1)) .nil))) [.sh (dN n), .sh (dN m)] = M.ret (dN (n ^ (n - m))) := e_call2 (l := [.sh (dN n), .sh (dN (n - m))]) (aa2 rfl (a_hand (fun _ => rfl) (e_subN (x := n) (y := m) rfl rfl mn))) (hh n (n - m) (by omega) (by omega)) rfl
    exact st0 (x_skip t3) (exL_ret (x_ret (e_mulN (a := .call g (.cons false (.bin .sub (.var 0) (.int 1)) (.cons false (.bin .sub (.var 1) (.int 1)) .nil))) (b := .call h (.cons false (.var 0) (.cons false (.bin .sub (.var 0) (.var 1)) .nil))) (x := chS (n - 1) (m - 1)) a1 a2 (up4 (chS_sm (by omega) (by omega)) (by omega)) (up4 (pow_sm (by omega) (by omega)) (by omega)))))
end
end Cd
namespace Cd
open PySem
/-! What namings make of charts. -/
def staysS (v : List (Option Int)) : List Nat := (ones v.length).filter fun k => decide (v[k - 1]? = some none)
def actN (v : List (Option Int)) (c : List Nat) (k : Nat) : Nat := match v[k - 1]? with
  | some (some x) => if 0 ≤ x then x.toNat else nearS c (staysS v) (-x).toNat
  | _ => nearS c (staysS v) k
def namedS (v : List (Option Int)) (c : List Nat) : List Nat := (ones v.length).map (actN v c)
theorem namedS_len (v : List (Option Int)) (c : List Nat) : (namedS v c).length = v.length := by unfold namedS; rw [List.length_map, ones_len]
theorem ones_get {n k : Nat} (h1 : 1 ≤ k) (hl : k ≤ n) : (ones n)[k - 1]? = some k := by
  unfold ones
  rw [List.getElem?_eq_getElem (by rw [List.length_range']; omega), List.getElem_range']
  congr 1; omega
theorem namedS_up {v : List (Option Int)} {c : List Nat} {k : Nat} (h1 : 1 ≤ k) (hl : k ≤ v.length) : up (namedS v c) k = actN v c k := by
  have e := up_get (c := namedS v c) h1 (by rw [namedS_len]; exact hl)
  have e2 : (namedS v c)[k - 1]? = some (actN v c k) := by
    unfold namedS
    rw [List.getElem?_map, ones_get h1 hl]; rfl
  rw [e2] at e
  exact (Option.some.inj e).symm
theorem mem_stays {v : List (Option Int)} {k : Nat} : k ∈ staysS v ↔ (1 ≤ k ∧ k ≤ v.length) ∧ v[k - 1]? = some none := by
  unfold staysS
  rw [List.mem_filter, mem_ones]
  simp
theorem near_mem {c lot : List Nat} {k : Nat} (h : nearS c lot k ≠ 0) : nearS c lot k ∈ chainS c k ∧ nearS c lot k ∈ lot := by
  unfold nearS at h ⊢
  cases e : (chainS c k).filter fun x => decide (x ∈ lot) with
  | nil => rw [e] at h; exact absurd rfl h
  | cons y r =>
    have : y ∈ (chainS c k).filter fun x => decide (x ∈ lot) := by rw [e]; exact List.mem_cons_self
    obtain ⟨a, b⟩ := List.mem_filter.mp this
    exact ⟨a, by simpa using b⟩
theorem near_le {c lot : List Nat} (g : Good c) {k : Nat} (h1 : 1 ≤ k) (hl : k ≤ c.length) : nearS c lot k ≤ c.length := by
  by_cases z : nearS c lot k = 0
  · omega
  · exact (mem_chain g h1 hl (near_mem z).1).2
/-- those above that are in a lot: the nearest one, then those above it -/
theorem filt_near {c lot : List Nat} (g : Good c) : ∀ k, 1 ≤ k → k ≤ c.length → (chainS c k).filter (fun x => decide (x ∈ lot)) = if nearS c lot k = 0 then [] else nearS c lot k :: (chainS c (nearS c lot k)).filter fun x => decide (x ∈ lot) := by
  refine up_ind g fun k h1 hl ih => ?_
  unfold nearS
  rw [chain_cons g h1 hl]
  by_cases z : up c k = 0
  · rw [if_pos z]; rfl
  · rw [if_neg z]
    by_cases m : up c k ∈ lot
    · rw [List.filter_cons_of_pos (by simpa using m)]
      show _ = if up c k = 0 then [] else _
      rw [if_neg z]; rfl
    · rw [List.filter_cons_of_neg (by simpa using m)]
      exact ih z
/-- the ranks behind a naming -/
theorem named_good {v : List (Option Int)} {c : List Nat} (nv : Nm v) (g : Good c) (hl : c.length = v.length) : Good (namedS v c) := by
  obtain ⟨c', g', l', h'⟩ := nv.ch
  obtain ⟨r, hr⟩ := g.rk
  obtain ⟨r', hr'⟩ := g'.rk
  have one := nv.one
  have six := nv.six
  have ll := namedS_len v c
  let rho : Nat → Nat := fun k => match v[k - 1]? with | some (some x) => if 0 < x then 20 + r' k else 10 | _ => r k
  have rho_st : ∀ k, v[k - 1]? = some none → rho k = r k := fun k h => by
    show (match v[k - 1]? with | some (some x) => if 0 < x then 20 + r' k else 10 | _ => r k) = _
    rw [h]
  have rho_mv : ∀ k x, v[k - 1]? = some (some x) → rho k = if 0 < x then 20 + r' k else 10 := fun k x h => by
    show (match v[k - 1]? with | some (some x) => if 0 < x then 20 + r' k else 10 | _ => r k) = _
    rw [h]
  have rb : ∀ j, 1 ≤ j → j ≤ v.length → r j < 6 := fun j j1 j2 => by have := (hr j j1 (by omega)).2.2; omega
  have stay : ∀ m, 1 ≤ m → m ≤ v.length → nearS c (staysS v) m ≠ 0 → rho (nearS c (staysS v) m) < r m := fun m m1 m2 z => by
    obtain ⟨a, b⟩ := near_mem z
    rw [rho_st _ (mem_stays.mp b).2]
    exact (chain_rank g hr m m1 (by omega)).1 _ a
  refine good_of (by rw [ll]; exact one) (by rw [ll]; exact six) rho fun k h1 hk => ?_
  rw [ll] at hk ⊢
  rw [namedS_up h1 hk]
  have hv : v[k - 1]? = some v[k - 1] := List.getElem?_eq_getElem (by omega)
  cases hx : v[k - 1] with
  | none =>
    have hx2 : v[k - 1]? = some none := by rw [hv, hx]
    have ea : actN v c k = nearS c (staysS v) k := by unfold actN; rw [hx2]
    rw [ea, rho_st k hx2]
    exact ⟨by have := near_le (lot := staysS v) g h1 (by omega); omega, fun z => stay k h1 hk z⟩
  | some x =>
    have hx2 : v[k - 1]? = some (some x) := by rw [hv, hx]
    obtain ⟨x1, x2, x3⟩ := nv.rng _ _ hx2
    have ea : actN v c k = if 0 ≤ x then x.toNat else nearS c (staysS v) (-x).toNat := by unfold actN; rw [hx2]
    rw [ea, rho_mv k x hx2]
    by_cases z0 : 0 ≤ x
    · rw [if_pos z0]
      refine ⟨by omega, fun z => ?_⟩
      have xp : 0 < x := by omega
      have e := h' _ _ hx2 z0
      have e9 : k - 1 + 1 = k := by omega
      rw [e9] at e
      have e8 : up c' k = x.toNat := by omega
      have lt := (hr' k h1 (by omega)).2.1 (by omega)
      rw [e8] at lt
      rw [if_pos xp]
      have hq : v[x.toNat - 1]? = some v[x.toNat - 1] := List.getElem?_eq_getElem (by omega)
      cases hy : v[x.toNat - 1] with
      | none =>
        rw [rho_st _ (by rw [hq, hy])]
        have := rb x.toNat (by omega) (by omega); omega
      | some y =>
        rw [rho_mv _ y (by rw [hq, hy])]
        split <;> omega
    · rw [if_neg z0]
      have m1 : 1 ≤ (-x).toNat := by omega
      have m2 : (-x).toNat ≤ v.length := by omega
      refine ⟨by have := near_le (lot := staysS v) g m1 (by omega); omega, fun z => ?_⟩
      have b := stay _ m1 m2 z
      have := rb _ m1 m2
      rw [if_neg (by omega)]
      omega
section
variable {v w : List (Option Int)} {c : List Nat}
/-- above one who stays: those who stay -/
theorem named_chain (nv : Nm v) (g : Good c) (hl : c.length = v.length) : ∀ k, 1 ≤ k → k ≤ c.length → (v[k - 1]? = some none → chainS (namedS v c) k = (chainS c k).filter fun x => decide (x ∈ staysS v)) ∧ (nearS c (staysS v) k ≠ 0 → chainS (namedS v c) (nearS c (staysS v) k) = (chainS c (nearS c (staysS v) k)).filter fun x => decide (x ∈ staysS v)) := by
  have gn := named_good nv g hl
  have ll := namedS_len v c
  obtain ⟨r, hr⟩ := g.rk
  have w : ∀ (m k : Nat), r k < m → 1 ≤ k → k ≤ c.length → v[k - 1]? = some none → chainS (namedS v c) k = (chainS c k).filter fun x => decide (x ∈ staysS v) := by
    intro m
    induction m with
    | zero => intro k h; omega
    | succ m ih =>
      intro k hm h1 hk hv
      rw [chain_cons gn h1 (by omega), namedS_up h1 (by omega), filt_near g k h1 hk]
      have e : actN v c k = nearS c (staysS v) k := by unfold actN; rw [hv]
      rw [e]
      by_cases z : nearS c (staysS v) k = 0
      · rw [if_pos z, if_pos z]
      · rw [if_neg z, if_neg z]
        obtain ⟨a, b⟩ := near_mem z
        obtain ⟨b1, b2⟩ := mem_stays.mp b
        have := (chain_rank g hr k h1 hk).1 _ a
        rw [ih _ (by omega) b1.1 (by omega) b2]
  refine fun k h1 hk => ⟨w (r k + 1) k (by omega) h1 hk, fun z => ?_⟩
  obtain ⟨a, b⟩ := near_mem z
  obtain ⟨b1, b2⟩ := mem_stays.mp b
  exact w (r (nearS c (staysS v) k) + 1) _ (by omega) b1.1 (by omega) b2
def bothS (v w : List (Option Int)) : List Nat := (staysS v).filter fun k => decide (k ∈ staysS w)
theorem near_both (c : List Nat) (k : Nat) : nearS c (bothS v w) k = (((chainS c k).filter fun x => decide (x ∈ staysS v)).filter fun x => decide (x ∈ staysS w)).headD 0 := by
  unfold nearS
  congr 1
  rw [List.filter_filter]
  refine List.filter_congr fun x _ => ?_
  have m : x ∈ bothS v w ↔ x ∈ staysS v ∧ x ∈ staysS w := by
    unfold bothS
    rw [List.mem_filter]
    simp
  by_cases a : x ∈ staysS v
  · by_cases b : x ∈ staysS w
    · rw [decide_eq_true (m.mpr ⟨a, b⟩), decide_eq_true a, decide_eq_true b]; rfl
    · rw [decide_eq_false fun z => b (m.mp z).2, decide_eq_false b]; rfl
  · rw [decide_eq_false fun z => a (m.mp z).1, decide_eq_false a, Bool.and_false]
theorem near_step (g : Good c) (lot : List Nat) {k : Nat} (h1 : 1 ≤ k) (hk : k ≤ c.length) : nearS c lot k = if up c k = 0 then 0 else if up c k ∈ lot then up c k else nearS c lot (up c k) := by
  unfold nearS
  rw [chain_cons g h1 hk]
  by_cases z : up c k = 0
  · rw [if_pos z, if_pos z]; rfl
  · rw [if_neg z, if_neg z]
    by_cases m : up c k ∈ lot
    · rw [List.filter_cons_of_pos (by simpa using m), if_pos m]; rfl
    · rw [List.filter_cons_of_neg (by simpa using m), if_neg m]
def valO (c : List Nat) (lot : List Nat) (u : Int) : Nat := if 0 ≤ u then u.toNat else nearS c lot (-u).toNat
theorem up_val (nv : Nm v) (g : Good c) (hl : c.length = v.length) (hw : w.length = v.length) : ∀ (f p : Nat) (u : Int), 1 ≤ p → p ≤ v.length → upO v w f p = some u → nearS (namedS v c) (staysS w) p = valO c (bothS v w) u := by
  have gn := named_good nv g hl
  have ll := namedS_len v c
  intro f
  induction f with
  | zero => intro p u _ _ h; cases h
  | succ f ih =>
    intro p u p1 p2 h
    unfold upO at h
    have hv : v[p - 1]? = some v[p - 1] := List.getElem?_eq_getElem (by omega)
    cases hx : v[p - 1] with
    | none =>
      rw [hv, hx] at h
      cases h
      have e := (named_chain nv g hl p p1 (by omega)).1 (by rw [hv, hx])
      unfold valO
      rw [if_neg (by omega), near_both]
      have e2 : (-(-(p : Int))).toNat = p := by omega
      rw [e2]
      unfold nearS
      rw [e]
    | some ch =>
      rw [hv, hx] at h
      have hv2 : v[p - 1]? = some (some ch) := by rw [hv, hx]
      obtain ⟨c1, c2, c3⟩ := nv.rng _ _ hv2
      have e0 : up (namedS v c) p = if 0 ≤ ch then ch.toNat else nearS c (staysS v) (-ch).toNat := by
        rw [namedS_up p1 p2]
        unfold actN
        rw [hv2]
      rw [near_step gn _ p1 (by omega), e0]
      have h0 : (if ch ≤ 0 then some ch else (match w[(ch - 1).toNat]? with | none => none | some none => some ch | some (some _) => upO v w f ch.toNat)) = some u := h
      by_cases z : ch ≤ 0
      · rw [if_pos z] at h0
        have hu : ch = u := Option.some.inj h0
        subst hu
        unfold valO
        by_cases z0 : 0 ≤ ch
        · have : ch = 0 := by omega
          subst this
          rfl
        · rw [if_neg z0, if_neg z0, near_both]
          have m1 : 1 ≤ (-ch).toNat := by omega
          have m2 : (-ch).toNat ≤ c.length := by omega
          rw [filt_near g _ m1 m2]
          by_cases y : nearS c (staysS v) (-ch).toNat = 0
          · rw [if_pos y, if_pos y]; rfl
          · rw [if_neg y, if_neg y]
            have cc := (named_chain nv g hl _ m1 m2).2 y
            by_cases q : nearS c (staysS v) (-ch).toNat ∈ staysS w
            · rw [if_pos q, List.filter_cons_of_pos (by simpa using q)]; rfl
            · rw [if_neg q, List.filter_cons_of_neg (by simpa using q), ← cc]; rfl
      · rw [if_neg z] at h0
        have e1 : (if 0 ≤ ch then ch.toNat else nearS c (staysS v) (-ch).toNat) = ch.toNat := if_pos (by omega)
        rw [e1, if_neg (by omega)]
        have ei : (ch - 1).toNat = ch.toNat - 1 := by omega
        rw [ei] at h0
        have hq : w[ch.toNat - 1]? = some w[ch.toNat - 1] := List.getElem?_eq_getElem (by omega)
        cases ho : w[ch.toNat - 1] with
        | none =>
          rw [hq, ho] at h0
          have h2 : some ch = some u := h0
          have hu : ch = u := Option.some.inj h2
          subst hu
          have m : ch.toNat ∈ staysS w := mem_stays.mpr ⟨⟨by omega, by omega⟩, by rw [hq, ho]⟩
          rw [if_pos m]
          unfold valO
          rw [if_pos (by omega)]
        | some y =>
          rw [hq, ho] at h0
          have m : ch.toNat ∉ staysS w := fun m => by
            have := (mem_stays.mp m).2
            rw [hq, ho] at this; cases this
          rw [if_neg m]
          exact ih _ u (by omega) (by omega) h0
/-- what the word behind a naming is -/
theorem up_is (nv : Nm v) (hw : w.length = v.length) : ∀ (f p : Nat) (u : Int), 1 ≤ p → p ≤ v.length → ((∃ y, v[p - 1]? = some (some y)) ∨ ∃ y, w[p - 1]? = some (some y)) → upO v w f p = some u → -(v.length : Int) ≤ u ∧ u ≤ v.length ∧ (u < 0 → (∃ y, v[(-u - 1).toNat]? = some (some y)) ∨ ∃ y, w[(-u - 1).toNat]? = some (some y)) := by
  intro f
  induction f with
  | zero => intro p u _ _ _ h; cases h
  | succ f ih =>
    intro p u p1 p2 hm h
    unfold upO at h
    have hv : v[p - 1]? = some v[p - 1] := List.getElem?_eq_getElem (by omega)
    cases hx : v[p - 1] with
    | none =>
      rw [hv, hx] at h
      cases h
      refine ⟨by omega, by omega, fun _ => ?_⟩
      have e : (-(-(p : Int)) - 1).toNat = p - 1 := by omega
      rw [e]
      exact hm
    | some ch =>
      rw [hv, hx] at h
      have hv2 : v[p - 1]? = some (some ch) := by rw [hv, hx]
      obtain ⟨c1, c2, c3⟩ := nv.rng _ _ hv2
      have h0 : (if ch ≤ 0 then some ch else (match w[(ch - 1).toNat]? with | none => none | some none => some ch | some (some _) => upO v w f ch.toNat)) = some u := h
      by_cases z : ch ≤ 0
      · rw [if_pos z] at h0
        have hu : ch = u := Option.some.inj h0
        subst hu
        exact ⟨c1, c2, fun y => .inl (nv.mv _ _ hv2 y)⟩
      · rw [if_neg z] at h0
        have ei : (ch - 1).toNat = ch.toNat - 1 := by omega
        rw [ei] at h0
        have hq : w[ch.toNat - 1]? = some w[ch.toNat - 1] := List.getElem?_eq_getElem (by omega)
        cases ho : w[ch.toNat - 1] with
        | none =>
          rw [hq, ho] at h0
          have h2 : some ch = some u := h0
          have hu : ch = u := Option.some.inj h2
          subst hu
          exact ⟨c1, c2, fun y => absurd y (by omega)⟩
        | some y =>
          rw [hq, ho] at h0
          exact ih _ u (by omega) (by omega) (.inr ⟨y, by rw [hq, ho]⟩) h0
theorem up_some (nv : Nm v) (hw : w.length = v.length) {p : Nat} (p1 : 1 ≤ p) (p2 : p ≤ v.length) : ∃ u, upO v w 7 p = some u := by
  obtain ⟨c', g', l', h'⟩ := nv.ch
  obtain ⟨r, hr⟩ := g'.rk
  have six := nv.six
  have t : ∀ (f p : Nat), 1 ≤ p → p ≤ v.length → r p < f → ∃ u, upO v w f p = some u := by
    intro f
    induction f with
    | zero => intro p _ _ h; omega
    | succ f ih =>
      intro p p1 p2 hf
      unfold upO
      have hv : v[p - 1]? = some v[p - 1] := List.getElem?_eq_getElem (by omega)
      cases hx : v[p - 1] with
      | none => rw [hv, hx]; exact ⟨_, rfl⟩
      | some ch =>
        rw [hv, hx]
        have hv2 : v[p - 1]? = some (some ch) := by rw [hv, hx]
        obtain ⟨c1, c2, c3⟩ := nv.rng _ _ hv2
        by_cases z : ch ≤ 0
        · exact ⟨ch, by simp [z]⟩
        · have e := h' _ _ hv2 (by omega)
          have e9 : p - 1 + 1 = p := by omega
          rw [e9] at e
          have e8 : up c' p = ch.toNat := by omega
          have lt := (hr p p1 (by omega)).2.1 (by omega)
          rw [e8] at lt
          have ei : (ch - 1).toNat = ch.toNat - 1 := by omega
          have hq : w[ch.toNat - 1]? = some w[ch.toNat - 1] := List.getElem?_eq_getElem (by omega)
          simp only [z, if_false, ei, hq]
          cases w[ch.toNat - 1] with
          | none => exact ⟨_, rfl⟩
          | some y => exact ih _ (by omega) (by omega) (by omega)
  exact t 7 p p1 p2 (by have := (hr p p1 (by omega)).2.2; omega)
theorem seqO_some {α : Type} : ∀ {l : List (Option α)}, (∀ x ∈ l, ∃ y, x = some y) → ∃ r, seqO l = some r
  | [], _ => ⟨[], rfl⟩
  | x :: r, h => by
    obtain ⟨y, rfl⟩ := h x List.mem_cons_self
    obtain ⟨q, hq⟩ := seqO_some (l := r) fun z hz => h z (List.mem_cons_of_mem _ hz)
    exact ⟨y :: q, by unfold seqO; rw [hq]⟩
/-- two namings, one behind the other -/
theorem after_all (nv : Nm v) (nw : Nm w) (hw : w.length = v.length) : ∃ r, afterO 7 v w = some r ∧ Nm r ∧ r.length = v.length ∧ ∀ c, Good c → c.length = v.length → namedS r c = namedS w (namedS v c) := by
  have one := nv.one
  have six := nv.six
  have it : ∀ k, k < w.length → ∃ y, itemO 7 v w k = some y ∧ ((y = none ∧ v[k]? = some none ∧ w[k]? = some none) ∨ (∃ x : Int, 0 ≤ x ∧ y = some x ∧ w[k]? = some (some x)) ∨ ∃ (p : Nat) (u : Int), (1 ≤ p ∧ p ≤ v.length) ∧ y = some u ∧ upO v w 7 p = some u ∧ ((∃ y, v[p - 1]? = some (some y)) ∨ ∃ y, w[p - 1]? = some (some y)) ∧ ((w[k]? = some none ∧ p = k + 1) ∨ w[k]? = some (some (-(p : Int))))) := fun k hk => by
    unfold itemO
    have hq : w[k]? = some w[k] := List.getElem?_eq_getElem hk
    have hv : v[k]? = some v[k] := List.getElem?_eq_getElem (by omega)
    cases ho : w[k] with
    | none =>
      rw [hq, ho]
      cases hx : v[k] with
      | none => exact ⟨none, by rw [hv, hx], .inl ⟨rfl, by rw [hv, hx], rfl⟩⟩
      | some y =>
        obtain ⟨u, hu⟩ := up_some nv hw (p := k + 1) (by omega) (by omega)
        exact ⟨some u, by rw [hv, hx]; show (upO v w 7 (k + 1)).map some = _; rw [hu]; rfl, .inr (.inr ⟨k + 1, u, ⟨by omega, by omega⟩, rfl, hu, .inl ⟨y, by rw [Nat.add_sub_cancel, hv, hx]⟩, .inl ⟨rfl, rfl⟩⟩)⟩
    | some x =>
      rw [hq, ho]
      have hw2 : w[k]? = some (some x) := by rw [hq, ho]
      obtain ⟨x1, x2, x3⟩ := nw.rng _ _ hw2
      by_cases z : 0 ≤ x
      · exact ⟨some x, by simp [z], .inr (.inl ⟨x, z, rfl, rfl⟩)⟩
      · obtain ⟨u, hu⟩ := up_some nv hw (p := (-x).toNat) (by omega) (by omega)
        obtain ⟨y, hy⟩ := nw.mv _ _ hw2 (by omega)
        have ei : (-x - 1).toNat = (-x).toNat - 1 := by omega
        rw [ei] at hy
        refine ⟨some u, ?_, .inr (.inr ⟨(-x).toNat, u, ⟨by omega, by omega⟩, rfl, hu, .inr ⟨y, hy⟩, .inr ?_⟩)⟩
        · simp only [z, if_false, hu]; rfl
        · congr 2; omega
  obtain ⟨r, hr⟩ : ∃ r, afterO 7 v w = some r := seqO_some fun x hx => by
    obtain ⟨k, hk, rfl⟩ := List.mem_map.mp hx
    obtain ⟨y, hy, _⟩ := it k (List.mem_range.mp hk)
    exact ⟨y, hy⟩
  obtain ⟨rl, rg⟩ := afterO_get hr
  have rl2 : r.length = v.length := by omega
  have rk : ∀ k, k < v.length → ∃ y, r[k]? = some y ∧ ((y = none ∧ v[k]? = some none ∧ w[k]? = some none) ∨ (∃ x : Int, 0 ≤ x ∧ y = some x ∧ w[k]? = some (some x)) ∨ ∃ (p : Nat) (u : Int), (1 ≤ p ∧ p ≤ v.length) ∧ y = some u ∧ upO v w 7 p = some u ∧ ((∃ y, v[p - 1]? = some (some y)) ∨ ∃ y, w[p - 1]? = some (some y)) ∧ ((w[k]? = some none ∧ p = k + 1) ∨ w[k]? = some (some (-(p : Int))))) := fun k hk => by
    obtain ⟨x, h1, h2⟩ := rg k (by omega)
    obtain ⟨y, h3, h4⟩ := it k (by omega)
    rw [h2] at h3
    cases h3
    exact ⟨x, h1, h4⟩
  have some_of : ∀ k, k < v.length → ((∃ y, v[k]? = some (some y)) ∨ ∃ y, w[k]? = some (some y)) → ∃ y, r[k]? = some (some y) := fun k hk h => by
    obtain ⟨y, h1, h2⟩ := rk k hk
    rcases h2 with ⟨rfl, a, b⟩ | ⟨x, _, rfl, _⟩ | ⟨p, u, _, rfl, _⟩
    · rcases h with ⟨y, h⟩ | ⟨y, h⟩
      · rw [a] at h; cases h
      · rw [b] at h; cases h
    · exact ⟨x, h1⟩
    · exact ⟨u, h1⟩
  have st : staysS r = bothS v w := by
    unfold bothS staysS
    rw [List.filter_filter, rl2]
    refine List.filter_congr fun k hk => ?_
    obtain ⟨k1, k2⟩ := mem_ones.mp hk
    obtain ⟨y, h1, h2⟩ := rk (k - 1) (by omega)
    have m : k ∈ (ones w.length).filter (fun k => decide (w[k - 1]? = some none)) ↔ w[k - 1]? = some none := by
      rw [List.mem_filter, mem_ones]
      simp; intro _; omega
    rcases h2 with ⟨rfl, a, b⟩ | ⟨x, _, rfl, a⟩ | ⟨p, u, _, rfl, _, hm, a⟩
    · have := m.mpr b
      rw [h1, decide_eq_true rfl, decide_eq_true this, a]; rfl
    · have : ¬ k ∈ (ones w.length).filter (fun k => decide (w[k - 1]? = some none)) := fun z => by
        have := m.mp z
        rw [a] at this; cases this
      rw [h1, decide_eq_false this, Bool.false_and]
      exact decide_eq_false (by simp)
    · rw [h1, decide_eq_false (by simp)]
      rcases a with ⟨a, e⟩ | a
      · have e2 : p = k := by omega
        subst e2
        rcases hm with ⟨y, hm⟩ | ⟨y, hm⟩
        · rw [hm]; simp
        · rw [a] at hm; cases hm
      · have : ¬ k ∈ (ones w.length).filter (fun k => decide (w[k - 1]? = some none)) := fun z => by
          have := m.mp z
          rw [a] at this; cases this
        rw [decide_eq_false this, Bool.false_and]
  have eq : ∀ c, Good c → c.length = v.length → namedS r c = namedS w (namedS v c) := fun c g hl => by
    have gn := named_good nv g hl
    have ll := namedS_len v c
    refine ext_up (by rw [namedS_len, namedS_len]; omega) fun k k1 k2 => ?_
    rw [namedS_len] at k2
    rw [namedS_up k1 k2, namedS_up k1 (by omega)]
    obtain ⟨y, h1, h2⟩ := rk (k - 1) (by omega)
    unfold actN
    rw [h1, st]
    rcases h2 with ⟨rfl, a, b⟩ | ⟨x, hx, rfl, a⟩ | ⟨p, u, ⟨p1, p2⟩, rfl, hu, hm, a⟩
    · rw [b]
      show nearS c (bothS v w) k = nearS (namedS v c) (staysS w) k
      rw [near_both]
      have e := (named_chain nv g hl k k1 (by omega)).1 a
      unfold nearS
      rw [e]
    · rw [a]
      show (if 0 ≤ x then x.toNat else _) = (if 0 ≤ x then x.toNat else _)
      rw [if_pos hx, if_pos hx]
    · have q := up_val nv g hl hw 7 p u p1 p2 hu
      have q2 : (if 0 ≤ u then u.toNat else nearS c (bothS v w) (-u).toNat) = nearS (namedS v c) (staysS w) p := q.symm
      show (if 0 ≤ u then u.toNat else nearS c (bothS v w) (-u).toNat) = _
      rw [q2]
      rcases a with ⟨a, e⟩ | a
      · have e2 : p = k := by omega
        subst e2
        rw [a]
      · rw [a]
        show _ = if 0 ≤ -(p : Int) then _ else nearS (namedS v c) (staysS w) (-(-(p : Int))).toNat
        rw [if_neg (by omega)]
        congr 1; omega
  refine ⟨r, hr, ?_, rl2, eq⟩
  have fg := flat_good one six
  have fl : (List.replicate v.length 0).length = v.length := List.length_replicate
  have g1 := named_good nv fg fl
  have g2 := named_good nw g1 (by rw [namedS_len]; exact hw.symm)
  have l2 : (namedS w (namedS v (List.replicate v.length 0))).length = v.length := by rw [namedS_len]; exact hw
  have ptr : ∀ k x, r[k]? = some (some x) → 0 ≤ x → (up (namedS w (namedS v (List.replicate v.length 0))) (k + 1) : Int) = x := fun k x hk hx => by
    have kl : k < v.length := by have := (List.getElem?_eq_some_iff.mp hk).1; omega
    rw [← eq _ fg fl, namedS_up (by omega) (by omega)]
    unfold actN
    rw [Nat.add_sub_cancel, hk]
    show ((if 0 ≤ x then x.toNat else _ : Nat) : Int) = x
    rw [if_pos hx]; omega
  obtain ⟨rr, hrr⟩ := g2.rk
  refine ⟨by omega, by omega, fun k x hk => ?_, fun k x hk hx => ?_, _, g2, by rw [l2, rl2], ptr⟩
  · have kl : k < v.length := by have := (List.getElem?_eq_some_iff.mp hk).1; omega
    have ne : x ≠ (k : Int) + 1 := fun e => by
      have e1 := ptr k x hk (by omega)
      have e2 : up (namedS w (namedS v (List.replicate v.length 0))) (k + 1) = k + 1 := by omega
      have := (hrr (k + 1) (by omega) (by omega)).2.1 (by omega)
      rw [e2] at this; omega
    obtain ⟨y, h1, h2⟩ := rk k kl
    rw [hk] at h1
    cases h1
    rw [rl2]
    rcases h2 with ⟨h, _⟩ | ⟨x2, hx2, h, a⟩ | ⟨p, u, ⟨p1, p2⟩, h, hu, hm, a⟩
    · cases h
    · cases h
      have := nw.rng _ _ a
      exact ⟨by omega, by omega, ne⟩
    · cases h
      have := up_is nv hw 7 p _ p1 p2 hm hu
      exact ⟨by omega, by omega, ne⟩
  · have kl : k < v.length := by have := (List.getElem?_eq_some_iff.mp hk).1; omega
    obtain ⟨y, h1, h2⟩ := rk k kl
    rw [hk] at h1
    cases h1
    rcases h2 with ⟨h, _⟩ | ⟨x2, hx2, h, a⟩ | ⟨p, u, ⟨p1, p2⟩, h, hu, hm, a⟩
    · cases h
    · cases h; omega
    · cases h
      have := up_is nv hw 7 p _ p1 p2 hm hu
      exact some_of _ (by omega) (this.2.2 hx)
end
end Cd
namespace Cd
open PySem
/-! Namings done: what the defs compute. -/
theorem upO_mono (v w : List (Option Int)) : ∀ (f p : Nat) (u : Int), upO v w f p = some u → upO v w (f + 1) p = some u
  | 0, p, u, h => by cases h
  | f + 1, p, u, h => by
    unfold upO at h ⊢
    cases hx : v[p - 1]? with
    | none => rw [hx] at h; cases h
    | some o =>
      rw [hx] at h
      cases o with
      | none => exact h
      | some ch =>
        have h0 : (if ch ≤ 0 then some ch else (match w[(ch - 1).toNat]? with | none => none | some none => some ch | some (some _) => upO v w f ch.toNat)) = some u := h
        show (if ch ≤ 0 then some ch else (match w[(ch - 1).toNat]? with | none => none | some none => some ch | some (some _) => upO v w (f + 1) ch.toNat)) = some u
        by_cases z : ch ≤ 0
        · rw [if_pos z] at h0 ⊢; exact h0
        · rw [if_neg z] at h0 ⊢
          cases hq : w[(ch - 1).toNat]? with
          | none => rw [hq] at h0; cases h0
          | some o2 =>
            rw [hq] at h0
            cases o2 with
            | none => exact h0
            | some y => exact upO_mono v w f ch.toNat u h0
theorem upO_le {v w : List (Option Int)} {f g p : Nat} {u : Int} (h : upO v w f p = some u) (hg : f ≤ g) : upO v w g p = some u := by
  induction g with
  | zero => have : f = 0 := by omega
            subst this; exact h
  | succ g ih =>
    by_cases e : f = g + 1
    · subst e; exact h
    · exact upO_mono v w g p u (ih (by omega))
theorem up_some_n {v w : List (Option Int)} (nv : Nm v) (hw : w.length = v.length) {p : Nat} (p1 : 1 ≤ p) (p2 : p ≤ v.length) : ∃ u, upO v w (v.length + 1) p = some u := by
  obtain ⟨c', g', l', h'⟩ := nv.ch
  obtain ⟨r, hr⟩ := g'.rk
  have t : ∀ (f p : Nat), 1 ≤ p → p ≤ v.length → r p < f → ∃ u, upO v w f p = some u := by
    intro f
    induction f with
    | zero => intro p _ _ h; omega
    | succ f ih =>
      intro p p1 p2 hf
      unfold upO
      have hv : v[p - 1]? = some v[p - 1] := List.getElem?_eq_getElem (by omega)
      cases hx : v[p - 1] with
      | none => rw [hv, hx]; exact ⟨_, rfl⟩
      | some ch =>
        rw [hv, hx]
        have hv2 : v[p - 1]? = some (some ch) := by rw [hv, hx]
        obtain ⟨c1, c2, c3⟩ := nv.rng _ _ hv2
        by_cases z : ch ≤ 0
        · exact ⟨ch, by simp [z]⟩
        · have e := h' _ _ hv2 (by omega)
          have e9 : p - 1 + 1 = p := by omega
          rw [e9] at e
          have e8 : up c' p = ch.toNat := by omega
          have lt := (hr p p1 (by omega)).2.1 (by omega)
          rw [e8] at lt
          have ei : (ch - 1).toNat = ch.toNat - 1 := by omega
          have hq : w[ch.toNat - 1]? = some w[ch.toNat - 1] := List.getElem?_eq_getElem (by omega)
          simp only [z, if_false, ei, hq]
          cases w[ch.toNat - 1] with
          | none => exact ⟨_, rfl⟩
          | some y => exact ih _ (by omega) (by omega) (by omega)
  exact t _ p p1 p2 (by have := (hr p p1 (by omega)).2.2; omega)
theorem stays_up (v : List (Option Int)) : ((List.range' 0 v.length).filter fun i => decide (v[i]? = some none)).map (fun i => i + 1) = staysS v := by
  unfold staysS
  rw [← ones_map, List.filter_map]; rfl
def moversS (v : List (Option Int)) : List Nat := ((List.range' 0 v.length).filter fun i => !decide (v[i]? = some none)).map fun i => i + 1
section
variable {ns : List Int} {C : CT}
theorem mapL_ix {f : PyData → M (Option PyData)} : ∀ {l : List PyData} {g : Nat → Option PyData}, (∀ i x, l[i]? = some x → f x = M.ret (g i)) → mapL f l = M.ret ((List.range l.length).filterMap g)
  | [], _, _ => rfl
  | x :: r, g, h => by
    have e0 : mapL f (x :: r) = M.bd (f x) fun o => M.bd (mapL f r) fun l => match o with | some y => M.ret (y :: l) | none => M.ret l := rfl
    rw [e0, h 0 x rfl, bd_ret, mapL_ix (g := fun i => g (i + 1)) fun i y hy => h (i + 1) y (by simpa using hy), bd_ret, List.length_cons, List.range_succ_eq_map]
    cases e : g 0 with
    | none => rw [List.filterMap_cons_none e, List.filterMap_map]; rfl
    | some y => rw [List.filterMap_cons_some e, List.filterMap_map]; rfl
theorem fm_range (n : Nat) (p : Nat → Bool) (h : Nat → PyData) : (List.range n).filterMap (fun i => if p i then some (h i) else none) = ((List.range' 0 n).filter p).map h := by
  rw [List.range_eq_range']
  induction List.range' 0 n with
  | nil => rfl
  | cons a r ih =>
    by_cases z : p a = true
    · rw [List.filterMap_cons_some (b := h a) (by rw [if_pos z]), ih, List.filter_cons_of_pos z]; rfl
    · rw [List.filterMap_cons_none (by rw [if_neg z]), ih, List.filter_cons_of_neg z]
/-- a comprehension over a naming and its places -/
theorem lcO {own : List (Str × Nat)} {a b : Nat} {it : It} {c e : E} {env : List Slot} {v : List (Option Int)} (E : Nat → Option Int → List Slot) (p : Nat → Bool) (h : Nat → PyData) (hi : evI ns C it env = M.ret (enumD 0 (nL v))) (hv : v.length ≤ 6)
    (hE : ∀ (i : Nat) (o : Option Int), v[i]? = some o → setAll (wipeE env (own.map (·.2))) [a, b] [.int (i : Int), oD o] = some (E i o)) (hc : ∀ (i : Nat) (o : Option Int), v[i]? = some o → evT ns C c (E i o) = M.ret (p i)) (he : ∀ (i : Nat) (o : Option Int), v[i]? = some o → p i = true → evE ns C e (E i o) = M.ret (h i)) :
    evE ns C (.lc own (.tp [a, b]) it c e) env = M.ret (.list (((List.range' 0 v.length).filter p).map h)) := by
  simp only [evE, hi, bd_ret]
  have k := mapL_ix (f := fun x => match bindT (wipeE env (own.map (·.2))) (.tp [a, b]) x with
    | some env' => M.bd (evT ns C c env') fun k => if k then M.bd (evE ns C e env') fun y => M.ret (some y) else M.ret none
    | none => M.no) (l := enumD 0 (nL v)) (g := fun i => if p i then some (h i) else none) fun i x hx => by
      obtain ⟨z, hz, rfl⟩ := enumD_get _ 0 i x hx
      rw [List.getElem?_map] at hz
      cases hy : v[i]? with
      | none => rw [hy] at hz; cases hz
      | some o =>
        rw [hy] at hz
        cases hz
        have e0 : (0 : Int) + (i : Int) = (i : Int) := by omega
        rw [e0]
        show (match setAll (wipeE env (own.map (·.2))) [a, b] [.int (i : Int), oD o] with | some env' => M.bd (evT ns C c env') (fun k => if k then M.bd (evE ns C e env') fun y => M.ret (some y) else M.ret none) | none => M.no) = _
        rw [hE i o hy]
        show M.bd (evT ns C c (E i o)) _ = _
        rw [hc i o hy, bd_ret]
        by_cases z : p i = true
        · rw [if_pos z, if_pos z, he i o hy z, bd_ret]
        · rw [if_neg z, if_neg z]
  rw [enumD_len, nL_len, fm_range] at k
  exact (congrArg (fun m => M.bd m fun r => if r.length ≤ LB then M.ret (PyData.list r) else M.no) k).trans (by
    rw [bd_ret, if_pos]
    rw [List.length_map]
    refine Nat.le_trans (List.length_filter_le ..) ?_
    rw [List.length_range']; unfold LB; omega)
theorem isNone_at {v : List (Option Int)} {i : Nat} {o : Option Int} (h : v[i]? = some o) : o.isNone = decide (v[i]? = some none) := by rw [h]; cases o <;> simp
theorem isSome_at {v : List (Option Int)} {i : Nat} {o : Option Int} (h : v[i]? = some o) : o.isSome = !decide (v[i]? = some none) := by rw [h]; cases o <;> simp
def ir_movers_of : SL := (.cons [] (.ret (.lc [("at", 1), ("one", 2)] (.tp [1, 2]) (.enum (.var 0)) (.cmp .isNotN (.var 2) .non) (.bin .add (.var 1) (.int 1))))
  .nil)
theorem movers_of_ok {v : List (Option Int)} (h6 : v.length ≤ 6) : exL ns C ir_movers_of [.sh (nD v), .no, .no] = M.ret (.rt (.list (mN (moversS v)))) := by
  refine exL_ret (x_ret ?_)
  unfold moversS
  rw [← map_mN]
  exact lcO (v := v) (env := [.sh (nD v), .no, .no]) (fun i o => [.sh (nD v), .sh (dN i), .sh (oD o)]) _ (fun i => dN (i + 1)) rfl h6 (fun i o _ => rfl) (fun i o h => (t_isNotN (a := .var 2) (o := o) rfl).trans (by rw [isSome_at h])) (fun i o h _ => rfl)
def ir_movers (f g : Nat) : SL := (.cons [] (.drop (.call f (.cons false (.var 0) .nil)))
  (.cons [] (.ret (.f1 .tuple (.call g (.cons false (.var 0) .nil))))
  .nil))
theorem movers_ok {f g : Nat} {v : List (Option Int)} (hf : NeedNmOk C f) (nv : Nm v) (hg : C g [.sh (nD v)] = M.ret (.list (mN (moversS v)))) : exL ns C (ir_movers f g) [.sh (nD v)] = M.ret (.rt (dT (moversS v))) :=
  st0 (x_need (d := .none) (l := [.sh (nD v)]) rfl (hf v nv)) (exL_ret (x_ret (e_f12 (x := .list (mN (moversS v))) (e_call2 (l := [.sh (nD v)]) rfl hg rfl) rfl)))
def ir_idle (f g : Nat) : SL := (.cons [] (.drop (.call f (.cons false (.var 0) .nil)))
  (.cons [] (.ret (.call g (.cons false (.var 0) .nil)))
  .nil))
theorem idle_ok {f g n : Nat} (h6 : n ≤ 6) (hf : C f [.sh (dN n)] = M.ret .none) (hg : IdleOk C g) : exL ns C (ir_idle f g) [.sh (dN n)] = M.ret (.rt (nD (idleO n))) :=
  st0 (x_need (d := .none) (l := [.sh (dN n)]) rfl hf) (exL_ret (x_ret (e_call2 (l := [.sh (dN n)]) rfl (hg n h6) rfl)))
def NearL (C : CT) (f : Nat) : Prop := ∀ c lot k, Good c → 1 ≤ k → k ≤ c.length → C f [.sh (dT c), .sh (dN k), .sh (.list (mN lot))] = M.ret (dN (nearS c lot k))
theorem nearest_of_gen {g : Nat} (hg : ChainOk C g) {c lot : List Nat} {k : Nat} (gd : Good c) (h1 : 1 ≤ k) (hl : k ≤ c.length) : exL ns C (ir_nearest_of g) [.sh (dT c), .sh (dN k), .sh (.list (mN lot)), .no] = M.ret (.rt (dN (nearS c lot k))) := by
  have lp : ∀ (l : List Nat) (s : Slot), ∃ s', frL (fun env x => match bindT env (.nm 3) x with | some env' => exL ns C (.cons [] (.ite (.cmp .isin (.var 3) (.var 2)) (.cons [] (.ret (.var 3)) .nil) .nil) .nil) env' | none => M.no) [.sh (dT c), .sh (dN k), .sh (.list (mN lot)), s] (mN l) = M.ret (match l.filter fun x => decide (x ∈ lot) with | [] => .nx [.sh (dT c), .sh (dN k), .sh (.list (mN lot)), s'] | x :: _ => .rt (dN x)) := by
    intro l
    induction l with
    | nil => exact fun s => ⟨s, rfl⟩
    | cons a r ih =>
      intro s
      obtain ⟨s', hs⟩ := ih (.sh (dN a))
      refine ⟨s', ?_⟩
      have t : evT ns C (.cmp .isin (.var 3) (.var 2)) [.sh (dT c), .sh (dN k), .sh (.list (mN lot)), .sh (dN a)] = M.ret (decide (a ∈ lot)) := t_cmp2 (x := dN a) (y := .list (mN lot)) rfl rfl (in_L ..)
      show M.bd (exL ns C (.cons [] (.ite (.cmp .isin (.var 3) (.var 2)) (.cons [] (.ret (.var 3)) .nil) .nil) .nil) [.sh (dT c), .sh (dN k), .sh (.list (mN lot)), .sh (dN a)]) _ = _
      by_cases z : a ∈ lot
      · rw [List.filter_cons_of_pos (by simpa using z)]
        rw [decide_eq_true z] at t
        have e1 : exL ns C (.cons [] (.ite (.cmp .isin (.var 3) (.var 2)) (.cons [] (.ret (.var 3)) .nil) .nil) .nil) [.sh (dT c), .sh (dN k), .sh (.list (mN lot)), .sh (dN a)] = M.ret (.rt (dN a)) := exL_ret (fz := []) (x_take t (exL_ret (x_ret rfl)))
        rw [e1, bd_ret]
      · rw [List.filter_cons_of_neg (by simpa using z)]
        rw [decide_eq_false z] at t
        have e1 : exL ns C (.cons [] (.ite (.cmp .isin (.var 3) (.var 2)) (.cons [] (.ret (.var 3)) .nil) .nil) .nil) [.sh (dT c), .sh (dN k), .sh (.list (mN lot)), .sh (dN a)] = M.ret (.nx [.sh (dT c), .sh (dN k), .sh (.list (mN lot)), .sh (dN a)]) := st0 (x_skip t) exL_nil
        rw [e1, bd_ret]
        exact hs
  obtain ⟨s', e⟩ := lp (chainS c k) .no
  have hi : evI ns C (.seq (.call g (.cons false (.var 0) (.cons false (.var 1) .nil)))) [.sh (dT c), .sh (dN k), .sh (.list (mN lot)), .no] = M.ret (mN (chainS c k)) := by
    have : evE ns C (.call g (.cons false (.var 0) (.cons false (.var 1) .nil))) [.sh (dT c), .sh (dN k), .sh (.list (mN lot)), .no] = M.ret (.list (mN (chainS c k))) := e_call2 (l := [.sh (dT c), .sh (dN k)]) rfl (hg c k gd h1 hl) rfl
    simp only [evI, rd, this, bd_ret, elemsD, of_some]
  have e2 := (x_fr (ns := ns) (C := C) (t := .nm 3) (env := [.sh (dT c), .sh (dN k), .sh (.list (mN lot)), .no]) rfl hi).trans e
  unfold nearS
  generalize (chainS c k).filter (fun x => decide (x ∈ lot)) = q at e2
  cases q with
  | nil => exact st0 e2 (exL_ret (x_ret rfl))
  | cons x r => exact exL_ret (fz := []) e2
def ir_law_near (f : Nat) : SL := (.cons [] (.set 3 (.lc [("_law_one", 4)] (.nm 4) (.seq (.call f (.cons false (.var 0) (.cons false (.var 1) .nil)))) (.cmp .isin (.var 4) (.var 2)) (.var 4)))
  (.cons [] (.ret (.ite (.cmp .ne (.var 3) (.lst .nil)) (.ix (.var 3) (.int 0)) (.int 0)))
  .nil))
theorem law_near_ok {f : Nat} (hf : ChainOk C f) {c lot : List Nat} {k : Nat} (g : Good c) (h1 : 1 ≤ k) (hl : k ≤ c.length) : exL ns C (ir_law_near f) [.sh (dT c), .sh (dN k), .sh (.list (mN lot)), .no, .no] = M.ret (.rt (dN (nearS c lot k))) := by
  have hi : evI ns C (.seq (.call f (.cons false (.var 0) (.cons false (.var 1) .nil)))) [.sh (dT c), .sh (dN k), .sh (.list (mN lot)), .no, .no] = M.ret (mN (chainS c k)) := by
    have : evE ns C (.call f (.cons false (.var 0) (.cons false (.var 1) .nil))) [.sh (dT c), .sh (dN k), .sh (.list (mN lot)), .no, .no] = M.ret (.list (mN (chainS c k))) := e_call2 (l := [.sh (dT c), .sh (dN k)]) rfl (hf c k g h1 hl) rfl
    simp only [evI, rd, this, bd_ret, elemsD, of_some]
  have ch := chain_all g k
  refine st0 (e1 := [.sh (dT c), .sh (dN k), .sh (.list (mN lot)), .ow (mN ((chainS c k).filter fun x => decide (x ∈ lot))), .no]) (x_set (lcF (l := chainS c k) (fun x => decide (x ∈ lot)) hi (by unfold LB; omega) (fun x _ => t_cmp2 (env := [.sh (dT c), .sh (dN k), .sh (.list (mN lot)), .no, .sh (dN x)]) (x := dN x) (y := .list (mN lot)) rfl rfl (in_L ..)) (fun _ => rfl))) (exL_ret (x_ret ?_))
  have t := t_cmp2 (ns := ns) (C := C) (a := .var 3) (b := .lst .nil) (env := [.sh (dT c), .sh (dN k), .sh (.list (mN lot)), .ow (mN ((chainS c k).filter fun x => decide (x ∈ lot))), .no]) rfl rfl (ne_L ((chainS c k).filter fun x => decide (x ∈ lot)) [])
  refine (e_ite2 t).trans ?_
  unfold nearS
  cases (chainS c k).filter fun x => decide (x ∈ lot) <;> rfl
def ir_named_of (f : Nat) : SL := (.cons [] (.par [2, 3] (.cons false (.lc [("at", 4), ("one", 5)] (.tp [4, 5]) (.enum (.var 0)) (.cmp .isN (.var 5) .non) (.bin .add (.var 4) (.int 1))) (.cons false (.lst .nil) .nil)))
  (.cons [] (.fr (.tp [4, 5]) (.enum (.var 0)) (.cons [] (.ite (.and (.cmp .isNotN (.var 5) .non) (.cmp .ge (.var 5) (.int 0))) (.cons [] (.app 3 (.var 5))
  .nil) (.cons [2] (.app 3 (.call f (.cons false (.var 1) (.cons false (.ite (.cmp .isN (.var 5) .non) (.bin .add (.var 4) (.int 1)) (.bin .sub (.int 0) (.var 5))) (.cons false (.var 2) .nil)))))
  .nil))
  .nil))
  (.cons [] (.ret (.f1 .tuple (.var 3)))
  .nil)))
theorem actN_take (v : List (Option Int)) (c : List Nat) (i : Nat) (h : i < v.length) : (namedS v c).take (i + 1) = (namedS v c).take i ++ [actN v c (i + 1)] := by
  have e : (namedS v c)[i]? = some (actN v c (i + 1)) := by
    unfold namedS
    have := ones_get (n := v.length) (k := i + 1) (by omega) (by omega)
    rw [Nat.add_sub_cancel] at this
    rw [List.getElem?_map, this]; rfl
  rw [List.take_succ, e]; rfl
theorem named_of_ok {f : Nat} (hf : NearL C f) {v : List (Option Int)} {c : List Nat} (nv : Nm v) (g : Good c) (hl : c.length = v.length) : exL ns C (ir_named_of f) [.sh (nD v), .sh (dT c), .no, .no, .no, .no] = M.ret (.rt (dT (namedS v c))) := by
  have six := nv.six
  have lc := lcO (ns := ns) (C := C) (own := [("at", 4), ("one", 5)]) (a := 4) (b := 5) (it := .enum (.var 0)) (c := .cmp .isN (.var 5) .non) (e := .bin .add (.var 4) (.int 1)) (v := v) (env := [.sh (nD v), .sh (dT c), .no, .no, .no, .no]) (fun i o => [.sh (nD v), .sh (dT c), .no, .no, .sh (dN i), .sh (oD o)]) (fun i => decide (v[i]? = some none)) (fun i => dN (i + 1)) rfl six (fun i o _ => rfl) (fun i o h => (t_isN (a := .var 5) (o := o) rfl).trans (by rw [isNone_at h])) (fun i o h _ => rfl)
  rw [map_mN, stays_up] at lc
  have w := frL_inv (f := fun env x => match bindT env (.tp [4, 5]) x with | some env' => exL ns C (.cons [] (.ite (.and (.cmp .isNotN (.var 5) .non) (.cmp .ge (.var 5) (.int 0))) (.cons [] (.app 3 (.var 5)) .nil) (.cons [2] (.app 3 (.call f (.cons false (.var 1) (.cons false (.ite (.cmp .isN (.var 5) .non) (.bin .add (.var 4) (.int 1)) (.bin .sub (.int 0) (.var 5))) (.cons false (.var 2) .nil))))) .nil)) .nil) env' | none => M.no) (l := enumD 0 (nL v))
    (fun i env => ∃ s2 s4 s5, (s2 = .ow (mN (staysS v)) ∨ s2 = .sh (.list (mN (staysS v)))) ∧ env = [.sh (nD v), .sh (dT c), s2, .ow (mN ((namedS v c).take i)), s4, s5]) (fun i x env hx ⟨s2, s4, s5, h2, he⟩ => by
      subst he
      obtain ⟨z, hz, rfl⟩ := enumD_get _ 0 i x hx
      rw [List.getElem?_map] at hz
      cases hy : v[i]? with
      | none => rw [hy] at hz; cases hz
      | some o =>
        rw [hy] at hz
        cases hz
        have hi : i < v.length := (List.getElem?_eq_some_iff.mp hy).1
        have e0 : (0 : Int) + (i : Int) = (i : Int) := by omega
        rw [e0]
        have ll : (mN ((namedS v c).take i)).length < LB := by rw [lenN, List.length_take]; unfold LB; omega
        rw [actN_take v c i hi, mN_snoc]
        have t1 : evT ns C (.cmp .isNotN (.var 5) .non) [.sh (nD v), .sh (dT c), s2, .ow (mN ((namedS v c).take i)), .sh (dN i), .sh (oD o)] = M.ret o.isSome := t_isNotN rfl
        have call : ∀ m, 1 ≤ m → m ≤ c.length → actN v c (i + 1) = nearS c (staysS v) m → evE ns C (.ite (.cmp .isN (.var 5) .non) (.bin .add (.var 4) (.int 1)) (.bin .sub (.int 0) (.var 5))) [.sh (nD v), .sh (dT c), .sh (.list (mN (staysS v))), .ow (mN ((namedS v c).take i)), .sh (dN i), .sh (oD o)] = M.ret (dN m) → exL ns C (.cons [2] (.app 3 (.call f (.cons false (.var 1) (.cons false (.ite (.cmp .isN (.var 5) .non) (.bin .add (.var 4) (.int 1)) (.bin .sub (.int 0) (.var 5))) (.cons false (.var 2) .nil))))) .nil) [.sh (nD v), .sh (dT c), s2, .ow (mN ((namedS v c).take i)), .sh (dN i), .sh (oD o)] = M.ret (.nx [.sh (nD v), .sh (dT c), .sh (.list (mN (staysS v))), .ow (mN ((namedS v c).take i) ++ [dN (actN v c (i + 1))]), .sh (dN i), .sh (oD o)]) := fun m m1 m2 ea ee => by
          have ht : thaw [.sh (nD v), .sh (dT c), s2, .ow (mN ((namedS v c).take i)), .sh (dN i), .sh (oD o)] [2] = [.sh (nD v), .sh (dT c), .sh (.list (mN (staysS v))), .ow (mN ((namedS v c).take i)), .sh (dN i), .sh (oD o)] := by
            rcases h2 with rfl | rfl <;> rfl
          rw [exL_step (e1 := [.sh (nD v), .sh (dT c), .sh (.list (mN (staysS v))), .ow (mN ((namedS v c).take i) ++ [dN (actN v c (i + 1))]), .sh (dN i), .sh (oD o)]) (by
            rw [ht]
            exact x_app (i := 3) (l := mN ((namedS v c).take i)) (d := dN (actN v c (i + 1))) (e_call2 (l := [.sh (dT c), .sh (dN m), .sh (.list (mN (staysS v)))]) (aa3 rfl (a_hand (fun _ => rfl) ee) rfl) (by rw [hf c _ m g m1 m2, ea]) rfl) rfl ll), exL_nil]
        cases o with
        | none =>
          refine ⟨[.sh (nD v), .sh (dT c), .sh (.list (mN (staysS v))), .ow (mN ((namedS v c).take i) ++ [dN (actN v c (i + 1))]), .sh (dN i), .sh .none], ?_, _, _, _, .inr rfl, rfl⟩
          have ea : actN v c (i + 1) = nearS c (staysS v) (i + 1) := by unfold actN; rw [Nat.add_sub_cancel, hy]
          show exL ns C _ [.sh (nD v), .sh (dT c), s2, .ow (mN ((namedS v c).take i)), .sh (dN i), .sh .none] = _
          refine st0 (e1 := [.sh (nD v), .sh (dT c), .sh (.list (mN (staysS v))), .ow (mN ((namedS v c).take i) ++ [dN (actN v c (i + 1))]), .sh (dN i), .sh .none]) ?_ exL_nil
          refine (x_ite (t_and0 t1)).trans ?_
          rw [if_neg (by simp)]
          exact call (i + 1) (by omega) (by omega) ea rfl
        | some x =>
          obtain ⟨x1, x2, x3⟩ := nv.rng _ _ hy
          have t2 : evT ns C (.cmp .ge (.var 5) (.int 0)) [.sh (nD v), .sh (dT c), s2, .ow (mN ((namedS v c).take i)), .sh (dN i), .sh (.int x)] = M.ret (decide (0 ≤ x)) := t_cmp2 (x := .int x) (y := .int 0) rfl rfl rfl
          have t3 := (t_and2 t1 fun _ => t2).trans (by rw [show (some x).isSome = true from rfl, Bool.true_and])
          by_cases z : 0 ≤ x
          · rw [decide_eq_true z] at t3
            have ea : actN v c (i + 1) = x.toNat := by unfold actN; rw [Nat.add_sub_cancel, hy]; exact if_pos z
            have ed : PyData.int x = dN (actN v c (i + 1)) := by
              rw [ea]
              show PyData.int x = PyData.int ((x.toNat : Nat) : Int)
              congr 1; omega
            refine ⟨[.sh (nD v), .sh (dT c), s2, .ow (mN ((namedS v c).take i) ++ [dN (actN v c (i + 1))]), .sh (dN i), .sh (.int x)], ?_, _, _, _, h2, rfl⟩
            show exL ns C _ [.sh (nD v), .sh (dT c), s2, .ow (mN ((namedS v c).take i)), .sh (dN i), .sh (.int x)] = _
            rw [← ed]
            refine st0 (e1 := [.sh (nD v), .sh (dT c), s2, .ow (mN ((namedS v c).take i) ++ [.int x]), .sh (dN i), .sh (.int x)]) ?_ exL_nil
            refine (x_ite t3).trans ?_
            rw [if_pos rfl]
            exact st0 (x_app (i := 3) (l := mN ((namedS v c).take i)) (d := .int x) rfl rfl ll) exL_nil
          · rw [decide_eq_false z] at t3
            have ea : actN v c (i + 1) = nearS c (staysS v) (-x).toNat := by unfold actN; rw [Nat.add_sub_cancel, hy]; exact if_neg z
            refine ⟨[.sh (nD v), .sh (dT c), .sh (.list (mN (staysS v))), .ow (mN ((namedS v c).take i) ++ [dN (actN v c (i + 1))]), .sh (dN i), .sh (.int x)], ?_, _, _, _, .inr rfl, rfl⟩
            show exL ns C _ [.sh (nD v), .sh (dT c), s2, .ow (mN ((namedS v c).take i)), .sh (dN i), .sh (.int x)] = _
            refine st0 (e1 := [.sh (nD v), .sh (dT c), .sh (.list (mN (staysS v))), .ow (mN ((namedS v c).take i) ++ [dN (actN v c (i + 1))]), .sh (dN i), .sh (.int x)]) ?_ exL_nil
            refine (x_ite t3).trans ?_
            rw [if_neg (by simp)]
            refine call (-x).toNat (by omega) (by omega) ea ?_
            show M.ret (PyData.int (0 - x)) = M.ret (PyData.int (((-x).toNat : Nat) : Int))
            congr 2; omega) (env := [.sh (nD v), .sh (dT c), .ow (mN (staysS v)), .ow [], .no, .no]) ⟨_, _, _, .inl rfl, rfl⟩
  obtain ⟨e, k1, s2, s4, s5, h2, he⟩ := w
  subst he
  have el : (enumD 0 (nL v)).length = (namedS v c).length := by rw [enumD_len, nL_len, namedS_len]
  rw [el, List.take_length] at k1
  exact st0 (e1 := [.sh (nD v), .sh (dT c), .ow (mN (staysS v)), .ow [], .no, .no]) (x_par (l := [.list (mN (staysS v)), .list []]) (l_one lc (l_one rfl rfl)) rfl) (st0 ((x_fr (l := enumD 0 (nL v)) rfl rfl).trans k1) (exL_ret (x_ret rfl)))
def NamedOfOk (C : CT) (f : Nat) : Prop := ∀ v c, Nm v → Good c → c.length = v.length → C f [.sh (nD v), .sh (dT c)] = M.ret (dT (namedS v c))
def ir_named (f g h : Nat) : SL := (.cons [] (.drop (.call f (.cons false (.var 0) .nil)))
  (.cons [] (.ite (.or (.not (.call g (.cons false (.var 1) .nil))) (.cmp .ne (.f1 .len (.var 1)) (.f1 .len (.var 0)))) (.cons [] .fail
  .nil) .nil)
  (.cons [] (.ret (.call h (.cons false (.var 0) (.cons false (.var 1) .nil))))
  .nil)))
theorem named_ok {f q h : Nat} (hf : NeedNmOk C f) (hq : ∀ c, Good c → C q [.sh (dT c)] = M.ret (.bool true)) (hh : NamedOfOk C h) {v : List (Option Int)} {c : List Nat} (nv : Nm v) (g : Good c) (hl : c.length = v.length) : exL ns C (ir_named f q h) [.sh (nD v), .sh (dT c)] = M.ret (.rt (dT (namedS v c))) := by
  refine st0 (x_need (d := .none) (l := [.sh (nD v)]) rfl (hf v nv)) (st0 (x_skip (t_or2 (p := false) (q := false) (tt_not (b := true) (t_call2 (l := [.sh (dT c)]) rfl (hq c g) rfl rfl)) fun _ => ?_)) (exL_ret (x_ret (e_call2 (l := [.sh (nD v), .sh (dT c)]) rfl (hh v c nv g hl) rfl))))
  have := t_cmp2 (ns := ns) (C := C) (o := .ne) (a := .f1 .len (.var 1)) (b := .f1 .len (.var 0)) (env := [.sh (nD v), .sh (dT c)]) (x := dN c.length) (y := dN v.length) (e_lenT (i := 1) rfl) (e_lenO (i := 0) rfl) (ne_N ..)
  rwa [decide_eq_true hl] at this
end
end Cd
namespace Cd
open PySem
/-! The laws' own namings; rows by namings. -/
theorem idle_nm {n : Nat} (h1 : 1 ≤ n) (h6 : n ≤ 6) : Nm (idleO n) := by
  have no : ∀ k x, (idleO n)[k]? = some (some x) → False := fun k x h => by
    unfold idleO at h
    rw [List.getElem?_replicate] at h
    split at h <;> simp at h
  have l : (idleO n).length = n := List.length_replicate
  exact ⟨by omega, by omega, fun k x h => (no k x h).elim, fun k x h => (no k x h).elim, List.replicate n 0, flat_good h1 h6, by rw [List.length_replicate, l], fun k x h => (no k x h).elim⟩
theorem named_idle {n : Nat} {c : List Nat} (g : Good c) (hl : c.length = n) : namedS (idleO n) c = c := by
  have l : (idleO n).length = n := List.length_replicate
  have gt : ∀ k, 1 ≤ k → k ≤ n → (idleO n)[k - 1]? = some none := fun k k1 k2 => by
    unfold idleO
    rw [List.getElem?_replicate, if_pos (by omega)]
  refine ext_up (by rw [namedS_len, l, hl]) fun k k1 k2 => ?_
  rw [namedS_len, l] at k2
  rw [namedS_up k1 (by omega)]
  have e : actN (idleO n) c k = nearS c (staysS (idleO n)) k := by unfold actN; rw [gt k k1 k2]
  rw [e, near_step g _ k1 (by omega)]
  by_cases z : up c k = 0
  · rw [if_pos z, z]
  · have := g.le k1 (by omega)
    rw [if_neg z, if_pos (mem_stays.mpr ⟨⟨by omega, by omega⟩, gt _ (by omega) (by omega)⟩)]
theorem stepO_at {n p q k : Nat} (k1 : 1 ≤ k) (k2 : k ≤ n) : (stepO n p q)[k - 1]? = some (if k = p then some (q : Int) else none) := by
  unfold stepO
  rw [List.getElem?_map, ones_get k1 k2]; rfl
theorem named_step {n p q : Nat} {c : List Nat} (g : Good c) (hl : c.length = n) (s : StpN n p q) : namedS (stepO n p q) c = stepS c p q := by
  have l := stepO_len n p q
  have p1 := s.p1
  have pn := s.pn
  refine ext_up (by rw [namedS_len, l, stepS_len, hl]) fun k k1 k2 => ?_
  rw [namedS_len, l] at k2
  rw [namedS_up k1 (by omega), stepS_up k1 (by omega) p1]
  have st : ∀ j, 1 ≤ j → j ≤ n → (j ∈ staysS (stepO n p q) ↔ j ≠ p) := fun j j1 j2 => by
    rw [mem_stays, stepO_at j1 j2]
    by_cases e : j = p
    · subst e; simp
    · simp [e]; omega
  by_cases e : k = p
  · subst e
    rw [if_pos rfl]
    unfold actN
    rw [stepO_at k1 k2, if_pos rfl]
    show (if 0 ≤ (q : Int) then (q : Int).toNat else _) = q
    rw [if_pos (by omega)]; omega
  · rw [if_neg e]
    have ea : actN (stepO n p q) c k = nearS c (staysS (stepO n p q)) k := by unfold actN; rw [stepO_at k1 k2, if_neg e]
    rw [ea, near_step g _ k1 (by omega)]
    by_cases z : up c k = 0
    · rw [if_pos z, if_neg (by omega), z]
    · have := g.le k1 (by omega)
      rw [if_neg z]
      by_cases z2 : up c k = p
      · rw [if_neg (fun m => ((st _ (by omega) (by omega)).mp m) z2), if_pos z2, z2, near_step g _ p1 (by omega)]
        by_cases z3 : up c p = 0
        · rw [if_pos z3, z3]
        · have := g.le p1 (by omega)
          obtain ⟨r, hr⟩ := g.rk
          have lt := (hr p p1 (by omega)).2.1 z3
          have ne : up c p ≠ p := fun e => by rw [e] at lt; omega
          rw [if_neg z3, if_pos ((st _ (by omega) (by omega)).mpr ne)]
      · rw [if_pos ((st _ (by omega) (by omega)).mpr z2), if_neg z2]
theorem row_nm {n : Nat} (h1 : 1 ≤ n) (h6 : n ≤ 6) : ∀ (row : List (Nat × Nat)) (v : List (Option Int)), RowOk n row → Nm v → v.length = n → ∃ w, namO 7 n v row = some w ∧ Nm w ∧ w.length = n ∧ ∀ c, Good c → c.length = n → namedS w c = endS (namedS v c) row
  | [], v, _, nv, hv => ⟨v, rfl, nv, hv, fun c _ _ => rfl⟩
  | s :: r, v, hr, nv, hv => by
    have hs := hr s List.mem_cons_self
    obtain ⟨w, a1, a2, a3, a4⟩ := after_all nv (stepO_nm h1 h6 hs) (by rw [stepO_len, hv])
    obtain ⟨x, b1, b2, b3, b4⟩ := row_nm h1 h6 r w (fun t ht => hr t (List.mem_cons_of_mem _ ht)) a2 (by omega)
    refine ⟨x, by unfold namO; rw [a1]; exact b1, b2, b3, fun c g hl => ?_⟩
    have gn := named_good nv g (by omega)
    rw [b4 c g hl, a4 c g (by omega), named_step gn (by rw [namedS_len]; exact hv) hs]
    rfl
section
variable {ns : List Int} {C : CT}
def lu_body : SL := (.cons [] (.set 4 (.ix (.var 0) (.bin .sub (.var 2) (.int 1))))
  (.cons [] (.ite (.cmp .isN (.var 4) .non) (.cons [] (.ret (.bin .sub (.int 0) (.var 2)))
  .nil) .nil)
  (.cons [] (.ite (.or (.cmp .le (.var 4) (.int 0)) (.cmp .isN (.ix (.var 1) (.bin .sub (.var 4) (.int 1))) .non)) (.cons [] (.ret (.var 4))
  .nil) .nil)
  (.cons [] (.set 2 (.var 4))
  .nil))))
def ir_law_up : SL := (.cons [] (.fr (.nm 3) (.r1 (.bin .add (.f1 .len (.var 0)) (.int 1))) lu_body)
  (.cons [] (.ret .non)
  .nil))
theorem law_up_run {v w : List (Option Int)} : ∀ (l : List PyData) (f p : Nat) (u : Int) (s3 s4 : Slot), 1 ≤ p → f ≤ l.length → upO v w f p = some u → frL (fun env x => match bindT env (.nm 3) x with | some env' => exL ns C lu_body env' | none => M.no) [.sh (nD v), .sh (nD w), .sh (dN p), s3, s4] l = M.ret (.rt (.int u))
  | [], f, p, u, s3, s4, p1, hf, h => by
    have : f = 0 := by simpa using hf
    subst this
    cases h
  | y :: r, 0, p, u, s3, s4, p1, hf, h => by cases h
  | y :: r, f + 1, p, u, s3, s4, p1, hf, h => by
    have eq : frL (fun env x => match bindT env (.nm 3) x with | some env' => exL ns C lu_body env' | none => M.no) [.sh (nD v), .sh (nD w), .sh (dN p), s3, s4] (y :: r) = M.bd (exL ns C lu_body [.sh (nD v), .sh (nD w), .sh (dN p), .sh y, s4]) fun o => match o with | .nx env' => frL (fun env x => match bindT env (.nm 3) x with | some env' => exL ns C lu_body env' | none => M.no) env' r | .ct env' => frL (fun env x => match bindT env (.nm 3) x with | some env' => exL ns C lu_body env' | none => M.no) env' r | .bk env' => M.ret (.nx env') | .rt d => M.ret (.rt d) := rfl
    rw [eq]
    unfold upO at h
    cases hp : v[p - 1]? with
    | none => rw [hp] at h; cases h
    | some o =>
      rw [hp] at h
      have s1 : exS ns C (.set 4 (.ix (.var 0) (.bin .sub (.var 2) (.int 1)))) [.sh (nD v), .sh (nD w), .sh (dN p), .sh y, s4] = M.ret (.nx [.sh (nD v), .sh (nD w), .sh (dN p), .sh y, .sh (oD o)]) := x_set (d := oD o) (e_ixO (i := 0) rfl (e_sub1 (i := 2) rfl p1) hp)
      cases o with
      | none =>
        cases h
        have e1 : exL ns C lu_body [.sh (nD v), .sh (nD w), .sh (dN p), .sh y, s4] = M.ret (.rt (.int (-(p : Int)))) := by
          refine st0 s1 (exL_ret (fz := []) (x_take (t_isN (o := none) rfl) (exL_ret (x_ret (d := .int (-(p : Int))) ?_))))
          show M.ret (PyData.int (0 - (p : Int))) = _
          rw [Int.zero_sub]
        rw [e1]; rfl
      | some ch =>
        have t1 : evT ns C (.cmp .isN (.var 4) .non) [.sh (nD v), .sh (nD w), .sh (dN p), .sh y, .sh (.int ch)] = M.ret false := t_isN (o := some ch) rfl
        have t2 : evT ns C (.cmp .le (.var 4) (.int 0)) [.sh (nD v), .sh (nD w), .sh (dN p), .sh y, .sh (.int ch)] = M.ret (decide (ch ≤ 0)) := t_cmp2 (x := .int ch) (y := .int 0) rfl rfl (le_I ..)
        have h0 : (if ch ≤ 0 then some ch else (match w[(ch - 1).toNat]? with | none => none | some none => some ch | some (some _) => upO v w f ch.toNat)) = some u := h
        by_cases z : ch ≤ 0
        · rw [if_pos z] at h0
          have hu : ch = u := Option.some.inj h0
          subst hu
          rw [decide_eq_true z] at t2
          have e1 : exL ns C lu_body [.sh (nD v), .sh (nD w), .sh (dN p), .sh y, s4] = M.ret (.rt (.int ch)) :=
            st0 s1 (st0 (x_skip t1) (exL_ret (fz := []) (x_take (c := .or (.cmp .le (.var 4) (.int 0)) (.cmp .isN (.ix (.var 1) (.bin .sub (.var 4) (.int 1))) .non)) ((t_or2 (q := true) t2 fun y => by cases y).trans rfl) (exL_ret (x_ret rfl)))))
          rw [e1]; rfl
        · rw [if_neg z] at h0
          rw [decide_eq_false z] at t2
          cases ho : w[(ch - 1).toNat]? with
          | none => rw [ho] at h0; cases h0
          | some o2 =>
            rw [ho] at h0
            have ee : evE ns C (.bin .sub (.var 4) (.int 1)) [.sh (nD v), .sh (nD w), .sh (dN p), .sh y, .sh (.int ch)] = M.ret (.int (((ch - 1).toNat : Nat) : Int)) := by
              show M.ret (PyData.int (ch - 1)) = _
              congr 2; omega
            have t3 : evT ns C (.cmp .isN (.ix (.var 1) (.bin .sub (.var 4) (.int 1))) .non) [.sh (nD v), .sh (nD w), .sh (dN p), .sh y, .sh (.int ch)] = M.ret o2.isNone := t_isN (a := .ix (.var 1) (.bin .sub (.var 4) (.int 1))) (e_ixO (i := 1) rfl ee ho)
            cases o2 with
            | none =>
              have h2 : some ch = some u := h0
              have hu : ch = u := Option.some.inj h2
              subst hu
              have e1 : exL ns C lu_body [.sh (nD v), .sh (nD w), .sh (dN p), .sh y, s4] = M.ret (.rt (.int ch)) :=
                st0 s1 (st0 (x_skip t1) (exL_ret (fz := []) (x_take (t_or2 (p := false) (q := true) t2 fun _ => t3) (exL_ret (x_ret rfl)))))
              rw [e1]; rfl
            | some q =>
              have ed : PyData.int ch = dN ch.toNat := by
                show PyData.int ch = PyData.int ((ch.toNat : Nat) : Int)
                congr 1; omega
              have e1 : exL ns C lu_body [.sh (nD v), .sh (nD w), .sh (dN p), .sh y, s4] = M.ret (.nx [.sh (nD v), .sh (nD w), .sh (.int ch), .sh y, .sh (.int ch)]) :=
                st0 s1 (st0 (x_skip t1) (st0 (x_skip (t_or2 (p := false) (q := false) t2 fun _ => t3)) (st0 (x_set rfl) exL_nil)))
              rw [e1, bd_ret]
              show frL (fun env x => match bindT env (.nm 3) x with | some env' => exL ns C lu_body env' | none => M.no) [.sh (nD v), .sh (nD w), .sh (.int ch), .sh y, .sh (.int ch)] r = _
              rw [ed]
              exact law_up_run r f ch.toNat u _ _ (by omega) (by simpa using hf) h0
def LawUpOk (C : CT) (f : Nat) : Prop := ∀ v w p u, Nm v → w.length = v.length → 1 ≤ p → p ≤ v.length → upO v w 7 p = some u → C f [.sh (nD v), .sh (nD w), .sh (dN p)] = M.ret (.int u)
theorem law_up_ok {v w : List (Option Int)} {p : Nat} {u : Int} (nv : Nm v) (hw : w.length = v.length) (p1 : 1 ≤ p) (p2 : p ≤ v.length) (h : upO v w 7 p = some u) : exL ns C ir_law_up [.sh (nD v), .sh (nD w), .sh (dN p), .no, .no] = M.ret (.rt (.int u)) := by
  have six := nv.six
  obtain ⟨u2, h2⟩ := up_some_n nv hw p1 p2
  have h3 := upO_le h2 (show v.length + 1 ≤ 7 by omega)
  rw [h] at h3
  cases h3
  have k := law_up_run (ns := ns) (C := C) (v := v) (w := w) (mN (List.range' 0 (v.length + 1))) (v.length + 1) p u .no .no p1 (by rw [lenN, List.length_range']; exact Nat.le_refl _) h2
  have el : evE ns C (.bin .add (.f1 .len (.var 0)) (.int 1)) [.sh (nD v), .sh (nD w), .sh (dN p), .no, .no] = M.ret (dN (v.length + 1)) := e_addN (a := .f1 .len (.var 0)) (b := .int 1) (x := v.length) (y := 1) (e_lenO (i := 0) rfl) rfl
  exact exL_ret (fz := []) ((x_fr (t := .nm 3) (l := mN (List.range' 0 (v.length + 1))) (env := [.sh (nD v), .sh (nD w), .sh (dN p), .no, .no]) rfl (ii_r1 el (by omega))).trans k)
def la_body (u : Nat) : SL := (.cons [] (.set 4 (.ix (.var 1) (.var 3)))
  (.cons [] (.ite (.cmp .isN (.var 4) .non) (.cons [] (.app 2 (.ite (.cmp .isN (.ix (.var 0) (.var 3)) .non) .non (.call u (.cons false (.var 0) (.cons false (.var 1) (.cons false (.bin .add (.var 3) (.int 1)) .nil))))))
  .nil) (.cons [] (.app 2 (.ite (.cmp .ge (.var 4) (.int 0)) (.var 4) (.call u (.cons false (.var 0) (.cons false (.var 1) (.cons false (.bin .sub (.int 0) (.var 4)) .nil))))))
  .nil))
  .nil))
def ir_law_after (u : Nat) : SL := (.cons [] (.set 2 (.lst .nil))
  (.cons [] (.fr (.nm 3) (.r1 (.f1 .len (.var 0))) (la_body u))
  (.cons [] (.ret (.f1 .tuple (.var 2)))
  .nil)))
theorem law_after_ok {u : Nat} (hu : LawUpOk C u) {one other r : List (Option Int)} (nv : Nm one) (nw : Nm other) (hl : other.length = one.length) (h : afterO 7 one other = some r) : exL ns C (ir_law_after u) [.sh (nD one), .sh (nD other), .no, .no, .no] = M.ret (.rt (nD r)) := by
  have six := nv.six
  obtain ⟨h1, h2⟩ := afterO_get h
  have w := frL_inv (f := fun env x => match bindT env (.nm 3) x with | some env' => exL ns C (la_body u) env' | none => M.no) (l := mN (List.range' 0 one.length))
    (fun i env => ∃ s3 s4, env = [.sh (nD one), .sh (nD other), .ow (nL (r.take i)), s3, s4]) (fun i x env hx ⟨s3, s4, he⟩ => by
      subst he
      obtain ⟨hi, rfl⟩ := rngN_at hx
      have hy : other[i]? = some other[i] := List.getElem?_eq_getElem (by omega)
      obtain ⟨y, hr, hit⟩ := h2 i (by omega)
      have tk : nL (r.take (i + 1)) = nL (r.take i) ++ [oD y] := by
        show (r.take (i + 1)).map oD = _
        rw [List.take_succ, hr, List.map_append]; rfl
      have ll : (nL (r.take i)).length < LB := by rw [nL_len, List.length_take]; unfold LB; omega
      unfold itemO at hit
      cases ho9 : other[i] with
      | none =>
        have ho : other[i]? = some none := by rw [hy, ho9]
        rw [ho] at hit
        refine ⟨[.sh (nD one), .sh (nD other), .ow (nL (r.take (i + 1))), .sh (dN i), .sh .none], ?_, _, _, rfl⟩
        rw [tk]
        show exL ns C _ [.sh (nD one), .sh (nD other), .ow (nL (r.take i)), .sh (dN i), s4] = _
        have t1 : evT ns C (.cmp .isN (.var 4) .non) [.sh (nD one), .sh (nD other), .ow (nL (r.take i)), .sh (dN i), .sh .none] = M.ret true := t_isN (o := none) rfl
        refine st0 (e1 := [.sh (nD one), .sh (nD other), .ow (nL (r.take i)), .sh (dN i), .sh .none]) (x_set (d := .none) (e_ixO (i := 1) (o := none) rfl rfl ho)) (st0 (e1 := [.sh (nD one), .sh (nD other), .ow (nL (r.take i) ++ [oD y]), .sh (dN i), .sh .none]) (x_take t1 (st0 (x_app (i := 2) (l := nL (r.take i)) (d := oD y) ?_ rfl ll) exL_nil)) exL_nil)
        have hit2 : (match one[i]? with | none => none | some none => some none | some (some _) => (upO one other 7 (i + 1)).map some) = some y := hit
        cases hq : one[i]? with
        | none => rw [hq] at hit2; cases hit2
        | some o1 =>
          rw [hq] at hit2
          have t2 : evT ns C (.cmp .isN (.ix (.var 0) (.var 3)) .non) [.sh (nD one), .sh (nD other), .ow (nL (r.take i)), .sh (dN i), .sh .none] = M.ret o1.isNone := t_isN (a := .ix (.var 0) (.var 3)) (e_ixO (i := 0) rfl rfl hq)
          refine (e_ite2 t2).trans ?_
          cases o1 with
          | none => cases hit2; rfl
          | some q =>
            have hit3 : (upO one other 7 (i + 1)).map some = some y := hit2
            cases hv : upO one other 7 (i + 1) with
            | none => rw [hv] at hit3; cases hit3
            | some x =>
              rw [hv] at hit3
              cases hit3
              exact e_call2 (l := [.sh (nD one), .sh (nD other), .sh (dN (i + 1))]) rfl (hu one other (i + 1) x nv hl (by omega) (by omega) hv) rfl
      | some ch =>
        have ho : other[i]? = some (some ch) := by rw [hy, ho9]
        obtain ⟨c1, c2, c3⟩ := nw.rng _ _ ho
        rw [ho] at hit
        refine ⟨[.sh (nD one), .sh (nD other), .ow (nL (r.take (i + 1))), .sh (dN i), .sh (.int ch)], ?_, _, _, rfl⟩
        rw [tk]
        show exL ns C _ [.sh (nD one), .sh (nD other), .ow (nL (r.take i)), .sh (dN i), s4] = _
        have t1 : evT ns C (.cmp .isN (.var 4) .non) [.sh (nD one), .sh (nD other), .ow (nL (r.take i)), .sh (dN i), .sh (.int ch)] = M.ret false := t_isN (o := some ch) rfl
        refine st0 (e1 := [.sh (nD one), .sh (nD other), .ow (nL (r.take i)), .sh (dN i), .sh (.int ch)]) (x_set (d := .int ch) (e_ixO (i := 1) (o := some ch) rfl rfl ho)) (st0 (e1 := [.sh (nD one), .sh (nD other), .ow (nL (r.take i) ++ [oD y]), .sh (dN i), .sh (.int ch)]) ?_ exL_nil)
        refine (x_ite t1).trans ?_
        rw [if_neg (by simp)]
        refine st0 (x_app (i := 2) (l := nL (r.take i)) (d := oD y) ?_ rfl ll) exL_nil
        have t2 : evT ns C (.cmp .ge (.var 4) (.int 0)) [.sh (nD one), .sh (nD other), .ow (nL (r.take i)), .sh (dN i), .sh (.int ch)] = M.ret (decide (0 ≤ ch)) := t_cmp2 (x := .int ch) (y := .int 0) rfl rfl rfl
        refine (e_ite2 t2).trans ?_
        have hit1 : (if 0 ≤ ch then some (some ch) else (upO one other 7 (-ch).toNat).map some) = some y := hit
        by_cases z : 0 ≤ ch
        · rw [if_pos z] at hit1
          cases hit1
          rw [decide_eq_true z]; rfl
        · rw [if_neg z] at hit1
          rw [decide_eq_false z]
          cases hv : upO one other 7 (-ch).toNat with
          | none => rw [hv] at hit1; cases hit1
          | some x =>
            rw [hv] at hit1
            cases hit1
            have e2 : (0 : Int) - ch = (((-ch).toNat : Nat) : Int) := by omega
            refine e_call2 (l := [.sh (nD one), .sh (nD other), .sh (dN (-ch).toNat)]) ?_ (hu one other (-ch).toNat x nv hl (by omega) (by omega) hv) rfl
            show M.ret [Slot.sh (nD one), .sh (nD other), .sh (.int (0 - ch))] = M.ret [.sh (nD one), .sh (nD other), .sh (dN (-ch).toNat)]
            rw [e2]) (env := [.sh (nD one), .sh (nD other), .ow [], .no, .no]) ⟨_, _, rfl⟩
  obtain ⟨e, k1, s3, s4, he⟩ := w
  subst he
  have el : (mN (List.range' 0 one.length)).length = r.length := by rw [lenN, List.length_range', h1, hl]
  rw [el, List.take_length] at k1
  exact st0 (e1 := [.sh (nD one), .sh (nD other), .ow [], .no, .no]) rfl (st0 ((x_fr (t := .nm 3) (l := mN (List.range' 0 one.length)) (env := [.sh (nD one), .sh (nD other), .ow [], .no, .no]) rfl (ii_r1 (e_lenO (i := 0) rfl) (by omega))).trans k1) (exL_ret (x_ret rfl)))
def LawAfterOk (C : CT) (g : Nat) : Prop := ∀ v w r, Nm v → Nm w → w.length = v.length → afterO 7 v w = some r → C g [.sh (nD v), .sh (nD w)] = M.ret (nD r)
def ln_body (g : Nat) : SL := (.cons [2] (.set 2 (.call g (.cons false (.var 2) (.cons false (.f1 .tuple (.lc [("_law_k", 5)] (.nm 5) (.r1 (.var 0)) (.bl true) (.ite (.cmp .eq (.bin .add (.var 5) (.int 1)) (.var 3)) (.var 4) .non))) .nil))))
  .nil)
def ir_law_naming (g : Nat) : SL := (.cons [] (.set 2 (.bin .mul (.tup (.cons false .non .nil)) (.var 0)))
  (.cons [] (.fr (.tp [3, 4]) (.seq (.var 1)) (ln_body g))
  (.cons [2] (.ret (.var 2))
  .nil)))
theorem stepO_up (n p q : Nat) : (List.range' 0 n).map (fun k => oD (if k + 1 = p then some (q : Int) else none)) = nL (stepO n p q) := by
  show _ = (stepO n p q).map oD
  unfold stepO
  rw [← ones_map, List.map_map, List.map_map]; rfl
theorem law_naming_ok {g n : Nat} (hg : LawAfterOk C g) (n1 : 1 ≤ n) (h6 : n ≤ 6) {row : List (Nat × Nat)} {w : List (Option Int)} (hr : RowOk n row) (h : namO 7 n (idleO n) row = some w) : exL ns C (ir_law_naming g) [.sh (dN n), .sh (rowD row), .no, .no, .no, .no] = M.ret (.rt (nD w)) := by
  have run : ∀ (row : List (Nat × Nat)) (v w : List (Option Int)) (R : PyData) (s3 s4 : Slot), RowOk n row → Nm v → v.length = n → namO 7 n v row = some w → ∃ s3' s4', frL (fun env x => match bindT env (.tp [3, 4]) x with | some env' => exL ns C (ln_body g) env' | none => M.no) [.sh (dN n), .sh R, .sh (nD v), s3, s4, .no] (row.map sD) = M.ret (.nx [.sh (dN n), .sh R, .sh (nD w), s3', s4', .no]) := by
    intro row
    induction row with
    | nil => intro v w R s3 s4 _ _ _ h; cases h; exact ⟨s3, s4, rfl⟩
    | cons s r ih =>
      intro v w R s3 s4 hr nv hv h
      have hs := hr s List.mem_cons_self
      obtain ⟨x, a1, a2, a3, _⟩ := after_all nv (stepO_nm n1 h6 hs) (by rw [stepO_len, hv])
      unfold namO at h
      rw [a1] at h
      obtain ⟨s3', s4', k⟩ := ih x w R (.sh (dN s.1)) (.sh (dN s.2)) (fun t ht => hr t (List.mem_cons_of_mem _ ht)) a2 (by omega) h
      refine ⟨s3', s4', ?_⟩
      have lc := lcA (ns := ns) (C := C) (own := [("_law_k", 5)]) (i := 5) (it := .r1 (.var 0)) (e := .ite (.cmp .eq (.bin .add (.var 5) (.int 1)) (.var 3)) (.var 4) .non) (env := [.sh (dN n), .sh R, .sh (nD v), .sh (dN s.1), .sh (dN s.2), .no]) (l := List.range' 0 n) (fun k => oD (if k + 1 = s.1 then some (s.2 : Int) else none)) (ii_r1 rfl (by omega)) (by rw [List.length_range']; unfold LB; omega) (fun k _ => by
        have t : evT ns C (.cmp .eq (.bin .add (.var 5) (.int 1)) (.var 3)) [.sh (dN n), .sh R, .sh (nD v), .sh (dN s.1), .sh (dN s.2), .sh (dN k)] = M.ret (decide (k + 1 = s.1)) := t_cmp2 (x := dN (k + 1)) (y := dN s.1) rfl rfl (eq_N ..)
        refine (e_ite2 (env := [.sh (dN n), .sh R, .sh (nD v), .sh (dN s.1), .sh (dN s.2), .sh (dN k)]) t).trans ?_
        by_cases z : k + 1 = s.1
        · rw [decide_eq_true z, if_pos z]; rfl
        · rw [decide_eq_false z, if_neg z]; rfl)
      rw [stepO_up] at lc
      have e1 : exL ns C (ln_body g) [.sh (dN n), .sh R, .sh (nD v), .sh (dN s.1), .sh (dN s.2), .no] = M.ret (.nx [.sh (dN n), .sh R, .sh (nD x), .sh (dN s.1), .sh (dN s.2), .no]) :=
        st1 (fz := [2]) rfl (x_set (e_call2 (aa2 rfl (a_hand (fun _ => rfl) (e_f12 (x := .list (nL (stepO n s.1 s.2))) lc rfl))) (hg v _ x nv (stepO_nm n1 h6 hs) (by rw [stepO_len, hv]) a1) rfl)) exL_nil
      show M.bd (exL ns C (ln_body g) [.sh (dN n), .sh R, .sh (nD v), .sh (dN s.1), .sh (dN s.2), .no]) _ = _
      rw [e1, bd_ret]
      exact k
  obtain ⟨s3, s4, k⟩ := run row (idleO n) w (rowD row) .no .no hr (idle_nm n1 h6) List.length_replicate h
  refine st0 (e1 := [.sh (dN n), .sh (rowD row), .sh (nD (idleO n)), .no, .no, .no]) (x_set (d := nD (idleO n)) (e_bin2 (x := .tuple [.none]) (y := .int n) rfl rfl ?_)) (st0 ((x_fr (t := .tp [3, 4]) (l := row.map sD) rfl rfl).trans k) (exL_ret (fz := [2]) (x_ret rfl)))
  show (if 0 ≤ (n : Int) ∧ (n : Int) ≤ 1000 then some (PyData.tuple (List.replicate (n : Int).toNat .none)) else none) = _
  rw [if_pos (by omega)]
  have e : nL (idleO n) = List.replicate n PyData.none := List.map_replicate
  show some (PyData.tuple (List.replicate (n : Int).toNat .none)) = some (PyData.tuple (nL (idleO n)))
  rw [e, Int.toNat_natCast]
end
end Cd
namespace Cd
open PySem
/-! What the law makes of a naming; a drawn naming. -/
section
variable {ns : List Int} {C : CT}
def lnm_body (f : Nat) : SL := (.cons [] (.ite (.and (.cmp .isNotN (.ix (.var 0) (.var 2)) .non) (.cmp .ge (.ix (.var 0) (.var 2)) (.int 0))) (.cons [] (.app 4 (.ix (.var 0) (.var 2)))
  .nil) (.cons [3] (.app 4 (.call f (.cons false (.var 1) (.cons false (.ite (.cmp .isN (.ix (.var 0) (.var 2)) .non) (.bin .add (.var 2) (.int 1)) (.bin .sub (.int 0) (.ix (.var 0) (.var 2)))) (.cons false (.var 3) .nil)))))
  .nil))
  .nil)
def ir_law_named (f : Nat) : SL := (.cons [] (.par [3, 4] (.cons false (.lc [("_law_k", 2)] (.nm 2) (.r1 (.f1 .len (.var 1))) (.cmp .isN (.ix (.var 0) (.var 2)) .non) (.bin .add (.var 2) (.int 1))) (.cons false (.lst .nil) .nil)))
  (.cons [] (.fr (.nm 2) (.r1 (.f1 .len (.var 1))) (lnm_body f))
  (.cons [] (.ret (.f1 .tuple (.var 4)))
  .nil)))
theorem law_named_ok {f : Nat} (hf : NearL C f) {v : List (Option Int)} {c : List Nat} (nv : Nm v) (g : Good c) (hl : c.length = v.length) : exL ns C (ir_law_named f) [.sh (nD v), .sh (dT c), .no, .no, .no] = M.ret (.rt (dT (namedS v c))) := by
  have six := nv.six
  have at_ : ∀ i (hi : i < v.length), v[i]? = some (v[i]'hi) := fun i hi => List.getElem?_eq_getElem hi
  have lc := lcN (ns := ns) (C := C) (own := [("_law_k", 2)]) (i := 2) (it := .r1 (.f1 .len (.var 1))) (c := .cmp .isN (.ix (.var 0) (.var 2)) .non) (e := .bin .add (.var 2) (.int 1)) (env := [.sh (nD v), .sh (dT c), .no, .no, .no]) (l := List.range' 0 v.length) (fun i => decide (v[i]? = some none)) (fun i => dN (i + 1)) (by rw [← hl]; exact ii_r1 (e_lenT (i := 1) rfl) (by omega)) (by rw [List.length_range']; unfold LB; omega) (fun i hi => by
    have hi2 := List.mem_range'_1.mp hi
    have h := at_ i (by omega)
    exact (t_isN (a := .ix (.var 0) (.var 2)) (env := [.sh (nD v), .sh (dT c), .sh (dN i), .no, .no]) (e_ixO (i := 0) rfl rfl h)).trans (by rw [isNone_at h])) (fun i _ _ => rfl)
  rw [map_mN, stays_up] at lc
  have w := frL_inv (f := fun env x => match bindT env (.nm 2) x with | some env' => exL ns C (lnm_body f) env' | none => M.no) (l := mN (List.range' 0 v.length))
    (fun i env => ∃ s2 s3, (s3 = .ow (mN (staysS v)) ∨ s3 = .sh (.list (mN (staysS v)))) ∧ env = [.sh (nD v), .sh (dT c), s2, s3, .ow (mN ((namedS v c).take i))]) (fun i x env hx ⟨s2, s3, h3, he⟩ => by
      subst he
      obtain ⟨hi, rfl⟩ := rngN_at hx
      have hv := at_ i hi
      have ll : (mN ((namedS v c).take i)).length < LB := by rw [lenN, List.length_take]; unfold LB; omega
      rw [actN_take v c i hi, mN_snoc]
      have rd : ∀ s3 o, v[i]? = some o → evE ns C (.ix (.var 0) (.var 2)) [.sh (nD v), .sh (dT c), .sh (dN i), s3, .ow (mN ((namedS v c).take i))] = M.ret (oD o) := fun s3 o h => e_ixO (i := 0) rfl rfl h
      have call : ∀ m, 1 ≤ m → m ≤ c.length → actN v c (i + 1) = nearS c (staysS v) m → evE ns C (.ite (.cmp .isN (.ix (.var 0) (.var 2)) .non) (.bin .add (.var 2) (.int 1)) (.bin .sub (.int 0) (.ix (.var 0) (.var 2)))) [.sh (nD v), .sh (dT c), .sh (dN i), .sh (.list (mN (staysS v))), .ow (mN ((namedS v c).take i))] = M.ret (dN m) → exL ns C (.cons [3] (.app 4 (.call f (.cons false (.var 1) (.cons false (.ite (.cmp .isN (.ix (.var 0) (.var 2)) .non) (.bin .add (.var 2) (.int 1)) (.bin .sub (.int 0) (.ix (.var 0) (.var 2)))) (.cons false (.var 3) .nil))))) .nil) [.sh (nD v), .sh (dT c), .sh (dN i), s3, .ow (mN ((namedS v c).take i))] = M.ret (.nx [.sh (nD v), .sh (dT c), .sh (dN i), .sh (.list (mN (staysS v))), .ow (mN ((namedS v c).take i) ++ [dN (actN v c (i + 1))])]) := fun m m1 m2 ea ee => by
        have ht : thaw [.sh (nD v), .sh (dT c), .sh (dN i), s3, .ow (mN ((namedS v c).take i))] [3] = [.sh (nD v), .sh (dT c), .sh (dN i), .sh (.list (mN (staysS v))), .ow (mN ((namedS v c).take i))] := by
          rcases h3 with rfl | rfl <;> rfl
        rw [exL_step (e1 := [.sh (nD v), .sh (dT c), .sh (dN i), .sh (.list (mN (staysS v))), .ow (mN ((namedS v c).take i) ++ [dN (actN v c (i + 1))])]) (by
          rw [ht]
          exact x_app (i := 4) (l := mN ((namedS v c).take i)) (d := dN (actN v c (i + 1))) (e_call2 (l := [.sh (dT c), .sh (dN m), .sh (.list (mN (staysS v)))]) (aa3 rfl (a_hand (fun _ => rfl) ee) rfl) (by rw [hf c _ m g m1 m2, ea]) rfl) rfl ll), exL_nil]
      have t1 : ∀ o, v[i]? = some o → evT ns C (.cmp .isNotN (.ix (.var 0) (.var 2)) .non) [.sh (nD v), .sh (dT c), .sh (dN i), s3, .ow (mN ((namedS v c).take i))] = M.ret o.isSome := fun o h => t_isNotN (a := .ix (.var 0) (.var 2)) (rd s3 o h)
      cases ho : v[i] with
      | none =>
        have hy : v[i]? = some none := by rw [hv, ho]
        have ea : actN v c (i + 1) = nearS c (staysS v) (i + 1) := by unfold actN; rw [Nat.add_sub_cancel, hy]
        refine ⟨[.sh (nD v), .sh (dT c), .sh (dN i), .sh (.list (mN (staysS v))), .ow (mN ((namedS v c).take i) ++ [dN (actN v c (i + 1))])], ?_, _, _, .inr rfl, rfl⟩
        show exL ns C _ [.sh (nD v), .sh (dT c), .sh (dN i), s3, .ow (mN ((namedS v c).take i))] = _
        refine st0 (e1 := [.sh (nD v), .sh (dT c), .sh (dN i), .sh (.list (mN (staysS v))), .ow (mN ((namedS v c).take i) ++ [dN (actN v c (i + 1))])]) ?_ exL_nil
        refine (x_ite (t_and0 (t1 none hy))).trans ?_
        rw [if_neg (by simp)]
        refine call (i + 1) (by omega) (by omega) ea ?_
        have t2 : evT ns C (.cmp .isN (.ix (.var 0) (.var 2)) .non) [.sh (nD v), .sh (dT c), .sh (dN i), .sh (.list (mN (staysS v))), .ow (mN ((namedS v c).take i))] = M.ret true := t_isN (a := .ix (.var 0) (.var 2)) (o := none) (rd _ none hy)
        exact (e_ite2 t2).trans rfl
      | some x =>
        have hy : v[i]? = some (some x) := by rw [hv, ho]
        obtain ⟨x1, x2, x3⟩ := nv.rng _ _ hy
        have t2 : evT ns C (.cmp .ge (.ix (.var 0) (.var 2)) (.int 0)) [.sh (nD v), .sh (dT c), .sh (dN i), s3, .ow (mN ((namedS v c).take i))] = M.ret (decide (0 ≤ x)) := t_cmp2 (a := .ix (.var 0) (.var 2)) (x := .int x) (y := .int 0) (rd s3 (some x) hy) rfl rfl
        have t3 := (t_and2 (t1 (some x) hy) fun _ => t2).trans (by rw [show (some x).isSome = true from rfl, Bool.true_and])
        by_cases z : 0 ≤ x
        · rw [decide_eq_true z] at t3
          have ea : actN v c (i + 1) = x.toNat := by unfold actN; rw [Nat.add_sub_cancel, hy]; exact if_pos z
          have ed : PyData.int x = dN (actN v c (i + 1)) := by
            rw [ea]
            show PyData.int x = PyData.int ((x.toNat : Nat) : Int)
            congr 1; omega
          refine ⟨[.sh (nD v), .sh (dT c), .sh (dN i), s3, .ow (mN ((namedS v c).take i) ++ [dN (actN v c (i + 1))])], ?_, _, _, h3, rfl⟩
          show exL ns C _ [.sh (nD v), .sh (dT c), .sh (dN i), s3, .ow (mN ((namedS v c).take i))] = _
          rw [← ed]
          refine st0 (e1 := [.sh (nD v), .sh (dT c), .sh (dN i), s3, .ow (mN ((namedS v c).take i) ++ [.int x])]) ?_ exL_nil
          refine (x_ite t3).trans ?_
          rw [if_pos rfl]
          exact st0 (x_app (i := 4) (l := mN ((namedS v c).take i)) (d := .int x) (rd s3 (some x) hy) rfl ll) exL_nil
        · rw [decide_eq_false z] at t3
          have ea : actN v c (i + 1) = nearS c (staysS v) (-x).toNat := by unfold actN; rw [Nat.add_sub_cancel, hy]; exact if_neg z
          refine ⟨[.sh (nD v), .sh (dT c), .sh (dN i), .sh (.list (mN (staysS v))), .ow (mN ((namedS v c).take i) ++ [dN (actN v c (i + 1))])], ?_, _, _, .inr rfl, rfl⟩
          show exL ns C _ [.sh (nD v), .sh (dT c), .sh (dN i), s3, .ow (mN ((namedS v c).take i))] = _
          refine st0 (e1 := [.sh (nD v), .sh (dT c), .sh (dN i), .sh (.list (mN (staysS v))), .ow (mN ((namedS v c).take i) ++ [dN (actN v c (i + 1))])]) ?_ exL_nil
          refine (x_ite t3).trans ?_
          rw [if_neg (by simp)]
          refine call (-x).toNat (by omega) (by omega) ea ?_
          have t4 : evT ns C (.cmp .isN (.ix (.var 0) (.var 2)) .non) [.sh (nD v), .sh (dT c), .sh (dN i), .sh (.list (mN (staysS v))), .ow (mN ((namedS v c).take i))] = M.ret false := t_isN (a := .ix (.var 0) (.var 2)) (o := some x) (rd _ (some x) hy)
          refine (e_ite2 t4).trans ?_
          rw [if_neg (by simp)]
          refine e_bin2 (a := .int 0) (b := .ix (.var 0) (.var 2)) (x := .int 0) (y := .int x) rfl (rd _ (some x) hy) ?_
          show some (PyData.int (0 - x)) = some (PyData.int (((-x).toNat : Nat) : Int))
          congr 2; omega) (env := [.sh (nD v), .sh (dT c), .no, .ow (mN (staysS v)), .ow []]) ⟨_, _, .inl rfl, rfl⟩
  obtain ⟨e, k1, s2, s3, h3, he⟩ := w
  subst he
  have el : (mN (List.range' 0 v.length)).length = (namedS v c).length := by rw [lenN, List.length_range', namedS_len]
  rw [el, List.take_length] at k1
  refine st0 (e1 := [.sh (nD v), .sh (dT c), .no, .ow (mN (staysS v)), .ow []]) (x_par (l := [.list (mN (staysS v)), .list []]) (l_one lc (l_one rfl rfl)) rfl) (st0 ((x_fr (t := .nm 2) (l := mN (List.range' 0 v.length)) (env := [.sh (nD v), .sh (dT c), .no, .ow (mN (staysS v)), .ow []]) rfl (by rw [← hl]; exact ii_r1 (e_lenT (i := 1) rfl) (by omega))).trans k1) (exL_ret (x_ret rfl)))
/-! ### a drawn naming -/
/-- i movers are placed: those left, the naming, the placed -/
structure Any (n : Nat) (W : List Nat) (i : Nat) (L : List Nat) (v : List (Option Int)) (P : List Nat) : Prop where
  vl : v.length = n
  ll : L.length + i = W.length
  Ln : L.Nodup
  Lm : ∀ x ∈ L, x ∈ W
  Mm : ∀ x ∈ W, 1 ≤ x ∧ x ≤ n
  Pl : P.length ≤ 7 + i
  Pp : 0 < P.length
  Pn : P.Nodup
  Pm : ∀ x ∈ P, x ≤ n ∧ x ∉ L
  no : ∀ k, 1 ≤ k → k ≤ n → (v[k - 1]? = some none ↔ (k ∉ W ∨ k ∈ L))
  val : ∀ k x, 1 ≤ k → v[k - 1]? = some (some x) → (0 ≤ x → x.toNat ∈ P ∧ k ∈ P ∧ x.toNat ≠ k ∧ P.idxOf x.toNat < P.idxOf k) ∧ (x < 0 → (-x).toNat ∈ W)
theorem Any.next {n i : Nat} {W L P : List Nat} {v : List (Option Int)} (h : Any n W i L v P) {k : Nat} (hk : k ∈ L) {y : Int} (hy : (0 ≤ y ∧ y.toNat ∈ P) ∨ (y < 0 ∧ (-y).toNat ∈ W)) : Any n W (i + 1) (L.filter fun x => !decide (x = k)) (v.set (k - 1) (some y)) (P ++ [k]) := by
  obtain ⟨k1, k2⟩ := h.Mm k (h.Lm k hk)
  have kP : k ∉ P := fun z => (h.Pm k z).2 hk
  have vl := h.vl
  have len : (L.filter fun x => !decide (x = k)).length + 1 = L.length := by
    have := filter_ne_len (p := k) h.Ln
    rw [if_pos hk] at this
    exact this
  have ix : ∀ a, a ∈ P → (P ++ [k]).idxOf a = P.idxOf a := fun a ha => by rw [List.idxOf_append, if_pos ha]
  have ixk : (P ++ [k]).idxOf k = P.length := by
    rw [List.idxOf_append, if_neg kP]
    simp
  refine ⟨by rw [List.length_set]; exact vl, by have := h.ll; omega, h.Ln.filter _, fun x hx => h.Lm x (List.mem_filter.mp hx).1, h.Mm, by rw [List.length_append]; have := h.Pl; simp; omega, by rw [List.length_append]; simp, ?_, fun x hx => ?_, fun j j1 j2 => ?_, fun j x j1 hx => ?_⟩
  · refine List.nodup_append.mpr ⟨h.Pn, by simp, fun a ha b hb => ?_⟩
    have : b = k := by simpa using hb
    subst this
    exact fun e => kP (e ▸ ha)
  · rcases List.mem_append.mp hx with hx | hx
    · exact ⟨(h.Pm x hx).1, fun z => (h.Pm x hx).2 (List.mem_filter.mp z).1⟩
    · have : x = k := by simpa using hx
      subst this
      exact ⟨k2, fun z => by have := (List.mem_filter.mp z).2; simp at this⟩
  · rw [List.getElem?_set]
    by_cases e : j = k
    · subst e
      rw [if_pos rfl, if_pos (by omega)]
      constructor
      · intro z; cases z
      · rintro (z | z)
        · exact absurd (h.Lm j hk) z
        · have := (List.mem_filter.mp z).2; simp at this
    · rw [if_neg (by omega), h.no j j1 j2, List.mem_filter]
      simp [e]
  · rw [List.getElem?_set] at hx
    by_cases e : j = k
    · subst e
      rw [if_pos rfl, if_pos (by omega)] at hx
      cases hx
      refine ⟨fun z => ?_, fun z => (hy.resolve_left fun w => by omega).2⟩
      have yp := (hy.resolve_right fun w => by omega).2
      have lt : P.idxOf y.toNat < P.length := List.idxOf_lt_length_of_mem yp
      exact ⟨List.mem_append.mpr (.inl yp), List.mem_append.mpr (.inr (by simp)), fun e => kP (e ▸ yp), by rw [ix _ yp, ixk]; exact lt⟩
    · rw [if_neg (by omega)] at hx
      obtain ⟨a, b⟩ := h.val j x j1 hx
      refine ⟨fun z => ?_, b⟩
      obtain ⟨a1, a2, a3, a4⟩ := a z
      exact ⟨List.mem_append.mpr (.inl a1), List.mem_append.mpr (.inl a2), a3, by rw [ix _ a1, ix _ a2]; exact a4⟩
theorem Any.nm {n : Nat} {W P : List Nat} {v : List (Option Int)} (h : Any n W W.length [] v P) (h1 : 1 ≤ n) (h6 : n ≤ 6) : Nm v := by
  have vl := h.vl
  let c := (ones n).map fun k => match v[k - 1]? with | some (some x) => if 0 ≤ x then x.toNat else 0 | _ => 0
  have cl : c.length = n := by
    show ((ones n).map _).length = n
    rw [List.length_map, ones_len]
  have cu : ∀ k, 1 ≤ k → k ≤ n → up c k = match v[k - 1]? with | some (some x) => if 0 ≤ x then x.toNat else 0 | _ => 0 := fun k k1 k2 => by
    have e := up_get (c := c) k1 (by omega)
    have e2 : c[k - 1]? = some (match v[k - 1]? with | some (some x) => if 0 ≤ x then x.toNat else 0 | _ => 0) := by
      show ((ones n).map _)[k - 1]? = _
      rw [List.getElem?_map, ones_get k1 k2]; rfl
    rw [e2] at e
    exact (Option.some.inj e).symm
  have kin : ∀ k x, v[k]? = some (some x) → k < n := fun k x hk => by have := (List.getElem?_eq_some_iff.mp hk).1; omega
  refine ⟨by omega, by omega, fun k x hk => ?_, fun k x hk hx => ?_, c, good_of (by omega) (by omega) (fun k => P.idxOf k) fun k k1 k2 => ?_, by omega, fun k x hk hx => ?_⟩
  · have kn := kin k x hk
    obtain ⟨a, b⟩ := h.val (k + 1) x (by omega) (by rw [Nat.add_sub_cancel]; exact hk)
    by_cases z : 0 ≤ x
    · obtain ⟨a1, a2, a3, a4⟩ := a z
      have := (h.Pm _ a1).1
      omega
    · have := h.Mm _ (b (by omega))
      omega
  · obtain ⟨a, b⟩ := h.val (k + 1) x (by omega) (by rw [Nat.add_sub_cancel]; exact hk)
    have mM := b hx
    obtain ⟨m1, m2⟩ := h.Mm _ mM
    have ei : (-x - 1).toNat = (-x).toNat - 1 := by omega
    rw [ei]
    have q : v[(-x).toNat - 1]? = some v[(-x).toNat - 1] := List.getElem?_eq_getElem (by omega)
    cases ho : v[(-x).toNat - 1] with
    | none =>
      rw [ho] at q
      rcases (h.no _ m1 m2).mp q with z | z
      · exact absurd mM z
      · simp at z
    | some y => exact ⟨y, by rw [q, ho]⟩
  · rw [cl] at k2 ⊢
    rw [cu k k1 k2]
    have q : v[k - 1]? = some v[k - 1] := List.getElem?_eq_getElem (by omega)
    cases ho : v[k - 1] with
    | none => rw [q, ho]; exact ⟨Nat.zero_le _, fun z => absurd rfl z⟩
    | some x =>
      rw [q, ho]
      show (if 0 ≤ x then x.toNat else 0) ≤ n ∧ ((if 0 ≤ x then x.toNat else 0) ≠ 0 → P.idxOf (if 0 ≤ x then x.toNat else 0) < P.idxOf k)
      by_cases z : 0 ≤ x
      · rw [if_pos z]
        obtain ⟨a1, a2, a3, a4⟩ := (h.val k x k1 (by rw [q, ho])).1 z
        exact ⟨(h.Pm _ a1).1, fun _ => a4⟩
      · rw [if_neg z]
        exact ⟨Nat.zero_le _, fun z => absurd rfl z⟩
  · have kn := kin k x hk
    rw [cu (k + 1) (by omega) (by omega), Nat.add_sub_cancel, hk]
    show ((if 0 ≤ x then x.toNat else 0 : Nat) : Int) = x
    rw [if_pos hx]; omega
theorem mapL_ev2 {f : PyData → M (Option PyData)} (h : Nat → Nat) : ∀ (l : List Nat), (∀ x ∈ l, Ev (f (dN x)) fun o => o = none ∨ o = some (dN (h x))) → Ev (mapL f (mN l)) fun d => ∃ m : List Nat, m.Sublist l ∧ d = mN (m.map h)
  | [], _ => .of rfl ⟨[], .refl _, rfl⟩
  | a :: r, k => by
    have e0 : mapL f (mN (a :: r)) = M.bd (f (dN a)) fun o => M.bd (mapL f (mN r)) fun l => match o with | some y => M.ret (y :: l) | none => M.ret l := rfl
    rw [e0]
    refine (k a List.mem_cons_self).bd fun o ho => (mapL_ev2 h r fun x hx => k x (List.mem_cons_of_mem _ hx)).bd fun d ⟨m, hm, hd⟩ => ?_
    subst hd
    rcases ho with rfl | rfl
    · exact .of rfl ⟨m, hm.cons _, rfl⟩
    · exact .of rfl ⟨a :: m, hm.cons₂ _, rfl⟩
def an_body (p : Nat) : SL := (.cons [] (.set 8 (.call p (.cons false (.var 0) (.cons false (.var 7) .nil))))
  (.cons [] (.put 5 (.bin .sub (.var 8) (.int 1)) (.call p (.cons false (.var 0) (.cons false (.bin .add (.var 6) (.lc [("_law_one", 10)] (.nm 10) (.seq (.var 4)) (.bl true) (.bin .sub (.int 0) (.var 10)))) .nil))))
  (.cons [] (.par [6, 7] (.cons false (.bin .add (.var 6) (.lst (.cons false (.var 8) .nil))) (.cons false (.lc [("_law_one", 10)] (.nm 10) (.seq (.var 7)) (.cmp .ne (.var 10) (.var 8)) (.var 10)) .nil)))
  .nil)))
def ir_law_any (p : Nat) : SL := (.cons [] (.par [4, 5, 6] (.cons false (.lc [("_law_k", 9)] (.nm 9) (.r1 (.var 1)) (.cmp .gt (.take 0 (.int 3)) (.int 0)) (.bin .add (.var 9) (.int 1))) (.cons false (.bin .mul (.lst (.cons false .non .nil)) (.var 1)) (.cons false (.lst (.cons false (.int 0) .nil)) .nil))))
  (.cons [] (.set 2 (.lc [("_law_k", 9)] (.nm 9) (.r1 (.var 1)) (.cmp .notin (.bin .add (.var 9) (.int 1)) (.var 4)) (.bin .add (.var 9) (.int 1))))
  (.cons [4] (.par [7, 6] (.cons false (.var 4) (.cons false (.bin .add (.var 6) (.var 2)) .nil)))
  (.cons [] (.fr (.nm 3) (.r1 (.f1 .len (.var 4))) (an_body p))
  (.cons [] (.ret (.f1 .tuple (.var 5)))
  .nil)))))
theorem any_turn {p n i : Nat} {W L P : List Nat} {v : List (Option Int)} {s2 s7 s8 : Slot} {x : PyData} (hp : PickD C p) (h6 : n ≤ 6) (hM : W.length ≤ 6) (h : Any n W i L v P) (hi : i < W.length) (h7 : s7 = .ow (mN L) ∨ s7 = .sh (.list (mN L))) :
    Ev (exL ns C (an_body p) [.row, .sh (dN n), s2, .sh x, .sh (.list (mN W)), .ow (nL v), .ow (mN P), s7, s8, .no, .no]) (Nx fun e => ∃ L v P s7 s8, Any n W (i + 1) L v P ∧ (s7 = .ow (mN L) ∨ s7 = .sh (.list (mN L))) ∧ e = [.row, .sh (dN n), s2, .sh x, .sh (.list (mN W)), .ow (nL v), .ow (mN P), s7, s8, .no, .no]) := by
  have Ll : 0 < L.length := by have := h.ll; omega
  have L6 : L.length ≤ 6 := by have := h.ll; omega
  have Pl := h.Pl
  let E (s8 : Slot) (v : List (Option Int)) (P : List Nat) (s7 : Slot) : List Slot := [.row, .sh (dN n), s2, .sh x, .sh (.list (mN W)), .ow (nL v), .ow (mN P), s7, s8, .no, .no]
  refine v_step (fz := []) (P := fun e => ∃ k, k ∈ L ∧ e = E (.sh (dN k)) v P s7) ?_ fun e ⟨k, hk, he⟩ => ?_
  · refine (v_set (i := 8) (env := E s8 v P s7) (v_call (l := [.row, .sh (.list (mN L))]) ?_ (hp (.list (mN L)) (mN L) rfl (by rw [lenN]; exact Ll) (by rw [lenN]; omega)) fun d hd => ?_)).mono fun o ⟨e, ho, d, hd, he⟩ => ⟨e, ho, ?_⟩
    · rcases h7 with rfl | rfl <;> rfl
    · obtain ⟨y, _, rfl⟩ := List.mem_map.mp hd
      simp [noL]
    · obtain ⟨y, hy, rfl⟩ := List.mem_map.mp hd
      exact ⟨y, hy, he⟩
  subst he
  obtain ⟨k1, k2⟩ := h.Mm k (h.Lm k hk)
  have vl := h.vl
  have lc : evE ns C (.lc [("_law_one", 10)] (.nm 10) (.seq (.var 4)) (.bl true) (.bin .sub (.int 0) (.var 10))) (E (.sh (dN k)) v P s7) = M.ret (.list (W.map fun (m : Nat) => PyData.int (0 - (m : Int)))) := lcA (l := W) _ rfl (by unfold LB; omega) fun m _ => rfl
  have lsum : evE ns C (.bin .add (.var 6) (.lc [("_law_one", 10)] (.nm 10) (.seq (.var 4)) (.bl true) (.bin .sub (.int 0) (.var 10)))) (E (.sh (dN k)) v P s7) = M.ret (.list (mN P ++ W.map fun (m : Nat) => PyData.int (0 - (m : Int)))) := e_bin2 (a := .var 6) (b := .lc [("_law_one", 10)] (.nm 10) (.seq (.var 4)) (.bl true) (.bin .sub (.int 0) (.var 10))) (x := .list (mN P)) rfl lc (bin_addL (by rw [lenN, List.length_map]; unfold LB; omega))
  refine v_step (fz := []) (P := fun e => ∃ y : Int, ((0 ≤ y ∧ y.toNat ∈ P) ∨ (y < 0 ∧ (-y).toNat ∈ W)) ∧ e = E (.sh (dN k)) (v.set (k - 1) (some y)) P s7) ?_ fun e ⟨y, hy, he⟩ => ?_
  · refine (v_put (i := 5) (env := E (.sh (dN k)) v P s7) (l := nL v) (j := (k : Int) - 1) (v_call (l := [.row, .sh (.list (mN P ++ W.map fun (m : Nat) => PyData.int (0 - (m : Int))))]) (aa2 rfl (a_hand (fun _ => rfl) lsum)) (hp (.list (mN P ++ W.map fun (m : Nat) => PyData.int (0 - (m : Int)))) (mN P ++ W.map fun (m : Nat) => PyData.int (0 - (m : Int))) rfl (by rw [List.length_append, lenN]; have := h.Pp; omega) (by rw [List.length_append, lenN, List.length_map]; omega)) fun d hd => ?_) rfl rfl (by rw [nL_len]; omega)).mono fun o ⟨e, ho, d, hd, he⟩ => ⟨e, ho, ?_⟩
    · rcases List.mem_append.mp hd with hd | hd <;> (obtain ⟨y, _, rfl⟩ := List.mem_map.mp hd; rfl)
    · have es : ∀ y : Int, (nL v).set ((k : Int) - 1).toNat (.int y) = nL (v.set (k - 1) (some y)) := fun y => by
        have e1 : ((k : Int) - 1).toNat = k - 1 := by omega
        rw [e1]
        show (v.map oD).set (k - 1) (oD (some y)) = (v.set (k - 1) (some y)).map oD
        exact List.map_set.symm
      rcases List.mem_append.mp hd with hd | hd
      · obtain ⟨y, hy, rfl⟩ := List.mem_map.mp hd
        refine ⟨(y : Int), .inl ⟨by omega, by rw [Int.toNat_natCast]; exact hy⟩, ?_⟩
        rw [he, es]; rfl
      · obtain ⟨m, hm, rfl⟩ := List.mem_map.mp hd
        obtain ⟨m1, m2⟩ := h.Mm m hm
        refine ⟨0 - (m : Int), .inr ⟨by omega, ?_⟩, ?_⟩
        · have : (-(0 - (m : Int))).toNat = m := by omega
          rw [this]; exact hm
        · rw [he, es]; rfl
  subst he
  have lf : evE ns C (.lc [("_law_one", 10)] (.nm 10) (.seq (.var 7)) (.cmp .ne (.var 10) (.var 8)) (.var 10)) (E (.sh (dN k)) (v.set (k - 1) (some y)) P s7) = M.ret (.list (mN (L.filter fun x => !decide (x = k)))) := by
    refine lcF (l := L) _ ?_ (by unfold LB; omega) (fun z _ => t_cmp2 (x := dN z) (y := dN k) rfl rfl (ne_N ..)) (fun _ => rfl)
    rcases h7 with rfl | rfl <;> rfl
  have ap : evE ns C (.bin .add (.var 6) (.lst (.cons false (.var 8) .nil))) (E (.sh (dN k)) (v.set (k - 1) (some y)) P s7) = M.ret (.list (mN (P ++ [k]))) := by
    refine e_bin2 (a := .var 6) (b := .lst (.cons false (.var 8) .nil)) (x := .list (mN P)) (y := .list [dN k]) rfl rfl ((bin_addL (by rw [lenN]; simp; unfold LB; omega)).trans (by rw [← mN_snoc]))
  exact w_step (fz := []) (e1 := E (.sh (dN k)) (v.set (k - 1) (some y)) (P ++ [k]) (.ow (mN (L.filter fun x => !decide (x = k))))) rfl (x_par (l := [.list (mN (P ++ [k])), .list (mN (L.filter fun x => !decide (x = k)))]) (l_one ap (l_one lf rfl)) rfl) (v_nil ⟨_, _, _, _, _, h.next hk hy, .inl rfl, rfl⟩)
theorem law_any_ok {p n : Nat} (hp : PickD C p) (h1 : 1 ≤ n) (h6 : n ≤ 6) : Ev (exL ns C (ir_law_any p) [.row, .sh (dN n), .no, .no, .no, .no, .no, .no, .no, .no, .no]) (Rt fun d => ∃ v, Nm v ∧ v.length = n ∧ d = nD v) := by
  have mv : Ev (evE ns C (.lc [("_law_k", 9)] (.nm 9) (.r1 (.var 1)) (.cmp .gt (.take 0 (.int 3)) (.int 0)) (.bin .add (.var 9) (.int 1))) [.row, .sh (dN n), .no, .no, .no, .no, .no, .no, .no, .no, .no]) fun d => ∃ W : List Nat, W.Sublist (ones n) ∧ d = .list (mN W) := by
    have e0 : evE ns C (.lc [("_law_k", 9)] (.nm 9) (.r1 (.var 1)) (.cmp .gt (.take 0 (.int 3)) (.int 0)) (.bin .add (.var 9) (.int 1))) [.row, .sh (dN n), .no, .no, .no, .no, .no, .no, .no, .no, .no] = M.bd (mapL (fun x => match bindT (wipeE [.row, .sh (dN n), .no, .no, .no, .no, .no, .no, .no, .no, .no] [9]) (.nm 9) x with
        | some env' => M.bd (evT ns C (.cmp .gt (.take 0 (.int 3)) (.int 0)) env') fun k => if k then M.bd (evE ns C (.bin .add (.var 9) (.int 1)) env') fun y => M.ret (some y) else M.ret none
        | none => M.no) (mN (List.range' 0 n))) fun r => if r.length ≤ LB then M.ret (.list r) else M.no := by
      have hi : evI ns C (.r1 (.var 1)) [.row, .sh (dN n), .no, .no, .no, .no, .no, .no, .no, .no, .no] = M.ret (mN (List.range' 0 n)) := ii_r1 rfl (by omega)
      simp only [evE, hi, bd_ret] <;> rfl
    rw [e0]
    refine (mapL_ev2 (fun k => k + 1) _ fun k _ => ?_).bd fun d ⟨m, hm, hd⟩ => ?_
    · show Ev (M.bd (evT ns C (.cmp .gt (.take 0 (.int 3)) (.int 0)) [.row, .sh (dN n), .no, .no, .no, .no, .no, .no, .no, .sh (dN k), .no]) fun t => if t then M.bd (evE ns C (.bin .add (.var 9) (.int 1)) [.row, .sh (dN n), .no, .no, .no, .no, .no, .no, .no, .sh (dN k), .no]) fun y => M.ret (some y) else M.ret none) _
      have e1 : evT ns C (.cmp .gt (.take 0 (.int 3)) (.int 0)) [.row, .sh (dN n), .no, .no, .no, .no, .no, .no, .no, .sh (dN k), .no] = M.bd (evE ns C (.take 0 (.int 3)) [.row, .sh (dN n), .no, .no, .no, .no, .no, .no, .no, .sh (dN k), .no]) fun y => M.of (cmpD .gt y (.int 0)) := by
        simp only [evT, rd]
        rfl
      have q : Ev (evT ns C (.cmp .gt (.take 0 (.int 3)) (.int 0)) [.row, .sh (dN n), .no, .no, .no, .no, .no, .no, .no, .sh (dN k), .no]) fun _ => True := by
        rw [e1]
        refine (v_take (m := 3) rfl rfl (by omega) (by omega)).bd fun d ⟨u, u1, hd⟩ => ?_
        subst hd
        exact .of (a := decide ((0 : Int) < u)) rfl trivial
      refine q.bd fun b _ => ?_
      cases b with
      | true => exact .of (a := some (dN (k + 1))) rfl (.inr rfl)
      | false => exact .of rfl (.inl rfl)
    · subst hd
      have hs : (m.map fun k => k + 1).Sublist (ones n) := by
        rw [← ones_map]
        exact hm.map _
      refine .of (if_pos ?_) ⟨_, hs, rfl⟩
      have := hs.length_le
      rw [ones_len] at this
      rw [lenN]; unfold LB; omega
  refine v_step (fz := []) (P := fun e => ∃ W : List Nat, W.Sublist (ones n) ∧ e = [.row, .sh (dN n), .no, .no, .ow (mN W), .ow (nL (idleO n)), .ow (mN [0]), .no, .no, .no, .no]) (v_par (vL_cons mv (vL_cons (P := fun d => d = .list (nL (idleO n))) (.of (a := .list (nL (idleO n))) ?_ rfl) (vL_cons (P := fun d => d = .list (mN [0])) (.of rfl rfl) vL_nil))) fun l hl => ?_) fun e ⟨W, hM, he⟩ => ?_
  · refine e_bin2 (a := .lst (.cons false .non .nil)) (b := .var 1) (x := .list [.none]) (y := .int n) rfl rfl ?_
    rw [bin_mul1 (by omega)]
    have e : nL (idleO n) = List.replicate n PyData.none := List.map_replicate
    rw [e, Int.toNat_natCast]
  · obtain ⟨d, t, rfl, ⟨W, hM, rfl⟩, d, t, rfl, rfl, d, t, rfl, rfl, rfl⟩ := hl
    exact ⟨_, rfl, W, hM, rfl⟩
  subst he
  have Ml : W.length ≤ 6 := by have := hM.length_le; rw [ones_len] at this; omega
  have Mm : ∀ x ∈ W, 1 ≤ x ∧ x ≤ n := fun x hx => mem_ones.mp (hM.subset hx)
  have Mn : W.Nodup := hM.nodup (ones_nodup n)
  let S := (ones n).filter fun x => !decide (x ∈ W)
  have lS : evE ns C (.lc [("_law_k", 9)] (.nm 9) (.r1 (.var 1)) (.cmp .notin (.bin .add (.var 9) (.int 1)) (.var 4)) (.bin .add (.var 9) (.int 1))) [.row, .sh (dN n), .no, .no, .ow (mN W), .ow (nL (idleO n)), .ow (mN [0]), .no, .no, .no, .no] = M.ret (.list (mN S)) := by
    have es : S = ((List.range' 0 n).filter fun k => !decide (k + 1 ∈ W)).map fun k => k + 1 := by
      show (ones n).filter _ = _
      rw [← ones_map, List.filter_map]; rfl
    rw [es, ← map_mN]
    exact lcN (l := List.range' 0 n) _ (fun k => dN (k + 1)) (ii_r1 rfl (by omega)) (by rw [List.length_range']; unfold LB; omega) (fun k _ => t_cmp2 (env := [.row, .sh (dN n), .no, .no, .ow (mN W), .ow (nL (idleO n)), .ow (mN [0]), .no, .no, .sh (dN k), .no]) (x := dN (k + 1)) (y := .list (mN W)) rfl rfl (nin_L ..)) (fun k _ _ => rfl)
  have Sl : S.length ≤ 6 := by
    refine Nat.le_trans (List.length_filter_le ..) ?_
    rw [ones_len]; exact h6
  refine w_step (fz := []) (e1 := [.row, .sh (dN n), .ow (mN S), .no, .ow (mN W), .ow (nL (idleO n)), .ow (mN [0]), .no, .no, .no, .no]) rfl (x_set lS) ?_
  have s3 : exS ns C (.par [7, 6] (.cons false (.var 4) (.cons false (.bin .add (.var 6) (.var 2)) .nil))) (thaw [.row, .sh (dN n), .ow (mN S), .no, .ow (mN W), .ow (nL (idleO n)), .ow (mN [0]), .no, .no, .no, .no] [4]) = M.ret (.nx [.row, .sh (dN n), .ow (mN S), .no, .sh (.list (mN W)), .ow (nL (idleO n)), .ow (mN (0 :: S)), .sh (.list (mN W)), .no, .no, .no]) := by
    refine x_par (l := [.list (mN W), .list (mN (0 :: S))]) (l_one rfl (l_one ?_ rfl)) rfl
    refine e_bin2 (a := .var 6) (b := .var 2) (x := .list (mN [0])) (y := .list (mN S)) rfl rfl (bin_addL ?_)
    rw [lenN, lenN]; simp; unfold LB; omega
  rw [exL_step s3]
  have any0 : Any n W 0 W (idleO n) (0 :: S) := by
    have il : (idleO n).length = n := List.length_replicate
    refine ⟨il, by omega, Mn, fun x hx => hx, Mm, by simp; omega, by simp, ?_, fun x hx => ?_, fun k k1 k2 => ?_, fun k x k1 hx => ?_⟩
    · refine List.nodup_cons.mpr ⟨fun z => ?_, (ones_nodup n).filter _⟩
      have := (mem_ones.mp (List.mem_filter.mp z).1).1
      omega
    · rcases List.mem_cons.mp hx with rfl | hx
      · exact ⟨Nat.zero_le _, fun z => by have := (Mm 0 z).1; omega⟩
      · obtain ⟨a, b⟩ := List.mem_filter.mp hx
        exact ⟨(mem_ones.mp a).2, by simpa using b⟩
    · have e : (idleO n)[k - 1]? = some none := by
        unfold idleO
        rw [List.getElem?_replicate, if_pos (by omega)]
      rw [e]
      simp
      exact Classical.em _ |>.symm
    · unfold idleO at hx
      rw [List.getElem?_replicate] at hx
      split at hx <;> simp at hx
  have w := frL_ev (f := fun env x => match bindT env (.nm 3) x with | some env' => exL ns C (an_body p) env' | none => M.no) (l := mN (List.range' 0 W.length))
    (fun i env => ∃ L v P s3 s7 s8, Any n W i L v P ∧ (s7 = .ow (mN L) ∨ s7 = .sh (.list (mN L))) ∧ env = [.row, .sh (dN n), .ow (mN S), s3, .sh (.list (mN W)), .ow (nL v), .ow (mN P), s7, s8, .no, .no])
    (fun i x env hx ⟨L, v, P, s3, s7, s8, ha, h7, he⟩ => by
      subst he
      obtain ⟨hi, rfl⟩ := rngN_at hx
      exact (any_turn (ns := ns) (s2 := .ow (mN S)) (s8 := s8) (x := dN i) hp h6 Ml ha hi h7).mono fun o ⟨e, ho, L, v, P, s7, s8, hb, h7, he⟩ => ⟨e, ho, L, v, P, _, s7, s8, hb, h7, he⟩)
    (env := [.row, .sh (dN n), .ow (mN S), .no, .sh (.list (mN W)), .ow (nL (idleO n)), .ow (mN (0 :: S)), .sh (.list (mN W)), .no, .no, .no]) ⟨W, _, _, _, _, _, any0, .inr rfl, rfl⟩
  rw [lenN, List.length_range'] at w
  have e2 := x_fr (ns := ns) (C := C) (t := .nm 3) (it := .r1 (.f1 .len (.var 4))) (b := an_body p) (l := mN (List.range' 0 W.length)) (env := [.row, .sh (dN n), .ow (mN S), .no, .sh (.list (mN W)), .ow (nL (idleO n)), .ow (mN (0 :: S)), .sh (.list (mN W)), .no, .no, .no]) rfl (ii_r1 (e_f12 (x := .list (mN W)) rfl (by show some (PyData.int ((mN W).length : Nat)) = _; rw [lenN])) (by omega))
  have e3 : Ev (exS ns C (.fr (.nm 3) (.r1 (.f1 .len (.var 4))) (an_body p)) [.row, .sh (dN n), .ow (mN S), .no, .sh (.list (mN W)), .ow (nL (idleO n)), .ow (mN (0 :: S)), .sh (.list (mN W)), .no, .no, .no]) (Nx fun env => ∃ L v P s3 s7 s8, Any n W W.length L v P ∧ (s7 = .ow (mN L) ∨ s7 = .sh (.list (mN L))) ∧ env = [.row, .sh (dN n), .ow (mN S), s3, .sh (.list (mN W)), .ow (nL v), .ow (mN P), s7, s8, .no, .no]) := by
    rw [e2]; exact w
  refine v_step (fz := []) e3 fun e ⟨L, v, P, s3, s7, s8, ha, h7, he⟩ => ?_
  subst he
  have L0 : L = [] := List.length_eq_zero_iff.mp (by have := ha.ll; omega)
  subst L0
  exact v_ret (v_retS (.of (a := nD v) rfl ⟨v, ha.nm h1 h6, ha.vl, rfl⟩))
end
end Cd
namespace Cd
open PySem
/-! Namings behind one another: in any grouping; powers. -/
abbrev NmL := List (Option Int)
def gO (v : NmL) (p : Nat) : Option Int := (v[p - 1]?).getD none
theorem gO_at {v : NmL} {p : Nat} (h1 : 1 ≤ p) (h2 : p ≤ v.length) : v[p - 1]? = some (gO v p) := by
  have h : v[p - 1]? = some v[p - 1] := List.getElem?_eq_getElem (by omega)
  unfold gO
  rw [h]; rfl
def afN (v w : NmL) : NmL := (afterO 7 v w).getD []
def uN (v w : NmL) (p : Nat) : Int := (upO v w 7 p).getD 0
section
variable {v w : NmL}
theorem af_eq (nv : Nm v) (nw : Nm w) (hw : w.length = v.length) : afterO 7 v w = some (afN v w) := by
  obtain ⟨r, h, _⟩ := after_all nv nw hw
  unfold afN
  rw [h]; rfl
theorem af_nm (nv : Nm v) (nw : Nm w) (hw : w.length = v.length) : Nm (afN v w) := by
  obtain ⟨r, h, h2, _⟩ := after_all nv nw hw
  unfold afN
  rw [h]; exact h2
theorem af_len (nv : Nm v) (nw : Nm w) (hw : w.length = v.length) : (afN v w).length = v.length := by
  obtain ⟨r, h, _, h2, _⟩ := after_all nv nw hw
  unfold afN
  rw [h]; exact h2
theorem af_act (nv : Nm v) (nw : Nm w) (hw : w.length = v.length) {c : List Nat} (g : Good c) (hc : c.length = v.length) : namedS (afN v w) c = namedS w (namedS v c) := by
  obtain ⟨r, h, _, _, h2⟩ := after_all nv nw hw
  unfold afN
  rw [h]; exact h2 c g hc
theorem uN_eq (nv : Nm v) (hw : w.length = v.length) {p : Nat} (p1 : 1 ≤ p) (p2 : p ≤ v.length) : upO v w 7 p = some (uN v w p) := by
  obtain ⟨u, h⟩ := up_some nv hw p1 p2
  unfold uN
  rw [h]; rfl
theorem nm_rng (nv : Nm v) {p : Nat} (p1 : 1 ≤ p) (p2 : p ≤ v.length) {x : Int} (h : gO v p = some x) : -(v.length : Int) ≤ x ∧ x ≤ v.length ∧ x ≠ p := by
  have := nv.rng (p - 1) x (by rw [gO_at p1 p2, h])
  omega
theorem u1 (nv : Nm v) (hw : w.length = v.length) {p : Nat} (p1 : 1 ≤ p) (p2 : p ≤ v.length) (h : gO v p = none) : uN v w p = -(p : Int) := by
  have e := uN_eq nv hw p1 p2
  unfold upO at e
  rw [gO_at p1 p2, h] at e
  exact (Option.some.inj e).symm
theorem u2 (nv : Nm v) (hw : w.length = v.length) {p : Nat} (p1 : 1 ≤ p) (p2 : p ≤ v.length) {ch : Int} (h : gO v p = some ch) (z : ch ≤ 0) : uN v w p = ch := by
  have e := uN_eq nv hw p1 p2
  unfold upO at e
  rw [gO_at p1 p2, h] at e
  have e2 : some ch = some (uN v w p) := by simpa [z] using e
  exact (Option.some.inj e2).symm
theorem u3 (nv : Nm v) (hw : w.length = v.length) {p : Nat} (p1 : 1 ≤ p) (p2 : p ≤ v.length) {ch : Int} (h : gO v p = some ch) (z : 0 < ch) (hq : gO w ch.toNat = none) : uN v w p = ch := by
  have r := nm_rng nv p1 p2 h
  have e := uN_eq nv hw p1 p2
  unfold upO at e
  have ei : (ch - 1).toNat = ch.toNat - 1 := by omega
  rw [gO_at p1 p2, h] at e
  have nz : ¬ ch ≤ 0 := by omega
  have e2 : (if ch ≤ 0 then some ch else (match w[(ch - 1).toNat]? with | none => none | some none => some ch | some (some _) => upO v w 6 ch.toNat)) = some (uN v w p) := e
  rw [if_neg nz] at e2
  rw [ei, gO_at (by omega) (by omega), hq] at e2
  exact (Option.some.inj e2).symm
theorem u4 (nv : Nm v) (hw : w.length = v.length) {p : Nat} (p1 : 1 ≤ p) (p2 : p ≤ v.length) {ch : Int} (h : gO v p = some ch) (z : 0 < ch) {y : Int} (hq : gO w ch.toNat = some y) : uN v w p = uN v w ch.toNat := by
  have r := nm_rng nv p1 p2 h
  have e := uN_eq nv hw p1 p2
  unfold upO at e
  have ei : (ch - 1).toNat = ch.toNat - 1 := by omega
  rw [gO_at p1 p2, h] at e
  have nz : ¬ ch ≤ 0 := by omega
  have e2 : (if ch ≤ 0 then some ch else (match w[(ch - 1).toNat]? with | none => none | some none => some ch | some (some _) => upO v w 6 ch.toNat)) = some (uN v w p) := e
  rw [if_neg nz] at e2
  rw [ei, gO_at (by omega) (by omega), hq] at e2
  have e3 : upO v w 6 ch.toNat = some (uN v w p) := e2
  have e4 := upO_le e3 (show 6 ≤ 7 by omega)
  rw [uN_eq nv hw (by omega) (by omega)] at e4
  exact (Option.some.inj e4).symm
theorem nm_ind (nv : Nm v) {P : Nat → Prop} (h : ∀ p, 1 ≤ p → p ≤ v.length → (∀ ch : Int, gO v p = some ch → 0 < ch → P ch.toNat) → P p) : ∀ p, 1 ≤ p → p ≤ v.length → P p := by
  obtain ⟨c', g', l', h'⟩ := nv.ch
  obtain ⟨r, hr⟩ := g'.rk
  have t : ∀ (m p : Nat), r p < m → 1 ≤ p → p ≤ v.length → P p := by
    intro m
    induction m with
    | zero => intro p hp; omega
    | succ m ih =>
      intro p hp p1 p2
      refine h p p1 p2 fun ch hc z => ?_
      have hg := gO_at p1 p2
      rw [hc] at hg
      have e := h' _ _ hg (by omega)
      have e9 : p - 1 + 1 = p := by omega
      rw [e9] at e
      have e8 : up c' p = ch.toNat := by omega
      have lt := (hr p p1 (by omega)).2.1 (by omega)
      rw [e8] at lt
      have := nm_rng nv p1 p2 hc
      exact ih _ (by omega) (by omega) (by omega)
  exact fun p p1 p2 => t (r p + 1) p (by omega) p1 p2
theorem af_item (nv : Nm v) (nw : Nm w) (hw : w.length = v.length) {p : Nat} (p1 : 1 ≤ p) (p2 : p ≤ v.length) : itemO 7 v w (p - 1) = some (gO (afN v w) p) := by
  obtain ⟨x, h1, h2⟩ := (afterO_get (af_eq nv nw hw)).2 (p - 1) (by omega)
  rw [h2]
  rw [gO_at p1 (by rw [af_len nv nw hw]; exact p2)] at h1
  exact congrArg some (Option.some.inj h1).symm
theorem a1 (nv : Nm v) (nw : Nm w) (hw : w.length = v.length) {p : Nat} (p1 : 1 ≤ p) (p2 : p ≤ v.length) (h : gO w p = none) (h0 : gO v p = none) : gO (afN v w) p = none := by
  have e := af_item nv nw hw p1 p2
  unfold itemO at e
  rw [gO_at p1 (by omega), h, gO_at p1 p2, h0] at e
  exact (Option.some.inj e).symm
theorem a2 (nv : Nm v) (nw : Nm w) (hw : w.length = v.length) {p : Nat} (p1 : 1 ≤ p) (p2 : p ≤ v.length) (h : gO w p = none) {y : Int} (h0 : gO v p = some y) : gO (afN v w) p = some (uN v w p) := by
  have e := af_item nv nw hw p1 p2
  unfold itemO at e
  have e9 : p - 1 + 1 = p := by omega
  rw [gO_at p1 (by omega), h, gO_at p1 p2, h0, e9] at e
  have e2 : (upO v w 7 p).map some = some (gO (afN v w) p) := e
  rw [uN_eq nv hw p1 p2] at e2
  exact (Option.some.inj e2).symm
theorem a3 (nv : Nm v) (nw : Nm w) (hw : w.length = v.length) {p : Nat} (p1 : 1 ≤ p) (p2 : p ≤ v.length) {x : Int} (h : gO w p = some x) (z : 0 ≤ x) : gO (afN v w) p = some x := by
  have e := af_item nv nw hw p1 p2
  unfold itemO at e
  rw [gO_at p1 (by omega), h] at e
  have e2 : some (some x) = some (gO (afN v w) p) := by simpa [z] using e
  exact (Option.some.inj e2).symm
theorem a4 (nv : Nm v) (nw : Nm w) (hw : w.length = v.length) {p : Nat} (p1 : 1 ≤ p) (p2 : p ≤ v.length) {x : Int} (h : gO w p = some x) (z : x < 0) : gO (afN v w) p = some (uN v w (-x).toNat) := by
  have r := nm_rng nw p1 (by omega) h
  have e := af_item nv nw hw p1 p2
  unfold itemO at e
  rw [gO_at p1 (by omega), h] at e
  have nz : ¬ 0 ≤ x := by omega
  have e2 : (upO v w 7 (-x).toNat).map some = some (gO (afN v w) p) := by simpa [nz] using e
  rw [uN_eq nv hw (by omega) (by omega)] at e2
  exact (Option.some.inj e2).symm
/-- who moves -/
theorem af_mv (nv : Nm v) (nw : Nm w) (hw : w.length = v.length) {p : Nat} (p1 : 1 ≤ p) (p2 : p ≤ v.length) : gO (afN v w) p = none ↔ gO v p = none ∧ gO w p = none := by
  cases h : gO w p with
  | none =>
    cases h0 : gO v p with
    | none => simp [a1 nv nw hw p1 p2 h h0]
    | some y => simp [a2 nv nw hw p1 p2 h h0]
  | some x =>
    by_cases z : 0 ≤ x
    · simp [a3 nv nw hw p1 p2 h z]
    · simp [a4 nv nw hw p1 p2 h (by omega)]
/-- going up ends at one who stays -/
theorem u_pos (nv : Nm v) (hw : w.length = v.length) : ∀ p, 1 ≤ p → p ≤ v.length → uN v w p ≤ v.length ∧ -(v.length : Int) ≤ uN v w p ∧ (0 < uN v w p → gO w (uN v w p).toNat = none) := by
  refine nm_ind nv fun p p1 p2 ih => ?_
  cases h : gO v p with
  | none =>
    rw [u1 nv hw p1 p2 h]
    exact ⟨by omega, by omega, fun z => by omega⟩
  | some ch =>
    have r := nm_rng nv p1 p2 h
    by_cases z : ch ≤ 0
    · rw [u2 nv hw p1 p2 h z]
      exact ⟨by omega, by omega, fun z => by omega⟩
    · cases hq : gO w ch.toNat with
      | none =>
        rw [u3 nv hw p1 p2 h (by omega) hq]
        exact ⟨by omega, by omega, fun _ => hq⟩
      | some y =>
        rw [u4 nv hw p1 p2 h (by omega) hq]
        exact ih ch h (by omega)
end
/-- going on from a word -/
def goF (a u : NmL) (t : Int) : Int := if t ≤ 0 then t else if gO u t.toNat = none then t else uN a u t.toNat
theorem goF_u {a u : NmL} (na : Nm a) (hu : u.length = a.length) {q : Nat} (q1 : 1 ≤ q) (q2 : q ≤ a.length) {t : Int} (h : gO a q = some t) : uN a u q = goF a u t := by
  unfold goF
  by_cases z : t ≤ 0
  · rw [if_pos z, u2 na hu q1 q2 h z]
  · rw [if_neg z]
    cases hq : gO u t.toNat with
    | none => rw [if_pos rfl, u3 na hu q1 q2 h (by omega) hq]
    | some y => rw [if_neg nofun, u4 na hu q1 q2 h (by omega) hq]
section
variable {v w u : NmL}
theorem asc1 (nv : Nm v) (nw : Nm w) (nu : Nm u) (hw : w.length = v.length) (hu : u.length = v.length) : ∀ k, 1 ≤ k → k ≤ v.length → goF (afN v w) u (uN v w k) = uN v (afN w u) k := by
  have na := af_nm nv nw hw
  have la := af_len nv nw hw
  have nb := af_nm nw nu (by omega)
  have lb := af_len nw nu (by omega)
  refine nm_ind nv fun k k1 k2 ih => ?_
  cases h : gO v k with
  | none =>
    rw [u1 nv hw k1 k2 h, u1 nv (by omega) k1 k2 h]
    unfold goF
    rw [if_pos (by omega)]
  | some ch =>
    have r := nm_rng nv k1 k2 h
    by_cases z : ch ≤ 0
    · rw [u2 nv hw k1 k2 h z, u2 nv (by omega) k1 k2 h z]
      unfold goF
      rw [if_pos z]
    · have m1 : 1 ≤ ch.toNat := by omega
      have m2 : ch.toNat ≤ v.length := by omega
      have bm := af_mv nw nu (by omega) m1 (show ch.toNat ≤ w.length by omega)
      cases hq : gO w ch.toNat with
      | none =>
        rw [u3 nv hw k1 k2 h (by omega) hq]
        cases hx : gO u ch.toNat with
        | none =>
          rw [u3 nv (by omega) k1 k2 h (by omega) (bm.mpr ⟨hq, hx⟩)]
          unfold goF
          rw [if_neg z, if_pos hx]
        | some x =>
          cases hb : gO (afN w u) ch.toNat with
          | none => have := (bm.mp hb).2; rw [hx] at this; cases this
          | some y =>
            rw [u4 nv (by omega) k1 k2 h (by omega) hb, ← ih ch h (by omega)]
            have e : goF (afN v w) u ch = uN (afN v w) u ch.toNat := by
              unfold goF
              rw [if_neg z, if_neg (by rw [hx]; exact nofun)]
            rw [e]
            cases hv : gO v ch.toNat with
            | none =>
              rw [u1 na (by omega) m1 (by omega) (a1 nv nw hw m1 m2 hq hv), u1 nv hw m1 m2 hv]
              unfold goF
              rw [if_pos (by omega)]
            | some t => exact goF_u na (by omega) m1 (by omega) (a2 nv nw hw m1 m2 hq hv)
      | some x =>
        rw [u4 nv hw k1 k2 h (by omega) hq]
        cases hb : gO (afN w u) ch.toNat with
        | none => have := (bm.mp hb).1; rw [hq] at this; cases this
        | some y =>
          rw [u4 nv (by omega) k1 k2 h (by omega) hb]
          exact ih ch h (by omega)
def resF (v b : NmL) (s : Int) : Int := if 0 ≤ s then s else uN v b (-s).toNat
theorem asc2 (nv : Nm v) (nw : Nm w) (nu : Nm u) (hw : w.length = v.length) (hu : u.length = v.length) : ∀ q, 1 ≤ q → q ≤ w.length → uN (afN v w) u q = resF v (afN w u) (uN w u q) := by
  have na := af_nm nv nw hw
  have la := af_len nv nw hw
  have nb := af_nm nw nu (by omega)
  have lb := af_len nw nu (by omega)
  refine nm_ind nw fun q q1 q2 ih => ?_
  cases h : gO w q with
  | none =>
    rw [u1 nw (by omega) q1 q2 h]
    unfold resF
    rw [if_neg (by omega)]
    have e : (-(-(q : Int))).toNat = q := by omega
    rw [e]
    cases hv : gO v q with
    | none => rw [u1 na (by omega) q1 (by omega) (a1 nv nw hw q1 (by omega) h hv), u1 nv (by omega) q1 (by omega) hv]
    | some y => rw [goF_u na (by omega) q1 (by omega) (a2 nv nw hw q1 (by omega) h hv), asc1 nv nw nu hw hu q q1 (by omega)]
  | some k =>
    have r := nm_rng nw q1 q2 h
    by_cases z : 0 ≤ k
    · rw [goF_u na (by omega) q1 (by omega) (a3 nv nw hw q1 (by omega) h z)]
      by_cases z0 : k ≤ 0
      · rw [u2 nw (by omega) q1 q2 h z0]
        unfold goF resF
        rw [if_pos z0, if_pos z]
      · cases hx : gO u k.toNat with
        | none =>
          rw [u3 nw (by omega) q1 q2 h (by omega) hx]
          unfold goF resF
          rw [if_neg z0, if_pos hx, if_pos z]
        | some x =>
          rw [u4 nw (by omega) q1 q2 h (by omega) hx, ← ih k h (by omega)]
          unfold goF
          rw [if_neg z0, if_neg (by rw [hx]; exact nofun)]
    · rw [goF_u na (by omega) q1 (by omega) (a4 nv nw hw q1 (by omega) h (by omega)), asc1 nv nw nu hw hu _ (by omega) (by omega), u2 nw (by omega) q1 q2 h (by omega)]
      unfold resF
      rw [if_neg z]
theorem gO_ext {a b : NmL} (hl : a.length = b.length) (h : ∀ p, 1 ≤ p → p ≤ a.length → gO a p = gO b p) : a = b := by
  refine List.ext_getElem? fun i => ?_
  by_cases hi : i < a.length
  · have e1 := gO_at (v := a) (p := i + 1) (by omega) (by omega)
    have e2 := gO_at (v := b) (p := i + 1) (by omega) (by omega)
    rw [Nat.add_sub_cancel] at e1 e2
    rw [e1, e2, h (i + 1) (by omega) (by omega)]
  · rw [List.getElem?_eq_none (by omega), List.getElem?_eq_none (by omega)]
/-- in any grouping -/
theorem af_assoc (nv : Nm v) (nw : Nm w) (nu : Nm u) (hw : w.length = v.length) (hu : u.length = v.length) : afN (afN v w) u = afN v (afN w u) := by
  have na := af_nm nv nw hw
  have la := af_len nv nw hw
  have nb := af_nm nw nu (by omega)
  have lb := af_len nw nu (by omega)
  have lr := af_len nv nb (by omega)
  have ll := af_len na nu (by omega)
  have two := asc2 nv nw nu hw hu
  refine gO_ext (by omega) fun p p1 p2 => ?_
  have p3 : p ≤ v.length := by omega
  have res : ∀ s : Int, gO (afN w u) p = some s → gO (afN v (afN w u)) p = some (resF v (afN w u) s) := fun s hs => by
    unfold resF
    by_cases z : 0 ≤ s
    · rw [a3 nv nb (by omega) p1 p3 hs z, if_pos z]
    · rw [a4 nv nb (by omega) p1 p3 hs (by omega), if_neg z]
  cases hx : gO u p with
  | some x =>
    have r := nm_rng nu p1 (by omega) hx
    by_cases z : 0 ≤ x
    · rw [a3 na nu (by omega) p1 (by omega) hx z, res x (a3 nw nu (by omega) p1 (by omega) hx z)]
      unfold resF
      rw [if_pos z]
    · rw [a4 na nu (by omega) p1 (by omega) hx (by omega), res _ (a4 nw nu (by omega) p1 (by omega) hx (by omega)), two _ (by omega) (by omega)]
  | none =>
    cases hy : gO w p with
    | some y =>
      have am := af_mv nv nw hw p1 p3
      cases ha : gO (afN v w) p with
      | none => have := (am.mp ha).2; rw [hy] at this; cases this
      | some t => rw [a2 na nu (by omega) p1 (by omega) hx ha, res _ (a2 nw nu (by omega) p1 (by omega) hx hy), two _ (by omega) (by omega)]
    | none =>
      have hb := a1 nw nu (by omega) p1 (show p ≤ w.length by omega) hx hy
      cases hv : gO v p with
      | none => rw [a1 na nu (by omega) p1 (by omega) hx (a1 nv nw hw p1 p3 hy hv), a1 nv nb (by omega) p1 p3 hb hv]
      | some t =>
        rw [a2 na nu (by omega) p1 (by omega) hx (a2 nv nw hw p1 p3 hy hv), a2 nv nb (by omega) p1 p3 hb hv, two _ (by omega) (by omega), u1 nw (by omega) p1 (by omega) hy]
        unfold resF
        have e : (-(-(p : Int))).toNat = p := by omega
        rw [if_neg (by omega), e]
end
theorem idle_at {n p : Nat} : gO (idleO n) p = none := by
  unfold gO idleO
  rw [List.getElem?_replicate]
  split <;> rfl
theorem idle_len (n : Nat) : (idleO n).length = n := List.length_replicate
theorem af_idleR {v : NmL} {n : Nat} (nv : Nm v) (hn : v.length = n) : afN v (idleO n) = v := by
  have ni := idle_nm (n := n) (by have := nv.one; omega) (by have := nv.six; omega)
  have li := idle_len n
  have la := af_len nv ni (by omega)
  refine gO_ext la fun p p1 p2 => ?_
  have p3 : p ≤ v.length := by omega
  cases h : gO v p with
  | none => exact a1 nv ni (by omega) p1 p3 idle_at h
  | some x =>
    rw [a2 nv ni (by omega) p1 p3 idle_at h]
    by_cases z : x ≤ 0
    · rw [u2 nv (by omega) p1 p3 h z]
    · rw [u3 nv (by omega) p1 p3 h (by omega) idle_at]
theorem af_idleL {v : NmL} {n : Nat} (nv : Nm v) (hn : v.length = n) : afN (idleO n) v = v := by
  have ni := idle_nm (n := n) (by have := nv.one; omega) (by have := nv.six; omega)
  have li := idle_len n
  have la := af_len ni nv (by omega)
  refine gO_ext (by omega) fun p p1 p2 => ?_
  have p3 : p ≤ v.length := by omega
  cases h : gO v p with
  | none => exact a1 ni nv (by omega) p1 (by omega) h idle_at
  | some x =>
    have r := nm_rng nv p1 p3 h
    by_cases z : 0 ≤ x
    · exact a3 ni nv (by omega) p1 (by omega) h z
    · rw [a4 ni nv (by omega) p1 (by omega) h (by omega), u1 ni (by omega) (by omega) (by omega) idle_at]
      congr 1; omega
/-! ### powers -/
def powO (v : NmL) : Nat → NmL
  | 0 => idleO v.length
  | k + 1 => afN (powO v k) v
theorem pow_nm {v : NmL} (nv : Nm v) : ∀ k, Nm (powO v k) ∧ (powO v k).length = v.length
  | 0 => ⟨idle_nm nv.one nv.six, idle_len _⟩
  | k + 1 => by
    obtain ⟨h1, h2⟩ := pow_nm nv k
    exact ⟨af_nm h1 nv h2.symm, by show (afN _ _).length = _; rw [af_len h1 nv h2.symm, h2]⟩
theorem pow_one {v : NmL} (nv : Nm v) : powO v 1 = v := af_idleL nv rfl
theorem pow_add {v : NmL} (nv : Nm v) (a : Nat) : ∀ b, powO v (a + b) = afN (powO v a) (powO v b)
  | 0 => (af_idleR (pow_nm nv a).1 (pow_nm nv a).2).symm
  | b + 1 => by
    show afN (powO v (a + b)) v = afN (powO v a) (afN (powO v b) v)
    have ha := pow_nm nv a
    have hb := pow_nm nv b
    rw [pow_add nv a b, af_assoc ha.1 hb.1 nv (by omega) (by omega)]
theorem pow_mv {v : NmL} (nv : Nm v) {p : Nat} (p1 : 1 ≤ p) (p2 : p ≤ v.length) : ∀ k, gO (powO v (k + 1)) p = none ↔ gO v p = none
  | 0 => by rw [pow_one nv]
  | k + 1 => by
    have h := pow_nm nv (k + 1)
    show gO (afN (powO v (k + 1)) v) p = none ↔ _
    rw [af_mv h.1 nv h.2.symm p1 (by omega), pow_mv nv p1 p2 k]
    exact and_self_iff
theorem pow_pos {v : NmL} (nv : Nm v) {p : Nat} (p1 : 1 ≤ p) (p2 : p ≤ v.length) {x : Int} (h : gO v p = some x) (z : 0 ≤ x) (k : Nat) : gO (powO v (k + 1)) p = some x := by
  have h1 := pow_nm nv k
  exact a3 h1.1 nv h1.2.symm p1 (by omega) h z
/-- a word behind: 0, one who stays, or the old place of one who moves -/
theorem pow_word {v : NmL} (nv : Nm v) {p : Nat} (p1 : 1 ≤ p) (p2 : p ≤ v.length) {x : Int} (h : gO v p = some x) (z : x < 0) (k : Nat) {y : Int} (hy : gO (powO v (k + 1)) p = some y) (zy : 0 < y) : gO v y.toNat = none := by
  have h1 := pow_nm nv k
  have r := nm_rng nv p1 p2 h
  have e : gO (powO v (k + 1)) p = some (uN (powO v k) v (-x).toNat) := a4 h1.1 nv h1.2.symm p1 (by omega) h z
  rw [hy] at e
  have e2 := Option.some.inj e
  rw [e2] at zy ⊢
  exact (u_pos h1.1 h1.2.symm _ (by omega) (by omega)).2.2 zy
end Cd
namespace Cd
open PySem
/-! When times come again. -/
theorem rest_ex {α : Type} (f : Nat → α) : ∀ B, (∃ m, m ≤ B ∧ ∃ i, i < m ∧ f m = f i) → ∃ m i, m ≤ B ∧ i < m ∧ f m = f i ∧ ∀ a b, a < b → b < m → f b ≠ f a
  | 0, ⟨m, hm, i, hi, _⟩ => by omega
  | B + 1, ⟨m, hm, i, hi, e⟩ => by
    by_cases h : ∃ m, m ≤ B ∧ ∃ i, i < m ∧ f m = f i
    · obtain ⟨m, i, h1, h2⟩ := rest_ex f B h
      exact ⟨m, i, by omega, h2⟩
    · have hm2 : m = B + 1 := by
        by_cases z : m ≤ B
        · exact absurd ⟨m, z, i, hi, e⟩ h
        · omega
      subst hm2
      exact ⟨_, i, Nat.le_refl _, hi, e, fun a b hab hb hf => h ⟨b, by omega, a, hab, hf⟩⟩
theorem pigeon (g : Nat → Nat) (B : Nat) (hg : ∀ k, g k < B) : ∃ a b, a < b ∧ b ≤ B ∧ g b = g a := by
  refine Classical.byContradiction fun h => ?_
  have nd : ((List.range (B + 1)).map g).Nodup := by
    refine List.pairwise_map.mpr (List.Pairwise.imp_of_mem (R := (· < ·)) (fun {a b} ha hb hab e => ?_) List.pairwise_lt_range)
    exact h ⟨a, b, hab, by have := List.mem_range.mp hb; omega, e.symm⟩
  have := L2.nat_nodup_len _ (List.range B) nd fun x hx => by
    obtain ⟨k, _, rfl⟩ := List.mem_map.mp hx
    exact List.mem_range.mpr (hg k)
  rw [List.length_map, List.length_range, List.length_range] at this
  omega
def cdN (b : Nat) (g : Nat → Nat) : List Nat → Nat
  | [] => 0
  | p :: r => g p + b * cdN b g r
theorem cd_lt {b : Nat} {g : Nat → Nat} : ∀ (l : List Nat), (∀ p ∈ l, g p < b) → cdN b g l < b ^ l.length
  | [], _ => by simp [cdN]
  | p :: r, h => by
    have h1 := h p List.mem_cons_self
    have h2 := cd_lt r fun q hq => h q (List.mem_cons_of_mem _ hq)
    unfold cdN
    rw [List.length_cons, Nat.pow_succ]
    have h3 : b * cdN b g r + b ≤ b * b ^ r.length := by
      have : b * (cdN b g r + 1) ≤ b * b ^ r.length := Nat.mul_le_mul_left _ h2
      rwa [Nat.mul_add, Nat.mul_one] at this
    rw [Nat.mul_comm (b ^ r.length)]
    omega
theorem cd_inj {b : Nat} {g h : Nat → Nat} : ∀ (l : List Nat), (∀ p ∈ l, g p < b ∧ h p < b) → cdN b g l = cdN b h l → ∀ p ∈ l, g p = h p
  | [], _, _, p, hp => by simp at hp
  | q :: r, hl, e, p, hp => by
    unfold cdN at e
    obtain ⟨h1, h2⟩ := hl q List.mem_cons_self
    have bp : 0 < b := by omega
    have e1 : g q = h q := by
      have := congrArg (· % b) e
      simp only [Nat.add_mul_mod_self_left, Nat.mod_eq_of_lt h1, Nat.mod_eq_of_lt h2] at this
      exact this
    have e2 : cdN b g r = cdN b h r := by
      rw [e1] at e
      exact Nat.eq_of_mul_eq_mul_left bp (Nat.add_left_cancel e)
    rcases List.mem_cons.mp hp with rfl | hp
    · exact e1
    · exact cd_inj r (fun p hp => hl p (List.mem_cons_of_mem _ hp)) e2 p hp
def negB (v : NmL) (p : Nat) : Bool := match gO v p with | some x => decide (x < 0) | none => false
def negP (v : NmL) : List Nat := (ones v.length).filter (negB v)
def dgO : Option Int → Nat
  | some x => x.natAbs
  | none => 0
theorem neg_of {v : NmL} {p : Nat} : negB v p = true ↔ ∃ x, gO v p = some x ∧ x < 0 := by
  unfold negB
  cases gO v p <;> simp
theorem dg_le {v : NmL} (nv : Nm v) {p : Nat} (p1 : 1 ≤ p) (p2 : p ≤ v.length) : dgO (gO v p) ≤ 6 := by
  have six := nv.six
  cases h : gO v p with
  | none => exact Nat.zero_le _
  | some x =>
    have := nm_rng nv p1 p2 h
    show x.natAbs ≤ 6
    omega
theorem pow_same {v : NmL} (nv : Nm v) (a b : Nat) (h : ∀ p ∈ negP v, dgO (gO (powO v (a + 1)) p) = dgO (gO (powO v (b + 1)) p)) : powO v (a + 1) = powO v (b + 1) := by
  have ha := pow_nm nv (a + 1)
  have hb := pow_nm nv (b + 1)
  refine gO_ext (by omega) fun p p1 p2 => ?_
  have p3 : p ≤ v.length := by omega
  have ma := pow_mv nv p1 p3 a
  have mb := pow_mv nv p1 p3 b
  cases hv : gO v p with
  | none => rw [ma.mpr hv, mb.mpr hv]
  | some x =>
    by_cases z : 0 ≤ x
    · rw [pow_pos nv p1 p3 hv z a, pow_pos nv p1 p3 hv z b]
    · have hp : p ∈ negP v := List.mem_filter.mpr ⟨mem_ones.mpr ⟨p1, p3⟩, neg_of.mpr ⟨x, hv, by omega⟩⟩
      have e := h p hp
      cases ya : gO (powO v (a + 1)) p with
      | none => rw [ma.mp ya] at hv; cases hv
      | some s =>
        cases yb : gO (powO v (b + 1)) p with
        | none => rw [mb.mp yb] at hv; cases hv
        | some t =>
          rw [ya, yb] at e
          have e2 : s.natAbs = t.natAbs := e
          by_cases st : s = t
          · rw [st]
          · exfalso
            have key : ∀ (j : Nat) (s t : Int), gO (powO v (j + 1)) p = some t → gO v s.toNat = none → 0 < s → t = -s → False := fun j s t h1 h2 h3 h4 => by
              have hj := pow_nm nv (j + 1)
              have rt := nm_rng hj.1 p1 (by omega) h1
              have hg := gO_at (v := powO v (j + 1)) p1 (by omega)
              rw [h1] at hg
              obtain ⟨y, hy⟩ := hj.1.mv _ _ hg (by omega)
              have e3 : (-t - 1).toNat = s.toNat - 1 := by omega
              rw [e3, gO_at (by omega) (by omega)] at hy
              rw [(pow_mv nv (by omega) (by omega) j).mpr h2] at hy
              cases hy
            by_cases sp : 0 < s
            · exact key b s t yb (pow_word nv p1 p3 hv (by omega) a ya sp) sp (by omega)
            · exact key a t s ya (pow_word nv p1 p3 hv (by omega) b yb (by omega)) (by omega) (by omega)
theorem all_neg {v : NmL} (nv : Nm v) (h : ∀ p, 1 ≤ p → p ≤ v.length → ∃ x, gO v p = some x ∧ x < 0) : ∀ k p, 1 ≤ p → p ≤ v.length → ∃ x, gO (powO v (k + 1)) p = some x ∧ x < 0
  | 0, p, p1, p2 => by rw [pow_one nv]; exact h p p1 p2
  | k + 1, p, p1, p2 => by
    obtain ⟨x, hx, zx⟩ := h p p1 p2
    have hk := pow_nm nv (k + 1)
    have r := nm_rng nv p1 p2 hx
    obtain ⟨y, hy, zy⟩ := all_neg nv h k (-x).toNat (by omega) (by omega)
    have e : gO (powO v (k + 1 + 1)) p = some (uN (powO v (k + 1)) v (-x).toNat) := a4 hk.1 nv hk.2.symm p1 (by omega) hx zx
    rw [e, u2 hk.1 hk.2.symm (by omega) (by omega) hy (by omega)]
    exact ⟨y, rfl, zy⟩
structure RestIs (v : NmL) (m i : Nat) : Prop where
  few : m ≤ 60000
  lt : i < m
  eq : powO v m = powO v i
  ne : ∀ a b, a < b → b < m → powO v b ≠ powO v a
theorem pow_rest {v : NmL} (nv : Nm v) : ∃ m i, RestIs v m i := by
  have six := nv.six
  have ln : (negP v).length ≤ v.length := by
    unfold negP
    refine Nat.le_trans (List.length_filter_le ..) ?_
    rw [ones_len]; exact Nat.le_refl _
  have rep : ∃ a b, a < b ∧ b ≤ 50000 ∧ powO v (b + 1) = powO v (a + 1) := by
    by_cases hl : (negP v).length ≤ 5
    · have lt7 : ∀ k, ∀ p ∈ negP v, dgO (gO (powO v (k + 1)) p) < 7 := fun k p hp => by
        have h := mem_ones.mp (List.mem_filter.mp hp).1
        have hk := pow_nm nv (k + 1)
        have := dg_le hk.1 h.1 (by omega)
        omega
      have b5 : 7 ^ (negP v).length ≤ 50000 := Nat.le_trans (Nat.pow_le_pow_right (by omega) hl) (by decide)
      obtain ⟨a, b, h1, h2, h3⟩ := pigeon (fun k => cdN 7 (fun p => dgO (gO (powO v (k + 1)) p)) (negP v)) 50000 fun k => Nat.lt_of_lt_of_le (cd_lt _ (lt7 k)) b5
      exact ⟨a, b, h1, h2, pow_same nv b a (cd_inj _ (fun p hp => ⟨lt7 b p hp, lt7 a p hp⟩) h3)⟩
    · have l6 : (negP v).length = (ones v.length).length := by rw [ones_len]; omega
      have all : ∀ p, 1 ≤ p → p ≤ v.length → ∃ x, gO v p = some x ∧ x < 0 := fun p p1 p2 => by
        have := List.length_filter_eq_length_iff.mp l6 p (mem_ones.mpr ⟨p1, p2⟩)
        exact neg_of.mp this
      have an := all_neg nv all
      have lt6 : ∀ k, ∀ p ∈ negP v, dgO (gO (powO v (k + 1)) p) - 1 < 6 ∧ 1 ≤ dgO (gO (powO v (k + 1)) p) := fun k p hp => by
        have h := mem_ones.mp (List.mem_filter.mp hp).1
        have hk := pow_nm nv (k + 1)
        have h6 := dg_le hk.1 h.1 (by omega)
        obtain ⟨x, hx, zx⟩ := an k p h.1 h.2
        rw [hx] at h6 ⊢
        have : dgO (some x) = x.natAbs := rfl
        omega
      have b6 : 6 ^ (negP v).length ≤ 50000 := Nat.le_trans (Nat.pow_le_pow_right (by omega) (show _ ≤ 6 by omega)) (by decide)
      obtain ⟨a, b, h1, h2, h3⟩ := pigeon (fun k => cdN 6 (fun p => dgO (gO (powO v (k + 1)) p) - 1) (negP v)) 50000 fun k => Nat.lt_of_lt_of_le (cd_lt _ fun p hp => (lt6 k p hp).1) b6
      refine ⟨a, b, h1, h2, pow_same nv b a fun p hp => ?_⟩
      have e := cd_inj (g := fun p => dgO (gO (powO v (b + 1)) p) - 1) (h := fun p => dgO (gO (powO v (a + 1)) p) - 1) _ (fun p hp => ⟨(lt6 b p hp).1, (lt6 a p hp).1⟩) h3 p hp
      have w1 := (lt6 a p hp).2
      have w2 := (lt6 b p hp).2
      have e3 : dgO (gO (powO v (b + 1)) p) - 1 = dgO (gO (powO v (a + 1)) p) - 1 := e
      omega
  obtain ⟨a, b, h1, h2, h3⟩ := rep
  obtain ⟨m, i, k1, k2, k3, k4⟩ := rest_ex (powO v) 60000 ⟨b + 1, by omega, a + 1, by omega, h3⟩
  exact ⟨m, i, k1, k2, k3, k4⟩
end Cd
namespace Cd
open PySem
/-! `naming_rest`, `is_still`. -/
def pL (v : NmL) (k : Nat) : List PyData := (List.range k).map fun j => nD (powO v j)
theorem pL_len (v : NmL) (k : Nat) : (pL v k).length = k := by unfold pL; rw [List.length_map, List.length_range]
theorem pL_succ (v : NmL) (k : Nat) : pL v (k + 1) = pL v k ++ [nD (powO v k)] := by unfold pL; rw [List.range_succ, List.map_append]; rfl
theorem pL_at {v : NmL} {k j : Nat} (h : j < k) : (pL v k)[j]? = some (nD (powO v j)) := by
  unfold pL
  rw [List.getElem?_map, List.getElem?_range h]; rfl
theorem canLayNL : ∀ L : List NmL, PyData.canLayAll0 (L.map nD) = true ∧ PyData.depthAll (L.map nD) ≤ 1
  | [] => ⟨by simp [PyData.canLayAll0], by simp [PyData.depthAll]⟩
  | v :: r => by
    obtain ⟨h1, h2⟩ := canLayNL r
    obtain ⟨h3, h4⟩ := canLayO v
    constructor
    · show PyData.canLayAll0 (nD v :: r.map nD) = true
      simp [PyData.canLayAll0, PyData.canLay0, h1, h3]
    · show PyData.depthAll (nD v :: r.map nD) ≤ 1
      simp [PyData.depthAll, PyData.depth, h4]
      omega
theorem okD_NL (L : List NmL) : okD (.list (L.map nD)) = true := by
  obtain ⟨h1, h2⟩ := canLayNL L
  unfold okD SeqAt.shaped
  rw [Bool.and_eq_true]
  constructor
  · simp [PyData.canLay0, h1]
  · simp [PyData.depth]
    omega
theorem okD_pL (v : NmL) (k : Nat) : okD (.list (pL v k)) = true := by
  have e : pL v k = ((List.range k).map (powO v)).map nD := by unfold pL; rw [List.map_map]; rfl
  rw [e]; exact okD_NL _
theorem eqv_O (v w : NmL) : PyData.eqv (nD v) (nD w) = decide (v = w) := by rw [PyData.eqv, eqvO]
theorem anyP (v w : NmL) (k : Nat) : ((pL v k).any fun z => PyData.eqv z (nD w)) = decide (∃ j, j < k ∧ powO v j = w) := by
  rw [Bool.eq_iff_iff, List.any_eq_true, decide_eq_true_iff]
  constructor
  · rintro ⟨z, hz, h⟩
    obtain ⟨j, hj, rfl⟩ := List.mem_map.mp hz
    rw [eqv_O, decide_eq_true_iff] at h
    exact ⟨j, List.mem_range.mp hj, h⟩
  · rintro ⟨j, hj, h⟩
    exact ⟨nD (powO v j), List.mem_map.mpr ⟨j, List.mem_range.mpr hj, rfl⟩, by rw [eqv_O, decide_eq_true_iff]; exact h⟩
theorem nin_P (v w : NmL) (k : Nat) : cmpD .notin (nD w) (.list (pL v k)) = some (!decide (∃ j, j < k ∧ powO v j = w)) := by
  show (if okD (nD w) && okD (.list (pL v k)) then some (!(pL v k).any fun z => PyData.eqv z (nD w)) else none) = _
  rw [okD_O, okD_pL, anyP]; rfl
theorem idx_at : ∀ (l : List PyData) (d : PyData) (i : Nat), (∃ z, l[i]? = some z ∧ PyData.eqv z d = true) → (∀ j z, j < i → l[j]? = some z → PyData.eqv z d = false) → idxD l d = some i
  | [], d, i, ⟨z, h, _⟩, _ => by simp at h
  | x :: r, d, 0, ⟨z, h, e⟩, _ => by
    have : x = z := by simpa using h
    subst this
    unfold idxD
    rw [if_pos e]
  | x :: r, d, i + 1, ⟨z, h, e⟩, hn => by
    unfold idxD
    have e0 := hn 0 x (by omega) rfl
    rw [e0, if_neg nofun, idx_at r d i ⟨z, by simpa using h, e⟩ fun j z hj hz => hn (j + 1) z (by omega) (by simpa using hz)]
theorem idx_P {v : NmL} {m i : Nat} (h : RestIs v m i) : idxD (pL v m) (nD (powO v m)) = some i := by
  refine idx_at _ _ _ ⟨_, pL_at h.lt, by rw [eqv_O, decide_eq_true_iff, h.eq]⟩ fun j z hj hz => ?_
  rw [pL_at (by have := h.lt; omega)] at hz
  cases hz
  rw [eqv_O, decide_eq_false_iff_not, h.eq]
  exact fun e => h.ne j i hj h.lt e.symm
section
variable {ns : List Int} {C : CT}
theorem e_idx2 {a b : E} {env : List Slot} {l : List PyData} {d : PyData} {n : Nat} (ha : rd env a (evE ns C a env) = M.ret (.list l)) (hb : evE ns C b env = M.ret d) (ok : okD (.list l) = true) (ok2 : okD d = true) (h : idxD l d = some n) : evE ns C (.index a b) env = M.ret (dN n) := by
  have e : evE ns C (.index a b) env = M.bd (rd env a (evE ns C a env)) fun x => M.bd (evE ns C b env) fun y => (match x with | .list l => if okD (.list l) && okD y then (match idxD l y with | some n => M.ret (.int (n : Nat)) | none => M.no) else M.no | _ => M.no) := by simp only [evE] <;> rfl
  rw [e, ha, bd_ret, hb, bd_ret]
  show (if okD (.list l) && okD d then (match idxD l d with | some n => M.ret (PyData.int (n : Nat)) | none => M.no) else M.no) = _
  rw [ok, ok2, h]; rfl
theorem rest_tail {env : List Slot} {v : NmL} {m i s t : Nat} (h : RestIs v m i) (hs : env[s]? = some (.ow (pL v m))) (ht : env[t]? = some (.sh (nD (powO v m)))) : evE ns C (.tup (.cons false (.index (.var s) (.var t)) (.cons false (.bin .sub (.f1 .len (.var s)) (.index (.var s) (.var t))) .nil))) env = M.ret (dT [i, m - i]) := by
  have rs : rd env (.var s) (evE ns C (.var s) env) = M.ret (.list (pL v m)) := by simp only [rd, hs]
  have rt : evE ns C (.var t) env = M.ret (nD (powO v m)) := by simp only [evE, ht]
  have ei : evE ns C (.index (.var s) (.var t)) env = M.ret (dN i) := e_idx2 rs rt (okD_pL v m) (okD_O _) (idx_P h)
  have el : evE ns C (.f1 .len (.var s)) env = M.ret (dN m) := e_f12 rs (by show some (PyData.int ((pL v m).length : Nat)) = _; rw [pL_len])
  have es : evE ns C (.bin .sub (.f1 .len (.var s)) (.index (.var s) (.var t))) env = M.ret (dN (m - i)) := by
    refine e_bin2 (a := .f1 .len (.var s)) (b := .index (.var s) (.var t)) (x := dN m) (y := dN i) el ei ?_
    show some (PyData.int ((m : Int) - (i : Int))) = some (PyData.int ((m - i : Nat) : Int))
    have := h.lt
    congr 2; omega
  have l2 : evL ns C (.cons false (.index (.var s) (.var t)) (.cons false (.bin .sub (.f1 .len (.var s)) (.index (.var s) (.var t))) .nil)) env = M.ret (mN [i, m - i]) := l_one ei (l_one es rfl)
  have e : evE ns C (.tup (.cons false (.index (.var s) (.var t)) (.cons false (.bin .sub (.f1 .len (.var s)) (.index (.var s) (.var t))) .nil))) env = M.bd (evL ns C (.cons false (.index (.var s) (.var t)) (.cons false (.bin .sub (.f1 .len (.var s)) (.index (.var s) (.var t))) .nil)) env) fun l => if l.length ≤ LB then M.ret (.tuple l) else M.no := by simp only [evE]
  rw [e, l2, bd_ret]; rfl
def ir_naming_rest (f g h : Nat) : SL := (.cons [] (.drop (.call f (.cons false (.var 0) .nil)))
  (.cons [] (.par [1, 2] (.cons false (.lst .nil) (.cons false (.call g (.cons false (.f1 .len (.var 0)) .nil)) .nil)))
  (.cons [] (.wh (.cmp .notin (.var 2) (.var 1)) (.cons [] (.app 1 (.var 2))
  (.cons [] (.set 2 (.call h (.cons false (.var 2) (.cons false (.var 0) .nil))))
  .nil)))
  (.cons [] (.ret (.tup (.cons false (.index (.var 1) (.var 2)) (.cons false (.bin .sub (.f1 .len (.var 1)) (.index (.var 1) (.var 2))) .nil))))
  .nil))))
theorem naming_rest_ok {f g h : Nat} (hf : NeedNmOk C f) (hg : IdleOk C g) (hh : AfterOk C h 7) {v : NmL} {m i : Nat} (nv : Nm v) (r : RestIs v m i) : exL ns C (ir_naming_rest f g h) [.sh (nD v), .no, .no] = M.ret (.rt (dT [i, m - i])) := by
  have six := nv.six
  have w := whL_inv (c := fun env => evT ns C (.cmp .notin (.var 2) (.var 1)) env) (f := fun env => exL ns C (.cons [] (.app 1 (.var 2)) (.cons [] (.set 2 (.call h (.cons false (.var 2) (.cons false (.var 0) .nil)))) .nil)) env)
    (fun q env => ∃ j, j ≤ m ∧ q = m - j ∧ env = [.sh (nD v), .ow (pL v j), .sh (nD (powO v j))]) (fun env => env = [.sh (nD v), .ow (pL v m), .sh (nD (powO v m))]) (fun q env ⟨j, j1, j2, he⟩ => by
      subst he
      have t : evT ns C (.cmp .notin (.var 2) (.var 1)) [.sh (nD v), .ow (pL v j), .sh (nD (powO v j))] = M.ret (!decide (∃ a, a < j ∧ powO v a = powO v j)) := t_cmp2 (x := nD (powO v j)) (y := .list (pL v j)) rfl rfl (nin_P ..)
      by_cases z : j = m
      · subst z
        refine .inl ⟨t.trans ?_, rfl⟩
        rw [decide_eq_true ⟨i, r.lt, r.eq.symm⟩]; rfl
      · refine .inr ⟨t.trans ?_, [.sh (nD v), .ow (pL v (j + 1)), .sh (nD (powO v (j + 1)))], m - (j + 1), ?_, by omega, j + 1, by omega, rfl, rfl⟩
        · rw [decide_eq_false fun ⟨a, a1, a2⟩ => r.ne a j a1 (by omega) a2.symm]; rfl
        · have hj := pow_nm nv j
          have few := r.few
          rw [pL_succ]
          exact st0 (e1 := [.sh (nD v), .ow (pL v j ++ [nD (powO v j)]), .sh (nD (powO v j))]) (x_app (i := 1) (l := pL v j) rfl rfl (by rw [pL_len]; unfold LB; omega)) (st0 (e1 := [.sh (nD v), .ow (pL v j ++ [nD (powO v j)]), .sh (nD (powO v (j + 1)))]) (x_set (i := 2) (d := nD (powO v (j + 1))) (e_call2 (l := [.sh (nD (powO v j)), .sh (nD v)]) rfl (hh _ _ _ (af_eq hj.1 nv hj.2.symm) six) rfl)) exL_nil)) 100000 m [.sh (nD v), .ow (pL v 0), .sh (nD (powO v 0))] ⟨0, Nat.zero_le _, rfl, rfl⟩ (by have := r.few; omega)
  obtain ⟨e, w1, w2⟩ := w
  subst w2
  have el := e_lenO (ns := ns) (C := C) (i := 0) (v := v) (env := [.sh (nD v), .no, .no]) rfl
  refine st0 (x_need (d := .none) (l := [.sh (nD v)]) rfl (hf v nv)) (st0 (e1 := [.sh (nD v), .ow (pL v 0), .sh (nD (powO v 0))]) (x_par (l := [.list [], nD (idleO v.length)]) (l_one rfl (l_one (e_call2 (l := [.sh (dN v.length)]) (aa1 (a_hand (fun _ => rfl) el)) (hg _ six) rfl) rfl)) rfl) (st0 (x_wh.trans w1) (exL_ret (x_ret ?_))))
  exact rest_tail r rfl rfl
def ir_is_still (f h : Nat) : SL := (.cons [] (.drop (.call f (.cons false (.var 0) .nil)))
  (.cons [] (.ret (.cmp .eq (.call h (.cons false (.var 0) (.cons false (.var 0) .nil))) (.var 0)))
  .nil))
theorem is_still_ok {f h : Nat} (hf : NeedNmOk C f) (hh : AfterOk C h 7) {v : NmL} (nv : Nm v) : exL ns C (ir_is_still f h) [.sh (nD v)] = M.ret (.rt (.bool (decide (afN v v = v)))) :=
  st0 (x_need (d := .none) (l := [.sh (nD v)]) rfl (hf v nv)) (exL_ret (x_ret (e_cmp2 (x := nD (afN v v)) (y := nD v) (e_call2 (l := [.sh (nD v), .sh (nD v)]) rfl (hh _ _ _ (af_eq nv nv rfl) nv.six) rfl) rfl (eq_O ..))))
theorem v_callE {f : Nat} {es : EL} {env : List Slot} {PA : List Slot → Prop} {P : PyData → Prop} (h : Ev (evA ns C es env) PA) (hc : ∀ l, PA l → Ev (C f l) P) (hb : brw env es = false) : Ev (evE ns C (.call f es) env) P := by
  have e : evE ns C (.call f es) env = M.bd (evA ns C es env) fun l => M.bd (C f l) fun d => lent (brw env es) d := by simp only [evE]
  rw [e]
  refine Ev.bd h fun l hl => Ev.bd (hc l hl) fun d hd => ?_
  rw [hb]
  exact .of rfl hd
theorem vA_nil {env : List Slot} : Ev (evA ns C .nil env) fun l => l = [] := .of (by simp only [evA]) rfl
theorem vA_cons {e : E} {r : EL} {env : List Slot} {P : PyData → Prop} {Q : List Slot → Prop} (n : Hand env e) (h : Ev (evE ns C e env) P) (k : Ev (evA ns C r env) Q) : Ev (evA ns C (.cons false e r) env) fun l => ∃ d t, l = .sh d :: t ∧ P d ∧ Q t := by
  have e1 : evA ns C (.cons false e r) env = M.bd (argOf env e (evE ns C e env)) fun x => M.bd (evA ns C r env) fun l => M.ret (x :: l) := by simp only [evA]
  rw [e1, n]
  refine Ev.bd (P := fun s => ∃ d, P d ∧ s = .sh d) (Ev.bd h fun d hd => .of rfl ⟨d, hd, rfl⟩) fun s ⟨d, hd, hs⟩ => ?_
  subst hs
  exact Ev.bd k fun t ht => .of rfl ⟨d, t, rfl, hd, ht⟩
theorem vA_arg {e : E} {r : EL} {env : List Slot} {s : Slot} {Q : List Slot → Prop} (h : argOf env e (evE ns C e env) = M.ret s) (k : Ev (evA ns C r env) Q) : Ev (evA ns C (.cons false e r) env) fun l => ∃ t, l = s :: t ∧ Q t := by
  have e1 : evA ns C (.cons false e r) env = M.bd (argOf env e (evE ns C e env)) fun x => M.bd (evA ns C r env) fun l => M.ret (x :: l) := by simp only [evA]
  rw [e1, h, bd_ret]
  exact Ev.bd k fun t ht => .of rfl ⟨t, rfl, ht⟩
theorem v_lst {es : EL} {env : List Slot} {P : List PyData → Prop} (h : Ev (evL ns C es env) P) (hl : ∀ l, P l → l.length ≤ LB) : Ev (evE ns C (.lst es) env) fun d => ∃ l, P l ∧ d = .list l := by
  have e1 : evE ns C (.lst es) env = M.bd (evL ns C es env) fun l => if l.length ≤ LB then M.ret (.list l) else M.no := by simp only [evE]
  rw [e1]
  refine Ev.bd h fun l p => ?_
  rw [if_pos (hl l p)]
  exact .of rfl ⟨l, p, rfl⟩
theorem ix_last {i : Nat} {env : List Slot} {l : List PyData} {d : PyData} (h : env[i]? = some (.ow (l ++ [d]))) : evE ns C (.ix (.var i) (.neg (.int 1))) env = M.ret d := by
  simp only [evE, rd, h, bd_ret, elemsD]
  have e : ixD (l ++ [d]) (-1) = some d := by
    unfold ixD
    rw [if_neg (by omega), List.length_append, List.length_singleton, if_pos (by omega)]
    have : (-1 + ((l.length + 1 : Nat) : Int)).toNat = l.length := by omega
    rw [this, List.getElem?_append_right (Nat.le_refl _), Nat.sub_self]; rfl
  show M.of (ixD (l ++ [d]) (-1)) = _
  rw [e]; rfl
end
end Cd
namespace Cd
open PySem
/-! Movers; namings that come; sets. -/
theorem mem_movers {v : NmL} {k : Nat} : k ∈ moversS v ↔ (1 ≤ k ∧ k ≤ v.length) ∧ gO v k ≠ none := by
  unfold moversS
  rw [List.mem_map]
  constructor
  · rintro ⟨i, hi, rfl⟩
    obtain ⟨h1, h2⟩ := List.mem_filter.mp hi
    have h3 := List.mem_range'_1.mp h1
    refine ⟨⟨by omega, by omega⟩, fun z => ?_⟩
    have := gO_at (v := v) (p := i + 1) (by omega) (by omega)
    rw [Nat.add_sub_cancel, z] at this
    rw [this] at h2
    simp at h2
  · rintro ⟨⟨h1, h2⟩, h3⟩
    refine ⟨k - 1, List.mem_filter.mpr ⟨List.mem_range'_1.mpr ⟨by omega, by omega⟩, ?_⟩, by omega⟩
    rw [gO_at h1 h2]
    simpa using h3
theorem movers_asc (v : NmL) : List.Pairwise (· < ·) (moversS v) := by
  unfold moversS
  refine List.pairwise_map.mpr ?_
  refine List.Pairwise.imp (R := (· < ·)) (fun h => by omega) ?_
  exact List.Pairwise.filter _ List.pairwise_lt_range'
theorem movers_le (v : NmL) : (moversS v).length ≤ v.length := by
  unfold moversS
  rw [List.length_map]
  refine Nat.le_trans (List.length_filter_le ..) ?_
  rw [List.length_range']; exact Nat.le_refl _
theorem asc_eqN : ∀ {a b : List Nat}, List.Pairwise (· < ·) a → List.Pairwise (· < ·) b → (∀ k, k ∈ a ↔ k ∈ b) → a = b
  | [], [], _, _, _ => rfl
  | [], y :: r, _, _, h => by have := (h y).mpr List.mem_cons_self; simp at this
  | x :: r, [], _, _, h => by have := (h x).mp List.mem_cons_self; simp at this
  | x :: r, y :: q, h1, h2, h => by
    rw [List.pairwise_cons] at h1 h2
    have e : x = y := by
      have a := (h x).mp List.mem_cons_self
      have b := (h y).mpr List.mem_cons_self
      rcases List.mem_cons.mp a with a | a
      · exact a
      · rcases List.mem_cons.mp b with b | b
        · exact b.symm
        · have := h1.1 _ b; have := h2.1 _ a; omega
    subst e
    rw [asc_eqN h1.2 h2.2 fun k => ?_]
    constructor
    · intro hk
      rcases List.mem_cons.mp ((h k).mp (List.mem_cons_of_mem _ hk)) with z | z
      · subst z; exact absurd (h1.1 _ hk) (Nat.lt_irrefl _)
      · exact z
    · intro hk
      rcases List.mem_cons.mp ((h k).mpr (List.mem_cons_of_mem _ hk)) with z | z
      · subst z; exact absurd (h2.1 _ hk) (Nat.lt_irrefl _)
      · exact z
theorem movers_eq {a b : NmL} (hl : a.length = b.length) (h : ∀ p, 1 ≤ p → p ≤ a.length → (gO a p = none ↔ gO b p = none)) : moversS a = moversS b :=
  asc_eqN (movers_asc a) (movers_asc b) fun k => by
    rw [mem_movers, mem_movers]
    constructor
    · rintro ⟨⟨h1, h2⟩, h3⟩
      exact ⟨⟨h1, by omega⟩, fun z => h3 ((h k h1 h2).mpr z)⟩
    · rintro ⟨⟨h1, h2⟩, h3⟩
      exact ⟨⟨h1, by omega⟩, fun z => h3 ((h k h1 (by omega)).mp z)⟩
theorem movers_af {v w : NmL} (nv : Nm v) (nw : Nm w) (hw : w.length = v.length) (k : Nat) : k ∈ moversS (afN v w) ↔ k ∈ moversS v ++ moversS w := by
  rw [List.mem_append, mem_movers, mem_movers, mem_movers, af_len nv nw hw, hw]
  constructor
  · rintro ⟨⟨h1, h2⟩, h3⟩
    by_cases z : gO v k = none
    · exact .inr ⟨⟨h1, h2⟩, fun y => h3 ((af_mv nv nw hw h1 h2).mpr ⟨z, y⟩)⟩
    · exact .inl ⟨⟨h1, h2⟩, z⟩
  · rintro (⟨⟨h1, h2⟩, h3⟩ | ⟨⟨h1, h2⟩, h3⟩)
    · exact ⟨⟨h1, h2⟩, fun y => h3 ((af_mv nv nw hw h1 h2).mp y).1⟩
    · exact ⟨⟨h1, h2⟩, fun y => h3 ((af_mv nv nw hw h1 h2).mp y).2⟩
theorem movers_pow {v : NmL} (nv : Nm v) {m : Nat} (h : 1 ≤ m) : moversS (powO v m) = moversS v := by
  obtain ⟨k, rfl⟩ : ∃ k, m = k + 1 := ⟨m - 1, by omega⟩
  have hk := pow_nm nv (k + 1)
  exact movers_eq hk.2 fun p p1 p2 => pow_mv nv p1 (by omega) k
/-! ### which come -/
def posB : Option Int → Bool
  | some x => decide (0 ≤ x)
  | none => false
def comesB (v : NmL) : Bool := (moversS v).isEmpty || v.any posB
theorem comes_iff {v : NmL} : comesB v = true ↔ (∀ p, 1 ≤ p → p ≤ v.length → gO v p = none) ∨ ∃ p x, 1 ≤ p ∧ p ≤ v.length ∧ gO v p = some x ∧ 0 ≤ x := by
  unfold comesB
  rw [Bool.or_eq_true, List.isEmpty_iff, List.any_eq_true]
  have a1 : moversS v = [] ↔ ∀ p, 1 ≤ p → p ≤ v.length → gO v p = none := by
    rw [List.eq_nil_iff_forall_not_mem]
    constructor
    · intro h p h1 h2
      exact Classical.byContradiction fun z => h p (mem_movers.mpr ⟨⟨h1, h2⟩, z⟩)
    · intro h p hp
      obtain ⟨⟨h1, h2⟩, h3⟩ := mem_movers.mp hp
      exact h3 (h p h1 h2)
  have a2 : (∃ x, x ∈ v ∧ posB x = true) ↔ ∃ p x, 1 ≤ p ∧ p ≤ v.length ∧ gO v p = some x ∧ 0 ≤ x := by
    constructor
    · rintro ⟨o, ho, hp⟩
      obtain ⟨i, hi⟩ := List.mem_iff_getElem?.mp ho
      have il := (List.getElem?_eq_some_iff.mp hi).1
      have e := gO_at (v := v) (p := i + 1) (by omega) (by omega)
      rw [Nat.add_sub_cancel, hi] at e
      have e2 := Option.some.inj e
      cases o with
      | none => cases hp
      | some x => exact ⟨i + 1, x, by omega, by omega, e2.symm, by simpa [posB] using hp⟩
    · rintro ⟨p, x, h1, h2, h3, h4⟩
      have e := gO_at h1 h2
      rw [h3] at e
      exact ⟨some x, List.mem_of_getElem? e, by simpa [posB] using h4⟩
  rw [a1, a2]
theorem comes_af {v w : NmL} (nv : Nm v) (nw : Nm w) (hw : w.length = v.length) (cv : comesB v = true) (cw : comesB w = true) : comesB (afN v w) = true := by
  rcases comes_iff.mp cw with h | ⟨p, x, h1, h2, h3, h4⟩
  · have e : w = idleO v.length := by
      have li := idle_len v.length
      exact gO_ext (by omega) fun p p1 p2 => by rw [h p p1 p2, idle_at]
    rw [e, af_idleR nv rfl]
    exact cv
  · exact comes_iff.mpr (.inr ⟨p, x, h1, by rw [af_len nv nw hw]; omega, a3 nv nw hw h1 (by omega) h3 h4, h4⟩)
section
variable {ns : List Int} {C : CT}
theorem anyO {own : List (Str × Nat)} {i : Nat} {it : It} {e : E} {env : List Slot} {v : NmL} (p : Option Int → Bool) (hi : evI ns C it env = M.ret (nL v))
    (he : ∀ o, evE ns C e (setS (wipeE env (own.map (·.2))) i (oD o)) = M.ret (.bool (p o))) : evE ns C (.g .any own (.nm i) it e) env = M.ret (.bool (v.any p)) := by
  have a4 : ∀ v : NmL, anyL (fun x => match bindT (wipeE env (own.map (·.2))) (.nm i) x with | some env' => evE ns C e env' | none => M.no) (nL v) = M.ret (v.any p) := by
    intro v
    induction v with
    | nil => rfl
    | cons o r ih =>
      have e1 : anyL (fun x => match bindT (wipeE env (own.map (·.2))) (.nm i) x with | some env' => evE ns C e env' | none => M.no) (nL (o :: r)) = M.bd (evE ns C e (setS (wipeE env (own.map (·.2))) i (oD o))) fun y => match y with
        | .bool false => anyL (fun x => match bindT (wipeE env (own.map (·.2))) (.nm i) x with | some env' => evE ns C e env' | none => M.no) (nL r)
        | .bool true => M.ret true
        | _ => M.no := rfl
      rw [e1, he, bd_ret, List.any_cons]
      cases p o with
      | true => rfl
      | false => rw [Bool.false_or]; exact ih
  simp only [evE, hi, bd_ret]
  exact (congrArg (fun m => M.bd m fun b => M.ret (PyData.bool b)) (a4 v)).trans rfl
def ir_does_come (m : Nat) : SL := (.cons [] (.ret (.or (.not (.call m (.cons false (.var 0) .nil))) (.g .any [("one", 1)] (.nm 1) (.seq (.var 0)) (.and (.cmp .isNotN (.var 1) .non) (.cmp .ge (.var 1) (.int 0))))))
  .nil)
theorem does_come_ok {m : Nat} {v : NmL} (hm : C m [.sh (nD v)] = M.ret (.list (mN (moversS v)))) : exL ns C (ir_does_come m) [.sh (nD v), .no] = M.ret (.rt (.bool (comesB v))) := by
  refine exL_ret (x_ret ?_)
  have e1 : evE ns C (.call m (.cons false (.var 0) .nil)) [.sh (nD v), .no] = M.ret (.list (mN (moversS v))) := e_call2 (l := [.sh (nD v)]) rfl hm rfl
  have e2 : evE ns C (.not (.call m (.cons false (.var 0) .nil))) [.sh (nD v), .no] = M.ret (.bool (moversS v).isEmpty) := by
    have e : evE ns C (.not (.call m (.cons false (.var 0) .nil))) [.sh (nD v), .no] = M.bd (evE ns C (.call m (.cons false (.var 0) .nil)) [.sh (nD v), .no]) fun x => match truthD x with | some b => M.ret (.bool !b) | none => M.no := by simp only [evE] <;> rfl
    rw [e, e1, bd_ret]
    show M.ret (PyData.bool (!(!(mN (moversS v)).isEmpty))) = _
    rw [Bool.not_not]
    cases moversS v <;> rfl
  refine e_or2 (a := .not (.call m (.cons false (.var 0) .nil))) e2 fun _ => ?_
  refine anyO (v := v) posB rfl fun o => ?_
  cases o with
  | none => exact (e_and2 ns C (a := .cmp .isNotN (.var 1) .non) (env := [.sh (nD v), .sh .none]) (p := false) (q := false) (e_cmp2 (x := .none) (y := .none) rfl rfl rfl) fun z => by cases z).trans rfl
  | some x => exact (e_and2 ns C (a := .cmp .isNotN (.var 1) .non) (b := .cmp .ge (.var 1) (.int 0)) (env := [.sh (nD v), .sh (.int x)]) (p := true) (q := decide (0 ≤ x)) (e_cmp2 (x := .int x) (y := .none) rfl rfl rfl) fun _ => e_cmp2 (x := .int x) (y := .int 0) rfl rfl rfl).trans rfl
def ir_comes (f g : Nat) : SL := (.cons [] (.drop (.call f (.cons false (.var 0) .nil)))
  (.cons [] (.ret (.call g (.cons false (.var 0) .nil)))
  .nil))
theorem comes_ok {f g : Nat} {v : NmL} (hf : NeedNmOk C f) (nv : Nm v) (hg : C g [.sh (nD v)] = M.ret (.bool (comesB v))) : exL ns C (ir_comes f g) [.sh (nD v)] = M.ret (.rt (.bool (comesB v))) :=
  st0 (x_need (d := .none) (l := [.sh (nD v)]) rfl (hf v nv)) (exL_ret (x_ret (e_call2 (l := [.sh (nD v)]) rfl hg rfl)))
theorem intsN : ∀ l : List Nat, intsD (mN l) = some (l.map fun (k : Nat) => (k : Int))
  | [] => rfl
  | x :: r => by
    show (match intsD (mN r) with | some l => some ((x : Int) :: l) | none => none) = _
    rw [intsN r]; rfl
theorem usortN {L R : List Nat} (h1 : List.Pairwise (· < ·) R) (h2 : ∀ k, k ∈ R ↔ k ∈ L) : usort (L.map fun (k : Nat) => (k : Int)) = R.map fun (k : Nat) => (k : Int) := by
  refine asc_eq (usort_sorted _) (List.pairwise_map.mpr (h1.imp fun h => by omega)) fun k => ?_
  rw [usort_mem, List.mem_map, List.mem_map]
  constructor
  · rintro ⟨x, hx, rfl⟩
    exact ⟨x, (h2 x).mpr hx, rfl⟩
  · rintro ⟨x, hx, rfl⟩
    exact ⟨x, (h2 x).mp hx, rfl⟩
/-- the set of some numbers, sorted -/
theorem e_sset2 {a : E} {env : List Slot} {d : PyData} {L R : List Nat} (ha : rd env a (evE ns C a env) = M.ret d) (hd : elemsD d = some (mN L)) (hl : L.length < 60) (h1 : List.Pairwise (· < ·) R) (h2 : ∀ k, k ∈ R ↔ k ∈ L) : evE ns C (.sset a) env = M.ret (.list (mN R)) := by
  have e : evE ns C (.sset a) env = M.bd (rd env a (evE ns C a env)) fun x => match elemsD x with
    | some l => (match intsD l with
      | some xs => if xs.length < 60 then M.ret (.list ((usort xs).map .int)) else M.no
      | none => M.no)
    | none => M.no := by simp only [evE] <;> rfl
  rw [e, ha, bd_ret, hd]
  show (match intsD (mN L) with | some xs => if xs.length < 60 then M.ret (PyData.list ((usort xs).map .int)) else M.no | none => M.no) = _
  rw [intsN]
  show (if (L.map fun (k : Nat) => (k : Int)).length < 60 then M.ret (PyData.list ((usort (L.map fun (k : Nat) => (k : Int))).map .int)) else M.no) = _
  rw [List.length_map, if_pos hl, usortN h1 h2, List.map_map]; rfl
theorem bin_addT {a b : List PyData} (h : a.length + b.length ≤ LB) : binD .add (.tuple a) (.tuple b) = some (.tuple (a ++ b)) := by
  show (if a.length + b.length ≤ LB then some (PyData.tuple (a ++ b)) else none) = _
  rw [if_pos h]
theorem x_unp2 {i j : Nat} {e : E} {env : List Slot} {a b : PyData} (h : evE ns C e env = M.ret (.tuple [a, b])) : exS ns C (.unp [i, j] e) env = M.ret (.nx (setS (setS env i a) j b)) := by
  simp only [exS, h, bd_ret, setAll]
theorem e_mulI {i n : Nat} {env : List Slot} (h : env[i]? = some (.sh (dN n))) (hn : n ≤ 1000) : evE ns C (.bin .mul (.tup (.cons false .non .nil)) (.var i)) env = M.ret (nD (idleO n)) := by
  refine e_bin2 (a := .tup (.cons false .non .nil)) (b := .var i) (x := .tuple [.none]) (y := .int n) rfl (by simp only [rd, evE, h]) ?_
  show (if 0 ≤ (n : Int) ∧ (n : Int) ≤ 1000 then some (PyData.tuple (List.replicate (n : Int).toNat .none)) else none) = _
  rw [if_pos (by omega)]
  have e : nL (idleO n) = List.replicate n PyData.none := List.map_replicate
  show some (PyData.tuple (List.replicate (n : Int).toNat .none)) = some (PyData.tuple (nL (idleO n)))
  rw [e, Int.toNat_natCast]
theorem e_lst1 {e : E} {env : List Slot} {d : PyData} (h : evE ns C e env = M.ret d) : evE ns C (.lst (.cons false e .nil)) env = M.ret (.list [d]) := by
  have l2 := l_one (r := .nil) (l := []) h rfl
  have e2 : evE ns C (.lst (.cons false e .nil)) env = M.bd (evL ns C (.cons false e .nil) env) fun l => if l.length ≤ LB then M.ret (.list l) else M.no := by simp only [evE]
  rw [e2, l2, bd_ret]; rfl
theorem ix_own {i k : Nat} {e : E} {env : List Slot} {l : List PyData} {d : PyData} (hi : env[i]? = some (.ow l)) (he : evE ns C e env = M.ret (dN k)) (h : l[k]? = some d) : evE ns C (.ix (.var i) e) env = M.ret d := by
  simp only [evE, rd, hi, bd_ret, he, elemsD]
  show M.of (ixD l (k : Int)) = _
  rw [ixD_nat h]; rfl
/-- an expression that is no name -/
def NoVar (env : List Slot) (a : E) : Prop := ∀ m : M PyData, rd env a m = m
theorem rd_no {a : E} {env : List Slot} {d : PyData} (n : NoVar env a) (h : evE ns C a env = M.ret d) : rd env a (evE ns C a env) = M.ret d := by rw [n, h]
theorem t_neT {a b : E} {env : List Slot} {l : List Nat} (na : NoVar env a) (nb : NoVar env b) (ha : evE ns C a env = M.ret (dT l)) (hb : evE ns C b env = M.ret (dT l)) : evT ns C (.cmp .ne a b) env = M.ret false := by
  have := t_cmp2 (o := .ne) (rd_no na ha) (rd_no nb hb) (ne_T ..)
  rwa [decide_eq_true rfl] at this
theorem t_neO {a b : E} {env : List Slot} {l : NmL} (na : NoVar env a) (nb : NoVar env b) (ha : evE ns C a env = M.ret (nD l)) (hb : evE ns C b env = M.ret (nD l)) : evT ns C (.cmp .ne a b) env = M.ret false := by
  have := t_cmp2 (o := .ne) (rd_no na ha) (rd_no nb hb) (ne_O ..)
  rwa [decide_eq_true rfl] at this
theorem e_eqT {a b : E} {env : List Slot} {l : List Nat} (na : NoVar env a) (nb : NoVar env b) (ha : evE ns C a env = M.ret (dT l)) (hb : evE ns C b env = M.ret (dT l)) : evE ns C (.cmp .eq a b) env = M.ret (.bool true) := by
  have := e_cmp2 (o := .eq) (rd_no na ha) (rd_no nb hb) (eq_T ..)
  rwa [decide_eq_true rfl] at this
theorem e_eqO {a b : E} {env : List Slot} {l : NmL} (na : NoVar env a) (nb : NoVar env b) (ha : evE ns C a env = M.ret (nD l)) (hb : evE ns C b env = M.ret (nD l)) : evE ns C (.cmp .eq a b) env = M.ret (.bool true) := by
  have := e_cmp2 (o := .eq) (rd_no na ha) (rd_no nb hb) (eq_O ..)
  rwa [decide_eq_true rfl] at this
end
end Cd
namespace Cd
open PySem
/-! Rows and their namings; still namings; rounds. -/
def nmR (n : Nat) (row : List (Nat × Nat)) : NmL := (namO 7 n (idleO n) row).getD []
section
variable {n : Nat}
theorem nmR_all (h1 : 1 ≤ n) (h6 : n ≤ 6) {row : List (Nat × Nat)} (hr : RowOk n row) : namO 7 n (idleO n) row = some (nmR n row) ∧ Nm (nmR n row) ∧ (nmR n row).length = n ∧ ∀ c, Good c → c.length = n → namedS (nmR n row) c = endS c row := by
  obtain ⟨w, a1, a2, a3, a4⟩ := row_nm h1 h6 row (idleO n) hr (idle_nm h1 h6) List.length_replicate
  have e : nmR n row = w := by unfold nmR; rw [a1]; rfl
  rw [e]
  exact ⟨a1, a2, a3, fun c g hc => by rw [a4 c g hc, named_idle g hc]⟩
theorem nam_app : ∀ (r s : List (Nat × Nat)) (v w : NmL), namO 7 n v r = some w → namO 7 n v (r ++ s) = namO 7 n w s
  | [], s, v, w, h => by cases h; rfl
  | x :: r, s, v, w, h => by
    unfold namO at h
    show (match afterO 7 v (stepO n x.1 x.2) with | none => none | some y => namO 7 n y (r ++ s)) = _
    cases e : afterO 7 v (stepO n x.1 x.2) with
    | none => rw [e] at h; cases h
    | some y =>
      rw [e] at h
      exact nam_app r s y w h
theorem nam_from (h1 : 1 ≤ n) (h6 : n ≤ 6) : ∀ (row : List (Nat × Nat)) (v : NmL), RowOk n row → Nm v → v.length = n → namO 7 n v row = some (afN v (nmR n row))
  | [], v, _, nv, hv => by
    have e : nmR n [] = idleO n := rfl
    rw [e, af_idleR nv hv]; rfl
  | s :: r, v, hr, nv, hv => by
    have hs := hr s List.mem_cons_self
    have hr2 : RowOk n r := fun t ht => hr t (List.mem_cons_of_mem _ ht)
    have ns := stepO_nm h1 h6 hs
    have ls := stepO_len n s.1 s.2
    have ni := idle_nm h1 h6
    have li := idle_len n
    obtain ⟨_, b2, b3, _⟩ := nmR_all h1 h6 hr2
    have step : ∀ x : NmL, Nm x → x.length = n → namO 7 n x (s :: r) = some (afN (afN x (stepO n s.1 s.2)) (nmR n r)) := fun x nx lx => by
      have nx2 := af_nm nx ns (by omega)
      have lx2 := af_len nx ns (by omega)
      unfold namO
      rw [af_eq nx ns (by omega)]
      exact nam_from h1 h6 r _ hr2 nx2 (by omega)
    have e2 : nmR n (s :: r) = afN (stepO n s.1 s.2) (nmR n r) := by
      unfold nmR
      rw [step (idleO n) ni li, af_idleL ns ls]; rfl
    rw [step v nv hv, e2, af_assoc nv ns b2 (by omega) (by omega)]
theorem nmR_app (h1 : 1 ≤ n) (h6 : n ≤ 6) {r s : List (Nat × Nat)} (hr : RowOk n r) (hs : RowOk n s) : nmR n (r ++ s) = afN (nmR n r) (nmR n s) := by
  obtain ⟨a1, a2, a3, _⟩ := nmR_all h1 h6 hr
  have e := nam_app r s (idleO n) _ a1
  rw [nam_from h1 h6 s _ hs a2 a3] at e
  unfold nmR at e ⊢
  rw [e]; rfl
theorem nmR_one (h1 : 1 ≤ n) (h6 : n ≤ 6) {s : Nat × Nat} (hs : StpN n s.1 s.2) : nmR n [s] = stepO n s.1 s.2 := by
  have ns := stepO_nm h1 h6 hs
  have ls := stepO_len n s.1 s.2
  have e : namO 7 n (idleO n) [s] = some (stepO n s.1 s.2) := by
    unfold namO
    rw [af_eq (idle_nm h1 h6) ns (by rw [ls, idle_len]), af_idleL ns ls]; rfl
  unfold nmR
  rw [e]; rfl
theorem step_at {p q k : Nat} (k1 : 1 ≤ k) (k2 : k ≤ n) : gO (stepO n p q) k = if k = p then some (q : Int) else none := by
  have e := gO_at (v := stepO n p q) k1 (by rw [stepO_len]; exact k2)
  rw [stepO_at k1 k2] at e
  exact (Option.some.inj e).symm
theorem step_mv {p q : Nat} (s : StpN n p q) (k : Nat) : k ∈ moversS (stepO n p q) ↔ k = p := by
  rw [mem_movers, stepO_len]
  constructor
  · rintro ⟨⟨a, b⟩, h⟩
    rw [step_at a b] at h
    by_cases z : k = p
    · exact z
    · rw [if_neg z] at h; exact absurd rfl h
  · rintro rfl
    refine ⟨⟨s.p1, s.pn⟩, ?_⟩
    rw [step_at s.p1 s.pn, if_pos rfl]
    exact nofun
theorem step_still (h1 : 1 ≤ n) (h6 : n ≤ 6) {p q : Nat} (s : StpN n p q) : afN (stepO n p q) (stepO n p q) = stepO n p q := by
  have ns := stepO_nm h1 h6 s
  have ls := stepO_len n p q
  have la := af_len ns ns rfl
  refine gO_ext la fun k k1 k2 => ?_
  have k3 : k ≤ n := by omega
  have e := step_at (p := p) (q := q) k1 k3
  by_cases z : k = p
  · rw [if_pos z] at e
    rw [a3 ns ns rfl k1 (by omega) e (by omega), e]
  · rw [if_neg z] at e
    rw [a1 ns ns rfl k1 (by omega) e e, e]
theorem nmR_mv (h1 : 1 ≤ n) (h6 : n ≤ 6) (k : Nat) : ∀ row : List (Nat × Nat), RowOk n row → (k ∈ moversS (nmR n row) ↔ k ∈ row.map (·.1))
  | [], _ => by
    have e : nmR n [] = idleO n := rfl
    rw [e, mem_movers, idle_at]
    simp
  | s :: r, hr => by
    have hs := hr s List.mem_cons_self
    have hr2 : RowOk n r := fun t ht => hr t (List.mem_cons_of_mem _ ht)
    have hs1 : RowOk n [s] := fun t ht => by rw [List.mem_singleton.mp ht]; exact hs
    obtain ⟨_, b2, b3, _⟩ := nmR_all h1 h6 hr2
    have ns := stepO_nm h1 h6 hs
    have ls := stepO_len n s.1 s.2
    have e := nmR_app h1 h6 hs1 hr2
    rw [nmR_one h1 h6 hs] at e
    have e2 : [s] ++ r = s :: r := rfl
    rw [← e2, e, movers_af ns b2 (by omega), List.mem_append, step_mv hs, nmR_mv h1 h6 k r hr2]
    simp
end
/-! ### rounds -/
section
variable {v : NmL}
theorem rest_per (nv : Nm v) {m i : Nat} (r : RestIs v m i) : ∀ a, i ≤ a → powO v (a + (m - i)) = powO v a := fun a ha => by
  have lt := r.lt
  have e1 : a + (m - i) = m + (a - i) := by omega
  have e2 : a = i + (a - i) := by omega
  rw [e1, pow_add nv m, r.eq, ← pow_add nv i, ← e2]
theorem rest_mul (nv : Nm v) {m i : Nat} (r : RestIs v m i) (a : Nat) (ha : i ≤ a) : ∀ t, powO v (a + t * (m - i)) = powO v a
  | 0 => by rw [Nat.zero_mul, Nat.add_zero]
  | t + 1 => by
    rw [Nat.succ_mul, ← Nat.add_assoc, rest_per nv r _ (by omega), rest_mul nv r a ha t]
theorem pow_sq (nv : Nm v) : ∀ k, powO (afN v v) k = powO v (2 * k)
  | 0 => by show idleO (afN v v).length = idleO v.length; rw [af_len nv nv rfl]
  | k + 1 => by
    have h := pow_nm nv (2 * k)
    show afN (powO (afN v v) k) (afN v v) = afN (afN (powO v (2 * k)) v) v
    rw [pow_sq nv k, af_assoc h.1 nv nv h.2.symm h.2.symm]
/-- a round of the naming done twice is no longer -/
theorem rest_sq (nv : Nm v) {m i m2 i2 : Nat} (r : RestIs v m i) (r2 : RestIs (afN v v) m2 i2) : m2 - i2 ≤ m - i := by
  refine Classical.byContradiction fun h => ?_
  have n2 := af_nm nv nv rfl
  have lt := r.lt
  have lt2 := r2.lt
  have p1 : 1 ≤ m2 - i2 := by omega
  have big : i ≤ i * (m2 - i2) := Nat.le_mul_of_pos_right i p1
  have a1 := rest_mul n2 r2 i2 (Nat.le_refl _) i
  have a2 := rest_mul n2 r2 (i2 + (m - i)) (by omega) i
  have e : powO (afN v v) (i2 + (m - i) + i * (m2 - i2)) = powO (afN v v) (i2 + i * (m2 - i2)) := by
    rw [pow_sq nv, pow_sq nv]
    have e1 : 2 * (i2 + (m - i) + i * (m2 - i2)) = 2 * (i2 + i * (m2 - i2)) + (m - i) + (m - i) := by omega
    rw [e1, rest_per nv r _ (by omega), rest_per nv r _ (by omega)]
  rw [a1, a2] at e
  exact r2.ne i2 (i2 + (m - i)) (by omega) (by omega) e
theorem rest_still (nv : Nm v) {m i : Nat} (r : RestIs v m i) (h : afN v v = v) : m - i = 1 ∧ m ≤ 2 := by
  have lt := r.lt
  have e : powO v 2 = powO v 1 := by
    show afN (powO v 1) v = powO v 1
    rw [pow_one nv, h]
  have m2 : m ≤ 2 := Classical.byContradiction fun z => r.ne 1 2 (by omega) (by omega) e
  refine ⟨?_, m2⟩
  by_cases z : m = 2
  · by_cases zi : i = 0
    · have e2 := r.eq
      rw [z, zi, e] at e2
      exact absurd e2 (r.ne 0 1 (by omega) (by omega))
    · omega
  · omega
theorem rest_zero (nv : Nm v) {m i : Nat} (r : RestIs v m i) : i = 0 ↔ m = 1 ∧ ∀ p, 1 ≤ p → p ≤ v.length → gO v p = none := by
  have lt := r.lt
  constructor
  · intro hi
    have all : ∀ p, 1 ≤ p → p ≤ v.length → gO v p = none := fun p p1 p2 => by
      obtain ⟨k, hk⟩ : ∃ k, m = k + 1 := ⟨m - 1, by omega⟩
      have e := r.eq
      rw [hi, hk] at e
      refine (pow_mv nv p1 p2 k).mp ?_
      rw [e]
      exact idle_at
    refine ⟨?_, all⟩
    have e1 : powO v 1 = powO v 0 := by
      rw [pow_one nv]
      exact gO_ext (idle_len _).symm fun p p1 p2 => by rw [all p p1 p2]; exact idle_at.symm
    exact Classical.byContradiction fun z => r.ne 0 1 (by omega) (by omega) e1
  · rintro ⟨h, _⟩
    omega
end
section
variable {ns : List Int} {C : CT}
theorem lcRow {own : List (Str × Nat)} {a b : Nat} {it : It} {e : E} {env : List Slot} {row : List (Nat × Nat)} (h : Nat × Nat → PyData) (hi : evI ns C it env = M.ret (row.map sD)) (hl : row.length ≤ LB)
    (he : ∀ s, evE ns C e (setS (setS (wipeE env (own.map (·.2))) a (dN s.1)) b (dN s.2)) = M.ret (h s)) : evE ns C (.lc own (.tp [a, b]) it (.bl true) e) env = M.ret (.list (row.map h)) := by
  have key : ∀ r : List (Nat × Nat), mapL (fun x => match bindT (wipeE env (own.map (·.2))) (.tp [a, b]) x with
    | some env' => M.bd (evT ns C (.bl true) env') fun k => if k then M.bd (evE ns C e env') fun y => M.ret (some y) else M.ret none
    | none => M.no) (r.map sD) = M.ret (r.map h) := by
    intro r
    induction r with
    | nil => rfl
    | cons s r ih =>
      have e1 : (match bindT (wipeE env (own.map (·.2))) (.tp [a, b]) (sD s) with
        | some env' => M.bd (evT ns C (.bl true) env') fun k => if k then M.bd (evE ns C e env') fun y => M.ret (some y) else M.ret none
        | none => M.no) = M.ret (some (h s)) := by
        show M.bd (evT ns C (.bl true) (setS (setS (wipeE env (own.map (·.2))) a (dN s.1)) b (dN s.2))) _ = _
        have et : evT ns C (.bl true) (setS (setS (wipeE env (own.map (·.2))) a (dN s.1)) b (dN s.2)) = M.ret true := by simp only [evT]
        rw [et, bd_ret, if_pos rfl, he s, bd_ret]
      rw [List.map_cons]
      unfold mapL
      rw [e1, bd_ret, ih, bd_ret]; rfl
  have e2 : evE ns C (.lc own (.tp [a, b]) it (.bl true) e) env = M.bd (evI ns C it env) fun l => M.bd (mapL (fun x => match bindT (wipeE env (own.map (·.2))) (.tp [a, b]) x with
    | some env' => M.bd (evT ns C (.bl true) env') fun k => if k then M.bd (evE ns C e env') fun y => M.ret (some y) else M.ret none
    | none => M.no) l) fun r => if r.length ≤ LB then M.ret (.list r) else M.no := by simp only [evE] <;> rfl
  rw [e2, hi, bd_ret, key row, bd_ret, if_pos (by rw [List.length_map]; exact hl)]
theorem v_ite {c a b : E} {env : List Slot} {t : Bool} {P : PyData → Prop} (hc : evT ns C c env = M.ret t) (h1 : t = true → Ev (evE ns C a env) P) (h2 : t = false → Ev (evE ns C b env) P) : Ev (evE ns C (.ite c a b) env) P := by
  have e : evE ns C (.ite c a b) env = M.bd (evT ns C c env) fun t => if t then evE ns C a env else evE ns C b env := by simp only [evE]
  rw [e, hc, bd_ret]
  cases t with
  | true => exact h1 rfl
  | false => exact h2 rfl
theorem canLayR : ∀ row : List (Nat × Nat), PyData.canLayAll0 (row.map sD) = true ∧ PyData.depthAll (row.map sD) ≤ 1
  | [] => ⟨by simp [PyData.canLayAll0], by simp [PyData.depthAll]⟩
  | s :: r => by
    obtain ⟨h1, h2⟩ := canLayR r
    obtain ⟨h3, h4⟩ := canLayN [s.1, s.2]
    constructor
    · show PyData.canLayAll0 (dT [s.1, s.2] :: r.map sD) = true
      simp only [PyData.canLayAll0, PyData.canLay0, h1, h3, Bool.and_self]
    · show PyData.depthAll (dT [s.1, s.2] :: r.map sD) ≤ 1
      simp only [PyData.depthAll, PyData.depth, h4]
      omega
theorem okD_R (row : List (Nat × Nat)) : okD (rowD row) = true := by
  obtain ⟨h1, h2⟩ := canLayR row
  unfold okD SeqAt.shaped rowD
  rw [Bool.and_eq_true]
  constructor
  · simp only [PyData.canLay0, h1]
  · simp only [PyData.depth]
    exact decide_eq_true (by omega)
theorem eq_row0 (row : List (Nat × Nat)) : cmpD .eq (rowD row) (.tuple []) = some (decide (row = [])) := by
  show (if okD (rowD row) && okD (.tuple []) then some (PyData.eqv (rowD row) (.tuple [])) else none) = _
  have e : okD (.tuple []) = true := okD_R []
  rw [okD_R, e]
  cases row with
  | nil => simp [rowD, PyData.eqv, PyData.eqvAll]
  | cons s r => simp [rowD, PyData.eqv, PyData.eqvAll]
theorem noL_O : ∀ l : NmL, noLs (nL l) = true
  | [] => by simp [noLs]
  | o :: r => by
    show noLs (oD o :: nL r) = true
    cases o <;> simp [noLs, noL, oD, noL_O r]
theorem noL_nD (v : NmL) : noL (nD v) = true := by
  show noL (.tuple (nL v)) = true
  simp [noL, noL_O v]
theorem noL_N : ∀ l : List Nat, noLs (mN l) = true
  | [] => by simp [noLs]
  | x :: r => by
    show noLs (.int _ :: mN r) = true
    simp [noLs, noL, noL_N r]
theorem noL_dT (l : List Nat) : noL (dT l) = true := by
  show noL (.tuple (mN l)) = true
  simp [noL, noL_N l]
theorem e_call2H {f : Nat} {X Y : E} {env : List Slot} {x y d : PyData} (nX : Hand env X) (nY : Hand env Y) (hX : evE ns C X env = M.ret x) (hY : evE ns C Y env = M.ret y) (hc : C f [.sh x, .sh y] = M.ret d) (hn : noL d = true) : evE ns C (.call f (.cons false X (.cons false Y .nil))) env = M.ret d :=
  e_call2 (l := [.sh x, .sh y]) (aa2 (a_hand nX hX) (a_hand nY hY)) hc (by rw [hn]; simp)
theorem e_call1H {f : Nat} {X : E} {env : List Slot} {x d : PyData} (nX : Hand env X) (hX : evE ns C X env = M.ret x) (hc : C f [.sh x] = M.ret d) (hn : noL d = true) : evE ns C (.call f (.cons false X .nil)) env = M.ret d :=
  e_call2 (l := [.sh x]) (aa1 (a_hand nX hX)) hc (by rw [hn]; simp)
/-- values, one for each number -/
def fL (f : Nat → PyData) (k : Nat) : List PyData := (List.range k).map f
theorem fL_len (f : Nat → PyData) (k : Nat) : (fL f k).length = k := by unfold fL; rw [List.length_map, List.length_range]
theorem fL_succ (f : Nat → PyData) (k : Nat) : fL f (k + 1) = fL f k ++ [f k] := by unfold fL; rw [List.range_succ, List.map_append]; rfl
theorem fL_at {f : Nat → PyData} {k j : Nat} (h : j < k) : (fL f k)[j]? = some (f j) := by
  unfold fL
  rw [List.getElem?_map, List.getElem?_range h]; rfl
theorem e_tup1 {e : E} {env : List Slot} {d : PyData} (h : evE ns C e env = M.ret d) : evE ns C (.tup (.cons false e .nil)) env = M.ret (.tuple [d]) := by
  have l2 := l_one (r := .nil) (l := []) h rfl
  have e2 : evE ns C (.tup (.cons false e .nil)) env = M.bd (evL ns C (.cons false e .nil) env) fun l => if l.length ≤ LB then M.ret (.tuple l) else M.no := by simp only [evE]
  rw [e2, l2, bd_ret]; rfl
theorem e_tup2 {e g : E} {env : List Slot} {a b : PyData} (h : evE ns C e env = M.ret a) (k : evE ns C g env = M.ret b) : evE ns C (.tup (.cons false e (.cons false g .nil))) env = M.ret (.tuple [a, b]) := by
  have l2 := l_one (r := .cons false g .nil) (l := [b]) h (l_one k rfl)
  have e2 : evE ns C (.tup (.cons false e (.cons false g .nil))) env = M.bd (evL ns C (.cons false e (.cons false g .nil)) env) fun l => if l.length ≤ LB then M.ret (.tuple l) else M.no := by simp only [evE]
  rw [e2, l2, bd_ret]; rfl
end
end Cd
namespace Cd
open PySem
/-! Which namings do the same. -/
def oldB : Option Int → Bool
  | some x => decide (x < 0)
  | none => false
def zr : Option Int → Option Int
  | none => some 0
  | some x => if x < 0 then some 0 else some x
def stayN (v : NmL) : Nat := v.length - (moversS v).length
def kpB (v : NmL) : Bool := decide (1 < stayN v) || (decide (stayN v = 1) && !(v.filter oldB).isEmpty)
def plainS (v : NmL) : NmL := if kpB v then v else v.map zr
theorem stays_mem {v : NmL} {k : Nat} : k ∈ staysS v ↔ (1 ≤ k ∧ k ≤ v.length) ∧ gO v k = none := by
  rw [mem_stays]
  constructor
  · rintro ⟨⟨a, b⟩, h⟩
    rw [gO_at a b] at h
    exact ⟨⟨a, b⟩, Option.some.inj h⟩
  · rintro ⟨⟨a, b⟩, h⟩
    exact ⟨⟨a, b⟩, by rw [gO_at a b, h]⟩
theorem two_parts (p : Nat → Bool) : ∀ l : List Nat, (l.filter p).length + (l.filter fun i => !p i).length = l.length
  | [] => rfl
  | x :: r => by
    have ih := two_parts p r
    cases h : p x with
    | true =>
      rw [List.filter_cons_of_pos h, List.filter_cons_of_neg (by simp [h]), List.length_cons, List.length_cons]
      omega
    | false =>
      rw [List.filter_cons_of_neg (by simp [h]), List.filter_cons_of_pos (by simp [h]), List.length_cons, List.length_cons]
      omega
theorem stayN_eq (v : NmL) : stayN v = (staysS v).length := by
  have h := two_parts (fun i => decide (v[i]? = some none)) (List.range' 0 v.length)
  unfold stayN moversS
  rw [← stays_up v, List.length_map, List.length_map]
  rw [List.length_range'] at h
  omega
theorem stays_nodup (v : NmL) : (staysS v).Nodup := (ones_nodup v.length).filter _
theorem two_of {l : List Nat} {a b : Nat} (h : a ∈ l) (k : b ∈ l) (ne : a ≠ b) : 1 < l.length := by
  match l, h, k with
  | [x], h, k =>
    rw [List.mem_singleton] at h k
    exact absurd (h.trans k.symm) ne
  | x :: y :: r, _, _ => simp
theorem other_of {l : List Nat} (nd : l.Nodup) (h : 1 < l.length) (b : Nat) : ∃ a ∈ l, a ≠ b := by
  match l, nd, h with
  | x :: y :: r, nd, _ =>
    have ne : x ≠ y := fun e => (List.nodup_cons.mp nd).1 (by rw [e]; exact List.mem_cons_self)
    by_cases z : x = b
    · exact ⟨y, by simp, fun e => ne (z.trans e.symm)⟩
    · exact ⟨x, by simp, z⟩
/-- plain ones -/
def Plain (v : NmL) : Prop := 1 < (staysS v).length ∨ ((staysS v).length = 1 ∧ ∃ p x, 1 ≤ p ∧ p ≤ v.length ∧ gO v p = some x ∧ x < 0) ∨ ∀ p, 1 ≤ p → p ≤ v.length → ∃ x, gO v p = some x ∧ 0 ≤ x
theorem old_iff {v : NmL} : (v.filter oldB).isEmpty = false ↔ ∃ p x, 1 ≤ p ∧ p ≤ v.length ∧ gO v p = some x ∧ x < 0 := by
  constructor
  · intro h
    cases e : v.filter oldB with
    | nil => rw [e] at h; cases h
    | cons o r =>
      have mem : o ∈ v.filter oldB := by rw [e]; exact List.mem_cons_self
      obtain ⟨m1, m2⟩ := List.mem_filter.mp mem
      obtain ⟨i, hi⟩ := List.mem_iff_getElem?.mp m1
      have il := (List.getElem?_eq_some_iff.mp hi).1
      have g := gO_at (v := v) (p := i + 1) (by omega) (by omega)
      rw [Nat.add_sub_cancel, hi] at g
      cases o with
      | none => cases m2
      | some x => exact ⟨i + 1, x, by omega, by omega, (Option.some.inj g).symm, by simpa [oldB] using m2⟩
  · rintro ⟨p, x, h1, h2, h3, h4⟩
    have g := gO_at h1 h2
    rw [h3] at g
    have mem : some x ∈ v.filter oldB := List.mem_filter.mpr ⟨List.mem_of_getElem? g, by simpa [oldB] using h4⟩
    cases e : v.filter oldB with
    | nil => rw [e] at mem; simp at mem
    | cons => rfl
theorem kp_iff {v : NmL} : kpB v = true ↔ 1 < (staysS v).length ∨ ((staysS v).length = 1 ∧ ∃ p x, 1 ≤ p ∧ p ≤ v.length ∧ gO v p = some x ∧ x < 0) := by
  unfold kpB
  rw [stayN_eq, Bool.or_eq_true, Bool.and_eq_true, decide_eq_true_iff, decide_eq_true_iff, ← old_iff]
  simp
theorem zr_len (v : NmL) : (v.map zr).length = v.length := List.length_map ..
theorem zr_at {v : NmL} {p : Nat} (h1 : 1 ≤ p) (h2 : p ≤ v.length) : gO (v.map zr) p = zr (gO v p) := by
  have g := gO_at (v := v.map zr) h1 (by rw [zr_len]; exact h2)
  rw [List.getElem?_map, gO_at h1 h2] at g
  exact (Option.some.inj g).symm
theorem zr_pos (o : Option Int) : ∃ x, zr o = some x ∧ 0 ≤ x := by
  cases o with
  | none => exact ⟨0, rfl, by omega⟩
  | some x =>
    by_cases z : x < 0
    · exact ⟨0, if_pos z, by omega⟩
    · exact ⟨x, if_neg z, by omega⟩
theorem plain_len (v : NmL) : (plainS v).length = v.length := by
  unfold plainS
  cases kpB v with
  | true => rfl
  | false => exact zr_len v
theorem allpos_nm {v : NmL} (h1 : 1 ≤ v.length) (h6 : v.length ≤ 6) {c : List Nat} (g : Good c) (hc : c.length = v.length) (h : ∀ p, 1 ≤ p → p ≤ v.length → ∃ x : Int, gO v p = some x ∧ 0 ≤ x ∧ (0 < x → (up c p : Int) = x)) : Nm v := by
  obtain ⟨r, hr⟩ := g.rk
  let c2 : List Nat := (ones v.length).map fun p => ((gO v p).getD 0).toNat
  have l2 : c2.length = v.length := by show ((ones v.length).map _).length = _; rw [List.length_map, ones_len]
  have u2 : ∀ p, 1 ≤ p → p ≤ v.length → (up c2 p : Int) = (gO v p).getD 0 := fun p p1 p2 => by
    obtain ⟨x, hx, z, _⟩ := h p p1 p2
    have e := up_get (c := c2) p1 (by omega)
    have e2 : c2[p - 1]? = some ((gO v p).getD 0).toNat := by
      show ((ones v.length).map _)[p - 1]? = _
      rw [List.getElem?_map, ones_get p1 p2]; rfl
    rw [e2] at e
    rw [← Option.some.inj e, hx]
    show ((x.toNat : Nat) : Int) = x
    omega
  have g2 : Good c2 := good_of (by omega) (by omega) r fun k k1 k2 => by
    obtain ⟨x, hx, z, hu⟩ := h k k1 (by omega)
    have e := u2 k k1 (by omega)
    rw [hx] at e
    have e3 : (up c2 k : Int) = x := e
    by_cases zx : 0 < x
    · have e4 := hu zx
      have e5 : up c2 k = up c k := by omega
      rw [e5]
      have := hr k k1 (by omega)
      exact ⟨by omega, this.2.1⟩
    · exact ⟨by omega, fun y => by omega⟩
  refine ⟨h1, h6, fun k x hk => ?_, fun k x hk z => ?_, c2, g2, l2, fun k x hk z => ?_⟩
  · have kl := (List.getElem?_eq_some_iff.mp hk).1
    obtain ⟨y, hy, zy, hu⟩ := h (k + 1) (by omega) (by omega)
    have e := gO_at (v := v) (p := k + 1) (by omega) (by omega)
    rw [Nat.add_sub_cancel, hk, hy] at e
    have exy : x = y := by simpa using e
    subst exy
    have := hr (k + 1) (by omega) (by omega)
    refine ⟨by omega, ?_, fun e9 => ?_⟩
    · by_cases zx : 0 < x
      · have := hu zx; omega
      · omega
    · have zx : 0 < x := by omega
      have e4 := hu zx
      have e5 : up c (k + 1) = k + 1 := by omega
      have := this.2.1 (by omega)
      rw [e5] at this
      omega
  · have kl := (List.getElem?_eq_some_iff.mp hk).1
    obtain ⟨y, hy, zy, _⟩ := h (k + 1) (by omega) (by omega)
    have e := gO_at (v := v) (p := k + 1) (by omega) (by omega)
    rw [Nat.add_sub_cancel, hk, hy] at e
    have exy : x = y := by simpa using e
    omega
  · have kl := (List.getElem?_eq_some_iff.mp hk).1
    have e := gO_at (v := v) (p := k + 1) (by omega) (by omega)
    rw [Nat.add_sub_cancel, hk] at e
    rw [u2 (k + 1) (by omega) (by omega), ← Option.some.inj e]
    rfl
section
variable {v : NmL}
theorem plain_nm (nv : Nm v) : Nm (plainS v) := by
  unfold plainS
  cases kpB v with
  | true => exact nv
  | false =>
    obtain ⟨c, g, hc, hu⟩ := nv.ch
    refine allpos_nm (by rw [if_neg nofun, zr_len]; exact nv.one) (by rw [if_neg nofun, zr_len]; exact nv.six) g (by rw [if_neg nofun, zr_len]; exact hc) fun p p1 p2 => ?_
    rw [if_neg nofun] at p2 ⊢
    rw [zr_len] at p2
    obtain ⟨x, hx, zx⟩ := zr_pos (gO v p)
    refine ⟨x, by rw [zr_at p1 p2]; exact hx, zx, fun z => ?_⟩
    have hv : gO v p = some x := by
      cases e : gO v p with
      | none => rw [e] at hx; cases hx; omega
      | some y =>
        rw [e] at hx
        by_cases zy : y < 0
        · have : some (0 : Int) = some x := by rw [← hx]; exact (if_pos zy).symm
          have := Option.some.inj this
          omega
        · have : some y = some x := by rw [← hx]; exact (if_neg zy).symm
          exact this
    have e := hu (p - 1) x (by rw [gO_at p1 p2, hv]) zx
    rwa [show p - 1 + 1 = p by omega] at e
theorem plain_plain : Plain (plainS v) := by
  unfold plainS
  by_cases h : kpB v = true
  · rw [if_pos h]
    rcases kp_iff.mp h with h | h
    · exact .inl h
    · exact .inr (.inl h)
  · rw [if_neg h]
    refine .inr (.inr fun p p1 p2 => ?_)
    rw [zr_len] at p2
    rw [zr_at p1 p2]
    exact zr_pos _
theorem plain_id (h : Plain v) : plainS v = v := by
  unfold plainS
  rcases h with h | h | h
  · rw [if_pos (kp_iff.mpr (.inl h))]
  · rw [if_pos (kp_iff.mpr (.inr h))]
  · by_cases k : kpB v = true
    · rw [if_pos k]
    · rw [if_neg k]
      refine gO_ext (zr_len v) fun p p1 p2 => ?_
      rw [zr_len] at p2
      obtain ⟨x, hx, zx⟩ := h p p1 p2
      rw [zr_at p1 p2, hx]
      exact if_neg (by omega)
theorem act_none {c : List Nat} {k : Nat} (k1 : 1 ≤ k) (k2 : k ≤ v.length) (h : gO v k = none) : actN v c k = nearS c (staysS v) k := by
  unfold actN
  rw [gO_at k1 k2, h]
theorem act_pos {c : List Nat} {k : Nat} {x : Int} (k1 : 1 ≤ k) (k2 : k ≤ v.length) (h : gO v k = some x) (z : 0 ≤ x) : actN v c k = x.toNat := by
  unfold actN
  rw [gO_at k1 k2, h]
  exact if_pos z
theorem act_old {c : List Nat} {k : Nat} {x : Int} (k1 : 1 ≤ k) (k2 : k ≤ v.length) (h : gO v k = some x) (z : x < 0) : actN v c k = nearS c (staysS v) (-x).toNat := by
  unfold actN
  rw [gO_at k1 k2, h]
  exact if_neg (by omega)
theorem near_nil (c : List Nat) (k : Nat) : nearS c [] k = 0 := by
  unfold nearS
  rw [List.filter_eq_nil_iff.mpr fun x _ => by simp]; rfl
/-- the plain one does the same -/
theorem plain_act (nv : Nm v) {c : List Nat} (g : Good c) (hc : c.length = v.length) : namedS (plainS v) c = namedS v c := by
  unfold plainS
  by_cases h : kpB v = true
  · rw [if_pos h]
  · rw [if_neg h]
    refine ext_up (by rw [namedS_len, namedS_len, zr_len]) fun k k1 k2 => ?_
    rw [namedS_len, zr_len] at k2
    rw [namedS_up k1 (by rw [zr_len]; exact k2), namedS_up k1 k2]
    obtain ⟨x, hx, zx⟩ := zr_pos (gO v k)
    rw [act_pos k1 (by rw [zr_len]; exact k2) (by rw [zr_at k1 k2]; exact hx) zx]
    cases e : gO v k with
    | none =>
      rw [e] at hx
      cases hx
      rw [act_none k1 k2 e]
      have ks : k ∈ staysS v := stays_mem.mpr ⟨⟨k1, k2⟩, e⟩
      have one : (staysS v).length = 1 := by
        have : 0 < (staysS v).length := List.length_pos_of_mem ks
        have : ¬ 1 < (staysS v).length := fun z => h (kp_iff.mpr (.inl z))
        omega
      refine Eq.symm (Classical.byContradiction fun z => ?_)
      obtain ⟨m1, m2⟩ := near_mem z
      have ne : nearS c (staysS v) k ≠ k := fun e2 => by
        rw [e2] at m1
        obtain ⟨r, hr⟩ := g.rk
        have := (chain_rank g hr k k1 (by omega)).1 k m1
        omega
      have := two_of m2 ks ne
      omega
    | some y =>
      rw [e] at hx
      by_cases zy : y < 0
      · have e0 : some (0 : Int) = some x := by rw [← hx]; exact (if_pos zy).symm
        have e1 := Option.some.inj e0
        rw [act_old k1 k2 e zy, ← e1]
        have nil : staysS v = [] := by
          cases es : staysS v with
          | nil => rfl
          | cons a t =>
            exfalso
            have l : 1 ≤ (staysS v).length := by rw [es]; simp
            by_cases z1 : (staysS v).length = 1
            · exact h (kp_iff.mpr (.inr ⟨z1, k, y, k1, k2, e, zy⟩))
            · exact h (kp_iff.mpr (.inl (by omega)))
        rw [nil, near_nil]; rfl
      · have e0 : some y = some x := by rw [← hx]; exact (if_neg zy).symm
        have e1 := Option.some.inj e0
        rw [act_pos k1 k2 e (by omega), e1]
end
/-! ### charts that tell -/
def refO (v : NmL) (p : Nat) : Option Nat := match gO v p with
  | none => some p
  | some x => if x < 0 then some (-x).toNat else none
def duo (n a b : Nat) : List Nat := stepS (List.replicate n 0) b a
section
variable {n a b : Nat}
theorem flat_up {k : Nat} : up (List.replicate n 0) k = 0 := by
  unfold up
  rw [List.getD_eq_getElem?_getD, List.getElem?_replicate]
  split <;> rfl
theorem duo_good (h1 : 1 ≤ n) (h6 : n ≤ 6) (s : StpN n b a) : Good (duo n a b) ∧ (duo n a b).length = n := by
  have l : (List.replicate n 0).length = n := List.length_replicate
  exact ⟨(flat_good h1 h6).stepS (by rw [l]; exact s), by unfold duo; rw [stepS_len, l]⟩
theorem duo_up (s : StpN n b a) {k : Nat} (k1 : 1 ≤ k) (k2 : k ≤ n) : up (duo n a b) k = if k = b then a else 0 := by
  have l : (List.replicate n 0).length = n := List.length_replicate
  have p1 := s.p1
  unfold duo
  rw [stepS_up k1 (by rw [l]; exact k2) p1, flat_up, flat_up]
  by_cases z : k = b
  · rw [if_pos z, if_pos z]
  · rw [if_neg z, if_neg z, if_neg (by omega)]
theorem duo_near (h1 : 1 ≤ n) (h6 : n ≤ 6) (s : StpN n b a) (a1 : 1 ≤ a) {lot : List Nat} {q : Nat} (q1 : 1 ≤ q) (q2 : q ≤ n) : nearS (duo n a b) lot q = if q = b ∧ a ∈ lot then a else 0 := by
  obtain ⟨g, l⟩ := duo_good h1 h6 s
  have an := s.qn
  have ne := s.ne
  rw [near_step g lot q1 (by omega), duo_up s q1 q2]
  by_cases z : q = b
  · rw [if_pos z, if_neg (by omega)]
    by_cases m : a ∈ lot
    · rw [if_pos m, if_pos ⟨z, m⟩]
    · rw [if_neg m, if_neg fun h => m h.2, near_step g lot a1 (by omega), duo_up s a1 an, if_neg (Ne.symm ne), if_pos rfl]
  · rw [if_neg z, if_pos rfl, if_neg fun h => z h.1]
theorem flat_near (h1 : 1 ≤ n) (h6 : n ≤ 6) {lot : List Nat} {q : Nat} (q1 : 1 ≤ q) (q2 : q ≤ n) : nearS (List.replicate n 0) lot q = 0 := by
  have l : (List.replicate n 0).length = n := List.length_replicate
  rw [near_step (flat_good h1 h6) lot q1 (by omega), flat_up, if_pos rfl]
end
section
variable {n : Nat} {v w : NmL}
theorem ref_in (nv : Nm v) (vl : v.length = n) {p q : Nat} (p1 : 1 ≤ p) (p2 : p ≤ n) (h : refO v p = some q) : 1 ≤ q ∧ q ≤ n := by
  unfold refO at h
  cases e : gO v p with
  | none => rw [e] at h; cases h; exact ⟨p1, p2⟩
  | some x =>
    rw [e] at h
    have r := nm_rng nv p1 (by omega) e
    by_cases z : x < 0
    · have : some (-x).toNat = some q := by rw [← h]; exact (if_pos z).symm
      have := Option.some.inj this
      omega
    · have : (none : Option Nat) = some q := by rw [← h]; exact (if_neg z).symm
      cases this
/-- what a naming makes of a place by what it names -/
theorem act_ref (nv : Nm v) (vl : v.length = n) {c : List Nat} {p : Nat} (p1 : 1 ≤ p) (p2 : p ≤ n) : (∀ q, refO v p = some q → actN v c p = nearS c (staysS v) q) ∧ (refO v p = none → ∃ x, gO v p = some x ∧ 0 ≤ x ∧ actN v c p = x.toNat) := by
  unfold refO
  cases e : gO v p with
  | none => exact ⟨fun q h => by cases h; exact act_none p1 (by omega) e, fun h => by cases h⟩
  | some x =>
    by_cases z : x < 0
    · refine ⟨fun q h => ?_, fun h => ?_⟩
      · have e1 : some (-x).toNat = some q := by rw [← h]; exact (if_pos z).symm
        rw [← Option.some.inj e1]
        exact act_old p1 (by omega) e z
      · have e1 : some (-x).toNat = none := by rw [← h]; exact (if_pos z).symm
        cases e1
    · refine ⟨fun q h => ?_, fun _ => ⟨x, rfl, by omega, act_pos p1 (by omega) e (by omega)⟩⟩
      have e1 : (none : Option Nat) = some q := by rw [← h]; exact (if_neg z).symm
      cases e1
def SameAct (n : Nat) (v w : NmL) : Prop := ∀ c, Good c → c.length = n → namedS v c = namedS w c
theorem SameAct.at (h : SameAct n v w) (vl : v.length = n) (wl : w.length = n) {c : List Nat} (g : Good c) (hc : c.length = n) {p : Nat} (p1 : 1 ≤ p) (p2 : p ≤ n) : actN v c p = actN w c p := by
  have e := h c g hc
  rw [← namedS_up p1 (by omega), ← namedS_up p1 (by omega), e]
theorem key1 (nv : Nm v) (nw : Nm w) (vl : v.length = n) (wl : w.length = n) (h : SameAct n v w) {a b p : Nat} (ha : a ∈ staysS v) (ne : a ≠ b) (p1 : 1 ≤ p) (p2 : p ≤ n) (hr : refO v p = some b) : a ∈ staysS w ∧ refO w p = some b := by
  have h1 := nv.one
  have h6 := nv.six
  obtain ⟨⟨a1, a2⟩, _⟩ := stays_mem.mp ha
  obtain ⟨b1, b2⟩ := ref_in nv vl p1 p2 hr
  have s : StpN n b a := ⟨b1, b2, by omega, Ne.symm ne⟩
  have lf : (List.replicate n 0).length = n := List.length_replicate
  have gf := flat_good (n := n) (by omega) (by omega)
  obtain ⟨gd, ld⟩ := duo_good (n := n) (by omega) (by omega) s
  have e1 := (act_ref nv vl (c := duo n a b) p1 p2).1 b hr
  rw [duo_near (by omega) (by omega) s a1 b1 b2, if_pos ⟨rfl, ha⟩] at e1
  have e0 := (act_ref nv vl (c := List.replicate n 0) p1 p2).1 b hr
  rw [flat_near (by omega) (by omega) b1 b2] at e0
  rw [h.at vl wl gd ld p1 p2] at e1
  rw [h.at vl wl gf lf p1 p2] at e0
  cases hw : refO w p with
  | none =>
    obtain ⟨x, _, _, f1⟩ := (act_ref nw wl (c := duo n a b) p1 p2).2 hw
    obtain ⟨y, y1, _, f2⟩ := (act_ref nw wl (c := List.replicate n 0) p1 p2).2 hw
    obtain ⟨x, x1, _, f1⟩ := (act_ref nw wl (c := duo n a b) p1 p2).2 hw
    rw [x1] at y1
    have := Option.some.inj y1
    subst this
    omega
  | some q =>
    obtain ⟨q1, q2⟩ := ref_in nw wl p1 p2 hw
    have f1 := (act_ref nw wl (c := duo n a b) p1 p2).1 q hw
    rw [duo_near (by omega) (by omega) s a1 q1 q2, e1] at f1
    by_cases z : q = b ∧ a ∈ staysS w
    · exact ⟨z.2, by rw [z.1]⟩
    · rw [if_neg z] at f1
      omega
/-- some stay, and they are told apart -/
def Has (v : NmL) : Prop := 1 < (staysS v).length ∨ ((staysS v).length = 1 ∧ ∃ p x, 1 ≤ p ∧ p ≤ v.length ∧ gO v p = some x ∧ x < 0)
theorem Has.some (h : Has v) : ∃ a, a ∈ staysS v := by
  have l : 0 < (staysS v).length := by rcases h with h | h <;> omega
  exact List.exists_mem_of_length_pos l
theorem key2 (nv : Nm v) (nw : Nm w) (vl : v.length = n) (wl : w.length = n) (h : SameAct n v w) (hv : Has v) {a : Nat} (ha : a ∈ staysS v) : a ∈ staysS w := by
  rcases hv with hv | ⟨hv, p, x, p1, p2, hx, zx⟩
  · obtain ⟨s, s1, s2⟩ := other_of (stays_nodup v) hv a
    obtain ⟨⟨t1, t2⟩, t3⟩ := stays_mem.mp s1
    exact (key1 nv nw vl wl h ha (Ne.symm s2) t1 (by omega) (by unfold refO; rw [t3])).1
  · have r := nm_rng nv p1 p2 hx
    obtain ⟨y, hy⟩ := nv.mv (p - 1) x (by rw [gO_at p1 p2, hx]) zx
    have ne : a ≠ (-x).toNat := fun e => by
      have g := (stays_mem.mp ha).2
      have e2 := gO_at (v := v) (p := (-x).toNat) (by omega) (by omega)
      rw [show (-x).toNat - 1 = (-x - 1).toNat by omega, hy, ← e, g] at e2
      cases e2
    exact (key1 nv nw vl wl h ha ne p1 (by omega) (by unfold refO; rw [hx]; exact if_pos zx)).1
theorem key3 (nv : Nm v) (nw : Nm w) (vl : v.length = n) (wl : w.length = n) (h : SameAct n v w) (hv : Has v) {p q : Nat} (p1 : 1 ≤ p) (p2 : p ≤ n) (hp : gO v p ≠ none) (hr : refO v p = some q) : refO w p = some q := by
  obtain ⟨a, ha⟩ := hv.some
  cases e : gO v p with
  | none => exact absurd e hp
  | some x =>
    have r := nm_rng nv p1 (by omega) e
    have hr2 := hr
    unfold refO at hr2
    rw [e] at hr2
    by_cases zx : x < 0
    · have e1 : some (-x).toNat = some q := by rw [← hr2]; exact (if_pos zx).symm
      have e2 := Option.some.inj e1
      obtain ⟨y, hy⟩ := nv.mv (p - 1) x (by rw [gO_at p1 (by omega), e]) zx
      have ne : a ≠ q := fun e3 => by
        have g := (stays_mem.mp ha).2
        have e4 := gO_at (v := v) (p := q) (by omega) (by omega)
        rw [show q - 1 = (-x - 1).toNat by omega, hy, ← e3, g] at e4
        cases e4
      exact (key1 nv nw vl wl h ha ne p1 p2 hr).2
    · have e1 : (none : Option Nat) = some q := by rw [← hr2]; exact (if_neg zx).symm
      cases e1
theorem same_plain (nv : Nm v) (nw : Nm w) (vl : v.length = n) (wl : w.length = n) (h : SameAct n v w) (pv : Plain v) (pw : Plain w) : v = w := by
  have h1 := nv.one
  have h6 := nv.six
  have h' : SameAct n w v := fun c g hc => (h c g hc).symm
  have lf : (List.replicate n 0).length = n := List.length_replicate
  have gf := flat_good (n := n) (by omega) (by omega)
  have flat : ∀ p, 1 ≤ p → p ≤ n → ∀ x y : Int, gO v p = some x → gO w p = some y → 0 ≤ x → 0 ≤ y → gO v p = gO w p := fun p p1 p2 x y hx hy zx zy => by
    have e := h.at vl wl gf lf p1 p2
    rw [act_pos p1 (by omega) hx zx, act_pos p1 (by omega) hy zy] at e
    rw [hx, hy]
    congr 1
    omega
  have nilOf : ∀ {u : NmL}, (∀ p, 1 ≤ p → p ≤ u.length → ∃ x, gO u p = some x ∧ 0 ≤ x) → ∀ a, a ∉ staysS u := fun {u} hu a ha => by
    obtain ⟨⟨a1, a2⟩, a3⟩ := stays_mem.mp ha
    obtain ⟨x, hx, _⟩ := hu a a1 a2
    rw [a3] at hx; cases hx
  have hv : Has v ∨ ∀ p, 1 ≤ p → p ≤ v.length → ∃ x, gO v p = some x ∧ 0 ≤ x := by
    rcases pv with p | p | p
    · exact .inl (.inl p)
    · exact .inl (.inr p)
    · exact .inr p
  have hw : Has w ∨ ∀ p, 1 ≤ p → p ≤ w.length → ∃ x, gO w p = some x ∧ 0 ≤ x := by
    rcases pw with p | p | p
    · exact .inl (.inl p)
    · exact .inl (.inr p)
    · exact .inr p
  rcases hv with hv | hv
  · rcases hw with hw | hw
    · refine gO_ext (by omega) fun p p1 p2 => ?_
      have p3 : p ≤ n := by omega
      have st : gO v p = none ↔ gO w p = none := by
        constructor
        · intro z
          exact (stays_mem.mp (key2 nv nw vl wl h hv (stays_mem.mpr ⟨⟨p1, p2⟩, z⟩))).2
        · intro z
          exact (stays_mem.mp (key2 nw nv wl vl h' hw (stays_mem.mpr ⟨⟨p1, by omega⟩, z⟩))).2
      cases ev : gO v p with
      | none => rw [st.mp ev]
      | some x =>
        cases ew : gO w p with
        | none => rw [st.mpr ew] at ev; cases ev
        | some y =>
          have nv0 : gO v p ≠ none := by rw [ev]; exact nofun
          have nw0 : gO w p ≠ none := by rw [ew]; exact nofun
          have rx := nm_rng nv p1 p2 ev
          have ry := nm_rng nw p1 (by omega) ew
          by_cases zx : x < 0
          · have e1 := key3 nv nw vl wl h hv p1 p3 nv0 (q := (-x).toNat) (by unfold refO; rw [ev]; exact if_pos zx)
            unfold refO at e1
            rw [ew] at e1
            by_cases zy : y < 0
            · have e2 : some (-y).toNat = some (-x).toNat := by rw [← e1]; exact (if_pos zy).symm
              have := Option.some.inj e2
              congr 1
              omega
            · have e2 : (none : Option Nat) = some (-x).toNat := by rw [← e1]; exact (if_neg zy).symm
              cases e2
          · by_cases zy : y < 0
            · have e1 := key3 nw nv wl vl h' hw p1 p3 nw0 (q := (-y).toNat) (by unfold refO; rw [ew]; exact if_pos zy)
              unfold refO at e1
              rw [ev] at e1
              have e2 : (none : Option Nat) = some (-y).toNat := by rw [← e1]; exact (if_neg zx).symm
              cases e2
            · rw [← ev, ← ew]
              exact flat p p1 p3 x y ev ew (by omega) (by omega)
    · obtain ⟨a, ha⟩ := hv.some
      exact absurd (key2 nv nw vl wl h hv ha) (nilOf hw a)
  · rcases hw with hw | hw
    · obtain ⟨a, ha⟩ := hw.some
      exact absurd (key2 nw nv wl vl h' hw ha) (nilOf hv a)
    · refine gO_ext (by omega) fun p p1 p2 => ?_
      obtain ⟨x, hx, zx⟩ := hv p p1 p2
      obtain ⟨y, hy, zy⟩ := hw p p1 (by omega)
      exact flat p p1 (by omega) x y hx hy zx zy
/-- alike plain ones: the same of every chart -/
theorem same_iff (nv : Nm v) (nw : Nm w) (vl : v.length = n) (wl : w.length = n) : plainS v = plainS w ↔ SameAct n v w := by
  constructor
  · intro e c g hc
    rw [← plain_act nv g (by omega), e, plain_act nw g (by omega)]
  · intro h
    refine same_plain (n := n) (plain_nm nv) (plain_nm nw) (by rw [plain_len, vl]) (by rw [plain_len, wl]) (fun c g hc => ?_) plain_plain plain_plain
    rw [plain_act nv g (by omega), plain_act nw g (by omega)]
    exact h c g hc
theorem plain_same (nv : Nm v) : plainS (plainS v) = plainS v := plain_id plain_plain
/-! ### what forgets -/
def badB : Option Int → Bool
  | none => true
  | some x => decide (x < 0)
def fgB (v : NmL) : Bool := !(plainS v).any badB
theorem bad_iff {v : NmL} : v.any badB = false ↔ ∀ p, 1 ≤ p → p ≤ v.length → ∃ x, gO v p = some x ∧ 0 ≤ x := by
  rw [List.any_eq_false]
  constructor
  · intro h p p1 p2
    have g := gO_at p1 p2
    have := h _ (List.mem_of_getElem? g)
    cases e : gO v p with
    | none => rw [e] at this; exact absurd rfl this
    | some x => rw [e] at this; exact ⟨x, rfl, by simpa [badB] using this⟩
  · intro h o ho
    obtain ⟨i, hi⟩ := List.mem_iff_getElem?.mp ho
    have il := (List.getElem?_eq_some_iff.mp hi).1
    obtain ⟨x, hx, zx⟩ := h (i + 1) (by omega) (by omega)
    have g := gO_at (v := v) (p := i + 1) (by omega) (by omega)
    rw [Nat.add_sub_cancel, hi, hx] at g
    rw [Option.some.inj g]
    simp [badB]
    exact zx
theorem fg_iff (nv : Nm v) (vl : v.length = n) : fgB v = true ↔ ∃ k, Good k ∧ k.length = n ∧ ∀ c, Good c → c.length = n → namedS v c = k := by
  have h1 := nv.one
  have h6 := nv.six
  have pl := plain_len v
  constructor
  · intro h
    have h2 : (plainS v).any badB = false := by unfold fgB at h; simpa using h
    have h3 := bad_iff.mp h2
    have lf : (List.replicate n 0).length = n := List.length_replicate
    have gf := flat_good (n := n) (by omega) (by omega)
    refine ⟨namedS v (List.replicate n 0), named_good nv gf (by omega), by rw [namedS_len, vl], fun c g hc => ?_⟩
    rw [← plain_act nv g (by omega), ← plain_act nv gf (by omega)]
    refine ext_up (by rw [namedS_len, namedS_len]) fun p p1 p2 => ?_
    rw [namedS_len] at p2
    obtain ⟨x, hx, zx⟩ := h3 p p1 p2
    rw [namedS_up p1 p2, namedS_up p1 p2, act_pos p1 p2 hx zx, act_pos p1 p2 hx zx]
  · rintro ⟨k, gk, lk, hk⟩
    let u : NmL := k.map fun (x : Nat) => some (x : Int)
    have ul : u.length = n := by show (k.map _).length = n; rw [List.length_map, lk]
    have ug : ∀ p, 1 ≤ p → p ≤ n → gO u p = some (up k p : Int) := fun p p1 p2 => by
      have g := gO_at (v := u) p1 (by omega)
      have e : u[p - 1]? = some (some (up k p : Int)) := by
        show (k.map _)[p - 1]? = _
        rw [List.getElem?_map, up_get p1 (by omega)]; rfl
      rw [e] at g
      exact (Option.some.inj g).symm
    have up0 : ∀ p, 1 ≤ p → p ≤ u.length → ∃ x : Int, gO u p = some x ∧ 0 ≤ x := fun p p1 p2 => ⟨_, ug p p1 (by omega), by omega⟩
    have nu : Nm u := allpos_nm (by omega) (by omega) gk (by omega) fun p p1 p2 => ⟨_, ug p p1 (by omega), by omega, fun _ => rfl⟩
    have e := (same_iff nv nu vl ul).mpr fun c g hc => by
      rw [hk c g hc]
      refine ext_up (by rw [namedS_len]; omega) fun p p1 p2 => ?_
      rw [namedS_up p1 (by omega), act_pos p1 (by omega) (ug p p1 (by omega)) (by omega)]
      omega
    rw [plain_id (v := u) (.inr (.inr up0))] at e
    unfold fgB
    rw [e, bad_iff.mpr up0]; rfl
end
end Cd
namespace Cd
open PySem
/-! Deeds: the walks. -/
theorem mem_tups {n : Nat} : ∀ (k : Nat) (t : List Nat), t.length = k → (∀ x ∈ t, x ≤ n) → t ∈ tups n k
  | 0, t, hl, _ => by rw [List.length_eq_zero_iff.mp hl]; simp [tups]
  | k + 1, t, hl, h => by
    have ne : t ≠ [] := fun e => by rw [e] at hl; cases hl
    have e : t.dropLast ++ [t.getLast ne] = t := List.dropLast_concat_getLast ne
    refine List.mem_flatMap.mpr ⟨t.dropLast, mem_tups k _ (by rw [List.length_dropLast, hl]; rfl) fun x hx => h x ((List.dropLast_sublist t).subset hx), List.mem_map.mpr ⟨t.getLast ne, ?_, e⟩⟩
    have := h _ (List.getLast_mem ne)
    exact List.mem_range'_1.mpr ⟨Nat.zero_le _, by omega⟩
def allC (n : Nat) : List (List Nat) := (tups n n).filter upA
theorem allC_good : ∀ {n : Nat}, 1 ≤ n → n ≤ 4 → ∀ t ∈ allC n, goodB t = true
  | 1, _, _ => by decide +kernel
  | 2, _, _ => by decide +kernel
  | 3, _, _ => by decide +kernel
  | 4, _, _ => by decide +kernel
  | 0, h, _ => by omega
  | n + 5, _, h => by omega
theorem allC_in {n : Nat} (h1 : 1 ≤ n) (h4 : n ≤ 4) {c : List Nat} : c ∈ allC n ↔ Good c ∧ c.length = n := by
  constructor
  · intro h
    exact ⟨goodB_ok (allC_good h1 h4 c h), (tups_mem (List.mem_filter.mp h).1).1⟩
  · rintro ⟨g, hc⟩
    have m : c ∈ tups n n := mem_tups n c hc fun x hx => by
      obtain ⟨i, hi⟩ := List.mem_iff_getElem?.mp hx
      have il := (List.getElem?_eq_some_iff.mp hi).1
      have u := up_get (c := c) (k := i + 1) (by omega) (by omega)
      rw [Nat.add_sub_cancel, hi] at u
      have := g.le (k := i + 1) (by omega) (by omega)
      rw [← Option.some.inj u] at this
      omega
    unfold allC
    rw [(same_charts h1 h4).1]
    exact List.mem_filter.mpr ⟨m, g.isB⟩
def tellB (v w : NmL) (c : List Nat) : Bool := !decide (namedS v c = namedS w c)
def optD : Option (List Nat) → PyData
  | none => .none
  | some c => dT c
def tellS (v w : NmL) : Option (List Nat) := ((allC v.length).filter (tellB v w)).head?
section
variable {ns : List Int} {C : CT}
theorem lcV {own : List (Str × Nat)} {i : Nat} {it : It} {c e : E} {env : List Slot} {v : NmL} (p : Option Int → Bool) (h : Option Int → PyData) (hi : evI ns C it env = M.ret (nL v)) (hl : v.length ≤ LB)
    (hc : ∀ o, evT ns C c (setS (wipeE env (own.map (·.2))) i (oD o)) = M.ret (p o)) (he : ∀ o, p o = true → evE ns C e (setS (wipeE env (own.map (·.2))) i (oD o)) = M.ret (h o)) : evE ns C (.lc own (.nm i) it c e) env = M.ret (.list ((v.filter p).map h)) := by
  have key : ∀ r : NmL, mapL (fun x => match bindT (wipeE env (own.map (·.2))) (.nm i) x with
    | some env' => M.bd (evT ns C c env') fun k => if k then M.bd (evE ns C e env') fun y => M.ret (some y) else M.ret none
    | none => M.no) (nL r) = M.ret ((r.filter p).map h) := by
    intro r
    induction r with
    | nil => rfl
    | cons o r ih =>
      have e1 : (match bindT (wipeE env (own.map (·.2))) (.nm i) (oD o) with
        | some env' => M.bd (evT ns C c env') fun k => if k then M.bd (evE ns C e env') fun y => M.ret (some y) else M.ret none
        | none => M.no) = M.ret (if p o then some (h o) else none) := by
        show M.bd (evT ns C c (setS (wipeE env (own.map (·.2))) i (oD o))) _ = _
        rw [hc o, bd_ret]
        cases z : p o with
        | true => rw [if_pos rfl, he o z, bd_ret]; rfl
        | false => rfl
      show mapL _ (oD o :: nL r) = _
      unfold mapL
      rw [e1, bd_ret, ih, bd_ret]
      cases z : p o with
      | true => rw [List.filter_cons_of_pos z]; rfl
      | false => rw [List.filter_cons_of_neg (by simp [z])]; rfl
  have e2 : evE ns C (.lc own (.nm i) it c e) env = M.bd (evI ns C it env) fun l => M.bd (mapL (fun x => match bindT (wipeE env (own.map (·.2))) (.nm i) x with
    | some env' => M.bd (evT ns C c env') fun k => if k then M.bd (evE ns C e env') fun y => M.ret (some y) else M.ret none
    | none => M.no) l) fun r => if r.length ≤ LB then M.ret (.list r) else M.no := by simp only [evE] <;> rfl
  rw [e2, hi, bd_ret, key v, bd_ret, if_pos (by rw [List.length_map]; exact Nat.le_trans (List.length_filter_le ..) hl)]
def ir_plain_of (m : Nat) : SL := (.cons [] (.set 1 (.bin .sub (.f1 .len (.var 0)) (.f1 .len (.call m (.cons false (.var 0) .nil)))))
  (.cons [] (.set 2 (.lc [("one", 3)] (.nm 3) (.seq (.var 0)) (.and (.cmp .isNotN (.var 3) .non) (.cmp .lt (.var 3) (.int 0))) (.var 3)))
  (.cons [] (.ite (.or (.cmp .gt (.var 1) (.int 1)) (.and (.cmp .eq (.var 1) (.int 1)) (.var 2))) (.cons [] (.ret (.var 0))
  .nil) .nil)
  (.cons [] (.ret (.f1 .tuple (.lc [("one", 3)] (.nm 3) (.seq (.var 0)) (.bl true) (.ite (.or (.cmp .isN (.var 3) .non) (.cmp .lt (.var 3) (.int 0))) (.int 0) (.var 3)))))
  .nil))))
def PlainOk (C : CT) (f : Nat) : Prop := ∀ v, Nm v → C f [.sh (nD v)] = M.ret (nD (plainS v))
theorem plain_of_ok {m : Nat} {v : NmL} (nv : Nm v) (hm : C m [.sh (nD v)] = M.ret (.list (mN (moversS v)))) : exL ns C (ir_plain_of m) [.sh (nD v), .no, .no, .no] = M.ret (.rt (nD (plainS v))) := by
  have six := nv.six
  have ml := movers_le v
  have c1 : evE ns C (.call m (.cons false (.var 0) .nil)) [.sh (nD v), .no, .no, .no] = M.ret (.list (mN (moversS v))) := e_call2 (l := [.sh (nD v)]) rfl hm rfl
  have c2 : evE ns C (.f1 .len (.call m (.cons false (.var 0) .nil))) [.sh (nD v), .no, .no, .no] = M.ret (dN (moversS v).length) := e_f12 (rd_no (fun _ => rfl) c1) (by show some (PyData.int ((mN (moversS v)).length : Nat)) = _; rw [lenN])
  have c3 : evE ns C (.bin .sub (.f1 .len (.var 0)) (.f1 .len (.call m (.cons false (.var 0) .nil)))) [.sh (nD v), .no, .no, .no] = M.ret (dN (stayN v)) := by
    refine e_bin2 (x := dN v.length) (y := dN (moversS v).length) (rd_no (fun _ => rfl) (e_lenO (i := 0) rfl)) (rd_no (fun _ => rfl) c2) ?_
    show some (PyData.int ((v.length : Int) - ((moversS v).length : Int))) = some (PyData.int ((stayN v : Nat) : Int))
    unfold stayN
    congr 2; omega
  have c4 : evE ns C (.lc [("one", 3)] (.nm 3) (.seq (.var 0)) (.and (.cmp .isNotN (.var 3) .non) (.cmp .lt (.var 3) (.int 0))) (.var 3)) [.sh (nD v), .sh (dN (stayN v)), .no, .no] = M.ret (.list (nL (v.filter oldB))) := by
    refine lcV (v := v) oldB oD rfl (by unfold LB; omega) (fun o => ?_) (fun o _ => rfl)
    cases o with
    | none => exact t_and0 (t_isNotN (o := none) rfl)
    | some x => exact (t_and2 (p := true) (q := decide (x < 0)) (t_isNotN (o := some x) rfl) fun _ => t_cmp2 (x := .int x) (y := .int 0) rfl rfl rfl).trans rfl
  let E : List Slot := [.sh (nD v), .sh (dN (stayN v)), .ow (nL (v.filter oldB)), .no]
  refine st0 (e1 := [.sh (nD v), .sh (dN (stayN v)), .no, .no]) (x_set c3) (st0 (e1 := E) (x_set c4) ?_)
  have t1 : evT ns C (.cmp .gt (.var 1) (.int 1)) E = M.ret (decide (1 < stayN v)) := by
    refine t_cmp2 (x := dN (stayN v)) (y := dN 1) rfl rfl ?_
    show some (decide ((1 : Int) < (stayN v : Int))) = _
    congr 1
    exact decide_eq_decide.mpr (by omega)
  have t2 : evT ns C (.cmp .eq (.var 1) (.int 1)) E = M.ret (decide (stayN v = 1)) := t_cmp2 (x := dN (stayN v)) (y := dN 1) rfl rfl (eq_N ..)
  have t3 : evT ns C (.var 2) E = M.ret (!(v.filter oldB).isEmpty) := by
    have : evT ns C (.var 2) E = M.ret (!(nL (v.filter oldB)).isEmpty) := by simp only [evT] <;> rfl
    rw [this]
    cases v.filter oldB <;> rfl
  have t4 : evT ns C (.or (.cmp .gt (.var 1) (.int 1)) (.and (.cmp .eq (.var 1) (.int 1)) (.var 2))) E = M.ret (kpB v) := t_or2 t1 fun _ => t_and2 t2 fun _ => t3
  unfold plainS
  cases hk : kpB v with
  | true =>
    rw [hk] at t4
    exact exL_ret (fz := []) (x_take t4 (exL_ret (x_ret rfl)))
  | false =>
    rw [hk] at t4
    refine st0 (x_skip t4) (exL_ret (x_ret (e_f12 (x := .list (nL (v.map zr))) ?_ rfl)))
    have e := lcV (ns := ns) (C := C) (own := [("one", 3)]) (i := 3) (it := .seq (.var 0)) (c := .bl true) (e := .ite (.or (.cmp .isN (.var 3) .non) (.cmp .lt (.var 3) (.int 0))) (.int 0) (.var 3)) (env := E) (v := v) (fun _ => true) (fun o => oD (zr o)) rfl (by unfold LB; omega) (fun o => by simp only [evT]) fun o _ => by
      cases o with
      | none => exact (e_ite2 (t_or2 (p := true) (q := true) (t_isN (o := none) rfl) fun z => by cases z)).trans rfl
      | some x =>
        refine (e_ite2 (t_or2 (p := false) (q := decide (x < 0)) (t_isN (o := some x) rfl) fun _ => t_cmp2 (x := .int x) (y := .int 0) rfl rfl rfl)).trans ?_
        show (if (false || decide (x < 0)) = true then _ else _) = M.ret (oD (if x < 0 then some 0 else some x))
        by_cases z : x < 0
        · rw [if_pos z, decide_eq_true z]; rfl
        · rw [if_neg z, decide_eq_false z]; rfl
    rw [List.filter_eq_self.mpr fun _ _ => rfl] at e
    refine (rd_no (fun _ => rfl) e).trans ?_
    show M.ret (PyData.list (v.map fun o => oD (zr o))) = M.ret (PyData.list ((v.map zr).map oD))
    rw [List.map_map]; rfl
theorem eqE_O {a b : E} {env : List Slot} {v w : NmL} (na : NoVar env a) (nb : NoVar env b) (ha : evE ns C a env = M.ret (nD v)) (hb : evE ns C b env = M.ret (nD w)) : evE ns C (.cmp .eq a b) env = M.ret (.bool (decide (v = w))) := e_cmp2 (rd_no na ha) (rd_no nb hb) (eq_O ..)
def ir_same_deed (f g : Nat) : SL := (.cons [] (.drop (.call f (.cons false (.var 0) (.cons false (.var 1) .nil))))
  (.cons [] (.ret (.cmp .eq (.call g (.cons false (.var 0) .nil)) (.call g (.cons false (.var 1) .nil))))
  .nil))
theorem same_deed_ok {f g : Nat} (hf : NeedTwoOk C f) (hg : PlainOk C g) {v w : NmL} (nv : Nm v) (nw : Nm w) (hl : w.length = v.length) : exL ns C (ir_same_deed f g) [.sh (nD v), .sh (nD w)] = M.ret (.rt (.bool (decide (plainS v = plainS w)))) :=
  st0 (x_need (d := .none) (l := [.sh (nD v), .sh (nD w)]) rfl (hf v w nv nw hl)) (exL_ret (x_ret (eqE_O (fun _ => rfl) (fun _ => rfl) (e_call2 (l := [.sh (nD v)]) rfl (hg v nv) rfl) (e_call2 (l := [.sh (nD w)]) rfl (hg w nw) rfl))))
def ir_need_told (f : Nat) : SL := (.cons [] (.drop (.call f (.cons false (.var 0) (.cons false (.var 1) .nil))))
  (.cons [] (.ite (.cmp .gt (.f1 .len (.var 0)) (.gi "MOST_TOLD" 5)) (.cons [] .fail
  .nil) .nil)
  .nil))
theorem need_told_ok {f : Nat} (hf : NeedTwoOk C f) {v w : NmL} (nv : Nm v) (nw : Nm w) (hl : w.length = v.length) (h5 : v.length ≤ 5) : exL ns C (ir_need_told f) [.sh (nD v), .sh (nD w)] = M.ret (.nx [.sh (nD v), .sh (nD w)]) := by
  refine st0 (x_need (d := .none) (l := [.sh (nD v), .sh (nD w)]) rfl (hf v w nv nw hl)) (st0 (x_skip (t_cmp2 (x := dN v.length) (y := .int 5) (rd_no (fun _ => rfl) (e_lenO (i := 0) rfl)) rfl ?_)) exL_nil)
  show some (decide ((5 : Int) < (v.length : Int))) = _
  rw [decide_eq_false (by omega)]
def NeedToldOk (C : CT) (f : Nat) : Prop := ∀ v w, Nm v → Nm w → w.length = v.length → v.length ≤ 5 → C f [.sh (nD v), .sh (nD w)] = M.ret .none
def ir_telling (f g h : Nat) : SL := (.cons [] (.drop (.call f (.cons false (.var 0) (.cons false (.var 1) .nil))))
  (.cons [] (.fr (.nm 2) (.seq (.call g (.cons false (.f1 .len (.var 0)) .nil))) (.cons [] (.ite (.cmp .ne (.call h (.cons false (.var 0) (.cons false (.var 2) .nil))) (.call h (.cons false (.var 1) (.cons false (.var 2) .nil)))) (.cons [] (.ret (.var 2))
  .nil) .nil)
  .nil))
  (.cons [] (.ret .non)
  .nil)))
theorem telling_ok {f g h : Nat} (hf : NeedToldOk C f) (hg : ∀ n, n ≤ 4 → C g [.sh (dN n)] = M.ret (.list ((allC n).map dT))) (hh : NamedOfOk C h) {v w : NmL} (nv : Nm v) (nw : Nm w) (hl : w.length = v.length) (h4 : v.length ≤ 4) : exL ns C (ir_telling f g h) [.sh (nD v), .sh (nD w), .no] = M.ret (.rt (optD (tellS v w))) := by
  have one := nv.one
  have lp : ∀ (L : List (List Nat)), (∀ c ∈ L, Good c ∧ c.length = v.length) → ∀ s : Slot, ∃ s', frL (fun env x => match bindT env (.nm 2) x with | some env' => exL ns C (.cons [] (.ite (.cmp .ne (.call h (.cons false (.var 0) (.cons false (.var 2) .nil))) (.call h (.cons false (.var 1) (.cons false (.var 2) .nil)))) (.cons [] (.ret (.var 2)) .nil) .nil) .nil) env' | none => M.no) [.sh (nD v), .sh (nD w), s] (L.map dT) = M.ret (match L.filter (tellB v w) with | [] => .nx [.sh (nD v), .sh (nD w), s'] | c :: _ => .rt (dT c)) := by
    intro L
    induction L with
    | nil => exact fun _ s => ⟨s, rfl⟩
    | cons c r ih =>
      intro hL s
      obtain ⟨gc, lc⟩ := hL c List.mem_cons_self
      obtain ⟨s', hs⟩ := ih (fun d hd => hL d (List.mem_cons_of_mem _ hd)) (.sh (dT c))
      refine ⟨s', ?_⟩
      have a1 : evE ns C (.call h (.cons false (.var 0) (.cons false (.var 2) .nil))) [.sh (nD v), .sh (nD w), .sh (dT c)] = M.ret (dT (namedS v c)) := e_call2 (l := [.sh (nD v), .sh (dT c)]) rfl (hh v c nv gc lc) rfl
      have a2 : evE ns C (.call h (.cons false (.var 1) (.cons false (.var 2) .nil))) [.sh (nD v), .sh (nD w), .sh (dT c)] = M.ret (dT (namedS w c)) := e_call2 (l := [.sh (nD w), .sh (dT c)]) rfl (hh w c nw gc (by omega)) rfl
      have t : evT ns C (.cmp .ne (.call h (.cons false (.var 0) (.cons false (.var 2) .nil))) (.call h (.cons false (.var 1) (.cons false (.var 2) .nil)))) [.sh (nD v), .sh (nD w), .sh (dT c)] = M.ret (tellB v w c) := t_cmp2 (rd_no (fun _ => rfl) a1) (rd_no (fun _ => rfl) a2) (ne_T ..)
      show M.bd (exL ns C (.cons [] (.ite (.cmp .ne (.call h (.cons false (.var 0) (.cons false (.var 2) .nil))) (.call h (.cons false (.var 1) (.cons false (.var 2) .nil)))) (.cons [] (.ret (.var 2)) .nil) .nil) .nil) [.sh (nD v), .sh (nD w), .sh (dT c)]) _ = _
      cases z : tellB v w c with
      | true =>
        rw [z] at t
        rw [List.filter_cons_of_pos z]
        have e1 : exL ns C (.cons [] (.ite (.cmp .ne (.call h (.cons false (.var 0) (.cons false (.var 2) .nil))) (.call h (.cons false (.var 1) (.cons false (.var 2) .nil)))) (.cons [] (.ret (.var 2)) .nil) .nil) .nil) [.sh (nD v), .sh (nD w), .sh (dT c)] = M.ret (.rt (dT c)) := exL_ret (fz := []) (x_take t (exL_ret (x_ret rfl)))
        rw [e1, bd_ret]
      | false =>
        rw [z] at t
        rw [List.filter_cons_of_neg (by simp [z])]
        have e1 : exL ns C (.cons [] (.ite (.cmp .ne (.call h (.cons false (.var 0) (.cons false (.var 2) .nil))) (.call h (.cons false (.var 1) (.cons false (.var 2) .nil)))) (.cons [] (.ret (.var 2)) .nil) .nil) .nil) [.sh (nD v), .sh (nD w), .sh (dT c)] = M.ret (.nx [.sh (nD v), .sh (nD w), .sh (dT c)]) := st0 (x_skip t) exL_nil
        rw [e1, bd_ret]
        exact hs
  obtain ⟨s', e⟩ := lp (allC v.length) (fun c hc => (allC_in one h4).mp hc) .no
  have hi : evI ns C (.seq (.call g (.cons false (.f1 .len (.var 0)) .nil))) [.sh (nD v), .sh (nD w), .no] = M.ret ((allC v.length).map dT) := by
    have : evE ns C (.call g (.cons false (.f1 .len (.var 0)) .nil)) [.sh (nD v), .sh (nD w), .no] = M.ret (.list ((allC v.length).map dT)) := e_call2 (l := [.sh (dN v.length)]) (aa1 (a_hand (fun _ => rfl) (e_lenO (i := 0) rfl))) (hg _ h4) rfl
    simp only [evI, rd, this, bd_ret, elemsD, of_some]
  have e2 := (x_fr (ns := ns) (C := C) (t := .nm 2) (env := [.sh (nD v), .sh (nD w), .no]) rfl hi).trans e
  refine st0 (x_need (d := .none) (l := [.sh (nD v), .sh (nD w)]) rfl (hf v w nv nw hl (by omega))) ?_
  unfold tellS
  generalize (allC v.length).filter (tellB v w) = q at e2
  cases q with
  | nil => exact st0 e2 (exL_ret (x_ret rfl))
  | cons x r => exact exL_ret (fz := []) e2
def ir_shows_telling (f p i h : Nat) : SL := (.cons [] (.drop (.call f (.cons false (.var 0) (.cons false (.var 1) .nil))))
  (.cons [] (.ite (.cmp .isN (.var 2) .non) (.cons [] (.ret (.cmp .eq (.call p (.cons false (.var 0) .nil)) (.call p (.cons false (.var 1) .nil))))
  .nil) .nil)
  (.cons [] (.ite (.or (.not (.call i (.cons false (.var 2) .nil))) (.cmp .ne (.f1 .len (.var 2)) (.f1 .len (.var 0)))) (.cons [] (.ret (.bl false))
  .nil) .nil)
  (.cons [] (.ret (.cmp .ne (.call h (.cons false (.var 0) (.cons false (.var 2) .nil))) (.call h (.cons false (.var 1) (.cons false (.var 2) .nil)))))
  .nil))))
theorem shows_telling_none {f p i h : Nat} (hf : NeedToldOk C f) (hp : PlainOk C p) {v w : NmL} (nv : Nm v) (nw : Nm w) (hl : w.length = v.length) (h5 : v.length ≤ 5) : exL ns C (ir_shows_telling f p i h) [.sh (nD v), .sh (nD w), .sh .none] = M.ret (.rt (.bool (decide (plainS v = plainS w)))) :=
  st0 (x_need (d := .none) (l := [.sh (nD v), .sh (nD w)]) rfl (hf v w nv nw hl h5)) (exL_ret (fz := []) (x_take (t_cmp2 (x := .none) (y := .none) rfl rfl rfl) (exL_ret (x_ret (eqE_O (fun _ => rfl) (fun _ => rfl) (e_call2 (l := [.sh (nD v)]) rfl (hp v nv) rfl) (e_call2 (l := [.sh (nD w)]) rfl (hp w nw) rfl))))))
theorem shows_telling_some {f p i h : Nat} (hf : NeedToldOk C f) (hi : ∀ c, Good c → C i [.sh (dT c)] = M.ret (.bool true)) (hh : NamedOfOk C h) {v w : NmL} (nv : Nm v) (nw : Nm w) (hl : w.length = v.length) (h5 : v.length ≤ 5) {c : List Nat} (g : Good c) (hc : c.length = v.length) : exL ns C (ir_shows_telling f p i h) [.sh (nD v), .sh (nD w), .sh (dT c)] = M.ret (.rt (.bool (tellB v w c))) := by
  have a1 : evE ns C (.call h (.cons false (.var 0) (.cons false (.var 2) .nil))) [.sh (nD v), .sh (nD w), .sh (dT c)] = M.ret (dT (namedS v c)) := e_call2 (l := [.sh (nD v), .sh (dT c)]) rfl (hh v c nv g hc) rfl
  have a2 : evE ns C (.call h (.cons false (.var 1) (.cons false (.var 2) .nil))) [.sh (nD v), .sh (nD w), .sh (dT c)] = M.ret (dT (namedS w c)) := e_call2 (l := [.sh (nD w), .sh (dT c)]) rfl (hh w c nw g (by omega)) rfl
  have t2 := t_cmp2 (ns := ns) (C := C) (o := .ne) (a := .f1 .len (.var 2)) (b := .f1 .len (.var 0)) (env := [.sh (nD v), .sh (nD w), .sh (dT c)]) (x := dN c.length) (y := dN v.length) (e_lenT (i := 2) rfl) (e_lenO (i := 0) rfl) (ne_N ..)
  rw [decide_eq_true hc] at t2
  refine st0 (x_need (d := .none) (l := [.sh (nD v), .sh (nD w)]) rfl (hf v w nv nw hl h5)) (st0 (x_skip (t_cmp2 (x := dT c) (y := .none) rfl rfl rfl)) (st0 (x_skip (t_or2 (p := false) (q := false) (tt_not (b := true) (t_call2 (l := [.sh (dT c)]) rfl (hi c g) rfl rfl)) fun _ => t2)) (exL_ret (x_ret ?_))))
  exact e_cmp2 (rd_no (fun _ => rfl) a1) (rd_no (fun _ => rfl) a2) (ne_T ..)
def ir_plain_naming (f g : Nat) : SL := (.cons [] (.drop (.call f (.cons false (.var 0) .nil)))
  (.cons [] (.ret (.call g (.cons false (.var 0) .nil)))
  .nil))
theorem plain_naming_ok {f g : Nat} (hf : NeedNmOk C f) (hg : PlainOk C g) {v : NmL} (nv : Nm v) : exL ns C (ir_plain_naming f g) [.sh (nD v)] = M.ret (.rt (nD (plainS v))) :=
  st0 (x_need (d := .none) (l := [.sh (nD v)]) rfl (hf v nv)) (exL_ret (x_ret (e_call2 (l := [.sh (nD v)]) rfl (hg v nv) rfl)))
def ir_forgets (f g : Nat) : SL := (.cons [] (.drop (.call f (.cons false (.var 0) .nil)))
  (.cons [] (.set 1 (.call g (.cons false (.var 0) .nil)))
  (.cons [] (.ret (.not (.g .any [("one", 2)] (.nm 2) (.seq (.var 1)) (.or (.cmp .isN (.var 2) .non) (.cmp .lt (.var 2) (.int 0))))))
  .nil)))
theorem forgets_ok {f g : Nat} (hf : NeedNmOk C f) (hg : PlainOk C g) {v : NmL} (nv : Nm v) : exL ns C (ir_forgets f g) [.sh (nD v), .no, .no] = M.ret (.rt (.bool (fgB v))) := by
  refine st0 (x_need (d := .none) (l := [.sh (nD v)]) rfl (hf v nv)) (st0 (e1 := [.sh (nD v), .sh (nD (plainS v)), .no]) (x_set (e_call2 (l := [.sh (nD v)]) rfl (hg v nv) rfl)) (exL_ret (x_ret ?_)))
  have e1 : evE ns C (.g .any [("one", 2)] (.nm 2) (.seq (.var 1)) (.or (.cmp .isN (.var 2) .non) (.cmp .lt (.var 2) (.int 0)))) [.sh (nD v), .sh (nD (plainS v)), .no] = M.ret (.bool ((plainS v).any badB)) := by
    refine anyO (v := plainS v) badB rfl fun o => ?_
    cases o with
    | none => exact e_or2 (a := .cmp .isN (.var 2) .non) (env := [.sh (nD v), .sh (nD (plainS v)), .sh .none]) (p := true) (q := true) (e_cmp2 (x := .none) (y := .none) rfl rfl rfl) fun z => by cases z
    | some x => exact (e_or2 (a := .cmp .isN (.var 2) .non) (b := .cmp .lt (.var 2) (.int 0)) (env := [.sh (nD v), .sh (nD (plainS v)), .sh (.int x)]) (p := false) (q := decide (x < 0)) (e_cmp2 (x := .int x) (y := .none) rfl rfl rfl) fun _ => e_cmp2 (x := .int x) (y := .int 0) rfl rfl rfl).trans rfl
  have e : evE ns C (.not (.g .any [("one", 2)] (.nm 2) (.seq (.var 1)) (.or (.cmp .isN (.var 2) .non) (.cmp .lt (.var 2) (.int 0))))) [.sh (nD v), .sh (nD (plainS v)), .no] = M.bd (evE ns C (.g .any [("one", 2)] (.nm 2) (.seq (.var 1)) (.or (.cmp .isN (.var 2) .non) (.cmp .lt (.var 2) (.int 0)))) [.sh (nD v), .sh (nD (plainS v)), .no]) fun x => match truthD x with | some b => M.ret (.bool !b) | none => M.no := by
    have h9 : ∀ a env, evE ns C (.not a) env = M.bd (evE ns C a env) fun x => match truthD x with | some b => M.ret (.bool !b) | none => M.no := fun a env => by simp only [evE] <;> rfl
    exact h9 _ _
  refine e.trans ?_
  rw [e1]; rfl
end
end Cd
namespace Lwk35
open PySem PySem.Spec PyProof.Rows L2 Cd
abbrev lw : PySem.W.OpenLaw := PySem.Challenge.rw_chiefdeeds_k35_across_plain_namings
def dd (i : Nat) : He.DefD := match lw.prog.main.body.getD i (.Pass ⟨0, 0, 0, 0⟩) with
  | .FunctionDef (name := x) (args := a) (body := b) (scope := s) .. => ⟨(x, none), x, x, a, b, s, [], []⟩
  | _ => ⟨("", none), "", "", ⟨[], [], none, [], [], none, []⟩, [], ⟨.function, [], false, false, []⟩, [], []⟩
def ir_is_in : SL := (.cons [] (.ret (.and (.isi (.var 0) ["int"]) (.and (.not (.isi (.var 0) ["bool"])) (.chn .le .le (.var 1) (.var 0) (.var 2)))))
  .nil)
def ir_comes_up : SL := (.cons [] (.fr (.nm 1) (.r2 (.int 1) (.bin .add (.f1 .len (.var 0)) (.int 1))) (.cons [] (.par [2, 3] (.cons false (.var 1) (.cons false (.int 0) .nil)))
  (.cons [] (.wh (.and (.cmp .ne (.var 2) (.int 0)) (.cmp .le (.var 3) (.f1 .len (.var 0)))) (.cons [] (.par [2, 3] (.cons false (.ix (.var 0) (.bin .sub (.var 2) (.int 1))) (.cons false (.bin .add (.var 3) (.int 1)) .nil)))
  .nil))
  (.cons [] (.ite (.cmp .ne (.var 2) (.int 0)) (.cons [] (.ret (.bl false))
  .nil) .nil)
  .nil))))
  (.cons [] (.ret (.bl true))
  .nil))
def ir_is_chart : SL := (.cons [] (.ite (.or (.not (.isi (.var 0) ["tuple"])) (.not (.chn .le .le (.int 1) (.f1 .len (.var 0)) (.gi "MOST_PEOPLE" 6)))) (.cons [] (.ret (.bl false))
  .nil) .nil)
  (.cons [] (.ret (.and (.g .all [("one", 1)] (.nm 1) (.seq (.var 0)) (.call 0 (.cons false (.var 1) (.cons false (.int 0) (.cons false (.f1 .len (.var 0)) .nil))))) (.call 1 (.cons false (.var 0) .nil))))
  .nil))
def ir_all_charts : SL := (.cons [] (.set 1 (.lst (.cons false (.tup .nil) .nil)))
  (.cons [] (.fr (.nm 2) (.r1 (.var 0)) (.cons [] (.set 3 (.lst .nil))
  (.cons [1] (.fr (.nm 4) (.seq (.var 1)) (.cons [] (.set 3 (.bin .add (.var 3) (.lc [("chief", 5)] (.nm 5) (.r1 (.bin .add (.var 0) (.int 1))) (.bl true) (.tup (.cons true (.var 4) (.cons false (.var 5) .nil))))))
  .nil))
  (.cons [3] (.set 1 (.var 3))
  .nil))))
  (.cons [] (.ret (.lc [("chiefs", 4)] (.nm 4) (.seq (.var 1)) (.call 1 (.cons false (.var 4) .nil)) (.var 4)))
  .nil)))
def ir_chain : SL := (.cons [] (.par [2, 3] (.cons false (.lst .nil) (.cons false (.ix (.var 0) (.bin .sub (.var 1) (.int 1))) .nil)))
  (.cons [] (.wh (.cmp .ne (.var 3) (.int 0)) (.cons [] (.app 2 (.var 3))
  (.cons [] (.set 3 (.ix (.var 0) (.bin .sub (.var 3) (.int 1))))
  .nil)))
  (.cons [2] (.ret (.var 2))
  .nil)))
def ir_nearest_of : SL := (.cons [] (.fr (.nm 3) (.seq (.call 4 (.cons false (.var 0) (.cons false (.var 1) .nil)))) (.cons [] (.ite (.cmp .isin (.var 3) (.var 2)) (.cons [] (.ret (.var 3))
  .nil) .nil)
  .nil))
  (.cons [] (.ret (.int 0))
  .nil))
def ir_goes_round : SL := (.cons [] (.fr (.nm 1) (.r2 (.int 1) (.bin .add (.f1 .len (.var 0)) (.int 1))) (.cons [] (.par [2, 3] (.cons false (.ix (.var 0) (.bin .sub (.var 1) (.int 1))) (.cons false (.int 0) .nil)))
  (.cons [] (.wh (.and (.cmp .isNotN (.var 2) .non) (.and (.cmp .gt (.var 2) (.int 0)) (.cmp .le (.var 3) (.f1 .len (.var 0))))) (.cons [] (.par [2, 3] (.cons false (.ix (.var 0) (.bin .sub (.var 2) (.int 1))) (.cons false (.bin .add (.var 3) (.int 1)) .nil)))
  .nil))
  (.cons [] (.ite (.cmp .gt (.var 3) (.f1 .len (.var 0))) (.cons [] (.ret (.bl true))
  .nil) .nil)
  .nil))))
  (.cons [] (.ret (.bl false))
  .nil))
def ir_is_naming : SL := (.cons [] (.ite (.or (.not (.isi (.var 0) ["tuple"])) (.not (.chn .le .le (.int 1) (.f1 .len (.var 0)) (.gi "MOST_PEOPLE" 6)))) (.cons [] (.ret (.bl false))
  .nil) .nil)
  (.cons [] (.set 1 (.f1 .len (.var 0)))
  (.cons [] (.fr (.tp [2, 3]) (.enum (.var 0)) (.cons [] (.ite (.and (.cmp .isNotN (.var 3) .non) (.or (.not (.call 0 (.cons false (.var 3) (.cons false (.bin .sub (.int 0) (.var 1)) (.cons false (.var 1) .nil))))) (.cmp .eq (.var 3) (.bin .add (.var 2) (.int 1))))) (.cons [] (.ret (.bl false))
  .nil) .nil)
  (.cons [] (.ite (.and (.cmp .isNotN (.var 3) .non) (.and (.cmp .lt (.var 3) (.int 0)) (.cmp .isN (.ix (.var 0) (.bin .sub (.bin .sub (.int 0) (.var 3)) (.int 1))) .non))) (.cons [] (.ret (.bl false))
  .nil) .nil)
  .nil)))
  (.cons [] (.ret (.not (.call 6 (.cons false (.var 0) .nil))))
  .nil))))
def ir_need_naming : SL := (.cons [] (.ite (.not (.call 7 (.cons false (.var 0) .nil))) (.cons [] .fail
  .nil) .nil)
  .nil)
def ir_movers_of : SL := (.cons [] (.ret (.lc [("at", 1), ("one", 2)] (.tp [1, 2]) (.enum (.var 0)) (.cmp .isNotN (.var 2) .non) (.bin .add (.var 1) (.int 1))))
  .nil)
def ir_movers : SL := (.cons [] (.drop (.call 8 (.cons false (.var 0) .nil)))
  (.cons [] (.ret (.f1 .tuple (.call 9 (.cons false (.var 0) .nil))))
  .nil))
def ir_named_of : SL := (.cons [] (.par [2, 3] (.cons false (.lc [("at", 4), ("one", 5)] (.tp [4, 5]) (.enum (.var 0)) (.cmp .isN (.var 5) .non) (.bin .add (.var 4) (.int 1))) (.cons false (.lst .nil) .nil)))
  (.cons [] (.fr (.tp [4, 5]) (.enum (.var 0)) (.cons [] (.ite (.and (.cmp .isNotN (.var 5) .non) (.cmp .ge (.var 5) (.int 0))) (.cons [] (.app 3 (.var 5))
  .nil) (.cons [2] (.app 3 (.call 5 (.cons false (.var 1) (.cons false (.ite (.cmp .isN (.var 5) .non) (.bin .add (.var 4) (.int 1)) (.bin .sub (.int 0) (.var 5))) (.cons false (.var 2) .nil)))))
  .nil))
  .nil))
  (.cons [] (.ret (.f1 .tuple (.var 3)))
  .nil)))
def ir_named : SL := (.cons [] (.drop (.call 8 (.cons false (.var 0) .nil)))
  (.cons [] (.ite (.or (.not (.call 2 (.cons false (.var 1) .nil))) (.cmp .ne (.f1 .len (.var 1)) (.f1 .len (.var 0)))) (.cons [] .fail
  .nil) .nil)
  (.cons [] (.ret (.call 11 (.cons false (.var 0) (.cons false (.var 1) .nil))))
  .nil)))
def ir_up : SL := (.cons [] (.set 3 (.ix (.var 0) (.bin .sub (.var 2) (.int 1))))
  (.cons [] (.ite (.cmp .isN (.var 3) .non) (.cons [] (.ret (.bin .sub (.int 0) (.var 2)))
  .nil) .nil)
  (.cons [] (.ite (.or (.cmp .le (.var 3) (.int 0)) (.cmp .isN (.ix (.var 1) (.bin .sub (.var 3) (.int 1))) .non)) (.cons [] (.ret (.var 3))
  .nil) .nil)
  (.cons [] (.ret (.call 13 (.cons false (.var 0) (.cons false (.var 1) (.cons false (.var 3) .nil)))))
  .nil))))
def ir_after_of : SL := (.cons [] (.set 2 (.lst .nil))
  (.cons [] (.fr (.tp [3, 4]) (.enum (.var 1)) (.cons [] (.ite (.cmp .isN (.var 4) .non) (.cons [] (.app 2 (.ite (.cmp .isN (.ix (.var 0) (.var 3)) .non) .non (.call 13 (.cons false (.var 0) (.cons false (.var 1) (.cons false (.bin .add (.var 3) (.int 1)) .nil))))))
  .nil) (.cons [] (.app 2 (.ite (.cmp .ge (.var 4) (.int 0)) (.var 4) (.call 13 (.cons false (.var 0) (.cons false (.var 1) (.cons false (.bin .sub (.int 0) (.var 4)) .nil))))))
  .nil))
  .nil))
  (.cons [] (.ret (.f1 .tuple (.var 2)))
  .nil)))
def ir_need_two : SL := (.cons [] (.drop (.call 8 (.cons false (.var 0) .nil)))
  (.cons [] (.ite (.or (.not (.call 7 (.cons false (.var 1) .nil))) (.cmp .ne (.f1 .len (.var 1)) (.f1 .len (.var 0)))) (.cons [] .fail
  .nil) .nil)
  .nil))
def ir_after : SL := (.cons [] (.drop (.call 15 (.cons false (.var 0) (.cons false (.var 1) .nil))))
  (.cons [] (.ret (.call 14 (.cons false (.var 0) (.cons false (.var 1) .nil))))
  .nil))
def ir_plain_of : SL := (.cons [] (.set 1 (.bin .sub (.f1 .len (.var 0)) (.f1 .len (.call 9 (.cons false (.var 0) .nil)))))
  (.cons [] (.set 2 (.lc [("one", 3)] (.nm 3) (.seq (.var 0)) (.and (.cmp .isNotN (.var 3) .non) (.cmp .lt (.var 3) (.int 0))) (.var 3)))
  (.cons [] (.ite (.or (.cmp .gt (.var 1) (.int 1)) (.and (.cmp .eq (.var 1) (.int 1)) (.var 2))) (.cons [] (.ret (.var 0))
  .nil) .nil)
  (.cons [] (.ret (.f1 .tuple (.lc [("one", 3)] (.nm 3) (.seq (.var 0)) (.bl true) (.ite (.or (.cmp .isN (.var 3) .non) (.cmp .lt (.var 3) (.int 0))) (.int 0) (.var 3)))))
  .nil))))
def ir_same_deed : SL := (.cons [] (.drop (.call 15 (.cons false (.var 0) (.cons false (.var 1) .nil))))
  (.cons [] (.ret (.cmp .eq (.call 17 (.cons false (.var 0) .nil)) (.call 17 (.cons false (.var 1) .nil))))
  .nil))
def ir_need_told : SL := (.cons [] (.drop (.call 15 (.cons false (.var 0) (.cons false (.var 1) .nil))))
  (.cons [] (.ite (.cmp .gt (.f1 .len (.var 0)) (.gi "MOST_TOLD" 5)) (.cons [] .fail
  .nil) .nil)
  .nil))
def ir_telling : SL := (.cons [] (.drop (.call 19 (.cons false (.var 0) (.cons false (.var 1) .nil))))
  (.cons [] (.fr (.nm 2) (.seq (.call 3 (.cons false (.f1 .len (.var 0)) .nil))) (.cons [] (.ite (.cmp .ne (.call 11 (.cons false (.var 0) (.cons false (.var 2) .nil))) (.call 11 (.cons false (.var 1) (.cons false (.var 2) .nil)))) (.cons [] (.ret (.var 2))
  .nil) .nil)
  .nil))
  (.cons [] (.ret .non)
  .nil)))
def ir_shows_telling : SL := (.cons [] (.drop (.call 19 (.cons false (.var 0) (.cons false (.var 1) .nil))))
  (.cons [] (.ite (.cmp .isN (.var 2) .non) (.cons [] (.ret (.cmp .eq (.call 17 (.cons false (.var 0) .nil)) (.call 17 (.cons false (.var 1) .nil))))
  .nil) .nil)
  (.cons [] (.ite (.or (.not (.call 2 (.cons false (.var 2) .nil))) (.cmp .ne (.f1 .len (.var 2)) (.f1 .len (.var 0)))) (.cons [] (.ret (.bl false))
  .nil) .nil)
  (.cons [] (.ret (.cmp .ne (.call 11 (.cons false (.var 0) (.cons false (.var 2) .nil))) (.call 11 (.cons false (.var 1) (.cons false (.var 2) .nil)))))
  .nil))))
def ir_plain_naming : SL := (.cons [] (.drop (.call 8 (.cons false (.var 0) .nil)))
  (.cons [] (.ret (.call 17 (.cons false (.var 0) .nil)))
  .nil))
def ir_forgets : SL := (.cons [] (.drop (.call 8 (.cons false (.var 0) .nil)))
  (.cons [] (.set 1 (.call 17 (.cons false (.var 0) .nil)))
  (.cons [] (.ret (.not (.g .any [("one", 2)] (.nm 2) (.seq (.var 1)) (.or (.cmp .isN (.var 2) .non) (.cmp .lt (.var 2) (.int 0))))))
  .nil)))
def ir_law_pick : SL := (.cons [] (.ret (.ix (.var 1) (.take 0 (.f1 .len (.var 1)))))
  .nil)
def ir_law_alike : SL := (.cons [] (.ite (.isi (.var 1) ["tuple", "list"]) (.cons [] (.ite (.or (.not (.isi (.var 0) ["tuple", "list"])) (.cmp .ne (.isi (.var 0) ["list"]) (.isi (.var 1) ["list"]))) (.cons [] (.ret (.bl false))
  .nil) .nil)
  (.cons [] (.ite (.cmp .ne (.f1 .len (.var 0)) (.f1 .len (.var 1))) (.cons [] (.ret (.bl false))
  .nil) .nil)
  (.cons [] (.ret (.cmp .eq (.lc [("_law_k", 2)] (.nm 2) (.r1 (.f1 .len (.var 1))) (.not (.call 25 (.cons false (.ix (.var 0) (.var 2)) (.cons false (.ix (.var 1) (.var 2)) .nil)))) (.var 2)) (.lst .nil)))
  .nil))) .nil)
  (.cons [] (.ite (.or (.cmp .isN (.var 1) .non) (.isi (.var 1) ["str"])) (.cons [] (.ret (.and (.cmp .eq (.var 0) (.var 1)) (.cmp .eq (.isi (.var 0) ["str"]) (.isi (.var 1) ["str"]))))
  .nil) .nil)
  (.cons [] (.ret (.and (.isi (.var 0) ["int"]) (.and (.cmp .eq (.isi (.var 0) ["bool"]) (.isi (.var 1) ["bool"])) (.cmp .eq (.var 0) (.var 1)))))
  .nil)))
def ir_law_step : SL := (.cons [] (.unp [4, 5] (.var 1))
  (.cons [] (.set 2 (.lst .nil))
  (.cons [] (.fr (.nm 3) (.r1 (.f1 .len (.var 0))) (.cons [] (.app 2 (.ite (.cmp .eq (.bin .add (.var 3) (.int 1)) (.var 4)) (.var 5) (.ite (.cmp .eq (.ix (.var 0) (.var 3)) (.var 4)) (.ix (.var 0) (.bin .sub (.var 4) (.int 1))) (.ix (.var 0) (.var 3)))))
  .nil))
  (.cons [] (.ret (.f1 .tuple (.var 2)))
  .nil))))
def ir_law_done : SL := (.cons [] (.fr (.nm 2) (.seq (.var 1)) (.cons [] (.set 0 (.call 26 (.cons false (.var 0) (.cons false (.var 2) .nil))))
  .nil))
  (.cons [] (.ret (.var 0))
  .nil))
def ir_law_steps : SL := (.cons [] (.set 1 (.lst .nil))
  (.cons [] (.fr (.nm 2) (.r2 (.int 1) (.bin .add (.var 0) (.int 1))) (.cons [] (.set 1 (.bin .add (.var 1) (.lc [("_law_chief", 3)] (.nm 3) (.r1 (.bin .add (.var 0) (.int 1))) (.cmp .ne (.var 3) (.var 2)) (.tup (.cons false (.var 2) (.cons false (.var 3) .nil))))))
  .nil))
  (.cons [1] (.ret (.var 1))
  .nil)))
def ir_law_row : SL := (.cons [] (.ite (.cmp .eq (.var 1) (.int 1)) (.cons [] (.ret (.bin .mul (.tup (.cons false (.tup (.cons false (.int 1) (.cons false (.int 0) .nil))) .nil)) (.take 0 (.bin .add (.var 2) (.int 1)))))
  .nil) .nil)
  (.cons [] (.set 3 (.call 28 (.cons false (.var 1) .nil)))
  (.cons [] (.ret (.f1 .tuple (.lc [("_law_k", 4)] (.nm 4) (.r1 (.take 0 (.bin .add (.var 2) (.int 1)))) (.bl true) (.call 24 (.cons false (.var 0) (.cons false (.var 3) .nil))))))
  .nil)))
def ir_law_above : SL := (.cons [] (.set 2 (.lst .nil))
  (.cons [] (.fr (.nm 3) (.r1 (.f1 .len (.var 0))) (.cons [] (.set 1 (.ite (.cmp .ne (.var 1) (.int 0)) (.ix (.var 0) (.bin .sub (.var 1) (.int 1))) (.int 0)))
  (.cons [] (.set 2 (.bin .add (.var 2) (.bin .mul (.lst (.cons false (.var 1) .nil)) (.f1 .int (.cmp .ne (.var 1) (.int 0))))))
  .nil)))
  (.cons [2] (.ret (.var 2))
  .nil)))
def ir_law_is_chart : SL := (.cons [] (.fr (.nm 1) (.r2 (.int 1) (.bin .add (.f1 .len (.var 0)) (.int 1))) (.cons [] (.set 2 (.var 1))
  (.cons [] (.fr (.nm 3) (.r1 (.f1 .len (.var 0))) (.cons [] (.set 2 (.ite (.cmp .ne (.var 2) (.int 0)) (.ix (.var 0) (.bin .sub (.var 2) (.int 1))) (.int 0)))
  .nil))
  (.cons [] (.ite (.cmp .ne (.var 2) (.int 0)) (.cons [] (.ret (.bl false))
  .nil) .nil)
  .nil))))
  (.cons [] (.ret (.bl true))
  .nil))
def ir_law_charts : SL := (.cons [] (.set 1 (.lst (.cons false (.tup .nil) .nil)))
  (.cons [] (.fr (.nm 2) (.r1 (.var 0)) (.cons [] (.set 3 (.lst .nil))
  (.cons [1] (.fr (.nm 4) (.seq (.var 1)) (.cons [] (.set 3 (.bin .add (.var 3) (.lc [("_law_chief", 5)] (.nm 5) (.r1 (.bin .add (.var 0) (.int 1))) (.bl true) (.bin .add (.var 4) (.tup (.cons false (.var 5) .nil))))))
  .nil))
  (.cons [3] (.set 1 (.var 3))
  .nil))))
  (.cons [] (.ret (.lc [("_law_one", 4)] (.nm 4) (.seq (.var 1)) (.call 31 (.cons false (.var 4) .nil)) (.var 4)))
  .nil)))
def ir_law_chart : SL := (.cons [] (.par [3, 4, 5] (.cons false (.lc [("_law_k", 7)] (.nm 7) (.r1 (.var 1)) (.bl true) (.bin .add (.var 7) (.int 1))) (.cons false (.bin .mul (.lst (.cons false (.int 0) .nil)) (.var 1)) (.cons false (.lst (.cons false (.int 0) .nil)) .nil))))
  (.cons [] (.fr (.nm 2) (.r1 (.var 1)) (.cons [] (.set 6 (.call 24 (.cons false (.var 0) (.cons false (.var 3) .nil))))
  (.cons [] (.put 4 (.bin .sub (.var 6) (.int 1)) (.call 24 (.cons false (.var 0) (.cons false (.var 5) .nil))))
  (.cons [] (.app 5 (.var 6))
  (.cons [] (.set 3 (.lc [("_law_one", 8)] (.nm 8) (.seq (.var 3)) (.cmp .ne (.var 8) (.var 6)) (.var 8)))
  .nil)))))
  (.cons [] (.ret (.f1 .tuple (.var 4)))
  .nil)))
def ir_law_up : SL := (.cons [] (.fr (.nm 3) (.r1 (.bin .add (.f1 .len (.var 0)) (.int 1))) (.cons [] (.set 4 (.ix (.var 0) (.bin .sub (.var 2) (.int 1))))
  (.cons [] (.ite (.cmp .isN (.var 4) .non) (.cons [] (.ret (.bin .sub (.int 0) (.var 2)))
  .nil) .nil)
  (.cons [] (.ite (.or (.cmp .le (.var 4) (.int 0)) (.cmp .isN (.ix (.var 1) (.bin .sub (.var 4) (.int 1))) .non)) (.cons [] (.ret (.var 4))
  .nil) .nil)
  (.cons [] (.set 2 (.var 4))
  .nil)))))
  (.cons [] (.ret .non)
  .nil))
def ir_law_after : SL := (.cons [] (.set 2 (.lst .nil))
  (.cons [] (.fr (.nm 3) (.r1 (.f1 .len (.var 0))) (.cons [] (.set 4 (.ix (.var 1) (.var 3)))
  (.cons [] (.ite (.cmp .isN (.var 4) .non) (.cons [] (.app 2 (.ite (.cmp .isN (.ix (.var 0) (.var 3)) .non) .non (.call 34 (.cons false (.var 0) (.cons false (.var 1) (.cons false (.bin .add (.var 3) (.int 1)) .nil))))))
  .nil) (.cons [] (.app 2 (.ite (.cmp .ge (.var 4) (.int 0)) (.var 4) (.call 34 (.cons false (.var 0) (.cons false (.var 1) (.cons false (.bin .sub (.int 0) (.var 4)) .nil))))))
  .nil))
  .nil)))
  (.cons [] (.ret (.f1 .tuple (.var 2)))
  .nil)))
def ir_law_naming : SL := (.cons [] (.set 2 (.bin .mul (.tup (.cons false .non .nil)) (.var 0)))
  (.cons [] (.fr (.tp [3, 4]) (.seq (.var 1)) (.cons [2] (.set 2 (.call 35 (.cons false (.var 2) (.cons false (.f1 .tuple (.lc [("_law_k", 5)] (.nm 5) (.r1 (.var 0)) (.bl true) (.ite (.cmp .eq (.bin .add (.var 5) (.int 1)) (.var 3)) (.var 4) .non))) .nil))))
  .nil))
  (.cons [2] (.ret (.var 2))
  .nil)))
def ir_law_near : SL := (.cons [] (.set 3 (.lc [("_law_one", 4)] (.nm 4) (.seq (.call 30 (.cons false (.var 0) (.cons false (.var 1) .nil)))) (.cmp .isin (.var 4) (.var 2)) (.var 4)))
  (.cons [] (.ret (.ite (.cmp .ne (.var 3) (.lst .nil)) (.ix (.var 3) (.int 0)) (.int 0)))
  .nil))
def ir_law_named : SL := (.cons [] (.par [3, 4] (.cons false (.lc [("_law_k", 2)] (.nm 2) (.r1 (.f1 .len (.var 1))) (.cmp .isN (.ix (.var 0) (.var 2)) .non) (.bin .add (.var 2) (.int 1))) (.cons false (.lst .nil) .nil)))
  (.cons [] (.fr (.nm 2) (.r1 (.f1 .len (.var 1))) (.cons [] (.ite (.and (.cmp .isNotN (.ix (.var 0) (.var 2)) .non) (.cmp .ge (.ix (.var 0) (.var 2)) (.int 0))) (.cons [] (.app 4 (.ix (.var 0) (.var 2)))
  .nil) (.cons [3] (.app 4 (.call 37 (.cons false (.var 1) (.cons false (.ite (.cmp .isN (.ix (.var 0) (.var 2)) .non) (.bin .add (.var 2) (.int 1)) (.bin .sub (.int 0) (.ix (.var 0) (.var 2)))) (.cons false (.var 3) .nil)))))
  .nil))
  .nil))
  (.cons [] (.ret (.f1 .tuple (.var 4)))
  .nil)))
def ir_law_any : SL := (.cons [] (.par [4, 5, 6] (.cons false (.lc [("_law_k", 9)] (.nm 9) (.r1 (.var 1)) (.cmp .gt (.take 0 (.int 3)) (.int 0)) (.bin .add (.var 9) (.int 1))) (.cons false (.bin .mul (.lst (.cons false .non .nil)) (.var 1)) (.cons false (.lst (.cons false (.int 0) .nil)) .nil))))
  (.cons [] (.set 2 (.lc [("_law_k", 9)] (.nm 9) (.r1 (.var 1)) (.cmp .notin (.bin .add (.var 9) (.int 1)) (.var 4)) (.bin .add (.var 9) (.int 1))))
  (.cons [4] (.par [7, 6] (.cons false (.var 4) (.cons false (.bin .add (.var 6) (.var 2)) .nil)))
  (.cons [] (.fr (.nm 3) (.r1 (.f1 .len (.var 4))) (.cons [] (.set 8 (.call 24 (.cons false (.var 0) (.cons false (.var 7) .nil))))
  (.cons [] (.put 5 (.bin .sub (.var 8) (.int 1)) (.call 24 (.cons false (.var 0) (.cons false (.bin .add (.var 6) (.lc [("_law_one", 10)] (.nm 10) (.seq (.var 4)) (.bl true) (.bin .sub (.int 0) (.var 10)))) .nil))))
  (.cons [] (.par [6, 7] (.cons false (.bin .add (.var 6) (.lst (.cons false (.var 8) .nil))) (.cons false (.lc [("_law_one", 10)] (.nm 10) (.seq (.var 7)) (.cmp .ne (.var 10) (.var 8)) (.var 10)) .nil)))
  .nil))))
  (.cons [] (.ret (.f1 .tuple (.var 5)))
  .nil)))))
def ir_law : SL := (.cons [1] (.set 2 (.bin .add (.int 1) (.take 1 (.int 5))))
  (.cons [1, 2] (.par [6, 7, 8] (.cons false (.call 39 (.cons false (.var 1) (.cons false (.var 2) .nil))) (.cons false (.call 33 (.cons false (.var 1) (.cons false (.var 2) .nil))) (.cons false (.call 39 (.cons false (.var 1) (.cons false (.var 2) .nil))) .nil))))
  (.cons [] (.set 3 (.call 22 (.cons false (.var 6) .nil)))
  (.cons [] (.ite (.or (.cmp .ne (.call 12 (.cons false (.var 3) (.cons false (.var 7) .nil))) (.call 12 (.cons false (.var 6) (.cons false (.var 7) .nil)))) (.or (.cmp .ne (.call 22 (.cons false (.var 3) .nil)) (.var 3)) (.cmp .notB (.call 18 (.cons false (.var 6) (.cons false (.var 3) .nil))) (.bl true)))) (.cons [] (.ret (.bl false))
  .nil) .nil)
  (.cons [] (.set 4 (.bin .sub (.var 2) (.f1 .len (.call 10 (.cons false (.var 6) .nil)))))
  (.cons [] (.ite (.or (.and (.cmp .gt (.var 4) (.int 1)) (.cmp .ne (.var 3) (.var 6))) (.and (.cmp .gt (.var 4) (.int 1)) (.call 23 (.cons false (.var 6) .nil)))) (.cons [] (.ret (.bl false))
  .nil) .nil)
  (.cons [] (.ite (.or (.and (.cmp .eq (.var 4) (.int 0)) (.not (.call 23 (.cons false (.var 6) .nil)))) (.and (.call 23 (.cons false (.var 6) .nil)) (.cmp .ne (.f1 .len (.call 10 (.cons false (.var 3) .nil))) (.var 2)))) (.cons [] (.ret (.bl false))
  .nil) .nil)
  (.cons [] (.ite (.or (.cmp .notB (.call 18 (.cons false (.call 16 (.cons false (.var 6) (.cons false (.var 8) .nil))) (.cons false (.call 16 (.cons false (.var 3) (.cons false (.var 8) .nil))) .nil))) (.bl true)) (.cmp .notB (.call 18 (.cons false (.call 16 (.cons false (.var 8) (.cons false (.var 6) .nil))) (.cons false (.call 16 (.cons false (.var 8) (.cons false (.var 3) .nil))) .nil))) (.bl true))) (.cons [] (.ret (.bl false))
  .nil) .nil)
  (.cons [] (.ite (.and (.call 23 (.cons false (.var 6) .nil)) (.or (.not (.call 23 (.cons false (.call 16 (.cons false (.var 6) (.cons false (.var 8) .nil))) .nil))) (.not (.call 23 (.cons false (.call 16 (.cons false (.var 8) (.cons false (.var 6) .nil))) .nil))))) (.cons [] (.ret (.bl false))
  .nil) .nil)
  (.cons [] (.ite (.cmp .gt (.var 2) (.int 4)) (.cons [] (.ret (.bl true))
  .nil) .nil)
  (.cons [] (.set 5 (.call 20 (.cons false (.var 6) (.cons false (.var 8) .nil))))
  (.cons [] (.ite (.or (.cmp .ne (.cmp .isN (.var 5) .non) (.call 18 (.cons false (.var 6) (.cons false (.var 8) .nil)))) (.cmp .notB (.call 21 (.cons false (.var 6) (.cons false (.var 8) (.cons false (.var 5) .nil)))) (.bl true))) (.cons [] (.ret (.bl false))
  .nil) .nil)
  (.cons [] (.ret (.or (.cmp .isN (.var 5) .non) (.cmp .ne (.call 12 (.cons false (.var 6) (.cons false (.var 5) .nil))) (.call 12 (.cons false (.var 8) (.cons false (.var 5) .nil))))))
  .nil)))))))))))))
def i_is_in : DI := ⟨dd 7, ["value", "least", "most"], false, ⟨3, 3, ir_is_in⟩⟩
def i_comes_up : DI := ⟨dd 8, ["chiefs", "person", "here", "many"], false, ⟨1, 4, ir_comes_up⟩⟩
def i_is_chart : DI := ⟨dd 9, ["value", "one"], true, ⟨1, 2, ir_is_chart⟩⟩
def i_all_charts : DI := ⟨dd 10, ["size", "found", "person", "more", "chiefs", "chief"], false, ⟨1, 6, ir_all_charts⟩⟩
def i_chain : DI := ⟨dd 12, ["chart", "person", "found", "here"], false, ⟨2, 4, ir_chain⟩⟩
def i_nearest_of : DI := ⟨dd 13, ["chart", "person", "people", "one"], false, ⟨3, 4, ir_nearest_of⟩⟩
def i_goes_round : DI := ⟨dd 15, ["naming", "person", "here", "many"], false, ⟨1, 4, ir_goes_round⟩⟩
def i_is_naming : DI := ⟨dd 16, ["value", "size", "at", "one"], false, ⟨1, 4, ir_is_naming⟩⟩
def i_need_naming : DI := ⟨dd 17, ["naming"], false, ⟨1, 1, ir_need_naming⟩⟩
def i_movers_of : DI := ⟨dd 18, ["naming", "at", "one"], false, ⟨1, 3, ir_movers_of⟩⟩
def i_movers : DI := ⟨dd 19, ["naming"], false, ⟨1, 1, ir_movers⟩⟩
def i_named_of : DI := ⟨dd 20, ["naming", "chart", "stays", "found", "at", "one"], false, ⟨2, 6, ir_named_of⟩⟩
def i_named : DI := ⟨dd 21, ["naming", "chart"], false, ⟨2, 2, ir_named⟩⟩
def i_up : DI := ⟨dd 22, ["one", "other", "person", "chief"], false, ⟨3, 4, ir_up⟩⟩
def i_after_of : DI := ⟨dd 23, ["one", "other", "found", "at", "chief"], false, ⟨2, 5, ir_after_of⟩⟩
def i_need_two : DI := ⟨dd 24, ["one", "other"], false, ⟨2, 2, ir_need_two⟩⟩
def i_after : DI := ⟨dd 25, ["one", "other"], false, ⟨2, 2, ir_after⟩⟩
def i_plain_of : DI := ⟨dd 28, ["naming", "stay", "olds", "one"], false, ⟨1, 4, ir_plain_of⟩⟩
def i_same_deed : DI := ⟨dd 29, ["one", "other"], false, ⟨2, 2, ir_same_deed⟩⟩
def i_need_told : DI := ⟨dd 30, ["one", "other"], false, ⟨2, 2, ir_need_told⟩⟩
def i_telling : DI := ⟨dd 31, ["one", "other", "chart"], false, ⟨2, 3, ir_telling⟩⟩
def i_shows_telling : DI := ⟨dd 32, ["one", "other", "value"], false, ⟨3, 3, ir_shows_telling⟩⟩
def i_plain_naming : DI := ⟨dd 33, ["naming"], false, ⟨1, 1, ir_plain_naming⟩⟩
def i_forgets : DI := ⟨dd 34, ["naming", "plain", "one"], true, ⟨1, 3, ir_forgets⟩⟩
def i_law_pick : DI := ⟨dd 37, ["_law_row_here", "_law_things"], false, ⟨2, 2, ir_law_pick⟩⟩
def i_law_alike : DI := ⟨dd 38, ["_law_found", "_law_due", "_law_k"], false, ⟨2, 3, ir_law_alike⟩⟩
def i_law_step : DI := ⟨dd 39, ["_law_chart_here", "_law_step_here", "_law_found", "_law_k", "_law_person", "_law_chief"], false, ⟨2, 6, ir_law_step⟩⟩
def i_law_done : DI := ⟨dd 40, ["_law_chart_here", "_law_steps_here", "_law_step_here"], false, ⟨2, 3, ir_law_done⟩⟩
def i_law_steps : DI := ⟨dd 41, ["_law_size", "_law_found", "_law_person", "_law_chief"], false, ⟨1, 4, ir_law_steps⟩⟩
def i_law_row : DI := ⟨dd 42, ["_law_row_here", "_law_size", "_law_most", "_law_steps_here", "_law_k"], false, ⟨3, 5, ir_law_row⟩⟩
def i_law_above : DI := ⟨dd 43, ["_law_chart_here", "_law_person", "_law_found", "_law_turn"], false, ⟨2, 4, ir_law_above⟩⟩
def i_law_is_chart : DI := ⟨dd 44, ["_law_value", "_law_person", "_law_here", "_law_turn"], false, ⟨1, 4, ir_law_is_chart⟩⟩
def i_law_charts : DI := ⟨dd 45, ["_law_size", "_law_found", "_law_person", "_law_more", "_law_one", "_law_chief"], false, ⟨1, 6, ir_law_charts⟩⟩
def i_law_chart : DI := ⟨dd 46, ["_law_row_here", "_law_size", "_law_turn", "_law_left", "_law_found", "_law_placed", "_law_person", "_law_k", "_law_one"], false, ⟨2, 9, ir_law_chart⟩⟩
def i_law_up : DI := ⟨dd 47, ["_law_one", "_law_other", "_law_person", "_law_turn", "_law_chief"], false, ⟨3, 5, ir_law_up⟩⟩
def i_law_after : DI := ⟨dd 48, ["_law_one", "_law_other", "_law_found", "_law_k", "_law_chief"], false, ⟨2, 5, ir_law_after⟩⟩
def i_law_naming : DI := ⟨dd 49, ["_law_size", "_law_steps_here", "_law_found", "_law_person", "_law_chief", "_law_k"], false, ⟨2, 6, ir_law_naming⟩⟩
def i_law_near : DI := ⟨dd 50, ["_law_chart_here", "_law_person", "_law_people", "_law_some", "_law_one"], false, ⟨3, 5, ir_law_near⟩⟩
def i_law_named : DI := ⟨dd 51, ["_law_told_one", "_law_chart_here", "_law_k", "_law_stays", "_law_found"], false, ⟨2, 5, ir_law_named⟩⟩
def i_law_any : DI := ⟨dd 52, ["_law_row_here", "_law_size", "_law_stays", "_law_turn", "_law_moved", "_law_found", "_law_placed", "_law_left", "_law_person", "_law_k", "_law_one"], false, ⟨2, 11, ir_law_any⟩⟩
def i_law : DI := ⟨dd 53, ["_law_script", "_law_row_here", "_law_size", "_law_plain", "_law_stay", "_law_found", "_law_one", "_law_start", "_law_third"], false, ⟨1, 9, ir_law⟩⟩
def infos : List DI := [i_is_in, i_comes_up, i_is_chart, i_all_charts, i_chain, i_nearest_of, i_goes_round, i_is_naming, i_need_naming, i_movers_of, i_movers, i_named_of, i_named, i_up, i_after_of, i_need_two, i_after, i_plain_of, i_same_deed, i_need_told, i_telling, i_shows_telling, i_plain_naming, i_forgets, i_law_pick, i_law_alike, i_law_step, i_law_done, i_law_steps, i_law_row, i_law_above, i_law_is_chart, i_law_charts, i_law_chart, i_law_up, i_law_after, i_law_naming, i_law_near, i_law_named, i_law_any]
def pz : Pos := ⟨0, 0, 0, 0⟩
def D : LD := { infos := infos, law := i_law, tk := dd 36, gi := [("MOST_PEOPLE", 6), ("MOST_TOLD", 5)], n := 12, ri := 1, x := "_law_row_here", seed := 13735, q := fun k => ([⟨266, 4, 266, 17⟩, ⟨266, 21, 266, 32⟩, ⟨266, 34, 266, 35⟩, ⟨266, 37, 266, 42⟩, ⟨266, 44, 266, 45⟩, ⟨266, 20, 266, 46⟩, ⟨266, 4, 266, 46⟩] : List Pos).getD k pz, qt := fun k => ([⟨147, 7, 147, 20⟩, ⟨147, 21, 147, 22⟩, ⟨147, 7, 147, 23⟩, ⟨147, 26, 147, 27⟩, ⟨147, 7, 147, 27⟩, ⟨148, 8, 148, 18⟩, ⟨148, 21, 148, 24⟩, ⟨148, 25, 148, 38⟩, ⟨148, 39, 148, 40⟩, ⟨148, 25, 148, 41⟩, ⟨148, 21, 148, 42⟩, ⟨148, 45, 148, 54⟩, ⟨148, 21, 148, 54⟩, ⟨148, 8, 148, 54⟩, ⟨149, 8, 149, 21⟩, ⟨149, 22, 149, 23⟩, ⟨149, 8, 149, 24⟩, ⟨149, 27, 149, 40⟩, ⟨149, 41, 149, 42⟩, ⟨149, 27, 149, 43⟩, ⟨149, 47, 149, 56⟩, ⟨149, 27, 149, 56⟩, ⟨149, 8, 149, 56⟩, ⟨150, 15, 150, 25⟩, ⟨150, 8, 150, 25⟩, ⟨147, 4, 150, 25⟩, ⟨151, 4, 151, 17⟩, ⟨151, 18, 151, 19⟩, ⟨151, 4, 151, 20⟩, ⟨151, 23, 151, 36⟩, ⟨151, 37, 151, 38⟩, ⟨151, 23, 151, 39⟩, ⟨151, 42, 151, 43⟩, ⟨151, 23, 151, 43⟩, ⟨151, 4, 151, 43⟩, ⟨152, 7, 152, 20⟩, ⟨152, 21, 152, 22⟩, ⟨152, 7, 152, 23⟩, ⟨152, 26, 152, 29⟩, ⟨152, 30, 152, 43⟩, ⟨152, 44, 152, 45⟩, ⟨152, 30, 152, 46⟩, ⟨152, 26, 152, 47⟩, ⟨152, 7, 152, 47⟩, ⟨153, 8, 153, 21⟩, ⟨153, 22, 153, 23⟩, ⟨153, 8, 153, 24⟩, ⟨153, 27, 153, 30⟩, ⟨153, 31, 153, 44⟩, ⟨153, 45, 153, 46⟩, ⟨153, 31, 153, 47⟩, ⟨153, 50, 153, 55⟩, ⟨153, 31, 153, 55⟩, ⟨153, 58, 153, 60⟩, ⟨153, 31, 153, 60⟩, ⟨153, 27, 153, 61⟩, ⟨153, 64, 153, 74⟩, ⟨153, 27, 153, 74⟩, ⟨153, 8, 153, 74⟩, ⟨154, 15, 154, 18⟩, ⟨154, 19, 154, 32⟩, ⟨154, 33, 154, 34⟩, ⟨154, 19, 154, 35⟩, ⟨154, 39, 154, 40⟩, ⟨154, 19, 154, 40⟩, ⟨154, 15, 154, 41⟩, ⟨154, 44, 154, 53⟩, ⟨154, 15, 154, 53⟩, ⟨154, 8, 154, 53⟩, ⟨152, 4, 154, 53⟩, ⟨155, 4, 155, 13⟩, ⟨155, 16, 155, 29⟩, ⟨155, 30, 155, 31⟩, ⟨155, 16, 155, 32⟩, ⟨155, 33, 155, 46⟩, ⟨155, 47, 155, 48⟩, ⟨155, 33, 155, 49⟩, ⟨155, 52, 155, 53⟩, ⟨155, 33, 155, 53⟩, ⟨155, 16, 155, 54⟩, ⟨155, 4, 155, 54⟩, ⟨156, 4, 156, 17⟩, ⟨156, 18, 156, 19⟩, ⟨156, 4, 156, 20⟩, ⟨156, 23, 156, 26⟩, ⟨156, 27, 156, 40⟩, ⟨156, 41, 156, 42⟩, ⟨156, 27, 156, 43⟩, ⟨156, 46, 156, 51⟩, ⟨156, 27, 156, 51⟩, ⟨156, 54, 156, 63⟩, ⟨156, 27, 156, 63⟩, ⟨156, 66, 156, 68⟩, ⟨156, 27, 156, 68⟩, ⟨156, 23, 156, 69⟩, ⟨156, 72, 156, 82⟩, ⟨156, 23, 156, 82⟩, ⟨156, 4, 156, 82⟩, ⟨157, 7, 157, 16⟩, ⟨157, 20, 157, 22⟩, ⟨157, 26, 157, 28⟩, ⟨157, 20, 157, 28⟩, ⟨157, 7, 157, 28⟩, ⟨158, 8, 158, 21⟩, ⟨158, 22, 158, 23⟩, ⟨158, 8, 158, 24⟩, ⟨158, 27, 158, 36⟩, ⟨158, 40, 158, 49⟩, ⟨158, 27, 158, 49⟩, ⟨158, 8, 158, 49⟩, ⟨157, 4, 158, 49⟩, ⟨159, 11, 159, 14⟩, ⟨159, 15, 159, 24⟩, ⟨159, 11, 159, 25⟩, ⟨159, 28, 159, 37⟩, ⟨159, 11, 159, 37⟩, ⟨159, 4, 159, 37⟩] : List Pos).getD k pz, rest := (dd 53).body.drop 1 }
abbrev R : PySem.W.OpenRow := PySem.W.OpenLaw.row lw
abbrev hk : PySem.W.Hook := He.hookX 6 D.fa D.fn [] D.tf (fun _ => true)
def ob (s : PySem.W.SharedT) : He.AlX := He.obsX 6 D.fa D.fn [] D.tf (fun _ => true) (HandSHeadRun.getT s)
theorem ob_eq (s : PySem.W.SharedT) : ob s = hk.obs s.abs := He.obsX_eq (HandSHeadRun.getT_eq s)
def names : List Str := (["ChiefError", "BadChart", "BadNaming", "TooMany", "MOST_PEOPLE", "is_in", "comes_up", "is_chart", "all_charts", "chain", "nearest_of", "goes_round", "is_naming", "need_naming", "movers_of", "movers", "named_of", "named", "up", "after_of", "need_two", "after", "MOST_TOLD", "plain_of", "same_deed", "need_told", "telling", "shows_telling", "plain_naming", "forgets"] : List Str) ++ (["_law_taken", "_law_pick", "_law_alike", "_law_step", "_law_done", "_law_steps", "_law_row", "_law_above", "_law_is_chart", "_law_charts", "_law_chart", "_law_up", "_law_after", "_law_naming", "_law_near", "_law_named", "_law_any"] : List Str)
theorem run (w : World) : HandSHeadRun.RunEq R (PySem.W.view R.prog [53]) hk ob 4000 names w := by
  intro os
  kernel_rfl
theorem chk : D.chk = true := by decide +kernel
theorem binds : ∀ i ∈ D.infos, LD.Binds i.d i.ps := List.forall_mem_cons.mpr ⟨fun _ _ _ _ _ _ us hl => match us, hl with | [_, _, _], _ => rfl, List.forall_mem_cons.mpr ⟨fun _ _ _ _ _ _ us hl => match us, hl with | [_], _ => rfl, List.forall_mem_cons.mpr ⟨fun _ _ _ _ _ _ us hl => match us, hl with | [_], _ => rfl, List.forall_mem_cons.mpr ⟨fun _ _ _ _ _ _ us hl => match us, hl with | [_], _ => rfl, List.forall_mem_cons.mpr ⟨fun _ _ _ _ _ _ us hl => match us, hl with | [_, _], _ => rfl, List.forall_mem_cons.mpr ⟨fun _ _ _ _ _ _ us hl => match us, hl with | [_, _, _], _ => rfl, List.forall_mem_cons.mpr ⟨fun _ _ _ _ _ _ us hl => match us, hl with | [_], _ => rfl, List.forall_mem_cons.mpr ⟨fun _ _ _ _ _ _ us hl => match us, hl with | [_], _ => rfl, List.forall_mem_cons.mpr ⟨fun _ _ _ _ _ _ us hl => match us, hl with | [_], _ => rfl, List.forall_mem_cons.mpr ⟨fun _ _ _ _ _ _ us hl => match us, hl with | [_], _ => rfl, List.forall_mem_cons.mpr ⟨fun _ _ _ _ _ _ us hl => match us, hl with | [_], _ => rfl, List.forall_mem_cons.mpr ⟨fun _ _ _ _ _ _ us hl => match us, hl with | [_, _], _ => rfl, List.forall_mem_cons.mpr ⟨fun _ _ _ _ _ _ us hl => match us, hl with | [_, _], _ => rfl, List.forall_mem_cons.mpr ⟨fun _ _ _ _ _ _ us hl => match us, hl with | [_, _, _], _ => rfl, List.forall_mem_cons.mpr ⟨fun _ _ _ _ _ _ us hl => match us, hl with | [_, _], _ => rfl, List.forall_mem_cons.mpr ⟨fun _ _ _ _ _ _ us hl => match us, hl with | [_, _], _ => rfl, List.forall_mem_cons.mpr ⟨fun _ _ _ _ _ _ us hl => match us, hl with | [_, _], _ => rfl, List.forall_mem_cons.mpr ⟨fun _ _ _ _ _ _ us hl => match us, hl with | [_], _ => rfl, List.forall_mem_cons.mpr ⟨fun _ _ _ _ _ _ us hl => match us, hl with | [_, _], _ => rfl, List.forall_mem_cons.mpr ⟨fun _ _ _ _ _ _ us hl => match us, hl with | [_, _], _ => rfl, List.forall_mem_cons.mpr ⟨fun _ _ _ _ _ _ us hl => match us, hl with | [_, _], _ => rfl, List.forall_mem_cons.mpr ⟨fun _ _ _ _ _ _ us hl => match us, hl with | [_, _, _], _ => rfl, List.forall_mem_cons.mpr ⟨fun _ _ _ _ _ _ us hl => match us, hl with | [_], _ => rfl, List.forall_mem_cons.mpr ⟨fun _ _ _ _ _ _ us hl => match us, hl with | [_], _ => rfl, List.forall_mem_cons.mpr ⟨fun _ _ _ _ _ _ us hl => match us, hl with | [_, _], _ => rfl, List.forall_mem_cons.mpr ⟨fun _ _ _ _ _ _ us hl => match us, hl with | [_, _], _ => rfl, List.forall_mem_cons.mpr ⟨fun _ _ _ _ _ _ us hl => match us, hl with | [_, _], _ => rfl, List.forall_mem_cons.mpr ⟨fun _ _ _ _ _ _ us hl => match us, hl with | [_, _], _ => rfl, List.forall_mem_cons.mpr ⟨fun _ _ _ _ _ _ us hl => match us, hl with | [_], _ => rfl, List.forall_mem_cons.mpr ⟨fun _ _ _ _ _ _ us hl => match us, hl with | [_, _, _], _ => rfl, List.forall_mem_cons.mpr ⟨fun _ _ _ _ _ _ us hl => match us, hl with | [_, _], _ => rfl, List.forall_mem_cons.mpr ⟨fun _ _ _ _ _ _ us hl => match us, hl with | [_], _ => rfl, List.forall_mem_cons.mpr ⟨fun _ _ _ _ _ _ us hl => match us, hl with | [_], _ => rfl, List.forall_mem_cons.mpr ⟨fun _ _ _ _ _ _ us hl => match us, hl with | [_, _], _ => rfl, List.forall_mem_cons.mpr ⟨fun _ _ _ _ _ _ us hl => match us, hl with | [_, _, _], _ => rfl, List.forall_mem_cons.mpr ⟨fun _ _ _ _ _ _ us hl => match us, hl with | [_, _], _ => rfl, List.forall_mem_cons.mpr ⟨fun _ _ _ _ _ _ us hl => match us, hl with | [_, _], _ => rfl, List.forall_mem_cons.mpr ⟨fun _ _ _ _ _ _ us hl => match us, hl with | [_, _, _], _ => rfl, List.forall_mem_cons.mpr ⟨fun _ _ _ _ _ _ us hl => match us, hl with | [_, _], _ => rfl, List.forall_mem_cons.mpr ⟨fun _ _ _ _ _ _ us hl => match us, hl with | [_, _], _ => rfl, List.forall_mem_nil _⟩⟩⟩⟩⟩⟩⟩⟩⟩⟩⟩⟩⟩⟩⟩⟩⟩⟩⟩⟩⟩⟩⟩⟩⟩⟩⟩⟩⟩⟩⟩⟩⟩⟩⟩⟩⟩⟩⟩⟩
theorem bindTk : LD.Binds D.tk (takeN.take 2) := fun _ _ _ _ _ _ us hl => match us, hl with | [_, _], _ => rfl
theorem bindLw : LD.Binds D.law.d ["_law_script"] := fun _ _ _ _ _ _ us hl => match us, hl with | [_], _ => rfl
theorem bodyT : D.tk.body = takeBody D.qt := by kernel_rfl
theorem bodyL : D.law.d.body = lawSt D.x D.seed D.q :: D.rest := by kernel_rfl
theorem c_is_in (ns : List Int) (k : Nat) : InOk (cal D.T ns (k + 1)) 0 := fun v a b => cal_ret (T := D.T) rfl rfl rfl (is_in_ok ns _)
theorem c_comes_up (ns : List Int) (k : Nat) : ∀ c, Good c → cal D.T ns (k + 1) 1 [.sh (dT c)] = M.ret (.bool true) := fun c g => cal_ret (T := D.T) rfl rfl rfl (comes_up_ok ns _ g)
theorem c_is_chart (ns : List Int) (k : Nat) : ∀ c, Good c → cal D.T ns (k + 2) 2 [.sh (dT c)] = M.ret (.bool true) := fun c g => cal_ret (T := D.T) rfl rfl rfl (is_chart_ok ns _ g (c_is_in ns k) (c_comes_up ns k c g))
theorem c_all_charts (ns : List Int) (k : Nat) : ∀ n, n ≤ 4 → cal D.T ns (k + 2) 3 [.sh (dN n)] = M.ret (.list (((tups n n).filter upA).map dT)) := fun n hn => cal_ret (T := D.T) rfl rfl rfl (charts0_ok (x := "chief") (y := "chiefs") (f := 1) (fun env t q h4 h5 hl => ext_all h4 h5 hl) hn fun t ht => cal_ret (T := D.T) rfl rfl rfl (comes_up_gen (tups_ent ht) (by have := (tups_mem ht).1; omega)))
theorem c_chain (ns : List Int) (k : Nat) : ChainOk (cal D.T ns (k + 1)) 4 := fun c j g h1 h2 => cal_ret (T := D.T) rfl rfl rfl (chain_ok ns _ g h1 h2)
theorem c_nearest_of (ns : List Int) (k : Nat) : NearOk (cal D.T ns (k + 2)) 5 := fun c lot j g h1 h2 => cal_ret (T := D.T) rfl rfl rfl (nearest_of_ok (c_chain ns k) g h1 h2)
theorem c_nearest_ofL (ns : List Int) (k : Nat) : NearL (cal D.T ns (k + 2)) 5 := fun c lot j g h1 h2 => cal_ret (T := D.T) rfl rfl rfl (nearest_of_gen (c_chain ns k) g h1 h2)
theorem c_goes_round (ns : List Int) (k : Nat) : ∀ v, Nm v → cal D.T ns (k + 1) 6 [.sh (nD v)] = M.ret (.bool false) := fun v g => cal_ret (T := D.T) rfl rfl rfl (goes_round_ok g)
theorem c_is_naming (ns : List Int) (k : Nat) : IsNmOk (cal D.T ns (k + 2)) 7 := fun v g => cal_ret (T := D.T) rfl rfl rfl (is_naming_ok (c_is_in ns k) g (c_goes_round ns k v g))
theorem c_need_naming (ns : List Int) (k : Nat) : NeedNmOk (cal D.T ns (k + 3)) 8 := fun v g => cal_nx (T := D.T) rfl rfl rfl (need_naming_ok (c_is_naming ns k) g)
theorem c_movers_of (ns : List Int) (k : Nat) : ∀ v, v.length ≤ 6 → cal D.T ns (k + 1) 9 [.sh (nD v)] = M.ret (.list (mN (moversS v))) := fun v h6 => cal_ret (T := D.T) rfl rfl rfl (movers_of_ok h6)
theorem c_movers (ns : List Int) (k : Nat) : ∀ v, Nm v → cal D.T ns (k + 4) 10 [.sh (nD v)] = M.ret (dT (moversS v)) := fun v nv => cal_ret (T := D.T) rfl rfl rfl (movers_ok (c_need_naming ns k) nv (c_movers_of ns (k + 2) v nv.six))
theorem c_named_of (ns : List Int) (k : Nat) : NamedOfOk (cal D.T ns (k + 3)) 11 := fun v c nv g hl => cal_ret (T := D.T) rfl rfl rfl (named_of_ok (c_nearest_ofL ns k) nv g hl)
theorem c_named (ns : List Int) (k : Nat) : ∀ v c, Nm v → Good c → c.length = v.length → cal D.T ns (k + 4) 12 [.sh (nD v), .sh (dT c)] = M.ret (dT (namedS v c)) := fun v c nv g hl => cal_ret (T := D.T) rfl rfl rfl (named_ok (c_need_naming ns k) (c_is_chart ns (k + 1)) (c_named_of ns k) nv g hl)
theorem c_up (ns : List Int) (k : Nat) : UpOk (cal D.T ns (k + 7)) 13 7 := fun one other p v h1 h => up_cal (T := D.T) rfl k 7 p v h1 h
theorem c_after_of (ns : List Int) (k : Nat) : AfterOk (cal D.T ns (k + 8)) 14 7 := fun one other r h h6 => cal_ret (T := D.T) rfl rfl rfl (after_of_ok (c_up ns k) h h6)
theorem c_need_two (ns : List Int) (k : Nat) : NeedTwoOk (cal D.T ns (k + 4)) 15 := fun v w g h e => cal_nx (T := D.T) rfl rfl rfl (need_two_ok (c_need_naming ns k) (c_is_naming ns (k + 1)) g h e)
theorem c_after (ns : List Int) (k : Nat) : ∀ v w r, Nm v → Nm w → w.length = v.length → afterO 7 v w = some r → cal D.T ns (k + 9) 16 [.sh (nD v), .sh (nD w)] = M.ret (nD r) := fun v w r g h e hr => cal_ret (T := D.T) rfl rfl rfl (after_ok (c_need_two ns (k + 4)) (c_after_of ns k) g h e hr)
theorem c_plain_of (ns : List Int) (k : Nat) : PlainOk (cal D.T ns (k + 2)) 17 := fun v nv => cal_ret (T := D.T) rfl rfl rfl (plain_of_ok nv (c_movers_of ns k v nv.six))
theorem c_same_deed (ns : List Int) (k : Nat) : ∀ v w, Nm v → Nm w → w.length = v.length → cal D.T ns (k + 5) 18 [.sh (nD v), .sh (nD w)] = M.ret (.bool (decide (plainS v = plainS w))) := fun v w nv nw hl => cal_ret (T := D.T) rfl rfl rfl (same_deed_ok (c_need_two ns k) (c_plain_of ns (k + 2)) nv nw hl)
theorem c_need_told (ns : List Int) (k : Nat) : NeedToldOk (cal D.T ns (k + 5)) 19 := fun v w nv nw hl h5 => cal_nx (T := D.T) rfl rfl rfl (need_told_ok (c_need_two ns k) nv nw hl h5)
theorem c_telling (ns : List Int) (k : Nat) : ∀ v w, Nm v → Nm w → w.length = v.length → v.length ≤ 4 → cal D.T ns (k + 6) 20 [.sh (nD v), .sh (nD w)] = M.ret (optD (tellS v w)) := fun v w nv nw hl h4 => cal_ret (T := D.T) rfl rfl rfl (telling_ok (c_need_told ns k) (c_all_charts ns (k + 3)) (c_named_of ns (k + 2)) nv nw hl h4)
theorem c_shows_telling (ns : List Int) (k : Nat) : (∀ v w, Nm v → Nm w → w.length = v.length → v.length ≤ 5 → cal D.T ns (k + 6) 21 [.sh (nD v), .sh (nD w), .sh .none] = M.ret (.bool (decide (plainS v = plainS w)))) ∧ ∀ v w c, Nm v → Nm w → w.length = v.length → v.length ≤ 5 → Good c → c.length = v.length → cal D.T ns (k + 6) 21 [.sh (nD v), .sh (nD w), .sh (dT c)] = M.ret (.bool (tellB v w c)) := ⟨fun v w nv nw hl h5 => cal_ret (T := D.T) rfl rfl rfl (shows_telling_none (c_need_told ns k) (c_plain_of ns (k + 3)) nv nw hl h5), fun v w c nv nw hl h5 g hc => cal_ret (T := D.T) rfl rfl rfl (shows_telling_some (c_need_told ns k) (c_is_chart ns (k + 3)) (c_named_of ns (k + 2)) nv nw hl h5 g hc)⟩
theorem c_plain_naming (ns : List Int) (k : Nat) : ∀ v, Nm v → cal D.T ns (k + 4) 22 [.sh (nD v)] = M.ret (nD (plainS v)) := fun v nv => cal_ret (T := D.T) rfl rfl rfl (plain_naming_ok (c_need_naming ns k) (c_plain_of ns (k + 1)) nv)
theorem c_forgets (ns : List Int) (k : Nat) : ∀ v, Nm v → cal D.T ns (k + 4) 23 [.sh (nD v)] = M.ret (.bool (fgB v)) := fun v nv => cal_ret (T := D.T) rfl rfl rfl (forgets_ok (c_need_naming ns k) (c_plain_of ns (k + 1)) nv)
theorem c__law_pick (ns : List Int) (k : Nat) : ∀ d l, elemsD d = some l → 0 < l.length → l.length < 1000000 → Ev (cal D.T ns (k + 1) 24 [.row, .sh d]) fun x => x ∈ l := fun d l h0 h1 h2 => cal_ev (T := D.T) rfl rfl rfl (pick_ok h0 h1 h2)
theorem hal : D.T[25]? = some ⟨2, 3, Cd.ir_law_alike 25⟩ := rfl
theorem c__law_step (ns : List Int) (k : Nat) : StepOk (cal D.T ns (k + 1)) 26 := fun c p q g s => cal_ret (T := D.T) rfl rfl rfl (law_step_ok g.six s.p1 s.pn)
theorem c__law_done (ns : List Int) (k : Nat) : ∀ c row, Good c → RowOk c.length row → cal D.T ns (k + 2) 27 [.sh (dT c), .sh (rowD row)] = M.ret (dT (endS c row)) := fun c row g hr => cal_ret (T := D.T) rfl rfl rfl (law_done_ok (c__law_step ns k) g hr)
theorem c__law_steps (ns : List Int) (k : Nat) : StepsOk (cal D.T ns (k + 1)) 28 := fun n h1 h6 => cal_ret (T := D.T) rfl rfl rfl (law_steps_ok h1 h6)
theorem c__law_row (ns : List Int) (k : Nat) : ∀ n m, 1 ≤ n → n ≤ 6 → m ≤ 900 → Ev (cal D.T ns (k + 2) 29 [.row, .sh (dN n), .sh (dN m)]) fun d => ∃ row, RowOk n row ∧ row.length ≤ m ∧ d = rowD row := fun n m h1 h6 hm => cal_ev (T := D.T) rfl rfl rfl (law_row_ok (c__law_steps ns k) (c__law_pick ns k) h1 h6 hm)
theorem c__law_above (ns : List Int) (k : Nat) : ChainOk (cal D.T ns (k + 1)) 30 := fun c j g h1 h2 => cal_ret (T := D.T) rfl rfl rfl (law_above_ok g h1 h2)
theorem c__law_is_chart (ns : List Int) (k : Nat) : ∀ c, Ent c → c.length ≤ 6 → cal D.T ns (k + 1) 31 [.sh (dT c)] = M.ret (.bool (upB c)) := fun c en hs => cal_ret (T := D.T) rfl rfl rfl (law_is_chart_gen en hs)
theorem c__law_charts (ns : List Int) (k : Nat) : ∀ n, n ≤ 4 → cal D.T ns (k + 2) 32 [.sh (dN n)] = M.ret (.list (((tups n n).filter upB).map dT)) := fun n hn => cal_ret (T := D.T) rfl rfl rfl (charts0_ok (x := "_law_chief") (y := "_law_one") (f := 31) (fun env t q h4 h5 hl => ext_law h4 h5 hl) hn fun t ht => c__law_is_chart ns k t (tups_ent ht) (by have := (tups_mem ht).1; omega))
theorem c__law_chart (ns : List Int) (k : Nat) : ∀ n, 1 ≤ n → n ≤ 6 → Ev (cal D.T ns (k + 2) 33 [.row, .sh (dN n)]) fun d => ∃ c, Good c ∧ c.length = n ∧ d = dT c := fun n h1 h6 => cal_ev (T := D.T) rfl rfl rfl (law_chart_ok (pickOk_of (c__law_pick ns k)) h1 h6)
theorem c__law_up (ns : List Int) (k : Nat) : LawUpOk (cal D.T ns (k + 1)) 34 := fun v w p u nv hw p1 p2 h => cal_ret (T := D.T) rfl rfl rfl (law_up_ok nv hw p1 p2 h)
theorem c__law_after (ns : List Int) (k : Nat) : LawAfterOk (cal D.T ns (k + 2)) 35 := fun v w r nv nw hl h => cal_ret (T := D.T) rfl rfl rfl (law_after_ok (c__law_up ns k) nv nw hl h)
theorem c__law_naming (ns : List Int) (k : Nat) : ∀ n row w, 1 ≤ n → n ≤ 6 → RowOk n row → namO 7 n (idleO n) row = some w → cal D.T ns (k + 3) 36 [.sh (dN n), .sh (rowD row)] = M.ret (nD w) := fun n row w h1 h6 hr h => cal_ret (T := D.T) rfl rfl rfl (law_naming_ok (c__law_after ns k) h1 h6 hr h)
theorem c__law_near (ns : List Int) (k : Nat) : NearL (cal D.T ns (k + 2)) 37 := fun c lot j g h1 h2 => cal_ret (T := D.T) rfl rfl rfl (law_near_ok (c__law_above ns k) g h1 h2)
theorem c__law_named (ns : List Int) (k : Nat) : NamedOfOk (cal D.T ns (k + 3)) 38 := fun v c nv g hl => cal_ret (T := D.T) rfl rfl rfl (law_named_ok (c__law_near ns k) nv g hl)
theorem c__law_any (ns : List Int) (k : Nat) : ∀ n, 1 ≤ n → n ≤ 6 → Ev (cal D.T ns (k + 2) 39 [.row, .sh (dN n)]) fun d => ∃ v, Nm v ∧ v.length = n ∧ d = nD v := fun n h1 h6 => cal_ev (T := D.T) rfl rfl rfl (law_any_ok (c__law_pick ns k) h1 h6)
abbrev K (ns : List Int) : CT := cal D.T ns 12
def ev35 (n : Nat) (s3 s4 s5 : Slot) (v : NmL) (c : List Nat) (u : NmL) : List Slot := [.no, .row, .sh (dN n), s3, s4, s5, .sh (nD v), .sh (dT c), .sh (nD u)]
theorem t_isB {ns : List Int} {a : E} {env : List Slot} {b : Bool} (n : NoVar env a) (h : evE ns (K ns) a env = M.ret (.bool b)) : evT ns (K ns) (.cmp .notB a (.bl true)) env = M.ret (!b) := (t_cmp2 (x := .bool b) (y := .bool true) (rd_no n h) rfl rfl).trans (by cases b <;> rfl)
theorem fg_all {v : NmL} (h : fgB v = true) : ∀ p, 1 ≤ p → p ≤ (plainS v).length → ∃ x, gO (plainS v) p = some x ∧ 0 ≤ x := by
  refine bad_iff.mp ?_
  unfold fgB at h
  simpa using h
theorem tell_none {n : Nat} {v u : NmL} (n1 : 1 ≤ n) (n4 : n ≤ 4) (nv : Nm v) (nu : Nm u) (vl : v.length = n) (ul : u.length = n) : (tellS v u = none ↔ plainS v = plainS u) ∧ ∀ c, tellS v u = some c → Good c ∧ c.length = n ∧ tellB v u c = true := by
  have mem : ∀ c, tellS v u = some c → c ∈ (allC v.length).filter (tellB v u) := fun c h => by
    unfold tellS at h
    cases e : (allC v.length).filter (tellB v u) with
    | nil => rw [e] at h; cases h
    | cons x r => rw [e] at h; cases h; exact List.mem_cons_self
  constructor
  · rw [same_iff nv nu vl ul]
    constructor
    · intro h c g hc
      unfold tellS at h
      have e := List.head?_eq_none_iff.mp h
      have := List.filter_eq_nil_iff.mp e c ((allC_in (by omega) (by omega)).mpr ⟨g, by omega⟩)
      unfold tellB at this
      simpa using this
    · intro h
      cases e : tellS v u with
      | none => rfl
      | some c =>
        exfalso
        obtain ⟨m1, m2⟩ := List.mem_filter.mp (mem c e)
        obtain ⟨g, hc⟩ := (allC_in (by omega) (by omega)).mp m1
        unfold tellB at m2
        rw [h c g (by omega), decide_eq_true rfl] at m2
        cases m2
  · intro c e
    obtain ⟨m1, m2⟩ := List.mem_filter.mp (mem c e)
    obtain ⟨g, hc⟩ := (allC_in (by omega) (by omega)).mp m1
    exact ⟨g, by omega, m2⟩
theorem tail35 (ns : List Int) {n : Nat} {v u : NmL} {c : List Nat} (n1 : 1 ≤ n) (n5 : n ≤ 5) (nv : Nm v) (nu : Nm u) (vl : v.length = n) (ul : u.length = n) (g : Good c) (cl : c.length = n) : Ev (exL ns (K ns) (restOf D.law.fn.body 2) (ev35 n .no .no .no v c u)) (Rt fun d => d = .bool true) := by
  have np := plain_nm nv
  have pl := plain_len v
  have fgc : ∀ env, env[6]? = some (.sh (nD v)) → evE ns (K ns) (.call 23 (.cons false (.var 6) .nil)) env = M.ret (.bool (fgB v)) := fun env he => e_call2 (l := [.sh (nD v)]) (aa1 (by simp only [argOf, evE, he]; rfl)) (c_forgets ns 8 v nv) (by simp [noL])
  refine w_step (fz := []) (e1 := ev35 n (.sh (nD (plainS v))) .no .no v c u) rfl (x_set (e_call2 (l := [.sh (nD v)]) rfl (c_plain_naming ns 8 v nv) rfl)) ?_
  let E (s4 s5 : Slot) := ev35 n (.sh (nD (plainS v))) s4 s5 v c u
  -- plain ones
  have a1 : evE ns (K ns) (.call 12 (.cons false (.var 3) (.cons false (.var 7) .nil))) (E .no .no) = M.ret (dT (namedS v c)) := e_call2 (l := [.sh (nD (plainS v)), .sh (dT c)]) rfl (by rw [← plain_act nv g (by omega)]; exact c_named ns 8 _ c np g (by omega)) rfl
  have a2 : evE ns (K ns) (.call 12 (.cons false (.var 6) (.cons false (.var 7) .nil))) (E .no .no) = M.ret (dT (namedS v c)) := e_call2 (l := [.sh (nD v), .sh (dT c)]) rfl (c_named ns 8 v c nv g (by omega)) rfl
  have a3 : evE ns (K ns) (.call 22 (.cons false (.var 3) .nil)) (E .no .no) = M.ret (nD (plainS v)) := e_call2 (l := [.sh (nD (plainS v))]) rfl (by rw [show K ns 22 [.sh (nD (plainS v))] = _ from c_plain_naming ns 8 _ np, plain_same nv]) rfl
  have t3 : evT ns (K ns) (.cmp .ne (.call 22 (.cons false (.var 3) .nil)) (.var 3)) (E .no .no) = M.ret false := by
    have e := t_cmp2 (ns := ns) (C := K ns) (o := .ne) (a := .call 22 (.cons false (.var 3) .nil)) (b := .var 3) (env := E .no .no) (x := nD (plainS v)) (y := nD (plainS v)) (rd_no (fun _ => rfl) a3) rfl (ne_O ..)
    rwa [decide_eq_true rfl] at e
  have a4 : evE ns (K ns) (.call 18 (.cons false (.var 6) (.cons false (.var 3) .nil))) (E .no .no) = M.ret (.bool true) := e_call2 (l := [.sh (nD v), .sh (nD (plainS v))]) rfl (by rw [show K ns 18 [.sh (nD v), .sh (nD (plainS v))] = _ from c_same_deed ns 7 v _ nv np pl, plain_same nv, decide_eq_true rfl]) rfl
  refine w_skip (fz := []) (env := E .no .no) rfl (t_or2 (p := false) (q := false) (t_neT (fun _ => rfl) (fun _ => rfl) a1 a2) fun _ => t_or2 (p := false) (q := false) t3 fun _ => t_isB (fun _ => rfl) a4) rfl ?_
  -- how many stay
  have ml := movers_le v
  have b1 : evE ns (K ns) (.bin .sub (.var 2) (.f1 .len (.call 10 (.cons false (.var 6) .nil)))) (E .no .no) = M.ret (dN (stayN v)) := by
    have m1 : evE ns (K ns) (.call 10 (.cons false (.var 6) .nil)) (E .no .no) = M.ret (dT (moversS v)) := e_call2 (l := [.sh (nD v)]) rfl (c_movers ns 8 v nv) rfl
    have m2 : evE ns (K ns) (.f1 .len (.call 10 (.cons false (.var 6) .nil))) (E .no .no) = M.ret (dN (moversS v).length) := e_f12 (rd_no (fun _ => rfl) m1) (by show some (PyData.int ((mN (moversS v)).length : Nat)) = _; rw [lenN])
    refine e_bin2 (x := dN n) (y := dN (moversS v).length) rfl (rd_no (fun _ => rfl) m2) ?_
    show some (PyData.int ((n : Int) - ((moversS v).length : Int))) = some (PyData.int ((stayN v : Nat) : Int))
    unfold stayN
    congr 2; omega
  refine w_step (fz := []) (e1 := E (.sh (dN (stayN v))) .no) rfl (x_set b1) ?_
  let E1 := E (.sh (dN (stayN v))) .no
  have st := stayN_eq v
  have g1 : evT ns (K ns) (.cmp .gt (.var 4) (.int 1)) E1 = M.ret (decide (1 < stayN v)) := by
    refine t_cmp2 (x := dN (stayN v)) (y := dN 1) rfl rfl ?_
    show some (decide ((1 : Int) < (stayN v : Int))) = _
    congr 1
    exact decide_eq_decide.mpr (by omega)
  have g2 : evT ns (K ns) (.cmp .ne (.var 3) (.var 6)) E1 = M.ret (!decide (plainS v = v)) := t_cmp2 (x := nD (plainS v)) (y := nD v) rfl rfl (ne_O ..)
  have g3 : evT ns (K ns) (.call 23 (.cons false (.var 6) .nil)) E1 = M.ret (fgB v) := t_call2 (d := .bool (fgB v)) (l := [.sh (nD v)]) rfl (c_forgets ns 8 v nv) rfl rfl
  have many : 1 < stayN v → plainS v = v ∧ fgB v = false := fun h => by
    have e : plainS v = v := plain_id (.inl (by omega))
    refine ⟨e, ?_⟩
    cases hf : fgB v with
    | false => rfl
    | true =>
      exfalso
      have all := fg_all hf
      rw [e] at all
      obtain ⟨a, ha⟩ := List.exists_mem_of_length_pos (show 0 < (staysS v).length by omega)
      obtain ⟨⟨k1, k2⟩, k3⟩ := stays_mem.mp ha
      obtain ⟨x, hx, _⟩ := all a k1 k2
      rw [k3] at hx; cases hx
  refine w_skip (fz := []) (env := E1) rfl (t_or2 (t_and2 g1 fun _ => g2) fun _ => t_and2 g1 fun _ => g3) ?_ ?_
  · by_cases h : 1 < stayN v
    · rw [(many h).1, (many h).2, decide_eq_true rfl]; simp
    · rw [decide_eq_false h]; rfl
  -- what forgets
  have g4 : evT ns (K ns) (.cmp .eq (.var 4) (.int 0)) E1 = M.ret (decide (stayN v = 0)) := t_cmp2 (x := dN (stayN v)) (y := dN 0) rfl rfl (eq_N ..)
  have g5 : evT ns (K ns) (.cmp .ne (.f1 .len (.call 10 (.cons false (.var 3) .nil))) (.var 2)) E1 = M.ret (!decide ((moversS (plainS v)).length = n)) := by
    have m1 : evE ns (K ns) (.call 10 (.cons false (.var 3) .nil)) E1 = M.ret (dT (moversS (plainS v))) := e_call2 (l := [.sh (nD (plainS v))]) rfl (c_movers ns 8 _ np) rfl
    have m2 : evE ns (K ns) (.f1 .len (.call 10 (.cons false (.var 3) .nil))) E1 = M.ret (dN (moversS (plainS v)).length) := e_f12 (rd_no (fun _ => rfl) m1) (by show some (PyData.int ((mN (moversS (plainS v))).length : Nat)) = _; rw [lenN])
    exact t_cmp2 (x := dN (moversS (plainS v)).length) (y := dN n) (rd_no (fun _ => rfl) m2) rfl (ne_N ..)
  refine w_skip (fz := []) (env := E1) rfl (t_or2 (t_and2 g4 fun _ => tt_not g3) fun _ => t_and2 g3 fun _ => g5) ?_ ?_
  · have z1 : stayN v = 0 → fgB v = true := fun h => by
      have hk : ¬ kpB v = true := fun hk => by
        rcases kp_iff.mp hk with h1 | h1
        · omega
        · have := h1.1; omega
      unfold fgB plainS
      rw [if_neg hk, bad_iff.mpr fun p p1 p2 => by
        rw [zr_len] at p2
        rw [zr_at p1 p2]
        exact zr_pos _]
      rfl
    have z2 : fgB v = true → (moversS (plainS v)).length = n := fun h => by
      have all := fg_all h
      have e := stayN_eq (plainS v)
      have nil : staysS (plainS v) = [] := List.eq_nil_iff_forall_not_mem.mpr fun a ha => by
        obtain ⟨⟨k1, k2⟩, k3⟩ := stays_mem.mp ha
        obtain ⟨x, hx, _⟩ := all a k1 k2
        rw [k3] at hx; cases hx
      have := movers_le (plainS v)
      rw [nil] at e
      unfold stayN at e
      have e2 : (plainS v).length - (moversS (plainS v)).length = 0 := e
      omega
    cases hf : fgB v with
    | true => rw [z2 hf, decide_eq_true rfl]; simp
    | false =>
      have : stayN v ≠ 0 := fun h => by rw [z1 h] at hf; cases hf
      rw [decide_eq_false this]; rfl
  -- products
  have na := af_nm nv nu (by omega)
  have la := af_len nv nu (by omega)
  have nb := af_nm np nu (by omega)
  have lb := af_len np nu (by omega)
  have nc := af_nm nu nv (by omega)
  have lc := af_len nu nv (by omega)
  have nd := af_nm nu np (by omega)
  have ld := af_len nu np (by omega)
  have h1 : evE ns (K ns) (.call 16 (.cons false (.var 6) (.cons false (.var 8) .nil))) E1 = M.ret (nD (afN v u)) := e_call2 (l := [.sh (nD v), .sh (nD u)]) rfl (c_after ns 3 v u _ nv nu (by omega) (af_eq nv nu (by omega))) rfl
  have h2 : evE ns (K ns) (.call 16 (.cons false (.var 3) (.cons false (.var 8) .nil))) E1 = M.ret (nD (afN (plainS v) u)) := e_call2 (l := [.sh (nD (plainS v)), .sh (nD u)]) rfl (c_after ns 3 _ u _ np nu (by omega) (af_eq np nu (by omega))) rfl
  have h3 : evE ns (K ns) (.call 16 (.cons false (.var 8) (.cons false (.var 6) .nil))) E1 = M.ret (nD (afN u v)) := e_call2 (l := [.sh (nD u), .sh (nD v)]) rfl (c_after ns 3 u v _ nu nv (by omega) (af_eq nu nv (by omega))) rfl
  have h4 : evE ns (K ns) (.call 16 (.cons false (.var 8) (.cons false (.var 3) .nil))) E1 = M.ret (nD (afN u (plainS v))) := e_call2 (l := [.sh (nD u), .sh (nD (plainS v))]) rfl (c_after ns 3 u _ _ nu np (by omega) (af_eq nu np (by omega))) rfl
  have s1 : plainS (afN v u) = plainS (afN (plainS v) u) := (same_iff (n := n) na nb (by omega) (by omega)).mpr fun d gd hd => by
    rw [af_act nv nu (by omega) gd (by omega), af_act np nu (by omega) gd (by omega), plain_act nv gd (by omega)]
  have s2 : plainS (afN u v) = plainS (afN u (plainS v)) := (same_iff (n := n) nc nd (by omega) (by omega)).mpr fun d gd hd => by
    have gu := named_good nu gd (by omega)
    have lu : (namedS u d).length = n := by rw [namedS_len]; exact ul
    rw [af_act nu nv (by omega) gd (by omega), af_act nu np (by omega) gd (by omega), plain_act nv gu (by omega)]
  have d1 : evE ns (K ns) (.call 18 (.cons false (.call 16 (.cons false (.var 6) (.cons false (.var 8) .nil))) (.cons false (.call 16 (.cons false (.var 3) (.cons false (.var 8) .nil))) .nil))) E1 = M.ret (.bool true) := e_call2H (fun _ => rfl) (fun _ => rfl) h1 h2 (by rw [show K ns 18 [.sh (nD (afN v u)), .sh (nD (afN (plainS v) u))] = _ from c_same_deed ns 7 _ _ na nb (by omega), s1, decide_eq_true rfl]) rfl
  have d2 : evE ns (K ns) (.call 18 (.cons false (.call 16 (.cons false (.var 8) (.cons false (.var 6) .nil))) (.cons false (.call 16 (.cons false (.var 8) (.cons false (.var 3) .nil))) .nil))) E1 = M.ret (.bool true) := e_call2H (fun _ => rfl) (fun _ => rfl) h3 h4 (by rw [show K ns 18 [.sh (nD (afN u v)), .sh (nD (afN u (plainS v)))] = _ from c_same_deed ns 7 _ _ nc nd (by omega), s2, decide_eq_true rfl]) rfl
  refine w_skip (fz := []) (env := E1) rfl (t_or2 (p := false) (q := false) (t_isB (fun _ => rfl) d1) fun _ => t_isB (fun _ => rfl) d2) rfl ?_
  have f1 : evT ns (K ns) (.call 23 (.cons false (.call 16 (.cons false (.var 6) (.cons false (.var 8) .nil))) .nil)) E1 = M.ret (fgB (afN v u)) := t_call2 (d := .bool (fgB (afN v u))) (l := [.sh (nD (afN v u))]) (aa1 (a_hand (fun _ => rfl) h1)) (c_forgets ns 8 _ na) rfl rfl
  have f2 : evT ns (K ns) (.call 23 (.cons false (.call 16 (.cons false (.var 8) (.cons false (.var 6) .nil))) .nil)) E1 = M.ret (fgB (afN u v)) := t_call2 (d := .bool (fgB (afN u v))) (l := [.sh (nD (afN u v))]) (aa1 (a_hand (fun _ => rfl) h3)) (c_forgets ns 8 _ nc) rfl rfl
  refine w_skip (fz := []) (env := E1) rfl (t_and2 g3 fun _ => t_or2 (tt_not f1) fun _ => tt_not f2) ?_ ?_
  · cases hf : fgB v with
    | false => rfl
    | true =>
      obtain ⟨k, gk, lk, hk⟩ := (fg_iff nv vl).mp hf
      have e1 : fgB (afN v u) = true := (fg_iff (n := n) na (by omega)).mpr ⟨namedS u k, named_good nu gk (by omega), by rw [namedS_len]; exact ul, fun d gd hd => by rw [af_act nv nu (by omega) gd (by omega), hk d gd hd]⟩
      have e2 : fgB (afN u v) = true := (fg_iff (n := n) nc (by omega)).mpr ⟨k, gk, lk, fun d gd hd => by rw [af_act nu nv (by omega) gd (by omega), hk _ (named_good nu gd (by omega)) (by rw [namedS_len]; exact ul)]⟩
      rw [e1, e2]; rfl
  -- what tells
  have j1 : evT ns (K ns) (.cmp .gt (.var 2) (.int 4)) E1 = M.ret (decide (4 < n)) := by
    refine t_cmp2 (x := dN n) (y := dN 4) rfl rfl ?_
    show some (decide ((4 : Int) < (n : Int))) = _
    congr 1
    exact decide_eq_decide.mpr (by omega)
  by_cases n4 : 4 < n
  · rw [decide_eq_true n4] at j1
    exact .of (exL_ret (fz := []) (x_take j1 (exL_ret (x_ret rfl)))) ⟨_, rfl, rfl⟩
  rw [decide_eq_false n4] at j1
  refine w_skip (fz := []) (env := E1) rfl j1 rfl ?_
  refine w_step (fz := []) (e1 := E (.sh (dN (stayN v))) (.sh (optD (tellS v u)))) rfl (x_set (e_call2 (l := [.sh (nD v), .sh (nD u)]) rfl (c_telling ns 6 v u nv nu (by omega) (by omega)) (by cases tellS v u <;> rfl))) ?_
  obtain ⟨tn, ts⟩ := tell_none n1 (by omega) nv nu vl ul
  let E2 := E (.sh (dN (stayN v))) (.sh (optD (tellS v u)))
  have sd : evE ns (K ns) (.call 18 (.cons false (.var 6) (.cons false (.var 8) .nil))) E2 = M.ret (.bool (decide (plainS v = plainS u))) := e_call2 (l := [.sh (nD v), .sh (nD u)]) rfl (c_same_deed ns 7 v u nv nu (by omega)) rfl
  have isn : evE ns (K ns) (.cmp .isN (.var 5) .non) E2 = M.ret (.bool (decide (plainS v = plainS u))) := by
    have e := e_cmp2 (ns := ns) (C := K ns) (o := .isN) (a := .var 5) (b := .non) (env := E2) (x := optD (tellS v u)) (y := .none) (k := (tellS v u).isNone) rfl rfl (by cases tellS v u <;> rfl)
    rw [e]
    congr 2
    cases e9 : tellS v u with
    | none => rw [decide_eq_true (tn.mp e9)]; rfl
    | some x => rw [decide_eq_false fun z => by rw [tn.mpr z] at e9; cases e9]; rfl
  have t4 : evT ns (K ns) (.cmp .ne (.cmp .isN (.var 5) .non) (.call 18 (.cons false (.var 6) (.cons false (.var 8) .nil)))) E2 = M.ret false := by
    have e := t_cmp2 (ns := ns) (C := K ns) (o := .ne) (a := .cmp .isN (.var 5) .non) (b := .call 18 (.cons false (.var 6) (.cons false (.var 8) .nil))) (env := E2) (rd_no (fun _ => rfl) isn) (rd_no (fun _ => rfl) sd) (ne_B ..)
    rw [e]
    cases decide (plainS v = plainS u) <;> rfl
  have sh : evE ns (K ns) (.call 21 (.cons false (.var 6) (.cons false (.var 8) (.cons false (.var 5) .nil)))) E2 = M.ret (.bool true) := by
    refine e_call2 (l := [.sh (nD v), .sh (nD u), .sh (optD (tellS v u))]) rfl ?_ rfl
    cases e9 : tellS v u with
    | none =>
      have e := (c_shows_telling ns 6).1 v u nv nu (by omega) (by omega)
      rw [decide_eq_true (tn.mp e9)] at e
      exact e
    | some x =>
      obtain ⟨x1, x2, x3⟩ := ts x e9
      have e := (c_shows_telling ns 6).2 v u x nv nu (by omega) (by omega) x1 (by omega)
      rw [x3] at e
      exact e
  refine w_skip (fz := []) (env := E2) rfl (t_or2 (p := false) (q := false) t4 fun _ => t_isB (fun _ => rfl) sh) rfl ?_
  refine w_ret (fz := []) (env := E2) (d := .bool true) rfl ?_ rfl
  cases e9 : tellS v u with
  | none =>
    rw [decide_eq_true (tn.mp e9)] at isn
    exact (e_or2 (p := true) (q := true) isn fun z => by cases z)
  | some x =>
    obtain ⟨x1, x2, x3⟩ := ts x e9
    rw [decide_eq_false fun z => by rw [tn.mpr z] at e9; cases e9] at isn
    refine (e_or2 (p := false) (q := true) isn fun _ => ?_)
    have hE : E2 = E (.sh (dN (stayN v))) (.sh (dT x)) := by show E _ (.sh (optD (tellS v u))) = _; rw [e9]; rfl
    rw [hE]
    have p1 : evE ns (K ns) (.call 12 (.cons false (.var 6) (.cons false (.var 5) .nil))) (E (.sh (dN (stayN v))) (.sh (dT x))) = M.ret (dT (namedS v x)) := e_call2 (l := [.sh (nD v), .sh (dT x)]) rfl (c_named ns 8 v x nv x1 (by omega)) rfl
    have p2 : evE ns (K ns) (.call 12 (.cons false (.var 8) (.cons false (.var 5) .nil))) (E (.sh (dN (stayN v))) (.sh (dT x))) = M.ret (dT (namedS u x)) := e_call2 (l := [.sh (nD u), .sh (dT x)]) rfl (c_named ns 8 u x nu x1 (by omega)) rfl
    have e := e_cmp2 (ns := ns) (C := K ns) (o := .ne) (env := E (.sh (dN (stayN v))) (.sh (dT x))) (rd_no (fun _ => rfl) p1) (rd_no (fun _ => rfl) p2) (ne_T ..)
    unfold tellB at x3
    rw [x3] at e
    exact e
theorem math : D.Math 63 := fun ns _ => by
  have key : Ev (exL ns (K ns) D.law.fn.body [.no, .row, .no, .no, .no, .no, .no, .no, .no]) (Rt fun d => d = .bool true) := by
    refine v_step (fz := [1]) (v_set (i := 2) (v_1take (r := 1) (m := 5) rfl rfl (by omega) (by omega))) fun e ⟨d, ⟨n, n1, n5, hd⟩, he⟩ => ?_
    subst hd he
    have an : Ev (evE ns (K ns) (.call 39 (.cons false (.var 1) (.cons false (.var 2) .nil))) [.no, .row, .sh (dN n), .no, .no, .no, .no, .no, .no]) fun d => ∃ v, Nm v ∧ v.length = n ∧ d = nD v := v_call (l := [.row, .sh (dN n)]) rfl (c__law_any ns 10 n n1 (by omega)) fun d ⟨v, _, _, hd⟩ => by subst hd; rfl
    refine v_step (fz := [1, 2]) (P := fun e => ∃ v c u, (Nm v ∧ v.length = n) ∧ (Good c ∧ c.length = n) ∧ (Nm u ∧ u.length = n) ∧ e = ev35 n .no .no .no v c u) (v_par (vL_cons an (vL_cons (v_call (l := [.row, .sh (dN n)]) rfl (c__law_chart ns 10 n n1 (by omega)) fun d ⟨c, _, _, hd⟩ => by subst hd; rfl) (vL_cons an vL_nil))) fun l hl => ?_) fun e ⟨v, c, u, ⟨nv, vl⟩, ⟨g, cl⟩, ⟨nu, ul⟩, he⟩ => ?_
    · obtain ⟨d, t, rfl, ⟨v, v1, v2, rfl⟩, d, t, rfl, ⟨c, g, hc, rfl⟩, d, t, rfl, ⟨u, u1, u2, rfl⟩, rfl⟩ := hl
      exact ⟨_, rfl, v, c, u, ⟨v1, v2⟩, ⟨g, hc⟩, ⟨u1, u2⟩, rfl⟩
    subst he
    exact tail35 ns n1 n5 nv nu vl ul g cl
  obtain ⟨o, rs', h, d, rfl, rfl⟩ := key ⟨0, D.seed, 0⟩
  exact ⟨rs', h⟩

end Lwk35
open PySem PySem.W PySem.Calls PyProof.Rows
theorem PySem.Challenge.cw_chiefdeeds_k35_across_plain_namings_holds : PySem.Challenge.rw_chiefdeeds_k35_across_plain_namings.Holds := by
  w_on; o_law
  refine HandSHeadRun.head_any (r := OpenLaw.row PySem.Challenge.rw_chiefdeeds_k35_across_plain_namings) (q := view (OpenLaw.row PySem.Challenge.rw_chiefdeeds_k35_across_plain_namings).prog [53]) (H := Lwk35.hk) (ob := Lwk35.ob) (M := 4000) (loose := Lwk35.names) (d := HandSHeadRun.topDef (OpenLaw.row PySem.Challenge.rw_chiefdeeds_k35_across_plain_namings).prog 53) (kwd := []) Lwk35.ob_eq (by kernel_rfl) (fun s => by kernel_rfl) Lwk35.run (by kernel_rfl) (by kernel_rfl) (by kernel_rfl) (by rfl) (by first | assumption | decide +kernel) (by decide +kernel) ⟨rfl, rfl, rfl, rfl, rfl, by decide +kernel⟩ ?hw ?hc
  case hw => w_witness2
  case hc =>
    refine LamX.walk_ofTsE (l := PySem.Challenge.rw_chiefdeeds_k35_across_plain_namings) (n := 63) (k := Cd.lv Lwk35.D.n + 7 + 1) (x := "_law_script") (CX := fun _ => C8.CX0) rfl (by decide) (by kernel_rfl) ⟨rfl, by decide, by decide⟩ ?F (fun _ _ _ _ _ z => z)
    intro w mg fa h Y G hmg0
    obtain ⟨K, KX, c⟩ := Y
    have hmg : mg ("law" : PySem.Str) = some (.ref fa) := by
      have e : (HandSHeadRun.topDef (OpenLaw.row PySem.Challenge.rw_chiefdeeds_k35_across_plain_namings).prog 53).name = ("law" : PySem.Str) := by kernel_rfl
      rw [← e]; exact hmg0
    exact ⟨K, KX, Cd.law_at KX c G hmg Lwk35.chk Lwk35.bodyT Lwk35.bodyL Lwk35.binds Lwk35.bindTk Lwk35.bindLw Lwk35.math⟩
