import PyProof.Rows.All
import Wide.All
import OpenK.AllK
import Wide.FinOn
import HandS.ForMost
import HandS.AnyAll
import HandS.Lambda
import HandS.GenList
import KE.GoesEnum
import KE.GoesMore
import HandS.Zip
import HandS.IsInst
import HandS.Exc
import HandS.WordsExc
import HandS.ExcInit
import HandS.ExcField
import HandS.TupAny
import HandS.More
import PySem.Challenge.RW_nightslates_k60_whole_texts
import HandS.Deep
import HandS.SetFor
import HandS.Strs
import HandS.DictTup
import HandS.SortRule
import HandS.TupMul
import HandS.Conv
import HandS.EndTab
set_option Elab.async false
set_option linter.all false
set_option maxRecDepth 100000
set_option maxHeartbeats 2000000
/-! all(elt for target in iter): the walked thing of any form that PI serves, the element any test. -/
namespace Gx
open PySem PySem.Spec PyProof.Rows L2 GenW
/-- the frame of a generator expression -/
abbrev gEnv (X : Cx) (scope : Scope) (C : Addr) (cv : Value) : Env := genEnv scope (cloFrom X.env.cells scope.names []) C cv builtinsNs X.env
/-- the context of its element: entered at s, its iterator's objects at fp -/
def gCx (X : Cx) (A : Around) (s : Shared) (H : Hp) (scope : Scope) (cv : Value) (fp : List Addr) : Cx where
  prog := X.prog
  w := X.w
  K := X.K
  mg := X.mg
  base := X.base
  A := A.deeper (gEnv X scope s.heap.objs.size cv)
  N := X.N
  s_0 := s
  H_0 := H
  env := gEnv X scope s.heap.objs.size cv
  outer := X.stack
  stack := gEnv X scope s.heap.objs.size cv :: X.stack
  ex := fp
  fn := fun _ => false
  calm := true
  pn := []
  xe := fun _ _ => False
section
variable {X : Cx} {pins : List (Addr × Obj)} {σ : L2.St} {H : Hp} {s : Shared}
theorem gx_start {A : Around} {scope : Scope} {cv : Value} {own : List (Str × Nat)} {fp : List Addr} {h₁ : Heap} {tk : Nat} {g : Array GenState} {m : Str → Option Value} (I : Inv X pins σ H s) (ok : BlkOk X.N X.env.scope scope own) (hN : X.N.Nodup) (hnc : ∀ y ∈ scope.names, y.2 ≠ .cell)
    (hA : A.frames = some X.stack) (hd : A.handled = none) (hfp : ∀ b ∈ fp, FpOk X pins H b ∧ b < s.heap.objs.size) (hns : h₁.Ns s.heap.objs.size m) (kp : ∀ b o, s.heap.get? b = some o → h₁.get? b = some o) (hg : AllBare g) :
    Inv (gCx X A s H scope cv fp) [] (wipe σ (own.map (·.2))) H { s with heap := h₁, toks := tk, gens := g } := by
  have hfree : ∀ y ∈ scope.names, y.2 = .free → ∃ c, X.env.cells.lookup y.1 = some c := fun y hy e => by
    rcases ok.free y hy e with k | k
    · exact I.ok.has _ (.inl k)
    · exact I.ok.has _ (.inr k)
  have cm : ∀ {y c}, (cloFrom X.env.cells scope.names []).lookup y = some c → X.env.cells.lookup y = some c := fun {y c} e => by
    rcases cloFrom_mem (PySem.mem_of_lookup e) with hm | ⟨h1, h2⟩
    · cases hm
    · obtain ⟨c1, hc⟩ := hfree _ h1 rfl
      have hc : X.env.cells.lookup y = some c1 := hc
      have e2 : c = c1 := by
        rw [h2, hc] <;> rfl
      rw [e2]
      exact hc
  have look : ∀ {y}, scope.names.lookup y = some .free → ∃ c, (cloFrom X.env.cells scope.names []).lookup y = some c := fun {y} hl => by
    have hy : (y, NameKind.free) ∈ scope.names := PySem.mem_of_lookup hl
    exact mem_lookup (cloFrom_has (cells := X.env.cells) (acc := []) hy)
  have clt : ∀ {y c}, X.env.cells.lookup y = some c → c < s.heap.objs.size := fun {y c} e => by
    obtain ⟨w, z⟩ := I.cell _ _ e
    exact z.lt
  have e0 := I.env0
  refine ⟨⟨e0.mod, ok.kind, I.ok.glob, rfl, Nat.le_refl _, fun y z c e1 e2 => I.ok.inj y z c (cm e1) (cm e2), fun y hy => ?_, fun y c z _ => ?_, fun _ => hd, Around.frames_deeper hA, .inr ⟨rfl, rfl⟩, fun b hb => ⟨?_, fun y c e z => ?_⟩, e0.bs, e0.bsz, fun b o e hb => ?_,
      fun b hb z => ?_, e0.funs, e0.frf⟩,
    rfl, hg, Un.kept kp, ⟨_, hns, fun i y v e1 e2 e3 => ?_⟩, fun y c e => ?_, e0.hok.fresh (Nat.le_refl _), fun y c e => ?_, fun q hq => absurd (show q ∈ ([] : List (Addr × Obj)) ++ [] from hq) (by simp), e0.hok.kept kp, by rw [wipe_length]; exact I.len⟩
  · have hy : scope.names.lookup y = some .cell ∨ scope.names.lookup y = some .free := hy
    rcases hy with hy | hy
    · exact absurd rfl (hnc _ (PySem.mem_of_lookup hy))
    · exact look hy
  · have z : false = true := z
    cases z
  · exact Nat.ne_of_lt (hfp b hb).2
  · exact (hfp b hb).1.2.2.2.2.1 y c (cm e) z
  · rcases (hfp b hb).1.2.2.2.1 with z | z
    · exact I.ok.noex b o e z
    · exact absurd (Nat.lt_of_lt_of_le (Heap.lt_size e) (Nat.le_trans I.ok.bsz z)) (Nat.lt_irrefl _)
  · rcases List.mem_cons.mp (I.stkSub b z) with z | z
    · exact (hfp b hb).1.2.1 z
    · exact (hfp b hb).1.2.2.1 z
  · obtain ⟨e2, hne⟩ := wipe_some e2
    have no : ∀ k, scope.names.lookup y = some k → ¬ (k = .local ∨ k = .cell) := fun k hk hh => by
      rcases ok.own _ (PySem.mem_of_lookup hk) hh with e' | e'
      · obtain ⟨p, hp, hpy⟩ := List.mem_map.mp e'
        have e3 := ok.ix p hp
        have : p.1 = y := hpy
        rw [this] at e3
        exact hne (List.mem_map.mpr ⟨p, hp, nodup_ix hN e3 e1⟩)
      · exact e' (List.mem_of_getElem? e1)
    have e3 : Vis scope y := e3
    rcases e3 with k | k | k
    · exact absurd (.inl rfl) (no _ k)
    · exact absurd (.inr rfl) (no _ k)
    · obtain ⟨m, hn, hl⟩ := I.loc
      have hvis : Vis X.env.scope y := (ok.free _ (PySem.mem_of_lookup k) rfl).elim (fun k => .inr (.inl k)) (fun k => .inr (.inr k))
      obtain ⟨w', r, q⟩ := hl i y v e1 e2 hvis
      obtain ⟨c2, h2⟩ := look k
      refine ⟨w', r, .inr ⟨.inr k, c2, h2, ?_⟩⟩
      have c1 := cm h2
      rcases q with ⟨k', _⟩ | ⟨_, c3, e', z⟩
      · have k' : X.env.scope.names.lookup y = some .local := k'
        rcases ok.free _ (PySem.mem_of_lookup k) rfl with k2 | k2 <;> rw [show X.env.scope.names.lookup y = _ from k2] at k' <;> cases k'
      · rw [c1] at e'
        cases e'
        exact z.keeps kp
  · obtain ⟨w', z⟩ := I.cell y c (cm e)
    exact ⟨w', z.keeps kp⟩
  · exact I.freeC y c (cm e)
/-- the table of generators changes alone -/
theorem inv_gens {g : Array GenState} (I : Inv X pins σ H s) (hg : AllBare g) : Inv X pins σ H { s with gens := g } :=
  I.call (g' := g) (t' := s.toks) (d' := s.drawn) (h' := s.heap) (ch := []) Un.refl I.hok hg (fun b z => absurd z (by simp))
end
end Gx
set_option Elab.async false
set_option linter.all false
set_option maxRecDepth 100000
set_option maxHeartbeats 2000000
namespace Gx
open PySem PySem.Spec PyProof.Rows L2 GenW
theorem over_comp {A : Around} {elt : Expr} {gs : List Comprehension} {scope : Scope} {pos : Pos} {it acc : Value} {env : Env} : A.over (.compLoop (.GeneratorExp elt gs scope pos) 0 it acc env) [] = A.deeper env := by
  first
    | rfl
    | (obtain ⟨hd, d, fr, gs, u⟩ := A; simp [Around.over, Around.deeper, marksOver, frameCount, unitsOf, envsOf, guardsOf, pushEnvs, pushGuards, Code.envs, Code.env?, Code.isFrame, Code.guards, Code.isGuard, Code.weight, Code.frames, Code.isCreation, Code.isCaller, Code.cUnits])
theorem over_start {A : Around} {elt : Expr} {gs : List Comprehension} {scope : Scope} {pos : Pos} {it acc : Value} {env : Env} : A.over (.compStart (.GeneratorExp elt gs scope pos) 0 it acc env) [] = A.deeper env := by
  first
    | rfl
    | (obtain ⟨hd, d, fr, gs, u⟩ := A; simp [Around.over, Around.deeper, marksOver, frameCount, unitsOf, envsOf, guardsOf, pushEnvs, pushGuards, Code.envs, Code.env?, Code.isFrame, Code.guards, Code.isGuard, Code.weight, Code.frames, Code.isCreation, Code.isCaller, Code.cUnits])
/-- what is handed out: a truth value; behind True it may be woken -/
def AY (Y : Cx) (pin : List (Addr × Obj)) (σw : L2.St) (F : Bool → Hp → Prop) : Protocol := fun _ _ v s kap =>
  ∃ (b : Bool) (H : Hp), v = .bool b ∧ Inv Y pin σw H s ∧ (b = false → F false H) ∧ (b = true → ∀ g' : Array GenState, AllBare g' → kap (.send .none) { s with gens := g' })
def AP (Y : Cx) (pin : List (Addr × Obj)) (σw : L2.St) (F : Bool → Hp → Prop) : Nat → Shared → Shared → Prop := fun _ _ s => ∃ H, Inv Y pin σw H s ∧ F true H
section
variable {X : Cx} {H0 : Hp} {s0 : Shared} {A : Around} {scope : Scope} {cv : Value} {fp : List Addr} {pin : List (Addr × Obj)} {σw : L2.St} {F : Bool → Hp → Prop} {vs : List Nat} {elt tg iter : Expr} {g : TG} {te : TE} {pos : Pos} {it : Addr} {J : It} {tn : Nat → Heap → Prop} {W : Nat → Hp → Prop} {n0 : Nat}
/-- what is known of the turns -/
def Turns (J : It) (g : TG) (te : TE) (σw : L2.St) (vs : List Nat) (F : Bool → Hp → Prop) (W : Nat → Hp → Prop) (n0 : Nat) : Prop :=
  (∀ i H, i < n0 → W i H → J.go i H ∧ ∀ x H', J.yld i H x H' → g x σw H' fun σ2 H2 => wipe σ2 vs = σw ∧ te σ2 H2 fun y H3 => ∃ b : Bool, y = .bl b ∧ (b = true → W (i + 1) H3) ∧ (b = false → F false H3)) ∧
  ∀ H, W n0 H → J.stop n0 H ∧ F true H
theorem seg_turns (T : Turn X.prog X.w X.K tg J fp it tn) (hg : PG (gCx X A s0 H0 scope cv fp) tg g) (he : PE (gCx X A s0 H0 scope cv fp) elt te) (hco : scope.isCoroutine = false) (hw : wipe σw vs = σw) (ht : Turns J g te σw vs F W n0)
    (hpin : ∀ p ∈ pin, p.1 ∉ fp) :
    ∀ (k i : Nat) (s₀ s : Shared) (H : Hp), i + k = n0 → Inv (gCx X A s0 H0 scope cv fp) pin σw H s → tn i s.heap → (∀ b ∈ fp, H b = none) → W i H →
      Seg (model X.prog X.w) A (fun n s₀ r s₁ => r = .ok .next ∧ AP (gCx X A s0 H0 scope cv fp) pin σw F n s₀ s₁) (AY (gCx X A s0 H0 scope cv fp) pin σw F) k s₀
        (.compLoop (.GeneratorExp elt [⟨tg, iter, [], 0⟩] scope pos) 0 (.ref it) .none (gEnv X scope s0.heap.objs.size cv))
        ((model X.prog X.w).den (.compLoop (.GeneratorExp elt [⟨tg, iter, [], 0⟩] scope pos) 0 (.ref it) .none (gEnv X scope s0.heap.objs.size cv))) [] s := by
  have stat : ∀ {σ' : L2.St} {H' : Hp} {s' : Shared}, Inv (gCx X A s0 H0 scope cv fp) pin σ' H' s' → (∀ b ∈ fp, H' b = none) → ∀ b ∈ fp, FpOk (gCx X A s0 H0 scope cv fp) pin H' b := fun {σ' H' s'} I' hn b hb =>
    ⟨hn b hb, (I'.ok.exf b hb).1, I'.ok.exfs b hb, .inl hb, fun x c e => (I'.ok.exf b hb).2 x c e, fun p hp z => hpin p (show p ∈ pin from hp) (z ▸ hb)⟩
  intro k
  induction k with
  | zero =>
    intro i s₀ s H hk I st hn w
    have hi : i = n0 := by omega
    subst hi
    obtain ⟨stop, q⟩ := ht.2 H w
    show Seg _ A _ _ _ s₀ _ ((compTurn (.GeneratorExp elt [⟨tg, iter, [], 0⟩] scope pos) 0 (.ref it) .none (gEnv X scope s0.heap.objs.size cv)).onRaise (leaving (gEnv X scope s0.heap.objs.size cv))) [] s
    rw [compTurn_gen, Sem.onRaise_eq_wrap]
    refine seg_bind_wrap (wpAny_standAt ?_)
    refine seg_bind_wrap ?_
    rw [over_comp]
    have td := T.done (gCx X A s0 H0 scope cv fp) rfl rfl rfl rfl i pin s σw H (fun _ _ => False) I (stat I hn) st stop
    refine thnF td fun r s6 ⟨hr, I6⟩ => ?_
    subst hr
    exact seg_end (.ok .next) ⟨rfl, H, I6, q⟩
  | succ k ih =>
    intro i s₀ s H hk I st hn w
    obtain ⟨go, step⟩ := ht.1 i H (by omega) w
    show Seg _ A _ _ _ s₀ _ ((compTurn (.GeneratorExp elt [⟨tg, iter, [], 0⟩] scope pos) 0 (.ref it) .none (gEnv X scope s0.heap.objs.size cv)).onRaise (leaving (gEnv X scope s0.heap.objs.size cv))) [] s
    rw [compTurn_gen, Sem.onRaise_eq_wrap]
    refine seg_bind_wrap (wpAny_standAt ?_)
    refine seg_bind_wrap ?_
    rw [over_comp]
    have ti := T.item (gCx X A s0 H0 scope cv fp) rfl rfl rfl rfl i pin s σw H (fun _ _ => False) I (stat I hn) st go
    refine thnF ti fun r s6 ⟨u, hr, h6⟩ => ?_
    subst hr
    refine seg_bind_wrap ?_
    rw [over_comp]
    refine thnF h6 fun _ s7 ⟨x, H7, I7, r7, y7, st7, n7⟩ => ?_
    have I7' := I7.pinned (stat I7 n7) (T.obj _ _ st7)
    refine seg_bind_wrap ?_
    rw [over_comp]
    refine thnF (hg.run _ s7 _ H7 x u _ I7' r7 (step x H7 y7)) fun _ s8 ⟨σ8, H8, I8, hw8, q8⟩ => ?_
    refine seg_bind_wrap (wpAny_tests_nil ?_)
    simp only [if_true]
    have hy : ∀ v, yieldOut (gEnv X scope s0.heap.objs.size cv) v = yieldValue v := fun v => by
      have hco' : (gEnv X scope s0.heap.objs.size cv).scope.isCoroutine = false := hco
      simp only [yieldOut, hco', Bool.false_eq_true, if_false]
    simp only [hy]
    rw [Sem.bind_eq_wrap', Sem.bind_eq_wrap', Sem.wrap_wrap, Sem.wrap_wrap]
    refine seg_wrap ?_
    rw [over_comp]
    refine thnF (he.run _ s8 σ8 H8 _ I8 q8) fun z s9 ⟨yv, H9, I9, r9, b, eb, qt, qf⟩ => ?_
    subst eb
    obtain rfl : z = Value.bool b := r9
    have pin' : ∀ c ∈ fp, ∀ o, s7.heap.get? c = some o → s9.heap.get? c = some o ∧ H9 c = none := fun c hc o e =>
      let z := I9.pin (c, o) (List.mem_append_right _ (List.mem_append_right _ (mem_pinsAt hc e)))
      ⟨z.1, z.2.1⟩
    have I10 : Inv (gCx X A s0 H0 scope cv fp) pin σw H9 s9 := (I9.unpinned (pins := pin)).weak (by rw [← hw8, wipe_length]) (fun j v e => by
      rw [← hw8] at e
      exact (wipe_some e).1)
    refine seg_at (seg_yield rfl rfl rfl ⟨b, H9, rfl, I10, qf, fun hb g' hg' => ?_⟩)
    refine seg_again rfl (ih (i + 1) _ _ H9 (by omega) (inv_gens I10 hg') (T.keep _ _ _ st7 fun c hc o e => (pin' c hc o e).1) (fun c hc => ?_) (qt hb))
    obtain ⟨o, e, _⟩ := T.obj _ _ st7 c hc
    exact (pin' c hc o e).2
theorem seg_begin (T : Turn X.prog X.w X.K tg J fp it tn) (hg : PG (gCx X A s0 H0 scope cv fp) tg g) (he : PE (gCx X A s0 H0 scope cv fp) elt te) (hco : scope.isCoroutine = false) (hw : wipe σw vs = σw) (ht : Turns J g te σw vs F W n0)
    (hpin : ∀ p ∈ pin, p.1 ∉ fp) {s₀ s : Shared} {H : Hp} (I : Inv (gCx X A s0 H0 scope cv fp) pin σw H s) (st : tn 0 s.heap) (hn : ∀ b ∈ fp, H b = none) (w : W 0 H) :
      Seg (model X.prog X.w) A (fun n s₀ r s₁ => r = .ok .next ∧ AP (gCx X A s0 H0 scope cv fp) pin σw F n s₀ s₁) (AY (gCx X A s0 H0 scope cv fp) pin σw F) n0 s₀
        (.compStart (.GeneratorExp elt [⟨tg, iter, [], 0⟩] scope pos) 0 (.ref it) .none (gEnv X scope s0.heap.objs.size cv))
        ((model X.prog X.w).den (.compStart (.GeneratorExp elt [⟨tg, iter, [], 0⟩] scope pos) 0 (.ref it) .none (gEnv X scope s0.heap.objs.size cv))) [] s := by
  have loop := seg_turns (iter := iter) (pos := pos) T hg he hco hw ht hpin n0 0 s₀ s H (Nat.zero_add _) I st hn w
  show Seg _ A _ _ _ s₀ _ ((compStart (.GeneratorExp elt [⟨tg, iter, [], 0⟩] scope pos) 0 (.ref it) .none (gEnv X scope s0.heap.objs.size cv)).onRaise (leaving (gEnv X scope s0.heap.objs.size cv))) [] s
  unfold compStart
  rw [Sem.onRaise_eq_wrap]
  show Seg _ A _ _ _ s₀ _ ((ask >>= _).wrap _ _ _ _) [] s
  refine seg_bind_wrap (wpAny_askSetting ?_)
  split
  · exact seg_again rfl loop
  · first
      | exact seg_bind_wrap (wpAny_rule (seg_bind_wrap (wpAny_standAt (seg_bind_wrap (T.self _ 0 s _ _ st (seg_again rfl loop))))))
      | (refine seg_bind_wrap (wpAny_rule ?_); show Seg _ A _ _ _ s₀ _ ((standAt iter.pos >>= _).wrap _ _ _ _) [] s; exact seg_bind_wrap (wpAny_standAt (seg_bind_wrap (T.self _ 0 s _ _ st (seg_again rfl loop)))))
end
/-- between two wakings -/
def Ready (P : Program) (w : World) (B : Around) (Y : Cx) (pin : List (Addr × Obj)) (σw : L2.St) (Fb : Bool → Hp → Prop) (g : Nat) (k : Nat) (s : Shared) : Prop :=
  g < s.gens.size ∧ ∃ (gs : GenState) (H : Hp), s.gens[g]? = some gs ∧ Inv Y pin σw H s ∧ gs.Goes (model P w) B (fun n s₀ r s₁ => r = .ok .next ∧ AP Y pin σw Fb n s₀ s₁) (AY Y pin σw Fb) k (.send .none) (s.setGen g .running)
section
variable {P : Program} {w : World} {B : Around} {Y : Cx} {pin : List (Addr × Obj)} {σw : L2.St} {Fb : Bool → Hp → Prop} {g : Nat} {a : Addr} {o : Obj} {R : Result → Shared → Prop}
theorem all_turns (hh : B.handled = none) (hroom : B.depth < recursionLimit) (ha : (a, o) ∈ pin) (hgen : ∀ h : Heap, h.get? a = some o → h.IsGen a g)
    (hR : ∀ b H s', Inv Y pin σw H s' → Fb b H → R (.ok (.ret (.bool b))) s') :
    ∀ (k : Nat) (s : Shared), Ready P w B.in1.in1 Y pin σw Fb g k s → codeAny (model P w) B (.builtin "all.loop" ⟨[.ref a], []⟩) R s := by
  intro k
  induction k with
  | zero =>
    intro s hs
    obtain ⟨hlt, gs, H, hgs, I, hgo⟩ := hs
    have hg : s.heap.IsGen a g := hgen _ (I.pin (a, o) (List.mem_append_right _ ha)).1
    refine codeAny_builtin F.entry_all_loop ?_
    rw [Around.under_plainId F.plain_all_loop _]
    show wpAny _ B.in1 (pyNext (.ref a) >>= _) _ _ s
    refine wpAny_bind (wpAny_pyNext_genexpQ (A := B.in1) hh I.nolimit hroom hg hgs hgo (fun v s₁ gs' hbare hv => ?_) (fun s₁ hp h' hk => ?_))
    · obtain ⟨b, H1, rfl, I1, qf, qt⟩ := hv
      cases b with
      | true => exact (qt rfl s₁.gens I1.bare).elim
      | false =>
        refine wpAny_bind (wpAny_holding (wpAny_truthy_bool ?_))
        refine wpAny_bind (wpAny_letGo ?_)
        simp only [Bool.false_eq_true, if_false]
        refine wpAny_bind (wpAny_rule (wpAny_pure ?_))
        exact hR false H1 _ (inv_gens I1 (allBare_setGen I1.bare hbare)) (qf rfl)
    · obtain ⟨H1, I1, q⟩ := hp
      refine wpAny_bind (wpAny_rule (wpAny_pure ?_))
      exact hR true H1 _ ((inv_gens I1 (allBare_setGen (g := g) (x := .finished) I1.bare rfl)).kept (t' := s₁.toks) hk) q
  | succ k ih =>
    intro s hs
    obtain ⟨hlt, gs, H, hgs, I, hgo⟩ := hs
    have hg : s.heap.IsGen a g := hgen _ (I.pin (a, o) (List.mem_append_right _ ha)).1
    refine codeAny_builtin F.entry_all_loop ?_
    rw [Around.under_plainId F.plain_all_loop _]
    show wpAny _ B.in1 (pyNext (.ref a) >>= _) _ _ s
    refine wpAny_bind (wpAny_gsz (n := g + 1) hlt (wpAny_pyNext_genexpQ (A := B.in1) hh I.nolimit hroom hg hgs hgo (fun v s₁ gs' hbare hv => fun hsz => ?_) (fun s₁ hp h' hk => fun hsz => ?_)))
    · obtain ⟨b, H1, rfl, I1, qf, qt⟩ := hv
      refine wpAny_bind (wpAny_holding (wpAny_truthy_bool ?_))
      refine wpAny_bind (wpAny_letGo ?_)
      cases b with
      | true =>
        simp only [if_true]
        refine wpAny_pure ⟨plainId_quiet F.plain_all_loop _, ih _ ⟨hsz, gs', H1, ?_, inv_gens I1 (allBare_setGen I1.bare hbare), ?_⟩⟩
        · have h2 : g < s₁.gens.size := by
            have e : (s₁.setGen g gs').gens.size = s₁.gens.size := setGen_size s₁ g gs'
            omega
          simp [Shared.setGen, h2]
        · exact qt rfl _ (allBare_setGen (allBare_setGen I1.bare hbare) rfl)
      | false =>
        simp only [Bool.false_eq_true, if_false]
        refine wpAny_bind (wpAny_rule (wpAny_pure ?_))
        exact hR false H1 _ (inv_gens I1 (allBare_setGen I1.bare hbare)) (qf rfl)
    · obtain ⟨H1, I1, q⟩ := hp
      refine wpAny_bind (wpAny_rule (wpAny_pure ?_))
      exact hR true H1 _ ((inv_gens I1 (allBare_setGen (g := g) (x := .finished) I1.bare rfl)).kept (t' := s₁.toks) hk) q
end
end Gx
set_option Elab.async false
set_option linter.all false
set_option maxRecDepth 100000
set_option maxHeartbeats 2000000
namespace Gx
open PySem PySem.Spec PyProof.Rows L2 GenW
open LamX (TabB Tabs TabS CodeO ExtN inv_table among_app codeO_ne)
/-- all(elt for target in iter): J the turns; behind the making a table of code objects may have grown; W by the turn -/
def tAllG (T : List (Addr × Str)) (wi : TI) (g : TG) (te : TE) (vs : List Nat) : TE := fun σ H Q => wi σ H fun J H1 => Tabs T H1 ∧ ∀ H2, ExtN H1 H2 → Tabs T H2 →
  ∃ (W : Nat → Hp → Prop) (n0 : Nat), W 0 H2 ∧ Turns J g te (wipe σ vs) vs (fun b H' => Q (.bl b) H') W n0
/-- a code object is noted in its table -/
theorem grow {T : List (Addr × Str)} {H : Hp} {P c' : Addr} {q : Str} {ps : Array Value} {pos : Pos} (hm : (P, q) ∈ T) (hu : ∀ p ∈ T, p.1 = P → p.2 = q) (hT : Tabs T H) (hP : H P = some (.tbl ps)) (ht : TriplesOk ps.toList) (nC : H c' = none) :
    ExtN H (upd (upd H P (.tbl (ps ++ #[rawInt pos.line, rawInt pos.col, .ref c']))) c' (CodeO c' q)) ∧ Tabs T (upd (upd H P (.tbl (ps ++ #[rawInt pos.line, rawInt pos.col, .ref c']))) c' (CodeO c' q)) := by
  have hE : ExtN H (upd (upd H P (.tbl (ps ++ #[rawInt pos.line, rawInt pos.col, .ref c']))) c' (CodeO c' q)) := fun b o e n => by
    have h1 : b ≠ c' := ne_of_none e nC
    have h2 : b ≠ P := fun z => by
      rw [z, hP] at e
      exact n ps (Option.some.inj e).symm
    rw [upd_ne h1, upd_ne h2, e]
  have eL : (ps ++ #[rawInt pos.line, rawInt pos.col, Value.ref c']).toList = ps.toList ++ [rawInt pos.line, rawInt pos.col, .ref c'] := by simp
  refine ⟨hE, fun p hp => ?_⟩
  obtain ⟨ps1, k1, k2, k3⟩ := hT p hp
  have old : ∀ (p' : Pos) (cv : Value), codeAmong p' ps1.toList = some cv → ∃ c, cv = .ref c ∧ upd (upd H P (.tbl (ps ++ #[rawInt pos.line, rawInt pos.col, .ref c']))) c' (CodeO c' q) c = some (CodeO c p.2) := fun p' cv hcv => by
    obtain ⟨c0, e1, e2⟩ := k3 p' cv hcv
    exact ⟨c0, e1, hE _ _ e2 codeO_ne⟩
  by_cases hb : p.1 = P
  · have e1 : ps1 = ps := by
      rw [hb, hP] at k1
      cases k1
      rfl
    subst e1
    rw [hu p hp hb] at old ⊢
    rw [hb]
    refine ⟨_, by rw [upd_ne (ne_of_none hP nC), upd_same], by rw [eL]; exact PySem.TriplesOk_snoc _ _ _ _ ht, fun p' cv hcv => ?_⟩
    rw [eL] at hcv
    rcases among_app _ ht hcv with z | z
    · exact old p' cv z
    · exact ⟨c', z, upd_same⟩
  · exact ⟨ps1, by rw [upd_ne (ne_of_none k1 nC), upd_ne hb]; exact k1, k2, old⟩
theorem wipe_comm (σ : L2.St) (v : Nat) : ∀ vs : List Nat, wipe (σ.set v none) vs = (wipe σ vs).set v none
  | [] => rfl
  | u :: vs => by
    show (wipe (σ.set v none) vs).set u none = ((wipe σ vs).set u none).set v none
    rw [wipe_comm σ v vs]
    by_cases h : u = v
    · subst h; rfl
    · exact List.set_comm _ _ (fun e => h e.symm)
theorem wipe_wipe (σ : L2.St) : ∀ vs : List Nat, wipe (wipe σ vs) vs = wipe σ vs
  | [] => rfl
  | v :: vs => by
    show (wipe ((wipe σ vs).set v none) vs).set v none = (wipe σ vs).set v none
    rw [wipe_comm, wipe_wipe σ vs, List.set_set]
theorem boot_all : bootBuiltins "all" = some (.builtin "all") := by decide +kernel
section
variable {X : Cx}
theorem pe_allG {T : List (Addr × Str)} {c P : Addr} {elt tg iter : Expr} {p pos gpos : Pos} {scope : Scope} {own : List (Str × Nat)} {wi : TI} {g : TG} {te : TE} {k : Nat}
    (hr : Room (k + 3) X.A) (hc : X.calm = true) (hN : X.N.Nodup) (hgl : Gl X "all") (hm : X.mg "all" = none) (TB : TabB X.base X.mg c P) (hcode : X.env.code = .ref c) (hmT : (P, X.env.qual ++ "<genexpr>") ∈ T) (hu : ∀ p ∈ T, p.1 = P → p.2 = X.env.qual ++ "<genexpr>")
    (hi : PI X tg iter wi) (ok : BlkOk X.N X.env.scope scope own) (hnc : ∀ y ∈ scope.names, y.2 ≠ .cell) (hdot : scope.names.lookup (".0" : Str) = some NameKind.local) (hco : scope.isCoroutine = false)
    (hg : ∀ (A : Around) (s : Shared) (H : Hp) (cv : Value) (fp : List Addr), PG (gCx X A s H scope cv fp) tg g)
    (hel : ∀ (A : Around) (s : Shared) (H : Hp) (cv : Value) (fp : List Addr), Room k (gCx X A s H scope cv fp).A → PE (gCx X A s H scope cv fp) elt te)
    (hs : ∀ v, genFold iter X.env v = pure v := by intro _; rfl)
    (he : starEach [.GeneratorExp elt [⟨tg, iter, [], 0⟩] scope gpos] X.env = (false, eval (.GeneratorExp elt [⟨tg, iter, [], 0⟩] scope gpos) X.env) :: starEach [] X.env := by rfl) :
    PE X (.Call (.Name "all" p) [.GeneratorExp elt [⟨tg, iter, [], 0⟩] scope gpos] [] pos) (tAllG T wi g te (own.map (·.2))) := by
  refine ⟨fun pins s σ H Q I h => ?_⟩
  have hfree : ∀ y ∈ scope.names, y.2 = .free → ∃ c, X.env.cells.lookup y.1 = some c := fun y hy e => by
    rcases ok.free y hy e with k | k
    · exact I.ok.has _ (.inl k)
    · exact I.ok.has _ (.inr k)
  refine wpAny_Call_Name_kw (ld_blt I hgl hm boot_all ?_)
  refine PyProof.Rows.callWith_builtin1 ?_ he (by rfl)
  rw [he]
  show wpAny _ _ (spliced ((false, eval (.GeneratorExp elt [⟨tg, iter, [], 0⟩] scope gpos) X.env) :: backTo pos (starEach [] X.env))) _ _ s
  refine Calls.spliced_cons (wpAny_GeneratorExp_make hco (closure_ok hfree) hnc hdot ok.kind (by have := hr.dp; omega) (thn (hi.run pins s σ H _ I h) fun xv s1 hx => thn hx fun itv s2 h2 => ?_) hs)
  obtain ⟨it, fp, tn, J, H2, e, I2, Tn, st2, f2, hT2, q⟩ := h2
  subst e
  refine ⟨I2.nolimit, ?_⟩
  obtain ⟨ps, hP, htr, hno⟩ := hT2 _ hmT
  have hPs : s2.heap.get? P = some { cls := .none, data := .fields ps } := I2.hok P _ hP
  have cd : PySem.W.CodeHd s2.heap c P := TB.code.keeps fun b u e => I2.bk b u e
  -- the code object is there: what follows
  have cont : ∀ (cv : Value) (h3 : Heap) (tk : Nat) (H3 : Hp), Inv X pins σ H3 { s2 with heap := h3, toks := tk } → Heap.ExtBut P s2.heap h3 → s2.heap.objs.size ≤ h3.objs.size → ExtN H2 H3 → Tabs T H3 → (∀ b, b < s2.heap.objs.size → H2 b = none → H3 b = none) →
      wpAny (model X.prog X.w) X.A (builtinsFor X.env.globals X.env.builtins) (fun bi s₄ =>
        ∀ h', h'.Ns s₄.heap.objs.size (fun y => if y = ".0" then some (.ref it) else none) → Heap.SameBut s₄.heap.objs.size (s₄.heap.push { cls := .type "frame", data := .dict #[] }) h' →
          wpAny (model X.prog X.w) X.A (spliced (backTo pos (starEach [] X.env))) (fun vs s5 => wpAny (model X.prog X.w) X.A (call (.builtin "all") (.ref h'.objs.size :: vs)) (EP X pins σ Q) X.xe s5) X.xe { s₄ with
            gens := s₄.gens.push (.fresh (.compStart (.GeneratorExp elt [⟨tg, iter, [], 0⟩] scope gpos) 0 (.ref it) .none (genEnv scope (cloFrom X.env.cells scope.names []) s₄.heap.objs.size cv bi X.env))),
            toks := s₄.toks + 1 + 1 + 1,
            heap := h'.push { cls := .type "generator", data := .fields #[.int s₄.gens.size 0, .str "<genexpr>" (s₄.toks + 1), .str (X.env.qual ++ "<genexpr>") (s₄.toks + 1 + 1)] } }) X.xe { s2 with heap := h3, toks := tk } := by
    intro cv h3 tk H3 J3 hx hsz hE3 hT3 hfresh
    obtain ⟨bm, ob, e1, e2, e3, e4, e5, e6, e7, e8⟩ := TB.bm
    have keep3 : ∀ b u, b ≠ P → s2.heap.get? b = some u → h3.get? b = some u := fun b u hb e => hx b u hb e
    refine wpAny_builtinsFor (m := X.mg) (by rw [I2.ok.glob]; exact (I2.mod.glob.keeps I2.bk).extBut hx TB.gP) e1 e2 (keep3 _ _ e4 (I2.bk _ _ e5)) e6 e7 e8 ?_
    intro h' hns hsb
    obtain ⟨W, n0, w0, turns⟩ := q H3 hE3 hT3
    have nP : ∀ b ∈ fp, b ≠ P := fun b hb z => by
      have z2 := (f2 b hb).1
      rw [z, hP] at z2
      cases z2
    have fp3 : ∀ b ∈ fp, FpOk X pins H3 b ∧ b < h3.objs.size := fun b hb => by
      obtain ⟨o, e, _⟩ := Tn.obj _ _ st2 b hb
      exact ⟨⟨hfresh b (Heap.lt_size e) (f2 b hb).1, (f2 b hb).2⟩, Nat.lt_of_lt_of_le (Heap.lt_size e) hsz⟩
    have st3 : tn 0 h3 := Tn.keep _ _ _ st2 fun b hb o e => keep3 b o (nP b hb) e
    have szh : h'.objs.size = h3.objs.size + 1 := by
      have := hsb.1
      rw [this]
      exact Heap.size_push ..
    have keep' : ∀ b o, h3.get? b = some o → h'.get? b = some o := fun b o e => hsb.extBut b o (Nat.ne_of_lt (Heap.lt_size e)) (Heap.get?_push_of_some _ e)
    refine Calls.spliced_nil ?_
    -- the consumer
    generalize ho : ({ cls := .type "generator", data := .fields #[.int s2.gens.size 0, .str "<genexpr>" (tk + 1), .str (X.env.qual ++ "<genexpr>") (tk + 1 + 1)] } : Obj) = o
    have keep5 : ∀ b u, h3.get? b = some u → (h'.push o).get? b = some u := fun b u e => Heap.get?_push_of_some _ (keep' b u e)
    have ha : (h'.push o).get? h'.objs.size = some o := Heap.get?_push_size _ (by rw [← ho]; rfl)
    have hgen : ∀ h : Heap, h.get? h'.objs.size = some o → h.IsGen h'.objs.size s2.gens.size := fun h e => by
      rw [← ho] at e
      exact ⟨_, _, _, e, rfl, rfl, rfl⟩
    generalize hgs : GenState.fresh (.compStart (.GeneratorExp elt [⟨tg, iter, [], 0⟩] scope gpos) 0 (.ref it) .none (genEnv scope (cloFrom X.env.cells scope.names []) h3.objs.size cv builtinsNs X.env)) = gs
    have hgb : gs.bare = true := by rw [← hgs]; rfl
    refine call_function_tree F.kind_all F.plain_all F.entry_all (F.args_all1 _) ?_
    unfold Builtin.«all»
    refine wpAny_bind (m := oneArg "all" _) (wpAny_pure ?_)
    refine wpAny_bind (wpAny_pyIter_gen (hgen _ ha) ?_)
    -- the generator's frame
    have hA : X.A.in1.in1.frames = some X.stack := J3.ok.frames
    have Y0 := gx_start (A := X.A.in1.in1) (scope := scope) (cv := cv) (own := own) (fp := fp) (h₁ := h'.push o) (tk := tk + 1 + 1 + 1) (g := s2.gens.push gs) J3 ok hN hnc hA hr.hd fp3 (hns.push _) keep5 (I2.bare.push hgb)
    have aNe : h'.objs.size ≠ h3.objs.size := by rw [szh]; exact Nat.succ_ne_self _
    have aN : H3 h'.objs.size = none := J3.hok.fresh (by show h3.objs.size ≤ h'.objs.size; omega)
    have Y1 : Inv (gCx X X.A.in1.in1 { s2 with heap := h3, toks := tk } H3 scope cv fp) [(h'.objs.size, o)] (wipe σ (own.map (·.2))) H3 { { s2 with heap := h3, toks := tk } with heap := h'.push o, toks := tk + 1 + 1 + 1, gens := s2.gens.push gs } := Y0.pins_of fun p hp => by
      rcases List.mem_cons.mp hp with e | e
      · subst e
        refine ⟨ha, aN, aNe, fun z => ?_, fun v z => ?_⟩
        · have hle : h3.objs.size ≤ h'.objs.size := by omega
          rcases List.mem_cons.mp (J3.stkSub _ z) with e | e
          · have hlt : X.env.locals < h3.objs.size := J3.lt
            have e' : h'.objs.size = X.env.locals := e
            have hlt' : (X.env.locals : Nat) < h3.objs.size := hlt
            rw [← e'] at hlt'
            exact absurd (Nat.lt_of_lt_of_le hlt' hle) (Nat.lt_irrefl _)
          · exact J3.nofs hle e
        · rw [← ho] at z; cases z
      · cases e
    have hroom : Room k (gCx X X.A.in1.in1 { s2 with heap := h3, toks := tk } H3 scope cv fp).A := (hr.in1.in1).deeper _
    have hpf : ∀ p ∈ [(h'.objs.size, o)], p.1 ∉ fp := fun p hp z => by
      rcases List.mem_cons.mp hp with e | e
      · subst e
        have h9 : h'.objs.size < h3.objs.size := (fp3 _ z).2
        omega
      · cases e
    refine wpAny_pure ⟨plainId_quiet F.plain_all_loop _, all_turns (w := X.w) (P := X.prog) (B := X.A) (Y := gCx X X.A.in1.in1 { s2 with heap := h3, toks := tk } H3 scope cv fp) (pin := [(h'.objs.size, o)]) (σw := wipe σ (own.map (·.2))) (Fb := fun b H' => Q (.bl b) H') (g := s2.gens.size) (a := h'.objs.size) (o := o)
      hr.hd (by have := hr.dp; omega) List.mem_cons_self hgen (fun b H' s' I' qq => ?_) n0 _ ⟨?_, gs, H3, ?_, Y1, ?_⟩⟩
    · exact ⟨.bl b, H', J3.call' (ch := fp) I'.os I'.base I'.hok I'.bare (fun b hb => ⟨(fp3 b hb).1.2.2.2.1, (fp3 b hb).1.2.1, (fp3 b hb).1.2.2.2.2.1, (fp3 b hb).1.2.2.2.2.2⟩), rfl, qq⟩
    · show s2.gens.size < (s2.gens.push gs).size
      rw [Array.size_push]; exact Nat.lt_succ_self _
    · show (s2.gens.push gs)[s2.gens.size]? = some gs
      simp
    · have hb5 : AllBare (Shared.setGen { s2 with gens := s2.gens.push gs } s2.gens.size .running).gens := allBare_setGen (s := { s2 with gens := s2.gens.push gs }) (I2.bare.push hgb) rfl
      subst hgs
      refine ⟨rfl, seg_begin (iter := iter) (pos := gpos) (pin := [(h'.objs.size, o)]) (F := fun b H' => Q (.bl b) H') Tn (hg X.A.in1.in1 { s2 with heap := h3, toks := tk } H3 cv fp) (hel X.A.in1.in1 { s2 with heap := h3, toks := tk } H3 cv fp hroom) hco (wipe_wipe _ _) turns hpf (inv_gens Y1 hb5) ?_ (fun b hb => (fp3 b hb).1.1) w0⟩
      exact Tn.keep _ _ _ st3 fun b _ u e => keep5 b u e
  cases hf : codeAmong gpos ps.toList with
  | none =>
    refine wpAny_genexprCodeX hcode (cd.code hPs htr) (cd.tab hPs) hf fun c' h' tk hx hge hlt hco' hrec htab' _ => ?_
    obtain ⟨c2, oc, vs, t, e2, hoc, hd, hv⟩ := hrec
    cases e2
    have nC : H2 c' = none := I2.hok.fresh hge
    obtain ⟨gE, gT⟩ := grow (pos := gpos) hmT hu hT2 hP htr nC
    have J3 := inv_table (t' := tk) (more := #[rawInt gpos.line, rawInt gpos.col, .ref c']) (h' := h') I2 hP (fun b o hb e => hx b o hb e) htab'.2 hge ⟨oc, vs, t, hoc, hd, hv⟩
    refine cont _ h' tk _ J3 hx (Nat.le_trans hge (Nat.le_of_lt hlt)) gE gT fun b hb hn => ?_
    have h1 : b ≠ c' := Nat.ne_of_lt (Nat.lt_of_lt_of_le hb hge)
    have h2 : b ≠ P := fun z => by
      rw [z, hP] at hn
      cases hn
    rw [upd_ne h1, upd_ne h2, hn]
  | some cv =>
    refine wpAny_genexprCode_hit hcode (cd.code hPs htr) hf ?_
    exact cont cv s2.heap s2.toks H2 I2 (Heap.ExtBut.refl _ _) (Nat.le_refl _) (ExtN.refl H2) hT2 fun _ _ h => h
end
end Gx
set_option Elab.async false
set_option linter.all false
set_option maxRecDepth 100000
set_option maxHeartbeats 2000000
/-! enumerate over a tuple; loops over enumerate; all() over tuples, zips, enumerations -/
namespace PySem
open Sem (wp)
open AutoSeq1 (wpAny_loadPart')
set_option maxHeartbeats 1000000 in
theorem meets_enumerate_newB1 {v : Value} {o : Obj} {H : Heap → Prop} (B : Begins v o H) :
    Meets (Builtin.«enumerate.__new__» ⟨[.type "enumerate", v], []⟩) (fun _ R s => H s.heap ∧
      R (.ok (.ret (.ref (s.heap.push o).objs.size))) { s with heap := (s.heap.push o).push { cls := .type "enumerate", data := .fields #[.none, .bool false, .ref s.heap.objs.size, rawInt 0, .none, .none] } }) :=
  .of_wp fun prog w A R s h => by
    obtain ⟨hp, g, d, tk, os⟩ := s; obtain ⟨h1, h⟩ := h
    have hsub := sub_enumerate
    have q1 : ∀ {A' : Around} {E : Value → Shared → Prop} {Q : Value → Shared → Prop}, Q (.ref hp.objs.size) ⟨hp.push o, g, d, tk, os⟩ → wpAny (model prog w) A' (pyIter v) Q E ⟨hp, g, d, tk, os⟩ :=
      fun q => B.iter prog w _ _ ⟨hp, g, d, tk, os⟩ _ h1 q
    wp_walk using q1
    refine wpAny_stack_any fun st => wpAny_pure ?_
    split
    · rename_i c _ _ _ _ _
      cases (c == Value.type "enumerate")
      · wp_walk using q1
        exact ⟨_, rfl, h⟩
      · wp_walk using q1
        exact ⟨_, rfl, h⟩
    · wp_walk using q1
      exact ⟨_, rfl, h⟩
section
variable {prog : Program} {w : World} {A : Around} {E : Value → Shared → Prop} {s : Shared}
theorem enum_begins1 {v : Value} {o : Obj} {H : Heap → Prop} {Q : Value → Shared → Prop} (B : Begins v o H) (h1 : H s.heap)
    (h : ∀ h', IsEnum h' (s.heap.objs.size + 1) s.heap.objs.size 0 .none → h'.get? s.heap.objs.size = some o → h'.objs.size = s.heap.objs.size + 2 →
      (∀ b o, s.heap.get? b = some o → h'.get? b = some o) → Q (.ref (s.heap.objs.size + 1)) { s with heap := h' }) :
    wpAny (model prog w) A (call (.type "enumerate") [v]) Q E s := by
  refine callType_new F.called_enumerate (by decide) (F.typeCall_enumerate_1 _) (F.newCall_enumerate_1 _) (fun obj => F.args_object_init_2 obj _) F.entry_enumerate_new
    (meets_enumerate_newB1 B) ⟨h1, ?_⟩
  have hz : (s.heap.push o).objs.size = s.heap.objs.size + 1 := Heap.size_push ..
  show _ ∧ _
  rw [hz]
  have he : IsEnum ((s.heap.push o).push { cls := .type "enumerate", data := .fields #[.none, .bool false, .ref s.heap.objs.size, rawInt 0, .none, .none] }) (s.heap.objs.size + 1) s.heap.objs.size 0 .none := by
    have := Heap.get?_push_size (s.heap.push o) (o := { cls := .type "enumerate", data := .fields #[.none, .bool false, .ref s.heap.objs.size, rawInt 0, .none, .none] }) rfl
    rw [hz] at this; exact this
  refine ⟨⟨_, he, rfl⟩, h _ he (Heap.get?_push_of_some _ (Heap.get?_push_size _ B.free)) (by rw [Heap.size_push, hz]) fun b o x => Heap.get?_push_of_some _ (Heap.get?_push_of_some _ x)⟩
end
end PySem
namespace Gx
open PySem PySem.Spec PyProof.Rows L2 RZ
def IteT (K : PySem.W.Frag) (a : Addr) : It :=
  ⟨fun i H => ∃ (xs : List V) (x : V), SqT K H a xs ∧ xs[i]? = some x, fun i H v H' => ∃ T x, v = .ref T ∧ H T = none ∧ H' = upd H T (.tup [.int (i : Nat), x]) ∧ ∀ xs, SqT K H a xs → xs[i]? = some x, fun i H => ∃ xs : List V, SqT K H a xs ∧ xs.length ≤ i⟩
theorem turn_enumT {P : Program} {w : World} {K : PySem.W.Frag} {elts : List Expr} {kk : Nat} {tpos : Pos} (a e it : Addr) (hal : a ≠ e ∧ a ≠ it) :
    Turn P w K (.Tuple elts kk tpos) (IteT K a) [e, it] e (fun i h => (∃ old, IsEnum h e it ((i : Nat) : Int) old) ∧ h.IsTupleIter it a i ∧ e ≠ it) where
  mem := by simp
  obj := fun i h st b hb => by
    obtain ⟨⟨old, he⟩, ⟨o, ho, hc, hd⟩, _⟩ := st
    have e' : b = e ∨ b = it := by simpa using hb
    rcases e' with z | z
    · rw [z]; exact ⟨_, he, fun v q => nomatch q⟩
    · rw [z]; exact ⟨o, ho, fun v q => by rw [hd] at q; cases q⟩
  keep := fun i h h' st k => let ⟨⟨old, he⟩, hi, hne⟩ := st; ⟨⟨old, k e (by simp) _ he⟩, hi.at fun o q => k it (by simp) o q, hne⟩
  item := by
    intro X hP hw hK hc i pins s σ H E I hf st hg
    subst hP hw hK
    obtain ⟨⟨old, he⟩, hit, hne⟩ := st
    obtain ⟨xs, x, hq, hx⟩ := hg
    obtain ⟨its, rv, p, hz⟩ := I.tuple hq
    obtain ⟨u, hu, ru⟩ := rv.get hx
    have hel : e < s.heap.objs.size := Heap.lt_size he
    have hil : it < s.heap.objs.size := by obtain ⟨_, q, _⟩ := hit; exact Heap.lt_size q
    have hlt : i < its.toArray.size := by
      rw [List.size_toArray]
      exact (List.getElem?_eq_some_iff.mp hu).1
    refine wpAny_pyNext_enum_itemC (Draws.tuple (A := X.A.in1) (I.ok.hd hc) it a hal.2 its.toArray) he ⟨hit, p⟩ hlt hne (fun z => ?_) fun x' h' tk hP' ho hit' hT hsz hk => ?_
    · rcases List.mem_cons.mp z with z | z
      · exact hne z
      · exact hal.1 (List.mem_singleton.mp z).symm
    · have ex : x' = u := by
        have h1 : its.toArray[i]? = some x' := hP'
        rw [show its.toArray[i]? = its[i]? by simp] at h1
        rw [hu] at h1
        exact (Option.some.inj h1).symm
      subst ex
      refine ⟨_, rfl, wpAny_letOwnedTupleGo_enum (s := { s with heap := h', toks := tk + 1 }) ho fun h'' he' sb => ?_⟩
      have hT2 : h''.get? s.heap.objs.size = some { cls := .type "tuple", data := .seq #[.int i tk, x'] } := (sb.2 _ (Nat.ne_of_gt hel)).trans hT
      have new : ObjOk X.prog X.w (upd H s.heap.objs.size (.tup [.int (i : Nat), x])) h'' s.heap.objs.size (.tup [.int (i : Nat), x]) :=
        ⟨by show 2 ≤ sizeLine; decide, [.int i tk, x'], .cons ⟨_, rfl⟩ (.cons ru .nil), ⟨_, hT2, rfl, _, rfl⟩⟩
      have I1 : Inv X pins σ (upd H s.heap.objs.size (.tup [.int (i : Nat), x])) { s with heap := h'', toks := tk + 1 } :=
        I.turnedNew (ch := [e, it]) (fun b ob hb q => (sb.2 b (fun z => hb (by simp [z]))).trans (hk b ob (fun z => hb (by simp [z])) (fun z => hb (by simp [z])) q)) hf (Nat.le_refl _) new
      refine ⟨.ref s.heap.objs.size, _, I1, rfl, ⟨_, x, rfl, I.hok.fresh (Nat.le_refl _), rfl, fun ys hy => by rw [I.tuple_inj hy hq]; exact hx⟩, ⟨⟨x', ?_⟩, hit'.1.at fun o q => (sb.2 it (Ne.symm hne)).trans q, hne⟩, fun b hb => ?_⟩
      · have e1 : ((i + 1 : Nat) : Int) = (i : Int) + 1 := by omega
        rw [e1]; exact he'
      · have hb' : b < s.heap.objs.size := by
          have e' : b = e ∨ b = it := by simpa using hb
          rcases e' with z | z
          · rw [z]; exact hel
          · rw [z]; exact hil
        rw [upd_ne (Nat.ne_of_lt hb')]
        exact (hf b hb).1
  done := by
    intro X hP hw hK hc i pins s σ H E I hf st hg
    subst hP hw hK
    obtain ⟨⟨old, he⟩, hit, hne⟩ := st
    obtain ⟨xs, hq, hx⟩ := hg
    obtain ⟨its, rv, p, hz⟩ := I.tuple hq
    obtain ⟨f0, f1, f2, f3, f4, f5⟩ := hf it (by simp)
    have hl := rv.length
    have hT : s.TypeIs (.ref e) "enumerate" := ⟨_, he, rfl⟩
    unfold pyNext
    refine wpAny_bind (wpAny_attempt (wpAny_callSpecial?_slot (name := Str.ofString "__next__") hT F.slot_enumerate_next
      (wpAny_call_entry F.slot_enumerate_next hT F.entry_enumerate_next ?_ (F.args_enumerate_next_1 _))))
    show wpAny _ _ (field (.ref e) 2 >>= _) _ _ _
    refine wpAny_bind (wpAny_field he rfl (x := .ref it) rfl ?_)
    refine wpAny_bind (RZ.nextOf_tuple_end (A := X.A.in1) (I.ok.hd hc) hit p (by simp; omega) fun h' x he' hx' => ?_)
    obtain ⟨o, ho, hc⟩ := hx'
    refine wpAny_bind (wpAny_isInstance (T := "StopIteration") (b := true) ⟨o, ho, hc⟩ isSubtype_stop ?_)
    exact wpAny_pure ⟨rfl, I.turned (t' := s.toks) (fun b o hb q => he' b o hb q) f0 f1 f3 f4 f5⟩
  self := fun A i s Q E st h => let ⟨⟨_, he⟩, _⟩ := st; wpAny_pyIter_enum he h
def iEnumT (K : PySem.W.Frag) (ta : TA) : TI := fun σ H R => ta σ H fun vs H1 => ∃ a xs, vs = [.ref a] ∧ SqT K H1 a xs ∧ R (IteT K a) H1
theorem pi_enumT {X : Cx} {e : Expr} {ta : TA} {p pos tpos : Pos} {elts : List Expr} {kk : Nat} (hg : Gl X "enumerate") (hm : X.mg "enumerate" = none) (ha : PA X [e] ta) (hs : starEach [e] X.env = [(false, eval e X.env)] := by rfl) :
    PI X (.Tuple elts kk tpos) (.Call (.Name "enumerate" p) [e] [] pos) (iEnumT X.K ta) := by
  refine ⟨fun pins s σ H R I h => ?_⟩
  refine Call_ (ld_blt I hg hm boot_enumerate (PyProof.Rows.callWith_type1 (thn (ha.run pos pins s σ H _ I h) fun us s1 ⟨vs, H1, I1, r1, q1⟩ => ?_) hs rfl))
  obtain ⟨a, xs, ex, hq, q⟩ := q1
  subst ex
  cases r1 with
  | cons r rr =>
    cases rr
    cases r
    obtain ⟨its, rv, p', hz⟩ := I1.tuple hq
    have hal : a < s1.heap.objs.size := p'.lt
    refine enum_begins1 (begins_tuple a its.toArray) p' fun h' he hit hsz hk => wpAny_pyIter_enum he ?_
    have I2 : Inv X pins σ H1 { s1 with heap := h' } := I1.kept (t' := s1.toks) hk
    refine ⟨s1.heap.objs.size + 1, [s1.heap.objs.size + 1, s1.heap.objs.size], _, _, H1, rfl, I2, turn_enumT a (s1.heap.objs.size + 1) s1.heap.objs.size ⟨Nat.ne_of_lt (Nat.lt_succ_of_lt hal), Nat.ne_of_lt hal⟩, ⟨⟨.none, he⟩, ⟨_, hit, rfl, rfl⟩, Nat.succ_ne_self _⟩, fun b hb => ?_, q⟩
    have e' : b = s1.heap.objs.size + 1 ∨ b = s1.heap.objs.size := by simpa using hb
    have hle : s1.heap.objs.size ≤ b := by
      rcases e' with z | z
      · rw [z]; exact Nat.le_add_right _ _
      · rw [z]; exact Nat.le_refl _
    exact I1.fpOk hle (I1.hok.fresh hle)
/-- for i, x in enumerate(a tuple) -/
theorem for_enumT {K : PySem.W.Frag} {a : Addr} {xs : List V} {g : TG} {tb : TS} {D : Ends} {σ : L2.St} {H : Hp} (Pv : Nat → L2.St → Hp → Prop) (h0 : Pv 0 σ H) (hl : ∀ i σ H, i ≤ xs.length → Pv i σ H → SqT K H a xs)
    (hs : ∀ (i : Nat) (x : V) (T : Addr) (σ : L2.St) (H : Hp), xs[i]? = some x → Pv i σ H → H T = none → g (.ref T) σ (upd H T (.tup [.int (i : Nat), x])) fun σ2 H2 => tb { D with nx := Pv (i + 1), ct := Pv (i + 1), bk := D.nx } σ2 H2) (hd : ∀ σ H, Pv xs.length σ H → D.nx σ H) :
    ∃ W : Nat → Nat → L2.St → Hp → Prop, (∃ m, W 0 m σ H) ∧ ∀ i m σ H, W i m σ H →
      ((IteT K a).stop i H ∧ D.nx σ H) ∨ ((IteT K a).go i H ∧ ∃ N : L2.St → Hp → Prop, (∀ σ' H', N σ' H' → ∃ m', m' < m ∧ W (i + 1) m' σ' H') ∧ ∀ x H', (IteT K a).yld i H x H' → g x σ H' fun σ2 H2 => tb { D with nx := N, ct := N, bk := D.nx } σ2 H2) := by
  refine ⟨fun i m σ H => m = xs.length - i ∧ i ≤ xs.length ∧ Pv i σ H, ⟨xs.length, by simp, Nat.zero_le _, h0⟩, ?_⟩
  rintro i m σ H ⟨rfl, hi, p⟩
  have q := hl i σ H hi p
  by_cases hlt : i < xs.length
  · refine .inr ⟨⟨xs, xs[i], q, by simp [hlt]⟩, Pv (i + 1), fun σ' H' p' => ⟨xs.length - (i + 1), by omega, rfl, hlt, p'⟩, fun x H' y => ?_⟩
    obtain ⟨T, x, rfl, hT, rfl, y⟩ := y
    exact hs i x T σ H (y xs q) p hT
  · have e : i = xs.length := by omega
    subst e
    exact .inl ⟨⟨xs, q, Nat.le_refl _⟩, hd σ H p⟩
/-- for i, x in enumerate(a list) -/
theorem for_enumL {K : PySem.W.Frag} {a : Addr} {xs : List V} {g : TG} {tb : TS} {D : Ends} {σ : L2.St} {H : Hp} (Pv : Nat → L2.St → Hp → Prop) (h0 : Pv 0 σ H) (hl : ∀ i σ H, i ≤ xs.length → Pv i σ H → SqL K H a xs)
    (hs : ∀ (i : Nat) (x : V) (T : Addr) (σ : L2.St) (H : Hp), xs[i]? = some x → Pv i σ H → H T = none → g (.ref T) σ (upd H T (.tup [.int (i : Nat), x])) fun σ2 H2 => tb { D with nx := Pv (i + 1), ct := Pv (i + 1), bk := D.nx } σ2 H2) (hd : ∀ σ H, Pv xs.length σ H → D.nx σ H) :
    ∃ W : Nat → Nat → L2.St → Hp → Prop, (∃ m, W 0 m σ H) ∧ ∀ i m σ H, W i m σ H →
      ((Ite K a).stop i H ∧ D.nx σ H) ∨ ((Ite K a).go i H ∧ ∃ N : L2.St → Hp → Prop, (∀ σ' H', N σ' H' → ∃ m', m' < m ∧ W (i + 1) m' σ' H') ∧ ∀ x H', (Ite K a).yld i H x H' → g x σ H' fun σ2 H2 => tb { D with nx := N, ct := N, bk := D.nx } σ2 H2) := by
  refine ⟨fun i m σ H => m = xs.length - i ∧ i ≤ xs.length ∧ Pv i σ H, ⟨xs.length, by simp, Nat.zero_le _, h0⟩, ?_⟩
  rintro i m σ H ⟨rfl, hi, p⟩
  have q := hl i σ H hi p
  by_cases hlt : i < xs.length
  · refine .inr ⟨⟨xs, xs[i], q, by simp [hlt]⟩, Pv (i + 1), fun σ' H' p' => ⟨xs.length - (i + 1), by omega, rfl, hlt, p'⟩, fun x H' y => ?_⟩
    obtain ⟨T, x, rfl, hT, rfl, y⟩ := y
    exact hs i x T σ H (y xs q) p hT
  · have e : i = xs.length := by omega
    subst e
    exact .inl ⟨⟨xs, q, Nat.le_refl _⟩, hd σ H p⟩
/-! ### all() over these -/
section
variable {K : PySem.W.Frag} {a b : Addr} {xs ys : List V} {g : TG} {te : TE} {σw : L2.St} {vs : List Nat} {F : Bool → Hp → Prop} {H : Hp}
theorem all_tup (Pv : Nat → Hp → Prop) (h0 : Pv 0 H) (hl : ∀ i H, i ≤ xs.length → Pv i H → SqT K H a xs)
    (hs : ∀ i x H, xs[i]? = some x → Pv i H → g x σw H fun σ2 H2 => wipe σ2 vs = σw ∧ te σ2 H2 fun y H3 => ∃ b : Bool, y = .bl b ∧ (b = true → Pv (i + 1) H3) ∧ (b = false → F false H3)) (hd : ∀ H, Pv xs.length H → F true H) :
    ∃ (W : Nat → Hp → Prop) (n0 : Nat), W 0 H ∧ Turns (Itt K a) g te σw vs F W n0 := by
  refine ⟨Pv, xs.length, h0, fun i H hi p => ?_, fun H p => ⟨⟨xs, hl _ H (Nat.le_refl _) p, Nat.le_refl _⟩, hd H p⟩⟩
  have q := hl i H (Nat.le_of_lt hi) p
  refine ⟨⟨xs, xs[i], q, by simp [hi]⟩, fun x H' y => ?_⟩
  obtain ⟨rfl, y⟩ := y
  exact hs i x _ (y xs q) p
theorem all_zipT (hxy : xs.length = ys.length) (Pv : Nat → Hp → Prop) (h0 : Pv 0 H) (hl : ∀ i H, i ≤ xs.length → Pv i H → SqT K H a xs ∧ SqT K H b ys)
    (hs : ∀ i x y (T : Addr) H, xs[i]? = some x → ys[i]? = some y → Pv i H → H T = none → g (.ref T) σw (upd H T (.tup [x, y])) fun σ2 H2 => wipe σ2 vs = σw ∧ te σ2 H2 fun y H3 => ∃ b : Bool, y = .bl b ∧ (b = true → Pv (i + 1) H3) ∧ (b = false → F false H3)) (hd : ∀ H, Pv xs.length H → F true H) :
    ∃ (W : Nat → Hp → Prop) (n0 : Nat), W 0 H ∧ Turns (ItzT K a b) g te σw vs F W n0 := by
  refine ⟨Pv, xs.length, h0, fun i H hi p => ?_, fun H p => ⟨⟨xs, ys, (hl _ H (Nat.le_refl _) p).1, (hl _ H (Nat.le_refl _) p).2, .inl (Nat.le_refl _)⟩, hd H p⟩⟩
  have q := hl i H (Nat.le_of_lt hi) p
  have hi2 : i < ys.length := by omega
  refine ⟨⟨xs, ys, xs[i], ys[i], q.1, q.2, by simp [hi], by simp [hi2]⟩, fun x H' y => ?_⟩
  obtain ⟨T, x, y, rfl, hT, rfl, h1, h2⟩ := y
  exact hs i x y T H (h1 xs q.1) (h2 ys q.2) p hT
/-- where the second is shorter -/
theorem all_zipT2 (hxy : ys.length ≤ xs.length) (Pv : Nat → Hp → Prop) (h0 : Pv 0 H) (hl : ∀ i H, i ≤ ys.length → Pv i H → SqT K H a xs ∧ SqT K H b ys)
    (hs : ∀ i x y (T : Addr) H, xs[i]? = some x → ys[i]? = some y → Pv i H → H T = none → g (.ref T) σw (upd H T (.tup [x, y])) fun σ2 H2 => wipe σ2 vs = σw ∧ te σ2 H2 fun y H3 => ∃ b : Bool, y = .bl b ∧ (b = true → Pv (i + 1) H3) ∧ (b = false → F false H3)) (hd : ∀ H, Pv ys.length H → F true H) :
    ∃ (W : Nat → Hp → Prop) (n0 : Nat), W 0 H ∧ Turns (ItzT K a b) g te σw vs F W n0 := by
  refine ⟨Pv, ys.length, h0, fun i H hi p => ?_, fun H p => ⟨⟨xs, ys, (hl _ H (Nat.le_refl _) p).1, (hl _ H (Nat.le_refl _) p).2, .inr (Nat.le_refl _)⟩, hd H p⟩⟩
  have q := hl i H (Nat.le_of_lt hi) p
  have hi2 : i < xs.length := by omega
  refine ⟨⟨xs, ys, xs[i], ys[i], q.1, q.2, by simp [hi2], by simp [hi]⟩, fun x H' y => ?_⟩
  obtain ⟨T, x, y, rfl, hT, rfl, h1, h2⟩ := y
  exact hs i x y T H (h1 xs q.1) (h2 ys q.2) p hT
theorem all_enumT (Pv : Nat → Hp → Prop) (h0 : Pv 0 H) (hl : ∀ i H, i ≤ xs.length → Pv i H → SqT K H a xs)
    (hs : ∀ (i : Nat) x (T : Addr) H, xs[i]? = some x → Pv i H → H T = none → g (.ref T) σw (upd H T (.tup [.int (i : Nat), x])) fun σ2 H2 => wipe σ2 vs = σw ∧ te σ2 H2 fun y H3 => ∃ b : Bool, y = .bl b ∧ (b = true → Pv (i + 1) H3) ∧ (b = false → F false H3)) (hd : ∀ H, Pv xs.length H → F true H) :
    ∃ (W : Nat → Hp → Prop) (n0 : Nat), W 0 H ∧ Turns (IteT K a) g te σw vs F W n0 := by
  refine ⟨Pv, xs.length, h0, fun i H hi p => ?_, fun H p => ⟨⟨xs, hl _ H (Nat.le_refl _) p, Nat.le_refl _⟩, hd H p⟩⟩
  have q := hl i H (Nat.le_of_lt hi) p
  refine ⟨⟨xs, xs[i], q, by simp [hi]⟩, fun x H' y => ?_⟩
  obtain ⟨T, x, rfl, hT, rfl, y⟩ := y
  exact hs i x T H (y xs q) p hT
end
end Gx
set_option Elab.async false
set_option linter.all false
set_option maxRecDepth 100000
set_option maxHeartbeats 4000000
/-! The text by places; what a call leaves; small words -/
namespace K60
open PySem PySem.Spec PyProof.Rows L2 Gx
open LamX (TabB Tabs TabS CodeO ExtN)
def top (i : Nat) : Stmt := PySem.Challenge.pw_nightslates_k60_whole_texts.main.body.getD i (.Pass ⟨0, 0, 0, 0⟩)
/-! ### what a call leaves -/
/-- p is none of what is tracked in H (but for tables) -/
def Nw (H : Hp) (p : Addr) : Prop := ∀ b o, H b = some o → (∀ ps, o ≠ .tbl ps) → b ≠ p
theorem Nw.of {H : Hp} {p : Addr} (h : H p = none) : Nw H p := fun b o e _ => ne_of_none e h
theorem Nw.back {H H' : Hp} {p : Addr} (e : ExtN H H') (h : Nw H' p) : Nw H p := fun b o q n => h b o (e b o q n) n
theorem Nw.ext {H H' : Hp} {p : Addr} (e : ExtN H H') (h : H' p = none) : Nw H p := (Nw.of h).back e
theorem Nw.ne {H : Hp} {p b : Addr} {o : HO} (h : Nw H p) (e : H b = some o) (n : ∀ ps, o ≠ .tbl ps) : b ≠ p := h b o e n
theorem extN_upd {H H' : Hp} {p : Addr} {o : HO} (e : ExtN H H') (h : Nw H p) : ExtN H (upd H' p o) := fun b u q n => by
  rw [upd_ne (h b u q n)]
  exact e b u q n
theorem extN_new {H : Hp} {p : Addr} {o : HO} (h : H p = none) : ExtN H (upd H p o) := extN_upd (ExtN.refl H) (Nw.of h)
theorem tup_ne (xs : List V) : ∀ ps, HO.tup xs ≠ .tbl ps := fun ps h => by cases h
theorem lst_ne (xs : List V) : ∀ ps, HO.lst xs ≠ .tbl ps := fun ps h => by cases h
theorem dK_ne (xs : List (Key × V)) : ∀ ps, HO.dK xs ≠ .tbl ps := fun ps h => by cases h
theorem xd_ne (xs : List (Str × V)) : ∀ ps, HO.xd xs ≠ .tbl ps := fun ps h => by cases h
theorem frz_ne (o : Obj) (u : HO) : ∀ ps, HO.frz o u ≠ .tbl ps := fun ps h => by cases h
theorem tabs_new {T : List (Addr × Str)} {H : Hp} {p : Addr} {o : HO} (t : Tabs T H) (h : H p = none) : Tabs T (upd H p o) := t.ext fun b u e => by rw [upd_ne (ne_of_none e h)]; exact e
/-- a list (a dict) that stands is written -/
theorem tabs_mut {T : List (Addr × Str)} {H : Hp} {p : Addr} {o u : HO} (t : Tabs T H) (h : H p = some u) (n : ∀ ps, u ≠ .tbl ps) (n2 : ∀ c q, u ≠ CodeO c q) : Tabs T (upd H p o) := fun x hx => by
  obtain ⟨ps, h1, h2, h3⟩ := t x hx
  have e1 : x.1 ≠ p := fun z => by
    rw [z, h] at h1
    exact n ps (Option.some.inj h1)
  refine ⟨ps, by rw [upd_ne e1]; exact h1, h2, fun pos cv hc => ?_⟩
  obtain ⟨c, e2, e3⟩ := h3 pos cv hc
  have e4 : c ≠ p := fun z => by
    rw [z, h] at e3
    exact n2 _ _ (Option.some.inj e3)
  exact ⟨c, e2, by rw [upd_ne e4]; exact e3⟩
theorem lst_nc (xs : List V) : ∀ c q, HO.lst xs ≠ CodeO c q := fun c q h => by unfold CodeO at h; cases h
theorem dK_nc (xs : List (Key × V)) : ∀ c q, HO.dK xs ≠ CodeO c q := fun c q h => by unfold CodeO at h; cases h
theorem tabs_lst {T : List (Addr × Str)} {H : Hp} {p : Addr} {xs : List V} {o : HO} (t : Tabs T H) (h : H p = some (.lst xs)) : Tabs T (upd H p o) := tabs_mut t h (lst_ne xs) (lst_nc xs)
theorem tabs_dK {T : List (Addr × Str)} {H : Hp} {p : Addr} {xs : List (Key × V)} {o : HO} (t : Tabs T H) (h : H p = some (.dK xs)) : Tabs T (upd H p o) := tabs_mut t h (dK_ne xs) (dK_nc xs)
/-- behind a call that leaves all (but for tables), the tables in order -/
def Out (T : List (Addr × Str)) (H : Hp) (k : Hp → Prop) : Prop := ∀ H', ExtN H H' → Tabs T H' → k H'
theorem ExtN.tup {H H' : Hp} (e : ExtN H H') {a : Addr} {xs : List V} (h : H a = some (.tup xs)) : H' a = some (.tup xs) := e _ _ h (tup_ne xs)
theorem ExtN.lst {H H' : Hp} (e : ExtN H H') {a : Addr} {xs : List V} (h : H a = some (.lst xs)) : H' a = some (.lst xs) := e _ _ h (lst_ne xs)
theorem upd_tup {H : Hp} {p a : Addr} {o : HO} {xs : List V} (hp : H p = none) (h : H a = some (.tup xs)) : upd H p o a = some (.tup xs) := by rw [upd_ne (ne_of_none h hp)]; exact h
theorem upd_lst {H : Hp} {p a : Addr} {o : HO} {xs : List V} (hp : H p = none) (h : H a = some (.lst xs)) : upd H p o a = some (.lst xs) := by rw [upd_ne (ne_of_none h hp)]; exact h
/-! ### numbers -/
abbrev nv (n : Nat) : V := .int (n : Int)
theorem small {n : Nat} (h : n ≤ 16777216) : n ≤ sizeLine := by rw [sizeLine_eq]; exact h
/-! ### the written part -/
/-- a def of the text -/
structure Df (K : PySem.W.Frag) (mg : Str → Option Value) (x : Str) (st : Stmt) (ps : List Str) (f : Addr) (fd : FuncData) : Prop where
  F : Fun K x x st f fd
  g : mg x = some (.ref f)
  b : Binds K fd ps []
theorem Df.kp {K : PySem.W.Frag} {mg : Str → Option Value} {x : Str} {st : Stmt} {ps : List Str} {f : Addr} {fd : FuncData} (D : Df K mg x st ps f fd) : PySem.W.keepIn K (.ref f) = true := D.F.kp
/-- the built-ins are what they are -/
structure Bl (mg : Str → Option Value) : Prop where
  len : mg "len" = none
  isi : mg "isinstance" = none
  int : mg "int" = none
  bool : mg "bool" = none
  str : mg "str" = none
  tuple : mg "tuple" = none
  list : mg "list" = none
  all : mg "all" = none
  zip : mg "zip" = none
  enumerate : mg "enumerate" = none
  range : mg "range" = none
  max : mg "max" = none
  sorted : mg "sorted" = none
  set : mg "set" = none
  mc : ∃ u, mg "MOST_CLERKS" = some u ∧ RelV (.int 7) u
  ms : ∃ u, mg "MOST_SIGNS" = some u ∧ RelV (.int 3) u
  me : ∃ u, mg "MOST_EVENING" = some u ∧ RelV (.int 200) u
  fg : ∃ u, mg "FIGURES" = some u ∧ RelV (.str "0123456789") u
/-- a table of a def's code objects -/
structure Tbl (T : List (Addr × Str)) (base : Heap) (mg : Str → Option Value) (K : PySem.W.Frag) (f : Addr) (fd : FuncData) (q : Str) (P : Addr) : Prop where
  cd : ∃ c, fd.code = .ref c ∧ TabB base mg c P
  mem : (P, q) ∈ T
  uq : ∀ p ∈ T, p.1 = P → p.2 = q
/-! ### isinstance against one built-in type -/
theorem k_ii : kitB "int" "int" = some true := by decide +kernel
theorem k_ib : kitB "int" "bool" = some false := by decide +kernel
theorem k_is : kitB "int" "str" = some false := by decide +kernel
theorem k_tt : kitB "tuple" "tuple" = some true := by decide +kernel
theorem k_ti : kitB "tuple" "int" = some false := by decide +kernel
theorem k_ts : kitB "tuple" "str" = some false := by decide +kernel
theorem k_tl : kitB "tuple" "list" = some false := by decide +kernel
theorem k_lt : kitB "list" "tuple" = some false := by decide +kernel
theorem k_ll : kitB "list" "list" = some true := by decide +kernel
theorem k_li : kitB "list" "int" = some false := by decide +kernel
theorem k_ss : kitB "str" "str" = some true := by decide +kernel
theorem k_st : kitB "str" "tuple" = some false := by decide +kernel
theorem k_sl : kitB "str" "list" = some false := by decide +kernel
theorem k_ns : kitB "NoneType" "str" = some false := by decide +kernel
theorem k_it : kitB "int" "tuple" = some false := by decide +kernel
theorem k_il : kitB "int" "list" = some false := by decide +kernel
def rIsiB (K : PySem.W.Frag) : List V → Hp → VK → Prop := fun xs H Q => ∃ (x : V) (n t : String) (b : Bool), xs = [x, .ty n] ∧ TyX K H x (.type t) ∧ kitB t n = some b ∧ Q (.bl b) H
theorem call_isiB {X : Cx} : CallR X (.builtin "isinstance") (rIsiB X.K) := fun pins s σ H xs us Q I r h => by
  obtain ⟨x, n, t, b, rfl, ty, e, q⟩ := h
  exact call_isi pins s σ H _ us Q I r ⟨x, .ty n, .type t, .type n, b, rfl, .ty n, ty, kit_ty e, q⟩
theorem boot_isi : bootBuiltins "isinstance" = some (.builtin "isinstance") := by decide +kernel
theorem boot_int : bootBuiltins "int" = some (.type "int") := by decide +kernel
theorem boot_bool : bootBuiltins "bool" = some (.type "bool") := by decide +kernel
theorem boot_str : bootBuiltins "str" = some (.type "str") := by decide +kernel
theorem boot_tuple : bootBuiltins "tuple" = some (.type "tuple") := by decide +kernel
theorem boot_list : bootBuiltins "list" = some (.type "list") := by decide +kernel
theorem boot_set : bootBuiltins "set" = some (.type "set") := by decide +kernel
theorem boot_max : bootBuiltins "max" = some (.builtin "max") := by decide +kernel
theorem boot_sorted : bootBuiltins "sorted" = some (.builtin "sorted") := by decide +kernel
theorem TyX.int {K : PySem.W.Frag} {H : Hp} (i : Int) : TyX K H (.int i) (.type "int") := .base (.int i)
theorem TyX.tup {K : PySem.W.Frag} {H : Hp} {a : Addr} {xs : List V} (h : H a = some (.tup xs)) : TyX K H (.ref a) (.type "tuple") := .base (.tup h)
theorem TyX.lst {K : PySem.W.Frag} {H : Hp} {a : Addr} {xs : List V} (h : H a = some (.lst xs)) : TyX K H (.ref a) (.type "list") := .base (.lst h)
theorem TyX.str {K : PySem.W.Frag} {H : Hp} (z : Str) : TyX K H (.str z) (.type "str") := .base (.str z)
theorem TyX.non {K : PySem.W.Frag} {H : Hp} : TyX K H .non (.type "NoneType") := .base .non
/-! ### a target of two names -/
def g2 (K : PySem.W.Frag) (i j : Nat) : TG := gTup K 2 (gCons (gName i) (gCons (gName j) gNil))
theorem pg2 {X : Cx} (K : PySem.W.Frag) (i j : Nat) {x y : Str} {p1 p2 pos : Pos} {k : Nat} (hK : X.K = K) (hc : X.calm = true) (hN : X.N.Nodup) (hi : X.N[i]? = some x) (hj : X.N[j]? = some y) (hx : Loc X.env.scope x) (hy : Loc X.env.scope y)
    (fx : X.fn x = true ∨ X.env.scope.names.lookup x = some .local) (fy : X.fn y = true ∨ X.env.scope.names.lookup y = some .local)
    (h1 : (assignEach [.Name x p1, .Name y p2] X.env).map (·.2) = assign (.Name x p1) X.env :: (assignEach [.Name y p2] X.env).map (·.2) := by rfl) (h2 : (assignEach [.Name y p2] X.env).map (·.2) = assign (.Name y p2) X.env :: (assignEach [] X.env).map (·.2) := by rfl)
    (hn : (assignEach [.Name x p1, .Name y p2] X.env).length = 2 := by rfl) (hst : (assignEach [.Name x p1, .Name y p2] X.env).findIdx? (·.1) = none := by rfl) : PG X (.Tuple [.Name x p1, .Name y p2] k pos) (g2 K i j) := by
  subst hK
  exact pg_tup hc (pgs_cons (pg_name hN hi hx fx) (pgs_cons (pg_name hN hj hy fy) pgs_nil h2) h1) hn hst
/-! ### tuples and lists that stand -/
theorem sqT_ext {K : PySem.W.Frag} {H H' : Hp} {a : Addr} {xs : List V} (e : ExtN H H') (h : SqT K H a xs) : SqT K H' a xs := by
  rcases h with (h | ⟨o, h⟩) | h
  · exact .inl (.inl (e _ _ h (tup_ne xs)))
  · exact .inl (.inr ⟨o, e _ _ h (frz_ne _ _)⟩)
  · exact .inr h
theorem sqL_ext {K : PySem.W.Frag} {H H' : Hp} {a : Addr} {xs : List V} (e : ExtN H H') (h : SqL K H a xs) : SqL K H' a xs := by
  rcases h with (h | ⟨o, h⟩) | h
  · exact .inl (.inl (e _ _ h (lst_ne xs)))
  · exact .inl (.inr ⟨o, e _ _ h (frz_ne _ _)⟩)
  · exact .inr h
theorem sqT_upd {K : PySem.W.Frag} {H : Hp} {p a : Addr} {o : HO} {xs : List V} (hp : H p = none) (h : SqT K H a xs) : SqT K (upd H p o) a xs := sqT_ext (extN_new hp) h
theorem sqL_upd {K : PySem.W.Frag} {H : Hp} {p a : Addr} {o : HO} {xs : List V} (hp : H p = none) (h : SqL K H a xs) : SqL K (upd H p o) a xs := sqL_ext (extN_new hp) h
theorem TyX.sqT {K : PySem.W.Frag} {H : Hp} {a : Addr} {xs : List V} (h : SqT K H a xs) : TyX K H (.ref a) (.type "tuple") := by
  rcases h with (h | ⟨o, h⟩) | ⟨o, its, n, h, c, _⟩
  · exact .base (.tup h)
  · exact .fTuple h
  · exact .kTuple h c
theorem ixT (K : PySem.W.Frag) {X : Cx} (h : X.K = K) : IxR X (rIxT K) := h ▸ ix_tup
theorem ixL (K : PySem.W.Frag) {X : Cx} (h : X.K = K) : IxR X (rIxL K) := h ▸ ix_list
theorem ixS (K : PySem.W.Frag) {X : Cx} (h : X.K = K) : IxR X (rIx K) := h ▸ ix_seq
def rLen (K : PySem.W.Frag) : List V → Hp → VK → Prop := fun xs H Q => ∃ p ys, xs = [.ref p] ∧ (SqL K H p ys ∨ SqT K H p ys) ∧ Q (.int ys.length) H
theorem lenK (K : PySem.W.Frag) {X : Cx} (h : X.K = K) : CallR X (.builtin "len") (rLen K) := by
  subst h
  exact call_len_seq
theorem isiK (K : PySem.W.Frag) {X : Cx} (h : X.K = K) : CallR X (.builtin "isinstance") (rIsiB K) := h ▸ call_isiB
/-! ### is_number -/
abbrev sNum : Stmt := top 8
theorem scNum : FnScope ["value", "low", "high"] ["value", "low", "high"] (defScope sNum) := ⟨rfl, rfl, rfl, by decide +kernel, rfl, by decide +kernel, by decide +kernel⟩
def numB (v lo hi : Int) : Bool := decide (lo ≤ v) && decide (v ≤ hi)
def spNum : Sp := fun vs H Q _ => ∃ v lo hi : Int, vs = [.int v, .int lo, .int hi] ∧ Q (.bl (numB v lo hi)) H
section
variable {P : Program} {w : World} {K : PySem.W.Frag} {mg : Str → Option Value} {base : Heap}
theorem ok_num {f : Addr} {fd : FuncData} (F : Fun K "is_number" "is_number" sNum f fd) (B : Bl mg) : FnOk P w K mg base CX0 1 f fd ["value", "low", "high"] spNum := by
  refine F.ok scNum (fun vs H Q E h => ?_) (fun cdv A outer s H vs Q E hr h => ?_)
  · obtain ⟨v, lo, hi, rfl, _⟩ := h
    rfl
  · obtain ⟨v, lo, hi, rfl, k⟩ := h
    refine ⟨_, pss_one (ps_ret (pe_and (pe_callB call_isiB (by rfl) B.isi boot_isi (pa_cons (pv 0) (pa_cons (pe_bltn (v := .ty "int") (by rfl) B.int boot_int rfl) pa_nil)))
      (pe_and (pe_not (pe_callB call_isiB (by rfl) B.isi boot_isi (pa_cons (pv 0) (pa_cons (pe_bltn (v := .ty "bool") (by rfl) B.bool boot_bool rfl) pa_nil))))
      (pe_one (pe_chain op_le op_le (pv 1) (pv 0) (pv 2)))))), ?_⟩
    refine ⟨_, rfl, _, "int", "int", true, rfl, TyX.int v, k_ii, true, rfl, iteT ?_⟩
    refine ⟨_, rfl, _, "bool", "int", false, rfl, TyX.int v, k_ib, false, rfl, true, rfl, iteT ?_⟩
    refine ⟨_, rfl, _, rfl, _, _, rfl, rfl, _, rfl, ?_⟩
    unfold numB at k
    by_cases c : lo ≤ v
    · rw [decide_eq_true c] at k ⊢
      exact iteT ⟨_, rfl, _, _, rfl, rfl, k⟩
    · rw [decide_eq_false c] at k ⊢
      exact iteF k
end
end K60
set_option Elab.async false
set_option linter.all false
set_option maxRecDepth 100000
set_option maxHeartbeats 4000000
/-! is_lot -/
namespace K60
open PySem PySem.Spec PyProof.Rows L2 Gx RZ
open LamX (TabB Tabs TabS CodeO ExtN)
section
variable {P : Program} {w : World} {K : PySem.W.Frag} {mg : Str → Option Value} {base : Heap}
/-- as Fun.ok, the code object told -/
theorem okC {x qual : Str} {st : Stmt} {f : Addr} {fd : FuncData} {N ps : List Str} {k : Nat} {sp : Sp} (F : Fun K x qual st f fd) (S : FnScope N ps (defScope st)) (len : ∀ vs H Q E, sp vs H Q E → vs.length = ps.length)
    (hbody : ∀ (cdv : Value), fd.code = cdv → ∀ (A : Around) (outer : List Env) (s : Shared) (H : Hp) (vs : List V) (Q : VK) (E : XK), Room k (A.deeper (envOfC qual (defScope st) s.heap.objs.size f cdv)) → sp vs H Q E →
      ∃ t, PSs (cxOf CX0 P w K mg base N qual (defScope st) f cdv A outer s H E).nox (defBody st) t ∧ t { nx := fun _ H' => Q .non H', rt := Q } (start N vs) H) : FnOk P w K mg base CX0 (k + 1) f fd ps sp := by
  obtain ⟨oc, od, kV, doc, pm, an, cdv, ct, osl, rfl, lk, hcd⟩ := F.ex
  refine fn_of lk hcd S len fun A outer s H vs Q E hr hsp => ?_
  obtain ⟨t, h, q⟩ := hbody cdv rfl A outer s H vs Q E hr hsp
  exact ⟨t, h.nox, q⟩
/-- .. of a def that may raise -/
theorem okXC {x qual : Str} {st : Stmt} {f : Addr} {fd : FuncData} {N ps : List Str} {k : Nat} {sp : Sp} (F : Fun K x qual st f fd) (S : FnScope N ps (defScope st)) (len : ∀ vs H Q E, sp vs H Q E → vs.length = ps.length)
    (hbody : ∀ (cdv : Value), fd.code = cdv → ∀ (A : Around) (outer : List Env) (s : Shared) (H : Hp) (vs : List V) (Q : VK) (E : XK), Room k (A.deeper (envOfC qual (defScope st) s.heap.objs.size f cdv)) → sp vs H Q E →
      ∃ t, PSs (cxOf (L2.CX P w) P w K mg base N qual (defScope st) f cdv A outer s H E) (defBody st) t ∧ t { nx := fun _ H' => Q .non H', rt := Q } (start N vs) H) : FnOk P w K mg base (L2.CX P w) (k + 1) f fd ps sp := by
  obtain ⟨oc, od, kV, doc, pm, an, cdv, ct, osl, rfl, lk, hcd⟩ := F.ex
  exact fn_of lk hcd S len fun A outer s H vs Q E hr hsp => hbody cdv rfl A outer s H vs Q E hr hsp
end
/-- the name of a def's generator expressions -/
def gq (x : Str) : Str := (x ++ ".<locals>.") ++ "<genexpr>"
/-- a def's table -/
structure Tb (T : List (Addr × Str)) (base : Heap) (mg : Str → Option Value) (fd : FuncData) (q : Str) : Prop where
  ex : ∃ c P, fd.code = .ref c ∧ TabB base mg c P ∧ (P, q) ∈ T ∧ ∀ p ∈ T, p.1 = P → p.2 = q
def ascB (ns : List Int) : Bool := (ns.zip ns.tail).all fun p => decide (p.1 < p.2)
def lotB (m : Int) (ns : List Int) : Bool := (ns.all fun n => numB n 0 (m - 1)) && ascB ns
def spLot (K : PySem.W.Frag) (T : List (Addr × Str)) : Sp := fun vs H Q _ => ∃ (m : Int) (a : Addr) (ns : List Int), vs = [.int m, .ref a] ∧ SqT K H a (ns.map V.int) ∧ Tabs T H ∧ Out T H fun H' => Q (.bl (lotB m ns)) H'
abbrev sLot : Stmt := top 9
theorem scLot : FnScope ["many", "value", "one", "other"] ["many", "value"] (defScope sLot) := ⟨rfl, rfl, rfl, by decide +kernel, rfl, by decide +kernel, by decide +kernel⟩
theorem map_get {α β : Type} {f : α → β} {l : List α} {i : Nat} {y : β} (h : (l.map f)[i]? = some y) : ∃ x, l[i]? = some x ∧ y = f x := by
  rw [List.getElem?_map] at h
  cases e : l[i]? with
  | none =>
    rw [e] at h
    cases h
  | some x =>
    rw [e] at h
    exact ⟨x, rfl, (Option.some.inj h).symm⟩
theorem all_take {α : Type} {p : α → Bool} {l : List α} {i : Nat} {x : α} (h : l[i]? = some x) (ht : (l.take i).all p = true) (hp : p x = true) : (l.take (i + 1)).all p = true := by
  rw [List.take_add_one, h, List.all_append, ht]
  simp [hp]
theorem all_false {α : Type} {p : α → Bool} {l : List α} {i : Nat} {x : α} (h : l[i]? = some x) (hp : p x = false) : l.all p = false := by
  rw [List.all_eq_false]
  exact ⟨x, List.mem_of_getElem? h, by simp [hp]⟩
theorem cut_tail (xs : List V) : cutV xs (some 1) none = xs.tail := by
  unfold cutV
  rw [HT.sIx_none, show (some (1 : Int)) = some ((1 : Nat) : Int) from rfl, HT.sIx_nat]
  cases xs with
  | nil => rfl
  | cons x xs =>
    have e : min 1 (x :: xs).length = 1 := by simp
    rw [e]
    simp
theorem cut_tail_whole (xs : List V) : (HT.sIx xs.length 0 (some 1) = 0 ∧ HT.sIx xs.length xs.length none = xs.length) ↔ xs = [] := by
  rw [HT.sIx_none, show (some (1 : Int)) = some ((1 : Nat) : Int) from rfl, HT.sIx_nat]
  cases xs with
  | nil => simp
  | cons x xs => simp
section
variable {P : Program} {w : World} {K : PySem.W.Frag} {mg : Str → Option Value} {base : Heap} {T : List (Addr × Str)}
theorem ok_lot {f fN : Addr} {fd fdN : FuncData} (F : Fun K "is_lot" "is_lot" sLot f fd) (tb : Tb T base mg fd (gq "is_lot")) (B : Bl mg) (DN : Df K mg "is_number" sNum ["value", "low", "high"] fN fdN) :
    FnOk P w K mg base CX0 5 f fd ["many", "value"] (spLot K T) := by
  have GN : FnOk P w K mg base CX0 1 fN fdN ["value", "low", "high"] spNum := ok_num DN.F B
  refine okC F scLot (fun vs H Q E h => ?_) (fun cdv hcd A outer s H vs Q E hr h => ?_)
  · obtain ⟨m, a, ns, rfl, _⟩ := h
    rfl
  · obtain ⟨m, a, ns, rfl, ha, hT, k⟩ := h
    obtain ⟨c, Pt, hc, TB, hm, hu⟩ := tb.ex
    rw [hc] at hcd
    have hrg : Room (1 + 3) (A.deeper (envOfC "is_lot" (defScope sLot) s.heap.objs.size f cdv)) := hr.mono (by decide)
    refine ⟨_, pss_cons (ps_if (PW.pt (pw_or (pt_not (pt_val (pe_callB call_isiB (by rfl) B.isi boot_isi (pa_cons (pv 1) (pa_cons (pe_bltn (v := .ty "tuple") (by rfl) B.tuple boot_tuple rfl) pa_nil)))))
        (pw_or1 (pt_not (pt_val (pe_allG (T := T) (c := c) (P := Pt) (own := [("one", 2)]) hrg rfl scLot.nd (by rfl) B.all TB hcd.symm hm hu (pi_tup (pv 1)) (blkOk_by (N := ["many", "value", "one", "other"]) (sc := defScope sLot) (by decide +kernel)) (by decide +kernel) (by decide +kernel) rfl
          (fun _ _ _ _ _ => pg_name (i := 2) scLot.nd rfl (Or.inl rfl))
          (fun _ _ _ _ _ hr2 => pe_call GN hr2 (by rfl) DN.g DN.kp DN.b .nil pass0 (pa_cons (pv 2) (pa_cons pe_int (pa_cons (pe_op op_sub (pv 0) pe_int) pa_nil)))))))))) (pss_one (ps_ret pe_bl)) pss_nil)
      (pss_one (ps_ret (pe_allG (T := T) (c := c) (P := Pt) (own := [("one", 2), ("other", 3)]) hrg rfl scLot.nd (by rfl) B.all TB hcd.symm hm hu
        (pi_zipA (by rfl) B.zip (pa_cons (pv 1) (pa_cons (pe_slice sl_tupA (pv 1) (po_some pe_int) po_none) pa_nil))) (blkOk_by (N := ["many", "value", "one", "other"]) (sc := defScope sLot) (by decide +kernel)) (by decide +kernel) (by decide +kernel) rfl
        (fun _ _ _ _ _ => pg2 K 2 3 rfl rfl scLot.nd rfl rfl (Or.inl rfl) (Or.inl rfl) (Or.inr rfl) (Or.inr rfl))
        (fun _ _ _ _ _ hr2 => pe_cmpR op_lt (pv 2) (pv 3) (nomark _))))), ?_⟩
    refine ⟨_, rfl, _, "tuple", "tuple", true, rfl, TyX.sqT ha, k_tt, true, rfl, iteF ?_⟩
    refine ⟨_, rfl, a, rfl, ⟨_, ha⟩, hT, fun H2 e2 t2 => all_tup (xs := ns.map V.int) (fun i H' => ExtN H H' ∧ Tabs T H' ∧ ((ns.take i).all fun n => numB n 0 (m - 1)) = true) ⟨e2, t2, rfl⟩ (fun i H' _ p => sqT_ext p.1 ha) ?_ ?_⟩
    · rintro i x H' hx ⟨e3, t3, hall⟩
      obtain ⟨z, hz, rfl⟩ := map_get hx
      refine ⟨rfl, _, rfl, _, rfl, _, _, rfl, rfl, z, 0, m - 1, rfl, numB z 0 (m - 1), rfl, fun hb => ⟨e3, t3, all_take hz hall hb⟩, fun hb => ?_⟩
      refine ⟨false, rfl, iteT ?_⟩
      have e : lotB m ns = false := by
        unfold lotB
        rw [all_false hz hb]
        rfl
      have q := k H' e3 t3
      rw [e] at q
      exact q
    · rintro H' ⟨e3, t3, hall⟩
      rw [List.length_map, List.take_length] at hall
      refine ⟨true, rfl, iteF ?_⟩
      have key : ∀ (b : Addr) (H2 : Hp), ExtN H H2 → Tabs T H2 → SqT K H2 b (ns.tail.map V.int) → ∀ H4, ExtN H2 H4 → Tabs T H4 →
          ∃ (W : Nat → Hp → Prop) (n0 : Nat), W 0 H4 ∧ Turns (ItzT K a b) (g2 K 2 3) (tOp (rI0 fun i j => .bl (decide (i < j))) (tVar 2) (tVar 3)) (wipe (start ["many", "value", "one", "other"] [V.int m, V.ref a]) [2, 3]) [2, 3] (fun b H' => Q (.bl b) H') W n0 := by
        intro b H2 e4 t4 hb H4 e5 t5
        refine all_zipT2 (xs := ns.map V.int) (ys := ns.tail.map V.int) (by rw [List.length_map, List.length_map, List.length_tail]; omega) (fun i H' => ExtN H H' ∧ Tabs T H' ∧ SqT K H' b (ns.tail.map V.int) ∧ (((ns.zip ns.tail).take i).all fun p => decide (p.1 < p.2)) = true)
          ⟨e4.trans e5, t5, sqT_ext e5 hb, rfl⟩ (fun i H' _ p => ⟨sqT_ext p.1 ha, p.2.2.1⟩) ?_ ?_
        · rintro i x y Tp H' hx hy ⟨e6, t6, hb6, hall6⟩ hTp
          obtain ⟨z, hz, rfl⟩ := map_get hx
          obtain ⟨z2, hz2, rfl⟩ := map_get hy
          have hzz : (ns.zip ns.tail)[i]? = some (z, z2) := by rw [List.getElem?_zip_eq_some]; exact ⟨hz, hz2⟩
          refine ⟨Tp, _, rfl, SqT.of upd_same, rfl, _, _, rfl, _, _, rfl, rfl, rfl, _, rfl, _, rfl, _, _, rfl, rfl, decide (z < z2), rfl, fun hb7 => ⟨extN_upd e6 (Nw.ext e6 hTp), tabs_new t6 hTp, sqT_upd hTp hb6, all_take hzz hall6 hb7⟩, fun hb7 => ?_⟩
          have e : lotB m ns = false := by
            unfold lotB ascB
            rw [all_false hzz hb7, Bool.and_false]
          have q := k (upd H' Tp (.tup [.int z, .int z2])) (extN_upd e6 (Nw.ext e6 hTp)) (tabs_new t6 hTp)
          rw [e] at q
          exact q
        · rintro H' ⟨e6, t6, hb6, hall6⟩
          have e : lotB m ns = true := by
            unfold lotB ascB
            rw [hall]
            have e1 : (ns.zip ns.tail).take (ns.tail.map V.int).length = ns.zip ns.tail := by
              rw [List.length_map]
              apply List.take_of_length_le
              rw [List.length_zip]
              omega
            rw [e1] at hall6
            rw [hall6]
            rfl
          have q := k H' e6 t6
          rw [e] at q
          exact q
      refine ⟨_, rfl, _, rfl, 1, rfl, a, _, rfl, sqT_ext e3 ha, fun hw => ?_, fun hw p hp => ?_⟩
      · have e0 : ns = [] := List.map_eq_nil_iff.mp ((cut_tail_whole _).mp hw)
        refine ⟨a, a, _, _, rfl, .inr ⟨sqT_ext e3 ha, sqT_ext e3 ha, t3, fun H4 e5 t5 => key a H' e3 t3 ?_ H4 e5 t5⟩⟩
        have q := sqT_ext e3 ha
        rw [e0] at q ⊢
        exact q
      · refine ⟨a, p, _, _, rfl, .inr ⟨sqT_upd hp (sqT_ext e3 ha), SqT.of upd_same, tabs_new t3 hp, fun H4 e5 t5 => key p (upd H' p (.tup (cutV (ns.map V.int) (some 1) none))) (extN_upd e3 (Nw.ext e3 hp)) (tabs_new t3 hp) ?_ H4 e5 t5⟩⟩
        rw [List.map_tail, ← cut_tail]
        exact SqT.of upd_same
/-- over numbers that aren't negative -/
def lotN (m : Nat) (r : List Nat) : Bool := (r.all fun n => decide (n < m)) && (r.zip r.tail).all fun p => decide (p.1 < p.2)
def spLotN (K : PySem.W.Frag) (T : List (Addr × Str)) : Sp := fun vs H Q _ => ∃ (m : Nat) (a : Addr) (r : List Nat), vs = [nv m, .ref a] ∧ SqT K H a (r.map nv) ∧ Tabs T H ∧ Out T H fun H' => Q (.bl (lotN m r)) H'
theorem all_map {α β : Type} (f : α → β) (p : β → Bool) (l : List α) : (l.map f).all p = l.all fun x => p (f x) := by
  rw [List.all_map]; rfl
theorem lot_eq (m : Nat) (r : List Nat) : lotB (m : Int) (r.map fun n : Nat => (n : Int)) = lotN m r := by
  unfold lotB lotN ascB
  have e1 : ((r.map fun n : Nat => (n : Int)).all fun n => numB n 0 ((m : Int) - 1)) = r.all fun n => decide (n < m) := by
    rw [all_map]
    congr 1
    funext n
    unfold numB
    rw [Bool.eq_iff_iff]
    simp only [Bool.and_eq_true, decide_eq_true_eq]
    omega
  have e2 : ((r.map fun n : Nat => (n : Int)).zip (r.map fun n : Nat => (n : Int)).tail).all (fun p => decide (p.1 < p.2)) = (r.zip r.tail).all fun p => decide (p.1 < p.2) := by
    rw [← List.map_tail, List.zip_map, all_map]
    congr 1
    funext p
    show decide ((p.1 : Int) < (p.2 : Int)) = decide (p.1 < p.2)
    rw [Bool.eq_iff_iff]
    simp only [decide_eq_true_eq]
    omega
  rw [e1, e2]
theorem map_nv (r : List Nat) : r.map nv = (r.map fun n : Nat => (n : Int)).map V.int := by rw [List.map_map]; rfl
theorem lot_imp {K : PySem.W.Frag} {T : List (Addr × Str)} (vs : List V) (H : Hp) (Q : VK) (E : XK) (h : spLotN K T vs H Q E) : spLot K T vs H Q E := by
  obtain ⟨m, a, r, e, h1, h2, h3⟩ := h
  refine ⟨m, a, r.map fun n : Nat => (n : Int), e, by rw [← map_nv]; exact h1, h2, ?_⟩
  rw [lot_eq]
  exact h3
end
end K60
set_option Elab.async false
set_option linter.all false
set_option maxRecDepth 100000
set_option maxHeartbeats 4000000
/-! tuples of numbers, of such tuples ..; need_house -/
namespace K60
open PySem PySem.Spec PyProof.Rows L2 Gx RZ
open LamX (TabB Tabs TabS CodeO ExtN)
/-! ### data that stand -/
def TupI (K : PySem.W.Frag) (H : Hp) (v : V) (r : List Nat) : Prop := ∃ a, v = .ref a ∧ SqT K H a (r.map nv)
def TupR (K : PySem.W.Frag) (H : Hp) (v : V) (rs : List (List Nat)) : Prop := ∃ a xs, v = .ref a ∧ SqT K H a xs ∧ Paired (TupI K H) xs rs
def TupN (K : PySem.W.Frag) (H : Hp) (v : V) (ns : List (List (List Nat))) : Prop := ∃ a xs, v = .ref a ∧ SqT K H a xs ∧ Paired (TupR K H) xs ns
section
variable {K : PySem.W.Frag} {H H' : Hp} {v : V}
theorem TupI.ext {r : List Nat} (e : ExtN H H') (h : TupI K H v r) : TupI K H' v r := let ⟨a, e1, h1⟩ := h; ⟨a, e1, sqT_ext e h1⟩
theorem TupR.ext {rs : List (List Nat)} (e : ExtN H H') (h : TupR K H v rs) : TupR K H' v rs := let ⟨a, xs, e1, h1, h2⟩ := h; ⟨a, xs, e1, sqT_ext e h1, L2.Paired.mapP h2 fun _ _ q => q.ext e⟩
theorem TupN.ext {rs : List (List (List Nat))} (e : ExtN H H') (h : TupN K H v rs) : TupN K H' v rs := let ⟨a, xs, e1, h1, h2⟩ := h; ⟨a, xs, e1, sqT_ext e h1, L2.Paired.mapP h2 fun _ _ q => q.ext e⟩
theorem paired_get {α β : Type} {F : α → β → Prop} : ∀ {l : List α} {m : List β} {i : Nat} {x : α}, Paired F l m → l[i]? = some x → ∃ y, m[i]? = some y ∧ F x y
  | _, _, _, _, .nil, h => by simp at h
  | _, _, 0, x, .cons r _, h => by
    rw [List.getElem?_cons_zero] at h
    cases h
    exact ⟨_, rfl, r⟩
  | _, _, i + 1, x, .cons _ t, h => by
    rw [List.getElem?_cons_succ] at h
    obtain ⟨y, e, q⟩ := paired_get t h
    exact ⟨y, by rw [List.getElem?_cons_succ]; exact e, q⟩
theorem paired_get2 {α β : Type} {F : α → β → Prop} : ∀ {l : List α} {m : List β} {i : Nat} {y : β}, Paired F l m → m[i]? = some y → ∃ x, l[i]? = some x ∧ F x y
  | _, _, _, _, .nil, h => by simp at h
  | _, _, 0, x, .cons r _, h => by
    rw [List.getElem?_cons_zero] at h
    cases h
    exact ⟨_, rfl, r⟩
  | _, _, i + 1, x, .cons _ t, h => by
    rw [List.getElem?_cons_succ] at h
    obtain ⟨y, e, q⟩ := paired_get2 t h
    exact ⟨y, by rw [List.getElem?_cons_succ]; exact e, q⟩
theorem paired_snoc {α β : Type} {F : α → β → Prop} {x : α} {y : β} (q : F x y) : ∀ {l : List α} {m : List β}, Paired F l m → Paired F (l ++ [x]) (m ++ [y])
  | _, _, .nil => .cons q .nil
  | _, _, .cons r t => .cons r (paired_snoc q t)
/-! ### as data -/
def dI (r : List Nat) : PyData := .tuple (r.map fun n : Nat => PyData.int (n : Int))
def dR (rs : List (List Nat)) : PyData := .tuple (rs.map dI)
def dN (ns : List (List (List Nat))) : PyData := .tuple (ns.map dR)
theorem dp_nvs : ∀ r : List Nat, DpAll K H (r.map nv) (r.map fun n : Nat => PyData.int (n : Int))
  | [] => .nil
  | _ :: r => .cons (.int _) (dp_nvs r)
theorem TupI.dp {r : List Nat} (h : TupI K H v r) : Dp K H v (dI r) := by
  obtain ⟨a, rfl, h1⟩ := h
  exact .tup h1 (dp_nvs r)
theorem dp_all {α : Type} {F : V → α → Prop} {d : α → PyData} (h : ∀ x y, F x y → Dp K H x (d y)) : ∀ {xs : List V} {ys : List α}, Paired F xs ys → DpAll K H xs (ys.map d)
  | _, _, .nil => .nil
  | _, _, .cons r t => .cons (h _ _ r) (dp_all h t)
theorem TupR.dp {rs : List (List Nat)} (h : TupR K H v rs) : Dp K H v (dR rs) := by
  obtain ⟨a, xs, rfl, h1, h2⟩ := h
  exact .tup h1 (dp_all (fun _ _ q => q.dp) h2)
theorem TupN.dp {ns : List (List (List Nat))} (h : TupN K H v ns) : Dp K H v (dN ns) := by
  obtain ⟨a, xs, rfl, h1, h2⟩ := h
  exact .tup h1 (dp_all (fun _ _ q => q.dp) h2)
theorem dp_strs : ∀ zs : List Str, DpAll K H (zs.map V.str) (zs.map PyData.str)
  | [] => .nil
  | _ :: r => .cons (.str _) (dp_strs r)
end
mutual
theorem Dp.ext {K : PySem.W.Frag} {H H' : Hp} (e : ExtN H H') : ∀ (d : PyData) {v : V}, Dp K H v d → Dp K H' v d
  | .none, _, .non => .non
  | .bool _, _, .bl b => .bl b
  | .int _, _, .int i => .int i
  | .str _, _, .str x => .str x
  | .list _, _, .lst h1 h2 => .lst (sqL_ext e h1) (DpAll.ext e _ h2)
  | .tuple _, _, .tup h1 h2 => .tup (sqT_ext e h1) (DpAll.ext e _ h2)
theorem DpAll.ext {K : PySem.W.Frag} {H H' : Hp} (e : ExtN H H') : ∀ (ds : List PyData) {vs : List V}, DpAll K H vs ds → DpAll K H' vs ds
  | [], _, .nil => .nil
  | d :: ds, _, .cons h1 h2 => .cons (Dp.ext e d h1) (DpAll.ext e ds h2)
end
/-! ### data of small depth whose texts are in order -/
def Sh (k : Nat) (d : PyData) : Prop := d.canLay0 = true ∧ d.depth ≤ k
theorem sh_int (i : Int) : Sh 0 (.int i) := ⟨by simp [PyData.canLay0], by simp [PyData.depth]⟩
theorem sh_non : Sh 0 .none := ⟨by simp [PyData.canLay0], by simp [PyData.depth]⟩
theorem sh_str {x : Str} (h : PyData.canLay0 (.str x) = true) : Sh 0 (.str x) := ⟨h, by simp [PyData.depth]⟩
theorem sh_all {k : Nat} : ∀ {ds : List PyData}, (∀ d ∈ ds, Sh k d) → PyData.canLayAll0 ds = true ∧ PyData.depthAll ds ≤ k
  | [], _ => ⟨by simp [PyData.canLayAll0], by simp [PyData.depthAll]⟩
  | d :: ds, h => by
    obtain ⟨h1, h2⟩ := h d List.mem_cons_self
    obtain ⟨h3, h4⟩ := sh_all (ds := ds) fun x hx => h x (List.mem_cons_of_mem _ hx)
    exact ⟨by simp [PyData.canLayAll0, h1, h3], by simp only [PyData.depthAll]; omega⟩
theorem sh_tup {k : Nat} {ds : List PyData} (h : ∀ d ∈ ds, Sh k d) : Sh (k + 1) (.tuple ds) := by
  obtain ⟨h1, h2⟩ := sh_all h
  exact ⟨by simp [PyData.canLay0, h1], by simp only [PyData.depth]; omega⟩
theorem sh_lst {k : Nat} {ds : List PyData} (h : ∀ d ∈ ds, Sh k d) : Sh (k + 1) (.list ds) := by
  obtain ⟨h1, h2⟩ := sh_all h
  exact ⟨by simp [PyData.canLay0, h1], by simp only [PyData.depth]; omega⟩
theorem Sh.mono {j k : Nat} {d : PyData} (h : Sh j d) (l : j ≤ k) : Sh k d := ⟨h.1, Nat.le_trans h.2 l⟩
theorem Sh.ok {k : Nat} {d : PyData} (h : Sh k d) (l : k ≤ 64 := by decide) : SeqAt.shaped d = true := by
  unfold SeqAt.shaped
  rw [h.1, decide_eq_true (Nat.le_trans h.2 l)]
  rfl
theorem sh_dI (r : List Nat) : Sh 1 (dI r) := sh_tup fun d hd => by
  obtain ⟨n, _, rfl⟩ := List.mem_map.mp hd
  exact sh_int _
theorem sh_dR (rs : List (List Nat)) : Sh 2 (dR rs) := sh_tup fun d hd => by
  obtain ⟨n, _, rfl⟩ := List.mem_map.mp hd
  exact sh_dI _
theorem sh_dN (ns : List (List (List Nat))) : Sh 3 (dN ns) := sh_tup fun d hd => by
  obtain ⟨n, _, rfl⟩ := List.mem_map.mp hd
  exact sh_dR _
/-! ### a house -/
structure OkH (h : List (List Nat)) : Prop where
  lo : 1 ≤ h.length
  hi : h.length ≤ 7
  row : ∀ r ∈ h, r ≠ [] ∧ lotN h.length r = true
abbrev sHouse : Stmt := top 10
theorem scHouse : FnScope ["value", "clerk", "sights"] ["value"] (defScope sHouse) := ⟨rfl, rfl, rfl, by decide +kernel, rfl, by decide +kernel, by decide +kernel⟩
def spHouse (K : PySem.W.Frag) (T : List (Addr × Str)) : Sp := fun vs H Q _ => ∃ (v : V) (h : List (List Nat)), vs = [v] ∧ TupR K H v h ∧ OkH h ∧ Tabs T H ∧ Out T H fun H' => Q .non H'
theorem eqv_dI_nil {r : List Nat} (h : r ≠ []) : PyData.eqv (dI r) (.tuple []) = false := by
  cases r with
  | nil => exact absurd rfl h
  | cons n r => simp [dI, PyData.eqv, PyData.eqvAll]
section
variable {P : Program} {w : World} {K : PySem.W.Frag} {mg : Str → Option Value} {base : Heap} {T : List (Addr × Str)}
theorem ok_house {f fL : Addr} {fd fdL : FuncData} (F : Fun K "need_house" "need_house" sHouse f fd) (B : Bl mg) (DL : Df K mg "is_lot" sLot ["many", "value"] fL fdL) (GL : FnOk P w K mg base CX0 5 fL fdL ["many", "value"] (spLotN K T)) :
    FnOk P w K mg base CX0 6 f fd ["value"] (spHouse K T) := by
  refine F.ok scHouse (fun vs H Q E h => ?_) (fun cdv A outer s H vs Q E hr h => ?_)
  · obtain ⟨v, h, rfl, _⟩ := h
    rfl
  · obtain ⟨v, h, rfl, ⟨a, xs, rfl, ha, hx⟩, ok, hT, k⟩ := h
    obtain ⟨u, hmc, ru⟩ := B.mc
    refine ⟨_, pss_cons (ps_if (PW.pt (pw_or (pt_not (pt_val (pe_callB call_isiB (by rfl) B.isi boot_isi (pa_cons (pv 0) (pa_cons (pe_bltn (v := .ty "tuple") (by rfl) B.tuple boot_tuple rfl) pa_nil)))))
        (pw_or1 (pt_not (pt_chain op_le op_le pe_int (pe_callB call_len_seq (by rfl) B.len PySem.boot_len (pa_cons (pv 0) pa_nil)) (pe_glob (by rfl) hmc ru)))))) (pss_one ps_never) pss_nil)
      (pss_one (ps_for PassesOwn.never rfl (pi_enumT (by rfl) B.enumerate (pa_cons (pv 0) pa_nil)) (pg2 K 1 2 rfl rfl scHouse.nd rfl rfl (Or.inl rfl) (Or.inl rfl) (Or.inr rfl) (Or.inr rfl))
        (pss_one (ps_if (PW.pt (pw_or (pt_not (pt_val (pe_call GL hr (by rfl) DL.g DL.kp DL.b .nil pass0 (pa_cons (pe_callB call_len_seq (by rfl) B.len PySem.boot_len (pa_cons (pv 0) pa_nil)) (pa_cons (pv 2) pa_nil)))))
          (pw_or1 (pt_cmpR (op_eqD hr.units) (pv 2) (pe_tup pa_nil) (nomark _))))) (pss_one ps_never) pss_nil)))), ?_⟩
    have hlen : xs.length = h.length := hx.length
    refine ⟨_, rfl, _, "tuple", "tuple", true, rfl, TyX.sqT ha, k_tt, true, rfl, iteF ?_⟩
    have c1 : decide ((1 : Int) ≤ (xs.length : Int)) = true := decide_eq_true (by have := ok.lo; omega)
    have c2 : decide ((xs.length : Int) ≤ 7) = true := decide_eq_true (by have := ok.hi; omega)
    refine ⟨_, rfl, a, xs, rfl, .inr ha, _, _, rfl, rfl, true, congrArg V.bl c1, iteT ⟨_, _, rfl, rfl, true, congrArg V.bl c2, iteF ?_⟩⟩
    refine ⟨_, rfl, a, xs, rfl, ha, for_enumT (xs := xs) (fun i σ H' => ExtN H H' ∧ Tabs T H' ∧ ∃ v1 v2, σ = [some (.ref a), v1, v2]) ⟨ExtN.refl H, hT, none, none, rfl⟩ (fun i σ H' _ p => sqT_ext p.1 ha) ?_ ?_⟩
    · rintro i x Tp σ H' hi ⟨e1, t1, v1, v2, rfl⟩ hTp
      obtain ⟨r, hr1, b, rfl, hb⟩ := paired_get hx hi
      obtain ⟨hne, hlot⟩ := ok.row r (List.mem_of_getElem? hr1)
      have e2 : ExtN H (upd H' Tp (.tup [.int (i : Nat), .ref b])) := extN_upd e1 (Nw.ext e1 hTp)
      refine ⟨Tp, _, rfl, SqT.of upd_same, rfl, _, _, rfl, _, _, rfl, rfl, ?_⟩
      refine ⟨_, rfl, a, xs, rfl, .inr (sqT_ext e2 ha), _, rfl, h.length, b, r, by rw [hlen]; rfl, sqT_ext e2 hb, tabs_new t1 hTp, fun H2 e3 t3 => ?_⟩
      refine ⟨true, congrArg V.bl hlot, iteF ?_⟩
      refine ⟨_, rfl, Nat.zero_le _, fun q hq => ?_⟩
      have e4 : ExtN H (upd H2 q (.tup [])) := extN_upd (e2.trans e3) (Nw.ext (e2.trans e3) hq)
      refine ⟨dI r, .tuple [], TupI.dp ⟨b, rfl, sqT_ext e4 hb⟩, .tup (SqT.of upd_same) .nil, (sh_dI r).ok, (sh_tup (k := 0) (by simp)).ok, false, congrArg V.bl (eqv_dI_nil hne), iteF ?_⟩
      exact ⟨e4, tabs_new t3 hq, _, _, rfl⟩
    · rintro σ H' ⟨e1, t1, v1, v2, rfl⟩
      exact k H' e1 t1
end
end K60
set_option Elab.async false
set_option linter.all false
set_option maxRecDepth 100000
set_option maxHeartbeats 4000000
/-! power, is_table, need_rules, is_night -/
namespace K60
open PySem PySem.Spec PyProof.Rows L2 Gx RZ
open LamX (TabB Tabs TabS CodeO ExtN)
/-! ### all() with a pure word -/
section
variable {K : PySem.W.Frag} {T : List (Addr × Str)} {g : TG} {te : TE} {vs : List Nat} {σ : L2.St} {H : Hp} {Q : VK} {a : Addr} {xs : List V} {i : Nat}
theorem allG_tup (hσ : σ[i]? = some (some (.ref a))) (ha : SqT K H a xs) (hT : Tabs T H) (C : Nat → Prop) (h0 : C 0)
    (hs : ∀ j x H', xs[j]? = some x → C j → ExtN H H' → Tabs T H' → g x (wipe σ vs) H' fun σ2 H2 => wipe σ2 vs = wipe σ vs ∧ te σ2 H2 fun y H3 => ∃ b : Bool, y = .bl b ∧ (b = true → ExtN H H3 ∧ Tabs T H3 ∧ C (j + 1)) ∧ (b = false → Q (.bl false) H3))
    (hd : ∀ H', C xs.length → ExtN H H' → Tabs T H' → Q (.bl true) H') : tAllG T (iTup K (tVar i)) g te vs σ H Q := by
  refine ⟨_, hσ, a, rfl, ⟨_, ha⟩, hT, fun H2 e2 t2 => all_tup (xs := xs) (fun j H' => ExtN H H' ∧ Tabs T H' ∧ C j) ⟨e2, t2, h0⟩ (fun j H' _ p => sqT_ext p.1 ha) ?_ (fun H' p => hd H' p.2.2 p.1 p.2.1)⟩
  rintro j x H' hx ⟨e3, t3, c3⟩
  exact hs j x H' hx c3 e3 t3
theorem allG_enum (hσ : σ[i]? = some (some (.ref a))) (ha : SqT K H a xs) (hT : Tabs T H) (C : Nat → Prop) (h0 : C 0)
    (hs : ∀ (j : Nat) x (Tp : Addr) H', xs[j]? = some x → C j → ExtN H H' → Tabs T H' → H' Tp = none → g (.ref Tp) (wipe σ vs) (upd H' Tp (.tup [.int (j : Nat), x])) fun σ2 H2 => wipe σ2 vs = wipe σ vs ∧ te σ2 H2 fun y H3 => ∃ b : Bool, y = .bl b ∧ (b = true → ExtN H H3 ∧ Tabs T H3 ∧ C (j + 1)) ∧ (b = false → Q (.bl false) H3))
    (hd : ∀ H', C xs.length → ExtN H H' → Tabs T H' → Q (.bl true) H') : tAllG T (iEnumT K (tCons (tVar i) tNil)) g te vs σ H Q := by
  refine ⟨_, hσ, a, xs, rfl, ha, hT, fun H2 e2 t2 => all_enumT (xs := xs) (fun j H' => ExtN H H' ∧ Tabs T H' ∧ C j) ⟨e2, t2, h0⟩ (fun j H' _ p => sqT_ext p.1 ha) ?_ (fun H' p => hd H' p.2.2 p.1 p.2.1)⟩
  rintro j x Tp H' hx ⟨e3, t3, c3⟩ hTp
  exact hs j x Tp H' hx c3 e3 t3 hTp
/-- zip(value, value[1:]) -/
theorem allG_own (hσ : σ[i]? = some (some (.ref a))) (ha : SqT K H a xs) (hT : Tabs T H) (C : Nat → Prop) (h0 : C 0)
    (hs : ∀ (B : Hp), ExtN H B → ∀ (j : Nat) x y (Tp : Addr) H', xs[j]? = some x → xs.tail[j]? = some y → C j → ExtN B H' → Tabs T H' → H' Tp = none → g (.ref Tp) (wipe σ vs) (upd H' Tp (.tup [x, y])) fun σ2 H2 => wipe σ2 vs = wipe σ vs ∧ te σ2 H2 fun y H3 => ∃ b : Bool, y = .bl b ∧ (b = true → ExtN B H3 ∧ Tabs T H3 ∧ C (j + 1)) ∧ (b = false → Q (.bl false) H3))
    (hd : ∀ H', C xs.tail.length → ExtN H H' → Tabs T H' → Q (.bl true) H') : tAllG T (iZipA K (tCons (tVar i) (tCons (tSl (rSlA K) (tVar i) (tPart (tC (.int 1))) tNoPart) tNil))) g te vs σ H Q := by
  have key : ∀ (b : Addr) (H2 : Hp), ExtN H H2 → Tabs T H2 → SqT K H2 b xs.tail → ∀ H4, ExtN H2 H4 → Tabs T H4 →
      ∃ (W : Nat → Hp → Prop) (n0 : Nat), W 0 H4 ∧ Turns (ItzT K a b) g te (wipe σ vs) vs (fun b H' => Q (.bl b) H') W n0 := by
    intro b H2 e4 t4 hb H4 e5 t5
    refine all_zipT2 (xs := xs) (ys := xs.tail) (by rw [List.length_tail]; omega) (fun j H' => ExtN H2 H' ∧ Tabs T H' ∧ C j) ⟨e5, t5, h0⟩ (fun j H' _ p => ⟨sqT_ext (e4.trans p.1) ha, sqT_ext p.1 hb⟩) ?_ (fun H' p => hd H' p.2.2 (e4.trans p.1) p.2.1)
    rintro j x y Tp H' hx hy ⟨e6, t6, c6⟩ hTp
    exact hs H2 e4 j x y Tp H' hx hy c6 e6 t6 hTp
  refine ⟨_, hσ, _, hσ, 1, rfl, a, _, rfl, ha, fun hw => ?_, fun hw p hp => ?_⟩
  · have e0 : xs = [] := (cut_tail_whole _).mp hw
    refine ⟨a, a, _, _, rfl, .inr ⟨ha, ha, hT, fun H4 e5 t5 => key a H (ExtN.refl H) hT ?_ H4 e5 t5⟩⟩
    rw [e0] at ha ⊢
    exact ha
  · refine ⟨a, p, _, _, rfl, .inr ⟨sqT_upd hp ha, SqT.of upd_same, tabs_new hT hp, fun H4 e5 t5 => key p (upd H p (.tup (cutV xs (some 1) none))) (extN_new hp) (tabs_new hT hp) ?_ H4 e5 t5⟩⟩
    rw [← cut_tail]
    exact SqT.of upd_same
end
theorem iteOf {c b : Bool} {A B : Prop} (e : c = b) (h : if b = true then A else B) : if c = true then A else B := by
  rw [e]
  exact h
/-! ### power -/
theorem ip_mul3 {X : Cx} : PIp X .Mult (fun x y H Q => ∃ i j : Int, x = .int i ∧ y = .int j ∧ 0 ≤ j ∧ j ≤ 3 ∧ Q (.int (i * j)) H) := by
  intro pins s σ H x y v u Q I r1 r2 h
  obtain ⟨i, j, e1, e2, h0, h3, q⟩ := h
  subst e1; subst e2
  obtain ⟨t, rfl⟩ := r1
  obtain ⟨t', rfl⟩ := r2
  refine imul_int (show _ from ?_) (IntMulOk.of_right ?_)
  · exact ⟨.int _, H, I.tok _, ⟨_, rfl⟩, q⟩
  · have e : j = 0 ∨ j = 1 ∨ j = 2 ∨ j = 3 := by omega
    rcases e with rfl | rfl | rfl | rfl <;> decide
abbrev sPow : Stmt := top 14
theorem scPow : FnScope ["base", "times", "found", "_"] ["base", "times"] (defScope sPow) := ⟨rfl, rfl, rfl, by decide +kernel, rfl, by decide +kernel, by decide +kernel⟩
def spPow : Sp := fun vs H Q _ => ∃ b t : Nat, vs = [nv b, nv t] ∧ b ≤ 3 ∧ t ≤ 1000 ∧ Q (nv (b ^ t)) H
section
variable {P : Program} {w : World} {K : PySem.W.Frag} {mg : Str → Option Value} {base : Heap} {T : List (Addr × Str)}
theorem ok_pow {f : Addr} {fd : FuncData} (F : Fun K "power" "power" sPow f fd) (B : Bl mg) : FnOk P w K mg base CX0 1 f fd ["base", "times"] spPow := by
  refine F.ok scPow (fun vs H Q E h => ?_) (fun cdv A outer s H vs Q E hr h => ?_)
  · obtain ⟨b, t, rfl, _⟩ := h
    rfl
  · obtain ⟨b, t, rfl, hb, ht, k⟩ := h
    refine ⟨_, pss_cons (ps_set (i := 2) scPow.nd rfl (Or.inl rfl) pe_int)
      (pss_cons (ps_for PassesOwn.never rfl (pi_range1 (by rfl) B.range (pa_cons (pv 1) pa_nil)) (pg_name (i := 3) scPow.nd rfl (Or.inl rfl))
        (pss_one (ps_aug (i := 2) scPow.nd rfl (Or.inl rfl) (pv 0) ip_mul3)))
      (pss_one (ps_ret (pv 2)))), ?_⟩
    refine ⟨_, rfl, _, rfl, by omega, by omega, for_range (n := (t : Int).toNat) (fun i σ H' => H' = H ∧ ∃ v, σ = [some (nv b), some (nv t), some (nv (b ^ i)), v]) ⟨rfl, none, rfl⟩ ?_ ?_⟩
    · rintro i σ H' hi ⟨rfl, v, rfl⟩
      refine ⟨_, rfl, _, rfl, _, _, rfl, rfl, by omega, by omega, rfl, some (.int (0 + i)), ?_⟩
      show [some (nv b), some (nv t), some (V.int (((b ^ i : Nat) : Int) * (b : Int))), some (V.int (0 + i))] = _
      rw [show ((b ^ i : Nat) : Int) * (b : Int) = ((b ^ (i + 1) : Nat) : Int) by rw [Nat.pow_succ, Int.natCast_mul]]
    · rintro σ H' ⟨rfl, v, rfl⟩
      rw [Int.toNat_natCast]
      exact ⟨_, rfl, k⟩
end
/-! ### is_table -/
def tblB (s m : Nat) (t : List Nat) : Bool := decide (t.length = s ^ m) && t.all fun n => decide (n < s)
abbrev sTable : Stmt := top 15
theorem scTable : FnScope ["house", "signs", "clerk", "value", "sign"] ["house", "signs", "clerk", "value"] (defScope sTable) := ⟨rfl, rfl, rfl, by decide +kernel, rfl, by decide +kernel, by decide +kernel⟩
def spTable (K : PySem.W.Frag) (T : List (Addr × Str)) : Sp := fun vs H Q _ => ∃ (hv v : V) (h : List (List Nat)) (s c : Nat) (r t : List Nat), vs = [hv, nv s, nv c, v] ∧ TupR K H hv h ∧ h[c]? = some r ∧ r.length ≤ 1000 ∧ s ≤ 3 ∧ TupI K H v t ∧ Tabs T H ∧
  Out T H fun H' => Q (.bl (tblB s r.length t)) H'
theorem numB_nat (n s : Nat) : numB (n : Int) 0 ((s : Int) - 1) = decide (n < s) := by
  unfold numB
  rw [Bool.eq_iff_iff]
  simp only [Bool.and_eq_true, decide_eq_true_eq]
  omega
section
variable {P : Program} {w : World} {K : PySem.W.Frag} {mg : Str → Option Value} {base : Heap} {T : List (Addr × Str)}
theorem ok_table {f fN fP : Addr} {fd fdN fdP : FuncData} (F : Fun K "is_table" "is_table" sTable f fd) (tb : Tb T base mg fd (gq "is_table")) (B : Bl mg) (DN : Df K mg "is_number" sNum ["value", "low", "high"] fN fdN) (DP : Df K mg "power" sPow ["base", "times"] fP fdP) :
    FnOk P w K mg base CX0 5 f fd ["house", "signs", "clerk", "value"] (spTable K T) := by
  have GN : FnOk P w K mg base CX0 1 fN fdN ["value", "low", "high"] spNum := ok_num DN.F B
  have GP : FnOk P w K mg base CX0 1 fP fdP ["base", "times"] spPow := ok_pow DP.F B
  refine okC F scTable (fun vs H Q E h => ?_) (fun cdv hcd A outer s H vs Q E hr h => ?_)
  · obtain ⟨hv, v, h, s, c, r, t, rfl, _⟩ := h
    rfl
  · obtain ⟨hv, v, h, sg, ck, r, t, rfl, ⟨a, xs, rfl, ha, hx⟩, hr1, hlen, hsg, ⟨b, rfl, hb⟩, hT, k⟩ := h
    obtain ⟨c, Pt, hc, TB, hm, hu⟩ := tb.ex
    rw [hc] at hcd
    have hrg : Room (1 + 3) (A.deeper (envOfC "is_table" (defScope sTable) s.heap.objs.size f cdv)) := hr.mono (by decide)
    have hr1' : Room 1 (A.deeper (envOfC "is_table" (defScope sTable) s.heap.objs.size f cdv)) := hr.mono (by decide)
    refine ⟨_, pss_cons (ps_if (PW.pt (pw_or (pt_not (pt_val (pe_callB call_isiB (by rfl) B.isi boot_isi (pa_cons (pv 3) (pa_cons (pe_bltn (v := .ty "tuple") (by rfl) B.tuple boot_tuple rfl) pa_nil)))))
        (pw_or1 (pt_cmp (pc_neI (pe_callB call_len_seq (by rfl) B.len PySem.boot_len (pa_cons (pv 3) pa_nil))
          (pe_call GP hr1' (by rfl) DP.g DP.kp DP.b .nil pass0 (pa_cons (pv 1) (pa_cons (pe_callB call_len_seq (by rfl) B.len PySem.boot_len (pa_cons (pe_ix ix_tup (pv 0) (pv 2) (fun _ _ => rfl)) pa_nil)) pa_nil)))))))) (pss_one (ps_ret pe_bl)) pss_nil)
      (pss_one (ps_ret (pe_allG (T := T) (c := c) (P := Pt) (own := [("sign", 4)]) hrg rfl scTable.nd (by rfl) B.all TB hcd.symm hm hu (pi_tup (pv 3)) (blkOk_by (N := ["house", "signs", "clerk", "value", "sign"]) (sc := defScope sTable) (by decide +kernel)) (by decide +kernel) (by decide +kernel) rfl
          (fun _ _ _ _ _ => pg_name (i := 4) scTable.nd rfl (Or.inl rfl))
          (fun _ _ _ _ _ hr2 => pe_call GN hr2 (by rfl) DN.g DN.kp DN.b .nil pass0 (pa_cons (pv 4) (pa_cons pe_int (pa_cons (pe_op op_sub (pv 1) pe_int) pa_nil))))))), ?_⟩
    obtain ⟨y, hy, d, rfl, hd⟩ := paired_get2 hx hr1
    refine ⟨_, rfl, _, "tuple", "tuple", true, rfl, TyX.sqT hb, k_tt, true, rfl, iteF ?_⟩
    refine ⟨_, rfl, b, _, rfl, .inr hb, _, rfl, _, rfl, _, rfl, a, xs, _, _, rfl, rfl, ha, ?_, d, _, rfl, .inr hd, sg, r.length, ?_, hsg, hlen, _, _, rfl, rfl, _, rfl, ?_⟩
    · exact atI_nat hy
    · rw [List.length_map]
      rfl
    by_cases e : t.length = sg ^ r.length
    · have e1 : decide (((t.map nv).length : Int) = ((sg ^ r.length : Nat) : Int)) = true := decide_eq_true (by rw [List.length_map, e])
      refine iteOf (congrArg not e1) (iteF ?_)
      refine allG_tup (xs := t.map nv) rfl hb hT (fun j => ((t.take j).all fun n => decide (n < sg)) = true) rfl (fun j x H' hj hC e3 t3 => ?_) (fun H' hC e3 t3 => ?_)
      · obtain ⟨n, hn, rfl⟩ := map_get hj
        refine ⟨rfl, _, rfl, _, rfl, _, _, rfl, rfl, (n : Int), 0, (sg : Int) - 1, rfl, decide (n < sg), by rw [numB_nat], fun hb => ⟨e3, t3, all_take hn hC hb⟩, fun hb => ?_⟩
        have q := k H' e3 t3
        unfold tblB at q
        rw [all_false hn hb, Bool.and_false] at q
        exact q
      · rw [List.length_map, List.take_length] at hC
        have q := k H' e3 t3
        unfold tblB at q
        rw [hC, decide_eq_true e] at q
        exact q
    · have e1 : decide (((t.map nv).length : Int) = ((sg ^ r.length : Nat) : Int)) = false := decide_eq_false (by rw [List.length_map]; omega)
      refine iteOf (congrArg not e1) (iteT ?_)
      have q := k H (ExtN.refl H) hT
      unfold tblB at q
      rw [decide_eq_false e] at q
      exact q
end
end K60
set_option Elab.async false
set_option linter.all false
set_option maxRecDepth 100000
set_option maxHeartbeats 4000000
/-! need_rules, is_night -/
namespace K60
open PySem PySem.Spec PyProof.Rows L2 Gx RZ
open LamX (TabB Tabs TabS CodeO ExtN)
/-! ### rules -/
def RulesAt (K : PySem.W.Frag) (H : Hp) (v : V) (s : Nat) (ts : List (List Nat)) : Prop := ∃ a x, v = .ref a ∧ SqT K H a [nv s, x] ∧ TupR K H x ts
theorem RulesAt.ext {K : PySem.W.Frag} {H H' : Hp} {v : V} {s : Nat} {ts : List (List Nat)} (e : ExtN H H') (h : RulesAt K H v s ts) : RulesAt K H' v s ts := let ⟨a, x, e1, h1, h2⟩ := h; ⟨a, x, e1, sqT_ext e h1, h2.ext e⟩
structure OkR (h : List (List Nat)) (s : Nat) (ts : List (List Nat)) : Prop where
  sg : s = 2 ∨ s = 3
  len : ts.length = h.length
  tb : ∀ (i : Nat) (r t : List Nat), h[i]? = some r → ts[i]? = some t → tblB s r.length t = true
theorem asc_len (n : Nat) : ∀ (l : List Nat) (lo : Nat), l.Pairwise (· < ·) → (∀ x ∈ l, lo ≤ x ∧ x < n) → lo ≤ n → l.length ≤ n - lo
  | [], _, _, _, _ => Nat.zero_le _
  | x :: l, lo, hp, hx, _ => by
    obtain ⟨h1, h2⟩ := hx x List.mem_cons_self
    have hp2 := List.pairwise_cons.mp hp
    have := asc_len n l (x + 1) hp2.2 (fun y hy => ⟨hp2.1 y hy, (hx y (List.mem_cons_of_mem _ hy)).2⟩) h2
    rw [List.length_cons]
    omega
theorem OkH.short {h : List (List Nat)} (o : OkH h) : ∀ r ∈ h, r.length ≤ 1000 := fun r hr => by
  obtain ⟨_, hl⟩ := o.row r hr
  unfold lotN at hl
  rw [Bool.and_eq_true] at hl
  have h1 : ∀ n ∈ r, n < h.length := fun n hn => of_decide_eq_true (List.all_eq_true.mp hl.1 n hn)
  have h2 : r.Pairwise (· < ·) := by
    have key : ∀ (l : List Nat), ((l.zip l.tail).all fun p => decide (p.1 < p.2)) = true → l.Pairwise (· < ·) := by
      intro l
      induction l with
      | nil => intro _; exact .nil
      | cons a l ih =>
        cases l with
        | nil => intro _; exact List.pairwise_singleton _ _
        | cons b l =>
          intro hz
          have hz : (decide (a < b) && ((b :: l).zip l).all fun p => decide (p.1 < p.2)) = true := hz
          rw [Bool.and_eq_true] at hz
          have ih' := ih hz.2
          have ab : a < b := of_decide_eq_true hz.1
          refine List.pairwise_cons.mpr ⟨fun c hc => ?_, ih'⟩
          rcases List.mem_cons.mp hc with e | e
          · rw [e]; exact ab
          · exact Nat.lt_trans ab ((List.pairwise_cons.mp ih').1 c e)
    exact key r hl.2
  have h3 : r.length ≤ h.length := by
    have := asc_len h.length r 0 h2 (fun n hn => ⟨Nat.zero_le _, h1 n hn⟩) (Nat.zero_le _)
    omega
  have := o.hi
  omega
abbrev sRules : Stmt := top 16
theorem scRules : FnScope ["house", "value", "signs", "tables", "clerk", "table"] ["house", "value"] (defScope sRules) := ⟨rfl, rfl, rfl, by decide +kernel, rfl, by decide +kernel, by decide +kernel⟩
def spRules (K : PySem.W.Frag) (T : List (Addr × Str)) : Sp := fun vs H Q _ => ∃ (hv v : V) (h : List (List Nat)) (s : Nat) (ts : List (List Nat)), vs = [hv, v] ∧ TupR K H hv h ∧ OkH h ∧ RulesAt K H v s ts ∧ OkR h s ts ∧ Tabs T H ∧ Out T H fun H' => Q .non H'
section
variable {P : Program} {w : World} {K : PySem.W.Frag} {mg : Str → Option Value} {base : Heap} {T : List (Addr × Str)}
theorem ok_rules {f fN fT : Addr} {fd fdN fdT : FuncData} (F : Fun K "need_rules" "need_rules" sRules f fd) (tb : Tb T base mg fd (gq "need_rules")) (B : Bl mg) (DN : Df K mg "is_number" sNum ["value", "low", "high"] fN fdN)
    (DT : Df K mg "is_table" sTable ["house", "signs", "clerk", "value"] fT fdT) (GT : FnOk P w K mg base CX0 5 fT fdT ["house", "signs", "clerk", "value"] (spTable K T)) :
    FnOk P w K mg base CX0 9 f fd ["house", "value"] (spRules K T) := by
  have GN : FnOk P w K mg base CX0 1 fN fdN ["value", "low", "high"] spNum := ok_num DN.F B
  refine okC F scRules (fun vs H Q E h => ?_) (fun cdv hcd A outer s H vs Q E hr h => ?_)
  · obtain ⟨hv, v, h, s, ts, rfl, _⟩ := h
    rfl
  · obtain ⟨hv, v, h, sg, ts, rfl, hH, okh, ⟨a, x, rfl, ha, hx⟩, okr, hT, k⟩ := h
    obtain ⟨c, Pt, hc, TB, hm, hu⟩ := tb.ex
    rw [hc] at hcd
    obtain ⟨u, hms, ru⟩ := B.ms
    have hrg : Room (5 + 3) (A.deeper (envOfC "need_rules" (defScope sRules) s.heap.objs.size f cdv)) := hr.mono (by decide)
    have hr1' : Room 1 (A.deeper (envOfC "need_rules" (defScope sRules) s.heap.objs.size f cdv)) := hr.mono (by decide)
    refine ⟨_, pss_cons (ps_if (PW.pt (pw_or (pt_not (pt_val (pe_callB call_isiB (by rfl) B.isi boot_isi (pa_cons (pv 1) (pa_cons (pe_bltn (v := .ty "tuple") (by rfl) B.tuple boot_tuple rfl) pa_nil)))))
        (pw_or1 (pt_cmp (pc_neI (pe_callB call_len_seq (by rfl) B.len PySem.boot_len (pa_cons (pv 1) pa_nil)) pe_int))))) (pss_one ps_never) pss_nil)
      (pss_cons (ps_asg (pv 1) (pg2 K 2 3 rfl rfl scRules.nd rfl rfl (Or.inr rfl) (Or.inl rfl) (Or.inl rfl) (Or.inl rfl)))
      (pss_cons (ps_if (pt_not (pt_val (pe_call GN hr1' (by rfl) DN.g DN.kp DN.b .nil pass0 (pa_cons (pv 2) (pa_cons pe_int (pa_cons (pe_glob (by rfl) hms ru) pa_nil)))))) (pss_one ps_never) pss_nil)
      (pss_cons (ps_if (PW.pt (pw_or (pt_not (pt_val (pe_callB call_isiB (by rfl) B.isi boot_isi (pa_cons (pv 3) (pa_cons (pe_bltn (v := .ty "tuple") (by rfl) B.tuple boot_tuple rfl) pa_nil)))))
        (pw_or1 (pt_cmp (pc_neI (pe_callB call_len_seq (by rfl) B.len PySem.boot_len (pa_cons (pv 3) pa_nil)) (pe_callB call_len_seq (by rfl) B.len PySem.boot_len (pa_cons (pv 0) pa_nil))))))) (pss_one ps_never) pss_nil)
      (pss_one (ps_if (pt_not (pt_val (pe_allG (T := T) (c := c) (P := Pt) (own := [("clerk", 4), ("table", 5)]) hrg rfl scRules.nd (by rfl) B.all TB hcd.symm hm hu (pi_enumT (by rfl) B.enumerate (pa_cons (pv 3) pa_nil)) (blkOk_by (N := ["house", "value", "signs", "tables", "clerk", "table"]) (sc := defScope sRules) (by decide +kernel)) (by decide +kernel) (by decide +kernel) rfl
          (fun _ _ _ _ _ => pg2 K 4 5 rfl rfl scRules.nd rfl rfl (Or.inl rfl) (Or.inl rfl) (Or.inr rfl) (Or.inr rfl))
          (fun _ _ _ _ _ hr2 => pe_call GT hr2 (by rfl) DT.g DT.kp DT.b .nil pass0 (pa_cons (pv 0) (pa_cons (pv 2) (pa_cons (pv 4) (pa_cons (pv 5) pa_nil)))))))) (pss_one ps_never) pss_nil))))), ?_⟩
    obtain ⟨b, ys, rfl, hb, hy⟩ := hx
    obtain ⟨d, zs, rfl, hd, hz⟩ := id hH
    have e1 : ys.length = zs.length := by rw [hy.length, hz.length, okr.len]
    refine ⟨_, rfl, _, "tuple", "tuple", true, rfl, TyX.sqT ha, k_tt, true, rfl, iteF ?_⟩
    refine ⟨_, rfl, a, _, rfl, .inr ha, _, _, rfl, rfl, false, rfl, iteF ?_⟩
    refine ⟨_, rfl, a, _, rfl, ha, rfl, _, _, rfl, _, _, rfl, rfl, ?_⟩
    have e2 : numB (sg : Int) 2 3 = true := by
      rcases okr.sg with e | e <;> rw [e] <;> decide
    refine ⟨_, rfl, (sg : Int), 2, 3, rfl, true, congrArg V.bl e2, iteF ?_⟩
    refine ⟨_, rfl, _, "tuple", "tuple", true, rfl, TyX.sqT hb, k_tt, true, rfl, iteF ?_⟩
    refine ⟨_, rfl, b, _, rfl, .inr hb, _, rfl, d, _, rfl, .inr hd, _, _, rfl, rfl, _, rfl, iteOf (congrArg not (decide_eq_true (by rw [e1]))) (iteF ?_)⟩
    dsimp only [tNext, tIfS, tNot, tB]
    refine allG_enum (xs := ys) rfl hb hT (fun _ => True) trivial (fun j x Tp H' hj _ e3 t3 hTp => ?_) (fun H' _ e3 t3 => ?_)
    · obtain ⟨t, ht, q, rfl, hq⟩ := paired_get hy hj
      have hjl : j < h.length := by
        have := (List.getElem?_eq_some_iff.mp ht).1
        rw [okr.len] at this
        exact this
      have hr : h[j]? = some h[j] := List.getElem?_eq_getElem hjl
      have e4 : ExtN H (upd H' Tp (.tup [.int (j : Nat), .ref q])) := extN_upd e3 (Nw.ext e3 hTp)
      have htb := okr.tb j _ t hr ht
      have h3 : sg ≤ 3 := by rcases okr.sg with e | e <;> omega
      refine ⟨Tp, _, rfl, SqT.of upd_same, rfl, _, _, rfl, _, _, rfl, rfl, rfl, _, rfl, _, rfl, _, rfl, _, rfl, .ref d, .ref q, h, sg, j, h[j], t, rfl, hH.ext e4, hr, okh.short _ (List.getElem_mem hjl), h3, ⟨q, rfl, sqT_ext e4 hq⟩, tabs_new t3 hTp, fun H2 e5 t5 => ?_⟩
      refine ⟨tblB sg h[j].length t, rfl, fun _ => ⟨e4.trans e5, t5, trivial⟩, fun hb => ?_⟩
      rw [htb] at hb
      cases hb
    · exact ⟨true, rfl, iteF (k H' e3 t3)⟩
end
end K60
set_option Elab.async false
set_option linter.all false
set_option maxRecDepth 100000
set_option maxHeartbeats 4000000
/-! is_night -/
namespace K60
open PySem PySem.Spec PyProof.Rows L2 Gx RZ
open LamX (TabB Tabs TabS CodeO ExtN)
/-- pairs that an enemy may write -/
def pairB (n s : Nat) (p : List Nat) : Bool := decide (p.getD 0 0 < n) && decide (p.getD 1 0 < s)
def nightB (n s l : Nat) (ps : List (List Nat)) : Bool :=
  decide (ps.length ≤ l) && ((ps.all fun p => decide (p.length = 2)) && ((ps.all fun p => pairB n s p) && (ps.zip ps.tail).all fun q => decide (q.1.getD 0 0 < q.2.getD 0 0)))
abbrev sNight : Stmt := top 17
theorem scNight : FnScope ["house", "rules", "liars", "value", "pair", "one", "sign", "other"] ["house", "rules", "liars", "value"] (defScope sNight) := ⟨rfl, rfl, rfl, by decide +kernel, rfl, by decide +kernel, by decide +kernel⟩
def spNight (K : PySem.W.Frag) (T : List (Addr × Str)) : Sp := fun vs H Q _ => ∃ (hv rv v : V) (h : List (List Nat)) (s l : Nat) (ts ps : List (List Nat)), vs = [hv, rv, nv l, v] ∧ TupR K H hv h ∧ RulesAt K H rv s ts ∧ TupR K H v ps ∧ Tabs T H ∧
  Out T H fun H' => Q (.bl (nightB h.length s l ps)) H'
theorem two_of {α : Type} {p : List α} (h : p.length = 2) : ∃ a b, p = [a, b] := by
  match p, h with
  | [a, b], _ => exact ⟨a, b, rfl⟩
theorem paired_tail {α β : Type} {F : α → β → Prop} {l : List α} {m : List β} (h : Paired F l m) : Paired F l.tail m.tail := by
  cases h with
  | nil => exact .nil
  | cons _ t => exact t
section
variable {P : Program} {w : World} {K : PySem.W.Frag} {mg : Str → Option Value} {base : Heap} {T : List (Addr × Str)}
theorem ok_night {f fN : Addr} {fd fdN : FuncData} (F : Fun K "is_night" "is_night" sNight f fd) (tb : Tb T base mg fd (gq "is_night")) (B : Bl mg) (DN : Df K mg "is_number" sNum ["value", "low", "high"] fN fdN) :
    FnOk P w K mg base CX0 5 f fd ["house", "rules", "liars", "value"] (spNight K T) := by
  have GN : FnOk P w K mg base CX0 1 fN fdN ["value", "low", "high"] spNum := ok_num DN.F B
  refine okC F scNight (fun vs H Q E h => ?_) (fun cdv hcd A outer s H vs Q E hr h => ?_)
  · obtain ⟨hv, rv, v, h, s, l, ts, ps, rfl, _⟩ := h
    rfl
  · obtain ⟨hv, rv, v, h, sg, l, ts, ps, rfl, hH, ⟨ar, xt, rfl, har, hxt⟩, ⟨a, xs, rfl, ha, hx⟩, hT, k⟩ := h
    obtain ⟨c, Pt, hc, TB, hm, hu⟩ := tb.ex
    rw [hc] at hcd
    have hrg : Room (1 + 3) (A.deeper (envOfC "is_night" (defScope sNight) s.heap.objs.size f cdv)) := hr.mono (by decide)
    refine ⟨_, pss_cons (ps_if (PW.pt (pw_or (pt_not (pt_val (pe_callB call_isiB (by rfl) B.isi boot_isi (pa_cons (pv 3) (pa_cons (pe_bltn (v := .ty "tuple") (by rfl) B.tuple boot_tuple rfl) pa_nil)))))
        (pw_or1 (pt_cmp (pc_gt (pe_callB call_len_seq (by rfl) B.len PySem.boot_len (pa_cons (pv 3) pa_nil)) (pv 2)))))) (pss_one (ps_ret pe_bl)) pss_nil)
      (pss_cons (ps_if (pt_not (pt_val (pe_allG (T := T) (c := c) (P := Pt) (own := [("pair", 4)]) hrg rfl scNight.nd (by rfl) B.all TB hcd.symm hm hu (pi_tup (pv 3)) (blkOk_by (N := ["house", "rules", "liars", "value", "pair", "one", "sign", "other"]) (sc := defScope sNight) (by decide +kernel)) (by decide +kernel) (by decide +kernel) rfl
          (fun _ _ _ _ _ => pg_name (i := 4) scNight.nd rfl (Or.inl rfl))
          (fun _ _ _ _ _ hr2 => pe_and (pe_callB (isiK K rfl) (by rfl) B.isi boot_isi (pa_cons (pv 4) (pa_cons (pe_bltn (v := .ty "tuple") (by rfl) B.tuple boot_tuple rfl) pa_nil)))
            (pe_one (pe_cmp (pc_eqI (pe_callB (lenK K rfl) (by rfl) B.len PySem.boot_len (pa_cons (pv 4) pa_nil)) pe_int) rfl)))))) (pss_one (ps_ret pe_bl)) pss_nil)
      (pss_cons (ps_if (pt_not (pt_val (pe_allG (T := T) (c := c) (P := Pt) (own := [("one", 5), ("sign", 6)]) hrg rfl scNight.nd (by rfl) B.all TB hcd.symm hm hu (pi_tup (pv 3)) (blkOk_by (N := ["house", "rules", "liars", "value", "pair", "one", "sign", "other"]) (sc := defScope sNight) (by decide +kernel)) (by decide +kernel) (by decide +kernel) rfl
          (fun _ _ _ _ _ => pg2 K 5 6 rfl rfl scNight.nd rfl rfl (Or.inl rfl) (Or.inl rfl) (Or.inr rfl) (Or.inr rfl))
          (fun _ _ _ _ _ hr2 => pe_and (pe_call GN hr2 (by rfl) DN.g DN.kp DN.b .nil pass0 (pa_cons (pv 5) (pa_cons pe_int (pa_cons (pe_op op_sub (pe_callB (lenK K rfl) (by rfl) B.len PySem.boot_len (pa_cons (pv 0) pa_nil)) pe_int) pa_nil))))
            (pe_one (pe_call GN hr2 (by rfl) DN.g DN.kp DN.b .nil pass0 (pa_cons (pv 6) (pa_cons pe_int (pa_cons (pe_op op_sub (pe_ix (ixT K rfl) (pv 1) pe_int (fun _ _ => rfl)) pe_int) pa_nil))))))))) (pss_one (ps_ret pe_bl)) pss_nil)
      (pss_one (ps_ret (pe_allG (T := T) (c := c) (P := Pt) (own := [("one", 5), ("other", 7)]) hrg rfl scNight.nd (by rfl) B.all TB hcd.symm hm hu
        (pi_zipA (by rfl) B.zip (pa_cons (pv 3) (pa_cons (pe_slice sl_tupA (pv 3) (po_some pe_int) po_none) pa_nil))) (blkOk_by (N := ["house", "rules", "liars", "value", "pair", "one", "sign", "other"]) (sc := defScope sNight) (by decide +kernel)) (by decide +kernel) (by decide +kernel) rfl
        (fun _ _ _ _ _ => pg2 K 5 7 rfl rfl scNight.nd rfl rfl (Or.inl rfl) (Or.inl rfl) (Or.inr rfl) (Or.inr rfl))
        (fun _ _ _ _ _ hr2 => pe_cmpR op_lt (pe_ix (ixT K rfl) (pv 5) pe_int (fun _ _ => rfl)) (pe_ix (ixT K rfl) (pv 7) pe_int (fun _ _ => rfl)) (nomark _))))))), ?_⟩
    have hlen : xs.length = ps.length := hx.length
    refine ⟨_, rfl, _, "tuple", "tuple", true, rfl, TyX.sqT ha, k_tt, true, rfl, iteF ?_⟩
    refine ⟨_, rfl, a, xs, rfl, .inr ha, _, rfl, _, _, rfl, rfl, _, rfl, ?_⟩
    by_cases c1 : ps.length ≤ l
    case neg =>
      refine iteOf (decide_eq_true (by omega)) (iteT ?_)
      have q := k H (ExtN.refl H) hT
      unfold nightB at q
      rw [decide_eq_false c1] at q
      exact q
    refine iteOf (decide_eq_false (by omega)) (iteF ?_)
    try dsimp only [tNext, tSeq, tIfS, tNot, tB, tRet]
    refine allG_tup (xs := xs) rfl ha hT (fun j => ((ps.take j).all fun p => decide (p.length = 2)) = true) rfl (fun j x H' hj hC e3 t3 => ?_) (fun H' hC e3 t3 => ?_)
    · obtain ⟨p, hp, b, rfl, hb⟩ := paired_get hx hj
      refine ⟨rfl, _, rfl, _, "tuple", "tuple", true, rfl, TyX.sqT (sqT_ext e3 hb), k_tt, true, rfl, iteT ⟨_, rfl, b, _, rfl, .inr (sqT_ext e3 hb), _, _, rfl, rfl, decide (p.length = 2), ?_, fun hq => ⟨e3, t3, all_take hp hC hq⟩, fun hq => ?_⟩⟩
      · exact congrArg V.bl (decide_eq_decide.mpr (by rw [List.length_map]; omega))
      · refine ⟨false, rfl, iteT ?_⟩
        have q := k H' e3 t3
        unfold nightB at q
        rw [all_false hp hq, Bool.false_and, Bool.and_false] at q
        exact q
    rw [hlen, List.take_length] at hC
    refine ⟨true, rfl, iteF ?_⟩
    have two : ∀ p ∈ ps, p.length = 2 := fun p hp => of_decide_eq_true (List.all_eq_true.mp hC p hp)
    clear hT
    try dsimp only [tNext, tSeq, tIfS, tNot, tB, tRet]
    refine allG_tup (xs := xs) rfl (sqT_ext e3 ha) t3 (fun j => ((ps.take j).all fun p => pairB h.length sg p) = true) rfl (fun j x H2 hj hC2 e4 t4 => ?_) (fun H2 hC2 e4 t4 => ?_)
    · obtain ⟨p, hp, b, rfl, hb⟩ := paired_get hx hj
      obtain ⟨y0, y1, rfl⟩ := two_of (two p (List.mem_of_getElem? hp))
      have e5 := e3.trans e4
      obtain ⟨d, zs, rfl, hd, hz⟩ := hH.ext e5
      refine ⟨b, _, rfl, sqT_ext e5 hb, rfl, _, _, rfl, _, _, rfl, rfl, rfl, ?_⟩
      refine ⟨_, rfl, _, rfl, d, zs, rfl, .inr hd, _, _, rfl, rfl, (y0 : Int), 0, _, rfl, _, rfl, ?_⟩
      have e6 : numB (y0 : Int) 0 ((zs.length : Int) - 1) = decide (y0 < h.length) := by rw [numB_nat, hz.length]
      by_cases c2 : y0 < h.length
      · refine iteOf (e6.trans (decide_eq_true c2)) (iteT ?_)
        refine ⟨_, rfl, _, rfl, _, _, _, _, rfl, rfl, sqT_ext e5 har, rfl, _, _, rfl, rfl, (y1 : Int), 0, (sg : Int) - 1, rfl, decide (y1 < sg), by rw [numB_nat], fun hq => ⟨e4, t4, all_take hp hC2 ?_⟩, fun hq => ?_⟩
        · unfold pairB
          rw [show ([y0, y1] : List Nat).getD 0 0 = y0 from rfl, show ([y0, y1] : List Nat).getD 1 0 = y1 from rfl, decide_eq_true c2, hq]
          rfl
        · refine ⟨false, rfl, iteT ?_⟩
          have q := k H2 e5 t4
          have hf : pairB h.length sg [y0, y1] = false := by
            unfold pairB
            rw [show ([y0, y1] : List Nat).getD 1 0 = y1 from rfl, hq, Bool.and_false]
          unfold nightB at q
          rw [all_false hp hf, Bool.false_and, Bool.and_false, Bool.and_false] at q
          exact q
      · refine iteOf (e6.trans (decide_eq_false c2)) (iteF ⟨false, rfl, fun hq => (nomatch hq), fun _ => ?_⟩)
        refine ⟨false, rfl, iteT ?_⟩
        have q := k H2 e5 t4
        have hf : pairB h.length sg [y0, y1] = false := by
          unfold pairB
          rw [show ([y0, y1] : List Nat).getD 0 0 = y0 from rfl, decide_eq_false c2, Bool.false_and]
        unfold nightB at q
        rw [all_false hp hf, Bool.false_and, Bool.and_false, Bool.and_false] at q
        exact q
    rw [hlen, List.take_length] at hC2
    refine ⟨true, rfl, iteF ?_⟩
    have e5 := e3.trans e4
    try dsimp only [tNext, tSeq, tIfS, tNot, tB, tRet]
    refine allG_own (xs := xs) rfl (sqT_ext e5 ha) t4 (fun j => (((ps.zip ps.tail).take j).all fun q => decide (q.1.getD 0 0 < q.2.getD 0 0)) = true) rfl (fun Bh eB j x y Tp H' hx1 hy1 hC3 e6 t6 hTp => ?_) (fun H' hC3 e6 t6 => ?_)
    · obtain ⟨p, hp, b, rfl, hb⟩ := paired_get hx hx1
      obtain ⟨p2, hp2, b2, rfl, hb2⟩ := paired_get (paired_tail hx) hy1
      obtain ⟨y0, y1, rfl⟩ := two_of (two p (List.mem_of_getElem? hp))
      obtain ⟨z0, z1, rfl⟩ := two_of (two p2 (List.mem_of_mem_tail (List.mem_of_getElem? hp2)))
      have hzz : (ps.zip ps.tail)[j]? = some ([y0, y1], [z0, z1]) := by rw [List.getElem?_zip_eq_some]; exact ⟨hp, hp2⟩
      have e7 := (e5.trans eB).trans e6
      have e8 : ExtN H (upd H' Tp (.tup [.ref b, .ref b2])) := extN_upd e7 (Nw.ext e7 hTp)
      refine ⟨Tp, _, rfl, SqT.of upd_same, rfl, _, _, rfl, _, _, rfl, rfl, rfl, ?_⟩
      refine ⟨_, rfl, _, _, _, _, rfl, rfl, sqT_ext e8 hb, rfl, _, rfl, _, _, _, _, rfl, rfl, sqT_ext e8 hb2, rfl, _, _, rfl, rfl, decide (y0 < z0), ?_, fun hq => ⟨extN_upd e6 (Nw.ext e6 hTp), tabs_new t6 hTp, all_take hzz hC3 hq⟩, fun hq => ?_⟩
      · exact congrArg V.bl (decide_eq_decide.mpr (by omega))
      · have q := k (upd H' Tp (.tup [.ref b, .ref b2])) e8 (tabs_new t6 hTp)
        unfold nightB at q
        rw [all_false hzz hq, Bool.and_false, Bool.and_false, Bool.and_false] at q
        exact q
    · have q := k H' (e5.trans e6) t6
      have e1 : (ps.zip ps.tail).take xs.tail.length = ps.zip ps.tail := by
        apply List.take_of_length_le
        rw [List.length_zip, List.length_tail, List.length_tail, hlen]
        omega
      rw [e1] at hC3
      unfold nightB at q
      rw [decide_eq_true c1, hC, hC2, hC3] at q
      exact q
end
end K60
set_option Elab.async false
set_option linter.all false
set_option maxRecDepth 100000
set_option maxHeartbeats 4000000
/-! Texts as lists of signs: pieces, joins, counts -/
namespace K60
open PySem PySem.Spec PyProof.Rows L2 TL
def mk (l : List Nat) : Str := ⟨l.toArray⟩
def tv (l : List Nat) : V := .str (mk l)
/-- a written text's signs -/
def cs (s : String) : List Nat := s.toList.map Char.toNat
theorem tl_mk' (l : List Nat) : tl (mk l) = l := rfl
theorem mk_of (x : Str) : mk (tl x) = x := ext_tl rfl
theorem mk_inj {a b : List Nat} (h : mk a = mk b) : a = b := by
  have := congrArg tl h
  exact this
theorem mk_lit (s : String) : Str.ofString s = mk (cs s) := ext_tl (by rw [tl_ofString]; rfl)
theorem mk_app (a b : List Nat) : mk a ++ mk b = mk (a ++ b) := ext_tl (by rw [tl_append]; rfl)
theorem mk_len (a : List Nat) : (mk a).length = a.length := by rw [len_tl]; rfl
theorem mk_num (n : Nat) : (toString ((n : Nat) : Int) : Str) = mk (numL n) := ext_tl (tl_num n)
/-- l cut at each s -/
def cut1 (s : Nat) : List Nat → List (List Nat)
  | [] => [[]]
  | c :: l => if c = s then [] :: cut1 s l else match cut1 s l with
    | [] => [[c]]
    | p :: ps => (c :: p) :: ps
theorem cut1_ne (s : Nat) : ∀ l, cut1 s l ≠ []
  | [] => by simp [cut1]
  | c :: l => by
    unfold cut1
    split
    · simp
    · split <;> simp
theorem spl_cut1 (s : Nat) : ∀ (l acc : List Nat), spl [s] 0 acc l = match cut1 s l with | [] => [acc] | p :: ps => (acc ++ p) :: ps
  | [], acc => by
    rw [spl_nil]
    simp [cut1]
  | c :: l, acc => by
    by_cases e : c = s
    · subst e
      rw [spl_hit (show pre [c] (c :: l) = true by simp [pre])]
      have ih := spl_cut1 c l []
      show acc :: spl [c] 0 [] l = _
      rw [ih]
      have e2 : cut1 c (c :: l) = [] :: cut1 c l := by simp [cut1]
      rw [e2]
      cases h : cut1 c l with
      | nil => exact absurd h (cut1_ne c l)
      | cons p ps => simp
    · rw [spl_miss (pre_of_head [] l e), spl_cut1 s l (acc ++ [c])]
      cases h : cut1 s l with
      | nil => exact absurd h (cut1_ne s l)
      | cons p ps =>
        have e2 : cut1 s (c :: l) = (c :: p) :: ps := by simp [cut1, e, h]
        rw [e2]
        simp
theorem kind_lt {x : Str} {s : Nat} (h : s < 256) : ¬ Builtin.Str.strKind x < Builtin.Str.strKind (mk [s]) := kind_ok (by simp [mk, h])
theorem split_mk (l : List Nat) (s : Nat) (h : s < 256) : Txt.split (mk l) (mk [s]) = (cut1 s l).map mk := by
  have e := split_spl (mk l) (mk [s]) (by simp [tl_mk']) (kind_lt h)
  rw [tl_mk', tl_mk', spl_cut1] at e
  apply map_tl_inj
  rw [e, List.map_map]
  cases h2 : cut1 s l with
  | nil => exact absurd h2 (cut1_ne s l)
  | cons p ps =>
    show ([] ++ p) :: ps = _
    rw [List.nil_append]
    have : (tl ∘ mk) = id := by funext x; rfl
    rw [this, List.map_id]
theorem count_mk (l : List Nat) : Txt.count (mk l) (mk [10]) = (((cut1 10 l).length - 1 : Nat) : Int) := by
  have e := congrArg List.length (split_mk l 10 (by decide))
  rw [List.length_map] at e
  unfold Txt.count
  congr 1
  cases l with
  | nil =>
    show _ = 0
    decide +kernel
  | cons c l =>
    unfold Txt.split at e
    have h1 : ¬ ((decide ((mk (c :: l)).length < (mk [10]).length) || decide (Builtin.Str.strKind (mk (c :: l)) < Builtin.Str.strKind (mk [10]))) = true) := by
      rw [Bool.or_eq_true, decide_eq_true_eq, decide_eq_true_eq, mk_len, mk_len]
      intro h
      rcases h with h | h
      · simp at h
      · exact kind_lt (by decide) h
    rw [if_neg h1] at e
    split at e
    · rename_i h2
      rw [List.isEmpty_iff.mp h2]
      have e' : 1 = (cut1 10 (c :: l)).length := e
      rw [← e']
      rfl
    · rw [Builtin.Str.partsBetween] at e
      simp only [List.length_map, List.length_zip, List.length_cons, List.length_append, List.length_nil] at e
      omega
theorem join_mk (ls : List (List Nat)) : Txt.join (mk []) (ls.map mk) = mk ls.flatten := by
  rw [join_eq]
  apply ext_tl
  rw [tl_join, List.map_map]
  have : (tl ∘ mk) = id := by funext x; rfl
  rw [this, List.map_id, tl_mk', tl_mk']
  induction ls with
  | nil => rfl
  | cons p ps ih =>
    cases ps with
    | nil => simp [joinL]
    | cons q r =>
      have ih' : joinL [] (q :: r) = (q :: r).flatten := ih
      show p ++ ([] ++ joinL [] (q :: r)) = _
      rw [ih']
      simp
theorem sum_len (ls : List (List Nat)) : ((ls.map mk).map (·.length)).sum = ls.flatten.length := by
  rw [List.map_map, List.length_flatten]
  congr 1
theorem tv_map (ls : List (List Nat)) : (ls.map mk).map V.str = ls.map tv := by rw [List.map_map]; rfl
theorem str_tv (x : Str) : V.str x = tv (tl x) := by unfold tv; rw [mk_of]
theorem lit_tv (s : String) : V.str (Str.ofString s) = tv (cs s) := by unfold tv; rw [mk_lit]
theorem tv_inj {a b : List Nat} (h : tv a = tv b) : a = b := mk_inj (V.str.inj h)
theorem ok_mk {l : List Nat} (h : ∀ c ∈ l, c < 128) : PyData.canLay0 (.str (mk l)) = true := by
  simp only [PyData.canLay0]
  show (mk l).cps.all _ = true
  rw [Array.all_eq_true_iff_forall_mem]
  intro c hc
  have : c ∈ l := by simpa [mk] using hc
  exact decide_eq_true (by have := h c this; omega)
theorem mem_cut1 {s : Nat} : ∀ {l p : List Nat} {c : Nat}, p ∈ cut1 s l → c ∈ p → c ∈ l
  | [], p, c, hp, hc => by
    simp [cut1] at hp
    rw [hp] at hc
    cases hc
  | d :: l, p, c, hp, hc => by
    unfold cut1 at hp
    split at hp
    · rcases List.mem_cons.mp hp with e | e
      · rw [e] at hc; cases hc
      · exact List.mem_cons_of_mem _ (mem_cut1 e hc)
    · split at hp
      · rename_i h2
        exact absurd h2 (cut1_ne s l)
      · rename_i q ps h2
        rcases List.mem_cons.mp hp with e | e
        · rw [e] at hc
          rcases List.mem_cons.mp hc with e2 | e2
          · rw [e2]; exact List.mem_cons_self
          · exact List.mem_cons_of_mem _ (mem_cut1 (p := q) (by rw [h2]; exact List.mem_cons_self) e2)
        · exact List.mem_cons_of_mem _ (mem_cut1 (p := p) (by rw [h2]; exact List.mem_cons_of_mem _ e) hc)
theorem len_cut1 (s : Nat) : ∀ l : List Nat, (cut1 s l).length ≤ l.length + 1
  | [] => by simp [cut1]
  | c :: l => by
    have ih := len_cut1 s l
    unfold cut1
    split
    · simp; omega
    · split
      · rename_i h2
        exact absurd h2 (cut1_ne s l)
      · rename_i q ps h2
        rw [h2] at ih
        simp at ih ⊢
        omega
/-- a piece without s, then s -/
theorem cut1_piece {s : Nat} : ∀ {p l : List Nat}, s ∉ p → cut1 s (p ++ s :: l) = p :: cut1 s l
  | [], l, _ => by simp [cut1]
  | c :: p, l, h => by
    have h1 : c ≠ s := fun e => h (by rw [e]; exact List.mem_cons_self)
    have h2 : s ∉ p := fun e => h (List.mem_cons_of_mem _ e)
    have ih := cut1_piece (l := l) h2
    show cut1 s (c :: (p ++ s :: l)) = _
    simp [cut1, h1, ih]
theorem cut1_last {s : Nat} : ∀ {p : List Nat}, s ∉ p → cut1 s p = [p]
  | [], _ => by simp [cut1]
  | c :: p, h => by
    have h1 : c ≠ s := fun e => h (by rw [e]; exact List.mem_cons_self)
    have h2 : s ∉ p := fun e => h (List.mem_cons_of_mem _ e)
    have ih := cut1_last h2
    simp [cut1, h1, ih]
/-- lines, each with its end, cut again -/
theorem cut1_lines {s : Nat} : ∀ {ls : List (List Nat)}, (∀ p ∈ ls, s ∉ p) → cut1 s (ls.map fun p => p ++ [s]).flatten = ls ++ [[]]
  | [], _ => by simp [cut1]
  | p :: ls, h => by
    have e : ((p :: ls).map fun p => p ++ [s]).flatten = p ++ s :: (ls.map fun p => p ++ [s]).flatten := by simp
    rw [e, cut1_piece (h p List.mem_cons_self), cut1_lines fun q hq => h q (List.mem_cons_of_mem _ hq)]
    rfl
/-- words with a blank ahead of each -/
theorem cut1_words {s : Nat} : ∀ {ws : List (List Nat)} {p : List Nat}, s ∉ p → (∀ q ∈ ws, s ∉ q) → cut1 s (p ++ (ws.map fun q => s :: q).flatten) = p :: ws
  | [], p, h, _ => by simpa using cut1_last h
  | q :: ws, p, h, hw => by
    have e : p ++ ((q :: ws).map fun q => s :: q).flatten = p ++ s :: (q ++ (ws.map fun q => s :: q).flatten) := by simp
    rw [e, cut1_piece h, cut1_words (hw q List.mem_cons_self) fun r hr => hw r (List.mem_cons_of_mem _ hr)]
/-- the last piece is empty if and only if nothing stands behind the last s -/
theorem cut1_end {s : Nat} : ∀ l : List Nat, (cut1 s l).getLast? = some [] ↔ (l = [] ∨ l.getLast? = some s)
  | [] => by simp [cut1]
  | c :: l => by
    have ih := cut1_end (s := s) l
    by_cases e : c = s
    · subst e
      have e1 : cut1 c (c :: l) = [] :: cut1 c l := by simp [cut1]
      rw [e1]
      cases h2 : cut1 c l with
      | nil => exact absurd h2 (cut1_ne c l)
      | cons q ps =>
        rw [h2] at ih
        rw [List.getLast?_cons_cons]
        rw [ih]
        cases l with
        | nil => simp
        | cons d l => simp [List.getLast?_cons_cons]
    · cases h2 : cut1 s l with
      | nil => exact absurd h2 (cut1_ne s l)
      | cons q ps =>
        have e1 : cut1 s (c :: l) = (c :: q) :: ps := by simp [cut1, e, h2]
        rw [e1]
        rw [h2] at ih
        cases l with
        | nil =>
          simp [cut1] at h2
          obtain ⟨rfl, rfl⟩ := h2
          simp [e]
        | cons d l =>
          rw [List.getLast?_cons_cons]
          cases ps with
          | nil =>
            simp at ih ⊢
            rw [← ih]
            intro hq
            subst hq
            unfold cut1 at h2
            split at h2
            · have := cut1_ne s l
              simp_all
            · split at h2 <;> simp_all
          | cons q2 ps =>
            rw [List.getLast?_cons_cons] at ih ⊢
            rw [ih]
            simp
end K60
set_option Elab.async false
set_option linter.all false
set_option maxRecDepth 100000
set_option maxHeartbeats 4000000
/-! What the texts are and what is read of them, in plain Lean -/
namespace K60
open PySem PySem.Spec PyProof.Rows L2 TL
abbrev Codes := List Nat
def fig (most : Nat) (w : Codes) : Option Nat := match w with
  | [c] => if 48 ≤ c ∧ c ≤ 57 ∧ c - 48 ≤ most then some (c - 48) else none
  | _ => none
def figs (most : Nat) (ws : List Codes) : Option (List Nat) := if (ws.all fun w => (fig most w).isSome) = true then some (ws.map fun w => (fig most w).getD 0) else none
def linesOf : Option Codes → Except Nat (List Codes)
  | none => .error 0
  | some l => if l ≠ [] ∧ l.getLast? ≠ some 10 then .error ((cut1 10 l).length - 1) else .ok (cut1 10 l).dropLast
/-- f at places start, start + 1 .., k of them; the first without an answer -/
def upto {α : Type} (f : Nat → Option α) : Nat → Nat → Except Nat (List α)
  | 0, _ => .ok []
  | k + 1, at_ => match f at_ with
    | none => .error at_
    | some x => match upto f k (at_ + 1) with
      | .ok xs => .ok (x :: xs)
      | .error e => .error e
def Good {α : Type} (f : Nat → Option α) (at_ : Nat) (xs : List α) : Prop := ∀ j x, xs[j]? = some x → f (at_ + j) = some x
theorem upto_ok {α : Type} {f : Nat → Option α} : ∀ {xs : List α} {at_ : Nat}, Good f at_ xs → upto f xs.length at_ = .ok xs
  | [], _, _ => rfl
  | x :: xs, at_, h => by
    have h0 : f at_ = some x := h 0 x rfl
    have ih := upto_ok (xs := xs) (at_ := at_ + 1) fun j y hy => by
      have := h (j + 1) y hy
      rw [show at_ + (j + 1) = at_ + 1 + j by omega] at this
      exact this
    rw [List.length_cons]
    unfold upto
    rw [h0]
    simp only [ih]
theorem upto_err {α : Type} {f : Nat → Option α} : ∀ {xs : List α} {at_ n : Nat}, Good f at_ xs → xs.length < n → f (at_ + xs.length) = none → upto f n at_ = .error (at_ + xs.length)
  | [], at_, 0, _, h, _ => absurd h (Nat.lt_irrefl _)
  | [], at_, n + 1, _, _, h => by
    unfold upto
    have h' : f at_ = none := h
    rw [h']
    rfl
  | x :: xs, at_, 0, _, h, _ => absurd h (by simp)
  | x :: xs, at_, n + 1, g, hn, h => by
    have h0 : f at_ = some x := g 0 x rfl
    have ih := upto_err (xs := xs) (at_ := at_ + 1) (n := n) (fun j y hy => by
      have := g (j + 1) y hy
      rw [show at_ + (j + 1) = at_ + 1 + j by omega] at this
      exact this) (by rw [List.length_cons] at hn; omega) (by rw [List.length_cons] at h; rw [show at_ + 1 + xs.length = at_ + (xs.length + 1) by omega]; exact h)
    unfold upto
    rw [h0]
    simp only [ih, List.length_cons]
    congr 1
    omega
theorem good_snoc {α : Type} {f : Nat → Option α} {at_ : Nat} {xs : List α} {x : α} (g : Good f at_ xs) (h : f (at_ + xs.length) = some x) : Good f at_ (xs ++ [x]) := fun j y hy => by
  by_cases hj : j < xs.length
  · rw [List.getElem?_append_left hj] at hy
    exact g j y hy
  · have hl : j < (xs ++ [x]).length := (List.getElem?_eq_some_iff.mp hy).1
    rw [List.length_append, List.length_singleton] at hl
    have e : j = xs.length := by omega
    subst e
    rw [List.getElem?_concat_length] at hy
    cases hy
    exact h
theorem good_nil {α : Type} {f : Nat → Option α} {at_ : Nat} : Good f at_ [] := fun j x h => by simp at h
/-! ### the texts -/
def wordsT (r : List Nat) : Codes := (r.map fun n => 32 :: numL n).flatten
def houseLn (k : Nat) (r : List Nat) : Codes := cs "clerk " ++ numL k ++ cs " looks at" ++ wordsT r
def ruleLn (k : Nat) (t : List Nat) : Codes := cs "clerk " ++ numL k ++ cs " writes" ++ wordsT t
def pairT (p : List Nat) : Codes := numL (p.getD 0 0) ++ cs "=" ++ numL (p.getD 1 0)
def nightLn (ps : List (List Nat)) : Codes := cs "night" ++ (ps.map fun p => 32 :: pairT p).flatten
def signsLn (s : Nat) : Codes := cs "signs " ++ numL s
def linesH (h : List (List Nat)) : List Codes := h.zipIdx.map fun p => houseLn p.2 p.1
def linesR (s : Nat) (ts : List (List Nat)) : List Codes := signsLn s :: ts.zipIdx.map fun p => ruleLn p.2 p.1
def linesN (ns : List (List (List Nat))) : List Codes := ns.map nightLn
def textOf (ls : List Codes) : Codes := (ls.map fun l => l ++ [10]).flatten
/-! ### what is read -/
def headH (k : Nat) : List Codes := [cs "clerk", numL k, cs "looks", cs "at"]
def rowH (n k : Nat) (line : Codes) : Option (List Nat) :=
  if (cut1 32 line).take 4 = headH k then match figs 6 ((cut1 32 line).drop 4) with
    | some r => if k < 7 ∧ r ≠ [] ∧ lotN n r = true then some r else none
    | none => none
  else none
def readH (o : Option Codes) : Except Nat (List (List Nat)) := match linesOf o with
  | .error e => .error e
  | .ok ls => if ls = [] then .error 0 else upto (fun k => (ls[k]?).bind (rowH ls.length k)) ls.length 0
def headR (k : Nat) : List Codes := [cs "clerk", numL k, cs "writes"]
def signsOf (line : Codes) : Option Nat := if line = cs "signs 2" then some 2 else if line = cs "signs 3" then some 3 else none
def tabR (h : List (List Nat)) (s k : Nat) (ws : List Codes) : Option (List Nat) :=
  if ws.take 3 = headR k then match figs 2 (ws.drop 3) with
    | some t => match h[k]? with
      | some r => if tblB s r.length t = true then some t else none
      | none => none
    | none => none
  else none
def readR (h : List (List Nat)) (o : Option Codes) : Except Nat (Nat × List (List Nat)) := match linesOf o with
  | .error e => .error e
  | .ok ls => match (ls[0]?).bind signsOf with
    | none => .error 0
    | some s => match upto (fun k => tabR h s (k - 1) (if k < ls.length then cut1 32 (ls.getD k []) else [])) (max ls.length (h.length + 1) - 1) 1 with
      | .ok ts => .ok (s, ts)
      | .error e => .error e
def pairsOf (ws : List Codes) : Option (List (List Nat)) := if (ws.all fun w => (figs 7 (cut1 61 w)).isSome) = true then some (ws.map fun w => (figs 7 (cut1 61 w)).getD []) else none
def nightOf (n s : Nat) (line : Codes) : Option (List (List Nat)) := match pairsOf (cut1 32 line).tail with
  | some ps => if (cut1 32 line).head? = some (cs "night") ∧ nightB n s 7 ps = true then some ps else none
  | none => none
def readN (n s : Nat) (o : Option Codes) : Except Nat (List (List (List Nat))) := match linesOf o with
  | .error e => .error e
  | .ok ls => upto (fun k => if k < 200 then (ls[k]?).bind (nightOf n s) else none) ls.length 0
end K60
set_option Elab.async false
set_option linter.all false
set_option maxRecDepth 100000
set_option maxHeartbeats 4000000
/-! BadLine, lines_of, figure_of, numbers_of, words_of -/
namespace K60
open PySem PySem.Spec PyProof.Rows L2 Gx RZ TL
open LamX (TabB Tabs TabS CodeO ExtN)
/-! ### the error -/
abbrev sBadI : Stmt := inClass (top 5) 0
theorem scBadI : FnScope ["self", "line"] ["self", "line"] (defScope sBadI) := ⟨rfl, rfl, rfl, by decide +kernel, rfl, by decide +kernel, by decide +kernel⟩
structure Bad (K : PySem.W.Frag) (mg : Str → Option Value) (C : Addr) : Prop where
  T : OexC K C
  ini : ∃ fI fdI, PySem.W.findIn K (.ref C) "__init__" = some (some (.ref fI)) ∧ PySem.W.typeIn K (.ref fI) = some (.type "function") ∧ Fun K "__init__" "BadLine.__init__" sBadI fI fdI ∧ Binds K fdI ["self", "line"] []
  g : mg "BadLine" = some (.ref C)
  nf : PySem.W.findIn K (.ref C) "line" = some none
  xf : XfC K C
  te : PySem.W.exmOne K (.ref C) (.ref C) = some true
def spBadI (K : PySem.W.Frag) : Sp := fun vs H Q _ => ∃ (a C : Addr) (v : V), vs = [.ref a, v] ∧ OexC K C ∧ PySem.W.findIn K (.ref C) "line" = some none ∧ H a = some (exo a C none) ∧
  ∀ dx, H dx = none → dx ≠ a → Q .non (upd (upd H dx (exd dx [("line", v)])) a (exo a C (some dx)))
section
variable {P : Program} {w : World} {K : PySem.W.Frag} {mg : Str → Option Value} {base : Heap} {T : List (Addr × Str)} {C : Addr}
theorem ok_badI {f : Addr} {fd : FuncData} (F : Fun K "__init__" "BadLine.__init__" sBadI f fd) : FnOk P w K mg base CX0 1 f fd ["self", "line"] (spBadI K) := by
  refine F.ok scBadI (fun vs H Q E h => ?_) (fun cdv A outer s H vs Q E hr h => ?_)
  · obtain ⟨a, C, v, rfl, _⟩ := h
    rfl
  · obtain ⟨a, C, v, rfl, hT, hno, ha, k⟩ := h
    refine ⟨_, pss_one (ps_ost (pv 0) (pv 1)), ?_⟩
    exact ⟨_, rfl, _, rfl, a, C, rfl, hT, hno, .inl ⟨ha, fun dx hd hne => k dx hd hne⟩⟩
/-- what is wanted of BadLine(n) -/
def ErrAt (C : Addr) (T : List (Addr × Str)) (H : Hp) (E : XK) (n : Nat) : Prop := ∀ d H', ExtN H H' → Tabs T H' → H' d = some (.xd [("line", nv n)]) → E (.ref C) (some d) H'
/-- the answer of a call that may raise: r in plain Lean, k how its value stands -/
def Res {α : Type} (C : Addr) (T : List (Addr × Str)) (H : Hp) (Q : VK) (E : XK) (r : Except Nat α) (k : α → V → Hp → Prop) : Prop :=
  (∀ n, r = .error n → ErrAt C T H E n) ∧ ∀ x, r = .ok x → ∀ v H', ExtN H H' → Tabs T H' → k x v H' → Q v H'
theorem Res.err {α : Type} {H : Hp} {Q : VK} {E : XK} {r : Except Nat α} {k : α → V → Hp → Prop} {n : Nat} (h : Res C T H Q E r k) (e : r = .error n) : ErrAt C T H E n := h.1 n e
theorem ErrAt.back {H H1 : Hp} {E : XK} {n : Nat} (h : ErrAt C T H E n) (e : ExtN H H1) : ErrAt C T H1 E n := fun d H' e1 t1 hd => h d H' (e.trans e1) t1 hd
end
section
variable {X : Cx} {C : Addr} {T : List (Addr × Str)}
/-- the making of the error, then the way out -/
theorem bad_out {K : PySem.W.Frag} {v : V} {H1 : Hp} {W : Value → Option Addr → Hp → Prop} (hT : OexC K C) (hno : PySem.W.findIn K (.ref C) "line" = some none) (h : ∀ d, H1 d = none → W (.ref C) (some d) (upd H1 d (.xd [("line", v)]))) :
    ([v] : List V).length ≤ 1000 ∧ ∀ a, H1 a = none → spBadI K (.ref a :: ([v] ++ [])) (upd H1 a (exo a C none))
      (fun v H2 => v = .non ∧ ∃ (d : Addr) (fs : List (Str × V)), H2 a = some (exo a C (some d)) ∧ H2 d = some (exd d fs) ∧ H1 d = none ∧ W (.ref C) (some d) (upd (del H2 a) d (.xd fs))) (fun _ _ _ => False) := by
  refine ⟨by show 1 ≤ 1000; decide, fun a ha => ⟨a, C, v, rfl, hT, hno, upd_same, fun dx hd hne => ⟨rfl, dx, [("line", v)], upd_same, by rw [upd_ne hne, upd_same], ?_, ?_⟩⟩⟩
  · rw [upd_ne hne] at hd
    exact hd
  · have hd' : H1 dx = none := by
      rw [upd_ne hne] at hd
      exact hd
    have e : upd (del (upd (upd (upd H1 a (exo a C none)) dx (exd dx [("line", v)])) a (exo a C (some dx))) a) dx (.xd [("line", v)]) = upd H1 dx (.xd [("line", v)]) := by
      funext b
      by_cases h1 : b = dx
      · rw [h1, upd_same, upd_same]
      · rw [upd_ne h1, upd_ne h1]
        by_cases h2 : b = a
        · rw [h2, del_same, ha]
        · rw [del_ne h2, upd_ne h2, upd_ne h1, upd_ne h2]
    rw [e]
    exact h dx hd'
theorem err_new {H H1 : Hp} {E : XK} {n : Nat} (h : ErrAt C T H E n) (e1 : ExtN H H1) (t1 : Tabs T H1) : ∀ d, H1 d = none → E (.ref C) (some d) (upd H1 d (.xd [("line", nv n)])) := fun d hd =>
  h d _ (extN_upd e1 (Nw.ext e1 hd)) (tabs_new t1 hd) upd_same
/-- raise BadLine(e) -/
theorem ps_bad {e : Expr} {te : TE} {W : WX} {p pos pos2 : Pos} (hc : X.calm = true) (B : Bad X.K X.mg C) (hr : Room 2 X.A) (tk : Takes X W) (he : PE X e te) (hg : Gl X "BadLine")
    (hst : starEach [e] X.env = (false, eval e X.env) :: starEach [] X.env := by rfl) (hpl : (backTo pos (starEach [] X.env)).any (·.1) = false := by rfl) :
    PS X (.Raise (some (.Call (.Name "BadLine" p) [e] [] pos)) none pos2) (fun _ σ H => tMkO C (spBadI X.K) [] (tCons te tNil) σ H fun cls d H' => W cls d σ H') := by
  obtain ⟨fI, fdI, h1, h2, h3, h4⟩ := B.ini
  exact ps_raise hc tk (pmk_oex B.T h1 h2 (ok_badI h3) hr h4 .nil pass0 hg B.g (pa_cons he pa_nil hst) (by decide) hst hpl)
end
/-! ### lines_of -/
/-- a text, or no text -/
def TxV (v : V) (o : Option Codes) : Prop := (∃ l, v = tv l ∧ o = some l) ∨ (o = none ∧ (v = .non ∨ ∃ i, v = .int i))
/-- signs below 128, not too many -/
def Fine (o : Option Codes) : Prop := ∀ l, o = some l → l.length ≤ 100000 ∧ ∀ c ∈ l, c < 128
abbrev sLines : Stmt := top 20
theorem scLines : FnScope ["text"] ["text"] (defScope sLines) := ⟨rfl, rfl, rfl, by decide +kernel, rfl, by decide +kernel, by decide +kernel⟩
def spLines (C : Addr) (T : List (Addr × Str)) : Sp := fun vs H Q E => ∃ (v : V) (o : Option Codes), vs = [v] ∧ TxV v o ∧ Fine o ∧ Tabs T H ∧ Res C T H Q E (linesOf o) (fun ls v H' => ∃ p, v = .ref p ∧ Nw H p ∧ H' p = some (.lst (ls.map tv)))
theorem last_ne {l : Codes} (h : l ≠ []) : ∃ c, l.getLast? = some c ∧ atI l (-1) = some c := by
  have hl : 0 < l.length := List.length_pos_iff.mpr h
  refine ⟨l.getLast h, List.getLast?_eq_getLast h, ?_⟩
  unfold atI ixN
  rw [if_neg (by decide), if_pos (by omega)]
  show l[((-1 : Int) + (l.length : Int)).toNat]? = _
  have e : ((-1 : Int) + (l.length : Int)).toNat = l.length - 1 := by omega
  rw [e, List.getLast_eq_getElem, List.getElem?_eq_getElem]
theorem cut_init (xs : List V) : cutV xs none (some (-1)) = xs.dropLast := by
  unfold cutV
  rw [HT.sIx_none, List.drop_zero]
  have e : HT.sIx xs.length xs.length (some (-1)) - 0 = xs.length - 1 := by
    show (if (-1 : Int) < 0 then ((-1 : Int) + (xs.length : Int)).toNat else min (-1 : Int).toNat xs.length) - 0 = _
    rw [if_pos (by decide)]
    omega
  rw [e, List.dropLast_eq_take]
section
variable {P : Program} {w : World} {K : PySem.W.Frag} {mg : Str → Option Value} {base : Heap} {T : List (Addr × Str)} {C : Addr}
theorem ok_lines {f : Addr} {fd : FuncData} (F : Fun K "lines_of" "lines_of" sLines f fd) (B : Bl mg) (BC : Bad K mg C) : FnOk P w K mg base (L2.CX P w) 3 f fd ["text"] (spLines C T) := by
  refine F.okX scLines (fun vs H Q E h => ?_) (fun cdv A outer s H vs Q E hr h => ?_)
  · obtain ⟨v, o, rfl, _⟩ := h
    rfl
  · obtain ⟨v, o, rfl, hv, hf, hT, kE, kQ⟩ := h
    refine ⟨_, pss_cons (ps_if (pt_not (pt_val (pe_callB call_isiB (by rfl) B.isi boot_isi (pa_cons (pv 0) (pa_cons (pe_bltn (v := .ty "str") (by rfl) B.str boot_str rfl) pa_nil)))))
        (pss_one (ps_bad rfl BC hr (takes_of rfl rfl rfl rfl) pe_int (by rfl))) pss_nil)
      (pss_cons (ps_if (PW.pt (pw_and (pt_cmpR op_ne (pv 0) pe_str (nomark _)) (pw_and1 (pt_cmpR op_ne (pe_ix ix_str (pv 0) (pe_un un_neg pe_int) (fun _ _ => rfl)) pe_str (nomark _)))))
        (pss_one (ps_bad rfl BC hr (takes_of rfl rfl rfl rfl) (pe_m1 PySem.F.slot_str_count PySem.F.type_str_count mt_count (pv 0) pe_str) (by rfl))) pss_nil)
      (pss_one (ps_ret (pe_slice sl_list (pe_split (pv 0) pe_str) po_none (po_some (pe_un un_neg pe_int)))))), ?_⟩
    rcases hv with ⟨l, rfl, rfl⟩ | ⟨rfl, hv⟩
    case inr =>
      have out := bad_out (W := fun cls d H' => E cls d H') BC.T BC.nf (err_new (kE 0 rfl) (ExtN.refl H) hT)
      rcases hv with rfl | ⟨i, rfl⟩
      · exact ⟨_, rfl, _, "str", "NoneType", false, rfl, TyX.non, k_ns, false, rfl, iteT out⟩
      · exact ⟨_, rfl, _, "str", "int", false, rfl, TyX.int i, k_is, false, rfl, iteT out⟩
    obtain ⟨hlen, hasc⟩ := hf l rfl
    refine ⟨_, rfl, _, "str", "str", true, rfl, TyX.str _, k_ss, true, rfl, iteF ?_⟩
    have fin : linesOf (some l) = .ok (cut1 10 l).dropLast → ∀ p, H p = none → ∀ p2, upd H p (.lst ((Txt.split (mk l) (mk [10])).map V.str)) p2 = none →
        Q (.ref p2) (upd (upd H p (.lst ((Txt.split (mk l) (mk [10])).map V.str))) p2 (.lst (cutV ((Txt.split (mk l) (mk [10])).map V.str) none (some (-1))))) := fun hok p hp p2 hp2 => by
      have e1 : ExtN H (upd H p (.lst ((Txt.split (mk l) (mk [10])).map V.str))) := extN_new hp
      refine kQ _ hok (.ref p2) _ (extN_upd e1 (Nw.ext e1 hp2)) (tabs_new (tabs_new hT hp) hp2) ⟨p2, rfl, Nw.ext e1 hp2, ?_⟩
      rw [upd_same, cut_init, split_mk l 10 (by decide), tv_map, List.map_dropLast]
    have hsz : (mk l).length + 2 ≤ sizeLine := small (by rw [mk_len]; omega)
    by_cases c1 : l = []
    · subst c1
      refine ⟨_, rfl, rfl, _, rfl, iteOf (b := false) ?_ (iteF ?_)⟩
      · show (!decide (tv [] = V.str (Str.ofString ""))) = false
        rw [lit_tv]
        decide
      · exact iteF ⟨_, rfl, ⟨_, rfl⟩, mk [], mk [10], rfl, rfl, by decide +kernel, hsz, fun p hp => ⟨1, rfl, -1, rfl, p, _, rfl, SqL.of upd_same, fun p2 hp2 => fin (by simp [linesOf]) p hp p2 hp2⟩⟩
    · have e1 : (!decide (tv l = V.str (Str.ofString ""))) = true := by
        rw [lit_tv, decide_eq_false (show ¬ (tv l = tv (cs "")) from fun h => c1 (tv_inj h))]
        rfl
      refine ⟨_, rfl, rfl, _, rfl, iteOf e1 (iteT ?_)⟩
      obtain ⟨c, hc1, hc2⟩ := last_ne c1
      refine ⟨_, rfl, _, rfl, mk l, -1, c, rfl, rfl, small (by rw [mk_len]; omega), hc2, rfl, _, rfl, ?_⟩
      by_cases c2 : c = 10
      · subst c2
        refine iteOf (b := false) ?_ (iteF ?_)
        · show (!decide (tv [10] = V.str (Str.ofString "\n"))) = false
          rw [lit_tv]
          decide
        · exact ⟨_, rfl, ⟨_, rfl⟩, mk l, mk [10], rfl, rfl, by decide +kernel, hsz, fun p hp => ⟨1, rfl, -1, rfl, p, _, rfl, SqL.of upd_same, fun p2 hp2 => fin (by simp [linesOf, hc1]) p hp p2 hp2⟩⟩
      · have e2 : (!decide (tv [c] = V.str (Str.ofString "\n"))) = true := by
          rw [lit_tv, decide_eq_false (show ¬ (tv [c] = tv (cs "\n")) from fun h => c2 (List.head_eq_of_cons_eq (tv_inj h)))]
          rfl
        refine iteOf e2 (iteT ?_)
        have e3 : linesOf (some l) = .error ((cut1 10 l).length - 1) := by
          show (if l ≠ [] ∧ l.getLast? ≠ some 10 then Except.error ((cut1 10 l).length - 1) else Except.ok (cut1 10 l).dropLast) = _
          exact if_pos ⟨c1, by rw [hc1]; exact fun h => c2 (Option.some.inj h)⟩
        refine ⟨_, rfl, ⟨_, rfl⟩, mk l, mk [10], rfl, rfl, ?_⟩
        rw [count_mk]
        exact bad_out (W := fun cls d H' => E cls d H') BC.T BC.nf (err_new (kE _ e3) (ExtN.refl H) hT)
end
end K60
set_option Elab.async false
set_option linter.all false
set_option maxRecDepth 100000
set_option maxHeartbeats 4000000
/-! figure_of, numbers_of, words_of -/
namespace K60
open PySem PySem.Spec PyProof.Rows L2 Gx RZ TL
open LamX (TabB Tabs TabS CodeO ExtN)
/-- None, or the number -/
def ov : Option Nat → V
  | none => .non
  | some n => nv n
abbrev sFig : Stmt := top 21
theorem scFig : FnScope ["word", "most"] ["word", "most"] (defScope sFig) := ⟨rfl, rfl, rfl, by decide +kernel, rfl, by decide +kernel, by decide +kernel⟩
def spFig : Sp := fun vs H Q _ => ∃ (w : Codes) (most : Nat), vs = [tv w, nv most] ∧ w.length ≤ 100000 ∧ Q (ov (fig most w)) H
theorem int_fig {c : Nat} (h1 : 48 ≤ c) (h2 : c ≤ 57) : PySem.intText? (mk [c]) = some ((c - 48 : Nat) : Int) := by
  have e : c = 48 ∨ c = 49 ∨ c = 50 ∨ c = 51 ∨ c = 52 ∨ c = 53 ∨ c = 54 ∨ c = 55 ∨ c = 56 ∨ c = 57 := by omega
  rcases e with rfl | rfl | rfl | rfl | rfl | rfl | rfl | rfl | rfl | rfl <;> decide +kernel
theorem fig_in (c : Nat) : decide (c ∈ (Str.ofString "0123456789").cps.toList) = decide (48 ≤ c ∧ c ≤ 57) := by
  have e : (Str.ofString "0123456789").cps.toList = [48, 49, 50, 51, 52, 53, 54, 55, 56, 57] := by decide +kernel
  rw [e]
  refine decide_eq_decide.mpr ?_
  simp only [List.mem_cons, List.not_mem_nil, or_false]
  omega
section
variable {P : Program} {w : World} {K : PySem.W.Frag} {mg : Str → Option Value} {base : Heap} {T : List (Addr × Str)} {C : Addr}
theorem ok_fig {f : Addr} {fd : FuncData} (F : Fun K "figure_of" "figure_of" sFig f fd) (B : Bl mg) : FnOk P w K mg base CX0 1 f fd ["word", "most"] spFig := by
  refine F.ok scFig (fun vs H Q E h => ?_) (fun cdv A outer s H vs Q E hr h => ?_)
  · obtain ⟨w, most, rfl, _⟩ := h
    rfl
  · obtain ⟨wd, most, rfl, hl, k⟩ := h
    obtain ⟨u, hfg, ru⟩ := B.fg
    refine ⟨_, pss_one (ps_ret (pe_ifExp (PW.pt (pw_and (pt_cmp (pc_eqI (pe_callB call_len_str (by rfl) B.len PySem.boot_len (pa_cons (pv 0) pa_nil)) pe_int))
        (pw_and (pt_cmpR op_in_sign (pv 0) (pe_glob (by rfl) hfg ru) rfl) (pw_and1 (pt_cmp (pc_le (pe_callTy call_int_str (by rfl) B.int boot_int (pa_cons (pv 0) pa_nil)) (pv 1)))))))
      (pe_callTy call_int_str (by rfl) B.int boot_int (pa_cons (pv 0) pa_nil)) pe_non)), ?_⟩
    have hz : (mk wd).length ≤ sizeLine := small (by rw [mk_len]; omega)
    refine ⟨_, rfl, mk wd, rfl, hz, _, _, rfl, rfl, _, rfl, ?_⟩
    match wd, hl, k, hz with
    | [], _, k, _ => exact iteOf (b := false) (decide_eq_false (by decide)) (iteF (iteF k))
    | a :: b :: r, _, k, _ => exact iteOf (b := false) (decide_eq_false (by rw [mk_len]; simp only [List.length_cons]; omega)) (iteF (iteF k))
    | [c], _, k, hz =>
      refine iteOf (b := true) (decide_eq_true (by rw [mk_len]; rfl)) (iteT ?_)
      refine ⟨_, rfl, c, Str.ofString "0123456789", rfl, rfl, _, rfl, ?_⟩
      rw [fig_in]
      by_cases c1 : 48 ≤ c ∧ c ≤ 57
      · refine iteOf (b := true) (decide_eq_true c1) (iteT ?_)
        have hi := int_fig c1.1 c1.2
        refine ⟨_, rfl, mk [c], _, rfl, hi, by rw [mk_len]; show 1 ≤ 640; decide, _, rfl, _, _, rfl, rfl, _, rfl, ?_⟩
        by_cases c2 : c - 48 ≤ most
        · refine iteOf (b := true) (decide_eq_true (by omega)) (iteT ?_)
          refine ⟨_, rfl, mk [c], _, rfl, hi, by rw [mk_len]; show 1 ≤ 640; decide, ?_⟩
          have e : fig most [c] = some (c - 48) := if_pos ⟨c1.1, c1.2, c2⟩
          rw [e] at k
          exact k
        · refine iteOf (b := false) (decide_eq_false (by omega)) (iteF ?_)
          have e : fig most [c] = none := if_neg fun h => c2 h.2.2
          rw [e] at k
          exact k
      · refine iteOf (b := false) (decide_eq_false c1) (iteF (iteF ?_))
        have e : fig most [c] = none := if_neg fun h => c1 ⟨h.1, h.2.1⟩
        rw [e] at k
        exact k
end
/-! ### numbers_of -/
abbrev sNums : Stmt := top 22
theorem scNums : FnScope ["words", "most", "found", "word"] ["words", "most"] (defScope sNums) := ⟨rfl, rfl, rfl, by decide +kernel, rfl, by decide +kernel, by decide +kernel⟩
/-- None, or a tuple of numbers -/
def OTup (K : PySem.W.Frag) (H : Hp) (v : V) : Option (List Nat) → Prop
  | none => v = .non
  | some r => TupI K H v r
theorem OTup.ext {K : PySem.W.Frag} {H H' : Hp} {v : V} {o : Option (List Nat)} (e : ExtN H H') (h : OTup K H v o) : OTup K H' v o := by
  cases o with
  | none => exact h
  | some r => exact TupI.ext e h
def spNums (K : PySem.W.Frag) (T : List (Addr × Str)) : Sp := fun vs H Q _ => ∃ (a : Addr) (ws : List Codes) (most : Nat), vs = [.ref a, nv most] ∧ SqL K H a (ws.map tv) ∧ ws.length ≤ 100001 ∧ (∀ w ∈ ws, w.length ≤ 100000) ∧ Tabs T H ∧
  ∀ v H', ExtN H H' → Tabs T H' → OTup K H' v (figs most ws) → Q v H'
theorem figs_none {most : Nat} {ws : List Codes} : inV .non (ws.map fun w => ov (fig most w)) = true ↔ figs most ws = none := by
  unfold inV figs
  rw [List.any_map]
  constructor
  · intro h
    obtain ⟨w, hw, e⟩ := List.any_eq_true.mp h
    rw [if_neg]
    intro h2
    have h3 := List.all_eq_true.mp h2 w hw
    cases q : fig most w with
    | none => rw [q] at h3; cases h3
    | some n =>
      have e' : eqV (ov (fig most w)) .non = true := e
      rw [q] at e'
      cases e'
  · intro h
    by_cases h2 : (ws.all fun w => (fig most w).isSome) = true
    · rw [if_pos h2] at h; cases h
    · rw [Bool.not_eq_true, List.all_eq_false] at h2
      obtain ⟨w, hw, e⟩ := h2
      refine List.any_eq_true.mpr ⟨w, hw, ?_⟩
      show eqV (ov (fig most w)) .non = true
      cases q : fig most w with
      | none => rfl
      | some n => rw [q] at e; exact absurd rfl e
theorem figs_some {most : Nat} {ws : List Codes} {r : List Nat} (h : figs most ws = some r) : (ws.map fun w => ov (fig most w)) = r.map nv := by
  unfold figs at h
  split at h
  · rename_i h2
    cases h
    rw [List.map_map]
    refine List.map_congr_left fun w hw => ?_
    have h3 := List.all_eq_true.mp h2 w hw
    cases q : fig most w with
    | none => rw [q] at h3; cases h3
    | some n =>
      show ov (some n) = nv ((fig most w).getD 0)
      rw [q]
      rfl
  · cases h
theorem ov_flat (o : Option Nat) : flatV (ov o) = true := by cases o <;> rfl
section
variable {P : Program} {w : World} {K : PySem.W.Frag} {mg : Str → Option Value} {base : Heap} {T : List (Addr × Str)} {C : Addr}
theorem ok_nums {f fF : Addr} {fd fdF : FuncData} (F : Fun K "numbers_of" "numbers_of" sNums f fd) (B : Bl mg) (DF : Df K mg "figure_of" sFig ["word", "most"] fF fdF) : FnOk P w K mg base CX0 2 f fd ["words", "most"] (spNums K T) := by
  have GF : FnOk P w K mg base CX0 1 fF fdF ["word", "most"] spFig := ok_fig DF.F B
  refine F.ok scNums (fun vs H Q E h => ?_) (fun cdv A outer s H vs Q E hr h => ?_)
  · obtain ⟨a, ws, most, rfl, _⟩ := h
    rfl
  · obtain ⟨a, ws, most, rfl, ha, hl, hw, hT, k⟩ := h
    refine ⟨_, pss_cons (ps_set (i := 2) scNums.nd rfl (Or.inl rfl) (pe_callTy call_tuple_of (by rfl) B.tuple boot_tuple (pa_cons
        (pe_lc (own := [("word", 3)]) (g := gName 3) (tt := tYes) rfl scNums.nd (pi_list (pv 0)) (blkOk_by (N := ["words", "most", "found", "word"]) (sc := defScope sNums) (by decide +kernel)) (fun _ _ _ _ _ => pg_name (i := 3) scNums.nd rfl (Or.inl rfl)) (fun _ _ _ _ _ => pts_nil)
          (fun _ _ _ _ _ => pe_call GF hr (by rfl) DF.g DF.kp DF.b .nil pass0 (pa_cons (pv 3) (pa_cons (pv 1) pa_nil)))) pa_nil)))
      (pss_one (ps_ret (pe_ifExp (pt_cmpR op_in_seq pe_non (pv 2) rfl) pe_non (pv 2)))), ?_⟩
    refine ⟨_, rfl, a, rfl, ⟨_, ha⟩, fun D hD => lc_list (K := K) (a := a) (xs := ws.map tv) (fun i H' => ExtN H H' ∧ Tabs T H' ∧ H' D = some (.lst ((ws.take i).map fun w => ov (fig most w)))) ⟨extN_new hD, tabs_new hT hD, upd_same⟩ (fun i H' _ p => sqL_ext p.1 ha) ?_ ?_⟩
    · rintro i x H' hi ⟨e1, t1, d1⟩
      obtain ⟨wd, hwd, rfl⟩ := map_get hi
      refine ⟨rfl, ?_⟩
      refine ⟨_, rfl, _, rfl, wd, most, rfl, hw wd (List.mem_of_getElem? hwd), _, d1, ?_, extN_upd e1 (Nw.of hD), tabs_lst t1 d1, ?_⟩
      · rw [List.length_map, List.length_take]
        exact Nat.lt_of_le_of_lt (Nat.min_le_right _ _) (Nat.lt_of_le_of_lt hl (by rw [sizeLine_eq]; decide))
      · rw [upd_same, List.take_add_one, hwd, List.map_append]
        rfl
    · rintro H' ⟨e1, t1, d1⟩
      rw [List.length_map, List.take_length] at d1
      refine ⟨D, _, rfl, .inl ⟨SqL.of d1, fun l hlN => ?_⟩⟩
      have e2 := extN_upd (o := .tup (ws.map fun w => ov (fig most w))) e1 (Nw.ext e1 hlN)
      have t2 := tabs_new (o := .tup (ws.map fun w => ov (fig most w))) t1 hlN
      refine ⟨_, rfl, l, _, rfl, .inr (SqT.of upd_same), rfl, ?_, _, rfl, ?_⟩
      · rw [List.all_map]
        exact List.all_eq_true.mpr fun w _ => ov_flat _
      by_cases c1 : figs most ws = none
      · refine iteOf (figs_none.mpr c1) (iteT ?_)
        exact k .non _ e2 t2 (by rw [c1]; rfl)
      · have c2 : inV .non (ws.map fun w => ov (fig most w)) = false := by
          rw [Bool.eq_false_iff]
          exact fun h => c1 (figs_none.mp h)
        refine iteOf c2 (iteF ⟨_, rfl, ?_⟩)
        obtain ⟨r, hr1⟩ := Option.ne_none_iff_exists'.mp c1
        refine k (.ref l) _ e2 t2 ?_
        rw [hr1]
        refine ⟨l, rfl, ?_⟩
        rw [← figs_some hr1]
        exact SqT.of upd_same
end
/-! ### words_of -/
abbrev sWords : Stmt := top 23
theorem scWords : FnScope ["numbers", "number"] ["numbers"] (defScope sWords) := ⟨rfl, rfl, rfl, by decide +kernel, rfl, by decide +kernel, by decide +kernel⟩
def spWords (K : PySem.W.Frag) (T : List (Addr × Str)) : Sp := fun vs H Q _ => ∃ (v : V) (r : List Nat), vs = [v] ∧ TupI K H v r ∧ r.length ≤ 100000 ∧ (∀ n ∈ r, n < 10) ∧ Tabs T H ∧ Out T H fun H' => Q (tv (wordsT r)) H'
theorem log_small {n : Nat} (h : n < 10 ^ 9) : (n : Int).natAbs.log2 < 1920 := by
  rw [Int.natAbs_natCast]
  exact Nat.lt_of_lt_of_le (PySem.Flt.log2_lt_of (k := 64) (by decide) (Nat.lt_of_lt_of_le h (by decide : 10 ^ 9 ≤ 2 ^ 64))) (by decide : 64 ≤ 1920)
theorem num1 {n : Nat} (h : n < 10) : (numL n).length = 1 ∧ numL n = [48 + n] := by
  have e : n = 0 ∨ n = 1 ∨ n = 2 ∨ n = 3 ∨ n = 4 ∨ n = 5 ∨ n = 6 ∨ n = 7 ∨ n = 8 ∨ n = 9 := by omega
  rcases e with rfl | rfl | rfl | rfl | rfl | rfl | rfl | rfl | rfl | rfl <;> decide +kernel
theorem words_len : ∀ {r : List Nat}, (∀ n ∈ r, n < 10) → (wordsT r).length = 2 * r.length
  | [], _ => rfl
  | n :: r, h => by
    have ih := words_len (r := r) fun m hm => h m (List.mem_cons_of_mem _ hm)
    have e : wordsT (n :: r) = 32 :: (numL n ++ wordsT r) := rfl
    rw [e, List.length_cons, List.length_append, (num1 (h n List.mem_cons_self)).1, ih, List.length_cons]
    omega
section
variable {P : Program} {w : World} {K : PySem.W.Frag} {mg : Str → Option Value} {base : Heap} {T : List (Addr × Str)} {C : Addr}
theorem ok_words {f : Addr} {fd : FuncData} (F : Fun K "words_of" "words_of" sWords f fd) (B : Bl mg) : FnOk P w K mg base CX0 1 f fd ["numbers"] (spWords K T) := by
  refine F.ok scWords (fun vs H Q E h => ?_) (fun cdv A outer s H vs Q E hr h => ?_)
  · obtain ⟨v, r, rfl, _⟩ := h
    rfl
  · obtain ⟨v, r, rfl, ⟨a, rfl, ha⟩, hl, hd, hT, k⟩ := h
    refine ⟨_, pss_one (ps_ret (pe_join pe_str (pe_lc (own := [("number", 1)]) (g := gName 1) (tt := tYes) rfl scWords.nd (pi_tup (pv 0)) (blkOk_by (N := ["numbers", "number"]) (sc := defScope sWords) (by decide +kernel)) (fun _ _ _ _ _ => pg_name (i := 1) scWords.nd rfl (Or.inl rfl)) (fun _ _ _ _ _ => pts_nil)
        (fun _ _ _ _ _ => pe_op op_add_str pe_str (pe_callTy call_str_int (by rfl) B.str boot_str (pa_cons (pv 1) pa_nil)))))), ?_⟩
    refine ⟨⟨_, rfl⟩, _, rfl, a, rfl, ⟨_, ha⟩, fun D hD => lc_tup (K := K) (a := a) (xs := r.map nv) (fun i H' => ExtN H H' ∧ Tabs T H' ∧ H' D = some (.lst ((r.take i).map fun n => tv (32 :: numL n)))) ⟨extN_new hD, tabs_new hT hD, upd_same⟩ (fun i H' _ p => sqT_ext p.1 ha) ?_ ?_⟩
    · rintro i x H' hi ⟨e1, t1, d1⟩
      obtain ⟨n, hn, rfl⟩ := map_get hi
      have hn9 := hd n (List.mem_of_getElem? hn)
      have e0 : (Str.ofString " " ++ Str.ofString (toString ((n : Nat) : Int))) = mk (32 :: numL n) := by
        rw [mk_lit, show (Str.ofString (toString ((n : Nat) : Int))) = mk (numL n) from mk_num n, mk_app]
        rfl
      refine ⟨rfl, ?_⟩
      refine ⟨_, rfl, (n : Int), rfl, log_small (by omega), _, _, rfl, rfl, ?_, _, d1, ?_, extN_upd e1 (Nw.of hD), tabs_lst t1 d1, ?_⟩
      · rw [show (Str.ofString (toString ((n : Nat) : Int))) = mk (numL n) from mk_num n, mk_lit, mk_len, mk_len, (num1 hn9).1]
        exact small (by decide)
      · rw [List.length_map, List.length_take]
        exact Nat.lt_of_le_of_lt (Nat.min_le_right _ _) (Nat.lt_of_le_of_lt hl (by rw [sizeLine_eq]; decide))
      · rw [upd_same, List.take_add_one, hn, List.map_append, e0]
        rfl
    · rintro H' ⟨e1, t1, d1⟩
      rw [List.length_map, List.take_length] at d1
      have e2 : (r.map fun n => tv (32 :: numL n)) = ((r.map fun n => 32 :: numL n).map mk).map V.str := by
        rw [tv_map, List.map_map]
        rfl
      refine ⟨_, D, _, rfl, rfl, .inl (SqL.of (d1.trans (by rw [e2]))), ?_, ?_⟩
      · rw [sum_len]
        show (wordsT r).length + _ * 0 ≤ _
        rw [words_len hd]
        omega
      · have e3 : Txt.join (Str.ofString "") ((r.map fun n => 32 :: numL n).map mk) = mk (wordsT r) := by
          rw [mk_lit]
          exact join_mk _
        rw [e3]
        exact k H' e1 t1
end
end K60
set_option Elab.async false
set_option linter.all false
set_option maxRecDepth 100000
set_option maxHeartbeats 4000000
/-! What stays: tuples; all but some addresses; growing lists -/
namespace K60
open PySem PySem.Spec PyProof.Rows L2 Gx RZ TL
open LamX (TabB Tabs TabS CodeO ExtN)
/-- tuples (frozen things, too) stay -/
def ExV (H H' : Hp) : Prop := ∀ b o, H b = some o → ((∃ xs, o = .tup xs) ∨ ∃ ob u, o = .frz ob u) → H' b = some o
theorem ExV.refl (H : Hp) : ExV H H := fun _ _ e _ => e
theorem ExV.trans {H H1 H2 : Hp} (a : ExV H H1) (b : ExV H1 H2) : ExV H H2 := fun x o e n => b x o (a x o e n) n
theorem ExV.of {H H' : Hp} (e : ExtN H H') : ExV H H' := fun b o h n => e b o h fun ps q => by
  rcases n with ⟨xs, z⟩ | ⟨ob, u, z⟩ <;> rw [z] at q <;> cases q
theorem exV_upd {H : Hp} {p : Addr} {o u : HO} (h : H p = some u) (n : ¬ ((∃ xs, u = .tup xs) ∨ ∃ ob v, u = .frz ob v)) : ExV H (upd H p o) := fun b w e m => by
  have h1 : b ≠ p := fun z => by
    rw [z, h] at e
    cases e
    exact n m
  rw [upd_ne h1]; exact e
theorem exV_lst {H : Hp} {p : Addr} {o : HO} {xs : List V} (h : H p = some (.lst xs)) : ExV H (upd H p o) := exV_upd h fun z => by rcases z with ⟨_, z⟩ | ⟨_, _, z⟩ <;> cases z
theorem exV_dK {H : Hp} {p : Addr} {o : HO} {xs : List (Key × V)} (h : H p = some (.dK xs)) : ExV H (upd H p o) := exV_upd h fun z => by rcases z with ⟨_, z⟩ | ⟨_, _, z⟩ <;> cases z
theorem exV_new {H : Hp} {p : Addr} {o : HO} (h : H p = none) : ExV H (upd H p o) := ExV.of (extN_new h)
section
variable {K : PySem.W.Frag} {H H' : Hp} {v : V}
theorem SqT.exV {a : Addr} {xs : List V} (e : ExV H H') (h : SqT K H a xs) : SqT K H' a xs := by
  rcases h with (h | ⟨o, h⟩) | h
  · exact .inl (.inl (e _ _ h (.inl ⟨_, rfl⟩)))
  · exact .inl (.inr ⟨o, e _ _ h (.inr ⟨_, _, rfl⟩)⟩)
  · exact .inr h
theorem TupI.exV {r : List Nat} (e : ExV H H') (h : TupI K H v r) : TupI K H' v r := let ⟨a, e1, h1⟩ := h; ⟨a, e1, SqT.exV e h1⟩
theorem TupR.exV {rs : List (List Nat)} (e : ExV H H') (h : TupR K H v rs) : TupR K H' v rs := let ⟨a, xs, e1, h1, h2⟩ := h; ⟨a, xs, e1, SqT.exV e h1, L2.Paired.mapP h2 fun _ _ q => q.exV e⟩
theorem TupN.exV {rs : List (List (List Nat))} (e : ExV H H') (h : TupN K H v rs) : TupN K H' v rs := let ⟨a, xs, e1, h1, h2⟩ := h; ⟨a, xs, e1, SqT.exV e h1, L2.Paired.mapP h2 fun _ _ q => q.exV e⟩
theorem OTup.exV {o : Option (List Nat)} (e : ExV H H') (h : OTup K H v o) : OTup K H' v o := by
  cases o with
  | none => exact h
  | some r => exact TupI.exV e h
theorem RulesAt.exV {s : Nat} {ts : List (List Nat)} (e : ExV H H') (h : RulesAt K H v s ts) : RulesAt K H' v s ts := let ⟨a, x, e1, h1, h2⟩ := h; ⟨a, x, e1, SqT.exV e h1, h2.exV e⟩
end
/-- all stays but for tables and what M names -/
def ExM (M : Addr → Prop) (H H' : Hp) : Prop := ∀ b o, H b = some o → (∀ ps, o ≠ .tbl ps) → ¬ M b → H' b = some o
theorem ExM.refl (M : Addr → Prop) (H : Hp) : ExM M H H := fun _ _ e _ _ => e
theorem ExM.trans {M : Addr → Prop} {H H1 H2 : Hp} (a : ExM M H H1) (b : ExM M H1 H2) : ExM M H H2 := fun x o e n m => b x o (a x o e n m) n m
theorem ExM.of {M : Addr → Prop} {H H' : Hp} (e : ExtN H H') : ExM M H H' := fun b o h n _ => e b o h n
theorem ExM.nw {M : Addr → Prop} {H H' : Hp} {p : Addr} (e : ExM M H H') (h : H' p = none) : ∀ b o, H b = some o → (∀ ps, o ≠ .tbl ps) → ¬ M b → b ≠ p := fun b o q n m => ne_of_none (e b o q n m) h
theorem ExM.upd {M : Addr → Prop} {H H' : Hp} {p : Addr} {o : HO} (e : ExM M H H') (h : ∀ b u, H b = some u → (∀ ps, u ≠ .tbl ps) → ¬ M b → b ≠ p) : ExM M H (upd H' p o) := fun b u q n m => by
  rw [upd_ne (h b u q n m)]
  exact e b u q n m
theorem ExM.new {M : Addr → Prop} {H H' : Hp} {p : Addr} {o : HO} (e : ExM M H H') (h : H' p = none) : ExM M H (L2.upd H' p o) := e.upd (e.nw h)
/-! ### a list that grows -/
structure Gr (E : Hp → Prop) (T : List (Addr × Str)) (D : Addr) (R : Nat → V → Hp → Prop) (i : Nat) (H' : Hp) : Prop where
  e : E H'
  t : Tabs T H'
  d : ∃ acc, H' D = some (.lst acc) ∧ acc.length = i ∧ ∀ j y, acc[j]? = some y → R j y H'
/-- what is told of an element stays while tuples stay -/
def Kp (R : Nat → V → Hp → Prop) : Prop := ∀ j y H H', ExV H H' → R j y H → R j y H'
theorem Gr.start {E : Hp → Prop} {T : List (Addr × Str)} {D : Addr} {R : Nat → V → Hp → Prop} {H : Hp} (e : E (upd H D (.lst []))) (t : Tabs T H) (h : H D = none) : Gr E T D R 0 (upd H D (.lst [])) :=
  ⟨e, tabs_new t h, [], upd_same, rfl, fun j y q => by simp at q⟩
theorem Gr.step {E : Hp → Prop} {T : List (Addr × Str)} {D : Addr} {R : Nat → V → Hp → Prop} {i : Nat} {H' H4 : Hp} {y : V} (g : Gr E T D R i H') (kp : Kp R) (hE : ∀ H o, E H → E (upd H D o)) (hi : i ≤ 16777000)
    (e4 : E H4) (t4 : Tabs T H4) (hd : ∀ acc, H' D = some (.lst acc) → H4 D = some (.lst acc)) (v4 : ExV H' H4) (r : R i y H4) : ∃ acc, H4 D = some (.lst acc) ∧ acc.length < sizeLine ∧ Gr E T D R (i + 1) (upd H4 D (.lst (acc ++ [y]))) := by
  obtain ⟨acc, h1, h2, h3⟩ := g.d
  have h4 := hd acc h1
  refine ⟨acc, h4, by rw [h2, sizeLine_eq]; omega, hE _ _ e4, tabs_lst t4 h4, acc ++ [y], upd_same, by rw [List.length_append, h2]; rfl, fun j z hz => ?_⟩
  have hv : ExV H4 (upd H4 D (.lst (acc ++ [y]))) := exV_lst h4
  by_cases hj : j < acc.length
  · rw [List.getElem?_append_left hj] at hz
    exact kp _ _ _ _ (v4.trans hv) (h3 j z hz)
  · have hl : j < (acc ++ [y]).length := (List.getElem?_eq_some_iff.mp hz).1
    rw [List.length_append, List.length_singleton] at hl
    have e : j = acc.length := by omega
    subst e
    rw [List.getElem?_concat_length] at hz
    cases hz
    rw [h2]
    exact kp _ _ _ _ hv r
/-- the same behind a change that leaves tuples and the list -/
theorem Gr.move {E : Hp → Prop} {T : List (Addr × Str)} {D : Addr} {R : Nat → V → Hp → Prop} {i : Nat} {H' H4 : Hp} (g : Gr E T D R i H') (kp : Kp R) (e4 : E H4) (t4 : Tabs T H4) (hd : ∀ acc, H' D = some (.lst acc) → H4 D = some (.lst acc)) (v4 : ExV H' H4) : Gr E T D R i H4 := by
  obtain ⟨acc, h1, h2, h3⟩ := g.d
  exact ⟨e4, t4, acc, hd acc h1, h2, fun j y hy => kp _ _ _ _ v4 (h3 j y hy)⟩
/-- what is told of the heap: stays as things are made; is none of D -/
structure EK (E : Hp → Prop) (D : Addr) : Prop where
  ext : ∀ H1 H2, E H1 → ExtN H1 H2 → E H2
  wr : ∀ H o, E H → E (upd H D o)
theorem Gr.ext {E : Hp → Prop} {T : List (Addr × Str)} {D : Addr} {R : Nat → V → Hp → Prop} {i : Nat} {H1 H2 : Hp} (g : Gr E T D R i H1) (ek : EK E D) (kp : Kp R) (e : ExtN H1 H2) (t : Tabs T H2) : Gr E T D R i H2 :=
  g.move kp (ek.ext _ _ g.e e) t (fun acc h => e _ _ h (lst_ne _)) (ExV.of e)
theorem Gr.new {E : Hp → Prop} {T : List (Addr × Str)} {D : Addr} {R : Nat → V → Hp → Prop} {i : Nat} {H1 : Hp} {p : Addr} {o : HO} (g : Gr E T D R i H1) (ek : EK E D) (kp : Kp R) (hp : H1 p = none) : Gr E T D R i (upd H1 p o) :=
  g.ext ek kp (extN_new hp) (tabs_new g.t hp)
theorem Gr.push {E : Hp → Prop} {T : List (Addr × Str)} {D : Addr} {R : Nat → V → Hp → Prop} {i : Nat} {H4 : Hp} {y : V} (g : Gr E T D R i H4) (ek : EK E D) (kp : Kp R) (hi : i ≤ 16777000) (r : R i y H4) :
    ∃ acc, H4 D = some (.lst acc) ∧ acc.length < sizeLine ∧ Gr E T D R (i + 1) (upd H4 D (.lst (acc ++ [y]))) :=
  g.step kp ek.wr hi g.e g.t (fun acc h => h) (ExV.refl _) r
theorem kp_pure (f : Nat → V → Prop) : Kp fun j y _ => f j y := fun _ _ _ _ _ r => r
/-- all elements by a function of the place's thing -/
theorem acc_map {α : Type} {f : α → V} {ws : List α} {acc : List V} (hl : acc.length = ws.length) (h : ∀ (j : Nat) y, acc[j]? = some y → ∃ w : α, ws[j]? = some w ∧ y = f w) : acc = ws.map f := by
  apply List.ext_getElem? fun j => ?_
  rw [List.getElem?_map]
  by_cases hj : j < acc.length
  · obtain ⟨w, h1, h2⟩ := h j _ (List.getElem?_eq_getElem hj)
    rw [h1, List.getElem?_eq_getElem hj, h2]
    rfl
  · rw [List.getElem?_eq_none (by omega), List.getElem?_eq_none (by omega)]
    rfl
theorem acc_pair {α : Type} {F : V → α → Prop} : ∀ {acc : List V} {ws : List α}, acc.length = ws.length → (∀ (j : Nat) y, acc[j]? = some y → ∃ w : α, ws[j]? = some w ∧ F y w) → Paired F acc ws
  | [], [], _, _ => .nil
  | [], _ :: _, h, _ => by simp at h
  | _ :: _, [], h, _ => by simp at h
  | y :: acc, w :: ws, h, g => by
    obtain ⟨w', h1, h2⟩ := g 0 y rfl
    rw [List.getElem?_cons_zero] at h1
    cases h1
    exact .cons h2 (acc_pair (by simpa using h) fun j z hz => g (j + 1) z hz)
/-- some list of things that go with the elements -/
theorem acc_ex {α : Type} {F : Nat → V → α → Prop} : ∀ {acc : List V} {k : Nat}, (∀ (j : Nat) y, acc[j]? = some y → ∃ w, F (k + j) y w) → ∃ ws : List α, ws.length = acc.length ∧ Paired (fun y w => ∃ j, F j y w) acc ws ∧ ∀ (j : Nat) w, ws[j]? = some w → ∃ y, acc[j]? = some y ∧ F (k + j) y w
  | [], _, _ => ⟨[], rfl, .nil, fun j w h => by simp at h⟩
  | y :: acc, k, g => by
    obtain ⟨w, hw⟩ := g 0 y rfl
    obtain ⟨ws, h1, h2, h3⟩ := acc_ex (F := F) (acc := acc) (k := k + 1) fun j z hz => by
      obtain ⟨u, hu⟩ := g (j + 1) z hz
      exact ⟨u, by rw [show k + 1 + j = k + (j + 1) by omega]; exact hu⟩
    refine ⟨w :: ws, by simp [h1], .cons ⟨k, hw⟩ h2, fun j u hu => ?_⟩
    cases j with
    | zero =>
      rw [List.getElem?_cons_zero] at hu
      cases hu
      exact ⟨y, rfl, hw⟩
    | succ j =>
      rw [List.getElem?_cons_succ] at hu
      obtain ⟨z, e1, e2⟩ := h3 j u hu
      refine ⟨z, by rw [List.getElem?_cons_succ]; exact e1, ?_⟩
      rw [show k + (j + 1) = k + 1 + j by omega]
      exact e2
end K60
set_option Elab.async false
set_option linter.all false
set_option maxRecDepth 100000
set_option maxHeartbeats 4000000
/-! house_text, rules_text -/
namespace K60
open PySem PySem.Spec PyProof.Rows L2 Gx RZ TL
open LamX (TabB Tabs TabS CodeO ExtN)
theorem num_tv (n : Nat) : V.str (Str.ofString (toString ((n : Nat) : Int))) = tv (numL n) := congrArg V.str (mk_num n)
def rAddT : R2 := fun x y H Q => ∃ a b : Codes, x = tv a ∧ y = tv b ∧ a.length + b.length ≤ 16777216 ∧ Q (tv (a ++ b)) H
theorem opr_mono {X : Cx} {f : Value → Value → Sem Value} {r r' : R2} (o : OpR X f r) (h : ∀ x y H Q, r' x y H Q → r x y H Q) : OpR X f r' := by
  intro pins s σ H x y v u Q I r1 r2 q
  exact o pins s σ H x y v u Q I r1 r2 (h _ _ _ _ q)
theorem rAddT_of (x y : V) (H : Hp) (Q : VK) (h : rAddT x y H Q) : ∃ i j, x = .str i ∧ y = .str j ∧ i.length + j.length ≤ sizeLine ∧ Q (.str (i ++ j)) H := by
  obtain ⟨a, b, hx, hy, hl, q⟩ := h
  exact ⟨mk a, mk b, hx, hy, by rw [mk_len, mk_len]; exact small hl, by rw [mk_app]; exact q⟩
theorem op_addT {X : Cx} : OpR X (binaryOp .Add) rAddT := opr_mono op_add_str rAddT_of
theorem iop_addT {X : Cx} : OpR X (inplaceOp .Add) rAddT := opr_mono iop_add_str rAddT_of
theorem textOf_snoc (ls : List Codes) (l : Codes) : textOf (ls ++ [l]) = textOf ls ++ (l ++ [10]) := by
  unfold textOf
  rw [List.map_append, List.flatten_append]
  simp
theorem textOf_len {B : Nat} : ∀ {ls : List Codes}, (∀ l ∈ ls, l.length ≤ B) → (textOf ls).length ≤ ls.length * (B + 1)
  | [], _ => Nat.zero_le _
  | l :: ls, h => by
    have ih := textOf_len (ls := ls) fun m hm => h m (List.mem_cons_of_mem _ hm)
    have h1 := h l List.mem_cons_self
    have e : textOf (l :: ls) = (l ++ [10]) ++ textOf ls := rfl
    rw [e, List.length_append, List.length_append]
    show l.length + 1 + (textOf ls).length ≤ (ls.length + 1) * (B + 1)
    rw [Nat.add_one_mul]
    omega
theorem linesH_get {h : List (List Nat)} {i : Nat} {r : List Nat} (e : h[i]? = some r) : (linesH h)[i]? = some (houseLn i r) := by
  unfold linesH
  rw [List.getElem?_map, List.getElem?_zipIdx, e]
  simp
theorem linesH_len (h : List (List Nat)) : (linesH h).length = h.length := by unfold linesH; rw [List.length_map, List.length_zipIdx]
theorem take_snoc {α : Type} {l : List α} {i : Nat} {x : α} (e : l[i]? = some x) : l.take (i + 1) = l.take i ++ [x] := by rw [List.take_add_one, e]; rfl
theorem lotN_lt {n : Nat} {r : List Nat} (h : lotN n r = true) : ∀ m ∈ r, m < n := fun m hm => by
  unfold lotN at h
  rw [Bool.and_eq_true] at h
  exact of_decide_eq_true (List.all_eq_true.mp h.1 m hm)
theorem OkH.dig {h : List (List Nat)} (o : OkH h) : ∀ r ∈ h, ∀ n ∈ r, n < 7 := fun r hr n hn => by
  have := lotN_lt (o.row r hr).2 n hn
  have := o.hi
  omega
theorem houseLn_len {k : Nat} {r : List Nat} (hk : k < 10) (hr : ∀ n ∈ r, n < 10) : (houseLn k r).length = 16 + 2 * r.length := by
  unfold houseLn
  rw [List.length_append, List.length_append, List.length_append, (num1 hk).1, words_len hr]
  have e1 : (cs "clerk ").length = 6 := by decide
  have e2 : (cs " looks at").length = 9 := by decide
  rw [e1, e2]
abbrev sHText : Stmt := top 24
theorem scHText : FnScope ["house", "found", "clerk", "sights"] ["house"] (defScope sHText) := ⟨rfl, rfl, rfl, by decide +kernel, rfl, by decide +kernel, by decide +kernel⟩
def spHText (K : PySem.W.Frag) (T : List (Addr × Str)) : Sp := fun vs H Q _ => ∃ (v : V) (h : List (List Nat)), vs = [v] ∧ TupR K H v h ∧ OkH h ∧ Tabs T H ∧ Out T H fun H' => Q (tv (textOf (linesH h))) H'
section
variable {P : Program} {w : World} {K : PySem.W.Frag} {mg : Str → Option Value} {base : Heap} {T : List (Addr × Str)}
theorem ok_hText {f fH fW : Addr} {fd fdH fdW : FuncData} (F : Fun K "house_text" "house_text" sHText f fd) (B : Bl mg) (DH : Df K mg "need_house" sHouse ["value"] fH fdH) (GH : FnOk P w K mg base CX0 6 fH fdH ["value"] (spHouse K T))
    (DW : Df K mg "words_of" sWords ["numbers"] fW fdW) : FnOk P w K mg base CX0 7 f fd ["house"] (spHText K T) := by
  have GW : FnOk P w K mg base CX0 1 fW fdW ["numbers"] (spWords K T) := ok_words DW.F B
  refine F.ok scHText (fun vs H Q E h => ?_) (fun cdv A outer s H vs Q E hr h => ?_)
  · obtain ⟨v, h, rfl, _⟩ := h
    rfl
  · obtain ⟨v, h, rfl, ⟨a, xs, rfl, ha, hx⟩, ok, hT, k⟩ := h
    have hr1 : Room 1 (A.deeper (envOfC "house_text" (defScope sHText) s.heap.objs.size f cdv)) := hr.mono (by decide)
    refine ⟨_, pss_cons (ps_expr (pe_call GH hr (by rfl) DH.g DH.kp DH.b .nil pass0 (pa_cons (pv 0) pa_nil)))
      (pss_cons (ps_set (i := 1) scHText.nd rfl (Or.inl rfl) pe_str)
      (pss_cons (ps_for PassesOwn.never rfl (pi_enumT (by rfl) B.enumerate (pa_cons (pv 0) pa_nil)) (pg2 K 2 3 rfl rfl scHText.nd rfl rfl (Or.inl rfl) (Or.inl rfl) (Or.inr rfl) (Or.inr rfl))
        (pss_one (ps_aug (i := 1) scHText.nd rfl (Or.inl rfl) (pe_op op_addT (pe_op op_addT (pe_op op_addT (pe_op op_addT pe_str (pe_callTy call_str_int (by rfl) B.str boot_str (pa_cons (pv 2) pa_nil))) pe_str)
          (pe_call GW hr1 (by rfl) DW.g DW.kp DW.b .nil pass0 (pa_cons (pv 3) pa_nil))) pe_str) (iop_addT (X := _)))))
      (pss_one (ps_ret (pv 1))))), ?_⟩
    refine ⟨_, rfl, .ref a, h, rfl, ⟨a, xs, rfl, ha, hx⟩, ok, hT, fun H1 x1 t1 => ?_⟩
    refine ⟨_, rfl, a, xs, rfl, sqT_ext x1 ha, for_enumT (xs := xs) (fun i σ H' => ExtN H H' ∧ Tabs T H' ∧ ∃ v1 v2, σ = [some (.ref a), some (tv (textOf ((linesH h).take i))), v1, v2]) ⟨x1, t1, none, none, ?_⟩ (fun i σ H' _ p => sqT_ext p.1 ha) ?_ ?_⟩
    · show [some (V.ref a), some (V.str (Str.ofString "")), none, none] = _
      rw [lit_tv]
      rfl
    · rintro i x Tp σ H' hi ⟨e1, t1, v1, v2, rfl⟩ hTp
      obtain ⟨r, hr1, b, rfl, hb⟩ := paired_get hx hi
      have hin := List.mem_of_getElem? hr1
      have hi7 : i < 7 := by
        have := (List.getElem?_eq_some_iff.mp hr1).1
        have := ok.hi
        omega
      have hd : ∀ n ∈ r, n < 10 := fun n hn => Nat.lt_trans (ok.dig r hin n hn) (by decide)
      have hsh := ok.short r hin
      have e2 : ExtN H (upd H' Tp (.tup [.int (i : Nat), .ref b])) := extN_upd e1 (Nw.ext e1 hTp)
      have hnm := (num1 (n := i) (by omega)).1
      have hw := words_len hd
      have c1 : (cs "clerk ").length = 6 := by decide
      have c2 : (cs " looks at").length = 9 := by decide
      have c3 : (cs "\n").length = 1 := by decide
      refine ⟨Tp, _, rfl, SqT.of upd_same, rfl, _, _, rfl, _, _, rfl, rfl, ?_⟩
      refine ⟨_, rfl, _, rfl, (i : Int), rfl, log_small (by omega), _, _, lit_tv "clerk ", num_tv i, by omega, ?_⟩
      refine ⟨_, _, rfl, lit_tv " looks at", by rw [List.length_append]; omega, _, rfl, .ref b, r, rfl, ⟨b, rfl, sqT_ext e2 hb⟩, by omega, hd, tabs_new t1 hTp, fun H2 e3 t3 => ?_⟩
      refine ⟨_, _, rfl, rfl, by simp only [List.length_append]; omega, _, _, rfl, lit_tv "\n", by simp only [List.length_append]; omega, ?_⟩
      have hl := linesH_get hr1
      have hB : (textOf ((linesH h).take i)).length ≤ ((linesH h).take i).length * 100001 := textOf_len fun l hl => by
        obtain ⟨j, hj⟩ := List.getElem?_of_mem (List.mem_of_mem_take hl)
        have hjh : j < h.length := by
          have := (List.getElem?_eq_some_iff.mp hj).1
          rw [linesH_len] at this
          exact this
        have := linesH_get (List.getElem?_eq_getElem hjh)
        rw [hj] at this
        cases this
        have hm := List.getElem_mem hjh
        rw [houseLn_len (by have := ok.hi; omega) fun n hn => Nat.lt_trans (ok.dig _ hm n hn) (by decide)]
        have := ok.short _ hm
        omega
      have hB2 : ((linesH h).take i).length ≤ 7 := by rw [List.length_take]; omega
      refine ⟨_, _, rfl, rfl, by simp only [List.length_append]; omega, e2.trans e3, t3, some (.int i), some (.ref b), ?_⟩
      rw [take_snoc hl, textOf_snoc]
      rfl
    · rintro σ H' ⟨e1, t1, v1, v2, rfl⟩
      refine ⟨_, rfl, ?_⟩
      have e : (linesH h).take xs.length = linesH h := List.take_of_length_le (by rw [linesH_len, hx.length]; exact Nat.le_refl _)
      rw [e]
      exact k H' e1 t1
end
end K60
set_option Elab.async false
set_option linter.all false
set_option maxRecDepth 100000
set_option maxHeartbeats 4000000
/-! read_house -/
namespace K60
open PySem PySem.Spec PyProof.Rows L2 Gx RZ TL
open LamX (TabB Tabs TabS CodeO ExtN)
/-! ### lists of texts -/
def dS (ws : List Codes) : PyData := .list (ws.map fun w => PyData.str (mk w))
theorem eqvAll_dS : ∀ a b : List Codes, PyData.eqvAll (a.map fun w => PyData.str (mk w)) (b.map fun w => PyData.str (mk w)) = decide (a = b)
  | [], [] => by simp [PyData.eqvAll]
  | [], _ :: _ => by simp [PyData.eqvAll]
  | _ :: _, [] => by simp [PyData.eqvAll]
  | x :: a, y :: b => by
    rw [List.map_cons, List.map_cons]
    simp only [PyData.eqvAll, PyData.eqv, eqvAll_dS a b]
    by_cases h1 : x = y
    · subst h1
      simp
    · have h2 : mk x ≠ mk y := fun e => h1 (mk_inj e)
      simp [h1, h2]
theorem eqv_dS (a b : List Codes) : PyData.eqv (dS a) (dS b) = decide (a = b) := by
  unfold dS
  simp only [PyData.eqv]
  exact eqvAll_dS a b
theorem dp_tvs {K : PySem.W.Frag} {H : Hp} : ∀ ws : List Codes, DpAll K H (ws.map tv) (ws.map fun w => PyData.str (mk w))
  | [] => .nil
  | w :: r => .cons (.str _) (dp_tvs r)
theorem sh_dS {ws : List Codes} (h : ∀ w ∈ ws, ∀ c ∈ w, c < 128) : Sh 1 (dS ws) := sh_lst (k := 0) fun d hd => by
  obtain ⟨w, hw, rfl⟩ := List.mem_map.mp hd
  exact sh_str (ok_mk (h w hw))
def Asc (ws : List Codes) : Prop := ∀ w ∈ ws, ∀ c ∈ w, c < 128
def rEqS (K : PySem.W.Frag) : R2 := fun x y H Q => ∃ (a b : Addr) (ws us : List Codes), x = .ref a ∧ y = .ref b ∧ SqL K H a (ws.map tv) ∧ SqL K H b (us.map tv) ∧ Asc ws ∧ Asc us ∧ Q (.bl (decide (ws = us))) H
def rNeS (K : PySem.W.Frag) : R2 := fun x y H Q => ∃ (a b : Addr) (ws us : List Codes), x = .ref a ∧ y = .ref b ∧ SqL K H a (ws.map tv) ∧ SqL K H b (us.map tv) ∧ Asc ws ∧ Asc us ∧ Q (.bl (!decide (ws = us))) H
theorem op_eqS {X : Cx} (hu : X.A.units + 64 < cLine) : OpR X (compareOp .Eq) (rEqS X.K) := opr_mono (op_eqD hu) fun x y H Q h => by
  obtain ⟨a, b, ws, us, rfl, rfl, ha, hb, a1, a2, q⟩ := h
  exact ⟨dS ws, dS us, .lst ha (dp_tvs ws), .lst hb (dp_tvs us), (sh_dS a1).ok, (sh_dS a2).ok, by rw [eqv_dS]; exact q⟩
theorem op_neS {X : Cx} (hu : X.A.units + 64 < cLine) : OpR X (compareOp .NotEq) (rNeS X.K) := opr_mono (op_neD hu) fun x y H Q h => by
  obtain ⟨a, b, ws, us, rfl, rfl, ha, hb, a1, a2, q⟩ := h
  exact ⟨dS ws, dS us, .lst ha (dp_tvs ws), .lst hb (dp_tvs us), (sh_dS a1).ok, (sh_dS a2).ok, by rw [eqv_dS]; exact q⟩
theorem split_tv (l : Codes) (s : Nat) (h : s < 256) : (Txt.split (mk l) (mk [s])).map V.str = (cut1 s l).map tv := by rw [split_mk l s h, tv_map]
theorem cutV_drop (xs : List V) (n : Nat) : cutV xs (some (n : Int)) none = xs.drop n := by
  unfold cutV
  have e1 : HT.sIx xs.length xs.length none = xs.length := rfl
  have e2 : HT.sIx xs.length 0 (some (n : Int)) = min n xs.length := by
    show (if (n : Int) < 0 then ((n : Int) + (xs.length : Int)).toNat else min (n : Int).toNat xs.length) = _
    rw [if_neg (by omega), Int.toNat_natCast]
  rw [e1, e2]
  by_cases h : n ≤ xs.length
  · rw [Nat.min_eq_left h]
    exact List.take_of_length_le (by rw [List.length_drop]; exact Nat.le_refl _)
  · rw [Nat.min_eq_right (by omega), List.drop_of_length_le (Nat.le_refl _), List.drop_of_length_le (by omega), List.take_nil]
theorem cutV_take (xs : List V) (n : Nat) : cutV xs none (some (n : Int)) = xs.take n := by
  unfold cutV
  have e1 : HT.sIx xs.length 0 none = 0 := HT.sIx_none ..
  have e2 : HT.sIx xs.length xs.length (some (n : Int)) = min n xs.length := by
    show (if (n : Int) < 0 then ((n : Int) + (xs.length : Int)).toNat else min (n : Int).toNat xs.length) = _
    rw [if_neg (by omega), Int.toNat_natCast]
  rw [e1, e2, List.drop_zero, Nat.sub_zero]
  by_cases h : n ≤ xs.length
  · rw [Nat.min_eq_left h]
  · rw [Nat.min_eq_right (by omega), List.take_length, List.take_of_length_le (by omega)]
theorem cut_small {l : Codes} {s : Nat} (h : ∀ c ∈ l, c < 128) : Asc (cut1 s l) := fun w hw c hc => h c (mem_cut1 hw hc)
theorem cut_each {s : Nat} : ∀ {l p : Codes}, p ∈ cut1 s l → p.length ≤ l.length
  | [], p, hp => by
    simp [cut1] at hp
    rw [hp]; exact Nat.le_refl _
  | d :: l, p, hp => by
    unfold cut1 at hp
    split at hp
    · rcases List.mem_cons.mp hp with e | e
      · rw [e]; exact Nat.zero_le _
      · exact Nat.le_succ_of_le (cut_each e)
    · split at hp
      · rename_i h2
        exact absurd h2 (cut1_ne s l)
      · rename_i q ps h2
        rcases List.mem_cons.mp hp with e | e
        · rw [e]
          exact Nat.succ_le_succ (cut_each (s := s) (p := q) (by rw [h2]; exact List.mem_cons_self))
        · exact Nat.le_succ_of_le (cut_each (p := p) (by rw [h2]; exact List.mem_cons_of_mem _ e))
theorem lines_in {l : Codes} {ls : List Codes} (h : linesOf (some l) = .ok ls) : ls = (cut1 10 l).dropLast := by
  unfold linesOf at h
  simp only at h
  split at h
  · cases h
  · cases h; rfl
theorem lines_fine {o : Option Codes} {ls : List Codes} (hf : Fine o) (h : linesOf o = .ok ls) : ls.length ≤ 100000 ∧ ∀ l ∈ ls, l.length ≤ 100000 ∧ ∀ c ∈ l, c < 128 := by
  cases o with
  | none => cases h
  | some l =>
    obtain ⟨h1, h2⟩ := hf l rfl
    have e := lines_in h
    subst e
    refine ⟨?_, fun p hp => ?_⟩
    · rw [List.length_dropLast]
      have := len_cut1 10 l
      omega
    · have hp' := List.dropLast_subset _ hp
      exact ⟨Nat.le_trans (cut_each hp') h1, fun c hc => h2 c (mem_cut1 hp' hc)⟩
/-! ### read_house -/
abbrev sReadH : Stmt := top 25
theorem scReadH : FnScope ["text", "lines", "found", "at", "line", "words", "sights"] ["text"] (defScope sReadH) := ⟨rfl, rfl, rfl, by decide +kernel, rfl, by decide +kernel, by decide +kernel⟩
def spReadH (C : Addr) (K : PySem.W.Frag) (T : List (Addr × Str)) : Sp := fun vs H Q E => ∃ (v : V) (o : Option Codes), vs = [v] ∧ TxV v o ∧ Fine o ∧ Tabs T H ∧ Res C T H Q E (readH o) (fun hs v H' => TupR K H' v hs)
theorem rowH_none1 {n k : Nat} {l : Codes} (h : (cut1 32 l).take 4 ≠ headH k) : rowH n k l = none := if_neg h
theorem rowH_none2 {n k : Nat} {l : Codes} (h : figs 6 ((cut1 32 l).drop 4) = none) : rowH n k l = none := by
  unfold rowH
  rw [h]
  split <;> rfl
theorem rowH_some {n k : Nat} {l : Codes} {r : List Nat} (h1 : (cut1 32 l).take 4 = headH k) (h : figs 6 ((cut1 32 l).drop 4) = some r) : rowH n k l = if k < 7 ∧ r ≠ [] ∧ lotN n r = true then some r else none := by
  unfold rowH
  rw [if_pos h1, h]
theorem headH_tv (k : Nat) : [V.str (Str.ofString "clerk"), V.str (Str.ofString (toString ((k : Nat) : Int))), V.str (Str.ofString "looks"), V.str (Str.ofString "at")] = (headH k).map tv := by
  rw [num_tv, lit_tv "clerk", lit_tv "looks", lit_tv "at"]
  rfl
theorem headH_asc {k : Nat} (h : k < 10 ^ 9) : Asc (headH k) := fun w hw c hc => by
  unfold headH at hw
  simp only [List.mem_cons, List.not_mem_nil, or_false] at hw
  rcases hw with rfl | rfl | rfl | rfl
  · revert c; decide
  · have h9 : ¬ (c < 48 ∨ 57 < c) := fun z => numL_free z hc
    omega
  · revert c; decide
  · revert c; decide
section
variable {P : Program} {w : World} {K : PySem.W.Frag} {mg : Str → Option Value} {base : Heap} {T : List (Addr × Str)} {C : Addr}
theorem ok_readH {f fl fn fL fF : Addr} {fd fdl fdn fdL fdF : FuncData} (F : Fun K "read_house" "read_house" sReadH f fd) (B : Bl mg) (BC : Bad K mg C) (Dl : Df K mg "lines_of" sLines ["text"] fl fdl)
    (Dn : Df K mg "numbers_of" sNums ["words", "most"] fn fdn) (DF : Df K mg "figure_of" sFig ["word", "most"] fF fdF)
    (DL : Df K mg "is_lot" sLot ["many", "value"] fL fdL) (GL : FnOk P w K mg base CX0 5 fL fdL ["many", "value"] (spLotN K T)) : FnOk P w K mg base (L2.CX P w) 6 f fd ["text"] (spReadH C K T) := by
  have Gl' : FnOk P w K mg base (L2.CX P w) 3 fl fdl ["text"] (spLines C T) := ok_lines Dl.F B BC
  have Gn : FnOk P w K mg base CX0 2 fn fdn ["words", "most"] (spNums K T) := ok_nums Dn.F B DF
  refine F.okX scReadH (fun vs H Q E h => ?_) (fun cdv A outer s H vs Q E hr h => ?_)
  · obtain ⟨v, o, rfl, _⟩ := h
    rfl
  · obtain ⟨v, o, rfl, hv, hf, hT, kE, kQ⟩ := h
    obtain ⟨u, hmc, ru⟩ := B.mc
    have hr3 : Room 3 (A.deeper (envOfC "read_house" (defScope sReadH) s.heap.objs.size f cdv)) := hr.mono (by decide)
    have hr2 : Room 2 (A.deeper (envOfC "read_house" (defScope sReadH) s.heap.objs.size f cdv)) := hr.mono (by decide)
    have nd := scReadH.nd
    refine ⟨_, pss_cons (ps_par (i := 1) (j := 2) rfl nd rfl rfl (by decide) rfl rfl (pa_cons (pe_call Gl' hr3 (by rfl) Dl.g Dl.kp Dl.b .nil (passes_call (takes_of rfl rfl rfl rfl) (fun _ _ _ _ h => h)) (pa_cons (pv 0) pa_nil)) (pa_cons (pe_lst pa_nil) pa_nil)) rfl)
      (pss_cons (ps_if (pt_cmpR (op_eqS hr.units) (pv 1) (pe_lst pa_nil) (nomark _)) (pss_one (ps_bad rfl BC (hr.mono (by decide)) (takes_of rfl rfl rfl rfl) pe_int (by rfl))) pss_nil)
      (pss_cons (ps_for (passes_of rfl) rfl (pi_enum (by rfl) B.enumerate (pa_cons (pv 1) pa_nil)) (pg2 K 3 4 rfl rfl nd rfl rfl (Or.inl rfl) (Or.inl rfl) (Or.inr rfl) (Or.inr rfl))
        (pss_cons (ps_set (i := 5) nd rfl (Or.inl rfl) (pe_split (pv 4) pe_str))
        (pss_cons (ps_set (i := 6) nd rfl (Or.inl rfl) (pe_ifExp (pt_cmpR (op_eqS hr.units) (pe_slice sl_list (pv 5) po_none (po_some pe_int)) (pe_lst (pa_cons pe_str (pa_cons (pe_callTy call_str_int (by rfl) B.str boot_str (pa_cons (pv 3) pa_nil)) (pa_cons pe_str (pa_cons pe_str pa_nil))))) (nomark _))
          (pe_call Gn hr2 (by rfl) Dn.g Dn.kp Dn.b .nil pass0 (pa_cons (pe_slice sl_list (pv 5) (po_some pe_int) po_none) (pa_cons (pe_op op_sub (pe_glob (by rfl) hmc ru) pe_int) pa_nil))) pe_non))
        (pss_cons (ps_if (PW.pt (pw_or (pt_cmp (pc_ge (pv 3) (pe_glob (by rfl) hmc ru))) (pw_or (pt_not (pt_truth (pv 6) (by intro _; rfl))) (pw_or1 (pt_not (pt_val (pe_call GL (hr.mono (by decide)) (by rfl) DL.g DL.kp DL.b .nil pass0 (pa_cons (pe_callB call_len_seq (by rfl) B.len PySem.boot_len (pa_cons (pv 1) pa_nil)) (pa_cons (pv 6) pa_nil)))))))))
          (pss_one (ps_bad rfl BC (hr.mono (by decide)) (takes_of rfl rfl rfl rfl) (pv 3) (by rfl))) pss_nil)
        (pss_one (ps_expr (pe_bm PySem.F.plainAttrs_list PySem.F.slot_list_append PySem.F.type_list_append mt_append (pv 2) (pa_cons (pv 6) pa_nil))))))))
      (pss_one (ps_ret (pe_callTy call_tuple_of (by rfl) B.tuple boot_tuple (pa_cons (pv 2) pa_nil)))))), ?_⟩
    refine ⟨_, rfl, v, o, rfl, hv, hf, hT, fun n hn => kE n (by unfold readH; rw [hn]), fun ls hls v1 H1 x1 t1 hk => ?_⟩
    obtain ⟨pl, rfl, npl, hpl⟩ := hk
    refine ⟨Nat.zero_le _, fun D hD => ⟨_, _, rfl, ?_⟩⟩
    have nD : Nw H D := Nw.ext x1 hD
    have pD : pl ≠ D := ne_of_none hpl hD
    have xD : ExtN H (upd H1 D (.lst [])) := extN_upd x1 nD
    have tD : Tabs T (upd H1 D (.lst [])) := tabs_new t1 hD
    obtain ⟨hlen, hls2⟩ := lines_fine hf hls
    refine ⟨_, rfl, Nat.zero_le _, fun q hq => ?_⟩
    have xq : ExtN H (upd (upd H1 D (.lst [])) q (.lst [])) := extN_upd xD (Nw.ext xD hq)
    have tq : Tabs T (upd (upd H1 D (.lst [])) q (.lst [])) := tabs_new tD hq
    have hpq : (upd (upd H1 D (.lst [])) q (.lst [])) pl = some (.lst (ls.map tv)) := upd_lst hq (upd_lst hD hpl)
    refine ⟨pl, q, ls, [], rfl, rfl, SqL.of hpq, SqL.of upd_same, fun w hw => (hls2 w hw).2, fun w hw => (by cases hw), _, rfl, ?_⟩
    have eR : ∀ {α : Type} (g : Except Nat (List (List Nat)) → α), g (readH o) = g (if ls = [] then .error 0 else upto (fun k => (ls[k]?).bind (rowH ls.length k)) ls.length 0) := fun g => by
      unfold readH
      rw [hls]
    by_cases c0 : ls = []
    · refine iteOf (decide_eq_true c0) (iteT ?_)
      exact bad_out (W := fun cls d H' => E cls d H') BC.T BC.nf (err_new (kE 0 ((eR id).trans (if_pos c0))) xq tq)
    refine iteOf (decide_eq_false c0) (iteF ?_)
    have eR2 : readH o = upto (fun k => (ls[k]?).bind (rowH ls.length k)) ls.length 0 := (eR id).trans (if_neg c0)
    clear eR
    let EE : Hp → Prop := fun H' => ExtN H H' ∧ H' pl = some (.lst (ls.map tv))
    let R : Nat → V → Hp → Prop := fun j y H' => ∃ r, (ls[j]?).bind (rowH ls.length j) = some r ∧ TupI K H' y r
    have ek : EK EE D := ⟨fun Ha Hb a e => ⟨a.1.trans e, e _ _ a.2 (lst_ne _)⟩, fun Ha o a => ⟨extN_upd a.1 nD, by rw [upd_ne pD]; exact a.2⟩⟩
    have kp : Kp R := fun j y Ha Hb e a => let ⟨r, h1, h2⟩ := a; ⟨r, h1, h2.exV e⟩
    have g0 : Gr EE T D R 0 (upd (upd H1 D (.lst [])) q (.lst [])) := ⟨⟨xq, hpq⟩, tq, [], upd_lst hq upd_same, rfl, fun j y z => by simp at z⟩
    refine ⟨_, rfl, pl, ls.map tv, rfl, SqL.of hpq, for_enumL (xs := ls.map tv) (fun i σ H' => Gr EE T D R i H' ∧ ∃ v3 v4 v5 v6, σ = [some v, some (.ref pl), some (.ref D), v3, v4, v5, v6]) ⟨g0, none, none, none, none, rfl⟩ (fun i σ H' _ p => SqL.of p.1.e.2) ?_ ?_⟩
    · rintro i x Tp σ H' hi ⟨g, v3, v4, v5, v6, rfl⟩ hTp
      obtain ⟨line, hln, rfl⟩ := map_get hi
      obtain ⟨hl1, hl2⟩ := hls2 line (List.mem_of_getElem? hln)
      have hil : i < ls.length := (List.getElem?_eq_some_iff.mp hln).1
      have g1 := g.new (o := .tup [.int (i : Nat), tv line]) ek kp hTp
      have bad : (ls[i]?).bind (rowH ls.length i) = none → ∀ H', Gr EE T D R i H' → ∀ d, H' d = none → E (.ref C) (some d) (upd H' d (.xd [("line", nv i)])) := fun hn Ha ga => by
        obtain ⟨acc, h1, h2, h3⟩ := ga.d
        obtain ⟨rs, k1, k2, k3⟩ := acc_ex (F := fun j y r => (ls[j]?).bind (rowH ls.length j) = some r ∧ TupI K Ha y r) (acc := acc) (k := 0) (fun j y hy => by rw [Nat.zero_add]; exact h3 j y hy)
        have e := upto_err (f := fun k => (ls[k]?).bind (rowH ls.length k)) (xs := rs) (at_ := 0) (n := ls.length) (fun j r hr => (k3 j r hr).choose_spec.2.1) (by rw [k1, h2]; exact hil) (by rw [k1, h2, Nat.zero_add]; exact hn)
        rw [k1, h2, Nat.zero_add] at e
        exact err_new (kE i (eR2.trans e)) ga.e.1 ga.t
      refine ⟨Tp, _, rfl, SqT.of upd_same, rfl, _, _, rfl, _, _, rfl, rfl, ?_⟩
      refine ⟨_, rfl, ⟨_, rfl⟩, mk line, mk [32], rfl, rfl, by decide +kernel, small (by rw [mk_len]; omega), fun pw hpw => ?_⟩
      rw [split_tv line 32 (by decide)]
      have g2 := g1.new (o := .lst ((cut1 32 line).map tv)) ek kp hpw
      refine ⟨_, rfl, 4, rfl, pw, (cut1 32 line).map tv, rfl, SqL.of upd_same, fun p1 hp1 => ?_⟩
      have g3 := g2.new (o := .lst (cutV ((cut1 32 line).map tv) none (some 4))) ek kp hp1
      refine ⟨_, rfl, (i : Int), rfl, log_small (by omega), by show 4 ≤ _; decide, fun p2 hp2 => ?_⟩
      rw [headH_tv]
      have g4 := g3.new (o := .lst ((headH i).map tv)) ek kp hp2
      have hcut : cutV ((cut1 32 line).map tv) none (some 4) = ((cut1 32 line).take 4).map tv := (cutV_take _ 4).trans List.map_take.symm
      have aw : Asc (cut1 32 line) := cut_small hl2
      refine ⟨p1, p2, (cut1 32 line).take 4, headH i, rfl, rfl, SqL.of ?_, SqL.of upd_same, fun w hw => aw w (List.mem_of_mem_take hw), headH_asc (by omega), _, rfl, ?_⟩
      · rw [upd_lst hp2 upd_same, hcut]
      have bind : (ls[i]?).bind (rowH ls.length i) = rowH ls.length i line := by rw [hln]; rfl
      by_cases c1 : (cut1 32 line).take 4 = headH i
      · refine iteOf (decide_eq_true c1) (iteT ?_)
        refine ⟨_, rfl, 4, rfl, pw, (cut1 32 line).map tv, rfl, SqL.of (upd_lst hp2 (upd_lst hp1 upd_same)), fun p3 hp3 => ?_⟩
        have hcut2 : cutV ((cut1 32 line).map tv) (some 4) none = ((cut1 32 line).drop 4).map tv := (cutV_drop _ 4).trans List.map_drop.symm
        rw [hcut2]
        have g5 := g4.new (o := .lst (((cut1 32 line).drop 4).map tv)) ek kp hp3
        refine ⟨7, 1, rfl, rfl, p3, (cut1 32 line).drop 4, 6, rfl, SqL.of upd_same, ?_, fun w hw => Nat.le_trans (cut_each (List.mem_of_mem_drop hw)) hl1, g5.t, fun sv H5 x5 t5 hsv => ?_⟩
        · rw [List.length_drop]
          have := len_cut1 32 line
          omega
        have g6 := g5.ext ek kp x5 t5
        cases h6 : figs 6 ((cut1 32 line).drop 4) with
        | none =>
          rw [h6] at hsv
          cases hsv
          have bd := bad (bind.trans (rowH_none2 h6)) _ g6
          refine ⟨_, rfl, _, _, rfl, rfl, _, rfl, ?_⟩
          by_cases c2 : (7 : Int) ≤ (i : Int)
          · exact iteOf (decide_eq_true c2) (iteT (iteT ⟨_, rfl, bad_out (W := fun cls d H' => E cls d H') BC.T BC.nf bd⟩))
          · exact iteOf (decide_eq_false c2) (iteF ⟨_, rfl, false, rfl, iteT (iteT ⟨_, rfl, bad_out (W := fun cls d H' => E cls d H') BC.T BC.nf bd⟩)⟩)
        | some r =>
          rw [h6] at hsv
          obtain ⟨b, rfl, hb⟩ := hsv
          have hrow := bind.trans (rowH_some c1 h6)
          refine ⟨_, rfl, _, _, rfl, rfl, _, rfl, ?_⟩
          by_cases c2 : (7 : Int) ≤ (i : Int)
          · have bd := bad (hrow.trans (if_neg fun z => by omega)) _ g6
            exact iteOf (decide_eq_true c2) (iteT (iteT ⟨_, rfl, bad_out (W := fun cls d H' => E cls d H') BC.T BC.nf bd⟩))
          refine iteOf (decide_eq_false c2) (iteF ⟨_, rfl, !(r.map nv).isEmpty, .inr (.inl ⟨_, hb, rfl⟩), ?_⟩)
          by_cases c3 : r = []
          · subst c3
            have bd := bad (hrow.trans (if_neg fun z => z.2.1 rfl)) _ g6
            exact iteT (iteT ⟨_, rfl, bad_out (W := fun cls d H' => E cls d H') BC.T BC.nf bd⟩)
          have c3' : (r.map nv).isEmpty = false := by
            cases r with
            | nil => exact absurd rfl c3
            | cons _ _ => rfl
          rw [c3']
          refine iteF ⟨_, rfl, pl, ls.map tv, rfl, .inl (SqL.of g6.e.2), _, rfl, ls.length, b, r, by rw [List.length_map]; rfl, hb, g6.t, fun H7 x7 t7 => ?_⟩
          have g7 := g6.ext ek kp x7 t7
          by_cases c4 : lotN ls.length r = true
          · refine ⟨true, congrArg V.bl c4, iteF ?_⟩
            have hok := hrow.trans (if_pos ⟨by omega, c3, c4⟩)
            obtain ⟨acc, k1, k2, k3⟩ := g7.push ek kp (by omega) ⟨r, hok, b, rfl, sqT_ext x7 hb⟩
            exact ⟨_, rfl, .inl ⟨rfl, acc, SqL.of k1⟩, _, rfl, D, acc, _, rfl, rfl, k1, k2, k3, _, _, _, _, rfl⟩
          · have bd := bad (hrow.trans (if_neg fun z => c4 z.2.2)) _ g7
            exact ⟨false, congrArg V.bl (Bool.eq_false_iff.mpr c4), iteT ⟨_, rfl, bad_out (W := fun cls d H' => E cls d H') BC.T BC.nf bd⟩⟩
      · refine iteOf (decide_eq_false c1) (iteF ?_)
        have bd := bad (bind.trans (rowH_none1 c1)) _ g4
        refine ⟨_, rfl, _, _, rfl, rfl, _, rfl, ?_⟩
        by_cases c2 : (7 : Int) ≤ (i : Int)
        · exact iteOf (decide_eq_true c2) (iteT (iteT ⟨_, rfl, bad_out (W := fun cls d H' => E cls d H') BC.T BC.nf bd⟩))
        · exact iteOf (decide_eq_false c2) (iteF ⟨_, rfl, false, rfl, iteT (iteT ⟨_, rfl, bad_out (W := fun cls d H' => E cls d H') BC.T BC.nf bd⟩)⟩)
    · rintro σ H' ⟨g, v3, v4, v5, v6, rfl⟩
      obtain ⟨acc, h1, h2, h3⟩ := g.d
      obtain ⟨rs, k1, k2, k3⟩ := acc_ex (F := fun j y r => (ls[j]?).bind (rowH ls.length j) = some r ∧ TupI K H' y r) (acc := acc) (k := 0) (fun j y hy => by rw [Nat.zero_add]; exact h3 j y hy)
      rw [List.length_map] at h2
      have e := upto_ok (f := fun k => (ls[k]?).bind (rowH ls.length k)) (xs := rs) (at_ := 0) (fun j r hr => (k3 j r hr).choose_spec.2.1)
      rw [k1, h2] at e
      refine ⟨_, rfl, D, acc, rfl, .inl ⟨SqL.of h1, fun l hl => ?_⟩⟩
      exact kQ rs (eR2.trans e) (.ref l) _ (extN_upd g.e.1 (Nw.ext g.e.1 hl)) (tabs_new g.t hl) ⟨l, acc, rfl, SqT.of upd_same, L2.Paired.mapP k2 fun y r z => by
        obtain ⟨j, _, z⟩ := z
        exact z.exV (exV_new hl)⟩
end
end K60
set_option Elab.async false
set_option linter.all false
set_option maxRecDepth 100000
set_option maxHeartbeats 4000000
/-! rules_text -/
namespace K60
open PySem PySem.Spec PyProof.Rows L2 Gx RZ TL
open LamX (TabB Tabs TabS CodeO ExtN)
theorem ite_join {c : Bool} {ta tb : TE} {σ : L2.St} {H : Hp} {G : VK} (P : V → Hp → Prop) (rest : ∀ x H', P x H' → G x H') (h1 : c = true → ∀ G' : VK, (∀ x H', P x H' → G' x H') → ta σ H G')
    (h2 : c = false → ∀ G' : VK, (∀ x H', P x H' → G' x H') → tb σ H G') : if c = true then ta σ H G else tb σ H G := by
  cases c with
  | true => exact h1 rfl G rest
  | false => exact h2 rfl G rest
theorem rules_get {ts : List (List Nat)} {i : Nat} {t : List Nat} (e : ts[i]? = some t) : (ts.zipIdx.map fun p => ruleLn p.2 p.1)[i]? = some (ruleLn i t) := by
  rw [List.getElem?_map, List.getElem?_zipIdx, e]
  simp
theorem ruleLn_len {k : Nat} {r : List Nat} (hk : k < 10) (hr : ∀ n ∈ r, n < 10) : (ruleLn k r).length = 14 + 2 * r.length := by
  unfold ruleLn
  rw [List.length_append, List.length_append, List.length_append, (num1 hk).1, words_len hr]
  have e1 : (cs "clerk ").length = 6 := by decide
  have e2 : (cs " writes").length = 7 := by decide
  rw [e1, e2]
theorem tblB_lt {s m : Nat} {t : List Nat} (h : tblB s m t = true) : t.length = s ^ m ∧ ∀ n ∈ t, n < s := by
  unfold tblB at h
  rw [Bool.and_eq_true] at h
  exact ⟨of_decide_eq_true h.1, fun n hn => of_decide_eq_true (List.all_eq_true.mp h.2 n hn)⟩
theorem lot_len {n : Nat} {r : List Nat} (h : lotN n r = true) : r.length ≤ n := by
  have h' := h
  unfold lotN at h'
  rw [Bool.and_eq_true] at h'
  have key : ∀ (l : List Nat), ((l.zip l.tail).all fun p => decide (p.1 < p.2)) = true → l.Pairwise (· < ·) := by
    intro l
    induction l with
    | nil => intro _; exact .nil
    | cons a l ih =>
      cases l with
      | nil => intro _; exact List.pairwise_singleton _ _
      | cons b l =>
        intro hz
        have hz : (decide (a < b) && ((b :: l).zip l).all fun p => decide (p.1 < p.2)) = true := hz
        rw [Bool.and_eq_true] at hz
        have ih' := ih hz.2
        have ab : a < b := of_decide_eq_true hz.1
        refine List.pairwise_cons.mpr ⟨fun c hc => ?_, ih'⟩
        rcases List.mem_cons.mp hc with e | e
        · rw [e]; exact ab
        · exact Nat.lt_trans ab ((List.pairwise_cons.mp ih').1 c e)
  have := asc_len n r 0 (key r h'.2) (fun m hm => ⟨Nat.zero_le _, lotN_lt h m hm⟩) (Nat.zero_le _)
  omega
/-- the tables of rules are not long -/
theorem OkR.small {h : List (List Nat)} {s : Nat} {ts : List (List Nat)} (oh : OkH h) (o : OkR h s ts) : ∀ t ∈ ts, t.length ≤ 2187 ∧ ∀ n ∈ t, n < 10 := fun t ht => by
  obtain ⟨i, hi⟩ := List.getElem?_of_mem ht
  have hil : i < h.length := by
    have := (List.getElem?_eq_some_iff.mp hi).1
    rw [o.len] at this
    exact this
  have hr := List.getElem?_eq_getElem hil
  obtain ⟨h1, h2⟩ := tblB_lt (o.tb i _ t hr hi)
  have hs : s ≤ 3 := by rcases o.sg with e | e <;> omega
  have hm : h[i].length ≤ 7 := Nat.le_trans (lot_len (oh.row _ (List.getElem_mem hil)).2) oh.hi
  refine ⟨?_, fun n hn => by have := h2 n hn; omega⟩
  rw [h1]
  exact Nat.le_trans (Nat.pow_le_pow_left hs _) (Nat.le_trans (Nat.pow_le_pow_right (by decide) hm) (by decide))
abbrev sRText : Stmt := top 26
theorem scRText : FnScope ["house", "rules", "found", "clerk", "table"] ["house", "rules"] (defScope sRText) := ⟨rfl, rfl, rfl, by decide +kernel, rfl, by decide +kernel, by decide +kernel⟩
def spRText (K : PySem.W.Frag) (T : List (Addr × Str)) : Sp := fun vs H Q _ => ∃ (hv v : V) (h : List (List Nat)) (s : Nat) (ts : List (List Nat)), vs = [hv, v] ∧ TupR K H hv h ∧ OkH h ∧ RulesAt K H v s ts ∧ OkR h s ts ∧ Tabs T H ∧ Out T H fun H' => Q (tv (textOf (linesR s ts))) H'
section
variable {P : Program} {w : World} {K : PySem.W.Frag} {mg : Str → Option Value} {base : Heap} {T : List (Addr × Str)}
theorem ok_rText {f fH fR fW : Addr} {fd fdH fdR fdW : FuncData} (F : Fun K "rules_text" "rules_text" sRText f fd) (B : Bl mg) (DH : Df K mg "need_house" sHouse ["value"] fH fdH) (GH : FnOk P w K mg base CX0 6 fH fdH ["value"] (spHouse K T))
    (DR : Df K mg "need_rules" sRules ["house", "value"] fR fdR) (GR : FnOk P w K mg base CX0 9 fR fdR ["house", "value"] (spRules K T))
    (DW : Df K mg "words_of" sWords ["numbers"] fW fdW) : FnOk P w K mg base CX0 10 f fd ["house", "rules"] (spRText K T) := by
  have GW : FnOk P w K mg base CX0 1 fW fdW ["numbers"] (spWords K T) := ok_words DW.F B
  refine F.ok scRText (fun vs H Q E h => ?_) (fun cdv A outer s H vs Q E hr h => ?_)
  · obtain ⟨hv, v, h, sg, ts, rfl, _⟩ := h
    rfl
  · obtain ⟨hv, v, h, sg, ts, rfl, hH, ok, hR, okr, hT, k⟩ := h
    have nd := scRText.nd
    refine ⟨_, pss_cons (ps_expr (pe_call GH (hr.mono (by decide)) (by rfl) DH.g DH.kp DH.b .nil pass0 (pa_cons (pv 0) pa_nil)))
      (pss_cons (ps_expr (pe_call GR hr (by rfl) DR.g DR.kp DR.b .nil pass0 (pa_cons (pv 0) (pa_cons (pv 1) pa_nil))))
      (pss_cons (ps_set (i := 2) nd rfl (Or.inl rfl) (pe_op op_addT (pe_op op_addT pe_str (pe_callTy call_str_int (by rfl) B.str boot_str (pa_cons (pe_ix (ixT K rfl) (pv 1) pe_int (fun _ _ => rfl)) pa_nil))) pe_str))
      (pss_cons (ps_for PassesOwn.never rfl (pi_enumT (by rfl) B.enumerate (pa_cons (pe_ix (ixT K rfl) (pv 1) pe_int (fun _ _ => rfl)) pa_nil)) (pg2 K 3 4 rfl rfl nd rfl rfl (Or.inl rfl) (Or.inl rfl) (Or.inr rfl) (Or.inr rfl))
        (pss_one (ps_aug (i := 2) nd rfl (Or.inl rfl) (pe_op op_addT (pe_op op_addT (pe_op op_addT (pe_op op_addT pe_str (pe_callTy call_str_int (by rfl) B.str boot_str (pa_cons (pv 3) pa_nil))) pe_str)
          (pe_call GW (hr.mono (by decide)) (by rfl) DW.g DW.kp DW.b .nil pass0 (pa_cons (pv 4) pa_nil))) pe_str) (iop_addT (X := _)))))
      (pss_one (ps_ret (pv 2)))))), ?_⟩
    refine ⟨_, rfl, hv, h, rfl, hH, ok, hT, fun H1 x1 t1 => ?_⟩
    refine ⟨_, rfl, _, rfl, hv, v, h, sg, ts, rfl, hH.ext x1, ok, hR.ext x1, okr, t1, fun H2 x2 t2 => ?_⟩
    have x12 := x1.trans x2
    obtain ⟨ar, xt, rfl, har, b0, xs, rfl, ha, hx⟩ := hR.ext x12
    have hs3 : sg < 10 := by rcases okr.sg with e | e <;> omega
    have c1 : (cs "clerk ").length = 6 := by decide
    have c2 : (cs " writes").length = 7 := by decide
    have c3 : (cs "\n").length = 1 := by decide
    have c4 : (cs "signs ").length = 6 := by decide
    have hns := (num1 hs3).1
    refine ⟨_, rfl, ar, _, 0, _, rfl, rfl, har, rfl, (sg : Int), rfl, log_small (by omega), _, _, lit_tv "signs ", num_tv sg, by omega, ?_⟩
    refine ⟨_, _, rfl, lit_tv "\n", by rw [List.length_append]; omega, ?_⟩
    have sm := okr.small ok
    have tsl : ts.length ≤ 7 := by rw [okr.len]; exact ok.hi
    refine ⟨_, rfl, ar, _, 1, _, rfl, rfl, har, rfl, b0, xs, rfl, ha, for_enumT (xs := xs) (fun i σ H' => ExtN H2 H' ∧ Tabs T H' ∧ ∃ v1 v2, σ = [some hv, some (.ref ar), some (tv (textOf ((linesR sg ts).take (i + 1)))), v1, v2]) ⟨ExtN.refl _, t2, none, none, ?_⟩ (fun i σ H' _ p => sqT_ext p.1 ha) ?_ ?_⟩
    · show [some hv, some (V.ref ar), some (tv (cs "signs " ++ numL sg ++ cs "\n")), none, none] = _
      have e : textOf ((linesR sg ts).take (0 + 1)) = cs "signs " ++ numL sg ++ cs "\n" := by
        unfold linesR textOf
        simp only [Nat.zero_add, List.take_succ_cons, List.take_zero, List.map_cons, List.map_nil, List.flatten_cons, List.flatten_nil, List.append_nil]
        rfl
      rw [e]
    · rintro i x Tp σ H' hi ⟨e1, t1, v1, v2, rfl⟩ hTp
      obtain ⟨r, hr1, b, rfl, hb⟩ := paired_get hx hi
      have hin := List.mem_of_getElem? hr1
      have hi7 : i < 7 := by
        have := (List.getElem?_eq_some_iff.mp hr1).1
        omega
      obtain ⟨hsh, hd⟩ := sm r hin
      have e2 : ExtN H2 (upd H' Tp (.tup [.int (i : Nat), .ref b])) := extN_upd e1 (Nw.ext e1 hTp)
      have hnm := (num1 (n := i) (by omega)).1
      have hw := words_len hd
      refine ⟨Tp, _, rfl, SqT.of upd_same, rfl, _, _, rfl, _, _, rfl, rfl, ?_⟩
      refine ⟨_, rfl, _, rfl, (i : Int), rfl, log_small (by omega), _, _, lit_tv "clerk ", num_tv i, by omega, ?_⟩
      refine ⟨_, _, rfl, lit_tv " writes", by rw [List.length_append]; omega, _, rfl, .ref b, r, rfl, ⟨b, rfl, sqT_ext e2 hb⟩, by omega, hd, tabs_new t1 hTp, fun H3 e3 t3 => ?_⟩
      refine ⟨_, _, rfl, rfl, by simp only [List.length_append]; omega, _, _, rfl, lit_tv "\n", by simp only [List.length_append]; omega, ?_⟩
      have hl : (linesR sg ts)[i + 1]? = some (ruleLn i r) := by
        unfold linesR
        rw [List.getElem?_cons_succ]
        exact rules_get hr1
      have hB : (textOf ((linesR sg ts).take (i + 1))).length ≤ ((linesR sg ts).take (i + 1)).length * 100001 := textOf_len fun l hl => by
        have hl := List.mem_of_mem_take hl
        unfold linesR at hl
        rcases List.mem_cons.mp hl with e | hl
        · rw [e]
          unfold signsLn
          rw [List.length_append]
          omega
        · obtain ⟨j, hj⟩ := List.getElem?_of_mem hl
          have hjh : j < ts.length := by
            have := (List.getElem?_eq_some_iff.mp hj).1
            rw [List.length_map, List.length_zipIdx] at this
            exact this
          have := rules_get (List.getElem?_eq_getElem hjh)
          rw [hj] at this
          cases this
          obtain ⟨q1, q2⟩ := sm _ (List.getElem_mem hjh)
          rw [ruleLn_len (by omega) q2]
          omega
      have hB2 : ((linesR sg ts).take (i + 1)).length ≤ 8 := by rw [List.length_take]; omega
      refine ⟨_, _, rfl, rfl, by simp only [List.length_append]; omega, e2.trans e3, t3, some (.int i), some (.ref b), ?_⟩
      rw [take_snoc hl, textOf_snoc]
      rfl
    · rintro σ H' ⟨e1, t1, v1, v2, rfl⟩
      refine ⟨_, rfl, ?_⟩
      have e : (linesR sg ts).take (xs.length + 1) = linesR sg ts := List.take_of_length_le (by
        unfold linesR
        rw [List.length_cons, List.length_map, List.length_zipIdx, hx.length]
        exact Nat.le_refl _)
      rw [e]
      exact k H' (x12.trans e1) t1
end
end K60
set_option Elab.async false
set_option linter.all false
set_option maxRecDepth 100000
set_option maxHeartbeats 4000000
/-! read_rules -/
namespace K60
open PySem PySem.Spec PyProof.Rows L2 Gx RZ TL
open LamX (TabB Tabs TabS CodeO ExtN)
abbrev sReadR : Stmt := top 27
theorem scReadR : FnScope ["house", "text", "lines", "found", "signs", "at", "words", "table"] ["house", "text"] (defScope sReadR) := ⟨rfl, rfl, rfl, by decide +kernel, rfl, by decide +kernel, by decide +kernel⟩
def spReadR (C : Addr) (K : PySem.W.Frag) (T : List (Addr × Str)) : Sp := fun vs H Q E => ∃ (hv v : V) (h : List (List Nat)) (o : Option Codes), vs = [hv, v] ∧ TupR K H hv h ∧ OkH h ∧ TxV v o ∧ Fine o ∧ Tabs T H ∧ Res C T H Q E (readR h o) (fun st v H' => RulesAt K H' v st.1 st.2)
theorem tabR_eq {h : List (List Nat)} {s k : Nat} {ws : List Codes} : tabR h s k ws = (if ws.take 3 = headR k then figs 2 (ws.drop 3) else none).bind fun t => (h[k]?).bind fun r => if tblB s r.length t = true then some t else none := by
  unfold tabR
  by_cases c : ws.take 3 = headR k
  · rw [if_pos c, if_pos c]
    cases figs 2 (ws.drop 3) with
    | none => rfl
    | some t =>
      cases h[k]? <;> rfl
  · rw [if_neg c, if_neg c]
    rfl
def sgDict : List (Key × V) := [(.inr (Str.ofString "signs 2"), nv 2), (.inr (Str.ofString "signs 3"), nv 3)]
theorem upd_twice {H : Hp} {p : Addr} {a b : HO} : upd (upd H p a) p b = upd H p b := by
  funext x
  by_cases h : x = p
  · rw [h, upd_same, upd_same]
  · rw [upd_ne h, upd_ne h, upd_ne h]
theorem sg_merge : mergeK [] sgDict = sgDict := by
  have h : (Str.ofString "signs 2" : Str) ≠ Str.ofString "signs 3" := by decide
  have e : (List.any [((Sum.inr (Str.ofString "signs 2") : Key), nv 2)] fun kv : Key × V => decide (kv.1 = (Sum.inr (Str.ofString "signs 3") : Key))) = false := by
    simp [h]
  show putK (putK ([] : List (Key × V)) (.inr (Str.ofString "signs 2")) (nv 2)) (.inr (Str.ofString "signs 3")) (nv 3) = _
  have e1 : putK ([] : List (Key × V)) (.inr (Str.ofString "signs 2")) (nv 2) = [(.inr (Str.ofString "signs 2"), nv 2)] := rfl
  rw [e1]
  unfold putK
  rw [e]
  rfl
theorem sg_get (l : Codes) : (valV sgDict (.inr (mk l))).getD .non = ov (signsOf l) := by
  unfold valV sgDict signsOf
  by_cases c1 : l = cs "signs 2"
  · subst c1
    rw [if_pos rfl]
    have e : decide ((Sum.inr (Str.ofString "signs 2") : Key) = Sum.inr (mk (cs "signs 2"))) = true := decide_eq_true (by rw [mk_lit])
    rw [List.find?_cons_of_pos (by exact e)]
    rfl
  · have e : ¬ (decide ((Sum.inr (Str.ofString "signs 2") : Key) = Sum.inr (mk l)) = true) := by
      rw [decide_eq_true_eq, mk_lit]
      intro z
      exact c1 (mk_inj (Sum.inr.inj z)).symm
    rw [if_neg c1, List.find?_cons_of_neg (by exact e)]
    by_cases c2 : l = cs "signs 3"
    · subst c2
      rw [if_pos rfl]
      have e : decide ((Sum.inr (Str.ofString "signs 3") : Key) = Sum.inr (mk (cs "signs 3"))) = true := decide_eq_true (by rw [mk_lit])
      rw [List.find?_cons_of_pos (by exact e)]
      rfl
    · have e : ¬ (decide ((Sum.inr (Str.ofString "signs 3") : Key) = Sum.inr (mk l)) = true) := by
        rw [decide_eq_true_eq, mk_lit]
        intro z
        exact c2 (mk_inj (Sum.inr.inj z)).symm
      rw [if_neg c2, List.find?_cons_of_neg (by exact e)]
      rfl
theorem headR_tv (k : Nat) : [V.str (Str.ofString "clerk"), V.str (Str.ofString (toString ((k : Nat) : Int))), V.str (Str.ofString "writes")] = (headR k).map tv := by
  rw [num_tv, lit_tv "clerk", lit_tv "writes"]
  rfl
theorem headR_asc {k : Nat} : Asc (headR k) := fun w hw c hc => by
  unfold headR at hw
  simp only [List.mem_cons, List.not_mem_nil, or_false] at hw
  rcases hw with rfl | rfl | rfl
  · revert c; decide
  · have h9 : ¬ (c < 48 ∨ 57 < c) := fun z => numL_free z hc
    omega
  · revert c; decide
section
variable {P : Program} {w : World} {K : PySem.W.Frag} {mg : Str → Option Value} {base : Heap} {T : List (Addr × Str)} {C : Addr}
theorem ok_readR {f fH fl fn fT fF : Addr} {fd fdH fdl fdn fdT fdF : FuncData} (F : Fun K "read_rules" "read_rules" sReadR f fd) (B : Bl mg) (BC : Bad K mg C) (Dl : Df K mg "lines_of" sLines ["text"] fl fdl)
    (DH : Df K mg "need_house" sHouse ["value"] fH fdH) (GH : FnOk P w K mg base CX0 6 fH fdH ["value"] (spHouse K T))
    (Dn : Df K mg "numbers_of" sNums ["words", "most"] fn fdn) (DF : Df K mg "figure_of" sFig ["word", "most"] fF fdF)
    (DT : Df K mg "is_table" sTable ["house", "signs", "clerk", "value"] fT fdT) (GT : FnOk P w K mg base CX0 5 fT fdT ["house", "signs", "clerk", "value"] (spTable K T)) : FnOk P w K mg base (L2.CX P w) 7 f fd ["house", "text"] (spReadR C K T) := by
  have Gl' : FnOk P w K mg base (L2.CX P w) 3 fl fdl ["text"] (spLines C T) := ok_lines Dl.F B BC
  have Gn : FnOk P w K mg base CX0 2 fn fdn ["words", "most"] (spNums K T) := ok_nums Dn.F B DF
  refine F.okX scReadR (fun vs H Q E h => ?_) (fun cdv A outer s H vs Q E hr h => ?_)
  · obtain ⟨hv, v, h, o, rfl, _⟩ := h
    rfl
  · obtain ⟨hv, v, h, o, rfl, hH, okh, hv', hf, hT, kE, kQ⟩ := h
    obtain ⟨u, hms, ru⟩ := B.ms
    have nd := scReadR.nd
    have hu64 : (A.deeper (envOfC "read_rules" (defScope sReadR) s.heap.objs.size f cdv)).units + 64 < cLine := hr.units
    have hu1 : (A.deeper (envOfC "read_rules" (defScope sReadR) s.heap.objs.size f cdv)).units + 1 < cLine := by omega
    refine ⟨_, pss_cons (ps_expr (pe_call GH hr (by rfl) DH.g DH.kp DH.b .nil pass0 (pa_cons (pv 0) pa_nil)))
      (pss_cons (ps_par (i := 2) (j := 3) rfl nd rfl rfl (by decide) rfl rfl (pa_cons (pe_call Gl' (hr.mono (by decide)) (by rfl) Dl.g Dl.kp Dl.b .nil (passes_call (takes_of rfl rfl rfl rfl) (fun _ _ _ _ h => h)) (pa_cons (pv 1) pa_nil)) (pa_cons (pe_lst pa_nil) pa_nil)) rfl)
      (pss_cons (ps_set (i := 4) nd rfl (Or.inl rfl) (pe_ifExp (pt_truth (pv 2) (by intro _; rfl))
        (pe_dget1 hu1 (pe_disp (pps_cons pe_str pe_int (pps_cons pe_str pe_int pps_nil)) (by rfl) (by rfl) (fun z => by cases z) (by decide)) (pe_ix (ixL K rfl) (pv 2) pe_int (fun _ _ => rfl)) ⟨by rfl, by rfl, by rfl, by rfl⟩) pe_non))
      (pss_cons (ps_if (pt_cmpR op_isN (pv 4) pe_non (nomark _)) (pss_one (ps_bad rfl BC (hr.mono (by decide)) (takes_of rfl rfl rfl rfl) pe_int (by rfl))) pss_nil)
      (pss_cons (ps_for (passes_of rfl) rfl (pi_range2 (by rfl) B.range (pa_cons pe_int (pa_cons (pe_callB (call_max2 rfl) (by rfl) B.max boot_max
            (pa_cons (pe_callB (lenK K rfl) (by rfl) B.len PySem.boot_len (pa_cons (pv 2) pa_nil)) (pa_cons (pe_op op_add (pe_callB (lenK K rfl) (by rfl) B.len PySem.boot_len (pa_cons (pv 0) pa_nil)) pe_int) pa_nil))) pa_nil))) (pg_name (i := 5) nd rfl (Or.inl rfl))
        (pss_cons (ps_set (i := 6) nd rfl (Or.inl rfl) (pe_ifExp (pt_cmp (pc_lt (pv 5) (pe_callB (lenK K rfl) (by rfl) B.len PySem.boot_len (pa_cons (pv 2) pa_nil)))) (pe_split (pe_ix (ixL K rfl) (pv 2) (pv 5) (fun _ _ => rfl)) pe_str) (pe_lst pa_nil)))
        (pss_cons (ps_set (i := 7) nd rfl (Or.inl rfl) (pe_ifExp (pt_cmpR (op_eqS hu64) (pe_slice sl_list (pv 6) po_none (po_some pe_int)) (pe_lst (pa_cons pe_str (pa_cons (pe_callTy call_str_int (by rfl) B.str boot_str (pa_cons (pe_op op_sub (pv 5) pe_int) pa_nil)) (pa_cons pe_str pa_nil)))) (nomark _))
          (pe_call Gn (hr.mono (by decide)) (by rfl) Dn.g Dn.kp Dn.b .nil pass0 (pa_cons (pe_slice sl_list (pv 6) (po_some pe_int) po_none) (pa_cons (pe_op op_sub (pe_glob (by rfl) hms ru) pe_int) pa_nil))) pe_non))
        (pss_cons (ps_if (PW.pt (pw_or (pt_cmp (pc_gt (pv 5) (pe_callB (lenK K rfl) (by rfl) B.len PySem.boot_len (pa_cons (pv 0) pa_nil)))) (pw_or (pt_cmpR op_isN (pv 7) pe_non (nomark _)) (pw_or1 (pt_not (pt_val
            (pe_call GT (hr.mono (by decide)) (by rfl) DT.g DT.kp DT.b .nil pass0 (pa_cons (pv 0) (pa_cons (pv 4) (pa_cons (pe_op op_sub (pv 5) pe_int) (pa_cons (pv 7) pa_nil)))))))))))
          (pss_one (ps_bad rfl BC (hr.mono (by decide)) (takes_of rfl rfl rfl rfl) (pv 5) (by rfl))) pss_nil)
        (pss_one (ps_expr (pe_bm PySem.F.plainAttrs_list PySem.F.slot_list_append PySem.F.type_list_append mt_append (pv 3) (pa_cons (pv 7) pa_nil))))))))
      (pss_one (ps_ret (pe_tup (pa_cons (pv 4) (pa_cons (pe_callTy call_tuple_of (by rfl) B.tuple boot_tuple (pa_cons (pv 3) pa_nil)) pa_nil))))))))), ?_⟩
    refine ⟨_, rfl, hv, h, rfl, hH, okh, hT, fun H0 x0 t0 => ?_⟩
    refine ⟨_, rfl, v, o, rfl, hv', hf, t0, fun n hn => ?_, fun ls hls v1 H1 x1 t1 hk => ?_⟩
    · have e := kE n (by unfold readR; rw [hn])
      exact e.back x0
    obtain ⟨pl, rfl, npl, hpl⟩ := hk
    have x01 := x0.trans x1
    refine ⟨Nat.zero_le _, fun D hD => ⟨_, _, rfl, ?_⟩⟩
    have nD : Nw H D := Nw.ext x01 hD
    have pD : pl ≠ D := ne_of_none hpl hD
    have xD : ExtN H (upd H1 D (.lst [])) := extN_upd x01 nD
    have tD : Tabs T (upd H1 D (.lst [])) := tabs_new t1 hD
    have hpD : (upd H1 D (.lst [])) pl = some (.lst (ls.map tv)) := upd_lst hD hpl
    obtain ⟨hlen, hls2⟩ := lines_fine hf hls
    let EE : Hp → Prop := fun H' => ExtN H H' ∧ H' pl = some (.lst (ls.map tv))
    have ek : EK EE D := ⟨fun Ha Hb a e => ⟨a.1.trans e, e _ _ a.2 (lst_ne _)⟩, fun Ha o a => ⟨extN_upd a.1 nD, by rw [upd_ne pD]; exact a.2⟩⟩
    refine ⟨_, rfl, _, .inl ⟨_, SqL.of hpD, rfl⟩, ite_join (fun x H' => x = ov ((ls[0]?).bind signsOf) ∧ EE H' ∧ Tabs T H' ∧ H' D = some (.lst [])) ?_ (fun c G k => ?_) (fun c G k => ?_)⟩
    case refine_2 =>
      have hls0 : ∃ l0, ls[0]? = some l0 := by
        cases ls with
        | nil => cases c
        | cons l0 _ => exact ⟨l0, rfl⟩
      obtain ⟨l0, hl0⟩ := hls0
      refine fun p hp => ⟨upd_same, sgDict, rfl, by decide, ?_⟩
      rw [upd_twice, sg_merge]
      refine ⟨p, rfl, .inl ⟨_, .inl upd_same⟩, _, rfl, pl, _, 0, tv l0, rfl, rfl, SqL.of (upd_lst hp hpD), atI_nat (j := 0) (by rw [List.getElem?_map, hl0]; rfl), _, DGet.k (k := .inr (mk l0)) upd_same, k _ _ ⟨?_, ⟨extN_upd xD (Nw.ext xD hp), upd_lst hp hpD⟩, tabs_new tD hp, upd_lst hp upd_same⟩⟩
      rw [hl0]
      exact sg_get l0
    case refine_3 =>
      refine k _ _ ⟨?_, ⟨xD, hpD⟩, tD, upd_same⟩
      have hls0 : ls[0]? = none := by
        cases ls with
        | nil => rfl
        | cons l0 _ => cases c
      rw [hls0]
      rfl
    clear hpD
    rintro x H2 ⟨rfl, e2, t2, d2⟩
    cases hsg : (ls[0]?).bind signsOf with
    | none =>
      refine ⟨_, rfl, rfl, _, rfl, iteT (bad_out (W := fun cls d H' => E cls d H') BC.T BC.nf (err_new (kE 0 ?_) e2.1 t2))⟩
      unfold readR
      rw [hls]
      simp only [hsg]
    | some sg =>
    have hs3 : sg ≤ 3 := by
      cases h0 : ls[0]? with
      | none => rw [h0] at hsg; cases hsg
      | some l0 =>
        rw [h0] at hsg
        have hsg : signsOf l0 = some sg := hsg
        unfold signsOf at hsg
        split at hsg
        · cases hsg; decide
        · split at hsg
          · cases hsg; decide
          · cases hsg
    refine ⟨_, rfl, rfl, _, rfl, iteOf (decide_eq_false (fun z => by cases z)) (iteF ?_)⟩
    obtain ⟨dh, zs, rfl, hzs, hzp⟩ := id hH
    have hzl : zs.length = h.length := hzp.length
    let nn : Nat := max ls.length (h.length + 1) - 1
    have hnn : nn ≤ 100000 := by have := okh.hi; show max ls.length (h.length + 1) - 1 ≤ _; omega
    have hsel : (if ((zs.length : Int) + 1) > (((ls.map tv).length : Nat) : Int) then ((zs.length : Int) + 1) else (((ls.map tv).length : Nat) : Int)) = ((nn + 1 : Nat) : Int) := by
      rw [List.length_map, hzl]
      show _ = ((max ls.length (h.length + 1) - 1 + 1 : Nat) : Int)
      split <;> omega
    refine ⟨_, rfl, pl, _, rfl, .inl (SqL.of e2.2), _, rfl, dh, zs, rfl, .inr (sqT_ext e2.1 hzs), _, _, rfl, rfl, _, _, rfl, 1, ((nn + 1 : Nat) : Int), congrArg (fun z => [V.int 1, V.int z]) hsel, ⟨by decide, by decide, by omega, by omega⟩, ?_⟩
    have hcnt : (((nn + 1 : Nat) : Int) - 1).toNat = nn := by omega
    rw [hcnt]
    let f : Nat → Option (List Nat) := fun k => tabR h sg (k - 1) (if k < ls.length then cut1 32 (ls.getD k []) else [])
    let R : Nat → V → Hp → Prop := fun j y H' => ∃ r, f (1 + j) = some r ∧ TupI K H' y r
    have kp : Kp R := fun j y Ha Hb e a => let ⟨r, h1, h2⟩ := a; ⟨r, h1, h2.exV e⟩
    have g0 : Gr EE T D R 0 H2 := ⟨e2, t2, [], d2, rfl, fun j y z => by simp at z⟩
    have eR2 : readR h o = match upto f nn 1 with | .ok ts => .ok (sg, ts) | .error e => .error e := by
      unfold readR
      rw [hls]
      simp only [hsg]
      rfl
    refine for_range (lo := 1) (n := nn) (fun i σ H' => Gr EE T D R i H' ∧ ∃ v5 v6 v7, σ = [some (.ref dh), some v, some (.ref pl), some (.ref D), some (nv sg), v5, v6, v7]) ⟨g0, none, none, none, rfl⟩ ?_ ?_
    · rintro i σ H' hi ⟨g, v5, v6, v7, rfl⟩
      have bad : f (1 + i) = none → ∀ H', Gr EE T D R i H' → ∀ d, H' d = none → E (.ref C) (some d) (upd H' d (.xd [("line", .int (1 + (i : Int)))])) := fun hn Ha ga => by
        obtain ⟨acc, h1, h2, h3⟩ := ga.d
        obtain ⟨rs, k1, k2, k3⟩ := acc_ex (F := fun j y r => f (1 + j) = some r ∧ TupI K Ha y r) (acc := acc) (k := 0) (fun j y hy => by rw [Nat.zero_add]; exact h3 j y hy)
        have e := upto_err (f := f) (xs := rs) (at_ := 1) (n := nn) (fun j r hr => by have z := (k3 j r hr).choose_spec.2.1; rw [Nat.zero_add] at z; exact z) (by rw [k1, h2]; exact hi) (by rw [k1, h2]; exact hn)
        rw [k1, h2] at e
        rw [e] at eR2
        exact err_new (n := 1 + i) (kE (1 + i) eR2) ga.e.1 ga.t
      let ws : List Codes := if 1 + i < ls.length then cut1 32 (ls.getD (1 + i) []) else []
      refine ⟨_, rfl, _, rfl, pl, _, rfl, .inl (SqL.of g.e.2), _, _, rfl, rfl, _, rfl, ite_join (fun x Hw => ∃ pw, x = .ref pw ∧ Gr EE T D R i Hw ∧ Hw pw = some (.lst (ws.map tv))) ?_ (fun c G k => ?_) (fun c G k => ?_)⟩
      case refine_2 =>
        have c : (decide ((1 + (i : Int)) < ((ls.map tv).length : Nat))) = true := c
        rw [List.length_map] at c
        have hlt : 1 + i < ls.length := by have := of_decide_eq_true c; omega
        have hln := List.getElem?_eq_getElem hlt
        obtain ⟨hl1, hl2⟩ := hls2 _ (List.getElem_mem hlt)
        have ew : ws = cut1 32 ls[1 + i] := by
          show (if 1 + i < ls.length then cut1 32 (ls.getD (1 + i) []) else []) = _
          rw [if_pos hlt, List.getD_eq_getElem?_getD, hln]
          rfl
        refine ⟨_, rfl, _, rfl, pl, _, _, tv ls[1 + i], rfl, rfl, SqL.of g.e.2, atI_nat (j := 1 + i) (by rw [List.getElem?_map, hln]; rfl), ⟨_, rfl⟩, mk ls[1 + i], mk [32], rfl, rfl, by decide +kernel, small (by rw [mk_len]; omega), fun pw hpw => ?_⟩
        rw [split_tv _ 32 (by decide), ← ew]
        exact k _ _ ⟨pw, rfl, g.new ek kp hpw, upd_same⟩
      case refine_3 =>
        have c : (decide ((1 + (i : Int)) < ((ls.map tv).length : Nat))) = false := c
        rw [List.length_map] at c
        have hlt : ¬ 1 + i < ls.length := fun z => by have := of_decide_eq_false c; omega
        have ew : ws = [] := if_neg hlt
        refine ⟨Nat.zero_le _, fun pw hpw => ?_⟩
        exact k _ _ ⟨pw, rfl, g.new ek kp hpw, by rw [upd_same, ew]; rfl⟩
      rintro x Hw ⟨pw, rfl, gw, hpw⟩
      have aw : Asc ws ∧ ws.length ≤ 100001 ∧ ∀ w ∈ ws, w.length ≤ 100000 := by
        show Asc (if 1 + i < ls.length then cut1 32 (ls.getD (1 + i) []) else []) ∧ _
        by_cases hlt : 1 + i < ls.length
        · obtain ⟨hl1, hl2⟩ := hls2 _ (List.getElem_mem hlt)
          have ew : ws = cut1 32 ls[1 + i] := by
            show (if 1 + i < ls.length then cut1 32 (ls.getD (1 + i) []) else []) = _
            rw [if_pos hlt, List.getD_eq_getElem?_getD, List.getElem?_eq_getElem hlt]
            rfl
          have := len_cut1 32 ls[1 + i]
          exact ⟨by show Asc ws; rw [ew]; exact cut_small hl2, by rw [ew]; omega, fun w hw => by rw [ew] at hw; exact Nat.le_trans (cut_each hw) hl1⟩
        · have ew : ws = [] := if_neg hlt
          exact ⟨by show Asc ws; rw [ew]; exact fun w hw => (by cases hw), by rw [ew]; exact Nat.zero_le _, fun w hw => by rw [ew] at hw; cases hw⟩
      obtain ⟨aw1, aw2, aw3⟩ := aw
      have e1 : (1 + (i : Int) - 1) = ((i : Nat) : Int) := by omega
      refine ⟨_, rfl, 3, rfl, pw, ws.map tv, rfl, SqL.of hpw, fun p1 hp1 => ?_⟩
      have g3 := gw.new (o := .lst (cutV (ws.map tv) none (some 3))) ek kp hp1
      refine ⟨_, rfl, _, _, rfl, rfl, (1 + (i : Int) - 1), rfl, ?_, by show 3 ≤ _; decide, fun p2 hp2 => ?_⟩
      · rw [e1]; exact log_small (by omega)
      rw [e1, headR_tv]
      have g4 := g3.new (o := .lst ((headR i).map tv)) ek kp hp2
      have hcut : cutV (ws.map tv) none (some 3) = (ws.take 3).map tv := (cutV_take _ 3).trans List.map_take.symm
      let oo : Option (List Nat) := if ws.take 3 = headR i then figs 2 (ws.drop 3) else none
      refine ⟨p1, p2, ws.take 3, headR i, rfl, rfl, SqL.of ?_, SqL.of upd_same, fun w hw => aw1 w (List.mem_of_mem_take hw), headR_asc, _, rfl, ite_join (fun x Hw => Gr EE T D R i Hw ∧ OTup K Hw x oo) ?_ (fun c G k => ?_) (fun c G k => ?_)⟩
      · rw [upd_lst hp2 upd_same, hcut]
      case refine_3 =>
        have hcut2 : cutV (ws.map tv) (some 3) none = (ws.drop 3).map tv := (cutV_drop _ 3).trans List.map_drop.symm
        refine ⟨_, rfl, 3, rfl, pw, ws.map tv, rfl, SqL.of (upd_lst hp2 (upd_lst hp1 hpw)), fun p3 hp3 => ?_⟩
        rw [hcut2]
        have g5 := g4.new (o := .lst ((ws.drop 3).map tv)) ek kp hp3
        refine ⟨3, 1, rfl, rfl, p3, ws.drop 3, 2, rfl, SqL.of upd_same, ?_, fun w hw => aw3 w (List.mem_of_mem_drop hw), g5.t, fun sv H5 x5 t5 hsv => ?_⟩
        · rw [List.length_drop]; omega
        refine k _ _ ⟨g5.ext ek kp x5 t5, ?_⟩
        rw [show oo = figs 2 (ws.drop 3) from if_pos (of_decide_eq_true c)]
        exact hsv
      case refine_4 =>
        refine k _ _ ⟨g4, ?_⟩
        rw [show oo = none from if_neg (of_decide_eq_false c)]
        rfl
      rintro x H5 ⟨g5, hx5⟩
      have hf : f (1 + i) = oo.bind fun t => (h[i]?).bind fun r => if tblB sg r.length t = true then some t else none := by
        show tabR h sg (1 + i - 1) ws = _
        rw [show 1 + i - 1 = i by omega]
        exact tabR_eq
      refine ⟨_, rfl, _, rfl, dh, zs, rfl, .inr (sqT_ext g5.e.1 hzs), _, _, rfl, rfl, _, rfl, ?_⟩
      by_cases c2 : ((zs.length : Nat) : Int) < 1 + (i : Int)
      · have hn : h[i]? = none := List.getElem?_eq_none (by omega)
        have bd := bad (hf.trans (by rw [hn]; cases oo <;> rfl)) _ g5
        exact iteOf (decide_eq_true c2) (iteT (iteT ⟨_, rfl, bad_out (W := fun cls d H' => E cls d H') BC.T BC.nf bd⟩))
      refine iteOf (decide_eq_false c2) (iteF ?_)
      have hih : i < h.length := by omega
      have hri := List.getElem?_eq_getElem hih
      cases hoo : oo with
      | none =>
        rw [hoo] at hx5 hf
        cases hx5
        exact ⟨_, rfl, rfl, _, rfl, iteT (iteT ⟨_, rfl, bad_out (W := fun cls d H' => E cls d H') BC.T BC.nf (bad hf _ g5)⟩)⟩
      | some t =>
        rw [hoo] at hx5 hf
        obtain ⟨b, rfl, hb⟩ := hx5
        rw [hri] at hf
        have hf : f (1 + i) = if tblB sg h[i].length t = true then some t else none := hf
        refine ⟨_, rfl, rfl, _, rfl, iteOf (decide_eq_false (fun z => by cases z)) (iteF ?_)⟩
        refine ⟨_, rfl, _, rfl, _, rfl, _, _, rfl, rfl, _, rfl, .ref dh, .ref b, h, sg, i, h[i], t, congrArg (fun z => [V.ref dh, nv sg, V.int z, V.ref b]) e1, hH.ext g5.e.1, hri, okh.short _ (List.getElem_mem hih), hs3, ⟨b, rfl, hb⟩, g5.t, fun H7 x7 t7 => ?_⟩
        have g7 := g5.ext ek kp x7 t7
        by_cases c4 : tblB sg h[i].length t = true
        · refine ⟨true, congrArg V.bl c4, iteF ?_⟩
          obtain ⟨acc, k1, k2, k3⟩ := g7.push ek kp (by omega) ⟨t, hf.trans (if_pos c4), b, rfl, sqT_ext x7 hb⟩
          exact ⟨_, rfl, .inl ⟨rfl, acc, SqL.of k1⟩, _, rfl, D, acc, _, rfl, rfl, k1, k2, k3, _, _, _, rfl⟩
        · have bd := bad (hf.trans (if_neg c4)) _ g7
          exact ⟨false, congrArg V.bl (Bool.eq_false_iff.mpr c4), iteT ⟨_, rfl, bad_out (W := fun cls d H' => E cls d H') BC.T BC.nf bd⟩⟩
    · rintro σ H' ⟨g, v5, v6, v7, rfl⟩
      obtain ⟨acc, h1, h2, h3⟩ := g.d
      obtain ⟨rs, k1, k2, k3⟩ := acc_ex (F := fun j y r => f (1 + j) = some r ∧ TupI K H' y r) (acc := acc) (k := 0) (fun j y hy => by rw [Nat.zero_add]; exact h3 j y hy)
      have e := upto_ok (f := f) (xs := rs) (at_ := 1) (fun j r hr => by have z := (k3 j r hr).choose_spec.2.1; rw [Nat.zero_add] at z; exact z)
      rw [k1, h2] at e
      rw [e] at eR2
      refine ⟨_, rfl, _, rfl, D, acc, rfl, .inl ⟨SqL.of h1, fun l hl => ⟨by show 2 ≤ _; decide, fun q hq => ?_⟩⟩⟩
      have xl : ExtN H (upd H' l (.tup acc)) := extN_upd g.e.1 (Nw.ext g.e.1 hl)
      refine kQ (sg, rs) eR2 (.ref q) _ (extN_upd xl (Nw.ext xl hq)) (tabs_new (tabs_new g.t hl) hq) ⟨q, .ref l, rfl, SqT.of upd_same, l, acc, rfl, SqT.of (upd_tup hq upd_same), L2.Paired.mapP k2 fun y r z => ?_⟩
      obtain ⟨j, _, z⟩ := z
      exact (z.exV (exV_new hl)).exV (exV_new hq)
end
end K60
set_option Elab.async false
set_option linter.all false
set_option maxRecDepth 100000
set_option maxHeartbeats 4000000
/-! pair_text, night_text, nights_text -/
namespace K60
open PySem PySem.Spec PyProof.Rows L2 Gx RZ TL
open LamX (TabB Tabs TabS CodeO ExtN)
theorem callStr (K : PySem.W.Frag) {X : Cx} : CallR X (.type "str") (fun xs H Q => ∃ n : Nat, xs = [nv n] ∧ n < 10 ^ 9 ∧ Q (tv (numL n)) H) := fun pins s σ H xs us Q I r h => by
  obtain ⟨n, rfl, hn, q⟩ := h
  refine call_str_int pins s σ H _ us Q I r ⟨n, rfl, log_small hn, ?_⟩
  rw [show V.str (Str.ofString (toString ((n : Nat) : Int))) = tv (numL n) from num_tv n]
  exact q
/-- a pair of small numbers -/
structure Pr (p : List Nat) : Prop where
  len : p.length = 2
  dig : ∀ n ∈ p, n < 10
theorem Pr.two {p : List Nat} (h : Pr p) : ∃ a b, p = [a, b] ∧ a < 10 ∧ b < 10 := by
  obtain ⟨a, b, rfl⟩ := two_of h.len
  exact ⟨a, b, rfl, h.dig a (by simp), h.dig b (by simp)⟩
theorem pairT_len {p : List Nat} (h : Pr p) : (pairT p).length = 3 := by
  obtain ⟨a, b, rfl, ha, hb⟩ := h.two
  show (numL a ++ cs "=" ++ numL b).length = 3
  rw [List.length_append, List.length_append, (num1 ha).1, (num1 hb).1]
  have e : (cs "=").length = 1 := by decide
  rw [e]
abbrev sPair : Stmt := top 28
theorem scPair : FnScope ["pair"] ["pair"] (defScope sPair) := ⟨rfl, rfl, rfl, by decide +kernel, rfl, by decide +kernel, by decide +kernel⟩
def spPair (K : PySem.W.Frag) : Sp := fun vs H Q _ => ∃ (v : V) (p : List Nat), vs = [v] ∧ TupI K H v p ∧ Pr p ∧ Q (tv (pairT p)) H
abbrev sNText : Stmt := top 29
theorem scNText : FnScope ["night", "pair"] ["night"] (defScope sNText) := ⟨rfl, rfl, rfl, by decide +kernel, rfl, by decide +kernel, by decide +kernel⟩
def spNText (K : PySem.W.Frag) (T : List (Addr × Str)) : Sp := fun vs H Q _ => ∃ (v : V) (ps : List (List Nat)), vs = [v] ∧ TupR K H v ps ∧ (∀ p ∈ ps, Pr p) ∧ ps.length ≤ 1000 ∧ Tabs T H ∧ Out T H fun H' => Q (tv (nightLn ps)) H'
theorem night_len {ps : List (List Nat)} (h : ∀ p ∈ ps, Pr p) : (nightLn ps).length = 5 + 4 * ps.length := by
  unfold nightLn
  rw [List.length_append]
  have e : (cs "night").length = 5 := by decide
  rw [e]
  congr 1
  induction ps with
  | nil => rfl
  | cons p ps ih =>
    have ih := ih fun q hq => h q (List.mem_cons_of_mem _ hq)
    show (32 :: (pairT p ++ (ps.map fun p => 32 :: pairT p).flatten)).length = _
    rw [List.length_cons, List.length_append, pairT_len (h p List.mem_cons_self), ih, List.length_cons]
    omega
section
variable {P : Program} {w : World} {K : PySem.W.Frag} {mg : Str → Option Value} {base : Heap} {T : List (Addr × Str)}
theorem ok_pair {f : Addr} {fd : FuncData} (F : Fun K "pair_text" "pair_text" sPair f fd) (B : Bl mg) : FnOk P w K mg base CX0 1 f fd ["pair"] (spPair K) := by
  refine F.ok scPair (fun vs H Q E h => ?_) (fun cdv A outer s H vs Q E hr h => ?_)
  · obtain ⟨v, p, rfl, _⟩ := h
    rfl
  · obtain ⟨v, p, rfl, ⟨a, rfl, ha⟩, hp, k⟩ := h
    refine ⟨_, pss_one (ps_ret (pe_op op_addT (pe_op op_addT (pe_callTy (callStr K) (by rfl) B.str boot_str (pa_cons (pe_ix (ixT K rfl) (pv 0) pe_int (fun _ _ => rfl)) pa_nil)) pe_str) (pe_callTy (callStr K) (by rfl) B.str boot_str (pa_cons (pe_ix (ixT K rfl) (pv 0) pe_int (fun _ _ => rfl)) pa_nil)))), ?_⟩
    obtain ⟨y0, y1, rfl, h0, h1⟩ := hp.two
    have e : (cs "=").length = 1 := by decide
    have l0 := (num1 h0).1
    have l1 := (num1 h1).1
    refine ⟨_, rfl, a, _, 0, nv y0, rfl, rfl, ha, rfl, y0, rfl, by omega, _, _, rfl, lit_tv "=", by omega, _, rfl, a, _, 1, nv y1, rfl, rfl, ha, rfl, y1, rfl, by omega, _, _, rfl, rfl, by rw [List.length_append]; omega, k⟩
theorem ok_nText {f fP : Addr} {fd fdP : FuncData} (F : Fun K "night_text" "night_text" sNText f fd) (B : Bl mg) (DP : Df K mg "pair_text" sPair ["pair"] fP fdP) : FnOk P w K mg base CX0 2 f fd ["night"] (spNText K T) := by
  have GP : FnOk P w K mg base CX0 1 fP fdP ["pair"] (spPair K) := ok_pair DP.F B
  refine F.ok scNText (fun vs H Q E h => ?_) (fun cdv A outer s H vs Q E hr h => ?_)
  · obtain ⟨v, ps, rfl, _⟩ := h
    rfl
  · obtain ⟨v, ps, rfl, ⟨a, xs, rfl, ha, hx⟩, hp, hl, hT, k⟩ := h
    refine ⟨_, pss_one (ps_ret (pe_op op_addT pe_str (pe_join pe_str (pe_lc (own := [("pair", 1)]) (g := gName 1) (tt := tYes) rfl scNText.nd (pi_tup (pv 0)) (blkOk_by (N := ["night", "pair"]) (sc := defScope sNText) (by decide +kernel)) (fun _ _ _ _ _ => pg_name (i := 1) scNText.nd rfl (Or.inl rfl)) (fun _ _ _ _ _ => pts_nil)
        (fun _ _ _ _ _ => pe_op op_addT pe_str (pe_call GP hr (by rfl) DP.g DP.kp DP.b .nil pass0 (pa_cons (pv 1) pa_nil))))))), ?_⟩
    let R : Nat → V → Hp → Prop := fun j y _ => ∃ p, ps[j]? = some p ∧ y = tv (32 :: pairT p)
    have kp : Kp R := kp_pure _
    refine ⟨⟨_, rfl⟩, _, rfl, a, rfl, ⟨_, ha⟩, fun D hD => ?_⟩
    have ek : EK (ExtN H) D := ⟨fun Ha Hb a e => a.trans e, fun Ha o a => extN_upd a (Nw.of hD)⟩
    refine lc_tup (K := K) (a := a) (xs := xs) (Gr (ExtN H) T D R) (Gr.start (extN_new hD) hT hD) (fun i H' _ g => sqT_ext g.e ha) ?_ ?_
    · rintro i x H' hi g
      obtain ⟨p, hp1, hp2⟩ := paired_get hx hi
      have hin := List.mem_of_getElem? hp1
      refine ⟨rfl, ?_⟩
      refine ⟨_, rfl, x, p, rfl, hp2.ext g.e, hp p hin, _, _, lit_tv " ", rfl, ?_, g.push ek kp ?_ ⟨p, hp1, rfl⟩⟩
      · rw [pairT_len (hp p hin)]
        decide
      · have := (List.getElem?_eq_some_iff.mp hp1).1
        omega
    · rintro H' g
      obtain ⟨acc, h1, h2, h3⟩ := g.d
      have hacc : acc = ps.map fun p => tv (32 :: pairT p) := acc_map (by rw [h2, hx.length]) h3
      have e2 : acc = ((ps.map fun p => 32 :: pairT p).map mk).map V.str := by
        rw [hacc, tv_map, List.map_map]
        rfl
      have hln := night_len hp
      have hfl : (ps.map fun p => 32 :: pairT p).flatten.length = 4 * ps.length := by
        unfold nightLn at hln
        rw [List.length_append, show (cs "night").length = 5 by decide] at hln
        omega
      refine ⟨_, D, _, rfl, rfl, .inl (SqL.of (h1.trans (by rw [e2]))), ?_, cs "night", (ps.map fun p => 32 :: pairT p).flatten, lit_tv "night", ?_, ?_, k H' g.e g.t⟩
      · rw [sum_len, hfl]
        show _ + _ * 0 ≤ _
        omega
      · exact congrArg V.str (by rw [mk_lit]; exact join_mk _)
      · rw [hfl, show (cs "night").length = 5 by decide]
        omega
end
/-! ### nights_text -/
abbrev sNsText : Stmt := top 30
theorem scNsText : FnScope ["house", "rules", "nights", "night"] ["house", "rules", "nights"] (defScope sNsText) := ⟨rfl, rfl, rfl, by decide +kernel, rfl, by decide +kernel, by decide +kernel⟩
/-- nights that may stand -/
structure OkN (n s : Nat) (ns : List (List (List Nat))) : Prop where
  len : ns.length ≤ 200
  ok : ∀ x ∈ ns, nightB n s 7 x = true
theorem nightB_pr {n s l : Nat} {ps : List (List Nat)} (hn : n ≤ 7) (hs : s ≤ 3) (h : nightB n s l ps = true) : ps.length ≤ l ∧ ∀ p ∈ ps, Pr p := by
  unfold nightB at h
  rw [Bool.and_eq_true, Bool.and_eq_true, Bool.and_eq_true] at h
  obtain ⟨h1, h2, h3, h4⟩ := h
  refine ⟨of_decide_eq_true h1, fun p hp => ⟨of_decide_eq_true (List.all_eq_true.mp h2 p hp), fun m hm => ?_⟩⟩
  have hl : p.length = 2 := of_decide_eq_true (List.all_eq_true.mp h2 p hp)
  have hb := List.all_eq_true.mp h3 p hp
  obtain ⟨a, b, rfl⟩ := two_of hl
  unfold pairB at hb
  rw [Bool.and_eq_true] at hb
  have q1 : a < n := of_decide_eq_true hb.1
  have q2 : b < s := of_decide_eq_true hb.2
  simp only [List.mem_cons, List.not_mem_nil, or_false] at hm
  rcases hm with rfl | rfl <;> omega
def spNsText (K : PySem.W.Frag) (T : List (Addr × Str)) : Sp := fun vs H Q _ => ∃ (hv rv v : V) (h : List (List Nat)) (s : Nat) (ts : List (List Nat)) (ns : List (List (List Nat))), vs = [hv, rv, v] ∧ TupR K H hv h ∧ OkH h ∧ RulesAt K H rv s ts ∧ OkR h s ts ∧ TupN K H v ns ∧ OkN h.length s ns ∧ Tabs T H ∧
  Out T H fun H' => Q (tv (textOf (linesN ns))) H'
section
variable {P : Program} {w : World} {K : PySem.W.Frag} {mg : Str → Option Value} {base : Heap} {T : List (Addr × Str)}
theorem ok_nsText {f fH fR fN fT : Addr} {fd fdH fdR fdN fdT : FuncData} (F : Fun K "nights_text" "nights_text" sNsText f fd) (tb : Tb T base mg fd (gq "nights_text")) (B : Bl mg)
    (DH : Df K mg "need_house" sHouse ["value"] fH fdH) (GH : FnOk P w K mg base CX0 6 fH fdH ["value"] (spHouse K T))
    (DR : Df K mg "need_rules" sRules ["house", "value"] fR fdR) (GR : FnOk P w K mg base CX0 9 fR fdR ["house", "value"] (spRules K T))
    (DN : Df K mg "is_night" sNight ["house", "rules", "liars", "value"] fN fdN) (GN : FnOk P w K mg base CX0 5 fN fdN ["house", "rules", "liars", "value"] (spNight K T))
    (DT : Df K mg "night_text" sNText ["night"] fT fdT) (GT : FnOk P w K mg base CX0 2 fT fdT ["night"] (spNText K T)) : FnOk P w K mg base CX0 10 f fd ["house", "rules", "nights"] (spNsText K T) := by
  refine okC F scNsText (fun vs H Q E h => ?_) (fun cdv hcd A outer s H vs Q E hr h => ?_)
  · obtain ⟨hv, rv, v, h, sg, ts, ns, rfl, _⟩ := h
    rfl
  · obtain ⟨hv, rv, v, h, sg, ts, ns, rfl, hH, okh, hR, okr, hN, okn, hT, k⟩ := h
    obtain ⟨c, Pt, hc, TB, hm, hu⟩ := tb.ex
    rw [hc] at hcd
    obtain ⟨u, hme, ru⟩ := B.me
    obtain ⟨u2, hmc, ru2⟩ := B.mc
    have nd := scNsText.nd
    have hrg : Room (5 + 3) (A.deeper (envOfC "nights_text" (defScope sNsText) s.heap.objs.size f cdv)) := hr.mono (by decide)
    refine ⟨_, pss_cons (ps_expr (pe_call GH (hr.mono (by decide)) (by rfl) DH.g DH.kp DH.b .nil pass0 (pa_cons (pv 0) pa_nil)))
      (pss_cons (ps_expr (pe_call GR hr (by rfl) DR.g DR.kp DR.b .nil pass0 (pa_cons (pv 0) (pa_cons (pv 1) pa_nil))))
      (pss_cons (ps_if (PW.pt (pw_or (pt_not (pt_val (pe_callB call_isiB (by rfl) B.isi boot_isi (pa_cons (pv 2) (pa_cons (pe_bltn (v := .ty "tuple") (by rfl) B.tuple boot_tuple rfl) pa_nil)))))
        (pw_or1 (pt_cmp (pc_gt (pe_callB (lenK K rfl) (by rfl) B.len PySem.boot_len (pa_cons (pv 2) pa_nil)) (pe_glob (by rfl) hme ru)))))) (pss_one ps_never) pss_nil)
      (pss_cons (ps_if (pt_not (pt_val (pe_allG (T := T) (c := c) (P := Pt) (own := [("night", 3)]) hrg rfl nd (by rfl) B.all TB hcd.symm hm hu (pi_tup (pv 2)) (blkOk_by (N := ["house", "rules", "nights", "night"]) (sc := defScope sNsText) (by decide +kernel)) (by decide +kernel) (by decide +kernel) rfl
          (fun _ _ _ _ _ => pg_name (i := 3) nd rfl (Or.inl rfl))
          (fun _ _ _ _ _ hr2 => pe_call GN hr2 (by rfl) DN.g DN.kp DN.b .nil pass0 (pa_cons (pv 0) (pa_cons (pv 1) (pa_cons (pe_glob (by rfl) hmc ru2) (pa_cons (pv 3) pa_nil)))))))) (pss_one ps_never) pss_nil)
      (pss_one (ps_ret (pe_join pe_str (pe_lc (own := [("night", 3)]) (g := gName 3) (tt := tYes) rfl nd (pi_tup (pv 2)) (blkOk_by (N := ["house", "rules", "nights", "night"]) (sc := defScope sNsText) (by decide +kernel)) (fun _ _ _ _ _ => pg_name (i := 3) nd rfl (Or.inl rfl)) (fun _ _ _ _ _ => pts_nil)
        (fun _ _ _ _ _ => pe_op op_addT (pe_call GT (hr.mono (by decide)) (by rfl) DT.g DT.kp DT.b .nil pass0 (pa_cons (pv 3) pa_nil)) pe_str)))))))), ?_⟩
    refine ⟨_, rfl, hv, h, rfl, hH, okh, hT, fun H1 x1 t1 => ?_⟩
    refine ⟨_, rfl, _, rfl, hv, rv, h, sg, ts, rfl, hH.ext x1, okh, hR.ext x1, okr, t1, fun H2 x2 t2 => ?_⟩
    have x12 := x1.trans x2
    obtain ⟨a, xs, rfl, ha, hx⟩ := hN.ext x12
    have hxl : xs.length = ns.length := hx.length
    have hs3 : sg ≤ 3 := by rcases okr.sg with e | e <;> omega
    refine ⟨_, rfl, _, "tuple", "tuple", true, rfl, TyX.sqT ha, k_tt, true, rfl, iteF ?_⟩
    refine ⟨_, rfl, a, xs, rfl, .inr ha, _, _, rfl, rfl, _, rfl, iteOf (decide_eq_false (by have := okn.len; omega)) (iteF ?_)⟩
    try dsimp only [tNext, tSeq, tIfS, tNot, tB, tRet]
    refine allG_tup (xs := xs) rfl ha t2 (fun _ => True) trivial (fun j x H' hj _ e3 t3 => ?_) (fun H' _ e3 t3 => ?_)
    · obtain ⟨p, hp1, hp2⟩ := paired_get hx hj
      refine ⟨rfl, _, rfl, _, rfl, _, rfl, hv, rv, x, h, sg, 7, ts, p, rfl, hH.ext (x12.trans e3), hR.ext (x12.trans e3), hp2.ext e3, t3, fun H4 e5 t5 => ?_⟩
      have q := okn.ok p (List.mem_of_getElem? hp1)
      exact ⟨_, rfl, fun _ => ⟨e3.trans e5, t5, trivial⟩, fun hb => by rw [q] at hb; cases hb⟩
    · refine ⟨true, rfl, iteF ?_⟩
      let R : Nat → V → Hp → Prop := fun j y _ => ∃ p, ns[j]? = some p ∧ y = tv (nightLn p ++ [10])
      have kp : Kp R := kp_pure _
      refine ⟨⟨_, rfl⟩, _, rfl, a, rfl, ⟨_, sqT_ext e3 ha⟩, fun D hD => ?_⟩
      have ek : EK (ExtN H') D := ⟨fun Ha Hb a e => a.trans e, fun Ha o a => extN_upd a (Nw.of hD)⟩
      refine lc_tup (K := K) (a := a) (xs := xs) (Gr (ExtN H') T D R) (Gr.start (extN_new hD) t3 hD) (fun i H4 _ g => sqT_ext (e3.trans g.e) ha) ?_ ?_
      · rintro i x H4 hi g
        obtain ⟨p, hp1, hp2⟩ := paired_get hx hi
        obtain ⟨pl, pp⟩ := nightB_pr okh.hi hs3 (okn.ok p (List.mem_of_getElem? hp1))
        refine ⟨rfl, ?_⟩
        refine ⟨_, rfl, x, p, rfl, hp2.ext (e3.trans g.e), pp, by omega, g.t, fun H5 e5 t5 => ?_⟩
        refine ⟨_, _, rfl, lit_tv "\n", ?_, (g.ext ek kp e5 t5).push ek kp ?_ ⟨p, hp1, rfl⟩⟩
        · rw [night_len pp, show (cs "\n").length = 1 by decide]
          omega
        · have := (List.getElem?_eq_some_iff.mp hp1).1
          have := okn.len
          omega
      · rintro H4 g
        obtain ⟨acc, h1, h2, h3⟩ := g.d
        have hacc : acc = ns.map fun p => tv (nightLn p ++ [10]) := acc_map (by rw [h2, hxl]) h3
        have e2 : acc = ((ns.map fun p => nightLn p ++ [10]).map mk).map V.str := by
          rw [hacc, tv_map, List.map_map]
          rfl
        have et : textOf (linesN ns) = (ns.map fun p => nightLn p ++ [10]).flatten := by
          unfold textOf linesN
          rw [List.map_map]
          rfl
        refine ⟨_, D, _, rfl, rfl, .inl (SqL.of (h1.trans (by rw [e2]))), ?_, ?_⟩
        · rw [sum_len, ← et]
          show _ + _ * 0 ≤ _
          have hb : (textOf (linesN ns)).length ≤ (linesN ns).length * (33 + 1) := textOf_len fun l hl => by
            obtain ⟨p, hp, rfl⟩ := List.mem_map.mp hl
            obtain ⟨pl, pp⟩ := nightB_pr okh.hi hs3 (okn.ok p hp)
            rw [night_len pp]
            omega
          have : (linesN ns).length = ns.length := List.length_map _
          have := okn.len
          omega
        · have ej : Txt.join (Str.ofString "") ((ns.map fun p => nightLn p ++ [10]).map mk) = mk (textOf (linesN ns)) := by
            rw [et, mk_lit]
            exact join_mk _
          rw [ej]
          exact k H4 (x12.trans (e3.trans g.e)) g.t
end
end K60
set_option Elab.async false
set_option linter.all false
set_option maxRecDepth 100000
set_option maxHeartbeats 4000000
/-! night_of, read_nights -/
namespace K60
open PySem PySem.Spec PyProof.Rows L2 Gx RZ TL
open LamX (TabB Tabs TabS CodeO ExtN)
/-- None, or a night -/
def ONight (K : PySem.W.Frag) (H : Hp) (v : V) : Option (List (List Nat)) → Prop
  | none => v = .non
  | some ps => TupR K H v ps
theorem ONight.exV {K : PySem.W.Frag} {H H' : Hp} {v : V} {o : Option (List (List Nat))} (e : ExV H H') (h : ONight K H v o) : ONight K H' v o := by
  cases o with
  | none => exact h
  | some r => exact TupR.exV e h
def dO : Option (List Nat) → PyData
  | none => .none
  | some r => dI r
theorem OTup.dp {K : PySem.W.Frag} {H : Hp} {v : V} {o : Option (List Nat)} (h : OTup K H v o) : Dp K H v (dO o) := by
  cases o with
  | none => cases h; exact .non
  | some r => exact TupI.dp h
theorem sh_dO (o : Option (List Nat)) : Sh 1 (dO o) := by
  cases o with
  | none => exact sh_non.mono (by decide)
  | some r => exact sh_dI r
theorem dO_non (o : Option (List Nat)) : PyData.eqv (dO o) .none = !o.isSome := by
  cases o with
  | none => simp [dO, PyData.eqv]
  | some r => simp [dO, dI, PyData.eqv]
abbrev sNightOf : Stmt := top 31
theorem scNightOf : FnScope ["house", "rules", "line", "words", "pairs", "word"] ["house", "rules", "line"] (defScope sNightOf) := ⟨rfl, rfl, rfl, by decide +kernel, rfl, by decide +kernel, by decide +kernel⟩
def spNightOf (K : PySem.W.Frag) (T : List (Addr × Str)) : Sp := fun vs H Q _ => ∃ (hv rv : V) (line : Codes) (h : List (List Nat)) (s : Nat) (ts : List (List Nat)), vs = [hv, rv, tv line] ∧ TupR K H hv h ∧ RulesAt K H rv s ts ∧ line.length ≤ 100000 ∧ (∀ c ∈ line, c < 128) ∧ Tabs T H ∧
  ∀ v H', ExtN H H' → Tabs T H' → ONight K H' v (nightOf h.length s line) → Q v H'
theorem cut1_cons (s : Nat) (l : Codes) : ∃ p ps, cut1 s l = p :: ps := by
  cases h : cut1 s l with
  | nil => exact absurd h (cut1_ne s l)
  | cons p ps => exact ⟨p, ps, rfl⟩
theorem paired_acc {α : Type} {F : V → α → Prop} {acc : List V} {ws : List α} (hl : acc.length = ws.length) (h : ∀ (j : Nat) y, acc[j]? = some y → ∃ w : α, ws[j]? = some w ∧ F y w) : Paired F acc ws := acc_pair hl h
theorem dp_paired {α : Type} {K : PySem.W.Frag} {H : Hp} {F : V → α → Prop} {d : α → PyData} (h : ∀ x y, F x y → Dp K H x (d y)) {xs : List V} {ys : List α} (p : Paired F xs ys) : DpAll K H xs (ys.map d) := dp_all h p
section
variable {P : Program} {w : World} {K : PySem.W.Frag} {mg : Str → Option Value} {base : Heap} {T : List (Addr × Str)}
theorem ok_nightOf {f fn fF fN : Addr} {fd fdn fdF fdN : FuncData} (F : Fun K "night_of" "night_of" sNightOf f fd) (B : Bl mg)
    (Dn : Df K mg "numbers_of" sNums ["words", "most"] fn fdn) (DF : Df K mg "figure_of" sFig ["word", "most"] fF fdF)
    (DN : Df K mg "is_night" sNight ["house", "rules", "liars", "value"] fN fdN) (GN : FnOk P w K mg base CX0 5 fN fdN ["house", "rules", "liars", "value"] (spNight K T)) : FnOk P w K mg base CX0 6 f fd ["house", "rules", "line"] (spNightOf K T) := by
  have Gn : FnOk P w K mg base CX0 2 fn fdn ["words", "most"] (spNums K T) := ok_nums Dn.F B DF
  refine F.ok scNightOf (fun vs H Q E h => ?_) (fun cdv A outer s H vs Q E hr h => ?_)
  · obtain ⟨hv, rv, line, h, sg, ts, rfl, _⟩ := h
    rfl
  · obtain ⟨hv, rv, line, h, sg, ts, rfl, hH, hR, hl, hasc, hT, k⟩ := h
    obtain ⟨u2, hmc, ru2⟩ := B.mc
    have nd := scNightOf.nd
    have hu65 : (A.deeper (envOfC "night_of" (defScope sNightOf) s.heap.objs.size f cdv)).units + 65 < cLine := by have := hr.un; omega
    refine ⟨_, pss_cons (ps_set (i := 3) nd rfl (Or.inl rfl) (pe_split (pv 2) pe_str))
      (pss_cons (ps_setLc (i := 4) (own := [("word", 5)]) (g := gName 5) (tt := tYes) rfl nd rfl rfl (sw_true rfl rfl rfl (by decide +kernel)) (pi_list (pe_slice sl_list (pv 3) (po_some pe_int) po_none))
        (blkOk_by (own := [("word", 5)]) (N := ["house", "rules", "line", "words", "pairs", "word"]) (sc := defScope sNightOf) (by decide +kernel)) (fun _ _ _ _ _ => pg_name (i := 5) nd rfl (Or.inl rfl)) (fun _ _ _ _ _ => pts_nil)
        (fun _ _ _ _ _ => pe_call Gn (hr.mono (by decide)) (by rfl) Dn.g Dn.kp Dn.b .nil pass0 (pa_cons (pe_split (pv 5) pe_str) (pa_cons (pe_glob (by rfl) hmc ru2) pa_nil))))
      (pss_cons (ps_if (PW.pt (pw_or (pt_cmpR op_ne (pe_ix (ixL K rfl) (pv 3) pe_int (fun _ _ => rfl)) pe_str (nomark _)) (pw_or (pt_cmpR (op_inD hu65) pe_non (pv 4) rfl) (pw_or1 (pt_not (pt_val
          (pe_call GN hr (by rfl) DN.g DN.kp DN.b .nil pass0 (pa_cons (pv 0) (pa_cons (pv 1) (pa_cons (pe_glob (by rfl) hmc ru2) (pa_cons (pe_callTy call_tuple_of (by rfl) B.tuple boot_tuple (pa_cons (pv 4) pa_nil)) pa_nil))))))))))) (pss_one (ps_ret pe_non)) pss_nil)
      (pss_one (ps_ret (pe_callTy call_tuple_of (by rfl) B.tuple boot_tuple (pa_cons (pv 4) pa_nil)))))), ?_⟩
    obtain ⟨w0, ws, hcut⟩ := cut1_cons 32 line
    have aw : Asc (cut1 32 line) := cut_small hasc
    have lw := len_cut1 32 line
    have ew : ∀ w ∈ cut1 32 line, w.length ≤ 100000 := fun w hw => Nat.le_trans (cut_each hw) hl
    rw [hcut] at aw lw ew
    refine ⟨_, rfl, ⟨_, rfl⟩, mk line, mk [32], rfl, rfl, by decide +kernel, small (by rw [mk_len]; omega), fun pw hpw => ?_⟩
    rw [split_tv line 32 (by decide), hcut]
    refine ⟨_, rfl, 1, rfl, pw, _, rfl, SqL.of upd_same, fun p1 hp1 => ?_⟩
    have hc1 : cutV ((w0 :: ws).map tv) (some 1) none = ws.map tv := cutV_drop _ 1
    rw [hc1]
    have e1 : ExtN H (upd H pw (.lst ((w0 :: ws).map tv))) := extN_new hpw
    have e2 : ExtN H (upd (upd H pw (.lst ((w0 :: ws).map tv))) p1 (.lst (ws.map tv))) := extN_upd e1 (Nw.ext e1 hp1)
    have t2 : Tabs T (upd (upd H pw (.lst ((w0 :: ws).map tv))) p1 (.lst (ws.map tv))) := tabs_new (tabs_new hT hpw) hp1
    have hpw2 : (upd (upd H pw (.lst ((w0 :: ws).map tv))) p1 (.lst (ws.map tv))) pw = some (.lst ((w0 :: ws).map tv)) := upd_lst hp1 upd_same
    have hp12 : (upd (upd H pw (.lst ((w0 :: ws).map tv))) p1 (.lst (ws.map tv))) p1 = some (.lst (ws.map tv)) := upd_same
    generalize (upd (upd H pw (.lst ((w0 :: ws).map tv))) p1 (.lst (ws.map tv))) = H2 at e2 t2 hpw2 hp12 ⊢
    let EE : Hp → Prop := fun H' => ExtN H2 H'
    let R : Nat → V → Hp → Prop := fun j y H' => ∃ w, ws[j]? = some w ∧ OTup K H' y (figs 7 (cut1 61 w))
    have kp : Kp R := fun j y Ha Hb e a => let ⟨r, h1, h2⟩ := a; ⟨r, h1, h2.exV e⟩
    refine ⟨p1, rfl, ⟨_, SqL.of hp12⟩, fun D hD => ?_⟩
    have ek : EK EE D := ⟨fun Ha Hb a e => a.trans e, fun Ha o a => extN_upd a (Nw.of hD)⟩
    refine lc_list (K := K) (a := p1) (xs := ws.map tv) (Gr EE T D R) (Gr.start (extN_new hD) t2 hD) (fun i H4 _ g => sqL_ext g.e (SqL.of hp12)) ?_ ?_
    · rintro i x H4 hi g
      obtain ⟨wd, hwd, rfl⟩ := map_get hi
      have hin := List.mem_of_getElem? hwd
      have hwl := ew wd (List.mem_cons_of_mem _ hin)
      refine ⟨rfl, ?_⟩
      refine ⟨_, rfl, ⟨_, rfl⟩, mk wd, mk [61], rfl, rfl, by decide +kernel, small (by rw [mk_len]; omega), fun p3 hp3 => ?_⟩
      rw [split_tv wd 61 (by decide)]
      have g1 := g.new (o := .lst ((cut1 61 wd).map tv)) ek kp hp3
      have := len_cut1 61 wd
      refine ⟨p3, cut1 61 wd, 7, rfl, SqL.of upd_same, by omega, fun w hw => Nat.le_trans (cut_each hw) hwl, g1.t, fun sv H5 x5 t5 hsv => (g1.ext ek kp x5 t5).push ek kp ?_ ⟨wd, hwd, hsv⟩⟩
      have := (List.getElem?_eq_some_iff.mp hwd).1
      rw [List.length_cons] at lw
      omega
    · rintro H4 g
      obtain ⟨acc, h1, h2, h3⟩ := g.d
      rw [List.length_map] at h2
      have hpair : Paired (fun y w => OTup K H4 y (figs 7 (cut1 61 w))) acc ws := acc_pair h2 h3
      have e4 : ExtN H H4 := e2.trans g.e
      refine ⟨_, rfl, pw, _, 0, tv w0, rfl, rfl, SqL.of (g.e _ _ hpw2 (lst_ne _)), atI_nat (j := 0) rfl, rfl, _, rfl, ?_⟩
      by_cases c1 : w0 = cs "night"
      case neg =>
        refine iteOf (b := true) ?_ (iteT (iteT (k .non H4 e4 g.t ?_)))
        · show (!decide (tv w0 = V.str (Str.ofString "night"))) = true
          rw [lit_tv, decide_eq_false (fun z => c1 (tv_inj z))]
          rfl
        · unfold nightOf
          rw [hcut]
          have : ¬ ((w0 :: ws).head? = some (cs "night")) := fun z => c1 (Option.some.inj z)
          show ONight K H4 .non (match pairsOf ws with | some ps => if (w0 :: ws).head? = some (cs "night") ∧ nightB h.length sg 7 ps = true then some ps else none | none => none)
          cases pairsOf ws with
          | none => rfl
          | some ps =>
            show ONight K H4 .non (if (w0 :: ws).head? = some (cs "night") ∧ nightB h.length sg 7 ps = true then some ps else none)
            rw [if_neg (fun z => this z.1)]
            rfl
      refine iteOf (b := false) ?_ (iteF ?_)
      · show (!decide (tv w0 = V.str (Str.ofString "night"))) = false
        rw [lit_tv, decide_eq_true (by rw [c1])]
        rfl
      have hDp : DpAll K H4 acc (ws.map fun w => dO (figs 7 (cut1 61 w))) := dp_all (fun x y z => OTup.dp z) hpair
      have hSh : Sh 2 (.list (ws.map fun w => dO (figs 7 (cut1 61 w)))) := sh_lst fun d hd => by
        obtain ⟨w, _, rfl⟩ := List.mem_map.mp hd
        exact sh_dO _
      have hany : ((ws.map fun w => dO (figs 7 (cut1 61 w))).any fun z => PyData.eqv z .none) = !(ws.all fun w => (figs 7 (cut1 61 w)).isSome) := by
        rw [List.any_map, List.not_all_eq_any_not]
        congr 1
        funext w
        exact dO_non _
      refine ⟨_, rfl, .none, _, .non, .lst (SqL.of h1) hDp, sh_non.ok, hSh.ok, _, rfl, ?_⟩
      have hno : nightOf h.length sg line = match pairsOf ws with | some ps => if nightB h.length sg 7 ps = true then some ps else none | none => none := by
        unfold nightOf
        rw [hcut]
        show (match pairsOf ws with | some ps => if (w0 :: ws).head? = some (cs "night") ∧ nightB h.length sg 7 ps = true then some ps else none | none => none) = _
        cases pairsOf ws with
        | none => rfl
        | some ps =>
          show (if (w0 :: ws).head? = some (cs "night") ∧ nightB h.length sg 7 ps = true then some ps else none) = if nightB h.length sg 7 ps = true then some ps else none
          by_cases c : nightB h.length sg 7 ps = true
          · rw [if_pos c, if_pos ⟨by rw [c1]; rfl, c⟩]
          · rw [if_neg c, if_neg fun z => c z.2]
      by_cases c2 : (ws.all fun w => (figs 7 (cut1 61 w)).isSome) = true
      case neg =>
        refine iteOf (b := true) (hany.trans (by rw [Bool.eq_false_iff.mpr c2]; rfl)) (iteT (iteT (k .non H4 e4 g.t ?_)))
        rw [hno, show pairsOf ws = none from if_neg c2]
        rfl
      refine iteOf (b := false) (hany.trans (by rw [c2]; rfl)) (iteF ?_)
      have hps : pairsOf ws = some (ws.map fun w => (figs 7 (cut1 61 w)).getD []) := if_pos c2
      have hTup : ∀ H5 l, ExV H4 H5 → H5 l = some (.tup acc) → TupR K H5 (.ref l) (ws.map fun w => (figs 7 (cut1 61 w)).getD []) := fun H5 l ev hl => by
        refine ⟨l, acc, rfl, SqT.of hl, acc_pair (by rw [h2, List.length_map]) fun j y hy => ?_⟩
        obtain ⟨w, hw, ho⟩ := h3 j y hy
        refine ⟨(figs 7 (cut1 61 w)).getD [], by rw [List.getElem?_map, hw]; rfl, ?_⟩
        have hs := List.all_eq_true.mp c2 w (List.mem_of_getElem? hw)
        have ho := ho.exV ev
        cases hf : figs 7 (cut1 61 w) with
        | none => rw [hf] at hs; cases hs
        | some r =>
          rw [hf] at ho
          exact ho
      refine ⟨_, rfl, _, rfl, _, rfl, D, acc, rfl, .inl ⟨SqL.of h1, fun l hl => ?_⟩⟩
      have e5 : ExtN H (upd H4 l (.tup acc)) := extN_upd e4 (Nw.ext e4 hl)
      refine ⟨hv, rv, .ref l, h, sg, 7, ts, _, rfl, hH.ext e5, hR.ext e5, hTup _ l (exV_new hl) upd_same, tabs_new g.t hl, fun H6 e6 t6 => ?_⟩
      have hl6 : H6 D = some (.lst acc) := e6 _ _ (upd_lst hl h1) (lst_ne _)
      by_cases c3 : nightB h.length sg 7 (ws.map fun w => (figs 7 (cut1 61 w)).getD []) = true
      · refine ⟨true, congrArg V.bl c3, iteF ?_⟩
        refine ⟨_, rfl, D, acc, rfl, .inl ⟨SqL.of hl6, fun l2 hl2 => ?_⟩⟩
        have e7 := e5.trans e6
        refine k (.ref l2) _ (extN_upd e7 (Nw.ext e7 hl2)) (tabs_new t6 hl2) ?_
        rw [hno, hps]
        simp only [c3, if_true]
        exact hTup _ l2 (((exV_new hl).trans (ExV.of e6)).trans (exV_new hl2)) upd_same
      · refine ⟨false, congrArg V.bl (Bool.eq_false_iff.mpr c3), iteT (k .non H6 (e5.trans e6) t6 ?_)⟩
        rw [hno, hps]
        simp only [c3]
        rfl
end
end K60
set_option Elab.async false
set_option linter.all false
set_option maxRecDepth 100000
set_option maxHeartbeats 4000000
/-! read_nights -/
namespace K60
open PySem PySem.Spec PyProof.Rows L2 Gx RZ TL
open LamX (TabB Tabs TabS CodeO ExtN)
abbrev sReadN : Stmt := top 32
theorem scReadN : FnScope ["house", "rules", "text", "found", "at", "line", "night"] ["house", "rules", "text"] (defScope sReadN) := ⟨rfl, rfl, rfl, by decide +kernel, rfl, by decide +kernel, by decide +kernel⟩
def spReadN (C : Addr) (K : PySem.W.Frag) (T : List (Addr × Str)) : Sp := fun vs H Q E => ∃ (hv rv v : V) (h : List (List Nat)) (s : Nat) (ts : List (List Nat)) (o : Option Codes), vs = [hv, rv, v] ∧ TupR K H hv h ∧ OkH h ∧ RulesAt K H rv s ts ∧ OkR h s ts ∧ TxV v o ∧ Fine o ∧ Tabs T H ∧
  Res C T H Q E (readN h.length s o) (fun ns v H' => TupN K H' v ns)
section
variable {P : Program} {w : World} {K : PySem.W.Frag} {mg : Str → Option Value} {base : Heap} {T : List (Addr × Str)} {C : Addr}
theorem ok_readN {f fH fR fl fO : Addr} {fd fdH fdR fdl fdO : FuncData} (F : Fun K "read_nights" "read_nights" sReadN f fd) (B : Bl mg) (BC : Bad K mg C) (Dl : Df K mg "lines_of" sLines ["text"] fl fdl)
    (DH : Df K mg "need_house" sHouse ["value"] fH fdH) (GH : FnOk P w K mg base CX0 6 fH fdH ["value"] (spHouse K T))
    (DR : Df K mg "need_rules" sRules ["house", "value"] fR fdR) (GR : FnOk P w K mg base CX0 9 fR fdR ["house", "value"] (spRules K T))
    (DO : Df K mg "night_of" sNightOf ["house", "rules", "line"] fO fdO) (GO : FnOk P w K mg base CX0 6 fO fdO ["house", "rules", "line"] (spNightOf K T)) : FnOk P w K mg base (L2.CX P w) 10 f fd ["house", "rules", "text"] (spReadN C K T) := by
  have Gl' : FnOk P w K mg base (L2.CX P w) 3 fl fdl ["text"] (spLines C T) := ok_lines Dl.F B BC
  refine F.okX scReadN (fun vs H Q E h => ?_) (fun cdv A outer s H vs Q E hr h => ?_)
  · obtain ⟨hv, rv, v, h, sg, ts, o, rfl, _⟩ := h
    rfl
  · obtain ⟨hv, rv, v, h, sg, ts, o, rfl, hH, okh, hR, okr, hv', hf, hT, kE, kQ⟩ := h
    obtain ⟨u, hme, ru⟩ := B.me
    have nd := scReadN.nd
    refine ⟨_, pss_cons (ps_expr (pe_call GH (hr.mono (by decide)) (by rfl) DH.g DH.kp DH.b .nil pass0 (pa_cons (pv 0) pa_nil)))
      (pss_cons (ps_expr (pe_call GR hr (by rfl) DR.g DR.kp DR.b .nil pass0 (pa_cons (pv 0) (pa_cons (pv 1) pa_nil))))
      (pss_cons (ps_set (i := 3) nd rfl (Or.inl rfl) (pe_lst pa_nil))
      (pss_cons (ps_for (passes_of rfl) rfl (pi_enum (by rfl) B.enumerate (pa_cons (pe_call Gl' (hr.mono (by decide)) (by rfl) Dl.g Dl.kp Dl.b .nil (passes_call (takes_of rfl rfl rfl rfl) (fun _ _ _ _ h => h)) (pa_cons (pv 2) pa_nil)) pa_nil)) (pg2 K 4 5 rfl rfl nd rfl rfl (Or.inl rfl) (Or.inl rfl) (Or.inr rfl) (Or.inr rfl))
        (pss_cons (ps_set (i := 6) nd rfl (Or.inl rfl) (pe_ifExp (pt_cmp (pc_lt (pv 4) (pe_glob (by rfl) hme ru))) (pe_call GO (hr.mono (by decide)) (by rfl) DO.g DO.kp DO.b .nil pass0 (pa_cons (pv 0) (pa_cons (pv 1) (pa_cons (pv 5) pa_nil)))) pe_non))
        (pss_cons (ps_if (pt_cmpR op_isN (pv 6) pe_non (nomark _)) (pss_one (ps_bad rfl BC (hr.mono (by decide)) (takes_of rfl rfl rfl rfl) (pv 4) (by rfl))) pss_nil)
        (pss_one (ps_expr (pe_bm PySem.F.plainAttrs_list PySem.F.slot_list_append PySem.F.type_list_append mt_append (pv 3) (pa_cons (pv 6) pa_nil)))))))
      (pss_one (ps_ret (pe_callTy call_tuple_of (by rfl) B.tuple boot_tuple (pa_cons (pv 3) pa_nil))))))), ?_⟩
    refine ⟨_, rfl, hv, h, rfl, hH, okh, hT, fun H0 x0 t0 => ?_⟩
    refine ⟨_, rfl, _, rfl, hv, rv, h, sg, ts, rfl, hH.ext x0, okh, hR.ext x0, okr, t0, fun H1 x1 t1 => ?_⟩
    have x01 := x0.trans x1
    refine ⟨Nat.zero_le _, fun D hD => ?_⟩
    have nD : Nw H D := Nw.ext x01 hD
    have xD : ExtN H (upd H1 D (.lst [])) := extN_upd x01 nD
    have tD : Tabs T (upd H1 D (.lst [])) := tabs_new t1 hD
    refine ⟨_, rfl, v, o, rfl, hv', hf, tD, fun n hn => ?_, fun ls hls v1 H2 x2 t2 hk => ?_⟩
    · have e := kE n (by unfold readN; rw [hn])
      exact e.back xD
    obtain ⟨pl, rfl, npl, hpl⟩ := hk
    have pD : pl ≠ D := fun z => npl D _ upd_same (lst_ne _) z.symm
    have hD2 : H2 D = some (.lst []) := x2 _ _ upd_same (lst_ne _)
    have x02 := xD.trans x2
    obtain ⟨hlen, hls2⟩ := lines_fine hf hls
    let fn : Nat → Option (List (List Nat)) := fun k => if k < 200 then (ls[k]?).bind (nightOf h.length sg) else none
    have eR2 : readN h.length sg o = upto fn ls.length 0 := by
      unfold readN
      rw [hls]
    let EE : Hp → Prop := fun H' => ExtN H H' ∧ H' pl = some (.lst (ls.map tv))
    let R : Nat → V → Hp → Prop := fun j y H' => ∃ r, fn j = some r ∧ TupR K H' y r
    have ek : EK EE D := ⟨fun Ha Hb a e => ⟨a.1.trans e, e _ _ a.2 (lst_ne _)⟩, fun Ha o a => ⟨extN_upd a.1 nD, by rw [upd_ne pD]; exact a.2⟩⟩
    have kp : Kp R := fun j y Ha Hb e a => let ⟨r, h1, h2⟩ := a; ⟨r, h1, h2.exV e⟩
    have g0 : Gr EE T D R 0 H2 := ⟨⟨x02, hpl⟩, t2, [], hD2, rfl, fun j y z => by simp at z⟩
    refine ⟨pl, ls.map tv, rfl, SqL.of hpl, for_enumL (xs := ls.map tv) (fun i σ H' => Gr EE T D R i H' ∧ ∃ v4 v5 v6, σ = [some hv, some rv, some v, some (.ref D), v4, v5, v6]) ⟨g0, none, none, none, rfl⟩ (fun i σ H' _ p => SqL.of p.1.e.2) ?_ ?_⟩
    · rintro i x Tp σ H' hi ⟨g, v4, v5, v6, rfl⟩ hTp
      obtain ⟨line, hln, rfl⟩ := map_get hi
      obtain ⟨hl1, hl2⟩ := hls2 line (List.mem_of_getElem? hln)
      have hil : i < ls.length := (List.getElem?_eq_some_iff.mp hln).1
      have g1 := g.new (o := .tup [.int (i : Nat), tv line]) ek kp hTp
      have bad : fn i = none → ∀ H', Gr EE T D R i H' → ∀ d, H' d = none → E (.ref C) (some d) (upd H' d (.xd [("line", nv i)])) := fun hn Ha ga => by
        obtain ⟨acc, h1, h2, h3⟩ := ga.d
        obtain ⟨rs, k1, k2, k3⟩ := acc_ex (F := fun j y r => fn j = some r ∧ TupR K Ha y r) (acc := acc) (k := 0) (fun j y hy => by rw [Nat.zero_add]; exact h3 j y hy)
        have e := upto_err (f := fn) (xs := rs) (at_ := 0) (n := ls.length) (fun j r hr => (k3 j r hr).choose_spec.2.1) (by rw [k1, h2]; exact hil) (by rw [k1, h2, Nat.zero_add]; exact hn)
        rw [k1, h2, Nat.zero_add] at e
        exact err_new (kE i (eR2.trans e)) ga.e.1 ga.t
      refine ⟨Tp, _, rfl, SqT.of upd_same, rfl, _, _, rfl, _, _, rfl, rfl, ?_⟩
      refine ⟨_, rfl, _, _, rfl, rfl, _, rfl, ite_join (fun x Hw => Gr EE T D R i Hw ∧ ONight K Hw x (fn i)) ?_ (fun c G k => ?_) (fun c G k => ?_)⟩
      case refine_2 =>
        have c : i < 200 := by have := of_decide_eq_true c; omega
        refine ⟨_, rfl, _, rfl, _, rfl, hv, rv, line, h, sg, ts, rfl, hH.ext g1.e.1, hR.ext g1.e.1, hl1, hl2, g1.t, fun sv H5 x5 t5 hsv => k _ _ ⟨g1.ext ek kp x5 t5, ?_⟩⟩
        rw [show fn i = nightOf h.length sg line from (if_pos c).trans (by rw [hln]; rfl)]
        exact hsv
      case refine_3 =>
        have c : ¬ i < 200 := by have := of_decide_eq_false c; omega
        refine k _ _ ⟨g1, ?_⟩
        rw [show fn i = none from if_neg c]
        rfl
      rintro x H5 ⟨g5, hx⟩
      cases hfn : fn i with
      | none =>
        rw [hfn] at hx
        cases hx
        exact ⟨_, rfl, rfl, _, rfl, iteT ⟨_, rfl, bad_out (W := fun cls d H' => E cls d H') BC.T BC.nf (bad hfn _ g5)⟩⟩
      | some r =>
        rw [hfn] at hx
        obtain ⟨b, ys, rfl, hb, hy⟩ := hx
        refine ⟨_, rfl, rfl, _, rfl, iteOf (decide_eq_false (fun z => by cases z)) (iteF ?_)⟩
        obtain ⟨acc, k1, k2, k3⟩ := g5.push ek kp (by omega) ⟨r, hfn, b, ys, rfl, hb, hy⟩
        exact ⟨_, rfl, .inl ⟨rfl, acc, SqL.of k1⟩, _, rfl, D, acc, _, rfl, rfl, k1, k2, k3, _, _, _, rfl⟩
    · rintro σ H' ⟨g, v4, v5, v6, rfl⟩
      obtain ⟨acc, h1, h2, h3⟩ := g.d
      obtain ⟨rs, k1, k2, k3⟩ := acc_ex (F := fun j y r => fn j = some r ∧ TupR K H' y r) (acc := acc) (k := 0) (fun j y hy => by rw [Nat.zero_add]; exact h3 j y hy)
      rw [List.length_map] at h2
      have e := upto_ok (f := fn) (xs := rs) (at_ := 0) (fun j r hr => (k3 j r hr).choose_spec.2.1)
      rw [k1, h2] at e
      refine ⟨_, rfl, D, acc, rfl, .inl ⟨SqL.of h1, fun l hl => ?_⟩⟩
      exact kQ rs (eR2.trans e) (.ref l) _ (extN_upd g.e.1 (Nw.ext g.e.1 hl)) (tabs_new g.t hl) ⟨l, acc, rfl, SqT.of upd_same, L2.Paired.mapP k2 fun y r z => by
        obtain ⟨j, _, z⟩ := z
        exact z.exV (exV_new hl)⟩
end
end K60
set_option Elab.async false
set_option linter.all false
set_option maxRecDepth 100000
set_option maxHeartbeats 4000000
/-! law: power, words, lines, figures, night_text -/
namespace K60
open PySem PySem.Spec PyProof.Rows L2 Gx RZ TL
open LamX (TabB Tabs TabS CodeO ExtN)
/-! ### _law_power -/
abbrev sLPow : Stmt := top 41
theorem scLPow : FnScope ["_law_one", "_law_many", "_law_found", "_law_turn"] ["_law_one", "_law_many"] (defScope sLPow) := ⟨rfl, rfl, rfl, by decide +kernel, rfl, by decide +kernel, by decide +kernel⟩
def spLPow : Sp := fun vs H Q _ => ∃ b m : Nat, vs = [nv b, nv m] ∧ b ≤ 3 ∧ m ≤ 100000 ∧ Q (nv (b ^ m)) H
section
variable {P : Program} {w : World} {K : PySem.W.Frag} {mg : Str → Option Value} {base : Heap} {T : List (Addr × Str)}
theorem ok_lpow {f : Addr} {fd : FuncData} (F : Fun K "_law_power" "_law_power" sLPow f fd) (B : Bl mg) : FnOk P w K mg base CX0 1 f fd ["_law_one", "_law_many"] spLPow := by
  refine F.ok scLPow (fun vs H Q E h => ?_) (fun cdv A outer s H vs Q E hr h => ?_)
  · obtain ⟨b, m, rfl, _⟩ := h
    rfl
  · obtain ⟨b, m, rfl, hb, hm, k⟩ := h
    refine ⟨_, pss_cons (ps_set (i := 2) scLPow.nd rfl (Or.inl rfl) pe_int)
      (pss_cons (ps_for PassesOwn.never rfl (pi_range1 (by rfl) B.range (pa_cons (pv 1) pa_nil)) (pg_name (i := 3) scLPow.nd rfl (Or.inl rfl))
        (pss_one (ps_set (i := 2) scLPow.nd rfl (Or.inl rfl) (pe_op op_mul (pv 2) (pv 0)))))
      (pss_one (ps_ret (pv 2)))), ?_⟩
    refine ⟨_, rfl, _, rfl, by omega, by omega, for_range (n := (m : Int).toNat) (fun i σ H' => H' = H ∧ ∃ v, σ = [some (nv b), some (nv m), some (nv (b ^ i)), v]) ⟨rfl, none, rfl⟩ ?_ ?_⟩
    · rintro i σ H' hi ⟨rfl, v, rfl⟩
      refine ⟨_, rfl, _, rfl, _, _, rfl, rfl, .inr ⟨by omega, by omega⟩, rfl, some (.int (0 + i)), ?_⟩
      show [some (nv b), some (nv m), some (V.int (((b ^ i : Nat) : Int) * (b : Int))), some (V.int (0 + i))] = _
      rw [show ((b ^ i : Nat) : Int) * (b : Int) = ((b ^ (i + 1) : Nat) : Int) by rw [Nat.pow_succ, Int.natCast_mul]]
    · rintro σ H' ⟨rfl, v, rfl⟩
      rw [Int.toNat_natCast]
      exact ⟨_, rfl, k⟩
end
/-! ### _law_words -/
abbrev sLWords : Stmt := top 44
theorem scLWords : FnScope ["_law_numbers", "_law_number"] ["_law_numbers"] (defScope sLWords) := ⟨rfl, rfl, rfl, by decide +kernel, rfl, by decide +kernel, by decide +kernel⟩
section
variable {P : Program} {w : World} {K : PySem.W.Frag} {mg : Str → Option Value} {base : Heap} {T : List (Addr × Str)}
theorem ok_lwords {f : Addr} {fd : FuncData} (F : Fun K "_law_words" "_law_words" sLWords f fd) (B : Bl mg) : FnOk P w K mg base CX0 1 f fd ["_law_numbers"] (spWords K T) := by
  refine F.ok scLWords (fun vs H Q E h => ?_) (fun cdv A outer s H vs Q E hr h => ?_)
  · obtain ⟨v, r, rfl, _⟩ := h
    rfl
  · obtain ⟨v, r, rfl, ⟨a, rfl, ha⟩, hl, hd, hT, k⟩ := h
    refine ⟨_, pss_one (ps_ret (pe_join pe_str (pe_lc (own := [("_law_number", 1)]) (g := gName 1) (tt := tYes) rfl scLWords.nd (pi_tup (pv 0)) (blkOk_by (N := ["_law_numbers", "_law_number"]) (sc := defScope sLWords) (by decide +kernel)) (fun _ _ _ _ _ => pg_name (i := 1) scLWords.nd rfl (Or.inl rfl)) (fun _ _ _ _ _ => pts_nil)
        (fun _ _ _ _ _ => pe_op op_addT pe_str (pe_callTy (callStr K) (by rfl) B.str boot_str (pa_cons (pv 1) pa_nil)))))), ?_⟩
    let R : Nat → V → Hp → Prop := fun j y _ => ∃ n, r[j]? = some n ∧ y = tv (32 :: numL n)
    have kp : Kp R := kp_pure _
    refine ⟨⟨_, rfl⟩, _, rfl, a, rfl, ⟨_, ha⟩, fun D hD => ?_⟩
    have ek : EK (ExtN H) D := ⟨fun Ha Hb a e => a.trans e, fun Ha o a => extN_upd a (Nw.of hD)⟩
    refine lc_tup (K := K) (a := a) (xs := r.map nv) (Gr (ExtN H) T D R) (Gr.start (extN_new hD) hT hD) (fun i H' _ g => sqT_ext g.e ha) ?_ ?_
    · rintro i x H' hi g
      obtain ⟨n, hn, rfl⟩ := map_get hi
      have hn9 := hd n (List.mem_of_getElem? hn)
      refine ⟨rfl, ?_⟩
      refine ⟨_, rfl, n, rfl, by omega, _, _, lit_tv " ", rfl, ?_, g.push ek kp ?_ ⟨n, hn, rfl⟩⟩
      · rw [(num1 hn9).1]
        decide
      · have := (List.getElem?_eq_some_iff.mp hn).1
        omega
    · rintro H' g
      obtain ⟨acc, h1, h2, h3⟩ := g.d
      have hacc : acc = r.map fun n => tv (32 :: numL n) := acc_map (by rw [h2, List.length_map]) h3
      have e2 : acc = ((r.map fun n => 32 :: numL n).map mk).map V.str := by
        rw [hacc, tv_map, List.map_map]
        rfl
      refine ⟨_, D, _, rfl, rfl, .inl (SqL.of (h1.trans (by rw [e2]))), ?_, ?_⟩
      · rw [sum_len]
        show (wordsT r).length + _ * 0 ≤ _
        rw [words_len hd]
        omega
      · have e3 : Txt.join (Str.ofString "") ((r.map fun n => 32 :: numL n).map mk) = mk (wordsT r) := by
          rw [mk_lit]
          exact join_mk _
        rw [e3]
        exact k H' g.e g.t
end
/-! ### _law_lines -/
def lawLines (least : Nat) : Option Codes → Except Nat (List Codes)
  | none => .error 0
  | some l => if l = [] ∧ least > 0 then .error 0 else if (cut1 10 l).getLast? = some [] then .ok (cut1 10 l).dropLast else .error ((cut1 10 l).length - 1)
theorem lawLines0 (o : Option Codes) : lawLines 0 o = linesOf o := by
  cases o with
  | none => rfl
  | some l =>
    unfold lawLines linesOf
    have e := cut1_end (s := 10) l
    have h0 : ¬ (l = [] ∧ 0 > 0) := fun z => absurd z.2 (by decide)
    show (if l = [] ∧ 0 > 0 then (Except.error 0 : Except Nat (List Codes)) else if (cut1 10 l).getLast? = some [] then .ok (cut1 10 l).dropLast else .error ((cut1 10 l).length - 1)) = if l ≠ [] ∧ l.getLast? ≠ some 10 then .error ((cut1 10 l).length - 1) else .ok (cut1 10 l).dropLast
    rw [if_neg h0]
    by_cases c : (cut1 10 l).getLast? = some []
    · rw [if_pos c, if_neg]
      intro z
      rcases e.mp c with z1 | z1
      · exact z.1 z1
      · exact z.2 z1
    · rw [if_neg c, if_pos]
      refine ⟨fun z => c (e.mpr (.inl z)), fun z => c (e.mpr (.inr z))⟩
theorem lawLines1 (o : Option Codes) : lawLines 1 o = match linesOf o with | .ok ls => if ls = [] then .error 0 else .ok ls | .error n => .error n := by
  cases o with
  | none => rfl
  | some l =>
    by_cases c : l = []
    · subst c
      rfl
    · have h1 : lawLines 1 (some l) = lawLines 0 (some l) := by
        show (if l = [] ∧ 1 > 0 then (Except.error 0 : Except Nat (List Codes)) else if (cut1 10 l).getLast? = some [] then .ok (cut1 10 l).dropLast else .error ((cut1 10 l).length - 1)) = if l = [] ∧ 0 > 0 then (Except.error 0 : Except Nat (List Codes)) else if (cut1 10 l).getLast? = some [] then .ok (cut1 10 l).dropLast else .error ((cut1 10 l).length - 1)
        have a1 : ¬ (l = [] ∧ 1 > 0) := fun z => c z.1
        have a0 : ¬ (l = [] ∧ 0 > 0) := fun z => c z.1
        rw [if_neg a1, if_neg a0]
      rw [h1, lawLines0]
      cases h : linesOf (some l) with
      | error n => rfl
      | ok ls =>
        have hl := lines_in h
        have hne : ls ≠ [] := by
          intro z
          rw [z] at hl
          have h2 : (cut1 10 l).length = 1 := by
            have q := congrArg List.length hl
            rw [List.length_dropLast] at q
            have q2 : 0 < (cut1 10 l).length := List.length_pos_iff.mpr (cut1_ne 10 l)
            simp at q
            omega
          have h3 : l ≠ [] ∧ l.getLast? ≠ some 10 := by
            refine ⟨c, fun z2 => ?_⟩
            have e := (cut1_end (s := 10) l).mpr (.inr z2)
            match hc : cut1 10 l, h2 with
            | [p], _ =>
              rw [hc] at e
              have ep : p = [] := by simpa using e
              match l, c with
              | d :: l', _ =>
                unfold cut1 at hc
                split at hc
                · have := cut1_ne 10 l'
                  simp_all
                · split at hc <;> simp_all
          have h4 : linesOf (some l) = .error ((cut1 10 l).length - 1) := if_pos h3
          rw [h] at h4
          cases h4
        simp only [hne, if_false]
theorem tAnd_pure {tA tB : TT} {σ : L2.St} {H : Hp} {Q : Bool → Hp → Prop} (a b : Bool) (hA : ∀ Q : Bool → Hp → Prop, Q a H → tA σ H Q) (hB : ∀ Q : Bool → Hp → Prop, Q b H → tB σ H Q) (q : Q (a && b) H) : tAnd tA tB σ H Q := by
  refine hA _ ?_
  cases a with
  | true => exact hB _ q
  | false => exact q
abbrev sLLines : Stmt := top 45
theorem scLLines : FnScope ["_law_text", "_law_least", "_law_lines_here"] ["_law_text", "_law_least"] (defScope sLLines) := ⟨rfl, rfl, rfl, by decide +kernel, rfl, by decide +kernel, by decide +kernel⟩
def OLines (H H' : Hp) (v : V) : Except Nat (List Codes) → Prop
  | .error n => v = nv n
  | .ok ls => ∃ p, v = .ref p ∧ Nw H p ∧ H' p = some (.lst (ls.map tv))
def spLLines (T : List (Addr × Str)) : Sp := fun vs H Q _ => ∃ (v : V) (o : Option Codes) (least : Nat), vs = [v, nv least] ∧ TxV v o ∧ Fine o ∧ Tabs T H ∧ ∀ v' H', ExtN H H' → Tabs T H' → OLines H H' v' (lawLines least o) → Q v' H'
section
variable {P : Program} {w : World} {K : PySem.W.Frag} {mg : Str → Option Value} {base : Heap} {T : List (Addr × Str)}
theorem ok_llines {f : Addr} {fd : FuncData} (F : Fun K "_law_lines" "_law_lines" sLLines f fd) (B : Bl mg) : FnOk P w K mg base CX0 1 f fd ["_law_text", "_law_least"] (spLLines T) := by
  refine F.ok scLLines (fun vs H Q E h => ?_) (fun cdv A outer s H vs Q E hr h => ?_)
  · obtain ⟨v, o, least, rfl, _⟩ := h
    rfl
  · obtain ⟨v, o, least, rfl, hv, hf, hT, k⟩ := h
    refine ⟨_, pss_cons (ps_if (PW.pt (pw_or (pt_not (pt_val (pe_callB call_isiB (by rfl) B.isi boot_isi (pa_cons (pv 0) (pa_cons (pe_bltn (v := .ty "str") (by rfl) B.str boot_str rfl) pa_nil)))))
        (pw_or1 (PW.pt (pw_and (pt_cmpR op_eq (pv 0) pe_str (nomark _)) (pw_and1 (pt_cmp (pc_gt (pv 1) pe_int)))))))) (pss_one (ps_ret pe_int)) pss_nil)
      (pss_cons (ps_set (i := 2) scLLines.nd rfl (Or.inl rfl) (pe_split (pv 0) pe_str))
      (pss_one (ps_ret (pe_ifExp (pt_cmpR op_eq (pe_ix (ixL K rfl) (pv 2) (pe_un un_neg pe_int) (fun _ _ => rfl)) pe_str (nomark _)) (pe_slice sl_list (pv 2) po_none (po_some (pe_un un_neg pe_int)))
        (pe_op op_sub (pe_callB (lenK K rfl) (by rfl) B.len PySem.boot_len (pa_cons (pv 2) pa_nil)) pe_int))))), ?_⟩
    rcases hv with ⟨l, rfl, rfl⟩ | ⟨rfl, hv⟩
    case inr =>
      have out := k (nv 0) H (ExtN.refl H) hT rfl
      rcases hv with rfl | ⟨i, rfl⟩
      · exact ⟨_, rfl, _, "str", "NoneType", false, rfl, TyX.non, k_ns, false, rfl, iteT (iteT out)⟩
      · exact ⟨_, rfl, _, "str", "int", false, rfl, TyX.int i, k_is, false, rfl, iteT (iteT out)⟩
    obtain ⟨hlen, hasc⟩ := hf l rfl
    refine ⟨_, rfl, _, "str", "str", true, rfl, TyX.str _, k_ss, true, rfl, iteF ?_⟩
    have e1 : decide (tv l = V.str (Str.ofString "")) = decide (l = []) := by
      rw [lit_tv]
      exact decide_eq_decide.mpr ⟨fun z => tv_inj z, fun z => by rw [z]; rfl⟩
    refine tAnd_pure (decide (l = [])) (decide (0 < (least : Int))) (fun Q q => ⟨_, rfl, rfl, _, rfl, by rw [e1]; exact q⟩) (fun Q q => ⟨_, rfl, _, _, rfl, rfl, _, rfl, q⟩) ?_
    by_cases c : l = [] ∧ least > 0
    · have e2 : (decide (l = []) && decide (0 < (least : Int))) = true := by
        rw [decide_eq_true c.1, decide_eq_true (by omega)]
        rfl
      refine iteOf e2 (iteT (k (nv 0) H (ExtN.refl H) hT ?_))
      rw [show lawLines least (some l) = .error 0 from if_pos c]
      rfl
    · have e2 : (decide (l = []) && decide (0 < (least : Int))) = false := by
        rw [Bool.and_eq_false_iff]
        by_cases z : l = []
        · exact .inr (decide_eq_false fun y => c ⟨z, by omega⟩)
        · exact .inl (decide_eq_false z)
      refine iteOf e2 (iteF ?_)
      have hll : lawLines least (some l) = if (cut1 10 l).getLast? = some [] then .ok (cut1 10 l).dropLast else .error ((cut1 10 l).length - 1) := if_neg c
      refine ⟨_, rfl, ⟨_, rfl⟩, mk l, mk [10], rfl, rfl, by decide +kernel, small (by rw [mk_len]; omega), fun p hp => ?_⟩
      rw [split_tv l 10 (by decide)]
      have e3 : ExtN H (upd H p (.lst ((cut1 10 l).map tv))) := extN_new hp
      have t3 : Tabs T (upd H p (.lst ((cut1 10 l).map tv))) := tabs_new hT hp
      obtain ⟨z, hz⟩ : ∃ z, (cut1 10 l).getLast? = some z := by
        cases h : (cut1 10 l).getLast? with
        | none => exact absurd (List.getLast?_eq_none_iff.mp h) (cut1_ne 10 l)
        | some z => exact ⟨z, rfl⟩
      have hat : atI ((cut1 10 l).map tv) (-1) = some (tv z) := by
        have hne : (cut1 10 l) ≠ [] := cut1_ne 10 l
        obtain ⟨ys, hy⟩ : ∃ ys, cut1 10 l = ys ++ [z] := ⟨(cut1 10 l).dropLast, by rw [List.getLast?_eq_getLast hne] at hz; rw [← Option.some.inj hz, List.dropLast_concat_getLast hne]⟩
        rw [hy, List.map_append]
        exact atI_last _ _
      refine ⟨_, rfl, 1, rfl, p, _, -1, tv z, rfl, rfl, SqL.of upd_same, hat, rfl, _, rfl, ?_⟩
      by_cases c2 : z = []
      · refine iteOf (b := true) (by rw [c2]; rfl) (iteT ⟨_, rfl, 1, rfl, -1, rfl, p, _, rfl, SqL.of upd_same, fun p2 hp2 => ?_⟩)
        refine k _ _ (extN_upd e3 (Nw.ext e3 hp2)) (tabs_new t3 hp2) ?_
        rw [hll, if_pos (by rw [hz, c2])]
        refine ⟨p2, rfl, Nw.ext e3 hp2, ?_⟩
        rw [upd_same, cut_init, List.map_dropLast]
      · refine iteOf (b := false) (decide_eq_false fun y => c2 (tv_inj (y.trans (lit_tv "")))) (iteF ⟨_, rfl, p, _, rfl, .inl (SqL.of upd_same), _, _, rfl, rfl, ?_⟩)
        refine k _ _ e3 t3 ?_
        rw [hll, if_neg (by rw [hz]; exact fun y => c2 (Option.some.inj y))]
        show V.int (((List.map tv (cut1 10 l)).length : Int) - 1) = nv ((cut1 10 l).length - 1)
        rw [List.length_map]
        have q2 : 0 < (cut1 10 l).length := List.length_pos_iff.mpr (cut1_ne 10 l)
        exact congrArg V.int (by omega)
end
end K60
set_option Elab.async false
set_option linter.all false
set_option maxRecDepth 100000
set_option maxHeartbeats 4000000
/-! law: figures, night_text, alike -/
namespace K60
open PySem PySem.Spec PyProof.Rows L2 Gx RZ TL
open LamX (TabB Tabs TabS CodeO ExtN)
theorem inV_tv (w : Codes) : ∀ ws : List Codes, inV (tv w) (ws.map tv) = decide (w ∈ ws)
  | [] => by simp [inV]
  | u :: ws => by
    have ih := inV_tv w ws
    unfold inV at ih ⊢
    rw [List.map_cons, List.any_cons, ih]
    have e : eqV (tv u) (tv w) = decide (u = w) := by
      by_cases h : u = w
      · subst h
        simp [eqV, tv]
      · have h2 : mk u ≠ mk w := fun z => h (mk_inj z)
        simp [eqV, tv, h2, h]
    rw [e]
    by_cases h : u = w
    · subst h; simp
    · have h' : ¬ w = u := fun z => h z.symm
      simp [h, h']
def rNotInT (K : PySem.W.Frag) : R2 := fun x y H Q => ∃ (p : Addr) (ws : List Codes) (w : Codes), x = tv w ∧ y = .ref p ∧ SqL K H p (ws.map tv) ∧ Q (.bl (!decide (w ∈ ws))) H
theorem all_flat_tv (ws : List Codes) : (ws.map tv).all flatV = true := by
  rw [List.all_map]
  exact List.all_eq_true.mpr fun w _ => rfl
theorem op_notInT {X : Cx} : OpR X (compareOp .NotIn) (rNotInT X.K) := opr_mono op_notIn_seq fun x y H Q h => by
  obtain ⟨p, ws, w, rfl, rfl, hs, q⟩ := h
  refine ⟨p, _, rfl, .inl hs, rfl, all_flat_tv ws, ?_⟩
  show Q (.bl (!inV (tv w) (ws.map tv))) H
  rw [inV_tv]
  exact q
/-! ### _law_figures -/
abbrev sLFigs : Stmt := top 37
theorem scLFigs : FnScope ["_law_words_here", "_law_most", "_law_found", "_law_word"] ["_law_words_here", "_law_most"] (defScope sLFigs) := ⟨rfl, rfl, rfl, by decide +kernel, rfl, by decide +kernel, by decide +kernel⟩
def spLFigs (K : PySem.W.Frag) (T : List (Addr × Str)) : Sp := fun vs H Q _ => ∃ (a : Addr) (ws : List Codes) (most : Nat), vs = [.ref a, nv most] ∧ SqL K H a (ws.map tv) ∧ ws.length ≤ 100001 ∧ (∀ w ∈ ws, w.length ≤ 100000) ∧ Tabs T H ∧
  ∀ v H', ExtN H H' → Tabs T H' → OTup K H' v (figs most ws) → Q v H'
def digs : List Codes := ["0", "1", "2", "3", "4", "5", "6", "7", "8", "9"].map cs
theorem digs_tv : [V.str (Str.ofString "0"), V.str (Str.ofString "1"), V.str (Str.ofString "2"), V.str (Str.ofString "3"), V.str (Str.ofString "4"), V.str (Str.ofString "5"), V.str (Str.ofString "6"), V.str (Str.ofString "7"), V.str (Str.ofString "8"), V.str (Str.ofString "9")] = digs.map tv := by
  rw [lit_tv "0", lit_tv "1", lit_tv "2", lit_tv "3", lit_tv "4", lit_tv "5", lit_tv "6", lit_tv "7", lit_tv "8", lit_tv "9"]
  rfl
theorem digs_mem {w : Codes} : w ∈ digs ↔ ∃ c, w = [c] ∧ 48 ≤ c ∧ c ≤ 57 := by
  have e : digs = [[48], [49], [50], [51], [52], [53], [54], [55], [56], [57]] := by decide
  rw [e]
  constructor
  · intro h
    simp only [List.mem_cons, List.not_mem_nil, or_false] at h
    rcases h with rfl | rfl | rfl | rfl | rfl | rfl | rfl | rfl | rfl | rfl <;> exact ⟨_, rfl, by decide, by decide⟩
  · rintro ⟨c, rfl, h1, h2⟩
    have e : c = 48 ∨ c = 49 ∨ c = 50 ∨ c = 51 ∨ c = 52 ∨ c = 53 ∨ c = 54 ∨ c = 55 ∨ c = 56 ∨ c = 57 := by omega
    rcases e with rfl | rfl | rfl | rfl | rfl | rfl | rfl | rfl | rfl | rfl <;> simp
theorem figs_stop {most : Nat} {ws : List Codes} {w : Codes} (h : w ∈ ws) (e : fig most w = none) : figs most ws = none := by
  unfold figs
  rw [if_neg]
  intro z
  have := List.all_eq_true.mp z w h
  rw [e] at this
  cases this
theorem figs_acc {most : Nat} {ws : List Codes} {acc : List V} (hl : acc.length = ws.length) (h : ∀ (j : Nat) y, acc[j]? = some y → ∃ n, (ws[j]?).bind (fig most) = some n ∧ y = nv n) : ∃ r, figs most ws = some r ∧ acc = r.map nv := by
  have h1 : (ws.all fun w => (fig most w).isSome) = true := List.all_eq_true.mpr fun w hw => by
    obtain ⟨j, hj⟩ := List.getElem?_of_mem hw
    have hjl : j < acc.length := by rw [hl]; exact (List.getElem?_eq_some_iff.mp hj).1
    obtain ⟨n, hn, _⟩ := h j _ (List.getElem?_eq_getElem hjl)
    rw [hj] at hn
    have hn : fig most w = some n := hn
    rw [hn]
    rfl
  refine ⟨_, if_pos h1, ?_⟩
  rw [List.map_map]
  refine acc_map (by rw [hl]) fun j y hy => ?_
  obtain ⟨n, hn, e⟩ := h j y hy
  cases hw : ws[j]? with
  | none => rw [hw] at hn; cases hn
  | some w =>
    rw [hw] at hn
    have hn : fig most w = some n := hn
    refine ⟨w, rfl, ?_⟩
    show y = nv ((fig most w).getD 0)
    rw [hn, e]
    rfl
section
variable {P : Program} {w : World} {K : PySem.W.Frag} {mg : Str → Option Value} {base : Heap} {T : List (Addr × Str)}
theorem ok_lfigs {f : Addr} {fd : FuncData} (F : Fun K "_law_figures" "_law_figures" sLFigs f fd) (B : Bl mg) : FnOk P w K mg base CX0 1 f fd ["_law_words_here", "_law_most"] (spLFigs K T) := by
  refine F.ok scLFigs (fun vs H Q E h => ?_) (fun cdv A outer s H vs Q E hr h => ?_)
  · obtain ⟨a, ws, most, rfl, _⟩ := h
    rfl
  · obtain ⟨a, ws, most, rfl, ha, hl, hw, hT, k⟩ := h
    have nd := scLFigs.nd
    refine ⟨_, pss_cons (ps_set (i := 2) nd rfl (Or.inl rfl) (pe_lst pa_nil))
      (pss_cons (ps_for PassesOwn.never rfl (pi_list (pv 0)) (pg_name (i := 3) nd rfl (Or.inl rfl))
        (pss_cons (ps_if (PW.pt (pw_or (pt_cmpR op_notInT (pv 3) (pe_lst (pa_cons pe_str (pa_cons pe_str (pa_cons pe_str (pa_cons pe_str (pa_cons pe_str (pa_cons pe_str (pa_cons pe_str (pa_cons pe_str (pa_cons pe_str (pa_cons pe_str pa_nil))))))))))) rfl)
          (pw_or1 (pt_cmp (pc_gt (pe_callTy call_int_str (by rfl) B.int boot_int (pa_cons (pv 3) pa_nil)) (pv 1)))))) (pss_one (ps_ret pe_non)) pss_nil)
        (pss_one (ps_expr (pe_bm PySem.F.plainAttrs_list PySem.F.slot_list_append PySem.F.type_list_append mt_append (pv 2) (pa_cons (pe_callTy call_int_str (by rfl) B.int boot_int (pa_cons (pv 3) pa_nil)) pa_nil))))))
      (pss_one (ps_ret (pe_callTy call_tuple_of (by rfl) B.tuple boot_tuple (pa_cons (pv 2) pa_nil))))), ?_⟩
    refine ⟨Nat.zero_le _, fun D hD => ?_⟩
    let R : Nat → V → Hp → Prop := fun j y _ => ∃ n, (ws[j]?).bind (fig most) = some n ∧ y = nv n
    have kp : Kp R := kp_pure _
    have ek : EK (ExtN H) D := ⟨fun Ha Hb a e => a.trans e, fun Ha o a => extN_upd a (Nw.of hD)⟩
    have g0 : Gr (ExtN H) T D R 0 (upd H D (.lst [])) := Gr.start (extN_new hD) hT hD
    refine ⟨_, rfl, a, rfl, ⟨_, sqL_ext g0.e ha⟩, for_list (K := K) (a := a) (xs := ws.map tv) (fun i σ H' => Gr (ExtN H) T D R i H' ∧ ∃ v3, σ = [some (.ref a), some (nv most), some (.ref D), v3]) ⟨g0, none, rfl⟩ (fun i σ H' _ p => sqL_ext p.1.e ha) ?_ ?_⟩
    · rintro i x σ H' hi ⟨g, v3, rfl⟩
      obtain ⟨wd, hwd, rfl⟩ := map_get hi
      have hin := List.mem_of_getElem? hwd
      have hil := (List.getElem?_eq_some_iff.mp hwd).1
      refine ⟨_, rfl, by show 10 ≤ _; decide, fun q hq => ?_⟩
      rw [digs_tv]
      have g1 := g.new (o := .lst (digs.map tv)) ek kp hq
      refine ⟨q, digs, wd, rfl, rfl, SqL.of upd_same, _, rfl, ?_⟩
      by_cases c1 : wd ∈ digs
      case neg =>
        refine iteOf (b := true) (by rw [decide_eq_false c1]; rfl) (iteT (iteT (k .non _ g1.e g1.t ?_)))
        have hn : fig most wd = none := by
          match wd, c1 with
          | [], _ => rfl
          | _ :: _ :: _, _ => rfl
          | [c], c1 => exact if_neg fun z => c1 (digs_mem.mpr ⟨c, rfl, z.1, z.2.1⟩)
        rw [figs_stop hin hn]
        rfl
      refine iteOf (b := false) (by rw [decide_eq_true c1]; rfl) (iteF ?_)
      obtain ⟨c, rfl, h1, h2⟩ := digs_mem.mp c1
      have hi := int_fig h1 h2
      refine ⟨_, rfl, mk [c], _, rfl, hi, by rw [mk_len]; show 1 ≤ 640; decide, _, rfl, _, _, rfl, rfl, _, rfl, ?_⟩
      by_cases c2 : c - 48 ≤ most
      · have hf : fig most [c] = some (c - 48) := if_pos ⟨h1, h2, c2⟩
        refine iteOf (b := false) (decide_eq_false (by omega)) (iteF ?_)
        obtain ⟨acc, k1, k2, k3⟩ := g1.push ek kp (by omega) ⟨c - 48, by rw [hwd]; exact hf, rfl⟩
        exact ⟨_, rfl, .inl ⟨rfl, acc, SqL.of k1⟩, _, rfl, mk [c], _, rfl, hi, by rw [mk_len]; show 1 ≤ 640; decide, D, acc, _, rfl, rfl, k1, k2, k3, _, rfl⟩
      · have hf : fig most [c] = none := if_neg fun z => c2 z.2.2
        refine iteOf (b := true) (decide_eq_true (by omega)) (iteT (k .non _ g1.e g1.t ?_))
        rw [figs_stop hin hf]
        rfl
    · rintro σ H' ⟨g, v3, rfl⟩
      obtain ⟨acc, h1, h2, h3⟩ := g.d
      rw [List.length_map] at h2
      obtain ⟨r, e1, e2⟩ := figs_acc h2 h3
      refine ⟨_, rfl, D, acc, rfl, .inl ⟨SqL.of h1, fun l hl => k (.ref l) _ (extN_upd g.e (Nw.ext g.e hl)) (tabs_new g.t hl) ?_⟩⟩
      rw [e1]
      exact ⟨l, rfl, by rw [← e2]; exact SqT.of upd_same⟩
end
/-! ### _law_night_text -/
abbrev sLNText : Stmt := top 50
theorem scLNText : FnScope ["_law_night_here", "_law_one", "_law_sign"] ["_law_night_here"] (defScope sLNText) := ⟨rfl, rfl, rfl, by decide +kernel, rfl, by decide +kernel, by decide +kernel⟩
section
variable {P : Program} {w : World} {K : PySem.W.Frag} {mg : Str → Option Value} {base : Heap} {T : List (Addr × Str)}
theorem ok_lnText {f : Addr} {fd : FuncData} (F : Fun K "_law_night_text" "_law_night_text" sLNText f fd) (B : Bl mg) : FnOk P w K mg base CX0 1 f fd ["_law_night_here"] (spNText K T) := by
  refine F.ok scLNText (fun vs H Q E h => ?_) (fun cdv A outer s H vs Q E hr h => ?_)
  · obtain ⟨v, ps, rfl, _⟩ := h
    rfl
  · obtain ⟨v, ps, rfl, ⟨a, xs, rfl, ha, hx⟩, hp, hl, hT, k⟩ := h
    have nd := scLNText.nd
    refine ⟨_, pss_one (ps_ret (pe_op op_addT pe_str (pe_join pe_str (pe_lc (own := [("_law_one", 1), ("_law_sign", 2)]) (g := g2 K 1 2) (tt := tYes) rfl nd (pi_tup (pv 0)) (blkOk_by (N := ["_law_night_here", "_law_one", "_law_sign"]) (sc := defScope sLNText) (by decide +kernel)) (fun _ _ _ _ _ => pg2 K 1 2 rfl rfl nd rfl rfl (Or.inl rfl) (Or.inl rfl) (Or.inr rfl) (Or.inr rfl)) (fun _ _ _ _ _ => pts_nil)
        (fun _ _ _ _ _ => pe_op op_addT (pe_op op_addT (pe_op op_addT pe_str (pe_callTy (callStr K) (by rfl) B.str boot_str (pa_cons (pv 1) pa_nil))) pe_str) (pe_callTy (callStr K) (by rfl) B.str boot_str (pa_cons (pv 2) pa_nil))))))), ?_⟩
    let R : Nat → V → Hp → Prop := fun j y _ => ∃ p, ps[j]? = some p ∧ y = tv (32 :: pairT p)
    have kp : Kp R := kp_pure _
    refine ⟨⟨_, rfl⟩, _, rfl, a, rfl, ⟨_, ha⟩, fun D hD => ?_⟩
    have ek : EK (ExtN H) D := ⟨fun Ha Hb a e => a.trans e, fun Ha o a => extN_upd a (Nw.of hD)⟩
    refine lc_tup (K := K) (a := a) (xs := xs) (Gr (ExtN H) T D R) (Gr.start (extN_new hD) hT hD) (fun i H' _ g => sqT_ext g.e ha) ?_ ?_
    · rintro i x H' hi g
      obtain ⟨p, hp1, b, rfl, hb⟩ := paired_get hx hi
      have hin := List.mem_of_getElem? hp1
      obtain ⟨y0, y1, rfl, h0, h1⟩ := (hp p hin).two
      have l0 := (num1 h0).1
      have l1 := (num1 h1).1
      have c1 : (cs " ").length = 1 := by decide
      have c2 : (cs "=").length = 1 := by decide
      refine ⟨b, _, rfl, sqT_ext g.e hb, rfl, _, _, rfl, _, _, rfl, rfl, rfl, ?_⟩
      refine ⟨_, rfl, y0, rfl, by omega, _, _, lit_tv " ", rfl, by omega, _, _, rfl, lit_tv "=", by rw [List.length_append]; omega, _, rfl, y1, rfl, by omega, _, _, rfl, rfl, by simp only [List.length_append]; omega, g.push ek kp ?_ ⟨[y0, y1], hp1, ?_⟩⟩
      · have := (List.getElem?_eq_some_iff.mp hp1).1
        omega
      · rfl
    · rintro H' g
      obtain ⟨acc, h1, h2, h3⟩ := g.d
      have hacc : acc = ps.map fun p => tv (32 :: pairT p) := acc_map (by rw [h2, hx.length]) h3
      have e2 : acc = ((ps.map fun p => 32 :: pairT p).map mk).map V.str := by
        rw [hacc, tv_map, List.map_map]
        rfl
      have hln := night_len hp
      have hfl : (ps.map fun p => 32 :: pairT p).flatten.length = 4 * ps.length := by
        unfold nightLn at hln
        rw [List.length_append, show (cs "night").length = 5 by decide] at hln
        omega
      refine ⟨_, D, _, rfl, rfl, .inl (SqL.of (h1.trans (by rw [e2]))), ?_, cs "night", (ps.map fun p => 32 :: pairT p).flatten, lit_tv "night", ?_, ?_, k H' g.e g.t⟩
      · rw [sum_len, hfl]
        show _ + _ * 0 ≤ _
        omega
      · exact congrArg V.str (by rw [mk_lit]; exact join_mk _)
      · rw [hfl, show (cs "night").length = 5 by decide]
        omega
end
end K60
set_option Elab.async false
set_option linter.all false
set_option maxRecDepth 100000
set_option maxHeartbeats 4000000
/-! law: alike -/
namespace K60
open PySem PySem.Spec PyProof.Rows L2 Gx RZ TL
open LamX (TabB Tabs TabS CodeO ExtN)
/-- ints, texts, tuples of such, n deep -/
def Fl : Nat → PyData → Prop
  | _, .int _ => True
  | _, .str _ => True
  | n + 1, .tuple ds => ds.length ≤ 16777000 ∧ ∀ d ∈ ds, Fl n d
  | _, _ => False
theorem Fl.up : ∀ {n : Nat} {d : PyData}, Fl n d → Fl (n + 1) d
  | _, .int _, _ => trivial
  | _, .str _, _ => trivial
  | 0, .tuple _, h => h.elim
  | n + 1, .tuple ds, h => ⟨h.1, fun d hd => (h.2 d hd).up⟩
  | 0, .none, h => h.elim
  | _ + 1, .none, h => h.elim
  | 0, .bool _, h => h.elim
  | _ + 1, .bool _, h => h.elim
  | 0, .list _, h => h.elim
  | _ + 1, .list _, h => h.elim
  | 0, .dict _, h => h.elim
  | _ + 1, .dict _, h => h.elim
def spAl (K : PySem.W.Frag) (T : List (Addr × Str)) : Nat → Sp
  | 0 => fun _ _ _ _ => False
  | n + 1 => fun vs H Q _ => ∃ (x y : V) (d : PyData), vs = [x, y] ∧ Dp K H x d ∧ Dp K H y d ∧ Fl n d ∧ Tabs T H ∧ Out T H fun H' => Q (.bl true) H'
def rIsiTb (K : PySem.W.Frag) : List V → Hp → VK → Prop := fun xs H Q => ∃ (x : V) (tp : Addr) (t : String) (b1 b2 : Bool), xs = [x, .ref tp] ∧ H tp = some (.tup [.ty "tuple", .ty "list"]) ∧ TyX K H x (.type t) ∧ kitB t "tuple" = some b1 ∧ kitB t "list" = some b2 ∧ Q (.bl (b1 || b2)) H
theorem call_isiTb {X : Cx} : CallR X (.builtin "isinstance") (rIsiTb X.K) := fun pins s σ H xs us Q I r h => by
  obtain ⟨x, tp, t, b1, b2, rfl, hT, ty, e1, e2, q⟩ := h
  refine call_isiT pins s σ H _ us Q I r ⟨x, tp, _, .type t, _, b1 || b2, rfl, hT, .cons (.ty "tuple") (.cons (.ty "list") .nil), ty, ?_, q⟩
  refine kitAny_cons (kit_ty e1) (fun h1 => ?_) (fun h1 => by rw [h1]; rfl)
  refine kitAny_cons (kit_ty e2) (fun h2 => ?_) (fun h2 => by rw [h2, Bool.or_true])
  rw [h1, h2]
  rfl
theorem dpAll_get {K : PySem.W.Frag} {H : Hp} : ∀ {vs : List V} {ds : List PyData} {i : Nat} {d : PyData}, DpAll K H vs ds → ds[i]? = some d → ∃ v, vs[i]? = some v ∧ Dp K H v d
  | _, _, _, _, .nil, h => by simp at h
  | _, _, 0, d, .cons r _, h => by
    rw [List.getElem?_cons_zero] at h
    cases h
    exact ⟨_, rfl, r⟩
  | _, _, i + 1, d, .cons _ t, h => by
    rw [List.getElem?_cons_succ] at h
    obtain ⟨y, e, q⟩ := dpAll_get t h
    exact ⟨y, by rw [List.getElem?_cons_succ]; exact e, q⟩
theorem dpAll_len {K : PySem.W.Frag} {H : Hp} : ∀ {vs : List V} {ds : List PyData}, DpAll K H vs ds → vs.length = ds.length
  | _, _, .nil => rfl
  | _, _, .cons _ t => by rw [List.length_cons, List.length_cons, dpAll_len t]
theorem k_bt : kitB "int" "list" = some false := by decide +kernel
theorem k_sb : kitB "str" "bool" = some false := by decide +kernel
abbrev sAl : Stmt := top 36
theorem scAl : FnScope ["_law_found", "_law_due", "_law_k"] ["_law_found", "_law_due"] (defScope sAl) := ⟨rfl, rfl, rfl, by decide +kernel, rfl, by decide +kernel, by decide +kernel⟩
section
variable {P : Program} {w : World} {K : PySem.W.Frag} {mg : Str → Option Value} {base : Heap} {T : List (Addr × Str)}
theorem ok_al {f : Addr} {fd : FuncData} (D : Df K mg "_law_alike" sAl ["_law_found", "_law_due"] f fd) (B : Bl mg) : ∀ n : Nat, FnOk P w K mg base CX0 (n + 1) f fd ["_law_found", "_law_due"] (spAl K T n)
  | 0 => by
    refine D.F.ok scAl (fun vs H Q E h => h.elim) (fun cdv A outer s H vs Q E hr h => h.elim)
  | n + 1 => by
    have GA : FnOk P w K mg base CX0 (n + 1) f fd ["_law_found", "_law_due"] (spAl K T n) := ok_al D B n
    refine D.F.ok scAl (fun vs H Q E h => ?_) (fun cdv A outer s H vs Q E hr h => ?_)
    · obtain ⟨x, y, d, rfl, _⟩ := h
      rfl
    · obtain ⟨x, y, d, rfl, hx, hy, hd, hT, k⟩ := h
      have nd := scAl.nd
      have isi : ∀ (i : Nat) (nm : String) {p1 p2 p3 : Pos}, True := fun _ _ _ _ _ => trivial
      refine ⟨_, pss_cons (ps_if (pt_val (pe_callB call_isiTb (by rfl) B.isi boot_isi (pa_cons (pv 1) (pa_cons (pe_tup (pa_cons (pe_bltn (v := .ty "tuple") (by rfl) B.tuple boot_tuple rfl) (pa_cons (pe_bltn (v := .ty "list") (by rfl) B.list boot_list rfl) pa_nil))) pa_nil))))
          (pss_cons (ps_if (PW.pt (pw_or (pt_not (pt_val (pe_callB call_isiTb (by rfl) B.isi boot_isi (pa_cons (pv 0) (pa_cons (pe_tup (pa_cons (pe_bltn (v := .ty "tuple") (by rfl) B.tuple boot_tuple rfl) (pa_cons (pe_bltn (v := .ty "list") (by rfl) B.list boot_list rfl) pa_nil))) pa_nil)))))
              (pw_or1 (pt_cmpR op_ne (pe_callB (isiK K rfl) (by rfl) B.isi boot_isi (pa_cons (pv 0) (pa_cons (pe_bltn (v := .ty "list") (by rfl) B.list boot_list rfl) pa_nil))) (pe_callB (isiK K rfl) (by rfl) B.isi boot_isi (pa_cons (pv 1) (pa_cons (pe_bltn (v := .ty "list") (by rfl) B.list boot_list rfl) pa_nil))) (nomark _))))) (pss_one (ps_ret pe_bl)) pss_nil)
          (pss_cons (ps_if (pt_cmp (pc_neI (pe_callB (lenK K rfl) (by rfl) B.len PySem.boot_len (pa_cons (pv 0) pa_nil)) (pe_callB (lenK K rfl) (by rfl) B.len PySem.boot_len (pa_cons (pv 1) pa_nil)))) (pss_one (ps_ret pe_bl)) pss_nil)
          (pss_one (ps_ret (pe_cmpR (op_eqS hr.units) (pe_lc (own := [("_law_k", 2)]) (g := gName 2) rfl nd (pi_range1 (by rfl) B.range (pa_cons (pe_callB (lenK K rfl) (by rfl) B.len PySem.boot_len (pa_cons (pv 1) pa_nil)) pa_nil)) (blkOk_by (N := ["_law_found", "_law_due", "_law_k"]) (sc := defScope sAl) (by decide +kernel)) (fun _ _ _ _ _ => pg_name (i := 2) nd rfl (Or.inl rfl))
            (fun _ _ _ _ _ => pts_one (pt_not (pt_val (pe_call GA hr (by rfl) D.g D.kp D.b .nil pass0 (pa_cons (pe_ix (ixT K rfl) (pv 0) (pv 2) (fun _ _ => rfl)) (pa_cons (pe_ix (ixT K rfl) (pv 1) (pv 2) (fun _ _ => rfl)) pa_nil))))))
            (fun _ _ _ _ _ => pv 2)) (pe_lst pa_nil) (nomark _)))))) pss_nil)
        (pss_cons (ps_if (PW.pt (pw_or (pt_cmpR op_isN (pv 1) pe_non (nomark _)) (pw_or1 (pt_val (pe_callB (isiK K rfl) (by rfl) B.isi boot_isi (pa_cons (pv 1) (pa_cons (pe_bltn (v := .ty "str") (by rfl) B.str boot_str rfl) pa_nil)))))))
          (pss_one (ps_ret (pe_and (pe_cmpR op_eq (pv 0) (pv 1) (nomark _)) (pe_one (pe_cmpR op_eq (pe_callB (isiK K rfl) (by rfl) B.isi boot_isi (pa_cons (pv 0) (pa_cons (pe_bltn (v := .ty "str") (by rfl) B.str boot_str rfl) pa_nil))) (pe_callB (isiK K rfl) (by rfl) B.isi boot_isi (pa_cons (pv 1) (pa_cons (pe_bltn (v := .ty "str") (by rfl) B.str boot_str rfl) pa_nil))) (nomark _)))))) pss_nil)
        (pss_one (ps_ret (pe_and (pe_callB (isiK K rfl) (by rfl) B.isi boot_isi (pa_cons (pv 0) (pa_cons (pe_bltn (v := .ty "int") (by rfl) B.int boot_int rfl) pa_nil)))
          (pe_and (pe_cmpR op_eq (pe_callB (isiK K rfl) (by rfl) B.isi boot_isi (pa_cons (pv 0) (pa_cons (pe_bltn (v := .ty "bool") (by rfl) B.bool boot_bool rfl) pa_nil))) (pe_callB (isiK K rfl) (by rfl) B.isi boot_isi (pa_cons (pv 1) (pa_cons (pe_bltn (v := .ty "bool") (by rfl) B.bool boot_bool rfl) pa_nil))) (nomark _))
            (pe_one (pe_cmpR op_eq (pv 0) (pv 1) (nomark _)))))))), ?_⟩
      clear isi
      cases d with
      | none => exact (show False by cases n <;> exact hd).elim
      | bool b => exact (show False by cases n <;> exact hd).elim
      | list ds => exact (show False by cases n <;> exact hd).elim
      | dict ds => exact (show False by cases n <;> exact hd).elim
      | int i =>
        cases hx
        cases hy
        refine ⟨_, rfl, by show 2 ≤ _; decide, fun q hq => ⟨_, q, "int", false, false, rfl, upd_same, TyX.int i, k_it, k_il, _, rfl, iteF ?_⟩⟩
        have e1 := extN_new (o := .tup [.ty "tuple", .ty "list"]) hq
        have t1 := tabs_new (o := .tup [.ty "tuple", .ty "list"]) hT hq
        refine ⟨_, rfl, rfl, _, rfl, iteF ⟨_, rfl, _, "str", "int", false, rfl, TyX.int i, k_is, _, rfl, iteF ?_⟩⟩
        refine ⟨_, rfl, _, "int", "int", true, rfl, TyX.int i, k_ii, true, rfl, iteT ⟨_, rfl, _, "bool", "int", false, rfl, TyX.int i, k_ib, _, rfl, _, "bool", "int", false, rfl, TyX.int i, k_ib, rfl, true, rfl, iteT ⟨_, rfl, _, rfl, rfl, ?_⟩⟩⟩
        rw [decide_eq_true rfl]
        exact k _ e1 t1
      | str z =>
        cases hx
        cases hy
        refine ⟨_, rfl, by show 2 ≤ _; decide, fun q hq => ⟨_, q, "str", false, false, rfl, upd_same, TyX.str z, k_st, k_sl, _, rfl, iteF ?_⟩⟩
        have e1 := extN_new (o := .tup [.ty "tuple", .ty "list"]) hq
        have t1 := tabs_new (o := .tup [.ty "tuple", .ty "list"]) hT hq
        refine ⟨_, rfl, rfl, _, rfl, iteF ⟨_, rfl, _, "str", "str", true, rfl, TyX.str z, k_ss, _, rfl, iteT ?_⟩⟩
        refine ⟨_, rfl, _, rfl, rfl, true, congrArg V.bl (decide_eq_true rfl), iteT ⟨_, rfl, _, "str", "str", true, rfl, TyX.str z, k_ss, _, rfl, _, "str", "str", true, rfl, TyX.str z, k_ss, rfl, ?_⟩⟩
        exact k _ e1 t1
      | tuple ds =>
        obtain ⟨m, rfl⟩ : ∃ m, n = m + 1 := by
          cases n with
          | zero => exact (show False from hd).elim
          | succ m => exact ⟨m, rfl⟩
        have hd : ds.length ≤ 16777000 ∧ ∀ d ∈ ds, Fl m d := hd
        cases hx with
        | @tup a xs _ ha hxs =>
        cases hy with
        | @tup b ys _ hb hys =>
        have lx := dpAll_len hxs
        have ly := dpAll_len hys
        refine ⟨_, rfl, by show 2 ≤ _; decide, fun q hq => ⟨_, q, "tuple", true, false, rfl, upd_same, TyX.sqT (sqT_upd hq hb), k_tt, k_tl, _, rfl, iteT ?_⟩⟩
        have e1 := extN_new (o := .tup [.ty "tuple", .ty "list"]) hq
        have t1 := tabs_new (o := .tup [.ty "tuple", .ty "list"]) hT hq
        generalize upd H q (.tup [.ty "tuple", .ty "list"]) = H1 at e1 t1 ⊢
        refine ⟨_, rfl, by show 2 ≤ _; decide, fun q2 hq2 => ⟨_, q2, "tuple", true, false, rfl, upd_same, TyX.sqT (sqT_upd hq2 (sqT_ext e1 ha)), k_tt, k_tl, _, rfl, iteF ?_⟩⟩
        have e2 := extN_upd (o := .tup [.ty "tuple", .ty "list"]) e1 (Nw.ext e1 hq2)
        have t2 := tabs_new (o := .tup [.ty "tuple", .ty "list"]) t1 hq2
        generalize upd H1 q2 (.tup [.ty "tuple", .ty "list"]) = H2 at e2 t2 ⊢
        have ha2 := sqT_ext e2 ha
        have hb2 := sqT_ext e2 hb
        refine ⟨_, rfl, _, "list", "tuple", false, rfl, TyX.sqT ha2, k_tl, _, rfl, _, "list", "tuple", false, rfl, TyX.sqT hb2, k_tl, rfl, _, rfl, iteF ?_⟩
        refine ⟨_, rfl, a, xs, rfl, .inr ha2, _, rfl, b, ys, rfl, .inr hb2, _, _, rfl, rfl, _, rfl, iteOf (b := false) ?_ (iteF ?_)⟩
        · show (!decide (((xs.length : Nat) : Int) = ((ys.length : Nat) : Int))) = false
          rw [lx, ly, decide_eq_true rfl]
          rfl
        refine ⟨_, rfl, b, ys, rfl, .inr hb2, _, rfl, by omega, by omega, fun L hL => ?_⟩
        refine lc_range (lo := 0) (n := ys.length) (fun i H' => ExtN H H' ∧ Tabs T H' ∧ H' L = some (.lst [])) ⟨extN_upd e2 (Nw.ext e2 hL), tabs_new t2 hL, upd_same⟩ ?_ ?_
        · rintro i H' hi ⟨e3, t3, h3⟩
          have hdi : ds[i]? = some (ds[i]'(by omega)) := List.getElem?_eq_getElem _
          obtain ⟨x, hx1, hx2⟩ := dpAll_get hxs hdi
          obtain ⟨y, hy1, hy2⟩ := dpAll_get hys hdi
          refine ⟨rfl, ?_⟩
          refine ⟨_, rfl, _, rfl, a, xs, (0 + (i : Int)), x, rfl, rfl, sqT_ext e3 ha, ?_, _, rfl, _, rfl, b, ys, (0 + (i : Int)), y, rfl, rfl, sqT_ext e3 hb, ?_, x, y, _, rfl, Dp.ext e3 _ hx2, Dp.ext e3 _ hy2, hd.2 _ (List.mem_of_getElem? hdi), t3, fun H4 e4 t4 => ⟨true, rfl, iteF ⟨e3.trans e4, t4, e4 _ _ h3 (lst_ne _)⟩⟩⟩
          · rw [Int.zero_add]; exact atI_nat hx1
          · rw [Int.zero_add]; exact atI_nat hy1
        · rintro H' ⟨e3, t3, h3⟩
          refine ⟨Nat.zero_le _, fun q3 hq3 => ⟨L, q3, [], [], rfl, rfl, SqL.of (upd_lst hq3 h3), SqL.of upd_same, fun w hw => (by cases hw), fun w hw => (by cases hw), ?_⟩⟩
          rw [decide_eq_true rfl]
          exact k _ (extN_upd e3 (Nw.ext e3 hq3)) (tabs_new t3 hq3)
end
end K60
set_option Elab.async false
set_option linter.all false
set_option maxRecDepth 100000
set_option maxHeartbeats 4000000
/-! set(a list of ints), set(a tuple of ints), sorted of these -/
namespace L2
open PySem PySem.Spec PyProof.Rows
section
variable {P : Program} {w : World} {A : Around} {E : Value → Shared → Prop} {s : Shared}
/-- the empty set that is laid first -/
abbrev noneIn (w : World) : Obj := { cls := .type "set", dict := none, data := .set #[] 0 (.fresh 0 0 (!w.params.followText "set-order")) }
/-- filling it from a list: what __init__ does -/
theorem init_list {B : Around} {l : Addr} {items : Array Value} (ns : List Int) (hh : B.handled = none) (hl : s.heap.IsList l items) (hit : IntsAre items.toList ns) (hb : ns.length + 1 < scanBound) {R : Result → Shared → Prop}
    (h : ∀ (h' : Heap) (tk c : Nat), SetR w h' s.heap.objs.size (fun j => decide (j ∈ ns)) c → c ≤ ns.length → (∀ b o, s.heap.get? b = some o → h'.get? b = some o) → R (.ok (.ret .none)) { s with heap := h', toks := tk }) :
    codeAny (model P w) B (.builtin "set.update.loop" ⟨[.ref s.heap.objs.size, .ref (s.heap.push (noneIn w)).objs.size], []⟩) R { s with heap := (s.heap.push (noneIn w)).push { cls := .type "list_iterator", data := .fields #[.ref l, .int 0 0] } } := by
  have hisz : items.size = ns.length := by
    have q := IntsAre.length hit
    rw [Array.length_toList] at q
    exact q
  have hS : (s.heap.push (noneIn w)).get? s.heap.objs.size = some (noneIn w) := Heap.get?_push_size _ rfl
  have hz1 : (s.heap.push (noneIn w)).objs.size = s.heap.objs.size + 1 := Heap.size_push ..
  obtain ⟨ol, hol, _⟩ := id hl
  have hlS : l < s.heap.objs.size := Heap.lt_size hol
  have hneI : l ≠ (s.heap.push (noneIn w)).objs.size := by rw [hz1]; exact Nat.ne_of_lt (Nat.lt_succ_of_lt hlS)
  have hSf : s.heap.objs.size ∉ [(s.heap.push (noneIn w)).objs.size, l] := by
    rw [hz1]
    simp only [List.mem_cons, List.mem_singleton, List.not_mem_nil, or_false, not_or]
    exact ⟨Nat.ne_of_lt (Nat.lt_succ_self _), Nat.ne_of_gt hlS⟩
  have hval : ∀ (i : Nat) (v : Value), items[i]? = some v → ∃ k t, ns[i]? = some k ∧ v = .int k t := fun i v hv => by
    have hi : i < ns.length := by rw [← hisz]; exact (Array.getElem?_eq_some_iff.mp hv).1
    obtain ⟨t, e⟩ := PyProof.Rows.IntsAre.int_at hit i v (by rw [Array.getElem?_toList]; exact hv)
    refine ⟨ns[i], t, List.getElem?_eq_getElem hi, ?_⟩
    rw [e, List.getD_eq_getElem?_getD, List.getElem?_eq_getElem hi]
    rfl
  refine set_update_ints ((Walks.list (by simp [hh]) (s.heap.push (noneIn w)).objs.size l hneI items).toS) s.heap.objs.size hSf ns hisz hb hval (items.size - 0) 0 _ (by omega) (Nat.zero_le _) ⟨?_, ?_⟩ ⟨0, Nat.le_refl 0, setR_new_at (Heap.get?_push_of_some _ hS)⟩ ?_
  · exact ⟨_, Heap.get?_push_size _ rfl, rfl, rfl⟩
  · exact (hl.push _).push _
  · intro s' c' hm hc' hS'
    obtain ⟨h', g2, d', tk', os'⟩ := s'
    have eg : g2 = s.gens := hm.gens
    have ed : d' = s.drawn := hm.drawn
    have eo : os' = s.os := hm.os
    subst eg; subst ed; subst eo
    rw [hisz] at hc'
    refine h h' tk' c' hS' hc' fun b o e => ?_
    have hb0 : b < s.heap.objs.size := Heap.lt_size e
    exact hm.heap b o (by rw [hz1]; simp only [List.mem_cons, List.mem_singleton, List.not_mem_nil, or_false, not_or]; exact ⟨Nat.ne_of_lt hb0, Nat.ne_of_lt (Nat.lt_succ_of_lt hb0)⟩) (Heap.get?_push_of_some _ (Heap.get?_push_of_some _ e))
set_option maxHeartbeats 6400000 in
theorem set_of_list {l : Addr} {items : Array Value} (ns : List Int) {Q : Value → Shared → Prop} (hh : A.handled = none) (hl : s.heap.IsList l items) (hit : IntsAre items.toList ns) (hb : ns.length + 1 < scanBound)
    (h : ∀ (h' : Heap) (tk c : Nat), SetR w h' s.heap.objs.size (fun j => decide (j ∈ ns)) c → c ≤ ns.length → (∀ b o, s.heap.get? b = some o → h'.get? b = some o) → Q (.ref s.heap.objs.size) { s with heap := h', toks := tk }) :
    wpAny (model P w) A (call (.type "set") [.ref l]) Q E s := by
  obtain ⟨c, tl, hmro⟩ := F.called_set.mro
  have hmade := F.called_set.made
  have hsub := F.called_set.sub
  refine wpAny_call (codeAny_of_tree ?_)
  show wpAny _ _ (callAny (.type "set") _) _ _ _
  refine wpAny_pure ⟨Code.quiet_builtin _ (by decide +kernel), codeAny_builtin F.entry_type_call ?_⟩
  rw [Around.under_plain (weight_type_call_type "set" [.ref l] []) rfl]
  have h1 := F.called_set.notType
  have h2 := F.called_set.canCreate
  have hct := F.typeCall_set_1 (.ref l)
  repeat (any_goals (first | assumption | wp_step))
  refine codeAny_mono (code_set_led1 (.ref l) (E := E) (Q₁ := fun obj s₁ => obj = .ref s.heap.objs.size ∧ s₁ = { s with heap := s.heap.push (noneIn w) }) ⟨rfl, rfl⟩) fun r s₁ hr => ?_
  match r, hr with
  | .error e, hr => exact hr
  | .ok (.ret obj), hr =>
    obtain ⟨rfl, rfl⟩ := hr
    have hS : (s.heap.push (noneIn w)).get? s.heap.objs.size = some (noneIn w) := Heap.get?_push_size _ rfl
    have hT : Shared.TypeIs { s with heap := s.heap.push (noneIn w) } (.ref s.heap.objs.size) "set" := ⟨_, hS, rfl⟩
    have hli := F.called_set.init.lookup
    have hbi := F.called_set.init.bind (.ref s.heap.objs.size)
    repeat (any_goals (first | assumption | wp_step))
    refine codeAny_mono (codeAny_call_builtin (R := wants (fun r s₂ => r = .none ∧ ∃ h' tk c, s₂ = { s with heap := h', toks := tk } ∧ SetR w h' s.heap.objs.size (fun j => decide (j ∈ ns)) c ∧ c ≤ ns.length ∧
        (∀ b o, s.heap.get? b = some o → h'.get? b = some o)) E) F.called_set.init.plain F.entry_set_init (check_set_init_1 hT ?_)) fun r₂ s₂ hr₂ => ?_
    · have hl1 : (s.heap.push (noneIn w)).IsList l items := hl.push _
      obtain ⟨ol, hol', hcl, nl, hdl⟩ := id hl1
      obtain ⟨ocls, odict, odata, oslots⟩ := ol
      simp only at hcl hdl
      subst hcl; subst hdl
      have hsls := F.sub_list_set
      have hslf := F.sub_list_frozenset
      have hne : (Value.type "list" == Value.type "dict") = false := by decide
      unfold Builtin.«set.__init__» noKeywords Builtin.Frozenset.updateFrom
      generalize hPI : pyIter = PI
      wp_walk
      subst hPI
      refine wpAny_pyIter_list hl1 ?_
      refine wpAny_bind (wpAny_runValue ?_)
      refine init_list ns (by simp [hh]) hl hit hb fun h' tk c hS' hc' hk' => ?_
      show wpAny _ _ _ _ _ _
      refine wpAny_pure ?_
      show wpAny _ _ (ret Value.none) _ _ _
      exact wpAny_pure ⟨rfl, h', tk, c, rfl, hS', hc', hk'⟩
    · match r₂, hr₂ with
      | .error e, hr₂ => exact hr₂
      | .ok (.ret r), hr₂ =>
        obtain ⟨rfl, h', tk, c', rfl, hS', hc', hk'⟩ := hr₂
        repeat (any_goals (first | assumption | wp_step))
        exact h _ _ _ hS' hc' hk'
end
/-- set(ns), ns a tuple or a list of ints -/
def rSetI (K : PySem.W.Frag) (w : World) : List V → Hp → VK → Prop := fun vs H Q => ∃ (p : Addr) (ns : List Int), vs = [V.ref p] ∧ (SqT K H p (ns.map V.int) ∨ SqL K H p (ns.map V.int)) ∧ ns.length ≤ 1000 ∧
  ∀ a n, H a = none → n ≤ ns.length → (ns.Nodup → n = ns.length) → (∀ m : Nat, (∀ k ∈ ns, 0 ≤ k ∧ k < (m : Int)) → n ≤ m) → Q (.ref a) (upd H a (SetO w a (fun j => decide (j ∈ ns)) n))
theorem nodup_len {α : Type} [DecidableEq α] : ∀ {l m : List α}, l.Nodup → (∀ x ∈ l, x ∈ m) → l.length ≤ m.length
  | [], m, _, _ => Nat.zero_le _
  | x :: l, m, hn, hm => by
    have hn' := List.nodup_cons.mp hn
    have hx := hm x List.mem_cons_self
    have ih := nodup_len (l := l) (m := m.erase x) hn'.2 fun y hy => by
      have hne : y ≠ x := fun e => hn'.1 (e ▸ hy)
      exact (List.mem_erase_of_ne hne).mpr (hm y (List.mem_cons_of_mem _ hy))
    rw [List.length_erase_of_mem hx] at ih
    have : 0 < m.length := List.length_pos_of_mem hx
    rw [List.length_cons]
    omega
theorem setR_le {w : World} {h : Heap} {a : Addr} {ns : List Int} {n m : Nat} (R : SetR w h a (fun j => decide (j ∈ ns)) n) (hm : ∀ k ∈ ns, 0 ≤ k ∧ k < (m : Int)) : n ≤ m := by
  obtain ⟨o, es, ep, t, _, _, _, _, nd, hmem, _, _, hn, _⟩ := R
  have h1 : (es.toList.map keyOf).length ≤ ((List.range m).map fun i : Nat => (i : Int)).length := nodup_len nd fun k hk => by
    have h2 := of_decide_eq_true ((hmem k).mpr hk)
    obtain ⟨h3, h4⟩ := hm k h2
    exact List.mem_map.mpr ⟨k.toNat, List.mem_range.mpr (by omega), by omega⟩
  rw [List.length_map, List.length_map, List.length_range, Array.length_toList, hn] at h1
  exact h1
theorem setR_eq {w : World} {h : Heap} {a : Addr} {ns : List Int} {n : Nat} (R : SetR w h a (fun j => decide (j ∈ ns)) n) (hd : ns.Nodup) : n = ns.length := by
  obtain ⟨o, es, ep, t, _, _, _, _, nd, hmem, _, _, hn, _⟩ := R
  have h1 : (es.toList.map keyOf).length ≤ ns.length := nodup_len nd fun k hk => of_decide_eq_true ((hmem k).mpr hk)
  have h2 : ns.length ≤ (es.toList.map keyOf).length := nodup_len hd fun k hk => (hmem k).mp (decide_eq_true hk)
  have e : es.toList.length = n := by rw [Array.length_toList]; exact hn
  rw [List.length_map, e] at h1 h2
  omega
section
variable {X : Cx}
theorem cr_setI (hc : X.calm = true) : CallR X (.type "set") (rSetI X.K X.w) := by
  intro pins s σ H xs us Q I r h
  obtain ⟨p, ns, rfl, hs, hl, q⟩ := h
  obtain rfl := Vals.ref1 r
  have hd := I.ok.hd hc
  have hn : H s.heap.objs.size = none := I.hok.fresh (Nat.le_refl _)
  have fin : ∀ (h' : Heap) (tk c : Nat), SetR X.w h' s.heap.objs.size (fun j => decide (j ∈ ns)) c → c ≤ ns.length → (∀ b o, s.heap.get? b = some o → h'.get? b = some o) → EP X pins σ Q (.ref s.heap.objs.size) { s with heap := h', toks := tk } := fun h' tk c R hcn k =>
    ⟨.ref _, upd H s.heap.objs.size (SetO X.w s.heap.objs.size (fun j => decide (j ∈ ns)) c), I.laid (t' := tk) k (Nat.le_refl _) (setO_new R), rfl, q _ c hn hcn (fun z => setR_eq R z) fun m hm => setR_le (m := m) R hm⟩
  rcases hs with hs | hs
  · obtain ⟨its, rv, pt, hz⟩ := I.tuple hs
    exact call_set_tupI ns hd (show s.heap.IsTuple p its.toArray from pt) (ints_of_vals rv) (by unfold scanBound; omega) fin
  · obtain ⟨its, rv, pt, hz⟩ := I.list hs
    exact set_of_list ns hd (show s.heap.IsList p its.toArray from pt.isList) (ints_of_vals rv) (by unfold scanBound; omega) fin
end
end L2
set_option Elab.async false
set_option linter.all false
set_option maxRecDepth 100000
set_option maxHeartbeats 4000000
/-! law: read_house -/
namespace K60
open PySem PySem.Spec PyProof.Rows L2 Gx RZ TL
open LamX (TabB Tabs TabS CodeO ExtN)
/-! ### lists of numbers -/
def dIl (ns : List Int) : PyData := .list (ns.map PyData.int)
theorem dp_ints {K : PySem.W.Frag} {H : Hp} : ∀ ns : List Int, DpAll K H (ns.map V.int) (ns.map PyData.int)
  | [] => .nil
  | n :: r => .cons (.int n) (dp_ints r)
theorem eqvAll_ints : ∀ a b : List Int, PyData.eqvAll (a.map PyData.int) (b.map PyData.int) = decide (a = b)
  | [], [] => by simp [PyData.eqvAll]
  | [], _ :: _ => by simp [PyData.eqvAll]
  | _ :: _, [] => by simp [PyData.eqvAll]
  | x :: a, y :: b => by
    rw [List.map_cons, List.map_cons]
    simp only [PyData.eqvAll, PyData.eqv, eqvAll_ints a b]
    by_cases h1 : x = y
    · subst h1
      simp
    · simp [h1]
theorem eqv_dIl (a b : List Int) : PyData.eqv (dIl a) (dIl b) = decide (a = b) := by
  unfold dIl
  simp only [PyData.eqv]
  exact eqvAll_ints a b
theorem sh_dIl (ns : List Int) : Sh 1 (dIl ns) := sh_lst (k := 0) fun d hd => by
  obtain ⟨n, _, rfl⟩ := List.mem_map.mp hd
  exact sh_int _
def rNeIL (K : PySem.W.Frag) : R2 := fun x y H Q => ∃ (a b : Addr) (ns ms : List Int), x = .ref a ∧ y = .ref b ∧ SqL K H a (ns.map V.int) ∧ SqL K H b (ms.map V.int) ∧ Q (.bl (!decide (ns = ms))) H
def rEqIL (K : PySem.W.Frag) : R2 := fun x y H Q => ∃ (a b : Addr) (ns ms : List Int), x = .ref a ∧ y = .ref b ∧ SqL K H a (ns.map V.int) ∧ SqL K H b (ms.map V.int) ∧ Q (.bl (decide (ns = ms))) H
theorem op_neIL {X : Cx} (hu : X.A.units + 64 < cLine) : OpR X (compareOp .NotEq) (rNeIL X.K) := opr_mono (op_neD hu) fun x y H Q h => by
  obtain ⟨a, b, ns, ms, rfl, rfl, ha, hb, q⟩ := h
  exact ⟨dIl ns, dIl ms, .lst ha (dp_ints ns), .lst hb (dp_ints ms), (sh_dIl ns).ok, (sh_dIl ms).ok, by rw [eqv_dIl]; exact q⟩
theorem op_eqIL {X : Cx} (hu : X.A.units + 64 < cLine) : OpR X (compareOp .Eq) (rEqIL X.K) := opr_mono (op_eqD hu) fun x y H Q h => by
  obtain ⟨a, b, ns, ms, rfl, rfl, ha, hb, q⟩ := h
  exact ⟨dIl ns, dIl ms, .lst ha (dp_ints ns), .lst hb (dp_ints ms), (sh_dIl ns).ok, (sh_dIl ms).ok, by rw [eqv_dIl]; exact q⟩
theorem asc_uniq : ∀ {l m : List Int}, l.Pairwise (· < ·) → m.Pairwise (· < ·) → (∀ k, k ∈ l ↔ k ∈ m) → l = m
  | [], [], _, _, _ => rfl
  | [], y :: m, _, _, h => absurd ((h y).mpr List.mem_cons_self) (by simp)
  | x :: l, [], _, _, h => absurd ((h x).mp List.mem_cons_self) (by simp)
  | x :: l, y :: m, hl, hm, h => by
    have h1 := List.pairwise_cons.mp hl
    have h2 := List.pairwise_cons.mp hm
    have e : x = y := by
      rcases List.mem_cons.mp ((h x).mp List.mem_cons_self) with e | e
      · exact e
      · rcases List.mem_cons.mp ((h y).mpr List.mem_cons_self) with e2 | e2
        · exact e2.symm
        · have a := h2.1 x e
          have b := h1.1 y e2
          omega
    subst e
    rw [asc_uniq h1.2 h2.2 fun k => ?_]
    constructor
    · intro hk
      rcases List.mem_cons.mp ((h k).mp (List.mem_cons_of_mem _ hk)) with e | e
      · have := h1.1 k hk
        omega
      · exact e
    · intro hk
      rcases List.mem_cons.mp ((h k).mpr (List.mem_cons_of_mem _ hk)) with e | e
      · have := h2.1 k hk
        omega
      · exact e
def ascN (r : List Nat) : Bool := (r.zip r.tail).all fun p => decide (p.1 < p.2)
theorem ascN_pw : ∀ r : List Nat, ascN r = true ↔ r.Pairwise (· < ·)
  | [] => ⟨fun _ => .nil, fun _ => rfl⟩
  | [a] => ⟨fun _ => List.pairwise_singleton _ _, fun _ => rfl⟩
  | a :: b :: l => by
    have ih := ascN_pw (b :: l)
    have e : ascN (a :: b :: l) = (decide (a < b) && ascN (b :: l)) := rfl
    rw [e, Bool.and_eq_true, ih, decide_eq_true_eq]
    constructor
    · rintro ⟨ab, p⟩
      refine List.pairwise_cons.mpr ⟨fun c hc => ?_, p⟩
      rcases List.mem_cons.mp hc with e | e
      · rw [e]; exact ab
      · exact Nat.lt_trans ab ((List.pairwise_cons.mp p).1 c e)
    · intro p
      have q := List.pairwise_cons.mp p
      exact ⟨q.1 b List.mem_cons_self, q.2⟩
theorem pw_int {r : List Nat} : (r.map fun n : Nat => (n : Int)).Pairwise (· < ·) ↔ r.Pairwise (· < ·) := by
  rw [List.pairwise_map]
  constructor <;> intro h <;> exact h.imp (fun h => by omega)
/-- sorted(set(r)) == r -/
theorem sorted_asc {r : List Nat} {ns : List Int} (h1 : ns.Pairwise (· < ·)) (h2 : ∀ k : Int, k ∈ ns ↔ (decide (k ∈ r.map fun n : Nat => (n : Int))) = true) : decide (ns = r.map fun n : Nat => (n : Int)) = ascN r := by
  by_cases c : ascN r = true
  · rw [c]
    refine decide_eq_true (asc_uniq h1 (pw_int.mpr ((ascN_pw r).mp c)) fun k => ?_)
    rw [h2, decide_eq_true_eq]
  · rw [Bool.eq_false_iff.mpr c]
    refine decide_eq_false fun e => c ((ascN_pw r).mpr (pw_int.mp ?_))
    rw [← e]
    exact h1
theorem mapNv (r : List Nat) : r.map nv = (r.map fun n : Nat => (n : Int)).map V.int := by rw [List.map_map]; rfl
theorem lotN_last {n : Nat} {r : List Nat} {z : Nat} (hz : r.getLast? = some z) (ha : ascN r = true) : lotN n r = decide (z < n) := by
  have hp := (ascN_pw r).mp ha
  have e : lotN n r = ((r.all fun m => decide (m < n)) && ascN r) := rfl
  rw [e, ha, Bool.and_true]
  by_cases c : z < n
  · rw [decide_eq_true c]
    refine List.all_eq_true.mpr fun m hm => decide_eq_true ?_
    have hne : r ≠ [] := by intro e; rw [e] at hz; cases hz
    obtain ⟨ys, hy⟩ : ∃ ys, r = ys ++ [z] := ⟨r.dropLast, by rw [List.getLast?_eq_getLast hne] at hz; rw [← Option.some.inj hz, List.dropLast_concat_getLast hne]⟩
    rw [hy] at hm hp
    rcases List.mem_append.mp hm with h | h
    · have := (List.pairwise_append.mp hp).2.2 m h z (by simp)
      omega
    · rw [List.mem_singleton.mp h]; exact c
  · rw [decide_eq_false c, List.all_eq_false]
    exact ⟨z, List.mem_of_getLast? hz, by simpa using c⟩
/-! ### what the law's readers give -/
def LineV (K : PySem.W.Frag) (H : Hp) (v : V) (n : Nat) : Prop := ∃ a, v = .ref a ∧ SqT K H a [tv (cs "line"), nv n]
def Got {α : Type} (K : PySem.W.Frag) (H : Hp) (v : V) (r : Except Nat α) (k : α → Prop) : Prop := match r with
  | .error n => LineV K H v n
  | .ok x => k x
/-- lines that are not long -/
def Sm (o : Option Codes) : Prop := ∀ l, o = some l → ∀ p ∈ cut1 10 l, p.length ≤ 900
theorem lines_sm {o : Option Codes} {ls : List Codes} (hs : Sm o) (h : linesOf o = .ok ls) : ∀ l ∈ ls, l.length ≤ 900 := by
  cases o with
  | none => cases h
  | some l =>
    have e := lines_in h
    subst e
    exact fun p hp => hs l rfl p (List.dropLast_subset _ hp)
theorem setK (K : PySem.W.Frag) (w : World) {X : Cx} (hK : X.K = K) (hw : X.w = w) (hc : X.calm = true) : CallR X (.type "set") (rSetI K w) := by
  subst hK hw
  exact cr_setI hc
theorem sortK (w : World) {X : Cx} (hw : X.w = w) (hc : X.calm = true) : CallR X (.builtin "sorted") (rSortedSet w) := by
  subst hw
  exact cr_sortedSet hc
/-! ### _law_read_house -/
abbrev sLReadH : Stmt := top 46
theorem scLReadH : FnScope ["_law_text", "_law_lines_here", "_law_found", "_law_at", "_law_words_here", "_law_sights"] ["_law_text"] (defScope sLReadH) := ⟨rfl, rfl, rfl, by decide +kernel, rfl, by decide +kernel, by decide +kernel⟩
def spLReadH (K : PySem.W.Frag) (T : List (Addr × Str)) : Sp := fun vs H Q _ => ∃ (v : V) (o : Option Codes), vs = [v] ∧ TxV v o ∧ Fine o ∧ Sm o ∧ Tabs T H ∧ ∀ v' H', ExtN H H' → Tabs T H' → Got K H' v' (readH o) (fun hs => TupR K H' v' hs) → Q v' H'
theorem line_tv (n : Nat) : [V.str (Str.ofString "line"), nv n] = [tv (cs "line"), nv n] := by rw [lit_tv]
theorem eqv_dI_nilB (r : List Nat) : PyData.eqv (dI r) (.tuple []) = decide (r = []) := by
  cases r with
  | nil => simp [dI, PyData.eqv, PyData.eqvAll]
  | cons n r => simp [dI, PyData.eqv, PyData.eqvAll]
theorem figs_lt {m : Nat} {ws : List Codes} {r : List Nat} (h : figs m ws = some r) : r.length = ws.length ∧ ∀ n ∈ r, n ≤ m := by
  unfold figs at h
  split at h
  · rename_i h2
    cases h
    refine ⟨List.length_map _, fun n hn => ?_⟩
    obtain ⟨w, hw, rfl⟩ := List.mem_map.mp hn
    have h3 := List.all_eq_true.mp h2 w hw
    cases q : fig m w with
    | none => rw [q] at h3; cases h3
    | some k =>
      show k ≤ m
      match w, q with
      | [c], q =>
        have q : (if 48 ≤ c ∧ c ≤ 57 ∧ c - 48 ≤ m then some (c - 48) else none) = some k := q
        split at q
        · rename_i h4
          cases q
          exact h4.2.2
        · cases q
  · cases h
section
variable {P : Program} {w : World} {K : PySem.W.Frag} {mg : Str → Option Value} {base : Heap} {T : List (Addr × Str)}
theorem ok_lReadH {f fl fF : Addr} {fd fdl fdF : FuncData} (F : Fun K "_law_read_house" "_law_read_house" sLReadH f fd) (B : Bl mg) (Dl : Df K mg "_law_lines" sLLines ["_law_text", "_law_least"] fl fdl)
    (DF : Df K mg "_law_figures" sLFigs ["_law_words_here", "_law_most"] fF fdF) : FnOk P w K mg base CX0 2 f fd ["_law_text"] (spLReadH K T) := by
  have Gl' : FnOk P w K mg base CX0 1 fl fdl ["_law_text", "_law_least"] (spLLines T) := ok_llines Dl.F B
  have GF : FnOk P w K mg base CX0 1 fF fdF ["_law_words_here", "_law_most"] (spLFigs K T) := ok_lfigs DF.F B
  refine F.ok scLReadH (fun vs H Q E h => ?_) (fun cdv A outer s H vs Q E hr h => ?_)
  · obtain ⟨v, o, rfl, _⟩ := h
    rfl
  · obtain ⟨v, o, rfl, hv, hf, hsm, hT, k⟩ := h
    have nd := scLReadH.nd
    refine ⟨_, pss_cons (ps_par (i := 1) (j := 2) rfl nd rfl rfl (by decide) rfl rfl (pa_cons (pe_call Gl' hr (by rfl) Dl.g Dl.kp Dl.b .nil pass0 (pa_cons (pv 0) (pa_cons pe_int pa_nil))) (pa_cons (pe_lst pa_nil) pa_nil)) rfl)
      (pss_cons (ps_if (pt_val (pe_callB (isiK K rfl) (by rfl) B.isi boot_isi (pa_cons (pv 1) (pa_cons (pe_bltn (v := .ty "int") (by rfl) B.int boot_int rfl) pa_nil)))) (pss_one (ps_ret (pe_tup (pa_cons pe_str (pa_cons (pv 1) pa_nil))))) pss_nil)
      (pss_cons (ps_for PassesOwn.never rfl (pi_range1 (by rfl) B.range (pa_cons (pe_callB (lenK K rfl) (by rfl) B.len PySem.boot_len (pa_cons (pv 1) pa_nil)) pa_nil)) (pg_name (i := 3) nd rfl (Or.inl rfl))
        (pss_cons (ps_set (i := 4) nd rfl (Or.inl rfl) (pe_split (pe_ix (ixL K rfl) (pv 1) (pv 3) (fun _ _ => rfl)) pe_str))
        (pss_cons (ps_set (i := 5) nd rfl (Or.inl rfl) (pe_call GF hr (by rfl) DF.g DF.kp DF.b .nil pass0 (pa_cons (pe_slice sl_list (pv 4) (po_some pe_int) po_none) (pa_cons pe_int pa_nil))))
        (pss_cons (ps_if (PW.pt (pw_or (pt_cmpR (op_neS hr.units) (pe_slice sl_list (pv 4) po_none (po_some pe_int)) (pe_lst (pa_cons pe_str (pa_cons (pe_callTy (callStr K) (by rfl) B.str boot_str (pa_cons (pv 3) pa_nil)) (pa_cons pe_str (pa_cons pe_str pa_nil))))) (nomark _))
            (pw_or (pt_cmp (pc_gt (pv 3) pe_int)) (pw_or (pt_cmpR op_isN (pv 5) pe_non (nomark _)) (pw_or1 (pt_cmpR (op_eqD hr.units) (pv 5) (pe_tup pa_nil) (nomark _))))))) (pss_one (ps_ret (pe_tup (pa_cons pe_str (pa_cons (pv 3) pa_nil))))) pss_nil)
        (pss_cons (ps_if (PW.pt (pw_or (pt_cmpR (op_neIL hr.units) (pe_callB (sortK w rfl rfl) (by rfl) B.sorted boot_sorted (pa_cons (pe_callTy (setK K w rfl rfl rfl) (by rfl) B.set boot_set (pa_cons (pv 5) pa_nil)) pa_nil)) (pe_callTy call_list_of (by rfl) B.list boot_list (pa_cons (pv 5) pa_nil)) (nomark _))
            (pw_or1 (pt_cmp (pc_ge (pe_ix (ixT K rfl) (pv 5) (pe_un un_neg pe_int) (fun _ _ => rfl)) (pe_callB (lenK K rfl) (by rfl) B.len PySem.boot_len (pa_cons (pv 1) pa_nil))))))) (pss_one (ps_ret (pe_tup (pa_cons pe_str (pa_cons (pv 3) pa_nil))))) pss_nil)
        (pss_one (ps_expr (pe_bm PySem.F.plainAttrs_list PySem.F.slot_list_append PySem.F.type_list_append mt_append (pv 2) (pa_cons (pv 5) pa_nil)))))))))
      (pss_one (ps_ret (pe_callTy call_tuple_of (by rfl) B.tuple boot_tuple (pa_cons (pv 2) pa_nil)))))), ?_⟩
    refine ⟨_, rfl, v, o, 1, rfl, hv, hf, hT, fun lv H1 x1 t1 hlv => ?_⟩
    have hll := lawLines1 o
    refine ⟨Nat.zero_le _, fun D hD => ⟨_, _, rfl, ?_⟩⟩
    have nD : Nw H D := Nw.ext x1 hD
    have xD : ExtN H (upd H1 D (.lst [])) := extN_upd x1 nD
    have tD : Tabs T (upd H1 D (.lst [])) := tabs_new t1 hD
    -- a line told
    have told : ∀ H' n, ExtN H H' → Tabs T H' → readH o = .error n → ∀ q, H' q = none → Q (.ref q) (upd H' q (.tup [V.str (Str.ofString "line"), nv n])) := fun H' n e t hn q hq => by
      refine k _ _ (extN_upd e (Nw.ext e hq)) (tabs_new t hq) ?_
      rw [hn]
      exact ⟨q, rfl, by rw [← line_tv]; exact SqT.of upd_same⟩
    cases hls : linesOf o with
    | error n =>
      rw [hls] at hll
      rw [hll] at hlv
      cases hlv
      refine ⟨_, rfl, _, "int", "int", true, rfl, TyX.int _, k_ii, _, rfl, iteT ⟨_, rfl, by show 2 ≤ _; decide, told _ n xD tD (by unfold readH; rw [hls])⟩⟩
    | ok ls =>
    by_cases c0 : ls = []
    · rw [hls] at hll
      simp only [c0, if_true] at hll
      rw [hll] at hlv
      cases hlv
      refine ⟨_, rfl, _, "int", "int", true, rfl, TyX.int _, k_ii, _, rfl, iteT ⟨_, rfl, by show 2 ≤ _; decide, told _ 0 xD tD (by unfold readH; rw [hls]; simp only [c0, if_true])⟩⟩
    rw [hls] at hll
    simp only [c0, if_false] at hll
    rw [hll] at hlv
    obtain ⟨pl, rfl, npl, hpl⟩ := hlv
    obtain ⟨hlen, hls2⟩ := lines_fine hf hls
    have hsm2 := lines_sm hsm hls
    have pD : pl ≠ D := ne_of_none hpl hD
    have hpD : (upd H1 D (.lst [])) pl = some (.lst (ls.map tv)) := upd_lst hD hpl
    refine ⟨_, rfl, _, "int", "list", false, rfl, TyX.lst hpD, k_li, _, rfl, iteF ?_⟩
    let fn : Nat → Option (List Nat) := fun k => (ls[k]?).bind (rowH ls.length k)
    have eR2 : readH o = upto fn ls.length 0 := by
      unfold readH
      rw [hls]
      exact if_neg c0
    let EE : Hp → Prop := fun H' => ExtN H H' ∧ H' pl = some (.lst (ls.map tv))
    let R : Nat → V → Hp → Prop := fun j y H' => ∃ r, fn j = some r ∧ TupI K H' y r
    have ek : EK EE D := ⟨fun Ha Hb a e => ⟨a.1.trans e, e _ _ a.2 (lst_ne _)⟩, fun Ha o a => ⟨extN_upd a.1 nD, by rw [upd_ne pD]; exact a.2⟩⟩
    have kp : Kp R := fun j y Ha Hb e a => let ⟨r, h1, h2⟩ := a; ⟨r, h1, h2.exV e⟩
    have g0 : Gr EE T D R 0 (upd H1 D (.lst [])) := ⟨⟨xD, hpD⟩, tD, [], upd_same, rfl, fun j y z => by simp at z⟩
    refine ⟨_, rfl, pl, _, rfl, .inl (SqL.of hpD), _, rfl, by omega, by rw [List.length_map]; omega, ?_⟩
    rw [List.length_map, Int.toNat_natCast]
    refine for_range (lo := 0) (n := ls.length) (fun i σ H' => Gr EE T D R i H' ∧ ∃ v3 v4 v5, σ = [some v, some (.ref pl), some (.ref D), v3, v4, v5]) ⟨g0, none, none, none, rfl⟩ ?_ ?_
    · rintro i σ H' hi ⟨g, v3, v4, v5, rfl⟩
      have hln := List.getElem?_eq_getElem hi
      generalize ls[i] = line at hln
      have hin := List.mem_of_getElem? hln
      obtain ⟨hl1, hl2⟩ := hls2 line hin
      have hl3 := hsm2 line hin
      have z0 : (0 + (i : Int)) = ((i : Nat) : Int) := Int.zero_add _
      have aw : Asc (cut1 32 line) := cut_small hl2
      have lw := len_cut1 32 line
      -- line i told
      have bad : fn i = none → ∀ H', Gr EE T D R i H' → ∀ q, H' q = none → Q (.ref q) (upd H' q (.tup [V.str (Str.ofString "line"), .int (0 + (i : Int))])) := fun hn Ha ga q hq => by
        obtain ⟨acc, h1, h2, h3⟩ := ga.d
        obtain ⟨rs, k1, k2, k3⟩ := acc_ex (F := fun j y r => fn j = some r ∧ TupI K Ha y r) (acc := acc) (k := 0) (fun j y hy => by rw [Nat.zero_add]; exact h3 j y hy)
        have e := upto_err (f := fn) (xs := rs) (at_ := 0) (n := ls.length) (fun j r hr => (k3 j r hr).choose_spec.2.1) (by rw [k1, h2]; exact hi) (by rw [k1, h2, Nat.zero_add]; exact hn)
        rw [k1, h2, Nat.zero_add] at e
        rw [z0]
        exact told Ha i ga.e.1 ga.t (eR2.trans e) q hq
      have bind : fn i = rowH ls.length i line := by
        show (ls[i]?).bind (rowH ls.length i) = _
        rw [hln]
        rfl
      refine ⟨_, rfl, _, rfl, pl, _, _, tv line, rfl, rfl, SqL.of g.e.2, ?_, ⟨_, rfl⟩, mk line, mk [32], rfl, rfl, by decide +kernel, small (by rw [mk_len]; omega), fun pw hpw => ?_⟩
      · rw [z0]
        exact atI_nat (by rw [List.getElem?_map, hln]; rfl)
      rw [split_tv line 32 (by decide)]
      have g2 := g.new (o := .lst ((cut1 32 line).map tv)) ek kp hpw
      have hpw2 : upd H' pw (.lst ((cut1 32 line).map tv)) pw = some (.lst ((cut1 32 line).map tv)) := upd_same
      generalize upd H' pw (.lst ((cut1 32 line).map tv)) = H2 at g2 hpw2 ⊢
      refine ⟨_, rfl, 4, rfl, pw, (cut1 32 line).map tv, rfl, SqL.of hpw2, fun p1 hp1 => ?_⟩
      have hcut2 : cutV ((cut1 32 line).map tv) (some 4) none = ((cut1 32 line).drop 4).map tv := (cutV_drop _ 4).trans List.map_drop.symm
      rw [hcut2]
      have g3 := g2.new (o := .lst (((cut1 32 line).drop 4).map tv)) ek kp hp1
      refine ⟨p1, (cut1 32 line).drop 4, 6, rfl, SqL.of upd_same, by rw [List.length_drop]; omega, fun w hw => Nat.le_trans (cut_each (List.mem_of_mem_drop hw)) hl1, g3.t, fun sv H5 x5 t5 hsv => ?_⟩
      have g5 := g3.ext ek kp x5 t5
      have hpw5 : H5 pw = some (.lst ((cut1 32 line).map tv)) := x5 _ _ (upd_lst hp1 hpw2) (lst_ne _)
      refine ⟨_, rfl, 4, rfl, pw, (cut1 32 line).map tv, rfl, SqL.of hpw5, fun p2 hp2 => ?_⟩
      have hcut : cutV ((cut1 32 line).map tv) none (some 4) = ((cut1 32 line).take 4).map tv := (cutV_take _ 4).trans List.map_take.symm
      rw [hcut]
      have g6 := g5.new (o := .lst (((cut1 32 line).take 4).map tv)) ek kp hp2
      refine ⟨_, rfl, i, by rw [z0], by omega, by show 4 ≤ _; decide, fun p3 hp3 => ?_⟩
      have hhd : [V.str (Str.ofString "clerk"), tv (numL i), V.str (Str.ofString "looks"), V.str (Str.ofString "at")] = (headH i).map tv := by
        rw [← headH_tv, num_tv]
      rw [hhd]
      have g7 := g6.new (o := .lst ((headH i).map tv)) ek kp hp3
      refine ⟨p2, p3, (cut1 32 line).take 4, headH i, rfl, rfl, SqL.of (upd_lst hp3 upd_same), SqL.of upd_same, fun w hw => aw w (List.mem_of_mem_take hw), headH_asc (by omega), _, rfl, ?_⟩
      have e7 : ExV H5 (upd (upd H5 p2 (.lst (((cut1 32 line).take 4).map tv))) p3 (.lst ((headH i).map tv))) := (exV_new hp2).trans (exV_new hp3)
      have hsv := hsv.exV e7
      generalize (upd (upd H5 p2 (.lst (((cut1 32 line).take 4).map tv))) p3 (.lst ((headH i).map tv))) = H7 at g7 hsv ⊢
      by_cases c1 : (cut1 32 line).take 4 = headH i
      case neg =>
        exact iteOf (b := true) (by rw [decide_eq_false c1]; rfl) (iteT (iteT ⟨_, rfl, by show 2 ≤ _; decide, bad (bind.trans (rowH_none1 c1)) _ g7⟩))
      refine iteOf (b := false) (by rw [decide_eq_true c1]; rfl) (iteF ⟨_, rfl, _, _, rfl, rfl, _, rfl, ?_⟩)
      have hrow : ∀ r, figs 6 ((cut1 32 line).drop 4) = some r → fn i = if i < 7 ∧ r ≠ [] ∧ lotN ls.length r = true then some r else none := fun r hr => bind.trans (rowH_some c1 hr)
      by_cases c2 : 6 < 0 + (i : Int)
      · refine iteOf (decide_eq_true c2) (iteT (iteT ⟨_, rfl, by show 2 ≤ _; decide, bad ?_ _ g7⟩))
        cases h6 : figs 6 ((cut1 32 line).drop 4) with
        | none => exact bind.trans (rowH_none2 h6)
        | some r => exact (hrow r h6).trans (if_neg fun z => by omega)
      refine iteOf (decide_eq_false c2) (iteF ?_)
      cases h6 : figs 6 ((cut1 32 line).drop 4) with
      | none =>
        rw [h6] at hsv
        cases hsv
        exact ⟨_, rfl, rfl, _, rfl, iteT (iteT ⟨_, rfl, by show 2 ≤ _; decide, bad (bind.trans (rowH_none2 h6)) _ g7⟩)⟩
      | some r =>
        rw [h6] at hsv
        have hfn := hrow r h6
        obtain ⟨hrl, hr6⟩ := figs_lt h6
        obtain ⟨b, rfl, hb⟩ := hsv
        refine ⟨_, rfl, rfl, _, rfl, iteOf (decide_eq_false (fun z => by cases z)) (iteF ⟨_, rfl, Nat.zero_le _, fun q hq => ?_⟩)⟩
        have g8 := g7.new (o := .tup []) ek kp hq
        have hb8 := sqT_upd (o := .tup []) hq hb
        refine ⟨dI r, .tuple [], TupI.dp ⟨b, rfl, hb8⟩, .tup (SqT.of upd_same) .nil, (sh_dI r).ok, (sh_tup (k := 0) (by simp)).ok, _, rfl, ?_⟩
        generalize upd H7 q (.tup []) = H8 at g8 hb8 ⊢
        rw [eqv_dI_nilB]
        by_cases c3 : r = []
        · exact iteOf (decide_eq_true c3) (iteT ⟨_, rfl, by show 2 ≤ _; decide, bad (hfn.trans (if_neg fun z => z.2.1 c3)) _ g8⟩)
        refine iteOf (decide_eq_false c3) (iteF ?_)
        have hrl2 : r.length ≤ 1000 := by rw [hrl, List.length_drop]; omega
        refine ⟨_, rfl, b, r.map fun n : Nat => (n : Int), rfl, .inl (by rw [← mapNv]; exact hb8), by rw [List.length_map]; exact hrl2, fun a n ha hn _ hm => ?_⟩
        have g9 := g8.new (o := SetO w a (fun j => decide (j ∈ r.map fun n : Nat => (n : Int))) n) ek kp ha
        have hb9 := sqT_upd (o := SetO w a (fun j => decide (j ∈ r.map fun n : Nat => (n : Int))) n) ha hb8
        refine ⟨a, _, n, rfl, upd_same, Nat.lt_of_le_of_lt (hm 7 fun k hk => ?_) (by decide), fun ns p hp1 hp2 hp3 hp => ?_⟩
        · obtain ⟨m, hm, rfl⟩ := List.mem_map.mp hk
          have := hr6 m hm
          omega
        generalize upd H8 a (SetO w a (fun j => decide (j ∈ r.map fun n : Nat => (n : Int))) n) = H9 at g9 hb9 hp ⊢
        have g10 := g9.new (o := .lst (ns.map V.int)) ek kp hp
        have hb10 := sqT_upd (o := .lst (ns.map V.int)) hp hb9
        have hp10 : upd H9 p (.lst (ns.map V.int)) p = some (.lst (ns.map V.int)) := upd_same
        generalize upd H9 p (.lst (ns.map V.int)) = H10 at g10 hb10 hp10 ⊢
        refine ⟨_, rfl, b, _, rfl, .inr hb10, fun l hl => ?_⟩
        have g11 := g10.new (o := .lst (r.map nv)) ek kp hl
        have hb11 := sqT_upd (o := .lst (r.map nv)) hl hb10
        refine ⟨p, l, ns, r.map fun n : Nat => (n : Int), rfl, rfl, SqL.of (upd_lst hl hp10), SqL.of (by rw [upd_same, mapNv]), _, rfl, ?_⟩
        have hso := sorted_asc (r := r) hp1 hp2
        generalize upd H10 l (.lst (r.map nv)) = H11 at g11 hb11 ⊢
        rw [hso]
        by_cases c4 : ascN r = true
        case neg =>
          refine iteOf (b := true) (by rw [Bool.eq_false_iff.mpr c4]; rfl) (iteT (iteT ⟨_, rfl, by show 2 ≤ _; decide, bad (hfn.trans (if_neg fun z => c4 ?_)) _ g11⟩))
          have z2 := z.2.2
          have e : lotN ls.length r = ((r.all fun m => decide (m < ls.length)) && ascN r) := rfl
          rw [e, Bool.and_eq_true] at z2
          exact z2.2
        refine iteOf (b := false) (by rw [c4]; rfl) (iteF ?_)
        obtain ⟨z, hz⟩ : ∃ z, r.getLast? = some z := by
          cases h : r.getLast? with
          | none => exact absurd (List.getLast?_eq_none_iff.mp h) c3
          | some z => exact ⟨z, rfl⟩
        have hat : atI (r.map nv) (-1) = some (nv z) := by
          obtain ⟨ys, hy⟩ : ∃ ys, r = ys ++ [z] := ⟨r.dropLast, by rw [List.getLast?_eq_getLast c3] at hz; rw [← Option.some.inj hz, List.dropLast_concat_getLast c3]⟩
          rw [hy, List.map_append]
          exact atI_last _ _
        refine ⟨_, rfl, 1, rfl, b, _, -1, nv z, rfl, rfl, hb11, hat, _, rfl, pl, _, rfl, .inl (SqL.of g11.e.2), _, _, rfl, rfl, _, rfl, ?_⟩
        have hlot := lotN_last (n := ls.length) hz c4
        have e12 : decide ((((ls.map tv).length : Nat) : Int) ≤ (z : Int)) = !decide (z < ls.length) := by
          rw [List.length_map]
          by_cases c : z < ls.length
          · rw [decide_eq_true c, decide_eq_false (by omega)]; rfl
          · rw [decide_eq_false c, decide_eq_true (by omega)]; rfl
        by_cases c5 : z < ls.length
        · have hok := hfn.trans (if_pos ⟨by omega, c3, by rw [hlot, decide_eq_true c5]⟩)
          refine iteOf (b := false) (e12.trans (by rw [decide_eq_true c5]; rfl)) (iteF ?_)
          obtain ⟨acc, k1, k2, k3⟩ := g11.push ek kp (by omega) ⟨r, hok, b, rfl, hb11⟩
          exact ⟨_, rfl, .inl ⟨rfl, acc, SqL.of k1⟩, _, rfl, D, acc, _, rfl, rfl, k1, k2, k3, _, _, _, rfl⟩
        · refine iteOf (b := true) (e12.trans (by rw [decide_eq_false c5]; rfl)) (iteT ⟨_, rfl, by show 2 ≤ _; decide, bad (hfn.trans (if_neg fun y => ?_)) _ g11⟩)
          have y3 := y.2.2
          rw [hlot, decide_eq_false c5] at y3
          cases y3
    · rintro σ H' ⟨g, v3, v4, v5, rfl⟩
      obtain ⟨acc, h1, h2, h3⟩ := g.d
      obtain ⟨rs, k1, k2, k3⟩ := acc_ex (F := fun j y r => fn j = some r ∧ TupI K H' y r) (acc := acc) (k := 0) (fun j y hy => by rw [Nat.zero_add]; exact h3 j y hy)
      have e := upto_ok (f := fn) (xs := rs) (at_ := 0) (fun j r hr => (k3 j r hr).choose_spec.2.1)
      rw [k1, h2] at e
      refine ⟨_, rfl, D, acc, rfl, .inl ⟨SqL.of h1, fun l hl => ?_⟩⟩
      refine k (.ref l) _ (extN_upd g.e.1 (Nw.ext g.e.1 hl)) (tabs_new g.t hl) ?_
      rw [eR2.trans e]
      exact ⟨l, acc, rfl, SqT.of upd_same, L2.Paired.mapP k2 fun y r z => by
        obtain ⟨j, _, z⟩ := z
        exact z.exV (exV_new hl)⟩
end
end K60
set_option Elab.async false
set_option linter.all false
set_option maxRecDepth 100000
set_option maxHeartbeats 4000000
/-! law: read_rules -/
namespace K60
open PySem PySem.Spec PyProof.Rows L2 Gx RZ TL
open LamX (TabB Tabs TabS CodeO ExtN)
theorem fig_le {m m' : Nat} (h : m ≤ m') (w : Codes) : fig m w = (fig m' w).filter fun n => decide (n ≤ m) := by
  match w with
  | [] => rfl
  | _ :: _ :: _ => rfl
  | [c] =>
    show (if 48 ≤ c ∧ c ≤ 57 ∧ c - 48 ≤ m then some (c - 48) else none) = (if 48 ≤ c ∧ c ≤ 57 ∧ c - 48 ≤ m' then some (c - 48) else none).filter fun n => decide (n ≤ m)
    by_cases c1 : c - 48 ≤ m
    · by_cases c2 : 48 ≤ c ∧ c ≤ 57
      · rw [if_pos ⟨c2.1, c2.2, c1⟩, if_pos ⟨c2.1, c2.2, Nat.le_trans c1 h⟩]
        simp [Option.filter, c1]
      · rw [if_neg fun z => c2 ⟨z.1, z.2.1⟩, if_neg fun z => c2 ⟨z.1, z.2.1⟩]
        rfl
    · rw [if_neg fun z => c1 z.2.2]
      by_cases c2 : 48 ≤ c ∧ c ≤ 57 ∧ c - 48 ≤ m'
      · rw [if_pos c2]
        simp [Option.filter, c1]
      · rw [if_neg c2]
        rfl
theorem figs_le {m m' : Nat} (h : m ≤ m') (ws : List Codes) : figs m ws = (figs m' ws).filter fun r => r.all fun n => decide (n ≤ m) := by
  unfold figs
  by_cases c : (ws.all fun w => (fig m' w).isSome) = true
  · rw [if_pos c]
    by_cases c2 : (ws.all fun w => (fig m w).isSome) = true
    · rw [if_pos c2]
      have hall : ((ws.map fun w => (fig m' w).getD 0).all fun n => decide (n ≤ m)) = true := List.all_eq_true.mpr fun n hn => by
        obtain ⟨w, hw, rfl⟩ := List.mem_map.mp hn
        have h1 := List.all_eq_true.mp c2 w hw
        rw [fig_le h w] at h1
        cases q : fig m' w with
        | none => rw [q] at h1; cases h1
        | some k =>
          rw [q] at h1
          by_cases c3 : k ≤ m
          · exact decide_eq_true c3
          · simp [Option.filter, c3] at h1
      rw [Option.filter, hall]
      simp only [if_true]
      refine congrArg some (List.map_congr_left fun w hw => ?_)
      have h1 := List.all_eq_true.mp c2 w hw
      rw [fig_le h w] at h1 ⊢
      cases q : fig m' w with
      | none => rfl
      | some k =>
        rw [q] at h1
        by_cases c3 : k ≤ m
        · simp [Option.filter, c3]
        · simp [Option.filter, c3] at h1
    · rw [if_neg c2]
      have hall : ((ws.map fun w => (fig m' w).getD 0).all fun n => decide (n ≤ m)) = false := by
        rw [Bool.eq_false_iff]
        intro z
        refine c2 (List.all_eq_true.mpr fun w hw => ?_)
        have h1 := List.all_eq_true.mp c w hw
        rw [fig_le h w]
        cases q : fig m' w with
        | none => rw [q] at h1; cases h1
        | some k =>
          have h2 := of_decide_eq_true (List.all_eq_true.mp z _ (List.mem_map.mpr ⟨w, hw, rfl⟩))
          rw [q] at h2
          have h2 : k ≤ m := h2
          simp [Option.filter, h2]
      rw [Option.filter, hall]
      simp
  · rw [if_neg c, if_neg]
    · rfl
    · intro z
      refine c (List.all_eq_true.mpr fun w hw => ?_)
      have h1 := List.all_eq_true.mp z w hw
      rw [fig_le h w] at h1
      cases q : fig m' w with
      | none => rw [q] at h1; cases h1
      | some k => rfl
/-- as the law reads a table -/
theorem tabR_law {h : List (List Nat)} {s k : Nat} {ws : List Codes} (hs : s = 2 ∨ s = 3) : tabR h s k ws = (if ws.take 3 = headR k then figs (s - 1) (ws.drop 3) else none).bind fun t => (h[k]?).bind fun r => if t.length = s ^ r.length then some t else none := by
  rw [tabR_eq]
  by_cases c : ws.take 3 = headR k
  · rw [if_pos c, if_pos c, figs_le (m := s - 1) (m' := 2) (by rcases hs with e | e <;> omega)]
    cases figs 2 (ws.drop 3) with
    | none => rfl
    | some t =>
      show ((h[k]?).bind fun r => if tblB s r.length t = true then some t else none) = ((some t).filter fun r => r.all fun n => decide (n ≤ s - 1)).bind _
      have e : (t.all fun n => decide (n ≤ s - 1)) = t.all fun n => decide (n < s) := by
        congr 1
        funext n
        exact decide_eq_decide.mpr (by rcases hs with e | e <;> omega)
      cases q : h[k]? with
      | none =>
        rw [Option.filter]
        split <;> rfl
      | some r =>
        show (if tblB s r.length t = true then some t else none) = _
        unfold tblB
        by_cases c1 : (t.all fun n => decide (n < s)) = true
        · rw [Option.filter, e, c1, Bool.and_true]
          simp only [if_true]
          show _ = if t.length = s ^ r.length then some t else none
          by_cases c2 : t.length = s ^ r.length
          · rw [if_pos c2, if_pos (decide_eq_true c2)]
          · rw [if_neg c2, if_neg (by rw [decide_eq_false c2]; decide)]
        · have c1' := Bool.eq_false_iff.mpr c1
          rw [Option.filter, e, c1', Bool.and_false]
          rfl
  · rw [if_neg c, if_neg c]
    rfl
abbrev sLReadR : Stmt := top 47
theorem scLReadR : FnScope ["_law_house_here", "_law_text", "_law_lines_here", "_law_found", "_law_signs", "_law_at", "_law_words_here", "_law_table"] ["_law_house_here", "_law_text"] (defScope sLReadR) := ⟨rfl, rfl, rfl, by decide +kernel, rfl, by decide +kernel, by decide +kernel⟩
def spLReadR (K : PySem.W.Frag) (T : List (Addr × Str)) : Sp := fun vs H Q _ => ∃ (hv v : V) (h : List (List Nat)) (o : Option Codes), vs = [hv, v] ∧ TupR K H hv h ∧ OkH h ∧ TxV v o ∧ Fine o ∧ Tabs T H ∧ ∀ v' H', ExtN H H' → Tabs T H' → Got K H' v' (readR h o) (fun st => RulesAt K H' v' st.1 st.2) → Q v' H'
def sgL : List Codes := ["signs 2", "signs 3"].map cs
theorem sgL_tv : [V.str (Str.ofString "signs 2"), V.str (Str.ofString "signs 3")] = sgL.map tv := by
  rw [lit_tv "signs 2", lit_tv "signs 3"]
  rfl
theorem sgL_some {l : Codes} (h : l ∈ sgL) : ∃ s, signsOf l = some s ∧ (s = 2 ∨ s = 3) ∧ l.length = 7 ∧ atI l (-1) = some (48 + s) := by
  have h : l = cs "signs 2" ∨ l = cs "signs 3" := by simpa [sgL] using h
  rcases h with rfl | rfl
  · exact ⟨2, by decide, .inl rfl, by decide, by decide⟩
  · exact ⟨3, by decide, .inr rfl, by decide, by decide⟩
theorem sgL_none {l : Codes} (h : l ∉ sgL) : signsOf l = none := by
  unfold signsOf
  rw [if_neg fun z => h (by rw [z]; simp [sgL]), if_neg fun z => h (by rw [z]; simp [sgL])]
section
variable {P : Program} {w : World} {K : PySem.W.Frag} {mg : Str → Option Value} {base : Heap} {T : List (Addr × Str)}
theorem ok_lReadR {f fl fF fP : Addr} {fd fdl fdF fdP : FuncData} (F : Fun K "_law_read_rules" "_law_read_rules" sLReadR f fd) (B : Bl mg) (Dl : Df K mg "_law_lines" sLLines ["_law_text", "_law_least"] fl fdl)
    (DF : Df K mg "_law_figures" sLFigs ["_law_words_here", "_law_most"] fF fdF) (DP : Df K mg "_law_power" sLPow ["_law_one", "_law_many"] fP fdP) : FnOk P w K mg base CX0 2 f fd ["_law_house_here", "_law_text"] (spLReadR K T) := by
  have Gl' : FnOk P w K mg base CX0 1 fl fdl ["_law_text", "_law_least"] (spLLines T) := ok_llines Dl.F B
  have GF : FnOk P w K mg base CX0 1 fF fdF ["_law_words_here", "_law_most"] (spLFigs K T) := ok_lfigs DF.F B
  have GP : FnOk P w K mg base CX0 1 fP fdP ["_law_one", "_law_many"] spLPow := ok_lpow DP.F B
  refine F.ok scLReadR (fun vs H Q E h => ?_) (fun cdv A outer s H vs Q E hr h => ?_)
  · obtain ⟨hv, v, h, o, rfl, _⟩ := h
    rfl
  · obtain ⟨hv, v, h, o, rfl, hH, okh, hv', hf, hT, k⟩ := h
    have nd := scLReadR.nd
    refine ⟨_, pss_cons (ps_par (i := 2) (j := 3) rfl nd rfl rfl (by decide) rfl rfl (pa_cons (pe_call Gl' hr (by rfl) Dl.g Dl.kp Dl.b .nil pass0 (pa_cons (pv 1) (pa_cons pe_int pa_nil))) (pa_cons (pe_lst pa_nil) pa_nil)) rfl)
      (pss_cons (ps_if (pt_val (pe_callB (isiK K rfl) (by rfl) B.isi boot_isi (pa_cons (pv 2) (pa_cons (pe_bltn (v := .ty "int") (by rfl) B.int boot_int rfl) pa_nil)))) (pss_one (ps_ret (pe_tup (pa_cons pe_str (pa_cons (pv 2) pa_nil))))) pss_nil)
      (pss_cons (ps_if (pt_cmpR op_notInT (pe_ix (ixL K rfl) (pv 2) pe_int (fun _ _ => rfl)) (pe_lst (pa_cons pe_str (pa_cons pe_str pa_nil))) rfl) (pss_one (ps_ret (pe_tup (pa_cons pe_str (pa_cons pe_int pa_nil))))) pss_nil)
      (pss_cons (ps_set (i := 4) nd rfl (Or.inl rfl) (pe_callTy call_int_str (by rfl) B.int boot_int (pa_cons (pe_ix ix_str (pe_ix (ixL K rfl) (pv 2) pe_int (fun _ _ => rfl)) (pe_un un_neg pe_int) (fun _ _ => rfl)) pa_nil)))
      (pss_cons (ps_for PassesOwn.never rfl (pi_range2 (by rfl) B.range (pa_cons pe_int (pa_cons (pe_callB (call_max2 rfl) (by rfl) B.max boot_max
            (pa_cons (pe_callB (lenK K rfl) (by rfl) B.len PySem.boot_len (pa_cons (pv 2) pa_nil)) (pa_cons (pe_op op_add (pe_callB (lenK K rfl) (by rfl) B.len PySem.boot_len (pa_cons (pv 0) pa_nil)) pe_int) pa_nil))) pa_nil))) (pg_name (i := 5) nd rfl (Or.inl rfl))
        (pss_cons (ps_set (i := 6) nd rfl (Or.inl rfl) (pe_ifExp (pt_cmp (pc_lt (pv 5) (pe_callB (lenK K rfl) (by rfl) B.len PySem.boot_len (pa_cons (pv 2) pa_nil)))) (pe_split (pe_ix (ixL K rfl) (pv 2) (pv 5) (fun _ _ => rfl)) pe_str) (pe_lst pa_nil)))
        (pss_cons (ps_set (i := 7) nd rfl (Or.inl rfl) (pe_call GF hr (by rfl) DF.g DF.kp DF.b .nil pass0 (pa_cons (pe_slice sl_list (pv 6) (po_some pe_int) po_none) (pa_cons (pe_op op_sub (pv 4) pe_int) pa_nil))))
        (pss_cons (ps_if (PW.pt (pw_or (pt_cmp (pc_gt (pv 5) (pe_callB (lenK K rfl) (by rfl) B.len PySem.boot_len (pa_cons (pv 0) pa_nil))))
            (pw_or (pt_cmpR (op_neS hr.units) (pe_slice sl_list (pv 6) po_none (po_some pe_int)) (pe_lst (pa_cons pe_str (pa_cons (pe_callTy (callStr K) (by rfl) B.str boot_str (pa_cons (pe_op op_sub (pv 5) pe_int) pa_nil)) (pa_cons pe_str pa_nil)))) (nomark _)) (pw_or1 (pt_cmpR op_isN (pv 7) pe_non (nomark _))))))
          (pss_one (ps_ret (pe_tup (pa_cons pe_str (pa_cons (pv 5) pa_nil))))) pss_nil)
        (pss_cons (ps_if (pt_cmp (pc_neI (pe_callB (lenK K rfl) (by rfl) B.len PySem.boot_len (pa_cons (pv 7) pa_nil)) (pe_call GP hr (by rfl) DP.g DP.kp DP.b .nil pass0 (pa_cons (pv 4) (pa_cons (pe_callB (lenK K rfl) (by rfl) B.len PySem.boot_len (pa_cons (pe_ix (ixT K rfl) (pv 0) (pe_op op_sub (pv 5) pe_int) (fun _ _ => rfl)) pa_nil)) pa_nil)))))
          (pss_one (ps_ret (pe_tup (pa_cons pe_str (pa_cons (pv 5) pa_nil))))) pss_nil)
        (pss_one (ps_expr (pe_bm PySem.F.plainAttrs_list PySem.F.slot_list_append PySem.F.type_list_append mt_append (pv 3) (pa_cons (pv 7) pa_nil)))))))))
      (pss_one (ps_ret (pe_tup (pa_cons (pv 4) (pa_cons (pe_callTy call_tuple_of (by rfl) B.tuple boot_tuple (pa_cons (pv 3) pa_nil)) pa_nil))))))))), ?_⟩
    refine ⟨_, rfl, v, o, 1, rfl, hv', hf, hT, fun lv H1 x1 t1 hlv => ?_⟩
    have hll := lawLines1 o
    refine ⟨Nat.zero_le _, fun D hD => ⟨_, _, rfl, ?_⟩⟩
    have nD : Nw H D := Nw.ext x1 hD
    have xD : ExtN H (upd H1 D (.lst [])) := extN_upd x1 nD
    have tD : Tabs T (upd H1 D (.lst [])) := tabs_new t1 hD
    have told : ∀ H' n, ExtN H H' → Tabs T H' → readR h o = .error n → ∀ q, H' q = none → Q (.ref q) (upd H' q (.tup [V.str (Str.ofString "line"), nv n])) := fun H' n e t hn q hq => by
      refine k _ _ (extN_upd e (Nw.ext e hq)) (tabs_new t hq) ?_
      rw [hn]
      exact ⟨q, rfl, by rw [← line_tv]; exact SqT.of upd_same⟩
    cases hls : linesOf o with
    | error n =>
      rw [hls] at hll
      rw [hll] at hlv
      cases hlv
      refine ⟨_, rfl, _, "int", "int", true, rfl, TyX.int _, k_ii, _, rfl, iteT ⟨_, rfl, by show 2 ≤ _; decide, told _ n xD tD (by unfold readR; rw [hls])⟩⟩
    | ok ls =>
    by_cases c0 : ls = []
    · rw [hls] at hll
      simp only [c0, if_true] at hll
      rw [hll] at hlv
      cases hlv
      refine ⟨_, rfl, _, "int", "int", true, rfl, TyX.int _, k_ii, _, rfl, iteT ⟨_, rfl, by show 2 ≤ _; decide, told _ 0 xD tD (by unfold readR; rw [hls, c0]; rfl)⟩⟩
    rw [hls] at hll
    simp only [c0, if_false] at hll
    rw [hll] at hlv
    obtain ⟨pl, rfl, npl, hpl⟩ := hlv
    obtain ⟨hlen, hls2⟩ := lines_fine hf hls
    have pD : pl ≠ D := ne_of_none hpl hD
    have hpD : (upd H1 D (.lst [])) pl = some (.lst (ls.map tv)) := upd_lst hD hpl
    have hD2 : (upd H1 D (.lst [])) D = some (.lst []) := upd_same
    generalize (upd H1 D (.lst [])) = H2 at xD tD hpD hD2 ⊢
    refine ⟨_, rfl, _, "int", "list", false, rfl, TyX.lst hpD, k_li, _, rfl, iteF ?_⟩
    obtain ⟨l0, hl0⟩ : ∃ l0, ls[0]? = some l0 := by
      cases ls with
      | nil => exact absurd rfl c0
      | cons l0 _ => exact ⟨l0, rfl⟩
    have hat0 : atI (ls.map tv) 0 = some (tv l0) := atI_nat (j := 0) (by rw [List.getElem?_map, hl0]; rfl)
    refine ⟨_, rfl, pl, _, 0, tv l0, rfl, rfl, SqL.of hpD, hat0, by show 2 ≤ _; decide, fun q hq => ?_⟩
    rw [sgL_tv]
    have xq : ExtN H (upd H2 q (.lst (sgL.map tv))) := extN_upd xD (Nw.ext xD hq)
    have tq := tabs_new (o := .lst (sgL.map tv)) tD hq
    refine ⟨q, sgL, l0, rfl, rfl, SqL.of upd_same, _, rfl, ?_⟩
    have hpq : upd H2 q (.lst (sgL.map tv)) pl = some (.lst (ls.map tv)) := upd_lst hq hpD
    have hDq : upd H2 q (.lst (sgL.map tv)) D = some (.lst []) := upd_lst hq hD2
    generalize upd H2 q (.lst (sgL.map tv)) = H3 at xq tq hpq hDq ⊢
    by_cases cs0 : l0 ∈ sgL
    case neg =>
      refine iteOf (b := true) (by rw [decide_eq_false cs0]; rfl) (iteT ⟨by show 2 ≤ _; decide, told H3 0 xq tq ?_⟩)
      have hsn : (ls[0]?).bind signsOf = none := by rw [hl0]; exact sgL_none cs0
      unfold readR
      rw [hls]
      simp only [hsn]
    refine iteOf (b := false) (by rw [decide_eq_true cs0]; rfl) (iteF ?_)
    obtain ⟨sg, hsg, hs23, hl7, hlast⟩ := sgL_some cs0
    have hs3 : sg ≤ 3 := by omega
    have hi := int_fig (c := 48 + sg) (by omega) (by omega)
    rw [Nat.add_sub_cancel_left] at hi
    refine ⟨_, rfl, pl, _, 0, tv l0, rfl, rfl, SqL.of hpq, hat0, 1, rfl, mk l0, -1, 48 + sg, rfl, rfl, small (by rw [mk_len]; omega), hlast, mk [48 + sg], _, rfl, hi, by rw [mk_len]; show 1 ≤ 640; decide, ?_⟩
    obtain ⟨dh, zs, rfl, hzs, hzp⟩ := id hH
    have hzl : zs.length = h.length := hzp.length
    let nn : Nat := max ls.length (h.length + 1) - 1
    have hnn : nn ≤ 100000 := by have := okh.hi; show max ls.length (h.length + 1) - 1 ≤ _; omega
    have hsel : (if ((zs.length : Int) + 1) > (((ls.map tv).length : Nat) : Int) then ((zs.length : Int) + 1) else (((ls.map tv).length : Nat) : Int)) = ((nn + 1 : Nat) : Int) := by
      rw [List.length_map, hzl]
      show _ = ((max ls.length (h.length + 1) - 1 + 1 : Nat) : Int)
      split <;> omega
    refine ⟨_, rfl, pl, _, rfl, .inl (SqL.of hpq), _, rfl, dh, zs, rfl, .inr (sqT_ext xq hzs), _, _, rfl, rfl, _, _, rfl, 1, ((nn + 1 : Nat) : Int), congrArg (fun z => [V.int 1, V.int z]) hsel, ⟨by decide, by decide, by omega, by omega⟩, ?_⟩
    have hcnt : (((nn + 1 : Nat) : Int) - 1).toNat = nn := by omega
    rw [hcnt]
    let f : Nat → Option (List Nat) := fun k => tabR h sg (k - 1) (if k < ls.length then cut1 32 (ls.getD k []) else [])
    let EE : Hp → Prop := fun H' => ExtN H H' ∧ H' pl = some (.lst (ls.map tv))
    have ek : EK EE D := ⟨fun Ha Hb a e => ⟨a.1.trans e, e _ _ a.2 (lst_ne _)⟩, fun Ha o a => ⟨extN_upd a.1 nD, by rw [upd_ne pD]; exact a.2⟩⟩
    let R : Nat → V → Hp → Prop := fun j y H' => ∃ r, f (1 + j) = some r ∧ TupI K H' y r
    have kp : Kp R := fun j y Ha Hb e a => let ⟨r, h1, h2⟩ := a; ⟨r, h1, h2.exV e⟩
    have g0 : Gr EE T D R 0 H3 := ⟨⟨xq, hpq⟩, tq, [], hDq, rfl, fun j y z => by simp at z⟩
    have eR2 : readR h o = match upto f nn 1 with | .ok ts => .ok (sg, ts) | .error e => .error e := by
      have hsn : (ls[0]?).bind signsOf = some sg := by rw [hl0]; exact hsg
      unfold readR
      rw [hls]
      simp only [hsn]
      rfl
    refine for_range (lo := 1) (n := nn) (fun i σ H' => Gr EE T D R i H' ∧ ∃ v5 v6 v7, σ = [some (.ref dh), some v, some (.ref pl), some (.ref D), some (nv sg), v5, v6, v7]) ⟨g0, none, none, none, rfl⟩ ?_ ?_
    · rintro i σ H' hi ⟨g, v5, v6, v7, rfl⟩
      have bad : f (1 + i) = none → ∀ H', Gr EE T D R i H' → ∀ q, H' q = none → Q (.ref q) (upd H' q (.tup [V.str (Str.ofString "line"), .int (1 + (i : Int))])) := fun hn Ha ga q hq => by
        obtain ⟨acc, h1, h2, h3⟩ := ga.d
        obtain ⟨rs, k1, k2, k3⟩ := acc_ex (F := fun j y r => f (1 + j) = some r ∧ TupI K Ha y r) (acc := acc) (k := 0) (fun j y hy => by rw [Nat.zero_add]; exact h3 j y hy)
        have e := upto_err (f := f) (xs := rs) (at_ := 1) (n := nn) (fun j r hr => by have z := (k3 j r hr).choose_spec.2.1; rw [Nat.zero_add] at z; exact z) (by rw [k1, h2]; exact hi) (by rw [k1, h2]; exact hn)
        rw [k1, h2] at e
        rw [e] at eR2
        exact told Ha (1 + i) ga.e.1 ga.t eR2 q hq
      let ws : List Codes := if 1 + i < ls.length then cut1 32 (ls.getD (1 + i) []) else []
      refine ⟨_, rfl, _, rfl, pl, _, rfl, .inl (SqL.of g.e.2), _, _, rfl, rfl, _, rfl, ite_join (fun x Hw => ∃ pw, x = .ref pw ∧ Gr EE T D R i Hw ∧ Hw pw = some (.lst (ws.map tv))) ?_ (fun c G k => ?_) (fun c G k => ?_)⟩
      case refine_2 =>
        have c : (decide ((1 + (i : Int)) < ((ls.map tv).length : Nat))) = true := c
        rw [List.length_map] at c
        have hlt : 1 + i < ls.length := by have := of_decide_eq_true c; omega
        have hln := List.getElem?_eq_getElem hlt
        obtain ⟨hl1, hl2⟩ := hls2 _ (List.getElem_mem hlt)
        have ew : ws = cut1 32 ls[1 + i] := by
          show (if 1 + i < ls.length then cut1 32 (ls.getD (1 + i) []) else []) = _
          rw [if_pos hlt, List.getD_eq_getElem?_getD, hln]
          rfl
        refine ⟨_, rfl, _, rfl, pl, _, _, tv ls[1 + i], rfl, rfl, SqL.of g.e.2, atI_nat (j := 1 + i) (by rw [List.getElem?_map, hln]; rfl), ⟨_, rfl⟩, mk ls[1 + i], mk [32], rfl, rfl, by decide +kernel, small (by rw [mk_len]; omega), fun pw hpw => ?_⟩
        rw [split_tv _ 32 (by decide), ← ew]
        exact k _ _ ⟨pw, rfl, g.new ek kp hpw, upd_same⟩
      case refine_3 =>
        have c : (decide ((1 + (i : Int)) < ((ls.map tv).length : Nat))) = false := c
        rw [List.length_map] at c
        have hlt : ¬ 1 + i < ls.length := fun z => by have := of_decide_eq_false c; omega
        have ew : ws = [] := if_neg hlt
        refine ⟨Nat.zero_le _, fun pw hpw => ?_⟩
        exact k _ _ ⟨pw, rfl, g.new ek kp hpw, by rw [upd_same, ew]; rfl⟩
      rintro x Hw ⟨pw, rfl, gw, hpw⟩
      have aw : Asc ws ∧ ws.length ≤ 100001 ∧ ∀ w ∈ ws, w.length ≤ 100000 := by
        show Asc (if 1 + i < ls.length then cut1 32 (ls.getD (1 + i) []) else []) ∧ _
        by_cases hlt : 1 + i < ls.length
        · obtain ⟨hl1, hl2⟩ := hls2 _ (List.getElem_mem hlt)
          have ew : ws = cut1 32 ls[1 + i] := by
            show (if 1 + i < ls.length then cut1 32 (ls.getD (1 + i) []) else []) = _
            rw [if_pos hlt, List.getD_eq_getElem?_getD, List.getElem?_eq_getElem hlt]
            rfl
          have := len_cut1 32 ls[1 + i]
          exact ⟨by show Asc ws; rw [ew]; exact cut_small hl2, by rw [ew]; omega, fun w hw => by rw [ew] at hw; exact Nat.le_trans (cut_each hw) hl1⟩
        · have ew : ws = [] := if_neg hlt
          exact ⟨by show Asc ws; rw [ew]; exact fun w hw => (by cases hw), by rw [ew]; exact Nat.zero_le _, fun w hw => by rw [ew] at hw; cases hw⟩
      obtain ⟨aw1, aw2, aw3⟩ := aw
      have e1 : (1 + (i : Int) - 1) = ((i : Nat) : Int) := by omega
      have es1 : ((sg : Int) - 1) = ((sg - 1 : Nat) : Int) := by omega
      have hcut2 : cutV (ws.map tv) (some 3) none = (ws.drop 3).map tv := (cutV_drop _ 3).trans List.map_drop.symm
      refine ⟨_, rfl, 3, rfl, pw, ws.map tv, rfl, SqL.of hpw, fun p3 hp3 => ?_⟩
      rw [hcut2]
      have g5 := gw.new (o := .lst ((ws.drop 3).map tv)) ek kp hp3
      refine ⟨_, rfl, _, _, rfl, rfl, p3, ws.drop 3, sg - 1, congrArg (fun z => [V.ref p3, V.int z]) es1, SqL.of upd_same, ?_, fun w hw => aw3 w (List.mem_of_mem_drop hw), g5.t, fun sv H5 x5 t5 hsv => ?_⟩
      · rw [List.length_drop]; omega
      have g6 := g5.ext ek kp x5 t5
      have hpw5 : H5 pw = some (.lst (ws.map tv)) := x5 _ _ (upd_lst hp3 hpw) (lst_ne _)
      have hf : f (1 + i) = (if ws.take 3 = headR i then figs (sg - 1) (ws.drop 3) else none).bind fun t => (h[i]?).bind fun r => if t.length = sg ^ r.length then some t else none := by
        show tabR h sg (1 + i - 1) ws = _
        rw [show 1 + i - 1 = i by omega]
        exact tabR_law hs23
      refine ⟨_, rfl, _, rfl, dh, zs, rfl, .inr (sqT_ext g6.e.1 hzs), _, _, rfl, rfl, _, rfl, ?_⟩
      by_cases c2 : ((zs.length : Nat) : Int) < 1 + (i : Int)
      · have hn : h[i]? = none := List.getElem?_eq_none (by omega)
        have bd := bad (hf.trans (by rw [hn]; cases (if ws.take 3 = headR i then figs (sg - 1) (ws.drop 3) else none) <;> rfl)) _ g6
        exact iteOf (decide_eq_true c2) (iteT (iteT ⟨_, rfl, by show 2 ≤ _; decide, bd⟩))
      refine iteOf (decide_eq_false c2) (iteF ?_)
      have hih : i < h.length := by omega
      have hri := List.getElem?_eq_getElem hih
      refine ⟨_, rfl, 3, rfl, pw, ws.map tv, rfl, SqL.of hpw5, fun p1 hp1 => ?_⟩
      have hcut : cutV (ws.map tv) none (some 3) = (ws.take 3).map tv := (cutV_take _ 3).trans List.map_take.symm
      rw [hcut]
      have g7 := g6.new (o := .lst ((ws.take 3).map tv)) ek kp hp1
      refine ⟨_, rfl, _, _, rfl, rfl, i, congrArg (fun z => [V.int z]) e1, by omega, by show 3 ≤ _; decide, fun p2 hp2 => ?_⟩
      have hhd : [V.str (Str.ofString "clerk"), tv (numL i), V.str (Str.ofString "writes")] = (headR i).map tv := by
        rw [← headR_tv, num_tv]
      rw [hhd]
      have g8 := g7.new (o := .lst ((headR i).map tv)) ek kp hp2
      have hsv := hsv.exV ((exV_new hp1).trans (exV_new (o := .lst ((headR i).map tv)) hp2))
      refine ⟨p1, p2, ws.take 3, headR i, rfl, rfl, SqL.of (upd_lst hp2 upd_same), SqL.of upd_same, fun w hw => aw1 w (List.mem_of_mem_take hw), headR_asc, _, rfl, ?_⟩
      generalize (upd (upd H5 p1 (.lst ((ws.take 3).map tv))) p2 (.lst ((headR i).map tv))) = H8 at g8 hsv ⊢
      by_cases c1 : ws.take 3 = headR i
      case neg =>
        have bd := bad (hf.trans (by rw [if_neg c1]; rfl)) _ g8
        exact iteOf (b := true) (by rw [decide_eq_false c1]; rfl) (iteT (iteT ⟨_, rfl, by show 2 ≤ _; decide, bd⟩))
      refine iteOf (b := false) (by rw [decide_eq_true c1]; rfl) (iteF ?_)
      rw [if_pos c1, hri] at hf
      cases hoo : figs (sg - 1) (ws.drop 3) with
      | none =>
        rw [hoo] at hsv hf
        cases hsv
        exact ⟨_, rfl, rfl, _, rfl, iteT ⟨_, rfl, by show 2 ≤ _; decide, bad hf _ g8⟩⟩
      | some t =>
        rw [hoo] at hsv hf
        obtain ⟨b, rfl, hb⟩ := hsv
        have hf : f (1 + i) = if t.length = sg ^ h[i].length then some t else none := hf
        refine ⟨_, rfl, rfl, _, rfl, iteOf (decide_eq_false (fun z => by cases z)) (iteF ?_)⟩
        obtain ⟨y, hy1, ry, rfl, hry⟩ := paired_get2 hzp hri
        have hry8 : SqT K H8 ry (h[i].map nv) := sqT_ext g8.e.1 hry
        refine ⟨_, rfl, b, _, rfl, .inr hb, _, rfl, _, rfl, _, rfl, _, _, rfl, rfl, dh, zs, (1 + (i : Int) - 1), .ref ry, rfl, rfl, sqT_ext g8.e.1 hzs, by rw [e1]; exact atI_nat hy1, ry, _, rfl, .inr hry8, sg, h[i].length, by rw [List.length_map]; rfl, hs3, Nat.le_trans (okh.short _ (List.getElem_mem hih)) (by decide), _, _, rfl, rfl, _, rfl, ?_⟩
        have e9 : decide ((((t.map nv).length : Nat) : Int) = ((sg ^ h[i].length : Nat) : Int)) = decide (t.length = sg ^ h[i].length) := by
          rw [List.length_map]
          exact decide_eq_decide.mpr (by omega)
        by_cases c4 : t.length = sg ^ h[i].length
        · refine iteOf (b := false) ?_ (iteF ?_)
          · show (!decide ((((t.map nv).length : Nat) : Int) = ((sg ^ h[i].length : Nat) : Int))) = false
            rw [e9, decide_eq_true c4]
            rfl
          obtain ⟨acc, k1, k2, k3⟩ := g8.push ek kp (by omega) ⟨t, hf.trans (if_pos c4), b, rfl, hb⟩
          exact ⟨_, rfl, .inl ⟨rfl, acc, SqL.of k1⟩, _, rfl, D, acc, _, rfl, rfl, k1, k2, k3, _, _, _, rfl⟩
        · refine iteOf (b := true) ?_ (iteT ⟨_, rfl, by show 2 ≤ _; decide, bad (hf.trans (if_neg c4)) _ g8⟩)
          show (!decide ((((t.map nv).length : Nat) : Int) = ((sg ^ h[i].length : Nat) : Int))) = true
          rw [e9, decide_eq_false c4]
          rfl
    · rintro σ H' ⟨g, v5, v6, v7, rfl⟩
      obtain ⟨acc, h1, h2, h3⟩ := g.d
      obtain ⟨rs, k1, k2, k3⟩ := acc_ex (F := fun j y r => f (1 + j) = some r ∧ TupI K H' y r) (acc := acc) (k := 0) (fun j y hy => by rw [Nat.zero_add]; exact h3 j y hy)
      have e := upto_ok (f := f) (xs := rs) (at_ := 1) (fun j r hr => by have z := (k3 j r hr).choose_spec.2.1; rw [Nat.zero_add] at z; exact z)
      rw [k1, h2] at e
      rw [e] at eR2
      refine ⟨_, rfl, _, rfl, D, acc, rfl, .inl ⟨SqL.of h1, fun l hl => ⟨by show 2 ≤ _; decide, fun q hq => ?_⟩⟩⟩
      have xl : ExtN H (upd H' l (.tup acc)) := extN_upd g.e.1 (Nw.ext g.e.1 hl)
      refine k (.ref q) _ (extN_upd xl (Nw.ext xl hq)) (tabs_new (tabs_new g.t hl) hq) ?_
      rw [eR2]
      refine ⟨q, .ref l, rfl, SqT.of upd_same, l, acc, rfl, SqT.of (upd_tup hq upd_same), L2.Paired.mapP k2 fun y r z => ?_⟩
      obtain ⟨j, _, z⟩ := z
      exact (z.exV (exV_new hl)).exV (exV_new hq)
end
end K60
set_option Elab.async false
set_option linter.all false
set_option maxRecDepth 100000
set_option maxHeartbeats 4000000
/-! law: night_of, read_nights -/
namespace K60
open PySem PySem.Spec PyProof.Rows L2 Gx RZ TL
open LamX (TabB Tabs TabS CodeO ExtN)
abbrev sLNightOf : Stmt := top 48
theorem scLNightOf : FnScope ["_law_house_here", "_law_signs", "_law_line", "_law_words_here", "_law_found", "_law_word", "_law_some", "_law_spots", "_law_one", "_law_sign"] ["_law_house_here", "_law_signs", "_law_line"] (defScope sLNightOf) := ⟨rfl, rfl, rfl, by decide +kernel, rfl, by decide +kernel, by decide +kernel⟩
def spLNightOf (K : PySem.W.Frag) (T : List (Addr × Str)) : Sp := fun vs H Q _ => ∃ (hv : V) (s : Nat) (line : Codes) (h : List (List Nat)), vs = [hv, nv s, tv line] ∧ TupR K H hv h ∧ h.length ≤ 7 ∧ line.length ≤ 900 ∧ (∀ c ∈ line, c < 128) ∧ Tabs T H ∧
  ∀ v H', ExtN H H' → Tabs T H' → ONight K H' v (nightOf h.length s line) → Q v H'
/-- the pairs that may stand -/
def okP (n s : Nat) (p : List Nat) : Prop := p.length = 2 ∧ pairB n s p = true
theorem night_fail {n s : Nat} {line w0 : Codes} {ws : List Codes} (hc : cut1 32 line = w0 :: ws) {w : Codes} (hw : w ∈ ws) (h : ∀ p, figs 7 (cut1 61 w) = some p → ¬ okP n s p) : nightOf n s line = none := by
  unfold nightOf
  rw [hc]
  show (match pairsOf ws with | some ps => if (w0 :: ws).head? = some (cs "night") ∧ nightB n s 7 ps = true then some ps else none | none => none) = none
  by_cases c : (ws.all fun w => (figs 7 (cut1 61 w)).isSome) = true
  · rw [show pairsOf ws = some (ws.map fun w => (figs 7 (cut1 61 w)).getD []) from if_pos c]
    show (if (w0 :: ws).head? = some (cs "night") ∧ nightB n s 7 (ws.map fun w => (figs 7 (cut1 61 w)).getD []) = true then some _ else none) = none
    rw [if_neg]
    rintro ⟨_, hb⟩
    have h1 := List.all_eq_true.mp c w hw
    cases q : figs 7 (cut1 61 w) with
    | none => rw [q] at h1; cases h1
    | some p =>
      refine h p q ?_
      unfold nightB at hb
      rw [Bool.and_eq_true, Bool.and_eq_true, Bool.and_eq_true] at hb
      have hm : p ∈ ws.map fun w => (figs 7 (cut1 61 w)).getD [] := List.mem_map.mpr ⟨w, hw, by rw [q]; rfl⟩
      exact ⟨of_decide_eq_true (List.all_eq_true.mp hb.2.1 p hm), List.all_eq_true.mp hb.2.2.1 p hm⟩
  · rw [show pairsOf ws = none from if_neg c]
theorem zip_first (ps : List (List Nat)) : ((ps.zip ps.tail).all fun q => decide (q.1.getD 0 0 < q.2.getD 0 0)) = ascN (ps.map fun p => p.getD 0 0) := by
  unfold ascN
  rw [← List.map_tail, List.zip_map, List.all_map]
  rfl
/-- all pairs stand: it is the order that decides -/
theorem night_all {n s : Nat} {line w0 : Codes} {ws : List Codes} (hn : n ≤ 7) (hc : cut1 32 line = w0 :: ws) {ps : List (List Nat)} (hl : ps.length = ws.length) (h : ∀ (j : Nat) p, ps[j]? = some p → ∃ w : Codes, ws[j]? = some w ∧ figs 7 (cut1 61 w) = some p ∧ okP n s p) :
    nightOf n s line = if w0 = cs "night" ∧ ascN (ps.map fun p => p.getD 0 0) = true then some ps else none := by
  have hps : pairsOf ws = some ps := by
    have hall : (ws.all fun w => (figs 7 (cut1 61 w)).isSome) = true := List.all_eq_true.mpr fun w hw => by
      obtain ⟨j, hj⟩ := List.getElem?_of_mem hw
      have hjl : j < ps.length := by rw [hl]; exact (List.getElem?_eq_some_iff.mp hj).1
      obtain ⟨w', h1, h2, _⟩ := h j _ (List.getElem?_eq_getElem hjl)
      rw [hj] at h1
      cases h1
      rw [h2]
      rfl
    unfold pairsOf
    rw [if_pos hall]
    congr 1
    apply List.ext_getElem?
    intro j
    rw [List.getElem?_map]
    by_cases hj : j < ps.length
    · obtain ⟨w', h1, h2, _⟩ := h j _ (List.getElem?_eq_getElem hj)
      rw [h1, List.getElem?_eq_getElem hj]
      show some ((figs 7 (cut1 61 w')).getD []) = _
      rw [h2]
      rfl
    · rw [List.getElem?_eq_none (by omega), List.getElem?_eq_none (by omega)]
      rfl
  have hp : ∀ p ∈ ps, okP n s p := fun p hp => by
    obtain ⟨j, hj⟩ := List.getElem?_of_mem hp
    obtain ⟨_, _, _, q⟩ := h j p hj
    exact q
  have e1 : (ps.all fun p => decide (p.length = 2)) = true := List.all_eq_true.mpr fun p hpp => decide_eq_true (hp p hpp).1
  have e2 : (ps.all fun p => pairB n s p) = true := List.all_eq_true.mpr fun p hpp => (hp p hpp).2
  have e3 : nightB n s 7 ps = ascN (ps.map fun p => p.getD 0 0) := by
    unfold nightB
    rw [e1, e2, zip_first, Bool.true_and, Bool.true_and]
    by_cases c : ascN (ps.map fun p => p.getD 0 0) = true
    · rw [c, Bool.and_true]
      refine decide_eq_true ?_
      have hlt : ∀ m ∈ ps.map (fun p => p.getD 0 0), 0 ≤ m ∧ m < n := fun m hm => by
        obtain ⟨p, hpp, rfl⟩ := List.mem_map.mp hm
        have hb := (hp p hpp).2
        unfold pairB at hb
        rw [Bool.and_eq_true] at hb
        exact ⟨Nat.zero_le _, of_decide_eq_true hb.1⟩
      have := asc_len n _ 0 ((ascN_pw _).mp c) hlt (Nat.zero_le _)
      rw [List.length_map] at this
      omega
    · rw [Bool.eq_false_iff.mpr c, Bool.and_false]
  unfold nightOf
  rw [hc]
  show (match pairsOf ws with | some ps => if (w0 :: ws).head? = some (cs "night") ∧ nightB n s 7 ps = true then some ps else none | none => none) = _
  rw [hps]
  show (if (w0 :: ws).head? = some (cs "night") ∧ nightB n s 7 ps = true then some ps else none) = _
  rw [e3]
  by_cases c : w0 = cs "night" ∧ ascN (ps.map fun p => p.getD 0 0) = true
  · rw [if_pos c, if_pos ⟨by rw [c.1]; rfl, c.2⟩]
  · rw [if_neg c, if_neg fun z => c ⟨Option.some.inj z.1, z.2⟩]
section
variable {P : Program} {w : World} {K : PySem.W.Frag} {mg : Str → Option Value} {base : Heap} {T : List (Addr × Str)}
theorem ok_lnightOf {f fF : Addr} {fd fdF : FuncData} (F : Fun K "_law_night_of" "_law_night_of" sLNightOf f fd) (B : Bl mg)
    (DF : Df K mg "_law_figures" sLFigs ["_law_words_here", "_law_most"] fF fdF) : FnOk P w K mg base CX0 2 f fd ["_law_house_here", "_law_signs", "_law_line"] (spLNightOf K T) := by
  have GF : FnOk P w K mg base CX0 1 fF fdF ["_law_words_here", "_law_most"] (spLFigs K T) := ok_lfigs DF.F B
  refine F.ok scLNightOf (fun vs H Q E h => ?_) (fun cdv A outer s H vs Q E hr h => ?_)
  · obtain ⟨hv, sg, line, h, rfl, _⟩ := h
    rfl
  · obtain ⟨hv, sg, line, h, rfl, hH, hn7, hl, hasc, hT, k⟩ := h
    have nd := scLNightOf.nd
    refine ⟨_, pss_cons (ps_par (i := 3) (j := 4) rfl nd rfl rfl (by decide) rfl rfl (pa_cons (pe_split (pv 2) pe_str) (pa_cons (pe_lst pa_nil) pa_nil)) rfl)
      (pss_cons (ps_for PassesOwn.never rfl (pi_list (pe_slice sl_list (pv 3) (po_some pe_int) po_none)) (pg_name (i := 5) nd rfl (Or.inl rfl))
        (pss_cons (ps_set (i := 6) nd rfl (Or.inl rfl) (pe_call GF hr (by rfl) DF.g DF.kp DF.b .nil pass0 (pa_cons (pe_split (pv 5) pe_str) (pa_cons pe_int pa_nil))))
        (pss_cons (ps_if (PW.pt (pw_or (pt_cmpR op_isN (pv 6) pe_non (nomark _)) (pw_or (pt_cmp (pc_neI (pe_callB (lenK K rfl) (by rfl) B.len PySem.boot_len (pa_cons (pv 6) pa_nil)) pe_int))
            (pw_or (pt_cmp (pc_ge (pe_ix (ixT K rfl) (pv 6) pe_int (fun _ _ => rfl)) (pe_callB (lenK K rfl) (by rfl) B.len PySem.boot_len (pa_cons (pv 0) pa_nil)))) (pw_or1 (pt_cmp (pc_ge (pe_ix (ixT K rfl) (pv 6) pe_int (fun _ _ => rfl)) (pv 1)))))))) (pss_one (ps_ret pe_non)) pss_nil)
        (pss_one (ps_expr (pe_bm PySem.F.plainAttrs_list PySem.F.slot_list_append PySem.F.type_list_append mt_append (pv 4) (pa_cons (pv 6) pa_nil)))))))
      (pss_cons (ps_setLc (i := 7) (own := [("_law_one", 8), ("_law_sign", 9)]) (g := g2 K 8 9) (tt := tYes) rfl nd rfl rfl (sw_true rfl rfl rfl (by decide +kernel)) (pi_list (pv 4))
        (blkOk_by (own := [("_law_one", 8), ("_law_sign", 9)]) (N := ["_law_house_here", "_law_signs", "_law_line", "_law_words_here", "_law_found", "_law_word", "_law_some", "_law_spots", "_law_one", "_law_sign"]) (sc := defScope sLNightOf) (by decide +kernel))
        (fun _ _ _ _ _ => pg2 K 8 9 rfl rfl nd rfl rfl (Or.inl rfl) (Or.inl rfl) (Or.inr rfl) (Or.inr rfl)) (fun _ _ _ _ _ => pts_nil) (fun _ _ _ _ _ => pv 8))
      (pss_one (ps_ret (pe_ifExp (PW.pt (pw_and (pt_cmpR op_eq (pe_ix (ixL K rfl) (pv 3) pe_int (fun _ _ => rfl)) pe_str (nomark _)) (pw_and1 (pt_cmpR (op_eqIL hr.units) (pe_callB (sortK w rfl rfl) (by rfl) B.sorted boot_sorted (pa_cons (pe_callTy (setK K w rfl rfl rfl) (by rfl) B.set boot_set (pa_cons (pv 7) pa_nil)) pa_nil)) (pv 7) (nomark _)))))
        (pe_callTy call_tuple_of (by rfl) B.tuple boot_tuple (pa_cons (pv 4) pa_nil)) pe_non))))), ?_⟩
    obtain ⟨w0, ws, hcut⟩ := cut1_cons 32 line
    have lw := len_cut1 32 line
    have ew : ∀ w ∈ cut1 32 line, w.length ≤ 900 := fun w hw => Nat.le_trans (cut_each hw) hl
    rw [hcut] at lw ew
    rw [List.length_cons] at lw
    refine ⟨_, rfl, ⟨_, rfl⟩, mk line, mk [32], rfl, rfl, by decide +kernel, small (by rw [mk_len]; omega), fun pw hpw => ?_⟩
    rw [split_tv line 32 (by decide), hcut]
    refine ⟨Nat.zero_le _, fun D hD => ⟨_, _, rfl, ?_⟩⟩
    have x1 : ExtN H (upd H pw (.lst ((w0 :: ws).map tv))) := extN_new hpw
    have nD : Nw H D := Nw.ext x1 hD
    have xD : ExtN H (upd (upd H pw (.lst ((w0 :: ws).map tv))) D (.lst [])) := extN_upd x1 nD
    have tD : Tabs T (upd (upd H pw (.lst ((w0 :: ws).map tv))) D (.lst [])) := tabs_new (tabs_new hT hpw) hD
    have hpw1 : (upd H pw (.lst ((w0 :: ws).map tv))) pw = some (.lst ((w0 :: ws).map tv)) := upd_same
    have pD : pw ≠ D := ne_of_none hpw1 hD
    have hpwD : (upd (upd H pw (.lst ((w0 :: ws).map tv))) D (.lst [])) pw = some (.lst ((w0 :: ws).map tv)) := upd_lst hD hpw1
    have hDD : (upd (upd H pw (.lst ((w0 :: ws).map tv))) D (.lst [])) D = some (.lst []) := upd_same
    generalize (upd (upd H pw (.lst ((w0 :: ws).map tv))) D (.lst [])) = H1 at xD tD hpwD hDD ⊢
    refine ⟨_, rfl, 1, rfl, pw, _, rfl, SqL.of hpwD, fun p1 hp1 => ?_⟩
    have hc1 : cutV ((w0 :: ws).map tv) (some 1) none = ws.map tv := cutV_drop _ 1
    rw [hc1]
    have pD1 : p1 ≠ D := fun z => by rw [z, hDD] at hp1; cases hp1
    let EE : Hp → Prop := fun H' => ExtN H H' ∧ H' pw = some (.lst ((w0 :: ws).map tv)) ∧ H' p1 = some (.lst (ws.map tv))
    have ek : EK EE D := ⟨fun Ha Hb a e => ⟨a.1.trans e, e _ _ a.2.1 (lst_ne _), e _ _ a.2.2 (lst_ne _)⟩, fun Ha o a => ⟨extN_upd a.1 nD, by rw [upd_ne pD]; exact a.2.1, by rw [upd_ne pD1]; exact a.2.2⟩⟩
    let R : Nat → V → Hp → Prop := fun j y H' => ∃ w p, ws[j]? = some w ∧ figs 7 (cut1 61 w) = some p ∧ okP h.length sg p ∧ TupI K H' y p
    have kp : Kp R := fun j y Ha Hb e a => let ⟨w, p, h1, h2, h3, h4⟩ := a; ⟨w, p, h1, h2, h3, h4.exV e⟩
    have g0 : Gr EE T D R 0 (upd H1 p1 (.lst (ws.map tv))) := ⟨⟨extN_upd xD (Nw.ext xD hp1), upd_lst hp1 hpwD, upd_same⟩, tabs_new tD hp1, [], upd_lst hp1 hDD, rfl, fun j y z => by simp at z⟩
    refine ⟨p1, rfl, ⟨_, SqL.of g0.e.2.2⟩, for_list (K := K) (a := p1) (xs := ws.map tv) (fun i σ H' => Gr EE T D R i H' ∧ ∃ v5 v6, σ = [some hv, some (nv sg), some (tv line), some (.ref pw), some (.ref D), v5, v6, none, none, none]) ⟨g0, none, none, rfl⟩ (fun i σ H' _ p => SqL.of p.1.e.2.2) ?_ ?_⟩
    · rintro i x σ H' hi ⟨g, v5, v6, rfl⟩
      obtain ⟨wd, hwd, rfl⟩ := map_get hi
      have hin := List.mem_of_getElem? hwd
      have hwl := ew wd (List.mem_cons_of_mem _ hin)
      have lc := len_cut1 61 wd
      refine ⟨_, rfl, ⟨_, rfl⟩, mk wd, mk [61], rfl, rfl, by decide +kernel, small (by rw [mk_len]; omega), fun p3 hp3 => ?_⟩
      rw [split_tv wd 61 (by decide)]
      have g1 := g.new (o := .lst ((cut1 61 wd).map tv)) ek kp hp3
      refine ⟨p3, cut1 61 wd, 7, rfl, SqL.of upd_same, by omega, fun w hw => Nat.le_trans (cut_each hw) (by omega), g1.t, fun sv H5 x5 t5 hsv => ?_⟩
      have g5 := g1.ext ek kp x5 t5
      have bad : (∀ p, figs 7 (cut1 61 wd) = some p → ¬ okP h.length sg p) → Q .non H5 := fun hb => k .non H5 g5.e.1 g5.t (by rw [night_fail hcut hin hb]; rfl)
      obtain ⟨dh, zs, rfl, hzs, hzp⟩ := hH.ext g5.e.1
      have hzl : zs.length = h.length := hzp.length
      cases hf : figs 7 (cut1 61 wd) with
      | none =>
        rw [hf] at hsv
        cases hsv
        exact ⟨_, rfl, rfl, _, rfl, iteT (iteT (bad fun p hp => by rw [hf] at hp; cases hp))⟩
      | some p =>
        rw [hf] at hsv
        obtain ⟨b, rfl, hb⟩ := hsv
        have badp : ¬ okP h.length sg p → Q .non H5 := fun hb => bad fun q hq => by rw [hf] at hq; cases hq; exact hb
        refine ⟨_, rfl, rfl, _, rfl, iteOf (decide_eq_false (fun z => by cases z)) (iteF ⟨_, rfl, b, _, rfl, .inr hb, _, _, rfl, rfl, _, rfl, ?_⟩)⟩
        by_cases c1 : p.length = 2
        case neg =>
          refine iteOf (b := true) ?_ (iteT (iteT (badp fun z => c1 z.1)))
          show (!decide ((((p.map nv).length : Nat) : Int) = 2)) = true
          rw [List.length_map, decide_eq_false (by omega)]
          rfl
        obtain ⟨y0, y1, rfl⟩ := two_of c1
        refine iteOf (b := false) rfl (iteF ?_)
        refine ⟨_, rfl, b, _, 0, nv y0, rfl, rfl, hb, rfl, _, rfl, dh, zs, rfl, .inr hzs, _, _, rfl, rfl, _, rfl, ?_⟩
        by_cases c2 : ((zs.length : Nat) : Int) ≤ (y0 : Int)
        · refine iteOf (decide_eq_true c2) (iteT (iteT (badp fun z => ?_)))
          have z2 := z.2
          unfold pairB at z2
          rw [Bool.and_eq_true] at z2
          have : y0 < h.length := of_decide_eq_true z2.1
          omega
        refine iteOf (decide_eq_false c2) (iteF ⟨_, rfl, b, _, 1, nv y1, rfl, rfl, hb, rfl, _, rfl, _, _, rfl, rfl, _, rfl, ?_⟩)
        by_cases c3 : (sg : Int) ≤ (y1 : Int)
        · refine iteOf (decide_eq_true c3) (iteT (badp fun z => ?_))
          have z2 := z.2
          unfold pairB at z2
          rw [Bool.and_eq_true] at z2
          have : y1 < sg := of_decide_eq_true z2.2
          omega
        refine iteOf (decide_eq_false c3) (iteF ?_)
        have hok : okP h.length sg [y0, y1] := by
          refine ⟨rfl, ?_⟩
          unfold pairB
          rw [Bool.and_eq_true]
          exact ⟨decide_eq_true (by show y0 < h.length; omega), decide_eq_true (by show y1 < sg; omega)⟩
        have hil := (List.getElem?_eq_some_iff.mp hwd).1
        obtain ⟨acc, k1, k2, k3⟩ := g5.push ek kp (by omega) ⟨wd, _, hwd, hf, hok, b, rfl, hb⟩
        exact ⟨_, rfl, .inl ⟨rfl, acc, SqL.of k1⟩, _, rfl, D, acc, _, rfl, rfl, k1, k2, k3, _, _, rfl⟩
    · rintro σ H' ⟨g, v5, v6, rfl⟩
      obtain ⟨acc, h1, h2, h3⟩ := g.d
      rw [List.length_map] at h2
      obtain ⟨ps, k1, k2, k3⟩ := acc_ex (F := fun j y p => ∃ w : Codes, ws[j]? = some w ∧ figs 7 (cut1 61 w) = some p ∧ okP h.length sg p ∧ TupI K H' y p) (acc := acc) (k := 0) (fun j y hy => by
        obtain ⟨w, p, q1, q2, q3, q4⟩ := h3 j y hy
        exact ⟨p, w, by rw [Nat.zero_add]; exact q1, q2, q3, q4⟩)
      have hall := night_all (s := sg) (ps := ps) hn7 hcut (by rw [k1, h2]) fun j p hj => by
        obtain ⟨y, _, w, q1, q2, q3, _⟩ := k3 j p hj
        rw [Nat.zero_add] at q1
        exact ⟨w, q1, q2, q3⟩
      have hpr : Paired (TupI K H') acc ps := L2.Paired.mapP k2 fun y p z => by
        obtain ⟨j, w, _, _, _, q⟩ := z
        exact q
      have hokp : ∀ p ∈ ps, okP h.length sg p := fun p hp => by
        obtain ⟨j, hj⟩ := List.getElem?_of_mem hp
        obtain ⟨y, _, w, _, _, q3, _⟩ := k3 j p hj
        exact q3
      let EE2 : Hp → Prop := fun H4 => ExtN H' H4
      let R2 : Nat → V → Hp → Prop := fun j y _ => ∃ p, ps[j]? = some p ∧ y = nv (p.getD 0 0)
      have kp2 : Kp R2 := kp_pure _
      refine ⟨_, rfl, D, rfl, ⟨_, SqL.of h1⟩, fun L hL => ?_⟩
      have ek2 : EK EE2 L := ⟨fun Ha Hb a e => a.trans e, fun Ha o a => extN_upd a (Nw.of hL)⟩
      refine lc_list (K := K) (a := D) (xs := acc) (Gr EE2 T L R2) (Gr.start (extN_new hL) g.t hL) (fun i H4 _ g4 => SqL.of (g4.e _ _ h1 (lst_ne _))) ?_ ?_
      · rintro i x H4 hi g4
        obtain ⟨p, hp1, b, rfl, hb⟩ := paired_get hpr hi
        obtain ⟨y0, y1, rfl⟩ := two_of (hokp p (List.mem_of_getElem? hp1)).1
        refine ⟨b, _, rfl, sqT_ext g4.e hb, rfl, _, _, rfl, _, _, rfl, rfl, rfl, ?_⟩
        refine ⟨_, rfl, g4.push ek2 kp2 ?_ ⟨[y0, y1], hp1, rfl⟩⟩
        have := (List.getElem?_eq_some_iff.mp hp1).1
        omega
      · rintro H4 g4
        obtain ⟨acc2, j1, j2, j3⟩ := g4.d
        have hacc : acc2 = ps.map fun p => nv (p.getD 0 0) := acc_map (by rw [j2, k1]) j3
        have e4 : ExtN H H4 := g.e.1.trans g4.e
        have hpw4 : H4 pw = some (.lst ((w0 :: ws).map tv)) := g4.e _ _ g.e.2.1 (lst_ne _)
        let rr : List Nat := ps.map fun p => p.getD 0 0
        have hacc2 : acc2 = (rr.map fun n : Nat => (n : Int)).map V.int := by
          rw [hacc]
          show _ = (((ps.map fun p => p.getD 0 0).map fun n : Nat => (n : Int)).map V.int)
          rw [List.map_map, List.map_map]
          rfl
        rw [hacc2] at j1
        refine ⟨_, rfl, pw, _, 0, tv w0, rfl, rfl, SqL.of hpw4, atI_nat (j := 0) rfl, rfl, _, rfl, ?_⟩
        have e1 : decide (tv w0 = V.str (Str.ofString "night")) = decide (w0 = cs "night") := by
          rw [lit_tv]
          exact decide_eq_decide.mpr ⟨fun z => tv_inj z, fun z => by rw [z]⟩
        by_cases c1 : w0 = cs "night"
        case neg =>
          refine iteOf (b := false) (e1.trans (decide_eq_false c1)) (iteF (iteF (k .non H4 e4 g4.t ?_)))
          rw [hall, if_neg fun z => c1 z.1]
          rfl
        refine iteOf (b := true) (e1.trans (decide_eq_true c1)) (iteT ?_)
        have hlp : rr.length ≤ 1000 := by
          show (ps.map fun p => p.getD 0 0).length ≤ 1000
          rw [List.length_map, k1, h2]
          omega
        refine ⟨_, rfl, L, rr.map fun n : Nat => (n : Int), rfl, .inr (SqL.of j1), by rw [List.length_map]; exact hlp, fun a n ha hn _ hm => ?_⟩
        refine ⟨a, _, n, rfl, upd_same, Nat.lt_of_le_of_lt (hm 7 fun k hk => ?_) (by decide), fun ns p hp1 hp2 hp3 hp => ?_⟩
        · obtain ⟨m, hm, rfl⟩ := List.mem_map.mp hk
          obtain ⟨p, hpp, rfl⟩ := List.mem_map.mp hm
          have hb := (hokp p hpp).2
          unfold pairB at hb
          rw [Bool.and_eq_true] at hb
          have : p.getD 0 0 < h.length := of_decide_eq_true hb.1
          omega
        have x5 : ExtN H4 (upd H4 a (SetO w a (fun j => decide (j ∈ rr.map fun n : Nat => (n : Int))) n)) := extN_new ha
        have t5 := tabs_new (o := SetO w a (fun j => decide (j ∈ rr.map fun n : Nat => (n : Int))) n) g4.t ha
        generalize upd H4 a (SetO w a (fun j => decide (j ∈ rr.map fun n : Nat => (n : Int))) n) = H5 at x5 t5 hp ⊢
        have x6 : ExtN H4 (upd H5 p (.lst (ns.map V.int))) := extN_upd x5 (Nw.ext x5 hp)
        have t6 := tabs_new (o := .lst (ns.map V.int)) t5 hp
        have hp6 : upd H5 p (.lst (ns.map V.int)) p = some (.lst (ns.map V.int)) := upd_same
        generalize upd H5 p (.lst (ns.map V.int)) = H6 at x6 t6 hp6 ⊢
        refine ⟨_, rfl, p, L, ns, rr.map fun n : Nat => (n : Int), rfl, rfl, SqL.of hp6, SqL.of (x6 _ _ j1 (lst_ne _)), _, rfl, ?_⟩
        rw [sorted_asc (r := rr) hp1 hp2]
        have e6 := e4.trans x6
        by_cases c2 : ascN rr = true
        · refine iteOf c2 (iteT ⟨_, rfl, D, acc, rfl, .inl ⟨SqL.of (x6 _ _ (g4.e _ _ h1 (lst_ne _)) (lst_ne _)), fun l hl => k (.ref l) _ (extN_upd e6 (Nw.ext e6 hl)) (tabs_new t6 hl) ?_⟩⟩)
          rw [hall, if_pos ⟨c1, c2⟩]
          refine ⟨l, acc, rfl, SqT.of upd_same, L2.Paired.mapP hpr fun y p z => ?_⟩
          exact ((z.ext g4.e).ext x6).exV (exV_new hl)
        · refine iteOf (Bool.eq_false_iff.mpr c2) (iteF (k .non _ e6 t6 ?_))
          rw [hall, if_neg fun z => c2 z.2]
          rfl
end
end K60
set_option Elab.async false
set_option linter.all false
set_option maxRecDepth 100000
set_option maxHeartbeats 4000000
/-! law: read_nights -/
namespace K60
open PySem PySem.Spec PyProof.Rows L2 Gx RZ TL
open LamX (TabB Tabs TabS CodeO ExtN)
abbrev sLReadN : Stmt := top 49
theorem scLReadN : FnScope ["_law_house_here", "_law_signs", "_law_text", "_law_lines_here", "_law_found", "_law_at", "_law_night_here"] ["_law_house_here", "_law_signs", "_law_text"] (defScope sLReadN) := ⟨rfl, rfl, rfl, by decide +kernel, rfl, by decide +kernel, by decide +kernel⟩
def spLReadN (K : PySem.W.Frag) (T : List (Addr × Str)) : Sp := fun vs H Q _ => ∃ (hv v : V) (s : Nat) (h : List (List Nat)) (o : Option Codes), vs = [hv, nv s, v] ∧ TupR K H hv h ∧ h.length ≤ 7 ∧ TxV v o ∧ Fine o ∧ Sm o ∧ Tabs T H ∧ ∀ v' H', ExtN H H' → Tabs T H' → Got K H' v' (readN h.length s o) (fun ns => TupN K H' v' ns) → Q v' H'
section
variable {P : Program} {w : World} {K : PySem.W.Frag} {mg : Str → Option Value} {base : Heap} {T : List (Addr × Str)}
theorem ok_lReadN {f fl fO fF : Addr} {fd fdl fdO fdF : FuncData} (F : Fun K "_law_read_nights" "_law_read_nights" sLReadN f fd) (B : Bl mg) (Dl : Df K mg "_law_lines" sLLines ["_law_text", "_law_least"] fl fdl)
    (DO : Df K mg "_law_night_of" sLNightOf ["_law_house_here", "_law_signs", "_law_line"] fO fdO) (DF : Df K mg "_law_figures" sLFigs ["_law_words_here", "_law_most"] fF fdF) : FnOk P w K mg base CX0 3 f fd ["_law_house_here", "_law_signs", "_law_text"] (spLReadN K T) := by
  have Gl' : FnOk P w K mg base CX0 1 fl fdl ["_law_text", "_law_least"] (spLLines T) := ok_llines Dl.F B
  have GO : FnOk P w K mg base CX0 2 fO fdO ["_law_house_here", "_law_signs", "_law_line"] (spLNightOf K T) := ok_lnightOf DO.F B DF
  refine F.ok scLReadN (fun vs H Q E h => ?_) (fun cdv A outer s H vs Q E hr h => ?_)
  · obtain ⟨hv, v, sg, h, o, rfl, _⟩ := h
    rfl
  · obtain ⟨hv, v, sg, h, o, rfl, hH, hn7, hv', hf, hsm, hT, k⟩ := h
    have nd := scLReadN.nd
    refine ⟨_, pss_cons (ps_par (i := 3) (j := 4) rfl nd rfl rfl (by decide) rfl rfl (pa_cons (pe_call Gl' (hr.mono (by decide)) (by rfl) Dl.g Dl.kp Dl.b .nil pass0 (pa_cons (pv 2) (pa_cons pe_int pa_nil))) (pa_cons (pe_lst pa_nil) pa_nil)) rfl)
      (pss_cons (ps_if (pt_val (pe_callB (isiK K rfl) (by rfl) B.isi boot_isi (pa_cons (pv 3) (pa_cons (pe_bltn (v := .ty "int") (by rfl) B.int boot_int rfl) pa_nil)))) (pss_one (ps_ret (pe_tup (pa_cons pe_str (pa_cons (pv 3) pa_nil))))) pss_nil)
      (pss_cons (ps_for PassesOwn.never rfl (pi_range1 (by rfl) B.range (pa_cons (pe_callB (lenK K rfl) (by rfl) B.len PySem.boot_len (pa_cons (pv 3) pa_nil)) pa_nil)) (pg_name (i := 5) nd rfl (Or.inl rfl))
        (pss_cons (ps_set (i := 6) nd rfl (Or.inl rfl) (pe_call GO hr (by rfl) DO.g DO.kp DO.b .nil pass0 (pa_cons (pv 0) (pa_cons (pv 1) (pa_cons (pe_ix (ixL K rfl) (pv 3) (pv 5) (fun _ _ => rfl)) pa_nil)))))
        (pss_cons (ps_if (PW.pt (pw_or (pt_cmpR op_isN (pv 6) pe_non (nomark _)) (pw_or1 (pt_cmp (pc_gt (pv 5) pe_int))))) (pss_one (ps_ret (pe_tup (pa_cons pe_str (pa_cons (pv 5) pa_nil))))) pss_nil)
        (pss_one (ps_expr (pe_bm PySem.F.plainAttrs_list PySem.F.slot_list_append PySem.F.type_list_append mt_append (pv 4) (pa_cons (pv 6) pa_nil)))))))
      (pss_one (ps_ret (pe_callTy call_tuple_of (by rfl) B.tuple boot_tuple (pa_cons (pv 4) pa_nil)))))), ?_⟩
    refine ⟨_, rfl, v, o, 0, rfl, hv', hf, hT, fun lv H1 x1 t1 hlv => ?_⟩
    rw [lawLines0] at hlv
    refine ⟨Nat.zero_le _, fun D hD => ⟨_, _, rfl, ?_⟩⟩
    have nD : Nw H D := Nw.ext x1 hD
    have xD : ExtN H (upd H1 D (.lst [])) := extN_upd x1 nD
    have tD : Tabs T (upd H1 D (.lst [])) := tabs_new t1 hD
    have told : ∀ H' n, ExtN H H' → Tabs T H' → readN h.length sg o = .error n → ∀ q, H' q = none → Q (.ref q) (upd H' q (.tup [V.str (Str.ofString "line"), nv n])) := fun H' n e t hn q hq => by
      refine k _ _ (extN_upd e (Nw.ext e hq)) (tabs_new t hq) ?_
      rw [hn]
      exact ⟨q, rfl, by rw [← line_tv]; exact SqT.of upd_same⟩
    cases hls : linesOf o with
    | error n =>
      rw [hls] at hlv
      cases hlv
      refine ⟨_, rfl, _, "int", "int", true, rfl, TyX.int _, k_ii, _, rfl, iteT ⟨_, rfl, by show 2 ≤ _; decide, told _ n xD tD (by unfold readN; rw [hls])⟩⟩
    | ok ls =>
    rw [hls] at hlv
    obtain ⟨pl, rfl, npl, hpl⟩ := hlv
    obtain ⟨hlen, hls2⟩ := lines_fine hf hls
    have hsm2 := lines_sm hsm hls
    have pD : pl ≠ D := ne_of_none hpl hD
    have hpD : (upd H1 D (.lst [])) pl = some (.lst (ls.map tv)) := upd_lst hD hpl
    refine ⟨_, rfl, _, "int", "list", false, rfl, TyX.lst hpD, k_li, _, rfl, iteF ?_⟩
    let fn : Nat → Option (List (List Nat)) := fun k => if k < 200 then (ls[k]?).bind (nightOf h.length sg) else none
    have eR2 : readN h.length sg o = upto fn ls.length 0 := by
      unfold readN
      rw [hls]
    let EE : Hp → Prop := fun H' => ExtN H H' ∧ H' pl = some (.lst (ls.map tv))
    let R : Nat → V → Hp → Prop := fun j y H' => ∃ r, fn j = some r ∧ TupR K H' y r
    have ek : EK EE D := ⟨fun Ha Hb a e => ⟨a.1.trans e, e _ _ a.2 (lst_ne _)⟩, fun Ha o a => ⟨extN_upd a.1 nD, by rw [upd_ne pD]; exact a.2⟩⟩
    have kp : Kp R := fun j y Ha Hb e a => let ⟨r, h1, h2⟩ := a; ⟨r, h1, h2.exV e⟩
    have g0 : Gr EE T D R 0 (upd H1 D (.lst [])) := ⟨⟨xD, hpD⟩, tD, [], upd_same, rfl, fun j y z => by simp at z⟩
    refine ⟨_, rfl, pl, _, rfl, .inl (SqL.of hpD), _, rfl, by omega, by rw [List.length_map]; omega, ?_⟩
    rw [List.length_map, Int.toNat_natCast]
    refine for_range (lo := 0) (n := ls.length) (fun i σ H' => Gr EE T D R i H' ∧ ∃ v5 v6, σ = [some hv, some (nv sg), some v, some (.ref pl), some (.ref D), v5, v6]) ⟨g0, none, none, rfl⟩ ?_ ?_
    · rintro i σ H' hi ⟨g, v5, v6, rfl⟩
      have hln := List.getElem?_eq_getElem hi
      generalize ls[i] = line at hln
      have hin := List.mem_of_getElem? hln
      obtain ⟨hl1, hl2⟩ := hls2 line hin
      have hl3 := hsm2 line hin
      have z0 : (0 + (i : Int)) = ((i : Nat) : Int) := Int.zero_add _
      have bad : fn i = none → ∀ H', Gr EE T D R i H' → ∀ q, H' q = none → Q (.ref q) (upd H' q (.tup [V.str (Str.ofString "line"), .int (0 + (i : Int))])) := fun hn Ha ga q hq => by
        obtain ⟨acc, h1, h2, h3⟩ := ga.d
        obtain ⟨rs, k1, k2, k3⟩ := acc_ex (F := fun j y r => fn j = some r ∧ TupR K Ha y r) (acc := acc) (k := 0) (fun j y hy => by rw [Nat.zero_add]; exact h3 j y hy)
        have e := upto_err (f := fn) (xs := rs) (at_ := 0) (n := ls.length) (fun j r hr => (k3 j r hr).choose_spec.2.1) (by rw [k1, h2]; exact hi) (by rw [k1, h2, Nat.zero_add]; exact hn)
        rw [k1, h2, Nat.zero_add] at e
        rw [z0]
        exact told Ha i ga.e.1 ga.t (eR2.trans e) q hq
      have hb1 : (ls[i]?).bind (nightOf h.length sg) = nightOf h.length sg line := by rw [hln]; rfl
      refine ⟨_, rfl, _, rfl, _, rfl, _, rfl, pl, _, _, tv line, rfl, rfl, SqL.of g.e.2, ?_, hv, sg, line, h, rfl, hH.ext g.e.1, hn7, hl3, hl2, g.t, fun sv H5 x5 t5 hsv => ?_⟩
      · rw [z0]
        exact atI_nat (by rw [List.getElem?_map, hln]; rfl)
      have g5 := g.ext ek kp x5 t5
      cases hno : nightOf h.length sg line with
      | none =>
        rw [hno] at hsv
        cases hsv
        refine ⟨_, rfl, rfl, _, rfl, iteT (iteT ⟨_, rfl, by show 2 ≤ _; decide, bad ?_ _ g5⟩)⟩
        show (if i < 200 then (ls[i]?).bind (nightOf h.length sg) else none) = none
        rw [hb1, hno]
        split <;> rfl
      | some r =>
        rw [hno] at hsv
        obtain ⟨b, ys, rfl, hb, hy⟩ := hsv
        refine ⟨_, rfl, rfl, _, rfl, iteOf (decide_eq_false (fun z => by cases z)) (iteF ⟨_, rfl, _, _, rfl, rfl, _, rfl, ?_⟩)⟩
        by_cases c : i < 200
        · refine iteOf (b := false) (decide_eq_false (by omega)) (iteF ?_)
          obtain ⟨acc, k1, k2, k3⟩ := g5.push ek kp (by omega) ⟨r, (if_pos c).trans (hb1.trans hno), b, ys, rfl, hb, hy⟩
          exact ⟨_, rfl, .inl ⟨rfl, acc, SqL.of k1⟩, _, rfl, D, acc, _, rfl, rfl, k1, k2, k3, _, _, rfl⟩
        · exact iteOf (b := true) (decide_eq_true (by omega)) (iteT ⟨_, rfl, by show 2 ≤ _; decide, bad (if_neg c) _ g5⟩)
    · rintro σ H' ⟨g, v5, v6, rfl⟩
      obtain ⟨acc, h1, h2, h3⟩ := g.d
      obtain ⟨rs, k1, k2, k3⟩ := acc_ex (F := fun j y r => fn j = some r ∧ TupR K H' y r) (acc := acc) (k := 0) (fun j y hy => by rw [Nat.zero_add]; exact h3 j y hy)
      have e := upto_ok (f := fn) (xs := rs) (at_ := 0) (fun j r hr => (k3 j r hr).choose_spec.2.1)
      rw [k1, h2] at e
      refine ⟨_, rfl, D, acc, rfl, .inl ⟨SqL.of h1, fun l hl => ?_⟩⟩
      refine k (.ref l) _ (extN_upd g.e.1 (Nw.ext g.e.1 hl)) (tabs_new g.t hl) ?_
      rw [eR2.trans e]
      exact ⟨l, acc, rfl, SqT.of upd_same, L2.Paired.mapP k2 fun y r z => by
        obtain ⟨j, _, z⟩ := z
        exact z.exV (exV_new hl)⟩
end
end K60
set_option Elab.async false
set_option linter.all false
set_option maxRecDepth 100000
set_option maxHeartbeats 4000000
/-! law: the row of draws; taken, pick -/
namespace K60
open PySem PySem.Spec PyProof.Rows L2 Gx RZ TL
open LamX (TabB Tabs TabS CodeO ExtN)
/-- all stays but what stands at p (and tables) -/
abbrev ExR (p : Addr) (H H' : Hp) : Prop := ExM (fun b => b = p) H H'
def RowAt (H : Hp) (p sp : Addr) : Prop := ∃ k m r : Nat, H p = some (.lst [.ref sp, nv k, nv m, nv r])
def Scr (K : PySem.W.Frag) (H : Hp) (sp p : Addr) : Prop := ∃ ns : List Int, (sp ≠ p ∧ SqL K H sp (ns.map V.int)) ∨ ∀ H', SqL K H' sp (ns.map V.int)
theorem sqL_exR {K : PySem.W.Frag} {H H' : Hp} {p a : Addr} {xs : List V} (e : ExR p H H') (n : a ≠ p) (h : SqL K H a xs) : SqL K H' a xs := by
  rcases h with (h | ⟨o, h⟩) | h
  · exact .inl (.inl (e _ _ h (lst_ne xs) n))
  · exact .inl (.inr ⟨o, e _ _ h (frz_ne _ _) n⟩)
  · exact .inr h
theorem Scr.ext {K : PySem.W.Frag} {H H' : Hp} {sp p : Addr} (h : Scr K H sp p) (e : ExR p H H') : Scr K H' sp p := let ⟨ns, q⟩ := h; ⟨ns, q.imp (fun q => ⟨q.1, sqL_exR e q.1 q.2⟩) fun q => q⟩
theorem RowAt.ext {H H' : Hp} {sp p : Addr} (h : RowAt H p sp) (e : ExtN H H') : RowAt H' p sp := let ⟨k, m, r, q⟩ := h; ⟨k, m, r, e _ _ q (lst_ne _)⟩
theorem RowAt.lst {H : Hp} {sp p : Addr} (h : RowAt H p sp) : ∃ xs, H p = some (.lst xs) := let ⟨_, _, _, q⟩ := h; ⟨_, q⟩
theorem ExR.V {H H' : Hp} {p sp : Addr} (e : ExR p H H') (h : RowAt H p sp) : ExV H H' := fun b o hb n => e b o hb (fun ps z => by
    rcases n with ⟨xs, q⟩ | ⟨ob, u, q⟩ <;> rw [q] at z <;> cases z) fun z => by
  obtain ⟨xs, q⟩ := h.lst
  rw [z, q] at hb
  cases hb
  rcases n with ⟨xs, q⟩ | ⟨ob, u, q⟩ <;> cases q
theorem exR_row {H : Hp} {p : Addr} {o : HO} : ExR p H (upd H p o) := fun b u e _ n => by rw [upd_ne n]; exact e
theorem exR_lst {H H' : Hp} {p a : Addr} {xs : List V} (e : ExR p H H') (h : H a = some (.lst xs)) (n : a ≠ p) : H' a = some (.lst xs) := e _ _ h (lst_ne _) n
theorem nn_int {x : Int} (h : 0 ≤ x) : V.int x = nv x.toNat := by
  show V.int x = V.int (x.toNat : Int)
  rw [Int.toNat_of_nonneg h]
/-! ### _law_taken -/
abbrev sTaken : Stmt := top 34
theorem scTaken : FnScope ["_law_row", "_law_many", "_law_found", "_law_cell"] ["_law_row", "_law_many"] (defScope sTaken) := ⟨rfl, rfl, rfl, by decide +kernel, rfl, by decide +kernel, by decide +kernel⟩
def spTaken (K : PySem.W.Frag) (T : List (Addr × Str)) : Sp := fun vs H Q _ => ∃ (p sp : Addr) (many : Nat), vs = [.ref p, nv many] ∧ 0 < many ∧ many < 1073741824 ∧ Scr K H sp p ∧ RowAt H p sp ∧ Tabs T H ∧
  ∀ (d : Nat) H', d < many → ExR p H H' → RowAt H' p sp → Tabs T H' → Q (nv d) H'
section
variable {P : Program} {w : World} {K : PySem.W.Frag} {mg : Str → Option Value} {base : Heap} {T : List (Addr × Str)}
theorem ok_taken {f : Addr} {fd : FuncData} (F : Fun K "_law_taken" "_law_taken" sTaken f fd) (B : Bl mg) : FnOk P w K mg base CX0 1 f fd ["_law_row", "_law_many"] (spTaken K T) := by
  refine F.ok scTaken (fun vs H Q E h => ?_) (fun cdv A outer s H vs Q E hr h => ?_)
  · obtain ⟨p, sp, many, rfl, _⟩ := h
    rfl
  · obtain ⟨p, sp, many, rfl, h0, hm, ⟨ns, hns⟩, ⟨k, m, r, hp⟩, hT, kQ⟩ := h
    have nd := scTaken.nd
    refine ⟨_, pss_cons (ps_if (pt_cmp (pc_gt (pe_ix (ixL K rfl) (pv 0) pe_int (fun _ _ => rfl)) pe_int))
        (pss_cons (ps_set (i := 2) nd rfl (Or.inl rfl) (pe_op op_mod (pe_callTy call_int1 (by rfl) B.int boot_int (pa_cons (pe_ix (ixL K rfl) (pv 0) pe_int (fun _ _ => rfl)) pa_nil)) (pv 1)))
        (pss_cons (ps_asg (pe_op op_fdiv (pe_ix (ixL K rfl) (pv 0) pe_int (fun _ _ => rfl)) (pv 1)) (pg_sub (pv 0) pe_int set_list))
        (pss_one (ps_ret (pv 2))))) pss_nil)
      (pss_cons (ps_asg (pe_op op_add (pe_ix (ixL K rfl) (pv 0) pe_int (fun _ _ => rfl)) pe_int) (pg_sub (pv 0) pe_int set_list))
      (pss_cons (ps_if (pt_cmp (pc_gt (pe_ix (ixL K rfl) (pv 0) pe_int (fun _ _ => rfl)) (pe_callB (lenK K rfl) (by rfl) B.len PySem.boot_len (pa_cons (pe_ix (ixL K rfl) (pv 0) pe_int (fun _ _ => rfl)) pa_nil))))
        (pss_cons (ps_asg (pe_op op_mod (pe_callTy call_int1 (by rfl) B.int boot_int (pa_cons (pe_op op_add (pe_op op_mul (pe_ix (ixL K rfl) (pv 0) pe_int (fun _ _ => rfl)) pe_int) pe_int) pa_nil)) pe_int) (pg_sub (pv 0) pe_int set_list))
        (pss_one (ps_ret (pe_op op_mod (pe_callTy call_int1 (by rfl) B.int boot_int (pa_cons (pe_op op_fdiv (pe_ix (ixL K rfl) (pv 0) pe_int (fun _ _ => rfl)) pe_int) pa_nil)) (pv 1))))) pss_nil)
      (pss_cons (ps_set (i := 3) nd rfl (Or.inl rfl) (pe_ix (ixL K rfl) (pe_ix (ixL K rfl) (pv 0) pe_int (fun _ _ => rfl)) (pe_op op_sub (pe_ix (ixL K rfl) (pv 0) pe_int (fun _ _ => rfl)) pe_int) (fun _ _ => rfl)))
      (pss_cons (ps_asg (pe_op op_mod (pe_callTy call_int1 (by rfl) B.int boot_int (pa_cons (pe_op op_add (pe_op op_add (pe_op op_mul (pe_ix (ixL K rfl) (pv 0) pe_int (fun _ _ => rfl)) pe_int) (pv 3)) pe_int) pa_nil)) pe_int) (pg_sub (pv 0) pe_int set_list))
      (pss_cons (ps_if (pt_cmp (pc_ge (pv 3) (pe_op op_pow pe_int pe_int))) (pss_one (ps_asg (pe_op op_fdiv (pv 3) (pv 1)) (pg_sub (pv 0) pe_int set_list))) pss_nil)
      (pss_one (ps_ret (pe_op op_mod (pe_callTy call_int1 (by rfl) B.int boot_int (pa_cons (pv 3) pa_nil)) (pv 1))))))))), ?_⟩
    have fin : ∀ (x : Int) (row : List V), 0 ≤ x → x < (many : Int) → (∃ k m r : Nat, row = [.ref sp, nv k, nv m, nv r]) → Q (.int x) (upd H p (.lst row)) := fun x row hx0 hx1 ⟨k2, m2, r2, e⟩ => by
      rw [nn_int hx0]
      exact kQ x.toNat _ (by omega) exR_row ⟨k2, m2, r2, by rw [upd_same, e]⟩ (tabs_lst hT hp)
    have hpL : SqL K H p [.ref sp, nv k, nv m, nv r] := SqL.of hp
    refine ⟨_, rfl, p, _, 3, nv r, rfl, rfl, hpL, rfl, _, _, rfl, rfl, _, rfl, ?_⟩
    by_cases c1 : (0 : Int) < (r : Int)
    · refine iteOf (decide_eq_true c1) (iteT ?_)
      refine ⟨_, rfl, p, _, 3, nv r, rfl, rfl, hpL, rfl, .inl ⟨_, rfl, _, rfl, _, _, rfl, rfl, by omega, ?_⟩⟩
      refine ⟨_, rfl, p, _, 3, nv r, rfl, rfl, hpL, rfl, _, rfl, _, _, rfl, rfl, ⟨by omega, by omega⟩, ?_⟩
      refine ⟨_, rfl, p, _, 3, 3, rfl, rfl, hp, rfl, _, rfl, ?_⟩
      have q0 : 0 ≤ (r : Int) / (many : Int) := Int.ediv_nonneg (by omega) (by omega)
      refine fin ((r : Int) % (many : Int)) _ (Int.emod_nonneg _ (by omega)) (Int.emod_lt_of_pos _ (by omega)) ⟨k, m, ((r : Int) / (many : Int)).toNat, ?_⟩
      show [V.ref sp, nv k, nv m, V.int ((r : Int) / (many : Int))] = _
      rw [nn_int q0]
    refine iteOf (decide_eq_false c1) (iteF ?_)
    refine ⟨_, rfl, p, _, 1, nv k, rfl, rfl, hpL, rfl, _, _, rfl, rfl, _, rfl, p, _, 1, 1, rfl, rfl, hp, rfl, ?_⟩
    have hp1 : (upd H p (.lst [.ref sp, nv (k + 1), nv m, nv r])) p = some (.lst [.ref sp, nv (k + 1), nv m, nv r]) := upd_same
    have hns1 : SqL K (upd H p (.lst [.ref sp, nv (k + 1), nv m, nv r])) sp (ns.map V.int) := hns.elim (fun q => sqL_exR exR_row q.1 q.2) fun q => q _
    have hpL1 := SqL.of (K := K) hp1
    refine ⟨_, rfl, p, [.ref sp, nv (k + 1), nv m, nv r], 1, nv (k + 1), rfl, rfl, hpL1, rfl, _, rfl, p, _, 0, .ref sp, rfl, rfl, hpL1, rfl, sp, _, rfl, .inl hns1, _, _, rfl, rfl, _, rfl, ?_⟩
    by_cases c2 : (((ns.map V.int).length : Nat) : Int) < ((k + 1 : Nat) : Int)
    · refine iteOf (decide_eq_true c2) (iteT ?_)
      refine ⟨_, rfl, p, _, 2, nv m, rfl, rfl, hpL1, rfl, _, _, rfl, rfl, .inr ⟨by decide, by decide⟩, _, _, rfl, rfl, .inl ⟨_, rfl, _, _, rfl, rfl, (by decide : (0 : Int) < 2147483647), _, rfl, p, _, 2, 2, rfl, rfl, hp1, rfl, ?_⟩⟩
      rw [upd_twice]
      have q0 : 0 ≤ ((m : Int) * 48271 + 11) % 2147483647 := Int.emod_nonneg _ (by decide)
      refine ⟨_, rfl, p, _, 2, _, rfl, rfl, SqL.of upd_same, rfl, _, _, rfl, rfl, ⟨by decide, by decide⟩, .inl ⟨_, rfl, _, rfl, _, _, rfl, rfl, by omega, ?_⟩⟩
      refine fin _ _ (Int.emod_nonneg _ (by omega)) (Int.emod_lt_of_pos _ (by omega)) ⟨k + 1, (((m : Int) * 48271 + 11) % 2147483647).toNat, r, ?_⟩
      show [V.ref sp, nv (k + 1), V.int (((m : Int) * 48271 + 11) % 2147483647), nv r] = _
      rw [nn_int q0]
    refine iteOf (decide_eq_false c2) (iteF ?_)
    rw [List.length_map] at c2
    have hk : k < ns.length := by omega
    have hat : atI (ns.map V.int) (((k + 1 : Nat) : Int) - 1) = some (.int ns[k]) := by
      rw [show (((k + 1 : Nat) : Int) - 1) = ((k : Nat) : Int) by omega]
      exact atI_nat (by rw [List.getElem?_map, List.getElem?_eq_getElem hk]; rfl)
    refine ⟨_, rfl, p, _, 0, .ref sp, rfl, rfl, hpL1, rfl, _, rfl, p, _, 1, nv (k + 1), rfl, rfl, hpL1, rfl, _, _, rfl, rfl, sp, _, _, .int ns[k], rfl, rfl, hns1, hat, ?_⟩
    generalize ns[k] = c
    refine ⟨_, rfl, p, _, 2, nv m, rfl, rfl, hpL1, rfl, _, _, rfl, rfl, .inr ⟨by decide, by decide⟩, _, rfl, _, _, rfl, rfl, _, _, rfl, rfl, .inl ⟨_, rfl, _, _, rfl, rfl, (by decide : (0 : Int) < 2147483647), _, rfl, p, _, 2, 2, rfl, rfl, hp1, rfl, ?_⟩⟩
    rw [upd_twice]
    have q0 : 0 ≤ ((m : Int) * 48271 + c + 11) % 2147483647 := Int.emod_nonneg _ (by decide)
    refine ⟨_, rfl, _, _, rfl, rfl, ⟨by decide, by decide, by decide⟩, _, _, rfl, rfl, _, rfl, ?_⟩
    by_cases c3 : (10 : Int) ^ (18 : Int).toNat ≤ c
    · refine iteOf (decide_eq_true c3) (iteT ?_)
      have hc0 : (0 : Int) ≤ c := Int.le_trans (by decide) c3
      have q1 : 0 ≤ c / (many : Int) := Int.ediv_nonneg hc0 (by omega)
      refine ⟨_, rfl, _, rfl, _, _, rfl, rfl, ⟨by omega, by omega⟩, _, rfl, p, _, 3, 3, rfl, rfl, upd_same, rfl, ?_⟩
      rw [upd_twice]
      refine ⟨_, rfl, .inl ⟨_, rfl, _, rfl, _, _, rfl, rfl, by omega, ?_⟩⟩
      refine fin _ _ (Int.emod_nonneg _ (by omega)) (Int.emod_lt_of_pos _ (by omega)) ⟨k + 1, (((m : Int) * 48271 + c + 11) % 2147483647).toNat, (c / (many : Int)).toNat, ?_⟩
      show [V.ref sp, nv (k + 1), V.int (((m : Int) * 48271 + c + 11) % 2147483647), V.int (c / (many : Int))] = _
      rw [nn_int q0, nn_int q1]
    · refine iteOf (decide_eq_false c3) (iteF ?_)
      refine ⟨_, rfl, .inl ⟨_, rfl, _, rfl, _, _, rfl, rfl, by omega, ?_⟩⟩
      refine fin _ _ (Int.emod_nonneg _ (by omega)) (Int.emod_lt_of_pos _ (by omega)) ⟨k + 1, (((m : Int) * 48271 + c + 11) % 2147483647).toNat, r, ?_⟩
      show [V.ref sp, nv (k + 1), V.int (((m : Int) * 48271 + c + 11) % 2147483647), nv r] = _
      rw [nn_int q0]
end
/-! ### _law_pick -/
abbrev sPick : Stmt := top 35
theorem scPick : FnScope ["_law_row", "_law_things"] ["_law_row", "_law_things"] (defScope sPick) := ⟨rfl, rfl, rfl, by decide +kernel, rfl, by decide +kernel, by decide +kernel⟩
def spPick (K : PySem.W.Frag) (T : List (Addr × Str)) : Sp := fun vs H Q _ => ∃ (p sp a : Addr) (xs : List V), vs = [.ref p, .ref a] ∧ SqL K H a xs ∧ xs ≠ [] ∧ xs.length < 1073741824 ∧ a ≠ p ∧ Scr K H sp p ∧ RowAt H p sp ∧ Tabs T H ∧
  ∀ (v : V) H', v ∈ xs → ExR p H H' → RowAt H' p sp → Tabs T H' → Q v H'
section
variable {P : Program} {w : World} {K : PySem.W.Frag} {mg : Str → Option Value} {base : Heap} {T : List (Addr × Str)}
theorem ok_pick {f fT : Addr} {fd fdT : FuncData} (F : Fun K "_law_pick" "_law_pick" sPick f fd) (B : Bl mg) (DT : Df K mg "_law_taken" sTaken ["_law_row", "_law_many"] fT fdT) : FnOk P w K mg base CX0 2 f fd ["_law_row", "_law_things"] (spPick K T) := by
  have GT : FnOk P w K mg base CX0 1 fT fdT ["_law_row", "_law_many"] (spTaken K T) := ok_taken DT.F B
  refine F.ok scPick (fun vs H Q E h => ?_) (fun cdv A outer s H vs Q E hr h => ?_)
  · obtain ⟨p, sp, a, xs, rfl, _⟩ := h
    rfl
  · obtain ⟨p, sp, a, xs, rfl, ha, hx0, hxl, hap, hs, hrow, hT, kQ⟩ := h
    refine ⟨_, pss_one (ps_ret (pe_ix (ixL K rfl) (pv 1) (pe_call GT hr (by rfl) DT.g DT.kp DT.b .nil pass0 (pa_cons (pv 0) (pa_cons (pe_callB (lenK K rfl) (by rfl) B.len PySem.boot_len (pa_cons (pv 1) pa_nil)) pa_nil))) (fun _ _ => rfl))), ?_⟩
    refine ⟨_, rfl, _, rfl, _, rfl, a, xs, rfl, .inl ha, p, sp, xs.length, rfl, List.length_pos_iff.mpr hx0, hxl, hs, hrow, hT, fun d H' hd e r t => ?_⟩
    exact ⟨a, xs, d, xs[d], rfl, rfl, sqL_exR e hap ha, atI_nat (List.getElem?_eq_getElem hd), kQ _ _ (List.getElem_mem hd) e r t⟩
end
end K60
set_option Elab.async false
set_option linter.all false
set_option maxRecDepth 100000
set_option maxHeartbeats 4000000
/-! law: house, rules -/
namespace K60
open PySem PySem.Spec PyProof.Rows L2 Gx RZ TL
open LamX (TabB Tabs TabS CodeO ExtN)
theorem exR_ext {p : Addr} {H H1 H2 : Hp} (a : ExR p H H1) (b : ExtN H1 H2) : ExR p H H2 := a.trans (ExM.of b)
/-- the heap behind draws: the row is one -/
structure Dr (p sp : Addr) (T : List (Addr × Str)) (H H' : Hp) : Prop where
  e : ExR p H H'
  r : RowAt H' p sp
  t : Tabs T H'
theorem Dr.start {p sp : Addr} {T : List (Addr × Str)} {H : Hp} (r : RowAt H p sp) (t : Tabs T H) : Dr p sp T H H := ⟨ExM.refl _ _, r, t⟩
theorem Dr.ext {p sp : Addr} {T : List (Addr × Str)} {H H1 H2 : Hp} (d : Dr p sp T H H1) (e : ExtN H1 H2) (t : Tabs T H2) : Dr p sp T H H2 := ⟨exR_ext d.e e, d.r.ext e, t⟩
theorem Dr.new {p sp : Addr} {T : List (Addr × Str)} {H H1 : Hp} {a : Addr} {o : HO} (d : Dr p sp T H H1) (h : H1 a = none) : Dr p sp T H (upd H1 a o) := d.ext (extN_new h) (tabs_new d.t h)
theorem Dr.trans {p sp : Addr} {T : List (Addr × Str)} {H H1 H2 : Hp} (d : Dr p sp T H H1) (e : ExR p H1 H2) (r : RowAt H2 p sp) (t : Tabs T H2) : Dr p sp T H H2 := ⟨d.e.trans e, r, t⟩
theorem Dr.V {p sp : Addr} {T : List (Addr × Str)} {H H1 : Hp} (d : Dr p sp T H H1) (h : RowAt H p sp) : ExV H H1 := d.e.V h
/-- what is told of a heap in which D is written -/
theorem ek_dr {p sp D : Addr} {H H1 : Hp} (e1 : ExR p H H1) (hD : H1 D = none) (hp : D ≠ p) : EK (fun H' => ExR p H H' ∧ RowAt H' p sp) D :=
  ⟨fun Ha Hb a e => ⟨exR_ext a.1 e, a.2.ext e⟩, fun Ha o a => ⟨a.1.upd (e1.nw hD), let ⟨k, m, r, q⟩ := a.2; ⟨k, m, r, by rw [upd_ne (fun z => hp z.symm)]; exact q⟩⟩⟩
theorem row_ne {H : Hp} {p sp D : Addr} (r : RowAt H p sp) (h : H D = none) : D ≠ p := fun z => by
  obtain ⟨k, m, rr, q⟩ := r
  rw [z, q] at h
  cases h
/-- behind draws: the list, too -/
theorem Gr.drew {p sp D : Addr} {T : List (Addr × Str)} {R : Nat → V → Hp → Prop} {i : Nat} {H H1 H2 : Hp} (g : Gr (fun H' => ExR p H H' ∧ RowAt H' p sp) T D R i H1) (kp : Kp R) (hp : D ≠ p) (e : ExR p H1 H2) (r : RowAt H2 p sp) (t : Tabs T H2) : Gr (fun H' => ExR p H H' ∧ RowAt H' p sp) T D R i H2 :=
  g.move kp ⟨g.e.1.trans e, r⟩ t (fun acc h => e _ _ h (lst_ne _) hp) (e.V g.e.2)
abbrev sLHouse : Stmt := top 39
theorem scLHouse : FnScope ["_law_row", "_law_most", "_law_many", "_law_found", "_law_clerk", "_law_sights", "_law_one"] ["_law_row", "_law_most"] (defScope sLHouse) := ⟨rfl, rfl, rfl, by decide +kernel, rfl, by decide +kernel, by decide +kernel⟩
def spLHouse (K : PySem.W.Frag) (T : List (Addr × Str)) : Sp := fun vs H Q _ => ∃ (p sp : Addr) (most : Nat), vs = [.ref p, nv most] ∧ 0 < most ∧ most ≤ 7 ∧ Scr K H sp p ∧ RowAt H p sp ∧ Tabs T H ∧
  ∀ (v : V) (h : List (List Nat)) H', TupR K H' v h → OkH h → h.length ≤ most → Dr p sp T H H' → Q v H'
section
variable {P : Program} {w : World} {K : PySem.W.Frag} {mg : Str → Option Value} {base : Heap} {T : List (Addr × Str)}
theorem ok_lhouse {f fT : Addr} {fd fdT : FuncData} (F : Fun K "_law_house" "_law_house" sLHouse f fd) (B : Bl mg) (DT : Df K mg "_law_taken" sTaken ["_law_row", "_law_many"] fT fdT) : FnOk P w K mg base CX0 2 f fd ["_law_row", "_law_most"] (spLHouse K T) := by
  have GT : FnOk P w K mg base CX0 1 fT fdT ["_law_row", "_law_many"] (spTaken K T) := ok_taken DT.F B
  refine F.ok scLHouse (fun vs H Q E h => ?_) (fun cdv A outer s H vs Q E hr h => ?_)
  · obtain ⟨p, sp, most, rfl, _⟩ := h
    rfl
  · obtain ⟨p, sp, most, rfl, h0, h7, hs, hrow, hT, kQ⟩ := h
    have nd := scLHouse.nd
    refine ⟨_, pss_cons (ps_par (i := 2) (j := 3) rfl nd rfl rfl (by decide) rfl rfl (pa_cons (pe_op op_add pe_int (pe_call GT hr (by rfl) DT.g DT.kp DT.b .nil pass0 (pa_cons (pv 0) (pa_cons (pv 1) pa_nil)))) (pa_cons (pe_lst pa_nil) pa_nil)) rfl)
      (pss_cons (ps_for PassesOwn.never rfl (pi_range1 (by rfl) B.range (pa_cons (pv 2) pa_nil)) (pg_name (i := 4) nd rfl (Or.inl rfl))
        (pss_cons (ps_setLc (i := 5) (own := [("_law_one", 6)]) (g := gName 6) rfl nd rfl rfl (sw_true rfl rfl rfl (by decide +kernel)) (pi_range1 (by rfl) B.range (pa_cons (pv 2) pa_nil))
          (blkOk_by (own := [("_law_one", 6)]) (N := ["_law_row", "_law_most", "_law_many", "_law_found", "_law_clerk", "_law_sights", "_law_one"]) (sc := defScope sLHouse) (by decide +kernel)) (fun _ _ _ _ _ => pg_name (i := 6) nd rfl (Or.inl rfl))
          (fun _ _ _ _ _ => pts_one (pt_cmp (pc_eqI (pe_call GT hr (by rfl) DT.g DT.kp DT.b .nil pass0 (pa_cons (pv 0) (pa_cons pe_int pa_nil))) pe_int))) (fun _ _ _ _ _ => pv 6))
        (pss_one (ps_expr (pe_bm PySem.F.plainAttrs_list PySem.F.slot_list_append PySem.F.type_list_append mt_append (pv 3) (pa_cons (pe_ifExp (pt_cmpR (op_neIL hr.units) (pv 5) (pe_lst pa_nil) (nomark _)) (pe_callTy call_tuple_of (by rfl) B.tuple boot_tuple (pa_cons (pv 5) pa_nil))
          (pe_tup (pa_cons (pe_call GT hr (by rfl) DT.g DT.kp DT.b .nil pass0 (pa_cons (pv 0) (pa_cons (pv 2) pa_nil))) pa_nil))) pa_nil))))))
      (pss_one (ps_ret (pe_callTy call_tuple_of (by rfl) B.tuple boot_tuple (pa_cons (pv 3) pa_nil))))), ?_⟩
    refine ⟨_, rfl, _, rfl, p, sp, most, rfl, h0, by omega, hs, hrow, hT, fun d H1 hd e1 r1 t1 => ⟨_, _, rfl, rfl, Nat.zero_le _, fun D hD => ⟨_, _, rfl, ?_⟩⟩⟩
    have em : (1 + (d : Int)) = ((1 + d : Nat) : Int) := rfl
    have hDp : D ≠ p := row_ne r1 hD
    let many := 1 + d
    have hm7 : many ≤ 7 := by show 1 + d ≤ 7; omega
    let EE : Hp → Prop := fun H' => ExR p H H' ∧ RowAt H' p sp
    have ek : EK EE D := ek_dr e1 hD hDp
    let R : Nat → V → Hp → Prop := fun j y H' => ∃ r, (r ≠ [] ∧ lotN many r = true) ∧ TupI K H' y r
    have kp : Kp R := fun j y Ha Hb e a => let ⟨r, h1, h2⟩ := a; ⟨r, h1, h2.exV e⟩
    have g0 : Gr EE T D R 0 (upd H1 D (.lst [])) := Gr.start ⟨exR_ext e1 (extN_new hD), r1.ext (extN_new hD)⟩ t1 hD
    refine ⟨_, rfl, ((many : Nat) : Int), rfl, by omega, by omega, ?_⟩
    rw [Int.toNat_natCast]
    refine for_range (lo := 0) (n := many) (fun i σ H' => Gr EE T D R i H' ∧ ∃ v4 v5, σ = [some (.ref p), some (nv most), some (nv many), some (.ref D), v4, v5, none]) ⟨g0, none, none, rfl⟩ ?_ ?_
    · rintro i σ H' hi ⟨g, v4, v5, rfl⟩
      refine ⟨_, rfl, ((many : Nat) : Int), rfl, by omega, by omega, fun L hL => ?_⟩
      rw [Int.toNat_natCast]
      have hLp : L ≠ p := row_ne g.e.2 hL
      have hLD : L ≠ D := fun z => by
        obtain ⟨acc, q, _⟩ := g.d
        rw [z, q] at hL
        cases hL
      refine lc_range (lo := 0) (n := many) (fun j H4 => Gr EE T D R i H4 ∧ ∃ r : List Nat, H4 L = some (.lst (r.map nv)) ∧ r.Pairwise (· < ·) ∧ ∀ x ∈ r, x < j) ⟨g.new ek kp hL, [], upd_same, .nil, fun x hx => (by cases hx)⟩ ?_ ?_
      · rintro j H4 hj ⟨g4, r, hr1, hr2, hr3⟩
        refine ⟨rfl, ?_⟩
        refine ⟨_, rfl, p, sp, 2, rfl, by decide, by decide, hs.ext g4.e.1, g4.e.2, g4.t, fun d2 H5 hd2 e5 r5 t5 => ⟨_, _, rfl, rfl, _, rfl, ?_⟩⟩
        have g5 := g4.drew kp hDp e5 r5 t5
        have hr5 : H5 L = some (.lst (r.map nv)) := e5 _ _ hr1 (lst_ne _) hLp
        have rl : r.length ≤ j := by
          have := asc_len j r 0 hr2 (fun x hx => ⟨Nat.zero_le _, hr3 x hx⟩) (Nat.zero_le _)
          omega
        by_cases c : ((d2 : Int) = 0)
        · refine iteOf (decide_eq_true c) (iteT ⟨_, rfl, r.map nv, hr5, ?_, ?_, r ++ [j], ?_, ?_, ?_⟩)
          · rw [List.length_map]
            exact Nat.lt_of_le_of_lt (Nat.le_trans rl (by omega : j ≤ 7)) (by rw [sizeLine_eq]; decide)
          · refine g5.move kp ⟨g5.e.1.upd fun b o hb hn hm => ?_, ?_⟩ (tabs_lst g5.t hr5) (fun acc h => by rw [upd_ne (fun z => hLD z.symm)]; exact h) (exV_lst hr5)
            · exact g.e.1.nw hL b o hb hn hm
            · obtain ⟨k1, m1, q1, z⟩ := g5.e.2
              exact ⟨k1, m1, q1, by rw [upd_ne (fun z => hLp z.symm)]; exact z⟩
          · rw [upd_same, List.map_append]
            show some (HO.lst (r.map nv ++ [V.int (0 + (j : Int))])) = some (HO.lst (r.map nv ++ [nv j]))
            rw [Int.zero_add]
          · exact List.pairwise_append.mpr ⟨hr2, List.pairwise_singleton _ _, fun x hx y hy => by rw [List.mem_singleton.mp hy]; exact hr3 x hx⟩
          · intro x hx
            rcases List.mem_append.mp hx with h | h
            · exact Nat.lt_succ_of_lt (hr3 x h)
            · rw [List.mem_singleton.mp h]; exact Nat.lt_succ_self _
        · exact iteOf (decide_eq_false c) (iteF ⟨g5, r, hr5, hr2, fun x hx => Nat.lt_succ_of_lt (hr3 x hx)⟩)
      · rintro H4 ⟨g4, r, hr1, hr2, hr3⟩
        obtain ⟨acc4, ha4, _, _⟩ := g4.d
        refine ⟨_, rfl, .inl ⟨rfl, acc4, SqL.of ha4⟩, _, rfl, Nat.zero_le _, fun q hq => ?_⟩
        have g5 := g4.new (o := .lst []) ek kp hq
        have hr5 : upd H4 q (.lst []) L = some (.lst (r.map nv)) := upd_lst hq hr1
        refine ⟨L, q, r.map (fun n : Nat => (n : Int)), [], rfl, rfl, SqL.of (by rw [hr5, mapNv]), SqL.of upd_same, _, rfl, ite_join (fun x Hw => Gr EE T D R i Hw ∧ R i x Hw) ?_ (fun c G k => ?_) (fun c G k => ?_)⟩
        case refine_2 =>
          have hne : r ≠ [] := fun z => by rw [z] at c; cases c
          refine ⟨_, rfl, L, _, rfl, .inl ⟨SqL.of hr5, fun l hl => k _ _ ⟨g5.new ek kp hl, r, ⟨hne, ?_⟩, l, rfl, SqT.of upd_same⟩⟩⟩
          have e : lotN many r = ((r.all fun m => decide (m < many)) && ascN r) := rfl
          rw [e, (ascN_pw r).mpr hr2, Bool.and_true]
          exact List.all_eq_true.mpr fun x hx => decide_eq_true (hr3 x hx)
        case refine_3 =>
          refine ⟨_, rfl, _, rfl, p, sp, many, rfl, by show 0 < 1 + d; omega, by omega, hs.ext g5.e.1, g5.e.2, g5.t, fun d2 H5 hd2 e5 r5 t5 => ⟨by show 1 ≤ _; decide, fun l hl => ?_⟩⟩
          have g6 := g5.drew kp hDp e5 r5 t5
          refine k _ _ ⟨g6.new ek kp hl, [d2], ⟨by simp, ?_⟩, l, rfl, SqT.of upd_same⟩
          have e : lotN many [d2] = (([d2].all fun m => decide (m < many)) && ascN [d2]) := rfl
          rw [e, (ascN_pw [d2]).mpr (List.pairwise_singleton _ _), Bool.and_true]
          simpa using hd2
        rintro x H5 ⟨g6, hx⟩
        obtain ⟨acc, k1, k2, k3⟩ := g6.push ek kp (by omega) hx
        exact ⟨D, acc, _, rfl, rfl, k1, k2, k3, _, _, rfl⟩
    · rintro σ H' ⟨g, v4, v5, rfl⟩
      obtain ⟨acc, h1, h2, h3⟩ := g.d
      obtain ⟨h, k1, k2, k3⟩ := acc_ex (F := fun j y r => (r ≠ [] ∧ lotN many r = true) ∧ TupI K H' y r) (acc := acc) (k := 0) (fun j y hy => h3 j y hy)
      have hlen : h.length = many := by rw [k1, h2]
      refine ⟨_, rfl, D, acc, rfl, .inl ⟨SqL.of h1, fun l hl => ?_⟩⟩
      refine kQ (.ref l) h _ ⟨l, acc, rfl, SqT.of upd_same, L2.Paired.mapP k2 fun y r z => ?_⟩ ⟨by omega, by omega, fun r hr => ?_⟩ (by omega) ⟨exR_ext g.e.1 (extN_new hl), g.e.2.ext (extN_new hl), tabs_new g.t hl⟩
      · obtain ⟨j, _, z⟩ := z
        exact z.exV (exV_new hl)
      · obtain ⟨j, hj⟩ := List.getElem?_of_mem hr
        obtain ⟨y, _, z, _⟩ := k3 j r hj
        rw [hlen]
        exact z
end
end K60
set_option Elab.async false
set_option linter.all false
set_option maxRecDepth 100000
set_option maxHeartbeats 4000000
/-! law: rules -/
namespace K60
open PySem PySem.Spec PyProof.Rows L2 Gx RZ TL
open LamX (TabB Tabs TabS CodeO ExtN)
abbrev sLRules : Stmt := top 40
theorem scLRules : FnScope ["_law_row", "_law_house_here", "_law_signs", "_law_tables", "_law_sights", "_law_at"] ["_law_row", "_law_house_here"] (defScope sLRules) := ⟨rfl, rfl, rfl, by decide +kernel, rfl, by decide +kernel, by decide +kernel⟩
def spLRules (K : PySem.W.Frag) (T : List (Addr × Str)) : Sp := fun vs H Q _ => ∃ (p sp : Addr) (hv : V) (h : List (List Nat)), vs = [.ref p, hv] ∧ TupR K H hv h ∧ OkH h ∧ Scr K H sp p ∧ RowAt H p sp ∧ Tabs T H ∧
  ∀ (v : V) (s : Nat) (ts : List (List Nat)) H', RulesAt K H' v s ts → OkR h s ts → Dr p sp T H H' → Q v H'
section
variable {P : Program} {w : World} {K : PySem.W.Frag} {mg : Str → Option Value} {base : Heap} {T : List (Addr × Str)}
theorem ok_lrules {f fT fP : Addr} {fd fdT fdP : FuncData} (F : Fun K "_law_rules" "_law_rules" sLRules f fd) (B : Bl mg) (DT : Df K mg "_law_taken" sTaken ["_law_row", "_law_many"] fT fdT)
    (DP : Df K mg "_law_power" sLPow ["_law_one", "_law_many"] fP fdP) : FnOk P w K mg base CX0 2 f fd ["_law_row", "_law_house_here"] (spLRules K T) := by
  have GT : FnOk P w K mg base CX0 1 fT fdT ["_law_row", "_law_many"] (spTaken K T) := ok_taken DT.F B
  have GP : FnOk P w K mg base CX0 1 fP fdP ["_law_one", "_law_many"] spLPow := ok_lpow DP.F B
  refine F.ok scLRules (fun vs H Q E h => ?_) (fun cdv A outer s H vs Q E hr h => ?_)
  · obtain ⟨p, sp, hv, h, rfl, _⟩ := h
    rfl
  · obtain ⟨p, sp, hv, h, rfl, hH, okh, hs, hrow, hT, kQ⟩ := h
    have nd := scLRules.nd
    refine ⟨_, pss_cons (ps_asg (pe_tup (pa_cons (pe_op op_add pe_int (pe_callTy call_int1 (by rfl) B.int boot_int (pa_cons (pe_cmp (pc_eqI (pe_call GT hr (by rfl) DT.g DT.kp DT.b .nil pass0 (pa_cons (pv 0) (pa_cons pe_int pa_nil))) pe_int) rfl) pa_nil))) (pa_cons (pe_lst pa_nil) pa_nil)))
        (pg2 K 2 3 rfl rfl nd rfl rfl (Or.inr rfl) (Or.inl rfl) (Or.inl rfl) (Or.inl rfl)))
      (pss_cons (ps_for PassesOwn.never rfl (pi_tup (pv 1)) (pg_name (i := 4) nd rfl (Or.inl rfl))
        (pss_one (ps_expr (pe_bm PySem.F.plainAttrs_list PySem.F.slot_list_append PySem.F.type_list_append mt_append (pv 3) (pa_cons (pe_callTy call_tuple_of (by rfl) B.tuple boot_tuple (pa_cons
          (pe_lc (own := [("_law_at", 5)]) (g := gName 5) (tt := tYes) rfl nd (pi_range1 (by rfl) B.range (pa_cons (pe_call GP hr (by rfl) DP.g DP.kp DP.b .nil pass0 (pa_cons (pv 2) (pa_cons (pe_callB (lenK K rfl) (by rfl) B.len PySem.boot_len (pa_cons (pv 4) pa_nil)) pa_nil))) pa_nil))
            (blkOk_by (own := [("_law_at", 5)]) (N := ["_law_row", "_law_house_here", "_law_signs", "_law_tables", "_law_sights", "_law_at"]) (sc := defScope sLRules) (by decide +kernel)) (fun _ _ _ _ _ => pg_name (i := 5) nd rfl (Or.inl rfl)) (fun _ _ _ _ _ => pts_nil)
            (fun _ _ _ _ _ => pe_call GT hr (by rfl) DT.g DT.kp DT.b .nil pass0 (pa_cons (pv 0) (pa_cons (pv 2) pa_nil)))) pa_nil)) pa_nil)))))
      (pss_one (ps_ret (pe_tup (pa_cons (pv 2) (pa_cons (pe_callTy call_tuple_of (by rfl) B.tuple boot_tuple (pa_cons (pv 3) pa_nil)) pa_nil)))))), ?_⟩
    refine ⟨_, rfl, p, sp, 4, rfl, by decide, by decide, hs, hrow, hT, fun d H1 hd e1 r1 t1 => ?_⟩
    obtain ⟨sg, hsg, hs23⟩ : ∃ sg : Nat, (V.int (2 + (if decide ((d : Int) = 0) = true then 1 else 0))) = nv sg ∧ (sg = 2 ∨ sg = 3) := by
      by_cases c : (d : Int) = 0
      · exact ⟨3, by rw [decide_eq_true c]; rfl, .inr rfl⟩
      · exact ⟨2, by rw [decide_eq_false c]; rfl, .inl rfl⟩
    refine ⟨_, _, rfl, rfl, .inr ⟨_, rfl, _, _, rfl, rfl, Nat.zero_le _, fun D hD => ⟨by show 2 ≤ _; decide, fun u hu => ?_⟩⟩⟩
    have hDp : D ≠ p := row_ne r1 hD
    have eD : ExtN H1 (upd H1 D (.lst [])) := extN_new hD
    have tD : Tabs T (upd H1 D (.lst [])) := tabs_new t1 hD
    have x0 : ExtN H1 (upd (upd H1 D (.lst [])) u (.tup [V.int (2 + (if decide ((d : Int) = 0) = true then 1 else 0)), .ref D])) := extN_upd eD (Nw.ext eD hu)
    have t0 : Tabs T (upd (upd H1 D (.lst [])) u (.tup [V.int (2 + (if decide ((d : Int) = 0) = true then 1 else 0)), .ref D])) := tabs_new tD hu
    have hD0 : (upd (upd H1 D (.lst [])) u (.tup [V.int (2 + (if decide ((d : Int) = 0) = true then 1 else 0)), .ref D])) D = some (.lst []) := upd_lst hu upd_same
    refine ⟨u, _, rfl, SqT.of upd_same, rfl, _, _, rfl, _, _, rfl, rfl, ?_⟩
    let EE : Hp → Prop := fun H' => ExR p H H' ∧ RowAt H' p sp
    have ek : EK EE D := ek_dr e1 hD hDp
    let R : Nat → V → Hp → Prop := fun j y H' => ∃ t, (∃ r, h[j]? = some r ∧ tblB sg r.length t = true) ∧ TupI K H' y t
    have kp : Kp R := fun j y Ha Hb e a => let ⟨r, h1, h2⟩ := a; ⟨r, h1, h2.exV e⟩
    have hs3 : sg ≤ 3 := by omega
    obtain ⟨dh, zs, rfl, hzs, hzp⟩ := id hH
    have hz : ∀ H', EE H' → SqT K H' dh zs := fun H' e => SqT.exV (e.1.V hrow) hzs
    refine ⟨_, rfl, dh, rfl, ⟨_, hz _ ⟨exR_ext e1 x0, r1.ext x0⟩⟩, for_tup (K := K) (a := dh) (xs := zs) (fun i σ H' => Gr EE T D R i H' ∧ ∃ v4, σ = [some (.ref p), some (.ref dh), some (nv sg), some (.ref D), v4, none]) ⟨⟨⟨exR_ext e1 x0, r1.ext x0⟩, t0, [], hD0, rfl, fun j y z => by simp at z⟩, none, ?_⟩ (fun i σ H' _ q => hz _ q.1.e) ?_ ?_⟩
    · rw [← hsg]
      rfl
    · rintro i x σ H' hi ⟨g, v4, rfl⟩
      obtain ⟨r, hr1, b, rfl, hb0⟩ := paired_get hzp hi
      have hin := List.mem_of_getElem? hr1
      have hrl : r.length ≤ 7 := Nat.le_trans (lot_len (okh.row r hin).2) okh.hi
      have hb : SqT K H' b (r.map nv) := SqT.exV (g.e.1.V hrow) hb0
      obtain ⟨acc0, ha0, _, _⟩ := g.d
      have hpw : sg ^ r.length ≤ 2187 := Nat.le_trans (Nat.pow_le_pow_left hs3 _) (Nat.le_trans (Nat.pow_le_pow_right (by decide) hrl) (by decide))
      refine ⟨_, rfl, .inl ⟨rfl, acc0, SqL.of ha0⟩, _, rfl, _, rfl, b, _, rfl, .inr hb, sg, r.length, by rw [List.length_map]; rfl, hs3, by omega, _, rfl, by omega, by omega, fun L hL => ?_⟩
      rw [Int.toNat_natCast]
      have hLp : L ≠ p := row_ne g.e.2 hL
      have hLD : L ≠ D := fun z => by
        rw [z, ha0] at hL
        cases hL
      refine lc_range (lo := 0) (n := sg ^ r.length) (fun j H4 => Gr EE T D R i H4 ∧ ∃ t : List Nat, H4 L = some (.lst (t.map nv)) ∧ t.length = j ∧ ∀ x ∈ t, x < sg) ⟨g.new ek kp hL, [], upd_same, rfl, fun x hx => (by cases hx)⟩ ?_ ?_
      · rintro j H4 hj ⟨g4, t, hr1, hr2, hr3⟩
        refine ⟨rfl, ?_⟩
        refine ⟨_, rfl, _, rfl, p, sp, sg, rfl, by omega, by omega, hs.ext g4.e.1, g4.e.2, g4.t, fun d2 H5 hd2 e5 r5 t5 => ?_⟩
        have g5 := g4.drew kp hDp e5 r5 t5
        have hr5 : H5 L = some (.lst (t.map nv)) := e5 _ _ hr1 (lst_ne _) hLp
        refine ⟨t.map nv, hr5, ?_, ?_, t ++ [d2], ?_, ?_, ?_⟩
        · rw [List.length_map, hr2]
          exact Nat.lt_of_lt_of_le hj (by rw [sizeLine_eq]; omega)
        · refine g5.move kp ⟨g5.e.1.upd fun b o hb hn hm => ?_, ?_⟩ (tabs_lst g5.t hr5) (fun acc h => by rw [upd_ne (fun z => hLD z.symm)]; exact h) (exV_lst hr5)
          · exact g.e.1.nw hL b o hb hn hm
          · obtain ⟨k1, m1, q1, z⟩ := g5.e.2
            exact ⟨k1, m1, q1, by rw [upd_ne (fun z => hLp z.symm)]; exact z⟩
        · rw [upd_same, List.map_append]
          rfl
        · rw [List.length_append, hr2]
          rfl
        · intro x hx
          rcases List.mem_append.mp hx with h | h
          · exact hr3 x h
          · rw [List.mem_singleton.mp h]; exact hd2
      · rintro H4 ⟨g4, t, hr2, hr3, hr4⟩
        refine ⟨L, _, rfl, .inl ⟨SqL.of hr2, fun l hl => ?_⟩⟩
        have g5 := g4.new (o := .tup (t.map nv)) ek kp hl
        have htb : tblB sg r.length t = true := by
          unfold tblB
          rw [decide_eq_true hr3, Bool.true_and]
          exact List.all_eq_true.mpr fun x hx => decide_eq_true (hr4 x hx)
        obtain ⟨acc, k1, k2, k3⟩ := g5.push ek kp (by have := (List.getElem?_eq_some_iff.mp hr1).1; have := okh.hi; omega) ⟨t, ⟨r, hr1, htb⟩, l, rfl, SqT.of upd_same⟩
        exact ⟨D, acc, _, rfl, rfl, k1, k2, k3, _, rfl⟩
    · rintro σ H' ⟨g, v4, rfl⟩
      obtain ⟨acc, h1, h2, h3⟩ := g.d
      obtain ⟨ts, k1, k2, k3⟩ := acc_ex (F := fun j y t => (∃ r, h[j]? = some r ∧ tblB sg r.length t = true) ∧ TupI K H' y t) (acc := acc) (k := 0) (fun j y hy => by rw [Nat.zero_add]; exact h3 j y hy)
      refine ⟨_, rfl, _, rfl, D, acc, rfl, .inl ⟨SqL.of h1, fun l hl => ⟨by show 2 ≤ _; decide, fun q hq => ?_⟩⟩⟩
      have x1 : ExtN H' (upd H' l (.tup acc)) := extN_new hl
      have x2 : ExtN H' (upd (upd H' l (.tup acc)) q (.tup [nv sg, .ref l])) := extN_upd x1 (Nw.ext x1 hq)
      refine kQ (.ref q) sg ts _ ⟨q, .ref l, rfl, SqT.of upd_same, l, acc, rfl, SqT.of (upd_tup hq upd_same), L2.Paired.mapP k2 fun y t z => ?_⟩ ⟨hs23, by rw [k1, h2, hzp.length], fun i r t hr ht => ?_⟩ ⟨exR_ext g.e.1 x2, g.e.2.ext x2, tabs_new (tabs_new g.t hl) hq⟩
      · obtain ⟨j, _, z⟩ := z
        exact (z.exV (exV_new hl)).exV (exV_new hq)
      · obtain ⟨y, _, ⟨r', e1, e2⟩, _⟩ := k3 i t ht
        rw [Nat.zero_add, hr] at e1
        cases e1
        exact e2
end
end K60
set_option Elab.async false
set_option linter.all false
set_option maxRecDepth 100000
set_option maxHeartbeats 4000000
/-! sorted(d.items()), d of ints to ints -/
namespace L2
open PySem PySem.Spec PyProof.Rows L2.DX
abbrev entI (e : Int × Int) : L2.Key × V := (.inl e.1, .int e.2)
section
variable {X : Cx}
def rItemsK : V → List V → Hp → VK → Prop := fun x xs H Q => ∃ (a : Addr) (kvs : List (L2.Key × V)), x = .ref a ∧ xs = [] ∧ H a = some (.dK kvs) ∧ ∀ p, H p = none → Q (.ref p) (upd H p (itemsO p a))
theorem mt_itemsK : MtR X "dict.items" rItemsK := by
  intro pins s σ H x xs v us Q I rx rxs h
  obtain ⟨a, kvs, rfl, rfl, ha, q⟩ := h
  cases rx
  cases rxs
  obtain ⟨z, hd, vs, kv, o, es, ep, ho, hx, hdat, hk, hpr, hn⟩ := dk_of I.hok ha
  refine DT.callItems (es := es) (ep := ep) hd ⟨o, ho, hx, hdat⟩ ?_
  have hf : H s.heap.objs.size = none := I.hok.fresh (Nat.le_refl _)
  exact ⟨.ref s.heap.objs.size, upd H s.heap.objs.size (itemsO s.heap.objs.size a), I.laid (t' := s.toks) (fun b u e => Heap.get?_push_of_some _ e) (Nat.le_refl _) (itemsO_ok (Heap.get?_push_size _ rfl)), rfl, q _ hf⟩
theorem pairs_at {P : Program} {w : World} : ∀ {ks : List (Int × Int)} {vs : List (L2.Key × Value)} {es : List DictEntry}, KV (ks.map entI) vs → Pairs (mixKind P w) es vs → es.length = ks.length ∧ ∀ (j : Nat) (e : DictEntry), es[j]? = some e → ∃ (k : Int × Int) (t u : Tok), ks[j]? = some k ∧ e.key = .int k.1 t ∧ e.val = .int k.2 u
  | [], _, _, .nil, .nil => ⟨rfl, fun j e h => by simp at h⟩
  | _ :: _, _, [], .cons _ _, h => nomatch h
  | k :: ks, _, e :: es, .cons r t, .cons h1 h2 h3 => by
    obtain ⟨hl, ih⟩ := pairs_at t h3
    refine ⟨by rw [List.length_cons, List.length_cons, hl], fun j e' hj => ?_⟩
    cases j with
    | zero =>
      rw [List.getElem?_cons_zero] at hj
      cases hj
      have hk : RelV (kV (.inl k.1)) e.key := by
        rw [show (Sum.inl k.1 : L2.Key) = _ from r.1]
        exact relV_key h1
      obtain ⟨t, ht⟩ := hk
      have hv : RelV (.int k.2) e.val := by rw [h2]; exact r.2
      obtain ⟨u, hu⟩ := hv
      exact ⟨k, t, u, rfl, ht, hu⟩
    | succ j =>
      rw [List.getElem?_cons_succ] at hj
      obtain ⟨k', t, u, e1, e2, e3⟩ := ih j e' hj
      exact ⟨k', t, u, by rw [List.getElem?_cons_succ]; exact e1, e2, e3⟩
theorem pair_same {h : Heap} {v : Value} {x y x' y' : Int} (a : Srt.IsPair h v x y) (b : Srt.IsPair h v x' y') : x = x' ∧ y = y' := by
  obtain ⟨a1, o1, t1, u1, n1, e1, g1, c1, d1⟩ := a
  obtain ⟨a2, o2, t2, u2, n2, e2, g2, c2, d2⟩ := b
  rw [e1] at e2
  cases e2
  rw [g1] at g2
  cases g2
  rw [d1] at d2
  cases d2
  exact ⟨rfl, rfl⟩
open Classical in
/-- the two ints of a pair -/
noncomputable def pairOf (h : Heap) (v : Value) : Int × Int := if x : ∃ p : Int × Int, Srt.IsPair h v p.1 p.2 then x.choose else (0, 0)
theorem pairOf_is {h : Heap} {v : Value} {x y : Int} (a : Srt.IsPair h v x y) : pairOf h v = (x, y) := by
  have hx : ∃ p : Int × Int, Srt.IsPair h v p.1 p.2 := ⟨(x, y), a⟩
  unfold pairOf
  rw [dif_pos hx]
  have q := hx.choose_spec
  obtain ⟨e1, e2⟩ := pair_same q a
  exact Prod.ext e1 e2
/-- sorted(d.items()): pairs by their first -/
def rSortK : List V → Hp → VK → Prop := fun vs H Q => ∃ (p a : Addr) (ks : List (Int × Int)), vs = [.ref p] ∧ H p = some (itemsO p a) ∧ H a = some (.dK (ks.map entI)) ∧ ks.length ≤ 1000 ∧
  ∀ (H' : Hp) (l : Addr) (ps : List (Addr × Int × Int)), (∀ b o, H b = some o → H' b = some o) → H l = none → (ps.map (·.2)).Perm ks → (ps.map (·.2)).Pairwise (fun e f => ¬ f.1 < e.1) → H' l = some (.lst (ps.map fun z => V.ref z.1)) →
    (∀ z ∈ ps, H' z.1 = some (.tup [.int z.2.1, .int z.2.2])) → Q (.ref l) H'
theorem cr_sortedK (hc : X.calm = true) : CallR X (.builtin "sorted") rSortK := by
  intro pins s σ H xs us Q I r h
  obtain ⟨p, a, ks, rfl, hp, ha, hks, q⟩ := h
  obtain rfl := Vals.ref1 r
  have view : s.heap.IsItemsView p a := (show ObjOk X.prog X.w H s.heap p (itemsO p a) from I.hok p _ hp).1
  obtain ⟨z, hd, vs, kv, o, es, ep, ho, hx, hdat, hk, hpr, hn⟩ := dk_of I.hok ha
  obtain ⟨hel, hee⟩ := pairs_at kv hpr
  have l2 : es.size = ks.length := by rw [← hel, Array.length_toList]
  refine DT.sortedI (es := es) (ep := ep) (I.ok.hd hc) view ⟨o, ho, hx, hdat⟩ (by rw [sizeLine_eq]; omega) fun h' tk as hk hlt hl hG => ?_
  have lak : as.length = ks.length := by omega
  have nd : as.Nodup := List.Pairwise.imp (fun h => Nat.ne_of_lt h) hG.rise
  have pr : ∀ (j : Nat) (b : Addr), as[j]? = some b → ∃ (k : Int × Int) (t u : Tok), ks[j]? = some k ∧ h'.get? b = some { cls := .type "tuple", data := .seq #[.int k.1 t, .int k.2 u] } := by
    intro j b hj
    obtain ⟨en, he, hg⟩ := hG.pairs j b hj
    obtain ⟨k, t, u, e1, e2, e3⟩ := hee j en (by rw [Array.getElem?_toList]; exact he)
    exact ⟨k, t, u, e1, by rw [hg, e2, e3]⟩
  have hob : (h'.push { cls := .type "list", data := .seq (as.map Value.ref).toArray }).get? h'.objs.size = some (seqObj "list" (as.map Value.ref).toArray 0) := Heap.get?_push_size _ rfl
  have ka : ∀ b o, h'.get? b = some o → (h'.push { cls := .type "list", data := .seq (as.map Value.ref).toArray }).get? b = some o := fun b o e => Heap.get?_push_of_some _ e
  have ne0 : ∀ b o, h'.get? b = some o → b ≠ h'.objs.size := fun b o e => Nat.ne_of_lt (Heap.lt_size e)
  generalize h'.push { cls := .type "list", data := .seq (as.map Value.ref).toArray } = h2 at hob ka ⊢
  have isP : ∀ (j : Nat) (b : Addr) (k : Int × Int), as[j]? = some b → ks[j]? = some k → Srt.IsPair h2 (.ref b) k.1 k.2 := by
    intro j b k hj hkj
    obtain ⟨k', t, u, e1, e2⟩ := pr j b hj
    rw [hkj] at e1
    cases e1
    exact ⟨b, _, t, u, 0, rfl, ka _ _ e2, rfl, rfl⟩
  have atv : ∀ v ∈ as.map Value.ref, ∃ (j : Nat) (b : Addr) (k : Int × Int), v = .ref b ∧ as[j]? = some b ∧ ks[j]? = some k := by
    intro v hv
    obtain ⟨b, hb, rfl⟩ := List.mem_map.mp hv
    obtain ⟨j, hj⟩ := List.mem_iff_getElem?.mp hb
    obtain ⟨k, _, _, e1, _⟩ := pr j b hj
    exact ⟨j, b, k, rfl, hj, e1⟩
  have pk : ∀ (j : Nat) (b : Addr) (k : Int × Int), as[j]? = some b → ks[j]? = some k → pairOf h2 (.ref b) = k := fun j b k hj hkj => (pairOf_is (isP j b k hj hkj)).trans rfl
  refine wpAny_call_entry PyProof.Rows.slot_list_sort ⟨_, hob, rfl⟩ PyProof.Rows.entry_list_sort
    (SrtO.list_sort_ord (s := { s with heap := h2, toks := tk }) (SrtO.swo_lex (pairOf h2)) hob (by rw [List.length_map, lak, sizeLine_eq]; omega) (fun h2l => SrtO.pairs_sortableO (s := { s with heap := h2, toks := tk }) (by omega) (fun v hv => ?_) fun o e => ?_) fun out hs hb => ⟨.none, rfl, ?_⟩) (PyProof.Rows.args_list_sort _)
  · obtain ⟨j, b, k, rfl, hj, hkj⟩ := atv v hv
    rw [pk j b k hj hkj]
    exact isP j b k hj hkj
  · have e' : some o = some (seqObj "list" (as.map Value.ref).toArray 0) := e.symm.trans hob
    cases e'
    intro c
    exact absurd (Value.type.inj c) (by decide)
  · show EP X pins σ Q (.ref h'.objs.size) { s with heap := sortedHeap h2 h'.objs.size (as.map Value.ref) out.toArray, toks := tk }
    -- the sorted ones, with their ints
    let zs : List (Addr × Int × Int) := out.map fun v => ((match v with | .ref b => b | _ => 0), pairOf h2 v)
    have outv : ∀ v ∈ out, ∃ (j : Nat) (b : Addr) (k : Int × Int), v = .ref b ∧ as[j]? = some b ∧ ks[j]? = some k := fun v hv => atv v (hb.perm.mem_iff.mp hv)
    have hout : out = zs.map fun z => Value.ref z.1 := by
      show out = (out.map _).map _
      rw [List.map_map]
      refine (List.map_id' out).symm.trans (List.map_congr_left fun v hv => ?_)
      obtain ⟨j, b, k, rfl, _, _⟩ := outv v hv
      rfl
    have idx : ∀ z ∈ zs, ∃ (j : Nat), as[j]? = some z.1 ∧ ks[j]? = some z.2 := by
      intro z hz
      obtain ⟨v, hv, rfl⟩ := List.mem_map.mp hz
      obtain ⟨j, b, k, rfl, hj, hkj⟩ := outv v hv
      refine ⟨j, hj, ?_⟩
      show ks[j]? = some (pairOf h2 (.ref b))
      rw [pk j b k hj hkj, hkj]
    have asmap : (as.map Value.ref).map (pairOf h2) = ks := by
      rw [List.map_map]
      apply List.ext_getElem?
      intro j
      rw [List.getElem?_map]
      by_cases hj : j < as.length
      · obtain ⟨k, _, _, e1, _⟩ := pr j _ (List.getElem?_eq_getElem hj)
        rw [List.getElem?_eq_getElem hj, e1]
        exact congrArg some (pk j _ k (List.getElem?_eq_getElem hj) e1)
      · rw [List.getElem?_eq_none (by omega), List.getElem?_eq_none (by omega)]
        rfl
    have hz2 : zs.map (·.2) = out.map (pairOf h2) := by
      show (out.map _).map _ = _
      rw [List.map_map]
      rfl
    have hperm : (zs.map (·.2)).Perm ks := by
      rw [hz2, ← asmap]
      exact hb.perm.map _
    have hsort : (zs.map (·.2)).Pairwise (fun e f => ¬ f.1 < e.1) := by
      rw [hz2, List.pairwise_map]
      refine List.Pairwise.imp (fun {x y} h => ?_) hs
      have h1 := SrtO.lexB_no.mp (show SrtO.lexB (pairOf h2 y) (pairOf h2 x) = false from h)
      exact fun z => h1 (.inl z)
    -- behind the sort
    have kF : ∀ b o, b ≠ h'.objs.size → h2.get? b = some o → (sortedHeap h2 h'.objs.size (as.map Value.ref) out.toArray).get? b = some o := fun b o hb e => (PyProof.Rows.sortedHeap_old hb (Heap.lt_size e)).trans e
    have kS : ∀ b o, s.heap.get? b = some o → (sortedHeap h2 h'.objs.size (as.map Value.ref) out.toArray).get? b = some o := fun b o e => kF b o (ne0 _ _ (hk b o e)) (ka b o (hk b o e))
    obtain ⟨eF, heF⟩ := PyProof.Rows.sortedHeap_at (vs := as.map Value.ref) (out := out.toArray) hob
    have I1 : Inv X pins σ H { s with heap := sortedHeap h2 h'.objs.size (as.map Value.ref) out.toArray, toks := tk } := I.kept (t' := tk) kS
    have hn0 : H h'.objs.size = none := I.hok.fresh (Nat.le_of_lt hlt)
    have hlen : (zs.map fun z => V.ref z.1).length ≤ sizeLine := by
      have e := hperm.length_eq
      rw [List.length_map] at e
      rw [List.length_map, sizeLine_eq]
      omega
    have rv : Vals (zs.map fun z => V.ref z.1) out := by
      have e := vals_maps (fun z : Addr × Int × Int => V.ref z.1) (fun z => Value.ref z.1) zs fun _ _ => rfl
      rw [← hout] at e
      exact e
    have I2 : Inv X pins σ (upd H h'.objs.size (.lst (zs.map fun z => V.ref z.1))) { s with heap := sortedHeap h2 h'.objs.size (as.map Value.ref) out.toArray, toks := tk } :=
      I1.take (h' := sortedHeap h2 h'.objs.size (as.map Value.ref) out.toArray) (t' := tk) (fun b ob _ e => e) (I.fpOk (Nat.le_of_lt hlt) hn0) ⟨hlen, out, eF, rv, heF⟩
    obtain ⟨H2, I3, g, qt⟩ := takeT (P := fun b vs => ∃ (j : Nat) (k : Int × Int), as[j]? = some b ∧ ks[j]? = some k ∧ vs = [.int k.1, .int k.2]) I as _ I2 nd fun b hb => by
      obtain ⟨j, hj⟩ := List.mem_iff_getElem?.mp hb
      obtain ⟨k, t, u, e1, hg⟩ := pr j b hj
      have hbl : s.heap.objs.size ≤ b := Nat.le_of_lt (hG.above b hb)
      refine ⟨hbl, ?_, [.int k.1, .int k.2], ⟨j, k, hj, e1, rfl⟩, fun H3 => ⟨(by rw [sizeLine_eq]; show 2 ≤ 16777216; omega), [Value.int k.1 t, Value.int k.2 u], .cons ⟨t, rfl⟩ (.cons ⟨u, rfl⟩ .nil), ⟨_, kF _ _ (ne0 _ _ hg) (ka _ _ hg), rfl, 0, rfl⟩⟩⟩
      rw [upd_ne (ne0 _ _ hg)]
      exact I.hok.fresh hbl
    have gr : ∀ b o, H b = some o → H2 b = some o := fun b o e => g b o (by rw [upd_ne (ne_of_none e hn0)]; exact e)
    refine ⟨.ref h'.objs.size, H2, I3, rfl, q H2 h'.objs.size zs gr hn0 hperm hsort (g _ _ upd_same) fun z' hz' => ?_⟩
    obtain ⟨i, i1, i2⟩ := idx z' hz'
    obtain ⟨vs, ⟨j, k, j1, j2, ev⟩, hH⟩ := qt z'.1 (List.mem_of_getElem? i1)
    have eij : i = j := (List.getElem?_inj (List.getElem?_eq_some_iff.mp i1).1 nd).mp (i1.trans j1.symm)
    subst eij
    rw [i2] at j2
    cases j2
    rw [ev] at hH
    exact hH
end
end L2
set_option Elab.async false
set_option linter.all false
set_option maxRecDepth 100000
set_option maxHeartbeats 4000000
/-! law: night -/
namespace K60
open PySem PySem.Spec PyProof.Rows L2 Gx RZ TL
open LamX (TabB Tabs TabS CodeO ExtN)
theorem put_entI (ks : List (Int × Int)) (x y : Int) (hn : (ks.map Prod.fst).Nodup) : ∃ ks' : List (Int × Int), putK (ks.map entI) (.inl x) (.int y) = ks'.map entI ∧ (ks'.map Prod.fst).Nodup ∧ ∀ e ∈ ks', e ∈ ks ∨ e = (x, y) := by
  unfold putK
  by_cases c : ((ks.map entI).any fun kv => decide (kv.1 = Sum.inl x)) = true
  · rw [if_pos c]
    refine ⟨ks.map fun e => if e.1 = x then (e.1, y) else e, ?_, ?_, fun e he => ?_⟩
    · rw [List.map_map, List.map_map]
      refine List.map_congr_left fun e _ => ?_
      show (if (Sum.inl e.1 : L2.Key) = Sum.inl x then ((Sum.inl e.1 : L2.Key), V.int y) else entI e) = entI (if e.1 = x then (e.1, y) else e)
      by_cases h : e.1 = x
      · rw [if_pos h, if_pos (by rw [h])]
      · rw [if_neg h, if_neg fun z => h (Sum.inl.inj z)]
    · rw [List.map_map]
      have e : (Prod.fst ∘ fun e : Int × Int => if e.1 = x then (e.1, y) else e) = Prod.fst := by
        funext e
        show (if e.1 = x then (e.1, y) else e).1 = e.1
        split <;> rfl
      rw [e]
      exact hn
    · obtain ⟨u, hu, rfl⟩ := List.mem_map.mp he
      by_cases h : u.1 = x
      · rw [if_pos h]
        exact .inr (by rw [h])
      · rw [if_neg h]
        exact .inl hu
  · rw [if_neg c]
    refine ⟨ks ++ [(x, y)], by rw [List.map_append]; rfl, ?_, fun e he => ?_⟩
    · rw [List.map_append]
      refine List.nodup_append.mpr ⟨hn, by simp, fun a ha b hb => ?_⟩
      have hb' : b = x := by simpa using hb
      subst hb'
      intro z
      subst z
      obtain ⟨u, hu, e⟩ := List.mem_map.mp ha
      exact c (List.any_eq_true.mpr ⟨entI u, List.mem_map.mpr ⟨u, hu, rfl⟩, decide_eq_true (by show (Sum.inl u.1 : L2.Key) = _; rw [e])⟩)
    · rcases List.mem_append.mp he with h | h
      · exact .inl h
      · exact .inr (by simpa using h)
abbrev sLNight : Stmt := top 42
theorem scLNight : FnScope ["_law_row", "_law_house_here", "_law_signs", "_law_lot", "_law_most", "_law_some", "_law_turn"] ["_law_row", "_law_house_here", "_law_signs", "_law_lot", "_law_most"] (defScope sLNight) := ⟨rfl, rfl, rfl, by decide +kernel, rfl, by decide +kernel, by decide +kernel⟩
def spLNight (K : PySem.W.Frag) (T : List (Addr × Str)) : Sp := fun vs H Q _ => ∃ (p sp lot : Addr) (hv : V) (sg most n : Nat), vs = [.ref p, hv, nv sg, .ref lot, nv most] ∧ SqT K H lot ((List.range n).map nv) ∧ 0 < n ∧ n ≤ 7 ∧ 0 < sg ∧ sg ≤ 3 ∧ most ≤ 7 ∧ Scr K H sp p ∧ RowAt H p sp ∧ Tabs T H ∧
  ∀ (v : V) (ps : List (List Nat)) H', TupR K H' v ps → nightB n sg 7 ps = true → Dr p sp T H H' → Q v H'
section
variable {P : Program} {w : World} {K : PySem.W.Frag} {mg : Str → Option Value} {base : Heap} {T : List (Addr × Str)}
theorem ok_lnight {f fT fP : Addr} {fd fdT fdP : FuncData} (F : Fun K "_law_night" "_law_night" sLNight f fd) (B : Bl mg) (DT : Df K mg "_law_taken" sTaken ["_law_row", "_law_many"] fT fdT)
    (DP : Df K mg "_law_pick" sPick ["_law_row", "_law_things"] fP fdP) : FnOk P w K mg base CX0 3 f fd ["_law_row", "_law_house_here", "_law_signs", "_law_lot", "_law_most"] (spLNight K T) := by
  have GT : FnOk P w K mg base CX0 1 fT fdT ["_law_row", "_law_many"] (spTaken K T) := ok_taken DT.F B
  have GP : FnOk P w K mg base CX0 2 fP fdP ["_law_row", "_law_things"] (spPick K T) := ok_pick DP.F B DT
  refine F.ok scLNight (fun vs H Q E h => ?_) (fun cdv A outer s H vs Q E hr h => ?_)
  · obtain ⟨p, sp, lot, hv, sg, most, n, rfl, _⟩ := h
    rfl
  · obtain ⟨p, sp, lot, hv, sg, most, n, rfl, hlot, hn0, hn7, hs0, hs3, hm, hs, hrow, hT, kQ⟩ := h
    have nd := scLNight.nd
    have hu1 : (A.deeper (envOfC "_law_night" (defScope sLNight) s.heap.objs.size f cdv)).units + 1 < cLine := by have := hr.un; omega
    refine ⟨_, pss_cons (ps_set (i := 5) nd rfl (Or.inl rfl) pe_dnewK)
      (pss_cons (ps_for PassesOwn.never rfl (pi_range1 (by rfl) B.range (pa_cons (pe_call GT (hr.mono (by decide)) (by rfl) DT.g DT.kp DT.b .nil pass0 (pa_cons (pv 0) (pa_cons (pe_op op_add (pv 4) pe_int) pa_nil))) pa_nil)) (pg_name (i := 6) nd rfl (Or.inl rfl))
        (pss_one (ps_if (pt_cmpR (op_neD hr.units) (pv 3) (pe_tup pa_nil) (nomark _))
          (pss_one (ps_dput hu1 (pv 5) (pe_call GP hr (by rfl) DP.g DP.kp DP.b .nil pass0 (pa_cons (pv 0) (pa_cons (pe_callTy call_list_of (by rfl) B.list boot_list (pa_cons (pv 3) pa_nil)) pa_nil))) (pe_call GT (hr.mono (by decide)) (by rfl) DT.g DT.kp DT.b .nil pass0 (pa_cons (pv 0) (pa_cons (pv 2) pa_nil))) (by rfl))) pss_nil)))
      (pss_one (ps_ret (pe_callTy call_tuple_of (by rfl) B.tuple boot_tuple (pa_cons (pe_callB (cr_sortedK rfl) (by rfl) B.sorted boot_sorted (pa_cons (pe_bm0 PySem.F.plainAttrs_dict PySem.F.slot_dict_items PySem.F.type_dict_items mt_itemsK (pv 5)) pa_nil)) pa_nil))))), ?_⟩
    refine fun d hd => ?_
    have d0 : Dr p sp T H (upd H d (.dK [])) := (Dr.start hrow hT).new hd
    have hdp : d ≠ p := row_ne hrow hd
    refine ⟨_, rfl, _, rfl, _, _, rfl, rfl, p, sp, most + 1, rfl, by omega, by omega, hs.ext d0.e, d0.r, d0.t, fun c H1 hc e1 r1 t1 => ⟨_, rfl, by omega, by omega, ?_⟩⟩
    rw [Int.toNat_natCast]
    have d1 := d0.trans e1 r1 t1
    have hd1 : H1 d = some (.dK []) := e1 _ _ upd_same (dK_ne _) hdp
    refine for_range (lo := 0) (n := c) (fun i σ H' => Dr p sp T H H' ∧ (∃ ks : List (Int × Int), H' d = some (.dK (ks.map entI)) ∧ (ks.map Prod.fst).Nodup ∧ ∀ e ∈ ks, (0 ≤ e.1 ∧ e.1 < (n : Int)) ∧ 0 ≤ e.2 ∧ e.2 < (sg : Int)) ∧ ∃ v6, σ = [some (.ref p), some hv, some (nv sg), some (.ref lot), some (nv most), some (.ref d), v6])
      ⟨d1, ⟨[], hd1, .nil, fun e he => (by cases he)⟩, none, rfl⟩ ?_ ?_
    · rintro i σ H' hi ⟨d2, ⟨ks, hk1, hk2, hk3⟩, v6, rfl⟩
      have hlot2 : SqT K H' lot ((List.range n).map nv) := SqT.exV (d2.V hrow) hlot
      refine ⟨_, rfl, Nat.zero_le _, fun q hq => ?_⟩
      have d3 := d2.new (o := .tup []) hq
      have hk3' : upd H' q (.tup []) d = some (.dK (ks.map entI)) := by rw [upd_ne (ne_of_none hk1 hq)]; exact hk1
      have hlot3 : SqT K (upd H' q (.tup [])) lot ((List.range n).map nv) := sqT_upd hq hlot2
      refine ⟨dI (List.range n), .tuple [], TupI.dp ⟨lot, rfl, hlot3⟩, .tup (SqT.of upd_same) .nil, (sh_dI _).ok, (sh_tup (k := 0) (by simp)).ok, _, rfl, ?_⟩
      generalize upd H' q (.tup []) = H3 at d3 hk3' hlot3 ⊢
      have hne : List.range n ≠ [] := fun z => by
        have := congrArg List.length z
        rw [List.length_range] at this
        simp at this
        omega
      rw [eqv_dI_nilB, decide_eq_false hne]
      refine iteT ?_
      refine ⟨_, rfl, _, rfl, p, sp, sg, rfl, hs0, by omega, hs.ext d3.e, d3.r, d3.t, fun y H4 hy e4 r4 t4 => ?_⟩
      have d4 := d3.trans e4 r4 t4
      have hk4 : H4 d = some (.dK (ks.map entI)) := e4 _ _ hk3' (dK_ne _) hdp
      have hlot4 : SqT K H4 lot ((List.range n).map nv) := SqT.exV (e4.V d3.r) hlot3
      refine ⟨_, rfl, _, rfl, _, rfl, lot, _, rfl, .inr hlot4, fun l hl => ?_⟩
      have d5 := d4.new (o := .lst ((List.range n).map nv)) hl
      have hk5 : upd H4 l (.lst ((List.range n).map nv)) d = some (.dK (ks.map entI)) := by rw [upd_ne (ne_of_none hk4 hl)]; exact hk4
      refine ⟨p, sp, l, (List.range n).map nv, rfl, SqL.of upd_same, by simpa using hne, by rw [List.length_map, List.length_range]; omega, row_ne d4.r hl, hs.ext d5.e, d5.r, d5.t, fun v H6 hv6 e6 r6 t6 => ?_⟩
      have d6 := d5.trans e6 r6 t6
      have hk6 : H6 d = some (.dK (ks.map entI)) := e6 _ _ hk5 (dK_ne _) hdp
      obtain ⟨x, hx, rfl⟩ := List.mem_map.mp hv6
      have hx := List.mem_range.mp hx
      obtain ⟨ks', j1, j2, j3⟩ := put_entI ks (x : Int) (y : Int) hk2
      have hkl : ks.length ≤ 7 := by
        have h1 : (ks.map Prod.fst).length ≤ ((List.range 7).map fun i : Nat => (i : Int)).length := nodup_len hk2 fun k hk => by
          obtain ⟨e, he, rfl⟩ := List.mem_map.mp hk
          have := (hk3 e he).1
          exact List.mem_map.mpr ⟨e.1.toNat, List.mem_range.mpr (by omega), by omega⟩
        rw [List.length_map, List.length_map, List.length_range] at h1
        exact h1
      refine ⟨d, upd H6 d (.dK (putK (ks.map entI) (.inl (x : Int)) (nv y))), rfl, .inl ⟨_, .inl (x : Int), hk6, rfl, ?_, rfl⟩, ⟨d6.e.upd fun b o hb hn _ => ne_of_none hb hd, ?_, tabs_dK d6.t hk6⟩, ⟨ks', by rw [upd_same, j1], j2, fun e he => ?_⟩, _, rfl⟩
      · rw [List.length_map]
        exact Nat.lt_of_le_of_lt hkl (by rw [sizeLine_eq]; decide)
      · obtain ⟨k1, m1, q1, z⟩ := d6.r
        exact ⟨k1, m1, q1, by rw [upd_ne (fun z => hdp z.symm)]; exact z⟩
      · rcases j3 e he with h | h
        · exact hk3 e h
        · rw [h]
          exact ⟨⟨by show (0 : Int) ≤ (x : Int); omega, by show (x : Int) < (n : Int); omega⟩, by show (0 : Int) ≤ (y : Int); omega, by show (y : Int) < (sg : Int); omega⟩
    · rintro σ H' ⟨d2, ⟨ks, hk1, hk2, hk3⟩, v6, rfl⟩
      have hkl : ks.length ≤ 7 := by
        have h1 : (ks.map Prod.fst).length ≤ ((List.range 7).map fun i : Nat => (i : Int)).length := nodup_len hk2 fun k hk => by
          obtain ⟨e, he, rfl⟩ := List.mem_map.mp hk
          have := (hk3 e he).1
          exact List.mem_map.mpr ⟨e.1.toNat, List.mem_range.mpr (by omega), by omega⟩
        rw [List.length_map, List.length_map, List.length_range] at h1
        exact h1
      refine ⟨_, rfl, .inr (.inr (.inl ⟨rfl, .inl ⟨_, hk1⟩⟩)), d, _, rfl, rfl, hk1, fun q hq => ?_⟩
      have d3 := d2.new (o := L2.DX.itemsO q d) hq
      refine ⟨q, d, ks, rfl, upd_same, by rw [upd_ne (ne_of_none hk1 hq)]; exact hk1, by omega, fun H4 l ps hkeep hln hperm hsort hl hps => ?_⟩
      have d4 := d3.ext (fun b o e _ => hkeep b o e) (d3.t.ext fun b o e => hkeep b o e)
      refine ⟨l, _, rfl, .inl ⟨SqL.of hl, fun u hu => ?_⟩⟩
      let rs : List (List Nat) := ps.map fun z => [z.2.1.toNat, z.2.2.toNat]
      have inb : ∀ z ∈ ps, (0 ≤ z.2.1 ∧ z.2.1 < (n : Int)) ∧ 0 ≤ z.2.2 ∧ z.2.2 < (sg : Int) := fun z hz => hk3 z.2 (hperm.mem_iff.mp (List.mem_map.mpr ⟨z, hz, rfl⟩))
      refine kQ (.ref u) rs _ ⟨u, _, rfl, SqT.of upd_same, ?_⟩ ?_ (d4.new hu)
      · refine acc_pair (by show (ps.map _).length = (ps.map _).length; rw [List.length_map, List.length_map]) fun j y hy => ?_
        obtain ⟨z, hz, rfl⟩ := map_get hy
        have hb := inb z (List.mem_of_getElem? hz)
        refine ⟨[z.2.1.toNat, z.2.2.toNat], ?_, z.1, rfl, SqT.of ?_⟩
        · show (ps.map fun z => [z.2.1.toNat, z.2.2.toNat])[j]? = _
          rw [List.getElem?_map, hz]
          rfl
        · have e := hps z (List.mem_of_getElem? hz)
          rw [upd_ne (ne_of_none e hu), e]
          show _ = some (HO.tup [V.int (z.2.1.toNat : Int), V.int (z.2.2.toNat : Int)])
          rw [Int.toNat_of_nonneg hb.1.1, Int.toNat_of_nonneg hb.2.1]
      · unfold nightB
        have hpl : ps.length = ks.length := by
          have := hperm.length_eq
          rw [List.length_map] at this
          exact this
        rw [Bool.and_eq_true, Bool.and_eq_true, Bool.and_eq_true]
        refine ⟨decide_eq_true (by show (ps.map _).length ≤ 7; rw [List.length_map]; omega), List.all_eq_true.mpr fun r hr => ?_, List.all_eq_true.mpr fun r hr => ?_, ?_⟩
        · obtain ⟨z, _, rfl⟩ := List.mem_map.mp hr
          rfl
        · obtain ⟨z, hz, rfl⟩ := List.mem_map.mp hr
          have hb := inb z hz
          unfold pairB
          rw [Bool.and_eq_true]
          exact ⟨decide_eq_true (by show z.2.1.toNat < n; omega), decide_eq_true (by show z.2.2.toNat < sg; omega)⟩
        · rw [zip_first]
          refine (ascN_pw _).mpr ?_
          show (List.map (fun p => p.getD 0 0) (ps.map fun z => [z.2.1.toNat, z.2.2.toNat])).Pairwise (· < ·)
          rw [List.map_map, List.pairwise_map]
          have hnd : ((ps.map (·.2)).map Prod.fst).Nodup := (hperm.map Prod.fst).nodup_iff.mpr hk2
          rw [List.map_map] at hnd
          have h1 : ps.Pairwise fun a b => a.2.1 ≠ b.2.1 := List.pairwise_map.mp hnd
          have h2 : ps.Pairwise fun a b => ¬ b.2.1 < a.2.1 := List.pairwise_map.mp hsort
          refine List.Pairwise.imp_of_mem (fun {a b} ha hb h => ?_) (h1.and h2)
          have := inb a ha
          have := inb b hb
          show a.2.1.toNat < b.2.1.toNat
          have := h.1
          have := h.2
          omega
end
end K60
set_option Elab.async false
set_option linter.all false
set_option maxRecDepth 100000
set_option maxHeartbeats 4000000
/-! law: bent -/
namespace K60
open PySem PySem.Spec PyProof.Rows L2 Gx RZ TL
open LamX (TabB Tabs TabS CodeO ExtN)
/-- a line: not long, plain signs, one line -/
structure Ln (B : Nat) (l : Codes) : Prop where
  len : l.length ≤ B
  asc : ∀ c ∈ l, c < 128
  one : 10 ∉ l
theorem Ln.mono {B B' : Nat} {l : Codes} (h : Ln B l) (e : B ≤ B') : Ln B' l := ⟨Nat.le_trans h.len e, h.asc, h.one⟩
theorem Ln.app {B C : Nat} {l m : Codes} (h : Ln B l) (k : Ln C m) : Ln (B + C) (l ++ m) :=
  ⟨by rw [List.length_append]; have := h.len; have := k.len; omega, fun c hc => by rcases List.mem_append.mp hc with h1 | h1; exact h.asc c h1; exact k.asc c h1,
   fun z => by rcases List.mem_append.mp z with h1 | h1; exact h.one h1; exact k.one h1⟩
theorem textOf_asc {B : Nat} {ls : List Codes} (h : ∀ l ∈ ls, Ln B l) : ∀ c ∈ textOf ls, c < 128 := fun c hc => by
  unfold textOf at hc
  obtain ⟨l, hl, hc⟩ := List.mem_flatten.mp hc
  obtain ⟨m, hm, rfl⟩ := List.mem_map.mp hl
  rcases List.mem_append.mp hc with h1 | h1
  · exact (h m hm).asc c h1
  · rw [List.mem_singleton.mp h1]; decide
theorem cut1_text {B : Nat} {ls : List Codes} (h : ∀ l ∈ ls, Ln B l) : cut1 10 (textOf ls) = ls ++ [[]] := cut1_lines fun l hl => (h l hl).one
theorem textOf_snoc' (ls : List Codes) (l : Codes) : (textOf (ls ++ [l])).dropLast = textOf ls ++ l := by
  rw [textOf_snoc, ← List.append_assoc]
  exact List.dropLast_concat
theorem cut1_drop {B : Nat} : ∀ {ls : List Codes} {l : Codes}, (∀ m ∈ ls, Ln B m) → Ln B l → cut1 10 (textOf ls ++ l) = ls ++ [l]
  | [], l, _, h => by simpa [textOf] using cut1_last h.one
  | m :: ls, l, hm, h => by
    have e : textOf (m :: ls) ++ l = m ++ 10 :: (textOf ls ++ l) := by
      unfold textOf
      simp
    rw [e, cut1_piece (hm m List.mem_cons_self).one, cut1_drop (fun x hx => hm x (List.mem_cons_of_mem _ hx)) h]
    rfl
/-- a text of lines, and without its last sign -/
theorem fine_text {B : Nat} {ls : List Codes} (hB : B ≤ 900) (h : ∀ l ∈ ls, Ln B l) (hl : ls.length * (B + 1) ≤ 100000) : Fine (some (textOf ls)) ∧ Sm (some (textOf ls)) := by
  have h1 : (textOf ls).length ≤ 100000 := Nat.le_trans (textOf_len fun l hl => (h l hl).len) hl
  refine ⟨fun l e => ?_, fun l e p hp => ?_⟩
  · cases e
    exact ⟨h1, textOf_asc h⟩
  · cases e
    rw [cut1_text h] at hp
    rcases List.mem_append.mp hp with h2 | h2
    · exact Nat.le_trans (h p h2).len hB
    · rw [List.mem_singleton.mp h2]; exact Nat.zero_le _
theorem fine_drop {B : Nat} {ls : List Codes} (hB : B ≤ 900) (h : ∀ l ∈ ls, Ln B l) (hl : ls.length * (B + 1) ≤ 100000) : Fine (some (textOf ls).dropLast) ∧ Sm (some (textOf ls).dropLast) := by
  have h1 : (textOf ls).length ≤ 100000 := Nat.le_trans (textOf_len fun l hl => (h l hl).len) hl
  refine ⟨fun l e => ?_, fun l e p hp => ?_⟩
  · cases e
    exact ⟨by rw [List.length_dropLast]; omega, fun c hc => textOf_asc h c (List.dropLast_subset _ hc)⟩
  · cases e
    by_cases c : ls = []
    · subst c
      have e : cut1 10 (textOf []).dropLast = [[]] := rfl
      rw [e] at hp
      rw [List.mem_singleton.mp hp]; exact Nat.zero_le _
    · have hne := List.dropLast_concat_getLast c
      rw [← hne] at hp h
      rw [textOf_snoc', cut1_drop (fun m hm => h m (List.mem_append_left _ hm)) (h _ (List.mem_append_right _ (List.mem_singleton.mpr rfl)))] at hp
      exact Nat.le_trans (h p hp).len hB
theorem fine_lit {l : Codes} (h1 : l.length ≤ 900) (h2 : ∀ c ∈ l, c < 128) : Fine (some l) ∧ Sm (some l) :=
  ⟨fun m e => by cases e; exact ⟨by omega, h2⟩, fun m e p hp => by cases e; exact Nat.le_trans (cut_each hp) h1⟩
theorem cutS_last (l : Codes) : cutS (mk l) none (some (-1)) = mk l.dropLast := by
  unfold cutS
  rw [HT.sIx_none, List.drop_zero]
  have e : HT.sIx (mk l).length (mk l).length (some (-1)) - 0 = l.length - 1 := by
    show (if (-1 : Int) < 0 then ((-1 : Int) + ((mk l).length : Int)).toNat else min (-1 : Int).toNat (mk l).length) - 0 = _
    rw [if_pos (by decide), mk_len]
    omega
  rw [e, List.dropLast_eq_take]
  rfl
/-- some of them -/
theorem cutV_some (ls : List Codes) (lo hi : Option Int) : ∃ us : List Codes, cutV (ls.map tv) lo hi = us.map tv ∧ us.length ≤ ls.length ∧ ∀ u ∈ us, u ∈ ls := by
  refine ⟨(ls.drop (HT.sIx (ls.map tv).length 0 lo)).take (HT.sIx (ls.map tv).length (ls.map tv).length hi - HT.sIx (ls.map tv).length 0 lo), ?_, ?_, fun u hu => List.mem_of_mem_drop (List.mem_of_mem_take hu)⟩
  · unfold cutV
    rw [List.map_take, List.map_drop]
  · rw [List.length_take, List.length_drop]
    omega
theorem ts_join {c : Bool} {t u : TS} {D : Ends} {σ : L2.St} {H : Hp} (P : L2.St → Hp → Prop) (rest : ∀ σ' H', P σ' H' → D.nx σ' H') (h1 : c = true → ∀ D' : Ends, (∀ σ' H', P σ' H' → D'.nx σ' H') → t D' σ H)
    (h2 : c = false → ∀ D' : Ends, (∀ σ' H', P σ' H' → D'.nx σ' H') → u D' σ H) : if c = true then t D σ H else u D σ H := by
  cases c with
  | true => exact h1 rfl D rest
  | false => exact h2 rfl D rest
/-- what stays in bent -/
structure Lk (p sp la ma : Addr) (ls ms : List Codes) (H H' : Hp) : Prop where
  e : ExR p H H'
  r : RowAt H' p sp
  a : H' la = some (.lst (ls.map tv))
  b : H' ma = some (.lst (ms.map tv))
theorem ek_lk {p sp la ma s1 s2 D : Addr} {ls ms u1 u2 : List Codes} {H H0 : Hp} (k : Lk p sp la ma ls ms H H0) (h1 : H0 s1 = some (.lst (u1.map tv))) (h2 : H0 s2 = some (.lst (u2.map tv))) (hD : H0 D = none) :
    EK (fun H' => Lk p sp la ma ls ms H H' ∧ H' s1 = some (.lst (u1.map tv)) ∧ H' s2 = some (.lst (u2.map tv))) D :=
  ⟨fun Ha Hb a e => ⟨⟨exR_ext a.1.e e, a.1.r.ext e, e _ _ a.1.a (lst_ne _), e _ _ a.1.b (lst_ne _)⟩, e _ _ a.2.1 (lst_ne _), e _ _ a.2.2 (lst_ne _)⟩, fun Ha o a => by
    have hp : D ≠ p := row_ne k.r hD
    refine ⟨⟨a.1.e.upd (k.e.nw hD), ?_, by rw [upd_ne (ne_of_none k.a hD)]; exact a.1.a, by rw [upd_ne (ne_of_none k.b hD)]; exact a.1.b⟩, by rw [upd_ne (ne_of_none h1 hD)]; exact a.2.1, by rw [upd_ne (ne_of_none h2 hD)]; exact a.2.2⟩
    obtain ⟨k1, m1, q1, z⟩ := a.1.r
    exact ⟨k1, m1, q1, by rw [upd_ne (fun z => hp z.symm)]; exact z⟩⟩
def sfx : List Codes := [" ", " 0", " 1", "0", "x", " 7"].map cs
theorem sfx_tv : [V.str (Str.ofString " "), V.str (Str.ofString " 0"), V.str (Str.ofString " 1"), V.str (Str.ofString "0"), V.str (Str.ofString "x"), V.str (Str.ofString " 7")] = sfx.map tv := by
  rw [lit_tv " ", lit_tv " 0", lit_tv " 1", lit_tv "0", lit_tv "x", lit_tv " 7"]
  rfl
theorem sfx_ln : ∀ l ∈ sfx, Ln 10 l := fun l hl => by
  have e : sfx = [[32], [32, 48], [32, 49], [48], [120], [32, 55]] := by decide
  rw [e] at hl
  simp only [List.mem_cons, List.not_mem_nil, or_false] at hl
  rcases hl with rfl | rfl | rfl | rfl | rfl | rfl <;> exact ⟨by decide, by decide, by decide⟩
abbrev sBent : Stmt := top 38
theorem scBent : FnScope ["_law_row", "_law_lines_here", "_law_more", "_law_k", "_law_kind", "_law_bent_here", "_law_text", "_law_line"] ["_law_row", "_law_lines_here", "_law_more"] (defScope sBent) := ⟨rfl, rfl, rfl, by decide +kernel, rfl, by decide +kernel, by decide +kernel⟩
def spBent (K : PySem.W.Frag) (T : List (Addr × Str)) : Sp := fun vs H Q _ => ∃ (p sp la ma : Addr) (ls ms : List Codes), vs = [.ref p, .ref la, .ref ma] ∧ H la = some (.lst (ls.map tv)) ∧ H ma = some (.lst (ms.map tv)) ∧ ms ≠ [] ∧ ms.length ≤ 60 ∧ ls.length ≤ 60 ∧ (∀ l ∈ ls, Ln 400 l) ∧ (∀ l ∈ ms, Ln 400 l) ∧ la ≠ p ∧ ma ≠ p ∧
  Scr K H sp p ∧ RowAt H p sp ∧ Tabs T H ∧ ∀ (v : V) (o : Option Codes) H', TxV v o → Fine o → Sm o → Dr p sp T H H' → Q v H'
section
variable {P : Program} {w : World} {K : PySem.W.Frag} {mg : Str → Option Value} {base : Heap} {T : List (Addr × Str)}
theorem ok_bent {f fT fP : Addr} {fd fdT fdP : FuncData} (F : Fun K "_law_bent" "_law_bent" sBent f fd) (B : Bl mg) (DT : Df K mg "_law_taken" sTaken ["_law_row", "_law_many"] fT fdT)
    (DP : Df K mg "_law_pick" sPick ["_law_row", "_law_things"] fP fdP) : FnOk P w K mg base CX0 3 f fd ["_law_row", "_law_lines_here", "_law_more"] (spBent K T) := by
  have GT : FnOk P w K mg base CX0 1 fT fdT ["_law_row", "_law_many"] (spTaken K T) := ok_taken DT.F B
  have GP : FnOk P w K mg base CX0 2 fP fdP ["_law_row", "_law_things"] (spPick K T) := ok_pick DP.F B DT
  refine F.ok scBent (fun vs H Q E h => ?_) (fun cdv A outer s H vs Q E hr h => ?_)
  · obtain ⟨p, sp, la, ma, ls, ms, rfl, _⟩ := h
    rfl
  · obtain ⟨p, sp, la, ma, ls, ms, rfl, hla, hma, hm0, hml, hll, hls, hms, hlap, hmap, hs, hrow, hT, kQ⟩ := h
    have nd := scBent.nd
    refine ⟨_, pss_cons (ps_par (i := 3) (j := 4) rfl nd rfl rfl (by decide) rfl rfl (pa_cons (pe_call GT (hr.mono (by decide)) (by rfl) DT.g DT.kp DT.b .nil pass0 (pa_cons (pv 0) (pa_cons (pe_op op_add (pe_callB (lenK K rfl) (by rfl) B.len PySem.boot_len (pa_cons (pv 1) pa_nil)) pe_int) pa_nil)))
          (pa_cons (pe_call GT (hr.mono (by decide)) (by rfl) DT.g DT.kp DT.b .nil pass0 (pa_cons (pv 0) (pa_cons pe_int pa_nil))) pa_nil)) rfl)
      (pss_cons (ps_set (i := 5) nd rfl (Or.inl rfl) (pe_ifExp (pt_cmp (pc_lt (pv 4) pe_int))
        (pe_op op_cat (pe_op op_cat (pe_slice sl_list (pv 1) po_none (po_some (pv 3))) (pe_lst (pa_cons (pe_call GP hr (by rfl) DP.g DP.kp DP.b .nil pass0 (pa_cons (pv 0) (pa_cons (pv 2) pa_nil))) pa_nil))) (pe_slice sl_list (pv 1) (po_some (pv 3)) po_none))
        (pe_op op_cat (pe_slice sl_list (pv 1) po_none (po_some (pv 3))) (pe_slice sl_list (pv 1) (po_some (pe_op op_add (pv 3) pe_int)) po_none))))
      (pss_cons (ps_if (pt_cmp (pc_eqI (pv 4) pe_int)) (pss_one (ps_set (i := 5) nd rfl (Or.inl rfl) (pe_op op_cat (pe_op op_cat (pe_slice sl_list (pv 1) po_none (po_some (pv 3)))
          (pe_lc (own := [("_law_line", 7)]) (g := gName 7) (tt := tYes) rfl nd (pi_list (pe_slice sl_list (pv 1) (po_some (pv 3)) (po_some (pe_op op_add (pv 3) pe_int)))) (blkOk_by (own := [("_law_line", 7)]) (N := ["_law_row", "_law_lines_here", "_law_more", "_law_k", "_law_kind", "_law_bent_here", "_law_text", "_law_line"]) (sc := defScope sBent) (by decide +kernel))
            (fun _ _ _ _ _ => pg_name (i := 7) nd rfl (Or.inl rfl)) (fun _ _ _ _ _ => pts_nil)
            (fun _ _ _ _ _ => pe_op op_addT (pv 7) (pe_call GP hr (by rfl) DP.g DP.kp DP.b .nil pass0 (pa_cons (pv 0) (pa_cons (pe_lst (pa_cons pe_str (pa_cons pe_str (pa_cons pe_str (pa_cons pe_str (pa_cons pe_str (pa_cons pe_str pa_nil))))))) pa_nil))))))
          (pe_slice sl_list (pv 1) (po_some (pe_op op_add (pv 3) pe_int)) po_none)))) pss_nil)
      (pss_cons (ps_if (pt_cmp (pc_eqI (pv 4) pe_int)) (pss_one (ps_set (i := 5) nd rfl (Or.inl rfl) (pe_op op_cat (pe_op op_cat (pe_slice sl_list (pv 1) po_none (po_some (pv 3)))
          (pe_lc (own := [("_law_line", 7)]) (g := gName 7) (tt := tYes) rfl nd (pi_list (pe_slice sl_list (pv 1) (po_some (pv 3)) (po_some (pe_op op_add (pv 3) pe_int)))) (blkOk_by (own := [("_law_line", 7)]) (N := ["_law_row", "_law_lines_here", "_law_more", "_law_k", "_law_kind", "_law_bent_here", "_law_text", "_law_line"]) (sc := defScope sBent) (by decide +kernel))
            (fun _ _ _ _ _ => pg_name (i := 7) nd rfl (Or.inl rfl)) (fun _ _ _ _ _ => pts_nil)
            (fun _ _ _ _ _ => pe_call GP hr (by rfl) DP.g DP.kp DP.b .nil pass0 (pa_cons (pv 0) (pa_cons (pv 2) pa_nil)))))
          (pe_slice sl_list (pv 1) (po_some (pe_op op_add (pv 3) pe_int)) po_none)))) pss_nil)
      (pss_cons (ps_set (i := 6) nd rfl (Or.inl rfl) (pe_join pe_str (pe_lc (own := [("_law_line", 7)]) (g := gName 7) (tt := tYes) rfl nd (pi_list (pv 5)) (blkOk_by (own := [("_law_line", 7)]) (N := ["_law_row", "_law_lines_here", "_law_more", "_law_k", "_law_kind", "_law_bent_here", "_law_text", "_law_line"]) (sc := defScope sBent) (by decide +kernel))
            (fun _ _ _ _ _ => pg_name (i := 7) nd rfl (Or.inl rfl)) (fun _ _ _ _ _ => pts_nil) (fun _ _ _ _ _ => pe_op op_addT (pv 7) pe_str))))
      (pss_one (ps_ret (pe_call GP hr (by rfl) DP.g DP.kp DP.b .nil pass0 (pa_cons (pv 0) (pa_cons (pe_lst (pa_cons (pv 6) (pa_cons (pv 6) (pa_cons (pv 6) (pa_cons (pv 6) (pa_cons (pe_slice sl_str (pv 6) po_none (po_some (pe_un un_neg pe_int)))
        (pa_cons pe_non (pa_cons pe_str (pa_cons pe_int (pa_cons pe_str pa_nil)))))))))) pa_nil))))))))), ?_⟩
    refine ⟨_, rfl, _, rfl, la, _, rfl, .inl (SqL.of hla), _, _, rfl, rfl, p, sp, ls.length + 1, by rw [List.length_map]; rfl, by omega, by omega, hs, hrow, hT, fun kk H1 hk e1 r1 t1 => ⟨_, rfl, p, sp, 7, rfl, by decide, by decide, hs.ext e1, r1, t1, fun kind H2 hkd e2 r2 t2 => ⟨_, _, rfl, ?_⟩⟩⟩
    let Ok : Hp → Prop := fun H' => Dr p sp T H H' ∧ H' la = some (.lst (ls.map tv)) ∧ H' ma = some (.lst (ms.map tv))
    have okN : ∀ H' a o, Ok H' → H' a = none → Ok (upd H' a o) := fun H' a o k h => ⟨k.1.new h, upd_lst h k.2.1, upd_lst h k.2.2⟩
    have okT : ∀ H' H'', Ok H' → ExR p H' H'' → RowAt H'' p sp → Tabs T H'' → Ok H'' := fun H' H'' k e r t => ⟨k.1.trans e r t, exR_lst e k.2.1 hlap, exR_lst e k.2.2 hmap⟩
    have okE : ∀ H' H'', Ok H' → ExtN H' H'' → Tabs T H'' → Ok H'' := fun H' H'' k e t => ⟨k.1.ext e t, e _ _ k.2.1 (lst_ne _), e _ _ k.2.2 (lst_ne _)⟩
    have ok0 : Ok H := ⟨Dr.start hrow hT, hla, hma⟩
    have ok2 : Ok H2 := okT _ _ (okT _ _ ok0 e1 r1 t1) e2 r2 t2
    let P5 : V → Hp → Prop := fun x Hw => ∃ (a : Addr) (us : List Codes), x = .ref a ∧ Ok Hw ∧ Hw a = some (.lst (us.map tv)) ∧ us.length ≤ 200 ∧ ∀ u ∈ us, Ln 410 u
    have hls' : ∀ u ∈ ls, Ln 410 u := fun u hu => (hls u hu).mono (by decide)
    have big : ∀ n : Nat, n ≤ 200 → n ≤ sizeLine := fun n h => small (by omega)
    refine ⟨_, rfl, _, _, rfl, rfl, _, rfl, ite_join P5 ?_ (fun c G k => ?_) (fun c G k => ?_)⟩
    case refine_2 =>
      obtain ⟨u1, c1, l1, m1⟩ := cutV_some ls none (some (kk : Int))
      obtain ⟨u2, c2, l2, m2⟩ := cutV_some ls (some (kk : Int)) none
      refine ⟨_, rfl, _, rfl, _, rfl, la, _, rfl, SqL.of ok2.2.1, fun s1 hs1 => ?_⟩
      rw [c1]
      have ok3 := okN _ _ (.lst (u1.map tv)) ok2 hs1
      have hs1p : s1 ≠ p := row_ne ok2.1.r hs1
      refine ⟨_, rfl, _, rfl, p, sp, ma, ms.map tv, rfl, SqL.of ok3.2.2, by simpa using hm0, by rw [List.length_map]; omega, hmap, hs.ext ok3.1.e, ok3.1.r, ok3.1.t, fun v H4 hv e4 r4 t4 => ⟨by show 1 ≤ _; decide, fun s2 hs2 => ?_⟩⟩
      obtain ⟨u, hu, rfl⟩ := List.mem_map.mp hv
      have ok4 := okT _ _ ok3 e4 r4 t4
      have h14 : H4 s1 = some (.lst (u1.map tv)) := exR_lst e4 upd_same hs1p
      have ok5 := okN _ _ (.lst [tv u]) ok4 hs2
      refine ⟨s1, s2, _, _, rfl, rfl, upd_lst hs2 h14, upd_same, big _ (by rw [List.length_map]; show _ + 1 ≤ 200; omega), fun s3 hs3 => ?_⟩
      have ok6 := okN _ _ (.lst (u1.map tv ++ [tv u])) ok5 hs3
      refine ⟨_, rfl, _, rfl, _, rfl, la, _, rfl, SqL.of ok6.2.1, fun s4 hs4 => ?_⟩
      rw [c2]
      have ok7 := okN _ _ (.lst (u2.map tv)) ok6 hs4
      refine ⟨s3, s4, _, _, rfl, rfl, upd_lst hs4 upd_same, upd_same, big _ (by rw [List.length_append, List.length_map, List.length_map]; show _ + 1 + _ ≤ 200; omega), fun s5 hs5 => ?_⟩
      refine k _ _ ⟨s5, u1 ++ [u] ++ u2, rfl, okN _ _ _ ok7 hs5, by rw [upd_same, List.map_append, List.map_append]; rfl, by rw [List.length_append, List.length_append]; show _ + 1 + _ ≤ 200; omega, fun x hx => ?_⟩
      rcases List.mem_append.mp hx with h | h
      · rcases List.mem_append.mp h with h | h
        · exact hls' x (m1 x h)
        · rw [List.mem_singleton.mp h]; exact (hms u hu).mono (by decide)
      · exact hls' x (m2 x h)
    case refine_3 =>
      obtain ⟨u1, c1, l1, m1⟩ := cutV_some ls none (some (kk : Int))
      obtain ⟨u2, c2, l2, m2⟩ := cutV_some ls (some ((kk : Int) + 1)) none
      refine ⟨_, rfl, _, rfl, _, rfl, la, _, rfl, SqL.of ok2.2.1, fun s1 hs1 => ?_⟩
      rw [c1]
      have ok3 := okN _ _ (.lst (u1.map tv)) ok2 hs1
      refine ⟨_, rfl, _, rfl, _, _, rfl, rfl, _, rfl, la, _, rfl, SqL.of ok3.2.1, fun s4 hs4 => ?_⟩
      rw [c2]
      have ok7 := okN _ _ (.lst (u2.map tv)) ok3 hs4
      refine ⟨s1, s4, _, _, rfl, rfl, upd_lst hs4 upd_same, upd_same, big _ (by rw [List.length_map, List.length_map]; omega), fun s5 hs5 => ?_⟩
      refine k _ _ ⟨s5, u1 ++ u2, rfl, okN _ _ _ ok7 hs5, by rw [upd_same, List.map_append], by rw [List.length_append]; omega, fun x hx => ?_⟩
      rcases List.mem_append.mp hx with h | h
      · exact hls' x (m1 x h)
      · exact hls' x (m2 x h)
    rintro x H3 ⟨a3, us3, rfl, ok3, ha3, hl3, hu3⟩
    -- the state behind each step
    let P6 : L2.St → Hp → Prop := fun σ' H' => ∃ (a : Addr) (us : List Codes), Ok H' ∧ H' a = some (.lst (us.map tv)) ∧ us.length ≤ 200 ∧ (∀ u ∈ us, Ln 410 u) ∧ σ' = [some (.ref p), some (.ref la), some (.ref ma), some (nv kk), some (nv kind), some (.ref a), none, none]
    refine ⟨_, rfl, _, _, rfl, rfl, _, rfl, ts_join P6 ?_ (fun c D' k => ?_) (fun c D' k => ?_)⟩
    case refine_3 => exact k _ _ ⟨a3, us3, ok3, ha3, hl3, hu3, rfl⟩
    case refine_2 =>
      have ok := ok3
      clear ok3
      obtain ⟨u1, c1, l1, m1⟩ := cutV_some ls none (some (kk : Int))
      obtain ⟨u2, c2, l2, m2⟩ := cutV_some ls (some (kk : Int)) (some ((kk : Int) + 1))
      obtain ⟨u3, c3, l3, m3⟩ := cutV_some ls (some ((kk : Int) + 1)) none
      refine ⟨_, rfl, _, rfl, _, rfl, la, _, rfl, SqL.of ok.2.1, fun s1 hs1 => ?_⟩
      rw [c1]
      have ok3 := okN _ _ (.lst (u1.map tv)) ok hs1
      have hs1p : s1 ≠ p := row_ne ok.1.r hs1
      refine ⟨_, rfl, _, rfl, _, rfl, _, rfl, _, _, rfl, rfl, _, rfl, la, _, rfl, SqL.of ok3.2.1, fun s2 hs2 => ?_⟩
      rw [c2]
      have ok4 := okN _ _ (.lst (u2.map tv)) ok3 hs2
      have hs2p : s2 ≠ p := row_ne ok3.1.r hs2
      have h1 : upd (upd H3 s1 (.lst (u1.map tv))) s2 (.lst (u2.map tv)) s1 = some (.lst (u1.map tv)) := upd_lst hs2 upd_same
      have h2 : upd (upd H3 s1 (.lst (u1.map tv))) s2 (.lst (u2.map tv)) s2 = some (.lst (u2.map tv)) := upd_same
      generalize upd (upd H3 s1 (.lst (u1.map tv))) s2 (.lst (u2.map tv)) = H4 at ok4 h1 h2 ⊢
      have lk4 : Lk p sp la ma ls ms H H4 := ⟨ok4.1.e, ok4.1.r, ok4.2.1, ok4.2.2⟩
      refine ⟨s2, rfl, ⟨_, SqL.of h2⟩, fun D hD => ?_⟩
      have ek := ek_lk lk4 h1 h2 hD
      have hDp : D ≠ p := row_ne ok4.1.r hD
      let R : Nat → V → Hp → Prop := fun _ y _ => ∃ u, y = tv u ∧ Ln 410 u
      have kp : Kp R := kp_pure _
      refine lc_list (K := K) (a := s2) (xs := u2.map tv) (Gr (fun H' => Lk p sp la ma ls ms H H' ∧ H' s1 = some (.lst (u1.map tv)) ∧ H' s2 = some (.lst (u2.map tv))) T D R) (Gr.start (ek.ext _ _ ⟨lk4, h1, h2⟩ (extN_new hD)) ok4.1.t hD) (fun i H5 _ g => SqL.of g.e.2.2) ?_ ?_
      · rintro i x H5 hi g
        obtain ⟨wd, hwd, rfl⟩ := map_get hi
        have hwl := m2 wd (List.mem_of_getElem? hwd)
        have hiu := (List.getElem?_eq_some_iff.mp hwd).1
        refine ⟨rfl, ?_⟩
        refine ⟨_, rfl, _, rfl, by show 6 ≤ _; decide, fun q hq => ?_⟩
        rw [sfx_tv]
        have g5 := g.new (o := .lst (sfx.map tv)) ek kp hq
        have hqp : q ≠ p := row_ne g.e.1.r hq
        refine ⟨p, sp, q, sfx.map tv, rfl, SqL.of upd_same, by decide, by decide, hqp, hs.ext g5.e.1.e, g5.e.1.r, g5.t, fun v H6 hv e6 r6 t6 => ?_⟩
        obtain ⟨u, hu, rfl⟩ := List.mem_map.mp hv
        have g6 := g5.move kp ⟨⟨g5.e.1.e.trans e6, r6, exR_lst e6 g5.e.1.a hlap, exR_lst e6 g5.e.1.b hmap⟩, exR_lst e6 g5.e.2.1 hs1p, exR_lst e6 g5.e.2.2 hs2p⟩ t6 (fun acc h => exR_lst e6 h hDp) (e6.V g5.e.1.r)
        have hl6 := (hls wd hwl).app (sfx_ln u hu)
        refine ⟨_, _, rfl, rfl, by have := (hls wd hwl).len; have := (sfx_ln u hu).len; omega, g6.push ek kp (by omega) ⟨wd ++ u, rfl, hl6⟩⟩
      · rintro H5 g
        obtain ⟨acc, j1, j2, j3⟩ := g.d
        obtain ⟨us, q1, q2, q3⟩ := acc_ex (F := fun _ y u => y = tv u ∧ Ln 410 u) (acc := acc) (k := 0) (fun j y hy => j3 j y hy)
        have hus : acc = us.map tv := by
          have : Paired (fun y u => y = tv u) acc us := L2.Paired.mapP q2 fun y u z => by obtain ⟨_, z, _⟩ := z; exact z
          clear q2 q3 q1 j1 j2 j3
          induction this with
          | nil => rfl
          | cons r _ ih => rw [r, ih]; rfl
        have hul : us.length ≤ 60 := by rw [q1, j2, List.length_map]; omega
        have hln : ∀ u ∈ us, Ln 410 u := fun u hu => by
          obtain ⟨j, hj⟩ := List.getElem?_of_mem hu
          obtain ⟨_, _, _, z⟩ := q3 j u hj
          exact z
        rw [hus] at j1
        have ok5 : Ok H5 := ⟨⟨g.e.1.e, g.e.1.r, g.t⟩, g.e.1.a, g.e.1.b⟩
        refine ⟨s1, D, _, _, rfl, rfl, g.e.2.1, j1, big _ (by rw [List.length_map, List.length_map]; omega), fun s3 hs3 => ?_⟩
        have ok6 := okN _ _ (.lst (u1.map tv ++ us.map tv)) ok5 hs3
        refine ⟨_, rfl, _, rfl, _, _, rfl, rfl, _, rfl, la, _, rfl, SqL.of ok6.2.1, fun s4 hs4 => ?_⟩
        rw [c3]
        have ok7 := okN _ _ (.lst (u3.map tv)) ok6 hs4
        refine ⟨s3, s4, _, _, rfl, rfl, upd_lst hs4 upd_same, upd_same, big _ (by rw [List.length_append, List.length_map, List.length_map, List.length_map]; omega), fun s5 hs5 => ?_⟩
        refine k _ _ ⟨s5, u1 ++ us ++ u3, okN _ _ _ ok7 hs5, by rw [upd_same, List.map_append, List.map_append], by rw [List.length_append, List.length_append]; omega, fun x hx => ?_, rfl⟩
        rcases List.mem_append.mp hx with h | h
        · rcases List.mem_append.mp h with h | h
          · exact hls' x (m1 x h)
          · exact hln x h
        · exact hls' x (m3 x h)
    clear ok3 ha3 hl3 hu3 us3 a3 H3
    rintro σ H3 ⟨a3, us3, ok3, ha3, hl3, hu3, rfl⟩
    refine ⟨_, rfl, _, _, rfl, rfl, _, rfl, ts_join P6 ?_ (fun c D' k => ?_) (fun c D' k => ?_)⟩
    case refine_3 => exact k _ _ ⟨a3, us3, ok3, ha3, hl3, hu3, rfl⟩
    case refine_2 =>
      have ok := ok3
      clear ok3
      obtain ⟨u1, c1, l1, m1⟩ := cutV_some ls none (some (kk : Int))
      obtain ⟨u2, c2, l2, m2⟩ := cutV_some ls (some (kk : Int)) (some ((kk : Int) + 1))
      obtain ⟨u3, c3, l3, m3⟩ := cutV_some ls (some ((kk : Int) + 1)) none
      refine ⟨_, rfl, _, rfl, _, rfl, la, _, rfl, SqL.of ok.2.1, fun s1 hs1 => ?_⟩
      rw [c1]
      have ok3 := okN _ _ (.lst (u1.map tv)) ok hs1
      have hs1p : s1 ≠ p := row_ne ok.1.r hs1
      refine ⟨_, rfl, _, rfl, _, rfl, _, rfl, _, _, rfl, rfl, _, rfl, la, _, rfl, SqL.of ok3.2.1, fun s2 hs2 => ?_⟩
      rw [c2]
      have ok4 := okN _ _ (.lst (u2.map tv)) ok3 hs2
      have hs2p : s2 ≠ p := row_ne ok3.1.r hs2
      have h1 : upd (upd H3 s1 (.lst (u1.map tv))) s2 (.lst (u2.map tv)) s1 = some (.lst (u1.map tv)) := upd_lst hs2 upd_same
      have h2 : upd (upd H3 s1 (.lst (u1.map tv))) s2 (.lst (u2.map tv)) s2 = some (.lst (u2.map tv)) := upd_same
      generalize upd (upd H3 s1 (.lst (u1.map tv))) s2 (.lst (u2.map tv)) = H4 at ok4 h1 h2 ⊢
      have lk4 : Lk p sp la ma ls ms H H4 := ⟨ok4.1.e, ok4.1.r, ok4.2.1, ok4.2.2⟩
      refine ⟨s2, rfl, ⟨_, SqL.of h2⟩, fun D hD => ?_⟩
      have ek := ek_lk lk4 h1 h2 hD
      have hDp : D ≠ p := row_ne ok4.1.r hD
      let R : Nat → V → Hp → Prop := fun _ y _ => ∃ u, y = tv u ∧ Ln 410 u
      have kp : Kp R := kp_pure _
      refine lc_list (K := K) (a := s2) (xs := u2.map tv) (Gr (fun H' => Lk p sp la ma ls ms H H' ∧ H' s1 = some (.lst (u1.map tv)) ∧ H' s2 = some (.lst (u2.map tv))) T D R) (Gr.start (ek.ext _ _ ⟨lk4, h1, h2⟩ (extN_new hD)) ok4.1.t hD) (fun i H5 _ g => SqL.of g.e.2.2) ?_ ?_
      · rintro i x H5 hi g
        obtain ⟨wd, hwd, rfl⟩ := map_get hi
        have hwl := m2 wd (List.mem_of_getElem? hwd)
        have hiu := (List.getElem?_eq_some_iff.mp hwd).1
        refine ⟨rfl, ?_⟩
        refine ⟨_, rfl, _, rfl, p, sp, ma, ms.map tv, rfl, SqL.of g.e.1.b, by simpa using hm0, by rw [List.length_map]; omega, hmap, hs.ext g.e.1.e, g.e.1.r, g.t, fun v H6 hv e6 r6 t6 => ?_⟩
        obtain ⟨u, hu, rfl⟩ := List.mem_map.mp hv
        have g6 := g.move kp ⟨⟨g.e.1.e.trans e6, r6, exR_lst e6 g.e.1.a hlap, exR_lst e6 g.e.1.b hmap⟩, exR_lst e6 g.e.2.1 hs1p, exR_lst e6 g.e.2.2 hs2p⟩ t6 (fun acc h => exR_lst e6 h hDp) (e6.V g.e.1.r)
        exact g6.push ek kp (by omega) ⟨u, rfl, (hms u hu).mono (by decide)⟩
      · rintro H5 g
        obtain ⟨acc, j1, j2, j3⟩ := g.d
        obtain ⟨us, q1, q2, q3⟩ := acc_ex (F := fun _ y u => y = tv u ∧ Ln 410 u) (acc := acc) (k := 0) (fun j y hy => j3 j y hy)
        have hus : acc = us.map tv := by
          have : Paired (fun y u => y = tv u) acc us := L2.Paired.mapP q2 fun y u z => by obtain ⟨_, z, _⟩ := z; exact z
          clear q2 q3 q1 j1 j2 j3
          induction this with
          | nil => rfl
          | cons r _ ih => rw [r, ih]; rfl
        have hul : us.length ≤ 60 := by rw [q1, j2, List.length_map]; omega
        have hln : ∀ u ∈ us, Ln 410 u := fun u hu => by
          obtain ⟨j, hj⟩ := List.getElem?_of_mem hu
          obtain ⟨_, _, _, z⟩ := q3 j u hj
          exact z
        rw [hus] at j1
        have ok5 : Ok H5 := ⟨⟨g.e.1.e, g.e.1.r, g.t⟩, g.e.1.a, g.e.1.b⟩
        refine ⟨s1, D, _, _, rfl, rfl, g.e.2.1, j1, big _ (by rw [List.length_map, List.length_map]; omega), fun s3 hs3 => ?_⟩
        have ok6 := okN _ _ (.lst (u1.map tv ++ us.map tv)) ok5 hs3
        refine ⟨_, rfl, _, rfl, _, _, rfl, rfl, _, rfl, la, _, rfl, SqL.of ok6.2.1, fun s4 hs4 => ?_⟩
        rw [c3]
        have ok7 := okN _ _ (.lst (u3.map tv)) ok6 hs4
        refine ⟨s3, s4, _, _, rfl, rfl, upd_lst hs4 upd_same, upd_same, big _ (by rw [List.length_append, List.length_map, List.length_map, List.length_map]; omega), fun s5 hs5 => ?_⟩
        refine k _ _ ⟨s5, u1 ++ us ++ u3, okN _ _ _ ok7 hs5, by rw [upd_same, List.map_append, List.map_append], by rw [List.length_append, List.length_append]; omega, fun x hx => ?_, rfl⟩
        rcases List.mem_append.mp hx with h | h
        · rcases List.mem_append.mp h with h | h
          · exact hls' x (m1 x h)
          · exact hln x h
        · exact hls' x (m3 x h)
    clear ok3 ha3 hl3 hu3 us3 a3 H3
    rintro σ H3 ⟨a3, us3, ok3, ha3, hl3, hu3, rfl⟩
    let R : Nat → V → Hp → Prop := fun j y _ => ∃ u, us3[j]? = some u ∧ y = tv (u ++ [10])
    have kp : Kp R := kp_pure _
    refine ⟨⟨_, rfl⟩, _, rfl, a3, rfl, ⟨_, SqL.of ha3⟩, fun D hD => ?_⟩
    have ek : EK (fun H' => ExtN H3 H') D := ⟨fun Ha Hb a e => a.trans e, fun Ha o a => extN_upd a (Nw.of hD)⟩
    refine lc_list (K := K) (a := a3) (xs := us3.map tv) (Gr (fun H' => ExtN H3 H') T D R) (Gr.start (extN_new hD) ok3.1.t hD) (fun i H5 _ g => SqL.of (g.e _ _ ha3 (lst_ne _))) ?_ ?_
    · rintro i x H5 hi g
      obtain ⟨u, hu, rfl⟩ := map_get hi
      have hiu := (List.getElem?_eq_some_iff.mp hu).1
      have hlu := (hu3 u (List.mem_of_getElem? hu)).len
      refine ⟨rfl, ?_⟩
      exact ⟨_, rfl, _, _, rfl, lit_tv "\n", by rw [show (cs "\n").length = 1 by decide]; omega, g.push ek kp (by omega) ⟨u, hu, rfl⟩⟩
    · rintro H5 g
      obtain ⟨acc, h1, h2, h3⟩ := g.d
      have hacc : acc = us3.map fun u => tv (u ++ [10]) := acc_map (by rw [h2, List.length_map]) h3
      have e2 : acc = ((us3.map fun u => u ++ [10]).map mk).map V.str := by
        rw [hacc, tv_map, List.map_map]
        rfl
      have htl : (textOf us3).length ≤ us3.length * 411 := textOf_len fun u hu => (hu3 u hu).len
      refine ⟨_, D, _, rfl, rfl, .inl (SqL.of (h1.trans (by rw [e2]))), ?_, ?_⟩
      · rw [sum_len]
        show (textOf us3).length + _ * 0 ≤ _
        omega
      have ej : Txt.join (Str.ofString "") ((us3.map fun u => u ++ [10]).map mk) = mk (textOf us3) := by
        rw [mk_lit]
        exact join_mk _
      rw [ej]
      have ok5 : Ok H5 := okE _ _ ok3 g.e g.t
      refine ⟨_, rfl, _, rfl, _, rfl, _, rfl, _, rfl, _, rfl, 1, rfl, -1, rfl, mk (textOf us3), rfl, small (by rw [mk_len]; omega), by show 9 ≤ _; decide, fun q hq => ?_⟩
      rw [cutS_last]
      have ok6 := okN _ _ (.lst [tv (textOf us3), tv (textOf us3), tv (textOf us3), tv (textOf us3), tv (textOf us3).dropLast, .non, .str (Str.ofString ""), .int 3, .str (Str.ofString "\n")]) ok5 hq
      have hsm : us3.length * (410 + 1) ≤ 100000 := by omega
      have f1 := fine_text (ls := us3) (B := 410) (by decide) hu3 hsm
      have f2 := fine_drop (ls := us3) (B := 410) (by decide) hu3 hsm
      refine ⟨p, sp, q, [tv (textOf us3), tv (textOf us3), tv (textOf us3), tv (textOf us3), tv (textOf us3).dropLast, .non, .str (Str.ofString ""), .int 3, .str (Str.ofString "\n")], rfl, SqL.of upd_same, by simp, by show 9 < _; decide, row_ne ok5.1.r hq, hs.ext ok6.1.e, ok6.1.r, ok6.1.t, fun v H6 hv e6 r6 t6 => ?_⟩
      have d6 : Dr p sp T H H6 := ok6.1.trans e6 r6 t6
      have fn : Fine none ∧ Sm none := ⟨fun l e => (by cases e), fun l e => (by cases e)⟩
      simp only [List.mem_cons, List.not_mem_nil, or_false] at hv
      rcases hv with rfl | rfl | rfl | rfl | rfl | rfl | rfl | rfl | rfl
      · exact kQ _ (some _) _ (.inl ⟨_, rfl, rfl⟩) f1.1 f1.2 d6
      · exact kQ _ (some _) _ (.inl ⟨_, rfl, rfl⟩) f1.1 f1.2 d6
      · exact kQ _ (some _) _ (.inl ⟨_, rfl, rfl⟩) f1.1 f1.2 d6
      · exact kQ _ (some _) _ (.inl ⟨_, rfl, rfl⟩) f1.1 f1.2 d6
      · exact kQ _ (some _) _ (.inl ⟨_, rfl, rfl⟩) f2.1 f2.2 d6
      · exact kQ _ none _ (.inr ⟨rfl, .inl rfl⟩) fn.1 fn.2 d6
      · have f := fine_lit (l := cs "") (by decide) (by decide)
        exact kQ _ (some _) _ (.inl ⟨_, lit_tv "", rfl⟩) f.1 f.2 d6
      · exact kQ _ none _ (.inr ⟨rfl, .inr ⟨3, rfl⟩⟩) fn.1 fn.2 d6
      · have f := fine_lit (l := cs "\n") (by decide) (by decide)
        exact kQ _ (some _) _ (.inl ⟨_, lit_tv "\n", rfl⟩) f.1 f.2 d6
end
end K60
set_option Elab.async false
set_option linter.all false
set_option maxRecDepth 100000
set_option maxHeartbeats 4000000
/-! law: told -/
namespace K60
open PySem PySem.Spec PyProof.Rows L2 Gx RZ TL
open LamX (TabB Tabs TabS CodeO ExtN GivesTo)
/-- what told makes of a reading: the error's line in a pair -/
def TToldL (C : Addr) : (XK → Hp → VK → Prop) → Hp → VK → Prop := fun tl H Q =>
  tl (fun cls d H' => cls = .ref C ∧ ∃ (d' : Addr) (n : Nat), d = some d' ∧ H' d' = some (.xd [("line", nv n)]) ∧ ∀ q, H' q = none → Q (.ref q) (upd H' q (.tup [.str (Str.ofString "line"), nv n]))) H Q
theorem takes_len {X : Cx} {W : WX} {n : Nat} (hn : X.N.length = n) (t : Takes X W) : Takes X (fun cls d σ H => σ.length = n → W cls d σ H) := fun u s' ⟨a, B, sI, pins, σ, H, cls, d, e, I, nb, up, sky, na, os, ag, w⟩ =>
  t u s' ⟨a, B, sI, pins, σ, H, cls, d, e, I, nb, up, sky, na, os, ag, w (I.len.trans hn)⟩
theorem told_givesL {X : Cx} {Ng : List Str} {x a q : Str} {sg : Scope} {g C : Addr} {cdg : Value} {j k0 : Nat} {p1 p2 p3 p4 p5 p6 p7 p8 p9 p10 p11 : Pos} (BC : Bad X.K X.mg C) (hge : sg.names.lookup ("BadLine" : Str) = some NameKind.globalImplicit)
    (nd : Ng.Nodup) (hlen : Ng.length = 2) (h1 : Ng[1]? = some ("e" : Str)) (hl1 : sg.names.lookup ("e" : Str) = some NameKind.local) (h0 : ∀ f : Addr, L2.start Ng [V.ref f] = [some (.ref f), none]) :
    GivesTo X Ng x sg g cdg [.Try [.Return (some (.Call (.Name a p1) [] [] p2)) p3] [.ExceptHandler (some (.Name "BadLine" p4)) (some "e") [.Return (some (.Tuple [.Constant (.str "line") j p5, .Attribute (.Name "e" p9) "line" p10] k0 p11)) p6] p7] [] [] p8] a q (TToldL C) := by
  intro f c' s H Q tl act hc h
  have hgl : Gl (cxOf C8.CX0 X.prog X.w X.K X.mg X.base Ng x sg g cdg X.A X.stack s H C8.E0).nox "BadLine" := hge
  refine ⟨_, pss_one (ps_try_as (X := (cxOf C8.CX0 X.prog X.w X.K X.mg X.base Ng x sg g cdg X.A X.stack s H C8.E0).nox) (c := .ref C) (i := 1) (Wout := fun _ _ _ _ => False)
      (tb := fun W D σ H => ∃ Ech : XK, (∀ cls d σ' H', σ'.length = 2 → Ech cls d H' → W cls d σ' H') ∧ σ[0]? = some (some (.ref f)) ∧ H c' = some (CodeO c' q) ∧ tl Ech H D.rt)
      rfl rfl nd h1 hl1 ⟨hgl, by decide, .inl BC.g⟩ LamX.takes0 (fun W pn xe tk _ => ?_) (fun a oe cls d pn hz hvs => pss_one (ps_ret (pe_tup (pa_cons pe_str (pa_cons (pe_xf (C := C) BC.xf BC.nf hz hvs (pe_var (i := 1) h1 (.inl hl1))) pa_nil)))))), ?_⟩
  · refine ⟨fun pins s' σ H' D I h' => ?_⟩
    obtain ⟨Ech, hW, h1, h2, h3⟩ := h'
    have hp := act (fun cls d σ H => σ.length = 2 → W cls d σ H) pn xe Ech p1 p2 (takes_len hlen tk) (fun cls d σ' H' e hl => hW cls d σ' H' hl e)
    have hq := pss_one (ps_ret (pos := p3) hp)
    exact hq.run pins s' σ H' D I ⟨h1, h2, h3⟩
  · refine ⟨fun cls d H' => cls = .ref C ∧ ∃ (d' : Addr) (n : Nat), d = some d' ∧ H' d' = some (.xd [("line", nv n)]) ∧ ∀ q, H' q = none → Q (.ref q) (upd H' q (.tup [.str (Str.ofString "line"), nv n])), ?_, by rw [h0]; rfl, hc, h⟩
    rintro cls d σ' H' hl ⟨rfl, d', n, rfl, hd, hq⟩
    refine ⟨true, BC.te, fun _ a ha => ?_, fun z => (by cases z)⟩
    match σ', hl with
    | [v0, v1], _ =>
      exact ⟨_, rfl, rfl, rfl, d', _, nv n, rfl, hd, by simp, by show 2 ≤ _; decide, hq⟩
end K60
set_option Elab.async false
set_option linter.all false
set_option maxRecDepth 100000
set_option maxHeartbeats 4000000
/-! own texts read back, in plain Lean -/
namespace K60
open PySem PySem.Spec PyProof.Rows L2 TL
theorem lines_own {ls : List Codes} (h : ∀ l ∈ ls, 10 ∉ l) : linesOf (some (textOf ls)) = .ok ls := by
  have e : cut1 10 (textOf ls) = ls ++ [[]] := cut1_lines h
  have e2 := (cut1_end (s := 10) (textOf ls)).mp (by rw [e]; simp)
  show (if textOf ls ≠ [] ∧ (textOf ls).getLast? ≠ some 10 then Except.error ((cut1 10 (textOf ls)).length - 1) else Except.ok (cut1 10 (textOf ls)).dropLast) = _
  rw [if_neg, e, List.dropLast_concat]
  rintro ⟨a, b⟩
  rcases e2 with z | z
  · exact a z
  · exact b z
theorem num_sp {n s : Nat} (h : s < 48 ∨ 57 < s) : s ∉ numL n := numL_free h
theorem fig_num {n m : Nat} (h : n ≤ m) (hm : m ≤ 9) : fig m (numL n) = some n := by
  rw [(num1 (n := n) (by omega)).2]
  show (if 48 ≤ 48 + n ∧ 48 + n ≤ 57 ∧ 48 + n - 48 ≤ m then some (48 + n - 48) else none) = some n
  rw [if_pos ⟨by omega, by omega, by omega⟩, Nat.add_sub_cancel_left]
theorem figs_num {m : Nat} (hm : m ≤ 9) {r : List Nat} (h : ∀ n ∈ r, n ≤ m) : figs m (r.map numL) = some r := by
  unfold figs
  rw [if_pos]
  · congr 1
    rw [List.map_map]
    refine (List.map_congr_left fun n hn => ?_).trans (List.map_id' r)
    show (fig m (numL n)).getD 0 = n
    rw [fig_num (h n hn) hm]
    rfl
  · rw [List.all_map]
    refine List.all_eq_true.mpr fun n hn => ?_
    show (fig m (numL n)).isSome = true
    rw [fig_num (h n hn) hm]
    rfl
theorem wordsT_eq (r : List Nat) : wordsT r = ((r.map numL).map fun w => 32 :: w).flatten := by
  unfold wordsT
  rw [List.map_map]
  rfl
theorem cut_house (k : Nat) (r : List Nat) : cut1 32 (houseLn k r) = headH k ++ r.map numL := by
  have e : houseLn k r = cs "clerk" ++ (([numL k, cs "looks", cs "at"] ++ r.map numL).map fun w => 32 :: w).flatten := by
    unfold houseLn
    rw [wordsT_eq, List.map_append, List.flatten_append]
    have e1 : cs "clerk " = cs "clerk" ++ [32] := by decide
    have e2 : cs " looks at" = 32 :: cs "looks" ++ 32 :: cs "at" := by decide
    rw [e1, e2]
    simp
  rw [e, cut1_words (by decide)]
  · rfl
  · intro q hq
    rcases List.mem_append.mp hq with h | h
    · simp only [List.mem_cons, List.not_mem_nil, or_false] at h
      rcases h with rfl | rfl | rfl
      · exact num_sp (by decide)
      · decide
      · decide
    · obtain ⟨n, _, rfl⟩ := List.mem_map.mp h
      exact num_sp (by decide)
theorem cut_rule (k : Nat) (t : List Nat) : cut1 32 (ruleLn k t) = headR k ++ t.map numL := by
  have e : ruleLn k t = cs "clerk" ++ (([numL k, cs "writes"] ++ t.map numL).map fun w => 32 :: w).flatten := by
    unfold ruleLn
    rw [wordsT_eq, List.map_append, List.flatten_append]
    have e1 : cs "clerk " = cs "clerk" ++ [32] := by decide
    have e2 : cs " writes" = 32 :: cs "writes" := by decide
    rw [e1, e2]
    simp
  rw [e, cut1_words (by decide)]
  · rfl
  · intro q hq
    rcases List.mem_append.mp hq with h | h
    · simp only [List.mem_cons, List.not_mem_nil, or_false] at h
      rcases h with rfl | rfl
      · exact num_sp (by decide)
      · decide
    · obtain ⟨n, _, rfl⟩ := List.mem_map.mp h
      exact num_sp (by decide)
theorem cut_night (ps : List (List Nat)) : cut1 32 (nightLn ps) = cs "night" :: ps.map pairT := by
  have e : nightLn ps = cs "night" ++ ((ps.map pairT).map fun w => 32 :: w).flatten := by
    unfold nightLn
    rw [List.map_map]
    rfl
  rw [e, cut1_words (by decide)]
  intro q hq
  obtain ⟨p, _, rfl⟩ := List.mem_map.mp hq
  unfold pairT
  intro z
  rcases List.mem_append.mp z with z | z
  · rcases List.mem_append.mp z with z | z
    · exact num_sp (by decide) z
    · revert z; decide
  · exact num_sp (by decide) z
theorem cut_pair (a b : Nat) : cut1 61 (pairT [a, b]) = [numL a, numL b] := by
  have e : pairT [a, b] = numL a ++ 61 :: numL b := by
    show numL a ++ cs "=" ++ numL b = _
    rw [show cs "=" = [61] by decide]
    simp
  rw [e, cut1_piece (num_sp (by decide)), cut1_last (num_sp (by decide))]
/-! ### lines that are lines -/
theorem ln_num {k : Nat} (h : k < 10) : Ln 1 (numL k) := ⟨Nat.le_of_eq (num1 h).1, fun c hc => by
  have h9 : ¬ (c < 48 ∨ 57 < c) := fun z => numL_free z hc
  omega, num_sp (by decide)⟩
theorem ln_words {r : List Nat} (h : ∀ n ∈ r, n < 10) : Ln (2 * r.length) (wordsT r) := by
  refine ⟨Nat.le_of_eq (words_len h), fun c hc => ?_, fun z => ?_⟩
  · unfold wordsT at hc
    obtain ⟨l, hl, hc⟩ := List.mem_flatten.mp hc
    obtain ⟨n, hn, rfl⟩ := List.mem_map.mp hl
    rcases List.mem_cons.mp hc with e | e
    · rw [e]; decide
    · exact (ln_num (h n hn)).asc c e
  · unfold wordsT at z
    obtain ⟨l, hl, hc⟩ := List.mem_flatten.mp z
    obtain ⟨n, hn, rfl⟩ := List.mem_map.mp hl
    rcases List.mem_cons.mp hc with e | e
    · cases e
    · exact (ln_num (h n hn)).one e
theorem ln_cs {s : String} {B : Nat} (h : (decide ((cs s).length ≤ B) && ((cs s).all (fun c => decide (c < 128)) && !((cs s).contains 10))) = true) : Ln B (cs s) := by
  rw [Bool.and_eq_true, Bool.and_eq_true] at h
  refine ⟨of_decide_eq_true h.1, fun c hc => of_decide_eq_true (List.all_eq_true.mp h.2.1 c hc), fun z => ?_⟩
  have := h.2.2
  rw [Bool.not_eq_true', List.contains_eq_mem, decide_eq_false_iff_not] at this
  exact this z
theorem ln_house {k : Nat} {r : List Nat} (hk : k < 10) (h : ∀ n ∈ r, n < 10) (hl : r.length ≤ 100) : Ln 400 (houseLn k r) :=
  ((((ln_cs (s := "clerk ") (B := 6) (by decide)).app (ln_num hk)).app (ln_cs (s := " looks at") (B := 9) (by decide))).app (ln_words h)).mono (by omega)
theorem ln_rule {k : Nat} {r : List Nat} (hk : k < 10) (h : ∀ n ∈ r, n < 10) (hl : r.length ≤ 100) : Ln 400 (ruleLn k r) :=
  ((((ln_cs (s := "clerk ") (B := 6) (by decide)).app (ln_num hk)).app (ln_cs (s := " writes") (B := 7) (by decide))).app (ln_words h)).mono (by omega)
theorem ln_signs {k : Nat} (hk : k < 10) : Ln 400 (signsLn k) := ((ln_cs (s := "signs ") (B := 6) (by decide)).app (ln_num hk)).mono (by decide)
theorem ln_night {ps : List (List Nat)} (h : ∀ p ∈ ps, Pr p) (hl : ps.length ≤ 50) : Ln 400 (nightLn ps) := by
  refine ⟨by rw [night_len h]; omega, ?_, ?_⟩
  · intro c hc
    unfold nightLn at hc
    rcases List.mem_append.mp hc with hc | hc
    · exact (ln_cs (s := "night") (B := 5) (by decide)).asc c hc
    · obtain ⟨l, hl, hc⟩ := List.mem_flatten.mp hc
      obtain ⟨p, hp, rfl⟩ := List.mem_map.mp hl
      obtain ⟨a, b, rfl, ha, hb⟩ := (h p hp).two
      rcases List.mem_cons.mp hc with e | e
      · rw [e]; decide
      · exact (((ln_num ha).app (ln_cs (s := "=") (B := 1) (by decide))).app (ln_num hb)).asc c e
  · intro hc
    unfold nightLn at hc
    rcases List.mem_append.mp hc with hc | hc
    · exact (ln_cs (s := "night") (B := 5) (by decide)).one hc
    · obtain ⟨l, hl, hc⟩ := List.mem_flatten.mp hc
      obtain ⟨p, hp, rfl⟩ := List.mem_map.mp hl
      obtain ⟨a, b, rfl, ha, hb⟩ := (h p hp).two
      rcases List.mem_cons.mp hc with e | e
      · cases e
      · exact (((ln_num ha).app (ln_cs (s := "=") (B := 1) (by decide))).app (ln_num hb)).one e
/-! ### read back -/
theorem linesH_ln {h : List (List Nat)} (o : OkH h) : ∀ l ∈ linesH h, Ln 400 l := fun l hl => by
  obtain ⟨j, hj⟩ := List.getElem?_of_mem hl
  have hjh : j < h.length := by
    have := (List.getElem?_eq_some_iff.mp hj).1
    rw [linesH_len] at this
    exact this
  have := linesH_get (List.getElem?_eq_getElem hjh)
  rw [hj] at this
  cases this
  have hm := List.getElem_mem hjh
  exact ln_house (by have := o.hi; omega) (fun n hn => Nat.lt_trans (o.dig _ hm n hn) (by decide)) (Nat.le_trans (lot_len (o.row _ hm).2) (Nat.le_trans o.hi (by decide)))
theorem read_own_house {h : List (List Nat)} (o : OkH h) : readH (some (textOf (linesH h))) = .ok h := by
  unfold readH
  rw [lines_own fun l hl => (linesH_ln o l hl).one]
  have hne : linesH h ≠ [] := fun z => by
    have e : h.length = 0 := by rw [← linesH_len, z]; rfl
    have := o.lo
    omega
  show (if linesH h = [] then Except.error 0 else upto (fun k => ((linesH h)[k]?).bind (rowH (linesH h).length k)) (linesH h).length 0) = _
  rw [if_neg hne, linesH_len]
  refine upto_ok (at_ := 0) fun j r hj => ?_
  rw [Nat.zero_add, linesH_get hj]
  show rowH h.length j (houseLn j r) = some r
  have hm := List.mem_of_getElem? hj
  have hjl := (List.getElem?_eq_some_iff.mp hj).1
  obtain ⟨h1, h2⟩ := o.row r hm
  have e := cut_house j r
  have e4 : (cut1 32 (houseLn j r)).take 4 = headH j := by rw [e]; exact List.take_left' rfl
  have e5 : (cut1 32 (houseLn j r)).drop 4 = r.map numL := by rw [e]; exact List.drop_left' rfl
  rw [rowH_some e4 (by rw [e5]; exact figs_num (by decide) fun n hn => by have := o.dig r hm n hn; omega), if_pos ⟨by have := o.hi; omega, h1, h2⟩]
theorem linesR_ln {h : List (List Nat)} {s : Nat} {ts : List (List Nat)} (oh : OkH h) (h4 : h.length ≤ 4) (o : OkR h s ts) : ∀ l ∈ linesR s ts, Ln 400 l := fun l hl => by
  unfold linesR at hl
  rcases List.mem_cons.mp hl with e | hl
  · rw [e]
    exact ln_signs (by rcases o.sg with e | e <;> omega)
  · obtain ⟨j, hj⟩ := List.getElem?_of_mem hl
    have hjh : j < ts.length := by
      have := (List.getElem?_eq_some_iff.mp hj).1
      rw [List.length_map, List.length_zipIdx] at this
      exact this
    have := rules_get (List.getElem?_eq_getElem hjh)
    rw [hj] at this
    cases this
    have hjl : j < h.length := by rw [← o.len]; exact hjh
    obtain ⟨h1, h2⟩ := tblB_lt (o.tb j _ _ (List.getElem?_eq_getElem hjl) (List.getElem?_eq_getElem hjh))
    have hs : s ≤ 3 := by rcases o.sg with e | e <;> omega
    have hm : h[j].length ≤ 4 := Nat.le_trans (lot_len (oh.row _ (List.getElem_mem hjl)).2) h4
    refine ln_rule (by have := o.len; omega) (fun n hn => by have := h2 n hn; omega) ?_
    rw [h1]
    exact Nat.le_trans (Nat.pow_le_pow_left hs _) (Nat.le_trans (Nat.pow_le_pow_right (by decide) hm) (by decide))
theorem read_own_rules {h : List (List Nat)} {s : Nat} {ts : List (List Nat)} (oh : OkH h) (h4 : h.length ≤ 4) (o : OkR h s ts) : readR h (some (textOf (linesR s ts))) = .ok (s, ts) := by
  unfold readR
  rw [lines_own fun l hl => (linesR_ln oh h4 o l hl).one]
  have hsg : ((linesR s ts)[0]?).bind signsOf = some s := by
    show signsOf (signsLn s) = some s
    rcases o.sg with e | e <;> rw [e] <;> decide +kernel
  have hll : (linesR s ts).length = ts.length + 1 := by
    unfold linesR
    rw [List.length_cons, List.length_map, List.length_zipIdx]
  simp only [hsg]
  have hmx : max (linesR s ts).length (h.length + 1) - 1 = ts.length := by rw [hll, o.len]; omega
  rw [hmx]
  have hu : upto (fun k => tabR h s (k - 1) (if k < (linesR s ts).length then cut1 32 ((linesR s ts).getD k []) else [])) ts.length 1 = .ok ts := by
    refine upto_ok (at_ := 1) fun j t hj => ?_
    have hjl := (List.getElem?_eq_some_iff.mp hj).1
    have hjh : j < h.length := by rw [← o.len]; exact hjl
    have hl : (linesR s ts)[1 + j]? = some (ruleLn j t) := by
      unfold linesR
      rw [Nat.add_comm, List.getElem?_cons_succ]
      exact rules_get hj
    rw [if_pos (by rw [hll]; omega), List.getD_eq_getElem?_getD, hl, Nat.add_sub_cancel_left]
    show tabR h s j (cut1 32 (ruleLn j t)) = some t
    rw [tabR_eq, cut_rule]
    have htb := o.tb j _ t (List.getElem?_eq_getElem hjh) hj
    have hlt := (tblB_lt htb).2
    have hs3 : s ≤ 3 := by rcases o.sg with e | e <;> omega
    have e3 : (headR j ++ t.map numL).take 3 = headR j := List.take_left' rfl
    have e4 : (headR j ++ t.map numL).drop 3 = t.map numL := List.drop_left' rfl
    rw [e3, e4, if_pos rfl, figs_num (by decide) fun n hn => by have := hlt n hn; omega, List.getElem?_eq_getElem hjh]
    exact if_pos htb
  rw [hu]
theorem night_own {n s : Nat} {ps : List (List Nat)} (hn : n ≤ 7) (hs : s ≤ 3) (h : nightB n s 7 ps = true) : nightOf n s (nightLn ps) = some ps := by
  obtain ⟨h7, hp⟩ := nightB_pr hn hs h
  unfold nightOf
  rw [cut_night]
  have hb := h
  unfold nightB at hb
  rw [Bool.and_eq_true, Bool.and_eq_true, Bool.and_eq_true] at hb
  have hf : ∀ p ∈ ps, figs 7 (cut1 61 (pairT p)) = some p := fun p hpp => by
    obtain ⟨a, b, rfl⟩ := two_of (hp p hpp).len
    have hpb := List.all_eq_true.mp hb.2.2.1 _ hpp
    unfold pairB at hpb
    rw [Bool.and_eq_true] at hpb
    have q1 : a < n := of_decide_eq_true hpb.1
    have q2 : b < s := of_decide_eq_true hpb.2
    rw [cut_pair, show ([numL a, numL b] : List Codes) = [a, b].map numL from rfl]
    refine figs_num (by decide) fun m hm => ?_
    simp only [List.mem_cons, List.not_mem_nil, or_false] at hm
    rcases hm with rfl | rfl <;> omega
  have hps : pairsOf (ps.map pairT) = some ps := by
    unfold pairsOf
    rw [if_pos]
    · congr 1
      rw [List.map_map]
      refine (List.map_congr_left fun p hpp => ?_).trans (List.map_id' ps)
      show (figs 7 (cut1 61 (pairT p))).getD [] = p
      rw [hf p hpp]
      rfl
    · rw [List.all_map]
      refine List.all_eq_true.mpr fun p hpp => ?_
      show (figs 7 (cut1 61 (pairT p))).isSome = true
      rw [hf p hpp]
      rfl
  show (match pairsOf (ps.map pairT) with | some ps' => if (cs "night" :: ps.map pairT).head? = some (cs "night") ∧ nightB n s 7 ps' = true then some ps' else none | none => none) = _
  rw [hps]
  exact if_pos ⟨rfl, h⟩
theorem linesN_ln {n s : Nat} {ns : List (List (List Nat))} (hn : n ≤ 7) (hs : s ≤ 3) (o : OkN n s ns) : ∀ l ∈ linesN ns, Ln 400 l := fun l hl => by
  obtain ⟨p, hp, rfl⟩ := List.mem_map.mp hl
  obtain ⟨h7, hpr⟩ := nightB_pr hn hs (o.ok p hp)
  exact ln_night hpr (by omega)
theorem read_own_nights {n s : Nat} {ns : List (List (List Nat))} (hn : n ≤ 7) (hs : s ≤ 3) (o : OkN n s ns) : readN n s (some (textOf (linesN ns))) = .ok ns := by
  unfold readN
  rw [lines_own fun l hl => (linesN_ln hn hs o l hl).one]
  have hll : (linesN ns).length = ns.length := List.length_map _
  show upto (fun k => if k < 200 then ((linesN ns)[k]?).bind (nightOf n s) else none) (linesN ns).length 0 = _
  rw [hll]
  refine upto_ok (at_ := 0) fun j ps hj => ?_
  have hjl := (List.getElem?_eq_some_iff.mp hj).1
  rw [Nat.zero_add, if_pos (by have := o.len; omega)]
  have e : (linesN ns)[j]? = some (nightLn ps) := by
    unfold linesN
    rw [List.getElem?_map, hj]
    rfl
  rw [e]
  exact night_own hn hs (o.ok ps (List.mem_of_getElem? hj))
/-- many nights without a pair -/
theorem read_many {n s : Nat} {many : Nat} : readN n s (some (textOf (List.replicate many (cs "night")))) = if many ≤ 200 then .ok (List.replicate many []) else .error 200 := by
  unfold readN
  rw [lines_own fun l hl => by rw [List.eq_of_mem_replicate hl]; decide]
  show upto (fun k => if k < 200 then ((List.replicate many (cs "night"))[k]?).bind (nightOf n s) else none) (List.replicate many (cs "night")).length 0 = _
  have hno : nightOf n s (cs "night") = some [] := by
    have h0 : nightB n s 7 [] = true := rfl
    unfold nightOf
    have e : cut1 32 (cs "night") = [cs "night"] := by decide
    rw [e]
    rfl
  have hf : ∀ k, k < 200 → k < many → (if k < 200 then ((List.replicate many (cs "night"))[k]?).bind (nightOf n s) else none) = some [] := fun k h1 h2 => by
    rw [if_pos h1, List.getElem?_replicate, if_pos h2]
    exact hno
  rw [List.length_replicate]
  by_cases c : many ≤ 200
  · rw [if_pos c]
    have := upto_ok (f := fun k => if k < 200 then ((List.replicate many (cs "night"))[k]?).bind (nightOf n s) else none) (xs := List.replicate many []) (at_ := 0) fun j x hj => by
      have hjl := (List.getElem?_eq_some_iff.mp hj).1
      rw [List.length_replicate] at hjl
      rw [List.getElem?_replicate, if_pos hjl] at hj
      cases hj
      rw [Nat.zero_add]
      exact hf j (by omega) hjl
    rw [List.length_replicate] at this
    exact this
  · rw [if_neg c]
    have := upto_err (f := fun k => if k < 200 then ((List.replicate many (cs "night"))[k]?).bind (nightOf n s) else none) (xs := List.replicate 200 []) (at_ := 0) (n := many) (fun j x hj => by
      have hjl := (List.getElem?_eq_some_iff.mp hj).1
      rw [List.length_replicate] at hjl
      rw [List.getElem?_replicate, if_pos hjl] at hj
      cases hj
      rw [Nat.zero_add]
      exact hf j hjl (by omega)) (by rw [List.length_replicate]; omega) (by rw [List.length_replicate]; exact if_neg (by decide))
    rw [List.length_replicate, Nat.zero_add] at this
    exact this
end K60
set_option Elab.async false
set_option linter.all false
set_option maxRecDepth 100000
set_option maxHeartbeats 4000000
/-! rules for the law's own def -/
namespace K60
open PySem PySem.Spec PyProof.Rows L2 Gx RZ TL
open LamX (TabB Tabs TabS CodeO ExtN GivesTo)
theorem foldl_rep (l : Codes) : ∀ (k : Nat) (acc : Codes), (List.replicate k l.toArray).foldl (fun a b => a ++ b) acc.toArray = (acc ++ (List.replicate k l).flatten).toArray
  | 0, acc => by simp
  | k + 1, acc => by
    rw [List.replicate_succ, List.foldl_cons, List.replicate_succ, List.flatten_cons]
    have e : acc.toArray ++ l.toArray = (acc ++ l).toArray := by simp
    rw [e, foldl_rep l k (acc ++ l), List.append_assoc]
def rMulT : R2 := fun x y H Q => ∃ (l : Codes) (k : Nat), x = tv l ∧ y = nv k ∧ 2 ≤ k ∧ k ≤ 1000 ∧ l ≠ [] ∧ l.length ≤ 100 ∧ Q (tv (List.replicate k l).flatten) H
theorem op_mulT {X : Cx} : OpR X (binaryOp .Mult) rMulT := by
  intro pins s σ H x y v u Q I rx ry h
  obtain ⟨l, k, rfl, rfl, h2, h3, hne, hl, q⟩ := h
  obtain ⟨t, rfl⟩ := rx
  obtain ⟨t', rfl⟩ := ry
  have hlp : 0 < l.length := List.length_pos_iff.mpr hne
  have e1 : ((k : Int) == 1 || (mk l).length == 0) = false := by
    rw [mk_len, Bool.or_eq_false_iff]
    exact ⟨beq_eq_false_iff_ne.mpr (by omega), beq_eq_false_iff_ne.mpr (by omega)⟩
  have hk : ¬ (k : Int) < 1 := by omega
  have hlk : l.length * k ≤ 100000 := Nat.le_trans (Nat.mul_le_mul hl h3) (by decide)
  refine P.mul_str (by rw [decide_eq_false (by omega), decide_eq_false (by omega)]; rfl) (fun _ _ => ?_) (fun _ _ => ?_) ?_
  · rw [mk_len]
    have : (9223372036854775 : Int) ≤ (2 ^ 63 - 1) / (k : Int) := by
      rw [Int.le_ediv_iff_mul_le (by omega)]
      omega
    omega
  · rw [mk_len, Int.toNat_natCast]
    unfold Builtin.Str.tooLong
    simp only [decide_eq_false_iff_not]
    first | omega | (rw [show sizeLine = 16777216 from sizeLine_eq]; omega)
  · rw [if_neg hk, if_neg (by rw [e1]; decide)]
    have e2 : (⟨(List.replicate (k : Int).toNat (mk l).cps).foldl (· ++ ·) #[]⟩ : Str) = mk (List.replicate k l).flatten := by
      rw [Int.toNat_natCast]
      show Str.mk ((List.replicate k l.toArray).foldl (fun a b => a ++ b) ([] : Codes).toArray) = _
      rw [foldl_rep l k []]
      rfl
    rw [e2]
    have hfl : (List.replicate k l).flatten.length = k * l.length := by
      rw [List.length_flatten, List.map_replicate, List.sum_replicate_nat]
    exact ⟨by rw [mk_len, hfl, Nat.mul_comm]; exact small (by omega), ⟨tv (List.replicate k l).flatten, H, I.tok _, ⟨_, rfl⟩, q⟩⟩
abbrev sTold : Stmt := top 43
theorem scTold : FnScope ["_law_work", "e"] ["_law_work"] (defScope sTold) := ⟨rfl, rfl, rfl, by decide +kernel, rfl, by decide +kernel, by decide +kernel⟩
section
variable {X : Cx}
/-- told(lambda: body) -/
theorem pe_told {T : List (Addr × Str)} {C g c P : Addr} {fdg : FuncData} {k : Nat} {params : Arguments} {body : Expr} {scope : Scope} {t : XK → TE} {p lpos pos : Pos} (hgl : Gl X "_law_told") (D : Df X.K X.mg "_law_told" sTold ["_law_work"] g fdg) (BC : Bad X.K X.mg C)
    (TB : TabB X.base X.mg c P) (hcode : X.env.code = .ref c) (hmT : (P, X.env.qual ++ "<lambda>") ∈ T) (hu : ∀ p ∈ T, p.1 = P → p.2 = X.env.qual ++ "<lambda>") (hr : Room (k + 2) X.A) (L : LamX.LamS X.env.scope scope) (hdef : defaultsOf params X.env = ([], []))
    (hbind : ∀ (q : Str) (cl : List (Str × Addr)) (pm cv ctv : Value), bindArgs (PySem.W.kla_fn "<lambda>" q params body scope cl pm cv ctv) ⟨[], []⟩ = pure [])
    (hbody : ∀ (A : Around) (outer : List Env) (s : Shared) (H : Hp) (E : XK) (f c' : Addr), Room k (A.deeper (LamX.lamEnv X scope s.heap.objs.size f c')) → PE (LamX.lamCx X A outer s H E scope f c') body (t E)) :
    PE X (.Call (.Name "_law_told" p) [.Lambda params body scope lpos] [] pos) (LamX.tLam T (TToldL C) t) := by
  obtain ⟨oc, od, kV, doc, pm, an, cdv, ct, osl, e, lk, hcd⟩ := D.F.ex
  subst e
  exact LamX.pe_lamcall (Ng := ["_law_work", "e"]) hgl D.g D.kp lk hcd D.b scTold rfl (.inl rfl) (told_givesL (k0 := 0) BC rfl scTold.nd rfl rfl rfl (fun _ => rfl)) TB hcode hmT hu hr L hdef hbind hbody
end
end K60
set_option Elab.async false
set_option linter.all false
set_option maxRecDepth 100000
set_option maxHeartbeats 4000000
/-! what the law's own def keeps; data of the answers -/
namespace K60
open PySem PySem.Spec PyProof.Rows L2 Gx RZ TL
open LamX (TabB Tabs TabS CodeO ExtN GivesTo)
theorem scr_start {K : PySem.W.Frag} {H : Hp} {sp p : Addr} {ns : List Int} {o : HO} (h : SqL K H sp (ns.map V.int)) (hp : H p = none) : Scr K (upd H p o) sp p := by
  rcases h with (h | ⟨ob, h⟩) | h
  · exact ⟨ns, .inl ⟨ne_of_none h hp, .inl (.inl (by rw [upd_ne (ne_of_none h hp)]; exact h))⟩⟩
  · exact ⟨ns, .inl ⟨ne_of_none h hp, .inl (.inr ⟨ob, by rw [upd_ne (ne_of_none h hp)]; exact h⟩)⟩⟩
  · exact ⟨ns, .inr fun H' => .inr h⟩
structure Z (K : PySem.W.Frag) (T : List (Addr × Str)) (p sp : Addr) (hv rv nv' : V) (h : List (List Nat)) (sg : Nat) (ts : List (List Nat)) (ns : List (List (List Nat))) (H : Hp) : Prop where
  r : RowAt H p sp
  s : Scr K H sp p
  t : Tabs T H
  a : TupR K H hv h
  b : RulesAt K H rv sg ts
  c : TupN K H nv' ns
section
variable {K : PySem.W.Frag} {T : List (Addr × Str)} {p sp : Addr} {hv rv nv' : V} {h : List (List Nat)} {sg : Nat} {ts : List (List Nat)} {ns : List (List (List Nat))} {H H' : Hp}
theorem Z.ext (z : Z K T p sp hv rv nv' h sg ts ns H) (e : ExtN H H') (t : Tabs T H') : Z K T p sp hv rv nv' h sg ts ns H' := ⟨z.r.ext e, z.s.ext (ExM.of e), t, z.a.ext e, z.b.ext e, z.c.ext e⟩
theorem Z.new (z : Z K T p sp hv rv nv' h sg ts ns H) {a : Addr} {o : HO} (ha : H a = none) : Z K T p sp hv rv nv' h sg ts ns (upd H a o) := z.ext (extN_new ha) (tabs_new z.t ha)
theorem Z.row (z : Z K T p sp hv rv nv' h sg ts ns H) (e : ExR p H H') (r : RowAt H' p sp) (t : Tabs T H') : Z K T p sp hv rv nv' h sg ts ns H' := ⟨r, z.s.ext e, t, z.a.exV (e.V z.r), z.b.exV (e.V z.r), z.c.exV (e.V z.r)⟩
/-- a list that stands is written -/
theorem Z.lst (z : Z K T p sp hv rv nv' h sg ts ns H) {a : Addr} {xs : List V} {o : HO} (ha : H a = some (.lst xs)) (hp : a ≠ p) (hs : Scr K (upd H a o) sp p) : Z K T p sp hv rv nv' h sg ts ns (upd H a o) := by
  refine ⟨?_, hs, tabs_lst z.t ha, z.a.exV (exV_lst ha), z.b.exV (exV_lst ha), z.c.exV (exV_lst ha)⟩
  obtain ⟨k, m, r, q⟩ := z.r
  exact ⟨k, m, r, by rw [upd_ne (fun x => hp x.symm)]; exact q⟩
end
/-! ### sizes -/
theorem fl_dI {r : List Nat} (h : r.length ≤ 16777000) : Fl 1 (dI r) := ⟨by rw [List.length_map]; exact h, fun d hd => by
  obtain ⟨n, _, rfl⟩ := List.mem_map.mp hd
  trivial⟩
theorem fl_dR {rs : List (List Nat)} (h : rs.length ≤ 16777000) (hr : ∀ r ∈ rs, r.length ≤ 16777000) : Fl 2 (dR rs) := ⟨by rw [List.length_map]; exact h, fun d hd => by
  obtain ⟨r, h1, rfl⟩ := List.mem_map.mp hd
  exact fl_dI (hr r h1)⟩
theorem fl_dN {ns : List (List (List Nat))} (h : ns.length ≤ 16777000) (hr : ∀ rs ∈ ns, rs.length ≤ 16777000 ∧ ∀ r ∈ rs, r.length ≤ 16777000) : Fl 3 (dN ns) := ⟨by rw [List.length_map]; exact h, fun d hd => by
  obtain ⟨r, h1, rfl⟩ := List.mem_map.mp hd
  exact fl_dR (hr r h1).1 (hr r h1).2⟩
def dRu (s : Nat) (ts : List (List Nat)) : PyData := .tuple [.int (s : Int), dR ts]
theorem RulesAt.dp {K : PySem.W.Frag} {H : Hp} {v : V} {s : Nat} {ts : List (List Nat)} (h : RulesAt K H v s ts) : Dp K H v (dRu s ts) := by
  obtain ⟨a, x, rfl, h1, h2⟩ := h
  exact .tup h1 (.cons (.int _) (.cons h2.dp .nil))
theorem fl_dRu {s : Nat} {ts : List (List Nat)} (h : ts.length ≤ 16777000) (hr : ∀ r ∈ ts, r.length ≤ 16777000) : Fl 3 (dRu s ts) := ⟨by show 2 ≤ _; decide, fun d hd => by
  rcases List.mem_cons.mp hd with e | hd
  · rw [e]; trivial
  · rw [List.mem_singleton.mp hd]
    exact fl_dR h hr⟩
def dLine (n : Nat) : PyData := .tuple [.str (mk (cs "line")), .int (n : Int)]
theorem LineV.dp {K : PySem.W.Frag} {H : Hp} {v : V} {n : Nat} (h : LineV K H v n) : Dp K H v (dLine n) := by
  obtain ⟨a, rfl, h1⟩ := h
  exact .tup h1 (.cons (.str _) (.cons (.int _) .nil))
theorem fl_dLine (n : Nat) : Fl 1 (dLine n) := ⟨by show 2 ≤ _; decide, fun d hd => by
  rcases List.mem_cons.mp hd with e | hd
  · rw [e]; trivial
  · rw [List.mem_singleton.mp hd]; trivial⟩
theorem upto_all {α : Type} {f : Nat → Option α} : ∀ {k a : Nat} {xs : List α}, upto f k a = .ok xs → xs.length = k ∧ ∀ x ∈ xs, ∃ j, f j = some x
  | 0, a, xs, h => by
    cases h
    exact ⟨rfl, fun x hx => by cases hx⟩
  | k + 1, a, xs, h => by
    unfold upto at h
    cases h0 : f a with
    | none => rw [h0] at h; cases h
    | some y =>
      rw [h0] at h
      simp only at h
      cases h1 : upto f k (a + 1) with
      | error e => rw [h1] at h; cases h
      | ok ys =>
        rw [h1] at h
        cases h
        obtain ⟨q1, q2⟩ := upto_all h1
        refine ⟨by rw [List.length_cons, q1], fun x hx => ?_⟩
        rcases List.mem_cons.mp hx with e | e
        · exact ⟨a, by rw [e]; exact h0⟩
        · exact q2 x e
theorem rowH_len {n k : Nat} {l : Codes} {r : List Nat} (h : rowH n k l = some r) : r.length ≤ l.length + 1 := by
  unfold rowH at h
  split at h
  · cases q : figs 6 ((cut1 32 l).drop 4) with
    | none => rw [q] at h; cases h
    | some r' =>
      rw [q] at h
      simp only at h
      split at h
      · cases h
        have := (figs_lt q).1
        have := len_cut1 32 l
        rw [List.length_drop] at *
        omega
      · cases h
  · cases h
theorem tabR_len {h : List (List Nat)} {s k : Nat} {ws : List Codes} {t : List Nat} (e : tabR h s k ws = some t) : t.length ≤ ws.length := by
  rw [tabR_eq] at e
  by_cases c : ws.take 3 = headR k
  · rw [if_pos c] at e
    cases q : figs 2 (ws.drop 3) with
    | none => rw [q] at e; cases e
    | some t' =>
      rw [q] at e
      have hl := (figs_lt q).1
      rw [List.length_drop] at hl
      cases q2 : h[k]? with
      | none => rw [q2] at e; cases e
      | some r =>
        rw [q2] at e
        have e : (if tblB s r.length t' = true then some t' else none) = some t := e
        split at e
        · cases e; omega
        · cases e
  · rw [if_neg c] at e
    cases e
theorem nightOf_len {n s : Nat} {l : Codes} {ps : List (List Nat)} (e : nightOf n s l = some ps) : ps.length ≤ l.length + 1 ∧ ∀ p ∈ ps, p.length ≤ l.length + 1 := by
  unfold nightOf at e
  cases q : pairsOf (cut1 32 l).tail with
  | none => rw [q] at e; cases e
  | some ps' =>
    rw [q] at e
    simp only at e
    split at e
    · cases e
      unfold pairsOf at q
      split at q
      · rename_i hall
        cases q
        have h1 := len_cut1 32 l
        refine ⟨by rw [List.length_map, List.length_tail]; omega, fun p hp => ?_⟩
        obtain ⟨w, hw, rfl⟩ := List.mem_map.mp hp
        have h2 := List.all_eq_true.mp hall w hw
        cases q2 : figs 7 (cut1 61 w) with
        | none => rw [q2] at h2; cases h2
        | some r =>
          show r.length ≤ _
          have h3 := (figs_lt q2).1
          have h4 := len_cut1 61 w
          have h5 := cut_each (List.mem_of_mem_tail hw)
          omega
      · cases q
    · cases e
theorem readH_small {o : Option Codes} {hs : List (List Nat)} (hf : Fine o) (h : readH o = .ok hs) : hs.length ≤ 100001 ∧ ∀ r ∈ hs, r.length ≤ 100001 := by
  unfold readH at h
  cases hl : linesOf o with
  | error e => rw [hl] at h; cases h
  | ok ls =>
    rw [hl] at h
    have h : (if ls = [] then Except.error 0 else upto (fun k => (ls[k]?).bind (rowH ls.length k)) ls.length 0) = .ok hs := h
    split at h
    · cases h
    · obtain ⟨h1, h2⟩ := upto_all h
      obtain ⟨f1, f2⟩ := lines_fine hf hl
      refine ⟨by omega, fun r hr => ?_⟩
      obtain ⟨j, hj⟩ := h2 r hr
      cases q : ls[j]? with
      | none => rw [q] at hj; cases hj
      | some l =>
        rw [q] at hj
        have := rowH_len (show rowH ls.length j l = some r from hj)
        have := (f2 l (List.mem_of_getElem? q)).1
        omega
theorem readR_small {h : List (List Nat)} {o : Option Codes} {st : Nat × List (List Nat)} (h7 : h.length ≤ 7) (hf : Fine o) (e : readR h o = .ok st) : st.2.length ≤ 100001 ∧ ∀ r ∈ st.2, r.length ≤ 100001 := by
  unfold readR at e
  cases hl : linesOf o with
  | error e' => rw [hl] at e; cases e
  | ok ls =>
    rw [hl] at e
    obtain ⟨f1, f2⟩ := lines_fine hf hl
    simp only at e
    cases q : (ls[0]?).bind signsOf with
    | none => rw [q] at e; cases e
    | some s =>
      rw [q] at e
      simp only at e
      cases u : upto (fun k => tabR h s (k - 1) (if k < ls.length then cut1 32 (ls.getD k []) else [])) (max ls.length (h.length + 1) - 1) 1 with
      | error e' => rw [u] at e; cases e
      | ok ts =>
        rw [u] at e
        cases e
        obtain ⟨h1, h2⟩ := upto_all u
        refine ⟨by show ts.length ≤ _; omega, fun r hr => ?_⟩
        obtain ⟨j, hj⟩ := h2 r hr
        have h3 := tabR_len hj
        by_cases c : j < ls.length
        · rw [if_pos c, List.getD_eq_getElem?_getD, List.getElem?_eq_getElem c] at h3
          have h3 : r.length ≤ (cut1 32 ls[j]).length := h3
          have := len_cut1 32 ls[j]
          have := (f2 _ (List.getElem_mem c)).1
          omega
        · rw [if_neg c] at h3
          exact Nat.le_trans h3 (Nat.zero_le _)
theorem readN_small {n s : Nat} {o : Option Codes} {ns : List (List (List Nat))} (hf : Fine o) (h : readN n s o = .ok ns) : ns.length ≤ 100001 ∧ ∀ rs ∈ ns, rs.length ≤ 100001 ∧ ∀ r ∈ rs, r.length ≤ 100001 := by
  unfold readN at h
  cases hl : linesOf o with
  | error e => rw [hl] at h; cases h
  | ok ls =>
    rw [hl] at h
    have h : upto (fun k => if k < 200 then (ls[k]?).bind (nightOf n s) else none) ls.length 0 = .ok ns := h
    obtain ⟨h1, h2⟩ := upto_all h
    obtain ⟨f1, f2⟩ := lines_fine hf hl
    refine ⟨by omega, fun r hr => ?_⟩
    obtain ⟨j, hj⟩ := h2 r hr
    split at hj
    · cases q : ls[j]? with
      | none => rw [q] at hj; cases hj
      | some l =>
        rw [q] at hj
        obtain ⟨a1, a2⟩ := nightOf_len (show nightOf n s l = some r from hj)
        have := (f2 l (List.mem_of_getElem? q)).1
        exact ⟨by omega, fun p hp => by have := a2 p hp; omega⟩
    · cases hj
/-- what alike is asked of two answers to one reading -/
theorem got_same {α : Type} {K : PySem.W.Frag} {H : Hp} {v v' : V} {r : Except Nat α} {k k' : α → Prop} {d : α → PyData} (g : Got K H v r k) (g' : Got K H v' r k') (hk : ∀ x, r = .ok x → k x → Dp K H v (d x)) (hk' : ∀ x, r = .ok x → k' x → Dp K H v' (d x)) (hf : ∀ x, r = .ok x → Fl 4 (d x)) :
    ∃ D, Dp K H v D ∧ Dp K H v' D ∧ Fl 4 D := by
  cases r with
  | error n => exact ⟨dLine n, LineV.dp g, LineV.dp g', ((fl_dLine n).up.up.up)⟩
  | ok x => exact ⟨d x, hk x rfl g, hk' x rfl g', hf x rfl⟩
theorem Got.mono {α : Type} {K : PySem.W.Frag} {H H' : Hp} {v : V} {r : Except Nat α} {k k' : α → Prop} (g : Got K H v r k) (e : ExV H H') (hk : ∀ x, k x → k' x) : Got K H' v r k' := by
  cases r with
  | error n =>
    obtain ⟨a, e1, h1⟩ := g
    exact ⟨a, e1, SqT.exV e h1⟩
  | ok x => exact hk x g
end K60
set_option Elab.async false
set_option linter.all false
set_option maxRecDepth 100000
set_option maxHeartbeats 4000000
/-! readings of the law's own def -/
namespace K60
open PySem PySem.Spec PyProof.Rows L2 Gx RZ TL
open LamX (TabB Tabs TabS CodeO ExtN GivesTo)
theorem pe_monoL {X : Cx} {e : Expr} {t t' : TE} (h : PE X e t) (m : ∀ σ H Q, σ.length = X.N.length → t' σ H Q → t σ H Q) : PE X e t' := ⟨fun pins s σ H Q I hq => h.run pins s σ H Q I (m σ H Q I.len hq)⟩
def jR (K : PySem.W.Frag) : V → List V → Hp → VK → Prop := fun x xs H Q => ∃ a p ys, x = .str a ∧ xs = [.ref p] ∧ (SqL K H p (ys.map V.str) ∨ SqT K H p (ys.map V.str)) ∧ (ys.map (fun x => x.length)).sum + ys.length * a.length ≤ 16777216 ∧ Q (.str (Txt.join a ys)) H
def tJoinNL (T : List (Addr × Str)) : TE := fun σ H Q => ∃ (la : Addr) (ls : List Codes), σ[5]? = some (some (.ref la)) ∧ H la = some (.lst (ls.map tv)) ∧ ls.length ≤ 200 ∧ (∀ l ∈ ls, Ln 400 l) ∧ Tabs T H ∧ ∀ H', ExtN H H' → Tabs T H' → Q (tv (textOf ls)) H'
theorem joinM {K : PySem.W.Frag} {T : List (Addr × Str)} {σ : L2.St} {H : Hp} {Q : VK} (hl : σ.length = 15) (h : tJoinNL T σ H Q) :
    tM1 (jR K) (tC (V.str (Str.ofString ""))) (tLc (iList K (tVar 5)) (gName 13) tYes (tOp rAddT (tVar 13) (tC (V.str (Str.ofString "\n")))) [13]) σ H Q := by
  obtain ⟨la, ls, h5, hla, hll, hln, hT, k⟩ := h
  match σ, hl with
  | [a0, a1, a2, a3, a4, a5, a6, a7, a8, a9, a10, a11, a12, a13, a14], _ =>
  have e5 : a5 = some (.ref la) := Option.some.inj h5
  subst e5
  let R : Nat → V → Hp → Prop := fun j y _ => ∃ u, ls[j]? = some u ∧ y = tv (u ++ [10])
  have kp : Kp R := kp_pure _
  refine ⟨⟨_, rfl⟩, _, rfl, la, rfl, ⟨_, SqL.of hla⟩, fun D hD => ?_⟩
  have ek : EK (fun H' => ExtN H H') D := ⟨fun Ha Hb a e => a.trans e, fun Ha o a => extN_upd a (Nw.of hD)⟩
  refine lc_list (K := K) (a := la) (xs := ls.map tv) (Gr (fun H' => ExtN H H') T D R) (Gr.start (extN_new hD) hT hD) (fun i H5 _ g => SqL.of (g.e _ _ hla (lst_ne _))) ?_ ?_
  · rintro i x H5 hi g
    obtain ⟨u, hu, rfl⟩ := map_get hi
    have hiu := (List.getElem?_eq_some_iff.mp hu).1
    have hlu := (hln u (List.mem_of_getElem? hu)).len
    refine ⟨rfl, ?_⟩
    exact ⟨_, rfl, _, _, rfl, lit_tv "\n", by rw [show (cs "\n").length = 1 by decide]; omega, g.push ek kp (by omega) ⟨u, hu, rfl⟩⟩
  · rintro H5 g
    obtain ⟨acc, h1, h2, h3⟩ := g.d
    have hacc : acc = ls.map fun u => tv (u ++ [10]) := acc_map (by rw [h2, List.length_map]) h3
    have e2 : acc = ((ls.map fun u => u ++ [10]).map mk).map V.str := by
      rw [hacc, tv_map, List.map_map]
      rfl
    have htl : (textOf ls).length ≤ ls.length * 401 := textOf_len fun u hu => (hln u hu).len
    refine ⟨_, D, _, rfl, rfl, .inl (SqL.of (h1.trans (by rw [e2]))), ?_, ?_⟩
    · rw [sum_len]
      show (textOf ls).length + _ * 0 ≤ _
      omega
    have ej : Txt.join (Str.ofString "") ((ls.map fun u => u ++ [10]).map mk) = mk (textOf ls) := by
      rw [mk_lit]
      exact join_mk _
    rw [ej]
    exact k _ g.e g.t
/-- told of a reader: its answer, or the line -/
theorem told_read {α : Type} {K : PySem.W.Frag} {T : List (Addr × Str)} {C : Addr} {r : Except Nat α} {k : α → V → Hp → Prop} {Q : VK} {H : Hp} (cont : ∀ v' H8, ExtN H H8 → Tabs T H8 → Got K H8 v' r (fun x => k x v' H8) → Q v' H8) :
    Res C T H Q (fun cls d H' => cls = .ref C ∧ ∃ (d' : Addr) (n : Nat), d = some d' ∧ H' d' = some (.xd [("line", nv n)]) ∧ ∀ q, H' q = none → Q (.ref q) (upd H' q (.tup [.str (Str.ofString "line"), nv n]))) r k := by
  refine ⟨fun n hn d' H8 e8 t8 hd => ⟨rfl, d', n, rfl, hd, fun q hq => cont _ _ (extN_upd e8 (Nw.ext e8 hq)) (tabs_new t8 hq) ?_⟩, fun x hx v8 H8 e8 t8 h8 => cont v8 H8 e8 t8 ?_⟩
  · rw [hn]
    exact ⟨q, rfl, by rw [← line_tv]; exact SqT.of upd_same⟩
  · rw [hx]
    exact h8
theorem eqv_line (n : Nat) : PyData.eqv (dLine n) (dLine n) = true := by
  simp [dLine, PyData.eqv, PyData.eqvAll]
theorem eqvAll_nil : ∀ k : Nat, PyData.eqvAll ((List.replicate k ([] : List (List Nat))).map dR) ((List.replicate k ([] : List (List Nat))).map dR) = true
  | 0 => by simp [PyData.eqvAll]
  | k + 1 => by
    have ih := eqvAll_nil k
    rw [List.replicate_succ, List.map_cons]
    simp only [PyData.eqvAll, ih, Bool.and_true]
    simp [dR, PyData.eqv, PyData.eqvAll]
theorem eqv_nils (k : Nat) : PyData.eqv (dN (List.replicate k [])) (dN (List.replicate k [])) = true := by
  unfold dN
  simp only [PyData.eqv]
  exact eqvAll_nil k
theorem dp_nils {K : PySem.W.Frag} {H : Hp} {q : Addr} (h : H q = some (.tup [])) : ∀ k : Nat, DpAll K H (List.replicate k [V.ref q]).flatten ((List.replicate k ([] : List (List Nat))).map dR)
  | 0 => .nil
  | k + 1 => by
    rw [List.replicate_succ, List.replicate_succ, List.map_cons, List.flatten_cons]
    exact .cons (.tup (SqT.of h) .nil) (dp_nils h k)
theorem sh_dLine (n : Nat) : Sh 1 (dLine n) := sh_tup (k := 0) fun d hd => by
  rcases List.mem_cons.mp hd with e | hd
  · rw [e]
    exact sh_str (ok_mk (by decide))
  · rw [List.mem_singleton.mp hd]
    exact sh_int _
theorem many_text (k : Nat) : (List.replicate k (cs "night\n")).flatten = textOf (List.replicate k (cs "night")) := by
  unfold textOf
  rw [List.map_replicate]
  rfl
theorem fine_many {k : Nat} (h : k ≤ 300) : Fine (some (textOf (List.replicate k (cs "night")))) :=
  (fine_text (B := 5) (by decide) (fun l hl => by rw [List.eq_of_mem_replicate hl]; exact ln_cs (by decide)) (by rw [List.length_replicate]; omega)).1
end K60
set_option Elab.async false
set_option linter.all false
set_option maxRecDepth 100000
set_option maxHeartbeats 8000000
/-! the law's own def -/
namespace K60
open PySem PySem.Spec PyProof.Rows L2 Gx RZ TL
open LamX (TabB Tabs TabS CodeO ExtN GivesTo)
def mores1 : List Codes := ["clerk 0 looks at 0", "clerk 1 looks at", "clerk 1 looks at 1 0", "clerk 2 looks at 0 2", "clerk 7 looks at 0", "clerk 0 looks 0", ""].map cs
theorem mores1_tv : [V.str (Str.ofString "clerk 0 looks at 0"), V.str (Str.ofString "clerk 1 looks at"), V.str (Str.ofString "clerk 1 looks at 1 0"), V.str (Str.ofString "clerk 2 looks at 0 2"), V.str (Str.ofString "clerk 7 looks at 0"), V.str (Str.ofString "clerk 0 looks 0"), V.str (Str.ofString "")] = mores1.map tv := by
  rw [lit_tv "clerk 0 looks at 0", lit_tv "clerk 1 looks at", lit_tv "clerk 1 looks at 1 0", lit_tv "clerk 2 looks at 0 2", lit_tv "clerk 7 looks at 0", lit_tv "clerk 0 looks 0", lit_tv ""]
  rfl
theorem mores1_ln : ∀ l ∈ mores1, Ln 400 l := fun l hl => by
  have h : (mores1.all fun l => decide (l.length ≤ 400) && (l.all (fun c => decide (c < 128)) && !(l.contains 10))) = true := by decide
  have h := List.all_eq_true.mp h l hl
  rw [Bool.and_eq_true, Bool.and_eq_true] at h
  refine ⟨of_decide_eq_true h.1, fun c hc => of_decide_eq_true (List.all_eq_true.mp h.2.1 c hc), fun z => ?_⟩
  have := h.2.2
  rw [Bool.not_eq_true', List.contains_eq_mem, decide_eq_false_iff_not] at this
  exact this z
def mores2 : List Codes := ["signs 2", "signs 4", "signs", "clerk 0 writes 0 1", "clerk 1 writes 0 1 1 0", "clerk 0 writes", "clerk 0 writes 0 2", ""].map cs
theorem mores2_tv : [V.str (Str.ofString "signs 2"), V.str (Str.ofString "signs 4"), V.str (Str.ofString "signs"), V.str (Str.ofString "clerk 0 writes 0 1"), V.str (Str.ofString "clerk 1 writes 0 1 1 0"), V.str (Str.ofString "clerk 0 writes"), V.str (Str.ofString "clerk 0 writes 0 2"), V.str (Str.ofString "")] = mores2.map tv := by
  rw [lit_tv "signs 2", lit_tv "signs 4", lit_tv "signs", lit_tv "clerk 0 writes 0 1", lit_tv "clerk 1 writes 0 1 1 0", lit_tv "clerk 0 writes", lit_tv "clerk 0 writes 0 2", lit_tv ""]
  rfl
theorem mores2_ln : ∀ l ∈ mores2, Ln 400 l := fun l hl => by
  have h : (mores2.all fun l => decide (l.length ≤ 400) && (l.all (fun c => decide (c < 128)) && !(l.contains 10))) = true := by decide
  have h := List.all_eq_true.mp h l hl
  rw [Bool.and_eq_true, Bool.and_eq_true] at h
  refine ⟨of_decide_eq_true h.1, fun c hc => of_decide_eq_true (List.all_eq_true.mp h.2.1 c hc), fun z => ?_⟩
  have := h.2.2
  rw [Bool.not_eq_true', List.contains_eq_mem, decide_eq_false_iff_not] at this
  exact this z
def mores3 : List Codes := ["night", "night 0=0", "night 1=0 0=1", "night 0=2", "night 6=0", "night 0", "night 0=0 0=1", "night 0=0=0", "nights 0=0", ""].map cs
theorem mores3_tv : [V.str (Str.ofString "night"), V.str (Str.ofString "night 0=0"), V.str (Str.ofString "night 1=0 0=1"), V.str (Str.ofString "night 0=2"), V.str (Str.ofString "night 6=0"), V.str (Str.ofString "night 0"), V.str (Str.ofString "night 0=0 0=1"), V.str (Str.ofString "night 0=0=0"), V.str (Str.ofString "nights 0=0"), V.str (Str.ofString "")] = mores3.map tv := by
  rw [lit_tv "night", lit_tv "night 0=0", lit_tv "night 1=0 0=1", lit_tv "night 0=2", lit_tv "night 6=0", lit_tv "night 0", lit_tv "night 0=0 0=1", lit_tv "night 0=0=0", lit_tv "nights 0=0", lit_tv ""]
  rfl
theorem mores3_ln : ∀ l ∈ mores3, Ln 400 l := fun l hl => by
  have h : (mores3.all fun l => decide (l.length ≤ 400) && (l.all (fun c => decide (c < 128)) && !(l.contains 10))) = true := by decide
  have h := List.all_eq_true.mp h l hl
  rw [Bool.and_eq_true, Bool.and_eq_true] at h
  refine ⟨of_decide_eq_true h.1, fun c hc => of_decide_eq_true (List.all_eq_true.mp h.2.1 c hc), fun z => ?_⟩
  have := h.2.2
  rw [Bool.not_eq_true', List.contains_eq_mem, decide_eq_false_iff_not] at this
  exact this z
abbrev sLaw : Stmt := top 51
abbrev NL : List Str := ["_law_script", "_law_row", "_law_turn", "_law_nights", "_law_clerk", "_law_lines_here", "_law_text", "_law_more", "_law_told_here", "_law_house_here", "_law_many", "_law_rules_here", "_law_value", "_law_line", "_law_night_here"]
theorem scLaw : FnScope NL ["_law_script"] (defScope sLaw) := ⟨rfl, rfl, rfl, by decide +kernel, rfl, by decide +kernel, by decide +kernel⟩
def lq : Str := "law.<locals>." ++ "<lambda>"
def spLaw (K : PySem.W.Frag) (T : List (Addr × Str)) : Sp := fun vs H Q _ => ∃ (sp : Addr) (ns : List Int), vs = [.ref sp] ∧ SqL K H sp (ns.map V.int) ∧ Tabs T H ∧ ∀ H', Q (.bl true) H'
/-- the defs that the law's own def calls -/
structure LawD (P : Program) (w : World) (K : PySem.W.Frag) (mg : Str → Option Value) (base : Heap) (T : List (Addr × Str)) (C : Addr) : Prop where
  B : Bl mg
  BC : Bad K mg C
  taken : ∃ f fd, Df K mg "_law_taken" sTaken ["_law_row", "_law_many"] f fd ∧ FnOk P w K mg base CX0 1 f fd ["_law_row", "_law_many"] (spTaken K T)
  house : ∃ f fd, Df K mg "_law_house" sLHouse ["_law_row", "_law_most"] f fd ∧ FnOk P w K mg base CX0 2 f fd ["_law_row", "_law_most"] (spLHouse K T)
  rules : ∃ f fd, Df K mg "_law_rules" sLRules ["_law_row", "_law_house_here"] f fd ∧ FnOk P w K mg base CX0 2 f fd ["_law_row", "_law_house_here"] (spLRules K T)
  night : ∃ f fd, Df K mg "_law_night" sLNight ["_law_row", "_law_house_here", "_law_signs", "_law_lot", "_law_most"] f fd ∧ FnOk P w K mg base CX0 3 f fd ["_law_row", "_law_house_here", "_law_signs", "_law_lot", "_law_most"] (spLNight K T)
  words : ∃ f fd, Df K mg "_law_words" sLWords ["_law_numbers"] f fd ∧ FnOk P w K mg base CX0 1 f fd ["_law_numbers"] (spWords K T)
  alike : ∃ f fd, Df K mg "_law_alike" sAl ["_law_found", "_law_due"] f fd ∧ FnOk P w K mg base CX0 6 f fd ["_law_found", "_law_due"] (spAl K T 5)
  bent : ∃ f fd, Df K mg "_law_bent" sBent ["_law_row", "_law_lines_here", "_law_more"] f fd ∧ FnOk P w K mg base CX0 3 f fd ["_law_row", "_law_lines_here", "_law_more"] (spBent K T)
  told : ∃ f fd, Df K mg "_law_told" sTold ["_law_work"] f fd
  lreadH : ∃ f fd, Df K mg "_law_read_house" sLReadH ["_law_text"] f fd ∧ FnOk P w K mg base CX0 2 f fd ["_law_text"] (spLReadH K T)
  lreadR : ∃ f fd, Df K mg "_law_read_rules" sLReadR ["_law_house_here", "_law_text"] f fd ∧ FnOk P w K mg base CX0 2 f fd ["_law_house_here", "_law_text"] (spLReadR K T)
  lreadN : ∃ f fd, Df K mg "_law_read_nights" sLReadN ["_law_house_here", "_law_signs", "_law_text"] f fd ∧ FnOk P w K mg base CX0 3 f fd ["_law_house_here", "_law_signs", "_law_text"] (spLReadN K T)
  lnText : ∃ f fd, Df K mg "_law_night_text" sLNText ["_law_night_here"] f fd ∧ FnOk P w K mg base CX0 1 f fd ["_law_night_here"] (spNText K T)
  hText : ∃ f fd, Df K mg "house_text" sHText ["house"] f fd ∧ FnOk P w K mg base CX0 7 f fd ["house"] (spHText K T)
  rText : ∃ f fd, Df K mg "rules_text" sRText ["house", "rules"] f fd ∧ FnOk P w K mg base CX0 10 f fd ["house", "rules"] (spRText K T)
  nsText : ∃ f fd, Df K mg "nights_text" sNsText ["house", "rules", "nights"] f fd ∧ FnOk P w K mg base CX0 10 f fd ["house", "rules", "nights"] (spNsText K T)
  readH : ∃ f fd, Df K mg "read_house" sReadH ["text"] f fd ∧ FnOk P w K mg base (L2.CX P w) 6 f fd ["text"] (spReadH C K T)
  readR : ∃ f fd, Df K mg "read_rules" sReadR ["house", "text"] f fd ∧ FnOk P w K mg base (L2.CX P w) 7 f fd ["house", "text"] (spReadR C K T)
  readN : ∃ f fd, Df K mg "read_nights" sReadN ["house", "rules", "text"] f fd ∧ FnOk P w K mg base (L2.CX P w) 10 f fd ["house", "rules", "text"] (spReadN C K T)
section
variable {P : Program} {w : World} {K : PySem.W.Frag} {mg : Str → Option Value} {base : Heap} {T : List (Addr × Str)} {C : Addr}
theorem ok_law {f : Addr} {fd : FuncData} (F : Fun K "law" "law" sLaw f fd) (tb : Tb T base mg fd lq) (L : LawD P w K mg base T C) : FnOk P w K mg base CX0 13 f fd ["_law_script"] (spLaw K T) := by
  have B := L.B
  have BC := L.BC
  obtain ⟨_, _, DTk, GTk⟩ := L.taken
  obtain ⟨_, _, DHo, GHo⟩ := L.house
  obtain ⟨_, _, DRu, GRu⟩ := L.rules
  obtain ⟨_, _, DNi, GNi⟩ := L.night
  obtain ⟨_, _, DWo, GWo⟩ := L.words
  obtain ⟨_, _, DAl, GAl⟩ := L.alike
  obtain ⟨_, _, DBent, GBent⟩ := L.bent
  obtain ⟨_, _, DTo⟩ := L.told
  obtain ⟨_, _, DLH, GLH⟩ := L.lreadH
  obtain ⟨_, _, DLR, GLR⟩ := L.lreadR
  obtain ⟨_, _, DLN, GLN⟩ := L.lreadN
  obtain ⟨_, _, DLT, GLT⟩ := L.lnText
  obtain ⟨_, _, DHT, GHT⟩ := L.hText
  obtain ⟨_, _, DRT, GRT⟩ := L.rText
  obtain ⟨_, _, DNT, GNT⟩ := L.nsText
  obtain ⟨_, _, DRH, GRH⟩ := L.readH
  obtain ⟨_, _, DRR, GRR⟩ := L.readR
  obtain ⟨_, _, DRN, GRN⟩ := L.readN
  refine okC F scLaw (fun vs H Q E h => ?_) (fun cdv hcd A outer s H vs Q E hr h => ?_)
  · obtain ⟨sp, ns, rfl, _⟩ := h
    rfl
  · obtain ⟨sp, ns, rfl, hns, hT, kQ⟩ := h
    have nd := scLaw.nd
    obtain ⟨c, Pt, hc, TB, hmL, huL⟩ := tb.ex
    rw [hc] at hcd
    have hu64 : (A.deeper (envOfC "law" (defScope sLaw) s.heap.objs.size f cdv)).units + 64 < cLine := hr.units
    refine ⟨_, (pss_cons (ps_set (i := 1) nd rfl (Or.inr rfl) (pe_lst (pa_cons (pv 0) (pa_cons pe_int (pa_cons pe_int (pa_cons pe_int pa_nil))))))
      (pss_cons (ps_set (i := 9) nd rfl (Or.inr rfl) (pe_call GHo (hr.mono (by decide)) (by rfl) DHo.g DHo.kp DHo.b .nil pass0 (pa_cons (pv 1) (pa_cons pe_int pa_nil))))
      (pss_cons (ps_set (i := 11) nd rfl (Or.inr rfl) (pe_call GRu (hr.mono (by decide)) (by rfl) DRu.g DRu.kp DRu.b .nil pass0 (pa_cons (pv 1) (pa_cons (pv 9) pa_nil))))
      (pss_cons (ps_set (i := 3) nd rfl (Or.inl rfl) (pe_callTy call_tuple_of (by rfl) B.tuple boot_tuple (pa_cons (pe_lc (own := [("_law_turn", 2)]) (g := gName 2) (tt := tYes) rfl nd (pi_range1 (by rfl) B.range (pa_cons (pe_call GTk (hr.mono (by decide)) (by rfl) DTk.g DTk.kp DTk.b .nil pass0 (pa_cons (pv 1) (pa_cons pe_int pa_nil))) pa_nil)) (blkOk_by (own := [("_law_turn", 2)]) (N := NL) (sc := defScope sLaw) (by decide +kernel)) (fun _ _ _ _ _ => pg_name (i := 2) nd rfl (Or.inl rfl)) (fun _ _ _ _ _ => pts_nil) (fun _ _ _ _ _ => (pe_call GNi (hr.mono (by decide)) (by rfl) DNi.g DNi.kp DNi.b .nil pass0 (pa_cons (pv 1) (pa_cons (pv 9) (pa_cons (pe_ix (ixT K rfl) (pv 11) pe_int (fun _ _ => rfl)) (pa_cons (pe_tupRg rfl (by rfl) B.tuple (prg_1 (by rfl) B.range (pe_callB (lenK K rfl) (by rfl) B.len PySem.boot_len (pa_cons (pv 9) pa_nil)))) (pa_cons pe_int pa_nil)))))))) pa_nil)))
      (pss_cons (ps_setLc (i := 5) (own := [("_law_clerk", 4)]) (g := gName 4) (tt := tYes) rfl nd rfl rfl (sw_true rfl rfl rfl (by decide +kernel)) (pi_range1 (by rfl) B.range (pa_cons (pe_callB (lenK K rfl) (by rfl) B.len PySem.boot_len (pa_cons (pv 9) pa_nil)) pa_nil)) (blkOk_by (own := [("_law_clerk", 4)]) (N := NL) (sc := defScope sLaw) (by decide +kernel)) (fun _ _ _ _ _ => pg_name (i := 4) nd rfl (Or.inl rfl)) (fun _ _ _ _ _ => pts_nil) (fun _ _ _ _ _ => (pe_op op_addT (pe_op op_addT (pe_op op_addT pe_str (pe_callTy (callStr K) (by rfl) B.str boot_str (pa_cons (pv 4) pa_nil))) pe_str) (pe_call GWo (hr.mono (by decide)) (by rfl) DWo.g DWo.kp DWo.b .nil pass0 (pa_cons (pe_ix (ixT K rfl) (pv 9) (pv 4) (fun _ _ => rfl)) pa_nil)))))
      (pss_cons (ps_set (i := 6) nd rfl (Or.inl rfl) (pe_monoL (pe_join pe_str (pe_lc (own := [("_law_line", 13)]) (g := gName 13) (tt := tYes) rfl nd (pi_list (pv 5)) (blkOk_by (own := [("_law_line", 13)]) (N := NL) (sc := defScope sLaw) (by decide +kernel)) (fun _ _ _ _ _ => pg_name (i := 13) nd rfl (Or.inl rfl)) (fun _ _ _ _ _ => pts_nil) (fun _ _ _ _ _ => (pe_op op_addT (pv 13) pe_str)))) (fun σ H Q hl h => joinM (T := T) hl h)))
      (pss_cons (ps_if (PW.pt (pw_or (pt_not (pt_val (pe_call GAl (hr.mono (by decide)) (by rfl) DAl.g DAl.kp DAl.b .nil pass0 (pa_cons (pe_call GHT (hr.mono (by decide)) (by rfl) DHT.g DHT.kp DHT.b .nil pass0 (pa_cons (pv 9) pa_nil)) (pa_cons (pv 6) pa_nil))))) (pw_or1 (pt_not (pt_val (pe_call GAl (hr.mono (by decide)) (by rfl) DAl.g DAl.kp DAl.b .nil pass0 (pa_cons (pe_call GRH (hr.mono (by decide)) (by rfl) DRH.g DRH.kp DRH.b .nil (passes_call LamX.takes0 (E := fun _ _ _ => False) (fun _ _ _ _ h => h)) (pa_cons (pv 6) pa_nil)) (pa_cons (pv 9) pa_nil)))))))) (pss_one (ps_ret pe_bl)) pss_nil)
      (pss_cons (ps_set (i := 7) nd rfl (Or.inl rfl) (pe_lst (pa_cons pe_str (pa_cons pe_str (pa_cons pe_str (pa_cons pe_str (pa_cons pe_str (pa_cons pe_str (pa_cons pe_str pa_nil)))))))))
      (pss_cons (ps_for PassesOwn.never rfl (pi_range1 (by rfl) B.range (pa_cons pe_int pa_nil)) (pg_name (i := 2) nd rfl (Or.inl rfl)) (pss_cons (ps_set (i := 12) nd rfl (Or.inr rfl) (pe_call GBent (hr.mono (by decide)) (by rfl) DBent.g DBent.kp DBent.b .nil pass0 (pa_cons (pv 1) (pa_cons (pv 5) (pa_cons (pv 7) pa_nil)))))
      (pss_one (ps_if (pt_not (pt_val (pe_call GAl (hr.mono (by decide)) (by rfl) DAl.g DAl.kp DAl.b .nil pass0 (pa_cons (pe_told (T := T) (C := C) (c := c) (P := Pt) (k := 10) (by rfl) DTo BC TB hcd.symm hmL huL hr (LamX.lamS_by (sc := defScope sLaw) (by decide +kernel)) rfl (fun _ _ _ _ _ => rfl) (fun _ _ _ _ _ _ _ hr2 => (pe_call GRH (hr2.mono (by decide)) (by rfl) DRH.g DRH.kp DRH.b .nil (passes_call (takes_of rfl rfl rfl rfl) (fun _ _ _ _ h => h)) (pa_cons (pv 12) pa_nil)))) (pa_cons (pe_call GLH (hr.mono (by decide)) (by rfl) DLH.g DLH.kp DLH.b .nil pass0 (pa_cons (pv 12) pa_nil)) pa_nil))))) (pss_one (ps_ret pe_bl)) pss_nil))))
      (pss_cons (ps_set (i := 5) nd rfl (Or.inl rfl) (pe_lst (pa_cons (pe_op op_addT pe_str (pe_callTy (callStr K) (by rfl) B.str boot_str (pa_cons (pe_ix (ixT K rfl) (pv 11) pe_int (fun _ _ => rfl)) pa_nil))) pa_nil)))
      (pss_cons (ps_for PassesOwn.never rfl (pi_range1 (by rfl) B.range (pa_cons (pe_callB (lenK K rfl) (by rfl) B.len PySem.boot_len (pa_cons (pv 9) pa_nil)) pa_nil)) (pg_name (i := 4) nd rfl (Or.inl rfl)) (pss_one (ps_expr (pe_bm PySem.F.plainAttrs_list PySem.F.slot_list_append PySem.F.type_list_append mt_append (pv 5) (pa_cons (pe_op op_addT (pe_op op_addT (pe_op op_addT pe_str (pe_callTy (callStr K) (by rfl) B.str boot_str (pa_cons (pv 4) pa_nil))) pe_str) (pe_call GWo (hr.mono (by decide)) (by rfl) DWo.g DWo.kp DWo.b .nil pass0 (pa_cons (pe_ix (ixT K rfl) (pe_ix (ixT K rfl) (pv 11) pe_int (fun _ _ => rfl)) (pv 4) (fun _ _ => rfl)) pa_nil))) pa_nil)))))
      (pss_cons (ps_set (i := 6) nd rfl (Or.inl rfl) (pe_monoL (pe_join pe_str (pe_lc (own := [("_law_line", 13)]) (g := gName 13) (tt := tYes) rfl nd (pi_list (pv 5)) (blkOk_by (own := [("_law_line", 13)]) (N := NL) (sc := defScope sLaw) (by decide +kernel)) (fun _ _ _ _ _ => pg_name (i := 13) nd rfl (Or.inl rfl)) (fun _ _ _ _ _ => pts_nil) (fun _ _ _ _ _ => (pe_op op_addT (pv 13) pe_str)))) (fun σ H Q hl h => joinM (T := T) hl h)))
      (pss_cons (ps_if (PW.pt (pw_or (pt_not (pt_val (pe_call GAl (hr.mono (by decide)) (by rfl) DAl.g DAl.kp DAl.b .nil pass0 (pa_cons (pe_call GRT (hr.mono (by decide)) (by rfl) DRT.g DRT.kp DRT.b .nil pass0 (pa_cons (pv 9) (pa_cons (pv 11) pa_nil))) (pa_cons (pv 6) pa_nil))))) (pw_or1 (pt_not (pt_val (pe_call GAl (hr.mono (by decide)) (by rfl) DAl.g DAl.kp DAl.b .nil pass0 (pa_cons (pe_call GRR (hr.mono (by decide)) (by rfl) DRR.g DRR.kp DRR.b .nil (passes_call LamX.takes0 (E := fun _ _ _ => False) (fun _ _ _ _ h => h)) (pa_cons (pv 9) (pa_cons (pv 6) pa_nil))) (pa_cons (pv 11) pa_nil)))))))) (pss_one (ps_ret pe_bl)) pss_nil)
      (pss_cons (ps_set (i := 7) nd rfl (Or.inl rfl) (pe_lst (pa_cons pe_str (pa_cons pe_str (pa_cons pe_str (pa_cons pe_str (pa_cons pe_str (pa_cons pe_str (pa_cons pe_str (pa_cons pe_str pa_nil))))))))))
      (pss_cons (ps_for PassesOwn.never rfl (pi_range1 (by rfl) B.range (pa_cons pe_int pa_nil)) (pg_name (i := 2) nd rfl (Or.inl rfl)) (pss_cons (ps_set (i := 12) nd rfl (Or.inr rfl) (pe_call GBent (hr.mono (by decide)) (by rfl) DBent.g DBent.kp DBent.b .nil pass0 (pa_cons (pv 1) (pa_cons (pv 5) (pa_cons (pv 7) pa_nil)))))
      (pss_one (ps_if (pt_not (pt_val (pe_call GAl (hr.mono (by decide)) (by rfl) DAl.g DAl.kp DAl.b .nil pass0 (pa_cons (pe_told (T := T) (C := C) (c := c) (P := Pt) (k := 10) (by rfl) DTo BC TB hcd.symm hmL huL hr (LamX.lamS_by (sc := defScope sLaw) (by decide +kernel)) rfl (fun _ _ _ _ _ => rfl) (fun _ _ _ _ _ _ _ hr2 => (pe_call GRR (hr2.mono (by decide)) (by rfl) DRR.g DRR.kp DRR.b .nil (passes_call (takes_of rfl rfl rfl rfl) (fun _ _ _ _ h => h)) (pa_cons (pv 9) (pa_cons (pv 12) pa_nil))))) (pa_cons (pe_call GLR (hr.mono (by decide)) (by rfl) DLR.g DLR.kp DLR.b .nil pass0 (pa_cons (pv 9) (pa_cons (pv 12) pa_nil))) pa_nil))))) (pss_one (ps_ret pe_bl)) pss_nil))))
      (pss_cons (ps_setLc (i := 5) (own := [("_law_night_here", 14)]) (g := gName 14) (tt := tYes) rfl nd rfl rfl (sw_true rfl rfl rfl (by decide +kernel)) (pi_tup (pv 3)) (blkOk_by (own := [("_law_night_here", 14)]) (N := NL) (sc := defScope sLaw) (by decide +kernel)) (fun _ _ _ _ _ => pg_name (i := 14) nd rfl (Or.inl rfl)) (fun _ _ _ _ _ => pts_nil) (fun _ _ _ _ _ => (pe_call GLT (hr.mono (by decide)) (by rfl) DLT.g DLT.kp DLT.b .nil pass0 (pa_cons (pv 14) pa_nil))))
      (pss_cons (ps_set (i := 6) nd rfl (Or.inl rfl) (pe_monoL (pe_join pe_str (pe_lc (own := [("_law_line", 13)]) (g := gName 13) (tt := tYes) rfl nd (pi_list (pv 5)) (blkOk_by (own := [("_law_line", 13)]) (N := NL) (sc := defScope sLaw) (by decide +kernel)) (fun _ _ _ _ _ => pg_name (i := 13) nd rfl (Or.inl rfl)) (fun _ _ _ _ _ => pts_nil) (fun _ _ _ _ _ => (pe_op op_addT (pv 13) pe_str)))) (fun σ H Q hl h => joinM (T := T) hl h)))
      (pss_cons (ps_if (PW.pt (pw_or (pt_not (pt_val (pe_call GAl (hr.mono (by decide)) (by rfl) DAl.g DAl.kp DAl.b .nil pass0 (pa_cons (pe_call GNT (hr.mono (by decide)) (by rfl) DNT.g DNT.kp DNT.b .nil pass0 (pa_cons (pv 9) (pa_cons (pv 11) (pa_cons (pv 3) pa_nil)))) (pa_cons (pv 6) pa_nil))))) (pw_or1 (pt_not (pt_val (pe_call GAl (hr.mono (by decide)) (by rfl) DAl.g DAl.kp DAl.b .nil pass0 (pa_cons (pe_call GRN (hr.mono (by decide)) (by rfl) DRN.g DRN.kp DRN.b .nil (passes_call LamX.takes0 (E := fun _ _ _ => False) (fun _ _ _ _ h => h)) (pa_cons (pv 9) (pa_cons (pv 11) (pa_cons (pv 6) pa_nil)))) (pa_cons (pv 3) pa_nil)))))))) (pss_one (ps_ret pe_bl)) pss_nil)
      (pss_cons (ps_set (i := 7) nd rfl (Or.inl rfl) (pe_lst (pa_cons pe_str (pa_cons pe_str (pa_cons pe_str (pa_cons pe_str (pa_cons pe_str (pa_cons pe_str (pa_cons pe_str (pa_cons pe_str (pa_cons pe_str (pa_cons pe_str pa_nil))))))))))))
      (pss_cons (ps_for PassesOwn.never rfl (pi_range1 (by rfl) B.range (pa_cons pe_int pa_nil)) (pg_name (i := 2) nd rfl (Or.inl rfl)) (pss_cons (ps_set (i := 12) nd rfl (Or.inr rfl) (pe_call GBent (hr.mono (by decide)) (by rfl) DBent.g DBent.kp DBent.b .nil pass0 (pa_cons (pv 1) (pa_cons (pv 5) (pa_cons (pv 7) pa_nil)))))
      (pss_one (ps_if (pt_not (pt_val (pe_call GAl (hr.mono (by decide)) (by rfl) DAl.g DAl.kp DAl.b .nil pass0 (pa_cons (pe_told (T := T) (C := C) (c := c) (P := Pt) (k := 10) (by rfl) DTo BC TB hcd.symm hmL huL hr (LamX.lamS_by (sc := defScope sLaw) (by decide +kernel)) rfl (fun _ _ _ _ _ => rfl) (fun _ _ _ _ _ _ _ hr2 => (pe_call GRN (hr2.mono (by decide)) (by rfl) DRN.g DRN.kp DRN.b .nil (passes_call (takes_of rfl rfl rfl rfl) (fun _ _ _ _ h => h)) (pa_cons (pv 9) (pa_cons (pv 11) (pa_cons (pv 12) pa_nil)))))) (pa_cons (pe_call GLN (hr.mono (by decide)) (by rfl) DLN.g DLN.kp DLN.b .nil pass0 (pa_cons (pv 9) (pa_cons (pe_ix (ixT K rfl) (pv 11) pe_int (fun _ _ => rfl)) (pa_cons (pv 12) pa_nil)))) pa_nil))))) (pss_one (ps_ret pe_bl)) pss_nil))))
      (pss_cons (ps_set (i := 10) nd rfl (Or.inr rfl) (pe_op op_add pe_int (pe_call GTk (hr.mono (by decide)) (by rfl) DTk.g DTk.kp DTk.b .nil pass0 (pa_cons (pv 1) (pa_cons pe_int pa_nil)))))
      (pss_cons (ps_set (i := 8) nd rfl (Or.inl rfl) (pe_told (T := T) (C := C) (c := c) (P := Pt) (k := 10) (by rfl) DTo BC TB hcd.symm hmL huL hr (LamX.lamS_by (sc := defScope sLaw) (by decide +kernel)) rfl (fun _ _ _ _ _ => rfl) (fun _ _ _ _ _ _ _ hr2 => (pe_call GRN (hr2.mono (by decide)) (by rfl) DRN.g DRN.kp DRN.b .nil (passes_call (takes_of rfl rfl rfl rfl) (fun _ _ _ _ h => h)) (pa_cons (pv 9) (pa_cons (pv 11) (pa_cons (pe_op op_mulT pe_str (pv 10)) pa_nil)))))))
      (pss_one (ps_ret (pe_cmpR (op_eqD hu64) (pv 8) (pe_ifExp (pt_cmp (pc_lt (pv 10) pe_int)) (pe_op op_repT (pe_tup (pa_cons (pe_tup pa_nil) pa_nil)) (pv 10)) (pe_tup (pa_cons pe_str (pa_cons pe_int pa_nil)))) (nomark _)))))))))))))))))))))))))), ?_⟩
    refine ⟨_, rfl, by show 4 ≤ _; decide, fun p hp => ?_⟩
    have r1 : RowAt (upd H p (.lst [.ref sp, .int 0, .int 25560, .int 0])) p sp := ⟨0, 25560, 0, upd_same⟩
    have s1 : Scr K (upd H p (.lst [.ref sp, .int 0, .int 25560, .int 0])) sp p := scr_start hns hp
    have t1 : Tabs T (upd H p (.lst [.ref sp, .int 0, .int 25560, .int 0])) := tabs_new hT hp
    generalize upd H p (.lst [.ref sp, .int 0, .int 25560, .int 0]) = H1 at r1 s1 t1 ⊢
    refine ⟨_, rfl, p, sp, 4, rfl, by decide, by decide, s1, r1, t1, fun hv h H2 hH okh h4 d2 => ?_⟩
    have s2 := s1.ext d2.e
    refine ⟨_, rfl, _, rfl, p, sp, hv, h, rfl, hH, okh, s2, d2.r, d2.t, fun rv sg ts H3 hR okr d3 => ?_⟩
    have s3 := s2.ext d3.e
    have hH3 : TupR K H3 hv h := hH.exV (d3.V d2.r)
    have hsg3 : sg ≤ 3 := by rcases okr.sg with e | e <;> omega
    have hsg2 : 2 ≤ sg := by rcases okr.sg with e | e <;> omega
    have hlo := okh.lo
    have hhi := okh.hi
    refine ⟨_, rfl, p, sp, 5, rfl, by decide, by decide, s3, d3.r, d3.t, fun cnt H4 hcnt e4 r4 t4 => ⟨_, rfl, by omega, by omega, fun D hD => ?_⟩⟩
    rw [Int.toNat_natCast]
    have s4 := s3.ext e4
    have hH4 : TupR K H4 hv h := hH3.exV (e4.V d3.r)
    have hR4 : RulesAt K H4 rv sg ts := hR.exV (e4.V d3.r)
    have hDp : D ≠ p := row_ne r4 hD
    let EE : Hp → Prop := fun H' => ExR p H4 H' ∧ RowAt H' p sp
    have ek : EK EE D := ek_dr (ExM.refl _ _) hD hDp
    let R : Nat → V → Hp → Prop := fun _ y H' => ∃ ps, nightB h.length sg 7 ps = true ∧ TupR K H' y ps
    have kp : Kp R := fun j y Ha Hb e a => let ⟨r, h1, h2⟩ := a; ⟨r, h1, h2.exV e⟩
    refine lc_range (lo := 0) (n := cnt) (Gr EE T D R) (Gr.start ⟨ExM.of (extN_new hD), r4.ext (extN_new hD)⟩ t4 hD) ?_ ?_
    · intro i H' hi g
      refine ⟨rfl, ?_⟩
      obtain ⟨dh, zs, ehv, hzs, hzp⟩ := hH4.exV (g.e.1.V r4)
      obtain ⟨ar, xt, erv, har, hxt⟩ := hR4.exV (g.e.1.V r4)
      have hzl : zs.length = h.length := hzp.length
      refine ⟨_, rfl, _, rfl, _, rfl, ar, _, 0, nv sg, erv, rfl, har, rfl, _, rfl, dh, zs, ?_, .inr hzs, ((zs.length : Nat) : Int), rfl, RgOk.of_le (by decide) (by omega) (by decide) (by omega), fun q hq => ?_⟩
      · rw [ehv]
      have g1 := g.new (o := .tup (rgV 0 ((zs.length : Nat) : Int))) ek kp hq
      have erg : rgV 0 ((zs.length : Nat) : Int) = (List.range h.length).map nv := by
        unfold rgV
        rw [Int.sub_zero, Int.toNat_natCast, hzl]
        exact List.map_congr_left fun j _ => congrArg V.int (Int.zero_add _)
      refine ⟨p, sp, q, hv, sg, 3, h.length, rfl, by rw [← erg]; exact SqT.of upd_same, by omega, by omega, by omega, hsg3, by decide, s4.ext g1.e.1, g1.e.2, g1.t, fun v ps H6 hv6 hb6 d6 => ?_⟩
      exact (g1.drew kp hDp d6.e d6.r d6.t).push ek kp (by omega) ⟨ps, hb6, hv6⟩
    · rintro H5 g
      obtain ⟨acc, j1, j2, j3⟩ := g.d
      obtain ⟨nss, k1, k2, k3⟩ := acc_ex (F := fun _ y ps => nightB h.length sg 7 ps = true ∧ TupR K H5 y ps) (acc := acc) (k := 0) (fun j y hy => j3 j y hy)
      refine ⟨D, acc, rfl, .inl ⟨SqL.of j1, fun l hl => ?_⟩⟩
      have okn : OkN h.length sg nss := ⟨by rw [k1, j2]; omega, fun x hx => by
        obtain ⟨j, hj⟩ := List.getElem?_of_mem hx
        obtain ⟨_, _, z, _⟩ := k3 j x hj
        exact z⟩
      have nlen : nss.length ≤ 4 := by rw [k1, j2]; omega
      have z0 : Z K T p sp hv rv (.ref l) h sg ts nss (upd H5 l (.tup acc)) := by
        have ev : ExV H4 (upd H5 l (.tup acc)) := (g.e.1.V r4).trans (exV_new hl)
        refine ⟨g.e.2.ext (extN_new hl), (s4.ext g.e.1).ext (ExM.of (extN_new hl)), tabs_new g.t hl, hH4.exV ev, hR4.exV ev, l, acc, rfl, SqT.of upd_same, L2.Paired.mapP k2 fun y ps z => ?_⟩
        obtain ⟨_, _, z⟩ := z
        exact z.exV (exV_new hl)
      clear k1 k2 k3 j1 j2 j3 hH hH3 hH4 hR hR4 s1 s2 s3 s4 d2 d3 r1 t1 r4 t4
      generalize (V.ref l) = nvv at z0 ⊢
      generalize upd H5 l (.tup acc) = W0 at z0 ⊢
      obtain ⟨dh, zs, ehv, hzs, hzp⟩ := id z0.a
      have hzl : zs.length = h.length := hzp.length
      refine ⟨_, rfl, dh, zs, (by rw [ehv]), .inr hzs, _, rfl, by omega, by omega, fun D hD => ?_⟩
      rw [Int.toNat_natCast]
      let R5 : Nat → V → Hp → Prop := fun j y _ => ∃ u, (linesH h)[j]? = some u ∧ y = tv u
      have kp5 : Kp R5 := kp_pure _
      have ek5 : EK (fun H' => ExtN W0 H') D := ⟨fun Ha Hb a e => a.trans e, fun Ha o a => extN_upd a (Nw.of hD)⟩
      have c1 : (cs "clerk ").length = 6 := by decide
      have c2 : (cs " looks at").length = 9 := by decide
      have c3 : (cs " writes").length = 7 := by decide
      have c4 : (cs "signs ").length = 6 := by decide
      refine lc_range (lo := 0) (n := zs.length) (Gr (fun H' => ExtN W0 H') T D R5) (Gr.start (extN_new hD) z0.t hD) ?_ ?_
      · intro i H' hi g5
        have hil : i < h.length := by omega
        have hri := List.getElem?_eq_getElem hil
        obtain ⟨y, hy1, b, rfl, hb⟩ := paired_get2 hzp hri
        have hin := List.getElem_mem hil
        have hd : ∀ n ∈ h[i], n < 10 := fun n hn => Nat.lt_trans (okh.dig _ hin n hn) (by decide)
        have hsh := okh.short _ hin
        have hnm := (num1 (n := i) (by omega)).1
        have hw := words_len hd
        refine ⟨rfl, ?_⟩
        refine ⟨_, rfl, i, by rw [Int.zero_add], by omega, _, _, lit_tv "clerk ", rfl, by omega, _, _, rfl, lit_tv " looks at", by rw [List.length_append]; omega, ?_⟩
        refine ⟨_, rfl, _, rfl, dh, zs, (0 + (i : Int)), .ref b, ehv, rfl, sqT_ext g5.e hzs, by rw [Int.zero_add]; exact atI_nat hy1, .ref b, h[i], rfl, ⟨b, rfl, sqT_ext g5.e hb⟩, by omega, hd, g5.t, fun H6 e6 t6 => ?_⟩
        refine ⟨_, _, rfl, rfl, by simp only [List.length_append]; omega, (g5.ext ek5 kp5 e6 t6).push ek5 kp5 (by omega) ⟨houseLn i h[i], linesH_get hri, rfl⟩⟩
      rintro W1 g5
      obtain ⟨acc, j1, j2, j3⟩ := g5.d
      have hacc : acc = (linesH h).map tv := acc_map (by rw [j2, linesH_len, hzl]) j3
      rw [hacc] at j1
      have z1 := z0.ext g5.e g5.t
      have hlaP : D ≠ p := row_ne z0.r hD
      clear g5 ek5 kp5 j2 j3 hacc hzs hzp
      refine ⟨D, (linesH h), rfl, j1, (by rw [linesH_len]; omega), (linesH_ln okh), z1.t, fun W2 eW2 tW2 => ?_⟩
      have z1j := z1.ext eW2 tW2
      have j1j := eW2 _ _ j1 (lst_ne _)
      refine ⟨_, rfl, hv, h, rfl, z1j.a, okh, z1j.t, fun W3 e3 t3 => ?_⟩
      refine ⟨_, rfl, tv (textOf (linesH h)), tv (textOf (linesH h)), .str _, rfl, .str _, .str _, trivial, t3, fun W4 e4' t4' => ⟨true, rfl, iteF ?_⟩⟩
      have z2 := (z1j.ext e3 t3).ext e4' t4'
      have f1 := (fine_text (B := 400) (by decide) (linesH_ln okh) (by rw [linesH_len]; omega)).1
      refine ⟨_, rfl, tv (textOf (linesH h)), some (textOf (linesH h)), rfl, .inl ⟨_, rfl, rfl⟩, f1, z2.t, (fun n hn => by rw [read_own_house okh] at hn; cases hn), fun hs hok v8 W5 e5 t5 hT5 => ?_⟩
      rw [read_own_house okh] at hok
      cases hok
      have z3 := z2.ext e5 t5
      have fh : Fl 4 (dR h) := (fl_dR (by omega) (fun r hr => Nat.le_trans (okh.short r hr) (by decide))).up.up
      refine ⟨_, rfl, v8, hv, dR h, rfl, hT5.dp, z3.a.dp, fh, z3.t, fun W6 e6 t6 => ⟨true, rfl, iteF ?_⟩⟩
      have z4 := z3.ext e6 t6
      have hla4 := e6 _ _ (e5 _ _ (e4' _ _ (e3 _ _ j1j (lst_ne _)) (lst_ne _)) (lst_ne _)) (lst_ne _)
      refine ⟨by show 7 ≤ _; decide, fun ma1 hma1 => ?_⟩
      have em1 : [V.str (Str.ofString "clerk 0 looks at 0"), V.str (Str.ofString "clerk 1 looks at"), V.str (Str.ofString "clerk 1 looks at 1 0"), V.str (Str.ofString "clerk 2 looks at 0 2"), V.str (Str.ofString "clerk 7 looks at 0"), V.str (Str.ofString "clerk 0 looks 0"), V.str (Str.ofString "")] = mores1.map tv := mores1_tv
      rw [em1]
      have zm1 := z4.new (o := .lst (mores1.map tv)) hma1
      have hmp1 : ma1 ≠ p := row_ne z4.r hma1
      have hla1m : upd W6 ma1 (.lst (mores1.map tv)) D = some (.lst ((linesH h).map tv)) := upd_lst hma1 hla4
      have hma1m : upd W6 ma1 (.lst (mores1.map tv)) ma1 = some (.lst (mores1.map tv)) := upd_same
      generalize upd W6 ma1 (.lst (mores1.map tv)) = M1 at zm1 hla1m hma1m ⊢
      refine ⟨4, rfl, by decide, by decide, for_range (lo := 0) (n := (4 : Int).toNat) (fun i σ' H' => Z K T p sp hv rv nvv h sg ts nss H' ∧ H' D = some (.lst ((linesH h).map tv)) ∧ H' ma1 = some (.lst (mores1.map tv)) ∧ ∃ v2 v12, σ' = [some (.ref sp), some (.ref p), v2, some nvv, none, some (.ref D), some (tv (textOf (linesH h))), some (.ref ma1), none, some hv, none, some rv, v12, none, none]) ⟨zm1, hla1m, hma1m, _, _, rfl⟩ ?_ ?_⟩
      · rintro i σ' H' hi ⟨z, hla, hma, v2, v12, rfl⟩
        refine ⟨_, rfl, _, rfl, _, rfl, p, sp, D, ma1, (linesH h), mores1, rfl, hla, hma, by decide, by decide, (by rw [linesH_len]; omega), (linesH_ln okh), mores1_ln, hlaP, hmp1, z.s, z.r, z.t, fun v o H6 hv' hf hsm d6 => ?_⟩
        have z6 := z.row d6.e d6.r d6.t
        have hla6 := exR_lst d6.e hla hlaP
        have hma6 := exR_lst d6.e hma hmp1
        refine ⟨z6.t, fun H7 e7 t7 => ?_⟩
        have z7 := z6.ext e7 t7
        refine ⟨_, rfl, v, o, rfl, hv', hf, t7, told_read (K := K) (T := T) (C := C) (r := readH o) (k := fun hs v H' => TupR K H' v hs) (fun v8 H8 e8 t8 g8 => ?_)⟩
        have z8 := z7.ext e8 t8
  
        refine ⟨_, rfl, v, o, rfl, hv', hf, hsm, t8, fun v9 H9 e9 t9 g9 => ?_⟩
        have z9 := z8.ext e9 t9
        obtain ⟨Dd, dx, dy, df⟩ := got_same (d := dR) (k := fun hs => TupR K H9 v8 hs) (g8.mono (ExV.of e9) (fun x q => q.ext e9)) g9 (fun x _ q => q.dp) (fun x _ q => q.dp) (fun x hx => (fl_dR (Nat.le_trans (readH_small hf hx).1 (by decide)) (fun r hr => Nat.le_trans ((readH_small hf hx).2 r hr) (by decide))).up.up)
        refine ⟨v8, v9, Dd, rfl, dx, dy, df, t9, fun H10 e10 t10 => ⟨true, rfl, iteF ⟨z9.ext e10 t10, ?_, ?_, _, _, rfl⟩⟩⟩
        · exact e10 _ _ (e9 _ _ (e8 _ _ (e7 _ _ hla6 (lst_ne _)) (lst_ne _)) (lst_ne _)) (lst_ne _)
        · exact e10 _ _ (e9 _ _ (e8 _ _ (e7 _ _ hma6 (lst_ne _)) (lst_ne _)) (lst_ne _)) (lst_ne _)
      rintro σ' L1 ⟨zl1, hlaL1, _, v2, v12, rfl⟩
      obtain ⟨ar, xt, erv, har, hxt⟩ := id zl1.b
      have hnsg := (num1 (n := sg) (by omega)).1
      refine ⟨_, rfl, ar, _, 0, nv sg, erv, rfl, har, rfl, sg, rfl, by omega, _, _, lit_tv "signs ", rfl, by omega, by show 1 ≤ _; decide, fun D2 hD2 => ?_⟩
      have hlaP2 : D2 ≠ p := row_ne zl1.r hD2
      let R6 : Nat → V → Hp → Prop := fun j y _ => ∃ u, (linesR sg ts)[j]? = some u ∧ y = tv u
      have kp6 : Kp R6 := kp_pure _
      have ek6 : EK (fun H' => ExtN L1 H') D2 := ⟨fun Ha Hb a e => a.trans e, fun Ha o a => extN_upd a (Nw.of hD2)⟩
      have g6 : Gr (fun H' => ExtN L1 H') T D2 R6 1 (upd L1 D2 (.lst [tv (cs "signs " ++ numL sg)])) := ⟨extN_new hD2, tabs_new zl1.t hD2, _, upd_same, rfl, fun j y hy => by
        cases j with
        | zero =>
          rw [List.getElem?_cons_zero] at hy
          cases hy
          exact ⟨signsLn sg, rfl, rfl⟩
        | succ j => simp at hy⟩
      obtain ⟨dh, zs, ehv, hzs, hzp⟩ := id zl1.a
      have hzl : zs.length = h.length := hzp.length
      have tlen := okr.len
      obtain ⟨b0, tsx, rfl, hb0, htx⟩ := id hxt
      have small := okr.small okh
      refine ⟨_, rfl, dh, zs, (by rw [ehv]), .inr (sqT_ext g6.e hzs), _, rfl, by omega, by omega, ?_⟩
      rw [Int.toNat_natCast]
      refine for_range (lo := 0) (n := zs.length) (fun i σ' H' => Gr (fun H' => ExtN L1 H') T D2 R6 (1 + i) H' ∧ ∃ v4, σ' = [some (.ref sp), some (.ref p), v2, some nvv, v4, some (.ref D2), some (tv (textOf (linesH h))), some (.ref ma1), none, some hv, none, some rv, v12, none, none]) ⟨g6, _, rfl⟩ ?_ ?_
      · rintro i σ' H' hi ⟨g, v4, rfl⟩
        have hit : i < ts.length := by omega
        have hti := List.getElem?_eq_getElem hit
        obtain ⟨y, hy1, b, rfl, hb⟩ := paired_get2 htx hti
        have hin := List.getElem_mem hit
        obtain ⟨hsh, hd⟩ := small _ hin
        have hnm := (num1 (n := i) (by omega)).1
        have hw := words_len hd
        obtain ⟨acc0, ha0, _, _⟩ := g.d
        refine ⟨_, rfl, .inl ⟨rfl, acc0, SqL.of ha0⟩, ?_⟩
        refine ⟨_, rfl, i, by rw [Int.zero_add], by omega, _, _, lit_tv "clerk ", rfl, by omega, _, _, rfl, lit_tv " writes", by rw [List.length_append]; omega, ?_⟩
        refine ⟨_, rfl, ar, _, 1, _, erv, rfl, sqT_ext g.e har, rfl, _, rfl, b0, tsx, (0 + (i : Int)), .ref b, rfl, rfl, sqT_ext g.e hb0, by rw [Int.zero_add]; exact atI_nat hy1, .ref b, ts[i], rfl, ⟨b, rfl, sqT_ext g.e hb⟩, by omega, hd, g.t, fun H6 e6 t6 => ?_⟩
        refine ⟨_, _, rfl, rfl, by simp only [List.length_append]; omega, ?_⟩
        have hl : (linesR sg ts)[1 + i]? = some (ruleLn i ts[i]) := by
          unfold linesR
          rw [Nat.add_comm, List.getElem?_cons_succ]
          exact rules_get hti
        obtain ⟨acc, q1, q2, q3⟩ := (g.ext ek6 kp6 e6 t6).push ek6 kp6 (by omega) ⟨ruleLn i ts[i], hl, rfl⟩
        exact ⟨D2, acc, _, rfl, rfl, q1, q2, q3, _, rfl⟩
      rintro σ' W7 ⟨g7, v4, rfl⟩
      obtain ⟨acc, j1', j2, j3⟩ := g7.d
      have hll : (linesR sg ts).length = ts.length + 1 := by
        unfold linesR
        rw [List.length_cons, List.length_map, List.length_zipIdx]
      have hacc : acc = (linesR sg ts).map tv := acc_map (by rw [j2, hll]; omega) j3
      rw [hacc] at j1'
      have z5 := zl1.ext g7.e g7.t
      clear g7 ek6 kp6 j2 j3 hacc g6
      refine ⟨D2, (linesR sg ts), rfl, j1', (by rw [hll]; omega), (linesR_ln okh h4 okr), z5.t, fun W8 eW8 tW8 => ?_⟩
      have z5j := z5.ext eW8 tW8
      have j1r := eW8 _ _ j1' (lst_ne _)
      refine ⟨_, rfl, _, rfl, hv, rv, h, sg, ts, rfl, z5j.a, okh, z5j.b, okr, z5j.t, fun W9 e9 t9 => ?_⟩
      refine ⟨_, rfl, tv (textOf (linesR sg ts)), tv (textOf (linesR sg ts)), .str _, rfl, .str _, .str _, trivial, t9, fun W10 e10 t10 => ⟨true, rfl, iteF ?_⟩⟩
      have z6 := (z5j.ext e9 t9).ext e10 t10
      have f2 := (fine_text (B := 400) (by decide) (linesR_ln okh h4 okr) (by rw [hll]; omega)).1
      refine ⟨_, rfl, _, rfl, hv, tv (textOf (linesR sg ts)), h, some (textOf (linesR sg ts)), rfl, z6.a, okh, .inl ⟨_, rfl, rfl⟩, f2, z6.t, (fun n hn => by rw [read_own_rules okh h4 okr] at hn; cases hn), fun st hok v8 W11 e11 t11 hT11 => ?_⟩
      rw [read_own_rules okh h4 okr] at hok
      cases hok
      have z7 := z6.ext e11 t11
      have fr : Fl 4 (dRu sg ts) := (fl_dRu (by omega) (fun r hr => Nat.le_trans (small r hr).1 (by decide))).up
      refine ⟨_, rfl, v8, rv, dRu sg ts, rfl, RulesAt.dp hT11, z7.b.dp, fr, z7.t, fun W12 e12 t12 => ⟨true, rfl, iteF ?_⟩⟩
      have z8 := z7.ext e12 t12
      have hla8 := e12 _ _ (e11 _ _ (e10 _ _ (e9 _ _ j1r (lst_ne _)) (lst_ne _)) (lst_ne _)) (lst_ne _)
      refine ⟨by show 8 ≤ _; decide, fun ma2 hma2 => ?_⟩
      have em2 : [V.str (Str.ofString "signs 2"), V.str (Str.ofString "signs 4"), V.str (Str.ofString "signs"), V.str (Str.ofString "clerk 0 writes 0 1"), V.str (Str.ofString "clerk 1 writes 0 1 1 0"), V.str (Str.ofString "clerk 0 writes"), V.str (Str.ofString "clerk 0 writes 0 2"), V.str (Str.ofString "")] = mores2.map tv := mores2_tv
      rw [em2]
      have zm2 := z8.new (o := .lst (mores2.map tv)) hma2
      have hmp2 : ma2 ≠ p := row_ne z8.r hma2
      have hla2m : upd W12 ma2 (.lst (mores2.map tv)) D2 = some (.lst ((linesR sg ts).map tv)) := upd_lst hma2 hla8
      have hma2m : upd W12 ma2 (.lst (mores2.map tv)) ma2 = some (.lst (mores2.map tv)) := upd_same
      generalize upd W12 ma2 (.lst (mores2.map tv)) = M2 at zm2 hla2m hma2m ⊢
      refine ⟨4, rfl, by decide, by decide, for_range (lo := 0) (n := (4 : Int).toNat) (fun i σ' H' => Z K T p sp hv rv nvv h sg ts nss H' ∧ H' D2 = some (.lst ((linesR sg ts).map tv)) ∧ H' ma2 = some (.lst (mores2.map tv)) ∧ ∃ v2 v12, σ' = [some (.ref sp), some (.ref p), v2, some nvv, v4, some (.ref D2), some (tv (textOf (linesR sg ts))), some (.ref ma2), none, some hv, none, some rv, v12, none, none]) ⟨zm2, hla2m, hma2m, _, _, rfl⟩ ?_ ?_⟩
      · rintro i σ' H' hi ⟨z, hla, hma, v2, v12, rfl⟩
        refine ⟨_, rfl, _, rfl, _, rfl, p, sp, D2, ma2, (linesR sg ts), mores2, rfl, hla, hma, by decide, by decide, (by rw [hll]; omega), (linesR_ln okh h4 okr), mores2_ln, hlaP2, hmp2, z.s, z.r, z.t, fun v o H6 hv' hf hsm d6 => ?_⟩
        have z6 := z.row d6.e d6.r d6.t
        have hla6 := exR_lst d6.e hla hlaP2
        have hma6 := exR_lst d6.e hma hmp2
        refine ⟨z6.t, fun H7 e7 t7 => ?_⟩
        have z7 := z6.ext e7 t7
        refine ⟨_, rfl, _, rfl, hv, v, h, o, rfl, z7.a, okh, hv', hf, t7, told_read (K := K) (T := T) (C := C) (r := readR h o) (k := fun st v H' => RulesAt K H' v st.1 st.2) (fun v8 H8 e8 t8 g8 => ?_)⟩
        have z8 := z7.ext e8 t8
  
        refine ⟨_, rfl, _, rfl, hv, v, h, o, rfl, z8.a, okh, hv', hf, t8, fun v9 H9 e9 t9 g9 => ?_⟩
        have z9 := z8.ext e9 t9
        obtain ⟨Dd, dx, dy, df⟩ := got_same (d := fun st => dRu st.1 st.2) (k := fun st => RulesAt K H9 v8 st.1 st.2) (g8.mono (ExV.of e9) (fun x q => q.ext e9)) g9 (fun x _ q => RulesAt.dp q) (fun x _ q => RulesAt.dp q) (fun x hx => (fl_dRu (Nat.le_trans (readR_small hhi hf hx).1 (by decide)) (fun r hr => Nat.le_trans ((readR_small hhi hf hx).2 r hr) (by decide))).up)
        refine ⟨v8, v9, Dd, rfl, dx, dy, df, t9, fun H10 e10 t10 => ⟨true, rfl, iteF ⟨z9.ext e10 t10, ?_, ?_, _, _, rfl⟩⟩⟩
        · exact e10 _ _ (e9 _ _ (e8 _ _ (e7 _ _ hla6 (lst_ne _)) (lst_ne _)) (lst_ne _)) (lst_ne _)
        · exact e10 _ _ (e9 _ _ (e8 _ _ (e7 _ _ hma6 (lst_ne _)) (lst_ne _)) (lst_ne _)) (lst_ne _)
      rintro σ' L2 ⟨zl2, hlaL2, _, v2, v12, rfl⟩
      obtain ⟨an, xn, env, han, hxn⟩ := id zl2.c
      have hxl : xn.length = nss.length := hxn.length
      refine ⟨_, rfl, an, env, ⟨_, han⟩, fun D3 hD3 => ?_⟩
      have hlaP3 : D3 ≠ p := row_ne zl2.r hD3
      let R7 : Nat → V → Hp → Prop := fun j y _ => ∃ u, (linesN nss)[j]? = some u ∧ y = tv u
      have kp7 : Kp R7 := kp_pure _
      have ek7 : EK (fun H' => ExtN L2 H') D3 := ⟨fun Ha Hb a e => a.trans e, fun Ha o a => extN_upd a (Nw.of hD3)⟩
      refine lc_tup (K := K) (a := an) (xs := xn) (Gr (fun H' => ExtN L2 H') T D3 R7) (Gr.start (extN_new hD3) zl2.t hD3) (fun i H' _ g => sqT_ext g.e han) ?_ ?_
      · rintro i x H' hi g
        obtain ⟨ps, hp1, hp2⟩ := paired_get hxn hi
        obtain ⟨pl, pp⟩ := nightB_pr hhi hsg3 (okn.ok ps (List.mem_of_getElem? hp1))
        refine ⟨rfl, ?_⟩
        refine ⟨_, rfl, x, ps, rfl, hp2.ext g.e, pp, by omega, g.t, fun H6 e6 t6 => ?_⟩
        refine (g.ext ek7 kp7 e6 t6).push ek7 kp7 ?_ ⟨nightLn ps, ?_, rfl⟩
        · have := (List.getElem?_eq_some_iff.mp hp1).1
          omega
        · unfold linesN
          rw [List.getElem?_map, hp1]
          rfl
      rintro X1 g7
      obtain ⟨acc, j1'', j2, j3⟩ := g7.d
      have hln : (linesN nss).length = nss.length := List.length_map _
      have hacc : acc = (linesN nss).map tv := acc_map (by rw [j2, hln, hxl]) j3
      rw [hacc] at j1''
      have z9 := zl2.ext g7.e g7.t
      clear g7 ek7 kp7 j2 j3 hacc
      refine ⟨D3, (linesN nss), rfl, j1'', (by rw [hln]; omega), (linesN_ln hhi hsg3 okn), z9.t, fun X2 eX2 tX2 => ?_⟩
      have z9j := z9.ext eX2 tX2
      have j1n := eX2 _ _ j1'' (lst_ne _)
      refine ⟨_, rfl, _, rfl, _, rfl, hv, rv, nvv, h, sg, ts, nss, rfl, z9j.a, okh, z9j.b, okr, z9j.c, okn, z9j.t, fun X3 e3 t3 => ?_⟩
      refine ⟨_, rfl, tv (textOf (linesN nss)), tv (textOf (linesN nss)), .str _, rfl, .str _, .str _, trivial, t3, fun X4 e4 t4 => ⟨true, rfl, iteF ?_⟩⟩
      have y2 := (z9j.ext e3 t3).ext e4 t4
      have f3 := (fine_text (B := 400) (by decide) (linesN_ln hhi hsg3 okn) (by rw [hln]; omega)).1
      have hown := read_own_nights hhi hsg3 okn
      refine ⟨_, rfl, _, rfl, _, rfl, hv, rv, tv (textOf (linesN nss)), h, sg, ts, some (textOf (linesN nss)), rfl, y2.a, okh, y2.b, okr, .inl ⟨_, rfl, rfl⟩, f3, y2.t, (fun n hn => by rw [hown] at hn; cases hn), fun ms hok v8 X5 e5 t5 hT5 => ?_⟩
      rw [hown] at hok
      cases hok
      have y3 := y2.ext e5 t5
      have fn : Fl 4 (dN nss) := (fl_dN (by omega) (fun ps hps => by
        obtain ⟨pl, pp⟩ := nightB_pr hhi hsg3 (okn.ok ps hps)
        exact ⟨by omega, fun q hq => by have := (pp q hq).len; omega⟩)).up
      refine ⟨_, rfl, v8, nvv, dN nss, rfl, hT5.dp, y3.c.dp, fn, y3.t, fun X6 e6 t6 => ⟨true, rfl, iteF ?_⟩⟩
      have y4 := y3.ext e6 t6
      have hla4n := e6 _ _ (e5 _ _ (e4 _ _ (e3 _ _ j1n (lst_ne _)) (lst_ne _)) (lst_ne _)) (lst_ne _)
      refine ⟨by show 10 ≤ _; decide, fun ma3 hma3 => ?_⟩
      have em3 : [V.str (Str.ofString "night"), V.str (Str.ofString "night 0=0"), V.str (Str.ofString "night 1=0 0=1"), V.str (Str.ofString "night 0=2"), V.str (Str.ofString "night 6=0"), V.str (Str.ofString "night 0"), V.str (Str.ofString "night 0=0 0=1"), V.str (Str.ofString "night 0=0=0"), V.str (Str.ofString "nights 0=0"), V.str (Str.ofString "")] = mores3.map tv := mores3_tv
      rw [em3]
      have zm3 := y4.new (o := .lst (mores3.map tv)) hma3
      have hmp3 : ma3 ≠ p := row_ne y4.r hma3
      have hla3m : upd X6 ma3 (.lst (mores3.map tv)) D3 = some (.lst ((linesN nss).map tv)) := upd_lst hma3 hla4n
      have hma3m : upd X6 ma3 (.lst (mores3.map tv)) ma3 = some (.lst (mores3.map tv)) := upd_same
      generalize upd X6 ma3 (.lst (mores3.map tv)) = M3 at zm3 hla3m hma3m ⊢
      refine ⟨4, rfl, by decide, by decide, for_range (lo := 0) (n := (4 : Int).toNat) (fun i σ' H' => Z K T p sp hv rv nvv h sg ts nss H' ∧ H' D3 = some (.lst ((linesN nss).map tv)) ∧ H' ma3 = some (.lst (mores3.map tv)) ∧ ∃ v2 v12, σ' = [some (.ref sp), some (.ref p), v2, some nvv, v4, some (.ref D3), some (tv (textOf (linesN nss))), some (.ref ma3), none, some hv, none, some rv, v12, none, none]) ⟨zm3, hla3m, hma3m, _, _, rfl⟩ ?_ ?_⟩
      · rintro i σ' H' hi ⟨z, hla, hma, v2, v12, rfl⟩
        refine ⟨_, rfl, _, rfl, _, rfl, p, sp, D3, ma3, (linesN nss), mores3, rfl, hla, hma, by decide, by decide, (by rw [hln]; omega), (linesN_ln hhi hsg3 okn), mores3_ln, hlaP3, hmp3, z.s, z.r, z.t, fun v o H6 hv' hf hsm d6 => ?_⟩
        have z6 := z.row d6.e d6.r d6.t
        have hla6 := exR_lst d6.e hla hlaP3
        have hma6 := exR_lst d6.e hma hmp3
        refine ⟨z6.t, fun H7 e7 t7 => ?_⟩
        have z7 := z6.ext e7 t7
        refine ⟨_, rfl, _, rfl, _, rfl, hv, rv, v, h, sg, ts, o, rfl, z7.a, okh, z7.b, okr, hv', hf, t7, told_read (K := K) (T := T) (C := C) (r := readN h.length sg o) (k := fun ns v H' => TupN K H' v ns) (fun v8 H8 e8 t8 g8 => ?_)⟩
        have z8 := z7.ext e8 t8
        obtain ⟨ar8, xt8, erv8, har8, _⟩ := id z8.b
        refine ⟨_, rfl, _, rfl, ar8, _, 0, nv sg, erv8, rfl, har8, rfl, _, rfl, hv, v, sg, h, o, rfl, z8.a, hhi, hv', hf, hsm, t8, fun v9 H9 e9 t9 g9 => ?_⟩
        have z9 := z8.ext e9 t9
        obtain ⟨Dd, dx, dy, df⟩ := got_same (d := dN) (k := fun ns => TupN K H9 v8 ns) (g8.mono (ExV.of e9) (fun x q => q.ext e9)) g9 (fun x _ q => q.dp) (fun x _ q => q.dp) (fun x hx => (fl_dN (Nat.le_trans (readN_small hf hx).1 (by decide)) (fun r hr => ⟨Nat.le_trans ((readN_small hf hx).2 r hr).1 (by decide), fun q hq => Nat.le_trans (((readN_small hf hx).2 r hr).2 q hq) (by decide)⟩)).up)
        refine ⟨v8, v9, Dd, rfl, dx, dy, df, t9, fun H10 e10 t10 => ⟨true, rfl, iteF ⟨z9.ext e10 t10, ?_, ?_, _, _, rfl⟩⟩⟩
        · exact e10 _ _ (e9 _ _ (e8 _ _ (e7 _ _ hla6 (lst_ne _)) (lst_ne _)) (lst_ne _)) (lst_ne _)
        · exact e10 _ _ (e9 _ _ (e8 _ _ (e7 _ _ hma6 (lst_ne _)) (lst_ne _)) (lst_ne _)) (lst_ne _)
      rintro σ' L3 ⟨zl3, hlaL3, _, v2, v12, rfl⟩
      refine ⟨_, rfl, p, sp, 3, rfl, by decide, by decide, zl3.s, zl3.r, zl3.t, fun dd V1 hdd e1 r1 t1 => ⟨_, _, rfl, rfl, ?_⟩⟩
      have zz := zl3.row e1 r1 t1
      refine ⟨zz.t, fun V2 e2 t2 => ?_⟩
      have z7 := zz.ext e2 t2
      refine ⟨_, rfl, _, rfl, _, rfl, cs "night\n", 199 + dd, lit_tv "night\n", rfl, by omega, by omega, by decide, by decide, hv, rv, tv (List.replicate (199 + dd) (cs "night\n")).flatten, h, sg, ts, some (List.replicate (199 + dd) (cs "night\n")).flatten, rfl, z7.a, okh, z7.b, okr, .inl ⟨_, rfl, rfl⟩, by rw [many_text]; exact fine_many (by omega), t2, told_read (K := K) (T := T) (C := C) (r := readN h.length sg (some (List.replicate (199 + dd) (cs "night\n")).flatten)) (k := fun ns v H' => TupN K H' v ns) (fun v8 H8 e8 t8 g8 => ?_)⟩
      rw [many_text, read_many] at g8
      refine ⟨_, rfl, _, rfl, _, _, rfl, rfl, _, rfl, ?_⟩
      by_cases cd : dd < 2
      · rw [if_pos (by omega)] at g8
        have g8 : TupN K H8 v8 (List.replicate (199 + dd) []) := g8
        have hk : (199 + (dd : Int)).toNat = 199 + dd := by omega
        refine iteOf (b := true) (decide_eq_true (by omega)) (iteT ⟨Nat.zero_le _, fun q1 hq1 => ⟨by show 1 ≤ _; decide, fun q2 hq2 => ⟨_, rfl, q2, 199 + (dd : Int), [.ref q1], rfl, rfl, SqT.of upd_same, by simp, by omega, by omega, by show 1 ≤ 1000; decide, fun q3 hq3 => ?_⟩⟩⟩)
        rw [hk]
        refine ⟨dN (List.replicate (199 + dd) []), dN (List.replicate (199 + dd) []), (((g8.exV (exV_new hq1)).exV (exV_new hq2)).exV (exV_new hq3)).dp, .tup (SqT.of upd_same) (dp_nils (upd_tup hq3 (upd_tup hq2 upd_same)) _), (sh_dN _).ok, (sh_dN _).ok, ?_⟩
        rw [eqv_nils]
        exact kQ _
      · rw [if_neg (by omega)] at g8
        have g8 : LineV K H8 v8 200 := g8
        refine iteOf (b := false) (decide_eq_false (by omega)) (iteF ⟨by show 2 ≤ _; decide, fun q1 hq1 => ?_⟩)
        have gl : LineV K (upd H8 q1 (.tup [V.str (Str.ofString "line"), nv 200])) (.ref q1) 200 := ⟨q1, rfl, by rw [← line_tv]; exact SqT.of upd_same⟩
        have gv : LineV K (upd H8 q1 (.tup [V.str (Str.ofString "line"), nv 200])) v8 200 := let ⟨a, e, h⟩ := g8; ⟨a, e, sqT_upd hq1 h⟩
        refine ⟨dLine 200, dLine 200, gv.dp, gl.dp, (sh_dLine 200).ok, (sh_dLine 200).ok, ?_⟩
        rw [eqv_line]
        exact kQ _
end
end K60
set_option Elab.async false
set_option linter.all false
set_option maxRecDepth 100000
set_option maxHeartbeats 8000000
/-! the end: the defs of the text, the law's promise -/
namespace K60
open PySem PySem.Spec PyProof.Rows L2 Gx RZ TL
open LamX (TabB Tabs TabS CodeO ExtN GivesTo LawAtS)
/-- a def that the top has written -/
def HasDef (K : PySem.W.Frag) (x : Str) (st : Stmt) (ps : List Str) : Prop := ∃ f fd, PySem.W.nsIn K mainGlobals x = some (some (.ref f)) ∧ Fun K x x st f fd ∧ Binds K fd ps []
theorem has_mk {K : PySem.W.Frag} {x : Str} {st : Stmt} {ps : List Str} {f : Addr} {oc kV dc pm cd ct : Value} {od an : Option Addr} {sl : Array (Option Value)}
    (hb : ∀ (kV doc pm : Value) (an : Option Addr) (cdv ct : Value) (us : List Value), us.length = ps.length → bindArgs (PySem.W.fnOf x x (defArgs st) (defBody st) (defScope st) .none kV doc pm an cdv ct) ⟨us, []⟩ = pure (ps.zip us))
    (a : PySem.W.nsIn K mainGlobals x = some (some (.ref f))) (l : K.lookup f = some ⟨oc, od, .func (PySem.W.fnOf x x (defArgs st) (defBody st) (defScope st) .none kV dc pm an cd ct), sl⟩) (c : PySem.W.codeIn K cd x = true) (k : PySem.W.keepIn K (.ref f) = true) : HasDef K x st ps :=
  ⟨f, _, a, fun_mk (st := st) l c k, (fun_mk (st := st) l c k).binds hb⟩
/-- .. with its table of code objects -/
def TabDef (K : PySem.W.Frag) (h : Heap) (x : Str) (st : Stmt) (ps : List Str) (c P : Addr) : Prop := ∃ f fd, PySem.W.nsIn K mainGlobals x = some (some (.ref f)) ∧ Fun K x x st f fd ∧ Binds K fd ps [] ∧ fd.code = .ref c ∧ PySem.W.CodeHd h c P ∧ h.get? P = some { cls := .none, data := .fields #[] } ∧ K.lookup P = none
/-- what the ground tells of a recorded def's table -/
def Recs (K : PySem.W.Frag) (h : Heap) (q : Program) : Prop := ∀ (x : Str) (f c P : Addr) (o : Obj) (fd : FuncData) (e : Value) (dd : Option Addr) (vs : Array Value) (sl : Array (Option Value)), ((recsOf q).any fun d => d.name == x) = true → PySem.W.nsIn K mainGlobals x = some (some (.ref f)) → K.lookup f = some o → o.data = .func fd → fd.code = .ref c →
  K.lookup c = some ⟨e, dd, .fields vs, sl⟩ → vs[11]? = some (.ref P) → PySem.W.CodeHd h c P ∧ h.get? P = some { cls := .none, data := .fields #[] }
theorem tab_mk {K : PySem.W.Frag} {h : Heap} {q : Program} {x : Str} {st : Stmt} {ps : List Str} {f c P : Addr} {oc kV dc pm ct e : Value} {od an dd : Option Addr} {sl sl2 : Array (Option Value)} {vs : Array Value} (R : Recs K h q) (hx : ((recsOf q).any fun d => d.name == x) = true)
    (hb : ∀ (kV doc pm : Value) (an : Option Addr) (cdv ct : Value) (us : List Value), us.length = ps.length → bindArgs (PySem.W.fnOf x x (defArgs st) (defBody st) (defScope st) .none kV doc pm an cdv ct) ⟨us, []⟩ = pure (ps.zip us))
    (a : PySem.W.nsIn K mainGlobals x = some (some (.ref f))) (l : K.lookup f = some ⟨oc, od, .func (PySem.W.fnOf x x (defArgs st) (defBody st) (defScope st) .none kV dc pm an (.ref c) ct), sl⟩) (hc : PySem.W.codeIn K (.ref c) x = true) (k : PySem.W.keepIn K (.ref f) = true)
    (lc : K.lookup c = some ⟨e, dd, .fields vs, sl2⟩) (hP : vs[11]? = some (.ref P)) (nP : K.lookup P = none) : TabDef K h x st ps c P :=
  let ⟨r1, r2⟩ := R x f c P _ _ e dd vs sl2 hx a l rfl rfl lc hP
  ⟨f, _, a, fun_mk (st := st) l hc k, (fun_mk (st := st) l hc k).binds hb, rfl, r1, r2, nP⟩
theorem nodup_uniq {T : List (Addr × Str)} (hn : (T.map Prod.fst).Nodup) {a : Addr} {b : Str} (h : (a, b) ∈ T) : ∀ p ∈ T, p.1 = a → p.2 = b := fun p hp e => by
  induction T with
  | nil => cases h
  | cons t T ih =>
    have hn' := List.nodup_cons.mp hn
    rcases List.mem_cons.mp h with h1 | h1
    · rcases List.mem_cons.mp hp with h2 | h2
      · rw [h2, ← h1]
      · exact absurd (List.mem_map.mpr ⟨p, h2, by rw [e, ← h1]⟩) hn'.1
    · rcases List.mem_cons.mp hp with h2 | h2
      · exact absurd (List.mem_map.mpr ⟨(a, b), h1, by rw [← h2, e]⟩) hn'.1
      · exact ih hn'.2 h1 h2
theorem law_at {l : PySem.W.OpenLaw} {w : World} {K : PySem.W.Frag} {h : Heap} {mg : Str → Option Value} {fa C : Addr} {cislot Pislot cistable Pistable cneedrules Pneedrules cisnight Pisnight cnightstext Pnightstext claw Plaw : Addr} {tmc tms tme tfg : Tok} {zz : Str} (X : K.In h) (G : h.Ns mainGlobals mg) (hfa : mg "law" = some (.ref fa))
    (hnd : ([Pislot, Pistable, Pneedrules, Pisnight, Pnightstext, Plaw] : List Addr).Nodup)
    (Disnumber : HasDef K "is_number" sNum ["value", "low", "high"])
    (Dislot : TabDef K h "is_lot" sLot ["many", "value"] cislot Pislot)
    (Dneedhouse : HasDef K "need_house" sHouse ["value"])
    (Distable : TabDef K h "is_table" sTable ["house", "signs", "clerk", "value"] cistable Pistable)
    (Dpower : HasDef K "power" sPow ["base", "times"])
    (Dneedrules : TabDef K h "need_rules" sRules ["house", "value"] cneedrules Pneedrules)
    (Disnight : TabDef K h "is_night" sNight ["house", "rules", "liars", "value"] cisnight Pisnight)
    (Dlinesof : HasDef K "lines_of" sLines ["text"])
    (Dfigureof : HasDef K "figure_of" sFig ["word", "most"])
    (Dnumbersof : HasDef K "numbers_of" sNums ["words", "most"])
    (Dwordsof : HasDef K "words_of" sWords ["numbers"])
    (Dhousetext : HasDef K "house_text" sHText ["house"])
    (Dreadhouse : HasDef K "read_house" sReadH ["text"])
    (Drulestext : HasDef K "rules_text" sRText ["house", "rules"])
    (Dreadrules : HasDef K "read_rules" sReadR ["house", "text"])
    (Dpairtext : HasDef K "pair_text" sPair ["pair"])
    (Dnighttext : HasDef K "night_text" sNText ["night"])
    (Dnightstext : TabDef K h "nights_text" sNsText ["house", "rules", "nights"] cnightstext Pnightstext)
    (Dnightof : HasDef K "night_of" sNightOf ["house", "rules", "line"])
    (Dreadnights : HasDef K "read_nights" sReadN ["house", "rules", "text"])
    (Dlawtaken : HasDef K "_law_taken" sTaken ["_law_row", "_law_many"])
    (Dlawpick : HasDef K "_law_pick" sPick ["_law_row", "_law_things"])
    (Dlawalike : HasDef K "_law_alike" sAl ["_law_found", "_law_due"])
    (Dlawfigures : HasDef K "_law_figures" sLFigs ["_law_words_here", "_law_most"])
    (Dlawbent : HasDef K "_law_bent" sBent ["_law_row", "_law_lines_here", "_law_more"])
    (Dlawhouse : HasDef K "_law_house" sLHouse ["_law_row", "_law_most"])
    (Dlawrules : HasDef K "_law_rules" sLRules ["_law_row", "_law_house_here"])
    (Dlawpower : HasDef K "_law_power" sLPow ["_law_one", "_law_many"])
    (Dlawnight : HasDef K "_law_night" sLNight ["_law_row", "_law_house_here", "_law_signs", "_law_lot", "_law_most"])
    (Dlawtold : HasDef K "_law_told" sTold ["_law_work"])
    (Dlawwords : HasDef K "_law_words" sLWords ["_law_numbers"])
    (Dlawlines : HasDef K "_law_lines" sLLines ["_law_text", "_law_least"])
    (Dlawreadhouse : HasDef K "_law_read_house" sLReadH ["_law_text"])
    (Dlawreadrules : HasDef K "_law_read_rules" sLReadR ["_law_house_here", "_law_text"])
    (Dlawnightof : HasDef K "_law_night_of" sLNightOf ["_law_house_here", "_law_signs", "_law_line"])
    (Dlawreadnights : HasDef K "_law_read_nights" sLReadN ["_law_house_here", "_law_signs", "_law_text"])
    (Dlawnighttext : HasDef K "_law_night_text" sLNText ["_law_night_here"])
    (Dlaw : TabDef K h "law" sLaw ["_law_script"] claw Plaw)
    (z0 : PySem.W.nsIn K mainGlobals "len" = some none) (z1 : PySem.W.nsIn K mainGlobals "isinstance" = some none) (z2 : PySem.W.nsIn K mainGlobals "int" = some none) (z3 : PySem.W.nsIn K mainGlobals "bool" = some none) (z4 : PySem.W.nsIn K mainGlobals "str" = some none) (z5 : PySem.W.nsIn K mainGlobals "tuple" = some none) (z6 : PySem.W.nsIn K mainGlobals "list" = some none) (z7 : PySem.W.nsIn K mainGlobals "all" = some none) (z8 : PySem.W.nsIn K mainGlobals "zip" = some none) (z9 : PySem.W.nsIn K mainGlobals "enumerate" = some none) (z10 : PySem.W.nsIn K mainGlobals "range" = some none) (z11 : PySem.W.nsIn K mainGlobals "max" = some none) (z12 : PySem.W.nsIn K mainGlobals "sorted" = some none) (z13 : PySem.W.nsIn K mainGlobals "set" = some none)
    (zmc : PySem.W.nsIn K mainGlobals "MOST_CLERKS" = some (some (.int 7 tmc))) (zms : PySem.W.nsIn K mainGlobals "MOST_SIGNS" = some (some (.int 3 tms))) (zme : PySem.W.nsIn K mainGlobals "MOST_EVENING" = some (some (.int 200 tme))) (zfg : PySem.W.nsIn K mainGlobals "FIGURES" = some (some (.str zz tfg))) (hfg : zz = Str.ofString "0123456789")
    (BC : Bad K mg C) : LawAtS l w K CX0 13 63 "_law_script" mg fa h := by
  obtain ⟨fisnumber, fdisnumber, aisnumber, Fisnumber, bisnumber⟩ := Disnumber
  have Eisnumber : Df K mg "is_number" sNum ["value", "low", "high"] fisnumber fdisnumber := ⟨Fisnumber, PySem.W.mg_of X G aisnumber, bisnumber⟩
  obtain ⟨fislot, fdislot, aislot, Fislot, bislot, kislot, hislot, tislot, nislot⟩ := Dislot
  have Eislot : Df K mg "is_lot" sLot ["many", "value"] fislot fdislot := ⟨Fislot, PySem.W.mg_of X G aislot, bislot⟩
  obtain ⟨fneedhouse, fdneedhouse, aneedhouse, Fneedhouse, bneedhouse⟩ := Dneedhouse
  have Eneedhouse : Df K mg "need_house" sHouse ["value"] fneedhouse fdneedhouse := ⟨Fneedhouse, PySem.W.mg_of X G aneedhouse, bneedhouse⟩
  obtain ⟨fistable, fdistable, aistable, Fistable, bistable, kistable, histable, tistable, nistable⟩ := Distable
  have Eistable : Df K mg "is_table" sTable ["house", "signs", "clerk", "value"] fistable fdistable := ⟨Fistable, PySem.W.mg_of X G aistable, bistable⟩
  obtain ⟨fpower, fdpower, apower, Fpower, bpower⟩ := Dpower
  have Epower : Df K mg "power" sPow ["base", "times"] fpower fdpower := ⟨Fpower, PySem.W.mg_of X G apower, bpower⟩
  obtain ⟨fneedrules, fdneedrules, aneedrules, Fneedrules, bneedrules, kneedrules, hneedrules, tneedrules, nneedrules⟩ := Dneedrules
  have Eneedrules : Df K mg "need_rules" sRules ["house", "value"] fneedrules fdneedrules := ⟨Fneedrules, PySem.W.mg_of X G aneedrules, bneedrules⟩
  obtain ⟨fisnight, fdisnight, aisnight, Fisnight, bisnight, kisnight, hisnight, tisnight, nisnight⟩ := Disnight
  have Eisnight : Df K mg "is_night" sNight ["house", "rules", "liars", "value"] fisnight fdisnight := ⟨Fisnight, PySem.W.mg_of X G aisnight, bisnight⟩
  obtain ⟨flinesof, fdlinesof, alinesof, Flinesof, blinesof⟩ := Dlinesof
  have Elinesof : Df K mg "lines_of" sLines ["text"] flinesof fdlinesof := ⟨Flinesof, PySem.W.mg_of X G alinesof, blinesof⟩
  obtain ⟨ffigureof, fdfigureof, afigureof, Ffigureof, bfigureof⟩ := Dfigureof
  have Efigureof : Df K mg "figure_of" sFig ["word", "most"] ffigureof fdfigureof := ⟨Ffigureof, PySem.W.mg_of X G afigureof, bfigureof⟩
  obtain ⟨fnumbersof, fdnumbersof, anumbersof, Fnumbersof, bnumbersof⟩ := Dnumbersof
  have Enumbersof : Df K mg "numbers_of" sNums ["words", "most"] fnumbersof fdnumbersof := ⟨Fnumbersof, PySem.W.mg_of X G anumbersof, bnumbersof⟩
  obtain ⟨fwordsof, fdwordsof, awordsof, Fwordsof, bwordsof⟩ := Dwordsof
  have Ewordsof : Df K mg "words_of" sWords ["numbers"] fwordsof fdwordsof := ⟨Fwordsof, PySem.W.mg_of X G awordsof, bwordsof⟩
  obtain ⟨fhousetext, fdhousetext, ahousetext, Fhousetext, bhousetext⟩ := Dhousetext
  have Ehousetext : Df K mg "house_text" sHText ["house"] fhousetext fdhousetext := ⟨Fhousetext, PySem.W.mg_of X G ahousetext, bhousetext⟩
  obtain ⟨freadhouse, fdreadhouse, areadhouse, Freadhouse, breadhouse⟩ := Dreadhouse
  have Ereadhouse : Df K mg "read_house" sReadH ["text"] freadhouse fdreadhouse := ⟨Freadhouse, PySem.W.mg_of X G areadhouse, breadhouse⟩
  obtain ⟨frulestext, fdrulestext, arulestext, Frulestext, brulestext⟩ := Drulestext
  have Erulestext : Df K mg "rules_text" sRText ["house", "rules"] frulestext fdrulestext := ⟨Frulestext, PySem.W.mg_of X G arulestext, brulestext⟩
  obtain ⟨freadrules, fdreadrules, areadrules, Freadrules, breadrules⟩ := Dreadrules
  have Ereadrules : Df K mg "read_rules" sReadR ["house", "text"] freadrules fdreadrules := ⟨Freadrules, PySem.W.mg_of X G areadrules, breadrules⟩
  obtain ⟨fpairtext, fdpairtext, apairtext, Fpairtext, bpairtext⟩ := Dpairtext
  have Epairtext : Df K mg "pair_text" sPair ["pair"] fpairtext fdpairtext := ⟨Fpairtext, PySem.W.mg_of X G apairtext, bpairtext⟩
  obtain ⟨fnighttext, fdnighttext, anighttext, Fnighttext, bnighttext⟩ := Dnighttext
  have Enighttext : Df K mg "night_text" sNText ["night"] fnighttext fdnighttext := ⟨Fnighttext, PySem.W.mg_of X G anighttext, bnighttext⟩
  obtain ⟨fnightstext, fdnightstext, anightstext, Fnightstext, bnightstext, knightstext, hnightstext, tnightstext, nnightstext⟩ := Dnightstext
  have Enightstext : Df K mg "nights_text" sNsText ["house", "rules", "nights"] fnightstext fdnightstext := ⟨Fnightstext, PySem.W.mg_of X G anightstext, bnightstext⟩
  obtain ⟨fnightof, fdnightof, anightof, Fnightof, bnightof⟩ := Dnightof
  have Enightof : Df K mg "night_of" sNightOf ["house", "rules", "line"] fnightof fdnightof := ⟨Fnightof, PySem.W.mg_of X G anightof, bnightof⟩
  obtain ⟨freadnights, fdreadnights, areadnights, Freadnights, breadnights⟩ := Dreadnights
  have Ereadnights : Df K mg "read_nights" sReadN ["house", "rules", "text"] freadnights fdreadnights := ⟨Freadnights, PySem.W.mg_of X G areadnights, breadnights⟩
  obtain ⟨flawtaken, fdlawtaken, alawtaken, Flawtaken, blawtaken⟩ := Dlawtaken
  have Elawtaken : Df K mg "_law_taken" sTaken ["_law_row", "_law_many"] flawtaken fdlawtaken := ⟨Flawtaken, PySem.W.mg_of X G alawtaken, blawtaken⟩
  obtain ⟨flawpick, fdlawpick, alawpick, Flawpick, blawpick⟩ := Dlawpick
  have Elawpick : Df K mg "_law_pick" sPick ["_law_row", "_law_things"] flawpick fdlawpick := ⟨Flawpick, PySem.W.mg_of X G alawpick, blawpick⟩
  obtain ⟨flawalike, fdlawalike, alawalike, Flawalike, blawalike⟩ := Dlawalike
  have Elawalike : Df K mg "_law_alike" sAl ["_law_found", "_law_due"] flawalike fdlawalike := ⟨Flawalike, PySem.W.mg_of X G alawalike, blawalike⟩
  obtain ⟨flawfigures, fdlawfigures, alawfigures, Flawfigures, blawfigures⟩ := Dlawfigures
  have Elawfigures : Df K mg "_law_figures" sLFigs ["_law_words_here", "_law_most"] flawfigures fdlawfigures := ⟨Flawfigures, PySem.W.mg_of X G alawfigures, blawfigures⟩
  obtain ⟨flawbent, fdlawbent, alawbent, Flawbent, blawbent⟩ := Dlawbent
  have Elawbent : Df K mg "_law_bent" sBent ["_law_row", "_law_lines_here", "_law_more"] flawbent fdlawbent := ⟨Flawbent, PySem.W.mg_of X G alawbent, blawbent⟩
  obtain ⟨flawhouse, fdlawhouse, alawhouse, Flawhouse, blawhouse⟩ := Dlawhouse
  have Elawhouse : Df K mg "_law_house" sLHouse ["_law_row", "_law_most"] flawhouse fdlawhouse := ⟨Flawhouse, PySem.W.mg_of X G alawhouse, blawhouse⟩
  obtain ⟨flawrules, fdlawrules, alawrules, Flawrules, blawrules⟩ := Dlawrules
  have Elawrules : Df K mg "_law_rules" sLRules ["_law_row", "_law_house_here"] flawrules fdlawrules := ⟨Flawrules, PySem.W.mg_of X G alawrules, blawrules⟩
  obtain ⟨flawpower, fdlawpower, alawpower, Flawpower, blawpower⟩ := Dlawpower
  have Elawpower : Df K mg "_law_power" sLPow ["_law_one", "_law_many"] flawpower fdlawpower := ⟨Flawpower, PySem.W.mg_of X G alawpower, blawpower⟩
  obtain ⟨flawnight, fdlawnight, alawnight, Flawnight, blawnight⟩ := Dlawnight
  have Elawnight : Df K mg "_law_night" sLNight ["_law_row", "_law_house_here", "_law_signs", "_law_lot", "_law_most"] flawnight fdlawnight := ⟨Flawnight, PySem.W.mg_of X G alawnight, blawnight⟩
  obtain ⟨flawtold, fdlawtold, alawtold, Flawtold, blawtold⟩ := Dlawtold
  have Elawtold : Df K mg "_law_told" sTold ["_law_work"] flawtold fdlawtold := ⟨Flawtold, PySem.W.mg_of X G alawtold, blawtold⟩
  obtain ⟨flawwords, fdlawwords, alawwords, Flawwords, blawwords⟩ := Dlawwords
  have Elawwords : Df K mg "_law_words" sLWords ["_law_numbers"] flawwords fdlawwords := ⟨Flawwords, PySem.W.mg_of X G alawwords, blawwords⟩
  obtain ⟨flawlines, fdlawlines, alawlines, Flawlines, blawlines⟩ := Dlawlines
  have Elawlines : Df K mg "_law_lines" sLLines ["_law_text", "_law_least"] flawlines fdlawlines := ⟨Flawlines, PySem.W.mg_of X G alawlines, blawlines⟩
  obtain ⟨flawreadhouse, fdlawreadhouse, alawreadhouse, Flawreadhouse, blawreadhouse⟩ := Dlawreadhouse
  have Elawreadhouse : Df K mg "_law_read_house" sLReadH ["_law_text"] flawreadhouse fdlawreadhouse := ⟨Flawreadhouse, PySem.W.mg_of X G alawreadhouse, blawreadhouse⟩
  obtain ⟨flawreadrules, fdlawreadrules, alawreadrules, Flawreadrules, blawreadrules⟩ := Dlawreadrules
  have Elawreadrules : Df K mg "_law_read_rules" sLReadR ["_law_house_here", "_law_text"] flawreadrules fdlawreadrules := ⟨Flawreadrules, PySem.W.mg_of X G alawreadrules, blawreadrules⟩
  obtain ⟨flawnightof, fdlawnightof, alawnightof, Flawnightof, blawnightof⟩ := Dlawnightof
  have Elawnightof : Df K mg "_law_night_of" sLNightOf ["_law_house_here", "_law_signs", "_law_line"] flawnightof fdlawnightof := ⟨Flawnightof, PySem.W.mg_of X G alawnightof, blawnightof⟩
  obtain ⟨flawreadnights, fdlawreadnights, alawreadnights, Flawreadnights, blawreadnights⟩ := Dlawreadnights
  have Elawreadnights : Df K mg "_law_read_nights" sLReadN ["_law_house_here", "_law_signs", "_law_text"] flawreadnights fdlawreadnights := ⟨Flawreadnights, PySem.W.mg_of X G alawreadnights, blawreadnights⟩
  obtain ⟨flawnighttext, fdlawnighttext, alawnighttext, Flawnighttext, blawnighttext⟩ := Dlawnighttext
  have Elawnighttext : Df K mg "_law_night_text" sLNText ["_law_night_here"] flawnighttext fdlawnighttext := ⟨Flawnighttext, PySem.W.mg_of X G alawnighttext, blawnighttext⟩
  obtain ⟨flaw, fdlaw, alaw, Flaw, blaw, klaw, hlaw, tlaw, nlaw⟩ := Dlaw
  have Elaw : Df K mg "law" sLaw ["_law_script"] flaw fdlaw := ⟨Flaw, PySem.W.mg_of X G alaw, blaw⟩
  have eF : fa = flaw := by
    have e := hfa.symm.trans (PySem.W.mg_of X G alaw)
    cases e
    rfl
  subst eF
  have B : Bl mg := ⟨PySem.W.mg_none_of X G z0, PySem.W.mg_none_of X G z1, PySem.W.mg_none_of X G z2, PySem.W.mg_none_of X G z3, PySem.W.mg_none_of X G z4, PySem.W.mg_none_of X G z5, PySem.W.mg_none_of X G z6, PySem.W.mg_none_of X G z7, PySem.W.mg_none_of X G z8, PySem.W.mg_none_of X G z9, PySem.W.mg_none_of X G z10, PySem.W.mg_none_of X G z11, PySem.W.mg_none_of X G z12, PySem.W.mg_none_of X G z13, ⟨_, PySem.W.mg_of X G zmc, _, rfl⟩, ⟨_, PySem.W.mg_of X G zms, _, rfl⟩, ⟨_, PySem.W.mg_of X G zme, _, rfl⟩, ⟨_, PySem.W.mg_of X G zfg, by rw [hfg]; exact ⟨_, rfl⟩⟩⟩
  refine ⟨fdlaw, [(cislot, Pislot), (cistable, Pistable), (cneedrules, Pneedrules), (cisnight, Pisnight), (cnightstext, Pnightstext), (claw, Plaw)], spLaw K [(Pislot, gq "is_lot"), (Pistable, gq "is_table"), (Pneedrules, gq "need_rules"), (Pisnight, gq "is_night"), (Pnightstext, gq "nights_text"), (Plaw, lq)], ?_, ?_, ?_, fun s u => ?_, fun H a ns hn hb hH hS => ⟨a, ns, rfl, hS, ?_, fun _ => rfl⟩, fun base KB hB hTB => ?_⟩
  · intro p hp
    simp only [List.mem_cons, List.not_mem_nil, or_false] at hp
    rcases hp with rfl | rfl | rfl | rfl | rfl | rfl <;> assumption
  · intro p hp
    simp only [List.mem_cons, List.not_mem_nil, or_false] at hp
    rcases hp with rfl | rfl | rfl | rfl | rfl | rfl <;> assumption
  · intro p hp
    simp only [List.mem_cons, List.not_mem_nil, or_false] at hp
    rcases hp with rfl | rfl | rfl | rfl | rfl | rfl <;> assumption
  · obtain ⟨_, _, _, _, _, _, _, _, _, e, _, _⟩ := Flaw.ex
    rw [e]
    exact .of_eq rfl
  · intro x hx
    have hh : H x.1 = some (.tbl #[]) := by
      simp only [List.mem_cons, List.not_mem_nil, or_false] at hx
      rcases hx with rfl | rfl | rfl | rfl | rfl | rfl
      · exact hH (cislot, Pislot) (by simp)
      · exact hH (cistable, Pistable) (by simp)
      · exact hH (cneedrules, Pneedrules) (by simp)
      · exact hH (cisnight, Pisnight) (by simp)
      · exact hH (cnightstext, Pnightstext) (by simp)
      · exact hH (claw, Plaw) (by simp)
    exact ⟨#[], hh, by trivial, fun pos cv hc => by cases hc⟩
  · have hT : (([(Pislot, gq "is_lot"), (Pistable, gq "is_table"), (Pneedrules, gq "need_rules"), (Pisnight, gq "is_night"), (Pnightstext, gq "nights_text"), (Plaw, lq)] : List (Addr × Str)).map Prod.fst).Nodup := hnd
    have tbislot : Tb [(Pislot, gq "is_lot"), (Pistable, gq "is_table"), (Pneedrules, gq "need_rules"), (Pisnight, gq "is_night"), (Pnightstext, gq "nights_text"), (Plaw, lq)] base mg fdislot (gq "is_lot") := ⟨cislot, Pislot, kislot, hTB (cislot, Pislot) (by simp), by simp, nodup_uniq hT (by simp)⟩
    have tbistable : Tb [(Pislot, gq "is_lot"), (Pistable, gq "is_table"), (Pneedrules, gq "need_rules"), (Pisnight, gq "is_night"), (Pnightstext, gq "nights_text"), (Plaw, lq)] base mg fdistable (gq "is_table") := ⟨cistable, Pistable, kistable, hTB (cistable, Pistable) (by simp), by simp, nodup_uniq hT (by simp)⟩
    have tbneedrules : Tb [(Pislot, gq "is_lot"), (Pistable, gq "is_table"), (Pneedrules, gq "need_rules"), (Pisnight, gq "is_night"), (Pnightstext, gq "nights_text"), (Plaw, lq)] base mg fdneedrules (gq "need_rules") := ⟨cneedrules, Pneedrules, kneedrules, hTB (cneedrules, Pneedrules) (by simp), by simp, nodup_uniq hT (by simp)⟩
    have tbisnight : Tb [(Pislot, gq "is_lot"), (Pistable, gq "is_table"), (Pneedrules, gq "need_rules"), (Pisnight, gq "is_night"), (Pnightstext, gq "nights_text"), (Plaw, lq)] base mg fdisnight (gq "is_night") := ⟨cisnight, Pisnight, kisnight, hTB (cisnight, Pisnight) (by simp), by simp, nodup_uniq hT (by simp)⟩
    have tbnightstext : Tb [(Pislot, gq "is_lot"), (Pistable, gq "is_table"), (Pneedrules, gq "need_rules"), (Pisnight, gq "is_night"), (Pnightstext, gq "nights_text"), (Plaw, lq)] base mg fdnightstext (gq "nights_text") := ⟨cnightstext, Pnightstext, knightstext, hTB (cnightstext, Pnightstext) (by simp), by simp, nodup_uniq hT (by simp)⟩
    have tblaw : Tb [(Pislot, gq "is_lot"), (Pistable, gq "is_table"), (Pneedrules, gq "need_rules"), (Pisnight, gq "is_night"), (Pnightstext, gq "nights_text"), (Plaw, lq)] base mg fdlaw (lq) := ⟨claw, Plaw, klaw, hTB (claw, Plaw) (by simp), by simp, nodup_uniq hT (by simp)⟩
    have Gislot : FnOk l.prog w K mg base CX0 5 fislot fdislot ["many", "value"] (spLotN K [(Pislot, gq "is_lot"), (Pistable, gq "is_table"), (Pneedrules, gq "need_rules"), (Pisnight, gq "is_night"), (Pnightstext, gq "nights_text"), (Plaw, lq)]) := (ok_lot Fislot tbislot B Eisnumber).imp fun vs H Q E q => lot_imp vs H Q E q
    have Gistable := ok_table (P := l.prog) (w := w) (base := base) Fistable tbistable B Eisnumber Epower
    have Ghouse := ok_house (P := l.prog) (w := w) (base := base) (T := [(Pislot, gq "is_lot"), (Pistable, gq "is_table"), (Pneedrules, gq "need_rules"), (Pisnight, gq "is_night"), (Pnightstext, gq "nights_text"), (Plaw, lq)]) Fneedhouse B Eislot Gislot
    have Grules := ok_rules (P := l.prog) (w := w) (base := base) Fneedrules tbneedrules B Eisnumber Eistable Gistable
    have Gnight := ok_night (P := l.prog) (w := w) (base := base) Fisnight tbisnight B Eisnumber
    have GnText := ok_nText (P := l.prog) (w := w) (base := base) (T := [(Pislot, gq "is_lot"), (Pistable, gq "is_table"), (Pneedrules, gq "need_rules"), (Pisnight, gq "is_night"), (Pnightstext, gq "nights_text"), (Plaw, lq)]) Fnighttext B Epairtext
    have GnightOf := ok_nightOf (P := l.prog) (w := w) (base := base) (T := [(Pislot, gq "is_lot"), (Pistable, gq "is_table"), (Pneedrules, gq "need_rules"), (Pisnight, gq "is_night"), (Pnightstext, gq "nights_text"), (Plaw, lq)]) Fnightof B Enumbersof Efigureof Eisnight Gnight
    have LD : LawD l.prog w K mg base [(Pislot, gq "is_lot"), (Pistable, gq "is_table"), (Pneedrules, gq "need_rules"), (Pisnight, gq "is_night"), (Pnightstext, gq "nights_text"), (Plaw, lq)] C :=
      ⟨B, BC, ⟨_, _, Elawtaken, ok_taken Flawtaken B⟩, ⟨_, _, Elawhouse, ok_lhouse Flawhouse B Elawtaken⟩, ⟨_, _, Elawrules, ok_lrules Flawrules B Elawtaken Elawpower⟩, ⟨_, _, Elawnight, ok_lnight Flawnight B Elawtaken Elawpick⟩,
        ⟨_, _, Elawwords, ok_lwords Flawwords B⟩, ⟨_, _, Elawalike, ok_al Elawalike B 5⟩, ⟨_, _, Elawbent, ok_bent Flawbent B Elawtaken Elawpick⟩, ⟨_, _, Elawtold⟩,
        ⟨_, _, Elawreadhouse, ok_lReadH Flawreadhouse B Elawlines Elawfigures⟩, ⟨_, _, Elawreadrules, ok_lReadR Flawreadrules B Elawlines Elawfigures Elawpower⟩, ⟨_, _, Elawreadnights, ok_lReadN Flawreadnights B Elawlines Elawnightof Elawfigures⟩, ⟨_, _, Elawnighttext, ok_lnText Flawnighttext B⟩,
        ⟨_, _, Ehousetext, ok_hText Fhousetext B Eneedhouse Ghouse Ewordsof⟩, ⟨_, _, Erulestext, ok_rText Frulestext B Eneedhouse Ghouse Eneedrules Grules Ewordsof⟩, ⟨_, _, Enightstext, ok_nsText Fnightstext tbnightstext B Eneedhouse Ghouse Eneedrules Grules Eisnight Gnight Enighttext GnText⟩,
        ⟨_, _, Ereadhouse, ok_readH Freadhouse B BC Elinesof Enumbersof Efigureof Eislot Gislot⟩, ⟨_, _, Ereadrules, ok_readR Freadrules B BC Elinesof Eneedhouse Ghouse Enumbersof Efigureof Eistable Gistable⟩, ⟨_, _, Ereadnights, ok_readN Freadnights B BC Elinesof Eneedhouse Ghouse Eneedrules Grules Enightof GnightOf⟩⟩
    exact ok_law Flaw tblaw LD
/-- the end, with the tables of the recorded defs -/
theorem walk_recs {l : PySem.W.OpenLaw} {n k : Nat} {q : Program} {loose : List Str} {XP : (Str → Option Value) → Heap → Prop} {YP : World → Heap → Prop} {d : DefRec} {K : Params → PySem.W.Frag} {x : Str}
    (hn : l.most = some n) (hn2 : n ≤ sizeLine) (hdf : d.params.defaults = []) (hr : Room k callerA) (hY : ∀ (w : World) (h : Heap), YP w h → (K w.params).In h)
    (F : ∀ (w : World) (mg : Str → Option Value) (fa : Addr) (h : Heap), YP w h → (K w.params).In h → h.Ns mainGlobals mg → mg d.name = some (.ref fa) → Recs (K w.params) h q → LawAtS l w (K w.params) CX0 k n x mg fa h) :
    PySem.W.WalkO q loose XP YP l.row.toRowW d [] (fun f vs => PySem.call f vs) := by
  refine Att.attach_callB hn hdf fun w s₀ s₁ mg mb fa o pm cd doc a vs ns G Y ho hd hcd hmg hobj hints hlen hbits hg => ?_
  have KX := hY w _ Y
  have recs : Recs (K w.params) s₁.heap q := fun y f c P o1 fd1 e dd vs1 sl hy k0 k1 k2 k3 k4 k5 => by
    obtain ⟨dL, hm, hn1⟩ := List.any_eq_true.mp hy
    obtain ⟨a', o', fd', c', P', h1, h2, h3, h4, h5, h6⟩ := G.T.tab dL hm
    rw [beq_iff_eq.mp hn1, PySem.W.mg_of KX G.T.g k0] at h1
    cases h1
    have g1 := KX _ _ k1
    rw [g1] at h2
    cases h2
    rw [k2] at h3
    cases h3
    rw [k3] at h4
    cases h4
    have hC := PySem.W.CodeHd.of h5 h6
    obtain ⟨⟨oc, vc, e1, _, e3, e4⟩, hP⟩ := h6
    have g2 := KX _ _ k4
    rw [g2] at e1
    cases e1
    cases e3
    rw [k5] at e4
    cases e4
    exact ⟨hC, hP⟩
  obtain ⟨fd, cs, sp, hT, nT, C, hb, hsp, hF⟩ := F w mg fa _ Y KX G.T.g hmg recs
  exact LamX.law_callTs KX G.T.g G.T.b G.T.builtins G.T.nolimit hg hT nT C G.T.bmain hobj hints (Nat.le_trans hlen hn2) hr hF hb (fun H hH hS => hsp H a ns hlen hbits hH hS) fun H e s' z => z
/-- an error of the class is what the clause names -/
theorem exm_own {K : PySem.W.Frag} {S : Addr} (h1 : PySem.W.subIn K (.ref S) (.type "BaseException") = some true) (h2 : PySem.W.isClsIn K S = true) (h3 : PySem.W.typeIn K (.ref S) = some (.type "type")) (h4 : PySem.W.subIn K (.ref S) (.ref S) = some true) :
    PySem.W.exmOne K (.ref S) (.ref S) = some true := by
  have e1 : (PySem.W.subIn K (.ref S) (.type "BaseException") == some true) = true := by rw [h1]; rfl
  have e2 : ((PySem.W.clsIn K S).isSome && PySem.W.typeIn K (.ref S) == some (.type "type")) = true := by
    have q : (PySem.W.clsIn K S).isSome = true := h2
    rw [q, h3]
    rfl
  unfold PySem.W.exmOne
  rw [if_pos e1]
  exact (if_pos e2).trans h4
theorem bad_mk {K : PySem.W.Frag} {h : Heap} {mg : Str → Option Value} (X : K.In h) (G : h.Ns mainGlobals mg) {C fI N : Addr} {nm q : Str} {bs bm : List Value} {sn : List Str} {sub : List Value} {ab : Bool} {col : Option Bool} {dd : Option Addr} {m0 m1 m2 m3 m5 : Option Value}
    {od an : Option Addr} {sl : Array (Option Value)} {oc kV dc pm cd ct : Value}
    (a : PySem.W.nsIn K mainGlobals "BadLine" = some (some (.ref C))) (xL : K.lookup C = some (excClassObj nm q C N bs bm true sn sub ab col dd m0 m1 m2 m3 m5 "ValueError.__new__")) (hbm : PySem.HandSPX.refsVE bm = true)
    (sa : PySem.W.findIn K (.ref C) "__setattr__" = some (some (.builtin "object.__setattr__"))) (ga : PySem.W.findIn K (.ref C) "__getattribute__" = some (some (.builtin "BaseException.__getattribute__"))) (gg : PySem.W.findIn K (.ref C) "__getattr__" = some none) (nf : PySem.W.findIn K (.ref C) "line" = some none)
    (a1 : PySem.W.findIn K (.ref C) "__init__" = some (some (.ref fI))) (t1 : PySem.W.typeIn K (.ref fI) = some (.type "function"))
    (l1 : K.lookup fI = some ⟨oc, od, .func (PySem.W.fnOf "__init__" "BadLine.__init__" (defArgs sBadI) (defBody sBadI) (defScope sBadI) .none kV dc pm an cd ct), sl⟩) (c1 : PySem.W.codeIn K cd "BadLine.__init__" = true) (k1 : PySem.W.keepIn K (.ref fI) = true)
    (kC : PySem.W.keepIn K (.ref C) = true) (eC : PySem.W.subIn K (.ref C) (.type "BaseException") = some true) (tC : PySem.W.typeIn K (.ref C) = some (.type "type")) (hC : PySem.W.hasDictIn K C = true) (iC : PySem.W.isClsIn K C = true) (sC : PySem.W.subIn K (.ref C) (.ref C) = some true) : Bad K mg C :=
  have F := fun_mk (st := sBadI) l1 c1 k1
  ⟨⟨⟨nm, q, N, bs, bm, sn, sub, ab, col, dd, m0, m1, m2, m3, m5, xL, hbm⟩, sa, eC, tC, kC⟩, ⟨fI, _, a1, t1, F, F.binds (ps := ["self", "line"]) fun _ _ _ _ _ _ us hl => match us, hl with | [_, _], _ => rfl⟩, PySem.W.mg_of X G a, nf, ⟨ga, gg, eC, hC⟩, exm_own eC iC tC sC⟩
end K60
set_option Elab.async false
open PySem PySem.W PyProof.Rows
set_option maxRecDepth 100000 in
set_option maxHeartbeats 0 in
theorem PySem.Challenge.cw_nightslates_k60_whole_texts_holds : PySem.Challenge.rw_nightslates_k60_whole_texts.Holds := by
  w_on; o_law; k_head; (case hw => w_witness2)
  k_fill
  refine K60.walk_recs (l := PySem.Challenge.rw_nightslates_k60_whole_texts) (n := 63) (k := 13) (x := "_law_script") rfl (by decide) rfl ⟨rfl, by decide, by decide⟩ (fun w h Y => PySem.W.km_in_of Y) ?F
  case F =>
    intro w mg fa h Y KX G hmg R
    refine' K60.law_at KX G hmg ?hnd ?Disnumber ?Dislot ?Dneedhouse ?Distable ?Dpower ?Dneedrules ?Disnight ?Dlinesof ?Dfigureof ?Dnumbersof ?Dwordsof ?Dhousetext ?Dreadhouse ?Drulestext ?Dreadrules ?Dpairtext ?Dnighttext ?Dnightstext ?Dnightof ?Dreadnights ?Dlawtaken ?Dlawpick ?Dlawalike ?Dlawfigures ?Dlawbent ?Dlawhouse ?Dlawrules ?Dlawpower ?Dlawnight ?Dlawtold ?Dlawwords ?Dlawlines ?Dlawreadhouse ?Dlawreadrules ?Dlawnightof ?Dlawreadnights ?Dlawnighttext ?Dlaw ?z0 ?z1 ?z2 ?z3 ?z4 ?z5 ?z6 ?z7 ?z8 ?z9 ?z10 ?z11 ?z12 ?z13 ?zmc ?zms ?zme ?zfg ?hfg ?BC
    case Disnumber => exact K60.has_mk (fun _ _ _ _ _ _ us hl => match us, hl with | [_, _, _], _ => rfl) (by k_is) (by k_is) (by k_is) (by k_is)
    case Dislot => exact K60.tab_mk R (by kernel_rfl) (fun _ _ _ _ _ _ us hl => match us, hl with | [_, _], _ => rfl) (by k_is) (by k_is) (by k_is) (by k_is) (by k_is) (by rfl) (by kernel_rfl)
    case Dneedhouse => exact K60.has_mk (fun _ _ _ _ _ _ us hl => match us, hl with | [_], _ => rfl) (by k_is) (by k_is) (by k_is) (by k_is)
    case Distable => exact K60.tab_mk R (by kernel_rfl) (fun _ _ _ _ _ _ us hl => match us, hl with | [_, _, _, _], _ => rfl) (by k_is) (by k_is) (by k_is) (by k_is) (by k_is) (by rfl) (by kernel_rfl)
    case Dpower => exact K60.has_mk (fun _ _ _ _ _ _ us hl => match us, hl with | [_, _], _ => rfl) (by k_is) (by k_is) (by k_is) (by k_is)
    case Dneedrules => exact K60.tab_mk R (by kernel_rfl) (fun _ _ _ _ _ _ us hl => match us, hl with | [_, _], _ => rfl) (by k_is) (by k_is) (by k_is) (by k_is) (by k_is) (by rfl) (by kernel_rfl)
    case Disnight => exact K60.tab_mk R (by kernel_rfl) (fun _ _ _ _ _ _ us hl => match us, hl with | [_, _, _, _], _ => rfl) (by k_is) (by k_is) (by k_is) (by k_is) (by k_is) (by rfl) (by kernel_rfl)
    case Dlinesof => exact K60.has_mk (fun _ _ _ _ _ _ us hl => match us, hl with | [_], _ => rfl) (by k_is) (by k_is) (by k_is) (by k_is)
    case Dfigureof => exact K60.has_mk (fun _ _ _ _ _ _ us hl => match us, hl with | [_, _], _ => rfl) (by k_is) (by k_is) (by k_is) (by k_is)
    case Dnumbersof => exact K60.has_mk (fun _ _ _ _ _ _ us hl => match us, hl with | [_, _], _ => rfl) (by k_is) (by k_is) (by k_is) (by k_is)
    case Dwordsof => exact K60.has_mk (fun _ _ _ _ _ _ us hl => match us, hl with | [_], _ => rfl) (by k_is) (by k_is) (by k_is) (by k_is)
    case Dhousetext => exact K60.has_mk (fun _ _ _ _ _ _ us hl => match us, hl with | [_], _ => rfl) (by k_is) (by k_is) (by k_is) (by k_is)
    case Dreadhouse => exact K60.has_mk (fun _ _ _ _ _ _ us hl => match us, hl with | [_], _ => rfl) (by k_is) (by k_is) (by k_is) (by k_is)
    case Drulestext => exact K60.has_mk (fun _ _ _ _ _ _ us hl => match us, hl with | [_, _], _ => rfl) (by k_is) (by k_is) (by k_is) (by k_is)
    case Dreadrules => exact K60.has_mk (fun _ _ _ _ _ _ us hl => match us, hl with | [_, _], _ => rfl) (by k_is) (by k_is) (by k_is) (by k_is)
    case Dpairtext => exact K60.has_mk (fun _ _ _ _ _ _ us hl => match us, hl with | [_], _ => rfl) (by k_is) (by k_is) (by k_is) (by k_is)
    case Dnighttext => exact K60.has_mk (fun _ _ _ _ _ _ us hl => match us, hl with | [_], _ => rfl) (by k_is) (by k_is) (by k_is) (by k_is)
    case Dnightstext => exact K60.tab_mk R (by kernel_rfl) (fun _ _ _ _ _ _ us hl => match us, hl with | [_, _, _], _ => rfl) (by k_is) (by k_is) (by k_is) (by k_is) (by k_is) (by rfl) (by kernel_rfl)
    case Dnightof => exact K60.has_mk (fun _ _ _ _ _ _ us hl => match us, hl with | [_, _, _], _ => rfl) (by k_is) (by k_is) (by k_is) (by k_is)
    case Dreadnights => exact K60.has_mk (fun _ _ _ _ _ _ us hl => match us, hl with | [_, _, _], _ => rfl) (by k_is) (by k_is) (by k_is) (by k_is)
    case Dlawtaken => exact K60.has_mk (fun _ _ _ _ _ _ us hl => match us, hl with | [_, _], _ => rfl) (by k_is) (by k_is) (by k_is) (by k_is)
    case Dlawpick => exact K60.has_mk (fun _ _ _ _ _ _ us hl => match us, hl with | [_, _], _ => rfl) (by k_is) (by k_is) (by k_is) (by k_is)
    case Dlawalike => exact K60.has_mk (fun _ _ _ _ _ _ us hl => match us, hl with | [_, _], _ => rfl) (by k_is) (by k_is) (by k_is) (by k_is)
    case Dlawfigures => exact K60.has_mk (fun _ _ _ _ _ _ us hl => match us, hl with | [_, _], _ => rfl) (by k_is) (by k_is) (by k_is) (by k_is)
    case Dlawbent => exact K60.has_mk (fun _ _ _ _ _ _ us hl => match us, hl with | [_, _, _], _ => rfl) (by k_is) (by k_is) (by k_is) (by k_is)
    case Dlawhouse => exact K60.has_mk (fun _ _ _ _ _ _ us hl => match us, hl with | [_, _], _ => rfl) (by k_is) (by k_is) (by k_is) (by k_is)
    case Dlawrules => exact K60.has_mk (fun _ _ _ _ _ _ us hl => match us, hl with | [_, _], _ => rfl) (by k_is) (by k_is) (by k_is) (by k_is)
    case Dlawpower => exact K60.has_mk (fun _ _ _ _ _ _ us hl => match us, hl with | [_, _], _ => rfl) (by k_is) (by k_is) (by k_is) (by k_is)
    case Dlawnight => exact K60.has_mk (fun _ _ _ _ _ _ us hl => match us, hl with | [_, _, _, _, _], _ => rfl) (by k_is) (by k_is) (by k_is) (by k_is)
    case Dlawtold => exact K60.has_mk (fun _ _ _ _ _ _ us hl => match us, hl with | [_], _ => rfl) (by k_is) (by k_is) (by k_is) (by k_is)
    case Dlawwords => exact K60.has_mk (fun _ _ _ _ _ _ us hl => match us, hl with | [_], _ => rfl) (by k_is) (by k_is) (by k_is) (by k_is)
    case Dlawlines => exact K60.has_mk (fun _ _ _ _ _ _ us hl => match us, hl with | [_, _], _ => rfl) (by k_is) (by k_is) (by k_is) (by k_is)
    case Dlawreadhouse => exact K60.has_mk (fun _ _ _ _ _ _ us hl => match us, hl with | [_], _ => rfl) (by k_is) (by k_is) (by k_is) (by k_is)
    case Dlawreadrules => exact K60.has_mk (fun _ _ _ _ _ _ us hl => match us, hl with | [_, _], _ => rfl) (by k_is) (by k_is) (by k_is) (by k_is)
    case Dlawnightof => exact K60.has_mk (fun _ _ _ _ _ _ us hl => match us, hl with | [_, _, _], _ => rfl) (by k_is) (by k_is) (by k_is) (by k_is)
    case Dlawreadnights => exact K60.has_mk (fun _ _ _ _ _ _ us hl => match us, hl with | [_, _, _], _ => rfl) (by k_is) (by k_is) (by k_is) (by k_is)
    case Dlawnighttext => exact K60.has_mk (fun _ _ _ _ _ _ us hl => match us, hl with | [_], _ => rfl) (by k_is) (by k_is) (by k_is) (by k_is)
    case Dlaw => exact K60.tab_mk R (by kernel_rfl) (fun _ _ _ _ _ _ us hl => match us, hl with | [_], _ => rfl) (by k_is) (by k_is) (by k_is) (by k_is) (by k_is) (by rfl) (by kernel_rfl)
    case z0 => k_is
    case z1 => k_is
    case z2 => k_is
    case z3 => k_is
    case z4 => k_is
    case z5 => k_is
    case z6 => k_is
    case z7 => k_is
    case z8 => k_is
    case z9 => k_is
    case z10 => k_is
    case z11 => k_is
    case z12 => k_is
    case z13 => k_is
    case zmc => k_is
    case zms => k_is
    case zme => k_is
    case zfg => k_is
    case hfg => decide +kernel
    case BC => exact K60.bad_mk KX G (by k_is) (by k_is) (by decide +kernel) (by k_is) (by k_is) (by k_is) (by k_is) (by k_is) (by k_is) (by k_is) (by k_is) (by k_is) (by k_is) (by k_is) (by k_is) (by k_is) (by k_is) (by k_is)
    case hnd => decide +kernel
