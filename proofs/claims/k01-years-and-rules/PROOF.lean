import PyProof.Rows.All
import Wide.All
import OpenK.AllK
import Wide.FinOn
import HandS.Base
import HandS.Call
import HandS.List
import HandS.Comp
import HandS.Exc
import HandS.AnyAll
import HandS.GenList
import HandS.Lambda
import HandS.ExcOwn
import HandS.Defaults
import HandS.HeadHook4
import HandS.Iter
import HandS.Zip
import HandS.TupAny
import HandS.More
import HandS.Dict
import HandS.SetFor
import HandS.Wide
import KE.KStateDown
import HandS.ForMost
import HandS.WordsExc
import HandS.Head0
import HandS.Head1
import HandS.Head2
import HandS.HeadEnd
import HandS.HeadWalk
import PySem.Challenge.RW_moonstack_k01_years_and_rules
import HandS.Style
set_option Elab.async false
set_option linter.all false
set_option maxRecDepth 100000
set_option maxHeartbeats 2000000
/-! Generator expressions over the hand layer: made, drained by tuple, any, sum. -/
namespace MG
open PySem PySem.Spec PyProof.Rows L2 GenW

/-- what a consumer does while the generator sleeps -/
structure Slp (co : List Addr) (s s' : Shared) : Prop where
  os : s'.os = s.os
  bare : AllBare s'.gens
  keep : ∀ b o, b ∉ co → s.heap.get? b = some o → s'.heap.get? b = some o
  there : ∀ b ∈ co, ∃ o, s'.heap.get? b = some o ∧ ∀ v, o.data ≠ .cell v
/-- how the maker's heap stands at a point of the run -/
structure GD (P : Program) (w : World) (outer : List Env) (H : Hp) (s : Shared) (ex co : List Addr) (H' : Hp) (s1 : Shared) : Prop where
  os : s1.os = s.os
  bare : AllBare s1.gens
  un : Un (frs outer) ex H H' s.heap s1.heap
  hok : HOk P w H' s1.heap
  free : ∀ b ∈ co, H' b = none
abbrev CnT := List V → V → Hp → Prop → Prop
def RG (P : Program) (w : World) (outer : List Env) (H : Hp) (s : Shared) (ex co : List Addr) (Rc : List V → Heap → Prop) (Qe : List V → Hp → Prop) : GenEnd :=
  fun _ s₀ r s1 => ((r = .ok (.ret .none) ∨ r = .ok .next) ∧ ∃ H' ys, GD P w outer H s ex co H' s1 ∧ (∀ b ∈ co, ∀ o, s₀.heap.get? b = some o → s1.heap.get? b = some o) ∧ Rc ys s1.heap ∧ Qe ys H') ∨ ∃ e, r = .error e ∧ False
def YG (P : Program) (w : World) (outer : List Env) (H : Hp) (s : Shared) (ex co : List Addr) (a : Addr) (g : Nat) (Rc : List V → Heap → Prop) (Cn : CnT) : Protocol :=
  fun _ s₀ v s1 kap => ∃ ys x H', RelV x v ∧ GD P w outer H s ex co H' s1 ∧ s1.heap.NoLimit ∧ s1.heap.IsGen a g ∧ (∀ b ∈ co, ∀ o, s₀.heap.get? b = some o → s1.heap.get? b = some o) ∧ Rc ys s1.heap ∧
    Cn ys x H' (∀ s', Slp co s1 s' → Rc (ys ++ [x]) s'.heap → kap (.send .none) s')

/-- the frame of a generator expression -/
abbrev gEnv (X : Cx) (scope : Scope) (L : Addr) (code : Value) : Env := genEnv scope (cloFrom X.env.cells scope.names []) L code builtinsNs X.env
def gCx (X : Cx) (A : Around) (s : Shared) (H : Hp) (scope : Scope) (code : Value) (fp : List Addr) : Cx where
  prog := X.prog
  w := X.w
  K := X.K
  mg := X.mg
  base := X.base
  A := A.deeper (gEnv X scope s.heap.objs.size code)
  N := X.N
  s_0 := s
  H_0 := H
  env := gEnv X scope s.heap.objs.size code
  outer := X.stack
  stack := gEnv X scope s.heap.objs.size code :: X.stack
  ex := fp
  fn := fun _ => false
  calm := true
  pn := []
  xe := fun _ _ => False


theorem over_loopG {A : Around} {elt : Expr} {gs : List Comprehension} {scope : Scope} {pos : Pos} {it acc : Value} {env : Env} :
    A.over (.compLoop (.GeneratorExp elt gs scope pos) 0 it acc env) [] = A.deeper env := rfl
theorem over_startG {A : Around} {elt : Expr} {gs : List Comprehension} {scope : Scope} {pos : Pos} {it acc : Value} {env : Env} :
    A.over (.compStart (.GeneratorExp elt gs scope pos) 0 it acc env) [] = A.deeper env := rfl

/-- the scope of a generator expression: its own names (with their places in N), or captured -/
structure GeOk (N : List Str) (sc scope : Scope) (own : List (Str × Nat)) : Prop where
  blk : BlkOk N sc scope own
  co : scope.isCoroutine = false
  cell : ∀ y ∈ scope.names, y.2 ≠ .cell
  dot : scope.names.lookup (".0" : Str) = some NameKind.local
def geB (N : List Str) (sc scope : Scope) (own : List (Str × Nat)) : Bool :=
  blkC N sc scope own && (!scope.isCoroutine && ((scope.names.all fun y => !decide (y.2 = .cell)) && decide (scope.names.lookup (".0" : Str) = some NameKind.local)))
theorem geOk_by {N : List Str} {sc scope : Scope} {own : List (Str × Nat)} (h : geB N sc scope own = true) : GeOk N sc scope own := by
  unfold geB at h
  simp only [Bool.and_eq_true, Bool.not_eq_true', List.all_eq_true, decide_eq_true_eq, decide_eq_false_iff_not] at h
  exact ⟨blkOk_by h.1, h.2.1, h.2.2.1, h.2.2.2⟩
theorem GeOk.has {X : Cx} {scope : Scope} {own : List (Str × Nat)} (ok : GeOk X.N X.env.scope scope own) (okX : X.Ok) : ∀ y ∈ scope.names, y.2 = .free → ∃ c, X.env.cells.lookup y.1 = some c := fun y hy e => by
  rcases ok.blk.free y hy e with k | k
  · exact okX.has _ (.inl k)
  · exact okX.has _ (.inr k)

section
variable {X : Cx} {pins : List (Addr × Obj)} {σ : L2.St} {H : Hp} {s : Shared}
/-- the generator's frame, entered in s2, behind the maker's state s -/
theorem gen_start {A : Around} {scope : Scope} {own : List (Str × Nat)} {fp : List Addr} {code : Value} {s2 : Shared} {m : Str → Option Value} (I : Inv X pins σ H s) (ok : GeOk X.N X.env.scope scope own) (hN : X.N.Nodup) (hfp : ∀ b ∈ fp, FpOk X pins H b ∧ b < s.heap.objs.size)
    (hd : A.handled = none) (hfr : A.frames = some X.stack) (hns : s2.heap.Ns s.heap.objs.size m) (kp : ∀ b o, s.heap.get? b = some o → s2.heap.get? b = some o) (hos : s2.os = s.os) (hba : AllBare s2.gens) :
    Inv (gCx X A s H scope code fp) [] (wipe σ (own.map (·.2))) H s2 := by
  have hfree := ok.has I.ok
  have cm : ∀ {y c}, (cloFrom X.env.cells scope.names []).lookup y = some c → X.env.cells.lookup y = some c := fun {y c} e => by
    rcases cloFrom_mem (PySem.mem_of_lookup e) with hm | ⟨q1, q2⟩
    · cases hm
    · obtain ⟨c1, hc⟩ := hfree _ q1 rfl
      have hc : X.env.cells.lookup y = some c1 := hc
      rw [q2, hc]
      rfl
  have look : ∀ {y}, scope.names.lookup y = some .free → ∃ c, (cloFrom X.env.cells scope.names []).lookup y = some c := fun {y} hl =>
    mem_lookup (cloFrom_has (cells := X.env.cells) (acc := []) (PySem.mem_of_lookup hl))
  have cellK : ∀ {c : Addr} {v : Option Value}, s.heap.IsCell c v → s2.heap.IsCell c v := fun {c v} ⟨o, ho, hdt⟩ => ⟨o, kp _ _ ho, hdt⟩
  refine ⟨⟨I.ok.mod, ok.blk.kind, I.ok.glob, rfl, Nat.le_refl _, fun y z c e1 e2 => I.ok.inj y z c (cm e1) (cm e2), fun y hy => ?_, fun y c z _ => ?_, fun _ => hd, Around.frames_deeper hfr, .inr ⟨rfl, rfl⟩, fun b hb => ⟨?_, fun y c e z => ?_⟩,
      I.bs, Nat.le_trans I.ok.bsz I.sz, fun b o e hb => ?_, fun b hb z => ?_, I.stack, I.stkFree⟩,
    hos, hba, Un.kept kp, ⟨m, hns, fun i y v e1 e2 e3 => ?_⟩, fun y c e => ?_, I.hok.fresh (Nat.le_refl _), fun y c e => I.freeC y c (cm e), fun q hq => absurd (show q ∈ ([] : List (Addr × Obj)) ++ [] from hq) (by simp), I.hok.kept kp, ?_⟩
  · have hy : scope.names.lookup y = some .cell ∨ scope.names.lookup y = some .free := hy
    rcases hy with hy | hy
    · exact absurd rfl (ok.cell _ (PySem.mem_of_lookup hy))
    · exact look hy
  · cases (show false = true from z)
  · exact Nat.ne_of_lt (hfp b hb).2
  · exact (hfp b hb).1.2.2.2.2.1 y c (cm e) z
  · rcases (hfp b hb).1.2.2.2.1 with z | z
    · exact I.ok.noex b o e z
    · exact absurd (Nat.lt_of_lt_of_le (Heap.lt_size (I.ok.bs b o e).1) z) (Nat.lt_irrefl _)
  · rcases List.mem_cons.mp (I.stkSub b z) with e | e
    · exact (hfp b hb).1.2.1 e
    · exact (hfp b hb).1.2.2.1 e
  · obtain ⟨w1, w2⟩ := wipe_some e2
    have e3 : Vis scope y := e3
    have e1 : X.N[i]? = some y := e1
    rcases e3 with k | k | k
    · exfalso
      rcases ok.blk.own _ (PySem.mem_of_lookup k) (.inl rfl) with q | q
      · obtain ⟨p, hp, ep⟩ := List.mem_map.mp q
        have h1 := ok.blk.ix p hp
        have ep' : p.1 = y := ep
        rw [ep'] at h1
        have ei := nodup_ix hN e1 h1
        exact w2 (List.mem_map.mpr ⟨p, hp, ei.symm⟩)
      · exact q (List.mem_of_getElem? e1)
    · exact absurd rfl (ok.cell _ (PySem.mem_of_lookup k))
    · obtain ⟨m0, hn0, hl0⟩ := I.loc
      have hvis : Vis X.env.scope y := (ok.blk.free _ (PySem.mem_of_lookup k) rfl).elim (fun k => .inr (.inl k)) (fun k => .inr (.inr k))
      obtain ⟨w', r, q⟩ := hl0 i y v e1 w1 hvis
      obtain ⟨c2, h2⟩ := look k
      refine ⟨w', r, .inr ⟨.inr k, c2, h2, ?_⟩⟩
      have c1 := cm h2
      rcases q with ⟨k', _⟩ | ⟨_, c3, e', z⟩
      · have k' : X.env.scope.names.lookup y = some .local := k'
        rcases ok.blk.free _ (PySem.mem_of_lookup k) rfl with k2 | k2
        · rw [show X.env.scope.names.lookup y = _ from k2] at k'
          cases k'
        · rw [show X.env.scope.names.lookup y = _ from k2] at k'
          cases k'
      · rw [c1] at e'
        cases e'
        exact cellK z
  · obtain ⟨w', z⟩ := I.cell y c (cm e)
    exact ⟨w', cellK z⟩
  · rw [wipe_length]
    exact I.len

/-- the turns of a generator expression: J its source, W what holds ahead of turn i (m: what is left at most) -/
def Turns (J : It) (g : TG) (te : TE) (vs : List Nat) (σ : L2.St) (Cn : CnT) (Qe : List V → Hp → Prop) (W : Nat → Nat → List V → Hp → Prop) : Prop :=
  ∀ i m ys H, W i m ys H → (J.stop i H ∧ Qe ys H) ∨ (J.go i H ∧ 0 < m ∧ ∀ x H', J.yld i H x H' → g x (wipe σ vs) H' fun σ2 H3 => wipe σ2 vs = wipe σ vs ∧ te σ2 H3 fun y H4 =>
    Cn ys y H4 (∃ m', m' < m ∧ W (i + 1) m' (ys ++ [y]) H4))

theorem seg_turns {A : Around} {s0 : Shared} {H0 : Hp} {scope : Scope} {own : List (Str × Nat)} {code : Value} {fp co : List Addr} {it a : Addr} {gn : Nat} {J : It} {tn : Nat → Heap → Prop} {tg iter elt : Expr} {pos : Pos} {g : TG} {te : TE} {Rc : List V → Heap → Prop} {Cn : CnT} {Qe : List V → Hp → Prop}
    {W : Nat → Nat → List V → Hp → Prop} (T : Turn X.prog X.w X.K tg J fp it tn) (hco : scope.isCoroutine = false)
    (hg : PG (gCx X A s0 H0 scope code fp) tg g) (he : PE (gCx X A s0 H0 scope code fp) elt te)
    (hCn : ∀ ys y H (p q : Prop), (p → q) → Cn ys y H p → Cn ys y H q) (hRc : ∀ ys h h', Rc ys h → (∀ b ∈ co, ∀ o, h.get? b = some o → h'.get? b = some o) → Rc ys h')
    (hW : Turns J g te (own.map (·.2)) σ Cn Qe W) (hyo : ∀ b ∈ a :: co, s0.heap.objs.size < b) (hX : ∀ b ∈ frs X.stack, b < s0.heap.objs.size) (hcl : ∀ x c, (cloFrom X.env.cells scope.names []).lookup x = some c → c < s0.heap.objs.size) (hac : a ∉ co) (hfc : ∀ b ∈ a :: co, b ∉ fp) :
    ∀ (n i m : Nat) (ys : List V) (Hh : Hp) (sI s : Shared), m ≤ n → Inv (gCx X A s0 H0 scope code fp) [] (wipe σ (own.map (·.2))) Hh s → tn i s.heap → (∀ b ∈ fp, Hh b = none) → (∀ b ∈ a :: co, Hh b = none) → (∀ b ∈ a :: co, ∃ o, s.heap.get? b = some o ∧ ∀ v, o.data ≠ .cell v) → (∀ b ∈ co, ∀ o, sI.heap.get? b = some o → s.heap.get? b = some o) → s.heap.IsGen a gn → Rc ys s.heap → W i m ys Hh →
      Seg (model X.prog X.w) A (RG X.prog X.w X.stack H0 s0 fp co Rc Qe) (YG X.prog X.w X.stack H0 s0 fp co a gn Rc Cn) n sI
        (.compLoop (.GeneratorExp elt [⟨tg, iter, [], 0⟩] scope pos) 0 (.ref it) .none (gEnv X scope s0.heap.objs.size code))
        ((model X.prog X.w).den (.compLoop (.GeneratorExp elt [⟨tg, iter, [], 0⟩] scope pos) 0 (.ref it) .none (gEnv X scope s0.heap.objs.size code))) [] s := by

  -- the pins: the generator's own object, the consumer's
  have yo : ∀ {σ' : L2.St} {H' : Hp} {s' : Shared}, Inv (gCx X A s0 H0 scope code fp) [] σ' H' s' → (∀ b ∈ a :: co, H' b = none) → ∀ b ∈ a :: co, FpOk (gCx X A s0 H0 scope code fp) [] H' b := fun {σ' H' s'} I' hn b hb => by
    have hlt := hyo b hb
    refine ⟨hn b hb, Nat.ne_of_gt hlt, fun z => ?_, .inr (Nat.le_of_lt hlt), fun x c e z => ?_, fun p hp => absurd (show p ∈ ([] : List (Addr × Obj)) ++ [] from hp) (by simp)⟩
    · exact absurd (Nat.lt_trans (hX b z) hlt) (Nat.lt_irrefl _)
    · rw [← z] at hlt
      exact absurd (Nat.lt_trans (hcl x c e) hlt) (Nat.lt_irrefl _)
  have fo : ∀ {σ' : L2.St} {H' : Hp} {s' : Shared} {h0 : Heap}, Inv (gCx X A s0 H0 scope code fp) ([] ++ pinsAt (a :: co) h0) σ' H' s' → (∀ b ∈ fp, H' b = none) → ∀ b ∈ fp, FpOk (gCx X A s0 H0 scope code fp) ([] ++ pinsAt (a :: co) h0) H' b := fun {σ' H' s' h0} I' hn b hb => by
    refine ⟨hn b hb, (I'.ok.exf b hb).1, I'.ok.exfs b hb, .inl hb, fun x c e => (I'.ok.exf b hb).2 x c e, fun p hp z => ?_⟩
    have hp' : p ∈ pinsAt (a :: co) h0 := hp
    exact hfc p.1 (of_pinsAt hp').1 (by rw [z]; exact hb)
  have kept : ∀ {σ' : L2.St} {H' : Hp} {s s' : Shared} {pl : List (Addr × Obj)}, (∀ b ∈ a :: co, ∃ o, s.heap.get? b = some o ∧ ∀ v, o.data ≠ .cell v) → Inv (gCx X A s0 H0 scope code fp) (([] ++ pinsAt (a :: co) s.heap) ++ pl) σ' H' s' →
      (∀ b ∈ a :: co, H' b = none) ∧ ∀ b ∈ a :: co, ∀ o, s.heap.get? b = some o → s'.heap.get? b = some o := fun {σ' H' s s' pl} hob I' => by
    have key : ∀ b ∈ a :: co, ∀ o, s.heap.get? b = some o → s'.heap.get? b = some o ∧ H' b = none := fun b hb o e =>
      let z := I'.pin (b, o) (List.mem_append_right _ (List.mem_append_left _ (mem_pinsAt hb e)))
      ⟨z.1, z.2.1⟩
    refine ⟨fun b hb => ?_, fun b hb o e => (key b hb o e).1⟩
    obtain ⟨o, e, _⟩ := hob b hb
    exact (key b hb o e).2
  have hy : ∀ v, yieldOut (gEnv X scope s0.heap.objs.size code) v = yieldValue v := fun v => by
    have hz : (gEnv X scope s0.heap.objs.size code).scope.isCoroutine = false := hco
    simp only [yieldOut, hz, Bool.false_eq_true, if_false]
  have theEnd : ∀ (n i m : Nat) (ys : List V) (Hh : Hp) (sI s : Shared), Inv (gCx X A s0 H0 scope code fp) [] (wipe σ (own.map (·.2))) Hh s → tn i s.heap → (∀ b ∈ fp, Hh b = none) → (∀ b ∈ a :: co, Hh b = none) → (∀ b ∈ a :: co, ∃ o, s.heap.get? b = some o ∧ ∀ v, o.data ≠ .cell v) → (∀ b ∈ co, ∀ o, sI.heap.get? b = some o → s.heap.get? b = some o) → Rc ys s.heap → J.stop i Hh → Qe ys Hh →
      Seg (model X.prog X.w) A (RG X.prog X.w X.stack H0 s0 fp co Rc Qe) (YG X.prog X.w X.stack H0 s0 fp co a gn Rc Cn) n sI
        (.compLoop (.GeneratorExp elt [⟨tg, iter, [], 0⟩] scope pos) 0 (.ref it) .none (gEnv X scope s0.heap.objs.size code))
        ((model X.prog X.w).den (.compLoop (.GeneratorExp elt [⟨tg, iter, [], 0⟩] scope pos) 0 (.ref it) .none (gEnv X scope s0.heap.objs.size code))) [] s := by
    intro n i m ys Hh sI s I st hnf hnc hob hsi hrc stop qe
    show Seg _ A _ _ _ sI _ ((compTurn (.GeneratorExp elt [⟨tg, iter, [], 0⟩] scope pos) 0 (.ref it) .none (gEnv X scope s0.heap.objs.size code)).onRaise (leaving (gEnv X scope s0.heap.objs.size code))) [] s
    rw [compTurn_gen, Sem.onRaise_eq_wrap]
    refine seg_bind_wrap (wpAny_standAt ?_)
    refine seg_bind_wrap ?_
    rw [over_loopG]
    have Ip := I.pinned (yo I hnc) hob
    refine thnF (T.done (gCx X A s0 H0 scope code fp) rfl rfl rfl rfl i _ s _ Hh (fun _ _ => False) Ip (fo Ip hnf) st stop) fun r s6 hr => ?_
    obtain ⟨er, I6⟩ := hr
    subst er
    have I6' : Inv (gCx X A s0 H0 scope code fp) (([] ++ pinsAt (a :: co) s.heap) ++ []) (wipe σ (own.map (·.2))) Hh s6 := by
      rw [List.append_nil]
      exact I6
    obtain ⟨k1, k2⟩ := kept hob I6'
    exact seg_end (.ok .next) (.inl ⟨.inr rfl, Hh, ys, ⟨I6.os, I6.bare, I6.base, I6.hok, fun b hb => k1 b (List.mem_cons_of_mem _ hb)⟩, fun b hb o e => k2 b (List.mem_cons_of_mem _ hb) o (hsi b hb o e), hRc ys _ _ hrc fun b hb o e => k2 b (List.mem_cons_of_mem _ hb) o e, qe⟩)
  intro n
  induction n with
  | zero =>
    intro i m ys Hh sI s hmn I st hnf hnc hob hsi hgen hrc w
    have hm0 : m = 0 := by omega
    subst hm0
    rcases hW i 0 ys Hh w with ⟨stop, qe⟩ | ⟨_, hm, _⟩
    · exact theEnd 0 i 0 ys Hh sI s I st hnf hnc hob hsi hrc stop qe
    · exact absurd hm (Nat.lt_irrefl _)
  | succ n ih =>
    intro i m ys Hh sI s hmn I st hnf hnc hob hsi hgen hrc w
    rcases hW i m ys Hh w with ⟨stop, qe⟩ | ⟨go, _, step⟩
    · exact theEnd (n + 1) i m ys Hh sI s I st hnf hnc hob hsi hrc stop qe
    show Seg _ A _ _ _ sI _ ((compTurn (.GeneratorExp elt [⟨tg, iter, [], 0⟩] scope pos) 0 (.ref it) .none (gEnv X scope s0.heap.objs.size code)).onRaise (leaving (gEnv X scope s0.heap.objs.size code))) [] s
    rw [compTurn_gen, Sem.onRaise_eq_wrap]
    refine seg_bind_wrap (wpAny_standAt ?_)
    refine seg_bind_wrap ?_
    rw [over_loopG]
    have Ip := I.pinned (yo I hnc) hob
    refine thnF (T.item (gCx X A s0 H0 scope code fp) rfl rfl rfl rfl i _ s _ Hh (fun _ _ => False) Ip (fo Ip hnf) st go) fun r s6 hr => ?_
    obtain ⟨u, er, h6⟩ := hr
    subst er
    refine seg_bind_wrap ?_
    rw [over_loopG]
    refine thnF h6 fun _ s7 h7 => ?_
    obtain ⟨x, H7, I7, r7, y7, st7, n7⟩ := h7
    have I7p := I7.pinned (fo I7 n7) (T.obj _ _ st7)
    refine seg_bind_wrap ?_
    rw [over_loopG]
    refine thnF (hg.run _ s7 _ H7 x u _ I7p r7 (step x H7 y7)) fun _ s8 h8 => ?_
    obtain ⟨σ8, H8, I8, hw8, q8⟩ := h8
    refine seg_bind_wrap (wpAny_of_eq (List.forIn_nil ..) ?_)
    simp only [if_true]
    simp only [hy]
    rw [Sem.bind_eq_wrap', Sem.bind_eq_wrap', Sem.wrap_wrap, Sem.wrap_wrap]
    refine seg_wrap ?_
    rw [over_loopG]
    refine thnF (he.run _ s8 σ8 H8 _ I8 q8) fun v s9 h9 => ?_
    obtain ⟨y, H9, I9, r9, q9⟩ := h9
    obtain ⟨k1, k2⟩ := kept hob I9
    have f9 : ∀ b ∈ fp, ∀ o, s7.heap.get? b = some o → s9.heap.get? b = some o ∧ H9 b = none := fun b hb o e =>
      let z := I9.pin (b, o) (List.mem_append_right _ (List.mem_append_right _ (mem_pinsAt hb e)))
      ⟨z.1, z.2.1⟩
    have st9 : tn (i + 1) s9.heap := T.keep _ _ _ st7 fun b hb o e => (f9 b hb o e).1
    have n9 : ∀ b ∈ fp, H9 b = none := fun b hb => by
      obtain ⟨o, e, _⟩ := T.obj _ _ st7 b hb
      exact (f9 b hb o e).2
    have g9 : s9.heap.IsGen a gn := by
      obtain ⟨o, nm, qn, ho, rr⟩ := hgen
      exact ⟨o, nm, qn, k2 a List.mem_cons_self o ho, rr⟩
    have I9u : Inv (gCx X A s0 H0 scope code fp) [] σ8 H9 s9 := I9.pins_of fun p hp => absurd hp (by simp)
    have hl : (wipe σ (own.map (·.2))).length = σ8.length := by rw [← hw8, wipe_length]
    have I9w : Inv (gCx X A s0 H0 scope code fp) [] (wipe σ (own.map (·.2))) H9 s9 := I9u.weak hl fun j v e => by
      rw [← hw8] at e
      exact (wipe_some e).1
    refine seg_at (seg_yield rfl rfl rfl ?_)
    refine ⟨ys, y, H9, r9, ⟨I9.os, I9.bare, I9.base, I9.hok, fun b hb => k1 b (List.mem_cons_of_mem _ hb)⟩, I9.nolimit, g9, fun b hb o e => k2 b (List.mem_cons_of_mem _ hb) o (hsi b hb o e), hRc ys _ _ hrc fun b hb o e => k2 b (List.mem_cons_of_mem _ hb) o e, hCn ys y H9 _ _ (fun hnx s' sl hrc' => ?_) q9⟩
    · obtain ⟨m', hm', w'⟩ := hnx
      -- woken again
      have co9 : ∀ b ∈ co, FpOk (gCx X A s0 H0 scope code fp) [] H9 b := fun b hb => yo I9w k1 b (List.mem_cons_of_mem _ hb)
      have nfr : ∀ b u, H9 b = some u → b ∉ co := fun b u e hb => by
        rw [k1 b (List.mem_cons_of_mem _ hb)] at e
        cases e
      have hL : ∀ b ∈ co, b ≠ s0.heap.objs.size := fun b hb => Nat.ne_of_gt (hyo b (List.mem_cons_of_mem _ hb))
      have Iw : Inv (gCx X A s0 H0 scope code fp) [] (wipe σ (own.map (·.2))) H9 s' := by
        obtain ⟨z1, z2, z3, z4⟩ := sl
        obtain ⟨hh, gg, d, t, o⟩ := s'
        have ho : o = s9.os := z1
        subst ho
        refine I9w.step (g' := gg) (t' := t) (d' := d) (ch := co) (fun b hb => ?_) (fun b ob _ _ hc e _ => z3 b ob hc e) (fun b ob _ _ hc e _ => ⟨ob.slots, z3 b ob hc e⟩) (fun _ _ _ _ n => n) (fun b ob hc e => ⟨ob, z3 b ob hc e⟩)
          (fun _ _ e => e) (fun _ _ _ e => e) (fun b ps e => ⟨#[], by rw [e]; simp⟩) (fun mm hm => ?_) (fun b u e => ?_) z2
        · obtain ⟨_, c2, c3, c4, c5, c6⟩ := co9 b hb
          exact ⟨c4, c2, c5, c6⟩
        · obtain ⟨ob, es, ep, ho, rr⟩ := hm
          exact ⟨ob, es, ep, z3 _ ob (fun hb => hL _ hb rfl) ho, rr⟩
        · refine (I9w.hok b u e).stay (fun c v hc q => z3 c v ?_ q) (fun _ q => q) fun _ _ q => q
          rcases hc with z | z
          · rw [z]
            exact nfr b u e
          · exact nfr c _ z
      refine seg_again rfl (ih (i + 1) m' (ys ++ [y]) H9 s' s' (by omega) Iw (T.keep _ _ _ st9 fun b hb o e => sl.keep b o (fun hc => hfc b (List.mem_cons_of_mem _ hc) hb) e) n9 k1 (fun b hb => ?_) (fun _ _ _ z => z) ?_ hrc' w')
      · rcases List.mem_cons.mp hb with e | e
        · obtain ⟨o, nm, qn, ho, oc, od, os⟩ := g9
          rw [e]
          exact ⟨o, sl.keep a o hac ho, fun v q => by rw [od] at q; cases q⟩
        · exact sl.there b e
      · obtain ⟨o, nm, qn, ho, rr⟩ := g9
        exact ⟨o, nm, qn, sl.keep a o hac ho, rr⟩

/-- a generator expression, made at sc and not begun -/
def GM (P : Program) (w : World) (k : Nat) (outer : List Env) (H : Hp) (sc : Shared) (ex : List Addr) (Cn : CnT) (Qe : List V → Hp → Prop) (u : Value) (s' : Shared) : Prop :=
  ∃ (a : Addr) (gn : Nat) (c : Code) (n : Nat), u = .ref a ∧ sc.heap.objs.size < a ∧ a < s'.heap.objs.size ∧ s'.heap.IsGen a gn ∧ s'.gens[gn]? = some (.fresh c) ∧ s'.os = sc.os ∧ AllBare s'.gens ∧ s'.heap.NoLimit ∧ (∀ b o, sc.heap.get? b = some o → s'.heap.get? b = some o) ∧
    ∀ (A : Around) (co : List Addr) (Rc : List V → Heap → Prop) (s2 : Shared), Room k A → A.frames = some outer → (∀ b ∈ co, s'.heap.objs.size ≤ b ∧ ∃ o, s2.heap.get? b = some o ∧ ∀ v, o.data ≠ .cell v) → (∀ b o, s'.heap.get? b = some o → s2.heap.get? b = some o) → s2.os = sc.os → AllBare s2.gens →
      (∀ ys h h', Rc ys h → (∀ b ∈ co, ∀ o, h.get? b = some o → h'.get? b = some o) → Rc ys h') → Rc [] s2.heap →
      Seg (model P w) A (RG P w outer H sc ex co Rc Qe) (YG P w outer H sc ex co a gn Rc Cn) n s2 c ((model P w).den c) [] s2

/-- the code of a generator expression begins -/
theorem seg_begin {P : Program} {w : World} {A : Around} {R : GenEnd} {Y : Protocol} {n : Nat} {s0 s : Shared} {elt tg iter : Expr} {scope : Scope} {pos : Pos} {it : Addr} {env : Env} (hself : ∀ (A : Around) (Q : Value → Shared → Prop) (E : Value → Shared → Prop), Q (.ref it) s → wpAny (model P w) A (pyIter (.ref it)) Q E s)
    (loop : Seg (model P w) A R Y n s0 (.compLoop (.GeneratorExp elt [⟨tg, iter, [], 0⟩] scope pos) 0 (.ref it) .none env) ((model P w).den (.compLoop (.GeneratorExp elt [⟨tg, iter, [], 0⟩] scope pos) 0 (.ref it) .none env)) [] s) :
    Seg (model P w) A R Y n s0 (.compStart (.GeneratorExp elt [⟨tg, iter, [], 0⟩] scope pos) 0 (.ref it) .none env) ((model P w).den (.compStart (.GeneratorExp elt [⟨tg, iter, [], 0⟩] scope pos) 0 (.ref it) .none env)) [] s := by
  show Seg _ A _ _ _ s0 _ ((compStart (.GeneratorExp elt [⟨tg, iter, [], 0⟩] scope pos) 0 (.ref it) .none env).onRaise (leaving env)) [] s
  unfold compStart
  rw [Sem.onRaise_eq_wrap]
  show Seg _ A _ _ _ s0 _ ((ask >>= _).wrap _ _ _ _) [] s
  refine seg_bind_wrap (wpAny_askSetting ?_)
  split
  · exact seg_again rfl loop
  · refine seg_bind_wrap (wpAny_rule ?_)
    show Seg _ A _ _ _ s0 _ ((standAt iter.pos >>= _).wrap _ _ _ _) [] s
    exact seg_bind_wrap (wpAny_standAt (seg_bind_wrap (hself _ _ _ (seg_again rfl loop))))

/-- the reading of a generator expression, Cn: what each item asks, Qe: what its end asks -/
def tGx (P : Addr) (wi : TI) (g : TG) (te : TE) (vs : List Nat) (Cn : CnT) (Qe : List V → Hp → Prop) : L2.St → Hp → Prop := fun σ H =>
  wi σ H fun J H1 => GxR.TabG H1 P ∧ ∀ H2, GxR.Tabbed P H1 H2 → ∃ W : Nat → Nat → List V → Hp → Prop, (∃ m, W 0 m [] H2) ∧ Turns J g te vs σ Cn Qe W

theorem gen_made {k : Nat} {c P : Addr} {elt tg iter : Expr} {gpos : Pos} {scope : Scope} {own : List (Str × Nat)} {wi : TI} {g : TG} {te : TE} {Cn : CnT} {Qe : List V → Hp → Prop}
    (hr : Room k X.A) (hN : X.N.Nodup) (TB : GxR.TabB X.base X.mg c P) (hcode : X.env.code = .ref c) (ok : GeOk X.N X.env.scope scope own) (hi : PI X tg iter wi)
    (hg : ∀ (A : Around) (s : Shared) (H : Hp) (code : Value) (fp : List Addr), PG (gCx X A s H scope code fp) tg g) (he : ∀ (A : Around) (s : Shared) (H : Hp) (code : Value) (fp : List Addr), Room k A → PE (gCx X A s H scope code fp) elt te)
    (hCn : ∀ ys y H (p q : Prop), (p → q) → Cn ys y H p → Cn ys y H q) (hs : ∀ v, genFold iter X.env v = pure v) (I : Inv X pins σ H s) (h : tGx P wi g te (own.map (·.2)) Cn Qe σ H) :
    wpAny (model X.prog X.w) X.A (eval (.GeneratorExp elt [⟨tg, iter, [], 0⟩] scope gpos) X.env) (fun u s' => ∃ H1 sc ex, Inv X pins σ H1 sc ∧ ExOk X pins ex ∧ GM X.prog X.w k X.stack H1 sc ex Cn Qe u s') X.xe s := by
  refine wpAny_GeneratorExp_make ok.co (closure_ok (ok.has I.ok)) ok.cell ok.dot ok.blk.kind hr.depth ?_ hs
  refine thn (hi.run pins s σ H _ I h) fun xv s1 hx => thn hx fun itv s2 h2 => ?_
  obtain ⟨it, fp, tn, J, H2, e, I2, T, st2, f2, hT, q⟩ := h2
  obtain ⟨ps, hP, ht⟩ := hT
  subst e
  have hPs : s2.heap.get? P = some { cls := .none, data := .fields ps } := I2.hok P _ hP
  have cd : PySem.W.CodeHd s2.heap c P := TB.code.keeps fun b u e => I2.bk b u e
  refine ⟨I2.nolimit, ?_⟩
  have go : ∀ (code : Value) (h3 : Heap) (tk : Nat) (ps' : Array Value), Heap.ExtBut P s2.heap h3 → s2.heap.objs.size ≤ h3.objs.size → h3.get? P = some { cls := .none, data := .fields ps' } → (∃ more, ps' = ps ++ more) → TriplesOk ps'.toList →
      wpAny (model X.prog X.w) X.A (builtinsFor X.env.globals X.env.builtins) (fun bi s₄ =>
        ∀ h', h'.Ns s₄.heap.objs.size (fun y => if y = ".0" then some (.ref it) else none) → Heap.SameBut s₄.heap.objs.size (s₄.heap.push { cls := .type "frame", data := .dict #[] }) h' →
          ∃ H1 sc ex, Inv X pins σ H1 sc ∧ ExOk X pins ex ∧ GM X.prog X.w k X.stack H1 sc ex Cn Qe (.ref h'.objs.size) { s₄ with
            gens := s₄.gens.push (.fresh (.compStart (.GeneratorExp elt [⟨tg, iter, [], 0⟩] scope gpos) 0 (.ref it) .none (genEnv scope (cloFrom X.env.cells scope.names []) s₄.heap.objs.size code bi X.env))),
            toks := s₄.toks + 1 + 1 + 1,
            heap := h'.push { cls := .type "generator", data := .fields #[.int s₄.gens.size 0, .str "<genexpr>" (s₄.toks + 1), .str (X.env.qual ++ "<genexpr>") (s₄.toks + 1 + 1)] } }) X.xe { s2 with heap := h3, toks := tk } := by
    intro code h3 tk ps' hx3 hsz hP3 hmore ht3
    obtain ⟨more, em⟩ := hmore
    have I3 := GxR.inv_tab (more := more) (h' := h3) (g' := s2.gens) (d' := s2.drawn) (t' := tk) I2 hP (fun b u hb e => hx3 b u hb e) (by rw [← em]; exact hP3) I2.bare
    obtain ⟨bm, ob, e1, e2, e3, e4, e5, e6, e7, e8⟩ := TB.bm
    refine wpAny_builtinsFor (m := X.mg) (by rw [I3.ok.glob]; exact I3.mod.glob.keeps I3.bk) e1 e2 (I3.bk _ _ e5) e6 e7 e8 ?_
    intro h' hn' hs'
    have hPne : ∀ b, H2 b = none → b ≠ P := fun b e z => by
      rw [z, hP] at e
      cases e
    have f3 : ∀ b ∈ fp, FpOk X pins (upd H2 P (.tbl (ps ++ more))) b ∧ b < h3.objs.size := fun b hb => by
      have hb0 := f2 b hb
      obtain ⟨o, eo, _⟩ := T.obj _ _ st2 b hb
      refine ⟨⟨?_, hb0.2⟩, Nat.lt_of_lt_of_le (Heap.lt_size eo) hsz⟩
      rw [upd_ne (hPne b hb0.1)]
      exact hb0.1
    have st3 : tn 0 h3 := T.keep _ _ _ st2 fun b hb o e => hx3 b o (hPne b (f2 b hb).1) e
    have sz1 : h'.objs.size = h3.objs.size + 1 := by
      rw [hs'.1, Heap.size_push]
    have kp1 : ∀ b o, h3.get? b = some o → h'.get? b = some o := fun b o e => hs'.extBut b o (Nat.ne_of_lt (Heap.lt_size e)) (Heap.get?_push_of_some _ e)
    obtain ⟨W, ⟨m, w0⟩, hW⟩ := q (upd H2 P (.tbl (ps ++ more))) ⟨⟨ps ++ more, upd_same, by rw [← em]; exact ht3⟩, fun b hb => upd_ne hb⟩
    refine ⟨upd H2 P (.tbl (ps ++ more)), _, fp, I3, fun b hb => ⟨(f3 b hb).1.2.2.2.1, (f3 b hb).1.2.1, (f3 b hb).1.2.2.2.2.1, (f3 b hb).1.2.2.2.2.2⟩, ?_⟩
    have kp2 : ∀ b o, h3.get? b = some o → (h'.push { cls := .type "generator", data := .fields #[.int s2.gens.size 0, .str "<genexpr>" (tk + 1), .str (X.env.qual ++ "<genexpr>") (tk + 1 + 1)] }).get? b = some o := fun b o e => Heap.get?_push_of_some _ (kp1 b o e)
    refine ⟨h'.objs.size, s2.gens.size, _, m, rfl, ?_, ?_, ⟨_, _, _, Heap.get?_push_size _ rfl, rfl, rfl, rfl⟩, Array.getElem?_push_size .., rfl, AllBare.push I2.bare rfl, I3.nolimit.keeps kp2, kp2, ?_⟩
    · show h3.objs.size < h'.objs.size
      omega
    · show h'.objs.size < (h'.push _).objs.size
      rw [Heap.size_push]
      omega
    intro A co Rc s2' hrA hfr hco kp3 hos hba hRc rc0
    have kp4 : ∀ b o, h3.get? b = some o → s2'.heap.get? b = some o := fun b o e => kp3 b o (kp2 b o e)
    have coB : ∀ b ∈ h'.objs.size :: co, h3.objs.size < b := fun b hb => by
      rcases List.mem_cons.mp hb with z | z
      · omega
      · have q1 := (hco b z).1
        have q2 : (h'.push { cls := .type "generator", data := .fields #[.int s2.gens.size 0, .str "<genexpr>" (tk + 1), .str (X.env.qual ++ "<genexpr>") (tk + 1 + 1)] }).objs.size ≤ b := q1
        rw [Heap.size_push] at q2
        omega
    have hgn : s2'.heap.IsGen h'.objs.size s2.gens.size := ⟨_, _, _, kp3 _ _ (Heap.get?_push_size _ rfl), rfl, rfl, rfl⟩
    have J0 := gen_start (A := A) (scope := scope) (own := own) (code := code) (s2 := s2') I3 ok hN f3 hrA.hd hfr (hn'.keeps fun b o e => kp3 b o (Heap.get?_push_of_some _ e)) kp4 hos hba
    have hst : tn 0 s2'.heap := T.keep _ _ _ st3 fun b _ o e => kp4 b o e
    have loop := seg_turns (A := A) (iter := iter) (pos := gpos) (co := co) (a := h'.objs.size) (gn := s2.gens.size) (elt := elt) T ok.co (hg A _ _ code fp) (he A _ _ code fp hrA) hCn hRc hW coB
      (fun b hb => by
        rcases List.mem_cons.mp (I3.stkSub b hb) with z | z
        · rw [z]
          exact I3.lt
        · obtain ⟨_, o, ho, _⟩ := I3.ok.funs.mem z
          exact Nat.lt_of_lt_of_le (Heap.lt_size ho) I3.sz)
      (fun x c e => by
        rcases cloFrom_mem (PySem.mem_of_lookup e) with hm | ⟨q1, q2⟩
        · cases hm
        · obtain ⟨c1, hc⟩ := ok.has I.ok _ q1 rfl
          have hc : X.env.cells.lookup x = some c1 := hc
          obtain ⟨v, z⟩ := I3.cell _ _ hc
          rw [q2, hc]
          exact z.lt)
      (fun hm => by
        have q1 := (hco _ hm).1
        have q2 : (h'.push { cls := .type "generator", data := .fields #[.int s2.gens.size 0, .str "<genexpr>" (tk + 1), .str (X.env.qual ++ "<genexpr>") (tk + 1 + 1)] }).objs.size ≤ h'.objs.size := q1
        rw [Heap.size_push] at q2
        omega)
      (fun b hb hm => absurd (Nat.lt_trans (coB b hb) (f3 b hm).2) (Nat.lt_irrefl _))
      m 0 m [] _ s2' s2' (Nat.le_refl _) J0 hst (fun b hb => (f3 b hb).1.1) (fun b hb => I3.hok.fresh (Nat.le_of_lt (coB b hb))) (fun b hb => by
        rcases List.mem_cons.mp hb with z | z
        · rw [z]
          exact ⟨_, kp3 _ _ (Heap.get?_push_size _ rfl), fun v y => by cases y⟩
        · exact (hco b z).2) (fun _ _ _ z => z) hgn rc0 w0
    exact seg_begin (fun A' Q E hq => T.self A' 0 _ _ _ hst hq) loop
  cases hf : codeAmong gpos ps.toList with
  | none =>
    refine wpAny_genexprCodeX hcode (cd.code hPs ht) (cd.tab hPs) hf fun c' h' tk hx hge hlt hco' _ htab' _ => ?_
    obtain ⟨o1, vs, f1, tf, fl, tg1, inF, tx, tt, op, _, _, _, _, _, _, _, _, _, htr, _⟩ := hco'
    exact go _ h' tk _ hx (Nat.le_trans hge (Nat.le_of_lt hlt)) htab'.2 ⟨_, rfl⟩ htr
  | some cv =>
    refine wpAny_genexprCode_hit hcode (cd.code hPs ht) hf ?_
    exact go cv s2.heap s2.toks ps (Heap.ExtBut.refl _ _) (Nat.le_refl _) hPs ⟨#[], by simp⟩ ht
end

/-! ### the consumers -/
theorem GD.more {P : Program} {w : World} {outer : List Env} {H H' : Hp} {sc s1 s2 : Shared} {ex co : List Addr} (x : GD P w outer H sc ex co H' s1) (k : ∀ b o, s1.heap.get? b = some o → s2.heap.get? b = some o) (os : s2.os = s1.os) (hb : AllBare s2.gens) : GD P w outer H sc ex co H' s2 :=
  ⟨os.trans x.os, hb, x.un.trans (Un.kept k), x.hok.kept k, x.free⟩
/-- each item is asked nothing but room -/
def cnL : CnT := fun ys _ _ p => ys.length < sizeLine ∧ p
theorem cnL_mono (ys : List V) (y : V) (H : Hp) (p q : Prop) (h : p → q) (c : cnL ys y H p) : cnL ys y H q := ⟨c.1, h c.2⟩
def rcL (S : Addr) : List V → Heap → Prop := fun ys h => ∃ acc c, h.get? S = some (lstObj acc c) ∧ Vals ys acc.toList
theorem rcL_keep {S : Addr} (ys : List V) (h h' : Heap) (r : rcL S ys h) (k : ∀ b ∈ [S], ∀ o, h.get? b = some o → h'.get? b = some o) : rcL S ys h' := by
  obtain ⟨acc, c, e, v⟩ := r
  exact ⟨acc, c, k S List.mem_cons_self _ e, v⟩

section
variable {P : Program} {w : World} {outer : List Env} {H : Hp} {sc : Shared} {ex : List Addr} {Qe : List V → Hp → Prop} {A : Around} {R : Result → Shared → Prop} {S a : Addr} {g : Nat} {res : Value}
theorem drainL (hh : A.handled = none) (hd : A.depth < recursionLimit) (hSa : S ≠ a) (hSc : S ≠ cStatics)
    (hend : ∀ s' acc c H' ys, s'.heap.get? S = some (lstObj acc c) → Vals ys acc.toList → GD P w outer H sc ex [S] H' s' → Qe ys H' → R (.ok (.ret res)) s') :
    ∀ (m : Nat) (s : Shared), s.heap.IsGen a g → s.heap.NoLimit →
      (∃ gs, s.gens[g]? = some gs ∧ gs.Goes (model P w) A.in1.in1 (RG P w outer H sc ex [S] (rcL S) Qe) (YG P w outer H sc ex [S] a g (rcL S) cnL) m (.send .none) (s.setGen g .running)) →
      codeAny (model P w) A (.builtin "list.extend.loop" ⟨[.ref S, .ref a, res], []⟩) R s := by
  have fin : ∀ {s₀ s₁ : Shared} {h' : Heap}, (∃ H' ys, GD P w outer H sc ex [S] H' s₁ ∧ (∀ b ∈ [S], ∀ o, s₀.heap.get? b = some o → s₁.heap.get? b = some o) ∧ rcL S ys s₁.heap ∧ Qe ys H') → (∀ b o, s₁.heap.get? b = some o → h'.get? b = some o) → R (.ok (.ret res)) { s₁.setGen g .finished with heap := h' } := fun {s₀ s₁ h'} hp hk => by
    obtain ⟨H', ys, gd, _, ⟨acc, c, e, v⟩, q⟩ := hp
    exact hend _ acc c H' ys (hk _ _ e) v (gd.more (s2 := { s₁.setGen g .finished with heap := h' }) hk rfl (allBare_setGen gd.bare rfl)) q
  intro m
  induction m with
  | zero =>
    intro s hg hl ⟨gs, hgs, hgo⟩
    refine codeAny_builtin PySem.F.entry_extend_loop ?_
    rw [Around.under_plainId PySem.F.plain_extend_loop _]
    show wpAny _ A.in1 (pyNext (.ref a) >>= _) _ _ s
    refine wpAny_bind (next_genG (A := A.in1) (F := fun _ s₀ s1 => ∃ H' ys, GD P w outer H sc ex [S] H' s1 ∧ (∀ b ∈ [S], ∀ o, s₀.heap.get? b = some o → s1.heap.get? b = some o) ∧ rcL S ys s1.heap ∧ Qe ys H') (Er := fun _ _ => False) hh hl hd hg hgs hgo (fun v s₁ gs' hbare hv => ?_) (fun s₁ hp h' hk => ?_) fun e s₁ he => False.elim he)
    · exfalso
      obtain ⟨ys, x, H', rv, gd, hl1, hg1, _, ⟨acc, c, e, vv⟩, _, hk⟩ := hv
      refine hk { s₁ with heap := s₁.heap.update S (Obj.mapSeq (·.push v)) } ⟨rfl, gd.bare, fun b o hb e' => ?_, fun b hb => ?_⟩ ⟨acc.push v, _, Heap.get?_update_self _ e rfl, ?_⟩
      · exact (Heap.get?_update_other _ _ (fun z : S = b => hb (by rw [z]; exact List.mem_cons_self))).trans e'
      · have hb : b = S := by simpa using hb
        rw [hb]
        exact ⟨_, Heap.get?_update_self _ e rfl, fun z q => by cases q⟩
      · rw [Array.toList_push]
        exact vv.append (.cons rv .nil)
    · exact wpAny_pure (fin hp hk)
  | succ m ih =>
    intro s hg hl ⟨gs, hgs, hgo⟩
    have hgl : g < s.gens.size := (Array.getElem?_eq_some_iff.mp hgs).1
    refine codeAny_builtin PySem.F.entry_extend_loop ?_
    rw [Around.under_plainId PySem.F.plain_extend_loop _]
    show wpAny _ A.in1 (pyNext (.ref a) >>= _) _ _ s
    refine wpAny_bind (wpAny_gsz (n := g + 1) hgl (next_genG (A := A.in1) (F := fun _ s₀ s1 => ∃ H' ys, GD P w outer H sc ex [S] H' s1 ∧ (∀ b ∈ [S], ∀ o, s₀.heap.get? b = some o → s1.heap.get? b = some o) ∧ rcL S ys s1.heap ∧ Qe ys H') (Er := fun _ _ => False) hh hl hd hg hgs hgo (fun v s₁ gs' hbare hv => ?_) (fun s₁ hp h' hk => ?_) fun e s₁ he => False.elim he))
    · intro hsz
      obtain ⟨ys, x, H', rv, gd, hl1, hg1, _, ⟨acc, c, e, vv⟩, hlt, hk⟩ := hv
      have hasz : acc.size = ys.length := by
        have e1 := vv.length
        have e2 : acc.toList.length = acc.size := by simp
        omega
      show wpAny _ A.in1 (updateSeq S (·.push v) >>= _) _ _ _
      refine wpAny_bind ?_
      refine wpAny_updateSeq e rfl (wpAny_pure ⟨plainId_quiet PySem.F.plain_extend_loop _, ?_⟩) (by omega) (by show (acc.push v).size ≤ sizeLine + 1; rw [Array.size_push]; omega)
      have keep3 : ∀ b o, b ≠ S → s₁.heap.get? b = some o → (s₁.heap.update S (Obj.mapSeq (·.push v))).get? b = some o := fun b o hbS e => (Heap.get?_update_other _ _ (Ne.symm hbS)).trans e
      have hsz1 : g < s₁.gens.size := by
        have q : (s₁.setGen g gs').gens.size = s₁.gens.size := setGen_size _ _ _
        have hsz' : g + 1 ≤ (s₁.setGen g gs').gens.size := hsz
        omega
      refine ih { s₁.setGen g gs' with heap := s₁.heap.update S (Obj.mapSeq (·.push v)) } ?_ ?_ ⟨gs', setGen_at hsz1, ?_⟩
      · obtain ⟨o, nm, qn, ho, r⟩ := hg1
        exact ⟨o, nm, qn, keep3 a o (Ne.symm hSa) ho, r⟩
      · obtain ⟨mc, hns, hnn⟩ := hl1
        exact ⟨mc, hns.at' fun o e => keep3 _ o (Ne.symm hSc) e, hnn⟩
      · refine hk _ ⟨rfl, allBare_setGen (s := s₁.setGen g gs') (allBare_setGen gd.bare hbare) rfl, fun b o hb e' => keep3 b o (fun z => hb (by rw [z]; exact List.mem_cons_self)) e', fun b hb => ?_⟩ ⟨acc.push v, _, Heap.get?_update_self _ e rfl, ?_⟩
        · have hb : b = S := by simpa using hb
          rw [hb]
          exact ⟨_, Heap.get?_update_self _ e rfl, fun z q => by cases q⟩
        · rw [Array.toList_push]
          exact vv.append (.cons rv .nil)
    · intro hsz
      exact wpAny_pure (fin hp hk)
end

section
variable {P : Program} {w : World} {outer : List Env} {H : Hp} {sc s : Shared} {ex : List Addr} {Qe : List V → Hp → Prop} {A : Around} {k : Nat} {u : Value} {E : Value → Shared → Prop}
theorem collectG {Q : List Value → Shared → Prop} (hr : Room (k + 3) A) (hfr : A.frames = some outer) (h : GM P w k outer H sc ex cnL Qe u s)
    (hQ : ∀ s' acc H' ys, Vals ys acc → GD P w outer H sc ex [] H' s' → Qe ys H' → s.heap.objs.size ≤ s'.heap.objs.size → Q acc s') : wpAny (model P w) A (collect u) Q E s := by
  obtain ⟨a, gn, c, n, rfl, ha1, ha2, hg, hgs, hos, hb, hl, hkp, wake⟩ := h
  have hSa : s.heap.objs.size ≠ a := Nat.ne_of_gt ha2
  have hcl : cStatics < s.heap.objs.size := let ⟨_, hn, _⟩ := hl; hn.lt
  have hSc : s.heap.objs.size ≠ cStatics := Nat.ne_of_gt hcl
  unfold collect
  refine wpAny_bind (wpAny_runValue (codeAny_builtin PySem.F.entry_proto_collect ?_))
  rw [Around.under_plainId PySem.F.plain_proto_collect _]
  show wpAny _ A.in1 (newList [] >>= fun l => again (.builtin "list.__iadd__" ⟨[l, .ref a], []⟩)) _ _ s
  refine wpAny_bind (wpAny_newObj_type ?_)
  refine wpAny_pure ⟨plainId_quiet PySem.F.plain_list_iadd _, codeAny_builtin PySem.F.entry_list_iadd ?_⟩
  rw [Around.under_plainId PySem.F.plain_list_iadd _]
  show wpAny _ A.in1 (Builtin.List.listExtendWith (.ref s.heap.objs.size) (.ref a) (.ref s.heap.objs.size)) _ _ _
  have hS1 : (s.heap.push { cls := .type "list", data := .seq ([] : List Value).toArray }).get? s.heap.objs.size = some { cls := .type "list", data := .seq ([] : List Value).toArray } := Heap.get?_push_size _ rfl
  have up : ∀ (h : Heap) (f : Obj → Obj), (∀ b o, s.heap.get? b = some o → h.get? b = some o) → ∀ b o, s.heap.get? b = some o → (h.update s.heap.objs.size f).get? b = some o := fun h f q b o e =>
    (Heap.get?_update_other _ _ (Ne.symm (Nat.ne_of_lt (Heap.lt_size e)))).trans (q b o e)
  have k1 : ∀ b o, s.heap.get? b = some o → (s.heap.push { cls := .type "list", data := .seq ([] : List Value).toArray }).get? b = some o := fun b o e => Heap.get?_push_of_some _ e
  have gty : ∀ {h : Heap}, (∀ b o, s.heap.get? b = some o → h.get? b = some o) → h.IsGen a gn := fun {h} q => hg.keeps q
  unfold Builtin.List.listExtendWith
  refine wpAny_bind (wpAny_typeOf (Heap.IsGen.typeIs (s := { s with heap := _ }) (gty k1)) ?_)
  have h1 : Builtin.List.listSameRef (.ref s.heap.objs.size) (.ref a) = false := by simp [Builtin.List.listSameRef, hSa]
  have h2 : (Value.type "generator" == Value.type "list") = false := by decide
  have h3 : (Value.type "generator" == Value.type "tuple") = false := by decide
  simp only [h1, h2, h3, Bool.or_false, Bool.false_eq_true, if_false]
  refine wpAny_bind (wpAny_pyIter_gen (s := { s with heap := _ }) (gty k1) ?_)
  refine wpAny_bind (wpAny_holding ?_)
  unfold Builtin.List.listLengthHint
  refine wpAny_bind (wpAny_specialOf (Heap.IsGen.typeIs (s := { s with heap := _ }) (gty k1)) PySem.F.gen_no_len ?_)
  show wpAny _ A.in1 (specialOf (Value.ref a) (Str.ofString "__length_hint__") >>= _) _ _ _
  refine wpAny_bind (wpAny_specialOf (Heap.IsGen.typeIs (s := { s with heap := _ }) (gty k1)) PySem.F.gen_no_hint ?_)
  refine wpAny_pure ?_
  show wpAny _ A.in1 (rule "list.extend.makes-room" >>= fun _ => Builtin.List.listTouch (.ref s.heap.objs.size) >>= fun _ =>
    again (.builtin "list.extend.loop" ⟨[.ref s.heap.objs.size, .ref a, .ref s.heap.objs.size], []⟩)) _ _ _
  refine wpAny_bind (wpAny_rule ?_)
  refine wpAny_bind ?_
  show wpAny _ A.in1 (updateSeq s.heap.objs.size (·.push .none) >>= fun _ => updateSeq s.heap.objs.size (·.pop)) _ _ _
  refine wpAny_bind (wpAny_updateSeq hS1 rfl ?_)
  have hS2 := Heap.get?_update_self (Obj.mapSeq (·.push Value.none)) hS1 rfl
  refine wpAny_updateSeq (hz := by seq_fits) hS2 rfl ?_
  have hS3 := Heap.get?_update_self (Obj.mapSeq (·.pop)) hS2 rfl
  have k3 := up _ (Obj.mapSeq (·.pop)) (up _ (Obj.mapSeq (·.push Value.none)) k1)
  refine wpAny_pure ⟨plainId_quiet PySem.F.plain_extend_loop _, ?_⟩
  refine drainL (P := P) (w := w) (outer := outer) (H := H) (sc := sc) (ex := ex) (Qe := Qe) (A := A) (g := gn) hr.hd hr.depth hSa hSc (fun s' acc c' H' ys q1 q2 q3 q4 => ?_) n _ (gty k3) (hl.keeps k3) ⟨_, hgs, rfl, ?_⟩
  · show wpAny _ A (load s.heap.objs.size >>= _) _ _ s'
    refine wpAny_bind (wpAny_load q1 ?_)
    refine wpAny_pure (hQ s' acc.toList H' ys q2 ⟨q3.os, q3.bare, q3.un, q3.hok, fun b hb => absurd hb (by simp)⟩ q4 ?_)
    exact Nat.le_of_lt (Heap.lt_size q1)
  · refine wake _ [s.heap.objs.size] (rcL s.heap.objs.size) _ ⟨hr.hd, ?_, ?_⟩ hfr (fun b hb => ?_) k3 hos (allBare_setGen (s := { s with heap := _ }) hb rfl) (fun ys h h' => rcL_keep ys h h') ⟨_, _, hS3, .nil⟩
    · have := hr.dp
      show A.depth + 3 * k + 5 < _
      omega
    · have := hr.un
      show A.units + 1 + 1 + 16 * k + 200 < _
      omega
    · have hb : b = s.heap.objs.size := by simpa using hb
      rw [hb]
      exact ⟨Nat.le_refl _, _, hS3, fun v q => by cases q⟩

theorem code_tupleG {Q₁ : Value → Shared → Prop} (hr : Room (k + 4) A) (hfr : A.frames = some outer) (h : GM P w k outer H sc ex cnL Qe u s)
    (hQ : ∀ s' (acc : List Value) H' ys, Vals ys acc → ys.length ≤ sizeLine → GD P w outer H sc ex [] H' s' → Qe ys H' → s.heap.objs.size ≤ s'.heap.objs.size → Q₁ (.ref s'.heap.objs.size) { s' with heap := s'.heap.push { cls := .type "tuple", data := .seq acc.toArray } })
    (hlen : ∀ ys H', Qe ys H' → ys.length ≤ sizeLine) :
    codeAny (model P w) A (.call (.builtin "tuple.__new__") ⟨[.type "tuple", u], []⟩) (wants Q₁ E) s := by
  refine codeAny_of_tree ?_
  show wpAny _ A.in1 (do checkBuiltinCall "tuple.__new__" ⟨[.type "tuple", u], []⟩; again (.builtin "tuple.__new__" ⟨[.type "tuple", u], []⟩)) _ _ s
  refine wpAny_bind (wpAny_of_eq (PySem.F.newCall_tuple_1 _) (wpAny_pure ⟨plainId_quiet PySem.F.plain_tuple_new _, codeAny_builtin PySem.F.entry_tuple_new ?_⟩))
  rw [Around.under_plainId PySem.F.plain_tuple_new _]
  have hsub := sub_tuple_self
  have hinit := init_tuple_lookup
  have hmh := madeHere_tuple
  obtain ⟨a, gn, hu, hgen⟩ : ∃ a gn, u = .ref a ∧ s.heap.IsGen a gn := by
    obtain ⟨a, gn, c, n, e, _, _, hg, _⟩ := id h
    exact ⟨a, gn, e, hg⟩
  subst hu
  have hTI : s.TypeIs (.ref a) "generator" := Heap.IsGen.typeIs hgen
  wp_walk using wpAny_typeOf hTI, collectG (hr := Room.in1 (hr.mono (by omega))) (hfr := hfr) h
  intro s' acc H' ys hv gd q hsz
  show wpAny _ _ (Builtin.Tuple.tupleExact acc.toArray >>= fun v => ret v) _ _ _
  unfold Builtin.Tuple.tupleExact
  have hl := hlen ys H' q
  have he := hv.length
  refine wpAny_bind (wpAny_newObj_type ?_ (by show acc.toArray.size ≤ sizeLine; rw [List.size_toArray]; omega))
  exact wpAny_pure (hQ s' acc H' ys hv hl gd q hsz)

theorem call_tupleG {Q : Value → Shared → Prop} (hr : Room (k + 6) A) (hfr : A.frames = some outer) (h : GM P w k outer H sc ex cnL Qe u s)
    (hQ : ∀ s' (acc : List Value) H' ys, Vals ys acc → ys.length ≤ sizeLine → GD P w outer H sc ex [] H' s' → Qe ys H' → s.heap.objs.size ≤ s'.heap.objs.size → Q (.ref s'.heap.objs.size) { s' with heap := s'.heap.push { cls := .type "tuple", data := .seq acc.toArray } })
    (hlen : ∀ ys H', Qe ys H' → ys.length ≤ sizeLine) :
    wpAny (model P w) A (call (.type "tuple") [u]) Q E s := by
  refine callType_codes (Q₁ := fun obj s₁ => s₁.TypeIs obj "tuple" ∧ Q obj s₁) PySem.F.called_tuple (PySem.F.typeCall_tuple_1 _) PySem.F.entry_object_init
    (code_tupleG (Room.in1 (hr.mono (by omega))) hfr h (fun s' acc H' ys q1 q2 q3 q4 q5 => ⟨⟨_, Heap.get?_push_size _ rfl, rfl⟩, hQ s' acc H' ys q1 q2 q3 q4 q5⟩) hlen) fun obj s₁ h₁ => ?_
  exact ⟨h₁.1, PySem.F.args_object_init_2 obj _, object_init_meets PySem.F.called_tuple.init.lookup PySem.F.called_tuple.made (by decide) P w A.in1 _ s₁ ⟨h₁.1, rfl, h₁.2⟩⟩
end

/-! ### any -/
/-- an item: a True or False; at a True the end -/
def cnA (Qt : Hp → Prop) : CnT := fun _ y H p => ∃ b, y = .bl b ∧ if b = true then Qt H else p
theorem cnA_mono {Qt : Hp → Prop} (ys : List V) (y : V) (H : Hp) (p q : Prop) (h : p → q) (c : cnA Qt ys y H p) : cnA Qt ys y H q := by
  obtain ⟨b, e, c⟩ := c
  refine ⟨b, e, ?_⟩
  cases b with
  | true => exact c
  | false => exact h c
def rcA : List V → Heap → Prop := fun _ _ => True
section
variable {P : Program} {w : World} {outer : List Env} {H : Hp} {sc : Shared} {ex : List Addr} {Qe : List V → Hp → Prop} {Qt : Hp → Prop} {A : Around} {R : Result → Shared → Prop} {a : Addr} {g : Nat}
theorem drainA (hh : A.handled = none) (hd : A.depth < recursionLimit)
    (hyes : ∀ s' H', GD P w outer H sc ex [] H' s' → Qt H' → R (.ok (.ret (.bool true))) s') (hno : ∀ s' H' ys, GD P w outer H sc ex [] H' s' → Qe ys H' → R (.ok (.ret (.bool false))) s') :
    ∀ (m : Nat) (s : Shared), s.heap.IsGen a g → s.heap.NoLimit →
      (∃ gs, s.gens[g]? = some gs ∧ gs.Goes (model P w) A.in1.in1 (RG P w outer H sc ex [] rcA Qe) (YG P w outer H sc ex [] a g rcA (cnA Qt)) m (.send .none) (s.setGen g .running)) →
      codeAny (model P w) A (.builtin "any.loop" ⟨[.ref a], []⟩) R s := by
  have fin : ∀ {s₀ s₁ : Shared} {h' : Heap}, (∃ H' ys, GD P w outer H sc ex [] H' s₁ ∧ (∀ b ∈ ([] : List Addr), ∀ o, s₀.heap.get? b = some o → s₁.heap.get? b = some o) ∧ rcA ys s₁.heap ∧ Qe ys H') → (∀ b o, s₁.heap.get? b = some o → h'.get? b = some o) → R (.ok (.ret (.bool false))) { s₁.setGen g .finished with heap := h' } := fun {s₀ s₁ h'} hp hk => by
    obtain ⟨H', ys, gd, _, _, q⟩ := hp
    exact hno _ H' ys (gd.more (s2 := { s₁.setGen g .finished with heap := h' }) hk rfl (allBare_setGen gd.bare rfl)) q
  intro m
  induction m with
  | zero =>
    intro s hg hl ⟨gs, hgs, hgo⟩
    refine codeAny_builtin PySem.F.entry_any_loop ?_
    rw [Around.under_plainId PySem.F.plain_any_loop _]
    show wpAny _ A.in1 (pyNext (.ref a) >>= _) _ _ s
    refine wpAny_bind (next_genG (A := A.in1) (F := fun _ s₀ s1 => ∃ H' ys, GD P w outer H sc ex [] H' s1 ∧ (∀ b ∈ ([] : List Addr), ∀ o, s₀.heap.get? b = some o → s1.heap.get? b = some o) ∧ rcA ys s1.heap ∧ Qe ys H') (Er := fun _ _ => False) hh hl hd hg hgs hgo (fun v s₁ gs' hbare hv => ?_) (fun s₁ hp h' hk => ?_) fun e s₁ he => False.elim he)
    · obtain ⟨ys, x, H', rv, gd, hl1, hg1, _, _, b, eb, hk⟩ := hv
      subst eb
      obtain rfl : v = Value.bool b := rv
      refine wpAny_bind (wpAny_holding (wpAny_truthy_bool ?_))
      refine wpAny_bind (wpAny_letGo ?_)
      cases b with
      | true =>
        simp only [if_true]
        refine wpAny_bind (wpAny_rule (wpAny_pure ?_))
        exact hyes _ H' (gd.more (s2 := s₁.setGen g gs') (fun _ _ z => z) rfl (allBare_setGen gd.bare hbare)) hk
      | false =>
        exact False.elim ((show ∀ s', Slp [] s₁ s' → rcA (ys ++ [.bl false]) s'.heap → False from hk) s₁ ⟨rfl, gd.bare, fun _ _ _ z => z, fun b hb => absurd hb (by simp)⟩ trivial)
    · exact wpAny_bind (wpAny_rule (wpAny_pure (fin hp hk)))
  | succ m ih =>
    intro s hg hl ⟨gs, hgs, hgo⟩
    have hgl : g < s.gens.size := (Array.getElem?_eq_some_iff.mp hgs).1
    refine codeAny_builtin PySem.F.entry_any_loop ?_
    rw [Around.under_plainId PySem.F.plain_any_loop _]
    show wpAny _ A.in1 (pyNext (.ref a) >>= _) _ _ s
    refine wpAny_bind (wpAny_gsz (n := g + 1) hgl (next_genG (A := A.in1) (F := fun _ s₀ s1 => ∃ H' ys, GD P w outer H sc ex [] H' s1 ∧ (∀ b ∈ ([] : List Addr), ∀ o, s₀.heap.get? b = some o → s1.heap.get? b = some o) ∧ rcA ys s1.heap ∧ Qe ys H') (Er := fun _ _ => False) hh hl hd hg hgs hgo (fun v s₁ gs' hbare hv => ?_) (fun s₁ hp h' hk => ?_) fun e s₁ he => False.elim he))
    · intro hsz
      obtain ⟨ys, x, H', rv, gd, hl1, hg1, _, _, b, eb, hk⟩ := hv
      subst eb
      obtain rfl : v = Value.bool b := rv
      have gd' : GD P w outer H sc ex [] H' (s₁.setGen g gs') := gd.more (fun _ _ z => z) rfl (allBare_setGen gd.bare hbare)
      refine wpAny_bind (wpAny_holding (wpAny_truthy_bool ?_))
      refine wpAny_bind (wpAny_letGo ?_)
      cases b with
      | true =>
        simp only [if_true]
        refine wpAny_bind (wpAny_rule (wpAny_pure ?_))
        exact hyes _ H' gd' hk
      | false =>
        simp only [Bool.false_eq_true, if_false]
        have hsz1 : g < s₁.gens.size := by
          have q : (s₁.setGen g gs').gens.size = s₁.gens.size := setGen_size _ _ _
          have hsz' : g + 1 ≤ (s₁.setGen g gs').gens.size := hsz
          omega
        refine wpAny_pure ⟨plainId_quiet PySem.F.plain_any_loop _, ih (s₁.setGen g gs') hg1 hl1 ⟨gs', setGen_at hsz1, ?_⟩⟩
        exact (show ∀ s', Slp [] s₁ s' → rcA (ys ++ [.bl false]) s'.heap → gs'.Goes _ _ _ _ m (.send .none) s' from hk) _ ⟨rfl, allBare_setGen (allBare_setGen gd.bare hbare) rfl, fun _ _ _ z => z, fun b hb => absurd hb (by simp)⟩ trivial
    · intro hsz
      exact wpAny_bind (wpAny_rule (wpAny_pure (fin hp hk)))
theorem call_anyG {k : Nat} {u : Value} {s : Shared} {E : Value → Shared → Prop} {Q : Value → Shared → Prop} (hr : Room (k + 6) A) (hfr : A.frames = some outer) (h : GM P w k outer H sc ex (cnA Qt) Qe u s)
    (hyes : ∀ s' H', GD P w outer H sc ex [] H' s' → Qt H' → Q (.bool true) s') (hno : ∀ s' H' ys, GD P w outer H sc ex [] H' s' → Qe ys H' → Q (.bool false) s') :
    wpAny (model P w) A (call (.builtin "any") [u]) Q E s := by
  obtain ⟨a, gn, c, n, rfl, ha1, ha2, hg, hgs, hos, hb, hl, hkp, wake⟩ := h
  refine call_function_tree PySem.F.kind_any PySem.F.plain_any PySem.F.entry_any (PySem.F.args_any1 _) ?_
  unfold Builtin.«any»
  refine wpAny_bind (m := oneArg "any" _) (wpAny_pure ?_)
  refine wpAny_bind (wpAny_pyIter_gen hg ?_)
  refine wpAny_pure ⟨plainId_quiet PySem.F.plain_any_loop _, ?_⟩
  refine drainA (P := P) (w := w) (outer := outer) (H := H) (sc := sc) (ex := ex) (Qe := Qe) (Qt := Qt) (g := gn) hr.hd hr.depth hyes hno n s hg hl ⟨_, hgs, rfl, ?_⟩
  refine wake _ [] rcA _ ⟨hr.hd, ?_, ?_⟩ hfr (fun b hb => absurd hb (by simp)) (fun _ _ z => z) hos (allBare_setGen hb rfl) (fun _ _ _ _ _ => trivial) trivial
  · have := hr.dp
    show A.depth + 3 * k + 5 < _
    omega
  · have := hr.un
    show A.units + 1 + 1 + 16 * k + 200 < _
    omega
end

/-! ### sum -/
def intOf : V → Int
  | .int i => i
  | _ => 0
def sumV (ys : List V) : Int := (ys.map intOf).sum
theorem sumV_snoc (ys : List V) (k : Int) : sumV (ys ++ [.int k]) = sumV ys + k := by
  unfold sumV
  rw [List.map_append, List.sum_append]
  show _ + (k + 0) = _
  omega
def cnS : CnT := fun ys y _ p => ∃ i, y = .int i ∧ (InLong i ∧ InLong (sumV ys + i)) ∧ p
theorem cnS_mono (ys : List V) (y : V) (H : Hp) (p q : Prop) (h : p → q) (c : cnS ys y H p) : cnS ys y H q := by
  obtain ⟨i, e, r, c⟩ := c
  exact ⟨i, e, r, h c⟩
def rcS (S : Addr) : List V → Heap → Prop := fun ys h => ∃ t c, h.get? S = some { cls := .type "list", dict := none, data := .seq #[.int (sumV ys) t] c, slots := #[] }
theorem rcS_keep {S : Addr} (ys : List V) (h h' : Heap) (r : rcS S ys h) (k : ∀ b ∈ [S], ∀ o, h.get? b = some o → h'.get? b = some o) : rcS S ys h' := by
  obtain ⟨t, c, e⟩ := r
  exact ⟨t, c, k S List.mem_cons_self _ e⟩
section
variable {P : Program} {w : World} {outer : List Env} {H : Hp} {sc : Shared} {ex : List Addr} {Qe : List V → Hp → Prop} {A : Around} {R : Result → Shared → Prop} {S a : Addr} {g : Nat}
theorem drainS (hh : A.handled = none) (hd : A.depth < recursionLimit) (hSa : S ≠ a) (hSc : S ≠ cStatics)
    (hend : ∀ s' H' ys t, GD P w outer H sc ex [S] H' s' → Qe ys H' → R (.ok (.ret (.int (sumV ys) t))) s') :
    ∀ (m : Nat) (s : Shared), s.heap.IsGen a g → s.heap.NoLimit → (∃ ys, rcS S ys s.heap) →
      (∃ gs, s.gens[g]? = some gs ∧ gs.Goes (model P w) A.in1.in1 (RG P w outer H sc ex [S] (rcS S) Qe) (YG P w outer H sc ex [S] a g (rcS S) cnS) m (.send .none) (s.setGen g .running)) →
      codeAny (model P w) A (.builtin "sum.loop" ⟨[.ref a, .ref S, rawInt 0, rawInt 0], []⟩) R s := by
  have fin : ∀ {s s₁ : Shared} {h' : Heap} {ys0 : List V} {t : Tok} {c : Nat}, s.heap.get? S = some { cls := .type "list", dict := none, data := .seq #[.int (sumV ys0) t] c, slots := #[] } →
      (∃ H' ys, GD P w outer H sc ex [S] H' s₁ ∧ (∀ b ∈ [S], ∀ o, (s.setGen g .running).heap.get? b = some o → s₁.heap.get? b = some o) ∧ rcS S ys s₁.heap ∧ Qe ys H') → (∀ b o, s₁.heap.get? b = some o → h'.get? b = some o) →
      R (.ok (.ret (.int (sumV ys0) t))) { s₁.setGen g .finished with heap := h' } := fun {s s₁ h' ys0 t c} eS hp hk => by
    obtain ⟨H', ys, gd, hS, ⟨t', c', e⟩, q⟩ := hp
    have e2 := hS S List.mem_cons_self _ eS
    rw [e] at e2
    have e3 : sumV ys = sumV ys0 := by
      simp only [Option.some.injEq, Obj.mk.injEq, Data.seq.injEq, true_and, and_true] at e2
      have e4 := e2.1
      simp at e4
      exact e4.1
    have r := hend _ H' ys t (gd.more (s2 := { s₁.setGen g .finished with heap := h' }) hk rfl (allBare_setGen gd.bare rfl)) q
    rw [e3] at r
    exact r
  intro m
  induction m with
  | zero =>
    intro s hg hl ⟨ys0, t0, c0, eS⟩ ⟨gs, hgs, hgo⟩
    refine codeAny_builtin PySem.F.entry_sum_loop ?_
    rw [Around.under_plainId PySem.F.plain_sum_loop _]
    show wpAny _ A.in1 (seqItems? (.ref S) >>= _) _ _ s
    refine wpAny_bind (wpAny_seqItems eS rfl ?_)
    show wpAny _ A.in1 (tryCatch (pyNext (.ref a)) _ >>= _) _ _ s
    refine wpAny_bind (wpAny_tryCatch (next_genG (A := A.in1) (F := fun _ s₀ s1 => ∃ H' ys, GD P w outer H sc ex [S] H' s1 ∧ (∀ b ∈ [S], ∀ o, s₀.heap.get? b = some o → s1.heap.get? b = some o) ∧ rcS S ys s1.heap ∧ Qe ys H') (Er := fun _ _ => False) hh hl hd hg hgs hgo (fun v s₁ gs' hbare hv => ?_) (fun s₁ hp h' hk => ?_) fun e s₁ he => False.elim he))
    · exfalso
      obtain ⟨ys, x, H', rv, gd, hl1, hg1, _, ⟨t, c, e⟩, i, ex, _, hk⟩ := hv
      subst ex
      refine (show ∀ s', Slp [S] s₁ s' → rcS S (ys ++ [.int i]) s'.heap → False from hk) { s₁ with heap := s₁.heap.update S (Obj.mapSeq (fun _ => #[.int (sumV ys + i) t])) } ⟨rfl, gd.bare, fun b o hb e' => ?_, fun b hb => ?_⟩ ⟨t, _, (Heap.get?_update_self _ e rfl).trans (by rw [sumV_snoc]; rfl)⟩
      · exact (Heap.get?_update_other _ _ (fun z : S = b => hb (by rw [z]; exact List.mem_cons_self))).trans e'
      · have hb : b = S := by simpa using hb
        rw [hb]
        exact ⟨_, Heap.get?_update_self _ e rfl, fun z q => by cases q⟩
    · exact wpAny_pure (fin eS hp hk)
  | succ m ih =>
    intro s hg hl ⟨ys0, t0, c0, eS⟩ ⟨gs, hgs, hgo⟩
    have hgl : g < s.gens.size := (Array.getElem?_eq_some_iff.mp hgs).1
    refine codeAny_builtin PySem.F.entry_sum_loop ?_
    rw [Around.under_plainId PySem.F.plain_sum_loop _]
    show wpAny _ A.in1 (seqItems? (.ref S) >>= _) _ _ s
    refine wpAny_bind (wpAny_seqItems eS rfl ?_)
    show wpAny _ A.in1 (tryCatch (pyNext (.ref a)) _ >>= _) _ _ s
    refine wpAny_bind (wpAny_tryCatch (wpAny_gsz (n := g + 1) hgl (next_genG (A := A.in1) (F := fun _ s₀ s1 => ∃ H' ys, GD P w outer H sc ex [S] H' s1 ∧ (∀ b ∈ [S], ∀ o, s₀.heap.get? b = some o → s1.heap.get? b = some o) ∧ rcS S ys s1.heap ∧ Qe ys H') (Er := fun _ _ => False) hh hl hd hg hgs hgo (fun v s₁ gs' hbare hv => ?_) (fun s₁ hp h' hk => ?_) fun e s₁ he => False.elim he)))
    · intro hsz
      obtain ⟨ys, x, H', rv, gd, hl1, hg1, hS, ⟨t, c, e⟩, i, ex, ⟨⟨f1, f2⟩, f3, f4⟩, hk⟩ := hv
      subst ex
      obtain ⟨ti, rfl⟩ := rv
      have e2 := hS S List.mem_cons_self _ eS
      rw [e] at e2
      have e3 : sumV ys = sumV ys0 := by
        simp only [Option.some.injEq, Obj.mk.injEq, Data.seq.injEq, true_and, and_true] at e2
        have e4 := e2.1
        simp at e4
        exact e4.1
      rw [e3] at f3 f4
      have hc : ((decide (-(2 ^ 63) ≤ i) && decide (i < 2 ^ 63)) && (decide (-(2 ^ 63) ≤ sumV ys0 + i) && decide (sumV ys0 + i < 2 ^ 63))) = true := by
        simp only [Bool.and_eq_true, decide_eq_true_eq]
        exact ⟨⟨f1, f2⟩, f3, f4⟩
      have hsz1 : g < s₁.gens.size := by
        have q : (s₁.setGen g gs').gens.size = s₁.gens.size := setGen_size _ _ _
        have hsz' : g + 1 ≤ (s₁.setGen g gs').gens.size := hsz
        omega
      show wpAny _ A.in1 (if (_ : Bool) = true then (mkInt (sumV ys0 + i) >>= _) else _) _ _ _
      split
      · refine wpAny_bind (wpAny_mkInt ?_)
        show wpAny _ A.in1 (updateSeq S (fun _ => #[.int (sumV ys0 + i) s₁.toks]) >>= _) _ _ _
        refine wpAny_bind ?_
        have keep3 : ∀ (tk : Tok) b o, b ≠ S → s₁.heap.get? b = some o → (s₁.heap.update S (Obj.mapSeq (fun _ => #[.int (sumV ys0 + i) tk]))).get? b = some o := fun tk b o hbS e => (Heap.get?_update_other _ _ (Ne.symm hbS)).trans e
        have eN : ∀ tk : Tok, ∃ c', (s₁.heap.update S (Obj.mapSeq (fun _ => #[.int (sumV ys0 + i) tk]))).get? S = some { cls := .type "list", dict := none, data := .seq #[.int (sumV (ys ++ [.int i])) tk] c', slots := #[] } := fun tk => by
          rw [sumV_snoc, e3]
          exact ⟨_, Heap.get?_update_self _ e rfl⟩
        obtain ⟨cN, eN'⟩ := eN s₁.toks
        refine wpAny_updateSeq e rfl (wpAny_pure ⟨plainId_quiet PySem.F.plain_sum_loop _, ih _ ?_ ?_ ⟨ys ++ [V.int i], s₁.toks, cN, eN'⟩ ⟨gs', setGen_at (s := s₁) hsz1, ?_⟩⟩)
        · obtain ⟨o, nm, qn, ho, r⟩ := hg1
          exact ⟨o, nm, qn, keep3 _ a o (Ne.symm hSa) ho, r⟩
        · obtain ⟨mc, hns, hnn⟩ := hl1
          exact ⟨mc, hns.at' fun o e => keep3 _ _ o (Ne.symm hSc) e, hnn⟩
        · refine (show ∀ s', Slp [S] s₁ s' → rcS S (ys ++ [.int i]) s'.heap → gs'.Goes _ _ _ _ m (.send .none) s' from hk) _ ⟨rfl, allBare_setGen (s := { s₁.setGen g gs' with heap := _, toks := _ }) (allBare_setGen gd.bare hbare) rfl, fun b o hb e' => keep3 _ b o (fun z => hb (by rw [z]; exact List.mem_cons_self)) e', fun b hb => ?_⟩ ⟨s₁.toks, cN, eN'⟩
          have hb : b = S := by simpa using hb
          rw [hb]
          exact ⟨_, eN', fun z q => by cases q⟩
      · rename_i hneg
        exact absurd hc hneg
    · intro hsz
      exact wpAny_pure (fin eS hp hk)
theorem call_sumG {k : Nat} {u : Value} {s : Shared} {E : Value → Shared → Prop} {Q : Value → Shared → Prop} (hr : Room (k + 6) A) (hfr : A.frames = some outer) (h : GM P w k outer H sc ex cnS Qe u s)
    (hQ : ∀ s' H' ys t, GD P w outer H sc ex [] H' s' → Qe ys H' → Q (.int (sumV ys) t) s') :
    wpAny (model P w) A (call (.builtin "sum") [u]) Q E s := by
  obtain ⟨a, gn, c, n, rfl, ha1, ha2, hg, hgs, hos, hb, hl, hkp, wake⟩ := h
  have hSa : s.heap.objs.size ≠ a := Nat.ne_of_gt ha2
  have hcl : cStatics < s.heap.objs.size := let ⟨_, hn, _⟩ := hl; hn.lt
  have hSc : s.heap.objs.size ≠ cStatics := Nat.ne_of_gt hcl
  refine call_function_tree PySem.F.kind_sum PySem.F.plain_sum PySem.F.entry_sum (PySem.F.args_sum1 _) ?_
  unfold Builtin.«sum»
  simp only [List.length_cons, List.length_nil]
  rw [if_neg (by decide)]
  refine wpAny_bind (wpAny_of_eq (show Builtin.Builtins.bindParams "sum" ["start"] 0 { } = pure [none] from rfl) ?_)
  refine wpAny_bind (wpAny_pyIter_gen hg ?_)
  refine wpAny_bind (wpAny_mkInt ?_)
  refine wpAny_bind (wpAny_pure ?_)
  simp only [List.forIn_cons, List.forIn_nil]
  refine wpAny_bind (wpAny_bind (wpAny_bind (wpAny_isInstance (T := "int") (b := false) (typeIs_int _ _ _) PySem.sub_int_str ?_)))
  simp only [Bool.false_eq_true, if_false]
  refine wpAny_pure (wpAny_bind (wpAny_bind (wpAny_isInstance (T := "int") (b := false) (typeIs_int _ _ _) PySem.sub_int_bytes ?_)))
  simp only [Bool.false_eq_true, if_false]
  refine wpAny_pure (wpAny_bind (wpAny_bind (wpAny_isInstance (T := "int") (b := false) (typeIs_int _ _ _) PySem.sub_int_bytearray ?_)))
  simp only [Bool.false_eq_true, if_false]
  refine wpAny_pure (wpAny_pure ?_)
  refine wpAny_bind (wpAny_newObj_type ?_)
  have kp : ∀ b o, s.heap.get? b = some o → (s.heap.push { cls := .type "list", data := .seq #[.int 0 s.toks] }).get? b = some o := fun b o e => Heap.get?_push_of_some _ e
  have hS : (s.heap.push { cls := .type "list", data := .seq #[.int 0 s.toks] }).get? s.heap.objs.size = some { cls := .type "list", data := .seq #[.int 0 s.toks] } := Heap.get?_push_size _ rfl
  refine wpAny_pure ⟨plainId_quiet PySem.F.plain_sum_loop _, ?_⟩
  refine drainS (P := P) (w := w) (outer := outer) (H := H) (sc := sc) (ex := ex) (Qe := Qe) (S := s.heap.objs.size) (g := gn) hr.hd hr.depth hSa hSc (fun s' H' ys t gd q => hQ s' H' ys t ⟨gd.os, gd.bare, gd.un, gd.hok, fun b hb => absurd hb (by simp)⟩ q) n _ (hg.keeps kp) (hl.keeps kp) ⟨[], s.toks, _, hS⟩ ⟨_, hgs, rfl, ?_⟩
  refine wake _ [s.heap.objs.size] (rcS s.heap.objs.size) _ ⟨hr.hd, ?_, ?_⟩ hfr (fun b hb => ?_) kp hos (allBare_setGen (s := { s with heap := _, toks := _ }) hb rfl) (fun ys h h' => rcS_keep ys h h') ⟨s.toks, _, hS⟩
  · have := hr.dp
    show A.depth + 3 * k + 5 < _
    omega
  · have := hr.un
    show A.units + 1 + 1 + 16 * k + 200 < _
    omega
  · have hb : b = s.heap.objs.size := by simpa using hb
    rw [hb]
    exact ⟨Nat.le_refl _, _, hS, fun v q => by cases q⟩
end

/-! ### the expressions -/
def tTupG (P : Addr) (wi : TI) (g : TG) (te : TE) (vs : List Nat) : TE := fun σ H Q => tGx P wi g te vs cnL (fun ys H => ys.length ≤ sizeLine ∧ ∀ p, H p = none → Q (.ref p) (upd H p (.tup ys))) σ H
def tAnyG (P : Addr) (wi : TI) (g : TG) (te : TE) (vs : List Nat) : TE := fun σ H Q => tGx P wi g te vs (cnA fun H => Q (.bl true) H) (fun _ H => Q (.bl false) H) σ H
def tSumG (P : Addr) (wi : TI) (g : TG) (te : TE) (vs : List Nat) : TE := fun σ H Q => tGx P wi g te vs cnS (fun ys H => Q (.int (sumV ys)) H) σ H
section
variable {X : Cx} {k : Nat} {c P : Addr} {elt tg iter : Expr} {gpos p pos : Pos} {scope : Scope} {own : List (Str × Nat)} {wi : TI} {g : TG} {te : TE}
theorem pe_tupG (hr : Room (k + 6) X.A) (hgl : Gl X "tuple") (hm : X.mg "tuple" = none) (hv : bootBuiltins "tuple" = some (.type "tuple")) (hN : X.N.Nodup) (TB : GxR.TabB X.base X.mg c P) (hcode : X.env.code = .ref c) (ok : GeOk X.N X.env.scope scope own) (hi : PI X tg iter wi)
    (hg : ∀ (A : Around) (s : Shared) (H : Hp) (code : Value) (fp : List Addr), PG (gCx X A s H scope code fp) tg g) (he : ∀ (A : Around) (s : Shared) (H : Hp) (code : Value) (fp : List Addr), Room k A → PE (gCx X A s H scope code fp) elt te)
    (hs : ∀ v, genFold iter X.env v = pure v := by intro _; rfl)
    (hst : starEach [.GeneratorExp elt [⟨tg, iter, [], 0⟩] scope gpos] X.env = (false, eval (.GeneratorExp elt [⟨tg, iter, [], 0⟩] scope gpos) X.env) :: starEach [] X.env := by rfl) :
    PE X (.Call (.Name "tuple" p) [.GeneratorExp elt [⟨tg, iter, [], 0⟩] scope gpos] [] pos) (tTupG P wi g te (own.map (·.2))) := by
  refine ⟨fun pins s σ H Q I h => ?_⟩
  refine wpAny_Call_Name_kw (ld_blt I hgl hm hv ?_)
  refine PyProof.Rows.callWith_type1 ?_ hst rfl
  rw [hst]
  show wpAny _ _ (spliced ((false, eval (.GeneratorExp elt [⟨tg, iter, [], 0⟩] scope gpos) X.env) :: backTo pos (starEach [] X.env))) _ _ s
  refine Calls.spliced_cons (thn (gen_made (hr.mono (by omega)) hN TB hcode ok hi hg he cnL_mono hs I h) fun u s1 hh => ?_)
  obtain ⟨H1, sc, ex, I1, hex, hG⟩ := hh
  refine Calls.spliced_nil ?_
  refine call_tupleG hr I1.ok.frames hG (fun s' acc H' ys hvs hl gd q hsz => ?_) fun ys H' q => q.1
  have I2 : Inv X pins σ H' s' := I1.call' gd.os gd.un gd.hok gd.bare hex
  have fr : H' s'.heap.objs.size = none := I2.hok.fresh (Nat.le_refl _)
  refine ⟨.ref s'.heap.objs.size, upd H' s'.heap.objs.size (.tup ys), ?_, rfl, q.2 _ fr⟩
  exact I2.laid (t' := s'.toks) (fun b o e => Heap.get?_push_of_some _ e) (Nat.le_refl _) ⟨hl, acc, hvs, IsTup.new s'.heap acc.toArray⟩
theorem pe_anyG (hr : Room (k + 6) X.A) (hgl : Gl X "any") (hm : X.mg "any" = none) (hN : X.N.Nodup) (TB : GxR.TabB X.base X.mg c P) (hcode : X.env.code = .ref c) (ok : GeOk X.N X.env.scope scope own) (hi : PI X tg iter wi)
    (hg : ∀ (A : Around) (s : Shared) (H : Hp) (code : Value) (fp : List Addr), PG (gCx X A s H scope code fp) tg g) (he : ∀ (A : Around) (s : Shared) (H : Hp) (code : Value) (fp : List Addr), Room k A → PE (gCx X A s H scope code fp) elt te)
    (hs : ∀ v, genFold iter X.env v = pure v := by intro _; rfl)
    (hst : starEach [.GeneratorExp elt [⟨tg, iter, [], 0⟩] scope gpos] X.env = (false, eval (.GeneratorExp elt [⟨tg, iter, [], 0⟩] scope gpos) X.env) :: starEach [] X.env := by rfl) :
    PE X (.Call (.Name "any" p) [.GeneratorExp elt [⟨tg, iter, [], 0⟩] scope gpos] [] pos) (tAnyG P wi g te (own.map (·.2))) := by
  refine ⟨fun pins s σ H Q I h => ?_⟩
  refine wpAny_Call_Name_kw (ld_blt I hgl hm boot_any ?_)
  refine PyProof.Rows.callWith_builtin1 ?_ hst (by rfl)
  rw [hst]
  show wpAny _ _ (spliced ((false, eval (.GeneratorExp elt [⟨tg, iter, [], 0⟩] scope gpos) X.env) :: backTo pos (starEach [] X.env))) _ _ s
  refine Calls.spliced_cons (thn (gen_made (hr.mono (by omega)) hN TB hcode ok hi hg he cnA_mono hs I h) fun u s1 hh => ?_)
  obtain ⟨H1, sc, ex, I1, hex, hG⟩ := hh
  refine Calls.spliced_nil ?_
  refine call_anyG hr I1.ok.frames hG (fun s' H' gd q => ?_) fun s' H' ys gd q => ?_
  · exact ⟨.bl true, H', I1.call' gd.os gd.un gd.hok gd.bare hex, rfl, q⟩
  · exact ⟨.bl false, H', I1.call' gd.os gd.un gd.hok gd.bare hex, rfl, q⟩
theorem pe_sumG (hr : Room (k + 6) X.A) (hgl : Gl X "sum") (hm : X.mg "sum" = none) (hv : bootBuiltins "sum" = some (.builtin "sum")) (hN : X.N.Nodup) (TB : GxR.TabB X.base X.mg c P) (hcode : X.env.code = .ref c) (ok : GeOk X.N X.env.scope scope own) (hi : PI X tg iter wi)
    (hg : ∀ (A : Around) (s : Shared) (H : Hp) (code : Value) (fp : List Addr), PG (gCx X A s H scope code fp) tg g) (he : ∀ (A : Around) (s : Shared) (H : Hp) (code : Value) (fp : List Addr), Room k A → PE (gCx X A s H scope code fp) elt te)
    (hs : ∀ v, genFold iter X.env v = pure v := by intro _; rfl)
    (hst : starEach [.GeneratorExp elt [⟨tg, iter, [], 0⟩] scope gpos] X.env = (false, eval (.GeneratorExp elt [⟨tg, iter, [], 0⟩] scope gpos) X.env) :: starEach [] X.env := by rfl) :
    PE X (.Call (.Name "sum" p) [.GeneratorExp elt [⟨tg, iter, [], 0⟩] scope gpos] [] pos) (tSumG P wi g te (own.map (·.2))) := by
  refine ⟨fun pins s σ H Q I h => ?_⟩
  refine wpAny_Call_Name_kw (ld_blt I hgl hm hv ?_)
  refine PyProof.Rows.callWith_builtin1 ?_ hst (by rfl)
  rw [hst]
  show wpAny _ _ (spliced ((false, eval (.GeneratorExp elt [⟨tg, iter, [], 0⟩] scope gpos) X.env) :: backTo pos (starEach [] X.env))) _ _ s
  refine Calls.spliced_cons (thn (gen_made (hr.mono (by omega)) hN TB hcode ok hi hg he cnS_mono hs I h) fun u s1 hh => ?_)
  obtain ⟨H1, sc, ex, I1, hex, hG⟩ := hh
  refine Calls.spliced_nil ?_
  refine call_sumG hr I1.ok.frames hG fun s' H' ys t gd q => ?_
  exact ⟨.int (sumV ys), H', I1.call' gd.os gd.un gd.hok gd.bare hex, ⟨t, rfl⟩, q⟩
end
end MG

set_option Elab.async false
set_option linter.all false
set_option maxRecDepth 100000
set_option maxHeartbeats 2000000
/-! Lambdas without parameters as values: made, kept in a list, called by a def in a comprehension over that list. -/
namespace ML
open PySem PySem.Spec PyProof.Rows L2 LamX

structure LamD where
  params : Arguments
  body : Expr
  scope : Scope
/-- at f the lambda L, its code at c', made where the cells are these -/
def LamO (cells : List (Str × Addr)) (q : Str) (L : LamD) (c' f : Addr) : HO :=
  .ext fun h => ∃ pm ctv, h.get? f = some (PySem.W.kla_obj "<lambda>" q L.params L.body L.scope (cloFrom cells L.scope.names []) pm c' ctv)
theorem lamO_ne {cells : List (Str × Addr)} {q : Str} {L : LamD} {c' f : Addr} (ps : Array Value) : LamO cells q L c' f ≠ .tbl ps := fun z => by
  unfold LamO at z
  cases z
theorem lamO_ok {P : Program} {w : World} {H : Hp} {h : Heap} {cells : List (Str × Addr)} {q : Str} {L : LamD} {c' f : Addr} {pm ctv : Value} (e : h.get? f = some (PySem.W.kla_obj "<lambda>" q L.params L.body L.scope (cloFrom cells L.scope.names []) pm c' ctv)) : ObjOk P w H h f (LamO cells q L c' f) :=
  ⟨⟨pm, ctv, e⟩, ⟨_, e⟩, fun h1 h2 ⟨pm, ctv, z⟩ st => ⟨pm, ctv, st _ z⟩⟩

section
variable {X : Cx} {pins : List (Addr × Obj)} {σ : L2.St} {H : Hp} {s : Shared}
/-- a lambda as a value -/
def tLamV (P : Addr) (T : List (Addr × Str)) (cells : List (Str × Addr)) (q : Str) (L : LamD) : TE := fun _ H Q => Tabs T H ∧ ∀ f c' H1, ExtN H H1 → (∀ b o, H b = some o → b ≠ P → H1 b = some o) → Tabs T H1 → H f = none → H1 f = some (LamO cells q L c' f) → H1 c' = some (CodeO c' q) → Q (.ref f) H1
theorem pe_lamV {T : List (Addr × Str)} {c P : Addr} {params : Arguments} {body : Expr} {scope : Scope} {pos : Pos} (TB : TabB X.base X.mg c P) (hcode : X.env.code = .ref c) (hm : (P, X.env.qual ++ "<lambda>") ∈ T) (hu : ∀ p ∈ T, p.1 = P → p.2 = X.env.qual ++ "<lambda>")
    (hdef : defaultsOf params X.env = ([], []) := by rfl) (L : LamS X.env.scope scope := by exact lamS_by (by decide +kernel)) :
    PE X (.Lambda params body scope pos) (tLamV P T X.env.cells (X.env.qual ++ "<lambda>") ⟨params, body, scope⟩) := by
  refine ⟨fun pins s σ H Q I h => ?_⟩
  obtain ⟨hT, h⟩ := h
  obtain ⟨ps, hP, ht, ha⟩ := hT _ hm
  refine PySem.W.kla_eval hdef ?_
  have bP : s.heap.BuiltinsAt X.mg P := TB.bm.keeps I.bk
  have hP' : s.heap.get? P = some { cls := .none, data := .fields ps } := I.hok P _ hP
  cases hc : codeAmong pos ps.toList with
  | none =>
    refine PySem.W.kla_makeFunction (mg := X.mg) (c := c) (P := P) (ps := ps) (closure_ok (L.has I.ok)) I.ok.glob (I.mod.glob.keeps I.bk) hcode (TB.code.keeps I.bk) hP' ht hc TB.gP bP fun c' ctv h' tk hx hge hlt hrec htb => ?_
    obtain ⟨c2, oc, vs, t, e2, hoc, hd, hv⟩ := hrec
    cases e2
    have nC : H c' = none := I.hok.fresh hge
    have I1 := inv_table (t' := tk) (more := #[rawInt pos.line, rawInt pos.col, .ref c']) (h' := h') I hP (fun b o hb e => hx b o hb e) htb hge ⟨oc, vs, t, hoc, hd, hv⟩
    have hE : ExtN H (upd (upd H P (.tbl (ps ++ #[rawInt pos.line, rawInt pos.col, .ref c']))) c' (CodeO c' (X.env.qual ++ "<lambda>"))) := fun b o e n => by
      rw [upd_ne (ne_of_none e nC), upd_ne (fun z => n ps (Option.some.inj (e.symm.trans (by rw [z]; exact hP))))]
      exact e
    generalize hH1 : upd (upd H P (.tbl (ps ++ #[rawInt pos.line, rawInt pos.col, .ref c']))) c' (CodeO c' (X.env.qual ++ "<lambda>")) = H1 at I1 hE
    have T1 : Tabs T H1 := fun p hp => by
      rw [← hH1]
      by_cases hb : p.1 = P
      · rw [hu p hp hb, hb]
        have eL : (ps ++ #[rawInt pos.line, rawInt pos.col, .ref c']).toList = ps.toList ++ [rawInt pos.line, rawInt pos.col, .ref c'] := by simp
        refine ⟨_, by rw [upd_ne (ne_of_none hP nC), upd_same], by rw [eL]; exact PySem.TriplesOk_snoc _ _ _ _ ht, fun p' cv hcv => ?_⟩
        rw [eL] at hcv
        rcases among_app _ ht hcv with z | z
        · obtain ⟨c0, e1, e2⟩ := ha p' cv z
          exact ⟨c0, e1, by rw [hH1]; exact hE _ _ e2 codeO_ne⟩
        · exact ⟨c', z, upd_same⟩
      · obtain ⟨ps', a1, a2, a3⟩ := hT p hp
        refine ⟨ps', by rw [upd_ne (ne_of_none a1 nC), upd_ne hb]; exact a1, a2, fun p' cv hcv => ?_⟩
        obtain ⟨c0, e1, e2⟩ := a3 p' cv hcv
        exact ⟨c0, e1, by rw [hH1]; exact hE _ _ e2 codeO_ne⟩
    have eC : H1 c' = some (CodeO c' (X.env.qual ++ "<lambda>")) := by
      rw [← hH1]
      exact upd_same
    have fr : H1 h'.objs.size = none := I1.hok.fresh (Nat.le_refl _)
    have hsz : s.heap.objs.size ≤ h'.objs.size := Nat.le_trans hge (Nat.le_of_lt hlt)
    have I2 := I1.laid (h' := h'.push (PySem.W.kla_obj "<lambda>" (X.env.qual ++ "<lambda>") params body scope (cloFrom X.env.cells scope.names []) ((X.mg "__name__").getD .none) c' ctv)) (a := h'.objs.size) (o := LamO X.env.cells (X.env.qual ++ "<lambda>") ⟨params, body, scope⟩ c' h'.objs.size) (t' := tk) (fun b u e => Heap.get?_push_of_some _ e) (Nat.le_refl _) (lamO_ok (Heap.get?_push_size _ rfl))
    have ext : ∀ b o, H1 b = some o → upd H1 h'.objs.size (LamO X.env.cells (X.env.qual ++ "<lambda>") ⟨params, body, scope⟩ c' h'.objs.size) b = some o := fun b o e => by
      rw [upd_ne (ne_of_none e fr)]
      exact e
    exact ⟨.ref h'.objs.size, _, I2, rfl, h _ c' _ (hE.trans (.of ext)) (fun b o e n => ext b o (by rw [← hH1, upd_ne (ne_of_none e nC), upd_ne n]; exact e)) (T1.ext ext) (I.hok.fresh hsz) upd_same (ext _ _ eC)⟩
  | some cv =>
    obtain ⟨c', e, hco⟩ := ha pos cv hc
    subst e
    refine PySem.W.kla_makeFunctionHit (mg := X.mg) (c := c) (P := P) (ps := ps) (closure_ok (L.has I.ok)) I.ok.glob (I.mod.glob.keeps I.bk) hcode (TB.code.keeps I.bk) hP' ht hc bP fun ctv h' tk hx hsz => ?_
    have I1 : Inv X pins σ H { s with heap := h', toks := tk } := I.kept hx
    have fr : H h'.objs.size = none := I1.hok.fresh (Nat.le_refl _)
    have I2 := I1.laid (h' := h'.push (PySem.W.kla_obj "<lambda>" (X.env.qual ++ "<lambda>") params body scope (cloFrom X.env.cells scope.names []) ((X.mg "__name__").getD .none) c' ctv)) (a := h'.objs.size) (o := LamO X.env.cells (X.env.qual ++ "<lambda>") ⟨params, body, scope⟩ c' h'.objs.size) (t' := tk) (fun b u e => Heap.get?_push_of_some _ e) (Nat.le_refl _) (lamO_ok (Heap.get?_push_size _ rfl))
    have ext : ∀ b o, H b = some o → upd H h'.objs.size (LamO X.env.cells (X.env.qual ++ "<lambda>") ⟨params, body, scope⟩ c' h'.objs.size) b = some o := fun b o e => by
      rw [upd_ne (ne_of_none e fr)]
      exact e
    exact ⟨.ref h'.objs.size, _, I2, rfl, h _ c' _ (.of ext) (fun b o e _ => ext b o e) (hT.ext ext) fr upd_same (ext _ _ hco)⟩

/-! ### called, where its maker's state is known -/
theorem lam_start {HZ H3 : Hp} {s3 s1 : Shared} {A : Around} {outer : List Env} {E : XK} {scope : Scope} {f c' : Addr} {h₁ : Heap} {tk : Nat} {fs ex : List Addr} (I : Inv X pins σ H3 s3) (L : LamS X.env.scope scope) (e0 : Env0 X.prog X.w X.K X.mg X.base A outer s1 HZ) (hd : A.handled = none)
    (un : Un fs ex H3 HZ s3.heap s1.heap) (hex : ∀ b ∈ ex, ∀ x c, X.env.cells.lookup x = some c → c ≠ b) (hns : h₁.Ns s1.heap.objs.size fun y => ([] : List (Str × Value)).reverse.lookup y) (kp : ∀ b o, s1.heap.get? b = some o → h₁.get? b = some o) :
    Inv (lamCx X A outer s1 HZ E scope f c') [] σ HZ { s1 with heap := h₁, toks := tk } := by
  have hfree := L.has I.ok
  have cm : ∀ {y c}, (cloFrom X.env.cells scope.names []).lookup y = some c → X.env.cells.lookup y = some c := fun {y c} e => by
    rcases cloFrom_mem (PySem.mem_of_lookup e) with hm | ⟨q1, q2⟩
    · cases hm
    · obtain ⟨c1, hc⟩ := hfree _ q1 rfl
      have hc : X.env.cells.lookup y = some c1 := hc
      rw [q2, hc]
      rfl
  have look : ∀ {y}, scope.names.lookup y = some .free → ∃ c, (cloFrom X.env.cells scope.names []).lookup y = some c := fun {y} hl =>
    mem_lookup (cloFrom_has (cells := X.env.cells) (acc := []) (PySem.mem_of_lookup hl))
  have notEx : ∀ {y c}, X.env.cells.lookup y = some c → c ∉ ex := fun {y c} e hm => hex c hm y c e rfl
  have cellK : ∀ {y} {c : Addr} {v : Option Value}, X.env.cells.lookup y = some c → s3.heap.IsCell c v → h₁.IsCell c v := fun {y c v} e ⟨o, ho, hdt⟩ => by
    obtain ⟨sl, q⟩ := un.any ho (I.freeC y c e) (notEx e)
    exact ⟨_, kp _ _ q, hdt⟩
  have noA : ∀ b : Addr, b ∉ (lamCx X A outer s1 HZ E scope f c').ex := fun b z => absurd (show b ∈ ([] : List Addr) from z) (by simp)
  refine ⟨⟨e0.mod, L.kind, rfl, rfl, Nat.le_refl _, fun y z c e1 e2 => I.ok.inj y z c (cm e1) (cm e2), fun y hy => ?_, fun y c z _ => ?_, fun _ => hd, Around.frames_deeper e0.frames, .inr ⟨rfl, rfl⟩, fun b z => absurd z (noA b), e0.bs, e0.bsz, fun b _ _ => noA b,
      fun b z => absurd z (noA b), e0.funs, e0.frf⟩,
    rfl, e0.bare, Un.kept kp, ⟨_, hns, fun i y v e1 e2 e3 => ?_⟩, fun y c e => ?_, e0.hok.fresh (Nat.le_refl _), fun y c e => ?_, fun q hq => absurd (show q ∈ ([] : List (Addr × Obj)) ++ [] from hq) (by simp), e0.hok.kept kp, I.len⟩
  · have hy : scope.names.lookup y = some .cell ∨ scope.names.lookup y = some .free := hy
    rcases hy with hy | hy
    · exact absurd rfl (L.own _ (PySem.mem_of_lookup hy)).2
    · exact look hy
  · cases (show false = true from z)
  · have e3 : Vis scope y := e3
    rcases e3 with k | k | k
    · exact absurd rfl (L.own _ (PySem.mem_of_lookup k)).1
    · exact absurd rfl (L.own _ (PySem.mem_of_lookup k)).2
    · obtain ⟨m, hn, hl⟩ := I.loc
      have hvis : Vis X.env.scope y := (L.free _ (PySem.mem_of_lookup k) rfl).elim (fun k => .inr (.inl k)) (fun k => .inr (.inr k))
      obtain ⟨w', r, q⟩ := hl i y v e1 e2 hvis
      obtain ⟨c2, h2⟩ := look k
      refine ⟨w', r, .inr ⟨.inr k, c2, h2, ?_⟩⟩
      have c1 := cm h2
      rcases q with ⟨k', _⟩ | ⟨_, c3, e', z⟩
      · have k' : X.env.scope.names.lookup y = some .local := k'
        rcases L.free _ (PySem.mem_of_lookup k) rfl with k2 | k2
        · rw [show X.env.scope.names.lookup y = _ from k2] at k'
          cases k'
        · rw [show X.env.scope.names.lookup y = _ from k2] at k'
          cases k'
      · rw [c1] at e'
        cases e'
        exact cellK c1 z
  · obtain ⟨w', z⟩ := I.cell y c (cm e)
    exact ⟨w', cellK (cm e) z⟩
  · obtain ⟨v, o, ho, hdt⟩ := I.cell y c (cm e)
    exact un.free c o ho (I.freeC y c (cm e)) (notEx (cm e))

/-- what may be called so: the lambdas, each with the reading of its body -/
structure LamT (X : Cx) (k : Nat) (L : LamD) (t : XK → TE) : Prop where
  sc : LamS X.env.scope L.scope
  bind : ∀ (q : Str) (cl : List (Str × Addr)) (pm cv ctv : Value), bindArgs (PySem.W.kla_fn "<lambda>" q L.params L.body L.scope cl pm cv ctv) ⟨[], []⟩ = pure []
  body : ∀ (A : Around) (outer : List Env) (s : Shared) (H : Hp) (E : XK) (f c' : Addr), Room k (A.deeper (lamEnv X L.scope s.heap.objs.size f c')) → PE (lamCx X A outer s H E L.scope f c') L.body (t E)

/-- x(), in the def g that got the lambda: g entered at s; the maker X as it stood at s3 -/
theorem pe_actB {CXg : CXT} {Eg : XK} {Ng : List Str} {qg : Str} {sg : Scope} {g f c' : Addr} {cdg : Value} {L : LamD} {t : XK → TE} {k i : Nat} {a : Str} {pn : List (Addr × Obj)} {xe : Value → Shared → Prop} {W : WX} {E : XK} {p1 p2 : Pos} {A : Around} {st : List Env} {s3 s : Shared} {H3 H : Hp} {fs ex : List Addr}
    (I : Inv X pins σ H3 s3) (LT : LamT X k L t) (un : Un fs ex H3 H s3.heap s.heap) (hex : ∀ b ∈ ex, ∀ x c, X.env.cells.lookup x = some c → c ≠ b)
    (tk : Takes ((cxOf CXg X.prog X.w X.K X.mg X.base Ng qg sg g cdg A st s H Eg).tr pn xe) W) (hW : ∀ cls d σ' H', E cls d H' → W cls d σ' H') (hr : Room (k + 1) (A.deeper (envOfC qg sg s.heap.objs.size g cdg)))
    (hN : Ng[i]? = some a) (hv : Vis sg a) (hdb : (a == ("__debug__" : Str)) = false := by decide) (hcd : (a == ("__classdict__" : Str)) = false := by decide) :
    PE ((cxOf CXg X.prog X.w X.K X.mg X.base Ng qg sg g cdg A st s H Eg).tr pn xe) (.Call (.Name a p1) [] [] p2)
      (fun σZ HZ Q => σZ[i]? = some (some (.ref f)) ∧ HZ f = some (LamO X.env.cells (X.env.qual ++ "<lambda>") L c' f) ∧ HZ c' = some (CodeO c' (X.env.qual ++ "<lambda>")) ∧ t E σ HZ Q) := by
  refine ⟨fun pinsZ sZ σZ HZ Q IZ h => ?_⟩
  obtain ⟨hs, hf, hc, ht⟩ := h
  refine wpAny_Call_Name_kw (thn ((pe_var (pos := p1) (i := i) hN hv hdb hcd).run pinsZ sZ σZ HZ (fun v H1 => v = .ref f ∧ H1 = HZ) IZ ⟨.ref f, hs, rfl, rfl⟩) fun u s1 hh => ?_)
  obtain ⟨v, H1, I1, r1, ev, eH⟩ := hh
  subst ev
  rw [eH] at I1
  obtain rfl : u = Value.ref f := r1
  obtain ⟨⟨pm, ctv, of1⟩, _, _⟩ := I1.hok f _ hf
  refine PySem.W.callWith_F0 ⟨_, _, _, _, of1⟩ ?_
  have unZ : Un (fs ++ frs st) ex H3 HZ s3.heap s1.heap := (un.mono (fun b hb => List.mem_append_left _ hb) fun b hb => hb).trans ((show Un (frs st) [] H HZ s.heap s1.heap from I1.base).mono (fun b hb => List.mem_append_right _ hb) fun b hb => absurd hb (by simp))
  obtain ⟨⟨oc, vs, tt, hoc, hdc, hvc⟩, _, _⟩ := I1.hok c' _ hc
  have rc : codeAny (model X.prog X.w) (A.deeper (envOfC qg sg s.heap.objs.size g cdg)) (.call (.ref f) ⟨[], []⟩) (CR (L2.CX X.prog X.w) (envOfC qg sg s.heap.objs.size g cdg :: st) X.prog X.w HZ s1 Q E) s1 := by
    refine PySem.W.kla_callFunE hr.depth of1 rfl LT.sc.co LT.sc.gen rfl ⟨c', oc, vs, tt, rfl, hoc, hdc, hvc⟩ ?_
    rw [LT.bind]
    refine wpAny_pure (wpAny_newFunctionEnv (fun y hy => (LT.sc.own y hy).2) (fun y hy => absurd hy (by simp)) (fun h₁ hns hsb => ⟨I1.nolimit.fresh _ hsb, ?_⟩) LT.sc.kind)
    show codeAny _ _ (.expr L.body (lamEnv X L.scope s1.heap.objs.size f c')) _ _
    have kp : ∀ b o, s1.heap.get? b = some o → h₁.get? b = some o := fun b o e => hsb.extBut b o (Nat.ne_of_lt (Heap.lt_size e)) (Heap.get?_push_of_some _ e)
    have J : Inv (lamCx X (A.deeper (envOfC qg sg s.heap.objs.size g cdg)) (envOfC qg sg s.heap.objs.size g cdg :: st) s1 HZ E L.scope f c') [] σ HZ { s1 with heap := h₁, toks := s1.toks + ([] : List (Str × Value)).length } :=
      lam_start I LT.sc I1.env0 hr.hd unZ hex hns kp
    refine PySem.W.kla_codeExpr (wpAny_mono ((LT.body _ _ s1 HZ E f c' (hr.deeper _)).run [] _ _ HZ Q J ht) (fun v s' hq => ?_) fun e s' hq => hq)
    obtain ⟨w', H', J', rv, q⟩ := hq
    exact ⟨w', H', J'.os, J'.bare, J'.base, J'.hok, rv, q⟩
  have hx : Passes (L2.CX X.prog X.w) ((cxOf CXg X.prog X.w X.K X.mg X.base Ng qg sg g cdg A st s H Eg).tr pn xe) E := passes_call tk hW
  refine wpAny_call (codeAny_mono rc fun r s' hq => ?_)
  cases r with
  | error e => exact hx pinsZ σZ HZ s1 e s' I1 hq
  | ok fl =>
    cases fl with
    | ret u => exact I1.after hq
    | next => exact False.elim hq
    | brk => exact False.elim hq
    | cont => exact False.elim hq
end

section
variable {X : Cx}
/-- a list comprehension whose tests lean on the maker's own state -/
theorem pe_lcI {elt tg iter : Expr} {ifs : List Expr} {scope : Scope} {own : List (Str × Nat)} {pos : Pos} {wi : TI} {g : TG} {tt : TT} {te : TE} (hc : X.calm = true) (hN : X.N.Nodup) (hi : PI X tg iter wi) (ok : BlkOk X.N X.env.scope scope own)
    (hg : ∀ (s : Shared) (H : Hp) (C : Addr) (cl : List (Str × Addr)) (fp : List Addr), PG (X.blk s H scope (compEnvC scope cl C X.env) fp) tg g)
    (ht : ∀ (s : Shared) (H : Hp) (C : Addr) (cl : List (Str × Addr)) (fp : List Addr) (pins : List (Addr × Obj)) (σ : L2.St), Inv X pins σ H s → (∀ b ∈ fp, ∀ x c, X.env.cells.lookup x = some c → c ≠ b) →
      PTs (X.blk s H scope (compEnvC scope cl C X.env) fp) ifs (fun σB HB Q => wipe σB (own.map (·.2)) = wipe σ (own.map (·.2)) ∧ tt σB HB Q))
    (he : ∀ (s : Shared) (H : Hp) (C : Addr) (cl : List (Str × Addr)) (fp : List Addr), PE (X.blk s H scope (compEnvC scope cl C X.env) fp) elt te) (hs : ∀ x, foldedSetIterable iter X.env x = pure x := by intro _; rfl) :
    PE X (.ListComp elt [⟨tg, iter, ifs, 0⟩] scope pos) (tLc wi g tt te (own.map (·.2))) := by
  refine ⟨fun pins s σ H Q I h => ?_⟩
  rw [eval_ListComp]
  have hfree : ∀ y ∈ scope.names, y.2 = .free → ∃ c, X.env.cells.lookup y.1 = some c := fun y hy e => (ok.free y hy e).elim (fun k => I.ok.has _ (.inl k)) fun k => I.ok.has _ (.inr k)
  refine wpAny_comprehension_free rfl hs (closure_ok hfree) ok.kind (fun y hy e => by rw [ok.uniq y hy, e]) (thn (hi.run pins s σ H _ I h) fun xv s1 hx => thn hx fun itv s2 h2 => ?_)
  obtain ⟨it, fp, tn, J, H2, e, I2, T, st2, f2, q⟩ := h2
  subst e
  refine wpAny_newObj_type (newEnv_comp ?_) (by show 0 ≤ sizeLine; decide)
  generalize hD : s2.heap.objs.size = D
  obtain ⟨W, ⟨m0, w0⟩, turn⟩ := q D (I2.hok.fresh (Nat.le_of_eq hD))
  -- the list that is made
  generalize hs3 : ({ s2 with heap := s2.heap.push { cls := .type "list", data := .seq ([] : List Value).toArray } } : Shared) = s3
  have h3 : s3.heap = s2.heap.push { cls := .type "list", data := .seq ([] : List Value).toArray } := by rw [← hs3]
  have I3 : Inv X pins σ (upd H2 D (.lst [])) s3 := by
    rw [← hs3]
    exact I2.laid (t' := s2.toks) (fun b o e => Heap.get?_push_of_some _ e) (Nat.le_of_eq hD) ⟨Nat.zero_le _, [], 0, .nil, by rw [← hD]; exact Heap.get?_push_size _ rfl⟩
  have f3 : ∀ b ∈ fp, FpOk X pins (upd H2 D (.lst [])) b ∧ b < s3.heap.objs.size := fun b hb => by
    obtain ⟨o, eo, _⟩ := T.obj _ _ st2 b hb
    have hlt := Heap.lt_size eo
    refine ⟨⟨?_, (f2 b hb).2⟩, by rw [h3, Heap.size_push]; exact Nat.lt_succ_of_lt hlt⟩
    rw [upd_ne (by rw [← hD]; exact Nat.ne_of_lt hlt)]
    exact (f2 b hb).1
  have st3 : tn 0 s3.heap := T.keep _ _ _ st2 fun b _ o e => by rw [h3]; exact Heap.get?_push_of_some _ e
  have I4 := block_start I3 ok hN f3
  have pg := hg s3 (upd H2 D (.lst [])) s3.heap.objs.size (cellsFrom (s3.heap.objs.size + 1) scope.names (cloFrom X.env.cells scope.names [])) fp
  have pt := ht s3 (upd H2 D (.lst [])) s3.heap.objs.size (cellsFrom (s3.heap.objs.size + 1) scope.names (cloFrom X.env.cells scope.names [])) fp pins σ I3 fun b hb x c e => (f3 b hb).1.2.2.2.2.1 x c e
  have pe := he s3 (upd H2 D (.lst [])) s3.heap.objs.size (cellsFrom (s3.heap.objs.size + 1) scope.names (cloFrom X.env.cells scope.names [])) fp
  have nfp : ∀ b ∈ fp, (upd H2 D (.lst [])) b = none := fun b hb => (f3 b hb).1.1
  show codeAny _ _ (.compStart (.ListComp elt [⟨tg, iter, ifs, 0⟩] scope pos) 0 (.ref it) (.ref D) (compEnvC scope (cellsFrom (s3.heap.objs.size + 1) scope.names (cloFrom X.env.cells scope.names [])) s3.heap.objs.size X.env)) _ { s3 with heap := pushCells (s3.heap.push { cls := .type "dict", data := .dict #[] }) scope.names }
  generalize hce : compEnvC scope (cellsFrom (s3.heap.objs.size + 1) scope.names (cloFrom X.env.cells scope.names [])) s3.heap.objs.size X.env = ce at I4 pg pt pe ⊢
  have cL : ce.locals = s3.heap.objs.size := by subst hce; rfl
  generalize hH3 : upd H2 D (.lst []) = H3 at I3 I4 pg pt pe w0 nfp f3
  generalize hs4 : ({ s3 with heap := pushCells (s3.heap.push { cls := .type "dict", data := .dict #[] }) scope.names } : Shared) = s4 at I4 ⊢
  have st4 : tn 0 s4.heap := T.keep _ _ _ st3 fun b _ o e => by rw [← hs4]; exact pushCells_keeps _ _ _ _ (Heap.get?_push_of_some _ e)
  have stat : ∀ {σ' : L2.St} {H' : Hp} {s' : Shared}, Inv (X.blk s3 H3 scope ce fp) [] σ' H' s' → (∀ b ∈ fp, H' b = none) → ∀ b ∈ fp, FpOk (X.blk s3 H3 scope ce fp) [] H' b := fun {σ' H' s'} I' hn b hb =>
    ⟨hn b hb, (I'.ok.exf b hb).1, I'.ok.exfs b hb, .inl hb, fun x c e => (I'.ok.exf b hb).2 x c e, fun p hp => absurd (show p ∈ ([] : List (Addr × Obj)) ++ [] from hp) (by simp)⟩
  have loop : codeAny (model X.prog X.w) X.A (.compLoop (.ListComp elt [⟨tg, iter, ifs, 0⟩] scope pos) 0 (.ref it) (.ref D) ce) (compPost (model X.prog X.w) X.A X.xe none (EP X pins σ Q) (.ref D) s3.heap.objs.size) s4 := by
    refine compLoop_any (fun n s' => ∃ i H', Inv (X.blk s3 H3 scope ce fp) [] (wipe σ (own.map (·.2))) H' s' ∧ tn i s'.heap ∧ (∀ b ∈ fp, H' b = none) ∧ W i n H') ?_ m0 ⟨0, H3, I4, st4, nfp, w0⟩
    rintro n s5 ⟨i, H5, I5, st5, n5, w5⟩
    rcases turn i n H5 w5 with ⟨stop, qq⟩ | ⟨go, Nx, hNx, step⟩
    · refine thnF (T.done (X.blk s3 H3 scope ce fp) rfl rfl rfl hc i [] s5 _ H5 (fun _ _ => False) I5 (stat I5 n5) st5 stop) fun r s6 hr => ?_
      obtain ⟨er, I6⟩ := hr
      subst er
      have I7 : Inv X pins σ H5 s6 := I3.call' (ch := fp) I6.os I6.base I6.hok I6.bare fun b hb => ⟨(f3 b hb).1.2.2.2.1, (f3 b hb).1.2.1, (f3 b hb).1.2.2.2.2.1, (f3 b hb).1.2.2.2.2.2⟩
      have nC : H5 s3.heap.objs.size = none := by
        have z : H5 ce.locals = none := I6.free
        rwa [cL] at z
      obtain ⟨m, hn, _⟩ := I6.loc
      have hn : s6.heap.Ns ce.locals m := hn
      rw [cL] at hn
      refine ⟨m, hn, fun h'' sb => ?_⟩
      obtain ⟨g0, g1, g2, g3, g4, g5⟩ := I3.fpOk (Nat.le_refl _) nC
      exact ⟨.ref D, H5, I7.turned (t' := s6.toks) (fun b o hb e => (sb.2 b hb).trans e) g0 g1 g3 g4 g5, rfl, qq⟩
    · refine thnF (T.item (X.blk s3 H3 scope ce fp) rfl rfl rfl hc i [] s5 _ H5 (fun _ _ => False) I5 (stat I5 n5) st5 go) fun r s6 hr => ?_
      obtain ⟨u, er, h6⟩ := hr
      subst er
      refine thnF h6 fun _ s7 h7 => ?_
      obtain ⟨x, H7, I7, r7, y7, st7, n7⟩ := h7
      refine thnF (pg.run _ s7 _ H7 x u _ (I7.pinned (stat I7 n7) (T.obj _ _ st7)) r7 (step x H7 y7)) fun _ s8 h8 => ?_
      obtain ⟨σ8, H8, I8, hw8, q8⟩ := h8
      refine thnF (pt.run _ s8 σ8 H8 _ I8 ⟨hw8, q8⟩) fun b s9 h9 => ?_
      obtain ⟨H9, I9, q9⟩ := h9
      have fin : ∀ {s' : Shared} {H' : Hp}, Inv (X.blk s3 H3 scope ce fp) ([] ++ pinsAt fp s7.heap) σ8 H' s' → Nx H' → ∃ m, m < n ∧ ∃ i H', Inv (X.blk s3 H3 scope ce fp) [] (wipe σ (own.map (·.2))) H' s' ∧ tn i s'.heap ∧ (∀ b ∈ fp, H' b = none) ∧ W i m H' := fun {s' H'} I' nx => by
        obtain ⟨m', hm, w'⟩ := hNx H' nx
        have pin' : ∀ b ∈ fp, ∀ o, s7.heap.get? b = some o → s'.heap.get? b = some o ∧ H' b = none := fun b hb o e =>
          let z := I'.pin (b, o) (List.mem_append_right _ (List.mem_append_right _ (mem_pinsAt hb e)))
          ⟨z.1, z.2.1⟩
        have hl : (wipe σ (own.map (·.2))).length = σ8.length := by rw [← hw8, wipe_length]
        refine ⟨m', hm, i + 1, H', (I'.unpinned (pins := [])).weak hl (fun j v e => ?_), T.keep _ _ _ st7 fun b hb o e => (pin' b hb o e).1, fun b hb => ?_, w'⟩
        · rw [← hw8] at e
          exact (wipe_some e).1
        · obtain ⟨o, e, _⟩ := T.obj _ _ st7 b hb
          exact (pin' b hb o e).2
      cases b with
      | false =>
        simp only [Bool.false_eq_true, if_false] at q9 ⊢
        exact fin I9 q9
      | true =>
        simp only [if_true] at q9 ⊢
        refine thnF (pe.run _ s9 σ8 H9 _ I9 q9) fun z s10 h10 => ?_
        obtain ⟨yv, H10, I10, r10, acc, hD10, hz10, nx⟩ := h10
        exact app_ok (X := X.blk s3 H3 scope ce fp) I10 hD10 hz10 r10 fun s11 I11 => fin I11 nx
  exact codeAny_compStart_list loop (T.self X.A 0 _ _ _ st4 loop)

/-! ### told -/
/-- the body of told: try: return a(), except e: return a text -/
theorem told_body {Ng : List Str} {x a e ret : Str} {sg : Scope} {g f CS : Addr} {cdg : Value} {A : Around} {st : List Env} {s : Shared} {H : Hp} {Q : VK} {tl : XK → Hp → VK → Prop} {Pre : Hp → Prop} {j : Nat} {p1 p2 p3 p4 p5 p6 p7 p8 : Pos}
    (hge : sg.names.lookup e = some .globalImplicit) (hme : X.mg e = some (.ref CS)) (hde : (e == ("__debug__" : Str)) = false) (h0 : ∀ f : Addr, (L2.start Ng [V.ref f])[0]? = some (some (V.ref f)))
    (act : ∀ (W : WX) (pn : List (Addr × Obj)) (xe : Value → Shared → Prop) (E : XK), Takes ((cxOf C8.CX0 X.prog X.w X.K X.mg X.base Ng x sg g cdg A st s H C8.E0).tr pn xe) W → (∀ cls d σ' H', E cls d H' → W cls d σ' H') →
      PE ((cxOf C8.CX0 X.prog X.w X.K X.mg X.base Ng x sg g cdg A st s H C8.E0).tr pn xe) (.Call (.Name a p1) [] [] p2) (fun σZ HZ Q => σZ[0]? = some (some (.ref f)) ∧ Pre HZ ∧ tl E HZ Q)) (hp : Pre H) (h : TTold X.K CS ret tl H Q) :
    ∃ t, PSs (cxOf C8.CX0 X.prog X.w X.K X.mg X.base Ng x sg g cdg A st s H C8.E0).nox [.Try [.Return (some (.Call (.Name a p1) [] [] p2)) p3] [.ExceptHandler (some (.Name e p4)) none [.Return (some (.Constant (.str ret) j p5)) p6] p7] [] [] p8] t ∧
      t { nx := fun _ H' => Q .non H', rt := Q } (L2.start Ng [.ref f]) H := by
  have hgl : Gl (cxOf C8.CX0 X.prog X.w X.K X.mg X.base Ng x sg g cdg A st s H C8.E0).nox e := hge
  refine ⟨_, pss_one (ps_try_only (X := (cxOf C8.CX0 X.prog X.w X.K X.mg X.base Ng x sg g cdg A st s H C8.E0).nox) (c := .ref CS)
      (tb := fun W D σ H => ∃ Ech : XK, (∀ cls d σ' H', Ech cls d H' → W cls d σ' H') ∧ σ[0]? = some (some (.ref f)) ∧ Pre H ∧ tl Ech H D.rt)
      rfl rfl ⟨hgl, hde, .inl hme⟩ LamX.takes0 (fun W pn xe tk _ => ?_) (fun a oe cls d pn _ _ => pss_one (ps_ret pe_str))), ?_⟩
  · refine ⟨fun pins s' σ H' D I h' => ?_⟩
    obtain ⟨Ech, hW, h1, h2, h3⟩ := h'
    have hq := pss_one (ps_ret (pos := p3) (act W pn xe Ech tk hW))
    exact hq.run pins s' σ H' D I ⟨h1, h2, h3⟩
  · exact ⟨fun cls _ H' => ∃ b, PySem.W.exmOne X.K cls (.ref CS) = some b ∧ (b = true → Q (.str ret) H') ∧ (b = false → False), fun cls d σ' H' ⟨b, e1, e2, e3⟩ => ⟨b, e1, fun hb a _ => e2 hb, fun hb => e3 hb⟩, h0 f, hp, h⟩

/-- told(f), f one of the lambdas KL that X made -/
def tTold (KL : List (LamD × (XK → TE))) (cells : List (Str × Addr)) (q : Str) (K : PySem.W.Frag) (CS : Addr) (ret : Str) (j : Nat) (vs : List Nat) : TE := fun σ H Q =>
  ∃ f c' L t, (L, t) ∈ KL ∧ σ[j]? = some (some (.ref f)) ∧ H f = some (LamO cells q L c' f) ∧ H c' = some (CodeO c' q) ∧ TTold K CS ret (fun E H' Q' => t E (wipe σ vs) H' Q') H Q
theorem pe_toldB {KL : List (LamD × (XK → TE))} {s3 : Shared} {H3 : Hp} {scope : Scope} {cenv : Env} {fp : List Addr} {pins : List (Addr × Obj)} {σ : L2.St} {vs : List Nat} {x a e ret y : Str} {g CS : Addr} {k jj j : Nat} {pg : Arguments} {sg : Scope} {dV kV doc pm cdv ct oc : Value} {an od : Option Addr} {osl : Array (Option Value)} {Ng : List Str}
    {p1 p2 p3 p4 p5 p6 p7 p8 q1 q2 q3 : Pos} (I3 : Inv X pins σ H3 s3) (hfp : ∀ b ∈ fp, ∀ x c, X.env.cells.lookup x = some c → c ≠ b) (hKL : ∀ L t, (L, t) ∈ KL → LamT X k L t) (hr : Room (k + 2) X.A)
    (hg : Gl (X.blk s3 H3 scope cenv fp) x) (hm : X.mg x = some (.ref g)) (hk : PySem.W.keepIn X.K (.ref g) = true)
    (lk : X.K.lookup g = some ⟨oc, od, .func (PySem.W.fnOf x x pg [.Try [.Return (some (.Call (.Name a p1) [] [] p2)) p3] [.ExceptHandler (some (.Name e p4)) none [.Return (some (.Constant (.str ret) jj p5)) p6] p7] [] [] p8] sg dV kV doc pm an cdv ct), osl⟩)
    (hcg : PySem.W.codeIn X.K cdv x = true) (hb : L2.Binds X.K (PySem.W.fnOf x x pg [.Try [.Return (some (.Call (.Name a p1) [] [] p2)) p3] [.ExceptHandler (some (.Name e p4)) none [.Return (some (.Constant (.str ret) jj p5)) p6] p7] [] [] p8] sg dV kV doc pm an cdv ct) [a] []) (Sg : FnScope Ng [a] sg) (hNg : Ng[0]? = some a) (hva : Vis sg a)
    (hge : sg.names.lookup e = some .globalImplicit) (hme : X.mg e = some (.ref CS)) (h0 : ∀ f : Addr, (L2.start Ng [V.ref f])[0]? = some (some (V.ref f)))
    (hNy : X.N[j]? = some y) (hvy : Vis cenv.scope y) (hde : (e == ("__debug__" : Str)) = false := by decide)
    (hdb : (x == ("__debug__" : Str)) = false := by decide) (hd : (a == ("__debug__" : Str)) = false := by decide) (hcd : (a == ("__classdict__" : Str)) = false := by decide) (hdy : (y == ("__debug__" : Str)) = false := by decide) (hcy : (y == ("__classdict__" : Str)) = false := by decide)
    (hst : starEach [Expr.Name y q2] cenv = (false, eval (.Name y q2) cenv) :: starEach [] cenv := by rfl) :
    PE (X.blk s3 H3 scope cenv fp) (.Call (.Name x q1) [.Name y q2] [] q3) (fun σB HB Q => wipe σB vs = wipe σ vs ∧ tTold KL X.env.cells (X.env.qual ++ "<lambda>") X.K CS ret j vs σB HB Q) := by
  refine ⟨fun pinsB sB σB HB Q IB h => ?_⟩
  obtain ⟨hw, f, c', L, t, hm1, hj, hf, hc, hT⟩ := h
  have LT := hKL L t hm1
  have I3w : Inv X pins (wipe σB vs) H3 s3 := by
    rw [hw]
    exact I3.weak (wipe_length _ _) fun i v e => (wipe_some e).1
  refine wpAny_Call_Name_kw (ld_glob IB hg hm ?_ hdb)
  have hpa : PA (X.blk s3 H3 scope cenv fp) [Expr.Name y q2] (tCons (tVar j) tNil) := pa_cons (pe_var hNy hvy hdy hcy) pa_nil hst
  refine PySem.W.callWith_K (h₀ := X.base) IB.ok.mod.kin hk (thn (hpa.run q3 pinsB sB σB HB (fun vs1 H1 => vs1 = [V.ref f] ∧ H1 = HB) IB ⟨_, hj, rfl, rfl⟩) fun us s1 hh => ?_) hst (by rfl)
  obtain ⟨vs1, H1, I1, r1, ev, eH⟩ := hh
  subst ev
  rw [eH] at I1
  refine ⟨I1.kIn, ?_⟩
  obtain ⟨u, rfl, ru⟩ := vals1 r1
  obtain rfl : u = Value.ref f := ru
  have un : Un (X.blk s3 H3 scope cenv fp).fs fp H3 HB s3.heap s1.heap := I1.base
  have rc : codeAny (model X.prog X.w) X.A (.call (.ref g) ⟨[.ref f], []⟩) (CR C8.CX0 X.stack X.prog X.w HB s1 Q C8.E0) s1 := by
    refine run_ofS (N := Ng) (ps := [a]) (us := [.ref f]) (vs := [.ref f]) lk hcg Sg hr I1.env0 (hb s1 [.ref f] I1.kIn rfl) (.cons rfl .nil) rfl fun hr' => ?_
    obtain ⟨tq, htq, hq'⟩ := told_body (X := X) (Ng := Ng) (x := x) (A := X.A) (st := X.stack) (s := s1) (H := HB) (f := f) (CS := CS) (cdg := cdv) (g := g) (Q := Q) (p1 := p1) (p2 := p2) (p3 := p3) (p4 := p4) (p5 := p5) (p6 := p6) (p7 := p7) (p8 := p8) (j := jj)
      (Pre := fun HZ => HZ f = some (LamO X.env.cells (X.env.qual ++ "<lambda>") L c' f) ∧ HZ c' = some (CodeO c' (X.env.qual ++ "<lambda>"))) (tl := fun E H' Q' => t E (wipe σB vs) H' Q') hge hme hde h0
      (fun W pn xe E tk hW => by
        have hp := pe_actB (p1 := p1) (p2 := p2) (i := 0) (f := f) (c' := c') I3w LT un hfp tk hW hr' hNg hva hd hcd
        exact ⟨fun pz sz σz Hz Qz Iz hz => hp.run pz sz σz Hz Qz Iz ⟨hz.1, hz.2.1.1, hz.2.1.2, hz.2.2⟩⟩) ⟨hf, hc⟩ hT
    exact ⟨tq, htq.nox, hq'⟩
  refine wpAny_call (codeAny_mono rc fun r s2 hq => ?_)
  cases r with
  | error e => exact (show False from hq).elim
  | ok fl =>
    cases fl with
    | ret u => exact I1.after hq
    | next => exact False.elim hq
    | brk => exact False.elim hq
    | cont => exact False.elim hq
end
end ML

set_option linter.all false
/-! Plain mathematics of rules of years: counting, the last rule that applies. -/
namespace MM
/-- how many below y -/
def cn (p : Nat → Bool) : Nat → Nat
  | 0 => 0
  | y + 1 => cn p y + if p y = true then 1 else 0
theorem cn_congr {p q : Nat → Bool} : ∀ {y : Nat}, (∀ k, k < y → p k = q k) → cn p y = cn q y
  | 0, _ => rfl
  | y + 1, h => by
    unfold cn
    rw [cn_congr (y := y) fun k hk => h k (by omega), h y (by omega)]
theorem cn_or {p q r : Nat → Bool} (h : ∀ k, r k = (p k || q k)) (hd : ∀ k, ¬ (p k = true ∧ q k = true)) : ∀ y, cn r y = cn p y + cn q y
  | 0 => rfl
  | y + 1 => by
    unfold cn
    rw [cn_or h hd y, h y]
    have := hd y
    cases hp : p y <;> cases hq : q y <;> simp_all <;> omega
theorem cn_false : ∀ y, cn (fun _ => false) y = 0
  | 0 => rfl
  | y + 1 => by
    unfold cn
    rw [cn_false y]
    rfl
theorem cn_le (p : Nat → Bool) : ∀ y, cn p y ≤ y
  | 0 => Nat.le_refl _
  | y + 1 => by
    unfold cn
    have := cn_le p y
    split <;> omega
theorem cn_mono (p : Nat → Bool) {a b : Nat} (h : a ≤ b) : cn p a ≤ cn p b := by
  induction b with
  | zero =>
    have : a = 0 := by omega
    subst this
    exact Nat.le_refl _
  | succ b ih =>
    by_cases e : a = b + 1
    · subst e; exact Nat.le_refl _
    · have := ih (by omega)
      show _ ≤ cn p b + _
      omega
/-- the multiples of n below y -/
theorem cn_dvd (n : Nat) (hn : 0 < n) : ∀ y, cn (fun k => decide (n ∣ k)) y = (y + n - 1) / n
  | 0 => by
    show 0 = _
    rw [Nat.div_eq_of_lt (by omega)]
  | y + 1 => by
    show cn (fun k => decide (n ∣ k)) y + _ = _
    rw [cn_dvd n hn y]
    by_cases h : n ∣ y
    · obtain ⟨c, rfl⟩ := h
      rw [if_pos (decide_eq_true (Nat.dvd_mul_right n c))]
      have e1 : n * c + 1 + n - 1 = n * (c + 1) := by rw [Nat.mul_add]; omega
      rw [e1, Nat.mul_div_cancel_left _ hn]
      have e2 : n * c + n - 1 = (n - 1) + n * c := by omega
      rw [e2, Nat.add_mul_div_left _ _ hn, Nat.div_eq_of_lt (by omega)]
      omega
    · rw [if_neg (by simpa using h)]
      have hm : 0 < y % n := Nat.pos_of_ne_zero fun e => h (Nat.dvd_of_mod_eq_zero e)
      have hml : y % n < n := Nat.mod_lt _ hn
      have hy := Nat.div_add_mod y n
      generalize y / n = q at hy
      generalize y % n = r at *
      have e1 : y + n - 1 = (r - 1) + n * (q + 1) := by rw [Nat.mul_add]; omega
      have e2 : y + 1 + n - 1 = r + n * (q + 1) := by rw [Nat.mul_add]; omega
      rw [e1, e2, Nat.add_mul_div_left _ _ hn, Nat.add_mul_div_left _ _ hn, Nat.div_eq_of_lt (by omega), Nat.div_eq_of_lt hml, Nat.add_zero]

abbrev Rules := List (Nat × Bool)
def isLong (rs : Rules) (y : Nat) : Bool := rs.foldl (fun f r => if y % r.1 = 0 then r.2 else f) false
theorem isLong_snoc {rs : Rules} {i : Nat} {r : Nat × Bool} (h : rs[i]? = some r) (y : Nat) : isLong (rs.take (i + 1)) y = if y % r.1 = 0 then r.2 else isLong (rs.take i) y := by
  unfold isLong
  rw [List.take_add_one, h, List.foldl_append]
  rfl
/-- no rule of rs goes into k -/
def free (rs : Rules) (k : Nat) : Bool := rs.all fun r => !decide (r.1 ∣ k)
theorem fold_free : ∀ (rs : Rules) (k : Nat) (f : Bool), rs.foldl (fun f r => if k % r.1 = 0 then r.2 else f) f = if free rs k = true then f else isLong rs k
  | [], _, _ => rfl
  | r :: rs, k, f => by
    unfold isLong
    rw [List.foldl_cons, List.foldl_cons, fold_free rs k (if k % r.1 = 0 then r.2 else f), fold_free rs k (if k % r.1 = 0 then r.2 else false)]
    have e : free (r :: rs) k = (!decide (r.1 ∣ k) && free rs k) := rfl
    rw [e]
    by_cases h : k % r.1 = 0
    · have h2 : r.1 ∣ k := Nat.dvd_of_mod_eq_zero h
      simp [h, h2]
    · have h2 : ¬ r.1 ∣ k := fun z => h (Nat.mod_eq_zero_of_dvd z)
      simp [h, h2]
      cases free rs k <;> simp
theorem isLong_free {rs : Rules} {k : Nat} (h : free rs k = true) : isLong rs k = false := by
  have := fold_free rs k false
  rw [h] at this
  exact this
/-- multiples of n that no rule of rs goes into, below y -/
def G (n : Nat) (rs : Rules) (y : Nat) : Nat := cn (fun k => decide (n ∣ k) && free rs k) y
/-- by rules: those that each decides -/
def S : Rules → Nat → Nat
  | [], _ => 0
  | r :: rs, y => (if r.2 = true then G r.1 rs y else 0) + S rs y
theorem cn_long : ∀ (rs : Rules) (y : Nat), cn (isLong rs) y = S rs y
  | [], y => cn_false y
  | r :: rs, y => by
    unfold S
    rw [← cn_long rs y]
    have e : ∀ k, isLong (r :: rs) k = ((r.2 && (decide (r.1 ∣ k) && free rs k)) || isLong rs k) := fun k => by
      show rs.foldl _ (if k % r.1 = 0 then r.2 else false) = _
      rw [fold_free]
      by_cases h : k % r.1 = 0
      · have h2 : r.1 ∣ k := Nat.dvd_of_mod_eq_zero h
        cases hf : free rs k
        · simp [h, h2]
        · simp [h, h2, isLong_free hf]
      · have h2 : ¬ r.1 ∣ k := fun z => h (Nat.mod_eq_zero_of_dvd z)
        cases hf : free rs k
        · simp [h, h2]
        · simp [h, h2, isLong_free hf]
    rw [cn_or e (fun k ⟨h1, h2⟩ => by
      simp only [Bool.and_eq_true] at h1
      rw [isLong_free h1.2.2] at h2
      cases h2) y]
    congr 1
    cases hr : r.2
    · simp only [Bool.false_and]
      rw [cn_false]
      rfl
    · simp only [Bool.true_and]
      rfl
/-- what pushing the later rules leaves -/
def E (n : Nat) : Rules → Nat → Nat
  | [], _ => 0
  | r :: rs, y => G (Nat.lcm n r.1) rs y + E n rs y
theorem G_E (n : Nat) (hn : 0 < n) : ∀ (rs : Rules) (y : Nat), G n rs y + E n rs y = (y + n - 1) / n
  | [], y => by
    show G n [] y + 0 = _
    rw [← cn_dvd n hn y]
    unfold G
    rw [Nat.add_zero]
    exact cn_congr fun k _ => by simp [free]
  | r :: rs, y => by
    show G n (r :: rs) y + (G (Nat.lcm n r.1) rs y + E n rs y) = _
    rw [← G_E n hn rs y, ← Nat.add_assoc]
    congr 1
    refine (cn_or (r := fun k => decide (n ∣ k) && free rs k) (fun k => ?_) (fun k ⟨h1, h2⟩ => ?_) y).symm
    · have e : free (r :: rs) k = (!decide (r.1 ∣ k) && free rs k) := rfl
      have e2 : decide (Nat.lcm n r.1 ∣ k) = (decide (n ∣ k) && decide (r.1 ∣ k)) := by
        by_cases h1 : n ∣ k <;> by_cases h2 : r.1 ∣ k <;> simp [h1, h2, Nat.lcm_dvd_iff]
      rw [e, e2]
      cases decide (n ∣ k) <;> cases decide (r.1 ∣ k) <;> cases free rs k <;> rfl
    · have e : free (r :: rs) k = (!decide (r.1 ∣ k) && free rs k) := rfl
      rw [e] at h1
      simp only [Bool.and_eq_true, decide_eq_true_eq, Bool.not_eq_true', decide_eq_false_iff_not] at h1 h2
      exact h1.2.1 (Nat.dvd_trans (Nat.dvd_lcm_right n r.1) h2.1)
/-- what the rule at a place decides -/
def turnedV (rs : Rules) (i y : Nat) : Nat := match rs[i]? with
  | some r => if r.2 = true then G r.1 (rs.drop (i + 1)) y else 0
  | none => 0
theorem S_drop (rs : Rules) (y : Nat) {i : Nat} (h : i < rs.length) : S (rs.drop i) y = turnedV rs i y + S (rs.drop (i + 1)) y := by
  rw [List.drop_eq_getElem_cons h]
  unfold turnedV
  rw [List.getElem?_eq_getElem h]
  rfl
theorem E_drop (n : Nat) (rs : Rules) (y : Nat) {i : Nat} {r : Nat × Bool} (h : rs[i]? = some r) : E n (rs.drop i) y = G (Nat.lcm n r.1) (rs.drop (i + 1)) y + E n (rs.drop (i + 1)) y := by
  obtain ⟨hi, e⟩ := List.getElem?_eq_some_iff.mp h
  rw [List.drop_eq_getElem_cons hi, e]
  rfl
/-- the least number that all rules go into -/
def lcmA (rs : Rules) : Nat := rs.foldl (fun f r => Nat.lcm f r.1) 1
theorem lcmA_snoc {rs : Rules} {i : Nat} {r : Nat × Bool} (h : rs[i]? = some r) : lcmA (rs.take (i + 1)) = Nat.lcm (lcmA (rs.take i)) r.1 := by
  unfold lcmA
  rw [List.take_add_one, h, List.foldl_append]
  rfl
theorem lcm_fold : ∀ (rs : Rules) (f m : Nat), rs.foldl (fun f r => Nat.lcm f r.1) f ∣ m ↔ f ∣ m ∧ ∀ r ∈ rs, r.1 ∣ m
  | [], f, m => by simp
  | r :: rs, f, m => by
    rw [List.foldl_cons, lcm_fold rs, Nat.lcm_dvd_iff]
    simp only [List.mem_cons, forall_eq_or_imp]
    exact and_assoc
theorem lcmA_dvd (rs : Rules) (m : Nat) : lcmA rs ∣ m ↔ ∀ r ∈ rs, r.1 ∣ m := by
  unfold lcmA
  rw [lcm_fold]
  simp
theorem dvd_lcmA {rs : Rules} {r : Nat × Bool} (h : r ∈ rs) : r.1 ∣ lcmA rs := (lcmA_dvd rs _).mp (Nat.dvd_refl _) r h
theorem lcm_fold_pos : ∀ (rs : Rules) (f : Nat), 0 < f → (∀ r ∈ rs, 0 < r.1) → 0 < rs.foldl (fun f r => Nat.lcm f r.1) f
  | [], f, h, _ => h
  | r :: rs, f, h, hr => by
    rw [List.foldl_cons]
    exact lcm_fold_pos rs _ (Nat.lcm_pos h (hr r List.mem_cons_self)) fun x hx => hr x (List.mem_cons_of_mem _ hx)
theorem lcmA_pos {rs : Rules} (h : ∀ r ∈ rs, 0 < r.1) : 0 < lcmA rs := lcm_fold_pos rs 1 Nat.one_pos h
theorem lcmA_take_dvd (rs : Rules) (i : Nat) : lcmA (rs.take i) ∣ lcmA rs := (lcmA_dvd _ _).mpr fun r hr => dvd_lcmA (List.mem_of_mem_take hr)
/-- days before a year -/
def db (rs : Rules) (s y : Nat) : Nat := s * y + cn (isLong rs) y
theorem db_succ (rs : Rules) (s y : Nat) : db rs s (y + 1) = db rs s y + s + if isLong rs y = true then 1 else 0 := by
  show s * (y + 1) + (cn (isLong rs) y + _) = s * y + cn (isLong rs) y + s + _
  rw [Nat.mul_succ]
  omega
theorem db_lt (rs : Rules) {s : Nat} (hs : 0 < s) {a b : Nat} (h : a < b) : db rs s a < db rs s b := by
  unfold db
  have h1 := cn_mono (isLong rs) (Nat.le_of_lt h)
  have h2 : s * a < s * b := Nat.mul_lt_mul_of_pos_left h hs
  omega
theorem db_le (rs : Rules) {s : Nat} (hs : 0 < s) {a b : Nat} (h : a ≤ b) : db rs s a ≤ db rs s b := by
  rcases Nat.lt_or_eq_of_le h with h | h
  · exact Nat.le_of_lt (db_lt rs hs h)
  · rw [h]; exact Nat.le_refl _
/-- the year of a day is one -/
theorem yr_one (rs : Rules) {s : Nat} (hs : 0 < s) {a b d : Nat} (h1 : db rs s a ≤ d) (h2 : d < db rs s (a + 1)) (h3 : db rs s b ≤ d) (h4 : d < db rs s (b + 1)) : a = b := by
  rcases Nat.lt_trichotomy a b with h | h | h
  · have := db_le rs hs (show a + 1 ≤ b from h)
    omega
  · exact h
  · have := db_le rs hs (show b + 1 ≤ a from h)
    omega
end MM
namespace MM
/-! ### the best rules -/
/-- the first least of f over 0 .. k -/
def am (f : Nat → Nat) : Nat → Nat
  | 0 => 0
  | k + 1 => if f (k + 1) < f (am f k) then k + 1 else am f k
theorem am_le (f : Nat → Nat) : ∀ k, am f k ≤ k
  | 0 => Nat.le_refl _
  | k + 1 => by
    unfold am
    have := am_le f k
    split <;> omega
def offF (d y one s : Nat) : Nat := ((d : Int) * one - (s : Int) * y).natAbs
theorem offF_lo {d y one s : Nat} (h : s * y ≤ d * one) : offF d y one s = d * one - s * y := by
  unfold offF
  have e1 : ((d : Int) * (one : Int)) = ((d * one : Nat) : Int) := (Int.natCast_mul _ _).symm
  have e2 : ((s : Int) * (y : Int)) = ((s * y : Nat) : Int) := (Int.natCast_mul _ _).symm
  rw [e1, e2]
  omega
theorem offF_hi {d y one s : Nat} (h : d * one ≤ s * y) : offF d y one s = s * y - d * one := by
  unfold offF
  have e1 : ((d : Int) * (one : Int)) = ((d * one : Nat) : Int) := (Int.natCast_mul _ _).symm
  have e2 : ((s : Int) * (y : Int)) = ((s * y : Nat) : Int) := (Int.natCast_mul _ _).symm
  rw [e1, e2]
  omega
/-- which of low and the next one -/
def pick (d y one : Nat) : Nat := if offF d y one (d * one / y + 1) < offF d y one (d * one / y) then d * one / y + 1 else d * one / y
section
variable {d y one : Nat} (hy : 0 < y)
include hy
theorem low_le {s : Nat} (h : s ≤ d * one / y) : s * y ≤ d * one := (Nat.le_div_iff_mul_le hy).mp h
theorem low_gt {s : Nat} (h : d * one / y < s) : d * one < s * y := (Nat.div_lt_iff_lt_mul hy).mp h
theorem am_low : ∀ k, k ≤ d * one / y → am (offF d y one) k = k
  | 0, _ => rfl
  | k + 1, h => by
    unfold am
    rw [am_low k (by omega), if_pos]
    rw [offF_lo (low_le hy h), offF_lo (low_le hy (s := k) (by omega))]
    have h1 := low_le hy h
    rw [Nat.succ_mul] at h1 ⊢
    omega
theorem pick_or : pick d y one = d * one / y ∨ pick d y one = d * one / y + 1 := by
  unfold pick
  split
  · exact .inr rfl
  · exact .inl rfl
theorem pick_le : offF d y one (pick d y one) ≤ offF d y one (d * one / y) ∧ offF d y one (pick d y one) ≤ offF d y one (d * one / y + 1) := by
  unfold pick
  split <;> omega
theorem am_high : ∀ k, d * one / y < k → am (offF d y one) k = pick d y one
  | 0, h => absurd h (Nat.not_lt_zero _)
  | k + 1, h => by
    unfold am
    by_cases e : k = d * one / y
    · rw [e, am_low hy _ (Nat.le_refl _)]
      rfl
    · have hk : d * one / y < k := by omega
      rw [am_high k hk, if_neg]
      have h1 := (pick_le hy (d := d) (one := one)).2
      have h2 : offF d y one (d * one / y + 1) ≤ offF d y one (k + 1) := by
        have g1 := low_gt hy (d := d) (one := one) (s := d * one / y + 1) (by omega)
        have g2 := low_gt hy (d := d) (one := one) (s := k + 1) (by omega)
        rw [offF_hi (Nat.le_of_lt g1), offF_hi (Nat.le_of_lt g2)]
        have g3 : (d * one / y + 1) * y ≤ (k + 1) * y := Nat.mul_le_mul_right _ (by omega)
        omega
      omega
/-- all candidates of a cycle: the least of low and the next one -/
theorem am_pick (hd : d ≤ y) : am (offF d y one) one = pick d y one := by
  have hl : d * one / y ≤ one := by
    refine Nat.div_le_of_le_mul ?_
    exact Nat.mul_le_mul_right one hd
  by_cases h : d * one / y < one
  · exact am_high hy one h
  · have e : d * one / y = one := by omega
    have hz : pick d y one = d * one / y := by
      unfold pick
      rw [if_neg]
      have g1 := low_le hy (d := d) (one := one) (Nat.le_refl _)
      have g2 := low_gt hy (d := d) (one := one) (s := d * one / y + 1) (by omega)
      have g3 : d * one ≤ y * one := Nat.mul_le_mul_right one hd
      rw [offF_lo g1, e]
      have g4 : one * y = y * one := Nat.mul_comm _ _
      omega
    rw [hz, e, am_low hy one (by omega)]
end
/-- (off, longs, cycle) after a candidate -/
abbrev Bs := Option (Nat × Nat × Nat)
def better (b : Bs) (o c : Nat) : Bool := match b with
  | none => true
  | some (o', _, c') => decide (o * c' < o' * c)
def upB (b : Bs) (o s c : Nat) : Bs := if better b o c = true then some (o, s, c) else b
theorem better_mono {b : Bs} {o o' c : Nat} (h : o' ≤ o) (hb : better b o c = true) : better b o' c = true := by
  unfold better at *
  cases b with
  | none => rfl
  | some x =>
    obtain ⟨p, q, r⟩ := x
    simp only [decide_eq_true_eq] at *
    have := Nat.mul_le_mul_right r h
    omega
/-- one more candidate of the same cycle -/
theorem upB_step (b : Bs) (f : Nat → Nat) (c k : Nat) (hc : 0 < c) (a : Nat) : upB (upB b (f a) a c) (f k) k c = upB b (f (if f k < f a then k else a)) (if f k < f a then k else a) c := by
  unfold upB
  by_cases h : better b (f a) c = true
  · rw [if_pos h]
    by_cases hk : f k < f a
    · have h2 : better b (f k) c = true := better_mono (Nat.le_of_lt hk) h
      have h3 : better (some (f a, a, c)) (f k) c = true := by
        show decide (f k * c < f a * c) = true
        exact decide_eq_true (Nat.mul_lt_mul_of_pos_right hk hc)
      rw [if_pos h3, if_pos hk, if_pos h2]
    · have h3 : ¬ better (some (f a, a, c)) (f k) c = true := by
        show ¬ decide (f k * c < f a * c) = true
        have := Nat.mul_le_mul_right c (Nat.le_of_not_lt hk)
        simp only [decide_eq_true_eq]
        omega
      rw [if_neg h3, if_neg hk, if_pos h]
  · rw [if_neg h]
    by_cases hk : f k < f a
    · rw [if_pos hk]
    · rw [if_neg hk, if_neg h, if_neg fun z => h (better_mono (Nat.le_of_not_lt hk) z)]
/-- after all candidates of the cycles 1 .. m -/
def bst (d y : Nat) : Nat → Bs
  | 0 => none
  | m + 1 => upB (bst d y m) (offF d y (m + 1) (pick d y (m + 1))) (pick d y (m + 1)) (m + 1)
/-- the cycle's candidates one by one: 0 .. k -/
def upTo (b : Bs) (d y c : Nat) : Nat → Bs
  | 0 => upB b (offF d y c 0) 0 c
  | k + 1 => upB (upTo b d y c k) (offF d y c (k + 1)) (k + 1) c
theorem upTo_am (b : Bs) (d y c : Nat) (hc : 0 < c) : ∀ k, upTo b d y c k = upB b (offF d y c (am (offF d y c) k)) (am (offF d y c) k) c
  | 0 => rfl
  | k + 1 => by
    unfold upTo
    rw [upTo_am b d y c hc k, upB_step b (offF d y c) c (k + 1) hc (am (offF d y c) k)]
    rfl
theorem bst_all {d y : Nat} (hy : 0 < y) (hd : d ≤ y) (m : Nat) : upTo (bst d y m) d y (m + 1) (m + 1) = bst d y (m + 1) := by
  rw [upTo_am _ _ _ _ (Nat.succ_pos m), am_pick hy hd]
  rfl
theorem bst_two (d y m : Nat) : upB (upB (bst d y m) (offF d y (m + 1) (d * (m + 1) / y)) (d * (m + 1) / y) (m + 1)) (offF d y (m + 1) (d * (m + 1) / y + 1)) (d * (m + 1) / y + 1) (m + 1) = bst d y (m + 1) :=
  upB_step _ (offF d y (m + 1)) (m + 1) _ (Nat.succ_pos m) _
theorem bst_some (d y : Nat) : ∀ m, 0 < m → ∃ o s c, bst d y m = some (o, s, c) ∧ 0 < c ∧ c ≤ m
  | 0, h => by omega
  | m + 1, _ => by
    unfold bst upB
    split
    · exact ⟨_, _, _, rfl, by omega, by omega⟩
    · rename_i h
      cases m with
      | zero => exact absurd rfl h
      | succ m =>
        obtain ⟨o, s, c, e, h1, h2⟩ := bst_some d y (m + 1) (by omega)
        exact ⟨o, s, c, e, h1, by omega⟩
end MM
namespace MM
/-! ### dividing out -/
/-- p, w came from P, W by dividing out; no k of 2 .. n - 1 goes into both -/
structure Red (P W p w n : Nat) : Prop where
  ex : ∃ t, 0 < t ∧ P = p * t ∧ W = w * t
  w0 : 0 < w
  no : ∀ k, 2 ≤ k → k < n → ¬ (k ∣ p ∧ k ∣ w)
theorem Red.step {P W p w n : Nat} (h : Red P W p w n) {k : Nat} (hk : 2 ≤ k) (h1 : k ∣ p) (h2 : k ∣ w) : Red P W (p / k) (w / k) n ∧ w / k < w := by
  obtain ⟨t, ht, e1, e2⟩ := h.ex
  obtain ⟨a, rfl⟩ := h1
  obtain ⟨b, rfl⟩ := h2
  have hw := h.w0
  have hb : 0 < b := Nat.pos_of_ne_zero fun z => by subst z; simp at hw
  rw [Nat.mul_div_cancel_left _ (by omega), Nat.mul_div_cancel_left _ (by omega)]
  refine ⟨⟨⟨k * t, Nat.mul_pos (by omega) ht, ?_, ?_⟩, hb, fun j j1 j2 ⟨j3, j4⟩ => h.no j j1 j2 ⟨Nat.dvd_mul_left_of_dvd j3 k, Nat.dvd_mul_left_of_dvd j4 k⟩⟩, ?_⟩
  · rw [e1, Nat.mul_comm k a, Nat.mul_assoc]
  · rw [e2, Nat.mul_comm k b, Nat.mul_assoc]
  · have : 2 * b ≤ k * b := Nat.mul_le_mul_right b hk
    omega
theorem Red.next {P W p w n : Nat} (h : Red P W p w n) (hn : ¬ (n ∣ p ∧ n ∣ w)) : Red P W p w (n + 1) :=
  ⟨h.ex, h.w0, fun k k1 k2 z => by
    by_cases e : k = n
    · subst e; exact hn z
    · exact h.no k k1 (by omega) z⟩
theorem Red.done {P W p w n : Nat} (h : Red P W p w n) (hW : W < n) : p = P / Nat.gcd P W ∧ w = W / Nat.gcd P W := by
  obtain ⟨t, ht, e1, e2⟩ := h.ex
  have hwW : w ≤ W := by rw [e2]; exact Nat.le_mul_of_pos_right w ht
  have hg : Nat.gcd p w = 1 := by
    have g0 : 0 < Nat.gcd p w := Nat.gcd_pos_of_pos_right _ h.w0
    have gl : Nat.gcd p w ≤ w := Nat.le_of_dvd h.w0 (Nat.gcd_dvd_right _ _)
    by_cases e : Nat.gcd p w = 1
    · exact e
    · exact absurd ⟨Nat.gcd_dvd_left p w, Nat.gcd_dvd_right p w⟩ (h.no (Nat.gcd p w) (by omega) (by omega))
  have e3 : Nat.gcd P W = t := by rw [e1, e2, Nat.gcd_mul_right, hg, Nat.one_mul]
  rw [e3, e1, e2]
  exact ⟨(Nat.mul_div_cancel _ ht).symm, (Nat.mul_div_cancel _ ht).symm⟩
end MM

set_option Elab.async false
set_option linter.all false
set_option maxRecDepth 100000
set_option maxHeartbeats 2000000
/-! How heaps grow: what stays, what may change; facts of data. -/
namespace MB
open PySem PySem.Spec PyProof.Rows L2

/-- the tables of the law: gen for generator expressions, lam for lambdas -/
structure Tb where
  gen : List Addr
  lam : List (Addr × Str)
def Gd (T : Tb) (H : Hp) : Prop := (∀ p ∈ T.gen, GxR.TabG H p) ∧ ∀ p ∈ T.lam, LamX.TabS H p.1 p.2
def TOk (T : Tb) : Prop := ∀ p ∈ T.gen, ∀ q ∈ T.lam, q.1 ≠ p

/-- never written -/
def fixB : HO → Bool
  | .lst _ => false | .dK _ => false | .dT _ => false | .set _ _ => false | .tbl _ => false | .rng _ _ => false | .xd _ => false | .frz _ _ => false
  | _ => true
/-- H' comes after H: only what stands at M may have been written -/
structure Ext (T : Tb) (M : Addr → Prop) (H H' : Hp) : Prop where
  fix : ∀ b o, H b = some o → fixB o = true → H' b = some o
  lst : ∀ b xs, H b = some (.lst xs) → ¬ M b → H' b = some (.lst xs)
  dk : ∀ b xs, H b = some (.dK xs) → ¬ M b → H' b = some (.dK xs)
  frz : ∀ b o u, H b = some (.frz o u) → H' b = some (.frz o u)
  gd : Gd T H → Gd T H'
abbrev No : Addr → Prop := fun _ => False
section
variable {T : Tb} {M M' : Addr → Prop} {H H1 H2 : Hp}
theorem Ext.refl : Ext T M H H := ⟨fun _ _ h _ => h, fun _ _ h _ => h, fun _ _ h _ => h, fun _ _ _ h => h, id⟩
theorem Ext.trans (a : Ext T M H H1) (b : Ext T M H1 H2) : Ext T M H H2 :=
  ⟨fun c o h n => b.fix c o (a.fix c o h n) n, fun c o h n => b.lst c o (a.lst c o h n) n, fun c o h n => b.dk c o (a.dk c o h n) n, fun c o u h => b.frz c o u (a.frz c o u h), fun g => b.gd (a.gd g)⟩
theorem Ext.more (a : Ext T M H H1) (h : ∀ b, M b → M' b) : Ext T M' H H1 := ⟨a.fix, fun b xs e n => a.lst b xs e fun z => n (h b z), fun b xs e n => a.dk b xs e fun z => n (h b z), a.frz, a.gd⟩
theorem Ext.no (a : Ext T No H H1) : Ext T M H H1 := a.more fun _ z => z.elim
/-- nothing that may be written stands at b -/
def NoM (H : Hp) (b : Addr) : Prop := (∀ xs, H b ≠ some (.lst xs)) ∧ ∀ xs, H b ≠ some (.dK xs)
theorem NoM.of {b : Addr} (h : H b = none) : NoM H b := ⟨fun xs z => (by rw [h] at z; cases z), fun xs z => (by rw [h] at z; cases z)⟩
theorem NoM.back {b : Addr} (e : Ext T M H H1) (hM : ¬ M b) (h : NoM H1 b) : NoM H b := ⟨fun xs z => h.1 xs (e.lst b xs z hM), fun xs z => h.2 xs (e.dk b xs z hM)⟩
theorem Ext.fresh {b : Addr} (e : Ext T No H H1) (h : H1 b = none) : NoM H b := NoM.back e id (NoM.of h)
theorem Ext.mono {N : Addr → Prop} (a : Ext T M H H1) (h : ∀ b, M b → N b ∨ NoM H b) : Ext T N H H1 :=
  ⟨a.fix, fun b xs e n => a.lst b xs e fun z => (h b z).elim n fun q => q.1 xs e, fun b xs e n => a.dk b xs e fun z => (h b z).elim n fun q => q.2 xs e, a.frz, a.gd⟩
theorem Ext.mono1 {l : Addr} (a : Ext T (· = l) H H1) (h : NoM H l) : Ext T No H H1 := a.mono fun b z => .inr (by rw [z]; exact h)
theorem upd_keep {p a : Addr} {o x : HO} (hp : H p = none) (h : H a = some x) : upd H p o a = some x := by
  rw [upd_ne fun z => by subst z; rw [hp] at h; cases h]
  exact h
theorem Gd.keep (g : Gd T H) (k : ∀ b o, H b = some o → H1 b = some o) : Gd T H1 := ⟨fun p hp => let ⟨ps, e, t⟩ := g.1 p hp; ⟨ps, k _ _ e, t⟩, fun p hp => (g.2 p hp).ext k⟩
/-- a new object -/
theorem Ext.new {p : Addr} {o : HO} (hp : H p = none) : Ext T M H (upd H p o) :=
  ⟨fun _ _ h _ => upd_keep hp h, fun _ _ h _ => upd_keep hp h, fun _ _ h _ => upd_keep hp h, fun _ _ _ h => upd_keep hp h, fun g => g.keep fun _ _ h => upd_keep hp h⟩
theorem upd_mut {p a : Addr} {xs : List V} {o x : HO} (hp : H p = some (.lst xs)) (h : H a = some x) (n : ∀ ys, x ≠ .lst ys) : upd H p o a = some x := by
  rw [upd_ne fun z => by subst z; rw [hp] at h; exact n xs (Option.some.inj h).symm]
  exact h
/-- a list written -/
theorem Ext.set {p : Addr} {xs : List V} {o : HO} (hp : H p = some (.lst xs)) (hM : M p) : Ext T M H (upd H p o) := by
  refine ⟨fun b u h n => upd_mut hp h fun ys z => (by subst z; cases n), fun b ys h n => ?_, fun b ys h n => upd_mut hp h fun ys z => (nomatch z), fun b o' u h => upd_mut hp h fun ys z => (nomatch z), fun g => ⟨fun q hq => ?_, fun q hq => ?_⟩⟩
  · rw [upd_ne fun z => n (by rw [z]; exact hM)]
    exact h
  · obtain ⟨ps, e, t⟩ := g.1 q hq
    exact ⟨ps, upd_mut hp e fun ys z => (nomatch z), t⟩
  · obtain ⟨ps, e, t, h3⟩ := g.2 q hq
    refine ⟨ps, upd_mut hp e fun ys z => (nomatch z), t, fun pos cv hc => ?_⟩
    obtain ⟨c, e1, e2⟩ := h3 pos cv hc
    exact ⟨c, e1, upd_mut hp e2 fun ys z => (by unfold LamX.CodeO at z; cases z)⟩
/-- a table of generator expressions grown -/
theorem Ext.tab {p : Addr} (ok : TOk T) (hp : p ∈ T.gen) (t : GxR.TabG H p) (h : GxR.Tabbed p H H1) : Ext T M H H1 := by
  obtain ⟨h1, h2⟩ := h
  obtain ⟨ps, e0, t0⟩ := t
  have key : ∀ b o, H b = some o → (∀ ps, o ≠ .tbl ps) → H1 b = some o := fun b o e n => by
    rw [h2 b fun z => by subst z; rw [e0] at e; exact n ps (Option.some.inj e).symm]
    exact e
  refine ⟨fun b u h n => key b u h fun ys z => (by subst z; cases n), fun b ys h n => key b _ h fun ys z => (nomatch z), fun b ys h n => key b _ h fun ys z => (nomatch z), fun b o' u h => key b _ h fun ys z => (nomatch z), fun g => ⟨fun q hq => ?_, fun q hq => ?_⟩⟩
  · by_cases e : q = p
    · rw [e]; exact h1
    · obtain ⟨ps, e2, t2⟩ := g.1 q hq
      exact ⟨ps, by rw [h2 q e]; exact e2, t2⟩
  · obtain ⟨ps, e2, t2, h3⟩ := g.2 q hq
    refine ⟨ps, by rw [h2 q.1 (ok p hp q hq)]; exact e2, t2, fun pos cv hc => ?_⟩
    obtain ⟨c, e3, e4⟩ := h3 pos cv hc
    exact ⟨c, e3, key c _ e4 fun ys z => (by unfold LamX.CodeO at z; cases z)⟩
/-- what lambdas leave -/
theorem Ext.lamN (h : LamX.ExtN H H1) (hT : ∀ p ∈ T.gen, ∀ ps, H p = some (.tbl ps) → H1 p = some (.tbl ps)) (hL : LamX.Tabs T.lam H1) : Ext T M H H1 :=
  ⟨fun b u e n => h b u e fun ys z => (by subst z; cases n), fun b ys e n => h b _ e fun ys z => (nomatch z), fun b ys e n => h b _ e fun ys z => (nomatch z), fun b o u e => h b _ e fun ys z => (nomatch z),
    fun g => ⟨fun p hp => let ⟨ps, e, t⟩ := g.1 p hp; ⟨ps, hT p hp ps e, t⟩, hL⟩⟩
end

/-! ### the rule for a def whose code object is known -/
section
variable {P : Program} {w : World} {K : PySem.W.Frag} {mg : Str → Option Value} {base : Heap} {x qual : Str} {params : Arguments} {body : List Stmt} {scope : Scope} {dvs : List V} {kws : List (Str × V)} {fd : FuncData}
theorem FunD.okC {CX : CXT} {N ps : List Str} {k : Nat} {sp : Sp} {d : He.Defn} (F : FunD K x qual params body scope dvs kws (He.fAd K d) fd) (S : FnScope N ps scope) (len : ∀ vs H Q E, sp vs H Q E → vs.length = ps.length)
    (hbody : ∀ (A : Around) (outer : List Env) (s : Shared) (H : Hp) (vs : List V) (Q : VK) (E : XK), Room k (A.deeper (envOfC qual scope s.heap.objs.size (He.fAd K d) (.ref (He.cT K d).1))) → sp vs H Q E →
      ∃ t, PSs (cxOf CX P w K mg base N qual scope (He.fAd K d) (.ref (He.cT K d).1) A outer s H E) body t ∧ t { nx := fun _ H' => Q .non H', rt := Q } (start N vs) H) : FnOk P w K mg base CX (k + 1) (He.fAd K d) fd ps sp := by
  have F0 := F
  obtain ⟨oc, od, dV, kV, doc, pm, an, cdv, ct, osl, rfl, lk, hcd, _, _⟩ := F.ex
  obtain ⟨c, hc⟩ := He.codeIn_ref hcd
  have e : He.codeOf K d = c := He.codeOf_eq lk hc
  subst hc
  have e2 : (He.cT K d).1 = c := e
  refine fn_of lk hcd S len fun A outer s H vs Q E hr hsp => ?_
  rw [e2] at hbody
  exact hbody A outer s H vs Q E hr hsp
end
end MB
namespace MB
theorem ifB {c : Bool} {A B : Prop} (h1 : c = true → A) (h0 : c = false → B) : if c = true then A else B := by
  cases c with
  | true => exact h1 rfl
  | false => exact h0 rfl
end MB
namespace MB
open PySem PySem.Spec PyProof.Rows L2
/-! ### a list or a tuple, walked by for -/
def Its2 (K : PySem.W.Frag) (a : Addr) (J : It) (H : Hp) : Prop := ((∃ xs, SqL K H a xs) ∧ J = Itl K a) ∨ ((∃ xs, SqT K H a xs) ∧ J = Itt K a)
def iSeq (K : PySem.W.Frag) (tl : TE) : TI := fun σ H R => tl σ H fun x H1 => ∃ a, x = .ref a ∧ (((∃ xs, SqL K H1 a xs) ∧ R (Itl K a) H1) ∨ ((∃ xs, SqT K H1 a xs) ∧ R (Itt K a) H1))
section
variable {X : Cx}
theorem pi_seq {tg l : Expr} {tl : TE} (hl : PE X l tl) : PI X tg l (iSeq X.K tl) := by
  refine ⟨fun pins s σ H R I h => ?_⟩
  refine thn (hl.run pins s σ H _ I h) fun v s1 ⟨x, H1, I1, r1, q1⟩ => ?_
  obtain ⟨a, e, q1⟩ := q1
  subst e
  cases r1
  have key : ∀ b ∈ [s1.heap.objs.size], FpOk X pins H1 b := fun b hb => by
    have e : b = s1.heap.objs.size := by simpa using hb
    subst e
    exact I1.fpOk (Nat.le_refl _) (I1.hok.fresh (Nat.le_refl _))
  rcases q1 with ⟨⟨xs, hq⟩, q⟩ | ⟨⟨xs, hq⟩, q⟩
  · obtain ⟨its, rv, p, hz⟩ := I1.list hq
    refine wpAny_pyIter_list p.isList ?_
    exact ⟨s1.heap.objs.size, [s1.heap.objs.size], _, _, H1, rfl, I1.kept (t' := s1.toks) fun b o e => Heap.get?_push_of_some _ e, turn_list a _, ⟨_, Heap.get?_push_size _ rfl, rfl, rfl⟩, key, q⟩
  · obtain ⟨its, rv, p, hz⟩ := I1.tuple hq
    refine wpAny_pyIter_tuple (show s1.heap.IsTuple a its.toArray from p) ?_
    exact ⟨s1.heap.objs.size, [s1.heap.objs.size], _, _, H1, rfl, I1.kept (t' := s1.toks) fun b o e => Heap.get?_push_of_some _ e, turn_tuple a _, ⟨_, Heap.get?_push_size _ rfl, rfl, rfl⟩, key, q⟩
end
/-! ### data that may be compared -/
def ShK (k : Nat) (d : PyData) : Prop := d.canLay0 = true ∧ d.depth ≤ k
theorem ShK.ok {k : Nat} {d : PyData} (h : ShK k d) (hk : k ≤ 64 := by decide) : SeqAt.shaped d = true := by
  unfold SeqAt.shaped
  rw [h.1, Bool.true_and]
  exact decide_eq_true (Nat.le_trans h.2 hk)
theorem ShK.int (k : Nat) (i : Int) : ShK k (.int i) := ⟨rfl, Nat.zero_le _⟩
theorem ShK.bl (k : Nat) (b : Bool) : ShK k (.bool b) := ⟨rfl, Nat.zero_le _⟩
theorem ShK.non (k : Nat) : ShK k .none := ⟨rfl, Nat.zero_le _⟩
theorem shAll {k : Nat} : ∀ {ds : List PyData}, (∀ d ∈ ds, ShK k d) → PyData.canLayAll0 ds = true ∧ PyData.depthAll ds ≤ k
  | [], _ => ⟨rfl, Nat.zero_le _⟩
  | d :: ds, h => by
    obtain ⟨a, b⟩ := shAll fun x hx => h x (List.mem_cons_of_mem _ hx)
    obtain ⟨a1, b1⟩ := h d List.mem_cons_self
    refine ⟨?_, ?_⟩
    · show (PyData.canLay0 d && PyData.canLayAll0 ds) = true
      rw [a, a1]; rfl
    · show max (PyData.depth d) (PyData.depthAll ds) ≤ k
      omega
theorem ShK.lst {k : Nat} {ds : List PyData} (h : ∀ d ∈ ds, ShK k d) : ShK (k + 1) (.list ds) := ⟨(shAll h).1, Nat.succ_le_succ (shAll h).2⟩
theorem ShK.tup {k : Nat} {ds : List PyData} (h : ∀ d ∈ ds, ShK k d) : ShK (k + 1) (.tuple ds) := ⟨(shAll h).1, Nat.succ_le_succ (shAll h).2⟩
section
variable {K : PySem.W.Frag} {H : Hp}
theorem dpAll_of {α : Type} {f : α → V} {g : α → PyData} : ∀ {l : List α}, (∀ x ∈ l, Dp K H (f x) (g x)) → DpAll K H (l.map f) (l.map g)
  | [], _ => .nil
  | x :: l, h => .cons (h x List.mem_cons_self) (dpAll_of fun y hy => h y (List.mem_cons_of_mem _ hy))
theorem dpAll_get : ∀ {xs : List V} {ds : List PyData}, xs.length = ds.length → (∀ (i : Nat) (x : V) (d : PyData), xs[i]? = some x → ds[i]? = some d → Dp K H x d) → DpAll K H xs ds
  | [], [], _, _ => .nil
  | x :: xs, d :: ds, hl, h => .cons (h 0 x d rfl rfl) (dpAll_get (by simpa using hl) fun i y e h1 h2 => h (i + 1) y e (by simpa using h1) (by simpa using h2))
  | [], _ :: _, hl, _ => by simp at hl
  | _ :: _, [], hl, _ => by simp at hl
end
theorem eqvAll_map {α : Type} [DecidableEq α] {g : α → PyData} (h : ∀ x y, PyData.eqv (g x) (g y) = decide (x = y)) : ∀ l m : List α, PyData.eqvAll (l.map g) (m.map g) = decide (l = m)
  | [], [] => rfl
  | [], _ :: _ => rfl
  | _ :: _, [] => rfl
  | x :: l, y :: m => by
    show (PyData.eqv (g x) (g y) && PyData.eqvAll (l.map g) (m.map g)) = _
    rw [h x y, eqvAll_map h l m]
    by_cases h1 : x = y <;> by_cases h2 : l = m <;> simp [h1, h2]
theorem eqv_int (i j : Int) : PyData.eqv (.int i) (.int j) = decide (i = j) := by
  show (i == j) = _
  by_cases h : i = j <;> simp [h]
theorem eqv_bl (i j : Bool) : PyData.eqv (.bool i) (.bool j) = decide (i = j) := by
  cases i <;> cases j <;> rfl
theorem eqv_nil {ds : List PyData} (h : ds ≠ []) : PyData.eqv (.list ds) (.list []) = false := by
  cases ds with
  | nil => exact absurd rfl h
  | cons _ _ => rfl
/-! ### rules, leaps -/
def RulesT (H : Hp) (ts : List Addr) (rs : MM.Rules) : Prop := ts.length = rs.length ∧ ∀ (i : Nat) (t : Addr) (r : Nat × Bool), ts[i]? = some t → rs[i]? = some r → H t = some (.tup [.int ((r.1 : Nat) : Int), .bl r.2])
theorem RulesT.ext {T : Tb} {M : Addr → Prop} {H H' : Hp} {ts : List Addr} {rs : MM.Rules} (h : RulesT H ts rs) (e : Ext T M H H') : RulesT H' ts rs := ⟨h.1, fun i t r h1 h2 => e.fix _ _ (h.2 i t r h1 h2) rfl⟩
theorem RulesT.get {H : Hp} {ts : List Addr} {rs : MM.Rules} (h : RulesT H ts rs) {i : Nat} {v : V} (e : (ts.map V.ref)[i]? = some v) : ∃ t r, v = .ref t ∧ ts[i]? = some t ∧ rs[i]? = some r ∧ H t = some (.tup [.int ((r.1 : Nat) : Int), .bl r.2]) := by
  rw [List.getElem?_map] at e
  cases e1 : ts[i]? with
  | none => rw [e1] at e; cases e
  | some t =>
    rw [e1] at e
    cases e
    have hi := (List.getElem?_eq_some_iff.mp e1).1
    have hj : i < rs.length := h.1 ▸ hi
    have h2 := List.getElem?_eq_getElem (l := rs) hj
    exact ⟨t, _, rfl, rfl, h2, h.2 i t _ e1 h2⟩
theorem RulesT.at {H : Hp} {ts : List Addr} {rs : MM.Rules} (h : RulesT H ts rs) {i : Nat} (hi : i < rs.length) : ∃ t r, (ts.map V.ref)[i]? = some (.ref t) ∧ rs[i]? = some r ∧ H t = some (.tup [.int ((r.1 : Nat) : Int), .bl r.2]) := by
  have hi2 : i < ts.length := by rw [h.1]; exact hi
  have e1 : (ts.map V.ref)[i]? = some (.ref ts[i]) := by rw [List.getElem?_map, List.getElem?_eq_getElem hi2]; rfl
  obtain ⟨t, r, e2, e3, e4, e5⟩ := h.get e1
  exact ⟨t, r, by rw [e1, e2], e4, e5⟩
def LeapsAt (C : Addr) (H : Hp) (a : Addr) (rs : MM.Rules) : Prop := ∃ dx p ts, H a = some (.ins C dx [("rules", .ref p)]) ∧ H p = some (.tup (ts.map V.ref)) ∧ RulesT H ts rs
theorem LeapsAt.ext {T : Tb} {M : Addr → Prop} {C : Addr} {H H' : Hp} {a : Addr} {rs : MM.Rules} (h : LeapsAt C H a rs) (e : Ext T M H H') : LeapsAt C H' a rs := by
  obtain ⟨dx, p, ts, h1, h2, h3⟩ := h
  exact ⟨dx, p, ts, e.fix _ _ h1 rfl, e.fix _ _ h2 rfl, h3.ext e⟩
/-- what Leaps lets in, and a bound on what its rules have in common -/
structure ROk (rs : MM.Rules) : Prop where
  pos : 0 < rs.length
  six : rs.length ≤ 6
  rng : ∀ r ∈ rs, 1 ≤ r.1 ∧ r.1 ≤ 4000
  asc : ∀ (i : Nat) (a b : Nat × Bool), rs[i]? = some a → rs[i + 1]? = some b → a.1 < b.1
  lcm : MM.lcmA rs < 2 ^ 30
theorem atI_of {α : Type} {xs : List α} {j : Int} {i : Nat} {x : α} (e : j = (i : Int)) (h : xs[i]? = some x) : atI xs j = some x := by
  subst e
  exact atI_nat h
end MB
namespace MB
open PySem PySem.Spec PyProof.Rows L2
section
variable {X : Cx} {T : Tb}
/-! ### rules whose heaps are told by Ext -/
def tTupN (T : Tb) (t : TA) : TE := fun σ H Q => t σ H fun xs H1 => xs.length ≤ sizeLine ∧ ∀ p H2, H1 p = none → H2 p = some (.tup xs) → Ext T No H1 H2 → Q (.ref p) H2
def tLstN (T : Tb) (t : TA) : TE := fun σ H Q => t σ H fun xs H1 => xs.length ≤ sizeLine ∧ ∀ p H2, H1 p = none → H2 p = some (.lst xs) → Ext T No H1 H2 → Q (.ref p) H2
theorem pe_tupN {es : List Expr} {k : Nat} {pos : Pos} {t : TA} (h : PA X es t) : PE X (.Tuple es k pos) (tTupN T t) := by
  refine ⟨fun pins s σ H Q I hq => ?_⟩
  refine wpAny_Tuple_spliced (thn (h.run pos pins s σ H _ I hq) fun us s1 ⟨xs, H1, I1, r, z, q⟩ => ⟨by rw [← r.length]; exact z, ?_⟩)
  have hf : H1 s1.heap.objs.size = none := I1.hok.fresh (Nat.le_refl _)
  refine ⟨.ref s1.heap.objs.size, upd H1 s1.heap.objs.size (.tup xs), I1.laid (t' := s1.toks) (fun b u e => Heap.get?_push_of_some _ e) (Nat.le_refl _) ?_, rfl, q _ _ hf upd_same (Ext.new hf)⟩
  exact ⟨z, us, r, ⟨_, Heap.get?_push_size _ rfl, rfl, _, rfl⟩⟩
theorem pe_lstN {es : List Expr} {pos : Pos} {t : TA} (h : PA X es t) : PE X (.List es pos) (tLstN T t) := by
  refine ⟨fun pins s σ H Q I hq => ?_⟩
  refine wpAny_List_spliced (thn (h.run pos pins s σ H _ I hq) fun us s1 ⟨xs, H1, I1, r, z, q⟩ => ⟨by rw [← r.length]; exact z, ?_⟩)
  have hf : H1 s1.heap.objs.size = none := I1.hok.fresh (Nat.le_refl _)
  refine ⟨.ref s1.heap.objs.size, upd H1 s1.heap.objs.size (.lst xs), I1.laid (t' := s1.toks) (fun b u e => Heap.get?_push_of_some _ e) (Nat.le_refl _) ?_, rfl, q _ _ hf upd_same (Ext.new hf)⟩
  exact ⟨z, us, 0, r, Heap.get?_push_size _ rfl⟩
def rAppN (T : Tb) : V → List V → Hp → VK → Prop := fun x vs H Q => ∃ l xs y, x = .ref l ∧ vs = [y] ∧ H l = some (.lst xs) ∧ xs.length < sizeLine ∧ ∀ H2, H2 l = some (.lst (xs ++ [y])) → Ext T (· = l) H H2 → Q .non H2
theorem mt_appN : MtM X "list.append" (rAppN T) := by
  intro pins s σ H x vs v us Q I rx rv ⟨l, xs, y, e1, e2, h, hz, q⟩
  exact mt_append pins s σ H x vs v us Q I rx rv ⟨l, xs, y, e1, e2, h, hz, q _ upd_same (Ext.set h rfl)⟩
def rPopN (T : Tb) : V → List V → Hp → VK → Prop := fun x vs H Q => ∃ l xs y, x = .ref l ∧ vs = [] ∧ H l = some (.lst (xs ++ [y])) ∧ ∀ H2, H2 l = some (.lst xs) → Ext T (· = l) H H2 → Q y H2
theorem mt_popN : MtM X "list.pop" (rPopN T) := by
  intro pins s σ H x vs v us Q I rx rv ⟨l, xs, y, e1, e2, h, q⟩
  refine mt_pop pins s σ H x vs v us Q I rx rv ⟨l, xs ++ [y], y, e1, e2, h, by simp, ?_⟩
  rw [List.dropLast_concat]
  exact q _ upd_same (Ext.set h rfl)
def rSlLN (T : Tb) (K : PySem.W.Frag) : V → Option Int → Option Int → Hp → VK → Prop := fun x lo hi H Q => ∃ a xs, x = .ref a ∧ SqL K H a xs ∧ ∀ p H2, H p = none → H2 p = some (.lst (cutV xs lo hi)) → Ext T No H H2 → Q (.ref p) H2
theorem sl_listN : SlR X (rSlLN T X.K) := by
  intro pins s σ H x v vl vu lo hi sl Q I rx hs pl pu ⟨a, xs, e, h, q⟩
  exact sl_list pins s σ H x v vl vu lo hi sl Q I rx hs pl pu ⟨a, xs, e, h, fun p hp => q p _ hp upd_same (Ext.new hp)⟩
def rDictPN (T : Tb) (K : PySem.W.Frag) : List V → Hp → VK → Prop := fun xs H Q => ∃ (a : Addr) (ps : List Addr) (kvs : List (Key × V)), xs = [.ref a] ∧ SqL K H a (ps.map V.ref) ∧ Paired (fun p kv => SqT K H p [kV kv.1, kv.2]) ps kvs ∧ ∀ p H2, H p = none → H2 p = some (.dK (mergeK [] kvs)) → Ext T No H H2 → Q (.ref p) H2
theorem call_dictPN (hcalm : X.calm = true) : CallR X (.type "dict") (rDictPN T X.K) := by
  intro pins s σ H xs us Q I r ⟨a, ps, kvs, e, h1, h2, q⟩
  exact call_dictP hcalm pins s σ H xs us Q I r ⟨a, ps, kvs, e, h1, h2, fun p hp => q p _ hp upd_same (Ext.new hp)⟩
def rSortDN (T : Tb) : List V → Hp → VK → Prop := fun xs H Q => ∃ (a : Addr) (kvs : List (Key × V)) (ks : List Int), xs = [.ref a] ∧ H a = some (.dK kvs) ∧ kvs.map (·.1) = ks.map Sum.inl ∧ ks.length < 64 ∧
    ∀ (ys : List Int) (p : Addr) (H2 : Hp), ys.Perm ks → ys.Pairwise (· ≤ ·) → H p = none → H2 p = some (.lst (ys.map V.int)) → Ext T No H H2 → Q (.ref p) H2
theorem call_sortDN (hcalm : X.calm = true) : CallR X (.builtin "sorted") (rSortDN T) := by
  intro pins s σ H xs us Q I r ⟨a, kvs, ks, e, h1, h2, h3, q⟩
  exact call_sortedDI hcalm pins s σ H xs us Q I r ⟨a, kvs, ks, e, .inl h1, h2, h3, fun ys p g1 g2 hp => q ys p _ g1 g2 hp upd_same (Ext.new hp)⟩
/-! ### xs.count(b) of a list of bools -/
def eqb (b : Bool) : Value → Bool := fun v => match v with
  | .bool c => c == b
  | _ => false
theorem bls_of : ∀ {bs : List Bool} {us : List Value}, Vals (bs.map V.bl) us → us = bs.map Value.bool
  | [], _, .nil => rfl
  | b :: bs, _, .cons r t => by
    cases r
    rw [bls_of t]
    rfl
def rCntB (K : PySem.W.Frag) : V → List V → Hp → VK → Prop := fun x xs H Q => ∃ (p : Addr) (bs : List Bool) (b : Bool), x = .ref p ∧ xs = [.bl b] ∧ SqL K H p (bs.map V.bl) ∧ Q (.int (bs.count b : Nat)) H
theorem mt_countB : MtR X "list.count" (rCntB X.K) := by
  intro pins s σ H x xs v us Q I rx rxs h
  obtain ⟨p, bs, b, rfl, rfl, hs, q⟩ := h
  cases rx
  obtain ⟨u, rfl, ru⟩ := rxs.one
  cases ru
  obtain ⟨its, rv, ⟨⟨cls, dd, data, sl⟩, n, ho, hc, hdn, hd⟩, hlen⟩ := I.list hs
  simp only at hc hd
  subst hc hd
  have hi := bls_of rv
  refine call_meets PySem.F.slot_list_count ⟨_, ho, rfl⟩ PySem.F.entry_list_count (PySem.F.args_list_count_2 _ _)
    (SeqAt.list_countAt p its.toArray n dd sl (.bool b) (eqb b)) ⟨ho, fun y hy => ?_, ?_⟩
  · have hy : y ∈ its := by simpa using hy
    rw [hi] at hy
    obtain ⟨c, _, rfl⟩ := List.mem_map.mp hy
    exact SeqAt.EqAt.bool_bool c b
  · have ec : its.toArray.toList.countP (eqb b) = bs.count b := by
      show its.countP (eqb b) = _
      rw [hi, List.countP_map]
      rfl
    refine ⟨.int (bs.count b : Nat), H, I.tok _, ⟨s.toks, ?_⟩, q⟩
    show Value.int ((its.toArray.toList.countP (eqb b) : Nat) : Int) s.toks = Value.int ((bs.count b : Nat) : Int) s.toks
    rw [ec]
end
/-! ### the turns of a generator expression over a list, a tuple, a zip -/
section
variable {K : PySem.W.Frag} {a : Addr} {xs : List V} {g : TG} {te : TE} {vs : List Nat} {σ : L2.St} {Cn : MG.CnT} {Qe : List V → Hp → Prop}
theorem turns_tup (Pv : Nat → List V → Hp → Prop) (hl : ∀ i ys H, i ≤ xs.length → Pv i ys H → SqT K H a xs)
    (hs : ∀ i ys x H, xs[i]? = some x → Pv i ys H → g x (wipe σ vs) H fun σ2 H3 => wipe σ2 vs = wipe σ vs ∧ te σ2 H3 fun y H4 => Cn ys y H4 (∃ m', m' < xs.length - i ∧ m' = xs.length - (i + 1) ∧ i + 1 ≤ xs.length ∧ Pv (i + 1) (ys ++ [y]) H4))
    (hd : ∀ ys H, Pv xs.length ys H → Qe ys H) : MG.Turns (Itt K a) g te vs σ Cn Qe (fun i m ys H => m = xs.length - i ∧ i ≤ xs.length ∧ Pv i ys H) := by
  rintro i m ys H ⟨rfl, hi, p⟩
  have q := hl i ys H hi p
  by_cases hlt : i < xs.length
  · refine .inr ⟨⟨xs, xs[i], q, by simp [hlt]⟩, by omega, ?_⟩
    rintro x H' ⟨rfl, y⟩
    exact hs i ys x H' (y xs q) p
  · have e : i = xs.length := by omega
    subst e
    exact .inl ⟨⟨xs, q, Nat.le_refl _⟩, hd ys H p⟩
theorem turns_list (Pv : Nat → List V → Hp → Prop) (hl : ∀ i ys H, i ≤ xs.length → Pv i ys H → SqL K H a xs)
    (hs : ∀ i ys x H, xs[i]? = some x → Pv i ys H → g x (wipe σ vs) H fun σ2 H3 => wipe σ2 vs = wipe σ vs ∧ te σ2 H3 fun y H4 => Cn ys y H4 (∃ m', m' < xs.length - i ∧ m' = xs.length - (i + 1) ∧ i + 1 ≤ xs.length ∧ Pv (i + 1) (ys ++ [y]) H4))
    (hd : ∀ ys H, Pv xs.length ys H → Qe ys H) : MG.Turns (Itl K a) g te vs σ Cn Qe (fun i m ys H => m = xs.length - i ∧ i ≤ xs.length ∧ Pv i ys H) := by
  rintro i m ys H ⟨rfl, hi, p⟩
  have q := hl i ys H hi p
  by_cases hlt : i < xs.length
  · refine .inr ⟨⟨xs, xs[i], q, by simp [hlt]⟩, by omega, ?_⟩
    rintro x H' ⟨rfl, y⟩
    exact hs i ys x H' (y xs q) p
  · have e : i = xs.length := by omega
    subst e
    exact .inl ⟨⟨xs, q, Nat.le_refl _⟩, hd ys H p⟩
theorem turns_zipT {b : Addr} {zs : List V} (Pv : Nat → List V → Hp → Prop) (hn : zs.length ≤ xs.length) (hl : ∀ i ys H, i ≤ zs.length → Pv i ys H → SqT K H a xs ∧ SqT K H b zs)
    (hs : ∀ i ys x z t H, xs[i]? = some x → zs[i]? = some z → Pv i ys H → H t = none → g (.ref t) (wipe σ vs) (upd H t (.tup [x, z])) fun σ2 H3 => wipe σ2 vs = wipe σ vs ∧ te σ2 H3 fun y H4 => Cn ys y H4 (∃ m', m' < zs.length - i ∧ m' = zs.length - (i + 1) ∧ i + 1 ≤ zs.length ∧ Pv (i + 1) (ys ++ [y]) H4))
    (hd : ∀ ys H, Pv zs.length ys H → Qe ys H) : MG.Turns (RZ.ItzT K a b) g te vs σ Cn Qe (fun i m ys H => m = zs.length - i ∧ i ≤ zs.length ∧ Pv i ys H) := by
  rintro i m ys H ⟨rfl, hi, p⟩
  obtain ⟨q1, q2⟩ := hl i ys H hi p
  by_cases hlt : i < zs.length
  · have hlt2 : i < xs.length := by omega
    refine .inr ⟨⟨xs, zs, xs[i], zs[i], q1, q2, by simp [hlt2], by simp [hlt]⟩, by omega, ?_⟩
    rintro x H' ⟨t, x, z, rfl, ht, rfl, y1, y2⟩
    exact hs i ys x z t H (y1 xs q1) (y2 zs q2) p ht
  · have e : i = zs.length := by omega
    subst e
    exact .inl ⟨⟨xs, zs, q1, q2, .inr (Nat.le_refl _)⟩, hd ys H p⟩
end
end MB
namespace MB
open PySem PySem.Spec PyProof.Rows L2
/-! ### the same rules, K by name -/
section
variable {X : Cx} {K : PySem.W.Frag}
theorem ix_tupK (h : X.K = K) : IxR X (rIxT K) := by subst h; exact ix_tup
theorem ix_listK (h : X.K = K) : IxR X (rIxL K) := by subst h; exact ix_list
theorem pe_fldK {e : Expr} {f : Str} {pos : Pos} {ta : TE} (h : X.K = K) (he : PE X e ta) (hb : attributeBase e f X.env (eval e X.env) = eval e X.env) : PE X (.Attribute e f pos) (tFld K ta f) := by subst h; exact pe_fld he hb
theorem pg_tupK {es : List Expr} {k : Nat} {pos : Pos} {t : TGs} {n : Nat} (h : X.K = K) (hc : X.calm = true) (ht : PGs X es t)
    (hn : (assignEach es X.env).length = n := by rfl) (hst : (assignEach es X.env).findIdx? (·.1) = none := by rfl) : PG X (.Tuple es k pos) (gTup K n t) := by subst h; exact pg_tup hc ht hn hst
def rLenS (K : PySem.W.Frag) : List V → Hp → VK → Prop := fun xs H Q => ∃ p ys, xs = [.ref p] ∧ (SqL K H p ys ∨ SqT K H p ys) ∧ Q (.int ys.length) H
theorem call_lenK (h : X.K = K) : CallR X (.builtin "len") (rLenS K) := by subst h; exact call_len_seq
theorem op_eqDK (h : X.K = K) (hu : X.A.units + 64 < cLine) : OpR X (compareOp .Eq) (rEqD K) := by subst h; exact op_eqD hu
theorem op_neDK (h : X.K = K) (hu : X.A.units + 64 < cLine) : OpR X (compareOp .NotEq) (rNeD K) := by subst h; exact op_neD hu
theorem cr_sumK (h : X.K = K) (hc : X.calm = true) : CallR X (.builtin "sum") (rSum K) := by subst h; exact cr_sum hc
theorem mt_countBK (h : X.K = K) : MtR X "list.count" (rCntB K) := by subst h; exact mt_countB
theorem sl_listNK {T : Tb} (h : X.K = K) : SlR X (rSlLN T K) := by subst h; exact sl_listN
theorem sl_tupAK (h : X.K = K) : SlR X (rSlA K) := by subst h; exact sl_tupA
theorem pi_seqK {tg l : Expr} {tl : TE} (h : X.K = K) (hl : PE X l tl) : PI X tg l (iSeq K tl) := by subst h; exact pi_seq hl
theorem pi_listK {tg l : Expr} {tl : TE} (h : X.K = K) (hl : PE X l tl) : PI X tg l (iList K tl) := by subst h; exact pi_list hl
theorem pi_tupK {tg l : Expr} {tl : TE} (h : X.K = K) (hl : PE X l tl) : PI X tg l (iTup K tl) := by subst h; exact pi_tup hl
theorem call_dictPK {T : Tb} (h : X.K = K) (hcalm : X.calm = true) : CallR X (.type "dict") (rDictPN T K) := by subst h; exact call_dictPN hcalm
theorem pe_bmK {T : String} {id : String} {name : Str} {o e : Expr} {es : List Expr} {apos cpos : Pos} {to : TE} {t : TA} {r : V → List V → Hp → VK → Prop} (h : X.K = K) (pa : PlainAttrs T) (slot : Slot T name id) (hty : typeOf (.builtin id) = pure (.type "method_descriptor")) (hm : MtR X id r) (ho : PE X o to) (ha : PA X (e :: es) t)
    (hbase : attributeBase o name X.env (eval o X.env) = eval o X.env := by rfl)
    (hfew : ((backTo cpos (starEach (e :: es) X.env)).all (fun x => !x.1) && (backToKw cpos (keywordEach [] X.env)).all (fun x => x.1.isSome)
      && decide ((e :: es).length + ([] : List Keyword).length + (if ([] : List Keyword).isEmpty then 0 else 1) < 30)) = true := by rfl)
    (hline : (apos.endLine == cpos.line) = true := by rfl)
    (he : starEach (e :: es) X.env = (false, eval e X.env) :: starEach es X.env := by rfl) (hpl : (backTo cpos (starEach es X.env)).any (·.1) = false := by rfl) :
    PE X (.Call (.Attribute o name apos) (e :: es) [] cpos) (tBM K T r to t) := by
  subst h
  exact pe_bm pa slot hty hm ho ha hbase hfew hline he hpl
end
end MB
namespace MB
open PySem PySem.Spec PyProof.Rows L2
section
variable {T : Tb} {M : Addr → Prop} {H H0 H1 : Hp}
theorem upd_ins {p a C dx : Addr} {fs : List (Str × V)} {o x : HO} (hp : H p = some (.ins C dx fs)) (h : H a = some x) (n : ∀ fs, x ≠ .ins C dx fs) : upd H p o a = some x := by
  rw [upd_ne fun z => by subst z; rw [hp] at h; exact n fs (Option.some.inj h).symm]
  exact h
/-- an attribute of a new object written -/
theorem Ext.fld {x C dx : Addr} {fs fs' : List (Str × V)} (e : Ext T M H0 H) (h0 : H0 x = none) (hx : H x = some (.ins C dx fs)) : Ext T M H0 (upd H x (.ins C dx fs')) := by
  have ne : ∀ {b o}, H0 b = some o → b ≠ x := fun h z => by rw [z, h0] at h; cases h
  refine ⟨fun b o h n => (upd_ne (ne h)).trans (e.fix b o h n), fun b o h n => (upd_ne (ne h)).trans (e.lst b o h n), fun b o h n => (upd_ne (ne h)).trans (e.dk b o h n), fun b o u h => (upd_ne (ne h)).trans (e.frz b o u h), fun g => ?_⟩
  have g := e.gd g
  refine ⟨fun q hq => ?_, fun q hq => ?_⟩
  · obtain ⟨ps, e, t⟩ := g.1 q hq
    exact ⟨ps, upd_ins hx e fun ys z => (nomatch z), t⟩
  · obtain ⟨ps, e, t, h3⟩ := g.2 q hq
    refine ⟨ps, upd_ins hx e fun ys z => (nomatch z), t, fun pos cv hc => ?_⟩
    obtain ⟨c, e1, e2⟩ := h3 pos cv hc
    exact ⟨c, e1, upd_ins hx e2 fun ys z => (by unfold LamX.CodeO at z; cases z)⟩
end
theorem sIx1 {n : Nat} (h : 1 ≤ n) : HT.sIx n 0 (some 1) = 1 := by
  unfold HT.sIx
  simp
  omega
def rSlTN (T : Tb) (K : PySem.W.Frag) : V → Option Int → Option Int → Hp → VK → Prop := fun x lo hi H Q => ∃ a xs, x = .ref a ∧ SqT K H a xs ∧ 1 ≤ xs.length ∧ lo = some 1 ∧ hi = none ∧ ∀ p H2, H p = none → H2 p = some (.tup (xs.drop 1)) → Ext T No H H2 → Q (.ref p) H2
theorem sl_tup1 {X : Cx} {T : Tb} {K : PySem.W.Frag} (hK : X.K = K) : SlR X (rSlTN T K) := by
  subst hK
  intro pins s σ H x v vl vu lo hi sl Q I rx hs pl pu ⟨a, xs, e, h, hl, e1, e2, q⟩
  subst e1 e2
  have hc : cutV xs (some 1) none = xs.drop 1 := by
    unfold cutV
    rw [sIx1 hl]
    unfold HT.sIx
    rw [List.take_of_length_le (by simp)]
  refine sl_tup pins s σ H x v vl vu _ _ sl Q I rx hs pl pu ⟨a, xs, e, h, fun z => ?_, fun p hp => ?_⟩
  · have := z.1
    rw [sIx1 hl] at this
    omega
  · rw [hc]
    exact q p _ hp upd_same (Ext.new hp)
end MB
namespace MB
theorem ifBr {c : Bool} {A B : Prop} (h0 : c = false → B) (h1 : c = true → A) : if c = true then A else B := ifB h1 h0
end MB
namespace MB
open PySem PySem.Spec PyProof.Rows L2
def rSetN (T : Tb) : V → V → V → Hp → (Hp → Prop) → Prop := fun o i v H Q => ∃ p xs k j, o = .ref p ∧ i = .int k ∧ H p = some (.lst xs) ∧ ixN xs.length k = some j ∧ ∀ H2, H2 p = some (.lst (xs.set j v)) → Ext T (· = p) H H2 → Q H2
theorem set_listN {X : Cx} {T : Tb} : PSet X (rSetN T) := by
  intro pins s σ H o i v ov iv u Q I r1 r2 r3 ⟨p, xs, k, j, e1, e2, h, hj, q⟩
  exact set_list pins s σ H o i v ov iv u Q I r1 r2 r3 ⟨p, xs, k, j, e1, e2, h, hj, q _ upd_same (Ext.set h rfl)⟩
theorem putK_int {kvs : List (Key × V)} {ks : List Int} (h : kvs.map (·.1) = ks.map Sum.inl) (nd : ks.Nodup) (k : Int) (v : V) :
    ∃ ks' : List Int, (putK kvs (.inl k) v).map (·.1) = ks'.map Sum.inl ∧ ks'.Nodup ∧ (∀ x, x ∈ ks' ↔ x ∈ ks ∨ x = k) ∧ ks'.length ≤ ks.length + 1 := by
  unfold putK
  by_cases hk : k ∈ ks
  · have ha : (kvs.any fun kv => decide (kv.1 = (Sum.inl k : Key))) = true := by
      have : (Sum.inl k : Key) ∈ kvs.map (·.1) := by rw [h]; exact List.mem_map.mpr ⟨k, hk, rfl⟩
      obtain ⟨kv, h1, h2⟩ := List.mem_map.mp this
      exact List.any_eq_true.mpr ⟨kv, h1, by simpa using h2⟩
    rw [if_pos ha]
    refine ⟨ks, ?_, nd, fun x => ⟨.inl, fun z => z.elim id fun e => by rw [e]; exact hk⟩, Nat.le_succ _⟩
    rw [← h, List.map_map]
    refine List.map_congr_left fun kv _ => ?_
    show (if kv.1 = Sum.inl k then (kv.1, v) else kv).1 = kv.1
    split <;> rfl
  · have ha : ¬ (kvs.any fun kv => decide (kv.1 = (Sum.inl k : Key))) = true := fun z => by
      obtain ⟨kv, h1, h2⟩ := List.any_eq_true.mp z
      have : (Sum.inl k : Key) ∈ ks.map Sum.inl := by rw [← h]; exact List.mem_map.mpr ⟨kv, h1, by simpa using h2⟩
      obtain ⟨x, h3, h4⟩ := List.mem_map.mp this
      have h5 : x = k := Sum.inl.inj h4
      subst h5
      exact hk h3
    rw [if_neg ha]
    refine ⟨ks ++ [k], by simp [h], ?_, fun x => by simp, by simp⟩
    rw [List.nodup_append]
    refine ⟨nd, by simp, ?_⟩
    intro a h1 b h2 e
    simp at h2
    subst h2
    subst e
    exact hk h1
theorem mergeK_ints : ∀ (more : List (Int × V)) (kvs : List (Key × V)) (ks : List Int), kvs.map (·.1) = ks.map Sum.inl → ks.Nodup →
    ∃ ks' : List Int, (mergeK kvs (more.map fun p => (Sum.inl p.1, p.2))).map (·.1) = ks'.map Sum.inl ∧ ks'.Nodup ∧ (∀ x, x ∈ ks' ↔ x ∈ ks ∨ x ∈ more.map (·.1)) ∧ ks'.length ≤ ks.length + more.length
  | [], kvs, ks, h, nd => ⟨ks, h, nd, fun x => by simp, Nat.le_add_right _ _⟩
  | p :: more, kvs, ks, h, nd => by
    obtain ⟨k1, a1, a2, a3, a4⟩ := putK_int h nd p.1 p.2
    obtain ⟨k2, b1, b2, b3, b4⟩ := mergeK_ints more _ k1 a1 a2
    refine ⟨k2, b1, b2, fun x => ?_, ?_⟩
    · rw [b3, a3]
      simp only [List.map_cons, List.mem_cons]
      exact or_assoc
    · simp only [List.length_cons]
      omega
/-- a list, but for a list that is written -/
def DiceAt (H : Hp) (p : Addr) : Prop := ∃ c n m : Int, H p = some (.lst [.int c, .int n, .int m])
theorem DiceAt.ext {T : Tb} {M : Addr → Prop} {H H' : Hp} {p : Addr} (h : DiceAt H p) (e : Ext T M H H') (n : ¬ M p) : DiceAt H' p := by
  obtain ⟨c, a, m, h⟩ := h
  exact ⟨c, a, m, e.lst _ _ h n⟩
theorem SqL.ext {K : PySem.W.Frag} {T : Tb} {M : Addr → Prop} {H H' : Hp} {a : Addr} {xs : List V} (h : SqL K H a xs) (e : Ext T M H H') (n : ¬ M a) : SqL K H' a xs := by
  rcases h with (h | ⟨o, h⟩) | h
  · exact .inl (.inl (e.lst _ _ h n))
  · exact .inl (.inr ⟨o, e.frz _ _ _ h⟩)
  · exact .inr h
theorem SqT.ext {K : PySem.W.Frag} {T : Tb} {M : Addr → Prop} {H H' : Hp} {a : Addr} {xs : List V} (h : SqT K H a xs) (e : Ext T M H H') : SqT K H' a xs := by
  rcases h with (h | ⟨o, h⟩) | h
  · exact .inl (.inl (e.fix _ _ h rfl))
  · exact .inl (.inr ⟨o, e.frz _ _ _ h⟩)
  · exact .inr h
end MB
namespace MB
open PySem PySem.Spec PyProof.Rows L2
theorem paired_get {α β : Type} {F : α → β → Prop} : ∀ {xs : List α} {ys : List β}, xs.length = ys.length → (∀ (i : Nat) (x : α) (y : β), xs[i]? = some x → ys[i]? = some y → F x y) → Paired F xs ys
  | [], [], _, _ => .nil
  | x :: xs, d :: ds, hl, h => .cons (h 0 x d rfl rfl) (paired_get (by simpa using hl) fun i y e h1 h2 => h (i + 1) y e (by simpa using h1) (by simpa using h2))
  | [], _ :: _, hl, _ => by simp at hl
  | _ :: _, [], hl, _ => by simp at hl
/-- numbers of 1 to 12, ascending -/
theorem ROk.of12 {rs : MM.Rules} {ys : List Int} (e : rs.map (fun r => ((r.1 : Nat) : Int)) = ys) (h0 : 0 < ys.length) (h4 : ys.length ≤ 4) (hr : ∀ y ∈ ys, 1 ≤ y ∧ y ≤ 12) (hs : ys.Pairwise (· < ·)) : ROk rs ∧ ∀ r ∈ rs, r.1 ≤ 12 := by
  have hl : rs.length = ys.length := by rw [← e, List.length_map]
  have rg : ∀ r ∈ rs, 1 ≤ r.1 ∧ r.1 ≤ 12 := fun r h => by
    have := hr ((r.1 : Nat) : Int) (by rw [← e]; exact List.mem_map.mpr ⟨r, h, rfl⟩)
    omega
  refine ⟨⟨by omega, by omega, fun r h => ⟨(rg r h).1, by have := (rg r h).2; omega⟩, fun i a b h1 h2 => ?_, ?_⟩, fun r h => (rg r h).2⟩
  · have g1 : ys[i]? = some ((a.1 : Nat) : Int) := by rw [← e, List.getElem?_map, h1]; rfl
    have g2 : ys[i + 1]? = some ((b.1 : Nat) : Int) := by rw [← e, List.getElem?_map, h2]; rfl
    obtain ⟨k1, e1⟩ := List.getElem?_eq_some_iff.mp g1
    obtain ⟨k2, e2⟩ := List.getElem?_eq_some_iff.mp g2
    have := List.pairwise_iff_getElem.mp hs i (i + 1) k1 k2 (Nat.lt_succ_self i)
    omega
  · have hd : MM.lcmA rs ∣ 27720 := (MM.lcmA_dvd rs _).mpr fun r h => by
      have h1 := (rg r h).1
      have h2 := (rg r h).2
      have h3 : ∀ k : Nat, k < 13 → 1 ≤ k → k ∣ 27720 := by decide
      exact h3 r.1 (by omega) h1
    have := Nat.le_of_dvd (by decide) hd
    omega
theorem lt_of_le_nodup {ys : List Int} (h : ys.Pairwise (· ≤ ·)) (n : ys.Nodup) : ys.Pairwise (· < ·) := by
  have := List.Pairwise.and h n
  exact this.imp fun ⟨a, b⟩ => by omega
end MB
namespace MB
open PySem PySem.Spec PyProof.Rows L2
theorem count_range (p : Nat → Bool) : ∀ n, ((List.range n).map p).count true = MM.cn p n
  | 0 => rfl
  | n + 1 => by
    rw [List.range_succ, List.map_append, List.count_append, count_range p n]
    show _ = MM.cn p n + _
    congr 1
    cases h : p n <;> simp [h]
theorem cutTo (xs : List V) (n : Nat) : cutV xs none (some (n : Int)) = xs.take n := by
  unfold cutV
  rw [HT.sIx_none, HT.sIx_nat, List.drop_zero, Nat.sub_zero]
  by_cases h : n ≤ xs.length
  · rw [Nat.min_eq_left h]
  · rw [Nat.min_eq_right (by omega), List.take_of_length_le (Nat.le_refl _), List.take_of_length_le (by omega)]
theorem cutFrom (xs : List V) (n : Nat) : cutV xs (some (n : Int)) none = xs.drop n := by
  unfold cutV
  rw [HT.sIx_none, HT.sIx_nat, List.take_of_length_le (by simp)]
  by_cases h : n ≤ xs.length
  · rw [Nat.min_eq_left h]
  · rw [Nat.min_eq_right (by omega), List.drop_length, List.drop_eq_nil_of_le (by omega)]
section
variable {K : PySem.W.Frag} {H : Hp}
theorem dpBls {D : Addr} {bs : List Bool} (h : H D = some (.lst (bs.map V.bl))) : Dp K H (.ref D) (.list (bs.map PyData.bool)) := .lst (SqL.of h) (dpAll_of fun b _ => .bl b)
theorem dpInts {D : Addr} {ns : List Int} (h : H D = some (.lst (ns.map V.int))) : Dp K H (.ref D) (.list (ns.map PyData.int)) := .lst (SqL.of h) (dpAll_of fun b _ => .int b)
theorem dpOnes {D : Addr} {m : Nat} (h : H D = some (.lst (List.replicate m (.int 1)))) : Dp K H (.ref D) (.list (List.replicate m (.int 1))) := by
  have := dpInts (K := K) (H := H) (D := D) (ns := List.replicate m 1) (by rw [List.map_replicate]; exact h)
  rw [List.map_replicate] at this
  exact this
end
theorem shBls (bs : List Bool) : SeqAt.shaped (.list (bs.map PyData.bool)) = true := (ShK.lst (k := 0) fun d hd => by
  obtain ⟨b, _, rfl⟩ := List.mem_map.mp hd
  exact ShK.bl _ _).ok
theorem shInts (bs : List Int) : SeqAt.shaped (.list (bs.map PyData.int)) = true := (ShK.lst (k := 0) fun d hd => by
  obtain ⟨b, _, rfl⟩ := List.mem_map.mp hd
  exact ShK.int _ _).ok
theorem shOnes (m : Nat) : SeqAt.shaped (.list (List.replicate m (.int 1))) = true := by
  have := shInts (List.replicate m 1)
  rw [List.map_replicate] at this
  exact this
theorem eqOnes (m : Nat) : PyData.eqv (.list (List.replicate m (.int 1))) (.list []) = decide (m = 0) := by
  cases m <;> rfl
theorem eqBls (bs cs : List Bool) : PyData.eqv (.list (bs.map PyData.bool)) (.list (cs.map PyData.bool)) = decide (bs = cs) := eqvAll_map eqv_bl bs cs
theorem eqInts (bs cs : List Int) : PyData.eqv (.list (bs.map PyData.int)) (.list (cs.map PyData.int)) = decide (bs = cs) := eqvAll_map eqv_int bs cs
end MB
namespace MB
open PySem PySem.Spec PyProof.Rows L2
/-- a lambda made: all but its maker's table stays -/
theorem Ext.lamM {T : Tb} {M : Addr → Prop} {H H1 : Hp} {P : Addr} (ok : ∀ p ∈ T.gen, p ≠ P) (h : LamX.ExtN H H1) (hP : ∀ b o, H b = some o → b ≠ P → H1 b = some o) (hL : LamX.Tabs T.lam H1) : Ext T M H H1 :=
  Ext.lamN h (fun p hp ps e => hP p _ e (ok p hp)) hL
end MB

set_option Elab.async false
set_option linter.all false
set_option maxRecDepth 100000
set_option maxHeartbeats 0
namespace K01
open PySem PySem.Spec PyProof.Rows L2
def top (i : Nat) : Stmt := PySem.Challenge.pw_moonstack_k01_years_and_rules.main.body.getD i (.Pass ⟨0, 0, 0, 0⟩)
abbrev s_Leaps_init : Stmt := inClass (top 5) 0
abbrev s_Leaps_is_long : Stmt := inClass (top 5) 1
abbrev s_Leaps_long_before : Stmt := inClass (top 5) 2
abbrev s_Leaps_turned : Stmt := inClass (top 5) 3
abbrev s_Leaps_cycle : Stmt := inClass (top 5) 4
abbrev s_Leaps_mean : Stmt := inClass (top 5) 5
abbrev s_Leaps_days_before : Stmt := inClass (top 5) 6
abbrev s_Leaps_year_of : Stmt := inClass (top 5) 7
abbrev s_least_common : Stmt := top 6
abbrev s_best_rules : Stmt := top 7
abbrev s_law_dice : Stmt := top 9
abbrev s_law_roll : Stmt := top 10
abbrev s_law_rounds : Stmt := top 11
abbrev s_law_told : Stmt := top 12
abbrev s_law_long : Stmt := top 13
abbrev s_law_rules : Stmt := top 14
abbrev s_law_plain : Stmt := top 20
abbrev s_law : Stmt := top 21
def d_Leaps_init : He.DefD := ⟨("Leaps", some "__init__"), "__init__", "Leaps.__init__", defArgs s_Leaps_init, defBody s_Leaps_init, defScope s_Leaps_init, [], []⟩
def d_Leaps_is_long : He.DefD := ⟨("Leaps", some "is_long"), "is_long", "Leaps.is_long", defArgs s_Leaps_is_long, defBody s_Leaps_is_long, defScope s_Leaps_is_long, [], []⟩
def d_Leaps_long_before : He.DefD := ⟨("Leaps", some "long_before"), "long_before", "Leaps.long_before", defArgs s_Leaps_long_before, defBody s_Leaps_long_before, defScope s_Leaps_long_before, [], []⟩
def d_Leaps_turned : He.DefD := ⟨("Leaps", some "turned"), "turned", "Leaps.turned", defArgs s_Leaps_turned, defBody s_Leaps_turned, defScope s_Leaps_turned, [], []⟩
def d_Leaps_cycle : He.DefD := ⟨("Leaps", some "cycle"), "cycle", "Leaps.cycle", defArgs s_Leaps_cycle, defBody s_Leaps_cycle, defScope s_Leaps_cycle, [], []⟩
def d_Leaps_mean : He.DefD := ⟨("Leaps", some "mean"), "mean", "Leaps.mean", defArgs s_Leaps_mean, defBody s_Leaps_mean, defScope s_Leaps_mean, [], []⟩
def d_Leaps_days_before : He.DefD := ⟨("Leaps", some "days_before"), "days_before", "Leaps.days_before", defArgs s_Leaps_days_before, defBody s_Leaps_days_before, defScope s_Leaps_days_before, [], []⟩
def d_Leaps_year_of : He.DefD := ⟨("Leaps", some "year_of"), "year_of", "Leaps.year_of", defArgs s_Leaps_year_of, defBody s_Leaps_year_of, defScope s_Leaps_year_of, [], []⟩
def d_least_common : He.DefD := ⟨("least_common", none), "least_common", "least_common", defArgs s_least_common, defBody s_least_common, defScope s_least_common, [], []⟩
def d_best_rules : He.DefD := ⟨("best_rules", none), "best_rules", "best_rules", defArgs s_best_rules, defBody s_best_rules, defScope s_best_rules, [], []⟩
def d_law_dice : He.DefD := ⟨("_law_dice", none), "_law_dice", "_law_dice", defArgs s_law_dice, defBody s_law_dice, defScope s_law_dice, [], []⟩
def d_law_roll : He.DefD := ⟨("_law_roll", none), "_law_roll", "_law_roll", defArgs s_law_roll, defBody s_law_roll, defScope s_law_roll, [], []⟩
def d_law_rounds : He.DefD := ⟨("_law_rounds", none), "_law_rounds", "_law_rounds", defArgs s_law_rounds, defBody s_law_rounds, defScope s_law_rounds, [], []⟩
def d_law_told : He.DefD := ⟨("_law_told", none), "_law_told", "_law_told", defArgs s_law_told, defBody s_law_told, defScope s_law_told, [], []⟩
def d_law_long : He.DefD := ⟨("_law_long", none), "_law_long", "_law_long", defArgs s_law_long, defBody s_law_long, defScope s_law_long, [], []⟩
def d_law_rules : He.DefD := ⟨("_law_rules", none), "_law_rules", "_law_rules", defArgs s_law_rules, defBody s_law_rules, defScope s_law_rules, [], []⟩
def d_law_plain : He.DefD := ⟨("_law_plain", none), "_law_plain", "_law_plain", defArgs s_law_plain, defBody s_law_plain, defScope s_law_plain, [], []⟩
def d_law : He.DefD := ⟨("law", none), "law", "law", defArgs s_law, defBody s_law, defScope s_law, [], []⟩
def fn : List He.DefD := [d_Leaps_init, d_Leaps_is_long, d_Leaps_long_before, d_Leaps_turned, d_Leaps_cycle, d_Leaps_mean, d_Leaps_days_before, d_Leaps_year_of, d_least_common, d_best_rules, d_law_dice, d_law_roll, d_law_rounds, d_law_told, d_law_long, d_law_rules, d_law_plain, d_law]
def fa : List He.Fa := [.glo "least_common", .glo "best_rules", .glo "_law_dice", .glo "_law_roll", .glo "_law_rounds", .glo "_law_told", .glo "_law_long", .glo "_law_rules", .glo "_law_plain", .glo "law", .glo "Leaps", .cls "Leaps", .mkr "Leaps", .noat "Leaps" "rules", .meth "Leaps" "is_long", .meth "Leaps" "long_before", .meth "Leaps" "turned", .meth "Leaps" "cycle", .meth "Leaps" "mean", .meth "Leaps" "days_before", .meth "Leaps" "year_of", .glo "YearError", .exc "YearError", .exm "YearError" "YearError" true, .int "MOST_YEAR" 99999, .free "tuple", .free "len", .free "any", .free "zip", .free "range", .free "abs", .free "int", .free "sorted", .free "dict"]
def tf : List He.Defn := [("Leaps", some "__init__"), ("_law_plain", none)]
abbrev R : PySem.W.OpenRow := PySem.W.OpenLaw.row PySem.Challenge.rw_moonstack_k01_years_and_rules
def exB : PySem.W.Frag → Bool := fun K => decide ((He.cT K ("Leaps", some "__init__")).2 ≠ (He.cT K ("_law_plain", none)).2)
abbrev hk : PySem.W.Hook := He.hookX 6 fa fn [] tf exB
def ob (s : PySem.W.SharedT) : He.AlX := He.obsX 6 fa fn [] tf exB (HandSHeadRun.getT s)
theorem ob_eq (s : PySem.W.SharedT) : ob s = hk.obs s.abs := He.obsX_eq (HandSHeadRun.getT_eq s)
def loose0 : List Str := ["MoonError", "YearError", "MOST_YEAR", "Leaps", "least_common", "best_rules", "_law_dice", "_law_roll", "_law_rounds", "_law_told", "_law_long", "_law_rules", "_law_year", "_law_start", "_law_day", "_law_date", "_law_calendar", "_law_plain"]
def loose : List Str := loose0
theorem run (w : World) : HandSHeadRun.RunEq R (PySem.W.view R.prog [21]) hk ob 4000 loose w := by
  intro os
  kernel_rfl
end K01
namespace K01
open PySem PySem.Spec PyProof.Rows L2
theorem sc_Leaps_init : FnScope ["self", "rules", "number", "longer", "one", "other"] ["self", "rules"] (defScope s_Leaps_init) := ⟨rfl, rfl, rfl, by decide +kernel, rfl, by decide +kernel, by decide +kernel⟩
theorem sc_Leaps_is_long : FnScope ["self", "year", "found", "number", "longer"] ["self", "year"] (defScope s_Leaps_is_long) := ⟨rfl, rfl, rfl, by decide +kernel, rfl, by decide +kernel, by decide +kernel⟩
theorem sc_Leaps_long_before : FnScope ["self", "year", "found", "place"] ["self", "year"] (defScope s_Leaps_long_before) := ⟨rfl, rfl, rfl, by decide +kernel, rfl, by decide +kernel, by decide +kernel⟩
theorem sc_Leaps_turned : FnScope ["self", "place", "year", "found", "left", "number", "start", "sign", "later"] ["self", "place", "year"] (defScope s_Leaps_turned) := ⟨rfl, rfl, rfl, by decide +kernel, rfl, by decide +kernel, by decide +kernel⟩
theorem sc_Leaps_cycle : FnScope ["self", "found", "number", "longer"] ["self"] (defScope s_Leaps_cycle) := ⟨rfl, rfl, rfl, by decide +kernel, rfl, by decide +kernel, by decide +kernel⟩
theorem sc_Leaps_mean : FnScope ["self", "short", "whole"] ["self", "short"] (defScope s_Leaps_mean) := ⟨rfl, rfl, rfl, by decide +kernel, rfl, by decide +kernel, by decide +kernel⟩
theorem sc_Leaps_days_before : FnScope ["self", "year", "short"] ["self", "year", "short"] (defScope s_Leaps_days_before) := ⟨rfl, rfl, rfl, by decide +kernel, rfl, by decide +kernel, by decide +kernel⟩
theorem sc_Leaps_year_of : FnScope ["self", "day", "short", "low", "high", "middle"] ["self", "day", "short"] (defScope s_Leaps_year_of) := ⟨rfl, rfl, rfl, by decide +kernel, rfl, by decide +kernel, by decide +kernel⟩
theorem sc_least_common : FnScope ["one", "other", "low", "high"] ["one", "other"] (defScope s_least_common) := ⟨rfl, rfl, rfl, by decide +kernel, rfl, by decide +kernel, by decide +kernel⟩
theorem sc_best_rules : FnScope ["days", "years", "most", "best", "cycle", "low", "long", "off", "whole", "one", "other"] ["days", "years", "most"] (defScope s_best_rules) := ⟨rfl, rfl, rfl, by decide +kernel, rfl, by decide +kernel, by decide +kernel⟩
theorem sc_law_dice : FnScope ["cell"] ["cell"] (defScope s_law_dice) := ⟨rfl, rfl, rfl, by decide +kernel, rfl, by decide +kernel, by decide +kernel⟩
theorem sc_law_roll : FnScope ["dice", "many", "found"] ["dice", "many"] (defScope s_law_roll) := ⟨rfl, rfl, rfl, by decide +kernel, rfl, by decide +kernel, by decide +kernel⟩
theorem sc_law_rounds : FnScope ["script", "most", "cells", "cell"] ["script", "most"] (defScope s_law_rounds) := ⟨rfl, rfl, rfl, by decide +kernel, rfl, by decide +kernel, by decide +kernel⟩
theorem sc_law_told : FnScope ["what"] ["what"] (defScope s_law_told) := ⟨rfl, rfl, rfl, by decide +kernel, rfl, by decide +kernel, by decide +kernel⟩
theorem sc_law_long : FnScope ["rules", "year", "found", "number", "longer"] ["rules", "year"] (defScope s_law_long) := ⟨rfl, rfl, rfl, by decide +kernel, rfl, by decide +kernel, by decide +kernel⟩
theorem sc_law_rules : FnScope ["dice", "numbers", "k", "number"] ["dice"] (defScope s_law_rules) := ⟨rfl, rfl, rfl, by decide +kernel, rfl, by decide +kernel, by decide +kernel⟩
theorem sc_law_plain : FnScope ["leaps", "bad", "k", "f", "year"] [] (defScope s_law_plain) := ⟨rfl, rfl, rfl, by decide +kernel, rfl, by decide +kernel, by decide +kernel⟩
theorem sc_law : FnScope ["script", "dice", "rules", "short", "leaps", "year", "longs", "one", "place", "mine", "later", "cycle", "number", "longer", "many", "before", "rest", "far", "day", "years", "days", "most", "best", "some", "off", "part", "whole", "k", "other"] ["script"] (defScope s_law) := ⟨rfl, rfl, rfl, by decide +kernel, rfl, by decide +kernel, by decide +kernel⟩
def TT (K : PySem.W.Frag) : MB.Tb := ⟨[(He.cT K ("Leaps", some "__init__")).2], [((He.cT K ("_law_plain", none)).2, "_law_plain.<locals>.<lambda>")]⟩
structure Tx (K : PySem.W.Frag) (mg : Str → Option Value) (base : Heap) where
  fd_Leaps_init : FuncData
  F_Leaps_init : FunD K "__init__" "Leaps.__init__" (defArgs s_Leaps_init) (defBody s_Leaps_init) (defScope s_Leaps_init) [] [] (He.fAd K ("Leaps", some "__init__")) fd_Leaps_init
  fd_Leaps_is_long : FuncData
  F_Leaps_is_long : FunD K "is_long" "Leaps.is_long" (defArgs s_Leaps_is_long) (defBody s_Leaps_is_long) (defScope s_Leaps_is_long) [] [] (He.fAd K ("Leaps", some "is_long")) fd_Leaps_is_long
  m_Leaps_is_long : Meth K (He.ga K "Leaps") "is_long" (He.ma K (He.ga K "Leaps") "is_long")
  fd_Leaps_long_before : FuncData
  F_Leaps_long_before : FunD K "long_before" "Leaps.long_before" (defArgs s_Leaps_long_before) (defBody s_Leaps_long_before) (defScope s_Leaps_long_before) [] [] (He.fAd K ("Leaps", some "long_before")) fd_Leaps_long_before
  m_Leaps_long_before : Meth K (He.ga K "Leaps") "long_before" (He.ma K (He.ga K "Leaps") "long_before")
  fd_Leaps_turned : FuncData
  F_Leaps_turned : FunD K "turned" "Leaps.turned" (defArgs s_Leaps_turned) (defBody s_Leaps_turned) (defScope s_Leaps_turned) [] [] (He.fAd K ("Leaps", some "turned")) fd_Leaps_turned
  m_Leaps_turned : Meth K (He.ga K "Leaps") "turned" (He.ma K (He.ga K "Leaps") "turned")
  fd_Leaps_cycle : FuncData
  F_Leaps_cycle : FunD K "cycle" "Leaps.cycle" (defArgs s_Leaps_cycle) (defBody s_Leaps_cycle) (defScope s_Leaps_cycle) [] [] (He.fAd K ("Leaps", some "cycle")) fd_Leaps_cycle
  m_Leaps_cycle : Meth K (He.ga K "Leaps") "cycle" (He.ma K (He.ga K "Leaps") "cycle")
  fd_Leaps_mean : FuncData
  F_Leaps_mean : FunD K "mean" "Leaps.mean" (defArgs s_Leaps_mean) (defBody s_Leaps_mean) (defScope s_Leaps_mean) [] [] (He.fAd K ("Leaps", some "mean")) fd_Leaps_mean
  m_Leaps_mean : Meth K (He.ga K "Leaps") "mean" (He.ma K (He.ga K "Leaps") "mean")
  fd_Leaps_days_before : FuncData
  F_Leaps_days_before : FunD K "days_before" "Leaps.days_before" (defArgs s_Leaps_days_before) (defBody s_Leaps_days_before) (defScope s_Leaps_days_before) [] [] (He.fAd K ("Leaps", some "days_before")) fd_Leaps_days_before
  m_Leaps_days_before : Meth K (He.ga K "Leaps") "days_before" (He.ma K (He.ga K "Leaps") "days_before")
  fd_Leaps_year_of : FuncData
  F_Leaps_year_of : FunD K "year_of" "Leaps.year_of" (defArgs s_Leaps_year_of) (defBody s_Leaps_year_of) (defScope s_Leaps_year_of) [] [] (He.fAd K ("Leaps", some "year_of")) fd_Leaps_year_of
  m_Leaps_year_of : Meth K (He.ga K "Leaps") "year_of" (He.ma K (He.ga K "Leaps") "year_of")
  fd_least_common : FuncData
  F_least_common : FunD K "least_common" "least_common" (defArgs s_least_common) (defBody s_least_common) (defScope s_least_common) [] [] (He.fAd K ("least_common", none)) fd_least_common
  g_least_common : mg "least_common" = some (.ref (He.ga K "least_common"))
  fd_best_rules : FuncData
  F_best_rules : FunD K "best_rules" "best_rules" (defArgs s_best_rules) (defBody s_best_rules) (defScope s_best_rules) [] [] (He.fAd K ("best_rules", none)) fd_best_rules
  g_best_rules : mg "best_rules" = some (.ref (He.ga K "best_rules"))
  fd_law_dice : FuncData
  F_law_dice : FunD K "_law_dice" "_law_dice" (defArgs s_law_dice) (defBody s_law_dice) (defScope s_law_dice) [] [] (He.fAd K ("_law_dice", none)) fd_law_dice
  g_law_dice : mg "_law_dice" = some (.ref (He.ga K "_law_dice"))
  fd_law_roll : FuncData
  F_law_roll : FunD K "_law_roll" "_law_roll" (defArgs s_law_roll) (defBody s_law_roll) (defScope s_law_roll) [] [] (He.fAd K ("_law_roll", none)) fd_law_roll
  g_law_roll : mg "_law_roll" = some (.ref (He.ga K "_law_roll"))
  fd_law_rounds : FuncData
  F_law_rounds : FunD K "_law_rounds" "_law_rounds" (defArgs s_law_rounds) (defBody s_law_rounds) (defScope s_law_rounds) [] [] (He.fAd K ("_law_rounds", none)) fd_law_rounds
  g_law_rounds : mg "_law_rounds" = some (.ref (He.ga K "_law_rounds"))
  fd_law_told : FuncData
  F_law_told : FunD K "_law_told" "_law_told" (defArgs s_law_told) (defBody s_law_told) (defScope s_law_told) [] [] (He.fAd K ("_law_told", none)) fd_law_told
  g_law_told : mg "_law_told" = some (.ref (He.ga K "_law_told"))
  fd_law_long : FuncData
  F_law_long : FunD K "_law_long" "_law_long" (defArgs s_law_long) (defBody s_law_long) (defScope s_law_long) [] [] (He.fAd K ("_law_long", none)) fd_law_long
  g_law_long : mg "_law_long" = some (.ref (He.ga K "_law_long"))
  fd_law_rules : FuncData
  F_law_rules : FunD K "_law_rules" "_law_rules" (defArgs s_law_rules) (defBody s_law_rules) (defScope s_law_rules) [] [] (He.fAd K ("_law_rules", none)) fd_law_rules
  g_law_rules : mg "_law_rules" = some (.ref (He.ga K "_law_rules"))
  fd_law_plain : FuncData
  F_law_plain : FunD K "_law_plain" "_law_plain" (defArgs s_law_plain) (defBody s_law_plain) (defScope s_law_plain) [] [] (He.fAd K ("_law_plain", none)) fd_law_plain
  g_law_plain : mg "_law_plain" = some (.ref (He.ga K "_law_plain"))
  fd_law : FuncData
  F_law : FunD K "law" "law" (defArgs s_law) (defBody s_law) (defScope s_law) [] [] (He.fAd K ("law", none)) fd_law
  g_law : mg "law" = some (.ref (He.ga K "law"))
  g_Leaps : mg "Leaps" = some (.ref (He.ga K "Leaps"))
  c_Leaps : Cls K (He.ga K "Leaps")
  mk_Leaps : Mk K (He.ga K "Leaps") (He.ma K (He.ga K "Leaps") "__init__")
  na_Leaps_rules : NoAttr K (He.ga K "Leaps") "rules"
  g_YearError : mg "YearError" = some (.ref (He.ga K "YearError"))
  x_YearError : PySem.W.excIn K (He.ga K "YearError") He.veBase "ValueError.__new__" = true ∧ PySem.W.keepIn K (.ref (He.ga K "YearError")) = true ∧ PySem.W.subIn K (.ref (He.ga K "YearError")) (.type "BaseException") = some true ∧ PySem.W.typeIn K (.ref (He.ga K "YearError")) = some (.type "type")
  xm_YearError_YearError : PySem.W.exmOne K (.ref (He.ga K "YearError")) (.ref (He.ga K "YearError")) = some true
  i_MOST_YEAR : ∃ t, mg "MOST_YEAR" = some (.int 99999 t)
  b_tuple : mg "tuple" = none
  b_len : mg "len" = none
  b_any : mg "any" = none
  b_zip : mg "zip" = none
  b_range : mg "range" = none
  b_abs : mg "abs" = none
  b_int : mg "int" = none
  b_sorted : mg "sorted" = none
  b_dict : mg "dict" = none
  tb_Leaps_init : GxR.TabB base mg (He.cT K ("Leaps", some "__init__")).1 (He.cT K ("Leaps", some "__init__")).2
  tb_law_plain : GxR.TabB base mg (He.cT K ("_law_plain", none)).1 (He.cT K ("_law_plain", none)).2
theorem tx_of {K : PySem.W.Frag} {mg : Str → Option Value} {base h : Heap} {w : World} (X : K.In h) (G : h.Ns mainGlobals mg) (c : He.SaysX fa fn [] tf exB w h K) (tb : ∀ p ∈ tf.map (He.cT K), GxR.TabB base mg p.1 p.2) : Nonempty (Tx K mg base) := by
  have D := c.t.d
  obtain ⟨f0, F0⟩ := D.def_ 0 (d := d_Leaps_init) rfl
  obtain ⟨f1, F1⟩ := D.def_ 1 (d := d_Leaps_is_long) rfl
  obtain ⟨f2, F2⟩ := D.def_ 2 (d := d_Leaps_long_before) rfl
  obtain ⟨f3, F3⟩ := D.def_ 3 (d := d_Leaps_turned) rfl
  obtain ⟨f4, F4⟩ := D.def_ 4 (d := d_Leaps_cycle) rfl
  obtain ⟨f5, F5⟩ := D.def_ 5 (d := d_Leaps_mean) rfl
  obtain ⟨f6, F6⟩ := D.def_ 6 (d := d_Leaps_days_before) rfl
  obtain ⟨f7, F7⟩ := D.def_ 7 (d := d_Leaps_year_of) rfl
  obtain ⟨f8, F8⟩ := D.def_ 8 (d := d_least_common) rfl
  obtain ⟨f9, F9⟩ := D.def_ 9 (d := d_best_rules) rfl
  obtain ⟨f10, F10⟩ := D.def_ 10 (d := d_law_dice) rfl
  obtain ⟨f11, F11⟩ := D.def_ 11 (d := d_law_roll) rfl
  obtain ⟨f12, F12⟩ := D.def_ 12 (d := d_law_rounds) rfl
  obtain ⟨f13, F13⟩ := D.def_ 13 (d := d_law_told) rfl
  obtain ⟨f14, F14⟩ := D.def_ 14 (d := d_law_long) rfl
  obtain ⟨f15, F15⟩ := D.def_ 15 (d := d_law_rules) rfl
  obtain ⟨f16, F16⟩ := D.def_ 16 (d := d_law_plain) rfl
  obtain ⟨f17, F17⟩ := D.def_ 17 (d := d_law) rfl
  refine ⟨{ fd_Leaps_init := f0, F_Leaps_init := F0, fd_Leaps_is_long := f1, F_Leaps_is_long := F1, m_Leaps_is_long := He.meth_ok (D.fact 14 (f := .meth "Leaps" "is_long") rfl), fd_Leaps_long_before := f2, F_Leaps_long_before := F2, m_Leaps_long_before := He.meth_ok (D.fact 15 (f := .meth "Leaps" "long_before") rfl), fd_Leaps_turned := f3, F_Leaps_turned := F3, m_Leaps_turned := He.meth_ok (D.fact 16 (f := .meth "Leaps" "turned") rfl), fd_Leaps_cycle := f4, F_Leaps_cycle := F4, m_Leaps_cycle := He.meth_ok (D.fact 17 (f := .meth "Leaps" "cycle") rfl), fd_Leaps_mean := f5, F_Leaps_mean := F5, m_Leaps_mean := He.meth_ok (D.fact 18 (f := .meth "Leaps" "mean") rfl), fd_Leaps_days_before := f6, F_Leaps_days_before := F6, m_Leaps_days_before := He.meth_ok (D.fact 19 (f := .meth "Leaps" "days_before") rfl), fd_Leaps_year_of := f7, F_Leaps_year_of := F7, m_Leaps_year_of := He.meth_ok (D.fact 20 (f := .meth "Leaps" "year_of") rfl), fd_least_common := f8, F_least_common := F8, g_least_common := He.glo_ok X G (D.fact 0 (f := .glo "least_common") rfl), fd_best_rules := f9, F_best_rules := F9, g_best_rules := He.glo_ok X G (D.fact 1 (f := .glo "best_rules") rfl), fd_law_dice := f10, F_law_dice := F10, g_law_dice := He.glo_ok X G (D.fact 2 (f := .glo "_law_dice") rfl), fd_law_roll := f11, F_law_roll := F11, g_law_roll := He.glo_ok X G (D.fact 3 (f := .glo "_law_roll") rfl), fd_law_rounds := f12, F_law_rounds := F12, g_law_rounds := He.glo_ok X G (D.fact 4 (f := .glo "_law_rounds") rfl), fd_law_told := f13, F_law_told := F13, g_law_told := He.glo_ok X G (D.fact 5 (f := .glo "_law_told") rfl), fd_law_long := f14, F_law_long := F14, g_law_long := He.glo_ok X G (D.fact 6 (f := .glo "_law_long") rfl), fd_law_rules := f15, F_law_rules := F15, g_law_rules := He.glo_ok X G (D.fact 7 (f := .glo "_law_rules") rfl), fd_law_plain := f16, F_law_plain := F16, g_law_plain := He.glo_ok X G (D.fact 8 (f := .glo "_law_plain") rfl), fd_law := f17, F_law := F17, g_law := He.glo_ok X G (D.fact 9 (f := .glo "law") rfl), g_Leaps := He.glo_ok X G (D.fact 10 (f := .glo "Leaps") rfl), c_Leaps := He.cls_ok (D.fact 11 (f := .cls "Leaps") rfl), mk_Leaps := He.mkr_ok (D.fact 12 (f := .mkr "Leaps") rfl), na_Leaps_rules := He.noat_ok (D.fact 13 (f := .noat "Leaps" "rules") rfl), g_YearError := He.glo_ok X G (D.fact 21 (f := .glo "YearError") rfl), x_YearError := He.exc_ok (D.fact 22 (f := .exc "YearError") rfl), xm_YearError_YearError := He.exm_ok (D.fact 23 (f := .exm "YearError" "YearError" true) rfl), i_MOST_YEAR := He.int_ok X G (D.fact 24 (f := .int "MOST_YEAR" 99999) rfl), b_tuple := He.free_ok X G (D.fact 25 (f := .free "tuple") rfl), b_len := He.free_ok X G (D.fact 26 (f := .free "len") rfl), b_any := He.free_ok X G (D.fact 27 (f := .free "any") rfl), b_zip := He.free_ok X G (D.fact 28 (f := .free "zip") rfl), b_range := He.free_ok X G (D.fact 29 (f := .free "range") rfl), b_abs := He.free_ok X G (D.fact 30 (f := .free "abs") rfl), b_int := He.free_ok X G (D.fact 31 (f := .free "int") rfl), b_sorted := He.free_ok X G (D.fact 32 (f := .free "sorted") rfl), b_dict := He.free_ok X G (D.fact 33 (f := .free "dict") rfl), tb_Leaps_init := tb _ (List.mem_map.mpr ⟨("Leaps", some "__init__"), by decide, rfl⟩), tb_law_plain := tb _ (List.mem_map.mpr ⟨("_law_plain", none), by decide, rfl⟩) }⟩
theorem bi_Leaps_init {K : PySem.W.Frag} {mg : Str → Option Value} {base : Heap} (T : Tx K mg base) : Binds K T.fd_Leaps_init ["self", "rules"] [] := T.F_Leaps_init.bindsN fun _ _ _ _ _ _ us hl => match us, hl with | [_, _], _ => rfl
theorem bi_Leaps_is_long {K : PySem.W.Frag} {mg : Str → Option Value} {base : Heap} (T : Tx K mg base) : Binds K T.fd_Leaps_is_long ["self", "year"] [] := T.F_Leaps_is_long.bindsN fun _ _ _ _ _ _ us hl => match us, hl with | [_, _], _ => rfl
theorem bi_Leaps_long_before {K : PySem.W.Frag} {mg : Str → Option Value} {base : Heap} (T : Tx K mg base) : Binds K T.fd_Leaps_long_before ["self", "year"] [] := T.F_Leaps_long_before.bindsN fun _ _ _ _ _ _ us hl => match us, hl with | [_, _], _ => rfl
theorem bi_Leaps_turned {K : PySem.W.Frag} {mg : Str → Option Value} {base : Heap} (T : Tx K mg base) : Binds K T.fd_Leaps_turned ["self", "place", "year"] [] := T.F_Leaps_turned.bindsN fun _ _ _ _ _ _ us hl => match us, hl with | [_, _, _], _ => rfl
theorem bi_Leaps_cycle {K : PySem.W.Frag} {mg : Str → Option Value} {base : Heap} (T : Tx K mg base) : Binds K T.fd_Leaps_cycle ["self"] [] := T.F_Leaps_cycle.bindsN fun _ _ _ _ _ _ us hl => match us, hl with | [_], _ => rfl
theorem bi_Leaps_mean {K : PySem.W.Frag} {mg : Str → Option Value} {base : Heap} (T : Tx K mg base) : Binds K T.fd_Leaps_mean ["self", "short"] [] := T.F_Leaps_mean.bindsN fun _ _ _ _ _ _ us hl => match us, hl with | [_, _], _ => rfl
theorem bi_Leaps_days_before {K : PySem.W.Frag} {mg : Str → Option Value} {base : Heap} (T : Tx K mg base) : Binds K T.fd_Leaps_days_before ["self", "year", "short"] [] := T.F_Leaps_days_before.bindsN fun _ _ _ _ _ _ us hl => match us, hl with | [_, _, _], _ => rfl
theorem bi_Leaps_year_of {K : PySem.W.Frag} {mg : Str → Option Value} {base : Heap} (T : Tx K mg base) : Binds K T.fd_Leaps_year_of ["self", "day", "short"] [] := T.F_Leaps_year_of.bindsN fun _ _ _ _ _ _ us hl => match us, hl with | [_, _, _], _ => rfl
theorem bi_least_common {K : PySem.W.Frag} {mg : Str → Option Value} {base : Heap} (T : Tx K mg base) : Binds K T.fd_least_common ["one", "other"] [] := T.F_least_common.bindsN fun _ _ _ _ _ _ us hl => match us, hl with | [_, _], _ => rfl
theorem bi_best_rules {K : PySem.W.Frag} {mg : Str → Option Value} {base : Heap} (T : Tx K mg base) : Binds K T.fd_best_rules ["days", "years", "most"] [] := T.F_best_rules.bindsN fun _ _ _ _ _ _ us hl => match us, hl with | [_, _, _], _ => rfl
theorem bi_law_dice {K : PySem.W.Frag} {mg : Str → Option Value} {base : Heap} (T : Tx K mg base) : Binds K T.fd_law_dice ["cell"] [] := T.F_law_dice.bindsN fun _ _ _ _ _ _ us hl => match us, hl with | [_], _ => rfl
theorem bi_law_roll {K : PySem.W.Frag} {mg : Str → Option Value} {base : Heap} (T : Tx K mg base) : Binds K T.fd_law_roll ["dice", "many"] [] := T.F_law_roll.bindsN fun _ _ _ _ _ _ us hl => match us, hl with | [_, _], _ => rfl
theorem bi_law_rounds {K : PySem.W.Frag} {mg : Str → Option Value} {base : Heap} (T : Tx K mg base) : Binds K T.fd_law_rounds ["script", "most"] [] := T.F_law_rounds.bindsN fun _ _ _ _ _ _ us hl => match us, hl with | [_, _], _ => rfl
theorem bi_law_told {K : PySem.W.Frag} {mg : Str → Option Value} {base : Heap} (T : Tx K mg base) : Binds K T.fd_law_told ["what"] [] := T.F_law_told.bindsN fun _ _ _ _ _ _ us hl => match us, hl with | [_], _ => rfl
theorem bi_law_long {K : PySem.W.Frag} {mg : Str → Option Value} {base : Heap} (T : Tx K mg base) : Binds K T.fd_law_long ["rules", "year"] [] := T.F_law_long.bindsN fun _ _ _ _ _ _ us hl => match us, hl with | [_, _], _ => rfl
theorem bi_law_rules {K : PySem.W.Frag} {mg : Str → Option Value} {base : Heap} (T : Tx K mg base) : Binds K T.fd_law_rules ["dice"] [] := T.F_law_rules.bindsN fun _ _ _ _ _ _ us hl => match us, hl with | [_], _ => rfl
theorem bi_law_plain {K : PySem.W.Frag} {mg : Str → Option Value} {base : Heap} (T : Tx K mg base) : Binds K T.fd_law_plain [] [] := T.F_law_plain.bindsN fun _ _ _ _ _ _ us hl => match us, hl with | [], _ => rfl
theorem bi_law {K : PySem.W.Frag} {mg : Str → Option Value} {base : Heap} (T : Tx K mg base) : Binds K T.fd_law ["script"] [] := T.F_law.bindsN fun _ _ _ _ _ _ us hl => match us, hl with | [_], _ => rfl
end K01

set_option Elab.async false
set_option linter.all false
set_option maxRecDepth 100000
set_option maxHeartbeats 2000000
namespace K01
open PySem PySem.Spec PyProof.Rows L2 MB
local macro_rules | `(tactic| walk_at "s") => `(tactic| repeat (first | refine ⟨_, rfl, ?_⟩ | refine ⟨_, _, rfl, rfl, ?_⟩ | refine ⟨_, _, rfl, ?_⟩ | refine ⟨rfl, ?_⟩))
variable {P : Program} {w : World} {K : PySem.W.Frag} {mg : Str → Option Value} {base : Heap}
abbrev YE (K : PySem.W.Frag) : Value := .ref (He.ga K "YearError")
abbrev LC (K : PySem.W.Frag) : Addr := He.ga K "Leaps"

/-! ### least_common -/
def spLc : Sp := fun vs H Q _ => ∃ a b : Nat, vs = [.int a, .int b] ∧ 0 < a ∧ 0 < b ∧ a < 2 ^ 30 ∧ b < 2 ^ 30 ∧ Q (.int (Nat.lcm a b : Nat)) H
theorem ok_least_common (T : Tx K mg base) : FnOk P w K mg base (L2.CX P w) 1 (He.fAd K ("least_common", none)) T.fd_least_common ["one", "other"] spLc := by
  refine T.F_least_common.ok sc_least_common (fun vs H Q E h => ?_) (fun cdv A outer s H vs Q E hr h => ⟨_, (pss_cons (ps_par (i := 2) (j := 3) rfl sc_least_common.nd rfl rfl (by decide) rfl rfl (pa_cons (pv 0) (pa_cons (pv 1) pa_nil)) rfl)
 (pss_cons (ps_while (passes_of rfl) (pt_cmpR op_ne (pv 3) pe_int (nomark _)) (pss_one (ps_par (i := 2) (j := 3) rfl sc_least_common.nd rfl rfl (by decide) rfl rfl (pa_cons (pv 3) (pa_cons (pe_op op_mod (pv 2) (pv 3)) pa_nil)) rfl)))
 (pss_one (ps_ret (pe_op op_mul (pe_op op_fdiv (pv 0) (pv 2)) (pv 1)))))), ?_⟩)
  · obtain ⟨a, b, rfl, _⟩ := h
    rfl
  · obtain ⟨a, b, rfl, ha, hb, la, lb, hQ⟩ := h
    walk_at "s"
    refine ⟨fun m σ' H' => ∃ x y : Nat, σ' = [some (.int a), some (.int b), some (.int x), some (.int y)] ∧ H' = H ∧ m = y ∧ 0 < x ∧ Nat.gcd x y = Nat.gcd a b, ⟨b, a, b, rfl, rfl, rfl, ha, rfl⟩, ?_⟩
    rintro m σ' H' ⟨x, y, rfl, rfl, rfl, hx, hg⟩
    walk_at "s"
    refine ifB (fun h => ?_) (fun h => ?_)
    · refine ⟨_, fun _ _ h => h, ?_⟩
      have hy : 0 < m := by simp at h; omega
      walk_at "s"
      refine ⟨by omega, ?_⟩
      walk_at "s"
      refine ⟨x % m, Nat.mod_lt _ hy, m, x % m, ?_, rfl, rfl, hy, ?_⟩
      · simp [List.set]
      · rw [← hg, Nat.gcd_comm x m, Nat.gcd_rec m x, Nat.gcd_comm]
    · have hy : m = 0 := by simp at h; omega
      subst hy
      rw [Nat.gcd_zero_right] at hg
      have hxa : x ∣ a := by rw [hg]; exact Nat.gcd_dvd_left _ _
      have hle : x ≤ a := Nat.le_of_dvd ha hxa
      have hq : a / x ≤ a := Nat.div_le_self _ _
      walk_at "s"
      refine ⟨⟨by omega, by omega⟩, ?_⟩
      walk_at "s"
      refine ⟨.inl ⟨?_, ?_⟩, ?_⟩
      · have : (0 : Int) ≤ (a : Int) / (x : Int) := Int.ediv_nonneg (by omega) (by omega)
        omega
      · rw [← Int.natCast_ediv]
        omega
      · rw [← Int.natCast_ediv]
        show Q (V.int (((a / x : Nat) : Int) * (b : Int))) H'
        rw [← Int.natCast_mul]
        have e : a / x * b = Nat.lcm a b := by
          unfold Nat.lcm
          rw [← hg, Nat.mul_comm a b, Nat.mul_div_assoc _ hxa, Nat.mul_comm]
        rw [e]
        exact hQ

/-! ### Leaps.is_long -/
def spIsLong (K : PySem.W.Frag) : Sp := fun vs H Q E => ∃ (a : Addr) (rs : MM.Rules) (y : Int), vs = [.ref a, .int y] ∧ LeapsAt (LC K) H a rs ∧ ROk rs ∧
  (0 ≤ y → y ≤ 99999 → Q (.bl (MM.isLong rs y.toNat)) H) ∧ (¬ (0 ≤ y ∧ y ≤ 99999) → E (YE K) none H)
theorem ok_Leaps_is_long (T : Tx K mg base) : FnOk P w K mg base (L2.CX P w) 1 (He.fAd K ("Leaps", some "is_long")) T.fd_Leaps_is_long ["self", "year"] (spIsLong K) := by
  refine T.F_Leaps_is_long.ok sc_Leaps_is_long (fun vs H Q E h => ?_) (fun cdv A outer s H vs Q E hr h => ⟨_, (pss_cons (ps_if (pt_not (pt_chain op_le op_le pe_int (pv 1) (pe_glob (v := .int 99999) rfl T.i_MOST_YEAR.choose_spec ⟨_, rfl⟩))) (pss_one (ps_raise rfl (takes_of rfl rfl rfl rfl) (pmk_own PySem.F.excBase_ValueError T.x_YearError.1 T.g_YearError T.x_YearError.2.1 (raises_own T.x_YearError.2.2.1 T.x_YearError.2.2.2) rfl))) pss_nil)
 (pss_cons (ps_set (i := 2) sc_Leaps_is_long.nd rfl (Or.inl rfl) pe_bl)
 (pss_cons (ps_for (passes_of rfl) rfl (pi_tupK (K := K) rfl (pe_fldK (K := K) rfl (pv 0) rfl)) (pg_tupK (K := K) (n := 2) rfl rfl (pgs_cons (pg_name (i := 3) sc_Leaps_is_long.nd rfl (Or.inl rfl)) (pgs_cons (pg_name (i := 4) sc_Leaps_is_long.nd rfl (Or.inl rfl)) pgs_nil))) (pss_one (ps_if (pt_cmpR op_eq (pe_op op_mod (pv 1) (pv 3)) pe_int (nomark _)) (pss_one (ps_set (i := 2) sc_Leaps_is_long.nd rfl (Or.inl rfl) (pv 4))) pss_nil)))
 (pss_one (ps_ret (pv 2)))))), ?_⟩)
  · obtain ⟨a, rs, y, rfl, _⟩ := h
    rfl
  · obtain ⟨a, rs, y, rfl, ⟨dx, p, ts, h1, h2, h3⟩, ok, hQ, hE⟩ := h
    have out : ∀ {c : Bool}, c = true → ¬ (0 ≤ y ∧ y ≤ 99999) → E (YE K) none H := fun _ h => hE h
    walk_at "s"
    refine ifB (fun q1 => ?_) (fun q1 => ?_)
    · walk_at "s"
      refine ifB (fun q2 => ?_) (fun q2 => ?_)
      · have q2 : ¬ y ≤ 99999 := by simpa using q2
        exact hE fun z => q2 z.2
      have q1 : 0 ≤ y := by simpa using q1
      have q2 : y ≤ 99999 := by simpa using q2
      obtain ⟨n, rfl⟩ := Int.eq_ofNat_of_zero_le q1
      have hQ := hQ q1 q2
      walk_at "s"
      refine ⟨_, _, _, _, _, rfl, h1, T.c_Leaps, T.na_Leaps_rules, rfl, ?_⟩
      refine ⟨_, rfl, ⟨_, SqT.of h2⟩, ?_⟩
      refine for_tup (xs := ts.map V.ref) (fun i σ' H' => ∃ u v, σ' = [some (.ref a), some (.int n), some (.bl (MM.isLong (rs.take i) n)), u, v] ∧ H' = H) ⟨_, _, rfl, rfl⟩ (fun i σ' H' _ ⟨_, _, _, e⟩ => by rw [e]; exact SqT.of h2) ?_ ?_
      · rintro i x σ' H' hx ⟨u, v, rfl, rfl⟩
        obtain ⟨t, r, rfl, ht, hr', hv⟩ := h3.get hx
        have hr1 := (ok.rng r (List.mem_of_getElem? hr')).1
        refine ⟨_, _, rfl, SqT.of hv, rfl, ?_⟩
        walk_at "s"
        refine ⟨by omega, ?_⟩
        walk_at "s"
        have e := MM.isLong_snoc hr' n
        refine ifB (fun q => ?_) (fun q => ?_)
        · have q : n % r.1 = 0 := by
            have q : ((n : Int) % (r.1 : Int)) = 0 := by simpa using q
            omega
          rw [if_pos q] at e
          walk_at "s"
          exact ⟨_, _, by rw [e]; rfl, rfl⟩
        · have q : ¬ n % r.1 = 0 := by
            have q : ¬ ((n : Int) % (r.1 : Int)) = 0 := by simpa using q
            omega
          rw [if_neg q] at e
          exact ⟨_, _, by rw [e]; rfl, rfl⟩
      · rintro σ' H' ⟨u, v, rfl, rfl⟩
        walk_at "s"
        rw [List.length_map, h3.1, List.take_length]
        exact hQ
    · have q1 : ¬ 0 ≤ y := by simpa using q1
      walk_at "s"
      exact hE fun z => q1 z.1
end K01

set_option Elab.async false
set_option linter.all false
set_option maxRecDepth 100000
set_option maxHeartbeats 2000000
namespace K01
open PySem PySem.Spec PyProof.Rows L2 MB
local macro_rules | `(tactic| walk_at "s") => `(tactic| repeat (first | refine ⟨_, rfl, ?_⟩ | refine ⟨_, _, rfl, rfl, ?_⟩ | refine ⟨_, _, rfl, ?_⟩ | refine ⟨rfl, ?_⟩))
variable {P : Program} {w : World} {K : PySem.W.Frag} {mg : Str → Option Value} {base : Heap}
theorem sz {n : Nat} (h : n ≤ 1000 := by simp) : n ≤ sizeLine := by rw [sizeLine_eq]; omega
theorem szl {n : Nat} (h : n ≤ 1000) : n < sizeLine := by rw [sizeLine_eq]; omega
/-! ### Leaps.turned -/
abbrev Stk := List (Nat × Nat × Int)
def SV (rs : MM.Rules) (y : Nat) (st : Stk) : Int := (st.map fun e => e.2.2 * (MM.G e.1 (rs.drop e.2.1) y : Int)).sum
def SM (n : Nat) (st : Stk) : Nat := (st.map fun e => 2 ^ (n - e.2.1)).sum
theorem SV_snoc (rs : MM.Rules) (y : Nat) (st : Stk) (e : Nat × Nat × Int) : SV rs y (st ++ [e]) = SV rs y st + e.2.2 * (MM.G e.1 (rs.drop e.2.1) y : Int) := by simp [SV]
theorem SM_snoc (n : Nat) (st : Stk) (e : Nat × Nat × Int) : SM n (st ++ [e]) = SM n st + 2 ^ (n - e.2.1) := by simp [SM]
theorem SM_len (n : Nat) : ∀ st : Stk, st.length ≤ SM n st
  | [] => Nat.le_refl _
  | e :: st => by
    have h := SM_len n st
    have h2 : 0 < 2 ^ (n - e.2.1) := Nat.pow_pos (by decide)
    have h3 : SM n (e :: st) = 2 ^ (n - e.2.1) + SM n st := by simp [SM]
    rw [h3, List.length_cons]
    omega
def StT (H : Hp) (as : List Addr) (st : Stk) : Prop := as.length = st.length ∧ ∀ (i : Nat) (t : Addr) (e : Nat × Nat × Int), as[i]? = some t → st[i]? = some e → H t = some (.tup [.int ((e.1 : Nat) : Int), .int ((e.2.1 : Nat) : Int), .int e.2.2])
theorem StT.ext {T : Tb} {M : Addr → Prop} {H H' : Hp} {as : List Addr} {st : Stk} (h : StT H as st) (e : Ext T M H H') : StT H' as st := ⟨h.1, fun i t r h1 h2 => e.fix _ _ (h.2 i t r h1 h2) rfl⟩
theorem StT.snoc {H : Hp} {as : List Addr} {st : Stk} {t : Addr} {e : Nat × Nat × Int} (h : StT H as st) (ht : H t = some (.tup [.int ((e.1 : Nat) : Int), .int ((e.2.1 : Nat) : Int), .int e.2.2])) : StT H (as ++ [t]) (st ++ [e]) := by
  refine ⟨by simp [h.1], fun i u x h1 h2 => ?_⟩
  by_cases hi : i < as.length
  · rw [List.getElem?_append_left hi] at h1
    rw [List.getElem?_append_left (by rw [← h.1]; exact hi)] at h2
    exact h.2 i u x h1 h2
  · have hi2 : i = as.length := by
      have := (List.getElem?_eq_some_iff.mp h1).1
      simp at this
      omega
    subst hi2
    rw [List.getElem?_concat_length] at h1
    rw [h.1, List.getElem?_concat_length] at h2
    cases h1
    cases h2
    exact ht
theorem StT.last {H : Hp} {as : List Addr} {st : Stk} {e : Nat × Nat × Int} (h : StT H as (st ++ [e])) : ∃ as0 t, as = as0 ++ [t] ∧ StT H as0 st ∧ H t = some (.tup [.int ((e.1 : Nat) : Int), .int ((e.2.1 : Nat) : Int), .int e.2.2]) := by
  have hl := h.1
  rcases List.eq_nil_or_concat as with rfl | ⟨as0, t, rfl⟩
  · simp at hl
  · rw [List.concat_eq_append] at h hl ⊢
    simp at hl
    refine ⟨as0, t, rfl, ⟨hl, fun i u x h1 h2 => ?_⟩, ?_⟩
    · exact h.2 i u x (by rw [List.getElem?_append_left (List.getElem?_eq_some_iff.mp h1).1]; exact h1) (by rw [List.getElem?_append_left (List.getElem?_eq_some_iff.mp h2).1]; exact h2)
    · exact h.2 as0.length t e (by rw [List.getElem?_concat_length]) (by rw [hl, List.getElem?_concat_length])
def stD (e : Nat × Nat × Int) : PyData := .tuple [.int ((e.1 : Nat) : Int), .int ((e.2.1 : Nat) : Int), .int e.2.2]
theorem StT.dp {H : Hp} {l : Addr} {as : List Addr} {st : Stk} (hl : H l = some (.lst (as.map V.ref))) (h : StT H as st) : Dp K H (.ref l) (.list (st.map stD)) := by
  refine .lst (SqL.of hl) (dpAll_get (by simp [h.1]) fun i x d h1 h2 => ?_)
  rw [List.getElem?_map] at h1 h2
  cases e1 : as[i]? with
  | none => rw [e1] at h1; cases h1
  | some t =>
    cases e2 : st[i]? with
    | none => rw [e2] at h2; cases h2
    | some e =>
      rw [e1] at h1
      rw [e2] at h2
      cases h1
      cases h2
      exact .tup (SqT.of (h.2 i t e e1 e2)) (.cons (.int _) (.cons (.int _) (.cons (.int _) .nil)))
theorem stSh (st : Stk) : SeqAt.shaped (.list (st.map stD)) = true := (ShK.lst (k := 1) fun d hd => by
  obtain ⟨e, _, rfl⟩ := List.mem_map.mp hd
  exact ShK.tup (k := 0) fun d hd => by
    simp at hd
    rcases hd with rfl | rfl | rfl <;> exact ShK.int _ _).ok
structure Good (rs : MM.Rules) (e : Nat × Nat × Int) : Prop where
  pos : 0 < e.1
  dvd : e.1 ∣ MM.lcmA rs
  at_ : e.2.1 ≤ rs.length
  sg : e.2.2 = 1 ∨ e.2.2 = -1
theorem rlpos {rs : MM.Rules} (ok : ROk rs) : 0 < MM.lcmA rs := MM.lcmA_pos fun r hr => (ok.rng r hr).1
def spTurned (K : PySem.W.Frag) : Sp := fun vs H Q E => ∃ (a : Addr) (rs : MM.Rules) (i y : Nat), vs = [.ref a, .int i, .int y] ∧ LeapsAt (LC K) H a rs ∧ ROk rs ∧ i < rs.length ∧ y < 2 ^ 40 ∧
  ∀ H', Ext (TT K) No H H' → Q (.int (MM.turnedV rs i y : Nat)) H'
theorem ok_Leaps_turned (T : Tx K mg base) : FnOk P w K mg base (L2.CX P w) 2 (He.fAd K ("Leaps", some "turned")) T.fd_Leaps_turned ["self", "place", "year"] (spTurned K) := by
  refine T.F_Leaps_turned.ok sc_Leaps_turned (fun vs H Q E h => ?_) (fun cdv A outer s H vs Q E hr h => ⟨_, (pss_cons (ps_if (pt_not (pt_val (pe_ix (ix_tupK (K := K) rfl) (pe_ix (ix_tupK (K := K) rfl) (pe_fldK (K := K) rfl (pv 0) rfl) (pv 1) (fun _ _ => rfl)) pe_int (fun _ _ => rfl)))) (pss_one (ps_ret pe_int)) pss_nil)
 (pss_cons (ps_par (i := 3) (j := 4) rfl sc_Leaps_turned.nd rfl rfl (by decide) rfl rfl (pa_cons pe_int (pa_cons (pe_lstN (T := TT K) (pa_cons (pe_tupN (T := TT K) (pa_cons (pe_ix (ix_tupK (K := K) rfl) (pe_ix (ix_tupK (K := K) rfl) (pe_fldK (K := K) rfl (pv 0) rfl) (pv 1) (fun _ _ => rfl)) pe_int (fun _ _ => rfl)) (pa_cons (pe_op op_add (pv 1) pe_int) (pa_cons pe_int pa_nil)))) pa_nil)) pa_nil)) rfl)
 (pss_cons (ps_while (passes_of rfl) (pt_cmpR (op_neDK (K := K) rfl hr.units) (pv 4) (pe_lstN (T := TT K) pa_nil) (nomark _)) (pss_cons (ps_asg (pe_bm0 PySem.F.plainAttrs_list PySem.F.slot_list_pop PySem.F.type_list_pop (mt_popN (T := TT K)) (pv 4)) (pg_tupK (K := K) (n := 3) rfl rfl (pgs_cons (pg_name (i := 5) sc_Leaps_turned.nd rfl (Or.inl rfl)) (pgs_cons (pg_name (i := 6) sc_Leaps_turned.nd rfl (Or.inl rfl)) (pgs_cons (pg_name (i := 7) sc_Leaps_turned.nd rfl (Or.inl rfl)) pgs_nil)))))
 (pss_cons (ps_aug (i := 3) sc_Leaps_turned.nd rfl (Or.inl rfl) (pe_op op_mul (pv 7) (pe_op op_fdiv (pe_op op_sub (pe_op op_add (pv 2) (pv 5)) pe_int) (pv 5))) ip_add)
 (pss_one (ps_for (passes_of rfl) rfl (pi_range2 rfl T.b_range (pa_cons (pv 6) (pa_cons (pe_callB (call_lenK (K := K) rfl) rfl T.b_len (by decide +kernel) (pa_cons (pe_fldK (K := K) rfl (pv 0) rfl) pa_nil)) pa_nil))) (pg_name (i := 8) sc_Leaps_turned.nd rfl (Or.inl rfl)) (pss_one (ps_expr (pe_bmK (K := K) rfl PySem.F.plainAttrs_list PySem.F.slot_list_append PySem.F.type_list_append (mt_appN (T := TT K)) (pv 4) (pa_cons (pe_tupN (T := TT K) (pa_cons (pe_call (ok_least_common T) (hr.mono (by decide)) rfl T.g_least_common T.F_least_common.kp (bi_least_common T) .nil (passes_call (takes_of rfl rfl rfl rfl) fun _ _ _ _ h => h) (pa_cons (pv 5) (pa_cons (pe_ix (ix_tupK (K := K) rfl) (pe_ix (ix_tupK (K := K) rfl) (pe_fldK (K := K) rfl (pv 0) rfl) (pv 8) (fun _ _ => rfl)) pe_int (fun _ _ => rfl)) pa_nil))) (pa_cons (pe_op op_add (pv 8) pe_int) (pa_cons (pe_op op_sub pe_int (pv 7)) pa_nil)))) pa_nil)))))))))
 (pss_one (ps_ret (pv 3)))))), ?_⟩)
  · obtain ⟨a, rs, i, y, rfl, _⟩ := h
    rfl
  · obtain ⟨a, rs, i, y, rfl, ⟨dx, p, ts, h1, h2, h3⟩, ok, hi, hy, hQ⟩ := h
    obtain ⟨t0, r0, hv0, hr0, ht0⟩ := h3.at hi
    walk_at "s"
    refine ⟨_, _, _, _, _, rfl, h1, T.c_Leaps, T.na_Leaps_rules, rfl, ?_⟩
    walk_at "s"
    refine ⟨_, _, _, _, rfl, rfl, SqT.of h2, atI_nat hv0, ?_⟩
    refine ⟨_, _, _, _, rfl, rfl, SqT.of ht0, rfl, ?_⟩
    walk_at "s"
    refine ifB (fun q => ?_) (fun q => ?_)
    · have e : MM.turnedV rs i y = 0 := by
        unfold MM.turnedV
        rw [hr0]
        simp at q
        simp [q]
      have hQ := hQ H .refl
      rw [e] at hQ
      exact hQ
    have q : r0.2 = true := by simpa using q
    have eT : MM.turnedV rs i y = MM.G r0.1 (rs.drop (i + 1)) y := by
      unfold MM.turnedV
      rw [hr0]
      simp [q]
    rw [eT] at hQ
    walk_at "s"
    refine ⟨_, _, _, _, _, rfl, h1, T.c_Leaps, T.na_Leaps_rules, rfl, ?_⟩
    walk_at "s"
    refine ⟨_, _, _, _, rfl, rfl, SqT.of h2, atI_nat hv0, ?_⟩
    refine ⟨_, _, _, _, rfl, rfl, SqT.of ht0, rfl, ?_⟩
    walk_at "s"
    refine ⟨sz, fun t1 H1 ht1 hv1 e1 => ?_⟩
    refine ⟨sz, fun l H2 hl2 hv2 e2 => ?_⟩
    walk_at "s"
    have nl : NoM H l := e1.fresh hl2
    have E2 : Ext (TT K) No H H2 := e1.trans e2
    have hL := rlpos ok
    have hL2 := ok.lcm
    have six := ok.six
    have hr0m := List.mem_of_getElem? hr0
    have pw : 2 ^ (rs.length - (i + 1)) ≤ 2 ^ 5 := Nat.pow_le_pow_right (by decide) (by omega)
    refine ⟨fun m σ' H' => ∃ (f : Int) (st : Stk) (as : List Addr) (u v x z : Option V), σ' = [some (.ref a), some (.int i), some (.int y), some (.int f), some (.ref l), u, v, x, z] ∧ H' l = some (.lst (as.map V.ref)) ∧ StT H' as st ∧ Ext (TT K) No H H' ∧ m = SM rs.length st ∧ m ≤ 64 ∧ f + SV rs y st = (MM.G r0.1 (rs.drop (i + 1)) y : Int) ∧ ∀ e ∈ st, Good rs e, ⟨_, 0, [(r0.1, i + 1, 1)], [t1], _, _, _, _, rfl, hv2, ⟨rfl, ?_⟩, E2, rfl, ?_, ?_, ?_⟩, ?_⟩
    · intro k t e h1 h2
      match k with
      | 0 =>
        cases h1
        cases h2
        exact e2.fix _ _ hv1 rfl
      | k + 1 => simp at h1
    · simp [SM]
      omega
    · simp [SV]
    · intro e he
      simp at he
      subst he
      exact ⟨(ok.rng _ hr0m).1, MM.dvd_lcmA hr0m, hi, .inl rfl⟩
    rintro m σ' H' ⟨f, st, as, u, v, x, z, rfl, hl', hst, E', hm, h64, hG, good⟩
    walk_at "s"
    refine ⟨sz, fun l0 H3 hl0 hv0' e3 => ?_⟩
    have E3 : Ext (TT K) No H H3 := E'.trans e3
    have hl3 : H3 l = some (.lst (as.map V.ref)) := e3.lst _ _ hl' id
    have hst3 := hst.ext e3
    refine ⟨_, _, hst3.dp hl3, .lst (SqL.of hv0') .nil, stSh st, rfl, ?_⟩
    walk_at "s"
    refine ifB (fun q => ?_) (fun q => ?_)
    · refine ⟨_, fun _ _ h => h, ?_⟩
      rcases List.eq_nil_or_concat st with rfl | ⟨st0, ⟨n, s0, sg⟩, rfl⟩
      · exact absurd q (by decide)
      rw [List.concat_eq_append] at *
      obtain ⟨as0, t, rfl, hst0, ht⟩ := hst3.last
      rw [SV_snoc] at hG
      rw [SM_snoc] at hm
      have gn := good _ (List.mem_append_right _ List.mem_cons_self)
      have n30 : n < 2 ^ 30 := Nat.lt_of_le_of_lt (Nat.le_of_dvd hL gn.dvd) hL2
      have npos := gn.pos
      have nat := gn.at_
      have nsg := gn.sg
      simp only at hG hm npos nat nsg ht
      walk_at "s"
      refine ⟨.inl ⟨rfl, _, .inl (.inl hl3)⟩, ?_⟩
      refine ⟨_, _, _, rfl, rfl, by rw [List.map_append] at hl3; exact hl3, fun H4 hl4 e4 => ?_⟩
      have nl3 : NoM H l := nl
      have E4 : Ext (TT K) No H H4 := (E3.no.trans e4).mono1 nl
      refine ⟨_, _, rfl, SqT.of (e4.fix _ _ ht rfl), rfl, ?_⟩
      walk_at "s"
      have hn1 : (0 : Int) ≤ (y : Int) + n - 1 := by omega
      have hce : ((y : Int) + (n : Int) - 1) / (n : Int) = (((y + n - 1) / n : Nat) : Int) := by
        rw [Int.natCast_ediv]
        congr 1
        omega
      refine ⟨⟨by omega, by omega⟩, ?_⟩
      have hGE := MM.G_E n npos (rs.drop s0) y
      generalize (y + n - 1) / n = ce at hce hGE
      walk_at "s"
      refine ⟨.inl ⟨by omega, by omega⟩, ?_⟩
      walk_at "s"
      refine ⟨_, _, _, _, _, rfl, E4.fix _ _ h1 rfl, T.c_Leaps, T.na_Leaps_rules, rfl, ?_⟩
      refine ⟨_, _, rfl, .inr (SqT.of (E4.fix _ _ h2 rfl)), ?_⟩
      refine ⟨_, _, rfl, ⟨by omega, by omega, by omega, by simp [h3.1]; omega⟩, ?_⟩
      have hts := h3.1
      have hlen : ((((ts.map V.ref).length : Nat) : Int) - (s0 : Int)).toNat = rs.length - s0 := by
        rw [List.length_map, hts]
        omega
      rw [hlen]
      refine for_range (fun k σ2 H5 => ∃ (st : Stk) (as : List Addr) (z : Option V), σ2 = [some (.ref a), some (.int i), some (.int y), some (.int (f + sg * (((y : Int) + (n : Int) - 1) / (n : Int)))), some (.ref l), some (.int n), some (.int s0), some (.int sg), z] ∧ H5 l = some (.lst (as.map V.ref)) ∧ StT H5 as st ∧ Ext (TT K) No H H5 ∧
        SM rs.length st + 2 ^ (rs.length - (s0 + k)) = m ∧ f + sg * (((y : Int) + (n : Int) - 1) / (n : Int)) + SV rs y st - sg * (MM.E n (rs.drop (s0 + k)) y : Int) = (MM.G r0.1 (rs.drop (i + 1)) y : Int) ∧ (∀ e ∈ st, Good rs e) ∧ s0 + k ≤ rs.length) ⟨st0, as0, _, rfl, hl4, hst0.ext e4, E4, hm.symm, ?_, fun e he => good e (List.mem_append_left _ he), nat⟩ ?_ ?_
      · have e1 : (ce : Int) = MM.G n (rs.drop s0) y + MM.E n (rs.drop s0) y := by omega
        rw [hce, e1, Int.mul_add]
        show _ - sg * (MM.E n (rs.drop s0) y : Int) = _
        omega
      · rintro k σ2 H5 hk ⟨st, as, z, rfl, hl5, hst5, E5, hm5, hG5, good5, hk5⟩
        have hlt : s0 + k < rs.length := by omega
        obtain ⟨t5, r5, hv5, hr5, ht5⟩ := h3.at hlt
        have hr5m := List.mem_of_getElem? hr5
        have rg5 := ok.rng r5 hr5m
        have lcd : Nat.lcm n r5.1 ∣ MM.lcmA rs := Nat.lcm_dvd gn.dvd (MM.dvd_lcmA hr5m)
        have lcp : 0 < Nat.lcm n r5.1 := Nat.lcm_pos npos rg5.1
        have stl : st.length ≤ 64 := by
          have q1 := SM_len rs.length st
          generalize 2 ^ (rs.length - (s0 + k)) = pk at hm5
          omega
        walk_at "s"
        refine ⟨.inl ⟨rfl, _, .inl (.inl hl5)⟩, ?_⟩
        walk_at "s"
        refine ⟨_, _, _, _, _, rfl, E5.fix _ _ h1 rfl, T.c_Leaps, T.na_Leaps_rules, rfl, ?_⟩
        walk_at "s"
        refine ⟨_, _, _, _, rfl, rfl, SqT.of (E5.fix _ _ h2 rfl), atI_of (by omega) hv5, ?_⟩
        refine ⟨_, _, _, _, rfl, rfl, SqT.of (E5.fix _ _ ht5 rfl), rfl, ?_⟩
        refine ⟨_, _, rfl, npos, rg5.1, n30, by omega, ?_⟩
        walk_at "s"
        refine ⟨sz, fun t6 H6 hp6 hv6 e6 => ?_⟩
        refine ⟨_, _, _, rfl, rfl, e6.lst _ _ hl5 id, by rw [List.length_map]; exact szl (by rw [hst5.1]; omega), fun H7 hl7 e7 => ?_⟩
        have e57 : Ext (TT K) (· = l) H5 H7 := e6.no.trans e7
        have hpow : 2 ^ (rs.length - (s0 + k)) = 2 * 2 ^ (rs.length - (s0 + k + 1)) := by
          have e : rs.length - (s0 + k) = rs.length - (s0 + k + 1) + 1 := by omega
          rw [e, Nat.pow_succ, Nat.mul_comm]
        have hE := MM.E_drop n rs y hr5
        refine ⟨st ++ [(Nat.lcm n r5.1, s0 + k + 1, 0 - sg)], as ++ [t6], _, rfl, by rw [List.map_append]; exact hl7, (hst5.ext e57).snoc ?_, (E5.no.trans e57).mono1 nl, ?_, ?_, ?_, hlt⟩
        · have hz := e7.fix _ _ hv6 rfl
          have e8 : ((s0 : Int) + (k : Int) + 1) = ((s0 + k + 1 : Nat) : Int) := by omega
          simp only at hz ⊢
          rw [← e8]
          exact hz
        · rw [SM_snoc]
          show _ + 2 ^ (rs.length - (s0 + k + 1)) + 2 ^ (rs.length - (s0 + (k + 1))) = m
          have e8 : s0 + (k + 1) = s0 + k + 1 := by omega
          rw [e8]
          omega
        · rw [SV_snoc]
          show _ + (_ + (0 - sg) * ((MM.G (Nat.lcm n r5.1) (rs.drop (s0 + k + 1)) y : Nat) : Int)) - sg * ((MM.E n (rs.drop (s0 + k + 1)) y : Nat) : Int) = _
          rw [hE] at hG5
          rw [← hG5]
          generalize MM.G (Nat.lcm n r5.1) (rs.drop (s0 + k + 1)) y = g1
          generalize MM.E n (rs.drop (s0 + k + 1)) y = g2
          rw [Int.natCast_add, Int.mul_add, Int.sub_mul, Int.zero_mul]
          omega
        · intro e he
          rcases List.mem_append.mp he with he | he
          · exact good5 e he
          · simp at he
            subst he
            exact ⟨lcp, lcd, hlt, by simp only; omega⟩
      · rintro σ2 H5 ⟨st, as, z, rfl, hl5, hst5, E5, hm5, hG5, good5, hk5⟩
        have e0 : s0 + (rs.length - s0) = rs.length := by omega
        rw [e0] at hm5 hG5
        rw [Nat.sub_self] at hm5
        rw [List.drop_length] at hG5
        have hG6 : f + sg * (((y : Int) + (n : Int) - 1) / (n : Int)) + SV rs y st = (MM.G r0.1 (rs.drop (i + 1)) y : Int) := by
          have e : sg * ((MM.E n [] y : Nat) : Int) = 0 := Int.mul_zero _
          omega
        exact ⟨SM rs.length st, by omega, _, st, as, _, _, _, _, rfl, hl5, hst5, E5, rfl, by omega, hG6, good5⟩
    · have hs : st = [] := by
        cases st with
        | nil => rfl
        | cons e st =>
          rw [eqv_nil (by simp)] at q
          cases q
      subst hs
      have hG : f = (MM.G r0.1 (rs.drop (i + 1)) y : Int) := by
        rw [← hG]
        simp [SV]
      walk_at "s"
      rw [hG]
      exact hQ _ E3
end K01

set_option Elab.async false
set_option linter.all false
set_option maxRecDepth 100000
set_option maxHeartbeats 2000000
namespace K01
open PySem PySem.Spec PyProof.Rows L2 MB
local macro_rules | `(tactic| walk_at "s") => `(tactic| repeat (first | refine ⟨_, rfl, ?_⟩ | refine ⟨_, _, rfl, rfl, ?_⟩ | refine ⟨_, _, rfl, ?_⟩ | refine ⟨rfl, ?_⟩))
variable {P : Program} {w : World} {K : PySem.W.Frag} {mg : Str → Option Value} {base : Heap}
/-! ### Leaps.long_before -/
theorem cn_take (rs : MM.Rules) (y : Nat) : ∀ i, i ≤ rs.length → MM.S rs y = MM.S (rs.drop i) y + ((List.range i).map fun k => MM.turnedV rs k y).sum
  | 0, _ => by simp
  | i + 1, h => by
    rw [cn_take rs y i (by omega), MM.S_drop rs y (by omega), List.range_succ]
    simp
    omega
def lbV (rs : MM.Rules) (y i : Nat) : Nat := ((List.range i).map fun k => MM.turnedV rs k y).sum
theorem lbV_succ (rs : MM.Rules) (y i : Nat) : lbV rs y (i + 1) = lbV rs y i + MM.turnedV rs i y := by
  unfold lbV
  rw [List.range_succ]
  simp
theorem lbV_all (rs : MM.Rules) (y : Nat) : lbV rs y rs.length = MM.cn (MM.isLong rs) y := by
  rw [MM.cn_long, cn_take rs y rs.length (Nat.le_refl _), List.drop_length]
  show _ = 0 + _
  rw [Nat.zero_add]
  rfl
def spLb (K : PySem.W.Frag) : Sp := fun vs H Q E => ∃ (a : Addr) (rs : MM.Rules) (y : Int), vs = [.ref a, .int y] ∧ LeapsAt (LC K) H a rs ∧ ROk rs ∧
  (0 ≤ y → y ≤ 100000 → ∀ H', Ext (TT K) No H H' → Q (.int (MM.cn (MM.isLong rs) y.toNat : Nat)) H') ∧ (¬ (0 ≤ y ∧ y ≤ 100000) → E (YE K) none H)
theorem ok_Leaps_long_before (T : Tx K mg base) : FnOk P w K mg base (L2.CX P w) 3 (He.fAd K ("Leaps", some "long_before")) T.fd_Leaps_long_before ["self", "year"] (spLb K) := by
  refine T.F_Leaps_long_before.ok sc_Leaps_long_before (fun vs H Q E h => ?_) (fun cdv A outer s H vs Q E hr h => ⟨_, (pss_cons (ps_if (pt_not (pt_chain op_le op_le pe_int (pv 1) (pe_op op_add (pe_glob (v := .int 99999) rfl T.i_MOST_YEAR.choose_spec ⟨_, rfl⟩) pe_int))) (pss_one (ps_raise rfl (takes_of rfl rfl rfl rfl) (pmk_own PySem.F.excBase_ValueError T.x_YearError.1 T.g_YearError T.x_YearError.2.1 (raises_own T.x_YearError.2.2.1 T.x_YearError.2.2.2) rfl))) pss_nil)
 (pss_cons (ps_set (i := 2) sc_Leaps_long_before.nd rfl (Or.inl rfl) pe_int)
 (pss_cons (ps_for (passes_of rfl) rfl (pi_range1 rfl T.b_range (pa_cons (pe_callB (call_lenK (K := K) rfl) rfl T.b_len (by decide +kernel) (pa_cons (pe_fldK (K := K) rfl (pv 0) rfl) pa_nil)) pa_nil)) (pg_name (i := 3) sc_Leaps_long_before.nd rfl (Or.inl rfl)) (pss_one (ps_aug (i := 2) sc_Leaps_long_before.nd rfl (Or.inl rfl) (pe_meth (pv 0) T.c_Leaps T.m_Leaps_turned (ok_Leaps_turned T) (hr.mono (by decide)) (bi_Leaps_turned T) .nil (passes_call (takes_of rfl rfl rfl rfl) fun _ _ _ _ h => h) (pa_cons (pv 3) (pa_cons (pv 1) pa_nil))) ip_add)))
 (pss_one (ps_ret (pv 2)))))), ?_⟩)
  · obtain ⟨a, rs, y, rfl, _⟩ := h
    rfl
  · obtain ⟨a, rs, y, rfl, hLP, ok, hQ, hE⟩ := h
    have ⟨dx, p, ts, h1, h2, h3⟩ := hLP
    walk_at "s"
    refine ifB (fun q1 => ?_) (fun q1 => ?_)
    · walk_at "s"
      refine ifB (fun q2 => ?_) (fun q2 => ?_)
      · have q2 : ¬ y ≤ 99999 + 1 := by simpa using q2
        exact hE fun z => q2 (by omega)
      have q1 : 0 ≤ y := by simpa using q1
      have q2 : y ≤ 99999 + 1 := by simpa using q2
      obtain ⟨n, rfl⟩ := Int.eq_ofNat_of_zero_le q1
      have hQ := hQ q1 (by omega)
      walk_at "s"
      refine ⟨_, _, _, _, _, rfl, h1, T.c_Leaps, T.na_Leaps_rules, rfl, ?_⟩
      refine ⟨_, _, rfl, .inr (SqT.of h2), ?_⟩
      have hts := h3.1
      have six := ok.six
      refine ⟨_, rfl, by omega, by simp; omega, ?_⟩
      have hlen : (((ts.map V.ref).length : Nat) : Int).toNat = rs.length := by rw [List.length_map, hts]; omega
      rw [hlen]
      refine for_range (fun i σ' H' => ∃ u, σ' = [some (.ref a), some (.int n), some (.int (lbV rs n i : Nat)), u] ∧ Ext (TT K) No H H') ⟨_, rfl, .refl⟩ ?_ ?_
      · rintro i σ' H' hi ⟨u, rfl, e1⟩
        walk_at "s"
        refine ⟨_, _, _, rfl, e1.fix _ _ h1 rfl, rfl, ?_⟩
        walk_at "s"
        refine ⟨a, rs, i, n, by simp, hLP.ext e1, ok, hi, by omega, fun H2 e2 => ?_⟩
        walk_at "s"
        refine ⟨some (.int (0 + (i : Int))), ?_, e1.trans e2⟩
        rw [lbV_succ, Int.natCast_add]
        rfl
      · rintro σ' H' ⟨u, rfl, e1⟩
        walk_at "s"
        rw [lbV_all]
        exact hQ _ e1
    · have q1 : ¬ 0 ≤ y := by simpa using q1
      walk_at "s"
      exact hE fun z => q1 z.1

/-! ### Leaps.cycle -/
def spCycle (K : PySem.W.Frag) : Sp := fun vs H Q E => ∃ (a : Addr) (rs : MM.Rules), vs = [.ref a] ∧ LeapsAt (LC K) H a rs ∧ ROk rs ∧
  (MM.lcmA rs ≤ 100000 → Q (.int (MM.lcmA rs : Nat)) H) ∧ (100000 < MM.lcmA rs → E (YE K) none H)
theorem ok_Leaps_cycle (T : Tx K mg base) : FnOk P w K mg base (L2.CX P w) 2 (He.fAd K ("Leaps", some "cycle")) T.fd_Leaps_cycle ["self"] (spCycle K) := by
  refine T.F_Leaps_cycle.ok sc_Leaps_cycle (fun vs H Q E h => ?_) (fun cdv A outer s H vs Q E hr h => ⟨_, (pss_cons (ps_set (i := 1) sc_Leaps_cycle.nd rfl (Or.inl rfl) pe_int)
 (pss_cons (ps_for (passes_of rfl) rfl (pi_tupK (K := K) rfl (pe_fldK (K := K) rfl (pv 0) rfl)) (pg_tupK (K := K) (n := 2) rfl rfl (pgs_cons (pg_name (i := 2) sc_Leaps_cycle.nd rfl (Or.inl rfl)) (pgs_cons (pg_name (i := 3) sc_Leaps_cycle.nd rfl (Or.inl rfl)) pgs_nil))) (pss_one (ps_set (i := 1) sc_Leaps_cycle.nd rfl (Or.inl rfl) (pe_call (ok_least_common T) (hr.mono (by decide)) rfl T.g_least_common T.F_least_common.kp (bi_least_common T) .nil (passes_call (takes_of rfl rfl rfl rfl) fun _ _ _ _ h => h) (pa_cons (pv 1) (pa_cons (pv 2) pa_nil))))))
 (pss_cons (ps_if (pt_cmpR op_gt (pv 1) (pe_op op_add (pe_glob (v := .int 99999) rfl T.i_MOST_YEAR.choose_spec ⟨_, rfl⟩) pe_int) (nomark _)) (pss_one (ps_raise rfl (takes_of rfl rfl rfl rfl) (pmk_own PySem.F.excBase_ValueError T.x_YearError.1 T.g_YearError T.x_YearError.2.1 (raises_own T.x_YearError.2.2.1 T.x_YearError.2.2.2) rfl))) pss_nil)
 (pss_one (ps_ret (pv 1)))))), ?_⟩)
  · obtain ⟨a, rs, rfl, _⟩ := h
    rfl
  · obtain ⟨a, rs, rfl, ⟨dx, p, ts, h1, h2, h3⟩, ok, hQ, hE⟩ := h
    have hL := rlpos ok
    have hL2 := ok.lcm
    walk_at "s"
    refine ⟨_, _, _, _, _, rfl, h1, T.c_Leaps, T.na_Leaps_rules, rfl, ?_⟩
    refine ⟨_, rfl, ⟨_, SqT.of h2⟩, ?_⟩
    refine for_tup (xs := ts.map V.ref) (fun i σ' H' => ∃ u v, σ' = [some (.ref a), some (.int (MM.lcmA (rs.take i) : Nat)), u, v] ∧ H' = H) ⟨_, _, rfl, rfl⟩ (fun i σ' H' _ ⟨_, _, _, e⟩ => by rw [e]; exact SqT.of h2) ?_ ?_
    · rintro i x σ' H' hx ⟨u, v, rfl, rfl⟩
      obtain ⟨t, r, rfl, ht, hr', hv⟩ := h3.get hx
      have rg := ok.rng r (List.mem_of_getElem? hr')
      have hp : 0 < MM.lcmA (rs.take i) := MM.lcmA_pos fun x hx => (ok.rng x (List.mem_of_mem_take hx)).1
      have hle := Nat.le_of_dvd hL (MM.lcmA_take_dvd rs i)
      refine ⟨_, _, rfl, SqT.of hv, rfl, ?_⟩
      walk_at "s"
      refine ⟨hp, rg.1, by omega, by omega, ?_⟩
      exact ⟨_, _, by rw [MM.lcmA_snoc hr']; rfl, rfl⟩
    · rintro σ' H' ⟨u, v, rfl, rfl⟩
      walk_at "s"
      rw [List.length_map, h3.1, List.take_length]
      refine ifB (fun q => ?_) (fun q => ?_)
      · have q : (99999 + 1 : Int) < (MM.lcmA rs : Nat) := by simpa using q
        exact hE (by omega)
      · have q : ¬ (99999 + 1 : Int) < (MM.lcmA rs : Nat) := by simpa using q
        walk_at "s"
        exact hQ (by omega)

/-! ### Leaps.days_before -/
def spDb (K : PySem.W.Frag) : Sp := fun vs H Q E => ∃ (a : Addr) (rs : MM.Rules) (y s : Int), vs = [.ref a, .int y, .int s] ∧ LeapsAt (LC K) H a rs ∧ ROk rs ∧ s < 2 ^ 60 ∧
  (1 ≤ s → 0 ≤ y → y ≤ 100000 → ∀ H', Ext (TT K) No H H' → Q (.int (MM.db rs s.toNat y.toNat : Nat)) H') ∧ (¬ (1 ≤ s ∧ 0 ≤ y ∧ y ≤ 100000) → E (YE K) none H)
theorem ok_Leaps_days_before (T : Tx K mg base) : FnOk P w K mg base (L2.CX P w) 4 (He.fAd K ("Leaps", some "days_before")) T.fd_Leaps_days_before ["self", "year", "short"] (spDb K) := by
  refine T.F_Leaps_days_before.ok sc_Leaps_days_before (fun vs H Q E h => ?_) (fun cdv A outer s H vs Q E hr h => ⟨_, (pss_cons (ps_if (pt_cmpR op_lt (pv 2) pe_int (nomark _)) (pss_one (ps_raise rfl (takes_of rfl rfl rfl rfl) (pmk_own PySem.F.excBase_ValueError T.x_YearError.1 T.g_YearError T.x_YearError.2.1 (raises_own T.x_YearError.2.2.1 T.x_YearError.2.2.2) rfl))) pss_nil)
 (pss_one (ps_ret (pe_op op_add (pe_op op_mul (pv 2) (pv 1)) (pe_meth (pv 0) T.c_Leaps T.m_Leaps_long_before (ok_Leaps_long_before T) (hr.mono (by decide)) (bi_Leaps_long_before T) .nil (passes_call (takes_of rfl rfl rfl rfl) fun _ _ _ _ h => h) (pa_cons (pv 1) pa_nil)))))), ?_⟩)
  · obtain ⟨a, rs, y, s, rfl, _⟩ := h
    rfl
  · obtain ⟨a, rs, y, s, rfl, hLP, ok, hs, hQ, hE⟩ := h
    have ⟨dx, p, ts, h1, h2, h3⟩ := hLP
    walk_at "s"
    refine ifB (fun q1 => ?_) (fun q1 => ?_)
    · have q1 : s < 1 := by simpa using q1
      exact hE fun z => by omega
    have q1 : ¬ s < 1 := by simpa using q1
    walk_at "s"
    refine ⟨.inl ⟨by omega, by omega⟩, ?_⟩
    walk_at "s"
    refine ⟨_, _, _, rfl, h1, rfl, ?_⟩
    walk_at "s"
    refine ⟨a, rs, y, rfl, hLP, ok, fun g1 g2 H2 e2 => ?_, fun g => hE fun z => g z.2⟩
    walk_at "s"
    have h := hQ (by omega) g1 g2 H2 e2
    have e : ((MM.db rs s.toNat y.toNat : Nat) : Int) = s * y + (MM.cn (MM.isLong rs) y.toNat : Nat) := by
      unfold MM.db
      rw [Int.natCast_add, Int.natCast_mul]
      congr 2 <;> omega
    rw [e] at h
    exact h

/-! ### Leaps.mean -/
def spMean (K : PySem.W.Frag) : Sp := fun vs H Q E => ∃ (a : Addr) (rs : MM.Rules) (s : Int), vs = [.ref a, .int s] ∧ LeapsAt (LC K) H a rs ∧ ROk rs ∧ s < 2 ^ 60 ∧ MM.lcmA rs ≤ 100000 ∧
  (1 ≤ s → ∀ p H', H' p = some (.tup [.int (MM.db rs s.toNat (MM.lcmA rs) : Nat), .int (MM.lcmA rs : Nat)]) → Ext (TT K) No H H' → Q (.ref p) H') ∧ (s < 1 → E (YE K) none H)
theorem ok_Leaps_mean (T : Tx K mg base) : FnOk P w K mg base (L2.CX P w) 4 (He.fAd K ("Leaps", some "mean")) T.fd_Leaps_mean ["self", "short"] (spMean K) := by
  refine T.F_Leaps_mean.ok sc_Leaps_mean (fun vs H Q E h => ?_) (fun cdv A outer s H vs Q E hr h => ⟨_, (pss_cons (ps_if (pt_cmpR op_lt (pv 1) pe_int (nomark _)) (pss_one (ps_raise rfl (takes_of rfl rfl rfl rfl) (pmk_own PySem.F.excBase_ValueError T.x_YearError.1 T.g_YearError T.x_YearError.2.1 (raises_own T.x_YearError.2.2.1 T.x_YearError.2.2.2) rfl))) pss_nil)
 (pss_cons (ps_set (i := 2) sc_Leaps_mean.nd rfl (Or.inl rfl) (pe_meth0 (pv 0) T.c_Leaps T.m_Leaps_cycle (ok_Leaps_cycle T) (hr.mono (by decide)) (bi_Leaps_cycle T) .nil (passes_call (takes_of rfl rfl rfl rfl) fun _ _ _ _ h => h)))
 (pss_one (ps_ret (pe_tupN (T := TT K) (pa_cons (pe_op op_add (pe_op op_mul (pv 1) (pv 2)) (pe_meth (pv 0) T.c_Leaps T.m_Leaps_long_before (ok_Leaps_long_before T) (hr.mono (by decide)) (bi_Leaps_long_before T) .nil (passes_call (takes_of rfl rfl rfl rfl) fun _ _ _ _ h => h) (pa_cons (pv 2) pa_nil))) (pa_cons (pv 2) pa_nil))))))), ?_⟩)
  · obtain ⟨a, rs, s, rfl, _⟩ := h
    rfl
  · obtain ⟨a, rs, s, rfl, hLP, ok, hs, hL, hQ, hE⟩ := h
    have ⟨dx, p, ts, h1, h2, h3⟩ := hLP
    walk_at "s"
    refine ifB (fun q1 => ?_) (fun q1 => ?_)
    · have q1 : s < 1 := by simpa using q1
      exact hE q1
    have q1 : ¬ s < 1 := by simpa using q1
    walk_at "s"
    refine ⟨_, _, _, rfl, h1, rfl, ?_⟩
    refine ⟨a, rs, rfl, hLP, ok, fun _ => ?_, fun z => by omega⟩
    walk_at "s"
    refine ⟨.inl ⟨by omega, by omega⟩, ?_⟩
    walk_at "s"
    refine ⟨_, _, _, rfl, h1, rfl, ?_⟩
    walk_at "s"
    refine ⟨a, rs, _, rfl, hLP, ok, fun g1 g2 H2 e2 => ?_, fun g => absurd ⟨by omega, by omega⟩ g⟩
    walk_at "s"
    refine ⟨sz, fun q H3 hq hv e3 => ?_⟩
    refine hQ (by omega) q H3 ?_ (e2.trans e3)
    rw [hv]
    have e : ((MM.db rs s.toNat (MM.lcmA rs) : Nat) : Int) = s * (MM.lcmA rs : Nat) + (MM.cn (MM.isLong rs) (MM.lcmA rs) : Nat) := by
      unfold MM.db
      rw [Int.natCast_add, Int.natCast_mul]
      congr 2
      omega
    rw [e]
    rfl
end K01

set_option Elab.async false
set_option linter.all false
set_option maxRecDepth 100000
set_option maxHeartbeats 2000000
namespace K01
open PySem PySem.Spec PyProof.Rows L2 MB
local macro_rules | `(tactic| walk_at "s") => `(tactic| repeat (first | refine ⟨_, rfl, ?_⟩ | refine ⟨_, _, rfl, rfl, ?_⟩ | refine ⟨_, _, rfl, ?_⟩ | refine ⟨rfl, ?_⟩))
variable {P : Program} {w : World} {K : PySem.W.Frag} {mg : Str → Option Value} {base : Heap}
/-! ### Leaps.year_of -/
def spYo (K : PySem.W.Frag) : Sp := fun vs H Q E => ∃ (a : Addr) (rs : MM.Rules) (d s : Int), vs = [.ref a, .int d, .int s] ∧ LeapsAt (LC K) H a rs ∧ ROk rs ∧ s < 2 ^ 60 ∧
  (0 ≤ d → 1 ≤ s → d < (MM.db rs s.toNat 100000 : Nat) → ∀ p H' yr, MM.db rs s.toNat yr ≤ d.toNat → d.toNat < MM.db rs s.toNat (yr + 1) → yr ≤ 99999 → H' p = some (.tup [.int (yr : Nat), .int (d - (MM.db rs s.toNat yr : Nat))]) → Ext (TT K) No H H' → Q (.ref p) H') ∧
  (d < 0 ∨ s < 1 ∨ (MM.db rs s.toNat 100000 : Nat) ≤ d → ∀ H', Ext (TT K) No H H' → E (YE K) none H')
theorem ok_Leaps_year_of (T : Tx K mg base) : FnOk P w K mg base (L2.CX P w) 5 (He.fAd K ("Leaps", some "year_of")) T.fd_Leaps_year_of ["self", "day", "short"] (spYo K) := by
  refine T.F_Leaps_year_of.ok sc_Leaps_year_of (fun vs H Q E h => ?_) (fun cdv A outer s H vs Q E hr h => ⟨_, (pss_cons (ps_if (PW.pt (pw_or (pt_cmpR op_lt (pv 1) pe_int (nomark _)) (pw_or (pt_cmpR op_lt (pv 2) pe_int (nomark _)) (pw_or1 (pt_cmpR op_ge (pv 1) (pe_meth (pv 0) T.c_Leaps T.m_Leaps_days_before (ok_Leaps_days_before T) (hr.mono (by decide)) (bi_Leaps_days_before T) .nil (passes_call (takes_of rfl rfl rfl rfl) fun _ _ _ _ h => h) (pa_cons (pe_op op_add (pe_glob (v := .int 99999) rfl T.i_MOST_YEAR.choose_spec ⟨_, rfl⟩) pe_int) (pa_cons (pv 2) pa_nil))) (nomark _)))))) (pss_one (ps_raise rfl (takes_of rfl rfl rfl rfl) (pmk_own PySem.F.excBase_ValueError T.x_YearError.1 T.g_YearError T.x_YearError.2.1 (raises_own T.x_YearError.2.2.1 T.x_YearError.2.2.2) rfl))) pss_nil)
 (pss_cons (ps_par (i := 3) (j := 4) rfl sc_Leaps_year_of.nd rfl rfl (by decide) rfl rfl (pa_cons pe_int (pa_cons (pe_glob (v := .int 99999) rfl T.i_MOST_YEAR.choose_spec ⟨_, rfl⟩) pa_nil)) rfl)
 (pss_cons (ps_while (passes_of rfl) (pt_cmpR op_lt (pv 3) (pv 4) (nomark _)) (pss_cons (ps_set (i := 5) sc_Leaps_year_of.nd rfl (Or.inl rfl) (pe_op op_fdiv (pe_op op_add (pe_op op_add (pv 3) (pv 4)) pe_int) pe_int))
 (pss_one (ps_if (pt_cmpR op_le (pe_meth (pv 0) T.c_Leaps T.m_Leaps_days_before (ok_Leaps_days_before T) (hr.mono (by decide)) (bi_Leaps_days_before T) .nil (passes_call (takes_of rfl rfl rfl rfl) fun _ _ _ _ h => h) (pa_cons (pv 5) (pa_cons (pv 2) pa_nil))) (pv 1) (nomark _)) (pss_one (ps_set (i := 3) sc_Leaps_year_of.nd rfl (Or.inl rfl) (pv 5))) (pss_one (ps_set (i := 4) sc_Leaps_year_of.nd rfl (Or.inl rfl) (pe_op op_sub (pv 5) pe_int)))))))
 (pss_one (ps_ret (pe_tupN (T := TT K) (pa_cons (pv 3) (pa_cons (pe_op op_sub (pv 1) (pe_meth (pv 0) T.c_Leaps T.m_Leaps_days_before (ok_Leaps_days_before T) (hr.mono (by decide)) (bi_Leaps_days_before T) .nil (passes_call (takes_of rfl rfl rfl rfl) fun _ _ _ _ h => h) (pa_cons (pv 3) (pa_cons (pv 2) pa_nil)))) pa_nil)))))))), ?_⟩)
  · obtain ⟨a, rs, y, s, rfl, _⟩ := h
    rfl
  · obtain ⟨a, rs, d, s, rfl, hLP, ok, hs, hQ, hE⟩ := h
    have ⟨dx, p, ts, h1, h2, h3⟩ := hLP
    walk_at "s"
    refine ifB (fun q1 => ?_) (fun q1 => ?_)
    · have q1 : d < 0 := by simpa using q1
      exact hE (.inl q1) _ .refl
    have q1 : ¬ d < 0 := by simpa using q1
    walk_at "s"
    refine ifB (fun q2 => ?_) (fun q2 => ?_)
    · have q2 : s < 1 := by simpa using q2
      exact hE (.inr (.inl q2)) _ .refl
    have q2 : ¬ s < 1 := by simpa using q2
    walk_at "s"
    refine ⟨_, _, _, rfl, h1, rfl, ?_⟩
    walk_at "s"
    refine ⟨a, rs, _, s, rfl, hLP, ok, hs, fun _ _ _ H2 e2 => ?_, fun z => absurd ⟨by omega, by omega, by omega⟩ z⟩
    walk_at "s"
    obtain ⟨n, rfl⟩ := Int.eq_ofNat_of_zero_le (show 0 ≤ d by omega)
    have hs0 : 0 < s.toNat := by omega
    have e100 : ((99999 : Int) + 1).toNat = 100000 := rfl
    refine ifB (fun q3 => ?_) (fun q3 => ?_)
    · have q3 : ((MM.db rs s.toNat 100000 : Nat) : Int) ≤ (n : Int) := by simpa using q3
      exact hE (.inr (.inr q3)) _ e2
    have q3 : ¬ ((MM.db rs s.toNat 100000 : Nat) : Int) ≤ (n : Int) := by simpa using q3
    have hQ := hQ (by omega) (by omega) (by omega)
    walk_at "s"
    refine ⟨fun m σ' H' => ∃ (lo hi : Nat) (u : Option V), σ' = [some (.ref a), some (.int n), some (.int s), some (.int lo), some (.int hi), u] ∧ Ext (TT K) No H H' ∧ m = hi - lo ∧ lo ≤ hi ∧ hi ≤ 99999 ∧ MM.db rs s.toNat lo ≤ n ∧ n < MM.db rs s.toNat (hi + 1), ⟨_, 0, 99999, _, rfl, e2, rfl, by omega, by omega, ?_, ?_⟩, ?_⟩
    · unfold MM.db
      simp [MM.cn]
    · show n < MM.db rs s.toNat 100000
      omega
    rintro m σ' H' ⟨lo, hi, u, rfl, e3, rfl, hle, h99, g1, g2⟩
    walk_at "s"
    refine ifB (fun q4 => ?_) (fun q4 => ?_)
    · have q4 : (lo : Int) < (hi : Int) := by simpa using q4
      refine ⟨_, fun _ _ h => h, ?_⟩
      walk_at "s"
      refine ⟨⟨by omega, by omega⟩, ?_⟩
      walk_at "s"
      refine ⟨_, _, _, rfl, e3.fix _ _ h1 rfl, rfl, ?_⟩
      walk_at "s"
      obtain ⟨md, hmd⟩ : ∃ md : Nat, ((lo : Int) + (hi : Int) + 1) / 2 = (md : Int) := ⟨(lo + hi + 1) / 2, by omega⟩
      have b1 : lo < md := by omega
      have b2 : md ≤ hi := by omega
      refine ⟨a, rs, md, s, by rw [← hmd]; rfl, hLP.ext e3, ok, hs, fun _ _ _ H4 e4 => ?_, fun z => absurd ⟨by omega, by omega, by omega⟩ z⟩
      walk_at "s"
      refine ifB (fun q5 => ?_) (fun q5 => ?_)
      · have q5 : MM.db rs s.toNat md ≤ n := by
          have q5 : ((MM.db rs s.toNat md : Nat) : Int) ≤ (n : Int) := by simpa using q5
          omega
        walk_at "s"
        exact ⟨hi - md, by omega, md, hi, _, by rw [← hmd]; rfl, e3.trans e4, rfl, b2, h99, q5, g2⟩
      · have q5 : ¬ MM.db rs s.toNat md ≤ n := by
          have q5 : ¬ ((MM.db rs s.toNat md : Nat) : Int) ≤ (n : Int) := by simpa using q5
          omega
        walk_at "s"
        refine ⟨md - 1 - lo, by omega, lo, md - 1, some (.int md), ?_, e3.trans e4, rfl, by omega, by omega, g1, ?_⟩
        · have e9 : ((md - 1 : Nat) : Int) = (md : Int) - 1 := by omega
          rw [e9, ← hmd]
          rfl
        · have e9 : md - 1 + 1 = md := by omega
          rw [e9]
          omega
    · have q4 : ¬ (lo : Int) < (hi : Int) := by simpa using q4
      have e5 : hi = lo := by omega
      subst e5
      walk_at "s"
      refine ⟨_, _, _, rfl, e3.fix _ _ h1 rfl, rfl, ?_⟩
      walk_at "s"
      refine ⟨a, rs, hi, s, rfl, hLP.ext e3, ok, hs, fun _ _ _ H4 e4 => ?_, fun z => absurd ⟨by omega, by omega, by omega⟩ z⟩
      walk_at "s"
      refine ⟨sz, fun p5 H5 hp5 hv5 e5 => ?_⟩
      exact hQ p5 H5 hi g1 g2 h99 hv5 ((e3.trans e4).trans e5)

/-! ### Leaps.__init__ -/
def SeqR (K : PySem.W.Frag) (H : Hp) (q : Addr) (rs : MM.Rules) : Prop := ∃ ts, (SqL K H q (ts.map V.ref) ∨ SqT K H q (ts.map V.ref)) ∧ RulesT H ts rs
structure RV (rs : MM.Rules) : Prop where
  pos : 0 < rs.length
  six : rs.length ≤ 6
  rng : ∀ r ∈ rs, 1 ≤ r.1 ∧ r.1 ≤ 4000
  asc : ∀ (i : Nat) (a b : Nat × Bool), rs[i]? = some a → rs[i + 1]? = some b → a.1 < b.1
def spInit (K : PySem.W.Frag) : Sp := fun vs H Q E => ∃ (x dx q : Addr) (rs : MM.Rules) (H0 : Hp), vs = [.ref x, .ref q] ∧ H0 x = none ∧ H0 dx = none ∧ dx ≠ x ∧ H = upd (upd H0 dx (.own x)) x (.ins (LC K) dx []) ∧ Gd (TT K) H0 ∧ SeqR K H0 q rs ∧ rs.length ≤ 1000 ∧
  (RV rs → ∀ H', LeapsAt (LC K) H' x rs → Ext (TT K) No H0 H' → Q .non H') ∧ (¬ RV rs → ∀ H', Ext (TT K) No H0 H' → E (YE K) none H')
theorem ok_Leaps_init (T : Tx K mg base) (tk : TOk (TT K)) : FnOk P w K mg base (L2.CX P w) 12 (He.fAd K ("Leaps", some "__init__")) T.fd_Leaps_init ["self", "rules"] (spInit K) := by
  refine MB.FunD.okC (d := ("Leaps", some "__init__")) T.F_Leaps_init sc_Leaps_init (fun vs H Q E h => ?_) (fun A outer s H vs Q E hr h => ⟨_, (pss_cons (ps_fld (pv 0) (MG.pe_tupG (g := (gTup K 2 (gCons (gName 2) (gCons (gName 3) gNil)))) (k := 1) (hr.mono (by decide)) rfl T.b_tuple (by decide +kernel) sc_Leaps_init.nd T.tb_Leaps_init rfl (MG.geOk_by (N := ["self", "rules", "number", "longer", "one", "other"]) (sc := defScope s_Leaps_init) (own := [("number", 2), ("longer", 3)]) (by decide +kernel)) (pi_seqK (K := K) rfl (pv 1)) (fun _ _ _ _ _ => (pg_tupK (K := K) (n := 2) rfl rfl (pgs_cons (pg_name (i := 2) sc_Leaps_init.nd rfl (by first | exact Or.inl rfl | exact Or.inr rfl)) (pgs_cons (pg_name (i := 3) sc_Leaps_init.nd rfl (by first | exact Or.inl rfl | exact Or.inr rfl)) pgs_nil)))) (fun _ _ _ _ _ hrg => (pe_tupN (T := TT K) (pa_cons (pv 2) (pa_cons (pv 3) pa_nil))))) rfl)
 (pss_cons (ps_if (PW.pt (pw_or (pt_not (pt_chain op_lt op_le pe_int (pe_callB (call_lenK (K := K) rfl) rfl T.b_len (by decide +kernel) (pa_cons (pe_fldK (K := K) rfl (pv 0) rfl) pa_nil)) pe_int)) (pw_or1 (pt_val (MG.pe_anyG (g := (gTup K 2 (gCons (gName 2) (gCons (gName 3) gNil)))) (k := 1) (hr.mono (by decide)) rfl T.b_any sc_Leaps_init.nd T.tb_Leaps_init rfl (MG.geOk_by (N := ["self", "rules", "number", "longer", "one", "other"]) (sc := defScope s_Leaps_init) (own := [("number", 2), ("longer", 3)]) (by decide +kernel)) (pi_tupK (K := K) rfl (pe_fldK (K := K) rfl (pv 0) rfl)) (fun _ _ _ _ _ => (pg_tupK (K := K) (n := 2) rfl rfl (pgs_cons (pg_name (i := 2) sc_Leaps_init.nd rfl (by first | exact Or.inl rfl | exact Or.inr rfl)) (pgs_cons (pg_name (i := 3) sc_Leaps_init.nd rfl (by first | exact Or.inl rfl | exact Or.inr rfl)) pgs_nil)))) (fun _ _ _ _ _ hrg => (pe_not (pe_chain op_le op_le pe_int (pv 2) pe_int)))))))) (pss_one (ps_raise rfl (takes_of rfl rfl rfl rfl) (pmk_own PySem.F.excBase_ValueError T.x_YearError.1 T.g_YearError T.x_YearError.2.1 (raises_own T.x_YearError.2.2.1 T.x_YearError.2.2.2) rfl))) pss_nil)
 (pss_one (ps_if (pt_val (MG.pe_anyG (g := (gTup K 2 (gCons (gName 4) (gCons (gName 5) gNil)))) (k := 1) (hr.mono (by decide)) rfl T.b_any sc_Leaps_init.nd T.tb_Leaps_init rfl (MG.geOk_by (N := ["self", "rules", "number", "longer", "one", "other"]) (sc := defScope s_Leaps_init) (own := [("one", 4), ("other", 5)]) (by decide +kernel)) (RZ.pi_zipA rfl T.b_zip (pa_cons (pe_fldK (K := K) rfl (pv 0) rfl) (pa_cons (pe_slice (sl_tup1 (T := TT K) (K := K) rfl) (pe_fldK (K := K) rfl (pv 0) rfl) (po_some pe_int) po_none) pa_nil))) (fun _ _ _ _ _ => (pg_tupK (K := K) (n := 2) rfl rfl (pgs_cons (pg_name (i := 4) sc_Leaps_init.nd rfl (by first | exact Or.inl rfl | exact Or.inr rfl)) (pgs_cons (pg_name (i := 5) sc_Leaps_init.nd rfl (by first | exact Or.inl rfl | exact Or.inr rfl)) pgs_nil)))) (fun _ _ _ _ _ hrg => (pe_cmpR op_ge (pe_ix (ix_tupK (K := K) rfl) (pv 4) pe_int (fun _ _ => rfl)) (pe_ix (ix_tupK (K := K) rfl) (pv 5) pe_int (fun _ _ => rfl)) (nomark _))))) (pss_one (ps_raise rfl (takes_of rfl rfl rfl rfl) (pmk_own PySem.F.excBase_ValueError T.x_YearError.1 T.g_YearError T.x_YearError.2.1 (raises_own T.x_YearError.2.2.1 T.x_YearError.2.2.2) rfl))) pss_nil)))), ?_⟩)
  · obtain ⟨x, dx, q, rs, H0, rfl, _⟩ := h
    rfl
  · obtain ⟨x, dx, q, rs, H0, rfl, hx, hdx, hne, rfl, gd, ⟨ts, hq, h3⟩, hlen, hQ, hE⟩ := h
    obtain ⟨Hs, hHs⟩ : ∃ Hs, Hs = upd (upd H0 dx (.own x)) x (.ins (LC K) dx []) := ⟨_, rfl⟩
    rw [← hHs]
    have exs : Ext (TT K) No H0 Hs := by
      rw [hHs]
      exact (Ext.new hdx).trans (Ext.new (by rw [upd_ne (Ne.symm hne)]; exact hx))
    have hxs : Hs x = some (.ins (LC K) dx []) := by rw [hHs]; exact upd_same
    clear hHs
    have tmem : (He.cT K ("Leaps", some "__init__")).2 ∈ (TT K).gen := List.mem_cons_self
    walk_at "s"
    -- the tuple of rules
    have elt : ∀ (i : Nat) (ys : List V) (v : V) (H : Hp) (as : List Addr) (B : V → Hp → Prop), (ts.map V.ref)[i]? = some v → ys = as.map V.ref → RulesT H as (rs.take i) → Ext (TT K) No Hs H →
        (∀ t2 H4, RulesT H4 (as ++ [t2]) (rs.take (i + 1)) → Ext (TT K) No Hs H4 → B (.ref t2) H4) →
        gTup K 2 (gCons (gName 2) (gCons (gName 3) gNil)) v (wipe (L2.start ["self", "rules", "number", "longer", "one", "other"] [V.ref x, V.ref q]) [2, 3]) H fun σ2 H3 => wipe σ2 [2, 3] = wipe (L2.start ["self", "rules", "number", "longer", "one", "other"] [V.ref x, V.ref q]) [2, 3] ∧
          tTupN (TT K) (tCons (tVar 2) (tCons (tVar 3) tNil)) σ2 H3 fun y H4 => MG.cnL ys y H4 (B y H4) := by
      intro i ys v H as B hv hys hr e hk
      obtain ⟨t, r, rfl, ht, hr', _⟩ := h3.get hv
      have hvt := e.fix _ _ (exs.fix _ _ (h3.2 i t r ht hr') rfl) rfl
      refine ⟨_, _, rfl, SqT.of hvt, rfl, ?_⟩
      walk_at "s"
      refine ⟨sz, fun t2 H4 ht2 hv2 e4 => ?_⟩
      refine ⟨?_, hk t2 H4 ?_ (e.trans e4)⟩
      · have h1 := hr.1
        rw [hys, List.length_map, h1]
        exact szl (by rw [List.length_take]; omega)
      · refine ⟨?_, fun j u b g1 g2 => ?_⟩
        · have h1 := hr.1
          have hi := (List.getElem?_eq_some_iff.mp hr').1
          simp only [List.length_append, List.length_take, List.length_cons, List.length_nil] at h1 ⊢
          omega
        · have hi := (List.getElem?_eq_some_iff.mp hr').1
          have hal : as.length = i := by rw [hr.1, List.length_take]; omega
          by_cases hj : j < i
          · rw [List.getElem?_append_left (by omega)] at g1
            rw [List.getElem?_take, if_pos (by omega)] at g2
            exact e4.fix _ _ (hr.2 j u b g1 (by rw [List.getElem?_take, if_pos hj]; exact g2)) rfl
          · have hj2 : j = i := by
              have := (List.getElem?_eq_some_iff.mp g1).1
              simp at this
              omega
            subst hj2
            rw [← hal, List.getElem?_concat_length] at g1
            rw [List.getElem?_take, if_pos (by omega), hr'] at g2
            cases g1
            cases g2
            exact hv2
    have hqs : SqL K Hs q (ts.map V.ref) ∨ SqT K Hs q (ts.map V.ref) := by
      rcases hq with hq | hq
      · rcases hq with (hq | ⟨o, hq⟩) | hq
        · exact .inl (.inl (.inl (exs.lst _ _ hq id)))
        · exact .inl (.inl (.inr ⟨o, exs.frz _ _ _ hq⟩))
        · exact .inl (.inr hq)
      · rcases hq with (hq | ⟨o, hq⟩) | hq
        · exact .inr (.inl (.inl (exs.fix _ _ hq rfl)))
        · exact .inr (.inl (.inr ⟨o, exs.frz _ _ _ hq⟩))
        · exact .inr (.inr hq)
    have sqT : ∀ {H a xs}, SqT K Hs a xs → Ext (TT K) No Hs H → SqT K H a xs := fun h e => by
      rcases h with (h | ⟨o, h⟩) | h
      · exact .inl (.inl (e.fix _ _ h rfl))
      · exact .inl (.inr ⟨o, e.frz _ _ _ h⟩)
      · exact .inr h
    have sqL : ∀ {H a xs}, SqL K Hs a xs → Ext (TT K) No Hs H → SqL K H a xs := fun h e => by
      rcases h with (h | ⟨o, h⟩) | h
      · exact .inl (.inl (e.lst _ _ h id))
      · exact .inl (.inr ⟨o, e.frz _ _ _ h⟩)
      · exact .inr h
    have gs : Gd (TT K) Hs := exs.gd gd
    have tlen : (ts.map V.ref).length = rs.length := by rw [List.length_map, h3.1]
    refine hqs.elim (fun hq => .inl ⟨⟨_, hq⟩, gs.1 _ tmem, fun H2 ht => ⟨_, ⟨_, rfl, Nat.zero_le _, ?_⟩, turns_list (xs := ts.map V.ref) (fun i ys H => ∃ as, ys = as.map V.ref ∧ RulesT H as (rs.take i) ∧ Ext (TT K) No Hs H) (fun i ys H _ ⟨_, _, _, e⟩ => sqL hq e)
        (fun i ys v H hv ⟨as, g1, g2, g3⟩ => elt i ys v H as _ hv g1 g2 g3 fun t2 H4 k1 k2 => ⟨_, ?_, rfl, ?_, as ++ [t2], ?_, k1, k2⟩) ?_⟩⟩)
      (fun hq => .inr ⟨⟨_, hq⟩, gs.1 _ tmem, fun H2 ht => ⟨_, ⟨_, rfl, Nat.zero_le _, ?_⟩, turns_tup (xs := ts.map V.ref) (fun i ys H => ∃ as, ys = as.map V.ref ∧ RulesT H as (rs.take i) ∧ Ext (TT K) No Hs H) (fun i ys H _ ⟨_, _, _, e⟩ => sqT hq e)
        (fun i ys v H hv ⟨as, g1, g2, g3⟩ => elt i ys v H as _ hv g1 g2 g3 fun t2 H4 k1 k2 => ⟨_, ?_, rfl, ?_, as ++ [t2], ?_, k1, k2⟩) ?_⟩⟩)
    all_goals first
      | (have hi := (List.getElem?_eq_some_iff.mp hv).1
         omega)
      | (rw [List.map_append, g1]
         rfl)
      | exact ⟨[], rfl, ⟨rfl, fun _ _ _ z => by simp at z⟩, Ext.tab tk tmem (gs.1 _ tmem) ht⟩
      | skip
    all_goals
      rintro ys H ⟨as, rfl, hr, e1⟩
      rw [tlen, List.take_length] at hr
      refine ⟨by rw [List.length_map, hr.1, sizeLine_eq]; omega, fun p hp => ?_⟩
      obtain ⟨H5, hH5⟩ : ∃ H5, H5 = upd H p (.tup (as.map V.ref)) := ⟨_, rfl⟩
      rw [← hH5]
      have e5 : Ext (TT K) No H H5 := by rw [hH5]; exact Ext.new hp
      have hv5 : H5 p = some (.tup (as.map V.ref)) := by rw [hH5]; exact upd_same
      clear hH5
      have E5 := e1.trans e5
      have hx5 := E5.fix _ _ hxs rfl
      walk_at "s"
      refine ⟨_, _, _, _, rfl, hx5, T.c_Leaps, T.na_Leaps_rules, by simp, ?_⟩
      obtain ⟨H6, hH6⟩ : ∃ H6, H6 = upd H5 x (.ins (LC K) dx (putF "rules" (.ref p) [])) := ⟨_, rfl⟩
      rw [← hH6]
      have E6 : Ext (TT K) No H0 H6 := by rw [hH6]; exact Ext.fld (exs.trans E5) hx hx5
      have hx6 : H6 x = some (.ins (LC K) dx [("rules", .ref p)]) := by rw [hH6]; exact upd_same
      have hp6 : H6 p = some (.tup (as.map V.ref)) := by rw [hH6]; exact upd_ins hx5 hv5 fun _ => by simp
      have hr6 : RulesT H6 as rs := ⟨hr.1, fun i t r g1 g2 => by rw [hH6]; exact upd_ins hx5 (e5.fix _ _ (hr.2 i t r g1 g2) rfl) fun _ => by simp⟩
      clear hH6
      have g6 : Gd (TT K) H6 := E6.gd gd
      have alen : as.length = rs.length := hr6.1
      walk_at "s"
      refine ⟨_, _, _, _, _, rfl, hx6, T.c_Leaps, T.na_Leaps_rules, rfl, ?_⟩
      refine ⟨_, _, rfl, .inr (SqT.of hp6), ?_⟩
      walk_at "s"
      have second : ∀ H7, Ext (TT K) No H6 H7 → 0 < rs.length → rs.length ≤ 6 → (∀ r ∈ rs, 1 ≤ r.1 ∧ r.1 ≤ 4000) →
          tIfS (tB (MG.tAnyG (He.cT K ("Leaps", some "__init__")).2 (RZ.iZipA K (tCons (tFld K (tVar 0) "rules") (tCons (tSl (rSlTN (TT K) K) (tFld K (tVar 0) "rules") (tPart (tC (V.int 1))) tNoPart) tNil)))
            (gTup K 2 (gCons (gName 4) (gCons (gName 5) gNil))) (tOp (rI0 fun i j => V.bl (decide (j ≤ i))) (tOp (rIxT K) (tVar 4) (tC (V.int 0))) (tOp (rIxT K) (tVar 5) (tC (V.int 0)))) [4, 5]))
            (fun _ σ H => E (YE K) none H) tNext { nx := fun _ H' => Q V.non H', rt := Q } (L2.start ["self", "rules", "number", "longer", "one", "other"] [V.ref x, V.ref q]) H7 := by
        intro H7 e7 pos six rng
        have hx7 := e7.fix _ _ hx6 rfl
        have hp7 := e7.fix _ _ hp6 rfl
        walk_at "s"
        refine ⟨_, _, _, _, _, rfl, hx7, T.c_Leaps, T.na_Leaps_rules, rfl, ?_⟩
        walk_at "s"
        refine ⟨_, _, _, _, _, rfl, hx7, T.c_Leaps, T.na_Leaps_rules, rfl, ?_⟩
        walk_at "s"
        refine ⟨_, _, rfl, SqT.of hp7, by rw [List.length_map, alen]; exact pos, ?_⟩
        refine ⟨rfl, rfl, fun p8 H8 hp8 hv8 e8 => ?_⟩
        have E8 := (E6.trans e7).trans e8
        have e68 := e7.trans e8
        have g8 : Gd (TT K) H8 := E8.gd gd
        refine ⟨_, _, _, _, rfl, .inr ⟨SqT.of (e8.fix _ _ hp7 rfl), SqT.of hv8, g8.1 _ tmem, fun H9 ht9 => ⟨_, ⟨_, rfl, Nat.zero_le _, ?_⟩, turns_zipT (xs := as.map V.ref) (zs := (as.map V.ref).drop 1) (fun i ys H => Ext (TT K) No H8 H ∧ ∀ k a b, k < i → rs[k]? = some a → rs[k + 1]? = some b → a.1 < b.1) (by simp) (fun i ys H _ ⟨e, _⟩ => ⟨SqT.of (e.fix _ _ (e8.fix _ _ hp7 rfl) rfl), SqT.of (e.fix _ _ hv8 rfl)⟩) ?_ ?_⟩⟩⟩
        · exact ⟨Ext.tab tk tmem (g8.1 _ tmem) ht9, fun k _ _ z => by omega⟩
        · rintro i ys v1 v2 t H9 hv1 hv2 ⟨e9, hk⟩ ht
          rw [List.getElem?_drop, Nat.add_comm 1 i] at hv2
          obtain ⟨t1, r1, rfl, ht1, hr1, hvt1⟩ := hr6.get hv1
          obtain ⟨t2, r2, rfl, ht2, hr2, hvt2⟩ := hr6.get hv2
          have hi2 := (List.getElem?_eq_some_iff.mp hv2).1
          have e10 : Ext (TT K) No H9 (upd H9 t (.tup [.ref t1, .ref t2])) := Ext.new ht
          have e610 := (e68.trans e9).trans e10
          refine ⟨_, _, rfl, SqT.of upd_same, rfl, ?_⟩
          walk_at "s"
          refine ⟨_, _, _, _, rfl, rfl, SqT.of (e610.fix _ _ hvt1 rfl), rfl, ?_⟩
          walk_at "s"
          refine ⟨_, _, _, _, rfl, rfl, SqT.of (e610.fix _ _ hvt2 rfl), rfl, ?_⟩
          walk_at "s"
          refine ifB (fun q3 => ?_) (fun q3 => ?_)
          · have q3 : r2.1 ≤ r1.1 := by
              have q3 : ((r2.1 : Nat) : Int) ≤ ((r1.1 : Nat) : Int) := by simpa using q3
              omega
            walk_at "s"
            exact hE (fun z => absurd (z.asc i r1 r2 hr1 hr2) (by omega)) _ (E6.trans e610)
          · have q3 : ¬ r2.1 ≤ r1.1 := by
              have q3 : ¬ ((r2.1 : Nat) : Int) ≤ ((r1.1 : Nat) : Int) := by simpa using q3
              omega
            refine ⟨_, ?_, rfl, ?_, e9.trans e10, fun k a b z1 z2 z3 => ?_⟩
            · rw [List.length_drop]
              omega
            · rw [List.length_drop]
              omega
            · by_cases hk2 : k = i
              · subst hk2
                rw [hr1] at z2
                rw [hr2] at z3
                cases z2
                cases z3
                omega
              · exact hk k a b (by omega) z2 z3
        · rintro ys H9 ⟨e9, hk⟩
          refine ⟨_, rfl, ?_⟩
          refine hQ ⟨pos, six, rng, fun i a b z1 z2 => hk i a b ?_ z1 z2⟩ H9 ⟨dx, p, as, e9.fix _ _ (e68.fix _ _ hx6 rfl) rfl, e9.fix _ _ (e68.fix _ _ hp6 rfl) rfl, hr6.ext (e68.trans e9)⟩ (E8.trans e9)
          have := (List.getElem?_eq_some_iff.mp z2).1
          rw [List.length_drop, List.length_map, alen]
          omega
      refine ifB (fun q1 => ?_) (fun q1 => ?_)
      · have q1 : 0 < rs.length := by
          have q1 : (0 : Int) < ((as.map V.ref).length : Nat) := by simpa using q1
          rw [List.length_map, alen] at q1
          omega
        walk_at "s"
        refine ifB (fun q2 => ?_) (fun q2 => ?_)
        · have q2 : ¬ rs.length ≤ 6 := by
            have q2 : ¬ (((as.map V.ref).length : Nat) : Int) ≤ 6 := by simpa using q2
            rw [List.length_map, alen] at q2
            omega
          exact hE (fun z => q2 z.six) _ E6
        have q2 : rs.length ≤ 6 := by
          have q2 : (((as.map V.ref).length : Nat) : Int) ≤ 6 := by simpa using q2
          rw [List.length_map, alen] at q2
          omega
        walk_at "s"
        refine ⟨_, _, _, _, _, rfl, hx6, T.c_Leaps, T.na_Leaps_rules, rfl, ?_⟩
        refine ⟨_, rfl, ⟨_, SqT.of hp6⟩, g6.1 _ tmem, fun H7 ht7 => ⟨_, ⟨_, rfl, Nat.zero_le _, ?_⟩, turns_tup (xs := as.map V.ref) (fun i ys H => Ext (TT K) No H6 H ∧ ∀ k r, k < i → rs[k]? = some r → 1 ≤ r.1 ∧ r.1 ≤ 4000) (fun i ys H _ ⟨e, _⟩ => SqT.of (e.fix _ _ hp6 rfl)) ?_ ?_⟩⟩
        · exact ⟨Ext.tab tk tmem (g6.1 _ tmem) ht7, fun k r z => by omega⟩
        · rintro i ys v H7 hv ⟨e7, hk⟩
          obtain ⟨t, r, rfl, ht, hr', hvt⟩ := hr6.get hv
          have hi := (List.getElem?_eq_some_iff.mp hv).1
          refine ⟨_, _, rfl, SqT.of (e7.fix _ _ hvt rfl), rfl, ?_⟩
          walk_at "s"
          refine ifB (fun q3 => ?_) (fun q3 => ?_)
          · have q3 : 1 ≤ r.1 := by
              have q3 : (1 : Int) ≤ (r.1 : Nat) := by simpa using q3
              omega
            walk_at "s"
            refine ifB (fun q4 => ?_) (fun q4 => ?_)
            · have q4 : ¬ r.1 ≤ 4000 := by
                have q4 : ¬ ((r.1 : Nat) : Int) ≤ 4000 := by simpa using q4
                omega
              walk_at "s"
              exact hE (fun z => q4 (z.rng r (List.mem_of_getElem? hr')).2) _ (E6.trans e7)
            · have q4 : r.1 ≤ 4000 := by
                have q4 : ((r.1 : Nat) : Int) ≤ 4000 := by simpa using q4
                omega
              refine ⟨_, by omega, rfl, hi, e7, fun k r2 z1 z2 => ?_⟩
              by_cases hk2 : k = i
              · subst hk2
                rw [hr'] at z2
                cases z2
                exact ⟨q3, q4⟩
              · exact hk k r2 (by omega) z2
          · have q3 : ¬ 1 ≤ r.1 := by
              have q3 : ¬ (1 : Int) ≤ (r.1 : Nat) := by simpa using q3
              omega
            walk_at "s"
            exact hE (fun z => q3 (z.rng r (List.mem_of_getElem? hr')).1) _ (E6.trans e7)
        · rintro ys H7 ⟨e7, hk⟩
          refine ⟨_, rfl, ?_⟩
          refine second H7 e7 q1 q2 fun r hr => ?_
          obtain ⟨k, hk1, hk2⟩ := List.mem_iff_getElem.mp hr
          exact hk k r (by rw [List.length_map, alen]; exact hk1) (by rw [List.getElem?_eq_getElem hk1, hk2])
      · have q1 : ¬ 0 < rs.length := by
          have q1 : ¬ (0 : Int) < ((as.map V.ref).length : Nat) := by simpa using q1
          rw [List.length_map, alen] at q1
          omega
        walk_at "s"
        exact hE (fun z => q1 z.pos) _ E6
end K01

set_option Elab.async false
set_option linter.all false
set_option maxRecDepth 100000
set_option maxHeartbeats 2000000
namespace K01
open PySem PySem.Spec PyProof.Rows L2 MB
local macro_rules | `(tactic| walk_at "s") => `(tactic| repeat (first | refine ⟨_, rfl, ?_⟩ | refine ⟨_, _, rfl, rfl, ?_⟩ | refine ⟨_, _, rfl, ?_⟩ | refine ⟨rfl, ?_⟩))
variable {P : Program} {w : World} {K : PySem.W.Frag} {mg : Str → Option Value} {base : Heap}
/-! ### best_rules -/
def BestV (H : Hp) (y : Nat) (v : V) : MM.Bs → Prop
  | none => v = .non
  | some (o, s, c) => ∃ t, v = .ref t ∧ 0 < c ∧ c ≤ 500 ∧ H t = some (.tup [.int (o : Nat), .int ((y : Nat) * (c : Nat) : Int), .int (s : Nat), .int (c : Nat)])
theorem BestV.ext {T : Tb} {M : Addr → Prop} {H H' : Hp} {y : Nat} {v : V} {b : MM.Bs} (h : BestV H y v b) (e : Ext T M H H') : BestV H' y v b := by
  match b, h with
  | none, h => exact h
  | some (o, s, c), ⟨t, h1, h3, h4, h2⟩ => exact ⟨t, h1, h3, h4, e.fix _ _ h2 rfl⟩
theorem absI (i : Int) : (if i < 0 then -i else i) = (i.natAbs : Nat) := by
  split <;> omega
def spBest (K : PySem.W.Frag) : Sp := fun vs H Q E => ∃ d y m : Int, vs = [.int d, .int y, .int m] ∧ y < 2 ^ 30 ∧
  (1 ≤ y → 0 ≤ d → d ≤ y → 1 ≤ m → m ≤ 500 → ∀ t t2 H' o s c, MM.bst d.toNat y.toNat m.toNat = some (o, s, c) → H' t = some (.tup [.ref t2, .int (s : Nat), .int (c : Nat)]) →
    H' t2 = some (.tup [.int ((o / Nat.gcd o (y.toNat * c) : Nat) : Int), .int ((y.toNat * c / Nat.gcd o (y.toNat * c) : Nat) : Int)]) → Ext (TT K) No H H' → Q (.ref t) H') ∧
  (¬ (1 ≤ y ∧ 0 ≤ d ∧ d ≤ y ∧ 1 ≤ m ∧ m ≤ 500) → E (YE K) none H)
theorem ok_best_rules (T : Tx K mg base) : FnOk P w K mg base (L2.CX P w) 1 (He.fAd K ("best_rules", none)) T.fd_best_rules ["days", "years", "most"] (spBest K) := by
  refine T.F_best_rules.ok sc_best_rules (fun vs H Q E h => ?_) (fun cdv A outer s H vs Q E hr h => ⟨_, (pss_cons (ps_if (PW.pt (pw_or (pt_cmpR op_lt (pv 1) pe_int (nomark _)) (pw_or (pt_not (pt_chain op_le op_le pe_int (pv 0) (pv 1))) (pw_or1 (pt_not (pt_chain op_le op_le pe_int (pv 2) pe_int)))))) (pss_one (ps_raise rfl (takes_of rfl rfl rfl rfl) (pmk_own PySem.F.excBase_ValueError T.x_YearError.1 T.g_YearError T.x_YearError.2.1 (raises_own T.x_YearError.2.2.1 T.x_YearError.2.2.2) rfl))) pss_nil)
 (pss_cons (ps_set (i := 3) sc_best_rules.nd rfl (Or.inl rfl) pe_non)
 (pss_cons (ps_for (passes_of rfl) rfl (pi_range2 rfl T.b_range (pa_cons pe_int (pa_cons (pe_op op_add (pv 2) pe_int) pa_nil))) (pg_name (i := 4) sc_best_rules.nd rfl (Or.inl rfl)) (pss_cons (ps_set (i := 5) sc_best_rules.nd rfl (Or.inl rfl) (pe_op op_fdiv (pe_op op_mul (pv 0) (pv 4)) (pv 1)))
 (pss_one (ps_for (passes_of rfl) rfl (pi_tupK (K := K) rfl (pe_tupN (T := TT K) (pa_cons (pv 5) (pa_cons (pe_op op_add (pv 5) pe_int) pa_nil)))) (pg_name (i := 6) sc_best_rules.nd rfl (Or.inl rfl)) (pss_cons (ps_par (i := 7) (j := 8) rfl sc_best_rules.nd rfl rfl (by decide) rfl rfl (pa_cons (pe_callB call_abs rfl T.b_abs (by decide +kernel) (pa_cons (pe_op op_sub (pe_op op_mul (pv 0) (pv 4)) (pe_op op_mul (pv 6) (pv 1))) pa_nil)) (pa_cons (pe_op op_mul (pv 1) (pv 4)) pa_nil)) rfl)
 (pss_one (ps_if (PW.pt (pw_or (pt_cmpR op_isN (pv 3) pe_non (nomark _)) (pw_or1 (pt_cmpR op_lt (pe_op op_mul (pv 7) (pe_ix (ix_tupK (K := K) rfl) (pv 3) pe_int (fun _ _ => rfl))) (pe_op op_mul (pe_ix (ix_tupK (K := K) rfl) (pv 3) pe_int (fun _ _ => rfl)) (pv 8)) (nomark _))))) (pss_one (ps_set (i := 3) sc_best_rules.nd rfl (Or.inl rfl) (pe_tupN (T := TT K) (pa_cons (pv 7) (pa_cons (pv 8) (pa_cons (pv 6) (pa_cons (pv 4) pa_nil))))))) pss_nil)))))))
 (pss_cons (ps_par (i := 9) (j := 10) rfl sc_best_rules.nd rfl rfl (by decide) rfl rfl (pa_cons (pe_ix (ix_tupK (K := K) rfl) (pv 3) pe_int (fun _ _ => rfl)) (pa_cons (pe_ix (ix_tupK (K := K) rfl) (pv 3) pe_int (fun _ _ => rfl)) pa_nil)) rfl)
 (pss_cons (ps_while (passes_of rfl) (pt_cmpR op_ne (pv 10) pe_int (nomark _)) (pss_one (ps_par (i := 9) (j := 10) rfl sc_best_rules.nd rfl rfl (by decide) rfl rfl (pa_cons (pv 10) (pa_cons (pe_op op_mod (pv 9) (pv 10)) pa_nil)) rfl)))
 (pss_one (ps_ret (pe_tupN (T := TT K) (pa_cons (pe_tupN (T := TT K) (pa_cons (pe_op op_fdivW (pe_ix (ix_tupK (K := K) rfl) (pv 3) pe_int (fun _ _ => rfl)) (pv 9)) (pa_cons (pe_op op_fdivW (pe_ix (ix_tupK (K := K) rfl) (pv 3) pe_int (fun _ _ => rfl)) (pv 9)) pa_nil))) (pa_cons (pe_ix (ix_tupK (K := K) rfl) (pv 3) pe_int (fun _ _ => rfl)) (pa_cons (pe_ix (ix_tupK (K := K) rfl) (pv 3) pe_int (fun _ _ => rfl)) pa_nil))))))))))), ?_⟩)
  · obtain ⟨d, y, m, rfl, _⟩ := h
    rfl
  · obtain ⟨d, y, m, rfl, hy30, hQ, hE⟩ := h
    walk_at "s"
    refine ifB (fun q1 => ?_) (fun q1 => ?_)
    · have q1 : y < 1 := by simpa using q1
      exact hE fun z => by omega
    have q1 : ¬ y < 1 := by simpa using q1
    walk_at "s"
    refine ifBr (fun q2 => ?_) (fun q2 => ?_)
    · have q2 : ¬ 0 ≤ d := by simpa using q2
      walk_at "s"
      exact hE fun z => by omega
    have q2 : 0 ≤ d := by simpa using q2
    walk_at "s"
    refine ifB (fun q3 => ?_) (fun q3 => ?_)
    · have q3 : ¬ d ≤ y := by simpa using q3
      exact hE fun z => by omega
    have q3 : d ≤ y := by simpa using q3
    walk_at "s"
    refine ifBr (fun q4 => ?_) (fun q4 => ?_)
    · have q4 : ¬ 1 ≤ m := by simpa using q4
      walk_at "s"
      exact hE fun z => by omega
    have q4 : 1 ≤ m := by simpa using q4
    walk_at "s"
    refine ifB (fun q5 => ?_) (fun q5 => ?_)
    · have q5 : ¬ m ≤ 500 := by simpa using q5
      exact hE fun z => by omega
    have q5 : m ≤ 500 := by simpa using q5
    obtain ⟨d, rfl⟩ := Int.eq_ofNat_of_zero_le q2
    obtain ⟨y, rfl⟩ := Int.eq_ofNat_of_zero_le (show 0 ≤ y by omega)
    obtain ⟨m, rfl⟩ := Int.eq_ofNat_of_zero_le (show 0 ≤ m by omega)
    have hQ := hQ (by omega) (by omega) q3 q4 q5
    simp only [Int.toNat_natCast] at hQ
    have hy0 : 0 < y := by omega
    walk_at "s"
    refine ⟨⟨by omega, by omega, by omega, by omega⟩, ?_⟩
    have hlen : ((m : Int) + 1 - 1).toNat = m := by omega
    rw [hlen]
    refine for_range (fun i σ' H' => ∃ (v : V) (u1 u2 u3 u4 u5 u6 u7 : Option V), σ' = [some (.int d), some (.int y), some (.int m), some v, u1, u2, u3, u4, u5, u6, u7] ∧ BestV H' y v (MM.bst d y i) ∧ Ext (TT K) No H H') ⟨.non, _, _, _, _, _, _, _, rfl, rfl, .refl⟩ ?_ ?_
    · rintro i σ' H' hi ⟨v, u1, u2, u3, u4, u5, u6, u7, rfl, hb, e1⟩
      walk_at "s"
      refine ⟨.inl ⟨by omega, by omega⟩, ?_⟩
      walk_at "s"
      refine ⟨⟨by omega, by omega⟩, ?_⟩
      walk_at "s"
      refine ⟨sz, fun tp H2 htp hvp e2 => ?_⟩
      obtain ⟨lw, hlw⟩ : ∃ lw : Nat, lw = d * (i + 1) / y := ⟨_, rfl⟩
      have hlI : ((d : Int) * (1 + (i : Int))) / (y : Int) = (lw : Int) := by
        rw [hlw, Int.natCast_ediv, Int.natCast_mul, Int.natCast_add, Int.add_comm]
        rfl
      obtain ⟨bj, hb0, hb1, hb2⟩ : ∃ bj : Nat → MM.Bs, bj 0 = MM.bst d y i ∧ bj 1 = MM.upB (bj 0) (MM.offF d y (i + 1) lw) lw (i + 1) ∧ bj 2 = MM.upB (bj 1) (MM.offF d y (i + 1) (lw + 1)) (lw + 1) (i + 1) :=
        ⟨fun k => match k with
          | 0 => MM.bst d y i
          | 1 => MM.upB (MM.bst d y i) (MM.offF d y (i + 1) lw) lw (i + 1)
          | _ => MM.upB (MM.upB (MM.bst d y i) (MM.offF d y (i + 1) lw) lw (i + 1)) (MM.offF d y (i + 1) (lw + 1)) (lw + 1) (i + 1), rfl, rfl, rfl⟩
      have hb3 : bj 2 = MM.bst d y (i + 1) := by
        rw [hb2, hb1, hb0, hlw]
        exact MM.bst_two d y i
      refine ⟨_, rfl, ⟨_, SqT.of hvp⟩, ?_⟩
      refine for_tup (fun j σ2 H3 => ∃ (v : V) (u3 u4 u5 u6 u7 : Option V), σ2 = [some (.int d), some (.int y), some (.int m), some v, some (.int (1 + (i : Int))), some (.int ((d : Int) * (1 + (i : Int)) / (y : Int))), u3, u4, u5, u6, u7] ∧ BestV H3 y v (bj j) ∧ Ext (TT K) No H2 H3) ⟨v, _, _, _, _, _, rfl, by rw [hb0]; exact hb.ext e2, .refl⟩ (fun j σ2 H3 _ ⟨_, _, _, _, _, _, _, _, e⟩ => SqT.of (e.fix _ _ hvp rfl)) ?_ ?_
      · rintro j x σ2 H3 hx ⟨v, u3, u4, u5, u6, u7, rfl, hb, e3⟩
        obtain ⟨lg, rfl, hbj⟩ : ∃ lg : Nat, x = .int (lg : Nat) ∧ bj (j + 1) = MM.upB (bj j) (MM.offF d y (i + 1) lg) lg (i + 1) := by
          match j with
          | 0 => exact ⟨lw, by rw [← hlI]; exact (Option.some.inj hx).symm, hb1⟩
          | 1 => exact ⟨lw + 1, by rw [Int.natCast_add, ← hlI]; exact (Option.some.inj hx).symm, hb2⟩
          | j + 2 => simp at hx
        rw [hbj]
        have hwh : (y : Int) * (1 + (i : Int)) = (y : Int) * ((i + 1 : Nat) : Int) := by rw [Int.natCast_add, Int.add_comm]; rfl
        have hwb : (y : Int) * ((i + 1 : Nat) : Int) < 2 ^ 40 := by
          have h1 : y * (i + 1) ≤ 2 ^ 30 * 500 := Nat.mul_le_mul (by omega) (by omega)
          rw [← Int.natCast_mul]
          omega
        have hwp : 0 ≤ (y : Int) * ((i + 1 : Nat) : Int) := by rw [← Int.natCast_mul]; omega
        have hof : ((d : Int) * (1 + (i : Int)) - (lg : Int) * (y : Int)).natAbs = MM.offF d y (i + 1) lg := by
          unfold MM.offF
          rw [Int.natCast_add, Int.add_comm 1]
          rfl
        walk_at "s"
        refine ⟨.inl ⟨by omega, by omega⟩, ?_⟩
        walk_at "s"
        refine ⟨.inr ⟨by omega, by omega⟩, ?_⟩
        walk_at "s"
        refine ⟨.inl ⟨by omega, by omega⟩, ?_⟩
        walk_at "s"
        have hi1 : ((i + 1 : Nat) : Int) = 1 + (i : Int) := by omega
        have put : ∀ tn H5, H5 tn = some (.tup [.int (if ((d : Int) * (1 + (i : Int)) - (lg : Int) * (y : Int)) < 0 then -((d : Int) * (1 + (i : Int)) - (lg : Int) * (y : Int)) else ((d : Int) * (1 + (i : Int)) - (lg : Int) * (y : Int))), .int ((y : Int) * (1 + (i : Int))), .int (lg : Nat), .int (1 + (i : Int))]) →
            BestV H5 y (.ref tn) (some (MM.offF d y (i + 1) lg, lg, i + 1)) := fun tn H5 h => by
          rw [absI, hof] at h
          refine ⟨tn, rfl, by omega, by omega, ?_⟩
          rw [hi1]
          exact h
        match hbb : bj j, hb with
        | none, hb =>
          cases hb
          refine ifB (fun _ => ?_) (fun q => by cases q)
          refine ifB (fun _ => ?_) (fun q => by cases q)
          walk_at "s"
          refine ⟨sz, fun tn H5 hpn hvn e5 => ?_⟩
          exact ⟨_, _, _, _, _, _, rfl, put tn H5 hvn, e3.trans e5⟩
        | some (o, s', c), ⟨tb, hvb, hc0, hc5, htb⟩ =>
          subst hvb
          have hoI : ((if ((d : Int) * (1 + (i : Int)) - (lg : Int) * (y : Int)) < 0 then -((d : Int) * (1 + (i : Int)) - (lg : Int) * (y : Int)) else ((d : Int) * (1 + (i : Int)) - (lg : Int) * (y : Int)))) = ((MM.offF d y (i + 1) lg : Nat) : Int) := by rw [absI, hof]
          refine ifB (fun q => by cases q) (fun _ => ?_)
          walk_at "s"
          refine ⟨_, _, _, _, rfl, rfl, SqT.of htb, rfl, ?_⟩
          walk_at "s"
          have hyc : (y : Int) * (c : Int) < 2 ^ 40 := by
            have h1 : y * c ≤ 2 ^ 30 * 500 := Nat.mul_le_mul (by omega) (by omega)
            rw [← Int.natCast_mul]
            omega
          have hyc0 : 0 ≤ (y : Int) * (c : Int) := by rw [← Int.natCast_mul]; omega
          refine ⟨.inr ⟨by omega, by omega⟩, ?_⟩
          walk_at "s"
          refine ⟨_, _, _, _, rfl, rfl, SqT.of htb, rfl, ?_⟩
          walk_at "s"
          refine ⟨.inr ⟨by omega, by omega⟩, ?_⟩
          walk_at "s"
          have hdec : decide (((if ((d : Int) * (1 + (i : Int)) - (lg : Int) * (y : Int)) < 0 then -((d : Int) * (1 + (i : Int)) - (lg : Int) * (y : Int)) else ((d : Int) * (1 + (i : Int)) - (lg : Int) * (y : Int)))) * ((y : Int) * (c : Int)) < (o : Int) * ((y : Int) * (1 + (i : Int)))) = MM.better (some (o, s', c)) (MM.offF d y (i + 1) lg) (i + 1) := by
            rw [hoI, hwh]
            show _ = decide (MM.offF d y (i + 1) lg * c < o * (i + 1))
            generalize MM.offF d y (i + 1) lg = f
            have e1 : (f : Int) * ((y : Int) * (c : Int)) = ((y * (f * c) : Nat) : Int) := by
              rw [Int.natCast_mul, Int.natCast_mul, Int.mul_left_comm]
            have e2 : (o : Int) * ((y : Int) * ((i + 1 : Nat) : Int)) = ((y * (o * (i + 1)) : Nat) : Int) := by
              rw [Int.natCast_mul, Int.natCast_mul, Int.mul_left_comm]
            rw [e1, e2]
            congr 1
            refine propext ⟨fun h => ?_, fun h => ?_⟩
            · exact Nat.lt_of_mul_lt_mul_left (a := y) (by omega)
            · have := Nat.mul_lt_mul_of_pos_left h hy0
              omega
          refine ifB (fun q => ?_) (fun q => ?_)
          · have q := hdec.symm.trans q
            have eU : MM.upB (some (o, s', c)) (MM.offF d y (i + 1) lg) lg (i + 1) = some (MM.offF d y (i + 1) lg, lg, i + 1) := by
              unfold MM.upB
              rw [if_pos q]
            rw [eU]
            walk_at "s"
            refine ⟨sz, fun tn H5 hpn hvn e5 => ?_⟩
            exact ⟨_, _, _, _, _, _, rfl, put tn H5 hvn, e3.trans e5⟩
          · have q := hdec.symm.trans q
            have eU : MM.upB (some (o, s', c)) (MM.offF d y (i + 1) lg) lg (i + 1) = some (o, s', c) := by
              unfold MM.upB
              rw [if_neg (by rw [q]; decide)]
            rw [eU]
            exact ⟨_, _, _, _, _, _, rfl, ⟨tb, rfl, hc0, hc5, htb⟩, e3⟩
      · rintro σ2 H3 ⟨v, u3, u4, u5, u6, u7, rfl, hb, e3⟩
        refine ⟨v, _, _, _, _, _, _, _, rfl, ?_, (e1.trans e2).trans e3⟩
        rw [← hb3]
        exact hb
    · rintro σ' H' ⟨v, u1, u2, u3, u4, u5, u6, u7, rfl, hb, e1⟩
      obtain ⟨o, s', c, hbs, hc0, hcm⟩ := MM.bst_some d y m (by omega)
      rw [hbs] at hb
      obtain ⟨tb, rfl, _, hc5, htb⟩ := hb
      walk_at "s"
      refine ⟨_, _, _, _, rfl, rfl, SqT.of htb, rfl, ?_⟩
      walk_at "s"
      refine ⟨_, _, _, _, rfl, rfl, SqT.of htb, rfl, ?_⟩
      walk_at "s"
      have hW0 : 0 < y * c := Nat.mul_pos hy0 hc0
      have hW1 : y * c ≤ 2 ^ 30 * 500 := Nat.mul_le_mul (by omega) (by omega)
      have hWI : (y : Int) * (c : Int) = ((y * c : Nat) : Int) := (Int.natCast_mul _ _).symm
      rw [hWI] at htb
      have hQ := hQ
      generalize y * c = wh at hW0 hW1 hWI htb
      refine ⟨fun k σ2 H2 => ∃ (x z : Nat), σ2 = [some (.int d), some (.int y), some (.int m), some (.ref tb), u1, u2, u3, u4, u5, some (.int (x : Nat)), some (.int (z : Nat))] ∧ H2 = H' ∧ k = z ∧ Nat.gcd x z = Nat.gcd o wh, ⟨wh, o, wh, by rw [← hWI]; rfl, rfl, rfl, rfl⟩, ?_⟩
      rintro k σ2 H2 ⟨x, z, rfl, rfl, rfl, hg⟩
      walk_at "s"
      refine ifB (fun h => ?_) (fun h => ?_)
      · refine ⟨_, fun _ _ h => h, ?_⟩
        have hz : 0 < k := by simp at h; omega
        walk_at "s"
        refine ⟨by omega, ?_⟩
        walk_at "s"
        refine ⟨x % k, Nat.mod_lt _ hz, k, x % k, ?_, rfl, rfl, ?_⟩
        · simp [List.set]
        · rw [← hg, Nat.gcd_comm x k, Nat.gcd_rec k x, Nat.gcd_comm]
      · have hz : k = 0 := by simp at h; omega
        subst hz
        rw [Nat.gcd_zero_right] at hg
        have hx0 : 0 < x := by rw [hg]; exact Nat.gcd_pos_of_pos_right _ hW0
        have hx1 : x ≤ wh := by rw [hg]; exact Nat.le_of_dvd hW0 (Nat.gcd_dvd_right _ _)
        have hxl : x.log2 < 9000 := by
          have h1 : x.log2 < 40 := (Nat.log2_lt (by omega)).mpr (by omega)
          omega
        walk_at "s"
        refine ⟨_, _, _, _, rfl, rfl, SqT.of htb, rfl, ?_⟩
        walk_at "s"
        refine ⟨⟨by omega, by simpa using hxl⟩, ?_⟩
        walk_at "s"
        refine ⟨_, _, _, _, rfl, rfl, SqT.of htb, rfl, ?_⟩
        walk_at "s"
        refine ⟨⟨by omega, by simpa using hxl⟩, ?_⟩
        refine ⟨sz, fun t2 H3 hp2 hv2 e3 => ?_⟩
        walk_at "s"
        refine ⟨_, _, _, _, rfl, rfl, SqT.of (e3.fix _ _ htb rfl), rfl, ?_⟩
        walk_at "s"
        refine ⟨_, _, _, _, rfl, rfl, SqT.of (e3.fix _ _ htb rfl), rfl, ?_⟩
        refine ⟨sz, fun t4 H4 hp4 hv4 e4 => ?_⟩
        have eW : wh = y * c := by omega
        refine hQ t4 t2 H4 o s' c hbs hv4 ?_ ((e1.trans e3).trans e4)
        have h5 := e4.fix _ _ hv2 rfl
        rw [← eW, ← hg, Int.natCast_ediv, Int.natCast_ediv]
        exact h5
end K01

set_option Elab.async false
set_option linter.all false
set_option maxRecDepth 100000
set_option maxHeartbeats 2000000
namespace K01
open PySem PySem.Spec PyProof.Rows L2 MB
local macro_rules | `(tactic| walk_at "s") => `(tactic| repeat (first | refine ⟨_, rfl, ?_⟩ | refine ⟨_, _, rfl, rfl, ?_⟩ | refine ⟨_, _, rfl, ?_⟩ | refine ⟨rfl, ?_⟩))
variable {P : Program} {w : World} {K : PySem.W.Frag} {mg : Str → Option Value} {base : Heap}
/-! ### _law_dice -/
def spDice (K : PySem.W.Frag) : Sp := fun vs H Q _ => ∃ c : Int, vs = [.int c] ∧ ∀ p H', H p = none → DiceAt H' p → Ext (TT K) No H H' → Q (.ref p) H'
theorem ok_law_dice (T : Tx K mg base) : FnOk P w K mg base (L2.CX P w) 1 (He.fAd K ("_law_dice", none)) T.fd_law_dice ["cell"] (spDice K) := by
  refine T.F_law_dice.ok sc_law_dice (fun vs H Q E h => ?_) (fun cdv A outer s H vs Q E hr h => ⟨_, (pss_cons (ps_if (pt_chain op_lt op_lt (pe_op op_sub pe_int pe_int) (pv 0) pe_int) (pss_one (ps_ret (pe_lstN (T := TT K) (pa_cons (pe_callB call_abs rfl T.b_abs (by decide +kernel) (pa_cons (pv 0) pa_nil)) (pa_cons pe_int (pa_cons pe_int pa_nil)))))) pss_nil)
 (pss_one (ps_ret (pe_lstN (T := TT K) (pa_cons (pv 0) (pa_cons (pe_op op_add pe_int (pe_op op_mod (pe_callTy call_int1 rfl T.b_int (by decide +kernel) (pa_cons (pv 0) pa_nil)) pe_int)) (pa_cons (pe_callTy call_int1 rfl T.b_int (by decide +kernel) (pa_cons (pe_cmpR op_ge (pv 0) (pe_op op_pow pe_int pe_int) (nomark _)) pa_nil)) pa_nil))))))), ?_⟩)
  · obtain ⟨c, rfl, _⟩ := h
    rfl
  · obtain ⟨c, rfl, hQ⟩ := h
    walk_at "s"
    refine ifB (fun q1 => ?_) (fun q1 => ?_)
    · walk_at "s"
      refine ifB (fun q2 => ?_) (fun q2 => ?_)
      · walk_at "s"
        refine ⟨sz, fun p H2 h1 h2 e => hQ p H2 h1 ⟨_, _, _, h2⟩ e⟩
      · walk_at "s"
        refine .inl ⟨_, rfl, ?_⟩
        walk_at "s"
        refine ⟨(by show (0 : Int) < 1009; decide), ?_⟩
        walk_at "s"
        refine ⟨⟨by decide, by decide, by decide⟩, ?_⟩
        walk_at "s"
        refine .inr ⟨_, rfl, ?_⟩
        walk_at "s"
        refine ⟨sz, fun p H2 h1 h2 e => hQ p H2 h1 ⟨_, _, _, h2⟩ e⟩
    · walk_at "s"
      refine .inl ⟨_, rfl, ?_⟩
      walk_at "s"
      refine ⟨(by show (0 : Int) < 1009; decide), ?_⟩
      walk_at "s"
      refine ⟨⟨by decide, by decide, by decide⟩, ?_⟩
      walk_at "s"
      refine .inr ⟨_, rfl, ?_⟩
      walk_at "s"
      refine ⟨sz, fun p H2 h1 h2 e => hQ p H2 h1 ⟨_, _, _, h2⟩ e⟩
/-! ### _law_roll -/
def spRoll (K : PySem.W.Frag) : Sp := fun vs H Q _ => ∃ (p : Addr) (m : Int), vs = [.ref p, .int m] ∧ DiceAt H p ∧ 1 ≤ m ∧ m ≤ 100000000 ∧ ∀ (r : Nat) H', (r : Int) < m → DiceAt H' p → Ext (TT K) (· = p) H H' → Q (.int (r : Nat)) H'
theorem ok_law_roll (T : Tx K mg base) : FnOk P w K mg base (L2.CX P w) 1 (He.fAd K ("_law_roll", none)) T.fd_law_roll ["dice", "many"] (spRoll K) := by
  refine T.F_law_roll.ok sc_law_roll (fun vs H Q E h => ?_) (fun cdv A outer s H vs Q E hr h => ⟨_, (pss_cons (ps_if (PW.pt (pw_or (pt_cmpR op_eq (pe_ix (ix_listK (K := K) rfl) (pv 0) pe_int (fun _ _ => rfl)) pe_int (nomark _)) (pw_or1 (PW.pt (pw_and (pt_cmpR op_eq (pe_ix (ix_listK (K := K) rfl) (pv 0) pe_int (fun _ _ => rfl)) pe_int (nomark _)) (pw_and1 (pt_cmpR op_gt (pe_ix (ix_listK (K := K) rfl) (pv 0) pe_int (fun _ _ => rfl)) pe_int (nomark _)))))))) (pss_cons (ps_set (i := 2) sc_law_roll.nd rfl (Or.inl rfl) (pe_op op_mod (pe_callTy call_int1 rfl T.b_int (by decide +kernel) (pa_cons (pe_ix (ix_listK (K := K) rfl) (pv 0) pe_int (fun _ _ => rfl)) pa_nil)) (pv 1)))
 (pss_cons (ps_asg (pe_op op_fdiv (pe_ix (ix_listK (K := K) rfl) (pv 0) pe_int (fun _ _ => rfl)) (pv 1)) (pg_sub (pv 0) pe_int (set_listN (T := TT K))))
 (pss_one (ps_ret (pv 2))))) pss_nil)
 (pss_cons (ps_asg pe_int (pg_sub (pv 0) pe_int (set_listN (T := TT K))))
 (pss_cons (ps_if (pt_cmpR op_gt (pv 1) pe_int (nomark _)) (pss_one ps_never) pss_nil)
 (pss_cons (ps_asg (pe_op op_mod (pe_callTy call_int1 rfl T.b_int (by decide +kernel) (pa_cons (pe_op op_add (pe_op op_add (pe_op op_mul (pe_ix (ix_listK (K := K) rfl) (pv 0) pe_int (fun _ _ => rfl)) pe_int) (pe_op op_mul (pe_ix (ix_listK (K := K) rfl) (pv 0) pe_int (fun _ _ => rfl)) pe_int)) pe_int) pa_nil)) pe_int) (pg_sub (pv 0) pe_int (set_listN (T := TT K))))
 (pss_cons (ps_asg (pe_op op_add (pe_ix (ix_listK (K := K) rfl) (pv 0) pe_int (fun _ _ => rfl)) pe_int) (pg_sub (pv 0) pe_int (set_listN (T := TT K))))
 (pss_one (ps_ret (pe_op op_mod (pe_callTy call_int1 rfl T.b_int (by decide +kernel) (pa_cons (pe_op op_fdiv (pe_ix (ix_listK (K := K) rfl) (pv 0) pe_int (fun _ _ => rfl)) pe_int) pa_nil)) (pv 1))))))))), ?_⟩)
  · obtain ⟨p, m, rfl, _⟩ := h
    rfl
  · obtain ⟨p, m, rfl, ⟨c, n, k, hp⟩, hm1, hm2, hQ⟩ := h
    have fin1 : ∀ H1, H1 p = some (.lst [.int (c / m), .int n, .int k]) → Ext (TT K) (· = p) H H1 → Q (.int (c % m)) H1 := fun H1 h1 e1 => by
      have h0 := Int.emod_nonneg c (show m ≠ 0 by omega)
      have hl := Int.emod_lt_of_pos c (show 0 < m by omega)
      obtain ⟨r, hr⟩ := Int.eq_ofNat_of_zero_le h0
      rw [hr] at hl ⊢
      exact hQ r H1 hl ⟨_, _, _, h1⟩ e1
    have fin2 : ∀ (z : Int) H1, DiceAt H1 p → Ext (TT K) (· = p) H H1 → Q (.int (z % m)) H1 := fun z H1 h1 e1 => by
      have h0 := Int.emod_nonneg z (show m ≠ 0 by omega)
      have hl := Int.emod_lt_of_pos z (show 0 < m by omega)
      obtain ⟨r, hr⟩ := Int.eq_ofNat_of_zero_le h0
      rw [hr] at hl ⊢
      exact hQ r H1 hl h1 e1
    walk_at "s"
    refine ⟨_, _, _, _, rfl, rfl, SqL.of hp, rfl, ?_⟩
    walk_at "s"
    refine ifB (fun q1 => ?_) (fun q1 => ?_)
    · walk_at "s"
      refine ⟨_, _, _, _, rfl, rfl, SqL.of hp, rfl, ?_⟩
      walk_at "s"
      refine .inl ⟨_, rfl, ?_⟩
      walk_at "s"
      refine ⟨by omega, ?_⟩
      walk_at "s"
      refine ⟨_, _, _, _, rfl, rfl, SqL.of hp, rfl, ?_⟩
      walk_at "s"
      refine ⟨⟨by omega, by omega⟩, ?_⟩
      walk_at "s"
      refine ⟨_, _, _, _, rfl, rfl, hp, rfl, fun H1 h1 e1 => ?_⟩
      walk_at "s"
      exact fin1 H1 h1 e1
    · walk_at "s"
      refine ⟨_, _, _, _, rfl, rfl, SqL.of hp, rfl, ?_⟩
      walk_at "s"
      refine ifB (fun q2 => ?_) (fun q2 => ?_)
      · walk_at "s"
        refine ⟨_, _, _, _, rfl, rfl, SqL.of hp, rfl, ?_⟩
        walk_at "s"
        refine ifB (fun q3 => ?_) (fun q3 => ?_)
        · walk_at "s"
          refine ⟨_, _, _, _, rfl, rfl, SqL.of hp, rfl, ?_⟩
          walk_at "s"
          refine .inl ⟨_, rfl, ?_⟩
          walk_at "s"
          refine ⟨by omega, ?_⟩
          walk_at "s"
          refine ⟨_, _, _, _, rfl, rfl, SqL.of hp, rfl, ?_⟩
          walk_at "s"
          refine ⟨⟨by omega, by omega⟩, ?_⟩
          walk_at "s"
          refine ⟨_, _, _, _, rfl, rfl, hp, rfl, fun H1 h1 e1 => ?_⟩
          walk_at "s"
          exact fin1 H1 h1 e1
        · walk_at "s"
          refine ⟨_, _, _, _, rfl, rfl, hp, rfl, fun H1 h1 e1 => ?_⟩
          walk_at "s"
          refine ifB (fun q => absurd q (by simpa using hm2)) (fun _ => ?_)
          walk_at "s"
          refine ⟨_, _, _, _, rfl, rfl, SqL.of h1, rfl, ?_⟩
          walk_at "s"
          refine ⟨.inr ⟨by decide, by decide⟩, ?_⟩
          walk_at "s"
          refine ⟨_, _, _, _, rfl, rfl, SqL.of h1, rfl, ?_⟩
          walk_at "s"
          refine ⟨.inr ⟨by decide, by decide⟩, ?_⟩
          walk_at "s"
          refine .inl ⟨_, rfl, ?_⟩
          walk_at "s"
          refine ⟨(by show (0 : Int) < 2147483647; decide), ?_⟩
          walk_at "s"
          refine ⟨_, _, _, _, rfl, rfl, h1, rfl, fun H2 h2 e2 => ?_⟩
          walk_at "s"
          refine ⟨_, _, _, _, rfl, rfl, SqL.of h2, rfl, ?_⟩
          walk_at "s"
          refine ⟨_, _, _, _, rfl, rfl, h2, rfl, fun H3 h3 e3 => ?_⟩
          walk_at "s"
          refine ⟨_, _, _, _, rfl, rfl, SqL.of h3, rfl, ?_⟩
          walk_at "s"
          refine ⟨⟨by decide, by decide⟩, ?_⟩
          walk_at "s"
          refine .inl ⟨_, rfl, ?_⟩
          walk_at "s"
          refine ⟨by omega, ?_⟩
          exact fin2 _ H3 ⟨_, _, _, h3⟩ ((e1.trans e2).trans e3)
      · walk_at "s"
        refine ⟨_, _, _, _, rfl, rfl, hp, rfl, fun H1 h1 e1 => ?_⟩
        walk_at "s"
        refine ifB (fun q => absurd q (by simpa using hm2)) (fun _ => ?_)
        walk_at "s"
        refine ⟨_, _, _, _, rfl, rfl, SqL.of h1, rfl, ?_⟩
        walk_at "s"
        refine ⟨.inr ⟨by decide, by decide⟩, ?_⟩
        walk_at "s"
        refine ⟨_, _, _, _, rfl, rfl, SqL.of h1, rfl, ?_⟩
        walk_at "s"
        refine ⟨.inr ⟨by decide, by decide⟩, ?_⟩
        walk_at "s"
        refine .inl ⟨_, rfl, ?_⟩
        walk_at "s"
        refine ⟨(by show (0 : Int) < 2147483647; decide), ?_⟩
        walk_at "s"
        refine ⟨_, _, _, _, rfl, rfl, h1, rfl, fun H2 h2 e2 => ?_⟩
        walk_at "s"
        refine ⟨_, _, _, _, rfl, rfl, SqL.of h2, rfl, ?_⟩
        walk_at "s"
        refine ⟨_, _, _, _, rfl, rfl, h2, rfl, fun H3 h3 e3 => ?_⟩
        walk_at "s"
        refine ⟨_, _, _, _, rfl, rfl, SqL.of h3, rfl, ?_⟩
        walk_at "s"
        refine ⟨⟨by decide, by decide⟩, ?_⟩
        walk_at "s"
        refine .inl ⟨_, rfl, ?_⟩
        walk_at "s"
        refine ⟨by omega, ?_⟩
        exact fin2 _ H3 ⟨_, _, _, h3⟩ ((e1.trans e2).trans e3)
end K01

set_option Elab.async false
set_option linter.all false
set_option maxRecDepth 100000
set_option maxHeartbeats 2000000
namespace K01
open PySem PySem.Spec PyProof.Rows L2 MB
local macro_rules | `(tactic| walk_at "s") => `(tactic| repeat (first | refine ⟨_, rfl, ?_⟩ | refine ⟨_, _, rfl, rfl, ?_⟩ | refine ⟨_, _, rfl, ?_⟩ | refine ⟨rfl, ?_⟩))
variable {P : Program} {w : World} {K : PySem.W.Frag} {mg : Str → Option Value} {base : Heap}
/-! ### _law_rounds -/
theorem cut1 (xs : List V) : cutV xs none (some 1) = xs.take 1 := by
  unfold cutV HT.sIx
  simp
def InvRd (K : PySem.W.Frag) (D : Addr) (H1 : Hp) : Nat → Hp → Prop
  | 0, H => H D = some (.lst []) ∧ Ext (TT K) (· = D) H1 H
  | _ + 1, H => ∃ q, H D = some (.lst [.ref q]) ∧ DiceAt H q ∧ q ≠ D ∧ Ext (TT K) (· = D) H1 H
def spRounds (K : PySem.W.Frag) : Sp := fun vs H Q _ => ∃ (a : Addr) (ns : List Int), vs = [.ref a, .int 1] ∧ SqL K H a (ns.map V.int) ∧ ∀ p q H', H' p = some (.lst [.ref q]) → DiceAt H' q → q ≠ p → Ext (TT K) No H H' → Q (.ref p) H'
theorem ok_law_rounds (T : Tx K mg base) : FnOk P w K mg base (L2.CX P w) 2 (He.fAd K ("_law_rounds", none)) T.fd_law_rounds ["script", "most"] (spRounds K) := by
  refine T.F_law_rounds.ok sc_law_rounds (fun vs H Q E h => ?_) (fun cdv A outer s H vs Q E hr h => ⟨_, (pss_cons (ps_set (i := 2) sc_law_rounds.nd rfl (Or.inl rfl) (pe_slice (sl_listNK (T := TT K) (K := K) rfl) (pv 0) po_none (po_some (pv 1))))
 (pss_cons (ps_if (pt_cmpR (op_eqDK (K := K) rfl hr.units) (pv 2) (pe_lstN (T := TT K) pa_nil) (nomark _)) (pss_one (ps_set (i := 2) sc_law_rounds.nd rfl (Or.inl rfl) (pe_lstN (T := TT K) (pa_cons pe_int pa_nil)))) pss_nil)
 (pss_one (ps_ret (pe_lc rfl sc_law_rounds.nd (pi_listK (K := K) rfl (pv 2)) (blkOk_by (N := ["script", "most", "cells", "cell"]) (sc := defScope s_law_rounds) (own := [("cell", 3)]) (by decide +kernel)) (fun _ _ _ _ _ => (pg_name (i := 3) sc_law_rounds.nd rfl (by first | exact Or.inl rfl | exact Or.inr rfl))) (fun _ _ _ _ _ => pts_nil) (fun _ _ _ _ _ => (pe_call (ok_law_dice T) (hr.mono (by decide)) rfl T.g_law_dice T.F_law_dice.kp (bi_law_dice T) .nil passL (pa_cons (pv 3) pa_nil)))))))), ?_⟩)
  · obtain ⟨a, ns, rfl, _⟩ := h
    rfl
  · obtain ⟨a, ns, rfl, hS, hQ⟩ := h
    walk_at "s"
    refine ⟨_, _, rfl, hS, fun p1 H1 hp1 hv1 e1 => ?_⟩
    rw [cut1, ← List.map_take] at hv1
    walk_at "s"
    refine ⟨sz, fun l0 H2 hl0 hv0 e2 => ?_⟩
    have comp : ∀ (q : Addr) (H3 : Hp) (c : Int) (u : Option V), H3 q = some (.lst [.int c]) → Ext (TT K) No H H3 →
        tRet (tLc (iList K (tVar 2)) (gName 3) tYes (tCall (spDice K) [] E0 (tCons (tVar 3) tNil)) [3]) { nx := fun _ H' => Q V.non H', rt := Q } [some (.ref a), some (.int 1), some (.ref q), u] H3 := by
      intro q H3 c u hq e3
      walk_at "s"
      refine ⟨⟨_, SqL.of hq⟩, fun D hD => ?_⟩
      refine lc_list (xs := [.int c]) (InvRd K D H3) ⟨upd_same, (Ext.new hD).no⟩ (fun i H4 hi h => ?_) (fun i x H4 hx h => ?_) (fun H4 h => ?_)
      · have hqD : ¬ q = D := fun z => by rw [z, hD] at hq; cases hq
        match i, h with
        | 0, h => exact SqL.of (h.2.lst _ _ hq hqD)
        | i + 1, ⟨_, _, _, _, h⟩ => exact SqL.of (h.lst _ _ hq hqD)
      · match i, h, hx with
        | 0, h, hx =>
          cases hx
          obtain ⟨h1, h2⟩ := h
          walk_at "s"
          refine fun p5 H5 hp5 hd5 e5 => ?_
          have hD5 := e5.lst _ _ h1 id
          have hpD : p5 ≠ D := fun z => by rw [z, h1] at hp5; cases hp5
          have e6 : Ext (TT K) (· = D) H5 (upd H5 D (.lst [.ref p5])) := Ext.set hD5 rfl
          exact ⟨_, hD5, szl (by simp), p5, upd_same, hd5.ext e6 hpD, hpD, (h2.trans e5.no).trans e6⟩
        | i + 1, h, hx => simp at hx
      · obtain ⟨q5, h1, h2, h3, h4⟩ := h
        exact hQ D q5 H4 h1 h2 h3 (e3.trans (h4.mono1 (NoM.of hD)))
    match ns, hS, hv1 with
    | [], hS, hv1 =>
      refine ⟨.list [], .list [], .lst (SqL.of (e2.lst _ _ hv1 id)) .nil, .lst (SqL.of hv0) .nil, rfl, rfl, ?_⟩
      walk_at "s"
      refine ⟨sz, fun p3 H3 hp3 hv3 e3 => ?_⟩
      exact comp p3 H3 0 _ hv3 ((e1.trans e2).trans e3)
    | c :: ns, hS, hv1 =>
      refine ⟨.list [.int c], .list [], .lst (SqL.of (e2.lst _ _ hv1 id)) (.cons (.int _) .nil), .lst (SqL.of hv0) .nil, rfl, rfl, ?_⟩
      refine ⟨_, rfl, ?_⟩
      exact comp p1 H2 c _ (e2.lst _ _ hv1 id) (e1.trans e2)

/-! ### _law_long -/
def RulesL (K : PySem.W.Frag) (H : Hp) (q : Addr) (rs : MM.Rules) : Prop := ∃ ts, SqL K H q (ts.map V.ref) ∧ RulesT H ts rs
theorem RulesL.ext {T : Tb} {M : Addr → Prop} {H H' : Hp} {q : Addr} {rs : MM.Rules} (h : RulesL K H q rs) (e : Ext T M H H') (n : ¬ M q) : RulesL K H' q rs := by
  obtain ⟨ts, h1, h2⟩ := h
  exact ⟨ts, SqL.ext h1 e n, h2.ext e⟩
def spLong (K : PySem.W.Frag) : Sp := fun vs H Q _ => ∃ (q : Addr) (rs : MM.Rules) (y : Nat), vs = [.ref q, .int y] ∧ RulesL K H q rs ∧ (∀ r ∈ rs, 1 ≤ r.1) ∧ Q (.bl (MM.isLong rs y)) H
theorem ok_law_long (T : Tx K mg base) : FnOk P w K mg base (L2.CX P w) 1 (He.fAd K ("_law_long", none)) T.fd_law_long ["rules", "year"] (spLong K) := by
  refine T.F_law_long.ok sc_law_long (fun vs H Q E h => ?_) (fun cdv A outer s H vs Q E hr h => ⟨_, (pss_cons (ps_set (i := 2) sc_law_long.nd rfl (Or.inl rfl) pe_bl)
 (pss_cons (ps_for (passes_of rfl) rfl (pi_listK (K := K) rfl (pv 0)) (pg_tupK (K := K) (n := 2) rfl rfl (pgs_cons (pg_name (i := 3) sc_law_long.nd rfl (Or.inl rfl)) (pgs_cons (pg_name (i := 4) sc_law_long.nd rfl (Or.inl rfl)) pgs_nil))) (pss_one (ps_set (i := 2) sc_law_long.nd rfl (Or.inl rfl) (pe_ifExp (pt_cmpR op_eq (pe_op op_mod (pv 1) (pv 3)) pe_int (nomark _)) (pv 4) (pv 2)))))
 (pss_one (ps_ret (pv 2))))), ?_⟩)
  · obtain ⟨q, rs, y, rfl, _⟩ := h
    rfl
  · obtain ⟨q, rs, n, rfl, ⟨ts, h2, h3⟩, pos, hQ⟩ := h
    walk_at "s"
    refine ⟨⟨_, h2⟩, ?_⟩
    refine for_list (xs := ts.map V.ref) (fun i σ' H' => ∃ u v, σ' = [some (.ref q), some (.int n), some (.bl (MM.isLong (rs.take i) n)), u, v] ∧ H' = H) ⟨_, _, rfl, rfl⟩ (fun i σ' H' _ ⟨_, _, _, e⟩ => by rw [e]; exact h2) ?_ ?_
    · rintro i x σ' H' hx ⟨u, v, rfl, rfl⟩
      obtain ⟨t, r, rfl, ht, hr', hv⟩ := h3.get hx
      have hr1 := pos r (List.mem_of_getElem? hr')
      refine ⟨_, _, rfl, SqT.of hv, rfl, ?_⟩
      walk_at "s"
      refine ⟨by omega, ?_⟩
      walk_at "s"
      have e := MM.isLong_snoc hr' n
      refine ifB (fun q => ?_) (fun q => ?_)
      · have q : n % r.1 = 0 := by
          have q : ((n : Int) % (r.1 : Int)) = 0 := by simpa using q
          omega
        rw [if_pos q] at e
        walk_at "s"
        exact ⟨_, _, by rw [e]; rfl, rfl⟩
      · have q : ¬ n % r.1 = 0 := by
          have q : ¬ ((n : Int) % (r.1 : Int)) = 0 := by simpa using q
          omega
        rw [if_neg q] at e
        walk_at "s"
        exact ⟨_, _, by rw [e]; rfl, rfl⟩
    · rintro σ' H' ⟨u, v, rfl, rfl⟩
      walk_at "s"
      rw [List.length_map, h3.1, List.take_length]
      exact hQ
end K01

set_option Elab.async false
set_option linter.all false
set_option maxRecDepth 100000
set_option maxHeartbeats 2000000
namespace K01
open PySem PySem.Spec PyProof.Rows L2 MB
local macro_rules | `(tactic| walk_at "s") => `(tactic| repeat (first | refine ⟨_, rfl, ?_⟩ | refine ⟨_, _, rfl, rfl, ?_⟩ | refine ⟨_, _, rfl, ?_⟩ | refine ⟨rfl, ?_⟩))
variable {P : Program} {w : World} {K : PySem.W.Frag} {mg : Str → Option Value} {base : Heap}
/-! ### _law_rules -/
structure RA (K : PySem.W.Frag) (p D : Addr) (H1 : Hp) (i : Nat) (H : Hp) (as : List Addr) (ns : List Int) : Prop where
  lst : H D = some (.lst (as.map V.ref))
  la : as.length = i
  ln : ns.length = i
  at_ : ∀ (j : Nat) (t : Addr) (n : Int), as[j]? = some t → ns[j]? = some n → H t = some (.tup [.int n, .int 1])
  rng : ∀ n ∈ ns, 1 ≤ n ∧ n ≤ 12
  dice : DiceAt H p
  ext : Ext (TT K) (fun b => b = p ∨ b = D) H1 H
structure RB (K : PySem.W.Frag) (p D : Addr) (H1 : Hp) (ys : List Int) (i : Nat) (H : Hp) (as : List Addr) (rs : MM.Rules) : Prop where
  lst : H D = some (.lst (as.map V.ref))
  tab : RulesT H as rs
  ns : rs.map (fun r => ((r.1 : Nat) : Int)) = ys.take i
  dice : DiceAt H p
  ext : Ext (TT K) (fun b => b = p ∨ b = D) H1 H
theorem snoc_at {α β : Type} {as : List α} {bs : List β} {P : α → β → Prop} {a : α} {b : β} (hl : as.length = bs.length) (h : ∀ (j : Nat) (x : α) (y : β), as[j]? = some x → bs[j]? = some y → P x y) (hab : P a b) :
    ∀ (j : Nat) (x : α) (y : β), (as ++ [a])[j]? = some x → (bs ++ [b])[j]? = some y → P x y := by
  intro j x y h1 h2
  by_cases hj : j < as.length
  · rw [List.getElem?_append_left hj] at h1
    rw [List.getElem?_append_left (by omega)] at h2
    exact h j x y h1 h2
  · have e : j = as.length := by
      have := (List.getElem?_eq_some_iff.mp h1).1
      simp at this
      omega
    subst e
    rw [List.getElem?_concat_length] at h1
    rw [hl, List.getElem?_concat_length] at h2
    cases h1
    cases h2
    exact hab
def spRules (K : PySem.W.Frag) : Sp := fun vs H Q _ => ∃ p : Addr, vs = [.ref p] ∧ DiceAt H p ∧ ∀ q rs H', (∃ ts, H' q = some (.lst (ts.map V.ref)) ∧ RulesT H' ts rs) → NoM H q → ROk rs → (∀ r ∈ rs, r.1 ≤ 12) → rs.length ≤ 4 → q ≠ p → DiceAt H' p → Ext (TT K) (· = p) H H' → Q (.ref q) H'
theorem ok_law_rules (T : Tx K mg base) : FnOk P w K mg base (L2.CX P w) 2 (He.fAd K ("_law_rules", none)) T.fd_law_rules ["dice"] (spRules K) := by
  refine T.F_law_rules.ok sc_law_rules (fun vs H Q E h => ?_) (fun cdv A outer s H vs Q E hr h => ⟨_, (pss_cons (ps_set (i := 1) sc_law_rules.nd rfl (Or.inl rfl) (pe_callB (call_sortDN (T := TT K) rfl) rfl T.b_sorted (by decide +kernel) (pa_cons (pe_callTy (call_dictPK (T := TT K) (K := K) rfl rfl) rfl T.b_dict (by decide +kernel) (pa_cons (pe_lc rfl sc_law_rules.nd (pi_range1 rfl T.b_range (pa_cons (pe_op op_add pe_int (pe_call (ok_law_roll T) (hr.mono (by decide)) rfl T.g_law_roll T.F_law_roll.kp (bi_law_roll T) .nil (passes_call (takes_of rfl rfl rfl rfl) fun _ _ _ _ h => h) (pa_cons (pv 0) (pa_cons pe_int pa_nil)))) pa_nil)) (blkOk_by (N := ["dice", "numbers", "k", "number"]) (sc := defScope s_law_rules) (own := [("k", 2)]) (by decide +kernel)) (fun _ _ _ _ _ => (pg_name (i := 2) sc_law_rules.nd rfl (by first | exact Or.inl rfl | exact Or.inr rfl))) (fun _ _ _ _ _ => pts_nil) (fun _ _ _ _ _ => (pe_tupN (T := TT K) (pa_cons (pe_op op_add pe_int (pe_call (ok_law_roll T) (hr.mono (by decide)) rfl T.g_law_roll T.F_law_roll.kp (bi_law_roll T) .nil passL (pa_cons (pv 0) (pa_cons pe_int pa_nil)))) (pa_cons pe_int pa_nil))))) pa_nil)) pa_nil)))
 (pss_one (ps_ret (pe_lc rfl sc_law_rules.nd (pi_listK (K := K) rfl (pv 1)) (blkOk_by (N := ["dice", "numbers", "k", "number"]) (sc := defScope s_law_rules) (own := [("number", 3)]) (by decide +kernel)) (fun _ _ _ _ _ => (pg_name (i := 3) sc_law_rules.nd rfl (by first | exact Or.inl rfl | exact Or.inr rfl))) (fun _ _ _ _ _ => pts_nil) (fun _ _ _ _ _ => (pe_tupN (T := TT K) (pa_cons (pv 3) (pa_cons (pe_cmpR op_eq (pe_call (ok_law_roll T) (hr.mono (by decide)) rfl T.g_law_roll T.F_law_roll.kp (bi_law_roll T) .nil passL (pa_cons (pv 0) (pa_cons pe_int pa_nil))) pe_int (nomark _)) pa_nil)))))))), ?_⟩)
  · obtain ⟨p, rfl, _⟩ := h
    rfl
  · obtain ⟨p, rfl, hd, hQ⟩ := h
    walk_at "s"
    refine ⟨hd, by decide, by decide, fun r1 H1 hr1 hd1 e1 => ?_⟩
    walk_at "s"
    refine ⟨by omega, by omega, fun D hD => ?_⟩
    have hDp : ¬ D = p := fun z => by
      obtain ⟨_, _, _, h⟩ := hd1
      rw [z, h] at hD
      cases hD
    have hn : ((1 : Int) + (r1 : Int)).toNat = r1 + 1 := by omega
    rw [hn]
    refine lc_range (fun i H2 => ∃ as ns, RA K p D H1 i H2 as ns) ⟨[], [], upd_same, rfl, rfl, fun _ _ _ z => by simp at z, fun _ z => by simp at z, hd1.ext (T := TT K) (M := No) (Ext.new hD) id, (Ext.new hD).no⟩ ?_ ?_
    · rintro i H2 hi ⟨as, ns, R⟩
      walk_at "s"
      refine ⟨R.dice, by decide, by decide, fun r2 H3 hr2 hd3 e3 => ?_⟩
      walk_at "s"
      refine ⟨sz, fun t H4 ht hv e4 => ?_⟩
      have hl4 := e4.lst _ _ (e3.lst _ _ R.lst hDp) id
      have e34 : Ext (TT K) (fun b => b = p ∨ b = D) H2 H4 := (e3.more fun b z => .inl z).trans e4.no
      have e5 : Ext (TT K) (· = D) H4 (upd H4 D (.lst (as.map V.ref ++ [.ref t]))) := Ext.set hl4 rfl
      have e35 : Ext (TT K) (fun b => b = p ∨ b = D) H2 (upd H4 D (.lst (as.map V.ref ++ [.ref t]))) := e34.trans (e5.more fun b z => .inr z)
      refine ⟨_, hl4, by rw [List.length_map, R.la]; exact szl (by omega), as ++ [t], ns ++ [1 + (r2 : Int)], by rw [List.map_append]; exact upd_same, by simp [R.la], by simp [R.ln], ?_, ?_, ?_, R.ext.trans e35⟩
      · refine snoc_at (by rw [R.la, R.ln]) (fun j t n g1 g2 => e35.fix _ _ (R.at_ j t n g1 g2) rfl) ?_
        exact e5.fix _ _ hv rfl
      · intro n hn
        rcases List.mem_append.mp hn with hn | hn
        · exact R.rng n hn
        · simp at hn
          omega
      · exact (hd3.ext e4 id).ext e5 (Ne.symm hDp)
    rintro H5 ⟨as, ns, R⟩
    walk_at "s"
    have hkv : (ns.map fun n => ((Sum.inl n : Key), V.int 1)) = (ns.map fun n => (n, V.int 1)).map fun p => ((Sum.inl p.1 : Key), p.2) := by rw [List.map_map]; rfl
    obtain ⟨ks, k1, k2, k3, k4⟩ := mergeK_ints (ns.map fun n => (n, V.int 1)) [] [] rfl List.nodup_nil
    rw [← hkv] at k1
    have hlen4 : ns.length ≤ 4 := by rw [R.ln]; omega
    refine ⟨D, as, ns.map fun n => (Sum.inl n, V.int 1), rfl, SqL.of R.lst, paired_get (by rw [List.length_map, R.la, R.ln]) (fun i t kv g1 g2 => ?_), fun p2 H6 hp2 hv6 e6 => ?_⟩
    · rw [List.getElem?_map] at g2
      cases g3 : ns[i]? with
      | none => rw [g3] at g2; cases g2
      | some n =>
        rw [g3] at g2
        cases g2
        exact SqT.of (R.at_ i t n g1 g3)
    walk_at "s"
    refine ⟨p2, _, ks, rfl, hv6, k1, by simp at k4; omega, fun ys p3 H7 hperm hsort hp3 hv7 e7 => ?_⟩
    have hys : ∀ y ∈ ys, 1 ≤ y ∧ y ≤ 12 := fun y hy => by
      have h1 := (k3 y).mp (hperm.mem_iff.mp hy)
      rcases h1 with h1 | h1
      · simp at h1
      · simp at h1
        exact R.rng y h1
    have hyl : ys.length ≤ 4 := by
      rw [hperm.length_eq]
      simp at k4
      omega
    have hy0 : 0 < ys.length := by
      rw [hperm.length_eq]
      have h1 : 0 < ns.length := by rw [R.ln]; omega
      have h2 : ns[0] ∈ ks := (k3 _).mpr (.inr (by simp))
      exact List.length_pos_of_mem h2
    have hyn : ys.Pairwise (· < ·) := lt_of_le_nodup hsort (hperm.nodup_iff.mpr k2)
    have d7 : DiceAt H7 p := (R.dice.ext e6 id).ext e7 id
    have E7 : Ext (TT K) (fun b => b = p ∨ b = D) H H7 := ((e1.more fun b z => .inl z).trans R.ext).trans ((e6.trans e7).no)
    have nlD : NoM H D := NoM.back e1 hDp (NoM.of hD)
    have E7' : Ext (TT K) (· = p) H H7 := E7.mono fun b z => z.elim .inl fun z => .inr (by rw [z]; exact nlD)
    walk_at "s"
    refine ⟨⟨_, SqL.of hv7⟩, fun D2 hD2 => ?_⟩
    have hD2p : ¬ D2 = p := fun z => by
      obtain ⟨_, _, _, h⟩ := d7
      rw [z, h] at hD2
      cases hD2
    have hD23 : ¬ p3 = D2 := fun z => by rw [z, hD2] at hv7; cases hv7
    have hp3p : ¬ p3 = p := fun z => by
      obtain ⟨_, _, _, h⟩ := R.dice.ext e6 id
      rw [z, h] at hp3
      cases hp3
    refine lc_list (xs := ys.map V.int) (fun i H8 => ∃ as rs, RB K p D2 H7 ys i H8 as rs) ⟨[], [], upd_same, ⟨rfl, fun _ _ _ z => by simp at z⟩, by simp, d7.ext (T := TT K) (M := No) (Ext.new hD2) id, (Ext.new hD2).no⟩
      (fun i H8 _ ⟨as, rs, B⟩ => SqL.of (B.ext.lst _ _ hv7 fun z => z.elim hp3p hD23)) ?_ ?_
    · rintro i x H8 hx ⟨as, rs, B⟩
      rw [List.getElem?_map] at hx
      cases g3 : ys[i]? with
      | none => rw [g3] at hx; cases hx
      | some y =>
        rw [g3] at hx
        cases hx
        have hyy := hys y (List.mem_of_getElem? g3)
        have hi := (List.getElem?_eq_some_iff.mp g3).1
        obtain ⟨n, rfl⟩ := Int.eq_ofNat_of_zero_le (show 0 ≤ y by omega)
        walk_at "s"
        refine ⟨B.dice, by decide, by decide, fun r2 H9 hr2 hd9 e9 => ?_⟩
        walk_at "s"
        refine ⟨sz, fun t H10 ht hv e10 => ?_⟩
        have hl4 := e10.lst _ _ (e9.lst _ _ B.lst hD2p) id
        have e34 : Ext (TT K) (fun b => b = p ∨ b = D2) H8 H10 := (e9.more fun b z => .inl z).trans e10.no
        have e5 : Ext (TT K) (· = D2) H10 (upd H10 D2 (.lst (as.map V.ref ++ [.ref t]))) := Ext.set hl4 rfl
        have e35 : Ext (TT K) (fun b => b = p ∨ b = D2) H8 (upd H10 D2 (.lst (as.map V.ref ++ [.ref t]))) := e34.trans (e5.more fun b z => .inr z)
        have hrl : rs.length = i := by
          have := congrArg List.length B.ns
          simp at this
          omega
        have hal := B.tab.1
        refine ⟨_, hl4, by rw [List.length_map, hal, hrl]; exact szl (by omega), as ++ [t], rs ++ [(n, decide (V.int (r2 : Int) = V.int 0))], by rw [List.map_append]; exact upd_same, ⟨by simp [hal], ?_⟩, ?_, (hd9.ext e10 id).ext e5 (Ne.symm hD2p), B.ext.trans e35⟩
        · refine snoc_at hal (fun j t r g1 g2 => e35.fix _ _ (B.tab.2 j t r g1 g2) rfl) ?_
          exact e5.fix _ _ hv rfl
        · rw [List.map_append, B.ns, List.take_add_one, g3]
          rfl
    · rintro H8 ⟨as, rs, B⟩
      have hB := B.ns
      rw [List.length_map, List.take_length] at hB
      obtain ⟨ok, h12⟩ := ROk.of12 hB hy0 hyl hys hyn
      have hrl : rs.length = ys.length := by rw [← hB, List.length_map]
      have nl2 : NoM H D2 := NoM.back E7' hD2p (NoM.of hD2)
      exact hQ D2 rs H8 ⟨as, B.lst, B.tab⟩ nl2 ok h12 (by omega) hD2p B.dice ((E7'.more fun b z => .inl z).trans B.ext |>.mono fun b z => z.elim .inl fun z => .inr (by rw [z]; exact nl2))
end K01

set_option Elab.async false
set_option linter.all false
set_option maxRecDepth 100000
set_option maxHeartbeats 2000000
namespace K01
open PySem PySem.Spec PyProof.Rows L2 MB
local macro_rules | `(tactic| walk_at "s") => `(tactic| repeat (first | refine ⟨_, rfl, ?_⟩ | refine ⟨_, _, rfl, rfl, ?_⟩ | refine ⟨_, _, rfl, ?_⟩ | refine ⟨rfl, ?_⟩))
variable {P : Program} {w : World} {K : PySem.W.Frag} {mg : Str → Option Value} {base : Heap}
def lawBody : List Stmt := match defBody s_law with
  | (.For _ _ b _ _) :: _ => b
  | _ => []

def longsB (rs : MM.Rules) : List Bool := (List.range 400).map (MM.isLong rs)
structure LF (K : PySem.W.Frag) (dq q lp lg : Addr) (rs : MM.Rules) (H : Hp) : Prop where
  gd : Gd (TT K) H
  dice : DiceAt H dq
  ru : ∃ ts : List Addr, H q = some (.lst (ts.map V.ref)) ∧ RulesT H ts rs
  le : LeapsAt (LC K) H lp rs
  lo : H lg = some (.lst ((longsB rs).map V.bl))
  ok : ROk rs
  r12 : ∀ r ∈ rs, r.1 ≤ 12
  qd : q ≠ dq
  ld : lg ≠ dq
theorem LF.ext {dq q lp lg : Addr} {rs : MM.Rules} {H H' : Hp} (F : LF K dq q lp lg rs H) (e : Ext (TT K) (· = dq) H H') (d : DiceAt H' dq) : LF K dq q lp lg rs H' :=
  ⟨e.gd F.gd, d, let ⟨ts, h1, h2⟩ := F.ru; ⟨ts, e.lst _ _ h1 F.qd, h2.ext e⟩, F.le.ext e, e.lst _ _ F.lo F.ld, F.ok, F.r12, F.qd, F.ld⟩
theorem LF.no {dq q lp lg : Addr} {rs : MM.Rules} {H H' : Hp} (F : LF K dq q lp lg rs H) (e : Ext (TT K) No H H') : LF K dq q lp lg rs H' :=
  F.ext e.no (F.dice.ext e id)
theorem longs_cut (rs : MM.Rules) {n : Nat} (h : n ≤ 400) : cutV ((longsB rs).map V.bl) none (some (n : Int)) = ((List.range n).map (MM.isLong rs)).map V.bl := by
  rw [cutTo, ← List.map_take]
  unfold longsB
  rw [← List.map_take, List.take_range, Nat.min_eq_left h]
theorem longs_at (rs : MM.Rules) {n : Nat} (h : n < 400) : ((longsB rs).map V.bl)[n]? = some (.bl (MM.isLong rs n)) := by
  unfold longsB
  simp [h]
theorem LF.L {dq q lp lg : Addr} {rs : MM.Rules} {H : Hp} (F : LF K dq q lp lg rs H) : MM.lcmA rs ≤ 27720 := by
  refine Nat.le_of_dvd (by decide) ((MM.lcmA_dvd rs _).mpr fun r h => ?_)
  have h1 := (F.ok.rng r h).1
  have h2 := F.r12 r h
  have h3 : ∀ k : Nat, k < 13 → 1 ≤ k → k ∣ 27720 := by decide
  exact h3 r.1 (by omega) h1

theorem szm {n : Nat} (h : n ≤ 100000) : n < sizeLine := by rw [sizeLine_eq]; omega
def spPlain (K : PySem.W.Frag) : Sp := fun vs H Q _ => vs = [] ∧ Gd (TT K) H ∧ ∀ H', Ext (TT K) No H H' → Q (.bl true) H'
def spLaw (K : PySem.W.Frag) : Sp := fun vs H Q _ => ∃ (a : Addr) (ns : List Int), vs = [.ref a] ∧ SqL K H a (ns.map V.int) ∧ Gd (TT K) H ∧ ∀ H', Q (.bl true) H'
end K01

set_option Elab.async false
set_option linter.all false
set_option maxRecDepth 100000
set_option maxHeartbeats 2000000
namespace K01
open PySem PySem.Spec PyProof.Rows L2 MB
local macro_rules | `(tactic| walk_at "s") => `(tactic| repeat (first | refine ⟨_, rfl, ?_⟩ | refine ⟨_, _, rfl, rfl, ?_⟩ | refine ⟨_, _, rfl, ?_⟩ | refine ⟨rfl, ?_⟩))
variable {P : Program} {w : World} {K : PySem.W.Frag} {mg : Str → Option Value} {base : Heap}
theorem law_F (T : Tx K mg base) (tk : TOk (TT K)) (cdv : Value) (A : Around) (outer : List Env) (s : Shared) (H0 : Hp) (E : XK) (hr : Room 39 (A.deeper (envOfC "law" (defScope s_law) s.heap.objs.size (He.fAd K ("law", none)) cdv))) :
    ∃ t, PSs (cxOf (L2.CX P w) P w K mg base ["script", "dice", "rules", "short", "leaps", "year", "longs", "one", "place", "mine", "later", "cycle", "number", "longer", "many", "before", "rest", "far", "day", "years", "days", "most", "best", "some", "off", "part", "whole", "k", "other"] "law" (defScope s_law) (He.fAd K ("law", none)) cdv A outer s H0 E) (lawBody.drop 21) t ∧
      ∀ (D : Ends) (v_one v_place v_mine v_later v_cycle v_number v_longer v_many v_before v_rest v_far v_day v_years v_days v_most v_best v_some v_off v_part v_whole v_k v_other : Option V) (a dq q lp lg : Addr) (sr y : Nat) (rs : MM.Rules) (H' : Hp), LF K dq q lp lg rs H' ∧ sr < 12 ∧ y < 300 → (∀ σ2 H2, Ext (TT K) (· = dq) H' H2 → D.nx σ2 H2) → t D [some (.ref a), some (.ref dq), some (.ref q), some (.int (1 + (sr : Int))), some (.ref lp), some (.int (y : Nat)), some (.ref lg), v_one, v_place, v_mine, v_later, v_cycle, v_number, v_longer, v_many, v_before, v_rest, v_far, v_day, v_years, v_days, v_most, v_best, v_some, v_off, v_part, v_whole, v_k, v_other] H' := by
  refine ⟨_, (pss_cons (ps_asg (pe_tupN (T := TT K) (pa_cons (pe_op op_add pe_int (pe_call (ok_law_roll T) (hr.mono (by decide)) rfl T.g_law_roll T.F_law_roll.kp (bi_law_roll T) .nil (passes_call (takes_of rfl rfl rfl rfl) fun _ _ _ _ h => h) (pa_cons (pv 1) (pa_cons pe_int pa_nil)))) (pa_cons (pe_op op_add pe_int (pe_call (ok_law_roll T) (hr.mono (by decide)) rfl T.g_law_roll T.F_law_roll.kp (bi_law_roll T) .nil (passes_call (takes_of rfl rfl rfl rfl) fun _ _ _ _ h => h) (pa_cons (pv 1) (pa_cons pe_int pa_nil)))) pa_nil))) (pg_tupK (K := K) (n := 2) rfl rfl (pgs_cons (pg_name (i := 7) sc_law.nd rfl (Or.inr rfl)) (pgs_cons (pg_name (i := 28) sc_law.nd rfl (Or.inr rfl)) pgs_nil))))
 (pss_one (ps_if (pt_cmpR op_ne (pe_call (ok_least_common T) (hr.mono (by decide)) rfl T.g_least_common T.F_least_common.kp (bi_least_common T) .nil (passes_call (takes_of rfl rfl rfl rfl) fun _ _ _ _ h => h) (pa_cons (pv 7) (pa_cons (pv 28) pa_nil))) (pe_ix (ix_listK (K := K) rfl) (pe_lc rfl sc_law.nd (pi_range2 rfl T.b_range (pa_cons pe_int (pa_cons (pe_op op_add (pe_op op_mul (pv 7) (pv 28)) pe_int) pa_nil))) (blkOk_by (N := ["script", "dice", "rules", "short", "leaps", "year", "longs", "one", "place", "mine", "later", "cycle", "number", "longer", "many", "before", "rest", "far", "day", "years", "days", "most", "best", "some", "off", "part", "whole", "k", "other"]) (sc := defScope s_law) (own := [("k", 27)]) (by decide +kernel)) (fun _ _ _ _ _ => (pg_name (i := 27) sc_law.nd rfl (by first | exact Or.inl rfl | exact Or.inr rfl))) (fun _ _ _ _ _ => (pts_one (PW.pt (pw_and (pt_cmpR op_eq (pe_op op_mod (pv 27) (pv 7)) pe_int (nomark _)) (pw_and1 (pt_cmpR op_eq (pe_op op_mod (pv 27) (pv 28)) pe_int (nomark _))))))) (fun _ _ _ _ _ => (pv 27))) pe_int (fun _ _ => rfl)) (nomark _)) (pss_one (ps_ret pe_bl)) pss_nil))), ?_⟩
  intro D v_one v_place v_mine v_later v_cycle v_number v_longer v_many v_before v_rest v_far v_day v_years v_days v_most v_best v_some v_off v_part v_whole v_k v_other a dq q lp lg sr y rs H' ⟨F, hsr, hy⟩ hD
  walk_at "s"
  refine ⟨F.dice, by decide, by decide, fun r1 H1 hr1 hd1 e1 => ?_⟩
  walk_at "s"
  refine ⟨hd1, by decide, by decide, fun r2 H2 hr2 hd2 e2 => ?_⟩
  walk_at "s"
  refine ⟨sz, fun t3 H3 ht3 hv3 e3 => ?_⟩
  refine ⟨_, _, rfl, SqT.of hv3, rfl, ?_⟩
  have E3 : Ext (TT K) (· = dq) H' H3 := (e1.trans e2).trans e3.no
  clear e1 e2 e3 hd1 hd2 ht3 hv3
  walk_at "s"
  refine ⟨(by show 0 < 1 + r1; omega), (by show 0 < 1 + r2; omega), (by show 1 + r1 < 2 ^ 30; omega), (by show 1 + r2 < 2 ^ 30; omega), ?_⟩
  have hL0 : 0 < Nat.lcm (1 + r1) (1 + r2) := Nat.lcm_pos (by omega) (by omega)
  have hLd : ∀ k, (1 + r1) ∣ k → (1 + r2) ∣ k → Nat.lcm (1 + r1) (1 + r2) ∣ k := fun k h1 h2 => Nat.lcm_dvd h1 h2
  have hL1 := Nat.dvd_lcm_left (1 + r1) (1 + r2)
  have hL2 := Nat.dvd_lcm_right (1 + r1) (1 + r2)
  have hLm : Nat.lcm (1 + r1) (1 + r2) ≤ (1 + r1) * (1 + r2) := Nat.le_of_dvd (Nat.mul_pos (by omega) (by omega)) (hLd _ (Nat.dvd_mul_right _ _) (Nat.dvd_mul_left _ _))
  have hm : (1 + r1) * (1 + r2) ≤ 40 * 40 := Nat.mul_le_mul (by omega) (by omega)
  have hmI : (1 + (r1 : Int)) * (1 + (r2 : Int)) = (((1 + r1) * (1 + r2) : Nat) : Int) := by
    rw [Int.natCast_mul, Int.natCast_add, Int.natCast_add]
    rfl
  generalize Nat.lcm (1 + r1) (1 + r2) = L at *
  walk_at "s"
  refine ⟨.inl ⟨by omega, by omega⟩, ?_⟩
  walk_at "s"
  refine ⟨⟨by omega, by omega, by omega, by omega⟩, fun D1 hD1 => ?_⟩
  have hn : ((1 + (r1 : Int)) * (1 + (r2 : Int)) + 1 - 1).toNat = (1 + r1) * (1 + r2) := by omega
  rw [hn]
  generalize (1 + r1) * (1 + r2) = nn at *
  refine lc_range (fun i H4 => ∃ acc : List V, H4 D1 = some (.lst acc) ∧ acc.length ≤ i ∧ (i < L → acc = []) ∧ (L ≤ i → acc[0]? = some (.int (L : Nat))) ∧ Ext (TT K) (· = D1) H3 H4) ⟨[], upd_same, Nat.le_refl _, fun _ => rfl, fun z => by omega, (Ext.new hD1).no⟩ ?_ ?_
  · rintro i H4 hi ⟨acc, h4, hl, ha, hb, e4⟩
    walk_at "s"
    refine ⟨by omega, ?_⟩
    walk_at "s"
    refine ifB (fun q1 => ?_) (fun q1 => ?_)
    · have q1 : (1 + r1) ∣ (i + 1) := by
        have q1 : (1 + (i : Int)) % (1 + (r1 : Int)) = 0 := by simpa using q1
        exact Nat.dvd_of_mod_eq_zero (by have h : (((i + 1) % (1 + r1) : Nat) : Int) = (1 + (i : Int)) % (1 + (r1 : Int)) := (by rw [Int.natCast_emod, Int.natCast_add, Int.natCast_add, Int.add_comm]; rfl); omega)
      walk_at "s"
      refine ⟨by omega, ?_⟩
      walk_at "s"
      refine ifB (fun q2 => ?_) (fun q2 => ?_)
      · have q2 : (1 + r2) ∣ (i + 1) := by
          have q2 : (1 + (i : Int)) % (1 + (r2 : Int)) = 0 := by simpa using q2
          exact Nat.dvd_of_mod_eq_zero (by have h : (((i + 1) % (1 + r2) : Nat) : Int) = (1 + (i : Int)) % (1 + (r2 : Int)) := (by rw [Int.natCast_emod, Int.natCast_add, Int.natCast_add, Int.add_comm]; rfl); omega)
        have hLi := Nat.le_of_dvd (by omega) (hLd _ q1 q2)
        walk_at "s"
        refine ⟨_, h4, szm (by omega), _, upd_same, by simp; omega, fun z => by omega, fun _ => ?_, e4.trans (Ext.set h4 rfl)⟩
        by_cases hc : i < L
        · rw [ha hc]
          have : L = i + 1 := by omega
          rw [this]
          show some (V.int (1 + (i : Int))) = _
          rw [Int.natCast_add, Int.add_comm]
          rfl
        · have h0 := hb (by omega)
          have hlen := (List.getElem?_eq_some_iff.mp h0).1
          rw [List.getElem?_append_left hlen]
          exact h0
      · have q2 : ¬ (1 + r2) ∣ (i + 1) := fun z => by
          have q2 : ¬ (1 + (i : Int)) % (1 + (r2 : Int)) = 0 := by simpa using q2
          have h : (((i + 1) % (1 + r2) : Nat) : Int) = (1 + (i : Int)) % (1 + (r2 : Int)) := (by rw [Int.natCast_emod, Int.natCast_add, Int.natCast_add, Int.add_comm]; rfl)
          have := Nat.mod_eq_zero_of_dvd z
          omega
        have hLi : L ≠ i + 1 := fun z => q2 (by rw [← z]; exact hL2)
        exact ⟨acc, h4, by omega, fun z => ha (by omega), fun z => hb (by omega), e4⟩
    · have q1 : ¬ (1 + r1) ∣ (i + 1) := fun z => by
        have q1 : ¬ (1 + (i : Int)) % (1 + (r1 : Int)) = 0 := by simpa using q1
        have h : (((i + 1) % (1 + r1) : Nat) : Int) = (1 + (i : Int)) % (1 + (r1 : Int)) := (by rw [Int.natCast_emod, Int.natCast_add, Int.natCast_add, Int.add_comm]; rfl)
        have := Nat.mod_eq_zero_of_dvd z
        omega
      have hLi : L ≠ i + 1 := fun z => q1 (by rw [← z]; exact hL1)
      exact ⟨acc, h4, by omega, fun z => ha (by omega), fun z => hb (by omega), e4⟩
  rintro H4 ⟨acc, h4, hl, ha, hb, e4⟩
  have h0 := hb hLm
  walk_at "s"
  refine ⟨_, _, _, _, rfl, rfl, SqL.of h4, atI_of (i := 0) rfl h0, ?_⟩
  walk_at "s"
  refine ifB (fun z => absurd z (by simp)) (fun _ => ?_)
  exact hD _ _ (E3.trans (e4.mono1 (NoM.of hD1)).no)

end K01

set_option Elab.async false
set_option linter.all false
set_option maxRecDepth 100000
set_option maxHeartbeats 2000000
namespace K01
open PySem PySem.Spec PyProof.Rows L2 MB
local macro_rules | `(tactic| walk_at "s") => `(tactic| repeat (first | refine ⟨_, rfl, ?_⟩ | refine ⟨_, _, rfl, rfl, ?_⟩ | refine ⟨_, _, rfl, ?_⟩ | refine ⟨rfl, ?_⟩))
variable {P : Program} {w : World} {K : PySem.W.Frag} {mg : Str → Option Value} {base : Heap}
def BLv (H : Hp) (v : V) : MM.Bs → Prop
  | none => v = .non
  | some (o, s, c) => ∃ t, v = .ref t ∧ 0 < c ∧ c ≤ 500 ∧ H t = some (.tup [.int (o : Nat), .int (s : Nat), .int (c : Nat), .int (c : Nat)])
theorem BLv.ext {T : Tb} {M : Addr → Prop} {H H' : Hp} {v : V} {b : MM.Bs} (h : BLv H v b) (e : Ext T M H H') : BLv H' v b := by
  match b, h with
  | none, h => exact h
  | some (o, s, c), ⟨t, h1, h3, h4, h2⟩ => exact ⟨t, h1, h3, h4, e.fix _ _ h2 rfl⟩
def upJ (b : MM.Bs) (d y c : Nat) : Nat → MM.Bs
  | 0 => b
  | j + 1 => MM.upTo b d y c j
theorem upJ_succ (b : MM.Bs) (d y c j : Nat) : upJ b d y c (j + 1) = MM.upB (upJ b d y c j) (MM.offF d y c j) j c := by
  cases j <;> rfl
theorem mod0 {a b : Nat} : ((a : Int) % (b : Int) = 0) ↔ b ∣ a := by
  rw [← Int.natCast_emod]
  refine ⟨fun h => Nat.dvd_of_mod_eq_zero (by omega), fun h => ?_⟩
  have := Nat.mod_eq_zero_of_dvd h
  omega
theorem law_E (T : Tx K mg base) (tk : TOk (TT K)) (cdv : Value) (A : Around) (outer : List Env) (s : Shared) (H0 : Hp) (E : XK) (hr : Room 39 (A.deeper (envOfC "law" (defScope s_law) s.heap.objs.size (He.fAd K ("law", none)) cdv))) :
    ∃ t, PSs (cxOf (L2.CX P w) P w K mg base ["script", "dice", "rules", "short", "leaps", "year", "longs", "one", "place", "mine", "later", "cycle", "number", "longer", "many", "before", "rest", "far", "day", "years", "days", "most", "best", "some", "off", "part", "whole", "k", "other"] "law" (defScope s_law) (He.fAd K ("law", none)) cdv A outer s H0 E) (lawBody.drop 15) t ∧
      ∀ (D : Ends) (v_one v_place v_mine v_later v_cycle v_number v_longer v_many v_before v_rest v_far v_day v_years v_days v_most v_best v_some v_off v_part v_whole v_k v_other : Option V) (a dq q lp lg : Addr) (sr y : Nat) (rs : MM.Rules) (H' : Hp), LF K dq q lp lg rs H' ∧ sr < 12 ∧ y < 300 → (∀ σ2 H2, Ext (TT K) (· = dq) H' H2 → D.nx σ2 H2) → t D [some (.ref a), some (.ref dq), some (.ref q), some (.int (1 + (sr : Int))), some (.ref lp), some (.int (y : Nat)), some (.ref lg), v_one, v_place, v_mine, v_later, v_cycle, v_number, v_longer, v_many, v_before, v_rest, v_far, v_day, v_years, v_days, v_most, v_best, v_some, v_off, v_part, v_whole, v_k, v_other] H' := by
  refine ⟨_, (pss_cons (ps_set (i := 19) sc_law.nd rfl (Or.inl rfl) (pe_op op_add pe_int (pe_call (ok_law_roll T) (hr.mono (by decide)) rfl T.g_law_roll T.F_law_roll.kp (bi_law_roll T) .nil (passes_call (takes_of rfl rfl rfl rfl) fun _ _ _ _ h => h) (pa_cons (pv 1) (pa_cons pe_int pa_nil)))))
 (pss_cons (ps_par3 (i := 20) (j := 21) (l := 22) rfl sc_law.nd rfl rfl rfl (by decide) (by decide) (by decide) rfl rfl rfl (pa_cons (pe_call (ok_law_roll T) (hr.mono (by decide)) rfl T.g_law_roll T.F_law_roll.kp (bi_law_roll T) .nil (passes_call (takes_of rfl rfl rfl rfl) fun _ _ _ _ h => h) (pa_cons (pv 1) (pa_cons (pe_op op_add (pv 19) pe_int) pa_nil))) (pa_cons (pe_op op_add pe_int (pe_call (ok_law_roll T) (hr.mono (by decide)) rfl T.g_law_roll T.F_law_roll.kp (bi_law_roll T) .nil (passes_call (takes_of rfl rfl rfl rfl) fun _ _ _ _ h => h) (pa_cons (pv 1) (pa_cons pe_int pa_nil)))) (pa_cons pe_non pa_nil))) rfl)
 (pss_cons (ps_for (passes_of rfl) rfl (pi_range2 rfl T.b_range (pa_cons pe_int (pa_cons (pe_op op_add (pv 21) pe_int) pa_nil))) (pg_name (i := 7) sc_law.nd rfl (Or.inr rfl)) (pss_one (ps_for (passes_of rfl) rfl (pi_range1 rfl T.b_range (pa_cons (pe_op op_add (pv 7) pe_int) pa_nil)) (pg_name (i := 23) sc_law.nd rfl (Or.inl rfl)) (pss_cons (ps_set (i := 24) sc_law.nd rfl (Or.inl rfl) (pe_callB call_abs rfl T.b_abs (by decide +kernel) (pa_cons (pe_op op_sub (pe_op op_mul (pv 20) (pv 7)) (pe_op op_mul (pv 23) (pv 19))) pa_nil)))
 (pss_one (ps_if (PW.pt (pw_or (pt_cmpR op_isN (pv 22) pe_non (nomark _)) (pw_or1 (pt_cmpR op_lt (pe_op op_mul (pv 24) (pe_ix (ix_tupK (K := K) rfl) (pv 22) pe_int (fun _ _ => rfl))) (pe_op op_mul (pe_ix (ix_tupK (K := K) rfl) (pv 22) pe_int (fun _ _ => rfl)) (pv 7)) (nomark _))))) (pss_one (ps_set (i := 22) sc_law.nd rfl (Or.inl rfl) (pe_tupN (T := TT K) (pa_cons (pv 24) (pa_cons (pv 23) (pa_cons (pv 7) (pa_cons (pv 7) pa_nil))))))) pss_nil))))))
 (pss_cons (ps_par (i := 25) (j := 26) rfl sc_law.nd rfl rfl (by decide) rfl rfl (pa_cons (pe_ix (ix_tupK (K := K) rfl) (pv 22) pe_int (fun _ _ => rfl)) (pa_cons (pe_op op_mul (pv 19) (pe_ix (ix_tupK (K := K) rfl) (pv 22) pe_int (fun _ _ => rfl))) pa_nil)) rfl)
 (pss_cons (ps_for (passes_of rfl) rfl (pi_range2 rfl T.b_range (pa_cons pe_int (pa_cons pe_int pa_nil))) (pg_name (i := 27) sc_law.nd rfl (Or.inl rfl)) (pss_one (ps_while (passes_of rfl) (PW.pt (pw_and (pt_cmpR op_eq (pe_op op_mod (pv 25) (pv 27)) pe_int (nomark _)) (pw_and (pt_cmpR op_eq (pe_op op_mod (pv 26) (pv 27)) pe_int (nomark _)) (pw_and (pt_cmpR op_ge (pv 26) (pv 27) (nomark _)) (pw_and1 (PW.pt (pw_or (pt_cmpR op_gt (pv 25) pe_int (nomark _)) (pw_or1 (pt_cmpR op_gt (pv 26) pe_int (nomark _)))))))))) (pss_one (ps_par (i := 25) (j := 26) rfl sc_law.nd rfl rfl (by decide) rfl rfl (pa_cons (pe_op op_fdiv (pv 25) (pv 27)) (pa_cons (pe_op op_fdiv (pv 26) (pv 27)) pa_nil)) rfl)))))
 (pss_cons (ps_if (pt_cmpR (op_neDK (K := K) rfl hr.units) (pe_call (ok_best_rules T) (hr.mono (by decide)) rfl T.g_best_rules T.F_best_rules.kp (bi_best_rules T) .nil (passes_call (takes_of rfl rfl rfl rfl) fun _ _ _ _ h => h) (pa_cons (pv 20) (pa_cons (pv 19) (pa_cons (pv 21) pa_nil)))) (pe_tupN (T := TT K) (pa_cons (pe_tupN (T := TT K) (pa_cons (pv 25) (pa_cons (pv 26) pa_nil))) (pa_cons (pe_ix (ix_tupK (K := K) rfl) (pv 22) pe_int (fun _ _ => rfl)) (pa_cons (pe_ix (ix_tupK (K := K) rfl) (pv 22) pe_int (fun _ _ => rfl)) pa_nil)))) (nomark _)) (pss_one (ps_ret pe_bl)) pss_nil)
 (law_F T tk cdv A outer s H0 E hr).choose_spec.1)))))), ?_⟩
  intro D v_one v_place v_mine v_later v_cycle v_number v_longer v_many v_before v_rest v_far v_day v_years v_days v_most v_best v_some v_off v_part v_whole v_k v_other a dq q lp lg sr y rs H' ⟨F, hsr, hy⟩ hD
  walk_at "s"
  refine ⟨F.dice, by decide, by decide, fun yr H1 hyr hd1 e1 => ?_⟩
  walk_at "s"
  refine ⟨hd1, by omega, by omega, fun dd H2 hdd hd2 e2 => ?_⟩
  walk_at "s"
  refine ⟨hd2, by decide, by decide, fun mr H3 hmr hd3 e3 => ?_⟩
  walk_at "s"
  refine ⟨_, _, _, rfl, ?_⟩
  have E3 : Ext (TT K) (· = dq) H' H3 := (e1.trans e2).trans e3
  have F3 := F.ext E3 hd3
  clear e1 e2 e3 hd1 hd2 hd3
  obtain ⟨yy, hyy⟩ : ∃ yy : Nat, yy = yr + 1 := ⟨_, rfl⟩
  have hyI : (1 + (yr : Int)) = (yy : Int) := by omega
  have hdy : dd ≤ yy := by omega
  have hy0 : 0 < yy := by omega
  have hy40 : yy ≤ 40 := by omega
  walk_at "s"
  refine ⟨⟨by omega, by omega, by omega, by omega⟩, ?_⟩
  have hn : (1 + (mr : Int) + 1 - 1).toNat = mr + 1 := by omega
  rw [hn]
  refine for_range (fun i σ2 H4 => ∃ (v : V) (u1 u2 u3 : Option V), σ2 = [some (.ref a), some (.ref dq), some (.ref q), some (.int (1 + (sr : Int))), some (.ref lp), some (.int (y : Nat)), some (.ref lg), u1, v_place, v_mine, v_later, v_cycle, v_number, v_longer, v_many, v_before, v_rest, v_far, v_day, some (.int (1 + (yr : Int))), some (.int (dd : Nat)), some (.int (1 + (mr : Int))), some v, u2, u3, v_part, v_whole, v_k, v_other] ∧ BLv H4 v (MM.bst dd yy i) ∧ Ext (TT K) No H3 H4) ⟨.non, _, _, _, rfl, rfl, .refl⟩ ?_ ?_
  · rintro i σ2 H4 hi ⟨v, u1, u2, u3, rfl, hb, e4⟩
    walk_at "s"
    refine ⟨by omega, by omega, ?_⟩
    have hn2 : (1 + (i : Int) + 1).toNat = i + 2 := by omega
    rw [hn2]
    refine for_range (fun j σ3 H5 => ∃ (v : V) (u2 u3 : Option V), σ3 = [some (.ref a), some (.ref dq), some (.ref q), some (.int (1 + (sr : Int))), some (.ref lp), some (.int (y : Nat)), some (.ref lg), some (.int (1 + (i : Int))), v_place, v_mine, v_later, v_cycle, v_number, v_longer, v_many, v_before, v_rest, v_far, v_day, some (.int (1 + (yr : Int))), some (.int (dd : Nat)), some (.int (1 + (mr : Int))), some v, u2, u3, v_part, v_whole, v_k, v_other] ∧ BLv H5 v (upJ (MM.bst dd yy i) dd yy (i + 1) j) ∧ Ext (TT K) No H4 H5) ⟨v, _, _, rfl, hb, .refl⟩ ?_ ?_
    · rintro j σ3 H5 hj ⟨v, u2, u3, rfl, hb, e5⟩
      rw [upJ_succ]
      have hof : ((dd : Int) * (1 + (i : Int)) - (0 + (j : Int)) * (1 + (yr : Int))).natAbs = MM.offF dd yy (i + 1) j := by
        unfold MM.offF
        rw [hyI, Int.natCast_add, Int.add_comm 1, Int.zero_add]
        rfl
      have hoI : ((if ((dd : Int) * (1 + (i : Int)) - (0 + (j : Int)) * (1 + (yr : Int))) < 0 then -((dd : Int) * (1 + (i : Int)) - (0 + (j : Int)) * (1 + (yr : Int))) else ((dd : Int) * (1 + (i : Int)) - (0 + (j : Int)) * (1 + (yr : Int))))) = ((MM.offF dd yy (i + 1) j : Nat) : Int) := by rw [absI, hof]
      have hi1 : ((i + 1 : Nat) : Int) = 1 + (i : Int) := by omega
      have put : ∀ tn H6, H6 tn = some (.tup [.int (if ((dd : Int) * (1 + (i : Int)) - (0 + (j : Int)) * (1 + (yr : Int))) < 0 then -((dd : Int) * (1 + (i : Int)) - (0 + (j : Int)) * (1 + (yr : Int))) else ((dd : Int) * (1 + (i : Int)) - (0 + (j : Int)) * (1 + (yr : Int)))), .int (0 + (j : Int)), .int (1 + (i : Int)), .int (1 + (i : Int))]) →
          BLv H6 (.ref tn) (some (MM.offF dd yy (i + 1) j, j, i + 1)) := fun tn H6 h => by
        rw [hoI, Int.zero_add] at h
        refine ⟨tn, rfl, by omega, by omega, ?_⟩
        rw [hi1]
        exact h
      walk_at "s"
      refine ⟨.inr ⟨by omega, by omega⟩, ?_⟩
      walk_at "s"
      refine ⟨.inl ⟨by omega, by omega⟩, ?_⟩
      walk_at "s"
      match hbb : upJ (MM.bst dd yy i) dd yy (i + 1) j, hb with
      | none, hb =>
        cases hb
        refine ifB (fun _ => ?_) (fun q => by cases q)
        refine ifB (fun _ => ?_) (fun q => by cases q)
        walk_at "s"
        refine ⟨sz, fun tn H6 hpn hvn e6 => ?_⟩
        exact ⟨_, _, _, rfl, put tn H6 hvn, e5.trans e6⟩
      | some (o, s', c), ⟨tb, hvb, hc0, hc5, htb⟩ =>
        subst hvb
        refine ifB (fun q => by cases q) (fun _ => ?_)
        walk_at "s"
        refine ⟨_, _, _, _, rfl, rfl, SqT.of htb, rfl, ?_⟩
        walk_at "s"
        refine ⟨.inr ⟨by omega, by omega⟩, ?_⟩
        walk_at "s"
        refine ⟨_, _, _, _, rfl, rfl, SqT.of htb, rfl, ?_⟩
        walk_at "s"
        refine ⟨.inr ⟨by omega, by omega⟩, ?_⟩
        walk_at "s"
        have hdec : decide (((if ((dd : Int) * (1 + (i : Int)) - (0 + (j : Int)) * (1 + (yr : Int))) < 0 then -((dd : Int) * (1 + (i : Int)) - (0 + (j : Int)) * (1 + (yr : Int))) else ((dd : Int) * (1 + (i : Int)) - (0 + (j : Int)) * (1 + (yr : Int))))) * (c : Int) < (o : Int) * (1 + (i : Int))) = MM.better (some (o, s', c)) (MM.offF dd yy (i + 1) j) (i + 1) := by
          rw [hoI, ← hi1]
          show _ = decide (MM.offF dd yy (i + 1) j * c < o * (i + 1))
          rw [← Int.natCast_mul, ← Int.natCast_mul]
          congr 1
          exact propext Int.ofNat_lt
        refine ifB (fun q => ?_) (fun q => ?_)
        · have q := hdec.symm.trans q
          have eU : MM.upB (some (o, s', c)) (MM.offF dd yy (i + 1) j) j (i + 1) = some (MM.offF dd yy (i + 1) j, j, i + 1) := by
            unfold MM.upB
            rw [if_pos q]
          rw [eU]
          walk_at "s"
          refine ⟨sz, fun tn H6 hpn hvn e6 => ?_⟩
          exact ⟨_, _, _, rfl, put tn H6 hvn, e5.trans e6⟩
        · have q := hdec.symm.trans q
          have eU : MM.upB (some (o, s', c)) (MM.offF dd yy (i + 1) j) j (i + 1) = some (o, s', c) := by
            unfold MM.upB
            rw [if_neg (by rw [q]; decide)]
          rw [eU]
          exact ⟨_, _, _, rfl, ⟨tb, rfl, hc0, hc5, htb⟩, e5⟩
    · rintro σ3 H5 ⟨v, u2, u3, rfl, hb, e5⟩
      refine ⟨v, _, _, _, rfl, ?_, e4.trans e5⟩
      rw [← MM.bst_all hy0 hdy i]
      exact hb
  rintro σ2 H4 ⟨v, u1, u2, u3, rfl, hb, e4⟩
  have F4 := F3.no e4
  have E4 := E3.trans e4.no
  clear F3 E3 e4
  obtain ⟨o, s', c, hbs, hc0, hcm⟩ := MM.bst_some dd yy (mr + 1) (by omega)
  rw [hbs] at hb
  obtain ⟨tb, rfl, _, hc5, htb⟩ := hb
  walk_at "s"
  refine ⟨_, _, _, _, rfl, rfl, SqT.of htb, rfl, ?_⟩
  walk_at "s"
  refine ⟨_, _, _, _, rfl, rfl, SqT.of htb, rfl, ?_⟩
  walk_at "s"
  refine ⟨.inl ⟨by omega, by omega⟩, ?_⟩
  walk_at "s"
  refine ⟨⟨by decide, by decide, by decide, by decide⟩, ?_⟩
  have hWI : (1 + (yr : Int)) * (c : Int) = ((yy * c : Nat) : Int) := by rw [hyI, Int.natCast_mul]
  have hW0 : 0 < yy * c := Nat.mul_pos hy0 hc0
  have hW8 : yy * c ≤ 40 * 20 := Nat.mul_le_mul hy40 (by omega)
  have h898 : ((900 : Int) - 2).toNat = 898 := rfl
  rw [h898]
  refine for_range (fun i σ2 H5 => ∃ (p w : Nat) (u4 : Option V), σ2 = [some (.ref a), some (.ref dq), some (.ref q), some (.int (1 + (sr : Int))), some (.ref lp), some (.int (y : Nat)), some (.ref lg), u1, v_place, v_mine, v_later, v_cycle, v_number, v_longer, v_many, v_before, v_rest, v_far, v_day, some (.int (1 + (yr : Int))), some (.int (dd : Nat)), some (.int (1 + (mr : Int))), some (.ref tb), u2, u3, some (.int (p : Nat)), some (.int (w : Nat)), u4, v_other] ∧ H5 = H4 ∧ MM.Red o (yy * c) p w (i + 2)) ⟨o, yy * c, _, by rw [← hWI]; rfl, rfl, ⟨1, by decide, by omega, by omega⟩, hW0, fun k k1 k2 => by omega⟩ ?_ ?_
  · rintro i σ2 H5 hi ⟨p, w, u4, rfl, rfl, R⟩
    have hkI : (2 : Int) + (i : Int) = ((i + 2 : Nat) : Int) := by omega
    refine ⟨fun m σ3 H6 => ∃ (p w : Nat), σ3 = [some (.ref a), some (.ref dq), some (.ref q), some (.int (1 + (sr : Int))), some (.ref lp), some (.int (y : Nat)), some (.ref lg), u1, v_place, v_mine, v_later, v_cycle, v_number, v_longer, v_many, v_before, v_rest, v_far, v_day, some (.int (1 + (yr : Int))), some (.int (dd : Nat)), some (.int (1 + (mr : Int))), some (.ref tb), u2, u3, some (.int (p : Nat)), some (.int (w : Nat)), some (.int (2 + (i : Int))), v_other] ∧ H6 = H5 ∧ m = w ∧ MM.Red o (yy * c) p w (i + 2), ⟨w, p, w, rfl, rfl, rfl, R⟩, ?_⟩
    clear R
    rintro m σ3 H6 ⟨p, w, rfl, rfl, rfl, R⟩
    have out : ¬ ((i + 2) ∣ p ∧ (i + 2) ∣ m) → ∃ (p' w' : Nat) (u4 : Option V), [some (.ref a), some (.ref dq), some (.ref q), some (.int (1 + (sr : Int))), some (.ref lp), some (.int (y : Nat)), some (.ref lg), u1, v_place, v_mine, v_later, v_cycle, v_number, v_longer, v_many, v_before, v_rest, v_far, v_day, some (.int (1 + (yr : Int))), some (.int (dd : Nat)), some (.int (1 + (mr : Int))), some (.ref tb), u2, u3, some (.int (p : Nat)), some (.int (m : Nat)), some (.int (2 + (i : Int))), v_other] = [some (.ref a), some (.ref dq), some (.ref q), some (.int (1 + (sr : Int))), some (.ref lp), some (.int (y : Nat)), some (.ref lg), u1, v_place, v_mine, v_later, v_cycle, v_number, v_longer, v_many, v_before, v_rest, v_far, v_day, some (.int (1 + (yr : Int))), some (.int (dd : Nat)), some (.int (1 + (mr : Int))), some (.ref tb), u2, u3, some (.int (p' : Nat)), some (.int (w' : Nat)), u4, v_other] ∧ H6 = H6 ∧ MM.Red o (yy * c) p' w' (i + 1 + 2) := fun z => ⟨p, m, _, rfl, rfl, R.next z⟩
    walk_at "s"
    refine ⟨by omega, ?_⟩
    walk_at "s"
    refine ifBr (fun q1 => ?_) (fun q1 => ?_)
    · refine out fun z => ?_
      have q1 : ¬ ((p : Int) % (2 + (i : Int)) = 0) := by simpa using q1
      rw [hkI] at q1
      exact q1 (mod0.mpr z.1)
    have q1 : (i + 2) ∣ p := by
      have q1 : (p : Int) % (2 + (i : Int)) = 0 := by simpa using q1
      rw [hkI] at q1
      exact mod0.mp q1
    walk_at "s"
    refine ⟨by omega, ?_⟩
    walk_at "s"
    refine ifBr (fun q2 => ?_) (fun q2 => ?_)
    · refine out fun z => ?_
      have q2 : ¬ ((m : Int) % (2 + (i : Int)) = 0) := by simpa using q2
      rw [hkI] at q2
      exact q2 (mod0.mpr z.2)
    have q2 : (i + 2) ∣ m := by
      have q2 : (m : Int) % (2 + (i : Int)) = 0 := by simpa using q2
      rw [hkI] at q2
      exact mod0.mp q2
    have hle := Nat.le_of_dvd R.w0 q2
    obtain ⟨R2, hlt⟩ := R.step (k := i + 2) (by omega) q1 q2
    have hp1 : (p : Int) / (2 + (i : Int)) = ((p / (i + 2) : Nat) : Int) := by rw [hkI, Int.natCast_ediv]
    have hm1 : (m : Int) / (2 + (i : Int)) = ((m / (i + 2) : Nat) : Int) := by rw [hkI, Int.natCast_ediv]
    walk_at "s"
    refine ifBr (fun q3 => ?_) (fun q3 => ?_)
    · have q3 : ¬ (2 + (i : Int) ≤ (m : Int)) := by simpa using q3
      omega
    walk_at "s"
    refine ifB (fun q4 => ?_) (fun q4 => ?_)
    · refine ifB (fun _ => ?_) (fun q => by cases q)
      refine ⟨_, fun _ _ h => h, ?_⟩
      walk_at "s"
      refine ⟨⟨by omega, by omega⟩, ?_⟩
      walk_at "s"
      refine ⟨⟨by omega, by omega⟩, ?_⟩
      walk_at "s"
      exact ⟨m / (i + 2), hlt, p / (i + 2), m / (i + 2), by rw [← hp1, ← hm1]; rfl, rfl, rfl, R2⟩
    · walk_at "s"
      refine ifBr (fun q5 => ?_) (fun q5 => ?_)
      · have q5 : ¬ ((1 : Int) < (m : Int)) := by simpa using q5
        omega
      refine ⟨_, fun _ _ h => h, ?_⟩
      walk_at "s"
      refine ⟨⟨by omega, by omega⟩, ?_⟩
      walk_at "s"
      refine ⟨⟨by omega, by omega⟩, ?_⟩
      walk_at "s"
      exact ⟨m / (i + 2), hlt, p / (i + 2), m / (i + 2), by rw [← hp1, ← hm1]; rfl, rfl, rfl, R2⟩
  rintro σ2 H5 ⟨p, w', u4, rfl, rfl, R⟩
  obtain ⟨rp, rw'⟩ := R.done (by omega)
  walk_at "s"
  refine ⟨_, _, _, rfl, by omega, fun _ _ _ _ _ t t2 H6 o2 s2 c2 hb2 ht ht2 e6 => ?_, fun z => absurd ⟨by omega, by omega, by omega, by omega, by omega⟩ z⟩
  have e1 : (1 + (yr : Int)).toNat = yy := by omega
  have e2 : (1 + (mr : Int)).toNat = mr + 1 := by omega
  rw [e1, e2, Int.toNat_natCast, hbs] at hb2
  cases hb2
  rw [e1, ← rp, ← rw'] at ht2
  walk_at "s"
  refine ⟨sz, fun t7 H7 ht7 hv7 e7 => ?_⟩
  have htb7 := e7.fix _ _ (e6.fix _ _ htb rfl) rfl
  walk_at "s"
  refine ⟨_, _, _, _, rfl, rfl, SqT.of htb7, rfl, ?_⟩
  walk_at "s"
  refine ⟨_, _, _, _, rfl, rfl, SqT.of htb7, rfl, ?_⟩
  refine ⟨sz, fun t8 H8 ht8 hv8 e8 => ?_⟩
  have e78 := e7.trans e8
  refine ⟨.tuple [.tuple [.int (p : Nat), .int (w' : Nat)], .int (s' : Nat), .int (c : Nat)], .tuple [.tuple [.int (p : Nat), .int (w' : Nat)], .int (s' : Nat), .int (c : Nat)], .tup (SqT.of (e78.fix _ _ ht rfl)) (.cons (.tup (SqT.of (e78.fix _ _ ht2 rfl)) (.cons (.int _) (.cons (.int _) .nil))) (.cons (.int _) (.cons (.int _) .nil))),
    .tup (SqT.of hv8) (.cons (.tup (SqT.of (e8.fix _ _ hv7 rfl)) (.cons (.int _) (.cons (.int _) .nil))) (.cons (.int _) (.cons (.int _) .nil))), rfl, rfl, ?_⟩
  walk_at "s"
  refine ifB (fun z => absurd z (by simp [PyData.eqv, PyData.eqvAll])) (fun _ => ?_)
  have E8 := E4.trans (e6.trans e78).no
  exact (law_F T tk cdv A outer s H0 E hr).choose_spec.2 D _ _ _ _ _ _ _ _ _ _ _ _ _ _ _ _ _ _ _ _ _ _ a dq q lp lg sr y rs H8 ⟨F4.no (e6.trans e78), hsr, hy⟩ fun σ3 H9 e9 => hD σ3 H9 (E8.trans e9)

end K01

set_option Elab.async false
set_option linter.all false
set_option maxRecDepth 100000
set_option maxHeartbeats 2000000
namespace K01
open PySem PySem.Spec PyProof.Rows L2 MB
local macro_rules | `(tactic| walk_at "s") => `(tactic| repeat (first | refine ⟨_, rfl, ?_⟩ | refine ⟨_, _, rfl, rfl, ?_⟩ | refine ⟨_, _, rfl, ?_⟩ | refine ⟨rfl, ?_⟩))
variable {P : Program} {w : World} {K : PySem.W.Frag} {mg : Str → Option Value} {base : Heap}
theorem law_D (T : Tx K mg base) (tk : TOk (TT K)) (cdv : Value) (A : Around) (outer : List Env) (s : Shared) (H0 : Hp) (E : XK) (hr : Room 39 (A.deeper (envOfC "law" (defScope s_law) s.heap.objs.size (He.fAd K ("law", none)) cdv))) :
    ∃ t, PSs (cxOf (L2.CX P w) P w K mg base ["script", "dice", "rules", "short", "leaps", "year", "longs", "one", "place", "mine", "later", "cycle", "number", "longer", "many", "before", "rest", "far", "day", "years", "days", "most", "best", "some", "off", "part", "whole", "k", "other"] "law" (defScope s_law) (He.fAd K ("law", none)) cdv A outer s H0 E) (lawBody.drop 9) t ∧
      ∀ (D : Ends) (v_one v_place v_mine v_later v_cycle v_number v_longer v_many v_before v_rest v_far v_day v_years v_days v_most v_best v_some v_off v_part v_whole v_k v_other : Option V) (a dq q lp lg : Addr) (sr y : Nat) (rs : MM.Rules) (H' : Hp), LF K dq q lp lg rs H' ∧ sr < 12 ∧ y < 300 → (∀ σ2 H2, Ext (TT K) (· = dq) H' H2 → D.nx σ2 H2) → t D [some (.ref a), some (.ref dq), some (.ref q), some (.int (1 + (sr : Int))), some (.ref lp), some (.int (y : Nat)), some (.ref lg), v_one, v_place, v_mine, v_later, v_cycle, v_number, v_longer, v_many, v_before, v_rest, v_far, v_day, v_years, v_days, v_most, v_best, v_some, v_off, v_part, v_whole, v_k, v_other] H' := by
  refine ⟨_, (pss_cons (ps_set (i := 15) sc_law.nd rfl (Or.inl rfl) (pe_op op_add (pe_op op_mul (pv 3) (pv 5)) (pe_bmK (K := K) rfl PySem.F.plainAttrs_list PySem.F.slot_list_count PySem.F.type_list_count (mt_countBK (K := K) rfl) (pe_slice (sl_listNK (T := TT K) (K := K) rfl) (pv 6) po_none (po_some (pv 5))) (pa_cons pe_bl pa_nil))))
 (pss_cons (ps_set (i := 16) sc_law.nd rfl (Or.inl rfl) (pe_call (ok_law_roll T) (hr.mono (by decide)) rfl T.g_law_roll T.F_law_roll.kp (bi_law_roll T) .nil (passes_call (takes_of rfl rfl rfl rfl) fun _ _ _ _ h => h) (pa_cons (pv 1) (pa_cons (pe_op op_add (pv 3) (pe_callTy call_int1 rfl T.b_int (by decide +kernel) (pa_cons (pe_ix (ix_listK (K := K) rfl) (pv 6) (pv 5) (fun _ _ => rfl)) pa_nil))) pa_nil))))
 (pss_cons (ps_if (PW.pt (pw_or (pt_cmpR op_ne (pe_meth (pv 4) T.c_Leaps T.m_Leaps_days_before (ok_Leaps_days_before T) (hr.mono (by decide)) (bi_Leaps_days_before T) .nil (passes_call (takes_of rfl rfl rfl rfl) fun _ _ _ _ h => h) (pa_cons (pv 5) (pa_cons (pv 3) pa_nil))) (pv 15) (nomark _)) (pw_or1 (pt_cmpR (op_neDK (K := K) rfl hr.units) (pe_meth (pv 4) T.c_Leaps T.m_Leaps_year_of (ok_Leaps_year_of T) (hr.mono (by decide)) (bi_Leaps_year_of T) .nil (passes_call (takes_of rfl rfl rfl rfl) fun _ _ _ _ h => h) (pa_cons (pe_op op_add (pv 15) (pv 16)) (pa_cons (pv 3) pa_nil))) (pe_tupN (T := TT K) (pa_cons (pv 5) (pa_cons (pv 16) pa_nil))) (nomark _))))) (pss_one (ps_ret pe_bl)) pss_nil)
 (pss_cons (ps_set (i := 17) sc_law.nd rfl (Or.inl rfl) (pe_call (ok_law_roll T) (hr.mono (by decide)) rfl T.g_law_roll T.F_law_roll.kp (bi_law_roll T) .nil (passes_call (takes_of rfl rfl rfl rfl) fun _ _ _ _ h => h) (pa_cons (pv 1) (pa_cons pe_int pa_nil))))
 (pss_cons (ps_set (i := 18) sc_law.nd rfl (Or.inl rfl) (pe_meth (pv 4) T.c_Leaps T.m_Leaps_days_before (ok_Leaps_days_before T) (hr.mono (by decide)) (bi_Leaps_days_before T) .nil (passes_call (takes_of rfl rfl rfl rfl) fun _ _ _ _ h => h) (pa_cons (pv 17) (pa_cons (pv 3) pa_nil))))
 (pss_cons (ps_if (PW.pt (pw_or (pt_cmpR (op_neDK (K := K) rfl hr.units) (pe_meth (pv 4) T.c_Leaps T.m_Leaps_year_of (ok_Leaps_year_of T) (hr.mono (by decide)) (bi_Leaps_year_of T) .nil (passes_call (takes_of rfl rfl rfl rfl) fun _ _ _ _ h => h) (pa_cons (pv 18) (pa_cons (pv 3) pa_nil))) (pe_tupN (T := TT K) (pa_cons (pv 17) (pa_cons pe_int pa_nil))) (nomark _)) (pw_or1 (pt_cmpR op_ne (pe_op op_sub (pe_meth (pv 4) T.c_Leaps T.m_Leaps_days_before (ok_Leaps_days_before T) (hr.mono (by decide)) (bi_Leaps_days_before T) .nil (passes_call (takes_of rfl rfl rfl rfl) fun _ _ _ _ h => h) (pa_cons (pe_op op_add (pv 17) pe_int) (pa_cons (pv 3) pa_nil))) (pv 18)) (pe_op op_add (pv 3) (pe_callTy call_int1 rfl T.b_int (by decide +kernel) (pa_cons (pe_call (ok_law_long T) (hr.mono (by decide)) rfl T.g_law_long T.F_law_long.kp (bi_law_long T) .nil (passes_call (takes_of rfl rfl rfl rfl) fun _ _ _ _ h => h) (pa_cons (pv 2) (pa_cons (pv 17) pa_nil))) pa_nil))) (nomark _))))) (pss_one (ps_ret pe_bl)) pss_nil)
 (law_E T tk cdv A outer s H0 E hr).choose_spec.1)))))), ?_⟩
  intro D v_one v_place v_mine v_later v_cycle v_number v_longer v_many v_before v_rest v_far v_day v_years v_days v_most v_best v_some v_off v_part v_whole v_k v_other a dq q lp lg sr y rs H' ⟨F, hsr, hy⟩ hD
  have ok := F.ok
  obtain ⟨S, hS⟩ : ∃ S : Nat, S = sr + 1 := ⟨_, rfl⟩
  have hSI : (1 + (sr : Int)) = (S : Int) := by omega
  have hSt : (1 + (sr : Int)).toNat = S := by omega
  have hS0 : 0 < S := by omega
  have hyt : ((y : Nat) : Int).toNat = y := Int.toNat_natCast y
  walk_at "s"
  refine ⟨.inl ⟨by omega, by omega⟩, ?_⟩
  walk_at "s"
  refine ⟨_, _, rfl, SqL.of F.lo, fun p1 H1 hp1 hv1 e1 => ?_⟩
  have hv1 : H1 p1 = some (.lst (((List.range y).map (MM.isLong rs)).map V.bl)) := by
    rw [← longs_cut rs (by omega)]
    exact hv1
  refine ⟨.inl ⟨rfl, _, .inl (.inl hv1)⟩, ?_⟩
  walk_at "s"
  refine ⟨_, _, _, rfl, rfl, SqL.of hv1, ?_⟩
  rw [count_range]
  have F1 := F.no e1
  have E1 : Ext (TT K) (· = dq) H' H1 := e1.no
  clear e1 hp1 hv1
  have hbf : (1 + (sr : Int)) * (y : Int) + ((MM.cn (MM.isLong rs) y : Nat) : Int) = ((MM.db rs S y : Nat) : Int) := by
    unfold MM.db
    rw [hSI, Int.natCast_add, Int.natCast_mul]
  -- rest
  walk_at "s"
  refine ⟨_, _, _, _, rfl, rfl, SqL.of F1.lo, atI_nat (longs_at rs (by omega)), ?_⟩
  walk_at "s"
  refine .inr ⟨_, rfl, ?_⟩
  walk_at "s"
  obtain ⟨b, hb⟩ : ∃ b : Nat, b = (if MM.isLong rs y = true then 1 else 0) := ⟨_, rfl⟩
  have hbI : (if MM.isLong rs y = true then (1 : Int) else 0) = (b : Int) := by rw [hb]; split <;> rfl
  have hb1 : b ≤ 1 := by rw [hb]; split <;> omega
  have hds := MM.db_succ rs S y
  rw [← hb] at hds
  refine ⟨F1.dice, (by rw [hbI]; omega), (by rw [hbI]; omega), fun r H2 hr2 hd2 e2 => ?_⟩
  rw [hbI] at hr2
  have F2 := F1.ext e2 hd2
  have E2 := E1.trans e2
  clear F1 E1 e2 hd2
  -- the first test
  obtain ⟨dx9, p9, ts9, l1, l2, l3⟩ := F2.le
  walk_at "s"
  refine ⟨_, _, _, rfl, l1, rfl, ?_⟩
  walk_at "s"
  refine ⟨lp, rs, (y : Int), 1 + (sr : Int), by simp, F2.le, ok, by omega, fun _ _ _ H3 e3 => ?_, fun z => absurd ⟨by omega, by omega, by omega⟩ z⟩
  rw [hSt, hyt]
  have F3 := F2.no e3
  have E3 := E2.trans e3.no
  clear F2 E2 e3 l1 l2 l3
  walk_at "s"
  refine ifB (fun z => absurd z (by rw [← hbf]; simp)) (fun _ => ?_)
  obtain ⟨dx9, p9, ts9, l1, l2, l3⟩ := F3.le
  walk_at "s"
  refine ⟨_, _, _, rfl, l1, rfl, ?_⟩
  walk_at "s"
  have hle := MM.db_le rs hS0 (show y + 1 ≤ 100000 by omega)
  refine ⟨lp, rs, ((MM.db rs S y : Nat) : Int) + (r : Int), 1 + (sr : Int), by rw [← hbf]; simp, F3.le, ok, by omega, fun _ _ _ p4 H4 yr g1 g2 g3 hv4 e4 => ?_, fun z => ?_⟩
  rotate_left
  · rw [hSt] at z
    omega
  rw [hSt] at g1 g2 hv4
  have ht : (((MM.db rs S y : Nat) : Int) + (r : Int)).toNat = MM.db rs S y + r := by omega
  rw [ht] at g1 g2
  have hyr : yr = y := MM.yr_one rs hS0 g1 g2 (by omega) (by omega)
  subst hyr
  have F4 := F3.no e4
  have E4 := E3.trans e4.no
  clear F3 E3 l1 l2 l3
  walk_at "s"
  refine ⟨sz, fun t5 H5 ht5 hv5 e5 => ?_⟩
  refine ⟨.tuple [.int (yr : Nat), .int (r : Nat)], .tuple [.int (yr : Nat), .int (r : Nat)], .tup (SqT.of (e5.fix _ _ hv4 rfl)) (.cons (.int _) (.cons ?_ .nil)), .tup (SqT.of hv5) (.cons (.int _) (.cons (.int _) .nil)), rfl, rfl, ?_⟩
  · have e : ((MM.db rs S yr : Nat) : Int) + (r : Int) - ((MM.db rs S yr : Nat) : Int) = (r : Int) := by omega
    rw [e]
    exact .int _
  walk_at "s"
  refine ifB (fun z => absurd z (by simp [PyData.eqv, PyData.eqvAll])) (fun _ => ?_)
  have F5 := F4.no e5
  have E5 := E4.trans e5.no
  clear F4 E4 e5 e4 hv4 hv5 hds hbf hbI hb1 hr2 g1 g2
  -- far, day
  walk_at "s"
  refine ⟨F5.dice, by decide, by decide, fun far H6 hfar hd6 e6 => ?_⟩
  have F6 := F5.ext e6 hd6
  have E6 := E5.trans e6
  clear F5 E5 e6 hd6
  have hft : ((far : Nat) : Int).toNat = far := Int.toNat_natCast far
  obtain ⟨dx9, p9, ts9, l1, l2, l3⟩ := F6.le
  walk_at "s"
  refine ⟨_, _, _, rfl, l1, rfl, ?_⟩
  walk_at "s"
  refine ⟨lp, rs, (far : Int), 1 + (sr : Int), by simp, F6.le, ok, by omega, fun _ _ _ H7 e7 => ?_, fun z => absurd ⟨by omega, by omega, by omega⟩ z⟩
  rw [hSt, hft]
  have F7 := F6.no e7
  have E7 := E6.trans e7.no
  clear F6 E6 e7 l1 l2 l3
  obtain ⟨dx9, p9, ts9, l1, l2, l3⟩ := F7.le
  walk_at "s"
  refine ⟨_, _, _, rfl, l1, rfl, ?_⟩
  walk_at "s"
  have hle2 := MM.db_lt rs hS0 (show far < 100000 by omega)
  have hlt2 := MM.db_lt rs hS0 (Nat.lt_succ_self far)
  refine ⟨lp, rs, ((MM.db rs S far : Nat) : Int), 1 + (sr : Int), by simp, F7.le, ok, by omega, fun _ _ _ p8 H8 yr8 g1 g2 g3 hv8 e8 => ?_, fun z => ?_⟩
  rotate_left
  · rw [hSt] at z
    omega
  rw [hSt] at g1 g2 hv8
  rw [Int.toNat_natCast] at g1 g2
  have hyr8 : yr8 = far := MM.yr_one rs hS0 g1 g2 (Nat.le_refl _) hlt2
  subst hyr8
  have F8 := F7.no e8
  have E8 := E7.trans e8.no
  clear F7 E7 l1 l2 l3
  walk_at "s"
  refine ⟨sz, fun t9 H9 ht9 hv9 e9 => ?_⟩
  refine ⟨.tuple [.int (yr8 : Nat), .int 0], .tuple [.int (yr8 : Nat), .int 0], .tup (SqT.of (e9.fix _ _ hv8 rfl)) (.cons (.int _) (.cons ?_ .nil)), .tup (SqT.of hv9) (.cons (.int _) (.cons (.int _) .nil)), rfl, rfl, ?_⟩
  · rw [Int.sub_self]
    exact .int _
  walk_at "s"
  refine ifB (fun z => absurd z (by simp [PyData.eqv, PyData.eqvAll])) (fun _ => ?_)
  have F9 := F8.no e9
  have E9 := E8.trans e9.no
  clear F8 E8 e9 e8 hv8 hv9 g1 g2
  obtain ⟨dx9, p9, ts9, l1, l2, l3⟩ := F9.le
  walk_at "s"
  refine ⟨_, _, _, rfl, l1, rfl, ?_⟩
  walk_at "s"
  refine ⟨lp, rs, ((yr8 : Nat) : Int) + 1, 1 + (sr : Int), by simp, F9.le, ok, by omega, fun _ _ _ H10 e10 => ?_, fun z => absurd ⟨by omega, by omega, by omega⟩ z⟩
  have hft1 : (((yr8 : Nat) : Int) + 1).toNat = yr8 + 1 := by omega
  rw [hSt, hft1]
  have F10 := F9.no e10
  have E10 := E9.trans e10.no
  clear F9 E9 e10 l1 l2 l3
  obtain ⟨ts10, r10, r10'⟩ := F10.ru
  have hds2 := MM.db_succ rs S yr8
  walk_at "s"
  refine ⟨q, rs, yr8, by simp, ⟨ts10, SqL.of r10, r10'⟩, fun x hx => (ok.rng x hx).1, ?_⟩
  walk_at "s"
  refine .inr ⟨_, rfl, ?_⟩
  walk_at "s"
  refine ifB (fun z => absurd z ?_) (fun _ => ?_)
  · have e : ((MM.db rs S (yr8 + 1) : Nat) : Int) - ((MM.db rs S yr8 : Nat) : Int) = 1 + (sr : Int) + (if MM.isLong rs yr8 = true then (1 : Int) else 0) := by
      rw [hds2]
      split <;> omega
    show ¬ (!decide (V.int (((MM.db rs S (yr8 + 1) : Nat) : Int) - ((MM.db rs S yr8 : Nat) : Int)) = V.int (1 + (sr : Int) + (if MM.isLong rs yr8 = true then (1 : Int) else 0)))) = true
    rw [e]
    simp
  exact (law_E T tk cdv A outer s H0 E hr).choose_spec.2 D _ _ _ _ _ _ _ _ _ _ _ _ _ _ _ _ _ _ _ _ _ _  a dq q lp lg sr yr rs H10 ⟨F10, hsr, hy⟩ fun σ3 H9 e9 => hD σ3 H9 (E10.trans e9)

end K01

set_option Elab.async false
set_option linter.all false
set_option maxRecDepth 100000
set_option maxHeartbeats 2000000
namespace K01
open PySem PySem.Spec PyProof.Rows L2 MB
local macro_rules | `(tactic| walk_at "s") => `(tactic| repeat (first | refine ⟨_, rfl, ?_⟩ | refine ⟨_, _, rfl, rfl, ?_⟩ | refine ⟨_, _, rfl, ?_⟩ | refine ⟨rfl, ?_⟩))
variable {P : Program} {w : World} {K : PySem.W.Frag} {mg : Str → Option Value} {base : Heap}
theorem law_C (T : Tx K mg base) (tk : TOk (TT K)) (cdv : Value) (A : Around) (outer : List Env) (s : Shared) (H0 : Hp) (E : XK) (hr : Room 39 (A.deeper (envOfC "law" (defScope s_law) s.heap.objs.size (He.fAd K ("law", none)) cdv))) :
    ∃ t, PSs (cxOf (L2.CX P w) P w K mg base ["script", "dice", "rules", "short", "leaps", "year", "longs", "one", "place", "mine", "later", "cycle", "number", "longer", "many", "before", "rest", "far", "day", "years", "days", "most", "best", "some", "off", "part", "whole", "k", "other"] "law" (defScope s_law) (He.fAd K ("law", none)) cdv A outer s H0 E) (lawBody.drop 5) t ∧
      ∀ (D : Ends) (v_one v_place v_mine v_later v_cycle v_number v_longer v_many v_before v_rest v_far v_day v_years v_days v_most v_best v_some v_off v_part v_whole v_k v_other : Option V) (a dq q lp lg : Addr) (sr y : Nat) (rs : MM.Rules) (H' : Hp), LF K dq q lp lg rs H' ∧ sr < 12 ∧ y < 300 → (∀ σ2 H2, Ext (TT K) (· = dq) H' H2 → D.nx σ2 H2) → t D [some (.ref a), some (.ref dq), some (.ref q), some (.int (1 + (sr : Int))), some (.ref lp), some (.int (y : Nat)), some (.ref lg), v_one, v_place, v_mine, v_later, v_cycle, v_number, v_longer, v_many, v_before, v_rest, v_far, v_day, v_years, v_days, v_most, v_best, v_some, v_off, v_part, v_whole, v_k, v_other] H' := by
  refine ⟨_, (pss_cons (ps_set (i := 11) sc_law.nd rfl (Or.inr rfl) pe_int)
 (pss_cons (ps_while (passes_of rfl) (pt_cmpR (op_neDK (K := K) rfl hr.units) (pe_lc rfl sc_law.nd (pi_listK (K := K) rfl (pv 2)) (blkOk_by (N := ["script", "dice", "rules", "short", "leaps", "year", "longs", "one", "place", "mine", "later", "cycle", "number", "longer", "many", "before", "rest", "far", "day", "years", "days", "most", "best", "some", "off", "part", "whole", "k", "other"]) (sc := defScope s_law) (own := [("number", 12), ("longer", 13)]) (by decide +kernel)) (fun _ _ _ _ _ => (pg_tupK (K := K) (n := 2) rfl rfl (pgs_cons (pg_name (i := 12) sc_law.nd rfl (by first | exact Or.inl rfl | exact Or.inr rfl)) (pgs_cons (pg_name (i := 13) sc_law.nd rfl (by first | exact Or.inl rfl | exact Or.inr rfl)) pgs_nil)))) (fun _ _ _ _ _ => (pts_one (pt_cmpR op_ne (pe_op op_mod (pv 11) (pv 12)) pe_int (nomark _)))) (fun _ _ _ _ _ => pe_int)) (pe_lstN (T := TT K) pa_nil) (nomark _)) (pss_one (ps_set (i := 11) sc_law.nd rfl (Or.inr rfl) (pe_op op_add (pv 11) pe_int))))
 (pss_cons (ps_set (i := 14) sc_law.nd rfl (Or.inl rfl) (pe_ifExp (pt_cmpR op_lt (pv 11) pe_int (nomark _)) (pe_callB (call_lenK (K := K) rfl) rfl T.b_len (by decide +kernel) (pa_cons (pe_lc rfl sc_law.nd (pi_range1 rfl T.b_range (pa_cons (pv 11) pa_nil)) (blkOk_by (N := ["script", "dice", "rules", "short", "leaps", "year", "longs", "one", "place", "mine", "later", "cycle", "number", "longer", "many", "before", "rest", "far", "day", "years", "days", "most", "best", "some", "off", "part", "whole", "k", "other"]) (sc := defScope s_law) (own := [("one", 7)]) (by decide +kernel)) (fun _ _ _ _ _ => (pg_name (i := 7) sc_law.nd rfl (by first | exact Or.inl rfl | exact Or.inr rfl))) (fun _ _ _ _ _ => (pts_one (pt_val (pe_call (ok_law_long T) (hr.mono (by decide)) rfl T.g_law_long T.F_law_long.kp (bi_law_long T) .nil passL (pa_cons (pv 2) (pa_cons (pv 7) pa_nil)))))) (fun _ _ _ _ _ => pe_int)) pa_nil)) pe_non))
 (pss_cons (ps_if (PW.pt (pw_or (pt_cmpR op_ne (pe_meth0 (pv 4) T.c_Leaps T.m_Leaps_cycle (ok_Leaps_cycle T) (hr.mono (by decide)) (bi_Leaps_cycle T) .nil (passes_call (takes_of rfl rfl rfl rfl) fun _ _ _ _ h => h)) (pv 11) (nomark _)) (pw_or1 (PW.pt (pw_and (pt_cmpR op_notN (pv 14) pe_non (nomark _)) (pw_and1 (pt_cmpR (op_neDK (K := K) rfl hr.units) (pe_meth (pv 4) T.c_Leaps T.m_Leaps_mean (ok_Leaps_mean T) (hr.mono (by decide)) (bi_Leaps_mean T) .nil (passes_call (takes_of rfl rfl rfl rfl) fun _ _ _ _ h => h) (pa_cons (pv 3) pa_nil)) (pe_tupN (T := TT K) (pa_cons (pe_op op_add (pe_op op_mul (pv 3) (pv 11)) (pv 14)) (pa_cons (pv 11) pa_nil))) (nomark _)))))))) (pss_one (ps_ret pe_bl)) pss_nil)
 (law_D T tk cdv A outer s H0 E hr).choose_spec.1)))), ?_⟩
  intro D v_one v_place v_mine v_later v_cycle v_number v_longer v_many v_before v_rest v_far v_day v_years v_days v_most v_best v_some v_off v_part v_whole v_k v_other a dq q lp lg sr y rs H' ⟨F, hsr, hy⟩ hD
  have ok := F.ok
  have hL := F.L
  have hL0 := rlpos ok
  obtain ⟨L, hLe⟩ : ∃ L, L = MM.lcmA rs := ⟨_, rfl⟩
  rw [← hLe] at hL hL0
  obtain ⟨ts, ru1, ru2⟩ := F.ru
  have hrl := ru2.1
  have six := ok.six
  walk_at "s"
  refine ⟨fun m σ2 H2 => ∃ (c : Nat), σ2 = [some (.ref a), some (.ref dq), some (.ref q), some (.int (1 + (sr : Int))), some (.ref lp), some (.int (y : Nat)), some (.ref lg), v_one, v_place, v_mine, v_later, some (.int (c : Nat)), v_number, v_longer, v_many, v_before, v_rest, v_far, v_day, v_years, v_days, v_most, v_best, v_some, v_off, v_part, v_whole, v_k, v_other] ∧ Ext (TT K) No H' H2 ∧ 0 < c ∧ c ≤ L ∧ m = L - c, ⟨L - 1, 1, rfl, .refl, by decide, hL0, rfl⟩, ?_⟩
  rintro m σ2 H2 ⟨c, rfl, e2, hc0, hcL, rfl⟩
  have ru1' := e2.lst _ _ ru1 id
  have ru2' := ru2.ext e2
  walk_at "s"
  refine ⟨⟨_, SqL.of ru1'⟩, fun D1 hD1 => ?_⟩
  have hqD : ¬ q = D1 := fun z => by rw [z, hD1] at ru1'; cases ru1'
  refine lc_list (xs := ts.map V.ref) (fun i H3 => ∃ m, H3 D1 = some (.lst (List.replicate m (.int 1))) ∧ (m = 0 ↔ ∀ r ∈ rs.take i, r.1 ∣ c) ∧ m ≤ i ∧ Ext (TT K) (· = D1) H2 H3) ⟨0, upd_same, by simp, Nat.le_refl _, (Ext.new hD1).no⟩ (fun i H3 _ ⟨_, _, _, _, e⟩ => SqL.of (e.lst _ _ ru1' hqD)) ?_ ?_
  · rintro i x H3 hx ⟨m, h3, hm, hmi, e3⟩
    obtain ⟨t, r, rfl, ht, hr', hv⟩ := ru2'.get hx
    have hr1 := (ok.rng r (List.mem_of_getElem? hr')).1
    have hi := (List.getElem?_eq_some_iff.mp hr').1
    have htk : rs.take (i + 1) = rs.take i ++ [r] := by rw [List.take_add_one, hr']; rfl
    refine ⟨_, _, rfl, SqT.of (e3.fix _ _ hv rfl), rfl, ?_⟩
    walk_at "s"
    refine ⟨by omega, ?_⟩
    walk_at "s"
    refine ifB (fun q1 => ?_) (fun q1 => ?_)
    · have q1 : ¬ r.1 ∣ c := fun z => by
        have q1 : ¬ ((c : Int) % (r.1 : Int) = 0) := by simpa using q1
        exact q1 (mod0.mpr z)
      refine ⟨_, h3, by rw [List.length_replicate]; exact szl (by omega), m + 1, by rw [List.replicate_succ']; exact upd_same, ⟨fun z => by omega, fun z => absurd (z r (by rw [htk]; simp)) q1⟩, by omega, e3.trans (Ext.set h3 rfl)⟩
    · have q1 : r.1 ∣ c := by
        have q1 : (c : Int) % (r.1 : Int) = 0 := by simpa using q1
        exact mod0.mp q1
      refine ⟨m, h3, ?_, by omega, e3⟩
      rw [hm, htk]
      simp only [List.mem_append, List.mem_singleton]
      refine ⟨fun z x hx => hx.elim (z x) fun e => by rw [e]; exact q1, fun z x hx => z x (.inl hx)⟩
  rintro H3 ⟨m, h3, hm, hmi, e3⟩
  rw [List.length_map, hrl, List.take_length, ← MM.lcmA_dvd, ← hLe] at hm
  have e3n := e3.mono1 (NoM.of hD1)
  walk_at "s"
  refine ⟨sz, fun l0 H4 hl0 hv0 e4 => ?_⟩
  refine ⟨_, _, dpOnes (e4.lst _ _ h3 id), .lst (SqL.of hv0) .nil, shOnes _, rfl, ?_⟩
  have E4 := (e2.trans e3n).trans e4
  walk_at "s"
  refine ifB (fun q1 => ?_) (fun q1 => ?_)
  · have q1 : ¬ m = 0 := fun z => by
      rw [eqOnes] at q1
      simp [z] at q1
    have hnd : ¬ L ∣ c := fun z => q1 (hm.mpr z)
    have hne : c ≠ L := fun z => hnd (by rw [z]; exact Nat.dvd_refl _)
    refine ⟨_, fun _ _ h => h, ?_⟩
    walk_at "s"
    exact ⟨L - (c + 1), by omega, c + 1, rfl, E4, by omega, by omega, rfl⟩
  have q1 : m = 0 := by
    rw [eqOnes] at q1
    simpa using q1
  have hcL : c = L := Nat.le_antisymm hcL (Nat.le_of_dvd hc0 (hm.mp q1))
  subst hcL
  have F4 := F.no E4
  clear e2 e3 e3n e4 h3 hv0 hl0 hD1 hqD ru1' ru2' hm hmi q1
  -- many
  have last : ∀ (u : V) (H5 : Hp), LF K dq q lp lg rs H5 → Ext (TT K) No H' H5 → (u = .non ∨ u = .int ((MM.cn (MM.isLong rs) c : Nat) : Int)) →
      tSeq (tIfS (tOr (tTest (tOp rNe (tMeth (LC K) "cycle" (spCycle K) [] E (tVar 4) tNil) (tVar 11))) (tAnd (tTest (tOp (fun x y H Q => y = .non ∧ Q (.bl (!decide (x = .non))) H) (tVar 14) (tC .non)))
        (tTest (tOp (rNeD K) (tMeth (LC K) "mean" (spMean K) [] E (tVar 4) (tCons (tVar 3) tNil)) (tTupN (TT K) (tCons (tOp (rI0 fun i j => .int (i + j)) (tOp (rI CMul fun i j => .int (i * j)) (tVar 3) (tVar 11)) (tVar 14)) (tCons (tVar 11) tNil)))))))
        (tRet (tC (.bl false))) tNext) (law_D (P := P) (w := w) T tk cdv A outer s H0 E hr).choose D [some (.ref a), some (.ref dq), some (.ref q), some (.int (1 + (sr : Int))), some (.ref lp), some (.int (y : Nat)), some (.ref lg), v_one, v_place, v_mine, v_later, some (.int (c : Nat)), v_number, v_longer, some u, v_before, v_rest, v_far, v_day, v_years, v_days, v_most, v_best, v_some, v_off, v_part, v_whole, v_k, v_other] H5 := by
    intro u H5 F5 E5 hu
    obtain ⟨dx9, p9, ts9, l1, l2, l3⟩ := F5.le
    walk_at "s"
    refine ⟨_, _, _, rfl, l1, rfl, ?_⟩
    walk_at "s"
    refine ⟨lp, rs, rfl, F5.le, ok, fun _ => ?_, fun z => by omega⟩
    rw [← hLe]
    walk_at "s"
    refine ifB (fun z => absurd z (by simp)) (fun _ => ?_)
    rcases hu with rfl | rfl
    · walk_at "s"
      exact (law_D T tk cdv A outer s H0 E hr).choose_spec.2 D _ _ _ _ _ _ _ _ _ _ _ _ _ _ _ _ _ _ _ _ _ _  a dq q lp lg sr y rs H5 ⟨F5, hsr, hy⟩ fun σ3 H9 e9 => hD σ3 H9 (E5.no.trans e9)
    · walk_at "s"
      refine ⟨_, _, _, rfl, l1, rfl, ?_⟩
      walk_at "s"
      refine ⟨lp, rs, _, rfl, F5.le, ok, by omega, by omega, fun _ p6 H6 hv6 e6 => ?_, fun z => by omega⟩
      walk_at "s"
      refine ⟨.inl ⟨by omega, by omega⟩, ?_⟩
      walk_at "s"
      refine ⟨sz, fun t7 H7 ht7 hv7 e7 => ?_⟩
      have hSt : (1 + (sr : Int)).toNat = sr + 1 := by omega
      rw [hSt, ← hLe] at hv6
      have hdb : ((MM.db rs (sr + 1) c : Nat) : Int) = (1 + (sr : Int)) * (c : Int) + ((MM.cn (MM.isLong rs) c : Nat) : Int) := by
        unfold MM.db
        have e : (1 + (sr : Int)) = ((sr + 1 : Nat) : Int) := by omega
        rw [e, Int.natCast_add, Int.natCast_mul]
      rw [hdb] at hv6
      refine ⟨.tuple [.int ((1 + (sr : Int)) * (c : Int) + ((MM.cn (MM.isLong rs) c : Nat) : Int)), .int (c : Nat)], .tuple [.int ((1 + (sr : Int)) * (c : Int) + ((MM.cn (MM.isLong rs) c : Nat) : Int)), .int (c : Nat)], .tup (SqT.of (e7.fix _ _ hv6 rfl)) (.cons (.int _) (.cons (.int _) .nil)), .tup (SqT.of hv7) (.cons (.int _) (.cons (.int _) .nil)), rfl, rfl, ?_⟩
      walk_at "s"
      refine ifB (fun z => absurd z (by simp [PyData.eqv, PyData.eqvAll])) (fun _ => ?_)
      have e67 := e6.trans e7
      exact (law_D T tk cdv A outer s H0 E hr).choose_spec.2 D _ _ _ _ _ _ _ _ _ _ _ _ _ _ _ _ _ _ _ _ _ _  a dq q lp lg sr y rs H7 ⟨F5.no e67, hsr, hy⟩ fun σ3 H9 e9 => hD σ3 H9 ((E5.trans e67).no.trans e9)
  obtain ⟨ts4, r41, r42⟩ := F4.ru
  walk_at "s"
  refine ifB (fun q1 => ?_) (fun q1 => ?_)
  · walk_at "s"
    refine ⟨by omega, by omega, fun D2 hD2 => ?_⟩
    rw [Int.toNat_natCast]
    have hqD : ¬ q = D2 := fun z => by rw [z, hD2] at r41; cases r41
    refine lc_range (fun i H5 => H5 D2 = some (.lst (List.replicate (MM.cn (MM.isLong rs) i) (.int 1))) ∧ Ext (TT K) (· = D2) H4 H5) ⟨upd_same, (Ext.new hD2).no⟩ ?_ ?_
    · rintro i H5 hi ⟨h5, e5⟩
      have hcn := MM.cn_le (MM.isLong rs) i
      walk_at "s"
      refine ⟨q, rs, i, by simp, ⟨ts4, SqL.of (e5.lst _ _ r41 hqD), r42.ext e5⟩, fun x hx => (ok.rng x hx).1, ?_⟩
      walk_at "s"
      refine ifB (fun q2 => ?_) (fun q2 => ?_)
      · have e : MM.cn (MM.isLong rs) (i + 1) = MM.cn (MM.isLong rs) i + 1 := by
          show _ + _ = _
          rw [if_pos q2]
        refine ⟨_, h5, by rw [List.length_replicate]; exact szm (by omega), by rw [e, List.replicate_succ']; exact upd_same, e5.trans (Ext.set h5 rfl)⟩
      · have e : MM.cn (MM.isLong rs) (i + 1) = MM.cn (MM.isLong rs) i := by
          show _ + _ = _
          rw [if_neg (by rw [q2]; decide)]
          rfl
        exact ⟨by rw [e]; exact h5, e5⟩
    · rintro H5 ⟨h5, e5⟩
      have e5n := e5.mono1 (NoM.of hD2)
      walk_at "s"
      refine ⟨_, _, rfl, .inl (SqL.of h5), ?_⟩
      exact last _ H5 (F4.no e5n) (E4.trans e5n) (.inr (by rw [List.length_replicate]))
  · exact last .non H4 F4 E4 (.inl rfl)

end K01

set_option Elab.async false
set_option linter.all false
set_option maxRecDepth 100000
set_option maxHeartbeats 2000000
namespace K01
open PySem PySem.Spec PyProof.Rows L2 MB
local macro_rules | `(tactic| walk_at "s") => `(tactic| repeat (first | refine ⟨_, rfl, ?_⟩ | refine ⟨_, _, rfl, rfl, ?_⟩ | refine ⟨_, _, rfl, ?_⟩ | refine ⟨rfl, ?_⟩))
variable {P : Program} {w : World} {K : PySem.W.Frag} {mg : Str → Option Value} {base : Heap}
theorem law_B (T : Tx K mg base) (tk : TOk (TT K)) (cdv : Value) (A : Around) (outer : List Env) (s : Shared) (H0 : Hp) (E : XK) (hr : Room 39 (A.deeper (envOfC "law" (defScope s_law) s.heap.objs.size (He.fAd K ("law", none)) cdv))) :
    ∃ t, PSs (cxOf (L2.CX P w) P w K mg base ["script", "dice", "rules", "short", "leaps", "year", "longs", "one", "place", "mine", "later", "cycle", "number", "longer", "many", "before", "rest", "far", "day", "years", "days", "most", "best", "some", "off", "part", "whole", "k", "other"] "law" (defScope s_law) (He.fAd K ("law", none)) cdv A outer s H0 E) (lawBody.drop 4) t ∧
      ∀ (D : Ends) (v_one v_place v_mine v_later v_cycle v_number v_longer v_many v_before v_rest v_far v_day v_years v_days v_most v_best v_some v_off v_part v_whole v_k v_other : Option V) (a dq q lp lg : Addr) (sr y : Nat) (rs : MM.Rules) (H' : Hp), LF K dq q lp lg rs H' ∧ sr < 12 ∧ y < 300 → (∀ σ2 H2, Ext (TT K) (· = dq) H' H2 → D.nx σ2 H2) → t D [some (.ref a), some (.ref dq), some (.ref q), some (.int (1 + (sr : Int))), some (.ref lp), some (.int (y : Nat)), some (.ref lg), v_one, v_place, v_mine, v_later, v_cycle, v_number, v_longer, v_many, v_before, v_rest, v_far, v_day, v_years, v_days, v_most, v_best, v_some, v_off, v_part, v_whole, v_k, v_other] H' := by
  refine ⟨_, (pss_cons (ps_for (passes_of rfl) rfl (pi_range1 rfl T.b_range (pa_cons (pe_callB (call_lenK (K := K) rfl) rfl T.b_len (by decide +kernel) (pa_cons (pv 2) pa_nil)) pa_nil)) (pg_name (i := 8) sc_law.nd rfl (Or.inr rfl)) (pss_cons (ps_setLc (i := 9) rfl sc_law.nd rfl rfl rfl (pi_range1 rfl T.b_range (pa_cons (pv 5) pa_nil)) (blkOk_by (N := ["script", "dice", "rules", "short", "leaps", "year", "longs", "one", "place", "mine", "later", "cycle", "number", "longer", "many", "before", "rest", "far", "day", "years", "days", "most", "best", "some", "off", "part", "whole", "k", "other"]) (sc := defScope s_law) (own := [("one", 7)]) (by decide +kernel)) (fun _ _ _ _ _ => (pg_name (i := 7) sc_law.nd rfl (by first | exact Or.inl rfl | exact Or.inr rfl))) (fun _ _ _ _ _ => (pts_one (PW.pt (pw_and (pt_cmpR op_eq (pe_op op_mod (pv 7) (pe_ix (ix_tupK (K := K) rfl) (pe_ix (ix_listK (K := K) rfl) (pv 2) (pv 8) (fun _ _ => rfl)) pe_int (fun _ _ => rfl))) pe_int (nomark _)) (pw_and1 (pt_cmpR (op_eqDK (K := K) rfl hr.units) (pe_lc rfl sc_law.nd (pi_listK (K := K) rfl (pe_slice (sl_listNK (T := TT K) (K := K) rfl) (pv 2) (po_some (pe_op op_add (pv 8) pe_int)) po_none)) (blkOk_by (own := [("later", 10)]) (by rfl)) (fun _ _ _ _ _ => (pg_name (i := 10) sc_law.nd rfl (by first | exact Or.inl rfl | exact Or.inr rfl))) (fun _ _ _ _ _ => (pts_one (pt_cmpR op_eq (pe_op op_mod (pv 7) (pe_ix (ix_tupK (K := K) rfl) (pv 10) pe_int (fun _ _ => rfl))) pe_int (nomark _)))) (fun _ _ _ _ _ => pe_int)) (pe_lstN (T := TT K) pa_nil) (nomark _))))))) (fun _ _ _ _ _ => (pv 7)))
 (pss_one (ps_if (pt_cmpR op_ne (pe_meth (pv 4) T.c_Leaps T.m_Leaps_turned (ok_Leaps_turned T) (hr.mono (by decide)) (bi_Leaps_turned T) .nil (passes_call (takes_of rfl rfl rfl rfl) fun _ _ _ _ h => h) (pa_cons (pv 8) (pa_cons (pv 5) pa_nil))) (pe_ifExp (pt_val (pe_ix (ix_tupK (K := K) rfl) (pe_ix (ix_listK (K := K) rfl) (pv 2) (pv 8) (fun _ _ => rfl)) pe_int (fun _ _ => rfl))) (pe_callB (call_lenK (K := K) rfl) rfl T.b_len (by decide +kernel) (pa_cons (pv 9) pa_nil)) pe_int) (nomark _)) (pss_one (ps_ret pe_bl)) pss_nil))))
 (law_C T tk cdv A outer s H0 E hr).choose_spec.1), ?_⟩
  intro D v_one v_place v_mine v_later v_cycle v_number v_longer v_many v_before v_rest v_far v_day v_years v_days v_most v_best v_some v_off v_part v_whole v_k v_other a dq q lp lg sr y rs H' ⟨F, hsr, hy⟩ hD
  have ok := F.ok
  obtain ⟨ts, ru1, ru2⟩ := F.ru
  have tl : (ts.map V.ref).length = rs.length := by rw [List.length_map, ru2.1]
  have six := ok.six
  walk_at "s"
  refine ⟨_, _, rfl, .inl (SqL.of ru1), ?_⟩
  refine ⟨_, rfl, by omega, by omega, ?_⟩
  rw [tl, Int.toNat_natCast]
  refine for_range (fun i σ2 H2 => ∃ (u v w : Option V), σ2 = [some (.ref a), some (.ref dq), some (.ref q), some (.int (1 + (sr : Int))), some (.ref lp), some (.int (y : Nat)), some (.ref lg), w, u, v, v_later, v_cycle, v_number, v_longer, v_many, v_before, v_rest, v_far, v_day, v_years, v_days, v_most, v_best, v_some, v_off, v_part, v_whole, v_k, v_other] ∧ Ext (TT K) No H' H2) ⟨_, _, _, rfl, .refl⟩ ?_ ?_
  · rintro i σ2 H2 hi ⟨u, v, w1, rfl, e2⟩
    obtain ⟨tr, r, hv, hr', htr⟩ := ru2.at hi
    have r1 := (ok.rng r (List.mem_of_getElem? hr')).1
    have htr2 := e2.fix _ _ htr rfl
    have ru1' := e2.lst _ _ ru1 id
    have ru2' := ru2.ext e2
    walk_at "s"
    refine ⟨by omega, by omega, fun D1 hD1 => ?_⟩
    rw [Int.toNat_natCast]
    have hqD : ¬ q = D1 := fun z => by rw [z, hD1] at ru1'; cases ru1'
    refine lc_range (fun k H3 => ∃ acc : List V, H3 D1 = some (.lst acc) ∧ acc.length = MM.cn (fun k => decide (r.1 ∣ k) && MM.free (rs.drop (i + 1)) k) k ∧ Ext (TT K) (· = D1) H2 H3) ⟨[], upd_same, rfl, (Ext.new hD1).no⟩ ?_ ?_
    · rintro k H3 hk ⟨acc, h3, hl, e3⟩
      have hcn := MM.cn_le (fun k => decide (r.1 ∣ k) && MM.free (rs.drop (i + 1)) k) k
      have ru3 := e3.lst _ _ ru1' hqD
      have htr3 := e3.fix _ _ htr2 rfl
      have no : (decide (r.1 ∣ k) && MM.free (rs.drop (i + 1)) k) = false → ∀ H4, Ext (TT K) No H3 H4 → ∃ acc : List V, H4 D1 = some (.lst acc) ∧ acc.length = MM.cn (fun k => decide (r.1 ∣ k) && MM.free (rs.drop (i + 1)) k) (k + 1) ∧ Ext (TT K) (· = D1) H2 H4 := fun z H4 e4 => by
        refine ⟨acc, e4.lst _ _ h3 id, ?_, e3.trans e4.no⟩
        show _ = MM.cn _ k + (if (decide (r.1 ∣ k) && MM.free (rs.drop (i + 1)) k) = true then 1 else 0)
        rw [z, hl]
        rfl
      walk_at "s"
      refine ⟨_, _, _, _, rfl, rfl, SqL.of ru3, atI_of (by omega) hv, ?_⟩
      refine ⟨_, _, _, _, rfl, rfl, SqT.of htr3, rfl, ?_⟩
      walk_at "s"
      refine ⟨by omega, ?_⟩
      walk_at "s"
      refine ifBr (fun q1 => ?_) (fun q1 => ?_)
      · have q1 : ¬ r.1 ∣ k := fun z => by
          have q1 : ¬ ((k : Int) % (r.1 : Int) = 0) := by simpa using q1
          exact q1 (mod0.mpr z)
        exact no (by simp [q1]) H3 .refl
      have q1 : r.1 ∣ k := by
        have q1 : (k : Int) % (r.1 : Int) = 0 := by simpa using q1
        exact mod0.mp q1
      walk_at "s"
      refine ⟨_, _, rfl, SqL.of ru3, fun p4 H4 hp4 hv4 e4 => ?_⟩
      have ecut : cutV (ts.map V.ref) (some (0 + (i : Int) + 1)) none = (ts.drop (i + 1)).map V.ref := by
        have e : (0 + (i : Int) + 1) = ((i + 1 : Nat) : Int) := by omega
        rw [e, cutFrom, List.map_drop]
      have hv4 : H4 p4 = some (.lst ((ts.drop (i + 1)).map V.ref)) := by
        rw [← ecut]
        exact hv4
      have ru4 : RulesT H4 (ts.drop (i + 1)) (rs.drop (i + 1)) := by
        have h := (ru2'.ext e3).ext e4
        refine ⟨by simp [h.1], fun j t x g1 g2 => ?_⟩
        rw [List.getElem?_drop] at g1 g2
        exact h.2 _ t x g1 g2
      refine ⟨_, rfl, ⟨_, SqL.of hv4⟩, fun D2 hD2 => ?_⟩
      have hpD : ¬ p4 = D2 := fun z => by rw [z, hD2] at hv4; cases hv4
      refine lc_list (xs := (ts.drop (i + 1)).map V.ref) (fun j H5 => ∃ m, H5 D2 = some (.lst (List.replicate m (.int 1))) ∧ (m = 0 ↔ MM.free ((rs.drop (i + 1)).take j) k = true) ∧ m ≤ j ∧ Ext (TT K) (· = D2) H4 H5) ⟨0, upd_same, by simp [MM.free], Nat.le_refl _, (Ext.new hD2).no⟩ (fun j H5 _ ⟨_, _, _, _, e⟩ => SqL.of (e.lst _ _ hv4 hpD)) ?_ ?_
      · rintro j x H5 hx ⟨m, h5, hm, hmj, e5⟩
        obtain ⟨t, r2, rfl, ht, hr2, hvt⟩ := ru4.get hx
        have hr21 := (ok.rng r2 (List.mem_of_mem_drop (List.mem_of_getElem? hr2))).1
        have hj := (List.getElem?_eq_some_iff.mp hr2).1
        rw [List.length_drop] at hj
        have htk : MM.free ((rs.drop (i + 1)).take (j + 1)) k = (MM.free ((rs.drop (i + 1)).take j) k && !decide (r2.1 ∣ k)) := by
          rw [List.take_add_one, hr2]
          unfold MM.free
          rw [List.all_append]
          simp
        walk_at "s"
        refine ⟨_, _, _, _, rfl, rfl, SqT.of (e5.fix _ _ hvt rfl), rfl, ?_⟩
        walk_at "s"
        refine ⟨by omega, ?_⟩
        walk_at "s"
        refine ifB (fun q2 => ?_) (fun q2 => ?_)
        · have q2 : r2.1 ∣ k := by
            have q2 : (k : Int) % (r2.1 : Int) = 0 := by simpa using q2
            exact mod0.mp q2
          refine ⟨_, h5, by rw [List.length_replicate]; exact szl (by omega), m + 1, by rw [List.replicate_succ']; exact upd_same, ?_, by omega, e5.trans (Ext.set h5 rfl)⟩
          rw [htk]
          simp [q2]
        · have q2 : ¬ r2.1 ∣ k := fun z => by
            have q2 : ¬ ((k : Int) % (r2.1 : Int) = 0) := by simpa using q2
            exact q2 (mod0.mpr z)
          refine ⟨m, h5, ?_, by omega, e5⟩
          rw [htk, hm]
          simp [q2]
      rintro H5 ⟨m, h5, hm, hmj, e5⟩
      rw [List.take_of_length_le (by rw [List.length_map, List.length_drop, List.length_drop, ru2.1]; omega)] at hm
      have e5n := e5.mono1 (NoM.of hD2)
      walk_at "s"
      refine ⟨sz, fun l0 H6 hl0 hv0 e6 => ?_⟩
      refine ⟨_, _, dpOnes (e6.lst _ _ h5 id), .lst (SqL.of hv0) .nil, shOnes _, rfl, ?_⟩
      have e36 := (e4.trans e5n).trans e6
      walk_at "s"
      refine ifBr (fun q3 => ?_) (fun q3 => ?_)
      · have q3 : ¬ m = 0 := by
          rw [eqOnes] at q3
          simpa using q3
        have hf : MM.free (rs.drop (i + 1)) k = false := by
          cases z : MM.free (rs.drop (i + 1)) k with
          | false => rfl
          | true => exact absurd (hm.mpr z) q3
        exact no (by simp [hf]) H6 e36
      have q3 : m = 0 := by
        rw [eqOnes] at q3
        simpa using q3
      have hf := hm.mp q3
      have h6 := e36.lst _ _ h3 id
      walk_at "s"
      refine ⟨_, h6, szl (by omega), _, upd_same, ?_, (e3.trans e36.no).trans (Ext.set h6 rfl)⟩
      rw [List.length_append, hl]
      show _ = MM.cn _ k + (if (decide (r.1 ∣ k) && MM.free (rs.drop (i + 1)) k) = true then 1 else 0)
      rw [if_pos (by simp [q1, hf])]
      rfl
    rintro H3 ⟨acc, h3, hl, e3⟩
    have e3n := e3.mono1 (NoM.of hD1)
    have E3 := e2.trans e3n
    have F3 := F.no E3
    obtain ⟨dx9, p9, ts9, l1, l2, l3⟩ := F3.le
    walk_at "s"
    refine ⟨_, _, _, rfl, l1, rfl, ?_⟩
    walk_at "s"
    refine ⟨lp, rs, i, y, by simp, F3.le, ok, hi, by omega, fun H4 e4 => ?_⟩
    have E4 := E3.trans e4
    have htr4 := e4.fix _ _ (e3n.fix _ _ htr2 rfl) rfl
    have ru4 := e4.lst _ _ (e3n.lst _ _ ru1' id) id
    walk_at "s"
    refine ⟨_, _, _, _, rfl, rfl, SqL.of ru4, atI_of (by omega) hv, ?_⟩
    refine ⟨_, _, _, _, rfl, rfl, SqT.of htr4, rfl, ?_⟩
    walk_at "s"
    have hT : MM.turnedV rs i y = if r.2 = true then acc.length else 0 := by
      unfold MM.turnedV
      rw [hr', hl]
      rfl
    refine ifB (fun q1 => ?_) (fun q1 => ?_)
    · walk_at "s"
      refine ⟨_, _, rfl, .inl (SqL.of (e4.lst _ _ h3 id)), ?_⟩
      walk_at "s"
      refine ifB (fun z => absurd z (by rw [hT, if_pos q1]; simp)) (fun _ => ?_)
      exact ⟨_, _, _, rfl, E4⟩
    · walk_at "s"
      refine ifB (fun z => absurd z (by rw [hT, if_neg (by rw [q1]; decide)]; simp)) (fun _ => ?_)
      exact ⟨_, _, _, rfl, E4⟩
  rintro σ2 H2 ⟨u, v, w1, rfl, e2⟩
  exact (law_C T tk cdv A outer s H0 E hr).choose_spec.2 D _ _ _ _ _ _ _ _ _ _ _ _ _ _ _ _ _ _ _ _ _ _  a dq q lp lg sr y rs H2 ⟨F.no e2, hsr, hy⟩ fun σ3 H9 e9 => hD σ3 H9 (e2.no.trans e9)

end K01

set_option Elab.async false
set_option linter.all false
set_option maxRecDepth 100000
set_option maxHeartbeats 2000000
namespace K01
open PySem PySem.Spec PyProof.Rows L2 MB
local macro_rules | `(tactic| walk_at "s") => `(tactic| repeat (first | refine ⟨_, rfl, ?_⟩ | refine ⟨_, _, rfl, rfl, ?_⟩ | refine ⟨_, _, rfl, ?_⟩ | refine ⟨rfl, ?_⟩))
variable {P : Program} {w : World} {K : PySem.W.Frag} {mg : Str → Option Value} {base : Heap}
theorem law_A (T : Tx K mg base) (tk : TOk (TT K)) (cdv : Value) (A : Around) (outer : List Env) (s : Shared) (H0 : Hp) (E : XK) (hr : Room 39 (A.deeper (envOfC "law" (defScope s_law) s.heap.objs.size (He.fAd K ("law", none)) cdv))) :
    ∃ t, PSs (cxOf (L2.CX P w) P w K mg base ["script", "dice", "rules", "short", "leaps", "year", "longs", "one", "place", "mine", "later", "cycle", "number", "longer", "many", "before", "rest", "far", "day", "years", "days", "most", "best", "some", "off", "part", "whole", "k", "other"] "law" (defScope s_law) (He.fAd K ("law", none)) cdv A outer s H0 E) lawBody t ∧
      ∀ (D : Ends) (a dq : Addr) (H' : Hp), DiceAt H' dq → Gd (TT K) H' → (∀ σ2 H2, Ext (TT K) (· = dq) H' H2 → D.nx σ2 H2) → t D ((L2.start ["script", "dice", "rules", "short", "leaps", "year", "longs", "one", "place", "mine", "later", "cycle", "number", "longer", "many", "before", "rest", "far", "day", "years", "days", "most", "best", "some", "off", "part", "whole", "k", "other"] [V.ref a]).set 1 (some (.ref dq))) H' := by
  refine ⟨_, (pss_cons (ps_asg (pe_tupN (T := TT K) (pa_cons (pe_call (ok_law_rules T) (hr.mono (by decide)) rfl T.g_law_rules T.F_law_rules.kp (bi_law_rules T) .nil (passes_call (takes_of rfl rfl rfl rfl) fun _ _ _ _ h => h) (pa_cons (pv 1) pa_nil)) (pa_cons (pe_op op_add pe_int (pe_call (ok_law_roll T) (hr.mono (by decide)) rfl T.g_law_roll T.F_law_roll.kp (bi_law_roll T) .nil (passes_call (takes_of rfl rfl rfl rfl) fun _ _ _ _ h => h) (pa_cons (pv 1) (pa_cons pe_int pa_nil)))) pa_nil))) (pg_tupK (K := K) (n := 2) rfl rfl (pgs_cons (pg_name (i := 2) sc_law.nd rfl (Or.inr rfl)) (pgs_cons (pg_name (i := 3) sc_law.nd rfl (Or.inl rfl)) pgs_nil))))
 (pss_cons (ps_asg (pe_tupN (T := TT K) (pa_cons (pe_make T.mk_Leaps (ok_Leaps_init T tk) (hr.mono (by decide)) rfl T.g_Leaps (bi_Leaps_init T) .nil (passes_call (takes_of rfl rfl rfl rfl) fun _ _ _ _ h => h) (pa_cons (pv 2) pa_nil)) (pa_cons (pe_call (ok_law_roll T) (hr.mono (by decide)) rfl T.g_law_roll T.F_law_roll.kp (bi_law_roll T) .nil (passes_call (takes_of rfl rfl rfl rfl) fun _ _ _ _ h => h) (pa_cons (pv 1) (pa_cons pe_int pa_nil))) pa_nil))) (pg_tupK (K := K) (n := 2) rfl rfl (pgs_cons (pg_name (i := 4) sc_law.nd rfl (Or.inr rfl)) (pgs_cons (pg_name (i := 5) sc_law.nd rfl (Or.inl rfl)) pgs_nil))))
 (pss_cons (ps_setLc (i := 6) rfl sc_law.nd rfl rfl rfl (pi_range1 rfl T.b_range (pa_cons pe_int pa_nil)) (blkOk_by (N := ["script", "dice", "rules", "short", "leaps", "year", "longs", "one", "place", "mine", "later", "cycle", "number", "longer", "many", "before", "rest", "far", "day", "years", "days", "most", "best", "some", "off", "part", "whole", "k", "other"]) (sc := defScope s_law) (own := [("one", 7)]) (by decide +kernel)) (fun _ _ _ _ _ => (pg_name (i := 7) sc_law.nd rfl (by first | exact Or.inl rfl | exact Or.inr rfl))) (fun _ _ _ _ _ => pts_nil) (fun _ _ _ _ _ => (pe_call (ok_law_long T) (hr.mono (by decide)) rfl T.g_law_long T.F_law_long.kp (bi_law_long T) .nil passL (pa_cons (pv 2) (pa_cons (pv 7) pa_nil)))))
 (pss_cons (ps_if (PW.pt (pw_or (pt_cmpR (op_neDK (K := K) rfl hr.units) (pe_lc rfl sc_law.nd (pi_range1 rfl T.b_range (pa_cons pe_int pa_nil)) (blkOk_by (N := ["script", "dice", "rules", "short", "leaps", "year", "longs", "one", "place", "mine", "later", "cycle", "number", "longer", "many", "before", "rest", "far", "day", "years", "days", "most", "best", "some", "off", "part", "whole", "k", "other"]) (sc := defScope s_law) (own := [("one", 7)]) (by decide +kernel)) (fun _ _ _ _ _ => (pg_name (i := 7) sc_law.nd rfl (by first | exact Or.inl rfl | exact Or.inr rfl))) (fun _ _ _ _ _ => pts_nil) (fun _ _ _ _ _ => (pe_meth (pv 4) T.c_Leaps T.m_Leaps_is_long (ok_Leaps_is_long T) (hr.mono (by decide)) (bi_Leaps_is_long T) .nil passL (pa_cons (pv 7) pa_nil)))) (pe_slice (sl_listNK (T := TT K) (K := K) rfl) (pv 6) po_none (po_some pe_int)) (nomark _)) (pw_or (pt_cmpR op_ne (pe_meth (pv 4) T.c_Leaps T.m_Leaps_is_long (ok_Leaps_is_long T) (hr.mono (by decide)) (bi_Leaps_is_long T) .nil (passes_call (takes_of rfl rfl rfl rfl) fun _ _ _ _ h => h) (pa_cons (pv 5) pa_nil)) (pe_ix (ix_listK (K := K) rfl) (pv 6) (pv 5) (fun _ _ => rfl)) (nomark _)) (pw_or1 (pt_cmpR op_ne (pe_meth (pv 4) T.c_Leaps T.m_Leaps_long_before (ok_Leaps_long_before T) (hr.mono (by decide)) (bi_Leaps_long_before T) .nil (passes_call (takes_of rfl rfl rfl rfl) fun _ _ _ _ h => h) (pa_cons (pv 5) pa_nil)) (pe_bmK (K := K) rfl PySem.F.plainAttrs_list PySem.F.slot_list_count PySem.F.type_list_count (mt_countBK (K := K) rfl) (pe_slice (sl_listNK (T := TT K) (K := K) rfl) (pv 6) po_none (po_some (pv 5))) (pa_cons pe_bl pa_nil)) (nomark _)))))) (pss_one (ps_ret pe_bl)) pss_nil)
 (law_B T tk cdv A outer s H0 E hr).choose_spec.1)))), ?_⟩
  intro D a dq H' hdq gd1 hD
  -- rules, short
  walk_at "s"
  refine ⟨hdq, fun q rs H2 hru nlq ok r12 rl4 hqd hd2 e2 => ?_⟩
  walk_at "s"
  refine ⟨hd2, by decide, by decide, fun sr H3 hsr hd3 e3 => ?_⟩
  walk_at "s"
  refine ⟨sz, fun t4 H4 ht4 hv4 e4 => ?_⟩
  refine ⟨_, _, rfl, SqT.of hv4, rfl, ?_⟩
  have hd4 := hd3.ext e4 id
  have e14 := (e2.trans e3).trans e4.no
  obtain ⟨ts, hts1, hts2⟩ := hru
  have hts1 := e4.lst _ _ (e3.lst _ _ hts1 hqd) id
  have hts2 := (hts2.ext e3).ext e4
  clear e2 e3 e4 hd2 hd3 hv4
  -- leaps, year
  walk_at "s"
  intro lp dx hlp hdx hdn
  refine ⟨lp, dx, q, rs, H4, rfl, hlp, hdx, hdn, rfl, e14.gd gd1, ⟨ts, .inl (SqL.of hts1), hts2⟩, by omega, fun _ H5 hle e5 => ⟨rfl, ?_⟩, fun nrv => absurd ⟨ok.pos, ok.six, ok.rng, ok.asc⟩ nrv⟩
  have hd5 := hd4.ext e5 id
  walk_at "s"
  refine ⟨hd5, by decide, by decide, fun y H6 hy300 hd6 e6 => ?_⟩
  walk_at "s"
  refine ⟨sz, fun t7 H7 ht7 hv7 e7 => ?_⟩
  refine ⟨_, _, rfl, SqT.of hv7, rfl, ?_⟩
  have e17 := ((e14.trans e5.no).trans e6).trans e7.no
  have hle7 := (hle.ext e6).ext e7
  have hts7 := e7.lst _ _ (e6.lst _ _ (e5.lst _ _ hts1 id) hqd) id
  have hrt7 := ((hts2.ext e5).ext e6).ext e7
  have hru7 : RulesL K H7 q rs := ⟨ts, SqL.of hts7, hrt7⟩
  have hd7 := hd6.ext e7 id
  have ln7 := nlq
  clear hlp hdx hdn hts1 hts2 e14 hle e5 e6 e7 hd4 hd5 hd6 hv7
  -- longs
  walk_at "s"
  refine ⟨by decide, by decide, fun lg hlg => ?_⟩
  have lgd : ¬ lg = dq := fun z => by
    obtain ⟨_, _, _, h⟩ := hd7
    rw [z, h] at hlg
    cases hlg
  have lgq : ¬ q = lg := fun z => by
    rw [← z, hts7] at hlg
    cases hlg
  refine lc_range (fun i H8 => H8 lg = some (.lst (((List.range i).map (MM.isLong rs)).map V.bl)) ∧ Ext (TT K) (· = lg) H7 H8) ⟨upd_same, (Ext.new hlg).no⟩ ?_ ?_
  · rintro i H8 hi ⟨h8, e8⟩
    walk_at "s"
    refine ⟨q, rs, i, by simp, hru7.ext e8 lgq, fun r hr => (ok.rng r hr).1, ?_⟩
    refine ⟨_, h8, by simp; exact szl (by omega), ?_, e8.trans (Ext.set h8 rfl)⟩
    rw [List.range_succ]
    simp [upd_same]
  rintro H8 ⟨h8, e8⟩
  have F : LF K dq q lp lg rs H8 := ⟨(e17.gd gd1 |> e8.gd), hd7.ext e8 (Ne.symm lgd), ⟨ts, e8.lst _ _ hts7 lgq, hrt7.ext e8⟩, hle7.ext e8, h8, ok, r12, hqd, lgd⟩
  have E8 : Ext (TT K) (· = dq) H' H8 := e17.trans (e8.mono1 (NoM.of hlg)).no
  clear e17 hd7 hts7 hru7 hrt7 hle7 h8 e8 hlg lgd lgq ln7
  -- the first test
  walk_at "s"
  have F8 := F
  refine ⟨by decide, by decide, fun D1 hD1 => ?_⟩
  refine lc_range (fun i H9 => H9 D1 = some (.lst (((List.range i).map (MM.isLong rs)).map V.bl)) ∧ Ext (TT K) (· = D1) H8 H9) ⟨upd_same, (Ext.new hD1).no⟩ ?_ ?_
  · rintro i H9 hi ⟨h9, e9⟩
    obtain ⟨dx9, p9, ts9, l1, l2, l3⟩ := F8.le.ext e9
    walk_at "s"
    refine ⟨_, _, _, rfl, l1, rfl, ?_⟩
    walk_at "s"
    refine ⟨lp, rs, (i : Int), by simp, F8.le.ext e9, ok, fun _ _ => ?_, fun z => absurd ⟨by omega, by omega⟩ z⟩
    refine ⟨_, h9, by simp; exact szl (by omega), ?_, e9.trans (Ext.set h9 rfl)⟩
    rw [List.range_succ]
    simp [upd_same]
  rintro H9 ⟨h9, e9⟩
  have F9 := F8.no (e9.mono1 (NoM.of hD1))
  have E9 := E8.trans (e9.mono1 (NoM.of hD1)).no
  clear e9 hD1
  walk_at "s"
  refine ⟨_, _, rfl, SqL.of F9.lo, fun p10 H10 hp10 hv10 e10 => ?_⟩
  have hv10 : H10 p10 = some (.lst (((List.range 60).map (MM.isLong rs)).map V.bl)) := by
    rw [← longs_cut rs (by decide)]
    exact hv10
  have F10 := F9.no e10
  have E10 := E9.trans e10.no
  have h9' := e10.lst _ _ h9 id
  refine ⟨_, _, dpBls h9', dpBls hv10, shBls _, shBls _, ?_⟩
  clear F8 F9 E8 E9 e10 h9 h9' hv10 hp10
  walk_at "s"
  refine ifB (fun z => absurd z (by rw [eqBls]; simp)) (fun _ => ?_)
  -- one year
  obtain ⟨dx9, p9, ts9, l1, l2, l3⟩ := F10.le
  walk_at "s"
  refine ⟨_, _, _, rfl, l1, rfl, ?_⟩
  walk_at "s"
  refine ⟨lp, rs, (y : Int), by simp, F10.le, ok, fun _ _ => ?_, fun z => absurd ⟨by omega, by omega⟩ z⟩
  walk_at "s"
  refine ⟨_, _, _, _, rfl, rfl, SqL.of F10.lo, atI_nat (longs_at rs (by omega)), ?_⟩
  walk_at "s"
  refine ifB (fun z => absurd z (by simp)) (fun _ => ?_)
  -- longs before
  walk_at "s"
  refine ⟨_, _, _, rfl, l1, rfl, ?_⟩
  walk_at "s"
  refine ⟨lp, rs, (y : Int), by simp, F10.le, ok, fun _ _ H11 e11 => ?_, fun z => absurd ⟨by omega, by omega⟩ z⟩
  have F11 := F10.no e11
  have E11 := E10.trans e11.no
  clear F10 E10 e11 l1 l2 l3
  walk_at "s"
  refine ⟨_, _, rfl, SqL.of F11.lo, fun p12 H12 hp12 hv12 e12 => ?_⟩
  have hv12 : H12 p12 = some (.lst (((List.range y).map (MM.isLong rs)).map V.bl)) := by
    rw [← longs_cut rs (by omega)]
    exact hv12
  have F12 := F11.no e12
  have E12 := E11.trans e12.no
  clear F11 E11 e12 hp12
  refine ⟨.inl ⟨rfl, _, .inl (.inl hv12)⟩, ?_⟩
  walk_at "s"
  refine ⟨_, _, _, rfl, rfl, SqL.of hv12, ?_⟩
  rw [count_range]
  walk_at "s"
  refine ifB (fun z => absurd z (by simp)) (fun _ => ?_)
  clear hv12
  exact (law_B T tk cdv A outer s H0 E hr).choose_spec.2 D _ _ _ _ _ _ _ _ _ _ _ _ _ _ _ _ _ _ _ _ _ _  a dq q lp lg sr y rs H12 ⟨F12, by omega, by omega⟩ fun σ3 H9 e9 => hD σ3 H9 (E12.trans e9)

theorem ok_law (T : Tx K mg base) (tk : TOk (TT K)) (ok_law_plain : ∀ T : Tx K mg base, FnOk P w K mg base (L2.CX P w) 30 (He.fAd K ("_law_plain", none)) T.fd_law_plain [] (spPlain K)) : FnOk P w K mg base (L2.CX P w) 40 (He.fAd K ("law", none)) T.fd_law ["script"] (spLaw K) := by
  refine T.F_law.ok sc_law (fun vs H Q E h => ?_) (fun cdv A outer s H vs Q E hr h => ⟨_, (pss_cons (ps_for (passes_of rfl) rfl (pi_listK (K := K) rfl (pe_call (ok_law_rounds T) (hr.mono (by decide)) rfl T.g_law_rounds T.F_law_rounds.kp (bi_law_rounds T) .nil (passes_call (takes_of rfl rfl rfl rfl) fun _ _ _ _ h => h) (pa_cons (pv 0) (pa_cons pe_int pa_nil)))) (pg_name (i := 1) sc_law.nd rfl (Or.inl rfl)) (law_A T tk cdv A outer s H E hr).choose_spec.1)
 (pss_one (ps_ret (pe_call0 (ok_law_plain T) (hr.mono (by decide)) rfl T.g_law_plain T.F_law_plain.kp (bi_law_plain T) .nil (passes_call (takes_of rfl rfl rfl rfl) fun _ _ _ _ h => h))))), ?_⟩)
  · obtain ⟨a, ns, rfl, _⟩ := h
    rfl
  · obtain ⟨a, ns, rfl, hS, gd, hQ⟩ := h
    walk_at "s"
    refine ⟨a, ns, rfl, hS, fun p0 dq H1 hp0 hdq hne e1 => ?_⟩
    have gd1 := e1.gd gd
    clear hS e1 gd
    walk_at "s"
    refine ⟨⟨_, SqL.of hp0⟩, ?_⟩
    refine for_list (xs := [.ref dq]) (fun i σ' H' => (i = 0 → σ' = L2.start ["script", "dice", "rules", "short", "leaps", "year", "longs", "one", "place", "mine", "later", "cycle", "number", "longer", "many", "before", "rest", "far", "day", "years", "days", "most", "best", "some", "off", "part", "whole", "k", "other"] [V.ref a] ∧ H' = H1) ∧ Gd (TT K) H' ∧ H' p0 = some (.lst [.ref dq])) ⟨fun _ => ⟨rfl, rfl⟩, gd1, hp0⟩ (fun i σ' H' _ ⟨_, _, e⟩ => SqL.of e) ?_ ?_
    rotate_left
    · rintro σ2 H2 ⟨_, g2, _⟩
      walk_at "s"
      exact ⟨g2, fun H3 _ => hQ H3⟩
    rintro i x σ' H' hx ⟨h0, _, _⟩
    have hi : i = 0 := by
      have := (List.getElem?_eq_some_iff.mp hx).1
      simp at this
      exact this
    subst hi
    obtain ⟨rfl, rfl⟩ := h0 rfl
    cases hx
    exact (law_A T tk cdv A outer s H E hr).choose_spec.2 _ a dq H' hdq gd1 fun σ2 H2 e => ⟨fun z => (nomatch z), e.gd gd1, e.lst _ _ hp0 (Ne.symm hne)⟩
end K01

set_option Elab.async false
set_option linter.all false
set_option maxRecDepth 100000
set_option maxHeartbeats 2000000
namespace K01
open PySem PySem.Spec PyProof.Rows L2 MB
local macro_rules | `(tactic| walk_at "s") => `(tactic| repeat (first | refine ⟨_, rfl, ?_⟩ | refine ⟨_, _, rfl, rfl, ?_⟩ | refine ⟨_, _, rfl, ?_⟩ | refine ⟨rfl, ?_⟩))
variable {P : Program} {w : World} {K : PySem.W.Frag} {mg : Str → Option Value} {base : Heap}
def plainBody : List Stmt := defBody s_law_plain
def lamOf (i : Nat) : ML.LamD := match plainBody with
  | _ :: (.Assign _ (.List es _) _) :: _ => (match es.getD i (.Constant .none 0 ⟨0, 0, 0, 0⟩) with
    | .Lambda params body scope _ => ⟨params, body, scope⟩
    | e => ⟨defArgs s_law_plain, e, defScope s_law_plain⟩)
  | _ => ⟨defArgs s_law_plain, .Constant .none 0 ⟨0, 0, 0, 0⟩, defScope s_law_plain⟩
abbrev plainX (P : Program) (w : World) (K : PySem.W.Frag) (mg : Str → Option Value) (base : Heap) (A : Around) (outer : List Env) (s : Shared) (H0 : Hp) (E0 : XK) : Cx :=
  cxOf (L2.CX P w) P w K mg base ["leaps", "bad", "k", "f", "year"] "_law_plain" (defScope s_law_plain) (He.fAd K ("_law_plain", none)) (.ref (He.cT K ("_law_plain", none)).1) A outer s H0 E0
def R400 : MM.Rules := [(4, true), (100, false), (400, true)]
theorem ok400 : ROk R400 := ⟨by decide, by decide, by decide, fun i a b h1 h2 => by
  match i with
  | 0 => cases h1; cases h2; decide
  | 1 => cases h1; cases h2; decide
  | 2 => simp [R400] at h2
  | i + 3 => simp [R400] at h1, by decide⟩
theorem cn400 (y : Nat) : MM.cn (MM.isLong R400) y + (y + 99) / 100 = (y + 3) / 4 + (y + 399) / 400 := by
  have h1 := MM.cn_long R400 y
  have e1 := MM.G_E 4 (by decide) [(100, false), (400, true)] y
  have e2 := MM.G_E 100 (by decide) [(400, true)] y
  have e3 := MM.G_E 400 (by decide) [] y
  have d1 : MM.E 4 [(100, false), (400, true)] y = MM.G 100 [(400, true)] y + (MM.G 400 [] y + 0) := rfl
  have d2 : MM.E 100 [(400, true)] y = MM.G 400 [] y + 0 := rfl
  have d3 : MM.E 400 [] y = 0 := rfl
  have d4 : MM.S R400 y = MM.G 4 [(100, false), (400, true)] y + (0 + (MM.G 400 [] y + 0)) := rfl
  rw [h1, d4]
  omega
theorem rnil {H : Hp} : RulesT H [] [] := ⟨rfl, fun _ _ _ z => by simp at z⟩
theorem rsnoc {H : Hp} {as : List Addr} {rs : MM.Rules} {t : Addr} {n : Nat} {b : Bool} (h : RulesT H as rs) (ht : H t = some (.tup [.int (n : Nat), .bl b])) : RulesT H (as ++ [t]) (rs ++ [(n, b)]) :=
  ⟨by simp [h.1], snoc_at h.1 h.2 ht⟩
abbrev LamGood (P : Program) (w : World) (K : PySem.W.Frag) (mg : Str → Option Value) (base : Heap) (L : ML.LamD) (A : Around) (outer : List Env) (s : Shared) (H0 : Hp) (E0 : XK) : Prop :=
  ∃ t : XK → TE, ML.LamT (plainX P w K mg base A outer s H0 E0) 20 L t ∧
    ∀ (E : XK) (lp : Addr) (v1 v2 v3 v4 : Option V) (H : Hp) (Q : VK), LeapsAt (LC K) H lp R400 → Gd (TT K) H → (∀ H', Ext (TT K) No H H' → E (YE K) none H') → t E [some (.ref lp), v1, v2, v3, v4] H Q
theorem lam_0 (T : Tx K mg base) (tk : TOk (TT K)) (A : Around) (outer : List Env) (s : Shared) (H0 : Hp) (E0 : XK) : LamGood P w K mg base (lamOf 0) A outer s H0 E0 := by
  refine ⟨fun E => _, ⟨LamX.lamS_by (sc := defScope s_law_plain) (by decide +kernel), fun _ _ _ _ _ => rfl, fun A outer s H E f c' hr => (pe_make T.mk_Leaps (ok_Leaps_init T tk) (hr.mono (by decide)) rfl T.g_Leaps (bi_Leaps_init T) .nil (passes_call (takes_of rfl rfl rfl rfl) fun _ _ _ _ h => h) (pa_cons (pe_lstN (T := TT K) pa_nil) pa_nil))⟩, ?_⟩
  intro E lp v1 v2 v3 v4 H Q hle gd hE
  obtain ⟨dx9, p9, ts9, l1, l2, l3⟩ := hle
  have hle : LeapsAt (LC K) H lp R400 := ⟨dx9, p9, ts9, l1, l2, l3⟩
  walk_at "s"
  refine ⟨sz, fun q Hq hq hvq eq => ?_⟩
  walk_at "s"
  have eA : Ext (TT K) No H Hq := eq
  intro x dx hx hdx hne
  refine ⟨x, dx, q, [], Hq, rfl, hx, hdx, hne, rfl, eA.gd gd, ⟨[], .inl (SqL.of hvq), (rnil).ext eq⟩, by decide, fun rv => absurd rv.pos (by decide), fun _ H2 e2 => hE H2 (eA.trans e2)⟩
theorem lam_1 (T : Tx K mg base) (tk : TOk (TT K)) (A : Around) (outer : List Env) (s : Shared) (H0 : Hp) (E0 : XK) : LamGood P w K mg base (lamOf 1) A outer s H0 E0 := by
  refine ⟨fun E => _, ⟨LamX.lamS_by (sc := defScope s_law_plain) (by decide +kernel), fun _ _ _ _ _ => rfl, fun A outer s H E f c' hr => (pe_make T.mk_Leaps (ok_Leaps_init T tk) (hr.mono (by decide)) rfl T.g_Leaps (bi_Leaps_init T) .nil (passes_call (takes_of rfl rfl rfl rfl) fun _ _ _ _ h => h) (pa_cons (pe_lstN (T := TT K) (pa_cons (pe_tupN (T := TT K) (pa_cons pe_int (pa_cons pe_bl pa_nil))) pa_nil)) pa_nil))⟩, ?_⟩
  intro E lp v1 v2 v3 v4 H Q hle gd hE
  obtain ⟨dx9, p9, ts9, l1, l2, l3⟩ := hle
  have hle : LeapsAt (LC K) H lp R400 := ⟨dx9, p9, ts9, l1, l2, l3⟩
  walk_at "s"
  refine ⟨sz, fun t0 H0 ht0 hv0 e0 => ?_⟩
  walk_at "s"
  refine ⟨sz, fun q Hq hq hvq eq => ?_⟩
  walk_at "s"
  have eA : Ext (TT K) No H Hq := (e0.trans eq)
  intro x dx hx hdx hne
  refine ⟨x, dx, q, [(0, true)], Hq, rfl, hx, hdx, hne, rfl, eA.gd gd, ⟨[t0], .inl (SqL.of hvq), ((rsnoc (rnil.ext e0) hv0)).ext eq⟩, by decide, fun rv => absurd (rv.rng (0, true) (by simp)) (by decide), fun _ H2 e2 => hE H2 (eA.trans e2)⟩
theorem lam_2 (T : Tx K mg base) (tk : TOk (TT K)) (A : Around) (outer : List Env) (s : Shared) (H0 : Hp) (E0 : XK) : LamGood P w K mg base (lamOf 2) A outer s H0 E0 := by
  refine ⟨fun E => _, ⟨LamX.lamS_by (sc := defScope s_law_plain) (by decide +kernel), fun _ _ _ _ _ => rfl, fun A outer s H E f c' hr => (pe_make T.mk_Leaps (ok_Leaps_init T tk) (hr.mono (by decide)) rfl T.g_Leaps (bi_Leaps_init T) .nil (passes_call (takes_of rfl rfl rfl rfl) fun _ _ _ _ h => h) (pa_cons (pe_lstN (T := TT K) (pa_cons (pe_tupN (T := TT K) (pa_cons pe_int (pa_cons pe_bl pa_nil))) pa_nil)) pa_nil))⟩, ?_⟩
  intro E lp v1 v2 v3 v4 H Q hle gd hE
  obtain ⟨dx9, p9, ts9, l1, l2, l3⟩ := hle
  have hle : LeapsAt (LC K) H lp R400 := ⟨dx9, p9, ts9, l1, l2, l3⟩
  walk_at "s"
  refine ⟨sz, fun t0 H0 ht0 hv0 e0 => ?_⟩
  walk_at "s"
  refine ⟨sz, fun q Hq hq hvq eq => ?_⟩
  walk_at "s"
  have eA : Ext (TT K) No H Hq := (e0.trans eq)
  intro x dx hx hdx hne
  refine ⟨x, dx, q, [(4001, true)], Hq, rfl, hx, hdx, hne, rfl, eA.gd gd, ⟨[t0], .inl (SqL.of hvq), ((rsnoc (rnil.ext e0) hv0)).ext eq⟩, by decide, fun rv => absurd (rv.rng (4001, true) (by simp)) (by decide), fun _ H2 e2 => hE H2 (eA.trans e2)⟩
theorem lam_3 (T : Tx K mg base) (tk : TOk (TT K)) (A : Around) (outer : List Env) (s : Shared) (H0 : Hp) (E0 : XK) : LamGood P w K mg base (lamOf 3) A outer s H0 E0 := by
  refine ⟨fun E => _, ⟨LamX.lamS_by (sc := defScope s_law_plain) (by decide +kernel), fun _ _ _ _ _ => rfl, fun A outer s H E f c' hr => (pe_make T.mk_Leaps (ok_Leaps_init T tk) (hr.mono (by decide)) rfl T.g_Leaps (bi_Leaps_init T) .nil (passes_call (takes_of rfl rfl rfl rfl) fun _ _ _ _ h => h) (pa_cons (pe_lstN (T := TT K) (pa_cons (pe_tupN (T := TT K) (pa_cons pe_int (pa_cons pe_bl pa_nil))) (pa_cons (pe_tupN (T := TT K) (pa_cons pe_int (pa_cons pe_bl pa_nil))) pa_nil))) pa_nil))⟩, ?_⟩
  intro E lp v1 v2 v3 v4 H Q hle gd hE
  obtain ⟨dx9, p9, ts9, l1, l2, l3⟩ := hle
  have hle : LeapsAt (LC K) H lp R400 := ⟨dx9, p9, ts9, l1, l2, l3⟩
  walk_at "s"
  refine ⟨sz, fun t0 H0 ht0 hv0 e0 => ?_⟩
  walk_at "s"
  refine ⟨sz, fun t1 H1 ht1 hv1 e1 => ?_⟩
  walk_at "s"
  refine ⟨sz, fun q Hq hq hvq eq => ?_⟩
  walk_at "s"
  have eA : Ext (TT K) No H Hq := ((e0.trans e1).trans eq)
  intro x dx hx hdx hne
  refine ⟨x, dx, q, [(4, true), (4, true)], Hq, rfl, hx, hdx, hne, rfl, eA.gd gd, ⟨[t0, t1], .inl (SqL.of hvq), ((rsnoc ((rsnoc (rnil.ext e0) hv0).ext e1) hv1)).ext eq⟩, by decide, fun rv => absurd (rv.asc 0 (4, true) (4, true) rfl rfl) (by decide), fun _ H2 e2 => hE H2 (eA.trans e2)⟩
end K01

set_option Elab.async false
set_option linter.all false
set_option maxRecDepth 100000
set_option maxHeartbeats 2000000
namespace K01
open PySem PySem.Spec PyProof.Rows L2 MB
local macro_rules | `(tactic| walk_at "s") => `(tactic| repeat (first | refine ⟨_, rfl, ?_⟩ | refine ⟨_, _, rfl, rfl, ?_⟩ | refine ⟨_, _, rfl, ?_⟩ | refine ⟨rfl, ?_⟩))
variable {P : Program} {w : World} {K : PySem.W.Frag} {mg : Str → Option Value} {base : Heap}
theorem lam_5 (T : Tx K mg base) (tk : TOk (TT K)) (A : Around) (outer : List Env) (s : Shared) (H0 : Hp) (E0 : XK) : LamGood P w K mg base (lamOf 5) A outer s H0 E0 := by
  refine ⟨fun E => _, ⟨LamX.lamS_by (sc := defScope s_law_plain) (by decide +kernel), fun _ _ _ _ _ => rfl, fun A outer s H E f c' hr => (pe_meth (pv 0) T.c_Leaps T.m_Leaps_is_long (ok_Leaps_is_long T) (hr.mono (by decide)) (bi_Leaps_is_long T) .nil (passes_call (takes_of rfl rfl rfl rfl) fun _ _ _ _ h => h) (pa_cons (pe_un un_neg pe_int) pa_nil))⟩, ?_⟩
  intro E lp v1 v2 v3 v4 H Q hle gd hE
  obtain ⟨dx9, p9, ts9, l1, l2, l3⟩ := hle
  have hle : LeapsAt (LC K) H lp R400 := ⟨dx9, p9, ts9, l1, l2, l3⟩
  walk_at "s"
  refine ⟨_, _, _, rfl, l1, rfl, ?_⟩
  walk_at "s"
  exact ⟨lp, R400, -1, rfl, hle, ok400, fun z => absurd z (by decide), fun _ => hE _ .refl⟩
theorem lam_6 (T : Tx K mg base) (tk : TOk (TT K)) (A : Around) (outer : List Env) (s : Shared) (H0 : Hp) (E0 : XK) : LamGood P w K mg base (lamOf 6) A outer s H0 E0 := by
  refine ⟨fun E => _, ⟨LamX.lamS_by (sc := defScope s_law_plain) (by decide +kernel), fun _ _ _ _ _ => rfl, fun A outer s H E f c' hr => (pe_meth (pv 0) T.c_Leaps T.m_Leaps_is_long (ok_Leaps_is_long T) (hr.mono (by decide)) (bi_Leaps_is_long T) .nil (passes_call (takes_of rfl rfl rfl rfl) fun _ _ _ _ h => h) (pa_cons pe_int pa_nil))⟩, ?_⟩
  intro E lp v1 v2 v3 v4 H Q hle gd hE
  obtain ⟨dx9, p9, ts9, l1, l2, l3⟩ := hle
  have hle : LeapsAt (LC K) H lp R400 := ⟨dx9, p9, ts9, l1, l2, l3⟩
  walk_at "s"
  refine ⟨_, _, _, rfl, l1, rfl, ?_⟩
  walk_at "s"
  exact ⟨lp, R400, 100000, rfl, hle, ok400, fun _ z => absurd z (by decide), fun _ => hE _ .refl⟩
theorem lam_7 (T : Tx K mg base) (tk : TOk (TT K)) (A : Around) (outer : List Env) (s : Shared) (H0 : Hp) (E0 : XK) : LamGood P w K mg base (lamOf 7) A outer s H0 E0 := by
  refine ⟨fun E => _, ⟨LamX.lamS_by (sc := defScope s_law_plain) (by decide +kernel), fun _ _ _ _ _ => rfl, fun A outer s H E f c' hr => (pe_meth (pv 0) T.c_Leaps T.m_Leaps_long_before (ok_Leaps_long_before T) (hr.mono (by decide)) (bi_Leaps_long_before T) .nil (passes_call (takes_of rfl rfl rfl rfl) fun _ _ _ _ h => h) (pa_cons pe_int pa_nil))⟩, ?_⟩
  intro E lp v1 v2 v3 v4 H Q hle gd hE
  obtain ⟨dx9, p9, ts9, l1, l2, l3⟩ := hle
  have hle : LeapsAt (LC K) H lp R400 := ⟨dx9, p9, ts9, l1, l2, l3⟩
  walk_at "s"
  refine ⟨_, _, _, rfl, l1, rfl, ?_⟩
  walk_at "s"
  exact ⟨lp, R400, 100001, rfl, hle, ok400, fun _ z => absurd z (by decide), fun _ => hE _ .refl⟩
theorem lam_9 (T : Tx K mg base) (tk : TOk (TT K)) (A : Around) (outer : List Env) (s : Shared) (H0 : Hp) (E0 : XK) : LamGood P w K mg base (lamOf 9) A outer s H0 E0 := by
  refine ⟨fun E => _, ⟨LamX.lamS_by (sc := defScope s_law_plain) (by decide +kernel), fun _ _ _ _ _ => rfl, fun A outer s H E f c' hr => (pe_meth (pv 0) T.c_Leaps T.m_Leaps_mean (ok_Leaps_mean T) (hr.mono (by decide)) (bi_Leaps_mean T) .nil (passes_call (takes_of rfl rfl rfl rfl) fun _ _ _ _ h => h) (pa_cons pe_int pa_nil))⟩, ?_⟩
  intro E lp v1 v2 v3 v4 H Q hle gd hE
  obtain ⟨dx9, p9, ts9, l1, l2, l3⟩ := hle
  have hle : LeapsAt (LC K) H lp R400 := ⟨dx9, p9, ts9, l1, l2, l3⟩
  walk_at "s"
  refine ⟨_, _, _, rfl, l1, rfl, ?_⟩
  walk_at "s"
  exact ⟨lp, R400, 0, rfl, hle, ok400, by decide, by decide, fun z => absurd z (by decide), fun _ => hE _ .refl⟩
theorem lam_10 (T : Tx K mg base) (tk : TOk (TT K)) (A : Around) (outer : List Env) (s : Shared) (H0 : Hp) (E0 : XK) : LamGood P w K mg base (lamOf 10) A outer s H0 E0 := by
  refine ⟨fun E => _, ⟨LamX.lamS_by (sc := defScope s_law_plain) (by decide +kernel), fun _ _ _ _ _ => rfl, fun A outer s H E f c' hr => (pe_meth (pv 0) T.c_Leaps T.m_Leaps_days_before (ok_Leaps_days_before T) (hr.mono (by decide)) (bi_Leaps_days_before T) .nil (passes_call (takes_of rfl rfl rfl rfl) fun _ _ _ _ h => h) (pa_cons pe_int (pa_cons pe_int pa_nil)))⟩, ?_⟩
  intro E lp v1 v2 v3 v4 H Q hle gd hE
  obtain ⟨dx9, p9, ts9, l1, l2, l3⟩ := hle
  have hle : LeapsAt (LC K) H lp R400 := ⟨dx9, p9, ts9, l1, l2, l3⟩
  walk_at "s"
  refine ⟨_, _, _, rfl, l1, rfl, ?_⟩
  walk_at "s"
  exact ⟨lp, R400, 1, 0, rfl, hle, ok400, by decide, fun z => absurd z (by decide), fun _ => hE _ .refl⟩
theorem lam_11 (T : Tx K mg base) (tk : TOk (TT K)) (A : Around) (outer : List Env) (s : Shared) (H0 : Hp) (E0 : XK) : LamGood P w K mg base (lamOf 11) A outer s H0 E0 := by
  refine ⟨fun E => _, ⟨LamX.lamS_by (sc := defScope s_law_plain) (by decide +kernel), fun _ _ _ _ _ => rfl, fun A outer s H E f c' hr => (pe_meth (pv 0) T.c_Leaps T.m_Leaps_days_before (ok_Leaps_days_before T) (hr.mono (by decide)) (bi_Leaps_days_before T) .nil (passes_call (takes_of rfl rfl rfl rfl) fun _ _ _ _ h => h) (pa_cons (pe_un un_neg pe_int) (pa_cons pe_int pa_nil)))⟩, ?_⟩
  intro E lp v1 v2 v3 v4 H Q hle gd hE
  obtain ⟨dx9, p9, ts9, l1, l2, l3⟩ := hle
  have hle : LeapsAt (LC K) H lp R400 := ⟨dx9, p9, ts9, l1, l2, l3⟩
  walk_at "s"
  refine ⟨_, _, _, rfl, l1, rfl, ?_⟩
  walk_at "s"
  exact ⟨lp, R400, -1, 1, rfl, hle, ok400, by decide, fun _ z => absurd z (by decide), fun _ => hE _ .refl⟩
theorem lam_12 (T : Tx K mg base) (tk : TOk (TT K)) (A : Around) (outer : List Env) (s : Shared) (H0 : Hp) (E0 : XK) : LamGood P w K mg base (lamOf 12) A outer s H0 E0 := by
  refine ⟨fun E => _, ⟨LamX.lamS_by (sc := defScope s_law_plain) (by decide +kernel), fun _ _ _ _ _ => rfl, fun A outer s H E f c' hr => (pe_meth (pv 0) T.c_Leaps T.m_Leaps_year_of (ok_Leaps_year_of T) (hr.mono (by decide)) (bi_Leaps_year_of T) .nil (passes_call (takes_of rfl rfl rfl rfl) fun _ _ _ _ h => h) (pa_cons (pe_un un_neg pe_int) (pa_cons pe_int pa_nil)))⟩, ?_⟩
  intro E lp v1 v2 v3 v4 H Q hle gd hE
  obtain ⟨dx9, p9, ts9, l1, l2, l3⟩ := hle
  have hle : LeapsAt (LC K) H lp R400 := ⟨dx9, p9, ts9, l1, l2, l3⟩
  walk_at "s"
  refine ⟨_, _, _, rfl, l1, rfl, ?_⟩
  walk_at "s"
  exact ⟨lp, R400, -1, 365, rfl, hle, ok400, by decide, fun z => absurd z (by decide), fun _ H2 e2 => hE _ e2⟩
theorem lam_13 (T : Tx K mg base) (tk : TOk (TT K)) (A : Around) (outer : List Env) (s : Shared) (H0 : Hp) (E0 : XK) : LamGood P w K mg base (lamOf 13) A outer s H0 E0 := by
  refine ⟨fun E => _, ⟨LamX.lamS_by (sc := defScope s_law_plain) (by decide +kernel), fun _ _ _ _ _ => rfl, fun A outer s H E f c' hr => (pe_meth (pv 0) T.c_Leaps T.m_Leaps_year_of (ok_Leaps_year_of T) (hr.mono (by decide)) (bi_Leaps_year_of T) .nil (passes_call (takes_of rfl rfl rfl rfl) fun _ _ _ _ h => h) (pa_cons pe_int (pa_cons pe_int pa_nil)))⟩, ?_⟩
  intro E lp v1 v2 v3 v4 H Q hle gd hE
  obtain ⟨dx9, p9, ts9, l1, l2, l3⟩ := hle
  have hle : LeapsAt (LC K) H lp R400 := ⟨dx9, p9, ts9, l1, l2, l3⟩
  walk_at "s"
  refine ⟨_, _, _, rfl, l1, rfl, ?_⟩
  walk_at "s"
  have h100 := cn400 100000
  have hdb : MM.db R400 365 100000 = 36524250 := by
    unfold MM.db
    omega
  refine ⟨lp, R400, 36524250, 365, rfl, hle, ok400, by decide, fun _ _ z => ?_, fun _ H2 e2 => hE _ e2⟩
  have z : (36524250 : Int) < ((MM.db R400 365 100000 : Nat) : Int) := z
  omega
theorem lam_14 (T : Tx K mg base) (tk : TOk (TT K)) (A : Around) (outer : List Env) (s : Shared) (H0 : Hp) (E0 : XK) : LamGood P w K mg base (lamOf 14) A outer s H0 E0 := by
  refine ⟨fun E => _, ⟨LamX.lamS_by (sc := defScope s_law_plain) (by decide +kernel), fun _ _ _ _ _ => rfl, fun A outer s H E f c' hr => (pe_meth (pv 0) T.c_Leaps T.m_Leaps_year_of (ok_Leaps_year_of T) (hr.mono (by decide)) (bi_Leaps_year_of T) .nil (passes_call (takes_of rfl rfl rfl rfl) fun _ _ _ _ h => h) (pa_cons pe_int (pa_cons pe_int pa_nil)))⟩, ?_⟩
  intro E lp v1 v2 v3 v4 H Q hle gd hE
  obtain ⟨dx9, p9, ts9, l1, l2, l3⟩ := hle
  have hle : LeapsAt (LC K) H lp R400 := ⟨dx9, p9, ts9, l1, l2, l3⟩
  walk_at "s"
  refine ⟨_, _, _, rfl, l1, rfl, ?_⟩
  walk_at "s"
  exact ⟨lp, R400, 0, 0, rfl, hle, ok400, by decide, fun _ z => absurd z (by decide), fun _ H2 e2 => hE _ e2⟩
theorem lam_15 (T : Tx K mg base) (tk : TOk (TT K)) (A : Around) (outer : List Env) (s : Shared) (H0 : Hp) (E0 : XK) : LamGood P w K mg base (lamOf 15) A outer s H0 E0 := by
  refine ⟨fun E => _, ⟨LamX.lamS_by (sc := defScope s_law_plain) (by decide +kernel), fun _ _ _ _ _ => rfl, fun A outer s H E f c' hr => (pe_call (ok_best_rules T) (hr.mono (by decide)) rfl T.g_best_rules T.F_best_rules.kp (bi_best_rules T) .nil (passes_call (takes_of rfl rfl rfl rfl) fun _ _ _ _ h => h) (pa_cons pe_int (pa_cons pe_int (pa_cons pe_int pa_nil))))⟩, ?_⟩
  intro E lp v1 v2 v3 v4 H Q hle gd hE
  obtain ⟨dx9, p9, ts9, l1, l2, l3⟩ := hle
  have hle : LeapsAt (LC K) H lp R400 := ⟨dx9, p9, ts9, l1, l2, l3⟩
  walk_at "s"
  exact ⟨1, 0, 5, rfl, by decide, fun a1 a2 a3 a4 a5 => absurd (⟨a1, a2, a3, a4, a5⟩ : (1 : Int) ≤ 0 ∧ (0 : Int) ≤ 1 ∧ (1 : Int) ≤ 0 ∧ (1 : Int) ≤ 5 ∧ (5 : Int) ≤ 500) (by decide), fun _ => hE _ .refl⟩
theorem lam_16 (T : Tx K mg base) (tk : TOk (TT K)) (A : Around) (outer : List Env) (s : Shared) (H0 : Hp) (E0 : XK) : LamGood P w K mg base (lamOf 16) A outer s H0 E0 := by
  refine ⟨fun E => _, ⟨LamX.lamS_by (sc := defScope s_law_plain) (by decide +kernel), fun _ _ _ _ _ => rfl, fun A outer s H E f c' hr => (pe_call (ok_best_rules T) (hr.mono (by decide)) rfl T.g_best_rules T.F_best_rules.kp (bi_best_rules T) .nil (passes_call (takes_of rfl rfl rfl rfl) fun _ _ _ _ h => h) (pa_cons pe_int (pa_cons pe_int (pa_cons pe_int pa_nil))))⟩, ?_⟩
  intro E lp v1 v2 v3 v4 H Q hle gd hE
  obtain ⟨dx9, p9, ts9, l1, l2, l3⟩ := hle
  have hle : LeapsAt (LC K) H lp R400 := ⟨dx9, p9, ts9, l1, l2, l3⟩
  walk_at "s"
  exact ⟨2, 1, 5, rfl, by decide, fun a1 a2 a3 a4 a5 => absurd (⟨a1, a2, a3, a4, a5⟩ : (1 : Int) ≤ 1 ∧ (0 : Int) ≤ 2 ∧ (2 : Int) ≤ 1 ∧ (1 : Int) ≤ 5 ∧ (5 : Int) ≤ 500) (by decide), fun _ => hE _ .refl⟩
theorem lam_17 (T : Tx K mg base) (tk : TOk (TT K)) (A : Around) (outer : List Env) (s : Shared) (H0 : Hp) (E0 : XK) : LamGood P w K mg base (lamOf 17) A outer s H0 E0 := by
  refine ⟨fun E => _, ⟨LamX.lamS_by (sc := defScope s_law_plain) (by decide +kernel), fun _ _ _ _ _ => rfl, fun A outer s H E f c' hr => (pe_call (ok_best_rules T) (hr.mono (by decide)) rfl T.g_best_rules T.F_best_rules.kp (bi_best_rules T) .nil (passes_call (takes_of rfl rfl rfl rfl) fun _ _ _ _ h => h) (pa_cons (pe_un un_neg pe_int) (pa_cons pe_int (pa_cons pe_int pa_nil))))⟩, ?_⟩
  intro E lp v1 v2 v3 v4 H Q hle gd hE
  obtain ⟨dx9, p9, ts9, l1, l2, l3⟩ := hle
  have hle : LeapsAt (LC K) H lp R400 := ⟨dx9, p9, ts9, l1, l2, l3⟩
  walk_at "s"
  exact ⟨-1, 1, 5, rfl, by decide, fun a1 a2 a3 a4 a5 => absurd (⟨a1, a2, a3, a4, a5⟩ : (1 : Int) ≤ 1 ∧ (0 : Int) ≤ -1 ∧ (-1 : Int) ≤ 1 ∧ (1 : Int) ≤ 5 ∧ (5 : Int) ≤ 500) (by decide), fun _ => hE _ .refl⟩
theorem lam_18 (T : Tx K mg base) (tk : TOk (TT K)) (A : Around) (outer : List Env) (s : Shared) (H0 : Hp) (E0 : XK) : LamGood P w K mg base (lamOf 18) A outer s H0 E0 := by
  refine ⟨fun E => _, ⟨LamX.lamS_by (sc := defScope s_law_plain) (by decide +kernel), fun _ _ _ _ _ => rfl, fun A outer s H E f c' hr => (pe_call (ok_best_rules T) (hr.mono (by decide)) rfl T.g_best_rules T.F_best_rules.kp (bi_best_rules T) .nil (passes_call (takes_of rfl rfl rfl rfl) fun _ _ _ _ h => h) (pa_cons pe_int (pa_cons pe_int (pa_cons pe_int pa_nil))))⟩, ?_⟩
  intro E lp v1 v2 v3 v4 H Q hle gd hE
  obtain ⟨dx9, p9, ts9, l1, l2, l3⟩ := hle
  have hle : LeapsAt (LC K) H lp R400 := ⟨dx9, p9, ts9, l1, l2, l3⟩
  walk_at "s"
  exact ⟨0, 1, 0, rfl, by decide, fun a1 a2 a3 a4 a5 => absurd (⟨a1, a2, a3, a4, a5⟩ : (1 : Int) ≤ 1 ∧ (0 : Int) ≤ 0 ∧ (0 : Int) ≤ 1 ∧ (1 : Int) ≤ 0 ∧ (0 : Int) ≤ 500) (by decide), fun _ => hE _ .refl⟩
theorem lam_19 (T : Tx K mg base) (tk : TOk (TT K)) (A : Around) (outer : List Env) (s : Shared) (H0 : Hp) (E0 : XK) : LamGood P w K mg base (lamOf 19) A outer s H0 E0 := by
  refine ⟨fun E => _, ⟨LamX.lamS_by (sc := defScope s_law_plain) (by decide +kernel), fun _ _ _ _ _ => rfl, fun A outer s H E f c' hr => (pe_call (ok_best_rules T) (hr.mono (by decide)) rfl T.g_best_rules T.F_best_rules.kp (bi_best_rules T) .nil (passes_call (takes_of rfl rfl rfl rfl) fun _ _ _ _ h => h) (pa_cons pe_int (pa_cons pe_int (pa_cons pe_int pa_nil))))⟩, ?_⟩
  intro E lp v1 v2 v3 v4 H Q hle gd hE
  obtain ⟨dx9, p9, ts9, l1, l2, l3⟩ := hle
  have hle : LeapsAt (LC K) H lp R400 := ⟨dx9, p9, ts9, l1, l2, l3⟩
  walk_at "s"
  exact ⟨0, 1, 501, rfl, by decide, fun a1 a2 a3 a4 a5 => absurd (⟨a1, a2, a3, a4, a5⟩ : (1 : Int) ≤ 1 ∧ (0 : Int) ≤ 0 ∧ (0 : Int) ≤ 1 ∧ (1 : Int) ≤ 501 ∧ (501 : Int) ≤ 500) (by decide), fun _ => hE _ .refl⟩
end K01

set_option Elab.async false
set_option linter.all false
set_option maxRecDepth 100000
set_option maxHeartbeats 2000000
namespace K01
open PySem PySem.Spec PyProof.Rows L2 MB
local macro_rules | `(tactic| walk_at "s") => `(tactic| repeat (first | refine ⟨_, rfl, ?_⟩ | refine ⟨_, _, rfl, rfl, ?_⟩ | refine ⟨_, _, rfl, ?_⟩ | refine ⟨rfl, ?_⟩))
variable {P : Program} {w : World} {K : PySem.W.Frag} {mg : Str → Option Value} {base : Heap}
theorem lam_4 (T : Tx K mg base) (tk : TOk (TT K)) (A : Around) (outer : List Env) (s : Shared) (H0 : Hp) (E0 : XK) : LamGood P w K mg base (lamOf 4) A outer s H0 E0 := by
  refine ⟨fun E => _, ⟨LamX.lamS_by (sc := defScope s_law_plain) (by decide +kernel), fun _ _ _ _ _ => rfl, fun A outer s H E f c' hr => (pe_make T.mk_Leaps (ok_Leaps_init T tk) (hr.mono (by decide)) rfl T.g_Leaps (bi_Leaps_init T) .nil (passes_call (takes_of rfl rfl rfl rfl) fun _ _ _ _ h => h) (pa_cons (pe_lc rfl sc_law_plain.nd (pi_range2 rfl T.b_range (pa_cons pe_int (pa_cons pe_int pa_nil))) (blkOk_by (own := [("k", 2)]) (by rfl)) (fun _ _ _ _ _ => (pg_name (i := 2) sc_law_plain.nd rfl (by first | exact Or.inl rfl | exact Or.inr rfl))) (fun _ _ _ _ _ => pts_nil) (fun _ _ _ _ _ => (pe_tupN (T := TT K) (pa_cons (pv 2) (pa_cons pe_bl pa_nil))))) pa_nil))⟩, ?_⟩
  intro E lp v1 v2 v3 v4 H Q hle gd hE
  obtain ⟨dx9, p9, ts9, l1, l2, l3⟩ := hle
  have hle : LeapsAt (LC K) H lp R400 := ⟨dx9, p9, ts9, l1, l2, l3⟩
  walk_at "s"
  refine ⟨⟨by decide, by decide, by decide, by decide⟩, fun D hD => ?_⟩
  have h7 : ((8 : Int) - 1).toNat = 7 := rfl
  rw [h7]
  refine lc_range (fun i H1 => ∃ as : List Addr, H1 D = some (.lst (as.map V.ref)) ∧ RulesT H1 as ((List.range i).map fun j => (1 + j, true)) ∧ Ext (TT K) (· = D) H H1) ⟨[], upd_same, rnil, (Ext.new hD).no⟩ ?_ ?_
  · rintro i H1 hi ⟨as, h1, h2, e1⟩
    walk_at "s"
    refine ⟨sz, fun t H2 ht hv e2 => ?_⟩
    have h12 := e2.lst _ _ h1 id
    have e3 : Ext (TT K) (· = D) H2 (upd H2 D (.lst (as.map V.ref ++ [.ref t]))) := Ext.set h12 rfl
    have hl := h2.1
    rw [List.length_map, List.length_range] at hl
    refine ⟨_, h12, by rw [List.length_map, hl]; exact szl (by omega), as ++ [t], by rw [List.map_append]; exact upd_same, ?_, (e1.trans e2.no).trans e3⟩
    rw [List.range_succ, List.map_append]
    refine rsnoc ((h2.ext e2).ext e3) ?_
    have := e3.fix _ _ hv rfl
    rw [this, Int.natCast_add]
    rfl
  rintro H1 ⟨as, h1, h2, e1⟩
  have eA := e1.mono1 (NoM.of hD)
  walk_at "s"
  intro x dx hx hdx hne
  refine ⟨x, dx, D, _, H1, rfl, hx, hdx, hne, rfl, eA.gd gd, ⟨as, .inl (SqL.of h1), h2⟩, by decide, fun rv => absurd rv.six (by decide), fun _ H2 e2 => hE H2 (eA.trans e2)⟩
theorem lam_8 (T : Tx K mg base) (tk : TOk (TT K)) (A : Around) (outer : List Env) (s : Shared) (H0 : Hp) (E0 : XK) : LamGood P w K mg base (lamOf 8) A outer s H0 E0 := by
  refine ⟨fun E => _, ⟨LamX.lamS_by (sc := defScope s_law_plain) (by decide +kernel), fun _ _ _ _ _ => rfl, fun A outer s H E f c' hr => (pe_meth0 (pe_make T.mk_Leaps (ok_Leaps_init T tk) (hr.mono (by decide)) rfl T.g_Leaps (bi_Leaps_init T) .nil (passes_call (takes_of rfl rfl rfl rfl) fun _ _ _ _ h => h) (pa_cons (pe_lstN (T := TT K) (pa_cons (pe_tupN (T := TT K) (pa_cons pe_int (pa_cons pe_bl pa_nil))) (pa_cons (pe_tupN (T := TT K) (pa_cons pe_int (pa_cons pe_bl pa_nil))) pa_nil))) pa_nil)) T.c_Leaps T.m_Leaps_cycle (ok_Leaps_cycle T) (hr.mono (by decide)) (bi_Leaps_cycle T) .nil (passes_call (takes_of rfl rfl rfl rfl) fun _ _ _ _ h => h))⟩, ?_⟩
  intro E lp v1 v2 v3 v4 H Q hle gd hE
  obtain ⟨dx9, p9, ts9, l1, l2, l3⟩ := hle
  have hle : LeapsAt (LC K) H lp R400 := ⟨dx9, p9, ts9, l1, l2, l3⟩
  walk_at "s"
  refine ⟨sz, fun t0 H0 ht0 hv0 e0 => ?_⟩
  walk_at "s"
  refine ⟨sz, fun t1 H1 ht1 hv1 e1 => ?_⟩
  walk_at "s"
  refine ⟨sz, fun q Hq hq hvq eq => ?_⟩
  walk_at "s"
  have eA : Ext (TT K) No H Hq := ((e0.trans e1).trans eq)
  intro x dx hx hdx hne
  refine ⟨x, dx, q, [(3989, true), (4000, true)], Hq, rfl, hx, hdx, hne, rfl, eA.gd gd, ⟨[t0, t1], .inl (SqL.of hvq), ((rsnoc ((rsnoc (rnil.ext e0) hv0).ext e1) hv1)).ext eq⟩, by decide, fun rv H2 le2 e2 => ⟨rfl, ?_⟩, fun z => absurd (⟨by decide, by decide, by decide, fun i a b h1 h2 => (by
    match i with
    | 0 => cases h1; cases h2; decide
    | 1 => simp at h2
    | i + 2 => simp at h1)⟩ : RV [(3989, true), (4000, true)]) z⟩
  have ok2 : ROk [(3989, true), (4000, true)] := ⟨rv.pos, rv.six, rv.rng, rv.asc, by decide⟩
  obtain ⟨dx2, p2, ts2, m1, m2, m3⟩ := le2
  refine ⟨_, _, _, rfl, m1, rfl, ?_⟩
  refine ⟨x, _, rfl, ⟨dx2, p2, ts2, m1, m2, m3⟩, ok2, fun z => absurd z (by decide), fun _ => hE H2 (eA.trans e2)⟩
theorem lamAll (T : Tx K mg base) (tk : TOk (TT K)) (A : Around) (outer : List Env) (s : Shared) (H0 : Hp) (E0 : XK) : ∀ i, i < 20 → LamGood P w K mg base (lamOf i) A outer s H0 E0
  | 0, _ => lam_0 T tk A outer s H0 E0
  | 1, _ => lam_1 T tk A outer s H0 E0
  | 2, _ => lam_2 T tk A outer s H0 E0
  | 3, _ => lam_3 T tk A outer s H0 E0
  | 4, _ => lam_4 T tk A outer s H0 E0
  | 5, _ => lam_5 T tk A outer s H0 E0
  | 6, _ => lam_6 T tk A outer s H0 E0
  | 7, _ => lam_7 T tk A outer s H0 E0
  | 8, _ => lam_8 T tk A outer s H0 E0
  | 9, _ => lam_9 T tk A outer s H0 E0
  | 10, _ => lam_10 T tk A outer s H0 E0
  | 11, _ => lam_11 T tk A outer s H0 E0
  | 12, _ => lam_12 T tk A outer s H0 E0
  | 13, _ => lam_13 T tk A outer s H0 E0
  | 14, _ => lam_14 T tk A outer s H0 E0
  | 15, _ => lam_15 T tk A outer s H0 E0
  | 16, _ => lam_16 T tk A outer s H0 E0
  | 17, _ => lam_17 T tk A outer s H0 E0
  | 18, _ => lam_18 T tk A outer s H0 E0
  | 19, _ => lam_19 T tk A outer s H0 E0
  | n + 20, h => by omega
def tOf (T : Tx K mg base) (tk : TOk (TT K)) (A : Around) (outer : List Env) (s : Shared) (H0 : Hp) (E0 : XK) (P : Program) (w : World) (i : Nat) : XK → TE :=
  if h : i < 20 then (lamAll (P := P) (w := w) T tk A outer s H0 E0 i h).choose else fun _ => tC .non
def KLs (T : Tx K mg base) (tk : TOk (TT K)) (A : Around) (outer : List Env) (s : Shared) (H0 : Hp) (E0 : XK) (P : Program) (w : World) : List (ML.LamD × (XK → TE)) :=
  (List.range 20).map fun i => (lamOf i, tOf T tk A outer s H0 E0 P w i)
theorem kl_ok (T : Tx K mg base) (tk : TOk (TT K)) (A : Around) (outer : List Env) (s : Shared) (H0 : Hp) (E0 : XK) : ∀ L t, (L, t) ∈ KLs T tk A outer s H0 E0 P w → ML.LamT (plainX P w K mg base A outer s H0 E0) 20 L t := by
  intro L t h
  obtain ⟨i, hi, e⟩ := List.mem_map.mp h
  have hi : i < 20 := by simpa using hi
  unfold tOf at e
  rw [dif_pos hi] at e
  cases e
  exact (lamAll (P := P) (w := w) T tk A outer s H0 E0 i hi).choose_spec.1
def lamsTA (Pt : Addr) (Tl : List (Addr × Str)) (cells : List (Str × Addr)) (q : Str) : List ML.LamD → TA
  | [] => tNil
  | L :: r => tCons (ML.tLamV Pt Tl cells q L) (lamsTA Pt Tl cells q r)
def LamsAt (cells : List (Str × Addr)) (q : Str) (H : Hp) (fs : List Addr) (Ls : List ML.LamD) : Prop :=
  fs.length = Ls.length ∧ ∀ (i : Nat) (f : Addr) (L : ML.LamD), fs[i]? = some f → Ls[i]? = some L → ∃ c', H f = some (ML.LamO cells q L c' f) ∧ H c' = some (LamX.CodeO c' q)
theorem lamO_fix {cells : List (Str × Addr)} {q : Str} {L : ML.LamD} {c' f : Addr} : fixB (ML.LamO cells q L c' f) = true := by unfold ML.LamO; rfl
theorem codeO_fix {c' : Addr} {q : Str} : fixB (LamX.CodeO c' q) = true := by unfold LamX.CodeO; rfl
theorem LamsAt.ext {cells : List (Str × Addr)} {q : Str} {T : Tb} {M : Addr → Prop} {H H' : Hp} {fs : List Addr} {Ls : List ML.LamD} (h : LamsAt cells q H fs Ls) (e : Ext T M H H') : LamsAt cells q H' fs Ls :=
  ⟨h.1, fun i f L h1 h2 => let ⟨c', a, b⟩ := h.2 i f L h1 h2; ⟨c', e.fix _ _ a lamO_fix, e.fix _ _ b codeO_fix⟩⟩
theorem lamsTA_ok {Pt : Addr} {cells : List (Str × Addr)} {q : Str} (hP : ∀ p ∈ (TT K).gen, p ≠ Pt) (σ : L2.St) : ∀ (Ls : List ML.LamD) (H : Hp) (R : List V → Hp → Prop), Gd (TT K) H →
    (∀ fs H', Ext (TT K) No H H' → LamsAt cells q H' fs Ls → R (fs.map V.ref) H') → lamsTA Pt (TT K).lam cells q Ls σ H R
  | [], H, R, _, h => h [] H .refl ⟨rfl, fun _ _ _ z => by simp at z⟩
  | L :: Ls, H, R, gd, h => by
    refine ⟨gd.2, fun f c' H1 hE hPp hL hf hf1 hc1 => ?_⟩
    have e1 : Ext (TT K) No H H1 := Ext.lamM hP hE hPp hL
    refine lamsTA_ok hP σ Ls H1 _ (e1.gd gd) fun fs H2 e2 hfs => ?_
    refine h (f :: fs) H2 (e1.trans e2) ⟨by simp [hfs.1], fun i g L' h1 h2 => ?_⟩
    cases i with
    | zero =>
      cases h1
      cases h2
      exact ⟨c', e2.fix _ _ hf1 lamO_fix, e2.fix _ _ hc1 codeO_fix⟩
    | succ i => exact hfs.2 i g L' (by simpa using h1) (by simpa using h2)
end K01

set_option Elab.async false
set_option linter.all false
set_option maxRecDepth 100000
set_option maxHeartbeats 2000000
namespace K01
open PySem PySem.Spec PyProof.Rows L2 MB
local macro_rules | `(tactic| walk_at "s") => `(tactic| repeat (first | refine ⟨_, rfl, ?_⟩ | refine ⟨_, _, rfl, rfl, ?_⟩ | refine ⟨_, _, rfl, ?_⟩ | refine ⟨rfl, ?_⟩))
variable {P : Program} {w : World} {K : PySem.W.Frag} {mg : Str → Option Value} {base : Heap}
theorem plain_S1 (T : Tx K mg base) (A : Around) (outer : List Env) (s : Shared) (H0 : Hp) (E0 : XK) :
    PS (plainX P w K mg base A outer s H0 E0) (plainBody.getD 1 (.Pass ⟨0, 0, 0, 0⟩)) (tAsg (tLstN (TT K) (lamsTA (He.cT K ("_law_plain", none)).2 (TT K).lam (plainX P w K mg base A outer s H0 E0).env.cells ((plainX P w K mg base A outer s H0 E0).env.qual ++ "<lambda>") ((List.range 20).map lamOf))) (gName 1)) := (ps_set (i := 1) sc_law_plain.nd rfl (Or.inl rfl) (pe_lstN (T := TT K) (pa_cons (ML.pe_lamV (T := (TT K).lam) (c := (He.cT K ("_law_plain", none)).1) (P := (He.cT K ("_law_plain", none)).2) ⟨T.tb_law_plain.code, T.tb_law_plain.bm, T.tb_law_plain.gP⟩ rfl List.mem_cons_self (fun p hp _ => by rw [List.mem_singleton.mp hp]; rfl) rfl (LamX.lamS_by (sc := defScope s_law_plain) (by decide +kernel))) (pa_cons (ML.pe_lamV (T := (TT K).lam) (c := (He.cT K ("_law_plain", none)).1) (P := (He.cT K ("_law_plain", none)).2) ⟨T.tb_law_plain.code, T.tb_law_plain.bm, T.tb_law_plain.gP⟩ rfl List.mem_cons_self (fun p hp _ => by rw [List.mem_singleton.mp hp]; rfl) rfl (LamX.lamS_by (sc := defScope s_law_plain) (by decide +kernel))) (pa_cons (ML.pe_lamV (T := (TT K).lam) (c := (He.cT K ("_law_plain", none)).1) (P := (He.cT K ("_law_plain", none)).2) ⟨T.tb_law_plain.code, T.tb_law_plain.bm, T.tb_law_plain.gP⟩ rfl List.mem_cons_self (fun p hp _ => by rw [List.mem_singleton.mp hp]; rfl) rfl (LamX.lamS_by (sc := defScope s_law_plain) (by decide +kernel))) (pa_cons (ML.pe_lamV (T := (TT K).lam) (c := (He.cT K ("_law_plain", none)).1) (P := (He.cT K ("_law_plain", none)).2) ⟨T.tb_law_plain.code, T.tb_law_plain.bm, T.tb_law_plain.gP⟩ rfl List.mem_cons_self (fun p hp _ => by rw [List.mem_singleton.mp hp]; rfl) rfl (LamX.lamS_by (sc := defScope s_law_plain) (by decide +kernel))) (pa_cons (ML.pe_lamV (T := (TT K).lam) (c := (He.cT K ("_law_plain", none)).1) (P := (He.cT K ("_law_plain", none)).2) ⟨T.tb_law_plain.code, T.tb_law_plain.bm, T.tb_law_plain.gP⟩ rfl List.mem_cons_self (fun p hp _ => by rw [List.mem_singleton.mp hp]; rfl) rfl (LamX.lamS_by (sc := defScope s_law_plain) (by decide +kernel))) (pa_cons (ML.pe_lamV (T := (TT K).lam) (c := (He.cT K ("_law_plain", none)).1) (P := (He.cT K ("_law_plain", none)).2) ⟨T.tb_law_plain.code, T.tb_law_plain.bm, T.tb_law_plain.gP⟩ rfl List.mem_cons_self (fun p hp _ => by rw [List.mem_singleton.mp hp]; rfl) rfl (LamX.lamS_by (sc := defScope s_law_plain) (by decide +kernel))) (pa_cons (ML.pe_lamV (T := (TT K).lam) (c := (He.cT K ("_law_plain", none)).1) (P := (He.cT K ("_law_plain", none)).2) ⟨T.tb_law_plain.code, T.tb_law_plain.bm, T.tb_law_plain.gP⟩ rfl List.mem_cons_self (fun p hp _ => by rw [List.mem_singleton.mp hp]; rfl) rfl (LamX.lamS_by (sc := defScope s_law_plain) (by decide +kernel))) (pa_cons (ML.pe_lamV (T := (TT K).lam) (c := (He.cT K ("_law_plain", none)).1) (P := (He.cT K ("_law_plain", none)).2) ⟨T.tb_law_plain.code, T.tb_law_plain.bm, T.tb_law_plain.gP⟩ rfl List.mem_cons_self (fun p hp _ => by rw [List.mem_singleton.mp hp]; rfl) rfl (LamX.lamS_by (sc := defScope s_law_plain) (by decide +kernel))) (pa_cons (ML.pe_lamV (T := (TT K).lam) (c := (He.cT K ("_law_plain", none)).1) (P := (He.cT K ("_law_plain", none)).2) ⟨T.tb_law_plain.code, T.tb_law_plain.bm, T.tb_law_plain.gP⟩ rfl List.mem_cons_self (fun p hp _ => by rw [List.mem_singleton.mp hp]; rfl) rfl (LamX.lamS_by (sc := defScope s_law_plain) (by decide +kernel))) (pa_cons (ML.pe_lamV (T := (TT K).lam) (c := (He.cT K ("_law_plain", none)).1) (P := (He.cT K ("_law_plain", none)).2) ⟨T.tb_law_plain.code, T.tb_law_plain.bm, T.tb_law_plain.gP⟩ rfl List.mem_cons_self (fun p hp _ => by rw [List.mem_singleton.mp hp]; rfl) rfl (LamX.lamS_by (sc := defScope s_law_plain) (by decide +kernel))) (pa_cons (ML.pe_lamV (T := (TT K).lam) (c := (He.cT K ("_law_plain", none)).1) (P := (He.cT K ("_law_plain", none)).2) ⟨T.tb_law_plain.code, T.tb_law_plain.bm, T.tb_law_plain.gP⟩ rfl List.mem_cons_self (fun p hp _ => by rw [List.mem_singleton.mp hp]; rfl) rfl (LamX.lamS_by (sc := defScope s_law_plain) (by decide +kernel))) (pa_cons (ML.pe_lamV (T := (TT K).lam) (c := (He.cT K ("_law_plain", none)).1) (P := (He.cT K ("_law_plain", none)).2) ⟨T.tb_law_plain.code, T.tb_law_plain.bm, T.tb_law_plain.gP⟩ rfl List.mem_cons_self (fun p hp _ => by rw [List.mem_singleton.mp hp]; rfl) rfl (LamX.lamS_by (sc := defScope s_law_plain) (by decide +kernel))) (pa_cons (ML.pe_lamV (T := (TT K).lam) (c := (He.cT K ("_law_plain", none)).1) (P := (He.cT K ("_law_plain", none)).2) ⟨T.tb_law_plain.code, T.tb_law_plain.bm, T.tb_law_plain.gP⟩ rfl List.mem_cons_self (fun p hp _ => by rw [List.mem_singleton.mp hp]; rfl) rfl (LamX.lamS_by (sc := defScope s_law_plain) (by decide +kernel))) (pa_cons (ML.pe_lamV (T := (TT K).lam) (c := (He.cT K ("_law_plain", none)).1) (P := (He.cT K ("_law_plain", none)).2) ⟨T.tb_law_plain.code, T.tb_law_plain.bm, T.tb_law_plain.gP⟩ rfl List.mem_cons_self (fun p hp _ => by rw [List.mem_singleton.mp hp]; rfl) rfl (LamX.lamS_by (sc := defScope s_law_plain) (by decide +kernel))) (pa_cons (ML.pe_lamV (T := (TT K).lam) (c := (He.cT K ("_law_plain", none)).1) (P := (He.cT K ("_law_plain", none)).2) ⟨T.tb_law_plain.code, T.tb_law_plain.bm, T.tb_law_plain.gP⟩ rfl List.mem_cons_self (fun p hp _ => by rw [List.mem_singleton.mp hp]; rfl) rfl (LamX.lamS_by (sc := defScope s_law_plain) (by decide +kernel))) (pa_cons (ML.pe_lamV (T := (TT K).lam) (c := (He.cT K ("_law_plain", none)).1) (P := (He.cT K ("_law_plain", none)).2) ⟨T.tb_law_plain.code, T.tb_law_plain.bm, T.tb_law_plain.gP⟩ rfl List.mem_cons_self (fun p hp _ => by rw [List.mem_singleton.mp hp]; rfl) rfl (LamX.lamS_by (sc := defScope s_law_plain) (by decide +kernel))) (pa_cons (ML.pe_lamV (T := (TT K).lam) (c := (He.cT K ("_law_plain", none)).1) (P := (He.cT K ("_law_plain", none)).2) ⟨T.tb_law_plain.code, T.tb_law_plain.bm, T.tb_law_plain.gP⟩ rfl List.mem_cons_self (fun p hp _ => by rw [List.mem_singleton.mp hp]; rfl) rfl (LamX.lamS_by (sc := defScope s_law_plain) (by decide +kernel))) (pa_cons (ML.pe_lamV (T := (TT K).lam) (c := (He.cT K ("_law_plain", none)).1) (P := (He.cT K ("_law_plain", none)).2) ⟨T.tb_law_plain.code, T.tb_law_plain.bm, T.tb_law_plain.gP⟩ rfl List.mem_cons_self (fun p hp _ => by rw [List.mem_singleton.mp hp]; rfl) rfl (LamX.lamS_by (sc := defScope s_law_plain) (by decide +kernel))) (pa_cons (ML.pe_lamV (T := (TT K).lam) (c := (He.cT K ("_law_plain", none)).1) (P := (He.cT K ("_law_plain", none)).2) ⟨T.tb_law_plain.code, T.tb_law_plain.bm, T.tb_law_plain.gP⟩ rfl List.mem_cons_self (fun p hp _ => by rw [List.mem_singleton.mp hp]; rfl) rfl (LamX.lamS_by (sc := defScope s_law_plain) (by decide +kernel))) (pa_cons (ML.pe_lamV (T := (TT K).lam) (c := (He.cT K ("_law_plain", none)).1) (P := (He.cT K ("_law_plain", none)).2) ⟨T.tb_law_plain.code, T.tb_law_plain.bm, T.tb_law_plain.gP⟩ rfl List.mem_cons_self (fun p hp _ => by rw [List.mem_singleton.mp hp]; rfl) rfl (LamX.lamS_by (sc := defScope s_law_plain) (by decide +kernel))) pa_nil))))))))))))))))))))))
end K01

set_option Elab.async false
set_option linter.all false
set_option maxRecDepth 100000
set_option maxHeartbeats 2000000
namespace K01
open PySem PySem.Spec PyProof.Rows L2 MB
local macro_rules | `(tactic| walk_at "s") => `(tactic| repeat (first | refine ⟨_, rfl, ?_⟩ | refine ⟨_, _, rfl, rfl, ?_⟩ | refine ⟨_, _, rfl, ?_⟩ | refine ⟨rfl, ?_⟩))
variable {P : Program} {w : World} {K : PySem.W.Frag} {mg : Str → Option Value} {base : Heap}
theorem ok_law_plain (T : Tx K mg base) (tk : TOk (TT K)) : FnOk P w K mg base (L2.CX P w) 30 (He.fAd K ("_law_plain", none)) T.fd_law_plain [] (spPlain K) := by
  obtain ⟨oc, od, dV, kV, doc, pm, an, cdv, ct, osl, efd, lk, hcg, hDf, _⟩ := T.F_law_told.ex
  have hbt := bi_law_told T
  rw [efd] at hbt
  rw [efd] at lk
  refine MB.FunD.okC (d := ("_law_plain", none)) T.F_law_plain sc_law_plain (fun vs H Q E h => ?_) (fun A outer s H vs Q E hr h => ⟨_, (pss_cons (ps_set (i := 0) sc_law_plain.nd rfl (Or.inr rfl) (pe_make T.mk_Leaps (ok_Leaps_init T tk) (hr.mono (by decide)) rfl T.g_Leaps (bi_Leaps_init T) .nil (passes_call (takes_of rfl rfl rfl rfl) fun _ _ _ _ h => h) (pa_cons (pe_lstN (T := TT K) (pa_cons (pe_tupN (T := TT K) (pa_cons pe_int (pa_cons pe_bl pa_nil))) (pa_cons (pe_tupN (T := TT K) (pa_cons pe_int (pa_cons pe_bl pa_nil))) (pa_cons (pe_tupN (T := TT K) (pa_cons pe_int (pa_cons pe_bl pa_nil))) pa_nil)))) pa_nil)))
 (pss_cons (plain_S1 T A outer s H E)
 (pss_cons (ps_if (PW.pt (pw_or (pt_cmpR (op_neDK (K := K) rfl hr.units) (ML.pe_lcI (tt := tTest (tOp rNe (ML.tTold (KLs T tk A outer s H E P w) (plainX P w K mg base A outer s H E).env.cells ((plainX P w K mg base A outer s H E).env.qual ++ "<lambda>") K (He.ga K "YearError") "YearError" 3 [3]) (tC (.str "YearError")))) rfl sc_law_plain.nd (pi_listK (K := K) rfl (pv 1)) (blkOk_by (N := ["leaps", "bad", "k", "f", "year"]) (sc := defScope s_law_plain) (own := [("f", 3)]) (by decide +kernel)) (fun _ _ _ _ _ => (pg_name (i := 3) sc_law_plain.nd rfl (Or.inl rfl))) (fun s3 H3 C cl fp pins σ I hfp => (show PTs _ _ (tTest (tOp rNe (fun σB HB Q => wipe σB [3] = wipe σ [3] ∧ (ML.tTold (KLs T tk A outer s H E P w) (plainX P w K mg base A outer s H E).env.cells ((plainX P w K mg base A outer s H E).env.qual ++ "<lambda>") K (He.ga K "YearError") "YearError" 3 [3]) σB HB Q) (tC (.str "YearError")))) from pts_one (pt_cmpR op_ne (ML.pe_toldB (vs := [3]) I hfp (kl_ok T tk A outer s H E) (hr.mono (by decide)) rfl T.g_law_told T.F_law_told.kp lk hcg hbt sc_law_told rfl (Or.inl rfl) rfl T.g_YearError (fun _ => rfl) rfl (Or.inl rfl)) pe_str (nomark _)))) (fun _ _ _ _ _ => pe_int)) (pe_lstN (T := TT K) pa_nil) (nomark _)) (pw_or1 (pt_cmpR op_ne (pe_glob (v := .int 99999) rfl T.i_MOST_YEAR.choose_spec ⟨_, rfl⟩) pe_int (nomark _))))) (pss_one (ps_ret pe_bl)) pss_nil)
 (pss_one (ps_ret (pe_and (pe_cmpR (op_eqDK (K := K) rfl hr.units) (pe_meth (pv 0) T.c_Leaps T.m_Leaps_mean (ok_Leaps_mean T) (hr.mono (by decide)) (bi_Leaps_mean T) .nil (passes_call (takes_of rfl rfl rfl rfl) fun _ _ _ _ h => h) (pa_cons pe_int pa_nil)) (pe_tupN (T := TT K) (pa_cons pe_int (pa_cons pe_int pa_nil))) (nomark _)) (pe_and (pe_cmpR (op_eqDK (K := K) rfl hr.units) (pe_meth (pv 0) T.c_Leaps T.m_Leaps_year_of (ok_Leaps_year_of T) (hr.mono (by decide)) (bi_Leaps_year_of T) .nil (passes_call (takes_of rfl rfl rfl rfl) fun _ _ _ _ h => h) (pa_cons pe_int (pa_cons pe_int pa_nil))) (pe_tupN (T := TT K) (pa_cons pe_int (pa_cons pe_int pa_nil))) (nomark _)) (pe_and (pe_cmpR (op_eqDK (K := K) rfl hr.units) (pe_lc rfl sc_law_plain.nd (pi_listK (K := K) rfl (pe_lstN (T := TT K) (pa_cons pe_int (pa_cons pe_int (pa_cons pe_int (pa_cons pe_int pa_nil)))))) (blkOk_by (N := ["leaps", "bad", "k", "f", "year"]) (sc := defScope s_law_plain) (own := [("year", 4)]) (by decide +kernel)) (fun _ _ _ _ _ => (pg_name (i := 4) sc_law_plain.nd rfl (by first | exact Or.inl rfl | exact Or.inr rfl))) (fun _ _ _ _ _ => pts_nil) (fun _ _ _ _ _ => (pe_meth (pv 0) T.c_Leaps T.m_Leaps_is_long (ok_Leaps_is_long T) (hr.mono (by decide)) (bi_Leaps_is_long T) .nil passL (pa_cons (pv 4) pa_nil)))) (pe_lstN (T := TT K) (pa_cons pe_bl (pa_cons pe_bl (pa_cons pe_bl (pa_cons pe_bl pa_nil))))) (nomark _)) (pe_and (pe_cmpR (op_eqDK (K := K) rfl hr.units) (pe_call (ok_best_rules T) (hr.mono (by decide)) rfl T.g_best_rules T.F_best_rules.kp (bi_best_rules T) .nil (passes_call (takes_of rfl rfl rfl rfl) fun _ _ _ _ h => h) (pa_cons pe_int (pa_cons pe_int (pa_cons pe_int pa_nil)))) (pe_tupN (T := TT K) (pa_cons (pe_tupN (T := TT K) (pa_cons pe_int (pa_cons pe_int pa_nil))) (pa_cons pe_int (pa_cons pe_int pa_nil)))) (nomark _)) (pe_one (pe_cmpR (op_eqDK (K := K) rfl hr.units) (pe_call (ok_best_rules T) (hr.mono (by decide)) rfl T.g_best_rules T.F_best_rules.kp (bi_best_rules T) .nil (passes_call (takes_of rfl rfl rfl rfl) fun _ _ _ _ h => h) (pa_cons pe_int (pa_cons pe_int (pa_cons pe_int pa_nil)))) (pe_tupN (T := TT K) (pa_cons (pe_tupN (T := TT K) (pa_cons pe_int (pa_cons pe_int pa_nil))) (pa_cons pe_int (pa_cons pe_int pa_nil)))) (nomark _)))))))))))), ?_⟩)
  · obtain ⟨rfl, _⟩ := h
    rfl
  · obtain ⟨rfl, gd, hQ⟩ := h
    walk_at "s"
    refine ⟨sz, fun t0 H0 ht0 hv0 e0 => ?_⟩
    walk_at "s"
    refine ⟨sz, fun t1 H1 ht1 hv1 e1 => ?_⟩
    walk_at "s"
    refine ⟨sz, fun t2 H2 ht2 hv2 e2 => ?_⟩
    walk_at "s"
    refine ⟨sz, fun q Hq hq hvq eq => ?_⟩
    walk_at "s"
    have eA : Ext (TT K) No H Hq := (((e0.trans e1).trans e2).trans eq)
    intro x dx hx hdx hne
    refine ⟨x, dx, q, R400, Hq, rfl, hx, hdx, hne, rfl, eA.gd gd, ⟨[t0, t1, t2], .inl (SqL.of hvq), ((rsnoc ((rsnoc ((rsnoc (rnil.ext e0) hv0).ext e1) hv1).ext e2) hv2)).ext eq⟩, by decide, fun rv H2 le2 e2 => ⟨rfl, ?_⟩, fun z => absurd ⟨ok400.pos, ok400.six, ok400.rng, ok400.asc⟩ z⟩
    have E2 := eA.trans e2
    have gd2 := E2.gd gd
    clear eA e2 hx hdx hne hvq hq
    have hPne : ∀ p ∈ (TT K).gen, p ≠ (He.cT K ("_law_plain", none)).2 := fun p hp => Ne.symm (tk p hp _ List.mem_cons_self)
    refine lamsTA_ok hPne _ _ _ _ gd2 fun fs H3 e3 hfs => ?_
    have hfl : fs.length = 20 := by rw [hfs.1]; rfl
    refine ⟨sz (by rw [List.length_map, hfl]; decide), fun pb H4 hpb hvb e4 => ?_⟩
    have hfs := hfs.ext e4
    have le4 := (le2.ext e3).ext e4
    have E4 := (E2.trans e3).trans e4
    have gd4 := E4.gd gd
    clear le2 E2 gd2 e3 e4
    walk_at "s"
    refine ⟨⟨_, SqL.of hvb⟩, fun D hD => ?_⟩
    have hpD : ¬ pb = D := fun z => by rw [z, hD] at hvb; cases hvb
    refine lc_list (xs := fs.map V.ref) (fun i H5 => H5 D = some (.lst []) ∧ Ext (TT K) (· = D) H4 H5) ⟨upd_same, (Ext.new hD).no⟩ (fun i H5 _ ⟨_, e⟩ => SqL.of (e.lst _ _ hvb hpD)) ?_ ?_
    · rintro i x1 H5 hx1 ⟨h5, e5⟩
      rw [List.getElem?_map] at hx1
      cases g : fs[i]? with
      | none => rw [g] at hx1; cases hx1
      | some f =>
        rw [g] at hx1
        cases hx1
        have hi : i < 20 := by
          have := (List.getElem?_eq_some_iff.mp g).1
          omega
        have hL : ((List.range 20).map lamOf)[i]? = some (lamOf i) := by simp [hi]
        obtain ⟨c', hf, hc⟩ := hfs.2 i f (lamOf i) g hL
        walk_at "s"
        refine ⟨f, c', lamOf i, tOf T tk A outer s H E P w i, List.mem_map.mpr ⟨i, by simpa using hi, rfl⟩, rfl, e5.fix _ _ hf lamO_fix, e5.fix _ _ hc codeO_fix, ?_⟩
        have key : tOf T tk A outer s H E P w i = (lamAll (P := P) (w := w) T tk A outer s H E i hi).choose := by
          unfold tOf
          rw [dif_pos hi]
        rw [key]
        refine (lamAll (P := P) (w := w) T tk A outer s H E i hi).choose_spec.2 _ x _ _ _ _ H5 _ (le4.ext e5) (e5.gd gd4) fun H6 e6 => ⟨true, T.xm_YearError_YearError, fun _ => ?_, fun z => by cases z⟩
        walk_at "s"
        exact ⟨e6.lst _ _ h5 id, e5.trans e6.no⟩
    rintro H5 ⟨h5, e5⟩
    have e5n := e5.mono1 (NoM.of hD)
    walk_at "s"
    refine ⟨sz, fun l0 H6 hl0 hv0 e6 => ?_⟩
    refine ⟨.list [], .list [], .lst (SqL.of (e6.lst _ _ h5 id)) .nil, .lst (SqL.of hv0) .nil, rfl, rfl, ?_⟩
    have E6 := (E4.trans e5n).trans e6
    have le6 := (le4.ext e5n).ext e6
    clear e5 e5n e6 h5 hv0 hl0 le4 E4 hfs hvb hpb hD hpD
    have hl400 : MM.lcmA R400 = 400 := by decide
    have hm400 : MM.db R400 365 400 = 146097 := by
      have := cn400 400
      unfold MM.db
      omega
    obtain ⟨dx9, p9, ts9, l1, l2, l3⟩ := le6
    have le6 : LeapsAt (LC K) H6 x R400 := ⟨dx9, p9, ts9, l1, l2, l3⟩
    walk_at "s"
    refine ⟨_, _, _, rfl, l1, rfl, ?_⟩
    walk_at "s"
    refine ⟨x, R400, 365, rfl, le6, ok400, by decide, by decide, fun _ p7 H7 hv7 e7 => ?_, fun z => absurd z (by decide)⟩
    rw [hl400] at hv7
    have hv7 : H7 p7 = some (.tup [.int 146097, .int 400]) := by
      have e : MM.db R400 (365 : Int).toNat 400 = 146097 := hm400
      rw [hv7, e]
      rfl
    walk_at "s"
    refine ⟨sz, fun t8 H8 ht8 hv8 e8 => ?_⟩
    refine ⟨.tuple [.int 146097, .int 400], .tuple [.int 146097, .int 400], .tup (SqT.of (e8.fix _ _ hv7 rfl)) (.cons (.int _) (.cons (.int _) .nil)), .tup (SqT.of hv8) (.cons (.int _) (.cons (.int _) .nil)), rfl, rfl, ?_⟩
    have E8 := (E6.trans e7).trans e8
    have le8 := (le6.ext e7).ext e8
    clear e7 e8 hv7 hv8 ht8 l1 l2 l3 le6 E6
    obtain ⟨dx9, p9, ts9, l1, l2, l3⟩ := le8
    have le8 : LeapsAt (LC K) H8 x R400 := ⟨dx9, p9, ts9, l1, l2, l3⟩
    have hdb : MM.db R400 365 100000 = 36524250 := by
      have := cn400 100000
      unfold MM.db
      omega
    have h99 : MM.db R400 365 99999 = 36523885 := by
      have := cn400 99999
      unfold MM.db
      omega
    walk_at "s"
    refine ⟨_, _, _, rfl, l1, rfl, ?_⟩
    walk_at "s"
    refine ⟨x, R400, 36524249, 365, rfl, le8, ok400, by decide, fun _ _ _ p9 H9 yr g1 g2 g3 hv9 e9 => ?_, fun z => ?_⟩
    rotate_left
    · rcases z with z | z | z
      · exact absurd z (by decide)
      · exact absurd z (by decide)
      · have z : ((MM.db R400 365 100000 : Nat) : Int) ≤ 36524249 := z
        omega
    have hyr : yr = 99999 := MM.yr_one R400 (s := 365) (by decide) (show _ ≤ 36524249 from g1) g2 (by rw [h99]; decide) (show 36524249 < MM.db R400 365 100000 by omega)
    subst hyr
    have hv9 : H9 p9 = some (.tup [.int 99999, .int 364]) := by
      have e : (36524249 : Int) - ((MM.db R400 (365 : Int).toNat 99999 : Nat) : Int) = 364 := by
        show (36524249 : Int) - ((MM.db R400 365 99999 : Nat) : Int) = 364
        omega
      rw [hv9, e]
      rfl
    walk_at "s"
    refine ⟨sz, fun t10 H10 ht10 hv10 e10 => ?_⟩
    refine ⟨.tuple [.int 99999, .int 364], .tuple [.int 99999, .int 364], .tup (SqT.of (e10.fix _ _ hv9 rfl)) (.cons (.int _) (.cons (.int _) .nil)), .tup (SqT.of hv10) (.cons (.int _) (.cons (.int _) .nil)), rfl, rfl, ?_⟩
    have E10 := (E8.trans e9).trans e10
    have le10 := (le8.ext e9).ext e10
    clear e9 e10 hv9 hv10 ht10 l1 l2 l3 le8 E8 g1 g2 g3
    -- the four years
    walk_at "s"
    refine ⟨sz, fun pl H11 hpl hvl e11 => ?_⟩
    have le11 := le10.ext e11
    have E11 := E10.trans e11
    refine ⟨_, rfl, ⟨_, SqL.of hvl⟩, fun D2 hD2 => ?_⟩
    have hlD : ¬ pl = D2 := fun z => by rw [z, hD2] at hvl; cases hvl
    refine lc_list (xs := [.int 0, .int 4, .int 100, .int 400]) (fun i H5 => H5 D2 = some (.lst ((([true, true, false, true] : List Bool).take i).map V.bl)) ∧ Ext (TT K) (· = D2) H11 H5) ⟨upd_same, (Ext.new hD2).no⟩ (fun i H5 _ ⟨_, e⟩ => SqL.of (e.lst _ _ hvl hlD)) ?_ ?_
    · rintro i v H5 hv ⟨h5, e5⟩
      have hlen : (([true, true, false, true] : List Bool).take i).length ≤ 4 := by simp; omega
      obtain ⟨yv, b, rfl, hy1, hy2, hy3⟩ : ∃ (yv : Nat) (b : Bool), v = .int (yv : Nat) ∧ yv ≤ 99999 ∧ MM.isLong R400 yv = b ∧ ([true, true, false, true] : List Bool).take (i + 1) = ([true, true, false, true] : List Bool).take i ++ [b] := by
        match i, hv with
        | 0, hv => cases hv; exact ⟨0, true, rfl, by decide, by decide, rfl⟩
        | 1, hv => cases hv; exact ⟨4, true, rfl, by decide, by decide, rfl⟩
        | 2, hv => cases hv; exact ⟨100, false, rfl, by decide, by decide, rfl⟩
        | 3, hv => cases hv; exact ⟨400, true, rfl, by decide, by decide, rfl⟩
        | n + 4, hv => simp at hv
      obtain ⟨dx9, p9', ts9, l1, l2, l3⟩ := le11.ext e5
      walk_at "s"
      refine ⟨_, _, _, rfl, l1, rfl, ?_⟩
      walk_at "s"
      refine ⟨x, R400, (yv : Int), rfl, le11.ext e5, ok400, fun _ _ => ?_, fun z => absurd ⟨by omega, by omega⟩ z⟩
      refine ⟨_, h5, by rw [List.length_map]; exact szl (by omega), ?_, e5.trans (Ext.set h5 rfl)⟩
      rw [hy3, List.map_append, Int.toNat_natCast, hy2]
      exact upd_same
    rintro H12 ⟨h12, e12⟩
    have e12n := e12.mono1 (NoM.of hD2)
    have E12 := E11.trans e12n
    have h12 : H12 D2 = some (.lst (([true, true, false, true] : List Bool).map V.bl)) := h12
    clear e11 e12 e12n le10 le11 E10 E11 hvl hD2 hlD
    walk_at "s"
    refine ⟨sz, fun p13 H13 hp13 hv13 e13 => ?_⟩
    have hv13 : H13 p13 = some (.lst (([true, true, false, true] : List Bool).map V.bl)) := hv13
    refine ⟨_, _, dpBls (e13.lst _ _ h12 id), dpBls hv13, shBls _, shBls _, ?_⟩
    have E13 := E12.trans e13
    clear e13 h12 hv13 hp13 E12
    -- the best rules
    have hb1 : MM.bst 97 400 400 = some (0, 97, 400) := by decide +kernel
    have hb2 : MM.bst 1 2 1 = some (1, 0, 1) := by decide +kernel
    walk_at "s"
    refine ⟨_, _, _, rfl, by decide, fun _ _ _ _ _ t14 t15 H14 o s' c hb ht14 ht15 e14 => ?_, fun z => absurd ⟨by decide, by decide, by decide, by decide, by decide⟩ z⟩
    have hb : MM.bst 97 400 400 = some (o, s', c) := hb
    cases hb1.symm.trans hb
    have ht15 : H14 t15 = some (.tup [.int 0, .int 1]) := by
      rw [ht15]
      rfl
    walk_at "s"
    refine ⟨sz, fun t16 H16 ht16 hv16 e16 => ?_⟩
    walk_at "s"
    refine ⟨sz, fun t17 H17 ht17 hv17 e17 => ?_⟩
    have e167 := e16.trans e17
    refine ⟨.tuple [.tuple [.int 0, .int 1], .int 97, .int 400], .tuple [.tuple [.int 0, .int 1], .int 97, .int 400], .tup (SqT.of (e167.fix _ _ ht14 rfl)) (.cons (.tup (SqT.of (e167.fix _ _ ht15 rfl)) (.cons (.int _) (.cons (.int _) .nil))) (.cons (.int _) (.cons (.int _) .nil))),
      .tup (SqT.of hv17) (.cons (.tup (SqT.of (e17.fix _ _ hv16 rfl)) (.cons (.int _) (.cons (.int _) .nil))) (.cons (.int _) (.cons (.int _) .nil))), rfl, rfl, ?_⟩
    have E17 := (E13.trans e14).trans e167
    clear e14 e16 e17 e167 ht14 ht15 hv16 hv17 ht16 ht17 E13
    walk_at "s"
    refine ⟨_, _, _, rfl, by decide, fun _ _ _ _ _ t14 t15 H14 o s' c hb ht14 ht15 e14 => ?_, fun z => absurd ⟨by decide, by decide, by decide, by decide, by decide⟩ z⟩
    have hb : MM.bst 1 2 1 = some (o, s', c) := hb
    cases hb2.symm.trans hb
    have ht15 : H14 t15 = some (.tup [.int 1, .int 2]) := by
      rw [ht15]
      rfl
    walk_at "s"
    refine ⟨sz, fun t16 H16 ht16 hv16 e16 => ?_⟩
    walk_at "s"
    refine ⟨sz, fun t17 H18 ht17 hv17 e17 => ?_⟩
    have e167 := e16.trans e17
    refine ⟨.tuple [.tuple [.int 1, .int 2], .int 0, .int 1], .tuple [.tuple [.int 1, .int 2], .int 0, .int 1], .tup (SqT.of (e167.fix _ _ ht14 rfl)) (.cons (.tup (SqT.of (e167.fix _ _ ht15 rfl)) (.cons (.int _) (.cons (.int _) .nil))) (.cons (.int _) (.cons (.int _) .nil))),
      .tup (SqT.of hv17) (.cons (.tup (SqT.of (e17.fix _ _ hv16 rfl)) (.cons (.int _) (.cons (.int _) .nil))) (.cons (.int _) (.cons (.int _) .nil))), rfl, rfl, ?_⟩
    exact hQ _ ((E17.trans e14).trans e167)
end K01

set_option Elab.async false
set_option linter.all false
set_option maxRecDepth 100000
set_option maxHeartbeats 0
namespace K01
open PySem PySem.Spec PyProof.Rows L2 MB
theorem fd_one {K : PySem.W.Frag} {x q : Str} {a : Arguments} {b : List Stmt} {sc : Scope} {dv : List V} {kw : List (Str × V)} {f : Addr} {fd fd' : FuncData} (F : FunD K x q a b sc dv kw f fd) (F' : FunD K x q a b sc dv kw f fd') : fd' = fd := by
  obtain ⟨oc, od, _, _, _, _, _, _, _, osl, _, lk, _⟩ := F.ex
  obtain ⟨oc', od', _, _, _, _, _, _, _, osl', _, lk', _⟩ := F'.ex
  rw [lk] at lk'
  cases lk'
  rfl
theorem facts {P : Program} {w : World} {K : PySem.W.Frag} {h : Heap} {mg : Str → Option Value} {f : Addr} (plain : ∀ {base : Heap} (T : Tx K mg base) (tk : TOk (TT K)), FnOk P w K mg base (L2.CX P w) 30 (He.fAd K ("_law_plain", none)) T.fd_law_plain [] (spPlain K)) (X : K.In h) (G : h.Ns mainGlobals mg) (hfa : mg ("law" : Str) = some (.ref f)) (c : He.SaysX fa fn [] tf exB w h K) :
    ∃ fd : FuncData, (∀ (s : Shared) (v : Value), BindsTo s fd ⟨[v], []⟩ [("script", v)]) ∧ ∀ base : Heap, K.In base → base.Ns mainGlobals mg → (∀ p ∈ tf.map (He.cT K), GxR.TabB base mg p.1 p.2) → FnOk P w K mg base (L2.CX P w) 40 f fd ["script"] (spLaw K) := by
  obtain ⟨fd, F⟩ := c.t.d.def_ 17 (d := d_law) rfl
  have e := hfa.symm.trans (He.glo_ok X G (c.t.d.fact 9 (f := .glo "law") rfl))
  cases e
  have b := FunD.bindsA (ps := ["script"]) F fun _ _ _ _ _ _ us hl => match us, hl with | [_], _ => rfl
  have ne : (He.cT K ("Leaps", some "__init__")).2 ≠ (He.cT K ("_law_plain", none)).2 := of_decide_eq_true c.more
  have tk : TOk (TT K) := fun p hp q hq => by
    have e1 : p = (He.cT K ("Leaps", some "__init__")).2 := by simpa [TT] using hp
    have e2 : q.1 = (He.cT K ("_law_plain", none)).2 := by
      have : q = ((He.cT K ("_law_plain", none)).2, ("_law_plain.<locals>.<lambda>" : Str)) := by simpa [TT] using hq
      rw [this]
    rw [e1, e2]
    exact Ne.symm ne
  refine ⟨fd, fun s v => b s [v] rfl, fun base _ _ tb => ?_⟩
  obtain ⟨T⟩ := tx_of (base := base) X G c tb
  have e2 := fd_one F T.F_law
  rw [← e2]
  exact ok_law T tk fun T => plain T tk
end K01
open PySem PySem.W PySem.Calls PyProof.Rows
theorem PySem.Challenge.cw_moonstack_k01_years_and_rules_holds : PySem.Challenge.rw_moonstack_k01_years_and_rules.Holds := by
  w_on; o_law
  refine HandSHeadRun.head_any (r := OpenLaw.row PySem.Challenge.rw_moonstack_k01_years_and_rules) (q := view (OpenLaw.row PySem.Challenge.rw_moonstack_k01_years_and_rules).prog [21]) (H := K01.hk) (ob := K01.ob) (M := 4000) (loose := K01.loose) (d := HandSHeadRun.topDef (OpenLaw.row PySem.Challenge.rw_moonstack_k01_years_and_rules).prog 21) (kwd := []) K01.ob_eq
    (by kernel_rfl) (fun s => by kernel_rfl) K01.run (by kernel_rfl) (by kernel_rfl) (by kernel_rfl) (by rfl) (by first | assumption | decide +kernel) (by decide +kernel) ⟨rfl, rfl, rfl, rfl, rfl, by decide +kernel⟩ ?hw ?hc
  case hw => w_witness2
  case hc =>
    refine LamX.walk_ofTsE (l := PySem.Challenge.rw_moonstack_k01_years_and_rules) (n := 63) (k := 40) (x := "script") (CX := fun w => L2.CX (PySem.Challenge.rw_moonstack_k01_years_and_rules).prog w) rfl (by decide) (by kernel_rfl) ⟨rfl, by decide, by decide⟩ ?F
      (fun w H s e s' z => by
        obtain ⟨_, _, _, _, _, _, _, _, _, _, _, _, q⟩ := z
        exact q)
    intro w mg fa h Y G hmg0
    obtain ⟨K, KX, c⟩ := Y
    have hmg : mg ("law" : PySem.Str) = some (.ref fa) := by
      have e : (HandSHeadRun.topDef (OpenLaw.row PySem.Challenge.rw_moonstack_k01_years_and_rules).prog 21).name = ("law" : PySem.Str) := by kernel_rfl
      rw [← e]
      exact hmg0
    obtain ⟨fd, hb, hF⟩ := K01.facts (P := (PySem.Challenge.rw_moonstack_k01_years_and_rules).prog) (w := w) (fun T tk => K01.ok_law_plain T tk) KX G hmg c
    refine ⟨K, KX, fd, K01.tf.map (He.cT K), K01.spLaw K, ?_, ?_, ?_, hb, ?_, ?_⟩
    · intro p hp
      obtain ⟨q, hq, rfl⟩ := List.mem_map.mp hp
      exact c.empty q hq
    · intro p hp
      obtain ⟨q, hq, rfl⟩ := List.mem_map.mp hp
      exact c.out q hq
    · intro p hp
      obtain ⟨q, hq, rfl⟩ := List.mem_map.mp hp
      exact PySem.W.codeHd_of_K KX (c.hd q hq)
    · intro H a ns hl _ hT hS
      refine ⟨a, ns, rfl, hS, ⟨fun p hp => ?_, fun p hp => ?_⟩, fun _ => rfl⟩
      · have e : p = (He.cT K ("Leaps", some "__init__")).2 := by simpa [K01.TT] using hp
        rw [e]
        exact ⟨#[], hT _ (List.mem_map.mpr ⟨("Leaps", some "__init__"), by decide, rfl⟩), True.intro⟩
      · have e : p = ((He.cT K ("_law_plain", none)).2, ("_law_plain.<locals>.<lambda>" : PySem.Str)) := by simpa [K01.TT] using hp
        rw [e]
        exact LamX.TabS.nil (hT _ (List.mem_map.mpr ⟨("_law_plain", none), by decide, rfl⟩))
    · intro base h1 h2 h3
      exact hF base h1 h2 fun p hp => ⟨(h3 p hp).code, (h3 p hp).bm, (h3 p hp).gP⟩
