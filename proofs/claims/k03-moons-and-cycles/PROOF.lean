import PyProof.Rows.All
import Wide.All
import OpenK.AllK
import Wide.FinOn
import HandS.Base
import HandS.Call
import HandS.List
import HandS.Comp
import HandS.Exc
import HandS.AnyAll
import HandS.GenList
import HandS.Lambda
import HandS.ExcOwn
import HandS.Defaults
import HandS.HeadHook4
import HandS.Iter
import HandS.Zip
import HandS.TupAny
import HandS.More
import HandS.Dict
import HandS.SetFor
import HandS.Wide
import KE.DataMinMax
import KE.GoesMore
import KE.DatumOrd
import KE.KStateDown
import HandS.ForMost
import HandS.WordsExc
import HandS.Head0
import HandS.Head1
import HandS.Head2
import HandS.HeadEnd
import HandS.HeadWalk
import PySem.Challenge.RW_moonstack_k03_moons_and_cycles
import HandS.Conv
import HandS.Style
set_option Elab.async false
set_option linter.all false
set_option maxRecDepth 100000
set_option maxHeartbeats 2000000
/-! Generator expressions over the hand layer: made, drained by tuple, any, sum. -/
namespace MG
open PySem PySem.Spec PyProof.Rows L2 GenW

/-- what a consumer does while the generator sleeps -/
structure Slp (co : List Addr) (s s' : Shared) : Prop where
  os : s'.os = s.os
  bare : AllBare s'.gens
  keep : ∀ b o, b ∉ co → s.heap.get? b = some o → s'.heap.get? b = some o
  there : ∀ b ∈ co, ∃ o, s'.heap.get? b = some o ∧ ∀ v, o.data ≠ .cell v
/-- how the maker's heap stands at a point of the run -/
structure GD (P : Program) (w : World) (outer : List Env) (H : Hp) (s : Shared) (ex co : List Addr) (H' : Hp) (s1 : Shared) : Prop where
  os : s1.os = s.os
  bare : AllBare s1.gens
  un : Un (frs outer) ex H H' s.heap s1.heap
  hok : HOk P w H' s1.heap
  free : ∀ b ∈ co, H' b = none
abbrev CnT := List V → V → Hp → Prop → Prop
def RG (P : Program) (w : World) (outer : List Env) (H : Hp) (s : Shared) (ex co : List Addr) (Rc : List V → Heap → Prop) (Qe : List V → Hp → Prop) : GenEnd :=
  fun _ s₀ r s1 => ((r = .ok (.ret .none) ∨ r = .ok .next) ∧ ∃ H' ys, GD P w outer H s ex co H' s1 ∧ (∀ b ∈ co, ∀ o, s₀.heap.get? b = some o → s1.heap.get? b = some o) ∧ Rc ys s1.heap ∧ Qe ys H') ∨ ∃ e, r = .error e ∧ False
def YG (P : Program) (w : World) (outer : List Env) (H : Hp) (s : Shared) (ex co : List Addr) (a : Addr) (g : Nat) (Rc : List V → Heap → Prop) (Cn : CnT) : Protocol :=
  fun _ s₀ v s1 kap => ∃ ys x H', RelV x v ∧ GD P w outer H s ex co H' s1 ∧ s1.heap.NoLimit ∧ s1.heap.IsGen a g ∧ (∀ b ∈ co, ∀ o, s₀.heap.get? b = some o → s1.heap.get? b = some o) ∧ Rc ys s1.heap ∧
    Cn ys x H' (∀ s', Slp co s1 s' → Rc (ys ++ [x]) s'.heap → kap (.send .none) s')

/-- the frame of a generator expression -/
abbrev gEnv (X : Cx) (scope : Scope) (L : Addr) (code : Value) : Env := genEnv scope (cloFrom X.env.cells scope.names []) L code builtinsNs X.env
def gCx (X : Cx) (A : Around) (s : Shared) (H : Hp) (scope : Scope) (code : Value) (fp : List Addr) : Cx where
  prog := X.prog
  w := X.w
  K := X.K
  mg := X.mg
  base := X.base
  A := A.deeper (gEnv X scope s.heap.objs.size code)
  N := X.N
  s_0 := s
  H_0 := H
  env := gEnv X scope s.heap.objs.size code
  outer := X.stack
  stack := gEnv X scope s.heap.objs.size code :: X.stack
  ex := fp
  fn := fun _ => false
  calm := true
  pn := []
  xe := fun _ _ => False


theorem over_loopG {A : Around} {elt : Expr} {gs : List Comprehension} {scope : Scope} {pos : Pos} {it acc : Value} {env : Env} :
    A.over (.compLoop (.GeneratorExp elt gs scope pos) 0 it acc env) [] = A.deeper env := rfl
theorem over_startG {A : Around} {elt : Expr} {gs : List Comprehension} {scope : Scope} {pos : Pos} {it acc : Value} {env : Env} :
    A.over (.compStart (.GeneratorExp elt gs scope pos) 0 it acc env) [] = A.deeper env := rfl

/-- the scope of a generator expression: its own names (with their places in N), or captured -/
structure GeOk (N : List Str) (sc scope : Scope) (own : List (Str × Nat)) : Prop where
  blk : BlkOk N sc scope own
  co : scope.isCoroutine = false
  cell : ∀ y ∈ scope.names, y.2 ≠ .cell
  dot : scope.names.lookup (".0" : Str) = some NameKind.local
def geB (N : List Str) (sc scope : Scope) (own : List (Str × Nat)) : Bool :=
  blkC N sc scope own && (!scope.isCoroutine && ((scope.names.all fun y => !decide (y.2 = .cell)) && decide (scope.names.lookup (".0" : Str) = some NameKind.local)))
theorem geOk_by {N : List Str} {sc scope : Scope} {own : List (Str × Nat)} (h : geB N sc scope own = true) : GeOk N sc scope own := by
  unfold geB at h
  simp only [Bool.and_eq_true, Bool.not_eq_true', List.all_eq_true, decide_eq_true_eq, decide_eq_false_iff_not] at h
  exact ⟨blkOk_by h.1, h.2.1, h.2.2.1, h.2.2.2⟩
theorem GeOk.has {X : Cx} {scope : Scope} {own : List (Str × Nat)} (ok : GeOk X.N X.env.scope scope own) (okX : X.Ok) : ∀ y ∈ scope.names, y.2 = .free → ∃ c, X.env.cells.lookup y.1 = some c := fun y hy e => by
  rcases ok.blk.free y hy e with k | k
  · exact okX.has _ (.inl k)
  · exact okX.has _ (.inr k)

section
variable {X : Cx} {pins : List (Addr × Obj)} {σ : L2.St} {H : Hp} {s : Shared}
/-- the generator's frame, entered in s2, behind the maker's state s -/
theorem gen_start {A : Around} {scope : Scope} {own : List (Str × Nat)} {fp : List Addr} {code : Value} {s2 : Shared} {m : Str → Option Value} (I : Inv X pins σ H s) (ok : GeOk X.N X.env.scope scope own) (hN : X.N.Nodup) (hfp : ∀ b ∈ fp, FpOk X pins H b ∧ b < s.heap.objs.size)
    (hd : A.handled = none) (hfr : A.frames = some X.stack) (hns : s2.heap.Ns s.heap.objs.size m) (kp : ∀ b o, s.heap.get? b = some o → s2.heap.get? b = some o) (hos : s2.os = s.os) (hba : AllBare s2.gens) :
    Inv (gCx X A s H scope code fp) [] (wipe σ (own.map (·.2))) H s2 := by
  have hfree := ok.has I.ok
  have cm : ∀ {y c}, (cloFrom X.env.cells scope.names []).lookup y = some c → X.env.cells.lookup y = some c := fun {y c} e => by
    rcases cloFrom_mem (PySem.mem_of_lookup e) with hm | ⟨q1, q2⟩
    · cases hm
    · obtain ⟨c1, hc⟩ := hfree _ q1 rfl
      have hc : X.env.cells.lookup y = some c1 := hc
      rw [q2, hc]
      rfl
  have look : ∀ {y}, scope.names.lookup y = some .free → ∃ c, (cloFrom X.env.cells scope.names []).lookup y = some c := fun {y} hl =>
    mem_lookup (cloFrom_has (cells := X.env.cells) (acc := []) (PySem.mem_of_lookup hl))
  have cellK : ∀ {c : Addr} {v : Option Value}, s.heap.IsCell c v → s2.heap.IsCell c v := fun {c v} ⟨o, ho, hdt⟩ => ⟨o, kp _ _ ho, hdt⟩
  refine ⟨⟨I.ok.mod, ok.blk.kind, I.ok.glob, rfl, Nat.le_refl _, fun y z c e1 e2 => I.ok.inj y z c (cm e1) (cm e2), fun y hy => ?_, fun y c z _ => ?_, fun _ => hd, Around.frames_deeper hfr, .inr ⟨rfl, rfl⟩, fun b hb => ⟨?_, fun y c e z => ?_⟩,
      I.bs, Nat.le_trans I.ok.bsz I.sz, fun b o e hb => ?_, fun b hb z => ?_, I.stack, I.stkFree⟩,
    hos, hba, Un.kept kp, ⟨m, hns, fun i y v e1 e2 e3 => ?_⟩, fun y c e => ?_, I.hok.fresh (Nat.le_refl _), fun y c e => I.freeC y c (cm e), fun q hq => absurd (show q ∈ ([] : List (Addr × Obj)) ++ [] from hq) (by simp), I.hok.kept kp, ?_⟩
  · have hy : scope.names.lookup y = some .cell ∨ scope.names.lookup y = some .free := hy
    rcases hy with hy | hy
    · exact absurd rfl (ok.cell _ (PySem.mem_of_lookup hy))
    · exact look hy
  · cases (show false = true from z)
  · exact Nat.ne_of_lt (hfp b hb).2
  · exact (hfp b hb).1.2.2.2.2.1 y c (cm e) z
  · rcases (hfp b hb).1.2.2.2.1 with z | z
    · exact I.ok.noex b o e z
    · exact absurd (Nat.lt_of_lt_of_le (Heap.lt_size (I.ok.bs b o e).1) z) (Nat.lt_irrefl _)
  · rcases List.mem_cons.mp (I.stkSub b z) with e | e
    · exact (hfp b hb).1.2.1 e
    · exact (hfp b hb).1.2.2.1 e
  · obtain ⟨w1, w2⟩ := wipe_some e2
    have e3 : Vis scope y := e3
    have e1 : X.N[i]? = some y := e1
    rcases e3 with k | k | k
    · exfalso
      rcases ok.blk.own _ (PySem.mem_of_lookup k) (.inl rfl) with q | q
      · obtain ⟨p, hp, ep⟩ := List.mem_map.mp q
        have h1 := ok.blk.ix p hp
        have ep' : p.1 = y := ep
        rw [ep'] at h1
        have ei := nodup_ix hN e1 h1
        exact w2 (List.mem_map.mpr ⟨p, hp, ei.symm⟩)
      · exact q (List.mem_of_getElem? e1)
    · exact absurd rfl (ok.cell _ (PySem.mem_of_lookup k))
    · obtain ⟨m0, hn0, hl0⟩ := I.loc
      have hvis : Vis X.env.scope y := (ok.blk.free _ (PySem.mem_of_lookup k) rfl).elim (fun k => .inr (.inl k)) (fun k => .inr (.inr k))
      obtain ⟨w', r, q⟩ := hl0 i y v e1 w1 hvis
      obtain ⟨c2, h2⟩ := look k
      refine ⟨w', r, .inr ⟨.inr k, c2, h2, ?_⟩⟩
      have c1 := cm h2
      rcases q with ⟨k', _⟩ | ⟨_, c3, e', z⟩
      · have k' : X.env.scope.names.lookup y = some .local := k'
        rcases ok.blk.free _ (PySem.mem_of_lookup k) rfl with k2 | k2
        · rw [show X.env.scope.names.lookup y = _ from k2] at k'
          cases k'
        · rw [show X.env.scope.names.lookup y = _ from k2] at k'
          cases k'
      · rw [c1] at e'
        cases e'
        exact cellK z
  · obtain ⟨w', z⟩ := I.cell y c (cm e)
    exact ⟨w', cellK z⟩
  · rw [wipe_length]
    exact I.len

/-- the turns of a generator expression: J its source, W what holds ahead of turn i (m: what is left at most) -/
def Turns (J : It) (g : TG) (te : TE) (vs : List Nat) (σ : L2.St) (Cn : CnT) (Qe : List V → Hp → Prop) (W : Nat → Nat → List V → Hp → Prop) : Prop :=
  ∀ i m ys H, W i m ys H → (J.stop i H ∧ Qe ys H) ∨ (J.go i H ∧ 0 < m ∧ ∀ x H', J.yld i H x H' → g x (wipe σ vs) H' fun σ2 H3 => wipe σ2 vs = wipe σ vs ∧ te σ2 H3 fun y H4 =>
    Cn ys y H4 (∃ m', m' < m ∧ W (i + 1) m' (ys ++ [y]) H4))

theorem seg_turns {A : Around} {s0 : Shared} {H0 : Hp} {scope : Scope} {own : List (Str × Nat)} {code : Value} {fp co : List Addr} {it a : Addr} {gn : Nat} {J : It} {tn : Nat → Heap → Prop} {tg iter elt : Expr} {pos : Pos} {g : TG} {te : TE} {Rc : List V → Heap → Prop} {Cn : CnT} {Qe : List V → Hp → Prop}
    {W : Nat → Nat → List V → Hp → Prop} (T : Turn X.prog X.w X.K tg J fp it tn) (hco : scope.isCoroutine = false)
    (hg : PG (gCx X A s0 H0 scope code fp) tg g) (he : PE (gCx X A s0 H0 scope code fp) elt te)
    (hCn : ∀ ys y H (p q : Prop), (p → q) → Cn ys y H p → Cn ys y H q) (hRc : ∀ ys h h', Rc ys h → (∀ b ∈ co, ∀ o, h.get? b = some o → h'.get? b = some o) → Rc ys h')
    (hW : Turns J g te (own.map (·.2)) σ Cn Qe W) (hyo : ∀ b ∈ a :: co, s0.heap.objs.size < b) (hX : ∀ b ∈ frs X.stack, b < s0.heap.objs.size) (hcl : ∀ x c, (cloFrom X.env.cells scope.names []).lookup x = some c → c < s0.heap.objs.size) (hac : a ∉ co) (hfc : ∀ b ∈ a :: co, b ∉ fp) :
    ∀ (n i m : Nat) (ys : List V) (Hh : Hp) (sI s : Shared), m ≤ n → Inv (gCx X A s0 H0 scope code fp) [] (wipe σ (own.map (·.2))) Hh s → tn i s.heap → (∀ b ∈ fp, Hh b = none) → (∀ b ∈ a :: co, Hh b = none) → (∀ b ∈ a :: co, ∃ o, s.heap.get? b = some o ∧ ∀ v, o.data ≠ .cell v) → (∀ b ∈ co, ∀ o, sI.heap.get? b = some o → s.heap.get? b = some o) → s.heap.IsGen a gn → Rc ys s.heap → W i m ys Hh →
      Seg (model X.prog X.w) A (RG X.prog X.w X.stack H0 s0 fp co Rc Qe) (YG X.prog X.w X.stack H0 s0 fp co a gn Rc Cn) n sI
        (.compLoop (.GeneratorExp elt [⟨tg, iter, [], 0⟩] scope pos) 0 (.ref it) .none (gEnv X scope s0.heap.objs.size code))
        ((model X.prog X.w).den (.compLoop (.GeneratorExp elt [⟨tg, iter, [], 0⟩] scope pos) 0 (.ref it) .none (gEnv X scope s0.heap.objs.size code))) [] s := by

  -- the pins: the generator's own object, the consumer's
  have yo : ∀ {σ' : L2.St} {H' : Hp} {s' : Shared}, Inv (gCx X A s0 H0 scope code fp) [] σ' H' s' → (∀ b ∈ a :: co, H' b = none) → ∀ b ∈ a :: co, FpOk (gCx X A s0 H0 scope code fp) [] H' b := fun {σ' H' s'} I' hn b hb => by
    have hlt := hyo b hb
    refine ⟨hn b hb, Nat.ne_of_gt hlt, fun z => ?_, .inr (Nat.le_of_lt hlt), fun x c e z => ?_, fun p hp => absurd (show p ∈ ([] : List (Addr × Obj)) ++ [] from hp) (by simp)⟩
    · exact absurd (Nat.lt_trans (hX b z) hlt) (Nat.lt_irrefl _)
    · rw [← z] at hlt
      exact absurd (Nat.lt_trans (hcl x c e) hlt) (Nat.lt_irrefl _)
  have fo : ∀ {σ' : L2.St} {H' : Hp} {s' : Shared} {h0 : Heap}, Inv (gCx X A s0 H0 scope code fp) ([] ++ pinsAt (a :: co) h0) σ' H' s' → (∀ b ∈ fp, H' b = none) → ∀ b ∈ fp, FpOk (gCx X A s0 H0 scope code fp) ([] ++ pinsAt (a :: co) h0) H' b := fun {σ' H' s' h0} I' hn b hb => by
    refine ⟨hn b hb, (I'.ok.exf b hb).1, I'.ok.exfs b hb, .inl hb, fun x c e => (I'.ok.exf b hb).2 x c e, fun p hp z => ?_⟩
    have hp' : p ∈ pinsAt (a :: co) h0 := hp
    exact hfc p.1 (of_pinsAt hp').1 (by rw [z]; exact hb)
  have kept : ∀ {σ' : L2.St} {H' : Hp} {s s' : Shared} {pl : List (Addr × Obj)}, (∀ b ∈ a :: co, ∃ o, s.heap.get? b = some o ∧ ∀ v, o.data ≠ .cell v) → Inv (gCx X A s0 H0 scope code fp) (([] ++ pinsAt (a :: co) s.heap) ++ pl) σ' H' s' →
      (∀ b ∈ a :: co, H' b = none) ∧ ∀ b ∈ a :: co, ∀ o, s.heap.get? b = some o → s'.heap.get? b = some o := fun {σ' H' s s' pl} hob I' => by
    have key : ∀ b ∈ a :: co, ∀ o, s.heap.get? b = some o → s'.heap.get? b = some o ∧ H' b = none := fun b hb o e =>
      let z := I'.pin (b, o) (List.mem_append_right _ (List.mem_append_left _ (mem_pinsAt hb e)))
      ⟨z.1, z.2.1⟩
    refine ⟨fun b hb => ?_, fun b hb o e => (key b hb o e).1⟩
    obtain ⟨o, e, _⟩ := hob b hb
    exact (key b hb o e).2
  have hy : ∀ v, yieldOut (gEnv X scope s0.heap.objs.size code) v = yieldValue v := fun v => by
    have hz : (gEnv X scope s0.heap.objs.size code).scope.isCoroutine = false := hco
    simp only [yieldOut, hz, Bool.false_eq_true, if_false]
  have theEnd : ∀ (n i m : Nat) (ys : List V) (Hh : Hp) (sI s : Shared), Inv (gCx X A s0 H0 scope code fp) [] (wipe σ (own.map (·.2))) Hh s → tn i s.heap → (∀ b ∈ fp, Hh b = none) → (∀ b ∈ a :: co, Hh b = none) → (∀ b ∈ a :: co, ∃ o, s.heap.get? b = some o ∧ ∀ v, o.data ≠ .cell v) → (∀ b ∈ co, ∀ o, sI.heap.get? b = some o → s.heap.get? b = some o) → Rc ys s.heap → J.stop i Hh → Qe ys Hh →
      Seg (model X.prog X.w) A (RG X.prog X.w X.stack H0 s0 fp co Rc Qe) (YG X.prog X.w X.stack H0 s0 fp co a gn Rc Cn) n sI
        (.compLoop (.GeneratorExp elt [⟨tg, iter, [], 0⟩] scope pos) 0 (.ref it) .none (gEnv X scope s0.heap.objs.size code))
        ((model X.prog X.w).den (.compLoop (.GeneratorExp elt [⟨tg, iter, [], 0⟩] scope pos) 0 (.ref it) .none (gEnv X scope s0.heap.objs.size code))) [] s := by
    intro n i m ys Hh sI s I st hnf hnc hob hsi hrc stop qe
    show Seg _ A _ _ _ sI _ ((compTurn (.GeneratorExp elt [⟨tg, iter, [], 0⟩] scope pos) 0 (.ref it) .none (gEnv X scope s0.heap.objs.size code)).onRaise (leaving (gEnv X scope s0.heap.objs.size code))) [] s
    rw [compTurn_gen, Sem.onRaise_eq_wrap]
    refine seg_bind_wrap (wpAny_standAt ?_)
    refine seg_bind_wrap ?_
    rw [over_loopG]
    have Ip := I.pinned (yo I hnc) hob
    refine thnF (T.done (gCx X A s0 H0 scope code fp) rfl rfl rfl rfl i _ s _ Hh (fun _ _ => False) Ip (fo Ip hnf) st stop) fun r s6 hr => ?_
    obtain ⟨er, I6⟩ := hr
    subst er
    have I6' : Inv (gCx X A s0 H0 scope code fp) (([] ++ pinsAt (a :: co) s.heap) ++ []) (wipe σ (own.map (·.2))) Hh s6 := by
      rw [List.append_nil]
      exact I6
    obtain ⟨k1, k2⟩ := kept hob I6'
    exact seg_end (.ok .next) (.inl ⟨.inr rfl, Hh, ys, ⟨I6.os, I6.bare, I6.base, I6.hok, fun b hb => k1 b (List.mem_cons_of_mem _ hb)⟩, fun b hb o e => k2 b (List.mem_cons_of_mem _ hb) o (hsi b hb o e), hRc ys _ _ hrc fun b hb o e => k2 b (List.mem_cons_of_mem _ hb) o e, qe⟩)
  intro n
  induction n with
  | zero =>
    intro i m ys Hh sI s hmn I st hnf hnc hob hsi hgen hrc w
    have hm0 : m = 0 := by omega
    subst hm0
    rcases hW i 0 ys Hh w with ⟨stop, qe⟩ | ⟨_, hm, _⟩
    · exact theEnd 0 i 0 ys Hh sI s I st hnf hnc hob hsi hrc stop qe
    · exact absurd hm (Nat.lt_irrefl _)
  | succ n ih =>
    intro i m ys Hh sI s hmn I st hnf hnc hob hsi hgen hrc w
    rcases hW i m ys Hh w with ⟨stop, qe⟩ | ⟨go, _, step⟩
    · exact theEnd (n + 1) i m ys Hh sI s I st hnf hnc hob hsi hrc stop qe
    show Seg _ A _ _ _ sI _ ((compTurn (.GeneratorExp elt [⟨tg, iter, [], 0⟩] scope pos) 0 (.ref it) .none (gEnv X scope s0.heap.objs.size code)).onRaise (leaving (gEnv X scope s0.heap.objs.size code))) [] s
    rw [compTurn_gen, Sem.onRaise_eq_wrap]
    refine seg_bind_wrap (wpAny_standAt ?_)
    refine seg_bind_wrap ?_
    rw [over_loopG]
    have Ip := I.pinned (yo I hnc) hob
    refine thnF (T.item (gCx X A s0 H0 scope code fp) rfl rfl rfl rfl i _ s _ Hh (fun _ _ => False) Ip (fo Ip hnf) st go) fun r s6 hr => ?_
    obtain ⟨u, er, h6⟩ := hr
    subst er
    refine seg_bind_wrap ?_
    rw [over_loopG]
    refine thnF h6 fun _ s7 h7 => ?_
    obtain ⟨x, H7, I7, r7, y7, st7, n7⟩ := h7
    have I7p := I7.pinned (fo I7 n7) (T.obj _ _ st7)
    refine seg_bind_wrap ?_
    rw [over_loopG]
    refine thnF (hg.run _ s7 _ H7 x u _ I7p r7 (step x H7 y7)) fun _ s8 h8 => ?_
    obtain ⟨σ8, H8, I8, hw8, q8⟩ := h8
    refine seg_bind_wrap (wpAny_of_eq (List.forIn_nil ..) ?_)
    simp only [if_true]
    simp only [hy]
    rw [Sem.bind_eq_wrap', Sem.bind_eq_wrap', Sem.wrap_wrap, Sem.wrap_wrap]
    refine seg_wrap ?_
    rw [over_loopG]
    refine thnF (he.run _ s8 σ8 H8 _ I8 q8) fun v s9 h9 => ?_
    obtain ⟨y, H9, I9, r9, q9⟩ := h9
    obtain ⟨k1, k2⟩ := kept hob I9
    have f9 : ∀ b ∈ fp, ∀ o, s7.heap.get? b = some o → s9.heap.get? b = some o ∧ H9 b = none := fun b hb o e =>
      let z := I9.pin (b, o) (List.mem_append_right _ (List.mem_append_right _ (mem_pinsAt hb e)))
      ⟨z.1, z.2.1⟩
    have st9 : tn (i + 1) s9.heap := T.keep _ _ _ st7 fun b hb o e => (f9 b hb o e).1
    have n9 : ∀ b ∈ fp, H9 b = none := fun b hb => by
      obtain ⟨o, e, _⟩ := T.obj _ _ st7 b hb
      exact (f9 b hb o e).2
    have g9 : s9.heap.IsGen a gn := by
      obtain ⟨o, nm, qn, ho, rr⟩ := hgen
      exact ⟨o, nm, qn, k2 a List.mem_cons_self o ho, rr⟩
    have I9u : Inv (gCx X A s0 H0 scope code fp) [] σ8 H9 s9 := I9.pins_of fun p hp => absurd hp (by simp)
    have hl : (wipe σ (own.map (·.2))).length = σ8.length := by rw [← hw8, wipe_length]
    have I9w : Inv (gCx X A s0 H0 scope code fp) [] (wipe σ (own.map (·.2))) H9 s9 := I9u.weak hl fun j v e => by
      rw [← hw8] at e
      exact (wipe_some e).1
    refine seg_at (seg_yield rfl rfl rfl ?_)
    refine ⟨ys, y, H9, r9, ⟨I9.os, I9.bare, I9.base, I9.hok, fun b hb => k1 b (List.mem_cons_of_mem _ hb)⟩, I9.nolimit, g9, fun b hb o e => k2 b (List.mem_cons_of_mem _ hb) o (hsi b hb o e), hRc ys _ _ hrc fun b hb o e => k2 b (List.mem_cons_of_mem _ hb) o e, hCn ys y H9 _ _ (fun hnx s' sl hrc' => ?_) q9⟩
    · obtain ⟨m', hm', w'⟩ := hnx
      -- woken again
      have co9 : ∀ b ∈ co, FpOk (gCx X A s0 H0 scope code fp) [] H9 b := fun b hb => yo I9w k1 b (List.mem_cons_of_mem _ hb)
      have nfr : ∀ b u, H9 b = some u → b ∉ co := fun b u e hb => by
        rw [k1 b (List.mem_cons_of_mem _ hb)] at e
        cases e
      have hL : ∀ b ∈ co, b ≠ s0.heap.objs.size := fun b hb => Nat.ne_of_gt (hyo b (List.mem_cons_of_mem _ hb))
      have Iw : Inv (gCx X A s0 H0 scope code fp) [] (wipe σ (own.map (·.2))) H9 s' := by
        obtain ⟨z1, z2, z3, z4⟩ := sl
        obtain ⟨hh, gg, d, t, o⟩ := s'
        have ho : o = s9.os := z1
        subst ho
        refine I9w.step (g' := gg) (t' := t) (d' := d) (ch := co) (fun b hb => ?_) (fun b ob _ _ hc e _ => z3 b ob hc e) (fun b ob _ _ hc e _ => ⟨ob.slots, z3 b ob hc e⟩) (fun _ _ _ _ n => n) (fun b ob hc e => ⟨ob, z3 b ob hc e⟩)
          (fun _ _ e => e) (fun _ _ _ e => e) (fun b ps e => ⟨#[], by rw [e]; simp⟩) (fun mm hm => ?_) (fun b u e => ?_) z2
        · obtain ⟨_, c2, c3, c4, c5, c6⟩ := co9 b hb
          exact ⟨c4, c2, c5, c6⟩
        · obtain ⟨ob, es, ep, ho, rr⟩ := hm
          exact ⟨ob, es, ep, z3 _ ob (fun hb => hL _ hb rfl) ho, rr⟩
        · refine (I9w.hok b u e).stay (fun c v hc q => z3 c v ?_ q) (fun _ q => q) fun _ _ q => q
          rcases hc with z | z
          · rw [z]
            exact nfr b u e
          · exact nfr c _ z
      refine seg_again rfl (ih (i + 1) m' (ys ++ [y]) H9 s' s' (by omega) Iw (T.keep _ _ _ st9 fun b hb o e => sl.keep b o (fun hc => hfc b (List.mem_cons_of_mem _ hc) hb) e) n9 k1 (fun b hb => ?_) (fun _ _ _ z => z) ?_ hrc' w')
      · rcases List.mem_cons.mp hb with e | e
        · obtain ⟨o, nm, qn, ho, oc, od, os⟩ := g9
          rw [e]
          exact ⟨o, sl.keep a o hac ho, fun v q => by rw [od] at q; cases q⟩
        · exact sl.there b e
      · obtain ⟨o, nm, qn, ho, rr⟩ := g9
        exact ⟨o, nm, qn, sl.keep a o hac ho, rr⟩

/-- a generator expression, made at sc and not begun -/
def GM (P : Program) (w : World) (k : Nat) (outer : List Env) (H : Hp) (sc : Shared) (ex : List Addr) (Cn : CnT) (Qe : List V → Hp → Prop) (u : Value) (s' : Shared) : Prop :=
  ∃ (a : Addr) (gn : Nat) (c : Code) (n : Nat), u = .ref a ∧ sc.heap.objs.size < a ∧ a < s'.heap.objs.size ∧ s'.heap.IsGen a gn ∧ s'.gens[gn]? = some (.fresh c) ∧ s'.os = sc.os ∧ AllBare s'.gens ∧ s'.heap.NoLimit ∧ (∀ b o, sc.heap.get? b = some o → s'.heap.get? b = some o) ∧
    ∀ (A : Around) (co : List Addr) (Rc : List V → Heap → Prop) (s2 : Shared), Room k A → A.frames = some outer → (∀ b ∈ co, s'.heap.objs.size ≤ b ∧ ∃ o, s2.heap.get? b = some o ∧ ∀ v, o.data ≠ .cell v) → (∀ b o, s'.heap.get? b = some o → s2.heap.get? b = some o) → s2.os = sc.os → AllBare s2.gens →
      (∀ ys h h', Rc ys h → (∀ b ∈ co, ∀ o, h.get? b = some o → h'.get? b = some o) → Rc ys h') → Rc [] s2.heap →
      Seg (model P w) A (RG P w outer H sc ex co Rc Qe) (YG P w outer H sc ex co a gn Rc Cn) n s2 c ((model P w).den c) [] s2

/-- the code of a generator expression begins -/
theorem seg_begin {P : Program} {w : World} {A : Around} {R : GenEnd} {Y : Protocol} {n : Nat} {s0 s : Shared} {elt tg iter : Expr} {scope : Scope} {pos : Pos} {it : Addr} {env : Env} (hself : ∀ (A : Around) (Q : Value → Shared → Prop) (E : Value → Shared → Prop), Q (.ref it) s → wpAny (model P w) A (pyIter (.ref it)) Q E s)
    (loop : Seg (model P w) A R Y n s0 (.compLoop (.GeneratorExp elt [⟨tg, iter, [], 0⟩] scope pos) 0 (.ref it) .none env) ((model P w).den (.compLoop (.GeneratorExp elt [⟨tg, iter, [], 0⟩] scope pos) 0 (.ref it) .none env)) [] s) :
    Seg (model P w) A R Y n s0 (.compStart (.GeneratorExp elt [⟨tg, iter, [], 0⟩] scope pos) 0 (.ref it) .none env) ((model P w).den (.compStart (.GeneratorExp elt [⟨tg, iter, [], 0⟩] scope pos) 0 (.ref it) .none env)) [] s := by
  show Seg _ A _ _ _ s0 _ ((compStart (.GeneratorExp elt [⟨tg, iter, [], 0⟩] scope pos) 0 (.ref it) .none env).onRaise (leaving env)) [] s
  unfold compStart
  rw [Sem.onRaise_eq_wrap]
  show Seg _ A _ _ _ s0 _ ((ask >>= _).wrap _ _ _ _) [] s
  refine seg_bind_wrap (wpAny_askSetting ?_)
  split
  · exact seg_again rfl loop
  · refine seg_bind_wrap (wpAny_rule ?_)
    show Seg _ A _ _ _ s0 _ ((standAt iter.pos >>= _).wrap _ _ _ _) [] s
    exact seg_bind_wrap (wpAny_standAt (seg_bind_wrap (hself _ _ _ (seg_again rfl loop))))

/-- the reading of a generator expression, Cn: what each item asks, Qe: what its end asks -/
def tGx (P : Addr) (wi : TI) (g : TG) (te : TE) (vs : List Nat) (Cn : CnT) (Qe : List V → Hp → Prop) : L2.St → Hp → Prop := fun σ H =>
  wi σ H fun J H1 => GxR.TabG H1 P ∧ ∀ H2, GxR.Tabbed P H1 H2 → ∃ W : Nat → Nat → List V → Hp → Prop, (∃ m, W 0 m [] H2) ∧ Turns J g te vs σ Cn Qe W

theorem gen_made {k : Nat} {c P : Addr} {elt tg iter : Expr} {gpos : Pos} {scope : Scope} {own : List (Str × Nat)} {wi : TI} {g : TG} {te : TE} {Cn : CnT} {Qe : List V → Hp → Prop}
    (hr : Room k X.A) (hN : X.N.Nodup) (TB : GxR.TabB X.base X.mg c P) (hcode : X.env.code = .ref c) (ok : GeOk X.N X.env.scope scope own) (hi : PI X tg iter wi)
    (hg : ∀ (A : Around) (s : Shared) (H : Hp) (code : Value) (fp : List Addr), PG (gCx X A s H scope code fp) tg g) (he : ∀ (A : Around) (s : Shared) (H : Hp) (code : Value) (fp : List Addr), Room k A → PE (gCx X A s H scope code fp) elt te)
    (hCn : ∀ ys y H (p q : Prop), (p → q) → Cn ys y H p → Cn ys y H q) (hs : ∀ v, genFold iter X.env v = pure v) (I : Inv X pins σ H s) (h : tGx P wi g te (own.map (·.2)) Cn Qe σ H) :
    wpAny (model X.prog X.w) X.A (eval (.GeneratorExp elt [⟨tg, iter, [], 0⟩] scope gpos) X.env) (fun u s' => ∃ H1 sc ex, Inv X pins σ H1 sc ∧ ExOk X pins ex ∧ GM X.prog X.w k X.stack H1 sc ex Cn Qe u s') X.xe s := by
  refine wpAny_GeneratorExp_make ok.co (closure_ok (ok.has I.ok)) ok.cell ok.dot ok.blk.kind hr.depth ?_ hs
  refine thn (hi.run pins s σ H _ I h) fun xv s1 hx => thn hx fun itv s2 h2 => ?_
  obtain ⟨it, fp, tn, J, H2, e, I2, T, st2, f2, hT, q⟩ := h2
  obtain ⟨ps, hP, ht⟩ := hT
  subst e
  have hPs : s2.heap.get? P = some { cls := .none, data := .fields ps } := I2.hok P _ hP
  have cd : PySem.W.CodeHd s2.heap c P := TB.code.keeps fun b u e => I2.bk b u e
  refine ⟨I2.nolimit, ?_⟩
  have go : ∀ (code : Value) (h3 : Heap) (tk : Nat) (ps' : Array Value), Heap.ExtBut P s2.heap h3 → s2.heap.objs.size ≤ h3.objs.size → h3.get? P = some { cls := .none, data := .fields ps' } → (∃ more, ps' = ps ++ more) → TriplesOk ps'.toList →
      wpAny (model X.prog X.w) X.A (builtinsFor X.env.globals X.env.builtins) (fun bi s₄ =>
        ∀ h', h'.Ns s₄.heap.objs.size (fun y => if y = ".0" then some (.ref it) else none) → Heap.SameBut s₄.heap.objs.size (s₄.heap.push { cls := .type "frame", data := .dict #[] }) h' →
          ∃ H1 sc ex, Inv X pins σ H1 sc ∧ ExOk X pins ex ∧ GM X.prog X.w k X.stack H1 sc ex Cn Qe (.ref h'.objs.size) { s₄ with
            gens := s₄.gens.push (.fresh (.compStart (.GeneratorExp elt [⟨tg, iter, [], 0⟩] scope gpos) 0 (.ref it) .none (genEnv scope (cloFrom X.env.cells scope.names []) s₄.heap.objs.size code bi X.env))),
            toks := s₄.toks + 1 + 1 + 1,
            heap := h'.push { cls := .type "generator", data := .fields #[.int s₄.gens.size 0, .str "<genexpr>" (s₄.toks + 1), .str (X.env.qual ++ "<genexpr>") (s₄.toks + 1 + 1)] } }) X.xe { s2 with heap := h3, toks := tk } := by
    intro code h3 tk ps' hx3 hsz hP3 hmore ht3
    obtain ⟨more, em⟩ := hmore
    have I3 := GxR.inv_tab (more := more) (h' := h3) (g' := s2.gens) (d' := s2.drawn) (t' := tk) I2 hP (fun b u hb e => hx3 b u hb e) (by rw [← em]; exact hP3) I2.bare
    obtain ⟨bm, ob, e1, e2, e3, e4, e5, e6, e7, e8⟩ := TB.bm
    refine wpAny_builtinsFor (m := X.mg) (by rw [I3.ok.glob]; exact I3.mod.glob.keeps I3.bk) e1 e2 (I3.bk _ _ e5) e6 e7 e8 ?_
    intro h' hn' hs'
    have hPne : ∀ b, H2 b = none → b ≠ P := fun b e z => by
      rw [z, hP] at e
      cases e
    have f3 : ∀ b ∈ fp, FpOk X pins (upd H2 P (.tbl (ps ++ more))) b ∧ b < h3.objs.size := fun b hb => by
      have hb0 := f2 b hb
      obtain ⟨o, eo, _⟩ := T.obj _ _ st2 b hb
      refine ⟨⟨?_, hb0.2⟩, Nat.lt_of_lt_of_le (Heap.lt_size eo) hsz⟩
      rw [upd_ne (hPne b hb0.1)]
      exact hb0.1
    have st3 : tn 0 h3 := T.keep _ _ _ st2 fun b hb o e => hx3 b o (hPne b (f2 b hb).1) e
    have sz1 : h'.objs.size = h3.objs.size + 1 := by
      rw [hs'.1, Heap.size_push]
    have kp1 : ∀ b o, h3.get? b = some o → h'.get? b = some o := fun b o e => hs'.extBut b o (Nat.ne_of_lt (Heap.lt_size e)) (Heap.get?_push_of_some _ e)
    obtain ⟨W, ⟨m, w0⟩, hW⟩ := q (upd H2 P (.tbl (ps ++ more))) ⟨⟨ps ++ more, upd_same, by rw [← em]; exact ht3⟩, fun b hb => upd_ne hb⟩
    refine ⟨upd H2 P (.tbl (ps ++ more)), _, fp, I3, fun b hb => ⟨(f3 b hb).1.2.2.2.1, (f3 b hb).1.2.1, (f3 b hb).1.2.2.2.2.1, (f3 b hb).1.2.2.2.2.2⟩, ?_⟩
    have kp2 : ∀ b o, h3.get? b = some o → (h'.push { cls := .type "generator", data := .fields #[.int s2.gens.size 0, .str "<genexpr>" (tk + 1), .str (X.env.qual ++ "<genexpr>") (tk + 1 + 1)] }).get? b = some o := fun b o e => Heap.get?_push_of_some _ (kp1 b o e)
    refine ⟨h'.objs.size, s2.gens.size, _, m, rfl, ?_, ?_, ⟨_, _, _, Heap.get?_push_size _ rfl, rfl, rfl, rfl⟩, Array.getElem?_push_size .., rfl, AllBare.push I2.bare rfl, I3.nolimit.keeps kp2, kp2, ?_⟩
    · show h3.objs.size < h'.objs.size
      omega
    · show h'.objs.size < (h'.push _).objs.size
      rw [Heap.size_push]
      omega
    intro A co Rc s2' hrA hfr hco kp3 hos hba hRc rc0
    have kp4 : ∀ b o, h3.get? b = some o → s2'.heap.get? b = some o := fun b o e => kp3 b o (kp2 b o e)
    have coB : ∀ b ∈ h'.objs.size :: co, h3.objs.size < b := fun b hb => by
      rcases List.mem_cons.mp hb with z | z
      · omega
      · have q1 := (hco b z).1
        have q2 : (h'.push { cls := .type "generator", data := .fields #[.int s2.gens.size 0, .str "<genexpr>" (tk + 1), .str (X.env.qual ++ "<genexpr>") (tk + 1 + 1)] }).objs.size ≤ b := q1
        rw [Heap.size_push] at q2
        omega
    have hgn : s2'.heap.IsGen h'.objs.size s2.gens.size := ⟨_, _, _, kp3 _ _ (Heap.get?_push_size _ rfl), rfl, rfl, rfl⟩
    have J0 := gen_start (A := A) (scope := scope) (own := own) (code := code) (s2 := s2') I3 ok hN f3 hrA.hd hfr (hn'.keeps fun b o e => kp3 b o (Heap.get?_push_of_some _ e)) kp4 hos hba
    have hst : tn 0 s2'.heap := T.keep _ _ _ st3 fun b _ o e => kp4 b o e
    have loop := seg_turns (A := A) (iter := iter) (pos := gpos) (co := co) (a := h'.objs.size) (gn := s2.gens.size) (elt := elt) T ok.co (hg A _ _ code fp) (he A _ _ code fp hrA) hCn hRc hW coB
      (fun b hb => by
        rcases List.mem_cons.mp (I3.stkSub b hb) with z | z
        · rw [z]
          exact I3.lt
        · obtain ⟨_, o, ho, _⟩ := I3.ok.funs.mem z
          exact Nat.lt_of_lt_of_le (Heap.lt_size ho) I3.sz)
      (fun x c e => by
        rcases cloFrom_mem (PySem.mem_of_lookup e) with hm | ⟨q1, q2⟩
        · cases hm
        · obtain ⟨c1, hc⟩ := ok.has I.ok _ q1 rfl
          have hc : X.env.cells.lookup x = some c1 := hc
          obtain ⟨v, z⟩ := I3.cell _ _ hc
          rw [q2, hc]
          exact z.lt)
      (fun hm => by
        have q1 := (hco _ hm).1
        have q2 : (h'.push { cls := .type "generator", data := .fields #[.int s2.gens.size 0, .str "<genexpr>" (tk + 1), .str (X.env.qual ++ "<genexpr>") (tk + 1 + 1)] }).objs.size ≤ h'.objs.size := q1
        rw [Heap.size_push] at q2
        omega)
      (fun b hb hm => absurd (Nat.lt_trans (coB b hb) (f3 b hm).2) (Nat.lt_irrefl _))
      m 0 m [] _ s2' s2' (Nat.le_refl _) J0 hst (fun b hb => (f3 b hb).1.1) (fun b hb => I3.hok.fresh (Nat.le_of_lt (coB b hb))) (fun b hb => by
        rcases List.mem_cons.mp hb with z | z
        · rw [z]
          exact ⟨_, kp3 _ _ (Heap.get?_push_size _ rfl), fun v y => by cases y⟩
        · exact (hco b z).2) (fun _ _ _ z => z) hgn rc0 w0
    exact seg_begin (fun A' Q E hq => T.self A' 0 _ _ _ hst hq) loop
  cases hf : codeAmong gpos ps.toList with
  | none =>
    refine wpAny_genexprCodeX hcode (cd.code hPs ht) (cd.tab hPs) hf fun c' h' tk hx hge hlt hco' _ htab' _ => ?_
    obtain ⟨o1, vs, f1, tf, fl, tg1, inF, tx, tt, op, _, _, _, _, _, _, _, _, _, htr, _⟩ := hco'
    exact go _ h' tk _ hx (Nat.le_trans hge (Nat.le_of_lt hlt)) htab'.2 ⟨_, rfl⟩ htr
  | some cv =>
    refine wpAny_genexprCode_hit hcode (cd.code hPs ht) hf ?_
    exact go cv s2.heap s2.toks ps (Heap.ExtBut.refl _ _) (Nat.le_refl _) hPs ⟨#[], by simp⟩ ht
end

/-! ### the consumers -/
theorem GD.more {P : Program} {w : World} {outer : List Env} {H H' : Hp} {sc s1 s2 : Shared} {ex co : List Addr} (x : GD P w outer H sc ex co H' s1) (k : ∀ b o, s1.heap.get? b = some o → s2.heap.get? b = some o) (os : s2.os = s1.os) (hb : AllBare s2.gens) : GD P w outer H sc ex co H' s2 :=
  ⟨os.trans x.os, hb, x.un.trans (Un.kept k), x.hok.kept k, x.free⟩
/-- each item is asked nothing but room -/
def cnL : CnT := fun ys _ _ p => ys.length < sizeLine ∧ p
theorem cnL_mono (ys : List V) (y : V) (H : Hp) (p q : Prop) (h : p → q) (c : cnL ys y H p) : cnL ys y H q := ⟨c.1, h c.2⟩
def rcL (S : Addr) : List V → Heap → Prop := fun ys h => ∃ acc c, h.get? S = some (lstObj acc c) ∧ Vals ys acc.toList
theorem rcL_keep {S : Addr} (ys : List V) (h h' : Heap) (r : rcL S ys h) (k : ∀ b ∈ [S], ∀ o, h.get? b = some o → h'.get? b = some o) : rcL S ys h' := by
  obtain ⟨acc, c, e, v⟩ := r
  exact ⟨acc, c, k S List.mem_cons_self _ e, v⟩

section
variable {P : Program} {w : World} {outer : List Env} {H : Hp} {sc : Shared} {ex : List Addr} {Qe : List V → Hp → Prop} {A : Around} {R : Result → Shared → Prop} {S a : Addr} {g : Nat} {res : Value}
theorem drainL (hh : A.handled = none) (hd : A.depth < recursionLimit) (hSa : S ≠ a) (hSc : S ≠ cStatics)
    (hend : ∀ s' acc c H' ys, s'.heap.get? S = some (lstObj acc c) → Vals ys acc.toList → GD P w outer H sc ex [S] H' s' → Qe ys H' → R (.ok (.ret res)) s') :
    ∀ (m : Nat) (s : Shared), s.heap.IsGen a g → s.heap.NoLimit →
      (∃ gs, s.gens[g]? = some gs ∧ gs.Goes (model P w) A.in1.in1 (RG P w outer H sc ex [S] (rcL S) Qe) (YG P w outer H sc ex [S] a g (rcL S) cnL) m (.send .none) (s.setGen g .running)) →
      codeAny (model P w) A (.builtin "list.extend.loop" ⟨[.ref S, .ref a, res], []⟩) R s := by
  have fin : ∀ {s₀ s₁ : Shared} {h' : Heap}, (∃ H' ys, GD P w outer H sc ex [S] H' s₁ ∧ (∀ b ∈ [S], ∀ o, s₀.heap.get? b = some o → s₁.heap.get? b = some o) ∧ rcL S ys s₁.heap ∧ Qe ys H') → (∀ b o, s₁.heap.get? b = some o → h'.get? b = some o) → R (.ok (.ret res)) { s₁.setGen g .finished with heap := h' } := fun {s₀ s₁ h'} hp hk => by
    obtain ⟨H', ys, gd, _, ⟨acc, c, e, v⟩, q⟩ := hp
    exact hend _ acc c H' ys (hk _ _ e) v (gd.more (s2 := { s₁.setGen g .finished with heap := h' }) hk rfl (allBare_setGen gd.bare rfl)) q
  intro m
  induction m with
  | zero =>
    intro s hg hl ⟨gs, hgs, hgo⟩
    refine codeAny_builtin PySem.F.entry_extend_loop ?_
    rw [Around.under_plainId PySem.F.plain_extend_loop _]
    show wpAny _ A.in1 (pyNext (.ref a) >>= _) _ _ s
    refine wpAny_bind (next_genG (A := A.in1) (F := fun _ s₀ s1 => ∃ H' ys, GD P w outer H sc ex [S] H' s1 ∧ (∀ b ∈ [S], ∀ o, s₀.heap.get? b = some o → s1.heap.get? b = some o) ∧ rcL S ys s1.heap ∧ Qe ys H') (Er := fun _ _ => False) hh hl hd hg hgs hgo (fun v s₁ gs' hbare hv => ?_) (fun s₁ hp h' hk => ?_) fun e s₁ he => False.elim he)
    · exfalso
      obtain ⟨ys, x, H', rv, gd, hl1, hg1, _, ⟨acc, c, e, vv⟩, _, hk⟩ := hv
      refine hk { s₁ with heap := s₁.heap.update S (Obj.mapSeq (·.push v)) } ⟨rfl, gd.bare, fun b o hb e' => ?_, fun b hb => ?_⟩ ⟨acc.push v, _, Heap.get?_update_self _ e rfl, ?_⟩
      · exact (Heap.get?_update_other _ _ (fun z : S = b => hb (by rw [z]; exact List.mem_cons_self))).trans e'
      · have hb : b = S := by simpa using hb
        rw [hb]
        exact ⟨_, Heap.get?_update_self _ e rfl, fun z q => by cases q⟩
      · rw [Array.toList_push]
        exact vv.append (.cons rv .nil)
    · exact wpAny_pure (fin hp hk)
  | succ m ih =>
    intro s hg hl ⟨gs, hgs, hgo⟩
    have hgl : g < s.gens.size := (Array.getElem?_eq_some_iff.mp hgs).1
    refine codeAny_builtin PySem.F.entry_extend_loop ?_
    rw [Around.under_plainId PySem.F.plain_extend_loop _]
    show wpAny _ A.in1 (pyNext (.ref a) >>= _) _ _ s
    refine wpAny_bind (wpAny_gsz (n := g + 1) hgl (next_genG (A := A.in1) (F := fun _ s₀ s1 => ∃ H' ys, GD P w outer H sc ex [S] H' s1 ∧ (∀ b ∈ [S], ∀ o, s₀.heap.get? b = some o → s1.heap.get? b = some o) ∧ rcL S ys s1.heap ∧ Qe ys H') (Er := fun _ _ => False) hh hl hd hg hgs hgo (fun v s₁ gs' hbare hv => ?_) (fun s₁ hp h' hk => ?_) fun e s₁ he => False.elim he))
    · intro hsz
      obtain ⟨ys, x, H', rv, gd, hl1, hg1, _, ⟨acc, c, e, vv⟩, hlt, hk⟩ := hv
      have hasz : acc.size = ys.length := by
        have e1 := vv.length
        have e2 : acc.toList.length = acc.size := by simp
        omega
      show wpAny _ A.in1 (updateSeq S (·.push v) >>= _) _ _ _
      refine wpAny_bind ?_
      refine wpAny_updateSeq e rfl (wpAny_pure ⟨plainId_quiet PySem.F.plain_extend_loop _, ?_⟩) (by omega) (by show (acc.push v).size ≤ sizeLine + 1; rw [Array.size_push]; omega)
      have keep3 : ∀ b o, b ≠ S → s₁.heap.get? b = some o → (s₁.heap.update S (Obj.mapSeq (·.push v))).get? b = some o := fun b o hbS e => (Heap.get?_update_other _ _ (Ne.symm hbS)).trans e
      have hsz1 : g < s₁.gens.size := by
        have q : (s₁.setGen g gs').gens.size = s₁.gens.size := setGen_size _ _ _
        have hsz' : g + 1 ≤ (s₁.setGen g gs').gens.size := hsz
        omega
      refine ih { s₁.setGen g gs' with heap := s₁.heap.update S (Obj.mapSeq (·.push v)) } ?_ ?_ ⟨gs', setGen_at hsz1, ?_⟩
      · obtain ⟨o, nm, qn, ho, r⟩ := hg1
        exact ⟨o, nm, qn, keep3 a o (Ne.symm hSa) ho, r⟩
      · obtain ⟨mc, hns, hnn⟩ := hl1
        exact ⟨mc, hns.at' fun o e => keep3 _ o (Ne.symm hSc) e, hnn⟩
      · refine hk _ ⟨rfl, allBare_setGen (s := s₁.setGen g gs') (allBare_setGen gd.bare hbare) rfl, fun b o hb e' => keep3 b o (fun z => hb (by rw [z]; exact List.mem_cons_self)) e', fun b hb => ?_⟩ ⟨acc.push v, _, Heap.get?_update_self _ e rfl, ?_⟩
        · have hb : b = S := by simpa using hb
          rw [hb]
          exact ⟨_, Heap.get?_update_self _ e rfl, fun z q => by cases q⟩
        · rw [Array.toList_push]
          exact vv.append (.cons rv .nil)
    · intro hsz
      exact wpAny_pure (fin hp hk)
end

section
variable {P : Program} {w : World} {outer : List Env} {H : Hp} {sc s : Shared} {ex : List Addr} {Qe : List V → Hp → Prop} {A : Around} {k : Nat} {u : Value} {E : Value → Shared → Prop}
theorem collectG {Q : List Value → Shared → Prop} (hr : Room (k + 3) A) (hfr : A.frames = some outer) (h : GM P w k outer H sc ex cnL Qe u s)
    (hQ : ∀ s' acc H' ys, Vals ys acc → GD P w outer H sc ex [] H' s' → Qe ys H' → s.heap.objs.size ≤ s'.heap.objs.size → Q acc s') : wpAny (model P w) A (collect u) Q E s := by
  obtain ⟨a, gn, c, n, rfl, ha1, ha2, hg, hgs, hos, hb, hl, hkp, wake⟩ := h
  have hSa : s.heap.objs.size ≠ a := Nat.ne_of_gt ha2
  have hcl : cStatics < s.heap.objs.size := let ⟨_, hn, _⟩ := hl; hn.lt
  have hSc : s.heap.objs.size ≠ cStatics := Nat.ne_of_gt hcl
  unfold collect
  refine wpAny_bind (wpAny_runValue (codeAny_builtin PySem.F.entry_proto_collect ?_))
  rw [Around.under_plainId PySem.F.plain_proto_collect _]
  show wpAny _ A.in1 (newList [] >>= fun l => again (.builtin "list.__iadd__" ⟨[l, .ref a], []⟩)) _ _ s
  refine wpAny_bind (wpAny_newObj_type ?_)
  refine wpAny_pure ⟨plainId_quiet PySem.F.plain_list_iadd _, codeAny_builtin PySem.F.entry_list_iadd ?_⟩
  rw [Around.under_plainId PySem.F.plain_list_iadd _]
  show wpAny _ A.in1 (Builtin.List.listExtendWith (.ref s.heap.objs.size) (.ref a) (.ref s.heap.objs.size)) _ _ _
  have hS1 : (s.heap.push { cls := .type "list", data := .seq ([] : List Value).toArray }).get? s.heap.objs.size = some { cls := .type "list", data := .seq ([] : List Value).toArray } := Heap.get?_push_size _ rfl
  have up : ∀ (h : Heap) (f : Obj → Obj), (∀ b o, s.heap.get? b = some o → h.get? b = some o) → ∀ b o, s.heap.get? b = some o → (h.update s.heap.objs.size f).get? b = some o := fun h f q b o e =>
    (Heap.get?_update_other _ _ (Ne.symm (Nat.ne_of_lt (Heap.lt_size e)))).trans (q b o e)
  have k1 : ∀ b o, s.heap.get? b = some o → (s.heap.push { cls := .type "list", data := .seq ([] : List Value).toArray }).get? b = some o := fun b o e => Heap.get?_push_of_some _ e
  have gty : ∀ {h : Heap}, (∀ b o, s.heap.get? b = some o → h.get? b = some o) → h.IsGen a gn := fun {h} q => hg.keeps q
  unfold Builtin.List.listExtendWith
  refine wpAny_bind (wpAny_typeOf (Heap.IsGen.typeIs (s := { s with heap := _ }) (gty k1)) ?_)
  have h1 : Builtin.List.listSameRef (.ref s.heap.objs.size) (.ref a) = false := by simp [Builtin.List.listSameRef, hSa]
  have h2 : (Value.type "generator" == Value.type "list") = false := by decide
  have h3 : (Value.type "generator" == Value.type "tuple") = false := by decide
  simp only [h1, h2, h3, Bool.or_false, Bool.false_eq_true, if_false]
  refine wpAny_bind (wpAny_pyIter_gen (s := { s with heap := _ }) (gty k1) ?_)
  refine wpAny_bind (wpAny_holding ?_)
  unfold Builtin.List.listLengthHint
  refine wpAny_bind (wpAny_specialOf (Heap.IsGen.typeIs (s := { s with heap := _ }) (gty k1)) PySem.F.gen_no_len ?_)
  show wpAny _ A.in1 (specialOf (Value.ref a) (Str.ofString "__length_hint__") >>= _) _ _ _
  refine wpAny_bind (wpAny_specialOf (Heap.IsGen.typeIs (s := { s with heap := _ }) (gty k1)) PySem.F.gen_no_hint ?_)
  refine wpAny_pure ?_
  show wpAny _ A.in1 (rule "list.extend.makes-room" >>= fun _ => Builtin.List.listTouch (.ref s.heap.objs.size) >>= fun _ =>
    again (.builtin "list.extend.loop" ⟨[.ref s.heap.objs.size, .ref a, .ref s.heap.objs.size], []⟩)) _ _ _
  refine wpAny_bind (wpAny_rule ?_)
  refine wpAny_bind ?_
  show wpAny _ A.in1 (updateSeq s.heap.objs.size (·.push .none) >>= fun _ => updateSeq s.heap.objs.size (·.pop)) _ _ _
  refine wpAny_bind (wpAny_updateSeq hS1 rfl ?_)
  have hS2 := Heap.get?_update_self (Obj.mapSeq (·.push Value.none)) hS1 rfl
  refine wpAny_updateSeq (hz := by seq_fits) hS2 rfl ?_
  have hS3 := Heap.get?_update_self (Obj.mapSeq (·.pop)) hS2 rfl
  have k3 := up _ (Obj.mapSeq (·.pop)) (up _ (Obj.mapSeq (·.push Value.none)) k1)
  refine wpAny_pure ⟨plainId_quiet PySem.F.plain_extend_loop _, ?_⟩
  refine drainL (P := P) (w := w) (outer := outer) (H := H) (sc := sc) (ex := ex) (Qe := Qe) (A := A) (g := gn) hr.hd hr.depth hSa hSc (fun s' acc c' H' ys q1 q2 q3 q4 => ?_) n _ (gty k3) (hl.keeps k3) ⟨_, hgs, rfl, ?_⟩
  · show wpAny _ A (load s.heap.objs.size >>= _) _ _ s'
    refine wpAny_bind (wpAny_load q1 ?_)
    refine wpAny_pure (hQ s' acc.toList H' ys q2 ⟨q3.os, q3.bare, q3.un, q3.hok, fun b hb => absurd hb (by simp)⟩ q4 ?_)
    exact Nat.le_of_lt (Heap.lt_size q1)
  · refine wake _ [s.heap.objs.size] (rcL s.heap.objs.size) _ ⟨hr.hd, ?_, ?_⟩ hfr (fun b hb => ?_) k3 hos (allBare_setGen (s := { s with heap := _ }) hb rfl) (fun ys h h' => rcL_keep ys h h') ⟨_, _, hS3, .nil⟩
    · have := hr.dp
      show A.depth + 3 * k + 5 < _
      omega
    · have := hr.un
      show A.units + 1 + 1 + 16 * k + 200 < _
      omega
    · have hb : b = s.heap.objs.size := by simpa using hb
      rw [hb]
      exact ⟨Nat.le_refl _, _, hS3, fun v q => by cases q⟩

theorem code_tupleG {Q₁ : Value → Shared → Prop} (hr : Room (k + 4) A) (hfr : A.frames = some outer) (h : GM P w k outer H sc ex cnL Qe u s)
    (hQ : ∀ s' (acc : List Value) H' ys, Vals ys acc → ys.length ≤ sizeLine → GD P w outer H sc ex [] H' s' → Qe ys H' → s.heap.objs.size ≤ s'.heap.objs.size → Q₁ (.ref s'.heap.objs.size) { s' with heap := s'.heap.push { cls := .type "tuple", data := .seq acc.toArray } })
    (hlen : ∀ ys H', Qe ys H' → ys.length ≤ sizeLine) :
    codeAny (model P w) A (.call (.builtin "tuple.__new__") ⟨[.type "tuple", u], []⟩) (wants Q₁ E) s := by
  refine codeAny_of_tree ?_
  show wpAny _ A.in1 (do checkBuiltinCall "tuple.__new__" ⟨[.type "tuple", u], []⟩; again (.builtin "tuple.__new__" ⟨[.type "tuple", u], []⟩)) _ _ s
  refine wpAny_bind (wpAny_of_eq (PySem.F.newCall_tuple_1 _) (wpAny_pure ⟨plainId_quiet PySem.F.plain_tuple_new _, codeAny_builtin PySem.F.entry_tuple_new ?_⟩))
  rw [Around.under_plainId PySem.F.plain_tuple_new _]
  have hsub := sub_tuple_self
  have hinit := init_tuple_lookup
  have hmh := madeHere_tuple
  obtain ⟨a, gn, hu, hgen⟩ : ∃ a gn, u = .ref a ∧ s.heap.IsGen a gn := by
    obtain ⟨a, gn, c, n, e, _, _, hg, _⟩ := id h
    exact ⟨a, gn, e, hg⟩
  subst hu
  have hTI : s.TypeIs (.ref a) "generator" := Heap.IsGen.typeIs hgen
  wp_walk using wpAny_typeOf hTI, collectG (hr := Room.in1 (hr.mono (by omega))) (hfr := hfr) h
  intro s' acc H' ys hv gd q hsz
  show wpAny _ _ (Builtin.Tuple.tupleExact acc.toArray >>= fun v => ret v) _ _ _
  unfold Builtin.Tuple.tupleExact
  have hl := hlen ys H' q
  have he := hv.length
  refine wpAny_bind (wpAny_newObj_type ?_ (by show acc.toArray.size ≤ sizeLine; rw [List.size_toArray]; omega))
  exact wpAny_pure (hQ s' acc H' ys hv hl gd q hsz)

theorem call_tupleG {Q : Value → Shared → Prop} (hr : Room (k + 6) A) (hfr : A.frames = some outer) (h : GM P w k outer H sc ex cnL Qe u s)
    (hQ : ∀ s' (acc : List Value) H' ys, Vals ys acc → ys.length ≤ sizeLine → GD P w outer H sc ex [] H' s' → Qe ys H' → s.heap.objs.size ≤ s'.heap.objs.size → Q (.ref s'.heap.objs.size) { s' with heap := s'.heap.push { cls := .type "tuple", data := .seq acc.toArray } })
    (hlen : ∀ ys H', Qe ys H' → ys.length ≤ sizeLine) :
    wpAny (model P w) A (call (.type "tuple") [u]) Q E s := by
  refine callType_codes (Q₁ := fun obj s₁ => s₁.TypeIs obj "tuple" ∧ Q obj s₁) PySem.F.called_tuple (PySem.F.typeCall_tuple_1 _) PySem.F.entry_object_init
    (code_tupleG (Room.in1 (hr.mono (by omega))) hfr h (fun s' acc H' ys q1 q2 q3 q4 q5 => ⟨⟨_, Heap.get?_push_size _ rfl, rfl⟩, hQ s' acc H' ys q1 q2 q3 q4 q5⟩) hlen) fun obj s₁ h₁ => ?_
  exact ⟨h₁.1, PySem.F.args_object_init_2 obj _, object_init_meets PySem.F.called_tuple.init.lookup PySem.F.called_tuple.made (by decide) P w A.in1 _ s₁ ⟨h₁.1, rfl, h₁.2⟩⟩
end

/-! ### any -/
/-- an item: a True or False; at a True the end -/
def cnA (Qt : Hp → Prop) : CnT := fun _ y H p => ∃ b, y = .bl b ∧ if b = true then Qt H else p
theorem cnA_mono {Qt : Hp → Prop} (ys : List V) (y : V) (H : Hp) (p q : Prop) (h : p → q) (c : cnA Qt ys y H p) : cnA Qt ys y H q := by
  obtain ⟨b, e, c⟩ := c
  refine ⟨b, e, ?_⟩
  cases b with
  | true => exact c
  | false => exact h c
def rcA : List V → Heap → Prop := fun _ _ => True
section
variable {P : Program} {w : World} {outer : List Env} {H : Hp} {sc : Shared} {ex : List Addr} {Qe : List V → Hp → Prop} {Qt : Hp → Prop} {A : Around} {R : Result → Shared → Prop} {a : Addr} {g : Nat}
theorem drainA (hh : A.handled = none) (hd : A.depth < recursionLimit)
    (hyes : ∀ s' H', GD P w outer H sc ex [] H' s' → Qt H' → R (.ok (.ret (.bool true))) s') (hno : ∀ s' H' ys, GD P w outer H sc ex [] H' s' → Qe ys H' → R (.ok (.ret (.bool false))) s') :
    ∀ (m : Nat) (s : Shared), s.heap.IsGen a g → s.heap.NoLimit →
      (∃ gs, s.gens[g]? = some gs ∧ gs.Goes (model P w) A.in1.in1 (RG P w outer H sc ex [] rcA Qe) (YG P w outer H sc ex [] a g rcA (cnA Qt)) m (.send .none) (s.setGen g .running)) →
      codeAny (model P w) A (.builtin "any.loop" ⟨[.ref a], []⟩) R s := by
  have fin : ∀ {s₀ s₁ : Shared} {h' : Heap}, (∃ H' ys, GD P w outer H sc ex [] H' s₁ ∧ (∀ b ∈ ([] : List Addr), ∀ o, s₀.heap.get? b = some o → s₁.heap.get? b = some o) ∧ rcA ys s₁.heap ∧ Qe ys H') → (∀ b o, s₁.heap.get? b = some o → h'.get? b = some o) → R (.ok (.ret (.bool false))) { s₁.setGen g .finished with heap := h' } := fun {s₀ s₁ h'} hp hk => by
    obtain ⟨H', ys, gd, _, _, q⟩ := hp
    exact hno _ H' ys (gd.more (s2 := { s₁.setGen g .finished with heap := h' }) hk rfl (allBare_setGen gd.bare rfl)) q
  intro m
  induction m with
  | zero =>
    intro s hg hl ⟨gs, hgs, hgo⟩
    refine codeAny_builtin PySem.F.entry_any_loop ?_
    rw [Around.under_plainId PySem.F.plain_any_loop _]
    show wpAny _ A.in1 (pyNext (.ref a) >>= _) _ _ s
    refine wpAny_bind (next_genG (A := A.in1) (F := fun _ s₀ s1 => ∃ H' ys, GD P w outer H sc ex [] H' s1 ∧ (∀ b ∈ ([] : List Addr), ∀ o, s₀.heap.get? b = some o → s1.heap.get? b = some o) ∧ rcA ys s1.heap ∧ Qe ys H') (Er := fun _ _ => False) hh hl hd hg hgs hgo (fun v s₁ gs' hbare hv => ?_) (fun s₁ hp h' hk => ?_) fun e s₁ he => False.elim he)
    · obtain ⟨ys, x, H', rv, gd, hl1, hg1, _, _, b, eb, hk⟩ := hv
      subst eb
      obtain rfl : v = Value.bool b := rv
      refine wpAny_bind (wpAny_holding (wpAny_truthy_bool ?_))
      refine wpAny_bind (wpAny_letGo ?_)
      cases b with
      | true =>
        simp only [if_true]
        refine wpAny_bind (wpAny_rule (wpAny_pure ?_))
        exact hyes _ H' (gd.more (s2 := s₁.setGen g gs') (fun _ _ z => z) rfl (allBare_setGen gd.bare hbare)) hk
      | false =>
        exact False.elim ((show ∀ s', Slp [] s₁ s' → rcA (ys ++ [.bl false]) s'.heap → False from hk) s₁ ⟨rfl, gd.bare, fun _ _ _ z => z, fun b hb => absurd hb (by simp)⟩ trivial)
    · exact wpAny_bind (wpAny_rule (wpAny_pure (fin hp hk)))
  | succ m ih =>
    intro s hg hl ⟨gs, hgs, hgo⟩
    have hgl : g < s.gens.size := (Array.getElem?_eq_some_iff.mp hgs).1
    refine codeAny_builtin PySem.F.entry_any_loop ?_
    rw [Around.under_plainId PySem.F.plain_any_loop _]
    show wpAny _ A.in1 (pyNext (.ref a) >>= _) _ _ s
    refine wpAny_bind (wpAny_gsz (n := g + 1) hgl (next_genG (A := A.in1) (F := fun _ s₀ s1 => ∃ H' ys, GD P w outer H sc ex [] H' s1 ∧ (∀ b ∈ ([] : List Addr), ∀ o, s₀.heap.get? b = some o → s1.heap.get? b = some o) ∧ rcA ys s1.heap ∧ Qe ys H') (Er := fun _ _ => False) hh hl hd hg hgs hgo (fun v s₁ gs' hbare hv => ?_) (fun s₁ hp h' hk => ?_) fun e s₁ he => False.elim he))
    · intro hsz
      obtain ⟨ys, x, H', rv, gd, hl1, hg1, _, _, b, eb, hk⟩ := hv
      subst eb
      obtain rfl : v = Value.bool b := rv
      have gd' : GD P w outer H sc ex [] H' (s₁.setGen g gs') := gd.more (fun _ _ z => z) rfl (allBare_setGen gd.bare hbare)
      refine wpAny_bind (wpAny_holding (wpAny_truthy_bool ?_))
      refine wpAny_bind (wpAny_letGo ?_)
      cases b with
      | true =>
        simp only [if_true]
        refine wpAny_bind (wpAny_rule (wpAny_pure ?_))
        exact hyes _ H' gd' hk
      | false =>
        simp only [Bool.false_eq_true, if_false]
        have hsz1 : g < s₁.gens.size := by
          have q : (s₁.setGen g gs').gens.size = s₁.gens.size := setGen_size _ _ _
          have hsz' : g + 1 ≤ (s₁.setGen g gs').gens.size := hsz
          omega
        refine wpAny_pure ⟨plainId_quiet PySem.F.plain_any_loop _, ih (s₁.setGen g gs') hg1 hl1 ⟨gs', setGen_at hsz1, ?_⟩⟩
        exact (show ∀ s', Slp [] s₁ s' → rcA (ys ++ [.bl false]) s'.heap → gs'.Goes _ _ _ _ m (.send .none) s' from hk) _ ⟨rfl, allBare_setGen (allBare_setGen gd.bare hbare) rfl, fun _ _ _ z => z, fun b hb => absurd hb (by simp)⟩ trivial
    · intro hsz
      exact wpAny_bind (wpAny_rule (wpAny_pure (fin hp hk)))
theorem call_anyG {k : Nat} {u : Value} {s : Shared} {E : Value → Shared → Prop} {Q : Value → Shared → Prop} (hr : Room (k + 6) A) (hfr : A.frames = some outer) (h : GM P w k outer H sc ex (cnA Qt) Qe u s)
    (hyes : ∀ s' H', GD P w outer H sc ex [] H' s' → Qt H' → Q (.bool true) s') (hno : ∀ s' H' ys, GD P w outer H sc ex [] H' s' → Qe ys H' → Q (.bool false) s') :
    wpAny (model P w) A (call (.builtin "any") [u]) Q E s := by
  obtain ⟨a, gn, c, n, rfl, ha1, ha2, hg, hgs, hos, hb, hl, hkp, wake⟩ := h
  refine call_function_tree PySem.F.kind_any PySem.F.plain_any PySem.F.entry_any (PySem.F.args_any1 _) ?_
  unfold Builtin.«any»
  refine wpAny_bind (m := oneArg "any" _) (wpAny_pure ?_)
  refine wpAny_bind (wpAny_pyIter_gen hg ?_)
  refine wpAny_pure ⟨plainId_quiet PySem.F.plain_any_loop _, ?_⟩
  refine drainA (P := P) (w := w) (outer := outer) (H := H) (sc := sc) (ex := ex) (Qe := Qe) (Qt := Qt) (g := gn) hr.hd hr.depth hyes hno n s hg hl ⟨_, hgs, rfl, ?_⟩
  refine wake _ [] rcA _ ⟨hr.hd, ?_, ?_⟩ hfr (fun b hb => absurd hb (by simp)) (fun _ _ z => z) hos (allBare_setGen hb rfl) (fun _ _ _ _ _ => trivial) trivial
  · have := hr.dp
    show A.depth + 3 * k + 5 < _
    omega
  · have := hr.un
    show A.units + 1 + 1 + 16 * k + 200 < _
    omega
end

/-! ### sum -/
def intOf : V → Int
  | .int i => i
  | _ => 0
def sumV (ys : List V) : Int := (ys.map intOf).sum
theorem sumV_snoc (ys : List V) (k : Int) : sumV (ys ++ [.int k]) = sumV ys + k := by
  unfold sumV
  rw [List.map_append, List.sum_append]
  show _ + (k + 0) = _
  omega
def cnS : CnT := fun ys y _ p => ∃ i, y = .int i ∧ (InLong i ∧ InLong (sumV ys + i)) ∧ p
theorem cnS_mono (ys : List V) (y : V) (H : Hp) (p q : Prop) (h : p → q) (c : cnS ys y H p) : cnS ys y H q := by
  obtain ⟨i, e, r, c⟩ := c
  exact ⟨i, e, r, h c⟩
def rcS (S : Addr) : List V → Heap → Prop := fun ys h => ∃ t c, h.get? S = some { cls := .type "list", dict := none, data := .seq #[.int (sumV ys) t] c, slots := #[] }
theorem rcS_keep {S : Addr} (ys : List V) (h h' : Heap) (r : rcS S ys h) (k : ∀ b ∈ [S], ∀ o, h.get? b = some o → h'.get? b = some o) : rcS S ys h' := by
  obtain ⟨t, c, e⟩ := r
  exact ⟨t, c, k S List.mem_cons_self _ e⟩
section
variable {P : Program} {w : World} {outer : List Env} {H : Hp} {sc : Shared} {ex : List Addr} {Qe : List V → Hp → Prop} {A : Around} {R : Result → Shared → Prop} {S a : Addr} {g : Nat}
theorem drainS (hh : A.handled = none) (hd : A.depth < recursionLimit) (hSa : S ≠ a) (hSc : S ≠ cStatics)
    (hend : ∀ s' H' ys t, GD P w outer H sc ex [S] H' s' → Qe ys H' → R (.ok (.ret (.int (sumV ys) t))) s') :
    ∀ (m : Nat) (s : Shared), s.heap.IsGen a g → s.heap.NoLimit → (∃ ys, rcS S ys s.heap) →
      (∃ gs, s.gens[g]? = some gs ∧ gs.Goes (model P w) A.in1.in1 (RG P w outer H sc ex [S] (rcS S) Qe) (YG P w outer H sc ex [S] a g (rcS S) cnS) m (.send .none) (s.setGen g .running)) →
      codeAny (model P w) A (.builtin "sum.loop" ⟨[.ref a, .ref S, rawInt 0, rawInt 0], []⟩) R s := by
  have fin : ∀ {s s₁ : Shared} {h' : Heap} {ys0 : List V} {t : Tok} {c : Nat}, s.heap.get? S = some { cls := .type "list", dict := none, data := .seq #[.int (sumV ys0) t] c, slots := #[] } →
      (∃ H' ys, GD P w outer H sc ex [S] H' s₁ ∧ (∀ b ∈ [S], ∀ o, (s.setGen g .running).heap.get? b = some o → s₁.heap.get? b = some o) ∧ rcS S ys s₁.heap ∧ Qe ys H') → (∀ b o, s₁.heap.get? b = some o → h'.get? b = some o) →
      R (.ok (.ret (.int (sumV ys0) t))) { s₁.setGen g .finished with heap := h' } := fun {s s₁ h' ys0 t c} eS hp hk => by
    obtain ⟨H', ys, gd, hS, ⟨t', c', e⟩, q⟩ := hp
    have e2 := hS S List.mem_cons_self _ eS
    rw [e] at e2
    have e3 : sumV ys = sumV ys0 := by
      simp only [Option.some.injEq, Obj.mk.injEq, Data.seq.injEq, true_and, and_true] at e2
      have e4 := e2.1
      simp at e4
      exact e4.1
    have r := hend _ H' ys t (gd.more (s2 := { s₁.setGen g .finished with heap := h' }) hk rfl (allBare_setGen gd.bare rfl)) q
    rw [e3] at r
    exact r
  intro m
  induction m with
  | zero =>
    intro s hg hl ⟨ys0, t0, c0, eS⟩ ⟨gs, hgs, hgo⟩
    refine codeAny_builtin PySem.F.entry_sum_loop ?_
    rw [Around.under_plainId PySem.F.plain_sum_loop _]
    show wpAny _ A.in1 (seqItems? (.ref S) >>= _) _ _ s
    refine wpAny_bind (wpAny_seqItems eS rfl ?_)
    show wpAny _ A.in1 (tryCatch (pyNext (.ref a)) _ >>= _) _ _ s
    refine wpAny_bind (wpAny_tryCatch (next_genG (A := A.in1) (F := fun _ s₀ s1 => ∃ H' ys, GD P w outer H sc ex [S] H' s1 ∧ (∀ b ∈ [S], ∀ o, s₀.heap.get? b = some o → s1.heap.get? b = some o) ∧ rcS S ys s1.heap ∧ Qe ys H') (Er := fun _ _ => False) hh hl hd hg hgs hgo (fun v s₁ gs' hbare hv => ?_) (fun s₁ hp h' hk => ?_) fun e s₁ he => False.elim he))
    · exfalso
      obtain ⟨ys, x, H', rv, gd, hl1, hg1, _, ⟨t, c, e⟩, i, ex, _, hk⟩ := hv
      subst ex
      refine (show ∀ s', Slp [S] s₁ s' → rcS S (ys ++ [.int i]) s'.heap → False from hk) { s₁ with heap := s₁.heap.update S (Obj.mapSeq (fun _ => #[.int (sumV ys + i) t])) } ⟨rfl, gd.bare, fun b o hb e' => ?_, fun b hb => ?_⟩ ⟨t, _, (Heap.get?_update_self _ e rfl).trans (by rw [sumV_snoc]; rfl)⟩
      · exact (Heap.get?_update_other _ _ (fun z : S = b => hb (by rw [z]; exact List.mem_cons_self))).trans e'
      · have hb : b = S := by simpa using hb
        rw [hb]
        exact ⟨_, Heap.get?_update_self _ e rfl, fun z q => by cases q⟩
    · exact wpAny_pure (fin eS hp hk)
  | succ m ih =>
    intro s hg hl ⟨ys0, t0, c0, eS⟩ ⟨gs, hgs, hgo⟩
    have hgl : g < s.gens.size := (Array.getElem?_eq_some_iff.mp hgs).1
    refine codeAny_builtin PySem.F.entry_sum_loop ?_
    rw [Around.under_plainId PySem.F.plain_sum_loop _]
    show wpAny _ A.in1 (seqItems? (.ref S) >>= _) _ _ s
    refine wpAny_bind (wpAny_seqItems eS rfl ?_)
    show wpAny _ A.in1 (tryCatch (pyNext (.ref a)) _ >>= _) _ _ s
    refine wpAny_bind (wpAny_tryCatch (wpAny_gsz (n := g + 1) hgl (next_genG (A := A.in1) (F := fun _ s₀ s1 => ∃ H' ys, GD P w outer H sc ex [S] H' s1 ∧ (∀ b ∈ [S], ∀ o, s₀.heap.get? b = some o → s1.heap.get? b = some o) ∧ rcS S ys s1.heap ∧ Qe ys H') (Er := fun _ _ => False) hh hl hd hg hgs hgo (fun v s₁ gs' hbare hv => ?_) (fun s₁ hp h' hk => ?_) fun e s₁ he => False.elim he)))
    · intro hsz
      obtain ⟨ys, x, H', rv, gd, hl1, hg1, hS, ⟨t, c, e⟩, i, ex, ⟨⟨f1, f2⟩, f3, f4⟩, hk⟩ := hv
      subst ex
      obtain ⟨ti, rfl⟩ := rv
      have e2 := hS S List.mem_cons_self _ eS
      rw [e] at e2
      have e3 : sumV ys = sumV ys0 := by
        simp only [Option.some.injEq, Obj.mk.injEq, Data.seq.injEq, true_and, and_true] at e2
        have e4 := e2.1
        simp at e4
        exact e4.1
      rw [e3] at f3 f4
      have hc : ((decide (-(2 ^ 63) ≤ i) && decide (i < 2 ^ 63)) && (decide (-(2 ^ 63) ≤ sumV ys0 + i) && decide (sumV ys0 + i < 2 ^ 63))) = true := by
        simp only [Bool.and_eq_true, decide_eq_true_eq]
        exact ⟨⟨f1, f2⟩, f3, f4⟩
      have hsz1 : g < s₁.gens.size := by
        have q : (s₁.setGen g gs').gens.size = s₁.gens.size := setGen_size _ _ _
        have hsz' : g + 1 ≤ (s₁.setGen g gs').gens.size := hsz
        omega
      show wpAny _ A.in1 (if (_ : Bool) = true then (mkInt (sumV ys0 + i) >>= _) else _) _ _ _
      split
      · refine wpAny_bind (wpAny_mkInt ?_)
        show wpAny _ A.in1 (updateSeq S (fun _ => #[.int (sumV ys0 + i) s₁.toks]) >>= _) _ _ _
        refine wpAny_bind ?_
        have keep3 : ∀ (tk : Tok) b o, b ≠ S → s₁.heap.get? b = some o → (s₁.heap.update S (Obj.mapSeq (fun _ => #[.int (sumV ys0 + i) tk]))).get? b = some o := fun tk b o hbS e => (Heap.get?_update_other _ _ (Ne.symm hbS)).trans e
        have eN : ∀ tk : Tok, ∃ c', (s₁.heap.update S (Obj.mapSeq (fun _ => #[.int (sumV ys0 + i) tk]))).get? S = some { cls := .type "list", dict := none, data := .seq #[.int (sumV (ys ++ [.int i])) tk] c', slots := #[] } := fun tk => by
          rw [sumV_snoc, e3]
          exact ⟨_, Heap.get?_update_self _ e rfl⟩
        obtain ⟨cN, eN'⟩ := eN s₁.toks
        refine wpAny_updateSeq e rfl (wpAny_pure ⟨plainId_quiet PySem.F.plain_sum_loop _, ih _ ?_ ?_ ⟨ys ++ [V.int i], s₁.toks, cN, eN'⟩ ⟨gs', setGen_at (s := s₁) hsz1, ?_⟩⟩)
        · obtain ⟨o, nm, qn, ho, r⟩ := hg1
          exact ⟨o, nm, qn, keep3 _ a o (Ne.symm hSa) ho, r⟩
        · obtain ⟨mc, hns, hnn⟩ := hl1
          exact ⟨mc, hns.at' fun o e => keep3 _ _ o (Ne.symm hSc) e, hnn⟩
        · refine (show ∀ s', Slp [S] s₁ s' → rcS S (ys ++ [.int i]) s'.heap → gs'.Goes _ _ _ _ m (.send .none) s' from hk) _ ⟨rfl, allBare_setGen (s := { s₁.setGen g gs' with heap := _, toks := _ }) (allBare_setGen gd.bare hbare) rfl, fun b o hb e' => keep3 _ b o (fun z => hb (by rw [z]; exact List.mem_cons_self)) e', fun b hb => ?_⟩ ⟨s₁.toks, cN, eN'⟩
          have hb : b = S := by simpa using hb
          rw [hb]
          exact ⟨_, eN', fun z q => by cases q⟩
      · rename_i hneg
        exact absurd hc hneg
    · intro hsz
      exact wpAny_pure (fin eS hp hk)
theorem call_sumG {k : Nat} {u : Value} {s : Shared} {E : Value → Shared → Prop} {Q : Value → Shared → Prop} (hr : Room (k + 6) A) (hfr : A.frames = some outer) (h : GM P w k outer H sc ex cnS Qe u s)
    (hQ : ∀ s' H' ys t, GD P w outer H sc ex [] H' s' → Qe ys H' → Q (.int (sumV ys) t) s') :
    wpAny (model P w) A (call (.builtin "sum") [u]) Q E s := by
  obtain ⟨a, gn, c, n, rfl, ha1, ha2, hg, hgs, hos, hb, hl, hkp, wake⟩ := h
  have hSa : s.heap.objs.size ≠ a := Nat.ne_of_gt ha2
  have hcl : cStatics < s.heap.objs.size := let ⟨_, hn, _⟩ := hl; hn.lt
  have hSc : s.heap.objs.size ≠ cStatics := Nat.ne_of_gt hcl
  refine call_function_tree PySem.F.kind_sum PySem.F.plain_sum PySem.F.entry_sum (PySem.F.args_sum1 _) ?_
  unfold Builtin.«sum»
  simp only [List.length_cons, List.length_nil]
  rw [if_neg (by decide)]
  refine wpAny_bind (wpAny_of_eq (show Builtin.Builtins.bindParams "sum" ["start"] 0 { } = pure [none] from rfl) ?_)
  refine wpAny_bind (wpAny_pyIter_gen hg ?_)
  refine wpAny_bind (wpAny_mkInt ?_)
  refine wpAny_bind (wpAny_pure ?_)
  simp only [List.forIn_cons, List.forIn_nil]
  refine wpAny_bind (wpAny_bind (wpAny_bind (wpAny_isInstance (T := "int") (b := false) (typeIs_int _ _ _) PySem.sub_int_str ?_)))
  simp only [Bool.false_eq_true, if_false]
  refine wpAny_pure (wpAny_bind (wpAny_bind (wpAny_isInstance (T := "int") (b := false) (typeIs_int _ _ _) PySem.sub_int_bytes ?_)))
  simp only [Bool.false_eq_true, if_false]
  refine wpAny_pure (wpAny_bind (wpAny_bind (wpAny_isInstance (T := "int") (b := false) (typeIs_int _ _ _) PySem.sub_int_bytearray ?_)))
  simp only [Bool.false_eq_true, if_false]
  refine wpAny_pure (wpAny_pure ?_)
  refine wpAny_bind (wpAny_newObj_type ?_)
  have kp : ∀ b o, s.heap.get? b = some o → (s.heap.push { cls := .type "list", data := .seq #[.int 0 s.toks] }).get? b = some o := fun b o e => Heap.get?_push_of_some _ e
  have hS : (s.heap.push { cls := .type "list", data := .seq #[.int 0 s.toks] }).get? s.heap.objs.size = some { cls := .type "list", data := .seq #[.int 0 s.toks] } := Heap.get?_push_size _ rfl
  refine wpAny_pure ⟨plainId_quiet PySem.F.plain_sum_loop _, ?_⟩
  refine drainS (P := P) (w := w) (outer := outer) (H := H) (sc := sc) (ex := ex) (Qe := Qe) (S := s.heap.objs.size) (g := gn) hr.hd hr.depth hSa hSc (fun s' H' ys t gd q => hQ s' H' ys t ⟨gd.os, gd.bare, gd.un, gd.hok, fun b hb => absurd hb (by simp)⟩ q) n _ (hg.keeps kp) (hl.keeps kp) ⟨[], s.toks, _, hS⟩ ⟨_, hgs, rfl, ?_⟩
  refine wake _ [s.heap.objs.size] (rcS s.heap.objs.size) _ ⟨hr.hd, ?_, ?_⟩ hfr (fun b hb => ?_) kp hos (allBare_setGen (s := { s with heap := _, toks := _ }) hb rfl) (fun ys h h' => rcS_keep ys h h') ⟨s.toks, _, hS⟩
  · have := hr.dp
    show A.depth + 3 * k + 5 < _
    omega
  · have := hr.un
    show A.units + 1 + 1 + 16 * k + 200 < _
    omega
  · have hb : b = s.heap.objs.size := by simpa using hb
    rw [hb]
    exact ⟨Nat.le_refl _, _, hS, fun v q => by cases q⟩
end

/-! ### the expressions -/
def tTupG (P : Addr) (wi : TI) (g : TG) (te : TE) (vs : List Nat) : TE := fun σ H Q => tGx P wi g te vs cnL (fun ys H => ys.length ≤ sizeLine ∧ ∀ p, H p = none → Q (.ref p) (upd H p (.tup ys))) σ H
def tAnyG (P : Addr) (wi : TI) (g : TG) (te : TE) (vs : List Nat) : TE := fun σ H Q => tGx P wi g te vs (cnA fun H => Q (.bl true) H) (fun _ H => Q (.bl false) H) σ H
def tSumG (P : Addr) (wi : TI) (g : TG) (te : TE) (vs : List Nat) : TE := fun σ H Q => tGx P wi g te vs cnS (fun ys H => Q (.int (sumV ys)) H) σ H
section
variable {X : Cx} {k : Nat} {c P : Addr} {elt tg iter : Expr} {gpos p pos : Pos} {scope : Scope} {own : List (Str × Nat)} {wi : TI} {g : TG} {te : TE}
theorem pe_tupG (hr : Room (k + 6) X.A) (hgl : Gl X "tuple") (hm : X.mg "tuple" = none) (hv : bootBuiltins "tuple" = some (.type "tuple")) (hN : X.N.Nodup) (TB : GxR.TabB X.base X.mg c P) (hcode : X.env.code = .ref c) (ok : GeOk X.N X.env.scope scope own) (hi : PI X tg iter wi)
    (hg : ∀ (A : Around) (s : Shared) (H : Hp) (code : Value) (fp : List Addr), PG (gCx X A s H scope code fp) tg g) (he : ∀ (A : Around) (s : Shared) (H : Hp) (code : Value) (fp : List Addr), Room k A → PE (gCx X A s H scope code fp) elt te)
    (hs : ∀ v, genFold iter X.env v = pure v := by intro _; rfl)
    (hst : starEach [.GeneratorExp elt [⟨tg, iter, [], 0⟩] scope gpos] X.env = (false, eval (.GeneratorExp elt [⟨tg, iter, [], 0⟩] scope gpos) X.env) :: starEach [] X.env := by rfl) :
    PE X (.Call (.Name "tuple" p) [.GeneratorExp elt [⟨tg, iter, [], 0⟩] scope gpos] [] pos) (tTupG P wi g te (own.map (·.2))) := by
  refine ⟨fun pins s σ H Q I h => ?_⟩
  refine wpAny_Call_Name_kw (ld_blt I hgl hm hv ?_)
  refine PyProof.Rows.callWith_type1 ?_ hst rfl
  rw [hst]
  show wpAny _ _ (spliced ((false, eval (.GeneratorExp elt [⟨tg, iter, [], 0⟩] scope gpos) X.env) :: backTo pos (starEach [] X.env))) _ _ s
  refine Calls.spliced_cons (thn (gen_made (hr.mono (by omega)) hN TB hcode ok hi hg he cnL_mono hs I h) fun u s1 hh => ?_)
  obtain ⟨H1, sc, ex, I1, hex, hG⟩ := hh
  refine Calls.spliced_nil ?_
  refine call_tupleG hr I1.ok.frames hG (fun s' acc H' ys hvs hl gd q hsz => ?_) fun ys H' q => q.1
  have I2 : Inv X pins σ H' s' := I1.call' gd.os gd.un gd.hok gd.bare hex
  have fr : H' s'.heap.objs.size = none := I2.hok.fresh (Nat.le_refl _)
  refine ⟨.ref s'.heap.objs.size, upd H' s'.heap.objs.size (.tup ys), ?_, rfl, q.2 _ fr⟩
  exact I2.laid (t' := s'.toks) (fun b o e => Heap.get?_push_of_some _ e) (Nat.le_refl _) ⟨hl, acc, hvs, IsTup.new s'.heap acc.toArray⟩
theorem pe_anyG (hr : Room (k + 6) X.A) (hgl : Gl X "any") (hm : X.mg "any" = none) (hN : X.N.Nodup) (TB : GxR.TabB X.base X.mg c P) (hcode : X.env.code = .ref c) (ok : GeOk X.N X.env.scope scope own) (hi : PI X tg iter wi)
    (hg : ∀ (A : Around) (s : Shared) (H : Hp) (code : Value) (fp : List Addr), PG (gCx X A s H scope code fp) tg g) (he : ∀ (A : Around) (s : Shared) (H : Hp) (code : Value) (fp : List Addr), Room k A → PE (gCx X A s H scope code fp) elt te)
    (hs : ∀ v, genFold iter X.env v = pure v := by intro _; rfl)
    (hst : starEach [.GeneratorExp elt [⟨tg, iter, [], 0⟩] scope gpos] X.env = (false, eval (.GeneratorExp elt [⟨tg, iter, [], 0⟩] scope gpos) X.env) :: starEach [] X.env := by rfl) :
    PE X (.Call (.Name "any" p) [.GeneratorExp elt [⟨tg, iter, [], 0⟩] scope gpos] [] pos) (tAnyG P wi g te (own.map (·.2))) := by
  refine ⟨fun pins s σ H Q I h => ?_⟩
  refine wpAny_Call_Name_kw (ld_blt I hgl hm boot_any ?_)
  refine PyProof.Rows.callWith_builtin1 ?_ hst (by rfl)
  rw [hst]
  show wpAny _ _ (spliced ((false, eval (.GeneratorExp elt [⟨tg, iter, [], 0⟩] scope gpos) X.env) :: backTo pos (starEach [] X.env))) _ _ s
  refine Calls.spliced_cons (thn (gen_made (hr.mono (by omega)) hN TB hcode ok hi hg he cnA_mono hs I h) fun u s1 hh => ?_)
  obtain ⟨H1, sc, ex, I1, hex, hG⟩ := hh
  refine Calls.spliced_nil ?_
  refine call_anyG hr I1.ok.frames hG (fun s' H' gd q => ?_) fun s' H' ys gd q => ?_
  · exact ⟨.bl true, H', I1.call' gd.os gd.un gd.hok gd.bare hex, rfl, q⟩
  · exact ⟨.bl false, H', I1.call' gd.os gd.un gd.hok gd.bare hex, rfl, q⟩
theorem pe_sumG (hr : Room (k + 6) X.A) (hgl : Gl X "sum") (hm : X.mg "sum" = none) (hv : bootBuiltins "sum" = some (.builtin "sum")) (hN : X.N.Nodup) (TB : GxR.TabB X.base X.mg c P) (hcode : X.env.code = .ref c) (ok : GeOk X.N X.env.scope scope own) (hi : PI X tg iter wi)
    (hg : ∀ (A : Around) (s : Shared) (H : Hp) (code : Value) (fp : List Addr), PG (gCx X A s H scope code fp) tg g) (he : ∀ (A : Around) (s : Shared) (H : Hp) (code : Value) (fp : List Addr), Room k A → PE (gCx X A s H scope code fp) elt te)
    (hs : ∀ v, genFold iter X.env v = pure v := by intro _; rfl)
    (hst : starEach [.GeneratorExp elt [⟨tg, iter, [], 0⟩] scope gpos] X.env = (false, eval (.GeneratorExp elt [⟨tg, iter, [], 0⟩] scope gpos) X.env) :: starEach [] X.env := by rfl) :
    PE X (.Call (.Name "sum" p) [.GeneratorExp elt [⟨tg, iter, [], 0⟩] scope gpos] [] pos) (tSumG P wi g te (own.map (·.2))) := by
  refine ⟨fun pins s σ H Q I h => ?_⟩
  refine wpAny_Call_Name_kw (ld_blt I hgl hm hv ?_)
  refine PyProof.Rows.callWith_builtin1 ?_ hst (by rfl)
  rw [hst]
  show wpAny _ _ (spliced ((false, eval (.GeneratorExp elt [⟨tg, iter, [], 0⟩] scope gpos) X.env) :: backTo pos (starEach [] X.env))) _ _ s
  refine Calls.spliced_cons (thn (gen_made (hr.mono (by omega)) hN TB hcode ok hi hg he cnS_mono hs I h) fun u s1 hh => ?_)
  obtain ⟨H1, sc, ex, I1, hex, hG⟩ := hh
  refine Calls.spliced_nil ?_
  refine call_sumG hr I1.ok.frames hG fun s' H' ys t gd q => ?_
  exact ⟨.int (sumV ys), H', I1.call' gd.os gd.un gd.hok gd.bare hex, ⟨t, rfl⟩, q⟩
end
end MG

set_option Elab.async false
set_option linter.all false
set_option maxRecDepth 100000
set_option maxHeartbeats 2000000
/-! Lambdas without parameters as values: made, kept in a list, called by a def in a comprehension over that list. -/
namespace ML
open PySem PySem.Spec PyProof.Rows L2 LamX

structure LamD where
  params : Arguments
  body : Expr
  scope : Scope
/-- at f the lambda L, its code at c', made where the cells are these -/
def LamO (cells : List (Str × Addr)) (q : Str) (L : LamD) (c' f : Addr) : HO :=
  .ext fun h => ∃ pm ctv, h.get? f = some (PySem.W.kla_obj "<lambda>" q L.params L.body L.scope (cloFrom cells L.scope.names []) pm c' ctv)
theorem lamO_ne {cells : List (Str × Addr)} {q : Str} {L : LamD} {c' f : Addr} (ps : Array Value) : LamO cells q L c' f ≠ .tbl ps := fun z => by
  unfold LamO at z
  cases z
theorem lamO_ok {P : Program} {w : World} {H : Hp} {h : Heap} {cells : List (Str × Addr)} {q : Str} {L : LamD} {c' f : Addr} {pm ctv : Value} (e : h.get? f = some (PySem.W.kla_obj "<lambda>" q L.params L.body L.scope (cloFrom cells L.scope.names []) pm c' ctv)) : ObjOk P w H h f (LamO cells q L c' f) :=
  ⟨⟨pm, ctv, e⟩, ⟨_, e⟩, fun h1 h2 ⟨pm, ctv, z⟩ st => ⟨pm, ctv, st _ z⟩⟩

section
variable {X : Cx} {pins : List (Addr × Obj)} {σ : L2.St} {H : Hp} {s : Shared}
/-- a lambda as a value -/
def tLamV (P : Addr) (T : List (Addr × Str)) (cells : List (Str × Addr)) (q : Str) (L : LamD) : TE := fun _ H Q => Tabs T H ∧ ∀ f c' H1, ExtN H H1 → (∀ b o, H b = some o → b ≠ P → H1 b = some o) → Tabs T H1 → H f = none → H1 f = some (LamO cells q L c' f) → H1 c' = some (CodeO c' q) → Q (.ref f) H1
theorem pe_lamV {T : List (Addr × Str)} {c P : Addr} {params : Arguments} {body : Expr} {scope : Scope} {pos : Pos} (TB : TabB X.base X.mg c P) (hcode : X.env.code = .ref c) (hm : (P, X.env.qual ++ "<lambda>") ∈ T) (hu : ∀ p ∈ T, p.1 = P → p.2 = X.env.qual ++ "<lambda>")
    (hdef : defaultsOf params X.env = ([], []) := by rfl) (L : LamS X.env.scope scope := by exact lamS_by (by decide +kernel)) :
    PE X (.Lambda params body scope pos) (tLamV P T X.env.cells (X.env.qual ++ "<lambda>") ⟨params, body, scope⟩) := by
  refine ⟨fun pins s σ H Q I h => ?_⟩
  obtain ⟨hT, h⟩ := h
  obtain ⟨ps, hP, ht, ha⟩ := hT _ hm
  refine PySem.W.kla_eval hdef ?_
  have bP : s.heap.BuiltinsAt X.mg P := TB.bm.keeps I.bk
  have hP' : s.heap.get? P = some { cls := .none, data := .fields ps } := I.hok P _ hP
  cases hc : codeAmong pos ps.toList with
  | none =>
    refine PySem.W.kla_makeFunction (mg := X.mg) (c := c) (P := P) (ps := ps) (closure_ok (L.has I.ok)) I.ok.glob (I.mod.glob.keeps I.bk) hcode (TB.code.keeps I.bk) hP' ht hc TB.gP bP fun c' ctv h' tk hx hge hlt hrec htb => ?_
    obtain ⟨c2, oc, vs, t, e2, hoc, hd, hv⟩ := hrec
    cases e2
    have nC : H c' = none := I.hok.fresh hge
    have I1 := inv_table (t' := tk) (more := #[rawInt pos.line, rawInt pos.col, .ref c']) (h' := h') I hP (fun b o hb e => hx b o hb e) htb hge ⟨oc, vs, t, hoc, hd, hv⟩
    have hE : ExtN H (upd (upd H P (.tbl (ps ++ #[rawInt pos.line, rawInt pos.col, .ref c']))) c' (CodeO c' (X.env.qual ++ "<lambda>"))) := fun b o e n => by
      rw [upd_ne (ne_of_none e nC), upd_ne (fun z => n ps (Option.some.inj (e.symm.trans (by rw [z]; exact hP))))]
      exact e
    generalize hH1 : upd (upd H P (.tbl (ps ++ #[rawInt pos.line, rawInt pos.col, .ref c']))) c' (CodeO c' (X.env.qual ++ "<lambda>")) = H1 at I1 hE
    have T1 : Tabs T H1 := fun p hp => by
      rw [← hH1]
      by_cases hb : p.1 = P
      · rw [hu p hp hb, hb]
        have eL : (ps ++ #[rawInt pos.line, rawInt pos.col, .ref c']).toList = ps.toList ++ [rawInt pos.line, rawInt pos.col, .ref c'] := by simp
        refine ⟨_, by rw [upd_ne (ne_of_none hP nC), upd_same], by rw [eL]; exact PySem.TriplesOk_snoc _ _ _ _ ht, fun p' cv hcv => ?_⟩
        rw [eL] at hcv
        rcases among_app _ ht hcv with z | z
        · obtain ⟨c0, e1, e2⟩ := ha p' cv z
          exact ⟨c0, e1, by rw [hH1]; exact hE _ _ e2 codeO_ne⟩
        · exact ⟨c', z, upd_same⟩
      · obtain ⟨ps', a1, a2, a3⟩ := hT p hp
        refine ⟨ps', by rw [upd_ne (ne_of_none a1 nC), upd_ne hb]; exact a1, a2, fun p' cv hcv => ?_⟩
        obtain ⟨c0, e1, e2⟩ := a3 p' cv hcv
        exact ⟨c0, e1, by rw [hH1]; exact hE _ _ e2 codeO_ne⟩
    have eC : H1 c' = some (CodeO c' (X.env.qual ++ "<lambda>")) := by
      rw [← hH1]
      exact upd_same
    have fr : H1 h'.objs.size = none := I1.hok.fresh (Nat.le_refl _)
    have hsz : s.heap.objs.size ≤ h'.objs.size := Nat.le_trans hge (Nat.le_of_lt hlt)
    have I2 := I1.laid (h' := h'.push (PySem.W.kla_obj "<lambda>" (X.env.qual ++ "<lambda>") params body scope (cloFrom X.env.cells scope.names []) ((X.mg "__name__").getD .none) c' ctv)) (a := h'.objs.size) (o := LamO X.env.cells (X.env.qual ++ "<lambda>") ⟨params, body, scope⟩ c' h'.objs.size) (t' := tk) (fun b u e => Heap.get?_push_of_some _ e) (Nat.le_refl _) (lamO_ok (Heap.get?_push_size _ rfl))
    have ext : ∀ b o, H1 b = some o → upd H1 h'.objs.size (LamO X.env.cells (X.env.qual ++ "<lambda>") ⟨params, body, scope⟩ c' h'.objs.size) b = some o := fun b o e => by
      rw [upd_ne (ne_of_none e fr)]
      exact e
    exact ⟨.ref h'.objs.size, _, I2, rfl, h _ c' _ (hE.trans (.of ext)) (fun b o e n => ext b o (by rw [← hH1, upd_ne (ne_of_none e nC), upd_ne n]; exact e)) (T1.ext ext) (I.hok.fresh hsz) upd_same (ext _ _ eC)⟩
  | some cv =>
    obtain ⟨c', e, hco⟩ := ha pos cv hc
    subst e
    refine PySem.W.kla_makeFunctionHit (mg := X.mg) (c := c) (P := P) (ps := ps) (closure_ok (L.has I.ok)) I.ok.glob (I.mod.glob.keeps I.bk) hcode (TB.code.keeps I.bk) hP' ht hc bP fun ctv h' tk hx hsz => ?_
    have I1 : Inv X pins σ H { s with heap := h', toks := tk } := I.kept hx
    have fr : H h'.objs.size = none := I1.hok.fresh (Nat.le_refl _)
    have I2 := I1.laid (h' := h'.push (PySem.W.kla_obj "<lambda>" (X.env.qual ++ "<lambda>") params body scope (cloFrom X.env.cells scope.names []) ((X.mg "__name__").getD .none) c' ctv)) (a := h'.objs.size) (o := LamO X.env.cells (X.env.qual ++ "<lambda>") ⟨params, body, scope⟩ c' h'.objs.size) (t' := tk) (fun b u e => Heap.get?_push_of_some _ e) (Nat.le_refl _) (lamO_ok (Heap.get?_push_size _ rfl))
    have ext : ∀ b o, H b = some o → upd H h'.objs.size (LamO X.env.cells (X.env.qual ++ "<lambda>") ⟨params, body, scope⟩ c' h'.objs.size) b = some o := fun b o e => by
      rw [upd_ne (ne_of_none e fr)]
      exact e
    exact ⟨.ref h'.objs.size, _, I2, rfl, h _ c' _ (.of ext) (fun b o e _ => ext b o e) (hT.ext ext) fr upd_same (ext _ _ hco)⟩

/-! ### called, where its maker's state is known -/
theorem lam_start {HZ H3 : Hp} {s3 s1 : Shared} {A : Around} {outer : List Env} {E : XK} {scope : Scope} {f c' : Addr} {h₁ : Heap} {tk : Nat} {fs ex : List Addr} (I : Inv X pins σ H3 s3) (L : LamS X.env.scope scope) (e0 : Env0 X.prog X.w X.K X.mg X.base A outer s1 HZ) (hd : A.handled = none)
    (un : Un fs ex H3 HZ s3.heap s1.heap) (hex : ∀ b ∈ ex, ∀ x c, X.env.cells.lookup x = some c → c ≠ b) (hns : h₁.Ns s1.heap.objs.size fun y => ([] : List (Str × Value)).reverse.lookup y) (kp : ∀ b o, s1.heap.get? b = some o → h₁.get? b = some o) :
    Inv (lamCx X A outer s1 HZ E scope f c') [] σ HZ { s1 with heap := h₁, toks := tk } := by
  have hfree := L.has I.ok
  have cm : ∀ {y c}, (cloFrom X.env.cells scope.names []).lookup y = some c → X.env.cells.lookup y = some c := fun {y c} e => by
    rcases cloFrom_mem (PySem.mem_of_lookup e) with hm | ⟨q1, q2⟩
    · cases hm
    · obtain ⟨c1, hc⟩ := hfree _ q1 rfl
      have hc : X.env.cells.lookup y = some c1 := hc
      rw [q2, hc]
      rfl
  have look : ∀ {y}, scope.names.lookup y = some .free → ∃ c, (cloFrom X.env.cells scope.names []).lookup y = some c := fun {y} hl =>
    mem_lookup (cloFrom_has (cells := X.env.cells) (acc := []) (PySem.mem_of_lookup hl))
  have notEx : ∀ {y c}, X.env.cells.lookup y = some c → c ∉ ex := fun {y c} e hm => hex c hm y c e rfl
  have cellK : ∀ {y} {c : Addr} {v : Option Value}, X.env.cells.lookup y = some c → s3.heap.IsCell c v → h₁.IsCell c v := fun {y c v} e ⟨o, ho, hdt⟩ => by
    obtain ⟨sl, q⟩ := un.any ho (I.freeC y c e) (notEx e)
    exact ⟨_, kp _ _ q, hdt⟩
  have noA : ∀ b : Addr, b ∉ (lamCx X A outer s1 HZ E scope f c').ex := fun b z => absurd (show b ∈ ([] : List Addr) from z) (by simp)
  refine ⟨⟨e0.mod, L.kind, rfl, rfl, Nat.le_refl _, fun y z c e1 e2 => I.ok.inj y z c (cm e1) (cm e2), fun y hy => ?_, fun y c z _ => ?_, fun _ => hd, Around.frames_deeper e0.frames, .inr ⟨rfl, rfl⟩, fun b z => absurd z (noA b), e0.bs, e0.bsz, fun b _ _ => noA b,
      fun b z => absurd z (noA b), e0.funs, e0.frf⟩,
    rfl, e0.bare, Un.kept kp, ⟨_, hns, fun i y v e1 e2 e3 => ?_⟩, fun y c e => ?_, e0.hok.fresh (Nat.le_refl _), fun y c e => ?_, fun q hq => absurd (show q ∈ ([] : List (Addr × Obj)) ++ [] from hq) (by simp), e0.hok.kept kp, I.len⟩
  · have hy : scope.names.lookup y = some .cell ∨ scope.names.lookup y = some .free := hy
    rcases hy with hy | hy
    · exact absurd rfl (L.own _ (PySem.mem_of_lookup hy)).2
    · exact look hy
  · cases (show false = true from z)
  · have e3 : Vis scope y := e3
    rcases e3 with k | k | k
    · exact absurd rfl (L.own _ (PySem.mem_of_lookup k)).1
    · exact absurd rfl (L.own _ (PySem.mem_of_lookup k)).2
    · obtain ⟨m, hn, hl⟩ := I.loc
      have hvis : Vis X.env.scope y := (L.free _ (PySem.mem_of_lookup k) rfl).elim (fun k => .inr (.inl k)) (fun k => .inr (.inr k))
      obtain ⟨w', r, q⟩ := hl i y v e1 e2 hvis
      obtain ⟨c2, h2⟩ := look k
      refine ⟨w', r, .inr ⟨.inr k, c2, h2, ?_⟩⟩
      have c1 := cm h2
      rcases q with ⟨k', _⟩ | ⟨_, c3, e', z⟩
      · have k' : X.env.scope.names.lookup y = some .local := k'
        rcases L.free _ (PySem.mem_of_lookup k) rfl with k2 | k2
        · rw [show X.env.scope.names.lookup y = _ from k2] at k'
          cases k'
        · rw [show X.env.scope.names.lookup y = _ from k2] at k'
          cases k'
      · rw [c1] at e'
        cases e'
        exact cellK c1 z
  · obtain ⟨w', z⟩ := I.cell y c (cm e)
    exact ⟨w', cellK (cm e) z⟩
  · obtain ⟨v, o, ho, hdt⟩ := I.cell y c (cm e)
    exact un.free c o ho (I.freeC y c (cm e)) (notEx (cm e))

/-- what may be called so: the lambdas, each with the reading of its body -/
structure LamT (X : Cx) (k : Nat) (L : LamD) (t : XK → TE) : Prop where
  sc : LamS X.env.scope L.scope
  bind : ∀ (q : Str) (cl : List (Str × Addr)) (pm cv ctv : Value), bindArgs (PySem.W.kla_fn "<lambda>" q L.params L.body L.scope cl pm cv ctv) ⟨[], []⟩ = pure []
  body : ∀ (A : Around) (outer : List Env) (s : Shared) (H : Hp) (E : XK) (f c' : Addr), Room k (A.deeper (lamEnv X L.scope s.heap.objs.size f c')) → PE (lamCx X A outer s H E L.scope f c') L.body (t E)

/-- x(), in the def g that got the lambda: g entered at s; the maker X as it stood at s3 -/
theorem pe_actB {CXg : CXT} {Eg : XK} {Ng : List Str} {qg : Str} {sg : Scope} {g f c' : Addr} {cdg : Value} {L : LamD} {t : XK → TE} {k i : Nat} {a : Str} {pn : List (Addr × Obj)} {xe : Value → Shared → Prop} {W : WX} {E : XK} {p1 p2 : Pos} {A : Around} {st : List Env} {s3 s : Shared} {H3 H : Hp} {fs ex : List Addr}
    (I : Inv X pins σ H3 s3) (LT : LamT X k L t) (un : Un fs ex H3 H s3.heap s.heap) (hex : ∀ b ∈ ex, ∀ x c, X.env.cells.lookup x = some c → c ≠ b)
    (tk : Takes ((cxOf CXg X.prog X.w X.K X.mg X.base Ng qg sg g cdg A st s H Eg).tr pn xe) W) (hW : ∀ cls d σ' H', E cls d H' → W cls d σ' H') (hr : Room (k + 1) (A.deeper (envOfC qg sg s.heap.objs.size g cdg)))
    (hN : Ng[i]? = some a) (hv : Vis sg a) (hdb : (a == ("__debug__" : Str)) = false := by decide) (hcd : (a == ("__classdict__" : Str)) = false := by decide) :
    PE ((cxOf CXg X.prog X.w X.K X.mg X.base Ng qg sg g cdg A st s H Eg).tr pn xe) (.Call (.Name a p1) [] [] p2)
      (fun σZ HZ Q => σZ[i]? = some (some (.ref f)) ∧ HZ f = some (LamO X.env.cells (X.env.qual ++ "<lambda>") L c' f) ∧ HZ c' = some (CodeO c' (X.env.qual ++ "<lambda>")) ∧ t E σ HZ Q) := by
  refine ⟨fun pinsZ sZ σZ HZ Q IZ h => ?_⟩
  obtain ⟨hs, hf, hc, ht⟩ := h
  refine wpAny_Call_Name_kw (thn ((pe_var (pos := p1) (i := i) hN hv hdb hcd).run pinsZ sZ σZ HZ (fun v H1 => v = .ref f ∧ H1 = HZ) IZ ⟨.ref f, hs, rfl, rfl⟩) fun u s1 hh => ?_)
  obtain ⟨v, H1, I1, r1, ev, eH⟩ := hh
  subst ev
  rw [eH] at I1
  obtain rfl : u = Value.ref f := r1
  obtain ⟨⟨pm, ctv, of1⟩, _, _⟩ := I1.hok f _ hf
  refine PySem.W.callWith_F0 ⟨_, _, _, _, of1⟩ ?_
  have unZ : Un (fs ++ frs st) ex H3 HZ s3.heap s1.heap := (un.mono (fun b hb => List.mem_append_left _ hb) fun b hb => hb).trans ((show Un (frs st) [] H HZ s.heap s1.heap from I1.base).mono (fun b hb => List.mem_append_right _ hb) fun b hb => absurd hb (by simp))
  obtain ⟨⟨oc, vs, tt, hoc, hdc, hvc⟩, _, _⟩ := I1.hok c' _ hc
  have rc : codeAny (model X.prog X.w) (A.deeper (envOfC qg sg s.heap.objs.size g cdg)) (.call (.ref f) ⟨[], []⟩) (CR (L2.CX X.prog X.w) (envOfC qg sg s.heap.objs.size g cdg :: st) X.prog X.w HZ s1 Q E) s1 := by
    refine PySem.W.kla_callFunE hr.depth of1 rfl LT.sc.co LT.sc.gen rfl ⟨c', oc, vs, tt, rfl, hoc, hdc, hvc⟩ ?_
    rw [LT.bind]
    refine wpAny_pure (wpAny_newFunctionEnv (fun y hy => (LT.sc.own y hy).2) (fun y hy => absurd hy (by simp)) (fun h₁ hns hsb => ⟨I1.nolimit.fresh _ hsb, ?_⟩) LT.sc.kind)
    show codeAny _ _ (.expr L.body (lamEnv X L.scope s1.heap.objs.size f c')) _ _
    have kp : ∀ b o, s1.heap.get? b = some o → h₁.get? b = some o := fun b o e => hsb.extBut b o (Nat.ne_of_lt (Heap.lt_size e)) (Heap.get?_push_of_some _ e)
    have J : Inv (lamCx X (A.deeper (envOfC qg sg s.heap.objs.size g cdg)) (envOfC qg sg s.heap.objs.size g cdg :: st) s1 HZ E L.scope f c') [] σ HZ { s1 with heap := h₁, toks := s1.toks + ([] : List (Str × Value)).length } :=
      lam_start I LT.sc I1.env0 hr.hd unZ hex hns kp
    refine PySem.W.kla_codeExpr (wpAny_mono ((LT.body _ _ s1 HZ E f c' (hr.deeper _)).run [] _ _ HZ Q J ht) (fun v s' hq => ?_) fun e s' hq => hq)
    obtain ⟨w', H', J', rv, q⟩ := hq
    exact ⟨w', H', J'.os, J'.bare, J'.base, J'.hok, rv, q⟩
  have hx : Passes (L2.CX X.prog X.w) ((cxOf CXg X.prog X.w X.K X.mg X.base Ng qg sg g cdg A st s H Eg).tr pn xe) E := passes_call tk hW
  refine wpAny_call (codeAny_mono rc fun r s' hq => ?_)
  cases r with
  | error e => exact hx pinsZ σZ HZ s1 e s' I1 hq
  | ok fl =>
    cases fl with
    | ret u => exact I1.after hq
    | next => exact False.elim hq
    | brk => exact False.elim hq
    | cont => exact False.elim hq
end

section
variable {X : Cx}
/-- a list comprehension whose tests lean on the maker's own state -/
theorem pe_lcI {elt tg iter : Expr} {ifs : List Expr} {scope : Scope} {own : List (Str × Nat)} {pos : Pos} {wi : TI} {g : TG} {tt : TT} {te : TE} (hc : X.calm = true) (hN : X.N.Nodup) (hi : PI X tg iter wi) (ok : BlkOk X.N X.env.scope scope own)
    (hg : ∀ (s : Shared) (H : Hp) (C : Addr) (cl : List (Str × Addr)) (fp : List Addr), PG (X.blk s H scope (compEnvC scope cl C X.env) fp) tg g)
    (ht : ∀ (s : Shared) (H : Hp) (C : Addr) (cl : List (Str × Addr)) (fp : List Addr) (pins : List (Addr × Obj)) (σ : L2.St), Inv X pins σ H s → (∀ b ∈ fp, ∀ x c, X.env.cells.lookup x = some c → c ≠ b) →
      PTs (X.blk s H scope (compEnvC scope cl C X.env) fp) ifs (fun σB HB Q => wipe σB (own.map (·.2)) = wipe σ (own.map (·.2)) ∧ tt σB HB Q))
    (he : ∀ (s : Shared) (H : Hp) (C : Addr) (cl : List (Str × Addr)) (fp : List Addr), PE (X.blk s H scope (compEnvC scope cl C X.env) fp) elt te) (hs : ∀ x, foldedSetIterable iter X.env x = pure x := by intro _; rfl) :
    PE X (.ListComp elt [⟨tg, iter, ifs, 0⟩] scope pos) (tLc wi g tt te (own.map (·.2))) := by
  refine ⟨fun pins s σ H Q I h => ?_⟩
  rw [eval_ListComp]
  have hfree : ∀ y ∈ scope.names, y.2 = .free → ∃ c, X.env.cells.lookup y.1 = some c := fun y hy e => (ok.free y hy e).elim (fun k => I.ok.has _ (.inl k)) fun k => I.ok.has _ (.inr k)
  refine wpAny_comprehension_free rfl hs (closure_ok hfree) ok.kind (fun y hy e => by rw [ok.uniq y hy, e]) (thn (hi.run pins s σ H _ I h) fun xv s1 hx => thn hx fun itv s2 h2 => ?_)
  obtain ⟨it, fp, tn, J, H2, e, I2, T, st2, f2, q⟩ := h2
  subst e
  refine wpAny_newObj_type (newEnv_comp ?_) (by show 0 ≤ sizeLine; decide)
  generalize hD : s2.heap.objs.size = D
  obtain ⟨W, ⟨m0, w0⟩, turn⟩ := q D (I2.hok.fresh (Nat.le_of_eq hD))
  -- the list that is made
  generalize hs3 : ({ s2 with heap := s2.heap.push { cls := .type "list", data := .seq ([] : List Value).toArray } } : Shared) = s3
  have h3 : s3.heap = s2.heap.push { cls := .type "list", data := .seq ([] : List Value).toArray } := by rw [← hs3]
  have I3 : Inv X pins σ (upd H2 D (.lst [])) s3 := by
    rw [← hs3]
    exact I2.laid (t' := s2.toks) (fun b o e => Heap.get?_push_of_some _ e) (Nat.le_of_eq hD) ⟨Nat.zero_le _, [], 0, .nil, by rw [← hD]; exact Heap.get?_push_size _ rfl⟩
  have f3 : ∀ b ∈ fp, FpOk X pins (upd H2 D (.lst [])) b ∧ b < s3.heap.objs.size := fun b hb => by
    obtain ⟨o, eo, _⟩ := T.obj _ _ st2 b hb
    have hlt := Heap.lt_size eo
    refine ⟨⟨?_, (f2 b hb).2⟩, by rw [h3, Heap.size_push]; exact Nat.lt_succ_of_lt hlt⟩
    rw [upd_ne (by rw [← hD]; exact Nat.ne_of_lt hlt)]
    exact (f2 b hb).1
  have st3 : tn 0 s3.heap := T.keep _ _ _ st2 fun b _ o e => by rw [h3]; exact Heap.get?_push_of_some _ e
  have I4 := block_start I3 ok hN f3
  have pg := hg s3 (upd H2 D (.lst [])) s3.heap.objs.size (cellsFrom (s3.heap.objs.size + 1) scope.names (cloFrom X.env.cells scope.names [])) fp
  have pt := ht s3 (upd H2 D (.lst [])) s3.heap.objs.size (cellsFrom (s3.heap.objs.size + 1) scope.names (cloFrom X.env.cells scope.names [])) fp pins σ I3 fun b hb x c e => (f3 b hb).1.2.2.2.2.1 x c e
  have pe := he s3 (upd H2 D (.lst [])) s3.heap.objs.size (cellsFrom (s3.heap.objs.size + 1) scope.names (cloFrom X.env.cells scope.names [])) fp
  have nfp : ∀ b ∈ fp, (upd H2 D (.lst [])) b = none := fun b hb => (f3 b hb).1.1
  show codeAny _ _ (.compStart (.ListComp elt [⟨tg, iter, ifs, 0⟩] scope pos) 0 (.ref it) (.ref D) (compEnvC scope (cellsFrom (s3.heap.objs.size + 1) scope.names (cloFrom X.env.cells scope.names [])) s3.heap.objs.size X.env)) _ { s3 with heap := pushCells (s3.heap.push { cls := .type "dict", data := .dict #[] }) scope.names }
  generalize hce : compEnvC scope (cellsFrom (s3.heap.objs.size + 1) scope.names (cloFrom X.env.cells scope.names [])) s3.heap.objs.size X.env = ce at I4 pg pt pe ⊢
  have cL : ce.locals = s3.heap.objs.size := by subst hce; rfl
  generalize hH3 : upd H2 D (.lst []) = H3 at I3 I4 pg pt pe w0 nfp f3
  generalize hs4 : ({ s3 with heap := pushCells (s3.heap.push { cls := .type "dict", data := .dict #[] }) scope.names } : Shared) = s4 at I4 ⊢
  have st4 : tn 0 s4.heap := T.keep _ _ _ st3 fun b _ o e => by rw [← hs4]; exact pushCells_keeps _ _ _ _ (Heap.get?_push_of_some _ e)
  have stat : ∀ {σ' : L2.St} {H' : Hp} {s' : Shared}, Inv (X.blk s3 H3 scope ce fp) [] σ' H' s' → (∀ b ∈ fp, H' b = none) → ∀ b ∈ fp, FpOk (X.blk s3 H3 scope ce fp) [] H' b := fun {σ' H' s'} I' hn b hb =>
    ⟨hn b hb, (I'.ok.exf b hb).1, I'.ok.exfs b hb, .inl hb, fun x c e => (I'.ok.exf b hb).2 x c e, fun p hp => absurd (show p ∈ ([] : List (Addr × Obj)) ++ [] from hp) (by simp)⟩
  have loop : codeAny (model X.prog X.w) X.A (.compLoop (.ListComp elt [⟨tg, iter, ifs, 0⟩] scope pos) 0 (.ref it) (.ref D) ce) (compPost (model X.prog X.w) X.A X.xe none (EP X pins σ Q) (.ref D) s3.heap.objs.size) s4 := by
    refine compLoop_any (fun n s' => ∃ i H', Inv (X.blk s3 H3 scope ce fp) [] (wipe σ (own.map (·.2))) H' s' ∧ tn i s'.heap ∧ (∀ b ∈ fp, H' b = none) ∧ W i n H') ?_ m0 ⟨0, H3, I4, st4, nfp, w0⟩
    rintro n s5 ⟨i, H5, I5, st5, n5, w5⟩
    rcases turn i n H5 w5 with ⟨stop, qq⟩ | ⟨go, Nx, hNx, step⟩
    · refine thnF (T.done (X.blk s3 H3 scope ce fp) rfl rfl rfl hc i [] s5 _ H5 (fun _ _ => False) I5 (stat I5 n5) st5 stop) fun r s6 hr => ?_
      obtain ⟨er, I6⟩ := hr
      subst er
      have I7 : Inv X pins σ H5 s6 := I3.call' (ch := fp) I6.os I6.base I6.hok I6.bare fun b hb => ⟨(f3 b hb).1.2.2.2.1, (f3 b hb).1.2.1, (f3 b hb).1.2.2.2.2.1, (f3 b hb).1.2.2.2.2.2⟩
      have nC : H5 s3.heap.objs.size = none := by
        have z : H5 ce.locals = none := I6.free
        rwa [cL] at z
      obtain ⟨m, hn, _⟩ := I6.loc
      have hn : s6.heap.Ns ce.locals m := hn
      rw [cL] at hn
      refine ⟨m, hn, fun h'' sb => ?_⟩
      obtain ⟨g0, g1, g2, g3, g4, g5⟩ := I3.fpOk (Nat.le_refl _) nC
      exact ⟨.ref D, H5, I7.turned (t' := s6.toks) (fun b o hb e => (sb.2 b hb).trans e) g0 g1 g3 g4 g5, rfl, qq⟩
    · refine thnF (T.item (X.blk s3 H3 scope ce fp) rfl rfl rfl hc i [] s5 _ H5 (fun _ _ => False) I5 (stat I5 n5) st5 go) fun r s6 hr => ?_
      obtain ⟨u, er, h6⟩ := hr
      subst er
      refine thnF h6 fun _ s7 h7 => ?_
      obtain ⟨x, H7, I7, r7, y7, st7, n7⟩ := h7
      refine thnF (pg.run _ s7 _ H7 x u _ (I7.pinned (stat I7 n7) (T.obj _ _ st7)) r7 (step x H7 y7)) fun _ s8 h8 => ?_
      obtain ⟨σ8, H8, I8, hw8, q8⟩ := h8
      refine thnF (pt.run _ s8 σ8 H8 _ I8 ⟨hw8, q8⟩) fun b s9 h9 => ?_
      obtain ⟨H9, I9, q9⟩ := h9
      have fin : ∀ {s' : Shared} {H' : Hp}, Inv (X.blk s3 H3 scope ce fp) ([] ++ pinsAt fp s7.heap) σ8 H' s' → Nx H' → ∃ m, m < n ∧ ∃ i H', Inv (X.blk s3 H3 scope ce fp) [] (wipe σ (own.map (·.2))) H' s' ∧ tn i s'.heap ∧ (∀ b ∈ fp, H' b = none) ∧ W i m H' := fun {s' H'} I' nx => by
        obtain ⟨m', hm, w'⟩ := hNx H' nx
        have pin' : ∀ b ∈ fp, ∀ o, s7.heap.get? b = some o → s'.heap.get? b = some o ∧ H' b = none := fun b hb o e =>
          let z := I'.pin (b, o) (List.mem_append_right _ (List.mem_append_right _ (mem_pinsAt hb e)))
          ⟨z.1, z.2.1⟩
        have hl : (wipe σ (own.map (·.2))).length = σ8.length := by rw [← hw8, wipe_length]
        refine ⟨m', hm, i + 1, H', (I'.unpinned (pins := [])).weak hl (fun j v e => ?_), T.keep _ _ _ st7 fun b hb o e => (pin' b hb o e).1, fun b hb => ?_, w'⟩
        · rw [← hw8] at e
          exact (wipe_some e).1
        · obtain ⟨o, e, _⟩ := T.obj _ _ st7 b hb
          exact (pin' b hb o e).2
      cases b with
      | false =>
        simp only [Bool.false_eq_true, if_false] at q9 ⊢
        exact fin I9 q9
      | true =>
        simp only [if_true] at q9 ⊢
        refine thnF (pe.run _ s9 σ8 H9 _ I9 q9) fun z s10 h10 => ?_
        obtain ⟨yv, H10, I10, r10, acc, hD10, hz10, nx⟩ := h10
        exact app_ok (X := X.blk s3 H3 scope ce fp) I10 hD10 hz10 r10 fun s11 I11 => fin I11 nx
  exact codeAny_compStart_list loop (T.self X.A 0 _ _ _ st4 loop)

/-! ### told -/
/-- the body of told: try: return a(), except e: return a text -/
theorem told_body {Ng : List Str} {x a e ret : Str} {sg : Scope} {g f CS : Addr} {cdg : Value} {A : Around} {st : List Env} {s : Shared} {H : Hp} {Q : VK} {tl : XK → Hp → VK → Prop} {Pre : Hp → Prop} {j : Nat} {p1 p2 p3 p4 p5 p6 p7 p8 : Pos}
    (hge : sg.names.lookup e = some .globalImplicit) (hme : X.mg e = some (.ref CS)) (hde : (e == ("__debug__" : Str)) = false) (h0 : ∀ f : Addr, (L2.start Ng [V.ref f])[0]? = some (some (V.ref f)))
    (act : ∀ (W : WX) (pn : List (Addr × Obj)) (xe : Value → Shared → Prop) (E : XK), Takes ((cxOf C8.CX0 X.prog X.w X.K X.mg X.base Ng x sg g cdg A st s H C8.E0).tr pn xe) W → (∀ cls d σ' H', E cls d H' → W cls d σ' H') →
      PE ((cxOf C8.CX0 X.prog X.w X.K X.mg X.base Ng x sg g cdg A st s H C8.E0).tr pn xe) (.Call (.Name a p1) [] [] p2) (fun σZ HZ Q => σZ[0]? = some (some (.ref f)) ∧ Pre HZ ∧ tl E HZ Q)) (hp : Pre H) (h : TTold X.K CS ret tl H Q) :
    ∃ t, PSs (cxOf C8.CX0 X.prog X.w X.K X.mg X.base Ng x sg g cdg A st s H C8.E0).nox [.Try [.Return (some (.Call (.Name a p1) [] [] p2)) p3] [.ExceptHandler (some (.Name e p4)) none [.Return (some (.Constant (.str ret) j p5)) p6] p7] [] [] p8] t ∧
      t { nx := fun _ H' => Q .non H', rt := Q } (L2.start Ng [.ref f]) H := by
  have hgl : Gl (cxOf C8.CX0 X.prog X.w X.K X.mg X.base Ng x sg g cdg A st s H C8.E0).nox e := hge
  refine ⟨_, pss_one (ps_try_only (X := (cxOf C8.CX0 X.prog X.w X.K X.mg X.base Ng x sg g cdg A st s H C8.E0).nox) (c := .ref CS)
      (tb := fun W D σ H => ∃ Ech : XK, (∀ cls d σ' H', Ech cls d H' → W cls d σ' H') ∧ σ[0]? = some (some (.ref f)) ∧ Pre H ∧ tl Ech H D.rt)
      rfl rfl ⟨hgl, hde, .inl hme⟩ LamX.takes0 (fun W pn xe tk _ => ?_) (fun a oe cls d pn _ _ => pss_one (ps_ret pe_str))), ?_⟩
  · refine ⟨fun pins s' σ H' D I h' => ?_⟩
    obtain ⟨Ech, hW, h1, h2, h3⟩ := h'
    have hq := pss_one (ps_ret (pos := p3) (act W pn xe Ech tk hW))
    exact hq.run pins s' σ H' D I ⟨h1, h2, h3⟩
  · exact ⟨fun cls _ H' => ∃ b, PySem.W.exmOne X.K cls (.ref CS) = some b ∧ (b = true → Q (.str ret) H') ∧ (b = false → False), fun cls d σ' H' ⟨b, e1, e2, e3⟩ => ⟨b, e1, fun hb a _ => e2 hb, fun hb => e3 hb⟩, h0 f, hp, h⟩

/-- told(f), f one of the lambdas KL that X made -/
def tTold (KL : List (LamD × (XK → TE))) (cells : List (Str × Addr)) (q : Str) (K : PySem.W.Frag) (CS : Addr) (ret : Str) (j : Nat) (vs : List Nat) : TE := fun σ H Q =>
  ∃ f c' L t, (L, t) ∈ KL ∧ σ[j]? = some (some (.ref f)) ∧ H f = some (LamO cells q L c' f) ∧ H c' = some (CodeO c' q) ∧ TTold K CS ret (fun E H' Q' => t E (wipe σ vs) H' Q') H Q
theorem pe_toldB {KL : List (LamD × (XK → TE))} {s3 : Shared} {H3 : Hp} {scope : Scope} {cenv : Env} {fp : List Addr} {pins : List (Addr × Obj)} {σ : L2.St} {vs : List Nat} {x a e ret y : Str} {g CS : Addr} {k jj j : Nat} {pg : Arguments} {sg : Scope} {dV kV doc pm cdv ct oc : Value} {an od : Option Addr} {osl : Array (Option Value)} {Ng : List Str}
    {p1 p2 p3 p4 p5 p6 p7 p8 q1 q2 q3 : Pos} (I3 : Inv X pins σ H3 s3) (hfp : ∀ b ∈ fp, ∀ x c, X.env.cells.lookup x = some c → c ≠ b) (hKL : ∀ L t, (L, t) ∈ KL → LamT X k L t) (hr : Room (k + 2) X.A)
    (hg : Gl (X.blk s3 H3 scope cenv fp) x) (hm : X.mg x = some (.ref g)) (hk : PySem.W.keepIn X.K (.ref g) = true)
    (lk : X.K.lookup g = some ⟨oc, od, .func (PySem.W.fnOf x x pg [.Try [.Return (some (.Call (.Name a p1) [] [] p2)) p3] [.ExceptHandler (some (.Name e p4)) none [.Return (some (.Constant (.str ret) jj p5)) p6] p7] [] [] p8] sg dV kV doc pm an cdv ct), osl⟩)
    (hcg : PySem.W.codeIn X.K cdv x = true) (hb : L2.Binds X.K (PySem.W.fnOf x x pg [.Try [.Return (some (.Call (.Name a p1) [] [] p2)) p3] [.ExceptHandler (some (.Name e p4)) none [.Return (some (.Constant (.str ret) jj p5)) p6] p7] [] [] p8] sg dV kV doc pm an cdv ct) [a] []) (Sg : FnScope Ng [a] sg) (hNg : Ng[0]? = some a) (hva : Vis sg a)
    (hge : sg.names.lookup e = some .globalImplicit) (hme : X.mg e = some (.ref CS)) (h0 : ∀ f : Addr, (L2.start Ng [V.ref f])[0]? = some (some (V.ref f)))
    (hNy : X.N[j]? = some y) (hvy : Vis cenv.scope y) (hde : (e == ("__debug__" : Str)) = false := by decide)
    (hdb : (x == ("__debug__" : Str)) = false := by decide) (hd : (a == ("__debug__" : Str)) = false := by decide) (hcd : (a == ("__classdict__" : Str)) = false := by decide) (hdy : (y == ("__debug__" : Str)) = false := by decide) (hcy : (y == ("__classdict__" : Str)) = false := by decide)
    (hst : starEach [Expr.Name y q2] cenv = (false, eval (.Name y q2) cenv) :: starEach [] cenv := by rfl) :
    PE (X.blk s3 H3 scope cenv fp) (.Call (.Name x q1) [.Name y q2] [] q3) (fun σB HB Q => wipe σB vs = wipe σ vs ∧ tTold KL X.env.cells (X.env.qual ++ "<lambda>") X.K CS ret j vs σB HB Q) := by
  refine ⟨fun pinsB sB σB HB Q IB h => ?_⟩
  obtain ⟨hw, f, c', L, t, hm1, hj, hf, hc, hT⟩ := h
  have LT := hKL L t hm1
  have I3w : Inv X pins (wipe σB vs) H3 s3 := by
    rw [hw]
    exact I3.weak (wipe_length _ _) fun i v e => (wipe_some e).1
  refine wpAny_Call_Name_kw (ld_glob IB hg hm ?_ hdb)
  have hpa : PA (X.blk s3 H3 scope cenv fp) [Expr.Name y q2] (tCons (tVar j) tNil) := pa_cons (pe_var hNy hvy hdy hcy) pa_nil hst
  refine PySem.W.callWith_K (h₀ := X.base) IB.ok.mod.kin hk (thn (hpa.run q3 pinsB sB σB HB (fun vs1 H1 => vs1 = [V.ref f] ∧ H1 = HB) IB ⟨_, hj, rfl, rfl⟩) fun us s1 hh => ?_) hst (by rfl)
  obtain ⟨vs1, H1, I1, r1, ev, eH⟩ := hh
  subst ev
  rw [eH] at I1
  refine ⟨I1.kIn, ?_⟩
  obtain ⟨u, rfl, ru⟩ := vals1 r1
  obtain rfl : u = Value.ref f := ru
  have un : Un (X.blk s3 H3 scope cenv fp).fs fp H3 HB s3.heap s1.heap := I1.base
  have rc : codeAny (model X.prog X.w) X.A (.call (.ref g) ⟨[.ref f], []⟩) (CR C8.CX0 X.stack X.prog X.w HB s1 Q C8.E0) s1 := by
    refine run_ofS (N := Ng) (ps := [a]) (us := [.ref f]) (vs := [.ref f]) lk hcg Sg hr I1.env0 (hb s1 [.ref f] I1.kIn rfl) (.cons rfl .nil) rfl fun hr' => ?_
    obtain ⟨tq, htq, hq'⟩ := told_body (X := X) (Ng := Ng) (x := x) (A := X.A) (st := X.stack) (s := s1) (H := HB) (f := f) (CS := CS) (cdg := cdv) (g := g) (Q := Q) (p1 := p1) (p2 := p2) (p3 := p3) (p4 := p4) (p5 := p5) (p6 := p6) (p7 := p7) (p8 := p8) (j := jj)
      (Pre := fun HZ => HZ f = some (LamO X.env.cells (X.env.qual ++ "<lambda>") L c' f) ∧ HZ c' = some (CodeO c' (X.env.qual ++ "<lambda>"))) (tl := fun E H' Q' => t E (wipe σB vs) H' Q') hge hme hde h0
      (fun W pn xe E tk hW => by
        have hp := pe_actB (p1 := p1) (p2 := p2) (i := 0) (f := f) (c' := c') I3w LT un hfp tk hW hr' hNg hva hd hcd
        exact ⟨fun pz sz σz Hz Qz Iz hz => hp.run pz sz σz Hz Qz Iz ⟨hz.1, hz.2.1.1, hz.2.1.2, hz.2.2⟩⟩) ⟨hf, hc⟩ hT
    exact ⟨tq, htq.nox, hq'⟩
  refine wpAny_call (codeAny_mono rc fun r s2 hq => ?_)
  cases r with
  | error e => exact (show False from hq).elim
  | ok fl =>
    cases fl with
    | ret u => exact I1.after hq
    | next => exact False.elim hq
    | brk => exact False.elim hq
    | cont => exact False.elim hq
end
end ML

set_option linter.all false
/-! Plain mathematics of rules of years: counting, the last rule that applies. -/
namespace MM
/-- how many below y -/
def cn (p : Nat → Bool) : Nat → Nat
  | 0 => 0
  | y + 1 => cn p y + if p y = true then 1 else 0
theorem cn_congr {p q : Nat → Bool} : ∀ {y : Nat}, (∀ k, k < y → p k = q k) → cn p y = cn q y
  | 0, _ => rfl
  | y + 1, h => by
    unfold cn
    rw [cn_congr (y := y) fun k hk => h k (by omega), h y (by omega)]
theorem cn_or {p q r : Nat → Bool} (h : ∀ k, r k = (p k || q k)) (hd : ∀ k, ¬ (p k = true ∧ q k = true)) : ∀ y, cn r y = cn p y + cn q y
  | 0 => rfl
  | y + 1 => by
    unfold cn
    rw [cn_or h hd y, h y]
    have := hd y
    cases hp : p y <;> cases hq : q y <;> simp_all <;> omega
theorem cn_false : ∀ y, cn (fun _ => false) y = 0
  | 0 => rfl
  | y + 1 => by
    unfold cn
    rw [cn_false y]
    rfl
theorem cn_le (p : Nat → Bool) : ∀ y, cn p y ≤ y
  | 0 => Nat.le_refl _
  | y + 1 => by
    unfold cn
    have := cn_le p y
    split <;> omega
theorem cn_mono (p : Nat → Bool) {a b : Nat} (h : a ≤ b) : cn p a ≤ cn p b := by
  induction b with
  | zero =>
    have : a = 0 := by omega
    subst this
    exact Nat.le_refl _
  | succ b ih =>
    by_cases e : a = b + 1
    · subst e; exact Nat.le_refl _
    · have := ih (by omega)
      show _ ≤ cn p b + _
      omega
/-- the multiples of n below y -/
theorem cn_dvd (n : Nat) (hn : 0 < n) : ∀ y, cn (fun k => decide (n ∣ k)) y = (y + n - 1) / n
  | 0 => by
    show 0 = _
    rw [Nat.div_eq_of_lt (by omega)]
  | y + 1 => by
    show cn (fun k => decide (n ∣ k)) y + _ = _
    rw [cn_dvd n hn y]
    by_cases h : n ∣ y
    · obtain ⟨c, rfl⟩ := h
      rw [if_pos (decide_eq_true (Nat.dvd_mul_right n c))]
      have e1 : n * c + 1 + n - 1 = n * (c + 1) := by rw [Nat.mul_add]; omega
      rw [e1, Nat.mul_div_cancel_left _ hn]
      have e2 : n * c + n - 1 = (n - 1) + n * c := by omega
      rw [e2, Nat.add_mul_div_left _ _ hn, Nat.div_eq_of_lt (by omega)]
      omega
    · rw [if_neg (by simpa using h)]
      have hm : 0 < y % n := Nat.pos_of_ne_zero fun e => h (Nat.dvd_of_mod_eq_zero e)
      have hml : y % n < n := Nat.mod_lt _ hn
      have hy := Nat.div_add_mod y n
      generalize y / n = q at hy
      generalize y % n = r at *
      have e1 : y + n - 1 = (r - 1) + n * (q + 1) := by rw [Nat.mul_add]; omega
      have e2 : y + 1 + n - 1 = r + n * (q + 1) := by rw [Nat.mul_add]; omega
      rw [e1, e2, Nat.add_mul_div_left _ _ hn, Nat.add_mul_div_left _ _ hn, Nat.div_eq_of_lt (by omega), Nat.div_eq_of_lt hml, Nat.add_zero]

abbrev Rules := List (Nat × Bool)
def isLong (rs : Rules) (y : Nat) : Bool := rs.foldl (fun f r => if y % r.1 = 0 then r.2 else f) false
theorem isLong_snoc {rs : Rules} {i : Nat} {r : Nat × Bool} (h : rs[i]? = some r) (y : Nat) : isLong (rs.take (i + 1)) y = if y % r.1 = 0 then r.2 else isLong (rs.take i) y := by
  unfold isLong
  rw [List.take_add_one, h, List.foldl_append]
  rfl
/-- no rule of rs goes into k -/
def free (rs : Rules) (k : Nat) : Bool := rs.all fun r => !decide (r.1 ∣ k)
theorem fold_free : ∀ (rs : Rules) (k : Nat) (f : Bool), rs.foldl (fun f r => if k % r.1 = 0 then r.2 else f) f = if free rs k = true then f else isLong rs k
  | [], _, _ => rfl
  | r :: rs, k, f => by
    unfold isLong
    rw [List.foldl_cons, List.foldl_cons, fold_free rs k (if k % r.1 = 0 then r.2 else f), fold_free rs k (if k % r.1 = 0 then r.2 else false)]
    have e : free (r :: rs) k = (!decide (r.1 ∣ k) && free rs k) := rfl
    rw [e]
    by_cases h : k % r.1 = 0
    · have h2 : r.1 ∣ k := Nat.dvd_of_mod_eq_zero h
      simp [h, h2]
    · have h2 : ¬ r.1 ∣ k := fun z => h (Nat.mod_eq_zero_of_dvd z)
      simp [h, h2]
      cases free rs k <;> simp
theorem isLong_free {rs : Rules} {k : Nat} (h : free rs k = true) : isLong rs k = false := by
  have := fold_free rs k false
  rw [h] at this
  exact this
/-- multiples of n that no rule of rs goes into, below y -/
def G (n : Nat) (rs : Rules) (y : Nat) : Nat := cn (fun k => decide (n ∣ k) && free rs k) y
/-- by rules: those that each decides -/
def S : Rules → Nat → Nat
  | [], _ => 0
  | r :: rs, y => (if r.2 = true then G r.1 rs y else 0) + S rs y
theorem cn_long : ∀ (rs : Rules) (y : Nat), cn (isLong rs) y = S rs y
  | [], y => cn_false y
  | r :: rs, y => by
    unfold S
    rw [← cn_long rs y]
    have e : ∀ k, isLong (r :: rs) k = ((r.2 && (decide (r.1 ∣ k) && free rs k)) || isLong rs k) := fun k => by
      show rs.foldl _ (if k % r.1 = 0 then r.2 else false) = _
      rw [fold_free]
      by_cases h : k % r.1 = 0
      · have h2 : r.1 ∣ k := Nat.dvd_of_mod_eq_zero h
        cases hf : free rs k
        · simp [h, h2]
        · simp [h, h2, isLong_free hf]
      · have h2 : ¬ r.1 ∣ k := fun z => h (Nat.mod_eq_zero_of_dvd z)
        cases hf : free rs k
        · simp [h, h2]
        · simp [h, h2, isLong_free hf]
    rw [cn_or e (fun k ⟨h1, h2⟩ => by
      simp only [Bool.and_eq_true] at h1
      rw [isLong_free h1.2.2] at h2
      cases h2) y]
    congr 1
    cases hr : r.2
    · simp only [Bool.false_and]
      rw [cn_false]
      rfl
    · simp only [Bool.true_and]
      rfl
/-- what pushing the later rules leaves -/
def E (n : Nat) : Rules → Nat → Nat
  | [], _ => 0
  | r :: rs, y => G (Nat.lcm n r.1) rs y + E n rs y
theorem G_E (n : Nat) (hn : 0 < n) : ∀ (rs : Rules) (y : Nat), G n rs y + E n rs y = (y + n - 1) / n
  | [], y => by
    show G n [] y + 0 = _
    rw [← cn_dvd n hn y]
    unfold G
    rw [Nat.add_zero]
    exact cn_congr fun k _ => by simp [free]
  | r :: rs, y => by
    show G n (r :: rs) y + (G (Nat.lcm n r.1) rs y + E n rs y) = _
    rw [← G_E n hn rs y, ← Nat.add_assoc]
    congr 1
    refine (cn_or (r := fun k => decide (n ∣ k) && free rs k) (fun k => ?_) (fun k ⟨h1, h2⟩ => ?_) y).symm
    · have e : free (r :: rs) k = (!decide (r.1 ∣ k) && free rs k) := rfl
      have e2 : decide (Nat.lcm n r.1 ∣ k) = (decide (n ∣ k) && decide (r.1 ∣ k)) := by
        by_cases h1 : n ∣ k <;> by_cases h2 : r.1 ∣ k <;> simp [h1, h2, Nat.lcm_dvd_iff]
      rw [e, e2]
      cases decide (n ∣ k) <;> cases decide (r.1 ∣ k) <;> cases free rs k <;> rfl
    · have e : free (r :: rs) k = (!decide (r.1 ∣ k) && free rs k) := rfl
      rw [e] at h1
      simp only [Bool.and_eq_true, decide_eq_true_eq, Bool.not_eq_true', decide_eq_false_iff_not] at h1 h2
      exact h1.2.1 (Nat.dvd_trans (Nat.dvd_lcm_right n r.1) h2.1)
/-- what the rule at a place decides -/
def turnedV (rs : Rules) (i y : Nat) : Nat := match rs[i]? with
  | some r => if r.2 = true then G r.1 (rs.drop (i + 1)) y else 0
  | none => 0
theorem S_drop (rs : Rules) (y : Nat) {i : Nat} (h : i < rs.length) : S (rs.drop i) y = turnedV rs i y + S (rs.drop (i + 1)) y := by
  rw [List.drop_eq_getElem_cons h]
  unfold turnedV
  rw [List.getElem?_eq_getElem h]
  rfl
theorem E_drop (n : Nat) (rs : Rules) (y : Nat) {i : Nat} {r : Nat × Bool} (h : rs[i]? = some r) : E n (rs.drop i) y = G (Nat.lcm n r.1) (rs.drop (i + 1)) y + E n (rs.drop (i + 1)) y := by
  obtain ⟨hi, e⟩ := List.getElem?_eq_some_iff.mp h
  rw [List.drop_eq_getElem_cons hi, e]
  rfl
/-- the least number that all rules go into -/
def lcmA (rs : Rules) : Nat := rs.foldl (fun f r => Nat.lcm f r.1) 1
theorem lcmA_snoc {rs : Rules} {i : Nat} {r : Nat × Bool} (h : rs[i]? = some r) : lcmA (rs.take (i + 1)) = Nat.lcm (lcmA (rs.take i)) r.1 := by
  unfold lcmA
  rw [List.take_add_one, h, List.foldl_append]
  rfl
theorem lcm_fold : ∀ (rs : Rules) (f m : Nat), rs.foldl (fun f r => Nat.lcm f r.1) f ∣ m ↔ f ∣ m ∧ ∀ r ∈ rs, r.1 ∣ m
  | [], f, m => by simp
  | r :: rs, f, m => by
    rw [List.foldl_cons, lcm_fold rs, Nat.lcm_dvd_iff]
    simp only [List.mem_cons, forall_eq_or_imp]
    exact and_assoc
theorem lcmA_dvd (rs : Rules) (m : Nat) : lcmA rs ∣ m ↔ ∀ r ∈ rs, r.1 ∣ m := by
  unfold lcmA
  rw [lcm_fold]
  simp
theorem dvd_lcmA {rs : Rules} {r : Nat × Bool} (h : r ∈ rs) : r.1 ∣ lcmA rs := (lcmA_dvd rs _).mp (Nat.dvd_refl _) r h
theorem lcm_fold_pos : ∀ (rs : Rules) (f : Nat), 0 < f → (∀ r ∈ rs, 0 < r.1) → 0 < rs.foldl (fun f r => Nat.lcm f r.1) f
  | [], f, h, _ => h
  | r :: rs, f, h, hr => by
    rw [List.foldl_cons]
    exact lcm_fold_pos rs _ (Nat.lcm_pos h (hr r List.mem_cons_self)) fun x hx => hr x (List.mem_cons_of_mem _ hx)
theorem lcmA_pos {rs : Rules} (h : ∀ r ∈ rs, 0 < r.1) : 0 < lcmA rs := lcm_fold_pos rs 1 Nat.one_pos h
theorem lcmA_take_dvd (rs : Rules) (i : Nat) : lcmA (rs.take i) ∣ lcmA rs := (lcmA_dvd _ _).mpr fun r hr => dvd_lcmA (List.mem_of_mem_take hr)
/-- days before a year -/
def db (rs : Rules) (s y : Nat) : Nat := s * y + cn (isLong rs) y
theorem db_succ (rs : Rules) (s y : Nat) : db rs s (y + 1) = db rs s y + s + if isLong rs y = true then 1 else 0 := by
  show s * (y + 1) + (cn (isLong rs) y + _) = s * y + cn (isLong rs) y + s + _
  rw [Nat.mul_succ]
  omega
theorem db_lt (rs : Rules) {s : Nat} (hs : 0 < s) {a b : Nat} (h : a < b) : db rs s a < db rs s b := by
  unfold db
  have h1 := cn_mono (isLong rs) (Nat.le_of_lt h)
  have h2 : s * a < s * b := Nat.mul_lt_mul_of_pos_left h hs
  omega
theorem db_le (rs : Rules) {s : Nat} (hs : 0 < s) {a b : Nat} (h : a ≤ b) : db rs s a ≤ db rs s b := by
  rcases Nat.lt_or_eq_of_le h with h | h
  · exact Nat.le_of_lt (db_lt rs hs h)
  · rw [h]; exact Nat.le_refl _
/-- the year of a day is one -/
theorem yr_one (rs : Rules) {s : Nat} (hs : 0 < s) {a b d : Nat} (h1 : db rs s a ≤ d) (h2 : d < db rs s (a + 1)) (h3 : db rs s b ≤ d) (h4 : d < db rs s (b + 1)) : a = b := by
  rcases Nat.lt_trichotomy a b with h | h | h
  · have := db_le rs hs (show a + 1 ≤ b from h)
    omega
  · exact h
  · have := db_le rs hs (show b + 1 ≤ a from h)
    omega
end MM
namespace MM
/-! ### the best rules -/
/-- the first least of f over 0 .. k -/
def am (f : Nat → Nat) : Nat → Nat
  | 0 => 0
  | k + 1 => if f (k + 1) < f (am f k) then k + 1 else am f k
theorem am_le (f : Nat → Nat) : ∀ k, am f k ≤ k
  | 0 => Nat.le_refl _
  | k + 1 => by
    unfold am
    have := am_le f k
    split <;> omega
def offF (d y one s : Nat) : Nat := ((d : Int) * one - (s : Int) * y).natAbs
theorem offF_lo {d y one s : Nat} (h : s * y ≤ d * one) : offF d y one s = d * one - s * y := by
  unfold offF
  have e1 : ((d : Int) * (one : Int)) = ((d * one : Nat) : Int) := (Int.natCast_mul _ _).symm
  have e2 : ((s : Int) * (y : Int)) = ((s * y : Nat) : Int) := (Int.natCast_mul _ _).symm
  rw [e1, e2]
  omega
theorem offF_hi {d y one s : Nat} (h : d * one ≤ s * y) : offF d y one s = s * y - d * one := by
  unfold offF
  have e1 : ((d : Int) * (one : Int)) = ((d * one : Nat) : Int) := (Int.natCast_mul _ _).symm
  have e2 : ((s : Int) * (y : Int)) = ((s * y : Nat) : Int) := (Int.natCast_mul _ _).symm
  rw [e1, e2]
  omega
/-- which of low and the next one -/
def pick (d y one : Nat) : Nat := if offF d y one (d * one / y + 1) < offF d y one (d * one / y) then d * one / y + 1 else d * one / y
section
variable {d y one : Nat} (hy : 0 < y)
include hy
theorem low_le {s : Nat} (h : s ≤ d * one / y) : s * y ≤ d * one := (Nat.le_div_iff_mul_le hy).mp h
theorem low_gt {s : Nat} (h : d * one / y < s) : d * one < s * y := (Nat.div_lt_iff_lt_mul hy).mp h
theorem am_low : ∀ k, k ≤ d * one / y → am (offF d y one) k = k
  | 0, _ => rfl
  | k + 1, h => by
    unfold am
    rw [am_low k (by omega), if_pos]
    rw [offF_lo (low_le hy h), offF_lo (low_le hy (s := k) (by omega))]
    have h1 := low_le hy h
    rw [Nat.succ_mul] at h1 ⊢
    omega
theorem pick_or : pick d y one = d * one / y ∨ pick d y one = d * one / y + 1 := by
  unfold pick
  split
  · exact .inr rfl
  · exact .inl rfl
theorem pick_le : offF d y one (pick d y one) ≤ offF d y one (d * one / y) ∧ offF d y one (pick d y one) ≤ offF d y one (d * one / y + 1) := by
  unfold pick
  split <;> omega
theorem am_high : ∀ k, d * one / y < k → am (offF d y one) k = pick d y one
  | 0, h => absurd h (Nat.not_lt_zero _)
  | k + 1, h => by
    unfold am
    by_cases e : k = d * one / y
    · rw [e, am_low hy _ (Nat.le_refl _)]
      rfl
    · have hk : d * one / y < k := by omega
      rw [am_high k hk, if_neg]
      have h1 := (pick_le hy (d := d) (one := one)).2
      have h2 : offF d y one (d * one / y + 1) ≤ offF d y one (k + 1) := by
        have g1 := low_gt hy (d := d) (one := one) (s := d * one / y + 1) (by omega)
        have g2 := low_gt hy (d := d) (one := one) (s := k + 1) (by omega)
        rw [offF_hi (Nat.le_of_lt g1), offF_hi (Nat.le_of_lt g2)]
        have g3 : (d * one / y + 1) * y ≤ (k + 1) * y := Nat.mul_le_mul_right _ (by omega)
        omega
      omega
/-- all candidates of a cycle: the least of low and the next one -/
theorem am_pick (hd : d ≤ y) : am (offF d y one) one = pick d y one := by
  have hl : d * one / y ≤ one := by
    refine Nat.div_le_of_le_mul ?_
    exact Nat.mul_le_mul_right one hd
  by_cases h : d * one / y < one
  · exact am_high hy one h
  · have e : d * one / y = one := by omega
    have hz : pick d y one = d * one / y := by
      unfold pick
      rw [if_neg]
      have g1 := low_le hy (d := d) (one := one) (Nat.le_refl _)
      have g2 := low_gt hy (d := d) (one := one) (s := d * one / y + 1) (by omega)
      have g3 : d * one ≤ y * one := Nat.mul_le_mul_right one hd
      rw [offF_lo g1, e]
      have g4 : one * y = y * one := Nat.mul_comm _ _
      omega
    rw [hz, e, am_low hy one (by omega)]
end
/-- (off, longs, cycle) after a candidate -/
abbrev Bs := Option (Nat × Nat × Nat)
def better (b : Bs) (o c : Nat) : Bool := match b with
  | none => true
  | some (o', _, c') => decide (o * c' < o' * c)
def upB (b : Bs) (o s c : Nat) : Bs := if better b o c = true then some (o, s, c) else b
theorem better_mono {b : Bs} {o o' c : Nat} (h : o' ≤ o) (hb : better b o c = true) : better b o' c = true := by
  unfold better at *
  cases b with
  | none => rfl
  | some x =>
    obtain ⟨p, q, r⟩ := x
    simp only [decide_eq_true_eq] at *
    have := Nat.mul_le_mul_right r h
    omega
/-- one more candidate of the same cycle -/
theorem upB_step (b : Bs) (f : Nat → Nat) (c k : Nat) (hc : 0 < c) (a : Nat) : upB (upB b (f a) a c) (f k) k c = upB b (f (if f k < f a then k else a)) (if f k < f a then k else a) c := by
  unfold upB
  by_cases h : better b (f a) c = true
  · rw [if_pos h]
    by_cases hk : f k < f a
    · have h2 : better b (f k) c = true := better_mono (Nat.le_of_lt hk) h
      have h3 : better (some (f a, a, c)) (f k) c = true := by
        show decide (f k * c < f a * c) = true
        exact decide_eq_true (Nat.mul_lt_mul_of_pos_right hk hc)
      rw [if_pos h3, if_pos hk, if_pos h2]
    · have h3 : ¬ better (some (f a, a, c)) (f k) c = true := by
        show ¬ decide (f k * c < f a * c) = true
        have := Nat.mul_le_mul_right c (Nat.le_of_not_lt hk)
        simp only [decide_eq_true_eq]
        omega
      rw [if_neg h3, if_neg hk, if_pos h]
  · rw [if_neg h]
    by_cases hk : f k < f a
    · rw [if_pos hk]
    · rw [if_neg hk, if_neg h, if_neg fun z => h (better_mono (Nat.le_of_not_lt hk) z)]
/-- after all candidates of the cycles 1 .. m -/
def bst (d y : Nat) : Nat → Bs
  | 0 => none
  | m + 1 => upB (bst d y m) (offF d y (m + 1) (pick d y (m + 1))) (pick d y (m + 1)) (m + 1)
/-- the cycle's candidates one by one: 0 .. k -/
def upTo (b : Bs) (d y c : Nat) : Nat → Bs
  | 0 => upB b (offF d y c 0) 0 c
  | k + 1 => upB (upTo b d y c k) (offF d y c (k + 1)) (k + 1) c
theorem upTo_am (b : Bs) (d y c : Nat) (hc : 0 < c) : ∀ k, upTo b d y c k = upB b (offF d y c (am (offF d y c) k)) (am (offF d y c) k) c
  | 0 => rfl
  | k + 1 => by
    unfold upTo
    rw [upTo_am b d y c hc k, upB_step b (offF d y c) c (k + 1) hc (am (offF d y c) k)]
    rfl
theorem bst_all {d y : Nat} (hy : 0 < y) (hd : d ≤ y) (m : Nat) : upTo (bst d y m) d y (m + 1) (m + 1) = bst d y (m + 1) := by
  rw [upTo_am _ _ _ _ (Nat.succ_pos m), am_pick hy hd]
  rfl
theorem bst_two (d y m : Nat) : upB (upB (bst d y m) (offF d y (m + 1) (d * (m + 1) / y)) (d * (m + 1) / y) (m + 1)) (offF d y (m + 1) (d * (m + 1) / y + 1)) (d * (m + 1) / y + 1) (m + 1) = bst d y (m + 1) :=
  upB_step _ (offF d y (m + 1)) (m + 1) _ (Nat.succ_pos m) _
theorem bst_some (d y : Nat) : ∀ m, 0 < m → ∃ o s c, bst d y m = some (o, s, c) ∧ 0 < c ∧ c ≤ m
  | 0, h => by omega
  | m + 1, _ => by
    unfold bst upB
    split
    · exact ⟨_, _, _, rfl, by omega, by omega⟩
    · rename_i h
      cases m with
      | zero => exact absurd rfl h
      | succ m =>
        obtain ⟨o, s, c, e, h1, h2⟩ := bst_some d y (m + 1) (by omega)
        exact ⟨o, s, c, e, h1, by omega⟩
end MM
namespace MM
/-! ### dividing out -/
/-- p, w came from P, W by dividing out; no k of 2 .. n - 1 goes into both -/
structure Red (P W p w n : Nat) : Prop where
  ex : ∃ t, 0 < t ∧ P = p * t ∧ W = w * t
  w0 : 0 < w
  no : ∀ k, 2 ≤ k → k < n → ¬ (k ∣ p ∧ k ∣ w)
theorem Red.step {P W p w n : Nat} (h : Red P W p w n) {k : Nat} (hk : 2 ≤ k) (h1 : k ∣ p) (h2 : k ∣ w) : Red P W (p / k) (w / k) n ∧ w / k < w := by
  obtain ⟨t, ht, e1, e2⟩ := h.ex
  obtain ⟨a, rfl⟩ := h1
  obtain ⟨b, rfl⟩ := h2
  have hw := h.w0
  have hb : 0 < b := Nat.pos_of_ne_zero fun z => by subst z; simp at hw
  rw [Nat.mul_div_cancel_left _ (by omega), Nat.mul_div_cancel_left _ (by omega)]
  refine ⟨⟨⟨k * t, Nat.mul_pos (by omega) ht, ?_, ?_⟩, hb, fun j j1 j2 ⟨j3, j4⟩ => h.no j j1 j2 ⟨Nat.dvd_mul_left_of_dvd j3 k, Nat.dvd_mul_left_of_dvd j4 k⟩⟩, ?_⟩
  · rw [e1, Nat.mul_comm k a, Nat.mul_assoc]
  · rw [e2, Nat.mul_comm k b, Nat.mul_assoc]
  · have : 2 * b ≤ k * b := Nat.mul_le_mul_right b hk
    omega
theorem Red.next {P W p w n : Nat} (h : Red P W p w n) (hn : ¬ (n ∣ p ∧ n ∣ w)) : Red P W p w (n + 1) :=
  ⟨h.ex, h.w0, fun k k1 k2 z => by
    by_cases e : k = n
    · subst e; exact hn z
    · exact h.no k k1 (by omega) z⟩
theorem Red.done {P W p w n : Nat} (h : Red P W p w n) (hW : W < n) : p = P / Nat.gcd P W ∧ w = W / Nat.gcd P W := by
  obtain ⟨t, ht, e1, e2⟩ := h.ex
  have hwW : w ≤ W := by rw [e2]; exact Nat.le_mul_of_pos_right w ht
  have hg : Nat.gcd p w = 1 := by
    have g0 : 0 < Nat.gcd p w := Nat.gcd_pos_of_pos_right _ h.w0
    have gl : Nat.gcd p w ≤ w := Nat.le_of_dvd h.w0 (Nat.gcd_dvd_right _ _)
    by_cases e : Nat.gcd p w = 1
    · exact e
    · exact absurd ⟨Nat.gcd_dvd_left p w, Nat.gcd_dvd_right p w⟩ (h.no (Nat.gcd p w) (by omega) (by omega))
  have e3 : Nat.gcd P W = t := by rw [e1, e2, Nat.gcd_mul_right, hg, Nat.one_mul]
  rw [e3, e1, e2]
  exact ⟨(Nat.mul_div_cancel _ ht).symm, (Nat.mul_div_cancel _ ht).symm⟩
end MM

set_option linter.all false
/-! Plain mathematics of cycles: where several meet. -/
namespace MM
abbrev Cyc := List (Nat × Nat)
def sat (cs : Cyc) (d : Nat) : Prop := ∀ c ∈ cs, d % c.1 = c.2
theorem mod_iff {l : Nat} (d e : Nat) : d % l = e % l ↔ (l : Int) ∣ (d : Int) - (e : Int) := by
  constructor
  · intro h
    have h2 : ((d : Int) % (l : Int)) = ((e : Int) % (l : Int)) := by
      rw [← Int.natCast_emod, ← Int.natCast_emod, h]
    exact Int.dvd_of_emod_eq_zero (Int.emod_eq_emod_iff_emod_sub_eq_zero.mp h2)
  · intro h
    have h2 := Int.emod_eq_emod_iff_emod_sub_eq_zero.mpr (Int.emod_eq_zero_of_dvd h)
    rw [← Int.natCast_emod, ← Int.natCast_emod] at h2
    exact Int.ofNat.inj h2
theorem nd (a : Nat) (x : Int) : (a : Int) ∣ x ↔ a ∣ x.natAbs := by
  rw [← Int.dvd_natAbs, Int.natCast_dvd_natCast]
theorem lcm_int (a b : Nat) (x : Int) : ((Nat.lcm a b : Nat) : Int) ∣ x ↔ (a : Int) ∣ x ∧ (b : Int) ∣ x := by
  rw [nd, nd, nd, Nat.lcm_dvd_iff]
/-- W and day tell all that the cycles so far let in -/
def Tells (cs : Cyc) (day W : Nat) : Prop := ∀ d, sat cs d ↔ (W : Int) ∣ (d : Int) - (day : Int)
theorem tells_nil : Tells [] 0 1 := fun d => ⟨fun _ => ⟨(d : Int) - 0, by omega⟩, fun _ c h => by simp at h⟩
theorem sat_snoc (cs : Cyc) (c : Nat × Nat) (d : Nat) : sat (cs ++ [c]) d ↔ sat cs d ∧ d % c.1 = c.2 := by
  unfold sat
  simp only [List.mem_append, List.mem_singleton]
  refine ⟨fun h => ⟨fun x hx => h x (.inl hx), h c (.inr rfl)⟩, fun h x hx => hx.elim (h.1 x) fun e => by rw [e]; exact h.2⟩
theorem tells_add {cs : Cyc} {day W : Nat} (h : Tells cs day W) (t : Nat) : Tells cs (day + t * W) W := fun d => by
  rw [h d]
  have e : (d : Int) - (((day + t * W : Nat) : Int)) = ((d : Int) - (day : Int)) - (W : Int) * (t : Int) := by
    rw [Int.natCast_add, Int.natCast_mul, Int.mul_comm (t : Int)]
    omega
  rw [e]
  exact ⟨fun k => Int.dvd_sub k (Int.dvd_mul_right _ _), fun k => by
    have := Int.dvd_add k (Int.dvd_mul_right (W : Int) (t : Int))
    rwa [Int.sub_add_cancel] at this⟩
theorem tells_step {cs : Cyc} {day W : Nat} {c : Nat × Nat} (h : Tells cs day W) (hc : day % c.1 = c.2) : Tells (cs ++ [c]) day (Nat.lcm W c.1) := fun d => by
  rw [sat_snoc, lcm_int, h d, ← hc, mod_iff]
/-- none of the first l tries: none at all -/
theorem none_of {cs : Cyc} {day W l o : Nat} (h : Tells cs day W) (hl : 0 < l) (hn : ∀ t, t < l → (day + t * W) % l ≠ o) (d : Nat) (hd : sat cs d) : d % l ≠ o := by
  intro e
  obtain ⟨k, hk⟩ := (h d).mp hd
  have h0 := Int.emod_nonneg k (show (l : Int) ≠ 0 by omega)
  have h1 := Int.emod_lt_of_pos k (show (0 : Int) < l by omega)
  obtain ⟨t, ht⟩ := Int.eq_ofNat_of_zero_le h0
  refine hn t (by omega) ?_
  rw [← e]
  refine (mod_iff _ _).mpr ?_
  have hq := Int.emod_add_mul_ediv k (l : Int)
  have e2 : (((day + t * W : Nat) : Int)) - (d : Int) = (l : Int) * (-(k / (l : Int)) * (W : Int)) := by
    rw [Int.natCast_add, Int.natCast_mul]
    have e3 : (d : Int) = (day : Int) + (W : Int) * k := by omega
    rw [e3]
    have e4 : (W : Int) * k = (W : Int) * (t : Int) + (W : Int) * ((l : Int) * (k / (l : Int))) := by
      rw [← Int.mul_add, ← ht, hq]
    rw [e4, Int.mul_comm (t : Int), Int.neg_mul, Int.mul_neg, Int.mul_left_comm (W : Int), Int.mul_comm (W : Int) (k / (l : Int))]
    omega
  rw [e2]
  exact Int.dvd_mul_right _ _
def lcmC (cs : Cyc) : Nat := cs.foldl (fun f c => Nat.lcm f c.1) 1
theorem lcmC_snoc {cs : Cyc} {i : Nat} {c : Nat × Nat} (h : cs[i]? = some c) : lcmC (cs.take (i + 1)) = Nat.lcm (lcmC (cs.take i)) c.1 := by
  unfold lcmC
  rw [List.take_add_one, h, List.foldl_append]
  rfl
/-- the day that is told, below W, is the only one below W -/
theorem tells_one {cs : Cyc} {day W : Nat} (h : Tells cs day W) (hW : 0 < W) : sat cs (day % W) ∧ ∀ d, d < W → sat cs d → d = day % W := by
  refine ⟨(h _).mpr ((mod_iff _ _).mp (Nat.mod_mod _ _)), fun d hd hs => ?_⟩
  have := (mod_iff d day).mpr ((h d).mp hs)
  rw [Nat.mod_eq_of_lt hd] at this
  exact this
end MM

set_option linter.all false
/-! Plain mathematics for the law of moons: counting moons, the first day of cycles, the best match. -/
namespace MM
theorem filter_len (p : Nat → Bool) : ∀ n, ((List.range n).filter p).length = cn p n
  | 0 => rfl
  | n + 1 => by
    rw [List.range_succ, List.filter_append, List.length_append, filter_len p n]
    show _ = cn p n + _
    congr 1
    cases h : p n <;> simp [h]
theorem cn_lt (m : Nat) : ∀ n, cn (fun k => decide (k < m)) n = min m n
  | 0 => by simp [cn]
  | n + 1 => by
    show cn (fun k => decide (k < m)) n + _ = _
    rw [cn_lt m n]
    by_cases h : n < m
    · rw [if_pos (by simpa using h)]
      omega
    · rw [if_neg (by simpa using h)]
      omega
/-- those of a range within lo to hi -/
theorem filter_rg {p : Nat → Bool} {lo hi : Nat} (hp : ∀ k, p k = true ↔ lo ≤ k ∧ k < hi) : ∀ n, (List.range n).filter p = List.range' lo (min hi n - lo)
  | 0 => by simp
  | n + 1 => by
    rw [List.range_succ, List.filter_append, filter_rg hp n]
    by_cases h : p n = true
    · have h2 := (hp n).mp h
      have e : min hi (n + 1) - lo = (min hi n - lo) + 1 := by omega
      rw [e, List.range'_concat]
      simp [h]
      omega
    · have h2 : ¬ (lo ≤ n ∧ n < hi) := fun z => h ((hp n).mpr z)
      have e : min hi (n + 1) - lo = min hi n - lo := by omega
      rw [e]
      simp [h]
/-! ### cycles -/
theorem lcmC_dvd (cs : Cyc) (m : Nat) : lcmC cs ∣ m ↔ ∀ c ∈ cs, c.1 ∣ m := by
  have key : ∀ (cs : Cyc) (f : Nat), cs.foldl (fun f c => Nat.lcm f c.1) f ∣ m ↔ f ∣ m ∧ ∀ c ∈ cs, c.1 ∣ m := by
    intro cs
    induction cs with
    | nil => intro f; simp
    | cons c cs ih =>
      intro f
      rw [List.foldl_cons, ih, Nat.lcm_dvd_iff]
      simp only [List.mem_cons, forall_eq_or_imp]
      exact and_assoc
  unfold lcmC
  rw [key]
  simp
theorem sat_mod {cs : Cyc} {d W : Nat} (hW : ∀ c ∈ cs, c.1 ∣ W) : sat cs (d % W) ↔ sat cs d := by
  unfold sat
  constructor
  · intro h c hc
    rw [← h c hc, Nat.mod_mod_of_dvd _ (hW c hc)]
  · intro h c hc
    rw [← h c hc, Nat.mod_mod_of_dvd _ (hW c hc)]
theorem lcmC_self (cs : Cyc) : ∀ c ∈ cs, c.1 ∣ lcmC cs := (lcmC_dvd cs _).mp (Nat.dvd_refl _)
/-- a day's place -/
theorem place_iff {d o p s : Nat} (hs : 0 < s) (ho : o < s) (hp : p < s) : d % s = (o + p) % s ↔ ((d : Int) - (o : Int)) % (s : Int) = (p : Int) := by
  rw [mod_iff]
  constructor
  · intro h
    have h2 : ((d : Int) - (o : Int)) % (s : Int) = (p : Int) % (s : Int) := by
      refine Int.emod_eq_emod_iff_emod_sub_eq_zero.mpr (Int.emod_eq_zero_of_dvd ?_)
      have e : (d : Int) - (o : Int) - (p : Int) = (d : Int) - ((o + p : Nat) : Int) := by omega
      rw [e]
      exact h
    rw [h2, Int.emod_eq_of_lt (by omega) (by omega)]
  · intro h
    have h2 : ((d : Int) - (o : Int)) % (s : Int) = (p : Int) % (s : Int) := by rw [h, Int.emod_eq_of_lt (by omega) (by omega)]
    have h3 := Int.dvd_of_emod_eq_zero (Int.emod_eq_emod_iff_emod_sub_eq_zero.mp h2)
    have e : (d : Int) - (o : Int) - (p : Int) = (d : Int) - ((o + p : Nat) : Int) := by omega
    rwa [e] at h3
theorem lcmC_congr : ∀ (cs ds : Cyc) , cs.map (·.1) = ds.map (·.1) → lcmC cs = lcmC ds := by
  have key : ∀ (cs ds : Cyc) (f : Nat), cs.map (·.1) = ds.map (·.1) → cs.foldl (fun f c => Nat.lcm f c.1) f = ds.foldl (fun f c => Nat.lcm f c.1) f := by
    intro cs
    induction cs with
    | nil => intro ds f h; cases ds with
      | nil => rfl
      | cons _ _ => simp at h
    | cons c cs ih => intro ds f h; cases ds with
      | nil => simp at h
      | cons d ds =>
        simp only [List.map_cons, List.cons.injEq] at h
        rw [List.foldl_cons, List.foldl_cons, h.1]
        exact ih ds _ h.2
  exact fun cs ds h => key cs ds 1 h
/-! ### the best match -/
abbrev Tr := Nat × Nat × Nat
def lt3 (a b : Tr) : Bool := decide (a.1 < b.1 ∨ a.1 = b.1 ∧ (a.2.1 < b.2.1 ∨ a.2.1 = b.2.1 ∧ a.2.2 < b.2.2))
theorem lt3_iff (a b : Tr) : lt3 a b = true ↔ (a.1 < b.1 ∨ a.1 = b.1 ∧ (a.2.1 < b.2.1 ∨ a.2.1 = b.2.1 ∧ a.2.2 < b.2.2)) := by unfold lt3; exact decide_eq_true_iff
theorem lt3_not (a b : Tr) : lt3 a b = false ↔ ¬ (a.1 < b.1 ∨ a.1 = b.1 ∧ (a.2.1 < b.2.1 ∨ a.2.1 = b.2.1 ∧ a.2.2 < b.2.2)) := by unfold lt3; exact decide_eq_false_iff_not
/-- how far ones of one and others of other are apart, as a row -/
def row (one other o t : Nat) : Tr := (offF one other o t, o, t)
structure Least (one other : Nat) (S : Nat → Nat → Prop) (r : Tr) : Prop where
  mem : S r.2.1 r.2.2
  eq : r = row one other r.2.1 r.2.2
  le : ∀ o t, S o t → lt3 (row one other o t) r = false
def upTo3 (m : Nat) : Nat → Nat → Prop := fun o t => 1 ≤ o ∧ o ≤ m ∧ 1 ≤ t
/-- the best so far, near -/
def Best (one other m : Nat) : Option Tr → Prop
  | none => m = 0
  | some r => Least one other (upTo3 m) r ∧ r.2.2 ≤ one * r.2.1 / other + 2
def upd3 (b : Option Tr) (r : Tr) : Option Tr := match b with
  | none => some r
  | some x => if lt3 r x = true then some r else some x
def low3 (one other o : Nat) : Nat := max 1 (one * o / other)
theorem best_step {one other m : Nat} {b : Option Tr} (hy : 0 < other) (h : Best one other m b) : Best one other (m + 1) (upd3 (upd3 b (row one other (m + 1) (low3 one other (m + 1)))) (row one other (m + 1) (low3 one other (m + 1) + 1))) := by
  generalize hr1 : row one other (m + 1) (low3 one other (m + 1)) = r1
  generalize hr2 : row one other (m + 1) (low3 one other (m + 1) + 1) = r2
  have l1 : 1 ≤ low3 one other (m + 1) := Nat.le_max_left _ _
  have l2 : one * (m + 1) / other ≤ low3 one other (m + 1) := Nat.le_max_right _ _
  have l3 : low3 one other (m + 1) ≤ one * (m + 1) / other + 1 := Nat.max_le.mpr ⟨Nat.succ_le_succ (Nat.zero_le _), Nat.le_succ _⟩
  have l4 : low3 one other (m + 1) = 1 ∨ low3 one other (m + 1) = one * (m + 1) / other := by unfold low3; omega
  -- all rows of these ones
  have all : ∀ t, 1 ≤ t → lt3 (row one other (m + 1) t) r1 = false ∨ lt3 (row one other (m + 1) t) r2 = false := by
    intro t ht
    rcases Nat.lt_trichotomy t (low3 one other (m + 1)) with z | z | z
    · left
      have q : low3 one other (m + 1) = one * (m + 1) / other := by omega
      have h1 : low3 one other (m + 1) * other ≤ one * (m + 1) := low_le hy (by omega)
      have h2 : t * other < low3 one other (m + 1) * other := Nat.mul_lt_mul_of_pos_right z hy
      subst hr1
      refine (lt3_not _ _).mpr ?_
      show ¬ (offF one other (m + 1) t < offF one other (m + 1) (low3 one other (m + 1)) ∨ offF one other (m + 1) t = offF one other (m + 1) (low3 one other (m + 1)) ∧ _)
      rw [offF_lo h1, offF_lo (by omega)]
      omega
    · left
      subst hr1
      rw [z]
      refine (lt3_not _ _).mpr ?_
      omega
    · right
      subst hr2
      by_cases e : t = low3 one other (m + 1) + 1
      · rw [e]
        refine (lt3_not _ _).mpr ?_
        omega
      · have h1 : one * (m + 1) < (low3 one other (m + 1) + 1) * other := low_gt hy (by omega)
        have h2 : (low3 one other (m + 1) + 1) * other < t * other := Nat.mul_lt_mul_of_pos_right (by omega) hy
        refine (lt3_not _ _).mpr ?_
        show ¬ (offF one other (m + 1) t < offF one other (m + 1) (low3 one other (m + 1) + 1) ∨ offF one other (m + 1) t = offF one other (m + 1) (low3 one other (m + 1) + 1) ∧ _)
        rw [offF_hi (by omega), offF_hi (by omega)]
        omega
  have e1 : r1.2.1 = m + 1 := by rw [← hr1]; rfl
  have e2 : r1.2.2 = low3 one other (m + 1) := by rw [← hr1]; rfl
  have f1 : r2.2.1 = m + 1 := by rw [← hr2]; rfl
  have f2 : r2.2.2 = low3 one other (m + 1) + 1 := by rw [← hr2]; rfl
  have g1 : r1 = row one other r1.2.1 r1.2.2 := by rw [e1, e2, hr1]
  have g2 : r2 = row one other r2.2.1 r2.2.2 := by rw [f1, f2, hr2]
  -- what is least of three
  have fin : ∀ x : Tr, (x = r1 ∨ x = r2 ∨ b = some x) → lt3 r1 x = false → lt3 r2 x = false → (∀ y, b = some y → lt3 y x = false) → Best one other (m + 1) (some x) := by
    intro x hx h1 h2 h3
    have h1 := (lt3_not _ _).mp h1
    have h2 := (lt3_not _ _).mp h2
    refine ⟨⟨?_, ?_, ?_⟩, ?_⟩
    · rcases hx with rfl | rfl | hx
      · exact ⟨by omega, by omega, by omega⟩
      · exact ⟨by omega, by omega, by omega⟩
      · rw [hx] at h
        have := h.1.mem
        exact ⟨this.1, Nat.le_succ_of_le this.2.1, this.2.2⟩
    · rcases hx with rfl | rfl | hx
      · exact g1
      · exact g2
      · rw [hx] at h
        exact h.1.eq
    · intro o t ⟨s1, s2, s3⟩
      by_cases ho : o = m + 1
      · subst ho
        rcases all t s3 with z | z
        · have z := (lt3_not _ _).mp z
          refine (lt3_not _ _).mpr ?_
          omega
        · have z := (lt3_not _ _).mp z
          refine (lt3_not _ _).mpr ?_
          omega
      · cases b with
        | none => exact absurd (show m = 0 from h) (by omega)
        | some y =>
          have z := (lt3_not _ _).mp (h.1.le o t ⟨s1, by omega, s3⟩)
          have z2 := (lt3_not _ _).mp (h3 y rfl)
          refine (lt3_not _ _).mpr ?_
          omega
    · rcases hx with rfl | rfl | hx
      · rw [e1, e2]; omega
      · rw [f1, f2]; omega
      · rw [hx] at h
        exact h.2
  have irr : ∀ x, lt3 x x = false := fun x => (lt3_not _ _).mpr (by omega)
  cases b with
  | none =>
    show Best one other (m + 1) (if lt3 r2 r1 = true then some r2 else some r1)
    by_cases q : lt3 r2 r1 = true
    · rw [if_pos q]
      refine fin _ (.inr (.inl rfl)) ?_ (irr _) (fun y z => by cases z)
      have := (lt3_iff _ _).mp q
      refine (lt3_not _ _).mpr ?_
      omega
    · rw [if_neg q]
      exact fin _ (.inl rfl) (irr _) (by simpa using q) (fun y z => by cases z)
  | some y =>
    show Best one other (m + 1) (upd3 (if lt3 r1 y = true then some r1 else some y) r2)
    by_cases q : lt3 r1 y = true
    · rw [if_pos q]
      have q1 := (lt3_iff _ _).mp q
      show Best one other (m + 1) (if lt3 r2 r1 = true then some r2 else some r1)
      by_cases q2 : lt3 r2 r1 = true
      · rw [if_pos q2]
        have q3 := (lt3_iff _ _).mp q2
        refine fin _ (.inr (.inl rfl)) ?_ (irr _) (fun y z => ?_)
        · refine (lt3_not _ _).mpr ?_
          omega
        · cases z
          refine (lt3_not _ _).mpr ?_
          omega
      · rw [if_neg q2]
        refine fin _ (.inl rfl) (irr _) (by simpa using q2) (fun y z => ?_)
        cases z
        refine (lt3_not _ _).mpr ?_
        omega
    · rw [if_neg q]
      have q : lt3 r1 y = false := by simpa using q
      show Best one other (m + 1) (if lt3 r2 y = true then some r2 else some y)
      have q1 := (lt3_not _ _).mp q
      by_cases q2 : lt3 r2 y = true
      · rw [if_pos q2]
        have q3 := (lt3_iff _ _).mp q2
        refine fin _ (.inr (.inl rfl)) ?_ (irr _) (fun y z => ?_)
        · refine (lt3_not _ _).mpr ?_
          omega
        · cases z
          refine (lt3_not _ _).mpr ?_
          omega
      · rw [if_neg q2]
        refine fin _ (.inr (.inr rfl)) q (by simpa using q2) (fun y z => ?_)
        cases z
        exact irr _
/-- the least of x :: xs -/
def min3 (x : Tr) (xs : List Tr) : Tr := xs.foldl (fun a y => if lt3 y a = true then y else a) x
theorem min3_ok : ∀ (xs : List Tr) (x : Tr), min3 x xs ∈ x :: xs ∧ ∀ y ∈ x :: xs, lt3 y (min3 x xs) = false
  | [], x => ⟨List.mem_cons_self, fun y hy => by
    have : y = x := by simpa using hy
    subst this
    exact (lt3_not _ _).mpr (by show ¬ (y.1 < y.1 ∨ y.1 = y.1 ∧ (y.2.1 < y.2.1 ∨ y.2.1 = y.2.1 ∧ y.2.2 < y.2.2)); omega)⟩
  | z :: xs, x => by
    obtain ⟨a, b⟩ := min3_ok xs (if lt3 z x = true then z else x)
    have e : min3 x (z :: xs) = min3 (if lt3 z x = true then z else x) xs := rfl
    rw [e]
    generalize min3 (if lt3 z x = true then z else x) xs = m at a b
    have hf := (lt3_not _ _).mp (b _ List.mem_cons_self)
    refine ⟨?_, fun y hy => ?_⟩
    · rcases List.mem_cons.mp a with h | h
      · by_cases q : lt3 z x = true
        · rw [if_pos q] at h
          rw [h]
          exact List.mem_cons_of_mem _ List.mem_cons_self
        · rw [if_neg q] at h
          rw [h]
          exact List.mem_cons_self
      · exact List.mem_cons_of_mem _ (List.mem_cons_of_mem _ h)
    · by_cases q : lt3 z x = true
      · rw [if_pos q] at hf
        have q := (lt3_iff _ _).mp q
        rcases List.mem_cons.mp hy with h | hy
        · subst h
          refine (lt3_not _ _).mpr ?_
          omega
        · rcases List.mem_cons.mp hy with h | hy
          · subst h
            exact (lt3_not _ _).mpr hf
          · exact b y (List.mem_cons_of_mem _ hy)
      · rw [if_neg q] at hf
        have q : lt3 z x = false := by simpa using q
        have q := (lt3_not _ _).mp q
        rcases List.mem_cons.mp hy with h | hy
        · subst h
          exact (lt3_not _ _).mpr hf
        · rcases List.mem_cons.mp hy with h | hy
          · subst h
            refine (lt3_not _ _).mpr ?_
            omega
          · exact b y (List.mem_cons_of_mem _ hy)
theorem lt3_anti {a b : Tr} (h1 : lt3 a b = false) (h2 : lt3 b a = false) : a = b := by
  have h1 := (lt3_not _ _).mp h1
  have h2 := (lt3_not _ _).mp h2
  have : a.1 = b.1 ∧ a.2.1 = b.2.1 ∧ a.2.2 = b.2.2 := by omega
  obtain ⟨a1, a2, a3⟩ := a
  obtain ⟨b1, b2, b3⟩ := b
  simp only at this
  rw [this.1, this.2.1, this.2.2]
/-- the rows of the law: for ones to m, others to near -/
def rowsOf (one other : Nat) (m : Nat) : List Tr := (List.range m).flatMap fun i => (List.range (one * (i + 1) / other + 2)).map fun j => row one other (i + 1) (j + 1)
theorem mem_rows {one other m : Nat} {r : Tr} : r ∈ rowsOf one other m ↔ ∃ o t, 1 ≤ o ∧ o ≤ m ∧ 1 ≤ t ∧ t ≤ one * o / other + 2 ∧ r = row one other o t := by
  unfold rowsOf
  simp only [List.mem_flatMap, List.mem_map, List.mem_range]
  constructor
  · rintro ⟨i, hi, j, hj, rfl⟩
    exact ⟨i + 1, j + 1, by omega, by omega, by omega, by omega, rfl⟩
  · rintro ⟨o, t, h1, h2, h3, h4, rfl⟩
    refine ⟨o - 1, by omega, t - 1, ?_, ?_⟩
    · have : o - 1 + 1 = o := by omega
      rw [this]
      omega
    · have e1 : o - 1 + 1 = o := by omega
      have e2 : t - 1 + 1 = t := by omega
      rw [e1, e2]
theorem best_rows {one other m : Nat} {x : Tr} {xs : List Tr} (e : rowsOf one other m = x :: xs) {r : Tr} (h : Best one other m (some r)) : min3 x xs = r := by
  obtain ⟨h1, h2⟩ := min3_ok xs x
  rw [← e] at h1 h2
  refine lt3_anti ?_ ?_
  · obtain ⟨o, t, a1, a2, a3, a4, a5⟩ := mem_rows.mp h1
    rw [a5]
    exact h.1.le o t ⟨a1, a2, a3⟩
  · refine h2 r (mem_rows.mpr ⟨r.2.1, r.2.2, h.1.mem.1, h.1.mem.2.1, h.1.mem.2.2, h.2, h.1.eq⟩)
theorem rows_snoc (one other m : Nat) : rowsOf one other (m + 1) = rowsOf one other m ++ (List.range (one * (m + 1) / other + 2)).map fun j => row one other (m + 1) (j + 1) := by
  unfold rowsOf
  rw [List.range_succ, List.flatMap_append]
  simp
end MM
namespace MM
theorem best_is {one other m : Nat} {x r : Tr} (h : Best one other m (some r)) (hx : x = row one other x.2.1 x.2.2) (h1 : 1 ≤ x.2.1) (h2 : x.2.1 ≤ m) (h3 : 1 ≤ x.2.2) (hc : ∀ y ∈ rowsOf one other m, y = x ∨ lt3 x y = true) : r = x := by
  have hr : r ∈ rowsOf one other m := mem_rows.mpr ⟨r.2.1, r.2.2, h.1.mem.1, h.1.mem.2.1, h.1.mem.2.2, h.2, h.1.eq⟩
  rcases hc r hr with e | e
  · exact e
  · have := h.1.le x.2.1 x.2.2 ⟨h1, h2, h3⟩
    rw [← hx] at this
    rw [this] at e
    cases e
end MM
namespace MM
theorem sat_one {cs : Cyc} {a b : Nat} (ha : sat cs a) (hb : sat cs b) (la : a < lcmC cs) (lb : b < lcmC cs) : a = b := by
  have h : lcmC cs ∣ ((a : Int) - (b : Int)).natAbs := (lcmC_dvd cs _).mpr fun c hc => by
    rw [← nd]
    exact (mod_iff a b).mp ((ha c hc).trans (hb c hc).symm)
  have h2 := Nat.eq_zero_of_dvd_of_lt h (by omega)
  omega
def satB (cs : Cyc) (d : Nat) : Bool := cs.all fun c => decide (d % c.1 = c.2)
theorem satB_iff {cs : Cyc} {d : Nat} : satB cs d = true ↔ sat cs d := by
  unfold satB sat
  simp
/-- the days below W -/
def daysB (cs : Cyc) (W : Nat) : List Nat := (List.range W).filter (satB cs)
theorem daysB_mem {cs : Cyc} {W d : Nat} : d ∈ daysB cs W ↔ d < W ∧ sat cs d := by
  unfold daysB
  rw [List.mem_filter, List.mem_range, satB_iff]
theorem daysB_none {cs : Cyc} (hp : 0 < lcmC cs) (h : ∀ d, ¬ sat cs d) : daysB cs (lcmC cs) = [] := by
  rw [List.eq_nil_iff_forall_not_mem]
  exact fun d hd => h d (daysB_mem.mp hd).2
theorem daysB_some {cs : Cyc} {d : Nat} (hs : sat cs d) (hd : d < lcmC cs) : ∃ r, daysB cs (lcmC cs) = d :: r := by
  cases h : daysB cs (lcmC cs) with
  | nil =>
    have : d ∈ daysB cs (lcmC cs) := daysB_mem.mpr ⟨hd, hs⟩
    rw [h] at this
    cases this
  | cons x r =>
    have hx := daysB_mem.mp (show x ∈ daysB cs (lcmC cs) by rw [h]; exact List.mem_cons_self)
    rw [sat_one hx.2 hs hx.1 hd]
    exact ⟨r, rfl⟩
end MM

set_option Elab.async false
set_option linter.all false
set_option maxRecDepth 100000
set_option maxHeartbeats 2000000
/-! How heaps grow: what stays, what may change; facts of data. -/
namespace MB
open PySem PySem.Spec PyProof.Rows L2

/-- the tables of the law: gen for generator expressions, lam for lambdas -/
structure Tb where
  gen : List Addr
  lam : List (Addr × Str)
def Gd (T : Tb) (H : Hp) : Prop := (∀ p ∈ T.gen, GxR.TabG H p) ∧ ∀ p ∈ T.lam, LamX.TabS H p.1 p.2
def TOk (T : Tb) : Prop := ∀ p ∈ T.gen, ∀ q ∈ T.lam, q.1 ≠ p

/-- never written -/
def fixB : HO → Bool
  | .lst _ => false | .dK _ => false | .dT _ => false | .set _ _ => false | .tbl _ => false | .rng _ _ => false | .xd _ => false | .frz _ _ => false
  | _ => true
/-- H' comes after H: only what stands at M may have been written -/
structure Ext (T : Tb) (M : Addr → Prop) (H H' : Hp) : Prop where
  fix : ∀ b o, H b = some o → fixB o = true → H' b = some o
  lst : ∀ b xs, H b = some (.lst xs) → ¬ M b → H' b = some (.lst xs)
  dk : ∀ b xs, H b = some (.dK xs) → ¬ M b → H' b = some (.dK xs)
  frz : ∀ b o u, H b = some (.frz o u) → H' b = some (.frz o u)
  gd : Gd T H → Gd T H'
abbrev No : Addr → Prop := fun _ => False
section
variable {T : Tb} {M M' : Addr → Prop} {H H1 H2 : Hp}
theorem Ext.refl : Ext T M H H := ⟨fun _ _ h _ => h, fun _ _ h _ => h, fun _ _ h _ => h, fun _ _ _ h => h, id⟩
theorem Ext.trans (a : Ext T M H H1) (b : Ext T M H1 H2) : Ext T M H H2 :=
  ⟨fun c o h n => b.fix c o (a.fix c o h n) n, fun c o h n => b.lst c o (a.lst c o h n) n, fun c o h n => b.dk c o (a.dk c o h n) n, fun c o u h => b.frz c o u (a.frz c o u h), fun g => b.gd (a.gd g)⟩
theorem Ext.more (a : Ext T M H H1) (h : ∀ b, M b → M' b) : Ext T M' H H1 := ⟨a.fix, fun b xs e n => a.lst b xs e fun z => n (h b z), fun b xs e n => a.dk b xs e fun z => n (h b z), a.frz, a.gd⟩
theorem Ext.no (a : Ext T No H H1) : Ext T M H H1 := a.more fun _ z => z.elim
/-- nothing that may be written stands at b -/
def NoM (H : Hp) (b : Addr) : Prop := (∀ xs, H b ≠ some (.lst xs)) ∧ ∀ xs, H b ≠ some (.dK xs)
theorem NoM.of {b : Addr} (h : H b = none) : NoM H b := ⟨fun xs z => (by rw [h] at z; cases z), fun xs z => (by rw [h] at z; cases z)⟩
theorem NoM.back {b : Addr} (e : Ext T M H H1) (hM : ¬ M b) (h : NoM H1 b) : NoM H b := ⟨fun xs z => h.1 xs (e.lst b xs z hM), fun xs z => h.2 xs (e.dk b xs z hM)⟩
theorem Ext.fresh {b : Addr} (e : Ext T No H H1) (h : H1 b = none) : NoM H b := NoM.back e id (NoM.of h)
theorem Ext.mono {N : Addr → Prop} (a : Ext T M H H1) (h : ∀ b, M b → N b ∨ NoM H b) : Ext T N H H1 :=
  ⟨a.fix, fun b xs e n => a.lst b xs e fun z => (h b z).elim n fun q => q.1 xs e, fun b xs e n => a.dk b xs e fun z => (h b z).elim n fun q => q.2 xs e, a.frz, a.gd⟩
theorem Ext.mono1 {l : Addr} (a : Ext T (· = l) H H1) (h : NoM H l) : Ext T No H H1 := a.mono fun b z => .inr (by rw [z]; exact h)
theorem upd_keep {p a : Addr} {o x : HO} (hp : H p = none) (h : H a = some x) : upd H p o a = some x := by
  rw [upd_ne fun z => by subst z; rw [hp] at h; cases h]
  exact h
theorem Gd.keep (g : Gd T H) (k : ∀ b o, H b = some o → H1 b = some o) : Gd T H1 := ⟨fun p hp => let ⟨ps, e, t⟩ := g.1 p hp; ⟨ps, k _ _ e, t⟩, fun p hp => (g.2 p hp).ext k⟩
/-- a new object -/
theorem Ext.new {p : Addr} {o : HO} (hp : H p = none) : Ext T M H (upd H p o) :=
  ⟨fun _ _ h _ => upd_keep hp h, fun _ _ h _ => upd_keep hp h, fun _ _ h _ => upd_keep hp h, fun _ _ _ h => upd_keep hp h, fun g => g.keep fun _ _ h => upd_keep hp h⟩
theorem upd_mut {p a : Addr} {xs : List V} {o x : HO} (hp : H p = some (.lst xs)) (h : H a = some x) (n : ∀ ys, x ≠ .lst ys) : upd H p o a = some x := by
  rw [upd_ne fun z => by subst z; rw [hp] at h; exact n xs (Option.some.inj h).symm]
  exact h
/-- a list written -/
theorem Ext.set {p : Addr} {xs : List V} {o : HO} (hp : H p = some (.lst xs)) (hM : M p) : Ext T M H (upd H p o) := by
  refine ⟨fun b u h n => upd_mut hp h fun ys z => (by subst z; cases n), fun b ys h n => ?_, fun b ys h n => upd_mut hp h fun ys z => (nomatch z), fun b o' u h => upd_mut hp h fun ys z => (nomatch z), fun g => ⟨fun q hq => ?_, fun q hq => ?_⟩⟩
  · rw [upd_ne fun z => n (by rw [z]; exact hM)]
    exact h
  · obtain ⟨ps, e, t⟩ := g.1 q hq
    exact ⟨ps, upd_mut hp e fun ys z => (nomatch z), t⟩
  · obtain ⟨ps, e, t, h3⟩ := g.2 q hq
    refine ⟨ps, upd_mut hp e fun ys z => (nomatch z), t, fun pos cv hc => ?_⟩
    obtain ⟨c, e1, e2⟩ := h3 pos cv hc
    exact ⟨c, e1, upd_mut hp e2 fun ys z => (by unfold LamX.CodeO at z; cases z)⟩
/-- a table of generator expressions grown -/
theorem Ext.tab {p : Addr} (ok : TOk T) (hp : p ∈ T.gen) (t : GxR.TabG H p) (h : GxR.Tabbed p H H1) : Ext T M H H1 := by
  obtain ⟨h1, h2⟩ := h
  obtain ⟨ps, e0, t0⟩ := t
  have key : ∀ b o, H b = some o → (∀ ps, o ≠ .tbl ps) → H1 b = some o := fun b o e n => by
    rw [h2 b fun z => by subst z; rw [e0] at e; exact n ps (Option.some.inj e).symm]
    exact e
  refine ⟨fun b u h n => key b u h fun ys z => (by subst z; cases n), fun b ys h n => key b _ h fun ys z => (nomatch z), fun b ys h n => key b _ h fun ys z => (nomatch z), fun b o' u h => key b _ h fun ys z => (nomatch z), fun g => ⟨fun q hq => ?_, fun q hq => ?_⟩⟩
  · by_cases e : q = p
    · rw [e]; exact h1
    · obtain ⟨ps, e2, t2⟩ := g.1 q hq
      exact ⟨ps, by rw [h2 q e]; exact e2, t2⟩
  · obtain ⟨ps, e2, t2, h3⟩ := g.2 q hq
    refine ⟨ps, by rw [h2 q.1 (ok p hp q hq)]; exact e2, t2, fun pos cv hc => ?_⟩
    obtain ⟨c, e3, e4⟩ := h3 pos cv hc
    exact ⟨c, e3, key c _ e4 fun ys z => (by unfold LamX.CodeO at z; cases z)⟩
/-- what lambdas leave -/
theorem Ext.lamN (h : LamX.ExtN H H1) (hT : ∀ p ∈ T.gen, ∀ ps, H p = some (.tbl ps) → H1 p = some (.tbl ps)) (hL : LamX.Tabs T.lam H1) : Ext T M H H1 :=
  ⟨fun b u e n => h b u e fun ys z => (by subst z; cases n), fun b ys e n => h b _ e fun ys z => (nomatch z), fun b ys e n => h b _ e fun ys z => (nomatch z), fun b o u e => h b _ e fun ys z => (nomatch z),
    fun g => ⟨fun p hp => let ⟨ps, e, t⟩ := g.1 p hp; ⟨ps, hT p hp ps e, t⟩, hL⟩⟩
end

/-! ### the rule for a def whose code object is known -/
section
variable {P : Program} {w : World} {K : PySem.W.Frag} {mg : Str → Option Value} {base : Heap} {x qual : Str} {params : Arguments} {body : List Stmt} {scope : Scope} {dvs : List V} {kws : List (Str × V)} {fd : FuncData}
theorem FunD.okC {CX : CXT} {N ps : List Str} {k : Nat} {sp : Sp} {d : He.Defn} (F : FunD K x qual params body scope dvs kws (He.fAd K d) fd) (S : FnScope N ps scope) (len : ∀ vs H Q E, sp vs H Q E → vs.length = ps.length)
    (hbody : ∀ (A : Around) (outer : List Env) (s : Shared) (H : Hp) (vs : List V) (Q : VK) (E : XK), Room k (A.deeper (envOfC qual scope s.heap.objs.size (He.fAd K d) (.ref (He.cT K d).1))) → sp vs H Q E →
      ∃ t, PSs (cxOf CX P w K mg base N qual scope (He.fAd K d) (.ref (He.cT K d).1) A outer s H E) body t ∧ t { nx := fun _ H' => Q .non H', rt := Q } (start N vs) H) : FnOk P w K mg base CX (k + 1) (He.fAd K d) fd ps sp := by
  have F0 := F
  obtain ⟨oc, od, dV, kV, doc, pm, an, cdv, ct, osl, rfl, lk, hcd, _, _⟩ := F.ex
  obtain ⟨c, hc⟩ := He.codeIn_ref hcd
  have e : He.codeOf K d = c := He.codeOf_eq lk hc
  subst hc
  have e2 : (He.cT K d).1 = c := e
  refine fn_of lk hcd S len fun A outer s H vs Q E hr hsp => ?_
  rw [e2] at hbody
  exact hbody A outer s H vs Q E hr hsp
end
end MB
namespace MB
theorem ifB {c : Bool} {A B : Prop} (h1 : c = true → A) (h0 : c = false → B) : if c = true then A else B := by
  cases c with
  | true => exact h1 rfl
  | false => exact h0 rfl
end MB
namespace MB
open PySem PySem.Spec PyProof.Rows L2
/-! ### a list or a tuple, walked by for -/
def Its2 (K : PySem.W.Frag) (a : Addr) (J : It) (H : Hp) : Prop := ((∃ xs, SqL K H a xs) ∧ J = Itl K a) ∨ ((∃ xs, SqT K H a xs) ∧ J = Itt K a)
def iSeq (K : PySem.W.Frag) (tl : TE) : TI := fun σ H R => tl σ H fun x H1 => ∃ a, x = .ref a ∧ (((∃ xs, SqL K H1 a xs) ∧ R (Itl K a) H1) ∨ ((∃ xs, SqT K H1 a xs) ∧ R (Itt K a) H1))
section
variable {X : Cx}
theorem pi_seq {tg l : Expr} {tl : TE} (hl : PE X l tl) : PI X tg l (iSeq X.K tl) := by
  refine ⟨fun pins s σ H R I h => ?_⟩
  refine thn (hl.run pins s σ H _ I h) fun v s1 ⟨x, H1, I1, r1, q1⟩ => ?_
  obtain ⟨a, e, q1⟩ := q1
  subst e
  cases r1
  have key : ∀ b ∈ [s1.heap.objs.size], FpOk X pins H1 b := fun b hb => by
    have e : b = s1.heap.objs.size := by simpa using hb
    subst e
    exact I1.fpOk (Nat.le_refl _) (I1.hok.fresh (Nat.le_refl _))
  rcases q1 with ⟨⟨xs, hq⟩, q⟩ | ⟨⟨xs, hq⟩, q⟩
  · obtain ⟨its, rv, p, hz⟩ := I1.list hq
    refine wpAny_pyIter_list p.isList ?_
    exact ⟨s1.heap.objs.size, [s1.heap.objs.size], _, _, H1, rfl, I1.kept (t' := s1.toks) fun b o e => Heap.get?_push_of_some _ e, turn_list a _, ⟨_, Heap.get?_push_size _ rfl, rfl, rfl⟩, key, q⟩
  · obtain ⟨its, rv, p, hz⟩ := I1.tuple hq
    refine wpAny_pyIter_tuple (show s1.heap.IsTuple a its.toArray from p) ?_
    exact ⟨s1.heap.objs.size, [s1.heap.objs.size], _, _, H1, rfl, I1.kept (t' := s1.toks) fun b o e => Heap.get?_push_of_some _ e, turn_tuple a _, ⟨_, Heap.get?_push_size _ rfl, rfl, rfl⟩, key, q⟩
end
/-! ### data that may be compared -/
def ShK (k : Nat) (d : PyData) : Prop := d.canLay0 = true ∧ d.depth ≤ k
theorem ShK.ok {k : Nat} {d : PyData} (h : ShK k d) (hk : k ≤ 64 := by decide) : SeqAt.shaped d = true := by
  unfold SeqAt.shaped
  rw [h.1, Bool.true_and]
  exact decide_eq_true (Nat.le_trans h.2 hk)
theorem ShK.int (k : Nat) (i : Int) : ShK k (.int i) := ⟨rfl, Nat.zero_le _⟩
theorem ShK.bl (k : Nat) (b : Bool) : ShK k (.bool b) := ⟨rfl, Nat.zero_le _⟩
theorem ShK.non (k : Nat) : ShK k .none := ⟨rfl, Nat.zero_le _⟩
theorem shAll {k : Nat} : ∀ {ds : List PyData}, (∀ d ∈ ds, ShK k d) → PyData.canLayAll0 ds = true ∧ PyData.depthAll ds ≤ k
  | [], _ => ⟨rfl, Nat.zero_le _⟩
  | d :: ds, h => by
    obtain ⟨a, b⟩ := shAll fun x hx => h x (List.mem_cons_of_mem _ hx)
    obtain ⟨a1, b1⟩ := h d List.mem_cons_self
    refine ⟨?_, ?_⟩
    · show (PyData.canLay0 d && PyData.canLayAll0 ds) = true
      rw [a, a1]; rfl
    · show max (PyData.depth d) (PyData.depthAll ds) ≤ k
      omega
theorem ShK.lst {k : Nat} {ds : List PyData} (h : ∀ d ∈ ds, ShK k d) : ShK (k + 1) (.list ds) := ⟨(shAll h).1, Nat.succ_le_succ (shAll h).2⟩
theorem ShK.tup {k : Nat} {ds : List PyData} (h : ∀ d ∈ ds, ShK k d) : ShK (k + 1) (.tuple ds) := ⟨(shAll h).1, Nat.succ_le_succ (shAll h).2⟩
section
variable {K : PySem.W.Frag} {H : Hp}
theorem dpAll_of {α : Type} {f : α → V} {g : α → PyData} : ∀ {l : List α}, (∀ x ∈ l, Dp K H (f x) (g x)) → DpAll K H (l.map f) (l.map g)
  | [], _ => .nil
  | x :: l, h => .cons (h x List.mem_cons_self) (dpAll_of fun y hy => h y (List.mem_cons_of_mem _ hy))
theorem dpAll_get : ∀ {xs : List V} {ds : List PyData}, xs.length = ds.length → (∀ (i : Nat) (x : V) (d : PyData), xs[i]? = some x → ds[i]? = some d → Dp K H x d) → DpAll K H xs ds
  | [], [], _, _ => .nil
  | x :: xs, d :: ds, hl, h => .cons (h 0 x d rfl rfl) (dpAll_get (by simpa using hl) fun i y e h1 h2 => h (i + 1) y e (by simpa using h1) (by simpa using h2))
  | [], _ :: _, hl, _ => by simp at hl
  | _ :: _, [], hl, _ => by simp at hl
end
theorem eqvAll_map {α : Type} [DecidableEq α] {g : α → PyData} (h : ∀ x y, PyData.eqv (g x) (g y) = decide (x = y)) : ∀ l m : List α, PyData.eqvAll (l.map g) (m.map g) = decide (l = m)
  | [], [] => rfl
  | [], _ :: _ => rfl
  | _ :: _, [] => rfl
  | x :: l, y :: m => by
    show (PyData.eqv (g x) (g y) && PyData.eqvAll (l.map g) (m.map g)) = _
    rw [h x y, eqvAll_map h l m]
    by_cases h1 : x = y <;> by_cases h2 : l = m <;> simp [h1, h2]
theorem eqv_int (i j : Int) : PyData.eqv (.int i) (.int j) = decide (i = j) := by
  show (i == j) = _
  by_cases h : i = j <;> simp [h]
theorem eqv_bl (i j : Bool) : PyData.eqv (.bool i) (.bool j) = decide (i = j) := by
  cases i <;> cases j <;> rfl
theorem eqv_nil {ds : List PyData} (h : ds ≠ []) : PyData.eqv (.list ds) (.list []) = false := by
  cases ds with
  | nil => exact absurd rfl h
  | cons _ _ => rfl
/-! ### rules, leaps -/
def RulesT (H : Hp) (ts : List Addr) (rs : MM.Rules) : Prop := ts.length = rs.length ∧ ∀ (i : Nat) (t : Addr) (r : Nat × Bool), ts[i]? = some t → rs[i]? = some r → H t = some (.tup [.int ((r.1 : Nat) : Int), .bl r.2])
theorem RulesT.ext {T : Tb} {M : Addr → Prop} {H H' : Hp} {ts : List Addr} {rs : MM.Rules} (h : RulesT H ts rs) (e : Ext T M H H') : RulesT H' ts rs := ⟨h.1, fun i t r h1 h2 => e.fix _ _ (h.2 i t r h1 h2) rfl⟩
theorem RulesT.get {H : Hp} {ts : List Addr} {rs : MM.Rules} (h : RulesT H ts rs) {i : Nat} {v : V} (e : (ts.map V.ref)[i]? = some v) : ∃ t r, v = .ref t ∧ ts[i]? = some t ∧ rs[i]? = some r ∧ H t = some (.tup [.int ((r.1 : Nat) : Int), .bl r.2]) := by
  rw [List.getElem?_map] at e
  cases e1 : ts[i]? with
  | none => rw [e1] at e; cases e
  | some t =>
    rw [e1] at e
    cases e
    have hi := (List.getElem?_eq_some_iff.mp e1).1
    have hj : i < rs.length := h.1 ▸ hi
    have h2 := List.getElem?_eq_getElem (l := rs) hj
    exact ⟨t, _, rfl, rfl, h2, h.2 i t _ e1 h2⟩
theorem RulesT.at {H : Hp} {ts : List Addr} {rs : MM.Rules} (h : RulesT H ts rs) {i : Nat} (hi : i < rs.length) : ∃ t r, (ts.map V.ref)[i]? = some (.ref t) ∧ rs[i]? = some r ∧ H t = some (.tup [.int ((r.1 : Nat) : Int), .bl r.2]) := by
  have hi2 : i < ts.length := by rw [h.1]; exact hi
  have e1 : (ts.map V.ref)[i]? = some (.ref ts[i]) := by rw [List.getElem?_map, List.getElem?_eq_getElem hi2]; rfl
  obtain ⟨t, r, e2, e3, e4, e5⟩ := h.get e1
  exact ⟨t, r, by rw [e1, e2], e4, e5⟩
def LeapsAt (C : Addr) (H : Hp) (a : Addr) (rs : MM.Rules) : Prop := ∃ dx p ts, H a = some (.ins C dx [("rules", .ref p)]) ∧ H p = some (.tup (ts.map V.ref)) ∧ RulesT H ts rs
theorem LeapsAt.ext {T : Tb} {M : Addr → Prop} {C : Addr} {H H' : Hp} {a : Addr} {rs : MM.Rules} (h : LeapsAt C H a rs) (e : Ext T M H H') : LeapsAt C H' a rs := by
  obtain ⟨dx, p, ts, h1, h2, h3⟩ := h
  exact ⟨dx, p, ts, e.fix _ _ h1 rfl, e.fix _ _ h2 rfl, h3.ext e⟩
/-- what Leaps lets in, and a bound on what its rules have in common -/
structure ROk (rs : MM.Rules) : Prop where
  pos : 0 < rs.length
  six : rs.length ≤ 6
  rng : ∀ r ∈ rs, 1 ≤ r.1 ∧ r.1 ≤ 4000
  asc : ∀ (i : Nat) (a b : Nat × Bool), rs[i]? = some a → rs[i + 1]? = some b → a.1 < b.1
  lcm : MM.lcmA rs < 2 ^ 30
theorem atI_of {α : Type} {xs : List α} {j : Int} {i : Nat} {x : α} (e : j = (i : Int)) (h : xs[i]? = some x) : atI xs j = some x := by
  subst e
  exact atI_nat h
end MB
namespace MB
open PySem PySem.Spec PyProof.Rows L2
section
variable {X : Cx} {T : Tb}
/-! ### rules whose heaps are told by Ext -/
def tTupN (T : Tb) (t : TA) : TE := fun σ H Q => t σ H fun xs H1 => xs.length ≤ sizeLine ∧ ∀ p H2, H1 p = none → H2 p = some (.tup xs) → Ext T No H1 H2 → Q (.ref p) H2
def tLstN (T : Tb) (t : TA) : TE := fun σ H Q => t σ H fun xs H1 => xs.length ≤ sizeLine ∧ ∀ p H2, H1 p = none → H2 p = some (.lst xs) → Ext T No H1 H2 → Q (.ref p) H2
theorem pe_tupN {es : List Expr} {k : Nat} {pos : Pos} {t : TA} (h : PA X es t) : PE X (.Tuple es k pos) (tTupN T t) := by
  refine ⟨fun pins s σ H Q I hq => ?_⟩
  refine wpAny_Tuple_spliced (thn (h.run pos pins s σ H _ I hq) fun us s1 ⟨xs, H1, I1, r, z, q⟩ => ⟨by rw [← r.length]; exact z, ?_⟩)
  have hf : H1 s1.heap.objs.size = none := I1.hok.fresh (Nat.le_refl _)
  refine ⟨.ref s1.heap.objs.size, upd H1 s1.heap.objs.size (.tup xs), I1.laid (t' := s1.toks) (fun b u e => Heap.get?_push_of_some _ e) (Nat.le_refl _) ?_, rfl, q _ _ hf upd_same (Ext.new hf)⟩
  exact ⟨z, us, r, ⟨_, Heap.get?_push_size _ rfl, rfl, _, rfl⟩⟩
theorem pe_lstN {es : List Expr} {pos : Pos} {t : TA} (h : PA X es t) : PE X (.List es pos) (tLstN T t) := by
  refine ⟨fun pins s σ H Q I hq => ?_⟩
  refine wpAny_List_spliced (thn (h.run pos pins s σ H _ I hq) fun us s1 ⟨xs, H1, I1, r, z, q⟩ => ⟨by rw [← r.length]; exact z, ?_⟩)
  have hf : H1 s1.heap.objs.size = none := I1.hok.fresh (Nat.le_refl _)
  refine ⟨.ref s1.heap.objs.size, upd H1 s1.heap.objs.size (.lst xs), I1.laid (t' := s1.toks) (fun b u e => Heap.get?_push_of_some _ e) (Nat.le_refl _) ?_, rfl, q _ _ hf upd_same (Ext.new hf)⟩
  exact ⟨z, us, 0, r, Heap.get?_push_size _ rfl⟩
def rAppN (T : Tb) : V → List V → Hp → VK → Prop := fun x vs H Q => ∃ l xs y, x = .ref l ∧ vs = [y] ∧ H l = some (.lst xs) ∧ xs.length < sizeLine ∧ ∀ H2, H2 l = some (.lst (xs ++ [y])) → Ext T (· = l) H H2 → Q .non H2
theorem mt_appN : MtM X "list.append" (rAppN T) := by
  intro pins s σ H x vs v us Q I rx rv ⟨l, xs, y, e1, e2, h, hz, q⟩
  exact mt_append pins s σ H x vs v us Q I rx rv ⟨l, xs, y, e1, e2, h, hz, q _ upd_same (Ext.set h rfl)⟩
def rPopN (T : Tb) : V → List V → Hp → VK → Prop := fun x vs H Q => ∃ l xs y, x = .ref l ∧ vs = [] ∧ H l = some (.lst (xs ++ [y])) ∧ ∀ H2, H2 l = some (.lst xs) → Ext T (· = l) H H2 → Q y H2
theorem mt_popN : MtM X "list.pop" (rPopN T) := by
  intro pins s σ H x vs v us Q I rx rv ⟨l, xs, y, e1, e2, h, q⟩
  refine mt_pop pins s σ H x vs v us Q I rx rv ⟨l, xs ++ [y], y, e1, e2, h, by simp, ?_⟩
  rw [List.dropLast_concat]
  exact q _ upd_same (Ext.set h rfl)
def rSlLN (T : Tb) (K : PySem.W.Frag) : V → Option Int → Option Int → Hp → VK → Prop := fun x lo hi H Q => ∃ a xs, x = .ref a ∧ SqL K H a xs ∧ ∀ p H2, H p = none → H2 p = some (.lst (cutV xs lo hi)) → Ext T No H H2 → Q (.ref p) H2
theorem sl_listN : SlR X (rSlLN T X.K) := by
  intro pins s σ H x v vl vu lo hi sl Q I rx hs pl pu ⟨a, xs, e, h, q⟩
  exact sl_list pins s σ H x v vl vu lo hi sl Q I rx hs pl pu ⟨a, xs, e, h, fun p hp => q p _ hp upd_same (Ext.new hp)⟩
def rDictPN (T : Tb) (K : PySem.W.Frag) : List V → Hp → VK → Prop := fun xs H Q => ∃ (a : Addr) (ps : List Addr) (kvs : List (Key × V)), xs = [.ref a] ∧ SqL K H a (ps.map V.ref) ∧ Paired (fun p kv => SqT K H p [kV kv.1, kv.2]) ps kvs ∧ ∀ p H2, H p = none → H2 p = some (.dK (mergeK [] kvs)) → Ext T No H H2 → Q (.ref p) H2
theorem call_dictPN (hcalm : X.calm = true) : CallR X (.type "dict") (rDictPN T X.K) := by
  intro pins s σ H xs us Q I r ⟨a, ps, kvs, e, h1, h2, q⟩
  exact call_dictP hcalm pins s σ H xs us Q I r ⟨a, ps, kvs, e, h1, h2, fun p hp => q p _ hp upd_same (Ext.new hp)⟩
def rSortDN (T : Tb) : List V → Hp → VK → Prop := fun xs H Q => ∃ (a : Addr) (kvs : List (Key × V)) (ks : List Int), xs = [.ref a] ∧ H a = some (.dK kvs) ∧ kvs.map (·.1) = ks.map Sum.inl ∧ ks.length < 64 ∧
    ∀ (ys : List Int) (p : Addr) (H2 : Hp), ys.Perm ks → ys.Pairwise (· ≤ ·) → H p = none → H2 p = some (.lst (ys.map V.int)) → Ext T No H H2 → Q (.ref p) H2
theorem call_sortDN (hcalm : X.calm = true) : CallR X (.builtin "sorted") (rSortDN T) := by
  intro pins s σ H xs us Q I r ⟨a, kvs, ks, e, h1, h2, h3, q⟩
  exact call_sortedDI hcalm pins s σ H xs us Q I r ⟨a, kvs, ks, e, .inl h1, h2, h3, fun ys p g1 g2 hp => q ys p _ g1 g2 hp upd_same (Ext.new hp)⟩
/-! ### xs.count(b) of a list of bools -/
def eqb (b : Bool) : Value → Bool := fun v => match v with
  | .bool c => c == b
  | _ => false
theorem bls_of : ∀ {bs : List Bool} {us : List Value}, Vals (bs.map V.bl) us → us = bs.map Value.bool
  | [], _, .nil => rfl
  | b :: bs, _, .cons r t => by
    cases r
    rw [bls_of t]
    rfl
def rCntB (K : PySem.W.Frag) : V → List V → Hp → VK → Prop := fun x xs H Q => ∃ (p : Addr) (bs : List Bool) (b : Bool), x = .ref p ∧ xs = [.bl b] ∧ SqL K H p (bs.map V.bl) ∧ Q (.int (bs.count b : Nat)) H
theorem mt_countB : MtR X "list.count" (rCntB X.K) := by
  intro pins s σ H x xs v us Q I rx rxs h
  obtain ⟨p, bs, b, rfl, rfl, hs, q⟩ := h
  cases rx
  obtain ⟨u, rfl, ru⟩ := rxs.one
  cases ru
  obtain ⟨its, rv, ⟨⟨cls, dd, data, sl⟩, n, ho, hc, hdn, hd⟩, hlen⟩ := I.list hs
  simp only at hc hd
  subst hc hd
  have hi := bls_of rv
  refine call_meets PySem.F.slot_list_count ⟨_, ho, rfl⟩ PySem.F.entry_list_count (PySem.F.args_list_count_2 _ _)
    (SeqAt.list_countAt p its.toArray n dd sl (.bool b) (eqb b)) ⟨ho, fun y hy => ?_, ?_⟩
  · have hy : y ∈ its := by simpa using hy
    rw [hi] at hy
    obtain ⟨c, _, rfl⟩ := List.mem_map.mp hy
    exact SeqAt.EqAt.bool_bool c b
  · have ec : its.toArray.toList.countP (eqb b) = bs.count b := by
      show its.countP (eqb b) = _
      rw [hi, List.countP_map]
      rfl
    refine ⟨.int (bs.count b : Nat), H, I.tok _, ⟨s.toks, ?_⟩, q⟩
    show Value.int ((its.toArray.toList.countP (eqb b) : Nat) : Int) s.toks = Value.int ((bs.count b : Nat) : Int) s.toks
    rw [ec]
end
/-! ### the turns of a generator expression over a list, a tuple, a zip -/
section
variable {K : PySem.W.Frag} {a : Addr} {xs : List V} {g : TG} {te : TE} {vs : List Nat} {σ : L2.St} {Cn : MG.CnT} {Qe : List V → Hp → Prop}
theorem turns_tup (Pv : Nat → List V → Hp → Prop) (hl : ∀ i ys H, i ≤ xs.length → Pv i ys H → SqT K H a xs)
    (hs : ∀ i ys x H, xs[i]? = some x → Pv i ys H → g x (wipe σ vs) H fun σ2 H3 => wipe σ2 vs = wipe σ vs ∧ te σ2 H3 fun y H4 => Cn ys y H4 (∃ m', m' < xs.length - i ∧ m' = xs.length - (i + 1) ∧ i + 1 ≤ xs.length ∧ Pv (i + 1) (ys ++ [y]) H4))
    (hd : ∀ ys H, Pv xs.length ys H → Qe ys H) : MG.Turns (Itt K a) g te vs σ Cn Qe (fun i m ys H => m = xs.length - i ∧ i ≤ xs.length ∧ Pv i ys H) := by
  rintro i m ys H ⟨rfl, hi, p⟩
  have q := hl i ys H hi p
  by_cases hlt : i < xs.length
  · refine .inr ⟨⟨xs, xs[i], q, by simp [hlt]⟩, by omega, ?_⟩
    rintro x H' ⟨rfl, y⟩
    exact hs i ys x H' (y xs q) p
  · have e : i = xs.length := by omega
    subst e
    exact .inl ⟨⟨xs, q, Nat.le_refl _⟩, hd ys H p⟩
theorem turns_list (Pv : Nat → List V → Hp → Prop) (hl : ∀ i ys H, i ≤ xs.length → Pv i ys H → SqL K H a xs)
    (hs : ∀ i ys x H, xs[i]? = some x → Pv i ys H → g x (wipe σ vs) H fun σ2 H3 => wipe σ2 vs = wipe σ vs ∧ te σ2 H3 fun y H4 => Cn ys y H4 (∃ m', m' < xs.length - i ∧ m' = xs.length - (i + 1) ∧ i + 1 ≤ xs.length ∧ Pv (i + 1) (ys ++ [y]) H4))
    (hd : ∀ ys H, Pv xs.length ys H → Qe ys H) : MG.Turns (Itl K a) g te vs σ Cn Qe (fun i m ys H => m = xs.length - i ∧ i ≤ xs.length ∧ Pv i ys H) := by
  rintro i m ys H ⟨rfl, hi, p⟩
  have q := hl i ys H hi p
  by_cases hlt : i < xs.length
  · refine .inr ⟨⟨xs, xs[i], q, by simp [hlt]⟩, by omega, ?_⟩
    rintro x H' ⟨rfl, y⟩
    exact hs i ys x H' (y xs q) p
  · have e : i = xs.length := by omega
    subst e
    exact .inl ⟨⟨xs, q, Nat.le_refl _⟩, hd ys H p⟩
theorem turns_zipT {b : Addr} {zs : List V} (Pv : Nat → List V → Hp → Prop) (hn : zs.length ≤ xs.length) (hl : ∀ i ys H, i ≤ zs.length → Pv i ys H → SqT K H a xs ∧ SqT K H b zs)
    (hs : ∀ i ys x z t H, xs[i]? = some x → zs[i]? = some z → Pv i ys H → H t = none → g (.ref t) (wipe σ vs) (upd H t (.tup [x, z])) fun σ2 H3 => wipe σ2 vs = wipe σ vs ∧ te σ2 H3 fun y H4 => Cn ys y H4 (∃ m', m' < zs.length - i ∧ m' = zs.length - (i + 1) ∧ i + 1 ≤ zs.length ∧ Pv (i + 1) (ys ++ [y]) H4))
    (hd : ∀ ys H, Pv zs.length ys H → Qe ys H) : MG.Turns (RZ.ItzT K a b) g te vs σ Cn Qe (fun i m ys H => m = zs.length - i ∧ i ≤ zs.length ∧ Pv i ys H) := by
  rintro i m ys H ⟨rfl, hi, p⟩
  obtain ⟨q1, q2⟩ := hl i ys H hi p
  by_cases hlt : i < zs.length
  · have hlt2 : i < xs.length := by omega
    refine .inr ⟨⟨xs, zs, xs[i], zs[i], q1, q2, by simp [hlt2], by simp [hlt]⟩, by omega, ?_⟩
    rintro x H' ⟨t, x, z, rfl, ht, rfl, y1, y2⟩
    exact hs i ys x z t H (y1 xs q1) (y2 zs q2) p ht
  · have e : i = zs.length := by omega
    subst e
    exact .inl ⟨⟨xs, zs, q1, q2, .inr (Nat.le_refl _)⟩, hd ys H p⟩
end
end MB
namespace MB
open PySem PySem.Spec PyProof.Rows L2
/-! ### the same rules, K by name -/
section
variable {X : Cx} {K : PySem.W.Frag}
theorem ix_tupK (h : X.K = K) : IxR X (rIxT K) := by subst h; exact ix_tup
theorem ix_listK (h : X.K = K) : IxR X (rIxL K) := by subst h; exact ix_list
theorem pe_fldK {e : Expr} {f : Str} {pos : Pos} {ta : TE} (h : X.K = K) (he : PE X e ta) (hb : attributeBase e f X.env (eval e X.env) = eval e X.env) : PE X (.Attribute e f pos) (tFld K ta f) := by subst h; exact pe_fld he hb
theorem pg_tupK {es : List Expr} {k : Nat} {pos : Pos} {t : TGs} {n : Nat} (h : X.K = K) (hc : X.calm = true) (ht : PGs X es t)
    (hn : (assignEach es X.env).length = n := by rfl) (hst : (assignEach es X.env).findIdx? (·.1) = none := by rfl) : PG X (.Tuple es k pos) (gTup K n t) := by subst h; exact pg_tup hc ht hn hst
def rLenS (K : PySem.W.Frag) : List V → Hp → VK → Prop := fun xs H Q => ∃ p ys, xs = [.ref p] ∧ (SqL K H p ys ∨ SqT K H p ys) ∧ Q (.int ys.length) H
theorem call_lenK (h : X.K = K) : CallR X (.builtin "len") (rLenS K) := by subst h; exact call_len_seq
theorem op_eqDK (h : X.K = K) (hu : X.A.units + 64 < cLine) : OpR X (compareOp .Eq) (rEqD K) := by subst h; exact op_eqD hu
theorem op_neDK (h : X.K = K) (hu : X.A.units + 64 < cLine) : OpR X (compareOp .NotEq) (rNeD K) := by subst h; exact op_neD hu
theorem cr_sumK (h : X.K = K) (hc : X.calm = true) : CallR X (.builtin "sum") (rSum K) := by subst h; exact cr_sum hc
theorem mt_countBK (h : X.K = K) : MtR X "list.count" (rCntB K) := by subst h; exact mt_countB
theorem sl_listNK {T : Tb} (h : X.K = K) : SlR X (rSlLN T K) := by subst h; exact sl_listN
theorem sl_tupAK (h : X.K = K) : SlR X (rSlA K) := by subst h; exact sl_tupA
theorem pi_seqK {tg l : Expr} {tl : TE} (h : X.K = K) (hl : PE X l tl) : PI X tg l (iSeq K tl) := by subst h; exact pi_seq hl
theorem pi_listK {tg l : Expr} {tl : TE} (h : X.K = K) (hl : PE X l tl) : PI X tg l (iList K tl) := by subst h; exact pi_list hl
theorem pi_tupK {tg l : Expr} {tl : TE} (h : X.K = K) (hl : PE X l tl) : PI X tg l (iTup K tl) := by subst h; exact pi_tup hl
theorem call_dictPK {T : Tb} (h : X.K = K) (hcalm : X.calm = true) : CallR X (.type "dict") (rDictPN T K) := by subst h; exact call_dictPN hcalm
theorem pe_bmK {T : String} {id : String} {name : Str} {o e : Expr} {es : List Expr} {apos cpos : Pos} {to : TE} {t : TA} {r : V → List V → Hp → VK → Prop} (h : X.K = K) (pa : PlainAttrs T) (slot : Slot T name id) (hty : typeOf (.builtin id) = pure (.type "method_descriptor")) (hm : MtR X id r) (ho : PE X o to) (ha : PA X (e :: es) t)
    (hbase : attributeBase o name X.env (eval o X.env) = eval o X.env := by rfl)
    (hfew : ((backTo cpos (starEach (e :: es) X.env)).all (fun x => !x.1) && (backToKw cpos (keywordEach [] X.env)).all (fun x => x.1.isSome)
      && decide ((e :: es).length + ([] : List Keyword).length + (if ([] : List Keyword).isEmpty then 0 else 1) < 30)) = true := by rfl)
    (hline : (apos.endLine == cpos.line) = true := by rfl)
    (he : starEach (e :: es) X.env = (false, eval e X.env) :: starEach es X.env := by rfl) (hpl : (backTo cpos (starEach es X.env)).any (·.1) = false := by rfl) :
    PE X (.Call (.Attribute o name apos) (e :: es) [] cpos) (tBM K T r to t) := by
  subst h
  exact pe_bm pa slot hty hm ho ha hbase hfew hline he hpl
end
end MB
namespace MB
open PySem PySem.Spec PyProof.Rows L2
section
variable {T : Tb} {M : Addr → Prop} {H H0 H1 : Hp}
theorem upd_ins {p a C dx : Addr} {fs : List (Str × V)} {o x : HO} (hp : H p = some (.ins C dx fs)) (h : H a = some x) (n : ∀ fs, x ≠ .ins C dx fs) : upd H p o a = some x := by
  rw [upd_ne fun z => by subst z; rw [hp] at h; exact n fs (Option.some.inj h).symm]
  exact h
/-- an attribute of a new object written -/
theorem Ext.fld {x C dx : Addr} {fs fs' : List (Str × V)} (e : Ext T M H0 H) (h0 : H0 x = none) (hx : H x = some (.ins C dx fs)) : Ext T M H0 (upd H x (.ins C dx fs')) := by
  have ne : ∀ {b o}, H0 b = some o → b ≠ x := fun h z => by rw [z, h0] at h; cases h
  refine ⟨fun b o h n => (upd_ne (ne h)).trans (e.fix b o h n), fun b o h n => (upd_ne (ne h)).trans (e.lst b o h n), fun b o h n => (upd_ne (ne h)).trans (e.dk b o h n), fun b o u h => (upd_ne (ne h)).trans (e.frz b o u h), fun g => ?_⟩
  have g := e.gd g
  refine ⟨fun q hq => ?_, fun q hq => ?_⟩
  · obtain ⟨ps, e, t⟩ := g.1 q hq
    exact ⟨ps, upd_ins hx e fun ys z => (nomatch z), t⟩
  · obtain ⟨ps, e, t, h3⟩ := g.2 q hq
    refine ⟨ps, upd_ins hx e fun ys z => (nomatch z), t, fun pos cv hc => ?_⟩
    obtain ⟨c, e1, e2⟩ := h3 pos cv hc
    exact ⟨c, e1, upd_ins hx e2 fun ys z => (by unfold LamX.CodeO at z; cases z)⟩
end
theorem sIx1 {n : Nat} (h : 1 ≤ n) : HT.sIx n 0 (some 1) = 1 := by
  unfold HT.sIx
  simp
  omega
def rSlTN (T : Tb) (K : PySem.W.Frag) : V → Option Int → Option Int → Hp → VK → Prop := fun x lo hi H Q => ∃ a xs, x = .ref a ∧ SqT K H a xs ∧ 1 ≤ xs.length ∧ lo = some 1 ∧ hi = none ∧ ∀ p H2, H p = none → H2 p = some (.tup (xs.drop 1)) → Ext T No H H2 → Q (.ref p) H2
theorem sl_tup1 {X : Cx} {T : Tb} {K : PySem.W.Frag} (hK : X.K = K) : SlR X (rSlTN T K) := by
  subst hK
  intro pins s σ H x v vl vu lo hi sl Q I rx hs pl pu ⟨a, xs, e, h, hl, e1, e2, q⟩
  subst e1 e2
  have hc : cutV xs (some 1) none = xs.drop 1 := by
    unfold cutV
    rw [sIx1 hl]
    unfold HT.sIx
    rw [List.take_of_length_le (by simp)]
  refine sl_tup pins s σ H x v vl vu _ _ sl Q I rx hs pl pu ⟨a, xs, e, h, fun z => ?_, fun p hp => ?_⟩
  · have := z.1
    rw [sIx1 hl] at this
    omega
  · rw [hc]
    exact q p _ hp upd_same (Ext.new hp)
end MB
namespace MB
theorem ifBr {c : Bool} {A B : Prop} (h0 : c = false → B) (h1 : c = true → A) : if c = true then A else B := ifB h1 h0
end MB
namespace MB
open PySem PySem.Spec PyProof.Rows L2
def rSetN (T : Tb) : V → V → V → Hp → (Hp → Prop) → Prop := fun o i v H Q => ∃ p xs k j, o = .ref p ∧ i = .int k ∧ H p = some (.lst xs) ∧ ixN xs.length k = some j ∧ ∀ H2, H2 p = some (.lst (xs.set j v)) → Ext T (· = p) H H2 → Q H2
theorem set_listN {X : Cx} {T : Tb} : PSet X (rSetN T) := by
  intro pins s σ H o i v ov iv u Q I r1 r2 r3 ⟨p, xs, k, j, e1, e2, h, hj, q⟩
  exact set_list pins s σ H o i v ov iv u Q I r1 r2 r3 ⟨p, xs, k, j, e1, e2, h, hj, q _ upd_same (Ext.set h rfl)⟩
theorem putK_int {kvs : List (Key × V)} {ks : List Int} (h : kvs.map (·.1) = ks.map Sum.inl) (nd : ks.Nodup) (k : Int) (v : V) :
    ∃ ks' : List Int, (putK kvs (.inl k) v).map (·.1) = ks'.map Sum.inl ∧ ks'.Nodup ∧ (∀ x, x ∈ ks' ↔ x ∈ ks ∨ x = k) ∧ ks'.length ≤ ks.length + 1 := by
  unfold putK
  by_cases hk : k ∈ ks
  · have ha : (kvs.any fun kv => decide (kv.1 = (Sum.inl k : Key))) = true := by
      have : (Sum.inl k : Key) ∈ kvs.map (·.1) := by rw [h]; exact List.mem_map.mpr ⟨k, hk, rfl⟩
      obtain ⟨kv, h1, h2⟩ := List.mem_map.mp this
      exact List.any_eq_true.mpr ⟨kv, h1, by simpa using h2⟩
    rw [if_pos ha]
    refine ⟨ks, ?_, nd, fun x => ⟨.inl, fun z => z.elim id fun e => by rw [e]; exact hk⟩, Nat.le_succ _⟩
    rw [← h, List.map_map]
    refine List.map_congr_left fun kv _ => ?_
    show (if kv.1 = Sum.inl k then (kv.1, v) else kv).1 = kv.1
    split <;> rfl
  · have ha : ¬ (kvs.any fun kv => decide (kv.1 = (Sum.inl k : Key))) = true := fun z => by
      obtain ⟨kv, h1, h2⟩ := List.any_eq_true.mp z
      have : (Sum.inl k : Key) ∈ ks.map Sum.inl := by rw [← h]; exact List.mem_map.mpr ⟨kv, h1, by simpa using h2⟩
      obtain ⟨x, h3, h4⟩ := List.mem_map.mp this
      have h5 : x = k := Sum.inl.inj h4
      subst h5
      exact hk h3
    rw [if_neg ha]
    refine ⟨ks ++ [k], by simp [h], ?_, fun x => by simp, by simp⟩
    rw [List.nodup_append]
    refine ⟨nd, by simp, ?_⟩
    intro a h1 b h2 e
    simp at h2
    subst h2
    subst e
    exact hk h1
theorem mergeK_ints : ∀ (more : List (Int × V)) (kvs : List (Key × V)) (ks : List Int), kvs.map (·.1) = ks.map Sum.inl → ks.Nodup →
    ∃ ks' : List Int, (mergeK kvs (more.map fun p => (Sum.inl p.1, p.2))).map (·.1) = ks'.map Sum.inl ∧ ks'.Nodup ∧ (∀ x, x ∈ ks' ↔ x ∈ ks ∨ x ∈ more.map (·.1)) ∧ ks'.length ≤ ks.length + more.length
  | [], kvs, ks, h, nd => ⟨ks, h, nd, fun x => by simp, Nat.le_add_right _ _⟩
  | p :: more, kvs, ks, h, nd => by
    obtain ⟨k1, a1, a2, a3, a4⟩ := putK_int h nd p.1 p.2
    obtain ⟨k2, b1, b2, b3, b4⟩ := mergeK_ints more _ k1 a1 a2
    refine ⟨k2, b1, b2, fun x => ?_, ?_⟩
    · rw [b3, a3]
      simp only [List.map_cons, List.mem_cons]
      exact or_assoc
    · simp only [List.length_cons]
      omega
/-- a list, but for a list that is written -/
def DiceAt (H : Hp) (p : Addr) : Prop := ∃ c n m : Int, H p = some (.lst [.int c, .int n, .int m])
theorem DiceAt.ext {T : Tb} {M : Addr → Prop} {H H' : Hp} {p : Addr} (h : DiceAt H p) (e : Ext T M H H') (n : ¬ M p) : DiceAt H' p := by
  obtain ⟨c, a, m, h⟩ := h
  exact ⟨c, a, m, e.lst _ _ h n⟩
theorem SqL.ext {K : PySem.W.Frag} {T : Tb} {M : Addr → Prop} {H H' : Hp} {a : Addr} {xs : List V} (h : SqL K H a xs) (e : Ext T M H H') (n : ¬ M a) : SqL K H' a xs := by
  rcases h with (h | ⟨o, h⟩) | h
  · exact .inl (.inl (e.lst _ _ h n))
  · exact .inl (.inr ⟨o, e.frz _ _ _ h⟩)
  · exact .inr h
theorem SqT.ext {K : PySem.W.Frag} {T : Tb} {M : Addr → Prop} {H H' : Hp} {a : Addr} {xs : List V} (h : SqT K H a xs) (e : Ext T M H H') : SqT K H' a xs := by
  rcases h with (h | ⟨o, h⟩) | h
  · exact .inl (.inl (e.fix _ _ h rfl))
  · exact .inl (.inr ⟨o, e.frz _ _ _ h⟩)
  · exact .inr h
end MB
namespace MB
open PySem PySem.Spec PyProof.Rows L2
theorem paired_get {α β : Type} {F : α → β → Prop} : ∀ {xs : List α} {ys : List β}, xs.length = ys.length → (∀ (i : Nat) (x : α) (y : β), xs[i]? = some x → ys[i]? = some y → F x y) → Paired F xs ys
  | [], [], _, _ => .nil
  | x :: xs, d :: ds, hl, h => .cons (h 0 x d rfl rfl) (paired_get (by simpa using hl) fun i y e h1 h2 => h (i + 1) y e (by simpa using h1) (by simpa using h2))
  | [], _ :: _, hl, _ => by simp at hl
  | _ :: _, [], hl, _ => by simp at hl
/-- numbers of 1 to 12, ascending -/
theorem ROk.of12 {rs : MM.Rules} {ys : List Int} (e : rs.map (fun r => ((r.1 : Nat) : Int)) = ys) (h0 : 0 < ys.length) (h4 : ys.length ≤ 4) (hr : ∀ y ∈ ys, 1 ≤ y ∧ y ≤ 12) (hs : ys.Pairwise (· < ·)) : ROk rs ∧ ∀ r ∈ rs, r.1 ≤ 12 := by
  have hl : rs.length = ys.length := by rw [← e, List.length_map]
  have rg : ∀ r ∈ rs, 1 ≤ r.1 ∧ r.1 ≤ 12 := fun r h => by
    have := hr ((r.1 : Nat) : Int) (by rw [← e]; exact List.mem_map.mpr ⟨r, h, rfl⟩)
    omega
  refine ⟨⟨by omega, by omega, fun r h => ⟨(rg r h).1, by have := (rg r h).2; omega⟩, fun i a b h1 h2 => ?_, ?_⟩, fun r h => (rg r h).2⟩
  · have g1 : ys[i]? = some ((a.1 : Nat) : Int) := by rw [← e, List.getElem?_map, h1]; rfl
    have g2 : ys[i + 1]? = some ((b.1 : Nat) : Int) := by rw [← e, List.getElem?_map, h2]; rfl
    obtain ⟨k1, e1⟩ := List.getElem?_eq_some_iff.mp g1
    obtain ⟨k2, e2⟩ := List.getElem?_eq_some_iff.mp g2
    have := List.pairwise_iff_getElem.mp hs i (i + 1) k1 k2 (Nat.lt_succ_self i)
    omega
  · have hd : MM.lcmA rs ∣ 27720 := (MM.lcmA_dvd rs _).mpr fun r h => by
      have h1 := (rg r h).1
      have h2 := (rg r h).2
      have h3 : ∀ k : Nat, k < 13 → 1 ≤ k → k ∣ 27720 := by decide
      exact h3 r.1 (by omega) h1
    have := Nat.le_of_dvd (by decide) hd
    omega
theorem lt_of_le_nodup {ys : List Int} (h : ys.Pairwise (· ≤ ·)) (n : ys.Nodup) : ys.Pairwise (· < ·) := by
  have := List.Pairwise.and h n
  exact this.imp fun ⟨a, b⟩ => by omega
end MB
namespace MB
open PySem PySem.Spec PyProof.Rows L2
theorem count_range (p : Nat → Bool) : ∀ n, ((List.range n).map p).count true = MM.cn p n
  | 0 => rfl
  | n + 1 => by
    rw [List.range_succ, List.map_append, List.count_append, count_range p n]
    show _ = MM.cn p n + _
    congr 1
    cases h : p n <;> simp [h]
theorem cutTo (xs : List V) (n : Nat) : cutV xs none (some (n : Int)) = xs.take n := by
  unfold cutV
  rw [HT.sIx_none, HT.sIx_nat, List.drop_zero, Nat.sub_zero]
  by_cases h : n ≤ xs.length
  · rw [Nat.min_eq_left h]
  · rw [Nat.min_eq_right (by omega), List.take_of_length_le (Nat.le_refl _), List.take_of_length_le (by omega)]
theorem cutFrom (xs : List V) (n : Nat) : cutV xs (some (n : Int)) none = xs.drop n := by
  unfold cutV
  rw [HT.sIx_none, HT.sIx_nat, List.take_of_length_le (by simp)]
  by_cases h : n ≤ xs.length
  · rw [Nat.min_eq_left h]
  · rw [Nat.min_eq_right (by omega), List.drop_length, List.drop_eq_nil_of_le (by omega)]
section
variable {K : PySem.W.Frag} {H : Hp}
theorem dpBls {D : Addr} {bs : List Bool} (h : H D = some (.lst (bs.map V.bl))) : Dp K H (.ref D) (.list (bs.map PyData.bool)) := .lst (SqL.of h) (dpAll_of fun b _ => .bl b)
theorem dpInts {D : Addr} {ns : List Int} (h : H D = some (.lst (ns.map V.int))) : Dp K H (.ref D) (.list (ns.map PyData.int)) := .lst (SqL.of h) (dpAll_of fun b _ => .int b)
theorem dpOnes {D : Addr} {m : Nat} (h : H D = some (.lst (List.replicate m (.int 1)))) : Dp K H (.ref D) (.list (List.replicate m (.int 1))) := by
  have := dpInts (K := K) (H := H) (D := D) (ns := List.replicate m 1) (by rw [List.map_replicate]; exact h)
  rw [List.map_replicate] at this
  exact this
end
theorem shBls (bs : List Bool) : SeqAt.shaped (.list (bs.map PyData.bool)) = true := (ShK.lst (k := 0) fun d hd => by
  obtain ⟨b, _, rfl⟩ := List.mem_map.mp hd
  exact ShK.bl _ _).ok
theorem shInts (bs : List Int) : SeqAt.shaped (.list (bs.map PyData.int)) = true := (ShK.lst (k := 0) fun d hd => by
  obtain ⟨b, _, rfl⟩ := List.mem_map.mp hd
  exact ShK.int _ _).ok
theorem shOnes (m : Nat) : SeqAt.shaped (.list (List.replicate m (.int 1))) = true := by
  have := shInts (List.replicate m 1)
  rw [List.map_replicate] at this
  exact this
theorem eqOnes (m : Nat) : PyData.eqv (.list (List.replicate m (.int 1))) (.list []) = decide (m = 0) := by
  cases m <;> rfl
theorem eqBls (bs cs : List Bool) : PyData.eqv (.list (bs.map PyData.bool)) (.list (cs.map PyData.bool)) = decide (bs = cs) := eqvAll_map eqv_bl bs cs
theorem eqInts (bs cs : List Int) : PyData.eqv (.list (bs.map PyData.int)) (.list (cs.map PyData.int)) = decide (bs = cs) := eqvAll_map eqv_int bs cs
end MB
namespace MB
open PySem PySem.Spec PyProof.Rows L2
/-- a lambda made: all but its maker's table stays -/
theorem Ext.lamM {T : Tb} {M : Addr → Prop} {H H1 : Hp} {P : Addr} (ok : ∀ p ∈ T.gen, p ≠ P) (h : LamX.ExtN H H1) (hP : ∀ b o, H b = some o → b ≠ P → H1 b = some o) (hL : LamX.Tabs T.lam H1) : Ext T M H H1 :=
  Ext.lamN h (fun p hp ps e => hP p _ e (ok p hp)) hL
end MB
namespace MB
open PySem PySem.Spec PyProof.Rows L2
def rListN (T : Tb) (K : PySem.W.Frag) : List V → Hp → VK → Prop := fun xs H Q => ∃ p ys, xs = [.ref p] ∧ (SqL K H p ys ∨ SqT K H p ys) ∧ ∀ l H2, H l = none → H2 l = some (.lst ys) → Ext T No H H2 → Q (.ref l) H2
theorem call_listN {X : Cx} {T : Tb} {K : PySem.W.Frag} (h : X.K = K) : CallR X (.type "list") (rListN T K) := by
  subst h
  intro pins s σ H xs us Q I r ⟨p, ys, e, h1, q⟩
  exact call_list_of pins s σ H xs us Q I r ⟨p, ys, e, h1, fun l hl => q l _ hl upd_same (Ext.new hl)⟩
def rCatN (T : Tb) : R2 := fun x y H Q => ∃ l b xs zs, x = .ref l ∧ y = .ref b ∧ H l = some (.lst xs) ∧ H b = some (.lst zs) ∧ xs.length + zs.length ≤ sizeLine ∧ ∀ p H2, H p = none → H2 p = some (.lst (xs ++ zs)) → Ext T No H H2 → Q (.ref p) H2
theorem op_catN {X : Cx} {T : Tb} : OpR X (binaryOp .Add) (rCatN T) := by
  intro pins s σ H x y v u Q I rx ry ⟨l, b, xs, zs, e1, e2, h1, h2, hz, q⟩
  exact op_cat pins s σ H x y v u Q I rx ry ⟨l, b, xs, zs, e1, e2, h1, h2, hz, fun p hp => q p _ hp upd_same (Ext.new hp)⟩
end MB

set_option Elab.async false
set_option linter.all false
set_option maxRecDepth 100000
set_option maxHeartbeats 2000000
/-! min of a list of data. -/
namespace MB
open PySem PySem.Spec PyProof.Rows L2
/-- min(xs): an item whose data are the first least -/
def rMinD (K : PySem.W.Frag) : List V → Hp → VK → Prop := fun vs H Q => ∃ (a : Addr) (ys : List V) (x : PyData) (xs : List PyData), vs = [.ref a] ∧ SqL K H a ys ∧ DpAll K H ys (x :: xs) ∧ PySem.W.AlikeAll (x :: xs) ∧ PyData.canLayAll0 (x :: xs) = true ∧ PyData.depthAll (x :: xs) ≤ 32 ∧
  ∀ (i : Nat) (y : V), ys[i]? = some y → (x :: xs)[i]? = some (PySem.W.minD x xs) → Q y H
theorem cr_minD {X : Cx} {K : PySem.W.Frag} (hK : X.K = K) (hc : X.calm = true) (hu : X.A.units + 64 < cLine) : CallR X (.builtin "min") (rMinD K) := by
  subst hK
  intro pins s σ H vs us Q I r h
  obtain ⟨a, ys, x, xs, rfl, hs, hd, ha, hlay, hdp, q⟩ := h
  obtain ⟨its, rv, hl, _⟩ := I.list hs
  rw [Vals.ref1 r]
  obtain ⟨as, hr⟩ := Dp.readsAll I (x :: xs) ys its hd rv
  refine PySem.W.min_list_data (I.ok.hd hc) hl.isList (show ReadsAll s.heap its.toArray.toList (x :: xs) as from hr) ha (by omega) fun i v h' tk bs hv rd hk => ?_
  have hv' : its[i]? = some v := by simpa using hv
  obtain ⟨cs, r1, hlt, _, _⟩ := PySem.W.readsAll_at hr i v hv'
  have r2 := PySem.W.reads_keeps hk r1
  have e := (PySem.Reads.unique r2 _ _ rd).1
  have hi : i < ys.length := by rw [rv.length]; exact (List.getElem?_eq_some_iff.mp hv').1
  have hy : ys[i]? = some ys[i] := List.getElem?_eq_getElem hi
  obtain ⟨u, hu1, hu2⟩ := rv.get hy
  rw [hv'] at hu1
  cases hu1
  refine ⟨ys[i], H, I.kept hk, hu2, q i _ hy ?_⟩
  rw [← e, List.getD_eq_getElem?_getD, List.getElem?_eq_getElem hlt]
  rfl
/-- any(..) over a list or a tuple: Good i holds ahead of turn i; B: what follows a turn -/
theorem anyG_seq {T : Tb} (tk : TOk T) {P q : Addr} (hP : P ∈ T.gen) {K : PySem.W.Frag} {xs : List V} {g : TG} {te : TE} {vs : List Nat} {σ : L2.St} {H : Hp} {Q : VK} {i0 : Nat} (hσ : σ[i0]? = some (some (.ref q))) (hq : SqL K H q xs ∨ SqT K H q xs) (hg : GxR.TabG H P)
    (Good : Nat → Prop) (h0 : Good 0)
    (hs : ∀ i x H' (B : Hp → Prop), xs[i]? = some x → Ext T No H H' → Good i → (∀ H4, Ext T No H H4 → Good (i + 1) → B H4) → g x (wipe σ vs) H' fun σ2 H3 => wipe σ2 vs = wipe σ vs ∧ te σ2 H3 fun y H4 => ∃ b, y = .bl b ∧ if b = true then Q (.bl true) H4 else B H4)
    (hd : ∀ H', Ext T No H H' → Good xs.length → Q (.bl false) H') : MG.tAnyG P (iSeq K (tVar i0)) g te vs σ H Q := by
  refine ⟨.ref q, hσ, q, rfl, ?_⟩
  refine hq.elim (fun hq => .inl ⟨⟨_, hq⟩, hg, fun H2 ht => ⟨_, ⟨_, rfl, Nat.zero_le _, ⟨Ext.tab tk hP hg ht, h0⟩⟩, turns_list (xs := xs) (fun i ys H' => Ext T No H H' ∧ Good i) (fun i ys H' _ ⟨e, _⟩ => SqL.ext hq e id) ?_ ?_⟩⟩)
    (fun hq => .inr ⟨⟨_, hq⟩, hg, fun H2 ht => ⟨_, ⟨_, rfl, Nat.zero_le _, ⟨Ext.tab tk hP hg ht, h0⟩⟩, turns_tup (xs := xs) (fun i ys H' => Ext T No H H' ∧ Good i) (fun i ys H' _ ⟨e, _⟩ => SqT.ext hq e) ?_ ?_⟩⟩)
  all_goals first
    | (rintro i ys x H' hx ⟨e, gd⟩
       have hi := (List.getElem?_eq_some_iff.mp hx).1
       exact hs i x H' (fun H4 => ∃ m', m' < xs.length - i ∧ m' = xs.length - (i + 1) ∧ i + 1 ≤ xs.length ∧ Ext T No H H4 ∧ Good (i + 1)) hx e gd fun H4 e4 g4 => ⟨_, by omega, rfl, hi, e4, g4⟩)
    | (rintro ys H' ⟨e, gd⟩
       exact hd H' e gd)
/-- for x in xs, xs a list or a tuple -/
theorem for_seq {T : Tb} {q : Addr} {K : PySem.W.Frag} {xs : List V} {g : TG} {tb : TS} {D : Ends} {σ : L2.St} {H : Hp} {i0 : Nat} (hσ : σ[i0]? = some (some (.ref q))) (hq : SqL K H q xs ∨ SqT K H q xs) (Pv : Nat → L2.St → Hp → Prop) (hE : ∀ i σ' H', Pv i σ' H' → Ext T No H H') (h0 : Pv 0 σ H)
    (hs : ∀ i x σ' H', xs[i]? = some x → Pv i σ' H' → g x σ' H' fun σ2 H2 => tb { D with nx := Pv (i + 1), ct := Pv (i + 1), bk := D.nx } σ2 H2) (hd : ∀ σ' H', Pv xs.length σ' H' → D.nx σ' H') : tFor (iSeq K (tVar i0)) g tb D σ H :=
  ⟨.ref q, hσ, q, rfl, hq.elim (fun hq => .inl ⟨⟨_, hq⟩, for_list Pv h0 (fun i σ' H' _ p => SqL.ext hq (hE i σ' H' p) id) hs hd⟩) (fun hq => .inr ⟨⟨_, hq⟩, for_tup Pv h0 (fun i σ' H' _ p => SqT.ext hq (hE i σ' H' p)) hs hd⟩)⟩
end MB

set_option Elab.async false
set_option linter.all false
set_option maxRecDepth 100000
set_option maxHeartbeats 2000000
/-! zip of two lists or tuples, mixed; rows of three whole numbers. -/
namespace MB
open PySem PySem.Spec PyProof.Rows L2
/-- a list (true) or a tuple (false) -/
def SqB (K : PySem.W.Frag) : Bool → Hp → Addr → List V → Prop
  | true => SqL K
  | false => SqT K
def IsSq : Bool → Heap → Addr → Array Value → Prop
  | true => fun h a its => h.IsList a its
  | false => fun h a its => h.IsTuple a its
def IsIt : Bool → Heap → Addr → Addr → Nat → Prop
  | true => fun h it a i => h.IsListIter it a i
  | false => fun h it a i => h.IsTupleIter it a i
theorem SqB.ext {K : PySem.W.Frag} {T : Tb} {H H' : Hp} {b : Bool} {a : Addr} {xs : List V} (h : SqB K b H a xs) (e : Ext T No H H') : SqB K b H' a xs := by
  cases b with
  | true => exact SqL.ext h e id
  | false => exact SqT.ext h e
theorem SqB.of {K : PySem.W.Frag} {H : Hp} {a : Addr} {xs : List V} (h : SqL K H a xs ∨ SqT K H a xs) : ∃ b, SqB K b H a xs := h.elim (fun h => ⟨true, h⟩) fun h => ⟨false, h⟩
theorem draws_sq {prog : Program} {w : World} {A : Around} (hh : A.handled = none) (b : Bool) (it l : Addr) (hne : l ≠ it) (items : Array Value) :
    Draws prog w A it [it, l] items.size (fun i v => items[i]? = some v) (fun i h => IsIt b h it l i ∧ IsSq b h l items) := by
  cases b with
  | true => exact Draws.list hh it l hne items
  | false => exact Draws.tuple hh it l hne items
section
variable {X : Cx} {pins : List (Addr × Obj)} {σ : L2.St} {H : Hp} {s : Shared} {b : Bool} {a : Addr} {xs ys : List V}
theorem inv_sq (I : Inv X pins σ H s) (h : SqB X.K b H a xs) : ∃ its : List Value, Vals xs its ∧ IsSq b s.heap a its.toArray ∧ a < s.heap.objs.size := by
  cases b with
  | true =>
    obtain ⟨its, rv, p, _⟩ := I.list h
    exact ⟨its, rv, p.isList, p.lt⟩
  | false =>
    obtain ⟨its, rv, p, _⟩ := I.tuple h
    obtain ⟨o, ho, _⟩ := id p
    exact ⟨its, rv, p, Heap.lt_size ho⟩
theorem inv_sq_inj (I : Inv X pins σ H s) (h : SqB X.K b H a xs) (h' : SqB X.K b H a ys) : xs = ys := by
  cases b with
  | true => exact I.list_inj h h'
  | false => exact I.tuple_inj h h'
end
theorem IsIt.obj {b : Bool} {h : Heap} {it a : Addr} {i : Nat} (q : IsIt b h it a i) : ∃ o, h.get? it = some o ∧ ∀ v, o.data ≠ .cell v := by
  cases b with
  | true =>
    obtain ⟨o, e, _, d⟩ := q
    exact ⟨o, e, fun v z => by rw [d] at z; cases z⟩
  | false =>
    obtain ⟨o, e, _, d⟩ := q
    exact ⟨o, e, fun v z => by rw [d] at z; cases z⟩
theorem IsIt.keep {b : Bool} {h h' : Heap} {it a : Addr} {i : Nat} (q : IsIt b h it a i) (k : ∀ o, h.get? it = some o → h'.get? it = some o) : IsIt b h' it a i := by
  cases b with
  | true => exact Heap.IsListIter.at q k
  | false => exact Heap.IsTupleIter.at q k
/-- the two at a and b at each turn, the items in new pairs -/
def ItzM (K : PySem.W.Frag) (sa sb : Bool) (a b : Addr) : It where
  go := fun i H => ∃ (xs ys : List V) (x y : V), SqB K sa H a xs ∧ SqB K sb H b ys ∧ xs[i]? = some x ∧ ys[i]? = some y
  yld := fun i H v H' => ∃ T x y, v = .ref T ∧ H T = none ∧ H' = upd H T (.tup [x, y]) ∧ (∀ xs, SqB K sa H a xs → xs[i]? = some x) ∧ ∀ ys, SqB K sb H b ys → ys[i]? = some y
  stop := fun i H => ∃ xs ys : List V, SqB K sa H a xs ∧ SqB K sb H b ys ∧ i ≤ xs.length ∧ i ≤ ys.length ∧ (i = xs.length ∨ i = ys.length)
theorem turn_zipM {P : Program} {w : World} {K : PySem.W.Frag} {elts : List Expr} {kk : Nat} {tpos : Pos} {sa sb : Bool} {a b z TI TO i1 i2 : Addr} (D : ZipApart z TI TO i1 i2 a b) :
    Turn P w K (.Tuple elts kk tpos) (ItzM K sa sb a b) [z, TI, TO, i1, i2] z (fun i h => IsZip h z TI TO .none ∧ IsPair h TI (.ref i1) (.ref i2) ∧ (∃ x y, IsPair h TO x y) ∧ IsIt sa h i1 a i ∧ IsIt sb h i2 b i) := by
  have S : ZipSep2 z TI TO i1 i2 [i1, a] [i2, b] := ⟨D.TIz, D.TOz, D.TITO, D.TIi1, by simp, by simp [D.i1z.symm, D.l1z.symm], by simp [D.TOi1, D.l1TO.symm], D.TIi2, by simp, by simp [D.i2z.symm, D.l2z.symm], by simp [D.TOi2, D.l2TO.symm], by simp [D.i12, D.l2i1.symm], by simp [D.i12.symm, D.l1i2.symm]⟩
  refine ⟨by simp, fun i h st c hc => ?_, fun i h h' st k => ?_, ?_, ?_, fun A i s Q E st h => wpAny_pyIter_zip st.1 h⟩
  · obtain ⟨hz, hTI, ⟨x, y, hTO⟩, q1, q2⟩ := st
    have e' : c = z ∨ c = TI ∨ c = TO ∨ c = i1 ∨ c = i2 := by simpa using hc
    rcases e' with q | q | q | q | q
    · rw [q]; exact ⟨_, hz, fun v q => nomatch q⟩
    · rw [q]; exact ⟨_, hTI, fun v q => nomatch q⟩
    · rw [q]; exact ⟨_, hTO, fun v q => nomatch q⟩
    · rw [q]; exact q1.obj
    · rw [q]; exact q2.obj
  · obtain ⟨hz, hTI, ⟨x, y, hTO⟩, h1, h2⟩ := st
    exact ⟨k z (by simp) _ hz, k TI (by simp) _ hTI, ⟨x, y, k TO (by simp) _ hTO⟩, h1.keep fun o q => k i1 (by simp) o q, h2.keep fun o q => k i2 (by simp) o q⟩
  · intro X hP hw hK hc i pins s σ H E I hf st hg
    subst hP hw hK
    obtain ⟨hz, hTI, ⟨x0, y0, hTO⟩, h1, h2⟩ := st
    obtain ⟨xs, ys, x, y, hqx, hqy, hx, hy⟩ := hg
    obtain ⟨its, rv, p, _⟩ := inv_sq I hqx
    obtain ⟨its2, rv2, p2, _⟩ := inv_sq I hqy
    obtain ⟨u, hu, ru⟩ := rv.get hx
    obtain ⟨u2, hu2, ru2⟩ := rv2.get hy
    have hzl : z < s.heap.objs.size := Heap.lt_size hz
    have hin : X.A.in1.handled = none := I.ok.hd hc
    have l1 : i < its.toArray.size := by rw [List.size_toArray]; exact (List.getElem?_eq_some_iff.mp hu).1
    have l2 : i < its2.toArray.size := by rw [List.size_toArray]; exact (List.getElem?_eq_some_iff.mp hu2).1
    refine wpAny_pyNext_zipD2_item S (draws_sq hin sa i1 a D.l1i1 its.toArray) (draws_sq hin sb i2 b D.l2i2 its2.toArray) hz hTI hTO ⟨h1, p⟩ ⟨h2, p2⟩ l1 l2 fun x1 x2 h' tk e1 e2 z' TO' n1 n2 hT hsz hk => ?_
    have ex1 : u = x1 := by
      have e1 : its[i]? = some x1 := by simpa using e1
      rw [hu] at e1
      exact Option.some.inj e1
    have ex2 : u2 = x2 := by
      have e2 : its2[i]? = some x2 := by simpa using e2
      rw [hu2] at e2
      exact Option.some.inj e2
    subst ex1 ex2
    refine ⟨_, rfl, wpAny_letOwnedTupleGo_zip (s := { s with heap := h', toks := tk }) z' fun h'' z'' sb => ?_⟩
    have hT2 : h''.get? s.heap.objs.size = some { cls := .type "tuple", data := .seq #[u, u2] } := (sb.2 _ (Nat.ne_of_gt hzl)).trans hT
    have out : ∀ c, c ∉ [z, TI, TO, i1, i2] → ∀ o, s.heap.get? c = some o → h''.get? c = some o := fun c hb o q =>
      (sb.2 c (fun e => hb (by simp [e]))).trans (hk c o (fun e => hb (by simp [e])) (fun e => hb (by simp [e])) (fun e => hb (by simp [e])) (fun e => hb (by simp [e])) q)
    have new : ObjOk X.prog X.w (upd H s.heap.objs.size (.tup [x, y])) h'' s.heap.objs.size (.tup [x, y]) :=
      ⟨show 2 ≤ sizeLine by decide, [u, u2], .cons ru (.cons ru2 .nil), ⟨_, hT2, rfl, _, rfl⟩⟩
    have I1 : Inv X pins σ (upd H s.heap.objs.size (.tup [x, y])) { s with heap := h'', toks := tk } :=
      I.turnedNew (t' := tk) (ch := [z, TI, TO, i1, i2]) (fun c o hb q => out c hb o q) hf (Nat.le_refl _) new
    refine ⟨.ref s.heap.objs.size, _, I1, rfl, ⟨_, x, y, rfl, I.hok.fresh (Nat.le_refl _), rfl, fun l hl => by rw [inv_sq_inj I hl hqx]; exact hx, fun l hl => by rw [inv_sq_inj I hl hqy]; exact hy⟩, ⟨z'', ?_, ⟨u, u2, ?_⟩, ?_, ?_⟩, fun c hcm => ?_⟩
    · exact (sb.2 _ D.TIz).trans (hk _ _ D.TIz D.TITO D.TIi1 D.TIi2 hTI)
    · exact (sb.2 _ D.TOz).trans TO'
    · exact n1.1.keep fun o q => (sb.2 _ D.i1z).trans q
    · exact n2.1.keep fun o q => (sb.2 _ D.i2z).trans q
    · have hlt : c < s.heap.objs.size := by
        have e' : c = z ∨ c = TI ∨ c = TO ∨ c = i1 ∨ c = i2 := by simpa using hcm
        obtain ⟨o1, q1, _⟩ := h1.obj
        obtain ⟨o2, q2, _⟩ := h2.obj
        rcases e' with q | q | q | q | q
        · rw [q]; exact hzl
        · rw [q]; exact Heap.lt_size hTI
        · rw [q]; exact Heap.lt_size hTO
        · rw [q]; exact Heap.lt_size q1
        · rw [q]; exact Heap.lt_size q2
      rw [upd_ne (Nat.ne_of_lt hlt)]
      exact (hf c hcm).1
  · intro X hP hw hK hc i pins s σ H E I hf st hg
    subst hP hw hK
    obtain ⟨hz, hTI, ⟨x0, y0, hTO⟩, h1, h2⟩ := st
    obtain ⟨xs, ys, hqx, hqy, le1, le2, hend⟩ := hg
    obtain ⟨its, rv, p, _⟩ := inv_sq I hqx
    obtain ⟨its2, rv2, p2, _⟩ := inv_sq I hqy
    have hin : X.A.in1.handled = none := I.ok.hd hc
    have z1 : its.toArray.size = xs.length := by rw [List.size_toArray]; exact rv.length.symm
    have z2 : its2.toArray.size = ys.length := by rw [List.size_toArray]; exact rv2.length.symm
    exact wpAny_pyNext_zipD2_end S (draws_sq hin sa i1 a D.l1i1 its.toArray) (draws_sq hin sb i2 b D.l2i2 its2.toArray) hz hTI hTO ⟨h1, p⟩ ⟨h2, p2⟩ (by rw [z1]; exact le1) (by rw [z2]; exact le2) (by rw [z1, z2]; exact hend) fun h' tk hk =>
      ⟨rfl, I.turnedL (t' := tk) (ch := [z, TI, TO, i1, i2]) (fun c o hb q => hk c o (fun e => hb (by simp [e])) (fun e => hb (by simp [e])) (fun e => hb (by simp [e])) (fun e => hb (by simp [e])) q) hf⟩
def itO : Bool → Addr → Obj
  | true, l => { cls := .type "list_iterator", data := .fields #[.ref l, .int 0 0] }
  | false, l => { cls := .type "tuple_iterator", data := .fields #[.ref l, .int 0 0] }
theorem begins_sq (b : Bool) (l : Addr) (items : Array Value) : Begins (.ref l) (itO b l) fun h => IsSq b h l items := by
  cases b with
  | true => exact begins_list l items
  | false => exact begins_tuple l items
theorem isIt_new {b : Bool} {l it : Addr} {h : Heap} (e : h.get? it = some (itO b l)) : IsIt b h it l 0 := by
  cases b with
  | true => exact ⟨_, e, rfl, rfl⟩
  | false => exact ⟨_, e, rfl, rfl⟩
def iZipM (K : PySem.W.Frag) (ta : TA) : TI := fun σ H R => ta σ H fun vs H1 => ∃ a b sa sb xs ys, vs = [.ref a, .ref b] ∧ SqB K sa H1 a xs ∧ SqB K sb H1 b ys ∧ R (ItzM K sa sb a b) H1
theorem pi_zipM {X : Cx} {K : PySem.W.Frag} {e e2 : Expr} {ta : TA} {p pos tpos : Pos} {elts : List Expr} {kk : Nat} (hK : X.K = K) (hg : Gl X "zip") (hm : X.mg "zip" = none) (ha : PA X [e, e2] ta)
    (hs : starEach [e, e2] X.env = (false, eval e X.env) :: starEach [e2] X.env := by rfl) (hpl : (backTo pos (starEach [e2] X.env)).any (·.1) = false := by rfl) :
    PI X (.Tuple elts kk tpos) (.Call (.Name "zip" p) [e, e2] [] pos) (iZipM K ta) := by
  subst hK
  refine ⟨fun pins s σ H R I h => ?_⟩
  refine Call_ (ld_blt I hg hm PyProof.Rows.boot_zip (PyProof.Rows.callWith_type1 (thn (ha.run pos pins s σ H _ I h) fun us s1 ⟨vs, H1, I1, r1, q1⟩ => ?_) hs hpl))
  obtain ⟨a, b, sa, sb, xs, ys, ex, hqx, hqy, q⟩ := q1
  subst ex
  obtain ⟨u, us2, rfl, ru, r2⟩ : ∃ u us2, us = u :: us2 ∧ RelV (.ref a) u ∧ Vals [.ref b] us2 := by
    cases r1 with
    | cons r rr => exact ⟨_, _, rfl, r, rr⟩
  obtain ⟨u2, rfl, ru2⟩ := vals1 r2
  cases ru
  cases ru2
  obtain ⟨its, rv, p1, la⟩ := inv_sq I1 hqx
  obtain ⟨its2, rv2, p2, lb⟩ := inv_sq I1 hqy
  have fresh5 : ∀ c, c ∈ [s1.heap.objs.size + 4, s1.heap.objs.size + 2, s1.heap.objs.size + 3, s1.heap.objs.size, s1.heap.objs.size + 1] → FpOk X pins H1 c := fun c hcm => by
    have hle : s1.heap.objs.size ≤ c := by
      simp only [List.mem_cons, List.not_mem_nil, or_false] at hcm
      have hcm : c = s1.heap.objs.size + 4 ∨ c = s1.heap.objs.size + 2 ∨ c = s1.heap.objs.size + 3 ∨ c = s1.heap.objs.size ∨ c = s1.heap.objs.size + 1 := hcm
      generalize s1.heap.objs.size = n at hcm ⊢
      show n ≤ c
      have hcm : (c : Nat) = n + 4 ∨ (c : Nat) = n + 2 ∨ (c : Nat) = n + 3 ∨ (c : Nat) = n ∨ (c : Nat) = n + 1 := hcm
      omega
    exact I1.fpOk hle (I1.hok.fresh hle)
  refine zip_begins2 (begins_sq sa a its.toArray) (begins_sq sb b its2.toArray) p1 p2 fun h' hz hTI hTO g1 g2 hsz hk => wpAny_pyIter_zip hz ?_
  have I2 : Inv X pins σ H1 { s1 with heap := h' } := I1.kept (t' := s1.toks) hk
  exact ⟨s1.heap.objs.size + 4, [s1.heap.objs.size + 4, s1.heap.objs.size + 2, s1.heap.objs.size + 3, s1.heap.objs.size, s1.heap.objs.size + 1], _, _, H1, rfl, I2, turn_zipM (PySem.W.ktu_apart s1.heap.objs.size a b la lb), ⟨hz, hTI, ⟨_, _, hTO⟩, isIt_new g1, isIt_new g2⟩, fresh5, q⟩
theorem lc_zipM {K : PySem.W.Frag} {sa sb : Bool} {a b : Addr} {xs ys : List V} {g : TG} {tt : TT} {te : TE} {vs : List Nat} {σ : L2.St} {H1 : Hp} {D : Addr} {Qd : Hp → Prop} (hxy : xs.length = ys.length) (Pv : Nat → Hp → Prop) (h0 : Pv 0 (upd H1 D (.lst [])))
    (hl : ∀ i H, i ≤ xs.length → Pv i H → SqB K sa H a xs ∧ SqB K sb H b ys)
    (hs : ∀ i x y t H, xs[i]? = some x → ys[i]? = some y → Pv i H → H t = none → g (.ref t) (wipe σ vs) (upd H t (.tup [x, y])) fun σ2 H2 => wipe σ2 vs = wipe σ vs ∧ tt σ2 H2 fun c H3 =>
      if c = true then te σ2 H3 fun y H4 => ∃ acc, H4 D = some (.lst acc) ∧ acc.length < sizeLine ∧ Pv (i + 1) (upd H4 D (.lst (acc ++ [y]))) else Pv (i + 1) H3)
    (hd : ∀ H, Pv xs.length H → Qd H) :
    ∃ W : Nat → Nat → Hp → Prop, (∃ m, W 0 m (upd H1 D (.lst []))) ∧ ∀ i m H, W i m H →
      ((ItzM K sa sb a b).stop i H ∧ Qd H) ∨ ((ItzM K sa sb a b).go i H ∧ ∃ Nx : Hp → Prop, (∀ H', Nx H' → ∃ m', m' < m ∧ W (i + 1) m' H') ∧ ∀ x H', (ItzM K sa sb a b).yld i H x H' → g x (wipe σ vs) H' fun σ2 H2 => wipe σ2 vs = wipe σ vs ∧ tt σ2 H2 fun c H3 =>
        if c = true then te σ2 H3 fun y H4 => ∃ acc, H4 D = some (.lst acc) ∧ acc.length < sizeLine ∧ Nx (upd H4 D (.lst (acc ++ [y]))) else Nx H3) := by
  refine ⟨fun i m H => m = xs.length - i ∧ i ≤ xs.length ∧ Pv i H, ⟨xs.length, rfl, Nat.zero_le _, h0⟩, fun i m H w0 => ?_⟩
  obtain ⟨hm, hi, p⟩ := w0
  obtain ⟨q1, q2⟩ := hl i H hi p
  by_cases hlt : i < xs.length
  · have hlt2 : i < ys.length := hxy ▸ hlt
    refine .inr ⟨⟨xs, ys, xs[i], ys[i], q1, q2, List.getElem?_eq_getElem hlt, List.getElem?_eq_getElem hlt2⟩, Pv (i + 1), fun H' p' => ⟨xs.length - (i + 1), by omega, rfl, hlt, p'⟩, fun v H' hv => ?_⟩
    obtain ⟨t, x, y, e1, e2, e3, y1, y2⟩ := hv
    subst e1 e3
    exact hs i x y t H (y1 xs q1) (y2 ys q2) p e2
  · have e : i = xs.length := by omega
    subst e
    exact .inl ⟨⟨xs, ys, q1, q2, hi, Nat.le_of_eq hxy, .inl rfl⟩, hd H p⟩
theorem turns_zipM {K : PySem.W.Frag} {sa sb : Bool} {a b : Addr} {xs zs : List V} {g : TG} {te : TE} {vs : List Nat} {σ : L2.St} {Cn : MG.CnT} {Qe : List V → Hp → Prop} (hxz : xs.length = zs.length) (Pv : Nat → List V → Hp → Prop)
    (hl : ∀ i ys H, i ≤ xs.length → Pv i ys H → SqB K sa H a xs ∧ SqB K sb H b zs)
    (hs : ∀ i ys x z t H, xs[i]? = some x → zs[i]? = some z → Pv i ys H → H t = none → g (.ref t) (wipe σ vs) (upd H t (.tup [x, z])) fun σ2 H3 => wipe σ2 vs = wipe σ vs ∧ te σ2 H3 fun y H4 => Cn ys y H4 (∃ m', m' < xs.length - i ∧ m' = xs.length - (i + 1) ∧ i + 1 ≤ xs.length ∧ Pv (i + 1) (ys ++ [y]) H4))
    (hd : ∀ ys H, Pv xs.length ys H → Qe ys H) : MG.Turns (ItzM K sa sb a b) g te vs σ Cn Qe (fun i m ys H => m = xs.length - i ∧ i ≤ xs.length ∧ Pv i ys H) := by
  intro i m ys H w0
  obtain ⟨hm, hi, p⟩ := w0
  subst hm
  obtain ⟨q1, q2⟩ := hl i ys H hi p
  by_cases hlt : i < xs.length
  · have hlt2 : i < zs.length := hxz ▸ hlt
    refine .inr ⟨⟨xs, zs, xs[i], zs[i], q1, q2, List.getElem?_eq_getElem hlt, List.getElem?_eq_getElem hlt2⟩, by omega, fun v H' hv => ?_⟩
    obtain ⟨t, x, z, e1, e2, e3, y1, y2⟩ := hv
    subst e1 e3
    exact hs i ys x z t H (y1 xs q1) (y2 zs q2) p e2
  · have e : i = xs.length := by omega
    subst e
    exact .inl ⟨⟨xs, zs, q1, q2, hi, Nat.le_of_eq hxz, .inl rfl⟩, hd ys H p⟩
/-! ### rows of three -/
def triV (r : MM.Tr) : List V := [.int (r.1 : Nat), .int (r.2.1 : Nat), .int (r.2.2 : Nat)]
def triI (r : MM.Tr) : List Int := [((r.1 : Nat) : Int), ((r.2.1 : Nat) : Int), ((r.2.2 : Nat) : Int)]
def tri (r : MM.Tr) : PyData := .tuple [.int (r.1 : Nat), .int (r.2.1 : Nat), .int (r.2.2 : Nat)]
theorem lexLt_tri (a b : MM.Tr) : HT.lexLt (triI a) (triI b) = MM.lt3 a b := by
  obtain ⟨a1, a2, a3⟩ := a
  obtain ⟨b1, b2, b3⟩ := b
  unfold triI MM.lt3
  simp only [HT.lexLt_cons, HT.lexLt_nil_nil]
  by_cases h1 : a1 = b1
  · subst h1
    rw [if_pos rfl]
    by_cases h2 : a2 = b2
    · subst h2
      rw [if_pos rfl]
      by_cases h3 : a3 = b3
      · subst h3
        simp
      · rw [if_neg (by omega)]
        simp
    · rw [if_neg (by omega)]
      simp [h2]
  · rw [if_neg (by omega)]
    simp [h1]
theorem listLt_tri (a b : MM.Tr) : PySem.W.listLt (triI a) (triI b) = MM.lt3 a b := by
  rw [← lexLt_tri]
  unfold triI
  simp only [HT.lexLt_cons, HT.lexLt_nil_nil, PySem.W.listLt]
  rfl
theorem dataLt_tri (a b : MM.Tr) : PySem.W.dataLt (tri a) (tri b) = MM.lt3 a b := by
  rw [← listLt_tri]
  exact PySem.W.DatumOrd.lt_eq (α := PySem.W.Tup Int) ⟨triI a⟩ ⟨triI b⟩
theorem minD_tri (x : MM.Tr) (xs : List MM.Tr) : PySem.W.minD (tri x) (xs.map tri) = tri (MM.min3 x xs) := by
  unfold PySem.W.minD MM.min3
  induction xs generalizing x with
  | nil => rfl
  | cons y ys ih =>
    rw [List.map_cons, List.foldl_cons, List.foldl_cons, ← ih, dataLt_tri]
    cases MM.lt3 y x <;> rfl
theorem alike_tri (xs : List MM.Tr) : PySem.W.AlikeAll (xs.map tri) := by
  refine ⟨fun x hx y hy => ?_, fun x hx => ?_⟩
  · obtain ⟨a, _, rfl⟩ := List.mem_map.mp hx
    obtain ⟨b, _, rfl⟩ := List.mem_map.mp hy
    exact PySem.W.DatumOrd.alike (α := PySem.W.Tup Int) ⟨triI a⟩ ⟨triI b⟩
  · obtain ⟨a, _, rfl⟩ := List.mem_map.mp hx
    exact fun z => by cases z
theorem sh_tri (r : MM.Tr) : ShK 1 (tri r) := .tup fun d hd => by
  simp only [List.mem_cons, List.not_mem_nil, or_false] at hd
  rcases hd with rfl | rfl | rfl <;> exact .int _ _
theorem tri_inj {a b : MM.Tr} (h : tri a = tri b) : a = b := by
  unfold tri at h
  simp only [PyData.tuple.injEq, List.cons.injEq, PyData.int.injEq, Int.natCast_inj, and_true] at h
  obtain ⟨a1, a2, a3⟩ := a
  obtain ⟨b1, b2, b3⟩ := b
  simp only at h
  rw [h.1, h.2.1, h.2.2]
/-- tuple(.. for .. in x), x a list or a tuple: the items are ws -/
theorem tupG_seq {T : Tb} (tk : TOk T) {P q : Addr} (hP : P ∈ T.gen) {K : PySem.W.Frag} {xs ws : List V} {g : TG} {te : TE} {vs : List Nat} {σ : L2.St} {H : Hp} {Q : VK} {i0 : Nat} (hσ : σ[i0]? = some (some (.ref q))) (hq : SqL K H q xs ∨ SqT K H q xs) (hg : GxR.TabG H P)
    (hw : ws.length = xs.length) (hz : ws.length ≤ 100000)
    (hs : ∀ (i : Nat) x H' (B : V → Hp → Prop), xs[i]? = some x → Ext T No H H' → (∀ y H4, ws[i]? = some y → Ext T No H' H4 → B y H4) → g x (wipe σ vs) H' fun σ2 H3 => wipe σ2 vs = wipe σ vs ∧ te σ2 H3 B)
    (hd : ∀ p H', H' p = some (.tup ws) → Ext T No H H' → Q (.ref p) H') : MG.tTupG P (iSeq K (tVar i0)) g te vs σ H Q := by
  have szn : ∀ {n : Nat}, n ≤ 100000 → n < sizeLine := fun h => by rw [sizeLine_eq]; omega
  refine ⟨.ref q, hσ, q, rfl, ?_⟩
  refine hq.elim (fun hq => .inl ⟨⟨_, hq⟩, hg, fun H2 ht => ⟨_, ⟨_, rfl, Nat.zero_le _, ⟨Ext.tab tk hP hg ht, rfl⟩⟩, turns_list (xs := xs) (fun i ys H' => Ext T No H H' ∧ ys = ws.take i) (fun i ys H' _ ⟨e, _⟩ => SqL.ext hq e id) ?_ ?_⟩⟩)
    (fun hq => .inr ⟨⟨_, hq⟩, hg, fun H2 ht => ⟨_, ⟨_, rfl, Nat.zero_le _, ⟨Ext.tab tk hP hg ht, rfl⟩⟩, turns_tup (xs := xs) (fun i ys H' => Ext T No H H' ∧ ys = ws.take i) (fun i ys H' _ ⟨e, _⟩ => SqT.ext hq e) ?_ ?_⟩⟩)
  all_goals first
    | (rintro i ys x H' hx ⟨e, rfl⟩
       have hi := (List.getElem?_eq_some_iff.mp hx).1
       refine hs i x H' _ hx e fun y H4 hy e4 => ?_
       have e6 : ws.take i ++ [y] = ws.take (i + 1) := by rw [List.take_add_one, hy]; rfl
       have e5 := e.trans e4
       refine ⟨szn (by rw [List.length_take]; omega), _, by omega, rfl, hi, e5, e6⟩)
    | (rintro ys H' ⟨e, rfl⟩
       rw [← hw, List.take_length]
       exact ⟨Nat.le_of_lt (szn hz), fun p hp => hd p _ upd_same (e.trans (Ext.new hp))⟩)
/-- any(.. for .., .. in zip(x, y)) -/
theorem anyG_zipM {T : Tb} (tk : TOk T) {P a b : Addr} (hP : P ∈ T.gen) {K : PySem.W.Frag} {sa sb : Bool} {xs zs : List V} {g : TG} {te : TE} {vs : List Nat} {σ : L2.St} {H : Hp} {Q : VK} {i0 i1 : Nat} (h0 : σ[i0]? = some (some (.ref a))) (h1 : σ[i1]? = some (some (.ref b)))
    (qa : SqB K sa H a xs) (qb : SqB K sb H b zs) (hxz : xs.length = zs.length) (hg : GxR.TabG H P) (Good : Nat → Prop) (g0 : Good 0)
    (hs : ∀ (i : Nat) x z t H' (B : Hp → Prop), xs[i]? = some x → zs[i]? = some z → H' t = some (.tup [x, z]) → Ext T No H H' → Good i → (∀ H4, Ext T No H H4 → Good (i + 1) → B H4) → g (.ref t) (wipe σ vs) H' fun σ2 H3 => wipe σ2 vs = wipe σ vs ∧ te σ2 H3 fun y H4 => ∃ b, y = .bl b ∧ if b = true then Q (.bl true) H4 else B H4)
    (hd : ∀ H', Ext T No H H' → Good xs.length → Q (.bl false) H') : MG.tAnyG P (iZipM K (tCons (tVar i0) (tCons (tVar i1) tNil))) g te vs σ H Q := by
  refine ⟨.ref a, h0, .ref b, h1, a, b, sa, sb, xs, zs, rfl, qa, qb, hg, fun H2 ht => ⟨_, ⟨_, rfl, Nat.zero_le _, ⟨Ext.tab tk hP hg ht, g0⟩⟩, turns_zipM hxz (fun i ys H' => Ext T No H H' ∧ Good i) (fun i ys H' _ ⟨e, _⟩ => ⟨SqB.ext qa e, SqB.ext qb e⟩) ?_ ?_⟩⟩
  · rintro i ys x z t H' hx hz ⟨e, gd⟩ ht
    have hi := (List.getElem?_eq_some_iff.mp hx).1
    exact hs i x z t _ (fun H4 => ∃ m', m' < xs.length - i ∧ m' = xs.length - (i + 1) ∧ i + 1 ≤ xs.length ∧ Ext T No H H4 ∧ Good (i + 1)) hx hz upd_same (e.trans (Ext.new ht)) gd fun H4 e4 g4 => ⟨_, by omega, rfl, hi, e4, g4⟩
  · rintro ys H' ⟨e, gd⟩
    exact hd H' e gd
theorem SqL.extD {T : Tb} {K : PySem.W.Frag} {H H' : Hp} {D a : Addr} {xs : List V} (h : SqL K H a xs) (e : Ext T (· = D) H H') (hD : H D = none) : SqL K H' a xs := by
  rcases h with (h | ⟨o, h⟩) | h
  · exact .inl (.inl (e.lst _ _ h fun z => by rw [z, hD] at h; cases h))
  · exact .inl (.inr ⟨o, e.frz _ _ _ h⟩)
  · exact .inr h
theorem SqB.extD {T : Tb} {K : PySem.W.Frag} {H H' : Hp} {b : Bool} {D a : Addr} {xs : List V} (h : SqB K b H a xs) (e : Ext T (· = D) H H') (hD : H D = none) : SqB K b H' a xs := by
  cases b with
  | true => exact SqL.extD h e hD
  | false => exact SqT.ext h e
theorem snoc_at {α β : Type} {as : List α} {bs : List β} {P : α → β → Prop} {a : α} {b : β} (hl : as.length = bs.length) (h : ∀ (j : Nat) (x : α) (y : β), as[j]? = some x → bs[j]? = some y → P x y) (hab : P a b) :
    ∀ (j : Nat) (x : α) (y : β), (as ++ [a])[j]? = some x → (bs ++ [b])[j]? = some y → P x y := by
  intro j x y h1 h2
  by_cases hj : j < as.length
  · rw [List.getElem?_append_left hj] at h1
    rw [List.getElem?_append_left (by omega)] at h2
    exact h j x y h1 h2
  · have e : j = as.length := by
      have := (List.getElem?_eq_some_iff.mp h1).1
      simp at this
      omega
    subst e
    rw [List.getElem?_concat_length] at h1
    rw [hl, List.getElem?_concat_length] at h2
    cases h1
    cases h2
    exact hab
end MB
namespace MB
open PySem PySem.Spec PyProof.Rows L2
def rRepN (T : Tb) : R2 := fun x y H Q => ∃ l k xs, x = .ref l ∧ y = .int k ∧ H l = some (.lst xs) ∧ -(2 ^ 63) ≤ k ∧ k < 2 ^ 63 ∧ xs.length * k.toNat ≤ sizeLine ∧ ∀ p H2, H p = none → H2 p = some (.lst (List.replicate k.toNat xs).flatten) → Ext T No H H2 → Q (.ref p) H2
theorem op_repN {X : Cx} {T : Tb} : OpR X (binaryOp .Mult) (rRepN T) := by
  intro pins s σ H x y v u Q I rx ry ⟨l, k, xs, e1, e2, h1, h2, h3, hz, q⟩
  exact op_rep pins s σ H x y v u Q I rx ry ⟨l, k, xs, e1, e2, h1, h2, h3, hz, fun p hp => q p _ hp upd_same (Ext.new hp)⟩
end MB

set_option Elab.async false
set_option linter.all false
set_option maxRecDepth 100000
set_option maxHeartbeats 0
namespace K03
open PySem PySem.Spec PyProof.Rows L2
def top (i : Nat) : Stmt := PySem.Challenge.pw_moonstack_k03_moons_and_cycles.main.body.getD i (.Pass ⟨0, 0, 0, 0⟩)
abbrev s_Moons_init : Stmt := inClass (top 5) 0
abbrev s_Moons_new_moon : Stmt := inClass (top 5) 1
abbrev s_Moons_moon_of : Stmt := inClass (top 5) 2
abbrev s_Moons_days_in : Stmt := inClass (top 5) 3
abbrev s_Moons_full_moon : Stmt := inClass (top 5) 4
abbrev s_Moons_moons_in : Stmt := inClass (top 5) 5
abbrev s_meeting : Stmt := top 6
abbrev s_round_of : Stmt := top 7
abbrev s_day_with : Stmt := top 8
abbrev s_best_match : Stmt := top 9
abbrev s_law_dice : Stmt := top 11
abbrev s_law_roll : Stmt := top 12
abbrev s_law_rounds : Stmt := top 13
abbrev s_law_told : Stmt := top 14
abbrev s_law_plain : Stmt := top 15
abbrev s_law : Stmt := top 16
def d_Moons_init : He.DefD := ⟨("Moons", some "__init__"), "__init__", "Moons.__init__", defArgs s_Moons_init, defBody s_Moons_init, defScope s_Moons_init, [], []⟩
def d_Moons_new_moon : He.DefD := ⟨("Moons", some "new_moon"), "new_moon", "Moons.new_moon", defArgs s_Moons_new_moon, defBody s_Moons_new_moon, defScope s_Moons_new_moon, [], []⟩
def d_Moons_moon_of : He.DefD := ⟨("Moons", some "moon_of"), "moon_of", "Moons.moon_of", defArgs s_Moons_moon_of, defBody s_Moons_moon_of, defScope s_Moons_moon_of, [], []⟩
def d_Moons_days_in : He.DefD := ⟨("Moons", some "days_in"), "days_in", "Moons.days_in", defArgs s_Moons_days_in, defBody s_Moons_days_in, defScope s_Moons_days_in, [], []⟩
def d_Moons_full_moon : He.DefD := ⟨("Moons", some "full_moon"), "full_moon", "Moons.full_moon", defArgs s_Moons_full_moon, defBody s_Moons_full_moon, defScope s_Moons_full_moon, [], []⟩
def d_Moons_moons_in : He.DefD := ⟨("Moons", some "moons_in"), "moons_in", "Moons.moons_in", defArgs s_Moons_moons_in, defBody s_Moons_moons_in, defScope s_Moons_moons_in, [], []⟩
def d_meeting : He.DefD := ⟨("meeting", none), "meeting", "meeting", defArgs s_meeting, defBody s_meeting, defScope s_meeting, [], []⟩
def d_round_of : He.DefD := ⟨("round_of", none), "round_of", "round_of", defArgs s_round_of, defBody s_round_of, defScope s_round_of, [], []⟩
def d_day_with : He.DefD := ⟨("day_with", none), "day_with", "day_with", defArgs s_day_with, defBody s_day_with, defScope s_day_with, [], []⟩
def d_best_match : He.DefD := ⟨("best_match", none), "best_match", "best_match", defArgs s_best_match, defBody s_best_match, defScope s_best_match, [], []⟩
def d_law_dice : He.DefD := ⟨("_law_dice", none), "_law_dice", "_law_dice", defArgs s_law_dice, defBody s_law_dice, defScope s_law_dice, [], []⟩
def d_law_roll : He.DefD := ⟨("_law_roll", none), "_law_roll", "_law_roll", defArgs s_law_roll, defBody s_law_roll, defScope s_law_roll, [], []⟩
def d_law_rounds : He.DefD := ⟨("_law_rounds", none), "_law_rounds", "_law_rounds", defArgs s_law_rounds, defBody s_law_rounds, defScope s_law_rounds, [], []⟩
def d_law_told : He.DefD := ⟨("_law_told", none), "_law_told", "_law_told", defArgs s_law_told, defBody s_law_told, defScope s_law_told, [], []⟩
def d_law_plain : He.DefD := ⟨("_law_plain", none), "_law_plain", "_law_plain", defArgs s_law_plain, defBody s_law_plain, defScope s_law_plain, [], []⟩
def d_law : He.DefD := ⟨("law", none), "law", "law", defArgs s_law, defBody s_law, defScope s_law, [], []⟩
def fn : List He.DefD := [d_Moons_init, d_Moons_new_moon, d_Moons_moon_of, d_Moons_days_in, d_Moons_full_moon, d_Moons_moons_in, d_meeting, d_round_of, d_day_with, d_best_match, d_law_dice, d_law_roll, d_law_rounds, d_law_told, d_law_plain, d_law]
def fa : List He.Fa := [.glo "meeting", .glo "round_of", .glo "day_with", .glo "best_match", .glo "_law_dice", .glo "_law_roll", .glo "_law_rounds", .glo "_law_told", .glo "_law_plain", .glo "law", .glo "Moons", .cls "Moons", .mkr "Moons", .noat "Moons" "length", .noat "Moons" "parts", .noat "Moons" "first", .meth "Moons" "new_moon", .meth "Moons" "moon_of", .meth "Moons" "days_in", .meth "Moons" "full_moon", .meth "Moons" "moons_in", .glo "CycleError", .exc "CycleError", .exm "CycleError" "CycleError" true, .int "MOST_MOONS" 200000, .free "tuple", .free "len", .free "any", .free "zip", .free "range", .free "abs", .free "int", .free "max", .free "min", .free "list"]
def tf : List He.Defn := [("meeting", none), ("round_of", none), ("day_with", none), ("_law_plain", none)]
abbrev R : PySem.W.OpenRow := PySem.W.OpenLaw.row PySem.Challenge.rw_moonstack_k03_moons_and_cycles
def exB : PySem.W.Frag → Bool := fun K => decide ((He.cT K ("meeting", none)).2 ≠ (He.cT K ("_law_plain", none)).2 ∧ (He.cT K ("round_of", none)).2 ≠ (He.cT K ("_law_plain", none)).2 ∧ (He.cT K ("day_with", none)).2 ≠ (He.cT K ("_law_plain", none)).2)
abbrev hk : PySem.W.Hook := He.hookX 6 fa fn [] tf exB
def ob (s : PySem.W.SharedT) : He.AlX := He.obsX 6 fa fn [] tf exB (HandSHeadRun.getT s)
theorem ob_eq (s : PySem.W.SharedT) : ob s = hk.obs s.abs := He.obsX_eq (HandSHeadRun.getT_eq s)
def loose0 : List Str := ["MoonError", "CycleError", "MOST_MOONS", "Moons", "meeting", "round_of", "day_with", "best_match", "_law_dice", "_law_roll", "_law_rounds", "_law_told", "_law_plain"]
def loose : List Str := loose0
theorem run (w : World) : HandSHeadRun.RunEq R (PySem.W.view R.prog [16]) hk ob 4000 loose w := by
  intro os
  kernel_rfl
end K03
namespace K03
open PySem PySem.Spec PyProof.Rows L2
theorem sc_Moons_init : FnScope ["self", "length", "parts", "first"] ["self", "length", "parts", "first"] (defScope s_Moons_init) := ⟨rfl, rfl, rfl, by decide +kernel, rfl, by decide +kernel, by decide +kernel⟩
theorem sc_Moons_new_moon : FnScope ["self", "number", "whole"] ["self", "number"] (defScope s_Moons_new_moon) := ⟨rfl, rfl, rfl, by decide +kernel, rfl, by decide +kernel, by decide +kernel⟩
theorem sc_Moons_moon_of : FnScope ["self", "day", "number"] ["self", "day"] (defScope s_Moons_moon_of) := ⟨rfl, rfl, rfl, by decide +kernel, rfl, by decide +kernel, by decide +kernel⟩
theorem sc_Moons_days_in : FnScope ["self", "number"] ["self", "number"] (defScope s_Moons_days_in) := ⟨rfl, rfl, rfl, by decide +kernel, rfl, by decide +kernel, by decide +kernel⟩
theorem sc_Moons_full_moon : FnScope ["self", "number", "day", "part", "whole"] ["self", "number"] (defScope s_Moons_full_moon) := ⟨rfl, rfl, rfl, by decide +kernel, rfl, by decide +kernel, by decide +kernel⟩
theorem sc_Moons_moons_in : FnScope ["self", "first", "last", "low", "high", "start"] ["self", "first", "last"] (defScope s_Moons_moons_in) := ⟨rfl, rfl, rfl, by decide +kernel, rfl, by decide +kernel, by decide +kernel⟩
theorem sc_meeting : FnScope ["cycles", "length", "offset", "day", "whole", "tries", "one", "other"] ["cycles"] (defScope s_meeting) := ⟨rfl, rfl, rfl, by decide +kernel, rfl, by decide +kernel, by decide +kernel⟩
theorem sc_round_of : FnScope ["day", "cycles", "length", "offset"] ["day", "cycles"] (defScope s_round_of) := ⟨rfl, rfl, rfl, by decide +kernel, rfl, by decide +kernel, by decide +kernel⟩
theorem sc_day_with : FnScope ["places", "cycles", "place", "cycle", "found", "length", "offset"] ["places", "cycles"] (defScope s_day_with) := ⟨rfl, rfl, rfl, by decide +kernel, rfl, by decide +kernel, by decide +kernel⟩
theorem sc_best_match : FnScope ["one", "other", "most", "best", "ones", "low", "many", "row"] ["one", "other", "most"] (defScope s_best_match) := ⟨rfl, rfl, rfl, by decide +kernel, rfl, by decide +kernel, by decide +kernel⟩
theorem sc_law_dice : FnScope ["cell"] ["cell"] (defScope s_law_dice) := ⟨rfl, rfl, rfl, by decide +kernel, rfl, by decide +kernel, by decide +kernel⟩
theorem sc_law_roll : FnScope ["dice", "many", "found"] ["dice", "many"] (defScope s_law_roll) := ⟨rfl, rfl, rfl, by decide +kernel, rfl, by decide +kernel, by decide +kernel⟩
theorem sc_law_rounds : FnScope ["script", "most", "cells", "cell"] ["script", "most"] (defScope s_law_rounds) := ⟨rfl, rfl, rfl, by decide +kernel, rfl, by decide +kernel, by decide +kernel⟩
theorem sc_law_told : FnScope ["what"] ["what"] (defScope s_law_told) := ⟨rfl, rfl, rfl, by decide +kernel, rfl, by decide +kernel, by decide +kernel⟩
theorem sc_law_plain : FnScope ["moons", "bad", "f"] [] (defScope s_law_plain) := ⟨rfl, rfl, rfl, by decide +kernel, rfl, by decide +kernel, by decide +kernel⟩
theorem sc_law : FnScope ["script", "dice", "parts", "length", "first", "moons", "number", "part", "k", "day", "last", "before", "age", "cycles", "size", "whole", "offset", "days", "one", "places", "place", "cycle", "other", "most", "rows", "ones", "others"] ["script"] (defScope s_law) := ⟨rfl, rfl, rfl, by decide +kernel, rfl, by decide +kernel, by decide +kernel⟩
def TT (K : PySem.W.Frag) : MB.Tb := ⟨[(He.cT K ("meeting", none)).2, (He.cT K ("round_of", none)).2, (He.cT K ("day_with", none)).2], [((He.cT K ("_law_plain", none)).2, "_law_plain.<locals>.<lambda>")]⟩
structure Tx (K : PySem.W.Frag) (mg : Str → Option Value) (base : Heap) where
  fd_Moons_init : FuncData
  F_Moons_init : FunD K "__init__" "Moons.__init__" (defArgs s_Moons_init) (defBody s_Moons_init) (defScope s_Moons_init) [] [] (He.fAd K ("Moons", some "__init__")) fd_Moons_init
  fd_Moons_new_moon : FuncData
  F_Moons_new_moon : FunD K "new_moon" "Moons.new_moon" (defArgs s_Moons_new_moon) (defBody s_Moons_new_moon) (defScope s_Moons_new_moon) [] [] (He.fAd K ("Moons", some "new_moon")) fd_Moons_new_moon
  m_Moons_new_moon : Meth K (He.ga K "Moons") "new_moon" (He.ma K (He.ga K "Moons") "new_moon")
  fd_Moons_moon_of : FuncData
  F_Moons_moon_of : FunD K "moon_of" "Moons.moon_of" (defArgs s_Moons_moon_of) (defBody s_Moons_moon_of) (defScope s_Moons_moon_of) [] [] (He.fAd K ("Moons", some "moon_of")) fd_Moons_moon_of
  m_Moons_moon_of : Meth K (He.ga K "Moons") "moon_of" (He.ma K (He.ga K "Moons") "moon_of")
  fd_Moons_days_in : FuncData
  F_Moons_days_in : FunD K "days_in" "Moons.days_in" (defArgs s_Moons_days_in) (defBody s_Moons_days_in) (defScope s_Moons_days_in) [] [] (He.fAd K ("Moons", some "days_in")) fd_Moons_days_in
  m_Moons_days_in : Meth K (He.ga K "Moons") "days_in" (He.ma K (He.ga K "Moons") "days_in")
  fd_Moons_full_moon : FuncData
  F_Moons_full_moon : FunD K "full_moon" "Moons.full_moon" (defArgs s_Moons_full_moon) (defBody s_Moons_full_moon) (defScope s_Moons_full_moon) [] [] (He.fAd K ("Moons", some "full_moon")) fd_Moons_full_moon
  m_Moons_full_moon : Meth K (He.ga K "Moons") "full_moon" (He.ma K (He.ga K "Moons") "full_moon")
  fd_Moons_moons_in : FuncData
  F_Moons_moons_in : FunD K "moons_in" "Moons.moons_in" (defArgs s_Moons_moons_in) (defBody s_Moons_moons_in) (defScope s_Moons_moons_in) [] [] (He.fAd K ("Moons", some "moons_in")) fd_Moons_moons_in
  m_Moons_moons_in : Meth K (He.ga K "Moons") "moons_in" (He.ma K (He.ga K "Moons") "moons_in")
  fd_meeting : FuncData
  F_meeting : FunD K "meeting" "meeting" (defArgs s_meeting) (defBody s_meeting) (defScope s_meeting) [] [] (He.fAd K ("meeting", none)) fd_meeting
  g_meeting : mg "meeting" = some (.ref (He.ga K "meeting"))
  fd_round_of : FuncData
  F_round_of : FunD K "round_of" "round_of" (defArgs s_round_of) (defBody s_round_of) (defScope s_round_of) [] [] (He.fAd K ("round_of", none)) fd_round_of
  g_round_of : mg "round_of" = some (.ref (He.ga K "round_of"))
  fd_day_with : FuncData
  F_day_with : FunD K "day_with" "day_with" (defArgs s_day_with) (defBody s_day_with) (defScope s_day_with) [] [] (He.fAd K ("day_with", none)) fd_day_with
  g_day_with : mg "day_with" = some (.ref (He.ga K "day_with"))
  fd_best_match : FuncData
  F_best_match : FunD K "best_match" "best_match" (defArgs s_best_match) (defBody s_best_match) (defScope s_best_match) [] [] (He.fAd K ("best_match", none)) fd_best_match
  g_best_match : mg "best_match" = some (.ref (He.ga K "best_match"))
  fd_law_dice : FuncData
  F_law_dice : FunD K "_law_dice" "_law_dice" (defArgs s_law_dice) (defBody s_law_dice) (defScope s_law_dice) [] [] (He.fAd K ("_law_dice", none)) fd_law_dice
  g_law_dice : mg "_law_dice" = some (.ref (He.ga K "_law_dice"))
  fd_law_roll : FuncData
  F_law_roll : FunD K "_law_roll" "_law_roll" (defArgs s_law_roll) (defBody s_law_roll) (defScope s_law_roll) [] [] (He.fAd K ("_law_roll", none)) fd_law_roll
  g_law_roll : mg "_law_roll" = some (.ref (He.ga K "_law_roll"))
  fd_law_rounds : FuncData
  F_law_rounds : FunD K "_law_rounds" "_law_rounds" (defArgs s_law_rounds) (defBody s_law_rounds) (defScope s_law_rounds) [] [] (He.fAd K ("_law_rounds", none)) fd_law_rounds
  g_law_rounds : mg "_law_rounds" = some (.ref (He.ga K "_law_rounds"))
  fd_law_told : FuncData
  F_law_told : FunD K "_law_told" "_law_told" (defArgs s_law_told) (defBody s_law_told) (defScope s_law_told) [] [] (He.fAd K ("_law_told", none)) fd_law_told
  g_law_told : mg "_law_told" = some (.ref (He.ga K "_law_told"))
  fd_law_plain : FuncData
  F_law_plain : FunD K "_law_plain" "_law_plain" (defArgs s_law_plain) (defBody s_law_plain) (defScope s_law_plain) [] [] (He.fAd K ("_law_plain", none)) fd_law_plain
  g_law_plain : mg "_law_plain" = some (.ref (He.ga K "_law_plain"))
  fd_law : FuncData
  F_law : FunD K "law" "law" (defArgs s_law) (defBody s_law) (defScope s_law) [] [] (He.fAd K ("law", none)) fd_law
  g_law : mg "law" = some (.ref (He.ga K "law"))
  g_Moons : mg "Moons" = some (.ref (He.ga K "Moons"))
  c_Moons : Cls K (He.ga K "Moons")
  mk_Moons : Mk K (He.ga K "Moons") (He.ma K (He.ga K "Moons") "__init__")
  na_Moons_length : NoAttr K (He.ga K "Moons") "length"
  na_Moons_parts : NoAttr K (He.ga K "Moons") "parts"
  na_Moons_first : NoAttr K (He.ga K "Moons") "first"
  g_CycleError : mg "CycleError" = some (.ref (He.ga K "CycleError"))
  x_CycleError : PySem.W.excIn K (He.ga K "CycleError") He.veBase "ValueError.__new__" = true ∧ PySem.W.keepIn K (.ref (He.ga K "CycleError")) = true ∧ PySem.W.subIn K (.ref (He.ga K "CycleError")) (.type "BaseException") = some true ∧ PySem.W.typeIn K (.ref (He.ga K "CycleError")) = some (.type "type")
  xm_CycleError_CycleError : PySem.W.exmOne K (.ref (He.ga K "CycleError")) (.ref (He.ga K "CycleError")) = some true
  i_MOST_MOONS : ∃ t, mg "MOST_MOONS" = some (.int 200000 t)
  b_tuple : mg "tuple" = none
  b_len : mg "len" = none
  b_any : mg "any" = none
  b_zip : mg "zip" = none
  b_range : mg "range" = none
  b_abs : mg "abs" = none
  b_int : mg "int" = none
  b_max : mg "max" = none
  b_min : mg "min" = none
  b_list : mg "list" = none
  tb_meeting : GxR.TabB base mg (He.cT K ("meeting", none)).1 (He.cT K ("meeting", none)).2
  tb_round_of : GxR.TabB base mg (He.cT K ("round_of", none)).1 (He.cT K ("round_of", none)).2
  tb_day_with : GxR.TabB base mg (He.cT K ("day_with", none)).1 (He.cT K ("day_with", none)).2
  tb_law_plain : GxR.TabB base mg (He.cT K ("_law_plain", none)).1 (He.cT K ("_law_plain", none)).2
theorem tx_of {K : PySem.W.Frag} {mg : Str → Option Value} {base h : Heap} {w : World} (X : K.In h) (G : h.Ns mainGlobals mg) (c : He.SaysX fa fn [] tf exB w h K) (tb : ∀ p ∈ tf.map (He.cT K), GxR.TabB base mg p.1 p.2) : Nonempty (Tx K mg base) := by
  have D := c.t.d
  obtain ⟨f0, F0⟩ := D.def_ 0 (d := d_Moons_init) rfl
  obtain ⟨f1, F1⟩ := D.def_ 1 (d := d_Moons_new_moon) rfl
  obtain ⟨f2, F2⟩ := D.def_ 2 (d := d_Moons_moon_of) rfl
  obtain ⟨f3, F3⟩ := D.def_ 3 (d := d_Moons_days_in) rfl
  obtain ⟨f4, F4⟩ := D.def_ 4 (d := d_Moons_full_moon) rfl
  obtain ⟨f5, F5⟩ := D.def_ 5 (d := d_Moons_moons_in) rfl
  obtain ⟨f6, F6⟩ := D.def_ 6 (d := d_meeting) rfl
  obtain ⟨f7, F7⟩ := D.def_ 7 (d := d_round_of) rfl
  obtain ⟨f8, F8⟩ := D.def_ 8 (d := d_day_with) rfl
  obtain ⟨f9, F9⟩ := D.def_ 9 (d := d_best_match) rfl
  obtain ⟨f10, F10⟩ := D.def_ 10 (d := d_law_dice) rfl
  obtain ⟨f11, F11⟩ := D.def_ 11 (d := d_law_roll) rfl
  obtain ⟨f12, F12⟩ := D.def_ 12 (d := d_law_rounds) rfl
  obtain ⟨f13, F13⟩ := D.def_ 13 (d := d_law_told) rfl
  obtain ⟨f14, F14⟩ := D.def_ 14 (d := d_law_plain) rfl
  obtain ⟨f15, F15⟩ := D.def_ 15 (d := d_law) rfl
  refine ⟨{ fd_Moons_init := f0, F_Moons_init := F0, fd_Moons_new_moon := f1, F_Moons_new_moon := F1, m_Moons_new_moon := He.meth_ok (D.fact 16 (f := .meth "Moons" "new_moon") rfl), fd_Moons_moon_of := f2, F_Moons_moon_of := F2, m_Moons_moon_of := He.meth_ok (D.fact 17 (f := .meth "Moons" "moon_of") rfl), fd_Moons_days_in := f3, F_Moons_days_in := F3, m_Moons_days_in := He.meth_ok (D.fact 18 (f := .meth "Moons" "days_in") rfl), fd_Moons_full_moon := f4, F_Moons_full_moon := F4, m_Moons_full_moon := He.meth_ok (D.fact 19 (f := .meth "Moons" "full_moon") rfl), fd_Moons_moons_in := f5, F_Moons_moons_in := F5, m_Moons_moons_in := He.meth_ok (D.fact 20 (f := .meth "Moons" "moons_in") rfl), fd_meeting := f6, F_meeting := F6, g_meeting := He.glo_ok X G (D.fact 0 (f := .glo "meeting") rfl), fd_round_of := f7, F_round_of := F7, g_round_of := He.glo_ok X G (D.fact 1 (f := .glo "round_of") rfl), fd_day_with := f8, F_day_with := F8, g_day_with := He.glo_ok X G (D.fact 2 (f := .glo "day_with") rfl), fd_best_match := f9, F_best_match := F9, g_best_match := He.glo_ok X G (D.fact 3 (f := .glo "best_match") rfl), fd_law_dice := f10, F_law_dice := F10, g_law_dice := He.glo_ok X G (D.fact 4 (f := .glo "_law_dice") rfl), fd_law_roll := f11, F_law_roll := F11, g_law_roll := He.glo_ok X G (D.fact 5 (f := .glo "_law_roll") rfl), fd_law_rounds := f12, F_law_rounds := F12, g_law_rounds := He.glo_ok X G (D.fact 6 (f := .glo "_law_rounds") rfl), fd_law_told := f13, F_law_told := F13, g_law_told := He.glo_ok X G (D.fact 7 (f := .glo "_law_told") rfl), fd_law_plain := f14, F_law_plain := F14, g_law_plain := He.glo_ok X G (D.fact 8 (f := .glo "_law_plain") rfl), fd_law := f15, F_law := F15, g_law := He.glo_ok X G (D.fact 9 (f := .glo "law") rfl), g_Moons := He.glo_ok X G (D.fact 10 (f := .glo "Moons") rfl), c_Moons := He.cls_ok (D.fact 11 (f := .cls "Moons") rfl), mk_Moons := He.mkr_ok (D.fact 12 (f := .mkr "Moons") rfl), na_Moons_length := He.noat_ok (D.fact 13 (f := .noat "Moons" "length") rfl), na_Moons_parts := He.noat_ok (D.fact 14 (f := .noat "Moons" "parts") rfl), na_Moons_first := He.noat_ok (D.fact 15 (f := .noat "Moons" "first") rfl), g_CycleError := He.glo_ok X G (D.fact 21 (f := .glo "CycleError") rfl), x_CycleError := He.exc_ok (D.fact 22 (f := .exc "CycleError") rfl), xm_CycleError_CycleError := He.exm_ok (D.fact 23 (f := .exm "CycleError" "CycleError" true) rfl), i_MOST_MOONS := He.int_ok X G (D.fact 24 (f := .int "MOST_MOONS" 200000) rfl), b_tuple := He.free_ok X G (D.fact 25 (f := .free "tuple") rfl), b_len := He.free_ok X G (D.fact 26 (f := .free "len") rfl), b_any := He.free_ok X G (D.fact 27 (f := .free "any") rfl), b_zip := He.free_ok X G (D.fact 28 (f := .free "zip") rfl), b_range := He.free_ok X G (D.fact 29 (f := .free "range") rfl), b_abs := He.free_ok X G (D.fact 30 (f := .free "abs") rfl), b_int := He.free_ok X G (D.fact 31 (f := .free "int") rfl), b_max := He.free_ok X G (D.fact 32 (f := .free "max") rfl), b_min := He.free_ok X G (D.fact 33 (f := .free "min") rfl), b_list := He.free_ok X G (D.fact 34 (f := .free "list") rfl), tb_meeting := tb _ (List.mem_map.mpr ⟨("meeting", none), by decide, rfl⟩), tb_round_of := tb _ (List.mem_map.mpr ⟨("round_of", none), by decide, rfl⟩), tb_day_with := tb _ (List.mem_map.mpr ⟨("day_with", none), by decide, rfl⟩), tb_law_plain := tb _ (List.mem_map.mpr ⟨("_law_plain", none), by decide, rfl⟩) }⟩
theorem bi_Moons_init {K : PySem.W.Frag} {mg : Str → Option Value} {base : Heap} (T : Tx K mg base) : Binds K T.fd_Moons_init ["self", "length", "parts", "first"] [] := T.F_Moons_init.bindsN fun _ _ _ _ _ _ us hl => match us, hl with | [_, _, _, _], _ => rfl
theorem bi_Moons_new_moon {K : PySem.W.Frag} {mg : Str → Option Value} {base : Heap} (T : Tx K mg base) : Binds K T.fd_Moons_new_moon ["self", "number"] [] := T.F_Moons_new_moon.bindsN fun _ _ _ _ _ _ us hl => match us, hl with | [_, _], _ => rfl
theorem bi_Moons_moon_of {K : PySem.W.Frag} {mg : Str → Option Value} {base : Heap} (T : Tx K mg base) : Binds K T.fd_Moons_moon_of ["self", "day"] [] := T.F_Moons_moon_of.bindsN fun _ _ _ _ _ _ us hl => match us, hl with | [_, _], _ => rfl
theorem bi_Moons_days_in {K : PySem.W.Frag} {mg : Str → Option Value} {base : Heap} (T : Tx K mg base) : Binds K T.fd_Moons_days_in ["self", "number"] [] := T.F_Moons_days_in.bindsN fun _ _ _ _ _ _ us hl => match us, hl with | [_, _], _ => rfl
theorem bi_Moons_full_moon {K : PySem.W.Frag} {mg : Str → Option Value} {base : Heap} (T : Tx K mg base) : Binds K T.fd_Moons_full_moon ["self", "number"] [] := T.F_Moons_full_moon.bindsN fun _ _ _ _ _ _ us hl => match us, hl with | [_, _], _ => rfl
theorem bi_Moons_moons_in {K : PySem.W.Frag} {mg : Str → Option Value} {base : Heap} (T : Tx K mg base) : Binds K T.fd_Moons_moons_in ["self", "first", "last"] [] := T.F_Moons_moons_in.bindsN fun _ _ _ _ _ _ us hl => match us, hl with | [_, _, _], _ => rfl
theorem bi_meeting {K : PySem.W.Frag} {mg : Str → Option Value} {base : Heap} (T : Tx K mg base) : Binds K T.fd_meeting ["cycles"] [] := T.F_meeting.bindsN fun _ _ _ _ _ _ us hl => match us, hl with | [_], _ => rfl
theorem bi_round_of {K : PySem.W.Frag} {mg : Str → Option Value} {base : Heap} (T : Tx K mg base) : Binds K T.fd_round_of ["day", "cycles"] [] := T.F_round_of.bindsN fun _ _ _ _ _ _ us hl => match us, hl with | [_, _], _ => rfl
theorem bi_day_with {K : PySem.W.Frag} {mg : Str → Option Value} {base : Heap} (T : Tx K mg base) : Binds K T.fd_day_with ["places", "cycles"] [] := T.F_day_with.bindsN fun _ _ _ _ _ _ us hl => match us, hl with | [_, _], _ => rfl
theorem bi_best_match {K : PySem.W.Frag} {mg : Str → Option Value} {base : Heap} (T : Tx K mg base) : Binds K T.fd_best_match ["one", "other", "most"] [] := T.F_best_match.bindsN fun _ _ _ _ _ _ us hl => match us, hl with | [_, _, _], _ => rfl
theorem bi_law_dice {K : PySem.W.Frag} {mg : Str → Option Value} {base : Heap} (T : Tx K mg base) : Binds K T.fd_law_dice ["cell"] [] := T.F_law_dice.bindsN fun _ _ _ _ _ _ us hl => match us, hl with | [_], _ => rfl
theorem bi_law_roll {K : PySem.W.Frag} {mg : Str → Option Value} {base : Heap} (T : Tx K mg base) : Binds K T.fd_law_roll ["dice", "many"] [] := T.F_law_roll.bindsN fun _ _ _ _ _ _ us hl => match us, hl with | [_, _], _ => rfl
theorem bi_law_rounds {K : PySem.W.Frag} {mg : Str → Option Value} {base : Heap} (T : Tx K mg base) : Binds K T.fd_law_rounds ["script", "most"] [] := T.F_law_rounds.bindsN fun _ _ _ _ _ _ us hl => match us, hl with | [_, _], _ => rfl
theorem bi_law_told {K : PySem.W.Frag} {mg : Str → Option Value} {base : Heap} (T : Tx K mg base) : Binds K T.fd_law_told ["what"] [] := T.F_law_told.bindsN fun _ _ _ _ _ _ us hl => match us, hl with | [_], _ => rfl
theorem bi_law_plain {K : PySem.W.Frag} {mg : Str → Option Value} {base : Heap} (T : Tx K mg base) : Binds K T.fd_law_plain [] [] := T.F_law_plain.bindsN fun _ _ _ _ _ _ us hl => match us, hl with | [], _ => rfl
theorem bi_law {K : PySem.W.Frag} {mg : Str → Option Value} {base : Heap} (T : Tx K mg base) : Binds K T.fd_law ["script"] [] := T.F_law.bindsN fun _ _ _ _ _ _ us hl => match us, hl with | [_], _ => rfl
end K03

set_option Elab.async false
set_option linter.all false
set_option maxRecDepth 100000
set_option maxHeartbeats 2000000
namespace K03
open PySem PySem.Spec PyProof.Rows L2 MB
local macro_rules | `(tactic| walk_at "s") => `(tactic| repeat (first | refine ⟨_, rfl, ?_⟩ | refine ⟨_, _, rfl, rfl, ?_⟩ | refine ⟨_, _, rfl, ?_⟩ | refine ⟨rfl, ?_⟩))
variable {P : Program} {w : World} {K : PySem.W.Frag} {mg : Str → Option Value} {base : Heap}
theorem sz {n : Nat} (h : n ≤ 1000 := by simp) : n ≤ sizeLine := by rw [sizeLine_eq]; omega
theorem szl {n : Nat} (h : n ≤ 1000) : n < sizeLine := by rw [sizeLine_eq]; omega
theorem szm {n : Nat} (h : n ≤ 100000) : n < sizeLine := by rw [sizeLine_eq]; omega
abbrev CE (K : PySem.W.Frag) : Value := .ref (He.ga K "CycleError")
abbrev MC (K : PySem.W.Frag) : Addr := He.ga K "Moons"
/-! ### _law_dice -/
def spDice (K : PySem.W.Frag) : Sp := fun vs H Q _ => ∃ c : Int, vs = [.int c] ∧ ∀ p H', H p = none → DiceAt H' p → Ext (TT K) No H H' → Q (.ref p) H'
theorem ok_law_dice (T : Tx K mg base) : FnOk P w K mg base (L2.CX P w) 1 (He.fAd K ("_law_dice", none)) T.fd_law_dice ["cell"] (spDice K) := by
  refine T.F_law_dice.ok sc_law_dice (fun vs H Q E h => ?_) (fun cdv A outer s H vs Q E hr h => ⟨_, (pss_cons (ps_if (pt_chain op_lt op_lt (pe_op op_sub pe_int pe_int) (pv 0) pe_int) (pss_one (ps_ret (pe_lstN (T := TT K) (pa_cons (pe_callB call_abs rfl T.b_abs (by decide +kernel) (pa_cons (pv 0) pa_nil)) (pa_cons pe_int (pa_cons pe_int pa_nil)))))) pss_nil)
 (pss_one (ps_ret (pe_lstN (T := TT K) (pa_cons (pv 0) (pa_cons (pe_op op_add pe_int (pe_op op_mod (pe_callTy call_int1 rfl T.b_int (by decide +kernel) (pa_cons (pv 0) pa_nil)) pe_int)) (pa_cons (pe_callTy call_int1 rfl T.b_int (by decide +kernel) (pa_cons (pe_cmpR op_ge (pv 0) (pe_op op_pow pe_int pe_int) (nomark _)) pa_nil)) pa_nil))))))), ?_⟩)
  · obtain ⟨c, rfl, _⟩ := h
    rfl
  · obtain ⟨c, rfl, hQ⟩ := h
    walk_at "s"
    refine ifB (fun q1 => ?_) (fun q1 => ?_)
    · walk_at "s"
      refine ifB (fun q2 => ?_) (fun q2 => ?_)
      · walk_at "s"
        refine ⟨sz, fun p H2 h1 h2 e => hQ p H2 h1 ⟨_, _, _, h2⟩ e⟩
      · walk_at "s"
        refine .inl ⟨_, rfl, ?_⟩
        walk_at "s"
        refine ⟨(by show (0 : Int) < 1009; decide), ?_⟩
        walk_at "s"
        refine ⟨⟨by decide, by decide, by decide⟩, ?_⟩
        walk_at "s"
        refine .inr ⟨_, rfl, ?_⟩
        walk_at "s"
        refine ⟨sz, fun p H2 h1 h2 e => hQ p H2 h1 ⟨_, _, _, h2⟩ e⟩
    · walk_at "s"
      refine .inl ⟨_, rfl, ?_⟩
      walk_at "s"
      refine ⟨(by show (0 : Int) < 1009; decide), ?_⟩
      walk_at "s"
      refine ⟨⟨by decide, by decide, by decide⟩, ?_⟩
      walk_at "s"
      refine .inr ⟨_, rfl, ?_⟩
      walk_at "s"
      refine ⟨sz, fun p H2 h1 h2 e => hQ p H2 h1 ⟨_, _, _, h2⟩ e⟩
/-! ### _law_roll -/
def spRoll (K : PySem.W.Frag) : Sp := fun vs H Q _ => ∃ (p : Addr) (m : Int), vs = [.ref p, .int m] ∧ DiceAt H p ∧ 1 ≤ m ∧ m ≤ 100000000 ∧ ∀ (r : Nat) H', (r : Int) < m → DiceAt H' p → Ext (TT K) (· = p) H H' → Q (.int (r : Nat)) H'
theorem ok_law_roll (T : Tx K mg base) : FnOk P w K mg base (L2.CX P w) 1 (He.fAd K ("_law_roll", none)) T.fd_law_roll ["dice", "many"] (spRoll K) := by
  refine T.F_law_roll.ok sc_law_roll (fun vs H Q E h => ?_) (fun cdv A outer s H vs Q E hr h => ⟨_, (pss_cons (ps_if (PW.pt (pw_or (pt_cmpR op_eq (pe_ix (ix_listK (K := K) rfl) (pv 0) pe_int (fun _ _ => rfl)) pe_int (nomark _)) (pw_or1 (PW.pt (pw_and (pt_cmpR op_eq (pe_ix (ix_listK (K := K) rfl) (pv 0) pe_int (fun _ _ => rfl)) pe_int (nomark _)) (pw_and1 (pt_cmpR op_gt (pe_ix (ix_listK (K := K) rfl) (pv 0) pe_int (fun _ _ => rfl)) pe_int (nomark _)))))))) (pss_cons (ps_set (i := 2) sc_law_roll.nd rfl (Or.inl rfl) (pe_op op_mod (pe_callTy call_int1 rfl T.b_int (by decide +kernel) (pa_cons (pe_ix (ix_listK (K := K) rfl) (pv 0) pe_int (fun _ _ => rfl)) pa_nil)) (pv 1)))
 (pss_cons (ps_asg (pe_op op_fdiv (pe_ix (ix_listK (K := K) rfl) (pv 0) pe_int (fun _ _ => rfl)) (pv 1)) (pg_sub (pv 0) pe_int (set_listN (T := TT K))))
 (pss_one (ps_ret (pv 2))))) pss_nil)
 (pss_cons (ps_asg pe_int (pg_sub (pv 0) pe_int (set_listN (T := TT K))))
 (pss_cons (ps_if (pt_cmpR op_gt (pv 1) pe_int (nomark _)) (pss_one ps_never) pss_nil)
 (pss_cons (ps_asg (pe_op op_mod (pe_callTy call_int1 rfl T.b_int (by decide +kernel) (pa_cons (pe_op op_add (pe_op op_add (pe_op op_mul (pe_ix (ix_listK (K := K) rfl) (pv 0) pe_int (fun _ _ => rfl)) pe_int) (pe_op op_mul (pe_ix (ix_listK (K := K) rfl) (pv 0) pe_int (fun _ _ => rfl)) pe_int)) pe_int) pa_nil)) pe_int) (pg_sub (pv 0) pe_int (set_listN (T := TT K))))
 (pss_cons (ps_asg (pe_op op_add (pe_ix (ix_listK (K := K) rfl) (pv 0) pe_int (fun _ _ => rfl)) pe_int) (pg_sub (pv 0) pe_int (set_listN (T := TT K))))
 (pss_one (ps_ret (pe_op op_mod (pe_callTy call_int1 rfl T.b_int (by decide +kernel) (pa_cons (pe_op op_fdiv (pe_ix (ix_listK (K := K) rfl) (pv 0) pe_int (fun _ _ => rfl)) pe_int) pa_nil)) (pv 1))))))))), ?_⟩)
  · obtain ⟨p, m, rfl, _⟩ := h
    rfl
  · obtain ⟨p, m, rfl, ⟨c, n, k, hp⟩, hm1, hm2, hQ⟩ := h
    have fin1 : ∀ H1, H1 p = some (.lst [.int (c / m), .int n, .int k]) → Ext (TT K) (· = p) H H1 → Q (.int (c % m)) H1 := fun H1 h1 e1 => by
      have h0 := Int.emod_nonneg c (show m ≠ 0 by omega)
      have hl := Int.emod_lt_of_pos c (show 0 < m by omega)
      obtain ⟨r, hr⟩ := Int.eq_ofNat_of_zero_le h0
      rw [hr] at hl ⊢
      exact hQ r H1 hl ⟨_, _, _, h1⟩ e1
    have fin2 : ∀ (z : Int) H1, DiceAt H1 p → Ext (TT K) (· = p) H H1 → Q (.int (z % m)) H1 := fun z H1 h1 e1 => by
      have h0 := Int.emod_nonneg z (show m ≠ 0 by omega)
      have hl := Int.emod_lt_of_pos z (show 0 < m by omega)
      obtain ⟨r, hr⟩ := Int.eq_ofNat_of_zero_le h0
      rw [hr] at hl ⊢
      exact hQ r H1 hl h1 e1
    walk_at "s"
    refine ⟨_, _, _, _, rfl, rfl, SqL.of hp, rfl, ?_⟩
    walk_at "s"
    refine ifB (fun q1 => ?_) (fun q1 => ?_)
    · walk_at "s"
      refine ⟨_, _, _, _, rfl, rfl, SqL.of hp, rfl, ?_⟩
      walk_at "s"
      refine .inl ⟨_, rfl, ?_⟩
      walk_at "s"
      refine ⟨by omega, ?_⟩
      walk_at "s"
      refine ⟨_, _, _, _, rfl, rfl, SqL.of hp, rfl, ?_⟩
      walk_at "s"
      refine ⟨⟨by omega, by omega⟩, ?_⟩
      walk_at "s"
      refine ⟨_, _, _, _, rfl, rfl, hp, rfl, fun H1 h1 e1 => ?_⟩
      walk_at "s"
      exact fin1 H1 h1 e1
    · walk_at "s"
      refine ⟨_, _, _, _, rfl, rfl, SqL.of hp, rfl, ?_⟩
      walk_at "s"
      refine ifB (fun q2 => ?_) (fun q2 => ?_)
      · walk_at "s"
        refine ⟨_, _, _, _, rfl, rfl, SqL.of hp, rfl, ?_⟩
        walk_at "s"
        refine ifB (fun q3 => ?_) (fun q3 => ?_)
        · walk_at "s"
          refine ⟨_, _, _, _, rfl, rfl, SqL.of hp, rfl, ?_⟩
          walk_at "s"
          refine .inl ⟨_, rfl, ?_⟩
          walk_at "s"
          refine ⟨by omega, ?_⟩
          walk_at "s"
          refine ⟨_, _, _, _, rfl, rfl, SqL.of hp, rfl, ?_⟩
          walk_at "s"
          refine ⟨⟨by omega, by omega⟩, ?_⟩
          walk_at "s"
          refine ⟨_, _, _, _, rfl, rfl, hp, rfl, fun H1 h1 e1 => ?_⟩
          walk_at "s"
          exact fin1 H1 h1 e1
        · walk_at "s"
          refine ⟨_, _, _, _, rfl, rfl, hp, rfl, fun H1 h1 e1 => ?_⟩
          walk_at "s"
          refine ifB (fun q => absurd q (by simpa using hm2)) (fun _ => ?_)
          walk_at "s"
          refine ⟨_, _, _, _, rfl, rfl, SqL.of h1, rfl, ?_⟩
          walk_at "s"
          refine ⟨.inr ⟨by decide, by decide⟩, ?_⟩
          walk_at "s"
          refine ⟨_, _, _, _, rfl, rfl, SqL.of h1, rfl, ?_⟩
          walk_at "s"
          refine ⟨.inr ⟨by decide, by decide⟩, ?_⟩
          walk_at "s"
          refine .inl ⟨_, rfl, ?_⟩
          walk_at "s"
          refine ⟨(by show (0 : Int) < 2147483647; decide), ?_⟩
          walk_at "s"
          refine ⟨_, _, _, _, rfl, rfl, h1, rfl, fun H2 h2 e2 => ?_⟩
          walk_at "s"
          refine ⟨_, _, _, _, rfl, rfl, SqL.of h2, rfl, ?_⟩
          walk_at "s"
          refine ⟨_, _, _, _, rfl, rfl, h2, rfl, fun H3 h3 e3 => ?_⟩
          walk_at "s"
          refine ⟨_, _, _, _, rfl, rfl, SqL.of h3, rfl, ?_⟩
          walk_at "s"
          refine ⟨⟨by decide, by decide⟩, ?_⟩
          walk_at "s"
          refine .inl ⟨_, rfl, ?_⟩
          walk_at "s"
          refine ⟨by omega, ?_⟩
          exact fin2 _ H3 ⟨_, _, _, h3⟩ ((e1.trans e2).trans e3)
      · walk_at "s"
        refine ⟨_, _, _, _, rfl, rfl, hp, rfl, fun H1 h1 e1 => ?_⟩
        walk_at "s"
        refine ifB (fun q => absurd q (by simpa using hm2)) (fun _ => ?_)
        walk_at "s"
        refine ⟨_, _, _, _, rfl, rfl, SqL.of h1, rfl, ?_⟩
        walk_at "s"
        refine ⟨.inr ⟨by decide, by decide⟩, ?_⟩
        walk_at "s"
        refine ⟨_, _, _, _, rfl, rfl, SqL.of h1, rfl, ?_⟩
        walk_at "s"
        refine ⟨.inr ⟨by decide, by decide⟩, ?_⟩
        walk_at "s"
        refine .inl ⟨_, rfl, ?_⟩
        walk_at "s"
        refine ⟨(by show (0 : Int) < 2147483647; decide), ?_⟩
        walk_at "s"
        refine ⟨_, _, _, _, rfl, rfl, h1, rfl, fun H2 h2 e2 => ?_⟩
        walk_at "s"
        refine ⟨_, _, _, _, rfl, rfl, SqL.of h2, rfl, ?_⟩
        walk_at "s"
        refine ⟨_, _, _, _, rfl, rfl, h2, rfl, fun H3 h3 e3 => ?_⟩
        walk_at "s"
        refine ⟨_, _, _, _, rfl, rfl, SqL.of h3, rfl, ?_⟩
        walk_at "s"
        refine ⟨⟨by decide, by decide⟩, ?_⟩
        walk_at "s"
        refine .inl ⟨_, rfl, ?_⟩
        walk_at "s"
        refine ⟨by omega, ?_⟩
        exact fin2 _ H3 ⟨_, _, _, h3⟩ ((e1.trans e2).trans e3)
/-! ### _law_rounds -/
theorem cut1 (xs : List V) : cutV xs none (some 1) = xs.take 1 := by
  unfold cutV HT.sIx
  simp
def InvRd (K : PySem.W.Frag) (D : Addr) (H1 : Hp) : Nat → Hp → Prop
  | 0, H => H D = some (.lst []) ∧ Ext (TT K) (· = D) H1 H
  | _ + 1, H => ∃ q, H D = some (.lst [.ref q]) ∧ DiceAt H q ∧ q ≠ D ∧ Ext (TT K) (· = D) H1 H
def spRounds (K : PySem.W.Frag) : Sp := fun vs H Q _ => ∃ (a : Addr) (ns : List Int), vs = [.ref a, .int 1] ∧ SqL K H a (ns.map V.int) ∧ ∀ p q H', H' p = some (.lst [.ref q]) → DiceAt H' q → q ≠ p → Ext (TT K) No H H' → Q (.ref p) H'
theorem ok_law_rounds (T : Tx K mg base) : FnOk P w K mg base (L2.CX P w) 2 (He.fAd K ("_law_rounds", none)) T.fd_law_rounds ["script", "most"] (spRounds K) := by
  refine T.F_law_rounds.ok sc_law_rounds (fun vs H Q E h => ?_) (fun cdv A outer s H vs Q E hr h => ⟨_, (pss_cons (ps_set (i := 2) sc_law_rounds.nd rfl (Or.inl rfl) (pe_slice (sl_listNK (T := TT K) (K := K) rfl) (pv 0) po_none (po_some (pv 1))))
 (pss_cons (ps_if (pt_cmpR (op_eqDK (K := K) rfl hr.units) (pv 2) (pe_lstN (T := TT K) pa_nil) (nomark _)) (pss_one (ps_set (i := 2) sc_law_rounds.nd rfl (Or.inl rfl) (pe_lstN (T := TT K) (pa_cons pe_int pa_nil)))) pss_nil)
 (pss_one (ps_ret (pe_lc rfl sc_law_rounds.nd (pi_listK (K := K) rfl (pv 2)) (blkOk_by (N := ["script", "most", "cells", "cell"]) (sc := defScope s_law_rounds) (own := [("cell", 3)]) (by decide +kernel)) (fun _ _ _ _ _ => (pg_name (i := 3) sc_law_rounds.nd rfl (by first | exact Or.inl rfl | exact Or.inr rfl))) (fun _ _ _ _ _ => pts_nil) (fun _ _ _ _ _ => (pe_call (ok_law_dice T) (hr.mono (by decide)) rfl T.g_law_dice T.F_law_dice.kp (bi_law_dice T) .nil passL (pa_cons (pv 3) pa_nil)))))))), ?_⟩)
  · obtain ⟨a, ns, rfl, _⟩ := h
    rfl
  · obtain ⟨a, ns, rfl, hS, hQ⟩ := h
    walk_at "s"
    refine ⟨_, _, rfl, hS, fun p1 H1 hp1 hv1 e1 => ?_⟩
    rw [cut1, ← List.map_take] at hv1
    walk_at "s"
    refine ⟨sz, fun l0 H2 hl0 hv0 e2 => ?_⟩
    have comp : ∀ (q : Addr) (H3 : Hp) (c : Int) (u : Option V), H3 q = some (.lst [.int c]) → Ext (TT K) No H H3 →
        tRet (tLc (iList K (tVar 2)) (gName 3) tYes (tCall (spDice K) [] E0 (tCons (tVar 3) tNil)) [3]) { nx := fun _ H' => Q V.non H', rt := Q } [some (.ref a), some (.int 1), some (.ref q), u] H3 := by
      intro q H3 c u hq e3
      walk_at "s"
      refine ⟨⟨_, SqL.of hq⟩, fun D hD => ?_⟩
      refine lc_list (xs := [.int c]) (InvRd K D H3) ⟨upd_same, (Ext.new hD).no⟩ (fun i H4 hi h => ?_) (fun i x H4 hx h => ?_) (fun H4 h => ?_)
      · have hqD : ¬ q = D := fun z => by rw [z, hD] at hq; cases hq
        match i, h with
        | 0, h => exact SqL.of (h.2.lst _ _ hq hqD)
        | i + 1, ⟨_, _, _, _, h⟩ => exact SqL.of (h.lst _ _ hq hqD)
      · match i, h, hx with
        | 0, h, hx =>
          cases hx
          obtain ⟨h1, h2⟩ := h
          walk_at "s"
          refine fun p5 H5 hp5 hd5 e5 => ?_
          have hD5 := e5.lst _ _ h1 id
          have hpD : p5 ≠ D := fun z => by rw [z, h1] at hp5; cases hp5
          have e6 : Ext (TT K) (· = D) H5 (upd H5 D (.lst [.ref p5])) := Ext.set hD5 rfl
          exact ⟨_, hD5, szl (by simp), p5, upd_same, hd5.ext e6 hpD, hpD, (h2.trans e5.no).trans e6⟩
        | i + 1, h, hx => simp at hx
      · obtain ⟨q5, h1, h2, h3, h4⟩ := h
        exact hQ D q5 H4 h1 h2 h3 (e3.trans (h4.mono1 (NoM.of hD)))
    match ns, hS, hv1 with
    | [], hS, hv1 =>
      refine ⟨.list [], .list [], .lst (SqL.of (e2.lst _ _ hv1 id)) .nil, .lst (SqL.of hv0) .nil, rfl, rfl, ?_⟩
      walk_at "s"
      refine ⟨sz, fun p3 H3 hp3 hv3 e3 => ?_⟩
      exact comp p3 H3 0 _ hv3 ((e1.trans e2).trans e3)
    | c :: ns, hS, hv1 =>
      refine ⟨.list [.int c], .list [], .lst (SqL.of (e2.lst _ _ hv1 id)) (.cons (.int _) .nil), .lst (SqL.of hv0) .nil, rfl, rfl, ?_⟩
      refine ⟨_, rfl, ?_⟩
      exact comp p1 H2 c _ (e2.lst _ _ hv1 id) (e1.trans e2)

end K03

set_option Elab.async false
set_option linter.all false
set_option maxRecDepth 100000
set_option maxHeartbeats 2000000
namespace K03
open PySem PySem.Spec PyProof.Rows L2 MB
local macro_rules | `(tactic| walk_at "s") => `(tactic| repeat (first | refine ⟨_, rfl, ?_⟩ | refine ⟨_, _, rfl, rfl, ?_⟩ | refine ⟨_, _, rfl, ?_⟩ | refine ⟨rfl, ?_⟩))
variable {P : Program} {w : World} {K : PySem.W.Frag} {mg : Str → Option Value} {base : Heap}
/-! ### Moons -/
def MoonsAt (C : Addr) (H : Hp) (a : Addr) (L p f : Nat) : Prop := ∃ dx, H a = some (.ins C dx [("length", .int (L : Nat)), ("parts", .int (p : Nat)), ("first", .int (f : Nat))])
theorem MoonsAt.ext {T : Tb} {M : Addr → Prop} {C : Addr} {H H' : Hp} {a : Addr} {L p f : Nat} (h : MoonsAt C H a L p f) (e : Ext T M H H') : MoonsAt C H' a L p f := by
  obtain ⟨dx, h⟩ := h
  exact ⟨dx, e.fix _ _ h rfl⟩
structure MOk (L p f : Nat) : Prop where
  p0 : 1 ≤ p
  p1 : p < 2 ^ 20
  lo : 2 * p ≤ L
  hi : L ≤ 100 * p
  f1 : f < p
def MV (L p f : Int) : Prop := 1 ≤ p ∧ 2 * p ≤ L ∧ L ≤ 100 * p ∧ 0 ≤ f ∧ f < p
def spMInit (K : PySem.W.Frag) : Sp := fun vs H Q E => ∃ (x dx : Addr) (L p f : Int) (H0 : Hp), vs = [.ref x, .int L, .int p, .int f] ∧ H0 x = none ∧ H0 dx = none ∧ dx ≠ x ∧ H = upd (upd H0 dx (.own x)) x (.ins (MC K) dx []) ∧
  (MV L p f → ∀ H', MoonsAt (MC K) H' x L.toNat p.toNat f.toNat → Ext (TT K) No H0 H' → Q .non H') ∧ (¬ MV L p f → ∀ H', Ext (TT K) No H0 H' → E (CE K) none H')
theorem ok_Moons_init (T : Tx K mg base) : FnOk P w K mg base (L2.CX P w) 1 (He.fAd K ("Moons", some "__init__")) T.fd_Moons_init ["self", "length", "parts", "first"] (spMInit K) := by
  refine T.F_Moons_init.ok sc_Moons_init (fun vs H Q E h => ?_) (fun cdv A outer s H vs Q E hr h => ⟨_, (pss_cons (ps_if (PW.pt (pw_or (pt_cmpR op_lt (pv 2) pe_int (nomark _)) (pw_or (pt_not (pt_chain op_le op_le (pe_op op_mul pe_int (pv 2)) (pv 1) (pe_op op_mul pe_int (pv 2)))) (pw_or1 (pt_not (pt_chain op_le op_lt pe_int (pv 3) (pv 2))))))) (pss_one (ps_raise rfl (takes_of rfl rfl rfl rfl) (pmk_own PySem.F.excBase_ValueError T.x_CycleError.1 T.g_CycleError T.x_CycleError.2.1 (raises_own T.x_CycleError.2.2.1 T.x_CycleError.2.2.2) rfl))) pss_nil)
 (pss_cons (ps_fld (pv 0) (pv 1) rfl)
 (pss_cons (ps_fld (pv 0) (pv 2) rfl)
 (pss_one (ps_fld (pv 0) (pv 3) rfl))))), ?_⟩)
  · obtain ⟨x, dx, L, p, f, H0, rfl, _⟩ := h
    rfl
  · obtain ⟨x, dx, L, p, f, H0, rfl, hx, hdx, hne, rfl, hQ, hE⟩ := h
    obtain ⟨Hs, hHs⟩ : ∃ Hs, Hs = upd (upd H0 dx (.own x)) x (.ins (MC K) dx []) := ⟨_, rfl⟩
    rw [← hHs]
    have exs : Ext (TT K) No H0 Hs := by
      rw [hHs]
      exact (Ext.new hdx).trans (Ext.new (by rw [upd_ne (Ne.symm hne)]; exact hx))
    have hxs : Hs x = some (.ins (MC K) dx []) := by rw [hHs]; exact upd_same
    clear hHs
    have bad : ¬ MV L p f → E (CE K) none Hs := fun z => hE z Hs exs
    walk_at "s"
    refine ifB (fun q1 => ?_) (fun q1 => ?_)
    · have q1 : p < 1 := by simpa using q1
      exact bad fun z => by have := z.1; omega
    have q1 : ¬ p < 1 := by simpa using q1
    walk_at "s"
    refine ⟨.inl ⟨by decide, by decide⟩, ?_⟩
    walk_at "s"
    refine ifBr (fun q2 => ?_) (fun q2 => ?_)
    · have q2 : ¬ 2 * p ≤ L := by simpa using q2
      walk_at "s"
      exact bad fun z => q2 z.2.1
    have q2 : 2 * p ≤ L := by simpa using q2
    walk_at "s"
    refine ⟨.inl ⟨by decide, by decide⟩, ?_⟩
    walk_at "s"
    refine ifB (fun q3 => ?_) (fun q3 => ?_)
    · have q3 : ¬ L ≤ 100 * p := by simpa using q3
      exact bad fun z => q3 z.2.2.1
    have q3 : L ≤ 100 * p := by simpa using q3
    walk_at "s"
    refine ifBr (fun q4 => ?_) (fun q4 => ?_)
    · have q4 : ¬ 0 ≤ f := by simpa using q4
      walk_at "s"
      exact bad fun z => q4 z.2.2.2.1
    have q4 : 0 ≤ f := by simpa using q4
    walk_at "s"
    refine ifB (fun q5 => ?_) (fun q5 => ?_)
    · have q5 : ¬ f < p := by simpa using q5
      exact bad fun z => q5 z.2.2.2.2
    have q5 : f < p := by simpa using q5
    walk_at "s"
    refine ⟨_, _, _, _, rfl, hxs, T.c_Moons, T.na_Moons_length, by simp, ?_⟩
    have e1 : Ext (TT K) No H0 (upd Hs x (.ins (MC K) dx (putF "length" (.int L) []))) := Ext.fld exs hx hxs
    walk_at "s"
    refine ⟨_, _, _, _, rfl, upd_same, T.c_Moons, T.na_Moons_parts, (by decide : (1 : Nat) < 1000), ?_⟩
    have e2 := Ext.fld (fs' := putF "parts" (.int p) (putF "length" (.int L) [])) e1 hx upd_same
    walk_at "s"
    refine ⟨_, _, _, _, rfl, upd_same, T.c_Moons, T.na_Moons_first, (by decide : (2 : Nat) < 1000), ?_⟩
    have e3 := Ext.fld (fs' := putF "first" (.int f) (putF "parts" (.int p) (putF "length" (.int L) []))) e2 hx upd_same
    refine hQ ⟨by omega, q2, q3, q4, q5⟩ _ ⟨dx, ?_⟩ e3
    rw [upd_same]
    have a1 : ((L.toNat : Nat) : Int) = L := by omega
    have a2 : ((p.toNat : Nat) : Int) = p := by omega
    have a3 : ((f.toNat : Nat) : Int) = f := by omega
    rw [a1, a2, a3]
    rfl
/-! ### new_moon -/
def spNew (K : PySem.W.Frag) : Sp := fun vs H Q E => ∃ (a : Addr) (L p f : Nat) (n : Int), vs = [.ref a, .int n] ∧ MoonsAt (MC K) H a L p f ∧ MOk L p f ∧
  (0 ≤ n → n ≤ 200000 → ∀ t H', H' t = some (.tup [.int (((f + n.toNat * L) / p : Nat) : Int), .int (((f + n.toNat * L) % p : Nat) : Int)]) → Ext (TT K) No H H' → Q (.ref t) H') ∧ (¬ (0 ≤ n ∧ n ≤ 200000) → E (CE K) none H)
theorem ok_Moons_new_moon (T : Tx K mg base) : FnOk P w K mg base (L2.CX P w) 1 (He.fAd K ("Moons", some "new_moon")) T.fd_Moons_new_moon ["self", "number"] (spNew K) := by
  refine T.F_Moons_new_moon.ok sc_Moons_new_moon (fun vs H Q E h => ?_) (fun cdv A outer s H vs Q E hr h => ⟨_, (pss_cons (ps_if (pt_not (pt_chain op_le op_le pe_int (pv 1) (pe_glob (v := .int 200000) rfl T.i_MOST_MOONS.choose_spec ⟨_, rfl⟩))) (pss_one (ps_raise rfl (takes_of rfl rfl rfl rfl) (pmk_own PySem.F.excBase_ValueError T.x_CycleError.1 T.g_CycleError T.x_CycleError.2.1 (raises_own T.x_CycleError.2.2.1 T.x_CycleError.2.2.2) rfl))) pss_nil)
 (pss_cons (ps_set (i := 2) sc_Moons_new_moon.nd rfl (Or.inl rfl) (pe_op op_add (pe_fldK (K := K) rfl (pv 0) rfl) (pe_op op_mul (pv 1) (pe_fldK (K := K) rfl (pv 0) rfl))))
 (pss_one (ps_ret (pe_tupN (T := TT K) (pa_cons (pe_op op_fdiv (pv 2) (pe_fldK (K := K) rfl (pv 0) rfl)) (pa_cons (pe_op op_mod (pv 2) (pe_fldK (K := K) rfl (pv 0) rfl)) pa_nil))))))), ?_⟩)
  · obtain ⟨a, L, p, f, n, rfl, _⟩ := h
    rfl
  · obtain ⟨a, L, p, f, n, rfl, ⟨dx, h1⟩, ok, hQ, hE⟩ := h
    have p0 := ok.p0
    have p1 := ok.p1
    walk_at "s"
    refine ifBr (fun q1 => ?_) (fun q1 => ?_)
    · have q1 : ¬ 0 ≤ n := by simpa using q1
      walk_at "s"
      exact hE fun z => q1 z.1
    have q1 : 0 ≤ n := by simpa using q1
    walk_at "s"
    refine ifB (fun q2 => ?_) (fun q2 => ?_)
    · have q2 : ¬ n ≤ 200000 := by simpa using q2
      exact hE fun z => q2 z.2
    have q2 : n ≤ 200000 := by simpa using q2
    obtain ⟨n, rfl⟩ := Int.eq_ofNat_of_zero_le q1
    have hQ := hQ q1 q2
    rw [Int.toNat_natCast] at hQ
    have hW : (f : Int) + (n : Int) * (L : Int) = ((f + n * L : Nat) : Int) := by rw [Int.natCast_add, Int.natCast_mul]
    walk_at "s"
    refine ⟨_, _, _, _, _, rfl, h1, T.c_Moons, T.na_Moons_first, rfl, ?_⟩
    walk_at "s"
    refine ⟨_, _, _, _, _, rfl, h1, T.c_Moons, T.na_Moons_length, rfl, ?_⟩
    walk_at "s"
    refine ⟨.inl ⟨by omega, by omega⟩, ?_⟩
    walk_at "s"
    refine ⟨_, _, _, _, _, rfl, h1, T.c_Moons, T.na_Moons_parts, rfl, ?_⟩
    walk_at "s"
    refine ⟨⟨by omega, by omega⟩, ?_⟩
    walk_at "s"
    refine ⟨_, _, _, _, _, rfl, h1, T.c_Moons, T.na_Moons_parts, rfl, ?_⟩
    walk_at "s"
    refine ⟨by omega, ?_⟩
    walk_at "s"
    refine ⟨sz, fun t H2 ht hv e => ?_⟩
    refine hQ t H2 ?_ e
    rw [hv, Int.natCast_ediv, Int.natCast_emod, ← hW]
end K03

set_option Elab.async false
set_option linter.all false
set_option maxRecDepth 100000
set_option maxHeartbeats 2000000
namespace K03
open PySem PySem.Spec PyProof.Rows L2 MB
local macro_rules | `(tactic| walk_at "s") => `(tactic| repeat (first | refine ⟨_, rfl, ?_⟩ | refine ⟨_, _, rfl, rfl, ?_⟩ | refine ⟨_, _, rfl, ?_⟩ | refine ⟨rfl, ?_⟩))
variable {P : Program} {w : World} {K : PySem.W.Frag} {mg : Str → Option Value} {base : Heap}
def nm (L p f n : Nat) : Nat := (f + n * L) / p
def mo (L p f d : Nat) : Nat := (d * p + p - 1 - f) / L
theorem mo_le {L p f d : Nat} (ok : MOk L p f) (h : d ≤ nm L p f 200000) : mo L p f d ≤ 200000 := by
  have p0 := ok.p0
  have lo := ok.lo
  have f1 := ok.f1
  unfold nm at h
  unfold mo
  have h1 := (Nat.le_div_iff_mul_le p0).mp h
  have h2 : (d * p + p - 1 - f) < 200001 * L := by omega
  have := (Nat.div_lt_iff_lt_mul (show 0 < L by omega)).mpr h2
  omega
/-! ### moon_of -/
def spMoonOf (K : PySem.W.Frag) : Sp := fun vs H Q E => ∃ (a : Addr) (L p f : Nat) (d : Int), vs = [.ref a, .int d] ∧ MoonsAt (MC K) H a L p f ∧ MOk L p f ∧
  (0 ≤ d → d ≤ (nm L p f 200000 : Nat) → ∀ t H', H' t = some (.tup [.int (mo L p f d.toNat : Nat), .int (d - (nm L p f (mo L p f d.toNat) : Nat))]) → Ext (TT K) No H H' → Q (.ref t) H') ∧
  (¬ (0 ≤ d ∧ d ≤ (nm L p f 200000 : Nat)) → ∀ H', Ext (TT K) No H H' → E (CE K) none H')
theorem ok_Moons_moon_of (T : Tx K mg base) : FnOk P w K mg base (L2.CX P w) 2 (He.fAd K ("Moons", some "moon_of")) T.fd_Moons_moon_of ["self", "day"] (spMoonOf K) := by
  refine T.F_Moons_moon_of.ok sc_Moons_moon_of (fun vs H Q E h => ?_) (fun cdv A outer s H vs Q E hr h => ⟨_, (pss_cons (ps_if (pt_not (pt_chain op_le op_le pe_int (pv 1) (pe_ix (ix_tupK (K := K) rfl) (pe_meth (pv 0) T.c_Moons T.m_Moons_new_moon (ok_Moons_new_moon T) (hr.mono (by decide)) (bi_Moons_new_moon T) .nil (passes_call (takes_of rfl rfl rfl rfl) fun _ _ _ _ h => h) (pa_cons (pe_glob (v := .int 200000) rfl T.i_MOST_MOONS.choose_spec ⟨_, rfl⟩) pa_nil)) pe_int (fun _ _ => rfl)))) (pss_one (ps_raise rfl (takes_of rfl rfl rfl rfl) (pmk_own PySem.F.excBase_ValueError T.x_CycleError.1 T.g_CycleError T.x_CycleError.2.1 (raises_own T.x_CycleError.2.2.1 T.x_CycleError.2.2.2) rfl))) pss_nil)
 (pss_cons (ps_set (i := 2) sc_Moons_moon_of.nd rfl (Or.inl rfl) (pe_op op_fdiv (pe_op op_sub (pe_op op_sub (pe_op op_add (pe_op op_mul (pv 1) (pe_fldK (K := K) rfl (pv 0) rfl)) (pe_fldK (K := K) rfl (pv 0) rfl)) pe_int) (pe_fldK (K := K) rfl (pv 0) rfl)) (pe_fldK (K := K) rfl (pv 0) rfl)))
 (pss_one (ps_ret (pe_tupN (T := TT K) (pa_cons (pv 2) (pa_cons (pe_op op_sub (pv 1) (pe_ix (ix_tupK (K := K) rfl) (pe_meth (pv 0) T.c_Moons T.m_Moons_new_moon (ok_Moons_new_moon T) (hr.mono (by decide)) (bi_Moons_new_moon T) .nil (passes_call (takes_of rfl rfl rfl rfl) fun _ _ _ _ h => h) (pa_cons (pv 2) pa_nil)) pe_int (fun _ _ => rfl))) pa_nil))))))), ?_⟩)
  · obtain ⟨a, L, p, f, d, rfl, _⟩ := h
    rfl
  · obtain ⟨a, L, p, f, d, rfl, hM, ok, hQ, hE⟩ := h
    obtain ⟨dx, h1⟩ := hM
    have hM : MoonsAt (MC K) H a L p f := ⟨dx, h1⟩
    have p0 := ok.p0
    have p1 := ok.p1
    have lo := ok.lo
    have hi := ok.hi
    have f1 := ok.f1
    walk_at "s"
    refine ifBr (fun q1 => ?_) (fun q1 => ?_)
    · have q1 : ¬ 0 ≤ d := by simpa using q1
      walk_at "s"
      exact hE (fun z => q1 z.1) H .refl
    have q1 : 0 ≤ d := by simpa using q1
    walk_at "s"
    refine ⟨_, _, _, rfl, h1, rfl, ?_⟩
    walk_at "s"
    refine ⟨a, L, p, f, 200000, rfl, hM, ok, fun _ _ t H1 hv e1 => ?_, fun z => absurd ⟨by decide, by decide⟩ z⟩
    walk_at "s"
    refine ⟨_, _, _, _, rfl, rfl, SqT.of hv, rfl, ?_⟩
    walk_at "s"
    refine ifB (fun q2 => ?_) (fun q2 => ?_)
    · have q2 : (!decide (d ≤ ((nm L p f 200000 : Nat) : Int))) = true := q2
      have q2 : ¬ d ≤ ((nm L p f 200000 : Nat) : Int) := by simpa using q2
      exact hE (fun z => q2 z.2) H1 e1
    have q2 : (!decide (d ≤ ((nm L p f 200000 : Nat) : Int))) = false := q2
    have q2 : d ≤ ((nm L p f 200000 : Nat) : Int) := by simpa using q2
    have hQ := hQ q1 q2
    obtain ⟨d, rfl⟩ := Int.eq_ofNat_of_zero_le q1
    rw [Int.toNat_natCast] at hQ
    have hk := mo_le ok (show d ≤ nm L p f 200000 by omega)
    have hN : ((d : Int) * (p : Int) + (p : Int) - 1 - (f : Int)) / (L : Int) = ((mo L p f d : Nat) : Int) := by
      unfold mo
      rw [Int.natCast_ediv]
      congr 1
      have : (d : Int) * (p : Int) = ((d * p : Nat) : Int) := (Int.natCast_mul _ _).symm
      omega
    have h2 := e1.fix _ _ h1 rfl
    walk_at "s"
    refine ⟨_, _, _, _, _, rfl, h2, T.c_Moons, T.na_Moons_parts, rfl, ?_⟩
    walk_at "s"
    refine ⟨.inr ⟨by omega, by omega⟩, ?_⟩
    walk_at "s"
    refine ⟨_, _, _, _, _, rfl, h2, T.c_Moons, T.na_Moons_parts, rfl, ?_⟩
    walk_at "s"
    refine ⟨_, _, _, _, _, rfl, h2, T.c_Moons, T.na_Moons_first, rfl, ?_⟩
    walk_at "s"
    refine ⟨_, _, _, _, _, rfl, h2, T.c_Moons, T.na_Moons_length, rfl, ?_⟩
    walk_at "s"
    refine ⟨⟨by omega, by omega⟩, ?_⟩
    walk_at "s"
    refine ⟨_, _, _, rfl, h2, rfl, ?_⟩
    walk_at "s"
    refine ⟨a, L, p, f, ((mo L p f d : Nat) : Int), by rw [← hN]; rfl, hM.ext e1, ok, fun _ _ t2 H2 hv2 e2 => ?_, fun z => absurd ⟨by omega, by omega⟩ z⟩
    rw [Int.toNat_natCast] at hv2
    walk_at "s"
    refine ⟨_, _, _, _, rfl, rfl, SqT.of hv2, rfl, ?_⟩
    walk_at "s"
    refine ⟨sz, fun t3 H3 ht3 hv3 e3 => ?_⟩
    refine hQ t3 H3 ?_ ((e1.trans e2).trans e3)
    rw [hv3]
    show some (HO.tup [.int (((d : Int) * (p : Int) + (p : Int) - 1 - (f : Int)) / (L : Int)), .int ((d : Int) - (((f + mo L p f d * L) / p : Nat) : Int))]) = _
    rw [hN]
    rfl
/-! ### days_in -/
def spDaysIn (K : PySem.W.Frag) : Sp := fun vs H Q E => ∃ (a : Addr) (L p f : Nat) (n : Int), vs = [.ref a, .int n] ∧ MoonsAt (MC K) H a L p f ∧ MOk L p f ∧
  (0 ≤ n → n < 200000 → ∀ H', Ext (TT K) No H H' → Q (.int ((nm L p f (n.toNat + 1) : Nat) - (nm L p f n.toNat : Nat) : Int)) H') ∧ (¬ (0 ≤ n ∧ n < 200000) → ∀ H', Ext (TT K) No H H' → E (CE K) none H')
theorem ok_Moons_days_in (T : Tx K mg base) : FnOk P w K mg base (L2.CX P w) 2 (He.fAd K ("Moons", some "days_in")) T.fd_Moons_days_in ["self", "number"] (spDaysIn K) := by
  refine T.F_Moons_days_in.ok sc_Moons_days_in (fun vs H Q E h => ?_) (fun cdv A outer s H vs Q E hr h => ⟨_, (pss_one (ps_ret (pe_op op_sub (pe_ix (ix_tupK (K := K) rfl) (pe_meth (pv 0) T.c_Moons T.m_Moons_new_moon (ok_Moons_new_moon T) (hr.mono (by decide)) (bi_Moons_new_moon T) .nil (passes_call (takes_of rfl rfl rfl rfl) fun _ _ _ _ h => h) (pa_cons (pe_op op_add (pv 1) pe_int) pa_nil)) pe_int (fun _ _ => rfl)) (pe_ix (ix_tupK (K := K) rfl) (pe_meth (pv 0) T.c_Moons T.m_Moons_new_moon (ok_Moons_new_moon T) (hr.mono (by decide)) (bi_Moons_new_moon T) .nil (passes_call (takes_of rfl rfl rfl rfl) fun _ _ _ _ h => h) (pa_cons (pv 1) pa_nil)) pe_int (fun _ _ => rfl))))), ?_⟩)
  · obtain ⟨a, L, p, f, d, rfl, _⟩ := h
    rfl
  · obtain ⟨a, L, p, f, n, rfl, hM, ok, hQ, hE⟩ := h
    obtain ⟨dx, h1⟩ := hM
    have hM : MoonsAt (MC K) H a L p f := ⟨dx, h1⟩
    walk_at "s"
    refine ⟨_, _, _, rfl, h1, rfl, ?_⟩
    walk_at "s"
    refine ⟨a, L, p, f, n + 1, rfl, hM, ok, fun g1 g2 t H1 hv e1 => ?_, fun z => hE (fun z2 => z ⟨by omega, by omega⟩) H .refl⟩
    walk_at "s"
    refine ⟨_, _, _, _, rfl, rfl, SqT.of hv, rfl, ?_⟩
    walk_at "s"
    refine ⟨_, _, _, rfl, e1.fix _ _ h1 rfl, rfl, ?_⟩
    walk_at "s"
    refine ⟨a, L, p, f, n, rfl, hM.ext e1, ok, fun g3 g4 t2 H2 hv2 e2 => ?_, fun z => hE (fun z2 => z ⟨by omega, by omega⟩) H1 e1⟩
    walk_at "s"
    refine ⟨_, _, _, _, rfl, rfl, SqT.of hv2, rfl, ?_⟩
    have h := hQ g3 (by omega) H2 (e1.trans e2)
    have e : (n + 1).toNat = n.toNat + 1 := by omega
    walk_at "s"
    show Q (.int ((((f + (n + 1).toNat * L) / p : Nat) : Int) - (((f + n.toNat * L) / p : Nat) : Int))) H2
    rw [e]
    exact h
/-! ### full_moon -/
def fm (L p f n : Nat) : Nat := f + n * L + L / 2
def spFull (K : PySem.W.Frag) : Sp := fun vs H Q E => ∃ (a : Addr) (L p f : Nat) (n : Int), vs = [.ref a, .int n] ∧ MoonsAt (MC K) H a L p f ∧ MOk L p f ∧
  (0 ≤ n → n ≤ 200000 → ∀ t H', H' t = some (.tup [.int (fm L p f n.toNat / p : Nat), .int (fm L p f n.toNat % p : Nat)]) → Ext (TT K) No H H' → Q (.ref t) H') ∧ (¬ (0 ≤ n ∧ n ≤ 200000) → E (CE K) none H)
theorem ok_Moons_full_moon (T : Tx K mg base) : FnOk P w K mg base (L2.CX P w) 2 (He.fAd K ("Moons", some "full_moon")) T.fd_Moons_full_moon ["self", "number"] (spFull K) := by
  refine T.F_Moons_full_moon.ok sc_Moons_full_moon (fun vs H Q E h => ?_) (fun cdv A outer s H vs Q E hr h => ⟨_, (pss_cons (ps_asg (pe_meth (pv 0) T.c_Moons T.m_Moons_new_moon (ok_Moons_new_moon T) (hr.mono (by decide)) (bi_Moons_new_moon T) .nil (passes_call (takes_of rfl rfl rfl rfl) fun _ _ _ _ h => h) (pa_cons (pv 1) pa_nil)) (pg_tupK (K := K) (n := 2) rfl rfl (pgs_cons (pg_name (i := 2) sc_Moons_full_moon.nd rfl (Or.inl rfl)) (pgs_cons (pg_name (i := 3) sc_Moons_full_moon.nd rfl (Or.inl rfl)) pgs_nil))))
 (pss_cons (ps_set (i := 4) sc_Moons_full_moon.nd rfl (Or.inl rfl) (pe_op op_add (pe_op op_add (pe_op op_mul (pv 2) (pe_fldK (K := K) rfl (pv 0) rfl)) (pv 3)) (pe_op op_fdiv (pe_fldK (K := K) rfl (pv 0) rfl) pe_int)))
 (pss_one (ps_ret (pe_tupN (T := TT K) (pa_cons (pe_op op_fdiv (pv 4) (pe_fldK (K := K) rfl (pv 0) rfl)) (pa_cons (pe_op op_mod (pv 4) (pe_fldK (K := K) rfl (pv 0) rfl)) pa_nil))))))), ?_⟩)
  · obtain ⟨a, L, p, f, d, rfl, _⟩ := h
    rfl
  · obtain ⟨a, L, p, f, n, rfl, hM, ok, hQ, hE⟩ := h
    obtain ⟨dx, h1⟩ := hM
    have hM : MoonsAt (MC K) H a L p f := ⟨dx, h1⟩
    have p0 := ok.p0
    have p1 := ok.p1
    have hi := ok.hi
    walk_at "s"
    refine ⟨_, _, _, rfl, h1, rfl, ?_⟩
    walk_at "s"
    refine ⟨a, L, p, f, n, rfl, hM, ok, fun g1 g2 t H1 hv e1 => ?_, fun z => hE z⟩
    obtain ⟨n, rfl⟩ := Int.eq_ofNat_of_zero_le g1
    rw [Int.toNat_natCast] at hv
    have hQ := hQ g1 g2
    rw [Int.toNat_natCast] at hQ
    have h2 := e1.fix _ _ h1 rfl
    have hW : (((f + n * L) / p : Nat) : Int) * (p : Int) + (((f + n * L) % p : Nat) : Int) + (L : Int) / 2 = ((fm L p f n : Nat) : Int) := by
      have h := Nat.div_add_mod (f + n * L) p
      have h3 : (((f + n * L) / p : Nat) : Int) * (p : Int) = ((p * ((f + n * L) / p) : Nat) : Int) := by rw [Int.natCast_mul, Int.mul_comm]
      unfold fm
      omega
    refine ⟨_, _, rfl, SqT.of hv, rfl, ?_⟩
    walk_at "s"
    refine ⟨_, _, _, _, _, rfl, h2, T.c_Moons, T.na_Moons_parts, rfl, ?_⟩
    walk_at "s"
    refine ⟨.inr ⟨by omega, by omega⟩, ?_⟩
    walk_at "s"
    refine ⟨_, _, _, _, _, rfl, h2, T.c_Moons, T.na_Moons_length, rfl, ?_⟩
    walk_at "s"
    refine ⟨⟨by decide, by decide⟩, ?_⟩
    walk_at "s"
    refine ⟨_, _, _, _, _, rfl, h2, T.c_Moons, T.na_Moons_parts, rfl, ?_⟩
    walk_at "s"
    refine ⟨⟨by omega, by omega⟩, ?_⟩
    walk_at "s"
    refine ⟨_, _, _, _, _, rfl, h2, T.c_Moons, T.na_Moons_parts, rfl, ?_⟩
    walk_at "s"
    refine ⟨by omega, ?_⟩
    walk_at "s"
    refine ⟨sz, fun t2 H2 ht2 hv2 e2 => ?_⟩
    refine hQ t2 H2 ?_ (e1.trans e2)
    rw [hv2, Int.natCast_ediv (fm L p f n), Int.natCast_emod (fm L p f n), ← hW]
end K03

set_option Elab.async false
set_option linter.all false
set_option maxRecDepth 100000
set_option maxHeartbeats 2000000
namespace K03
open PySem PySem.Spec PyProof.Rows L2 MB
local macro_rules | `(tactic| walk_at "s") => `(tactic| repeat (first | refine ⟨_, rfl, ?_⟩ | refine ⟨_, _, rfl, rfl, ?_⟩ | refine ⟨_, _, rfl, ?_⟩ | refine ⟨rfl, ?_⟩))
variable {P : Program} {w : World} {K : PySem.W.Frag} {mg : Str → Option Value} {base : Heap}
/-! ### moons_in -/
def msLo (L p f d : Nat) : Nat := if nm L p f (mo L p f d) = d then mo L p f d else mo L p f d + 1
def spMoonsIn (K : PySem.W.Frag) : Sp := fun vs H Q E => ∃ (a : Addr) (L p f : Nat) (d1 d2 : Int), vs = [.ref a, .int d1, .int d2] ∧ MoonsAt (MC K) H a L p f ∧ MOk L p f ∧
  (0 ≤ d1 → d1 ≤ (nm L p f 200000 : Nat) → 0 ≤ d2 → d2 ≤ (nm L p f 200000 : Nat) → ∀ t H', H' t = some (.tup (rgV (msLo L p f d1.toNat : Nat) ((mo L p f d2.toNat : Nat) + 1))) → Ext (TT K) No H H' → Q (.ref t) H') ∧
  (¬ (0 ≤ d1 ∧ d1 ≤ (nm L p f 200000 : Nat) ∧ 0 ≤ d2 ∧ d2 ≤ (nm L p f 200000 : Nat)) → ∀ H', Ext (TT K) No H H' → E (CE K) none H')
theorem ok_Moons_moons_in (T : Tx K mg base) : FnOk P w K mg base (L2.CX P w) 3 (He.fAd K ("Moons", some "moons_in")) T.fd_Moons_moons_in ["self", "first", "last"] (spMoonsIn K) := by
  refine T.F_Moons_moons_in.ok sc_Moons_moons_in (fun vs H Q E h => ?_) (fun cdv A outer s H vs Q E hr h => ⟨_, (pss_cons (ps_par (i := 3) (j := 4) rfl sc_Moons_moons_in.nd rfl rfl (by decide) rfl rfl (pa_cons (pe_meth (pv 0) T.c_Moons T.m_Moons_moon_of (ok_Moons_moon_of T) (hr.mono (by decide)) (bi_Moons_moon_of T) .nil (passes_call (takes_of rfl rfl rfl rfl) fun _ _ _ _ h => h) (pa_cons (pv 1) pa_nil)) (pa_cons (pe_meth (pv 0) T.c_Moons T.m_Moons_moon_of (ok_Moons_moon_of T) (hr.mono (by decide)) (bi_Moons_moon_of T) .nil (passes_call (takes_of rfl rfl rfl rfl) fun _ _ _ _ h => h) (pa_cons (pv 2) pa_nil)) pa_nil)) rfl)
 (pss_cons (ps_set (i := 5) sc_Moons_moons_in.nd rfl (Or.inl rfl) (pe_ifExp (pt_cmpR op_eq (pe_ix (ix_tupK (K := K) rfl) (pv 3) pe_int (fun _ _ => rfl)) pe_int (nomark _)) (pe_ix (ix_tupK (K := K) rfl) (pv 3) pe_int (fun _ _ => rfl)) (pe_op op_add (pe_ix (ix_tupK (K := K) rfl) (pv 3) pe_int (fun _ _ => rfl)) pe_int)))
 (pss_one (ps_ret (pe_tupRg rfl rfl T.b_tuple (prg_2 rfl T.b_range (pv 5) (pe_op op_add (pe_ix (ix_tupK (K := K) rfl) (pv 4) pe_int (fun _ _ => rfl)) pe_int))))))), ?_⟩)
  · obtain ⟨a, L, p, f, d1, d2, rfl, _⟩ := h
    rfl
  · obtain ⟨a, L, p, f, d1, d2, rfl, hM, ok, hQ, hE⟩ := h
    obtain ⟨dx, h1⟩ := hM
    have hM : MoonsAt (MC K) H a L p f := ⟨dx, h1⟩
    walk_at "s"
    refine ⟨_, _, _, rfl, h1, rfl, ?_⟩
    walk_at "s"
    refine ⟨a, L, p, f, d1, rfl, hM, ok, fun g1 g2 t1 H1 hv1 e1 => ?_, fun z H2 e2 => hE (fun z2 => z ⟨z2.1, z2.2.1⟩) H2 e2⟩
    walk_at "s"
    refine ⟨_, _, _, rfl, e1.fix _ _ h1 rfl, rfl, ?_⟩
    walk_at "s"
    refine ⟨a, L, p, f, d2, rfl, hM.ext e1, ok, fun g3 g4 t2 H2 hv2 e2 => ?_, fun z H2 e2 => hE (fun z2 => z z2.2.2) H2 (e1.trans e2)⟩
    have hv1 := e2.fix _ _ hv1 rfl
    have hQ := hQ g1 g2 g3 g4
    obtain ⟨d1, rfl⟩ := Int.eq_ofNat_of_zero_le g1
    obtain ⟨d2, rfl⟩ := Int.eq_ofNat_of_zero_le g3
    simp only [Int.toNat_natCast] at hQ hv1 hv2
    have k1 := mo_le ok (show d1 ≤ nm L p f 200000 by omega)
    have k2 := mo_le ok (show d2 ≤ nm L p f 200000 by omega)
    walk_at "s"
    refine ⟨_, _, _, _, rfl, rfl, SqT.of hv1, rfl, ?_⟩
    walk_at "s"
    have fin : ∀ v : Nat, v = msLo L p f d1 → v ≤ 200001 → ∀ H3, Ext (TT K) No H2 H3 → (RgOk (v : Int) ((mo L p f d2 : Nat) + 1 : Int) ∧ ∀ q, H3 q = none → Q (.ref q) (upd H3 q (.tup (rgV (v : Int) ((mo L p f d2 : Nat) + 1 : Int))))) := fun v hv hv2 H3 e3 => by
      refine ⟨⟨by omega, by omega, by omega, by omega, ?_⟩, fun q hq => ?_⟩
      · omega
      · subst hv
        exact hQ q _ upd_same (((e1.trans e2).trans e3).trans (Ext.new hq))
    have hsub : ((d1 : Int) - ((nm L p f (mo L p f d1) : Nat) : Int) = 0) ↔ nm L p f (mo L p f d1) = d1 := by omega
    refine ifB (fun q1 => ?_) (fun q1 => ?_)
    · have q1 : decide (V.int ((d1 : Int) - ((nm L p f (mo L p f d1) : Nat) : Int)) = V.int 0) = true := q1
      have q1 : nm L p f (mo L p f d1) = d1 := hsub.mp (by simpa using q1)
      walk_at "s"
      refine ⟨_, _, _, _, rfl, rfl, SqT.of hv1, rfl, ?_⟩
      walk_at "s"
      refine ⟨_, _, _, _, rfl, rfl, SqT.of hv2, rfl, ?_⟩
      walk_at "s"
      exact fin (mo L p f d1) (by unfold msLo; rw [if_pos q1]) (by omega) H2 .refl
    · have q1 : decide (V.int ((d1 : Int) - ((nm L p f (mo L p f d1) : Nat) : Int)) = V.int 0) = false := q1
      have q1 : ¬ nm L p f (mo L p f d1) = d1 := fun z => by
        have q1 : ¬ ((d1 : Int) - ((nm L p f (mo L p f d1) : Nat) : Int) = 0) := by simpa using q1
        exact q1 (hsub.mpr z)
      walk_at "s"
      refine ⟨_, _, _, _, rfl, rfl, SqT.of hv1, rfl, ?_⟩
      walk_at "s"
      refine ⟨_, _, _, _, rfl, rfl, SqT.of hv2, rfl, ?_⟩
      walk_at "s"
      have h := fin (mo L p f d1 + 1) (by unfold msLo; rw [if_neg q1]) (by omega) H2 .refl
      rw [Int.natCast_add] at h
      exact h
end K03

set_option Elab.async false
set_option linter.all false
set_option maxRecDepth 100000
set_option maxHeartbeats 2000000
namespace K03
open PySem PySem.Spec PyProof.Rows L2 MB
local macro_rules | `(tactic| walk_at "s") => `(tactic| repeat (first | refine ⟨_, rfl, ?_⟩ | refine ⟨_, _, rfl, rfl, ?_⟩ | refine ⟨_, _, rfl, ?_⟩ | refine ⟨rfl, ?_⟩))
variable {P : Program} {w : World} {K : PySem.W.Frag} {mg : Str → Option Value} {base : Heap}
/-! ### cycles -/
def CycT (H : Hp) (ts : List Addr) (cs : MM.Cyc) : Prop := ts.length = cs.length ∧ ∀ (i : Nat) (t : Addr) (c : Nat × Nat), ts[i]? = some t → cs[i]? = some c → H t = some (.tup [.int ((c.1 : Nat) : Int), .int ((c.2 : Nat) : Int)])
theorem CycT.ext {T : Tb} {M : Addr → Prop} {H H' : Hp} {ts : List Addr} {cs : MM.Cyc} (h : CycT H ts cs) (e : Ext T M H H') : CycT H' ts cs := ⟨h.1, fun i t r h1 h2 => e.fix _ _ (h.2 i t r h1 h2) rfl⟩
theorem CycT.get {H : Hp} {ts : List Addr} {cs : MM.Cyc} (h : CycT H ts cs) {i : Nat} {v : V} (e : (ts.map V.ref)[i]? = some v) : ∃ t c, v = .ref t ∧ ts[i]? = some t ∧ cs[i]? = some c ∧ H t = some (.tup [.int ((c.1 : Nat) : Int), .int ((c.2 : Nat) : Int)]) := by
  rw [List.getElem?_map] at e
  cases e1 : ts[i]? with
  | none => rw [e1] at e; cases e
  | some t =>
    rw [e1] at e
    cases e
    have hi := (List.getElem?_eq_some_iff.mp e1).1
    have hj : i < cs.length := h.1 ▸ hi
    have h2 := List.getElem?_eq_getElem (l := cs) hj
    exact ⟨t, _, rfl, rfl, h2, h.2 i t _ e1 h2⟩
def SeqC (K : PySem.W.Frag) (H : Hp) (q : Addr) (cs : MM.Cyc) : Prop := ∃ ts, (SqL K H q (ts.map V.ref) ∨ SqT K H q (ts.map V.ref)) ∧ CycT H ts cs
theorem SeqC.ext {T : Tb} {K : PySem.W.Frag} {H H' : Hp} {q : Addr} {cs : MM.Cyc} (h : SeqC K H q cs) (e : Ext T No H H') : SeqC K H' q cs := by
  obtain ⟨ts, h1, h2⟩ := h
  exact ⟨ts, h1.elim (fun h => .inl (SqL.ext h e id)) (fun h => .inr (SqT.ext h e)), h2.ext e⟩
structure CV (cs : MM.Cyc) : Prop where
  pos : 0 < cs.length
  six : cs.length ≤ 6
  rng : ∀ c ∈ cs, 1 ≤ c.1 ∧ c.1 ≤ 5000
  off : ∀ c ∈ cs, c.2 < c.1
/-- what meeting returns -/
def Meets (H : Hp) (cs : MM.Cyc) (v : V) : Prop := (v = .non ∧ ∀ d, ¬ MM.sat cs d) ∨ ∃ (d : Nat) (t : Addr), v = .ref t ∧ MM.sat cs d ∧ d < MM.lcmC cs ∧ H t = some (.tup [.int (d : Nat), .int (MM.lcmC cs : Nat)])
def spMeet (K : PySem.W.Frag) : Sp := fun vs H Q E => ∃ (q : Addr) (cs : MM.Cyc), vs = [.ref q] ∧ SeqC K H q cs ∧ Gd (TT K) H ∧ cs.length ≤ 1000 ∧
  (CV cs → ∀ v H', Meets H' cs v → Ext (TT K) No H H' → Q v H') ∧ (¬ CV cs → ∀ H', Ext (TT K) No H H' → E (CE K) none H')
theorem lcmF_pos : ∀ (cs : MM.Cyc) (f : Nat), 0 < f → (∀ c ∈ cs, 1 ≤ c.1) → 0 < cs.foldl (fun f c => Nat.lcm f c.1) f
  | [], f, h, _ => h
  | c :: cs, f, h, hc => by
    rw [List.foldl_cons]
    exact lcmF_pos cs _ (Nat.lcm_pos h (hc c List.mem_cons_self)) fun x hx => hc x (List.mem_cons_of_mem _ hx)
theorem lcmC_pos {cs : MM.Cyc} (h : ∀ c ∈ cs, 1 ≤ c.1) : 0 < MM.lcmC cs := lcmF_pos cs 1 Nat.one_pos h
theorem ok_meeting (T : Tx K mg base) (tk : TOk (TT K)) : FnOk P w K mg base (L2.CX P w) 12 (He.fAd K ("meeting", none)) T.fd_meeting ["cycles"] (spMeet K) := by
  refine MB.FunD.okC (d := ("meeting", none)) T.F_meeting sc_meeting (fun vs H Q E h => ?_) (fun A outer s H vs Q E hr h => ⟨_, (pss_cons (ps_if (PW.pt (pw_or (pt_not (pt_chain op_lt op_le pe_int (pe_callB (call_lenK (K := K) rfl) rfl T.b_len (by decide +kernel) (pa_cons (pv 0) pa_nil)) pe_int)) (pw_or1 (pt_val (MG.pe_anyG (g := (gTup K 2 (gCons (gName 1) (gCons (gName 2) gNil)))) (k := 1) (hr.mono (by decide)) rfl T.b_any sc_meeting.nd T.tb_meeting rfl (MG.geOk_by (N := ["cycles", "length", "offset", "day", "whole", "tries", "one", "other"]) (sc := defScope s_meeting) (own := [("length", 1), ("offset", 2)]) (by decide +kernel)) (pi_seqK (K := K) rfl (pv 0)) (fun _ _ _ _ _ => (pg_tupK (K := K) (n := 2) rfl rfl (pgs_cons (pg_name (i := 1) sc_meeting.nd rfl (by first | exact Or.inl rfl | exact Or.inr rfl)) (pgs_cons (pg_name (i := 2) sc_meeting.nd rfl (by first | exact Or.inl rfl | exact Or.inr rfl)) pgs_nil)))) (fun _ _ _ _ _ hrg => (pe_not (pe_chain op_le op_le pe_int (pv 1) pe_int)))))))) (pss_one (ps_raise rfl (takes_of rfl rfl rfl rfl) (pmk_own PySem.F.excBase_ValueError T.x_CycleError.1 T.g_CycleError T.x_CycleError.2.1 (raises_own T.x_CycleError.2.2.1 T.x_CycleError.2.2.2) rfl))) pss_nil)
 (pss_cons (ps_if (pt_val (MG.pe_anyG (g := (gTup K 2 (gCons (gName 1) (gCons (gName 2) gNil)))) (k := 1) (hr.mono (by decide)) rfl T.b_any sc_meeting.nd T.tb_meeting rfl (MG.geOk_by (N := ["cycles", "length", "offset", "day", "whole", "tries", "one", "other"]) (sc := defScope s_meeting) (own := [("length", 1), ("offset", 2)]) (by decide +kernel)) (pi_seqK (K := K) rfl (pv 0)) (fun _ _ _ _ _ => (pg_tupK (K := K) (n := 2) rfl rfl (pgs_cons (pg_name (i := 1) sc_meeting.nd rfl (by first | exact Or.inl rfl | exact Or.inr rfl)) (pgs_cons (pg_name (i := 2) sc_meeting.nd rfl (by first | exact Or.inl rfl | exact Or.inr rfl)) pgs_nil)))) (fun _ _ _ _ _ hrg => (pe_not (pe_chain op_le op_lt pe_int (pv 2) (pv 1)))))) (pss_one (ps_raise rfl (takes_of rfl rfl rfl rfl) (pmk_own PySem.F.excBase_ValueError T.x_CycleError.1 T.g_CycleError T.x_CycleError.2.1 (raises_own T.x_CycleError.2.2.1 T.x_CycleError.2.2.2) rfl))) pss_nil)
 (pss_cons (ps_asg (pe_tupN (T := TT K) (pa_cons pe_int (pa_cons pe_int pa_nil))) (pg_tupK (K := K) (n := 2) rfl rfl (pgs_cons (pg_name (i := 3) sc_meeting.nd rfl (Or.inl rfl)) (pgs_cons (pg_name (i := 4) sc_meeting.nd rfl (Or.inl rfl)) pgs_nil))))
 (pss_cons (ps_for (passes_of rfl) rfl (pi_seqK (K := K) rfl (pv 0)) (pg_tupK (K := K) (n := 2) rfl rfl (pgs_cons (pg_name (i := 1) sc_meeting.nd rfl (Or.inl rfl)) (pgs_cons (pg_name (i := 2) sc_meeting.nd rfl (Or.inl rfl)) pgs_nil))) (pss_cons (ps_set (i := 5) sc_meeting.nd rfl (Or.inl rfl) pe_int)
 (pss_cons (ps_while (passes_of rfl) (pt_cmpR op_ne (pe_op op_mod (pv 3) (pv 1)) (pv 2) (nomark _)) (pss_cons (ps_aug (i := 3) sc_meeting.nd rfl (Or.inl rfl) (pv 4) ip_add)
 (pss_cons (ps_aug (i := 5) sc_meeting.nd rfl (Or.inl rfl) pe_int ip_add)
 (pss_one (ps_if (pt_cmpR op_gt (pv 5) (pv 1) (nomark _)) (pss_one (ps_ret pe_non)) pss_nil)))))
 (pss_cons (ps_par (i := 6) (j := 7) rfl sc_meeting.nd rfl rfl (by decide) rfl rfl (pa_cons (pv 4) (pa_cons (pv 1) pa_nil)) rfl)
 (pss_cons (ps_while (passes_of rfl) (pt_cmpR op_ne (pv 7) pe_int (nomark _)) (pss_one (ps_par (i := 6) (j := 7) rfl sc_meeting.nd rfl rfl (by decide) rfl rfl (pa_cons (pv 7) (pa_cons (pe_op op_mod (pv 6) (pv 7)) pa_nil)) rfl)))
 (pss_one (ps_set (i := 4) sc_meeting.nd rfl (Or.inl rfl) (pe_op op_mul (pe_op op_fdiv (pv 4) (pv 6)) (pv 1)))))))))
 (pss_one (ps_ret (pe_tupN (T := TT K) (pa_cons (pe_op op_mod (pv 3) (pv 4)) (pa_cons (pv 4) pa_nil))))))))), ?_⟩)
  · obtain ⟨q, cs, rfl, _⟩ := h
    rfl
  · obtain ⟨q, cs, rfl, hC, gd, hlen, hQ, hE⟩ := h
    obtain ⟨ts, hq, hT⟩ := hC
    have tmem : (He.cT K ("meeting", none)).2 ∈ (TT K).gen := List.mem_cons_self
    have tl : (ts.map V.ref).length = cs.length := by rw [List.length_map, hT.1]
    walk_at "s"
    refine ⟨_, _, rfl, hq.elim (fun h => .inl h) (fun h => .inr h), ?_⟩
    walk_at "s"
    refine ifBr (fun q1 => ?_) (fun q1 => ?_)
    · have q1 : ¬ 0 < cs.length := by
        have q1 : ¬ (0 : Int) < ((ts.map V.ref).length : Nat) := by simpa using q1
        rw [tl] at q1
        omega
      walk_at "s"
      exact hE (fun z => q1 z.pos) H .refl
    have q1 : 0 < cs.length := by
      have q1 : (0 : Int) < ((ts.map V.ref).length : Nat) := by simpa using q1
      rw [tl] at q1
      omega
    walk_at "s"
    refine ifB (fun q2 => ?_) (fun q2 => ?_)
    · have q2 : ¬ cs.length ≤ 6 := by
        have q2 : ¬ (((ts.map V.ref).length : Nat) : Int) ≤ 6 := by simpa using q2
        rw [tl] at q2
        omega
      exact hE (fun z => q2 z.six) H .refl
    have q2 : cs.length ≤ 6 := by
      have q2 : (((ts.map V.ref).length : Nat) : Int) ≤ 6 := by simpa using q2
      rw [tl] at q2
      omega
    refine anyG_seq tk tmem rfl hq (gd.1 _ tmem) (fun i => ∀ k c, k < i → cs[k]? = some c → 1 ≤ c.1 ∧ c.1 ≤ 5000) (fun k c z => absurd z (Nat.not_lt_zero _)) ?_ ?_
    · rintro i v H1 B hv e1 hk hB
      obtain ⟨t, c, rfl, ht, hc, hvt⟩ := hT.get hv
      refine ⟨_, _, rfl, SqT.of (e1.fix _ _ hvt rfl), rfl, ?_⟩
      walk_at "s"
      refine ifBr (fun q3 => ?_) (fun q3 => ?_)
      · have q3 : ¬ 1 ≤ c.1 := by
          have q3 : ¬ (1 : Int) ≤ (c.1 : Nat) := by simpa using q3
          omega
        walk_at "s"
        exact hE (fun z => q3 (z.rng c (List.mem_of_getElem? hc)).1) _ e1
      have q3 : 1 ≤ c.1 := by
        have q3 : (1 : Int) ≤ (c.1 : Nat) := by simpa using q3
        omega
      walk_at "s"
      refine ifB (fun q4 => ?_) (fun q4 => ?_)
      · have q4 : ¬ c.1 ≤ 5000 := by
          have q4 : ¬ ((c.1 : Nat) : Int) ≤ 5000 := by simpa using q4
          omega
        walk_at "s"
        exact hE (fun z => q4 (z.rng c (List.mem_of_getElem? hc)).2) _ e1
      have q4 : c.1 ≤ 5000 := by
        have q4 : ((c.1 : Nat) : Int) ≤ 5000 := by simpa using q4
        omega
      refine hB H1 e1 fun k c2 z1 z2 => ?_
      by_cases hk2 : k = i
      · subst hk2
        rw [hc] at z2
        cases z2
        exact ⟨q3, q4⟩
      · exact hk k c2 (by omega) z2
    rintro H1 e1 hrng
    have rng : ∀ c ∈ cs, 1 ≤ c.1 ∧ c.1 ≤ 5000 := fun c hc => by
      obtain ⟨k, hk1, hk2⟩ := List.mem_iff_getElem.mp hc
      exact hrng k c (by rw [tl]; exact hk1) (by rw [List.getElem?_eq_getElem hk1, hk2])
    refine ⟨_, rfl, ?_⟩
    have hq1 : SqL K H1 q (ts.map V.ref) ∨ SqT K H1 q (ts.map V.ref) := hq.elim (fun h => .inl (SqL.ext h e1 id)) (fun h => .inr (SqT.ext h e1))
    have hT1 := hT.ext e1
    refine ifB (fun z => by cases z) (fun _ => ?_)
    unfold tNext
    dsimp only
    rw [tSeq, tIfS, tB]
    refine anyG_seq tk tmem rfl hq1 ((e1.gd gd).1 _ tmem) (fun i => ∀ k c, k < i → cs[k]? = some c → c.2 < c.1) (fun k c z => absurd z (Nat.not_lt_zero _)) ?_ ?_
    · rintro i v H2 B hv e2 hk hB
      obtain ⟨t, c, rfl, ht, hc, hvt⟩ := hT1.get hv
      refine ⟨_, _, rfl, SqT.of (e2.fix _ _ hvt rfl), rfl, ?_⟩
      walk_at "s"
      refine ifB (fun q4 => ?_) (fun q4 => ?_)
      · have q4 : ¬ c.2 < c.1 := by
          have q4 : ¬ ((c.2 : Nat) : Int) < ((c.1 : Nat) : Int) := by simpa using q4
          omega
        walk_at "s"
        exact hE (fun z => q4 (z.off c (List.mem_of_getElem? hc))) _ (e1.trans e2)
      have q4 : c.2 < c.1 := by
        have q4 : ((c.2 : Nat) : Int) < ((c.1 : Nat) : Int) := by simpa using q4
        omega
      refine hB H2 e2 fun k c2 z1 z2 => ?_
      by_cases hk2 : k = i
      · subst hk2
        rw [hc] at z2
        cases z2
        exact q4
      · exact hk k c2 (by omega) z2
    rintro H2 e2 hoff
    have cv : CV cs := ⟨q1, q2, rng, fun c hc => by
      obtain ⟨k, hk1, hk2⟩ := List.mem_iff_getElem.mp hc
      exact hoff k c (by rw [tl]; exact hk1) (by rw [List.getElem?_eq_getElem hk1, hk2])⟩
    have E2 := e1.trans e2
    have hQ := hQ cv
    clear hE hrng hoff hq1 hT1
    refine ⟨_, rfl, ?_⟩
    walk_at "s"
    refine ⟨sz, fun t3 H3 ht3 hv3 e3 => ?_⟩
    refine ⟨_, _, rfl, SqT.of hv3, rfl, ?_⟩
    have E3 := E2.trans e3
    refine ⟨_, _, rfl, ?_⟩
    refine ⟨_, _, rfl, ?_⟩
    refine ⟨rfl, ?_⟩
    dsimp only
    rw [tSeq]
    have hq3 : SqL K H3 q (ts.map V.ref) ∨ SqT K H3 q (ts.map V.ref) := hq.elim (fun h => .inl (SqL.ext h E3 id)) (fun h => .inr (SqT.ext h E3))
    have hT3 := hT.ext E3
    refine for_seq (T := TT K) (q := q) (xs := ts.map V.ref) (i0 := 0) rfl hq3 (fun i σ' H' => ∃ (day : Nat) (u1 u2 u5 u6 u7 : Option V), σ' = [some (.ref q), u1, u2, some (.int (day : Nat)), some (.int (MM.lcmC (cs.take i) : Nat)), u5, u6, u7] ∧ Ext (TT K) No H3 H' ∧ MM.Tells (cs.take i) day (MM.lcmC (cs.take i))) (fun i σ' H' ⟨_, _, _, _, _, _, _, e, _⟩ => e) ⟨0, _, _, _, _, _, rfl, .refl, MM.tells_nil⟩ ?_ ?_
    · rintro i v σ' H4 hv ⟨day, u1, u2, u5, u6, u7, rfl, e4, hTl⟩
      obtain ⟨t, c, rfl, ht, hc, hvt⟩ := hT3.get hv
      have cr := rng c (List.mem_of_getElem? hc)
      have co := cv.off c (List.mem_of_getElem? hc)
      have hp : 0 < MM.lcmC (cs.take i) := lcmC_pos fun c hc => (rng c (List.mem_of_mem_take hc)).1
      generalize hW : MM.lcmC (cs.take i) = W at hTl hp ⊢
      refine ⟨_, _, rfl, SqT.of (e4.fix _ _ hvt rfl), rfl, ?_⟩
      walk_at "s"
      refine ⟨fun m σ2 H5 => ∃ k : Nat, σ2 = [some (.ref q), some (.int (c.1 : Nat)), some (.int (c.2 : Nat)), some (.int (day + k * W : Nat)), some (.int (W : Nat)), some (.int (k : Nat)), u6, u7] ∧ H5 = H4 ∧ m = c.1 + 1 - k ∧ k ≤ c.1 ∧ ∀ t, t < k → (day + t * W) % c.1 ≠ c.2, ⟨c.1 + 1, 0, ?_, rfl, rfl, Nat.zero_le _, fun t z => absurd z (Nat.not_lt_zero _)⟩, ?_⟩
      · rw [Nat.zero_mul, Nat.add_zero]
        rfl
      rintro m σ2 H5 ⟨k, rfl, rfl, rfl, hk, hn⟩
      walk_at "s"
      refine ⟨by omega, ?_⟩
      walk_at "s"
      have hmod : (((day + k * W : Nat) : Int) % ((c.1 : Nat) : Int) = ((c.2 : Nat) : Int)) ↔ (day + k * W) % c.1 = c.2 := by
        rw [← Int.natCast_emod]
        exact Int.natCast_inj
      refine ifB (fun q5 => ?_) (fun q5 => ?_)
      · have q5 : ¬ (day + k * W) % c.1 = c.2 := fun z => by
          have q5 : ¬ (((day + k * W : Nat) : Int) % ((c.1 : Nat) : Int) = ((c.2 : Nat) : Int)) := by simpa using q5
          exact q5 (hmod.mpr z)
        have hn1 : ∀ t, t < k + 1 → (day + t * W) % c.1 ≠ c.2 := fun t ht => by
          by_cases e : t = k
          · rw [e]; exact q5
          · exact hn t (by omega)
        refine ⟨_, fun _ _ h => h, ?_⟩
        walk_at "s"
        refine ifB (fun q6 => ?_) (fun q6 => ?_)
        · have q6 : c.1 < k + 1 := by
            have q6 : ((c.1 : Nat) : Int) < (k : Int) + 1 := by simpa using q6
            omega
          walk_at "s"
          refine hQ _ _ (.inl ⟨rfl, fun d hd => ?_⟩) (E3.trans e4)
          exact MM.none_of hTl (by omega) (fun t ht => hn1 t (by omega)) d (fun x hx => hd x (List.mem_of_mem_take hx)) (hd c (List.mem_of_getElem? hc))
        · have q6 : ¬ c.1 < k + 1 := by
            have q6 : ¬ ((c.1 : Nat) : Int) < (k : Int) + 1 := by simpa using q6
            omega
          refine ⟨c.1 + 1 - (k + 1), by omega, k + 1, ?_, rfl, rfl, by omega, hn1⟩
          have e : ((day + (k + 1) * W : Nat) : Int) = ((day + k * W : Nat) : Int) + (W : Nat) := by
            rw [Nat.add_mul, Nat.one_mul]
            omega
          rw [e]
          rfl
      · have q5 : (day + k * W) % c.1 = c.2 := by
          have q5 : (((day + k * W : Nat) : Int) % ((c.1 : Nat) : Int) = ((c.2 : Nat) : Int)) := by simpa using q5
          exact hmod.mp q5
        have hTn := MM.tells_step (MM.tells_add hTl k) q5
        generalize day + k * W = day2 at hTn hmod q5 ⊢
        have hsnoc : cs.take (i + 1) = cs.take i ++ [c] := by
          rw [List.take_add_one, hc]
          rfl
        rw [← hsnoc] at hTn
        have hWn : MM.lcmC (cs.take (i + 1)) = Nat.lcm W c.1 := by rw [MM.lcmC_snoc hc, hW]
        walk_at "s"
        refine ⟨fun m σ' H' => ∃ x y : Nat, σ' = [some (.ref q), some (.int (c.1 : Nat)), some (.int (c.2 : Nat)), some (.int (day2 : Nat)), some (.int (W : Nat)), some (.int (k : Nat)), some (.int (x : Nat)), some (.int (y : Nat))] ∧ H' = H5 ∧ m = y ∧ 0 < x ∧ Nat.gcd x y = Nat.gcd W c.1, ⟨c.1, W, c.1, rfl, rfl, rfl, hp, rfl⟩, ?_⟩
        rintro m σ' H' ⟨x, y, rfl, rfl, rfl, hx, hg⟩
        walk_at "s"
        refine ifB (fun h => ?_) (fun h => ?_)
        · refine ⟨_, fun _ _ h => h, ?_⟩
          have hy : 0 < m := by simp at h; omega
          walk_at "s"
          refine ⟨by omega, ?_⟩
          walk_at "s"
          refine ⟨x % m, Nat.mod_lt _ hy, m, x % m, ?_, rfl, rfl, hy, ?_⟩
          · simp [List.set]
          · rw [← hg, Nat.gcd_comm x m, Nat.gcd_rec m x, Nat.gcd_comm]
        · have hy : m = 0 := by simp at h; omega
          subst hy
          rw [Nat.gcd_zero_right] at hg
          have hxa : x ∣ W := by rw [hg]; exact Nat.gcd_dvd_left _ _
          have hxc : x ≤ c.1 := Nat.le_of_dvd (by omega) (by rw [hg]; exact Nat.gcd_dvd_right _ _)
          walk_at "s"
          refine ⟨⟨by omega, by omega⟩, ?_⟩
          walk_at "s"
          refine ⟨.inr ⟨by omega, by omega⟩, ?_⟩
          have e : ((W : Nat) : Int) / ((x : Nat) : Int) * ((c.1 : Nat) : Int) = ((Nat.lcm W c.1 : Nat) : Int) := by
            rw [← Int.natCast_ediv, ← Int.natCast_mul]
            unfold Nat.lcm
            rw [← hg, Nat.mul_comm W c.1, Nat.mul_div_assoc _ hxa, Nat.mul_comm]
          rw [hWn]
          refine ⟨day2, some (.int (c.1 : Nat)), some (.int (c.2 : Nat)), some (.int (k : Nat)), some (.int (x : Nat)), some (.int (0 : Nat)), ?_, e4, ?_⟩
          · rw [← e]
            rfl
          · exact hTn
    · rintro σ' H' ⟨day, u1, u2, u5, u6, u7, rfl, e4, hTl⟩
      rw [tl, List.take_length] at hTl ⊢
      have hp : 0 < MM.lcmC cs := lcmC_pos fun c hc => (rng c hc).1
      walk_at "s"
      refine ⟨by omega, ?_⟩
      walk_at "s"
      refine ⟨sz, fun t5 H5 ht5 hv5 e5 => ?_⟩
      refine hQ _ H5 (.inr ⟨day % MM.lcmC cs, t5, rfl, (MM.tells_one hTl hp).1, Nat.mod_lt _ hp, ?_⟩) ((E3.trans e4).trans e5)
      rw [hv5, Int.natCast_emod]
end K03

set_option Elab.async false
set_option linter.all false
set_option maxRecDepth 100000
set_option maxHeartbeats 2000000
namespace K03
open PySem PySem.Spec PyProof.Rows L2 MB
local macro_rules | `(tactic| walk_at "s") => `(tactic| repeat (first | refine ⟨_, rfl, ?_⟩ | refine ⟨_, _, rfl, rfl, ?_⟩ | refine ⟨_, _, rfl, ?_⟩ | refine ⟨rfl, ?_⟩))
variable {P : Program} {w : World} {K : PySem.W.Frag} {mg : Str → Option Value} {base : Heap}
/-! ### round_of -/
def rndV (d : Int) (cs : MM.Cyc) : List V := cs.map fun c => .int ((d - ((c.2 : Nat) : Int)) % ((c.1 : Nat) : Int))
def spRound (K : PySem.W.Frag) : Sp := fun vs H Q E => ∃ (d : Int) (q : Addr) (cs : MM.Cyc), vs = [.int d, .ref q] ∧ SeqC K H q cs ∧ Gd (TT K) H ∧ cs.length ≤ 1000 ∧
  (CV cs → ∀ t H', H' t = some (.tup (rndV d cs)) → Ext (TT K) No H H' → Q (.ref t) H') ∧ (¬ CV cs → ∀ H', Ext (TT K) No H H' → E (CE K) none H')
theorem ok_round_of (T : Tx K mg base) (tk : TOk (TT K)) : FnOk P w K mg base (L2.CX P w) 14 (He.fAd K ("round_of", none)) T.fd_round_of ["day", "cycles"] (spRound K) := by
  have ok_meeting := fun T : Tx K mg base => ok_meeting (P := P) (w := w) T tk
  refine MB.FunD.okC (d := ("round_of", none)) T.F_round_of sc_round_of (fun vs H Q E h => ?_) (fun A outer s H vs Q E hr h => ⟨_, (pss_cons (ps_expr (pe_call (ok_meeting T) (hr.mono (by decide)) rfl T.g_meeting T.F_meeting.kp (bi_meeting T) .nil (passes_call (takes_of rfl rfl rfl rfl) fun _ _ _ _ h => h) (pa_cons (pv 1) pa_nil)))
 (pss_one (ps_ret (MG.pe_tupG (g := (gTup K 2 (gCons (gName 2) (gCons (gName 3) gNil)))) (k := 1) (hr.mono (by decide)) rfl T.b_tuple (by decide +kernel) sc_round_of.nd T.tb_round_of rfl (MG.geOk_by (N := ["day", "cycles", "length", "offset"]) (sc := defScope s_round_of) (own := [("length", 2), ("offset", 3)]) (by decide +kernel)) (pi_seqK (K := K) rfl (pv 1)) (fun _ _ _ _ _ => (pg_tupK (K := K) (n := 2) rfl rfl (pgs_cons (pg_name (i := 2) sc_round_of.nd rfl (by first | exact Or.inl rfl | exact Or.inr rfl)) (pgs_cons (pg_name (i := 3) sc_round_of.nd rfl (by first | exact Or.inl rfl | exact Or.inr rfl)) pgs_nil)))) (fun _ _ _ _ _ hrg => (pe_op op_mod (pe_op op_sub (pv 0) (pv 3)) (pv 2))))))), ?_⟩)
  · obtain ⟨d, q, cs, rfl, _⟩ := h
    rfl
  · obtain ⟨d, q, cs, rfl, hC, gd, hlen, hQ, hE⟩ := h
    have tmem : (He.cT K ("round_of", none)).2 ∈ (TT K).gen := by simp [TT]
    walk_at "s"
    refine ⟨q, cs, rfl, hC, gd, hlen, fun cv v H1 hv e1 => ?_, hE⟩
    have hQ := hQ cv
    obtain ⟨ts, hq, hT⟩ := hC
    have hT1 := hT.ext e1
    have tl : (ts.map V.ref).length = cs.length := by rw [List.length_map, hT.1]
    dsimp only
    rw [tRet]
    refine tupG_seq tk tmem rfl (hq.elim (fun h => .inl (SqL.ext h e1 id)) (fun h => .inr (SqT.ext h e1))) ((e1.gd gd).1 _ tmem) (ws := rndV d cs) (by rw [tl]; exact List.length_map ..) (by unfold rndV; rw [List.length_map]; omega) ?_ ?_
    · rintro i x H2 B hx e2 hB
      obtain ⟨t, c, rfl, ht, hc, hvt⟩ := hT1.get hx
      have c1 := (cv.rng c (List.mem_of_getElem? hc)).1
      refine ⟨_, _, rfl, SqT.of (e2.fix _ _ hvt rfl), rfl, ?_⟩
      walk_at "s"
      refine ⟨by omega, ?_⟩
      refine hB _ _ ?_ .refl
      unfold rndV
      rw [List.getElem?_map, hc]
      rfl
    · exact fun p H2 hp e2 => hQ p H2 hp (e1.trans e2)
end K03

set_option Elab.async false
set_option linter.all false
set_option maxRecDepth 100000
set_option maxHeartbeats 2000000
namespace K03
open PySem PySem.Spec PyProof.Rows L2 MB
local macro_rules | `(tactic| walk_at "s") => `(tactic| repeat (first | refine ⟨_, rfl, ?_⟩ | refine ⟨_, _, rfl, rfl, ?_⟩ | refine ⟨_, _, rfl, ?_⟩ | refine ⟨rfl, ?_⟩))
variable {P : Program} {w : World} {K : PySem.W.Frag} {mg : Str → Option Value} {base : Heap}
/-! ### day_with -/
def DV (ps : List Nat) (cs : MM.Cyc) : Prop := ps.length = cs.length ∧ ∀ (i : Nat) (p : Nat) (c : Nat × Nat), ps[i]? = some p → cs[i]? = some c → p < c.1
def shift (ps : List Nat) (cs : MM.Cyc) : MM.Cyc := List.zipWith (fun p c => (c.1, (c.2 + p) % c.1)) ps cs
def MeetD (cs : MM.Cyc) (v : V) : Prop := (v = .non ∧ ∀ d, ¬ MM.sat cs d) ∨ ∃ d : Nat, v = .int (d : Nat) ∧ MM.sat cs d ∧ d < MM.lcmC cs
def spDayWith (K : PySem.W.Frag) : Sp := fun vs H Q E => ∃ (p q : Addr) (ps : List Nat) (cs : MM.Cyc), vs = [.ref p, .ref q] ∧ (SqL K H p (ps.map fun n => V.int (n : Nat)) ∨ SqT K H p (ps.map fun n => V.int (n : Nat))) ∧ SeqC K H q cs ∧ Gd (TT K) H ∧ cs.length ≤ 1000 ∧
  (DV ps cs → CV cs → ∀ v H', MeetD (shift ps cs) v → Ext (TT K) No H H' → Q v H') ∧ (¬ (DV ps cs ∧ CV cs) → ∀ H', Ext (TT K) No H H' → E (CE K) none H')
theorem ok_day_with (T : Tx K mg base) (tk : TOk (TT K)) : FnOk P w K mg base (L2.CX P w) 16 (He.fAd K ("day_with", none)) T.fd_day_with ["places", "cycles"] (spDayWith K) := by
  have ok_meeting := fun T : Tx K mg base => ok_meeting (P := P) (w := w) T tk
  refine MB.FunD.okC (d := ("day_with", none)) T.F_day_with sc_day_with (fun vs H Q E h => ?_) (fun A outer s H vs Q E hr h => ⟨_, (pss_cons (ps_if (PW.pt (pw_or (pt_cmpR op_ne (pe_callB (call_lenK (K := K) rfl) rfl T.b_len (by decide +kernel) (pa_cons (pv 0) pa_nil)) (pe_callB (call_lenK (K := K) rfl) rfl T.b_len (by decide +kernel) (pa_cons (pv 1) pa_nil)) (nomark _)) (pw_or1 (pt_val (MG.pe_anyG (g := (gTup K 2 (gCons (gName 2) (gCons (gName 3) gNil)))) (k := 1) (hr.mono (by decide)) rfl T.b_any sc_day_with.nd T.tb_day_with rfl (MG.geOk_by (N := ["places", "cycles", "place", "cycle", "found", "length", "offset"]) (sc := defScope s_day_with) (own := [("place", 2), ("cycle", 3)]) (by decide +kernel)) (MB.pi_zipM (K := K) rfl rfl T.b_zip (pa_cons (pv 0) (pa_cons (pv 1) pa_nil))) (fun _ _ _ _ _ => (pg_tupK (K := K) (n := 2) rfl rfl (pgs_cons (pg_name (i := 2) sc_day_with.nd rfl (by first | exact Or.inl rfl | exact Or.inr rfl)) (pgs_cons (pg_name (i := 3) sc_day_with.nd rfl (by first | exact Or.inl rfl | exact Or.inr rfl)) pgs_nil)))) (fun _ _ _ _ _ hrg => (pe_not (pe_chain op_le op_lt pe_int (pv 2) (pe_ix (ix_tupK (K := K) rfl) (pv 3) pe_int (fun _ _ => rfl)))))))))) (pss_one (ps_raise rfl (takes_of rfl rfl rfl rfl) (pmk_own PySem.F.excBase_ValueError T.x_CycleError.1 T.g_CycleError T.x_CycleError.2.1 (raises_own T.x_CycleError.2.2.1 T.x_CycleError.2.2.2) rfl))) pss_nil)
 (pss_cons (ps_expr (pe_call (ok_meeting T) (hr.mono (by decide)) rfl T.g_meeting T.F_meeting.kp (bi_meeting T) .nil (passes_call (takes_of rfl rfl rfl rfl) fun _ _ _ _ h => h) (pa_cons (pv 1) pa_nil)))
 (pss_cons (ps_set (i := 4) sc_day_with.nd rfl (Or.inl rfl) (pe_call (ok_meeting T) (hr.mono (by decide)) rfl T.g_meeting T.F_meeting.kp (bi_meeting T) .nil (passes_call (takes_of rfl rfl rfl rfl) fun _ _ _ _ h => h) (pa_cons (pe_lc rfl sc_day_with.nd (MB.pi_zipM (K := K) rfl rfl T.b_zip (pa_cons (pv 0) (pa_cons (pv 1) pa_nil))) (blkOk_by (N := ["places", "cycles", "place", "cycle", "found", "length", "offset"]) (sc := defScope s_day_with) (own := [("place", 2), ("length", 5), ("offset", 6)]) (by decide +kernel)) (fun _ _ _ _ _ => (pg_tupK (K := K) (n := 2) rfl rfl (pgs_cons (pg_name (i := 2) sc_day_with.nd rfl (by first | exact Or.inl rfl | exact Or.inr rfl)) (pgs_cons (pg_tupK (K := K) (n := 2) rfl rfl (pgs_cons (pg_name (i := 5) sc_day_with.nd rfl (by first | exact Or.inl rfl | exact Or.inr rfl)) (pgs_cons (pg_name (i := 6) sc_day_with.nd rfl (by first | exact Or.inl rfl | exact Or.inr rfl)) pgs_nil))) pgs_nil)))) (fun _ _ _ _ _ => pts_nil) (fun _ _ _ _ _ => (pe_tupN (T := TT K) (pa_cons (pv 5) (pa_cons (pe_op op_mod (pe_op op_add (pv 6) (pv 2)) (pv 5)) pa_nil))))) pa_nil)))
 (pss_one (ps_ret (pe_ifExp (pt_cmpR op_notN (pv 4) pe_non (nomark _)) (pe_ix (ix_tupK (K := K) rfl) (pv 4) pe_int (fun _ _ => rfl)) pe_non)))))), ?_⟩)
  · obtain ⟨p, q, ps, cs, rfl, _⟩ := h
    rfl
  · obtain ⟨p, q, ps, cs, rfl, hP, hC, gd, hlen, hQ, hE⟩ := h
    have tmem : (He.cT K ("day_with", none)).2 ∈ (TT K).gen := by simp [TT]
    obtain ⟨ts, hq, hT⟩ := hC
    have tl : (ts.map V.ref).length = cs.length := by rw [List.length_map, hT.1]
    have pl : (ps.map fun n => V.int (n : Nat)).length = ps.length := List.length_map ..
    walk_at "s"
    refine ⟨_, _, rfl, hP, ?_⟩
    walk_at "s"
    refine ⟨_, _, rfl, hq, ?_⟩
    walk_at "s"
    refine ifB (fun q1 => ?_) (fun q1 => ?_)
    · have q1 : ¬ ps.length = cs.length := fun z => by
        rw [pl, tl, z] at q1
        simp at q1
      walk_at "s"
      exact hE (fun z => q1 z.1.1) H .refl
    have q1 : ps.length = cs.length := by
      rw [pl, tl] at q1
      have q1 : ((ps.length : Nat) : Int) = ((cs.length : Nat) : Int) := by simpa using q1
      omega
    have hxz : (ps.map fun n => V.int (n : Nat)).length = (ts.map V.ref).length := by rw [pl, tl, q1]
    obtain ⟨sa, qa⟩ := SqB.of hP
    obtain ⟨sb, qb⟩ := SqB.of hq
    rw [tB]
    refine anyG_zipM tk tmem rfl rfl qa qb hxz (gd.1 _ tmem) (fun i => ∀ k p c, k < i → ps[k]? = some p → cs[k]? = some c → p < c.1) (fun k p c z => absurd z (Nat.not_lt_zero _)) ?_ ?_
    · rintro i x z t H1 B hx hz ht e1 hk hB
      obtain ⟨t2, c, rfl, ht2, hc, hvt⟩ := hT.get hz
      obtain ⟨n, hn, rfl⟩ : ∃ n : Nat, ps[i]? = some n ∧ x = .int (n : Nat) := by
        rw [List.getElem?_map] at hx
        cases e : ps[i]? with
        | none => rw [e] at hx; cases hx
        | some n => rw [e] at hx; cases hx; exact ⟨n, rfl, rfl⟩
      refine ⟨_, _, rfl, SqT.of ht, rfl, ?_⟩
      walk_at "s"
      refine ⟨_, _, _, _, rfl, rfl, SqT.of (e1.fix _ _ hvt rfl), rfl, ?_⟩
      walk_at "s"
      refine ifB (fun q4 => ?_) (fun q4 => ?_)
      · have q4 : ¬ n < c.1 := by
          have q4 : ¬ ((n : Nat) : Int) < ((c.1 : Nat) : Int) := by simpa using q4
          omega
        walk_at "s"
        exact hE (fun z => q4 (z.1.2 i n c hn hc)) _ e1
      have q4 : n < c.1 := by
        have q4 : ((n : Nat) : Int) < ((c.1 : Nat) : Int) := by simpa using q4
        omega
      refine hB H1 e1 fun k p2 c2 z1 z2 z3 => ?_
      by_cases hk2 : k = i
      · subst hk2
        rw [hc] at z3
        rw [hn] at z2
        cases z3
        cases z2
        exact q4
      · exact hk k p2 c2 (by omega) z2 z3
    rintro H1 e1 hall
    have dv : DV ps cs := ⟨q1, fun i p c h1 h2 => hall i p c (by rw [pl]; exact (List.getElem?_eq_some_iff.mp h1).1) h1 h2⟩
    refine ⟨_, rfl, ?_⟩
    refine ifB (fun z => by cases z) (fun _ => ?_)
    walk_at "s"
    refine ⟨q, cs, rfl, ⟨ts, hq.elim (fun h => .inl (SqL.ext h e1 id)) (fun h => .inr (SqT.ext h e1)), hT.ext e1⟩, e1.gd gd, hlen, fun cv v0 H2 _ e2 => ?_, fun z H2 e2 => hE (fun z2 => z z2.2) H2 (e1.trans e2)⟩
    have hQ := hQ dv cv
    have E2 := e1.trans e2
    have hT2 := hT.ext E2
    clear e1 e2 hE hall
    refine ⟨.ref p, rfl, .ref q, rfl, p, q, sa, sb, _, _, rfl, SqB.ext qa E2, SqB.ext qb E2, fun D hD => ?_⟩
    have hsl : (shift ps cs).length = cs.length := by unfold shift; rw [List.length_zipWith, q1, Nat.min_self]
    refine lc_zipM hxz (fun i H' => ∃ as : List Addr, H' D = some (.lst (as.map V.ref)) ∧ CycT H' as ((shift ps cs).take i) ∧ Ext (TT K) (· = D) H2 H') ⟨[], upd_same, ⟨rfl, fun _ _ _ z => by simp at z⟩, (Ext.new hD).no⟩ (fun i H' _ ⟨_, _, _, e⟩ => ⟨SqB.extD (SqB.ext qa E2) e hD, SqB.extD (SqB.ext qb E2) e hD⟩) ?_ ?_
    · rintro i x z t H3 hx hz ⟨as, h3, hA, e3⟩ ht3
      obtain ⟨t2, c, rfl, ht2, hc, hvt⟩ := hT2.get hz
      obtain ⟨n, hn, rfl⟩ : ∃ n : Nat, ps[i]? = some n ∧ x = .int (n : Nat) := by
        rw [List.getElem?_map] at hx
        cases e : ps[i]? with
        | none => rw [e] at hx; cases hx
        | some n => rw [e] at hx; cases hx; exact ⟨n, rfl, rfl⟩
      have c1 := (cv.rng c (List.mem_of_getElem? hc)).1
      have hs : (shift ps cs)[i]? = some (c.1, (c.2 + n) % c.1) := by
        unfold shift
        rw [List.getElem?_zipWith, hn, hc]
      have e4 : Ext (TT K) (· = D) H2 (upd H3 t (.tup [.int (n : Nat), .ref t2])) := e3.trans (Ext.new ht3)
      have h4 := (Ext.new (T := TT K) (M := No) (o := .tup [.int (n : Nat), .ref t2]) ht3).lst _ _ h3 id
      have hA := hA.ext (Ext.new (T := TT K) (M := No) (o := .tup [.int (n : Nat), .ref t2]) ht3)
      refine ⟨_, _, rfl, SqT.of upd_same, rfl, ?_⟩
      generalize upd H3 t (.tup [.int (n : Nat), .ref t2]) = H4 at e4 h4 hA
      walk_at "s"
      refine ⟨_, _, rfl, SqT.of (e4.fix _ _ hvt rfl), rfl, ?_⟩
      walk_at "s"
      refine ⟨by omega, ?_⟩
      walk_at "s"
      refine ⟨sz, fun t5 H5 ht5 hv5 e5 => ?_⟩
      have h5 := e5.lst _ _ h4 id
      have hl := hA.1
      rw [List.length_take, hsl] at hl
      have e6 : Ext (TT K) (· = D) H5 (upd H5 D (.lst (as.map V.ref ++ [.ref t5]))) := Ext.set h5 rfl
      refine ⟨_, h5, by rw [List.length_map, hl]; exact szl (by omega), as ++ [t5], by rw [List.map_append]; exact upd_same, ?_, (e4.trans e5.no).trans e6⟩
      have hA6 := (hA.ext e5).ext e6
      have htk : (shift ps cs).take (i + 1) = (shift ps cs).take i ++ [(c.1, (c.2 + n) % c.1)] := by rw [List.take_add_one, hs]; rfl
      rw [htk]
      refine ⟨by rw [List.length_append, List.length_append, hA6.1]; rfl, snoc_at hA6.1 hA6.2 ?_⟩
      have e7 : ((((c.2 + n) % c.1 : Nat)) : Int) = (((c.2 : Nat) : Int) + ((n : Nat) : Int)) % ((c.1 : Nat) : Int) := by rw [Int.natCast_emod, Int.natCast_add]
      have := e6.fix _ _ hv5 rfl
      rw [this, e7]
    rintro H3 ⟨as, h3, hA, e3⟩
    have htk : (shift ps cs).take (ps.map fun n => V.int (n : Nat)).length = shift ps cs := List.take_of_length_le (by rw [hsl, pl, q1]; exact Nat.le_refl _)
    rw [htk] at hA
    have e3n := e3.mono1 (NoM.of hD)
    have hmem : ∀ c ∈ shift ps cs, ∃ c0 ∈ cs, c.1 = c0.1 ∧ c.2 < c.1 := fun c hc => by
      obtain ⟨i, hi, hc2⟩ := List.mem_iff_getElem.mp hc
      have hc3 := List.getElem?_eq_getElem hi
      rw [hc2] at hc3
      unfold shift at hc3
      rw [List.getElem?_zipWith] at hc3
      cases g1 : ps[i]? with
      | none => rw [g1] at hc3; cases hc3
      | some n =>
        cases g2 : cs[i]? with
        | none => rw [g1, g2] at hc3; cases hc3
        | some c0 =>
          rw [g1, g2] at hc3
          cases hc3
          have hm0 := List.mem_of_getElem? g2
          exact ⟨c0, hm0, rfl, Nat.mod_lt _ (cv.rng c0 hm0).1⟩
    have cv2 : CV (shift ps cs) := ⟨by rw [hsl]; exact cv.pos, by rw [hsl]; exact cv.six, fun c hc => by
      obtain ⟨c0, h0, e, _⟩ := hmem c hc
      rw [e]
      exact cv.rng c0 h0, fun c hc => by
      obtain ⟨c0, h0, _, e⟩ := hmem c hc
      exact e⟩
    walk_at "s"
    refine ⟨D, shift ps cs, rfl, ⟨as, .inl (SqL.of h3), hA⟩, (E2.trans e3n).gd gd, by rw [hsl]; exact hlen, fun _ v4 H4 hv4 e4 => ?_, fun z => absurd cv2 z⟩
    have E4 := (E2.trans e3n).trans e4
    walk_at "s"
    rcases hv4 with ⟨rfl, hno⟩ | ⟨d, t4, rfl, hs, hlt, hvt⟩
    · refine ifB (fun z => by cases z) (fun _ => ?_)
      exact hQ _ _ (.inl ⟨rfl, hno⟩) E4
    · refine ifB (fun _ => ?_) (fun z => by simp at z)
      walk_at "s"
      refine ⟨_, _, _, _, rfl, rfl, SqT.of hvt, rfl, ?_⟩
      exact hQ _ _ (.inr ⟨d, rfl, hs, hlt⟩) E4
end K03

set_option Elab.async false
set_option linter.all false
set_option maxRecDepth 100000
set_option maxHeartbeats 2000000
namespace K03
open PySem PySem.Spec PyProof.Rows L2 MB
local macro_rules | `(tactic| walk_at "s") => `(tactic| repeat (first | refine ⟨_, rfl, ?_⟩ | refine ⟨_, _, rfl, rfl, ?_⟩ | refine ⟨_, _, rfl, ?_⟩ | refine ⟨rfl, ?_⟩))
variable {P : Program} {w : World} {K : PySem.W.Frag} {mg : Str → Option Value} {base : Heap}
/-! ### best_match -/
def bmOk (a b m : Int) : Prop := 1 ≤ a ∧ 1 ≤ b ∧ 1 ≤ m ∧ m ≤ 2000
def spBest (K : PySem.W.Frag) : Sp := fun vs H Q E => ∃ a b m : Int, vs = [.int a, .int b, .int m] ∧ a < 2 ^ 40 ∧ b < 2 ^ 29 ∧
  (bmOk a b m → ∀ r t H', MM.Best a.toNat b.toNat m.toNat (some r) → H' t = some (.tup (triV r)) → Ext (TT K) No H H' → Q (.ref t) H') ∧ (¬ bmOk a b m → E (CE K) none H)
/-- the best so far -/
def BestV (H : Hp) (v : V) : Option MM.Tr → Prop
  | none => v = .non
  | some r => ∃ t, v = .ref t ∧ H t = some (.tup (triV r))
theorem BestV.ext {T : Tb} {M : Addr → Prop} {H H' : Hp} {v : V} {b : Option MM.Tr} (h : BestV H v b) (e : Ext T M H H') : BestV H' v b := by
  cases b with
  | none => exact h
  | some r =>
    obtain ⟨t, h1, h2⟩ := h
    exact ⟨t, h1, e.fix _ _ h2 rfl⟩
theorem absI (i : Int) : (if i < 0 then -i else i) = (i.natAbs : Nat) := by
  split <;> omega
def bsK (bo : Option MM.Tr) (one other o low : Nat) : Nat → Option MM.Tr
  | 0 => bo
  | k + 1 => MM.upd3 (bsK bo one other o low k) (MM.row one other o (low + k))
theorem ok_best_match (T : Tx K mg base) : FnOk P w K mg base (L2.CX P w) 2 (He.fAd K ("best_match", none)) T.fd_best_match ["one", "other", "most"] (spBest K) := by
  refine T.F_best_match.ok sc_best_match (fun vs H Q E h => ?_) (fun cdv A outer s H vs Q E hr h => ⟨_, (pss_cons (ps_if (PW.pt (pw_or (pt_cmpR op_lt (pv 0) pe_int (nomark _)) (pw_or (pt_cmpR op_lt (pv 1) pe_int (nomark _)) (pw_or1 (pt_not (pt_chain op_le op_le pe_int (pv 2) pe_int)))))) (pss_one (ps_raise rfl (takes_of rfl rfl rfl rfl) (pmk_own PySem.F.excBase_ValueError T.x_CycleError.1 T.g_CycleError T.x_CycleError.2.1 (raises_own T.x_CycleError.2.2.1 T.x_CycleError.2.2.2) rfl))) pss_nil)
 (pss_cons (ps_set (i := 3) sc_best_match.nd rfl (Or.inl rfl) pe_non)
 (pss_cons (ps_for (passes_of rfl) rfl (pi_range2 rfl T.b_range (pa_cons pe_int (pa_cons (pe_op op_add (pv 2) pe_int) pa_nil))) (pg_name (i := 4) sc_best_match.nd rfl (Or.inl rfl)) (pss_cons (ps_set (i := 5) sc_best_match.nd rfl (Or.inl rfl) (pe_callB (call_max2 rfl) rfl T.b_max (by decide +kernel) (pa_cons pe_int (pa_cons (pe_op op_fdiv (pe_op op_mul (pv 4) (pv 0)) (pv 1)) pa_nil))))
 (pss_one (ps_for (passes_of rfl) rfl (pi_tupK (K := K) rfl (pe_tupN (T := TT K) (pa_cons (pv 5) (pa_cons (pe_op op_add (pv 5) pe_int) pa_nil)))) (pg_name (i := 6) sc_best_match.nd rfl (Or.inl rfl)) (pss_cons (ps_set (i := 7) sc_best_match.nd rfl (Or.inl rfl) (pe_tupN (T := TT K) (pa_cons (pe_callB call_abs rfl T.b_abs (by decide +kernel) (pa_cons (pe_op op_sub (pe_op op_mul (pv 4) (pv 0)) (pe_op op_mul (pv 6) (pv 1))) pa_nil)) (pa_cons (pv 4) (pa_cons (pv 6) pa_nil)))))
 (pss_one (ps_set (i := 3) sc_best_match.nd rfl (Or.inl rfl) (pe_ifExp (PW.pt (pw_or (pt_cmpR op_isN (pv 3) pe_non (nomark _)) (pw_or1 (pt_cmpR (op_ltT (Nat.lt_of_le_of_lt (Nat.le_add_right _ _) hr.units)) (pv 7) (pv 3) (nomark _))))) (pv 7) (pv 3)))))))))
 (pss_one (ps_ret (pv 3)))))), ?_⟩)
  · obtain ⟨a, b, m, rfl, _⟩ := h
    rfl
  · obtain ⟨a, b, m, rfl, la, lb, hQ, hE⟩ := h
    walk_at "s"
    refine ifB (fun q1 => ?_) (fun q1 => ?_)
    · have q1 : a < 1 := by simpa using q1
      walk_at "s"
      exact hE fun z => absurd z.1 (by omega)
    have q1 : 1 ≤ a := by
      have q1 : ¬ a < 1 := by simpa using q1
      omega
    walk_at "s"
    refine ifB (fun q2 => ?_) (fun q2 => ?_)
    · have q2 : b < 1 := by simpa using q2
      walk_at "s"
      exact hE fun z => absurd z.2.1 (by omega)
    have q2 : 1 ≤ b := by
      have q2 : ¬ b < 1 := by simpa using q2
      omega
    walk_at "s"
    refine ifBr (fun q3 => ?_) (fun q3 => ?_)
    · have q3 : ¬ 1 ≤ m := by simpa using q3
      walk_at "s"
      exact hE fun z => absurd z.2.2.1 (by omega)
    have q3 : 1 ≤ m := by simpa using q3
    walk_at "s"
    refine ifB (fun q4 => ?_) (fun q4 => ?_)
    · have q4 : ¬ m ≤ 2000 := by simpa using q4
      exact hE fun z => absurd z.2.2.2 (by omega)
    have q4 : m ≤ 2000 := by simpa using q4
    have hQ := hQ ⟨q1, q2, q3, q4⟩
    obtain ⟨one, rfl⟩ := Int.eq_ofNat_of_zero_le (show (0 : Int) ≤ a by omega)
    obtain ⟨other, rfl⟩ := Int.eq_ofNat_of_zero_le (show (0 : Int) ≤ b by omega)
    obtain ⟨most, rfl⟩ := Int.eq_ofNat_of_zero_le (show (0 : Int) ≤ m by omega)
    have hy : 0 < other := by omega
    simp only [Int.toNat_natCast] at hQ
    walk_at "s"
    refine ⟨⟨by omega, by omega, by omega, by omega⟩, ?_⟩
    have hn : ((most : Int) + 1 - 1).toNat = most := by omega
    rw [hn]
    refine for_range (fun i σ' H' => ∃ (bo : Option MM.Tr) (bv : V) (u4 u5 u6 u7 : Option V), σ' = [some (.int (one : Nat)), some (.int (other : Nat)), some (.int (most : Nat)), some bv, u4, u5, u6, u7] ∧ BestV H' bv bo ∧ MM.Best one other i bo ∧ Ext (TT K) No H H') ⟨none, .non, _, _, _, _, rfl, rfl, rfl, .refl⟩ ?_ ?_
    · rintro i σ' H1 hi ⟨bo, bv, u4, u5, u6, u7, rfl, hb, hB, e1⟩
      have hi1 : ((i + 1 : Nat) : Int) = 1 + (i : Int) := by omega
      walk_at "s"
      refine ⟨.inl ⟨by omega, by omega⟩, ?_⟩
      walk_at "s"
      refine ⟨⟨by omega, by omega⟩, ?_⟩
      have hmul : (1 + (i : Int)) * ((one : Nat) : Int) = ((one * (i + 1) : Nat) : Int) := by rw [Int.natCast_mul, hi1, Int.mul_comm]
      have hlow : (if (1 + (i : Int)) * ((one : Nat) : Int) / ((other : Nat) : Int) > 1 then (1 + (i : Int)) * ((one : Nat) : Int) / ((other : Nat) : Int) else 1) = ((MM.low3 one other (i + 1) : Nat) : Int) := by
        rw [hmul, ← Int.natCast_ediv]
        unfold MM.low3
        split <;> omega
      walk_at "s"
      rw [hlow]
      have hstep := MM.best_step hy hB
      generalize MM.low3 one other (i + 1) = low at hstep ⊢
      walk_at "s"
      refine ⟨sz, fun t2 H2 ht2 hv2 e2 => ?_⟩
      refine ⟨_, rfl, ⟨_, SqT.of hv2⟩, ?_⟩
      refine for_tup (xs := [.int (low : Nat), .int ((low : Nat) + 1 : Int)]) (fun k σ' H' => ∃ (bv : V) (u6 u7 : Option V), σ' = [some (.int (one : Nat)), some (.int (other : Nat)), some (.int (most : Nat)), some bv, some (.int (1 + (i : Int))), some (.int (low : Nat)), u6, u7] ∧ BestV H' bv (bsK bo one other (i + 1) low k) ∧ Ext (TT K) No H2 H') ⟨bv, _, _, rfl, hb.ext e2, .refl⟩ (fun k σ' H' _ ⟨_, _, _, _, _, e⟩ => SqT.of (e.fix _ _ hv2 rfl)) ?_ ?_
      · rintro k x σ' H3 hx ⟨bv, u6, u7, rfl, hb, e3⟩
        obtain ⟨s2, rfl, hs2⟩ : ∃ s2 : Nat, x = .int (s2 : Nat) ∧ s2 = low + k := by
          match k, hx with
          | 0, hx => cases hx; exact ⟨low, rfl, rfl⟩
          | 1, hx => cases hx; exact ⟨low + 1, rfl, rfl⟩
          | n + 2, hx => simp at hx
        have ebs : bsK bo one other (i + 1) low (k + 1) = MM.upd3 (bsK bo one other (i + 1) low k) (MM.row one other (i + 1) s2) := by rw [hs2]; rfl
        rw [ebs]
        generalize bsK bo one other (i + 1) low k = bk at hb ⊢
        have hoff : (((1 + (i : Int)) * ((one : Nat) : Int)) - ((s2 : Nat) : Int) * ((other : Nat) : Int)).natAbs = MM.offF one other (i + 1) s2 := by
          unfold MM.offF
          rw [hi1, Int.mul_comm (1 + (i : Int))]
        walk_at "s"
        refine ⟨.inr ⟨by omega, by omega⟩, ?_⟩
        walk_at "s"
        refine ⟨.inr ⟨by omega, by omega⟩, ?_⟩
        walk_at "s"
        refine ⟨sz, fun t4 H4 ht4 hv4 e4 => ?_⟩
        have hv4 : H4 t4 = some (.tup (triV (MM.row one other (i + 1) s2))) := by
          rw [hv4]
          show some (HO.tup [V.int (if _ < 0 then _ else _), V.int (1 + (i : Int)), V.int (s2 : Nat)]) = _
          rw [absI, hoff, ← hi1]
          rfl
        have hb4 := hb.ext e4
        have e34 := e3.trans e4
        cases bk with
        | none =>
          obtain rfl : bv = .non := hb
          walk_at "s"
          exact ⟨.ref t4, some (.int (s2 : Nat)), some (.ref t4), rfl, ⟨t4, rfl, hv4⟩, e34⟩
        | some r =>
          obtain ⟨tb, rfl, hvb⟩ := hb4
          walk_at "s"
          refine ⟨t4, tb, triI (MM.row one other (i + 1) s2), triI r, rfl, rfl, SqT.of hv4, SqT.of hvb, ?_⟩
          rw [lexLt_tri]
          refine ⟨_, rfl, ?_⟩
          refine ifB (fun q5 => ?_) (fun q5 => ?_)
          · have eu : MM.upd3 (some r) (MM.row one other (i + 1) s2) = some (MM.row one other (i + 1) s2) := if_pos q5
            rw [eu]
            walk_at "s"
            exact ⟨.ref t4, some (.int (s2 : Nat)), some (.ref t4), rfl, ⟨t4, rfl, hv4⟩, e34⟩
          · have eu : MM.upd3 (some r) (MM.row one other (i + 1) s2) = some r := if_neg (by rw [q5]; decide)
            rw [eu]
            walk_at "s"
            exact ⟨.ref tb, some (.int (s2 : Nat)), some (.ref t4), rfl, ⟨tb, rfl, hvb⟩, e34⟩
      · rintro σ' H3 ⟨bv, u6, u7, rfl, hb, e3⟩
        exact ⟨_, bv, _, _, _, _, rfl, hb, hstep, (e1.trans e2).trans e3⟩
    · rintro σ' H1 ⟨bo, bv, u4, u5, u6, u7, rfl, hb, hB, e1⟩
      cases bo with
      | none => exact absurd (show most = 0 from hB) (by omega)
      | some r =>
        obtain ⟨t, rfl, ht⟩ := hb
        walk_at "s"
        exact hQ r t H1 hB ht e1
def spPlain (K : PySem.W.Frag) : Sp := fun vs H Q _ => vs = [] ∧ Gd (TT K) H ∧ ∀ H', Ext (TT K) No H H' → Q (.bl true) H'
theorem cycnil {H : Hp} : CycT H [] [] := ⟨rfl, fun _ _ _ z => by simp at z⟩
theorem cycsnoc {H : Hp} {as : List Addr} {cs : MM.Cyc} {t : Addr} {n o : Nat} (h : CycT H as cs) (ht : H t = some (.tup [.int (n : Nat), .int (o : Nat)])) : CycT H (as ++ [t]) (cs ++ [(n, o)]) :=
  ⟨by simp [h.1], snoc_at h.1 h.2 ht⟩
end K03

set_option Elab.async false
set_option linter.all false
set_option maxRecDepth 100000
set_option maxHeartbeats 2000000
namespace K03
open PySem PySem.Spec PyProof.Rows L2 MB
local macro_rules | `(tactic| walk_at "s") => `(tactic| repeat (first | refine ⟨_, rfl, ?_⟩ | refine ⟨_, _, rfl, rfl, ?_⟩ | refine ⟨_, _, rfl, ?_⟩ | refine ⟨rfl, ?_⟩))
variable {P : Program} {w : World} {K : PySem.W.Frag} {mg : Str → Option Value} {base : Heap}
def plainBody : List Stmt := defBody s_law_plain
def lamOf (i : Nat) : ML.LamD := match plainBody with
  | _ :: (.Assign _ (.List es _) _) :: _ => (match es.getD i (.Constant .none 0 ⟨0, 0, 0, 0⟩) with
    | .Lambda params body scope _ => ⟨params, body, scope⟩
    | e => ⟨defArgs s_law_plain, e, defScope s_law_plain⟩)
  | _ => ⟨defArgs s_law_plain, .Constant .none 0 ⟨0, 0, 0, 0⟩, defScope s_law_plain⟩
abbrev plainX (P : Program) (w : World) (K : PySem.W.Frag) (mg : Str → Option Value) (base : Heap) (A : Around) (outer : List Env) (s : Shared) (H0 : Hp) (E0 : XK) : Cx :=
  cxOf (L2.CX P w) P w K mg base ["moons", "bad", "f"] "_law_plain" (defScope s_law_plain) (He.fAd K ("_law_plain", none)) (.ref (He.cT K ("_law_plain", none)).1) A outer s H0 E0
theorem okM : MOk 59 2 1 := ⟨by decide, by decide, by decide, by decide, by decide⟩
abbrev LamGood (P : Program) (w : World) (K : PySem.W.Frag) (mg : Str → Option Value) (base : Heap) (L : ML.LamD) (A : Around) (outer : List Env) (s : Shared) (H0 : Hp) (E0 : XK) : Prop :=
  ∃ t : XK → TE, ML.LamT (plainX P w K mg base A outer s H0 E0) 20 L t ∧
    ∀ (E : XK) (lp : Addr) (v1 v2 : Option V) (H : Hp) (Q : VK), MoonsAt (MC K) H lp 59 2 1 → Gd (TT K) H → (∀ H', Ext (TT K) No H H' → E (CE K) none H') → t E [some (.ref lp), v1, v2] H Q
theorem lam_0 (T : Tx K mg base) (tk : TOk (TT K)) (A : Around) (outer : List Env) (s : Shared) (H0 : Hp) (E0 : XK) : LamGood P w K mg base (lamOf 0) A outer s H0 E0 := by
  have ok_meeting := fun T : Tx K mg base => ok_meeting (P := P) (w := w) T tk
  have ok_round_of := fun T : Tx K mg base => ok_round_of (P := P) (w := w) T tk
  have ok_day_with := fun T : Tx K mg base => ok_day_with (P := P) (w := w) T tk
  refine ⟨fun E => _, ⟨LamX.lamS_by (sc := defScope s_law_plain) (by decide +kernel), fun _ _ _ _ _ => rfl, fun A outer s H E f c' hr => (pe_make T.mk_Moons (ok_Moons_init T) (hr.mono (by decide)) rfl T.g_Moons (bi_Moons_init T) .nil (passes_call (takes_of rfl rfl rfl rfl) fun _ _ _ _ h => h) (pa_cons pe_int (pa_cons pe_int (pa_cons pe_int pa_nil))))⟩, ?_⟩
  intro E lp v1 v2 H Q hle gd hE
  obtain ⟨dx9, l1⟩ := hle
  have hle : MoonsAt (MC K) H lp 59 2 1 := ⟨dx9, l1⟩
  walk_at "s"
  intro x dx hx hdx hne
  exact ⟨x, dx, 3, 2, 0, H, rfl, hx, hdx, hne, rfl, fun z => absurd z (by unfold MV; decide), fun _ H2 e2 => hE H2 e2⟩
theorem lam_1 (T : Tx K mg base) (tk : TOk (TT K)) (A : Around) (outer : List Env) (s : Shared) (H0 : Hp) (E0 : XK) : LamGood P w K mg base (lamOf 1) A outer s H0 E0 := by
  have ok_meeting := fun T : Tx K mg base => ok_meeting (P := P) (w := w) T tk
  have ok_round_of := fun T : Tx K mg base => ok_round_of (P := P) (w := w) T tk
  have ok_day_with := fun T : Tx K mg base => ok_day_with (P := P) (w := w) T tk
  refine ⟨fun E => _, ⟨LamX.lamS_by (sc := defScope s_law_plain) (by decide +kernel), fun _ _ _ _ _ => rfl, fun A outer s H E f c' hr => (pe_make T.mk_Moons (ok_Moons_init T) (hr.mono (by decide)) rfl T.g_Moons (bi_Moons_init T) .nil (passes_call (takes_of rfl rfl rfl rfl) fun _ _ _ _ h => h) (pa_cons pe_int (pa_cons pe_int (pa_cons pe_int pa_nil))))⟩, ?_⟩
  intro E lp v1 v2 H Q hle gd hE
  obtain ⟨dx9, l1⟩ := hle
  have hle : MoonsAt (MC K) H lp 59 2 1 := ⟨dx9, l1⟩
  walk_at "s"
  intro x dx hx hdx hne
  exact ⟨x, dx, 201, 2, 0, H, rfl, hx, hdx, hne, rfl, fun z => absurd z (by unfold MV; decide), fun _ H2 e2 => hE H2 e2⟩
theorem lam_2 (T : Tx K mg base) (tk : TOk (TT K)) (A : Around) (outer : List Env) (s : Shared) (H0 : Hp) (E0 : XK) : LamGood P w K mg base (lamOf 2) A outer s H0 E0 := by
  have ok_meeting := fun T : Tx K mg base => ok_meeting (P := P) (w := w) T tk
  have ok_round_of := fun T : Tx K mg base => ok_round_of (P := P) (w := w) T tk
  have ok_day_with := fun T : Tx K mg base => ok_day_with (P := P) (w := w) T tk
  refine ⟨fun E => _, ⟨LamX.lamS_by (sc := defScope s_law_plain) (by decide +kernel), fun _ _ _ _ _ => rfl, fun A outer s H E f c' hr => (pe_make T.mk_Moons (ok_Moons_init T) (hr.mono (by decide)) rfl T.g_Moons (bi_Moons_init T) .nil (passes_call (takes_of rfl rfl rfl rfl) fun _ _ _ _ h => h) (pa_cons pe_int (pa_cons pe_int (pa_cons pe_int pa_nil))))⟩, ?_⟩
  intro E lp v1 v2 H Q hle gd hE
  obtain ⟨dx9, l1⟩ := hle
  have hle : MoonsAt (MC K) H lp 59 2 1 := ⟨dx9, l1⟩
  walk_at "s"
  intro x dx hx hdx hne
  exact ⟨x, dx, 59, 0, 0, H, rfl, hx, hdx, hne, rfl, fun z => absurd z (by unfold MV; decide), fun _ H2 e2 => hE H2 e2⟩
theorem lam_3 (T : Tx K mg base) (tk : TOk (TT K)) (A : Around) (outer : List Env) (s : Shared) (H0 : Hp) (E0 : XK) : LamGood P w K mg base (lamOf 3) A outer s H0 E0 := by
  have ok_meeting := fun T : Tx K mg base => ok_meeting (P := P) (w := w) T tk
  have ok_round_of := fun T : Tx K mg base => ok_round_of (P := P) (w := w) T tk
  have ok_day_with := fun T : Tx K mg base => ok_day_with (P := P) (w := w) T tk
  refine ⟨fun E => _, ⟨LamX.lamS_by (sc := defScope s_law_plain) (by decide +kernel), fun _ _ _ _ _ => rfl, fun A outer s H E f c' hr => (pe_make T.mk_Moons (ok_Moons_init T) (hr.mono (by decide)) rfl T.g_Moons (bi_Moons_init T) .nil (passes_call (takes_of rfl rfl rfl rfl) fun _ _ _ _ h => h) (pa_cons pe_int (pa_cons pe_int (pa_cons pe_int pa_nil))))⟩, ?_⟩
  intro E lp v1 v2 H Q hle gd hE
  obtain ⟨dx9, l1⟩ := hle
  have hle : MoonsAt (MC K) H lp 59 2 1 := ⟨dx9, l1⟩
  walk_at "s"
  intro x dx hx hdx hne
  exact ⟨x, dx, 59, 2, 2, H, rfl, hx, hdx, hne, rfl, fun z => absurd z (by unfold MV; decide), fun _ H2 e2 => hE H2 e2⟩
theorem lam_4 (T : Tx K mg base) (tk : TOk (TT K)) (A : Around) (outer : List Env) (s : Shared) (H0 : Hp) (E0 : XK) : LamGood P w K mg base (lamOf 4) A outer s H0 E0 := by
  have ok_meeting := fun T : Tx K mg base => ok_meeting (P := P) (w := w) T tk
  have ok_round_of := fun T : Tx K mg base => ok_round_of (P := P) (w := w) T tk
  have ok_day_with := fun T : Tx K mg base => ok_day_with (P := P) (w := w) T tk
  refine ⟨fun E => _, ⟨LamX.lamS_by (sc := defScope s_law_plain) (by decide +kernel), fun _ _ _ _ _ => rfl, fun A outer s H E f c' hr => (pe_make T.mk_Moons (ok_Moons_init T) (hr.mono (by decide)) rfl T.g_Moons (bi_Moons_init T) .nil (passes_call (takes_of rfl rfl rfl rfl) fun _ _ _ _ h => h) (pa_cons pe_int (pa_cons pe_int (pa_cons (pe_un un_neg pe_int) pa_nil))))⟩, ?_⟩
  intro E lp v1 v2 H Q hle gd hE
  obtain ⟨dx9, l1⟩ := hle
  have hle : MoonsAt (MC K) H lp 59 2 1 := ⟨dx9, l1⟩
  walk_at "s"
  intro x dx hx hdx hne
  exact ⟨x, dx, 59, 2, -1, H, rfl, hx, hdx, hne, rfl, fun z => absurd z (by unfold MV; decide), fun _ H2 e2 => hE H2 e2⟩
theorem lam_5 (T : Tx K mg base) (tk : TOk (TT K)) (A : Around) (outer : List Env) (s : Shared) (H0 : Hp) (E0 : XK) : LamGood P w K mg base (lamOf 5) A outer s H0 E0 := by
  have ok_meeting := fun T : Tx K mg base => ok_meeting (P := P) (w := w) T tk
  have ok_round_of := fun T : Tx K mg base => ok_round_of (P := P) (w := w) T tk
  have ok_day_with := fun T : Tx K mg base => ok_day_with (P := P) (w := w) T tk
  refine ⟨fun E => _, ⟨LamX.lamS_by (sc := defScope s_law_plain) (by decide +kernel), fun _ _ _ _ _ => rfl, fun A outer s H E f c' hr => (pe_meth (pv 0) T.c_Moons T.m_Moons_new_moon (ok_Moons_new_moon T) (hr.mono (by decide)) (bi_Moons_new_moon T) .nil (passes_call (takes_of rfl rfl rfl rfl) fun _ _ _ _ h => h) (pa_cons (pe_un un_neg pe_int) pa_nil))⟩, ?_⟩
  intro E lp v1 v2 H Q hle gd hE
  obtain ⟨dx9, l1⟩ := hle
  have hle : MoonsAt (MC K) H lp 59 2 1 := ⟨dx9, l1⟩
  walk_at "s"
  refine ⟨_, _, _, rfl, l1, rfl, ?_⟩
  walk_at "s"
  exact ⟨lp, 59, 2, 1, -1, rfl, hle, okM, fun z => absurd z (by decide), fun _ => hE _ .refl⟩
theorem lam_6 (T : Tx K mg base) (tk : TOk (TT K)) (A : Around) (outer : List Env) (s : Shared) (H0 : Hp) (E0 : XK) : LamGood P w K mg base (lamOf 6) A outer s H0 E0 := by
  have ok_meeting := fun T : Tx K mg base => ok_meeting (P := P) (w := w) T tk
  have ok_round_of := fun T : Tx K mg base => ok_round_of (P := P) (w := w) T tk
  have ok_day_with := fun T : Tx K mg base => ok_day_with (P := P) (w := w) T tk
  refine ⟨fun E => _, ⟨LamX.lamS_by (sc := defScope s_law_plain) (by decide +kernel), fun _ _ _ _ _ => rfl, fun A outer s H E f c' hr => (pe_meth (pv 0) T.c_Moons T.m_Moons_new_moon (ok_Moons_new_moon T) (hr.mono (by decide)) (bi_Moons_new_moon T) .nil (passes_call (takes_of rfl rfl rfl rfl) fun _ _ _ _ h => h) (pa_cons pe_int pa_nil))⟩, ?_⟩
  intro E lp v1 v2 H Q hle gd hE
  obtain ⟨dx9, l1⟩ := hle
  have hle : MoonsAt (MC K) H lp 59 2 1 := ⟨dx9, l1⟩
  walk_at "s"
  refine ⟨_, _, _, rfl, l1, rfl, ?_⟩
  walk_at "s"
  exact ⟨lp, 59, 2, 1, 200001, rfl, hle, okM, fun _ z => absurd z (by decide +kernel), fun _ => hE _ .refl⟩
theorem lam_7 (T : Tx K mg base) (tk : TOk (TT K)) (A : Around) (outer : List Env) (s : Shared) (H0 : Hp) (E0 : XK) : LamGood P w K mg base (lamOf 7) A outer s H0 E0 := by
  have ok_meeting := fun T : Tx K mg base => ok_meeting (P := P) (w := w) T tk
  have ok_round_of := fun T : Tx K mg base => ok_round_of (P := P) (w := w) T tk
  have ok_day_with := fun T : Tx K mg base => ok_day_with (P := P) (w := w) T tk
  refine ⟨fun E => _, ⟨LamX.lamS_by (sc := defScope s_law_plain) (by decide +kernel), fun _ _ _ _ _ => rfl, fun A outer s H E f c' hr => (pe_meth (pv 0) T.c_Moons T.m_Moons_moon_of (ok_Moons_moon_of T) (hr.mono (by decide)) (bi_Moons_moon_of T) .nil (passes_call (takes_of rfl rfl rfl rfl) fun _ _ _ _ h => h) (pa_cons (pe_un un_neg pe_int) pa_nil))⟩, ?_⟩
  intro E lp v1 v2 H Q hle gd hE
  obtain ⟨dx9, l1⟩ := hle
  have hle : MoonsAt (MC K) H lp 59 2 1 := ⟨dx9, l1⟩
  walk_at "s"
  refine ⟨_, _, _, rfl, l1, rfl, ?_⟩
  walk_at "s"
  exact ⟨lp, 59, 2, 1, -1, rfl, hle, okM, fun z => absurd z (by decide), fun _ H2 e2 => hE H2 e2⟩
theorem lam_8 (T : Tx K mg base) (tk : TOk (TT K)) (A : Around) (outer : List Env) (s : Shared) (H0 : Hp) (E0 : XK) : LamGood P w K mg base (lamOf 8) A outer s H0 E0 := by
  have ok_meeting := fun T : Tx K mg base => ok_meeting (P := P) (w := w) T tk
  have ok_round_of := fun T : Tx K mg base => ok_round_of (P := P) (w := w) T tk
  have ok_day_with := fun T : Tx K mg base => ok_day_with (P := P) (w := w) T tk
  refine ⟨fun E => _, ⟨LamX.lamS_by (sc := defScope s_law_plain) (by decide +kernel), fun _ _ _ _ _ => rfl, fun A outer s H E f c' hr => (pe_meth (pv 0) T.c_Moons T.m_Moons_moon_of (ok_Moons_moon_of T) (hr.mono (by decide)) (bi_Moons_moon_of T) .nil (passes_call (takes_of rfl rfl rfl rfl) fun _ _ _ _ h => h) (pa_cons pe_int pa_nil))⟩, ?_⟩
  intro E lp v1 v2 H Q hle gd hE
  obtain ⟨dx9, l1⟩ := hle
  have hle : MoonsAt (MC K) H lp 59 2 1 := ⟨dx9, l1⟩
  walk_at "s"
  refine ⟨_, _, _, rfl, l1, rfl, ?_⟩
  walk_at "s"
  exact ⟨lp, 59, 2, 1, 5900001, rfl, hle, okM, fun _ z => absurd z (by decide +kernel), fun _ H2 e2 => hE H2 e2⟩
theorem lam_9 (T : Tx K mg base) (tk : TOk (TT K)) (A : Around) (outer : List Env) (s : Shared) (H0 : Hp) (E0 : XK) : LamGood P w K mg base (lamOf 9) A outer s H0 E0 := by
  have ok_meeting := fun T : Tx K mg base => ok_meeting (P := P) (w := w) T tk
  have ok_round_of := fun T : Tx K mg base => ok_round_of (P := P) (w := w) T tk
  have ok_day_with := fun T : Tx K mg base => ok_day_with (P := P) (w := w) T tk
  refine ⟨fun E => _, ⟨LamX.lamS_by (sc := defScope s_law_plain) (by decide +kernel), fun _ _ _ _ _ => rfl, fun A outer s H E f c' hr => (pe_meth (pv 0) T.c_Moons T.m_Moons_days_in (ok_Moons_days_in T) (hr.mono (by decide)) (bi_Moons_days_in T) .nil (passes_call (takes_of rfl rfl rfl rfl) fun _ _ _ _ h => h) (pa_cons pe_int pa_nil))⟩, ?_⟩
  intro E lp v1 v2 H Q hle gd hE
  obtain ⟨dx9, l1⟩ := hle
  have hle : MoonsAt (MC K) H lp 59 2 1 := ⟨dx9, l1⟩
  walk_at "s"
  refine ⟨_, _, _, rfl, l1, rfl, ?_⟩
  walk_at "s"
  exact ⟨lp, 59, 2, 1, 200000, rfl, hle, okM, fun _ z => absurd z (by decide +kernel), fun _ H2 e2 => hE H2 e2⟩
theorem lam_10 (T : Tx K mg base) (tk : TOk (TT K)) (A : Around) (outer : List Env) (s : Shared) (H0 : Hp) (E0 : XK) : LamGood P w K mg base (lamOf 10) A outer s H0 E0 := by
  have ok_meeting := fun T : Tx K mg base => ok_meeting (P := P) (w := w) T tk
  have ok_round_of := fun T : Tx K mg base => ok_round_of (P := P) (w := w) T tk
  have ok_day_with := fun T : Tx K mg base => ok_day_with (P := P) (w := w) T tk
  refine ⟨fun E => _, ⟨LamX.lamS_by (sc := defScope s_law_plain) (by decide +kernel), fun _ _ _ _ _ => rfl, fun A outer s H E f c' hr => (pe_meth (pv 0) T.c_Moons T.m_Moons_full_moon (ok_Moons_full_moon T) (hr.mono (by decide)) (bi_Moons_full_moon T) .nil (passes_call (takes_of rfl rfl rfl rfl) fun _ _ _ _ h => h) (pa_cons (pe_un un_neg pe_int) pa_nil))⟩, ?_⟩
  intro E lp v1 v2 H Q hle gd hE
  obtain ⟨dx9, l1⟩ := hle
  have hle : MoonsAt (MC K) H lp 59 2 1 := ⟨dx9, l1⟩
  walk_at "s"
  refine ⟨_, _, _, rfl, l1, rfl, ?_⟩
  walk_at "s"
  exact ⟨lp, 59, 2, 1, -1, rfl, hle, okM, fun z => absurd z (by decide), fun _ => hE _ .refl⟩
theorem lam_11 (T : Tx K mg base) (tk : TOk (TT K)) (A : Around) (outer : List Env) (s : Shared) (H0 : Hp) (E0 : XK) : LamGood P w K mg base (lamOf 11) A outer s H0 E0 := by
  have ok_meeting := fun T : Tx K mg base => ok_meeting (P := P) (w := w) T tk
  have ok_round_of := fun T : Tx K mg base => ok_round_of (P := P) (w := w) T tk
  have ok_day_with := fun T : Tx K mg base => ok_day_with (P := P) (w := w) T tk
  refine ⟨fun E => _, ⟨LamX.lamS_by (sc := defScope s_law_plain) (by decide +kernel), fun _ _ _ _ _ => rfl, fun A outer s H E f c' hr => (pe_meth (pv 0) T.c_Moons T.m_Moons_moons_in (ok_Moons_moons_in T) (hr.mono (by decide)) (bi_Moons_moons_in T) .nil (passes_call (takes_of rfl rfl rfl rfl) fun _ _ _ _ h => h) (pa_cons (pe_un un_neg pe_int) (pa_cons pe_int pa_nil)))⟩, ?_⟩
  intro E lp v1 v2 H Q hle gd hE
  obtain ⟨dx9, l1⟩ := hle
  have hle : MoonsAt (MC K) H lp 59 2 1 := ⟨dx9, l1⟩
  walk_at "s"
  refine ⟨_, _, _, rfl, l1, rfl, ?_⟩
  walk_at "s"
  exact ⟨lp, 59, 2, 1, -1, 5, rfl, hle, okM, fun z => absurd z (by decide), fun _ H2 e2 => hE H2 e2⟩
end K03

set_option Elab.async false
set_option linter.all false
set_option maxRecDepth 100000
set_option maxHeartbeats 2000000
namespace K03
open PySem PySem.Spec PyProof.Rows L2 MB
local macro_rules | `(tactic| walk_at "s") => `(tactic| repeat (first | refine ⟨_, rfl, ?_⟩ | refine ⟨_, _, rfl, rfl, ?_⟩ | refine ⟨_, _, rfl, ?_⟩ | refine ⟨rfl, ?_⟩))
variable {P : Program} {w : World} {K : PySem.W.Frag} {mg : Str → Option Value} {base : Heap}
theorem lam_12 (T : Tx K mg base) (tk : TOk (TT K)) (A : Around) (outer : List Env) (s : Shared) (H0 : Hp) (E0 : XK) : LamGood P w K mg base (lamOf 12) A outer s H0 E0 := by
  have ok_meeting := fun T : Tx K mg base => ok_meeting (P := P) (w := w) T tk
  have ok_round_of := fun T : Tx K mg base => ok_round_of (P := P) (w := w) T tk
  have ok_day_with := fun T : Tx K mg base => ok_day_with (P := P) (w := w) T tk
  refine ⟨fun E => _, ⟨LamX.lamS_by (sc := defScope s_law_plain) (by decide +kernel), fun _ _ _ _ _ => rfl, fun A outer s H E f c' hr => (pe_call (ok_meeting T) (hr.mono (by decide)) rfl T.g_meeting T.F_meeting.kp (bi_meeting T) .nil (passes_call (takes_of rfl rfl rfl rfl) fun _ _ _ _ h => h) (pa_cons (pe_lstN (T := TT K) pa_nil) pa_nil))⟩, ?_⟩
  intro E lp v1 v2 H Q hle gd hE
  obtain ⟨dx9, l1⟩ := hle
  have hle : MoonsAt (MC K) H lp 59 2 1 := ⟨dx9, l1⟩
  walk_at "s"
  refine ⟨sz, fun q Hq hq hvq eq => ?_⟩
  walk_at "s"
  have eA : Ext (TT K) No H Hq := eq
  exact ⟨q, [], rfl, ⟨[], .inl (SqL.of hvq), (cycnil).ext eq⟩, eA.gd gd, by decide, fun z => absurd z.pos (by decide), fun _ H2 e2 => hE H2 (eA.trans e2)⟩
theorem lam_13 (T : Tx K mg base) (tk : TOk (TT K)) (A : Around) (outer : List Env) (s : Shared) (H0 : Hp) (E0 : XK) : LamGood P w K mg base (lamOf 13) A outer s H0 E0 := by
  have ok_meeting := fun T : Tx K mg base => ok_meeting (P := P) (w := w) T tk
  have ok_round_of := fun T : Tx K mg base => ok_round_of (P := P) (w := w) T tk
  have ok_day_with := fun T : Tx K mg base => ok_day_with (P := P) (w := w) T tk
  refine ⟨fun E => _, ⟨LamX.lamS_by (sc := defScope s_law_plain) (by decide +kernel), fun _ _ _ _ _ => rfl, fun A outer s H E f c' hr => (pe_call (ok_meeting T) (hr.mono (by decide)) rfl T.g_meeting T.F_meeting.kp (bi_meeting T) .nil (passes_call (takes_of rfl rfl rfl rfl) fun _ _ _ _ h => h) (pa_cons (pe_lstN (T := TT K) (pa_cons (pe_tupN (T := TT K) (pa_cons pe_int (pa_cons pe_int pa_nil))) pa_nil)) pa_nil))⟩, ?_⟩
  intro E lp v1 v2 H Q hle gd hE
  obtain ⟨dx9, l1⟩ := hle
  have hle : MoonsAt (MC K) H lp 59 2 1 := ⟨dx9, l1⟩
  walk_at "s"
  refine ⟨sz, fun t0 H0 ht0 hv0 e0 => ?_⟩
  walk_at "s"
  refine ⟨sz, fun q Hq hq hvq eq => ?_⟩
  walk_at "s"
  have eA : Ext (TT K) No H Hq := (e0.trans eq)
  exact ⟨q, [(0, 0)], rfl, ⟨[t0], .inl (SqL.of hvq), ((cycsnoc (cycnil.ext e0) hv0)).ext eq⟩, eA.gd gd, by decide, fun z => absurd (z.rng (0, 0) (by simp)) (by decide), fun _ H2 e2 => hE H2 (eA.trans e2)⟩
theorem lam_14 (T : Tx K mg base) (tk : TOk (TT K)) (A : Around) (outer : List Env) (s : Shared) (H0 : Hp) (E0 : XK) : LamGood P w K mg base (lamOf 14) A outer s H0 E0 := by
  have ok_meeting := fun T : Tx K mg base => ok_meeting (P := P) (w := w) T tk
  have ok_round_of := fun T : Tx K mg base => ok_round_of (P := P) (w := w) T tk
  have ok_day_with := fun T : Tx K mg base => ok_day_with (P := P) (w := w) T tk
  refine ⟨fun E => _, ⟨LamX.lamS_by (sc := defScope s_law_plain) (by decide +kernel), fun _ _ _ _ _ => rfl, fun A outer s H E f c' hr => (pe_call (ok_meeting T) (hr.mono (by decide)) rfl T.g_meeting T.F_meeting.kp (bi_meeting T) .nil (passes_call (takes_of rfl rfl rfl rfl) fun _ _ _ _ h => h) (pa_cons (pe_lstN (T := TT K) (pa_cons (pe_tupN (T := TT K) (pa_cons pe_int (pa_cons pe_int pa_nil))) pa_nil)) pa_nil))⟩, ?_⟩
  intro E lp v1 v2 H Q hle gd hE
  obtain ⟨dx9, l1⟩ := hle
  have hle : MoonsAt (MC K) H lp 59 2 1 := ⟨dx9, l1⟩
  walk_at "s"
  refine ⟨sz, fun t0 H0 ht0 hv0 e0 => ?_⟩
  walk_at "s"
  refine ⟨sz, fun q Hq hq hvq eq => ?_⟩
  walk_at "s"
  have eA : Ext (TT K) No H Hq := (e0.trans eq)
  exact ⟨q, [(5, 5)], rfl, ⟨[t0], .inl (SqL.of hvq), ((cycsnoc (cycnil.ext e0) hv0)).ext eq⟩, eA.gd gd, by decide, fun z => absurd (z.off (5, 5) (by simp)) (by decide), fun _ H2 e2 => hE H2 (eA.trans e2)⟩
theorem lam_15 (T : Tx K mg base) (tk : TOk (TT K)) (A : Around) (outer : List Env) (s : Shared) (H0 : Hp) (E0 : XK) : LamGood P w K mg base (lamOf 15) A outer s H0 E0 := by
  have ok_meeting := fun T : Tx K mg base => ok_meeting (P := P) (w := w) T tk
  have ok_round_of := fun T : Tx K mg base => ok_round_of (P := P) (w := w) T tk
  have ok_day_with := fun T : Tx K mg base => ok_day_with (P := P) (w := w) T tk
  refine ⟨fun E => _, ⟨LamX.lamS_by (sc := defScope s_law_plain) (by decide +kernel), fun _ _ _ _ _ => rfl, fun A outer s H E f c' hr => (pe_call (ok_meeting T) (hr.mono (by decide)) rfl T.g_meeting T.F_meeting.kp (bi_meeting T) .nil (passes_call (takes_of rfl rfl rfl rfl) fun _ _ _ _ h => h) (pa_cons (pe_lstN (T := TT K) (pa_cons (pe_tupN (T := TT K) (pa_cons pe_int (pa_cons pe_int pa_nil))) pa_nil)) pa_nil))⟩, ?_⟩
  intro E lp v1 v2 H Q hle gd hE
  obtain ⟨dx9, l1⟩ := hle
  have hle : MoonsAt (MC K) H lp 59 2 1 := ⟨dx9, l1⟩
  walk_at "s"
  refine ⟨sz, fun t0 H0 ht0 hv0 e0 => ?_⟩
  walk_at "s"
  refine ⟨sz, fun q Hq hq hvq eq => ?_⟩
  walk_at "s"
  have eA : Ext (TT K) No H Hq := (e0.trans eq)
  exact ⟨q, [(5001, 0)], rfl, ⟨[t0], .inl (SqL.of hvq), ((cycsnoc (cycnil.ext e0) hv0)).ext eq⟩, eA.gd gd, by decide, fun z => absurd (z.rng (5001, 0) (by simp)) (by decide), fun _ H2 e2 => hE H2 (eA.trans e2)⟩
theorem lam_16 (T : Tx K mg base) (tk : TOk (TT K)) (A : Around) (outer : List Env) (s : Shared) (H0 : Hp) (E0 : XK) : LamGood P w K mg base (lamOf 16) A outer s H0 E0 := by
  have ok_meeting := fun T : Tx K mg base => ok_meeting (P := P) (w := w) T tk
  have ok_round_of := fun T : Tx K mg base => ok_round_of (P := P) (w := w) T tk
  have ok_day_with := fun T : Tx K mg base => ok_day_with (P := P) (w := w) T tk
  refine ⟨fun E => _, ⟨LamX.lamS_by (sc := defScope s_law_plain) (by decide +kernel), fun _ _ _ _ _ => rfl, fun A outer s H E f c' hr => (pe_call (ok_meeting T) (hr.mono (by decide)) rfl T.g_meeting T.F_meeting.kp (bi_meeting T) .nil (passes_call (takes_of rfl rfl rfl rfl) fun _ _ _ _ h => h) (pa_cons (pe_op (op_repN (T := TT K)) (pe_lstN (T := TT K) (pa_cons (pe_tupN (T := TT K) (pa_cons pe_int (pa_cons pe_int pa_nil))) pa_nil)) pe_int) pa_nil))⟩, ?_⟩
  intro E lp v1 v2 H Q hle gd hE
  obtain ⟨dx9, l1⟩ := hle
  have hle : MoonsAt (MC K) H lp 59 2 1 := ⟨dx9, l1⟩
  walk_at "s"
  refine ⟨sz, fun t0 H0 ht0 hv0 e0 => ?_⟩
  walk_at "s"
  refine ⟨sz, fun q Hq hq hvq eq => ?_⟩
  walk_at "s"
  have eA : Ext (TT K) No H Hq := (e0.trans eq)
  refine ⟨q, 7, [.ref t0], rfl, rfl, hvq, by decide, by decide, sz, fun p Hp hp hvp ep => ?_⟩
  have hR : CycT Hp (List.replicate 7 t0) (List.replicate 7 (2, 0)) := ⟨by simp, fun i t c h1 h2 => by
    have h1 := List.eq_of_mem_replicate (List.mem_of_getElem? h1)
    have h2 := List.eq_of_mem_replicate (List.mem_of_getElem? h2)
    rw [h1, h2]
    exact ep.fix _ _ (eq.fix _ _ hv0 rfl) rfl⟩
  walk_at "s"
  exact ⟨p, List.replicate 7 (2, 0), rfl, ⟨List.replicate 7 t0, .inl (SqL.of hvp), hR⟩, ep.gd (eA.gd gd), by decide, fun z => absurd z.six (by decide), fun _ H2 e2 => hE H2 ((eA.trans ep).trans e2)⟩
theorem lam_17 (T : Tx K mg base) (tk : TOk (TT K)) (A : Around) (outer : List Env) (s : Shared) (H0 : Hp) (E0 : XK) : LamGood P w K mg base (lamOf 17) A outer s H0 E0 := by
  have ok_meeting := fun T : Tx K mg base => ok_meeting (P := P) (w := w) T tk
  have ok_round_of := fun T : Tx K mg base => ok_round_of (P := P) (w := w) T tk
  have ok_day_with := fun T : Tx K mg base => ok_day_with (P := P) (w := w) T tk
  refine ⟨fun E => _, ⟨LamX.lamS_by (sc := defScope s_law_plain) (by decide +kernel), fun _ _ _ _ _ => rfl, fun A outer s H E f c' hr => (pe_call (ok_round_of T) (hr.mono (by decide)) rfl T.g_round_of T.F_round_of.kp (bi_round_of T) .nil (passes_call (takes_of rfl rfl rfl rfl) fun _ _ _ _ h => h) (pa_cons pe_int (pa_cons (pe_lstN (T := TT K) pa_nil) pa_nil)))⟩, ?_⟩
  intro E lp v1 v2 H Q hle gd hE
  obtain ⟨dx9, l1⟩ := hle
  have hle : MoonsAt (MC K) H lp 59 2 1 := ⟨dx9, l1⟩
  walk_at "s"
  refine ⟨sz, fun q Hq hq hvq eq => ?_⟩
  walk_at "s"
  have eA : Ext (TT K) No H Hq := eq
  exact ⟨1, q, [], rfl, ⟨[], .inl (SqL.of hvq), (cycnil).ext eq⟩, eA.gd gd, by decide, fun z => absurd z.pos (by decide), fun _ H2 e2 => hE H2 (eA.trans e2)⟩
theorem lam_18 (T : Tx K mg base) (tk : TOk (TT K)) (A : Around) (outer : List Env) (s : Shared) (H0 : Hp) (E0 : XK) : LamGood P w K mg base (lamOf 18) A outer s H0 E0 := by
  have ok_meeting := fun T : Tx K mg base => ok_meeting (P := P) (w := w) T tk
  have ok_round_of := fun T : Tx K mg base => ok_round_of (P := P) (w := w) T tk
  have ok_day_with := fun T : Tx K mg base => ok_day_with (P := P) (w := w) T tk
  refine ⟨fun E => _, ⟨LamX.lamS_by (sc := defScope s_law_plain) (by decide +kernel), fun _ _ _ _ _ => rfl, fun A outer s H E f c' hr => (pe_call (ok_day_with T) (hr.mono (by decide)) rfl T.g_day_with T.F_day_with.kp (bi_day_with T) .nil (passes_call (takes_of rfl rfl rfl rfl) fun _ _ _ _ h => h) (pa_cons (pe_lstN (T := TT K) (pa_cons pe_int pa_nil)) (pa_cons (pe_lstN (T := TT K) pa_nil) pa_nil)))⟩, ?_⟩
  intro E lp v1 v2 H Q hle gd hE
  obtain ⟨dx9, l1⟩ := hle
  have hle : MoonsAt (MC K) H lp 59 2 1 := ⟨dx9, l1⟩
  walk_at "s"
  refine ⟨sz, fun tp Hp0 htp hvp ep => ?_⟩
  walk_at "s"
  refine ⟨sz, fun q Hq hq hvq eq => ?_⟩
  walk_at "s"
  have eA : Ext (TT K) No H Hq := ep.trans eq
  have eB : Ext (TT K) No Hp0 Hq := eq
  refine ⟨tp, q, [1], [], rfl, .inl (SqL.of (eB.lst _ _ hvp id)), ⟨[], .inl (SqL.of hvq), (cycnil).ext eq⟩, eA.gd gd, by decide, fun a b => absurd (⟨a, b⟩ : DV [1] [] ∧ CV []) (fun z => absurd z.1.1 (by decide)), fun _ H2 e2 => hE H2 (eA.trans e2)⟩
theorem lam_19 (T : Tx K mg base) (tk : TOk (TT K)) (A : Around) (outer : List Env) (s : Shared) (H0 : Hp) (E0 : XK) : LamGood P w K mg base (lamOf 19) A outer s H0 E0 := by
  have ok_meeting := fun T : Tx K mg base => ok_meeting (P := P) (w := w) T tk
  have ok_round_of := fun T : Tx K mg base => ok_round_of (P := P) (w := w) T tk
  have ok_day_with := fun T : Tx K mg base => ok_day_with (P := P) (w := w) T tk
  refine ⟨fun E => _, ⟨LamX.lamS_by (sc := defScope s_law_plain) (by decide +kernel), fun _ _ _ _ _ => rfl, fun A outer s H E f c' hr => (pe_call (ok_day_with T) (hr.mono (by decide)) rfl T.g_day_with T.F_day_with.kp (bi_day_with T) .nil (passes_call (takes_of rfl rfl rfl rfl) fun _ _ _ _ h => h) (pa_cons (pe_lstN (T := TT K) (pa_cons pe_int pa_nil)) (pa_cons (pe_lstN (T := TT K) (pa_cons (pe_tupN (T := TT K) (pa_cons pe_int (pa_cons pe_int pa_nil))) pa_nil)) pa_nil)))⟩, ?_⟩
  intro E lp v1 v2 H Q hle gd hE
  obtain ⟨dx9, l1⟩ := hle
  have hle : MoonsAt (MC K) H lp 59 2 1 := ⟨dx9, l1⟩
  walk_at "s"
  refine ⟨sz, fun tp Hp0 htp hvp ep => ?_⟩
  walk_at "s"
  refine ⟨sz, fun t0 H0 ht0 hv0 e0 => ?_⟩
  walk_at "s"
  refine ⟨sz, fun q Hq hq hvq eq => ?_⟩
  walk_at "s"
  have eA : Ext (TT K) No H Hq := ep.trans (e0.trans eq)
  have eB : Ext (TT K) No Hp0 Hq := e0.trans eq
  refine ⟨tp, q, [5], [(5, 0)], rfl, .inl (SqL.of (eB.lst _ _ hvp id)), ⟨[t0], .inl (SqL.of hvq), ((cycsnoc (cycnil.ext e0) hv0)).ext eq⟩, eA.gd gd, by decide, fun a b => absurd (⟨a, b⟩ : DV [5] [(5, 0)] ∧ CV [(5, 0)]) (fun z => absurd (z.1.2 0 5 (5, 0) rfl rfl) (by decide)), fun _ H2 e2 => hE H2 (eA.trans e2)⟩
theorem lam_20 (T : Tx K mg base) (tk : TOk (TT K)) (A : Around) (outer : List Env) (s : Shared) (H0 : Hp) (E0 : XK) : LamGood P w K mg base (lamOf 20) A outer s H0 E0 := by
  have ok_meeting := fun T : Tx K mg base => ok_meeting (P := P) (w := w) T tk
  have ok_round_of := fun T : Tx K mg base => ok_round_of (P := P) (w := w) T tk
  have ok_day_with := fun T : Tx K mg base => ok_day_with (P := P) (w := w) T tk
  refine ⟨fun E => _, ⟨LamX.lamS_by (sc := defScope s_law_plain) (by decide +kernel), fun _ _ _ _ _ => rfl, fun A outer s H E f c' hr => (pe_call (ok_best_match T) (hr.mono (by decide)) rfl T.g_best_match T.F_best_match.kp (bi_best_match T) .nil (passes_call (takes_of rfl rfl rfl rfl) fun _ _ _ _ h => h) (pa_cons pe_int (pa_cons pe_int (pa_cons pe_int pa_nil))))⟩, ?_⟩
  intro E lp v1 v2 H Q hle gd hE
  obtain ⟨dx9, l1⟩ := hle
  have hle : MoonsAt (MC K) H lp 59 2 1 := ⟨dx9, l1⟩
  walk_at "s"
  exact ⟨0, 1, 1, rfl, by decide, by decide, fun z => absurd z (by unfold bmOk; decide), fun _ => hE _ .refl⟩
theorem lam_21 (T : Tx K mg base) (tk : TOk (TT K)) (A : Around) (outer : List Env) (s : Shared) (H0 : Hp) (E0 : XK) : LamGood P w K mg base (lamOf 21) A outer s H0 E0 := by
  have ok_meeting := fun T : Tx K mg base => ok_meeting (P := P) (w := w) T tk
  have ok_round_of := fun T : Tx K mg base => ok_round_of (P := P) (w := w) T tk
  have ok_day_with := fun T : Tx K mg base => ok_day_with (P := P) (w := w) T tk
  refine ⟨fun E => _, ⟨LamX.lamS_by (sc := defScope s_law_plain) (by decide +kernel), fun _ _ _ _ _ => rfl, fun A outer s H E f c' hr => (pe_call (ok_best_match T) (hr.mono (by decide)) rfl T.g_best_match T.F_best_match.kp (bi_best_match T) .nil (passes_call (takes_of rfl rfl rfl rfl) fun _ _ _ _ h => h) (pa_cons pe_int (pa_cons pe_int (pa_cons pe_int pa_nil))))⟩, ?_⟩
  intro E lp v1 v2 H Q hle gd hE
  obtain ⟨dx9, l1⟩ := hle
  have hle : MoonsAt (MC K) H lp 59 2 1 := ⟨dx9, l1⟩
  walk_at "s"
  exact ⟨1, 0, 1, rfl, by decide, by decide, fun z => absurd z (by unfold bmOk; decide), fun _ => hE _ .refl⟩
theorem lam_22 (T : Tx K mg base) (tk : TOk (TT K)) (A : Around) (outer : List Env) (s : Shared) (H0 : Hp) (E0 : XK) : LamGood P w K mg base (lamOf 22) A outer s H0 E0 := by
  have ok_meeting := fun T : Tx K mg base => ok_meeting (P := P) (w := w) T tk
  have ok_round_of := fun T : Tx K mg base => ok_round_of (P := P) (w := w) T tk
  have ok_day_with := fun T : Tx K mg base => ok_day_with (P := P) (w := w) T tk
  refine ⟨fun E => _, ⟨LamX.lamS_by (sc := defScope s_law_plain) (by decide +kernel), fun _ _ _ _ _ => rfl, fun A outer s H E f c' hr => (pe_call (ok_best_match T) (hr.mono (by decide)) rfl T.g_best_match T.F_best_match.kp (bi_best_match T) .nil (passes_call (takes_of rfl rfl rfl rfl) fun _ _ _ _ h => h) (pa_cons pe_int (pa_cons pe_int (pa_cons pe_int pa_nil))))⟩, ?_⟩
  intro E lp v1 v2 H Q hle gd hE
  obtain ⟨dx9, l1⟩ := hle
  have hle : MoonsAt (MC K) H lp 59 2 1 := ⟨dx9, l1⟩
  walk_at "s"
  exact ⟨1, 1, 0, rfl, by decide, by decide, fun z => absurd z (by unfold bmOk; decide), fun _ => hE _ .refl⟩
theorem lam_23 (T : Tx K mg base) (tk : TOk (TT K)) (A : Around) (outer : List Env) (s : Shared) (H0 : Hp) (E0 : XK) : LamGood P w K mg base (lamOf 23) A outer s H0 E0 := by
  have ok_meeting := fun T : Tx K mg base => ok_meeting (P := P) (w := w) T tk
  have ok_round_of := fun T : Tx K mg base => ok_round_of (P := P) (w := w) T tk
  have ok_day_with := fun T : Tx K mg base => ok_day_with (P := P) (w := w) T tk
  refine ⟨fun E => _, ⟨LamX.lamS_by (sc := defScope s_law_plain) (by decide +kernel), fun _ _ _ _ _ => rfl, fun A outer s H E f c' hr => (pe_call (ok_best_match T) (hr.mono (by decide)) rfl T.g_best_match T.F_best_match.kp (bi_best_match T) .nil (passes_call (takes_of rfl rfl rfl rfl) fun _ _ _ _ h => h) (pa_cons pe_int (pa_cons pe_int (pa_cons pe_int pa_nil))))⟩, ?_⟩
  intro E lp v1 v2 H Q hle gd hE
  obtain ⟨dx9, l1⟩ := hle
  have hle : MoonsAt (MC K) H lp 59 2 1 := ⟨dx9, l1⟩
  walk_at "s"
  exact ⟨1, 1, 2001, rfl, by decide, by decide, fun z => absurd z (by unfold bmOk; decide), fun _ => hE _ .refl⟩
end K03

set_option Elab.async false
set_option linter.all false
set_option maxRecDepth 100000
set_option maxHeartbeats 2000000
namespace K03
open PySem PySem.Spec PyProof.Rows L2 MB
local macro_rules | `(tactic| walk_at "s") => `(tactic| repeat (first | refine ⟨_, rfl, ?_⟩ | refine ⟨_, _, rfl, rfl, ?_⟩ | refine ⟨_, _, rfl, ?_⟩ | refine ⟨rfl, ?_⟩))
variable {P : Program} {w : World} {K : PySem.W.Frag} {mg : Str → Option Value} {base : Heap}
theorem lamAll (T : Tx K mg base) (tk : TOk (TT K)) (A : Around) (outer : List Env) (s : Shared) (H0 : Hp) (E0 : XK) : ∀ i, i < 24 → LamGood P w K mg base (lamOf i) A outer s H0 E0
  | 0, _ => lam_0 T tk A outer s H0 E0
  | 1, _ => lam_1 T tk A outer s H0 E0
  | 2, _ => lam_2 T tk A outer s H0 E0
  | 3, _ => lam_3 T tk A outer s H0 E0
  | 4, _ => lam_4 T tk A outer s H0 E0
  | 5, _ => lam_5 T tk A outer s H0 E0
  | 6, _ => lam_6 T tk A outer s H0 E0
  | 7, _ => lam_7 T tk A outer s H0 E0
  | 8, _ => lam_8 T tk A outer s H0 E0
  | 9, _ => lam_9 T tk A outer s H0 E0
  | 10, _ => lam_10 T tk A outer s H0 E0
  | 11, _ => lam_11 T tk A outer s H0 E0
  | 12, _ => lam_12 T tk A outer s H0 E0
  | 13, _ => lam_13 T tk A outer s H0 E0
  | 14, _ => lam_14 T tk A outer s H0 E0
  | 15, _ => lam_15 T tk A outer s H0 E0
  | 16, _ => lam_16 T tk A outer s H0 E0
  | 17, _ => lam_17 T tk A outer s H0 E0
  | 18, _ => lam_18 T tk A outer s H0 E0
  | 19, _ => lam_19 T tk A outer s H0 E0
  | 20, _ => lam_20 T tk A outer s H0 E0
  | 21, _ => lam_21 T tk A outer s H0 E0
  | 22, _ => lam_22 T tk A outer s H0 E0
  | 23, _ => lam_23 T tk A outer s H0 E0
  | n + 24, h => by omega
def tOf (T : Tx K mg base) (tk : TOk (TT K)) (A : Around) (outer : List Env) (s : Shared) (H0 : Hp) (E0 : XK) (P : Program) (w : World) (i : Nat) : XK → TE :=
  if h : i < 24 then (lamAll (P := P) (w := w) T tk A outer s H0 E0 i h).choose else fun _ => tC .non
def KLs (T : Tx K mg base) (tk : TOk (TT K)) (A : Around) (outer : List Env) (s : Shared) (H0 : Hp) (E0 : XK) (P : Program) (w : World) : List (ML.LamD × (XK → TE)) :=
  (List.range 24).map fun i => (lamOf i, tOf T tk A outer s H0 E0 P w i)
theorem kl_ok (T : Tx K mg base) (tk : TOk (TT K)) (A : Around) (outer : List Env) (s : Shared) (H0 : Hp) (E0 : XK) : ∀ L t, (L, t) ∈ KLs T tk A outer s H0 E0 P w → ML.LamT (plainX P w K mg base A outer s H0 E0) 20 L t := by
  intro L t h
  obtain ⟨i, hi, e⟩ := List.mem_map.mp h
  have hi : i < 24 := by simpa using hi
  unfold tOf at e
  rw [dif_pos hi] at e
  cases e
  exact (lamAll (P := P) (w := w) T tk A outer s H0 E0 i hi).choose_spec.1
def lamsTA (Pt : Addr) (Tl : List (Addr × Str)) (cells : List (Str × Addr)) (q : Str) : List ML.LamD → TA
  | [] => tNil
  | L :: r => tCons (ML.tLamV Pt Tl cells q L) (lamsTA Pt Tl cells q r)
def LamsAt (cells : List (Str × Addr)) (q : Str) (H : Hp) (fs : List Addr) (Ls : List ML.LamD) : Prop :=
  fs.length = Ls.length ∧ ∀ (i : Nat) (f : Addr) (L : ML.LamD), fs[i]? = some f → Ls[i]? = some L → ∃ c', H f = some (ML.LamO cells q L c' f) ∧ H c' = some (LamX.CodeO c' q)
theorem lamO_fix {cells : List (Str × Addr)} {q : Str} {L : ML.LamD} {c' f : Addr} : fixB (ML.LamO cells q L c' f) = true := by unfold ML.LamO; rfl
theorem codeO_fix {c' : Addr} {q : Str} : fixB (LamX.CodeO c' q) = true := by unfold LamX.CodeO; rfl
theorem LamsAt.ext {cells : List (Str × Addr)} {q : Str} {T : Tb} {M : Addr → Prop} {H H' : Hp} {fs : List Addr} {Ls : List ML.LamD} (h : LamsAt cells q H fs Ls) (e : Ext T M H H') : LamsAt cells q H' fs Ls :=
  ⟨h.1, fun i f L h1 h2 => let ⟨c', a, b⟩ := h.2 i f L h1 h2; ⟨c', e.fix _ _ a lamO_fix, e.fix _ _ b codeO_fix⟩⟩
theorem lamsTA_ok {Pt : Addr} {cells : List (Str × Addr)} {q : Str} (hP : ∀ p ∈ (TT K).gen, p ≠ Pt) (σ : L2.St) : ∀ (Ls : List ML.LamD) (H : Hp) (R : List V → Hp → Prop), Gd (TT K) H →
    (∀ fs H', Ext (TT K) No H H' → LamsAt cells q H' fs Ls → R (fs.map V.ref) H') → lamsTA Pt (TT K).lam cells q Ls σ H R
  | [], H, R, _, h => h [] H .refl ⟨rfl, fun _ _ _ z => by simp at z⟩
  | L :: Ls, H, R, gd, h => by
    refine ⟨gd.2, fun f c' H1 hE hPp hL hf hf1 hc1 => ?_⟩
    have e1 : Ext (TT K) No H H1 := Ext.lamM hP hE hPp hL
    refine lamsTA_ok hP σ Ls H1 _ (e1.gd gd) fun fs H2 e2 hfs => ?_
    refine h (f :: fs) H2 (e1.trans e2) ⟨by simp [hfs.1], fun i g L' h1 h2 => ?_⟩
    cases i with
    | zero =>
      cases h1
      cases h2
      exact ⟨c', e2.fix _ _ hf1 lamO_fix, e2.fix _ _ hc1 codeO_fix⟩
    | succ i => exact hfs.2 i g L' (by simpa using h1) (by simpa using h2)
end K03

set_option Elab.async false
set_option linter.all false
set_option maxRecDepth 100000
set_option maxHeartbeats 2000000
namespace K03
open PySem PySem.Spec PyProof.Rows L2 MB
local macro_rules | `(tactic| walk_at "s") => `(tactic| repeat (first | refine ⟨_, rfl, ?_⟩ | refine ⟨_, _, rfl, rfl, ?_⟩ | refine ⟨_, _, rfl, ?_⟩ | refine ⟨rfl, ?_⟩))
variable {P : Program} {w : World} {K : PySem.W.Frag} {mg : Str → Option Value} {base : Heap}
theorem plain_S1 (T : Tx K mg base) (A : Around) (outer : List Env) (s : Shared) (H0 : Hp) (E0 : XK) :
    PS (plainX P w K mg base A outer s H0 E0) (plainBody.getD 1 (.Pass ⟨0, 0, 0, 0⟩)) (tAsg (tLstN (TT K) (lamsTA (He.cT K ("_law_plain", none)).2 (TT K).lam (plainX P w K mg base A outer s H0 E0).env.cells ((plainX P w K mg base A outer s H0 E0).env.qual ++ "<lambda>") ((List.range 24).map lamOf))) (gName 1)) := (ps_set (i := 1) sc_law_plain.nd rfl (Or.inl rfl) (pe_lstN (T := TT K) (pa_cons (ML.pe_lamV (T := (TT K).lam) (c := (He.cT K ("_law_plain", none)).1) (P := (He.cT K ("_law_plain", none)).2) ⟨T.tb_law_plain.code, T.tb_law_plain.bm, T.tb_law_plain.gP⟩ rfl List.mem_cons_self (fun p hp _ => by rw [List.mem_singleton.mp hp]; rfl) rfl (LamX.lamS_by (sc := defScope s_law_plain) (by decide +kernel))) (pa_cons (ML.pe_lamV (T := (TT K).lam) (c := (He.cT K ("_law_plain", none)).1) (P := (He.cT K ("_law_plain", none)).2) ⟨T.tb_law_plain.code, T.tb_law_plain.bm, T.tb_law_plain.gP⟩ rfl List.mem_cons_self (fun p hp _ => by rw [List.mem_singleton.mp hp]; rfl) rfl (LamX.lamS_by (sc := defScope s_law_plain) (by decide +kernel))) (pa_cons (ML.pe_lamV (T := (TT K).lam) (c := (He.cT K ("_law_plain", none)).1) (P := (He.cT K ("_law_plain", none)).2) ⟨T.tb_law_plain.code, T.tb_law_plain.bm, T.tb_law_plain.gP⟩ rfl List.mem_cons_self (fun p hp _ => by rw [List.mem_singleton.mp hp]; rfl) rfl (LamX.lamS_by (sc := defScope s_law_plain) (by decide +kernel))) (pa_cons (ML.pe_lamV (T := (TT K).lam) (c := (He.cT K ("_law_plain", none)).1) (P := (He.cT K ("_law_plain", none)).2) ⟨T.tb_law_plain.code, T.tb_law_plain.bm, T.tb_law_plain.gP⟩ rfl List.mem_cons_self (fun p hp _ => by rw [List.mem_singleton.mp hp]; rfl) rfl (LamX.lamS_by (sc := defScope s_law_plain) (by decide +kernel))) (pa_cons (ML.pe_lamV (T := (TT K).lam) (c := (He.cT K ("_law_plain", none)).1) (P := (He.cT K ("_law_plain", none)).2) ⟨T.tb_law_plain.code, T.tb_law_plain.bm, T.tb_law_plain.gP⟩ rfl List.mem_cons_self (fun p hp _ => by rw [List.mem_singleton.mp hp]; rfl) rfl (LamX.lamS_by (sc := defScope s_law_plain) (by decide +kernel))) (pa_cons (ML.pe_lamV (T := (TT K).lam) (c := (He.cT K ("_law_plain", none)).1) (P := (He.cT K ("_law_plain", none)).2) ⟨T.tb_law_plain.code, T.tb_law_plain.bm, T.tb_law_plain.gP⟩ rfl List.mem_cons_self (fun p hp _ => by rw [List.mem_singleton.mp hp]; rfl) rfl (LamX.lamS_by (sc := defScope s_law_plain) (by decide +kernel))) (pa_cons (ML.pe_lamV (T := (TT K).lam) (c := (He.cT K ("_law_plain", none)).1) (P := (He.cT K ("_law_plain", none)).2) ⟨T.tb_law_plain.code, T.tb_law_plain.bm, T.tb_law_plain.gP⟩ rfl List.mem_cons_self (fun p hp _ => by rw [List.mem_singleton.mp hp]; rfl) rfl (LamX.lamS_by (sc := defScope s_law_plain) (by decide +kernel))) (pa_cons (ML.pe_lamV (T := (TT K).lam) (c := (He.cT K ("_law_plain", none)).1) (P := (He.cT K ("_law_plain", none)).2) ⟨T.tb_law_plain.code, T.tb_law_plain.bm, T.tb_law_plain.gP⟩ rfl List.mem_cons_self (fun p hp _ => by rw [List.mem_singleton.mp hp]; rfl) rfl (LamX.lamS_by (sc := defScope s_law_plain) (by decide +kernel))) (pa_cons (ML.pe_lamV (T := (TT K).lam) (c := (He.cT K ("_law_plain", none)).1) (P := (He.cT K ("_law_plain", none)).2) ⟨T.tb_law_plain.code, T.tb_law_plain.bm, T.tb_law_plain.gP⟩ rfl List.mem_cons_self (fun p hp _ => by rw [List.mem_singleton.mp hp]; rfl) rfl (LamX.lamS_by (sc := defScope s_law_plain) (by decide +kernel))) (pa_cons (ML.pe_lamV (T := (TT K).lam) (c := (He.cT K ("_law_plain", none)).1) (P := (He.cT K ("_law_plain", none)).2) ⟨T.tb_law_plain.code, T.tb_law_plain.bm, T.tb_law_plain.gP⟩ rfl List.mem_cons_self (fun p hp _ => by rw [List.mem_singleton.mp hp]; rfl) rfl (LamX.lamS_by (sc := defScope s_law_plain) (by decide +kernel))) (pa_cons (ML.pe_lamV (T := (TT K).lam) (c := (He.cT K ("_law_plain", none)).1) (P := (He.cT K ("_law_plain", none)).2) ⟨T.tb_law_plain.code, T.tb_law_plain.bm, T.tb_law_plain.gP⟩ rfl List.mem_cons_self (fun p hp _ => by rw [List.mem_singleton.mp hp]; rfl) rfl (LamX.lamS_by (sc := defScope s_law_plain) (by decide +kernel))) (pa_cons (ML.pe_lamV (T := (TT K).lam) (c := (He.cT K ("_law_plain", none)).1) (P := (He.cT K ("_law_plain", none)).2) ⟨T.tb_law_plain.code, T.tb_law_plain.bm, T.tb_law_plain.gP⟩ rfl List.mem_cons_self (fun p hp _ => by rw [List.mem_singleton.mp hp]; rfl) rfl (LamX.lamS_by (sc := defScope s_law_plain) (by decide +kernel))) (pa_cons (ML.pe_lamV (T := (TT K).lam) (c := (He.cT K ("_law_plain", none)).1) (P := (He.cT K ("_law_plain", none)).2) ⟨T.tb_law_plain.code, T.tb_law_plain.bm, T.tb_law_plain.gP⟩ rfl List.mem_cons_self (fun p hp _ => by rw [List.mem_singleton.mp hp]; rfl) rfl (LamX.lamS_by (sc := defScope s_law_plain) (by decide +kernel))) (pa_cons (ML.pe_lamV (T := (TT K).lam) (c := (He.cT K ("_law_plain", none)).1) (P := (He.cT K ("_law_plain", none)).2) ⟨T.tb_law_plain.code, T.tb_law_plain.bm, T.tb_law_plain.gP⟩ rfl List.mem_cons_self (fun p hp _ => by rw [List.mem_singleton.mp hp]; rfl) rfl (LamX.lamS_by (sc := defScope s_law_plain) (by decide +kernel))) (pa_cons (ML.pe_lamV (T := (TT K).lam) (c := (He.cT K ("_law_plain", none)).1) (P := (He.cT K ("_law_plain", none)).2) ⟨T.tb_law_plain.code, T.tb_law_plain.bm, T.tb_law_plain.gP⟩ rfl List.mem_cons_self (fun p hp _ => by rw [List.mem_singleton.mp hp]; rfl) rfl (LamX.lamS_by (sc := defScope s_law_plain) (by decide +kernel))) (pa_cons (ML.pe_lamV (T := (TT K).lam) (c := (He.cT K ("_law_plain", none)).1) (P := (He.cT K ("_law_plain", none)).2) ⟨T.tb_law_plain.code, T.tb_law_plain.bm, T.tb_law_plain.gP⟩ rfl List.mem_cons_self (fun p hp _ => by rw [List.mem_singleton.mp hp]; rfl) rfl (LamX.lamS_by (sc := defScope s_law_plain) (by decide +kernel))) (pa_cons (ML.pe_lamV (T := (TT K).lam) (c := (He.cT K ("_law_plain", none)).1) (P := (He.cT K ("_law_plain", none)).2) ⟨T.tb_law_plain.code, T.tb_law_plain.bm, T.tb_law_plain.gP⟩ rfl List.mem_cons_self (fun p hp _ => by rw [List.mem_singleton.mp hp]; rfl) rfl (LamX.lamS_by (sc := defScope s_law_plain) (by decide +kernel))) (pa_cons (ML.pe_lamV (T := (TT K).lam) (c := (He.cT K ("_law_plain", none)).1) (P := (He.cT K ("_law_plain", none)).2) ⟨T.tb_law_plain.code, T.tb_law_plain.bm, T.tb_law_plain.gP⟩ rfl List.mem_cons_self (fun p hp _ => by rw [List.mem_singleton.mp hp]; rfl) rfl (LamX.lamS_by (sc := defScope s_law_plain) (by decide +kernel))) (pa_cons (ML.pe_lamV (T := (TT K).lam) (c := (He.cT K ("_law_plain", none)).1) (P := (He.cT K ("_law_plain", none)).2) ⟨T.tb_law_plain.code, T.tb_law_plain.bm, T.tb_law_plain.gP⟩ rfl List.mem_cons_self (fun p hp _ => by rw [List.mem_singleton.mp hp]; rfl) rfl (LamX.lamS_by (sc := defScope s_law_plain) (by decide +kernel))) (pa_cons (ML.pe_lamV (T := (TT K).lam) (c := (He.cT K ("_law_plain", none)).1) (P := (He.cT K ("_law_plain", none)).2) ⟨T.tb_law_plain.code, T.tb_law_plain.bm, T.tb_law_plain.gP⟩ rfl List.mem_cons_self (fun p hp _ => by rw [List.mem_singleton.mp hp]; rfl) rfl (LamX.lamS_by (sc := defScope s_law_plain) (by decide +kernel))) (pa_cons (ML.pe_lamV (T := (TT K).lam) (c := (He.cT K ("_law_plain", none)).1) (P := (He.cT K ("_law_plain", none)).2) ⟨T.tb_law_plain.code, T.tb_law_plain.bm, T.tb_law_plain.gP⟩ rfl List.mem_cons_self (fun p hp _ => by rw [List.mem_singleton.mp hp]; rfl) rfl (LamX.lamS_by (sc := defScope s_law_plain) (by decide +kernel))) (pa_cons (ML.pe_lamV (T := (TT K).lam) (c := (He.cT K ("_law_plain", none)).1) (P := (He.cT K ("_law_plain", none)).2) ⟨T.tb_law_plain.code, T.tb_law_plain.bm, T.tb_law_plain.gP⟩ rfl List.mem_cons_self (fun p hp _ => by rw [List.mem_singleton.mp hp]; rfl) rfl (LamX.lamS_by (sc := defScope s_law_plain) (by decide +kernel))) (pa_cons (ML.pe_lamV (T := (TT K).lam) (c := (He.cT K ("_law_plain", none)).1) (P := (He.cT K ("_law_plain", none)).2) ⟨T.tb_law_plain.code, T.tb_law_plain.bm, T.tb_law_plain.gP⟩ rfl List.mem_cons_self (fun p hp _ => by rw [List.mem_singleton.mp hp]; rfl) rfl (LamX.lamS_by (sc := defScope s_law_plain) (by decide +kernel))) (pa_cons (ML.pe_lamV (T := (TT K).lam) (c := (He.cT K ("_law_plain", none)).1) (P := (He.cT K ("_law_plain", none)).2) ⟨T.tb_law_plain.code, T.tb_law_plain.bm, T.tb_law_plain.gP⟩ rfl List.mem_cons_self (fun p hp _ => by rw [List.mem_singleton.mp hp]; rfl) rfl (LamX.lamS_by (sc := defScope s_law_plain) (by decide +kernel))) pa_nil))))))))))))))))))))))))))
end K03

set_option Elab.async false
set_option linter.all false
set_option maxRecDepth 100000
set_option maxHeartbeats 2000000
namespace K03
open PySem PySem.Spec PyProof.Rows L2 MB
local macro_rules | `(tactic| walk_at "s") => `(tactic| repeat (first | refine ⟨_, rfl, ?_⟩ | refine ⟨_, _, rfl, rfl, ?_⟩ | refine ⟨_, _, rfl, ?_⟩ | refine ⟨rfl, ?_⟩))
variable {P : Program} {w : World} {K : PySem.W.Frag} {mg : Str → Option Value} {base : Heap}
theorem ok_law_plain (T : Tx K mg base) (tk : TOk (TT K)) : FnOk P w K mg base (L2.CX P w) 30 (He.fAd K ("_law_plain", none)) T.fd_law_plain [] (spPlain K) := by
  obtain ⟨oc, od, dV, kV, doc, pm, an, cdv, ct, osl, efd, lk, hcg, hDf, _⟩ := T.F_law_told.ex
  have hbt := bi_law_told T
  rw [efd] at hbt
  rw [efd] at lk
  have ok_meeting := fun T : Tx K mg base => ok_meeting (P := P) (w := w) T tk
  have ok_round_of := fun T : Tx K mg base => ok_round_of (P := P) (w := w) T tk
  have ok_day_with := fun T : Tx K mg base => ok_day_with (P := P) (w := w) T tk
  refine MB.FunD.okC (d := ("_law_plain", none)) T.F_law_plain sc_law_plain (fun vs H Q E h => ?_) (fun A outer s H vs Q E hr h => ⟨_, (pss_cons (ps_set (i := 0) sc_law_plain.nd rfl (Or.inr rfl) (pe_make T.mk_Moons (ok_Moons_init T) (hr.mono (by decide)) rfl T.g_Moons (bi_Moons_init T) .nil (passes_call (takes_of rfl rfl rfl rfl) fun _ _ _ _ h => h) (pa_cons pe_int (pa_cons pe_int (pa_cons pe_int pa_nil)))))
 (pss_cons (plain_S1 T A outer s H E)
 (pss_cons (ps_if (PW.pt (pw_or (pt_cmpR (op_neDK (K := K) rfl hr.units) (ML.pe_lcI (tt := tTest (tOp rNe (ML.tTold (KLs T tk A outer s H E P w) (plainX P w K mg base A outer s H E).env.cells ((plainX P w K mg base A outer s H E).env.qual ++ "<lambda>") K (He.ga K "CycleError") "CycleError" 2 [2]) (tC (.str "CycleError")))) rfl sc_law_plain.nd (pi_listK (K := K) rfl (pv 1)) (blkOk_by (N := ["moons", "bad", "f"]) (sc := defScope s_law_plain) (own := [("f", 2)]) (by decide +kernel)) (fun _ _ _ _ _ => (pg_name (i := 2) sc_law_plain.nd rfl (Or.inl rfl))) (fun s3 H3 C cl fp pins σ I hfp => (show PTs _ _ (tTest (tOp rNe (fun σB HB Q => wipe σB [2] = wipe σ [2] ∧ (ML.tTold (KLs T tk A outer s H E P w) (plainX P w K mg base A outer s H E).env.cells ((plainX P w K mg base A outer s H E).env.qual ++ "<lambda>") K (He.ga K "CycleError") "CycleError" 2 [2]) σB HB Q) (tC (.str "CycleError")))) from pts_one (pt_cmpR op_ne (ML.pe_toldB (vs := [2]) I hfp (kl_ok T tk A outer s H E) (hr.mono (by decide)) rfl T.g_law_told T.F_law_told.kp lk hcg hbt sc_law_told rfl (Or.inl rfl) rfl T.g_CycleError (fun _ => rfl) rfl (Or.inl rfl)) pe_str (nomark _)))) (fun _ _ _ _ _ => pe_int)) (pe_lstN (T := TT K) pa_nil) (nomark _)) (pw_or1 (pt_cmpR op_ne (pe_glob (v := .int 200000) rfl T.i_MOST_MOONS.choose_spec ⟨_, rfl⟩) pe_int (nomark _))))) (pss_one (ps_ret pe_bl)) pss_nil)
 (pss_one (ps_ret (pe_and (pe_cmpR (op_eqDK (K := K) rfl hr.units) (pe_meth (pv 0) T.c_Moons T.m_Moons_new_moon (ok_Moons_new_moon T) (hr.mono (by decide)) (bi_Moons_new_moon T) .nil (passes_call (takes_of rfl rfl rfl rfl) fun _ _ _ _ h => h) (pa_cons pe_int pa_nil)) (pe_tupN (T := TT K) (pa_cons pe_int (pa_cons pe_int pa_nil))) (nomark _)) (pe_and (pe_cmpR (op_eqDK (K := K) rfl hr.units) (pe_meth (pv 0) T.c_Moons T.m_Moons_moon_of (ok_Moons_moon_of T) (hr.mono (by decide)) (bi_Moons_moon_of T) .nil (passes_call (takes_of rfl rfl rfl rfl) fun _ _ _ _ h => h) (pa_cons pe_int pa_nil)) (pe_tupN (T := TT K) (pa_cons pe_int (pa_cons pe_int pa_nil))) (nomark _)) (pe_and (pe_cmpR op_isN (pe_call (ok_meeting T) (hr.mono (by decide)) rfl T.g_meeting T.F_meeting.kp (bi_meeting T) .nil (passes_call (takes_of rfl rfl rfl rfl) fun _ _ _ _ h => h) (pa_cons (pe_lstN (T := TT K) (pa_cons (pe_tupN (T := TT K) (pa_cons pe_int (pa_cons pe_int pa_nil))) (pa_cons (pe_tupN (T := TT K) (pa_cons pe_int (pa_cons pe_int pa_nil))) pa_nil))) pa_nil)) pe_non (nomark _)) (pe_and (pe_cmpR (op_eqDK (K := K) rfl hr.units) (pe_call (ok_meeting T) (hr.mono (by decide)) rfl T.g_meeting T.F_meeting.kp (bi_meeting T) .nil (passes_call (takes_of rfl rfl rfl rfl) fun _ _ _ _ h => h) (pa_cons (pe_lstN (T := TT K) (pa_cons (pe_tupN (T := TT K) (pa_cons pe_int (pa_cons pe_int pa_nil))) (pa_cons (pe_tupN (T := TT K) (pa_cons pe_int (pa_cons pe_int pa_nil))) pa_nil))) pa_nil)) (pe_tupN (T := TT K) (pa_cons pe_int (pa_cons pe_int pa_nil))) (nomark _)) (pe_and (pe_cmpR (op_eqDK (K := K) rfl hr.units) (pe_call (ok_best_match T) (hr.mono (by decide)) rfl T.g_best_match T.F_best_match.kp (bi_best_match T) .nil (passes_call (takes_of rfl rfl rfl rfl) fun _ _ _ _ h => h) (pa_cons pe_int (pa_cons pe_int (pa_cons pe_int pa_nil)))) (pe_tupN (T := TT K) (pa_cons pe_int (pa_cons pe_int (pa_cons pe_int pa_nil)))) (nomark _)) (pe_and (pe_cmpR (op_eqDK (K := K) rfl hr.units) (pe_call (ok_best_match T) (hr.mono (by decide)) rfl T.g_best_match T.F_best_match.kp (bi_best_match T) .nil (passes_call (takes_of rfl rfl rfl rfl) fun _ _ _ _ h => h) (pa_cons pe_int (pa_cons pe_int (pa_cons pe_int pa_nil)))) (pe_tupN (T := TT K) (pa_cons pe_int (pa_cons pe_int (pa_cons pe_int pa_nil)))) (nomark _)) (pe_one (pe_cmpR (op_eqDK (K := K) rfl hr.units) (pe_meth (pv 0) T.c_Moons T.m_Moons_moons_in (ok_Moons_moons_in T) (hr.mono (by decide)) (bi_Moons_moons_in T) .nil (passes_call (takes_of rfl rfl rfl rfl) fun _ _ _ _ h => h) (pa_cons pe_int (pa_cons pe_int pa_nil))) (pe_tupN (T := TT K) pa_nil) (nomark _)))))))))))))), ?_⟩)
  · obtain ⟨rfl, _⟩ := h
    rfl
  · obtain ⟨rfl, gd, hQ⟩ := h
    walk_at "s"
    intro x dx hx hdx hne
    refine ⟨x, dx, 59, 2, 1, H, rfl, hx, hdx, hne, rfl, fun _ H2 le2 E2 => ?_, fun z => absurd (show MV 59 2 1 from ⟨by decide, by decide, by decide, by decide, by decide⟩) z⟩
    have le2 : MoonsAt (MC K) H2 x 59 2 1 := le2
    have gd2 := E2.gd gd
    clear hx hdx hne
    refine ⟨rfl, ?_⟩
    walk_at "s"
    have hPne : ∀ p ∈ (TT K).gen, p ≠ (He.cT K ("_law_plain", none)).2 := fun p hp => Ne.symm (tk p hp _ List.mem_cons_self)
    refine lamsTA_ok hPne _ _ _ _ gd2 fun fs H3 e3 hfs => ?_
    have hfl : fs.length = 24 := by rw [hfs.1]; rfl
    refine ⟨sz (by rw [List.length_map, hfl]; decide), fun pb H4 hpb hvb e4 => ?_⟩
    have hfs := hfs.ext e4
    have le4 := (le2.ext e3).ext e4
    have E4 := (E2.trans e3).trans e4
    have gd4 := E4.gd gd
    clear le2 E2 gd2 e3 e4
    walk_at "s"
    refine ⟨⟨_, SqL.of hvb⟩, fun D hD => ?_⟩
    have hpD : ¬ pb = D := fun z => by rw [z, hD] at hvb; cases hvb
    refine lc_list (xs := fs.map V.ref) (fun i H5 => H5 D = some (.lst []) ∧ Ext (TT K) (· = D) H4 H5) ⟨upd_same, (Ext.new hD).no⟩ (fun i H5 _ ⟨_, e⟩ => SqL.of (e.lst _ _ hvb hpD)) ?_ ?_
    · rintro i x1 H5 hx1 ⟨h5, e5⟩
      rw [List.getElem?_map] at hx1
      cases g : fs[i]? with
      | none => rw [g] at hx1; cases hx1
      | some f =>
        rw [g] at hx1
        cases hx1
        have hi : i < 24 := by
          have := (List.getElem?_eq_some_iff.mp g).1
          omega
        have hL : ((List.range 24).map lamOf)[i]? = some (lamOf i) := by simp [hi]
        obtain ⟨c', hf, hc⟩ := hfs.2 i f (lamOf i) g hL
        walk_at "s"
        refine ⟨f, c', lamOf i, tOf T tk A outer s H E P w i, List.mem_map.mpr ⟨i, by simpa using hi, rfl⟩, rfl, e5.fix _ _ hf lamO_fix, e5.fix _ _ hc codeO_fix, ?_⟩
        have key : tOf T tk A outer s H E P w i = (lamAll (P := P) (w := w) T tk A outer s H E i hi).choose := by
          unfold tOf
          rw [dif_pos hi]
        rw [key]
        refine (lamAll (P := P) (w := w) T tk A outer s H E i hi).choose_spec.2 _ x _ _ H5 _ (le4.ext e5) (e5.gd gd4) fun H6 e6 => ⟨true, T.xm_CycleError_CycleError, fun _ => ?_, fun z => by cases z⟩
        walk_at "s"
        exact ⟨e6.lst _ _ h5 id, e5.trans e6.no⟩
    rintro H5 ⟨h5, e5⟩
    have e5n := e5.mono1 (NoM.of hD)
    walk_at "s"
    refine ⟨sz, fun l0 H6 hl0 hv0 e6 => ?_⟩
    refine ⟨.list [], .list [], .lst (SqL.of (e6.lst _ _ h5 id)) .nil, .lst (SqL.of hv0) .nil, rfl, rfl, ?_⟩
    have E6 := (E4.trans e5n).trans e6
    have le6 := (le4.ext e5n).ext e6
    have gd6 := E6.gd gd
    clear e5 e5n e6 h5 hv0 hl0 le4 E4 hfs hvb hpb hD hpD gd4
    obtain ⟨dx9, l1⟩ := le6
    have le6 : MoonsAt (MC K) H6 x 59 2 1 := ⟨dx9, l1⟩
    walk_at "s"
    refine ⟨_, _, _, rfl, l1, rfl, ?_⟩
    walk_at "s"
    refine ⟨x, 59, 2, 1, 1, rfl, le6, okM, fun _ _ t7 H7 hv7 e7 => ?_, fun z => absurd ⟨by decide, by decide⟩ z⟩
    have hv7 : H7 t7 = some (.tup [.int 30, .int 0]) := by rw [hv7]; rfl
    walk_at "s"
    refine ⟨sz, fun tz Hz htz hvz ez => ?_⟩
    refine ⟨.tuple [.int 30, .int 0], .tuple [.int 30, .int 0], .tup (SqT.of (ez.fix _ _ hv7 rfl)) (.cons (.int _) (.cons (.int _) .nil)), .tup (SqT.of hvz) (.cons (.int _) (.cons (.int _) .nil)), rfl, rfl, ?_⟩
    have E8 := (E6.trans e7).trans ez
    have le8 := (le6.ext e7).ext ez
    clear e7 ez hv7 hvz htz le6 E6 l1 gd6
    obtain ⟨dx9, l1⟩ := le8
    have le8 : MoonsAt (MC K) Hz x 59 2 1 := ⟨dx9, l1⟩
    walk_at "s"
    refine ⟨_, _, _, rfl, l1, rfl, ?_⟩
    walk_at "s"
    refine ⟨x, 59, 2, 1, 29, rfl, le8, okM, fun _ _ t7 H7 hv7 e7 => ?_, fun z => absurd ⟨by decide, by decide +kernel⟩ z⟩
    have hv7 : H7 t7 = some (.tup [.int 0, .int 29]) := by rw [hv7]; rfl
    have E9 := E8.trans e7
    have le9 := le8.ext e7
    clear e7 le8 E8 l1
    walk_at "s"
    refine ⟨sz, fun tz Hz htz hvz ez => ?_⟩
    refine ⟨.tuple [.int 0, .int 29], .tuple [.int 0, .int 29], .tup (SqT.of (ez.fix _ _ hv7 rfl)) (.cons (.int _) (.cons (.int _) .nil)), .tup (SqT.of hvz) (.cons (.int _) (.cons (.int _) .nil)), rfl, rfl, ?_⟩
    have E10 := E9.trans ez
    have le10 := le9.ext ez
    clear ez hv7 hvz htz le9 E9
    walk_at "s"
    refine ⟨sz, fun ta Ha hta hva ea => ?_⟩
    walk_at "s"
    refine ⟨sz, fun tb Hb htb hvb eb => ?_⟩
    walk_at "s"
    refine ⟨sz, fun tq Hq htq hvq eq => ?_⟩
    have E11 := ((E10.trans ea).trans eb).trans eq
    have le11 := ((le10.ext ea).ext eb).ext eq
    have hC : SeqC K Hq tq [(4, 1), (6, 2)] := ⟨[ta, tb], .inl (SqL.of hvq), (cycsnoc ((cycsnoc (cycnil.ext ea) hva).ext eb) hvb).ext eq⟩
    walk_at "s"
    refine ⟨tq, [(4, 1), (6, 2)], rfl, hC, E11.gd gd, by decide, fun cv v Hm hv em => ?_, fun z => absurd (show CV [(4, 1), (6, 2)] from ⟨by decide, by decide, by decide, by decide⟩) z⟩
    rcases hv with ⟨rfl, _⟩ | ⟨d, _, _, hs, _, _⟩
    rotate_left
    · have h1 := hs (4, 1) (by simp)
      have h2 := hs (6, 2) (by simp)
      simp only at h1 h2
      omega
    have E12 := E11.trans em
    have le12 := le11.ext em
    clear E10 E11 le10 le11 ea eb eq em hva hvb hvq hta htb htq hC cv
    walk_at "s"
    refine ⟨sz, fun ta Ha hta hva ea => ?_⟩
    walk_at "s"
    refine ⟨sz, fun tb Hb htb hvb eb => ?_⟩
    walk_at "s"
    refine ⟨sz, fun tq Hq htq hvq eq => ?_⟩
    have E13 := ((E12.trans ea).trans eb).trans eq
    have le13 := ((le12.ext ea).ext eb).ext eq
    have hC : SeqC K Hq tq [(5, 2), (7, 3)] := ⟨[ta, tb], .inl (SqL.of hvq), (cycsnoc ((cycsnoc (cycnil.ext ea) hva).ext eb) hvb).ext eq⟩
    walk_at "s"
    refine ⟨tq, [(5, 2), (7, 3)], rfl, hC, E13.gd gd, by decide, fun cv v Hm hv em => ?_, fun z => absurd (show CV [(5, 2), (7, 3)] from ⟨by decide, by decide, by decide, by decide⟩) z⟩
    have hl : MM.lcmC [(5, 2), (7, 3)] = 35 := by decide
    rcases hv with ⟨_, hno⟩ | ⟨d, t7, rfl, hs, hd, hv7⟩
    · exact absurd (show MM.sat [(5, 2), (7, 3)] 17 by unfold MM.sat; decide) (hno 17)
    have h1 := hs (5, 2) (by simp)
    have h2 := hs (7, 3) (by simp)
    simp only at h1 h2
    rw [hl] at hd hv7
    obtain rfl : d = 17 := by omega
    have hv7 : Hm t7 = some (.tup [.int 17, .int 35]) := hv7
    have E14 := E13.trans em
    have le14 := le13.ext em
    clear E12 E13 le12 le13 ea eb eq em hva hvb hvq hta htb htq hC cv hs h1 h2 hd
    walk_at "s"
    refine ⟨sz, fun tz Hz htz hvz ez => ?_⟩
    refine ⟨.tuple [.int 17, .int 35], .tuple [.int 17, .int 35], .tup (SqT.of (ez.fix _ _ hv7 rfl)) (.cons (.int _) (.cons (.int _) .nil)), .tup (SqT.of hvz) (.cons (.int _) (.cons (.int _) .nil)), rfl, rfl, ?_⟩
    have E16 := E14.trans ez
    have le16 := le14.ext ez
    clear ez hvz htz E14 le14 hv7
    walk_at "s"
    refine ⟨3, 2, 1, rfl, by decide, by decide, fun _ r t7 H7 hB hv7 e7 => ?_, fun z => absurd (show bmOk 3 2 1 by unfold bmOk; decide) z⟩
    obtain rfl : r = (1, 1, 1) := MM.best_is (one := 3) (other := 2) (m := 1) hB (by decide +kernel) (by decide) (by decide) (by decide) (by decide +kernel)
    have hv7 : H7 t7 = some (.tup [.int 1, .int 1, .int 1]) := hv7
    have E16' := E16.trans e7
    have le16' := le16.ext e7
    clear e7 E16 le16
    walk_at "s"
    refine ⟨sz, fun tz Hz htz hvz ez => ?_⟩
    refine ⟨.tuple [.int 1, .int 1, .int 1], .tuple [.int 1, .int 1, .int 1], .tup (SqT.of (ez.fix _ _ hv7 rfl)) (.cons (.int _) (.cons (.int _) (.cons (.int _) .nil))), .tup (SqT.of hvz) (.cons (.int _) (.cons (.int _) (.cons (.int _) .nil))), rfl, rfl, ?_⟩
    have E17 := E16'.trans ez
    have le17 := le16'.ext ez
    clear ez hvz htz E16' le16' hv7
    walk_at "s"
    refine ⟨12, 235, 20, rfl, by decide, by decide, fun _ r t7 H7 hB hv7 e7 => ?_, fun z => absurd (show bmOk 12 235 20 by unfold bmOk; decide) z⟩
    obtain rfl : r = (5, 20, 1) := MM.best_is (one := 12) (other := 235) (m := 20) hB (by decide +kernel) (by decide) (by decide) (by decide) (by decide +kernel)
    have hv7 : H7 t7 = some (.tup [.int 5, .int 20, .int 1]) := hv7
    have E17' := E17.trans e7
    have le17' := le17.ext e7
    clear e7 E17 le17
    walk_at "s"
    refine ⟨sz, fun tz Hz htz hvz ez => ?_⟩
    refine ⟨.tuple [.int 5, .int 20, .int 1], .tuple [.int 5, .int 20, .int 1], .tup (SqT.of (ez.fix _ _ hv7 rfl)) (.cons (.int _) (.cons (.int _) (.cons (.int _) .nil))), .tup (SqT.of hvz) (.cons (.int _) (.cons (.int _) (.cons (.int _) .nil))), rfl, rfl, ?_⟩
    have E20 := E17'.trans ez
    have le20 := le17'.ext ez
    clear ez hvz htz hv7 E17' le17'
    obtain ⟨dx9, l1⟩ := le20
    have le20 : MoonsAt (MC K) Hz x 59 2 1 := ⟨dx9, l1⟩
    walk_at "s"
    refine ⟨_, _, _, rfl, l1, rfl, ?_⟩
    walk_at "s"
    refine ⟨x, 59, 2, 1, 5, 4, rfl, le20, okM, fun _ _ _ _ t7 H7 hv7 e7 => ?_, fun z => absurd ⟨by decide, by decide +kernel, by decide, by decide +kernel⟩ z⟩
    have hv7 : H7 t7 = some (.tup []) := by rw [hv7]; rfl
    walk_at "s"
    refine ⟨sz, fun tz Hz2 htz hvz ez => ?_⟩
    refine ⟨.tuple [], .tuple [], .tup (SqT.of (ez.fix _ _ hv7 rfl)) .nil, .tup (SqT.of hvz) .nil, rfl, rfl, ?_⟩
    exact hQ _ ((E20.trans e7).trans ez)
end K03

set_option Elab.async false
set_option linter.all false
set_option maxRecDepth 100000
set_option maxHeartbeats 2000000
namespace K03
open PySem PySem.Spec PyProof.Rows L2 MB
local macro_rules | `(tactic| walk_at "s") => `(tactic| repeat (first | refine ⟨_, rfl, ?_⟩ | refine ⟨_, _, rfl, rfl, ?_⟩ | refine ⟨_, _, rfl, ?_⟩ | refine ⟨rfl, ?_⟩))
variable {P : Program} {w : World} {K : PySem.W.Frag} {mg : Str → Option Value} {base : Heap}
def lawBody : List Stmt := match defBody s_law with
  | (.For _ _ b _ _) :: _ => b
  | _ => []
def spLaw (K : PySem.W.Frag) : Sp := fun vs H Q _ => ∃ (a : Addr) (ns : List Int), vs = [.ref a] ∧ SqL K H a (ns.map V.int) ∧ Gd (TT K) H ∧ ∀ H', Q (.bl true) H'
def RowsT (H : Hp) (ts : List Addr) (rs : List MM.Tr) : Prop := ts.length = rs.length ∧ ∀ (i : Nat) (t : Addr) (r : MM.Tr), ts[i]? = some t → rs[i]? = some r → H t = some (.tup (triV r))
theorem RowsT.ext {T : Tb} {M : Addr → Prop} {H H' : Hp} {ts : List Addr} {rs : List MM.Tr} (h : RowsT H ts rs) (e : Ext T M H H') : RowsT H' ts rs := ⟨h.1, fun i t r h1 h2 => e.fix _ _ (h.2 i t r h1 h2) rfl⟩
theorem rownil {H : Hp} : RowsT H [] [] := ⟨rfl, fun _ _ _ z => by simp at z⟩
theorem rowsnoc {H : Hp} {as : List Addr} {cs : List MM.Tr} {t : Addr} {r : MM.Tr} (h : RowsT H as cs) (ht : H t = some (.tup (triV r))) : RowsT H (as ++ [t]) (cs ++ [r]) :=
  ⟨by simp [h.1], snoc_at h.1 h.2 ht⟩
theorem RowsT.app {H : Hp} {as bs : List Addr} {cs ds : List MM.Tr} (h : RowsT H as cs) (g : RowsT H bs ds) : RowsT H (as ++ bs) (cs ++ ds) := by
  refine ⟨by simp [h.1, g.1], fun i t r h1 h2 => ?_⟩
  by_cases hi : i < as.length
  · rw [List.getElem?_append_left hi] at h1
    rw [List.getElem?_append_left (h.1 ▸ hi)] at h2
    exact h.2 i t r h1 h2
  · rw [List.getElem?_append_right (by omega)] at h1
    rw [List.getElem?_append_right (by have := h.1; omega), ← h.1] at h2
    exact g.2 _ t r h1 h2
theorem RowsT.dp {H : Hp} {ts : List Addr} {rs : List MM.Tr} (h : RowsT H ts rs) : DpAll K H (ts.map V.ref) (rs.map tri) := by
  refine dpAll_get (by simp [h.1]) fun i x d h1 h2 => ?_
  rw [List.getElem?_map] at h1 h2
  cases e1 : ts[i]? with
  | none => rw [e1] at h1; cases h1
  | some t =>
    cases e2 : rs[i]? with
    | none => rw [e2] at h2; cases h2
    | some r =>
      rw [e1] at h1
      rw [e2] at h2
      cases h1
      cases h2
      exact .tup (SqT.of (h.2 i t r e1 e2)) (.cons (.int _) (.cons (.int _) (.cons (.int _) .nil)))
theorem eqv_tri (r : MM.Tr) : PyData.eqv (tri r) (tri r) = true := by
  show ((_ == _) && ((_ == _) && ((_ == _) && true))) = true
  simp
theorem mod0 {a b : Nat} : ((a : Int) % (b : Int) = 0) ↔ b ∣ a := by
  rw [← Int.natCast_emod]
  refine ⟨fun h => Nat.dvd_of_mod_eq_zero (by omega), fun h => ?_⟩
  have := Nat.mod_eq_zero_of_dvd h
  omega
theorem law_F (T : Tx K mg base) (tk : TOk (TT K)) (cdv : Value) (A : Around) (outer : List Env) (s : Shared) (H0 : Hp) (E : XK) (hr : Room 39 (A.deeper (envOfC "law" (defScope s_law) s.heap.objs.size (He.fAd K ("law", none)) cdv))) :
    ∃ t, PSs (cxOf (L2.CX P w) P w K mg base ["script", "dice", "parts", "length", "first", "moons", "number", "part", "k", "day", "last", "before", "age", "cycles", "size", "whole", "offset", "days", "one", "places", "place", "cycle", "other", "most", "rows", "ones", "others"] "law" (defScope s_law) (He.fAd K ("law", none)) cdv A outer s H0 E) (lawBody.drop 19) t ∧
      ∀ (D : Ends) (v_parts v_length v_first v_moons v_number v_part v_k v_day v_last v_before v_age v_cycles v_size v_whole v_offset v_days v_one v_places v_place v_cycle v_other v_most v_rows v_ones v_others : Option V) (a dq : Addr)  (H' : Hp), Gd (TT K) H' → DiceAt H' dq →  (∀ σ2 H2, Ext (TT K) (· = dq) H' H2 → D.nx σ2 H2) → t D [some (.ref a), some (.ref dq), v_parts, v_length, v_first, v_moons, v_number, v_part, v_k, v_day, v_last, v_before, v_age, v_cycles, v_size, v_whole, v_offset, v_days, v_one, v_places, v_place, v_cycle, v_other, v_most, v_rows, v_ones, v_others] H' := by
  have ok_meeting := fun T : Tx K mg base => ok_meeting (P := P) (w := w) T tk
  have ok_round_of := fun T : Tx K mg base => ok_round_of (P := P) (w := w) T tk
  have ok_day_with := fun T : Tx K mg base => ok_day_with (P := P) (w := w) T tk
  refine ⟨_, (pss_cons (ps_asg (pe_tupN (T := TT K) (pa_cons (pe_op op_add pe_int (pe_call (ok_law_roll T) (hr.mono (by decide)) rfl T.g_law_roll T.F_law_roll.kp (bi_law_roll T) .nil (passes_call (takes_of rfl rfl rfl rfl) fun _ _ _ _ h => h) (pa_cons (pv 1) (pa_cons pe_int pa_nil)))) (pa_cons (pe_op op_add pe_int (pe_call (ok_law_roll T) (hr.mono (by decide)) rfl T.g_law_roll T.F_law_roll.kp (bi_law_roll T) .nil (passes_call (takes_of rfl rfl rfl rfl) fun _ _ _ _ h => h) (pa_cons (pv 1) (pa_cons pe_int pa_nil)))) (pa_cons (pe_op op_add pe_int (pe_call (ok_law_roll T) (hr.mono (by decide)) rfl T.g_law_roll T.F_law_roll.kp (bi_law_roll T) .nil (passes_call (takes_of rfl rfl rfl rfl) fun _ _ _ _ h => h) (pa_cons (pv 1) (pa_cons pe_int pa_nil)))) pa_nil)))) (pg_tupK (K := K) (n := 3) rfl rfl (pgs_cons (pg_name (i := 18) sc_law.nd rfl (Or.inr rfl)) (pgs_cons (pg_name (i := 22) sc_law.nd rfl (Or.inr rfl)) (pgs_cons (pg_name (i := 23) sc_law.nd rfl (Or.inl rfl)) pgs_nil)))))
 (pss_cons (ps_set (i := 24) sc_law.nd rfl (Or.inl rfl) (pe_lstN (T := TT K) pa_nil))
 (pss_cons (ps_for (passes_of rfl) rfl (pi_range2 rfl T.b_range (pa_cons pe_int (pa_cons (pe_op op_add (pv 23) pe_int) pa_nil))) (pg_name (i := 25) sc_law.nd rfl (Or.inr rfl)) (pss_one (ps_set (i := 24) sc_law.nd rfl (Or.inl rfl) (pe_op (op_catN (T := TT K)) (pv 24) (pe_lc rfl sc_law.nd (pi_range2 rfl T.b_range (pa_cons pe_int (pa_cons (pe_op op_add (pe_op op_fdiv (pe_op op_mul (pv 25) (pv 18)) (pv 22)) pe_int) pa_nil))) (blkOk_by (N := ["script", "dice", "parts", "length", "first", "moons", "number", "part", "k", "day", "last", "before", "age", "cycles", "size", "whole", "offset", "days", "one", "places", "place", "cycle", "other", "most", "rows", "ones", "others"]) (sc := defScope s_law) (own := [("others", 26)]) (by decide +kernel)) (fun _ _ _ _ _ => (pg_name (i := 26) sc_law.nd rfl (by first | exact Or.inl rfl | exact Or.inr rfl))) (fun _ _ _ _ _ => pts_nil) (fun _ _ _ _ _ => (pe_tupN (T := TT K) (pa_cons (pe_callB call_abs rfl T.b_abs (by decide +kernel) (pa_cons (pe_op op_sub (pe_op op_mul (pv 25) (pv 18)) (pe_op op_mul (pv 26) (pv 22))) pa_nil)) (pa_cons (pv 25) (pa_cons (pv 26) pa_nil))))))))))
 (pss_one (ps_if (pt_cmpR (op_neDK (K := K) rfl hr.units) (pe_call (ok_best_match T) (hr.mono (by decide)) rfl T.g_best_match T.F_best_match.kp (bi_best_match T) .nil (passes_call (takes_of rfl rfl rfl rfl) fun _ _ _ _ h => h) (pa_cons (pv 18) (pa_cons (pv 22) (pa_cons (pv 23) pa_nil)))) (pe_callB (MB.cr_minD (K := K) rfl rfl hr.units) rfl T.b_min (by decide +kernel) (pa_cons (pv 24) pa_nil)) (nomark _)) (pss_one (ps_ret pe_bl)) pss_nil))))), ?_⟩
  intro D v_parts v_length v_first v_moons v_number v_part v_k v_day v_last v_before v_age v_cycles v_size v_whole v_offset v_days v_one v_places v_place v_cycle v_other v_most v_rows v_ones v_others a dq H' gd dice hD
  walk_at "s"
  refine ⟨dice, by decide, by decide, fun r1 H1 hr1 hd1 e1 => ?_⟩
  walk_at "s"
  refine ⟨hd1, by decide, by decide, fun r2 H2 hr2 hd2 e2 => ?_⟩
  walk_at "s"
  refine ⟨hd2, by decide, by decide, fun r3 H3 hr3 hd3 e3 => ?_⟩
  walk_at "s"
  refine ⟨sz, fun t4 H4 ht4 hv4 e4 => ?_⟩
  have f1 : (1 : Int) + (r1 : Int) = ((r1 + 1 : Nat) : Int) := by omega
  have f2 : (1 : Int) + (r2 : Int) = ((r2 + 1 : Nat) : Int) := by omega
  have f3 : (1 : Int) + (r3 : Int) = ((r3 + 1 : Nat) : Int) := by omega
  dsimp only at hv4
  rw [f1, f2, f3] at hv4
  have o1 : 1 ≤ r1 + 1 ∧ r1 + 1 ≤ 60 := by omega
  have o2 : 1 ≤ r2 + 1 ∧ r2 + 1 ≤ 60 := by omega
  have o3 : 1 ≤ r3 + 1 ∧ r3 + 1 ≤ 20 := by omega
  generalize r1 + 1 = one at hv4 o1
  generalize r2 + 1 = other at hv4 o2
  generalize r3 + 1 = most at hv4 o3
  clear f1 f2 f3 hr1 hr2 hr3
  refine ⟨_, _, rfl, SqT.of hv4, rfl, ?_⟩
  have E4 : Ext (TT K) (· = dq) H' H4 := ((e1.trans e2).trans e3).trans e4.no
  clear e1 e2 e3 e4 hd1 hd2 hd3 ht4 hv4
  walk_at "s"
  refine ⟨sz, fun l5 H5 hl5 hv5 e5 => ?_⟩
  walk_at "s"
  refine ⟨⟨by omega, by omega, by omega, by omega⟩, ?_⟩
  have hn : ((most : Int) + 1 - 1).toNat = most := by omega
  rw [hn]
  refine for_range (fun i σ2 H6 => ∃ (rl : Addr) (as : List Addr) (u v : Option V), σ2 = [some (.ref a), some (.ref dq), v_parts, v_length, v_first, v_moons, v_number, v_part, v_k, v_day, v_last, v_before, v_age, v_cycles, v_size, v_whole, v_offset, v_days, some (.int (one : Nat)), v_places, v_place, v_cycle, some (.int (other : Nat)), some (.int (most : Nat)), some (.ref rl), u, v] ∧ H6 rl = some (.lst (as.map V.ref)) ∧ RowsT H6 as (MM.rowsOf one other i) ∧ as.length ≤ i * 1300 ∧ Ext (TT K) No H4 H6) ⟨l5, [], _, _, rfl, hv5, rownil, Nat.zero_le _, e5⟩ ?_ ?_
  · rintro i σ2 H6 hi ⟨rl, as, u, v, rfl, h6, hR, hl, e6⟩
    have hi1 : (1 : Int) + (i : Int) = ((i + 1 : Nat) : Int) := by omega
    have hmul : ((i + 1 : Nat) : Int) * ((one : Nat) : Int) = ((one * (i + 1) : Nat) : Int) := by rw [Int.natCast_mul, Int.mul_comm]
    have hml : one * (i + 1) ≤ 60 * 20 := Nat.mul_le_mul o1.2 (by omega)
    have hdv : one * (i + 1) / other ≤ 60 * 20 := Nat.le_trans (Nat.div_le_self _ _) hml
    walk_at "s"
    rw [hi1]
    refine ⟨.inl ⟨by omega, by omega⟩, ?_⟩
    walk_at "s"
    refine ⟨⟨by omega, by omega⟩, ?_⟩
    walk_at "s"
    rw [hmul, ← Int.natCast_ediv]
    generalize hdvE : one * (i + 1) / other = dv at hdv ⊢
    refine ⟨⟨by omega, by omega, by omega, by omega⟩, fun D1 hD1 => ?_⟩
    have hn2 : (((dv : Nat) : Int) + 3 - 1).toNat = dv + 2 := by omega
    rw [hn2]
    have hrl : ¬ rl = D1 := fun z => by rw [z, hD1] at h6; cases h6
    refine lc_range (fun j H7 => ∃ bs : List Addr, H7 D1 = some (.lst (bs.map V.ref)) ∧ RowsT H7 bs ((List.range j).map fun j => MM.row one other (i + 1) (j + 1)) ∧ Ext (TT K) (· = D1) H6 H7) ⟨[], upd_same, rownil, (Ext.new hD1).no⟩ ?_ ?_
    · rintro j H7 hj ⟨bs, h7, hB, e7⟩
      have hj1 : (1 : Int) + (j : Int) = ((j + 1 : Nat) : Int) := by omega
      walk_at "s"
      rw [hj1]
      refine ⟨.inr ⟨by omega, by omega⟩, ?_⟩
      walk_at "s"
      refine ⟨.inr ⟨by omega, by omega⟩, ?_⟩
      walk_at "s"
      refine ⟨sz, fun t8 H8 ht8 hv8 e8 => ?_⟩
      have hoff : (((i + 1 : Nat) : Int) * ((one : Nat) : Int) - ((j + 1 : Nat) : Int) * ((other : Nat) : Int)).natAbs = MM.offF one other (i + 1) (j + 1) := by
        unfold MM.offF
        rw [Int.mul_comm ((i + 1 : Nat) : Int)]
      have hv8 : H8 t8 = some (.tup (triV (MM.row one other (i + 1) (j + 1)))) := by
        rw [hv8, absI, hoff]
        rfl
      have h8 := e8.lst _ _ h7 id
      have hbl := hB.1
      rw [List.length_map, List.length_range] at hbl
      have e9 : Ext (TT K) (· = D1) H8 (upd H8 D1 (.lst (bs.map V.ref ++ [.ref t8]))) := Ext.set h8 rfl
      refine ⟨_, h8, by rw [List.length_map, hbl]; exact szm (by omega), bs ++ [t8], by rw [List.map_append]; exact upd_same, ?_, (e7.trans e8.no).trans e9⟩
      rw [List.range_succ, List.map_append]
      exact rowsnoc ((hB.ext e8).ext e9) (e9.fix _ _ hv8 rfl)
    rintro H7 ⟨bs, h7, hB, e7⟩
    have hbl := hB.1
    rw [List.length_map, List.length_range] at hbl
    have e7n := e7.mono1 (NoM.of hD1)
    walk_at "s"
    refine ⟨rl, D1, _, _, rfl, rfl, e7.lst _ _ h6 hrl, h7, by rw [List.length_map, List.length_map]; exact Nat.le_of_lt (szm (by omega)), fun p8 H8 hp8 hv8 e8 => ?_⟩
    refine ⟨p8, as ++ bs, _, _, rfl, by rw [List.map_append]; exact hv8, ?_, by rw [List.length_append]; omega, (e6.trans e7n).trans e8⟩
    rw [MM.rows_snoc, hdvE]
    exact ((hR.ext e7n).ext e8).app (hB.ext e8)
  rintro σ2 H6 ⟨rl, as, u, v, rfl, h6, hR, hl, e6⟩
  have E6 := E4.trans e6.no
  clear E4 e6 hv5 e5 hl5
  obtain ⟨x0, xs0, hx⟩ : ∃ x0 xs0, MM.rowsOf one other most = x0 :: xs0 := by
    cases h : MM.rowsOf one other most with
    | nil =>
      have : MM.row one other 1 1 ∈ MM.rowsOf one other most := MM.mem_rows.mpr ⟨1, 1, by omega, by omega, by omega, Nat.le_trans (by decide) (Nat.le_add_left 2 _), rfl⟩
      rw [h] at this
      cases this
    | cons x xs => exact ⟨x, xs, rfl⟩
  walk_at "s"
  refine ⟨one, other, most, rfl, by omega, by omega, fun _ r t7 H7 hB hv7 e7 => ?_, fun z => absurd (show bmOk one other most from ⟨by omega, by omega, by omega, by omega⟩) z⟩
  simp only [Int.toNat_natCast] at hB
  have hmin := MM.best_rows hx hB
  have hR7 := hR.ext e7
  walk_at "s"
  rw [hx] at hR7
  refine ⟨rl, as.map V.ref, tri x0, xs0.map tri, rfl, SqL.of (e7.lst _ _ h6 id), RowsT.dp hR7, alike_tri (x0 :: xs0), (shAll (k := 1) (ds := (x0 :: xs0).map tri) fun d hd => ?_).1, Nat.le_trans (shAll (k := 1) (ds := (x0 :: xs0).map tri) fun d hd => ?_).2 (by decide), fun i y h1 h2 => ?_⟩
  · obtain ⟨b, _, rfl⟩ := List.mem_map.mp hd
    exact sh_tri b
  · obtain ⟨b, _, rfl⟩ := List.mem_map.mp hd
    exact sh_tri b
  rw [minD_tri, hmin] at h2
  have h2 : ((x0 :: xs0).map tri)[i]? = some (tri r) := h2
  rw [List.getElem?_map] at h1 h2
  obtain ⟨r9, hr9, hr9e⟩ : ∃ r9, (x0 :: xs0)[i]? = some r9 ∧ tri r9 = tri r := by
    cases h : (x0 :: xs0)[i]? with
    | none => rw [h] at h2; cases h2
    | some r9 => rw [h] at h2; exact ⟨r9, rfl, Option.some.inj h2⟩
  obtain rfl := tri_inj hr9e
  obtain ⟨t9, ht9, rfl⟩ : ∃ t9, as[i]? = some t9 ∧ y = .ref t9 := by
    cases h : as[i]? with
    | none => rw [h] at h1; cases h1
    | some t9 => rw [h] at h1; exact ⟨t9, rfl, (Option.some.inj h1).symm⟩
  have hv9 := hR7.2 i t9 r9 ht9 hr9
  refine ⟨tri r9, tri r9, .tup (SqT.of hv7) (.cons (.int _) (.cons (.int _) (.cons (.int _) .nil))), .tup (SqT.of hv9) (.cons (.int _) (.cons (.int _) (.cons (.int _) .nil))), (sh_tri r9).ok, (sh_tri r9).ok, ?_⟩
  walk_at "s"
  refine ifB (fun z => absurd z (by rw [eqv_tri]; decide)) (fun _ => ?_)
  exact hD _ _ (E6.trans e7.no)
end K03

set_option Elab.async false
set_option linter.all false
set_option maxRecDepth 100000
set_option maxHeartbeats 2000000
namespace K03
open PySem PySem.Spec PyProof.Rows L2 MB
local macro_rules | `(tactic| walk_at "s") => `(tactic| repeat (first | refine ⟨_, rfl, ?_⟩ | refine ⟨_, _, rfl, rfl, ?_⟩ | refine ⟨_, _, rfl, ?_⟩ | refine ⟨rfl, ?_⟩))
variable {P : Program} {w : World} {K : PySem.W.Frag} {mg : Str → Option Value} {base : Heap}
/-- the drawn cycles -/
structure CS (H : Hp) (q dq : Addr) (cs : MM.Cyc) : Prop where
  at_ : ∃ ts : List Addr, H q = some (.lst (ts.map V.ref)) ∧ CycT H ts cs
  ne : q ≠ dq
  pos : 0 < cs.length
  three : cs.length ≤ 3
  rng : ∀ c ∈ cs, 1 ≤ c.1 ∧ c.1 ≤ 9
  off : ∀ c ∈ cs, c.2 < c.1
theorem CS.ext {H H' : Hp} {q dq : Addr} {cs : MM.Cyc} (h : CS H q dq cs) (e : Ext (TT K) (· = dq) H H') : CS H' q dq cs :=
  ⟨let ⟨ts, a, b⟩ := h.at_; ⟨ts, e.lst _ _ a h.ne, b.ext e⟩, h.ne, h.pos, h.three, h.rng, h.off⟩
theorem CS.cv {H : Hp} {q dq : Addr} {cs : MM.Cyc} (h : CS H q dq cs) : CV cs := ⟨h.pos, Nat.le_trans h.three (by decide), fun c hc => ⟨(h.rng c hc).1, Nat.le_trans (h.rng c hc).2 (by decide)⟩, h.off⟩
theorem CS.seq {H : Hp} {q dq : Addr} {cs : MM.Cyc} (h : CS H q dq cs) : SeqC K H q cs := let ⟨ts, a, b⟩ := h.at_; ⟨ts, .inl (SqL.of a), b⟩
theorem CS.lcm {H : Hp} {q dq : Addr} {cs : MM.Cyc} (h : CS H q dq cs) : 0 < MM.lcmC cs ∧ MM.lcmC cs ≤ 2520 := by
  refine ⟨lcmC_pos fun c hc => (h.rng c hc).1, Nat.le_of_dvd (by decide) ((MM.lcmC_dvd cs _).mpr fun c hc => ?_)⟩
  have h3 : ∀ k : Nat, k < 10 → 1 ≤ k → k ∣ 2520 := by decide
  exact h3 c.1 (by have := (h.rng c hc).2; omega) (h.rng c hc).1
theorem shift_at {ps : List Nat} {cs : MM.Cyc} {i n : Nat} {c : Nat × Nat} (h1 : ps[i]? = some n) (h2 : cs[i]? = some c) : (shift ps cs)[i]? = some (c.1, (c.2 + n) % c.1) := by
  unfold shift
  rw [List.getElem?_zipWith, h1, h2]
theorem shift_lcm {ps : List Nat} {cs : MM.Cyc} (h : ps.length = cs.length) : MM.lcmC (shift ps cs) = MM.lcmC cs := by
  refine MM.lcmC_congr _ _ (List.ext_getElem? fun i => ?_)
  rw [List.getElem?_map, List.getElem?_map]
  cases h1 : cs[i]? with
  | none =>
    have : (shift ps cs)[i]? = none := by
      unfold shift
      rw [List.getElem?_zipWith, h1]
      cases ps[i]? <;> rfl
    rw [this]
  | some c =>
    have hi : i < ps.length := by rw [h]; exact (List.getElem?_eq_some_iff.mp h1).1
    rw [shift_at (List.getElem?_eq_getElem hi) h1]
    rfl
def firstV : List Nat → V
  | [] => .non
  | d :: _ => .int (d : Nat)
theorem neDays {D : Addr} {ds : List Nat} {σ : L2.St} {H : Hp} {R : Bool → Hp → Prop} {j : Nat} (hσ : σ[j]? = some (some (.ref D))) (h : H D = some (.lst (ds.map fun n => V.int (n : Nat)))) (hR : ∀ H', Ext (TT K) No H H' → R (!decide (ds = [])) H') :
    tTest (tOp (rNeD K) (tVar j) (tLstN (TT K) tNil)) σ H R := by
  refine ⟨.ref D, hσ, sz, fun l0 H1 hl0 hv0 e1 => ?_⟩
  have hm : ds.map (fun n : Nat => V.int (n : Nat)) = (ds.map fun n : Nat => ((n : Nat) : Int)).map V.int := by rw [List.map_map]; rfl
  rw [hm] at h
  refine ⟨_, _, dpInts (e1.lst _ _ h id), .lst (SqL.of hv0) .nil, shInts _, rfl, ?_⟩
  have e : PyData.eqv (.list ((ds.map fun n : Nat => ((n : Nat) : Int)).map PyData.int)) (.list []) = decide (ds = []) := by
    cases ds with
    | nil => rfl
    | cons _ _ => rfl
  refine ⟨_, rfl, ?_⟩
  rw [e]
  exact hR H1 e1
theorem first_of {D : Addr} {ds : List Nat} {σ : L2.St} {H : Hp} {Q : VK} {j : Nat} (hσ : σ[j]? = some (some (.ref D))) (h : H D = some (.lst (ds.map fun n => V.int (n : Nat)))) (hQ : ∀ H', Ext (TT K) No H H' → Q (firstV ds) H') :
    tIf (tTest (tOp (rNeD K) (tVar j) (tLstN (TT K) tNil))) (tOp (rIxL K) (tVar j) (tC (V.int 0))) (tC V.non) σ H Q := by
  refine neDays hσ h fun H1 e1 => ?_
  cases ds with
  | nil => exact hQ H1 e1
  | cons d r => exact ⟨.ref D, hσ, _, _, _, _, rfl, rfl, SqL.of (e1.lst _ _ h id), atI_of (i := 0) rfl rfl, hQ H1 e1⟩
theorem pair_of {D : Addr} {ds : List Nat} {W : Nat} {σ : L2.St} {H : Hp} {Q : VK} {j k : Nat} (hσ : σ[j]? = some (some (.ref D))) (hW : σ[k]? = some (some (.int (W : Nat)))) (h : H D = some (.lst (ds.map fun n => V.int (n : Nat)))) (hn : ds = [] → ∀ H', Ext (TT K) No H H' → Q .non H')
    (hs : ∀ d r, ds = d :: r → ∀ t H', H' t = some (.tup [.int (d : Nat), .int (W : Nat)]) → Ext (TT K) No H H' → Q (.ref t) H') :
    tIf (tTest (tOp (rNeD K) (tVar j) (tLstN (TT K) tNil))) (tTupN (TT K) (tCons (tOp (rIxL K) (tVar j) (tC (V.int 0))) (tCons (tVar k) tNil))) (tC V.non) σ H Q := by
  refine neDays hσ h fun H1 e1 => ?_
  cases ds with
  | nil => exact hn rfl H1 e1
  | cons d r => exact ⟨.ref D, hσ, _, _, _, _, rfl, rfl, SqL.of (e1.lst _ _ h id), atI_of (i := 0) rfl rfl, _, hW, sz, fun t H2 ht hv e2 => hs d r rfl t H2 hv (e1.trans e2)⟩
theorem meetD_first {cs : MM.Cyc} {v : V} (hp : 0 < MM.lcmC cs) (h : MeetD cs v) : v = firstV (MM.daysB cs (MM.lcmC cs)) := by
  rcases h with ⟨rfl, hno⟩ | ⟨d, rfl, hs, hd⟩
  · rw [MM.daysB_none hp hno]
    rfl
  · obtain ⟨r, e⟩ := MM.daysB_some hs hd
    rw [e]
    rfl
theorem neSelf {ds : List Nat} {H : Hp} {Q : VK} (h : Q (.bl false) H) : rNeD K (firstV ds) (firstV ds) H Q := by
  cases ds with
  | nil => exact ⟨.none, .none, .non, .non, rfl, rfl, h⟩
  | cons d r =>
    refine ⟨.int (d : Nat), .int (d : Nat), .int _, .int _, rfl, rfl, ?_⟩
    rw [eqv_int]
    simpa using h
theorem neInt {a b : Int} {H : Hp} {Q : VK} (e : a = b) (h : Q (.bl false) H) : rNeD K (.int a) (.int b) H Q := by
  subst e
  refine ⟨.int a, .int a, .int _, .int _, rfl, rfl, ?_⟩
  rw [eqv_int]
  simpa using h
theorem law_E (T : Tx K mg base) (tk : TOk (TT K)) (cdv : Value) (A : Around) (outer : List Env) (s : Shared) (H0 : Hp) (E : XK) (hr : Room 39 (A.deeper (envOfC "law" (defScope s_law) s.heap.objs.size (He.fAd K ("law", none)) cdv))) :
    ∃ t, PSs (cxOf (L2.CX P w) P w K mg base ["script", "dice", "parts", "length", "first", "moons", "number", "part", "k", "day", "last", "before", "age", "cycles", "size", "whole", "offset", "days", "one", "places", "place", "cycle", "other", "most", "rows", "ones", "others"] "law" (defScope s_law) (He.fAd K ("law", none)) cdv A outer s H0 E) (lawBody.drop 16) t ∧
      ∀ (D : Ends) (v_parts v_length v_first v_moons v_number v_part v_k v_last v_before v_age v_size v_offset v_days v_one v_places v_place v_cycle v_other v_most v_rows v_ones v_others : Option V) (a dq : Addr) (q : Addr) (cs : MM.Cyc) (day : Nat) (H' : Hp), Gd (TT K) H' → DiceAt H' dq → CS H' q dq cs → day < 400 →  (∀ σ2 H2, Ext (TT K) (· = dq) H' H2 → D.nx σ2 H2) → t D [some (.ref a), some (.ref dq), v_parts, v_length, v_first, v_moons, v_number, v_part, v_k, some (.int (day : Nat)), v_last, v_before, v_age, some (.ref q), v_size, some (.int (MM.lcmC cs : Nat)), v_offset, v_days, v_one, v_places, v_place, v_cycle, v_other, v_most, v_rows, v_ones, v_others] H' := by
  have ok_meeting := fun T : Tx K mg base => ok_meeting (P := P) (w := w) T tk
  have ok_round_of := fun T : Tx K mg base => ok_round_of (P := P) (w := w) T tk
  have ok_day_with := fun T : Tx K mg base => ok_day_with (P := P) (w := w) T tk
  refine ⟨_, (pss_cons (ps_set (i := 19) sc_law.nd rfl (Or.inr rfl) (pe_lc rfl sc_law.nd (pi_listK (K := K) rfl (pv 13)) (blkOk_by (N := ["script", "dice", "parts", "length", "first", "moons", "number", "part", "k", "day", "last", "before", "age", "cycles", "size", "whole", "offset", "days", "one", "places", "place", "cycle", "other", "most", "rows", "ones", "others"]) (sc := defScope s_law) (own := [("size", 14), ("offset", 16)]) (by decide +kernel)) (fun _ _ _ _ _ => (pg_tupK (K := K) (n := 2) rfl rfl (pgs_cons (pg_name (i := 14) sc_law.nd rfl (by first | exact Or.inl rfl | exact Or.inr rfl)) (pgs_cons (pg_name (i := 16) sc_law.nd rfl (by first | exact Or.inl rfl | exact Or.inr rfl)) pgs_nil)))) (fun _ _ _ _ _ => pts_nil) (fun _ _ _ _ _ => (pe_call (ok_law_roll T) (hr.mono (by decide)) rfl T.g_law_roll T.F_law_roll.kp (bi_law_roll T) .nil passL (pa_cons (pv 1) (pa_cons (pv 14) pa_nil))))))
 (pss_cons (ps_setLc (i := 17) rfl sc_law.nd rfl rfl rfl (pi_range1 rfl T.b_range (pa_cons (pv 15) pa_nil)) (blkOk_by (N := ["script", "dice", "parts", "length", "first", "moons", "number", "part", "k", "day", "last", "before", "age", "cycles", "size", "whole", "offset", "days", "one", "places", "place", "cycle", "other", "most", "rows", "ones", "others"]) (sc := defScope s_law) (own := [("one", 18)]) (by decide +kernel)) (fun _ _ _ _ _ => (pg_name (i := 18) sc_law.nd rfl (by first | exact Or.inl rfl | exact Or.inr rfl))) (fun _ _ _ _ _ => (pts_one (pt_cmpR (op_eqDK (K := K) rfl hr.units) (pe_lc rfl sc_law.nd (MB.pi_zipM (K := K) rfl rfl T.b_zip (pa_cons (pv 19) (pa_cons (pv 13) pa_nil))) (blkOk_by (own := [("place", 20), ("cycle", 21)]) (by rfl)) (fun _ _ _ _ _ => (pg_tupK (K := K) (n := 2) rfl rfl (pgs_cons (pg_name (i := 20) sc_law.nd rfl (by first | exact Or.inl rfl | exact Or.inr rfl)) (pgs_cons (pg_name (i := 21) sc_law.nd rfl (by first | exact Or.inl rfl | exact Or.inr rfl)) pgs_nil)))) (fun _ _ _ _ _ => (pts_one (pt_cmpR op_ne (pe_op op_mod (pe_op op_sub (pv 18) (pe_ix (ix_tupK (K := K) rfl) (pv 21) pe_int (fun _ _ => rfl))) (pe_ix (ix_tupK (K := K) rfl) (pv 21) pe_int (fun _ _ => rfl))) (pv 20) (nomark _)))) (fun _ _ _ _ _ => pe_int)) (pe_lstN (T := TT K) pa_nil) (nomark _)))) (fun _ _ _ _ _ => (pv 18)))
 (pss_cons (ps_if (PW.pt (pw_or (pt_cmpR (op_neDK (K := K) rfl hr.units) (pe_call (ok_day_with T) (hr.mono (by decide)) rfl T.g_day_with T.F_day_with.kp (bi_day_with T) .nil (passes_call (takes_of rfl rfl rfl rfl) fun _ _ _ _ h => h) (pa_cons (pv 19) (pa_cons (pv 13) pa_nil))) (pe_ifExp (pt_cmpR (op_neDK (K := K) rfl hr.units) (pv 17) (pe_lstN (T := TT K) pa_nil) (nomark _)) (pe_ix (ix_listK (K := K) rfl) (pv 17) pe_int (fun _ _ => rfl)) pe_non) (nomark _)) (pw_or1 (pt_cmpR (op_neDK (K := K) rfl hr.units) (pe_call (ok_day_with T) (hr.mono (by decide)) rfl T.g_day_with T.F_day_with.kp (bi_day_with T) .nil (passes_call (takes_of rfl rfl rfl rfl) fun _ _ _ _ h => h) (pa_cons (pe_call (ok_round_of T) (hr.mono (by decide)) rfl T.g_round_of T.F_round_of.kp (bi_round_of T) .nil (passes_call (takes_of rfl rfl rfl rfl) fun _ _ _ _ h => h) (pa_cons (pv 9) (pa_cons (pv 13) pa_nil))) (pa_cons (pv 13) pa_nil))) (pe_op op_mod (pv 9) (pv 15)) (nomark _))))) (pss_one (ps_ret pe_bl)) pss_nil)
 (law_F T tk cdv A outer s H0 E hr).choose_spec.1))), ?_⟩
  intro D v_parts v_length v_first v_moons v_number v_part v_k v_last v_before v_age v_size v_offset v_days v_one v_places v_place v_cycle v_other v_most v_rows v_ones v_others a dq q cs day H' gd dice C hday hD
  have hC := C
  obtain ⟨ts, q1, q2⟩ := C.at_
  have hlen : (ts.map V.ref).length = cs.length := by rw [List.length_map, q2.1]
  have three := C.three
  obtain ⟨W0, W1⟩ := C.lcm
  walk_at "s"
  refine ⟨⟨_, SqL.of q1⟩, fun D1 hD1 => ?_⟩
  have hqD : ¬ q = D1 := fun z => by rw [z, hD1] at q1; cases q1
  have hdD : ¬ dq = D1 := fun z => by obtain ⟨x, y, z2, dice⟩ := dice; rw [z, hD1] at dice; cases dice
  have qM : ¬ (q = D1 ∨ q = dq) := fun z => z.elim hqD C.ne
  refine lc_list (xs := ts.map V.ref) (fun i H1 => ∃ ps : List Nat, H1 D1 = some (.lst (ps.map fun n => V.int (n : Nat))) ∧ ps.length = i ∧ (∀ (k : Nat) (p : Nat) (c : Nat × Nat), ps[k]? = some p → cs[k]? = some c → p < c.1) ∧ DiceAt H1 dq ∧ Ext (TT K) (fun b => b = D1 ∨ b = dq) H' H1) ⟨[], upd_same, rfl, fun k p c z => by simp at z, dice.ext (Ext.new (T := TT K) (M := No) hD1) id, Ext.new hD1⟩ (fun i H1 _ ⟨_, _, _, _, _, e⟩ => SqL.of (e.lst _ _ q1 qM)) ?_ ?_
  · rintro i x H1 hx ⟨ps, h1, hl, hp, hd1, e1⟩
    obtain ⟨t, c, rfl, ht, hc, hvt⟩ := q2.get hx
    have c9 := C.rng c (List.mem_of_getElem? hc)
    have hi := (List.getElem?_eq_some_iff.mp hc).1
    refine ⟨_, _, rfl, SqT.of (e1.fix _ _ hvt rfl), rfl, ?_⟩
    walk_at "s"
    refine ⟨hd1, by omega, by omega, fun r H2 hr2 hd2 e2 => ?_⟩
    have h2 := e2.lst _ _ h1 (Ne.symm hdD)
    have e3 : Ext (TT K) (fun b => b = D1 ∨ b = dq) H2 (upd H2 D1 (.lst (ps.map (fun n => V.int (n : Nat)) ++ [.int (r : Nat)]))) := Ext.set h2 (.inl rfl)
    refine ⟨_, h2, by rw [List.length_map, hl]; exact szl (by omega), ps ++ [r], by rw [List.map_append]; exact upd_same, by rw [List.length_append, hl]; rfl, fun k p c2 z1 z2 => ?_, ?_, (e1.trans (e2.more fun b z => .inr z)).trans e3⟩
    · by_cases hk : k < ps.length
      · rw [List.getElem?_append_left hk] at z1
        exact hp k p c2 z1 z2
      · have hk2 : k = ps.length := by
          have := (List.getElem?_eq_some_iff.mp z1).1
          simp at this
          omega
        rw [hk2, List.getElem?_concat_length] at z1
        rw [hk2, hl, hc] at z2
        cases z1
        cases z2
        omega
    · obtain ⟨x, y, z, hd2⟩ := hd2
      exact ⟨x, y, z, by rw [upd_ne hdD]; exact hd2⟩
  rintro H1 ⟨ps, h1, hl, hp, hd1, e1⟩
  rw [hlen] at hl
  have dv : DV ps cs := ⟨hl, hp⟩
  have pD : D1 ≠ dq := Ne.symm hdD
  have E1 : Ext (TT K) (· = dq) H' H1 := e1.mono fun b z => z.elim (fun z => .inr (by rw [z]; exact NoM.of hD1)) .inl
  have C1 := C.ext E1
  have gd1 := E1.gd gd
  clear e1 q1 q2 hqD qM hD1 hdD C dice hC gd
  obtain ⟨ts, q1, q2⟩ := C1.at_
  have hlen : (ts.map V.ref).length = cs.length := by rw [List.length_map, q2.1]
  have hsl : (shift ps cs).length = cs.length := by unfold shift; rw [List.length_zipWith, hl, Nat.min_self]
  have hsW : MM.lcmC (shift ps cs) = MM.lcmC cs := shift_lcm hl
  -- the days with these places
  walk_at "s"
  refine ⟨by omega, by omega, fun D2 hD2 => ?_⟩
  rw [Int.toNat_natCast]
  refine lc_range (fun i H2 => H2 D2 = some (.lst ((MM.daysB (shift ps cs) i).map fun n => V.int (n : Nat))) ∧ Ext (TT K) (· = D2) H1 H2) ⟨upd_same, (Ext.new hD2).no⟩ ?_ ?_
  · rintro i H2 hi ⟨h2, e2⟩
    have hdl : (MM.daysB (shift ps cs) i).length ≤ i := by
      unfold MM.daysB
      exact Nat.le_trans (List.length_filter_le _ _) (by rw [List.length_range]; exact Nat.le_refl _)
    have hds : MM.daysB (shift ps cs) (i + 1) = MM.daysB (shift ps cs) i ++ (if MM.satB (shift ps cs) i = true then [i] else []) := by
      unfold MM.daysB
      rw [List.range_succ, List.filter_append]
      congr 1
      by_cases z : MM.satB (shift ps cs) i = true
      · rw [if_pos z]; simp [z]
      · rw [if_neg z]; simp [z]
    have hpD2 : ¬ D1 = D2 := fun z => by rw [z, hD2] at h1; cases h1
    have hqD2 : ¬ q = D2 := fun z => by rw [z, hD2] at q1; cases q1
    have hP2 : SqB K true H2 D1 (ps.map fun n => V.int (n : Nat)) := SqL.of (e2.lst _ _ h1 hpD2)
    have hQ2 : SqB K true H2 q (ts.map V.ref) := SqL.of (e2.lst _ _ q1 hqD2)
    have q22 := q2.ext e2
    walk_at "s"
    refine ⟨_, _, true, true, _, _, rfl, hP2, hQ2, fun D3 hD3 => ?_⟩
    refine lc_zipM (by rw [List.length_map, hlen, hl]) (fun j H3 => ∃ m, H3 D3 = some (.lst (List.replicate m (.int 1))) ∧ (m = 0 ↔ ∀ c ∈ (shift ps cs).take j, i % c.1 = c.2) ∧ m ≤ j ∧ Ext (TT K) (· = D3) H2 H3) ⟨0, upd_same, by simp, Nat.le_refl _, (Ext.new hD3).no⟩ (fun j H3 _ ⟨_, _, _, _, e⟩ => ⟨SqB.extD hP2 e hD3, SqB.extD hQ2 e hD3⟩) ?_ ?_
    · rintro j x z t H3 hx hz ⟨m, h3, hm, hmj, e3⟩ ht3
      obtain ⟨t2, c, rfl, ht2, hc, hvt⟩ := q22.get hz
      obtain ⟨n, hn, rfl⟩ : ∃ n : Nat, ps[j]? = some n ∧ x = .int (n : Nat) := by
        rw [List.getElem?_map] at hx
        cases e : ps[j]? with
        | none => rw [e] at hx; cases hx
        | some n => rw [e] at hx; cases hx; exact ⟨n, rfl, rfl⟩
      have c9 := C1.rng c (List.mem_of_getElem? hc)
      have co := C1.off c (List.mem_of_getElem? hc)
      have hn9 := hp j n c hn hc
      have hj := (List.getElem?_eq_some_iff.mp hc).1
      have htk : (shift ps cs).take (j + 1) = (shift ps cs).take j ++ [(c.1, (c.2 + n) % c.1)] := by rw [List.take_add_one, shift_at hn hc]; rfl
      have e34 : Ext (TT K) No H3 (upd H3 t (.tup [.int (n : Nat), .ref t2])) := Ext.new ht3
      have h4 := e34.lst _ _ h3 id
      have e4 := e3.trans e34.no
      refine ⟨_, _, rfl, SqT.of upd_same, rfl, ?_⟩
      generalize upd H3 t (.tup [.int (n : Nat), .ref t2]) = H4 at e4 h4 ⊢
      clear e34 h3 e3
      have hvt4 := e4.fix _ _ hvt rfl
      walk_at "s"
      refine ⟨_, _, _, _, rfl, rfl, SqT.of hvt4, rfl, ?_⟩
      walk_at "s"
      refine ⟨_, _, _, _, rfl, rfl, SqT.of hvt4, rfl, ?_⟩
      walk_at "s"
      refine ⟨by omega, ?_⟩
      walk_at "s"
      have hpl := MM.place_iff (d := i) (o := c.2) (p := n) (s := c.1) (by omega) co hn9
      refine ifB (fun q3 => ?_) (fun q3 => ?_)
      · have q3 : ¬ i % c.1 = (c.2 + n) % c.1 := fun z => by
          have z := hpl.mp z
          have q3 : ¬ ((0 + (i : Int)) - (c.2 : Nat)) % ((c.1 : Nat) : Int) = ((n : Nat) : Int) := by simpa using q3
          rw [Int.zero_add] at q3
          exact q3 z
        refine ⟨_, h4, by rw [List.length_replicate]; exact szl (by omega), m + 1, by rw [List.replicate_succ']; exact upd_same, ⟨fun z => by omega, fun z => absurd (z (c.1, (c.2 + n) % c.1) (by rw [htk]; simp)) q3⟩, by omega, e4.trans (Ext.set h4 rfl)⟩
      · have q3 : i % c.1 = (c.2 + n) % c.1 := by
          have q3 : ((0 + (i : Int)) - (c.2 : Nat)) % ((c.1 : Nat) : Int) = ((n : Nat) : Int) := by simpa using q3
          rw [Int.zero_add] at q3
          exact hpl.mpr q3
        refine ⟨m, h4, ?_, by omega, e4⟩
        rw [hm, htk]
        simp only [List.mem_append, List.mem_singleton]
        refine ⟨fun z x hx => hx.elim (z x) fun e => by rw [e]; exact q3, fun z x hx => z x (.inl hx)⟩
    rintro H3 ⟨m, h3, hm, hmj, e3⟩
    rw [List.length_map, List.take_of_length_le (by rw [hsl, hl]; exact Nat.le_refl _)] at hm
    have e3n := e3.mono1 (NoM.of hD3)
    walk_at "s"
    refine ⟨sz, fun l0 H4 hl0 hv0 e4 => ?_⟩
    refine ⟨_, _, dpOnes (e4.lst _ _ h3 id), .lst (SqL.of hv0) .nil, shOnes _, rfl, ?_⟩
    have e34 := e3n.trans e4
    walk_at "s"
    have hsat : m = 0 ↔ MM.satB (shift ps cs) i = true := by rw [hm, MM.satB_iff]; rfl
    have h24 := e34.lst _ _ h2 id
    rw [hds]
    refine ifB (fun q3 => ?_) (fun q3 => ?_)
    · have q3 : m = 0 := by
        rw [eqOnes] at q3
        simpa using q3
      rw [if_pos (hsat.mp q3)]
      walk_at "s"
      refine ⟨_, h24, by rw [List.length_map]; exact szm (by omega), ?_, (e2.trans e34.no).trans (Ext.set h24 rfl)⟩
      rw [List.map_append, upd_same]
      show some (HO.lst (_ ++ [V.int (0 + (i : Int))])) = _
      rw [Int.zero_add]
      rfl
    · have q3 : ¬ m = 0 := fun z => by
        rw [eqOnes] at q3
        simp [z] at q3
      rw [if_neg fun z => q3 (hsat.mpr z), List.append_nil]
      exact ⟨h24, e2.trans e34.no⟩
  rintro H2 ⟨h2, e2⟩
  have e2n := e2.mono1 (NoM.of hD2)
  have E2 := E1.trans e2n.no
  have C2 := C1.ext e2n.no
  have h1 := e2n.lst _ _ h1 id
  have gd2 := e2n.gd gd1
  have hd2 := hd1.ext e2n id
  clear e2 q1 q2 hD2 C1 gd1
  -- the first test
  walk_at "s"
  refine ⟨D1, q, ps, cs, rfl, .inl (SqL.of h1), C2.seq, gd2, by omega, fun _ cv v H3 hv e3 => ?_, fun z => absurd ⟨dv, C2.cv⟩ z⟩
  have hv := meetD_first (by rw [hsW]; exact W0) hv
  rw [hsW] at hv
  subst hv
  refine first_of rfl (e3.lst _ _ h2 id) fun H4 e4 => ?_
  refine neSelf ?_
  have E4 := E2.trans (e3.trans e4).no
  have C4 := C2.ext (e3.trans e4).no
  have gd4 := (e3.trans e4).gd gd2
  have hd4 := hd2.ext (e3.trans e4) id
  clear e3 e4 h1 h2 C2 gd2 E2 e2n E1
  refine ⟨_, rfl, ?_⟩
  refine ifB (fun z => by cases z) (fun _ => ?_)
  walk_at "s"
  refine ⟨day, q, cs, rfl, C4.seq, gd4, by omega, fun cv t5 H5 hv5 e5 => ?_, fun z => absurd C4.cv z⟩
  obtain ⟨ps2, hps2⟩ : ∃ ps2 : List Nat, ps2 = cs.map fun c => (((day : Int) - (c.2 : Nat)) % ((c.1 : Nat) : Int)).toNat := ⟨_, rfl⟩
  have hpl2 : ps2.length = cs.length := by rw [hps2, List.length_map]
  have hnn : ∀ c ∈ cs, 0 ≤ ((day : Int) - (c.2 : Nat)) % ((c.1 : Nat) : Int) ∧ ((day : Int) - (c.2 : Nat)) % ((c.1 : Nat) : Int) < (c.1 : Nat) := fun c hc => by
    have h9 := (C4.rng c hc).1
    exact ⟨Int.emod_nonneg _ (by omega), Int.emod_lt_of_pos _ (by omega)⟩
  have hat : ∀ (k p : Nat) (c : Nat × Nat), ps2[k]? = some p → cs[k]? = some c → ((p : Nat) : Int) = ((day : Int) - (c.2 : Nat)) % ((c.1 : Nat) : Int) ∧ p < c.1 := fun k p c z1 z2 => by
    rw [hps2, List.getElem?_map, z2] at z1
    have z3 : (((day : Int) - (c.2 : Nat)) % ((c.1 : Nat) : Int)).toNat = p := Option.some.inj z1
    have := hnn c (List.mem_of_getElem? z2)
    omega
  have hrn : rndV day cs = ps2.map fun n => V.int (n : Nat) := by
    rw [hps2, List.map_map]
    unfold rndV
    refine List.map_congr_left fun c hc => ?_
    show V.int _ = V.int ((Int.toNat _ : Nat) : Int)
    rw [Int.toNat_of_nonneg (hnn c hc).1]
  rw [hrn] at hv5
  have dv2 : DV ps2 cs := ⟨hpl2, fun k p c z1 z2 => (hat k p c z1 z2).2⟩
  have hsat : MM.sat (shift ps2 cs) (day % MM.lcmC cs) := by
    refine (MM.sat_mod fun c hc => ?_).mpr ?_
    · rw [← shift_lcm hpl2]
      exact MM.lcmC_self _ c hc
    · intro c hc
      obtain ⟨i, hi, hc2⟩ := List.mem_iff_getElem.mp hc
      have hsl2 : (shift ps2 cs).length = cs.length := by unfold shift; rw [List.length_zipWith, hpl2, Nat.min_self]
      have hic : i < cs.length := by omega
      have hip : i < ps2.length := by omega
      have g := shift_at (List.getElem?_eq_getElem hip) (List.getElem?_eq_getElem hic)
      rw [List.getElem?_eq_getElem hi, hc2] at g
      have g := Option.some.inj g
      have h9 := hat i _ _ (List.getElem?_eq_getElem hip) (List.getElem?_eq_getElem hic)
      have hm := List.getElem_mem hic
      rw [g]
      exact (MM.place_iff (C4.rng _ hm).1 (C4.off _ hm) h9.2).mpr h9.1.symm
  walk_at "s"
  refine ⟨t5, q, ps2, cs, rfl, .inr (SqT.of hv5), (C4.ext e5.no).seq, e5.gd gd4, by omega, fun _ cv2 v H6 hv e6 => ?_, fun z => absurd ⟨dv2, cv⟩ z⟩
  have hvv : v = .int ((day % MM.lcmC cs : Nat) : Int) := by
    rcases hv with ⟨_, hno⟩ | ⟨d, rfl, hs, hd⟩
    · exact absurd hsat (hno _)
    · rw [MM.sat_one hs hsat hd (by rw [shift_lcm hpl2]; exact Nat.mod_lt _ W0)]
  subst hvv
  have E6 := E4.trans (e5.trans e6).no
  have C6 := C4.ext (e5.trans e6).no
  walk_at "s"
  refine ⟨by omega, ?_⟩
  refine neInt (by rw [Int.natCast_emod]) ?_
  walk_at "s"
  refine ifB (fun z => by cases z) (fun _ => ?_)
  exact (law_F T tk cdv A outer s H0 E hr).choose_spec.2 D _ _ _ _ _ _ _ _ _ _ _ _ _ _ _ _ _ _ _ _ _ _ _ _ _  a dq H6 ((e5.trans e6).gd gd4) (hd4.ext (e5.trans e6) id) fun σ2 H2 e => hD σ2 H2 (E6.trans e)
end K03

set_option Elab.async false
set_option linter.all false
set_option maxRecDepth 100000
set_option maxHeartbeats 2000000
namespace K03
open PySem PySem.Spec PyProof.Rows L2 MB
local macro_rules | `(tactic| walk_at "s") => `(tactic| repeat (first | refine ⟨_, rfl, ?_⟩ | refine ⟨_, _, rfl, rfl, ?_⟩ | refine ⟨_, _, rfl, ?_⟩ | refine ⟨rfl, ?_⟩))
variable {P : Program} {w : World} {K : PySem.W.Frag} {mg : Str → Option Value} {base : Heap}
theorem eqv_two (a b : Int) : PyData.eqv (.tuple [.int a, .int b]) (.tuple [.int a, .int b]) = true := by
  show ((_ == _) && ((_ == _) && true)) = true
  simp
theorem pair_eq {D : Addr} {cs : MM.Cyc} {v : V} {σ : L2.St} {H : Hp} {R : VK} {j k : Nat} (hσ : σ[j]? = some (some (.ref D))) (hW : σ[k]? = some (some (.int (MM.lcmC cs : Nat)))) (h : H D = some (.lst ((MM.daysB cs (MM.lcmC cs)).map fun n => V.int (n : Nat)))) (hv : Meets H cs v)
    (hR : ∀ H', Ext (TT K) No H H' → R (.bl false) H') :
    tIf (tTest (tOp (rNeD K) (tVar j) (tLstN (TT K) tNil))) (tTupN (TT K) (tCons (tOp (rIxL K) (tVar j) (tC (V.int 0))) (tCons (tVar k) tNil))) (tC V.non) σ H fun y H2 => rNeD K v y H2 R := by
  refine pair_of hσ hW h (fun hn H2 e2 => ?_) (fun d r hds t H2 hv2 e2 => ?_)
  · rcases hv with ⟨rfl, _⟩ | ⟨d, t, rfl, hs, hd, _⟩
    · exact ⟨.none, .none, .non, .non, rfl, rfl, hR H2 e2⟩
    · obtain ⟨r, e⟩ := MM.daysB_some hs hd
      rw [hn] at e
      cases e
  · have hm := MM.daysB_mem.mp (show d ∈ MM.daysB cs (MM.lcmC cs) by rw [hds]; exact List.mem_cons_self)
    rcases hv with ⟨rfl, hno⟩ | ⟨d2, t2, rfl, hs, hd, ht2⟩
    · exact absurd hm.2 (hno d)
    · obtain rfl := MM.sat_one hs hm.2 hd hm.1
      refine ⟨.tuple [.int (d2 : Nat), .int (MM.lcmC cs : Nat)], .tuple [.int (d2 : Nat), .int (MM.lcmC cs : Nat)], .tup (SqT.of (e2.fix _ _ ht2 rfl)) (.cons (.int _) (.cons (.int _) .nil)), .tup (SqT.of hv2) (.cons (.int _) (.cons (.int _) .nil)), rfl, rfl, ?_⟩
      rw [eqv_two]
      exact hR H2 e2
theorem law_D (T : Tx K mg base) (tk : TOk (TT K)) (cdv : Value) (A : Around) (outer : List Env) (s : Shared) (H0 : Hp) (E : XK) (hr : Room 39 (A.deeper (envOfC "law" (defScope s_law) s.heap.objs.size (He.fAd K ("law", none)) cdv))) :
    ∃ t, PSs (cxOf (L2.CX P w) P w K mg base ["script", "dice", "parts", "length", "first", "moons", "number", "part", "k", "day", "last", "before", "age", "cycles", "size", "whole", "offset", "days", "one", "places", "place", "cycle", "other", "most", "rows", "ones", "others"] "law" (defScope s_law) (He.fAd K ("law", none)) cdv A outer s H0 E) (lawBody.drop 15) t ∧
      ∀ (D : Ends) (v_parts v_length v_first v_moons v_number v_part v_k v_last v_before v_age v_size v_offset v_one v_places v_place v_cycle v_other v_most v_rows v_ones v_others : Option V) (a dq : Addr) (q : Addr) (cs : MM.Cyc) (day : Nat) (dl : Addr) (H' : Hp), Gd (TT K) H' → DiceAt H' dq → CS H' q dq cs → day < 400 → dl ≠ dq → H' dl = some (.lst ((MM.daysB cs (MM.lcmC cs)).map fun n => V.int (n : Nat))) →  (∀ σ2 H2, Ext (TT K) (· = dq) H' H2 → D.nx σ2 H2) → t D [some (.ref a), some (.ref dq), v_parts, v_length, v_first, v_moons, v_number, v_part, v_k, some (.int (day : Nat)), v_last, v_before, v_age, some (.ref q), v_size, some (.int (MM.lcmC cs : Nat)), v_offset, some (.ref dl), v_one, v_places, v_place, v_cycle, v_other, v_most, v_rows, v_ones, v_others] H' := by
  have ok_meeting := fun T : Tx K mg base => ok_meeting (P := P) (w := w) T tk
  have ok_round_of := fun T : Tx K mg base => ok_round_of (P := P) (w := w) T tk
  have ok_day_with := fun T : Tx K mg base => ok_day_with (P := P) (w := w) T tk
  refine ⟨_, (pss_cons (ps_if (PW.pt (pw_or (pt_cmpR (op_neDK (K := K) rfl hr.units) (pe_call (ok_meeting T) (hr.mono (by decide)) rfl T.g_meeting T.F_meeting.kp (bi_meeting T) .nil (passes_call (takes_of rfl rfl rfl rfl) fun _ _ _ _ h => h) (pa_cons (pv 13) pa_nil)) (pe_ifExp (pt_cmpR (op_neDK (K := K) rfl hr.units) (pv 17) (pe_lstN (T := TT K) pa_nil) (nomark _)) (pe_tupN (T := TT K) (pa_cons (pe_ix (ix_listK (K := K) rfl) (pv 17) pe_int (fun _ _ => rfl)) (pa_cons (pv 15) pa_nil))) pe_non) (nomark _)) (pw_or1 (pt_cmpR (op_neDK (K := K) rfl hr.units) (pe_callTy (MB.call_listN (T := TT K) (K := K) rfl) rfl T.b_list (by decide +kernel) (pa_cons (pe_call (ok_round_of T) (hr.mono (by decide)) rfl T.g_round_of T.F_round_of.kp (bi_round_of T) .nil (passes_call (takes_of rfl rfl rfl rfl) fun _ _ _ _ h => h) (pa_cons (pv 9) (pa_cons (pv 13) pa_nil))) pa_nil)) (pe_lc rfl sc_law.nd (pi_listK (K := K) rfl (pv 13)) (blkOk_by (N := ["script", "dice", "parts", "length", "first", "moons", "number", "part", "k", "day", "last", "before", "age", "cycles", "size", "whole", "offset", "days", "one", "places", "place", "cycle", "other", "most", "rows", "ones", "others"]) (sc := defScope s_law) (own := [("size", 14), ("offset", 16)]) (by decide +kernel)) (fun _ _ _ _ _ => (pg_tupK (K := K) (n := 2) rfl rfl (pgs_cons (pg_name (i := 14) sc_law.nd rfl (by first | exact Or.inl rfl | exact Or.inr rfl)) (pgs_cons (pg_name (i := 16) sc_law.nd rfl (by first | exact Or.inl rfl | exact Or.inr rfl)) pgs_nil)))) (fun _ _ _ _ _ => pts_nil) (fun _ _ _ _ _ => (pe_op op_mod (pe_op op_sub (pv 9) (pv 16)) (pv 14)))) (nomark _))))) (pss_one (ps_ret pe_bl)) pss_nil)
 (law_E T tk cdv A outer s H0 E hr).choose_spec.1), ?_⟩
  intro D v_parts v_length v_first v_moons v_number v_part v_k v_last v_before v_age v_size v_offset v_one v_places v_place v_cycle v_other v_most v_rows v_ones v_others a dq q cs day dl H' gd dice C hday hne hdl hD
  have three := C.three
  walk_at "s"
  refine ⟨q, cs, rfl, C.seq, gd, by omega, fun cv v H1 hv e1 => ?_, fun z => absurd C.cv z⟩
  have C1 := C.ext e1.no
  refine pair_eq rfl rfl (e1.lst _ _ hdl id) hv fun H2 e2 => ?_
  have C2 := C1.ext e2.no
  have E2 := e1.trans e2
  refine ⟨_, rfl, ?_⟩
  refine ifB (fun z => by cases z) (fun _ => ?_)
  walk_at "s"
  refine ⟨day, q, cs, rfl, C2.seq, E2.gd gd, by omega, fun cv t5 H5 hv5 e5 => ?_, fun z => absurd C2.cv z⟩
  walk_at "s"
  refine ⟨t5, _, rfl, .inr (SqT.of hv5), fun l6 H6 hl6 hv6 e6 => ?_⟩
  have E6 := (E2.trans e5).trans e6
  have C6 := C.ext E6.no
  clear e1 e2 e5 hv5 C1 C2 hv cv
  obtain ⟨ts, q1, q2⟩ := C6.at_
  have hlen : (ts.map V.ref).length = cs.length := by rw [List.length_map, q2.1]
  walk_at "s"
  refine ⟨⟨_, SqL.of q1⟩, fun D3 hD3 => ?_⟩
  have hqD : ¬ q = D3 := fun z => by rw [z, hD3] at q1; cases q1
  refine lc_list (xs := ts.map V.ref) (fun i H7 => H7 D3 = some (.lst ((rndV day cs).take i)) ∧ Ext (TT K) (· = D3) H6 H7) ⟨upd_same, (Ext.new hD3).no⟩ (fun i H7 _ ⟨_, e⟩ => SqL.of (e.lst _ _ q1 hqD)) ?_ ?_
  · rintro i x H7 hx ⟨h7, e7⟩
    obtain ⟨t, c, rfl, ht, hc, hvt⟩ := q2.get hx
    have c9 := C.rng c (List.mem_of_getElem? hc)
    refine ⟨_, _, rfl, SqT.of (e7.fix _ _ hvt rfl), rfl, ?_⟩
    walk_at "s"
    refine ⟨by omega, ?_⟩
    have hr9 : (rndV day cs)[i]? = some (.int (((day : Int) - (c.2 : Nat)) % ((c.1 : Nat) : Int))) := by
      unfold rndV
      rw [List.getElem?_map, hc]
      rfl
    have hl9 : ((rndV day cs).take i).length ≤ 3 := by
      unfold rndV
      rw [List.length_take, List.length_map]
      omega
    refine ⟨_, h7, szl (by omega), ?_, e7.trans (Ext.set h7 rfl)⟩
    rw [upd_same, List.take_add_one, hr9]
    rfl
  rintro H7 ⟨h7, e7⟩
  have hl9 : (rndV day cs).length = cs.length := by unfold rndV; exact List.length_map ..
  rw [List.take_of_length_le (by rw [hl9, hlen]; exact Nat.le_refl _)] at h7
  have e7n := e7.mono1 (NoM.of hD3)
  have E7 := E6.trans e7n
  have hrn : rndV day cs = (cs.map fun c => ((day : Int) - (c.2 : Nat)) % ((c.1 : Nat) : Int)).map V.int := by
    unfold rndV
    rw [List.map_map]
    rfl
  have hv67 := e7n.lst _ _ hv6 id
  rw [hrn] at h7 hv67
  refine ⟨_, _, dpInts hv67, dpInts h7, shInts _, shInts _, ?_⟩
  walk_at "s"
  refine ifB (fun z => absurd z (by rw [eqInts]; simp)) (fun _ => ?_)
  exact (law_E T tk cdv A outer s H0 E hr).choose_spec.2 D _ _ _ _ _ _ _ _ _ _ _ _ _ _ _ _ _ _ _ _ _ _  a dq q cs day H7 (E7.gd gd) (dice.ext E7 id) (C.ext E7.no) hday fun σ2 H2 e => hD σ2 H2 (E7.no.trans e)
end K03

set_option Elab.async false
set_option linter.all false
set_option maxRecDepth 100000
set_option maxHeartbeats 2000000
namespace K03
open PySem PySem.Spec PyProof.Rows L2 MB
local macro_rules | `(tactic| walk_at "s") => `(tactic| repeat (first | refine ⟨_, rfl, ?_⟩ | refine ⟨_, _, rfl, rfl, ?_⟩ | refine ⟨_, _, rfl, ?_⟩ | refine ⟨rfl, ?_⟩))
variable {P : Program} {w : World} {K : PySem.W.Frag} {mg : Str → Option Value} {base : Heap}
theorem law_C (T : Tx K mg base) (tk : TOk (TT K)) (cdv : Value) (A : Around) (outer : List Env) (s : Shared) (H0 : Hp) (E : XK) (hr : Room 39 (A.deeper (envOfC "law" (defScope s_law) s.heap.objs.size (He.fAd K ("law", none)) cdv))) :
    ∃ t, PSs (cxOf (L2.CX P w) P w K mg base ["script", "dice", "parts", "length", "first", "moons", "number", "part", "k", "day", "last", "before", "age", "cycles", "size", "whole", "offset", "days", "one", "places", "place", "cycle", "other", "most", "rows", "ones", "others"] "law" (defScope s_law) (He.fAd K ("law", none)) cdv A outer s H0 E) (lawBody.drop 10) t ∧
      ∀ (D : Ends) (v_parts v_length v_first v_moons v_number v_part v_k v_last v_before v_age v_cycles v_size v_whole v_offset v_days v_one v_places v_place v_cycle v_other v_most v_rows v_ones v_others : Option V) (a dq : Addr) (day : Nat) (H' : Hp), Gd (TT K) H' → DiceAt H' dq → day < 400 →  (∀ σ2 H2, Ext (TT K) (· = dq) H' H2 → D.nx σ2 H2) → t D [some (.ref a), some (.ref dq), v_parts, v_length, v_first, v_moons, v_number, v_part, v_k, some (.int (day : Nat)), v_last, v_before, v_age, v_cycles, v_size, v_whole, v_offset, v_days, v_one, v_places, v_place, v_cycle, v_other, v_most, v_rows, v_ones, v_others] H' := by
  have ok_meeting := fun T : Tx K mg base => ok_meeting (P := P) (w := w) T tk
  have ok_round_of := fun T : Tx K mg base => ok_round_of (P := P) (w := w) T tk
  have ok_day_with := fun T : Tx K mg base => ok_day_with (P := P) (w := w) T tk
  refine ⟨_, (pss_cons (ps_set (i := 13) sc_law.nd rfl (Or.inr rfl) (pe_lstN (T := TT K) pa_nil))
 (pss_cons (ps_for (passes_of rfl) rfl (pi_range1 rfl T.b_range (pa_cons (pe_op op_add pe_int (pe_call (ok_law_roll T) (hr.mono (by decide)) rfl T.g_law_roll T.F_law_roll.kp (bi_law_roll T) .nil (passes_call (takes_of rfl rfl rfl rfl) fun _ _ _ _ h => h) (pa_cons (pv 1) (pa_cons pe_int pa_nil)))) pa_nil)) (pg_name (i := 8) sc_law.nd rfl (Or.inl rfl)) (pss_cons (ps_set (i := 14) sc_law.nd rfl (Or.inl rfl) (pe_op op_add pe_int (pe_call (ok_law_roll T) (hr.mono (by decide)) rfl T.g_law_roll T.F_law_roll.kp (bi_law_roll T) .nil (passes_call (takes_of rfl rfl rfl rfl) fun _ _ _ _ h => h) (pa_cons (pv 1) (pa_cons pe_int pa_nil)))))
 (pss_one (ps_expr (pe_bmK (K := K) rfl PySem.F.plainAttrs_list PySem.F.slot_list_append PySem.F.type_list_append (mt_appN (T := TT K)) (pv 13) (pa_cons (pe_tupN (T := TT K) (pa_cons (pv 14) (pa_cons (pe_call (ok_law_roll T) (hr.mono (by decide)) rfl T.g_law_roll T.F_law_roll.kp (bi_law_roll T) .nil (passes_call (takes_of rfl rfl rfl rfl) fun _ _ _ _ h => h) (pa_cons (pv 1) (pa_cons (pv 14) pa_nil))) pa_nil))) pa_nil))))))
 (pss_cons (ps_set (i := 15) sc_law.nd rfl (Or.inr rfl) pe_int)
 (pss_cons (ps_while (passes_of rfl) (pt_cmpR (op_neDK (K := K) rfl hr.units) (pe_lc rfl sc_law.nd (pi_listK (K := K) rfl (pv 13)) (blkOk_by (N := ["script", "dice", "parts", "length", "first", "moons", "number", "part", "k", "day", "last", "before", "age", "cycles", "size", "whole", "offset", "days", "one", "places", "place", "cycle", "other", "most", "rows", "ones", "others"]) (sc := defScope s_law) (own := [("size", 14), ("offset", 16)]) (by decide +kernel)) (fun _ _ _ _ _ => (pg_tupK (K := K) (n := 2) rfl rfl (pgs_cons (pg_name (i := 14) sc_law.nd rfl (by first | exact Or.inl rfl | exact Or.inr rfl)) (pgs_cons (pg_name (i := 16) sc_law.nd rfl (by first | exact Or.inl rfl | exact Or.inr rfl)) pgs_nil)))) (fun _ _ _ _ _ => (pts_one (pt_cmpR op_ne (pe_op op_mod (pv 15) (pv 14)) pe_int (nomark _)))) (fun _ _ _ _ _ => pe_int)) (pe_lstN (T := TT K) pa_nil) (nomark _)) (pss_one (ps_set (i := 15) sc_law.nd rfl (Or.inr rfl) (pe_op op_add (pv 15) pe_int))))
 (pss_cons (ps_setLc (i := 17) rfl sc_law.nd rfl rfl rfl (pi_range1 rfl T.b_range (pa_cons (pv 15) pa_nil)) (blkOk_by (N := ["script", "dice", "parts", "length", "first", "moons", "number", "part", "k", "day", "last", "before", "age", "cycles", "size", "whole", "offset", "days", "one", "places", "place", "cycle", "other", "most", "rows", "ones", "others"]) (sc := defScope s_law) (own := [("one", 18)]) (by decide +kernel)) (fun _ _ _ _ _ => (pg_name (i := 18) sc_law.nd rfl (by first | exact Or.inl rfl | exact Or.inr rfl))) (fun _ _ _ _ _ => (pts_one (pt_cmpR (op_eqDK (K := K) rfl hr.units) (pe_lc rfl sc_law.nd (pi_listK (K := K) rfl (pv 13)) (blkOk_by (own := [("size", 14), ("offset", 16)]) (by rfl)) (fun _ _ _ _ _ => (pg_tupK (K := K) (n := 2) rfl rfl (pgs_cons (pg_name (i := 14) sc_law.nd rfl (by first | exact Or.inl rfl | exact Or.inr rfl)) (pgs_cons (pg_name (i := 16) sc_law.nd rfl (by first | exact Or.inl rfl | exact Or.inr rfl)) pgs_nil)))) (fun _ _ _ _ _ => (pts_one (pt_cmpR op_ne (pe_op op_mod (pv 18) (pv 14)) (pv 16) (nomark _)))) (fun _ _ _ _ _ => pe_int)) (pe_lstN (T := TT K) pa_nil) (nomark _)))) (fun _ _ _ _ _ => (pv 18)))
 (law_D T tk cdv A outer s H0 E hr).choose_spec.1))))), ?_⟩
  intro D v_parts v_length v_first v_moons v_number v_part v_k v_last v_before v_age v_cycles v_size v_whole v_offset v_days v_one v_places v_place v_cycle v_other v_most v_rows v_ones v_others a dq day H' gd dice hday hD
  walk_at "s"
  refine ⟨sz, fun q H1 hq hv1 e1 => ?_⟩
  have qd : ¬ q = dq := fun z => by obtain ⟨x, y, z2, dice⟩ := dice; rw [z, dice] at hq; cases hq
  walk_at "s"
  refine ⟨dice.ext e1 id, by decide, by decide, fun r H2 hr2 hd2 e2 => ?_⟩
  have hv2 := e2.lst _ _ hv1 qd
  walk_at "s"
  refine ⟨by omega, by omega, ?_⟩
  have hn : (1 + (r : Int)).toNat = r + 1 := by omega
  rw [hn]
  have E2 : Ext (TT K) (fun b => b = q ∨ b = dq) H' H2 := (e1.no).trans (e2.more fun b z => .inr z)
  refine for_range (fun i σ2 H3 => ∃ (cs : MM.Cyc) (ts : List Addr) (u v : Option V), σ2 = [some (.ref a), some (.ref dq), v_parts, v_length, v_first, v_moons, v_number, v_part, u, some (.int (day : Nat)), v_last, v_before, v_age, some (.ref q), v, v_whole, v_offset, v_days, v_one, v_places, v_place, v_cycle, v_other, v_most, v_rows, v_ones, v_others] ∧ H3 q = some (.lst (ts.map V.ref)) ∧ CycT H3 ts cs ∧ cs.length = i ∧ (∀ c ∈ cs, 1 ≤ c.1 ∧ c.1 ≤ 9) ∧ (∀ c ∈ cs, c.2 < c.1) ∧ DiceAt H3 dq ∧ Ext (TT K) (fun b => b = q ∨ b = dq) H' H3) ⟨[], [], _, _, rfl, hv2, cycnil, rfl, fun c z => by simp at z, fun c z => by simp at z, hd2, E2⟩ ?_ ?_
  · rintro i σ2 H3 hi ⟨cs, ts, u, v, rfl, h3, hT, hl, hr9, ho9, hd3, e3⟩
    walk_at "s"
    refine ⟨hd3, by decide, by decide, fun s9 H4 hs9 hd4 e4 => ?_⟩
    have h4 := e4.lst _ _ h3 qd
    walk_at "s"
    have f1 : (1 : Int) + (s9 : Int) = ((s9 + 1 : Nat) : Int) := by omega
    have o1 : 1 ≤ s9 + 1 ∧ s9 + 1 ≤ 9 := by omega
    refine ⟨.inl ⟨rfl, _, .inl (.inl h4)⟩, ?_⟩
    walk_at "s"
    refine ⟨hd4, (by show (1 : Int) ≤ 1 + (s9 : Int); omega), (by show 1 + (s9 : Int) ≤ 100000000; omega), fun r5 H5 hr5 hd5 e5 => ?_⟩
    have hr5 : (r5 : Int) < 1 + (s9 : Int) := hr5
    have h5 := e5.lst _ _ h4 qd
    walk_at "s"
    refine ⟨sz, fun t6 H6 ht6 hv6 e6 => ?_⟩
    have hv6 : H6 t6 = some (.tup [.int ((s9 + 1 : Nat) : Int), .int (r5 : Nat)]) := by
      rw [hv6, ← f1]
    have h6 := e6.lst _ _ h5 id
    have hlt := hT.1
    refine ⟨q, _, _, rfl, rfl, h6, by rw [List.length_map, hlt]; exact szl (by omega), fun H8 h8 e8 => ?_⟩
    have e58 : Ext (TT K) (fun b => b = q ∨ b = dq) H3 H8 := (((e4.trans e5).more fun b z => .inr z).trans e6.no).trans (e8.more fun b z => .inl z)
    refine ⟨cs ++ [(s9 + 1, r5)], ts ++ [t6], _, _, rfl, by rw [List.map_append]; exact h8, cycsnoc (hT.ext e58) (e8.fix _ _ hv6 rfl), by rw [List.length_append, hl]; rfl, fun c hc => ?_, fun c hc => ?_, (hd5.ext e6 id).ext e8 (Ne.symm qd), e3.trans e58⟩
    · rcases List.mem_append.mp hc with hc | hc
      · exact hr9 c hc
      · have hc : c = (s9 + 1, r5) := by simpa using hc
        rw [hc]
        exact o1
    · rcases List.mem_append.mp hc with hc | hc
      · exact ho9 c hc
      · have hc : c = (s9 + 1, r5) := by simpa using hc
        rw [hc]
        show r5 < s9 + 1
        omega
  rintro σ2 H3 ⟨cs, ts, u, v, rfl, h3, hT, hl, hr9, ho9, hd3, e3⟩
  have E3 : Ext (TT K) (· = dq) H' H3 := e3.mono fun b z => z.elim (fun z => .inr (by rw [z]; exact NoM.of hq)) .inl
  have C : CS H3 q dq cs := ⟨⟨ts, h3, hT⟩, qd, by omega, by omega, hr9, ho9⟩
  have gd3 := E3.gd gd
  clear e3 E2 hv2 hd2 e1 e2 hv1 hq
  have hlen : (ts.map V.ref).length = cs.length := by rw [List.length_map, hT.1]
  have three := C.three
  obtain ⟨W0, W1⟩ := C.lcm
  walk_at "s"
  refine ⟨fun m σ3 H4 => ∃ w : Nat, σ3 = [some (.ref a), some (.ref dq), v_parts, v_length, v_first, v_moons, v_number, v_part, u, some (.int (day : Nat)), v_last, v_before, v_age, some (.ref q), v, some (.int (w : Nat)), v_offset, v_days, v_one, v_places, v_place, v_cycle, v_other, v_most, v_rows, v_ones, v_others] ∧ Ext (TT K) No H3 H4 ∧ 0 < w ∧ w ≤ MM.lcmC cs ∧ m = MM.lcmC cs - w, ⟨MM.lcmC cs - 1, 1, rfl, .refl, by decide, W0, rfl⟩, ?_⟩
  rintro m σ3 H4 ⟨w, rfl, e4, hw0, hwW, rfl⟩
  have h4 := e4.lst _ _ h3 id
  have hT4 := hT.ext e4
  walk_at "s"
  refine ⟨⟨_, SqL.of h4⟩, fun D1 hD1 => ?_⟩
  have hqD : ¬ q = D1 := fun z => by rw [z, hD1] at h4; cases h4
  refine lc_list (xs := ts.map V.ref) (fun i H5 => ∃ m, H5 D1 = some (.lst (List.replicate m (.int 1))) ∧ (m = 0 ↔ ∀ r ∈ cs.take i, r.1 ∣ w) ∧ m ≤ i ∧ Ext (TT K) (· = D1) H4 H5) ⟨0, upd_same, by simp, Nat.le_refl _, (Ext.new hD1).no⟩ (fun i H5 _ ⟨_, _, _, _, e⟩ => SqL.of (e.lst _ _ h4 hqD)) ?_ ?_
  · rintro i x H5 hx ⟨m, h5, hm, hmi, e5⟩
    obtain ⟨t, c, rfl, ht, hc, hvt⟩ := hT4.get hx
    have c9 := C.rng c (List.mem_of_getElem? hc)
    have hi := (List.getElem?_eq_some_iff.mp hc).1
    have htk : cs.take (i + 1) = cs.take i ++ [c] := by rw [List.take_add_one, hc]; rfl
    refine ⟨_, _, rfl, SqT.of (e5.fix _ _ hvt rfl), rfl, ?_⟩
    walk_at "s"
    refine ⟨by omega, ?_⟩
    walk_at "s"
    refine ifB (fun q1 => ?_) (fun q1 => ?_)
    · have q1 : ¬ c.1 ∣ w := fun z => by
        have q1 : ¬ ((w : Int) % (c.1 : Int) = 0) := by simpa using q1
        exact q1 (mod0.mpr z)
      refine ⟨_, h5, by rw [List.length_replicate]; exact szl (by omega), m + 1, by rw [List.replicate_succ']; exact upd_same, ⟨fun z => by omega, fun z => absurd (z c (by rw [htk]; simp)) q1⟩, by omega, e5.trans (Ext.set h5 rfl)⟩
    · have q1 : c.1 ∣ w := by
        have q1 : (w : Int) % (c.1 : Int) = 0 := by simpa using q1
        exact mod0.mp q1
      refine ⟨m, h5, ?_, by omega, e5⟩
      rw [hm, htk]
      simp only [List.mem_append, List.mem_singleton]
      refine ⟨fun z x hx => hx.elim (z x) fun e => by rw [e]; exact q1, fun z x hx => z x (.inl hx)⟩
  rintro H5 ⟨m, h5, hm, hmi, e5⟩
  rw [hlen, List.take_length, ← MM.lcmC_dvd] at hm
  have e5n := e5.mono1 (NoM.of hD1)
  walk_at "s"
  refine ⟨sz, fun l0 H6 hl0 hv0 e6 => ?_⟩
  refine ⟨_, _, dpOnes (e6.lst _ _ h5 id), .lst (SqL.of hv0) .nil, shOnes _, rfl, ?_⟩
  have E6 := (e4.trans e5n).trans e6
  walk_at "s"
  refine ifB (fun q1 => ?_) (fun q1 => ?_)
  · have q1 : ¬ m = 0 := fun z => by
      rw [eqOnes] at q1
      simp [z] at q1
    have hnd : ¬ MM.lcmC cs ∣ w := fun z => q1 (hm.mpr z)
    have hne : w ≠ MM.lcmC cs := fun z => hnd (by rw [z]; exact Nat.dvd_refl _)
    refine ⟨_, fun _ _ h => h, ?_⟩
    walk_at "s"
    exact ⟨MM.lcmC cs - (w + 1), by omega, w + 1, rfl, E6, by omega, by omega, rfl⟩
  have q1 : m = 0 := by
    rw [eqOnes] at q1
    simpa using q1
  obtain rfl : w = MM.lcmC cs := Nat.le_antisymm hwW (Nat.le_of_dvd hw0 (hm.mp q1))
  have C6 := C.ext E6.no
  have gd6 := E6.gd gd3
  have hd6 := hd3.ext E6 id
  have E7 := E3.trans E6.no
  clear h3 hT h4 hT4 hqD hD1 h5 hm hmi e5 e5n e6 hv0 hl0 e4 E3 C hd3 gd3 E6 hlen
  obtain ⟨ts, q1, q2⟩ := C6.at_
  have hlen : (ts.map V.ref).length = cs.length := by rw [List.length_map, q2.1]
  -- the days
  walk_at "s"
  refine ⟨by omega, by omega, fun D2 hD2 => ?_⟩
  have hD2d : D2 ≠ dq := fun z => by obtain ⟨x, y, z2, dice⟩ := hd6; rw [← z, hD2] at dice; cases dice
  rw [Int.toNat_natCast]
  refine lc_range (fun i H7 => H7 D2 = some (.lst ((MM.daysB cs i).map fun n => V.int (n : Nat))) ∧ Ext (TT K) (· = D2) H6 H7) ⟨upd_same, (Ext.new hD2).no⟩ ?_ ?_
  · rintro i H7 hi ⟨h7, e7⟩
    have hdl : (MM.daysB cs i).length ≤ i := by
      unfold MM.daysB
      exact Nat.le_trans (List.length_filter_le _ _) (by rw [List.length_range]; exact Nat.le_refl _)
    have hds : MM.daysB cs (i + 1) = MM.daysB cs i ++ (if MM.satB cs i = true then [i] else []) := by
      unfold MM.daysB
      rw [List.range_succ, List.filter_append]
      congr 1
      by_cases z : MM.satB cs i = true
      · rw [if_pos z]; simp [z]
      · rw [if_neg z]; simp [z]
    have hqD2 : ¬ q = D2 := fun z => by rw [z, hD2] at q1; cases q1
    have q17 := e7.lst _ _ q1 hqD2
    have q27 := q2.ext e7
    walk_at "s"
    refine ⟨⟨_, SqL.of q17⟩, fun D3 hD3 => ?_⟩
    have hqD3 : ¬ q = D3 := fun z => by rw [z, hD3] at q17; cases q17
    refine lc_list (xs := ts.map V.ref) (fun j H8 => ∃ m, H8 D3 = some (.lst (List.replicate m (.int 1))) ∧ (m = 0 ↔ ∀ c ∈ cs.take j, i % c.1 = c.2) ∧ m ≤ j ∧ Ext (TT K) (· = D3) H7 H8) ⟨0, upd_same, by simp, Nat.le_refl _, (Ext.new hD3).no⟩ (fun j H8 _ ⟨_, _, _, _, e⟩ => SqL.of (e.lst _ _ q17 hqD3)) ?_ ?_
    · rintro j x H8 hx ⟨m, h8, hm, hmj, e8⟩
      obtain ⟨t, c, rfl, ht, hc, hvt⟩ := q27.get hx
      have c9 := C6.rng c (List.mem_of_getElem? hc)
      have hj := (List.getElem?_eq_some_iff.mp hc).1
      have htk : cs.take (j + 1) = cs.take j ++ [c] := by rw [List.take_add_one, hc]; rfl
      refine ⟨_, _, rfl, SqT.of (e8.fix _ _ hvt rfl), rfl, ?_⟩
      walk_at "s"
      refine ⟨by omega, ?_⟩
      walk_at "s"
      have hmod : (0 + (i : Int)) % ((c.1 : Nat) : Int) = ((c.2 : Nat) : Int) ↔ i % c.1 = c.2 := by
        rw [Int.zero_add, ← Int.natCast_emod]
        exact Int.natCast_inj
      refine ifB (fun q3 => ?_) (fun q3 => ?_)
      · have q3 : ¬ i % c.1 = c.2 := fun z => by
          have q3 : ¬ (0 + (i : Int)) % ((c.1 : Nat) : Int) = ((c.2 : Nat) : Int) := by simpa using q3
          exact q3 (hmod.mpr z)
        refine ⟨_, h8, by rw [List.length_replicate]; exact szl (by omega), m + 1, by rw [List.replicate_succ']; exact upd_same, ⟨fun z => by omega, fun z => absurd (z c (by rw [htk]; simp)) q3⟩, by omega, e8.trans (Ext.set h8 rfl)⟩
      · have q3 : i % c.1 = c.2 := by
          have q3 : (0 + (i : Int)) % ((c.1 : Nat) : Int) = ((c.2 : Nat) : Int) := by simpa using q3
          exact hmod.mp q3
        refine ⟨m, h8, ?_, by omega, e8⟩
        rw [hm, htk]
        simp only [List.mem_append, List.mem_singleton]
        refine ⟨fun z x hx => hx.elim (z x) fun e => by rw [e]; exact q3, fun z x hx => z x (.inl hx)⟩
    rintro H8 ⟨m, h8, hm, hmj, e8⟩
    rw [hlen, List.take_length] at hm
    have e8n := e8.mono1 (NoM.of hD3)
    walk_at "s"
    refine ⟨sz, fun l0 H9 hl0 hv0 e9 => ?_⟩
    refine ⟨_, _, dpOnes (e9.lst _ _ h8 id), .lst (SqL.of hv0) .nil, shOnes _, rfl, ?_⟩
    have e89 := e8n.trans e9
    walk_at "s"
    have hsat : m = 0 ↔ MM.satB cs i = true := by rw [hm, MM.satB_iff]; rfl
    have h79 := e89.lst _ _ h7 id
    rw [hds]
    refine ifB (fun q3 => ?_) (fun q3 => ?_)
    · have q3 : m = 0 := by
        rw [eqOnes] at q3
        simpa using q3
      rw [if_pos (hsat.mp q3)]
      walk_at "s"
      refine ⟨_, h79, by rw [List.length_map]; exact szm (by omega), ?_, (e7.trans e89.no).trans (Ext.set h79 rfl)⟩
      rw [List.map_append, upd_same]
      show some (HO.lst (_ ++ [V.int (0 + (i : Int))])) = _
      rw [Int.zero_add]
      rfl
    · have q3 : ¬ m = 0 := fun z => by
        rw [eqOnes] at q3
        simp [z] at q3
      rw [if_neg fun z => q3 (hsat.mpr z), List.append_nil]
      exact ⟨h79, e7.trans e89.no⟩
  rintro H7 ⟨h7, e7⟩
  have e7n := e7.mono1 (NoM.of hD2)
  walk_at "s"
  exact (law_D T tk cdv A outer s H0 E hr).choose_spec.2 D _ _ _ _ _ _ _ _ _ _ _ _ _ _ _ _ _ _ _ _ _  a dq q cs day D2 H7 (e7n.gd gd6) (hd6.ext e7n id) (C6.ext e7n.no) hday hD2d h7 fun σ2 H2 e => hD σ2 H2 (E7.trans (e7n.no.trans e))
end K03

set_option Elab.async false
set_option linter.all false
set_option maxRecDepth 100000
set_option maxHeartbeats 2000000
namespace K03
open PySem PySem.Spec PyProof.Rows L2 MB
local macro_rules | `(tactic| walk_at "s") => `(tactic| repeat (first | refine ⟨_, rfl, ?_⟩ | refine ⟨_, _, rfl, rfl, ?_⟩ | refine ⟨_, _, rfl, ?_⟩ | refine ⟨rfl, ?_⟩))
variable {P : Program} {w : World} {K : PySem.W.Frag} {mg : Str → Option Value} {base : Heap}
theorem nm_le {L p f : Nat} (ok : MOk L p f) {k d : Nat} : nm L p f k ≤ d ↔ k ≤ mo L p f d := by
  have p0 := ok.p0
  have f1 := ok.f1
  have lo := ok.lo
  unfold nm mo
  rw [← Nat.lt_succ_iff, Nat.div_lt_iff_lt_mul p0, Nat.le_div_iff_mul_le (show 0 < L by omega), Nat.succ_mul]
  omega
theorem nm_two {L p f : Nat} (ok : MOk L p f) (k : Nat) : 2 * k ≤ nm L p f k := by
  unfold nm
  rw [Nat.le_div_iff_mul_le ok.p0]
  have h := Nat.mul_le_mul_left k ok.lo
  have e : 2 * k * p = k * (2 * p) := by rw [Nat.mul_comm 2 k, Nat.mul_assoc]
  omega
theorem nm_lt {L p f : Nat} (ok : MOk L p f) {a b : Nat} (h : a < b) : nm L p f a < nm L p f b := by
  have p0 := ok.p0
  have h1 : nm L p f a * p ≤ f + a * L := Nat.div_mul_le_self _ _
  show _ < (f + b * L) / p
  rw [← Nat.succ_le_iff, Nat.le_div_iff_mul_le p0, Nat.succ_mul]
  have h2 : (a + 1) * L ≤ b * L := Nat.mul_le_mul_right _ h
  rw [Nat.succ_mul] at h2
  have := ok.lo
  omega
theorem mo_half {L p f : Nat} (ok : MOk L p f) (d : Nat) : 2 * mo L p f d ≤ d := Nat.le_trans (nm_two ok _) ((nm_le ok).mpr (Nat.le_refl _))
theorem ms_le {L p f : Nat} (ok : MOk L p f) {k d : Nat} : d ≤ nm L p f k ↔ msLo L p f d ≤ k := by
  have h0 : nm L p f (mo L p f d) ≤ d := (nm_le ok).mpr (Nat.le_refl _)
  unfold msLo
  rcases Nat.lt_trichotomy k (mo L p f d) with h | h | h
  · have := nm_lt ok h
    split <;> omega
  · subst h
    split <;> omega
  · have h3 : ¬ nm L p f k ≤ d := fun z => by have := (nm_le ok).mp z; omega
    split <;> omega
def befB (L p f d : Nat) : Nat → Bool := fun k => decide (nm L p f k ≤ d)
def witB (L p f d e : Nat) : Nat → Bool := fun k => decide (d ≤ nm L p f k) && decide (nm L p f k ≤ e)
theorem bef_len {L p f d : Nat} (ok : MOk L p f) (hd : d < 400) : ((List.range 300).filter (befB L p f d)).length = mo L p f d + 1 := by
  rw [MM.filter_rg (lo := 0) (hi := mo L p f d + 1) (fun k => by unfold befB; rw [decide_eq_true_iff, nm_le ok]; omega), List.length_range']
  have := mo_half ok d
  omega
theorem wit_rg {L p f d e : Nat} (ok : MOk L p f) (he : e < 500) : ((List.range 400).filter (witB L p f d e)).map (fun n : Nat => V.int (n : Nat)) = rgV (msLo L p f d : Nat) ((mo L p f e : Nat) + 1) := by
  rw [MM.filter_rg (lo := msLo L p f d) (hi := mo L p f e + 1) (fun k => by unfold witB; rw [Bool.and_eq_true, decide_eq_true_iff, decide_eq_true_iff, nm_le ok, ms_le ok]; omega)]
  have := mo_half ok e
  have e1 : min (mo L p f e + 1) 400 = mo L p f e + 1 := by omega
  rw [e1]
  unfold rgV
  have e2 : (((mo L p f e : Nat) : Int) + 1 - ((msLo L p f d : Nat) : Int)).toNat = mo L p f e + 1 - msLo L p f d := by omega
  rw [e2, List.range'_eq_map_range, List.map_map]
  refine List.map_congr_left fun i _ => ?_
  show V.int (((msLo L p f d + i : Nat)) : Int) = _
  rw [Int.natCast_add]
theorem law_B (T : Tx K mg base) (tk : TOk (TT K)) (cdv : Value) (A : Around) (outer : List Env) (s : Shared) (H0 : Hp) (E : XK) (hr : Room 39 (A.deeper (envOfC "law" (defScope s_law) s.heap.objs.size (He.fAd K ("law", none)) cdv))) :
    ∃ t, PSs (cxOf (L2.CX P w) P w K mg base ["script", "dice", "parts", "length", "first", "moons", "number", "part", "k", "day", "last", "before", "age", "cycles", "size", "whole", "offset", "days", "one", "places", "place", "cycle", "other", "most", "rows", "ones", "others"] "law" (defScope s_law) (He.fAd K ("law", none)) cdv A outer s H0 E) (lawBody.drop 6) t ∧
      ∀ (D : Ends) (v_number v_part v_k v_day v_last v_before v_age v_cycles v_size v_whole v_offset v_days v_one v_places v_place v_cycle v_other v_most v_rows v_ones v_others : Option V) (a dq : Addr) (mp : Addr) (L p f : Nat) (H' : Hp), Gd (TT K) H' → DiceAt H' dq → MoonsAt (MC K) H' mp L p f → MOk L p f → p ≤ 20 →  (∀ σ2 H2, Ext (TT K) (· = dq) H' H2 → D.nx σ2 H2) → t D [some (.ref a), some (.ref dq), some (.int (p : Nat)), some (.int (L : Nat)), some (.int (f : Nat)), some (.ref mp), v_number, v_part, v_k, v_day, v_last, v_before, v_age, v_cycles, v_size, v_whole, v_offset, v_days, v_one, v_places, v_place, v_cycle, v_other, v_most, v_rows, v_ones, v_others] H' := by
  have ok_meeting := fun T : Tx K mg base => ok_meeting (P := P) (w := w) T tk
  have ok_round_of := fun T : Tx K mg base => ok_round_of (P := P) (w := w) T tk
  have ok_day_with := fun T : Tx K mg base => ok_day_with (P := P) (w := w) T tk
  refine ⟨_, (pss_cons (ps_asg (pe_tupN (T := TT K) (pa_cons (pe_call (ok_law_roll T) (hr.mono (by decide)) rfl T.g_law_roll T.F_law_roll.kp (bi_law_roll T) .nil (passes_call (takes_of rfl rfl rfl rfl) fun _ _ _ _ h => h) (pa_cons (pv 1) (pa_cons pe_int pa_nil))) (pa_cons (pe_call (ok_law_roll T) (hr.mono (by decide)) rfl T.g_law_roll T.F_law_roll.kp (bi_law_roll T) .nil (passes_call (takes_of rfl rfl rfl rfl) fun _ _ _ _ h => h) (pa_cons (pv 1) (pa_cons pe_int pa_nil))) pa_nil))) (pg_tupK (K := K) (n := 2) rfl rfl (pgs_cons (pg_name (i := 9) sc_law.nd rfl (Or.inr rfl)) (pgs_cons (pg_name (i := 10) sc_law.nd rfl (Or.inr rfl)) pgs_nil))))
 (pss_cons (ps_setLc (i := 11) rfl sc_law.nd rfl rfl rfl (pi_range1 rfl T.b_range (pa_cons pe_int pa_nil)) (blkOk_by (N := ["script", "dice", "parts", "length", "first", "moons", "number", "part", "k", "day", "last", "before", "age", "cycles", "size", "whole", "offset", "days", "one", "places", "place", "cycle", "other", "most", "rows", "ones", "others"]) (sc := defScope s_law) (own := [("k", 8)]) (by decide +kernel)) (fun _ _ _ _ _ => (pg_name (i := 8) sc_law.nd rfl (by first | exact Or.inl rfl | exact Or.inr rfl))) (fun _ _ _ _ _ => (pts_one (pt_cmpR op_le (pe_op op_fdiv (pe_op op_add (pv 4) (pe_op op_mul (pv 8) (pv 3))) (pv 2)) (pv 9) (nomark _)))) (fun _ _ _ _ _ => (pv 8)))
 (pss_cons (ps_set (i := 12) sc_law.nd rfl (Or.inl rfl) (pe_op op_sub (pv 9) (pe_op op_fdiv (pe_op op_add (pv 4) (pe_op op_mul (pe_op op_sub (pe_callB (call_lenK (K := K) rfl) rfl T.b_len (by decide +kernel) (pa_cons (pv 11) pa_nil)) pe_int) (pv 3))) (pv 2))))
 (pss_cons (ps_if (PW.pt (pw_or (pt_cmpR (op_neDK (K := K) rfl hr.units) (pe_meth (pv 5) T.c_Moons T.m_Moons_moon_of (ok_Moons_moon_of T) (hr.mono (by decide)) (bi_Moons_moon_of T) .nil (passes_call (takes_of rfl rfl rfl rfl) fun _ _ _ _ h => h) (pa_cons (pv 9) pa_nil)) (pe_tupN (T := TT K) (pa_cons (pe_op op_sub (pe_callB (call_lenK (K := K) rfl) rfl T.b_len (by decide +kernel) (pa_cons (pv 11) pa_nil)) pe_int) (pa_cons (pv 12) pa_nil))) (nomark _)) (pw_or1 (pt_cmpR (op_neDK (K := K) rfl hr.units) (pe_callTy (MB.call_listN (T := TT K) (K := K) rfl) rfl T.b_list (by decide +kernel) (pa_cons (pe_meth (pv 5) T.c_Moons T.m_Moons_moons_in (ok_Moons_moons_in T) (hr.mono (by decide)) (bi_Moons_moons_in T) .nil (passes_call (takes_of rfl rfl rfl rfl) fun _ _ _ _ h => h) (pa_cons (pv 9) (pa_cons (pe_op op_add (pv 9) (pv 10)) pa_nil))) pa_nil)) (pe_lc rfl sc_law.nd (pi_range1 rfl T.b_range (pa_cons pe_int pa_nil)) (blkOk_by (N := ["script", "dice", "parts", "length", "first", "moons", "number", "part", "k", "day", "last", "before", "age", "cycles", "size", "whole", "offset", "days", "one", "places", "place", "cycle", "other", "most", "rows", "ones", "others"]) (sc := defScope s_law) (own := [("k", 8)]) (by decide +kernel)) (fun _ _ _ _ _ => (pg_name (i := 8) sc_law.nd rfl (by first | exact Or.inl rfl | exact Or.inr rfl))) (fun _ _ _ _ _ => (pts_one (pt_chain op_le op_le (pv 9) (pe_op op_fdiv (pe_op op_add (pv 4) (pe_op op_mul (pv 8) (pv 3))) (pv 2)) (pe_op op_add (pv 9) (pv 10))))) (fun _ _ _ _ _ => (pv 8))) (nomark _))))) (pss_one (ps_ret pe_bl)) pss_nil)
 (law_C T tk cdv A outer s H0 E hr).choose_spec.1)))), ?_⟩
  intro D v_number v_part v_k v_day v_last v_before v_age v_cycles v_size v_whole v_offset v_days v_one v_places v_place v_cycle v_other v_most v_rows v_ones v_others a dq mp L p f H' gd dice hM ok hp hD
  obtain ⟨p0, p1, lo, hi, f1⟩ := id ok
  walk_at "s"
  refine ⟨dice, by decide, by decide, fun day H1 hday hd1 e1 => ?_⟩
  walk_at "s"
  refine ⟨hd1, by decide, by decide, fun last H2 hlast hd2 e2 => ?_⟩
  walk_at "s"
  refine ⟨sz, fun t3 H3 ht3 hv3 e3 => ?_⟩
  refine ⟨_, _, rfl, SqT.of hv3, rfl, ?_⟩
  have E3 : Ext (TT K) (· = dq) H' H3 := (e1.trans e2).trans e3.no
  have hd3 := hd2.ext e3 id
  have hM3 := hM.ext E3
  clear e1 e2 e3 ht3 hv3 hd1 hd2 hM dice
  walk_at "s"
  refine ⟨by decide, by decide, fun D1 hD1 => ?_⟩
  have h300 : (300 : Int).toNat = 300 := rfl
  rw [h300]
  have snocF : ∀ (g : Nat → Bool) (i : Nat), (List.range (i + 1)).filter g = (List.range i).filter g ++ (if g i = true then [i] else []) := fun g i => by
    rw [List.range_succ, List.filter_append]
    congr 1
    by_cases z : g i = true
    · rw [if_pos z]; simp [z]
    · rw [if_neg z]; simp [z]
  have lenF : ∀ (g : Nat → Bool) (i : Nat), ((List.range i).filter g).length ≤ i := fun g i => Nat.le_trans (List.length_filter_le _ _) (by rw [List.length_range]; exact Nat.le_refl _)
  have nmI : ∀ k : Nat, ((f : Int) + (k : Int) * (L : Int)) / (p : Int) = ((nm L p f k : Nat) : Int) := fun k => by
    unfold nm
    rw [Int.natCast_ediv, Int.natCast_add, Int.natCast_mul]
  refine lc_range (fun i H4 => H4 D1 = some (.lst (((List.range i).filter (befB L p f day)).map fun n => V.int (n : Nat))) ∧ Ext (TT K) (· = D1) H3 H4) ⟨upd_same, (Ext.new hD1).no⟩ ?_ ?_
  · rintro i H4 hi ⟨h4, e4⟩
    have hl := lenF (befB L p f day) i
    walk_at "s"
    refine ⟨.inr ⟨by omega, by omega⟩, ?_⟩
    walk_at "s"
    refine ⟨⟨by omega, by omega⟩, ?_⟩
    walk_at "s"
    rw [Int.zero_add, nmI]
    rw [snocF]
    refine ifB (fun q1 => ?_) (fun q1 => ?_)
    · have q1 : befB L p f day i = true := by
        have q1 : ((nm L p f i : Nat) : Int) ≤ (day : Nat) := by simpa using q1
        unfold befB
        exact decide_eq_true (by omega)
      rw [if_pos q1]
      walk_at "s"
      refine ⟨_, h4, by rw [List.length_map]; exact szm (by omega), ?_, e4.trans (Ext.set h4 rfl)⟩
      rw [List.map_append, upd_same]
      rfl
    · have q1 : ¬ befB L p f day i = true := fun z => by
        have q1 : ¬ ((nm L p f i : Nat) : Int) ≤ (day : Nat) := by simpa using q1
        unfold befB at z
        have := of_decide_eq_true z
        omega
      rw [if_neg q1, List.append_nil]
      exact ⟨h4, e4⟩
  rintro H4 ⟨h4, e4⟩
  have e4n := e4.mono1 (NoM.of hD1)
  have hday : day < 400 := by omega
  have hbl := bef_len ok hday
  have hmh := mo_half ok day
  have E4 := E3.trans e4n.no
  have hM4 := hM3.ext e4n
  have hd4 := hd3.ext e4n id
  have gd4 := E4.gd gd
  clear e4 e4n hM3 hd3 E3 hD1
  walk_at "s"
  refine ⟨_, _, rfl, .inl (SqL.of h4), ?_⟩
  have hm1 : (((mo L p f day + 1 : Nat)) : Int) - 1 = ((mo L p f day : Nat) : Int) := by omega
  rw [List.length_map, hbl]
  walk_at "s"
  rw [hm1]
  refine ⟨.inr ⟨by omega, by omega⟩, ?_⟩
  walk_at "s"
  refine ⟨⟨by omega, by omega⟩, ?_⟩
  walk_at "s"
  obtain ⟨dx9, l1⟩ := id hM4
  refine ⟨_, _, _, rfl, l1, rfl, ?_⟩
  walk_at "s"
  have hbig := nm_two ok 200000
  refine ⟨mp, L, p, f, (day : Int), rfl, hM4, ok, fun _ _ t5 H5 hv5 e5 => ?_, fun z => absurd ⟨by omega, by omega⟩ z⟩
  rw [Int.toNat_natCast] at hv5
  walk_at "s"
  refine ⟨_, _, rfl, .inl (SqL.of (e5.lst _ _ h4 id)), ?_⟩
  rw [List.length_map, hbl]
  walk_at "s"
  refine ⟨sz, fun t6 H6 ht6 hv6 e6 => ?_⟩
  have hv6 : H6 t6 = some (.tup [.int (mo L p f day : Nat), .int ((day : Int) - (nm L p f (mo L p f day) : Nat))]) := by
    rw [hv6]
    show some (HO.tup [V.int (((mo L p f day + 1 : Nat) : Int) - 1), V.int ((day : Int) - ((f : Int) + ((mo L p f day : Nat) : Int) * (L : Int)) / (p : Int))]) = _
    rw [nmI, hm1]
  refine ⟨.tuple [.int (mo L p f day : Nat), .int ((day : Int) - (nm L p f (mo L p f day) : Nat))], .tuple [.int (mo L p f day : Nat), .int ((day : Int) - (nm L p f (mo L p f day) : Nat))], .tup (SqT.of (e6.fix _ _ hv5 rfl)) (.cons (.int _) (.cons (.int _) .nil)), .tup (SqT.of hv6) (.cons (.int _) (.cons (.int _) .nil)), rfl, rfl, ?_⟩
  rw [eqv_two]
  refine ⟨_, rfl, ?_⟩
  refine ifB (fun z => by cases z) (fun _ => ?_)
  have E6 := E4.trans (e5.trans e6).no
  have hM6 := hM4.ext (e5.trans e6)
  have hd6 := hd4.ext (e5.trans e6) id
  have gd6 := (e5.trans e6).gd gd4
  clear e5 e6 hv5 hv6 ht6 h4 hM4 hd4 gd4 E4 l1
  obtain ⟨dx9, l1⟩ := id hM6
  walk_at "s"
  refine ⟨_, _, _, rfl, l1, rfl, ?_⟩
  walk_at "s"
  have hsum : ((day : Nat) : Int) + ((last : Nat) : Int) = ((day + last : Nat) : Int) := by omega
  have hl90 : day + last < 500 := by omega
  refine ⟨mp, L, p, f, (day : Int), (day : Int) + (last : Int), rfl, hM6, ok, fun _ _ _ _ t7 H7 hv7 e7 => ?_, fun z => absurd ⟨by omega, by omega, by omega, by omega⟩ z⟩
  rw [hsum, Int.toNat_natCast, Int.toNat_natCast, ← wit_rg ok hl90] at hv7
  walk_at "s"
  refine ⟨t7, _, rfl, .inr (SqT.of hv7), fun l8 H8 hl8 hv8 e8 => ?_⟩
  have E8 := E6.trans (e7.trans e8).no
  have hM8 := hM6.ext (e7.trans e8)
  have hd8 := hd6.ext (e7.trans e8) id
  have gd8 := (e7.trans e8).gd gd6
  clear e7 e8 hv7 hM6 hd6 gd6 E6 l1
  walk_at "s"
  refine ⟨by decide, by decide, fun D2 hD2 => ?_⟩
  have h400 : (400 : Int).toNat = 400 := rfl
  rw [h400]
  refine lc_range (fun i H9 => H9 D2 = some (.lst (((List.range i).filter (witB L p f day (day + last))).map fun n => V.int (n : Nat))) ∧ Ext (TT K) (· = D2) H8 H9) ⟨upd_same, (Ext.new hD2).no⟩ ?_ ?_
  · rintro i H9 hi ⟨h9, e9⟩
    have hl := lenF (witB L p f day (day + last)) i
    walk_at "s"
    refine ⟨.inr ⟨by omega, by omega⟩, ?_⟩
    walk_at "s"
    refine ⟨⟨by omega, by omega⟩, ?_⟩
    walk_at "s"
    rw [Int.zero_add, nmI]
    rw [snocF]
    refine ifB (fun q1 => ?_) (fun q1 => ?_)
    · have q1 : day ≤ nm L p f i := by
        have q1 : ((day : Nat) : Int) ≤ (nm L p f i : Nat) := by simpa using q1
        omega
      walk_at "s"
      refine ifB (fun q2 => ?_) (fun q2 => ?_)
      · have q2 : nm L p f i ≤ day + last := by
          have q2 : ((f : Int) + (i : Int) * (L : Int)) / (p : Int) ≤ (day : Int) + (last : Int) := of_decide_eq_true q2
          rw [nmI] at q2
          omega
        rw [if_pos (show witB L p f day (day + last) i = true by unfold witB; rw [decide_eq_true q1, decide_eq_true q2]; rfl)]
        walk_at "s"
        refine ⟨_, h9, by rw [List.length_map]; exact szm (by omega), ?_, e9.trans (Ext.set h9 rfl)⟩
        rw [List.map_append, upd_same]
        rfl
      · have q2 : ¬ nm L p f i ≤ day + last := fun z => by
          have q2 : ¬ ((f : Int) + (i : Int) * (L : Int)) / (p : Int) ≤ (day : Int) + (last : Int) := of_decide_eq_false q2
          rw [nmI] at q2
          omega
        rw [if_neg (show ¬ witB L p f day (day + last) i = true by unfold witB; rw [decide_eq_false q2, Bool.and_false]; decide), List.append_nil]
        exact ⟨h9, e9⟩
    · have q1 : ¬ day ≤ nm L p f i := fun z => by
        have q1 : ¬ ((day : Nat) : Int) ≤ (nm L p f i : Nat) := by simpa using q1
        omega
      rw [if_neg (show ¬ witB L p f day (day + last) i = true by unfold witB; rw [decide_eq_false q1, Bool.false_and]; decide), List.append_nil]
      walk_at "s"
      exact ⟨h9, e9⟩
  rintro H9 ⟨h9, e9⟩
  have e9n := e9.mono1 (NoM.of hD2)
  have hm : ∀ g : Nat → Bool, ((List.range 400).filter g).map (fun n : Nat => V.int (n : Nat)) = (((List.range 400).filter g).map fun n : Nat => ((n : Nat) : Int)).map V.int := fun g => by rw [List.map_map]; rfl
  have hv89 := e9n.lst _ _ hv8 id
  rw [hm] at hv89 h9
  refine ⟨_, _, dpInts hv89, dpInts h9, shInts _, shInts _, ?_⟩
  walk_at "s"
  refine ifB (fun z => absurd z (by rw [eqInts]; simp)) (fun _ => ?_)
  exact (law_C T tk cdv A outer s H0 E hr).choose_spec.2 D _ _ _ _ _ _ _ _ _ _ _ _ _ _ _ _ _ _ _ _ _ _ _ _  a dq day H9 (e9n.gd gd8) (hd8.ext e9n id) hday fun σ2 H2 e => hD σ2 H2 (E8.trans (e9n.no.trans e))
end K03

set_option Elab.async false
set_option linter.all false
set_option maxRecDepth 100000
set_option maxHeartbeats 2000000
namespace K03
open PySem PySem.Spec PyProof.Rows L2 MB
local macro_rules | `(tactic| walk_at "s") => `(tactic| repeat (first | refine ⟨_, rfl, ?_⟩ | refine ⟨_, _, rfl, rfl, ?_⟩ | refine ⟨_, _, rfl, ?_⟩ | refine ⟨rfl, ?_⟩))
variable {P : Program} {w : World} {K : PySem.W.Frag} {mg : Str → Option Value} {base : Heap}
theorem law_A (T : Tx K mg base) (tk : TOk (TT K)) (cdv : Value) (A : Around) (outer : List Env) (s : Shared) (H0 : Hp) (E : XK) (hr : Room 39 (A.deeper (envOfC "law" (defScope s_law) s.heap.objs.size (He.fAd K ("law", none)) cdv))) :
    ∃ t, PSs (cxOf (L2.CX P w) P w K mg base ["script", "dice", "parts", "length", "first", "moons", "number", "part", "k", "day", "last", "before", "age", "cycles", "size", "whole", "offset", "days", "one", "places", "place", "cycle", "other", "most", "rows", "ones", "others"] "law" (defScope s_law) (He.fAd K ("law", none)) cdv A outer s H0 E) (lawBody.drop 0) t ∧
      ∀ (D : Ends) (v_parts v_length v_first v_moons v_number v_part v_k v_day v_last v_before v_age v_cycles v_size v_whole v_offset v_days v_one v_places v_place v_cycle v_other v_most v_rows v_ones v_others : Option V) (a dq : Addr)  (H' : Hp), Gd (TT K) H' → DiceAt H' dq →  (∀ σ2 H2, Ext (TT K) (· = dq) H' H2 → D.nx σ2 H2) → t D [some (.ref a), some (.ref dq), v_parts, v_length, v_first, v_moons, v_number, v_part, v_k, v_day, v_last, v_before, v_age, v_cycles, v_size, v_whole, v_offset, v_days, v_one, v_places, v_place, v_cycle, v_other, v_most, v_rows, v_ones, v_others] H' := by
  have ok_meeting := fun T : Tx K mg base => ok_meeting (P := P) (w := w) T tk
  have ok_round_of := fun T : Tx K mg base => ok_round_of (P := P) (w := w) T tk
  have ok_day_with := fun T : Tx K mg base => ok_day_with (P := P) (w := w) T tk
  refine ⟨_, (pss_cons (ps_set (i := 2) sc_law.nd rfl (Or.inr rfl) (pe_op op_add pe_int (pe_call (ok_law_roll T) (hr.mono (by decide)) rfl T.g_law_roll T.F_law_roll.kp (bi_law_roll T) .nil (passes_call (takes_of rfl rfl rfl rfl) fun _ _ _ _ h => h) (pa_cons (pv 1) (pa_cons pe_int pa_nil)))))
 (pss_cons (ps_asg (pe_tupN (T := TT K) (pa_cons (pe_op op_add (pe_op op_mul (pv 2) (pe_op op_add pe_int (pe_call (ok_law_roll T) (hr.mono (by decide)) rfl T.g_law_roll T.F_law_roll.kp (bi_law_roll T) .nil (passes_call (takes_of rfl rfl rfl rfl) fun _ _ _ _ h => h) (pa_cons (pv 1) (pa_cons pe_int pa_nil))))) (pe_call (ok_law_roll T) (hr.mono (by decide)) rfl T.g_law_roll T.F_law_roll.kp (bi_law_roll T) .nil (passes_call (takes_of rfl rfl rfl rfl) fun _ _ _ _ h => h) (pa_cons (pv 1) (pa_cons (pv 2) pa_nil)))) (pa_cons (pe_call (ok_law_roll T) (hr.mono (by decide)) rfl T.g_law_roll T.F_law_roll.kp (bi_law_roll T) .nil (passes_call (takes_of rfl rfl rfl rfl) fun _ _ _ _ h => h) (pa_cons (pv 1) (pa_cons (pv 2) pa_nil))) pa_nil))) (pg_tupK (K := K) (n := 2) rfl rfl (pgs_cons (pg_name (i := 3) sc_law.nd rfl (Or.inr rfl)) (pgs_cons (pg_name (i := 4) sc_law.nd rfl (Or.inr rfl)) pgs_nil))))
 (pss_cons (ps_par (i := 5) (j := 6) rfl sc_law.nd rfl rfl (by decide) rfl rfl (pa_cons (pe_make T.mk_Moons (ok_Moons_init T) (hr.mono (by decide)) rfl T.g_Moons (bi_Moons_init T) .nil (passes_call (takes_of rfl rfl rfl rfl) fun _ _ _ _ h => h) (pa_cons (pv 3) (pa_cons (pv 2) (pa_cons (pv 4) pa_nil)))) (pa_cons (pe_call (ok_law_roll T) (hr.mono (by decide)) rfl T.g_law_roll T.F_law_roll.kp (bi_law_roll T) .nil (passes_call (takes_of rfl rfl rfl rfl) fun _ _ _ _ h => h) (pa_cons (pv 1) (pa_cons pe_int pa_nil))) pa_nil)) rfl)
 (pss_cons (ps_set (i := 7) sc_law.nd rfl (Or.inl rfl) (pv 4))
 (pss_cons (ps_for (passes_of rfl) rfl (pi_range1 rfl T.b_range (pa_cons (pv 6) pa_nil)) (pg_name (i := 8) sc_law.nd rfl (Or.inl rfl)) (pss_one (ps_set (i := 7) sc_law.nd rfl (Or.inl rfl) (pe_op op_add (pv 7) (pv 3)))))
 (pss_cons (ps_if (PW.pt (pw_or (pt_cmpR (op_neDK (K := K) rfl hr.units) (pe_meth (pv 5) T.c_Moons T.m_Moons_new_moon (ok_Moons_new_moon T) (hr.mono (by decide)) (bi_Moons_new_moon T) .nil (passes_call (takes_of rfl rfl rfl rfl) fun _ _ _ _ h => h) (pa_cons (pv 6) pa_nil)) (pe_tupN (T := TT K) (pa_cons (pe_op op_fdiv (pv 7) (pv 2)) (pa_cons (pe_op op_mod (pv 7) (pv 2)) pa_nil))) (nomark _)) (pw_or (pt_cmpR op_ne (pe_meth (pv 5) T.c_Moons T.m_Moons_days_in (ok_Moons_days_in T) (hr.mono (by decide)) (bi_Moons_days_in T) .nil (passes_call (takes_of rfl rfl rfl rfl) fun _ _ _ _ h => h) (pa_cons (pv 6) pa_nil)) (pe_op op_sub (pe_op op_fdiv (pe_op op_add (pv 7) (pv 3)) (pv 2)) (pe_op op_fdiv (pv 7) (pv 2))) (nomark _)) (pw_or1 (pt_cmpR (op_neDK (K := K) rfl hr.units) (pe_meth (pv 5) T.c_Moons T.m_Moons_full_moon (ok_Moons_full_moon T) (hr.mono (by decide)) (bi_Moons_full_moon T) .nil (passes_call (takes_of rfl rfl rfl rfl) fun _ _ _ _ h => h) (pa_cons (pv 6) pa_nil)) (pe_tupN (T := TT K) (pa_cons (pe_op op_fdiv (pe_op op_add (pv 7) (pe_op op_fdiv (pv 3) pe_int)) (pv 2)) (pa_cons (pe_op op_mod (pe_op op_add (pv 7) (pe_op op_fdiv (pv 3) pe_int)) (pv 2)) pa_nil))) (nomark _)))))) (pss_one (ps_ret pe_bl)) pss_nil)
 (law_B T tk cdv A outer s H0 E hr).choose_spec.1)))))), ?_⟩
  intro D v_parts v_length v_first v_moons v_number v_part v_k v_day v_last v_before v_age v_cycles v_size v_whole v_offset v_days v_one v_places v_place v_cycle v_other v_most v_rows v_ones v_others a dq H' gd dice hD
  walk_at "s"
  refine ⟨dice, by decide, by decide, fun r1 H1 hr1 hd1 e1 => ?_⟩
  walk_at "s"
  refine ⟨hd1, by decide, by decide, fun r2 H2 hr2 hd2 e2 => ?_⟩
  walk_at "s"
  have f1 : (1 : Int) + (r1 : Int) = ((r1 + 1 : Nat) : Int) := by omega
  have o1 : 1 ≤ r1 + 1 ∧ r1 + 1 ≤ 20 := by omega
  dsimp only
  rw [f1]
  generalize r1 + 1 = p at o1 f1 ⊢
  refine ⟨.inl ⟨by omega, by omega⟩, ?_⟩
  walk_at "s"
  refine ⟨hd2, by omega, by omega, fun r3 H3 hr3 hd3 e3 => ?_⟩
  walk_at "s"
  refine ⟨hd3, by omega, by omega, fun f H4 hf hd4 e4 => ?_⟩
  walk_at "s"
  refine ⟨sz, fun t5 H5 ht5 hv5 e5 => ?_⟩
  obtain ⟨L, hL⟩ : ∃ L : Nat, L = p * (r2 + 2) + r3 := ⟨_, rfl⟩
  have hLI : ((p : Nat) : Int) * (2 + (r2 : Int)) + (r3 : Int) = ((L : Nat) : Int) := by
    rw [hL, Int.natCast_add, Int.natCast_mul, Int.natCast_add, Int.add_comm (2 : Int)]
    rfl
  have hv5 : H5 t5 = some (.tup [.int (L : Nat), .int (f : Nat)]) := by
    rw [hv5]
    show some (HO.tup [V.int (((p : Nat) : Int) * (2 + (r2 : Int)) + (r3 : Int)), V.int (f : Nat)]) = _
    rw [hLI]
  have hlo : p * 2 ≤ L := by
    have := Nat.mul_le_mul_left p (show 2 ≤ r2 + 2 by omega)
    omega
  have hhi : L ≤ p * 30 := by
    have := Nat.mul_le_mul_left p (show r2 + 2 ≤ 29 by omega)
    omega
  have ok : MOk L p f := ⟨o1.1, by omega, by omega, by omega, by omega⟩
  refine ⟨_, _, rfl, SqT.of hv5, rfl, ?_⟩
  have E5 : Ext (TT K) (· = dq) H' H5 := (((e1.trans e2).trans e3).trans e4).trans e5.no
  have hd5 := hd4.ext e5 id
  clear e1 e2 e3 e4 e5 ht5 hv5 hd1 hd2 hd3 hd4 hr1 hr2 hr3
  walk_at "s"
  intro mp dx hx hdx hne
  have gd5 := E5.gd gd
  refine ⟨mp, dx, (L : Int), (p : Int), (f : Int), H5, rfl, hx, hdx, hne, rfl, fun _ H6 hM e6 => ?_, fun z => absurd (show MV L p f from ⟨by omega, by omega, by omega, by omega, by omega⟩) z⟩
  simp only [Int.toNat_natCast] at hM
  have hd6 := hd5.ext e6 id
  refine ⟨rfl, ?_⟩
  walk_at "s"
  refine ⟨hd6, by decide, by decide, fun n H7 hn7 hd7 e7 => ?_⟩
  have hM7 := hM.ext e7
  have E7 := (E5.trans e6.no).trans e7
  have gd7 := E7.gd gd
  clear e6 e7 hM hd5 hd6 hx hdx hne E5 gd5
  walk_at "s"
  refine ⟨by omega, by omega, ?_⟩
  rw [Int.toNat_natCast]
  refine for_range (fun i σ2 H8 => ∃ (u : Option V), σ2 = [some (.ref a), some (.ref dq), some (.int (p : Nat)), some (.int (L : Nat)), some (.int (f : Nat)), some (.ref mp), some (.int (n : Nat)), some (.int (f + i * L : Nat)), u, v_day, v_last, v_before, v_age, v_cycles, v_size, v_whole, v_offset, v_days, v_one, v_places, v_place, v_cycle, v_other, v_most, v_rows, v_ones, v_others] ∧ H8 = H7) ⟨_, by rw [Nat.zero_mul, Nat.add_zero]; rfl, rfl⟩ ?_ ?_
  · rintro i σ2 H8 hi ⟨u, rfl, rfl⟩
    walk_at "s"
    refine ⟨some (.int (0 + (i : Int))), ?_, rfl⟩
    have e : ((f + (i + 1) * L : Nat) : Int) = ((f + i * L : Nat) : Int) + (L : Nat) := by
      rw [Nat.add_mul, Nat.one_mul]
      omega
    rw [e]
    rfl
  rintro σ2 H8 ⟨u, rfl, rfl⟩
  have nmI : ∀ k : Nat, ((f + k * L : Nat) : Int) / (p : Int) = ((nm L p f k : Nat) : Int) := fun k => by
    unfold nm
    rw [Int.natCast_ediv]
  obtain ⟨dx9, l1⟩ := id hM7
  walk_at "s"
  refine ⟨_, _, _, rfl, l1, rfl, ?_⟩
  walk_at "s"
  refine ⟨mp, L, p, f, (n : Int), rfl, hM7, ok, fun _ _ t9 H9 hv9 e9 => ?_, fun z => absurd ⟨by omega, by omega⟩ z⟩
  rw [Int.toNat_natCast] at hv9
  walk_at "s"
  refine ⟨⟨by omega, by omega⟩, ?_⟩
  walk_at "s"
  refine ⟨by omega, ?_⟩
  walk_at "s"
  refine ⟨sz, fun t10 H10 ht10 hv10 e10 => ?_⟩
  have hv10 : H10 t10 = some (.tup [.int (((f + n * L) / p : Nat) : Int), .int (((f + n * L) % p : Nat) : Int)]) := by
    rw [hv10, Int.natCast_ediv, Int.natCast_emod]
  refine ⟨.tuple [.int (((f + n * L) / p : Nat) : Int), .int (((f + n * L) % p : Nat) : Int)], .tuple [.int (((f + n * L) / p : Nat) : Int), .int (((f + n * L) % p : Nat) : Int)], .tup (SqT.of (e10.fix _ _ hv9 rfl)) (.cons (.int _) (.cons (.int _) .nil)), .tup (SqT.of hv10) (.cons (.int _) (.cons (.int _) .nil)), rfl, rfl, ?_⟩
  rw [eqv_two]
  refine ⟨_, rfl, ?_⟩
  refine ifB (fun z => by cases z) (fun _ => ?_)
  have E10 := E7.trans (e9.trans e10).no
  have hM10 := hM7.ext (e9.trans e10)
  have hd10 := hd7.ext (e9.trans e10) id
  have gd10 := (e9.trans e10).gd gd7
  clear e9 e10 hv9 hv10 ht10 l1
  obtain ⟨dx9, l1⟩ := id hM10
  walk_at "s"
  refine ⟨_, _, _, rfl, l1, rfl, ?_⟩
  walk_at "s"
  refine ⟨mp, L, p, f, (n : Int), rfl, hM10, ok, fun _ _ H11 e11 => ?_, fun z => absurd ⟨by omega, by omega⟩ z⟩
  have hdi : (((nm L p f (n + 1) : Nat) : Int) - ((nm L p f n : Nat) : Int)) = (((f + n * L : Nat) : Int) + (L : Nat)) / ((p : Nat) : Int) - ((f + n * L : Nat) : Int) / ((p : Nat) : Int) := by
    have e : ((f + n * L : Nat) : Int) + (L : Nat) = ((f + (n + 1) * L : Nat) : Int) := by
      rw [Nat.add_mul, Nat.one_mul]
      omega
    rw [e, nmI, nmI]
  walk_at "s"
  refine ⟨⟨by omega, by omega⟩, ?_⟩
  walk_at "s"
  refine ⟨⟨by omega, by omega⟩, ?_⟩
  walk_at "s"
  refine ifB (fun z => absurd z (by
    show ¬ ((!decide (V.int (((nm L p f (n + 1) : Nat) : Int) - ((nm L p f n : Nat) : Int)) = V.int ((((f + n * L : Nat) : Int) + (L : Nat)) / ((p : Nat) : Int) - ((f + n * L : Nat) : Int) / ((p : Nat) : Int)))) = true)
    rw [hdi]
    simp)) (fun _ => ?_)
  have E11 := E10.trans e11.no
  have hM11 := hM10.ext e11
  have hd11 := hd10.ext e11 id
  have gd11 := e11.gd gd10
  clear e11 l1 hM10 hd10 gd10 hdi
  obtain ⟨dx9, l1⟩ := id hM11
  walk_at "s"
  refine ⟨_, _, _, rfl, l1, rfl, ?_⟩
  walk_at "s"
  refine ⟨mp, L, p, f, (n : Int), rfl, hM11, ok, fun _ _ t12 H12 hv12 e12 => ?_, fun z => absurd ⟨by omega, by omega⟩ z⟩
  rw [Int.toNat_natCast] at hv12
  walk_at "s"
  refine ⟨⟨by omega, by omega⟩, ?_⟩
  walk_at "s"
  refine ⟨⟨by omega, by omega⟩, ?_⟩
  walk_at "s"
  refine ⟨⟨by omega, by omega⟩, ?_⟩
  walk_at "s"
  refine ⟨by omega, ?_⟩
  walk_at "s"
  refine ⟨sz, fun t13 H13 ht13 hv13 e13 => ?_⟩
  have hfm : ((f + n * L : Nat) : Int) + ((L : Nat) : Int) / 2 = ((fm L p f n : Nat) : Int) := by
    unfold fm
    rw [Int.natCast_add (f + n * L), Int.natCast_ediv]
    rfl
  have hv13 : H13 t13 = some (.tup [.int (((fm L p f n) / p : Nat) : Int), .int (((fm L p f n) % p : Nat) : Int)]) := by
    rw [hv13]
    show some (HO.tup [V.int ((((f + n * L : Nat) : Int) + ((L : Nat) : Int) / 2) / (p : Int)), V.int ((((f + n * L : Nat) : Int) + ((L : Nat) : Int) / 2) % (p : Int))]) = _
    rw [hfm, Int.natCast_ediv, Int.natCast_emod]
  refine ⟨.tuple [.int (((fm L p f n) / p : Nat) : Int), .int (((fm L p f n) % p : Nat) : Int)], .tuple [.int (((fm L p f n) / p : Nat) : Int), .int (((fm L p f n) % p : Nat) : Int)], .tup (SqT.of (e13.fix _ _ hv12 rfl)) (.cons (.int _) (.cons (.int _) .nil)), .tup (SqT.of hv13) (.cons (.int _) (.cons (.int _) .nil)), rfl, rfl, ?_⟩
  rw [eqv_two]
  refine ⟨_, rfl, ?_⟩
  refine ifB (fun z => by cases z) (fun _ => ?_)
  have e123 := e12.trans e13
  have E13 := E11.trans e123.no
  exact (law_B T tk cdv A outer s H0 E hr).choose_spec.2 D _ _ _ _ _ _ _ _ _ _ _ _ _ _ _ _ _ _ _ _ _  a dq mp L p f H13 (e123.gd gd11) (hd11.ext e123 id) (hM11.ext e123) ok o1.2 fun σ2 H2 e => hD σ2 H2 (E13.trans e)
end K03

set_option Elab.async false
set_option linter.all false
set_option maxRecDepth 100000
set_option maxHeartbeats 2000000
namespace K03
open PySem PySem.Spec PyProof.Rows L2 MB
local macro_rules | `(tactic| walk_at "s") => `(tactic| repeat (first | refine ⟨_, rfl, ?_⟩ | refine ⟨_, _, rfl, rfl, ?_⟩ | refine ⟨_, _, rfl, ?_⟩ | refine ⟨rfl, ?_⟩))
variable {P : Program} {w : World} {K : PySem.W.Frag} {mg : Str → Option Value} {base : Heap}
theorem ok_law (T : Tx K mg base) (tk : TOk (TT K)) (ok_law_plain : ∀ T : Tx K mg base, FnOk P w K mg base (L2.CX P w) 30 (He.fAd K ("_law_plain", none)) T.fd_law_plain [] (spPlain K)) : FnOk P w K mg base (L2.CX P w) 40 (He.fAd K ("law", none)) T.fd_law ["script"] (spLaw K) := by
  have ok_meeting := fun T : Tx K mg base => ok_meeting (P := P) (w := w) T tk
  have ok_round_of := fun T : Tx K mg base => ok_round_of (P := P) (w := w) T tk
  have ok_day_with := fun T : Tx K mg base => ok_day_with (P := P) (w := w) T tk
  refine T.F_law.ok sc_law (fun vs H Q E h => ?_) (fun cdv A outer s H vs Q E hr h => ⟨_, (pss_cons (ps_for (passes_of rfl) rfl (pi_listK (K := K) rfl (pe_call (ok_law_rounds T) (hr.mono (by decide)) rfl T.g_law_rounds T.F_law_rounds.kp (bi_law_rounds T) .nil (passes_call (takes_of rfl rfl rfl rfl) fun _ _ _ _ h => h) (pa_cons (pv 0) (pa_cons pe_int pa_nil)))) (pg_name (i := 1) sc_law.nd rfl (Or.inr rfl)) (law_A T tk cdv A outer s H E hr).choose_spec.1)
 (pss_one (ps_ret (pe_call0 (ok_law_plain T) (hr.mono (by decide)) rfl T.g_law_plain T.F_law_plain.kp (bi_law_plain T) .nil (passes_call (takes_of rfl rfl rfl rfl) fun _ _ _ _ h => h))))), ?_⟩)
  · obtain ⟨a, ns, rfl, _⟩ := h
    rfl
  · obtain ⟨a, ns, rfl, hS, gd, hQ⟩ := h
    walk_at "s"
    refine ⟨a, ns, rfl, hS, fun p0 dq H1 hp0 hdq hne e1 => ?_⟩
    have gd1 := e1.gd gd
    clear hS e1 gd
    walk_at "s"
    refine ⟨⟨_, SqL.of hp0⟩, ?_⟩
    refine for_list (xs := [.ref dq]) (fun i σ' H' => (i = 0 → σ' = L2.start ["script", "dice", "parts", "length", "first", "moons", "number", "part", "k", "day", "last", "before", "age", "cycles", "size", "whole", "offset", "days", "one", "places", "place", "cycle", "other", "most", "rows", "ones", "others"] [V.ref a] ∧ H' = H1) ∧ Gd (TT K) H' ∧ H' p0 = some (.lst [.ref dq])) ⟨fun _ => ⟨rfl, rfl⟩, gd1, hp0⟩ (fun i σ' H' _ ⟨_, _, e⟩ => SqL.of e) ?_ ?_
    rotate_left
    · rintro σ2 H2 ⟨_, g2, _⟩
      walk_at "s"
      exact ⟨g2, fun H3 _ => hQ H3⟩
    rintro i x σ' H' hx ⟨h0, _, _⟩
    have hi : i = 0 := by
      have := (List.getElem?_eq_some_iff.mp hx).1
      simp at this
      exact this
    subst hi
    obtain ⟨rfl, rfl⟩ := h0 rfl
    cases hx
    exact (law_A T tk cdv A outer s H E hr).choose_spec.2 _ _ _ _ _ _ _ _ _ _ _ _ _ _ _ _ _ _ _ _ _ _ _ _ _ _  a dq H' gd1 hdq fun σ2 H2 e => ⟨fun z => (nomatch z), e.gd gd1, e.lst _ _ hp0 (Ne.symm hne)⟩
end K03

set_option Elab.async false
set_option linter.all false
set_option maxRecDepth 100000
set_option maxHeartbeats 0
namespace K03
open PySem PySem.Spec PyProof.Rows L2 MB
theorem fd_one {K : PySem.W.Frag} {x q : Str} {a : Arguments} {b : List Stmt} {sc : Scope} {dv : List V} {kw : List (Str × V)} {f : Addr} {fd fd' : FuncData} (F : FunD K x q a b sc dv kw f fd) (F' : FunD K x q a b sc dv kw f fd') : fd' = fd := by
  obtain ⟨oc, od, _, _, _, _, _, _, _, osl, _, lk, _⟩ := F.ex
  obtain ⟨oc', od', _, _, _, _, _, _, _, osl', _, lk', _⟩ := F'.ex
  rw [lk] at lk'
  cases lk'
  rfl
theorem facts {P : Program} {w : World} {K : PySem.W.Frag} {h : Heap} {mg : Str → Option Value} {f : Addr} (plain : ∀ {base : Heap} (T : Tx K mg base) (tk : TOk (TT K)), FnOk P w K mg base (L2.CX P w) 30 (He.fAd K ("_law_plain", none)) T.fd_law_plain [] (spPlain K)) (X : K.In h) (G : h.Ns mainGlobals mg) (hfa : mg ("law" : Str) = some (.ref f)) (c : He.SaysX fa fn [] tf exB w h K) :
    ∃ fd : FuncData, (∀ (s : Shared) (v : Value), BindsTo s fd ⟨[v], []⟩ [("script", v)]) ∧ ∀ base : Heap, K.In base → base.Ns mainGlobals mg → (∀ p ∈ tf.map (He.cT K), GxR.TabB base mg p.1 p.2) → FnOk P w K mg base (L2.CX P w) 40 f fd ["script"] (spLaw K) := by
  obtain ⟨fd, F⟩ := c.t.d.def_ 15 (d := d_law) rfl
  have e := hfa.symm.trans (He.glo_ok X G (c.t.d.fact 9 (f := .glo "law") rfl))
  cases e
  have b := FunD.bindsA (ps := ["script"]) F fun _ _ _ _ _ _ us hl => match us, hl with | [_], _ => rfl
  have ne : (He.cT K ("meeting", none)).2 ≠ (He.cT K ("_law_plain", none)).2 ∧ (He.cT K ("round_of", none)).2 ≠ (He.cT K ("_law_plain", none)).2 ∧ (He.cT K ("day_with", none)).2 ≠ (He.cT K ("_law_plain", none)).2 := of_decide_eq_true c.more
  have tk : TOk (TT K) := fun p hp q hq => by
    have e1 : p = (He.cT K ("meeting", none)).2 ∨ p = (He.cT K ("round_of", none)).2 ∨ p = (He.cT K ("day_with", none)).2 := by simpa [TT] using hp
    have e2 : q.1 = (He.cT K ("_law_plain", none)).2 := by
      have : q = ((He.cT K ("_law_plain", none)).2, ("_law_plain.<locals>.<lambda>" : Str)) := by simpa [TT] using hq
      rw [this]
    rw [e2]
    rcases e1 with e1 | e1 | e1
    · rw [e1]; exact Ne.symm ne.1
    · rw [e1]; exact Ne.symm ne.2.1
    · rw [e1]; exact Ne.symm ne.2.2
  refine ⟨fd, fun s v => b s [v] rfl, fun base _ _ tb => ?_⟩
  obtain ⟨T⟩ := tx_of (base := base) X G c tb
  have e2 := fd_one F T.F_law
  rw [← e2]
  exact ok_law T tk fun T => plain T tk
end K03
open PySem PySem.W PySem.Calls PyProof.Rows
theorem PySem.Challenge.cw_moonstack_k03_moons_and_cycles_holds : PySem.Challenge.rw_moonstack_k03_moons_and_cycles.Holds := by
  w_on; o_law
  refine HandSHeadRun.head_any (r := OpenLaw.row PySem.Challenge.rw_moonstack_k03_moons_and_cycles) (q := view (OpenLaw.row PySem.Challenge.rw_moonstack_k03_moons_and_cycles).prog [16]) (H := K03.hk) (ob := K03.ob) (M := 4000) (loose := K03.loose) (d := HandSHeadRun.topDef (OpenLaw.row PySem.Challenge.rw_moonstack_k03_moons_and_cycles).prog 16) (kwd := []) K03.ob_eq
    (by kernel_rfl) (fun s => by kernel_rfl) K03.run (by kernel_rfl) (by kernel_rfl) (by kernel_rfl) (by rfl) (by first | assumption | decide +kernel) (by decide +kernel) ⟨rfl, rfl, rfl, rfl, rfl, by decide +kernel⟩ ?hw ?hc
  case hw => w_witness2
  case hc =>
    refine LamX.walk_ofTsE (l := PySem.Challenge.rw_moonstack_k03_moons_and_cycles) (n := 63) (k := 40) (x := "script") (CX := fun w => L2.CX (PySem.Challenge.rw_moonstack_k03_moons_and_cycles).prog w) rfl (by decide) (by kernel_rfl) ⟨rfl, by decide, by decide⟩ ?F
      (fun w H s e s' z => by
        obtain ⟨_, _, _, _, _, _, _, _, _, _, _, _, q⟩ := z
        exact q)
    intro w mg fa h Y G hmg0
    obtain ⟨K, KX, c⟩ := Y
    have hmg : mg ("law" : PySem.Str) = some (.ref fa) := by
      have e : (HandSHeadRun.topDef (OpenLaw.row PySem.Challenge.rw_moonstack_k03_moons_and_cycles).prog 16).name = ("law" : PySem.Str) := by kernel_rfl
      rw [← e]
      exact hmg0
    obtain ⟨fd, hb, hF⟩ := K03.facts (P := (PySem.Challenge.rw_moonstack_k03_moons_and_cycles).prog) (w := w) (fun T tk => K03.ok_law_plain T tk) KX G hmg c
    refine ⟨K, KX, fd, K03.tf.map (He.cT K), K03.spLaw K, ?_, ?_, ?_, hb, ?_, ?_⟩
    · intro p hp
      obtain ⟨q, hq, rfl⟩ := List.mem_map.mp hp
      exact c.empty q hq
    · intro p hp
      obtain ⟨q, hq, rfl⟩ := List.mem_map.mp hp
      exact c.out q hq
    · intro p hp
      obtain ⟨q, hq, rfl⟩ := List.mem_map.mp hp
      exact PySem.W.codeHd_of_K KX (c.hd q hq)
    · intro H a ns hl _ hT hS
      refine ⟨a, ns, rfl, hS, ⟨fun p hp => ?_, fun p hp => ?_⟩, fun _ => rfl⟩
      · have e : p = (He.cT K ("meeting", none)).2 ∨ p = (He.cT K ("round_of", none)).2 ∨ p = (He.cT K ("day_with", none)).2 := by simpa [K03.TT] using hp
        rcases e with e | e | e
        · rw [e]
          exact ⟨#[], hT _ (List.mem_map.mpr ⟨("meeting", none), by decide, rfl⟩), True.intro⟩
        · rw [e]
          exact ⟨#[], hT _ (List.mem_map.mpr ⟨("round_of", none), by decide, rfl⟩), True.intro⟩
        · rw [e]
          exact ⟨#[], hT _ (List.mem_map.mpr ⟨("day_with", none), by decide, rfl⟩), True.intro⟩
      · have e : p = ((He.cT K ("_law_plain", none)).2, ("_law_plain.<locals>.<lambda>" : PySem.Str)) := by simpa [K03.TT] using hp
        rw [e]
        exact LamX.TabS.nil (hT _ (List.mem_map.mpr ⟨("_law_plain", none), by decide, rfl⟩))
    · intro base h1 h2 h3
      exact hF base h1 h2 fun p hp => ⟨(h3 p hp).code, (h3 p hp).bm, (h3 p hp).gP⟩
