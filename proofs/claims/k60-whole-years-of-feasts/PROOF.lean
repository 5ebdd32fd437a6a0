import PyProof.Rows.All
import Wide.All
import OpenK.AllK
import Wide.FinOn
import HandS.Base
import HandS.Call
import HandS.List
import HandS.Comp
import HandS.Exc
import HandS.AnyAll
import HandS.GenList
import HandS.Lambda
import HandS.ExcOwn
import HandS.Defaults
import HandS.HeadHook4
import HandS.Iter
import HandS.Zip
import HandS.TupAny
import HandS.More
import HandS.Dict
import HandS.SetFor
import HandS.Wide
import KE.DataMinMax
import KE.GoesMore
import KE.DatumOrd
import HandS.DictComp
import HandS.Style
import HandS.Conv
import KE.GoesEnum
import HandS.Walk
import KE.SortData
import KE.KStateDown
import HandS.ForMost
import HandS.WordsExc
import HandS.Head0
import HandS.Head1
import HandS.Head2
import HandS.HeadEnd
import HandS.HeadWalk
import PySem.Challenge.RW_moonstack_k60_whole_years_of_feasts
import HandS.WordsDict
import HandS.Text
import HandS.ListItems
import HandS.Small
set_option Elab.async false
set_option linter.all false
set_option maxRecDepth 100000
set_option maxHeartbeats 2000000
/-! Generator expressions over the hand layer: made, drained by tuple, any, sum. -/
namespace MG
open PySem PySem.Spec PyProof.Rows L2 GenW

/-- what a consumer does while the generator sleeps -/
structure Slp (co : List Addr) (s s' : Shared) : Prop where
  os : s'.os = s.os
  bare : AllBare s'.gens
  keep : ∀ b o, b ∉ co → s.heap.get? b = some o → s'.heap.get? b = some o
  there : ∀ b ∈ co, ∃ o, s'.heap.get? b = some o ∧ ∀ v, o.data ≠ .cell v
/-- how the maker's heap stands at a point of the run -/
structure GD (P : Program) (w : World) (outer : List Env) (H : Hp) (s : Shared) (ex co : List Addr) (H' : Hp) (s1 : Shared) : Prop where
  os : s1.os = s.os
  bare : AllBare s1.gens
  un : Un (frs outer) ex H H' s.heap s1.heap
  hok : HOk P w H' s1.heap
  free : ∀ b ∈ co, H' b = none
abbrev CnT := List V → V → Hp → Prop → Prop
def RG (P : Program) (w : World) (outer : List Env) (H : Hp) (s : Shared) (ex co : List Addr) (Rc : List V → Heap → Prop) (Qe : List V → Hp → Prop) : GenEnd :=
  fun _ s₀ r s1 => ((r = .ok (.ret .none) ∨ r = .ok .next) ∧ ∃ H' ys, GD P w outer H s ex co H' s1 ∧ (∀ b ∈ co, ∀ o, s₀.heap.get? b = some o → s1.heap.get? b = some o) ∧ Rc ys s1.heap ∧ Qe ys H') ∨ ∃ e, r = .error e ∧ False
def YG (P : Program) (w : World) (outer : List Env) (H : Hp) (s : Shared) (ex co : List Addr) (a : Addr) (g : Nat) (Rc : List V → Heap → Prop) (Cn : CnT) : Protocol :=
  fun _ s₀ v s1 kap => ∃ ys x H', RelV x v ∧ GD P w outer H s ex co H' s1 ∧ s1.heap.NoLimit ∧ s1.heap.IsGen a g ∧ (∀ b ∈ co, ∀ o, s₀.heap.get? b = some o → s1.heap.get? b = some o) ∧ Rc ys s1.heap ∧
    Cn ys x H' (∀ s', Slp co s1 s' → Rc (ys ++ [x]) s'.heap → kap (.send .none) s')

/-- the frame of a generator expression -/
abbrev gEnv (X : Cx) (scope : Scope) (L : Addr) (code : Value) : Env := genEnv scope (cloFrom X.env.cells scope.names []) L code builtinsNs X.env
def gCx (X : Cx) (A : Around) (s : Shared) (H : Hp) (scope : Scope) (code : Value) (fp : List Addr) : Cx where
  prog := X.prog
  w := X.w
  K := X.K
  mg := X.mg
  base := X.base
  A := A.deeper (gEnv X scope s.heap.objs.size code)
  N := X.N
  s_0 := s
  H_0 := H
  env := gEnv X scope s.heap.objs.size code
  outer := X.stack
  stack := gEnv X scope s.heap.objs.size code :: X.stack
  ex := fp
  fn := fun _ => false
  calm := true
  pn := []
  xe := fun _ _ => False


theorem over_loopG {A : Around} {elt : Expr} {gs : List Comprehension} {scope : Scope} {pos : Pos} {it acc : Value} {env : Env} :
    A.over (.compLoop (.GeneratorExp elt gs scope pos) 0 it acc env) [] = A.deeper env := rfl
theorem over_startG {A : Around} {elt : Expr} {gs : List Comprehension} {scope : Scope} {pos : Pos} {it acc : Value} {env : Env} :
    A.over (.compStart (.GeneratorExp elt gs scope pos) 0 it acc env) [] = A.deeper env := rfl

/-- the scope of a generator expression: its own names (with their places in N), or captured -/
structure GeOk (N : List Str) (sc scope : Scope) (own : List (Str × Nat)) : Prop where
  blk : BlkOk N sc scope own
  co : scope.isCoroutine = false
  cell : ∀ y ∈ scope.names, y.2 ≠ .cell
  dot : scope.names.lookup (".0" : Str) = some NameKind.local
def geB (N : List Str) (sc scope : Scope) (own : List (Str × Nat)) : Bool :=
  blkC N sc scope own && (!scope.isCoroutine && ((scope.names.all fun y => !decide (y.2 = .cell)) && decide (scope.names.lookup (".0" : Str) = some NameKind.local)))
theorem geOk_by {N : List Str} {sc scope : Scope} {own : List (Str × Nat)} (h : geB N sc scope own = true) : GeOk N sc scope own := by
  unfold geB at h
  simp only [Bool.and_eq_true, Bool.not_eq_true', List.all_eq_true, decide_eq_true_eq, decide_eq_false_iff_not] at h
  exact ⟨blkOk_by h.1, h.2.1, h.2.2.1, h.2.2.2⟩
theorem GeOk.has {X : Cx} {scope : Scope} {own : List (Str × Nat)} (ok : GeOk X.N X.env.scope scope own) (okX : X.Ok) : ∀ y ∈ scope.names, y.2 = .free → ∃ c, X.env.cells.lookup y.1 = some c := fun y hy e => by
  rcases ok.blk.free y hy e with k | k
  · exact okX.has _ (.inl k)
  · exact okX.has _ (.inr k)

section
variable {X : Cx} {pins : List (Addr × Obj)} {σ : L2.St} {H : Hp} {s : Shared}
/-- the generator's frame, entered in s2, behind the maker's state s -/
theorem gen_start {A : Around} {scope : Scope} {own : List (Str × Nat)} {fp : List Addr} {code : Value} {s2 : Shared} {m : Str → Option Value} (I : Inv X pins σ H s) (ok : GeOk X.N X.env.scope scope own) (hN : X.N.Nodup) (hfp : ∀ b ∈ fp, FpOk X pins H b ∧ b < s.heap.objs.size)
    (hd : A.handled = none) (hfr : A.frames = some X.stack) (hns : s2.heap.Ns s.heap.objs.size m) (kp : ∀ b o, s.heap.get? b = some o → s2.heap.get? b = some o) (hos : s2.os = s.os) (hba : AllBare s2.gens) :
    Inv (gCx X A s H scope code fp) [] (wipe σ (own.map (·.2))) H s2 := by
  have hfree := ok.has I.ok
  have cm : ∀ {y c}, (cloFrom X.env.cells scope.names []).lookup y = some c → X.env.cells.lookup y = some c := fun {y c} e => by
    rcases cloFrom_mem (PySem.mem_of_lookup e) with hm | ⟨q1, q2⟩
    · cases hm
    · obtain ⟨c1, hc⟩ := hfree _ q1 rfl
      have hc : X.env.cells.lookup y = some c1 := hc
      rw [q2, hc]
      rfl
  have look : ∀ {y}, scope.names.lookup y = some .free → ∃ c, (cloFrom X.env.cells scope.names []).lookup y = some c := fun {y} hl =>
    mem_lookup (cloFrom_has (cells := X.env.cells) (acc := []) (PySem.mem_of_lookup hl))
  have cellK : ∀ {c : Addr} {v : Option Value}, s.heap.IsCell c v → s2.heap.IsCell c v := fun {c v} ⟨o, ho, hdt⟩ => ⟨o, kp _ _ ho, hdt⟩
  refine ⟨⟨I.ok.mod, ok.blk.kind, I.ok.glob, rfl, Nat.le_refl _, fun y z c e1 e2 => I.ok.inj y z c (cm e1) (cm e2), fun y hy => ?_, fun y c z _ => ?_, fun _ => hd, Around.frames_deeper hfr, .inr ⟨rfl, rfl⟩, fun b hb => ⟨?_, fun y c e z => ?_⟩,
      I.bs, Nat.le_trans I.ok.bsz I.sz, fun b o e hb => ?_, fun b hb z => ?_, I.stack, I.stkFree⟩,
    hos, hba, Un.kept kp, ⟨m, hns, fun i y v e1 e2 e3 => ?_⟩, fun y c e => ?_, I.hok.fresh (Nat.le_refl _), fun y c e => I.freeC y c (cm e), fun q hq => absurd (show q ∈ ([] : List (Addr × Obj)) ++ [] from hq) (by simp), I.hok.kept kp, ?_⟩
  · have hy : scope.names.lookup y = some .cell ∨ scope.names.lookup y = some .free := hy
    rcases hy with hy | hy
    · exact absurd rfl (ok.cell _ (PySem.mem_of_lookup hy))
    · exact look hy
  · cases (show false = true from z)
  · exact Nat.ne_of_lt (hfp b hb).2
  · exact (hfp b hb).1.2.2.2.2.1 y c (cm e) z
  · rcases (hfp b hb).1.2.2.2.1 with z | z
    · exact I.ok.noex b o e z
    · exact absurd (Nat.lt_of_lt_of_le (Heap.lt_size (I.ok.bs b o e).1) z) (Nat.lt_irrefl _)
  · rcases List.mem_cons.mp (I.stkSub b z) with e | e
    · exact (hfp b hb).1.2.1 e
    · exact (hfp b hb).1.2.2.1 e
  · obtain ⟨w1, w2⟩ := wipe_some e2
    have e3 : Vis scope y := e3
    have e1 : X.N[i]? = some y := e1
    rcases e3 with k | k | k
    · exfalso
      rcases ok.blk.own _ (PySem.mem_of_lookup k) (.inl rfl) with q | q
      · obtain ⟨p, hp, ep⟩ := List.mem_map.mp q
        have h1 := ok.blk.ix p hp
        have ep' : p.1 = y := ep
        rw [ep'] at h1
        have ei := nodup_ix hN e1 h1
        exact w2 (List.mem_map.mpr ⟨p, hp, ei.symm⟩)
      · exact q (List.mem_of_getElem? e1)
    · exact absurd rfl (ok.cell _ (PySem.mem_of_lookup k))
    · obtain ⟨m0, hn0, hl0⟩ := I.loc
      have hvis : Vis X.env.scope y := (ok.blk.free _ (PySem.mem_of_lookup k) rfl).elim (fun k => .inr (.inl k)) (fun k => .inr (.inr k))
      obtain ⟨w', r, q⟩ := hl0 i y v e1 w1 hvis
      obtain ⟨c2, h2⟩ := look k
      refine ⟨w', r, .inr ⟨.inr k, c2, h2, ?_⟩⟩
      have c1 := cm h2
      rcases q with ⟨k', _⟩ | ⟨_, c3, e', z⟩
      · have k' : X.env.scope.names.lookup y = some .local := k'
        rcases ok.blk.free _ (PySem.mem_of_lookup k) rfl with k2 | k2
        · rw [show X.env.scope.names.lookup y = _ from k2] at k'
          cases k'
        · rw [show X.env.scope.names.lookup y = _ from k2] at k'
          cases k'
      · rw [c1] at e'
        cases e'
        exact cellK z
  · obtain ⟨w', z⟩ := I.cell y c (cm e)
    exact ⟨w', cellK z⟩
  · rw [wipe_length]
    exact I.len

/-- the turns of a generator expression: J its source, W what holds ahead of turn i (m: what is left at most) -/
def Turns (J : It) (g : TG) (te : TE) (vs : List Nat) (σ : L2.St) (Cn : CnT) (Qe : List V → Hp → Prop) (W : Nat → Nat → List V → Hp → Prop) : Prop :=
  ∀ i m ys H, W i m ys H → (J.stop i H ∧ Qe ys H) ∨ (J.go i H ∧ 0 < m ∧ ∀ x H', J.yld i H x H' → g x (wipe σ vs) H' fun σ2 H3 => wipe σ2 vs = wipe σ vs ∧ te σ2 H3 fun y H4 =>
    Cn ys y H4 (∃ m', m' < m ∧ W (i + 1) m' (ys ++ [y]) H4))

theorem seg_turns {A : Around} {s0 : Shared} {H0 : Hp} {scope : Scope} {own : List (Str × Nat)} {code : Value} {fp co : List Addr} {it a : Addr} {gn : Nat} {J : It} {tn : Nat → Heap → Prop} {tg iter elt : Expr} {pos : Pos} {g : TG} {te : TE} {Rc : List V → Heap → Prop} {Cn : CnT} {Qe : List V → Hp → Prop}
    {W : Nat → Nat → List V → Hp → Prop} (T : Turn X.prog X.w X.K tg J fp it tn) (hco : scope.isCoroutine = false)
    (hg : PG (gCx X A s0 H0 scope code fp) tg g) (he : PE (gCx X A s0 H0 scope code fp) elt te)
    (hCn : ∀ ys y H (p q : Prop), (p → q) → Cn ys y H p → Cn ys y H q) (hRc : ∀ ys h h', Rc ys h → (∀ b ∈ co, ∀ o, h.get? b = some o → h'.get? b = some o) → Rc ys h')
    (hW : Turns J g te (own.map (·.2)) σ Cn Qe W) (hyo : ∀ b ∈ a :: co, s0.heap.objs.size < b) (hX : ∀ b ∈ frs X.stack, b < s0.heap.objs.size) (hcl : ∀ x c, (cloFrom X.env.cells scope.names []).lookup x = some c → c < s0.heap.objs.size) (hac : a ∉ co) (hfc : ∀ b ∈ a :: co, b ∉ fp) :
    ∀ (n i m : Nat) (ys : List V) (Hh : Hp) (sI s : Shared), m ≤ n → Inv (gCx X A s0 H0 scope code fp) [] (wipe σ (own.map (·.2))) Hh s → tn i s.heap → (∀ b ∈ fp, Hh b = none) → (∀ b ∈ a :: co, Hh b = none) → (∀ b ∈ a :: co, ∃ o, s.heap.get? b = some o ∧ ∀ v, o.data ≠ .cell v) → (∀ b ∈ co, ∀ o, sI.heap.get? b = some o → s.heap.get? b = some o) → s.heap.IsGen a gn → Rc ys s.heap → W i m ys Hh →
      Seg (model X.prog X.w) A (RG X.prog X.w X.stack H0 s0 fp co Rc Qe) (YG X.prog X.w X.stack H0 s0 fp co a gn Rc Cn) n sI
        (.compLoop (.GeneratorExp elt [⟨tg, iter, [], 0⟩] scope pos) 0 (.ref it) .none (gEnv X scope s0.heap.objs.size code))
        ((model X.prog X.w).den (.compLoop (.GeneratorExp elt [⟨tg, iter, [], 0⟩] scope pos) 0 (.ref it) .none (gEnv X scope s0.heap.objs.size code))) [] s := by

  -- the pins: the generator's own object, the consumer's
  have yo : ∀ {σ' : L2.St} {H' : Hp} {s' : Shared}, Inv (gCx X A s0 H0 scope code fp) [] σ' H' s' → (∀ b ∈ a :: co, H' b = none) → ∀ b ∈ a :: co, FpOk (gCx X A s0 H0 scope code fp) [] H' b := fun {σ' H' s'} I' hn b hb => by
    have hlt := hyo b hb
    refine ⟨hn b hb, Nat.ne_of_gt hlt, fun z => ?_, .inr (Nat.le_of_lt hlt), fun x c e z => ?_, fun p hp => absurd (show p ∈ ([] : List (Addr × Obj)) ++ [] from hp) (by simp)⟩
    · exact absurd (Nat.lt_trans (hX b z) hlt) (Nat.lt_irrefl _)
    · rw [← z] at hlt
      exact absurd (Nat.lt_trans (hcl x c e) hlt) (Nat.lt_irrefl _)
  have fo : ∀ {σ' : L2.St} {H' : Hp} {s' : Shared} {h0 : Heap}, Inv (gCx X A s0 H0 scope code fp) ([] ++ pinsAt (a :: co) h0) σ' H' s' → (∀ b ∈ fp, H' b = none) → ∀ b ∈ fp, FpOk (gCx X A s0 H0 scope code fp) ([] ++ pinsAt (a :: co) h0) H' b := fun {σ' H' s' h0} I' hn b hb => by
    refine ⟨hn b hb, (I'.ok.exf b hb).1, I'.ok.exfs b hb, .inl hb, fun x c e => (I'.ok.exf b hb).2 x c e, fun p hp z => ?_⟩
    have hp' : p ∈ pinsAt (a :: co) h0 := hp
    exact hfc p.1 (of_pinsAt hp').1 (by rw [z]; exact hb)
  have kept : ∀ {σ' : L2.St} {H' : Hp} {s s' : Shared} {pl : List (Addr × Obj)}, (∀ b ∈ a :: co, ∃ o, s.heap.get? b = some o ∧ ∀ v, o.data ≠ .cell v) → Inv (gCx X A s0 H0 scope code fp) (([] ++ pinsAt (a :: co) s.heap) ++ pl) σ' H' s' →
      (∀ b ∈ a :: co, H' b = none) ∧ ∀ b ∈ a :: co, ∀ o, s.heap.get? b = some o → s'.heap.get? b = some o := fun {σ' H' s s' pl} hob I' => by
    have key : ∀ b ∈ a :: co, ∀ o, s.heap.get? b = some o → s'.heap.get? b = some o ∧ H' b = none := fun b hb o e =>
      let z := I'.pin (b, o) (List.mem_append_right _ (List.mem_append_left _ (mem_pinsAt hb e)))
      ⟨z.1, z.2.1⟩
    refine ⟨fun b hb => ?_, fun b hb o e => (key b hb o e).1⟩
    obtain ⟨o, e, _⟩ := hob b hb
    exact (key b hb o e).2
  have hy : ∀ v, yieldOut (gEnv X scope s0.heap.objs.size code) v = yieldValue v := fun v => by
    have hz : (gEnv X scope s0.heap.objs.size code).scope.isCoroutine = false := hco
    simp only [yieldOut, hz, Bool.false_eq_true, if_false]
  have theEnd : ∀ (n i m : Nat) (ys : List V) (Hh : Hp) (sI s : Shared), Inv (gCx X A s0 H0 scope code fp) [] (wipe σ (own.map (·.2))) Hh s → tn i s.heap → (∀ b ∈ fp, Hh b = none) → (∀ b ∈ a :: co, Hh b = none) → (∀ b ∈ a :: co, ∃ o, s.heap.get? b = some o ∧ ∀ v, o.data ≠ .cell v) → (∀ b ∈ co, ∀ o, sI.heap.get? b = some o → s.heap.get? b = some o) → Rc ys s.heap → J.stop i Hh → Qe ys Hh →
      Seg (model X.prog X.w) A (RG X.prog X.w X.stack H0 s0 fp co Rc Qe) (YG X.prog X.w X.stack H0 s0 fp co a gn Rc Cn) n sI
        (.compLoop (.GeneratorExp elt [⟨tg, iter, [], 0⟩] scope pos) 0 (.ref it) .none (gEnv X scope s0.heap.objs.size code))
        ((model X.prog X.w).den (.compLoop (.GeneratorExp elt [⟨tg, iter, [], 0⟩] scope pos) 0 (.ref it) .none (gEnv X scope s0.heap.objs.size code))) [] s := by
    intro n i m ys Hh sI s I st hnf hnc hob hsi hrc stop qe
    show Seg _ A _ _ _ sI _ ((compTurn (.GeneratorExp elt [⟨tg, iter, [], 0⟩] scope pos) 0 (.ref it) .none (gEnv X scope s0.heap.objs.size code)).onRaise (leaving (gEnv X scope s0.heap.objs.size code))) [] s
    rw [compTurn_gen, Sem.onRaise_eq_wrap]
    refine seg_bind_wrap (wpAny_standAt ?_)
    refine seg_bind_wrap ?_
    rw [over_loopG]
    have Ip := I.pinned (yo I hnc) hob
    refine thnF (T.done (gCx X A s0 H0 scope code fp) rfl rfl rfl rfl i _ s _ Hh (fun _ _ => False) Ip (fo Ip hnf) st stop) fun r s6 hr => ?_
    obtain ⟨er, I6⟩ := hr
    subst er
    have I6' : Inv (gCx X A s0 H0 scope code fp) (([] ++ pinsAt (a :: co) s.heap) ++ []) (wipe σ (own.map (·.2))) Hh s6 := by
      rw [List.append_nil]
      exact I6
    obtain ⟨k1, k2⟩ := kept hob I6'
    exact seg_end (.ok .next) (.inl ⟨.inr rfl, Hh, ys, ⟨I6.os, I6.bare, I6.base, I6.hok, fun b hb => k1 b (List.mem_cons_of_mem _ hb)⟩, fun b hb o e => k2 b (List.mem_cons_of_mem _ hb) o (hsi b hb o e), hRc ys _ _ hrc fun b hb o e => k2 b (List.mem_cons_of_mem _ hb) o e, qe⟩)
  intro n
  induction n with
  | zero =>
    intro i m ys Hh sI s hmn I st hnf hnc hob hsi hgen hrc w
    have hm0 : m = 0 := by omega
    subst hm0
    rcases hW i 0 ys Hh w with ⟨stop, qe⟩ | ⟨_, hm, _⟩
    · exact theEnd 0 i 0 ys Hh sI s I st hnf hnc hob hsi hrc stop qe
    · exact absurd hm (Nat.lt_irrefl _)
  | succ n ih =>
    intro i m ys Hh sI s hmn I st hnf hnc hob hsi hgen hrc w
    rcases hW i m ys Hh w with ⟨stop, qe⟩ | ⟨go, _, step⟩
    · exact theEnd (n + 1) i m ys Hh sI s I st hnf hnc hob hsi hrc stop qe
    show Seg _ A _ _ _ sI _ ((compTurn (.GeneratorExp elt [⟨tg, iter, [], 0⟩] scope pos) 0 (.ref it) .none (gEnv X scope s0.heap.objs.size code)).onRaise (leaving (gEnv X scope s0.heap.objs.size code))) [] s
    rw [compTurn_gen, Sem.onRaise_eq_wrap]
    refine seg_bind_wrap (wpAny_standAt ?_)
    refine seg_bind_wrap ?_
    rw [over_loopG]
    have Ip := I.pinned (yo I hnc) hob
    refine thnF (T.item (gCx X A s0 H0 scope code fp) rfl rfl rfl rfl i _ s _ Hh (fun _ _ => False) Ip (fo Ip hnf) st go) fun r s6 hr => ?_
    obtain ⟨u, er, h6⟩ := hr
    subst er
    refine seg_bind_wrap ?_
    rw [over_loopG]
    refine thnF h6 fun _ s7 h7 => ?_
    obtain ⟨x, H7, I7, r7, y7, st7, n7⟩ := h7
    have I7p := I7.pinned (fo I7 n7) (T.obj _ _ st7)
    refine seg_bind_wrap ?_
    rw [over_loopG]
    refine thnF (hg.run _ s7 _ H7 x u _ I7p r7 (step x H7 y7)) fun _ s8 h8 => ?_
    obtain ⟨σ8, H8, I8, hw8, q8⟩ := h8
    refine seg_bind_wrap (wpAny_of_eq (List.forIn_nil ..) ?_)
    simp only [if_true]
    simp only [hy]
    rw [Sem.bind_eq_wrap', Sem.bind_eq_wrap', Sem.wrap_wrap, Sem.wrap_wrap]
    refine seg_wrap ?_
    rw [over_loopG]
    refine thnF (he.run _ s8 σ8 H8 _ I8 q8) fun v s9 h9 => ?_
    obtain ⟨y, H9, I9, r9, q9⟩ := h9
    obtain ⟨k1, k2⟩ := kept hob I9
    have f9 : ∀ b ∈ fp, ∀ o, s7.heap.get? b = some o → s9.heap.get? b = some o ∧ H9 b = none := fun b hb o e =>
      let z := I9.pin (b, o) (List.mem_append_right _ (List.mem_append_right _ (mem_pinsAt hb e)))
      ⟨z.1, z.2.1⟩
    have st9 : tn (i + 1) s9.heap := T.keep _ _ _ st7 fun b hb o e => (f9 b hb o e).1
    have n9 : ∀ b ∈ fp, H9 b = none := fun b hb => by
      obtain ⟨o, e, _⟩ := T.obj _ _ st7 b hb
      exact (f9 b hb o e).2
    have g9 : s9.heap.IsGen a gn := by
      obtain ⟨o, nm, qn, ho, rr⟩ := hgen
      exact ⟨o, nm, qn, k2 a List.mem_cons_self o ho, rr⟩
    have I9u : Inv (gCx X A s0 H0 scope code fp) [] σ8 H9 s9 := I9.pins_of fun p hp => absurd hp (by simp)
    have hl : (wipe σ (own.map (·.2))).length = σ8.length := by rw [← hw8, wipe_length]
    have I9w : Inv (gCx X A s0 H0 scope code fp) [] (wipe σ (own.map (·.2))) H9 s9 := I9u.weak hl fun j v e => by
      rw [← hw8] at e
      exact (wipe_some e).1
    refine seg_at (seg_yield rfl rfl rfl ?_)
    refine ⟨ys, y, H9, r9, ⟨I9.os, I9.bare, I9.base, I9.hok, fun b hb => k1 b (List.mem_cons_of_mem _ hb)⟩, I9.nolimit, g9, fun b hb o e => k2 b (List.mem_cons_of_mem _ hb) o (hsi b hb o e), hRc ys _ _ hrc fun b hb o e => k2 b (List.mem_cons_of_mem _ hb) o e, hCn ys y H9 _ _ (fun hnx s' sl hrc' => ?_) q9⟩
    · obtain ⟨m', hm', w'⟩ := hnx
      -- woken again
      have co9 : ∀ b ∈ co, FpOk (gCx X A s0 H0 scope code fp) [] H9 b := fun b hb => yo I9w k1 b (List.mem_cons_of_mem _ hb)
      have nfr : ∀ b u, H9 b = some u → b ∉ co := fun b u e hb => by
        rw [k1 b (List.mem_cons_of_mem _ hb)] at e
        cases e
      have hL : ∀ b ∈ co, b ≠ s0.heap.objs.size := fun b hb => Nat.ne_of_gt (hyo b (List.mem_cons_of_mem _ hb))
      have Iw : Inv (gCx X A s0 H0 scope code fp) [] (wipe σ (own.map (·.2))) H9 s' := by
        obtain ⟨z1, z2, z3, z4⟩ := sl
        obtain ⟨hh, gg, d, t, o⟩ := s'
        have ho : o = s9.os := z1
        subst ho
        refine I9w.step (g' := gg) (t' := t) (d' := d) (ch := co) (fun b hb => ?_) (fun b ob _ _ hc e _ => z3 b ob hc e) (fun b ob _ _ hc e _ => ⟨ob.slots, z3 b ob hc e⟩) (fun _ _ _ _ n => n) (fun b ob hc e => ⟨ob, z3 b ob hc e⟩)
          (fun _ _ e => e) (fun _ _ _ e => e) (fun b ps e => ⟨#[], by rw [e]; simp⟩) (fun mm hm => ?_) (fun b u e => ?_) z2
        · obtain ⟨_, c2, c3, c4, c5, c6⟩ := co9 b hb
          exact ⟨c4, c2, c5, c6⟩
        · obtain ⟨ob, es, ep, ho, rr⟩ := hm
          exact ⟨ob, es, ep, z3 _ ob (fun hb => hL _ hb rfl) ho, rr⟩
        · refine (I9w.hok b u e).stay (fun c v hc q => z3 c v ?_ q) (fun _ q => q) fun _ _ q => q
          rcases hc with z | z
          · rw [z]
            exact nfr b u e
          · exact nfr c _ z
      refine seg_again rfl (ih (i + 1) m' (ys ++ [y]) H9 s' s' (by omega) Iw (T.keep _ _ _ st9 fun b hb o e => sl.keep b o (fun hc => hfc b (List.mem_cons_of_mem _ hc) hb) e) n9 k1 (fun b hb => ?_) (fun _ _ _ z => z) ?_ hrc' w')
      · rcases List.mem_cons.mp hb with e | e
        · obtain ⟨o, nm, qn, ho, oc, od, os⟩ := g9
          rw [e]
          exact ⟨o, sl.keep a o hac ho, fun v q => by rw [od] at q; cases q⟩
        · exact sl.there b e
      · obtain ⟨o, nm, qn, ho, rr⟩ := g9
        exact ⟨o, nm, qn, sl.keep a o hac ho, rr⟩

/-- a generator expression, made at sc and not begun -/
def GM (P : Program) (w : World) (k : Nat) (outer : List Env) (H : Hp) (sc : Shared) (ex : List Addr) (Cn : CnT) (Qe : List V → Hp → Prop) (u : Value) (s' : Shared) : Prop :=
  ∃ (a : Addr) (gn : Nat) (c : Code) (n : Nat), u = .ref a ∧ sc.heap.objs.size < a ∧ a < s'.heap.objs.size ∧ s'.heap.IsGen a gn ∧ s'.gens[gn]? = some (.fresh c) ∧ s'.os = sc.os ∧ AllBare s'.gens ∧ s'.heap.NoLimit ∧ (∀ b o, sc.heap.get? b = some o → s'.heap.get? b = some o) ∧
    ∀ (A : Around) (co : List Addr) (Rc : List V → Heap → Prop) (s2 : Shared), Room k A → A.frames = some outer → (∀ b ∈ co, s'.heap.objs.size ≤ b ∧ ∃ o, s2.heap.get? b = some o ∧ ∀ v, o.data ≠ .cell v) → (∀ b o, s'.heap.get? b = some o → s2.heap.get? b = some o) → s2.os = sc.os → AllBare s2.gens →
      (∀ ys h h', Rc ys h → (∀ b ∈ co, ∀ o, h.get? b = some o → h'.get? b = some o) → Rc ys h') → Rc [] s2.heap →
      Seg (model P w) A (RG P w outer H sc ex co Rc Qe) (YG P w outer H sc ex co a gn Rc Cn) n s2 c ((model P w).den c) [] s2

/-- the code of a generator expression begins -/
theorem seg_begin {P : Program} {w : World} {A : Around} {R : GenEnd} {Y : Protocol} {n : Nat} {s0 s : Shared} {elt tg iter : Expr} {scope : Scope} {pos : Pos} {it : Addr} {env : Env} (hself : ∀ (A : Around) (Q : Value → Shared → Prop) (E : Value → Shared → Prop), Q (.ref it) s → wpAny (model P w) A (pyIter (.ref it)) Q E s)
    (loop : Seg (model P w) A R Y n s0 (.compLoop (.GeneratorExp elt [⟨tg, iter, [], 0⟩] scope pos) 0 (.ref it) .none env) ((model P w).den (.compLoop (.GeneratorExp elt [⟨tg, iter, [], 0⟩] scope pos) 0 (.ref it) .none env)) [] s) :
    Seg (model P w) A R Y n s0 (.compStart (.GeneratorExp elt [⟨tg, iter, [], 0⟩] scope pos) 0 (.ref it) .none env) ((model P w).den (.compStart (.GeneratorExp elt [⟨tg, iter, [], 0⟩] scope pos) 0 (.ref it) .none env)) [] s := by
  show Seg _ A _ _ _ s0 _ ((compStart (.GeneratorExp elt [⟨tg, iter, [], 0⟩] scope pos) 0 (.ref it) .none env).onRaise (leaving env)) [] s
  unfold compStart
  rw [Sem.onRaise_eq_wrap]
  show Seg _ A _ _ _ s0 _ ((ask >>= _).wrap _ _ _ _) [] s
  refine seg_bind_wrap (wpAny_askSetting ?_)
  split
  · exact seg_again rfl loop
  · refine seg_bind_wrap (wpAny_rule ?_)
    show Seg _ A _ _ _ s0 _ ((standAt iter.pos >>= _).wrap _ _ _ _) [] s
    exact seg_bind_wrap (wpAny_standAt (seg_bind_wrap (hself _ _ _ (seg_again rfl loop))))

/-- the reading of a generator expression, Cn: what each item asks, Qe: what its end asks -/
def tGx (P : Addr) (wi : TI) (g : TG) (te : TE) (vs : List Nat) (Cn : CnT) (Qe : List V → Hp → Prop) : L2.St → Hp → Prop := fun σ H =>
  wi σ H fun J H1 => GxR.TabG H1 P ∧ ∀ H2, GxR.Tabbed P H1 H2 → ∃ W : Nat → Nat → List V → Hp → Prop, (∃ m, W 0 m [] H2) ∧ Turns J g te vs σ Cn Qe W

theorem gen_made {k : Nat} {c P : Addr} {elt tg iter : Expr} {gpos : Pos} {scope : Scope} {own : List (Str × Nat)} {wi : TI} {g : TG} {te : TE} {Cn : CnT} {Qe : List V → Hp → Prop}
    (hr : Room k X.A) (hN : X.N.Nodup) (TB : GxR.TabB X.base X.mg c P) (hcode : X.env.code = .ref c) (ok : GeOk X.N X.env.scope scope own) (hi : PI X tg iter wi)
    (hg : ∀ (A : Around) (s : Shared) (H : Hp) (code : Value) (fp : List Addr), PG (gCx X A s H scope code fp) tg g) (he : ∀ (A : Around) (s : Shared) (H : Hp) (code : Value) (fp : List Addr), Room k A → PE (gCx X A s H scope code fp) elt te)
    (hCn : ∀ ys y H (p q : Prop), (p → q) → Cn ys y H p → Cn ys y H q) (hs : ∀ v, genFold iter X.env v = pure v) (I : Inv X pins σ H s) (h : tGx P wi g te (own.map (·.2)) Cn Qe σ H) :
    wpAny (model X.prog X.w) X.A (eval (.GeneratorExp elt [⟨tg, iter, [], 0⟩] scope gpos) X.env) (fun u s' => ∃ H1 sc ex, Inv X pins σ H1 sc ∧ ExOk X pins ex ∧ GM X.prog X.w k X.stack H1 sc ex Cn Qe u s') X.xe s := by
  refine wpAny_GeneratorExp_make ok.co (closure_ok (ok.has I.ok)) ok.cell ok.dot ok.blk.kind hr.depth ?_ hs
  refine thn (hi.run pins s σ H _ I h) fun xv s1 hx => thn hx fun itv s2 h2 => ?_
  obtain ⟨it, fp, tn, J, H2, e, I2, T, st2, f2, hT, q⟩ := h2
  obtain ⟨ps, hP, ht⟩ := hT
  subst e
  have hPs : s2.heap.get? P = some { cls := .none, data := .fields ps } := I2.hok P _ hP
  have cd : PySem.W.CodeHd s2.heap c P := TB.code.keeps fun b u e => I2.bk b u e
  refine ⟨I2.nolimit, ?_⟩
  have go : ∀ (code : Value) (h3 : Heap) (tk : Nat) (ps' : Array Value), Heap.ExtBut P s2.heap h3 → s2.heap.objs.size ≤ h3.objs.size → h3.get? P = some { cls := .none, data := .fields ps' } → (∃ more, ps' = ps ++ more) → TriplesOk ps'.toList →
      wpAny (model X.prog X.w) X.A (builtinsFor X.env.globals X.env.builtins) (fun bi s₄ =>
        ∀ h', h'.Ns s₄.heap.objs.size (fun y => if y = ".0" then some (.ref it) else none) → Heap.SameBut s₄.heap.objs.size (s₄.heap.push { cls := .type "frame", data := .dict #[] }) h' →
          ∃ H1 sc ex, Inv X pins σ H1 sc ∧ ExOk X pins ex ∧ GM X.prog X.w k X.stack H1 sc ex Cn Qe (.ref h'.objs.size) { s₄ with
            gens := s₄.gens.push (.fresh (.compStart (.GeneratorExp elt [⟨tg, iter, [], 0⟩] scope gpos) 0 (.ref it) .none (genEnv scope (cloFrom X.env.cells scope.names []) s₄.heap.objs.size code bi X.env))),
            toks := s₄.toks + 1 + 1 + 1,
            heap := h'.push { cls := .type "generator", data := .fields #[.int s₄.gens.size 0, .str "<genexpr>" (s₄.toks + 1), .str (X.env.qual ++ "<genexpr>") (s₄.toks + 1 + 1)] } }) X.xe { s2 with heap := h3, toks := tk } := by
    intro code h3 tk ps' hx3 hsz hP3 hmore ht3
    obtain ⟨more, em⟩ := hmore
    have I3 := GxR.inv_tab (more := more) (h' := h3) (g' := s2.gens) (d' := s2.drawn) (t' := tk) I2 hP (fun b u hb e => hx3 b u hb e) (by rw [← em]; exact hP3) I2.bare
    obtain ⟨bm, ob, e1, e2, e3, e4, e5, e6, e7, e8⟩ := TB.bm
    refine wpAny_builtinsFor (m := X.mg) (by rw [I3.ok.glob]; exact I3.mod.glob.keeps I3.bk) e1 e2 (I3.bk _ _ e5) e6 e7 e8 ?_
    intro h' hn' hs'
    have hPne : ∀ b, H2 b = none → b ≠ P := fun b e z => by
      rw [z, hP] at e
      cases e
    have f3 : ∀ b ∈ fp, FpOk X pins (upd H2 P (.tbl (ps ++ more))) b ∧ b < h3.objs.size := fun b hb => by
      have hb0 := f2 b hb
      obtain ⟨o, eo, _⟩ := T.obj _ _ st2 b hb
      refine ⟨⟨?_, hb0.2⟩, Nat.lt_of_lt_of_le (Heap.lt_size eo) hsz⟩
      rw [upd_ne (hPne b hb0.1)]
      exact hb0.1
    have st3 : tn 0 h3 := T.keep _ _ _ st2 fun b hb o e => hx3 b o (hPne b (f2 b hb).1) e
    have sz1 : h'.objs.size = h3.objs.size + 1 := by
      rw [hs'.1, Heap.size_push]
    have kp1 : ∀ b o, h3.get? b = some o → h'.get? b = some o := fun b o e => hs'.extBut b o (Nat.ne_of_lt (Heap.lt_size e)) (Heap.get?_push_of_some _ e)
    obtain ⟨W, ⟨m, w0⟩, hW⟩ := q (upd H2 P (.tbl (ps ++ more))) ⟨⟨ps ++ more, upd_same, by rw [← em]; exact ht3⟩, fun b hb => upd_ne hb⟩
    refine ⟨upd H2 P (.tbl (ps ++ more)), _, fp, I3, fun b hb => ⟨(f3 b hb).1.2.2.2.1, (f3 b hb).1.2.1, (f3 b hb).1.2.2.2.2.1, (f3 b hb).1.2.2.2.2.2⟩, ?_⟩
    have kp2 : ∀ b o, h3.get? b = some o → (h'.push { cls := .type "generator", data := .fields #[.int s2.gens.size 0, .str "<genexpr>" (tk + 1), .str (X.env.qual ++ "<genexpr>") (tk + 1 + 1)] }).get? b = some o := fun b o e => Heap.get?_push_of_some _ (kp1 b o e)
    refine ⟨h'.objs.size, s2.gens.size, _, m, rfl, ?_, ?_, ⟨_, _, _, Heap.get?_push_size _ rfl, rfl, rfl, rfl⟩, Array.getElem?_push_size .., rfl, AllBare.push I2.bare rfl, I3.nolimit.keeps kp2, kp2, ?_⟩
    · show h3.objs.size < h'.objs.size
      omega
    · show h'.objs.size < (h'.push _).objs.size
      rw [Heap.size_push]
      omega
    intro A co Rc s2' hrA hfr hco kp3 hos hba hRc rc0
    have kp4 : ∀ b o, h3.get? b = some o → s2'.heap.get? b = some o := fun b o e => kp3 b o (kp2 b o e)
    have coB : ∀ b ∈ h'.objs.size :: co, h3.objs.size < b := fun b hb => by
      rcases List.mem_cons.mp hb with z | z
      · omega
      · have q1 := (hco b z).1
        have q2 : (h'.push { cls := .type "generator", data := .fields #[.int s2.gens.size 0, .str "<genexpr>" (tk + 1), .str (X.env.qual ++ "<genexpr>") (tk + 1 + 1)] }).objs.size ≤ b := q1
        rw [Heap.size_push] at q2
        omega
    have hgn : s2'.heap.IsGen h'.objs.size s2.gens.size := ⟨_, _, _, kp3 _ _ (Heap.get?_push_size _ rfl), rfl, rfl, rfl⟩
    have J0 := gen_start (A := A) (scope := scope) (own := own) (code := code) (s2 := s2') I3 ok hN f3 hrA.hd hfr (hn'.keeps fun b o e => kp3 b o (Heap.get?_push_of_some _ e)) kp4 hos hba
    have hst : tn 0 s2'.heap := T.keep _ _ _ st3 fun b _ o e => kp4 b o e
    have loop := seg_turns (A := A) (iter := iter) (pos := gpos) (co := co) (a := h'.objs.size) (gn := s2.gens.size) (elt := elt) T ok.co (hg A _ _ code fp) (he A _ _ code fp hrA) hCn hRc hW coB
      (fun b hb => by
        rcases List.mem_cons.mp (I3.stkSub b hb) with z | z
        · rw [z]
          exact I3.lt
        · obtain ⟨_, o, ho, _⟩ := I3.ok.funs.mem z
          exact Nat.lt_of_lt_of_le (Heap.lt_size ho) I3.sz)
      (fun x c e => by
        rcases cloFrom_mem (PySem.mem_of_lookup e) with hm | ⟨q1, q2⟩
        · cases hm
        · obtain ⟨c1, hc⟩ := ok.has I.ok _ q1 rfl
          have hc : X.env.cells.lookup x = some c1 := hc
          obtain ⟨v, z⟩ := I3.cell _ _ hc
          rw [q2, hc]
          exact z.lt)
      (fun hm => by
        have q1 := (hco _ hm).1
        have q2 : (h'.push { cls := .type "generator", data := .fields #[.int s2.gens.size 0, .str "<genexpr>" (tk + 1), .str (X.env.qual ++ "<genexpr>") (tk + 1 + 1)] }).objs.size ≤ h'.objs.size := q1
        rw [Heap.size_push] at q2
        omega)
      (fun b hb hm => absurd (Nat.lt_trans (coB b hb) (f3 b hm).2) (Nat.lt_irrefl _))
      m 0 m [] _ s2' s2' (Nat.le_refl _) J0 hst (fun b hb => (f3 b hb).1.1) (fun b hb => I3.hok.fresh (Nat.le_of_lt (coB b hb))) (fun b hb => by
        rcases List.mem_cons.mp hb with z | z
        · rw [z]
          exact ⟨_, kp3 _ _ (Heap.get?_push_size _ rfl), fun v y => by cases y⟩
        · exact (hco b z).2) (fun _ _ _ z => z) hgn rc0 w0
    exact seg_begin (fun A' Q E hq => T.self A' 0 _ _ _ hst hq) loop
  cases hf : codeAmong gpos ps.toList with
  | none =>
    refine wpAny_genexprCodeX hcode (cd.code hPs ht) (cd.tab hPs) hf fun c' h' tk hx hge hlt hco' _ htab' _ => ?_
    obtain ⟨o1, vs, f1, tf, fl, tg1, inF, tx, tt, op, _, _, _, _, _, _, _, _, _, htr, _⟩ := hco'
    exact go _ h' tk _ hx (Nat.le_trans hge (Nat.le_of_lt hlt)) htab'.2 ⟨_, rfl⟩ htr
  | some cv =>
    refine wpAny_genexprCode_hit hcode (cd.code hPs ht) hf ?_
    exact go cv s2.heap s2.toks ps (Heap.ExtBut.refl _ _) (Nat.le_refl _) hPs ⟨#[], by simp⟩ ht
end

/-! ### the consumers -/
theorem GD.more {P : Program} {w : World} {outer : List Env} {H H' : Hp} {sc s1 s2 : Shared} {ex co : List Addr} (x : GD P w outer H sc ex co H' s1) (k : ∀ b o, s1.heap.get? b = some o → s2.heap.get? b = some o) (os : s2.os = s1.os) (hb : AllBare s2.gens) : GD P w outer H sc ex co H' s2 :=
  ⟨os.trans x.os, hb, x.un.trans (Un.kept k), x.hok.kept k, x.free⟩
/-- each item is asked nothing but room -/
def cnL : CnT := fun ys _ _ p => ys.length < sizeLine ∧ p
theorem cnL_mono (ys : List V) (y : V) (H : Hp) (p q : Prop) (h : p → q) (c : cnL ys y H p) : cnL ys y H q := ⟨c.1, h c.2⟩
def rcL (S : Addr) : List V → Heap → Prop := fun ys h => ∃ acc c, h.get? S = some (lstObj acc c) ∧ Vals ys acc.toList
theorem rcL_keep {S : Addr} (ys : List V) (h h' : Heap) (r : rcL S ys h) (k : ∀ b ∈ [S], ∀ o, h.get? b = some o → h'.get? b = some o) : rcL S ys h' := by
  obtain ⟨acc, c, e, v⟩ := r
  exact ⟨acc, c, k S List.mem_cons_self _ e, v⟩

section
variable {P : Program} {w : World} {outer : List Env} {H : Hp} {sc : Shared} {ex : List Addr} {Qe : List V → Hp → Prop} {A : Around} {R : Result → Shared → Prop} {S a : Addr} {g : Nat} {res : Value}
theorem drainL (hh : A.handled = none) (hd : A.depth < recursionLimit) (hSa : S ≠ a) (hSc : S ≠ cStatics)
    (hend : ∀ s' acc c H' ys, s'.heap.get? S = some (lstObj acc c) → Vals ys acc.toList → GD P w outer H sc ex [S] H' s' → Qe ys H' → R (.ok (.ret res)) s') :
    ∀ (m : Nat) (s : Shared), s.heap.IsGen a g → s.heap.NoLimit →
      (∃ gs, s.gens[g]? = some gs ∧ gs.Goes (model P w) A.in1.in1 (RG P w outer H sc ex [S] (rcL S) Qe) (YG P w outer H sc ex [S] a g (rcL S) cnL) m (.send .none) (s.setGen g .running)) →
      codeAny (model P w) A (.builtin "list.extend.loop" ⟨[.ref S, .ref a, res], []⟩) R s := by
  have fin : ∀ {s₀ s₁ : Shared} {h' : Heap}, (∃ H' ys, GD P w outer H sc ex [S] H' s₁ ∧ (∀ b ∈ [S], ∀ o, s₀.heap.get? b = some o → s₁.heap.get? b = some o) ∧ rcL S ys s₁.heap ∧ Qe ys H') → (∀ b o, s₁.heap.get? b = some o → h'.get? b = some o) → R (.ok (.ret res)) { s₁.setGen g .finished with heap := h' } := fun {s₀ s₁ h'} hp hk => by
    obtain ⟨H', ys, gd, _, ⟨acc, c, e, v⟩, q⟩ := hp
    exact hend _ acc c H' ys (hk _ _ e) v (gd.more (s2 := { s₁.setGen g .finished with heap := h' }) hk rfl (allBare_setGen gd.bare rfl)) q
  intro m
  induction m with
  | zero =>
    intro s hg hl ⟨gs, hgs, hgo⟩
    refine codeAny_builtin PySem.F.entry_extend_loop ?_
    rw [Around.under_plainId PySem.F.plain_extend_loop _]
    show wpAny _ A.in1 (pyNext (.ref a) >>= _) _ _ s
    refine wpAny_bind (next_genG (A := A.in1) (F := fun _ s₀ s1 => ∃ H' ys, GD P w outer H sc ex [S] H' s1 ∧ (∀ b ∈ [S], ∀ o, s₀.heap.get? b = some o → s1.heap.get? b = some o) ∧ rcL S ys s1.heap ∧ Qe ys H') (Er := fun _ _ => False) hh hl hd hg hgs hgo (fun v s₁ gs' hbare hv => ?_) (fun s₁ hp h' hk => ?_) fun e s₁ he => False.elim he)
    · exfalso
      obtain ⟨ys, x, H', rv, gd, hl1, hg1, _, ⟨acc, c, e, vv⟩, _, hk⟩ := hv
      refine hk { s₁ with heap := s₁.heap.update S (Obj.mapSeq (·.push v)) } ⟨rfl, gd.bare, fun b o hb e' => ?_, fun b hb => ?_⟩ ⟨acc.push v, _, Heap.get?_update_self _ e rfl, ?_⟩
      · exact (Heap.get?_update_other _ _ (fun z : S = b => hb (by rw [z]; exact List.mem_cons_self))).trans e'
      · have hb : b = S := by simpa using hb
        rw [hb]
        exact ⟨_, Heap.get?_update_self _ e rfl, fun z q => by cases q⟩
      · rw [Array.toList_push]
        exact vv.append (.cons rv .nil)
    · exact wpAny_pure (fin hp hk)
  | succ m ih =>
    intro s hg hl ⟨gs, hgs, hgo⟩
    have hgl : g < s.gens.size := (Array.getElem?_eq_some_iff.mp hgs).1
    refine codeAny_builtin PySem.F.entry_extend_loop ?_
    rw [Around.under_plainId PySem.F.plain_extend_loop _]
    show wpAny _ A.in1 (pyNext (.ref a) >>= _) _ _ s
    refine wpAny_bind (wpAny_gsz (n := g + 1) hgl (next_genG (A := A.in1) (F := fun _ s₀ s1 => ∃ H' ys, GD P w outer H sc ex [S] H' s1 ∧ (∀ b ∈ [S], ∀ o, s₀.heap.get? b = some o → s1.heap.get? b = some o) ∧ rcL S ys s1.heap ∧ Qe ys H') (Er := fun _ _ => False) hh hl hd hg hgs hgo (fun v s₁ gs' hbare hv => ?_) (fun s₁ hp h' hk => ?_) fun e s₁ he => False.elim he))
    · intro hsz
      obtain ⟨ys, x, H', rv, gd, hl1, hg1, _, ⟨acc, c, e, vv⟩, hlt, hk⟩ := hv
      have hasz : acc.size = ys.length := by
        have e1 := vv.length
        have e2 : acc.toList.length = acc.size := by simp
        omega
      show wpAny _ A.in1 (updateSeq S (·.push v) >>= _) _ _ _
      refine wpAny_bind ?_
      refine wpAny_updateSeq e rfl (wpAny_pure ⟨plainId_quiet PySem.F.plain_extend_loop _, ?_⟩) (by omega) (by show (acc.push v).size ≤ sizeLine + 1; rw [Array.size_push]; omega)
      have keep3 : ∀ b o, b ≠ S → s₁.heap.get? b = some o → (s₁.heap.update S (Obj.mapSeq (·.push v))).get? b = some o := fun b o hbS e => (Heap.get?_update_other _ _ (Ne.symm hbS)).trans e
      have hsz1 : g < s₁.gens.size := by
        have q : (s₁.setGen g gs').gens.size = s₁.gens.size := setGen_size _ _ _
        have hsz' : g + 1 ≤ (s₁.setGen g gs').gens.size := hsz
        omega
      refine ih { s₁.setGen g gs' with heap := s₁.heap.update S (Obj.mapSeq (·.push v)) } ?_ ?_ ⟨gs', setGen_at hsz1, ?_⟩
      · obtain ⟨o, nm, qn, ho, r⟩ := hg1
        exact ⟨o, nm, qn, keep3 a o (Ne.symm hSa) ho, r⟩
      · obtain ⟨mc, hns, hnn⟩ := hl1
        exact ⟨mc, hns.at' fun o e => keep3 _ o (Ne.symm hSc) e, hnn⟩
      · refine hk _ ⟨rfl, allBare_setGen (s := s₁.setGen g gs') (allBare_setGen gd.bare hbare) rfl, fun b o hb e' => keep3 b o (fun z => hb (by rw [z]; exact List.mem_cons_self)) e', fun b hb => ?_⟩ ⟨acc.push v, _, Heap.get?_update_self _ e rfl, ?_⟩
        · have hb : b = S := by simpa using hb
          rw [hb]
          exact ⟨_, Heap.get?_update_self _ e rfl, fun z q => by cases q⟩
        · rw [Array.toList_push]
          exact vv.append (.cons rv .nil)
    · intro hsz
      exact wpAny_pure (fin hp hk)
end

section
variable {P : Program} {w : World} {outer : List Env} {H : Hp} {sc s : Shared} {ex : List Addr} {Qe : List V → Hp → Prop} {A : Around} {k : Nat} {u : Value} {E : Value → Shared → Prop}
theorem collectG {Q : List Value → Shared → Prop} (hr : Room (k + 3) A) (hfr : A.frames = some outer) (h : GM P w k outer H sc ex cnL Qe u s)
    (hQ : ∀ s' acc H' ys, Vals ys acc → GD P w outer H sc ex [] H' s' → Qe ys H' → s.heap.objs.size ≤ s'.heap.objs.size → Q acc s') : wpAny (model P w) A (collect u) Q E s := by
  obtain ⟨a, gn, c, n, rfl, ha1, ha2, hg, hgs, hos, hb, hl, hkp, wake⟩ := h
  have hSa : s.heap.objs.size ≠ a := Nat.ne_of_gt ha2
  have hcl : cStatics < s.heap.objs.size := let ⟨_, hn, _⟩ := hl; hn.lt
  have hSc : s.heap.objs.size ≠ cStatics := Nat.ne_of_gt hcl
  unfold collect
  refine wpAny_bind (wpAny_runValue (codeAny_builtin PySem.F.entry_proto_collect ?_))
  rw [Around.under_plainId PySem.F.plain_proto_collect _]
  show wpAny _ A.in1 (newList [] >>= fun l => again (.builtin "list.__iadd__" ⟨[l, .ref a], []⟩)) _ _ s
  refine wpAny_bind (wpAny_newObj_type ?_)
  refine wpAny_pure ⟨plainId_quiet PySem.F.plain_list_iadd _, codeAny_builtin PySem.F.entry_list_iadd ?_⟩
  rw [Around.under_plainId PySem.F.plain_list_iadd _]
  show wpAny _ A.in1 (Builtin.List.listExtendWith (.ref s.heap.objs.size) (.ref a) (.ref s.heap.objs.size)) _ _ _
  have hS1 : (s.heap.push { cls := .type "list", data := .seq ([] : List Value).toArray }).get? s.heap.objs.size = some { cls := .type "list", data := .seq ([] : List Value).toArray } := Heap.get?_push_size _ rfl
  have up : ∀ (h : Heap) (f : Obj → Obj), (∀ b o, s.heap.get? b = some o → h.get? b = some o) → ∀ b o, s.heap.get? b = some o → (h.update s.heap.objs.size f).get? b = some o := fun h f q b o e =>
    (Heap.get?_update_other _ _ (Ne.symm (Nat.ne_of_lt (Heap.lt_size e)))).trans (q b o e)
  have k1 : ∀ b o, s.heap.get? b = some o → (s.heap.push { cls := .type "list", data := .seq ([] : List Value).toArray }).get? b = some o := fun b o e => Heap.get?_push_of_some _ e
  have gty : ∀ {h : Heap}, (∀ b o, s.heap.get? b = some o → h.get? b = some o) → h.IsGen a gn := fun {h} q => hg.keeps q
  unfold Builtin.List.listExtendWith
  refine wpAny_bind (wpAny_typeOf (Heap.IsGen.typeIs (s := { s with heap := _ }) (gty k1)) ?_)
  have h1 : Builtin.List.listSameRef (.ref s.heap.objs.size) (.ref a) = false := by simp [Builtin.List.listSameRef, hSa]
  have h2 : (Value.type "generator" == Value.type "list") = false := by decide
  have h3 : (Value.type "generator" == Value.type "tuple") = false := by decide
  simp only [h1, h2, h3, Bool.or_false, Bool.false_eq_true, if_false]
  refine wpAny_bind (wpAny_pyIter_gen (s := { s with heap := _ }) (gty k1) ?_)
  refine wpAny_bind (wpAny_holding ?_)
  unfold Builtin.List.listLengthHint
  refine wpAny_bind (wpAny_specialOf (Heap.IsGen.typeIs (s := { s with heap := _ }) (gty k1)) PySem.F.gen_no_len ?_)
  show wpAny _ A.in1 (specialOf (Value.ref a) (Str.ofString "__length_hint__") >>= _) _ _ _
  refine wpAny_bind (wpAny_specialOf (Heap.IsGen.typeIs (s := { s with heap := _ }) (gty k1)) PySem.F.gen_no_hint ?_)
  refine wpAny_pure ?_
  show wpAny _ A.in1 (rule "list.extend.makes-room" >>= fun _ => Builtin.List.listTouch (.ref s.heap.objs.size) >>= fun _ =>
    again (.builtin "list.extend.loop" ⟨[.ref s.heap.objs.size, .ref a, .ref s.heap.objs.size], []⟩)) _ _ _
  refine wpAny_bind (wpAny_rule ?_)
  refine wpAny_bind ?_
  show wpAny _ A.in1 (updateSeq s.heap.objs.size (·.push .none) >>= fun _ => updateSeq s.heap.objs.size (·.pop)) _ _ _
  refine wpAny_bind (wpAny_updateSeq hS1 rfl ?_)
  have hS2 := Heap.get?_update_self (Obj.mapSeq (·.push Value.none)) hS1 rfl
  refine wpAny_updateSeq (hz := by seq_fits) hS2 rfl ?_
  have hS3 := Heap.get?_update_self (Obj.mapSeq (·.pop)) hS2 rfl
  have k3 := up _ (Obj.mapSeq (·.pop)) (up _ (Obj.mapSeq (·.push Value.none)) k1)
  refine wpAny_pure ⟨plainId_quiet PySem.F.plain_extend_loop _, ?_⟩
  refine drainL (P := P) (w := w) (outer := outer) (H := H) (sc := sc) (ex := ex) (Qe := Qe) (A := A) (g := gn) hr.hd hr.depth hSa hSc (fun s' acc c' H' ys q1 q2 q3 q4 => ?_) n _ (gty k3) (hl.keeps k3) ⟨_, hgs, rfl, ?_⟩
  · show wpAny _ A (load s.heap.objs.size >>= _) _ _ s'
    refine wpAny_bind (wpAny_load q1 ?_)
    refine wpAny_pure (hQ s' acc.toList H' ys q2 ⟨q3.os, q3.bare, q3.un, q3.hok, fun b hb => absurd hb (by simp)⟩ q4 ?_)
    exact Nat.le_of_lt (Heap.lt_size q1)
  · refine wake _ [s.heap.objs.size] (rcL s.heap.objs.size) _ ⟨hr.hd, ?_, ?_⟩ hfr (fun b hb => ?_) k3 hos (allBare_setGen (s := { s with heap := _ }) hb rfl) (fun ys h h' => rcL_keep ys h h') ⟨_, _, hS3, .nil⟩
    · have := hr.dp
      show A.depth + 3 * k + 5 < _
      omega
    · have := hr.un
      show A.units + 1 + 1 + 16 * k + 200 < _
      omega
    · have hb : b = s.heap.objs.size := by simpa using hb
      rw [hb]
      exact ⟨Nat.le_refl _, _, hS3, fun v q => by cases q⟩

theorem code_tupleG {Q₁ : Value → Shared → Prop} (hr : Room (k + 4) A) (hfr : A.frames = some outer) (h : GM P w k outer H sc ex cnL Qe u s)
    (hQ : ∀ s' (acc : List Value) H' ys, Vals ys acc → ys.length ≤ sizeLine → GD P w outer H sc ex [] H' s' → Qe ys H' → s.heap.objs.size ≤ s'.heap.objs.size → Q₁ (.ref s'.heap.objs.size) { s' with heap := s'.heap.push { cls := .type "tuple", data := .seq acc.toArray } })
    (hlen : ∀ ys H', Qe ys H' → ys.length ≤ sizeLine) :
    codeAny (model P w) A (.call (.builtin "tuple.__new__") ⟨[.type "tuple", u], []⟩) (wants Q₁ E) s := by
  refine codeAny_of_tree ?_
  show wpAny _ A.in1 (do checkBuiltinCall "tuple.__new__" ⟨[.type "tuple", u], []⟩; again (.builtin "tuple.__new__" ⟨[.type "tuple", u], []⟩)) _ _ s
  refine wpAny_bind (wpAny_of_eq (PySem.F.newCall_tuple_1 _) (wpAny_pure ⟨plainId_quiet PySem.F.plain_tuple_new _, codeAny_builtin PySem.F.entry_tuple_new ?_⟩))
  rw [Around.under_plainId PySem.F.plain_tuple_new _]
  have hsub := sub_tuple_self
  have hinit := init_tuple_lookup
  have hmh := madeHere_tuple
  obtain ⟨a, gn, hu, hgen⟩ : ∃ a gn, u = .ref a ∧ s.heap.IsGen a gn := by
    obtain ⟨a, gn, c, n, e, _, _, hg, _⟩ := id h
    exact ⟨a, gn, e, hg⟩
  subst hu
  have hTI : s.TypeIs (.ref a) "generator" := Heap.IsGen.typeIs hgen
  wp_walk using wpAny_typeOf hTI, collectG (hr := Room.in1 (hr.mono (by omega))) (hfr := hfr) h
  intro s' acc H' ys hv gd q hsz
  show wpAny _ _ (Builtin.Tuple.tupleExact acc.toArray >>= fun v => ret v) _ _ _
  unfold Builtin.Tuple.tupleExact
  have hl := hlen ys H' q
  have he := hv.length
  refine wpAny_bind (wpAny_newObj_type ?_ (by show acc.toArray.size ≤ sizeLine; rw [List.size_toArray]; omega))
  exact wpAny_pure (hQ s' acc H' ys hv hl gd q hsz)

theorem call_tupleG {Q : Value → Shared → Prop} (hr : Room (k + 6) A) (hfr : A.frames = some outer) (h : GM P w k outer H sc ex cnL Qe u s)
    (hQ : ∀ s' (acc : List Value) H' ys, Vals ys acc → ys.length ≤ sizeLine → GD P w outer H sc ex [] H' s' → Qe ys H' → s.heap.objs.size ≤ s'.heap.objs.size → Q (.ref s'.heap.objs.size) { s' with heap := s'.heap.push { cls := .type "tuple", data := .seq acc.toArray } })
    (hlen : ∀ ys H', Qe ys H' → ys.length ≤ sizeLine) :
    wpAny (model P w) A (call (.type "tuple") [u]) Q E s := by
  refine callType_codes (Q₁ := fun obj s₁ => s₁.TypeIs obj "tuple" ∧ Q obj s₁) PySem.F.called_tuple (PySem.F.typeCall_tuple_1 _) PySem.F.entry_object_init
    (code_tupleG (Room.in1 (hr.mono (by omega))) hfr h (fun s' acc H' ys q1 q2 q3 q4 q5 => ⟨⟨_, Heap.get?_push_size _ rfl, rfl⟩, hQ s' acc H' ys q1 q2 q3 q4 q5⟩) hlen) fun obj s₁ h₁ => ?_
  exact ⟨h₁.1, PySem.F.args_object_init_2 obj _, object_init_meets PySem.F.called_tuple.init.lookup PySem.F.called_tuple.made (by decide) P w A.in1 _ s₁ ⟨h₁.1, rfl, h₁.2⟩⟩
end

/-! ### any -/
/-- an item: a True or False; at a True the end -/
def cnA (Qt : Hp → Prop) : CnT := fun _ y H p => ∃ b, y = .bl b ∧ if b = true then Qt H else p
theorem cnA_mono {Qt : Hp → Prop} (ys : List V) (y : V) (H : Hp) (p q : Prop) (h : p → q) (c : cnA Qt ys y H p) : cnA Qt ys y H q := by
  obtain ⟨b, e, c⟩ := c
  refine ⟨b, e, ?_⟩
  cases b with
  | true => exact c
  | false => exact h c
def rcA : List V → Heap → Prop := fun _ _ => True
section
variable {P : Program} {w : World} {outer : List Env} {H : Hp} {sc : Shared} {ex : List Addr} {Qe : List V → Hp → Prop} {Qt : Hp → Prop} {A : Around} {R : Result → Shared → Prop} {a : Addr} {g : Nat}
theorem drainA (hh : A.handled = none) (hd : A.depth < recursionLimit)
    (hyes : ∀ s' H', GD P w outer H sc ex [] H' s' → Qt H' → R (.ok (.ret (.bool true))) s') (hno : ∀ s' H' ys, GD P w outer H sc ex [] H' s' → Qe ys H' → R (.ok (.ret (.bool false))) s') :
    ∀ (m : Nat) (s : Shared), s.heap.IsGen a g → s.heap.NoLimit →
      (∃ gs, s.gens[g]? = some gs ∧ gs.Goes (model P w) A.in1.in1 (RG P w outer H sc ex [] rcA Qe) (YG P w outer H sc ex [] a g rcA (cnA Qt)) m (.send .none) (s.setGen g .running)) →
      codeAny (model P w) A (.builtin "any.loop" ⟨[.ref a], []⟩) R s := by
  have fin : ∀ {s₀ s₁ : Shared} {h' : Heap}, (∃ H' ys, GD P w outer H sc ex [] H' s₁ ∧ (∀ b ∈ ([] : List Addr), ∀ o, s₀.heap.get? b = some o → s₁.heap.get? b = some o) ∧ rcA ys s₁.heap ∧ Qe ys H') → (∀ b o, s₁.heap.get? b = some o → h'.get? b = some o) → R (.ok (.ret (.bool false))) { s₁.setGen g .finished with heap := h' } := fun {s₀ s₁ h'} hp hk => by
    obtain ⟨H', ys, gd, _, _, q⟩ := hp
    exact hno _ H' ys (gd.more (s2 := { s₁.setGen g .finished with heap := h' }) hk rfl (allBare_setGen gd.bare rfl)) q
  intro m
  induction m with
  | zero =>
    intro s hg hl ⟨gs, hgs, hgo⟩
    refine codeAny_builtin PySem.F.entry_any_loop ?_
    rw [Around.under_plainId PySem.F.plain_any_loop _]
    show wpAny _ A.in1 (pyNext (.ref a) >>= _) _ _ s
    refine wpAny_bind (next_genG (A := A.in1) (F := fun _ s₀ s1 => ∃ H' ys, GD P w outer H sc ex [] H' s1 ∧ (∀ b ∈ ([] : List Addr), ∀ o, s₀.heap.get? b = some o → s1.heap.get? b = some o) ∧ rcA ys s1.heap ∧ Qe ys H') (Er := fun _ _ => False) hh hl hd hg hgs hgo (fun v s₁ gs' hbare hv => ?_) (fun s₁ hp h' hk => ?_) fun e s₁ he => False.elim he)
    · obtain ⟨ys, x, H', rv, gd, hl1, hg1, _, _, b, eb, hk⟩ := hv
      subst eb
      obtain rfl : v = Value.bool b := rv
      refine wpAny_bind (wpAny_holding (wpAny_truthy_bool ?_))
      refine wpAny_bind (wpAny_letGo ?_)
      cases b with
      | true =>
        simp only [if_true]
        refine wpAny_bind (wpAny_rule (wpAny_pure ?_))
        exact hyes _ H' (gd.more (s2 := s₁.setGen g gs') (fun _ _ z => z) rfl (allBare_setGen gd.bare hbare)) hk
      | false =>
        exact False.elim ((show ∀ s', Slp [] s₁ s' → rcA (ys ++ [.bl false]) s'.heap → False from hk) s₁ ⟨rfl, gd.bare, fun _ _ _ z => z, fun b hb => absurd hb (by simp)⟩ trivial)
    · exact wpAny_bind (wpAny_rule (wpAny_pure (fin hp hk)))
  | succ m ih =>
    intro s hg hl ⟨gs, hgs, hgo⟩
    have hgl : g < s.gens.size := (Array.getElem?_eq_some_iff.mp hgs).1
    refine codeAny_builtin PySem.F.entry_any_loop ?_
    rw [Around.under_plainId PySem.F.plain_any_loop _]
    show wpAny _ A.in1 (pyNext (.ref a) >>= _) _ _ s
    refine wpAny_bind (wpAny_gsz (n := g + 1) hgl (next_genG (A := A.in1) (F := fun _ s₀ s1 => ∃ H' ys, GD P w outer H sc ex [] H' s1 ∧ (∀ b ∈ ([] : List Addr), ∀ o, s₀.heap.get? b = some o → s1.heap.get? b = some o) ∧ rcA ys s1.heap ∧ Qe ys H') (Er := fun _ _ => False) hh hl hd hg hgs hgo (fun v s₁ gs' hbare hv => ?_) (fun s₁ hp h' hk => ?_) fun e s₁ he => False.elim he))
    · intro hsz
      obtain ⟨ys, x, H', rv, gd, hl1, hg1, _, _, b, eb, hk⟩ := hv
      subst eb
      obtain rfl : v = Value.bool b := rv
      have gd' : GD P w outer H sc ex [] H' (s₁.setGen g gs') := gd.more (fun _ _ z => z) rfl (allBare_setGen gd.bare hbare)
      refine wpAny_bind (wpAny_holding (wpAny_truthy_bool ?_))
      refine wpAny_bind (wpAny_letGo ?_)
      cases b with
      | true =>
        simp only [if_true]
        refine wpAny_bind (wpAny_rule (wpAny_pure ?_))
        exact hyes _ H' gd' hk
      | false =>
        simp only [Bool.false_eq_true, if_false]
        have hsz1 : g < s₁.gens.size := by
          have q : (s₁.setGen g gs').gens.size = s₁.gens.size := setGen_size _ _ _
          have hsz' : g + 1 ≤ (s₁.setGen g gs').gens.size := hsz
          omega
        refine wpAny_pure ⟨plainId_quiet PySem.F.plain_any_loop _, ih (s₁.setGen g gs') hg1 hl1 ⟨gs', setGen_at hsz1, ?_⟩⟩
        exact (show ∀ s', Slp [] s₁ s' → rcA (ys ++ [.bl false]) s'.heap → gs'.Goes _ _ _ _ m (.send .none) s' from hk) _ ⟨rfl, allBare_setGen (allBare_setGen gd.bare hbare) rfl, fun _ _ _ z => z, fun b hb => absurd hb (by simp)⟩ trivial
    · intro hsz
      exact wpAny_bind (wpAny_rule (wpAny_pure (fin hp hk)))
theorem call_anyG {k : Nat} {u : Value} {s : Shared} {E : Value → Shared → Prop} {Q : Value → Shared → Prop} (hr : Room (k + 6) A) (hfr : A.frames = some outer) (h : GM P w k outer H sc ex (cnA Qt) Qe u s)
    (hyes : ∀ s' H', GD P w outer H sc ex [] H' s' → Qt H' → Q (.bool true) s') (hno : ∀ s' H' ys, GD P w outer H sc ex [] H' s' → Qe ys H' → Q (.bool false) s') :
    wpAny (model P w) A (call (.builtin "any") [u]) Q E s := by
  obtain ⟨a, gn, c, n, rfl, ha1, ha2, hg, hgs, hos, hb, hl, hkp, wake⟩ := h
  refine call_function_tree PySem.F.kind_any PySem.F.plain_any PySem.F.entry_any (PySem.F.args_any1 _) ?_
  unfold Builtin.«any»
  refine wpAny_bind (m := oneArg "any" _) (wpAny_pure ?_)
  refine wpAny_bind (wpAny_pyIter_gen hg ?_)
  refine wpAny_pure ⟨plainId_quiet PySem.F.plain_any_loop _, ?_⟩
  refine drainA (P := P) (w := w) (outer := outer) (H := H) (sc := sc) (ex := ex) (Qe := Qe) (Qt := Qt) (g := gn) hr.hd hr.depth hyes hno n s hg hl ⟨_, hgs, rfl, ?_⟩
  refine wake _ [] rcA _ ⟨hr.hd, ?_, ?_⟩ hfr (fun b hb => absurd hb (by simp)) (fun _ _ z => z) hos (allBare_setGen hb rfl) (fun _ _ _ _ _ => trivial) trivial
  · have := hr.dp
    show A.depth + 3 * k + 5 < _
    omega
  · have := hr.un
    show A.units + 1 + 1 + 16 * k + 200 < _
    omega
end

/-! ### sum -/
def intOf : V → Int
  | .int i => i
  | _ => 0
def sumV (ys : List V) : Int := (ys.map intOf).sum
theorem sumV_snoc (ys : List V) (k : Int) : sumV (ys ++ [.int k]) = sumV ys + k := by
  unfold sumV
  rw [List.map_append, List.sum_append]
  show _ + (k + 0) = _
  omega
def cnS : CnT := fun ys y _ p => ∃ i, y = .int i ∧ (InLong i ∧ InLong (sumV ys + i)) ∧ p
theorem cnS_mono (ys : List V) (y : V) (H : Hp) (p q : Prop) (h : p → q) (c : cnS ys y H p) : cnS ys y H q := by
  obtain ⟨i, e, r, c⟩ := c
  exact ⟨i, e, r, h c⟩
def rcS (S : Addr) : List V → Heap → Prop := fun ys h => ∃ t c, h.get? S = some { cls := .type "list", dict := none, data := .seq #[.int (sumV ys) t] c, slots := #[] }
theorem rcS_keep {S : Addr} (ys : List V) (h h' : Heap) (r : rcS S ys h) (k : ∀ b ∈ [S], ∀ o, h.get? b = some o → h'.get? b = some o) : rcS S ys h' := by
  obtain ⟨t, c, e⟩ := r
  exact ⟨t, c, k S List.mem_cons_self _ e⟩
section
variable {P : Program} {w : World} {outer : List Env} {H : Hp} {sc : Shared} {ex : List Addr} {Qe : List V → Hp → Prop} {A : Around} {R : Result → Shared → Prop} {S a : Addr} {g : Nat}
theorem drainS (hh : A.handled = none) (hd : A.depth < recursionLimit) (hSa : S ≠ a) (hSc : S ≠ cStatics)
    (hend : ∀ s' H' ys t, GD P w outer H sc ex [S] H' s' → Qe ys H' → R (.ok (.ret (.int (sumV ys) t))) s') :
    ∀ (m : Nat) (s : Shared), s.heap.IsGen a g → s.heap.NoLimit → (∃ ys, rcS S ys s.heap) →
      (∃ gs, s.gens[g]? = some gs ∧ gs.Goes (model P w) A.in1.in1 (RG P w outer H sc ex [S] (rcS S) Qe) (YG P w outer H sc ex [S] a g (rcS S) cnS) m (.send .none) (s.setGen g .running)) →
      codeAny (model P w) A (.builtin "sum.loop" ⟨[.ref a, .ref S, rawInt 0, rawInt 0], []⟩) R s := by
  have fin : ∀ {s s₁ : Shared} {h' : Heap} {ys0 : List V} {t : Tok} {c : Nat}, s.heap.get? S = some { cls := .type "list", dict := none, data := .seq #[.int (sumV ys0) t] c, slots := #[] } →
      (∃ H' ys, GD P w outer H sc ex [S] H' s₁ ∧ (∀ b ∈ [S], ∀ o, (s.setGen g .running).heap.get? b = some o → s₁.heap.get? b = some o) ∧ rcS S ys s₁.heap ∧ Qe ys H') → (∀ b o, s₁.heap.get? b = some o → h'.get? b = some o) →
      R (.ok (.ret (.int (sumV ys0) t))) { s₁.setGen g .finished with heap := h' } := fun {s s₁ h' ys0 t c} eS hp hk => by
    obtain ⟨H', ys, gd, hS, ⟨t', c', e⟩, q⟩ := hp
    have e2 := hS S List.mem_cons_self _ eS
    rw [e] at e2
    have e3 : sumV ys = sumV ys0 := by
      simp only [Option.some.injEq, Obj.mk.injEq, Data.seq.injEq, true_and, and_true] at e2
      have e4 := e2.1
      simp at e4
      exact e4.1
    have r := hend _ H' ys t (gd.more (s2 := { s₁.setGen g .finished with heap := h' }) hk rfl (allBare_setGen gd.bare rfl)) q
    rw [e3] at r
    exact r
  intro m
  induction m with
  | zero =>
    intro s hg hl ⟨ys0, t0, c0, eS⟩ ⟨gs, hgs, hgo⟩
    refine codeAny_builtin PySem.F.entry_sum_loop ?_
    rw [Around.under_plainId PySem.F.plain_sum_loop _]
    show wpAny _ A.in1 (seqItems? (.ref S) >>= _) _ _ s
    refine wpAny_bind (wpAny_seqItems eS rfl ?_)
    show wpAny _ A.in1 (tryCatch (pyNext (.ref a)) _ >>= _) _ _ s
    refine wpAny_bind (wpAny_tryCatch (next_genG (A := A.in1) (F := fun _ s₀ s1 => ∃ H' ys, GD P w outer H sc ex [S] H' s1 ∧ (∀ b ∈ [S], ∀ o, s₀.heap.get? b = some o → s1.heap.get? b = some o) ∧ rcS S ys s1.heap ∧ Qe ys H') (Er := fun _ _ => False) hh hl hd hg hgs hgo (fun v s₁ gs' hbare hv => ?_) (fun s₁ hp h' hk => ?_) fun e s₁ he => False.elim he))
    · exfalso
      obtain ⟨ys, x, H', rv, gd, hl1, hg1, _, ⟨t, c, e⟩, i, ex, _, hk⟩ := hv
      subst ex
      refine (show ∀ s', Slp [S] s₁ s' → rcS S (ys ++ [.int i]) s'.heap → False from hk) { s₁ with heap := s₁.heap.update S (Obj.mapSeq (fun _ => #[.int (sumV ys + i) t])) } ⟨rfl, gd.bare, fun b o hb e' => ?_, fun b hb => ?_⟩ ⟨t, _, (Heap.get?_update_self _ e rfl).trans (by rw [sumV_snoc]; rfl)⟩
      · exact (Heap.get?_update_other _ _ (fun z : S = b => hb (by rw [z]; exact List.mem_cons_self))).trans e'
      · have hb : b = S := by simpa using hb
        rw [hb]
        exact ⟨_, Heap.get?_update_self _ e rfl, fun z q => by cases q⟩
    · exact wpAny_pure (fin eS hp hk)
  | succ m ih =>
    intro s hg hl ⟨ys0, t0, c0, eS⟩ ⟨gs, hgs, hgo⟩
    have hgl : g < s.gens.size := (Array.getElem?_eq_some_iff.mp hgs).1
    refine codeAny_builtin PySem.F.entry_sum_loop ?_
    rw [Around.under_plainId PySem.F.plain_sum_loop _]
    show wpAny _ A.in1 (seqItems? (.ref S) >>= _) _ _ s
    refine wpAny_bind (wpAny_seqItems eS rfl ?_)
    show wpAny _ A.in1 (tryCatch (pyNext (.ref a)) _ >>= _) _ _ s
    refine wpAny_bind (wpAny_tryCatch (wpAny_gsz (n := g + 1) hgl (next_genG (A := A.in1) (F := fun _ s₀ s1 => ∃ H' ys, GD P w outer H sc ex [S] H' s1 ∧ (∀ b ∈ [S], ∀ o, s₀.heap.get? b = some o → s1.heap.get? b = some o) ∧ rcS S ys s1.heap ∧ Qe ys H') (Er := fun _ _ => False) hh hl hd hg hgs hgo (fun v s₁ gs' hbare hv => ?_) (fun s₁ hp h' hk => ?_) fun e s₁ he => False.elim he)))
    · intro hsz
      obtain ⟨ys, x, H', rv, gd, hl1, hg1, hS, ⟨t, c, e⟩, i, ex, ⟨⟨f1, f2⟩, f3, f4⟩, hk⟩ := hv
      subst ex
      obtain ⟨ti, rfl⟩ := rv
      have e2 := hS S List.mem_cons_self _ eS
      rw [e] at e2
      have e3 : sumV ys = sumV ys0 := by
        simp only [Option.some.injEq, Obj.mk.injEq, Data.seq.injEq, true_and, and_true] at e2
        have e4 := e2.1
        simp at e4
        exact e4.1
      rw [e3] at f3 f4
      have hc : ((decide (-(2 ^ 63) ≤ i) && decide (i < 2 ^ 63)) && (decide (-(2 ^ 63) ≤ sumV ys0 + i) && decide (sumV ys0 + i < 2 ^ 63))) = true := by
        simp only [Bool.and_eq_true, decide_eq_true_eq]
        exact ⟨⟨f1, f2⟩, f3, f4⟩
      have hsz1 : g < s₁.gens.size := by
        have q : (s₁.setGen g gs').gens.size = s₁.gens.size := setGen_size _ _ _
        have hsz' : g + 1 ≤ (s₁.setGen g gs').gens.size := hsz
        omega
      show wpAny _ A.in1 (if (_ : Bool) = true then (mkInt (sumV ys0 + i) >>= _) else _) _ _ _
      split
      · refine wpAny_bind (wpAny_mkInt ?_)
        show wpAny _ A.in1 (updateSeq S (fun _ => #[.int (sumV ys0 + i) s₁.toks]) >>= _) _ _ _
        refine wpAny_bind ?_
        have keep3 : ∀ (tk : Tok) b o, b ≠ S → s₁.heap.get? b = some o → (s₁.heap.update S (Obj.mapSeq (fun _ => #[.int (sumV ys0 + i) tk]))).get? b = some o := fun tk b o hbS e => (Heap.get?_update_other _ _ (Ne.symm hbS)).trans e
        have eN : ∀ tk : Tok, ∃ c', (s₁.heap.update S (Obj.mapSeq (fun _ => #[.int (sumV ys0 + i) tk]))).get? S = some { cls := .type "list", dict := none, data := .seq #[.int (sumV (ys ++ [.int i])) tk] c', slots := #[] } := fun tk => by
          rw [sumV_snoc, e3]
          exact ⟨_, Heap.get?_update_self _ e rfl⟩
        obtain ⟨cN, eN'⟩ := eN s₁.toks
        refine wpAny_updateSeq e rfl (wpAny_pure ⟨plainId_quiet PySem.F.plain_sum_loop _, ih _ ?_ ?_ ⟨ys ++ [V.int i], s₁.toks, cN, eN'⟩ ⟨gs', setGen_at (s := s₁) hsz1, ?_⟩⟩)
        · obtain ⟨o, nm, qn, ho, r⟩ := hg1
          exact ⟨o, nm, qn, keep3 _ a o (Ne.symm hSa) ho, r⟩
        · obtain ⟨mc, hns, hnn⟩ := hl1
          exact ⟨mc, hns.at' fun o e => keep3 _ _ o (Ne.symm hSc) e, hnn⟩
        · refine (show ∀ s', Slp [S] s₁ s' → rcS S (ys ++ [.int i]) s'.heap → gs'.Goes _ _ _ _ m (.send .none) s' from hk) _ ⟨rfl, allBare_setGen (s := { s₁.setGen g gs' with heap := _, toks := _ }) (allBare_setGen gd.bare hbare) rfl, fun b o hb e' => keep3 _ b o (fun z => hb (by rw [z]; exact List.mem_cons_self)) e', fun b hb => ?_⟩ ⟨s₁.toks, cN, eN'⟩
          have hb : b = S := by simpa using hb
          rw [hb]
          exact ⟨_, eN', fun z q => by cases q⟩
      · rename_i hneg
        exact absurd hc hneg
    · intro hsz
      exact wpAny_pure (fin eS hp hk)
theorem call_sumG {k : Nat} {u : Value} {s : Shared} {E : Value → Shared → Prop} {Q : Value → Shared → Prop} (hr : Room (k + 6) A) (hfr : A.frames = some outer) (h : GM P w k outer H sc ex cnS Qe u s)
    (hQ : ∀ s' H' ys t, GD P w outer H sc ex [] H' s' → Qe ys H' → Q (.int (sumV ys) t) s') :
    wpAny (model P w) A (call (.builtin "sum") [u]) Q E s := by
  obtain ⟨a, gn, c, n, rfl, ha1, ha2, hg, hgs, hos, hb, hl, hkp, wake⟩ := h
  have hSa : s.heap.objs.size ≠ a := Nat.ne_of_gt ha2
  have hcl : cStatics < s.heap.objs.size := let ⟨_, hn, _⟩ := hl; hn.lt
  have hSc : s.heap.objs.size ≠ cStatics := Nat.ne_of_gt hcl
  refine call_function_tree PySem.F.kind_sum PySem.F.plain_sum PySem.F.entry_sum (PySem.F.args_sum1 _) ?_
  unfold Builtin.«sum»
  simp only [List.length_cons, List.length_nil]
  rw [if_neg (by decide)]
  refine wpAny_bind (wpAny_of_eq (show Builtin.Builtins.bindParams "sum" ["start"] 0 { } = pure [none] from rfl) ?_)
  refine wpAny_bind (wpAny_pyIter_gen hg ?_)
  refine wpAny_bind (wpAny_mkInt ?_)
  refine wpAny_bind (wpAny_pure ?_)
  simp only [List.forIn_cons, List.forIn_nil]
  refine wpAny_bind (wpAny_bind (wpAny_bind (wpAny_isInstance (T := "int") (b := false) (typeIs_int _ _ _) PySem.sub_int_str ?_)))
  simp only [Bool.false_eq_true, if_false]
  refine wpAny_pure (wpAny_bind (wpAny_bind (wpAny_isInstance (T := "int") (b := false) (typeIs_int _ _ _) PySem.sub_int_bytes ?_)))
  simp only [Bool.false_eq_true, if_false]
  refine wpAny_pure (wpAny_bind (wpAny_bind (wpAny_isInstance (T := "int") (b := false) (typeIs_int _ _ _) PySem.sub_int_bytearray ?_)))
  simp only [Bool.false_eq_true, if_false]
  refine wpAny_pure (wpAny_pure ?_)
  refine wpAny_bind (wpAny_newObj_type ?_)
  have kp : ∀ b o, s.heap.get? b = some o → (s.heap.push { cls := .type "list", data := .seq #[.int 0 s.toks] }).get? b = some o := fun b o e => Heap.get?_push_of_some _ e
  have hS : (s.heap.push { cls := .type "list", data := .seq #[.int 0 s.toks] }).get? s.heap.objs.size = some { cls := .type "list", data := .seq #[.int 0 s.toks] } := Heap.get?_push_size _ rfl
  refine wpAny_pure ⟨plainId_quiet PySem.F.plain_sum_loop _, ?_⟩
  refine drainS (P := P) (w := w) (outer := outer) (H := H) (sc := sc) (ex := ex) (Qe := Qe) (S := s.heap.objs.size) (g := gn) hr.hd hr.depth hSa hSc (fun s' H' ys t gd q => hQ s' H' ys t ⟨gd.os, gd.bare, gd.un, gd.hok, fun b hb => absurd hb (by simp)⟩ q) n _ (hg.keeps kp) (hl.keeps kp) ⟨[], s.toks, _, hS⟩ ⟨_, hgs, rfl, ?_⟩
  refine wake _ [s.heap.objs.size] (rcS s.heap.objs.size) _ ⟨hr.hd, ?_, ?_⟩ hfr (fun b hb => ?_) kp hos (allBare_setGen (s := { s with heap := _, toks := _ }) hb rfl) (fun ys h h' => rcS_keep ys h h') ⟨s.toks, _, hS⟩
  · have := hr.dp
    show A.depth + 3 * k + 5 < _
    omega
  · have := hr.un
    show A.units + 1 + 1 + 16 * k + 200 < _
    omega
  · have hb : b = s.heap.objs.size := by simpa using hb
    rw [hb]
    exact ⟨Nat.le_refl _, _, hS, fun v q => by cases q⟩
end

/-! ### the expressions -/
def tTupG (P : Addr) (wi : TI) (g : TG) (te : TE) (vs : List Nat) : TE := fun σ H Q => tGx P wi g te vs cnL (fun ys H => ys.length ≤ sizeLine ∧ ∀ p, H p = none → Q (.ref p) (upd H p (.tup ys))) σ H
def tAnyG (P : Addr) (wi : TI) (g : TG) (te : TE) (vs : List Nat) : TE := fun σ H Q => tGx P wi g te vs (cnA fun H => Q (.bl true) H) (fun _ H => Q (.bl false) H) σ H
def tSumG (P : Addr) (wi : TI) (g : TG) (te : TE) (vs : List Nat) : TE := fun σ H Q => tGx P wi g te vs cnS (fun ys H => Q (.int (sumV ys)) H) σ H
section
variable {X : Cx} {k : Nat} {c P : Addr} {elt tg iter : Expr} {gpos p pos : Pos} {scope : Scope} {own : List (Str × Nat)} {wi : TI} {g : TG} {te : TE}
theorem pe_tupG (hr : Room (k + 6) X.A) (hgl : Gl X "tuple") (hm : X.mg "tuple" = none) (hv : bootBuiltins "tuple" = some (.type "tuple")) (hN : X.N.Nodup) (TB : GxR.TabB X.base X.mg c P) (hcode : X.env.code = .ref c) (ok : GeOk X.N X.env.scope scope own) (hi : PI X tg iter wi)
    (hg : ∀ (A : Around) (s : Shared) (H : Hp) (code : Value) (fp : List Addr), PG (gCx X A s H scope code fp) tg g) (he : ∀ (A : Around) (s : Shared) (H : Hp) (code : Value) (fp : List Addr), Room k A → PE (gCx X A s H scope code fp) elt te)
    (hs : ∀ v, genFold iter X.env v = pure v := by intro _; rfl)
    (hst : starEach [.GeneratorExp elt [⟨tg, iter, [], 0⟩] scope gpos] X.env = (false, eval (.GeneratorExp elt [⟨tg, iter, [], 0⟩] scope gpos) X.env) :: starEach [] X.env := by rfl) :
    PE X (.Call (.Name "tuple" p) [.GeneratorExp elt [⟨tg, iter, [], 0⟩] scope gpos] [] pos) (tTupG P wi g te (own.map (·.2))) := by
  refine ⟨fun pins s σ H Q I h => ?_⟩
  refine wpAny_Call_Name_kw (ld_blt I hgl hm hv ?_)
  refine PyProof.Rows.callWith_type1 ?_ hst rfl
  rw [hst]
  show wpAny _ _ (spliced ((false, eval (.GeneratorExp elt [⟨tg, iter, [], 0⟩] scope gpos) X.env) :: backTo pos (starEach [] X.env))) _ _ s
  refine Calls.spliced_cons (thn (gen_made (hr.mono (by omega)) hN TB hcode ok hi hg he cnL_mono hs I h) fun u s1 hh => ?_)
  obtain ⟨H1, sc, ex, I1, hex, hG⟩ := hh
  refine Calls.spliced_nil ?_
  refine call_tupleG hr I1.ok.frames hG (fun s' acc H' ys hvs hl gd q hsz => ?_) fun ys H' q => q.1
  have I2 : Inv X pins σ H' s' := I1.call' gd.os gd.un gd.hok gd.bare hex
  have fr : H' s'.heap.objs.size = none := I2.hok.fresh (Nat.le_refl _)
  refine ⟨.ref s'.heap.objs.size, upd H' s'.heap.objs.size (.tup ys), ?_, rfl, q.2 _ fr⟩
  exact I2.laid (t' := s'.toks) (fun b o e => Heap.get?_push_of_some _ e) (Nat.le_refl _) ⟨hl, acc, hvs, IsTup.new s'.heap acc.toArray⟩
theorem pe_anyG (hr : Room (k + 6) X.A) (hgl : Gl X "any") (hm : X.mg "any" = none) (hN : X.N.Nodup) (TB : GxR.TabB X.base X.mg c P) (hcode : X.env.code = .ref c) (ok : GeOk X.N X.env.scope scope own) (hi : PI X tg iter wi)
    (hg : ∀ (A : Around) (s : Shared) (H : Hp) (code : Value) (fp : List Addr), PG (gCx X A s H scope code fp) tg g) (he : ∀ (A : Around) (s : Shared) (H : Hp) (code : Value) (fp : List Addr), Room k A → PE (gCx X A s H scope code fp) elt te)
    (hs : ∀ v, genFold iter X.env v = pure v := by intro _; rfl)
    (hst : starEach [.GeneratorExp elt [⟨tg, iter, [], 0⟩] scope gpos] X.env = (false, eval (.GeneratorExp elt [⟨tg, iter, [], 0⟩] scope gpos) X.env) :: starEach [] X.env := by rfl) :
    PE X (.Call (.Name "any" p) [.GeneratorExp elt [⟨tg, iter, [], 0⟩] scope gpos] [] pos) (tAnyG P wi g te (own.map (·.2))) := by
  refine ⟨fun pins s σ H Q I h => ?_⟩
  refine wpAny_Call_Name_kw (ld_blt I hgl hm boot_any ?_)
  refine PyProof.Rows.callWith_builtin1 ?_ hst (by rfl)
  rw [hst]
  show wpAny _ _ (spliced ((false, eval (.GeneratorExp elt [⟨tg, iter, [], 0⟩] scope gpos) X.env) :: backTo pos (starEach [] X.env))) _ _ s
  refine Calls.spliced_cons (thn (gen_made (hr.mono (by omega)) hN TB hcode ok hi hg he cnA_mono hs I h) fun u s1 hh => ?_)
  obtain ⟨H1, sc, ex, I1, hex, hG⟩ := hh
  refine Calls.spliced_nil ?_
  refine call_anyG hr I1.ok.frames hG (fun s' H' gd q => ?_) fun s' H' ys gd q => ?_
  · exact ⟨.bl true, H', I1.call' gd.os gd.un gd.hok gd.bare hex, rfl, q⟩
  · exact ⟨.bl false, H', I1.call' gd.os gd.un gd.hok gd.bare hex, rfl, q⟩
theorem pe_sumG (hr : Room (k + 6) X.A) (hgl : Gl X "sum") (hm : X.mg "sum" = none) (hv : bootBuiltins "sum" = some (.builtin "sum")) (hN : X.N.Nodup) (TB : GxR.TabB X.base X.mg c P) (hcode : X.env.code = .ref c) (ok : GeOk X.N X.env.scope scope own) (hi : PI X tg iter wi)
    (hg : ∀ (A : Around) (s : Shared) (H : Hp) (code : Value) (fp : List Addr), PG (gCx X A s H scope code fp) tg g) (he : ∀ (A : Around) (s : Shared) (H : Hp) (code : Value) (fp : List Addr), Room k A → PE (gCx X A s H scope code fp) elt te)
    (hs : ∀ v, genFold iter X.env v = pure v := by intro _; rfl)
    (hst : starEach [.GeneratorExp elt [⟨tg, iter, [], 0⟩] scope gpos] X.env = (false, eval (.GeneratorExp elt [⟨tg, iter, [], 0⟩] scope gpos) X.env) :: starEach [] X.env := by rfl) :
    PE X (.Call (.Name "sum" p) [.GeneratorExp elt [⟨tg, iter, [], 0⟩] scope gpos] [] pos) (tSumG P wi g te (own.map (·.2))) := by
  refine ⟨fun pins s σ H Q I h => ?_⟩
  refine wpAny_Call_Name_kw (ld_blt I hgl hm hv ?_)
  refine PyProof.Rows.callWith_builtin1 ?_ hst (by rfl)
  rw [hst]
  show wpAny _ _ (spliced ((false, eval (.GeneratorExp elt [⟨tg, iter, [], 0⟩] scope gpos) X.env) :: backTo pos (starEach [] X.env))) _ _ s
  refine Calls.spliced_cons (thn (gen_made (hr.mono (by omega)) hN TB hcode ok hi hg he cnS_mono hs I h) fun u s1 hh => ?_)
  obtain ⟨H1, sc, ex, I1, hex, hG⟩ := hh
  refine Calls.spliced_nil ?_
  refine call_sumG hr I1.ok.frames hG fun s' H' ys t gd q => ?_
  exact ⟨.int (sumV ys), H', I1.call' gd.os gd.un gd.hok gd.bare hex, ⟨t, rfl⟩, q⟩
end
end MG

set_option Elab.async false
set_option linter.all false
set_option maxRecDepth 100000
set_option maxHeartbeats 2000000
/-! Lambdas without parameters as values: made, kept in a list, called by a def in a comprehension over that list. -/
namespace ML
open PySem PySem.Spec PyProof.Rows L2 LamX

structure LamD where
  params : Arguments
  body : Expr
  scope : Scope
/-- at f the lambda L, its code at c', made where the cells are these -/
def LamO (cells : List (Str × Addr)) (q : Str) (L : LamD) (c' f : Addr) : HO :=
  .ext fun h => ∃ pm ctv, h.get? f = some (PySem.W.kla_obj "<lambda>" q L.params L.body L.scope (cloFrom cells L.scope.names []) pm c' ctv)
theorem lamO_ne {cells : List (Str × Addr)} {q : Str} {L : LamD} {c' f : Addr} (ps : Array Value) : LamO cells q L c' f ≠ .tbl ps := fun z => by
  unfold LamO at z
  cases z
theorem lamO_ok {P : Program} {w : World} {H : Hp} {h : Heap} {cells : List (Str × Addr)} {q : Str} {L : LamD} {c' f : Addr} {pm ctv : Value} (e : h.get? f = some (PySem.W.kla_obj "<lambda>" q L.params L.body L.scope (cloFrom cells L.scope.names []) pm c' ctv)) : ObjOk P w H h f (LamO cells q L c' f) :=
  ⟨⟨pm, ctv, e⟩, ⟨_, e⟩, fun h1 h2 ⟨pm, ctv, z⟩ st => ⟨pm, ctv, st _ z⟩⟩

section
variable {X : Cx} {pins : List (Addr × Obj)} {σ : L2.St} {H : Hp} {s : Shared}
/-- a lambda as a value -/
def tLamV (P : Addr) (T : List (Addr × Str)) (cells : List (Str × Addr)) (q : Str) (L : LamD) : TE := fun _ H Q => Tabs T H ∧ ∀ f c' H1, ExtN H H1 → (∀ b o, H b = some o → b ≠ P → H1 b = some o) → Tabs T H1 → H f = none → H1 f = some (LamO cells q L c' f) → H1 c' = some (CodeO c' q) → Q (.ref f) H1
theorem pe_lamV {T : List (Addr × Str)} {c P : Addr} {params : Arguments} {body : Expr} {scope : Scope} {pos : Pos} (TB : TabB X.base X.mg c P) (hcode : X.env.code = .ref c) (hm : (P, X.env.qual ++ "<lambda>") ∈ T) (hu : ∀ p ∈ T, p.1 = P → p.2 = X.env.qual ++ "<lambda>")
    (hdef : defaultsOf params X.env = ([], []) := by rfl) (L : LamS X.env.scope scope := by exact lamS_by (by decide +kernel)) :
    PE X (.Lambda params body scope pos) (tLamV P T X.env.cells (X.env.qual ++ "<lambda>") ⟨params, body, scope⟩) := by
  refine ⟨fun pins s σ H Q I h => ?_⟩
  obtain ⟨hT, h⟩ := h
  obtain ⟨ps, hP, ht, ha⟩ := hT _ hm
  refine PySem.W.kla_eval hdef ?_
  have bP : s.heap.BuiltinsAt X.mg P := TB.bm.keeps I.bk
  have hP' : s.heap.get? P = some { cls := .none, data := .fields ps } := I.hok P _ hP
  cases hc : codeAmong pos ps.toList with
  | none =>
    refine PySem.W.kla_makeFunction (mg := X.mg) (c := c) (P := P) (ps := ps) (closure_ok (L.has I.ok)) I.ok.glob (I.mod.glob.keeps I.bk) hcode (TB.code.keeps I.bk) hP' ht hc TB.gP bP fun c' ctv h' tk hx hge hlt hrec htb => ?_
    obtain ⟨c2, oc, vs, t, e2, hoc, hd, hv⟩ := hrec
    cases e2
    have nC : H c' = none := I.hok.fresh hge
    have I1 := inv_table (t' := tk) (more := #[rawInt pos.line, rawInt pos.col, .ref c']) (h' := h') I hP (fun b o hb e => hx b o hb e) htb hge ⟨oc, vs, t, hoc, hd, hv⟩
    have hE : ExtN H (upd (upd H P (.tbl (ps ++ #[rawInt pos.line, rawInt pos.col, .ref c']))) c' (CodeO c' (X.env.qual ++ "<lambda>"))) := fun b o e n => by
      rw [upd_ne (ne_of_none e nC), upd_ne (fun z => n ps (Option.some.inj (e.symm.trans (by rw [z]; exact hP))))]
      exact e
    generalize hH1 : upd (upd H P (.tbl (ps ++ #[rawInt pos.line, rawInt pos.col, .ref c']))) c' (CodeO c' (X.env.qual ++ "<lambda>")) = H1 at I1 hE
    have T1 : Tabs T H1 := fun p hp => by
      rw [← hH1]
      by_cases hb : p.1 = P
      · rw [hu p hp hb, hb]
        have eL : (ps ++ #[rawInt pos.line, rawInt pos.col, .ref c']).toList = ps.toList ++ [rawInt pos.line, rawInt pos.col, .ref c'] := by simp
        refine ⟨_, by rw [upd_ne (ne_of_none hP nC), upd_same], by rw [eL]; exact PySem.TriplesOk_snoc _ _ _ _ ht, fun p' cv hcv => ?_⟩
        rw [eL] at hcv
        rcases among_app _ ht hcv with z | z
        · obtain ⟨c0, e1, e2⟩ := ha p' cv z
          exact ⟨c0, e1, by rw [hH1]; exact hE _ _ e2 codeO_ne⟩
        · exact ⟨c', z, upd_same⟩
      · obtain ⟨ps', a1, a2, a3⟩ := hT p hp
        refine ⟨ps', by rw [upd_ne (ne_of_none a1 nC), upd_ne hb]; exact a1, a2, fun p' cv hcv => ?_⟩
        obtain ⟨c0, e1, e2⟩ := a3 p' cv hcv
        exact ⟨c0, e1, by rw [hH1]; exact hE _ _ e2 codeO_ne⟩
    have eC : H1 c' = some (CodeO c' (X.env.qual ++ "<lambda>")) := by
      rw [← hH1]
      exact upd_same
    have fr : H1 h'.objs.size = none := I1.hok.fresh (Nat.le_refl _)
    have hsz : s.heap.objs.size ≤ h'.objs.size := Nat.le_trans hge (Nat.le_of_lt hlt)
    have I2 := I1.laid (h' := h'.push (PySem.W.kla_obj "<lambda>" (X.env.qual ++ "<lambda>") params body scope (cloFrom X.env.cells scope.names []) ((X.mg "__name__").getD .none) c' ctv)) (a := h'.objs.size) (o := LamO X.env.cells (X.env.qual ++ "<lambda>") ⟨params, body, scope⟩ c' h'.objs.size) (t' := tk) (fun b u e => Heap.get?_push_of_some _ e) (Nat.le_refl _) (lamO_ok (Heap.get?_push_size _ rfl))
    have ext : ∀ b o, H1 b = some o → upd H1 h'.objs.size (LamO X.env.cells (X.env.qual ++ "<lambda>") ⟨params, body, scope⟩ c' h'.objs.size) b = some o := fun b o e => by
      rw [upd_ne (ne_of_none e fr)]
      exact e
    exact ⟨.ref h'.objs.size, _, I2, rfl, h _ c' _ (hE.trans (.of ext)) (fun b o e n => ext b o (by rw [← hH1, upd_ne (ne_of_none e nC), upd_ne n]; exact e)) (T1.ext ext) (I.hok.fresh hsz) upd_same (ext _ _ eC)⟩
  | some cv =>
    obtain ⟨c', e, hco⟩ := ha pos cv hc
    subst e
    refine PySem.W.kla_makeFunctionHit (mg := X.mg) (c := c) (P := P) (ps := ps) (closure_ok (L.has I.ok)) I.ok.glob (I.mod.glob.keeps I.bk) hcode (TB.code.keeps I.bk) hP' ht hc bP fun ctv h' tk hx hsz => ?_
    have I1 : Inv X pins σ H { s with heap := h', toks := tk } := I.kept hx
    have fr : H h'.objs.size = none := I1.hok.fresh (Nat.le_refl _)
    have I2 := I1.laid (h' := h'.push (PySem.W.kla_obj "<lambda>" (X.env.qual ++ "<lambda>") params body scope (cloFrom X.env.cells scope.names []) ((X.mg "__name__").getD .none) c' ctv)) (a := h'.objs.size) (o := LamO X.env.cells (X.env.qual ++ "<lambda>") ⟨params, body, scope⟩ c' h'.objs.size) (t' := tk) (fun b u e => Heap.get?_push_of_some _ e) (Nat.le_refl _) (lamO_ok (Heap.get?_push_size _ rfl))
    have ext : ∀ b o, H b = some o → upd H h'.objs.size (LamO X.env.cells (X.env.qual ++ "<lambda>") ⟨params, body, scope⟩ c' h'.objs.size) b = some o := fun b o e => by
      rw [upd_ne (ne_of_none e fr)]
      exact e
    exact ⟨.ref h'.objs.size, _, I2, rfl, h _ c' _ (.of ext) (fun b o e _ => ext b o e) (hT.ext ext) fr upd_same (ext _ _ hco)⟩

/-! ### called, where its maker's state is known -/
theorem lam_start {HZ H3 : Hp} {s3 s1 : Shared} {A : Around} {outer : List Env} {E : XK} {scope : Scope} {f c' : Addr} {h₁ : Heap} {tk : Nat} {fs ex : List Addr} (I : Inv X pins σ H3 s3) (L : LamS X.env.scope scope) (e0 : Env0 X.prog X.w X.K X.mg X.base A outer s1 HZ) (hd : A.handled = none)
    (un : Un fs ex H3 HZ s3.heap s1.heap) (hex : ∀ b ∈ ex, ∀ x c, X.env.cells.lookup x = some c → c ≠ b) (hns : h₁.Ns s1.heap.objs.size fun y => ([] : List (Str × Value)).reverse.lookup y) (kp : ∀ b o, s1.heap.get? b = some o → h₁.get? b = some o) :
    Inv (lamCx X A outer s1 HZ E scope f c') [] σ HZ { s1 with heap := h₁, toks := tk } := by
  have hfree := L.has I.ok
  have cm : ∀ {y c}, (cloFrom X.env.cells scope.names []).lookup y = some c → X.env.cells.lookup y = some c := fun {y c} e => by
    rcases cloFrom_mem (PySem.mem_of_lookup e) with hm | ⟨q1, q2⟩
    · cases hm
    · obtain ⟨c1, hc⟩ := hfree _ q1 rfl
      have hc : X.env.cells.lookup y = some c1 := hc
      rw [q2, hc]
      rfl
  have look : ∀ {y}, scope.names.lookup y = some .free → ∃ c, (cloFrom X.env.cells scope.names []).lookup y = some c := fun {y} hl =>
    mem_lookup (cloFrom_has (cells := X.env.cells) (acc := []) (PySem.mem_of_lookup hl))
  have notEx : ∀ {y c}, X.env.cells.lookup y = some c → c ∉ ex := fun {y c} e hm => hex c hm y c e rfl
  have cellK : ∀ {y} {c : Addr} {v : Option Value}, X.env.cells.lookup y = some c → s3.heap.IsCell c v → h₁.IsCell c v := fun {y c v} e ⟨o, ho, hdt⟩ => by
    obtain ⟨sl, q⟩ := un.any ho (I.freeC y c e) (notEx e)
    exact ⟨_, kp _ _ q, hdt⟩
  have noA : ∀ b : Addr, b ∉ (lamCx X A outer s1 HZ E scope f c').ex := fun b z => absurd (show b ∈ ([] : List Addr) from z) (by simp)
  refine ⟨⟨e0.mod, L.kind, rfl, rfl, Nat.le_refl _, fun y z c e1 e2 => I.ok.inj y z c (cm e1) (cm e2), fun y hy => ?_, fun y c z _ => ?_, fun _ => hd, Around.frames_deeper e0.frames, .inr ⟨rfl, rfl⟩, fun b z => absurd z (noA b), e0.bs, e0.bsz, fun b _ _ => noA b,
      fun b z => absurd z (noA b), e0.funs, e0.frf⟩,
    rfl, e0.bare, Un.kept kp, ⟨_, hns, fun i y v e1 e2 e3 => ?_⟩, fun y c e => ?_, e0.hok.fresh (Nat.le_refl _), fun y c e => ?_, fun q hq => absurd (show q ∈ ([] : List (Addr × Obj)) ++ [] from hq) (by simp), e0.hok.kept kp, I.len⟩
  · have hy : scope.names.lookup y = some .cell ∨ scope.names.lookup y = some .free := hy
    rcases hy with hy | hy
    · exact absurd rfl (L.own _ (PySem.mem_of_lookup hy)).2
    · exact look hy
  · cases (show false = true from z)
  · have e3 : Vis scope y := e3
    rcases e3 with k | k | k
    · exact absurd rfl (L.own _ (PySem.mem_of_lookup k)).1
    · exact absurd rfl (L.own _ (PySem.mem_of_lookup k)).2
    · obtain ⟨m, hn, hl⟩ := I.loc
      have hvis : Vis X.env.scope y := (L.free _ (PySem.mem_of_lookup k) rfl).elim (fun k => .inr (.inl k)) (fun k => .inr (.inr k))
      obtain ⟨w', r, q⟩ := hl i y v e1 e2 hvis
      obtain ⟨c2, h2⟩ := look k
      refine ⟨w', r, .inr ⟨.inr k, c2, h2, ?_⟩⟩
      have c1 := cm h2
      rcases q with ⟨k', _⟩ | ⟨_, c3, e', z⟩
      · have k' : X.env.scope.names.lookup y = some .local := k'
        rcases L.free _ (PySem.mem_of_lookup k) rfl with k2 | k2
        · rw [show X.env.scope.names.lookup y = _ from k2] at k'
          cases k'
        · rw [show X.env.scope.names.lookup y = _ from k2] at k'
          cases k'
      · rw [c1] at e'
        cases e'
        exact cellK c1 z
  · obtain ⟨w', z⟩ := I.cell y c (cm e)
    exact ⟨w', cellK (cm e) z⟩
  · obtain ⟨v, o, ho, hdt⟩ := I.cell y c (cm e)
    exact un.free c o ho (I.freeC y c (cm e)) (notEx (cm e))

/-- what may be called so: the lambdas, each with the reading of its body -/
structure LamT (X : Cx) (k : Nat) (L : LamD) (t : XK → TE) : Prop where
  sc : LamS X.env.scope L.scope
  bind : ∀ (q : Str) (cl : List (Str × Addr)) (pm cv ctv : Value), bindArgs (PySem.W.kla_fn "<lambda>" q L.params L.body L.scope cl pm cv ctv) ⟨[], []⟩ = pure []
  body : ∀ (A : Around) (outer : List Env) (s : Shared) (H : Hp) (E : XK) (f c' : Addr), Room k (A.deeper (lamEnv X L.scope s.heap.objs.size f c')) → PE (lamCx X A outer s H E L.scope f c') L.body (t E)

/-- x(), in the def g that got the lambda: g entered at s; the maker X as it stood at s3 -/
theorem pe_actB {CXg : CXT} {Eg : XK} {Ng : List Str} {qg : Str} {sg : Scope} {g f c' : Addr} {cdg : Value} {L : LamD} {t : XK → TE} {k i : Nat} {a : Str} {pn : List (Addr × Obj)} {xe : Value → Shared → Prop} {W : WX} {E : XK} {p1 p2 : Pos} {A : Around} {st : List Env} {s3 s : Shared} {H3 H : Hp} {fs ex : List Addr}
    (I : Inv X pins σ H3 s3) (LT : LamT X k L t) (un : Un fs ex H3 H s3.heap s.heap) (hex : ∀ b ∈ ex, ∀ x c, X.env.cells.lookup x = some c → c ≠ b)
    (tk : Takes ((cxOf CXg X.prog X.w X.K X.mg X.base Ng qg sg g cdg A st s H Eg).tr pn xe) W) (hW : ∀ cls d σ' H', E cls d H' → W cls d σ' H') (hr : Room (k + 1) (A.deeper (envOfC qg sg s.heap.objs.size g cdg)))
    (hN : Ng[i]? = some a) (hv : Vis sg a) (hdb : (a == ("__debug__" : Str)) = false := by decide) (hcd : (a == ("__classdict__" : Str)) = false := by decide) :
    PE ((cxOf CXg X.prog X.w X.K X.mg X.base Ng qg sg g cdg A st s H Eg).tr pn xe) (.Call (.Name a p1) [] [] p2)
      (fun σZ HZ Q => σZ[i]? = some (some (.ref f)) ∧ HZ f = some (LamO X.env.cells (X.env.qual ++ "<lambda>") L c' f) ∧ HZ c' = some (CodeO c' (X.env.qual ++ "<lambda>")) ∧ t E σ HZ Q) := by
  refine ⟨fun pinsZ sZ σZ HZ Q IZ h => ?_⟩
  obtain ⟨hs, hf, hc, ht⟩ := h
  refine wpAny_Call_Name_kw (thn ((pe_var (pos := p1) (i := i) hN hv hdb hcd).run pinsZ sZ σZ HZ (fun v H1 => v = .ref f ∧ H1 = HZ) IZ ⟨.ref f, hs, rfl, rfl⟩) fun u s1 hh => ?_)
  obtain ⟨v, H1, I1, r1, ev, eH⟩ := hh
  subst ev
  rw [eH] at I1
  obtain rfl : u = Value.ref f := r1
  obtain ⟨⟨pm, ctv, of1⟩, _, _⟩ := I1.hok f _ hf
  refine PySem.W.callWith_F0 ⟨_, _, _, _, of1⟩ ?_
  have unZ : Un (fs ++ frs st) ex H3 HZ s3.heap s1.heap := (un.mono (fun b hb => List.mem_append_left _ hb) fun b hb => hb).trans ((show Un (frs st) [] H HZ s.heap s1.heap from I1.base).mono (fun b hb => List.mem_append_right _ hb) fun b hb => absurd hb (by simp))
  obtain ⟨⟨oc, vs, tt, hoc, hdc, hvc⟩, _, _⟩ := I1.hok c' _ hc
  have rc : codeAny (model X.prog X.w) (A.deeper (envOfC qg sg s.heap.objs.size g cdg)) (.call (.ref f) ⟨[], []⟩) (CR (L2.CX X.prog X.w) (envOfC qg sg s.heap.objs.size g cdg :: st) X.prog X.w HZ s1 Q E) s1 := by
    refine PySem.W.kla_callFunE hr.depth of1 rfl LT.sc.co LT.sc.gen rfl ⟨c', oc, vs, tt, rfl, hoc, hdc, hvc⟩ ?_
    rw [LT.bind]
    refine wpAny_pure (wpAny_newFunctionEnv (fun y hy => (LT.sc.own y hy).2) (fun y hy => absurd hy (by simp)) (fun h₁ hns hsb => ⟨I1.nolimit.fresh _ hsb, ?_⟩) LT.sc.kind)
    show codeAny _ _ (.expr L.body (lamEnv X L.scope s1.heap.objs.size f c')) _ _
    have kp : ∀ b o, s1.heap.get? b = some o → h₁.get? b = some o := fun b o e => hsb.extBut b o (Nat.ne_of_lt (Heap.lt_size e)) (Heap.get?_push_of_some _ e)
    have J : Inv (lamCx X (A.deeper (envOfC qg sg s.heap.objs.size g cdg)) (envOfC qg sg s.heap.objs.size g cdg :: st) s1 HZ E L.scope f c') [] σ HZ { s1 with heap := h₁, toks := s1.toks + ([] : List (Str × Value)).length } :=
      lam_start I LT.sc I1.env0 hr.hd unZ hex hns kp
    refine PySem.W.kla_codeExpr (wpAny_mono ((LT.body _ _ s1 HZ E f c' (hr.deeper _)).run [] _ _ HZ Q J ht) (fun v s' hq => ?_) fun e s' hq => hq)
    obtain ⟨w', H', J', rv, q⟩ := hq
    exact ⟨w', H', J'.os, J'.bare, J'.base, J'.hok, rv, q⟩
  have hx : Passes (L2.CX X.prog X.w) ((cxOf CXg X.prog X.w X.K X.mg X.base Ng qg sg g cdg A st s H Eg).tr pn xe) E := passes_call tk hW
  refine wpAny_call (codeAny_mono rc fun r s' hq => ?_)
  cases r with
  | error e => exact hx pinsZ σZ HZ s1 e s' I1 hq
  | ok fl =>
    cases fl with
    | ret u => exact I1.after hq
    | next => exact False.elim hq
    | brk => exact False.elim hq
    | cont => exact False.elim hq
end

section
variable {X : Cx}
/-- a list comprehension whose tests lean on the maker's own state -/
theorem pe_lcI {elt tg iter : Expr} {ifs : List Expr} {scope : Scope} {own : List (Str × Nat)} {pos : Pos} {wi : TI} {g : TG} {tt : TT} {te : TE} (hc : X.calm = true) (hN : X.N.Nodup) (hi : PI X tg iter wi) (ok : BlkOk X.N X.env.scope scope own)
    (hg : ∀ (s : Shared) (H : Hp) (C : Addr) (cl : List (Str × Addr)) (fp : List Addr), PG (X.blk s H scope (compEnvC scope cl C X.env) fp) tg g)
    (ht : ∀ (s : Shared) (H : Hp) (C : Addr) (cl : List (Str × Addr)) (fp : List Addr) (pins : List (Addr × Obj)) (σ : L2.St), Inv X pins σ H s → (∀ b ∈ fp, ∀ x c, X.env.cells.lookup x = some c → c ≠ b) →
      PTs (X.blk s H scope (compEnvC scope cl C X.env) fp) ifs (fun σB HB Q => wipe σB (own.map (·.2)) = wipe σ (own.map (·.2)) ∧ tt σB HB Q))
    (he : ∀ (s : Shared) (H : Hp) (C : Addr) (cl : List (Str × Addr)) (fp : List Addr), PE (X.blk s H scope (compEnvC scope cl C X.env) fp) elt te) (hs : ∀ x, foldedSetIterable iter X.env x = pure x := by intro _; rfl) :
    PE X (.ListComp elt [⟨tg, iter, ifs, 0⟩] scope pos) (tLc wi g tt te (own.map (·.2))) := by
  refine ⟨fun pins s σ H Q I h => ?_⟩
  rw [eval_ListComp]
  have hfree : ∀ y ∈ scope.names, y.2 = .free → ∃ c, X.env.cells.lookup y.1 = some c := fun y hy e => (ok.free y hy e).elim (fun k => I.ok.has _ (.inl k)) fun k => I.ok.has _ (.inr k)
  refine wpAny_comprehension_free rfl hs (closure_ok hfree) ok.kind (fun y hy e => by rw [ok.uniq y hy, e]) (thn (hi.run pins s σ H _ I h) fun xv s1 hx => thn hx fun itv s2 h2 => ?_)
  obtain ⟨it, fp, tn, J, H2, e, I2, T, st2, f2, q⟩ := h2
  subst e
  refine wpAny_newObj_type (newEnv_comp ?_) (by show 0 ≤ sizeLine; decide)
  generalize hD : s2.heap.objs.size = D
  obtain ⟨W, ⟨m0, w0⟩, turn⟩ := q D (I2.hok.fresh (Nat.le_of_eq hD))
  -- the list that is made
  generalize hs3 : ({ s2 with heap := s2.heap.push { cls := .type "list", data := .seq ([] : List Value).toArray } } : Shared) = s3
  have h3 : s3.heap = s2.heap.push { cls := .type "list", data := .seq ([] : List Value).toArray } := by rw [← hs3]
  have I3 : Inv X pins σ (upd H2 D (.lst [])) s3 := by
    rw [← hs3]
    exact I2.laid (t' := s2.toks) (fun b o e => Heap.get?_push_of_some _ e) (Nat.le_of_eq hD) ⟨Nat.zero_le _, [], 0, .nil, by rw [← hD]; exact Heap.get?_push_size _ rfl⟩
  have f3 : ∀ b ∈ fp, FpOk X pins (upd H2 D (.lst [])) b ∧ b < s3.heap.objs.size := fun b hb => by
    obtain ⟨o, eo, _⟩ := T.obj _ _ st2 b hb
    have hlt := Heap.lt_size eo
    refine ⟨⟨?_, (f2 b hb).2⟩, by rw [h3, Heap.size_push]; exact Nat.lt_succ_of_lt hlt⟩
    rw [upd_ne (by rw [← hD]; exact Nat.ne_of_lt hlt)]
    exact (f2 b hb).1
  have st3 : tn 0 s3.heap := T.keep _ _ _ st2 fun b _ o e => by rw [h3]; exact Heap.get?_push_of_some _ e
  have I4 := block_start I3 ok hN f3
  have pg := hg s3 (upd H2 D (.lst [])) s3.heap.objs.size (cellsFrom (s3.heap.objs.size + 1) scope.names (cloFrom X.env.cells scope.names [])) fp
  have pt := ht s3 (upd H2 D (.lst [])) s3.heap.objs.size (cellsFrom (s3.heap.objs.size + 1) scope.names (cloFrom X.env.cells scope.names [])) fp pins σ I3 fun b hb x c e => (f3 b hb).1.2.2.2.2.1 x c e
  have pe := he s3 (upd H2 D (.lst [])) s3.heap.objs.size (cellsFrom (s3.heap.objs.size + 1) scope.names (cloFrom X.env.cells scope.names [])) fp
  have nfp : ∀ b ∈ fp, (upd H2 D (.lst [])) b = none := fun b hb => (f3 b hb).1.1
  show codeAny _ _ (.compStart (.ListComp elt [⟨tg, iter, ifs, 0⟩] scope pos) 0 (.ref it) (.ref D) (compEnvC scope (cellsFrom (s3.heap.objs.size + 1) scope.names (cloFrom X.env.cells scope.names [])) s3.heap.objs.size X.env)) _ { s3 with heap := pushCells (s3.heap.push { cls := .type "dict", data := .dict #[] }) scope.names }
  generalize hce : compEnvC scope (cellsFrom (s3.heap.objs.size + 1) scope.names (cloFrom X.env.cells scope.names [])) s3.heap.objs.size X.env = ce at I4 pg pt pe ⊢
  have cL : ce.locals = s3.heap.objs.size := by subst hce; rfl
  generalize hH3 : upd H2 D (.lst []) = H3 at I3 I4 pg pt pe w0 nfp f3
  generalize hs4 : ({ s3 with heap := pushCells (s3.heap.push { cls := .type "dict", data := .dict #[] }) scope.names } : Shared) = s4 at I4 ⊢
  have st4 : tn 0 s4.heap := T.keep _ _ _ st3 fun b _ o e => by rw [← hs4]; exact pushCells_keeps _ _ _ _ (Heap.get?_push_of_some _ e)
  have stat : ∀ {σ' : L2.St} {H' : Hp} {s' : Shared}, Inv (X.blk s3 H3 scope ce fp) [] σ' H' s' → (∀ b ∈ fp, H' b = none) → ∀ b ∈ fp, FpOk (X.blk s3 H3 scope ce fp) [] H' b := fun {σ' H' s'} I' hn b hb =>
    ⟨hn b hb, (I'.ok.exf b hb).1, I'.ok.exfs b hb, .inl hb, fun x c e => (I'.ok.exf b hb).2 x c e, fun p hp => absurd (show p ∈ ([] : List (Addr × Obj)) ++ [] from hp) (by simp)⟩
  have loop : codeAny (model X.prog X.w) X.A (.compLoop (.ListComp elt [⟨tg, iter, ifs, 0⟩] scope pos) 0 (.ref it) (.ref D) ce) (compPost (model X.prog X.w) X.A X.xe none (EP X pins σ Q) (.ref D) s3.heap.objs.size) s4 := by
    refine compLoop_any (fun n s' => ∃ i H', Inv (X.blk s3 H3 scope ce fp) [] (wipe σ (own.map (·.2))) H' s' ∧ tn i s'.heap ∧ (∀ b ∈ fp, H' b = none) ∧ W i n H') ?_ m0 ⟨0, H3, I4, st4, nfp, w0⟩
    rintro n s5 ⟨i, H5, I5, st5, n5, w5⟩
    rcases turn i n H5 w5 with ⟨stop, qq⟩ | ⟨go, Nx, hNx, step⟩
    · refine thnF (T.done (X.blk s3 H3 scope ce fp) rfl rfl rfl hc i [] s5 _ H5 (fun _ _ => False) I5 (stat I5 n5) st5 stop) fun r s6 hr => ?_
      obtain ⟨er, I6⟩ := hr
      subst er
      have I7 : Inv X pins σ H5 s6 := I3.call' (ch := fp) I6.os I6.base I6.hok I6.bare fun b hb => ⟨(f3 b hb).1.2.2.2.1, (f3 b hb).1.2.1, (f3 b hb).1.2.2.2.2.1, (f3 b hb).1.2.2.2.2.2⟩
      have nC : H5 s3.heap.objs.size = none := by
        have z : H5 ce.locals = none := I6.free
        rwa [cL] at z
      obtain ⟨m, hn, _⟩ := I6.loc
      have hn : s6.heap.Ns ce.locals m := hn
      rw [cL] at hn
      refine ⟨m, hn, fun h'' sb => ?_⟩
      obtain ⟨g0, g1, g2, g3, g4, g5⟩ := I3.fpOk (Nat.le_refl _) nC
      exact ⟨.ref D, H5, I7.turned (t' := s6.toks) (fun b o hb e => (sb.2 b hb).trans e) g0 g1 g3 g4 g5, rfl, qq⟩
    · refine thnF (T.item (X.blk s3 H3 scope ce fp) rfl rfl rfl hc i [] s5 _ H5 (fun _ _ => False) I5 (stat I5 n5) st5 go) fun r s6 hr => ?_
      obtain ⟨u, er, h6⟩ := hr
      subst er
      refine thnF h6 fun _ s7 h7 => ?_
      obtain ⟨x, H7, I7, r7, y7, st7, n7⟩ := h7
      refine thnF (pg.run _ s7 _ H7 x u _ (I7.pinned (stat I7 n7) (T.obj _ _ st7)) r7 (step x H7 y7)) fun _ s8 h8 => ?_
      obtain ⟨σ8, H8, I8, hw8, q8⟩ := h8
      refine thnF (pt.run _ s8 σ8 H8 _ I8 ⟨hw8, q8⟩) fun b s9 h9 => ?_
      obtain ⟨H9, I9, q9⟩ := h9
      have fin : ∀ {s' : Shared} {H' : Hp}, Inv (X.blk s3 H3 scope ce fp) ([] ++ pinsAt fp s7.heap) σ8 H' s' → Nx H' → ∃ m, m < n ∧ ∃ i H', Inv (X.blk s3 H3 scope ce fp) [] (wipe σ (own.map (·.2))) H' s' ∧ tn i s'.heap ∧ (∀ b ∈ fp, H' b = none) ∧ W i m H' := fun {s' H'} I' nx => by
        obtain ⟨m', hm, w'⟩ := hNx H' nx
        have pin' : ∀ b ∈ fp, ∀ o, s7.heap.get? b = some o → s'.heap.get? b = some o ∧ H' b = none := fun b hb o e =>
          let z := I'.pin (b, o) (List.mem_append_right _ (List.mem_append_right _ (mem_pinsAt hb e)))
          ⟨z.1, z.2.1⟩
        have hl : (wipe σ (own.map (·.2))).length = σ8.length := by rw [← hw8, wipe_length]
        refine ⟨m', hm, i + 1, H', (I'.unpinned (pins := [])).weak hl (fun j v e => ?_), T.keep _ _ _ st7 fun b hb o e => (pin' b hb o e).1, fun b hb => ?_, w'⟩
        · rw [← hw8] at e
          exact (wipe_some e).1
        · obtain ⟨o, e, _⟩ := T.obj _ _ st7 b hb
          exact (pin' b hb o e).2
      cases b with
      | false =>
        simp only [Bool.false_eq_true, if_false] at q9 ⊢
        exact fin I9 q9
      | true =>
        simp only [if_true] at q9 ⊢
        refine thnF (pe.run _ s9 σ8 H9 _ I9 q9) fun z s10 h10 => ?_
        obtain ⟨yv, H10, I10, r10, acc, hD10, hz10, nx⟩ := h10
        exact app_ok (X := X.blk s3 H3 scope ce fp) I10 hD10 hz10 r10 fun s11 I11 => fin I11 nx
  exact codeAny_compStart_list loop (T.self X.A 0 _ _ _ st4 loop)

/-! ### told -/
/-- the body of told: try: return a(), except e: return a text -/
theorem told_body {Ng : List Str} {x a e ret : Str} {sg : Scope} {g f CS : Addr} {cdg : Value} {A : Around} {st : List Env} {s : Shared} {H : Hp} {Q : VK} {tl : XK → Hp → VK → Prop} {Pre : Hp → Prop} {j : Nat} {p1 p2 p3 p4 p5 p6 p7 p8 : Pos}
    (hge : sg.names.lookup e = some .globalImplicit) (hme : X.mg e = some (.ref CS)) (hde : (e == ("__debug__" : Str)) = false) (h0 : ∀ f : Addr, (L2.start Ng [V.ref f])[0]? = some (some (V.ref f)))
    (act : ∀ (W : WX) (pn : List (Addr × Obj)) (xe : Value → Shared → Prop) (E : XK), Takes ((cxOf C8.CX0 X.prog X.w X.K X.mg X.base Ng x sg g cdg A st s H C8.E0).tr pn xe) W → (∀ cls d σ' H', E cls d H' → W cls d σ' H') →
      PE ((cxOf C8.CX0 X.prog X.w X.K X.mg X.base Ng x sg g cdg A st s H C8.E0).tr pn xe) (.Call (.Name a p1) [] [] p2) (fun σZ HZ Q => σZ[0]? = some (some (.ref f)) ∧ Pre HZ ∧ tl E HZ Q)) (hp : Pre H) (h : TTold X.K CS ret tl H Q) :
    ∃ t, PSs (cxOf C8.CX0 X.prog X.w X.K X.mg X.base Ng x sg g cdg A st s H C8.E0).nox [.Try [.Return (some (.Call (.Name a p1) [] [] p2)) p3] [.ExceptHandler (some (.Name e p4)) none [.Return (some (.Constant (.str ret) j p5)) p6] p7] [] [] p8] t ∧
      t { nx := fun _ H' => Q .non H', rt := Q } (L2.start Ng [.ref f]) H := by
  have hgl : Gl (cxOf C8.CX0 X.prog X.w X.K X.mg X.base Ng x sg g cdg A st s H C8.E0).nox e := hge
  refine ⟨_, pss_one (ps_try_only (X := (cxOf C8.CX0 X.prog X.w X.K X.mg X.base Ng x sg g cdg A st s H C8.E0).nox) (c := .ref CS)
      (tb := fun W D σ H => ∃ Ech : XK, (∀ cls d σ' H', Ech cls d H' → W cls d σ' H') ∧ σ[0]? = some (some (.ref f)) ∧ Pre H ∧ tl Ech H D.rt)
      rfl rfl ⟨hgl, hde, .inl hme⟩ LamX.takes0 (fun W pn xe tk _ => ?_) (fun a oe cls d pn _ _ => pss_one (ps_ret pe_str))), ?_⟩
  · refine ⟨fun pins s' σ H' D I h' => ?_⟩
    obtain ⟨Ech, hW, h1, h2, h3⟩ := h'
    have hq := pss_one (ps_ret (pos := p3) (act W pn xe Ech tk hW))
    exact hq.run pins s' σ H' D I ⟨h1, h2, h3⟩
  · exact ⟨fun cls _ H' => ∃ b, PySem.W.exmOne X.K cls (.ref CS) = some b ∧ (b = true → Q (.str ret) H') ∧ (b = false → False), fun cls d σ' H' ⟨b, e1, e2, e3⟩ => ⟨b, e1, fun hb a _ => e2 hb, fun hb => e3 hb⟩, h0 f, hp, h⟩

/-- told(f), f one of the lambdas KL that X made -/
def tTold (KL : List (LamD × (XK → TE))) (cells : List (Str × Addr)) (q : Str) (K : PySem.W.Frag) (CS : Addr) (ret : Str) (j : Nat) (vs : List Nat) : TE := fun σ H Q =>
  ∃ f c' L t, (L, t) ∈ KL ∧ σ[j]? = some (some (.ref f)) ∧ H f = some (LamO cells q L c' f) ∧ H c' = some (CodeO c' q) ∧ TTold K CS ret (fun E H' Q' => t E (wipe σ vs) H' Q') H Q
theorem pe_toldB {KL : List (LamD × (XK → TE))} {s3 : Shared} {H3 : Hp} {scope : Scope} {cenv : Env} {fp : List Addr} {pins : List (Addr × Obj)} {σ : L2.St} {vs : List Nat} {x a e ret y : Str} {g CS : Addr} {k jj j : Nat} {pg : Arguments} {sg : Scope} {dV kV doc pm cdv ct oc : Value} {an od : Option Addr} {osl : Array (Option Value)} {Ng : List Str}
    {p1 p2 p3 p4 p5 p6 p7 p8 q1 q2 q3 : Pos} (I3 : Inv X pins σ H3 s3) (hfp : ∀ b ∈ fp, ∀ x c, X.env.cells.lookup x = some c → c ≠ b) (hKL : ∀ L t, (L, t) ∈ KL → LamT X k L t) (hr : Room (k + 2) X.A)
    (hg : Gl (X.blk s3 H3 scope cenv fp) x) (hm : X.mg x = some (.ref g)) (hk : PySem.W.keepIn X.K (.ref g) = true)
    (lk : X.K.lookup g = some ⟨oc, od, .func (PySem.W.fnOf x x pg [.Try [.Return (some (.Call (.Name a p1) [] [] p2)) p3] [.ExceptHandler (some (.Name e p4)) none [.Return (some (.Constant (.str ret) jj p5)) p6] p7] [] [] p8] sg dV kV doc pm an cdv ct), osl⟩)
    (hcg : PySem.W.codeIn X.K cdv x = true) (hb : L2.Binds X.K (PySem.W.fnOf x x pg [.Try [.Return (some (.Call (.Name a p1) [] [] p2)) p3] [.ExceptHandler (some (.Name e p4)) none [.Return (some (.Constant (.str ret) jj p5)) p6] p7] [] [] p8] sg dV kV doc pm an cdv ct) [a] []) (Sg : FnScope Ng [a] sg) (hNg : Ng[0]? = some a) (hva : Vis sg a)
    (hge : sg.names.lookup e = some .globalImplicit) (hme : X.mg e = some (.ref CS)) (h0 : ∀ f : Addr, (L2.start Ng [V.ref f])[0]? = some (some (V.ref f)))
    (hNy : X.N[j]? = some y) (hvy : Vis cenv.scope y) (hde : (e == ("__debug__" : Str)) = false := by decide)
    (hdb : (x == ("__debug__" : Str)) = false := by decide) (hd : (a == ("__debug__" : Str)) = false := by decide) (hcd : (a == ("__classdict__" : Str)) = false := by decide) (hdy : (y == ("__debug__" : Str)) = false := by decide) (hcy : (y == ("__classdict__" : Str)) = false := by decide)
    (hst : starEach [Expr.Name y q2] cenv = (false, eval (.Name y q2) cenv) :: starEach [] cenv := by rfl) :
    PE (X.blk s3 H3 scope cenv fp) (.Call (.Name x q1) [.Name y q2] [] q3) (fun σB HB Q => wipe σB vs = wipe σ vs ∧ tTold KL X.env.cells (X.env.qual ++ "<lambda>") X.K CS ret j vs σB HB Q) := by
  refine ⟨fun pinsB sB σB HB Q IB h => ?_⟩
  obtain ⟨hw, f, c', L, t, hm1, hj, hf, hc, hT⟩ := h
  have LT := hKL L t hm1
  have I3w : Inv X pins (wipe σB vs) H3 s3 := by
    rw [hw]
    exact I3.weak (wipe_length _ _) fun i v e => (wipe_some e).1
  refine wpAny_Call_Name_kw (ld_glob IB hg hm ?_ hdb)
  have hpa : PA (X.blk s3 H3 scope cenv fp) [Expr.Name y q2] (tCons (tVar j) tNil) := pa_cons (pe_var hNy hvy hdy hcy) pa_nil hst
  refine PySem.W.callWith_K (h₀ := X.base) IB.ok.mod.kin hk (thn (hpa.run q3 pinsB sB σB HB (fun vs1 H1 => vs1 = [V.ref f] ∧ H1 = HB) IB ⟨_, hj, rfl, rfl⟩) fun us s1 hh => ?_) hst (by rfl)
  obtain ⟨vs1, H1, I1, r1, ev, eH⟩ := hh
  subst ev
  rw [eH] at I1
  refine ⟨I1.kIn, ?_⟩
  obtain ⟨u, rfl, ru⟩ := vals1 r1
  obtain rfl : u = Value.ref f := ru
  have un : Un (X.blk s3 H3 scope cenv fp).fs fp H3 HB s3.heap s1.heap := I1.base
  have rc : codeAny (model X.prog X.w) X.A (.call (.ref g) ⟨[.ref f], []⟩) (CR C8.CX0 X.stack X.prog X.w HB s1 Q C8.E0) s1 := by
    refine run_ofS (N := Ng) (ps := [a]) (us := [.ref f]) (vs := [.ref f]) lk hcg Sg hr I1.env0 (hb s1 [.ref f] I1.kIn rfl) (.cons rfl .nil) rfl fun hr' => ?_
    obtain ⟨tq, htq, hq'⟩ := told_body (X := X) (Ng := Ng) (x := x) (A := X.A) (st := X.stack) (s := s1) (H := HB) (f := f) (CS := CS) (cdg := cdv) (g := g) (Q := Q) (p1 := p1) (p2 := p2) (p3 := p3) (p4 := p4) (p5 := p5) (p6 := p6) (p7 := p7) (p8 := p8) (j := jj)
      (Pre := fun HZ => HZ f = some (LamO X.env.cells (X.env.qual ++ "<lambda>") L c' f) ∧ HZ c' = some (CodeO c' (X.env.qual ++ "<lambda>"))) (tl := fun E H' Q' => t E (wipe σB vs) H' Q') hge hme hde h0
      (fun W pn xe E tk hW => by
        have hp := pe_actB (p1 := p1) (p2 := p2) (i := 0) (f := f) (c' := c') I3w LT un hfp tk hW hr' hNg hva hd hcd
        exact ⟨fun pz sz σz Hz Qz Iz hz => hp.run pz sz σz Hz Qz Iz ⟨hz.1, hz.2.1.1, hz.2.1.2, hz.2.2⟩⟩) ⟨hf, hc⟩ hT
    exact ⟨tq, htq.nox, hq'⟩
  refine wpAny_call (codeAny_mono rc fun r s2 hq => ?_)
  cases r with
  | error e => exact (show False from hq).elim
  | ok fl =>
    cases fl with
    | ret u => exact I1.after hq
    | next => exact False.elim hq
    | brk => exact False.elim hq
    | cont => exact False.elim hq
end
end ML

set_option linter.all false
/-! Plain mathematics of rules of years: counting, the last rule that applies. -/
namespace MM
/-- how many below y -/
def cn (p : Nat → Bool) : Nat → Nat
  | 0 => 0
  | y + 1 => cn p y + if p y = true then 1 else 0
theorem cn_congr {p q : Nat → Bool} : ∀ {y : Nat}, (∀ k, k < y → p k = q k) → cn p y = cn q y
  | 0, _ => rfl
  | y + 1, h => by
    unfold cn
    rw [cn_congr (y := y) fun k hk => h k (by omega), h y (by omega)]
theorem cn_or {p q r : Nat → Bool} (h : ∀ k, r k = (p k || q k)) (hd : ∀ k, ¬ (p k = true ∧ q k = true)) : ∀ y, cn r y = cn p y + cn q y
  | 0 => rfl
  | y + 1 => by
    unfold cn
    rw [cn_or h hd y, h y]
    have := hd y
    cases hp : p y <;> cases hq : q y <;> simp_all <;> omega
theorem cn_false : ∀ y, cn (fun _ => false) y = 0
  | 0 => rfl
  | y + 1 => by
    unfold cn
    rw [cn_false y]
    rfl
theorem cn_le (p : Nat → Bool) : ∀ y, cn p y ≤ y
  | 0 => Nat.le_refl _
  | y + 1 => by
    unfold cn
    have := cn_le p y
    split <;> omega
theorem cn_mono (p : Nat → Bool) {a b : Nat} (h : a ≤ b) : cn p a ≤ cn p b := by
  induction b with
  | zero =>
    have : a = 0 := by omega
    subst this
    exact Nat.le_refl _
  | succ b ih =>
    by_cases e : a = b + 1
    · subst e; exact Nat.le_refl _
    · have := ih (by omega)
      show _ ≤ cn p b + _
      omega
/-- the multiples of n below y -/
theorem cn_dvd (n : Nat) (hn : 0 < n) : ∀ y, cn (fun k => decide (n ∣ k)) y = (y + n - 1) / n
  | 0 => by
    show 0 = _
    rw [Nat.div_eq_of_lt (by omega)]
  | y + 1 => by
    show cn (fun k => decide (n ∣ k)) y + _ = _
    rw [cn_dvd n hn y]
    by_cases h : n ∣ y
    · obtain ⟨c, rfl⟩ := h
      rw [if_pos (decide_eq_true (Nat.dvd_mul_right n c))]
      have e1 : n * c + 1 + n - 1 = n * (c + 1) := by rw [Nat.mul_add]; omega
      rw [e1, Nat.mul_div_cancel_left _ hn]
      have e2 : n * c + n - 1 = (n - 1) + n * c := by omega
      rw [e2, Nat.add_mul_div_left _ _ hn, Nat.div_eq_of_lt (by omega)]
      omega
    · rw [if_neg (by simpa using h)]
      have hm : 0 < y % n := Nat.pos_of_ne_zero fun e => h (Nat.dvd_of_mod_eq_zero e)
      have hml : y % n < n := Nat.mod_lt _ hn
      have hy := Nat.div_add_mod y n
      generalize y / n = q at hy
      generalize y % n = r at *
      have e1 : y + n - 1 = (r - 1) + n * (q + 1) := by rw [Nat.mul_add]; omega
      have e2 : y + 1 + n - 1 = r + n * (q + 1) := by rw [Nat.mul_add]; omega
      rw [e1, e2, Nat.add_mul_div_left _ _ hn, Nat.add_mul_div_left _ _ hn, Nat.div_eq_of_lt (by omega), Nat.div_eq_of_lt hml, Nat.add_zero]

abbrev Rules := List (Nat × Bool)
def isLong (rs : Rules) (y : Nat) : Bool := rs.foldl (fun f r => if y % r.1 = 0 then r.2 else f) false
theorem isLong_snoc {rs : Rules} {i : Nat} {r : Nat × Bool} (h : rs[i]? = some r) (y : Nat) : isLong (rs.take (i + 1)) y = if y % r.1 = 0 then r.2 else isLong (rs.take i) y := by
  unfold isLong
  rw [List.take_add_one, h, List.foldl_append]
  rfl
/-- no rule of rs goes into k -/
def free (rs : Rules) (k : Nat) : Bool := rs.all fun r => !decide (r.1 ∣ k)
theorem fold_free : ∀ (rs : Rules) (k : Nat) (f : Bool), rs.foldl (fun f r => if k % r.1 = 0 then r.2 else f) f = if free rs k = true then f else isLong rs k
  | [], _, _ => rfl
  | r :: rs, k, f => by
    unfold isLong
    rw [List.foldl_cons, List.foldl_cons, fold_free rs k (if k % r.1 = 0 then r.2 else f), fold_free rs k (if k % r.1 = 0 then r.2 else false)]
    have e : free (r :: rs) k = (!decide (r.1 ∣ k) && free rs k) := rfl
    rw [e]
    by_cases h : k % r.1 = 0
    · have h2 : r.1 ∣ k := Nat.dvd_of_mod_eq_zero h
      simp [h, h2]
    · have h2 : ¬ r.1 ∣ k := fun z => h (Nat.mod_eq_zero_of_dvd z)
      simp [h, h2]
      cases free rs k <;> simp
theorem isLong_free {rs : Rules} {k : Nat} (h : free rs k = true) : isLong rs k = false := by
  have := fold_free rs k false
  rw [h] at this
  exact this
/-- multiples of n that no rule of rs goes into, below y -/
def G (n : Nat) (rs : Rules) (y : Nat) : Nat := cn (fun k => decide (n ∣ k) && free rs k) y
/-- by rules: those that each decides -/
def S : Rules → Nat → Nat
  | [], _ => 0
  | r :: rs, y => (if r.2 = true then G r.1 rs y else 0) + S rs y
theorem cn_long : ∀ (rs : Rules) (y : Nat), cn (isLong rs) y = S rs y
  | [], y => cn_false y
  | r :: rs, y => by
    unfold S
    rw [← cn_long rs y]
    have e : ∀ k, isLong (r :: rs) k = ((r.2 && (decide (r.1 ∣ k) && free rs k)) || isLong rs k) := fun k => by
      show rs.foldl _ (if k % r.1 = 0 then r.2 else false) = _
      rw [fold_free]
      by_cases h : k % r.1 = 0
      · have h2 : r.1 ∣ k := Nat.dvd_of_mod_eq_zero h
        cases hf : free rs k
        · simp [h, h2]
        · simp [h, h2, isLong_free hf]
      · have h2 : ¬ r.1 ∣ k := fun z => h (Nat.mod_eq_zero_of_dvd z)
        cases hf : free rs k
        · simp [h, h2]
        · simp [h, h2, isLong_free hf]
    rw [cn_or e (fun k ⟨h1, h2⟩ => by
      simp only [Bool.and_eq_true] at h1
      rw [isLong_free h1.2.2] at h2
      cases h2) y]
    congr 1
    cases hr : r.2
    · simp only [Bool.false_and]
      rw [cn_false]
      rfl
    · simp only [Bool.true_and]
      rfl
/-- what pushing the later rules leaves -/
def E (n : Nat) : Rules → Nat → Nat
  | [], _ => 0
  | r :: rs, y => G (Nat.lcm n r.1) rs y + E n rs y
theorem G_E (n : Nat) (hn : 0 < n) : ∀ (rs : Rules) (y : Nat), G n rs y + E n rs y = (y + n - 1) / n
  | [], y => by
    show G n [] y + 0 = _
    rw [← cn_dvd n hn y]
    unfold G
    rw [Nat.add_zero]
    exact cn_congr fun k _ => by simp [free]
  | r :: rs, y => by
    show G n (r :: rs) y + (G (Nat.lcm n r.1) rs y + E n rs y) = _
    rw [← G_E n hn rs y, ← Nat.add_assoc]
    congr 1
    refine (cn_or (r := fun k => decide (n ∣ k) && free rs k) (fun k => ?_) (fun k ⟨h1, h2⟩ => ?_) y).symm
    · have e : free (r :: rs) k = (!decide (r.1 ∣ k) && free rs k) := rfl
      have e2 : decide (Nat.lcm n r.1 ∣ k) = (decide (n ∣ k) && decide (r.1 ∣ k)) := by
        by_cases h1 : n ∣ k <;> by_cases h2 : r.1 ∣ k <;> simp [h1, h2, Nat.lcm_dvd_iff]
      rw [e, e2]
      cases decide (n ∣ k) <;> cases decide (r.1 ∣ k) <;> cases free rs k <;> rfl
    · have e : free (r :: rs) k = (!decide (r.1 ∣ k) && free rs k) := rfl
      rw [e] at h1
      simp only [Bool.and_eq_true, decide_eq_true_eq, Bool.not_eq_true', decide_eq_false_iff_not] at h1 h2
      exact h1.2.1 (Nat.dvd_trans (Nat.dvd_lcm_right n r.1) h2.1)
/-- what the rule at a place decides -/
def turnedV (rs : Rules) (i y : Nat) : Nat := match rs[i]? with
  | some r => if r.2 = true then G r.1 (rs.drop (i + 1)) y else 0
  | none => 0
theorem S_drop (rs : Rules) (y : Nat) {i : Nat} (h : i < rs.length) : S (rs.drop i) y = turnedV rs i y + S (rs.drop (i + 1)) y := by
  rw [List.drop_eq_getElem_cons h]
  unfold turnedV
  rw [List.getElem?_eq_getElem h]
  rfl
theorem E_drop (n : Nat) (rs : Rules) (y : Nat) {i : Nat} {r : Nat × Bool} (h : rs[i]? = some r) : E n (rs.drop i) y = G (Nat.lcm n r.1) (rs.drop (i + 1)) y + E n (rs.drop (i + 1)) y := by
  obtain ⟨hi, e⟩ := List.getElem?_eq_some_iff.mp h
  rw [List.drop_eq_getElem_cons hi, e]
  rfl
/-- the least number that all rules go into -/
def lcmA (rs : Rules) : Nat := rs.foldl (fun f r => Nat.lcm f r.1) 1
theorem lcmA_snoc {rs : Rules} {i : Nat} {r : Nat × Bool} (h : rs[i]? = some r) : lcmA (rs.take (i + 1)) = Nat.lcm (lcmA (rs.take i)) r.1 := by
  unfold lcmA
  rw [List.take_add_one, h, List.foldl_append]
  rfl
theorem lcm_fold : ∀ (rs : Rules) (f m : Nat), rs.foldl (fun f r => Nat.lcm f r.1) f ∣ m ↔ f ∣ m ∧ ∀ r ∈ rs, r.1 ∣ m
  | [], f, m => by simp
  | r :: rs, f, m => by
    rw [List.foldl_cons, lcm_fold rs, Nat.lcm_dvd_iff]
    simp only [List.mem_cons, forall_eq_or_imp]
    exact and_assoc
theorem lcmA_dvd (rs : Rules) (m : Nat) : lcmA rs ∣ m ↔ ∀ r ∈ rs, r.1 ∣ m := by
  unfold lcmA
  rw [lcm_fold]
  simp
theorem dvd_lcmA {rs : Rules} {r : Nat × Bool} (h : r ∈ rs) : r.1 ∣ lcmA rs := (lcmA_dvd rs _).mp (Nat.dvd_refl _) r h
theorem lcm_fold_pos : ∀ (rs : Rules) (f : Nat), 0 < f → (∀ r ∈ rs, 0 < r.1) → 0 < rs.foldl (fun f r => Nat.lcm f r.1) f
  | [], f, h, _ => h
  | r :: rs, f, h, hr => by
    rw [List.foldl_cons]
    exact lcm_fold_pos rs _ (Nat.lcm_pos h (hr r List.mem_cons_self)) fun x hx => hr x (List.mem_cons_of_mem _ hx)
theorem lcmA_pos {rs : Rules} (h : ∀ r ∈ rs, 0 < r.1) : 0 < lcmA rs := lcm_fold_pos rs 1 Nat.one_pos h
theorem lcmA_take_dvd (rs : Rules) (i : Nat) : lcmA (rs.take i) ∣ lcmA rs := (lcmA_dvd _ _).mpr fun r hr => dvd_lcmA (List.mem_of_mem_take hr)
/-- days before a year -/
def db (rs : Rules) (s y : Nat) : Nat := s * y + cn (isLong rs) y
theorem db_succ (rs : Rules) (s y : Nat) : db rs s (y + 1) = db rs s y + s + if isLong rs y = true then 1 else 0 := by
  show s * (y + 1) + (cn (isLong rs) y + _) = s * y + cn (isLong rs) y + s + _
  rw [Nat.mul_succ]
  omega
theorem db_lt (rs : Rules) {s : Nat} (hs : 0 < s) {a b : Nat} (h : a < b) : db rs s a < db rs s b := by
  unfold db
  have h1 := cn_mono (isLong rs) (Nat.le_of_lt h)
  have h2 : s * a < s * b := Nat.mul_lt_mul_of_pos_left h hs
  omega
theorem db_le (rs : Rules) {s : Nat} (hs : 0 < s) {a b : Nat} (h : a ≤ b) : db rs s a ≤ db rs s b := by
  rcases Nat.lt_or_eq_of_le h with h | h
  · exact Nat.le_of_lt (db_lt rs hs h)
  · rw [h]; exact Nat.le_refl _
/-- the year of a day is one -/
theorem yr_one (rs : Rules) {s : Nat} (hs : 0 < s) {a b d : Nat} (h1 : db rs s a ≤ d) (h2 : d < db rs s (a + 1)) (h3 : db rs s b ≤ d) (h4 : d < db rs s (b + 1)) : a = b := by
  rcases Nat.lt_trichotomy a b with h | h | h
  · have := db_le rs hs (show a + 1 ≤ b from h)
    omega
  · exact h
  · have := db_le rs hs (show b + 1 ≤ a from h)
    omega
end MM
namespace MM
/-! ### the best rules -/
/-- the first least of f over 0 .. k -/
def am (f : Nat → Nat) : Nat → Nat
  | 0 => 0
  | k + 1 => if f (k + 1) < f (am f k) then k + 1 else am f k
theorem am_le (f : Nat → Nat) : ∀ k, am f k ≤ k
  | 0 => Nat.le_refl _
  | k + 1 => by
    unfold am
    have := am_le f k
    split <;> omega
def offF (d y one s : Nat) : Nat := ((d : Int) * one - (s : Int) * y).natAbs
theorem offF_lo {d y one s : Nat} (h : s * y ≤ d * one) : offF d y one s = d * one - s * y := by
  unfold offF
  have e1 : ((d : Int) * (one : Int)) = ((d * one : Nat) : Int) := (Int.natCast_mul _ _).symm
  have e2 : ((s : Int) * (y : Int)) = ((s * y : Nat) : Int) := (Int.natCast_mul _ _).symm
  rw [e1, e2]
  omega
theorem offF_hi {d y one s : Nat} (h : d * one ≤ s * y) : offF d y one s = s * y - d * one := by
  unfold offF
  have e1 : ((d : Int) * (one : Int)) = ((d * one : Nat) : Int) := (Int.natCast_mul _ _).symm
  have e2 : ((s : Int) * (y : Int)) = ((s * y : Nat) : Int) := (Int.natCast_mul _ _).symm
  rw [e1, e2]
  omega
/-- which of low and the next one -/
def pick (d y one : Nat) : Nat := if offF d y one (d * one / y + 1) < offF d y one (d * one / y) then d * one / y + 1 else d * one / y
section
variable {d y one : Nat} (hy : 0 < y)
include hy
theorem low_le {s : Nat} (h : s ≤ d * one / y) : s * y ≤ d * one := (Nat.le_div_iff_mul_le hy).mp h
theorem low_gt {s : Nat} (h : d * one / y < s) : d * one < s * y := (Nat.div_lt_iff_lt_mul hy).mp h
theorem am_low : ∀ k, k ≤ d * one / y → am (offF d y one) k = k
  | 0, _ => rfl
  | k + 1, h => by
    unfold am
    rw [am_low k (by omega), if_pos]
    rw [offF_lo (low_le hy h), offF_lo (low_le hy (s := k) (by omega))]
    have h1 := low_le hy h
    rw [Nat.succ_mul] at h1 ⊢
    omega
theorem pick_or : pick d y one = d * one / y ∨ pick d y one = d * one / y + 1 := by
  unfold pick
  split
  · exact .inr rfl
  · exact .inl rfl
theorem pick_le : offF d y one (pick d y one) ≤ offF d y one (d * one / y) ∧ offF d y one (pick d y one) ≤ offF d y one (d * one / y + 1) := by
  unfold pick
  split <;> omega
theorem am_high : ∀ k, d * one / y < k → am (offF d y one) k = pick d y one
  | 0, h => absurd h (Nat.not_lt_zero _)
  | k + 1, h => by
    unfold am
    by_cases e : k = d * one / y
    · rw [e, am_low hy _ (Nat.le_refl _)]
      rfl
    · have hk : d * one / y < k := by omega
      rw [am_high k hk, if_neg]
      have h1 := (pick_le hy (d := d) (one := one)).2
      have h2 : offF d y one (d * one / y + 1) ≤ offF d y one (k + 1) := by
        have g1 := low_gt hy (d := d) (one := one) (s := d * one / y + 1) (by omega)
        have g2 := low_gt hy (d := d) (one := one) (s := k + 1) (by omega)
        rw [offF_hi (Nat.le_of_lt g1), offF_hi (Nat.le_of_lt g2)]
        have g3 : (d * one / y + 1) * y ≤ (k + 1) * y := Nat.mul_le_mul_right _ (by omega)
        omega
      omega
/-- all candidates of a cycle: the least of low and the next one -/
theorem am_pick (hd : d ≤ y) : am (offF d y one) one = pick d y one := by
  have hl : d * one / y ≤ one := by
    refine Nat.div_le_of_le_mul ?_
    exact Nat.mul_le_mul_right one hd
  by_cases h : d * one / y < one
  · exact am_high hy one h
  · have e : d * one / y = one := by omega
    have hz : pick d y one = d * one / y := by
      unfold pick
      rw [if_neg]
      have g1 := low_le hy (d := d) (one := one) (Nat.le_refl _)
      have g2 := low_gt hy (d := d) (one := one) (s := d * one / y + 1) (by omega)
      have g3 : d * one ≤ y * one := Nat.mul_le_mul_right one hd
      rw [offF_lo g1, e]
      have g4 : one * y = y * one := Nat.mul_comm _ _
      omega
    rw [hz, e, am_low hy one (by omega)]
end
/-- (off, longs, cycle) after a candidate -/
abbrev Bs := Option (Nat × Nat × Nat)
def better (b : Bs) (o c : Nat) : Bool := match b with
  | none => true
  | some (o', _, c') => decide (o * c' < o' * c)
def upB (b : Bs) (o s c : Nat) : Bs := if better b o c = true then some (o, s, c) else b
theorem better_mono {b : Bs} {o o' c : Nat} (h : o' ≤ o) (hb : better b o c = true) : better b o' c = true := by
  unfold better at *
  cases b with
  | none => rfl
  | some x =>
    obtain ⟨p, q, r⟩ := x
    simp only [decide_eq_true_eq] at *
    have := Nat.mul_le_mul_right r h
    omega
/-- one more candidate of the same cycle -/
theorem upB_step (b : Bs) (f : Nat → Nat) (c k : Nat) (hc : 0 < c) (a : Nat) : upB (upB b (f a) a c) (f k) k c = upB b (f (if f k < f a then k else a)) (if f k < f a then k else a) c := by
  unfold upB
  by_cases h : better b (f a) c = true
  · rw [if_pos h]
    by_cases hk : f k < f a
    · have h2 : better b (f k) c = true := better_mono (Nat.le_of_lt hk) h
      have h3 : better (some (f a, a, c)) (f k) c = true := by
        show decide (f k * c < f a * c) = true
        exact decide_eq_true (Nat.mul_lt_mul_of_pos_right hk hc)
      rw [if_pos h3, if_pos hk, if_pos h2]
    · have h3 : ¬ better (some (f a, a, c)) (f k) c = true := by
        show ¬ decide (f k * c < f a * c) = true
        have := Nat.mul_le_mul_right c (Nat.le_of_not_lt hk)
        simp only [decide_eq_true_eq]
        omega
      rw [if_neg h3, if_neg hk, if_pos h]
  · rw [if_neg h]
    by_cases hk : f k < f a
    · rw [if_pos hk]
    · rw [if_neg hk, if_neg h, if_neg fun z => h (better_mono (Nat.le_of_not_lt hk) z)]
/-- after all candidates of the cycles 1 .. m -/
def bst (d y : Nat) : Nat → Bs
  | 0 => none
  | m + 1 => upB (bst d y m) (offF d y (m + 1) (pick d y (m + 1))) (pick d y (m + 1)) (m + 1)
/-- the cycle's candidates one by one: 0 .. k -/
def upTo (b : Bs) (d y c : Nat) : Nat → Bs
  | 0 => upB b (offF d y c 0) 0 c
  | k + 1 => upB (upTo b d y c k) (offF d y c (k + 1)) (k + 1) c
theorem upTo_am (b : Bs) (d y c : Nat) (hc : 0 < c) : ∀ k, upTo b d y c k = upB b (offF d y c (am (offF d y c) k)) (am (offF d y c) k) c
  | 0 => rfl
  | k + 1 => by
    unfold upTo
    rw [upTo_am b d y c hc k, upB_step b (offF d y c) c (k + 1) hc (am (offF d y c) k)]
    rfl
theorem bst_all {d y : Nat} (hy : 0 < y) (hd : d ≤ y) (m : Nat) : upTo (bst d y m) d y (m + 1) (m + 1) = bst d y (m + 1) := by
  rw [upTo_am _ _ _ _ (Nat.succ_pos m), am_pick hy hd]
  rfl
theorem bst_two (d y m : Nat) : upB (upB (bst d y m) (offF d y (m + 1) (d * (m + 1) / y)) (d * (m + 1) / y) (m + 1)) (offF d y (m + 1) (d * (m + 1) / y + 1)) (d * (m + 1) / y + 1) (m + 1) = bst d y (m + 1) :=
  upB_step _ (offF d y (m + 1)) (m + 1) _ (Nat.succ_pos m) _
theorem bst_some (d y : Nat) : ∀ m, 0 < m → ∃ o s c, bst d y m = some (o, s, c) ∧ 0 < c ∧ c ≤ m
  | 0, h => by omega
  | m + 1, _ => by
    unfold bst upB
    split
    · exact ⟨_, _, _, rfl, by omega, by omega⟩
    · rename_i h
      cases m with
      | zero => exact absurd rfl h
      | succ m =>
        obtain ⟨o, s, c, e, h1, h2⟩ := bst_some d y (m + 1) (by omega)
        exact ⟨o, s, c, e, h1, by omega⟩
end MM
namespace MM
/-! ### dividing out -/
/-- p, w came from P, W by dividing out; no k of 2 .. n - 1 goes into both -/
structure Red (P W p w n : Nat) : Prop where
  ex : ∃ t, 0 < t ∧ P = p * t ∧ W = w * t
  w0 : 0 < w
  no : ∀ k, 2 ≤ k → k < n → ¬ (k ∣ p ∧ k ∣ w)
theorem Red.step {P W p w n : Nat} (h : Red P W p w n) {k : Nat} (hk : 2 ≤ k) (h1 : k ∣ p) (h2 : k ∣ w) : Red P W (p / k) (w / k) n ∧ w / k < w := by
  obtain ⟨t, ht, e1, e2⟩ := h.ex
  obtain ⟨a, rfl⟩ := h1
  obtain ⟨b, rfl⟩ := h2
  have hw := h.w0
  have hb : 0 < b := Nat.pos_of_ne_zero fun z => by subst z; simp at hw
  rw [Nat.mul_div_cancel_left _ (by omega), Nat.mul_div_cancel_left _ (by omega)]
  refine ⟨⟨⟨k * t, Nat.mul_pos (by omega) ht, ?_, ?_⟩, hb, fun j j1 j2 ⟨j3, j4⟩ => h.no j j1 j2 ⟨Nat.dvd_mul_left_of_dvd j3 k, Nat.dvd_mul_left_of_dvd j4 k⟩⟩, ?_⟩
  · rw [e1, Nat.mul_comm k a, Nat.mul_assoc]
  · rw [e2, Nat.mul_comm k b, Nat.mul_assoc]
  · have : 2 * b ≤ k * b := Nat.mul_le_mul_right b hk
    omega
theorem Red.next {P W p w n : Nat} (h : Red P W p w n) (hn : ¬ (n ∣ p ∧ n ∣ w)) : Red P W p w (n + 1) :=
  ⟨h.ex, h.w0, fun k k1 k2 z => by
    by_cases e : k = n
    · subst e; exact hn z
    · exact h.no k k1 (by omega) z⟩
theorem Red.done {P W p w n : Nat} (h : Red P W p w n) (hW : W < n) : p = P / Nat.gcd P W ∧ w = W / Nat.gcd P W := by
  obtain ⟨t, ht, e1, e2⟩ := h.ex
  have hwW : w ≤ W := by rw [e2]; exact Nat.le_mul_of_pos_right w ht
  have hg : Nat.gcd p w = 1 := by
    have g0 : 0 < Nat.gcd p w := Nat.gcd_pos_of_pos_right _ h.w0
    have gl : Nat.gcd p w ≤ w := Nat.le_of_dvd h.w0 (Nat.gcd_dvd_right _ _)
    by_cases e : Nat.gcd p w = 1
    · exact e
    · exact absurd ⟨Nat.gcd_dvd_left p w, Nat.gcd_dvd_right p w⟩ (h.no (Nat.gcd p w) (by omega) (by omega))
  have e3 : Nat.gcd P W = t := by rw [e1, e2, Nat.gcd_mul_right, hg, Nat.one_mul]
  rw [e3, e1, e2]
  exact ⟨(Nat.mul_div_cancel _ ht).symm, (Nat.mul_div_cancel _ ht).symm⟩
end MM

set_option linter.all false
/-! Plain mathematics of cycles: where several meet. -/
namespace MM
abbrev Cyc := List (Nat × Nat)
def sat (cs : Cyc) (d : Nat) : Prop := ∀ c ∈ cs, d % c.1 = c.2
theorem mod_iff {l : Nat} (d e : Nat) : d % l = e % l ↔ (l : Int) ∣ (d : Int) - (e : Int) := by
  constructor
  · intro h
    have h2 : ((d : Int) % (l : Int)) = ((e : Int) % (l : Int)) := by
      rw [← Int.natCast_emod, ← Int.natCast_emod, h]
    exact Int.dvd_of_emod_eq_zero (Int.emod_eq_emod_iff_emod_sub_eq_zero.mp h2)
  · intro h
    have h2 := Int.emod_eq_emod_iff_emod_sub_eq_zero.mpr (Int.emod_eq_zero_of_dvd h)
    rw [← Int.natCast_emod, ← Int.natCast_emod] at h2
    exact Int.ofNat.inj h2
theorem nd (a : Nat) (x : Int) : (a : Int) ∣ x ↔ a ∣ x.natAbs := by
  rw [← Int.dvd_natAbs, Int.natCast_dvd_natCast]
theorem lcm_int (a b : Nat) (x : Int) : ((Nat.lcm a b : Nat) : Int) ∣ x ↔ (a : Int) ∣ x ∧ (b : Int) ∣ x := by
  rw [nd, nd, nd, Nat.lcm_dvd_iff]
/-- W and day tell all that the cycles so far let in -/
def Tells (cs : Cyc) (day W : Nat) : Prop := ∀ d, sat cs d ↔ (W : Int) ∣ (d : Int) - (day : Int)
theorem tells_nil : Tells [] 0 1 := fun d => ⟨fun _ => ⟨(d : Int) - 0, by omega⟩, fun _ c h => by simp at h⟩
theorem sat_snoc (cs : Cyc) (c : Nat × Nat) (d : Nat) : sat (cs ++ [c]) d ↔ sat cs d ∧ d % c.1 = c.2 := by
  unfold sat
  simp only [List.mem_append, List.mem_singleton]
  refine ⟨fun h => ⟨fun x hx => h x (.inl hx), h c (.inr rfl)⟩, fun h x hx => hx.elim (h.1 x) fun e => by rw [e]; exact h.2⟩
theorem tells_add {cs : Cyc} {day W : Nat} (h : Tells cs day W) (t : Nat) : Tells cs (day + t * W) W := fun d => by
  rw [h d]
  have e : (d : Int) - (((day + t * W : Nat) : Int)) = ((d : Int) - (day : Int)) - (W : Int) * (t : Int) := by
    rw [Int.natCast_add, Int.natCast_mul, Int.mul_comm (t : Int)]
    omega
  rw [e]
  exact ⟨fun k => Int.dvd_sub k (Int.dvd_mul_right _ _), fun k => by
    have := Int.dvd_add k (Int.dvd_mul_right (W : Int) (t : Int))
    rwa [Int.sub_add_cancel] at this⟩
theorem tells_step {cs : Cyc} {day W : Nat} {c : Nat × Nat} (h : Tells cs day W) (hc : day % c.1 = c.2) : Tells (cs ++ [c]) day (Nat.lcm W c.1) := fun d => by
  rw [sat_snoc, lcm_int, h d, ← hc, mod_iff]
/-- none of the first l tries: none at all -/
theorem none_of {cs : Cyc} {day W l o : Nat} (h : Tells cs day W) (hl : 0 < l) (hn : ∀ t, t < l → (day + t * W) % l ≠ o) (d : Nat) (hd : sat cs d) : d % l ≠ o := by
  intro e
  obtain ⟨k, hk⟩ := (h d).mp hd
  have h0 := Int.emod_nonneg k (show (l : Int) ≠ 0 by omega)
  have h1 := Int.emod_lt_of_pos k (show (0 : Int) < l by omega)
  obtain ⟨t, ht⟩ := Int.eq_ofNat_of_zero_le h0
  refine hn t (by omega) ?_
  rw [← e]
  refine (mod_iff _ _).mpr ?_
  have hq := Int.emod_add_mul_ediv k (l : Int)
  have e2 : (((day + t * W : Nat) : Int)) - (d : Int) = (l : Int) * (-(k / (l : Int)) * (W : Int)) := by
    rw [Int.natCast_add, Int.natCast_mul]
    have e3 : (d : Int) = (day : Int) + (W : Int) * k := by omega
    rw [e3]
    have e4 : (W : Int) * k = (W : Int) * (t : Int) + (W : Int) * ((l : Int) * (k / (l : Int))) := by
      rw [← Int.mul_add, ← ht, hq]
    rw [e4, Int.mul_comm (t : Int), Int.neg_mul, Int.mul_neg, Int.mul_left_comm (W : Int), Int.mul_comm (W : Int) (k / (l : Int))]
    omega
  rw [e2]
  exact Int.dvd_mul_right _ _
def lcmC (cs : Cyc) : Nat := cs.foldl (fun f c => Nat.lcm f c.1) 1
theorem lcmC_snoc {cs : Cyc} {i : Nat} {c : Nat × Nat} (h : cs[i]? = some c) : lcmC (cs.take (i + 1)) = Nat.lcm (lcmC (cs.take i)) c.1 := by
  unfold lcmC
  rw [List.take_add_one, h, List.foldl_append]
  rfl
/-- the day that is told, below W, is the only one below W -/
theorem tells_one {cs : Cyc} {day W : Nat} (h : Tells cs day W) (hW : 0 < W) : sat cs (day % W) ∧ ∀ d, d < W → sat cs d → d = day % W := by
  refine ⟨(h _).mpr ((mod_iff _ _).mp (Nat.mod_mod _ _)), fun d hd hs => ?_⟩
  have := (mod_iff d day).mpr ((h d).mp hs)
  rw [Nat.mod_eq_of_lt hd] at this
  exact this
end MM

set_option linter.all false
/-! Plain mathematics for the law of moons: counting moons, the first day of cycles, the best match. -/
namespace MM
theorem filter_len (p : Nat → Bool) : ∀ n, ((List.range n).filter p).length = cn p n
  | 0 => rfl
  | n + 1 => by
    rw [List.range_succ, List.filter_append, List.length_append, filter_len p n]
    show _ = cn p n + _
    congr 1
    cases h : p n <;> simp [h]
theorem cn_lt (m : Nat) : ∀ n, cn (fun k => decide (k < m)) n = min m n
  | 0 => by simp [cn]
  | n + 1 => by
    show cn (fun k => decide (k < m)) n + _ = _
    rw [cn_lt m n]
    by_cases h : n < m
    · rw [if_pos (by simpa using h)]
      omega
    · rw [if_neg (by simpa using h)]
      omega
/-- those of a range within lo to hi -/
theorem filter_rg {p : Nat → Bool} {lo hi : Nat} (hp : ∀ k, p k = true ↔ lo ≤ k ∧ k < hi) : ∀ n, (List.range n).filter p = List.range' lo (min hi n - lo)
  | 0 => by simp
  | n + 1 => by
    rw [List.range_succ, List.filter_append, filter_rg hp n]
    by_cases h : p n = true
    · have h2 := (hp n).mp h
      have e : min hi (n + 1) - lo = (min hi n - lo) + 1 := by omega
      rw [e, List.range'_concat]
      simp [h]
      omega
    · have h2 : ¬ (lo ≤ n ∧ n < hi) := fun z => h ((hp n).mpr z)
      have e : min hi (n + 1) - lo = min hi n - lo := by omega
      rw [e]
      simp [h]
/-! ### cycles -/
theorem lcmC_dvd (cs : Cyc) (m : Nat) : lcmC cs ∣ m ↔ ∀ c ∈ cs, c.1 ∣ m := by
  have key : ∀ (cs : Cyc) (f : Nat), cs.foldl (fun f c => Nat.lcm f c.1) f ∣ m ↔ f ∣ m ∧ ∀ c ∈ cs, c.1 ∣ m := by
    intro cs
    induction cs with
    | nil => intro f; simp
    | cons c cs ih =>
      intro f
      rw [List.foldl_cons, ih, Nat.lcm_dvd_iff]
      simp only [List.mem_cons, forall_eq_or_imp]
      exact and_assoc
  unfold lcmC
  rw [key]
  simp
theorem sat_mod {cs : Cyc} {d W : Nat} (hW : ∀ c ∈ cs, c.1 ∣ W) : sat cs (d % W) ↔ sat cs d := by
  unfold sat
  constructor
  · intro h c hc
    rw [← h c hc, Nat.mod_mod_of_dvd _ (hW c hc)]
  · intro h c hc
    rw [← h c hc, Nat.mod_mod_of_dvd _ (hW c hc)]
theorem lcmC_self (cs : Cyc) : ∀ c ∈ cs, c.1 ∣ lcmC cs := (lcmC_dvd cs _).mp (Nat.dvd_refl _)
/-- a day's place -/
theorem place_iff {d o p s : Nat} (hs : 0 < s) (ho : o < s) (hp : p < s) : d % s = (o + p) % s ↔ ((d : Int) - (o : Int)) % (s : Int) = (p : Int) := by
  rw [mod_iff]
  constructor
  · intro h
    have h2 : ((d : Int) - (o : Int)) % (s : Int) = (p : Int) % (s : Int) := by
      refine Int.emod_eq_emod_iff_emod_sub_eq_zero.mpr (Int.emod_eq_zero_of_dvd ?_)
      have e : (d : Int) - (o : Int) - (p : Int) = (d : Int) - ((o + p : Nat) : Int) := by omega
      rw [e]
      exact h
    rw [h2, Int.emod_eq_of_lt (by omega) (by omega)]
  · intro h
    have h2 : ((d : Int) - (o : Int)) % (s : Int) = (p : Int) % (s : Int) := by rw [h, Int.emod_eq_of_lt (by omega) (by omega)]
    have h3 := Int.dvd_of_emod_eq_zero (Int.emod_eq_emod_iff_emod_sub_eq_zero.mp h2)
    have e : (d : Int) - (o : Int) - (p : Int) = (d : Int) - ((o + p : Nat) : Int) := by omega
    rwa [e] at h3
theorem lcmC_congr : ∀ (cs ds : Cyc) , cs.map (·.1) = ds.map (·.1) → lcmC cs = lcmC ds := by
  have key : ∀ (cs ds : Cyc) (f : Nat), cs.map (·.1) = ds.map (·.1) → cs.foldl (fun f c => Nat.lcm f c.1) f = ds.foldl (fun f c => Nat.lcm f c.1) f := by
    intro cs
    induction cs with
    | nil => intro ds f h; cases ds with
      | nil => rfl
      | cons _ _ => simp at h
    | cons c cs ih => intro ds f h; cases ds with
      | nil => simp at h
      | cons d ds =>
        simp only [List.map_cons, List.cons.injEq] at h
        rw [List.foldl_cons, List.foldl_cons, h.1]
        exact ih ds _ h.2
  exact fun cs ds h => key cs ds 1 h
/-! ### the best match -/
abbrev Tr := Nat × Nat × Nat
def lt3 (a b : Tr) : Bool := decide (a.1 < b.1 ∨ a.1 = b.1 ∧ (a.2.1 < b.2.1 ∨ a.2.1 = b.2.1 ∧ a.2.2 < b.2.2))
theorem lt3_iff (a b : Tr) : lt3 a b = true ↔ (a.1 < b.1 ∨ a.1 = b.1 ∧ (a.2.1 < b.2.1 ∨ a.2.1 = b.2.1 ∧ a.2.2 < b.2.2)) := by unfold lt3; exact decide_eq_true_iff
theorem lt3_not (a b : Tr) : lt3 a b = false ↔ ¬ (a.1 < b.1 ∨ a.1 = b.1 ∧ (a.2.1 < b.2.1 ∨ a.2.1 = b.2.1 ∧ a.2.2 < b.2.2)) := by unfold lt3; exact decide_eq_false_iff_not
/-- how far ones of one and others of other are apart, as a row -/
def row (one other o t : Nat) : Tr := (offF one other o t, o, t)
structure Least (one other : Nat) (S : Nat → Nat → Prop) (r : Tr) : Prop where
  mem : S r.2.1 r.2.2
  eq : r = row one other r.2.1 r.2.2
  le : ∀ o t, S o t → lt3 (row one other o t) r = false
def upTo3 (m : Nat) : Nat → Nat → Prop := fun o t => 1 ≤ o ∧ o ≤ m ∧ 1 ≤ t
/-- the best so far, near -/
def Best (one other m : Nat) : Option Tr → Prop
  | none => m = 0
  | some r => Least one other (upTo3 m) r ∧ r.2.2 ≤ one * r.2.1 / other + 2
def upd3 (b : Option Tr) (r : Tr) : Option Tr := match b with
  | none => some r
  | some x => if lt3 r x = true then some r else some x
def low3 (one other o : Nat) : Nat := max 1 (one * o / other)
theorem best_step {one other m : Nat} {b : Option Tr} (hy : 0 < other) (h : Best one other m b) : Best one other (m + 1) (upd3 (upd3 b (row one other (m + 1) (low3 one other (m + 1)))) (row one other (m + 1) (low3 one other (m + 1) + 1))) := by
  generalize hr1 : row one other (m + 1) (low3 one other (m + 1)) = r1
  generalize hr2 : row one other (m + 1) (low3 one other (m + 1) + 1) = r2
  have l1 : 1 ≤ low3 one other (m + 1) := Nat.le_max_left _ _
  have l2 : one * (m + 1) / other ≤ low3 one other (m + 1) := Nat.le_max_right _ _
  have l3 : low3 one other (m + 1) ≤ one * (m + 1) / other + 1 := Nat.max_le.mpr ⟨Nat.succ_le_succ (Nat.zero_le _), Nat.le_succ _⟩
  have l4 : low3 one other (m + 1) = 1 ∨ low3 one other (m + 1) = one * (m + 1) / other := by unfold low3; omega
  -- all rows of these ones
  have all : ∀ t, 1 ≤ t → lt3 (row one other (m + 1) t) r1 = false ∨ lt3 (row one other (m + 1) t) r2 = false := by
    intro t ht
    rcases Nat.lt_trichotomy t (low3 one other (m + 1)) with z | z | z
    · left
      have q : low3 one other (m + 1) = one * (m + 1) / other := by omega
      have h1 : low3 one other (m + 1) * other ≤ one * (m + 1) := low_le hy (by omega)
      have h2 : t * other < low3 one other (m + 1) * other := Nat.mul_lt_mul_of_pos_right z hy
      subst hr1
      refine (lt3_not _ _).mpr ?_
      show ¬ (offF one other (m + 1) t < offF one other (m + 1) (low3 one other (m + 1)) ∨ offF one other (m + 1) t = offF one other (m + 1) (low3 one other (m + 1)) ∧ _)
      rw [offF_lo h1, offF_lo (by omega)]
      omega
    · left
      subst hr1
      rw [z]
      refine (lt3_not _ _).mpr ?_
      omega
    · right
      subst hr2
      by_cases e : t = low3 one other (m + 1) + 1
      · rw [e]
        refine (lt3_not _ _).mpr ?_
        omega
      · have h1 : one * (m + 1) < (low3 one other (m + 1) + 1) * other := low_gt hy (by omega)
        have h2 : (low3 one other (m + 1) + 1) * other < t * other := Nat.mul_lt_mul_of_pos_right (by omega) hy
        refine (lt3_not _ _).mpr ?_
        show ¬ (offF one other (m + 1) t < offF one other (m + 1) (low3 one other (m + 1) + 1) ∨ offF one other (m + 1) t = offF one other (m + 1) (low3 one other (m + 1) + 1) ∧ _)
        rw [offF_hi (by omega), offF_hi (by omega)]
        omega
  have e1 : r1.2.1 = m + 1 := by rw [← hr1]; rfl
  have e2 : r1.2.2 = low3 one other (m + 1) := by rw [← hr1]; rfl
  have f1 : r2.2.1 = m + 1 := by rw [← hr2]; rfl
  have f2 : r2.2.2 = low3 one other (m + 1) + 1 := by rw [← hr2]; rfl
  have g1 : r1 = row one other r1.2.1 r1.2.2 := by rw [e1, e2, hr1]
  have g2 : r2 = row one other r2.2.1 r2.2.2 := by rw [f1, f2, hr2]
  -- what is least of three
  have fin : ∀ x : Tr, (x = r1 ∨ x = r2 ∨ b = some x) → lt3 r1 x = false → lt3 r2 x = false → (∀ y, b = some y → lt3 y x = false) → Best one other (m + 1) (some x) := by
    intro x hx h1 h2 h3
    have h1 := (lt3_not _ _).mp h1
    have h2 := (lt3_not _ _).mp h2
    refine ⟨⟨?_, ?_, ?_⟩, ?_⟩
    · rcases hx with rfl | rfl | hx
      · exact ⟨by omega, by omega, by omega⟩
      · exact ⟨by omega, by omega, by omega⟩
      · rw [hx] at h
        have := h.1.mem
        exact ⟨this.1, Nat.le_succ_of_le this.2.1, this.2.2⟩
    · rcases hx with rfl | rfl | hx
      · exact g1
      · exact g2
      · rw [hx] at h
        exact h.1.eq
    · intro o t ⟨s1, s2, s3⟩
      by_cases ho : o = m + 1
      · subst ho
        rcases all t s3 with z | z
        · have z := (lt3_not _ _).mp z
          refine (lt3_not _ _).mpr ?_
          omega
        · have z := (lt3_not _ _).mp z
          refine (lt3_not _ _).mpr ?_
          omega
      · cases b with
        | none => exact absurd (show m = 0 from h) (by omega)
        | some y =>
          have z := (lt3_not _ _).mp (h.1.le o t ⟨s1, by omega, s3⟩)
          have z2 := (lt3_not _ _).mp (h3 y rfl)
          refine (lt3_not _ _).mpr ?_
          omega
    · rcases hx with rfl | rfl | hx
      · rw [e1, e2]; omega
      · rw [f1, f2]; omega
      · rw [hx] at h
        exact h.2
  have irr : ∀ x, lt3 x x = false := fun x => (lt3_not _ _).mpr (by omega)
  cases b with
  | none =>
    show Best one other (m + 1) (if lt3 r2 r1 = true then some r2 else some r1)
    by_cases q : lt3 r2 r1 = true
    · rw [if_pos q]
      refine fin _ (.inr (.inl rfl)) ?_ (irr _) (fun y z => by cases z)
      have := (lt3_iff _ _).mp q
      refine (lt3_not _ _).mpr ?_
      omega
    · rw [if_neg q]
      exact fin _ (.inl rfl) (irr _) (by simpa using q) (fun y z => by cases z)
  | some y =>
    show Best one other (m + 1) (upd3 (if lt3 r1 y = true then some r1 else some y) r2)
    by_cases q : lt3 r1 y = true
    · rw [if_pos q]
      have q1 := (lt3_iff _ _).mp q
      show Best one other (m + 1) (if lt3 r2 r1 = true then some r2 else some r1)
      by_cases q2 : lt3 r2 r1 = true
      · rw [if_pos q2]
        have q3 := (lt3_iff _ _).mp q2
        refine fin _ (.inr (.inl rfl)) ?_ (irr _) (fun y z => ?_)
        · refine (lt3_not _ _).mpr ?_
          omega
        · cases z
          refine (lt3_not _ _).mpr ?_
          omega
      · rw [if_neg q2]
        refine fin _ (.inl rfl) (irr _) (by simpa using q2) (fun y z => ?_)
        cases z
        refine (lt3_not _ _).mpr ?_
        omega
    · rw [if_neg q]
      have q : lt3 r1 y = false := by simpa using q
      show Best one other (m + 1) (if lt3 r2 y = true then some r2 else some y)
      have q1 := (lt3_not _ _).mp q
      by_cases q2 : lt3 r2 y = true
      · rw [if_pos q2]
        have q3 := (lt3_iff _ _).mp q2
        refine fin _ (.inr (.inl rfl)) ?_ (irr _) (fun y z => ?_)
        · refine (lt3_not _ _).mpr ?_
          omega
        · cases z
          refine (lt3_not _ _).mpr ?_
          omega
      · rw [if_neg q2]
        refine fin _ (.inr (.inr rfl)) q (by simpa using q2) (fun y z => ?_)
        cases z
        exact irr _
/-- the least of x :: xs -/
def min3 (x : Tr) (xs : List Tr) : Tr := xs.foldl (fun a y => if lt3 y a = true then y else a) x
theorem min3_ok : ∀ (xs : List Tr) (x : Tr), min3 x xs ∈ x :: xs ∧ ∀ y ∈ x :: xs, lt3 y (min3 x xs) = false
  | [], x => ⟨List.mem_cons_self, fun y hy => by
    have : y = x := by simpa using hy
    subst this
    exact (lt3_not _ _).mpr (by show ¬ (y.1 < y.1 ∨ y.1 = y.1 ∧ (y.2.1 < y.2.1 ∨ y.2.1 = y.2.1 ∧ y.2.2 < y.2.2)); omega)⟩
  | z :: xs, x => by
    obtain ⟨a, b⟩ := min3_ok xs (if lt3 z x = true then z else x)
    have e : min3 x (z :: xs) = min3 (if lt3 z x = true then z else x) xs := rfl
    rw [e]
    generalize min3 (if lt3 z x = true then z else x) xs = m at a b
    have hf := (lt3_not _ _).mp (b _ List.mem_cons_self)
    refine ⟨?_, fun y hy => ?_⟩
    · rcases List.mem_cons.mp a with h | h
      · by_cases q : lt3 z x = true
        · rw [if_pos q] at h
          rw [h]
          exact List.mem_cons_of_mem _ List.mem_cons_self
        · rw [if_neg q] at h
          rw [h]
          exact List.mem_cons_self
      · exact List.mem_cons_of_mem _ (List.mem_cons_of_mem _ h)
    · by_cases q : lt3 z x = true
      · rw [if_pos q] at hf
        have q := (lt3_iff _ _).mp q
        rcases List.mem_cons.mp hy with h | hy
        · subst h
          refine (lt3_not _ _).mpr ?_
          omega
        · rcases List.mem_cons.mp hy with h | hy
          · subst h
            exact (lt3_not _ _).mpr hf
          · exact b y (List.mem_cons_of_mem _ hy)
      · rw [if_neg q] at hf
        have q : lt3 z x = false := by simpa using q
        have q := (lt3_not _ _).mp q
        rcases List.mem_cons.mp hy with h | hy
        · subst h
          exact (lt3_not _ _).mpr hf
        · rcases List.mem_cons.mp hy with h | hy
          · subst h
            refine (lt3_not _ _).mpr ?_
            omega
          · exact b y (List.mem_cons_of_mem _ hy)
theorem lt3_anti {a b : Tr} (h1 : lt3 a b = false) (h2 : lt3 b a = false) : a = b := by
  have h1 := (lt3_not _ _).mp h1
  have h2 := (lt3_not _ _).mp h2
  have : a.1 = b.1 ∧ a.2.1 = b.2.1 ∧ a.2.2 = b.2.2 := by omega
  obtain ⟨a1, a2, a3⟩ := a
  obtain ⟨b1, b2, b3⟩ := b
  simp only at this
  rw [this.1, this.2.1, this.2.2]
/-- the rows of the law: for ones to m, others to near -/
def rowsOf (one other : Nat) (m : Nat) : List Tr := (List.range m).flatMap fun i => (List.range (one * (i + 1) / other + 2)).map fun j => row one other (i + 1) (j + 1)
theorem mem_rows {one other m : Nat} {r : Tr} : r ∈ rowsOf one other m ↔ ∃ o t, 1 ≤ o ∧ o ≤ m ∧ 1 ≤ t ∧ t ≤ one * o / other + 2 ∧ r = row one other o t := by
  unfold rowsOf
  simp only [List.mem_flatMap, List.mem_map, List.mem_range]
  constructor
  · rintro ⟨i, hi, j, hj, rfl⟩
    exact ⟨i + 1, j + 1, by omega, by omega, by omega, by omega, rfl⟩
  · rintro ⟨o, t, h1, h2, h3, h4, rfl⟩
    refine ⟨o - 1, by omega, t - 1, ?_, ?_⟩
    · have : o - 1 + 1 = o := by omega
      rw [this]
      omega
    · have e1 : o - 1 + 1 = o := by omega
      have e2 : t - 1 + 1 = t := by omega
      rw [e1, e2]
theorem best_rows {one other m : Nat} {x : Tr} {xs : List Tr} (e : rowsOf one other m = x :: xs) {r : Tr} (h : Best one other m (some r)) : min3 x xs = r := by
  obtain ⟨h1, h2⟩ := min3_ok xs x
  rw [← e] at h1 h2
  refine lt3_anti ?_ ?_
  · obtain ⟨o, t, a1, a2, a3, a4, a5⟩ := mem_rows.mp h1
    rw [a5]
    exact h.1.le o t ⟨a1, a2, a3⟩
  · refine h2 r (mem_rows.mpr ⟨r.2.1, r.2.2, h.1.mem.1, h.1.mem.2.1, h.1.mem.2.2, h.2, h.1.eq⟩)
theorem rows_snoc (one other m : Nat) : rowsOf one other (m + 1) = rowsOf one other m ++ (List.range (one * (m + 1) / other + 2)).map fun j => row one other (m + 1) (j + 1) := by
  unfold rowsOf
  rw [List.range_succ, List.flatMap_append]
  simp
end MM
namespace MM
theorem best_is {one other m : Nat} {x r : Tr} (h : Best one other m (some r)) (hx : x = row one other x.2.1 x.2.2) (h1 : 1 ≤ x.2.1) (h2 : x.2.1 ≤ m) (h3 : 1 ≤ x.2.2) (hc : ∀ y ∈ rowsOf one other m, y = x ∨ lt3 x y = true) : r = x := by
  have hr : r ∈ rowsOf one other m := mem_rows.mpr ⟨r.2.1, r.2.2, h.1.mem.1, h.1.mem.2.1, h.1.mem.2.2, h.2, h.1.eq⟩
  rcases hc r hr with e | e
  · exact e
  · have := h.1.le x.2.1 x.2.2 ⟨h1, h2, h3⟩
    rw [← hx] at this
    rw [this] at e
    cases e
end MM
namespace MM
theorem sat_one {cs : Cyc} {a b : Nat} (ha : sat cs a) (hb : sat cs b) (la : a < lcmC cs) (lb : b < lcmC cs) : a = b := by
  have h : lcmC cs ∣ ((a : Int) - (b : Int)).natAbs := (lcmC_dvd cs _).mpr fun c hc => by
    rw [← nd]
    exact (mod_iff a b).mp ((ha c hc).trans (hb c hc).symm)
  have h2 := Nat.eq_zero_of_dvd_of_lt h (by omega)
  omega
def satB (cs : Cyc) (d : Nat) : Bool := cs.all fun c => decide (d % c.1 = c.2)
theorem satB_iff {cs : Cyc} {d : Nat} : satB cs d = true ↔ sat cs d := by
  unfold satB sat
  simp
/-- the days below W -/
def daysB (cs : Cyc) (W : Nat) : List Nat := (List.range W).filter (satB cs)
theorem daysB_mem {cs : Cyc} {W d : Nat} : d ∈ daysB cs W ↔ d < W ∧ sat cs d := by
  unfold daysB
  rw [List.mem_filter, List.mem_range, satB_iff]
theorem daysB_none {cs : Cyc} (hp : 0 < lcmC cs) (h : ∀ d, ¬ sat cs d) : daysB cs (lcmC cs) = [] := by
  rw [List.eq_nil_iff_forall_not_mem]
  exact fun d hd => h d (daysB_mem.mp hd).2
theorem daysB_some {cs : Cyc} {d : Nat} (hs : sat cs d) (hd : d < lcmC cs) : ∃ r, daysB cs (lcmC cs) = d :: r := by
  cases h : daysB cs (lcmC cs) with
  | nil =>
    have : d ∈ daysB cs (lcmC cs) := daysB_mem.mpr ⟨hd, hs⟩
    rw [h] at this
    cases this
  | cons x r =>
    have hx := daysB_mem.mp (show x ∈ daysB cs (lcmC cs) by rw [h]; exact List.mem_cons_self)
    rw [sat_one hx.2 hs hx.1 hd]
    exact ⟨r, rfl⟩
end MM

set_option linter.all false
/-! Plain mathematics of calendars: months, days of a year, a day's date. -/
namespace MM
variable {α : Type} [DecidableEq α]
abbrev Months (α : Type) := List (α × Nat)
def sh (ms : Months α) : Nat := (ms.map (·.2)).sum
/-- the days of a month in a year -/
def md (rs : Rules) (lg : α) (y : Nat) (m : α × Nat) : Nat := m.2 + if m.1 = lg ∧ isLong rs y = true then 1 else 0
def pre (rs : Rules) (lg : α) (y : Nat) (ms : Months α) (i : Nat) : Nat := ((ms.take i).map (md rs lg y)).sum
theorem pre_succ {rs : Rules} {lg : α} {y : Nat} {ms : Months α} {i : Nat} {m : α × Nat} (h : ms[i]? = some m) : pre rs lg y ms (i + 1) = pre rs lg y ms i + md rs lg y m := by
  unfold pre
  rw [List.take_add_one, h, List.map_append, List.sum_append]
  show _ + (md rs lg y m + 0) = _
  omega
theorem sum_md_out {rs : Rules} {lg : α} {y : Nat} : ∀ {ms : Months α}, lg ∉ ms.map (·.1) → (ms.map (md rs lg y)).sum = sh ms
  | [], _ => rfl
  | m :: ms, h => by
    have h1 : m.1 ≠ lg := fun z => h (by rw [← z]; simp)
    have h2 : lg ∉ ms.map (·.1) := fun z => h (List.mem_cons_of_mem _ z)
    show md rs lg y m + (ms.map (md rs lg y)).sum = m.2 + sh ms
    rw [sum_md_out h2]
    unfold md
    rw [if_neg fun z => h1 z.1]
    omega
theorem sum_md {rs : Rules} {lg : α} {y : Nat} : ∀ {ms : Months α}, (ms.map (·.1)).Nodup → lg ∈ ms.map (·.1) → (ms.map (md rs lg y)).sum = sh ms + if isLong rs y = true then 1 else 0
  | [], _, h => by simp at h
  | m :: ms, nd, h => by
    have nd2 := List.nodup_cons.mp nd
    show md rs lg y m + (ms.map (md rs lg y)).sum = m.2 + sh ms + _
    by_cases e : m.1 = lg
    · have h2 : lg ∉ ms.map (·.1) := by rw [← e]; exact nd2.1
      rw [sum_md_out h2]
      unfold md
      by_cases q : isLong rs y = true
      · rw [if_pos ⟨e, q⟩, if_pos q]
        omega
      · rw [if_neg fun z => q z.2, if_neg q]
        omega
    · have h2 : lg ∈ ms.map (·.1) := (List.mem_cons.mp h).elim (fun z => absurd z.symm e) id
      rw [sum_md nd2.2 h2]
      unfold md
      rw [if_neg fun z => e z.1]
      omega
theorem pre_all {rs : Rules} {lg : α} {y : Nat} {ms : Months α} (nd : (ms.map (·.1)).Nodup) (h : lg ∈ ms.map (·.1)) : pre rs lg y ms ms.length = sh ms + if isLong rs y = true then 1 else 0 := by
  unfold pre
  rw [List.take_length]
  exact sum_md nd h
theorem pre_mono {rs : Rules} {lg : α} {y : Nat} {ms : Months α} {i j : Nat} (h : i ≤ j) : pre rs lg y ms i ≤ pre rs lg y ms j := by
  unfold pre
  have e : ms.take j = ms.take i ++ (ms.take j).drop i := by
    have := List.take_append_drop i (ms.take j)
    rw [List.take_take, Nat.min_eq_left h] at this
    exact this.symm
  rw [e, List.map_append, List.sum_append]
  omega
/-- month i, day r (from 0 on) of year y is day n -/
def DayAt (ms : Months α) (lg : α) (rs : Rules) (y i r n : Nat) : Prop := ∃ m, ms[i]? = some m ∧ r < md rs lg y m ∧ n = db rs (sh ms) y + pre rs lg y ms i + r
section
variable {rs : Rules} {lg : α} {ms : Months α} (nd : (ms.map (·.1)).Nodup) (hl : lg ∈ ms.map (·.1)) (hs : 0 < sh ms)
include nd hl
theorem year_end (y : Nat) : db rs (sh ms) (y + 1) = db rs (sh ms) y + pre rs lg y ms ms.length := by
  rw [db_succ, pre_all nd hl]
  omega
theorem dayAt_year {y i r n : Nat} (h : DayAt ms lg rs y i r n) : db rs (sh ms) y ≤ n ∧ n < db rs (sh ms) (y + 1) := by
  obtain ⟨m, h1, h2, h3⟩ := h
  have hi := (List.getElem?_eq_some_iff.mp h1).1
  have h4 := pre_succ (rs := rs) (lg := lg) (y := y) h1
  have h5 := pre_mono (rs := rs) (lg := lg) (y := y) (ms := ms) (show i + 1 ≤ ms.length by omega)
  rw [year_end nd hl]
  omega
include hs
theorem dayAt_one {y i r y' i' r' n : Nat} (h : DayAt ms lg rs y i r n) (h' : DayAt ms lg rs y' i' r' n) : y = y' ∧ i = i' ∧ r = r' := by
  have a := dayAt_year nd hl h
  have b := dayAt_year nd hl h'
  have e := yr_one rs hs a.1 a.2 b.1 b.2
  subst e
  obtain ⟨m, h1, h2, h3⟩ := h
  obtain ⟨m', h1', h2', h3'⟩ := h'
  have h4 := pre_succ (rs := rs) (lg := lg) (y := y) h1
  have h4' := pre_succ (rs := rs) (lg := lg) (y := y) h1'
  rcases Nat.lt_trichotomy i i' with z | z | z
  · have := pre_mono (rs := rs) (lg := lg) (y := y) (ms := ms) (show i + 1 ≤ i' by omega)
    omega
  · subst z
    exact ⟨rfl, rfl, by omega⟩
  · have := pre_mono (rs := rs) (lg := lg) (y := y) (ms := ms) (show i' + 1 ≤ i by omega)
    omega
end
theorem pre_find {rs : Rules} {lg : α} {y : Nat} {ms : Months α} : ∀ (j k : Nat), j ≤ ms.length → k < pre rs lg y ms j → ∃ i m r, ms[i]? = some m ∧ r < md rs lg y m ∧ k = pre rs lg y ms i + r
  | 0, k, _, h => by
    have e : pre rs lg y ms 0 = 0 := rfl
    omega
  | j + 1, k, hj, h => by
    have hm := List.getElem?_eq_getElem (l := ms) (show j < ms.length by omega)
    have h1 := pre_succ (rs := rs) (lg := lg) (y := y) hm
    by_cases z : k < pre rs lg y ms j
    · exact pre_find j k (by omega) z
    · exact ⟨j, _, k - pre rs lg y ms j, hm, by omega, by omega⟩
theorem dayAt_any {rs : Rules} {lg : α} {ms : Months α} (nd : (ms.map (·.1)).Nodup) (hl : lg ∈ ms.map (·.1)) {y n : Nat} (h1 : db rs (sh ms) y ≤ n) (h2 : n < db rs (sh ms) (y + 1)) : ∃ i r, DayAt ms lg rs y i r n := by
  rw [year_end nd hl] at h2
  obtain ⟨i, m, r, a, b, c⟩ := pre_find (rs := rs) (lg := lg) (y := y) (ms := ms) ms.length (n - db rs (sh ms) y) (Nat.le_refl _) (by omega)
  exact ⟨i, r, m, a, b, by omega⟩
end MM

set_option linter.all false
/-! Plain mathematics of pages: rows of a list. -/
namespace MM
variable {β : Type}
/-- n rows of w items each -/
def rowsN (w : Nat) (l : List β) (n : Nat) : List (List β) := (List.range n).map fun i => (l.drop (i * w)).take w
/-- a row filled up -/
def fill (z : β) (w : Nat) (l : List β) : List β := l ++ List.replicate (w - l.length) z
/-- how many rows -/
def rowsC (w k : Nat) : Nat := (k + w - 1) / w
theorem rowsC_mul {w k : Nat} (hw : 0 < w) : k ≤ rowsC w k * w ∧ rowsC w k * w < k + w := by
  unfold rowsC
  have h := Nat.div_add_mod (k + w - 1) w
  have h2 := Nat.mod_lt (k + w - 1) hw
  rw [Nat.mul_comm] at h
  omega
theorem row_fill {w n : Nat} (l : List β) (z : β) (i : Nat) (hw : 0 < w) (hi : i * w ≤ l.length) (hn : n = rowsC w l.length) (hin : i < n) :
    ((l ++ List.replicate (n * w - l.length) z).drop (i * w)).take w = fill z w ((l.drop (i * w)).take w) := by
  have hc := rowsC_mul (k := l.length) hw
  rw [← hn] at hc
  rw [List.drop_append_of_le_length hi]
  unfold fill
  by_cases h : i * w + w ≤ l.length
  · rw [List.take_append_of_le_length (by rw [List.length_drop]; omega)]
    have e : w - ((l.drop (i * w)).take w).length = 0 := by rw [List.length_take, List.length_drop]; omega
    rw [e, List.replicate_zero, List.append_nil]
  · have h1 : (l.drop (i * w)).length ≤ w := by rw [List.length_drop]; omega
    have h2 : (i + 1) * w ≤ n * w := Nat.mul_le_mul_right _ hin
    rw [Nat.succ_mul] at h2
    have h3 : n * w = i * w + w := by
      rcases Nat.lt_or_ge (i + 1) n with q | q
      · have h4 : (i + 1 + 1) * w ≤ n * w := Nat.mul_le_mul_right _ q
        rw [Nat.succ_mul, Nat.succ_mul] at h4
        omega
      · have : n = i + 1 := by omega
        rw [this, Nat.succ_mul]
    rw [List.take_append, List.take_of_length_le h1]
    congr 1
    rw [List.length_drop, List.take_replicate]
    congr 1
    omega
/-- the pages of a list: rows until nothing is left -/
def pages (z : β) (w : Nat) (l : List β) : List (List β) := (List.range (rowsC w l.length)).map fun i => fill z w ((l.drop (i * w)).take w)
theorem pages_eq {w : Nat} (l : List β) (z : β) (hw : 0 < w) : rowsN w (l ++ List.replicate (rowsC w l.length * w - l.length) z) (rowsC w l.length) = pages z w l := by
  unfold rowsN pages
  refine List.map_congr_left fun i hi => ?_
  have hi : i < rowsC w l.length := by simpa using hi
  refine row_fill l z i hw ?_ rfl hi
  have hc := rowsC_mul (k := l.length) hw
  have h2 : (i + 1) * w ≤ rowsC w l.length * w := Nat.mul_le_mul_right _ hi
  rw [Nat.succ_mul] at h2
  omega
/-- one page ahead -/
theorem pages_snoc {w : Nat} (l : List β) (z : β) (hw : 0 < w) (i : Nat) (hi : i * w < l.length) : i < rowsC w l.length := by
  have hc := rowsC_mul (k := l.length) hw
  rcases Nat.lt_or_ge i (rowsC w l.length) with h | h
  · exact h
  · have := Nat.mul_le_mul_right w h
    omega
theorem pages_end {w : Nat} (l : List β) (hw : 0 < w) (i : Nat) (hi : l.length ≤ i * w) (hi2 : i ≤ rowsC w l.length) : i = rowsC w l.length := by
  have hc := rowsC_mul (k := l.length) hw
  rcases Nat.lt_or_ge i (rowsC w l.length) with h | h
  · have := Nat.mul_le_mul_right w (show i + 1 ≤ rowsC w l.length from h)
    rw [Nat.succ_mul] at this
    omega
  · omega
/-- how much is missing to whole rows -/
theorem miss_eq {w k : Nat} (hw : 0 < w) : ((0 - (k : Int)) % (w : Int)) = ((rowsC w k * w - k : Nat) : Int) := by
  have hc := rowsC_mul (k := k) hw
  have e : (0 : Int) - (k : Int) = ((rowsC w k * w - k : Nat) : Int) + (w : Int) * (-(rowsC w k : Int)) := by
    have e2 : ((rowsC w k * w - k : Nat) : Int) = (rowsC w k : Int) * (w : Int) - (k : Int) := by
      rw [← Int.natCast_mul]
      omega
    rw [e2, Int.mul_neg, Int.mul_comm (w : Int)]
    omega
  rw [e, Int.add_mul_emod_self_left, Int.emod_eq_of_lt (by omega) (by omega)]
end MM

set_option Elab.async false
set_option linter.all false
set_option maxRecDepth 100000
set_option maxHeartbeats 2000000
/-! How heaps grow: what stays, what may change; facts of data. -/
namespace MB
open PySem PySem.Spec PyProof.Rows L2

/-- the tables of the law: gen for generator expressions, lam for lambdas -/
structure Tb where
  gen : List Addr
  lam : List (Addr × Str)
def Gd (T : Tb) (H : Hp) : Prop := (∀ p ∈ T.gen, GxR.TabG H p) ∧ ∀ p ∈ T.lam, LamX.TabS H p.1 p.2
def TOk (T : Tb) : Prop := ∀ p ∈ T.gen, ∀ q ∈ T.lam, q.1 ≠ p

/-- never written -/
def fixB : HO → Bool
  | .lst _ => false | .dK _ => false | .dT _ => false | .set _ _ => false | .tbl _ => false | .rng _ _ => false | .xd _ => false | .frz _ _ => false
  | _ => true
/-- H' comes after H: only what stands at M may have been written -/
structure Ext (T : Tb) (M : Addr → Prop) (H H' : Hp) : Prop where
  fix : ∀ b o, H b = some o → fixB o = true → H' b = some o
  lst : ∀ b xs, H b = some (.lst xs) → ¬ M b → H' b = some (.lst xs)
  dk : ∀ b xs, H b = some (.dK xs) → ¬ M b → H' b = some (.dK xs)
  frz : ∀ b o u, H b = some (.frz o u) → H' b = some (.frz o u)
  gd : Gd T H → Gd T H'
abbrev No : Addr → Prop := fun _ => False
section
variable {T : Tb} {M M' : Addr → Prop} {H H1 H2 : Hp}
theorem Ext.refl : Ext T M H H := ⟨fun _ _ h _ => h, fun _ _ h _ => h, fun _ _ h _ => h, fun _ _ _ h => h, id⟩
theorem Ext.trans (a : Ext T M H H1) (b : Ext T M H1 H2) : Ext T M H H2 :=
  ⟨fun c o h n => b.fix c o (a.fix c o h n) n, fun c o h n => b.lst c o (a.lst c o h n) n, fun c o h n => b.dk c o (a.dk c o h n) n, fun c o u h => b.frz c o u (a.frz c o u h), fun g => b.gd (a.gd g)⟩
theorem Ext.more (a : Ext T M H H1) (h : ∀ b, M b → M' b) : Ext T M' H H1 := ⟨a.fix, fun b xs e n => a.lst b xs e fun z => n (h b z), fun b xs e n => a.dk b xs e fun z => n (h b z), a.frz, a.gd⟩
theorem Ext.no (a : Ext T No H H1) : Ext T M H H1 := a.more fun _ z => z.elim
/-- nothing that may be written stands at b -/
def NoM (H : Hp) (b : Addr) : Prop := (∀ xs, H b ≠ some (.lst xs)) ∧ ∀ xs, H b ≠ some (.dK xs)
theorem NoM.of {b : Addr} (h : H b = none) : NoM H b := ⟨fun xs z => (by rw [h] at z; cases z), fun xs z => (by rw [h] at z; cases z)⟩
theorem NoM.back {b : Addr} (e : Ext T M H H1) (hM : ¬ M b) (h : NoM H1 b) : NoM H b := ⟨fun xs z => h.1 xs (e.lst b xs z hM), fun xs z => h.2 xs (e.dk b xs z hM)⟩
theorem Ext.fresh {b : Addr} (e : Ext T No H H1) (h : H1 b = none) : NoM H b := NoM.back e id (NoM.of h)
theorem Ext.mono {N : Addr → Prop} (a : Ext T M H H1) (h : ∀ b, M b → N b ∨ NoM H b) : Ext T N H H1 :=
  ⟨a.fix, fun b xs e n => a.lst b xs e fun z => (h b z).elim n fun q => q.1 xs e, fun b xs e n => a.dk b xs e fun z => (h b z).elim n fun q => q.2 xs e, a.frz, a.gd⟩
theorem Ext.mono1 {l : Addr} (a : Ext T (· = l) H H1) (h : NoM H l) : Ext T No H H1 := a.mono fun b z => .inr (by rw [z]; exact h)
theorem upd_keep {p a : Addr} {o x : HO} (hp : H p = none) (h : H a = some x) : upd H p o a = some x := by
  rw [upd_ne fun z => by subst z; rw [hp] at h; cases h]
  exact h
theorem Gd.keep (g : Gd T H) (k : ∀ b o, H b = some o → H1 b = some o) : Gd T H1 := ⟨fun p hp => let ⟨ps, e, t⟩ := g.1 p hp; ⟨ps, k _ _ e, t⟩, fun p hp => (g.2 p hp).ext k⟩
/-- a new object -/
theorem Ext.new {p : Addr} {o : HO} (hp : H p = none) : Ext T M H (upd H p o) :=
  ⟨fun _ _ h _ => upd_keep hp h, fun _ _ h _ => upd_keep hp h, fun _ _ h _ => upd_keep hp h, fun _ _ _ h => upd_keep hp h, fun g => g.keep fun _ _ h => upd_keep hp h⟩
theorem upd_mut {p a : Addr} {xs : List V} {o x : HO} (hp : H p = some (.lst xs)) (h : H a = some x) (n : ∀ ys, x ≠ .lst ys) : upd H p o a = some x := by
  rw [upd_ne fun z => by subst z; rw [hp] at h; exact n xs (Option.some.inj h).symm]
  exact h
/-- a list written -/
theorem Ext.set {p : Addr} {xs : List V} {o : HO} (hp : H p = some (.lst xs)) (hM : M p) : Ext T M H (upd H p o) := by
  refine ⟨fun b u h n => upd_mut hp h fun ys z => (by subst z; cases n), fun b ys h n => ?_, fun b ys h n => upd_mut hp h fun ys z => (nomatch z), fun b o' u h => upd_mut hp h fun ys z => (nomatch z), fun g => ⟨fun q hq => ?_, fun q hq => ?_⟩⟩
  · rw [upd_ne fun z => n (by rw [z]; exact hM)]
    exact h
  · obtain ⟨ps, e, t⟩ := g.1 q hq
    exact ⟨ps, upd_mut hp e fun ys z => (nomatch z), t⟩
  · obtain ⟨ps, e, t, h3⟩ := g.2 q hq
    refine ⟨ps, upd_mut hp e fun ys z => (nomatch z), t, fun pos cv hc => ?_⟩
    obtain ⟨c, e1, e2⟩ := h3 pos cv hc
    exact ⟨c, e1, upd_mut hp e2 fun ys z => (by unfold LamX.CodeO at z; cases z)⟩
/-- a table of generator expressions grown -/
theorem Ext.tab {p : Addr} (ok : TOk T) (hp : p ∈ T.gen) (t : GxR.TabG H p) (h : GxR.Tabbed p H H1) : Ext T M H H1 := by
  obtain ⟨h1, h2⟩ := h
  obtain ⟨ps, e0, t0⟩ := t
  have key : ∀ b o, H b = some o → (∀ ps, o ≠ .tbl ps) → H1 b = some o := fun b o e n => by
    rw [h2 b fun z => by subst z; rw [e0] at e; exact n ps (Option.some.inj e).symm]
    exact e
  refine ⟨fun b u h n => key b u h fun ys z => (by subst z; cases n), fun b ys h n => key b _ h fun ys z => (nomatch z), fun b ys h n => key b _ h fun ys z => (nomatch z), fun b o' u h => key b _ h fun ys z => (nomatch z), fun g => ⟨fun q hq => ?_, fun q hq => ?_⟩⟩
  · by_cases e : q = p
    · rw [e]; exact h1
    · obtain ⟨ps, e2, t2⟩ := g.1 q hq
      exact ⟨ps, by rw [h2 q e]; exact e2, t2⟩
  · obtain ⟨ps, e2, t2, h3⟩ := g.2 q hq
    refine ⟨ps, by rw [h2 q.1 (ok p hp q hq)]; exact e2, t2, fun pos cv hc => ?_⟩
    obtain ⟨c, e3, e4⟩ := h3 pos cv hc
    exact ⟨c, e3, key c _ e4 fun ys z => (by unfold LamX.CodeO at z; cases z)⟩
/-- what lambdas leave -/
theorem Ext.lamN (h : LamX.ExtN H H1) (hT : ∀ p ∈ T.gen, ∀ ps, H p = some (.tbl ps) → H1 p = some (.tbl ps)) (hL : LamX.Tabs T.lam H1) : Ext T M H H1 :=
  ⟨fun b u e n => h b u e fun ys z => (by subst z; cases n), fun b ys e n => h b _ e fun ys z => (nomatch z), fun b ys e n => h b _ e fun ys z => (nomatch z), fun b o u e => h b _ e fun ys z => (nomatch z),
    fun g => ⟨fun p hp => let ⟨ps, e, t⟩ := g.1 p hp; ⟨ps, hT p hp ps e, t⟩, hL⟩⟩
end

/-! ### the rule for a def whose code object is known -/
section
variable {P : Program} {w : World} {K : PySem.W.Frag} {mg : Str → Option Value} {base : Heap} {x qual : Str} {params : Arguments} {body : List Stmt} {scope : Scope} {dvs : List V} {kws : List (Str × V)} {fd : FuncData}
theorem FunD.okC {CX : CXT} {N ps : List Str} {k : Nat} {sp : Sp} {d : He.Defn} (F : FunD K x qual params body scope dvs kws (He.fAd K d) fd) (S : FnScope N ps scope) (len : ∀ vs H Q E, sp vs H Q E → vs.length = ps.length)
    (hbody : ∀ (A : Around) (outer : List Env) (s : Shared) (H : Hp) (vs : List V) (Q : VK) (E : XK), Room k (A.deeper (envOfC qual scope s.heap.objs.size (He.fAd K d) (.ref (He.cT K d).1))) → sp vs H Q E →
      ∃ t, PSs (cxOf CX P w K mg base N qual scope (He.fAd K d) (.ref (He.cT K d).1) A outer s H E) body t ∧ t { nx := fun _ H' => Q .non H', rt := Q } (start N vs) H) : FnOk P w K mg base CX (k + 1) (He.fAd K d) fd ps sp := by
  have F0 := F
  obtain ⟨oc, od, dV, kV, doc, pm, an, cdv, ct, osl, rfl, lk, hcd, _, _⟩ := F.ex
  obtain ⟨c, hc⟩ := He.codeIn_ref hcd
  have e : He.codeOf K d = c := He.codeOf_eq lk hc
  subst hc
  have e2 : (He.cT K d).1 = c := e
  refine fn_of lk hcd S len fun A outer s H vs Q E hr hsp => ?_
  rw [e2] at hbody
  exact hbody A outer s H vs Q E hr hsp
end
end MB
namespace MB
theorem ifB {c : Bool} {A B : Prop} (h1 : c = true → A) (h0 : c = false → B) : if c = true then A else B := by
  cases c with
  | true => exact h1 rfl
  | false => exact h0 rfl
end MB
namespace MB
open PySem PySem.Spec PyProof.Rows L2
/-! ### a list or a tuple, walked by for -/
def Its2 (K : PySem.W.Frag) (a : Addr) (J : It) (H : Hp) : Prop := ((∃ xs, SqL K H a xs) ∧ J = Itl K a) ∨ ((∃ xs, SqT K H a xs) ∧ J = Itt K a)
def iSeq (K : PySem.W.Frag) (tl : TE) : TI := fun σ H R => tl σ H fun x H1 => ∃ a, x = .ref a ∧ (((∃ xs, SqL K H1 a xs) ∧ R (Itl K a) H1) ∨ ((∃ xs, SqT K H1 a xs) ∧ R (Itt K a) H1))
section
variable {X : Cx}
theorem pi_seq {tg l : Expr} {tl : TE} (hl : PE X l tl) : PI X tg l (iSeq X.K tl) := by
  refine ⟨fun pins s σ H R I h => ?_⟩
  refine thn (hl.run pins s σ H _ I h) fun v s1 ⟨x, H1, I1, r1, q1⟩ => ?_
  obtain ⟨a, e, q1⟩ := q1
  subst e
  cases r1
  have key : ∀ b ∈ [s1.heap.objs.size], FpOk X pins H1 b := fun b hb => by
    have e : b = s1.heap.objs.size := by simpa using hb
    subst e
    exact I1.fpOk (Nat.le_refl _) (I1.hok.fresh (Nat.le_refl _))
  rcases q1 with ⟨⟨xs, hq⟩, q⟩ | ⟨⟨xs, hq⟩, q⟩
  · obtain ⟨its, rv, p, hz⟩ := I1.list hq
    refine wpAny_pyIter_list p.isList ?_
    exact ⟨s1.heap.objs.size, [s1.heap.objs.size], _, _, H1, rfl, I1.kept (t' := s1.toks) fun b o e => Heap.get?_push_of_some _ e, turn_list a _, ⟨_, Heap.get?_push_size _ rfl, rfl, rfl⟩, key, q⟩
  · obtain ⟨its, rv, p, hz⟩ := I1.tuple hq
    refine wpAny_pyIter_tuple (show s1.heap.IsTuple a its.toArray from p) ?_
    exact ⟨s1.heap.objs.size, [s1.heap.objs.size], _, _, H1, rfl, I1.kept (t' := s1.toks) fun b o e => Heap.get?_push_of_some _ e, turn_tuple a _, ⟨_, Heap.get?_push_size _ rfl, rfl, rfl⟩, key, q⟩
end
/-! ### data that may be compared -/
def ShK (k : Nat) (d : PyData) : Prop := d.canLay0 = true ∧ d.depth ≤ k
theorem ShK.ok {k : Nat} {d : PyData} (h : ShK k d) (hk : k ≤ 64 := by decide) : SeqAt.shaped d = true := by
  unfold SeqAt.shaped
  rw [h.1, Bool.true_and]
  exact decide_eq_true (Nat.le_trans h.2 hk)
theorem ShK.int (k : Nat) (i : Int) : ShK k (.int i) := ⟨rfl, Nat.zero_le _⟩
theorem ShK.bl (k : Nat) (b : Bool) : ShK k (.bool b) := ⟨rfl, Nat.zero_le _⟩
theorem ShK.non (k : Nat) : ShK k .none := ⟨rfl, Nat.zero_le _⟩
theorem shAll {k : Nat} : ∀ {ds : List PyData}, (∀ d ∈ ds, ShK k d) → PyData.canLayAll0 ds = true ∧ PyData.depthAll ds ≤ k
  | [], _ => ⟨rfl, Nat.zero_le _⟩
  | d :: ds, h => by
    obtain ⟨a, b⟩ := shAll fun x hx => h x (List.mem_cons_of_mem _ hx)
    obtain ⟨a1, b1⟩ := h d List.mem_cons_self
    refine ⟨?_, ?_⟩
    · show (PyData.canLay0 d && PyData.canLayAll0 ds) = true
      rw [a, a1]; rfl
    · show max (PyData.depth d) (PyData.depthAll ds) ≤ k
      omega
theorem ShK.lst {k : Nat} {ds : List PyData} (h : ∀ d ∈ ds, ShK k d) : ShK (k + 1) (.list ds) := ⟨(shAll h).1, Nat.succ_le_succ (shAll h).2⟩
theorem ShK.tup {k : Nat} {ds : List PyData} (h : ∀ d ∈ ds, ShK k d) : ShK (k + 1) (.tuple ds) := ⟨(shAll h).1, Nat.succ_le_succ (shAll h).2⟩
section
variable {K : PySem.W.Frag} {H : Hp}
theorem dpAll_of {α : Type} {f : α → V} {g : α → PyData} : ∀ {l : List α}, (∀ x ∈ l, Dp K H (f x) (g x)) → DpAll K H (l.map f) (l.map g)
  | [], _ => .nil
  | x :: l, h => .cons (h x List.mem_cons_self) (dpAll_of fun y hy => h y (List.mem_cons_of_mem _ hy))
theorem dpAll_get : ∀ {xs : List V} {ds : List PyData}, xs.length = ds.length → (∀ (i : Nat) (x : V) (d : PyData), xs[i]? = some x → ds[i]? = some d → Dp K H x d) → DpAll K H xs ds
  | [], [], _, _ => .nil
  | x :: xs, d :: ds, hl, h => .cons (h 0 x d rfl rfl) (dpAll_get (by simpa using hl) fun i y e h1 h2 => h (i + 1) y e (by simpa using h1) (by simpa using h2))
  | [], _ :: _, hl, _ => by simp at hl
  | _ :: _, [], hl, _ => by simp at hl
end
theorem eqvAll_map {α : Type} [DecidableEq α] {g : α → PyData} (h : ∀ x y, PyData.eqv (g x) (g y) = decide (x = y)) : ∀ l m : List α, PyData.eqvAll (l.map g) (m.map g) = decide (l = m)
  | [], [] => rfl
  | [], _ :: _ => rfl
  | _ :: _, [] => rfl
  | x :: l, y :: m => by
    show (PyData.eqv (g x) (g y) && PyData.eqvAll (l.map g) (m.map g)) = _
    rw [h x y, eqvAll_map h l m]
    by_cases h1 : x = y <;> by_cases h2 : l = m <;> simp [h1, h2]
theorem eqv_int (i j : Int) : PyData.eqv (.int i) (.int j) = decide (i = j) := by
  show (i == j) = _
  by_cases h : i = j <;> simp [h]
theorem eqv_bl (i j : Bool) : PyData.eqv (.bool i) (.bool j) = decide (i = j) := by
  cases i <;> cases j <;> rfl
theorem eqv_nil {ds : List PyData} (h : ds ≠ []) : PyData.eqv (.list ds) (.list []) = false := by
  cases ds with
  | nil => exact absurd rfl h
  | cons _ _ => rfl
/-! ### rules, leaps -/
def RulesT (H : Hp) (ts : List Addr) (rs : MM.Rules) : Prop := ts.length = rs.length ∧ ∀ (i : Nat) (t : Addr) (r : Nat × Bool), ts[i]? = some t → rs[i]? = some r → H t = some (.tup [.int ((r.1 : Nat) : Int), .bl r.2])
theorem RulesT.ext {T : Tb} {M : Addr → Prop} {H H' : Hp} {ts : List Addr} {rs : MM.Rules} (h : RulesT H ts rs) (e : Ext T M H H') : RulesT H' ts rs := ⟨h.1, fun i t r h1 h2 => e.fix _ _ (h.2 i t r h1 h2) rfl⟩
theorem RulesT.get {H : Hp} {ts : List Addr} {rs : MM.Rules} (h : RulesT H ts rs) {i : Nat} {v : V} (e : (ts.map V.ref)[i]? = some v) : ∃ t r, v = .ref t ∧ ts[i]? = some t ∧ rs[i]? = some r ∧ H t = some (.tup [.int ((r.1 : Nat) : Int), .bl r.2]) := by
  rw [List.getElem?_map] at e
  cases e1 : ts[i]? with
  | none => rw [e1] at e; cases e
  | some t =>
    rw [e1] at e
    cases e
    have hi := (List.getElem?_eq_some_iff.mp e1).1
    have hj : i < rs.length := h.1 ▸ hi
    have h2 := List.getElem?_eq_getElem (l := rs) hj
    exact ⟨t, _, rfl, rfl, h2, h.2 i t _ e1 h2⟩
theorem RulesT.at {H : Hp} {ts : List Addr} {rs : MM.Rules} (h : RulesT H ts rs) {i : Nat} (hi : i < rs.length) : ∃ t r, (ts.map V.ref)[i]? = some (.ref t) ∧ rs[i]? = some r ∧ H t = some (.tup [.int ((r.1 : Nat) : Int), .bl r.2]) := by
  have hi2 : i < ts.length := by rw [h.1]; exact hi
  have e1 : (ts.map V.ref)[i]? = some (.ref ts[i]) := by rw [List.getElem?_map, List.getElem?_eq_getElem hi2]; rfl
  obtain ⟨t, r, e2, e3, e4, e5⟩ := h.get e1
  exact ⟨t, r, by rw [e1, e2], e4, e5⟩
def LeapsAt (C : Addr) (H : Hp) (a : Addr) (rs : MM.Rules) : Prop := ∃ dx p ts, H a = some (.ins C dx [("rules", .ref p)]) ∧ H p = some (.tup (ts.map V.ref)) ∧ RulesT H ts rs
theorem LeapsAt.ext {T : Tb} {M : Addr → Prop} {C : Addr} {H H' : Hp} {a : Addr} {rs : MM.Rules} (h : LeapsAt C H a rs) (e : Ext T M H H') : LeapsAt C H' a rs := by
  obtain ⟨dx, p, ts, h1, h2, h3⟩ := h
  exact ⟨dx, p, ts, e.fix _ _ h1 rfl, e.fix _ _ h2 rfl, h3.ext e⟩
/-- what Leaps lets in, and a bound on what its rules have in common -/
structure ROk (rs : MM.Rules) : Prop where
  pos : 0 < rs.length
  six : rs.length ≤ 6
  rng : ∀ r ∈ rs, 1 ≤ r.1 ∧ r.1 ≤ 4000
  asc : ∀ (i : Nat) (a b : Nat × Bool), rs[i]? = some a → rs[i + 1]? = some b → a.1 < b.1
  lcm : MM.lcmA rs < 2 ^ 30
theorem atI_of {α : Type} {xs : List α} {j : Int} {i : Nat} {x : α} (e : j = (i : Int)) (h : xs[i]? = some x) : atI xs j = some x := by
  subst e
  exact atI_nat h
end MB
namespace MB
open PySem PySem.Spec PyProof.Rows L2
section
variable {X : Cx} {T : Tb}
/-! ### rules whose heaps are told by Ext -/
def tTupN (T : Tb) (t : TA) : TE := fun σ H Q => t σ H fun xs H1 => xs.length ≤ sizeLine ∧ ∀ p H2, H1 p = none → H2 p = some (.tup xs) → Ext T No H1 H2 → Q (.ref p) H2
def tLstN (T : Tb) (t : TA) : TE := fun σ H Q => t σ H fun xs H1 => xs.length ≤ sizeLine ∧ ∀ p H2, H1 p = none → H2 p = some (.lst xs) → Ext T No H1 H2 → Q (.ref p) H2
theorem pe_tupN {es : List Expr} {k : Nat} {pos : Pos} {t : TA} (h : PA X es t) : PE X (.Tuple es k pos) (tTupN T t) := by
  refine ⟨fun pins s σ H Q I hq => ?_⟩
  refine wpAny_Tuple_spliced (thn (h.run pos pins s σ H _ I hq) fun us s1 ⟨xs, H1, I1, r, z, q⟩ => ⟨by rw [← r.length]; exact z, ?_⟩)
  have hf : H1 s1.heap.objs.size = none := I1.hok.fresh (Nat.le_refl _)
  refine ⟨.ref s1.heap.objs.size, upd H1 s1.heap.objs.size (.tup xs), I1.laid (t' := s1.toks) (fun b u e => Heap.get?_push_of_some _ e) (Nat.le_refl _) ?_, rfl, q _ _ hf upd_same (Ext.new hf)⟩
  exact ⟨z, us, r, ⟨_, Heap.get?_push_size _ rfl, rfl, _, rfl⟩⟩
theorem pe_lstN {es : List Expr} {pos : Pos} {t : TA} (h : PA X es t) : PE X (.List es pos) (tLstN T t) := by
  refine ⟨fun pins s σ H Q I hq => ?_⟩
  refine wpAny_List_spliced (thn (h.run pos pins s σ H _ I hq) fun us s1 ⟨xs, H1, I1, r, z, q⟩ => ⟨by rw [← r.length]; exact z, ?_⟩)
  have hf : H1 s1.heap.objs.size = none := I1.hok.fresh (Nat.le_refl _)
  refine ⟨.ref s1.heap.objs.size, upd H1 s1.heap.objs.size (.lst xs), I1.laid (t' := s1.toks) (fun b u e => Heap.get?_push_of_some _ e) (Nat.le_refl _) ?_, rfl, q _ _ hf upd_same (Ext.new hf)⟩
  exact ⟨z, us, 0, r, Heap.get?_push_size _ rfl⟩
def rAppN (T : Tb) : V → List V → Hp → VK → Prop := fun x vs H Q => ∃ l xs y, x = .ref l ∧ vs = [y] ∧ H l = some (.lst xs) ∧ xs.length < sizeLine ∧ ∀ H2, H2 l = some (.lst (xs ++ [y])) → Ext T (· = l) H H2 → Q .non H2
theorem mt_appN : MtM X "list.append" (rAppN T) := by
  intro pins s σ H x vs v us Q I rx rv ⟨l, xs, y, e1, e2, h, hz, q⟩
  exact mt_append pins s σ H x vs v us Q I rx rv ⟨l, xs, y, e1, e2, h, hz, q _ upd_same (Ext.set h rfl)⟩
def rPopN (T : Tb) : V → List V → Hp → VK → Prop := fun x vs H Q => ∃ l xs y, x = .ref l ∧ vs = [] ∧ H l = some (.lst (xs ++ [y])) ∧ ∀ H2, H2 l = some (.lst xs) → Ext T (· = l) H H2 → Q y H2
theorem mt_popN : MtM X "list.pop" (rPopN T) := by
  intro pins s σ H x vs v us Q I rx rv ⟨l, xs, y, e1, e2, h, q⟩
  refine mt_pop pins s σ H x vs v us Q I rx rv ⟨l, xs ++ [y], y, e1, e2, h, by simp, ?_⟩
  rw [List.dropLast_concat]
  exact q _ upd_same (Ext.set h rfl)
def rSlLN (T : Tb) (K : PySem.W.Frag) : V → Option Int → Option Int → Hp → VK → Prop := fun x lo hi H Q => ∃ a xs, x = .ref a ∧ SqL K H a xs ∧ ∀ p H2, H p = none → H2 p = some (.lst (cutV xs lo hi)) → Ext T No H H2 → Q (.ref p) H2
theorem sl_listN : SlR X (rSlLN T X.K) := by
  intro pins s σ H x v vl vu lo hi sl Q I rx hs pl pu ⟨a, xs, e, h, q⟩
  exact sl_list pins s σ H x v vl vu lo hi sl Q I rx hs pl pu ⟨a, xs, e, h, fun p hp => q p _ hp upd_same (Ext.new hp)⟩
def rDictPN (T : Tb) (K : PySem.W.Frag) : List V → Hp → VK → Prop := fun xs H Q => ∃ (a : Addr) (ps : List Addr) (kvs : List (Key × V)), xs = [.ref a] ∧ SqL K H a (ps.map V.ref) ∧ Paired (fun p kv => SqT K H p [kV kv.1, kv.2]) ps kvs ∧ ∀ p H2, H p = none → H2 p = some (.dK (mergeK [] kvs)) → Ext T No H H2 → Q (.ref p) H2
theorem call_dictPN (hcalm : X.calm = true) : CallR X (.type "dict") (rDictPN T X.K) := by
  intro pins s σ H xs us Q I r ⟨a, ps, kvs, e, h1, h2, q⟩
  exact call_dictP hcalm pins s σ H xs us Q I r ⟨a, ps, kvs, e, h1, h2, fun p hp => q p _ hp upd_same (Ext.new hp)⟩
def rSortDN (T : Tb) : List V → Hp → VK → Prop := fun xs H Q => ∃ (a : Addr) (kvs : List (Key × V)) (ks : List Int), xs = [.ref a] ∧ H a = some (.dK kvs) ∧ kvs.map (·.1) = ks.map Sum.inl ∧ ks.length < 64 ∧
    ∀ (ys : List Int) (p : Addr) (H2 : Hp), ys.Perm ks → ys.Pairwise (· ≤ ·) → H p = none → H2 p = some (.lst (ys.map V.int)) → Ext T No H H2 → Q (.ref p) H2
theorem call_sortDN (hcalm : X.calm = true) : CallR X (.builtin "sorted") (rSortDN T) := by
  intro pins s σ H xs us Q I r ⟨a, kvs, ks, e, h1, h2, h3, q⟩
  exact call_sortedDI hcalm pins s σ H xs us Q I r ⟨a, kvs, ks, e, .inl h1, h2, h3, fun ys p g1 g2 hp => q ys p _ g1 g2 hp upd_same (Ext.new hp)⟩
/-! ### xs.count(b) of a list of bools -/
def eqb (b : Bool) : Value → Bool := fun v => match v with
  | .bool c => c == b
  | _ => false
theorem bls_of : ∀ {bs : List Bool} {us : List Value}, Vals (bs.map V.bl) us → us = bs.map Value.bool
  | [], _, .nil => rfl
  | b :: bs, _, .cons r t => by
    cases r
    rw [bls_of t]
    rfl
def rCntB (K : PySem.W.Frag) : V → List V → Hp → VK → Prop := fun x xs H Q => ∃ (p : Addr) (bs : List Bool) (b : Bool), x = .ref p ∧ xs = [.bl b] ∧ SqL K H p (bs.map V.bl) ∧ Q (.int (bs.count b : Nat)) H
theorem mt_countB : MtR X "list.count" (rCntB X.K) := by
  intro pins s σ H x xs v us Q I rx rxs h
  obtain ⟨p, bs, b, rfl, rfl, hs, q⟩ := h
  cases rx
  obtain ⟨u, rfl, ru⟩ := rxs.one
  cases ru
  obtain ⟨its, rv, ⟨⟨cls, dd, data, sl⟩, n, ho, hc, hdn, hd⟩, hlen⟩ := I.list hs
  simp only at hc hd
  subst hc hd
  have hi := bls_of rv
  refine call_meets PySem.F.slot_list_count ⟨_, ho, rfl⟩ PySem.F.entry_list_count (PySem.F.args_list_count_2 _ _)
    (SeqAt.list_countAt p its.toArray n dd sl (.bool b) (eqb b)) ⟨ho, fun y hy => ?_, ?_⟩
  · have hy : y ∈ its := by simpa using hy
    rw [hi] at hy
    obtain ⟨c, _, rfl⟩ := List.mem_map.mp hy
    exact SeqAt.EqAt.bool_bool c b
  · have ec : its.toArray.toList.countP (eqb b) = bs.count b := by
      show its.countP (eqb b) = _
      rw [hi, List.countP_map]
      rfl
    refine ⟨.int (bs.count b : Nat), H, I.tok _, ⟨s.toks, ?_⟩, q⟩
    show Value.int ((its.toArray.toList.countP (eqb b) : Nat) : Int) s.toks = Value.int ((bs.count b : Nat) : Int) s.toks
    rw [ec]
end
/-! ### the turns of a generator expression over a list, a tuple, a zip -/
section
variable {K : PySem.W.Frag} {a : Addr} {xs : List V} {g : TG} {te : TE} {vs : List Nat} {σ : L2.St} {Cn : MG.CnT} {Qe : List V → Hp → Prop}
theorem turns_tup (Pv : Nat → List V → Hp → Prop) (hl : ∀ i ys H, i ≤ xs.length → Pv i ys H → SqT K H a xs)
    (hs : ∀ i ys x H, xs[i]? = some x → Pv i ys H → g x (wipe σ vs) H fun σ2 H3 => wipe σ2 vs = wipe σ vs ∧ te σ2 H3 fun y H4 => Cn ys y H4 (∃ m', m' < xs.length - i ∧ m' = xs.length - (i + 1) ∧ i + 1 ≤ xs.length ∧ Pv (i + 1) (ys ++ [y]) H4))
    (hd : ∀ ys H, Pv xs.length ys H → Qe ys H) : MG.Turns (Itt K a) g te vs σ Cn Qe (fun i m ys H => m = xs.length - i ∧ i ≤ xs.length ∧ Pv i ys H) := by
  rintro i m ys H ⟨rfl, hi, p⟩
  have q := hl i ys H hi p
  by_cases hlt : i < xs.length
  · refine .inr ⟨⟨xs, xs[i], q, by simp [hlt]⟩, by omega, ?_⟩
    rintro x H' ⟨rfl, y⟩
    exact hs i ys x H' (y xs q) p
  · have e : i = xs.length := by omega
    subst e
    exact .inl ⟨⟨xs, q, Nat.le_refl _⟩, hd ys H p⟩
theorem turns_list (Pv : Nat → List V → Hp → Prop) (hl : ∀ i ys H, i ≤ xs.length → Pv i ys H → SqL K H a xs)
    (hs : ∀ i ys x H, xs[i]? = some x → Pv i ys H → g x (wipe σ vs) H fun σ2 H3 => wipe σ2 vs = wipe σ vs ∧ te σ2 H3 fun y H4 => Cn ys y H4 (∃ m', m' < xs.length - i ∧ m' = xs.length - (i + 1) ∧ i + 1 ≤ xs.length ∧ Pv (i + 1) (ys ++ [y]) H4))
    (hd : ∀ ys H, Pv xs.length ys H → Qe ys H) : MG.Turns (Itl K a) g te vs σ Cn Qe (fun i m ys H => m = xs.length - i ∧ i ≤ xs.length ∧ Pv i ys H) := by
  rintro i m ys H ⟨rfl, hi, p⟩
  have q := hl i ys H hi p
  by_cases hlt : i < xs.length
  · refine .inr ⟨⟨xs, xs[i], q, by simp [hlt]⟩, by omega, ?_⟩
    rintro x H' ⟨rfl, y⟩
    exact hs i ys x H' (y xs q) p
  · have e : i = xs.length := by omega
    subst e
    exact .inl ⟨⟨xs, q, Nat.le_refl _⟩, hd ys H p⟩
theorem turns_zipT {b : Addr} {zs : List V} (Pv : Nat → List V → Hp → Prop) (hn : zs.length ≤ xs.length) (hl : ∀ i ys H, i ≤ zs.length → Pv i ys H → SqT K H a xs ∧ SqT K H b zs)
    (hs : ∀ i ys x z t H, xs[i]? = some x → zs[i]? = some z → Pv i ys H → H t = none → g (.ref t) (wipe σ vs) (upd H t (.tup [x, z])) fun σ2 H3 => wipe σ2 vs = wipe σ vs ∧ te σ2 H3 fun y H4 => Cn ys y H4 (∃ m', m' < zs.length - i ∧ m' = zs.length - (i + 1) ∧ i + 1 ≤ zs.length ∧ Pv (i + 1) (ys ++ [y]) H4))
    (hd : ∀ ys H, Pv zs.length ys H → Qe ys H) : MG.Turns (RZ.ItzT K a b) g te vs σ Cn Qe (fun i m ys H => m = zs.length - i ∧ i ≤ zs.length ∧ Pv i ys H) := by
  rintro i m ys H ⟨rfl, hi, p⟩
  obtain ⟨q1, q2⟩ := hl i ys H hi p
  by_cases hlt : i < zs.length
  · have hlt2 : i < xs.length := by omega
    refine .inr ⟨⟨xs, zs, xs[i], zs[i], q1, q2, by simp [hlt2], by simp [hlt]⟩, by omega, ?_⟩
    rintro x H' ⟨t, x, z, rfl, ht, rfl, y1, y2⟩
    exact hs i ys x z t H (y1 xs q1) (y2 zs q2) p ht
  · have e : i = zs.length := by omega
    subst e
    exact .inl ⟨⟨xs, zs, q1, q2, .inr (Nat.le_refl _)⟩, hd ys H p⟩
end
end MB
namespace MB
open PySem PySem.Spec PyProof.Rows L2
/-! ### the same rules, K by name -/
section
variable {X : Cx} {K : PySem.W.Frag}
theorem ix_tupK (h : X.K = K) : IxR X (rIxT K) := by subst h; exact ix_tup
theorem ix_listK (h : X.K = K) : IxR X (rIxL K) := by subst h; exact ix_list
theorem pe_fldK {e : Expr} {f : Str} {pos : Pos} {ta : TE} (h : X.K = K) (he : PE X e ta) (hb : attributeBase e f X.env (eval e X.env) = eval e X.env) : PE X (.Attribute e f pos) (tFld K ta f) := by subst h; exact pe_fld he hb
theorem pg_tupK {es : List Expr} {k : Nat} {pos : Pos} {t : TGs} {n : Nat} (h : X.K = K) (hc : X.calm = true) (ht : PGs X es t)
    (hn : (assignEach es X.env).length = n := by rfl) (hst : (assignEach es X.env).findIdx? (·.1) = none := by rfl) : PG X (.Tuple es k pos) (gTup K n t) := by subst h; exact pg_tup hc ht hn hst
def rLenS (K : PySem.W.Frag) : List V → Hp → VK → Prop := fun xs H Q => ∃ p ys, xs = [.ref p] ∧ (SqL K H p ys ∨ SqT K H p ys) ∧ Q (.int ys.length) H
theorem call_lenK (h : X.K = K) : CallR X (.builtin "len") (rLenS K) := by subst h; exact call_len_seq
theorem op_eqDK (h : X.K = K) (hu : X.A.units + 64 < cLine) : OpR X (compareOp .Eq) (rEqD K) := by subst h; exact op_eqD hu
theorem op_neDK (h : X.K = K) (hu : X.A.units + 64 < cLine) : OpR X (compareOp .NotEq) (rNeD K) := by subst h; exact op_neD hu
theorem cr_sumK (h : X.K = K) (hc : X.calm = true) : CallR X (.builtin "sum") (rSum K) := by subst h; exact cr_sum hc
theorem mt_countBK (h : X.K = K) : MtR X "list.count" (rCntB K) := by subst h; exact mt_countB
theorem sl_listNK {T : Tb} (h : X.K = K) : SlR X (rSlLN T K) := by subst h; exact sl_listN
theorem sl_tupAK (h : X.K = K) : SlR X (rSlA K) := by subst h; exact sl_tupA
theorem pi_seqK {tg l : Expr} {tl : TE} (h : X.K = K) (hl : PE X l tl) : PI X tg l (iSeq K tl) := by subst h; exact pi_seq hl
theorem pi_listK {tg l : Expr} {tl : TE} (h : X.K = K) (hl : PE X l tl) : PI X tg l (iList K tl) := by subst h; exact pi_list hl
theorem pi_tupK {tg l : Expr} {tl : TE} (h : X.K = K) (hl : PE X l tl) : PI X tg l (iTup K tl) := by subst h; exact pi_tup hl
theorem call_dictPK {T : Tb} (h : X.K = K) (hcalm : X.calm = true) : CallR X (.type "dict") (rDictPN T K) := by subst h; exact call_dictPN hcalm
theorem pe_bmK {T : String} {id : String} {name : Str} {o e : Expr} {es : List Expr} {apos cpos : Pos} {to : TE} {t : TA} {r : V → List V → Hp → VK → Prop} (h : X.K = K) (pa : PlainAttrs T) (slot : Slot T name id) (hty : typeOf (.builtin id) = pure (.type "method_descriptor")) (hm : MtR X id r) (ho : PE X o to) (ha : PA X (e :: es) t)
    (hbase : attributeBase o name X.env (eval o X.env) = eval o X.env := by rfl)
    (hfew : ((backTo cpos (starEach (e :: es) X.env)).all (fun x => !x.1) && (backToKw cpos (keywordEach [] X.env)).all (fun x => x.1.isSome)
      && decide ((e :: es).length + ([] : List Keyword).length + (if ([] : List Keyword).isEmpty then 0 else 1) < 30)) = true := by rfl)
    (hline : (apos.endLine == cpos.line) = true := by rfl)
    (he : starEach (e :: es) X.env = (false, eval e X.env) :: starEach es X.env := by rfl) (hpl : (backTo cpos (starEach es X.env)).any (·.1) = false := by rfl) :
    PE X (.Call (.Attribute o name apos) (e :: es) [] cpos) (tBM K T r to t) := by
  subst h
  exact pe_bm pa slot hty hm ho ha hbase hfew hline he hpl
end
end MB
namespace MB
open PySem PySem.Spec PyProof.Rows L2
section
variable {T : Tb} {M : Addr → Prop} {H H0 H1 : Hp}
theorem upd_ins {p a C dx : Addr} {fs : List (Str × V)} {o x : HO} (hp : H p = some (.ins C dx fs)) (h : H a = some x) (n : ∀ fs, x ≠ .ins C dx fs) : upd H p o a = some x := by
  rw [upd_ne fun z => by subst z; rw [hp] at h; exact n fs (Option.some.inj h).symm]
  exact h
/-- an attribute of a new object written -/
theorem Ext.fld {x C dx : Addr} {fs fs' : List (Str × V)} (e : Ext T M H0 H) (h0 : H0 x = none) (hx : H x = some (.ins C dx fs)) : Ext T M H0 (upd H x (.ins C dx fs')) := by
  have ne : ∀ {b o}, H0 b = some o → b ≠ x := fun h z => by rw [z, h0] at h; cases h
  refine ⟨fun b o h n => (upd_ne (ne h)).trans (e.fix b o h n), fun b o h n => (upd_ne (ne h)).trans (e.lst b o h n), fun b o h n => (upd_ne (ne h)).trans (e.dk b o h n), fun b o u h => (upd_ne (ne h)).trans (e.frz b o u h), fun g => ?_⟩
  have g := e.gd g
  refine ⟨fun q hq => ?_, fun q hq => ?_⟩
  · obtain ⟨ps, e, t⟩ := g.1 q hq
    exact ⟨ps, upd_ins hx e fun ys z => (nomatch z), t⟩
  · obtain ⟨ps, e, t, h3⟩ := g.2 q hq
    refine ⟨ps, upd_ins hx e fun ys z => (nomatch z), t, fun pos cv hc => ?_⟩
    obtain ⟨c, e1, e2⟩ := h3 pos cv hc
    exact ⟨c, e1, upd_ins hx e2 fun ys z => (by unfold LamX.CodeO at z; cases z)⟩
end
theorem sIx1 {n : Nat} (h : 1 ≤ n) : HT.sIx n 0 (some 1) = 1 := by
  unfold HT.sIx
  simp
  omega
def rSlTN (T : Tb) (K : PySem.W.Frag) : V → Option Int → Option Int → Hp → VK → Prop := fun x lo hi H Q => ∃ a xs, x = .ref a ∧ SqT K H a xs ∧ 1 ≤ xs.length ∧ lo = some 1 ∧ hi = none ∧ ∀ p H2, H p = none → H2 p = some (.tup (xs.drop 1)) → Ext T No H H2 → Q (.ref p) H2
theorem sl_tup1 {X : Cx} {T : Tb} {K : PySem.W.Frag} (hK : X.K = K) : SlR X (rSlTN T K) := by
  subst hK
  intro pins s σ H x v vl vu lo hi sl Q I rx hs pl pu ⟨a, xs, e, h, hl, e1, e2, q⟩
  subst e1 e2
  have hc : cutV xs (some 1) none = xs.drop 1 := by
    unfold cutV
    rw [sIx1 hl]
    unfold HT.sIx
    rw [List.take_of_length_le (by simp)]
  refine sl_tup pins s σ H x v vl vu _ _ sl Q I rx hs pl pu ⟨a, xs, e, h, fun z => ?_, fun p hp => ?_⟩
  · have := z.1
    rw [sIx1 hl] at this
    omega
  · rw [hc]
    exact q p _ hp upd_same (Ext.new hp)
end MB
namespace MB
theorem ifBr {c : Bool} {A B : Prop} (h0 : c = false → B) (h1 : c = true → A) : if c = true then A else B := ifB h1 h0
end MB
namespace MB
open PySem PySem.Spec PyProof.Rows L2
def rSetN (T : Tb) : V → V → V → Hp → (Hp → Prop) → Prop := fun o i v H Q => ∃ p xs k j, o = .ref p ∧ i = .int k ∧ H p = some (.lst xs) ∧ ixN xs.length k = some j ∧ ∀ H2, H2 p = some (.lst (xs.set j v)) → Ext T (· = p) H H2 → Q H2
theorem set_listN {X : Cx} {T : Tb} : PSet X (rSetN T) := by
  intro pins s σ H o i v ov iv u Q I r1 r2 r3 ⟨p, xs, k, j, e1, e2, h, hj, q⟩
  exact set_list pins s σ H o i v ov iv u Q I r1 r2 r3 ⟨p, xs, k, j, e1, e2, h, hj, q _ upd_same (Ext.set h rfl)⟩
theorem putK_int {kvs : List (Key × V)} {ks : List Int} (h : kvs.map (·.1) = ks.map Sum.inl) (nd : ks.Nodup) (k : Int) (v : V) :
    ∃ ks' : List Int, (putK kvs (.inl k) v).map (·.1) = ks'.map Sum.inl ∧ ks'.Nodup ∧ (∀ x, x ∈ ks' ↔ x ∈ ks ∨ x = k) ∧ ks'.length ≤ ks.length + 1 := by
  unfold putK
  by_cases hk : k ∈ ks
  · have ha : (kvs.any fun kv => decide (kv.1 = (Sum.inl k : Key))) = true := by
      have : (Sum.inl k : Key) ∈ kvs.map (·.1) := by rw [h]; exact List.mem_map.mpr ⟨k, hk, rfl⟩
      obtain ⟨kv, h1, h2⟩ := List.mem_map.mp this
      exact List.any_eq_true.mpr ⟨kv, h1, by simpa using h2⟩
    rw [if_pos ha]
    refine ⟨ks, ?_, nd, fun x => ⟨.inl, fun z => z.elim id fun e => by rw [e]; exact hk⟩, Nat.le_succ _⟩
    rw [← h, List.map_map]
    refine List.map_congr_left fun kv _ => ?_
    show (if kv.1 = Sum.inl k then (kv.1, v) else kv).1 = kv.1
    split <;> rfl
  · have ha : ¬ (kvs.any fun kv => decide (kv.1 = (Sum.inl k : Key))) = true := fun z => by
      obtain ⟨kv, h1, h2⟩ := List.any_eq_true.mp z
      have : (Sum.inl k : Key) ∈ ks.map Sum.inl := by rw [← h]; exact List.mem_map.mpr ⟨kv, h1, by simpa using h2⟩
      obtain ⟨x, h3, h4⟩ := List.mem_map.mp this
      have h5 : x = k := Sum.inl.inj h4
      subst h5
      exact hk h3
    rw [if_neg ha]
    refine ⟨ks ++ [k], by simp [h], ?_, fun x => by simp, by simp⟩
    rw [List.nodup_append]
    refine ⟨nd, by simp, ?_⟩
    intro a h1 b h2 e
    simp at h2
    subst h2
    subst e
    exact hk h1
theorem mergeK_ints : ∀ (more : List (Int × V)) (kvs : List (Key × V)) (ks : List Int), kvs.map (·.1) = ks.map Sum.inl → ks.Nodup →
    ∃ ks' : List Int, (mergeK kvs (more.map fun p => (Sum.inl p.1, p.2))).map (·.1) = ks'.map Sum.inl ∧ ks'.Nodup ∧ (∀ x, x ∈ ks' ↔ x ∈ ks ∨ x ∈ more.map (·.1)) ∧ ks'.length ≤ ks.length + more.length
  | [], kvs, ks, h, nd => ⟨ks, h, nd, fun x => by simp, Nat.le_add_right _ _⟩
  | p :: more, kvs, ks, h, nd => by
    obtain ⟨k1, a1, a2, a3, a4⟩ := putK_int h nd p.1 p.2
    obtain ⟨k2, b1, b2, b3, b4⟩ := mergeK_ints more _ k1 a1 a2
    refine ⟨k2, b1, b2, fun x => ?_, ?_⟩
    · rw [b3, a3]
      simp only [List.map_cons, List.mem_cons]
      exact or_assoc
    · simp only [List.length_cons]
      omega
/-- a list, but for a list that is written -/
def DiceAt (H : Hp) (p : Addr) : Prop := ∃ c n m : Int, H p = some (.lst [.int c, .int n, .int m])
theorem DiceAt.ext {T : Tb} {M : Addr → Prop} {H H' : Hp} {p : Addr} (h : DiceAt H p) (e : Ext T M H H') (n : ¬ M p) : DiceAt H' p := by
  obtain ⟨c, a, m, h⟩ := h
  exact ⟨c, a, m, e.lst _ _ h n⟩
theorem SqL.ext {K : PySem.W.Frag} {T : Tb} {M : Addr → Prop} {H H' : Hp} {a : Addr} {xs : List V} (h : SqL K H a xs) (e : Ext T M H H') (n : ¬ M a) : SqL K H' a xs := by
  rcases h with (h | ⟨o, h⟩) | h
  · exact .inl (.inl (e.lst _ _ h n))
  · exact .inl (.inr ⟨o, e.frz _ _ _ h⟩)
  · exact .inr h
theorem SqT.ext {K : PySem.W.Frag} {T : Tb} {M : Addr → Prop} {H H' : Hp} {a : Addr} {xs : List V} (h : SqT K H a xs) (e : Ext T M H H') : SqT K H' a xs := by
  rcases h with (h | ⟨o, h⟩) | h
  · exact .inl (.inl (e.fix _ _ h rfl))
  · exact .inl (.inr ⟨o, e.frz _ _ _ h⟩)
  · exact .inr h
end MB
namespace MB
open PySem PySem.Spec PyProof.Rows L2
theorem paired_get {α β : Type} {F : α → β → Prop} : ∀ {xs : List α} {ys : List β}, xs.length = ys.length → (∀ (i : Nat) (x : α) (y : β), xs[i]? = some x → ys[i]? = some y → F x y) → Paired F xs ys
  | [], [], _, _ => .nil
  | x :: xs, d :: ds, hl, h => .cons (h 0 x d rfl rfl) (paired_get (by simpa using hl) fun i y e h1 h2 => h (i + 1) y e (by simpa using h1) (by simpa using h2))
  | [], _ :: _, hl, _ => by simp at hl
  | _ :: _, [], hl, _ => by simp at hl
/-- numbers of 1 to 12, ascending -/
theorem ROk.of12 {rs : MM.Rules} {ys : List Int} (e : rs.map (fun r => ((r.1 : Nat) : Int)) = ys) (h0 : 0 < ys.length) (h4 : ys.length ≤ 4) (hr : ∀ y ∈ ys, 1 ≤ y ∧ y ≤ 12) (hs : ys.Pairwise (· < ·)) : ROk rs ∧ ∀ r ∈ rs, r.1 ≤ 12 := by
  have hl : rs.length = ys.length := by rw [← e, List.length_map]
  have rg : ∀ r ∈ rs, 1 ≤ r.1 ∧ r.1 ≤ 12 := fun r h => by
    have := hr ((r.1 : Nat) : Int) (by rw [← e]; exact List.mem_map.mpr ⟨r, h, rfl⟩)
    omega
  refine ⟨⟨by omega, by omega, fun r h => ⟨(rg r h).1, by have := (rg r h).2; omega⟩, fun i a b h1 h2 => ?_, ?_⟩, fun r h => (rg r h).2⟩
  · have g1 : ys[i]? = some ((a.1 : Nat) : Int) := by rw [← e, List.getElem?_map, h1]; rfl
    have g2 : ys[i + 1]? = some ((b.1 : Nat) : Int) := by rw [← e, List.getElem?_map, h2]; rfl
    obtain ⟨k1, e1⟩ := List.getElem?_eq_some_iff.mp g1
    obtain ⟨k2, e2⟩ := List.getElem?_eq_some_iff.mp g2
    have := List.pairwise_iff_getElem.mp hs i (i + 1) k1 k2 (Nat.lt_succ_self i)
    omega
  · have hd : MM.lcmA rs ∣ 27720 := (MM.lcmA_dvd rs _).mpr fun r h => by
      have h1 := (rg r h).1
      have h2 := (rg r h).2
      have h3 : ∀ k : Nat, k < 13 → 1 ≤ k → k ∣ 27720 := by decide
      exact h3 r.1 (by omega) h1
    have := Nat.le_of_dvd (by decide) hd
    omega
theorem lt_of_le_nodup {ys : List Int} (h : ys.Pairwise (· ≤ ·)) (n : ys.Nodup) : ys.Pairwise (· < ·) := by
  have := List.Pairwise.and h n
  exact this.imp fun ⟨a, b⟩ => by omega
end MB
namespace MB
open PySem PySem.Spec PyProof.Rows L2
theorem count_range (p : Nat → Bool) : ∀ n, ((List.range n).map p).count true = MM.cn p n
  | 0 => rfl
  | n + 1 => by
    rw [List.range_succ, List.map_append, List.count_append, count_range p n]
    show _ = MM.cn p n + _
    congr 1
    cases h : p n <;> simp [h]
theorem cutTo (xs : List V) (n : Nat) : cutV xs none (some (n : Int)) = xs.take n := by
  unfold cutV
  rw [HT.sIx_none, HT.sIx_nat, List.drop_zero, Nat.sub_zero]
  by_cases h : n ≤ xs.length
  · rw [Nat.min_eq_left h]
  · rw [Nat.min_eq_right (by omega), List.take_of_length_le (Nat.le_refl _), List.take_of_length_le (by omega)]
theorem cutFrom (xs : List V) (n : Nat) : cutV xs (some (n : Int)) none = xs.drop n := by
  unfold cutV
  rw [HT.sIx_none, HT.sIx_nat, List.take_of_length_le (by simp)]
  by_cases h : n ≤ xs.length
  · rw [Nat.min_eq_left h]
  · rw [Nat.min_eq_right (by omega), List.drop_length, List.drop_eq_nil_of_le (by omega)]
section
variable {K : PySem.W.Frag} {H : Hp}
theorem dpBls {D : Addr} {bs : List Bool} (h : H D = some (.lst (bs.map V.bl))) : Dp K H (.ref D) (.list (bs.map PyData.bool)) := .lst (SqL.of h) (dpAll_of fun b _ => .bl b)
theorem dpInts {D : Addr} {ns : List Int} (h : H D = some (.lst (ns.map V.int))) : Dp K H (.ref D) (.list (ns.map PyData.int)) := .lst (SqL.of h) (dpAll_of fun b _ => .int b)
theorem dpOnes {D : Addr} {m : Nat} (h : H D = some (.lst (List.replicate m (.int 1)))) : Dp K H (.ref D) (.list (List.replicate m (.int 1))) := by
  have := dpInts (K := K) (H := H) (D := D) (ns := List.replicate m 1) (by rw [List.map_replicate]; exact h)
  rw [List.map_replicate] at this
  exact this
end
theorem shBls (bs : List Bool) : SeqAt.shaped (.list (bs.map PyData.bool)) = true := (ShK.lst (k := 0) fun d hd => by
  obtain ⟨b, _, rfl⟩ := List.mem_map.mp hd
  exact ShK.bl _ _).ok
theorem shInts (bs : List Int) : SeqAt.shaped (.list (bs.map PyData.int)) = true := (ShK.lst (k := 0) fun d hd => by
  obtain ⟨b, _, rfl⟩ := List.mem_map.mp hd
  exact ShK.int _ _).ok
theorem shOnes (m : Nat) : SeqAt.shaped (.list (List.replicate m (.int 1))) = true := by
  have := shInts (List.replicate m 1)
  rw [List.map_replicate] at this
  exact this
theorem eqOnes (m : Nat) : PyData.eqv (.list (List.replicate m (.int 1))) (.list []) = decide (m = 0) := by
  cases m <;> rfl
theorem eqBls (bs cs : List Bool) : PyData.eqv (.list (bs.map PyData.bool)) (.list (cs.map PyData.bool)) = decide (bs = cs) := eqvAll_map eqv_bl bs cs
theorem eqInts (bs cs : List Int) : PyData.eqv (.list (bs.map PyData.int)) (.list (cs.map PyData.int)) = decide (bs = cs) := eqvAll_map eqv_int bs cs
end MB
namespace MB
open PySem PySem.Spec PyProof.Rows L2
/-- a lambda made: all but its maker's table stays -/
theorem Ext.lamM {T : Tb} {M : Addr → Prop} {H H1 : Hp} {P : Addr} (ok : ∀ p ∈ T.gen, p ≠ P) (h : LamX.ExtN H H1) (hP : ∀ b o, H b = some o → b ≠ P → H1 b = some o) (hL : LamX.Tabs T.lam H1) : Ext T M H H1 :=
  Ext.lamN h (fun p hp ps e => hP p _ e (ok p hp)) hL
end MB
namespace MB
open PySem PySem.Spec PyProof.Rows L2
def rListN (T : Tb) (K : PySem.W.Frag) : List V → Hp → VK → Prop := fun xs H Q => ∃ p ys, xs = [.ref p] ∧ (SqL K H p ys ∨ SqT K H p ys) ∧ ∀ l H2, H l = none → H2 l = some (.lst ys) → Ext T No H H2 → Q (.ref l) H2
theorem call_listN {X : Cx} {T : Tb} {K : PySem.W.Frag} (h : X.K = K) : CallR X (.type "list") (rListN T K) := by
  subst h
  intro pins s σ H xs us Q I r ⟨p, ys, e, h1, q⟩
  exact call_list_of pins s σ H xs us Q I r ⟨p, ys, e, h1, fun l hl => q l _ hl upd_same (Ext.new hl)⟩
def rCatN (T : Tb) : R2 := fun x y H Q => ∃ l b xs zs, x = .ref l ∧ y = .ref b ∧ H l = some (.lst xs) ∧ H b = some (.lst zs) ∧ xs.length + zs.length ≤ sizeLine ∧ ∀ p H2, H p = none → H2 p = some (.lst (xs ++ zs)) → Ext T No H H2 → Q (.ref p) H2
theorem op_catN {X : Cx} {T : Tb} : OpR X (binaryOp .Add) (rCatN T) := by
  intro pins s σ H x y v u Q I rx ry ⟨l, b, xs, zs, e1, e2, h1, h2, hz, q⟩
  exact op_cat pins s σ H x y v u Q I rx ry ⟨l, b, xs, zs, e1, e2, h1, h2, hz, fun p hp => q p _ hp upd_same (Ext.new hp)⟩
end MB

set_option Elab.async false
set_option linter.all false
set_option maxRecDepth 100000
set_option maxHeartbeats 2000000
/-! min of a list of data. -/
namespace MB
open PySem PySem.Spec PyProof.Rows L2
/-- min(xs): an item whose data are the first least -/
def rMinD (K : PySem.W.Frag) : List V → Hp → VK → Prop := fun vs H Q => ∃ (a : Addr) (ys : List V) (x : PyData) (xs : List PyData), vs = [.ref a] ∧ SqL K H a ys ∧ DpAll K H ys (x :: xs) ∧ PySem.W.AlikeAll (x :: xs) ∧ PyData.canLayAll0 (x :: xs) = true ∧ PyData.depthAll (x :: xs) ≤ 32 ∧
  ∀ (i : Nat) (y : V), ys[i]? = some y → (x :: xs)[i]? = some (PySem.W.minD x xs) → Q y H
theorem cr_minD {X : Cx} {K : PySem.W.Frag} (hK : X.K = K) (hc : X.calm = true) (hu : X.A.units + 64 < cLine) : CallR X (.builtin "min") (rMinD K) := by
  subst hK
  intro pins s σ H vs us Q I r h
  obtain ⟨a, ys, x, xs, rfl, hs, hd, ha, hlay, hdp, q⟩ := h
  obtain ⟨its, rv, hl, _⟩ := I.list hs
  rw [Vals.ref1 r]
  obtain ⟨as, hr⟩ := Dp.readsAll I (x :: xs) ys its hd rv
  refine PySem.W.min_list_data (I.ok.hd hc) hl.isList (show ReadsAll s.heap its.toArray.toList (x :: xs) as from hr) ha (by omega) fun i v h' tk bs hv rd hk => ?_
  have hv' : its[i]? = some v := by simpa using hv
  obtain ⟨cs, r1, hlt, _, _⟩ := PySem.W.readsAll_at hr i v hv'
  have r2 := PySem.W.reads_keeps hk r1
  have e := (PySem.Reads.unique r2 _ _ rd).1
  have hi : i < ys.length := by rw [rv.length]; exact (List.getElem?_eq_some_iff.mp hv').1
  have hy : ys[i]? = some ys[i] := List.getElem?_eq_getElem hi
  obtain ⟨u, hu1, hu2⟩ := rv.get hy
  rw [hv'] at hu1
  cases hu1
  refine ⟨ys[i], H, I.kept hk, hu2, q i _ hy ?_⟩
  rw [← e, List.getD_eq_getElem?_getD, List.getElem?_eq_getElem hlt]
  rfl
/-- any(..) over a list or a tuple: Good i holds ahead of turn i; B: what follows a turn -/
theorem anyG_seq {T : Tb} (tk : TOk T) {P q : Addr} (hP : P ∈ T.gen) {K : PySem.W.Frag} {xs : List V} {g : TG} {te : TE} {vs : List Nat} {σ : L2.St} {H : Hp} {Q : VK} {i0 : Nat} (hσ : σ[i0]? = some (some (.ref q))) (hq : SqL K H q xs ∨ SqT K H q xs) (hg : GxR.TabG H P)
    (Good : Nat → Prop) (h0 : Good 0)
    (hs : ∀ i x H' (B : Hp → Prop), xs[i]? = some x → Ext T No H H' → Good i → (∀ H4, Ext T No H H4 → Good (i + 1) → B H4) → g x (wipe σ vs) H' fun σ2 H3 => wipe σ2 vs = wipe σ vs ∧ te σ2 H3 fun y H4 => ∃ b, y = .bl b ∧ if b = true then Q (.bl true) H4 else B H4)
    (hd : ∀ H', Ext T No H H' → Good xs.length → Q (.bl false) H') : MG.tAnyG P (iSeq K (tVar i0)) g te vs σ H Q := by
  refine ⟨.ref q, hσ, q, rfl, ?_⟩
  refine hq.elim (fun hq => .inl ⟨⟨_, hq⟩, hg, fun H2 ht => ⟨_, ⟨_, rfl, Nat.zero_le _, ⟨Ext.tab tk hP hg ht, h0⟩⟩, turns_list (xs := xs) (fun i ys H' => Ext T No H H' ∧ Good i) (fun i ys H' _ ⟨e, _⟩ => SqL.ext hq e id) ?_ ?_⟩⟩)
    (fun hq => .inr ⟨⟨_, hq⟩, hg, fun H2 ht => ⟨_, ⟨_, rfl, Nat.zero_le _, ⟨Ext.tab tk hP hg ht, h0⟩⟩, turns_tup (xs := xs) (fun i ys H' => Ext T No H H' ∧ Good i) (fun i ys H' _ ⟨e, _⟩ => SqT.ext hq e) ?_ ?_⟩⟩)
  all_goals first
    | (rintro i ys x H' hx ⟨e, gd⟩
       have hi := (List.getElem?_eq_some_iff.mp hx).1
       exact hs i x H' (fun H4 => ∃ m', m' < xs.length - i ∧ m' = xs.length - (i + 1) ∧ i + 1 ≤ xs.length ∧ Ext T No H H4 ∧ Good (i + 1)) hx e gd fun H4 e4 g4 => ⟨_, by omega, rfl, hi, e4, g4⟩)
    | (rintro ys H' ⟨e, gd⟩
       exact hd H' e gd)
/-- for x in xs, xs a list or a tuple -/
theorem for_seq {T : Tb} {q : Addr} {K : PySem.W.Frag} {xs : List V} {g : TG} {tb : TS} {D : Ends} {σ : L2.St} {H : Hp} {i0 : Nat} (hσ : σ[i0]? = some (some (.ref q))) (hq : SqL K H q xs ∨ SqT K H q xs) (Pv : Nat → L2.St → Hp → Prop) (hE : ∀ i σ' H', Pv i σ' H' → Ext T No H H') (h0 : Pv 0 σ H)
    (hs : ∀ i x σ' H', xs[i]? = some x → Pv i σ' H' → g x σ' H' fun σ2 H2 => tb { D with nx := Pv (i + 1), ct := Pv (i + 1), bk := D.nx } σ2 H2) (hd : ∀ σ' H', Pv xs.length σ' H' → D.nx σ' H') : tFor (iSeq K (tVar i0)) g tb D σ H :=
  ⟨.ref q, hσ, q, rfl, hq.elim (fun hq => .inl ⟨⟨_, hq⟩, for_list Pv h0 (fun i σ' H' _ p => SqL.ext hq (hE i σ' H' p) id) hs hd⟩) (fun hq => .inr ⟨⟨_, hq⟩, for_tup Pv h0 (fun i σ' H' _ p => SqT.ext hq (hE i σ' H' p)) hs hd⟩)⟩
end MB

set_option Elab.async false
set_option linter.all false
set_option maxRecDepth 100000
set_option maxHeartbeats 2000000
/-! zip of two lists or tuples, mixed; rows of three whole numbers. -/
namespace MB
open PySem PySem.Spec PyProof.Rows L2
/-- a list (true) or a tuple (false) -/
def SqB (K : PySem.W.Frag) : Bool → Hp → Addr → List V → Prop
  | true => SqL K
  | false => SqT K
def IsSq : Bool → Heap → Addr → Array Value → Prop
  | true => fun h a its => h.IsList a its
  | false => fun h a its => h.IsTuple a its
def IsIt : Bool → Heap → Addr → Addr → Nat → Prop
  | true => fun h it a i => h.IsListIter it a i
  | false => fun h it a i => h.IsTupleIter it a i
theorem SqB.ext {K : PySem.W.Frag} {T : Tb} {H H' : Hp} {b : Bool} {a : Addr} {xs : List V} (h : SqB K b H a xs) (e : Ext T No H H') : SqB K b H' a xs := by
  cases b with
  | true => exact SqL.ext h e id
  | false => exact SqT.ext h e
theorem SqB.of {K : PySem.W.Frag} {H : Hp} {a : Addr} {xs : List V} (h : SqL K H a xs ∨ SqT K H a xs) : ∃ b, SqB K b H a xs := h.elim (fun h => ⟨true, h⟩) fun h => ⟨false, h⟩
theorem draws_sq {prog : Program} {w : World} {A : Around} (hh : A.handled = none) (b : Bool) (it l : Addr) (hne : l ≠ it) (items : Array Value) :
    Draws prog w A it [it, l] items.size (fun i v => items[i]? = some v) (fun i h => IsIt b h it l i ∧ IsSq b h l items) := by
  cases b with
  | true => exact Draws.list hh it l hne items
  | false => exact Draws.tuple hh it l hne items
section
variable {X : Cx} {pins : List (Addr × Obj)} {σ : L2.St} {H : Hp} {s : Shared} {b : Bool} {a : Addr} {xs ys : List V}
theorem inv_sq (I : Inv X pins σ H s) (h : SqB X.K b H a xs) : ∃ its : List Value, Vals xs its ∧ IsSq b s.heap a its.toArray ∧ a < s.heap.objs.size := by
  cases b with
  | true =>
    obtain ⟨its, rv, p, _⟩ := I.list h
    exact ⟨its, rv, p.isList, p.lt⟩
  | false =>
    obtain ⟨its, rv, p, _⟩ := I.tuple h
    obtain ⟨o, ho, _⟩ := id p
    exact ⟨its, rv, p, Heap.lt_size ho⟩
theorem inv_sq_inj (I : Inv X pins σ H s) (h : SqB X.K b H a xs) (h' : SqB X.K b H a ys) : xs = ys := by
  cases b with
  | true => exact I.list_inj h h'
  | false => exact I.tuple_inj h h'
end
theorem IsIt.obj {b : Bool} {h : Heap} {it a : Addr} {i : Nat} (q : IsIt b h it a i) : ∃ o, h.get? it = some o ∧ ∀ v, o.data ≠ .cell v := by
  cases b with
  | true =>
    obtain ⟨o, e, _, d⟩ := q
    exact ⟨o, e, fun v z => by rw [d] at z; cases z⟩
  | false =>
    obtain ⟨o, e, _, d⟩ := q
    exact ⟨o, e, fun v z => by rw [d] at z; cases z⟩
theorem IsIt.keep {b : Bool} {h h' : Heap} {it a : Addr} {i : Nat} (q : IsIt b h it a i) (k : ∀ o, h.get? it = some o → h'.get? it = some o) : IsIt b h' it a i := by
  cases b with
  | true => exact Heap.IsListIter.at q k
  | false => exact Heap.IsTupleIter.at q k
/-- the two at a and b at each turn, the items in new pairs -/
def ItzM (K : PySem.W.Frag) (sa sb : Bool) (a b : Addr) : It where
  go := fun i H => ∃ (xs ys : List V) (x y : V), SqB K sa H a xs ∧ SqB K sb H b ys ∧ xs[i]? = some x ∧ ys[i]? = some y
  yld := fun i H v H' => ∃ T x y, v = .ref T ∧ H T = none ∧ H' = upd H T (.tup [x, y]) ∧ (∀ xs, SqB K sa H a xs → xs[i]? = some x) ∧ ∀ ys, SqB K sb H b ys → ys[i]? = some y
  stop := fun i H => ∃ xs ys : List V, SqB K sa H a xs ∧ SqB K sb H b ys ∧ i ≤ xs.length ∧ i ≤ ys.length ∧ (i = xs.length ∨ i = ys.length)
theorem turn_zipM {P : Program} {w : World} {K : PySem.W.Frag} {elts : List Expr} {kk : Nat} {tpos : Pos} {sa sb : Bool} {a b z TI TO i1 i2 : Addr} (D : ZipApart z TI TO i1 i2 a b) :
    Turn P w K (.Tuple elts kk tpos) (ItzM K sa sb a b) [z, TI, TO, i1, i2] z (fun i h => IsZip h z TI TO .none ∧ IsPair h TI (.ref i1) (.ref i2) ∧ (∃ x y, IsPair h TO x y) ∧ IsIt sa h i1 a i ∧ IsIt sb h i2 b i) := by
  have S : ZipSep2 z TI TO i1 i2 [i1, a] [i2, b] := ⟨D.TIz, D.TOz, D.TITO, D.TIi1, by simp, by simp [D.i1z.symm, D.l1z.symm], by simp [D.TOi1, D.l1TO.symm], D.TIi2, by simp, by simp [D.i2z.symm, D.l2z.symm], by simp [D.TOi2, D.l2TO.symm], by simp [D.i12, D.l2i1.symm], by simp [D.i12.symm, D.l1i2.symm]⟩
  refine ⟨by simp, fun i h st c hc => ?_, fun i h h' st k => ?_, ?_, ?_, fun A i s Q E st h => wpAny_pyIter_zip st.1 h⟩
  · obtain ⟨hz, hTI, ⟨x, y, hTO⟩, q1, q2⟩ := st
    have e' : c = z ∨ c = TI ∨ c = TO ∨ c = i1 ∨ c = i2 := by simpa using hc
    rcases e' with q | q | q | q | q
    · rw [q]; exact ⟨_, hz, fun v q => nomatch q⟩
    · rw [q]; exact ⟨_, hTI, fun v q => nomatch q⟩
    · rw [q]; exact ⟨_, hTO, fun v q => nomatch q⟩
    · rw [q]; exact q1.obj
    · rw [q]; exact q2.obj
  · obtain ⟨hz, hTI, ⟨x, y, hTO⟩, h1, h2⟩ := st
    exact ⟨k z (by simp) _ hz, k TI (by simp) _ hTI, ⟨x, y, k TO (by simp) _ hTO⟩, h1.keep fun o q => k i1 (by simp) o q, h2.keep fun o q => k i2 (by simp) o q⟩
  · intro X hP hw hK hc i pins s σ H E I hf st hg
    subst hP hw hK
    obtain ⟨hz, hTI, ⟨x0, y0, hTO⟩, h1, h2⟩ := st
    obtain ⟨xs, ys, x, y, hqx, hqy, hx, hy⟩ := hg
    obtain ⟨its, rv, p, _⟩ := inv_sq I hqx
    obtain ⟨its2, rv2, p2, _⟩ := inv_sq I hqy
    obtain ⟨u, hu, ru⟩ := rv.get hx
    obtain ⟨u2, hu2, ru2⟩ := rv2.get hy
    have hzl : z < s.heap.objs.size := Heap.lt_size hz
    have hin : X.A.in1.handled = none := I.ok.hd hc
    have l1 : i < its.toArray.size := by rw [List.size_toArray]; exact (List.getElem?_eq_some_iff.mp hu).1
    have l2 : i < its2.toArray.size := by rw [List.size_toArray]; exact (List.getElem?_eq_some_iff.mp hu2).1
    refine wpAny_pyNext_zipD2_item S (draws_sq hin sa i1 a D.l1i1 its.toArray) (draws_sq hin sb i2 b D.l2i2 its2.toArray) hz hTI hTO ⟨h1, p⟩ ⟨h2, p2⟩ l1 l2 fun x1 x2 h' tk e1 e2 z' TO' n1 n2 hT hsz hk => ?_
    have ex1 : u = x1 := by
      have e1 : its[i]? = some x1 := by simpa using e1
      rw [hu] at e1
      exact Option.some.inj e1
    have ex2 : u2 = x2 := by
      have e2 : its2[i]? = some x2 := by simpa using e2
      rw [hu2] at e2
      exact Option.some.inj e2
    subst ex1 ex2
    refine ⟨_, rfl, wpAny_letOwnedTupleGo_zip (s := { s with heap := h', toks := tk }) z' fun h'' z'' sb => ?_⟩
    have hT2 : h''.get? s.heap.objs.size = some { cls := .type "tuple", data := .seq #[u, u2] } := (sb.2 _ (Nat.ne_of_gt hzl)).trans hT
    have out : ∀ c, c ∉ [z, TI, TO, i1, i2] → ∀ o, s.heap.get? c = some o → h''.get? c = some o := fun c hb o q =>
      (sb.2 c (fun e => hb (by simp [e]))).trans (hk c o (fun e => hb (by simp [e])) (fun e => hb (by simp [e])) (fun e => hb (by simp [e])) (fun e => hb (by simp [e])) q)
    have new : ObjOk X.prog X.w (upd H s.heap.objs.size (.tup [x, y])) h'' s.heap.objs.size (.tup [x, y]) :=
      ⟨show 2 ≤ sizeLine by decide, [u, u2], .cons ru (.cons ru2 .nil), ⟨_, hT2, rfl, _, rfl⟩⟩
    have I1 : Inv X pins σ (upd H s.heap.objs.size (.tup [x, y])) { s with heap := h'', toks := tk } :=
      I.turnedNew (t' := tk) (ch := [z, TI, TO, i1, i2]) (fun c o hb q => out c hb o q) hf (Nat.le_refl _) new
    refine ⟨.ref s.heap.objs.size, _, I1, rfl, ⟨_, x, y, rfl, I.hok.fresh (Nat.le_refl _), rfl, fun l hl => by rw [inv_sq_inj I hl hqx]; exact hx, fun l hl => by rw [inv_sq_inj I hl hqy]; exact hy⟩, ⟨z'', ?_, ⟨u, u2, ?_⟩, ?_, ?_⟩, fun c hcm => ?_⟩
    · exact (sb.2 _ D.TIz).trans (hk _ _ D.TIz D.TITO D.TIi1 D.TIi2 hTI)
    · exact (sb.2 _ D.TOz).trans TO'
    · exact n1.1.keep fun o q => (sb.2 _ D.i1z).trans q
    · exact n2.1.keep fun o q => (sb.2 _ D.i2z).trans q
    · have hlt : c < s.heap.objs.size := by
        have e' : c = z ∨ c = TI ∨ c = TO ∨ c = i1 ∨ c = i2 := by simpa using hcm
        obtain ⟨o1, q1, _⟩ := h1.obj
        obtain ⟨o2, q2, _⟩ := h2.obj
        rcases e' with q | q | q | q | q
        · rw [q]; exact hzl
        · rw [q]; exact Heap.lt_size hTI
        · rw [q]; exact Heap.lt_size hTO
        · rw [q]; exact Heap.lt_size q1
        · rw [q]; exact Heap.lt_size q2
      rw [upd_ne (Nat.ne_of_lt hlt)]
      exact (hf c hcm).1
  · intro X hP hw hK hc i pins s σ H E I hf st hg
    subst hP hw hK
    obtain ⟨hz, hTI, ⟨x0, y0, hTO⟩, h1, h2⟩ := st
    obtain ⟨xs, ys, hqx, hqy, le1, le2, hend⟩ := hg
    obtain ⟨its, rv, p, _⟩ := inv_sq I hqx
    obtain ⟨its2, rv2, p2, _⟩ := inv_sq I hqy
    have hin : X.A.in1.handled = none := I.ok.hd hc
    have z1 : its.toArray.size = xs.length := by rw [List.size_toArray]; exact rv.length.symm
    have z2 : its2.toArray.size = ys.length := by rw [List.size_toArray]; exact rv2.length.symm
    exact wpAny_pyNext_zipD2_end S (draws_sq hin sa i1 a D.l1i1 its.toArray) (draws_sq hin sb i2 b D.l2i2 its2.toArray) hz hTI hTO ⟨h1, p⟩ ⟨h2, p2⟩ (by rw [z1]; exact le1) (by rw [z2]; exact le2) (by rw [z1, z2]; exact hend) fun h' tk hk =>
      ⟨rfl, I.turnedL (t' := tk) (ch := [z, TI, TO, i1, i2]) (fun c o hb q => hk c o (fun e => hb (by simp [e])) (fun e => hb (by simp [e])) (fun e => hb (by simp [e])) (fun e => hb (by simp [e])) q) hf⟩
def itO : Bool → Addr → Obj
  | true, l => { cls := .type "list_iterator", data := .fields #[.ref l, .int 0 0] }
  | false, l => { cls := .type "tuple_iterator", data := .fields #[.ref l, .int 0 0] }
theorem begins_sq (b : Bool) (l : Addr) (items : Array Value) : Begins (.ref l) (itO b l) fun h => IsSq b h l items := by
  cases b with
  | true => exact begins_list l items
  | false => exact begins_tuple l items
theorem isIt_new {b : Bool} {l it : Addr} {h : Heap} (e : h.get? it = some (itO b l)) : IsIt b h it l 0 := by
  cases b with
  | true => exact ⟨_, e, rfl, rfl⟩
  | false => exact ⟨_, e, rfl, rfl⟩
def iZipM (K : PySem.W.Frag) (ta : TA) : TI := fun σ H R => ta σ H fun vs H1 => ∃ a b sa sb xs ys, vs = [.ref a, .ref b] ∧ SqB K sa H1 a xs ∧ SqB K sb H1 b ys ∧ R (ItzM K sa sb a b) H1
theorem pi_zipM {X : Cx} {K : PySem.W.Frag} {e e2 : Expr} {ta : TA} {p pos tpos : Pos} {elts : List Expr} {kk : Nat} (hK : X.K = K) (hg : Gl X "zip") (hm : X.mg "zip" = none) (ha : PA X [e, e2] ta)
    (hs : starEach [e, e2] X.env = (false, eval e X.env) :: starEach [e2] X.env := by rfl) (hpl : (backTo pos (starEach [e2] X.env)).any (·.1) = false := by rfl) :
    PI X (.Tuple elts kk tpos) (.Call (.Name "zip" p) [e, e2] [] pos) (iZipM K ta) := by
  subst hK
  refine ⟨fun pins s σ H R I h => ?_⟩
  refine Call_ (ld_blt I hg hm PyProof.Rows.boot_zip (PyProof.Rows.callWith_type1 (thn (ha.run pos pins s σ H _ I h) fun us s1 ⟨vs, H1, I1, r1, q1⟩ => ?_) hs hpl))
  obtain ⟨a, b, sa, sb, xs, ys, ex, hqx, hqy, q⟩ := q1
  subst ex
  obtain ⟨u, us2, rfl, ru, r2⟩ : ∃ u us2, us = u :: us2 ∧ RelV (.ref a) u ∧ Vals [.ref b] us2 := by
    cases r1 with
    | cons r rr => exact ⟨_, _, rfl, r, rr⟩
  obtain ⟨u2, rfl, ru2⟩ := vals1 r2
  cases ru
  cases ru2
  obtain ⟨its, rv, p1, la⟩ := inv_sq I1 hqx
  obtain ⟨its2, rv2, p2, lb⟩ := inv_sq I1 hqy
  have fresh5 : ∀ c, c ∈ [s1.heap.objs.size + 4, s1.heap.objs.size + 2, s1.heap.objs.size + 3, s1.heap.objs.size, s1.heap.objs.size + 1] → FpOk X pins H1 c := fun c hcm => by
    have hle : s1.heap.objs.size ≤ c := by
      simp only [List.mem_cons, List.not_mem_nil, or_false] at hcm
      have hcm : c = s1.heap.objs.size + 4 ∨ c = s1.heap.objs.size + 2 ∨ c = s1.heap.objs.size + 3 ∨ c = s1.heap.objs.size ∨ c = s1.heap.objs.size + 1 := hcm
      generalize s1.heap.objs.size = n at hcm ⊢
      show n ≤ c
      have hcm : (c : Nat) = n + 4 ∨ (c : Nat) = n + 2 ∨ (c : Nat) = n + 3 ∨ (c : Nat) = n ∨ (c : Nat) = n + 1 := hcm
      omega
    exact I1.fpOk hle (I1.hok.fresh hle)
  refine zip_begins2 (begins_sq sa a its.toArray) (begins_sq sb b its2.toArray) p1 p2 fun h' hz hTI hTO g1 g2 hsz hk => wpAny_pyIter_zip hz ?_
  have I2 : Inv X pins σ H1 { s1 with heap := h' } := I1.kept (t' := s1.toks) hk
  exact ⟨s1.heap.objs.size + 4, [s1.heap.objs.size + 4, s1.heap.objs.size + 2, s1.heap.objs.size + 3, s1.heap.objs.size, s1.heap.objs.size + 1], _, _, H1, rfl, I2, turn_zipM (PySem.W.ktu_apart s1.heap.objs.size a b la lb), ⟨hz, hTI, ⟨_, _, hTO⟩, isIt_new g1, isIt_new g2⟩, fresh5, q⟩
theorem lc_zipM {K : PySem.W.Frag} {sa sb : Bool} {a b : Addr} {xs ys : List V} {g : TG} {tt : TT} {te : TE} {vs : List Nat} {σ : L2.St} {H1 : Hp} {D : Addr} {Qd : Hp → Prop} (hxy : xs.length = ys.length) (Pv : Nat → Hp → Prop) (h0 : Pv 0 (upd H1 D (.lst [])))
    (hl : ∀ i H, i ≤ xs.length → Pv i H → SqB K sa H a xs ∧ SqB K sb H b ys)
    (hs : ∀ i x y t H, xs[i]? = some x → ys[i]? = some y → Pv i H → H t = none → g (.ref t) (wipe σ vs) (upd H t (.tup [x, y])) fun σ2 H2 => wipe σ2 vs = wipe σ vs ∧ tt σ2 H2 fun c H3 =>
      if c = true then te σ2 H3 fun y H4 => ∃ acc, H4 D = some (.lst acc) ∧ acc.length < sizeLine ∧ Pv (i + 1) (upd H4 D (.lst (acc ++ [y]))) else Pv (i + 1) H3)
    (hd : ∀ H, Pv xs.length H → Qd H) :
    ∃ W : Nat → Nat → Hp → Prop, (∃ m, W 0 m (upd H1 D (.lst []))) ∧ ∀ i m H, W i m H →
      ((ItzM K sa sb a b).stop i H ∧ Qd H) ∨ ((ItzM K sa sb a b).go i H ∧ ∃ Nx : Hp → Prop, (∀ H', Nx H' → ∃ m', m' < m ∧ W (i + 1) m' H') ∧ ∀ x H', (ItzM K sa sb a b).yld i H x H' → g x (wipe σ vs) H' fun σ2 H2 => wipe σ2 vs = wipe σ vs ∧ tt σ2 H2 fun c H3 =>
        if c = true then te σ2 H3 fun y H4 => ∃ acc, H4 D = some (.lst acc) ∧ acc.length < sizeLine ∧ Nx (upd H4 D (.lst (acc ++ [y]))) else Nx H3) := by
  refine ⟨fun i m H => m = xs.length - i ∧ i ≤ xs.length ∧ Pv i H, ⟨xs.length, rfl, Nat.zero_le _, h0⟩, fun i m H w0 => ?_⟩
  obtain ⟨hm, hi, p⟩ := w0
  obtain ⟨q1, q2⟩ := hl i H hi p
  by_cases hlt : i < xs.length
  · have hlt2 : i < ys.length := hxy ▸ hlt
    refine .inr ⟨⟨xs, ys, xs[i], ys[i], q1, q2, List.getElem?_eq_getElem hlt, List.getElem?_eq_getElem hlt2⟩, Pv (i + 1), fun H' p' => ⟨xs.length - (i + 1), by omega, rfl, hlt, p'⟩, fun v H' hv => ?_⟩
    obtain ⟨t, x, y, e1, e2, e3, y1, y2⟩ := hv
    subst e1 e3
    exact hs i x y t H (y1 xs q1) (y2 ys q2) p e2
  · have e : i = xs.length := by omega
    subst e
    exact .inl ⟨⟨xs, ys, q1, q2, hi, Nat.le_of_eq hxy, .inl rfl⟩, hd H p⟩
theorem turns_zipM {K : PySem.W.Frag} {sa sb : Bool} {a b : Addr} {xs zs : List V} {g : TG} {te : TE} {vs : List Nat} {σ : L2.St} {Cn : MG.CnT} {Qe : List V → Hp → Prop} (hxz : xs.length = zs.length) (Pv : Nat → List V → Hp → Prop)
    (hl : ∀ i ys H, i ≤ xs.length → Pv i ys H → SqB K sa H a xs ∧ SqB K sb H b zs)
    (hs : ∀ i ys x z t H, xs[i]? = some x → zs[i]? = some z → Pv i ys H → H t = none → g (.ref t) (wipe σ vs) (upd H t (.tup [x, z])) fun σ2 H3 => wipe σ2 vs = wipe σ vs ∧ te σ2 H3 fun y H4 => Cn ys y H4 (∃ m', m' < xs.length - i ∧ m' = xs.length - (i + 1) ∧ i + 1 ≤ xs.length ∧ Pv (i + 1) (ys ++ [y]) H4))
    (hd : ∀ ys H, Pv xs.length ys H → Qe ys H) : MG.Turns (ItzM K sa sb a b) g te vs σ Cn Qe (fun i m ys H => m = xs.length - i ∧ i ≤ xs.length ∧ Pv i ys H) := by
  intro i m ys H w0
  obtain ⟨hm, hi, p⟩ := w0
  subst hm
  obtain ⟨q1, q2⟩ := hl i ys H hi p
  by_cases hlt : i < xs.length
  · have hlt2 : i < zs.length := hxz ▸ hlt
    refine .inr ⟨⟨xs, zs, xs[i], zs[i], q1, q2, List.getElem?_eq_getElem hlt, List.getElem?_eq_getElem hlt2⟩, by omega, fun v H' hv => ?_⟩
    obtain ⟨t, x, z, e1, e2, e3, y1, y2⟩ := hv
    subst e1 e3
    exact hs i ys x z t H (y1 xs q1) (y2 zs q2) p e2
  · have e : i = xs.length := by omega
    subst e
    exact .inl ⟨⟨xs, zs, q1, q2, hi, Nat.le_of_eq hxz, .inl rfl⟩, hd ys H p⟩
/-! ### rows of three -/
def triV (r : MM.Tr) : List V := [.int (r.1 : Nat), .int (r.2.1 : Nat), .int (r.2.2 : Nat)]
def triI (r : MM.Tr) : List Int := [((r.1 : Nat) : Int), ((r.2.1 : Nat) : Int), ((r.2.2 : Nat) : Int)]
def tri (r : MM.Tr) : PyData := .tuple [.int (r.1 : Nat), .int (r.2.1 : Nat), .int (r.2.2 : Nat)]
theorem lexLt_tri (a b : MM.Tr) : HT.lexLt (triI a) (triI b) = MM.lt3 a b := by
  obtain ⟨a1, a2, a3⟩ := a
  obtain ⟨b1, b2, b3⟩ := b
  unfold triI MM.lt3
  simp only [HT.lexLt_cons, HT.lexLt_nil_nil]
  by_cases h1 : a1 = b1
  · subst h1
    rw [if_pos rfl]
    by_cases h2 : a2 = b2
    · subst h2
      rw [if_pos rfl]
      by_cases h3 : a3 = b3
      · subst h3
        simp
      · rw [if_neg (by omega)]
        simp
    · rw [if_neg (by omega)]
      simp [h2]
  · rw [if_neg (by omega)]
    simp [h1]
theorem listLt_tri (a b : MM.Tr) : PySem.W.listLt (triI a) (triI b) = MM.lt3 a b := by
  rw [← lexLt_tri]
  unfold triI
  simp only [HT.lexLt_cons, HT.lexLt_nil_nil, PySem.W.listLt]
  rfl
theorem dataLt_tri (a b : MM.Tr) : PySem.W.dataLt (tri a) (tri b) = MM.lt3 a b := by
  rw [← listLt_tri]
  exact PySem.W.DatumOrd.lt_eq (α := PySem.W.Tup Int) ⟨triI a⟩ ⟨triI b⟩
theorem minD_tri (x : MM.Tr) (xs : List MM.Tr) : PySem.W.minD (tri x) (xs.map tri) = tri (MM.min3 x xs) := by
  unfold PySem.W.minD MM.min3
  induction xs generalizing x with
  | nil => rfl
  | cons y ys ih =>
    rw [List.map_cons, List.foldl_cons, List.foldl_cons, ← ih, dataLt_tri]
    cases MM.lt3 y x <;> rfl
theorem alike_tri (xs : List MM.Tr) : PySem.W.AlikeAll (xs.map tri) := by
  refine ⟨fun x hx y hy => ?_, fun x hx => ?_⟩
  · obtain ⟨a, _, rfl⟩ := List.mem_map.mp hx
    obtain ⟨b, _, rfl⟩ := List.mem_map.mp hy
    exact PySem.W.DatumOrd.alike (α := PySem.W.Tup Int) ⟨triI a⟩ ⟨triI b⟩
  · obtain ⟨a, _, rfl⟩ := List.mem_map.mp hx
    exact fun z => by cases z
theorem sh_tri (r : MM.Tr) : ShK 1 (tri r) := .tup fun d hd => by
  simp only [List.mem_cons, List.not_mem_nil, or_false] at hd
  rcases hd with rfl | rfl | rfl <;> exact .int _ _
theorem tri_inj {a b : MM.Tr} (h : tri a = tri b) : a = b := by
  unfold tri at h
  simp only [PyData.tuple.injEq, List.cons.injEq, PyData.int.injEq, Int.natCast_inj, and_true] at h
  obtain ⟨a1, a2, a3⟩ := a
  obtain ⟨b1, b2, b3⟩ := b
  simp only at h
  rw [h.1, h.2.1, h.2.2]
/-- tuple(.. for .. in x), x a list or a tuple: the items are ws -/
theorem tupG_seq {T : Tb} (tk : TOk T) {P q : Addr} (hP : P ∈ T.gen) {K : PySem.W.Frag} {xs ws : List V} {g : TG} {te : TE} {vs : List Nat} {σ : L2.St} {H : Hp} {Q : VK} {i0 : Nat} (hσ : σ[i0]? = some (some (.ref q))) (hq : SqL K H q xs ∨ SqT K H q xs) (hg : GxR.TabG H P)
    (hw : ws.length = xs.length) (hz : ws.length ≤ 100000)
    (hs : ∀ (i : Nat) x H' (B : V → Hp → Prop), xs[i]? = some x → Ext T No H H' → (∀ y H4, ws[i]? = some y → Ext T No H' H4 → B y H4) → g x (wipe σ vs) H' fun σ2 H3 => wipe σ2 vs = wipe σ vs ∧ te σ2 H3 B)
    (hd : ∀ p H', H' p = some (.tup ws) → Ext T No H H' → Q (.ref p) H') : MG.tTupG P (iSeq K (tVar i0)) g te vs σ H Q := by
  have szn : ∀ {n : Nat}, n ≤ 100000 → n < sizeLine := fun h => by rw [sizeLine_eq]; omega
  refine ⟨.ref q, hσ, q, rfl, ?_⟩
  refine hq.elim (fun hq => .inl ⟨⟨_, hq⟩, hg, fun H2 ht => ⟨_, ⟨_, rfl, Nat.zero_le _, ⟨Ext.tab tk hP hg ht, rfl⟩⟩, turns_list (xs := xs) (fun i ys H' => Ext T No H H' ∧ ys = ws.take i) (fun i ys H' _ ⟨e, _⟩ => SqL.ext hq e id) ?_ ?_⟩⟩)
    (fun hq => .inr ⟨⟨_, hq⟩, hg, fun H2 ht => ⟨_, ⟨_, rfl, Nat.zero_le _, ⟨Ext.tab tk hP hg ht, rfl⟩⟩, turns_tup (xs := xs) (fun i ys H' => Ext T No H H' ∧ ys = ws.take i) (fun i ys H' _ ⟨e, _⟩ => SqT.ext hq e) ?_ ?_⟩⟩)
  all_goals first
    | (rintro i ys x H' hx ⟨e, rfl⟩
       have hi := (List.getElem?_eq_some_iff.mp hx).1
       refine hs i x H' _ hx e fun y H4 hy e4 => ?_
       have e6 : ws.take i ++ [y] = ws.take (i + 1) := by rw [List.take_add_one, hy]; rfl
       have e5 := e.trans e4
       refine ⟨szn (by rw [List.length_take]; omega), _, by omega, rfl, hi, e5, e6⟩)
    | (rintro ys H' ⟨e, rfl⟩
       rw [← hw, List.take_length]
       exact ⟨Nat.le_of_lt (szn hz), fun p hp => hd p _ upd_same (e.trans (Ext.new hp))⟩)
/-- any(.. for .., .. in zip(x, y)) -/
theorem anyG_zipM {T : Tb} (tk : TOk T) {P a b : Addr} (hP : P ∈ T.gen) {K : PySem.W.Frag} {sa sb : Bool} {xs zs : List V} {g : TG} {te : TE} {vs : List Nat} {σ : L2.St} {H : Hp} {Q : VK} {i0 i1 : Nat} (h0 : σ[i0]? = some (some (.ref a))) (h1 : σ[i1]? = some (some (.ref b)))
    (qa : SqB K sa H a xs) (qb : SqB K sb H b zs) (hxz : xs.length = zs.length) (hg : GxR.TabG H P) (Good : Nat → Prop) (g0 : Good 0)
    (hs : ∀ (i : Nat) x z t H' (B : Hp → Prop), xs[i]? = some x → zs[i]? = some z → H' t = some (.tup [x, z]) → Ext T No H H' → Good i → (∀ H4, Ext T No H H4 → Good (i + 1) → B H4) → g (.ref t) (wipe σ vs) H' fun σ2 H3 => wipe σ2 vs = wipe σ vs ∧ te σ2 H3 fun y H4 => ∃ b, y = .bl b ∧ if b = true then Q (.bl true) H4 else B H4)
    (hd : ∀ H', Ext T No H H' → Good xs.length → Q (.bl false) H') : MG.tAnyG P (iZipM K (tCons (tVar i0) (tCons (tVar i1) tNil))) g te vs σ H Q := by
  refine ⟨.ref a, h0, .ref b, h1, a, b, sa, sb, xs, zs, rfl, qa, qb, hg, fun H2 ht => ⟨_, ⟨_, rfl, Nat.zero_le _, ⟨Ext.tab tk hP hg ht, g0⟩⟩, turns_zipM hxz (fun i ys H' => Ext T No H H' ∧ Good i) (fun i ys H' _ ⟨e, _⟩ => ⟨SqB.ext qa e, SqB.ext qb e⟩) ?_ ?_⟩⟩
  · rintro i ys x z t H' hx hz ⟨e, gd⟩ ht
    have hi := (List.getElem?_eq_some_iff.mp hx).1
    exact hs i x z t _ (fun H4 => ∃ m', m' < xs.length - i ∧ m' = xs.length - (i + 1) ∧ i + 1 ≤ xs.length ∧ Ext T No H H4 ∧ Good (i + 1)) hx hz upd_same (e.trans (Ext.new ht)) gd fun H4 e4 g4 => ⟨_, by omega, rfl, hi, e4, g4⟩
  · rintro ys H' ⟨e, gd⟩
    exact hd H' e gd
theorem SqL.extD {T : Tb} {K : PySem.W.Frag} {H H' : Hp} {D a : Addr} {xs : List V} (h : SqL K H a xs) (e : Ext T (· = D) H H') (hD : H D = none) : SqL K H' a xs := by
  rcases h with (h | ⟨o, h⟩) | h
  · exact .inl (.inl (e.lst _ _ h fun z => by rw [z, hD] at h; cases h))
  · exact .inl (.inr ⟨o, e.frz _ _ _ h⟩)
  · exact .inr h
theorem SqB.extD {T : Tb} {K : PySem.W.Frag} {H H' : Hp} {b : Bool} {D a : Addr} {xs : List V} (h : SqB K b H a xs) (e : Ext T (· = D) H H') (hD : H D = none) : SqB K b H' a xs := by
  cases b with
  | true => exact SqL.extD h e hD
  | false => exact SqT.ext h e
theorem snoc_at {α β : Type} {as : List α} {bs : List β} {P : α → β → Prop} {a : α} {b : β} (hl : as.length = bs.length) (h : ∀ (j : Nat) (x : α) (y : β), as[j]? = some x → bs[j]? = some y → P x y) (hab : P a b) :
    ∀ (j : Nat) (x : α) (y : β), (as ++ [a])[j]? = some x → (bs ++ [b])[j]? = some y → P x y := by
  intro j x y h1 h2
  by_cases hj : j < as.length
  · rw [List.getElem?_append_left hj] at h1
    rw [List.getElem?_append_left (by omega)] at h2
    exact h j x y h1 h2
  · have e : j = as.length := by
      have := (List.getElem?_eq_some_iff.mp h1).1
      simp at this
      omega
    subst e
    rw [List.getElem?_concat_length] at h1
    rw [hl, List.getElem?_concat_length] at h2
    cases h1
    cases h2
    exact hab
end MB
namespace MB
open PySem PySem.Spec PyProof.Rows L2
def rRepN (T : Tb) : R2 := fun x y H Q => ∃ l k xs, x = .ref l ∧ y = .int k ∧ H l = some (.lst xs) ∧ -(2 ^ 63) ≤ k ∧ k < 2 ^ 63 ∧ xs.length * k.toNat ≤ sizeLine ∧ ∀ p H2, H p = none → H2 p = some (.lst (List.replicate k.toNat xs).flatten) → Ext T No H H2 → Q (.ref p) H2
theorem op_repN {X : Cx} {T : Tb} : OpR X (binaryOp .Mult) (rRepN T) := by
  intro pins s σ H x y v u Q I rx ry ⟨l, k, xs, e1, e2, h1, h2, h3, hz, q⟩
  exact op_rep pins s σ H x y v u Q I rx ry ⟨l, k, xs, e1, e2, h1, h2, h3, hz, fun p hp => q p _ hp upd_same (Ext.new hp)⟩
end MB

set_option Elab.async false
set_option linter.all false
set_option maxRecDepth 100000
set_option maxHeartbeats 2000000
/-! told(lambda: ..): the lambda made where it is handed on. -/
namespace ML
open PySem PySem.Spec PyProof.Rows L2 LamX
/-- told(lambda: L): all but the maker's table at P stays -/
def tToldL (P : Addr) (T : List (Addr × Str)) (K : PySem.W.Frag) (CS : Addr) (ret : Str) (t : XK → TE) : TE := fun σ H Q =>
  Tabs T H ∧ ∀ H1, ExtN H H1 → (∀ b o, H b = some o → b ≠ P → H1 b = some o) → Tabs T H1 → TTold K CS ret (fun E H' Q' => t E σ H' Q') H1 Q
section
variable {X : Cx}
theorem pe_toldL {T : List (Addr × Str)} {c P : Addr} {params : Arguments} {body : Expr} {scope : Scope} {t : XK → TE} {x a e ret : Str} {g CS : Addr} {k jj : Nat} {pg : Arguments} {sg : Scope} {dV kV doc pm cdv ct oc : Value} {an od : Option Addr} {osl : Array (Option Value)} {Ng : List Str}
    {p1 p2 p3 p4 p5 p6 p7 p8 q1 q2 q3 : Pos} (TB : TabB X.base X.mg c P) (hcode : X.env.code = .ref c) (hmT : (P, X.env.qual ++ "<lambda>") ∈ T) (hu : ∀ p ∈ T, p.1 = P → p.2 = X.env.qual ++ "<lambda>") (LT : LamT X k ⟨params, body, scope⟩ t) (hr : Room (k + 2) X.A)
    (hg : Gl X x) (hm : X.mg x = some (.ref g)) (hk : PySem.W.keepIn X.K (.ref g) = true)
    (lk : X.K.lookup g = some ⟨oc, od, .func (PySem.W.fnOf x x pg [.Try [.Return (some (.Call (.Name a p1) [] [] p2)) p3] [.ExceptHandler (some (.Name e p4)) none [.Return (some (.Constant (.str ret) jj p5)) p6] p7] [] [] p8] sg dV kV doc pm an cdv ct), osl⟩)
    (hcg : PySem.W.codeIn X.K cdv x = true) (hb : L2.Binds X.K (PySem.W.fnOf x x pg [.Try [.Return (some (.Call (.Name a p1) [] [] p2)) p3] [.ExceptHandler (some (.Name e p4)) none [.Return (some (.Constant (.str ret) jj p5)) p6] p7] [] [] p8] sg dV kV doc pm an cdv ct) [a] []) (Sg : FnScope Ng [a] sg) (hNg : Ng[0]? = some a) (hva : Vis sg a)
    (hge : sg.names.lookup e = some .globalImplicit) (hme : X.mg e = some (.ref CS)) (h0 : ∀ f : Addr, (L2.start Ng [V.ref f])[0]? = some (some (V.ref f)))
    (hdef : defaultsOf params X.env = ([], []) := by rfl) (hde : (e == ("__debug__" : Str)) = false := by decide)
    (hdb : (x == ("__debug__" : Str)) = false := by decide) (hd : (a == ("__debug__" : Str)) = false := by decide) (hcd : (a == ("__classdict__" : Str)) = false := by decide) :
    PE X (.Call (.Name x q1) [.Lambda params body scope q2] [] q3) (tToldL P T X.K CS ret t) := by
  refine ⟨fun pins s σ H Q I h => ?_⟩
  obtain ⟨hT, h⟩ := h
  refine wpAny_Call_Name_kw (ld_glob I hg hm ?_ hdb)
  have hpa : PA X [Expr.Lambda params body scope q2] (tCons (tLamV P T X.env.cells (X.env.qual ++ "<lambda>") ⟨params, body, scope⟩) tNil) := pa_cons (pe_lamV TB hcode hmT hu hdef LT.sc) pa_nil (by rfl)
  refine PySem.W.callWith_K (h₀ := X.base) I.ok.mod.kin hk (thn (hpa.run q3 pins s σ H (fun vs1 H1 => ∃ f c', vs1 = [V.ref f] ∧ H1 f = some (LamO X.env.cells (X.env.qual ++ "<lambda>") ⟨params, body, scope⟩ c' f) ∧ H1 c' = some (CodeO c' (X.env.qual ++ "<lambda>")) ∧ TTold X.K CS ret (fun E H' Q' => t E σ H' Q') H1 Q) I
    ⟨hT, fun f c' H1 e1 e2 e3 _ e5 e6 => ⟨f, c', rfl, e5, e6, h H1 e1 e2 e3⟩⟩) fun us s1 hh => ?_) (by rfl) (by rfl)
  obtain ⟨vs1, H1, I1, r1, f, c', ev, hf, hc, hT1⟩ := hh
  subst ev
  refine ⟨I1.kIn, ?_⟩
  obtain ⟨u, rfl, ru⟩ := vals1 r1
  obtain rfl : u = Value.ref f := ru
  have un : Un X.fs [] H1 H1 s1.heap s1.heap := Un.kept fun b o e => e
  have rc : codeAny (model X.prog X.w) X.A (.call (.ref g) ⟨[.ref f], []⟩) (CR C8.CX0 X.stack X.prog X.w H1 s1 Q C8.E0) s1 := by
    refine run_ofS (N := Ng) (ps := [a]) (us := [.ref f]) (vs := [.ref f]) lk hcg Sg hr I1.env0 (hb s1 [.ref f] I1.kIn rfl) (.cons rfl .nil) rfl fun hr' => ?_
    obtain ⟨tq, htq, hq'⟩ := told_body (X := X) (Ng := Ng) (x := x) (A := X.A) (st := X.stack) (s := s1) (H := H1) (f := f) (CS := CS) (cdg := cdv) (g := g) (Q := Q) (p1 := p1) (p2 := p2) (p3 := p3) (p4 := p4) (p5 := p5) (p6 := p6) (p7 := p7) (p8 := p8) (j := jj)
      (Pre := fun HZ => HZ f = some (LamO X.env.cells (X.env.qual ++ "<lambda>") ⟨params, body, scope⟩ c' f) ∧ HZ c' = some (CodeO c' (X.env.qual ++ "<lambda>"))) (tl := fun E H' Q' => t E σ H' Q') hge hme hde h0
      (fun W pn xe E tk hW => by
        have hp := pe_actB (p1 := p1) (p2 := p2) (i := 0) (f := f) (c' := c') I1 LT un (fun b hb => absurd hb (by simp)) tk hW hr' hNg hva hd hcd
        exact ⟨fun pz sz σz Hz Qz Iz hz => hp.run pz sz σz Hz Qz Iz ⟨hz.1, hz.2.1.1, hz.2.1.2, hz.2.2⟩⟩) ⟨hf, hc⟩ hT1
    exact ⟨tq, htq.nox, hq'⟩
  refine wpAny_call (codeAny_mono rc fun r s2 hq => ?_)
  cases r with
  | error e => exact (show False from hq).elim
  | ok fl =>
    cases fl with
    | ret u => exact I1.after hq
    | next => exact False.elim hq
    | brk => exact False.elim hq
    | cont => exact False.elim hq
end
end ML

set_option Elab.async false
set_option linter.all false
set_option maxRecDepth 100000
set_option maxHeartbeats 2000000
/-! Rules for calendars: dicts written, lists prolonged, names found. -/
namespace MB
open PySem PySem.Spec PyProof.Rows L2
theorem upd_dk {p a : Addr} {xs : List (Key × V)} {o x : HO} {H : Hp} (hp : H p = some (.dK xs)) (h : H a = some x) (n : ∀ ys, x ≠ .dK ys) : upd H p o a = some x := by
  rw [upd_ne fun z => by subst z; rw [hp] at h; exact n xs (Option.some.inj h).symm]
  exact h
/-- a dict written -/
theorem Ext.setK {T : Tb} {M : Addr → Prop} {H : Hp} {p : Addr} {xs : List (Key × V)} {o : HO} (hp : H p = some (.dK xs)) (hM : M p) : Ext T M H (upd H p o) := by
  refine ⟨fun b u h n => upd_dk hp h fun ys z => (by subst z; cases n), fun b ys h n => upd_dk hp h fun ys z => (nomatch z), fun b ys h n => ?_, fun b o' u h => upd_dk hp h fun ys z => (nomatch z), fun g => ⟨fun q hq => ?_, fun q hq => ?_⟩⟩
  · rw [upd_ne fun z => n (by rw [z]; exact hM)]
    exact h
  · obtain ⟨ps, e, t⟩ := g.1 q hq
    exact ⟨ps, upd_dk hp e fun ys z => (nomatch z), t⟩
  · obtain ⟨ps, e, t, h3⟩ := g.2 q hq
    refine ⟨ps, upd_dk hp e fun ys z => (nomatch z), t, fun pos cv hc => ?_⟩
    obtain ⟨c, e1, e2⟩ := h3 pos cv hc
    exact ⟨c, e1, upd_dk hp e2 fun ys z => (by unfold LamX.CodeO at z; cases z)⟩
section
variable {X : Cx} {T : Tb} {K : PySem.W.Frag}
/-- xs += ys -/
def rExtN (T : Tb) : TIp := fun x y H Q => ∃ l b xs zs, x = .ref l ∧ y = .ref b ∧ H l = some (.lst xs) ∧ H b = some (.lst zs) ∧ xs.length + zs.length ≤ sizeLine ∧ ∀ H2, H2 l = some (.lst (xs ++ zs)) → Ext T (· = l) H H2 → Q (.ref l) H2
theorem ip_extN : PIp X .Add (rExtN T) := by
  intro pins s σ H x y v u Q I rx ry ⟨l, b, xs, zs, e1, e2, h1, h2, hz, q⟩
  exact iop_ext pins s σ H x y v u Q I rx ry ⟨l, b, xs, zs, e1, e2, h1, h2, hz, q _ upd_same (Ext.set h1 rfl)⟩
/-- tuple(xs) -/
def rTupN (T : Tb) (K : PySem.W.Frag) : List V → Hp → VK → Prop := fun xs H Q => ∃ p ys, xs = [.ref p] ∧ SqL K H p ys ∧ ∀ l H2, H l = none → H2 l = some (.tup ys) → Ext T No H H2 → Q (.ref l) H2
theorem call_tupleN (h : X.K = K) : CallR X (.type "tuple") (rTupN T K) := by
  subst h
  intro pins s σ H xs us Q I r ⟨p, ys, e, h1, q⟩
  exact call_tuple_of pins s σ H xs us Q I r ⟨p, ys, e, .inl ⟨h1, fun l hl => q l _ hl upd_same (Ext.new hl)⟩⟩
/-- names.index(x) -/
def rIxS (K : PySem.W.Frag) : V → List V → Hp → VK → Prop := fun x xs H Q => ∃ (a : Addr) (ss : List Str) (y : Str) (j : Nat), x = .ref a ∧ xs = [.str y] ∧ SqL K H a (ss.map V.str) ∧ ss[j]? = some y ∧ (∀ m, m < j → ss[m]? ≠ some y) ∧ Q (.int (j : Nat)) H
theorem mt_ixS (h : X.K = K) : MtR X "list.index" (rIxS K) := by
  subst h
  intro pins s σ H x xs v us Q I rx rxs ⟨a, ss, y, j, e1, e2, hs, hj, hno, q⟩
  refine mt_index pins s σ H x xs v us Q I rx rxs ⟨a, ss.map V.str, .str y, j, .str y, e1, e2, hs, rfl, ?_, ?_, ?_, fun m z' hm hz => ?_, q⟩
  · rw [List.all_eq_true]
    intro z hz
    obtain ⟨t, _, rfl⟩ := List.mem_map.mp hz
    rfl
  · rw [List.getElem?_map, hj]
    rfl
  · exact decide_eq_true rfl
  · rw [List.getElem?_map] at hz
    cases e : ss[m]? with
    | none => rw [e] at hz; cases hz
    | some t =>
      rw [e] at hz
      cases hz
      have : t ≠ y := fun z => hno m hm (by rw [e, z])
      exact decide_eq_false this
end
end MB
namespace MB
open PySem PySem.Spec PyProof.Rows L2
section
variable {X : Cx}
/-- y = {k: v for ..}, y the def's own -/
theorem ps_setDc {i : Nat} {y : Str} {py : Pos} {kx vx tg iter : Expr} {ifs : List Expr} {scope : Scope} {own : List (Str × Nat)} {pos spos : Pos} {wi : TI} {g : TG} {tt : TT} {tk tv : TE} (hc : X.calm = true) (hN : X.N.Nodup) (hy : X.N[i]? = some y) (hyl : X.env.scope.names.lookup y = some .local)
    (hsw : swapsWith (.DictComp kx vx [⟨tg, iter, ifs, 0⟩] scope pos) (some (.Name y py)) spos.line X.env = pure true) (hi : PI X tg iter wi) (ok : BlkOk X.N X.env.scope scope own)
    (hg : ∀ (s : Shared) (H : Hp) (C : Addr) (cl : List (Str × Addr)) (fp : List Addr), PG (X.blk s H scope (compEnvC scope cl C X.env) fp) tg g)
    (ht : ∀ (s : Shared) (H : Hp) (C : Addr) (cl : List (Str × Addr)) (fp : List Addr), PTs (X.blk s H scope (compEnvC scope cl C X.env) fp) ifs tt)
    (hk : ∀ (s : Shared) (H : Hp) (C : Addr) (cl : List (Str × Addr)) (fp : List Addr), PE (X.blk s H scope (compEnvC scope cl C X.env) fp) kx tk)
    (he : ∀ (s : Shared) (H : Hp) (C : Addr) (cl : List (Str × Addr)) (fp : List Addr), PE (X.blk s H scope (compEnvC scope cl C X.env) fp) vx tv)
    (hs : ∀ x, foldedSetIterable iter X.env x = pure x := by intro _; rfl) :
    PS X (.Assign [.Name y py] (.DictComp kx vx [⟨tg, iter, ifs, 0⟩] scope pos) spos) (tAsg (tDc wi g tt tk tv (own.map (·.2))) (gName i)) := by
  refine ⟨fun pins s σ H D I h => ?_⟩
  rw [exec_Assign_Name_used _ _ _ _ hsw]
  refine wpAny_bind (wpAny_standAt (wpAny_bind ?_))
  show wpAny _ X.A (do let _ ← comprehension (.DictComp kx vx [⟨tg, iter, ifs, 0⟩] scope pos) scope X.env (firstIterPos [⟨tg, iter, ifs, 0⟩] pos) newDict false (eval iter X.env) (some (assign (.Name y py) X.env))) _ _ s
  have h0 : tDc wi g tt tk tv (own.map (·.2)) σ H (fun x H1 => gName i x σ H1 D.nx) := h
  refine wpAny_bind (thn (dc_core (Qf := fun _ s' => SP X pins D .next s') hc hN I hi ok hg ht hk he hs h0 fun L C s' m H' I' q hn f => ?_) fun _ s' hq => wpAny_pure (wpAny_pure hq))
  show wpAny _ _ (assign (.Name y py) X.env (.ref L)) _ _ _
  refine wpAny_assign_Name (store_ok2 (v := V.ref L) I' hN hy (.inl hyl) rfl (fun s2 I2 ⟨a, sb, ha⟩ => ?_) (.inr hyl))
  obtain ⟨f0, f1, f2, f3, f4, f5⟩ := f
  have hne : C ≠ a := ha.elim (fun z => by rw [z]; exact f1) fun z e => f4 y a z e.symm
  refine ⟨m, hn.sameBut sb hne, fun h3 sb3 => ?_⟩
  exact ⟨_, H', I2.turned (t' := s2.toks) (fun b o hb e => (sb3.2 b hb).trans e) f0 f1 f3 f4 f5, q⟩
end
end MB
namespace MB
open PySem PySem.Spec PyProof.Rows L2
/-- tuple(.. for .. in x), x a list or a tuple: Good i ys holds of the items ys ahead of turn i -/
theorem tupG_inv {T : Tb} (tk : TOk T) {P q : Addr} (hP : P ∈ T.gen) {K : PySem.W.Frag} {xs : List V} {g : TG} {te : TE} {vs : List Nat} {σ : L2.St} {H : Hp} {Q : VK} {i0 : Nat} (hσ : σ[i0]? = some (some (.ref q))) (hq : SqL K H q xs ∨ SqT K H q xs) (hg : GxR.TabG H P) (hz : xs.length ≤ 100000)
    (Good : Nat → List V → Hp → Prop) (g0 : ∀ H', Ext T No H H' → Good 0 [] H')
    (hs : ∀ (i : Nat) ys x H' (B : V → Hp → Prop), xs[i]? = some x → ys.length = i → Ext T No H H' → Good i ys H' → (∀ y H4, Ext T No H' H4 → Good (i + 1) (ys ++ [y]) H4 → B y H4) → g x (wipe σ vs) H' fun σ2 H3 => wipe σ2 vs = wipe σ vs ∧ te σ2 H3 B)
    (hd : ∀ ys H1, Good xs.length ys H1 → Ext T No H H1 → ∀ p H2, H2 p = some (.tup ys) → Ext T No H1 H2 → Q (.ref p) H2) : MG.tTupG P (iSeq K (tVar i0)) g te vs σ H Q := by
  have szn : ∀ {n : Nat}, n ≤ 100000 → n < sizeLine := fun h => by rw [sizeLine_eq]; omega
  refine ⟨.ref q, hσ, q, rfl, ?_⟩
  refine hq.elim (fun hq => .inl ⟨⟨_, hq⟩, hg, fun H2 ht => ⟨_, ⟨_, rfl, Nat.zero_le _, ⟨Ext.tab tk hP hg ht, rfl, g0 _ (Ext.tab tk hP hg ht)⟩⟩, turns_list (xs := xs) (fun i ys H' => Ext T No H H' ∧ ys.length = i ∧ Good i ys H') (fun i ys H' _ ⟨e, _⟩ => SqL.ext hq e id) ?_ ?_⟩⟩)
    (fun hq => .inr ⟨⟨_, hq⟩, hg, fun H2 ht => ⟨_, ⟨_, rfl, Nat.zero_le _, ⟨Ext.tab tk hP hg ht, rfl, g0 _ (Ext.tab tk hP hg ht)⟩⟩, turns_tup (xs := xs) (fun i ys H' => Ext T No H H' ∧ ys.length = i ∧ Good i ys H') (fun i ys H' _ ⟨e, _⟩ => SqT.ext hq e) ?_ ?_⟩⟩)
  all_goals first
    | (rintro i ys x H' hx ⟨e, hl, gd⟩
       have hi := (List.getElem?_eq_some_iff.mp hx).1
       refine hs i ys x H' _ hx hl e gd fun y H4 e4 g4 => ?_
       exact ⟨szn (by omega), _, by omega, rfl, hi, e.trans e4, by rw [List.length_append, hl]; rfl, g4⟩)
    | (rintro ys H' ⟨e, hl, gd⟩
       exact ⟨Nat.le_of_lt (szn (by omega)), fun p hp => hd ys H' gd e p _ upd_same (Ext.new hp)⟩)
end MB
namespace MB
open PySem PySem.Spec PyProof.Rows L2
/-- any(..) over a tuple, from where the iterator stands -/
theorem anyT {T : Tb} (tk : TOk T) {P a : Addr} (hP : P ∈ T.gen) {K : PySem.W.Frag} {xs : List V} {g : TG} {te : TE} {vs : List Nat} {σ : L2.St} {H : Hp} {Q : VK} (hq : SqT K H a xs) (hg : GxR.TabG H P)
    (Good : Nat → Prop) (h0 : Good 0)
    (hs : ∀ (i : Nat) x H' (B : Hp → Prop), xs[i]? = some x → Ext T No H H' → Good i → (∀ H4, Ext T No H H4 → Good (i + 1) → B H4) → g x (wipe σ vs) H' fun σ2 H3 => wipe σ2 vs = wipe σ vs ∧ te σ2 H3 fun y H4 => ∃ b, y = .bl b ∧ if b = true then Q (.bl true) H4 else B H4)
    (hd : ∀ H', Ext T No H H' → Good xs.length → Q (.bl false) H') :
    GxR.TabG H P ∧ ∀ H2, GxR.Tabbed P H H2 → ∃ W : Nat → Nat → List V → Hp → Prop, (∃ m, W 0 m [] H2) ∧ MG.Turns (Itt K a) g te vs σ (MG.cnA fun H => Q (.bl true) H) (fun _ H => Q (.bl false) H) W := by
  refine ⟨hg, fun H2 ht => ⟨_, ⟨_, rfl, Nat.zero_le _, ⟨Ext.tab tk hP hg ht, h0⟩⟩, turns_tup (xs := xs) (fun i ys H' => Ext T No H H' ∧ Good i) (fun i ys H' _ ⟨e, _⟩ => SqT.ext hq e) ?_ ?_⟩⟩
  · rintro i ys x H' hx ⟨e, gd⟩
    have hi := (List.getElem?_eq_some_iff.mp hx).1
    exact hs i x H' (fun H4 => ∃ m', m' < xs.length - i ∧ m' = xs.length - (i + 1) ∧ i + 1 ≤ xs.length ∧ Ext T No H H4 ∧ Good (i + 1)) hx e gd fun H4 e4 g4 => ⟨_, by omega, rfl, hi, e4, g4⟩
  · rintro ys H' ⟨e, gd⟩
    exact hd H' e gd
theorem sum_take {ns : List Nat} {i n : Nat} (h : ns[i]? = some n) : (ns.take (i + 1)).sum = (ns.take i).sum + n := by
  rw [List.take_add_one, h, List.sum_append]
  show _ + (n + 0) = _
  omega
theorem sum_take_le (ns : List Nat) (i : Nat) : (ns.take i).sum ≤ ns.sum := by
  have h := List.sum_append (l₁ := ns.take i) (l₂ := ns.drop i)
  rw [List.take_append_drop] at h
  omega
/-- sum(.. for .. in t), t a tuple: the whole numbers ns -/
theorem sumT {T : Tb} (tk : TOk T) {P a : Addr} (hP : P ∈ T.gen) {K : PySem.W.Frag} {xs : List V} {g : TG} {te : TE} {vs : List Nat} {σ : L2.St} {H : Hp} {Q : VK} (hq : SqT K H a xs) (hg : GxR.TabG H P)
    (ns : List Nat) (hn : ns.length = xs.length) (hb : ns.sum < 2 ^ 40)
    (hs : ∀ (i : Nat) x H' (B : V → Hp → Prop), xs[i]? = some x → Ext T No H H' → (∀ n H4, ns[i]? = some n → Ext T No H H4 → B (.int (n : Nat)) H4) → g x (wipe σ vs) H' fun σ2 H3 => wipe σ2 vs = wipe σ vs ∧ te σ2 H3 B)
    (hd : ∀ H', Ext T No H H' → Q (.int (ns.sum : Nat)) H') :
    GxR.TabG H P ∧ ∀ H2, GxR.Tabbed P H H2 → ∃ W : Nat → Nat → List V → Hp → Prop, (∃ m, W 0 m [] H2) ∧ MG.Turns (Itt K a) g te vs σ MG.cnS (fun ys H => Q (.int (MG.sumV ys)) H) W := by
  refine ⟨hg, fun H2 ht => ⟨_, ⟨_, rfl, Nat.zero_le _, ⟨Ext.tab tk hP hg ht, rfl⟩⟩, turns_tup (xs := xs) (fun i ys H' => Ext T No H H' ∧ MG.sumV ys = ((ns.take i).sum : Nat)) (fun i ys H' _ ⟨e, _⟩ => SqT.ext hq e) ?_ ?_⟩⟩
  · rintro i ys x H' hx ⟨e, hsum⟩
    have hi := (List.getElem?_eq_some_iff.mp hx).1
    refine hs i x H' _ hx e fun n H4 hn4 e4 => ?_
    have h1 := sum_take hn4
    have h2 := sum_take_le ns (i + 1)
    have h3 : MG.sumV ys + (n : Nat) = ((ns.take (i + 1)).sum : Nat) := by rw [hsum, h1]; omega
    refine ⟨_, rfl, ⟨⟨by omega, by omega⟩, by rw [h3]; exact ⟨by omega, by omega⟩⟩, _, by omega, rfl, hi, e4, ?_⟩
    rw [MG.sumV_snoc, h3]
  · rintro ys H' ⟨e, hsum⟩
    rw [← hn, List.take_length] at hsum
    rw [hsum]
    exact hd H' e
end MB
namespace MB
open PySem PySem.Spec PyProof.Rows L2
theorem anyT2 {T : Tb} (tk : TOk T) {P a : Addr} (hP : P ∈ T.gen) {K : PySem.W.Frag} {xs : List V} {g : TG} {te te0 : TE} {vs : List Nat} {σ : L2.St} {H : Hp} {Q : VK} (ht : ∀ R : VK, R (.ref a) H → te0 σ H R) (hq : SqT K H a xs) (hg : GxR.TabG H P)
    (Good : Nat → Prop) (h0 : Good 0)
    (hs : ∀ (i : Nat) x H' (B : Hp → Prop), xs[i]? = some x → Ext T No H H' → Good i → (∀ H4, Ext T No H H4 → Good (i + 1) → B H4) → g x (wipe σ vs) H' fun σ2 H3 => wipe σ2 vs = wipe σ vs ∧ te σ2 H3 fun y H4 => ∃ b, y = .bl b ∧ if b = true then Q (.bl true) H4 else B H4)
    (hd : ∀ H', Ext T No H H' → Good xs.length → Q (.bl false) H') : MG.tAnyG P (iTup K te0) g te vs σ H Q :=
  ht _ ⟨a, rfl, ⟨_, hq⟩, anyT tk hP hq hg Good h0 hs hd⟩
theorem sumT2 {T : Tb} (tk : TOk T) {P a : Addr} (hP : P ∈ T.gen) {K : PySem.W.Frag} {xs : List V} {g : TG} {te te0 : TE} {vs : List Nat} {σ : L2.St} {H : Hp} {Q : VK} (ht : ∀ R : VK, R (.ref a) H → te0 σ H R) (hq : SqT K H a xs) (hg : GxR.TabG H P)
    (ns : List Nat) (hn : ns.length = xs.length) (hb : ns.sum < 2 ^ 40)
    (hs : ∀ (i : Nat) x H' (B : V → Hp → Prop), xs[i]? = some x → Ext T No H H' → (∀ n H4, ns[i]? = some n → Ext T No H H4 → B (.int (n : Nat)) H4) → g x (wipe σ vs) H' fun σ2 H3 => wipe σ2 vs = wipe σ vs ∧ te σ2 H3 B)
    (hd : ∀ H', Ext T No H H' → Q (.int (ns.sum : Nat)) H') : MG.tSumG P (iTup K te0) g te vs σ H Q :=
  ht _ ⟨a, rfl, ⟨_, hq⟩, sumT (Q := Q) tk hP hq hg ns hn hb hs hd⟩
end MB
namespace MB
open PySem PySem.Spec PyProof.Rows L2
/-- tuple(.. for i in range(a, b, c)), from where the iterator stands -/
theorem tupC {T : Tb} (tk : TOk T) {P : Addr} (hP : P ∈ T.gen) {lo c : Int} {n : Nat} {g : TG} {te : TE} {vs : List Nat} {σ : L2.St} {H : Hp} {Q : VK} (hg : GxR.TabG H P) (hz : n ≤ 100000)
    (Good : Nat → List V → Hp → Prop) (g0 : ∀ H', Ext T No H H' → Good 0 [] H')
    (hs : ∀ (i : Nat) ys H' (B : V → Hp → Prop), i < n → ys.length = i → Ext T No H H' → Good i ys H' → (∀ y H4, Ext T No H' H4 → Good (i + 1) (ys ++ [y]) H4 → B y H4) → g (.int (lo + i * c)) (wipe σ vs) H' fun σ2 H3 => wipe σ2 vs = wipe σ vs ∧ te σ2 H3 B)
    (hd : ∀ ys H1, Good n ys H1 → Ext T No H H1 → ∀ p H2, H2 p = some (.tup ys) → Ext T No H1 H2 → Q (.ref p) H2) :
    GxR.TabG H P ∧ ∀ H2, GxR.Tabbed P H H2 → ∃ W : Nat → Nat → List V → Hp → Prop, (∃ m, W 0 m [] H2) ∧ MG.Turns (Itc lo c n) g te vs σ MG.cnL (fun ys H => ys.length ≤ sizeLine ∧ ∀ p, H p = none → Q (.ref p) (upd H p (.tup ys))) W := by
  have szn : ∀ {n : Nat}, n ≤ 100000 → n < sizeLine := fun h => by rw [sizeLine_eq]; omega
  refine ⟨hg, fun H2 ht => ⟨fun i m ys H' => m = n - i ∧ i ≤ n ∧ Ext T No H H' ∧ ys.length = i ∧ Good i ys H', ⟨n, rfl, Nat.zero_le _, Ext.tab tk hP hg ht, rfl, g0 _ (Ext.tab tk hP hg ht)⟩, ?_⟩⟩
  rintro i m ys H' ⟨rfl, hi, e, hl, gd⟩
  by_cases hlt : i < n
  · refine .inr ⟨hlt, by omega, fun x H3 hy => ?_⟩
    obtain ⟨rfl, rfl⟩ := hy
    refine hs i ys H3 _ hlt hl e gd fun y H4 e4 g4 => ?_
    exact ⟨szn (by omega), n - (i + 1), by omega, rfl, hlt, e.trans e4, by rw [List.length_append, hl]; rfl, g4⟩
  · have e2 : i = n := by omega
    subst e2
    exact .inl ⟨Nat.le_refl _, Nat.le_of_lt (szn (by omega)), fun p hp => hd ys H' gd e p _ upd_same (Ext.new hp)⟩
end MB
namespace MB
open PySem PySem.Spec PyProof.Rows L2
theorem tupC2 {T : Tb} (tk : TOk T) {P : Addr} (hP : P ∈ T.gen) {lo hi c : Int} {n : Nat} {g : TG} {ta : TA} {te : TE} {vs : List Nat} {σ : L2.St} {H : Hp} {Q : VK} (ha : ∀ R : List V → Hp → Prop, R [.int lo, .int hi, .int c] H → ta σ H R) (hr : RgC lo hi c n) (hg : GxR.TabG H P) (hz : n ≤ 100000)
    (Good : Nat → List V → Hp → Prop) (g0 : ∀ H', Ext T No H H' → Good 0 [] H')
    (hs : ∀ (i : Nat) ys H' (B : V → Hp → Prop), i < n → ys.length = i → Ext T No H H' → Good i ys H' → (∀ y H4, Ext T No H' H4 → Good (i + 1) (ys ++ [y]) H4 → B y H4) → g (.int (lo + i * c)) (wipe σ vs) H' fun σ2 H3 => wipe σ2 vs = wipe σ vs ∧ te σ2 H3 B)
    (hd : ∀ ys H1, Good n ys H1 → Ext T No H H1 → ∀ p H2, H2 p = some (.tup ys) → Ext T No H1 H2 → Q (.ref p) H2) : MG.tTupG P (iRng3 ta) g te vs σ H Q :=
  ha _ ⟨lo, hi, c, n, rfl, hr, tupC (Q := Q) tk hP hg hz Good g0 hs hd⟩
end MB
namespace MB
open PySem PySem.Spec PyProof.Rows L2
/-- t + u, both not empty -/
def rCatTN (T : Tb) (K : PySem.W.Frag) : R2 := fun x y H Q => ∃ a b xs ys, x = .ref a ∧ y = .ref b ∧ SqT K H a xs ∧ SqT K H b ys ∧ xs ≠ [] ∧ ys ≠ [] ∧ xs.length + ys.length ≤ sizeLine ∧ ∀ p H2, H p = none → H2 p = some (.tup (xs ++ ys)) → Ext T No H H2 → Q (.ref p) H2
theorem op_catTN {X : Cx} {T : Tb} {K : PySem.W.Frag} (h : X.K = K) : OpR X (binaryOp .Add) (rCatTN T K) := by
  subst h
  intro pins s σ H x y v u Q I rx ry ⟨a, b, xs, ys, e1, e2, h1, h2, n1, n2, hz, q⟩
  exact op_catT pins s σ H x y v u Q I rx ry ⟨a, b, xs, ys, e1, e2, h1, h2, n1, hz, fun z => absurd z n2, fun _ p hp => q p _ hp upd_same (Ext.new hp)⟩
end MB

set_option Elab.async false
set_option linter.all false
set_option maxRecDepth 100000
set_option maxHeartbeats 2000000
namespace ME
open PySem PySem.Spec PyProof.Rows L2 MB
section
variable {prog : Program} {w : World} {A : Around} {E : Value → Shared → Prop} {s : Shared}
theorem nextOf_key_item {it d : Addr} {i n ep : Nat} {od : Obj} {es : Array DictEntry} {en : DictEntry} {Q : Value → Shared → Prop} (hit : s.heap.IsKeyIter it d i n ep) (hod : s.heap.get? d = some od) (hdd : od.data = .dict es ep)
    (hsz : es.size = n) (hx : es[i]? = some en) (hQ : ∀ h', h'.IsKeyIter it d (i + 1) n ep → Heap.SameBut it s.heap h' → Q en.key { s with heap := h' }) : wpAny (model prog w) A (Builtin.SmallTypes.nextOf (.ref it)) Q E s := by
  obtain ⟨o, ho, hc, hd⟩ := id hit
  unfold Builtin.SmallTypes.nextOf
  refine wpAny_bind (wpAny_callSpecial?_slot (name := Str.ofString "__next__") hit.typeIs F.slot_dict_keyiterator_next
    (wpAny_call_entry F.slot_dict_keyiterator_next hit.typeIs F.entry_dict_keyiterator_next ?_ (F.args_dict_keyiterator_next_1 _)))
  refine wpAny_bind (wpAny_pure ?_)
  refine wpAny_bind ?_
  refine wpAny_bind ?_
  first | refine wpAny_bind (wpAny_typeNameOfWhole_keyiter hit.typeIs (wpAny_pure ?_)) | refine wpAny_bind (wpAny_typeNameOf_keyiter hit.typeIs (wpAny_pure ?_))
  refine wpAny_bind (wpAny_fieldsOf ho hd ?_)
  have hown : Builtin.Dict_items.ownsTuple "dict_keyiterator" = false := by decide
  simp only [hown, Bool.false_eq_true, if_false]
  show wpAny _ _ (if (Value.ref d == Value.none) = true then _ else _) _ _ s
  rw [if_neg (show ¬ ((Value.ref d == Value.none) = true) from Bool.false_ne_true)]
  refine wpAny_bind (wpAny_pure ?_)
  refine wpAny_bind (wpAny_dictEntries hod hdd ?_)
  rw [if_neg (by rw [hsz]; simp)]
  refine wpAny_bind (wpAny_pure ?_)
  refine wpAny_bind (wpAny_dictEpoch hod hdd ?_)
  rw [if_neg (by simp)]
  refine wpAny_pure ?_
  obtain ⟨hlt', hen⟩ := Array.getElem?_eq_some_iff.mp hx
  simp only [show ¬ ((i : Int) < 0) from by omega, if_false, Int.toNat_natCast, Array.getElem?_eq_getElem hlt']
  refine wpAny_bind ?_
  first | refine wpAny_bind (wpAny_typeNameOfWhole_keyiter hit.typeIs (wpAny_pure ?_)) | refine wpAny_bind (wpAny_typeNameOf_keyiter hit.typeIs (wpAny_pure ?_))
  refine wpAny_bind (wpAny_isOneOf_keyiter hit.typeIs ?_)
  show wpAny _ _ (setField (.ref it) 1 (rawInt ((i : Int) + 1)) >>= _) _ _ s
  refine wpAny_bind (wpAny_setField ho hd (by simp) ?_)
  have hit' : (s.heap.update it (Obj.mapFields (·.setIfInBounds 1 (rawInt ((i : Int) + 1))))).IsKeyIter it d (i + 1) n ep :=
    ⟨_, Heap.get?_update_self _ ho (Obj.isFreed_of_fields (Obj.data_mapFields hd _)), (Obj.cls_mapFields ..).trans hc, by rw [Obj.data_mapFields hd]; simp [rawInt]⟩
  refine wpAny_bind (wpAny_holding ?_)
  refine wpAny_bind (wpAny_isOneOf_keyiter (s := { s with heap := s.heap.update it (Obj.mapFields (·.setIfInBounds 1 (rawInt ((i : Int) + 1)))) }) hit'.typeIs ?_)
  show wpAny _ _ (pure es[i].key) _ _ _
  rw [hen]
  exact wpAny_pure (wpAny_pure ⟨_, rfl, wpAny_pure (hQ _ hit' (Heap.SameBut.update ..))⟩)
theorem nextOf_key_end {it d : Addr} {i n ep : Nat} {od : Obj} {es : Array DictEntry} {Q : Value → Shared → Prop} (hh : A.handled = none) (hit : s.heap.IsKeyIter it d i n ep) (hod : s.heap.get? d = some od) (hdd : od.data = .dict es ep)
    (hsz : es.size = n) (hge : n ≤ i) (hE : ∀ h' e, Heap.ExtBut it s.heap h' → (∃ o, h'.get? e = some o ∧ o.cls = .type "StopIteration") → E (.ref e) { s with heap := h' }) : wpAny (model prog w) A (Builtin.SmallTypes.nextOf (.ref it)) Q E s := by
  obtain ⟨o, ho, hc, hd⟩ := id hit
  unfold Builtin.SmallTypes.nextOf
  refine wpAny_bind (wpAny_callSpecial?_slot (name := Str.ofString "__next__") hit.typeIs F.slot_dict_keyiterator_next
    (wpAny_call_entry F.slot_dict_keyiterator_next hit.typeIs F.entry_dict_keyiterator_next ?_ (F.args_dict_keyiterator_next_1 _)))
  refine wpAny_bind (wpAny_pure ?_)
  refine wpAny_bind ?_
  refine wpAny_bind ?_
  first | refine wpAny_bind (wpAny_typeNameOfWhole_keyiter hit.typeIs (wpAny_pure ?_)) | refine wpAny_bind (wpAny_typeNameOf_keyiter hit.typeIs (wpAny_pure ?_))
  refine wpAny_bind (wpAny_fieldsOf ho hd ?_)
  have hown : Builtin.Dict_items.ownsTuple "dict_keyiterator" = false := by decide
  simp only [hown, Bool.false_eq_true, if_false]
  show wpAny _ _ (if (Value.ref d == Value.none) = true then _ else _) _ _ s
  rw [if_neg (show ¬ ((Value.ref d == Value.none) = true) from Bool.false_ne_true)]
  refine wpAny_bind (wpAny_pure ?_)
  refine wpAny_bind (wpAny_dictEntries hod hdd ?_)
  rw [if_neg (by rw [hsz]; simp)]
  refine wpAny_bind (wpAny_pure ?_)
  refine wpAny_bind (wpAny_dictEpoch hod hdd ?_)
  rw [if_neg (by simp)]
  refine wpAny_pure ?_
  have hge' : es.size ≤ i := by rw [hsz]; exact hge
  simp only [show ¬ ((i : Int) < 0) from by omega, if_false, Int.toNat_natCast, Array.getElem?_eq_none hge']
  refine wpAny_bind ?_
  first | refine wpAny_bind (wpAny_typeNameOfWhole_keyiter hit.typeIs (wpAny_pure ?_)) | refine wpAny_bind (wpAny_typeNameOf_keyiter hit.typeIs (wpAny_pure ?_))
  show wpAny _ _ (setField (.ref it) 0 .none >>= _) _ _ s
  refine wpAny_bind (wpAny_setField ho hd (by simp) ?_)
  show wpAny _ _ (newExc (.type "StopIteration") [] >>= _) _ _ _
  refine wpAny_bind ?_
  simp only [newExc, newTuple]
  refine wpAny_bind (wpAny_newObj_type ?_ (by size_fits))
  refine wpAny_bind (m := firstArgMember _ _) (wpAny_of_eq (a := Value.none) (by first | rfl | (simp only [firstArgMember]; rfl)) ?_)
  refine wpAny_newObj_type ?_ (by size_fits)
  simp only [raiseNew]
  refine wpAny_bind (wpAny_handled ?_)
  first | rw [show A.in1.handled = none from hh] | rw [hh]
  refine wpAny_bind (wpAny_pure (wpAny_throw ?_))
  exact hE _ _ (((Heap.SameBut.update ..).extBut.push _).push _) ⟨_, Heap.get?_push_size _ rfl, rfl⟩
end
theorem draws_keys {prog : Program} {w : World} {A : Around} (hh : A.handled = none) {it d : Addr} (hne : d ≠ it) {od : Obj} {es : Array DictEntry} {ep : Nat} (hdd : od.data = .dict es ep) :
    Draws prog w A it [it, d] es.size (fun i v => ∃ en, es[i]? = some en ∧ v = en.key) (fun i h => h.IsKeyIter it d i es.size ep ∧ h.get? d = some od) where
  live := fun _ _ st => let ⟨o, ho, _⟩ := st.1; ⟨o, ho⟩
  frame := fun _ _ _ st hk => ⟨st.1.at fun o e => hk it (by simp) o e, hk d (by simp) _ st.2⟩
  item := fun i s Q E hi st hQ => by
    refine nextOf_key_item st.1 st.2 hdd rfl (Array.getElem?_eq_getElem hi) fun h' hit' hs' => ?_
    exact hQ _ h' s.toks ⟨_, Array.getElem?_eq_getElem hi, rfl⟩ ⟨hit', (hs'.2 d hne).trans st.2⟩ hs'
  done := fun s Q E st hE => nextOf_key_end hh st.1 st.2 hdd rfl (Nat.le_refl _) hE
/-- the locked dict at d: each key in a new pair behind its number -/
def Iked (d : Addr) (o : Obj) (kvs : List (Key × V)) : It :=
  ⟨fun i H => H d = some (.frz o (.dK kvs)) ∧ i < kvs.length, fun i H v H' => ∃ T k x, kvs[i]? = some (k, x) ∧ v = .ref T ∧ H T = none ∧ H' = upd H T (.tup [.int (i : Nat), kV k]), fun i H => H d = some (.frz o (.dK kvs)) ∧ kvs.length ≤ i⟩
theorem turn_enumD {P : Program} {w : World} {K : PySem.W.Frag} {d : Addr} {o : Obj} {es : Array DictEntry} {ep : Nat} {kvs : List (Key × V)} {elts : List Expr} {kk : Nat} {tpos : Pos} (e it : Addr) (hod : o.data = .dict es ep) :
    Turn P w K (.Tuple elts kk tpos) (Iked d o kvs) [e, it] e (fun i h => (∃ old, IsEnum h e it ((i : Nat) : Int) old) ∧ h.IsKeyIter it d i kvs.length ep ∧ e ≠ it ∧ e ≠ d ∧ d ≠ it) where
  mem := by simp
  obj := fun i h st b hb => by
    obtain ⟨⟨old, he⟩, ⟨o, ho, hc, hd⟩, _⟩ := st
    have e' : b = e ∨ b = it := by simpa using hb
    rcases e' with z | z
    · rw [z]; exact ⟨_, he, fun v q => nomatch q⟩
    · rw [z]; exact ⟨o, ho, fun v q => by rw [hd] at q; cases q⟩
  keep := fun i h h' st k => let ⟨⟨old, he⟩, hi, hne⟩ := st; ⟨⟨old, k e (by simp) _ he⟩, hi.at fun o q => k it (by simp) o q, hne⟩
  item := by
    intro X hP hw hK hc i pins s σ H E I hf st hg
    subst hP hw hK
    obtain ⟨⟨old, he⟩, hit, hne, hed, hdi⟩ := st
    obtain ⟨hd, hi⟩ := hg
    obtain ⟨hs, hgd, hx, es', ep', vs, hdt, hsz, kv, hm⟩ := I.frzK hd
    obtain ⟨rfl, rfl⟩ := dict_ep hod hdt
    obtain ⟨⟨k, v⟩, hkv⟩ : ∃ p, kvs[i]? = some p := ⟨kvs[i], List.getElem?_eq_getElem hi⟩
    obtain ⟨u, hu, ru⟩ := kv_get kv hkv
    have hel : e < s.heap.objs.size := Heap.lt_size he
    have hil : it < s.heap.objs.size := by obtain ⟨_, q, _⟩ := hit; exact Heap.lt_size q
    rw [← hsz] at hit
    have hhd : X.A.in1.handled = none := I.ok.hd hc
    refine PySem.wpAny_pyNext_enum_itemC (draws_keys hhd hdi hod) he ⟨hit, hgd⟩ (by omega) hne (by simp [hne, hed]) fun x h' tk hxP ho hst' hT hsz' hk => ?_
    obtain ⟨en, hen, rfl⟩ := hxP
    obtain ⟨hit', hgd'⟩ := hst'
    have hkey : keyIs k en.key = true := by
      obtain ⟨od2, es2, hod2, _, hdd2, _, hp2, _⟩ := id hm
      rw [hgd] at hod2
      cases hod2
      obtain ⟨rfl, _⟩ := dict_ep hod hdd2
      exact (hp2.get? (e := en) (by rw [Array.getElem?_toList]; exact hen) hu).1
    refine ⟨_, rfl, wpAny_letOwnedTupleGo_enum (s := { s with heap := h', toks := tk + 1 }) ho fun h'' he' sb => ?_⟩
    have hT2 : h''.get? s.heap.objs.size = some { cls := .type "tuple", data := .seq #[.int i tk, en.key] } := (sb.2 _ (Nat.ne_of_gt hel)).trans hT
    have new : ObjOk X.prog X.w (upd H s.heap.objs.size (.tup [.int (i : Nat), kV k])) h'' s.heap.objs.size (.tup [.int (i : Nat), kV k]) :=
      ⟨by show 2 ≤ sizeLine; decide, [.int i tk, en.key], .cons ⟨_, rfl⟩ (.cons (relV_key hkey) .nil), ⟨_, hT2, rfl, _, rfl⟩⟩
    have I1 : Inv X pins σ (upd H s.heap.objs.size (.tup [.int (i : Nat), kV k])) { s with heap := h'', toks := tk + 1 } :=
      I.turnedNew (ch := [e, it]) (fun b ob hb q => (sb.2 b (fun z => hb (by simp [z]))).trans (hk b ob (fun z => hb (by simp [z])) (fun z => hb (by simp [z])) q)) hf (Nat.le_refl _) new
    refine ⟨.ref s.heap.objs.size, _, I1, rfl, ⟨_, k, v, hkv, rfl, I.hok.fresh (Nat.le_refl _), rfl⟩, ⟨⟨en.key, ?_⟩, ?_, hne, hed, hdi⟩, fun b hb => ?_⟩
    · have e1 : ((i + 1 : Nat) : Int) = (i : Int) + 1 := by omega
      rw [e1]; exact he'
    · rw [← hsz]
      exact hit'.at fun o q => (sb.2 it (Ne.symm hne)).trans q
    · have hb' : b < s.heap.objs.size := by
        have e' : b = e ∨ b = it := by simpa using hb
        rcases e' with z | z
        · rw [z]; exact hel
        · rw [z]; exact hil
      rw [upd_ne (Nat.ne_of_lt hb')]
      exact (hf b hb).1
  done := by
    intro X hP hw hK hc i pins s σ H E I hf st hg
    subst hP hw hK
    obtain ⟨⟨old, he⟩, hit, hne, hed, hdi⟩ := st
    obtain ⟨hd, hi⟩ := hg
    obtain ⟨hs, hgd, hx, es', ep', vs, hdt, hsz, kv, hm⟩ := I.frzK hd
    obtain ⟨rfl, rfl⟩ := dict_ep hod hdt
    obtain ⟨f0, f1, f2, f3, f4, f5⟩ := hf it (by simp)
    have hhd : X.A.in1.handled = none := I.ok.hd hc
    have hT : s.TypeIs (.ref e) "enumerate" := ⟨_, he, rfl⟩
    unfold pyNext
    refine wpAny_bind (wpAny_attempt (wpAny_callSpecial?_slot (name := Str.ofString "__next__") hT F.slot_enumerate_next
      (wpAny_call_entry F.slot_enumerate_next hT F.entry_enumerate_next ?_ (F.args_enumerate_next_1 _))))
    show wpAny _ _ (field (.ref e) 2 >>= _) _ _ _
    refine wpAny_bind (wpAny_field he rfl (x := .ref it) rfl ?_)
    refine wpAny_bind (nextOf_key_end hhd hit hgd hod hsz hi fun h' x he' hx' => ?_)
    obtain ⟨o, ho, hc⟩ := hx'
    refine wpAny_bind (wpAny_isInstance (T := "StopIteration") (b := true) ⟨o, ho, hc⟩ isSubtype_stop ?_)
    exact wpAny_pure ⟨rfl, I.turned (t' := s.toks) (fun b o hb q => he' b o hb q) f0 f1 f3 f4 f5⟩
  self := fun A i s Q E st h => let ⟨⟨_, he⟩, _⟩ := st; wpAny_pyIter_enum he h
set_option maxHeartbeats 4000000 in
theorem meets_enumerate_new1 {v : Value} {o : Obj} {H : Heap → Prop} (B : Begins v o H) :
    Meets (Builtin.«enumerate.__new__» ⟨[.type "enumerate", v], []⟩) (fun _ R s => H s.heap ∧
      R (.ok (.ret (.ref (s.heap.push o).objs.size))) { s with heap := (s.heap.push o).push { cls := .type "enumerate", data := .fields #[.none, .bool false, .ref s.heap.objs.size, rawInt 0, .none, .none] } }) :=
  .of_wp fun prog w A R s h => by
    obtain ⟨hp, g, d, tk, os⟩ := s; obtain ⟨h1, h⟩ := h
    have hsub := sub_enumerate
    have q1 : ∀ {A' : Around} {E : Value → Shared → Prop} {Q : Value → Shared → Prop}, Q (.ref hp.objs.size) ⟨hp.push o, g, d, tk, os⟩ → wpAny (model prog w) A' (pyIter v) Q E ⟨hp, g, d, tk, os⟩ :=
      fun q => B.iter prog w _ _ ⟨hp, g, d, tk, os⟩ _ h1 q
    wp_walk using q1
    refine wpAny_stack_any fun st => wpAny_pure ?_
    split
    · rename_i c _ _ _ _ _
      cases (c == Value.type "enumerate")
      · wp_walk using q1
        exact ⟨_, rfl, h⟩
      · wp_walk using q1
        exact ⟨_, rfl, h⟩
    · wp_walk using q1
      exact ⟨_, rfl, h⟩
theorem begins_dict {d : Addr} {o : Obj} {es : Array DictEntry} {ep : Nat} (hd : (d == sysModules) = false) (hx : o.ExactDict) (hdt : o.data = .dict es ep) :
    Begins (.ref d) { cls := .type "dict_keyiterator", data := .fields #[.ref d, .int 0 0, .int es.size 0, .int ep 0] } (fun h => h.get? d = some o) where
  iter := fun prog w A E s Q ho h => iter_keys hd ho hx hdt h
  keeps := fun h h' x hk => hk d o x
  free := rfl
def iEnumD (ta : TA) : TI := fun σ H R => ta σ H fun vs H1 => ∃ d o kvs, vs = [.ref d] ∧ H1 d = some (.frz o (.dK kvs)) ∧ R (Iked d o kvs) H1
theorem pi_enumD {X : Cx} {e : Expr} {ta : TA} {p pos tpos : Pos} {elts : List Expr} {kk : Nat} (hg : Gl X "enumerate") (hm : X.mg "enumerate" = none) (ha : PA X [e] ta) (hs : starEach [e] X.env = [(false, eval e X.env)] := by rfl) :
    PI X (.Tuple elts kk tpos) (.Call (.Name "enumerate" p) [e] [] pos) (iEnumD ta) := by
  refine ⟨fun pins s σ H R I h => ?_⟩
  refine Call_ (ld_blt I hg hm boot_enumerate (PyProof.Rows.callWith_type1 (thn (ha.run pos pins s σ H _ I h) fun us s1 ⟨vs, H1, I1, r1, q1⟩ => ?_) hs rfl))
  obtain ⟨a, o, kvs, ex, hq, q⟩ := q1
  subst ex
  cases r1 with
  | cons r rr =>
    cases rr
    cases r
    obtain ⟨hs2, hgd, hx, es, ep, vs, hdt, hsz, kv, hm2⟩ := I1.frzK hq
    have B := begins_dict hs2 hx hdt
    refine callType_new F.called_enumerate (by decide) (F.typeCall_enumerate_1 _) (F.newCall_enumerate_1 _) (fun obj => F.args_object_init_2 obj _) F.entry_enumerate_new
      (meets_enumerate_new1 B) ⟨hgd, ?_⟩
    obtain ⟨ob, hob⟩ : ∃ ob : Obj, ob = { cls := .type "dict_keyiterator", data := .fields #[.ref a, .int 0 0, .int es.size 0, .int ep 0] } := ⟨_, rfl⟩
    rw [← hob]
    have hfree : ob.isFreed = false := by rw [hob]; rfl
    have hz : (s1.heap.push ob).objs.size = s1.heap.objs.size + 1 := Heap.size_push ..
    show _ ∧ _
    rw [hz]
    have he : IsEnum ((s1.heap.push ob).push { cls := .type "enumerate", data := .fields #[.none, .bool false, .ref s1.heap.objs.size, rawInt 0, .none, .none] }) (s1.heap.objs.size + 1) s1.heap.objs.size 0 .none := by
      have := Heap.get?_push_size (s1.heap.push ob) (o := { cls := .type "enumerate", data := .fields #[.none, .bool false, .ref s1.heap.objs.size, rawInt 0, .none, .none] }) rfl
      rw [hz] at this; exact this
    have hit : ((s1.heap.push ob).push { cls := .type "enumerate", data := .fields #[.none, .bool false, .ref s1.heap.objs.size, rawInt 0, .none, .none] }).IsKeyIter s1.heap.objs.size a 0 kvs.length ep := by
      refine ⟨ob, Heap.get?_push_of_some _ (Heap.get?_push_size _ hfree), by rw [hob], ?_⟩
      rw [hob, ← hsz]
      rfl
    have hk : ∀ b u, s1.heap.get? b = some u → ((s1.heap.push ob).push { cls := .type "enumerate", data := .fields #[.none, .bool false, .ref s1.heap.objs.size, rawInt 0, .none, .none] }).get? b = some u := fun b u x => Heap.get?_push_of_some _ (Heap.get?_push_of_some _ x)
    refine ⟨⟨_, he, rfl⟩, wpAny_pyIter_enum he ?_⟩
    have I2 := I1.kept (t' := s1.toks) hk
    have hal : a < s1.heap.objs.size := Heap.lt_size hgd
    refine ⟨s1.heap.objs.size + 1, [s1.heap.objs.size + 1, s1.heap.objs.size], _, _, H1, rfl, I2, turn_enumD (s1.heap.objs.size + 1) s1.heap.objs.size hdt, ⟨⟨.none, he⟩, hit, Nat.succ_ne_self _, Nat.ne_of_gt (Nat.lt_succ_of_lt hal), Nat.ne_of_lt hal⟩, fun b hb => ?_, q⟩
    have e' : b = s1.heap.objs.size + 1 ∨ b = s1.heap.objs.size := by simpa using hb
    have hle : s1.heap.objs.size ≤ b := by
      rcases e' with z | z
      · rw [z]; exact Nat.le_add_right _ _
      · rw [z]; exact Nat.le_refl _
    exact I1.fpOk hle (I1.hok.fresh hle)
theorem walk_enumD {d : Addr} {o : Obj} {kvs : List (Key × V)} : Walk (Iked d o kvs) kvs.length (fun H => H d = some (.frz o (.dK kvs))) (fun i H v H' => ∃ T k x, kvs[i]? = some (k, x) ∧ v = .ref T ∧ H T = none ∧ H' = upd H T (.tup [.int (i : Nat), kV k])) :=
  ⟨fun _ _ hi h => ⟨h, hi⟩, fun _ h => ⟨h, Nat.le_refl _⟩, fun _ _ _ _ _ _ y => y⟩
end ME

set_option Elab.async false
set_option linter.all false
set_option maxRecDepth 100000
set_option maxHeartbeats 2000000
/-! sorted(xs) of a list of data. -/
namespace MB
open PySem PySem.Spec PyProof.Rows L2
theorem dpAll_len {K : PySem.W.Frag} {H : Hp} : ∀ {ys : List V} {ds : List PyData}, DpAll K H ys ds → ys.length = ds.length
  | _, _, .nil => rfl
  | _, _, .cons _ t => by rw [List.length_cons, List.length_cons, dpAll_len t]
def sortD (ds : List PyData) : List PyData := ds.mergeSort (PySem.W.dataLe false id)
def rSortedD (T : Tb) (K : PySem.W.Frag) : List V → Hp → VK → Prop := fun vs H Q => ∃ (a : Addr) (ys : List V) (ds : List PyData), vs = [.ref a] ∧ SqL K H a ys ∧ DpAll K H ys ds ∧ PySem.W.AllAlike ds ∧ PySem.W.Sortable ds ∧ (∀ d ∈ ds, d.depth ≤ 32) ∧
  ∀ (p : Addr) (H' : Hp) (zs : List (V × PyData)), H p = none → H' p = some (.lst (zs.map Prod.fst)) → zs.map Prod.snd = sortD ds → (∀ z ∈ zs, z ∈ ys.zip ds) → Ext T No H H' → Q (.ref p) H'
theorem vals_zip {R : V → Value → Prop} : ∀ {ys : List V} {us : List Value} {ds : List PyData}, Vals ys us → ys.length = ds.length → PySem.W.EachIs (fun (u : Value) (b : V × PyData) => RelV b.1 u) us (ys.zip ds)
  | [], _, _, .nil, _ => .nil
  | y :: ys, _, d :: ds, .cons r t, h => .cons r (vals_zip (R := R) t (by simpa using h))
  | _ :: _, _, [], _, h => by simp at h
theorem each_vals : ∀ {bs : List (V × PyData)} {us : List Value}, PySem.W.EachIs (fun (u : Value) (b : V × PyData) => RelV b.1 u) us bs → Vals (bs.map (·.1)) us
  | [], _, .nil => .nil
  | _ :: _, _, .cons r t => .cons r (each_vals t)
theorem cr_sortedDat {X : Cx} {T : Tb} {K : PySem.W.Frag} (hK : X.K = K) (hc : X.calm = true) (hu : X.A.units + 64 < cLine) : CallR X (.builtin "sorted") (rSortedD T K) := by
  subst hK
  intro pins s σ H vs us Q I r h
  obtain ⟨a, ys, ds, rfl, hs, hd, ha, hso, hdp, q⟩ := h
  obtain ⟨its, rv, hl, hz⟩ := I.list hs
  rw [Vals.ref1 r]
  have hlen : ys.length = ds.length := dpAll_len hd
  have e := vals_zip (R := RelV) rv hlen
  have hm : (ys.zip ds).map (·.2) = ds := List.map_snd_zip (Nat.le_of_eq hlen.symm)
  obtain ⟨as, hr⟩ := Dp.readsAll I ds ys its hd rv
  have hlz : (ys.zip ds).length = ys.length := by rw [List.length_zip]; omega
  have er : PySem.W.EachIs (fun v b => ∃ as, Reads s.heap v (b.2 : PyData) as) its (ys.zip ds) := by
    have q := PySem.W.readsAll_each (h := s.heap) (β := V × PyData) (·.2) (bs := ys.zip ds) (as := as) (by rw [hm]; exact hr)
    exact q
  refine PySem.W.sorted_data (β := V × PyData) (enc := (·.2)) (bs := ys.zip ds) hl.isList e er (by rw [hm]; exact ha) (by rw [hm]; exact hso) (by rw [hlz]; exact hz) (fun b hb => ?_) fun out ho eo => ?_
  · have := hdp b.2 (by rw [← hm]; exact List.mem_map.mpr ⟨b, hb, rfl⟩)
    omega
  · obtain ⟨e', he'⟩ := PyProof.Rows.sortedAll_at s.heap its out.toArray
    obtain ⟨zs, hzs⟩ : ∃ zs, zs = (ys.zip ds).mergeSort (PySem.W.dataLe false (·.2)) := ⟨_, rfl⟩
    rw [← hzs] at eo
    have hzl : zs.length = ys.length := by rw [hzs, List.length_mergeSort, hlz]
    have hn : H (s.heap.objs.size + 1) = none := I.hok.fresh (Nat.le_succ _)
    refine ⟨.ref (s.heap.objs.size + 1), upd H (s.heap.objs.size + 1) (.lst (zs.map (·.1))), I.laid (t' := s.toks) (fun b u e => PyProof.Rows.sortedAll_old e) (Nat.le_succ _)
      (show ObjOk X.prog X.w _ _ _ (.lst (zs.map (·.1))) from ⟨by rw [List.length_map, hzl]; exact hz, out, e', each_vals eo, he'⟩), rfl, q _ _ zs hn upd_same ?_ (fun z hzm => ?_) (Ext.new hn)⟩
    · rw [hzs]
      unfold sortD
      rw [PySem.W.sort_maps (r := PySem.W.dataLe false (·.2)) (s := PySem.W.dataLe false id) (fun b : V × PyData => b.2) (l := ys.zip ds) (fun a _ b _ => rfl), hm]
    · rw [hzs] at hzm
      exact (List.mergeSort_perm _ _).mem_iff.mp hzm
end MB

set_option Elab.async false
set_option linter.all false
set_option maxRecDepth 100000
set_option maxHeartbeats 2000000
/-! a dict that was locked stands again; tuple(..) over a made list. -/
namespace MB
open PySem PySem.Spec PyProof.Rows L2
theorem upd_frz {p a : Addr} {o' : Obj} {u o x : HO} {H : Hp} (hp : H p = some (.frz o' u)) (h : H a = some x) (n : ∀ o2 u2, x ≠ .frz o2 u2) : upd H p o a = some x := by
  rw [upd_ne fun z => by subst z; rw [hp] at h; exact n _ _ (Option.some.inj h).symm]
  exact h
theorem Ext.unlock {T : Tb} {d : Addr} {o : Obj} {kvs : List (Key × V)} {H H' : Hp} (h : H d = some (.dK kvs)) (e : Ext T (· = d) H H') (h' : H' d = some (.frz o (.dK kvs))) : Ext T No H (upd H' d (.dK kvs)) := by
  have ne : ∀ {b u}, H b = some u → (∀ ys, u ≠ .dK ys) → b ≠ d := fun hb n z => by
    rw [z, h] at hb
    exact n _ (Option.some.inj hb).symm
  refine ⟨fun b u hb n => ?_, fun b ys hb _ => ?_, fun b ys hb _ => ?_, fun b o' u hb => ?_, fun g => ?_⟩
  · rw [upd_ne (ne hb fun ys z => by subst z; cases n)]
    exact e.fix b u hb n
  · have nb := ne hb fun ys z => nomatch z
    rw [upd_ne nb]
    exact e.lst b ys hb nb
  · by_cases z : b = d
    · subst z
      rw [h] at hb
      cases hb
      exact upd_same
    · rw [upd_ne z]
      exact e.dk b ys hb z
  · rw [upd_ne (ne hb fun ys z => nomatch z)]
    exact e.frz b o' u hb
  · have g := e.gd g
    refine ⟨fun q hq => ?_, fun q hq => ?_⟩
    · obtain ⟨ps, e, t⟩ := g.1 q hq
      exact ⟨ps, upd_frz h' e fun o2 u2 z => (nomatch z), t⟩
    · obtain ⟨ps, e, t, h3⟩ := g.2 q hq
      refine ⟨ps, upd_frz h' e fun o2 u2 z => (nomatch z), t, fun pos cv hc => ?_⟩
      obtain ⟨c, e1, e2⟩ := h3 pos cv hc
      exact ⟨c, e1, upd_frz h' e2 fun o2 u2 z => (by unfold LamX.CodeO at z; cases z)⟩
/-- tuple(..) over a list, from where the iterator stands -/
theorem tupL {T : Tb} (tk : TOk T) {P q : Addr} (hP : P ∈ T.gen) {K : PySem.W.Frag} {xs : List V} {g : TG} {te : TE} {vs : List Nat} {σ : L2.St} {H : Hp} {Q : VK} (hq : SqL K H q xs) (hg : GxR.TabG H P) (hz : xs.length ≤ 100000)
    (Good : Nat → List V → Hp → Prop) (g0 : ∀ H', Ext T No H H' → Good 0 [] H')
    (hs : ∀ (i : Nat) ys x H' (B : V → Hp → Prop), xs[i]? = some x → ys.length = i → Ext T No H H' → Good i ys H' → (∀ y H4, Ext T No H' H4 → Good (i + 1) (ys ++ [y]) H4 → B y H4) → g x (wipe σ vs) H' fun σ2 H3 => wipe σ2 vs = wipe σ vs ∧ te σ2 H3 B)
    (hd : ∀ ys H1, Good xs.length ys H1 → Ext T No H H1 → ∀ p H2, H2 p = some (.tup ys) → Ext T No H1 H2 → Q (.ref p) H2) :
    GxR.TabG H P ∧ ∀ H2, GxR.Tabbed P H H2 → ∃ W : Nat → Nat → List V → Hp → Prop, (∃ m, W 0 m [] H2) ∧ MG.Turns (Itl K q) g te vs σ MG.cnL (fun ys H => ys.length ≤ sizeLine ∧ ∀ p, H p = none → Q (.ref p) (upd H p (.tup ys))) W := by
  have szn : ∀ {n : Nat}, n ≤ 100000 → n < sizeLine := fun h => by rw [sizeLine_eq]; omega
  refine ⟨hg, fun H2 ht => ⟨_, ⟨_, rfl, Nat.zero_le _, ⟨Ext.tab tk hP hg ht, rfl, g0 _ (Ext.tab tk hP hg ht)⟩⟩, turns_list (xs := xs) (fun i ys H' => Ext T No H H' ∧ ys.length = i ∧ Good i ys H') (fun i ys H' _ ⟨e, _⟩ => SqL.ext hq e id) ?_ ?_⟩⟩
  · rintro i ys x H' hx ⟨e, hl, gd⟩
    have hi := (List.getElem?_eq_some_iff.mp hx).1
    refine hs i ys x H' _ hx hl e gd fun y H4 e4 g4 => ?_
    exact ⟨szn (by omega), _, by omega, rfl, hi, e.trans e4, by rw [List.length_append, hl]; rfl, g4⟩
  · rintro ys H' ⟨e, hl, gd⟩
    exact ⟨Nat.le_of_lt (szn (by omega)), fun p hp => hd ys H' gd e p _ upd_same (Ext.new hp)⟩
end MB

set_option Elab.async false
set_option linter.all false
set_option maxRecDepth 100000
set_option maxHeartbeats 2000000
/-! list(d), sorted(d), list(d.items()) whose heap is told by Ext. -/
namespace MB
open PySem PySem.Spec PyProof.Rows L2
theorem Ext.kept {T : Tb} {M : Addr → Prop} {H H' : Hp} (h : ∀ b o, H b = some o → H' b = some o) : Ext T M H H' := by
  refine ⟨fun b o e _ => h b o e, fun b xs e _ => h b _ e, fun b xs e _ => h b _ e, fun b o u e => h b _ e, fun g => ⟨fun q hq => ?_, fun q hq => ?_⟩⟩
  · obtain ⟨ps, e, t⟩ := g.1 q hq
    exact ⟨ps, h _ _ e, t⟩
  · obtain ⟨ps, e, t, h3⟩ := g.2 q hq
    refine ⟨ps, h _ _ e, t, fun pos cv hc => ?_⟩
    obtain ⟨c, e1, e2⟩ := h3 pos cv hc
    exact ⟨c, e1, h _ _ e2⟩
section
variable {X : Cx} {T : Tb}
def rListDN (T : Tb) : List V → Hp → VK → Prop := fun xs H Q => ∃ (a : Addr) (kvs : List (Key × V)), xs = [.ref a] ∧ Rd H a (.dK kvs) ∧ ∀ p H2, H p = none → H2 p = some (.lst (kvs.map fun kv => kV kv.1)) → Ext T No H H2 → Q (.ref p) H2
theorem call_listDN (hcalm : X.calm = true) : CallR X (.type "list") (rListDN T) := by
  intro pins s σ H xs us Q I r ⟨a, kvs, e, h1, q⟩
  exact call_listD hcalm pins s σ H xs us Q I r ⟨a, kvs, e, h1, fun p hp => q p _ hp upd_same (Ext.new hp)⟩
def rSortDS (T : Tb) : List V → Hp → VK → Prop := fun xs H Q => ∃ (a : Addr) (kvs : List (Key × V)) (ks : List Str), xs = [.ref a] ∧ Rd H a (.dK kvs) ∧ kvs.map (·.1) = ks.map Sum.inr ∧ ks.length < 64 ∧
    ∀ (ys : List Str) (p : Addr) (H2 : Hp), ys.Perm ks → H p = none → H2 p = some (.lst (ys.map V.str)) → Ext T No H H2 → Q (.ref p) H2
theorem call_sortDS (hcalm : X.calm = true) : CallR X (.builtin "sorted") (rSortDS T) := by
  intro pins s σ H xs us Q I r ⟨a, kvs, ks, e, h1, h2, h3, q⟩
  exact call_sortedD hcalm pins s σ H xs us Q I r ⟨a, kvs, ks, e, h1, h2, h3, fun ys p g1 _ hp => q ys p _ g1 hp upd_same (Ext.new hp)⟩
end
end MB

set_option Elab.async false
set_option linter.all false
set_option maxRecDepth 100000
set_option maxHeartbeats 0
namespace K60
open PySem PySem.Spec PyProof.Rows L2
def top (i : Nat) : Stmt := PySem.Challenge.pw_moonstack_k60_whole_years_of_feasts.main.body.getD i (.Pass ⟨0, 0, 0, 0⟩)
abbrev s_Leaps_init : Stmt := inClass (top 13) 0
abbrev s_Leaps_is_long : Stmt := inClass (top 13) 1
abbrev s_Leaps_long_before : Stmt := inClass (top 13) 2
abbrev s_Leaps_turned : Stmt := inClass (top 13) 3
abbrev s_Leaps_days_before : Stmt := inClass (top 13) 6
abbrev s_least_common : Stmt := top 14
abbrev s_Calendar_init : Stmt := inClass (top 16) 0
abbrev s_Calendar_short : Stmt := inClass (top 16) 1
abbrev s_Calendar_days_in : Stmt := inClass (top 16) 2
abbrev s_Calendar_day_of : Stmt := inClass (top 16) 3
abbrev s_Moons_init : Stmt := inClass (top 19) 0
abbrev s_Moons_new_moon : Stmt := inClass (top 19) 1
abbrev s_Moons_moon_of : Stmt := inClass (top 19) 2
abbrev s_Moons_full_moon : Stmt := inClass (top 19) 4
abbrev s_Feast_init : Stmt := inClass (top 9) 0
abbrev s_Feasts_init : Stmt := inClass (top 10) 0
abbrev s_Feasts_add : Stmt := inClass (top 10) 1
abbrev s_Feasts_weekday : Stmt := inClass (top 10) 2
abbrev s_Feasts_full_from : Stmt := inClass (top 10) 4
abbrev s_Feasts_nth : Stmt := inClass (top 10) 5
abbrev s_Feasts_day : Stmt := inClass (top 10) 3
abbrev s_Feasts_year : Stmt := inClass (top 10) 6
abbrev s_Feasts_meet : Stmt := inClass (top 10) 7
abbrev s_Feasts_spread : Stmt := inClass (top 10) 8
abbrev s_law_dice : Stmt := top 21
abbrev s_law_roll : Stmt := top 22
abbrev s_law_rounds : Stmt := top 23
abbrev s_law_told : Stmt := top 24
abbrev s_law_long : Stmt := top 25
abbrev s_law_rules : Stmt := top 26
abbrev s_law_year : Stmt := top 27
abbrev s_law_start : Stmt := top 28
abbrev s_law_day : Stmt := top 29
abbrev s_law_calendar : Stmt := top 31
abbrev s_law_falls : Stmt := top 32
abbrev s_law_feast : Stmt := top 33
abbrev s_law_plain : Stmt := top 34
abbrev s_law : Stmt := top 35
def d_Leaps_init : He.DefD := ⟨("Leaps", some "__init__"), "__init__", "Leaps.__init__", defArgs s_Leaps_init, defBody s_Leaps_init, defScope s_Leaps_init, [], []⟩
def d_Leaps_is_long : He.DefD := ⟨("Leaps", some "is_long"), "is_long", "Leaps.is_long", defArgs s_Leaps_is_long, defBody s_Leaps_is_long, defScope s_Leaps_is_long, [], []⟩
def d_Leaps_long_before : He.DefD := ⟨("Leaps", some "long_before"), "long_before", "Leaps.long_before", defArgs s_Leaps_long_before, defBody s_Leaps_long_before, defScope s_Leaps_long_before, [], []⟩
def d_Leaps_turned : He.DefD := ⟨("Leaps", some "turned"), "turned", "Leaps.turned", defArgs s_Leaps_turned, defBody s_Leaps_turned, defScope s_Leaps_turned, [], []⟩
def d_Leaps_days_before : He.DefD := ⟨("Leaps", some "days_before"), "days_before", "Leaps.days_before", defArgs s_Leaps_days_before, defBody s_Leaps_days_before, defScope s_Leaps_days_before, [], []⟩
def d_least_common : He.DefD := ⟨("least_common", none), "least_common", "least_common", defArgs s_least_common, defBody s_least_common, defScope s_least_common, [], []⟩
def d_Calendar_init : He.DefD := ⟨("Calendar", some "__init__"), "__init__", "Calendar.__init__", defArgs s_Calendar_init, defBody s_Calendar_init, defScope s_Calendar_init, [], []⟩
def d_Calendar_short : He.DefD := ⟨("Calendar", some "short"), "short", "Calendar.short", defArgs s_Calendar_short, defBody s_Calendar_short, defScope s_Calendar_short, [], []⟩
def d_Calendar_days_in : He.DefD := ⟨("Calendar", some "days_in"), "days_in", "Calendar.days_in", defArgs s_Calendar_days_in, defBody s_Calendar_days_in, defScope s_Calendar_days_in, [], []⟩
def d_Calendar_day_of : He.DefD := ⟨("Calendar", some "day_of"), "day_of", "Calendar.day_of", defArgs s_Calendar_day_of, defBody s_Calendar_day_of, defScope s_Calendar_day_of, [], []⟩
def d_Moons_init : He.DefD := ⟨("Moons", some "__init__"), "__init__", "Moons.__init__", defArgs s_Moons_init, defBody s_Moons_init, defScope s_Moons_init, [], []⟩
def d_Moons_new_moon : He.DefD := ⟨("Moons", some "new_moon"), "new_moon", "Moons.new_moon", defArgs s_Moons_new_moon, defBody s_Moons_new_moon, defScope s_Moons_new_moon, [], []⟩
def d_Moons_moon_of : He.DefD := ⟨("Moons", some "moon_of"), "moon_of", "Moons.moon_of", defArgs s_Moons_moon_of, defBody s_Moons_moon_of, defScope s_Moons_moon_of, [], []⟩
def d_Moons_full_moon : He.DefD := ⟨("Moons", some "full_moon"), "full_moon", "Moons.full_moon", defArgs s_Moons_full_moon, defBody s_Moons_full_moon, defScope s_Moons_full_moon, [], []⟩
def d_Feast_init : He.DefD := ⟨("Feast", some "__init__"), "__init__", "Feast.__init__", defArgs s_Feast_init, defBody s_Feast_init, defScope s_Feast_init, [], []⟩
def d_Feasts_init : He.DefD := ⟨("Feasts", some "__init__"), "__init__", "Feasts.__init__", defArgs s_Feasts_init, defBody s_Feasts_init, defScope s_Feasts_init, [], []⟩
def d_Feasts_add : He.DefD := ⟨("Feasts", some "add"), "add", "Feasts.add", defArgs s_Feasts_add, defBody s_Feasts_add, defScope s_Feasts_add, [], []⟩
def d_Feasts_weekday : He.DefD := ⟨("Feasts", some "weekday"), "weekday", "Feasts.weekday", defArgs s_Feasts_weekday, defBody s_Feasts_weekday, defScope s_Feasts_weekday, [], []⟩
def d_Feasts_full_from : He.DefD := ⟨("Feasts", some "full_from"), "full_from", "Feasts.full_from", defArgs s_Feasts_full_from, defBody s_Feasts_full_from, defScope s_Feasts_full_from, [], []⟩
def d_Feasts_nth : He.DefD := ⟨("Feasts", some "nth"), "nth", "Feasts.nth", defArgs s_Feasts_nth, defBody s_Feasts_nth, defScope s_Feasts_nth, [], []⟩
def d_Feasts_day : He.DefD := ⟨("Feasts", some "day"), "day", "Feasts.day", defArgs s_Feasts_day, defBody s_Feasts_day, defScope s_Feasts_day, [], []⟩
def d_Feasts_year : He.DefD := ⟨("Feasts", some "year"), "year", "Feasts.year", defArgs s_Feasts_year, defBody s_Feasts_year, defScope s_Feasts_year, [], []⟩
def d_Feasts_meet : He.DefD := ⟨("Feasts", some "meet"), "meet", "Feasts.meet", defArgs s_Feasts_meet, defBody s_Feasts_meet, defScope s_Feasts_meet, [], []⟩
def d_Feasts_spread : He.DefD := ⟨("Feasts", some "spread"), "spread", "Feasts.spread", defArgs s_Feasts_spread, defBody s_Feasts_spread, defScope s_Feasts_spread, [], []⟩
def d_law_dice : He.DefD := ⟨("_law_dice", none), "_law_dice", "_law_dice", defArgs s_law_dice, defBody s_law_dice, defScope s_law_dice, [], []⟩
def d_law_roll : He.DefD := ⟨("_law_roll", none), "_law_roll", "_law_roll", defArgs s_law_roll, defBody s_law_roll, defScope s_law_roll, [], []⟩
def d_law_rounds : He.DefD := ⟨("_law_rounds", none), "_law_rounds", "_law_rounds", defArgs s_law_rounds, defBody s_law_rounds, defScope s_law_rounds, [], []⟩
def d_law_told : He.DefD := ⟨("_law_told", none), "_law_told", "_law_told", defArgs s_law_told, defBody s_law_told, defScope s_law_told, [], []⟩
def d_law_long : He.DefD := ⟨("_law_long", none), "_law_long", "_law_long", defArgs s_law_long, defBody s_law_long, defScope s_law_long, [], []⟩
def d_law_rules : He.DefD := ⟨("_law_rules", none), "_law_rules", "_law_rules", defArgs s_law_rules, defBody s_law_rules, defScope s_law_rules, [], []⟩
def d_law_year : He.DefD := ⟨("_law_year", none), "_law_year", "_law_year", defArgs s_law_year, defBody s_law_year, defScope s_law_year, [], []⟩
def d_law_start : He.DefD := ⟨("_law_start", none), "_law_start", "_law_start", defArgs s_law_start, defBody s_law_start, defScope s_law_start, [], []⟩
def d_law_day : He.DefD := ⟨("_law_day", none), "_law_day", "_law_day", defArgs s_law_day, defBody s_law_day, defScope s_law_day, [], []⟩
def d_law_calendar : He.DefD := ⟨("_law_calendar", none), "_law_calendar", "_law_calendar", defArgs s_law_calendar, defBody s_law_calendar, defScope s_law_calendar, [], []⟩
def d_law_falls : He.DefD := ⟨("_law_falls", none), "_law_falls", "_law_falls", defArgs s_law_falls, defBody s_law_falls, defScope s_law_falls, [], []⟩
def d_law_feast : He.DefD := ⟨("_law_feast", none), "_law_feast", "_law_feast", defArgs s_law_feast, defBody s_law_feast, defScope s_law_feast, [], []⟩
def d_law_plain : He.DefD := ⟨("_law_plain", none), "_law_plain", "_law_plain", defArgs s_law_plain, defBody s_law_plain, defScope s_law_plain, [], []⟩
def d_law : He.DefD := ⟨("law", none), "law", "law", defArgs s_law, defBody s_law, defScope s_law, [], []⟩
def fn : List He.DefD := [d_Leaps_init, d_Leaps_is_long, d_Leaps_long_before, d_Leaps_turned, d_Leaps_days_before, d_least_common, d_Calendar_init, d_Calendar_short, d_Calendar_days_in, d_Calendar_day_of, d_Moons_init, d_Moons_new_moon, d_Moons_moon_of, d_Moons_full_moon, d_Feast_init, d_Feasts_init, d_Feasts_add, d_Feasts_weekday, d_Feasts_full_from, d_Feasts_nth, d_Feasts_day, d_Feasts_year, d_Feasts_meet, d_Feasts_spread, d_law_dice, d_law_roll, d_law_rounds, d_law_told, d_law_long, d_law_rules, d_law_year, d_law_start, d_law_day, d_law_calendar, d_law_falls, d_law_feast, d_law_plain, d_law]
def fa : List He.Fa := [.glo "least_common", .glo "_law_dice", .glo "_law_roll", .glo "_law_rounds", .glo "_law_told", .glo "_law_long", .glo "_law_rules", .glo "_law_year", .glo "_law_start", .glo "_law_day", .glo "_law_calendar", .glo "_law_falls", .glo "_law_feast", .glo "_law_plain", .glo "law", .glo "Leaps", .cls "Leaps", .mkr "Leaps", .noat "Leaps" "rules", .meth "Leaps" "is_long", .meth "Leaps" "long_before", .meth "Leaps" "turned", .meth "Leaps" "days_before", .glo "Calendar", .cls "Calendar", .mkr "Calendar", .noat "Calendar" "months", .noat "Calendar" "longer", .noat "Calendar" "leaps", .meth "Calendar" "short", .meth "Calendar" "days_in", .meth "Calendar" "day_of", .glo "Moons", .cls "Moons", .mkr "Moons", .noat "Moons" "length", .noat "Moons" "parts", .noat "Moons" "first", .meth "Moons" "new_moon", .meth "Moons" "moon_of", .meth "Moons" "full_moon", .glo "Feast", .cls "Feast", .mkr "Feast", .noat "Feast" "name", .noat "Feast" "kind", .noat "Feast" "things", .glo "Feasts", .cls "Feasts", .mkr "Feasts", .noat "Feasts" "calendar", .noat "Feasts" "moons", .noat "Feasts" "week", .noat "Feasts" "first", .noat "Feasts" "feasts", .meth "Feasts" "add", .meth "Feasts" "weekday", .meth "Feasts" "full_from", .meth "Feasts" "nth", .meth "Feasts" "day", .meth "Feasts" "year", .meth "Feasts" "meet", .meth "Feasts" "spread", .glo "YearError", .exc "YearError", .glo "MonthError", .exc "MonthError", .glo "CycleError", .exc "CycleError", .glo "FeastError", .exc "FeastError", .glo "MoonError", .exc "MoonError", .exm "YearError" "MoonError" true, .exm "MonthError" "MoonError" true, .exm "CycleError" "MoonError" true, .exm "FeastError" "MoonError" true, .int "MOST_YEAR" 99999, .int "MOST_MOONS" 200000, .int "MOST_FEASTS" 40, .free "tuple", .free "len", .free "any", .free "zip", .free "range", .free "abs", .free "int", .free "sorted", .free "dict", .free "sum", .free "min", .free "list", .free "str", .free "max", .free "enumerate"]
def tf : List He.Defn := [("Leaps", some "__init__"), ("Calendar", some "__init__"), ("Calendar", some "short"), ("Feasts", some "year"), ("_law_plain", none), ("law", none)]
abbrev R : PySem.W.OpenRow := PySem.W.OpenLaw.row PySem.Challenge.rw_moonstack_k60_whole_years_of_feasts
def exB : PySem.W.Frag → Bool := fun K => ([(He.cT K ("Leaps", some "__init__")).2, (He.cT K ("Calendar", some "__init__")).2, (He.cT K ("Calendar", some "short")).2, (He.cT K ("Feasts", some "year")).2].all fun p => [(He.cT K ("_law_plain", none)).2, (He.cT K ("law", none)).2].all fun q => decide (p ≠ q)) && decide ((He.cT K ("_law_plain", none)).2 ≠ (He.cT K ("law", none)).2)
abbrev hk : PySem.W.Hook := He.hookX 6 fa fn [] tf exB
def ob (s : PySem.W.SharedT) : He.AlX := He.obsX 6 fa fn [] tf exB (HandSHeadRun.getT s)
theorem ob_eq (s : PySem.W.SharedT) : ob s = hk.obs s.abs := He.obsX_eq (HandSHeadRun.getT_eq s)
def loose0 : List Str := ["_wall", "MoonError", "YearError", "MonthError", "CycleError", "FeastError", "MOST_FEASTS", "Feast", "Feasts", "MOST_YEAR", "Leaps", "least_common", "Calendar", "MOST_MOONS", "Moons", "_law_dice", "_law_roll", "_law_rounds", "_law_told", "_law_long", "_law_rules", "_law_year", "_law_start", "_law_day", "_law_date", "_law_calendar", "_law_falls", "_law_feast", "_law_plain"]
def loose : List Str := loose0
theorem run (w : World) : HandSHeadRun.RunEq R (PySem.W.view R.prog [35]) hk ob 4000 loose w := by
  intro os
  kernel_rfl
end K60
namespace K60
open PySem PySem.Spec PyProof.Rows L2
theorem sc_Leaps_init : FnScope ["self", "rules", "number", "longer", "one", "other"] ["self", "rules"] (defScope s_Leaps_init) := ⟨rfl, rfl, rfl, by decide +kernel, rfl, by decide +kernel, by decide +kernel⟩
theorem sc_Leaps_is_long : FnScope ["self", "year", "found", "number", "longer"] ["self", "year"] (defScope s_Leaps_is_long) := ⟨rfl, rfl, rfl, by decide +kernel, rfl, by decide +kernel, by decide +kernel⟩
theorem sc_Leaps_long_before : FnScope ["self", "year", "found", "place"] ["self", "year"] (defScope s_Leaps_long_before) := ⟨rfl, rfl, rfl, by decide +kernel, rfl, by decide +kernel, by decide +kernel⟩
theorem sc_Leaps_turned : FnScope ["self", "place", "year", "found", "left", "number", "start", "sign", "later"] ["self", "place", "year"] (defScope s_Leaps_turned) := ⟨rfl, rfl, rfl, by decide +kernel, rfl, by decide +kernel, by decide +kernel⟩
theorem sc_Leaps_days_before : FnScope ["self", "year", "short"] ["self", "year", "short"] (defScope s_Leaps_days_before) := ⟨rfl, rfl, rfl, by decide +kernel, rfl, by decide +kernel, by decide +kernel⟩
theorem sc_least_common : FnScope ["one", "other", "low", "high"] ["one", "other"] (defScope s_least_common) := ⟨rfl, rfl, rfl, by decide +kernel, rfl, by decide +kernel, by decide +kernel⟩
theorem sc_Calendar_init : FnScope ["self", "months", "longer", "rules", "name", "days", "names"] ["self", "months", "longer", "rules"] (defScope s_Calendar_init) := ⟨rfl, rfl, rfl, by decide +kernel, rfl, by decide +kernel, by decide +kernel⟩
theorem sc_Calendar_short : FnScope ["self", "name", "days"] ["self"] (defScope s_Calendar_short) := ⟨rfl, rfl, rfl, by decide +kernel, rfl, by decide +kernel, by decide +kernel⟩
theorem sc_Calendar_days_in : FnScope ["self", "year", "month", "name", "days"] ["self", "year", "month"] (defScope s_Calendar_days_in) := ⟨rfl, rfl, rfl, by decide +kernel, rfl, by decide +kernel, by decide +kernel⟩
theorem sc_Calendar_day_of : FnScope ["self", "year", "month", "day", "found", "name", "days"] ["self", "year", "month", "day"] (defScope s_Calendar_day_of) := ⟨rfl, rfl, rfl, by decide +kernel, rfl, by decide +kernel, by decide +kernel⟩
theorem sc_Moons_init : FnScope ["self", "length", "parts", "first"] ["self", "length", "parts", "first"] (defScope s_Moons_init) := ⟨rfl, rfl, rfl, by decide +kernel, rfl, by decide +kernel, by decide +kernel⟩
theorem sc_Moons_new_moon : FnScope ["self", "number", "whole"] ["self", "number"] (defScope s_Moons_new_moon) := ⟨rfl, rfl, rfl, by decide +kernel, rfl, by decide +kernel, by decide +kernel⟩
theorem sc_Moons_moon_of : FnScope ["self", "day", "number"] ["self", "day"] (defScope s_Moons_moon_of) := ⟨rfl, rfl, rfl, by decide +kernel, rfl, by decide +kernel, by decide +kernel⟩
theorem sc_Moons_full_moon : FnScope ["self", "number", "day", "part", "whole"] ["self", "number"] (defScope s_Moons_full_moon) := ⟨rfl, rfl, rfl, by decide +kernel, rfl, by decide +kernel, by decide +kernel⟩
theorem sc_Feast_init : FnScope ["self", "name", "kind", "things", "sizes"] ["self", "name", "kind", "things"] (defScope s_Feast_init) := ⟨rfl, rfl, rfl, by decide +kernel, rfl, by decide +kernel, by decide +kernel⟩
theorem sc_Feasts_init : FnScope ["self", "calendar", "moons", "week", "first"] ["self", "calendar", "moons", "week", "first"] (defScope s_Feasts_init) := ⟨rfl, rfl, rfl, by decide +kernel, rfl, by decide +kernel, by decide +kernel⟩
theorem sc_Feasts_add : FnScope ["self", "feast"] ["self", "feast"] (defScope s_Feasts_add) := ⟨rfl, rfl, rfl, by decide +kernel, rfl, by decide +kernel, by decide +kernel⟩
theorem sc_Feasts_weekday : FnScope ["self", "day"] ["self", "day"] (defScope s_Feasts_weekday) := ⟨rfl, rfl, rfl, by decide +kernel, rfl, by decide +kernel, by decide +kernel⟩
theorem sc_Feasts_full_from : FnScope ["self", "start", "number"] ["self", "start"] (defScope s_Feasts_full_from) := ⟨rfl, rfl, rfl, by decide +kernel, rfl, by decide +kernel, by decide +kernel⟩
theorem sc_Feasts_nth : FnScope ["self", "year", "month", "weekday", "which", "start", "end", "days", "day"] ["self", "year", "month", "weekday", "which"] (defScope s_Feasts_nth) := ⟨rfl, rfl, rfl, by decide +kernel, rfl, by decide +kernel, by decide +kernel⟩
theorem sc_Feasts_day : FnScope ["self", "name", "year", "feast", "month", "day", "start", "found"] ["self", "name", "year"] (defScope s_Feasts_day) := ⟨rfl, rfl, rfl, by decide +kernel, rfl, by decide +kernel, by decide +kernel⟩
theorem sc_Feasts_year : FnScope ["self", "year", "rows", "place", "name", "day"] ["self", "year"] (defScope s_Feasts_year) := ⟨rfl, rfl, rfl, by decide +kernel, rfl, by decide +kernel, by decide +kernel⟩
theorem sc_Feasts_meet : FnScope ["self", "one", "other", "first", "last", "found", "year", "day"] ["self", "one", "other", "first", "last"] (defScope s_Feasts_meet) := ⟨rfl, rfl, rfl, by decide +kernel, rfl, by decide +kernel, by decide +kernel⟩
theorem sc_Feasts_spread : FnScope ["self", "name", "first", "last", "found", "year", "day"] ["self", "name", "first", "last"] (defScope s_Feasts_spread) := ⟨rfl, rfl, rfl, by decide +kernel, rfl, by decide +kernel, by decide +kernel⟩
theorem sc_law_dice : FnScope ["cell"] ["cell"] (defScope s_law_dice) := ⟨rfl, rfl, rfl, by decide +kernel, rfl, by decide +kernel, by decide +kernel⟩
theorem sc_law_roll : FnScope ["dice", "many", "found"] ["dice", "many"] (defScope s_law_roll) := ⟨rfl, rfl, rfl, by decide +kernel, rfl, by decide +kernel, by decide +kernel⟩
theorem sc_law_rounds : FnScope ["script", "most", "cells", "cell"] ["script", "most"] (defScope s_law_rounds) := ⟨rfl, rfl, rfl, by decide +kernel, rfl, by decide +kernel, by decide +kernel⟩
theorem sc_law_told : FnScope ["what"] ["what"] (defScope s_law_told) := ⟨rfl, rfl, rfl, by decide +kernel, rfl, by decide +kernel, by decide +kernel⟩
theorem sc_law_long : FnScope ["rules", "year", "found", "number", "longer"] ["rules", "year"] (defScope s_law_long) := ⟨rfl, rfl, rfl, by decide +kernel, rfl, by decide +kernel, by decide +kernel⟩
theorem sc_law_rules : FnScope ["dice", "numbers", "k", "number"] ["dice"] (defScope s_law_rules) := ⟨rfl, rfl, rfl, by decide +kernel, rfl, by decide +kernel, by decide +kernel⟩
theorem sc_law_year : FnScope ["own", "year", "name", "days"] ["own", "year"] (defScope s_law_year) := ⟨rfl, rfl, rfl, by decide +kernel, rfl, by decide +kernel, by decide +kernel⟩
theorem sc_law_start : FnScope ["own", "year", "name", "days", "one"] ["own", "year"] (defScope s_law_start) := ⟨rfl, rfl, rfl, by decide +kernel, rfl, by decide +kernel, by decide +kernel⟩
theorem sc_law_day : FnScope ["own", "year", "month", "day", "found", "name", "days"] ["own", "year", "month", "day"] (defScope s_law_day) := ⟨rfl, rfl, rfl, by decide +kernel, rfl, by decide +kernel, by decide +kernel⟩
theorem sc_law_calendar : FnScope ["dice", "months", "k"] ["dice"] (defScope s_law_calendar) := ⟨rfl, rfl, rfl, by decide +kernel, rfl, by decide +kernel, by decide +kernel⟩
theorem sc_law_falls : FnScope ["own", "name", "year", "kind", "things", "rows", "start", "full", "days", "day"] ["own", "name", "year"] (defScope s_law_falls) := ⟨rfl, rfl, rfl, by decide +kernel, rfl, by decide +kernel, by decide +kernel⟩
theorem sc_law_feast : FnScope ["dice", "own", "kind", "month", "name"] ["dice", "own"] (defScope s_law_feast) := ⟨rfl, rfl, rfl, by decide +kernel, rfl, by decide +kernel, by decide +kernel⟩
theorem sc_law_plain : FnScope ["calendar", "moons", "feasts", "k", "bad", "f", "other"] [] (defScope s_law_plain) := ⟨rfl, rfl, rfl, by decide +kernel, rfl, by decide +kernel, by decide +kernel⟩
theorem sc_law : FnScope ["script", "dice", "own", "parts", "calendar", "moons", "feasts", "step", "name", "kind", "things", "good", "year", "last", "rows", "place", "day", "names", "one", "other", "both", "k", "a", "b", "days"] ["script"] (defScope s_law) := ⟨rfl, rfl, rfl, by decide +kernel, rfl, by decide +kernel, by decide +kernel⟩
def TT (K : PySem.W.Frag) : MB.Tb := ⟨[(He.cT K ("Leaps", some "__init__")).2, (He.cT K ("Calendar", some "__init__")).2, (He.cT K ("Calendar", some "short")).2, (He.cT K ("Feasts", some "year")).2], [((He.cT K ("_law_plain", none)).2, "_law_plain.<locals>.<lambda>"), ((He.cT K ("law", none)).2, "law.<locals>.<lambda>")]⟩
structure Tx (K : PySem.W.Frag) (mg : Str → Option Value) (base : Heap) where
  fd_Leaps_init : FuncData
  F_Leaps_init : FunD K "__init__" "Leaps.__init__" (defArgs s_Leaps_init) (defBody s_Leaps_init) (defScope s_Leaps_init) [] [] (He.fAd K ("Leaps", some "__init__")) fd_Leaps_init
  fd_Leaps_is_long : FuncData
  F_Leaps_is_long : FunD K "is_long" "Leaps.is_long" (defArgs s_Leaps_is_long) (defBody s_Leaps_is_long) (defScope s_Leaps_is_long) [] [] (He.fAd K ("Leaps", some "is_long")) fd_Leaps_is_long
  m_Leaps_is_long : Meth K (He.ga K "Leaps") "is_long" (He.ma K (He.ga K "Leaps") "is_long")
  fd_Leaps_long_before : FuncData
  F_Leaps_long_before : FunD K "long_before" "Leaps.long_before" (defArgs s_Leaps_long_before) (defBody s_Leaps_long_before) (defScope s_Leaps_long_before) [] [] (He.fAd K ("Leaps", some "long_before")) fd_Leaps_long_before
  m_Leaps_long_before : Meth K (He.ga K "Leaps") "long_before" (He.ma K (He.ga K "Leaps") "long_before")
  fd_Leaps_turned : FuncData
  F_Leaps_turned : FunD K "turned" "Leaps.turned" (defArgs s_Leaps_turned) (defBody s_Leaps_turned) (defScope s_Leaps_turned) [] [] (He.fAd K ("Leaps", some "turned")) fd_Leaps_turned
  m_Leaps_turned : Meth K (He.ga K "Leaps") "turned" (He.ma K (He.ga K "Leaps") "turned")
  fd_Leaps_days_before : FuncData
  F_Leaps_days_before : FunD K "days_before" "Leaps.days_before" (defArgs s_Leaps_days_before) (defBody s_Leaps_days_before) (defScope s_Leaps_days_before) [] [] (He.fAd K ("Leaps", some "days_before")) fd_Leaps_days_before
  m_Leaps_days_before : Meth K (He.ga K "Leaps") "days_before" (He.ma K (He.ga K "Leaps") "days_before")
  fd_least_common : FuncData
  F_least_common : FunD K "least_common" "least_common" (defArgs s_least_common) (defBody s_least_common) (defScope s_least_common) [] [] (He.fAd K ("least_common", none)) fd_least_common
  g_least_common : mg "least_common" = some (.ref (He.ga K "least_common"))
  fd_Calendar_init : FuncData
  F_Calendar_init : FunD K "__init__" "Calendar.__init__" (defArgs s_Calendar_init) (defBody s_Calendar_init) (defScope s_Calendar_init) [] [] (He.fAd K ("Calendar", some "__init__")) fd_Calendar_init
  fd_Calendar_short : FuncData
  F_Calendar_short : FunD K "short" "Calendar.short" (defArgs s_Calendar_short) (defBody s_Calendar_short) (defScope s_Calendar_short) [] [] (He.fAd K ("Calendar", some "short")) fd_Calendar_short
  m_Calendar_short : Meth K (He.ga K "Calendar") "short" (He.ma K (He.ga K "Calendar") "short")
  fd_Calendar_days_in : FuncData
  F_Calendar_days_in : FunD K "days_in" "Calendar.days_in" (defArgs s_Calendar_days_in) (defBody s_Calendar_days_in) (defScope s_Calendar_days_in) [] [] (He.fAd K ("Calendar", some "days_in")) fd_Calendar_days_in
  m_Calendar_days_in : Meth K (He.ga K "Calendar") "days_in" (He.ma K (He.ga K "Calendar") "days_in")
  fd_Calendar_day_of : FuncData
  F_Calendar_day_of : FunD K "day_of" "Calendar.day_of" (defArgs s_Calendar_day_of) (defBody s_Calendar_day_of) (defScope s_Calendar_day_of) [] [] (He.fAd K ("Calendar", some "day_of")) fd_Calendar_day_of
  m_Calendar_day_of : Meth K (He.ga K "Calendar") "day_of" (He.ma K (He.ga K "Calendar") "day_of")
  fd_Moons_init : FuncData
  F_Moons_init : FunD K "__init__" "Moons.__init__" (defArgs s_Moons_init) (defBody s_Moons_init) (defScope s_Moons_init) [] [] (He.fAd K ("Moons", some "__init__")) fd_Moons_init
  fd_Moons_new_moon : FuncData
  F_Moons_new_moon : FunD K "new_moon" "Moons.new_moon" (defArgs s_Moons_new_moon) (defBody s_Moons_new_moon) (defScope s_Moons_new_moon) [] [] (He.fAd K ("Moons", some "new_moon")) fd_Moons_new_moon
  m_Moons_new_moon : Meth K (He.ga K "Moons") "new_moon" (He.ma K (He.ga K "Moons") "new_moon")
  fd_Moons_moon_of : FuncData
  F_Moons_moon_of : FunD K "moon_of" "Moons.moon_of" (defArgs s_Moons_moon_of) (defBody s_Moons_moon_of) (defScope s_Moons_moon_of) [] [] (He.fAd K ("Moons", some "moon_of")) fd_Moons_moon_of
  m_Moons_moon_of : Meth K (He.ga K "Moons") "moon_of" (He.ma K (He.ga K "Moons") "moon_of")
  fd_Moons_full_moon : FuncData
  F_Moons_full_moon : FunD K "full_moon" "Moons.full_moon" (defArgs s_Moons_full_moon) (defBody s_Moons_full_moon) (defScope s_Moons_full_moon) [] [] (He.fAd K ("Moons", some "full_moon")) fd_Moons_full_moon
  m_Moons_full_moon : Meth K (He.ga K "Moons") "full_moon" (He.ma K (He.ga K "Moons") "full_moon")
  fd_Feast_init : FuncData
  F_Feast_init : FunD K "__init__" "Feast.__init__" (defArgs s_Feast_init) (defBody s_Feast_init) (defScope s_Feast_init) [] [] (He.fAd K ("Feast", some "__init__")) fd_Feast_init
  fd_Feasts_init : FuncData
  F_Feasts_init : FunD K "__init__" "Feasts.__init__" (defArgs s_Feasts_init) (defBody s_Feasts_init) (defScope s_Feasts_init) [] [] (He.fAd K ("Feasts", some "__init__")) fd_Feasts_init
  fd_Feasts_add : FuncData
  F_Feasts_add : FunD K "add" "Feasts.add" (defArgs s_Feasts_add) (defBody s_Feasts_add) (defScope s_Feasts_add) [] [] (He.fAd K ("Feasts", some "add")) fd_Feasts_add
  m_Feasts_add : Meth K (He.ga K "Feasts") "add" (He.ma K (He.ga K "Feasts") "add")
  fd_Feasts_weekday : FuncData
  F_Feasts_weekday : FunD K "weekday" "Feasts.weekday" (defArgs s_Feasts_weekday) (defBody s_Feasts_weekday) (defScope s_Feasts_weekday) [] [] (He.fAd K ("Feasts", some "weekday")) fd_Feasts_weekday
  m_Feasts_weekday : Meth K (He.ga K "Feasts") "weekday" (He.ma K (He.ga K "Feasts") "weekday")
  fd_Feasts_full_from : FuncData
  F_Feasts_full_from : FunD K "full_from" "Feasts.full_from" (defArgs s_Feasts_full_from) (defBody s_Feasts_full_from) (defScope s_Feasts_full_from) [] [] (He.fAd K ("Feasts", some "full_from")) fd_Feasts_full_from
  m_Feasts_full_from : Meth K (He.ga K "Feasts") "full_from" (He.ma K (He.ga K "Feasts") "full_from")
  fd_Feasts_nth : FuncData
  F_Feasts_nth : FunD K "nth" "Feasts.nth" (defArgs s_Feasts_nth) (defBody s_Feasts_nth) (defScope s_Feasts_nth) [] [] (He.fAd K ("Feasts", some "nth")) fd_Feasts_nth
  m_Feasts_nth : Meth K (He.ga K "Feasts") "nth" (He.ma K (He.ga K "Feasts") "nth")
  fd_Feasts_day : FuncData
  F_Feasts_day : FunD K "day" "Feasts.day" (defArgs s_Feasts_day) (defBody s_Feasts_day) (defScope s_Feasts_day) [] [] (He.fAd K ("Feasts", some "day")) fd_Feasts_day
  m_Feasts_day : Meth K (He.ga K "Feasts") "day" (He.ma K (He.ga K "Feasts") "day")
  fd_Feasts_year : FuncData
  F_Feasts_year : FunD K "year" "Feasts.year" (defArgs s_Feasts_year) (defBody s_Feasts_year) (defScope s_Feasts_year) [] [] (He.fAd K ("Feasts", some "year")) fd_Feasts_year
  m_Feasts_year : Meth K (He.ga K "Feasts") "year" (He.ma K (He.ga K "Feasts") "year")
  fd_Feasts_meet : FuncData
  F_Feasts_meet : FunD K "meet" "Feasts.meet" (defArgs s_Feasts_meet) (defBody s_Feasts_meet) (defScope s_Feasts_meet) [] [] (He.fAd K ("Feasts", some "meet")) fd_Feasts_meet
  m_Feasts_meet : Meth K (He.ga K "Feasts") "meet" (He.ma K (He.ga K "Feasts") "meet")
  fd_Feasts_spread : FuncData
  F_Feasts_spread : FunD K "spread" "Feasts.spread" (defArgs s_Feasts_spread) (defBody s_Feasts_spread) (defScope s_Feasts_spread) [] [] (He.fAd K ("Feasts", some "spread")) fd_Feasts_spread
  m_Feasts_spread : Meth K (He.ga K "Feasts") "spread" (He.ma K (He.ga K "Feasts") "spread")
  fd_law_dice : FuncData
  F_law_dice : FunD K "_law_dice" "_law_dice" (defArgs s_law_dice) (defBody s_law_dice) (defScope s_law_dice) [] [] (He.fAd K ("_law_dice", none)) fd_law_dice
  g_law_dice : mg "_law_dice" = some (.ref (He.ga K "_law_dice"))
  fd_law_roll : FuncData
  F_law_roll : FunD K "_law_roll" "_law_roll" (defArgs s_law_roll) (defBody s_law_roll) (defScope s_law_roll) [] [] (He.fAd K ("_law_roll", none)) fd_law_roll
  g_law_roll : mg "_law_roll" = some (.ref (He.ga K "_law_roll"))
  fd_law_rounds : FuncData
  F_law_rounds : FunD K "_law_rounds" "_law_rounds" (defArgs s_law_rounds) (defBody s_law_rounds) (defScope s_law_rounds) [] [] (He.fAd K ("_law_rounds", none)) fd_law_rounds
  g_law_rounds : mg "_law_rounds" = some (.ref (He.ga K "_law_rounds"))
  fd_law_told : FuncData
  F_law_told : FunD K "_law_told" "_law_told" (defArgs s_law_told) (defBody s_law_told) (defScope s_law_told) [] [] (He.fAd K ("_law_told", none)) fd_law_told
  g_law_told : mg "_law_told" = some (.ref (He.ga K "_law_told"))
  fd_law_long : FuncData
  F_law_long : FunD K "_law_long" "_law_long" (defArgs s_law_long) (defBody s_law_long) (defScope s_law_long) [] [] (He.fAd K ("_law_long", none)) fd_law_long
  g_law_long : mg "_law_long" = some (.ref (He.ga K "_law_long"))
  fd_law_rules : FuncData
  F_law_rules : FunD K "_law_rules" "_law_rules" (defArgs s_law_rules) (defBody s_law_rules) (defScope s_law_rules) [] [] (He.fAd K ("_law_rules", none)) fd_law_rules
  g_law_rules : mg "_law_rules" = some (.ref (He.ga K "_law_rules"))
  fd_law_year : FuncData
  F_law_year : FunD K "_law_year" "_law_year" (defArgs s_law_year) (defBody s_law_year) (defScope s_law_year) [] [] (He.fAd K ("_law_year", none)) fd_law_year
  g_law_year : mg "_law_year" = some (.ref (He.ga K "_law_year"))
  fd_law_start : FuncData
  F_law_start : FunD K "_law_start" "_law_start" (defArgs s_law_start) (defBody s_law_start) (defScope s_law_start) [] [] (He.fAd K ("_law_start", none)) fd_law_start
  g_law_start : mg "_law_start" = some (.ref (He.ga K "_law_start"))
  fd_law_day : FuncData
  F_law_day : FunD K "_law_day" "_law_day" (defArgs s_law_day) (defBody s_law_day) (defScope s_law_day) [] [] (He.fAd K ("_law_day", none)) fd_law_day
  g_law_day : mg "_law_day" = some (.ref (He.ga K "_law_day"))
  fd_law_calendar : FuncData
  F_law_calendar : FunD K "_law_calendar" "_law_calendar" (defArgs s_law_calendar) (defBody s_law_calendar) (defScope s_law_calendar) [] [] (He.fAd K ("_law_calendar", none)) fd_law_calendar
  g_law_calendar : mg "_law_calendar" = some (.ref (He.ga K "_law_calendar"))
  fd_law_falls : FuncData
  F_law_falls : FunD K "_law_falls" "_law_falls" (defArgs s_law_falls) (defBody s_law_falls) (defScope s_law_falls) [] [] (He.fAd K ("_law_falls", none)) fd_law_falls
  g_law_falls : mg "_law_falls" = some (.ref (He.ga K "_law_falls"))
  fd_law_feast : FuncData
  F_law_feast : FunD K "_law_feast" "_law_feast" (defArgs s_law_feast) (defBody s_law_feast) (defScope s_law_feast) [] [] (He.fAd K ("_law_feast", none)) fd_law_feast
  g_law_feast : mg "_law_feast" = some (.ref (He.ga K "_law_feast"))
  fd_law_plain : FuncData
  F_law_plain : FunD K "_law_plain" "_law_plain" (defArgs s_law_plain) (defBody s_law_plain) (defScope s_law_plain) [] [] (He.fAd K ("_law_plain", none)) fd_law_plain
  g_law_plain : mg "_law_plain" = some (.ref (He.ga K "_law_plain"))
  fd_law : FuncData
  F_law : FunD K "law" "law" (defArgs s_law) (defBody s_law) (defScope s_law) [] [] (He.fAd K ("law", none)) fd_law
  g_law : mg "law" = some (.ref (He.ga K "law"))
  g_Leaps : mg "Leaps" = some (.ref (He.ga K "Leaps"))
  c_Leaps : Cls K (He.ga K "Leaps")
  mk_Leaps : Mk K (He.ga K "Leaps") (He.ma K (He.ga K "Leaps") "__init__")
  na_Leaps_rules : NoAttr K (He.ga K "Leaps") "rules"
  g_Calendar : mg "Calendar" = some (.ref (He.ga K "Calendar"))
  c_Calendar : Cls K (He.ga K "Calendar")
  mk_Calendar : Mk K (He.ga K "Calendar") (He.ma K (He.ga K "Calendar") "__init__")
  na_Calendar_months : NoAttr K (He.ga K "Calendar") "months"
  na_Calendar_longer : NoAttr K (He.ga K "Calendar") "longer"
  na_Calendar_leaps : NoAttr K (He.ga K "Calendar") "leaps"
  g_Moons : mg "Moons" = some (.ref (He.ga K "Moons"))
  c_Moons : Cls K (He.ga K "Moons")
  mk_Moons : Mk K (He.ga K "Moons") (He.ma K (He.ga K "Moons") "__init__")
  na_Moons_length : NoAttr K (He.ga K "Moons") "length"
  na_Moons_parts : NoAttr K (He.ga K "Moons") "parts"
  na_Moons_first : NoAttr K (He.ga K "Moons") "first"
  g_Feast : mg "Feast" = some (.ref (He.ga K "Feast"))
  c_Feast : Cls K (He.ga K "Feast")
  mk_Feast : Mk K (He.ga K "Feast") (He.ma K (He.ga K "Feast") "__init__")
  na_Feast_name : NoAttr K (He.ga K "Feast") "name"
  na_Feast_kind : NoAttr K (He.ga K "Feast") "kind"
  na_Feast_things : NoAttr K (He.ga K "Feast") "things"
  g_Feasts : mg "Feasts" = some (.ref (He.ga K "Feasts"))
  c_Feasts : Cls K (He.ga K "Feasts")
  mk_Feasts : Mk K (He.ga K "Feasts") (He.ma K (He.ga K "Feasts") "__init__")
  na_Feasts_calendar : NoAttr K (He.ga K "Feasts") "calendar"
  na_Feasts_moons : NoAttr K (He.ga K "Feasts") "moons"
  na_Feasts_week : NoAttr K (He.ga K "Feasts") "week"
  na_Feasts_first : NoAttr K (He.ga K "Feasts") "first"
  na_Feasts_feasts : NoAttr K (He.ga K "Feasts") "feasts"
  g_YearError : mg "YearError" = some (.ref (He.ga K "YearError"))
  x_YearError : PySem.W.excIn K (He.ga K "YearError") He.veBase "ValueError.__new__" = true ∧ PySem.W.keepIn K (.ref (He.ga K "YearError")) = true ∧ PySem.W.subIn K (.ref (He.ga K "YearError")) (.type "BaseException") = some true ∧ PySem.W.typeIn K (.ref (He.ga K "YearError")) = some (.type "type")
  g_MonthError : mg "MonthError" = some (.ref (He.ga K "MonthError"))
  x_MonthError : PySem.W.excIn K (He.ga K "MonthError") He.veBase "ValueError.__new__" = true ∧ PySem.W.keepIn K (.ref (He.ga K "MonthError")) = true ∧ PySem.W.subIn K (.ref (He.ga K "MonthError")) (.type "BaseException") = some true ∧ PySem.W.typeIn K (.ref (He.ga K "MonthError")) = some (.type "type")
  g_CycleError : mg "CycleError" = some (.ref (He.ga K "CycleError"))
  x_CycleError : PySem.W.excIn K (He.ga K "CycleError") He.veBase "ValueError.__new__" = true ∧ PySem.W.keepIn K (.ref (He.ga K "CycleError")) = true ∧ PySem.W.subIn K (.ref (He.ga K "CycleError")) (.type "BaseException") = some true ∧ PySem.W.typeIn K (.ref (He.ga K "CycleError")) = some (.type "type")
  g_FeastError : mg "FeastError" = some (.ref (He.ga K "FeastError"))
  x_FeastError : PySem.W.excIn K (He.ga K "FeastError") He.veBase "ValueError.__new__" = true ∧ PySem.W.keepIn K (.ref (He.ga K "FeastError")) = true ∧ PySem.W.subIn K (.ref (He.ga K "FeastError")) (.type "BaseException") = some true ∧ PySem.W.typeIn K (.ref (He.ga K "FeastError")) = some (.type "type")
  g_MoonError : mg "MoonError" = some (.ref (He.ga K "MoonError"))
  x_MoonError : PySem.W.excIn K (He.ga K "MoonError") He.veBase "ValueError.__new__" = true ∧ PySem.W.keepIn K (.ref (He.ga K "MoonError")) = true ∧ PySem.W.subIn K (.ref (He.ga K "MoonError")) (.type "BaseException") = some true ∧ PySem.W.typeIn K (.ref (He.ga K "MoonError")) = some (.type "type")
  xm_YearError_MoonError : PySem.W.exmOne K (.ref (He.ga K "YearError")) (.ref (He.ga K "MoonError")) = some true
  xm_MonthError_MoonError : PySem.W.exmOne K (.ref (He.ga K "MonthError")) (.ref (He.ga K "MoonError")) = some true
  xm_CycleError_MoonError : PySem.W.exmOne K (.ref (He.ga K "CycleError")) (.ref (He.ga K "MoonError")) = some true
  xm_FeastError_MoonError : PySem.W.exmOne K (.ref (He.ga K "FeastError")) (.ref (He.ga K "MoonError")) = some true
  i_MOST_YEAR : ∃ t, mg "MOST_YEAR" = some (.int 99999 t)
  i_MOST_MOONS : ∃ t, mg "MOST_MOONS" = some (.int 200000 t)
  i_MOST_FEASTS : ∃ t, mg "MOST_FEASTS" = some (.int 40 t)
  b_tuple : mg "tuple" = none
  b_len : mg "len" = none
  b_any : mg "any" = none
  b_zip : mg "zip" = none
  b_range : mg "range" = none
  b_abs : mg "abs" = none
  b_int : mg "int" = none
  b_sorted : mg "sorted" = none
  b_dict : mg "dict" = none
  b_sum : mg "sum" = none
  b_min : mg "min" = none
  b_list : mg "list" = none
  b_str : mg "str" = none
  b_max : mg "max" = none
  b_enumerate : mg "enumerate" = none
  tb_Leaps_init : GxR.TabB base mg (He.cT K ("Leaps", some "__init__")).1 (He.cT K ("Leaps", some "__init__")).2
  tb_Calendar_init : GxR.TabB base mg (He.cT K ("Calendar", some "__init__")).1 (He.cT K ("Calendar", some "__init__")).2
  tb_Calendar_short : GxR.TabB base mg (He.cT K ("Calendar", some "short")).1 (He.cT K ("Calendar", some "short")).2
  tb_Feasts_year : GxR.TabB base mg (He.cT K ("Feasts", some "year")).1 (He.cT K ("Feasts", some "year")).2
  tb_law_plain : GxR.TabB base mg (He.cT K ("_law_plain", none)).1 (He.cT K ("_law_plain", none)).2
  tb_law : GxR.TabB base mg (He.cT K ("law", none)).1 (He.cT K ("law", none)).2
theorem tx_of {K : PySem.W.Frag} {mg : Str → Option Value} {base h : Heap} {w : World} (X : K.In h) (G : h.Ns mainGlobals mg) (c : He.SaysX fa fn [] tf exB w h K) (tb : ∀ p ∈ tf.map (He.cT K), GxR.TabB base mg p.1 p.2) : Nonempty (Tx K mg base) := by
  have D := c.t.d
  obtain ⟨f0, F0⟩ := D.def_ 0 (d := d_Leaps_init) rfl
  obtain ⟨f1, F1⟩ := D.def_ 1 (d := d_Leaps_is_long) rfl
  obtain ⟨f2, F2⟩ := D.def_ 2 (d := d_Leaps_long_before) rfl
  obtain ⟨f3, F3⟩ := D.def_ 3 (d := d_Leaps_turned) rfl
  obtain ⟨f4, F4⟩ := D.def_ 4 (d := d_Leaps_days_before) rfl
  obtain ⟨f5, F5⟩ := D.def_ 5 (d := d_least_common) rfl
  obtain ⟨f6, F6⟩ := D.def_ 6 (d := d_Calendar_init) rfl
  obtain ⟨f7, F7⟩ := D.def_ 7 (d := d_Calendar_short) rfl
  obtain ⟨f8, F8⟩ := D.def_ 8 (d := d_Calendar_days_in) rfl
  obtain ⟨f9, F9⟩ := D.def_ 9 (d := d_Calendar_day_of) rfl
  obtain ⟨f10, F10⟩ := D.def_ 10 (d := d_Moons_init) rfl
  obtain ⟨f11, F11⟩ := D.def_ 11 (d := d_Moons_new_moon) rfl
  obtain ⟨f12, F12⟩ := D.def_ 12 (d := d_Moons_moon_of) rfl
  obtain ⟨f13, F13⟩ := D.def_ 13 (d := d_Moons_full_moon) rfl
  obtain ⟨f14, F14⟩ := D.def_ 14 (d := d_Feast_init) rfl
  obtain ⟨f15, F15⟩ := D.def_ 15 (d := d_Feasts_init) rfl
  obtain ⟨f16, F16⟩ := D.def_ 16 (d := d_Feasts_add) rfl
  obtain ⟨f17, F17⟩ := D.def_ 17 (d := d_Feasts_weekday) rfl
  obtain ⟨f18, F18⟩ := D.def_ 18 (d := d_Feasts_full_from) rfl
  obtain ⟨f19, F19⟩ := D.def_ 19 (d := d_Feasts_nth) rfl
  obtain ⟨f20, F20⟩ := D.def_ 20 (d := d_Feasts_day) rfl
  obtain ⟨f21, F21⟩ := D.def_ 21 (d := d_Feasts_year) rfl
  obtain ⟨f22, F22⟩ := D.def_ 22 (d := d_Feasts_meet) rfl
  obtain ⟨f23, F23⟩ := D.def_ 23 (d := d_Feasts_spread) rfl
  obtain ⟨f24, F24⟩ := D.def_ 24 (d := d_law_dice) rfl
  obtain ⟨f25, F25⟩ := D.def_ 25 (d := d_law_roll) rfl
  obtain ⟨f26, F26⟩ := D.def_ 26 (d := d_law_rounds) rfl
  obtain ⟨f27, F27⟩ := D.def_ 27 (d := d_law_told) rfl
  obtain ⟨f28, F28⟩ := D.def_ 28 (d := d_law_long) rfl
  obtain ⟨f29, F29⟩ := D.def_ 29 (d := d_law_rules) rfl
  obtain ⟨f30, F30⟩ := D.def_ 30 (d := d_law_year) rfl
  obtain ⟨f31, F31⟩ := D.def_ 31 (d := d_law_start) rfl
  obtain ⟨f32, F32⟩ := D.def_ 32 (d := d_law_day) rfl
  obtain ⟨f33, F33⟩ := D.def_ 33 (d := d_law_calendar) rfl
  obtain ⟨f34, F34⟩ := D.def_ 34 (d := d_law_falls) rfl
  obtain ⟨f35, F35⟩ := D.def_ 35 (d := d_law_feast) rfl
  obtain ⟨f36, F36⟩ := D.def_ 36 (d := d_law_plain) rfl
  obtain ⟨f37, F37⟩ := D.def_ 37 (d := d_law) rfl
  refine ⟨{ fd_Leaps_init := f0, F_Leaps_init := F0, fd_Leaps_is_long := f1, F_Leaps_is_long := F1, m_Leaps_is_long := He.meth_ok (D.fact 19 (f := .meth "Leaps" "is_long") rfl), fd_Leaps_long_before := f2, F_Leaps_long_before := F2, m_Leaps_long_before := He.meth_ok (D.fact 20 (f := .meth "Leaps" "long_before") rfl), fd_Leaps_turned := f3, F_Leaps_turned := F3, m_Leaps_turned := He.meth_ok (D.fact 21 (f := .meth "Leaps" "turned") rfl), fd_Leaps_days_before := f4, F_Leaps_days_before := F4, m_Leaps_days_before := He.meth_ok (D.fact 22 (f := .meth "Leaps" "days_before") rfl), fd_least_common := f5, F_least_common := F5, g_least_common := He.glo_ok X G (D.fact 0 (f := .glo "least_common") rfl), fd_Calendar_init := f6, F_Calendar_init := F6, fd_Calendar_short := f7, F_Calendar_short := F7, m_Calendar_short := He.meth_ok (D.fact 29 (f := .meth "Calendar" "short") rfl), fd_Calendar_days_in := f8, F_Calendar_days_in := F8, m_Calendar_days_in := He.meth_ok (D.fact 30 (f := .meth "Calendar" "days_in") rfl), fd_Calendar_day_of := f9, F_Calendar_day_of := F9, m_Calendar_day_of := He.meth_ok (D.fact 31 (f := .meth "Calendar" "day_of") rfl), fd_Moons_init := f10, F_Moons_init := F10, fd_Moons_new_moon := f11, F_Moons_new_moon := F11, m_Moons_new_moon := He.meth_ok (D.fact 38 (f := .meth "Moons" "new_moon") rfl), fd_Moons_moon_of := f12, F_Moons_moon_of := F12, m_Moons_moon_of := He.meth_ok (D.fact 39 (f := .meth "Moons" "moon_of") rfl), fd_Moons_full_moon := f13, F_Moons_full_moon := F13, m_Moons_full_moon := He.meth_ok (D.fact 40 (f := .meth "Moons" "full_moon") rfl), fd_Feast_init := f14, F_Feast_init := F14, fd_Feasts_init := f15, F_Feasts_init := F15, fd_Feasts_add := f16, F_Feasts_add := F16, m_Feasts_add := He.meth_ok (D.fact 55 (f := .meth "Feasts" "add") rfl), fd_Feasts_weekday := f17, F_Feasts_weekday := F17, m_Feasts_weekday := He.meth_ok (D.fact 56 (f := .meth "Feasts" "weekday") rfl), fd_Feasts_full_from := f18, F_Feasts_full_from := F18, m_Feasts_full_from := He.meth_ok (D.fact 57 (f := .meth "Feasts" "full_from") rfl), fd_Feasts_nth := f19, F_Feasts_nth := F19, m_Feasts_nth := He.meth_ok (D.fact 58 (f := .meth "Feasts" "nth") rfl), fd_Feasts_day := f20, F_Feasts_day := F20, m_Feasts_day := He.meth_ok (D.fact 59 (f := .meth "Feasts" "day") rfl), fd_Feasts_year := f21, F_Feasts_year := F21, m_Feasts_year := He.meth_ok (D.fact 60 (f := .meth "Feasts" "year") rfl), fd_Feasts_meet := f22, F_Feasts_meet := F22, m_Feasts_meet := He.meth_ok (D.fact 61 (f := .meth "Feasts" "meet") rfl), fd_Feasts_spread := f23, F_Feasts_spread := F23, m_Feasts_spread := He.meth_ok (D.fact 62 (f := .meth "Feasts" "spread") rfl), fd_law_dice := f24, F_law_dice := F24, g_law_dice := He.glo_ok X G (D.fact 1 (f := .glo "_law_dice") rfl), fd_law_roll := f25, F_law_roll := F25, g_law_roll := He.glo_ok X G (D.fact 2 (f := .glo "_law_roll") rfl), fd_law_rounds := f26, F_law_rounds := F26, g_law_rounds := He.glo_ok X G (D.fact 3 (f := .glo "_law_rounds") rfl), fd_law_told := f27, F_law_told := F27, g_law_told := He.glo_ok X G (D.fact 4 (f := .glo "_law_told") rfl), fd_law_long := f28, F_law_long := F28, g_law_long := He.glo_ok X G (D.fact 5 (f := .glo "_law_long") rfl), fd_law_rules := f29, F_law_rules := F29, g_law_rules := He.glo_ok X G (D.fact 6 (f := .glo "_law_rules") rfl), fd_law_year := f30, F_law_year := F30, g_law_year := He.glo_ok X G (D.fact 7 (f := .glo "_law_year") rfl), fd_law_start := f31, F_law_start := F31, g_law_start := He.glo_ok X G (D.fact 8 (f := .glo "_law_start") rfl), fd_law_day := f32, F_law_day := F32, g_law_day := He.glo_ok X G (D.fact 9 (f := .glo "_law_day") rfl), fd_law_calendar := f33, F_law_calendar := F33, g_law_calendar := He.glo_ok X G (D.fact 10 (f := .glo "_law_calendar") rfl), fd_law_falls := f34, F_law_falls := F34, g_law_falls := He.glo_ok X G (D.fact 11 (f := .glo "_law_falls") rfl), fd_law_feast := f35, F_law_feast := F35, g_law_feast := He.glo_ok X G (D.fact 12 (f := .glo "_law_feast") rfl), fd_law_plain := f36, F_law_plain := F36, g_law_plain := He.glo_ok X G (D.fact 13 (f := .glo "_law_plain") rfl), fd_law := f37, F_law := F37, g_law := He.glo_ok X G (D.fact 14 (f := .glo "law") rfl), g_Leaps := He.glo_ok X G (D.fact 15 (f := .glo "Leaps") rfl), c_Leaps := He.cls_ok (D.fact 16 (f := .cls "Leaps") rfl), mk_Leaps := He.mkr_ok (D.fact 17 (f := .mkr "Leaps") rfl), na_Leaps_rules := He.noat_ok (D.fact 18 (f := .noat "Leaps" "rules") rfl), g_Calendar := He.glo_ok X G (D.fact 23 (f := .glo "Calendar") rfl), c_Calendar := He.cls_ok (D.fact 24 (f := .cls "Calendar") rfl), mk_Calendar := He.mkr_ok (D.fact 25 (f := .mkr "Calendar") rfl), na_Calendar_months := He.noat_ok (D.fact 26 (f := .noat "Calendar" "months") rfl), na_Calendar_longer := He.noat_ok (D.fact 27 (f := .noat "Calendar" "longer") rfl), na_Calendar_leaps := He.noat_ok (D.fact 28 (f := .noat "Calendar" "leaps") rfl), g_Moons := He.glo_ok X G (D.fact 32 (f := .glo "Moons") rfl), c_Moons := He.cls_ok (D.fact 33 (f := .cls "Moons") rfl), mk_Moons := He.mkr_ok (D.fact 34 (f := .mkr "Moons") rfl), na_Moons_length := He.noat_ok (D.fact 35 (f := .noat "Moons" "length") rfl), na_Moons_parts := He.noat_ok (D.fact 36 (f := .noat "Moons" "parts") rfl), na_Moons_first := He.noat_ok (D.fact 37 (f := .noat "Moons" "first") rfl), g_Feast := He.glo_ok X G (D.fact 41 (f := .glo "Feast") rfl), c_Feast := He.cls_ok (D.fact 42 (f := .cls "Feast") rfl), mk_Feast := He.mkr_ok (D.fact 43 (f := .mkr "Feast") rfl), na_Feast_name := He.noat_ok (D.fact 44 (f := .noat "Feast" "name") rfl), na_Feast_kind := He.noat_ok (D.fact 45 (f := .noat "Feast" "kind") rfl), na_Feast_things := He.noat_ok (D.fact 46 (f := .noat "Feast" "things") rfl), g_Feasts := He.glo_ok X G (D.fact 47 (f := .glo "Feasts") rfl), c_Feasts := He.cls_ok (D.fact 48 (f := .cls "Feasts") rfl), mk_Feasts := He.mkr_ok (D.fact 49 (f := .mkr "Feasts") rfl), na_Feasts_calendar := He.noat_ok (D.fact 50 (f := .noat "Feasts" "calendar") rfl), na_Feasts_moons := He.noat_ok (D.fact 51 (f := .noat "Feasts" "moons") rfl), na_Feasts_week := He.noat_ok (D.fact 52 (f := .noat "Feasts" "week") rfl), na_Feasts_first := He.noat_ok (D.fact 53 (f := .noat "Feasts" "first") rfl), na_Feasts_feasts := He.noat_ok (D.fact 54 (f := .noat "Feasts" "feasts") rfl), g_YearError := He.glo_ok X G (D.fact 63 (f := .glo "YearError") rfl), x_YearError := He.exc_ok (D.fact 64 (f := .exc "YearError") rfl), g_MonthError := He.glo_ok X G (D.fact 65 (f := .glo "MonthError") rfl), x_MonthError := He.exc_ok (D.fact 66 (f := .exc "MonthError") rfl), g_CycleError := He.glo_ok X G (D.fact 67 (f := .glo "CycleError") rfl), x_CycleError := He.exc_ok (D.fact 68 (f := .exc "CycleError") rfl), g_FeastError := He.glo_ok X G (D.fact 69 (f := .glo "FeastError") rfl), x_FeastError := He.exc_ok (D.fact 70 (f := .exc "FeastError") rfl), g_MoonError := He.glo_ok X G (D.fact 71 (f := .glo "MoonError") rfl), x_MoonError := He.exc_ok (D.fact 72 (f := .exc "MoonError") rfl), xm_YearError_MoonError := He.exm_ok (D.fact 73 (f := .exm "YearError" "MoonError" true) rfl), xm_MonthError_MoonError := He.exm_ok (D.fact 74 (f := .exm "MonthError" "MoonError" true) rfl), xm_CycleError_MoonError := He.exm_ok (D.fact 75 (f := .exm "CycleError" "MoonError" true) rfl), xm_FeastError_MoonError := He.exm_ok (D.fact 76 (f := .exm "FeastError" "MoonError" true) rfl), i_MOST_YEAR := He.int_ok X G (D.fact 77 (f := .int "MOST_YEAR" 99999) rfl), i_MOST_MOONS := He.int_ok X G (D.fact 78 (f := .int "MOST_MOONS" 200000) rfl), i_MOST_FEASTS := He.int_ok X G (D.fact 79 (f := .int "MOST_FEASTS" 40) rfl), b_tuple := He.free_ok X G (D.fact 80 (f := .free "tuple") rfl), b_len := He.free_ok X G (D.fact 81 (f := .free "len") rfl), b_any := He.free_ok X G (D.fact 82 (f := .free "any") rfl), b_zip := He.free_ok X G (D.fact 83 (f := .free "zip") rfl), b_range := He.free_ok X G (D.fact 84 (f := .free "range") rfl), b_abs := He.free_ok X G (D.fact 85 (f := .free "abs") rfl), b_int := He.free_ok X G (D.fact 86 (f := .free "int") rfl), b_sorted := He.free_ok X G (D.fact 87 (f := .free "sorted") rfl), b_dict := He.free_ok X G (D.fact 88 (f := .free "dict") rfl), b_sum := He.free_ok X G (D.fact 89 (f := .free "sum") rfl), b_min := He.free_ok X G (D.fact 90 (f := .free "min") rfl), b_list := He.free_ok X G (D.fact 91 (f := .free "list") rfl), b_str := He.free_ok X G (D.fact 92 (f := .free "str") rfl), b_max := He.free_ok X G (D.fact 93 (f := .free "max") rfl), b_enumerate := He.free_ok X G (D.fact 94 (f := .free "enumerate") rfl), tb_Leaps_init := tb _ (List.mem_map.mpr ⟨("Leaps", some "__init__"), by decide, rfl⟩), tb_Calendar_init := tb _ (List.mem_map.mpr ⟨("Calendar", some "__init__"), by decide, rfl⟩), tb_Calendar_short := tb _ (List.mem_map.mpr ⟨("Calendar", some "short"), by decide, rfl⟩), tb_Feasts_year := tb _ (List.mem_map.mpr ⟨("Feasts", some "year"), by decide, rfl⟩), tb_law_plain := tb _ (List.mem_map.mpr ⟨("_law_plain", none), by decide, rfl⟩), tb_law := tb _ (List.mem_map.mpr ⟨("law", none), by decide, rfl⟩) }⟩
theorem bi_Leaps_init {K : PySem.W.Frag} {mg : Str → Option Value} {base : Heap} (T : Tx K mg base) : Binds K T.fd_Leaps_init ["self", "rules"] [] := T.F_Leaps_init.bindsN fun _ _ _ _ _ _ us hl => match us, hl with | [_, _], _ => rfl
theorem bi_Leaps_is_long {K : PySem.W.Frag} {mg : Str → Option Value} {base : Heap} (T : Tx K mg base) : Binds K T.fd_Leaps_is_long ["self", "year"] [] := T.F_Leaps_is_long.bindsN fun _ _ _ _ _ _ us hl => match us, hl with | [_, _], _ => rfl
theorem bi_Leaps_long_before {K : PySem.W.Frag} {mg : Str → Option Value} {base : Heap} (T : Tx K mg base) : Binds K T.fd_Leaps_long_before ["self", "year"] [] := T.F_Leaps_long_before.bindsN fun _ _ _ _ _ _ us hl => match us, hl with | [_, _], _ => rfl
theorem bi_Leaps_turned {K : PySem.W.Frag} {mg : Str → Option Value} {base : Heap} (T : Tx K mg base) : Binds K T.fd_Leaps_turned ["self", "place", "year"] [] := T.F_Leaps_turned.bindsN fun _ _ _ _ _ _ us hl => match us, hl with | [_, _, _], _ => rfl
theorem bi_Leaps_days_before {K : PySem.W.Frag} {mg : Str → Option Value} {base : Heap} (T : Tx K mg base) : Binds K T.fd_Leaps_days_before ["self", "year", "short"] [] := T.F_Leaps_days_before.bindsN fun _ _ _ _ _ _ us hl => match us, hl with | [_, _, _], _ => rfl
theorem bi_least_common {K : PySem.W.Frag} {mg : Str → Option Value} {base : Heap} (T : Tx K mg base) : Binds K T.fd_least_common ["one", "other"] [] := T.F_least_common.bindsN fun _ _ _ _ _ _ us hl => match us, hl with | [_, _], _ => rfl
theorem bi_Calendar_init {K : PySem.W.Frag} {mg : Str → Option Value} {base : Heap} (T : Tx K mg base) : Binds K T.fd_Calendar_init ["self", "months", "longer", "rules"] [] := T.F_Calendar_init.bindsN fun _ _ _ _ _ _ us hl => match us, hl with | [_, _, _, _], _ => rfl
theorem bi_Calendar_short {K : PySem.W.Frag} {mg : Str → Option Value} {base : Heap} (T : Tx K mg base) : Binds K T.fd_Calendar_short ["self"] [] := T.F_Calendar_short.bindsN fun _ _ _ _ _ _ us hl => match us, hl with | [_], _ => rfl
theorem bi_Calendar_days_in {K : PySem.W.Frag} {mg : Str → Option Value} {base : Heap} (T : Tx K mg base) : Binds K T.fd_Calendar_days_in ["self", "year", "month"] [] := T.F_Calendar_days_in.bindsN fun _ _ _ _ _ _ us hl => match us, hl with | [_, _, _], _ => rfl
theorem bi_Calendar_day_of {K : PySem.W.Frag} {mg : Str → Option Value} {base : Heap} (T : Tx K mg base) : Binds K T.fd_Calendar_day_of ["self", "year", "month", "day"] [] := T.F_Calendar_day_of.bindsN fun _ _ _ _ _ _ us hl => match us, hl with | [_, _, _, _], _ => rfl
theorem bi_Moons_init {K : PySem.W.Frag} {mg : Str → Option Value} {base : Heap} (T : Tx K mg base) : Binds K T.fd_Moons_init ["self", "length", "parts", "first"] [] := T.F_Moons_init.bindsN fun _ _ _ _ _ _ us hl => match us, hl with | [_, _, _, _], _ => rfl
theorem bi_Moons_new_moon {K : PySem.W.Frag} {mg : Str → Option Value} {base : Heap} (T : Tx K mg base) : Binds K T.fd_Moons_new_moon ["self", "number"] [] := T.F_Moons_new_moon.bindsN fun _ _ _ _ _ _ us hl => match us, hl with | [_, _], _ => rfl
theorem bi_Moons_moon_of {K : PySem.W.Frag} {mg : Str → Option Value} {base : Heap} (T : Tx K mg base) : Binds K T.fd_Moons_moon_of ["self", "day"] [] := T.F_Moons_moon_of.bindsN fun _ _ _ _ _ _ us hl => match us, hl with | [_, _], _ => rfl
theorem bi_Moons_full_moon {K : PySem.W.Frag} {mg : Str → Option Value} {base : Heap} (T : Tx K mg base) : Binds K T.fd_Moons_full_moon ["self", "number"] [] := T.F_Moons_full_moon.bindsN fun _ _ _ _ _ _ us hl => match us, hl with | [_, _], _ => rfl
theorem bi_Feast_init {K : PySem.W.Frag} {mg : Str → Option Value} {base : Heap} (T : Tx K mg base) : Binds K T.fd_Feast_init ["self", "name", "kind", "things"] [] := T.F_Feast_init.bindsN fun _ _ _ _ _ _ us hl => match us, hl with | [_, _, _, _], _ => rfl
theorem bi_Feasts_init {K : PySem.W.Frag} {mg : Str → Option Value} {base : Heap} (T : Tx K mg base) : Binds K T.fd_Feasts_init ["self", "calendar", "moons", "week", "first"] [] := T.F_Feasts_init.bindsN fun _ _ _ _ _ _ us hl => match us, hl with | [_, _, _, _, _], _ => rfl
theorem bi_Feasts_add {K : PySem.W.Frag} {mg : Str → Option Value} {base : Heap} (T : Tx K mg base) : Binds K T.fd_Feasts_add ["self", "feast"] [] := T.F_Feasts_add.bindsN fun _ _ _ _ _ _ us hl => match us, hl with | [_, _], _ => rfl
theorem bi_Feasts_weekday {K : PySem.W.Frag} {mg : Str → Option Value} {base : Heap} (T : Tx K mg base) : Binds K T.fd_Feasts_weekday ["self", "day"] [] := T.F_Feasts_weekday.bindsN fun _ _ _ _ _ _ us hl => match us, hl with | [_, _], _ => rfl
theorem bi_Feasts_full_from {K : PySem.W.Frag} {mg : Str → Option Value} {base : Heap} (T : Tx K mg base) : Binds K T.fd_Feasts_full_from ["self", "start"] [] := T.F_Feasts_full_from.bindsN fun _ _ _ _ _ _ us hl => match us, hl with | [_, _], _ => rfl
theorem bi_Feasts_nth {K : PySem.W.Frag} {mg : Str → Option Value} {base : Heap} (T : Tx K mg base) : Binds K T.fd_Feasts_nth ["self", "year", "month", "weekday", "which"] [] := T.F_Feasts_nth.bindsN fun _ _ _ _ _ _ us hl => match us, hl with | [_, _, _, _, _], _ => rfl
theorem bi_Feasts_day {K : PySem.W.Frag} {mg : Str → Option Value} {base : Heap} (T : Tx K mg base) : Binds K T.fd_Feasts_day ["self", "name", "year"] [] := T.F_Feasts_day.bindsN fun _ _ _ _ _ _ us hl => match us, hl with | [_, _, _], _ => rfl
theorem bi_Feasts_year {K : PySem.W.Frag} {mg : Str → Option Value} {base : Heap} (T : Tx K mg base) : Binds K T.fd_Feasts_year ["self", "year"] [] := T.F_Feasts_year.bindsN fun _ _ _ _ _ _ us hl => match us, hl with | [_, _], _ => rfl
theorem bi_Feasts_meet {K : PySem.W.Frag} {mg : Str → Option Value} {base : Heap} (T : Tx K mg base) : Binds K T.fd_Feasts_meet ["self", "one", "other", "first", "last"] [] := T.F_Feasts_meet.bindsN fun _ _ _ _ _ _ us hl => match us, hl with | [_, _, _, _, _], _ => rfl
theorem bi_Feasts_spread {K : PySem.W.Frag} {mg : Str → Option Value} {base : Heap} (T : Tx K mg base) : Binds K T.fd_Feasts_spread ["self", "name", "first", "last"] [] := T.F_Feasts_spread.bindsN fun _ _ _ _ _ _ us hl => match us, hl with | [_, _, _, _], _ => rfl
theorem bi_law_dice {K : PySem.W.Frag} {mg : Str → Option Value} {base : Heap} (T : Tx K mg base) : Binds K T.fd_law_dice ["cell"] [] := T.F_law_dice.bindsN fun _ _ _ _ _ _ us hl => match us, hl with | [_], _ => rfl
theorem bi_law_roll {K : PySem.W.Frag} {mg : Str → Option Value} {base : Heap} (T : Tx K mg base) : Binds K T.fd_law_roll ["dice", "many"] [] := T.F_law_roll.bindsN fun _ _ _ _ _ _ us hl => match us, hl with | [_, _], _ => rfl
theorem bi_law_rounds {K : PySem.W.Frag} {mg : Str → Option Value} {base : Heap} (T : Tx K mg base) : Binds K T.fd_law_rounds ["script", "most"] [] := T.F_law_rounds.bindsN fun _ _ _ _ _ _ us hl => match us, hl with | [_, _], _ => rfl
theorem bi_law_told {K : PySem.W.Frag} {mg : Str → Option Value} {base : Heap} (T : Tx K mg base) : Binds K T.fd_law_told ["what"] [] := T.F_law_told.bindsN fun _ _ _ _ _ _ us hl => match us, hl with | [_], _ => rfl
theorem bi_law_long {K : PySem.W.Frag} {mg : Str → Option Value} {base : Heap} (T : Tx K mg base) : Binds K T.fd_law_long ["rules", "year"] [] := T.F_law_long.bindsN fun _ _ _ _ _ _ us hl => match us, hl with | [_, _], _ => rfl
theorem bi_law_rules {K : PySem.W.Frag} {mg : Str → Option Value} {base : Heap} (T : Tx K mg base) : Binds K T.fd_law_rules ["dice"] [] := T.F_law_rules.bindsN fun _ _ _ _ _ _ us hl => match us, hl with | [_], _ => rfl
theorem bi_law_year {K : PySem.W.Frag} {mg : Str → Option Value} {base : Heap} (T : Tx K mg base) : Binds K T.fd_law_year ["own", "year"] [] := T.F_law_year.bindsN fun _ _ _ _ _ _ us hl => match us, hl with | [_, _], _ => rfl
theorem bi_law_start {K : PySem.W.Frag} {mg : Str → Option Value} {base : Heap} (T : Tx K mg base) : Binds K T.fd_law_start ["own", "year"] [] := T.F_law_start.bindsN fun _ _ _ _ _ _ us hl => match us, hl with | [_, _], _ => rfl
theorem bi_law_day {K : PySem.W.Frag} {mg : Str → Option Value} {base : Heap} (T : Tx K mg base) : Binds K T.fd_law_day ["own", "year", "month", "day"] [] := T.F_law_day.bindsN fun _ _ _ _ _ _ us hl => match us, hl with | [_, _, _, _], _ => rfl
theorem bi_law_calendar {K : PySem.W.Frag} {mg : Str → Option Value} {base : Heap} (T : Tx K mg base) : Binds K T.fd_law_calendar ["dice"] [] := T.F_law_calendar.bindsN fun _ _ _ _ _ _ us hl => match us, hl with | [_], _ => rfl
theorem bi_law_falls {K : PySem.W.Frag} {mg : Str → Option Value} {base : Heap} (T : Tx K mg base) : Binds K T.fd_law_falls ["own", "name", "year"] [] := T.F_law_falls.bindsN fun _ _ _ _ _ _ us hl => match us, hl with | [_, _, _], _ => rfl
theorem bi_law_feast {K : PySem.W.Frag} {mg : Str → Option Value} {base : Heap} (T : Tx K mg base) : Binds K T.fd_law_feast ["dice", "own"] [] := T.F_law_feast.bindsN fun _ _ _ _ _ _ us hl => match us, hl with | [_, _], _ => rfl
theorem bi_law_plain {K : PySem.W.Frag} {mg : Str → Option Value} {base : Heap} (T : Tx K mg base) : Binds K T.fd_law_plain [] [] := T.F_law_plain.bindsN fun _ _ _ _ _ _ us hl => match us, hl with | [], _ => rfl
theorem bi_law {K : PySem.W.Frag} {mg : Str → Option Value} {base : Heap} (T : Tx K mg base) : Binds K T.fd_law ["script"] [] := T.F_law.bindsN fun _ _ _ _ _ _ us hl => match us, hl with | [_], _ => rfl
end K60

set_option Elab.async false
set_option linter.all false
set_option maxRecDepth 100000
set_option maxHeartbeats 2000000
namespace K60
open PySem PySem.Spec PyProof.Rows L2 MB
local macro_rules | `(tactic| walk_at "s") => `(tactic| repeat (first | refine ⟨_, rfl, ?_⟩ | refine ⟨_, _, rfl, rfl, ?_⟩ | refine ⟨_, _, rfl, ?_⟩ | refine ⟨rfl, ?_⟩))
variable {P : Program} {w : World} {K : PySem.W.Frag} {mg : Str → Option Value} {base : Heap}
abbrev YE (K : PySem.W.Frag) : Value := .ref (He.ga K "YearError")
abbrev LC (K : PySem.W.Frag) : Addr := He.ga K "Leaps"

/-! ### least_common -/
def spLc : Sp := fun vs H Q _ => ∃ a b : Nat, vs = [.int a, .int b] ∧ 0 < a ∧ 0 < b ∧ a < 2 ^ 30 ∧ b < 2 ^ 30 ∧ Q (.int (Nat.lcm a b : Nat)) H
theorem ok_least_common (T : Tx K mg base) : FnOk P w K mg base (L2.CX P w) 1 (He.fAd K ("least_common", none)) T.fd_least_common ["one", "other"] spLc := by
  refine T.F_least_common.ok sc_least_common (fun vs H Q E h => ?_) (fun cdv A outer s H vs Q E hr h => ⟨_, (pss_cons (ps_par (i := 2) (j := 3) rfl sc_least_common.nd rfl rfl (by decide) rfl rfl (pa_cons (pv 0) (pa_cons (pv 1) pa_nil)) rfl)
 (pss_cons (ps_while (passes_of rfl) (pt_cmpR op_ne (pv 3) pe_int (nomark _)) (pss_one (ps_par (i := 2) (j := 3) rfl sc_least_common.nd rfl rfl (by decide) rfl rfl (pa_cons (pv 3) (pa_cons (pe_op op_mod (pv 2) (pv 3)) pa_nil)) rfl)))
 (pss_one (ps_ret (pe_op op_mul (pe_op op_fdiv (pv 0) (pv 2)) (pv 1)))))), ?_⟩)
  · obtain ⟨a, b, rfl, _⟩ := h
    rfl
  · obtain ⟨a, b, rfl, ha, hb, la, lb, hQ⟩ := h
    walk_at "s"
    refine ⟨fun m σ' H' => ∃ x y : Nat, σ' = [some (.int a), some (.int b), some (.int x), some (.int y)] ∧ H' = H ∧ m = y ∧ 0 < x ∧ Nat.gcd x y = Nat.gcd a b, ⟨b, a, b, rfl, rfl, rfl, ha, rfl⟩, ?_⟩
    rintro m σ' H' ⟨x, y, rfl, rfl, rfl, hx, hg⟩
    walk_at "s"
    refine ifB (fun h => ?_) (fun h => ?_)
    · refine ⟨_, fun _ _ h => h, ?_⟩
      have hy : 0 < m := by simp at h; omega
      walk_at "s"
      refine ⟨by omega, ?_⟩
      walk_at "s"
      refine ⟨x % m, Nat.mod_lt _ hy, m, x % m, ?_, rfl, rfl, hy, ?_⟩
      · simp [List.set]
      · rw [← hg, Nat.gcd_comm x m, Nat.gcd_rec m x, Nat.gcd_comm]
    · have hy : m = 0 := by simp at h; omega
      subst hy
      rw [Nat.gcd_zero_right] at hg
      have hxa : x ∣ a := by rw [hg]; exact Nat.gcd_dvd_left _ _
      have hle : x ≤ a := Nat.le_of_dvd ha hxa
      have hq : a / x ≤ a := Nat.div_le_self _ _
      walk_at "s"
      refine ⟨⟨by omega, by omega⟩, ?_⟩
      walk_at "s"
      refine ⟨.inl ⟨?_, ?_⟩, ?_⟩
      · have : (0 : Int) ≤ (a : Int) / (x : Int) := Int.ediv_nonneg (by omega) (by omega)
        omega
      · rw [← Int.natCast_ediv]
        omega
      · rw [← Int.natCast_ediv]
        show Q (V.int (((a / x : Nat) : Int) * (b : Int))) H'
        rw [← Int.natCast_mul]
        have e : a / x * b = Nat.lcm a b := by
          unfold Nat.lcm
          rw [← hg, Nat.mul_comm a b, Nat.mul_div_assoc _ hxa, Nat.mul_comm]
        rw [e]
        exact hQ

/-! ### Leaps.is_long -/
def spIsLong (K : PySem.W.Frag) : Sp := fun vs H Q E => ∃ (a : Addr) (rs : MM.Rules) (y : Int), vs = [.ref a, .int y] ∧ LeapsAt (LC K) H a rs ∧ ROk rs ∧
  (0 ≤ y → y ≤ 99999 → Q (.bl (MM.isLong rs y.toNat)) H) ∧ (¬ (0 ≤ y ∧ y ≤ 99999) → E (YE K) none H)
theorem ok_Leaps_is_long (T : Tx K mg base) : FnOk P w K mg base (L2.CX P w) 1 (He.fAd K ("Leaps", some "is_long")) T.fd_Leaps_is_long ["self", "year"] (spIsLong K) := by
  refine T.F_Leaps_is_long.ok sc_Leaps_is_long (fun vs H Q E h => ?_) (fun cdv A outer s H vs Q E hr h => ⟨_, (pss_cons (ps_if (pt_not (pt_chain op_le op_le pe_int (pv 1) (pe_glob (v := .int 99999) rfl T.i_MOST_YEAR.choose_spec ⟨_, rfl⟩))) (pss_one (ps_raise rfl (takes_of rfl rfl rfl rfl) (pmk_own PySem.F.excBase_ValueError T.x_YearError.1 T.g_YearError T.x_YearError.2.1 (raises_own T.x_YearError.2.2.1 T.x_YearError.2.2.2) rfl))) pss_nil)
 (pss_cons (ps_set (i := 2) sc_Leaps_is_long.nd rfl (Or.inl rfl) pe_bl)
 (pss_cons (ps_for (passes_of rfl) rfl (pi_tupK (K := K) rfl (pe_fldK (K := K) rfl (pv 0) rfl)) (pg_tupK (K := K) (n := 2) rfl rfl (pgs_cons (pg_name (i := 3) sc_Leaps_is_long.nd rfl (Or.inl rfl)) (pgs_cons (pg_name (i := 4) sc_Leaps_is_long.nd rfl (Or.inl rfl)) pgs_nil))) (pss_one (ps_if (pt_cmpR op_eq (pe_op op_mod (pv 1) (pv 3)) pe_int (nomark _)) (pss_one (ps_set (i := 2) sc_Leaps_is_long.nd rfl (Or.inl rfl) (pv 4))) pss_nil)))
 (pss_one (ps_ret (pv 2)))))), ?_⟩)
  · obtain ⟨a, rs, y, rfl, _⟩ := h
    rfl
  · obtain ⟨a, rs, y, rfl, ⟨dx, p, ts, h1, h2, h3⟩, ok, hQ, hE⟩ := h
    have out : ∀ {c : Bool}, c = true → ¬ (0 ≤ y ∧ y ≤ 99999) → E (YE K) none H := fun _ h => hE h
    walk_at "s"
    refine ifB (fun q1 => ?_) (fun q1 => ?_)
    · walk_at "s"
      refine ifB (fun q2 => ?_) (fun q2 => ?_)
      · have q2 : ¬ y ≤ 99999 := by simpa using q2
        exact hE fun z => q2 z.2
      have q1 : 0 ≤ y := by simpa using q1
      have q2 : y ≤ 99999 := by simpa using q2
      obtain ⟨n, rfl⟩ := Int.eq_ofNat_of_zero_le q1
      have hQ := hQ q1 q2
      walk_at "s"
      refine ⟨_, _, _, _, _, rfl, h1, T.c_Leaps, T.na_Leaps_rules, rfl, ?_⟩
      refine ⟨_, rfl, ⟨_, SqT.of h2⟩, ?_⟩
      refine for_tup (xs := ts.map V.ref) (fun i σ' H' => ∃ u v, σ' = [some (.ref a), some (.int n), some (.bl (MM.isLong (rs.take i) n)), u, v] ∧ H' = H) ⟨_, _, rfl, rfl⟩ (fun i σ' H' _ ⟨_, _, _, e⟩ => by rw [e]; exact SqT.of h2) ?_ ?_
      · rintro i x σ' H' hx ⟨u, v, rfl, rfl⟩
        obtain ⟨t, r, rfl, ht, hr', hv⟩ := h3.get hx
        have hr1 := (ok.rng r (List.mem_of_getElem? hr')).1
        refine ⟨_, _, rfl, SqT.of hv, rfl, ?_⟩
        walk_at "s"
        refine ⟨by omega, ?_⟩
        walk_at "s"
        have e := MM.isLong_snoc hr' n
        refine ifB (fun q => ?_) (fun q => ?_)
        · have q : n % r.1 = 0 := by
            have q : ((n : Int) % (r.1 : Int)) = 0 := by simpa using q
            omega
          rw [if_pos q] at e
          walk_at "s"
          exact ⟨_, _, by rw [e]; rfl, rfl⟩
        · have q : ¬ n % r.1 = 0 := by
            have q : ¬ ((n : Int) % (r.1 : Int)) = 0 := by simpa using q
            omega
          rw [if_neg q] at e
          exact ⟨_, _, by rw [e]; rfl, rfl⟩
      · rintro σ' H' ⟨u, v, rfl, rfl⟩
        walk_at "s"
        rw [List.length_map, h3.1, List.take_length]
        exact hQ
    · have q1 : ¬ 0 ≤ y := by simpa using q1
      walk_at "s"
      exact hE fun z => q1 z.1
theorem sz {n : Nat} (h : n ≤ 1000 := by simp) : n ≤ sizeLine := by rw [sizeLine_eq]; omega
theorem szl {n : Nat} (h : n ≤ 1000) : n < sizeLine := by rw [sizeLine_eq]; omega
/-! ### Leaps.turned -/
abbrev Stk := List (Nat × Nat × Int)
def SV (rs : MM.Rules) (y : Nat) (st : Stk) : Int := (st.map fun e => e.2.2 * (MM.G e.1 (rs.drop e.2.1) y : Int)).sum
def SM (n : Nat) (st : Stk) : Nat := (st.map fun e => 2 ^ (n - e.2.1)).sum
theorem SV_snoc (rs : MM.Rules) (y : Nat) (st : Stk) (e : Nat × Nat × Int) : SV rs y (st ++ [e]) = SV rs y st + e.2.2 * (MM.G e.1 (rs.drop e.2.1) y : Int) := by simp [SV]
theorem SM_snoc (n : Nat) (st : Stk) (e : Nat × Nat × Int) : SM n (st ++ [e]) = SM n st + 2 ^ (n - e.2.1) := by simp [SM]
theorem SM_len (n : Nat) : ∀ st : Stk, st.length ≤ SM n st
  | [] => Nat.le_refl _
  | e :: st => by
    have h := SM_len n st
    have h2 : 0 < 2 ^ (n - e.2.1) := Nat.pow_pos (by decide)
    have h3 : SM n (e :: st) = 2 ^ (n - e.2.1) + SM n st := by simp [SM]
    rw [h3, List.length_cons]
    omega
def StT (H : Hp) (as : List Addr) (st : Stk) : Prop := as.length = st.length ∧ ∀ (i : Nat) (t : Addr) (e : Nat × Nat × Int), as[i]? = some t → st[i]? = some e → H t = some (.tup [.int ((e.1 : Nat) : Int), .int ((e.2.1 : Nat) : Int), .int e.2.2])
theorem StT.ext {T : Tb} {M : Addr → Prop} {H H' : Hp} {as : List Addr} {st : Stk} (h : StT H as st) (e : Ext T M H H') : StT H' as st := ⟨h.1, fun i t r h1 h2 => e.fix _ _ (h.2 i t r h1 h2) rfl⟩
theorem StT.snoc {H : Hp} {as : List Addr} {st : Stk} {t : Addr} {e : Nat × Nat × Int} (h : StT H as st) (ht : H t = some (.tup [.int ((e.1 : Nat) : Int), .int ((e.2.1 : Nat) : Int), .int e.2.2])) : StT H (as ++ [t]) (st ++ [e]) := by
  refine ⟨by simp [h.1], fun i u x h1 h2 => ?_⟩
  by_cases hi : i < as.length
  · rw [List.getElem?_append_left hi] at h1
    rw [List.getElem?_append_left (by rw [← h.1]; exact hi)] at h2
    exact h.2 i u x h1 h2
  · have hi2 : i = as.length := by
      have := (List.getElem?_eq_some_iff.mp h1).1
      simp at this
      omega
    subst hi2
    rw [List.getElem?_concat_length] at h1
    rw [h.1, List.getElem?_concat_length] at h2
    cases h1
    cases h2
    exact ht
theorem StT.last {H : Hp} {as : List Addr} {st : Stk} {e : Nat × Nat × Int} (h : StT H as (st ++ [e])) : ∃ as0 t, as = as0 ++ [t] ∧ StT H as0 st ∧ H t = some (.tup [.int ((e.1 : Nat) : Int), .int ((e.2.1 : Nat) : Int), .int e.2.2]) := by
  have hl := h.1
  rcases List.eq_nil_or_concat as with rfl | ⟨as0, t, rfl⟩
  · simp at hl
  · rw [List.concat_eq_append] at h hl ⊢
    simp at hl
    refine ⟨as0, t, rfl, ⟨hl, fun i u x h1 h2 => ?_⟩, ?_⟩
    · exact h.2 i u x (by rw [List.getElem?_append_left (List.getElem?_eq_some_iff.mp h1).1]; exact h1) (by rw [List.getElem?_append_left (List.getElem?_eq_some_iff.mp h2).1]; exact h2)
    · exact h.2 as0.length t e (by rw [List.getElem?_concat_length]) (by rw [hl, List.getElem?_concat_length])
def stD (e : Nat × Nat × Int) : PyData := .tuple [.int ((e.1 : Nat) : Int), .int ((e.2.1 : Nat) : Int), .int e.2.2]
theorem StT.dp {H : Hp} {l : Addr} {as : List Addr} {st : Stk} (hl : H l = some (.lst (as.map V.ref))) (h : StT H as st) : Dp K H (.ref l) (.list (st.map stD)) := by
  refine .lst (SqL.of hl) (dpAll_get (by simp [h.1]) fun i x d h1 h2 => ?_)
  rw [List.getElem?_map] at h1 h2
  cases e1 : as[i]? with
  | none => rw [e1] at h1; cases h1
  | some t =>
    cases e2 : st[i]? with
    | none => rw [e2] at h2; cases h2
    | some e =>
      rw [e1] at h1
      rw [e2] at h2
      cases h1
      cases h2
      exact .tup (SqT.of (h.2 i t e e1 e2)) (.cons (.int _) (.cons (.int _) (.cons (.int _) .nil)))
theorem stSh (st : Stk) : SeqAt.shaped (.list (st.map stD)) = true := (ShK.lst (k := 1) fun d hd => by
  obtain ⟨e, _, rfl⟩ := List.mem_map.mp hd
  exact ShK.tup (k := 0) fun d hd => by
    simp at hd
    rcases hd with rfl | rfl | rfl <;> exact ShK.int _ _).ok
structure Good (rs : MM.Rules) (e : Nat × Nat × Int) : Prop where
  pos : 0 < e.1
  dvd : e.1 ∣ MM.lcmA rs
  at_ : e.2.1 ≤ rs.length
  sg : e.2.2 = 1 ∨ e.2.2 = -1
theorem rlpos {rs : MM.Rules} (ok : ROk rs) : 0 < MM.lcmA rs := MM.lcmA_pos fun r hr => (ok.rng r hr).1
def spTurned (K : PySem.W.Frag) : Sp := fun vs H Q E => ∃ (a : Addr) (rs : MM.Rules) (i y : Nat), vs = [.ref a, .int i, .int y] ∧ LeapsAt (LC K) H a rs ∧ ROk rs ∧ i < rs.length ∧ y < 2 ^ 40 ∧
  ∀ H', Ext (TT K) No H H' → Q (.int (MM.turnedV rs i y : Nat)) H'
theorem ok_Leaps_turned (T : Tx K mg base) : FnOk P w K mg base (L2.CX P w) 2 (He.fAd K ("Leaps", some "turned")) T.fd_Leaps_turned ["self", "place", "year"] (spTurned K) := by
  refine T.F_Leaps_turned.ok sc_Leaps_turned (fun vs H Q E h => ?_) (fun cdv A outer s H vs Q E hr h => ⟨_, (pss_cons (ps_if (pt_not (pt_val (pe_ix (ix_tupK (K := K) rfl) (pe_ix (ix_tupK (K := K) rfl) (pe_fldK (K := K) rfl (pv 0) rfl) (pv 1) (fun _ _ => rfl)) pe_int (fun _ _ => rfl)))) (pss_one (ps_ret pe_int)) pss_nil)
 (pss_cons (ps_par (i := 3) (j := 4) rfl sc_Leaps_turned.nd rfl rfl (by decide) rfl rfl (pa_cons pe_int (pa_cons (pe_lstN (T := TT K) (pa_cons (pe_tupN (T := TT K) (pa_cons (pe_ix (ix_tupK (K := K) rfl) (pe_ix (ix_tupK (K := K) rfl) (pe_fldK (K := K) rfl (pv 0) rfl) (pv 1) (fun _ _ => rfl)) pe_int (fun _ _ => rfl)) (pa_cons (pe_op op_add (pv 1) pe_int) (pa_cons pe_int pa_nil)))) pa_nil)) pa_nil)) rfl)
 (pss_cons (ps_while (passes_of rfl) (pt_cmpR (op_neDK (K := K) rfl hr.units) (pv 4) (pe_lstN (T := TT K) pa_nil) (nomark _)) (pss_cons (ps_asg (pe_bm0 PySem.F.plainAttrs_list PySem.F.slot_list_pop PySem.F.type_list_pop (mt_popN (T := TT K)) (pv 4)) (pg_tupK (K := K) (n := 3) rfl rfl (pgs_cons (pg_name (i := 5) sc_Leaps_turned.nd rfl (Or.inl rfl)) (pgs_cons (pg_name (i := 6) sc_Leaps_turned.nd rfl (Or.inl rfl)) (pgs_cons (pg_name (i := 7) sc_Leaps_turned.nd rfl (Or.inl rfl)) pgs_nil)))))
 (pss_cons (ps_aug (i := 3) sc_Leaps_turned.nd rfl (Or.inl rfl) (pe_op op_mul (pv 7) (pe_op op_fdiv (pe_op op_sub (pe_op op_add (pv 2) (pv 5)) pe_int) (pv 5))) ip_add)
 (pss_one (ps_for (passes_of rfl) rfl (pi_range2 rfl T.b_range (pa_cons (pv 6) (pa_cons (pe_callB (call_lenK (K := K) rfl) rfl T.b_len (by decide +kernel) (pa_cons (pe_fldK (K := K) rfl (pv 0) rfl) pa_nil)) pa_nil))) (pg_name (i := 8) sc_Leaps_turned.nd rfl (Or.inl rfl)) (pss_one (ps_expr (pe_bmK (K := K) rfl PySem.F.plainAttrs_list PySem.F.slot_list_append PySem.F.type_list_append (mt_appN (T := TT K)) (pv 4) (pa_cons (pe_tupN (T := TT K) (pa_cons (pe_call (ok_least_common T) (hr.mono (by decide)) rfl T.g_least_common T.F_least_common.kp (bi_least_common T) .nil (passes_call (takes_of rfl rfl rfl rfl) fun _ _ _ _ h => h) (pa_cons (pv 5) (pa_cons (pe_ix (ix_tupK (K := K) rfl) (pe_ix (ix_tupK (K := K) rfl) (pe_fldK (K := K) rfl (pv 0) rfl) (pv 8) (fun _ _ => rfl)) pe_int (fun _ _ => rfl)) pa_nil))) (pa_cons (pe_op op_add (pv 8) pe_int) (pa_cons (pe_op op_sub pe_int (pv 7)) pa_nil)))) pa_nil)))))))))
 (pss_one (ps_ret (pv 3)))))), ?_⟩)
  · obtain ⟨a, rs, i, y, rfl, _⟩ := h
    rfl
  · obtain ⟨a, rs, i, y, rfl, ⟨dx, p, ts, h1, h2, h3⟩, ok, hi, hy, hQ⟩ := h
    obtain ⟨t0, r0, hv0, hr0, ht0⟩ := h3.at hi
    walk_at "s"
    refine ⟨_, _, _, _, _, rfl, h1, T.c_Leaps, T.na_Leaps_rules, rfl, ?_⟩
    walk_at "s"
    refine ⟨_, _, _, _, rfl, rfl, SqT.of h2, atI_nat hv0, ?_⟩
    refine ⟨_, _, _, _, rfl, rfl, SqT.of ht0, rfl, ?_⟩
    walk_at "s"
    refine ifB (fun q => ?_) (fun q => ?_)
    · have e : MM.turnedV rs i y = 0 := by
        unfold MM.turnedV
        rw [hr0]
        simp at q
        simp [q]
      have hQ := hQ H .refl
      rw [e] at hQ
      exact hQ
    have q : r0.2 = true := by simpa using q
    have eT : MM.turnedV rs i y = MM.G r0.1 (rs.drop (i + 1)) y := by
      unfold MM.turnedV
      rw [hr0]
      simp [q]
    rw [eT] at hQ
    walk_at "s"
    refine ⟨_, _, _, _, _, rfl, h1, T.c_Leaps, T.na_Leaps_rules, rfl, ?_⟩
    walk_at "s"
    refine ⟨_, _, _, _, rfl, rfl, SqT.of h2, atI_nat hv0, ?_⟩
    refine ⟨_, _, _, _, rfl, rfl, SqT.of ht0, rfl, ?_⟩
    walk_at "s"
    refine ⟨sz, fun t1 H1 ht1 hv1 e1 => ?_⟩
    refine ⟨sz, fun l H2 hl2 hv2 e2 => ?_⟩
    walk_at "s"
    have nl : NoM H l := e1.fresh hl2
    have E2 : Ext (TT K) No H H2 := e1.trans e2
    have hL := rlpos ok
    have hL2 := ok.lcm
    have six := ok.six
    have hr0m := List.mem_of_getElem? hr0
    have pw : 2 ^ (rs.length - (i + 1)) ≤ 2 ^ 5 := Nat.pow_le_pow_right (by decide) (by omega)
    refine ⟨fun m σ' H' => ∃ (f : Int) (st : Stk) (as : List Addr) (u v x z : Option V), σ' = [some (.ref a), some (.int i), some (.int y), some (.int f), some (.ref l), u, v, x, z] ∧ H' l = some (.lst (as.map V.ref)) ∧ StT H' as st ∧ Ext (TT K) No H H' ∧ m = SM rs.length st ∧ m ≤ 64 ∧ f + SV rs y st = (MM.G r0.1 (rs.drop (i + 1)) y : Int) ∧ ∀ e ∈ st, Good rs e, ⟨_, 0, [(r0.1, i + 1, 1)], [t1], _, _, _, _, rfl, hv2, ⟨rfl, ?_⟩, E2, rfl, ?_, ?_, ?_⟩, ?_⟩
    · intro k t e h1 h2
      match k with
      | 0 =>
        cases h1
        cases h2
        exact e2.fix _ _ hv1 rfl
      | k + 1 => simp at h1
    · simp [SM]
      omega
    · simp [SV]
    · intro e he
      simp at he
      subst he
      exact ⟨(ok.rng _ hr0m).1, MM.dvd_lcmA hr0m, hi, .inl rfl⟩
    rintro m σ' H' ⟨f, st, as, u, v, x, z, rfl, hl', hst, E', hm, h64, hG, good⟩
    walk_at "s"
    refine ⟨sz, fun l0 H3 hl0 hv0' e3 => ?_⟩
    have E3 : Ext (TT K) No H H3 := E'.trans e3
    have hl3 : H3 l = some (.lst (as.map V.ref)) := e3.lst _ _ hl' id
    have hst3 := hst.ext e3
    refine ⟨_, _, hst3.dp hl3, .lst (SqL.of hv0') .nil, stSh st, rfl, ?_⟩
    walk_at "s"
    refine ifB (fun q => ?_) (fun q => ?_)
    · refine ⟨_, fun _ _ h => h, ?_⟩
      rcases List.eq_nil_or_concat st with rfl | ⟨st0, ⟨n, s0, sg⟩, rfl⟩
      · exact absurd q (by decide)
      rw [List.concat_eq_append] at *
      obtain ⟨as0, t, rfl, hst0, ht⟩ := hst3.last
      rw [SV_snoc] at hG
      rw [SM_snoc] at hm
      have gn := good _ (List.mem_append_right _ List.mem_cons_self)
      have n30 : n < 2 ^ 30 := Nat.lt_of_le_of_lt (Nat.le_of_dvd hL gn.dvd) hL2
      have npos := gn.pos
      have nat := gn.at_
      have nsg := gn.sg
      simp only at hG hm npos nat nsg ht
      walk_at "s"
      refine ⟨.inl ⟨rfl, _, .inl (.inl hl3)⟩, ?_⟩
      refine ⟨_, _, _, rfl, rfl, by rw [List.map_append] at hl3; exact hl3, fun H4 hl4 e4 => ?_⟩
      have nl3 : NoM H l := nl
      have E4 : Ext (TT K) No H H4 := (E3.no.trans e4).mono1 nl
      refine ⟨_, _, rfl, SqT.of (e4.fix _ _ ht rfl), rfl, ?_⟩
      walk_at "s"
      have hn1 : (0 : Int) ≤ (y : Int) + n - 1 := by omega
      have hce : ((y : Int) + (n : Int) - 1) / (n : Int) = (((y + n - 1) / n : Nat) : Int) := by
        rw [Int.natCast_ediv]
        congr 1
        omega
      refine ⟨⟨by omega, by omega⟩, ?_⟩
      have hGE := MM.G_E n npos (rs.drop s0) y
      generalize (y + n - 1) / n = ce at hce hGE
      walk_at "s"
      refine ⟨.inl ⟨by omega, by omega⟩, ?_⟩
      walk_at "s"
      refine ⟨_, _, _, _, _, rfl, E4.fix _ _ h1 rfl, T.c_Leaps, T.na_Leaps_rules, rfl, ?_⟩
      refine ⟨_, _, rfl, .inr (SqT.of (E4.fix _ _ h2 rfl)), ?_⟩
      refine ⟨_, _, rfl, ⟨by omega, by omega, by omega, by simp [h3.1]; omega⟩, ?_⟩
      have hts := h3.1
      have hlen : ((((ts.map V.ref).length : Nat) : Int) - (s0 : Int)).toNat = rs.length - s0 := by
        rw [List.length_map, hts]
        omega
      rw [hlen]
      refine for_range (fun k σ2 H5 => ∃ (st : Stk) (as : List Addr) (z : Option V), σ2 = [some (.ref a), some (.int i), some (.int y), some (.int (f + sg * (((y : Int) + (n : Int) - 1) / (n : Int)))), some (.ref l), some (.int n), some (.int s0), some (.int sg), z] ∧ H5 l = some (.lst (as.map V.ref)) ∧ StT H5 as st ∧ Ext (TT K) No H H5 ∧
        SM rs.length st + 2 ^ (rs.length - (s0 + k)) = m ∧ f + sg * (((y : Int) + (n : Int) - 1) / (n : Int)) + SV rs y st - sg * (MM.E n (rs.drop (s0 + k)) y : Int) = (MM.G r0.1 (rs.drop (i + 1)) y : Int) ∧ (∀ e ∈ st, Good rs e) ∧ s0 + k ≤ rs.length) ⟨st0, as0, _, rfl, hl4, hst0.ext e4, E4, hm.symm, ?_, fun e he => good e (List.mem_append_left _ he), nat⟩ ?_ ?_
      · have e1 : (ce : Int) = MM.G n (rs.drop s0) y + MM.E n (rs.drop s0) y := by omega
        rw [hce, e1, Int.mul_add]
        show _ - sg * (MM.E n (rs.drop s0) y : Int) = _
        omega
      · rintro k σ2 H5 hk ⟨st, as, z, rfl, hl5, hst5, E5, hm5, hG5, good5, hk5⟩
        have hlt : s0 + k < rs.length := by omega
        obtain ⟨t5, r5, hv5, hr5, ht5⟩ := h3.at hlt
        have hr5m := List.mem_of_getElem? hr5
        have rg5 := ok.rng r5 hr5m
        have lcd : Nat.lcm n r5.1 ∣ MM.lcmA rs := Nat.lcm_dvd gn.dvd (MM.dvd_lcmA hr5m)
        have lcp : 0 < Nat.lcm n r5.1 := Nat.lcm_pos npos rg5.1
        have stl : st.length ≤ 64 := by
          have q1 := SM_len rs.length st
          generalize 2 ^ (rs.length - (s0 + k)) = pk at hm5
          omega
        walk_at "s"
        refine ⟨.inl ⟨rfl, _, .inl (.inl hl5)⟩, ?_⟩
        walk_at "s"
        refine ⟨_, _, _, _, _, rfl, E5.fix _ _ h1 rfl, T.c_Leaps, T.na_Leaps_rules, rfl, ?_⟩
        walk_at "s"
        refine ⟨_, _, _, _, rfl, rfl, SqT.of (E5.fix _ _ h2 rfl), atI_of (by omega) hv5, ?_⟩
        refine ⟨_, _, _, _, rfl, rfl, SqT.of (E5.fix _ _ ht5 rfl), rfl, ?_⟩
        refine ⟨_, _, rfl, npos, rg5.1, n30, by omega, ?_⟩
        walk_at "s"
        refine ⟨sz, fun t6 H6 hp6 hv6 e6 => ?_⟩
        refine ⟨_, _, _, rfl, rfl, e6.lst _ _ hl5 id, by rw [List.length_map]; exact szl (by rw [hst5.1]; omega), fun H7 hl7 e7 => ?_⟩
        have e57 : Ext (TT K) (· = l) H5 H7 := e6.no.trans e7
        have hpow : 2 ^ (rs.length - (s0 + k)) = 2 * 2 ^ (rs.length - (s0 + k + 1)) := by
          have e : rs.length - (s0 + k) = rs.length - (s0 + k + 1) + 1 := by omega
          rw [e, Nat.pow_succ, Nat.mul_comm]
        have hE := MM.E_drop n rs y hr5
        refine ⟨st ++ [(Nat.lcm n r5.1, s0 + k + 1, 0 - sg)], as ++ [t6], _, rfl, by rw [List.map_append]; exact hl7, (hst5.ext e57).snoc ?_, (E5.no.trans e57).mono1 nl, ?_, ?_, ?_, hlt⟩
        · have hz := e7.fix _ _ hv6 rfl
          have e8 : ((s0 : Int) + (k : Int) + 1) = ((s0 + k + 1 : Nat) : Int) := by omega
          simp only at hz ⊢
          rw [← e8]
          exact hz
        · rw [SM_snoc]
          show _ + 2 ^ (rs.length - (s0 + k + 1)) + 2 ^ (rs.length - (s0 + (k + 1))) = m
          have e8 : s0 + (k + 1) = s0 + k + 1 := by omega
          rw [e8]
          omega
        · rw [SV_snoc]
          show _ + (_ + (0 - sg) * ((MM.G (Nat.lcm n r5.1) (rs.drop (s0 + k + 1)) y : Nat) : Int)) - sg * ((MM.E n (rs.drop (s0 + k + 1)) y : Nat) : Int) = _
          rw [hE] at hG5
          rw [← hG5]
          generalize MM.G (Nat.lcm n r5.1) (rs.drop (s0 + k + 1)) y = g1
          generalize MM.E n (rs.drop (s0 + k + 1)) y = g2
          rw [Int.natCast_add, Int.mul_add, Int.sub_mul, Int.zero_mul]
          omega
        · intro e he
          rcases List.mem_append.mp he with he | he
          · exact good5 e he
          · simp at he
            subst he
            exact ⟨lcp, lcd, hlt, by simp only; omega⟩
      · rintro σ2 H5 ⟨st, as, z, rfl, hl5, hst5, E5, hm5, hG5, good5, hk5⟩
        have e0 : s0 + (rs.length - s0) = rs.length := by omega
        rw [e0] at hm5 hG5
        rw [Nat.sub_self] at hm5
        rw [List.drop_length] at hG5
        have hG6 : f + sg * (((y : Int) + (n : Int) - 1) / (n : Int)) + SV rs y st = (MM.G r0.1 (rs.drop (i + 1)) y : Int) := by
          have e : sg * ((MM.E n [] y : Nat) : Int) = 0 := Int.mul_zero _
          omega
        exact ⟨SM rs.length st, by omega, _, st, as, _, _, _, _, rfl, hl5, hst5, E5, rfl, by omega, hG6, good5⟩
    · have hs : st = [] := by
        cases st with
        | nil => rfl
        | cons e st =>
          rw [eqv_nil (by simp)] at q
          cases q
      subst hs
      have hG : f = (MM.G r0.1 (rs.drop (i + 1)) y : Int) := by
        rw [← hG]
        simp [SV]
      walk_at "s"
      rw [hG]
      exact hQ _ E3
end K60

set_option Elab.async false
set_option linter.all false
set_option maxRecDepth 100000
set_option maxHeartbeats 2000000
namespace K60
open PySem PySem.Spec PyProof.Rows L2 MB
local macro_rules | `(tactic| walk_at "s") => `(tactic| repeat (first | refine ⟨_, rfl, ?_⟩ | refine ⟨_, _, rfl, rfl, ?_⟩ | refine ⟨_, _, rfl, ?_⟩ | refine ⟨rfl, ?_⟩))
variable {P : Program} {w : World} {K : PySem.W.Frag} {mg : Str → Option Value} {base : Heap}
/-! ### Leaps.long_before -/
theorem cn_take (rs : MM.Rules) (y : Nat) : ∀ i, i ≤ rs.length → MM.S rs y = MM.S (rs.drop i) y + ((List.range i).map fun k => MM.turnedV rs k y).sum
  | 0, _ => by simp
  | i + 1, h => by
    rw [cn_take rs y i (by omega), MM.S_drop rs y (by omega), List.range_succ]
    simp
    omega
def lbV (rs : MM.Rules) (y i : Nat) : Nat := ((List.range i).map fun k => MM.turnedV rs k y).sum
theorem lbV_succ (rs : MM.Rules) (y i : Nat) : lbV rs y (i + 1) = lbV rs y i + MM.turnedV rs i y := by
  unfold lbV
  rw [List.range_succ]
  simp
theorem lbV_all (rs : MM.Rules) (y : Nat) : lbV rs y rs.length = MM.cn (MM.isLong rs) y := by
  rw [MM.cn_long, cn_take rs y rs.length (Nat.le_refl _), List.drop_length]
  show _ = 0 + _
  rw [Nat.zero_add]
  rfl
def spLb (K : PySem.W.Frag) : Sp := fun vs H Q E => ∃ (a : Addr) (rs : MM.Rules) (y : Int), vs = [.ref a, .int y] ∧ LeapsAt (LC K) H a rs ∧ ROk rs ∧
  (0 ≤ y → y ≤ 100000 → ∀ H', Ext (TT K) No H H' → Q (.int (MM.cn (MM.isLong rs) y.toNat : Nat)) H') ∧ (¬ (0 ≤ y ∧ y ≤ 100000) → E (YE K) none H)
theorem ok_Leaps_long_before (T : Tx K mg base) : FnOk P w K mg base (L2.CX P w) 3 (He.fAd K ("Leaps", some "long_before")) T.fd_Leaps_long_before ["self", "year"] (spLb K) := by
  refine T.F_Leaps_long_before.ok sc_Leaps_long_before (fun vs H Q E h => ?_) (fun cdv A outer s H vs Q E hr h => ⟨_, (pss_cons (ps_if (pt_not (pt_chain op_le op_le pe_int (pv 1) (pe_op op_add (pe_glob (v := .int 99999) rfl T.i_MOST_YEAR.choose_spec ⟨_, rfl⟩) pe_int))) (pss_one (ps_raise rfl (takes_of rfl rfl rfl rfl) (pmk_own PySem.F.excBase_ValueError T.x_YearError.1 T.g_YearError T.x_YearError.2.1 (raises_own T.x_YearError.2.2.1 T.x_YearError.2.2.2) rfl))) pss_nil)
 (pss_cons (ps_set (i := 2) sc_Leaps_long_before.nd rfl (Or.inl rfl) pe_int)
 (pss_cons (ps_for (passes_of rfl) rfl (pi_range1 rfl T.b_range (pa_cons (pe_callB (call_lenK (K := K) rfl) rfl T.b_len (by decide +kernel) (pa_cons (pe_fldK (K := K) rfl (pv 0) rfl) pa_nil)) pa_nil)) (pg_name (i := 3) sc_Leaps_long_before.nd rfl (Or.inl rfl)) (pss_one (ps_aug (i := 2) sc_Leaps_long_before.nd rfl (Or.inl rfl) (pe_meth (pv 0) T.c_Leaps T.m_Leaps_turned (ok_Leaps_turned T) (hr.mono (by decide)) (bi_Leaps_turned T) .nil (passes_call (takes_of rfl rfl rfl rfl) fun _ _ _ _ h => h) (pa_cons (pv 3) (pa_cons (pv 1) pa_nil))) ip_add)))
 (pss_one (ps_ret (pv 2)))))), ?_⟩)
  · obtain ⟨a, rs, y, rfl, _⟩ := h
    rfl
  · obtain ⟨a, rs, y, rfl, hLP, ok, hQ, hE⟩ := h
    have ⟨dx, p, ts, h1, h2, h3⟩ := hLP
    walk_at "s"
    refine ifB (fun q1 => ?_) (fun q1 => ?_)
    · walk_at "s"
      refine ifB (fun q2 => ?_) (fun q2 => ?_)
      · have q2 : ¬ y ≤ 99999 + 1 := by simpa using q2
        exact hE fun z => q2 (by omega)
      have q1 : 0 ≤ y := by simpa using q1
      have q2 : y ≤ 99999 + 1 := by simpa using q2
      obtain ⟨n, rfl⟩ := Int.eq_ofNat_of_zero_le q1
      have hQ := hQ q1 (by omega)
      walk_at "s"
      refine ⟨_, _, _, _, _, rfl, h1, T.c_Leaps, T.na_Leaps_rules, rfl, ?_⟩
      refine ⟨_, _, rfl, .inr (SqT.of h2), ?_⟩
      have hts := h3.1
      have six := ok.six
      refine ⟨_, rfl, by omega, by simp; omega, ?_⟩
      have hlen : (((ts.map V.ref).length : Nat) : Int).toNat = rs.length := by rw [List.length_map, hts]; omega
      rw [hlen]
      refine for_range (fun i σ' H' => ∃ u, σ' = [some (.ref a), some (.int n), some (.int (lbV rs n i : Nat)), u] ∧ Ext (TT K) No H H') ⟨_, rfl, .refl⟩ ?_ ?_
      · rintro i σ' H' hi ⟨u, rfl, e1⟩
        walk_at "s"
        refine ⟨_, _, _, rfl, e1.fix _ _ h1 rfl, rfl, ?_⟩
        walk_at "s"
        refine ⟨a, rs, i, n, by simp, hLP.ext e1, ok, hi, by omega, fun H2 e2 => ?_⟩
        walk_at "s"
        refine ⟨some (.int (0 + (i : Int))), ?_, e1.trans e2⟩
        rw [lbV_succ, Int.natCast_add]
        rfl
      · rintro σ' H' ⟨u, rfl, e1⟩
        walk_at "s"
        rw [lbV_all]
        exact hQ _ e1
    · have q1 : ¬ 0 ≤ y := by simpa using q1
      walk_at "s"
      exact hE fun z => q1 z.1

/-! ### Leaps.days_before -/
def spDb (K : PySem.W.Frag) : Sp := fun vs H Q E => ∃ (a : Addr) (rs : MM.Rules) (y s : Int), vs = [.ref a, .int y, .int s] ∧ LeapsAt (LC K) H a rs ∧ ROk rs ∧ s < 2 ^ 60 ∧
  (1 ≤ s → 0 ≤ y → y ≤ 100000 → ∀ H', Ext (TT K) No H H' → Q (.int (MM.db rs s.toNat y.toNat : Nat)) H') ∧ (¬ (1 ≤ s ∧ 0 ≤ y ∧ y ≤ 100000) → E (YE K) none H)
theorem ok_Leaps_days_before (T : Tx K mg base) : FnOk P w K mg base (L2.CX P w) 4 (He.fAd K ("Leaps", some "days_before")) T.fd_Leaps_days_before ["self", "year", "short"] (spDb K) := by
  refine T.F_Leaps_days_before.ok sc_Leaps_days_before (fun vs H Q E h => ?_) (fun cdv A outer s H vs Q E hr h => ⟨_, (pss_cons (ps_if (pt_cmpR op_lt (pv 2) pe_int (nomark _)) (pss_one (ps_raise rfl (takes_of rfl rfl rfl rfl) (pmk_own PySem.F.excBase_ValueError T.x_YearError.1 T.g_YearError T.x_YearError.2.1 (raises_own T.x_YearError.2.2.1 T.x_YearError.2.2.2) rfl))) pss_nil)
 (pss_one (ps_ret (pe_op op_add (pe_op op_mul (pv 2) (pv 1)) (pe_meth (pv 0) T.c_Leaps T.m_Leaps_long_before (ok_Leaps_long_before T) (hr.mono (by decide)) (bi_Leaps_long_before T) .nil (passes_call (takes_of rfl rfl rfl rfl) fun _ _ _ _ h => h) (pa_cons (pv 1) pa_nil)))))), ?_⟩)
  · obtain ⟨a, rs, y, s, rfl, _⟩ := h
    rfl
  · obtain ⟨a, rs, y, s, rfl, hLP, ok, hs, hQ, hE⟩ := h
    have ⟨dx, p, ts, h1, h2, h3⟩ := hLP
    walk_at "s"
    refine ifB (fun q1 => ?_) (fun q1 => ?_)
    · have q1 : s < 1 := by simpa using q1
      exact hE fun z => by omega
    have q1 : ¬ s < 1 := by simpa using q1
    walk_at "s"
    refine ⟨.inl ⟨by omega, by omega⟩, ?_⟩
    walk_at "s"
    refine ⟨_, _, _, rfl, h1, rfl, ?_⟩
    walk_at "s"
    refine ⟨a, rs, y, rfl, hLP, ok, fun g1 g2 H2 e2 => ?_, fun g => hE fun z => g z.2⟩
    walk_at "s"
    have h := hQ (by omega) g1 g2 H2 e2
    have e : ((MM.db rs s.toNat y.toNat : Nat) : Int) = s * y + (MM.cn (MM.isLong rs) y.toNat : Nat) := by
      unfold MM.db
      rw [Int.natCast_add, Int.natCast_mul]
      congr 2 <;> omega
    rw [e] at h
    exact h

end K60

set_option Elab.async false
set_option linter.all false
set_option maxRecDepth 100000
set_option maxHeartbeats 2000000
namespace K60
open PySem PySem.Spec PyProof.Rows L2 MB
local macro_rules | `(tactic| walk_at "s") => `(tactic| repeat (first | refine ⟨_, rfl, ?_⟩ | refine ⟨_, _, rfl, rfl, ?_⟩ | refine ⟨_, _, rfl, ?_⟩ | refine ⟨rfl, ?_⟩))
variable {P : Program} {w : World} {K : PySem.W.Frag} {mg : Str → Option Value} {base : Heap}
/-! ### Leaps.__init__ -/
def SeqR (K : PySem.W.Frag) (H : Hp) (q : Addr) (rs : MM.Rules) : Prop := ∃ ts, (SqL K H q (ts.map V.ref) ∨ SqT K H q (ts.map V.ref)) ∧ RulesT H ts rs
structure RV (rs : MM.Rules) : Prop where
  pos : 0 < rs.length
  six : rs.length ≤ 6
  rng : ∀ r ∈ rs, 1 ≤ r.1 ∧ r.1 ≤ 4000
  asc : ∀ (i : Nat) (a b : Nat × Bool), rs[i]? = some a → rs[i + 1]? = some b → a.1 < b.1
def spInit (K : PySem.W.Frag) : Sp := fun vs H Q E => ∃ (x dx q : Addr) (rs : MM.Rules) (H0 : Hp), vs = [.ref x, .ref q] ∧ H0 x = none ∧ H0 dx = none ∧ dx ≠ x ∧ H = upd (upd H0 dx (.own x)) x (.ins (LC K) dx []) ∧ Gd (TT K) H0 ∧ SeqR K H0 q rs ∧ rs.length ≤ 1000 ∧
  (RV rs → ∀ H', LeapsAt (LC K) H' x rs → Ext (TT K) No H0 H' → Q .non H') ∧ (¬ RV rs → ∀ H', Ext (TT K) No H0 H' → E (YE K) none H')
theorem ok_Leaps_init (T : Tx K mg base) (tk : TOk (TT K)) : FnOk P w K mg base (L2.CX P w) 12 (He.fAd K ("Leaps", some "__init__")) T.fd_Leaps_init ["self", "rules"] (spInit K) := by
  refine MB.FunD.okC (d := ("Leaps", some "__init__")) T.F_Leaps_init sc_Leaps_init (fun vs H Q E h => ?_) (fun A outer s H vs Q E hr h => ⟨_, (pss_cons (ps_fld (pv 0) (MG.pe_tupG (g := (gTup K 2 (gCons (gName 2) (gCons (gName 3) gNil)))) (k := 1) (hr.mono (by decide)) rfl T.b_tuple (by decide +kernel) sc_Leaps_init.nd T.tb_Leaps_init rfl (MG.geOk_by (N := ["self", "rules", "number", "longer", "one", "other"]) (sc := defScope s_Leaps_init) (own := [("number", 2), ("longer", 3)]) (by decide +kernel)) (pi_seqK (K := K) rfl (pv 1)) (fun _ _ _ _ _ => (pg_tupK (K := K) (n := 2) rfl rfl (pgs_cons (pg_name (i := 2) sc_Leaps_init.nd rfl (by first | exact Or.inl rfl | exact Or.inr rfl)) (pgs_cons (pg_name (i := 3) sc_Leaps_init.nd rfl (by first | exact Or.inl rfl | exact Or.inr rfl)) pgs_nil)))) (fun _ _ _ _ _ hrg => (pe_tupN (T := TT K) (pa_cons (pv 2) (pa_cons (pv 3) pa_nil))))) rfl)
 (pss_cons (ps_if (PW.pt (pw_or (pt_not (pt_chain op_lt op_le pe_int (pe_callB (call_lenK (K := K) rfl) rfl T.b_len (by decide +kernel) (pa_cons (pe_fldK (K := K) rfl (pv 0) rfl) pa_nil)) pe_int)) (pw_or1 (pt_val (MG.pe_anyG (g := (gTup K 2 (gCons (gName 2) (gCons (gName 3) gNil)))) (k := 1) (hr.mono (by decide)) rfl T.b_any sc_Leaps_init.nd T.tb_Leaps_init rfl (MG.geOk_by (N := ["self", "rules", "number", "longer", "one", "other"]) (sc := defScope s_Leaps_init) (own := [("number", 2), ("longer", 3)]) (by decide +kernel)) (pi_tupK (K := K) rfl (pe_fldK (K := K) rfl (pv 0) rfl)) (fun _ _ _ _ _ => (pg_tupK (K := K) (n := 2) rfl rfl (pgs_cons (pg_name (i := 2) sc_Leaps_init.nd rfl (by first | exact Or.inl rfl | exact Or.inr rfl)) (pgs_cons (pg_name (i := 3) sc_Leaps_init.nd rfl (by first | exact Or.inl rfl | exact Or.inr rfl)) pgs_nil)))) (fun _ _ _ _ _ hrg => (pe_not (pe_chain op_le op_le pe_int (pv 2) pe_int)))))))) (pss_one (ps_raise rfl (takes_of rfl rfl rfl rfl) (pmk_own PySem.F.excBase_ValueError T.x_YearError.1 T.g_YearError T.x_YearError.2.1 (raises_own T.x_YearError.2.2.1 T.x_YearError.2.2.2) rfl))) pss_nil)
 (pss_one (ps_if (pt_val (MG.pe_anyG (g := (gTup K 2 (gCons (gName 4) (gCons (gName 5) gNil)))) (k := 1) (hr.mono (by decide)) rfl T.b_any sc_Leaps_init.nd T.tb_Leaps_init rfl (MG.geOk_by (N := ["self", "rules", "number", "longer", "one", "other"]) (sc := defScope s_Leaps_init) (own := [("one", 4), ("other", 5)]) (by decide +kernel)) (RZ.pi_zipA rfl T.b_zip (pa_cons (pe_fldK (K := K) rfl (pv 0) rfl) (pa_cons (pe_slice (sl_tup1 (T := TT K) (K := K) rfl) (pe_fldK (K := K) rfl (pv 0) rfl) (po_some pe_int) po_none) pa_nil))) (fun _ _ _ _ _ => (pg_tupK (K := K) (n := 2) rfl rfl (pgs_cons (pg_name (i := 4) sc_Leaps_init.nd rfl (by first | exact Or.inl rfl | exact Or.inr rfl)) (pgs_cons (pg_name (i := 5) sc_Leaps_init.nd rfl (by first | exact Or.inl rfl | exact Or.inr rfl)) pgs_nil)))) (fun _ _ _ _ _ hrg => (pe_cmpR op_ge (pe_ix (ix_tupK (K := K) rfl) (pv 4) pe_int (fun _ _ => rfl)) (pe_ix (ix_tupK (K := K) rfl) (pv 5) pe_int (fun _ _ => rfl)) (nomark _))))) (pss_one (ps_raise rfl (takes_of rfl rfl rfl rfl) (pmk_own PySem.F.excBase_ValueError T.x_YearError.1 T.g_YearError T.x_YearError.2.1 (raises_own T.x_YearError.2.2.1 T.x_YearError.2.2.2) rfl))) pss_nil)))), ?_⟩)
  · obtain ⟨x, dx, q, rs, H0, rfl, _⟩ := h
    rfl
  · obtain ⟨x, dx, q, rs, H0, rfl, hx, hdx, hne, rfl, gd, ⟨ts, hq, h3⟩, hlen, hQ, hE⟩ := h
    obtain ⟨Hs, hHs⟩ : ∃ Hs, Hs = upd (upd H0 dx (.own x)) x (.ins (LC K) dx []) := ⟨_, rfl⟩
    rw [← hHs]
    have exs : Ext (TT K) No H0 Hs := by
      rw [hHs]
      exact (Ext.new hdx).trans (Ext.new (by rw [upd_ne (Ne.symm hne)]; exact hx))
    have hxs : Hs x = some (.ins (LC K) dx []) := by rw [hHs]; exact upd_same
    clear hHs
    have tmem : (He.cT K ("Leaps", some "__init__")).2 ∈ (TT K).gen := List.mem_cons_self
    walk_at "s"
    -- the tuple of rules
    have elt : ∀ (i : Nat) (ys : List V) (v : V) (H : Hp) (as : List Addr) (B : V → Hp → Prop), (ts.map V.ref)[i]? = some v → ys = as.map V.ref → RulesT H as (rs.take i) → Ext (TT K) No Hs H →
        (∀ t2 H4, RulesT H4 (as ++ [t2]) (rs.take (i + 1)) → Ext (TT K) No Hs H4 → B (.ref t2) H4) →
        gTup K 2 (gCons (gName 2) (gCons (gName 3) gNil)) v (wipe (L2.start ["self", "rules", "number", "longer", "one", "other"] [V.ref x, V.ref q]) [2, 3]) H fun σ2 H3 => wipe σ2 [2, 3] = wipe (L2.start ["self", "rules", "number", "longer", "one", "other"] [V.ref x, V.ref q]) [2, 3] ∧
          tTupN (TT K) (tCons (tVar 2) (tCons (tVar 3) tNil)) σ2 H3 fun y H4 => MG.cnL ys y H4 (B y H4) := by
      intro i ys v H as B hv hys hr e hk
      obtain ⟨t, r, rfl, ht, hr', _⟩ := h3.get hv
      have hvt := e.fix _ _ (exs.fix _ _ (h3.2 i t r ht hr') rfl) rfl
      refine ⟨_, _, rfl, SqT.of hvt, rfl, ?_⟩
      walk_at "s"
      refine ⟨sz, fun t2 H4 ht2 hv2 e4 => ?_⟩
      refine ⟨?_, hk t2 H4 ?_ (e.trans e4)⟩
      · have h1 := hr.1
        rw [hys, List.length_map, h1]
        exact szl (by rw [List.length_take]; omega)
      · refine ⟨?_, fun j u b g1 g2 => ?_⟩
        · have h1 := hr.1
          have hi := (List.getElem?_eq_some_iff.mp hr').1
          simp only [List.length_append, List.length_take, List.length_cons, List.length_nil] at h1 ⊢
          omega
        · have hi := (List.getElem?_eq_some_iff.mp hr').1
          have hal : as.length = i := by rw [hr.1, List.length_take]; omega
          by_cases hj : j < i
          · rw [List.getElem?_append_left (by omega)] at g1
            rw [List.getElem?_take, if_pos (by omega)] at g2
            exact e4.fix _ _ (hr.2 j u b g1 (by rw [List.getElem?_take, if_pos hj]; exact g2)) rfl
          · have hj2 : j = i := by
              have := (List.getElem?_eq_some_iff.mp g1).1
              simp at this
              omega
            subst hj2
            rw [← hal, List.getElem?_concat_length] at g1
            rw [List.getElem?_take, if_pos (by omega), hr'] at g2
            cases g1
            cases g2
            exact hv2
    have hqs : SqL K Hs q (ts.map V.ref) ∨ SqT K Hs q (ts.map V.ref) := by
      rcases hq with hq | hq
      · rcases hq with (hq | ⟨o, hq⟩) | hq
        · exact .inl (.inl (.inl (exs.lst _ _ hq id)))
        · exact .inl (.inl (.inr ⟨o, exs.frz _ _ _ hq⟩))
        · exact .inl (.inr hq)
      · rcases hq with (hq | ⟨o, hq⟩) | hq
        · exact .inr (.inl (.inl (exs.fix _ _ hq rfl)))
        · exact .inr (.inl (.inr ⟨o, exs.frz _ _ _ hq⟩))
        · exact .inr (.inr hq)
    have sqT : ∀ {H a xs}, SqT K Hs a xs → Ext (TT K) No Hs H → SqT K H a xs := fun h e => by
      rcases h with (h | ⟨o, h⟩) | h
      · exact .inl (.inl (e.fix _ _ h rfl))
      · exact .inl (.inr ⟨o, e.frz _ _ _ h⟩)
      · exact .inr h
    have sqL : ∀ {H a xs}, SqL K Hs a xs → Ext (TT K) No Hs H → SqL K H a xs := fun h e => by
      rcases h with (h | ⟨o, h⟩) | h
      · exact .inl (.inl (e.lst _ _ h id))
      · exact .inl (.inr ⟨o, e.frz _ _ _ h⟩)
      · exact .inr h
    have gs : Gd (TT K) Hs := exs.gd gd
    have tlen : (ts.map V.ref).length = rs.length := by rw [List.length_map, h3.1]
    refine hqs.elim (fun hq => .inl ⟨⟨_, hq⟩, gs.1 _ tmem, fun H2 ht => ⟨_, ⟨_, rfl, Nat.zero_le _, ?_⟩, turns_list (xs := ts.map V.ref) (fun i ys H => ∃ as, ys = as.map V.ref ∧ RulesT H as (rs.take i) ∧ Ext (TT K) No Hs H) (fun i ys H _ ⟨_, _, _, e⟩ => sqL hq e)
        (fun i ys v H hv ⟨as, g1, g2, g3⟩ => elt i ys v H as _ hv g1 g2 g3 fun t2 H4 k1 k2 => ⟨_, ?_, rfl, ?_, as ++ [t2], ?_, k1, k2⟩) ?_⟩⟩)
      (fun hq => .inr ⟨⟨_, hq⟩, gs.1 _ tmem, fun H2 ht => ⟨_, ⟨_, rfl, Nat.zero_le _, ?_⟩, turns_tup (xs := ts.map V.ref) (fun i ys H => ∃ as, ys = as.map V.ref ∧ RulesT H as (rs.take i) ∧ Ext (TT K) No Hs H) (fun i ys H _ ⟨_, _, _, e⟩ => sqT hq e)
        (fun i ys v H hv ⟨as, g1, g2, g3⟩ => elt i ys v H as _ hv g1 g2 g3 fun t2 H4 k1 k2 => ⟨_, ?_, rfl, ?_, as ++ [t2], ?_, k1, k2⟩) ?_⟩⟩)
    all_goals first
      | (have hi := (List.getElem?_eq_some_iff.mp hv).1
         omega)
      | (rw [List.map_append, g1]
         rfl)
      | exact ⟨[], rfl, ⟨rfl, fun _ _ _ z => by simp at z⟩, Ext.tab tk tmem (gs.1 _ tmem) ht⟩
      | skip
    all_goals
      rintro ys H ⟨as, rfl, hr, e1⟩
      rw [tlen, List.take_length] at hr
      refine ⟨by rw [List.length_map, hr.1, sizeLine_eq]; omega, fun p hp => ?_⟩
      obtain ⟨H5, hH5⟩ : ∃ H5, H5 = upd H p (.tup (as.map V.ref)) := ⟨_, rfl⟩
      rw [← hH5]
      have e5 : Ext (TT K) No H H5 := by rw [hH5]; exact Ext.new hp
      have hv5 : H5 p = some (.tup (as.map V.ref)) := by rw [hH5]; exact upd_same
      clear hH5
      have E5 := e1.trans e5
      have hx5 := E5.fix _ _ hxs rfl
      walk_at "s"
      refine ⟨_, _, _, _, rfl, hx5, T.c_Leaps, T.na_Leaps_rules, by simp, ?_⟩
      obtain ⟨H6, hH6⟩ : ∃ H6, H6 = upd H5 x (.ins (LC K) dx (putF "rules" (.ref p) [])) := ⟨_, rfl⟩
      rw [← hH6]
      have E6 : Ext (TT K) No H0 H6 := by rw [hH6]; exact Ext.fld (exs.trans E5) hx hx5
      have hx6 : H6 x = some (.ins (LC K) dx [("rules", .ref p)]) := by rw [hH6]; exact upd_same
      have hp6 : H6 p = some (.tup (as.map V.ref)) := by rw [hH6]; exact upd_ins hx5 hv5 fun _ => by simp
      have hr6 : RulesT H6 as rs := ⟨hr.1, fun i t r g1 g2 => by rw [hH6]; exact upd_ins hx5 (e5.fix _ _ (hr.2 i t r g1 g2) rfl) fun _ => by simp⟩
      clear hH6
      have g6 : Gd (TT K) H6 := E6.gd gd
      have alen : as.length = rs.length := hr6.1
      walk_at "s"
      refine ⟨_, _, _, _, _, rfl, hx6, T.c_Leaps, T.na_Leaps_rules, rfl, ?_⟩
      refine ⟨_, _, rfl, .inr (SqT.of hp6), ?_⟩
      walk_at "s"
      have second : ∀ H7, Ext (TT K) No H6 H7 → 0 < rs.length → rs.length ≤ 6 → (∀ r ∈ rs, 1 ≤ r.1 ∧ r.1 ≤ 4000) →
          tIfS (tB (MG.tAnyG (He.cT K ("Leaps", some "__init__")).2 (RZ.iZipA K (tCons (tFld K (tVar 0) "rules") (tCons (tSl (rSlTN (TT K) K) (tFld K (tVar 0) "rules") (tPart (tC (V.int 1))) tNoPart) tNil)))
            (gTup K 2 (gCons (gName 4) (gCons (gName 5) gNil))) (tOp (rI0 fun i j => V.bl (decide (j ≤ i))) (tOp (rIxT K) (tVar 4) (tC (V.int 0))) (tOp (rIxT K) (tVar 5) (tC (V.int 0)))) [4, 5]))
            (fun _ σ H => E (YE K) none H) tNext { nx := fun _ H' => Q V.non H', rt := Q } (L2.start ["self", "rules", "number", "longer", "one", "other"] [V.ref x, V.ref q]) H7 := by
        intro H7 e7 pos six rng
        have hx7 := e7.fix _ _ hx6 rfl
        have hp7 := e7.fix _ _ hp6 rfl
        walk_at "s"
        refine ⟨_, _, _, _, _, rfl, hx7, T.c_Leaps, T.na_Leaps_rules, rfl, ?_⟩
        walk_at "s"
        refine ⟨_, _, _, _, _, rfl, hx7, T.c_Leaps, T.na_Leaps_rules, rfl, ?_⟩
        walk_at "s"
        refine ⟨_, _, rfl, SqT.of hp7, by rw [List.length_map, alen]; exact pos, ?_⟩
        refine ⟨rfl, rfl, fun p8 H8 hp8 hv8 e8 => ?_⟩
        have E8 := (E6.trans e7).trans e8
        have e68 := e7.trans e8
        have g8 : Gd (TT K) H8 := E8.gd gd
        refine ⟨_, _, _, _, rfl, .inr ⟨SqT.of (e8.fix _ _ hp7 rfl), SqT.of hv8, g8.1 _ tmem, fun H9 ht9 => ⟨_, ⟨_, rfl, Nat.zero_le _, ?_⟩, turns_zipT (xs := as.map V.ref) (zs := (as.map V.ref).drop 1) (fun i ys H => Ext (TT K) No H8 H ∧ ∀ k a b, k < i → rs[k]? = some a → rs[k + 1]? = some b → a.1 < b.1) (by simp) (fun i ys H _ ⟨e, _⟩ => ⟨SqT.of (e.fix _ _ (e8.fix _ _ hp7 rfl) rfl), SqT.of (e.fix _ _ hv8 rfl)⟩) ?_ ?_⟩⟩⟩
        · exact ⟨Ext.tab tk tmem (g8.1 _ tmem) ht9, fun k _ _ z => by omega⟩
        · rintro i ys v1 v2 t H9 hv1 hv2 ⟨e9, hk⟩ ht
          rw [List.getElem?_drop, Nat.add_comm 1 i] at hv2
          obtain ⟨t1, r1, rfl, ht1, hr1, hvt1⟩ := hr6.get hv1
          obtain ⟨t2, r2, rfl, ht2, hr2, hvt2⟩ := hr6.get hv2
          have hi2 := (List.getElem?_eq_some_iff.mp hv2).1
          have e10 : Ext (TT K) No H9 (upd H9 t (.tup [.ref t1, .ref t2])) := Ext.new ht
          have e610 := (e68.trans e9).trans e10
          refine ⟨_, _, rfl, SqT.of upd_same, rfl, ?_⟩
          walk_at "s"
          refine ⟨_, _, _, _, rfl, rfl, SqT.of (e610.fix _ _ hvt1 rfl), rfl, ?_⟩
          walk_at "s"
          refine ⟨_, _, _, _, rfl, rfl, SqT.of (e610.fix _ _ hvt2 rfl), rfl, ?_⟩
          walk_at "s"
          refine ifB (fun q3 => ?_) (fun q3 => ?_)
          · have q3 : r2.1 ≤ r1.1 := by
              have q3 : ((r2.1 : Nat) : Int) ≤ ((r1.1 : Nat) : Int) := by simpa using q3
              omega
            walk_at "s"
            exact hE (fun z => absurd (z.asc i r1 r2 hr1 hr2) (by omega)) _ (E6.trans e610)
          · have q3 : ¬ r2.1 ≤ r1.1 := by
              have q3 : ¬ ((r2.1 : Nat) : Int) ≤ ((r1.1 : Nat) : Int) := by simpa using q3
              omega
            refine ⟨_, ?_, rfl, ?_, e9.trans e10, fun k a b z1 z2 z3 => ?_⟩
            · rw [List.length_drop]
              omega
            · rw [List.length_drop]
              omega
            · by_cases hk2 : k = i
              · subst hk2
                rw [hr1] at z2
                rw [hr2] at z3
                cases z2
                cases z3
                omega
              · exact hk k a b (by omega) z2 z3
        · rintro ys H9 ⟨e9, hk⟩
          refine ⟨_, rfl, ?_⟩
          refine hQ ⟨pos, six, rng, fun i a b z1 z2 => hk i a b ?_ z1 z2⟩ H9 ⟨dx, p, as, e9.fix _ _ (e68.fix _ _ hx6 rfl) rfl, e9.fix _ _ (e68.fix _ _ hp6 rfl) rfl, hr6.ext (e68.trans e9)⟩ (E8.trans e9)
          have := (List.getElem?_eq_some_iff.mp z2).1
          rw [List.length_drop, List.length_map, alen]
          omega
      refine ifB (fun q1 => ?_) (fun q1 => ?_)
      · have q1 : 0 < rs.length := by
          have q1 : (0 : Int) < ((as.map V.ref).length : Nat) := by simpa using q1
          rw [List.length_map, alen] at q1
          omega
        walk_at "s"
        refine ifB (fun q2 => ?_) (fun q2 => ?_)
        · have q2 : ¬ rs.length ≤ 6 := by
            have q2 : ¬ (((as.map V.ref).length : Nat) : Int) ≤ 6 := by simpa using q2
            rw [List.length_map, alen] at q2
            omega
          exact hE (fun z => q2 z.six) _ E6
        have q2 : rs.length ≤ 6 := by
          have q2 : (((as.map V.ref).length : Nat) : Int) ≤ 6 := by simpa using q2
          rw [List.length_map, alen] at q2
          omega
        walk_at "s"
        refine ⟨_, _, _, _, _, rfl, hx6, T.c_Leaps, T.na_Leaps_rules, rfl, ?_⟩
        refine ⟨_, rfl, ⟨_, SqT.of hp6⟩, g6.1 _ tmem, fun H7 ht7 => ⟨_, ⟨_, rfl, Nat.zero_le _, ?_⟩, turns_tup (xs := as.map V.ref) (fun i ys H => Ext (TT K) No H6 H ∧ ∀ k r, k < i → rs[k]? = some r → 1 ≤ r.1 ∧ r.1 ≤ 4000) (fun i ys H _ ⟨e, _⟩ => SqT.of (e.fix _ _ hp6 rfl)) ?_ ?_⟩⟩
        · exact ⟨Ext.tab tk tmem (g6.1 _ tmem) ht7, fun k r z => by omega⟩
        · rintro i ys v H7 hv ⟨e7, hk⟩
          obtain ⟨t, r, rfl, ht, hr', hvt⟩ := hr6.get hv
          have hi := (List.getElem?_eq_some_iff.mp hv).1
          refine ⟨_, _, rfl, SqT.of (e7.fix _ _ hvt rfl), rfl, ?_⟩
          walk_at "s"
          refine ifB (fun q3 => ?_) (fun q3 => ?_)
          · have q3 : 1 ≤ r.1 := by
              have q3 : (1 : Int) ≤ (r.1 : Nat) := by simpa using q3
              omega
            walk_at "s"
            refine ifB (fun q4 => ?_) (fun q4 => ?_)
            · have q4 : ¬ r.1 ≤ 4000 := by
                have q4 : ¬ ((r.1 : Nat) : Int) ≤ 4000 := by simpa using q4
                omega
              walk_at "s"
              exact hE (fun z => q4 (z.rng r (List.mem_of_getElem? hr')).2) _ (E6.trans e7)
            · have q4 : r.1 ≤ 4000 := by
                have q4 : ((r.1 : Nat) : Int) ≤ 4000 := by simpa using q4
                omega
              refine ⟨_, by omega, rfl, hi, e7, fun k r2 z1 z2 => ?_⟩
              by_cases hk2 : k = i
              · subst hk2
                rw [hr'] at z2
                cases z2
                exact ⟨q3, q4⟩
              · exact hk k r2 (by omega) z2
          · have q3 : ¬ 1 ≤ r.1 := by
              have q3 : ¬ (1 : Int) ≤ (r.1 : Nat) := by simpa using q3
              omega
            walk_at "s"
            exact hE (fun z => q3 (z.rng r (List.mem_of_getElem? hr')).1) _ (E6.trans e7)
        · rintro ys H7 ⟨e7, hk⟩
          refine ⟨_, rfl, ?_⟩
          refine second H7 e7 q1 q2 fun r hr => ?_
          obtain ⟨k, hk1, hk2⟩ := List.mem_iff_getElem.mp hr
          exact hk k r (by rw [List.length_map, alen]; exact hk1) (by rw [List.getElem?_eq_getElem hk1, hk2])
      · have q1 : ¬ 0 < rs.length := by
          have q1 : ¬ (0 : Int) < ((as.map V.ref).length : Nat) := by simpa using q1
          rw [List.length_map, alen] at q1
          omega
        walk_at "s"
        exact hE (fun z => q1 z.pos) _ E6
end K60

set_option Elab.async false
set_option linter.all false
set_option maxRecDepth 100000
set_option maxHeartbeats 2000000
namespace K60
open PySem PySem.Spec PyProof.Rows L2 MB
local macro_rules | `(tactic| walk_at "s") => `(tactic| repeat (first | refine ⟨_, rfl, ?_⟩ | refine ⟨_, _, rfl, rfl, ?_⟩ | refine ⟨_, _, rfl, ?_⟩ | refine ⟨rfl, ?_⟩))
variable {P : Program} {w : World} {K : PySem.W.Frag} {mg : Str → Option Value} {base : Heap}
theorem szm {n : Nat} (h : n ≤ 100000) : n < sizeLine := by rw [sizeLine_eq]; omega
/-! ### _law_dice -/
def spDice (K : PySem.W.Frag) : Sp := fun vs H Q _ => ∃ c : Int, vs = [.int c] ∧ ∀ p H', H p = none → DiceAt H' p → Ext (TT K) No H H' → Q (.ref p) H'
theorem ok_law_dice (T : Tx K mg base) : FnOk P w K mg base (L2.CX P w) 1 (He.fAd K ("_law_dice", none)) T.fd_law_dice ["cell"] (spDice K) := by
  refine T.F_law_dice.ok sc_law_dice (fun vs H Q E h => ?_) (fun cdv A outer s H vs Q E hr h => ⟨_, (pss_cons (ps_if (pt_chain op_lt op_lt (pe_op op_sub pe_int pe_int) (pv 0) pe_int) (pss_one (ps_ret (pe_lstN (T := TT K) (pa_cons (pe_callB call_abs rfl T.b_abs (by decide +kernel) (pa_cons (pv 0) pa_nil)) (pa_cons pe_int (pa_cons pe_int pa_nil)))))) pss_nil)
 (pss_one (ps_ret (pe_lstN (T := TT K) (pa_cons (pv 0) (pa_cons (pe_op op_add pe_int (pe_op op_mod (pe_callTy call_int1 rfl T.b_int (by decide +kernel) (pa_cons (pv 0) pa_nil)) pe_int)) (pa_cons (pe_callTy call_int1 rfl T.b_int (by decide +kernel) (pa_cons (pe_cmpR op_ge (pv 0) (pe_op op_pow pe_int pe_int) (nomark _)) pa_nil)) pa_nil))))))), ?_⟩)
  · obtain ⟨c, rfl, _⟩ := h
    rfl
  · obtain ⟨c, rfl, hQ⟩ := h
    walk_at "s"
    refine ifB (fun q1 => ?_) (fun q1 => ?_)
    · walk_at "s"
      refine ifB (fun q2 => ?_) (fun q2 => ?_)
      · walk_at "s"
        refine ⟨sz, fun p H2 h1 h2 e => hQ p H2 h1 ⟨_, _, _, h2⟩ e⟩
      · walk_at "s"
        refine .inl ⟨_, rfl, ?_⟩
        walk_at "s"
        refine ⟨(by show (0 : Int) < 1009; decide), ?_⟩
        walk_at "s"
        refine ⟨⟨by decide, by decide, by decide⟩, ?_⟩
        walk_at "s"
        refine .inr ⟨_, rfl, ?_⟩
        walk_at "s"
        refine ⟨sz, fun p H2 h1 h2 e => hQ p H2 h1 ⟨_, _, _, h2⟩ e⟩
    · walk_at "s"
      refine .inl ⟨_, rfl, ?_⟩
      walk_at "s"
      refine ⟨(by show (0 : Int) < 1009; decide), ?_⟩
      walk_at "s"
      refine ⟨⟨by decide, by decide, by decide⟩, ?_⟩
      walk_at "s"
      refine .inr ⟨_, rfl, ?_⟩
      walk_at "s"
      refine ⟨sz, fun p H2 h1 h2 e => hQ p H2 h1 ⟨_, _, _, h2⟩ e⟩
/-! ### _law_roll -/
def spRoll (K : PySem.W.Frag) : Sp := fun vs H Q _ => ∃ (p : Addr) (m : Int), vs = [.ref p, .int m] ∧ DiceAt H p ∧ 1 ≤ m ∧ m ≤ 100000000 ∧ ∀ (r : Nat) H', (r : Int) < m → DiceAt H' p → Ext (TT K) (· = p) H H' → Q (.int (r : Nat)) H'
theorem ok_law_roll (T : Tx K mg base) : FnOk P w K mg base (L2.CX P w) 1 (He.fAd K ("_law_roll", none)) T.fd_law_roll ["dice", "many"] (spRoll K) := by
  refine T.F_law_roll.ok sc_law_roll (fun vs H Q E h => ?_) (fun cdv A outer s H vs Q E hr h => ⟨_, (pss_cons (ps_if (PW.pt (pw_or (pt_cmpR op_eq (pe_ix (ix_listK (K := K) rfl) (pv 0) pe_int (fun _ _ => rfl)) pe_int (nomark _)) (pw_or1 (PW.pt (pw_and (pt_cmpR op_eq (pe_ix (ix_listK (K := K) rfl) (pv 0) pe_int (fun _ _ => rfl)) pe_int (nomark _)) (pw_and1 (pt_cmpR op_gt (pe_ix (ix_listK (K := K) rfl) (pv 0) pe_int (fun _ _ => rfl)) pe_int (nomark _)))))))) (pss_cons (ps_set (i := 2) sc_law_roll.nd rfl (Or.inl rfl) (pe_op op_mod (pe_callTy call_int1 rfl T.b_int (by decide +kernel) (pa_cons (pe_ix (ix_listK (K := K) rfl) (pv 0) pe_int (fun _ _ => rfl)) pa_nil)) (pv 1)))
 (pss_cons (ps_asg (pe_op op_fdiv (pe_ix (ix_listK (K := K) rfl) (pv 0) pe_int (fun _ _ => rfl)) (pv 1)) (pg_sub (pv 0) pe_int (set_listN (T := TT K))))
 (pss_one (ps_ret (pv 2))))) pss_nil)
 (pss_cons (ps_asg pe_int (pg_sub (pv 0) pe_int (set_listN (T := TT K))))
 (pss_cons (ps_if (pt_cmpR op_gt (pv 1) pe_int (nomark _)) (pss_one ps_never) pss_nil)
 (pss_cons (ps_asg (pe_op op_mod (pe_callTy call_int1 rfl T.b_int (by decide +kernel) (pa_cons (pe_op op_add (pe_op op_add (pe_op op_mul (pe_ix (ix_listK (K := K) rfl) (pv 0) pe_int (fun _ _ => rfl)) pe_int) (pe_op op_mul (pe_ix (ix_listK (K := K) rfl) (pv 0) pe_int (fun _ _ => rfl)) pe_int)) pe_int) pa_nil)) pe_int) (pg_sub (pv 0) pe_int (set_listN (T := TT K))))
 (pss_cons (ps_asg (pe_op op_add (pe_ix (ix_listK (K := K) rfl) (pv 0) pe_int (fun _ _ => rfl)) pe_int) (pg_sub (pv 0) pe_int (set_listN (T := TT K))))
 (pss_one (ps_ret (pe_op op_mod (pe_callTy call_int1 rfl T.b_int (by decide +kernel) (pa_cons (pe_op op_fdiv (pe_ix (ix_listK (K := K) rfl) (pv 0) pe_int (fun _ _ => rfl)) pe_int) pa_nil)) (pv 1))))))))), ?_⟩)
  · obtain ⟨p, m, rfl, _⟩ := h
    rfl
  · obtain ⟨p, m, rfl, ⟨c, n, k, hp⟩, hm1, hm2, hQ⟩ := h
    have fin1 : ∀ H1, H1 p = some (.lst [.int (c / m), .int n, .int k]) → Ext (TT K) (· = p) H H1 → Q (.int (c % m)) H1 := fun H1 h1 e1 => by
      have h0 := Int.emod_nonneg c (show m ≠ 0 by omega)
      have hl := Int.emod_lt_of_pos c (show 0 < m by omega)
      obtain ⟨r, hr⟩ := Int.eq_ofNat_of_zero_le h0
      rw [hr] at hl ⊢
      exact hQ r H1 hl ⟨_, _, _, h1⟩ e1
    have fin2 : ∀ (z : Int) H1, DiceAt H1 p → Ext (TT K) (· = p) H H1 → Q (.int (z % m)) H1 := fun z H1 h1 e1 => by
      have h0 := Int.emod_nonneg z (show m ≠ 0 by omega)
      have hl := Int.emod_lt_of_pos z (show 0 < m by omega)
      obtain ⟨r, hr⟩ := Int.eq_ofNat_of_zero_le h0
      rw [hr] at hl ⊢
      exact hQ r H1 hl h1 e1
    walk_at "s"
    refine ⟨_, _, _, _, rfl, rfl, SqL.of hp, rfl, ?_⟩
    walk_at "s"
    refine ifB (fun q1 => ?_) (fun q1 => ?_)
    · walk_at "s"
      refine ⟨_, _, _, _, rfl, rfl, SqL.of hp, rfl, ?_⟩
      walk_at "s"
      refine .inl ⟨_, rfl, ?_⟩
      walk_at "s"
      refine ⟨by omega, ?_⟩
      walk_at "s"
      refine ⟨_, _, _, _, rfl, rfl, SqL.of hp, rfl, ?_⟩
      walk_at "s"
      refine ⟨⟨by omega, by omega⟩, ?_⟩
      walk_at "s"
      refine ⟨_, _, _, _, rfl, rfl, hp, rfl, fun H1 h1 e1 => ?_⟩
      walk_at "s"
      exact fin1 H1 h1 e1
    · walk_at "s"
      refine ⟨_, _, _, _, rfl, rfl, SqL.of hp, rfl, ?_⟩
      walk_at "s"
      refine ifB (fun q2 => ?_) (fun q2 => ?_)
      · walk_at "s"
        refine ⟨_, _, _, _, rfl, rfl, SqL.of hp, rfl, ?_⟩
        walk_at "s"
        refine ifB (fun q3 => ?_) (fun q3 => ?_)
        · walk_at "s"
          refine ⟨_, _, _, _, rfl, rfl, SqL.of hp, rfl, ?_⟩
          walk_at "s"
          refine .inl ⟨_, rfl, ?_⟩
          walk_at "s"
          refine ⟨by omega, ?_⟩
          walk_at "s"
          refine ⟨_, _, _, _, rfl, rfl, SqL.of hp, rfl, ?_⟩
          walk_at "s"
          refine ⟨⟨by omega, by omega⟩, ?_⟩
          walk_at "s"
          refine ⟨_, _, _, _, rfl, rfl, hp, rfl, fun H1 h1 e1 => ?_⟩
          walk_at "s"
          exact fin1 H1 h1 e1
        · walk_at "s"
          refine ⟨_, _, _, _, rfl, rfl, hp, rfl, fun H1 h1 e1 => ?_⟩
          walk_at "s"
          refine ifB (fun q => absurd q (by simpa using hm2)) (fun _ => ?_)
          walk_at "s"
          refine ⟨_, _, _, _, rfl, rfl, SqL.of h1, rfl, ?_⟩
          walk_at "s"
          refine ⟨.inr ⟨by decide, by decide⟩, ?_⟩
          walk_at "s"
          refine ⟨_, _, _, _, rfl, rfl, SqL.of h1, rfl, ?_⟩
          walk_at "s"
          refine ⟨.inr ⟨by decide, by decide⟩, ?_⟩
          walk_at "s"
          refine .inl ⟨_, rfl, ?_⟩
          walk_at "s"
          refine ⟨(by show (0 : Int) < 2147483647; decide), ?_⟩
          walk_at "s"
          refine ⟨_, _, _, _, rfl, rfl, h1, rfl, fun H2 h2 e2 => ?_⟩
          walk_at "s"
          refine ⟨_, _, _, _, rfl, rfl, SqL.of h2, rfl, ?_⟩
          walk_at "s"
          refine ⟨_, _, _, _, rfl, rfl, h2, rfl, fun H3 h3 e3 => ?_⟩
          walk_at "s"
          refine ⟨_, _, _, _, rfl, rfl, SqL.of h3, rfl, ?_⟩
          walk_at "s"
          refine ⟨⟨by decide, by decide⟩, ?_⟩
          walk_at "s"
          refine .inl ⟨_, rfl, ?_⟩
          walk_at "s"
          refine ⟨by omega, ?_⟩
          exact fin2 _ H3 ⟨_, _, _, h3⟩ ((e1.trans e2).trans e3)
      · walk_at "s"
        refine ⟨_, _, _, _, rfl, rfl, hp, rfl, fun H1 h1 e1 => ?_⟩
        walk_at "s"
        refine ifB (fun q => absurd q (by simpa using hm2)) (fun _ => ?_)
        walk_at "s"
        refine ⟨_, _, _, _, rfl, rfl, SqL.of h1, rfl, ?_⟩
        walk_at "s"
        refine ⟨.inr ⟨by decide, by decide⟩, ?_⟩
        walk_at "s"
        refine ⟨_, _, _, _, rfl, rfl, SqL.of h1, rfl, ?_⟩
        walk_at "s"
        refine ⟨.inr ⟨by decide, by decide⟩, ?_⟩
        walk_at "s"
        refine .inl ⟨_, rfl, ?_⟩
        walk_at "s"
        refine ⟨(by show (0 : Int) < 2147483647; decide), ?_⟩
        walk_at "s"
        refine ⟨_, _, _, _, rfl, rfl, h1, rfl, fun H2 h2 e2 => ?_⟩
        walk_at "s"
        refine ⟨_, _, _, _, rfl, rfl, SqL.of h2, rfl, ?_⟩
        walk_at "s"
        refine ⟨_, _, _, _, rfl, rfl, h2, rfl, fun H3 h3 e3 => ?_⟩
        walk_at "s"
        refine ⟨_, _, _, _, rfl, rfl, SqL.of h3, rfl, ?_⟩
        walk_at "s"
        refine ⟨⟨by decide, by decide⟩, ?_⟩
        walk_at "s"
        refine .inl ⟨_, rfl, ?_⟩
        walk_at "s"
        refine ⟨by omega, ?_⟩
        exact fin2 _ H3 ⟨_, _, _, h3⟩ ((e1.trans e2).trans e3)
/-! ### _law_rounds -/
theorem cut1 (xs : List V) : cutV xs none (some 1) = xs.take 1 := by
  unfold cutV HT.sIx
  simp
def InvRd (K : PySem.W.Frag) (D : Addr) (H1 : Hp) : Nat → Hp → Prop
  | 0, H => H D = some (.lst []) ∧ Ext (TT K) (· = D) H1 H
  | _ + 1, H => ∃ q, H D = some (.lst [.ref q]) ∧ DiceAt H q ∧ q ≠ D ∧ Ext (TT K) (· = D) H1 H
def spRounds (K : PySem.W.Frag) : Sp := fun vs H Q _ => ∃ (a : Addr) (ns : List Int), vs = [.ref a, .int 1] ∧ SqL K H a (ns.map V.int) ∧ ∀ p q H', H' p = some (.lst [.ref q]) → DiceAt H' q → q ≠ p → Ext (TT K) No H H' → Q (.ref p) H'
theorem ok_law_rounds (T : Tx K mg base) : FnOk P w K mg base (L2.CX P w) 2 (He.fAd K ("_law_rounds", none)) T.fd_law_rounds ["script", "most"] (spRounds K) := by
  refine T.F_law_rounds.ok sc_law_rounds (fun vs H Q E h => ?_) (fun cdv A outer s H vs Q E hr h => ⟨_, (pss_cons (ps_set (i := 2) sc_law_rounds.nd rfl (Or.inl rfl) (pe_slice (sl_listNK (T := TT K) (K := K) rfl) (pv 0) po_none (po_some (pv 1))))
 (pss_cons (ps_if (pt_cmpR (op_eqDK (K := K) rfl hr.units) (pv 2) (pe_lstN (T := TT K) pa_nil) (nomark _)) (pss_one (ps_set (i := 2) sc_law_rounds.nd rfl (Or.inl rfl) (pe_lstN (T := TT K) (pa_cons pe_int pa_nil)))) pss_nil)
 (pss_one (ps_ret (pe_lc rfl sc_law_rounds.nd (pi_listK (K := K) rfl (pv 2)) (blkOk_by (N := ["script", "most", "cells", "cell"]) (sc := defScope s_law_rounds) (own := [("cell", 3)]) (by decide +kernel)) (fun _ _ _ _ _ => (pg_name (i := 3) sc_law_rounds.nd rfl (by first | exact Or.inl rfl | exact Or.inr rfl))) (fun _ _ _ _ _ => pts_nil) (fun _ _ _ _ _ => (pe_call (ok_law_dice T) (hr.mono (by decide)) rfl T.g_law_dice T.F_law_dice.kp (bi_law_dice T) .nil passL (pa_cons (pv 3) pa_nil)))))))), ?_⟩)
  · obtain ⟨a, ns, rfl, _⟩ := h
    rfl
  · obtain ⟨a, ns, rfl, hS, hQ⟩ := h
    walk_at "s"
    refine ⟨_, _, rfl, hS, fun p1 H1 hp1 hv1 e1 => ?_⟩
    rw [cut1, ← List.map_take] at hv1
    walk_at "s"
    refine ⟨sz, fun l0 H2 hl0 hv0 e2 => ?_⟩
    have comp : ∀ (q : Addr) (H3 : Hp) (c : Int) (u : Option V), H3 q = some (.lst [.int c]) → Ext (TT K) No H H3 →
        tRet (tLc (iList K (tVar 2)) (gName 3) tYes (tCall (spDice K) [] E0 (tCons (tVar 3) tNil)) [3]) { nx := fun _ H' => Q V.non H', rt := Q } [some (.ref a), some (.int 1), some (.ref q), u] H3 := by
      intro q H3 c u hq e3
      walk_at "s"
      refine ⟨⟨_, SqL.of hq⟩, fun D hD => ?_⟩
      refine lc_list (xs := [.int c]) (InvRd K D H3) ⟨upd_same, (Ext.new hD).no⟩ (fun i H4 hi h => ?_) (fun i x H4 hx h => ?_) (fun H4 h => ?_)
      · have hqD : ¬ q = D := fun z => by rw [z, hD] at hq; cases hq
        match i, h with
        | 0, h => exact SqL.of (h.2.lst _ _ hq hqD)
        | i + 1, ⟨_, _, _, _, h⟩ => exact SqL.of (h.lst _ _ hq hqD)
      · match i, h, hx with
        | 0, h, hx =>
          cases hx
          obtain ⟨h1, h2⟩ := h
          walk_at "s"
          refine fun p5 H5 hp5 hd5 e5 => ?_
          have hD5 := e5.lst _ _ h1 id
          have hpD : p5 ≠ D := fun z => by rw [z, h1] at hp5; cases hp5
          have e6 : Ext (TT K) (· = D) H5 (upd H5 D (.lst [.ref p5])) := Ext.set hD5 rfl
          exact ⟨_, hD5, szl (by simp), p5, upd_same, hd5.ext e6 hpD, hpD, (h2.trans e5.no).trans e6⟩
        | i + 1, h, hx => simp at hx
      · obtain ⟨q5, h1, h2, h3, h4⟩ := h
        exact hQ D q5 H4 h1 h2 h3 (e3.trans (h4.mono1 (NoM.of hD)))
    match ns, hS, hv1 with
    | [], hS, hv1 =>
      refine ⟨.list [], .list [], .lst (SqL.of (e2.lst _ _ hv1 id)) .nil, .lst (SqL.of hv0) .nil, rfl, rfl, ?_⟩
      walk_at "s"
      refine ⟨sz, fun p3 H3 hp3 hv3 e3 => ?_⟩
      exact comp p3 H3 0 _ hv3 ((e1.trans e2).trans e3)
    | c :: ns, hS, hv1 =>
      refine ⟨.list [.int c], .list [], .lst (SqL.of (e2.lst _ _ hv1 id)) (.cons (.int _) .nil), .lst (SqL.of hv0) .nil, rfl, rfl, ?_⟩
      refine ⟨_, rfl, ?_⟩
      exact comp p1 H2 c _ (e2.lst _ _ hv1 id) (e1.trans e2)

/-! ### _law_long -/
def RulesL (K : PySem.W.Frag) (H : Hp) (q : Addr) (rs : MM.Rules) : Prop := ∃ ts, SqL K H q (ts.map V.ref) ∧ RulesT H ts rs
theorem RulesL.ext {T : Tb} {M : Addr → Prop} {H H' : Hp} {q : Addr} {rs : MM.Rules} (h : RulesL K H q rs) (e : Ext T M H H') (n : ¬ M q) : RulesL K H' q rs := by
  obtain ⟨ts, h1, h2⟩ := h
  exact ⟨ts, SqL.ext h1 e n, h2.ext e⟩
def spLong (K : PySem.W.Frag) : Sp := fun vs H Q _ => ∃ (q : Addr) (rs : MM.Rules) (y : Nat), vs = [.ref q, .int y] ∧ RulesL K H q rs ∧ (∀ r ∈ rs, 1 ≤ r.1) ∧ Q (.bl (MM.isLong rs y)) H
theorem ok_law_long (T : Tx K mg base) : FnOk P w K mg base (L2.CX P w) 1 (He.fAd K ("_law_long", none)) T.fd_law_long ["rules", "year"] (spLong K) := by
  refine T.F_law_long.ok sc_law_long (fun vs H Q E h => ?_) (fun cdv A outer s H vs Q E hr h => ⟨_, (pss_cons (ps_set (i := 2) sc_law_long.nd rfl (Or.inl rfl) pe_bl)
 (pss_cons (ps_for (passes_of rfl) rfl (pi_listK (K := K) rfl (pv 0)) (pg_tupK (K := K) (n := 2) rfl rfl (pgs_cons (pg_name (i := 3) sc_law_long.nd rfl (Or.inl rfl)) (pgs_cons (pg_name (i := 4) sc_law_long.nd rfl (Or.inl rfl)) pgs_nil))) (pss_one (ps_set (i := 2) sc_law_long.nd rfl (Or.inl rfl) (pe_ifExp (pt_cmpR op_eq (pe_op op_mod (pv 1) (pv 3)) pe_int (nomark _)) (pv 4) (pv 2)))))
 (pss_one (ps_ret (pv 2))))), ?_⟩)
  · obtain ⟨q, rs, y, rfl, _⟩ := h
    rfl
  · obtain ⟨q, rs, n, rfl, ⟨ts, h2, h3⟩, pos, hQ⟩ := h
    walk_at "s"
    refine ⟨⟨_, h2⟩, ?_⟩
    refine for_list (xs := ts.map V.ref) (fun i σ' H' => ∃ u v, σ' = [some (.ref q), some (.int n), some (.bl (MM.isLong (rs.take i) n)), u, v] ∧ H' = H) ⟨_, _, rfl, rfl⟩ (fun i σ' H' _ ⟨_, _, _, e⟩ => by rw [e]; exact h2) ?_ ?_
    · rintro i x σ' H' hx ⟨u, v, rfl, rfl⟩
      obtain ⟨t, r, rfl, ht, hr', hv⟩ := h3.get hx
      have hr1 := pos r (List.mem_of_getElem? hr')
      refine ⟨_, _, rfl, SqT.of hv, rfl, ?_⟩
      walk_at "s"
      refine ⟨by omega, ?_⟩
      walk_at "s"
      have e := MM.isLong_snoc hr' n
      refine ifB (fun q => ?_) (fun q => ?_)
      · have q : n % r.1 = 0 := by
          have q : ((n : Int) % (r.1 : Int)) = 0 := by simpa using q
          omega
        rw [if_pos q] at e
        walk_at "s"
        exact ⟨_, _, by rw [e]; rfl, rfl⟩
      · have q : ¬ n % r.1 = 0 := by
          have q : ¬ ((n : Int) % (r.1 : Int)) = 0 := by simpa using q
          omega
        rw [if_neg q] at e
        walk_at "s"
        exact ⟨_, _, by rw [e]; rfl, rfl⟩
    · rintro σ' H' ⟨u, v, rfl, rfl⟩
      walk_at "s"
      rw [List.length_map, h3.1, List.take_length]
      exact hQ
end K60

set_option Elab.async false
set_option linter.all false
set_option maxRecDepth 100000
set_option maxHeartbeats 2000000
namespace K60
open PySem PySem.Spec PyProof.Rows L2 MB
local macro_rules | `(tactic| walk_at "s") => `(tactic| repeat (first | refine ⟨_, rfl, ?_⟩ | refine ⟨_, _, rfl, rfl, ?_⟩ | refine ⟨_, _, rfl, ?_⟩ | refine ⟨rfl, ?_⟩))
variable {P : Program} {w : World} {K : PySem.W.Frag} {mg : Str → Option Value} {base : Heap}
/-! ### _law_rules -/
structure RA (K : PySem.W.Frag) (p D : Addr) (H1 : Hp) (i : Nat) (H : Hp) (as : List Addr) (ns : List Int) : Prop where
  lst : H D = some (.lst (as.map V.ref))
  la : as.length = i
  ln : ns.length = i
  at_ : ∀ (j : Nat) (t : Addr) (n : Int), as[j]? = some t → ns[j]? = some n → H t = some (.tup [.int n, .int 1])
  rng : ∀ n ∈ ns, 1 ≤ n ∧ n ≤ 12
  dice : DiceAt H p
  ext : Ext (TT K) (fun b => b = p ∨ b = D) H1 H
structure RB (K : PySem.W.Frag) (p D : Addr) (H1 : Hp) (ys : List Int) (i : Nat) (H : Hp) (as : List Addr) (rs : MM.Rules) : Prop where
  lst : H D = some (.lst (as.map V.ref))
  tab : RulesT H as rs
  ns : rs.map (fun r => ((r.1 : Nat) : Int)) = ys.take i
  dice : DiceAt H p
  ext : Ext (TT K) (fun b => b = p ∨ b = D) H1 H
theorem snoc_at {α β : Type} {as : List α} {bs : List β} {P : α → β → Prop} {a : α} {b : β} (hl : as.length = bs.length) (h : ∀ (j : Nat) (x : α) (y : β), as[j]? = some x → bs[j]? = some y → P x y) (hab : P a b) :
    ∀ (j : Nat) (x : α) (y : β), (as ++ [a])[j]? = some x → (bs ++ [b])[j]? = some y → P x y := by
  intro j x y h1 h2
  by_cases hj : j < as.length
  · rw [List.getElem?_append_left hj] at h1
    rw [List.getElem?_append_left (by omega)] at h2
    exact h j x y h1 h2
  · have e : j = as.length := by
      have := (List.getElem?_eq_some_iff.mp h1).1
      simp at this
      omega
    subst e
    rw [List.getElem?_concat_length] at h1
    rw [hl, List.getElem?_concat_length] at h2
    cases h1
    cases h2
    exact hab
def spRules (K : PySem.W.Frag) : Sp := fun vs H Q _ => ∃ p : Addr, vs = [.ref p] ∧ DiceAt H p ∧ ∀ q rs H', (∃ ts, H' q = some (.lst (ts.map V.ref)) ∧ RulesT H' ts rs) → NoM H q → ROk rs → (∀ r ∈ rs, r.1 ≤ 12) → rs.length ≤ 4 → q ≠ p → DiceAt H' p → Ext (TT K) (· = p) H H' → Q (.ref q) H'
theorem ok_law_rules (T : Tx K mg base) : FnOk P w K mg base (L2.CX P w) 2 (He.fAd K ("_law_rules", none)) T.fd_law_rules ["dice"] (spRules K) := by
  refine T.F_law_rules.ok sc_law_rules (fun vs H Q E h => ?_) (fun cdv A outer s H vs Q E hr h => ⟨_, (pss_cons (ps_set (i := 1) sc_law_rules.nd rfl (Or.inl rfl) (pe_callB (call_sortDN (T := TT K) rfl) rfl T.b_sorted (by decide +kernel) (pa_cons (pe_callTy (call_dictPK (T := TT K) (K := K) rfl rfl) rfl T.b_dict (by decide +kernel) (pa_cons (pe_lc rfl sc_law_rules.nd (pi_range1 rfl T.b_range (pa_cons (pe_op op_add pe_int (pe_call (ok_law_roll T) (hr.mono (by decide)) rfl T.g_law_roll T.F_law_roll.kp (bi_law_roll T) .nil (passes_call (takes_of rfl rfl rfl rfl) fun _ _ _ _ h => h) (pa_cons (pv 0) (pa_cons pe_int pa_nil)))) pa_nil)) (blkOk_by (N := ["dice", "numbers", "k", "number"]) (sc := defScope s_law_rules) (own := [("k", 2)]) (by decide +kernel)) (fun _ _ _ _ _ => (pg_name (i := 2) sc_law_rules.nd rfl (by first | exact Or.inl rfl | exact Or.inr rfl))) (fun _ _ _ _ _ => pts_nil) (fun _ _ _ _ _ => (pe_tupN (T := TT K) (pa_cons (pe_op op_add pe_int (pe_call (ok_law_roll T) (hr.mono (by decide)) rfl T.g_law_roll T.F_law_roll.kp (bi_law_roll T) .nil passL (pa_cons (pv 0) (pa_cons pe_int pa_nil)))) (pa_cons pe_int pa_nil))))) pa_nil)) pa_nil)))
 (pss_one (ps_ret (pe_lc rfl sc_law_rules.nd (pi_listK (K := K) rfl (pv 1)) (blkOk_by (N := ["dice", "numbers", "k", "number"]) (sc := defScope s_law_rules) (own := [("number", 3)]) (by decide +kernel)) (fun _ _ _ _ _ => (pg_name (i := 3) sc_law_rules.nd rfl (by first | exact Or.inl rfl | exact Or.inr rfl))) (fun _ _ _ _ _ => pts_nil) (fun _ _ _ _ _ => (pe_tupN (T := TT K) (pa_cons (pv 3) (pa_cons (pe_cmpR op_eq (pe_call (ok_law_roll T) (hr.mono (by decide)) rfl T.g_law_roll T.F_law_roll.kp (bi_law_roll T) .nil passL (pa_cons (pv 0) (pa_cons pe_int pa_nil))) pe_int (nomark _)) pa_nil)))))))), ?_⟩)
  · obtain ⟨p, rfl, _⟩ := h
    rfl
  · obtain ⟨p, rfl, hd, hQ⟩ := h
    walk_at "s"
    refine ⟨hd, by decide, by decide, fun r1 H1 hr1 hd1 e1 => ?_⟩
    walk_at "s"
    refine ⟨by omega, by omega, fun D hD => ?_⟩
    have hDp : ¬ D = p := fun z => by
      obtain ⟨_, _, _, h⟩ := hd1
      rw [z, h] at hD
      cases hD
    have hn : ((1 : Int) + (r1 : Int)).toNat = r1 + 1 := by omega
    rw [hn]
    refine lc_range (fun i H2 => ∃ as ns, RA K p D H1 i H2 as ns) ⟨[], [], upd_same, rfl, rfl, fun _ _ _ z => by simp at z, fun _ z => by simp at z, hd1.ext (T := TT K) (M := No) (Ext.new hD) id, (Ext.new hD).no⟩ ?_ ?_
    · rintro i H2 hi ⟨as, ns, R⟩
      walk_at "s"
      refine ⟨R.dice, by decide, by decide, fun r2 H3 hr2 hd3 e3 => ?_⟩
      walk_at "s"
      refine ⟨sz, fun t H4 ht hv e4 => ?_⟩
      have hl4 := e4.lst _ _ (e3.lst _ _ R.lst hDp) id
      have e34 : Ext (TT K) (fun b => b = p ∨ b = D) H2 H4 := (e3.more fun b z => .inl z).trans e4.no
      have e5 : Ext (TT K) (· = D) H4 (upd H4 D (.lst (as.map V.ref ++ [.ref t]))) := Ext.set hl4 rfl
      have e35 : Ext (TT K) (fun b => b = p ∨ b = D) H2 (upd H4 D (.lst (as.map V.ref ++ [.ref t]))) := e34.trans (e5.more fun b z => .inr z)
      refine ⟨_, hl4, by rw [List.length_map, R.la]; exact szl (by omega), as ++ [t], ns ++ [1 + (r2 : Int)], by rw [List.map_append]; exact upd_same, by simp [R.la], by simp [R.ln], ?_, ?_, ?_, R.ext.trans e35⟩
      · refine snoc_at (by rw [R.la, R.ln]) (fun j t n g1 g2 => e35.fix _ _ (R.at_ j t n g1 g2) rfl) ?_
        exact e5.fix _ _ hv rfl
      · intro n hn
        rcases List.mem_append.mp hn with hn | hn
        · exact R.rng n hn
        · simp at hn
          omega
      · exact (hd3.ext e4 id).ext e5 (Ne.symm hDp)
    rintro H5 ⟨as, ns, R⟩
    walk_at "s"
    have hkv : (ns.map fun n => ((Sum.inl n : Key), V.int 1)) = (ns.map fun n => (n, V.int 1)).map fun p => ((Sum.inl p.1 : Key), p.2) := by rw [List.map_map]; rfl
    obtain ⟨ks, k1, k2, k3, k4⟩ := mergeK_ints (ns.map fun n => (n, V.int 1)) [] [] rfl List.nodup_nil
    rw [← hkv] at k1
    have hlen4 : ns.length ≤ 4 := by rw [R.ln]; omega
    refine ⟨D, as, ns.map fun n => (Sum.inl n, V.int 1), rfl, SqL.of R.lst, paired_get (by rw [List.length_map, R.la, R.ln]) (fun i t kv g1 g2 => ?_), fun p2 H6 hp2 hv6 e6 => ?_⟩
    · rw [List.getElem?_map] at g2
      cases g3 : ns[i]? with
      | none => rw [g3] at g2; cases g2
      | some n =>
        rw [g3] at g2
        cases g2
        exact SqT.of (R.at_ i t n g1 g3)
    walk_at "s"
    refine ⟨p2, _, ks, rfl, hv6, k1, by simp at k4; omega, fun ys p3 H7 hperm hsort hp3 hv7 e7 => ?_⟩
    have hys : ∀ y ∈ ys, 1 ≤ y ∧ y ≤ 12 := fun y hy => by
      have h1 := (k3 y).mp (hperm.mem_iff.mp hy)
      rcases h1 with h1 | h1
      · simp at h1
      · simp at h1
        exact R.rng y h1
    have hyl : ys.length ≤ 4 := by
      rw [hperm.length_eq]
      simp at k4
      omega
    have hy0 : 0 < ys.length := by
      rw [hperm.length_eq]
      have h1 : 0 < ns.length := by rw [R.ln]; omega
      have h2 : ns[0] ∈ ks := (k3 _).mpr (.inr (by simp))
      exact List.length_pos_of_mem h2
    have hyn : ys.Pairwise (· < ·) := lt_of_le_nodup hsort (hperm.nodup_iff.mpr k2)
    have d7 : DiceAt H7 p := (R.dice.ext e6 id).ext e7 id
    have E7 : Ext (TT K) (fun b => b = p ∨ b = D) H H7 := ((e1.more fun b z => .inl z).trans R.ext).trans ((e6.trans e7).no)
    have nlD : NoM H D := NoM.back e1 hDp (NoM.of hD)
    have E7' : Ext (TT K) (· = p) H H7 := E7.mono fun b z => z.elim .inl fun z => .inr (by rw [z]; exact nlD)
    walk_at "s"
    refine ⟨⟨_, SqL.of hv7⟩, fun D2 hD2 => ?_⟩
    have hD2p : ¬ D2 = p := fun z => by
      obtain ⟨_, _, _, h⟩ := d7
      rw [z, h] at hD2
      cases hD2
    have hD23 : ¬ p3 = D2 := fun z => by rw [z, hD2] at hv7; cases hv7
    have hp3p : ¬ p3 = p := fun z => by
      obtain ⟨_, _, _, h⟩ := R.dice.ext e6 id
      rw [z, h] at hp3
      cases hp3
    refine lc_list (xs := ys.map V.int) (fun i H8 => ∃ as rs, RB K p D2 H7 ys i H8 as rs) ⟨[], [], upd_same, ⟨rfl, fun _ _ _ z => by simp at z⟩, by simp, d7.ext (T := TT K) (M := No) (Ext.new hD2) id, (Ext.new hD2).no⟩
      (fun i H8 _ ⟨as, rs, B⟩ => SqL.of (B.ext.lst _ _ hv7 fun z => z.elim hp3p hD23)) ?_ ?_
    · rintro i x H8 hx ⟨as, rs, B⟩
      rw [List.getElem?_map] at hx
      cases g3 : ys[i]? with
      | none => rw [g3] at hx; cases hx
      | some y =>
        rw [g3] at hx
        cases hx
        have hyy := hys y (List.mem_of_getElem? g3)
        have hi := (List.getElem?_eq_some_iff.mp g3).1
        obtain ⟨n, rfl⟩ := Int.eq_ofNat_of_zero_le (show 0 ≤ y by omega)
        walk_at "s"
        refine ⟨B.dice, by decide, by decide, fun r2 H9 hr2 hd9 e9 => ?_⟩
        walk_at "s"
        refine ⟨sz, fun t H10 ht hv e10 => ?_⟩
        have hl4 := e10.lst _ _ (e9.lst _ _ B.lst hD2p) id
        have e34 : Ext (TT K) (fun b => b = p ∨ b = D2) H8 H10 := (e9.more fun b z => .inl z).trans e10.no
        have e5 : Ext (TT K) (· = D2) H10 (upd H10 D2 (.lst (as.map V.ref ++ [.ref t]))) := Ext.set hl4 rfl
        have e35 : Ext (TT K) (fun b => b = p ∨ b = D2) H8 (upd H10 D2 (.lst (as.map V.ref ++ [.ref t]))) := e34.trans (e5.more fun b z => .inr z)
        have hrl : rs.length = i := by
          have := congrArg List.length B.ns
          simp at this
          omega
        have hal := B.tab.1
        refine ⟨_, hl4, by rw [List.length_map, hal, hrl]; exact szl (by omega), as ++ [t], rs ++ [(n, decide (V.int (r2 : Int) = V.int 0))], by rw [List.map_append]; exact upd_same, ⟨by simp [hal], ?_⟩, ?_, (hd9.ext e10 id).ext e5 (Ne.symm hD2p), B.ext.trans e35⟩
        · refine snoc_at hal (fun j t r g1 g2 => e35.fix _ _ (B.tab.2 j t r g1 g2) rfl) ?_
          exact e5.fix _ _ hv rfl
        · rw [List.map_append, B.ns, List.take_add_one, g3]
          rfl
    · rintro H8 ⟨as, rs, B⟩
      have hB := B.ns
      rw [List.length_map, List.take_length] at hB
      obtain ⟨ok, h12⟩ := ROk.of12 hB hy0 hyl hys hyn
      have hrl : rs.length = ys.length := by rw [← hB, List.length_map]
      have nl2 : NoM H D2 := NoM.back E7' hD2p (NoM.of hD2)
      exact hQ D2 rs H8 ⟨as, B.lst, B.tab⟩ nl2 ok h12 (by omega) hD2p B.dice ((E7'.more fun b z => .inl z).trans B.ext |>.mono fun b z => z.elim .inl fun z => .inr (by rw [z]; exact nl2))
end K60

set_option Elab.async false
set_option linter.all false
set_option maxRecDepth 100000
set_option maxHeartbeats 2000000
namespace K60
open PySem PySem.Spec PyProof.Rows L2 MB
local macro_rules | `(tactic| walk_at "s") => `(tactic| repeat (first | refine ⟨_, rfl, ?_⟩ | refine ⟨_, _, rfl, rfl, ?_⟩ | refine ⟨_, _, rfl, ?_⟩ | refine ⟨rfl, ?_⟩))
variable {P : Program} {w : World} {K : PySem.W.Frag} {mg : Str → Option Value} {base : Heap}
abbrev ME (K : PySem.W.Frag) : Value := .ref (He.ga K "MonthError")
abbrev CC (K : PySem.W.Frag) : Addr := He.ga K "Calendar"
/-! ### months -/
abbrev Mons := List (Str × Nat)
def MonsT (H : Hp) (ts : List Addr) (ms : Mons) : Prop := ts.length = ms.length ∧ ∀ (i : Nat) (t : Addr) (m : Str × Nat), ts[i]? = some t → ms[i]? = some m → H t = some (.tup [.str m.1, .int (m.2 : Nat)])
theorem MonsT.ext {T : Tb} {M : Addr → Prop} {H H' : Hp} {ts : List Addr} {ms : Mons} (h : MonsT H ts ms) (e : Ext T M H H') : MonsT H' ts ms := ⟨h.1, fun i t r h1 h2 => e.fix _ _ (h.2 i t r h1 h2) rfl⟩
theorem MonsT.get {H : Hp} {ts : List Addr} {ms : Mons} (h : MonsT H ts ms) {i : Nat} {v : V} (e : (ts.map V.ref)[i]? = some v) : ∃ t m, v = .ref t ∧ ts[i]? = some t ∧ ms[i]? = some m ∧ H t = some (.tup [.str m.1, .int (m.2 : Nat)]) := by
  rw [List.getElem?_map] at e
  cases e1 : ts[i]? with
  | none => rw [e1] at e; cases e
  | some t =>
    rw [e1] at e
    cases e
    have hi := (List.getElem?_eq_some_iff.mp e1).1
    have hj : i < ms.length := h.1 ▸ hi
    have h2 := List.getElem?_eq_getElem (l := ms) hj
    exact ⟨t, _, rfl, rfl, h2, h.2 i t _ e1 h2⟩
theorem monnil {H : Hp} : MonsT H [] [] := ⟨rfl, fun _ _ _ z => by simp at z⟩
theorem monsnoc {H : Hp} {as : List Addr} {ms : Mons} {t : Addr} {x : Str} {n : Nat} (h : MonsT H as ms) (ht : H t = some (.tup [.str x, .int (n : Nat)])) : MonsT H (as ++ [t]) (ms ++ [(x, n)]) :=
  ⟨by simp [h.1], snoc_at h.1 h.2 ht⟩
def SeqM (K : PySem.W.Frag) (H : Hp) (q : Addr) (ms : Mons) : Prop := ∃ ts, (SqL K H q (ts.map V.ref) ∨ SqT K H q (ts.map V.ref)) ∧ MonsT H ts ms
structure MsV (ms : Mons) (lg : Str) : Prop where
  pos : 0 < ms.length
  most : ms.length ≤ 20
  nd : (ms.map (·.1)).Nodup
  lg : lg ∈ ms.map (·.1)
  nm : ∀ m ∈ ms, m.1 ≠ "" ∧ 32 ∉ m.1.cps.toList
  rng : ∀ m ∈ ms, 1 ≤ m.2 ∧ m.2 ≤ 60
def CalAt (K : PySem.W.Frag) (H : Hp) (a : Addr) (ms : Mons) (lg : Str) (rs : MM.Rules) : Prop := ∃ dx p ts lp, H a = some (.ins (CC K) dx [("months", .ref p), ("longer", .str lg), ("leaps", .ref lp)]) ∧ H p = some (.tup (ts.map V.ref)) ∧ MonsT H ts ms ∧ LeapsAt (LC K) H lp rs
theorem CalAt.ext {T : Tb} {M : Addr → Prop} {H H' : Hp} {a : Addr} {ms : Mons} {lg : Str} {rs : MM.Rules} (h : CalAt K H a ms lg rs) (e : Ext T M H H') : CalAt K H' a ms lg rs := by
  obtain ⟨dx, p, ts, lp, h1, h2, h3, h4⟩ := h
  exact ⟨dx, p, ts, lp, e.fix _ _ h1 rfl, e.fix _ _ h2 rfl, h3.ext e, h4.ext e⟩
theorem putK_len {kvs : List (Key × V)} {k : Key} {v : V} : (putK kvs k v).length = if (valV kvs k).isSome = true then kvs.length else kvs.length + 1 := by
  unfold putK
  rw [valV_any]
  split
  · rw [List.length_map]
  · rw [List.length_append]; rfl
def spCInit (K : PySem.W.Frag) : Sp := fun vs H Q E => ∃ (x dx q rq : Addr) (ms : Mons) (lg : Str) (rs : MM.Rules) (H0 : Hp), vs = [.ref x, .ref q, .str lg, .ref rq] ∧ H0 x = none ∧ H0 dx = none ∧ dx ≠ x ∧ H = upd (upd H0 dx (.own x)) x (.ins (CC K) dx []) ∧
  Gd (TT K) H0 ∧ SeqM K H0 q ms ∧ ms.length ≤ 900 ∧ SeqR K H0 rq rs ∧ rs.length ≤ 900 ∧
  (MsV ms lg → RV rs → ∀ H', CalAt K H' x ms lg rs → Ext (TT K) No H0 H' → Q .non H') ∧ (RV rs → ¬ MsV ms lg → ∀ H', Ext (TT K) No H0 H' → E (ME K) none H') ∧ (¬ RV rs → ∀ H', Ext (TT K) No H0 H' → E (YE K) none H')
theorem ok_Calendar_init (T : Tx K mg base) (tk : TOk (TT K)) : FnOk P w K mg base (L2.CX P w) 14 (He.fAd K ("Calendar", some "__init__")) T.fd_Calendar_init ["self", "months", "longer", "rules"] (spCInit K) := by
  refine MB.FunD.okC (d := ("Calendar", some "__init__")) T.F_Calendar_init sc_Calendar_init (fun vs H Q E h => ?_) (fun A outer s H vs Q E hr h => ⟨_, (pss_cons (ps_fld (pv 0) (MG.pe_tupG (g := (gTup K 2 (gCons (gName 4) (gCons (gName 5) gNil)))) (k := 1) (hr.mono (by decide)) rfl T.b_tuple (by decide +kernel) sc_Calendar_init.nd T.tb_Calendar_init rfl (MG.geOk_by (N := ["self", "months", "longer", "rules", "name", "days", "names"]) (sc := defScope s_Calendar_init) (own := [("name", 4), ("days", 5)]) (by decide +kernel)) (pi_seqK (K := K) rfl (pv 1)) (fun _ _ _ _ _ => (pg_tupK (K := K) (n := 2) rfl rfl (pgs_cons (pg_name (i := 4) sc_Calendar_init.nd rfl (by first | exact Or.inl rfl | exact Or.inr rfl)) (pgs_cons (pg_name (i := 5) sc_Calendar_init.nd rfl (by first | exact Or.inl rfl | exact Or.inr rfl)) pgs_nil)))) (fun _ _ _ _ _ hrg => (pe_tupN (T := TT K) (pa_cons (pv 4) (pa_cons (pv 5) pa_nil))))) rfl)
 (pss_cons (ps_fld (pv 0) (pv 2) rfl)
 (pss_cons (ps_fld (pv 0) (pe_make T.mk_Leaps (ok_Leaps_init T tk) (hr.mono (by decide)) rfl T.g_Leaps (bi_Leaps_init T) .nil (passes_call (takes_of rfl rfl rfl rfl) fun _ _ _ _ h => h) (pa_cons (pv 3) pa_nil)) rfl)
 (pss_cons (ps_setDc (i := 6) rfl sc_Calendar_init.nd rfl rfl rfl (pi_tupK (K := K) rfl (pe_fldK (K := K) rfl (pv 0) rfl)) (blkOk_by (N := ["self", "months", "longer", "rules", "name", "days", "names"]) (sc := defScope s_Calendar_init) (own := [("name", 4), ("days", 5)]) (by decide +kernel)) (fun _ _ _ _ _ => (pg_tupK (K := K) (n := 2) rfl rfl (pgs_cons (pg_name (i := 4) sc_Calendar_init.nd rfl (by first | exact Or.inl rfl | exact Or.inr rfl)) (pgs_cons (pg_name (i := 5) sc_Calendar_init.nd rfl (by first | exact Or.inl rfl | exact Or.inr rfl)) pgs_nil)))) (fun _ _ _ _ _ => pts_nil) (fun _ _ _ _ _ => (pv 4)) (fun _ _ _ _ _ => pe_bl))
 (pss_cons (ps_if (PW.pt (pw_or (pt_not (pt_chain op_lt op_le pe_int (pe_callB (call_lenK (K := K) rfl) rfl T.b_len (by decide +kernel) (pa_cons (pe_fldK (K := K) rfl (pv 0) rfl) pa_nil)) pe_int)) (pw_or (pt_cmpR op_lt (pe_callB call_lenD rfl T.b_len (by decide +kernel) (pa_cons (pv 6) pa_nil)) (pe_callB (call_lenK (K := K) rfl) rfl T.b_len (by decide +kernel) (pa_cons (pe_fldK (K := K) rfl (pv 0) rfl) pa_nil)) (nomark _)) (pw_or1 (pt_cmp (pc_dnotin (Nat.lt_of_le_of_lt (Nat.add_le_add_left (by decide) _) hr.units) (pv 2) (pv 6)) (by with_unfolding_all rfl)))))) (pss_one (ps_raise rfl (takes_of rfl rfl rfl rfl) (pmk_own PySem.F.excBase_ValueError T.x_MonthError.1 T.g_MonthError T.x_MonthError.2.1 (raises_own T.x_MonthError.2.2.1 T.x_MonthError.2.2.2) rfl))) pss_nil)
 (pss_one (ps_if (pt_val (MG.pe_anyG (g := (gTup K 2 (gCons (gName 4) (gCons (gName 5) gNil)))) (k := 1) (hr.mono (by decide)) rfl T.b_any sc_Calendar_init.nd T.tb_Calendar_init rfl (MG.geOk_by (N := ["self", "months", "longer", "rules", "name", "days", "names"]) (sc := defScope s_Calendar_init) (own := [("name", 4), ("days", 5)]) (by decide +kernel)) (pi_tupK (K := K) rfl (pe_fldK (K := K) rfl (pv 0) rfl)) (fun _ _ _ _ _ => (pg_tupK (K := K) (n := 2) rfl rfl (pgs_cons (pg_name (i := 4) sc_Calendar_init.nd rfl (by first | exact Or.inl rfl | exact Or.inr rfl)) (pgs_cons (pg_name (i := 5) sc_Calendar_init.nd rfl (by first | exact Or.inl rfl | exact Or.inr rfl)) pgs_nil)))) (fun _ _ _ _ _ hrg => (pe_or (pe_cmpR op_eq (pv 4) pe_str (nomark _)) (pe_or (pe_cmpR op_in_sign pe_str (pv 4) (by with_unfolding_all rfl)) (pe_one (pe_not (pe_chain op_le op_le pe_int (pv 5) pe_int)))))))) (pss_one (ps_raise rfl (takes_of rfl rfl rfl rfl) (pmk_own PySem.F.excBase_ValueError T.x_MonthError.1 T.g_MonthError T.x_MonthError.2.1 (raises_own T.x_MonthError.2.2.1 T.x_MonthError.2.2.2) rfl))) pss_nil))))))), ?_⟩)
  · obtain ⟨x, dx, q, rq, ms, lg, rs, H0, rfl, _⟩ := h
    rfl
  · obtain ⟨x, dx, q, rq, ms, lg, rs, H0, rfl, hx, hdx, hne, rfl, gd, hM, hml, hR, hrl, hQ, hE, hY⟩ := h
    obtain ⟨Hs, hHs⟩ : ∃ Hs, Hs = upd (upd H0 dx (.own x)) x (.ins (CC K) dx []) := ⟨_, rfl⟩
    rw [← hHs]
    have exs : Ext (TT K) No H0 Hs := by
      rw [hHs]
      exact (Ext.new hdx).trans (Ext.new (by rw [upd_ne (Ne.symm hne)]; exact hx))
    have hxs : Hs x = some (.ins (CC K) dx []) := by rw [hHs]; exact upd_same
    clear hHs
    have tmem : (He.cT K ("Calendar", some "__init__")).2 ∈ (TT K).gen := by simp [TT]
    have gs : Gd (TT K) Hs := exs.gd gd
    obtain ⟨ts, hq, hT⟩ := hM
    have hTs := hT.ext exs
    have tl : (ts.map V.ref).length = ms.length := by rw [List.length_map, hT.1]
    rw [tSeq, sFld]
    refine tupG_inv tk tmem rfl (hq.elim (fun h => .inl (SqL.ext h exs id)) (fun h => .inr (SqT.ext h exs))) (gs.1 _ tmem) (by omega) (fun i ys H' => ∃ as : List Addr, ys = as.map V.ref ∧ MonsT H' as (ms.take i)) (fun H' _ => ⟨[], rfl, monnil⟩) ?_ ?_
    · rintro i ys v H' B hv hyl e ⟨as, rfl, hA⟩ hB
      obtain ⟨t, m, rfl, ht, hm, hvt⟩ := hTs.get hv
      refine ⟨_, _, rfl, SqT.of (e.fix _ _ hvt rfl), rfl, ?_⟩
      walk_at "s"
      refine ⟨sz, fun t2 H4 ht2 hv2 e4 => hB _ H4 e4 ⟨as ++ [t2], by rw [List.map_append]; rfl, ?_⟩⟩
      have htk : ms.take (i + 1) = ms.take i ++ [m] := by rw [List.take_add_one, hm]; rfl
      rw [htk]
      exact monsnoc (hA.ext e4) hv2
    rintro ys H1 ⟨as, rfl, hA⟩ e1 p H2 hp e2
    rw [tl, List.take_length] at hA
    have hA2 := hA.ext e2
    have E2 := e1.trans e2
    have hx2 := E2.fix _ _ hxs rfl
    -- what a field written leaves
    have wr : ∀ {Ha Hb : Hp} {C d : Addr} {fs fs' : List (Str × V)}, Ext (TT K) No H0 Ha → Ha x = some (.ins C d fs) → Hb = upd Ha x (.ins C d fs') →
        Ext (TT K) No H0 Hb ∧ (∀ b o, Ha b = some o → (∀ fs, o ≠ .ins C d fs) → Hb b = some o) ∧ Hb x = some (.ins C d fs') := fun e h hb => by
      subst hb
      exact ⟨Ext.fld e hx h, fun b o ho n => upd_ins h ho n, upd_same⟩
    have E02 := exs.trans E2
    walk_at "s"
    refine ⟨_, _, _, _, rfl, hx2, T.c_Calendar, T.na_Calendar_months, by simp, ?_⟩
    obtain ⟨H3, hH3⟩ : ∃ H3, H3 = upd H2 x (.ins (CC K) dx (putF "months" (.ref p) [])) := ⟨_, rfl⟩
    rw [← hH3]
    obtain ⟨E03, k3, hx3⟩ := wr E02 hx2 hH3
    have hp3 := k3 _ _ hp fun _ => by simp
    have hA3 : MonsT H3 as ms := ⟨hA2.1, fun i t m g1 g2 => k3 _ _ (hA2.2 i t m g1 g2) fun _ => by simp⟩
    clear hH3 k3
    walk_at "s"
    refine ⟨_, _, _, _, rfl, hx3, T.c_Calendar, T.na_Calendar_longer, (show (1 : Nat) < 1000 by decide), ?_⟩
    obtain ⟨H4, hH4⟩ : ∃ H4, H4 = upd H3 x (.ins (CC K) dx (putF "longer" (.str lg) (putF "months" (.ref p) []))) := ⟨_, rfl⟩
    rw [← hH4]
    obtain ⟨E04, k4, hx4⟩ := wr E03 hx3 hH4
    have hp4 := k4 _ _ hp3 fun _ => by simp
    have hA4 : MonsT H4 as ms := ⟨hA3.1, fun i t m g1 g2 => k4 _ _ (hA3.2 i t m g1 g2) fun _ => by simp⟩
    clear hH4 k4 hp3 hA3 hx3 E03
    have gd4 := E04.gd gd
    obtain ⟨rts, hrq, hrT⟩ := hR
    walk_at "s"
    intro lx ldx hlx hldx hlne
    refine ⟨lx, ldx, rq, rs, H4, rfl, hlx, hldx, hlne, rfl, gd4, ⟨rts, hrq.elim (fun h => .inl (SqL.ext h E04 id)) (fun h => .inr (SqT.ext h E04)), hrT.ext E04⟩, by omega, fun rv H5 hle e5 => ⟨rfl, ?_⟩, fun nrv H5 e5 => hY nrv H5 (E04.trans e5)⟩
    have hx5 := e5.fix _ _ hx4 rfl
    have hp5 := e5.fix _ _ hp4 rfl
    have hA5 := hA4.ext e5
    have E05 := E04.trans e5
    walk_at "s"
    refine ⟨_, _, _, _, rfl, hx5, T.c_Calendar, T.na_Calendar_leaps, (show (2 : Nat) < 1000 by decide), ?_⟩
    obtain ⟨H6, hH6⟩ : ∃ H6, H6 = upd H5 x (.ins (CC K) dx (putF "leaps" (.ref lx) (putF "longer" (.str lg) (putF "months" (.ref p) [])))) := ⟨_, rfl⟩
    rw [← hH6]
    obtain ⟨E06, k6, hx6⟩ := wr E05 hx5 hH6
    have hp6 := k6 _ _ hp5 fun _ => by simp
    have hA6 : MonsT H6 as ms := ⟨hA5.1, fun i t m g1 g2 => k6 _ _ (hA5.2 i t m g1 g2) fun _ => by simp⟩
    have hle6 : LeapsAt (LC K) H6 lx rs := by
      obtain ⟨d9, p9, ts9, g1, g2, g3⟩ := hle
      have hlxx : lx ≠ x := fun z => by rw [z, hx4] at hlx; cases hlx
      refine ⟨d9, p9, ts9, by rw [hH6, upd_ne hlxx]; exact g1, k6 _ _ g2 fun _ => by simp, g3.1, fun i t m h1 h2 => k6 _ _ (g3.2 i t m h1 h2) fun _ => by simp⟩
    clear hH6 k6 hp5 hA5 hx5 E05 hp4 hA4 hx4 E04 gd4 e5 hle
    have hx6 : H6 x = some (.ins (CC K) dx [("months", .ref p), ("longer", .str lg), ("leaps", .ref lx)]) := hx6
    have gd6 := E06.gd gd
    have cal : ∀ {H' : Hp}, Ext (TT K) No H6 H' → CalAt K H' x ms lg rs := fun e => ⟨dx, p, as, lx, e.fix _ _ hx6 rfl, e.fix _ _ hp6 rfl, hA6.ext e, hle6.ext e⟩
    walk_at "s"
    refine ⟨_, _, _, _, _, rfl, hx6, T.c_Calendar, T.na_Calendar_months, rfl, ?_⟩
    refine ⟨_, rfl, ⟨_, SqT.of hp6⟩, fun D hD => ?_⟩
    have al : (as.map V.ref).length = ms.length := by rw [List.length_map, hA6.1]
    refine dc_tup (xs := as.map V.ref) (fun i H7 => ∃ kvs : List (Key × V), H7 D = some (.dK kvs) ∧ kvs.length ≤ i ∧ (∀ y, valV kvs (.inr y) = if y ∈ (ms.take i).map (·.1) then some (.bl true) else none) ∧ (kvs.length = i ↔ ((ms.take i).map (·.1)).Nodup) ∧ Ext (TT K) (· = D) H6 H7) ⟨[], upd_same, Nat.le_refl _, fun y => by simp [valV_nil], by simp, (Ext.new hD).no⟩ (fun i H7 _ ⟨_, _, _, _, _, e⟩ => SqT.of (e.fix _ _ hp6 rfl)) ?_ ?_
    · rintro i v H7 hv ⟨kvs, h7, hl, hval, hnd, e7⟩
      obtain ⟨t, m, rfl, ht, hm, hvt⟩ := hA6.get hv
      have hi := (List.getElem?_eq_some_iff.mp hm).1
      refine ⟨_, _, rfl, SqT.of (e7.fix _ _ hvt rfl), rfl, ?_⟩
      walk_at "s"
      have htk : (ms.take (i + 1)).map (·.1) = (ms.take i).map (·.1) ++ [m.1] := by rw [List.take_add_one, hm]; simp
      have hvm := hval m.1
      refine ⟨kvs, .inr m.1, rfl, h7, szl (by omega), putK kvs (.inr m.1) (.bl true), upd_same, Nat.le_trans (length_putK _ _ _) (by omega), fun y => ?_, ?_, e7.trans (Ext.setK h7 rfl)⟩
      · rw [valV_put, htk, hval y]
        by_cases hy : y = m.1
        · subst hy
          rw [if_pos rfl, if_pos (by simp)]
        · rw [if_neg (fun z => hy (Sum.inr.inj z))]
          have : (y ∈ (ms.take i).map (·.1) ++ [m.1]) ↔ y ∈ (ms.take i).map (·.1) := by
            simp only [List.mem_append, List.mem_singleton]
            exact ⟨fun z => z.elim id fun z => absurd z hy, .inl⟩
          simp only [this]
      · rw [putK_len, hvm, htk, List.nodup_append]
        by_cases hin : m.1 ∈ (ms.take i).map (·.1)
        · rw [if_pos hin]
          refine ⟨fun z => ?_, fun z => absurd rfl (z.2.2 m.1 hin m.1 (by simp))⟩
          have z : kvs.length = i + 1 := z
          omega
        · rw [if_neg hin]
          have e : (if (none : Option V).isSome = true then kvs.length else kvs.length + 1) = kvs.length + 1 := rfl
          rw [e, Nat.add_right_cancel_iff, hnd]
          refine ⟨fun z => ⟨z, by simp, fun a ha b hb e => hin ?_⟩, fun z => z.1⟩
          have hb : b = m.1 := by simpa using hb
          rw [← hb, ← e]
          exact ha
    rintro H7 ⟨kvs, h7, hl, hval, hnd, e7⟩
    rw [al, List.take_length] at hval hnd
    rw [al] at hl
    have e7n := e7.mono1 (NoM.of hD)
    have E7 := E06.trans e7n
    have hx7 := e7n.fix _ _ hx6 rfl
    have hp7 := e7n.fix _ _ hp6 rfl
    have bad : ∀ {H' : Hp}, Ext (TT K) No H7 H' → ¬ MsV ms lg → E (ME K) none H' := fun e z => hE rv z _ (E7.trans e)
    walk_at "s"
    refine ⟨_, _, _, _, _, rfl, hx7, T.c_Calendar, T.na_Calendar_months, rfl, ?_⟩
    refine ⟨_, _, rfl, .inr (SqT.of hp7), ?_⟩
    rw [al]
    walk_at "s"
    refine ifBr (fun q1 => ?_) (fun q1 => ?_)
    · have q1 : ¬ 0 < ms.length := by
        have q1 : ¬ (0 : Int) < (ms.length : Nat) := by simpa using q1
        omega
      walk_at "s"
      exact bad .refl fun z => q1 z.pos
    have q1 : 0 < ms.length := by
      have q1 : (0 : Int) < (ms.length : Nat) := by simpa using q1
      omega
    walk_at "s"
    refine ifB (fun q2 => ?_) (fun q2 => ?_)
    · have q2 : ¬ ms.length ≤ 20 := by
        have q2 : ¬ ((ms.length : Nat) : Int) ≤ 20 := by simpa using q2
        omega
      walk_at "s"
      exact bad .refl fun z => q2 z.most
    have q2 : ms.length ≤ 20 := by
      have q2 : ((ms.length : Nat) : Int) ≤ 20 := by simpa using q2
      omega
    walk_at "s"
    refine ⟨_, _, rfl, h7, ?_⟩
    walk_at "s"
    refine ⟨_, _, _, _, _, rfl, hx7, T.c_Calendar, T.na_Calendar_months, rfl, ?_⟩
    refine ⟨_, _, rfl, .inr (SqT.of hp7), ?_⟩
    rw [al]
    walk_at "s"
    refine ifB (fun q3 => ?_) (fun q3 => ?_)
    · have q3 : ¬ kvs.length = ms.length := by
        have q3 : ((kvs.length : Nat) : Int) < (ms.length : Nat) := by simpa using q3
        omega
      walk_at "s"
      exact bad .refl fun z => q3 (hnd.mpr z.nd)
    have nd : (ms.map (·.1)).Nodup := by
      have q3 : ¬ ((kvs.length : Nat) : Int) < (ms.length : Nat) := by simpa using q3
      exact hnd.mp (by omega)
    walk_at "s"
    refine ⟨_, _, rfl, DGet.k (k := .inr lg) h7, ?_⟩
    rw [hval lg]
    walk_at "s"
    refine ifB (fun q4 => ?_) (fun q4 => ?_)
    · have q4 : ¬ lg ∈ ms.map (·.1) := fun z => by
        rw [if_pos z] at q4
        cases q4
      exact bad .refl fun z => q4 z.lg
    have q4 : lg ∈ ms.map (·.1) := Decidable.byContradiction fun z => by
      rw [if_neg z] at q4
      cases q4
    have hA7 := hA6.ext e7n
    unfold tNext
    dsimp only
    rw [tIfS, tB]
    refine anyT2 tk tmem (fun R hR => ⟨_, rfl, _, _, _, _, _, rfl, hx7, T.c_Calendar, T.na_Calendar_months, rfl, hR⟩) (SqT.of hp7) ((E7.gd gd).1 _ tmem) (fun i => ∀ k m, k < i → ms[k]? = some m → (m.1 ≠ "" ∧ 32 ∉ m.1.cps.toList) ∧ 1 ≤ m.2 ∧ m.2 ≤ 60) (fun k m z => absurd z (Nat.not_lt_zero _)) ?_ ?_
    · rintro i v H8 B hv e8 hk hB
      obtain ⟨t, m, rfl, ht, hm, hvt⟩ := hA7.get hv
      have hmem := List.mem_of_getElem? hm
      refine ⟨_, _, rfl, SqT.of (e8.fix _ _ hvt rfl), rfl, ?_⟩
      walk_at "s"
      refine ifB (fun q5 => ?_) (fun q5 => ?_)
      · have q5 : m.1 = "" := by
          have q5 : decide (V.str m.1 = V.str "") = true := q5
          simpa using q5
        walk_at "s"
        exact bad e8 fun z => (z.nm m hmem).1 q5
      have q5 : ¬ m.1 = "" := by
        have q5 : decide (V.str m.1 = V.str "") = false := q5
        simpa using q5
      walk_at "s"
      refine ifB (fun q6 => ?_) (fun q6 => ?_)
      · have q6 : 32 ∈ m.1.cps.toList := of_decide_eq_true q6
        walk_at "s"
        exact bad e8 fun z => (z.nm m hmem).2 q6
      have q6 : 32 ∉ m.1.cps.toList := of_decide_eq_false q6
      walk_at "s"
      refine ifBr (fun q7 => ?_) (fun q7 => ?_)
      · have q7 : ¬ 1 ≤ m.2 := by
          have q7 : ¬ (1 : Int) ≤ (m.2 : Nat) := by simpa using q7
          omega
        walk_at "s"
        exact bad e8 fun z => q7 (z.rng m hmem).1
      have q7 : 1 ≤ m.2 := by
        have q7 : (1 : Int) ≤ (m.2 : Nat) := by simpa using q7
        omega
      walk_at "s"
      refine ifB (fun q8 => ?_) (fun q8 => ?_)
      · have q8 : ¬ m.2 ≤ 60 := by
          have q8 : ¬ ((m.2 : Nat) : Int) ≤ 60 := by simpa using q8
          omega
        walk_at "s"
        exact bad e8 fun z => q8 (z.rng m hmem).2
      have q8 : m.2 ≤ 60 := by
        have q8 : ((m.2 : Nat) : Int) ≤ 60 := by simpa using q8
        omega
      refine hB H8 e8 fun k m2 z1 z2 => ?_
      by_cases hk2 : k = i
      · subst hk2
        rw [hm] at z2
        cases z2
        exact ⟨⟨q5, q6⟩, q7, q8⟩
      · exact hk k m2 (by omega) z2
    rintro H8 e8 hall
    rw [al] at hall
    have mv : MsV ms lg := ⟨q1, q2, nd, q4, fun m hm => by
      obtain ⟨k, hk1, hk2⟩ := List.mem_iff_getElem.mp hm
      exact (hall k m hk1 (by rw [List.getElem?_eq_getElem hk1, hk2])).1, fun m hm => by
      obtain ⟨k, hk1, hk2⟩ := List.mem_iff_getElem.mp hm
      exact (hall k m hk1 (by rw [List.getElem?_eq_getElem hk1, hk2])).2⟩
    walk_at "s"
    exact hQ mv rv H8 (cal (e7n.trans e8)) (E7.trans e8)
end K60

set_option Elab.async false
set_option linter.all false
set_option maxRecDepth 100000
set_option maxHeartbeats 2000000
namespace K60
open PySem PySem.Spec PyProof.Rows L2 MB
local macro_rules | `(tactic| walk_at "s") => `(tactic| repeat (first | refine ⟨_, rfl, ?_⟩ | refine ⟨_, _, rfl, rfl, ?_⟩ | refine ⟨_, _, rfl, ?_⟩ | refine ⟨rfl, ?_⟩))
variable {P : Program} {w : World} {K : PySem.W.Frag} {mg : Str → Option Value} {base : Heap}
/-! ### short, days_in -/
theorem MsV.sh0 {ms : Mons} {lg : Str} (h : MsV ms lg) : 0 < MM.sh ms ∧ MM.sh ms ≤ 1200 := by
  have key : ∀ ms : Mons, (∀ m ∈ ms, 1 ≤ m.2 ∧ m.2 ≤ 60) → ms.length ≤ MM.sh ms ∧ MM.sh ms ≤ 60 * ms.length := by
    intro ms
    induction ms with
    | nil => intro _; exact ⟨Nat.le_refl _, Nat.le_refl _⟩
    | cons m ms ih =>
      intro hr
      have h1 := hr m List.mem_cons_self
      have h2 := ih fun x hx => hr x (List.mem_cons_of_mem _ hx)
      show ms.length + 1 ≤ m.2 + MM.sh ms ∧ m.2 + MM.sh ms ≤ 60 * (ms.length + 1)
      omega
  have := key ms h.rng
  have h1 := h.pos
  have h2 := h.most
  omega
def spShort (K : PySem.W.Frag) : Sp := fun vs H Q _ => ∃ (a : Addr) (ms : Mons) (lg : Str) (rs : MM.Rules), vs = [.ref a] ∧ CalAt K H a ms lg rs ∧ MsV ms lg ∧ Gd (TT K) H ∧ ∀ H', Ext (TT K) No H H' → Q (.int (MM.sh ms : Nat)) H'
theorem ok_Calendar_short (T : Tx K mg base) (tk : TOk (TT K)) : FnOk P w K mg base (L2.CX P w) 12 (He.fAd K ("Calendar", some "short")) T.fd_Calendar_short ["self"] (spShort K) := by
  refine MB.FunD.okC (d := ("Calendar", some "short")) T.F_Calendar_short sc_Calendar_short (fun vs H Q E h => ?_) (fun A outer s H vs Q E hr h => ⟨_, (pss_one (ps_ret (MG.pe_sumG (g := (gTup K 2 (gCons (gName 1) (gCons (gName 2) gNil)))) (k := 1) (hr.mono (by decide)) rfl T.b_sum (by decide +kernel) sc_Calendar_short.nd T.tb_Calendar_short rfl (MG.geOk_by (N := ["self", "name", "days"]) (sc := defScope s_Calendar_short) (own := [("name", 1), ("days", 2)]) (by decide +kernel)) (pi_tupK (K := K) rfl (pe_fldK (K := K) rfl (pv 0) rfl)) (fun _ _ _ _ _ => (pg_tupK (K := K) (n := 2) rfl rfl (pgs_cons (pg_name (i := 1) sc_Calendar_short.nd rfl (by first | exact Or.inl rfl | exact Or.inr rfl)) (pgs_cons (pg_name (i := 2) sc_Calendar_short.nd rfl (by first | exact Or.inl rfl | exact Or.inr rfl)) pgs_nil)))) (fun _ _ _ _ _ hrg => (pv 2))))), ?_⟩)
  · obtain ⟨a, ms, lg, rs, rfl, _⟩ := h
    rfl
  · obtain ⟨a, ms, lg, rs, rfl, ⟨dx, p, ts, lp, h1, h2, h3, h4⟩, mv, gd, hQ⟩ := h
    have tmem : (He.cT K ("Calendar", some "short")).2 ∈ (TT K).gen := by simp [TT]
    have tl : (ts.map V.ref).length = ms.length := by rw [List.length_map, h3.1]
    rw [tRet]
    refine sumT2 tk tmem (fun R hR => ⟨_, rfl, _, _, _, _, _, rfl, h1, T.c_Calendar, T.na_Calendar_months, rfl, hR⟩) (SqT.of h2) (gd.1 _ tmem) (ms.map (·.2)) (by rw [List.length_map, tl]) (Nat.lt_of_le_of_lt mv.sh0.2 (by decide)) ?_ ?_
    · rintro i x H' B hx e hB
      obtain ⟨t, m, rfl, ht, hm, hvt⟩ := h3.get hx
      refine ⟨_, _, rfl, SqT.of (e.fix _ _ hvt rfl), rfl, ?_⟩
      walk_at "s"
      exact hB m.2 H' (by rw [List.getElem?_map, hm]; rfl) e
    · exact fun H' e => hQ H' e
def spDaysIn (K : PySem.W.Frag) : Sp := fun vs H Q E => ∃ (a : Addr) (ms : Mons) (lg : Str) (rs : MM.Rules) (y : Int) (x : Str), vs = [.ref a, .int y, .str x] ∧ CalAt K H a ms lg rs ∧ MsV ms lg ∧ ROk rs ∧
  (0 ≤ y → y ≤ 99999 → ∀ m ∈ ms, m.1 = x → Q (.int (MM.md rs lg y.toNat m : Nat)) H) ∧ (¬ (0 ≤ y ∧ y ≤ 99999) → E (YE K) none H) ∧ (x ∉ ms.map (·.1) → E (ME K) none H)
theorem ok_Calendar_days_in (T : Tx K mg base) : FnOk P w K mg base (L2.CX P w) 2 (He.fAd K ("Calendar", some "days_in")) T.fd_Calendar_days_in ["self", "year", "month"] (spDaysIn K) := by
  refine T.F_Calendar_days_in.ok sc_Calendar_days_in (fun vs H Q E h => ?_) (fun cdv A outer s H vs Q E hr h => ⟨_, (pss_cons (ps_for (passes_of rfl) rfl (pi_tupK (K := K) rfl (pe_fldK (K := K) rfl (pv 0) rfl)) (pg_tupK (K := K) (n := 2) rfl rfl (pgs_cons (pg_name (i := 3) sc_Calendar_days_in.nd rfl (Or.inl rfl)) (pgs_cons (pg_name (i := 4) sc_Calendar_days_in.nd rfl (Or.inl rfl)) pgs_nil))) (pss_one (ps_if (pt_cmpR op_eq (pv 3) (pv 2) (nomark _)) (pss_one (ps_ret (pe_op op_add (pv 4) (pe_ifExp (PW.pt (pw_and (pt_val (pe_meth (pe_fldK (K := K) rfl (pv 0) rfl) T.c_Leaps T.m_Leaps_is_long (ok_Leaps_is_long T) (hr.mono (by decide)) (bi_Leaps_is_long T) .nil (passes_call (takes_of rfl rfl rfl rfl) fun _ _ _ _ h => h) (pa_cons (pv 1) pa_nil))) (pw_and1 (pt_cmpR op_eq (pv 3) (pe_fldK (K := K) rfl (pv 0) rfl) (nomark _))))) pe_int pe_int)))) pss_nil)))
 (pss_one (ps_raise rfl (takes_of rfl rfl rfl rfl) (pmk_own PySem.F.excBase_ValueError T.x_MonthError.1 T.g_MonthError T.x_MonthError.2.1 (raises_own T.x_MonthError.2.2.1 T.x_MonthError.2.2.2) rfl)))), ?_⟩)
  · obtain ⟨a, ms, lg, rs, y, x, rfl, _⟩ := h
    rfl
  · obtain ⟨a, ms, lg, rs, y, x, rfl, ⟨dx, p, ts, lp, h1, h2, h3, h4⟩, mv, ok, hQ, hY, hM⟩ := h
    have tl : (ts.map V.ref).length = ms.length := by rw [List.length_map, h3.1]
    walk_at "s"
    refine ⟨_, _, _, _, _, rfl, h1, T.c_Calendar, T.na_Calendar_months, rfl, ?_⟩
    refine ⟨_, rfl, ⟨_, SqT.of h2⟩, ?_⟩
    refine for_tup (xs := ts.map V.ref) (fun i σ' H' => ∃ u v, σ' = [some (.ref a), some (.int y), some (.str x), u, v] ∧ H' = H ∧ ∀ m ∈ ms.take i, m.1 ≠ x) ⟨_, _, rfl, rfl, fun m z => by simp at z⟩ (fun i σ' H' _ ⟨_, _, _, e, _⟩ => by rw [e]; exact SqT.of h2) ?_ ?_
    · rintro i v σ' H' hv ⟨u1, u2, rfl, rfl, hno⟩
      obtain ⟨t, m, rfl, ht, hm, hvt⟩ := h3.get hv
      refine ⟨_, _, rfl, SqT.of hvt, rfl, ?_⟩
      walk_at "s"
      refine ifB (fun q1 => ?_) (fun q1 => ?_)
      · have q1 : m.1 = x := by
          have q1 : decide (V.str m.1 = V.str x) = true := q1
          simpa using q1
        walk_at "s"
        refine ⟨_, _, _, _, _, rfl, h1, T.c_Calendar, T.na_Calendar_leaps, rfl, ?_⟩
        obtain ⟨dx9, p9, ts9, l1, l2, l3⟩ := id h4
        refine ⟨_, _, _, rfl, l1, rfl, ?_⟩
        walk_at "s"
        refine ⟨lp, rs, y, rfl, h4, ok, fun y0 y1 => ?_, hY⟩
        have hQ := hQ y0 y1 m (List.mem_of_getElem? hm) q1
        unfold MM.md at hQ
        walk_at "s"
        refine ifB (fun q2 => ?_) (fun q2 => ?_)
        · walk_at "s"
          refine ⟨_, _, _, _, _, rfl, h1, T.c_Calendar, T.na_Calendar_longer, rfl, ?_⟩
          walk_at "s"
          refine ifB (fun q3 => ?_) (fun q3 => ?_)
          · have q3 : m.1 = lg := by
              have q3 : decide (V.str m.1 = V.str lg) = true := q3
              simpa using q3
            walk_at "s"
            rw [if_pos ⟨q3, q2⟩] at hQ
            exact hQ
          · have q3 : ¬ m.1 = lg := by
              have q3 : decide (V.str m.1 = V.str lg) = false := q3
              simpa using q3
            walk_at "s"
            rw [if_neg fun z => q3 z.1] at hQ
            exact hQ
        · walk_at "s"
          rw [if_neg fun z => by rw [z.2] at q2; cases q2] at hQ
          exact hQ
      · have q1 : ¬ m.1 = x := by
          have q1 : decide (V.str m.1 = V.str x) = false := q1
          simpa using q1
        walk_at "s"
        rw [List.take_add_one, hm]
        intro m2 hm2
        rcases List.mem_append.mp hm2 with z | z
        · exact hno m2 z
        · have z : m2 = m := by simpa using z
          rw [z]; exact q1
    · rintro σ' H' ⟨u1, u2, rfl, rfl, hno⟩
      rw [tl, List.take_length] at hno
      walk_at "s"
      refine hM fun z => ?_
      obtain ⟨m, hm, e⟩ := List.mem_map.mp z
      exact hno m hm e
end K60

set_option Elab.async false
set_option linter.all false
set_option maxRecDepth 100000
set_option maxHeartbeats 2000000
namespace K60
open PySem PySem.Spec PyProof.Rows L2 MB
local macro_rules | `(tactic| walk_at "s") => `(tactic| repeat (first | refine ⟨_, rfl, ?_⟩ | refine ⟨_, _, rfl, rfl, ?_⟩ | refine ⟨_, _, rfl, ?_⟩ | refine ⟨rfl, ?_⟩))
variable {P : Program} {w : World} {K : PySem.W.Frag} {mg : Str → Option Value} {base : Heap}
/-! ### day_of, date_of -/
/-- month i of the year y, day r from 0 on, as told by year, name, day -/
structure DOk (ms : Mons) (lg : Str) (rs : MM.Rules) (y : Int) (x : Str) (d : Int) (yn i r : Nat) : Prop where
  hy : y = (yn : Nat)
  hm : yn ≤ 99999
  ex : ∃ m, ms[i]? = some m ∧ m.1 = x ∧ r < MM.md rs lg yn m
  hd : d = (r : Nat) + 1
theorem MsV.ix {ms : Mons} {lg : Str} (h : MsV ms lg) {i j : Nat} {m m' : Str × Nat} (h1 : ms[i]? = some m) (h2 : ms[j]? = some m') (e : m.1 = m'.1) : i = j := by
  have g1 : (ms.map (·.1))[i]? = some m.1 := by rw [List.getElem?_map, h1]; rfl
  have g2 : (ms.map (·.1))[j]? = some m.1 := by rw [List.getElem?_map, h2, e]; rfl
  obtain ⟨k1, e1⟩ := List.getElem?_eq_some_iff.mp g1
  obtain ⟨k2, e2⟩ := List.getElem?_eq_some_iff.mp g2
  exact (List.getElem_inj h.nd).mp (e1.trans e2.symm)
def dN (ms : Mons) (lg : Str) (rs : MM.Rules) (yn i r : Nat) : Nat := MM.db rs (MM.sh ms) yn + MM.pre rs lg yn ms i + r
def spDayOf (K : PySem.W.Frag) : Sp := fun vs H Q E => ∃ (a : Addr) (ms : Mons) (lg : Str) (rs : MM.Rules) (y : Int) (x : Str) (d : Int), vs = [.ref a, .int y, .str x, .int d] ∧ CalAt K H a ms lg rs ∧ MsV ms lg ∧ ROk rs ∧ Gd (TT K) H ∧
  (∀ yn i r, DOk ms lg rs y x d yn i r → ∀ H', Ext (TT K) No H H' → Q (.int (dN ms lg rs yn i r : Nat)) H') ∧
  ((∀ yn i r, ¬ DOk ms lg rs y x d yn i r) → ∀ H', Ext (TT K) No H H' → E (ME K) none H' ∧ E (YE K) none H')
theorem ok_Calendar_day_of (T : Tx K mg base) (tk : TOk (TT K)) : FnOk P w K mg base (L2.CX P w) 14 (He.fAd K ("Calendar", some "day_of")) T.fd_Calendar_day_of ["self", "year", "month", "day"] (spDayOf K) := by
  have ok_Calendar_short := fun T : Tx K mg base => ok_Calendar_short (P := P) (w := w) T tk
  refine T.F_Calendar_day_of.ok sc_Calendar_day_of (fun vs H Q E h => ?_) (fun cdv A outer s H vs Q E hr h => ⟨_, (pss_cons (ps_if (pt_not (pt_chain op_le op_le pe_int (pv 3) (pe_meth (pv 0) T.c_Calendar T.m_Calendar_days_in (ok_Calendar_days_in T) (hr.mono (by decide)) (bi_Calendar_days_in T) .nil (passes_call (takes_of rfl rfl rfl rfl) fun _ _ _ _ h => h) (pa_cons (pv 1) (pa_cons (pv 2) pa_nil))))) (pss_one (ps_raise rfl (takes_of rfl rfl rfl rfl) (pmk_own PySem.F.excBase_ValueError T.x_MonthError.1 T.g_MonthError T.x_MonthError.2.1 (raises_own T.x_MonthError.2.2.1 T.x_MonthError.2.2.2) rfl))) pss_nil)
 (pss_cons (ps_set (i := 4) sc_Calendar_day_of.nd rfl (Or.inl rfl) (pe_meth (pe_fldK (K := K) rfl (pv 0) rfl) T.c_Leaps T.m_Leaps_days_before (ok_Leaps_days_before T) (hr.mono (by decide)) (bi_Leaps_days_before T) .nil (passes_call (takes_of rfl rfl rfl rfl) fun _ _ _ _ h => h) (pa_cons (pv 1) (pa_cons (pe_meth0 (pv 0) T.c_Calendar T.m_Calendar_short (ok_Calendar_short T) (hr.mono (by decide)) (bi_Calendar_short T) .nil (passes_call (takes_of rfl rfl rfl rfl) fun _ _ _ _ h => h)) pa_nil))))
 (pss_cons (ps_for (passes_of rfl) rfl (pi_tupK (K := K) rfl (pe_fldK (K := K) rfl (pv 0) rfl)) (pg_tupK (K := K) (n := 2) rfl rfl (pgs_cons (pg_name (i := 5) sc_Calendar_day_of.nd rfl (Or.inl rfl)) (pgs_cons (pg_name (i := 6) sc_Calendar_day_of.nd rfl (Or.inl rfl)) pgs_nil))) (pss_cons (ps_if (pt_cmpR op_eq (pv 5) (pv 2) (nomark _)) (pss_one (ps_ret (pe_op op_sub (pe_op op_add (pv 4) (pv 3)) pe_int))) pss_nil)
 (pss_one (ps_aug (i := 4) sc_Calendar_day_of.nd rfl (Or.inl rfl) (pe_meth (pv 0) T.c_Calendar T.m_Calendar_days_in (ok_Calendar_days_in T) (hr.mono (by decide)) (bi_Calendar_days_in T) .nil (passes_call (takes_of rfl rfl rfl rfl) fun _ _ _ _ h => h) (pa_cons (pv 1) (pa_cons (pv 5) pa_nil))) ip_add))))
 (pss_one (ps_ret (pv 4)))))), ?_⟩)
  · obtain ⟨a, ms, lg, rs, y, x, d, rfl, _⟩ := h
    rfl
  · obtain ⟨a, ms, lg, rs, y, x, d, rfl, hC, mv, ok, gd, hQ, hE⟩ := h
    have hC0 := hC
    obtain ⟨dx, p, ts, lp, h1, h2, h3, h4⟩ := hC
    have tl : (ts.map V.ref).length = ms.length := by rw [List.length_map, h3.1]
    walk_at "s"
    refine ifBr (fun q1 => ?_) (fun q1 => ?_)
    · have q1 : ¬ 1 ≤ d := by simpa using q1
      walk_at "s"
      exact (hE (fun yn i r z => q1 (by have := z.hd; omega)) H .refl).1
    have q1 : 1 ≤ d := by simpa using q1
    walk_at "s"
    refine ⟨_, _, _, rfl, h1, rfl, ?_⟩
    walk_at "s"
    refine ⟨a, ms, lg, rs, y, x, rfl, hC0, mv, ok, fun y0 y1 m hm hx => ?_, fun z => (hE (fun yn i r q => z ⟨by rw [q.hy]; omega, by have := q.hm; rw [q.hy]; omega⟩) H .refl).2, fun z => (hE (fun yn i r q => z (by
      obtain ⟨m, g1, g2, _⟩ := q.ex
      exact List.mem_map.mpr ⟨m, List.mem_of_getElem? g1, g2⟩)) H .refl).1⟩
    obtain ⟨i, hi1, hi2⟩ := List.mem_iff_getElem.mp hm
    have hmi : ms[i]? = some m := by rw [List.getElem?_eq_getElem hi1, hi2]
    clear hi2
    obtain ⟨yn, rfl⟩ := Int.eq_ofNat_of_zero_le y0
    rw [Int.toNat_natCast]
    walk_at "s"
    refine ifB (fun q2 => ?_) (fun q2 => ?_)
    · have q2 : ¬ d ≤ (MM.md rs lg yn m : Nat) := by simpa using q2
      refine (hE (fun yn2 i2 r2 z => q2 ?_) H .refl).1
      obtain ⟨m2, g1, g2, g3⟩ := z.ex
      have e := mv.ix hmi g1 (by rw [hx, g2])
      subst e
      rw [hmi] at g1
      cases g1
      have hy2 := z.hy
      have e2 : yn = yn2 := by omega
      subst e2
      rw [z.hd]
      omega
    have q2 : d ≤ (MM.md rs lg yn m : Nat) := by simpa using q2
    obtain ⟨r, rfl⟩ : ∃ r : Nat, d = (r : Nat) + 1 := ⟨(d - 1).toNat, by omega⟩
    have dok : DOk ms lg rs (yn : Nat) x ((r : Nat) + 1) yn i r := ⟨rfl, by omega, ⟨m, hmi, hx, by omega⟩, rfl⟩
    have hQ := hQ yn i r dok
    clear hE
    obtain ⟨dx9, p9, ts9, l1, l2, l3⟩ := id h4
    walk_at "s"
    refine ⟨_, _, _, _, _, rfl, h1, T.c_Calendar, T.na_Calendar_leaps, rfl, ?_⟩
    refine ⟨_, _, _, rfl, l1, rfl, ?_⟩
    walk_at "s"
    refine ⟨_, _, _, rfl, h1, rfl, ?_⟩
    walk_at "s"
    refine ⟨a, ms, lg, rs, rfl, hC0, mv, gd, fun H1 e1 => ?_⟩
    have s0 := mv.sh0
    walk_at "s"
    refine ⟨lp, rs, (yn : Nat), (MM.sh ms : Nat), rfl, h4.ext e1, ok, by omega, fun _ _ _ H2 e2 => ?_, fun z => absurd ⟨by omega, by omega, by omega⟩ z⟩
    rw [Int.toNat_natCast, Int.toNat_natCast]
    have E2 := e1.trans e2
    clear e1 e2
    walk_at "s"
    refine ⟨_, _, _, _, _, rfl, E2.fix _ _ h1 rfl, T.c_Calendar, T.na_Calendar_months, rfl, ?_⟩
    refine ⟨_, rfl, ⟨_, SqT.of (E2.fix _ _ h2 rfl)⟩, ?_⟩
    have hC2 : CalAt K H2 a ms lg rs := hC0.ext E2
    obtain ⟨g1, g2, g3⟩ := (⟨E2.fix _ _ h1 rfl, E2.fix _ _ h2 rfl, h3.ext E2⟩ : _ ∧ _ ∧ _)
    refine for_tup (xs := ts.map V.ref) (fun j σ' H' => ∃ u v, σ' = [some (.ref a), some (.int (yn : Nat)), some (.str x), some (.int ((r : Nat) + 1)), some (.int (MM.db rs (MM.sh ms) yn + MM.pre rs lg yn ms j : Nat)), u, v] ∧ H' = H2 ∧ j ≤ i) ⟨_, _, rfl, rfl, Nat.zero_le _⟩ (fun j σ' H' _ ⟨_, _, _, e, _⟩ => by rw [e]; exact SqT.of g2) ?_ ?_
    · rintro j v σ' H' hv ⟨u1, u2, rfl, rfl, hj⟩
      obtain ⟨t, m2, rfl, ht, hm2, hvt⟩ := g3.get hv
      refine ⟨_, _, rfl, SqT.of hvt, rfl, ?_⟩
      walk_at "s"
      refine ifB (fun q3 => ?_) (fun q3 => ?_)
      · have q3 : m2.1 = x := by
          have q3 : decide (V.str m2.1 = V.str x) = true := q3
          simpa using q3
        have e := mv.ix hmi hm2 (by rw [hx, q3])
        subst e
        walk_at "s"
        have hQ := hQ H' E2
        have e2 : ((MM.db rs (MM.sh ms) yn + MM.pre rs lg yn ms i : Nat) : Int) + ((r : Nat) + 1 : Int) - 1 = (dN ms lg rs yn i r : Nat) := by
          unfold dN
          omega
        rw [← e2] at hQ
        exact hQ
      · have q3 : ¬ m2.1 = x := by
          have q3 : decide (V.str m2.1 = V.str x) = false := q3
          simpa using q3
        have hji : j < i := by
          rcases Nat.lt_or_ge j i with z | z
          · exact z
          · have e : j = i := by omega
            subst e
            rw [hmi] at hm2
            cases hm2
            exact absurd hx q3
        walk_at "s"
        refine ⟨_, _, _, rfl, g1, rfl, ?_⟩
        walk_at "s"
        refine ⟨a, ms, lg, rs, (yn : Nat), m2.1, rfl, hC2, mv, ok, fun _ _ m3 hm3 he3 => ?_, fun z => absurd ⟨by omega, by omega⟩ z, fun z => absurd (List.mem_map.mpr ⟨m2, List.mem_of_getElem? hm2, rfl⟩) z⟩
        obtain ⟨k, hk1, hk2⟩ := List.mem_iff_getElem.mp hm3
        have hmk : ms[k]? = some m3 := by rw [List.getElem?_eq_getElem hk1, hk2]
        have e := mv.ix hm2 hmk he3.symm
        subst e
        rw [hm2] at hmk
        cases hmk
        rw [Int.toNat_natCast]
        walk_at "s"
        refine ⟨some (.str m2.1), some (.int (m2.2 : Nat)), ?_, rfl, hji⟩
        rw [MM.pre_succ hm2]
        have e2 : ((MM.db rs (MM.sh ms) yn + (MM.pre rs lg yn ms j + MM.md rs lg yn m2) : Nat) : Int) = ((MM.db rs (MM.sh ms) yn + MM.pre rs lg yn ms j : Nat) : Int) + ((MM.md rs lg yn m2 : Nat) : Int) := by omega
        rw [e2]
        rfl
    · rintro σ' H' ⟨u1, u2, rfl, rfl, hj⟩
      rw [tl] at hj
      omega
end K60

set_option Elab.async false
set_option linter.all false
set_option maxRecDepth 100000
set_option maxHeartbeats 2000000
namespace K60
open PySem PySem.Spec PyProof.Rows L2 MB
local macro_rules | `(tactic| walk_at "s") => `(tactic| repeat (first | refine ⟨_, rfl, ?_⟩ | refine ⟨_, _, rfl, rfl, ?_⟩ | refine ⟨_, _, rfl, ?_⟩ | refine ⟨rfl, ?_⟩))
variable {P : Program} {w : World} {K : PySem.W.Frag} {mg : Str → Option Value} {base : Heap}
abbrev CE (K : PySem.W.Frag) : Value := .ref (He.ga K "CycleError")
abbrev MC (K : PySem.W.Frag) : Addr := He.ga K "Moons"
/-! ### Moons -/
def MoonsAt (C : Addr) (H : Hp) (a : Addr) (L p f : Nat) : Prop := ∃ dx, H a = some (.ins C dx [("length", .int (L : Nat)), ("parts", .int (p : Nat)), ("first", .int (f : Nat))])
theorem MoonsAt.ext {T : Tb} {M : Addr → Prop} {C : Addr} {H H' : Hp} {a : Addr} {L p f : Nat} (h : MoonsAt C H a L p f) (e : Ext T M H H') : MoonsAt C H' a L p f := by
  obtain ⟨dx, h⟩ := h
  exact ⟨dx, e.fix _ _ h rfl⟩
structure MOk (L p f : Nat) : Prop where
  p0 : 1 ≤ p
  p1 : p < 2 ^ 20
  lo : 2 * p ≤ L
  hi : L ≤ 100 * p
  f1 : f < p
def MV (L p f : Int) : Prop := 1 ≤ p ∧ 2 * p ≤ L ∧ L ≤ 100 * p ∧ 0 ≤ f ∧ f < p
def spMInit (K : PySem.W.Frag) : Sp := fun vs H Q E => ∃ (x dx : Addr) (L p f : Int) (H0 : Hp), vs = [.ref x, .int L, .int p, .int f] ∧ H0 x = none ∧ H0 dx = none ∧ dx ≠ x ∧ H = upd (upd H0 dx (.own x)) x (.ins (MC K) dx []) ∧
  (MV L p f → ∀ H', MoonsAt (MC K) H' x L.toNat p.toNat f.toNat → Ext (TT K) No H0 H' → Q .non H') ∧ (¬ MV L p f → ∀ H', Ext (TT K) No H0 H' → E (CE K) none H')
theorem ok_Moons_init (T : Tx K mg base) : FnOk P w K mg base (L2.CX P w) 1 (He.fAd K ("Moons", some "__init__")) T.fd_Moons_init ["self", "length", "parts", "first"] (spMInit K) := by
  refine T.F_Moons_init.ok sc_Moons_init (fun vs H Q E h => ?_) (fun cdv A outer s H vs Q E hr h => ⟨_, (pss_cons (ps_if (PW.pt (pw_or (pt_cmpR op_lt (pv 2) pe_int (nomark _)) (pw_or (pt_not (pt_chain op_le op_le (pe_op op_mul pe_int (pv 2)) (pv 1) (pe_op op_mul pe_int (pv 2)))) (pw_or1 (pt_not (pt_chain op_le op_lt pe_int (pv 3) (pv 2))))))) (pss_one (ps_raise rfl (takes_of rfl rfl rfl rfl) (pmk_own PySem.F.excBase_ValueError T.x_CycleError.1 T.g_CycleError T.x_CycleError.2.1 (raises_own T.x_CycleError.2.2.1 T.x_CycleError.2.2.2) rfl))) pss_nil)
 (pss_cons (ps_fld (pv 0) (pv 1) rfl)
 (pss_cons (ps_fld (pv 0) (pv 2) rfl)
 (pss_one (ps_fld (pv 0) (pv 3) rfl))))), ?_⟩)
  · obtain ⟨x, dx, L, p, f, H0, rfl, _⟩ := h
    rfl
  · obtain ⟨x, dx, L, p, f, H0, rfl, hx, hdx, hne, rfl, hQ, hE⟩ := h
    obtain ⟨Hs, hHs⟩ : ∃ Hs, Hs = upd (upd H0 dx (.own x)) x (.ins (MC K) dx []) := ⟨_, rfl⟩
    rw [← hHs]
    have exs : Ext (TT K) No H0 Hs := by
      rw [hHs]
      exact (Ext.new hdx).trans (Ext.new (by rw [upd_ne (Ne.symm hne)]; exact hx))
    have hxs : Hs x = some (.ins (MC K) dx []) := by rw [hHs]; exact upd_same
    clear hHs
    have bad : ¬ MV L p f → E (CE K) none Hs := fun z => hE z Hs exs
    walk_at "s"
    refine ifB (fun q1 => ?_) (fun q1 => ?_)
    · have q1 : p < 1 := by simpa using q1
      exact bad fun z => by have := z.1; omega
    have q1 : ¬ p < 1 := by simpa using q1
    walk_at "s"
    refine ⟨.inl ⟨by decide, by decide⟩, ?_⟩
    walk_at "s"
    refine ifBr (fun q2 => ?_) (fun q2 => ?_)
    · have q2 : ¬ 2 * p ≤ L := by simpa using q2
      walk_at "s"
      exact bad fun z => q2 z.2.1
    have q2 : 2 * p ≤ L := by simpa using q2
    walk_at "s"
    refine ⟨.inl ⟨by decide, by decide⟩, ?_⟩
    walk_at "s"
    refine ifB (fun q3 => ?_) (fun q3 => ?_)
    · have q3 : ¬ L ≤ 100 * p := by simpa using q3
      exact bad fun z => q3 z.2.2.1
    have q3 : L ≤ 100 * p := by simpa using q3
    walk_at "s"
    refine ifBr (fun q4 => ?_) (fun q4 => ?_)
    · have q4 : ¬ 0 ≤ f := by simpa using q4
      walk_at "s"
      exact bad fun z => q4 z.2.2.2.1
    have q4 : 0 ≤ f := by simpa using q4
    walk_at "s"
    refine ifB (fun q5 => ?_) (fun q5 => ?_)
    · have q5 : ¬ f < p := by simpa using q5
      exact bad fun z => q5 z.2.2.2.2
    have q5 : f < p := by simpa using q5
    walk_at "s"
    refine ⟨_, _, _, _, rfl, hxs, T.c_Moons, T.na_Moons_length, by simp, ?_⟩
    have e1 : Ext (TT K) No H0 (upd Hs x (.ins (MC K) dx (putF "length" (.int L) []))) := Ext.fld exs hx hxs
    walk_at "s"
    refine ⟨_, _, _, _, rfl, upd_same, T.c_Moons, T.na_Moons_parts, (by decide : (1 : Nat) < 1000), ?_⟩
    have e2 := Ext.fld (fs' := putF "parts" (.int p) (putF "length" (.int L) [])) e1 hx upd_same
    walk_at "s"
    refine ⟨_, _, _, _, rfl, upd_same, T.c_Moons, T.na_Moons_first, (by decide : (2 : Nat) < 1000), ?_⟩
    have e3 := Ext.fld (fs' := putF "first" (.int f) (putF "parts" (.int p) (putF "length" (.int L) []))) e2 hx upd_same
    refine hQ ⟨by omega, q2, q3, q4, q5⟩ _ ⟨dx, ?_⟩ e3
    rw [upd_same]
    have a1 : ((L.toNat : Nat) : Int) = L := by omega
    have a2 : ((p.toNat : Nat) : Int) = p := by omega
    have a3 : ((f.toNat : Nat) : Int) = f := by omega
    rw [a1, a2, a3]
    rfl
/-! ### new_moon -/
def spNew (K : PySem.W.Frag) : Sp := fun vs H Q E => ∃ (a : Addr) (L p f : Nat) (n : Int), vs = [.ref a, .int n] ∧ MoonsAt (MC K) H a L p f ∧ MOk L p f ∧
  (0 ≤ n → n ≤ 200000 → ∀ t H', H' t = some (.tup [.int (((f + n.toNat * L) / p : Nat) : Int), .int (((f + n.toNat * L) % p : Nat) : Int)]) → Ext (TT K) No H H' → Q (.ref t) H') ∧ (¬ (0 ≤ n ∧ n ≤ 200000) → E (CE K) none H)
theorem ok_Moons_new_moon (T : Tx K mg base) : FnOk P w K mg base (L2.CX P w) 1 (He.fAd K ("Moons", some "new_moon")) T.fd_Moons_new_moon ["self", "number"] (spNew K) := by
  refine T.F_Moons_new_moon.ok sc_Moons_new_moon (fun vs H Q E h => ?_) (fun cdv A outer s H vs Q E hr h => ⟨_, (pss_cons (ps_if (pt_not (pt_chain op_le op_le pe_int (pv 1) (pe_glob (v := .int 200000) rfl T.i_MOST_MOONS.choose_spec ⟨_, rfl⟩))) (pss_one (ps_raise rfl (takes_of rfl rfl rfl rfl) (pmk_own PySem.F.excBase_ValueError T.x_CycleError.1 T.g_CycleError T.x_CycleError.2.1 (raises_own T.x_CycleError.2.2.1 T.x_CycleError.2.2.2) rfl))) pss_nil)
 (pss_cons (ps_set (i := 2) sc_Moons_new_moon.nd rfl (Or.inl rfl) (pe_op op_add (pe_fldK (K := K) rfl (pv 0) rfl) (pe_op op_mul (pv 1) (pe_fldK (K := K) rfl (pv 0) rfl))))
 (pss_one (ps_ret (pe_tupN (T := TT K) (pa_cons (pe_op op_fdiv (pv 2) (pe_fldK (K := K) rfl (pv 0) rfl)) (pa_cons (pe_op op_mod (pv 2) (pe_fldK (K := K) rfl (pv 0) rfl)) pa_nil))))))), ?_⟩)
  · obtain ⟨a, L, p, f, n, rfl, _⟩ := h
    rfl
  · obtain ⟨a, L, p, f, n, rfl, ⟨dx, h1⟩, ok, hQ, hE⟩ := h
    have p0 := ok.p0
    have p1 := ok.p1
    walk_at "s"
    refine ifBr (fun q1 => ?_) (fun q1 => ?_)
    · have q1 : ¬ 0 ≤ n := by simpa using q1
      walk_at "s"
      exact hE fun z => q1 z.1
    have q1 : 0 ≤ n := by simpa using q1
    walk_at "s"
    refine ifB (fun q2 => ?_) (fun q2 => ?_)
    · have q2 : ¬ n ≤ 200000 := by simpa using q2
      exact hE fun z => q2 z.2
    have q2 : n ≤ 200000 := by simpa using q2
    obtain ⟨n, rfl⟩ := Int.eq_ofNat_of_zero_le q1
    have hQ := hQ q1 q2
    rw [Int.toNat_natCast] at hQ
    have hW : (f : Int) + (n : Int) * (L : Int) = ((f + n * L : Nat) : Int) := by rw [Int.natCast_add, Int.natCast_mul]
    walk_at "s"
    refine ⟨_, _, _, _, _, rfl, h1, T.c_Moons, T.na_Moons_first, rfl, ?_⟩
    walk_at "s"
    refine ⟨_, _, _, _, _, rfl, h1, T.c_Moons, T.na_Moons_length, rfl, ?_⟩
    walk_at "s"
    refine ⟨.inl ⟨by omega, by omega⟩, ?_⟩
    walk_at "s"
    refine ⟨_, _, _, _, _, rfl, h1, T.c_Moons, T.na_Moons_parts, rfl, ?_⟩
    walk_at "s"
    refine ⟨⟨by omega, by omega⟩, ?_⟩
    walk_at "s"
    refine ⟨_, _, _, _, _, rfl, h1, T.c_Moons, T.na_Moons_parts, rfl, ?_⟩
    walk_at "s"
    refine ⟨by omega, ?_⟩
    walk_at "s"
    refine ⟨sz, fun t H2 ht hv e => ?_⟩
    refine hQ t H2 ?_ e
    rw [hv, Int.natCast_ediv, Int.natCast_emod, ← hW]
end K60

set_option Elab.async false
set_option linter.all false
set_option maxRecDepth 100000
set_option maxHeartbeats 2000000
namespace K60
open PySem PySem.Spec PyProof.Rows L2 MB
local macro_rules | `(tactic| walk_at "s") => `(tactic| repeat (first | refine ⟨_, rfl, ?_⟩ | refine ⟨_, _, rfl, rfl, ?_⟩ | refine ⟨_, _, rfl, ?_⟩ | refine ⟨rfl, ?_⟩))
variable {P : Program} {w : World} {K : PySem.W.Frag} {mg : Str → Option Value} {base : Heap}
def nm (L p f n : Nat) : Nat := (f + n * L) / p
def mo (L p f d : Nat) : Nat := (d * p + p - 1 - f) / L
theorem mo_le {L p f d : Nat} (ok : MOk L p f) (h : d ≤ nm L p f 200000) : mo L p f d ≤ 200000 := by
  have p0 := ok.p0
  have lo := ok.lo
  have f1 := ok.f1
  unfold nm at h
  unfold mo
  have h1 := (Nat.le_div_iff_mul_le p0).mp h
  have h2 : (d * p + p - 1 - f) < 200001 * L := by omega
  have := (Nat.div_lt_iff_lt_mul (show 0 < L by omega)).mpr h2
  omega
/-! ### moon_of -/
def spMoonOf (K : PySem.W.Frag) : Sp := fun vs H Q E => ∃ (a : Addr) (L p f : Nat) (d : Int), vs = [.ref a, .int d] ∧ MoonsAt (MC K) H a L p f ∧ MOk L p f ∧
  (0 ≤ d → d ≤ (nm L p f 200000 : Nat) → ∀ t H', H' t = some (.tup [.int (mo L p f d.toNat : Nat), .int (d - (nm L p f (mo L p f d.toNat) : Nat))]) → Ext (TT K) No H H' → Q (.ref t) H') ∧
  (¬ (0 ≤ d ∧ d ≤ (nm L p f 200000 : Nat)) → ∀ H', Ext (TT K) No H H' → E (CE K) none H')
theorem ok_Moons_moon_of (T : Tx K mg base) : FnOk P w K mg base (L2.CX P w) 2 (He.fAd K ("Moons", some "moon_of")) T.fd_Moons_moon_of ["self", "day"] (spMoonOf K) := by
  refine T.F_Moons_moon_of.ok sc_Moons_moon_of (fun vs H Q E h => ?_) (fun cdv A outer s H vs Q E hr h => ⟨_, (pss_cons (ps_if (pt_not (pt_chain op_le op_le pe_int (pv 1) (pe_ix (ix_tupK (K := K) rfl) (pe_meth (pv 0) T.c_Moons T.m_Moons_new_moon (ok_Moons_new_moon T) (hr.mono (by decide)) (bi_Moons_new_moon T) .nil (passes_call (takes_of rfl rfl rfl rfl) fun _ _ _ _ h => h) (pa_cons (pe_glob (v := .int 200000) rfl T.i_MOST_MOONS.choose_spec ⟨_, rfl⟩) pa_nil)) pe_int (fun _ _ => rfl)))) (pss_one (ps_raise rfl (takes_of rfl rfl rfl rfl) (pmk_own PySem.F.excBase_ValueError T.x_CycleError.1 T.g_CycleError T.x_CycleError.2.1 (raises_own T.x_CycleError.2.2.1 T.x_CycleError.2.2.2) rfl))) pss_nil)
 (pss_cons (ps_set (i := 2) sc_Moons_moon_of.nd rfl (Or.inl rfl) (pe_op op_fdiv (pe_op op_sub (pe_op op_sub (pe_op op_add (pe_op op_mul (pv 1) (pe_fldK (K := K) rfl (pv 0) rfl)) (pe_fldK (K := K) rfl (pv 0) rfl)) pe_int) (pe_fldK (K := K) rfl (pv 0) rfl)) (pe_fldK (K := K) rfl (pv 0) rfl)))
 (pss_one (ps_ret (pe_tupN (T := TT K) (pa_cons (pv 2) (pa_cons (pe_op op_sub (pv 1) (pe_ix (ix_tupK (K := K) rfl) (pe_meth (pv 0) T.c_Moons T.m_Moons_new_moon (ok_Moons_new_moon T) (hr.mono (by decide)) (bi_Moons_new_moon T) .nil (passes_call (takes_of rfl rfl rfl rfl) fun _ _ _ _ h => h) (pa_cons (pv 2) pa_nil)) pe_int (fun _ _ => rfl))) pa_nil))))))), ?_⟩)
  · obtain ⟨a, L, p, f, d, rfl, _⟩ := h
    rfl
  · obtain ⟨a, L, p, f, d, rfl, hM, ok, hQ, hE⟩ := h
    obtain ⟨dx, h1⟩ := hM
    have hM : MoonsAt (MC K) H a L p f := ⟨dx, h1⟩
    have p0 := ok.p0
    have p1 := ok.p1
    have lo := ok.lo
    have hi := ok.hi
    have f1 := ok.f1
    walk_at "s"
    refine ifBr (fun q1 => ?_) (fun q1 => ?_)
    · have q1 : ¬ 0 ≤ d := by simpa using q1
      walk_at "s"
      exact hE (fun z => q1 z.1) H .refl
    have q1 : 0 ≤ d := by simpa using q1
    walk_at "s"
    refine ⟨_, _, _, rfl, h1, rfl, ?_⟩
    walk_at "s"
    refine ⟨a, L, p, f, 200000, rfl, hM, ok, fun _ _ t H1 hv e1 => ?_, fun z => absurd ⟨by decide, by decide⟩ z⟩
    walk_at "s"
    refine ⟨_, _, _, _, rfl, rfl, SqT.of hv, rfl, ?_⟩
    walk_at "s"
    refine ifB (fun q2 => ?_) (fun q2 => ?_)
    · have q2 : (!decide (d ≤ ((nm L p f 200000 : Nat) : Int))) = true := q2
      have q2 : ¬ d ≤ ((nm L p f 200000 : Nat) : Int) := by simpa using q2
      exact hE (fun z => q2 z.2) H1 e1
    have q2 : (!decide (d ≤ ((nm L p f 200000 : Nat) : Int))) = false := q2
    have q2 : d ≤ ((nm L p f 200000 : Nat) : Int) := by simpa using q2
    have hQ := hQ q1 q2
    obtain ⟨d, rfl⟩ := Int.eq_ofNat_of_zero_le q1
    rw [Int.toNat_natCast] at hQ
    have hk := mo_le ok (show d ≤ nm L p f 200000 by omega)
    have hN : ((d : Int) * (p : Int) + (p : Int) - 1 - (f : Int)) / (L : Int) = ((mo L p f d : Nat) : Int) := by
      unfold mo
      rw [Int.natCast_ediv]
      congr 1
      have : (d : Int) * (p : Int) = ((d * p : Nat) : Int) := (Int.natCast_mul _ _).symm
      omega
    have h2 := e1.fix _ _ h1 rfl
    walk_at "s"
    refine ⟨_, _, _, _, _, rfl, h2, T.c_Moons, T.na_Moons_parts, rfl, ?_⟩
    walk_at "s"
    refine ⟨.inr ⟨by omega, by omega⟩, ?_⟩
    walk_at "s"
    refine ⟨_, _, _, _, _, rfl, h2, T.c_Moons, T.na_Moons_parts, rfl, ?_⟩
    walk_at "s"
    refine ⟨_, _, _, _, _, rfl, h2, T.c_Moons, T.na_Moons_first, rfl, ?_⟩
    walk_at "s"
    refine ⟨_, _, _, _, _, rfl, h2, T.c_Moons, T.na_Moons_length, rfl, ?_⟩
    walk_at "s"
    refine ⟨⟨by omega, by omega⟩, ?_⟩
    walk_at "s"
    refine ⟨_, _, _, rfl, h2, rfl, ?_⟩
    walk_at "s"
    refine ⟨a, L, p, f, ((mo L p f d : Nat) : Int), by rw [← hN]; rfl, hM.ext e1, ok, fun _ _ t2 H2 hv2 e2 => ?_, fun z => absurd ⟨by omega, by omega⟩ z⟩
    rw [Int.toNat_natCast] at hv2
    walk_at "s"
    refine ⟨_, _, _, _, rfl, rfl, SqT.of hv2, rfl, ?_⟩
    walk_at "s"
    refine ⟨sz, fun t3 H3 ht3 hv3 e3 => ?_⟩
    refine hQ t3 H3 ?_ ((e1.trans e2).trans e3)
    rw [hv3]
    show some (HO.tup [.int (((d : Int) * (p : Int) + (p : Int) - 1 - (f : Int)) / (L : Int)), .int ((d : Int) - (((f + mo L p f d * L) / p : Nat) : Int))]) = _
    rw [hN]
    rfl
/-! ### days_in -/
def fm (L p f n : Nat) : Nat := f + n * L + L / 2
def spFull (K : PySem.W.Frag) : Sp := fun vs H Q E => ∃ (a : Addr) (L p f : Nat) (n : Int), vs = [.ref a, .int n] ∧ MoonsAt (MC K) H a L p f ∧ MOk L p f ∧
  (0 ≤ n → n ≤ 200000 → ∀ t H', H' t = some (.tup [.int (fm L p f n.toNat / p : Nat), .int (fm L p f n.toNat % p : Nat)]) → Ext (TT K) No H H' → Q (.ref t) H') ∧ (¬ (0 ≤ n ∧ n ≤ 200000) → E (CE K) none H)
theorem ok_Moons_full_moon (T : Tx K mg base) : FnOk P w K mg base (L2.CX P w) 2 (He.fAd K ("Moons", some "full_moon")) T.fd_Moons_full_moon ["self", "number"] (spFull K) := by
  refine T.F_Moons_full_moon.ok sc_Moons_full_moon (fun vs H Q E h => ?_) (fun cdv A outer s H vs Q E hr h => ⟨_, (pss_cons (ps_asg (pe_meth (pv 0) T.c_Moons T.m_Moons_new_moon (ok_Moons_new_moon T) (hr.mono (by decide)) (bi_Moons_new_moon T) .nil (passes_call (takes_of rfl rfl rfl rfl) fun _ _ _ _ h => h) (pa_cons (pv 1) pa_nil)) (pg_tupK (K := K) (n := 2) rfl rfl (pgs_cons (pg_name (i := 2) sc_Moons_full_moon.nd rfl (Or.inl rfl)) (pgs_cons (pg_name (i := 3) sc_Moons_full_moon.nd rfl (Or.inl rfl)) pgs_nil))))
 (pss_cons (ps_set (i := 4) sc_Moons_full_moon.nd rfl (Or.inl rfl) (pe_op op_add (pe_op op_add (pe_op op_mul (pv 2) (pe_fldK (K := K) rfl (pv 0) rfl)) (pv 3)) (pe_op op_fdiv (pe_fldK (K := K) rfl (pv 0) rfl) pe_int)))
 (pss_one (ps_ret (pe_tupN (T := TT K) (pa_cons (pe_op op_fdiv (pv 4) (pe_fldK (K := K) rfl (pv 0) rfl)) (pa_cons (pe_op op_mod (pv 4) (pe_fldK (K := K) rfl (pv 0) rfl)) pa_nil))))))), ?_⟩)
  · obtain ⟨a, L, p, f, d, rfl, _⟩ := h
    rfl
  · obtain ⟨a, L, p, f, n, rfl, hM, ok, hQ, hE⟩ := h
    obtain ⟨dx, h1⟩ := hM
    have hM : MoonsAt (MC K) H a L p f := ⟨dx, h1⟩
    have p0 := ok.p0
    have p1 := ok.p1
    have hi := ok.hi
    walk_at "s"
    refine ⟨_, _, _, rfl, h1, rfl, ?_⟩
    walk_at "s"
    refine ⟨a, L, p, f, n, rfl, hM, ok, fun g1 g2 t H1 hv e1 => ?_, fun z => hE z⟩
    obtain ⟨n, rfl⟩ := Int.eq_ofNat_of_zero_le g1
    rw [Int.toNat_natCast] at hv
    have hQ := hQ g1 g2
    rw [Int.toNat_natCast] at hQ
    have h2 := e1.fix _ _ h1 rfl
    have hW : (((f + n * L) / p : Nat) : Int) * (p : Int) + (((f + n * L) % p : Nat) : Int) + (L : Int) / 2 = ((fm L p f n : Nat) : Int) := by
      have h := Nat.div_add_mod (f + n * L) p
      have h3 : (((f + n * L) / p : Nat) : Int) * (p : Int) = ((p * ((f + n * L) / p) : Nat) : Int) := by rw [Int.natCast_mul, Int.mul_comm]
      unfold fm
      omega
    refine ⟨_, _, rfl, SqT.of hv, rfl, ?_⟩
    walk_at "s"
    refine ⟨_, _, _, _, _, rfl, h2, T.c_Moons, T.na_Moons_parts, rfl, ?_⟩
    walk_at "s"
    refine ⟨.inr ⟨by omega, by omega⟩, ?_⟩
    walk_at "s"
    refine ⟨_, _, _, _, _, rfl, h2, T.c_Moons, T.na_Moons_length, rfl, ?_⟩
    walk_at "s"
    refine ⟨⟨by decide, by decide⟩, ?_⟩
    walk_at "s"
    refine ⟨_, _, _, _, _, rfl, h2, T.c_Moons, T.na_Moons_parts, rfl, ?_⟩
    walk_at "s"
    refine ⟨⟨by omega, by omega⟩, ?_⟩
    walk_at "s"
    refine ⟨_, _, _, _, _, rfl, h2, T.c_Moons, T.na_Moons_parts, rfl, ?_⟩
    walk_at "s"
    refine ⟨by omega, ?_⟩
    walk_at "s"
    refine ⟨sz, fun t2 H2 ht2 hv2 e2 => ?_⟩
    refine hQ t2 H2 ?_ (e1.trans e2)
    rw [hv2, Int.natCast_ediv (fm L p f n), Int.natCast_emod (fm L p f n), ← hW]
end K60

set_option Elab.async false
set_option linter.all false
set_option maxRecDepth 100000
set_option maxHeartbeats 2000000
namespace K60
open PySem PySem.Spec PyProof.Rows L2 MB
local macro_rules | `(tactic| walk_at "s") => `(tactic| repeat (first | refine ⟨_, rfl, ?_⟩ | refine ⟨_, _, rfl, rfl, ?_⟩ | refine ⟨_, _, rfl, ?_⟩ | refine ⟨rfl, ?_⟩))
variable {P : Program} {w : World} {K : PySem.W.Frag} {mg : Str → Option Value} {base : Heap}
def OwnD (H : Hp) (o : Addr) (a b c : V) : Prop := ∃ kvs, H o = some (.dK kvs) ∧ valV kvs (.inr "months") = some a ∧ valV kvs (.inr "longer") = some b ∧ valV kvs (.inr "rules") = some c
theorem OwnD.ext {T : Tb} {M : Addr → Prop} {H H' : Hp} {o : Addr} {a b c : V} (h : OwnD H o a b c) (e : Ext T M H H') (n : ¬ M o) : OwnD H' o a b c := by
  obtain ⟨kvs, h0, h1, h2, h3⟩ := h
  exact ⟨kvs, e.dk _ _ h0 n, h1, h2, h3⟩
/-! ### the law's own calendar -/
structure OwnAt (K : PySem.W.Frag) (dq : Addr) (H : Hp) (o : Addr) (ms : Mons) (lg : Str) (rs : MM.Rules) : Prop where
  ex : ∃ mq rq ts rts, OwnD H o (.ref mq) (.str lg) (.ref rq) ∧ H mq = some (.lst (ts.map V.ref)) ∧ MonsT H ts ms ∧ H rq = some (.lst (rts.map V.ref)) ∧ RulesT H rts rs ∧ mq ≠ dq ∧ rq ≠ dq
  od : o ≠ dq
theorem OwnAt.ext {dq o : Addr} {H H' : Hp} {ms : Mons} {lg : Str} {rs : MM.Rules} (h : OwnAt K dq H o ms lg rs) (e : Ext (TT K) (· = dq) H H') : OwnAt K dq H' o ms lg rs := by
  obtain ⟨⟨mq, rq, ts, rts, h1, h2, h3, h4, h4', h5, h6⟩, h7⟩ := h
  exact ⟨⟨mq, rq, ts, rts, h1.ext e h7, e.lst _ _ h2 h5, h3.ext e, e.lst _ _ h4 h6, h4'.ext e, h5, h6⟩, h7⟩
theorem val1 {k1 : Key} {a : V} {r : List (Key × V)} : valV ((k1, a) :: r) k1 = some a := valV_pos rfl
theorem val2 {k1 k2 : Key} {a b : V} {r : List (Key × V)} (h : ¬ k1 = k2) : valV ((k1, a) :: (k2, b) :: r) k2 = some b := (valV_neg h).trans (valV_pos rfl)
theorem val3 {k1 k2 k3 : Key} {a b c : V} {r : List (Key × V)} (h : ¬ k1 = k3) (h2 : ¬ k2 = k3) : valV ((k1, a) :: (k2, b) :: (k3, c) :: r) k3 = some c := (valV_neg h).trans ((valV_neg h2).trans (valV_pos rfl))
theorem get_months {H : Hp} {o : Addr} {a b c : V} (h : OwnD H o a b c) : DGet H o (.str "months") (some a) := by
  obtain ⟨kvs, h0, h1, h2, h3⟩ := h
  exact h1 ▸ DGet.k (k := .inr "months") h0
theorem get_longer {H : Hp} {o : Addr} {a b c : V} (h : OwnD H o a b c) : DGet H o (.str "longer") (some b) := by
  obtain ⟨kvs, h0, h1, h2, h3⟩ := h
  exact h2 ▸ DGet.k (k := .inr "longer") h0
theorem get_rules {H : Hp} {o : Addr} {a b c : V} (h : OwnD H o a b c) : DGet H o (.str "rules") (some c) := by
  obtain ⟨kvs, h0, h1, h2, h3⟩ := h
  exact h3 ▸ DGet.k (k := .inr "rules") h0
def yms (ms : Mons) (lg : Str) (rs : MM.Rules) (y : Nat) : Mons := ms.map fun m => (m.1, MM.md rs lg y m)
def spLYear (K : PySem.W.Frag) : Sp := fun vs H Q _ => ∃ (dq o : Addr) (ms : Mons) (lg : Str) (rs : MM.Rules) (y : Nat), vs = [.ref o, .int (y : Nat)] ∧ OwnAt K dq H o ms lg rs ∧ ms.length ≤ 900 ∧ (∀ r ∈ rs, 1 ≤ r.1) ∧
  ∀ q ts H', H' q = some (.lst (ts.map V.ref)) → MonsT H' ts (yms ms lg rs y) → NoM H q → Ext (TT K) No H H' → Q (.ref q) H'
theorem ok_law_year (T : Tx K mg base) : FnOk P w K mg base (L2.CX P w) 2 (He.fAd K ("_law_year", none)) T.fd_law_year ["own", "year"] (spLYear K) := by
  refine T.F_law_year.ok sc_law_year (fun vs H Q E h => ?_) (fun cdv A outer s H vs Q E hr h => ⟨_, (pss_one (ps_ret (pe_lc rfl sc_law_year.nd (pi_listK (K := K) rfl (pe_dget (Nat.lt_of_le_of_lt (Nat.add_le_add_left (by decide) _) hr.units) (pv 0) pe_str (fun _ _ => rfl))) (blkOk_by (N := ["own", "year", "name", "days"]) (sc := defScope s_law_year) (own := [("name", 2), ("days", 3)]) (by decide +kernel)) (fun _ _ _ _ _ => (pg_tupK (K := K) (n := 2) rfl rfl (pgs_cons (pg_name (i := 2) sc_law_year.nd rfl (by first | exact Or.inl rfl | exact Or.inr rfl)) (pgs_cons (pg_name (i := 3) sc_law_year.nd rfl (by first | exact Or.inl rfl | exact Or.inr rfl)) pgs_nil)))) (fun _ _ _ _ _ => pts_nil) (fun _ _ _ _ _ => (pe_tupN (T := TT K) (pa_cons (pv 2) (pa_cons (pe_op op_add (pv 3) (pe_callTy call_int1 rfl T.b_int (by decide +kernel) (pa_cons (pe_and (pe_cmpR op_eq (pv 2) (pe_dget (Nat.lt_of_le_of_lt (Nat.add_le_add_left (by decide) _) hr.units) (pv 0) pe_str (fun _ _ => rfl)) (nomark _)) (pe_one (pe_call (ok_law_long T) (hr.mono (by decide)) rfl T.g_law_long T.F_law_long.kp (bi_law_long T) .nil passL (pa_cons (pe_dget (Nat.lt_of_le_of_lt (Nat.add_le_add_left (by decide) _) hr.units) (pv 0) pe_str (fun _ _ => rfl)) (pa_cons (pv 1) pa_nil))))) pa_nil))) pa_nil))))))), ?_⟩)
  · obtain ⟨dq, o, ms, lg, rs, y, rfl, _⟩ := h
    rfl
  · obtain ⟨dq, o, ms, lg, rs, y, rfl, hO, hml, hr1, hQ⟩ := h
    obtain ⟨⟨mq, rq, ts, rts, h1, h2, h3, h4, h4', _, _⟩, _⟩ := hO
    walk_at "s"
    refine ⟨_, _, rfl, get_months h1, ?_⟩
    refine ⟨_, rfl, ⟨_, SqL.of h2⟩, fun D hD => ?_⟩
    have tl : (ts.map V.ref).length = ms.length := by rw [List.length_map, h3.1]
    have mD : ¬ mq = D := fun z => by rw [z, hD] at h2; cases h2
    have oD : ¬ o = D := fun z => by obtain ⟨_, h1, _⟩ := h1; rw [z, hD] at h1; cases h1
    have rD : ¬ rq = D := fun z => by rw [z, hD] at h4; cases h4
    refine lc_list (xs := ts.map V.ref) (fun i H1 => ∃ as : List Addr, H1 D = some (.lst (as.map V.ref)) ∧ MonsT H1 as (yms (ms.take i) lg rs y) ∧ Ext (TT K) (· = D) H H1) ⟨[], upd_same, monnil, (Ext.new hD).no⟩ (fun i H1 _ ⟨_, _, _, e⟩ => SqL.of (e.lst _ _ h2 mD)) ?_ ?_
    · rintro i v H1 hv ⟨as, g1, gA, e1⟩
      obtain ⟨t, m, rfl, ht, hm, hvt⟩ := h3.get hv
      have hi := (List.getElem?_eq_some_iff.mp hm).1
      have htk : yms (ms.take (i + 1)) lg rs y = yms (ms.take i) lg rs y ++ [(m.1, MM.md rs lg y m)] := by
        unfold yms
        rw [List.take_add_one, hm, List.map_append]
        rfl
      have ho1 := h1.ext e1 oD
      -- what follows a month
      have fin : ∀ H2, Ext (TT K) No H1 H2 → ∀ (k : Nat), k = MM.md rs lg y m → ∀ t2, H2 t2 = some (.tup [.str m.1, .int (k : Nat)]) → ∃ acc, H2 D = some (.lst acc) ∧ acc.length < sizeLine ∧ ∃ as : List Addr, upd H2 D (.lst (acc ++ [.ref t2])) D = some (.lst (as.map V.ref)) ∧ MonsT (upd H2 D (.lst (acc ++ [.ref t2]))) as (yms (ms.take (i + 1)) lg rs y) ∧ Ext (TT K) (· = D) H (upd H2 D (.lst (acc ++ [.ref t2]))) := fun H2 e2 k hk t2 ht2 => by
        have g2 := e2.lst _ _ g1 id
        have e3 : Ext (TT K) (· = D) H2 (upd H2 D (.lst (as.map V.ref ++ [.ref t2]))) := Ext.set g2 rfl
        have al := gA.1
        unfold yms at al
        rw [List.length_map, List.length_take] at al
        refine ⟨_, g2, by rw [List.length_map, al]; exact szl (by omega), as ++ [t2], by rw [List.map_append]; exact upd_same, ?_, (e1.trans e2.no).trans e3⟩
        rw [htk]
        refine monsnoc ((gA.ext e2).ext e3) ?_
        rw [← hk]
        exact e3.fix _ _ ht2 rfl
      refine ⟨_, _, rfl, SqT.of (e1.fix _ _ hvt rfl), rfl, ?_⟩
      walk_at "s"
      refine ⟨_, _, rfl, get_longer ho1, ?_⟩
      walk_at "s"
      refine ifB (fun q1 => ?_) (fun q1 => ?_)
      · have q1 : m.1 = lg := by
          have q1 : decide (V.str m.1 = V.str lg) = true := q1
          simpa using q1
        walk_at "s"
        refine ⟨_, _, rfl, get_rules ho1, ?_⟩
        walk_at "s"
        refine ⟨rq, rs, y, rfl, ⟨rts, SqL.of (e1.lst _ _ h4 rD), h4'.ext e1⟩, hr1, ?_⟩
        walk_at "s"
        refine .inr ⟨_, rfl, ?_⟩
        walk_at "s"
        refine ⟨sz, fun t2 H2 ht2 hv2 e2 => ?_⟩
        refine fin H2 e2 _ rfl t2 ?_
        rw [hv2]
        unfold MM.md
        cases hlo : MM.isLong rs y with
        | true => simp [q1]
        | false => simp
      · have q1 : ¬ m.1 = lg := by
          have q1 : decide (V.str m.1 = V.str lg) = false := q1
          simpa using q1
        walk_at "s"
        refine .inr ⟨_, rfl, ?_⟩
        walk_at "s"
        refine ⟨sz, fun t2 H2 ht2 hv2 e2 => ?_⟩
        refine fin H2 e2 _ rfl t2 ?_
        rw [hv2]
        unfold MM.md
        simp [q1]
    rintro H1 ⟨as, g1, gA, e1⟩
    rw [tl, List.take_length] at gA
    exact hQ D as H1 g1 gA (NoM.of hD) (e1.mono1 (NoM.of hD))
end K60

set_option Elab.async false
set_option linter.all false
set_option maxRecDepth 100000
set_option maxHeartbeats 2000000
namespace K60
open PySem PySem.Spec PyProof.Rows L2 MB
local macro_rules | `(tactic| walk_at "s") => `(tactic| repeat (first | refine ⟨_, rfl, ?_⟩ | refine ⟨_, _, rfl, rfl, ?_⟩ | refine ⟨_, _, rfl, ?_⟩ | refine ⟨rfl, ?_⟩))
variable {P : Program} {w : World} {K : PySem.W.Frag} {mg : Str → Option Value} {base : Heap}
/-! ### _law_start, _law_day, _law_date -/
theorem ymsl {ms : Mons} {lg : Str} {rs : MM.Rules} {y : Nat} : (yms ms lg rs y).length = ms.length := List.length_map ..
theorem sumI : ∀ l : List Nat, (l.map fun n : Nat => ((n : Nat) : Int)).sum = ((l.sum : Nat) : Int)
  | [] => rfl
  | a :: l => by
    rw [List.map_cons, List.sum_cons, List.sum_cons, sumI l, Int.natCast_add]
theorem ysum {ms : Mons} {lg : Str} {rs : MM.Rules} {y : Nat} : ((yms ms lg rs y).map fun m => ((m.2 : Nat) : Int)).sum = ((MM.pre rs lg y ms ms.length : Nat) : Int) := by
  unfold yms MM.pre
  rw [List.take_length, ← sumI, List.map_map, List.map_map]
  rfl
theorem yms_at {ms : Mons} {lg : Str} {rs : MM.Rules} {y i : Nat} {m : Str × Nat} (h : (yms ms lg rs y)[i]? = some m) : ∃ m0, ms[i]? = some m0 ∧ m.1 = m0.1 ∧ m.2 = MM.md rs lg y m0 := by
  unfold yms at h
  rw [List.getElem?_map] at h
  cases e : ms[i]? with
  | none => rw [e] at h; cases h
  | some m0 => rw [e] at h; cases h; exact ⟨m0, rfl, rfl, rfl⟩
def spLStart (K : PySem.W.Frag) : Sp := fun vs H Q _ => ∃ (dq o : Addr) (ms : Mons) (lg : Str) (rs : MM.Rules) (y : Nat), vs = [.ref o, .int (y : Nat)] ∧ OwnAt K dq H o ms lg rs ∧ MsV ms lg ∧ (∀ r ∈ rs, 1 ≤ r.1) ∧ y ≤ 1000 ∧
  ∀ H', Ext (TT K) No H H' → Q (.int (MM.db rs (MM.sh ms) y : Nat)) H'
theorem db_sum {ms : Mons} {lg : Str} {rs : MM.Rules} (mv : MsV ms lg) : ∀ y, ((List.range y).map fun k => MM.pre rs lg k ms ms.length).sum = MM.db rs (MM.sh ms) y
  | 0 => by
    unfold MM.db MM.cn
    rw [Nat.mul_zero]
    rfl
  | y + 1 => by
    rw [List.range_succ, List.map_append, List.sum_append, db_sum mv y, MM.year_end mv.nd mv.lg]
    show _ + (MM.pre rs lg y ms ms.length + 0) = _
    omega
theorem OwnAt.no {dq o : Addr} {H H' : Hp} {ms : Mons} {lg : Str} {rs : MM.Rules} (h : OwnAt K dq H o ms lg rs) (e : Ext (TT K) No H H') : OwnAt K dq H' o ms lg rs := h.ext e.no
theorem ok_law_start (T : Tx K mg base) : FnOk P w K mg base (L2.CX P w) 4 (He.fAd K ("_law_start", none)) T.fd_law_start ["own", "year"] (spLStart K) := by
  refine T.F_law_start.ok sc_law_start (fun vs H Q E h => ?_) (fun cdv A outer s H vs Q E hr h => ⟨_, (pss_one (ps_ret (pe_callB (cr_sumK (K := K) rfl rfl) rfl T.b_sum (by decide +kernel) (pa_cons (pe_lc rfl sc_law_start.nd (pi_range1 rfl T.b_range (pa_cons (pv 1) pa_nil)) (blkOk_by (N := ["own", "year", "name", "days", "one"]) (sc := defScope s_law_start) (own := [("one", 4)]) (by decide +kernel)) (fun _ _ _ _ _ => (pg_name (i := 4) sc_law_start.nd rfl (by first | exact Or.inl rfl | exact Or.inr rfl))) (fun _ _ _ _ _ => pts_nil) (fun _ _ _ _ _ => (pe_callB (cr_sumK (K := K) rfl rfl) rfl T.b_sum (by decide +kernel) (pa_cons (pe_lc rfl sc_law_start.nd (pi_listK (K := K) rfl (pe_call (ok_law_year T) (hr.mono (by decide)) rfl T.g_law_year T.F_law_year.kp (bi_law_year T) .nil passL (pa_cons (pv 0) (pa_cons (pv 4) pa_nil)))) (blkOk_by (own := [("name", 2), ("days", 3)]) (by rfl)) (fun _ _ _ _ _ => (pg_tupK (K := K) (n := 2) rfl rfl (pgs_cons (pg_name (i := 2) sc_law_start.nd rfl (by first | exact Or.inl rfl | exact Or.inr rfl)) (pgs_cons (pg_name (i := 3) sc_law_start.nd rfl (by first | exact Or.inl rfl | exact Or.inr rfl)) pgs_nil)))) (fun _ _ _ _ _ => pts_nil) (fun _ _ _ _ _ => (pv 3))) pa_nil)))) pa_nil)))), ?_⟩)
  · obtain ⟨dq, o, ms, lg, rs, y, rfl, _⟩ := h
    rfl
  · obtain ⟨dq, o, ms, lg, rs, y, rfl, hO, mv, hr1, hy, hQ⟩ := h
    have most := mv.most
    walk_at "s"
    refine ⟨by omega, by omega, fun D hD => ?_⟩
    rw [Int.toNat_natCast]
    -- its own list does not touch what the calendar holds
    have OwnD : ∀ {H'}, Ext (TT K) (· = D) H H' → OwnAt K dq H' o ms lg rs := fun e => by
      obtain ⟨⟨mq, rq, ts, rts, h1, h2, h3, h4, h4', h5, h6⟩, h7⟩ := hO
      exact ⟨⟨mq, rq, ts, rts, h1.ext e fun z => (by obtain ⟨_, h1, _⟩ := h1; rw [z, hD] at h1; cases h1), e.lst _ _ h2 fun z => (by rw [z, hD] at h2; cases h2), h3.ext e, e.lst _ _ h4 fun z => (by rw [z, hD] at h4; cases h4), h4'.ext e, h5, h6⟩, h7⟩
    refine lc_range (fun i H1 => H1 D = some (.lst (((List.range i).map fun k => MM.pre rs lg k ms ms.length).map fun n : Nat => V.int (n : Nat))) ∧ Ext (TT K) (· = D) H H1) ⟨upd_same, (Ext.new hD).no⟩ ?_ ?_
    · rintro i H1 hi ⟨g1, e1⟩
      walk_at "s"
      refine ⟨dq, o, ms, lg, rs, i, (by rw [Int.zero_add]; rfl), OwnD e1, by omega, hr1, fun q2 ts2 Hq2 hq2 hT2 hn2 eq2 => ?_⟩
      refine ⟨_, rfl, ⟨_, SqL.of hq2⟩, fun D2 hD2 => ?_⟩
      have qD2 : ¬ q2 = D2 := fun z => by rw [z, hD2] at hq2; cases hq2
      refine lc_list (xs := ts2.map V.ref) (fun j Hj => Hj D2 = some (.lst (((yms ms lg rs i).take j).map fun m => V.int (m.2 : Nat))) ∧ Ext (TT K) (· = D2) Hq2 Hj) ⟨upd_same, (Ext.new hD2).no⟩ (fun j Hj _ ⟨_, e⟩ => SqL.of (e.lst _ _ hq2 qD2)) ?_ ?_
      · rintro j v Hj hv ⟨hj, ej⟩
        obtain ⟨t, m, rfl, ht, hm, hvt⟩ := hT2.get hv
        have hjl := (List.getElem?_eq_some_iff.mp hm).1
        rw [ymsl] at hjl
        refine ⟨_, _, rfl, SqT.of (ej.fix _ _ hvt rfl), rfl, ?_⟩
        walk_at "s"
        refine ⟨_, hj, by rw [List.length_map, List.length_take]; exact szl (by omega), ?_, ej.trans (Ext.set hj rfl)⟩
        rw [upd_same, List.take_add_one, hm, List.map_append]
        rfl
      rintro H2 ⟨h2, e2⟩
      rw [List.length_map, hT2.1, List.take_length] at h2
      have E2 : Ext (TT K) No H1 H2 := eq2.trans (e2.mono1 (NoM.of hD2))
      clear e2 eq2 hT2 hq2 hn2 qD2 hD2
      walk_at "s"
      refine ⟨_, ((yms ms lg rs i).map fun m => ((m.2 : Nat) : Int)), rfl, SqL.of (by rw [h2, List.map_map]; rfl), ?_⟩
      rw [ysum]
      clear h2
      have g2 := E2.lst _ _ g1 id
      refine ⟨_, g2, by rw [List.length_map, List.length_map, List.length_range]; exact szm (by omega), ?_, (e1.trans E2.no).trans (Ext.set g2 rfl)⟩
      rw [upd_same, List.range_succ, List.map_append, List.map_append]
      rfl
    rintro H1 ⟨g1, e1⟩
    walk_at "s"
    refine ⟨_, ((List.range y).map fun k => MM.pre rs lg k ms ms.length).map (fun n : Nat => ((n : Nat) : Int)), rfl, SqL.of (by rw [g1, List.map_map (g := V.int)]; rfl), ?_⟩
    rw [sumI, db_sum mv]
    exact hQ H1 (e1.mono1 (NoM.of hD))
def spLDay (K : PySem.W.Frag) : Sp := fun vs H Q _ => ∃ (dq o : Addr) (ms : Mons) (lg : Str) (rs : MM.Rules) (y : Int) (x : Str) (d : Int) (yn i r : Nat), vs = [.ref o, .int y, .str x, .int d] ∧ OwnAt K dq H o ms lg rs ∧ MsV ms lg ∧ (∀ r ∈ rs, 1 ≤ r.1) ∧ DOk ms lg rs y x d yn i r ∧ yn ≤ 1000 ∧
  ∀ H', Ext (TT K) No H H' → Q (.int (dN ms lg rs yn i r : Nat)) H'
theorem ok_law_day (T : Tx K mg base) : FnOk P w K mg base (L2.CX P w) 5 (He.fAd K ("_law_day", none)) T.fd_law_day ["own", "year", "month", "day"] (spLDay K) := by
  refine T.F_law_day.ok sc_law_day (fun vs H Q E h => ?_) (fun cdv A outer s H vs Q E hr h => ⟨_, (pss_cons (ps_set (i := 4) sc_law_day.nd rfl (Or.inl rfl) (pe_call (ok_law_start T) (hr.mono (by decide)) rfl T.g_law_start T.F_law_start.kp (bi_law_start T) .nil (passes_call (takes_of rfl rfl rfl rfl) fun _ _ _ _ h => h) (pa_cons (pv 0) (pa_cons (pv 1) pa_nil))))
 (pss_cons (ps_for (passes_of rfl) rfl (pi_listK (K := K) rfl (pe_call (ok_law_year T) (hr.mono (by decide)) rfl T.g_law_year T.F_law_year.kp (bi_law_year T) .nil (passes_call (takes_of rfl rfl rfl rfl) fun _ _ _ _ h => h) (pa_cons (pv 0) (pa_cons (pv 1) pa_nil)))) (pg_tupK (K := K) (n := 2) rfl rfl (pgs_cons (pg_name (i := 5) sc_law_day.nd rfl (Or.inl rfl)) (pgs_cons (pg_name (i := 6) sc_law_day.nd rfl (Or.inl rfl)) pgs_nil))) (pss_cons (ps_if (pt_cmpR op_eq (pv 5) (pv 2) (nomark _)) (pss_one (ps_ret (pe_op op_sub (pe_op op_add (pv 4) (pv 3)) pe_int))) pss_nil)
 (pss_one (ps_set (i := 4) sc_law_day.nd rfl (Or.inl rfl) (pe_op op_add (pv 4) (pv 6))))))
 (pss_one (ps_ret pe_non)))), ?_⟩)
  · obtain ⟨dq, o, ms, lg, rs, y, x, d, yn, i, r, rfl, _⟩ := h
    rfl
  · obtain ⟨dq, o, ms, lg, rs, y, x, d, yn, i, r, rfl, hO, mv, hr1, dok, hy, hQ⟩ := h
    have most := mv.most
    obtain ⟨rfl, _, ⟨m, hmi, hmx, hrm⟩, rfl⟩ := dok
    have him := (List.getElem?_eq_some_iff.mp hmi).1
    walk_at "s"
    refine ⟨dq, o, ms, lg, rs, yn, rfl, hO, mv, hr1, hy, fun H1 e1 => ?_⟩
    walk_at "s"
    refine ⟨dq, o, ms, lg, rs, yn, rfl, hO.no e1, by omega, hr1, fun q2 ts H2 hq2 hT2 hn2 e2 => ?_⟩
    have E2 := e1.trans e2
    refine ⟨_, rfl, ⟨_, SqL.of hq2⟩, ?_⟩
    refine for_list (xs := ts.map V.ref) (fun j σ' H' => ∃ u v, σ' = [some (.ref o), some (.int (yn : Nat)), some (.str x), some (.int ((r : Nat) + 1)), some (.int (MM.db rs (MM.sh ms) yn + MM.pre rs lg yn ms j : Nat)), u, v] ∧ H' = H2 ∧ j ≤ i) ⟨_, _, rfl, rfl, Nat.zero_le _⟩ (fun j σ' H' _ ⟨_, _, _, e, _⟩ => by rw [e]; exact SqL.of hq2) ?_ ?_
    · rintro j v σ' H' hv ⟨u1, u2, rfl, rfl, hj⟩
      obtain ⟨t, m2, rfl, ht, hm2, hvt⟩ := hT2.get hv
      obtain ⟨m0, hm0, hx0, hd0⟩ := yms_at hm2
      refine ⟨_, _, rfl, SqT.of hvt, rfl, ?_⟩
      rw [hx0, hd0]
      walk_at "s"
      refine ifB (fun q3 => ?_) (fun q3 => ?_)
      · have q3 : m0.1 = x := by
          have q3 : decide (V.str m0.1 = V.str x) = true := q3
          simpa using q3
        have e := mv.ix hmi hm0 (by rw [hmx, q3])
        subst e
        walk_at "s"
        have hQ := hQ H' E2
        have e2 : ((MM.db rs (MM.sh ms) yn + MM.pre rs lg yn ms i : Nat) : Int) + ((r : Nat) + 1 : Int) - 1 = (dN ms lg rs yn i r : Nat) := by
          unfold dN
          omega
        rw [← e2] at hQ
        exact hQ
      · have q3 : ¬ m0.1 = x := by
          have q3 : decide (V.str m0.1 = V.str x) = false := q3
          simpa using q3
        have hji : j < i := by
          rcases Nat.lt_or_ge j i with z | z
          · exact z
          · have e : j = i := by omega
            subst e
            rw [hmi] at hm0
            cases hm0
            exact absurd hmx q3
        walk_at "s"
        refine ⟨some (.str m0.1), some (.int (MM.md rs lg yn m0 : Nat)), ?_, rfl, hji⟩
        rw [MM.pre_succ hm0]
        have e2 : ((MM.db rs (MM.sh ms) yn + (MM.pre rs lg yn ms j + MM.md rs lg yn m0) : Nat) : Int) = ((MM.db rs (MM.sh ms) yn + MM.pre rs lg yn ms j : Nat) : Int) + ((MM.md rs lg yn m0 : Nat) : Int) := by omega
        rw [e2]
        rfl
    · rintro σ' H' ⟨u1, u2, rfl, rfl, hj⟩
      rw [List.length_map, hT2.1, ymsl] at hj
      omega
end K60

set_option Elab.async false
set_option linter.all false
set_option maxRecDepth 100000
set_option maxHeartbeats 2000000
namespace K60
open PySem PySem.Spec PyProof.Rows L2 MB
local macro_rules | `(tactic| walk_at "s") => `(tactic| repeat (first | refine ⟨_, rfl, ?_⟩ | refine ⟨_, _, rfl, rfl, ?_⟩ | refine ⟨_, _, rfl, ?_⟩ | refine ⟨rfl, ?_⟩))
variable {P : Program} {w : World} {K : PySem.W.Frag} {mg : Str → Option Value} {base : Heap}
/-! ### _law_calendar -/
def nmS (i : Nat) : Str := Str.ofString "m" ++ Str.ofString (toString ((0 : Int) + (i : Int)))
theorem nm_len : ∀ i : Nat, i < 4 → (Str.ofString "m").length + (Str.ofString (toString ((0 : Int) + (i : Int)))).length ≤ 10 := by decide +kernel
theorem nm_len21 : ∀ i : Nat, i < 21 → (Str.ofString "m").length + (Str.ofString (toString ((0 : Int) + (i : Int)))).length ≤ 10 := by decide +kernel
theorem nm_ok : ∀ i, i < 4 → nmS i ≠ "" ∧ 32 ∉ (nmS i).cps.toList := by decide +kernel
theorem nm_sok : ∀ i, i < 4 → PyData.canLay0 (.str (nmS i)) = true := by decide +kernel
theorem nm_nd : ∀ n, n < 5 → ((List.range n).map nmS).Nodup := by decide +kernel
theorem OwnD.mk3 {H : Hp} {o : Addr} {a b c : V} (h : H o = some (.dK [(.inr "months", a), (.inr "longer", b), (.inr "rules", c)])) : OwnD H o a b c := ⟨_, h, val1, val2 (by decide +kernel), val3 (by decide +kernel) (by decide +kernel)⟩
theorem merge3 {k1 k2 k3 : Key} {a b c : V} (h1 : ¬ k1 = k2) (h2 : ¬ k1 = k3) (h3 : ¬ k2 = k3) : mergeK [] [(k1, a), (k2, b), (k3, c)] = [(k1, a), (k2, b), (k3, c)] := by
  show putK (putK (putK [] k1 a) k2 b) k3 c = _
  rw [putK_new (kvs := []) a rfl]
  show putK (putK [(k1, a)] k2 b) k3 c = _
  rw [putK_new (kvs := [(k1, a)]) b ((valV_neg h1).trans rfl)]
  show putK [(k1, a), (k2, b)] k3 c = _
  rw [putK_new (kvs := [(k1, a), (k2, b)]) c ((valV_neg h2).trans ((valV_neg h3).trans rfl))]
  rfl
structure OwnV (ms : Mons) (lg : Str) (rs : MM.Rules) : Prop where
  mv : MsV ms lg
  four : ms.length ≤ 4
  nine : ∀ m ∈ ms, m.2 ≤ 9
  ok : ROk rs
  r12 : ∀ r ∈ rs, r.1 ≤ 12
  sok : ∀ m ∈ ms, PyData.canLay0 (.str m.1) = true
def spLCal (K : PySem.W.Frag) : Sp := fun vs H Q _ => ∃ p : Addr, vs = [.ref p] ∧ DiceAt H p ∧ ∀ o ms lg rs H', OwnAt K p H' o ms lg rs → (∃ kvs, H' o = some (.dK kvs) ∧ kvs.length ≤ 3) → OwnV ms lg rs → DiceAt H' p → Ext (TT K) (· = p) H H' → Q (.ref o) H'
theorem ok_law_calendar (T : Tx K mg base) : FnOk P w K mg base (L2.CX P w) 4 (He.fAd K ("_law_calendar", none)) T.fd_law_calendar ["dice"] (spLCal K) := by
  refine T.F_law_calendar.ok sc_law_calendar (fun vs H Q E h => ?_) (fun cdv A outer s H vs Q E hr h => ⟨_, (pss_cons (ps_setLc (i := 1) rfl sc_law_calendar.nd rfl rfl rfl (pi_range1 rfl T.b_range (pa_cons (pe_op op_add pe_int (pe_call (ok_law_roll T) (hr.mono (by decide)) rfl T.g_law_roll T.F_law_roll.kp (bi_law_roll T) .nil (passes_call (takes_of rfl rfl rfl rfl) fun _ _ _ _ h => h) (pa_cons (pv 0) (pa_cons pe_int pa_nil)))) pa_nil)) (blkOk_by (N := ["dice", "months", "k"]) (sc := defScope s_law_calendar) (own := [("k", 2)]) (by decide +kernel)) (fun _ _ _ _ _ => (pg_name (i := 2) sc_law_calendar.nd rfl (by first | exact Or.inl rfl | exact Or.inr rfl))) (fun _ _ _ _ _ => pts_nil) (fun _ _ _ _ _ => (pe_tupN (T := TT K) (pa_cons (pe_op op_add_str pe_str (pe_callTy call_str_int rfl T.b_str (by decide +kernel) (pa_cons (pv 2) pa_nil))) (pa_cons (pe_op op_add pe_int (pe_call (ok_law_roll T) (hr.mono (by decide)) rfl T.g_law_roll T.F_law_roll.kp (bi_law_roll T) .nil passL (pa_cons (pv 0) (pa_cons pe_int pa_nil)))) pa_nil)))))
 (pss_one (ps_ret (pe_disp (pps_cons pe_str (pv 1) (pps_cons pe_str (pe_ix (ix_tupK (K := K) rfl) (pe_ix (ix_listK (K := K) rfl) (pv 1) (pe_call (ok_law_roll T) (hr.mono (by decide)) rfl T.g_law_roll T.F_law_roll.kp (bi_law_roll T) .nil (passes_call (takes_of rfl rfl rfl rfl) fun _ _ _ _ h => h) (pa_cons (pv 0) (pa_cons (pe_callB (call_lenK (K := K) rfl) rfl T.b_len (by decide +kernel) (pa_cons (pv 1) pa_nil)) pa_nil))) (fun _ _ => rfl)) pe_int (fun _ _ => rfl)) (pps_cons pe_str (pe_call (ok_law_rules T) (hr.mono (by decide)) rfl T.g_law_rules T.F_law_rules.kp (bi_law_rules T) .nil (passes_call (takes_of rfl rfl rfl rfl) fun _ _ _ _ h => h) (pa_cons (pv 0) pa_nil)) pps_nil))) rfl rfl (by decide) (by decide))))), ?_⟩)
  · obtain ⟨p, rfl, _⟩ := h
    rfl
  · obtain ⟨p, rfl, hd, hQ⟩ := h
    walk_at "s"
    refine ⟨hd, by decide, by decide, fun r1 H1 hr1 hd1 e1 => ?_⟩
    walk_at "s"
    refine ⟨by omega, by omega, fun D hD => ?_⟩
    have hn : (1 + (r1 : Int)).toNat = r1 + 1 := by omega
    rw [hn]
    have pD : ¬ p = D := fun z => by obtain ⟨x, y, z2, q⟩ := hd1; rw [z, hD] at q; cases q
    refine lc_range (fun i H2 => ∃ (as : List Addr) (ms : Mons), H2 D = some (.lst (as.map V.ref)) ∧ MonsT H2 as ms ∧ ms.map (·.1) = (List.range i).map nmS ∧ (∀ m ∈ ms, 1 ≤ m.2 ∧ m.2 ≤ 9) ∧ DiceAt H2 p ∧ Ext (TT K) (fun b => b = D ∨ b = p) H1 H2) ⟨[], [], upd_same, monnil, rfl, fun m z => by simp at z, hd1.ext (Ext.new (T := TT K) (M := No) hD) id, Ext.new hD⟩ ?_ ?_
    · rintro i H2 hi ⟨as, ms, g1, gA, gn, g9, hd2, e2⟩
      walk_at "s"
      refine ⟨Nat.lt_of_le_of_lt (Nat.log2_le_self _) (by omega), ?_⟩
      walk_at "s"
      refine ⟨Nat.le_trans (nm_len i (by omega)) (sz (by decide)), ?_⟩
      walk_at "s"
      refine ⟨hd2, by decide, by decide, fun r3 H3 hr3 hd3 e3 => ?_⟩
      walk_at "s"
      refine ⟨sz, fun t4 H4 ht4 hv4 e4 => ?_⟩
      have hv4 : H4 t4 = some (.tup [.str (nmS i), .int ((r3 + 1 : Nat) : Int)]) := by
        have f1 : (1 : Int) + (r3 : Int) = ((r3 + 1 : Nat) : Int) := by omega
        rw [hv4]
        show some (HO.tup [V.str (nmS i), V.int (1 + (r3 : Int))]) = _
        rw [f1]
      have g4 := e4.lst _ _ (e3.lst _ _ g1 (Ne.symm pD)) id
      have e5 : Ext (TT K) (fun b => b = D ∨ b = p) H4 (upd H4 D (.lst (as.map V.ref ++ [.ref t4]))) := Ext.set g4 (.inl rfl)
      have al : as.length = i := by
        have := congrArg List.length gn
        rw [List.length_map, List.length_map, List.length_range] at this
        rw [gA.1, this]
      refine ⟨_, g4, by rw [List.length_map, al]; exact szl (by omega), as ++ [t4], ms ++ [(nmS i, r3 + 1)], by rw [List.map_append]; exact upd_same, monsnoc (((gA.ext e3).ext e4).ext e5) (e5.fix _ _ hv4 rfl), by rw [List.map_append, gn, List.range_succ, List.map_append]; rfl, fun m hm => ?_, ?_, ((e2.trans (e3.more fun b z => .inr z)).trans e4.no).trans e5⟩
      · rcases List.mem_append.mp hm with hm | hm
        · exact g9 m hm
        · have hm : m = (nmS i, r3 + 1) := by simpa using hm
          rw [hm]
          exact ⟨by omega, by omega⟩
      · obtain ⟨x, y, z, q⟩ := hd3.ext e4 id
        exact ⟨x, y, z, by rw [upd_ne pD]; exact q⟩
    rintro H2 ⟨as, ms, g1, gA, gn, g9, hd2, e2⟩
    have e2n : Ext (TT K) (· = p) H1 H2 := e2.mono fun b z => z.elim (fun z => .inr (by rw [z]; exact NoM.of hD)) .inl
    have E2 := e1.trans e2n
    have ml : ms.length = r1 + 1 := by
      have := congrArg List.length gn
      rw [List.length_map, List.length_map, List.length_range] at this
      exact this
    clear e1 e2 e2n hD hd1
    walk_at "s"
    intro o ho
    have oD : ¬ D = o := fun z => by rw [z, ho] at g1; cases g1
    have op : ¬ o = p := fun z => by obtain ⟨x, y, z2, q⟩ := hd2; rw [← z, ho] at q; cases q
    have e3 : Ext (TT K) No H2 (upd H2 o (.dK [])) := Ext.new ho
    have ho3 : upd H2 o (.dK []) o = some (.dK []) := upd_same
    have hno : NoM H2 o := NoM.of ho
    generalize upd H2 o (.dK []) = H3 at e3 ho3 ⊢
    have g3 := e3.lst _ _ g1 id
    have gA3 := gA.ext e3
    have hd3 := hd2.ext e3 id
    clear ho
    walk_at "s"
    refine ⟨_, _, rfl, .inl (SqL.of g3), ?_⟩
    have al : (as.map V.ref).length = r1 + 1 := by rw [List.length_map, gA.1, ml]
    rw [al]
    walk_at "s"
    refine ⟨hd3, by omega, by omega, fun r4 H4 hr4 hd4 e4 => ?_⟩
    have gA4 := gA3.ext e4
    have g4 := e4.lst _ _ g3 (Ne.symm pD)
    have ho4 := e4.dk _ _ ho3 op
    have hr4 : r4 < as.length := by rw [gA.1, ml]; omega
    have hat := List.getElem?_eq_getElem hr4
    have hma := List.getElem?_eq_getElem (l := ms) (show r4 < ms.length by omega)
    have hvt := gA4.2 _ _ _ hat hma
    walk_at "s"
    refine ⟨_, _, _, _, rfl, rfl, SqL.of g4, atI_of (i := r4) rfl (by rw [List.getElem?_map, hat]; rfl), ?_⟩
    walk_at "s"
    refine ⟨_, _, _, _, rfl, rfl, SqT.of hvt, rfl, ?_⟩
    walk_at "s"
    refine ⟨hd4, fun q rs H5 ⟨rts, h5, hT5⟩ hn5 ok r12 _ hqp hd5 e5 => ?_⟩
    have g5 := e5.lst _ _ g4 (Ne.symm pD)
    have gA5 := gA4.ext e5
    have ho5 := e5.dk _ _ ho4 op
    have qo : ¬ q = o := fun z => hn5.2 _ (by rw [z]; exact ho4)
    refine ⟨ho5, [(.inr "months", .ref D), (.inr "longer", .str ms[r4].1), (.inr "rules", .ref q)], rfl, by show 3 ≤ 15; decide, ?_⟩
    rw [merge3 (by decide +kernel) (by decide +kernel) (by decide +kernel)]
    have e6 : Ext (TT K) (· = o) H5 (upd H5 o (.dK [(.inr "months", .ref D), (.inr "longer", .str ms[r4].1), (.inr "rules", .ref q)])) := Ext.setK ho5 rfl
    have mvn : ∀ x ∈ ms.map (·.1), ∃ k, k < 4 ∧ x = nmS k := fun x hx => by
      rw [gn] at hx
      obtain ⟨k, hk, rfl⟩ := List.mem_map.mp hx
      exact ⟨k, by have := List.mem_range.mp hk; omega, rfl⟩
    have mv : MsV ms ms[r4].1 := ⟨by omega, by omega, by rw [gn]; exact nm_nd _ (by omega), List.mem_map.mpr ⟨ms[r4], List.getElem_mem _, rfl⟩, fun m hm => by
      obtain ⟨k, hk, e⟩ := mvn m.1 (List.mem_map.mpr ⟨m, hm, rfl⟩)
      rw [e]
      exact nm_ok k hk, fun m hm => ⟨(g9 m hm).1, Nat.le_trans (g9 m hm).2 (by decide)⟩⟩
    refine hQ o ms ms[r4].1 rs _ ⟨⟨D, q, as, rts, OwnD.mk3 upd_same, e6.lst _ _ g5 oD, gA5.ext e6, e6.lst _ _ h5 qo, hT5.ext e6, Ne.symm pD, hqp⟩, op⟩ ⟨_, upd_same, Nat.le_refl _⟩ ⟨mv, by omega, fun m hm => (g9 m hm).2, ok, r12, fun m hm => by
      obtain ⟨k, hk, e⟩ := mvn m.1 (List.mem_map.mpr ⟨m, hm, rfl⟩)
      rw [e]
      exact nm_sok k hk⟩ (hd5.ext e6 (Ne.symm op)) ?_
    have e36 : Ext (TT K) (fun b => b = o ∨ b = p) H2 (upd H5 o (.dK [(.inr "months", .ref D), (.inr "longer", .str ms[r4].1), (.inr "rules", .ref q)])) := (e3.no.trans ((e4.trans e5).more fun b z => .inr z)).trans (e6.more fun b z => .inl z)
    exact E2.trans (e36.mono fun b z => z.elim (fun z => .inr (by rw [z]; exact hno)) .inl)
def spPlain (K : PySem.W.Frag) : Sp := fun vs H Q _ => vs = [] ∧ Gd (TT K) H ∧ ∀ H', Ext (TT K) No H H' → Q (.bl true) H'
end K60

set_option Elab.async false
set_option linter.all false
set_option maxRecDepth 100000
set_option maxHeartbeats 2000000
namespace K60
open PySem PySem.Spec PyProof.Rows L2 MB
local macro_rules | `(tactic| walk_at "s") => `(tactic| repeat (first | refine ⟨_, rfl, ?_⟩ | refine ⟨_, _, rfl, rfl, ?_⟩ | refine ⟨_, _, rfl, ?_⟩ | refine ⟨rfl, ?_⟩))
variable {P : Program} {w : World} {K : PySem.W.Frag} {mg : Str → Option Value} {base : Heap}
abbrev FE (K : PySem.W.Frag) : Value := .ref (He.ga K "FeastError")
abbrev FC (K : PySem.W.Frag) : Addr := He.ga K "Feast"
abbrev FsC (K : PySem.W.Frag) : Addr := He.ga K "Feasts"
/-! ### feasts -/
inductive FK where
  | fixed | nth | behind | moon | next
  deriving DecidableEq
def FK.str : FK → Str
  | .fixed => "fixed"
  | .nth => "nth"
  | .behind => "behind"
  | .moon => "moon"
  | .next => "next"
theorem FK.inj (k k2 : FK) : k.str = k2.str → k = k2 := by
  cases k <;> cases k2 <;> decide +kernel
def FK.size : FK → Nat
  | .nth => 3
  | _ => 2
structure Fe where
  name : Str
  kind : FK
  s : Str
  a : Int
  b : Int
def Fe.things (f : Fe) : List V := if f.kind = .nth then [.str f.s, .int f.a, .int f.b] else [.str f.s, .int f.a]
theorem Fe.things_len (f : Fe) : f.things.length = f.kind.size := by
  unfold Fe.things FK.size
  cases f.kind <;> rfl
def FeastAt (K : PySem.W.Frag) (H : Hp) (x : Addr) (f : Fe) : Prop := ∃ dx t, H x = some (.ins (FC K) dx [("name", .str f.name), ("kind", .str f.kind.str), ("things", .ref t)]) ∧ SqT K H t f.things
theorem FeastAt.ext {T : Tb} {M : Addr → Prop} {H H' : Hp} {x : Addr} {f : Fe} (h : FeastAt K H x f) (e : Ext T M H H') : FeastAt K H' x f := by
  obtain ⟨dx, t, h1, h2⟩ := h
  exact ⟨dx, t, e.fix _ _ h1 rfl, SqT.ext h2 e⟩
abbrev szsL : List (Key × V) := [(.inr "fixed", .int 2), (.inr "nth", .int 3), (.inr "behind", .int 2), (.inr "moon", .int 2), (.inr "next", .int 2)]
theorem szs_at (k : FK) : valV szsL (.inr k.str) = some (.int (k.size : Nat)) := by
  cases k <;> decide +kernel
theorem szs_not {x : Str} (h : ∀ k : FK, x ≠ k.str) : valV szsL (.inr x) = none := by
  have n : ∀ k : FK, ¬ ((.inr k.str : Key) = .inr x) := fun k e => h k (Sum.inr.inj e).symm
  exact (valV_neg (n .fixed)).trans ((valV_neg (n .nth)).trans ((valV_neg (n .behind)).trans ((valV_neg (n .moon)).trans ((valV_neg (n .next)).trans valV_nil))))
theorem merge_nd : ∀ (more acc : List (Key × V)), ((acc ++ more).map (·.1)).Nodup → mergeK acc more = acc ++ more
  | [], acc, _ => by rw [List.append_nil]; rfl
  | p :: more, acc, h => by
    have hn : valV acc p.1 = none := by
      cases e : valV acc p.1 with
      | none => rfl
      | some v =>
        have hm : p.1 ∈ acc.map (·.1) := by
          have q : (acc.any fun kv => decide (kv.1 = p.1)) = true := by rw [valV_any, e]; rfl
          obtain ⟨kv, h1, h2⟩ := List.any_eq_true.mp q
          exact List.mem_map.mpr ⟨kv, h1, of_decide_eq_true h2⟩
        rw [List.map_append, List.nodup_append] at h
        exact absurd rfl (h.2.2 p.1 hm p.1 (by simp))
    have e : mergeK acc (p :: more) = mergeK (putK acc p.1 p.2) more := rfl
    rw [e, putK_new p.2 hn, merge_nd more _ (by rw [List.append_assoc]; exact h), List.append_assoc]
    rfl
theorem szs_merge : mergeK [] szsL = szsL := merge_nd szsL [] (by decide +kernel)
/-- tuple(xs) of a list or a tuple -/
def rTupM (T : Tb) (K : PySem.W.Frag) : List V → Hp → VK → Prop := fun xs H Q => ∃ p ys, xs = [.ref p] ∧ (SqL K H p ys ∨ SqT K H p ys) ∧ ∀ l H2, SqT K H2 l ys → Ext T No H H2 → Q (.ref l) H2
theorem call_tupleM {X : Cx} {T : Tb} {K : PySem.W.Frag} (h : X.K = K) : CallR X (.type "tuple") (rTupM T K) := by
  subst h
  intro pins s σ H xs us Q I r ⟨p, ys, e, h1, q⟩
  exact call_tuple_of pins s σ H xs us Q I r ⟨p, ys, e, h1.elim (fun h1 => .inl ⟨h1, fun l hl => q l _ (SqT.of upd_same) (Ext.new hl)⟩) (fun h1 => .inr ⟨h1, q p H h1 .refl⟩)⟩
def FV (nm kd : Str) (n : Nat) : Prop := nm ≠ "" ∧ ∃ k : FK, kd = k.str ∧ n = k.size
def spFInit (K : PySem.W.Frag) : Sp := fun vs H Q E => ∃ (x dx q : Addr) (nm kd : Str) (ys : List V) (H0 : Hp), vs = [.ref x, .str nm, .str kd, .ref q] ∧ H0 x = none ∧ H0 dx = none ∧ dx ≠ x ∧ H = upd (upd H0 dx (.own x)) x (.ins (FC K) dx []) ∧
  (SqL K H0 q ys ∨ SqT K H0 q ys) ∧
  (FV nm kd ys.length → ∀ t H', H' x = some (.ins (FC K) dx [("name", .str nm), ("kind", .str kd), ("things", .ref t)]) → SqT K H' t ys → Ext (TT K) No H0 H' → Q .non H') ∧ (¬ FV nm kd ys.length → ∀ H', Ext (TT K) No H0 H' → E (FE K) none H')
theorem ok_Feast_init (T : Tx K mg base) : FnOk P w K mg base (L2.CX P w) 1 (He.fAd K ("Feast", some "__init__")) T.fd_Feast_init ["self", "name", "kind", "things"] (spFInit K) := by
  refine T.F_Feast_init.ok sc_Feast_init (fun vs H Q E h => ?_) (fun cdv A outer s H vs Q E hr h => ⟨_, (pss_cons (ps_set (i := 4) sc_Feast_init.nd rfl (Or.inl rfl) (pe_disp (pps_cons pe_str pe_int (pps_cons pe_str pe_int (pps_cons pe_str pe_int (pps_cons pe_str pe_int (pps_cons pe_str pe_int pps_nil))))) rfl rfl (by decide) (by decide)))
 (pss_cons (ps_if (PW.pt (pw_or (pt_cmpR op_eq (pv 1) pe_str (nomark _)) (pw_or (pt_cmp (pc_dnotin (Nat.lt_of_le_of_lt (Nat.add_le_add_left (by decide) _) hr.units) (pv 2) (pv 4)) (by with_unfolding_all rfl)) (pw_or1 (pt_cmpR op_ne (pe_callB (call_lenK (K := K) rfl) rfl T.b_len (by decide +kernel) (pa_cons (pv 3) pa_nil)) (pe_dget (Nat.lt_of_le_of_lt (Nat.add_le_add_left (by decide) _) hr.units) (pv 4) (pv 2) (fun _ _ => rfl)) (nomark _)))))) (pss_one (ps_raise rfl (takes_of rfl rfl rfl rfl) (pmk_own PySem.F.excBase_ValueError T.x_FeastError.1 T.g_FeastError T.x_FeastError.2.1 (raises_own T.x_FeastError.2.2.1 T.x_FeastError.2.2.2) rfl))) pss_nil)
 (pss_cons (ps_fld (pv 0) (pv 1) rfl)
 (pss_cons (ps_fld (pv 0) (pv 2) rfl)
 (pss_one (ps_fld (pv 0) (pe_callTy (call_tupleM (T := TT K) (K := K) rfl) rfl T.b_tuple (by decide +kernel) (pa_cons (pv 3) pa_nil)) rfl)))))), ?_⟩)
  · obtain ⟨x, dx, q, nm, kd, ys, H0, rfl, _⟩ := h
    rfl
  · obtain ⟨x, dx, q, nm, kd, ys, H0, rfl, hx, hdx, hne, rfl, hq, hQ, hE⟩ := h
    obtain ⟨Hs, hHs⟩ : ∃ Hs, Hs = upd (upd H0 dx (.own x)) x (.ins (FC K) dx []) := ⟨_, rfl⟩
    rw [← hHs]
    have exs : Ext (TT K) No H0 Hs := by
      rw [hHs]
      exact (Ext.new hdx).trans (Ext.new (by rw [upd_ne (Ne.symm hne)]; exact hx))
    have hxs : Hs x = some (.ins (FC K) dx []) := by rw [hHs]; exact upd_same
    clear hHs
    walk_at "s"
    intro D hD
    walk_at "s"
    refine ⟨upd_same, szsL, rfl, by decide, ?_⟩
    obtain ⟨H1, hH1⟩ : ∃ H1, H1 = upd (upd Hs D (.dK [])) D (.dK (mergeK [] szsL)) := ⟨_, rfl⟩
    rw [← hH1]
    have e1 : Ext (TT K) No Hs H1 := by
      rw [hH1]
      exact ((Ext.new hD).trans (Ext.setK (M := (· = D)) upd_same rfl)).mono1 (NoM.of hD)
    have hD1 : H1 D = some (.dK szsL) := by rw [hH1, upd_same, szs_merge]
    clear hH1
    have E1 := exs.trans e1
    have bad : ¬ FV nm kd ys.length → E (FE K) none H1 := fun z => hE z H1 E1
    have hq1 : SqL K H1 q ys ∨ SqT K H1 q ys := hq.elim (fun h => .inl (SqL.ext h E1 id)) (fun h => .inr (SqT.ext h E1))
    have hx1 := e1.fix _ _ hxs rfl
    walk_at "s"
    refine ifB (fun q1 => ?_) (fun q1 => ?_)
    · have q1 : nm = "" := by
        have q1 : decide (V.str nm = V.str "") = true := q1
        simpa using q1
      exact bad fun z => z.1 q1
    have q1 : nm ≠ "" := by
      have q1 : decide (V.str nm = V.str "") = false := q1
      simpa using q1
    walk_at "s"
    refine ⟨_, _, rfl, DGet.k (k := .inr kd) hD1, ?_⟩
    walk_at "s"
    refine ifB (fun q2 => ?_) (fun q2 => ?_)
    · refine bad fun z => ?_
      obtain ⟨_, k, hk, _⟩ := z
      rw [hk, szs_at] at q2
      cases q2
    obtain ⟨k, rfl⟩ : ∃ k : FK, kd = k.str := by
      by_cases z : ∃ k : FK, kd = k.str
      · exact z
      · rw [szs_not fun k e => z ⟨k, e⟩] at q2
        cases q2
    walk_at "s"
    refine ⟨_, _, rfl, hq1, ?_⟩
    walk_at "s"
    refine ⟨_, _, rfl, szs_at k ▸ DGet.k (k := .inr k.str) hD1, ?_⟩
    walk_at "s"
    refine ifB (fun q3 => ?_) (fun q3 => ?_)
    · refine bad fun z => ?_
      obtain ⟨_, k2, hk, hn⟩ := z
      have q3 : (!decide (V.int (ys.length : Nat) = V.int (k.size : Nat))) = true := q3
      rw [FK.inj _ _ hk, ← hn] at q3
      simp at q3
    have q3 : ys.length = k.size := by
      have q3 : (!decide (V.int (ys.length : Nat) = V.int (k.size : Nat))) = false := q3
      have q3 : ((ys.length : Nat) : Int) = (k.size : Nat) := by simpa using q3
      exact Int.ofNat_inj.mp q3
    have hQ := hQ ⟨q1, k, rfl, q3⟩
    have wr : ∀ {Ha Hb : Hp} {C d : Addr} {fs fs' : List (Str × V)}, Ext (TT K) No H0 Ha → Ha x = some (.ins C d fs) → Hb = upd Ha x (.ins C d fs') → Ext (TT K) No H0 Hb ∧ Hb x = some (.ins C d fs') := fun e h hb => by
      subst hb
      exact ⟨Ext.fld e hx h, upd_same⟩
    clear bad hE hq1 e1 hD1 hxs exs
    walk_at "s"
    refine ⟨_, _, _, _, rfl, hx1, T.c_Feast, T.na_Feast_name, by simp, ?_⟩
    obtain ⟨H2, hH2⟩ : ∃ H2, H2 = upd H1 x (.ins (FC K) dx (putF "name" (.str nm) [])) := ⟨_, rfl⟩
    rw [← hH2]
    obtain ⟨E2, hx2⟩ := wr E1 hx1 hH2
    clear hH2
    walk_at "s"
    refine ⟨_, _, _, _, rfl, hx2, T.c_Feast, T.na_Feast_kind, (show (1 : Nat) < 1000 by decide), ?_⟩
    obtain ⟨H3, hH3⟩ : ∃ H3, H3 = upd H2 x (.ins (FC K) dx (putF "kind" (.str k.str) (putF "name" (.str nm) []))) := ⟨_, rfl⟩
    rw [← hH3]
    obtain ⟨E3, hx3⟩ := wr E2 hx2 hH3
    clear hH3
    walk_at "s"
    refine ⟨_, _, rfl, hq.elim (fun h => .inl (SqL.ext h E3 id)) (fun h => .inr (SqT.ext h E3)), fun t H4 ht e4 => ?_⟩
    have hx4 := e4.fix _ _ hx3 rfl
    have E4 := E3.trans e4
    walk_at "s"
    refine ⟨_, _, _, _, rfl, hx4, T.c_Feast, T.na_Feast_things, (show (2 : Nat) < 1000 by decide), ?_⟩
    obtain ⟨H5, hH5⟩ : ∃ H5, H5 = upd H4 x (.ins (FC K) dx (putF "things" (.ref t) (putF "kind" (.str k.str) (putF "name" (.str nm) [])))) := ⟨_, rfl⟩
    rw [← hH5]
    obtain ⟨E5, hx5⟩ := wr E4 hx4 hH5
    have ht5 : SqT K H5 t ys := by
      rcases ht with (h | ⟨o, h⟩) | h
      · exact .inl (.inl (by rw [hH5, upd_ne (fun z => by rw [z, hx4] at h; cases h)]; exact h))
      · exact .inl (.inr ⟨o, by rw [hH5, upd_ne (fun z => by rw [z, hx4] at h; cases h)]; exact h⟩)
      · exact .inr h
    exact hQ t H5 hx5 ht5 E5
end K60

set_option Elab.async false
set_option linter.all false
set_option maxRecDepth 100000
set_option maxHeartbeats 2000000
namespace K60
open PySem PySem.Spec PyProof.Rows L2 MB
local macro_rules | `(tactic| walk_at "s") => `(tactic| repeat (first | refine ⟨_, rfl, ?_⟩ | refine ⟨_, _, rfl, rfl, ?_⟩ | refine ⟨_, _, rfl, ?_⟩ | refine ⟨rfl, ?_⟩))
variable {P : Program} {w : World} {K : PySem.W.Frag} {mg : Str → Option Value} {base : Heap}
/-! ### Feasts.__init__ -/
def kvF (fs : List Fe) (as : List Addr) : List (Key × V) := (fs.zip as).map fun p => ((.inr p.1.name : Key), V.ref p.2)
structure FsD (K : PySem.W.Frag) (H : Hp) (fq : Addr) (fs : List Fe) (as : List Addr) : Prop where
  len : as.length = fs.length
  rd : Rd H fq (.dK (kvF fs as))
  each : ∀ (i : Nat) (f : Fe) (a : Addr), fs[i]? = some f → as[i]? = some a → FeastAt K H a f
theorem FsD.ext {T : Tb} {M : Addr → Prop} {H H' : Hp} {fq : Addr} {fs : List Fe} {as : List Addr} (h : FsD K H fq fs as) (e : Ext T M H H') (n : ¬ M fq) : FsD K H' fq fs as :=
  ⟨h.len, h.rd.elim (fun z => .inl (e.dk _ _ z n)) (fun ⟨o, z⟩ => .inr ⟨o, e.frz _ _ _ z⟩), fun i f a h1 h2 => (h.each i f a h1 h2).ext e⟩
def FeastsAt (K : PySem.W.Frag) (H : Hp) (x c : Addr) (mo : V) (W f : Int) (fq : Addr) : Prop := ∃ dx, H x = some (.ins (FsC K) dx [("calendar", .ref c), ("moons", mo), ("week", .int W), ("first", .int f), ("feasts", .ref fq)])
theorem FeastsAt.ext {T : Tb} {M : Addr → Prop} {H H' : Hp} {x c : Addr} {mo : V} {W f : Int} {fq : Addr} (h : FeastsAt K H x c mo W f fq) (e : Ext T M H H') : FeastsAt K H' x c mo W f fq := by
  obtain ⟨dx, h⟩ := h
  exact ⟨dx, e.fix _ _ h rfl⟩
def FsV (W f : Int) : Prop := 1 ≤ W ∧ W ≤ 60 ∧ 0 ≤ f ∧ f < W
def spFsInit (K : PySem.W.Frag) : Sp := fun vs H Q E => ∃ (x dx c : Addr) (mo : V) (W f : Int) (H0 : Hp), vs = [.ref x, .ref c, mo, .int W, .int f] ∧ H0 x = none ∧ H0 dx = none ∧ dx ≠ x ∧ H = upd (upd H0 dx (.own x)) x (.ins (FsC K) dx []) ∧
  (FsV W f → ∀ fq H', FeastsAt K H' x c mo W f fq → H' fq = some (.dK []) → NoM H0 fq → Ext (TT K) No H0 H' → Q .non H') ∧ (¬ FsV W f → ∀ H', Ext (TT K) No H0 H' → E (FE K) none H')
theorem ok_Feasts_init (T : Tx K mg base) : FnOk P w K mg base (L2.CX P w) 1 (He.fAd K ("Feasts", some "__init__")) T.fd_Feasts_init ["self", "calendar", "moons", "week", "first"] (spFsInit K) := by
  refine T.F_Feasts_init.ok sc_Feasts_init (fun vs H Q E h => ?_) (fun cdv A outer s H vs Q E hr h => ⟨_, (pss_cons (ps_if (PW.pt (pw_or (pt_not (pt_chain op_le op_le pe_int (pv 3) pe_int)) (pw_or1 (pt_not (pt_chain op_le op_lt pe_int (pv 4) (pv 3)))))) (pss_one (ps_raise rfl (takes_of rfl rfl rfl rfl) (pmk_own PySem.F.excBase_ValueError T.x_FeastError.1 T.g_FeastError T.x_FeastError.2.1 (raises_own T.x_FeastError.2.2.1 T.x_FeastError.2.2.2) rfl))) pss_nil)
 (pss_cons (ps_fld (pv 0) (pv 1) rfl)
 (pss_cons (ps_fld (pv 0) (pv 2) rfl)
 (pss_cons (ps_fld (pv 0) (pv 3) rfl)
 (pss_cons (ps_fld (pv 0) (pv 4) rfl)
 (pss_one (ps_fld (pv 0) pe_dnewK rfl))))))), ?_⟩)
  · obtain ⟨x, dx, c, mo, W, f, H0, rfl, _⟩ := h
    rfl
  · obtain ⟨x, dx, c, mo, W, f, H0, rfl, hx, hdx, hne, rfl, hQ, hE⟩ := h
    obtain ⟨Hs, hHs⟩ : ∃ Hs, Hs = upd (upd H0 dx (.own x)) x (.ins (FsC K) dx []) := ⟨_, rfl⟩
    rw [← hHs]
    have exs : Ext (TT K) No H0 Hs := by
      rw [hHs]
      exact (Ext.new hdx).trans (Ext.new (by rw [upd_ne (Ne.symm hne)]; exact hx))
    have hxs : Hs x = some (.ins (FsC K) dx []) := by rw [hHs]; exact upd_same
    clear hHs
    have bad : ¬ FsV W f → E (FE K) none Hs := fun z => hE z Hs exs
    by_cases ok : FsV W f
    · have hQ := hQ ok
      obtain ⟨w1, w2, w3, w4⟩ := ok
      have wr : ∀ {Ha Hb : Hp} {C d : Addr} {fs fs' : List (Str × V)}, Ext (TT K) No H0 Ha → Ha x = some (.ins C d fs) → Hb = upd Ha x (.ins C d fs') → Ext (TT K) No H0 Hb ∧ Hb x = some (.ins C d fs') := fun e h hb => by
        subst hb
        exact ⟨Ext.fld e hx h, upd_same⟩
      clear bad hE
      walk_at "s"
      refine ifB (fun _ => ?_) (fun z => absurd w1 (of_decide_eq_false z))
      walk_at "s"
      refine ifB (fun z => absurd z (by simp [w2])) (fun _ => ?_)
      walk_at "s"
      refine ifB (fun _ => ?_) (fun z => absurd w3 (of_decide_eq_false z))
      walk_at "s"
      refine ifB (fun z => absurd z (by simp [w4])) (fun _ => ?_)
      walk_at "s"
      refine ⟨_, _, _, _, rfl, hxs, T.c_Feasts, T.na_Feasts_calendar, by simp, ?_⟩
      obtain ⟨H2, hH2⟩ : ∃ H2, H2 = upd Hs x (.ins (FsC K) dx (putF "calendar" (.ref c) [])) := ⟨_, rfl⟩
      rw [← hH2]
      obtain ⟨E2, hx2⟩ := wr exs hxs hH2
      clear hH2
      walk_at "s"
      refine ⟨_, _, _, _, rfl, hx2, T.c_Feasts, T.na_Feasts_moons, (show (1 : Nat) < 1000 by decide), ?_⟩
      obtain ⟨H3, hH3⟩ : ∃ H3, H3 = upd H2 x (.ins (FsC K) dx (putF "moons" mo (putF "calendar" (.ref c) []))) := ⟨_, rfl⟩
      rw [← hH3]
      obtain ⟨E3, hx3⟩ := wr E2 hx2 hH3
      clear hH3
      walk_at "s"
      refine ⟨_, _, _, _, rfl, hx3, T.c_Feasts, T.na_Feasts_week, (show (2 : Nat) < 1000 by decide), ?_⟩
      obtain ⟨H4, hH4⟩ : ∃ H4, H4 = upd H3 x (.ins (FsC K) dx (putF "week" (.int W) (putF "moons" mo (putF "calendar" (.ref c) [])))) := ⟨_, rfl⟩
      rw [← hH4]
      obtain ⟨E4, hx4⟩ := wr E3 hx3 hH4
      clear hH4
      walk_at "s"
      refine ⟨_, _, _, _, rfl, hx4, T.c_Feasts, T.na_Feasts_first, (show (3 : Nat) < 1000 by decide), ?_⟩
      obtain ⟨H5, hH5⟩ : ∃ H5, H5 = upd H4 x (.ins (FsC K) dx (putF "first" (.int f) (putF "week" (.int W) (putF "moons" mo (putF "calendar" (.ref c) []))))) := ⟨_, rfl⟩
      rw [← hH5]
      obtain ⟨E5, hx5⟩ := wr E4 hx4 hH5
      clear hH5
      walk_at "s"
      intro fq hfq
      have nfq := E5.fresh hfq
      have e6 : Ext (TT K) No H5 (upd H5 fq (.dK [])) := Ext.new hfq
      have E6 := E5.trans e6
      have hx6 := e6.fix _ _ hx5 rfl
      have hf6 : upd H5 fq (.dK []) fq = some (.dK []) := upd_same
      generalize upd H5 fq (.dK []) = H6 at e6 E6 hx6 hf6
      walk_at "s"
      refine ⟨_, _, _, _, rfl, hx6, T.c_Feasts, T.na_Feasts_feasts, (show (4 : Nat) < 1000 by decide), ?_⟩
      obtain ⟨H7, hH7⟩ : ∃ H7, H7 = upd H6 x (.ins (FsC K) dx (putF "feasts" (.ref fq) (putF "first" (.int f) (putF "week" (.int W) (putF "moons" mo (putF "calendar" (.ref c) [])))))) := ⟨_, rfl⟩
      rw [← hH7]
      obtain ⟨E7, hx7⟩ := wr E6 hx6 hH7
      refine hQ fq H7 ⟨dx, hx7⟩ ?_ nfq E7
      rw [hH7, upd_ne (fun z => by rw [z, hx6] at hf6; cases hf6)]
      exact hf6
    · walk_at "s"
      refine ifB (fun q1 => ?_) (fun q1 => ?_)
      · walk_at "s"
        refine ifB (fun q2 => bad ok) (fun q2 => ?_)
        walk_at "s"
        refine ifBr (fun q3 => ?_) (fun q3 => ?_)
        · walk_at "s"
          exact bad ok
        walk_at "s"
        refine ifB (fun q4 => bad ok) (fun q4 => absurd ⟨of_decide_eq_true q1, by simpa using q2, of_decide_eq_true q3, by simpa using q4⟩ ok)
      · walk_at "s"
        exact bad ok
end K60

set_option Elab.async false
set_option linter.all false
set_option maxRecDepth 100000
set_option maxHeartbeats 2000000
namespace K60
open PySem PySem.Spec PyProof.Rows L2 MB
local macro_rules | `(tactic| walk_at "s") => `(tactic| repeat (first | refine ⟨_, rfl, ?_⟩ | refine ⟨_, _, rfl, rfl, ?_⟩ | refine ⟨_, _, rfl, ?_⟩ | refine ⟨rfl, ?_⟩))
variable {P : Program} {w : World} {K : PySem.W.Frag} {mg : Str → Option Value} {base : Heap}
/-! ### Feasts.weekday -/
def spWd (K : PySem.W.Frag) : Sp := fun vs H Q _ => ∃ (x c fq : Addr) (mo : V) (W f d : Int), vs = [.ref x, .int d] ∧ FeastsAt K H x c mo W f fq ∧ 1 ≤ W ∧ Q (.int ((d + f) % W)) H
theorem ok_Feasts_weekday (T : Tx K mg base) : FnOk P w K mg base (L2.CX P w) 1 (He.fAd K ("Feasts", some "weekday")) T.fd_Feasts_weekday ["self", "day"] (spWd K) := by
  refine T.F_Feasts_weekday.ok sc_Feasts_weekday (fun vs H Q E h => ?_) (fun cdv A outer s H vs Q E hr h => ⟨_, (pss_one (ps_ret (pe_op op_mod (pe_op op_add (pv 1) (pe_fldK (K := K) rfl (pv 0) rfl)) (pe_fldK (K := K) rfl (pv 0) rfl)))), ?_⟩)
  · obtain ⟨x, c, fq, mo, W, f, d, rfl, _⟩ := h
    rfl
  · obtain ⟨x, c, fq, mo, W, f, d, rfl, ⟨dx, hx⟩, w1, hQ⟩ := h
    walk_at "s"
    refine ⟨_, _, _, _, _, rfl, hx, T.c_Feasts, T.na_Feasts_first, rfl, ?_⟩
    walk_at "s"
    refine ⟨_, _, _, _, _, rfl, hx, T.c_Feasts, T.na_Feasts_week, rfl, ?_⟩
    walk_at "s"
    refine ⟨by omega, ?_⟩
    walk_at "s"
    exact hQ
/-! ### Feasts.add -/
theorem kvF_names {fs : List Fe} {as : List Addr} (h : as.length = fs.length) : (kvF fs as).map (·.1) = fs.map fun f => (.inr f.name : Key) := by
  unfold kvF
  rw [List.map_map]
  have e : (fs.zip as).map Prod.fst = fs := List.map_fst_zip (Nat.le_of_eq h.symm)
  have e2 : (fs.zip as).map ((fun f : Fe => (.inr f.name : Key)) ∘ Prod.fst) = fs.map fun f => (.inr f.name : Key) := by rw [← List.map_map, e]
  exact e2
theorem kvF_some {fs : List Fe} {as : List Addr} (h : as.length = fs.length) (x : Str) : (valV (kvF fs as) (.inr x)).isSome = decide (x ∈ fs.map (·.name)) := by
  rw [← valV_any, Bool.eq_iff_iff, List.any_eq_true, decide_eq_true_iff]
  constructor
  · rintro ⟨kv, h1, h2⟩
    have h3 : (.inr x : Key) ∈ (kvF fs as).map (·.1) := List.mem_map.mpr ⟨kv, h1, of_decide_eq_true h2⟩
    rw [kvF_names h] at h3
    obtain ⟨f, hf, e⟩ := List.mem_map.mp h3
    exact List.mem_map.mpr ⟨f, hf, Sum.inr.inj e⟩
  · intro h1
    obtain ⟨f, hf, rfl⟩ := List.mem_map.mp h1
    have h3 : (.inr f.name : Key) ∈ (kvF fs as).map (·.1) := by rw [kvF_names h]; exact List.mem_map.mpr ⟨f, hf, rfl⟩
    obtain ⟨kv, h4, e⟩ := List.mem_map.mp h3
    exact ⟨kv, h4, decide_eq_true e⟩
theorem kvF_len {fs : List Fe} {as : List Addr} (h : as.length = fs.length) : (kvF fs as).length = fs.length := by
  unfold kvF
  rw [List.length_map, List.length_zip]
  omega
theorem valV_nd : ∀ {kvs : List (Key × V)} {i : Nat} {p : Key × V}, (kvs.map (·.1)).Nodup → kvs[i]? = some p → valV kvs p.1 = some p.2
  | [], i, p, _, h => by simp at h
  | q :: kvs, 0, p, _, h => by
    cases h
    exact valV_pos rfl
  | q :: kvs, i + 1, p, nd, h => by
    have nd2 := List.nodup_cons.mp nd
    have h : kvs[i]? = some p := h
    have hne : ¬ q.1 = p.1 := fun z => nd2.1 (List.mem_map.mpr ⟨p, List.mem_of_getElem? h, z.symm⟩)
    rw [valV_neg hne]
    exact valV_nd nd2.2 h
theorem kvF_get {fs : List Fe} {as : List Addr} {i : Nat} {f : Fe} {a : Addr} (h1 : fs[i]? = some f) (h2 : as[i]? = some a) : (kvF fs as)[i]? = some (.inr f.name, .ref a) := by
  unfold kvF
  rw [List.getElem?_map]
  have e : (fs.zip as)[i]? = some (f, a) := List.getElem?_zip_eq_some.mpr ⟨h1, h2⟩
  rw [e]
  rfl
theorem kvF_at {fs : List Fe} {as : List Addr} (h : as.length = fs.length) (nd : (fs.map (·.name)).Nodup) {i : Nat} {f : Fe} {a : Addr} (h1 : fs[i]? = some f) (h2 : as[i]? = some a) : valV (kvF fs as) (.inr f.name) = some (.ref a) := by
  refine valV_nd (i := i) (p := (.inr f.name, .ref a)) ?_ (kvF_get h1 h2)
  rw [kvF_names h]
  have e : (fs.map fun f => (.inr f.name : Key)) = (fs.map (·.name)).map fun x => (.inr x : Key) := by rw [List.map_map]; rfl
  rw [e]
  exact List.Pairwise.map _ (fun a b hab e => hab (Sum.inr.inj e)) nd
theorem kvF_snoc {fs : List Fe} {as : List Addr} (h : as.length = fs.length) (f : Fe) (a : Addr) : kvF (fs ++ [f]) (as ++ [a]) = kvF fs as ++ [(.inr f.name, .ref a)] := by
  unfold kvF
  rw [List.zip_append h.symm, List.map_append]
  rfl
structure AddV (fs : List Fe) (mo : V) (f : Fe) : Prop where
  new : f.name ∉ fs.map (·.name)
  most : fs.length < 40
  dep : f.kind = .behind ∨ f.kind = .next → f.s ∈ fs.map (·.name)
  moon : f.kind = .moon → mo ≠ .non
def spAdd (K : PySem.W.Frag) : Sp := fun vs H Q E => ∃ (x c fq a : Addr) (mo : V) (W f : Int) (fs : List Fe) (as : List Addr) (fe : Fe), vs = [.ref x, .ref a] ∧ FeastsAt K H x c mo W f fq ∧ FsD K H fq fs as ∧ H fq = some (.dK (kvF fs as)) ∧ FeastAt K H a fe ∧ (mo = .non ∨ ∃ m, mo = .ref m) ∧ fs.length ≤ 40 ∧
  (AddV fs mo fe → ∀ H', FsD K H' fq (fs ++ [fe]) (as ++ [a]) → H' fq = some (.dK (kvF (fs ++ [fe]) (as ++ [a]))) → Ext (TT K) (· = fq) H H' → Q .non H') ∧
  (¬ AddV fs mo fe → ∀ H', Ext (TT K) No H H' → E (FE K) none H')
theorem ok_Feasts_add (T : Tx K mg base) : FnOk P w K mg base (L2.CX P w) 1 (He.fAd K ("Feasts", some "add")) T.fd_Feasts_add ["self", "feast"] (spAdd K) := by
  refine T.F_Feasts_add.ok sc_Feasts_add (fun vs H Q E h => ?_) (fun cdv A outer s H vs Q E hr h => ⟨_, (pss_cons (ps_if (PW.pt (pw_or (pt_cmp (pc_din (Nat.lt_of_le_of_lt (Nat.add_le_add_left (by decide) _) hr.units) (pe_fldK (K := K) rfl (pv 1) rfl) (pe_fldK (K := K) rfl (pv 0) rfl)) (by with_unfolding_all rfl)) (pw_or1 (pt_cmpR op_ge (pe_callB call_lenD rfl T.b_len (by decide +kernel) (pa_cons (pe_fldK (K := K) rfl (pv 0) rfl) pa_nil)) (pe_glob (v := .int 40) rfl T.i_MOST_FEASTS.choose_spec ⟨_, rfl⟩) (nomark _))))) (pss_one (ps_raise rfl (takes_of rfl rfl rfl rfl) (pmk_own PySem.F.excBase_ValueError T.x_FeastError.1 T.g_FeastError T.x_FeastError.2.1 (raises_own T.x_FeastError.2.2.1 T.x_FeastError.2.2.2) rfl))) pss_nil)
 (pss_cons (ps_if (PW.pt (pw_and (pt_cmpR op_in_seq (pe_fldK (K := K) rfl (pv 1) rfl) (pe_tupN (T := TT K) (pa_cons pe_str (pa_cons pe_str pa_nil))) (by with_unfolding_all rfl)) (pw_and1 (pt_cmp (pc_dnotin (Nat.lt_of_le_of_lt (Nat.add_le_add_left (by decide) _) hr.units) (pe_ix (ix_tupK (K := K) rfl) (pe_fldK (K := K) rfl (pv 1) rfl) pe_int (fun _ _ => rfl)) (pe_fldK (K := K) rfl (pv 0) rfl)) (by with_unfolding_all rfl))))) (pss_one (ps_raise rfl (takes_of rfl rfl rfl rfl) (pmk_own PySem.F.excBase_ValueError T.x_FeastError.1 T.g_FeastError T.x_FeastError.2.1 (raises_own T.x_FeastError.2.2.1 T.x_FeastError.2.2.2) rfl))) pss_nil)
 (pss_cons (ps_if (PW.pt (pw_and (pt_cmpR op_eq (pe_fldK (K := K) rfl (pv 1) rfl) pe_str (nomark _)) (pw_and1 (pt_cmpR op_isN (pe_fldK (K := K) rfl (pv 0) rfl) pe_non (nomark _))))) (pss_one (ps_raise rfl (takes_of rfl rfl rfl rfl) (pmk_own PySem.F.excBase_ValueError T.x_FeastError.1 T.g_FeastError T.x_FeastError.2.1 (raises_own T.x_FeastError.2.2.1 T.x_FeastError.2.2.2) rfl))) pss_nil)
 (pss_one (ps_asg (pv 1) (pg_sub (pe_fldK (K := K) rfl (pv 0) rfl) (pe_fldK (K := K) rfl (pv 1) rfl) (set_dict (Nat.lt_of_le_of_lt (Nat.add_le_add_left (by decide) _) hr.units)))))))), ?_⟩)
  · obtain ⟨x, c, fq, a, mo, W, f, fs, as, fe, rfl, _⟩ := h
    rfl
  · obtain ⟨x, c, fq, a, mo, W, f, fs, as, fe, rfl, hX, hD, hfq, hF, hmo, h40, hQ, hE⟩ := h
    obtain ⟨dx, hx⟩ := id hX
    obtain ⟨dx2, t, ha, ht⟩ := id hF
    have hl := hD.len
    walk_at "s"
    refine ⟨_, _, _, _, _, rfl, ha, T.c_Feast, T.na_Feast_name, rfl, ?_⟩
    walk_at "s"
    refine ⟨_, _, _, _, _, rfl, hx, T.c_Feasts, T.na_Feasts_feasts, rfl, ?_⟩
    walk_at "s"
    refine ⟨_, _, rfl, DGet.k (k := .inr fe.name) hfq, ?_⟩
    rw [kvF_some hl]
    walk_at "s"
    refine ifB (fun q1 => ?_) (fun q1 => ?_)
    · walk_at "s"
      exact hE (fun z => z.new (of_decide_eq_true q1)) H .refl
    have q1 := of_decide_eq_false q1
    walk_at "s"
    refine ⟨_, _, _, _, _, rfl, hx, T.c_Feasts, T.na_Feasts_feasts, rfl, ?_⟩
    walk_at "s"
    refine ⟨_, _, rfl, hfq, ?_⟩
    rw [kvF_len hl]
    walk_at "s"
    refine ifB (fun q2 => ?_) (fun q2 => ?_)
    · have q2 : (40 : Int) ≤ (fs.length : Nat) := of_decide_eq_true q2
      walk_at "s"
      exact hE (fun z => by have := z.most; omega) H .refl
    have q2 : ¬ (40 : Int) ≤ (fs.length : Nat) := of_decide_eq_false q2
    walk_at "s"
    refine ⟨_, _, _, _, _, rfl, ha, T.c_Feast, T.na_Feast_kind, rfl, ?_⟩
    walk_at "s"
    refine ⟨sz, fun t1 H1 ht1 hv1 e1 => ?_⟩
    refine ⟨t1, _, rfl, .inr (SqT.of hv1), rfl, rfl, ?_⟩
    have hb1 : (if false = true then !inV (V.str fe.kind.str) [V.str "behind", V.str "next"] else inV (V.str fe.kind.str) [V.str "behind", V.str "next"]) = decide (fe.kind = .behind ∨ fe.kind = .next) := by
      cases fe.kind <;> decide +kernel
    rw [hb1]
    have hx1 := e1.fix _ _ hx rfl
    have ha1 := e1.fix _ _ ha rfl
    have ht1' := SqT.ext ht e1
    have hfq1 := e1.dk _ _ hfq id
    have hD1 := hD.ext e1 id
    have hF1 := hF.ext e1
    have hput : putK (kvF fs as) (.inr fe.name) (.ref a) = kvF (fs ++ [fe]) (as ++ [a]) := by
      have hn : valV (kvF fs as) (.inr fe.name) = none := by
        have z := kvF_some hl fe.name
        rw [decide_eq_false q1] at z
        cases e : valV (kvF fs as) (.inr fe.name) with
        | none => rfl
        | some v => rw [e] at z; cases z
      rw [putK_new _ hn, kvF_snoc hl]
    have fin : ∀ H2, H2 = upd H1 fq (.dK (kvF (fs ++ [fe]) (as ++ [a]))) → FsD K H2 fq (fs ++ [fe]) (as ++ [a]) := fun H2 h2 => by
      have e2 : Ext (TT K) (· = fq) H1 H2 := by rw [h2]; exact Ext.setK hfq1 rfl
      refine ⟨by simp [hl], .inl (by rw [h2, upd_same]), fun i f' a' g1 g2 => ?_⟩
      rcases Nat.lt_or_ge i fs.length with z | z
      · rw [List.getElem?_append_left z] at g1
        rw [List.getElem?_append_left (by omega)] at g2
        exact (hD1.each i f' a' g1 g2).ext e2
      · have hi : i = fs.length := by
          have := (List.getElem?_eq_some_iff.mp g1).1
          rw [List.length_append] at this
          simp at this
          omega
        subst hi
        rw [List.getElem?_append_right (Nat.le_refl _), Nat.sub_self] at g1
        rw [List.getElem?_append_right (by omega)] at g2
        have z2 : fs.length - as.length = 0 := by omega
        rw [z2] at g2
        cases g1
        cases g2
        exact hF1.ext e2
    walk_at "s"
    refine ifB (fun q3 => ?_) (fun q3 => ?_)
    · have q3 := of_decide_eq_true q3
      have hat : atI fe.things 0 = some (.str fe.s) := by
        unfold Fe.things
        split <;> rfl
      walk_at "s"
      refine ⟨_, _, _, _, _, rfl, ha1, T.c_Feast, T.na_Feast_things, rfl, ?_⟩
      walk_at "s"
      refine ⟨_, _, _, _, rfl, rfl, ht1', hat, ?_⟩
      walk_at "s"
      refine ⟨_, _, _, _, _, rfl, hx1, T.c_Feasts, T.na_Feasts_feasts, rfl, ?_⟩
      walk_at "s"
      refine ⟨_, _, rfl, DGet.k (k := .inr fe.s) hfq1, ?_⟩
      rw [kvF_some hl]
      walk_at "s"
      refine ifB (fun q4 => ?_) (fun q4 => ?_)
      · walk_at "s"
        have q4 : fe.s ∉ fs.map (·.name) := by simpa using q4
        exact hE (fun z => q4 (z.dep q3)) H1 e1
      have hdep : fe.kind = .behind ∨ fe.kind = .next → fe.s ∈ fs.map (·.name) := fun _ => by simpa using q4
      walk_at "s"
      refine ⟨_, _, _, _, _, rfl, ha1, T.c_Feast, T.na_Feast_kind, rfl, ?_⟩
      walk_at "s"
      refine ifB (fun q5 => ?_) (fun q5 => ?_)
      · have km : fe.kind = .moon := by
          have q5 : decide (V.str fe.kind.str = V.str FK.moon.str) = true := q5
          exact FK.inj _ _ (by simpa using q5)
        walk_at "s"
        refine ⟨_, _, _, _, _, rfl, hx1, T.c_Feasts, T.na_Feasts_moons, rfl, ?_⟩
        walk_at "s"
        refine ifB (fun q6 => ?_) (fun q6 => ?_)
        · walk_at "s"
          exact hE (fun z => z.moon km (of_decide_eq_true q6)) H1 e1
        have hmoon : fe.kind = .moon → mo ≠ .non := fun _ => of_decide_eq_false q6
        walk_at "s"
        refine ⟨_, _, _, _, _, rfl, hx1, T.c_Feasts, T.na_Feasts_feasts, rfl, ?_⟩
        walk_at "s"
        refine ⟨_, _, _, _, _, rfl, ha1, T.c_Feast, T.na_Feast_name, rfl, ?_⟩
        walk_at "s"
        refine ⟨fq, _, rfl, .inl ⟨_, .inr fe.name, hfq1, rfl, by rw [kvF_len hl]; exact szl (by omega), rfl⟩, ?_⟩
        rw [hput]
        exact hQ ⟨q1, by omega, hdep, hmoon⟩ _ (fin _ rfl) upd_same (e1.no.trans (Ext.setK hfq1 rfl))
      have hmoon : fe.kind = .moon → mo ≠ .non := fun km => by
        have q5 : decide (V.str fe.kind.str = V.str FK.moon.str) = false := q5
        rw [km] at q5
        simp at q5
      walk_at "s"
      refine ⟨_, _, _, _, _, rfl, hx1, T.c_Feasts, T.na_Feasts_feasts, rfl, ?_⟩
      walk_at "s"
      refine ⟨_, _, _, _, _, rfl, ha1, T.c_Feast, T.na_Feast_name, rfl, ?_⟩
      walk_at "s"
      refine ⟨fq, _, rfl, .inl ⟨_, .inr fe.name, hfq1, rfl, by rw [kvF_len hl]; exact szl (by omega), rfl⟩, ?_⟩
      rw [hput]
      exact hQ ⟨q1, by omega, hdep, hmoon⟩ _ (fin _ rfl) upd_same (e1.no.trans (Ext.setK hfq1 rfl))
    have hdep : fe.kind = .behind ∨ fe.kind = .next → fe.s ∈ fs.map (·.name) := fun z => absurd z (of_decide_eq_false q3)
    walk_at "s"
    refine ⟨_, _, _, _, _, rfl, ha1, T.c_Feast, T.na_Feast_kind, rfl, ?_⟩
    walk_at "s"
    refine ifB (fun q5 => ?_) (fun q5 => ?_)
    · have km : fe.kind = .moon := by
        have q5 : decide (V.str fe.kind.str = V.str FK.moon.str) = true := q5
        exact FK.inj _ _ (by simpa using q5)
      walk_at "s"
      refine ⟨_, _, _, _, _, rfl, hx1, T.c_Feasts, T.na_Feasts_moons, rfl, ?_⟩
      walk_at "s"
      refine ifB (fun q6 => ?_) (fun q6 => ?_)
      · walk_at "s"
        exact hE (fun z => z.moon km (of_decide_eq_true q6)) H1 e1
      have hmoon : fe.kind = .moon → mo ≠ .non := fun _ => of_decide_eq_false q6
      walk_at "s"
      refine ⟨_, _, _, _, _, rfl, hx1, T.c_Feasts, T.na_Feasts_feasts, rfl, ?_⟩
      walk_at "s"
      refine ⟨_, _, _, _, _, rfl, ha1, T.c_Feast, T.na_Feast_name, rfl, ?_⟩
      walk_at "s"
      refine ⟨fq, _, rfl, .inl ⟨_, .inr fe.name, hfq1, rfl, by rw [kvF_len hl]; exact szl (by omega), rfl⟩, ?_⟩
      rw [hput]
      exact hQ ⟨q1, by omega, hdep, hmoon⟩ _ (fin _ rfl) upd_same (e1.no.trans (Ext.setK hfq1 rfl))
    have hmoon : fe.kind = .moon → mo ≠ .non := fun km => by
      have q5 : decide (V.str fe.kind.str = V.str FK.moon.str) = false := q5
      rw [km] at q5
      simp at q5
    walk_at "s"
    refine ⟨_, _, _, _, _, rfl, hx1, T.c_Feasts, T.na_Feasts_feasts, rfl, ?_⟩
    walk_at "s"
    refine ⟨_, _, _, _, _, rfl, ha1, T.c_Feast, T.na_Feast_name, rfl, ?_⟩
    walk_at "s"
    refine ⟨fq, _, rfl, .inl ⟨_, .inr fe.name, hfq1, rfl, by rw [kvF_len hl]; exact szl (by omega), rfl⟩, ?_⟩
    rw [hput]
    exact hQ ⟨q1, by omega, hdep, hmoon⟩ _ (fin _ rfl) upd_same (e1.no.trans (Ext.setK hfq1 rfl))
end K60

set_option Elab.async false
set_option linter.all false
set_option maxRecDepth 100000
set_option maxHeartbeats 2000000
namespace K60
open PySem PySem.Spec PyProof.Rows L2 MB
local macro_rules | `(tactic| walk_at "s") => `(tactic| repeat (first | refine ⟨_, rfl, ?_⟩ | refine ⟨_, _, rfl, rfl, ?_⟩ | refine ⟨_, _, rfl, ?_⟩ | refine ⟨rfl, ?_⟩))
variable {P : Program} {w : World} {K : PySem.W.Frag} {mg : Str → Option Value} {base : Heap}
/-! ### Feasts.full_from -/
theorem least_of {P : Nat → Prop} : ∀ m, P m → ∃ n, n ≤ m ∧ P n ∧ ∀ k, k < n → ¬ P k := by
  intro m
  induction m using Nat.strongRecOn with
  | ind m ih =>
    intro h
    by_cases q : ∃ k, k < m ∧ P k
    · obtain ⟨k, hk, pk⟩ := q
      obtain ⟨n, h1, h2, h3⟩ := ih k hk pk
      exact ⟨n, by omega, h2, h3⟩
    · exact ⟨m, Nat.le_refl _, h, fun k hk pk => q ⟨k, hk, pk⟩⟩
/-- the first full moon on day d or behind it is that of moon n -/
def FullAt (L p f d n : Nat) : Prop := d ≤ fm L p f n / p ∧ ∀ k, k < n → fm L p f k / p < d
theorem full_ex {L p f : Nat} (ok : MOk L p f) (d : Nat) : ∃ n, n ≤ d ∧ FullAt L p f d n := by
  have p0 := ok.p0
  have lo := ok.lo
  obtain ⟨n, h1, h2, h3⟩ := least_of (P := fun n => d ≤ fm L p f n / p) d (by
    show d ≤ fm L p f d / p
    rw [Nat.le_div_iff_mul_le p0]
    unfold fm
    have : d * p ≤ d * L := Nat.mul_le_mul_left d (by omega)
    omega)
  exact ⟨n, h1, h2, fun k hk => Nat.lt_of_not_le (h3 k hk)⟩
theorem full_one {L p f d n n2 : Nat} (h : FullAt L p f d n) (h2 : FullAt L p f d n2) : n = n2 := by
  rcases Nat.lt_trichotomy n n2 with z | z | z
  · have := h2.2 n z
    have := h.1
    omega
  · exact z
  · have := h.2 n2 z
    have := h2.1
    omega
theorem full_start {L p f : Nat} (ok : MOk L p f) (d j : Nat) (h : j < mo L p f d - 1) : fm L p f j / p < d := by
  have p0 := ok.p0
  have lo := ok.lo
  have f1 := ok.f1
  have hk : mo L p f d * L ≤ d * p + p - 1 - f := Nat.div_mul_le_self _ _
  rw [Nat.div_lt_iff_lt_mul p0]
  unfold fm
  have e : (j + 2) * L ≤ mo L p f d * L := Nat.mul_le_mul_right L (by omega)
  rw [Nat.add_mul] at e
  omega
def spFF (K : PySem.W.Frag) : Sp := fun vs H Q _ => ∃ (x c fq mp : Addr) (W f0 : Int) (L p f d : Nat), vs = [.ref x, .int (d : Nat)] ∧ FeastsAt K H x c (.ref mp) W f0 fq ∧ MoonsAt (MC K) H mp L p f ∧ MOk L p f ∧ d ≤ 200000 ∧
  ∀ n, FullAt L p f d n → ∀ H', Ext (TT K) No H H' → Q (.int (fm L p f n / p : Nat)) H'
theorem ok_Feasts_full_from (T : Tx K mg base) : FnOk P w K mg base (L2.CX P w) 3 (He.fAd K ("Feasts", some "full_from")) T.fd_Feasts_full_from ["self", "start"] (spFF K) := by
  refine T.F_Feasts_full_from.ok sc_Feasts_full_from (fun vs H Q E h => ?_) (fun cdv A outer s H vs Q E hr h => ⟨_, (pss_cons (ps_set (i := 2) sc_Feasts_full_from.nd rfl (Or.inl rfl) (pe_ifExp (pt_cmpR op_ge (pv 1) (pe_ix (ix_tupK (K := K) rfl) (pe_meth (pe_fldK (K := K) rfl (pv 0) rfl) T.c_Moons T.m_Moons_new_moon (ok_Moons_new_moon T) (hr.mono (by decide)) (bi_Moons_new_moon T) .nil (passes_call (takes_of rfl rfl rfl rfl) fun _ _ _ _ h => h) (pa_cons pe_int pa_nil)) pe_int (fun _ _ => rfl)) (nomark _)) (pe_callB (call_max2 rfl) rfl T.b_max (by decide +kernel) (pa_cons pe_int (pa_cons (pe_op op_sub (pe_ix (ix_tupK (K := K) rfl) (pe_meth (pe_fldK (K := K) rfl (pv 0) rfl) T.c_Moons T.m_Moons_moon_of (ok_Moons_moon_of T) (hr.mono (by decide)) (bi_Moons_moon_of T) .nil (passes_call (takes_of rfl rfl rfl rfl) fun _ _ _ _ h => h) (pa_cons (pv 1) pa_nil)) pe_int (fun _ _ => rfl)) pe_int) pa_nil))) pe_int))
 (pss_cons (ps_while (passes_of rfl) (pt_cmpR op_lt (pe_ix (ix_tupK (K := K) rfl) (pe_meth (pe_fldK (K := K) rfl (pv 0) rfl) T.c_Moons T.m_Moons_full_moon (ok_Moons_full_moon T) (hr.mono (by decide)) (bi_Moons_full_moon T) .nil (passes_call (takes_of rfl rfl rfl rfl) fun _ _ _ _ h => h) (pa_cons (pv 2) pa_nil)) pe_int (fun _ _ => rfl)) (pv 1) (nomark _)) (pss_one (ps_aug (i := 2) sc_Feasts_full_from.nd rfl (Or.inl rfl) pe_int ip_add)))
 (pss_one (ps_ret (pe_ix (ix_tupK (K := K) rfl) (pe_meth (pe_fldK (K := K) rfl (pv 0) rfl) T.c_Moons T.m_Moons_full_moon (ok_Moons_full_moon T) (hr.mono (by decide)) (bi_Moons_full_moon T) .nil (passes_call (takes_of rfl rfl rfl rfl) fun _ _ _ _ h => h) (pa_cons (pv 2) pa_nil)) pe_int (fun _ _ => rfl)))))), ?_⟩)
  · obtain ⟨x, c, fq, mp, W, f0, L, p, f, d, rfl, _⟩ := h
    rfl
  · obtain ⟨x, c, fq, mp, W, f0, L, p, f, d, rfl, hX, hM, ok, hd, hQ⟩ := h
    obtain ⟨dx, hx⟩ := id hX
    obtain ⟨dm, hm⟩ := id hM
    obtain ⟨n, hnd, hn⟩ := full_ex ok d
    have hQ := hQ n hn
    have nm2 : d ≤ nm L p f 200000 := by
      unfold nm
      rw [Nat.le_div_iff_mul_le ok.p0]
      have e : 200000 * (2 * p) ≤ 200000 * L := Nat.mul_le_mul_left _ ok.lo
      have e2 : d * p ≤ 200000 * p := Nat.mul_le_mul_right p hd
      omega
    walk_at "s"
    refine ⟨_, _, _, _, _, rfl, hx, T.c_Feasts, T.na_Feasts_moons, rfl, ?_⟩
    walk_at "s"
    refine ⟨_, _, _, rfl, hm, rfl, ?_⟩
    walk_at "s"
    refine ⟨mp, L, p, f, 0, rfl, hM, ok, fun _ _ t1 H1 hv1 e1 => ?_, fun z => absurd ⟨by omega, by omega⟩ z⟩
    walk_at "s"
    refine ⟨_, _, _, _, rfl, rfl, SqT.of hv1, rfl, ?_⟩
    have hz : (f + (0 : Int).toNat * L) / p = 0 := by
      have e : f + (0 : Int).toNat * L = f := by simp
      rw [e]
      exact Nat.div_eq_of_lt ok.f1
    rw [hz]
    have hx1 := e1.fix _ _ hx rfl
    have hM1 := hM.ext e1
    obtain ⟨dm1, hm1⟩ := id hM1
    walk_at "s"
    refine ⟨_, _, _, _, _, rfl, hx1, T.c_Feasts, T.na_Feasts_moons, rfl, ?_⟩
    walk_at "s"
    refine ⟨_, _, _, rfl, hm1, rfl, ?_⟩
    walk_at "s"
    refine ⟨mp, L, p, f, (d : Nat), rfl, hM1, ok, fun _ _ t2 H2 hv2 e2 => ?_, fun z => absurd ⟨by omega, by omega⟩ z⟩
    rw [Int.toNat_natCast] at hv2
    walk_at "s"
    refine ⟨_, _, _, _, rfl, rfl, SqT.of hv2, rfl, ?_⟩
    walk_at "s"
    obtain ⟨N0, hN0⟩ : ∃ N0 : Nat, N0 = mo L p f d - 1 := ⟨_, rfl⟩
    have hNI : (if ((mo L p f d : Nat) : Int) - 1 > 0 then ((mo L p f d : Nat) : Int) - 1 else 0) = (N0 : Nat) := by
      rw [hN0]
      split <;> omega
    have hfs : ∀ j, j < N0 → fm L p f j / p < d := fun j hj => full_start ok d j (by omega)
    have E2 := e1.trans e2
    clear hv1 hv2 e1 hx1 hM1 hm1
    show ({ nx := _, rt := _, .. } : Ends).nx (([some (V.ref x), some (V.int (d : Nat)), some (V.int (if ((mo L p f d : Nat) : Int) - 1 > 0 then ((mo L p f d : Nat) : Int) - 1 else 0))]) : L2.St) H2
    rw [hNI]
    clear hNI hN0 nm2 hz
    have le : ∀ N, (∀ j, j < N → fm L p f j / p < d) → N ≤ n := fun N h => by
      rcases Nat.lt_or_ge n N with z | z
      · have := h n z
        have := hn.1
        omega
      · exact z
    walk_at "s"
    refine ⟨fun k σ2 H3 => ∃ N : Nat, σ2 = [some (V.ref x), some (V.int (d : Nat)), some (V.int (N : Nat))] ∧ (∀ j, j < N → fm L p f j / p < d) ∧ k = n - N ∧ Ext (TT K) No H H3, ⟨n - N0, N0, rfl, hfs, rfl, E2⟩, ?_⟩
    rintro k σ2 H3 ⟨N, rfl, hN, rfl, E3⟩
    have hNn := le N hN
    have hx3 := E3.fix _ _ hx rfl
    have hM3 := hM.ext E3
    have hm3 := E3.fix _ _ hm rfl
    walk_at "s"
    refine ⟨_, _, _, _, _, rfl, hx3, T.c_Feasts, T.na_Feasts_moons, rfl, ?_⟩
    walk_at "s"
    refine ⟨_, _, _, rfl, hm3, rfl, ?_⟩
    walk_at "s"
    refine ⟨mp, L, p, f, (N : Nat), rfl, hM3, ok, fun _ _ t4 H4 hv4 e4 => ?_, fun z => absurd ⟨by omega, by omega⟩ z⟩
    rw [Int.toNat_natCast] at hv4
    walk_at "s"
    refine ⟨_, _, _, _, rfl, rfl, SqT.of hv4, rfl, ?_⟩
    walk_at "s"
    refine ifB (fun q1 => ?_) (fun q1 => ?_)
    · have q1 : fm L p f N / p < d := Int.ofNat_lt.mp (of_decide_eq_true q1)
      have hN2 : ∀ j, j < N + 1 → fm L p f j / p < d := fun j hj => by
        rcases Nat.lt_or_ge j N with z | z
        · exact hN j z
        · have e : j = N := by omega
          rw [e]
          exact q1
      have := le _ hN2
      refine ⟨_, fun _ _ h => h, ?_⟩
      walk_at "s"
      exact ⟨n - (N + 1), by omega, N + 1, rfl, hN2, rfl, E3.trans e4⟩
    have q1 : ¬ fm L p f N / p < d := fun z => of_decide_eq_false q1 (Int.ofNat_lt.mpr z)
    have hNf : FullAt L p f d N := ⟨by omega, hN⟩
    obtain rfl := full_one hn hNf
    have E4 := E3.trans e4
    have hx4 := E4.fix _ _ hx rfl
    have hM4 := hM.ext E4
    have hm4 := E4.fix _ _ hm rfl
    clear hv4 e4 hx3 hM3 hm3
    walk_at "s"
    refine ⟨_, _, _, _, _, rfl, hx4, T.c_Feasts, T.na_Feasts_moons, rfl, ?_⟩
    walk_at "s"
    refine ⟨_, _, _, rfl, hm4, rfl, ?_⟩
    walk_at "s"
    refine ⟨mp, L, p, f, (n : Nat), rfl, hM4, ok, fun _ _ t5 H5 hv5 e5 => ?_, fun z => absurd ⟨by omega, by omega⟩ z⟩
    rw [Int.toNat_natCast] at hv5
    walk_at "s"
    refine ⟨_, _, _, _, rfl, rfl, SqT.of hv5, rfl, ?_⟩
    walk_at "s"
    exact hQ H5 (E4.trans e5)
end K60

set_option Elab.async false
set_option linter.all false
set_option maxRecDepth 100000
set_option maxHeartbeats 2000000
namespace K60
open PySem PySem.Spec PyProof.Rows L2 MB
local macro_rules | `(tactic| walk_at "s") => `(tactic| repeat (first | refine ⟨_, rfl, ?_⟩ | refine ⟨_, _, rfl, rfl, ?_⟩ | refine ⟨_, _, rfl, ?_⟩ | refine ⟨rfl, ?_⟩))
variable {P : Program} {w : World} {K : PySem.W.Frag} {mg : Str → Option Value} {base : Heap}
/-! ### Feasts.nth -/
def wdL (s nd : Nat) (W f wd : Int) : List Int := ((List.range nd).map fun k => ((s + k : Nat) : Int)).filter fun d => decide ((d + f) % W = wd)
theorem wdL_succ (s nd : Nat) (W f wd : Int) : wdL s (nd + 1) W f wd = wdL s nd W f wd ++ if (((s + nd : Nat) : Int) + f) % W = wd then [((s + nd : Nat) : Int)] else [] := by
  unfold wdL
  rw [List.range_succ, List.map_append, List.filter_append]
  congr 1
  show List.filter _ [((s + nd : Nat) : Int)] = _
  by_cases h : (((s + nd : Nat) : Int) + f) % W = wd
  · rw [if_pos h, List.filter_cons_of_pos (by simpa using h)]
    rfl
  · rw [if_neg h, List.filter_cons_of_neg (by simpa using h)]
    rfl
theorem wdL_len (s nd : Nat) (W f wd : Int) : (wdL s nd W f wd).length ≤ nd := by
  unfold wdL
  have := List.length_filter_le (fun d : Int => decide ((d + f) % W = wd)) ((List.range nd).map fun k => ((s + k : Nat) : Int))
  rw [List.length_map, List.length_range] at this
  exact this
theorem dN_lt {ms : Mons} {lg : Str} {rs : MM.Rules} (mv : MsV ms lg) {y : Int} {x : Str} {d : Int} {yn i r : Nat} (h : DOk ms lg rs y x d yn i r) : dN ms lg rs yn i r < 130000000 := by
  obtain ⟨h1, h2, ⟨m, h3, h4, h5⟩, h6⟩ := h
  have q := (MM.dayAt_year (rs := rs) mv.nd mv.lg (show MM.DayAt ms lg rs yn i r (dN ms lg rs yn i r) from ⟨m, h3, h5, rfl⟩)).2
  have s2 := mv.sh0.2
  have c := MM.cn_le (MM.isLong rs) (yn + 1)
  have e : MM.sh ms * (yn + 1) ≤ 1200 * 100000 := Nat.mul_le_mul s2 (by omega)
  have e2 : MM.db rs (MM.sh ms) (yn + 1) ≤ MM.sh ms * (yn + 1) + (yn + 1) := by
    unfold MM.db
    rw [Nat.mul_comm (MM.sh ms)]
    omega
  omega
def nthV (l : List Int) (wh : Int) : V := if wh = 0 ∨ (wh.natAbs : Int) > (l.length : Nat) then .non else .int (l.getD (if wh > 0 then wh - 1 else (l.length : Nat) + wh).toNat 0)
def spNth (K : PySem.W.Frag) : Sp := fun vs H Q E => ∃ (x c fq : Addr) (mv : V) (W f : Int) (ms : Mons) (lg : Str) (rs : MM.Rules) (y : Int) (m : Str) (wd wh : Int), vs = [.ref x, .int y, .str m, .int wd, .int wh] ∧ FeastsAt K H x c mv W f fq ∧ 1 ≤ W ∧ CalAt K H c ms lg rs ∧ MsV ms lg ∧ ROk rs ∧ Gd (TT K) H ∧
  (∀ yn i mm, DOk ms lg rs y m 1 yn i 0 → ms[i]? = some mm → ∀ H', Ext (TT K) No H H' → Q (nthV (wdL (dN ms lg rs yn i 0) (MM.md rs lg yn mm) W f wd) wh) H') ∧
  ((∀ yn i, ¬ DOk ms lg rs y m 1 yn i 0) → ∀ H', Ext (TT K) No H H' → E (ME K) none H' ∧ E (YE K) none H')
theorem ok_Feasts_nth (T : Tx K mg base) (tk : TOk (TT K)) : FnOk P w K mg base (L2.CX P w) 16 (He.fAd K ("Feasts", some "nth")) T.fd_Feasts_nth ["self", "year", "month", "weekday", "which"] (spNth K) := by
  have ok_Calendar_day_of := fun T : Tx K mg base => ok_Calendar_day_of (P := P) (w := w) T tk
  refine T.F_Feasts_nth.ok sc_Feasts_nth (fun vs H Q E h => ?_) (fun cdv A outer s H vs Q E hr h => ⟨_, (pss_cons (ps_set (i := 5) sc_Feasts_nth.nd rfl (Or.inl rfl) (pe_meth (pe_fldK (K := K) rfl (pv 0) rfl) T.c_Calendar T.m_Calendar_day_of (ok_Calendar_day_of T) (hr.mono (by decide)) (bi_Calendar_day_of T) .nil (passes_call (takes_of rfl rfl rfl rfl) fun _ _ _ _ h => h) (pa_cons (pv 1) (pa_cons (pv 2) (pa_cons pe_int pa_nil)))))
 (pss_cons (ps_set (i := 6) sc_Feasts_nth.nd rfl (Or.inl rfl) (pe_op op_add (pv 5) (pe_meth (pe_fldK (K := K) rfl (pv 0) rfl) T.c_Calendar T.m_Calendar_days_in (ok_Calendar_days_in T) (hr.mono (by decide)) (bi_Calendar_days_in T) .nil (passes_call (takes_of rfl rfl rfl rfl) fun _ _ _ _ h => h) (pa_cons (pv 1) (pa_cons (pv 2) pa_nil)))))
 (pss_cons (ps_setLc (i := 7) rfl sc_Feasts_nth.nd rfl rfl rfl (pi_range2 rfl T.b_range (pa_cons (pv 5) (pa_cons (pv 6) pa_nil))) (blkOk_by (N := ["self", "year", "month", "weekday", "which", "start", "end", "days", "day"]) (sc := defScope s_Feasts_nth) (own := [("day", 8)]) (by decide +kernel)) (fun _ _ _ _ _ => (pg_name (i := 8) sc_Feasts_nth.nd rfl (by first | exact Or.inl rfl | exact Or.inr rfl))) (fun _ _ _ _ _ => (pts_one (pt_cmpR op_eq (pe_meth (pv 0) T.c_Feasts T.m_Feasts_weekday (ok_Feasts_weekday T) (hr.mono (by decide)) (bi_Feasts_weekday T) .nil passL (pa_cons (pv 8) pa_nil)) (pv 3) (nomark _)))) (fun _ _ _ _ _ => (pv 8)))
 (pss_cons (ps_if (PW.pt (pw_or (pt_cmpR op_eq (pv 4) pe_int (nomark _)) (pw_or1 (pt_cmpR op_gt (pe_callB call_abs rfl T.b_abs (by decide +kernel) (pa_cons (pv 4) pa_nil)) (pe_callB (call_lenK (K := K) rfl) rfl T.b_len (by decide +kernel) (pa_cons (pv 7) pa_nil)) (nomark _))))) (pss_one (ps_ret pe_non)) pss_nil)
 (pss_one (ps_ret (pe_ifExp (pt_cmpR op_gt (pv 4) pe_int (nomark _)) (pe_ix (ix_listK (K := K) rfl) (pv 7) (pe_op op_sub (pv 4) pe_int) (fun _ _ => rfl)) (pe_ix (ix_listK (K := K) rfl) (pv 7) (pe_op op_add (pe_callB (call_lenK (K := K) rfl) rfl T.b_len (by decide +kernel) (pa_cons (pv 7) pa_nil)) (pv 4)) (fun _ _ => rfl))))))))), ?_⟩)
  · obtain ⟨x, c, fq, mv, W, f, ms, lg, rs, y, m, wd, wh, rfl, _⟩ := h
    rfl
  · obtain ⟨x, c, fq, mv, W, f, ms, lg, rs, y, m, wd, wh, rfl, hX, w1, hC, hms, ok, gd, hQ, hE⟩ := h
    obtain ⟨dx, hx⟩ := id hX
    obtain ⟨dx9, p9, ts9, lp9, l1, _⟩ := id hC
    walk_at "s"
    refine ⟨_, _, _, _, _, rfl, hx, T.c_Feasts, T.na_Feasts_calendar, rfl, ?_⟩
    walk_at "s"
    refine ⟨_, _, _, rfl, l1, rfl, ?_⟩
    walk_at "s"
    refine ⟨c, ms, lg, rs, y, m, 1, rfl, hC, hms, ok, gd, fun yn i r dk H1 e1 => ?_, fun z => hE fun yn i => z yn i 0⟩
    obtain ⟨mm, hmi, hmx, hr0⟩ := dk.ex
    have hyn := dk.hy
    have hym := dk.hm
    have hdd := dk.hd
    obtain rfl : r = 0 := by omega
    have hQ := hQ yn i mm dk hmi
    have hX1 := hX.ext e1
    have hx1 := e1.fix _ _ hx rfl
    have hC1 := hC.ext e1
    have l2 := e1.fix _ _ l1 rfl
    obtain ⟨s0, hs0⟩ : ∃ s0, s0 = dN ms lg rs yn i 0 := ⟨_, rfl⟩
    rw [← hs0]
    rw [← hs0] at hQ
    walk_at "s"
    refine ⟨_, _, _, _, _, rfl, hx1, T.c_Feasts, T.na_Feasts_calendar, rfl, ?_⟩
    walk_at "s"
    refine ⟨_, _, _, rfl, l2, rfl, ?_⟩
    walk_at "s"
    refine ⟨c, ms, lg, rs, y, m, rfl, hC1, hms, ok, fun y0 y1 m3 hm3 hx3 => ?_, fun z => absurd ⟨by omega, by omega⟩ z, fun z => absurd (List.mem_map.mpr ⟨mm, List.mem_of_getElem? hmi, hmx⟩) z⟩
    obtain ⟨j3, hj3⟩ := List.getElem?_of_mem hm3
    obtain rfl := hms.ix hmi hj3 (by rw [hmx, hx3])
    rw [hmi] at hj3
    cases hj3
    have hty : y.toNat = yn := by omega
    rw [hty]
    generalize hnd : MM.md rs lg yn mm = nd at hQ
    have hsl : s0 < 130000000 := by rw [hs0]; exact dN_lt hms dk
    have hdl : nd ≤ 61 := by
      have := (hms.rng mm (List.mem_of_getElem? hmi)).2
      rw [← hnd]
      unfold MM.md
      split <;> omega
    walk_at "s"
    refine ⟨⟨by omega, by omega, by omega, by omega⟩, fun D hD => ?_⟩
    have hn : ((s0 : Int) + (nd : Int) - (s0 : Int)).toNat = nd := by omega
    rw [hn]
    refine lc_range (fun i H2 => H2 D = some (.lst ((wdL s0 i W f wd).map V.int)) ∧ Ext (TT K) (· = D) H1 H2) ⟨upd_same, (Ext.new hD).no⟩ ?_ ?_
    · rintro i H2 hi ⟨h2, e2⟩
      have hlen := wdL_len s0 i W f wd
      have e3 : (s0 : Int) + (i : Int) = ((s0 + i : Nat) : Int) := by omega
      rw [e3]
      walk_at "s"
      refine ⟨_, _, _, rfl, e2.fix _ _ hx1 rfl, rfl, ?_⟩
      walk_at "s"
      refine ⟨x, c, fq, mv, W, f, _, rfl, hX1.ext e2, w1, ?_⟩
      walk_at "s"
      refine ifB (fun q1 => ?_) (fun q1 => ?_)
      · have q1 : (((s0 + i : Nat) : Int) + f) % W = wd := by
          have q1 : decide (V.int ((((s0 + i : Nat) : Int) + f) % W) = V.int wd) = true := q1
          simpa using q1
        walk_at "s"
        refine ⟨_, h2, by rw [List.length_map]; exact szl (by omega), ?_, e2.trans (Ext.set h2 rfl)⟩
        rw [upd_same, wdL_succ, if_pos q1, List.map_append]
        rfl
      · have q1 : ¬ (((s0 + i : Nat) : Int) + f) % W = wd := by
          have q1 : decide (V.int ((((s0 + i : Nat) : Int) + f) % W) = V.int wd) = false := q1
          simpa using q1
        rw [wdL_succ, if_neg q1, List.append_nil]
        exact ⟨h2, e2⟩
    rintro H2 ⟨h2, e2⟩
    have E2 := e1.trans (e2.mono1 (NoM.of hD))
    have hQ := hQ H2 E2
    have hlen := wdL_len s0 nd W f wd
    generalize wdL s0 nd W f wd = l at h2 hQ hlen
    clear e2 hX1 hx1 hC1 l2 e1
    walk_at "s"
    refine ifB (fun q1 => ?_) (fun q1 => ?_)
    · have q1 : wh = 0 := by
        have q1 : decide (V.int wh = V.int 0) = true := q1
        simpa using q1
      unfold nthV at hQ
      rw [if_pos (.inl q1)] at hQ
      walk_at "s"
      exact hQ
    have q1 : ¬ wh = 0 := by
      have q1 : decide (V.int wh = V.int 0) = false := q1
      simpa using q1
    walk_at "s"
    refine ⟨_, _, rfl, .inl (SqL.of h2), ?_⟩
    rw [List.length_map]
    have ha : (if wh < 0 then -wh else wh) = (wh.natAbs : Int) := by split <;> omega
    walk_at "s"
    refine ifB (fun q2 => ?_) (fun q2 => ?_)
    · have q2 : ((l.length : Nat) : Int) < (if wh < 0 then -wh else wh) := of_decide_eq_true q2
      rw [ha] at q2
      unfold nthV at hQ
      rw [if_pos (.inr q2)] at hQ
      walk_at "s"
      exact hQ
    have q2 : ¬ ((l.length : Nat) : Int) < (if wh < 0 then -wh else wh) := of_decide_eq_false q2
    rw [ha] at q2
    unfold nthV at hQ
    rw [if_neg (fun z => z.elim q1 (fun z => q2 z))] at hQ
    have hk : ∀ k : Nat, k < l.length → (l.map V.int)[k]? = some (V.int (l.getD k 0)) := fun k hk => by
      rw [List.getElem?_map, List.getD_eq_getElem?_getD, List.getElem?_eq_getElem hk]
      rfl
    walk_at "s"
    refine ifB (fun q3 => ?_) (fun q3 => ?_)
    · have q3 : 0 < wh := of_decide_eq_true q3
      rw [if_pos q3] at hQ
      walk_at "s"
      refine ⟨_, _, _, _, rfl, rfl, SqL.of h2, atI_of (i := (wh - 1).toNat) (by omega) (hk _ (by omega)), ?_⟩
      walk_at "s"
      exact hQ
    · have q3 : ¬ 0 < wh := of_decide_eq_false q3
      rw [if_neg (fun z => q3 z)] at hQ
      walk_at "s"
      refine ⟨_, _, rfl, .inl (SqL.of h2), ?_⟩
      rw [List.length_map]
      walk_at "s"
      refine ⟨_, _, _, _, rfl, rfl, SqL.of h2, atI_of (i := ((l.length : Nat) + wh).toNat) (by omega) (hk _ (by omega)), ?_⟩
      walk_at "s"
      exact hQ
end K60

set_option Elab.async false
set_option linter.all false
set_option maxRecDepth 100000
set_option maxHeartbeats 2000000
namespace K60
open PySem PySem.Spec PyProof.Rows L2 MB
local macro_rules | `(tactic| walk_at "s") => `(tactic| repeat (first | refine ⟨_, rfl, ?_⟩ | refine ⟨_, _, rfl, rfl, ?_⟩ | refine ⟨_, _, rfl, ?_⟩ | refine ⟨rfl, ?_⟩))
variable {P : Program} {w : World} {K : PySem.W.Frag} {mg : Str → Option Value} {base : Heap}
/-! ### Feasts.day -/
/-- what a year's feasts hang on -/
structure Yr where
  ms : Mons
  lg : Str
  rs : MM.Rules
  W : Int
  f0 : Int
  L : Nat
  p : Nat
  f : Nat
noncomputable def fullDay (L p f d : Nat) : Nat := open Classical in if h : ∃ n, FullAt L p f d n then fm L p f h.choose / p else 0
theorem fullDay_at {L p f d n : Nat} (h : FullAt L p f d n) : fullDay L p f d = fm L p f n / p := by
  have e : ∃ n, FullAt L p f d n := ⟨n, h⟩
  unfold fullDay
  rw [dif_pos e, full_one e.choose_spec h]
def fixV (Y : Yr) (y : Nat) (x : Str) (a : Int) : Option Nat := match Y.ms.findIdx? (fun m => decide (m.1 = x)) with
  | none => none
  | some i => match Y.ms[i]? with
    | none => none
    | some m => if 1 ≤ a ∧ a ≤ (MM.md Y.rs Y.lg y m : Nat) then some (dN Y.ms Y.lg Y.rs y i (a.toNat - 1)) else none
theorem findIdx_ms {ms : Mons} {lg : Str} (mv : MsV ms lg) {i : Nat} {m : Str × Nat} (h : ms[i]? = some m) : ms.findIdx? (fun q => decide (q.1 = m.1)) = some i := by
  rw [List.findIdx?_eq_some_iff_getElem]
  obtain ⟨hi, e⟩ := List.getElem?_eq_some_iff.mp h
  refine ⟨hi, by rw [e]; simp, fun j hj => ?_⟩
  have hjl : j < ms.length := by omega
  intro z
  have z : ms[j].1 = m.1 := by simpa using z
  have := mv.ix (List.getElem?_eq_getElem hjl) h z
  omega
theorem fixV_at {Y : Yr} (mv : MsV Y.ms Y.lg) {y i : Nat} {m : Str × Nat} {a : Int} (h : Y.ms[i]? = some m) : fixV Y y m.1 a = if 1 ≤ a ∧ a ≤ (MM.md Y.rs Y.lg y m : Nat) then some (dN Y.ms Y.lg Y.rs y i (a.toNat - 1)) else none := by
  unfold fixV
  rw [findIdx_ms mv h]
  show (match Y.ms[i]? with
    | none => none
    | some m => if 1 ≤ a ∧ a ≤ (MM.md Y.rs Y.lg y m : Nat) then some (dN Y.ms Y.lg Y.rs y i (a.toNat - 1)) else none) = _
  rw [h]
def nthW (Y : Yr) (y : Nat) (x : Str) (wd wh : Int) : Option Int := match Y.ms.findIdx? (fun m => decide (m.1 = x)) with
  | none => none
  | some i => match Y.ms[i]? with
    | none => none
    | some m => match nthV (wdL (dN Y.ms Y.lg Y.rs y i 0) (MM.md Y.rs Y.lg y m) Y.W Y.f0 wd) wh with
      | .int k => some k
      | _ => none
def optV : Option Int → V
  | none => .non
  | some n => .int n
theorem nthW_at {Y : Yr} (mv : MsV Y.ms Y.lg) {y i : Nat} {m : Str × Nat} {wd wh : Int} (h : Y.ms[i]? = some m) : optV (nthW Y y m.1 wd wh) = nthV (wdL (dN Y.ms Y.lg Y.rs y i 0) (MM.md Y.rs Y.lg y m) Y.W Y.f0 wd) wh := by
  unfold nthW
  rw [findIdx_ms mv h]
  show optV (match Y.ms[i]? with
    | none => none
    | some m => match nthV (wdL (dN Y.ms Y.lg Y.rs y i 0) (MM.md Y.rs Y.lg y m) Y.W Y.f0 wd) wh with
      | .int k => some k
      | _ => none) = _
  rw [h]
  show optV (match nthV (wdL (dN Y.ms Y.lg Y.rs y i 0) (MM.md Y.rs Y.lg y m) Y.W Y.f0 wd) wh with
      | .int k => some k
      | _ => none) = _
  unfold nthV
  generalize wdL (dN Y.ms Y.lg Y.rs y i 0) (MM.md Y.rs Y.lg y m) Y.W Y.f0 wd = l
  by_cases c : wh = 0 ∨ (wh.natAbs : Int) > (l.length : Nat)
  · simp only [if_pos c]
    rfl
  · simp only [if_neg c]
    rfl
noncomputable def fallV (Y : Yr) (fs : List Fe) : Nat → Str → Nat → Option Int
  | 0, _, _ => none
  | n + 1, x, y => match fs.find? (fun f => decide (f.name = x)) with
    | none => none
    | some fe => match fe.kind with
      | .fixed => (fixV Y y fe.s fe.a).map fun d => ((d : Nat) : Int)
      | .moon => (fixV Y y fe.s fe.a).map fun d => ((fullDay Y.L Y.p Y.f d : Nat) : Int)
      | .nth => nthW Y y fe.s fe.a fe.b
      | .behind => match fallV Y fs n fe.s y with
        | none => none
        | some s => if 0 ≤ s + fe.a then some (s + fe.a) else none
      | .next => match fallV Y fs n fe.s y with
        | none => none
        | some s => if 0 ≤ fe.a ∧ fe.a < Y.W then some (s + 1 + (fe.a - (s + 1 + Y.f0) % Y.W) % Y.W) else none
theorem find_fs {fs : List Fe} (nd : (fs.map (·.name)).Nodup) {i : Nat} {fe : Fe} (h : fs[i]? = some fe) : fs.find? (fun f => decide (f.name = fe.name)) = some fe := by
  induction fs generalizing i with
  | nil => simp at h
  | cons g fs ih =>
    have nd2 := List.nodup_cons.mp nd
    cases i with
    | zero =>
      cases h
      exact List.find?_cons_of_pos (by simp)
    | succ i =>
      have h : fs[i]? = some fe := h
      have hne : ¬ g.name = fe.name := fun z => nd2.1 (List.mem_map.mpr ⟨fe, List.mem_of_getElem? h, z.symm⟩)
      rw [List.find?_cons_of_neg (by simpa using hne)]
      exact ih nd2.2 h
theorem fallV_at {Y : Yr} {fs : List Fe} (nd : (fs.map (·.name)).Nodup) {i n y : Nat} {fe : Fe} (h : fs[i]? = some fe) : fallV Y fs (n + 1) fe.name y = match fe.kind with
      | .fixed => (fixV Y y fe.s fe.a).map fun d => ((d : Nat) : Int)
      | .moon => (fixV Y y fe.s fe.a).map fun d => ((fullDay Y.L Y.p Y.f d : Nat) : Int)
      | .nth => nthW Y y fe.s fe.a fe.b
      | .behind => match fallV Y fs n fe.s y with
        | none => none
        | some s => if 0 ≤ s + fe.a then some (s + fe.a) else none
      | .next => match fallV Y fs n fe.s y with
        | none => none
        | some s => if 0 ≤ fe.a ∧ fe.a < Y.W then some (s + 1 + (fe.a - (s + 1 + Y.f0) % Y.W) % Y.W) else none := by
  rw [fallV, find_fs nd h]
/-- feasts that can be told -/
structure WfF (Y : Yr) (mv : V) (fs : List Fe) : Prop where
  nd : (fs.map (·.name)).Nodup
  mon : ∀ fe ∈ fs, fe.kind = .fixed ∨ fe.kind = .moon ∨ fe.kind = .nth → fe.s ∈ Y.ms.map (·.1)
  dep : ∀ (i : Nat) (fe : Fe), fs[i]? = some fe → fe.kind = .behind ∨ fe.kind = .next → ∃ (j : Nat) (g : Fe), j < i ∧ fs[j]? = some g ∧ g.name = fe.s
  moon : ∀ fe ∈ fs, fe.kind = .moon → mv ≠ .non
end K60

set_option Elab.async false
set_option linter.all false
set_option maxRecDepth 100000
set_option maxHeartbeats 2000000
namespace K60
open PySem PySem.Spec PyProof.Rows L2 MB
local macro_rules | `(tactic| walk_at "s") => `(tactic| repeat (first | refine ⟨_, rfl, ?_⟩ | refine ⟨_, _, rfl, rfl, ?_⟩ | refine ⟨_, _, rfl, ?_⟩ | refine ⟨rfl, ?_⟩))
variable {P : Program} {w : World} {K : PySem.W.Frag} {mg : Str → Option Value} {base : Heap}
def spDay (K : PySem.W.Frag) (n : Nat) : Sp := fun vs H Q E => ∃ (x c fq : Addr) (mv : V) (Y : Yr) (fs : List Fe) (as : List Addr) (nm : Str) (y : Int), vs = [.ref x, .str nm, .int y] ∧ FeastsAt K H x c mv Y.W Y.f0 fq ∧ FsD K H fq fs as ∧ CalAt K H c Y.ms Y.lg Y.rs ∧ MsV Y.ms Y.lg ∧ ROk Y.rs ∧ Gd (TT K) H ∧ 1 ≤ Y.W ∧
  (mv ≠ .non → ∃ mp, mv = .ref mp ∧ MoonsAt (MC K) H mp Y.L Y.p Y.f ∧ MOk Y.L Y.p Y.f) ∧ WfF Y mv fs ∧
  ((∃ (yn i : Nat) (fe : Fe), y = (yn : Nat) ∧ yn ≤ 99999 ∧ MM.db Y.rs (MM.sh Y.ms) (yn + 1) ≤ 200000 ∧ fs[i]? = some fe ∧ fe.name = nm ∧ i ≤ n ∧ ∀ H', Ext (TT K) No H H' → Q (optV (fallV Y fs (n + 1) nm yn)) H') ∨
   (nm ∉ fs.map (·.name) ∧ ∀ H', Ext (TT K) No H H' → E (FE K) none H') ∨
   (y < 0 ∧ ∃ (i : Nat) (fe : Fe), fs[i]? = some fe ∧ fe.name = nm ∧ fe.kind = .fixed ∧ 1 ≤ fe.a ∧ ∀ H', Ext (TT K) No H H' → E (YE K) none H'))
theorem DOk.one {ms : Mons} {lg : Str} {rs : MM.Rules} (mv : MsV ms lg) {y : Int} {x : Str} {d : Int} {yn i r yn2 i2 r2 : Nat} (h : DOk ms lg rs y x d yn i r) (g : DOk ms lg rs y x d yn2 i2 r2) : yn = yn2 ∧ i = i2 ∧ r = r2 := by
  obtain ⟨h1, _, ⟨m, h3, h4, _⟩, h6⟩ := h
  obtain ⟨g1, _, ⟨m2, g3, g4, _⟩, g6⟩ := g
  exact ⟨by omega, mv.ix h3 g3 (by rw [h4, g4]), by omega⟩
theorem day_step (T : Tx K mg base) (tk : TOk (TT K)) (n : Nat) (sp' : Sp) (ih : FnOk P w K mg base (L2.CX P w) (n + 20) (He.fAd K ("Feasts", some "day")) T.fd_Feasts_day ["self", "name", "year"] sp') (hsp : ∀ vs H Q E, 1 ≤ n → spDay K (n - 1) vs H Q E → sp' vs H Q E) :
    FnOk P w K mg base (L2.CX P w) (n + 21) (He.fAd K ("Feasts", some "day")) T.fd_Feasts_day ["self", "name", "year"] (spDay K n) := by
  have ok_Calendar_day_of := fun T : Tx K mg base => ok_Calendar_day_of (P := P) (w := w) T tk
  have ok_Feasts_nth := fun T : Tx K mg base => ok_Feasts_nth (P := P) (w := w) T tk
  have ok_Feasts_day := fun _ : Tx K mg base => ih
  refine T.F_Feasts_day.ok sc_Feasts_day (fun vs H Q E h => ?_) (fun cdv A outer s H vs Q E hr h => ⟨_, (pss_cons (ps_if (pt_cmp (pc_dnotin (Nat.lt_of_le_of_lt (Nat.add_le_add_left (by decide) _) hr.units) (pv 1) (pe_fldK (K := K) rfl (pv 0) rfl)) (by with_unfolding_all rfl)) (pss_one (ps_raise rfl (takes_of rfl rfl rfl rfl) (pmk_own PySem.F.excBase_ValueError T.x_FeastError.1 T.g_FeastError T.x_FeastError.2.1 (raises_own T.x_FeastError.2.2.1 T.x_FeastError.2.2.2) rfl))) pss_nil)
 (pss_cons (ps_set (i := 3) sc_Feasts_day.nd rfl (Or.inl rfl) (pe_dget (Nat.lt_of_le_of_lt (Nat.add_le_add_left (by decide) _) hr.units) (pe_fldK (K := K) rfl (pv 0) rfl) (pv 1) (fun _ _ => rfl)))
 (pss_cons (ps_if (pt_cmpR op_in_seq (pe_fldK (K := K) rfl (pv 3) rfl) (pe_tupN (T := TT K) (pa_cons pe_str (pa_cons pe_str pa_nil))) (by with_unfolding_all rfl)) (pss_cons (ps_asg (pe_fldK (K := K) rfl (pv 3) rfl) (pg_tupK (K := K) (n := 2) rfl rfl (pgs_cons (pg_name (i := 4) sc_Feasts_day.nd rfl (Or.inl rfl)) (pgs_cons (pg_name (i := 5) sc_Feasts_day.nd rfl (Or.inl rfl)) pgs_nil))))
 (pss_cons (ps_if (pt_not (pt_chain op_le op_le pe_int (pv 5) (pe_meth (pe_fldK (K := K) rfl (pv 0) rfl) T.c_Calendar T.m_Calendar_days_in (ok_Calendar_days_in T) (hr.mono (by first | decide | omega)) (bi_Calendar_days_in T) .nil (passes_call (takes_of rfl rfl rfl rfl) fun _ _ _ _ h => h) (pa_cons (pv 2) (pa_cons (pv 4) pa_nil))))) (pss_one (ps_ret pe_non)) pss_nil)
 (pss_cons (ps_set (i := 6) sc_Feasts_day.nd rfl (Or.inl rfl) (pe_meth (pe_fldK (K := K) rfl (pv 0) rfl) T.c_Calendar T.m_Calendar_day_of (ok_Calendar_day_of T) (hr.mono (by first | decide | omega)) (bi_Calendar_day_of T) .nil (passes_call (takes_of rfl rfl rfl rfl) fun _ _ _ _ h => h) (pa_cons (pv 2) (pa_cons (pv 4) (pa_cons (pv 5) pa_nil)))))
 (pss_one (ps_ret (pe_ifExp (pt_cmpR op_eq (pe_fldK (K := K) rfl (pv 3) rfl) pe_str (nomark _)) (pv 6) (pe_meth (pv 0) T.c_Feasts T.m_Feasts_full_from (ok_Feasts_full_from T) (hr.mono (by first | decide | omega)) (bi_Feasts_full_from T) .nil (passes_call (takes_of rfl rfl rfl rfl) fun _ _ _ _ h => h) (pa_cons (pv 6) pa_nil)))))))) pss_nil)
 (pss_cons (ps_if (pt_cmpR op_eq (pe_fldK (K := K) rfl (pv 3) rfl) pe_str (nomark _)) (pss_one (ps_ret (pe_meth (pv 0) T.c_Feasts T.m_Feasts_nth (ok_Feasts_nth T) (hr.mono (by first | decide | omega)) (bi_Feasts_nth T) .nil (passes_call (takes_of rfl rfl rfl rfl) fun _ _ _ _ h => h) (pa_cons (pv 2) (pa_cons (pe_ix (ix_tupK (K := K) rfl) (pe_fldK (K := K) rfl (pv 3) rfl) pe_int (fun _ _ => rfl)) (pa_cons (pe_ix (ix_tupK (K := K) rfl) (pe_fldK (K := K) rfl (pv 3) rfl) pe_int (fun _ _ => rfl)) (pa_cons (pe_ix (ix_tupK (K := K) rfl) (pe_fldK (K := K) rfl (pv 3) rfl) pe_int (fun _ _ => rfl)) pa_nil))))))) pss_nil)
 (pss_cons (ps_set (i := 6) sc_Feasts_day.nd rfl (Or.inl rfl) (pe_meth (pv 0) T.c_Feasts T.m_Feasts_day (ok_Feasts_day T) (hr.mono (by first | decide | omega)) (bi_Feasts_day T) .nil (passes_call (takes_of rfl rfl rfl rfl) fun _ _ _ _ h => h) (pa_cons (pe_ix (ix_tupK (K := K) rfl) (pe_fldK (K := K) rfl (pv 3) rfl) pe_int (fun _ _ => rfl)) (pa_cons (pv 2) pa_nil))))
 (pss_cons (ps_if (pt_cmpR op_isN (pv 6) pe_non (nomark _)) (pss_one (ps_ret pe_non)) pss_nil)
 (pss_cons (ps_if (pt_cmpR op_eq (pe_fldK (K := K) rfl (pv 3) rfl) pe_str (nomark _)) (pss_cons (ps_set (i := 7) sc_Feasts_day.nd rfl (Or.inl rfl) (pe_op op_add (pv 6) (pe_ix (ix_tupK (K := K) rfl) (pe_fldK (K := K) rfl (pv 3) rfl) pe_int (fun _ _ => rfl))))
 (pss_one (ps_ret (pe_ifExp (pt_cmpR op_ge (pv 7) pe_int (nomark _)) (pv 7) pe_non)))) pss_nil)
 (pss_cons (ps_if (pt_not (pt_chain op_le op_lt pe_int (pe_ix (ix_tupK (K := K) rfl) (pe_fldK (K := K) rfl (pv 3) rfl) pe_int (fun _ _ => rfl)) (pe_fldK (K := K) rfl (pv 0) rfl))) (pss_one (ps_ret pe_non)) pss_nil)
 (pss_one (ps_ret (pe_op op_add (pe_op op_add (pv 6) pe_int) (pe_op op_mod (pe_op op_sub (pe_ix (ix_tupK (K := K) rfl) (pe_fldK (K := K) rfl (pv 3) rfl) pe_int (fun _ _ => rfl)) (pe_meth (pv 0) T.c_Feasts T.m_Feasts_weekday (ok_Feasts_weekday T) (hr.mono (by first | decide | omega)) (bi_Feasts_weekday T) .nil (passes_call (takes_of rfl rfl rfl rfl) fun _ _ _ _ h => h) (pa_cons (pe_op op_add (pv 6) pe_int) pa_nil))) (pe_fldK (K := K) rfl (pv 0) rfl))))))))))))), ?_⟩)
  · obtain ⟨x, c, fq, mv, Y, fs, as, nm, y, rfl, _⟩ := h
    rfl
  · obtain ⟨x, c, fq, mv, Y, fs, as, nm, y, rfl, hX, hD, hC, hms, ok, gd, w1, hM, wf, hcase⟩ := h
    obtain ⟨dx, hx⟩ := id hX
    have hl := hD.len
    walk_at "s"
    refine ⟨_, _, _, _, _, rfl, hx, T.c_Feasts, T.na_Feasts_feasts, rfl, ?_⟩
    walk_at "s"
    refine ⟨_, _, rfl, .inl ⟨_, .inr nm, hD.rd, rfl, rfl⟩, ?_⟩
    rw [kvF_some hl]
    walk_at "s"
    rcases hcase with ⟨yn, i, fe, rfl, hy, hb, hi, rfl, hin, hQ⟩ | ⟨hno, hE⟩ | ⟨hy, i, fe, hi, rfl, hk, ha1', hE⟩
    rotate_left
    · refine ifB (fun _ => ?_) (fun z => absurd z (by rw [decide_eq_false hno]; decide))
      walk_at "s"
      exact hE H .refl
    · have hmem : fe.name ∈ fs.map (·.name) := List.mem_map.mpr ⟨fe, List.mem_of_getElem? hi, rfl⟩
      refine ifB (fun z => absurd z (by rw [decide_eq_true hmem]; decide)) (fun _ => ?_)
      have hil := (List.getElem?_eq_some_iff.mp hi).1
      obtain ⟨a, hai⟩ : ∃ a, as[i]? = some a := ⟨_, List.getElem?_eq_getElem (by omega)⟩
      obtain ⟨dx2, t, ha, ht⟩ := hD.each i fe a hi hai
      have hget : DGet H fq (.str fe.name) (some (.ref a)) := by
        have q : DGet H fq (kV (.inr fe.name)) (valV (kvF fs as) (.inr fe.name)) := .inl ⟨_, _, hD.rd, rfl, rfl⟩
        rw [kvF_at hl wf.nd hi hai] at q
        exact q
      walk_at "s"
      refine ⟨_, _, _, _, _, rfl, hx, T.c_Feasts, T.na_Feasts_feasts, rfl, ?_⟩
      walk_at "s"
      refine ⟨_, _, rfl, hget, ?_⟩
      walk_at "s"
      refine ⟨_, _, _, _, _, rfl, ha, T.c_Feast, T.na_Feast_kind, rfl, ?_⟩
      walk_at "s"
      refine ⟨sz, fun t1 H1 ht1 hv1 e1 => ?_⟩
      refine ⟨t1, _, rfl, .inr (SqT.of hv1), rfl, rfl, ?_⟩
      have hb1 : (if false = true then !inV (V.str fe.kind.str) [V.str "fixed", V.str "moon"] else inV (V.str fe.kind.str) [V.str "fixed", V.str "moon"]) = decide (fe.kind = .fixed ∨ fe.kind = .moon) := by
        cases fe.kind <;> decide +kernel
      rw [hb1]
      have hx1 := e1.fix _ _ hx rfl
      have ha1 := e1.fix _ _ ha rfl
      have ht1' := SqT.ext ht e1
      have hC1 := hC.ext e1
      obtain ⟨dx9, p9, ts9, lp9, l1, _⟩ := id hC1
      walk_at "s"
      refine ifB (fun _ => ?_) (fun z => absurd (Or.inl hk) (of_decide_eq_false z))
      have hth : fe.things = [.str fe.s, .int fe.a] := by
        unfold Fe.things
        rw [if_neg (by rw [hk]; decide)]
      rw [hth] at ht1'
      walk_at "s"
      refine ⟨_, _, _, _, _, rfl, ha1, T.c_Feast, T.na_Feast_things, rfl, ?_⟩
      refine ⟨_, _, rfl, ht1', rfl, ?_⟩
      walk_at "s"
      refine ifB (fun _ => ?_) (fun z => absurd ha1' (of_decide_eq_false z))
      walk_at "s"
      refine ⟨_, _, _, _, _, rfl, hx1, T.c_Feasts, T.na_Feasts_calendar, rfl, ?_⟩
      walk_at "s"
      refine ⟨_, _, _, rfl, l1, rfl, ?_⟩
      walk_at "s"
      obtain ⟨m, hmm, hms'⟩ := List.mem_map.mp (wf.mon fe (List.mem_of_getElem? hi) (.inl hk))
      exact ⟨c, Y.ms, Y.lg, Y.rs, y, fe.s, rfl, hC1, hms, ok, fun z => absurd z (by omega), fun _ => hE H1 e1, fun z => absurd (List.mem_map.mpr ⟨m, hmm, hms'⟩) z⟩
    have hmem : fe.name ∈ fs.map (·.name) := List.mem_map.mpr ⟨fe, List.mem_of_getElem? hi, rfl⟩
    refine ifB (fun z => absurd z (by rw [decide_eq_true hmem]; decide)) (fun _ => ?_)
    have hil := (List.getElem?_eq_some_iff.mp hi).1
    obtain ⟨a, hai⟩ : ∃ a, as[i]? = some a := ⟨_, List.getElem?_eq_getElem (by omega)⟩
    obtain ⟨dx2, t, ha, ht⟩ := hD.each i fe a hi hai
    have hget : DGet H fq (.str fe.name) (some (.ref a)) := by
      have q : DGet H fq (kV (.inr fe.name)) (valV (kvF fs as) (.inr fe.name)) := .inl ⟨_, _, hD.rd, rfl, rfl⟩
      rw [kvF_at hl wf.nd hi hai] at q
      exact q
    have hfv := fallV_at (Y := Y) wf.nd (n := n) (y := yn) hi
    rw [hfv] at hQ
    clear hfv
    walk_at "s"
    refine ⟨_, _, _, _, _, rfl, hx, T.c_Feasts, T.na_Feasts_feasts, rfl, ?_⟩
    walk_at "s"
    refine ⟨_, _, rfl, hget, ?_⟩
    walk_at "s"
    refine ⟨_, _, _, _, _, rfl, ha, T.c_Feast, T.na_Feast_kind, rfl, ?_⟩
    walk_at "s"
    refine ⟨sz, fun t1 H1 ht1 hv1 e1 => ?_⟩
    refine ⟨t1, _, rfl, .inr (SqT.of hv1), rfl, rfl, ?_⟩
    have hb1 : (if false = true then !inV (V.str fe.kind.str) [V.str "fixed", V.str "moon"] else inV (V.str fe.kind.str) [V.str "fixed", V.str "moon"]) = decide (fe.kind = .fixed ∨ fe.kind = .moon) := by
      cases fe.kind <;> decide +kernel
    rw [hb1]
    have hx1 := e1.fix _ _ hx rfl
    have ha1 := e1.fix _ _ ha rfl
    have ht1' := SqT.ext ht e1
    have hX1 := hX.ext e1
    have hD1 := hD.ext e1 id
    have hC1 := hC.ext e1
    have gd1 := e1.gd gd
    have hM1 : mv ≠ .non → ∃ mp, mv = .ref mp ∧ MoonsAt (MC K) H1 mp Y.L Y.p Y.f ∧ MOk Y.L Y.p Y.f := fun z => by
      obtain ⟨mp, h1, h2, h3⟩ := hM z
      exact ⟨mp, h1, h2.ext e1, h3⟩
    obtain ⟨dx9, p9, ts9, lp9, l1, _⟩ := id hC1
    walk_at "s"
    refine ifB (fun q1 => ?_) (fun q1 => ?_)
    · have q1 := of_decide_eq_true q1
      have hth : fe.things = [.str fe.s, .int fe.a] := by
        unfold Fe.things
        rw [if_neg (by rcases q1 with z | z <;> rw [z] <;> decide)]
      rw [hth] at ht1'
      obtain ⟨m, hmm, hms'⟩ := List.mem_map.mp (wf.mon fe (List.mem_of_getElem? hi) (by rcases q1 with z | z <;> simp [z]))
      obtain ⟨im, him⟩ := List.getElem?_of_mem hmm
      walk_at "s"
      refine ⟨_, _, _, _, _, rfl, ha1, T.c_Feast, T.na_Feast_things, rfl, ?_⟩
      refine ⟨_, _, rfl, ht1', rfl, ?_⟩
      have hfix := fixV_at hms (y := yn) (a := fe.a) him
      rw [hms'] at hfix
      generalize hmd : MM.md Y.rs Y.lg yn m = nd at hfix
      have hQn : ¬ (1 ≤ fe.a ∧ fe.a ≤ (nd : Nat)) → ∀ H', Ext (TT K) No H H' → Q .non H' := fun c => by
        rw [if_neg c] at hfix
        rcases q1 with z | z
        · simp only [z, hfix] at hQ
          exact hQ
        · simp only [z, hfix] at hQ
          exact hQ
      walk_at "s"
      refine ifB (fun q2 => ?_) (fun q2 => ?_)
      · have q2 := of_decide_eq_true q2
        walk_at "s"
        refine ⟨_, _, _, _, _, rfl, hx1, T.c_Feasts, T.na_Feasts_calendar, rfl, ?_⟩
        walk_at "s"
        refine ⟨_, _, _, rfl, l1, rfl, ?_⟩
        walk_at "s"
        refine ⟨c, Y.ms, Y.lg, Y.rs, (yn : Nat), fe.s, rfl, hC1, hms, ok, fun _ _ m3 hm3 hx3 => ?_, fun z => absurd ⟨by omega, by omega⟩ z, fun z => absurd (List.mem_map.mpr ⟨m, hmm, hms'⟩) z⟩
        obtain ⟨j3, hj3⟩ := List.getElem?_of_mem hm3
        obtain rfl := hms.ix him hj3 (by rw [hms', hx3])
        rw [him] at hj3
        cases hj3
        rw [Int.toNat_natCast, hmd]
        walk_at "s"
        refine ifB (fun q3 => ?_) (fun q3 => ?_)
        · have q3 : ¬ fe.a ≤ (nd : Nat) := by simpa using q3
          walk_at "s"
          exact hQn (fun z => q3 z.2) H1 e1
        have q3 : fe.a ≤ (nd : Nat) := by simpa using q3
        rw [if_pos ⟨q2, q3⟩] at hfix
        have dok : DOk Y.ms Y.lg Y.rs (yn : Nat) fe.s fe.a yn im (fe.a.toNat - 1) := ⟨rfl, hy, ⟨m, him, hms', by rw [hmd]; omega⟩, by omega⟩
        walk_at "s"
        refine ⟨_, _, _, _, _, rfl, hx1, T.c_Feasts, T.na_Feasts_calendar, rfl, ?_⟩
        walk_at "s"
        refine ⟨_, _, _, rfl, l1, rfl, ?_⟩
        walk_at "s"
        refine ⟨c, Y.ms, Y.lg, Y.rs, _, _, _, rfl, hC1, hms, ok, gd1, fun y4 i4 r4 dk H2 e2 => ?_, fun z => absurd dok (z _ _ _)⟩
        obtain ⟨rfl, rfl, rfl⟩ := DOk.one hms dok dk
        have E2 := e1.trans e2
        have hday := (MM.dayAt_year (rs := Y.rs) hms.nd hms.lg (show MM.DayAt Y.ms Y.lg Y.rs yn im (fe.a.toNat - 1) (dN Y.ms Y.lg Y.rs yn im (fe.a.toNat - 1)) from ⟨m, him, by rw [hmd]; omega, rfl⟩)).2
        walk_at "s"
        refine ⟨_, _, _, _, _, rfl, e2.fix _ _ ha1 rfl, T.c_Feast, T.na_Feast_kind, rfl, ?_⟩
        walk_at "s"
        refine ifB (fun q5 => ?_) (fun q5 => ?_)
        · have km : fe.kind = .fixed := by
            have q5 : decide (V.str fe.kind.str = V.str FK.fixed.str) = true := q5
            exact FK.inj _ _ (by simpa using q5)
          simp only [km, hfix] at hQ
          walk_at "s"
          exact hQ H2 E2
        · have km : fe.kind = .moon := q1.elim (fun z => by
            have q5 : decide (V.str fe.kind.str = V.str FK.fixed.str) = false := q5
            rw [z] at q5
            simp at q5) id
          simp only [km, hfix] at hQ
          obtain ⟨mp, hmv, hMp, mok⟩ := hM1 (wf.moon fe (List.mem_of_getElem? hi) km)
          walk_at "s"
          refine ⟨_, _, _, rfl, e2.fix _ _ hx1 rfl, rfl, ?_⟩
          walk_at "s"
          refine ⟨x, c, fq, mp, Y.W, Y.f0, Y.L, Y.p, Y.f, dN Y.ms Y.lg Y.rs yn im (fe.a.toNat - 1), rfl, by rw [← hmv]; exact hX1.ext e2, hMp.ext e2, mok, by omega, fun nn hnn H3 e3 => ?_⟩
          rw [← fullDay_at hnn]
          walk_at "s"
          exact hQ H3 (E2.trans e3)
      · have q2 := of_decide_eq_false q2
        walk_at "s"
        exact hQn (fun z => q2 z.1) H1 e1
    have q1 := of_decide_eq_false q1
    have k1 : fe.kind ≠ .fixed := fun z => q1 (.inl z)
    have k2 : fe.kind ≠ .moon := fun z => q1 (.inr z)
    walk_at "s"
    refine ⟨_, _, _, _, _, rfl, ha1, T.c_Feast, T.na_Feast_kind, rfl, ?_⟩
    walk_at "s"
    refine ifB (fun q2 => ?_) (fun q2 => ?_)
    · have km : fe.kind = .nth := by
        have q2 : decide (V.str fe.kind.str = V.str FK.nth.str) = true := q2
        exact FK.inj _ _ (by simpa using q2)
      have hth : fe.things = [.str fe.s, .int fe.a, .int fe.b] := by
        unfold Fe.things
        rw [if_pos km]
      rw [hth] at ht1'
      obtain ⟨m, hmm, hms'⟩ := List.mem_map.mp (wf.mon fe (List.mem_of_getElem? hi) (by simp [km]))
      obtain ⟨im, him⟩ := List.getElem?_of_mem hmm
      have hn := nthW_at hms (y := yn) (wd := fe.a) (wh := fe.b) him
      rw [hms'] at hn
      simp only [km, hn] at hQ
      have dok : DOk Y.ms Y.lg Y.rs (yn : Nat) fe.s 1 yn im 0 := ⟨rfl, hy, ⟨m, him, hms', by
        have := (hms.rng m hmm).1
        unfold MM.md
        split <;> omega⟩, rfl⟩
      walk_at "s"
      refine ⟨_, _, _, rfl, hx1, rfl, ?_⟩
      walk_at "s"
      refine ⟨_, _, _, _, _, rfl, ha1, T.c_Feast, T.na_Feast_things, rfl, ?_⟩
      walk_at "s"
      refine ⟨_, _, _, _, rfl, rfl, ht1', rfl, ?_⟩
      walk_at "s"
      refine ⟨_, _, _, _, _, rfl, ha1, T.c_Feast, T.na_Feast_things, rfl, ?_⟩
      walk_at "s"
      refine ⟨_, _, _, _, rfl, rfl, ht1', rfl, ?_⟩
      walk_at "s"
      refine ⟨_, _, _, _, _, rfl, ha1, T.c_Feast, T.na_Feast_things, rfl, ?_⟩
      walk_at "s"
      refine ⟨_, _, _, _, rfl, rfl, ht1', rfl, ?_⟩
      walk_at "s"
      refine ⟨x, c, fq, mv, Y.W, Y.f0, Y.ms, Y.lg, Y.rs, _, _, _, _, rfl, hX1, w1, hC1, hms, ok, gd1, fun y4 i4 m4 dk hm4 H2 e2 => ?_, fun z => absurd dok (z _ _)⟩
      obtain ⟨rfl, rfl, _⟩ := DOk.one hms dok dk
      rw [him] at hm4
      cases hm4
      walk_at "s"
      exact hQ H2 (e1.trans e2)
    have k3 : fe.kind ≠ .nth := fun z => by
      have q2 : decide (V.str fe.kind.str = V.str FK.nth.str) = false := q2
      rw [z] at q2
      simp at q2
    have hth : fe.things = [.str fe.s, .int fe.a] := by
      unfold Fe.things
      rw [if_neg k3]
    rw [hth] at ht1'
    have kd : fe.kind = .behind ∨ fe.kind = .next := by
      cases h : fe.kind with
      | fixed => exact absurd h k1
      | moon => exact absurd h k2
      | nth => exact absurd h k3
      | behind => exact .inl rfl
      | next => exact .inr rfl
    obtain ⟨j, g, hji, hj, hg⟩ := wf.dep i fe hi kd
    walk_at "s"
    refine ⟨_, _, _, rfl, hx1, rfl, ?_⟩
    walk_at "s"
    refine ⟨_, _, _, _, _, rfl, ha1, T.c_Feast, T.na_Feast_things, rfl, ?_⟩
    walk_at "s"
    refine ⟨_, _, _, _, rfl, rfl, ht1', rfl, ?_⟩
    walk_at "s"
    refine hsp _ _ _ _ (by omega) ⟨x, c, fq, mv, Y, fs, as, fe.s, (yn : Nat), rfl, hX1, hD1, hC1, hms, ok, gd1, w1, hM1, wf, .inl ⟨yn, j, g, rfl, hy, hb, hj, hg, by omega, fun H2 e2 => ?_⟩⟩
    have hn1 : n - 1 + 1 = n := by omega
    rw [hn1]
    have E2 := e1.trans e2
    have hx2 := e2.fix _ _ hx1 rfl
    have ha2 := e2.fix _ _ ha1 rfl
    have ht2 := SqT.ext ht1' e2
    have hX2 := hX1.ext e2
    cases hv : fallV Y fs n fe.s yn with
    | none =>
      have hQ : ∀ H', Ext (TT K) No H H' → Q .non H' := by
        rcases kd with z | z
        · simp only [z, hv] at hQ
          exact hQ
        · simp only [z, hv] at hQ
          exact hQ
      walk_at "s"
      exact hQ H2 E2
    | some s =>
      walk_at "s"
      refine ⟨_, _, _, _, _, rfl, ha2, T.c_Feast, T.na_Feast_kind, rfl, ?_⟩
      walk_at "s"
      refine ifB (fun q5 => ?_) (fun q5 => ?_)
      · have km : fe.kind = .behind := by
          have q5 : decide (V.str fe.kind.str = V.str FK.behind.str) = true := q5
          exact FK.inj _ _ (by simpa using q5)
        simp only [km, hv] at hQ
        walk_at "s"
        refine ⟨_, _, _, _, _, rfl, ha2, T.c_Feast, T.na_Feast_things, rfl, ?_⟩
        walk_at "s"
        refine ⟨_, _, _, _, rfl, rfl, ht2, rfl, ?_⟩
        walk_at "s"
        refine ifB (fun q6 => ?_) (fun q6 => ?_)
        · have q6 : 0 ≤ s + fe.a := of_decide_eq_true q6
          rw [if_pos q6] at hQ
          walk_at "s"
          exact hQ H2 E2
        · have q6 : ¬ 0 ≤ s + fe.a := of_decide_eq_false q6
          rw [if_neg q6] at hQ
          walk_at "s"
          exact hQ H2 E2
      · have km : fe.kind = .next := kd.elim (fun z => by
          have q5 : decide (V.str fe.kind.str = V.str FK.behind.str) = false := q5
          rw [z] at q5
          simp at q5) id
        simp only [km, hv] at hQ
        walk_at "s"
        refine ⟨_, _, _, _, _, rfl, ha2, T.c_Feast, T.na_Feast_things, rfl, ?_⟩
        walk_at "s"
        refine ⟨_, _, _, _, rfl, rfl, ht2, rfl, ?_⟩
        walk_at "s"
        refine ifB (fun q6 => ?_) (fun q6 => ?_)
        · have q6 : 0 ≤ fe.a := of_decide_eq_true q6
          walk_at "s"
          refine ⟨_, _, _, _, _, rfl, hx2, T.c_Feasts, T.na_Feasts_week, rfl, ?_⟩
          walk_at "s"
          refine ifB (fun q7 => ?_) (fun q7 => ?_)
          · have q7 : ¬ fe.a < Y.W := by simpa using q7
            rw [if_neg (fun z => q7 z.2)] at hQ
            walk_at "s"
            exact hQ H2 E2
          · have q7 : fe.a < Y.W := by simpa using q7
            rw [if_pos ⟨q6, q7⟩] at hQ
            walk_at "s"
            refine ⟨_, _, _, _, _, rfl, ha2, T.c_Feast, T.na_Feast_things, rfl, ?_⟩
            walk_at "s"
            refine ⟨_, _, _, _, rfl, rfl, ht2, rfl, ?_⟩
            walk_at "s"
            refine ⟨_, _, _, rfl, hx2, rfl, ?_⟩
            walk_at "s"
            refine ⟨x, c, fq, mv, Y.W, Y.f0, _, rfl, hX2, w1, ?_⟩
            walk_at "s"
            refine ⟨_, _, _, _, _, rfl, hx2, T.c_Feasts, T.na_Feasts_week, rfl, ?_⟩
            walk_at "s"
            refine ⟨by omega, ?_⟩
            walk_at "s"
            exact hQ H2 E2
        · have q6 : ¬ 0 ≤ fe.a := of_decide_eq_false q6
          rw [if_neg (fun z => q6 z.1)] at hQ
          walk_at "s"
          exact hQ H2 E2
theorem ok_Feasts_day (T : Tx K mg base) (tk : TOk (TT K)) : ∀ n, FnOk P w K mg base (L2.CX P w) (n + 21) (He.fAd K ("Feasts", some "day")) T.fd_Feasts_day ["self", "name", "year"] (spDay K n)
  | 0 => day_step T tk 0 (fun _ _ _ _ => False) ⟨fun _ _ _ _ h => h.elim, fun _ _ _ _ _ _ _ _ _ _ _ _ _ h => h.elim⟩ fun _ _ _ _ h _ => absurd h (by omega)
  | n + 1 => day_step T tk (n + 1) (spDay K n) (ok_Feasts_day T tk n) fun _ _ _ _ _ h => h
end K60

set_option Elab.async false
set_option linter.all false
set_option maxRecDepth 100000
set_option maxHeartbeats 2000000
namespace K60
open PySem PySem.Spec PyProof.Rows L2 MB
local macro_rules | `(tactic| walk_at "s") => `(tactic| repeat (first | refine ⟨_, rfl, ?_⟩ | refine ⟨_, _, rfl, rfl, ?_⟩ | refine ⟨_, _, rfl, ?_⟩ | refine ⟨rfl, ?_⟩))
variable {P : Program} {w : World} {K : PySem.W.Frag} {mg : Str → Option Value} {base : Heap}
/-- feasts, as they stand -/
structure FsOk (K : PySem.W.Frag) (H : Hp) (x c fq : Addr) (mv : V) (Y : Yr) (fs : List Fe) (as : List Addr) : Prop where
  at_ : FeastsAt K H x c mv Y.W Y.f0 fq
  d : FsD K H fq fs as
  cal : CalAt K H c Y.ms Y.lg Y.rs
  ms : MsV Y.ms Y.lg
  ok : ROk Y.rs
  w1 : 1 ≤ Y.W
  moon : mv ≠ .non → ∃ mp, mv = .ref mp ∧ MoonsAt (MC K) H mp Y.L Y.p Y.f ∧ MOk Y.L Y.p Y.f
  wf : WfF Y mv fs
theorem FsOk.ext {T : Tb} {M : Addr → Prop} {H H' : Hp} {x c fq : Addr} {mv : V} {Y : Yr} {fs : List Fe} {as : List Addr} (h : FsOk K H x c fq mv Y fs as) (e : Ext T M H H') (n : ¬ M fq) : FsOk K H' x c fq mv Y fs as :=
  ⟨h.at_.ext e, h.d.ext e n, h.cal.ext e, h.ms, h.ok, h.w1, fun z => by
    obtain ⟨mp, h1, h2, h3⟩ := h.moon z
    exact ⟨mp, h1, h2.ext e, h3⟩, h.wf⟩
theorem FsOk.day {H : Hp} {x c fq : Addr} {mv : V} {Y : Yr} {fs : List Fe} {as : List Addr} {n yn : Nat} {nm : Str} {Q : VK} {E : XK} (h : FsOk K H x c fq mv Y fs as) (gd : Gd (TT K) H) (hl : fs.length ≤ n + 1) (hm : nm ∈ fs.map (·.name)) (hy : yn ≤ 99999) (hb : MM.db Y.rs (MM.sh Y.ms) (yn + 1) ≤ 200000)
    (hQ : ∀ H', Ext (TT K) No H H' → Q (optV (fallV Y fs (n + 1) nm yn)) H') : spDay K n [.ref x, .str nm, .int (yn : Nat)] H Q E := by
  obtain ⟨fe, hfe, rfl⟩ := List.mem_map.mp hm
  obtain ⟨i, hi⟩ := List.getElem?_of_mem hfe
  have := (List.getElem?_eq_some_iff.mp hi).1
  exact ⟨x, c, fq, mv, Y, fs, as, fe.name, yn, rfl, h.at_, h.d, h.cal, h.ms, h.ok, gd, h.w1, h.moon, h.wf, .inl ⟨yn, i, fe, rfl, hy, hb, hi, rfl, by omega, hQ⟩⟩
theorem FsOk.no {H : Hp} {x c fq : Addr} {mv : V} {Y : Yr} {fs : List Fe} {as : List Addr} {n : Nat} {y : Int} {nm : Str} {Q : VK} {E : XK} (h : FsOk K H x c fq mv Y fs as) (gd : Gd (TT K) H) (hm : nm ∉ fs.map (·.name))
    (hE : ∀ H', Ext (TT K) No H H' → E (FE K) none H') : spDay K n [.ref x, .str nm, .int y] H Q E :=
  ⟨x, c, fq, mv, Y, fs, as, nm, y, rfl, h.at_, h.d, h.cal, h.ms, h.ok, gd, h.w1, h.moon, h.wf, .inr (.inl ⟨hm, hE⟩)⟩
theorem db_mono {Y : Yr} (mv : MsV Y.ms Y.lg) {a b : Nat} (h : a ≤ b) : MM.db Y.rs (MM.sh Y.ms) a ≤ MM.db Y.rs (MM.sh Y.ms) b := MM.db_le Y.rs mv.sh0.1 h
/-! ### Feasts.meet -/
noncomputable def meetL (Y : Yr) (fs : List Fe) (n : Nat) (n1 n2 : Str) (ya m : Nat) : List Nat := (List.range m).filter fun k => decide (fallV Y fs (n + 1) n1 (ya + k) ≠ none ∧ fallV Y fs (n + 1) n1 (ya + k) = fallV Y fs (n + 1) n2 (ya + k))
theorem meetL_succ (Y : Yr) (fs : List Fe) (n : Nat) (n1 n2 : Str) (ya m : Nat) : meetL Y fs n n1 n2 ya (m + 1) = meetL Y fs n n1 n2 ya m ++ if fallV Y fs (n + 1) n1 (ya + m) ≠ none ∧ fallV Y fs (n + 1) n1 (ya + m) = fallV Y fs (n + 1) n2 (ya + m) then [m] else [] := by
  unfold meetL
  rw [List.range_succ, List.filter_append]
  congr 1
  split
  · next h => rw [List.filter_cons_of_pos (by simpa using h)]; rfl
  · next h => rw [List.filter_cons_of_neg (by simpa using h)]; rfl
theorem meetL_len (Y : Yr) (fs : List Fe) (n : Nat) (n1 n2 : Str) (ya m : Nat) : (meetL Y fs n n1 n2 ya m).length ≤ m := by
  unfold meetL
  exact Nat.le_trans (List.length_filter_le _ _) (by rw [List.length_range]; exact Nat.le_refl _)
abbrev yrsV (ya : Nat) (l : List Nat) : List V := l.map fun k => V.int ((ya + k : Nat) : Int)
def spMeet (K : PySem.W.Frag) (n : Nat) : Sp := fun vs H Q E => ∃ (x c fq : Addr) (mv : V) (Y : Yr) (fs : List Fe) (as : List Addr) (n1 n2 : Str) (a b : Int), vs = [.ref x, .str n1, .str n2, .int a, .int b] ∧ FsOk K H x c fq mv Y fs as ∧ Gd (TT K) H ∧ fs.length ≤ n + 1 ∧
  ((b - a > 400 ∧ ∀ H', Ext (TT K) No H H' → E (FE K) none H') ∨
   (b - a ≤ 400 ∧ -100000 ≤ a ∧ a ≤ b ∧ b ≤ 100000 ∧ n1 ∉ fs.map (·.name) ∧ ∀ H', Ext (TT K) No H H' → E (FE K) none H') ∨
   (∃ ya : Nat, a = (ya : Nat) ∧ b - a ≤ 400 ∧ a ≤ b ∧ ya ≤ 99999 ∧ MM.db Y.rs (MM.sh Y.ms) (ya + 1) ≤ 200000 ∧ n1 ∈ fs.map (·.name) ∧ n2 ∉ fs.map (·.name) ∧ fallV Y fs (n + 1) n1 ya ≠ none ∧ ∀ H', Ext (TT K) No H H' → E (FE K) none H') ∨
   (∃ (ya m : Nat), a = (ya : Nat) ∧ b = (ya : Nat) + (m : Nat) - 1 ∧ m ≤ 401 ∧ ya + m ≤ 99999 ∧ MM.db Y.rs (MM.sh Y.ms) (ya + m) ≤ 200000 ∧ n1 ∈ fs.map (·.name) ∧ n2 ∈ fs.map (·.name) ∧
     ∀ t H', SqT K H' t (yrsV ya (meetL Y fs n n1 n2 ya m)) → Ext (TT K) No H H' → Q (.ref t) H'))
theorem ok_Feasts_meet (T : Tx K mg base) (tk : TOk (TT K)) (n : Nat) : FnOk P w K mg base (L2.CX P w) (n + 22) (He.fAd K ("Feasts", some "meet")) T.fd_Feasts_meet ["self", "one", "other", "first", "last"] (spMeet K n) := by
  have ok_Feasts_day := fun T : Tx K mg base => ok_Feasts_day (P := P) (w := w) T tk n
  refine T.F_Feasts_meet.ok sc_Feasts_meet (fun vs H Q E h => ?_) (fun cdv A outer s H vs Q E hr h => ⟨_, (pss_cons (ps_if (pt_cmpR op_gt (pe_op op_sub (pv 4) (pv 3)) pe_int (nomark _)) (pss_one (ps_raise rfl (takes_of rfl rfl rfl rfl) (pmk_own PySem.F.excBase_ValueError T.x_FeastError.1 T.g_FeastError T.x_FeastError.2.1 (raises_own T.x_FeastError.2.2.1 T.x_FeastError.2.2.2) rfl))) pss_nil)
 (pss_cons (ps_set (i := 5) sc_Feasts_meet.nd rfl (Or.inl rfl) (pe_lstN (T := TT K) pa_nil))
 (pss_cons (ps_for (passes_of rfl) rfl (pi_range2 rfl T.b_range (pa_cons (pv 3) (pa_cons (pe_op op_add (pv 4) pe_int) pa_nil))) (pg_name (i := 6) sc_Feasts_meet.nd rfl (Or.inl rfl)) (pss_cons (ps_set (i := 7) sc_Feasts_meet.nd rfl (Or.inl rfl) (pe_meth (pv 0) T.c_Feasts T.m_Feasts_day (ok_Feasts_day T) (hr.mono (by first | decide | omega)) (bi_Feasts_day T) .nil (passes_call (takes_of rfl rfl rfl rfl) fun _ _ _ _ h => h) (pa_cons (pv 1) (pa_cons (pv 6) pa_nil))))
 (pss_one (ps_if (PW.pt (pw_and (pt_cmpR op_notN (pv 7) pe_non (nomark _)) (pw_and1 (pt_cmpR op_eq (pv 7) (pe_meth (pv 0) T.c_Feasts T.m_Feasts_day (ok_Feasts_day T) (hr.mono (by first | decide | omega)) (bi_Feasts_day T) .nil (passes_call (takes_of rfl rfl rfl rfl) fun _ _ _ _ h => h) (pa_cons (pv 2) (pa_cons (pv 6) pa_nil))) (nomark _))))) (pss_one (ps_expr (pe_bmK (K := K) rfl PySem.F.plainAttrs_list PySem.F.slot_list_append PySem.F.type_list_append (mt_appN (T := TT K)) (pv 5) (pa_cons (pv 6) pa_nil)))) pss_nil))))
 (pss_one (ps_ret (pe_callTy (call_tupleM (T := TT K) (K := K) rfl) rfl T.b_tuple (by decide +kernel) (pa_cons (pv 5) pa_nil))))))), ?_⟩)
  · obtain ⟨x, c, fq, mv, Y, fs, as, n1, n2, a, b, rfl, _⟩ := h
    rfl
  · obtain ⟨x, c, fq, mv, Y, fs, as, n1, n2, a, b, rfl, F, gd, hln, hcase⟩ := h
    obtain ⟨dx, hx⟩ := id F.at_
    walk_at "s"
    rcases hcase with ⟨h4, hE⟩ | hcase
    · refine ifB (fun _ => ?_) (fun z => absurd h4 (fun z2 => of_decide_eq_false z z2))
      walk_at "s"
      exact hE H .refl
    have h4 : ¬ (400 : Int) < b - a := by
      rcases hcase with ⟨z, _⟩ | ⟨ya, _, z, _⟩ | ⟨ya, m, z1, z2, z3, _⟩ <;> omega
    refine ifB (fun z => absurd (of_decide_eq_true z) h4) (fun _ => ?_)
    walk_at "s"
    refine ⟨sz, fun D H1 hD hv1 e1 => ?_⟩
    have F1 := F.ext e1 id
    have hx1 := e1.fix _ _ hx rfl
    have gd1 := e1.gd gd
    walk_at "s"
    rcases hcase with ⟨_, a0, ab, b1, hno, hE⟩ | ⟨ya, rfl, _, ab, hy, hb, hm1, hno, hne, hE⟩ | ⟨ya, m, rfl, rfl, hm4, hy, hb, hm1, hm2, hQ⟩
    · refine ⟨⟨by omega, by omega, by omega, by omega⟩, ?_⟩
      refine for_range (fun i σ' H' => i = 0 ∧ σ' = [some (V.ref x), some (V.str n1), some (V.str n2), some (V.int a), some (V.int b), some (V.ref D), none, none] ∧ H' = H1) ⟨rfl, rfl, rfl⟩ ?_ (fun σ' H' h => absurd h.1 (by omega))
      rintro i σ' H' hi ⟨rfl, rfl, rfl⟩
      walk_at "s"
      refine ⟨_, _, _, rfl, hx1, rfl, ?_⟩
      walk_at "s"
      try delta tNil
      dsimp only
      show spDay K n [.ref x, .str n1, .int (a + ((0 : Nat) : Int))] H' _ _
      exact F1.no gd1 hno fun H2 e2 => hE H2 (e1.trans e2)
    · refine ⟨⟨by omega, by omega, by omega, by omega⟩, ?_⟩
      refine for_range (fun i σ' H' => i = 0 ∧ σ' = [some (V.ref x), some (V.str n1), some (V.str n2), some (V.int (ya : Nat)), some (V.int b), some (V.ref D), none, none] ∧ H' = H1) ⟨rfl, rfl, rfl⟩ ?_ (fun σ' H' h => absurd h.1 (by omega))
      rintro i σ' H' hi ⟨rfl, rfl, rfl⟩
      walk_at "s"
      refine ⟨_, _, _, rfl, hx1, rfl, ?_⟩
      have e0 : ((ya : Nat) : Int) + ((0 : Nat) : Int) = ((ya : Nat) : Int) := by omega
      rw [e0]
      walk_at "s"
      try delta tNil
      dsimp only
      show spDay K n [.ref x, .str n1, .int (ya : Nat)] H' _ _
      refine F1.day gd1 hln hm1 hy hb fun H2 e2 => ?_
      obtain ⟨s1, hs1⟩ : ∃ s1, fallV Y fs (n + 1) n1 ya = some s1 := by
        cases h : fallV Y fs (n + 1) n1 ya with
        | none => exact absurd h hne
        | some s1 => exact ⟨s1, rfl⟩
      rw [hs1]
      walk_at "s"
      refine ⟨_, _, _, rfl, e2.fix _ _ hx1 rfl, rfl, ?_⟩
      walk_at "s"
      try delta tNil
      dsimp only
      show spDay K n [.ref x, .str n2, .int (ya : Nat)] H2 _ _
      exact (F1.ext e2 id).no (e2.gd gd1) hno fun H3 e3 => hE H3 ((e1.trans e2).trans e3)
    · refine ⟨⟨by omega, by omega, by omega, by omega⟩, ?_⟩
      have hn : (((ya : Nat) : Int) + (m : Nat) - 1 + 1 - (ya : Nat)).toNat = m := by omega
      rw [hn]
      refine for_range (fun i σ' H' => ∃ u6 u7, σ' = [some (V.ref x), some (V.str n1), some (V.str n2), some (V.int (ya : Nat)), some (V.int (((ya : Nat) : Int) + (m : Nat) - 1)), some (V.ref D), u6, u7] ∧ H' D = some (.lst (yrsV ya (meetL Y fs n n1 n2 ya i))) ∧ Ext (TT K) No H H') ⟨none, none, rfl, hv1, e1⟩ ?_ ?_
      · rintro i σ' H' hi ⟨u6, u7, rfl, hv, e⟩
        have hlen := meetL_len Y fs n n1 n2 ya i
        have e0 : ((ya : Nat) : Int) + ((i : Nat) : Int) = ((ya + i : Nat) : Int) := by omega
        rw [e0]
        have F2 := F.ext e id
        have hx2 := e.fix _ _ hx rfl
        walk_at "s"
        refine ⟨_, _, _, rfl, hx2, rfl, ?_⟩
        walk_at "s"
        try delta tNil
        dsimp only
        show spDay K n [.ref x, .str n1, .int ((ya + i : Nat) : Int)] H' _ _
        refine F2.day (e.gd gd) hln hm1 (by omega) (Nat.le_trans (db_mono F.ms (by omega)) hb) fun H2 e2 => ?_
        have hv2 := e2.lst _ _ hv id
        cases h1 : fallV Y fs (n + 1) n1 (ya + i) with
        | none =>
          walk_at "s"
          refine ⟨?_, e.trans e2⟩
          rw [meetL_succ, if_neg (fun z => z.1 h1), List.append_nil]
          exact hv2
        | some s1 =>
          walk_at "s"
          refine ⟨_, _, _, rfl, e2.fix _ _ hx2 rfl, rfl, ?_⟩
          walk_at "s"
          try delta tNil
          dsimp only
          show spDay K n [.ref x, .str n2, .int ((ya + i : Nat) : Int)] H2 _ _
          refine (F2.ext e2 id).day (e2.gd (e.gd gd)) hln hm2 (by omega) (Nat.le_trans (db_mono F.ms (by omega)) hb) fun H3 e3 => ?_
          have hv3 := e3.lst _ _ hv2 id
          have E3 := (e.trans e2).trans e3
          walk_at "s"
          cases h2 : fallV Y fs (n + 1) n2 (ya + i) with
          | none =>
            refine ⟨rfl, ?_⟩
            walk_at "s"
            refine ⟨?_, E3⟩
            rw [meetL_succ, if_neg (fun z => by rw [h1, h2] at z; cases z.2), List.append_nil]
            exact hv3
          | some s2 =>
            refine ⟨rfl, ?_⟩
            walk_at "s"
            refine ifB (fun q1 => ?_) (fun q1 => ?_)
            · have q1 : s1 = s2 := by
                have q1 : decide (V.int s1 = V.int s2) = true := q1
                simpa using q1
              walk_at "s"
              refine ⟨.inl ⟨rfl, _, .inl (.inl hv3)⟩, ?_⟩
              walk_at "s"
              refine ⟨D, _, _, rfl, rfl, hv3, by rw [List.length_map]; exact szl (by omega), fun H4 hv4 e4 => ?_⟩
              refine ⟨_, _, rfl, ?_, ((E3.no (M := (· = D))).trans e4).mono1 (NoM.of hD)⟩
              rw [meetL_succ, if_pos ⟨by rw [h1]; simp, by rw [h1, h2, q1]⟩, hv4]
              show _ = some (HO.lst ((meetL Y fs n n1 n2 ya i ++ [i]).map _))
              rw [List.map_append]
              rfl
            · have q1 : ¬ s1 = s2 := by
                have q1 : decide (V.int s1 = V.int s2) = false := q1
                simpa using q1
              walk_at "s"
              refine ⟨?_, E3⟩
              rw [meetL_succ, if_neg (fun z => by rw [h1, h2] at z; exact q1 (Option.some.inj z.2)), List.append_nil]
              exact hv3
      · rintro σ' H' ⟨u6, u7, rfl, hv, e⟩
        walk_at "s"
        refine ⟨_, _, rfl, .inl (SqL.of hv), fun t H2 ht e2 => ?_⟩
        walk_at "s"
        exact hQ t H2 ht (e.trans e2)
end K60

set_option Elab.async false
set_option linter.all false
set_option maxRecDepth 100000
set_option maxHeartbeats 2000000
namespace K60
open PySem PySem.Spec PyProof.Rows L2 MB
local macro_rules | `(tactic| walk_at "s") => `(tactic| repeat (first | refine ⟨_, rfl, ?_⟩ | refine ⟨_, _, rfl, rfl, ?_⟩ | refine ⟨_, _, rfl, ?_⟩ | refine ⟨rfl, ?_⟩))
variable {P : Program} {w : World} {K : PySem.W.Frag} {mg : Str → Option Value} {base : Heap}
theorem _root_.MB.cr_minK {X : Cx} {K : PySem.W.Frag} (h : X.K = K) (hc : X.calm = true) : CallR X (.builtin "min") (rMin K) := by subst h; exact cr_min hc
theorem _root_.MB.cr_maxK {X : Cx} {K : PySem.W.Frag} (h : X.K = K) (hc : X.calm = true) : CallR X (.builtin "max") (rMax K) := by subst h; exact cr_max hc
/-! ### Feasts.spread -/
noncomputable def sprL (Y : Yr) (fs : List Fe) (n : Nat) (nm : Str) (ya m : Nat) : List Int := (List.range m).filterMap fun k => (fallV Y fs (n + 1) nm (ya + k)).map fun d => d - (MM.db Y.rs (MM.sh Y.ms) (ya + k) : Nat)
theorem sprL_succ (Y : Yr) (fs : List Fe) (n : Nat) (nm : Str) (ya m : Nat) : sprL Y fs n nm ya (m + 1) = sprL Y fs n nm ya m ++ ((fallV Y fs (n + 1) nm (ya + m)).map fun d => d - ((MM.db Y.rs (MM.sh Y.ms) (ya + m) : Nat) : Int)).toList := by
  unfold sprL
  rw [List.range_succ, List.filterMap_append]
  congr 1
theorem sprL_len (Y : Yr) (fs : List Fe) (n : Nat) (nm : Str) (ya m : Nat) : (sprL Y fs n nm ya m).length ≤ m := by
  unfold sprL
  exact Nat.le_trans (List.length_filterMap_le _ _) (by rw [List.length_range]; exact Nat.le_refl _)
def spSpr (K : PySem.W.Frag) (n : Nat) : Sp := fun vs H Q E => ∃ (x c fq : Addr) (mv : V) (Y : Yr) (fs : List Fe) (as : List Addr) (nm : Str) (a b : Int), vs = [.ref x, .str nm, .int a, .int b] ∧ FsOk K H x c fq mv Y fs as ∧ Gd (TT K) H ∧ fs.length ≤ n + 1 ∧
  ((b - a > 400 ∧ ∀ H', Ext (TT K) No H H' → E (FE K) none H') ∨
   (b - a ≤ 400 ∧ -100000 ≤ a ∧ a ≤ b ∧ b ≤ 100000 ∧ nm ∉ fs.map (·.name) ∧ ∀ H', Ext (TT K) No H H' → E (FE K) none H') ∨
   (∃ (ya m : Nat), a = (ya : Nat) ∧ b = (ya : Nat) + (m : Nat) - 1 ∧ m ≤ 401 ∧ ya + m ≤ 99999 ∧ MM.db Y.rs (MM.sh Y.ms) (ya + m) ≤ 200000 ∧ nm ∈ fs.map (·.name) ∧
     (sprL Y fs n nm ya m = [] → ∀ H', Ext (TT K) No H H' → Q .non H') ∧
     (∀ lo hi, lo ∈ sprL Y fs n nm ya m → (∀ y ∈ sprL Y fs n nm ya m, lo ≤ y) → hi ∈ sprL Y fs n nm ya m → (∀ y ∈ sprL Y fs n nm ya m, y ≤ hi) → ∀ t H', H' t = some (.tup [.int lo, .int hi]) → Ext (TT K) No H H' → Q (.ref t) H')))
theorem ok_Feasts_spread (T : Tx K mg base) (tk : TOk (TT K)) (n : Nat) : FnOk P w K mg base (L2.CX P w) (n + 22) (He.fAd K ("Feasts", some "spread")) T.fd_Feasts_spread ["self", "name", "first", "last"] (spSpr K n) := by
  have ok_Feasts_day := fun T : Tx K mg base => ok_Feasts_day (P := P) (w := w) T tk n
  have ok_Calendar_short := fun T : Tx K mg base => ok_Calendar_short (P := P) (w := w) T tk
  refine T.F_Feasts_spread.ok sc_Feasts_spread (fun vs H Q E h => ?_) (fun cdv A outer s H vs Q E hr h => ⟨_, (pss_cons (ps_if (pt_cmpR op_gt (pe_op op_sub (pv 3) (pv 2)) pe_int (nomark _)) (pss_one (ps_raise rfl (takes_of rfl rfl rfl rfl) (pmk_own PySem.F.excBase_ValueError T.x_FeastError.1 T.g_FeastError T.x_FeastError.2.1 (raises_own T.x_FeastError.2.2.1 T.x_FeastError.2.2.2) rfl))) pss_nil)
 (pss_cons (ps_set (i := 4) sc_Feasts_spread.nd rfl (Or.inl rfl) (pe_lstN (T := TT K) pa_nil))
 (pss_cons (ps_for (passes_of rfl) rfl (pi_range2 rfl T.b_range (pa_cons (pv 2) (pa_cons (pe_op op_add (pv 3) pe_int) pa_nil))) (pg_name (i := 5) sc_Feasts_spread.nd rfl (Or.inl rfl)) (pss_cons (ps_set (i := 6) sc_Feasts_spread.nd rfl (Or.inl rfl) (pe_meth (pv 0) T.c_Feasts T.m_Feasts_day (ok_Feasts_day T) (hr.mono (by first | decide | omega)) (bi_Feasts_day T) .nil (passes_call (takes_of rfl rfl rfl rfl) fun _ _ _ _ h => h) (pa_cons (pv 1) (pa_cons (pv 5) pa_nil))))
 (pss_one (ps_if (pt_cmpR op_notN (pv 6) pe_non (nomark _)) (pss_one (ps_expr (pe_bmK (K := K) rfl PySem.F.plainAttrs_list PySem.F.slot_list_append PySem.F.type_list_append (mt_appN (T := TT K)) (pv 4) (pa_cons (pe_op op_sub (pv 6) (pe_meth (pe_fldK (K := K) rfl (pe_fldK (K := K) rfl (pv 0) rfl) rfl) T.c_Leaps T.m_Leaps_days_before (ok_Leaps_days_before T) (hr.mono (by first | decide | omega)) (bi_Leaps_days_before T) .nil (passes_call (takes_of rfl rfl rfl rfl) fun _ _ _ _ h => h) (pa_cons (pv 5) (pa_cons (pe_meth0 (pe_fldK (K := K) rfl (pv 0) rfl) T.c_Calendar T.m_Calendar_short (ok_Calendar_short T) (hr.mono (by first | decide | omega)) (bi_Calendar_short T) .nil (passes_call (takes_of rfl rfl rfl rfl) fun _ _ _ _ h => h)) pa_nil)))) pa_nil)))) pss_nil))))
 (pss_one (ps_ret (pe_ifExp (pt_cmpR (op_neDK (K := K) rfl hr.units) (pv 4) (pe_lstN (T := TT K) pa_nil) (nomark _)) (pe_tupN (T := TT K) (pa_cons (pe_callB (MB.cr_minK (K := K) rfl rfl) rfl T.b_min (by decide +kernel) (pa_cons (pv 4) pa_nil)) (pa_cons (pe_callB (MB.cr_maxK (K := K) rfl rfl) rfl T.b_max (by decide +kernel) (pa_cons (pv 4) pa_nil)) pa_nil))) pe_non)))))), ?_⟩)
  · obtain ⟨x, c, fq, mv, Y, fs, as, nm, a, b, rfl, _⟩ := h
    rfl
  · obtain ⟨x, c, fq, mv, Y, fs, as, nm, a, b, rfl, F, gd, hln, hcase⟩ := h
    obtain ⟨dx, hx⟩ := id F.at_
    obtain ⟨dx9, p9, ts9, lp9, l1, l2, l3, l4⟩ := id F.cal
    walk_at "s"
    rcases hcase with ⟨h4, hE⟩ | hcase
    · refine ifB (fun _ => ?_) (fun z => absurd h4 (fun z2 => of_decide_eq_false z z2))
      walk_at "s"
      exact hE H .refl
    have h4 : ¬ (400 : Int) < b - a := by
      rcases hcase with ⟨z, _⟩ | ⟨ya, m, z1, z2, z3, _⟩ <;> omega
    refine ifB (fun z => absurd (of_decide_eq_true z) h4) (fun _ => ?_)
    walk_at "s"
    refine ⟨sz, fun D H1 hD hv1 e1 => ?_⟩
    have F1 := F.ext e1 id
    have hx1 := e1.fix _ _ hx rfl
    have gd1 := e1.gd gd
    walk_at "s"
    rcases hcase with ⟨_, a0, ab, b1, hno, hE⟩ | ⟨ya, m, rfl, rfl, hm4, hy, hb, hm1, hQ0, hQ⟩
    · refine ⟨⟨by omega, by omega, by omega, by omega⟩, ?_⟩
      refine for_range (fun i σ' H' => i = 0 ∧ σ' = [some (V.ref x), some (V.str nm), some (V.int a), some (V.int b), some (V.ref D), none, none] ∧ H' = H1) ⟨rfl, rfl, rfl⟩ ?_ (fun σ' H' h => absurd h.1 (by omega))
      rintro i σ' H' hi ⟨rfl, rfl, rfl⟩
      walk_at "s"
      refine ⟨_, _, _, rfl, hx1, rfl, ?_⟩
      walk_at "s"
      try delta tNil
      dsimp only
      show spDay K n [.ref x, .str nm, .int (a + ((0 : Nat) : Int))] H' _ _
      exact F1.no gd1 hno fun H2 e2 => hE H2 (e1.trans e2)
    · refine ⟨⟨by omega, by omega, by omega, by omega⟩, ?_⟩
      have hn : (((ya : Nat) : Int) + (m : Nat) - 1 + 1 - (ya : Nat)).toNat = m := by omega
      rw [hn]
      refine for_range (fun i σ' H' => ∃ u6 u7, σ' = [some (V.ref x), some (V.str nm), some (V.int (ya : Nat)), some (V.int (((ya : Nat) : Int) + (m : Nat) - 1)), some (V.ref D), u6, u7] ∧ H' D = some (.lst ((sprL Y fs n nm ya i).map V.int)) ∧ Ext (TT K) No H H') ⟨none, none, rfl, hv1, e1⟩ ?_ ?_
      · rintro i σ' H' hi ⟨u6, u7, rfl, hv, e⟩
        have hlen := sprL_len Y fs n nm ya i
        have e0 : ((ya : Nat) : Int) + ((i : Nat) : Int) = ((ya + i : Nat) : Int) := by omega
        rw [e0]
        have F2 := F.ext e id
        have hx2 := e.fix _ _ hx rfl
        walk_at "s"
        refine ⟨_, _, _, rfl, hx2, rfl, ?_⟩
        walk_at "s"
        try delta tNil
        dsimp only
        show spDay K n [.ref x, .str nm, .int ((ya + i : Nat) : Int)] H' _ _
        refine F2.day (e.gd gd) hln hm1 (by omega) (Nat.le_trans (db_mono F.ms (by omega)) hb) fun H2 e2 => ?_
        have hv2 := e2.lst _ _ hv id
        have E2 := e.trans e2
        cases h1 : fallV Y fs (n + 1) nm (ya + i) with
        | none =>
          walk_at "s"
          refine ⟨?_, E2⟩
          rw [sprL_succ, h1]
          simpa using hv2
        | some s1 =>
          have hx3 := e2.fix _ _ hx2 rfl
          have hc3 := E2.fix _ _ l1 rfl
          have hL3 := l4.ext E2
          obtain ⟨d8, p8, ts8, g1, _, _⟩ := id hL3
          walk_at "s"
          refine ⟨.inl ⟨rfl, _, .inl (.inl hv2)⟩, ?_⟩
          walk_at "s"
          refine ⟨_, _, _, _, _, rfl, hx3, T.c_Feasts, T.na_Feasts_calendar, rfl, ?_⟩
          walk_at "s"
          refine ⟨_, _, _, _, _, rfl, hc3, T.c_Calendar, T.na_Calendar_leaps, rfl, ?_⟩
          walk_at "s"
          refine ⟨_, _, _, rfl, g1, rfl, ?_⟩
          walk_at "s"
          refine ⟨_, _, _, _, _, rfl, hx3, T.c_Feasts, T.na_Feasts_calendar, rfl, ?_⟩
          walk_at "s"
          refine ⟨_, _, _, rfl, hc3, rfl, ?_⟩
          walk_at "s"
          refine ⟨c, Y.ms, Y.lg, Y.rs, rfl, F.cal.ext E2, F.ms, E2.gd gd, fun H3 e3 => ?_⟩
          have sh := F.ms.sh0
          walk_at "s"
          refine ⟨lp9, Y.rs, _, _, rfl, hL3.ext e3, F.ok, by omega, fun _ _ _ H4 e4 => ?_, fun z => absurd ⟨by omega, by omega, by omega⟩ z⟩
          rw [Int.toNat_natCast, Int.toNat_natCast]
          have hv4 := e4.lst _ _ (e3.lst _ _ hv2 id) id
          have E4 := (E2.trans e3).trans e4
          walk_at "s"
          refine ⟨D, _, _, rfl, rfl, hv4, by rw [List.length_map]; exact szl (by omega), fun H5 hv5 e5 => ?_⟩
          refine ⟨_, _, rfl, ?_, ((E4.no (M := (· = D))).trans e5).mono1 (NoM.of hD)⟩
          rw [sprL_succ, h1, hv5]
          show _ = some (HO.lst ((sprL Y fs n nm ya i ++ [_]).map _))
          rw [List.map_append]
          rfl
      · rintro σ' H' ⟨u6, u7, rfl, hv, e⟩
        walk_at "s"
        refine ⟨sz, fun l3 H3 hl3 hv3 e3 => ?_⟩
        refine ⟨_, _, dpInts (e3.lst _ _ hv id), .lst (SqL.of hv3) .nil, shInts _, rfl, ?_⟩
        have hne : PyData.eqv (.list ((sprL Y fs n nm ya m).map PyData.int)) (.list []) = decide (sprL Y fs n nm ya m = []) := by
          cases sprL Y fs n nm ya m with
          | nil => rfl
          | cons _ _ => rfl
        rw [hne]
        have hv4 := e3.lst _ _ hv id
        have E3 := e.trans e3
        walk_at "s"
        refine ifB (fun q1 => ?_) (fun q1 => ?_)
        · have q1 : ¬ sprL Y fs n nm ya m = [] := by simpa using q1
          have hlen : 0 < (sprL Y fs n nm ya m).length := List.length_pos_iff.mpr q1
          walk_at "s"
          refine ⟨_, _, rfl, SqL.of hv4, hlen, fun lo hlo hlo2 => ?_⟩
          walk_at "s"
          refine ⟨_, _, rfl, SqL.of hv4, hlen, fun hi hhi hhi2 => ?_⟩
          walk_at "s"
          refine ⟨sz, fun t H5 ht hv5 e5 => ?_⟩
          exact hQ lo hi hlo hlo2 hhi hhi2 t H5 hv5 (E3.trans e5)
        · have q1 : sprL Y fs n nm ya m = [] := by simpa using q1
          walk_at "s"
          exact hQ0 q1 H3 E3
end K60

set_option Elab.async false
set_option linter.all false
set_option maxRecDepth 100000
set_option maxHeartbeats 2000000
namespace K60
open PySem PySem.Spec PyProof.Rows L2 MB
local macro_rules | `(tactic| walk_at "s") => `(tactic| repeat (first | refine ⟨_, rfl, ?_⟩ | refine ⟨_, _, rfl, rfl, ?_⟩ | refine ⟨_, _, rfl, ?_⟩ | refine ⟨rfl, ?_⟩))
variable {P : Program} {w : World} {K : PySem.W.Frag} {mg : Str → Option Value} {base : Heap}
/-! ### Feasts.year -/
abbrev Row := Int × Nat × Str
def rowD3 (r : Row) : PyData := .tuple [.int r.1, .int (r.2.1 : Nat), .str r.2.2]
noncomputable def rowsY (Y : Yr) (fs : List Fe) (n y k : Nat) : List Row := (List.range k).filterMap fun i => match fs[i]? with
  | none => none
  | some fe => (fallV Y fs (n + 1) fe.name y).map fun d => (d, i, fe.name)
def sortR (rows : List Row) : List Row := rows.mergeSort fun a b => PySem.W.dataLe false id (rowD3 a) (rowD3 b)
theorem sortD_rows (rows : List Row) : sortD (rows.map rowD3) = (sortR rows).map rowD3 := by
  unfold sortD sortR
  rw [PySem.W.sort_maps (r := fun a b => PySem.W.dataLe false id (rowD3 a) (rowD3 b)) (s := PySem.W.dataLe false id) rowD3 fun a _ b _ => rfl]
theorem rowsY_succ {Y : Yr} {fs : List Fe} {n y k : Nat} {fe : Fe} (h : fs[k]? = some fe) : rowsY Y fs n y (k + 1) = rowsY Y fs n y k ++ ((fallV Y fs (n + 1) fe.name y).map fun d => ((d, k, fe.name) : Row)).toList := by
  unfold rowsY
  rw [List.range_succ, List.filterMap_append]
  congr 1
  cases e : fallV Y fs (n + 1) fe.name y <;> simp [h, e]
theorem rowsY_len (Y : Yr) (fs : List Fe) (n y k : Nat) : (rowsY Y fs n y k).length ≤ k := by
  unfold rowsY
  exact Nat.le_trans (List.length_filterMap_le _ _) (by rw [List.length_range]; exact Nat.le_refl _)
def RowsAt (H : Hp) (ps : List Addr) (rs : List Row) : Prop := ps.length = rs.length ∧ ∀ (i : Nat) (p : Addr) (r : Row), ps[i]? = some p → rs[i]? = some r → H p = some (.tup [.int r.1, .int (r.2.1 : Nat), .str r.2.2])
theorem RowsAt.ext {T : Tb} {M : Addr → Prop} {H H' : Hp} {ps : List Addr} {rs : List Row} (h : RowsAt H ps rs) (e : Ext T M H H') : RowsAt H' ps rs := ⟨h.1, fun i p r h1 h2 => e.fix _ _ (h.2 i p r h1 h2) rfl⟩
theorem RowsAt.snoc {H : Hp} {ps : List Addr} {rs : List Row} {p : Addr} {r : Row} (h : RowsAt H ps rs) (hp : H p = some (.tup [.int r.1, .int (r.2.1 : Nat), .str r.2.2])) : RowsAt H (ps ++ [p]) (rs ++ [r]) := by
  refine ⟨by rw [List.length_append, List.length_append, h.1]; rfl, fun i q r2 h1 h2 => ?_⟩
  rcases Nat.lt_or_ge i ps.length with z | z
  · rw [List.getElem?_append_left z] at h1
    rw [List.getElem?_append_left (by rw [← h.1]; exact z)] at h2
    exact h.2 i q r2 h1 h2
  · have hi : i = ps.length := by
      have := (List.getElem?_eq_some_iff.mp h1).1
      rw [List.length_append] at this
      simp at this
      omega
    subst hi
    rw [List.getElem?_append_right (Nat.le_refl _), Nat.sub_self] at h1
    rw [h.1, List.getElem?_append_right (Nat.le_refl _), Nat.sub_self] at h2
    cases h1
    cases h2
    exact hp
def spYear (K : PySem.W.Frag) (n : Nat) : Sp := fun vs H Q E => ∃ (x c fq : Addr) (mv : V) (Y : Yr) (fs : List Fe) (as : List Addr) (y : Nat), vs = [.ref x, .int (y : Nat)] ∧ FsOk K H x c fq mv Y fs as ∧ H fq = some (.dK (kvF fs as)) ∧ Gd (TT K) H ∧ fs.length ≤ n + 1 ∧ fs.length ≤ 50 ∧ y ≤ 99999 ∧ MM.db Y.rs (MM.sh Y.ms) (y + 1) ≤ 200000 ∧
  ∀ t (ps : List Addr) H', H' t = some (.tup (ps.map V.ref)) → ps.length = (sortR (rowsY Y fs n y fs.length)).length → (∀ (i : Nat) (p : Addr) (r : Row), ps[i]? = some p → (sortR (rowsY Y fs n y fs.length))[i]? = some r → H' p = some (.tup [.int r.1, .str r.2.2])) → Ext (TT K) No H H' → Q (.ref t) H'
theorem ok_Feasts_year (T : Tx K mg base) (tk : TOk (TT K)) (n : Nat) : FnOk P w K mg base (L2.CX P w) (n + 30) (He.fAd K ("Feasts", some "year")) T.fd_Feasts_year ["self", "year"] (spYear K n) := by
  have ok_Feasts_day := fun T : Tx K mg base => ok_Feasts_day (P := P) (w := w) T tk n
  refine MB.FunD.okC (d := ("Feasts", some "year")) T.F_Feasts_year sc_Feasts_year (fun vs H Q E h => ?_) (fun A outer s H vs Q E hr h => ⟨_, (pss_cons (ps_set (i := 2) sc_Feasts_year.nd rfl (Or.inl rfl) (pe_lstN (T := TT K) pa_nil))
 (pss_cons (ps_lock (ps_for (passes_of rfl) rfl (ME.pi_enumD rfl T.b_enumerate (pa_cons (pe_fldK (K := K) rfl (pv 0) rfl) pa_nil)) (pg_tupK (K := K) (n := 2) rfl rfl (pgs_cons (pg_name (i := 3) sc_Feasts_year.nd rfl (Or.inl rfl)) (pgs_cons (pg_name (i := 4) sc_Feasts_year.nd rfl (Or.inl rfl)) pgs_nil))) (pss_cons (ps_set (i := 5) sc_Feasts_year.nd rfl (Or.inl rfl) (pe_meth (pv 0) T.c_Feasts T.m_Feasts_day (ok_Feasts_day T) (hr.mono (by first | decide | omega)) (bi_Feasts_day T) .nil (passes_call (takes_of rfl rfl rfl rfl) fun _ _ _ _ h => h) (pa_cons (pv 4) (pa_cons (pv 1) pa_nil))))
 (pss_one (ps_if (pt_cmpR op_notN (pv 5) pe_non (nomark _)) (pss_one (ps_expr (pe_bmK (K := K) rfl PySem.F.plainAttrs_list PySem.F.slot_list_append PySem.F.type_list_append (mt_appN (T := TT K)) (pv 2) (pa_cons (pe_tupN (T := TT K) (pa_cons (pv 5) (pa_cons (pv 3) (pa_cons (pv 4) pa_nil)))) pa_nil)))) pss_nil)))))
 (pss_one (ps_ret (MG.pe_tupG (g := (gTup K 3 (gCons (gName 5) (gCons (gName 3) (gCons (gName 4) gNil))))) (k := 1) (hr.mono (by first | decide | omega)) rfl T.b_tuple (by decide +kernel) sc_Feasts_year.nd T.tb_Feasts_year rfl (MG.geOk_by (N := ["self", "year", "rows", "place", "name", "day"]) (sc := defScope s_Feasts_year) (own := [("day", 5), ("place", 3), ("name", 4)]) (by decide +kernel)) (pi_listK (K := K) rfl (pe_callB (MB.cr_sortedDat (T := TT K) (K := K) rfl rfl hr.units) rfl T.b_sorted (by decide +kernel) (pa_cons (pv 2) pa_nil))) (fun _ _ _ _ _ => (pg_tupK (K := K) (n := 3) rfl rfl (pgs_cons (pg_name (i := 5) sc_Feasts_year.nd rfl (by first | exact Or.inl rfl | exact Or.inr rfl)) (pgs_cons (pg_name (i := 3) sc_Feasts_year.nd rfl (by first | exact Or.inl rfl | exact Or.inr rfl)) (pgs_cons (pg_name (i := 4) sc_Feasts_year.nd rfl (by first | exact Or.inl rfl | exact Or.inr rfl)) pgs_nil))))) (fun _ _ _ _ _ hrg => (pe_tupN (T := TT K) (pa_cons (pv 5) (pa_cons (pv 4) pa_nil))))))))), ?_⟩)
  · obtain ⟨x, c, fq, mv, Y, fs, as, y, rfl, _⟩ := h
    rfl
  · obtain ⟨x, c, fq, mv, Y, fs, as, y, rfl, F, hfq, gd, hln, hl50, hy, hb, hQ⟩ := h
    obtain ⟨dx, hx⟩ := id F.at_
    refine ⟨sz, fun D H1 hD hv1 e1 => ?_⟩
    have F1 := F.ext e1 id
    have hfq1 := e1.dk _ _ hfq id
    have hDf : D ≠ fq := fun z => by rw [z, hfq] at hD; cases hD
    refine ⟨fq, _, hfq1, True.intro, fun od => ?_⟩
    have eL : Ext (TT K) (· = fq) H1 (upd H1 fq (.frz od (.dK (kvF fs as)))) := Ext.setK hfq1 rfl
    have hfz : (upd H1 fq (.frz od (.dK (kvF fs as)))) fq = some (.frz od (.dK (kvF fs as))) := upd_same
    have hv2 : (upd H1 fq (.frz od (.dK (kvF fs as)))) D = some (.lst []) := by rw [upd_ne hDf]; exact hv1
    generalize upd H1 fq (.frz od (.dK (kvF fs as))) = H2 at eL hfz hv2
    have F2 : FsOk K H2 x c fq mv Y fs as := ⟨F1.at_.ext eL, ⟨F1.d.len, .inr ⟨od, hfz⟩, fun i f a h1 h2 => (F1.d.each i f a h1 h2).ext eL⟩, F1.cal.ext eL, F1.ms, F1.ok, F1.w1, fun z => by
      obtain ⟨mp, h1, h2, h3⟩ := F1.moon z
      exact ⟨mp, h1, h2.ext eL, h3⟩, F1.wf⟩
    have gd2 := eL.gd (e1.gd gd)
    obtain ⟨dx2, hx2⟩ := id F2.at_
    have hl := F.d.len
    walk_at "s"
    refine ⟨_, _, _, _, _, rfl, hx2, T.c_Feasts, T.na_Feasts_feasts, rfl, ?_⟩
    walk_at "s"
    refine ⟨fq, od, _, rfl, hfz, ?_⟩
    have E02 : Ext (TT K) (fun b => b = fq ∨ b = D) H H2 := (e1.no.trans eL).more fun b z => .inl z
    refine for_it ME.walk_enumD (fun i σ' H' => ∃ (u3 u4 u5 : Option V) (ps : List Addr), σ' = [some (V.ref x), some (V.int (y : Nat)), some (V.ref D), u3, u4, u5] ∧ H' D = some (.lst (ps.map V.ref)) ∧ RowsAt H' ps (rowsY Y fs n y i) ∧ Ext (TT K) (· = D) H2 H') ⟨none, none, none, [], rfl, hv2, ⟨rfl, fun i p r h1 _ => by simp at h1⟩, .refl⟩ (fun i σ' H' _ ⟨_, _, _, _, _, _, _, e⟩ => e.frz _ _ _ hfz) ?_ ?_
    · rintro i v σ' H' H'' hi ⟨u3, u4, u5, ps, rfl, hv, hR, e⟩ ⟨t, k, z, hkz, rfl, ht, rfl⟩
      have hfl : i < fs.length := by rw [kvF_len hl] at hi; exact hi
      obtain ⟨fe, hfe⟩ : ∃ fe, fs[i]? = some fe := ⟨_, List.getElem?_eq_getElem hfl⟩
      obtain ⟨a, ha⟩ : ∃ a, as[i]? = some a := ⟨_, List.getElem?_eq_getElem (by omega)⟩
      rw [kvF_get hfe ha] at hkz
      cases hkz
      have e3 : Ext (TT K) No H' (upd H' t (.tup [.int (i : Nat), kV (.inr fe.name)])) := Ext.new ht
      have ht3 : (upd H' t (.tup [.int (i : Nat), kV (.inr fe.name)])) t = some (.tup [.int (i : Nat), .str fe.name]) := upd_same
      generalize upd H' t (.tup [.int (i : Nat), kV (.inr fe.name)]) = H3 at e3 ht3
      have E3 := e.trans e3.no
      have F3 := F2.ext E3 (fun z => hDf z.symm)
      have hx3 := E3.fix _ _ hx2 rfl
      have hv3 := e3.lst _ _ hv id
      have hR3 := hR.ext e3
      have hlen := rowsY_len Y fs n y i
      refine ⟨_, _, rfl, SqT.of ht3, rfl, ?_⟩
      walk_at "s"
      refine ⟨_, _, _, rfl, hx3, rfl, ?_⟩
      walk_at "s"
      try delta tNil
      dsimp only
      show spDay K n [.ref x, .str fe.name, .int (y : Nat)] H3 _ _
      refine F3.day (E3.gd gd2) hln (List.mem_map.mpr ⟨fe, List.mem_of_getElem? hfe, rfl⟩) hy hb fun H4 e4 => ?_
      have hv4 := e4.lst _ _ hv3 id
      have hR4 := hR3.ext e4
      have E4 := E3.trans e4.no
      cases h1 : fallV Y fs (n + 1) fe.name y with
      | none =>
        walk_at "s"
        refine ⟨_, _, _, ps, rfl, hv4, ?_, E4⟩
        rw [rowsY_succ hfe, h1]
        simpa using hR4
      | some d =>
        walk_at "s"
        refine ⟨.inl ⟨rfl, _, .inl (.inl hv4)⟩, ?_⟩
        walk_at "s"
        refine ⟨sz, fun t5 H5 ht5 hv5 e5 => ?_⟩
        refine ⟨D, _, _, rfl, rfl, e5.lst _ _ hv4 id, by rw [List.length_map, hR.1]; exact szl (by omega), fun H6 hv6 e6 => ?_⟩
        refine ⟨_, _, _, ps ++ [t5], rfl, by rw [List.map_append]; exact hv6, ?_, (E4.trans e5.no).trans e6⟩
        rw [rowsY_succ hfe, h1]
        exact ((hR4.ext e5).ext e6).snoc (r := (d, i, fe.name)) (e6.fix _ _ hv5 rfl)
    · rintro σ' H' ⟨u3, u4, u5, ps, rfl, hv, hR, e⟩
      rw [kvF_len hl] at hR
      have hz' := e.frz _ _ _ hfz
      refine ⟨hz', ?_⟩
      have EU : Ext (TT K) No H (upd H' fq (.dK (kvF fs as))) := Ext.unlock hfq ((E02.trans (e.more fun b z => .inr z)).mono fun b z => z.elim .inl fun z => .inr (by rw [z]; exact NoM.of hD)) hz'
      have hvU : (upd H' fq (.dK (kvF fs as))) D = some (.lst (ps.map V.ref)) := by rw [upd_ne hDf]; exact hv
      have hRU : RowsAt (upd H' fq (.dK (kvF fs as))) ps (rowsY Y fs n y fs.length) := ⟨hR.1, fun i p r h1 h2 => upd_frz hz' (hR.2 i p r h1 h2) fun _ _ z => nomatch z⟩
      have hlen := rowsY_len Y fs n y fs.length
      generalize upd H' fq (.dK (kvF fs as)) = H3 at EU hvU hRU
      generalize rowsY Y fs n y fs.length = rows at hRU hQ hlen
      clear hR hz' hv e E02 F2 gd2 hx2 hfz eL
      have tmem : (He.cT K ("Feasts", some "year")).2 ∈ (TT K).gen := by simp [TT]
      have gd3 := EU.gd gd
      refine ⟨.ref D, rfl, ?_⟩
      refine ⟨D, ps.map V.ref, rows.map rowD3, rfl, SqL.of hvU, dpAll_get (by simp [hRU.1]) fun i x d h1 h2 => ?_, PySem.W.AllAlike.of fun a b => ?_, PySem.W.Sortable.tuples fun b => ⟨_, _, rfl⟩, fun d hd => ?_, fun p H4 zs hp hv4 hzs hmem e4 => ?_⟩
      · rw [List.getElem?_map] at h1 h2
        cases g1 : ps[i]? with
        | none => rw [g1] at h1; cases h1
        | some q =>
          cases g2 : rows[i]? with
          | none => rw [g2] at h2; cases h2
          | some r =>
            rw [g1] at h1
            rw [g2] at h2
            cases h1
            cases h2
            exact .tup (SqT.of (hRU.2 i q r g1 g2)) (.cons (.int _) (.cons (.int _) (.cons (.str _) .nil)))
      · simp [rowD3, PySem.W.alike, PySem.W.alikeAll]
      · obtain ⟨r, _, rfl⟩ := List.mem_map.mp hd
        simp [rowD3, PyData.depth, PyData.depthAll]
      rw [sortD_rows] at hzs
      have hzl : zs.length = (sortR rows).length := by
        have := congrArg List.length hzs
        rw [List.length_map, List.length_map] at this
        exact this
      have hrl : (sortR rows).length = rows.length := List.length_mergeSort _
      have key : ∀ (i : Nat) (z : V × PyData), zs[i]? = some z → ∃ (q : Addr) (r : Row), z.1 = .ref q ∧ (sortR rows)[i]? = some r ∧ H3 q = some (.tup [.int r.1, .int (r.2.1 : Nat), .str r.2.2]) := fun i z hz => by
        have hm := hmem z (List.mem_of_getElem? hz)
        obtain ⟨j, hj⟩ := List.getElem?_of_mem hm
        obtain ⟨j1, j2⟩ := List.getElem?_zip_eq_some.mp hj
        rw [List.getElem?_map] at j1 j2
        cases g1 : ps[j]? with
        | none => rw [g1] at j1; cases j1
        | some q =>
          cases g2 : rows[j]? with
          | none => rw [g2] at j2; cases j2
          | some r =>
            rw [g1] at j1
            rw [g2] at j2
            have j1 : V.ref q = z.1 := Option.some.inj j1
            have j2 : rowD3 r = z.2 := Option.some.inj j2
            have h3 : (zs.map Prod.snd)[i]? = some z.2 := by rw [List.getElem?_map, hz]; rfl
            rw [hzs, List.getElem?_map] at h3
            cases g3 : (sortR rows)[i]? with
            | none => rw [g3] at h3; cases h3
            | some r2 =>
              rw [g3] at h3
              have h3 : rowD3 r2 = z.2 := Option.some.inj h3
              have e : r2 = r := by
                rw [← j2] at h3
                unfold rowD3 at h3
                injection h3 with h3
                injection h3 with a1 h3
                injection h3 with a2 h3
                injection h3 with a3 h3
                injection a1 with a1
                injection a2 with a2
                injection a3 with a3
                exact Prod.ext a1 (Prod.ext (Int.ofNat_inj.mp a2) a3)
              exact ⟨q, r2, j1.symm, rfl, by rw [e]; exact hRU.2 j q r g1 g2⟩
      refine ⟨p, rfl, ⟨_, SqL.of hv4⟩, ?_⟩
      refine tupL tk tmem (SqL.of hv4) ((e4.gd gd3).1 _ tmem) (by rw [List.length_map]; omega) (fun i ys H' => ∃ qs : List Addr, ys = qs.map V.ref ∧ qs.length = i ∧ ∀ (j : Nat) (p : Addr) (r : Row), qs[j]? = some p → (sortR rows)[j]? = some r → H' p = some (.tup [.int r.1, .str r.2.2])) (fun H' _ => ⟨[], rfl, rfl, fun j p r h _ => by simp at h⟩) ?_ ?_
      · rintro i ys v H' B hv hyl e ⟨qs, rfl, hqs, hG⟩ hB
        rw [List.getElem?_map] at hv
        cases g1 : zs[i]? with
        | none => rw [g1] at hv; cases hv
        | some z =>
          rw [g1] at hv
          cases hv
          obtain ⟨q, r, hz1, hr1, hq1⟩ := key i z g1
          rw [hz1]
          refine ⟨_, _, rfl, SqT.of ((e4.trans e).fix _ _ hq1 rfl), rfl, ?_⟩
          walk_at "s"
          refine ⟨sz, fun t2 H5 ht2 hv2 e5 => hB _ H5 e5 ⟨qs ++ [t2], by rw [List.map_append]; rfl, by rw [List.length_append, hqs]; rfl, fun j p2 r2 h1 h2 => ?_⟩⟩
          rcases Nat.lt_or_ge j qs.length with zz | zz
          · rw [List.getElem?_append_left zz] at h1
            exact e5.fix _ _ (hG j p2 r2 h1 h2) rfl
          · have hj : j = qs.length := by
              have := (List.getElem?_eq_some_iff.mp h1).1
              rw [List.length_append] at this
              simp at this
              omega
            subst hj
            rw [List.getElem?_append_right (Nat.le_refl _), Nat.sub_self] at h1
            rw [hqs, hr1] at h2
            cases h1
            cases h2
            exact hv2
      · rintro ys H5 ⟨qs, rfl, hqs, hG⟩ e5 t H6 ht e6
        refine hQ t qs H6 ht (by rw [hqs, List.length_map, hzl]) (fun i p2 r h1 h2 => e6.fix _ _ (hG i p2 r h1 h2) rfl) ((EU.trans e4).trans (e5.trans e6))
end K60

set_option Elab.async false
set_option linter.all false
set_option maxRecDepth 100000
set_option maxHeartbeats 2000000
namespace K60
open PySem PySem.Spec PyProof.Rows L2 MB
local macro_rules | `(tactic| walk_at "s") => `(tactic| repeat (first | refine ⟨_, rfl, ?_⟩ | refine ⟨_, _, rfl, rfl, ?_⟩ | refine ⟨_, _, rfl, ?_⟩ | refine ⟨rfl, ?_⟩))
variable {P : Program} {w : World} {K : PySem.W.Frag} {mg : Str → Option Value} {base : Heap}
/-! ### the law's own feasts -/
structure OwnF (K : PySem.W.Frag) (dq : Addr) (H : Hp) (o : Addr) (Y : Yr) (fd : Addr) (fs : List Fe) (as : List Addr) : Prop where
  own : OwnAt K dq H o Y.ms Y.lg Y.rs
  ex : ∃ kvs mt, H o = some (.dK kvs) ∧ valV kvs (.inr "moon") = some (.ref mt) ∧ H mt = some (.tup [.int (Y.L : Nat), .int (Y.p : Nat), .int (Y.f : Nat)]) ∧ valV kvs (.inr "week") = some (.int Y.W) ∧ valV kvs (.inr "first") = some (.int Y.f0) ∧ valV kvs (.inr "feasts") = some (.ref fd)
  len : as.length = fs.length
  fd_ : Rd H fd (.dK (kvF fs as))
  fo : fd ≠ dq
  each : ∀ (i : Nat) (f : Fe) (a : Addr), fs[i]? = some f → as[i]? = some a → ∃ t, H a = some (.tup [.str f.kind.str, .ref t]) ∧ SqT K H t f.things
theorem OwnF.ext {dq o fd : Addr} {H H' : Hp} {Y : Yr} {fs : List Fe} {as : List Addr} (h : OwnF K dq H o Y fd fs as) (e : Ext (TT K) (· = dq) H H') : OwnF K dq H' o Y fd fs as := by
  obtain ⟨h1, ⟨kvs, mt, h2, h3, h4, h5, h6, h7⟩, h8, h9, h10, h11⟩ := h
  exact ⟨h1.ext e, ⟨kvs, mt, e.dk _ _ h2 h1.od, h3, e.fix _ _ h4 rfl, h5, h6, h7⟩, h8, h9.elim (fun z => .inl (e.dk _ _ z h10)) (fun ⟨o, z⟩ => .inr ⟨o, e.frz _ _ _ z⟩), h10, fun i f a g1 g2 => by
    obtain ⟨t, h12, h13⟩ := h11 i f a g1 g2
    exact ⟨t, e.fix _ _ h12 rfl, SqT.ext h13 e⟩⟩
/-- a key of the law's own -/
theorem OwnF.get {dq o fd : Addr} {H : Hp} {Y : Yr} {fs : List Fe} {as : List Addr} (h : OwnF K dq H o Y fd fs as) : ∃ mt, H mt = some (.tup [.int (Y.L : Nat), .int (Y.p : Nat), .int (Y.f : Nat)]) ∧ DGet H o (.str "moon") (some (.ref mt)) ∧ DGet H o (.str "week") (some (.int Y.W)) ∧ DGet H o (.str "first") (some (.int Y.f0)) ∧ DGet H o (.str "feasts") (some (.ref fd)) := by
  obtain ⟨kvs, mt, h2, h3, h4, h5, h6, h7⟩ := h.ex
  exact ⟨mt, h4, h3 ▸ DGet.k (k := .inr "moon") h2, h5 ▸ DGet.k (k := .inr "week") h2, h6 ▸ DGet.k (k := .inr "first") h2, h7 ▸ DGet.k (k := .inr "feasts") h2⟩
/-- the law's feasts: weekdays are not below 0 -/
structure LawF (Y : Yr) (mv : V) (fs : List Fe) : Prop where
  wf : WfF Y mv fs
  ms : MsV Y.ms Y.lg
  ov : OwnV Y.ms Y.lg Y.rs
  w1 : 1 ≤ Y.W
  mok : MOk Y.L Y.p Y.f
  nx : ∀ fe ∈ fs, fe.kind = .next → 0 ≤ fe.a
theorem Paired.kv {H : Hp} {ts : List Addr} {ys : Mons} (h : MonsT H ts ys) : Paired (fun p kv => SqT K H p [kV kv.1, kv.2]) ts (ys.map fun m => ((.inr m.1 : Key), V.int (m.2 : Nat))) := by
  refine paired_get (by rw [List.length_map]; exact h.1) fun i t kv h1 h2 => ?_
  rw [List.getElem?_map] at h2
  cases e : ys[i]? with
  | none => rw [e] at h2; cases h2
  | some m =>
    rw [e] at h2
    cases h2
    exact SqT.of (h.2 i t m h1 e)
abbrev kvY (ms : Mons) (lg : Str) (rs : MM.Rules) (y : Nat) : List (Key × V) := (yms ms lg rs y).map fun m => ((.inr m.1 : Key), V.int (m.2 : Nat))
theorem kvY_names {ms : Mons} {lg : Str} {rs : MM.Rules} {y : Nat} : (kvY ms lg rs y).map (·.1) = (ms.map (·.1)).map fun x => (.inr x : Key) := by
  unfold kvY yms
  rw [List.map_map, List.map_map, List.map_map]
  rfl
theorem nodup_inr {l : List Str} (h : l.Nodup) : (l.map fun x => (.inr x : Key)).Nodup := List.Pairwise.map _ (fun a b hab e => hab (Sum.inr.inj e)) h
theorem kvY_merge {ms : Mons} {lg : Str} {rs : MM.Rules} (mv : MsV ms lg) (y : Nat) : mergeK [] (kvY ms lg rs y) = kvY ms lg rs y := by
  refine (merge_nd _ [] ?_).trans rfl
  rw [List.nil_append, kvY_names]
  exact nodup_inr mv.nd
theorem kvY_at {ms : Mons} {lg : Str} {rs : MM.Rules} (mv : MsV ms lg) (y : Nat) {i : Nat} {m : Str × Nat} (h : ms[i]? = some m) : valV (kvY ms lg rs y) (.inr m.1) = some (.int (MM.md rs lg y m : Nat)) := by
  refine valV_nd (i := i) (p := (.inr m.1, .int (MM.md rs lg y m : Nat))) ?_ ?_
  · rw [kvY_names]
    exact nodup_inr mv.nd
  · unfold kvY yms
    rw [List.getElem?_map, List.getElem?_map, h]
    rfl
theorem nxt {x a W k : Int} (hW : 0 < W) (ha : 0 ≤ a) (ha2 : a < W) (hk : 0 ≤ k) (hk2 : k < W) : (x + k) % W = a ↔ k = (a - x % W) % W := by
  constructor
  · intro h
    rw [← h, ← Int.sub_emod]
    have e : x + k - x = k := by omega
    rw [e, Int.emod_eq_of_lt hk hk2]
  · intro h
    have e : (x + k) % W = (x % W + (a - x % W) % W) % W := by
      rw [Int.add_emod x k W, h, Int.emod_emod]
    rw [e]
    generalize x % W = u
    have e2 : (u + (a - u) % W) % W = (u + (a - u)) % W := by
      rw [Int.add_emod u ((a - u) % W) W, Int.emod_emod, ← Int.add_emod]
    have e3 : u + (a - u) = a := by omega
    rw [e2, e3, Int.emod_eq_of_lt ha ha2]
def spFalls (K : PySem.W.Frag) (n : Nat) : Sp := fun vs H Q _ => ∃ (dq o fd : Addr) (mv : V) (Y : Yr) (fs : List Fe) (as : List Addr) (nm : Str) (yn i : Nat) (fe : Fe), vs = [.ref o, .str nm, .int (yn : Nat)] ∧ OwnF K dq H o Y fd fs as ∧ LawF Y mv fs ∧ yn ≤ 50 ∧ fs[i]? = some fe ∧ fe.name = nm ∧ i ≤ n ∧
  ∀ H', Ext (TT K) No H H' → Q (optV (fallV Y fs (n + 1) nm yn)) H'
theorem falls_step (T : Tx K mg base) (tk : TOk (TT K)) (n : Nat) (sp' : Sp) (ih : FnOk P w K mg base (L2.CX P w) (n + 20) (He.fAd K ("_law_falls", none)) T.fd_law_falls ["own", "name", "year"] sp') (hsp : ∀ vs H Q E, 1 ≤ n → spFalls K (n - 1) vs H Q E → sp' vs H Q E) :
    FnOk P w K mg base (L2.CX P w) (n + 21) (He.fAd K ("_law_falls", none)) T.fd_law_falls ["own", "name", "year"] (spFalls K n) := by
  have ok_law_falls := fun _ : Tx K mg base => ih
  refine T.F_law_falls.ok sc_law_falls (fun vs H Q E h => ?_) (fun cdv A outer s H vs Q E hr h => ⟨_, (pss_cons (ps_asg (pe_dget (Nat.lt_of_le_of_lt (Nat.add_le_add_left (by decide) _) hr.units) (pe_dget (Nat.lt_of_le_of_lt (Nat.add_le_add_left (by decide) _) hr.units) (pv 0) pe_str (fun _ _ => rfl)) (pv 1) (fun _ _ => rfl)) (pg_tupK (K := K) (n := 2) rfl rfl (pgs_cons (pg_name (i := 3) sc_law_falls.nd rfl (Or.inl rfl)) (pgs_cons (pg_name (i := 4) sc_law_falls.nd rfl (Or.inr rfl)) pgs_nil))))
 (pss_cons (ps_if (pt_cmpR op_in_seq (pv 3) (pe_lstN (T := TT K) (pa_cons pe_str (pa_cons pe_str pa_nil))) (by with_unfolding_all rfl)) (pss_cons (ps_set (i := 5) sc_law_falls.nd rfl (Or.inl rfl) (pe_callTy (call_dictPK (T := TT K) (K := K) rfl rfl) rfl T.b_dict (by decide +kernel) (pa_cons (pe_call (ok_law_year T) (hr.mono (by first | decide | omega)) rfl T.g_law_year T.F_law_year.kp (bi_law_year T) .nil (passes_call (takes_of rfl rfl rfl rfl) fun _ _ _ _ h => h) (pa_cons (pv 0) (pa_cons (pv 2) pa_nil))) pa_nil)))
 (pss_cons (ps_if (pt_not (pt_chain op_le op_le pe_int (pe_ix (ix_tupK (K := K) rfl) (pv 4) pe_int (fun _ _ => rfl)) (pe_dget (Nat.lt_of_le_of_lt (Nat.add_le_add_left (by decide) _) hr.units) (pv 5) (pe_ix (ix_tupK (K := K) rfl) (pv 4) pe_int (fun _ _ => rfl)) (fun _ _ => rfl)))) (pss_one (ps_ret pe_non)) pss_nil)
 (pss_cons (ps_set (i := 6) sc_law_falls.nd rfl (Or.inl rfl) (pe_call (ok_law_day T) (hr.mono (by first | decide | omega)) rfl T.g_law_day T.F_law_day.kp (bi_law_day T) .nil (passes_call (takes_of rfl rfl rfl rfl) fun _ _ _ _ h => h) (pa_cons (pv 0) (pa_cons (pv 2) (pa_cons (pe_ix (ix_tupK (K := K) rfl) (pv 4) pe_int (fun _ _ => rfl)) (pa_cons (pe_ix (ix_tupK (K := K) rfl) (pv 4) pe_int (fun _ _ => rfl)) pa_nil))))))
 (pss_cons (ps_if (pt_cmpR op_eq (pv 3) pe_str (nomark _)) (pss_one (ps_ret (pv 6))) pss_nil)
 (pss_cons (ps_set (i := 7) sc_law_falls.nd rfl (Or.inl rfl) (pe_op op_add (pe_ix (ix_tupK (K := K) rfl) (pe_dget (Nat.lt_of_le_of_lt (Nat.add_le_add_left (by decide) _) hr.units) (pv 0) pe_str (fun _ _ => rfl)) pe_int (fun _ _ => rfl)) (pe_op op_fdiv (pe_ix (ix_tupK (K := K) rfl) (pe_dget (Nat.lt_of_le_of_lt (Nat.add_le_add_left (by decide) _) hr.units) (pv 0) pe_str (fun _ _ => rfl)) pe_int (fun _ _ => rfl)) pe_int)))
 (pss_cons (ps_while (passes_of rfl) (pt_cmpR op_lt (pe_op op_fdiv (pv 7) (pe_ix (ix_tupK (K := K) rfl) (pe_dget (Nat.lt_of_le_of_lt (Nat.add_le_add_left (by decide) _) hr.units) (pv 0) pe_str (fun _ _ => rfl)) pe_int (fun _ _ => rfl))) (pv 6) (nomark _)) (pss_one (ps_set (i := 7) sc_law_falls.nd rfl (Or.inl rfl) (pe_op op_add (pv 7) (pe_ix (ix_tupK (K := K) rfl) (pe_dget (Nat.lt_of_le_of_lt (Nat.add_le_add_left (by decide) _) hr.units) (pv 0) pe_str (fun _ _ => rfl)) pe_int (fun _ _ => rfl))))))
 (pss_one (ps_ret (pe_op op_fdiv (pv 7) (pe_ix (ix_tupK (K := K) rfl) (pe_dget (Nat.lt_of_le_of_lt (Nat.add_le_add_left (by decide) _) hr.units) (pv 0) pe_str (fun _ _ => rfl)) pe_int (fun _ _ => rfl))))))))))) pss_nil)
 (pss_cons (ps_if (pt_cmpR op_eq (pv 3) pe_str (nomark _)) (pss_cons (ps_set (i := 6) sc_law_falls.nd rfl (Or.inl rfl) (pe_call (ok_law_day T) (hr.mono (by first | decide | omega)) rfl T.g_law_day T.F_law_day.kp (bi_law_day T) .nil (passes_call (takes_of rfl rfl rfl rfl) fun _ _ _ _ h => h) (pa_cons (pv 0) (pa_cons (pv 2) (pa_cons (pe_ix (ix_tupK (K := K) rfl) (pv 4) pe_int (fun _ _ => rfl)) (pa_cons pe_int pa_nil))))))
 (pss_cons (ps_setLc (i := 8) rfl sc_law_falls.nd rfl rfl rfl (pi_range2 rfl T.b_range (pa_cons (pv 6) (pa_cons (pe_op op_add (pv 6) (pe_dget (Nat.lt_of_le_of_lt (Nat.add_le_add_left (by decide) _) hr.units) (pe_callTy (call_dictPK (T := TT K) (K := K) rfl rfl) rfl T.b_dict (by decide +kernel) (pa_cons (pe_call (ok_law_year T) (hr.mono (by first | decide | omega)) rfl T.g_law_year T.F_law_year.kp (bi_law_year T) .nil (passes_call (takes_of rfl rfl rfl rfl) fun _ _ _ _ h => h) (pa_cons (pv 0) (pa_cons (pv 2) pa_nil))) pa_nil)) (pe_ix (ix_tupK (K := K) rfl) (pv 4) pe_int (fun _ _ => rfl)) (fun _ _ => rfl))) pa_nil))) (blkOk_by (N := ["own", "name", "year", "kind", "things", "rows", "start", "full", "days", "day"]) (sc := defScope s_law_falls) (own := [("day", 9)]) (by decide +kernel)) (fun _ _ _ _ _ => (pg_name (i := 9) sc_law_falls.nd rfl (by first | exact Or.inl rfl | exact Or.inr rfl))) (fun _ _ _ _ _ => (pts_one (pt_cmpR op_eq (pe_op op_mod (pe_op op_add (pv 9) (pe_dget (Nat.lt_of_le_of_lt (Nat.add_le_add_left (by decide) _) hr.units) (pv 0) pe_str (fun _ _ => rfl))) (pe_dget (Nat.lt_of_le_of_lt (Nat.add_le_add_left (by decide) _) hr.units) (pv 0) pe_str (fun _ _ => rfl))) (pe_ix (ix_tupK (K := K) rfl) (pv 4) pe_int (fun _ _ => rfl)) (nomark _)))) (fun _ _ _ _ _ => (pv 9)))
 (pss_cons (ps_set (i := 8) sc_law_falls.nd rfl (Or.inl rfl) (pe_ifExp (pt_cmpR op_gt (pe_ix (ix_tupK (K := K) rfl) (pv 4) pe_int (fun _ _ => rfl)) pe_int (nomark _)) (pv 8) (pe_revL (pv 8))))
 (pss_one (ps_ret (pe_ifExp (pt_chain op_lt op_le pe_int (pe_callB call_abs rfl T.b_abs (by decide +kernel) (pa_cons (pe_ix (ix_tupK (K := K) rfl) (pv 4) pe_int (fun _ _ => rfl)) pa_nil)) (pe_callB (call_lenK (K := K) rfl) rfl T.b_len (by decide +kernel) (pa_cons (pv 8) pa_nil))) (pe_ix (ix_listK (K := K) rfl) (pv 8) (pe_op op_sub (pe_callB call_abs rfl T.b_abs (by decide +kernel) (pa_cons (pe_ix (ix_tupK (K := K) rfl) (pv 4) pe_int (fun _ _ => rfl)) pa_nil)) pe_int) (fun _ _ => rfl)) pe_non)))))) pss_nil)
 (pss_cons (ps_set (i := 6) sc_law_falls.nd rfl (Or.inl rfl) (pe_call (ok_law_falls T) (hr.mono (by first | decide | omega)) rfl T.g_law_falls T.F_law_falls.kp (bi_law_falls T) .nil (passes_call (takes_of rfl rfl rfl rfl) fun _ _ _ _ h => h) (pa_cons (pv 0) (pa_cons (pe_ix (ix_tupK (K := K) rfl) (pv 4) pe_int (fun _ _ => rfl)) (pa_cons (pv 2) pa_nil)))))
 (pss_cons (ps_if (pt_cmpR op_isN (pv 6) pe_non (nomark _)) (pss_one (ps_ret pe_non)) pss_nil)
 (pss_cons (ps_if (pt_cmpR op_eq (pv 3) pe_str (nomark _)) (pss_one (ps_ret (pe_ifExp (pt_cmpR op_ge (pe_op op_add (pv 6) (pe_ix (ix_tupK (K := K) rfl) (pv 4) pe_int (fun _ _ => rfl))) pe_int (nomark _)) (pe_op op_add (pv 6) (pe_ix (ix_tupK (K := K) rfl) (pv 4) pe_int (fun _ _ => rfl))) pe_non))) pss_nil)
 (pss_cons (ps_if (pt_cmpR op_ge (pe_ix (ix_tupK (K := K) rfl) (pv 4) pe_int (fun _ _ => rfl)) (pe_dget (Nat.lt_of_le_of_lt (Nat.add_le_add_left (by decide) _) hr.units) (pv 0) pe_str (fun _ _ => rfl)) (nomark _)) (pss_one (ps_ret pe_non)) pss_nil)
 (pss_cons (ps_set (i := 9) sc_law_falls.nd rfl (Or.inl rfl) (pe_op op_add (pv 6) pe_int))
 (pss_cons (ps_while (passes_of rfl) (pt_cmpR op_ne (pe_op op_mod (pe_op op_add (pv 9) (pe_dget (Nat.lt_of_le_of_lt (Nat.add_le_add_left (by decide) _) hr.units) (pv 0) pe_str (fun _ _ => rfl))) (pe_dget (Nat.lt_of_le_of_lt (Nat.add_le_add_left (by decide) _) hr.units) (pv 0) pe_str (fun _ _ => rfl))) (pe_ix (ix_tupK (K := K) rfl) (pv 4) pe_int (fun _ _ => rfl)) (nomark _)) (pss_one (ps_set (i := 9) sc_law_falls.nd rfl (Or.inl rfl) (pe_op op_add (pv 9) pe_int))))
 (pss_one (ps_ret (pv 9)))))))))))), ?_⟩)
  · obtain ⟨dq, o, fd, mv, Y, fs, as, nm, yn, i, fe, rfl, _⟩ := h
    rfl
  · obtain ⟨dq, o, fd, mv, Y, fs, as, nm, yn, i, fe, rfl, hO, hL, hy, hi, rfl, hin, hQ⟩ := h
    obtain ⟨mt, hmt, gm, gw, gf, gF⟩ := hO.get
    have hil := (List.getElem?_eq_some_iff.mp hi).1
    have hl := hO.len
    obtain ⟨a, hai⟩ : ∃ a, as[i]? = some a := ⟨_, List.getElem?_eq_getElem (by omega)⟩
    obtain ⟨t, ha, ht⟩ := hO.each i fe a hi hai
    have hget : DGet H fd (.str fe.name) (some (.ref a)) := by
      have q : DGet H fd (kV (.inr fe.name)) (valV (kvF fs as) (.inr fe.name)) := .inl ⟨_, _, hO.fd_, rfl, rfl⟩
      rw [kvF_at hl hL.wf.nd hi hai] at q
      exact q
    have hfv := fallV_at (Y := Y) hL.wf.nd (n := n) (y := yn) hi
    rw [hfv] at hQ
    clear hfv
    walk_at "s"
    refine ⟨_, _, rfl, gF, ?_⟩
    walk_at "s"
    refine ⟨_, _, rfl, hget, ?_⟩
    refine ⟨_, _, rfl, SqT.of ha, rfl, ?_⟩
    walk_at "s"
    refine ⟨sz, fun l1 H1 hl1 hv1 e1 => ?_⟩
    refine ⟨l1, _, rfl, .inl (SqL.of hv1), rfl, rfl, ?_⟩
    have hb1 : (if false = true then !inV (V.str fe.kind.str) [V.str "fixed", V.str "moon"] else inV (V.str fe.kind.str) [V.str "fixed", V.str "moon"]) = decide (fe.kind = .fixed ∨ fe.kind = .moon) := by
      cases fe.kind <;> decide +kernel
    rw [hb1]
    have hO1 := hO.ext e1.no
    have ht1 := SqT.ext ht e1
    have hms := hL.ms
    walk_at "s"
    refine ifB (fun q1 => ?_) (fun q1 => ?_)
    · have q1 := of_decide_eq_true q1
      have hth : fe.things = [.str fe.s, .int fe.a] := by
        unfold Fe.things
        rw [if_neg (by rcases q1 with z | z <;> rw [z] <;> decide)]
      rw [hth] at ht1
      obtain ⟨m, hmm, hms'⟩ := List.mem_map.mp (hL.wf.mon fe (List.mem_of_getElem? hi) (by rcases q1 with z | z <;> simp [z]))
      obtain ⟨im, him⟩ := List.getElem?_of_mem hmm
      have hfix := fixV_at hms (y := yn) (a := fe.a) him
      have hky := kvY_at (rs := Y.rs) hms yn him
      rw [hms'] at hfix hky
      generalize hmd : MM.md Y.rs Y.lg yn m = nd at hfix hky
      have hQn : ¬ (1 ≤ fe.a ∧ fe.a ≤ (nd : Nat)) → ∀ H', Ext (TT K) No H H' → Q .non H' := fun c => by
        rw [if_neg c] at hfix
        rcases q1 with z | z
        · simp only [z, hfix] at hQ
          exact hQ
        · simp only [z, hfix] at hQ
          exact hQ
      walk_at "s"
      refine ⟨dq, o, Y.ms, Y.lg, Y.rs, yn, rfl, hO1.own, by have := hL.ov.four; omega, fun r hr => (hL.ov.ok.rng r hr).1, fun q6 ts6 H6 hq6 hT6 hn6 e6 => ?_⟩
      walk_at "s"
      refine ⟨q6, ts6, kvY Y.ms Y.lg Y.rs yn, rfl, SqL.of hq6, Paired.kv hT6, fun p7 H7 hp7 hv7 e7 => ?_⟩
      rw [kvY_merge hms] at hv7
      have e17 := e6.trans e7
      have hO7 := hO1.ext e17.no
      have ht7 := SqT.ext ht1 e17
      have E7 := e1.trans e17
      clear e6 e7 e17 hq6 hT6 hn6 hp7 hO1 ht1 hv1
      walk_at "s"
      refine ⟨_, _, _, _, rfl, rfl, ht7, rfl, ?_⟩
      walk_at "s"
      refine ifB (fun q2 => ?_) (fun q2 => ?_)
      · have q2 := of_decide_eq_true q2
        walk_at "s"
        refine ⟨_, _, _, _, rfl, rfl, ht7, rfl, ?_⟩
        walk_at "s"
        refine ⟨_, _, rfl, hky ▸ DGet.k (k := .inr fe.s) hv7, ?_⟩
        walk_at "s"
        refine ifB (fun q3 => ?_) (fun q3 => ?_)
        · have q3 : ¬ fe.a ≤ (nd : Nat) := by simpa using q3
          walk_at "s"
          exact hQn (fun z => q3 z.2) H7 E7
        have q3 : fe.a ≤ (nd : Nat) := by simpa using q3
        rw [if_pos ⟨q2, q3⟩] at hfix
        have dok : DOk Y.ms Y.lg Y.rs (yn : Nat) fe.s fe.a yn im (fe.a.toNat - 1) := ⟨rfl, by omega, ⟨m, him, hms', by rw [hmd]; omega⟩, by omega⟩
        walk_at "s"
        refine ⟨_, _, _, _, rfl, rfl, ht7, rfl, ?_⟩
        walk_at "s"
        refine ⟨_, _, _, _, rfl, rfl, ht7, rfl, ?_⟩
        walk_at "s"
        refine ⟨dq, o, Y.ms, Y.lg, Y.rs, _, _, _, yn, im, fe.a.toNat - 1, rfl, hO7.own, hms, fun r hr => (hL.ov.ok.rng r hr).1, dok, by omega, fun H8 e8 => ?_⟩
        have E8 := E7.trans e8
        have hO8 := hO7.ext e8.no
        clear e8 hO7 ht7 hv7 E7 hQn hO
        walk_at "s"
        refine ifB (fun q5 => ?_) (fun q5 => ?_)
        · have km : fe.kind = .fixed := by
            have q5 : decide (V.str fe.kind.str = V.str FK.fixed.str) = true := q5
            exact FK.inj _ _ (by simpa using q5)
          simp only [km, hfix] at hQ
          walk_at "s"
          exact hQ H8 E8
        have km : fe.kind = .moon := q1.elim (fun z => by
          have q5 : decide (V.str fe.kind.str = V.str FK.fixed.str) = false := q5
          rw [z] at q5
          simp at q5) id
        simp only [km, hfix] at hQ
        obtain ⟨d, hd⟩ : ∃ d, d = dN Y.ms Y.lg Y.rs yn im (fe.a.toNat - 1) := ⟨_, rfl⟩
        rw [← hd]
        rw [← hd] at hQ
        have mok := hL.mok
        obtain ⟨nn, hnd, hnn⟩ := full_ex mok d
        rw [Option.map_some, fullDay_at hnn] at hQ
        have p0 := mok.p0
        have p1 := mok.p1
        have Lhi := mok.hi
        have hdl : d < 130000000 := by rw [hd]; exact dN_lt hms dok
        obtain ⟨mt8, hmt8, gm8, _, _, _⟩ := hO8.get
        walk_at "s"
        refine ⟨_, _, rfl, gm8, ?_⟩
        walk_at "s"
        refine ⟨_, _, _, _, rfl, rfl, SqT.of hmt8, rfl, ?_⟩
        walk_at "s"
        refine ⟨_, _, rfl, gm8, ?_⟩
        walk_at "s"
        refine ⟨_, _, _, _, rfl, rfl, SqT.of hmt8, rfl, ?_⟩
        walk_at "s"
        refine ⟨⟨by omega, by omega⟩, ?_⟩
        have hf0 : ((Y.f : Nat) : Int) + ((Y.L : Nat) : Int) / 2 = (fm Y.L Y.p Y.f 0 : Nat) := by
          unfold fm
          omega
        show rI0 (fun i j => V.int (i + j)) (V.int (Y.f : Nat)) (V.int ((Y.L : Nat) / 2)) H8 _
        refine ⟨_, _, rfl, rfl, ?_⟩
        dsimp only
        rw [hf0]
        walk_at "s"
        refine ⟨fun k σ2 H3 => ∃ N : Nat, σ2 = [some (V.ref o), some (V.str fe.name), some (V.int (yn : Nat)), some (V.str fe.kind.str), some (V.ref t), some (V.ref p7), some (V.int (d : Nat)), some (V.int (fm Y.L Y.p Y.f N : Nat)), none, none] ∧ (∀ j, j < N → fm Y.L Y.p Y.f j / Y.p < d) ∧ k = nn - N ∧ H3 = H8, ⟨nn, 0, rfl, fun j hj => absurd hj (by omega), rfl, rfl⟩, ?_⟩
        rintro k σ2 H3 ⟨N, rfl, hN, rfl, rfl⟩
        have le : ∀ N, (∀ j, j < N → fm Y.L Y.p Y.f j / Y.p < d) → N ≤ nn := fun N h => by
          rcases Nat.lt_or_ge nn N with z | z
          · have := h nn z
            have := hnn.1
            omega
          · exact z
        have hfl : fm Y.L Y.p Y.f N < 2 ^ 60 := by
          have e1 : N * Y.L ≤ 130000000 * (100 * 2 ^ 20) := Nat.mul_le_mul (by have := le N hN; omega) (by omega)
          have := mok.f1
          unfold fm
          omega
        walk_at "s"
        refine ⟨_, _, rfl, gm8, ?_⟩
        walk_at "s"
        refine ⟨_, _, _, _, rfl, rfl, SqT.of hmt8, rfl, ?_⟩
        walk_at "s"
        refine ⟨⟨by omega, by omega⟩, ?_⟩
        walk_at "s"
        refine ifB (fun q6 => ?_) (fun q6 => ?_)
        · have q6 : ((fm Y.L Y.p Y.f N : Nat) : Int) / ((Y.p : Nat) : Int) < (d : Nat) := of_decide_eq_true q6
          rw [← Int.natCast_ediv] at q6
          have hN2 : ∀ j, j < N + 1 → fm Y.L Y.p Y.f j / Y.p < d := fun j hj => by
            rcases Nat.lt_or_ge j N with z | z
            · exact hN j z
            · have e : j = N := by omega
              rw [e]
              exact Int.ofNat_lt.mp q6
          have := le _ hN2
          refine ⟨_, fun _ _ h => h, ?_⟩
          walk_at "s"
          refine ⟨_, _, rfl, gm8, ?_⟩
          walk_at "s"
          refine ⟨_, _, _, _, rfl, rfl, SqT.of hmt8, rfl, ?_⟩
          have hf1 : ((fm Y.L Y.p Y.f N : Nat) : Int) + ((Y.L : Nat) : Int) = (fm Y.L Y.p Y.f (N + 1) : Nat) := by
            unfold fm
            rw [Nat.succ_mul]
            omega
          refine ⟨_, _, rfl, rfl, ?_⟩
          dsimp only
          rw [hf1]
          walk_at "s"
          exact ⟨nn - (N + 1), by omega, N + 1, rfl, hN2, rfl, rfl⟩
        have q6 : ¬ ((fm Y.L Y.p Y.f N : Nat) : Int) / ((Y.p : Nat) : Int) < (d : Nat) := of_decide_eq_false q6
        rw [← Int.natCast_ediv] at q6
        have hNf : FullAt Y.L Y.p Y.f d N := ⟨by omega, hN⟩
        obtain rfl := full_one hnn hNf
        walk_at "s"
        refine ⟨_, _, rfl, gm8, ?_⟩
        walk_at "s"
        refine ⟨_, _, _, _, rfl, rfl, SqT.of hmt8, rfl, ?_⟩
        walk_at "s"
        refine ⟨⟨by omega, by omega⟩, ?_⟩
        have q := hQ H3 E8
        rw [Int.natCast_ediv] at q
        exact q
      · have q2 := of_decide_eq_false q2
        walk_at "s"
        exact hQn (fun z => q2 z.1) H7 E7
    have q1 := of_decide_eq_false q1
    have k1 : fe.kind ≠ .fixed := fun z => q1 (.inl z)
    have k2 : fe.kind ≠ .moon := fun z => q1 (.inr z)
    walk_at "s"
    refine ifB (fun q2 => ?_) (fun q2 => ?_)
    · have km : fe.kind = .nth := by
        have q2 : decide (V.str fe.kind.str = V.str FK.nth.str) = true := q2
        exact FK.inj _ _ (by simpa using q2)
      have hth : fe.things = [.str fe.s, .int fe.a, .int fe.b] := by
        unfold Fe.things
        rw [if_pos km]
      rw [hth] at ht1
      obtain ⟨m, hmm, hms'⟩ := List.mem_map.mp (hL.wf.mon fe (List.mem_of_getElem? hi) (by simp [km]))
      obtain ⟨im, him⟩ := List.getElem?_of_mem hmm
      have hnw := nthW_at hms (y := yn) (wd := fe.a) (wh := fe.b) him
      have hky := kvY_at (rs := Y.rs) hms yn him
      rw [hms'] at hnw hky
      simp only [km, hnw] at hQ
      have hnd61 : MM.md Y.rs Y.lg yn m ≤ 61 := by
        have := (hms.rng m hmm).2
        unfold MM.md
        split <;> omega
      have dok : DOk Y.ms Y.lg Y.rs (yn : Nat) fe.s 1 yn im 0 := ⟨rfl, by omega, ⟨m, him, hms', by
        have := (hms.rng m hmm).1
        unfold MM.md
        split <;> omega⟩, rfl⟩
      generalize hmd : MM.md Y.rs Y.lg yn m = nd at hky hQ hnd61
      have hdl := dN_lt hms dok
      generalize hs0 : dN Y.ms Y.lg Y.rs yn im 0 = s0 at hQ hdl
      have w1 := hL.w1
      walk_at "s"
      refine ⟨_, _, _, _, rfl, rfl, ht1, rfl, ?_⟩
      walk_at "s"
      refine ⟨dq, o, Y.ms, Y.lg, Y.rs, _, _, _, yn, im, 0, rfl, hO1.own, hms, fun r hr => (hL.ov.ok.rng r hr).1, dok, by omega, fun H2 e2 => ?_⟩
      rw [hs0]
      have hO2 := hO1.ext e2.no
      have ht2 := SqT.ext ht1 e2
      walk_at "s"
      refine ⟨dq, o, Y.ms, Y.lg, Y.rs, yn, rfl, hO2.own, by have := hL.ov.four; omega, fun r hr => (hL.ov.ok.rng r hr).1, fun q6 ts6 H6 hq6 hT6 hn6 e6 => ?_⟩
      walk_at "s"
      refine ⟨q6, ts6, kvY Y.ms Y.lg Y.rs yn, rfl, SqL.of hq6, Paired.kv hT6, fun p7 H7 hp7 hv7 e7 => ?_⟩
      rw [kvY_merge hms] at hv7
      have e67 := e6.trans e7
      have hO7 := hO2.ext e67.no
      have ht7 := SqT.ext ht2 e67
      have E7 := (e1.trans e2).trans e67
      obtain ⟨mt7, _, _, gw7, gf7, _⟩ := hO7.get
      walk_at "s"
      refine ⟨_, _, _, _, rfl, rfl, ht7, rfl, ?_⟩
      walk_at "s"
      refine ⟨_, _, rfl, hky ▸ DGet.k (k := .inr fe.s) hv7, ?_⟩
      walk_at "s"
      refine ⟨⟨by omega, by omega, by omega, by omega⟩, fun D hD => ?_⟩
      have hn : ((s0 : Int) + (nd : Int) - (s0 : Int)).toNat = nd := by omega
      rw [hn]
      refine lc_range (fun i H8 => H8 D = some (.lst ((wdL s0 i Y.W Y.f0 fe.a).map V.int)) ∧ Ext (TT K) (· = D) H7 H8) ⟨upd_same, (Ext.new hD).no⟩ ?_ ?_
      · rintro i H8 hi8 ⟨h8, e8⟩
        have hlen := wdL_len s0 i Y.W Y.f0 fe.a
        have e3 : (s0 : Int) + (i : Int) = ((s0 + i : Nat) : Int) := by omega
        rw [e3]
        have oD : ¬ o = D := fun z => by
          obtain ⟨kvs, _, g, _⟩ := hO7.ex
          rw [z, hD] at g
          cases g
        have gf8 : DGet H8 o (.str "first") (some (.int Y.f0)) := by
          obtain ⟨kvs, mt, g2, _, _, _, g6, _⟩ := hO7.ex
          exact g6 ▸ DGet.k (k := .inr "first") (e8.dk _ _ g2 oD)
        have gw8 : DGet H8 o (.str "week") (some (.int Y.W)) := by
          obtain ⟨kvs, mt, g2, _, _, g5, _, _⟩ := hO7.ex
          exact g5 ▸ DGet.k (k := .inr "week") (e8.dk _ _ g2 oD)
        walk_at "s"
        refine ⟨_, _, rfl, gf8, ?_⟩
        walk_at "s"
        refine ⟨_, _, rfl, gw8, ?_⟩
        walk_at "s"
        refine ⟨by omega, ?_⟩
        walk_at "s"
        refine ⟨_, _, _, _, rfl, rfl, SqT.ext ht7 e8, rfl, ?_⟩
        walk_at "s"
        refine ifB (fun q1 => ?_) (fun q1 => ?_)
        · have q1 : (((s0 + i : Nat) : Int) + Y.f0) % Y.W = fe.a := by
            have q1 : decide (V.int ((((s0 + i : Nat) : Int) + Y.f0) % Y.W) = V.int fe.a) = true := q1
            simpa using q1
          walk_at "s"
          refine ⟨_, h8, by rw [List.length_map]; exact szl (by omega), ?_, e8.trans (Ext.set h8 rfl)⟩
          rw [upd_same, wdL_succ, if_pos q1, List.map_append]
          rfl
        · have q1 : ¬ (((s0 + i : Nat) : Int) + Y.f0) % Y.W = fe.a := by
            have q1 : decide (V.int ((((s0 + i : Nat) : Int) + Y.f0) % Y.W) = V.int fe.a) = false := q1
            simpa using q1
          rw [wdL_succ, if_neg q1, List.append_nil]
          exact ⟨h8, e8⟩
      rintro H8 ⟨h8, e8⟩
      have E8 := E7.trans (e8.mono1 (NoM.of hD))
      have ht8 := SqT.ext ht7 e8
      have hlen := wdL_len s0 nd Y.W Y.f0 fe.a
      generalize wdL s0 nd Y.W Y.f0 fe.a = l at h8 hQ hlen
      have hQ8 := hQ
      walk_at "s"
      refine ⟨_, _, _, _, rfl, rfl, ht8, rfl, ?_⟩
      have hk : ∀ k : Nat, k < l.length → (l.map V.int)[k]? = some (V.int (l.getD k 0)) := fun k hk => by
        rw [List.getElem?_map, List.getD_eq_getElem?_getD, List.getElem?_eq_getElem hk]
        rfl
      have hkr : ∀ k : Nat, k < l.length → (l.map V.int).reverse[k]? = some (V.int (l.getD (l.length - 1 - k) 0)) := fun k h => by
        rw [List.getElem?_reverse (by rw [List.length_map]; exact h), List.length_map]
        exact hk _ (by omega)
      walk_at "s"
      refine ifB (fun q3 => ?_) (fun q3 => ?_)
      · have q3 : 0 < fe.b := of_decide_eq_true q3
        walk_at "s"
        refine ⟨_, _, _, _, rfl, rfl, ht8, rfl, ?_⟩
        walk_at "s"
        have ha : (if fe.b < 0 then -fe.b else fe.b) = (fe.b.natAbs : Int) := by split <;> omega
        refine ifB (fun q4 => ?_) (fun q4 => ?_)
        · walk_at "s"
          refine ⟨_, _, rfl, .inl (SqL.of h8), ?_⟩
          rw [List.length_map]
          walk_at "s"
          refine ifB (fun q5 => ?_) (fun q5 => ?_)
          · have q5 : (if fe.b < 0 then -fe.b else fe.b) ≤ (l.length : Nat) := of_decide_eq_true q5
            rw [ha] at q5
            walk_at "s"
            refine ⟨_, _, _, _, rfl, rfl, ht8, rfl, ?_⟩
            walk_at "s"
            refine ⟨_, _, _, _, rfl, rfl, SqL.of h8, atI_of (i := fe.b.natAbs - 1) (by split <;> omega) (hk _ (by omega)), ?_⟩
            have hn : nthV l fe.b = V.int (l.getD (fe.b.natAbs - 1) 0) := by
              unfold nthV
              rw [if_neg (by omega), if_pos (by omega)]
              congr 2
              omega
            rw [hn] at hQ
            exact hQ H8 E8
          · have q5 : ¬ (if fe.b < 0 then -fe.b else fe.b) ≤ (l.length : Nat) := of_decide_eq_false q5
            rw [ha] at q5
            walk_at "s"
            have hn : nthV l fe.b = V.non := by
              unfold nthV
              rw [if_pos (by omega)]
            rw [hn] at hQ
            exact hQ H8 E8
        · have q4 : ¬ 0 < (if fe.b < 0 then -fe.b else fe.b) := of_decide_eq_false q4
          rw [ha] at q4
          omega
      · have q3 : ¬ 0 < fe.b := of_decide_eq_false q3
        walk_at "s"
        refine ⟨D, _, rfl, SqL.of h8, fun p hp => ?_⟩
        have e9 : Ext (TT K) No H8 (upd H8 p (.lst (l.map V.int).reverse)) := Ext.new hp
        have h9 : upd H8 p (.lst (l.map V.int).reverse) p = some (.lst (l.map V.int).reverse) := upd_same
        generalize upd H8 p (.lst (l.map V.int).reverse) = H9 at e9 h9
        have ht9 := SqT.ext ht8 e9
        have E9 := E8.trans e9
        walk_at "s"
        refine ⟨_, _, _, _, rfl, rfl, ht9, rfl, ?_⟩
        walk_at "s"
        have ha : (if fe.b < 0 then -fe.b else fe.b) = (fe.b.natAbs : Int) := by split <;> omega
        refine ifB (fun q4 => ?_) (fun q4 => ?_)
        · have q4 : 0 < (if fe.b < 0 then -fe.b else fe.b) := of_decide_eq_true q4
          rw [ha] at q4
          walk_at "s"
          refine ⟨_, _, rfl, .inl (SqL.of h9), ?_⟩
          rw [List.length_reverse, List.length_map]
          walk_at "s"
          refine ifB (fun q5 => ?_) (fun q5 => ?_)
          · have q5 : (if fe.b < 0 then -fe.b else fe.b) ≤ (l.length : Nat) := of_decide_eq_true q5
            rw [ha] at q5
            walk_at "s"
            refine ⟨_, _, _, _, rfl, rfl, ht9, rfl, ?_⟩
            walk_at "s"
            refine ⟨_, _, _, _, rfl, rfl, SqL.of h9, atI_of (i := fe.b.natAbs - 1) (by split <;> omega) (hkr _ (by omega)), ?_⟩
            have hn : nthV l fe.b = V.int (l.getD (l.length - 1 - (fe.b.natAbs - 1)) 0) := by
              unfold nthV
              rw [if_neg (by omega), if_neg (by omega)]
              congr 2
              omega
            rw [hn] at hQ
            exact hQ H9 E9
          · have q5 : ¬ (if fe.b < 0 then -fe.b else fe.b) ≤ (l.length : Nat) := of_decide_eq_false q5
            rw [ha] at q5
            walk_at "s"
            have hn : nthV l fe.b = V.non := by
              unfold nthV
              rw [if_pos (by omega)]
            rw [hn] at hQ
            exact hQ H9 E9
        · have q4 : ¬ 0 < (if fe.b < 0 then -fe.b else fe.b) := of_decide_eq_false q4
          rw [ha] at q4
          walk_at "s"
          have hn : nthV l fe.b = V.non := by
            unfold nthV
            rw [if_pos (by omega)]
          rw [hn] at hQ
          exact hQ H9 E9
    have k3 : fe.kind ≠ .nth := fun z => by
      have q2 : decide (V.str fe.kind.str = V.str FK.nth.str) = false := q2
      rw [z] at q2
      simp at q2
    have hth : fe.things = [.str fe.s, .int fe.a] := by
      unfold Fe.things
      rw [if_neg k3]
    rw [hth] at ht1
    have kd : fe.kind = .behind ∨ fe.kind = .next := by
      cases h : fe.kind with
      | fixed => exact absurd h k1
      | moon => exact absurd h k2
      | nth => exact absurd h k3
      | behind => exact .inl rfl
      | next => exact .inr rfl
    obtain ⟨j, g, hji, hj, hg⟩ := hL.wf.dep i fe hi kd
    walk_at "s"
    refine ⟨_, _, _, _, rfl, rfl, ht1, rfl, ?_⟩
    walk_at "s"
    refine hsp _ _ _ _ (by omega) ⟨dq, o, fd, mv, Y, fs, as, fe.s, yn, j, g, rfl, hO1, hL, hy, hj, hg, by omega, fun H2 e2 => ?_⟩
    have hn1 : n - 1 + 1 = n := by omega
    rw [hn1]
    have E2 := e1.trans e2
    have hO2 := hO1.ext e2.no
    have ht2 := SqT.ext ht1 e2
    have w1 := hL.w1
    obtain ⟨mt2, _, _, gw2, gf2, _⟩ := hO2.get
    cases hv : fallV Y fs n fe.s yn with
    | none =>
      have hQ : ∀ H', Ext (TT K) No H H' → Q .non H' := by
        rcases kd with z | z
        · simp only [z, hv] at hQ
          exact hQ
        · simp only [z, hv] at hQ
          exact hQ
      walk_at "s"
      exact hQ H2 E2
    | some s0 =>
      walk_at "s"
      refine ifB (fun q5 => ?_) (fun q5 => ?_)
      · have km : fe.kind = .behind := by
          have q5 : decide (V.str fe.kind.str = V.str FK.behind.str) = true := q5
          exact FK.inj _ _ (by simpa using q5)
        simp only [km, hv] at hQ
        walk_at "s"
        refine ⟨_, _, _, _, rfl, rfl, ht2, rfl, ?_⟩
        walk_at "s"
        refine ifB (fun q6 => ?_) (fun q6 => ?_)
        · have q6 : 0 ≤ s0 + fe.a := of_decide_eq_true q6
          rw [if_pos q6] at hQ
          walk_at "s"
          refine ⟨_, _, _, _, rfl, rfl, ht2, rfl, ?_⟩
          walk_at "s"
          exact hQ H2 E2
        · have q6 : ¬ 0 ≤ s0 + fe.a := of_decide_eq_false q6
          rw [if_neg q6] at hQ
          walk_at "s"
          exact hQ H2 E2
      · have km : fe.kind = .next := kd.elim (fun z => by
          have q5 : decide (V.str fe.kind.str = V.str FK.behind.str) = false := q5
          rw [z] at q5
          simp at q5) id
        simp only [km, hv] at hQ
        have ha0 := hL.nx fe (List.mem_of_getElem? hi) km
        walk_at "s"
        refine ⟨_, _, _, _, rfl, rfl, ht2, rfl, ?_⟩
        walk_at "s"
        refine ⟨_, _, rfl, gw2, ?_⟩
        walk_at "s"
        refine ifB (fun q6 => ?_) (fun q6 => ?_)
        · have q6 : Y.W ≤ fe.a := of_decide_eq_true q6
          rw [if_neg (fun z => by omega)] at hQ
          walk_at "s"
          exact hQ H2 E2
        have q6 : ¬ Y.W ≤ fe.a := of_decide_eq_false q6
        rw [if_pos ⟨ha0, by omega⟩] at hQ
        have hQ := hQ H2 E2
        obtain ⟨kk, hkk⟩ : ∃ kk : Int, kk = (fe.a - (s0 + 1 + Y.f0) % Y.W) % Y.W := ⟨_, rfl⟩
        rw [← hkk] at hQ
        have kk0 : 0 ≤ kk := by rw [hkk]; exact Int.emod_nonneg _ (by omega)
        have kk1 : kk < Y.W := by rw [hkk]; exact Int.emod_lt_of_pos _ (by omega)
        walk_at "s"
        refine ⟨fun m σ2 H3 => ∃ k : Nat, σ2 = [some (V.ref o), some (V.str fe.name), some (V.int (yn : Nat)), some (V.str fe.kind.str), some (V.ref t), none, some (V.int s0), none, none, some (V.int (s0 + 1 + (k : Nat)))] ∧ (k : Int) ≤ kk ∧ m = kk.toNat - k ∧ H3 = H2, ⟨kk.toNat, 0, (by
          have e : s0 + 1 + ((0 : Nat) : Int) = s0 + 1 := by omega
          rw [e]
          rfl), by omega, rfl, rfl⟩, ?_⟩
        rintro m σ2 H3 ⟨k, rfl, hk, rfl, rfl⟩
        have hnx := nxt (x := s0 + 1 + Y.f0) (a := fe.a) (W := Y.W) (k := (k : Nat)) (by omega) ha0 (by omega) (by omega) (by omega)
        rw [← hkk] at hnx
        walk_at "s"
        refine ⟨_, _, rfl, gf2, ?_⟩
        walk_at "s"
        refine ⟨_, _, rfl, gw2, ?_⟩
        walk_at "s"
        refine ⟨by omega, ?_⟩
        walk_at "s"
        refine ⟨_, _, _, _, rfl, rfl, ht2, rfl, ?_⟩
        walk_at "s"
        have ex : s0 + 1 + ((k : Nat) : Int) + Y.f0 = s0 + 1 + Y.f0 + (k : Nat) := by omega
        refine ifB (fun q7 => ?_) (fun q7 => ?_)
        · have q7 : (!decide (V.int ((s0 + 1 + ((k : Nat) : Int) + Y.f0) % Y.W) = V.int fe.a)) = true := q7
          rw [ex] at q7
          have q7 : ¬ (s0 + 1 + Y.f0 + ((k : Nat) : Int)) % Y.W = fe.a := by simpa using q7
          have hne : ¬ ((k : Nat) : Int) = kk := fun z => q7 (hnx.mpr z)
          refine ⟨_, fun _ _ h => h, ?_⟩
          walk_at "s"
          refine ⟨kk.toNat - (k + 1), by omega, k + 1, ?_, by omega, rfl, rfl⟩
          have e : s0 + 1 + ((k : Nat) : Int) + 1 = s0 + 1 + ((k + 1 : Nat) : Int) := by omega
          rw [← e]
          rfl
        · have q7 : (!decide (V.int ((s0 + 1 + ((k : Nat) : Int) + Y.f0) % Y.W) = V.int fe.a)) = false := q7
          rw [ex] at q7
          have q7 : (s0 + 1 + Y.f0 + ((k : Nat) : Int)) % Y.W = fe.a := by simpa using q7
          rw [← hnx.mp q7] at hQ
          walk_at "s"
          exact hQ
theorem ok_law_falls (T : Tx K mg base) (tk : TOk (TT K)) : ∀ n, FnOk P w K mg base (L2.CX P w) (n + 21) (He.fAd K ("_law_falls", none)) T.fd_law_falls ["own", "name", "year"] (spFalls K n)
  | 0 => falls_step T tk 0 (fun _ _ _ _ => False) ⟨fun _ _ _ _ h => h.elim, fun _ _ _ _ _ _ _ _ _ _ _ _ _ h => h.elim⟩ fun _ _ _ _ h _ => absurd h (by omega)
  | n + 1 => falls_step T tk (n + 1) (spFalls K n) (ok_law_falls T tk n) fun _ _ _ _ _ h => h
end K60

set_option Elab.async false
set_option linter.all false
set_option maxRecDepth 100000
set_option maxHeartbeats 2000000
namespace K60
open PySem PySem.Spec PyProof.Rows L2 MB
local macro_rules | `(tactic| walk_at "s") => `(tactic| repeat (first | refine ⟨_, rfl, ?_⟩ | refine ⟨_, _, rfl, rfl, ?_⟩ | refine ⟨_, _, rfl, ?_⟩ | refine ⟨rfl, ?_⟩))
variable {P : Program} {w : World} {K : PySem.W.Frag} {mg : Str → Option Value} {base : Heap}
/-! ### _law_feast -/
def fnS (i : Nat) : Str := Str.ofString "f" ++ Str.ofString (toString ((0 : Int) + (i : Int)))
theorem fn_len : ∀ i : Nat, i < 6 → (Str.ofString "f").length + (Str.ofString (toString ((0 : Int) + (i : Int)))).length ≤ 10 := by decide +kernel
theorem fn_sok : ∀ i, i < 6 → PyData.canLay0 (.str (fnS i)) = true := by decide +kernel
/-- a drawn feast -/
structure FeD (Y : Yr) (fe : Fe) : Prop where
  mon : fe.kind = .fixed ∨ fe.kind = .moon ∨ fe.kind = .nth → fe.s ∈ Y.ms.map (·.1)
  nam : fe.kind = .behind ∨ fe.kind = .next → ∃ k, k < 6 ∧ fe.s = fnS k
  nx : fe.kind = .next → 0 ≤ fe.a
def FK.at (k : Nat) : FK := match k with
  | 0 => .fixed
  | 1 => .nth
  | 2 => .behind
  | 3 => .moon
  | _ => .next
theorem kd1 {k : FK} (h : k = .fixed ∨ k = .moon) : ¬ (k = .behind ∨ k = .next) := by cases k <;> simp at h ⊢
theorem kd2 {k : FK} (h : k = .fixed ∨ k = .moon) : ¬ k = .nth := by cases k <;> simp at h ⊢
theorem kd3 {k : FK} (h : ¬ (k = .fixed ∨ k = .moon)) (h2 : ¬ k = .nth) : ¬ (k = .fixed ∨ k = .moon ∨ k = .nth) := by cases k <;> simp at h h2 ⊢
theorem things2 {nm mx : Str} {k : FK} {a b : Int} (h : ¬ k = .nth) : (Fe.mk nm k mx a b).things = [.str mx, .int a] := by
  unfold Fe.things
  rw [if_neg h]
def spLFeast (K : PySem.W.Frag) : Sp := fun vs H Q _ => ∃ (dq o fd : Addr) (Y : Yr) (fs : List Fe) (as : List Addr) (nm : Str), vs = [.ref dq, .ref o] ∧ DiceAt H dq ∧ OwnF K dq H o Y fd fs as ∧ OwnV Y.ms Y.lg Y.rs ∧ 1 ≤ Y.W ∧ Y.W ≤ 60 ∧
  ∀ (t th : Addr) (fe : Fe) H', fe.name = nm → FeD Y fe → H' t = some (.tup [.str fe.kind.str, .ref th]) → H' th = some (.tup fe.things) → DiceAt H' dq → Ext (TT K) (· = dq) H H' → Q (.ref t) H'
theorem ok_law_feast (T : Tx K mg base) : FnOk P w K mg base (L2.CX P w) 4 (He.fAd K ("_law_feast", none)) T.fd_law_feast ["dice", "own"] (spLFeast K) := by
  refine T.F_law_feast.ok sc_law_feast (fun vs H Q E h => ?_) (fun cdv A outer s H vs Q E hr h => ⟨_, (pss_cons (ps_par (i := 2) (j := 3) rfl sc_law_feast.nd rfl rfl (by decide) rfl rfl (pa_cons (pe_ix (ix_listK (K := K) rfl) (pe_lstN (T := TT K) (pa_cons pe_str (pa_cons pe_str (pa_cons pe_str (pa_cons pe_str (pa_cons pe_str pa_nil)))))) (pe_call (ok_law_roll T) (hr.mono (by first | decide | omega)) rfl T.g_law_roll T.F_law_roll.kp (bi_law_roll T) .nil (passes_call (takes_of rfl rfl rfl rfl) fun _ _ _ _ h => h) (pa_cons (pv 0) (pa_cons pe_int pa_nil))) (fun _ _ => rfl)) (pa_cons (pe_ix (ix_tupK (K := K) rfl) (pe_ix (ix_listK (K := K) rfl) (pe_dget (Nat.lt_of_le_of_lt (Nat.add_le_add_left (by decide) _) hr.units) (pv 1) pe_str (fun _ _ => rfl)) (pe_call (ok_law_roll T) (hr.mono (by first | decide | omega)) rfl T.g_law_roll T.F_law_roll.kp (bi_law_roll T) .nil (passes_call (takes_of rfl rfl rfl rfl) fun _ _ _ _ h => h) (pa_cons (pv 0) (pa_cons (pe_callB (call_lenK (K := K) rfl) rfl T.b_len (by decide +kernel) (pa_cons (pe_dget (Nat.lt_of_le_of_lt (Nat.add_le_add_left (by decide) _) hr.units) (pv 1) pe_str (fun _ _ => rfl)) pa_nil)) pa_nil))) (fun _ _ => rfl)) pe_int (fun _ _ => rfl)) pa_nil)) rfl)
 (pss_cons (ps_if (pt_cmpR op_in_seq (pv 2) (pe_lstN (T := TT K) (pa_cons pe_str (pa_cons pe_str pa_nil))) (by with_unfolding_all rfl)) (pss_one (ps_ret (pe_tupN (T := TT K) (pa_cons (pv 2) (pa_cons (pe_tupN (T := TT K) (pa_cons (pv 3) (pa_cons (pe_call (ok_law_roll T) (hr.mono (by first | decide | omega)) rfl T.g_law_roll T.F_law_roll.kp (bi_law_roll T) .nil (passes_call (takes_of rfl rfl rfl rfl) fun _ _ _ _ h => h) (pa_cons (pv 0) (pa_cons pe_int pa_nil))) pa_nil))) pa_nil))))) pss_nil)
 (pss_cons (ps_if (pt_cmpR op_eq (pv 2) pe_str (nomark _)) (pss_one (ps_ret (pe_tupN (T := TT K) (pa_cons (pv 2) (pa_cons (pe_tupN (T := TT K) (pa_cons (pv 3) (pa_cons (pe_call (ok_law_roll T) (hr.mono (by first | decide | omega)) rfl T.g_law_roll T.F_law_roll.kp (bi_law_roll T) .nil (passes_call (takes_of rfl rfl rfl rfl) fun _ _ _ _ h => h) (pa_cons (pv 0) (pa_cons (pe_op op_add (pe_dget (Nat.lt_of_le_of_lt (Nat.add_le_add_left (by decide) _) hr.units) (pv 1) pe_str (fun _ _ => rfl)) pe_int) pa_nil))) (pa_cons (pe_op op_sub (pe_call (ok_law_roll T) (hr.mono (by first | decide | omega)) rfl T.g_law_roll T.F_law_roll.kp (bi_law_roll T) .nil (passes_call (takes_of rfl rfl rfl rfl) fun _ _ _ _ h => h) (pa_cons (pv 0) (pa_cons pe_int pa_nil))) pe_int) pa_nil)))) pa_nil))))) pss_nil)
 (pss_cons (ps_set (i := 4) sc_law_feast.nd rfl (Or.inl rfl) (pe_op op_add_str pe_str (pe_callTy call_str_int rfl T.b_str (by decide +kernel) (pa_cons (pe_call (ok_law_roll T) (hr.mono (by first | decide | omega)) rfl T.g_law_roll T.F_law_roll.kp (bi_law_roll T) .nil (passes_call (takes_of rfl rfl rfl rfl) fun _ _ _ _ h => h) (pa_cons (pv 0) (pa_cons pe_int pa_nil))) pa_nil))))
 (pss_one (ps_ret (pe_tupN (T := TT K) (pa_cons (pv 2) (pa_cons (pe_tupN (T := TT K) (pa_cons (pv 4) (pa_cons (pe_ifExp (pt_cmpR op_eq (pv 2) pe_str (nomark _)) (pe_op op_sub (pe_call (ok_law_roll T) (hr.mono (by first | decide | omega)) rfl T.g_law_roll T.F_law_roll.kp (bi_law_roll T) .nil (passes_call (takes_of rfl rfl rfl rfl) fun _ _ _ _ h => h) (pa_cons (pv 0) (pa_cons pe_int pa_nil))) pe_int) (pe_call (ok_law_roll T) (hr.mono (by first | decide | omega)) rfl T.g_law_roll T.F_law_roll.kp (bi_law_roll T) .nil (passes_call (takes_of rfl rfl rfl rfl) fun _ _ _ _ h => h) (pa_cons (pv 0) (pa_cons (pe_op op_add (pe_dget (Nat.lt_of_le_of_lt (Nat.add_le_add_left (by decide) _) hr.units) (pv 1) pe_str (fun _ _ => rfl)) pe_int) pa_nil)))) pa_nil))) pa_nil))))))))), ?_⟩)
  · obtain ⟨dq, o, fd, Y, fs, as, nm, rfl, _⟩ := h
    rfl
  · obtain ⟨dq, o, fd, Y, fs, as, nm, rfl, hd, hO, oV, w1, w60, hQ⟩ := h
    have hdn : ∀ {p : Addr}, H p = none → p ≠ dq := fun z z2 => by obtain ⟨x, y, z3, q⟩ := hd; rw [z2, q] at z; cases z
    walk_at "s"
    refine ⟨sz, fun l1 H1 hl1 hv1 e1 => ?_⟩
    walk_at "s"
    refine ⟨hd.ext e1 id, by decide, by decide, fun r H2 hr hd2 e2 => ?_⟩
    have hr5 : r < 5 := by omega
    have hO2 := (hO.ext e1.no).ext e2
    have hk : [V.str "fixed", V.str "nth", V.str "behind", V.str "moon", V.str "next"][r]? = some (.str (FK.at r).str) := by
      match r, hr5 with
      | 0, _ => rfl
      | 1, _ => rfl
      | 2, _ => rfl
      | 3, _ => rfl
      | 4, _ => rfl
    walk_at "s"
    refine ⟨_, _, _, _, rfl, rfl, SqL.of (e2.lst _ _ hv1 (hdn hl1)), atI_of (i := r) (by omega) hk, ?_⟩
    have E2 := e1.no.trans e2
    clear hv1 e1 e2 hk
    obtain ⟨mq, rq, ts, rts, g1, g2, g3, g4, g5, g6, g7⟩ := hO2.own.ex
    walk_at "s"
    refine ⟨_, _, rfl, get_months g1, ?_⟩
    walk_at "s"
    refine ⟨_, _, rfl, get_months g1, ?_⟩
    refine ⟨_, _, rfl, .inl (SqL.of g2), ?_⟩
    have hml : ts.length = Y.ms.length := g3.1
    have hmp := oV.mv.pos
    have hm4 := oV.four
    rw [List.length_map, hml]
    walk_at "s"
    refine ⟨hd2, by omega, by omega, fun rm H3 hrm hd3 e3 => ?_⟩
    have hrm : rm < Y.ms.length := by omega
    obtain ⟨mm, hmm⟩ : ∃ mm, Y.ms[rm]? = some mm := ⟨_, List.getElem?_eq_getElem hrm⟩
    obtain ⟨tm, htm⟩ : ∃ tm, ts[rm]? = some tm := ⟨_, List.getElem?_eq_getElem (by omega)⟩
    have hmt := e3.fix _ _ (g3.2 rm tm mm htm hmm) rfl
    have E3 := E2.trans e3
    have hO3 := hO2.ext e3
    walk_at "s"
    refine ⟨_, _, _, _, rfl, rfl, SqL.of (e3.lst _ _ g2 g6), atI_of (i := rm) (x := V.ref tm) (by omega) (by rw [List.getElem?_map, htm]; rfl), ?_⟩
    walk_at "s"
    refine ⟨_, _, _, _, rfl, rfl, SqT.of hmt, rfl, ?_⟩
    have hmem : mm.1 ∈ Y.ms.map (·.1) := List.mem_map.mpr ⟨mm, List.mem_of_getElem? hmm, rfl⟩
    generalize mm.1 = mx at hmem
    clear hmt g1 g2 g3 g4 g5 g6 g7 E2 e3 hd2 hO2 hmm htm
    walk_at "s"
    refine ⟨sz, fun l4 H4 hl4 hv4 e4 => ?_⟩
    refine ⟨l4, _, rfl, .inl (SqL.of hv4), rfl, rfl, ?_⟩
    have hb1 : (if false = true then !inV (V.str (FK.at r).str) [V.str "fixed", V.str "moon"] else inV (V.str (FK.at r).str) [V.str "fixed", V.str "moon"]) = decide (FK.at r = .fixed ∨ FK.at r = .moon) := by
      cases FK.at r <;> decide +kernel
    rw [hb1]
    generalize FK.at r = k
    have hO4 := hO3.ext e4.no
    have hd4 := hd3.ext e4 id
    have E4 := E3.trans e4.no
    clear hv4 hl4 e4 hO3 hd3 E3 hb1
    walk_at "s"
    refine ifB (fun q1 => ?_) (fun q1 => ?_)
    · have q1 := of_decide_eq_true q1
      walk_at "s"
      refine ⟨hd4, by decide, by decide, fun ra H5 hra hd5 e5 => ?_⟩
      walk_at "s"
      refine ⟨sz, fun t6 H6 ht6 hv6 e6 => ?_⟩
      walk_at "s"
      refine ⟨sz, fun t7 H7 ht7 hv7 e7 => ?_⟩
      have E7 := E4.trans (e5.trans (e6.trans e7).no)
      refine hQ t7 t6 ⟨nm, k, mx, ra, 0⟩ H7 rfl ⟨fun _ => hmem, fun z => ?_, fun _ => by show (0 : Int) ≤ (ra : Nat); omega⟩ hv7 ?_ ((hd5.ext e6 id).ext e7 id) E7
      · exact absurd z (kd1 q1)
      · rw [things2 (kd2 q1)]
        exact e7.fix _ _ hv6 rfl
    have q1 := of_decide_eq_false q1
    walk_at "s"
    refine ifB (fun q2 => ?_) (fun q2 => ?_)
    · have km : k = .nth := by
        have q2 : decide (V.str k.str = V.str FK.nth.str) = true := q2
        exact FK.inj _ _ (by simpa using q2)
      obtain ⟨_, _, _, gw4, _, _⟩ := hO4.get
      walk_at "s"
      refine ⟨_, _, rfl, gw4, ?_⟩
      walk_at "s"
      refine ⟨hd4, by omega, by omega, fun ra H5 hra hd5 e5 => ?_⟩
      walk_at "s"
      refine ⟨hd5, by decide, by decide, fun rb H6 hrb hd6 e6 => ?_⟩
      walk_at "s"
      refine ⟨sz, fun t7 H7 ht7 hv7 e7 => ?_⟩
      walk_at "s"
      refine ⟨sz, fun t8 H8 ht8 hv8 e8 => ?_⟩
      have E7 := E4.trans ((e5.trans e6).trans e7.no)
      refine hQ t8 t7 ⟨nm, k, mx, ra, (rb : Nat) - 3⟩ H8 rfl ⟨fun _ => hmem, fun z => ?_, fun _ => by show (0 : Int) ≤ (ra : Nat); omega⟩ hv8 ?_ ((hd6.ext e7 id).ext e8 id) (E7.trans e8.no)
      · have z : k = .behind ∨ k = .next := z
        rw [km] at z
        simp at z
      · have hth : (Fe.mk nm k mx ra ((rb : Nat) - 3)).things = [.str mx, .int (ra : Nat), .int ((rb : Nat) - 3)] := by
          unfold Fe.things
          rw [if_pos km]
        rw [hth]
        exact e8.fix _ _ hv7 rfl
    have q2 : k ≠ .nth := fun z => by
      have q2 : decide (V.str k.str = V.str FK.nth.str) = false := q2
      rw [z] at q2
      simp at q2
    walk_at "s"
    refine ⟨hd4, by decide, by decide, fun rn H5 hrn hd5 e5 => ?_⟩
    have hrn : rn < 6 := by omega
    walk_at "s"
    refine ⟨Nat.lt_of_le_of_lt (Nat.log2_le_self _) (by omega), ?_⟩
    walk_at "s"
    have hfl := fn_len rn hrn
    rw [Int.zero_add] at hfl
    refine ⟨Nat.le_trans hfl (sz (by decide)), ?_⟩
    have hnm : Str.ofString "f" ++ Str.ofString (toString (rn : Int)) = fnS rn := by unfold fnS; rw [Int.zero_add]
    rw [hnm]
    have hO5 := hO4.ext e5
    walk_at "s"
    refine ifB (fun q3 => ?_) (fun q3 => ?_)
    · have km : k = .behind := by
        have q3 : decide (V.str k.str = V.str FK.behind.str) = true := q3
        exact FK.inj _ _ (by simpa using q3)
      walk_at "s"
      refine ⟨hd5, by decide, by decide, fun ra H6 hra hd6 e6 => ?_⟩
      walk_at "s"
      refine ⟨sz, fun t7 H7 ht7 hv7 e7 => ?_⟩
      walk_at "s"
      refine ⟨sz, fun t8 H8 ht8 hv8 e8 => ?_⟩
      have E7 := E4.trans ((e5.trans e6).trans e7.no)
      refine hQ t8 t7 ⟨nm, k, fnS rn, (ra : Nat) - 20, 0⟩ H8 rfl ⟨fun z => absurd z (kd3 q1 q2), fun _ => ⟨rn, hrn, rfl⟩, fun z => ?_⟩ hv8 ?_ ((hd6.ext e7 id).ext e8 id) (E7.trans e8.no)
      · have z : k = .next := z
        rw [km] at z
        cases z
      · rw [things2 q2]
        exact e8.fix _ _ hv7 rfl
    · have q3 : k ≠ .behind := fun z => by
        have q3 : decide (V.str k.str = V.str FK.behind.str) = false := q3
        rw [z] at q3
        simp at q3
      obtain ⟨_, _, _, gw5, _, _⟩ := hO5.get
      walk_at "s"
      refine ⟨_, _, rfl, gw5, ?_⟩
      walk_at "s"
      refine ⟨hd5, by omega, by omega, fun ra H6 hra hd6 e6 => ?_⟩
      walk_at "s"
      refine ⟨sz, fun t7 H7 ht7 hv7 e7 => ?_⟩
      walk_at "s"
      refine ⟨sz, fun t8 H8 ht8 hv8 e8 => ?_⟩
      have E7 := E4.trans ((e5.trans e6).trans e7.no)
      refine hQ t8 t7 ⟨nm, k, fnS rn, (ra : Nat), 0⟩ H8 rfl ⟨fun z => absurd z (kd3 q1 q2), fun _ => ⟨rn, hrn, rfl⟩, fun z => by show (0 : Int) ≤ (ra : Nat); omega⟩ hv8 ?_ ((hd6.ext e7 id).ext e8 id) (E7.trans e8.no)
      rw [things2 q2]
      exact e8.fix _ _ hv7 rfl
end K60

set_option Elab.async false
set_option linter.all false
set_option maxRecDepth 100000
set_option maxHeartbeats 2000000
namespace K60
open PySem PySem.Spec PyProof.Rows L2 MB
local macro_rules | `(tactic| walk_at "s") => `(tactic| repeat (first | refine ⟨_, rfl, ?_⟩ | refine ⟨_, _, rfl, rfl, ?_⟩ | refine ⟨_, _, rfl, ?_⟩ | refine ⟨rfl, ?_⟩))
variable {P : Program} {w : World} {K : PySem.W.Frag} {mg : Str → Option Value} {base : Heap}
def plainBody : List Stmt := defBody s_law_plain
def lamOf (i : Nat) : ML.LamD := match plainBody with
  | _ :: _ :: _ :: (.Assign _ (.List es _) _) :: _ => (match es.getD i (.Constant .none 0 ⟨0, 0, 0, 0⟩) with
    | .Lambda params body scope _ => ⟨params, body, scope⟩
    | e => ⟨defArgs s_law_plain, e, defScope s_law_plain⟩)
  | _ => ⟨defArgs s_law_plain, .Constant .none 0 ⟨0, 0, 0, 0⟩, defScope s_law_plain⟩
abbrev plainX (P : Program) (w : World) (K : PySem.W.Frag) (mg : Str → Option Value) (base : Heap) (A : Around) (outer : List Env) (s : Shared) (H0 : Hp) (E0 : XK) : Cx :=
  cxOf (L2.CX P w) P w K mg base ["calendar", "moons", "feasts", "k", "bad", "f", "other"] "_law_plain" (defScope s_law_plain) (He.fAd K ("_law_plain", none)) (.ref (He.cT K ("_law_plain", none)).1) A outer s H0 E0
abbrev msP : Mons := [("a", 10), ("b", 20)]
abbrev rsP : MM.Rules := [(4, true)]
def YP (L p f : Nat) : Yr := ⟨msP, "a", rsP, 7, 0, L, p, f⟩
def feP (k : Nat) : Fe := ⟨fnS k, .fixed, "a", 1, 0⟩
def fsP (k : Nat) : List Fe := (List.range k).map feP
theorem fsP_len (k : Nat) : (fsP k).length = k := by unfold fsP; rw [List.length_map, List.length_range]
theorem fsP_succ (k : Nat) : fsP (k + 1) = fsP k ++ [feP k] := by unfold fsP; rw [List.range_succ, List.map_append]; rfl
theorem fsP_names (k : Nat) : (fsP k).map (·.name) = (List.range k).map fnS := by unfold fsP; rw [List.map_map]; rfl
theorem fsP_at {k i : Nat} (h : i < k) : (fsP k)[i]? = some (feP i) := by unfold fsP; rw [List.getElem?_map, List.getElem?_range h]; rfl
theorem fsP_mem {k : Nat} {f : Fe} (h : f ∈ fsP k) : f.kind = .fixed ∧ f.s = "a" := by
  obtain ⟨i, _, rfl⟩ := List.mem_map.mp h
  exact ⟨rfl, rfl⟩
theorem fn_new : ∀ k, k < 40 → fnS k ∉ (List.range k).map fnS := by decide +kernel
theorem fn_len40 : ∀ i : Nat, i < 40 → (Str.ofString "f").length + (Str.ofString (toString ((0 : Int) + (i : Int)))).length ≤ 10 := by decide +kernel
theorem okMP : MsV msP "a" := ⟨by decide, by decide, by decide, by decide +kernel, by decide +kernel, by decide +kernel⟩
theorem okRP : ROk rsP := ⟨by decide, by decide, by decide, fun i a b h1 h2 => by simp at h2, by decide⟩
theorem rvRP : RV rsP := ⟨by decide, by decide, by decide, fun i a b h1 h2 => by simp at h2⟩
theorem fsP_nd : ∀ k, k ≤ 40 → ((fsP k).map (·.name)).Nodup := fun k hk => by
  rw [fsP_names]
  have h : ((List.range 40).map fnS).Nodup := by decide +kernel
  exact h.sublist ((List.range_sublist.mpr hk).map fnS)
theorem wfP {k L p f : Nat} {mv : V} (hk : k ≤ 40) : WfF (YP L p f) mv (fsP k) := ⟨fsP_nd k hk, fun fe hf _ => by rw [(fsP_mem hf).2]; exact (show ("a" : Str) ∈ msP.map (·.1) by decide +kernel), fun i fe hi h => by
  have z := (fsP_mem (List.mem_of_getElem? hi)).1
  rw [z] at h
  simp at h, fun fe hf h => by
  rw [(fsP_mem hf).1] at h
  cases h⟩
theorem rnil {H : Hp} : RulesT H [] [] := ⟨rfl, fun _ _ _ z => by simp at z⟩
theorem rsnoc {H : Hp} {as : List Addr} {rs : MM.Rules} {t : Addr} {n : Nat} {b : Bool} (h : RulesT H as rs) (ht : H t = some (.tup [.int (n : Nat), .bl b])) : RulesT H (as ++ [t]) (rs ++ [(n, b)]) :=
  ⟨by simp [h.1], snoc_at h.1 h.2 ht⟩
abbrev LamNe (K : PySem.W.Frag) : Prop := (He.cT K ("_law_plain", none)).2 ≠ (He.cT K ("law", none)).2
/-- the feasts that the lambdas find -/
structure PlF (K : PySem.W.Frag) (H : Hp) (c x fq : Addr) (as : List Addr) : Prop where
  f : FsOk K H x c fq .non (YP 0 0 0) (fsP 40) as
  d : H fq = some (.dK (kvF (fsP 40) as))
theorem PlF.ext {c x fq : Addr} {H H' : Hp} {as : List Addr} (F : PlF K H c x fq as) (e : Ext (TT K) No H H') : PlF K H' c x fq as := ⟨F.f.ext e id, e.dk _ _ F.d id⟩
abbrev LamGood (P : Program) (w : World) (K : PySem.W.Frag) (mg : Str → Option Value) (base : Heap) (L : ML.LamD) (A : Around) (outer : List Env) (s : Shared) (H0 : Hp) (E0 : XK) : Prop :=
  ∃ t : XK → TE, ML.LamT (plainX P w K mg base A outer s H0 E0) 70 L t ∧
    ∀ (E : XK) (c x fq : Addr) (as : List Addr) (v1 v3 v4 v5 v6 : Option V) (H : Hp) (Q : VK), PlF K H c x fq as → Gd (TT K) H → (∀ H', Ext (TT K) No H H' → E (ME K) none H' ∧ E (YE K) none H' ∧ E (FE K) none H') → t E [some (.ref c), v1, some (.ref x), v3, v4, v5, v6] H Q
theorem lam_0 (T : Tx K mg base) (tk : TOk (TT K)) (A : Around) (outer : List Env) (s : Shared) (H0 : Hp) (E0 : XK) : LamGood P w K mg base (lamOf 0) A outer s H0 E0 := by
  have ok_Calendar_short := fun T : Tx K mg base => ok_Calendar_short (P := P) (w := w) T tk
  have ok_Feasts_nth := fun T : Tx K mg base => ok_Feasts_nth (P := P) (w := w) T tk
  have ok_Feasts_day := fun T : Tx K mg base => ok_Feasts_day (P := P) (w := w) T tk 39
  have ok_Feasts_meet := fun T : Tx K mg base => ok_Feasts_meet (P := P) (w := w) T tk 39
  have ok_Feasts_spread := fun T : Tx K mg base => ok_Feasts_spread (P := P) (w := w) T tk 39
  have ok_Feasts_year := fun T : Tx K mg base => ok_Feasts_year (P := P) (w := w) T tk 39
  refine ⟨fun E => _, ⟨LamX.lamS_by (sc := defScope s_law_plain) (by decide +kernel), fun _ _ _ _ _ => rfl, fun A outer s H E f c' hr => (pe_make T.mk_Feast (ok_Feast_init T) (hr.mono (by decide)) rfl T.g_Feast (bi_Feast_init T) .nil (passes_call (takes_of rfl rfl rfl rfl) fun _ _ _ _ h => h) (pa_cons pe_str (pa_cons pe_str (pa_cons (pe_tupN (T := TT K) (pa_cons pe_str (pa_cons pe_int pa_nil))) pa_nil))))⟩, ?_⟩
  intro E c x fq as v1 v3 v4 v5 v6 H Q F gd hE
  obtain ⟨dx9, p9, ts9, lp9, l1, _⟩ := id F.f.cal
  obtain ⟨dxf, lf⟩ := id F.f.at_
  have hm : ∀ {H'}, Ext (TT K) No H H' → E (ME K) none H' := fun e => (hE _ e).1
  have hy : ∀ {H'}, Ext (TT K) No H H' → E (YE K) none H' := fun e => (hE _ e).2.1
  have hf : ∀ {H'}, Ext (TT K) No H H' → E (FE K) none H' := fun e => (hE _ e).2.2
  walk_at "s"
  refine ⟨sz, fun t1 H1 ht1 hv1 e1 => ?_⟩
  walk_at "s"
  intro z dz hz hdz hne
  exact ⟨z, dz, t1, "", "fixed", [.str "a", .int 1], H1, rfl, hz, hdz, hne, rfl, .inr (SqT.of hv1), fun q => absurd q (fun q => q.1 rfl), fun _ H2 e2 => hf (e1.trans e2)⟩
theorem lam_1 (T : Tx K mg base) (tk : TOk (TT K)) (A : Around) (outer : List Env) (s : Shared) (H0 : Hp) (E0 : XK) : LamGood P w K mg base (lamOf 1) A outer s H0 E0 := by
  have ok_Calendar_short := fun T : Tx K mg base => ok_Calendar_short (P := P) (w := w) T tk
  have ok_Feasts_nth := fun T : Tx K mg base => ok_Feasts_nth (P := P) (w := w) T tk
  have ok_Feasts_day := fun T : Tx K mg base => ok_Feasts_day (P := P) (w := w) T tk 39
  have ok_Feasts_meet := fun T : Tx K mg base => ok_Feasts_meet (P := P) (w := w) T tk 39
  have ok_Feasts_spread := fun T : Tx K mg base => ok_Feasts_spread (P := P) (w := w) T tk 39
  have ok_Feasts_year := fun T : Tx K mg base => ok_Feasts_year (P := P) (w := w) T tk 39
  refine ⟨fun E => _, ⟨LamX.lamS_by (sc := defScope s_law_plain) (by decide +kernel), fun _ _ _ _ _ => rfl, fun A outer s H E f c' hr => (pe_make T.mk_Feast (ok_Feast_init T) (hr.mono (by decide)) rfl T.g_Feast (bi_Feast_init T) .nil (passes_call (takes_of rfl rfl rfl rfl) fun _ _ _ _ h => h) (pa_cons pe_str (pa_cons pe_str (pa_cons (pe_tupN (T := TT K) (pa_cons pe_str (pa_cons pe_int pa_nil))) pa_nil))))⟩, ?_⟩
  intro E c x fq as v1 v3 v4 v5 v6 H Q F gd hE
  obtain ⟨dx9, p9, ts9, lp9, l1, _⟩ := id F.f.cal
  obtain ⟨dxf, lf⟩ := id F.f.at_
  have hm : ∀ {H'}, Ext (TT K) No H H' → E (ME K) none H' := fun e => (hE _ e).1
  have hy : ∀ {H'}, Ext (TT K) No H H' → E (YE K) none H' := fun e => (hE _ e).2.1
  have hf : ∀ {H'}, Ext (TT K) No H H' → E (FE K) none H' := fun e => (hE _ e).2.2
  walk_at "s"
  refine ⟨sz, fun t1 H1 ht1 hv1 e1 => ?_⟩
  walk_at "s"
  intro z dz hz hdz hne
  exact ⟨z, dz, t1, "x", "never", [.str "a", .int 1], H1, rfl, hz, hdz, hne, rfl, .inr (SqT.of hv1), fun q => absurd q (fun q => by obtain ⟨_, k, hk, _⟩ := q; revert hk; cases k <;> decide +kernel), fun _ H2 e2 => hf (e1.trans e2)⟩
theorem lam_2 (T : Tx K mg base) (tk : TOk (TT K)) (A : Around) (outer : List Env) (s : Shared) (H0 : Hp) (E0 : XK) : LamGood P w K mg base (lamOf 2) A outer s H0 E0 := by
  have ok_Calendar_short := fun T : Tx K mg base => ok_Calendar_short (P := P) (w := w) T tk
  have ok_Feasts_nth := fun T : Tx K mg base => ok_Feasts_nth (P := P) (w := w) T tk
  have ok_Feasts_day := fun T : Tx K mg base => ok_Feasts_day (P := P) (w := w) T tk 39
  have ok_Feasts_meet := fun T : Tx K mg base => ok_Feasts_meet (P := P) (w := w) T tk 39
  have ok_Feasts_spread := fun T : Tx K mg base => ok_Feasts_spread (P := P) (w := w) T tk 39
  have ok_Feasts_year := fun T : Tx K mg base => ok_Feasts_year (P := P) (w := w) T tk 39
  refine ⟨fun E => _, ⟨LamX.lamS_by (sc := defScope s_law_plain) (by decide +kernel), fun _ _ _ _ _ => rfl, fun A outer s H E f c' hr => (pe_make T.mk_Feast (ok_Feast_init T) (hr.mono (by decide)) rfl T.g_Feast (bi_Feast_init T) .nil (passes_call (takes_of rfl rfl rfl rfl) fun _ _ _ _ h => h) (pa_cons pe_str (pa_cons pe_str (pa_cons (pe_tupN (T := TT K) (pa_cons pe_str pa_nil)) pa_nil))))⟩, ?_⟩
  intro E c x fq as v1 v3 v4 v5 v6 H Q F gd hE
  obtain ⟨dx9, p9, ts9, lp9, l1, _⟩ := id F.f.cal
  obtain ⟨dxf, lf⟩ := id F.f.at_
  have hm : ∀ {H'}, Ext (TT K) No H H' → E (ME K) none H' := fun e => (hE _ e).1
  have hy : ∀ {H'}, Ext (TT K) No H H' → E (YE K) none H' := fun e => (hE _ e).2.1
  have hf : ∀ {H'}, Ext (TT K) No H H' → E (FE K) none H' := fun e => (hE _ e).2.2
  walk_at "s"
  refine ⟨sz, fun t1 H1 ht1 hv1 e1 => ?_⟩
  walk_at "s"
  intro z dz hz hdz hne
  exact ⟨z, dz, t1, "x", "fixed", [.str "a"], H1, rfl, hz, hdz, hne, rfl, .inr (SqT.of hv1), fun q => absurd q (fun q => by obtain ⟨_, k, _, hn⟩ := q; cases k <;> cases hn), fun _ H2 e2 => hf (e1.trans e2)⟩
theorem lam_3 (T : Tx K mg base) (tk : TOk (TT K)) (A : Around) (outer : List Env) (s : Shared) (H0 : Hp) (E0 : XK) : LamGood P w K mg base (lamOf 3) A outer s H0 E0 := by
  have ok_Calendar_short := fun T : Tx K mg base => ok_Calendar_short (P := P) (w := w) T tk
  have ok_Feasts_nth := fun T : Tx K mg base => ok_Feasts_nth (P := P) (w := w) T tk
  have ok_Feasts_day := fun T : Tx K mg base => ok_Feasts_day (P := P) (w := w) T tk 39
  have ok_Feasts_meet := fun T : Tx K mg base => ok_Feasts_meet (P := P) (w := w) T tk 39
  have ok_Feasts_spread := fun T : Tx K mg base => ok_Feasts_spread (P := P) (w := w) T tk 39
  have ok_Feasts_year := fun T : Tx K mg base => ok_Feasts_year (P := P) (w := w) T tk 39
  refine ⟨fun E => _, ⟨LamX.lamS_by (sc := defScope s_law_plain) (by decide +kernel), fun _ _ _ _ _ => rfl, fun A outer s H E f c' hr => (pe_make T.mk_Feasts (ok_Feasts_init T) (hr.mono (by decide)) rfl T.g_Feasts (bi_Feasts_init T) .nil (passes_call (takes_of rfl rfl rfl rfl) fun _ _ _ _ h => h) (pa_cons (pv 0) (pa_cons pe_non (pa_cons pe_int (pa_cons pe_int pa_nil)))))⟩, ?_⟩
  intro E c x fq as v1 v3 v4 v5 v6 H Q F gd hE
  obtain ⟨dx9, p9, ts9, lp9, l1, _⟩ := id F.f.cal
  obtain ⟨dxf, lf⟩ := id F.f.at_
  have hm : ∀ {H'}, Ext (TT K) No H H' → E (ME K) none H' := fun e => (hE _ e).1
  have hy : ∀ {H'}, Ext (TT K) No H H' → E (YE K) none H' := fun e => (hE _ e).2.1
  have hf : ∀ {H'}, Ext (TT K) No H H' → E (FE K) none H' := fun e => (hE _ e).2.2
  walk_at "s"
  intro z dz hz hdz hne
  exact ⟨z, dz, c, .non, 0, 0, H, rfl, hz, hdz, hne, rfl, fun q => absurd q (fun q => absurd q.1 (by decide)), fun _ H2 e2 => hf e2⟩
theorem lam_4 (T : Tx K mg base) (tk : TOk (TT K)) (A : Around) (outer : List Env) (s : Shared) (H0 : Hp) (E0 : XK) : LamGood P w K mg base (lamOf 4) A outer s H0 E0 := by
  have ok_Calendar_short := fun T : Tx K mg base => ok_Calendar_short (P := P) (w := w) T tk
  have ok_Feasts_nth := fun T : Tx K mg base => ok_Feasts_nth (P := P) (w := w) T tk
  have ok_Feasts_day := fun T : Tx K mg base => ok_Feasts_day (P := P) (w := w) T tk 39
  have ok_Feasts_meet := fun T : Tx K mg base => ok_Feasts_meet (P := P) (w := w) T tk 39
  have ok_Feasts_spread := fun T : Tx K mg base => ok_Feasts_spread (P := P) (w := w) T tk 39
  have ok_Feasts_year := fun T : Tx K mg base => ok_Feasts_year (P := P) (w := w) T tk 39
  refine ⟨fun E => _, ⟨LamX.lamS_by (sc := defScope s_law_plain) (by decide +kernel), fun _ _ _ _ _ => rfl, fun A outer s H E f c' hr => (pe_make T.mk_Feasts (ok_Feasts_init T) (hr.mono (by decide)) rfl T.g_Feasts (bi_Feasts_init T) .nil (passes_call (takes_of rfl rfl rfl rfl) fun _ _ _ _ h => h) (pa_cons (pv 0) (pa_cons pe_non (pa_cons pe_int (pa_cons pe_int pa_nil)))))⟩, ?_⟩
  intro E c x fq as v1 v3 v4 v5 v6 H Q F gd hE
  obtain ⟨dx9, p9, ts9, lp9, l1, _⟩ := id F.f.cal
  obtain ⟨dxf, lf⟩ := id F.f.at_
  have hm : ∀ {H'}, Ext (TT K) No H H' → E (ME K) none H' := fun e => (hE _ e).1
  have hy : ∀ {H'}, Ext (TT K) No H H' → E (YE K) none H' := fun e => (hE _ e).2.1
  have hf : ∀ {H'}, Ext (TT K) No H H' → E (FE K) none H' := fun e => (hE _ e).2.2
  walk_at "s"
  intro z dz hz hdz hne
  exact ⟨z, dz, c, .non, 61, 0, H, rfl, hz, hdz, hne, rfl, fun q => absurd q (fun q => absurd q.2.1 (by decide)), fun _ H2 e2 => hf e2⟩
theorem lam_5 (T : Tx K mg base) (tk : TOk (TT K)) (A : Around) (outer : List Env) (s : Shared) (H0 : Hp) (E0 : XK) : LamGood P w K mg base (lamOf 5) A outer s H0 E0 := by
  have ok_Calendar_short := fun T : Tx K mg base => ok_Calendar_short (P := P) (w := w) T tk
  have ok_Feasts_nth := fun T : Tx K mg base => ok_Feasts_nth (P := P) (w := w) T tk
  have ok_Feasts_day := fun T : Tx K mg base => ok_Feasts_day (P := P) (w := w) T tk 39
  have ok_Feasts_meet := fun T : Tx K mg base => ok_Feasts_meet (P := P) (w := w) T tk 39
  have ok_Feasts_spread := fun T : Tx K mg base => ok_Feasts_spread (P := P) (w := w) T tk 39
  have ok_Feasts_year := fun T : Tx K mg base => ok_Feasts_year (P := P) (w := w) T tk 39
  refine ⟨fun E => _, ⟨LamX.lamS_by (sc := defScope s_law_plain) (by decide +kernel), fun _ _ _ _ _ => rfl, fun A outer s H E f c' hr => (pe_make T.mk_Feasts (ok_Feasts_init T) (hr.mono (by decide)) rfl T.g_Feasts (bi_Feasts_init T) .nil (passes_call (takes_of rfl rfl rfl rfl) fun _ _ _ _ h => h) (pa_cons (pv 0) (pa_cons pe_non (pa_cons pe_int (pa_cons pe_int pa_nil)))))⟩, ?_⟩
  intro E c x fq as v1 v3 v4 v5 v6 H Q F gd hE
  obtain ⟨dx9, p9, ts9, lp9, l1, _⟩ := id F.f.cal
  obtain ⟨dxf, lf⟩ := id F.f.at_
  have hm : ∀ {H'}, Ext (TT K) No H H' → E (ME K) none H' := fun e => (hE _ e).1
  have hy : ∀ {H'}, Ext (TT K) No H H' → E (YE K) none H' := fun e => (hE _ e).2.1
  have hf : ∀ {H'}, Ext (TT K) No H H' → E (FE K) none H' := fun e => (hE _ e).2.2
  walk_at "s"
  intro z dz hz hdz hne
  exact ⟨z, dz, c, .non, 7, 7, H, rfl, hz, hdz, hne, rfl, fun q => absurd q (fun q => absurd q.2.2.2 (by decide)), fun _ H2 e2 => hf e2⟩
theorem lam_6 (T : Tx K mg base) (tk : TOk (TT K)) (A : Around) (outer : List Env) (s : Shared) (H0 : Hp) (E0 : XK) : LamGood P w K mg base (lamOf 6) A outer s H0 E0 := by
  have ok_Calendar_short := fun T : Tx K mg base => ok_Calendar_short (P := P) (w := w) T tk
  have ok_Feasts_nth := fun T : Tx K mg base => ok_Feasts_nth (P := P) (w := w) T tk
  have ok_Feasts_day := fun T : Tx K mg base => ok_Feasts_day (P := P) (w := w) T tk 39
  have ok_Feasts_meet := fun T : Tx K mg base => ok_Feasts_meet (P := P) (w := w) T tk 39
  have ok_Feasts_spread := fun T : Tx K mg base => ok_Feasts_spread (P := P) (w := w) T tk 39
  have ok_Feasts_year := fun T : Tx K mg base => ok_Feasts_year (P := P) (w := w) T tk 39
  refine ⟨fun E => _, ⟨LamX.lamS_by (sc := defScope s_law_plain) (by decide +kernel), fun _ _ _ _ _ => rfl, fun A outer s H E f c' hr => (pe_meth (pv 2) T.c_Feasts T.m_Feasts_add (ok_Feasts_add T) (hr.mono (by decide)) (bi_Feasts_add T) .nil (passes_call (takes_of rfl rfl rfl rfl) fun _ _ _ _ h => h) (pa_cons (pe_make T.mk_Feast (ok_Feast_init T) (hr.mono (by decide)) rfl T.g_Feast (bi_Feast_init T) .nil (passes_call (takes_of rfl rfl rfl rfl) fun _ _ _ _ h => h) (pa_cons pe_str (pa_cons pe_str (pa_cons (pe_tupN (T := TT K) (pa_cons pe_str (pa_cons pe_int pa_nil))) pa_nil)))) pa_nil))⟩, ?_⟩
  intro E c x fq as v1 v3 v4 v5 v6 H Q F gd hE
  obtain ⟨dx9, p9, ts9, lp9, l1, _⟩ := id F.f.cal
  obtain ⟨dxf, lf⟩ := id F.f.at_
  have hm : ∀ {H'}, Ext (TT K) No H H' → E (ME K) none H' := fun e => (hE _ e).1
  have hy : ∀ {H'}, Ext (TT K) No H H' → E (YE K) none H' := fun e => (hE _ e).2.1
  have hf : ∀ {H'}, Ext (TT K) No H H' → E (FE K) none H' := fun e => (hE _ e).2.2
  walk_at "s"
  refine ⟨_, _, _, rfl, lf, rfl, ?_⟩
  walk_at "s"
  refine ⟨sz, fun t1 H1 ht1 hv1 e1 => ?_⟩
  walk_at "s"
  intro z dz hz hdz hne
  refine ⟨z, dz, t1, "x", "fixed", [.str "a", .int 1], H1, rfl, hz, hdz, hne, rfl, .inr (SqT.of hv1), fun _ t2 H2 hz2 ht2 e2 => ?_, fun q => absurd (show FV "x" "fixed" 2 from ⟨by decide +kernel, .fixed, rfl, rfl⟩) q⟩
  have F2 := F.ext (e1.trans e2)
  walk_at "s"
  exact ⟨x, c, fq, z, .non, 7, 0, fsP 40, as, ⟨"x", .fixed, "a", 1, 0⟩, rfl, F2.f.at_, F2.f.d, F2.d, ⟨dz, t2, hz2, ht2⟩, .inl rfl, by rw [fsP_len]; decide, fun q => absurd q.most (by rw [fsP_len]; decide), fun _ H3 e3 => hf ((e1.trans e2).trans e3)⟩
theorem lam_7 (T : Tx K mg base) (tk : TOk (TT K)) (A : Around) (outer : List Env) (s : Shared) (H0 : Hp) (E0 : XK) : LamGood P w K mg base (lamOf 7) A outer s H0 E0 := by
  have ok_Calendar_short := fun T : Tx K mg base => ok_Calendar_short (P := P) (w := w) T tk
  have ok_Feasts_nth := fun T : Tx K mg base => ok_Feasts_nth (P := P) (w := w) T tk
  have ok_Feasts_day := fun T : Tx K mg base => ok_Feasts_day (P := P) (w := w) T tk 39
  have ok_Feasts_meet := fun T : Tx K mg base => ok_Feasts_meet (P := P) (w := w) T tk 39
  have ok_Feasts_spread := fun T : Tx K mg base => ok_Feasts_spread (P := P) (w := w) T tk 39
  have ok_Feasts_year := fun T : Tx K mg base => ok_Feasts_year (P := P) (w := w) T tk 39
  refine ⟨fun E => _, ⟨LamX.lamS_by (sc := defScope s_law_plain) (by decide +kernel), fun _ _ _ _ _ => rfl, fun A outer s H E f c' hr => (pe_meth (pe_make T.mk_Feasts (ok_Feasts_init T) (hr.mono (by decide)) rfl T.g_Feasts (bi_Feasts_init T) .nil (passes_call (takes_of rfl rfl rfl rfl) fun _ _ _ _ h => h) (pa_cons (pv 0) (pa_cons pe_non (pa_cons pe_int (pa_cons pe_int pa_nil))))) T.c_Feasts T.m_Feasts_add (ok_Feasts_add T) (hr.mono (by decide)) (bi_Feasts_add T) .nil (passes_call (takes_of rfl rfl rfl rfl) fun _ _ _ _ h => h) (pa_cons (pe_make T.mk_Feast (ok_Feast_init T) (hr.mono (by decide)) rfl T.g_Feast (bi_Feast_init T) .nil (passes_call (takes_of rfl rfl rfl rfl) fun _ _ _ _ h => h) (pa_cons pe_str (pa_cons pe_str (pa_cons (pe_tupN (T := TT K) (pa_cons pe_str (pa_cons pe_int pa_nil))) pa_nil)))) pa_nil))⟩, ?_⟩
  intro E c x fq as v1 v3 v4 v5 v6 H Q F gd hE
  obtain ⟨dx9, p9, ts9, lp9, l1, _⟩ := id F.f.cal
  obtain ⟨dxf, lf⟩ := id F.f.at_
  have hm : ∀ {H'}, Ext (TT K) No H H' → E (ME K) none H' := fun e => (hE _ e).1
  have hy : ∀ {H'}, Ext (TT K) No H H' → E (YE K) none H' := fun e => (hE _ e).2.1
  have hf : ∀ {H'}, Ext (TT K) No H H' → E (FE K) none H' := fun e => (hE _ e).2.2
  walk_at "s"
  intro x2 d2 hx2 hd2 hne2
  refine ⟨x2, d2, c, .non, 7, 0, H, rfl, hx2, hd2, hne2, rfl, fun _ fq2 H0 hX hfq nfq e0 => ?_, fun q => absurd (show FsV 7 0 from ⟨by decide, by decide, by decide, by decide⟩) q⟩
  obtain ⟨dxx, hxx⟩ := id hX
  walk_at "s"
  refine ⟨_, _, _, rfl, hxx, rfl, ?_⟩
  walk_at "s"
  refine ⟨sz, fun t1 H1 ht1 hv1 e1 => ?_⟩
  walk_at "s"
  intro z dz hz hdz hne
  refine ⟨z, dz, t1, "x", "behind", [.str "y", .int 1], H1, rfl, hz, hdz, hne, rfl, .inr (SqT.of hv1), fun _ t2 H2 hz2 ht2 e2 => ?_, fun q => absurd (show FV "x" "behind" 2 from ⟨by decide +kernel, .behind, rfl, rfl⟩) q⟩
  have e02 := e1.trans e2
  walk_at "s"
  exact ⟨x2, c, fq2, z, .non, 7, 0, [], [], ⟨"x", .behind, "y", 1, 0⟩, rfl, hX.ext e02, ⟨rfl, .inl (e02.dk _ _ hfq id), fun i f a z => by simp at z⟩, e02.dk _ _ hfq id, ⟨dz, t2, hz2, ht2⟩, .inl rfl, by decide, fun q => absurd q (fun q => absurd (q.dep (.inl rfl)) (by simp)), fun _ H3 e3 => hf ((e0.trans e02).trans e3)⟩
theorem lam_8 (T : Tx K mg base) (tk : TOk (TT K)) (A : Around) (outer : List Env) (s : Shared) (H0 : Hp) (E0 : XK) : LamGood P w K mg base (lamOf 8) A outer s H0 E0 := by
  have ok_Calendar_short := fun T : Tx K mg base => ok_Calendar_short (P := P) (w := w) T tk
  have ok_Feasts_nth := fun T : Tx K mg base => ok_Feasts_nth (P := P) (w := w) T tk
  have ok_Feasts_day := fun T : Tx K mg base => ok_Feasts_day (P := P) (w := w) T tk 39
  have ok_Feasts_meet := fun T : Tx K mg base => ok_Feasts_meet (P := P) (w := w) T tk 39
  have ok_Feasts_spread := fun T : Tx K mg base => ok_Feasts_spread (P := P) (w := w) T tk 39
  have ok_Feasts_year := fun T : Tx K mg base => ok_Feasts_year (P := P) (w := w) T tk 39
  refine ⟨fun E => _, ⟨LamX.lamS_by (sc := defScope s_law_plain) (by decide +kernel), fun _ _ _ _ _ => rfl, fun A outer s H E f c' hr => (pe_meth (pe_make T.mk_Feasts (ok_Feasts_init T) (hr.mono (by decide)) rfl T.g_Feasts (bi_Feasts_init T) .nil (passes_call (takes_of rfl rfl rfl rfl) fun _ _ _ _ h => h) (pa_cons (pv 0) (pa_cons pe_non (pa_cons pe_int (pa_cons pe_int pa_nil))))) T.c_Feasts T.m_Feasts_add (ok_Feasts_add T) (hr.mono (by decide)) (bi_Feasts_add T) .nil (passes_call (takes_of rfl rfl rfl rfl) fun _ _ _ _ h => h) (pa_cons (pe_make T.mk_Feast (ok_Feast_init T) (hr.mono (by decide)) rfl T.g_Feast (bi_Feast_init T) .nil (passes_call (takes_of rfl rfl rfl rfl) fun _ _ _ _ h => h) (pa_cons pe_str (pa_cons pe_str (pa_cons (pe_tupN (T := TT K) (pa_cons pe_str (pa_cons pe_int pa_nil))) pa_nil)))) pa_nil))⟩, ?_⟩
  intro E c x fq as v1 v3 v4 v5 v6 H Q F gd hE
  obtain ⟨dx9, p9, ts9, lp9, l1, _⟩ := id F.f.cal
  obtain ⟨dxf, lf⟩ := id F.f.at_
  have hm : ∀ {H'}, Ext (TT K) No H H' → E (ME K) none H' := fun e => (hE _ e).1
  have hy : ∀ {H'}, Ext (TT K) No H H' → E (YE K) none H' := fun e => (hE _ e).2.1
  have hf : ∀ {H'}, Ext (TT K) No H H' → E (FE K) none H' := fun e => (hE _ e).2.2
  walk_at "s"
  intro x2 d2 hx2 hd2 hne2
  refine ⟨x2, d2, c, .non, 7, 0, H, rfl, hx2, hd2, hne2, rfl, fun _ fq2 H0 hX hfq nfq e0 => ?_, fun q => absurd (show FsV 7 0 from ⟨by decide, by decide, by decide, by decide⟩) q⟩
  obtain ⟨dxx, hxx⟩ := id hX
  walk_at "s"
  refine ⟨_, _, _, rfl, hxx, rfl, ?_⟩
  walk_at "s"
  refine ⟨sz, fun t1 H1 ht1 hv1 e1 => ?_⟩
  walk_at "s"
  intro z dz hz hdz hne
  refine ⟨z, dz, t1, "x", "moon", [.str "a", .int 1], H1, rfl, hz, hdz, hne, rfl, .inr (SqT.of hv1), fun _ t2 H2 hz2 ht2 e2 => ?_, fun q => absurd (show FV "x" "moon" 2 from ⟨by decide +kernel, .moon, rfl, rfl⟩) q⟩
  have e02 := e1.trans e2
  walk_at "s"
  exact ⟨x2, c, fq2, z, .non, 7, 0, [], [], ⟨"x", .moon, "a", 1, 0⟩, rfl, hX.ext e02, ⟨rfl, .inl (e02.dk _ _ hfq id), fun i f a z => by simp at z⟩, e02.dk _ _ hfq id, ⟨dz, t2, hz2, ht2⟩, .inl rfl, by decide, fun q => absurd q (fun q => q.moon rfl rfl), fun _ H3 e3 => hf ((e0.trans e02).trans e3)⟩
end K60

set_option Elab.async false
set_option linter.all false
set_option maxRecDepth 100000
set_option maxHeartbeats 2000000
namespace K60
open PySem PySem.Spec PyProof.Rows L2 MB
local macro_rules | `(tactic| walk_at "s") => `(tactic| repeat (first | refine ⟨_, rfl, ?_⟩ | refine ⟨_, _, rfl, rfl, ?_⟩ | refine ⟨_, _, rfl, ?_⟩ | refine ⟨rfl, ?_⟩))
variable {P : Program} {w : World} {K : PySem.W.Frag} {mg : Str → Option Value} {base : Heap}
theorem fallP (k : Nat) (hk : k < 40) {y : Nat} : fallV (YP 0 0 0) (fsP 40) (39 + 1) (feP k).name y = some ((dN msP "a" rsP y 0 0 : Nat) : Int) := by
  rw [fallV_at (fsP_nd 40 (by decide)) (fsP_at hk)]
  show (fixV (YP 0 0 0) y "a" 1).map _ = _
  rw [fixV_at (Y := YP 0 0 0) okMP (i := 0) (m := ("a", 10)) rfl, if_pos]
  · rfl
  · refine ⟨by decide, ?_⟩
    show (1 : Int) ≤ (MM.md rsP ("a" : Str) y ("a", 10) : Nat)
    unfold MM.md
    split <;> omega
theorem nozP {y : Int} {d : Int} {yn i r : Nat} (h : DOk msP "a" rsP y "z" d yn i r) : False := by
  obtain ⟨m, h3, h4, _⟩ := h.ex
  exact absurd (show (∃ m ∈ msP, m.1 = ("z" : Str)) from ⟨m, List.mem_of_getElem? h3, h4⟩) (by decide +kernel)
theorem lam_9 (T : Tx K mg base) (tk : TOk (TT K)) (A : Around) (outer : List Env) (s : Shared) (H0 : Hp) (E0 : XK) : LamGood P w K mg base (lamOf 9) A outer s H0 E0 := by
  have ok_Calendar_short := fun T : Tx K mg base => ok_Calendar_short (P := P) (w := w) T tk
  have ok_Feasts_nth := fun T : Tx K mg base => ok_Feasts_nth (P := P) (w := w) T tk
  have ok_Feasts_day := fun T : Tx K mg base => ok_Feasts_day (P := P) (w := w) T tk 39
  have ok_Feasts_meet := fun T : Tx K mg base => ok_Feasts_meet (P := P) (w := w) T tk 39
  have ok_Feasts_spread := fun T : Tx K mg base => ok_Feasts_spread (P := P) (w := w) T tk 39
  have ok_Feasts_year := fun T : Tx K mg base => ok_Feasts_year (P := P) (w := w) T tk 39
  refine ⟨fun E => _, ⟨LamX.lamS_by (sc := defScope s_law_plain) (by decide +kernel), fun _ _ _ _ _ => rfl, fun A outer s H E f c' hr => (pe_meth (pv 2) T.c_Feasts T.m_Feasts_day (ok_Feasts_day T) (hr.mono (by decide)) (bi_Feasts_day T) .nil (passes_call (takes_of rfl rfl rfl rfl) fun _ _ _ _ h => h) (pa_cons pe_str (pa_cons pe_int pa_nil)))⟩, ?_⟩
  intro E c x fq as v1 v3 v4 v5 v6 H Q F gd hE
  obtain ⟨dx9, p9, ts9, lp9, l1, _⟩ := id F.f.cal
  obtain ⟨dxf, lf⟩ := id F.f.at_
  have hm : ∀ {H'}, Ext (TT K) No H H' → E (ME K) none H' := fun e => (hE _ e).1
  have hy : ∀ {H'}, Ext (TT K) No H H' → E (YE K) none H' := fun e => (hE _ e).2.1
  have hf : ∀ {H'}, Ext (TT K) No H H' → E (FE K) none H' := fun e => (hE _ e).2.2
  walk_at "s"
  refine ⟨_, _, _, rfl, lf, rfl, ?_⟩
  walk_at "s"
  try delta tNil
  try dsimp only
  show spDay K 39 [.ref x, .str "z", .int 0] H _ _
  exact F.f.no gd (by rw [fsP_names]; decide +kernel) fun H2 e2 => hf e2
theorem lam_10 (T : Tx K mg base) (tk : TOk (TT K)) (A : Around) (outer : List Env) (s : Shared) (H0 : Hp) (E0 : XK) : LamGood P w K mg base (lamOf 10) A outer s H0 E0 := by
  have ok_Calendar_short := fun T : Tx K mg base => ok_Calendar_short (P := P) (w := w) T tk
  have ok_Feasts_nth := fun T : Tx K mg base => ok_Feasts_nth (P := P) (w := w) T tk
  have ok_Feasts_day := fun T : Tx K mg base => ok_Feasts_day (P := P) (w := w) T tk 39
  have ok_Feasts_meet := fun T : Tx K mg base => ok_Feasts_meet (P := P) (w := w) T tk 39
  have ok_Feasts_spread := fun T : Tx K mg base => ok_Feasts_spread (P := P) (w := w) T tk 39
  have ok_Feasts_year := fun T : Tx K mg base => ok_Feasts_year (P := P) (w := w) T tk 39
  refine ⟨fun E => _, ⟨LamX.lamS_by (sc := defScope s_law_plain) (by decide +kernel), fun _ _ _ _ _ => rfl, fun A outer s H E f c' hr => (pe_meth (pv 2) T.c_Feasts T.m_Feasts_day (ok_Feasts_day T) (hr.mono (by decide)) (bi_Feasts_day T) .nil (passes_call (takes_of rfl rfl rfl rfl) fun _ _ _ _ h => h) (pa_cons pe_str (pa_cons (pe_un un_neg pe_int) pa_nil)))⟩, ?_⟩
  intro E c x fq as v1 v3 v4 v5 v6 H Q F gd hE
  obtain ⟨dx9, p9, ts9, lp9, l1, _⟩ := id F.f.cal
  obtain ⟨dxf, lf⟩ := id F.f.at_
  have hm : ∀ {H'}, Ext (TT K) No H H' → E (ME K) none H' := fun e => (hE _ e).1
  have hy : ∀ {H'}, Ext (TT K) No H H' → E (YE K) none H' := fun e => (hE _ e).2.1
  have hf : ∀ {H'}, Ext (TT K) No H H' → E (FE K) none H' := fun e => (hE _ e).2.2
  walk_at "s"
  refine ⟨_, _, _, rfl, lf, rfl, ?_⟩
  walk_at "s"
  try delta tNil
  try dsimp only
  show spDay K 39 [.ref x, .str "f0", .int (-1)] H _ _
  exact ⟨x, c, fq, .non, YP 0 0 0, fsP 40, as, "f0", -1, rfl, F.f.at_, F.f.d, F.f.cal, F.f.ms, F.f.ok, gd, F.f.w1, F.f.moon, F.f.wf, .inr (.inr ⟨by decide, 0, feP 0, fsP_at (by decide), by decide +kernel, rfl, by decide, fun H2 e2 => hy e2⟩)⟩
theorem lam_11 (T : Tx K mg base) (tk : TOk (TT K)) (A : Around) (outer : List Env) (s : Shared) (H0 : Hp) (E0 : XK) : LamGood P w K mg base (lamOf 11) A outer s H0 E0 := by
  have ok_Calendar_short := fun T : Tx K mg base => ok_Calendar_short (P := P) (w := w) T tk
  have ok_Feasts_nth := fun T : Tx K mg base => ok_Feasts_nth (P := P) (w := w) T tk
  have ok_Feasts_day := fun T : Tx K mg base => ok_Feasts_day (P := P) (w := w) T tk 39
  have ok_Feasts_meet := fun T : Tx K mg base => ok_Feasts_meet (P := P) (w := w) T tk 39
  have ok_Feasts_spread := fun T : Tx K mg base => ok_Feasts_spread (P := P) (w := w) T tk 39
  have ok_Feasts_year := fun T : Tx K mg base => ok_Feasts_year (P := P) (w := w) T tk 39
  refine ⟨fun E => _, ⟨LamX.lamS_by (sc := defScope s_law_plain) (by decide +kernel), fun _ _ _ _ _ => rfl, fun A outer s H E f c' hr => (pe_meth (pv 2) T.c_Feasts T.m_Feasts_meet (ok_Feasts_meet T) (hr.mono (by decide)) (bi_Feasts_meet T) .nil (passes_call (takes_of rfl rfl rfl rfl) fun _ _ _ _ h => h) (pa_cons pe_str (pa_cons pe_str (pa_cons pe_int (pa_cons pe_int pa_nil)))))⟩, ?_⟩
  intro E c x fq as v1 v3 v4 v5 v6 H Q F gd hE
  obtain ⟨dx9, p9, ts9, lp9, l1, _⟩ := id F.f.cal
  obtain ⟨dxf, lf⟩ := id F.f.at_
  have hm : ∀ {H'}, Ext (TT K) No H H' → E (ME K) none H' := fun e => (hE _ e).1
  have hy : ∀ {H'}, Ext (TT K) No H H' → E (YE K) none H' := fun e => (hE _ e).2.1
  have hf : ∀ {H'}, Ext (TT K) No H H' → E (FE K) none H' := fun e => (hE _ e).2.2
  walk_at "s"
  refine ⟨_, _, _, rfl, lf, rfl, ?_⟩
  walk_at "s"
  try delta tNil
  try dsimp only
  show spMeet K 39 [.ref x, .str "f0", .str "z", .int 0, .int 1] H _ _
  refine ⟨x, c, fq, .non, YP 0 0 0, fsP 40, as, "f0", "z", 0, 1, rfl, F.f, gd, by rw [fsP_len]; decide, .inr (.inr (.inl ⟨0, rfl, by decide, by decide, by decide, by decide +kernel, by rw [fsP_names]; decide +kernel, by rw [fsP_names]; decide +kernel, ?_, fun H2 e2 => hf e2⟩))⟩
  have e : ("f0" : Str) = (feP 0).name := by decide +kernel
  rw [e, fallP 0 (by decide)]
  simp
theorem lam_12 (T : Tx K mg base) (tk : TOk (TT K)) (A : Around) (outer : List Env) (s : Shared) (H0 : Hp) (E0 : XK) : LamGood P w K mg base (lamOf 12) A outer s H0 E0 := by
  have ok_Calendar_short := fun T : Tx K mg base => ok_Calendar_short (P := P) (w := w) T tk
  have ok_Feasts_nth := fun T : Tx K mg base => ok_Feasts_nth (P := P) (w := w) T tk
  have ok_Feasts_day := fun T : Tx K mg base => ok_Feasts_day (P := P) (w := w) T tk 39
  have ok_Feasts_meet := fun T : Tx K mg base => ok_Feasts_meet (P := P) (w := w) T tk 39
  have ok_Feasts_spread := fun T : Tx K mg base => ok_Feasts_spread (P := P) (w := w) T tk 39
  have ok_Feasts_year := fun T : Tx K mg base => ok_Feasts_year (P := P) (w := w) T tk 39
  refine ⟨fun E => _, ⟨LamX.lamS_by (sc := defScope s_law_plain) (by decide +kernel), fun _ _ _ _ _ => rfl, fun A outer s H E f c' hr => (pe_meth (pv 2) T.c_Feasts T.m_Feasts_meet (ok_Feasts_meet T) (hr.mono (by decide)) (bi_Feasts_meet T) .nil (passes_call (takes_of rfl rfl rfl rfl) fun _ _ _ _ h => h) (pa_cons pe_str (pa_cons pe_str (pa_cons pe_int (pa_cons pe_int pa_nil)))))⟩, ?_⟩
  intro E c x fq as v1 v3 v4 v5 v6 H Q F gd hE
  obtain ⟨dx9, p9, ts9, lp9, l1, _⟩ := id F.f.cal
  obtain ⟨dxf, lf⟩ := id F.f.at_
  have hm : ∀ {H'}, Ext (TT K) No H H' → E (ME K) none H' := fun e => (hE _ e).1
  have hy : ∀ {H'}, Ext (TT K) No H H' → E (YE K) none H' := fun e => (hE _ e).2.1
  have hf : ∀ {H'}, Ext (TT K) No H H' → E (FE K) none H' := fun e => (hE _ e).2.2
  walk_at "s"
  refine ⟨_, _, _, rfl, lf, rfl, ?_⟩
  walk_at "s"
  try delta tNil
  try dsimp only
  show spMeet K 39 [.ref x, .str "f0", .str "f1", .int 0, .int 401] H _ _
  exact ⟨x, c, fq, .non, YP 0 0 0, fsP 40, as, "f0", "f1", 0, 401, rfl, F.f, gd, by rw [fsP_len]; decide, .inl ⟨by decide, fun H2 e2 => hf e2⟩⟩
theorem lam_13 (T : Tx K mg base) (tk : TOk (TT K)) (A : Around) (outer : List Env) (s : Shared) (H0 : Hp) (E0 : XK) : LamGood P w K mg base (lamOf 13) A outer s H0 E0 := by
  have ok_Calendar_short := fun T : Tx K mg base => ok_Calendar_short (P := P) (w := w) T tk
  have ok_Feasts_nth := fun T : Tx K mg base => ok_Feasts_nth (P := P) (w := w) T tk
  have ok_Feasts_day := fun T : Tx K mg base => ok_Feasts_day (P := P) (w := w) T tk 39
  have ok_Feasts_meet := fun T : Tx K mg base => ok_Feasts_meet (P := P) (w := w) T tk 39
  have ok_Feasts_spread := fun T : Tx K mg base => ok_Feasts_spread (P := P) (w := w) T tk 39
  have ok_Feasts_year := fun T : Tx K mg base => ok_Feasts_year (P := P) (w := w) T tk 39
  refine ⟨fun E => _, ⟨LamX.lamS_by (sc := defScope s_law_plain) (by decide +kernel), fun _ _ _ _ _ => rfl, fun A outer s H E f c' hr => (pe_meth (pv 2) T.c_Feasts T.m_Feasts_spread (ok_Feasts_spread T) (hr.mono (by decide)) (bi_Feasts_spread T) .nil (passes_call (takes_of rfl rfl rfl rfl) fun _ _ _ _ h => h) (pa_cons pe_str (pa_cons pe_int (pa_cons pe_int pa_nil))))⟩, ?_⟩
  intro E c x fq as v1 v3 v4 v5 v6 H Q F gd hE
  obtain ⟨dx9, p9, ts9, lp9, l1, _⟩ := id F.f.cal
  obtain ⟨dxf, lf⟩ := id F.f.at_
  have hm : ∀ {H'}, Ext (TT K) No H H' → E (ME K) none H' := fun e => (hE _ e).1
  have hy : ∀ {H'}, Ext (TT K) No H H' → E (YE K) none H' := fun e => (hE _ e).2.1
  have hf : ∀ {H'}, Ext (TT K) No H H' → E (FE K) none H' := fun e => (hE _ e).2.2
  walk_at "s"
  refine ⟨_, _, _, rfl, lf, rfl, ?_⟩
  walk_at "s"
  try delta tNil
  try dsimp only
  show spSpr K 39 [.ref x, .str "z", .int 0, .int 1] H _ _
  exact ⟨x, c, fq, .non, YP 0 0 0, fsP 40, as, "z", 0, 1, rfl, F.f, gd, by rw [fsP_len]; decide, .inr (.inl ⟨by decide, by decide, by decide, by decide, by rw [fsP_names]; decide +kernel, fun H2 e2 => hf e2⟩)⟩
theorem lam_14 (T : Tx K mg base) (tk : TOk (TT K)) (A : Around) (outer : List Env) (s : Shared) (H0 : Hp) (E0 : XK) : LamGood P w K mg base (lamOf 14) A outer s H0 E0 := by
  have ok_Calendar_short := fun T : Tx K mg base => ok_Calendar_short (P := P) (w := w) T tk
  have ok_Feasts_nth := fun T : Tx K mg base => ok_Feasts_nth (P := P) (w := w) T tk
  have ok_Feasts_day := fun T : Tx K mg base => ok_Feasts_day (P := P) (w := w) T tk 39
  have ok_Feasts_meet := fun T : Tx K mg base => ok_Feasts_meet (P := P) (w := w) T tk 39
  have ok_Feasts_spread := fun T : Tx K mg base => ok_Feasts_spread (P := P) (w := w) T tk 39
  have ok_Feasts_year := fun T : Tx K mg base => ok_Feasts_year (P := P) (w := w) T tk 39
  refine ⟨fun E => _, ⟨LamX.lamS_by (sc := defScope s_law_plain) (by decide +kernel), fun _ _ _ _ _ => rfl, fun A outer s H E f c' hr => (pe_meth (pv 2) T.c_Feasts T.m_Feasts_spread (ok_Feasts_spread T) (hr.mono (by decide)) (bi_Feasts_spread T) .nil (passes_call (takes_of rfl rfl rfl rfl) fun _ _ _ _ h => h) (pa_cons pe_str (pa_cons pe_int (pa_cons pe_int pa_nil))))⟩, ?_⟩
  intro E c x fq as v1 v3 v4 v5 v6 H Q F gd hE
  obtain ⟨dx9, p9, ts9, lp9, l1, _⟩ := id F.f.cal
  obtain ⟨dxf, lf⟩ := id F.f.at_
  have hm : ∀ {H'}, Ext (TT K) No H H' → E (ME K) none H' := fun e => (hE _ e).1
  have hy : ∀ {H'}, Ext (TT K) No H H' → E (YE K) none H' := fun e => (hE _ e).2.1
  have hf : ∀ {H'}, Ext (TT K) No H H' → E (FE K) none H' := fun e => (hE _ e).2.2
  walk_at "s"
  refine ⟨_, _, _, rfl, lf, rfl, ?_⟩
  walk_at "s"
  try delta tNil
  try dsimp only
  show spSpr K 39 [.ref x, .str "f0", .int 0, .int 401] H _ _
  exact ⟨x, c, fq, .non, YP 0 0 0, fsP 40, as, "f0", 0, 401, rfl, F.f, gd, by rw [fsP_len]; decide, .inl ⟨by decide, fun H2 e2 => hf e2⟩⟩
theorem lam_15 (T : Tx K mg base) (tk : TOk (TT K)) (A : Around) (outer : List Env) (s : Shared) (H0 : Hp) (E0 : XK) : LamGood P w K mg base (lamOf 15) A outer s H0 E0 := by
  have ok_Calendar_short := fun T : Tx K mg base => ok_Calendar_short (P := P) (w := w) T tk
  have ok_Feasts_nth := fun T : Tx K mg base => ok_Feasts_nth (P := P) (w := w) T tk
  have ok_Feasts_day := fun T : Tx K mg base => ok_Feasts_day (P := P) (w := w) T tk 39
  have ok_Feasts_meet := fun T : Tx K mg base => ok_Feasts_meet (P := P) (w := w) T tk 39
  have ok_Feasts_spread := fun T : Tx K mg base => ok_Feasts_spread (P := P) (w := w) T tk 39
  have ok_Feasts_year := fun T : Tx K mg base => ok_Feasts_year (P := P) (w := w) T tk 39
  refine ⟨fun E => _, ⟨LamX.lamS_by (sc := defScope s_law_plain) (by decide +kernel), fun _ _ _ _ _ => rfl, fun A outer s H E f c' hr => (pe_meth (pv 2) T.c_Feasts T.m_Feasts_nth (ok_Feasts_nth T) (hr.mono (by decide)) (bi_Feasts_nth T) .nil (passes_call (takes_of rfl rfl rfl rfl) fun _ _ _ _ h => h) (pa_cons pe_int (pa_cons pe_str (pa_cons pe_int (pa_cons pe_int pa_nil)))))⟩, ?_⟩
  intro E c x fq as v1 v3 v4 v5 v6 H Q F gd hE
  obtain ⟨dx9, p9, ts9, lp9, l1, _⟩ := id F.f.cal
  obtain ⟨dxf, lf⟩ := id F.f.at_
  have hm : ∀ {H'}, Ext (TT K) No H H' → E (ME K) none H' := fun e => (hE _ e).1
  have hy : ∀ {H'}, Ext (TT K) No H H' → E (YE K) none H' := fun e => (hE _ e).2.1
  have hf : ∀ {H'}, Ext (TT K) No H H' → E (FE K) none H' := fun e => (hE _ e).2.2
  walk_at "s"
  refine ⟨_, _, _, rfl, lf, rfl, ?_⟩
  walk_at "s"
  exact ⟨x, c, fq, .non, 7, 0, msP, "a", rsP, 0, "z", 0, 1, rfl, F.f.at_, by decide, F.f.cal, okMP, okRP, gd, fun yn i mm dk _ => absurd dk (fun dk => nozP dk), fun _ H2 e2 => ⟨hm e2, hy e2⟩⟩
end K60

set_option Elab.async false
set_option linter.all false
set_option maxRecDepth 100000
set_option maxHeartbeats 2000000
namespace K60
open PySem PySem.Spec PyProof.Rows L2 MB
local macro_rules | `(tactic| walk_at "s") => `(tactic| repeat (first | refine ⟨_, rfl, ?_⟩ | refine ⟨_, _, rfl, rfl, ?_⟩ | refine ⟨_, _, rfl, ?_⟩ | refine ⟨rfl, ?_⟩))
variable {P : Program} {w : World} {K : PySem.W.Frag} {mg : Str → Option Value} {base : Heap}
theorem lamAll (T : Tx K mg base) (tk : TOk (TT K)) (A : Around) (outer : List Env) (s : Shared) (H0 : Hp) (E0 : XK) : ∀ i, i < 16 → LamGood P w K mg base (lamOf i) A outer s H0 E0
  | 0, _ => lam_0 T tk A outer s H0 E0
  | 1, _ => lam_1 T tk A outer s H0 E0
  | 2, _ => lam_2 T tk A outer s H0 E0
  | 3, _ => lam_3 T tk A outer s H0 E0
  | 4, _ => lam_4 T tk A outer s H0 E0
  | 5, _ => lam_5 T tk A outer s H0 E0
  | 6, _ => lam_6 T tk A outer s H0 E0
  | 7, _ => lam_7 T tk A outer s H0 E0
  | 8, _ => lam_8 T tk A outer s H0 E0
  | 9, _ => lam_9 T tk A outer s H0 E0
  | 10, _ => lam_10 T tk A outer s H0 E0
  | 11, _ => lam_11 T tk A outer s H0 E0
  | 12, _ => lam_12 T tk A outer s H0 E0
  | 13, _ => lam_13 T tk A outer s H0 E0
  | 14, _ => lam_14 T tk A outer s H0 E0
  | 15, _ => lam_15 T tk A outer s H0 E0
  | n + 16, h => by omega
def tOf (T : Tx K mg base) (tk : TOk (TT K)) (A : Around) (outer : List Env) (s : Shared) (H0 : Hp) (E0 : XK) (P : Program) (w : World) (i : Nat) : XK → TE :=
  if h : i < 16 then (lamAll (P := P) (w := w) T tk A outer s H0 E0 i h).choose else fun _ => tC .non
def KLs (T : Tx K mg base) (tk : TOk (TT K)) (A : Around) (outer : List Env) (s : Shared) (H0 : Hp) (E0 : XK) (P : Program) (w : World) : List (ML.LamD × (XK → TE)) :=
  (List.range 16).map fun i => (lamOf i, tOf T tk A outer s H0 E0 P w i)
theorem kl_ok (T : Tx K mg base) (tk : TOk (TT K)) (A : Around) (outer : List Env) (s : Shared) (H0 : Hp) (E0 : XK) : ∀ L t, (L, t) ∈ KLs T tk A outer s H0 E0 P w → ML.LamT (plainX P w K mg base A outer s H0 E0) 70 L t := by
  intro L t h
  obtain ⟨i, hi, e⟩ := List.mem_map.mp h
  have hi : i < 16 := by simpa using hi
  unfold tOf at e
  rw [dif_pos hi] at e
  cases e
  exact (lamAll (P := P) (w := w) T tk A outer s H0 E0 i hi).choose_spec.1
def lamsTA (Pt : Addr) (Tl : List (Addr × Str)) (cells : List (Str × Addr)) (q : Str) : List ML.LamD → TA
  | [] => tNil
  | L :: r => tCons (ML.tLamV Pt Tl cells q L) (lamsTA Pt Tl cells q r)
def LamsAt (cells : List (Str × Addr)) (q : Str) (H : Hp) (fs : List Addr) (Ls : List ML.LamD) : Prop :=
  fs.length = Ls.length ∧ ∀ (i : Nat) (f : Addr) (L : ML.LamD), fs[i]? = some f → Ls[i]? = some L → ∃ c', H f = some (ML.LamO cells q L c' f) ∧ H c' = some (LamX.CodeO c' q)
theorem lamO_fix {cells : List (Str × Addr)} {q : Str} {L : ML.LamD} {c' f : Addr} : fixB (ML.LamO cells q L c' f) = true := by unfold ML.LamO; rfl
theorem codeO_fix {c' : Addr} {q : Str} : fixB (LamX.CodeO c' q) = true := by unfold LamX.CodeO; rfl
theorem LamsAt.ext {cells : List (Str × Addr)} {q : Str} {T : Tb} {M : Addr → Prop} {H H' : Hp} {fs : List Addr} {Ls : List ML.LamD} (h : LamsAt cells q H fs Ls) (e : Ext T M H H') : LamsAt cells q H' fs Ls :=
  ⟨h.1, fun i f L h1 h2 => let ⟨c', a, b⟩ := h.2 i f L h1 h2; ⟨c', e.fix _ _ a lamO_fix, e.fix _ _ b codeO_fix⟩⟩
theorem lamsTA_ok {Pt : Addr} {cells : List (Str × Addr)} {q : Str} (hP : ∀ p ∈ (TT K).gen, p ≠ Pt) (σ : L2.St) : ∀ (Ls : List ML.LamD) (H : Hp) (R : List V → Hp → Prop), Gd (TT K) H →
    (∀ fs H', Ext (TT K) No H H' → LamsAt cells q H' fs Ls → R (fs.map V.ref) H') → lamsTA Pt (TT K).lam cells q Ls σ H R
  | [], H, R, _, h => h [] H .refl ⟨rfl, fun _ _ _ z => by simp at z⟩
  | L :: Ls, H, R, gd, h => by
    refine ⟨gd.2, fun f c' H1 hE hPp hL hf hf1 hc1 => ?_⟩
    have e1 : Ext (TT K) No H H1 := Ext.lamM hP hE hPp hL
    refine lamsTA_ok hP σ Ls H1 _ (e1.gd gd) fun fs H2 e2 hfs => ?_
    refine h (f :: fs) H2 (e1.trans e2) ⟨by simp [hfs.1], fun i g L' h1 h2 => ?_⟩
    cases i with
    | zero =>
      cases h1
      cases h2
      exact ⟨c', e2.fix _ _ hf1 lamO_fix, e2.fix _ _ hc1 codeO_fix⟩
    | succ i => exact hfs.2 i g L' (by simpa using h1) (by simpa using h2)
end K60

set_option Elab.async false
set_option linter.all false
set_option maxRecDepth 100000
set_option maxHeartbeats 2000000
namespace K60
open PySem PySem.Spec PyProof.Rows L2 MB
local macro_rules | `(tactic| walk_at "s") => `(tactic| repeat (first | refine ⟨_, rfl, ?_⟩ | refine ⟨_, _, rfl, rfl, ?_⟩ | refine ⟨_, _, rfl, ?_⟩ | refine ⟨rfl, ?_⟩))
variable {P : Program} {w : World} {K : PySem.W.Frag} {mg : Str → Option Value} {base : Heap}
theorem hu_plain (tl : LamNe K) : ∀ p ∈ (TT K).lam, p.1 = (He.cT K ("_law_plain", none)).2 → p.2 = "_law_plain.<locals>.<lambda>" := fun p hp e => by
  have hp : p = ((He.cT K ("_law_plain", none)).2, ("_law_plain.<locals>.<lambda>" : Str)) ∨ p = ((He.cT K ("law", none)).2, ("law.<locals>.<lambda>" : Str)) := by simpa [TT] using hp
  rcases hp with rfl | rfl
  · rfl
  · exact absurd e.symm tl
theorem plain_S1 (T : Tx K mg base) (tl : LamNe K) (A : Around) (outer : List Env) (s : Shared) (H0 : Hp) (E0 : XK) :
    PS (plainX P w K mg base A outer s H0 E0) (plainBody.getD 3 (.Pass ⟨0, 0, 0, 0⟩)) (tAsg (tLstN (TT K) (lamsTA (He.cT K ("_law_plain", none)).2 (TT K).lam (plainX P w K mg base A outer s H0 E0).env.cells ((plainX P w K mg base A outer s H0 E0).env.qual ++ "<lambda>") ((List.range 16).map lamOf))) (gName 4)) := (ps_set (i := 4) sc_law_plain.nd rfl (Or.inl rfl) (pe_lstN (T := TT K) (pa_cons (ML.pe_lamV (T := (TT K).lam) (c := (He.cT K ("_law_plain", none)).1) (P := (He.cT K ("_law_plain", none)).2) ⟨T.tb_law_plain.code, T.tb_law_plain.bm, T.tb_law_plain.gP⟩ rfl List.mem_cons_self (hu_plain tl) rfl (LamX.lamS_by (sc := defScope s_law_plain) (by decide +kernel))) (pa_cons (ML.pe_lamV (T := (TT K).lam) (c := (He.cT K ("_law_plain", none)).1) (P := (He.cT K ("_law_plain", none)).2) ⟨T.tb_law_plain.code, T.tb_law_plain.bm, T.tb_law_plain.gP⟩ rfl List.mem_cons_self (hu_plain tl) rfl (LamX.lamS_by (sc := defScope s_law_plain) (by decide +kernel))) (pa_cons (ML.pe_lamV (T := (TT K).lam) (c := (He.cT K ("_law_plain", none)).1) (P := (He.cT K ("_law_plain", none)).2) ⟨T.tb_law_plain.code, T.tb_law_plain.bm, T.tb_law_plain.gP⟩ rfl List.mem_cons_self (hu_plain tl) rfl (LamX.lamS_by (sc := defScope s_law_plain) (by decide +kernel))) (pa_cons (ML.pe_lamV (T := (TT K).lam) (c := (He.cT K ("_law_plain", none)).1) (P := (He.cT K ("_law_plain", none)).2) ⟨T.tb_law_plain.code, T.tb_law_plain.bm, T.tb_law_plain.gP⟩ rfl List.mem_cons_self (hu_plain tl) rfl (LamX.lamS_by (sc := defScope s_law_plain) (by decide +kernel))) (pa_cons (ML.pe_lamV (T := (TT K).lam) (c := (He.cT K ("_law_plain", none)).1) (P := (He.cT K ("_law_plain", none)).2) ⟨T.tb_law_plain.code, T.tb_law_plain.bm, T.tb_law_plain.gP⟩ rfl List.mem_cons_self (hu_plain tl) rfl (LamX.lamS_by (sc := defScope s_law_plain) (by decide +kernel))) (pa_cons (ML.pe_lamV (T := (TT K).lam) (c := (He.cT K ("_law_plain", none)).1) (P := (He.cT K ("_law_plain", none)).2) ⟨T.tb_law_plain.code, T.tb_law_plain.bm, T.tb_law_plain.gP⟩ rfl List.mem_cons_self (hu_plain tl) rfl (LamX.lamS_by (sc := defScope s_law_plain) (by decide +kernel))) (pa_cons (ML.pe_lamV (T := (TT K).lam) (c := (He.cT K ("_law_plain", none)).1) (P := (He.cT K ("_law_plain", none)).2) ⟨T.tb_law_plain.code, T.tb_law_plain.bm, T.tb_law_plain.gP⟩ rfl List.mem_cons_self (hu_plain tl) rfl (LamX.lamS_by (sc := defScope s_law_plain) (by decide +kernel))) (pa_cons (ML.pe_lamV (T := (TT K).lam) (c := (He.cT K ("_law_plain", none)).1) (P := (He.cT K ("_law_plain", none)).2) ⟨T.tb_law_plain.code, T.tb_law_plain.bm, T.tb_law_plain.gP⟩ rfl List.mem_cons_self (hu_plain tl) rfl (LamX.lamS_by (sc := defScope s_law_plain) (by decide +kernel))) (pa_cons (ML.pe_lamV (T := (TT K).lam) (c := (He.cT K ("_law_plain", none)).1) (P := (He.cT K ("_law_plain", none)).2) ⟨T.tb_law_plain.code, T.tb_law_plain.bm, T.tb_law_plain.gP⟩ rfl List.mem_cons_self (hu_plain tl) rfl (LamX.lamS_by (sc := defScope s_law_plain) (by decide +kernel))) (pa_cons (ML.pe_lamV (T := (TT K).lam) (c := (He.cT K ("_law_plain", none)).1) (P := (He.cT K ("_law_plain", none)).2) ⟨T.tb_law_plain.code, T.tb_law_plain.bm, T.tb_law_plain.gP⟩ rfl List.mem_cons_self (hu_plain tl) rfl (LamX.lamS_by (sc := defScope s_law_plain) (by decide +kernel))) (pa_cons (ML.pe_lamV (T := (TT K).lam) (c := (He.cT K ("_law_plain", none)).1) (P := (He.cT K ("_law_plain", none)).2) ⟨T.tb_law_plain.code, T.tb_law_plain.bm, T.tb_law_plain.gP⟩ rfl List.mem_cons_self (hu_plain tl) rfl (LamX.lamS_by (sc := defScope s_law_plain) (by decide +kernel))) (pa_cons (ML.pe_lamV (T := (TT K).lam) (c := (He.cT K ("_law_plain", none)).1) (P := (He.cT K ("_law_plain", none)).2) ⟨T.tb_law_plain.code, T.tb_law_plain.bm, T.tb_law_plain.gP⟩ rfl List.mem_cons_self (hu_plain tl) rfl (LamX.lamS_by (sc := defScope s_law_plain) (by decide +kernel))) (pa_cons (ML.pe_lamV (T := (TT K).lam) (c := (He.cT K ("_law_plain", none)).1) (P := (He.cT K ("_law_plain", none)).2) ⟨T.tb_law_plain.code, T.tb_law_plain.bm, T.tb_law_plain.gP⟩ rfl List.mem_cons_self (hu_plain tl) rfl (LamX.lamS_by (sc := defScope s_law_plain) (by decide +kernel))) (pa_cons (ML.pe_lamV (T := (TT K).lam) (c := (He.cT K ("_law_plain", none)).1) (P := (He.cT K ("_law_plain", none)).2) ⟨T.tb_law_plain.code, T.tb_law_plain.bm, T.tb_law_plain.gP⟩ rfl List.mem_cons_self (hu_plain tl) rfl (LamX.lamS_by (sc := defScope s_law_plain) (by decide +kernel))) (pa_cons (ML.pe_lamV (T := (TT K).lam) (c := (He.cT K ("_law_plain", none)).1) (P := (He.cT K ("_law_plain", none)).2) ⟨T.tb_law_plain.code, T.tb_law_plain.bm, T.tb_law_plain.gP⟩ rfl List.mem_cons_self (hu_plain tl) rfl (LamX.lamS_by (sc := defScope s_law_plain) (by decide +kernel))) (pa_cons (ML.pe_lamV (T := (TT K).lam) (c := (He.cT K ("_law_plain", none)).1) (P := (He.cT K ("_law_plain", none)).2) ⟨T.tb_law_plain.code, T.tb_law_plain.bm, T.tb_law_plain.gP⟩ rfl List.mem_cons_self (hu_plain tl) rfl (LamX.lamS_by (sc := defScope s_law_plain) (by decide +kernel))) pa_nil))))))))))))))))))
end K60

set_option Elab.async false
set_option linter.all false
set_option maxRecDepth 100000
set_option maxHeartbeats 2000000
namespace K60
open PySem PySem.Spec PyProof.Rows L2 MB
local macro_rules | `(tactic| walk_at "s") => `(tactic| repeat (first | refine ⟨_, rfl, ?_⟩ | refine ⟨_, _, rfl, rfl, ?_⟩ | refine ⟨_, _, rfl, ?_⟩ | refine ⟨rfl, ?_⟩))
variable {P : Program} {w : World} {K : PySem.W.Frag} {mg : Str → Option Value} {base : Heap}
theorem FsOk.day0 {H : Hp} {x c fq : Addr} {mv : V} {Y : Yr} {fs : List Fe} {as : List Addr} {n : Nat} {nm : Str} {Q : VK} {E : XK} (h : FsOk K H x c fq mv Y fs as) (gd : Gd (TT K) H) (hl : fs.length ≤ n + 1) (hm : nm ∈ fs.map (·.name)) (hb : MM.db Y.rs (MM.sh Y.ms) (0 + 1) ≤ 200000)
    (hQ : ∀ H', Ext (TT K) No H H' → Q (optV (fallV Y fs (n + 1) nm 0)) H') : spDay K n [.ref x, .str nm, .int 0] H Q E := h.day gd hl hm (yn := 0) (by decide) hb hQ
theorem args1 {a : V} {σ : L2.St} {H : Hp} {R : List V → Hp → Prop} (h : R [a] H) : tCons (tC a) tNil σ H R := h
theorem args2 {a b : V} {σ : L2.St} {H : Hp} {R : List V → Hp → Prop} (h : R [a, b] H) : tCons (tC a) (tCons (tC b) tNil) σ H R := h
theorem args3 {a b c : V} {σ : L2.St} {H : Hp} {R : List V → Hp → Prop} (h : R [a, b, c] H) : tCons (tC a) (tCons (tC b) (tCons (tC c) tNil)) σ H R := h
theorem args4 {a b c d : V} {σ : L2.St} {H : Hp} {R : List V → Hp → Prop} (h : R [a, b, c, d] H) : tCons (tC a) (tCons (tC b) (tCons (tC c) (tCons (tC d) tNil))) σ H R := h
theorem fn_ne : ∀ i, i < 40 → fnS i ≠ "" := by decide +kernel
theorem addP {i : Nat} (hi : i < 40) : AddV (fsP i) .non (feP i) := by
  refine ⟨by rw [fsP_names]; exact fn_new i hi, by rw [fsP_len]; omega, fun q => ?_, fun q => ?_⟩
  · rcases q with q | q <;> cases q
  · cases q
def feM : Fe := ⟨"m", .moon, "a", 5, 0⟩
def feN : Fe := ⟨"n", .next, "m", 3, 0⟩
theorem feMth : feM.things = [.str "a", .int 5] := rfl
theorem feNth : feN.things = [.str "m", .int 3] := rfl
theorem addM {mp : Addr} : AddV [] (.ref mp) feM := by
  refine ⟨by simp, by decide, fun q => ?_, fun _ z => nomatch z⟩
  rcases q with q | q <;> cases q
theorem addN {mp : Addr} : AddV [feM] (.ref mp) feN := by
  refine ⟨by decide +kernel, by decide, fun _ => by decide +kernel, fun q => ?_⟩
  cases q
theorem mokP : MOk 59 2 1 := ⟨by decide, by decide, by decide, by decide, by decide⟩
theorem wfM {mp : Addr} : WfF (YP 59 2 1) (.ref mp) [feM, feN] := by
  refine ⟨by decide +kernel, fun fe hf h => ?_, fun i fe hi h => ?_, fun fe hf h z => nomatch z⟩
  · rcases List.mem_cons.mp hf with rfl | hf
    · exact (show ("a" : Str) ∈ msP.map (·.1) by decide +kernel)
    · obtain rfl := List.mem_singleton.mp hf
      rcases h with h | h | h <;> cases h
  · match i, hi with
    | 0, hi =>
      cases hi
      rcases h with h | h <;> cases h
    | 1, hi =>
      cases hi
      exact ⟨0, feM, by decide, rfl, rfl⟩
    | n + 2, hi => simp at hi
theorem fullP0 : FullAt 59 2 1 4 0 := ⟨by decide, fun k z => by omega⟩
theorem fullP1 : FullAt 59 2 1 16 1 := ⟨by decide, fun k z => by
  obtain rfl : k = 0 := by omega
  decide⟩
theorem fallM {n : Nat} : fallV (YP 59 2 1) [feM, feN] (n + 1) "m" 0 = some 15 := by
  have h := fallV_at (Y := YP 59 2 1) (fs := [feM, feN]) (by decide +kernel) (i := 0) (n := n) (y := 0) (fe := feM) rfl
  refine h.trans ?_
  show (fixV (YP 59 2 1) 0 "a" 5).map _ = _
  rw [fixV_at (Y := YP 59 2 1) okMP (i := 0) (m := ("a", 10)) rfl, if_pos (by decide +kernel)]
  have e : dN msP "a" rsP 0 0 ((5 : Int).toNat - 1) = 4 := by decide +kernel
  show some (((fullDay 59 2 1 (dN msP "a" rsP 0 0 ((5 : Int).toNat - 1)) : Nat) : Int)) = _
  rw [e, fullDay_at fullP0]
  rfl
theorem fallN {n : Nat} : fallV (YP 59 2 1) [feM, feN] (n + 2) "n" 0 = some 17 := by
  have h := fallV_at (Y := YP 59 2 1) (fs := [feM, feN]) (by decide +kernel) (i := 1) (n := n + 1) (y := 0) (fe := feN) rfl
  refine h.trans ?_
  show (match fallV (YP 59 2 1) [feM, feN] (n + 1) "m" 0 with
        | none => none
        | some s => if (0 : Int) ≤ 3 ∧ (3 : Int) < 7 then some (s + 1 + ((3 : Int) - (s + 1 + 0) % 7) % 7) else none) = _
  rw [fallM]
  rfl
theorem rowsM : rowsY (YP 59 2 1) [feM, feN] 39 0 2 = ([((15 : Int), (0 : Nat), ("m" : Str)), ((17 : Int), (1 : Nat), ("n" : Str))] : List Row) := by
  have e0 : rowsY (YP 59 2 1) [feM, feN] 39 0 0 = [] := rfl
  rw [rowsY_succ (k := 1) (fe := feN) rfl, rowsY_succ (k := 0) (fe := feM) rfl, e0]
  rw [show fallV (YP 59 2 1) [feM, feN] (39 + 1) feM.name 0 = some 15 from fallM, show fallV (YP 59 2 1) [feM, feN] (39 + 1) feN.name 0 = some 17 from fallN]
  rfl
theorem sortM : sortR (rowsY (YP 59 2 1) [feM, feN] 39 0 2) = ([((15 : Int), (0 : Nat), ("m" : Str)), ((17 : Int), (1 : Nat), ("n" : Str))] : List Row) := by
  rw [rowsM]
  unfold sortR
  refine List.mergeSort_of_pairwise ?_
  refine List.pairwise_cons.mpr ⟨fun b hb => ?_, List.pairwise_singleton _ _⟩
  obtain rfl := List.mem_singleton.mp hb
  decide +kernel
theorem dokA : DOk msP "a" rsP 0 "a" 1 0 0 0 := ⟨rfl, by decide, ⟨("a", 10), rfl, rfl, by decide +kernel⟩, rfl⟩
theorem fe0 : ("f0" : Str) = (feP 0).name := by decide +kernel
theorem fe1 : ("f1" : Str) = (feP 1).name := by decide +kernel
theorem meetP : meetL (YP 0 0 0) (fsP 40) 39 "f0" "f1" 0 3 = [0, 1, 2] := by
  unfold meetL
  rw [List.filter_eq_self.mpr]
  · rfl
  · intro k _
    rw [fe0, fe1, fallP 0 (by decide), fallP 1 (by decide)]
    simp
theorem sprP {m : Nat} {y : Int} : y ∈ sprL (YP 0 0 0) (fsP 40) 39 "f0" 0 m → y = 0 := by
  intro h
  unfold sprL at h
  obtain ⟨k, _, hk⟩ := List.mem_filterMap.mp h
  rw [fe0, fallP 0 (by decide)] at hk
  have hk : some (((dN msP "a" rsP (0 + k) 0 0 : Nat) : Int) - (MM.db rsP (MM.sh msP) (0 + k) : Nat)) = some y := hk
  have e : dN msP "a" rsP (0 + k) 0 0 = MM.db rsP (MM.sh msP) (0 + k) := by
    unfold dN
    simp [MM.pre]
  rw [e] at hk
  cases hk
  omega
theorem ok_law_plain (T : Tx K mg base) (tk : TOk (TT K)) (tl : LamNe K) : FnOk P w K mg base (L2.CX P w) 75 (He.fAd K ("_law_plain", none)) T.fd_law_plain [] (spPlain K) := by
  obtain ⟨oc, od, dV, kV, doc, pm, an, cdv, ct, osl, efd, lk, hcg, hDf, _⟩ := T.F_law_told.ex
  have hbt := bi_law_told T
  rw [efd] at hbt
  rw [efd] at lk
  have ok_Calendar_short := fun T : Tx K mg base => ok_Calendar_short (P := P) (w := w) T tk
  have ok_Feasts_nth := fun T : Tx K mg base => ok_Feasts_nth (P := P) (w := w) T tk
  have ok_Feasts_day := fun T : Tx K mg base => ok_Feasts_day (P := P) (w := w) T tk 39
  have ok_Feasts_meet := fun T : Tx K mg base => ok_Feasts_meet (P := P) (w := w) T tk 39
  have ok_Feasts_spread := fun T : Tx K mg base => ok_Feasts_spread (P := P) (w := w) T tk 39
  have ok_Feasts_year := fun T : Tx K mg base => ok_Feasts_year (P := P) (w := w) T tk 39
  refine MB.FunD.okC (d := ("_law_plain", none)) T.F_law_plain sc_law_plain (fun vs H Q E h => ?_) (fun A outer s H vs Q E hr h => ⟨_, (pss_cons (ps_asg (pe_tupN (T := TT K) (pa_cons (pe_make T.mk_Calendar (ok_Calendar_init T tk) (hr.mono (by decide)) rfl T.g_Calendar (bi_Calendar_init T) .nil (passes_call (takes_of rfl rfl rfl rfl) fun _ _ _ _ h => h) (pa_cons (pe_lstN (T := TT K) (pa_cons (pe_tupN (T := TT K) (pa_cons pe_str (pa_cons pe_int pa_nil))) (pa_cons (pe_tupN (T := TT K) (pa_cons pe_str (pa_cons pe_int pa_nil))) pa_nil))) (pa_cons pe_str (pa_cons (pe_lstN (T := TT K) (pa_cons (pe_tupN (T := TT K) (pa_cons pe_int (pa_cons pe_bl pa_nil))) pa_nil)) pa_nil)))) (pa_cons (pe_make T.mk_Moons (ok_Moons_init T) (hr.mono (by decide)) rfl T.g_Moons (bi_Moons_init T) .nil (passes_call (takes_of rfl rfl rfl rfl) fun _ _ _ _ h => h) (pa_cons pe_int (pa_cons pe_int (pa_cons pe_int pa_nil)))) pa_nil))) (pg_tupK (K := K) (n := 2) rfl rfl (pgs_cons (pg_name (i := 0) sc_law_plain.nd rfl (Or.inr rfl)) (pgs_cons (pg_name (i := 1) sc_law_plain.nd rfl (Or.inl rfl)) pgs_nil))))
 (pss_cons (ps_set (i := 2) sc_law_plain.nd rfl (Or.inr rfl) (pe_make T.mk_Feasts (ok_Feasts_init T) (hr.mono (by decide)) rfl T.g_Feasts (bi_Feasts_init T) .nil (passes_call (takes_of rfl rfl rfl rfl) fun _ _ _ _ h => h) (pa_cons (pv 0) (pa_cons pe_non (pa_cons pe_int (pa_cons pe_int pa_nil))))))
 (pss_cons (ps_for (passes_of rfl) rfl (pi_range1 rfl T.b_range (pa_cons pe_int pa_nil)) (pg_name (i := 3) sc_law_plain.nd rfl (Or.inl rfl)) (pss_one (ps_expr (pe_meth (pv 2) T.c_Feasts T.m_Feasts_add (ok_Feasts_add T) (hr.mono (by decide)) (bi_Feasts_add T) .nil (passes_call (takes_of rfl rfl rfl rfl) fun _ _ _ _ h => h) (pa_cons (pe_make T.mk_Feast (ok_Feast_init T) (hr.mono (by decide)) rfl T.g_Feast (bi_Feast_init T) .nil (passes_call (takes_of rfl rfl rfl rfl) fun _ _ _ _ h => h) (pa_cons (pe_op op_add_str pe_str (pe_callTy call_str_int rfl T.b_str (by decide +kernel) (pa_cons (pv 3) pa_nil))) (pa_cons pe_str (pa_cons (pe_tupN (T := TT K) (pa_cons pe_str (pa_cons pe_int pa_nil))) pa_nil)))) pa_nil)))))
 (pss_cons (plain_S1 T tl A outer s H E)
 (pss_cons (ps_if (PW.pt (pw_or (pt_cmpR (op_neDK (K := K) rfl hr.units) (ML.pe_lcI (tt := tTest (tOp rNe (ML.tTold (KLs T tk A outer s H E P w) (plainX P w K mg base A outer s H E).env.cells ((plainX P w K mg base A outer s H E).env.qual ++ "<lambda>") K (He.ga K "MoonError") "MoonError" 5 [5]) (tC (.str "MoonError")))) rfl sc_law_plain.nd (pi_listK (K := K) rfl (pv 4)) (blkOk_by (N := ["calendar", "moons", "feasts", "k", "bad", "f", "other"]) (sc := defScope s_law_plain) (own := [("f", 5)]) (by decide +kernel)) (fun _ _ _ _ _ => (pg_name (i := 5) sc_law_plain.nd rfl (Or.inl rfl))) (fun s3 H3 C cl fp pins σ I hfp => (show PTs _ _ (tTest (tOp rNe (fun σB HB Q => wipe σB [5] = wipe σ [5] ∧ (ML.tTold (KLs T tk A outer s H E P w) (plainX P w K mg base A outer s H E).env.cells ((plainX P w K mg base A outer s H E).env.qual ++ "<lambda>") K (He.ga K "MoonError") "MoonError" 5 [5]) σB HB Q) (tC (.str "MoonError")))) from pts_one (pt_cmpR op_ne (ML.pe_toldB (vs := [5]) I hfp (kl_ok T tk A outer s H E) (hr.mono (by decide)) rfl T.g_law_told T.F_law_told.kp lk hcg hbt sc_law_told rfl (Or.inl rfl) rfl T.g_MoonError (fun _ => rfl) rfl (Or.inl rfl)) pe_str (nomark _)))) (fun _ _ _ _ _ => pe_int)) (pe_lstN (T := TT K) pa_nil) (nomark _)) (pw_or1 (pt_cmpR op_ne (pe_glob (v := .int 40) rfl T.i_MOST_FEASTS.choose_spec ⟨_, rfl⟩) pe_int (nomark _))))) (pss_one (ps_ret pe_bl)) pss_nil)
 (pss_cons (ps_set (i := 6) sc_law_plain.nd rfl (Or.inl rfl) (pe_make T.mk_Feasts (ok_Feasts_init T) (hr.mono (by decide)) rfl T.g_Feasts (bi_Feasts_init T) .nil (passes_call (takes_of rfl rfl rfl rfl) fun _ _ _ _ h => h) (pa_cons (pv 0) (pa_cons (pv 1) (pa_cons pe_int (pa_cons pe_int pa_nil))))))
 (pss_cons (ps_expr (pe_meth (pv 6) T.c_Feasts T.m_Feasts_add (ok_Feasts_add T) (hr.mono (by decide)) (bi_Feasts_add T) .nil (passes_call (takes_of rfl rfl rfl rfl) fun _ _ _ _ h => h) (pa_cons (pe_make T.mk_Feast (ok_Feast_init T) (hr.mono (by decide)) rfl T.g_Feast (bi_Feast_init T) .nil (passes_call (takes_of rfl rfl rfl rfl) fun _ _ _ _ h => h) (pa_cons pe_str (pa_cons pe_str (pa_cons (pe_tupN (T := TT K) (pa_cons pe_str (pa_cons pe_int pa_nil))) pa_nil)))) pa_nil)))
 (pss_cons (ps_expr (pe_meth (pv 6) T.c_Feasts T.m_Feasts_add (ok_Feasts_add T) (hr.mono (by decide)) (bi_Feasts_add T) .nil (passes_call (takes_of rfl rfl rfl rfl) fun _ _ _ _ h => h) (pa_cons (pe_make T.mk_Feast (ok_Feast_init T) (hr.mono (by decide)) rfl T.g_Feast (bi_Feast_init T) .nil (passes_call (takes_of rfl rfl rfl rfl) fun _ _ _ _ h => h) (pa_cons pe_str (pa_cons pe_str (pa_cons (pe_tupN (T := TT K) (pa_cons pe_str (pa_cons pe_int pa_nil))) pa_nil)))) pa_nil)))
 (pss_one (ps_ret (pe_and (pe_cmpR op_eq (pe_meth (pv 6) T.c_Feasts T.m_Feasts_day (ok_Feasts_day T) (hr.mono (by decide)) (bi_Feasts_day T) .nil (passes_call (takes_of rfl rfl rfl rfl) fun _ _ _ _ h => h) (pa_cons pe_str (pa_cons pe_int pa_nil))) pe_int (nomark _)) (pe_and (pe_cmpR op_eq (pe_meth (pv 6) T.c_Feasts T.m_Feasts_day (ok_Feasts_day T) (hr.mono (by decide)) (bi_Feasts_day T) .nil (passes_call (takes_of rfl rfl rfl rfl) fun _ _ _ _ h => h) (pa_cons pe_str (pa_cons pe_int pa_nil))) pe_int (nomark _)) (pe_and (pe_cmpR (op_eqDK (K := K) rfl hr.units) (pe_meth (pv 6) T.c_Feasts T.m_Feasts_year (ok_Feasts_year T) (hr.mono (by decide)) (bi_Feasts_year T) .nil (passes_call (takes_of rfl rfl rfl rfl) fun _ _ _ _ h => h) (pa_cons pe_int pa_nil)) (pe_tupN (T := TT K) (pa_cons (pe_tupN (T := TT K) (pa_cons pe_int (pa_cons pe_str pa_nil))) (pa_cons (pe_tupN (T := TT K) (pa_cons pe_int (pa_cons pe_str pa_nil))) pa_nil))) (nomark _)) (pe_and (pe_cmpR op_eq (pe_meth (pv 6) T.c_Feasts T.m_Feasts_full_from (ok_Feasts_full_from T) (hr.mono (by decide)) (bi_Feasts_full_from T) .nil (passes_call (takes_of rfl rfl rfl rfl) fun _ _ _ _ h => h) (pa_cons pe_int pa_nil)) pe_int (nomark _)) (pe_and (pe_cmpR op_eq (pe_meth (pv 2) T.c_Feasts T.m_Feasts_nth (ok_Feasts_nth T) (hr.mono (by decide)) (bi_Feasts_nth T) .nil (passes_call (takes_of rfl rfl rfl rfl) fun _ _ _ _ h => h) (pa_cons pe_int (pa_cons pe_str (pa_cons pe_int (pa_cons (pe_un un_neg pe_int) pa_nil))))) pe_int (nomark _)) (pe_and (pe_cmpR (op_eqDK (K := K) rfl hr.units) (pe_meth (pv 2) T.c_Feasts T.m_Feasts_meet (ok_Feasts_meet T) (hr.mono (by decide)) (bi_Feasts_meet T) .nil (passes_call (takes_of rfl rfl rfl rfl) fun _ _ _ _ h => h) (pa_cons pe_str (pa_cons pe_str (pa_cons pe_int (pa_cons pe_int pa_nil))))) (pe_tupN (T := TT K) (pa_cons pe_int (pa_cons pe_int (pa_cons pe_int pa_nil)))) (nomark _)) (pe_one (pe_cmpR (op_eqDK (K := K) rfl hr.units) (pe_meth (pv 2) T.c_Feasts T.m_Feasts_spread (ok_Feasts_spread T) (hr.mono (by decide)) (bi_Feasts_spread T) .nil (passes_call (takes_of rfl rfl rfl rfl) fun _ _ _ _ h => h) (pa_cons pe_str (pa_cons pe_int (pa_cons pe_int pa_nil)))) (pe_tupN (T := TT K) (pa_cons pe_int (pa_cons pe_int pa_nil))) (nomark _))))))))))))))))))), ?_⟩)
  · obtain ⟨rfl, _⟩ := h
    rfl
  · obtain ⟨rfl, gd, hQ⟩ := h
    walk_at "s"
    refine ⟨sz, fun tm0 Hm0 htm0 hvm0 em0 => ?_⟩
    walk_at "s"
    refine ⟨sz, fun tm1 Hm1 htm1 hvm1 em1 => ?_⟩
    walk_at "s"
    refine ⟨sz, fun qm Hqm hqm hvqm eqm => ?_⟩
    walk_at "s"
    refine ⟨sz, fun tr0 Hr0 htr0 hvr0 er0 => ?_⟩
    walk_at "s"
    refine ⟨sz, fun qr Hqr hqr hvqr eqr => ?_⟩
    walk_at "s"
    have e2 : Ext (TT K) No Hqm Hqr := er0.trans eqr
    have eA : Ext (TT K) No H Hqr := ((em0.trans em1).trans eqm).trans e2
    intro x dx hx hdx hne
    refine ⟨x, dx, qm, qr, msP, "a", rsP, Hqr, rfl, hx, hdx, hne, rfl, eA.gd gd, ⟨[tm0, tm1], .inl (SqL.of (e2.lst _ _ hvqm id)), ((monsnoc ((monsnoc (monnil.ext em0) hvm0).ext em1) hvm1).ext eqm).ext e2⟩, by decide, ⟨[tr0], .inl (SqL.of hvqr), (rsnoc (rnil.ext er0) hvr0).ext eqr⟩, by decide, fun _ _ H2 le2 e2' => ?_, fun _ z => absurd okMP z, fun z => absurd rvRP z⟩
    have E2 := eA.trans e2'
    clear eA e2' e2 em0 em1 eqm er0 eqr hvm0 hvm1 hvqm hvr0 hvqr htm0 htm1 htr0 hqm hqr hx hdx hne
    walk_at "s"
    intro mp dm hmp hdm hnm
    refine ⟨mp, dm, 59, 2, 1, H2, rfl, hmp, hdm, hnm, rfl, fun _ H3 hM3 e3 => ?_, fun z => absurd (show MV 59 2 1 from ⟨by decide, by decide, by decide, by decide, by decide⟩) z⟩
    have hM3 : MoonsAt (MC K) H3 mp 59 2 1 := hM3
    walk_at "s"
    refine ⟨sz, fun t4 H4 ht4 hv4 e4 => ?_⟩
    refine ⟨_, _, rfl, SqT.of hv4, rfl, ?_⟩
    have hC4 : CalAt K H4 x msP "a" rsP := CalAt.ext le2 (e3.trans e4)
    have hM4 := hM3.ext e4
    have E4 := E2.trans (e3.trans e4)
    clear le2 hM3 e3 e4 E2 hmp hdm hnm ht4 hv4
    walk_at "s"
    intro f df hf hdf hnf
    refine ⟨f, df, x, .non, 7, 0, H4, rfl, hf, hdf, hnf, rfl, fun _ fq H5 hX5 hfq5 nfq e5 => ?_, fun z => absurd (show FsV 7 0 from ⟨by decide, by decide, by decide, by decide⟩) z⟩
    have E5 := E4.trans e5
    have hC5 := hC4.ext e5
    have hM5 := hM4.ext e5
    have hfd : f ≠ fq := fun z => by
      obtain ⟨_, z2⟩ := hX5
      rw [z, hfq5] at z2
      cases z2
    have NF : NoM H fq := NoM.back E4 id nfq
    clear hC4 hM4 e5 E4 hf hdf hnf nfq
    walk_at "s"
    refine ⟨by decide, by decide, ?_⟩
    have h40 : (40 : Int).toNat = 40 := rfl
    rw [h40]
    refine for_range (fun i σ' H' => ∃ (as : List Addr) (u : Option V), σ' = [some (.ref x), some (.ref mp), some (.ref f), u, none, none, none] ∧ FsOk K H' f x fq .non (YP 0 0 0) (fsP i) as ∧ H' fq = some (.dK (kvF (fsP i) as)) ∧ Ext (TT K) (· = fq) H5 H')
      ⟨[], none, rfl, ⟨hX5, ⟨rfl, .inl hfq5, fun i f a z => by simp [fsP] at z⟩, hC5, okMP, okRP, (show (1 : Int) ≤ 7 by decide), fun z => absurd rfl z, wfP (by decide)⟩, hfq5, .refl⟩ ?_ ?_
    · rintro i σ' H6 hi ⟨as, u, rfl, F6, hfq6, e6⟩
      obtain ⟨dxf, lf⟩ := id F6.at_
      walk_at "s"
      refine ⟨_, _, _, rfl, lf, rfl, ?_⟩
      walk_at "s"
      refine ⟨Nat.lt_of_le_of_lt (Nat.log2_le_self _) (by omega), ?_⟩
      walk_at "s"
      refine ⟨Nat.le_trans (fn_len40 i hi) (sz (by decide)), ?_⟩
      have hnm : Str.ofString "f" ++ Str.ofString (toString ((0 : Int) + (i : Int))) = fnS i := rfl
      rw [hnm]
      walk_at "s"
      refine ⟨sz, fun t7 H7 ht7 hv7 e7 => ?_⟩
      walk_at "s"
      intro z dz hz hdz hne
      refine ⟨z, dz, t7, fnS i, "fixed", [.str "a", .int 1], H7, rfl, hz, hdz, hne, rfl, .inr (SqT.of hv7), fun _ t8 H8 hz8 ht8 e8 => ?_, fun q => absurd (show FV (fnS i) "fixed" 2 from ⟨fn_ne i hi, .fixed, rfl, rfl⟩) q⟩
      have e78 := e7.trans e8
      have F8 := F6.ext e78 id
      walk_at "s"
      refine ⟨f, x, fq, z, .non, 7, 0, fsP i, as, feP i, rfl, F8.at_, F8.d, e78.dk _ _ hfq6 id, ⟨dz, t8, hz8, ht8⟩, .inl rfl, by rw [fsP_len]; omega, fun _ H9 hD9 hfq9 e9 => ?_, fun q => absurd (addP hi) q⟩
      rw [← fsP_succ] at hD9 hfq9
      exact ⟨_, some (.int ((0 : Int) + (i : Nat))), rfl, ⟨F8.at_.ext e9, hD9, F8.cal.ext e9, okMP, okRP, (show (1 : Int) ≤ 7 by decide), fun z => absurd rfl z, wfP (by omega)⟩, hfq9, e6.trans (e78.no.trans e9)⟩
    rintro σ' H6 ⟨as, u, rfl, F6, hfq6, e6⟩
    have PF : PlF K H6 x f fq as := ⟨F6, hfq6⟩
    have E6 : Ext (TT K) No H H6 := (E5.no.trans e6).mono1 NF
    have hM6 := hM5.ext e6
    have gd6 := E6.gd gd
    clear F6 hfq6 e6 hM5 hC5 hX5 hfq5 E5
    walk_at "s"
    have hPne : ∀ p ∈ (TT K).gen, p ≠ (He.cT K ("_law_plain", none)).2 := fun p hp => Ne.symm (tk p hp _ List.mem_cons_self)
    refine lamsTA_ok hPne _ _ _ _ gd6 fun ls H7 e7 hls => ?_
    have hll : ls.length = 16 := by rw [hls.1]; rfl
    refine ⟨sz (by rw [List.length_map, hll]; decide), fun pb H8 hpb hvb e8 => ?_⟩
    have hls := hls.ext e8
    have E8 := E6.trans (e7.trans e8)
    have PF8 := PF.ext (e7.trans e8)
    have hM8 := hM6.ext (e7.trans e8)
    have gd8 := E8.gd gd
    clear PF hM6 gd6 e7 e8 E6
    walk_at "s"
    refine ⟨⟨_, SqL.of hvb⟩, fun D hD => ?_⟩
    have hpD : ¬ pb = D := fun z => by rw [z, hD] at hvb; cases hvb
    refine lc_list (xs := ls.map V.ref) (fun i H9 => H9 D = some (.lst []) ∧ Ext (TT K) (· = D) H8 H9) ⟨upd_same, (Ext.new hD).no⟩ (fun i H9 _ ⟨_, e⟩ => SqL.of (e.lst _ _ hvb hpD)) ?_ ?_
    · rintro i x1 H9 hx1 ⟨h9, e9⟩
      rw [List.getElem?_map] at hx1
      cases g : ls[i]? with
      | none => rw [g] at hx1; cases hx1
      | some fl =>
        rw [g] at hx1
        cases hx1
        have hi : i < 16 := by
          have := (List.getElem?_eq_some_iff.mp g).1
          omega
        have hL : ((List.range 16).map lamOf)[i]? = some (lamOf i) := by simp [hi]
        obtain ⟨c', hf, hc⟩ := hls.2 i fl (lamOf i) g hL
        walk_at "s"
        refine ⟨fl, c', lamOf i, tOf T tk A outer s H E P w i, List.mem_map.mpr ⟨i, by simpa using hi, rfl⟩, rfl, e9.fix _ _ hf lamO_fix, e9.fix _ _ hc codeO_fix, ?_⟩
        have key : tOf T tk A outer s H E P w i = (lamAll (P := P) (w := w) T tk A outer s H E i hi).choose := by
          unfold tOf
          rw [dif_pos hi]
        rw [key]
        have e9n := e9.mono1 (NoM.of hD)
        refine (lamAll (P := P) (w := w) T tk A outer s H E i hi).choose_spec.2 _ x f fq as _ _ _ _ _ H9 _ (PF8.ext e9n) (e9.gd gd8) fun H10 e10 => ?_
        refine ⟨⟨true, T.xm_MonthError_MoonError, fun _ => ?_, fun z => by cases z⟩, ⟨true, T.xm_YearError_MoonError, fun _ => ?_, fun z => by cases z⟩, ⟨true, T.xm_FeastError_MoonError, fun _ => ?_, fun z => by cases z⟩⟩
        · walk_at "s"
          exact ⟨e10.lst _ _ h9 id, e9.trans e10.no⟩
        · walk_at "s"
          exact ⟨e10.lst _ _ h9 id, e9.trans e10.no⟩
        · walk_at "s"
          exact ⟨e10.lst _ _ h9 id, e9.trans e10.no⟩
    rintro H9 ⟨h9, e9⟩
    have e9n := e9.mono1 (NoM.of hD)
    walk_at "s"
    refine ⟨sz, fun l0 H10 hl0 hv0 e10 => ?_⟩
    refine ⟨.list [], .list [], .lst (SqL.of (e10.lst _ _ h9 id)) .nil, .lst (SqL.of hv0) .nil, rfl, rfl, ?_⟩
    have E10 := E8.trans (e9n.trans e10)
    have PF10 := PF8.ext (e9n.trans e10)
    have hM10 := hM8.ext (e9n.trans e10)
    have gd10 := E10.gd gd
    clear e9 e9n e10 h9 hv0 hl0 PF8 hM8 E8 hls hvb hpb hD hpD gd8
    walk_at "s"
    intro g dg hg hdg hng
    refine ⟨g, dg, x, .ref mp, 7, 0, H10, rfl, hg, hdg, hng, rfl, fun _ gq H11 hX11 hgq11 ngq e11 => ?_, fun z => absurd (show FsV 7 0 from ⟨by decide, by decide, by decide, by decide⟩) z⟩
    have E11 := E10.trans e11
    have PF11 := PF10.ext e11
    have hM11 := hM10.ext e11
    have hfg : gq ≠ fq := fun z => by
      subst z
      exact ngq.2 _ PF10.d
    have NG : NoM H gq := NoM.back E10 id ngq
    clear PF10 hM10 gd10 e11 E10 hg hdg hng
    obtain ⟨dxg, lg⟩ := id hX11
    walk_at "s"
    refine ⟨_, _, _, rfl, lg, rfl, ?_⟩
    walk_at "s"
    refine ⟨sz, fun t12 H12 ht12 hv12 e12 => ?_⟩
    walk_at "s"
    intro z dz hz hdz hne
    refine ⟨z, dz, t12, "m", "moon", [.str "a", .int 5], H12, rfl, hz, hdz, hne, rfl, .inr (SqT.of hv12), fun _ t13 H13 hz13 ht13 e13 => ?_, fun q => absurd (show FV "m" "moon" 2 from ⟨by decide +kernel, .moon, rfl, rfl⟩) q⟩
    have e123 := e12.trans e13
    walk_at "s"
    refine ⟨g, x, gq, z, .ref mp, 7, 0, [], [], feM, rfl, hX11.ext e123, ⟨rfl, .inl (e123.dk _ _ hgq11 id), fun i f a z => by simp at z⟩, e123.dk _ _ hgq11 id, ⟨dz, t13, hz13, ht13⟩, .inr ⟨mp, rfl⟩, by decide, fun _ H14 hD14 hgq14 e14 => ?_, fun q => absurd addM q⟩
    have hD14 : FsD K H14 gq [feM] [z] := hD14
    have hgq14 : H14 gq = some (.dK (kvF [feM] [z])) := hgq14
    have e15 : Ext (TT K) (· = gq) H11 H14 := e123.no.trans e14
    have hX14 := hX11.ext e15
    obtain ⟨dxg, lg⟩ := id hX14
    clear e12 e13 e123 hv12 ht12 hz hdz hne hz13 ht13 e14 hgq11
    walk_at "s"
    refine ⟨_, _, _, rfl, lg, rfl, ?_⟩
    walk_at "s"
    refine ⟨sz, fun t12 H15 ht12 hv12 e12 => ?_⟩
    walk_at "s"
    intro z2 dz2 hz hdz hne
    refine ⟨z2, dz2, t12, "n", "next", [.str "m", .int 3], H15, rfl, hz, hdz, hne, rfl, .inr (SqT.of hv12), fun _ t13 H16 hz13 ht13 e13 => ?_, fun q => absurd (show FV "n" "next" 2 from ⟨by decide +kernel, .next, rfl, rfl⟩) q⟩
    have e123 := e12.trans e13
    walk_at "s"
    refine ⟨g, x, gq, z2, .ref mp, 7, 0, [feM], [z], feN, rfl, hX14.ext e123, hD14.ext e123 id, e123.dk _ _ hgq14 id, ⟨dz2, t13, hz13, ht13⟩, .inr ⟨mp, rfl⟩, by decide, fun _ H17 hD17 hgq17 e17 => ?_, fun q => absurd addN q⟩
    have hD17 : FsD K H17 gq [feM, feN] [z, z2] := hD17
    have hgq17 : H17 gq = some (.dK (kvF [feM, feN] [z, z2])) := hgq17
    have e18 : Ext (TT K) (· = gq) H11 H17 := e15.trans (e123.no.trans e17)
    have G17 : FsOk K H17 g x gq (.ref mp) (YP 59 2 1) [feM, feN] [z, z2] := ⟨hX11.ext e18, hD17, PF11.f.cal.ext e18, okMP, okRP, (show (1 : Int) ≤ 7 by decide), fun _ => ⟨mp, rfl, hM11.ext e18, mokP⟩, wfM⟩
    have PF17 : PlF K H17 x f fq as := ⟨PF11.f.ext e18 (fun z => hfg z.symm), e18.dk _ _ PF11.d (fun z => hfg z.symm)⟩
    have E17 : Ext (TT K) No H H17 := (E11.no.trans e18).mono1 NG
    have gd17 := E17.gd gd
    clear PF11 hM11 E11 e15 e18 hX14 hX11 hD14 hgq14 e12 e13 e123 hv12 ht12 hz hdz hne hz13 ht13 e17 hD17
    obtain ⟨dxg, lg⟩ := id G17.at_
    walk_at "s"
    refine ⟨_, _, _, rfl, lg, rfl, ?_⟩
    walk_at "s"
    refine args2 ?_
    try dsimp only
    show spDay K 39 [.ref g, .str "m", .int 0] H17 _ _
    refine G17.day0 gd17 (by decide) (by decide +kernel) (by decide +kernel) fun H18 e18 => ?_
    rw [show fallV (YP 59 2 1) [feM, feN] (39 + 1) "m" 0 = some 15 from fallM]
    walk_at "s"
    have G18 := G17.ext e18 id
    have gd18 := e18.gd gd17
    obtain ⟨dxg, lg⟩ := id G18.at_
    walk_at "s"
    refine ⟨_, _, _, rfl, lg, rfl, ?_⟩
    refine args2 ?_
    try dsimp only
    show spDay K 39 [.ref g, .str "n", .int 0] H18 _ _
    refine G18.day0 gd18 (by decide) (by decide +kernel) (by decide +kernel) fun H19 e19 => ?_
    rw [show fallV (YP 59 2 1) [feM, feN] (39 + 1) "n" 0 = some 17 from fallN]
    have e1719 := e18.trans e19
    have G19 := G17.ext e1719 id
    have gd19 := e1719.gd gd17
    have hgq19 := e1719.dk _ _ hgq17 id
    have PF19 := PF17.ext e1719
    have E19 := E17.trans e1719
    clear G17 G18 gd17 gd18 hgq17 PF17 E17 e18 e19 e1719
    obtain ⟨dxg, lg⟩ := id G19.at_
    walk_at "s"
    refine ⟨_, _, _, rfl, lg, rfl, ?_⟩
    refine args1 ?_
    try dsimp only
    show spYear K 39 [.ref g, .int 0] H19 _ _
    refine ⟨g, x, gq, .ref mp, YP 59 2 1, [feM, feN], [z, z2], 0, rfl, G19, hgq19, gd19, by decide, by decide, by decide, by decide +kernel, fun t20 ps H20 ht20 hpl hps e20 => ?_⟩
    rw [show [feM, feN].length = 2 from rfl, sortM] at hpl hps
    obtain ⟨p0, p1, rfl⟩ : ∃ p0 p1, ps = [p0, p1] := by
      match ps, hpl with
      | [p0, p1], _ => exact ⟨p0, p1, rfl⟩
    have hp0 : H20 p0 = some (.tup [.int 15, .str "m"]) := hps 0 p0 _ rfl rfl
    have hp1 : H20 p1 = some (.tup [.int 17, .str "n"]) := hps 1 p1 _ rfl rfl
    walk_at "s"
    refine ⟨sz, fun ta Ha hta hva ea => ?_⟩
    walk_at "s"
    refine ⟨sz, fun tb Hb htb hvb eb => ?_⟩
    walk_at "s"
    refine ⟨sz, fun tc Hc htc hvc ec => ?_⟩
    have ebc := eb.trans ec
    have eabc := ea.trans ebc
    have dpM : ∀ {H : Hp} {p : Addr}, H p = some (.tup [.int 15, .str "m"]) → Dp K H (.ref p) (.tuple [.int 15, .str "m"]) := fun h => .tup (SqT.of h) (.cons (.int _) (.cons (.str _) .nil))
    have dpN : ∀ {H : Hp} {p : Addr}, H p = some (.tup [.int 17, .str "n"]) → Dp K H (.ref p) (.tuple [.int 17, .str "n"]) := fun h => .tup (SqT.of h) (.cons (.int _) (.cons (.str _) .nil))
    refine ⟨.tuple [.tuple [.int 15, .str "m"], .tuple [.int 17, .str "n"]], .tuple [.tuple [.int 15, .str "m"], .tuple [.int 17, .str "n"]], .tup (SqT.of (eabc.fix _ _ ht20 rfl)) (.cons (dpM (eabc.fix _ _ hp0 rfl)) (.cons (dpN (eabc.fix _ _ hp1 rfl)) .nil)), .tup (SqT.of hvc) (.cons (dpM (ebc.fix _ _ hva rfl)) (.cons (dpN (ec.fix _ _ hvb rfl)) .nil)), by decide +kernel, by decide +kernel, ?_⟩
    have eqv1 : PyData.eqv (.tuple [.tuple [.int 15, .str "m"], .tuple [.int 17, .str "n"]]) (.tuple [.tuple [.int 15, .str "m"], .tuple [.int 17, .str "n"]]) = true := by decide +kernel
    rw [eqv1]
    clear eqv1 dpM dpN hps hpl
    have e1 := e20.trans eabc
    have G21 := G19.ext e1 id
    have PF21 := PF19.ext e1
    have E21 := E19.trans e1
    have gd21 := E21.gd gd
    clear G19 PF19 E19 gd19 hgq19 e20 ea eb ec ebc eabc hp0 hp1 hva hvb hvc ht20 hta htb htc e1
    obtain ⟨dxg, lg⟩ := id G21.at_
    obtain ⟨mp2, hmp2, hM21, mok⟩ := G21.moon (fun z => nomatch z)
    cases hmp2
    walk_at "s"
    refine ⟨_, _, _, rfl, lg, rfl, ?_⟩
    refine args1 ?_
    try dsimp only
    show spFF K [.ref g, .int 16] Hc _ _
    refine ⟨g, x, gq, mp, 7, 0, 59, 2, 1, 16, rfl, G21.at_, hM21, mok, by decide, fun nn hnn H22 e22 => ?_⟩
    obtain rfl := full_one hnn fullP1
    have PF22 := PF21.ext e22
    have E22 := E21.trans e22
    have gd22 := E22.gd gd
    clear G21 PF21 E21 gd21 hM21 mok e22
    obtain ⟨dxf, lf⟩ := id PF22.f.at_
    walk_at "s"
    refine ⟨_, _, _, rfl, lf, rfl, ?_⟩
    walk_at "s"
    refine ⟨f, x, fq, .non, 7, 0, msP, "a", rsP, 0, "a", 3, -1, rfl, PF22.f.at_, by decide, PF22.f.cal, okMP, okRP, gd22, fun yn i mm dk hmi H23 e23 => ?_, fun z => absurd dokA (z 0 0)⟩
    obtain ⟨rfl, rfl, _⟩ := DOk.one okMP dk dokA
    cases hmi
    have hnv : nthV (wdL (dN msP "a" rsP 0 0 0) (MM.md rsP ("a" : Str) 0 ("a", 10)) 7 0 3) (-1) = .int 10 := by decide +kernel
    rw [hnv]
    have PF23 := PF22.ext e23
    have E23 := E22.trans e23
    have gd23 := E23.gd gd
    clear PF22 E22 gd22 dk hnv e23
    obtain ⟨dxf, lf⟩ := id PF23.f.at_
    walk_at "s"
    refine ⟨_, _, _, rfl, lf, rfl, ?_⟩
    refine args4 ?_
    try dsimp only
    show spMeet K 39 [.ref f, .str "f0", .str "f1", .int 0, .int 2] H23 _ _
    refine ⟨f, x, fq, .non, YP 0 0 0, fsP 40, as, "f0", "f1", 0, 2, rfl, PF23.f, gd23, by rw [fsP_len]; decide, .inr (.inr (.inr ⟨0, 3, rfl, by decide, by decide, by decide, by decide +kernel, by rw [fsP_names]; decide +kernel, by rw [fsP_names]; decide +kernel, fun t24 H24 hT24 e24 => ?_⟩))⟩
    rw [meetP] at hT24
    have hT24 : SqT K H24 t24 [.int 0, .int 1, .int 2] := hT24
    walk_at "s"
    refine ⟨sz, fun ta Ha hta hva ea => ?_⟩
    refine ⟨.tuple [.int 0, .int 1, .int 2], .tuple [.int 0, .int 1, .int 2], .tup (SqT.ext hT24 ea) (.cons (.int _) (.cons (.int _) (.cons (.int _) .nil))), .tup (SqT.of hva) (.cons (.int _) (.cons (.int _) (.cons (.int _) .nil))), by decide +kernel, by decide +kernel, ?_⟩
    have eqv1 : PyData.eqv (.tuple [.int 0, .int 1, .int 2]) (.tuple [.int 0, .int 1, .int 2]) = true := by decide +kernel
    rw [eqv1]
    have PF25 := PF23.ext (e24.trans ea)
    have E25 := E23.trans (e24.trans ea)
    have gd25 := E25.gd gd
    clear eqv1 PF23 E23 gd23 hT24 e24 ea hva hta
    obtain ⟨dxf, lf⟩ := id PF25.f.at_
    walk_at "s"
    refine ⟨_, _, _, rfl, lf, rfl, ?_⟩
    refine args3 ?_
    try dsimp only
    show spSpr K 39 [.ref f, .str "f0", .int 0, .int 5] Ha _ _
    refine ⟨f, x, fq, .non, YP 0 0 0, fsP 40, as, "f0", 0, 5, rfl, PF25.f, gd25, by rw [fsP_len]; decide, .inr (.inr ⟨0, 6, rfl, by decide, by decide, by decide, by decide +kernel, by rw [fsP_names]; decide +kernel, fun z => ?_, fun lo hi hlo _ hhi _ t26 H26 hv26 e26 => ?_⟩)⟩
    · rw [show (6 : Nat) = 5 + 1 from rfl, sprL_succ, fe0, fallP 0 (by decide)] at z
      simp at z
    obtain rfl := sprP hlo
    obtain rfl := sprP hhi
    walk_at "s"
    refine ⟨sz, fun ta Hb htb hvb eb => ?_⟩
    refine ⟨.tuple [.int 0, .int 0], .tuple [.int 0, .int 0], .tup (SqT.of (eb.fix _ _ hv26 rfl)) (.cons (.int _) (.cons (.int _) .nil)), .tup (SqT.of hvb) (.cons (.int _) (.cons (.int _) .nil)), by decide +kernel, by decide +kernel, ?_⟩
    have eqv1 : PyData.eqv (.tuple [.int 0, .int 0]) (.tuple [.int 0, .int 0]) = true := by decide +kernel
    rw [eqv1]
    exact hQ _ (E25.trans (e26.trans eb))
end K60

set_option Elab.async false
set_option linter.all false
set_option maxRecDepth 100000
set_option maxHeartbeats 2000000
namespace K60
open PySem PySem.Spec PyProof.Rows L2 MB
local macro_rules | `(tactic| walk_at "s") => `(tactic| repeat (first | refine ⟨_, rfl, ?_⟩ | refine ⟨_, _, rfl, rfl, ?_⟩ | refine ⟨_, _, rfl, ?_⟩ | refine ⟨rfl, ?_⟩))
variable {P : Program} {w : World} {K : PySem.W.Frag} {mg : Str → Option Value} {base : Heap}
def lawBody : List Stmt := match defBody s_law with
  | (.For _ _ b _ _) :: _ => b
  | _ => []
def spLaw (K : PySem.W.Frag) : Sp := fun vs H Q _ => ∃ (a : Addr) (ns : List Int), vs = [.ref a] ∧ SqL K H a (ns.map V.int) ∧ Gd (TT K) H ∧ ∀ H', Q (.bl true) H'
theorem hu_law (tl : LamNe K) : ∀ p ∈ (TT K).lam, p.1 = (He.cT K ("law", none)).2 → p.2 = "law.<locals>.<lambda>" := fun p hp e => by
  have hp : p = ((He.cT K ("_law_plain", none)).2, ("_law_plain.<locals>.<lambda>" : Str)) ∨ p = ((He.cT K ("law", none)).2, ("law.<locals>.<lambda>" : Str)) := by simpa [TT] using hp
  rcases hp with rfl | rfl
  · exact absurd e tl
  · rfl
theorem law_lam (tk : TOk (TT K)) {H H1 : Hp} (eN : LamX.ExtN H H1) (eP : ∀ b o, H b = some o → b ≠ (He.cT K ("law", none)).2 → H1 b = some o) (T1 : LamX.Tabs (TT K).lam H1) : Ext (TT K) No H H1 :=
  Ext.lamM (P := (He.cT K ("law", none)).2) (fun p hp => Ne.symm (tk p hp _ (List.mem_cons_of_mem _ List.mem_cons_self))) eN eP T1
theorem OwnAt.extM {dq o : Addr} {M : Addr → Prop} {H H' : Hp} {ms : Mons} {lg : Str} {rs : MM.Rules} (h : OwnAt K dq H o ms lg rs) (e : Ext (TT K) M H H') (n : ¬ M o) (nl : ∀ b xs, M b → H b ≠ some (.lst xs)) : OwnAt K dq H' o ms lg rs := by
  obtain ⟨⟨mq, rq, ts, rts, h1, h2, h3, h4, h4', h5, h6⟩, h7⟩ := h
  exact ⟨⟨mq, rq, ts, rts, h1.ext e n, e.lst _ _ h2 fun z => nl _ _ z h2, h3.ext e, e.lst _ _ h4 fun z => nl _ _ z h4, h4'.ext e, h5, h6⟩, h7⟩
theorem OwnF.extM {dq o fd : Addr} {M : Addr → Prop} {H H' : Hp} {Y : Yr} {fs : List Fe} {as : List Addr} (h : OwnF K dq H o Y fd fs as) (e : Ext (TT K) M H H') (n : ¬ M o) (n2 : ¬ M fd) (nl : ∀ b xs, M b → H b ≠ some (.lst xs)) : OwnF K dq H' o Y fd fs as := by
  obtain ⟨h1, ⟨kvs, mt, h2, h3, h4, h5, h6, h7⟩, h8, h9, h10, h11⟩ := h
  exact ⟨h1.extM e n nl, ⟨kvs, mt, e.dk _ _ h2 n, h3, e.fix _ _ h4 rfl, h5, h6, h7⟩, h8, h9.elim (fun z => .inl (e.dk _ _ z n2)) (fun ⟨o, z⟩ => .inr ⟨o, e.frz _ _ _ z⟩), h10, fun i f a g1 g2 => by
    obtain ⟨t, h12, h13⟩ := h11 i f a g1 g2
    exact ⟨t, e.fix _ _ h12 rfl, SqT.ext h13 e⟩⟩
/-- the law's feasts and the program's, as they stand -/
structure LF (K : PySem.W.Frag) (dq : Addr) (H : Hp) (o x c fq mp : Addr) (Y : Yr) (fd : Addr) (fs : List Fe) (as as2 : List Addr) : Prop where
  own : OwnF K dq H o Y fd fs as
  law : LawF Y (.ref mp) fs
  f : FsOk K H x c fq (.ref mp) Y fs as2
  d : H fq = some (.dK (kvF fs as2))
  w60 : Y.W ≤ 60
  len : fs.length ≤ 8
  sok : ∀ fe ∈ fs, PyData.canLay0 (.str fe.name) = true
  q1 : fq ≠ dq
  q2 : fq ≠ o
  q3 : fd ≠ fq
  q4 : fd ≠ o
  ol : ∃ kvs, H o = some (.dK kvs) ∧ kvs.length ≤ 20
theorem LF.ext {dq : Addr} {H H' : Hp} {o x c fq mp fd : Addr} {Y : Yr} {fs : List Fe} {as as2 : List Addr} (F : LF K dq H o x c fq mp Y fd fs as as2) (e : Ext (TT K) (· = dq) H H') : LF K dq H' o x c fq mp Y fd fs as as2 :=
  ⟨F.own.ext e, F.law, F.f.ext e F.q1, e.dk _ _ F.d F.q1, F.w60, F.len, F.sok, F.q1, F.q2, F.q3, F.q4, let ⟨kvs, h1, h2⟩ := F.ol; ⟨kvs, e.dk _ _ h1 F.own.own.od, h2⟩⟩
theorem LF.falls {dq : Addr} {H : Hp} {o x c fq mp fd : Addr} {Y : Yr} {fs : List Fe} {as as2 : List Addr} (F : LF K dq H o x c fq mp Y fd fs as as2) {nm : Str} {yn : Nat} {Q : VK} {E : XK} (hm : nm ∈ fs.map (·.name)) (hy : yn ≤ 50)
    (hQ : ∀ H', Ext (TT K) No H H' → Q (optV (fallV Y fs (8 + 1) nm yn)) H') : spFalls K 8 [.ref o, .str nm, .int (yn : Nat)] H Q E := by
  obtain ⟨fe, hfe, rfl⟩ := List.mem_map.mp hm
  obtain ⟨i, hi⟩ := List.getElem?_of_mem hfe
  have := (List.getElem?_eq_some_iff.mp hi).1
  have := F.len
  exact ⟨dq, o, fd, .ref mp, Y, fs, as, fe.name, yn, i, fe, rfl, F.own, F.law, hy, hi, rfl, by omega, hQ⟩
theorem LF.db {dq : Addr} {H : Hp} {o x c fq mp fd : Addr} {Y : Yr} {fs : List Fe} {as as2 : List Addr} (F : LF K dq H o x c fq mp Y fd fs as as2) {y : Nat} (hy : y ≤ 51) : MM.db Y.rs (MM.sh Y.ms) y ≤ 200000 := by
  have h2 := F.law.ms.sh0.2
  have h3 := MM.cn_le (MM.isLong Y.rs) y
  have e : y * MM.sh Y.ms ≤ 51 * 1200 := Nat.mul_le_mul hy h2
  have e2 : MM.sh Y.ms * y ≤ 1200 * 51 := Nat.mul_le_mul h2 hy
  unfold MM.db
  omega
theorem ints_sh (l : List Int) : SeqAt.shaped (.list (l.map PyData.int)) = true := (ShK.lst (k := 0) fun d hd => by
  obtain ⟨r, _, rfl⟩ := List.mem_map.mp hd
  exact ShK.int _ _).ok
theorem neInts {H : Hp} {p q : Addr} {l : List Int} {Q : VK} (h1 : H p = some (.lst (l.map V.int))) (h2 : H q = some (.lst (l.map V.int))) (h : Q (.bl false) H) : rNeD K (.ref p) (.ref q) H Q := by
  refine ⟨.list (l.map PyData.int), .list (l.map PyData.int), dpInts h1, dpInts h2, ints_sh _, ints_sh _, ?_⟩
  have e : PyData.eqv (.list (l.map PyData.int)) (.list (l.map PyData.int)) = true := (eqvAll_map eqv_int l l).trans (by simp)
  rw [e]
  exact h
theorem neNil {H : Hp} {p q : Addr} {l : List Int} {Q : VK} (h1 : H p = some (.lst (l.map V.int))) (h2 : H q = some (.lst [])) (h : Q (.bl (decide (l ≠ []))) H) : rNeD K (.ref p) (.ref q) H Q := by
  refine ⟨.list (l.map PyData.int), .list (([] : List Int).map PyData.int), dpInts h1, dpInts (ns := []) h2, ints_sh _, ints_sh [], ?_⟩
  have e : PyData.eqv (.list (l.map PyData.int)) (.list (([] : List Int).map PyData.int)) = decide (l = []) := (eqvAll_map eqv_int l [])
  rw [e]
  have e2 : (!decide (l = [])) = decide (l ≠ []) := by simp
  rw [e2]
  exact h
theorem min_one {l : List Int} {a b : Int} (h1 : a ∈ l) (h2 : ∀ y ∈ l, a ≤ y) (g1 : b ∈ l) (g2 : ∀ y ∈ l, b ≤ y) : a = b := by
  have := h2 _ g1
  have := g2 _ h1
  omega
theorem min_ex : ∀ {l : List Int}, l ≠ [] → ∃ m, m ∈ l ∧ ∀ y ∈ l, m ≤ y
  | [], h => absurd rfl h
  | [a], _ => ⟨a, by simp, by simp⟩
  | a :: b :: l, _ => by
    obtain ⟨m, h1, h2⟩ := min_ex (l := b :: l) (by simp)
    by_cases q : a ≤ m
    · refine ⟨a, by simp, fun y hy => ?_⟩
      rcases List.mem_cons.mp hy with rfl | hy
      · exact Int.le_refl _
      · exact Int.le_trans q (h2 y hy)
    · refine ⟨m, List.mem_cons_of_mem _ h1, fun y hy => ?_⟩
      rcases List.mem_cons.mp hy with rfl | hy
      · omega
      · exact h2 y hy
theorem max_one {l : List Int} {a b : Int} (h1 : a ∈ l) (h2 : ∀ y ∈ l, y ≤ a) (g1 : b ∈ l) (g2 : ∀ y ∈ l, y ≤ b) : a = b := by
  have := h2 _ g1
  have := g2 _ h1
  omega
def BothAt (H : Hp) (ps : List Addr) (Y : Yr) (fs : List Fe) (n1 n2 : Str) (yn m : Nat) : Prop := ps.length = m ∧ ∀ (i : Nat) (p : Addr), ps[i]? = some p → H p = some (.tup [optV (fallV Y fs (8 + 1) n1 (yn + i)), optV (fallV Y fs (8 + 1) n2 (yn + i)), .int ((yn + i : Nat) : Int)])
theorem BothAt.ext {T : Tb} {M : Addr → Prop} {H H' : Hp} {ps : List Addr} {Y : Yr} {fs : List Fe} {n1 n2 : Str} {yn m : Nat} (h : BothAt H ps Y fs n1 n2 yn m) (e : Ext T M H H') : BothAt H' ps Y fs n1 n2 yn m := ⟨h.1, fun i p g => e.fix _ _ (h.2 i p g) rfl⟩
theorem BothAt.snoc {H : Hp} {ps : List Addr} {Y : Yr} {fs : List Fe} {n1 n2 : Str} {yn m : Nat} {p : Addr} (h : BothAt H ps Y fs n1 n2 yn m) (hp : H p = some (.tup [optV (fallV Y fs (8 + 1) n1 (yn + m)), optV (fallV Y fs (8 + 1) n2 (yn + m)), .int ((yn + m : Nat) : Int)])) : BothAt H (ps ++ [p]) Y fs n1 n2 yn (m + 1) := by
  refine ⟨by simp [h.1], fun i q g => ?_⟩
  rcases Nat.lt_or_ge i ps.length with z | z
  · rw [List.getElem?_append_left z] at g
    exact h.2 i q g
  · have hi : i = ps.length := by
      have := (List.getElem?_eq_some_iff.mp g).1
      rw [List.length_append] at this
      simp at this
      omega
    subst hi
    rw [List.getElem?_append_right (Nat.le_refl _), Nat.sub_self] at g
    cases g
    rw [h.1]
    exact hp
theorem scal_opt (a b : Option Int) : scal (optV a) (optV b) = true := by cases a <;> cases b <;> rfl
theorem optV_non {o : Option Int} : (optV o = V.non) ↔ o = none := by cases o <;> simp [optV]
theorem optV_inj {a b : Option Int} : (optV a = optV b) ↔ a = b := by cases a <;> cases b <;> simp [optV]
theorem law_G (T : Tx K mg base) (tk : TOk (TT K)) (tl : LamNe K) (A : Around) (outer : List Env) (s : Shared) (H0 : Hp) (E : XK) (hr : Room 79 (A.deeper (envOfC "law" (defScope s_law) s.heap.objs.size (He.fAd K ("law", none)) (.ref (He.cT K ("law", none)).1)))) :
    ∃ t, PSs (cxOf (L2.CX P w) P w K mg base ["script", "dice", "own", "parts", "calendar", "moons", "feasts", "step", "name", "kind", "things", "good", "year", "last", "rows", "place", "day", "names", "one", "other", "both", "k", "a", "b", "days"] "law" (defScope s_law) (He.fAd K ("law", none)) (.ref (He.cT K ("law", none)).1) A outer s H0 E) (lawBody.drop 12) t ∧
      ∀ (D : Ends) (v_parts v_step v_name v_kind v_things v_good v_rows v_place v_day v_names v_one v_other v_both v_k v_a v_b v_days : Option V) (a dq p0 : Addr) (o x c fq mp : Addr) (Y : Yr) (fd : Addr) (fs : List Fe) (as as2 : List Addr) (yn l : Nat) (H' : Hp), Gd (TT K) H' → DiceAt H' dq → H' p0 = some (.lst [.ref dq]) → p0 ≠ dq → LF K dq H' o x c fq mp Y fd fs as as2 → H' fd = some (.dK (kvF fs as)) → yn < 12 → l < 12 →  (∀ σ2 H2, Gd (TT K) H2 → H2 p0 = some (.lst [.ref dq]) → D.nx σ2 H2) → t D [some (.ref a), some (.ref dq), some (.ref o), v_parts, some (.ref c), some (.ref mp), some (.ref x), v_step, v_name, v_kind, v_things, v_good, some (.int (yn : Nat)), some (.int (l : Nat)), v_rows, v_place, v_day, v_names, v_one, v_other, v_both, v_k, v_a, v_b, v_days] H' := by
  obtain ⟨oc, od, dV, kV, doc, pm, an, cdv, ct, osl, efd, lk, hcg, hDf, _⟩ := T.F_law_told.ex
  have hbt := bi_law_told T
  rw [efd] at hbt
  rw [efd] at lk
  have ok_Calendar_short := fun T : Tx K mg base => ok_Calendar_short (P := P) (w := w) T tk
  have ok_Feasts_nth := fun T : Tx K mg base => ok_Feasts_nth (P := P) (w := w) T tk
  have ok_Feasts_day := fun T : Tx K mg base => ok_Feasts_day (P := P) (w := w) T tk 8
  have ok_Feasts_meet := fun T : Tx K mg base => ok_Feasts_meet (P := P) (w := w) T tk 8
  have ok_Feasts_spread := fun T : Tx K mg base => ok_Feasts_spread (P := P) (w := w) T tk 8
  have ok_Feasts_year := fun T : Tx K mg base => ok_Feasts_year (P := P) (w := w) T tk 8
  have ok_law_falls := fun T : Tx K mg base => ok_law_falls (P := P) (w := w) T tk 8
  refine ⟨_, (pss_cons (ps_set (i := 17) sc_law.nd rfl (Or.inl rfl) (pe_callB (MB.call_sortDS (T := TT K) rfl) rfl T.b_sorted (by decide +kernel) (pa_cons (pe_dget (Nat.lt_of_le_of_lt (Nat.add_le_add_left (by decide) _) hr.units) (pv 2) pe_str (fun _ _ => rfl)) pa_nil)))
 (pss_one (ps_for (passes_of rfl) rfl (pi_listK (K := K) rfl (pe_slice (sl_listNK (T := TT K) (K := K) rfl) (pv 17) po_none (po_some pe_int))) (pg_name (i := 18) sc_law.nd rfl (Or.inr rfl)) (pss_cons (ps_for (passes_of rfl) rfl (pi_listK (K := K) rfl (pe_slice (sl_listNK (T := TT K) (K := K) rfl) (pv 17) po_none (po_some pe_int))) (pg_name (i := 19) sc_law.nd rfl (Or.inr rfl)) (pss_cons (ps_setLc (i := 20) rfl sc_law.nd rfl rfl rfl (pi_range2 rfl T.b_range (pa_cons (pv 12) (pa_cons (pe_op op_add (pv 12) (pv 13)) pa_nil))) (blkOk_by (N := ["script", "dice", "own", "parts", "calendar", "moons", "feasts", "step", "name", "kind", "things", "good", "year", "last", "rows", "place", "day", "names", "one", "other", "both", "k", "a", "b", "days"]) (sc := defScope s_law) (own := [("k", 21)]) (by decide +kernel)) (fun _ _ _ _ _ => (pg_name (i := 21) sc_law.nd rfl (by first | exact Or.inl rfl | exact Or.inr rfl))) (fun _ _ _ _ _ => pts_nil) (fun _ _ _ _ _ => (pe_tupN (T := TT K) (pa_cons (pe_call (ok_law_falls T) (hr.mono (by first | decide | omega)) rfl T.g_law_falls T.F_law_falls.kp (bi_law_falls T) .nil passL (pa_cons (pv 2) (pa_cons (pv 18) (pa_cons (pv 21) pa_nil)))) (pa_cons (pe_call (ok_law_falls T) (hr.mono (by first | decide | omega)) rfl T.g_law_falls T.F_law_falls.kp (bi_law_falls T) .nil passL (pa_cons (pv 2) (pa_cons (pv 19) (pa_cons (pv 21) pa_nil)))) (pa_cons (pv 21) pa_nil))))))
 (pss_one (ps_if (pt_cmpR (op_neDK (K := K) rfl hr.units) (pe_callTy (MB.call_listN (T := TT K) (K := K) rfl) rfl T.b_list (by decide +kernel) (pa_cons (pe_meth (pv 6) T.c_Feasts T.m_Feasts_meet (ok_Feasts_meet T) (hr.mono (by first | decide | omega)) (bi_Feasts_meet T) .nil (passes_call (takes_of rfl rfl rfl rfl) fun _ _ _ _ h => h) (pa_cons (pv 18) (pa_cons (pv 19) (pa_cons (pv 12) (pa_cons (pe_op op_sub (pe_op op_add (pv 12) (pv 13)) pe_int) pa_nil))))) pa_nil)) (pe_lc rfl sc_law.nd (pi_listK (K := K) rfl (pv 20)) (blkOk_by (N := ["script", "dice", "own", "parts", "calendar", "moons", "feasts", "step", "name", "kind", "things", "good", "year", "last", "rows", "place", "day", "names", "one", "other", "both", "k", "a", "b", "days"]) (sc := defScope s_law) (own := [("a", 22), ("b", 23), ("k", 21)]) (by decide +kernel)) (fun _ _ _ _ _ => (pg_tupK (K := K) (n := 3) rfl rfl (pgs_cons (pg_name (i := 22) sc_law.nd rfl (by first | exact Or.inl rfl | exact Or.inr rfl)) (pgs_cons (pg_name (i := 23) sc_law.nd rfl (by first | exact Or.inl rfl | exact Or.inr rfl)) (pgs_cons (pg_name (i := 21) sc_law.nd rfl (by first | exact Or.inl rfl | exact Or.inr rfl)) pgs_nil))))) (fun _ _ _ _ _ => (pts_one (PW.pt (pw_and (pt_cmpR op_notN (pv 22) pe_non (nomark _)) (pw_and1 (pt_cmpR op_eq (pv 22) (pv 23) (nomark _))))))) (fun _ _ _ _ _ => (pv 21))) (nomark _)) (pss_one (ps_ret pe_bl)) pss_nil))))
 (pss_cons (ps_setLc (i := 24) rfl sc_law.nd rfl rfl rfl (pi_range2 rfl T.b_range (pa_cons (pv 12) (pa_cons (pe_op op_add (pv 12) (pv 13)) pa_nil))) (blkOk_by (N := ["script", "dice", "own", "parts", "calendar", "moons", "feasts", "step", "name", "kind", "things", "good", "year", "last", "rows", "place", "day", "names", "one", "other", "both", "k", "a", "b", "days"]) (sc := defScope s_law) (own := [("k", 21)]) (by decide +kernel)) (fun _ _ _ _ _ => (pg_name (i := 21) sc_law.nd rfl (by first | exact Or.inl rfl | exact Or.inr rfl))) (fun _ _ _ _ _ => (pts_one (pt_cmpR op_notN (pe_call (ok_law_falls T) (hr.mono (by first | decide | omega)) rfl T.g_law_falls T.F_law_falls.kp (bi_law_falls T) .nil passL (pa_cons (pv 2) (pa_cons (pv 18) (pa_cons (pv 21) pa_nil)))) pe_non (nomark _)))) (fun _ _ _ _ _ => (pe_op op_sub (pe_call (ok_law_falls T) (hr.mono (by first | decide | omega)) rfl T.g_law_falls T.F_law_falls.kp (bi_law_falls T) .nil passL (pa_cons (pv 2) (pa_cons (pv 18) (pa_cons (pv 21) pa_nil)))) (pe_call (ok_law_start T) (hr.mono (by first | decide | omega)) rfl T.g_law_start T.F_law_start.kp (bi_law_start T) .nil passL (pa_cons (pv 2) (pa_cons (pv 21) pa_nil))))))
 (pss_one (ps_if (pt_cmpR (op_neDK (K := K) rfl hr.units) (pe_meth (pv 6) T.c_Feasts T.m_Feasts_spread (ok_Feasts_spread T) (hr.mono (by first | decide | omega)) (bi_Feasts_spread T) .nil (passes_call (takes_of rfl rfl rfl rfl) fun _ _ _ _ h => h) (pa_cons (pv 18) (pa_cons (pv 12) (pa_cons (pe_op op_sub (pe_op op_add (pv 12) (pv 13)) pe_int) pa_nil)))) (pe_ifExp (pt_cmpR (op_neDK (K := K) rfl hr.units) (pv 24) (pe_lstN (T := TT K) pa_nil) (nomark _)) (pe_tupN (T := TT K) (pa_cons (pe_callB (MB.cr_minK (K := K) rfl rfl) rfl T.b_min (by decide +kernel) (pa_cons (pv 24) pa_nil)) (pa_cons (pe_callB (MB.cr_maxK (K := K) rfl rfl) rfl T.b_max (by decide +kernel) (pa_cons (pv 24) pa_nil)) pa_nil))) pe_non) (nomark _)) (pss_one (ps_ret pe_bl)) pss_nil))))))), ?_⟩
  intro D v_parts v_step v_name v_kind v_things v_good v_rows v_place v_day v_names v_one v_other v_both v_k v_a v_b v_days a dq p0 o x c fq mp Y fd fs as as2 yn l H' gd dice hp0 hpd F hfd hyn hl hD
  obtain ⟨_, _, _, gw, gf, gF⟩ := F.own.get
  have hlen := F.own.len
  have hf8 := F.len
  walk_at "s"
  refine ⟨_, _, rfl, gF, ?_⟩
  walk_at "s"
  refine ⟨fd, kvF fs as, fs.map (·.name), rfl, F.own.fd_, by rw [kvF_names hlen, List.map_map]; rfl, by rw [List.length_map]; omega, fun ns nq H1 hperm hnq hv1 e1 => ?_⟩
  have hmem : ∀ n ∈ ns, n ∈ fs.map (·.name) := fun n hn => hperm.mem_iff.mp hn
  walk_at "s"
  refine ⟨_, _, rfl, SqL.of hv1, fun q2 H2 hq2 hv2 e2 => ?_⟩
  have hc2 : cutV (ns.map V.str) none (some 2) = (ns.take 2).map V.str := by
    rw [show (2 : Int) = ((2 : Nat) : Int) from rfl, cutTo, List.map_take]
  rw [hc2] at hv2
  refine ⟨q2, rfl, ⟨_, SqL.of hv2⟩, ?_⟩
  have e02 := e1.trans e2
  have F2 := F.ext e02.no
  have gd2 := e02.gd gd
  have hp2 := e02.lst _ _ hp0 id
  have hn2 := e2.lst _ _ hv1 id
  clear e1 e2 e02 hv1 hnq hq2 F gd hp0 dice hc2 hfd
  have LFn : ∀ {H'' : Hp}, Ext (TT K) No H2 H'' → LF K dq H'' o x c fq mp Y fd fs as as2 := fun e => F2.ext e.no
  refine for_list (xs := (ns.take 2).map V.str) (fun i σ' H' => ∃ (u1 u2 u3 u4 u5 u6 u7 : Option V), σ' = [some (.ref a), some (.ref dq), some (.ref o), v_parts, some (.ref c), some (.ref mp), some (.ref x), v_step, v_name, v_kind, v_things, v_good, some (.int (yn : Nat)), some (.int (l : Nat)), v_rows, v_place, v_day, some (.ref nq), u1, u2, u3, u4, u5, u6, u7] ∧ Ext (TT K) No H2 H') ⟨_, _, _, _, _, _, _, rfl, .refl⟩ (fun i σ' H' _ ⟨_, _, _, _, _, _, _, _, e⟩ => SqL.of (e.lst _ _ hv2 id)) ?_ ?_
  rotate_left
  · rintro σ' H' ⟨_, _, _, _, _, _, _, _, e⟩
    exact hD _ _ (e.gd gd2) (e.lst _ _ hp2 id)
  rintro i v σ' H3 hv ⟨u1, u2, u3, u4, u5, u6, u7, rfl, e3⟩
  obtain ⟨n1, hn1, rfl⟩ : ∃ n1, (ns.take 2)[i]? = some n1 ∧ v = .str n1 := by
    rw [List.getElem?_map] at hv
    cases g : (ns.take 2)[i]? with
    | none => rw [g] at hv; cases hv
    | some n1 => rw [g] at hv; cases hv; exact ⟨n1, rfl, rfl⟩
  have hm1 : n1 ∈ fs.map (·.name) := hmem _ (List.mem_of_mem_take (List.mem_of_getElem? hn1))
  clear hv hn1
  walk_at "s"
  refine ⟨_, _, rfl, SqL.of (e3.lst _ _ hn2 id), fun q4 H4 hq4 hv4 e4 => ?_⟩
  have hc3 : cutV (ns.map V.str) none (some 3) = (ns.take 3).map V.str := by
    rw [show (3 : Int) = ((3 : Nat) : Int) from rfl, cutTo, List.map_take]
  rw [hc3] at hv4
  refine ⟨q4, rfl, ⟨_, SqL.of hv4⟩, ?_⟩
  have E4 := e3.trans e4
  refine for_list (xs := (ns.take 3).map V.str) (fun i σ' H' => ∃ (u2 u3 u4 u5 u6 u7 : Option V), σ' = [some (.ref a), some (.ref dq), some (.ref o), v_parts, some (.ref c), some (.ref mp), some (.ref x), v_step, v_name, v_kind, v_things, v_good, some (.int (yn : Nat)), some (.int (l : Nat)), v_rows, v_place, v_day, some (.ref nq), some (.str n1), u2, u3, u4, u5, u6, u7] ∧ Ext (TT K) No H4 H') ⟨_, _, _, _, _, _, rfl, .refl⟩ (fun i σ' H' _ ⟨_, _, _, _, _, _, _, e⟩ => SqL.of (e.lst _ _ hv4 id)) ?_ ?_
  · clear u2 u3 u4 u5 u6 u7
    rintro i v σ' H5 hv ⟨u2, u3, u4, u5, u6, u7, rfl, e5⟩
    obtain ⟨n2, hn2, rfl⟩ : ∃ n2, (ns.take 3)[i]? = some n2 ∧ v = .str n2 := by
      rw [List.getElem?_map] at hv
      cases g : (ns.take 3)[i]? with
      | none => rw [g] at hv; cases hv
      | some n2 => rw [g] at hv; cases hv; exact ⟨n2, rfl, rfl⟩
    have hm2 : n2 ∈ fs.map (·.name) := hmem _ (List.mem_of_mem_take (List.mem_of_getElem? hn2))
    clear hv hn2
    have E5 := E4.trans e5
    walk_at "s"
    refine ⟨⟨by omega, by omega, by omega, by omega⟩, fun DD hDD => ?_⟩
    have hn : ((yn : Int) + (l : Int) - (yn : Int)).toNat = l := by omega
    rw [hn]
    refine lc_range (fun i H6 => ∃ ps, H6 DD = some (.lst (ps.map V.ref)) ∧ BothAt H6 ps Y fs n1 n2 yn i ∧ Ext (TT K) (· = DD) H5 H6) ⟨[], upd_same, ⟨rfl, fun i p z => by simp at z⟩, (Ext.new hDD).no⟩ ?_ ?_
    · rintro i H6 hi ⟨ps, h6, hb6, e6⟩
      have F6 := LFn (E5.trans (e6.mono1 (NoM.of hDD)))
      have ei : ((yn : Nat) : Int) + ((i : Nat) : Int) = ((yn + i : Nat) : Int) := by omega
      rw [ei]
      walk_at "s"
      try delta tNil
      try dsimp only
      show spFalls K 8 [.ref o, .str n1, .int ((yn + i : Nat) : Int)] H6 _ _
      refine F6.falls hm1 (by omega) fun H7 e7 => ?_
      walk_at "s"
      try delta tNil
      try dsimp only
      show spFalls K 8 [.ref o, .str n2, .int ((yn + i : Nat) : Int)] H7 _ _
      refine (F6.ext e7.no).falls hm2 (by omega) fun H8 e8 => ?_
      walk_at "s"
      refine ⟨sz, fun t9 H9 ht9 hv9 e9 => ?_⟩
      have e79 := e7.trans (e8.trans e9)
      have h9 := e79.lst _ _ h6 id
      have eS : Ext (TT K) (· = DD) H9 (upd H9 DD (.lst (ps.map V.ref ++ [V.ref t9]))) := Ext.set h9 rfl
      exact ⟨_, h9, by rw [List.length_map, hb6.1]; exact szl (by omega), ps ++ [t9], by rw [List.map_append]; exact upd_same, ((hb6.ext e79).ext eS).snoc (eS.fix _ _ hv9 rfl), (e6.trans e79.no).trans eS⟩
    · rintro H6 ⟨ps, h6, hb6, e6⟩
      have e6n := e6.mono1 (NoM.of hDD)
      have E6 := E5.trans e6n
      have F6 := LFn E6
      have gd6 := E6.gd gd2
      obtain ⟨dxf, lf⟩ := id F6.f.at_
      walk_at "s"
      refine ⟨_, _, _, rfl, lf, rfl, ?_⟩
      walk_at "s"
      try delta tNil
      try dsimp only
      show spMeet K 8 [.ref x, .str n1, .str n2, .int (yn : Nat), .int ((yn : Nat) + (l : Nat) - 1)] H6 _ _
      refine ⟨x, c, fq, .ref mp, Y, fs, as2, n1, n2, _, _, rfl, F6.f, gd6, by omega, .inr (.inr (.inr ⟨yn, l, rfl, rfl, by omega, by omega, F6.db (by omega), hm1, hm2, fun t7 H7 hT7 e7 => ?_⟩))⟩
      walk_at "s"
      refine ⟨_, _, rfl, .inr hT7, fun l8 H8 hl8 hv8 e8 => ?_⟩
      have e78 := e7.trans e8
      have h8 := e78.lst _ _ h6 id
      have hb8 := hb6.ext e78
      walk_at "s"
      refine ⟨⟨_, SqL.of h8⟩, fun DE hDE => ?_⟩
      have hDne : ¬ DD = DE := fun z => by rw [z, hDE] at h8; cases h8
      refine lc_list (xs := ps.map V.ref) (fun i H9 => H9 DE = some (.lst (yrsV yn (meetL Y fs 8 n1 n2 yn i))) ∧ Ext (TT K) (· = DE) H8 H9) ⟨upd_same, (Ext.new hDE).no⟩ (fun i H9 _ ⟨_, e⟩ => SqL.of (e.lst _ _ h8 hDne)) ?_ ?_
      · rintro i v H9 hv ⟨h9, e9⟩
        obtain ⟨p, hp, rfl⟩ : ∃ p, ps[i]? = some p ∧ v = .ref p := by
          rw [List.getElem?_map] at hv
          cases g : ps[i]? with
          | none => rw [g] at hv; cases hv
          | some p => rw [g] at hv; cases hv; exact ⟨p, rfl, rfl⟩
        have hip := (List.getElem?_eq_some_iff.mp hp).1
        have hpl := hb8.1
        have hp9 := e9.fix _ _ (hb8.2 i p hp) rfl
        have hml := meetL_len Y fs 8 n1 n2 yn i
        walk_at "s"
        refine ⟨_, _, rfl, SqT.of hp9, rfl, ?_⟩
        walk_at "s"
        rw [meetL_succ]
        refine ifB (fun q1 => ?_) (fun q1 => ?_)
        · have q1 : fallV Y fs (8 + 1) n1 (yn + i) ≠ none := fun z => by
            have q1 : (!decide (optV (fallV Y fs (8 + 1) n1 (yn + i)) = V.non)) = true := q1
            rw [z] at q1
            simp [optV] at q1
          walk_at "s"
          refine ⟨scal_opt _ _, ?_⟩
          walk_at "s"
          refine ifB (fun q2 => ?_) (fun q2 => ?_)
          · have q2 : fallV Y fs (8 + 1) n1 (yn + i) = fallV Y fs (8 + 1) n2 (yn + i) := optV_inj.mp (of_decide_eq_true q2)
            walk_at "s"
            rw [if_pos ⟨q1, q2⟩]
            refine ⟨_, h9, by rw [List.length_map]; exact szl (by omega), ?_, e9.trans (Ext.set h9 rfl)⟩
            rw [upd_same]
            unfold yrsV
            rw [List.map_append]
            rfl
          · have q2 : ¬ fallV Y fs (8 + 1) n1 (yn + i) = fallV Y fs (8 + 1) n2 (yn + i) := fun z => of_decide_eq_false q2 (optV_inj.mpr z)
            rw [if_neg fun z => q2 z.2, List.append_nil]
            exact ⟨h9, e9⟩
        · have q1 : fallV Y fs (8 + 1) n1 (yn + i) = none := optV_non.mp (by
            have q1 : (!decide (optV (fallV Y fs (8 + 1) n1 (yn + i)) = V.non)) = false := q1
            simpa using q1)
          rw [if_neg fun z => z.1 q1, List.append_nil]
          exact ⟨h9, e9⟩
      · rintro H9 ⟨h9, e9⟩
        rw [List.length_map, hb8.1] at h9
        have e9n := e9.mono1 (NoM.of hDE)
        have hyv : ∀ m : List Nat, yrsV yn m = (m.map fun k => ((yn + k : Nat) : Int)).map V.int := fun m => by rw [List.map_map]; rfl
        rw [hyv] at hv8 h9
        refine neInts (e9n.lst _ _ hv8 id) h9 ?_
        walk_at "s"
        refine ifB (fun z => by cases z) (fun _ => ?_)
        walk_at "s"
        exact ⟨_, _, _, _, _, _, rfl, e5.trans (e6n.trans (e78.trans e9n))⟩
  · clear u2 u3 u4 u5 u6 u7
    rintro σ' H5 ⟨u2, u3, u4, u5, u6, u7, rfl, e5⟩
    have E5 := E4.trans e5
    walk_at "s"
    refine ⟨⟨by omega, by omega, by omega, by omega⟩, fun DD hDD => ?_⟩
    have hn : ((yn : Int) + (l : Int) - (yn : Int)).toNat = l := by omega
    rw [hn]
    refine lc_range (fun i H6 => H6 DD = some (.lst ((sprL Y fs 8 n1 yn i).map V.int)) ∧ Ext (TT K) (· = DD) H5 H6) ⟨upd_same, (Ext.new hDD).no⟩ ?_ ?_
    · rintro i H6 hi ⟨h6, e6⟩
      have F6 := LFn (E5.trans (e6.mono1 (NoM.of hDD)))
      have ei : ((yn : Nat) : Int) + ((i : Nat) : Int) = ((yn + i : Nat) : Int) := by omega
      have hsl := sprL_len Y fs 8 n1 yn i
      rw [ei]
      walk_at "s"
      try delta tNil
      try dsimp only
      show spFalls K 8 [.ref o, .str n1, .int ((yn + i : Nat) : Int)] H6 _ _
      refine F6.falls hm1 (by omega) fun H7 e7 => ?_
      rw [sprL_succ]
      cases hfv : fallV Y fs (8 + 1) n1 (yn + i) with
      | none =>
        walk_at "s"
        rw [Option.map_none, Option.toList_none, List.append_nil]
        exact ⟨e7.lst _ _ h6 id, e6.trans e7.no⟩
      | some d =>
        walk_at "s"
        try delta tNil
        try dsimp only
        show spFalls K 8 [.ref o, .str n1, .int ((yn + i : Nat) : Int)] H7 _ _
        have F7 := F6.ext e7.no
        refine F7.falls hm1 (by omega) fun H8 e8 => ?_
        rw [hfv]
        walk_at "s"
        refine ⟨dq, o, Y.ms, Y.lg, Y.rs, yn + i, rfl, (F7.ext e8.no).own.own, F7.law.ms, fun r hr => (F7.law.ov.ok.rng r hr).1, by omega, fun H9 e9 => ?_⟩
        walk_at "s"
        have e79 := e7.trans (e8.trans e9)
        have h9 := e79.lst _ _ h6 id
        refine ⟨_, h9, by rw [List.length_map]; exact szl (by omega), ?_, (e6.trans e79.no).trans (Ext.set h9 rfl)⟩
        rw [upd_same, List.map_append]
        rfl
    · rintro H6 ⟨h6, e6⟩
      have e6n := e6.mono1 (NoM.of hDD)
      have E6 := E5.trans e6n
      have F6 := LFn E6
      have gd6 := E6.gd gd2
      obtain ⟨dxf, lf⟩ := id F6.f.at_
      walk_at "s"
      refine ⟨_, _, _, rfl, lf, rfl, ?_⟩
      walk_at "s"
      try delta tNil
      try dsimp only
      show spSpr K 8 [.ref x, .str n1, .int (yn : Nat), .int ((yn : Nat) + (l : Nat) - 1)] H6 _ _
      generalize hL : sprL Y fs 8 n1 yn l = L at h6
      refine ⟨x, c, fq, .ref mp, Y, fs, as2, n1, _, _, rfl, F6.f, gd6, by omega, .inr (.inr ⟨yn, l, rfl, rfl, by omega, by omega, F6.db (by omega), hm1, fun z H7 e7 => ?_, fun lo hi hlo hle hhi hge t7 H7 hv7 e7 => ?_⟩)⟩
      · rw [hL] at z
        subst z
        walk_at "s"
        refine ⟨sz, fun t8 H8 ht8 hv8 e8 => ?_⟩
        refine neNil (l := []) ((e7.trans e8).lst _ _ h6 id) hv8 ?_
        walk_at "s"
        refine ifB (fun z => by simp at z) (fun _ => ?_)
        walk_at "s"
        refine ⟨.none, .none, .non, .non, rfl, rfl, ?_⟩
        walk_at "s"
        refine ifB (fun z => by cases z) (fun _ => ?_)
        walk_at "s"
        exact ⟨_, _, _, _, _, _, _, rfl, E6.trans (e7.trans e8)⟩
      · rw [hL] at hlo hle hhi hge
        have L0 : L ≠ [] := fun z => by rw [z] at hlo; cases hlo
        walk_at "s"
        refine ⟨sz, fun t8 H8 ht8 hv8 e8 => ?_⟩
        have e78 := e7.trans e8
        have h8 := e78.lst _ _ h6 id
        refine neNil (l := L) h8 hv8 ?_
        walk_at "s"
        refine ifB (fun _ => ?_) (fun z => absurd L0 (of_decide_eq_false z))
        have Lp : 0 < L.length := List.length_pos_iff.mpr L0
        walk_at "s"
        refine ⟨DD, L, rfl, SqL.of h8, Lp, fun m hm hme => ?_⟩
        obtain rfl := min_one hlo hle hm hme
        walk_at "s"
        refine ⟨DD, L, rfl, SqL.of h8, Lp, fun m hm hme => ?_⟩
        obtain rfl := max_one hhi hge hm hme
        walk_at "s"
        refine ⟨sz, fun t9 H9 ht9 hv9 e9 => ?_⟩
        refine ⟨.tuple [.int lo, .int hi], .tuple [.int lo, .int hi], .tup (SqT.of ((e8.trans e9).fix _ _ hv7 rfl)) (.cons (.int _) (.cons (.int _) .nil)), .tup (SqT.of hv9) (.cons (.int _) (.cons (.int _) .nil)), by rfl, by rfl, ?_⟩
        have eqq : PyData.eqv (.tuple [.int lo, .int hi]) (.tuple [.int lo, .int hi]) = true := eqvAll_map (g := PyData.int) eqv_int [lo, hi] [lo, hi] |>.trans (by simp)
        rw [eqq]
        walk_at "s"
        refine ifB (fun z => by cases z) (fun _ => ?_)
        walk_at "s"
        exact ⟨_, _, _, _, _, _, _, rfl, E6.trans (e78.trans e9)⟩
end K60

set_option Elab.async false
set_option linter.all false
set_option maxRecDepth 100000
set_option maxHeartbeats 2000000
namespace K60
open PySem PySem.Spec PyProof.Rows L2 MB
local macro_rules | `(tactic| walk_at "s") => `(tactic| repeat (first | refine ⟨_, rfl, ?_⟩ | refine ⟨_, _, rfl, rfl, ?_⟩ | refine ⟨_, _, rfl, ?_⟩ | refine ⟨rfl, ?_⟩))
variable {P : Program} {w : World} {K : PySem.W.Frag} {mg : Str → Option Value} {base : Heap}
theorem OwnF.lock {dq o fd : Addr} {H H' : Hp} {Y : Yr} {fs : List Fe} {as : List Addr} {od : Obj} (h : OwnF K dq H o Y fd fs as) (e : Ext (TT K) (· = fd) H H') (hd : H fd = some (.dK (kvF fs as))) (hz : Rd H' fd (.dK (kvF fs as))) (n : fd ≠ o) : OwnF K dq H' o Y fd fs as := by
  have nl : ∀ b xs, b = fd → H b ≠ some (.lst xs) := fun b xs z q => by rw [z, hd] at q; cases q
  obtain ⟨h1, ⟨kvs, mt, h2, h3, h4, h5, h6, h7⟩, h8, h9, h10, h11⟩ := h
  exact ⟨h1.extM e (Ne.symm n) nl, ⟨kvs, mt, e.dk _ _ h2 (Ne.symm n), h3, e.fix _ _ h4 rfl, h5, h6, h7⟩, h8, hz, h10, fun i f a g1 g2 => by
    obtain ⟨t, h12, h13⟩ := h11 i f a g1 g2
    exact ⟨t, e.fix _ _ h12 rfl, SqT.ext h13 e⟩⟩
theorem LF.lock {dq : Addr} {H H' : Hp} {o x c fq mp fd : Addr} {Y : Yr} {fs : List Fe} {as as2 : List Addr} {od : Obj} (F : LF K dq H o x c fq mp Y fd fs as as2) (e : Ext (TT K) (· = fd) H H') (hd : H fd = some (.dK (kvF fs as))) (hz : Rd H' fd (.dK (kvF fs as))) : LF K dq H' o x c fq mp Y fd fs as as2 :=
  ⟨F.own.lock (od := od) e hd hz F.q4, F.law, F.f.ext e (Ne.symm F.q3), e.dk _ _ F.d (Ne.symm F.q3), F.w60, F.len, F.sok, F.q1, F.q2, F.q3, F.q4, let ⟨kvs, h1, h2⟩ := F.ol; ⟨kvs, e.dk _ _ h1 (Ne.symm F.q4), h2⟩⟩
theorem RowsAt.sub {H H' : Hp} {ps : List Addr} {rs : List Row} (h : RowsAt H ps rs) (k : ∀ q a, H q = some (.tup a) → H' q = some (.tup a)) : RowsAt H' ps rs := ⟨h.1, fun i p r h1 h2 => k _ _ (h.2 i p r h1 h2)⟩
def rowD2 (r : Row) : PyData := .tuple [.int r.1, .str r.2.2]
def Rows2 (H : Hp) (ps : List Addr) (rs : List Row) : Prop := ps.length = rs.length ∧ ∀ (i : Nat) (p : Addr) (r : Row), ps[i]? = some p → rs[i]? = some r → H p = some (.tup [.int r.1, .str r.2.2])
theorem Rows2.ext {T : Tb} {M : Addr → Prop} {H H' : Hp} {ps : List Addr} {rs : List Row} (h : Rows2 H ps rs) (e : Ext T M H H') : Rows2 H' ps rs := ⟨h.1, fun i p r h1 h2 => e.fix _ _ (h.2 i p r h1 h2) rfl⟩
theorem Rows2.dp {H : Hp} {ps : List Addr} {rs : List Row} (h : Rows2 H ps rs) : DpAll K H (ps.map V.ref) (rs.map rowD2) := by
  refine dpAll_get (by simp [h.1]) fun i x d h1 h2 => ?_
  rw [List.getElem?_map] at h1 h2
  cases e1 : ps[i]? with
  | none => rw [e1] at h1; cases h1
  | some t =>
    cases e2 : rs[i]? with
    | none => rw [e2] at h2; cases h2
    | some r =>
      rw [e1] at h1
      rw [e2] at h2
      cases h1
      cases h2
      exact .tup (SqT.of (h.2 i t r e1 e2)) (.cons (.int _) (.cons (.str _) .nil))
theorem rowD2_eq (r : Row) : PyData.eqv (rowD2 r) (rowD2 r) = true := by
  show ((_ == _) && ((_ == _) && true)) = true
  simp
theorem rows2_eq : ∀ rs : List Row, PyData.eqvAll (rs.map rowD2) (rs.map rowD2) = true
  | [] => rfl
  | r :: rs => by
    show (PyData.eqv (rowD2 r) (rowD2 r) && PyData.eqvAll (rs.map rowD2) (rs.map rowD2)) = true
    rw [rowD2_eq, rows2_eq rs]
    rfl
theorem rows2_sh {rs : List Row} (h : ∀ r ∈ rs, PyData.canLay0 (.str r.2.2) = true) : SeqAt.shaped (.list (rs.map rowD2)) = true := (ShK.lst (k := 1) fun d hd => by
  obtain ⟨r, hr, rfl⟩ := List.mem_map.mp hd
  exact ShK.tup (k := 0) fun d hd => by
    simp only [List.mem_cons, List.not_mem_nil, or_false] at hd
    rcases hd with rfl | rfl
    · exact ShK.int _ _
    · exact ⟨h r hr, Nat.zero_le _⟩).ok
theorem neRows2 {H : Hp} {p q : Addr} {ps qs : List Addr} {rs : List Row} {Q : VK} (hs : ∀ r ∈ rs, PyData.canLay0 (.str r.2.2) = true) (h1 : H p = some (.lst (ps.map V.ref))) (h2 : H q = some (.lst (qs.map V.ref))) (g1 : Rows2 H ps rs) (g2 : Rows2 H qs rs) (h : Q (.bl false) H) : rNeD K (.ref p) (.ref q) H Q := by
  refine ⟨.list (rs.map rowD2), .list (rs.map rowD2), .lst (SqL.of h1) g1.dp, .lst (SqL.of h2) g2.dp, rows2_sh hs, rows2_sh hs, ?_⟩
  have e : PyData.eqv (.list (rs.map rowD2)) (.list (rs.map rowD2)) = true := rows2_eq rs
  rw [e]
  exact h
theorem rowsY_mem {Y : Yr} {fs : List Fe} {n y k : Nat} {r : Row} (h : r ∈ rowsY Y fs n y k) : ∃ fe ∈ fs, r.2.2 = fe.name := by
  unfold rowsY at h
  obtain ⟨i, _, hi⟩ := List.mem_filterMap.mp h
  cases g : fs[i]? with
  | none => rw [g] at hi; cases hi
  | some fe =>
    rw [g] at hi
    obtain ⟨d, _, rfl⟩ := Option.map_eq_some_iff.mp hi
    exact ⟨fe, List.mem_of_getElem? g, rfl⟩
theorem law_F (T : Tx K mg base) (tk : TOk (TT K)) (tl : LamNe K) (A : Around) (outer : List Env) (s : Shared) (H0 : Hp) (E : XK) (hr : Room 79 (A.deeper (envOfC "law" (defScope s_law) s.heap.objs.size (He.fAd K ("law", none)) (.ref (He.cT K ("law", none)).1)))) :
    ∃ t, PSs (cxOf (L2.CX P w) P w K mg base ["script", "dice", "own", "parts", "calendar", "moons", "feasts", "step", "name", "kind", "things", "good", "year", "last", "rows", "place", "day", "names", "one", "other", "both", "k", "a", "b", "days"] "law" (defScope s_law) (He.fAd K ("law", none)) (.ref (He.cT K ("law", none)).1) A outer s H0 E) (lawBody.drop 9) t ∧
      ∀ (D : Ends) (v_parts v_step v_name v_kind v_things v_good v_rows v_place v_day v_names v_one v_other v_both v_k v_a v_b v_days : Option V) (a dq p0 : Addr) (o x c fq mp : Addr) (Y : Yr) (fd : Addr) (fs : List Fe) (as as2 : List Addr) (yn l : Nat) (H' : Hp), Gd (TT K) H' → DiceAt H' dq → H' p0 = some (.lst [.ref dq]) → p0 ≠ dq → LF K dq H' o x c fq mp Y fd fs as as2 → H' fd = some (.dK (kvF fs as)) → yn < 12 → l < 12 →  (∀ σ2 H2, Gd (TT K) H2 → H2 p0 = some (.lst [.ref dq]) → D.nx σ2 H2) → t D [some (.ref a), some (.ref dq), some (.ref o), v_parts, some (.ref c), some (.ref mp), some (.ref x), v_step, v_name, v_kind, v_things, v_good, some (.int (yn : Nat)), some (.int (l : Nat)), v_rows, v_place, v_day, v_names, v_one, v_other, v_both, v_k, v_a, v_b, v_days] H' := by
  obtain ⟨oc, od, dV, kV, doc, pm, an, cdv, ct, osl, efd, lk, hcg, hDf, _⟩ := T.F_law_told.ex
  have hbt := bi_law_told T
  rw [efd] at hbt
  rw [efd] at lk
  have ok_Calendar_short := fun T : Tx K mg base => ok_Calendar_short (P := P) (w := w) T tk
  have ok_Feasts_nth := fun T : Tx K mg base => ok_Feasts_nth (P := P) (w := w) T tk
  have ok_Feasts_day := fun T : Tx K mg base => ok_Feasts_day (P := P) (w := w) T tk 8
  have ok_Feasts_meet := fun T : Tx K mg base => ok_Feasts_meet (P := P) (w := w) T tk 8
  have ok_Feasts_spread := fun T : Tx K mg base => ok_Feasts_spread (P := P) (w := w) T tk 8
  have ok_Feasts_year := fun T : Tx K mg base => ok_Feasts_year (P := P) (w := w) T tk 8
  have ok_law_falls := fun T : Tx K mg base => ok_law_falls (P := P) (w := w) T tk 8
  refine ⟨_, (pss_cons (ps_set (i := 14) sc_law.nd rfl (Or.inl rfl) (pe_lstN (T := TT K) pa_nil))
 (pss_cons (ps_lock (ps_for (passes_of rfl) rfl (ME.pi_enumD rfl T.b_enumerate (pa_cons (pe_dget (Nat.lt_of_le_of_lt (Nat.add_le_add_left (by decide) _) hr.units) (pv 2) pe_str (fun _ _ => rfl)) pa_nil)) (pg_tupK (K := K) (n := 2) rfl rfl (pgs_cons (pg_name (i := 15) sc_law.nd rfl (Or.inl rfl)) (pgs_cons (pg_name (i := 8) sc_law.nd rfl (Or.inr rfl)) pgs_nil))) (pss_cons (ps_set (i := 16) sc_law.nd rfl (Or.inl rfl) (pe_call (ok_law_falls T) (hr.mono (by first | decide | omega)) rfl T.g_law_falls T.F_law_falls.kp (bi_law_falls T) .nil (passes_call (takes_of rfl rfl rfl rfl) fun _ _ _ _ h => h) (pa_cons (pv 2) (pa_cons (pv 8) (pa_cons (pv 12) pa_nil)))))
 (pss_cons (ps_if (pt_cmpR op_ne (pe_meth (pv 6) T.c_Feasts T.m_Feasts_day (ok_Feasts_day T) (hr.mono (by first | decide | omega)) (bi_Feasts_day T) .nil (passes_call (takes_of rfl rfl rfl rfl) fun _ _ _ _ h => h) (pa_cons (pv 8) (pa_cons (pv 12) pa_nil))) (pv 16) (nomark _)) (pss_one (ps_ret pe_bl)) pss_nil)
 (pss_one (ps_set (i := 14) sc_law.nd rfl (Or.inl rfl) (pe_op (op_catN (T := TT K)) (pv 14) (pe_op (op_repN (T := TT K)) (pe_lstN (T := TT K) (pa_cons (pe_tupN (T := TT K) (pa_cons (pv 16) (pa_cons (pv 15) (pa_cons (pv 8) pa_nil)))) pa_nil)) (pe_callTy call_int1 rfl T.b_int (by decide +kernel) (pa_cons (pe_cmpR op_notN (pv 16) pe_non (nomark _)) pa_nil))))))))))
 (pss_cons (ps_if (PW.pt (pw_or (pt_cmpR (op_neDK (K := K) rfl hr.units) (pe_callTy (MB.call_listN (T := TT K) (K := K) rfl) rfl T.b_list (by decide +kernel) (pa_cons (pe_meth (pv 6) T.c_Feasts T.m_Feasts_year (ok_Feasts_year T) (hr.mono (by first | decide | omega)) (bi_Feasts_year T) .nil (passes_call (takes_of rfl rfl rfl rfl) fun _ _ _ _ h => h) (pa_cons (pv 12) pa_nil)) pa_nil)) (pe_lc rfl sc_law.nd (pi_listK (K := K) rfl (pe_callB (MB.cr_sortedDat (T := TT K) (K := K) rfl rfl hr.units) rfl T.b_sorted (by decide +kernel) (pa_cons (pv 14) pa_nil))) (blkOk_by (N := ["script", "dice", "own", "parts", "calendar", "moons", "feasts", "step", "name", "kind", "things", "good", "year", "last", "rows", "place", "day", "names", "one", "other", "both", "k", "a", "b", "days"]) (sc := defScope s_law) (own := [("day", 16), ("place", 15), ("name", 8)]) (by decide +kernel)) (fun _ _ _ _ _ => (pg_tupK (K := K) (n := 3) rfl rfl (pgs_cons (pg_name (i := 16) sc_law.nd rfl (by first | exact Or.inl rfl | exact Or.inr rfl)) (pgs_cons (pg_name (i := 15) sc_law.nd rfl (by first | exact Or.inl rfl | exact Or.inr rfl)) (pgs_cons (pg_name (i := 8) sc_law.nd rfl (by first | exact Or.inl rfl | exact Or.inr rfl)) pgs_nil))))) (fun _ _ _ _ _ => pts_nil) (fun _ _ _ _ _ => (pe_tupN (T := TT K) (pa_cons (pv 16) (pa_cons (pv 8) pa_nil))))) (nomark _)) (pw_or1 (pt_cmpR op_ne (pe_meth (pv 6) T.c_Feasts T.m_Feasts_weekday (ok_Feasts_weekday T) (hr.mono (by first | decide | omega)) (bi_Feasts_weekday T) .nil (passes_call (takes_of rfl rfl rfl rfl) fun _ _ _ _ h => h) (pa_cons (pv 12) pa_nil)) (pe_op op_mod (pe_op op_add (pv 12) (pe_dget (Nat.lt_of_le_of_lt (Nat.add_le_add_left (by decide) _) hr.units) (pv 2) pe_str (fun _ _ => rfl))) (pe_dget (Nat.lt_of_le_of_lt (Nat.add_le_add_left (by decide) _) hr.units) (pv 2) pe_str (fun _ _ => rfl))) (nomark _))))) (pss_one (ps_ret pe_bl)) pss_nil)
 (law_G T tk tl A outer s H0 E hr).choose_spec.1))), ?_⟩
  intro D v_parts v_step v_name v_kind v_things v_good v_rows v_place v_day v_names v_one v_other v_both v_k v_a v_b v_days a dq p0 o x c fq mp Y fd fs as as2 yn l H' gd dice hp0 hpd F hfd hyn hl hD
  obtain ⟨_, _, _, gw, gf, gF⟩ := F.own.get
  have hlen := F.own.len
  have hf8 := F.len
  walk_at "s"
  refine ⟨sz, fun R0 H1 hR0 hv1 e1 => ?_⟩
  have F1 := F.ext e1.no
  have gd1 := e1.gd gd
  have hfd1 := e1.dk _ _ hfd id
  have hp1 := e1.lst _ _ hp0 id
  have dice1 := dice.ext e1 id
  walk_at "s"
  refine ⟨fd, _, hfd1, True.intro, fun od => ?_⟩
  have eL : Ext (TT K) (· = fd) H1 (upd H1 fd (.frz od (.dK (kvF fs as)))) := Ext.setK hfd1 rfl
  have hfz : (upd H1 fd (.frz od (.dK (kvF fs as)))) fd = some (.frz od (.dK (kvF fs as))) := upd_same
  have hRf : R0 ≠ fd := fun z => by rw [z, hfd1] at hv1; cases hv1
  have hv2 : (upd H1 fd (.frz od (.dK (kvF fs as)))) R0 = some (.lst []) := by rw [upd_ne hRf]; exact hv1
  generalize upd H1 fd (.frz od (.dK (kvF fs as))) = H2 at eL hfz hv2
  have F2 : LF K dq H2 o x c fq mp Y fd fs as as2 := F1.lock (od := od) eL hfd1 (.inr ⟨od, hfz⟩)
  have gd2 := eL.gd gd1
  obtain ⟨_, _, _, _, _, gF2⟩ := F2.own.get
  walk_at "s"
  refine ⟨_, _, rfl, gF2, ?_⟩
  walk_at "s"
  refine ⟨fd, od, _, rfl, hfz, ?_⟩
  refine for_it ME.walk_enumD (fun i σ' H3 => ∃ (u1 u2 u3 : Option V) (R : Addr) (ps : List Addr), σ' = [some (.ref a), some (.ref dq), some (.ref o), v_parts, some (.ref c), some (.ref mp), some (.ref x), v_step, u1, v_kind, v_things, v_good, some (.int (yn : Nat)), some (.int (l : Nat)), some (.ref R), u2, u3, v_names, v_one, v_other, v_both, v_k, v_a, v_b, v_days] ∧ H3 R = some (.lst (ps.map V.ref)) ∧ RowsAt H3 ps (rowsY Y fs 8 yn i) ∧ Ext (TT K) No H2 H3) ⟨_, _, _, R0, [], rfl, hv2, ⟨rfl, fun i p r h1 _ => by simp at h1⟩, .refl⟩ (fun i σ' H3 _ ⟨_, _, _, _, _, _, _, _, e⟩ => e.frz _ _ _ hfz) ?_ ?_
  · rintro i v σ' H3 H4 hi ⟨u1, u2, u3, R, ps, rfl, hv, hR, e⟩ ⟨t, k, z, hkz, rfl, ht, rfl⟩
    have hfl : i < fs.length := by rw [kvF_len hlen] at hi; exact hi
    obtain ⟨fe, hfe⟩ : ∃ fe, fs[i]? = some fe := ⟨_, List.getElem?_eq_getElem hfl⟩
    obtain ⟨ai, ha⟩ : ∃ ai, as[i]? = some ai := ⟨_, List.getElem?_eq_getElem (by omega)⟩
    rw [kvF_get hfe ha] at hkz
    cases hkz
    have hmf : fe.name ∈ fs.map (·.name) := List.mem_map.mpr ⟨fe, List.mem_of_getElem? hfe, rfl⟩
    have e3 : Ext (TT K) No H3 (upd H3 t (.tup [.int (i : Nat), L2.kV (.inr fe.name)])) := Ext.new ht
    have ht3 : (upd H3 t (.tup [.int (i : Nat), L2.kV (.inr fe.name)])) t = some (.tup [.int (i : Nat), .str fe.name]) := upd_same
    generalize upd H3 t (.tup [.int (i : Nat), L2.kV (.inr fe.name)]) = H5 at e3 ht3
    have E5 := e.trans e3
    have F5 := F2.ext E5.no
    have hv5 := e3.lst _ _ hv id
    have hR5 := hR.ext e3
    have hrl := rowsY_len Y fs 8 yn i
    refine ⟨_, _, rfl, SqT.of ht3, rfl, ?_⟩
    walk_at "s"
    try delta tNil
    try dsimp only
    show spFalls K 8 [.ref o, .str fe.name, .int (yn : Nat)] H5 _ _
    refine F5.falls hmf (by omega) fun H6 e6 => ?_
    have F6 := F5.ext e6.no
    obtain ⟨dxf, lf⟩ := id F6.f.at_
    walk_at "s"
    refine ⟨_, _, _, rfl, lf, rfl, ?_⟩
    walk_at "s"
    try delta tNil
    try dsimp only
    show spDay K 8 [.ref x, .str fe.name, .int (yn : Nat)] H6 _ _
    refine F6.f.day ((E5.trans e6).gd gd2) (by omega) hmf (by omega) (F6.db (by omega)) fun H7 e7 => ?_
    have E7 := E5.trans (e6.trans e7)
    have hv7 := (e6.trans e7).lst _ _ hv5 id
    have hR7 := hR5.ext (e6.trans e7)
    walk_at "s"
    refine ⟨scal_opt _ _, ?_⟩
    walk_at "s"
    refine ifB (fun z => absurd z (by simp)) (fun _ => ?_)
    walk_at "s"
    refine ⟨sz, fun t8 H8 ht8 hv8 e8 => ?_⟩
    walk_at "s"
    refine ⟨sz, fun l9 H9 hl9 hv9 e9 => ?_⟩
    walk_at "s"
    refine .inr ⟨_, rfl, ?_⟩
    have e79 := e8.trans e9
    have hR9 := hR7.ext e79
    have hvR9 := e79.lst _ _ hv7 id
    have ht9 := e9.fix _ _ hv8 rfl
    have E9 := E7.trans e79
    clear e3 E5 e6 e7 E7 hv5 hR5 hv7 hR7 e8 e79 hv8 ht8 F5 F6 hv hR
    cases hfv : fallV Y fs (8 + 1) fe.name yn with
    | none =>
      have hk : (if (!decide (optV none = V.non)) = true then (1 : Int) else 0) = 0 := by simp [optV]
      rw [hk]
      refine ⟨l9, 0, _, rfl, rfl, hv9, by decide, by decide, by simp, fun pa Ha hpa hva ea => ?_⟩
      have hva : Ha pa = some (.lst []) := hva
      refine ⟨R, pa, _, _, rfl, rfl, ea.lst _ _ hvR9 id, hva, (by rw [List.length_map, hR9.1]; exact sz (by show _ + 0 ≤ _; omega)), fun pb Hb hpb hvb eb => ?_⟩
      rw [List.append_nil] at hvb
      walk_at "s"
      refine ⟨_, _, _, pb, ps, rfl, hvb, ?_, E9.trans (ea.trans eb)⟩
      rw [rowsY_succ hfe, hfv]
      rw [Option.map_none, Option.toList_none, List.append_nil]
      exact (hR9.ext ea).ext eb
    | some d =>
      have hk : (if (!decide (optV (some d) = V.non)) = true then (1 : Int) else 0) = 1 := by simp [optV]
      rw [hk]
      rw [hfv] at ht9
      refine ⟨l9, 1, _, rfl, rfl, hv9, by decide, by decide, sz (show (1 : Nat) ≤ 1000 by decide), fun pa Ha hpa hva ea => ?_⟩
      have hva : Ha pa = some (.lst [.ref t8]) := hva
      refine ⟨R, pa, _, _, rfl, rfl, ea.lst _ _ hvR9 id, hva, (by rw [List.length_map, hR9.1]; exact sz (by show _ + 1 ≤ _; omega)), fun pb Hb hpb hvb eb => ?_⟩
      walk_at "s"
      refine ⟨_, _, _, pb, ps ++ [t8], rfl, by rw [List.map_append]; exact hvb, ?_, E9.trans (ea.trans eb)⟩
      rw [rowsY_succ hfe, hfv]
      exact ((hR9.ext ea).ext eb).snoc (r := (d, i, fe.name)) ((ea.trans eb).fix _ _ ht9 rfl)
  · rintro σ' H3 ⟨u1, u2, u3, R, ps, rfl, hv, hR, e⟩
    rw [kvF_len hlen] at hR
    have hz' := e.frz _ _ _ hfz
    refine ⟨hz', ?_⟩
    have EU : Ext (TT K) No H1 (upd H3 fd (.dK (kvF fs as))) := Ext.unlock hfd1 (eL.trans e.no) hz'
    have hRd : R ≠ fd := fun z => by rw [z, hz'] at hv; cases hv
    have hvU : (upd H3 fd (.dK (kvF fs as))) R = some (.lst (ps.map V.ref)) := by rw [upd_ne hRd]; exact hv
    have hRU : RowsAt (upd H3 fd (.dK (kvF fs as))) ps (rowsY Y fs 8 yn fs.length) := ⟨hR.1, fun i p r h1 h2 => upd_frz hz' (hR.2 i p r h1 h2) fun _ _ z => nomatch z⟩
    have hfdU : (upd H3 fd (.dK (kvF fs as))) fd = some (.dK (kvF fs as)) := upd_same
    have hrl := rowsY_len Y fs 8 yn fs.length
    generalize upd H3 fd (.dK (kvF fs as)) = H4 at EU hvU hRU hfdU
    have hrn : ∀ r ∈ sortR (rowsY Y fs 8 yn fs.length), PyData.canLay0 (.str r.2.2) = true := fun r hr => by
      have hr : r ∈ rowsY Y fs 8 yn fs.length := (List.mergeSort_perm _ _).mem_iff.mp hr
      obtain ⟨fe, hfe, e⟩ := rowsY_mem hr
      rw [e]
      exact F.sok fe hfe
    have F4 := F1.ext EU.no
    have gd4 := EU.gd gd1
    have hp4 := EU.lst _ _ hp1 id
    have dice4 := dice1.ext EU id
    clear hR hz' hv e F2 gd2 hfz eL hv2 hfd1 F1 gd1 hp1 dice1 EU hv1 e1 hR0 F gd hp0 dice hfd gF2
    obtain ⟨dxf, lf⟩ := id F4.f.at_
    walk_at "s"
    refine ⟨_, _, _, rfl, lf, rfl, ?_⟩
    walk_at "s"
    try delta tNil
    try dsimp only
    show spYear K 8 [.ref x, .int (yn : Nat)] H4 _ _
    refine ⟨x, c, fq, .ref mp, Y, fs, as2, yn, rfl, F4.f, F4.d, gd4, by omega, by omega, by omega, F4.db (by omega), fun t5 ps5 H5 ht5 hpl5 hps5 e5 => ?_⟩
    walk_at "s"
    refine ⟨_, _, rfl, .inr (SqT.of ht5), fun l6 H6 hl6 hv6 e6 => ?_⟩
    have e56 := e5.trans e6
    have h6 : Rows2 H6 ps5 (sortR (rowsY Y fs 8 yn fs.length)) := ⟨hpl5, fun i p r h1 h2 => e6.fix _ _ (hps5 i p r h1 h2) rfl⟩
    have hvR6 := e56.lst _ _ hvU id
    have hRU6 := hRU.ext e56
    generalize rowsY Y fs 8 yn fs.length = rows at hRU6 hrl h6 hrn
    clear hps5 hpl5 hRU hvU
    walk_at "s"
    refine ⟨R, ps.map V.ref, rows.map rowD3, rfl, SqL.of hvR6, dpAll_get (by simp [hRU6.1]) fun i x d h1 h2 => ?_, PySem.W.AllAlike.of fun a b => ?_, PySem.W.Sortable.tuples fun b => ⟨_, _, rfl⟩, fun d hd => ?_, fun p7 H7 zs hp7 hv7 hzs hmem e7 => ?_⟩
    · rw [List.getElem?_map] at h1 h2
      cases g1 : ps[i]? with
      | none => rw [g1] at h1; cases h1
      | some q =>
        cases g2 : rows[i]? with
        | none => rw [g2] at h2; cases h2
        | some r =>
          rw [g1] at h1
          rw [g2] at h2
          cases h1
          cases h2
          exact .tup (SqT.of (hRU6.2 i q r g1 g2)) (.cons (.int _) (.cons (.int _) (.cons (.str _) .nil)))
    · simp [rowD3, PySem.W.alike, PySem.W.alikeAll]
    · obtain ⟨r, _, rfl⟩ := List.mem_map.mp hd
      simp [rowD3, PyData.depth, PyData.depthAll]
    rw [sortD_rows] at hzs
    have hzl : zs.length = (sortR rows).length := by
      have := congrArg List.length hzs
      rw [List.length_map, List.length_map] at this
      exact this
    have hrl : (sortR rows).length = rows.length := List.length_mergeSort _
    have key : ∀ (i : Nat) (z : V × PyData), zs[i]? = some z → ∃ (q : Addr) (r : Row), z.1 = .ref q ∧ (sortR rows)[i]? = some r ∧ H6 q = some (.tup [.int r.1, .int (r.2.1 : Nat), .str r.2.2]) := fun i z hz => by
      have hm := hmem z (List.mem_of_getElem? hz)
      obtain ⟨j, hj⟩ := List.getElem?_of_mem hm
      obtain ⟨j1, j2⟩ := List.getElem?_zip_eq_some.mp hj
      rw [List.getElem?_map] at j1 j2
      cases g1 : ps[j]? with
      | none => rw [g1] at j1; cases j1
      | some q =>
        cases g2 : rows[j]? with
        | none => rw [g2] at j2; cases j2
        | some r =>
          rw [g1] at j1
          rw [g2] at j2
          have j1 : V.ref q = z.1 := Option.some.inj j1
          have j2 : rowD3 r = z.2 := Option.some.inj j2
          have h3 : (zs.map Prod.snd)[i]? = some z.2 := by rw [List.getElem?_map, hz]; rfl
          rw [hzs, List.getElem?_map] at h3
          cases g3 : (sortR rows)[i]? with
          | none => rw [g3] at h3; cases h3
          | some r2 =>
            rw [g3] at h3
            have h3 : rowD3 r2 = z.2 := Option.some.inj h3
            have e : r2 = r := by
              rw [← j2] at h3
              unfold rowD3 at h3
              injection h3 with h3
              injection h3 with a1 h3
              injection h3 with a2 h3
              injection h3 with a3 h3
              injection a1 with a1
              injection a2 with a2
              injection a3 with a3
              exact Prod.ext a1 (Prod.ext (Int.ofNat_inj.mp a2) a3)
            exact ⟨q, r2, j1.symm, rfl, by rw [e]; exact hRU6.2 j q r g1 g2⟩
    have l6v := e7.lst _ _ hv6 id
    have h7 := h6.ext e7
    refine ⟨p7, rfl, ⟨_, SqL.of hv7⟩, fun DE hDE => ?_⟩
    have hpD : ¬ p7 = DE := fun z => by rw [z, hDE] at hv7; cases hv7
    have hlD : ¬ l6 = DE := fun z => by rw [z, hDE] at l6v; cases l6v
    refine lc_list (xs := zs.map Prod.fst) (fun i H8 => ∃ qs, H8 DE = some (.lst (qs.map V.ref)) ∧ Rows2 H8 qs ((sortR rows).take i) ∧ Ext (TT K) (· = DE) H7 H8) ⟨[], upd_same, ⟨rfl, fun i p r z => by simp at z⟩, (Ext.new hDE).no⟩ (fun i H8 _ ⟨_, _, _, e⟩ => SqL.of (e.lst _ _ hv7 hpD)) ?_ ?_
    · rintro i v H8 hv ⟨qs, h8, hG, e8⟩
      rw [List.getElem?_map] at hv
      cases g1 : zs[i]? with
      | none => rw [g1] at hv; cases hv
      | some z =>
        rw [g1] at hv
        cases hv
        obtain ⟨q, r, hz1, hr1, hq1⟩ := key i z g1
        rw [hz1]
        have hil := (List.getElem?_eq_some_iff.mp hr1).1
        have htl : ((sortR rows).take i).length = i := by rw [List.length_take]; omega
        refine ⟨_, _, rfl, SqT.of ((e7.no.trans e8).fix _ _ hq1 rfl), rfl, ?_⟩
        walk_at "s"
        refine ⟨sz, fun t9 H9 ht9 hv9 e9 => ?_⟩
        have h9 := e9.lst _ _ h8 id
        have eS : Ext (TT K) (· = DE) H9 (upd H9 DE (.lst (qs.map V.ref ++ [V.ref t9]))) := Ext.set h9 rfl
        refine ⟨_, h9, by rw [List.length_map, hG.1, htl]; exact szl (by omega), qs ++ [t9], by rw [List.map_append]; exact upd_same, ⟨?_, fun j p r2 g1 g2 => ?_⟩, (e8.trans e9.no).trans eS⟩
        · rw [List.length_append, hG.1, htl, List.length_take]
          show i + 1 = _
          omega
        · rcases Nat.lt_or_ge j qs.length with zz | zz
          · rw [List.getElem?_append_left zz] at g1
            have hj : j < i := by rw [hG.1, htl] at zz; exact zz
            rw [List.getElem?_take_of_lt (by omega)] at g2
            exact (e9.no.trans eS).fix _ _ (hG.2 j p r2 g1 (by rw [List.getElem?_take_of_lt hj]; exact g2)) rfl
          · have hj : j = qs.length := by
              have := (List.getElem?_eq_some_iff.mp g1).1
              rw [List.length_append] at this
              simp at this
              omega
            subst hj
            rw [List.getElem?_append_right (Nat.le_refl _), Nat.sub_self] at g1
            rw [hG.1, htl, List.getElem?_take_of_lt (by omega), hr1] at g2
            cases g1
            cases g2
            exact eS.fix _ _ hv9 rfl
    rintro H8 ⟨qs, h8, hG, e8⟩
    rw [List.length_map, hzl, List.take_of_length_le (Nat.le_refl _)] at hG
    have e8n := e8.mono1 (NoM.of hDE)
    refine neRows2 hrn (e8.lst _ _ l6v hlD) h8 (h7.ext e8n) hG ?_
    have e48 := e56.trans (e7.trans e8n)
    have F8 := F4.ext e48.no
    have gd8 := e48.gd gd4
    have hp8 := e48.lst _ _ hp4 id
    have dice8 := dice4.ext e48 id
    have hfd8 := e48.dk _ _ hfdU id
    clear e8 e8n e48 e56 e7 e5 e6 hG h8 h7 h6 hRU6 key hmem hzs F4 gd4 hp4 dice4 hfdU hv7 l6v hv6 hvR6
    obtain ⟨dxf, lf⟩ := id F8.f.at_
    obtain ⟨_, _, _, gw8, gf8, _⟩ := F8.own.get
    have w1 := F8.law.w1
    walk_at "s"
    refine ⟨_, _, _, rfl, lf, rfl, ?_⟩
    walk_at "s"
    refine ⟨x, c, fq, .ref mp, Y.W, Y.f0, _, rfl, F8.f.at_, w1, ?_⟩
    walk_at "s"
    refine ⟨_, _, rfl, gf8, ?_⟩
    walk_at "s"
    refine ⟨_, _, rfl, gw8, ?_⟩
    walk_at "s"
    refine ⟨by omega, ?_⟩
    walk_at "s"
    refine ifB (fun z => absurd z (by simp)) (fun _ => ?_)
    walk_at "s"
    exact (law_G T tk tl A outer s H0 E hr).choose_spec.2 D _ _ _ _ _ _ _ _ _ _ _ _ _ _ _ _ _  a dq p0 o x c fq mp Y fd fs as as2 yn l H8 gd8 dice8 hp8 hpd F8 hfd8 hyn hl hD
end K60

set_option Elab.async false
set_option linter.all false
set_option maxRecDepth 100000
set_option maxHeartbeats 2000000
namespace K60
open PySem PySem.Spec PyProof.Rows L2 MB
local macro_rules | `(tactic| walk_at "s") => `(tactic| repeat (first | refine ⟨_, rfl, ?_⟩ | refine ⟨_, _, rfl, rfl, ?_⟩ | refine ⟨_, _, rfl, ?_⟩ | refine ⟨rfl, ?_⟩))
variable {P : Program} {w : World} {K : PySem.W.Frag} {mg : Str → Option Value} {base : Heap}
theorem kvF_list {fs : List Fe} {as : List Addr} (h : as.length = fs.length) : ((kvF fs as).map fun kv => L2.kV kv.1) = (fs.map (·.name)).map V.str := by
  have e : ((kvF fs as).map fun kv => L2.kV kv.1) = ((kvF fs as).map (·.1)).map L2.kV := by rw [List.map_map]; rfl
  rw [e, kvF_names h, List.map_map, List.map_map]
  rfl
theorem strD_eq (x : Str) : PyData.eqv (.str x) (.str x) = true := by
  show (_ == _) = true
  simp
theorem strs_eq : ∀ l : List Str, PyData.eqvAll (l.map PyData.str) (l.map PyData.str) = true
  | [] => rfl
  | r :: rs => by
    show (PyData.eqv (.str r) (.str r) && PyData.eqvAll (rs.map PyData.str) (rs.map PyData.str)) = true
    rw [strD_eq, strs_eq rs]
    rfl
theorem neStrs {H : Hp} {p q : Addr} {l : List Str} {Q : VK} (hs : ∀ x ∈ l, PyData.canLay0 (.str x) = true) (h1 : H p = some (.lst (l.map V.str))) (h2 : H q = some (.lst (l.map V.str))) (h : Q (.bl false) H) : rNeD K (.ref p) (.ref q) H Q := by
  have sh : SeqAt.shaped (.list (l.map PyData.str)) = true := (ShK.lst (k := 0) fun d hd => by
    obtain ⟨r, hr, rfl⟩ := List.mem_map.mp hd
    exact ⟨hs r hr, Nat.zero_le _⟩).ok
  refine ⟨.list (l.map PyData.str), .list (l.map PyData.str), .lst (SqL.of h1) (dpAll_of fun b _ => .str b), .lst (SqL.of h2) (dpAll_of fun b _ => .str b), sh, sh, ?_⟩
  have e : PyData.eqv (.list (l.map PyData.str)) (.list (l.map PyData.str)) = true := strs_eq l
  rw [e]
  exact h
theorem law_E (T : Tx K mg base) (tk : TOk (TT K)) (tl : LamNe K) (A : Around) (outer : List Env) (s : Shared) (H0 : Hp) (E : XK) (hr : Room 79 (A.deeper (envOfC "law" (defScope s_law) s.heap.objs.size (He.fAd K ("law", none)) (.ref (He.cT K ("law", none)).1)))) :
    ∃ t, PSs (cxOf (L2.CX P w) P w K mg base ["script", "dice", "own", "parts", "calendar", "moons", "feasts", "step", "name", "kind", "things", "good", "year", "last", "rows", "place", "day", "names", "one", "other", "both", "k", "a", "b", "days"] "law" (defScope s_law) (He.fAd K ("law", none)) (.ref (He.cT K ("law", none)).1) A outer s H0 E) (lawBody.drop 7) t ∧
      ∀ (D : Ends) (v_parts v_step v_name v_kind v_things v_good v_year v_last v_rows v_place v_day v_names v_one v_other v_both v_k v_a v_b v_days : Option V) (a dq p0 : Addr) (o x c fq mp : Addr) (Y : Yr) (fd : Addr) (fs : List Fe) (as as2 : List Addr) (H' : Hp), Gd (TT K) H' → DiceAt H' dq → H' p0 = some (.lst [.ref dq]) → p0 ≠ dq → LF K dq H' o x c fq mp Y fd fs as as2 → H' fd = some (.dK (kvF fs as)) →  (∀ σ2 H2, Gd (TT K) H2 → H2 p0 = some (.lst [.ref dq]) → D.nx σ2 H2) → t D [some (.ref a), some (.ref dq), some (.ref o), v_parts, some (.ref c), some (.ref mp), some (.ref x), v_step, v_name, v_kind, v_things, v_good, v_year, v_last, v_rows, v_place, v_day, v_names, v_one, v_other, v_both, v_k, v_a, v_b, v_days] H' := by
  obtain ⟨oc, od, dV, kV, doc, pm, an, cdv, ct, osl, efd, lk, hcg, hDf, _⟩ := T.F_law_told.ex
  have hbt := bi_law_told T
  rw [efd] at hbt
  rw [efd] at lk
  have ok_Calendar_short := fun T : Tx K mg base => ok_Calendar_short (P := P) (w := w) T tk
  have ok_Feasts_nth := fun T : Tx K mg base => ok_Feasts_nth (P := P) (w := w) T tk
  have ok_Feasts_day := fun T : Tx K mg base => ok_Feasts_day (P := P) (w := w) T tk 8
  have ok_Feasts_meet := fun T : Tx K mg base => ok_Feasts_meet (P := P) (w := w) T tk 8
  have ok_Feasts_spread := fun T : Tx K mg base => ok_Feasts_spread (P := P) (w := w) T tk 8
  have ok_Feasts_year := fun T : Tx K mg base => ok_Feasts_year (P := P) (w := w) T tk 8
  have ok_law_falls := fun T : Tx K mg base => ok_law_falls (P := P) (w := w) T tk 8
  refine ⟨_, (pss_cons (ps_if (pt_cmpR (op_neDK (K := K) rfl hr.units) (pe_callTy (MB.call_listDN (T := TT K) rfl) rfl T.b_list (by decide +kernel) (pa_cons (pe_fldK (K := K) rfl (pv 6) rfl) pa_nil)) (pe_callTy (MB.call_listDN (T := TT K) rfl) rfl T.b_list (by decide +kernel) (pa_cons (pe_dget (Nat.lt_of_le_of_lt (Nat.add_le_add_left (by decide) _) hr.units) (pv 2) pe_str (fun _ _ => rfl)) pa_nil)) (nomark _)) (pss_one (ps_ret pe_bl)) pss_nil)
 (pss_cons (ps_par (i := 12) (j := 13) rfl sc_law.nd rfl rfl (by decide) rfl rfl (pa_cons (pe_call (ok_law_roll T) (hr.mono (by first | decide | omega)) rfl T.g_law_roll T.F_law_roll.kp (bi_law_roll T) .nil (passes_call (takes_of rfl rfl rfl rfl) fun _ _ _ _ h => h) (pa_cons (pv 1) (pa_cons pe_int pa_nil))) (pa_cons (pe_call (ok_law_roll T) (hr.mono (by first | decide | omega)) rfl T.g_law_roll T.F_law_roll.kp (bi_law_roll T) .nil (passes_call (takes_of rfl rfl rfl rfl) fun _ _ _ _ h => h) (pa_cons (pv 1) (pa_cons pe_int pa_nil))) pa_nil)) rfl)
 (law_F T tk tl A outer s H0 E hr).choose_spec.1)), ?_⟩
  intro D v_parts v_step v_name v_kind v_things v_good v_year v_last v_rows v_place v_day v_names v_one v_other v_both v_k v_a v_b v_days a dq p0 o x c fq mp Y fd fs as as2 H' gd dice hp0 hpd F hfd hD
  obtain ⟨_, _, _, gw, gf, gF⟩ := F.own.get
  obtain ⟨dxf, lf⟩ := id F.f.at_
  walk_at "s"
  refine ⟨_, _, _, _, _, rfl, lf, T.c_Feasts, T.na_Feasts_feasts, rfl, ?_⟩
  walk_at "s"
  refine ⟨fq, _, rfl, .inl F.d, fun l1 H1 hl1 hv1 e1 => ?_⟩
  have F1 := F.ext e1.no
  obtain ⟨_, _, _, _, _, gF1⟩ := F1.own.get
  walk_at "s"
  refine ⟨_, _, rfl, gF1, ?_⟩
  walk_at "s"
  refine ⟨fd, _, rfl, F1.own.fd_, fun l2 H2 hl2 hv2 e2 => ?_⟩
  rw [kvF_list F.f.d.len] at hv1
  rw [kvF_list F.own.len] at hv2
  have e12 := e1.trans e2
  refine neStrs (fun x hx => ?_) (e2.lst _ _ hv1 id) hv2 ?_
  · obtain ⟨fe, hfe, rfl⟩ := List.mem_map.mp hx
    exact F.sok fe hfe
  have F2 := F.ext e12.no
  have gd2 := e12.gd gd
  have hp2 := e12.lst _ _ hp0 id
  have hd2 := dice.ext e12 id
  have hfd2 := e12.dk _ _ hfd id
  walk_at "s"
  refine ⟨hd2, by decide, by decide, fun yn H3 hyn hd3 e3 => ?_⟩
  walk_at "s"
  refine ⟨hd3, by decide, by decide, fun l H4 hl hd4 e4 => ?_⟩
  have e34 := e3.trans e4
  have F4 := F2.ext e34
  walk_at "s"
  exact (law_F T tk tl A outer s H0 E hr).choose_spec.2 D _ _ _ _ _ _ _ _ _ _ _ _ _ _ _ _ _  a dq p0 o x c fq mp Y fd fs as as2 yn l H4 (e34.gd gd2) hd4 (e34.lst _ _ hp2 hpd) hpd F4 (e34.dk _ _ hfd2 F.own.fo) (by omega) (by omega) hD
end K60

set_option Elab.async false
set_option linter.all false
set_option maxRecDepth 100000
set_option maxHeartbeats 2000000
namespace K60
open PySem PySem.Spec PyProof.Rows L2 MB
local macro_rules | `(tactic| walk_at "s") => `(tactic| repeat (first | refine ⟨_, rfl, ?_⟩ | refine ⟨_, _, rfl, rfl, ?_⟩ | refine ⟨_, _, rfl, ?_⟩ | refine ⟨rfl, ?_⟩))
variable {P : Program} {w : World} {K : PySem.W.Frag} {mg : Str → Option Value} {base : Heap}
theorem asg_rule {te : TE} {g : TG} {rest : TS} {D : Ends} {σ : L2.St} {H : Hp} (R : V → Hp → Prop) (h : ∀ Q' : VK, (∀ v H2, R v H2 → Q' v H2) → te σ H Q') (hQ : ∀ v H2, R v H2 → g v σ H2 (rest D)) : tSeq (tAsg te g) rest D σ H := h _ hQ
/-- a feast may be added -/
structure GoodF (fs : List Fe) (fe : Fe) : Prop where
  new : fe.name ∉ fs.map (·.name)
  dep : fe.kind = .behind ∨ fe.kind = .next → fe.s ∈ fs.map (·.name)
theorem OwnF.put {dq o fd fd' : Addr} {H : Hp} {Y : Yr} {fs fs' : List Fe} {as as' : List Addr} {kvs : List (Key × V)} (h : OwnF K dq H o Y fd fs as) (hk : H o = some (.dK kvs)) (hfd : H fd' = some (.dK (kvF fs' as'))) (n1 : fd' ≠ o) (n2 : fd' ≠ dq) (len : as'.length = fs'.length)
    (each : ∀ (i : Nat) (f : Fe) (a : Addr), fs'[i]? = some f → as'[i]? = some a → ∃ t, H a = some (.tup [.str f.kind.str, .ref t]) ∧ SqT K H t f.things) : OwnF K dq (upd H o (.dK (putK kvs (.inr "feasts") (.ref fd')))) o Y fd' fs' as' := by
  have e : Ext (TT K) (· = o) H (upd H o (.dK (putK kvs (.inr "feasts") (.ref fd')))) := Ext.setK hk rfl
  obtain ⟨⟨⟨mq, rq, ts, rts, ⟨kv1, k1, k2, k3, k4⟩, g2, g3, g4, g4', g5, g6⟩, g7⟩, ⟨kv2, mt, h2, h3, h4, h5, h6, h7⟩, h8, h9, h10, h11⟩ := h
  rw [hk] at k1 h2
  cases k1
  cases h2
  have nl : ∀ {b xs}, H b = some (.lst xs) → ¬ b = o := fun q z => by rw [z, hk] at q; cases q
  have pv : ∀ j v, (.inr "feasts" : Key) ≠ j → valV kvs j = some v → valV (putK kvs (.inr "feasts") (.ref fd')) j = some v := fun j v n q => by
    rw [valV_put, if_neg (Ne.symm n)]
    exact q
  refine ⟨⟨⟨mq, rq, ts, rts, ⟨_, upd_same, pv _ _ (by decide +kernel) k2, pv _ _ (by decide +kernel) k3, pv _ _ (by decide +kernel) k4⟩, e.lst _ _ g2 (nl g2), g3.ext e, e.lst _ _ g4 (nl g4), g4'.ext e, g5, g6⟩, g7⟩,
    ⟨_, mt, upd_same, pv _ _ (by decide +kernel) h3, e.fix _ _ h4 rfl, pv _ _ (by decide +kernel) h5, pv _ _ (by decide +kernel) h6, by rw [valV_put, if_pos rfl]⟩, len, .inl (e.dk _ _ hfd n1), n2, fun i f a q1 q2 => by
    obtain ⟨t, q3, q4⟩ := each i f a q1 q2
    exact ⟨t, e.fix _ _ q3 rfl, SqT.ext q4 e⟩⟩
theorem snoc_cases {α : Type} {l : List α} {z a : α} {i : Nat} (h : (l ++ [z])[i]? = some a) : l[i]? = some a ∨ (i = l.length ∧ a = z) := by
  rcases Nat.lt_or_ge i l.length with q | q
  · rw [List.getElem?_append_left q] at h
    exact .inl h
  · have hi : i = l.length := by
      have := (List.getElem?_eq_some_iff.mp h).1
      rw [List.length_append] at this
      simp at this
      omega
    subst hi
    rw [List.getElem?_append_right (Nat.le_refl _), Nat.sub_self] at h
    cases h
    exact .inr ⟨rfl, rfl⟩
theorem WfF.snoc {Y : Yr} {mv : V} {fs : List Fe} {fe : Fe} (h : WfF Y mv fs) (fd : FeD Y fe) (g : GoodF fs fe) (hm : mv ≠ .non) : WfF Y mv (fs ++ [fe]) := by
  refine ⟨?_, fun f hf k => ?_, fun i f hi k => ?_, fun _ _ _ => hm⟩
  · rw [List.map_append, List.nodup_append]
    refine ⟨h.nd, by simp, fun a ha b hb e => ?_⟩
    have hb : b = fe.name := by simpa using hb
    exact g.new (by rw [← hb, ← e]; exact ha)
  · rcases List.mem_append.mp hf with q | q
    · exact h.mon f q k
    · obtain rfl := List.mem_singleton.mp q
      exact fd.mon k
  · rcases snoc_cases hi with q | ⟨rfl, rfl⟩
    · obtain ⟨j, g', h1, h2, h3⟩ := h.dep i f q k
      exact ⟨j, g', h1, by rw [List.getElem?_append_left (List.getElem?_eq_some_iff.mp h2).1]; exact h2, h3⟩
    · obtain ⟨g', h2, h3⟩ := List.mem_map.mp (g.dep k)
      obtain ⟨j, hj⟩ := List.getElem?_of_mem h2
      have hjl := (List.getElem?_eq_some_iff.mp hj).1
      exact ⟨j, g', hjl, by rw [List.getElem?_append_left hjl]; exact hj, h3⟩
theorem LawF.snoc {Y : Yr} {mv : V} {fs : List Fe} {fe : Fe} (h : LawF Y mv fs) (fd : FeD Y fe) (g : GoodF fs fe) (hm : mv ≠ .non) : LawF Y mv (fs ++ [fe]) := by
  refine ⟨h.wf.snoc fd g hm, h.ms, h.ov, h.w1, h.mok, fun f hf k => ?_⟩
  rcases List.mem_append.mp hf with q | q
  · exact h.nx f q k
  · obtain rfl := List.mem_singleton.mp q
    exact fd.nx k
theorem kvF_nd {fs : List Fe} {as : List Addr} (h : as.length = fs.length) (nd : (fs.map (·.name)).Nodup) : ((kvF fs as).map (·.1)).Nodup := by
  rw [kvF_names h]
  have e : (fs.map fun f => (.inr f.name : Key)) = (fs.map (·.name)).map fun x => (.inr x : Key) := by rw [List.map_map]; rfl
  rw [e]
  exact nodup_inr nd
theorem paired_len {α β : Type} {F : α → β → Prop} : ∀ {xs : List α} {ys : List β}, Paired F xs ys → xs.length = ys.length
  | _, _, .nil => rfl
  | _, _, .cons _ t => by rw [List.length_cons, List.length_cons, paired_len t]
theorem paired_map {α β : Type} {F G : α → β → Prop} : ∀ {xs : List α} {ys : List β}, Paired F xs ys → (∀ a b, F a b → G a b) → Paired G xs ys
  | _, _, .nil, _ => .nil
  | _, _, .cons q t, h => .cons (h _ _ q) (paired_map t h)
theorem paired_snoc {α β : Type} {F : α → β → Prop} {a : α} {b : β} (h : F a b) : ∀ {xs : List α} {ys : List β}, Paired F xs ys → Paired F (xs ++ [a]) (ys ++ [b])
  | _, _, .nil => .cons h .nil
  | _, _, .cons q t => .cons q (paired_snoc h t)
theorem LF.step {dq o x c fq mp fd fd' : Addr} {H : Hp} {Y : Yr} {fs fs' : List Fe} {as as' as2' : List Addr} {kvo : List (Key × V)} (O : OwnF K dq H o Y fd fs as) (ho : H o = some (.dK kvo)) (hol : kvo.length ≤ 20) (hfd : H fd' = some (.dK (kvF fs' as'))) (len : as'.length = fs'.length)
    (each : ∀ (i : Nat) (f : Fe) (a : Addr), fs'[i]? = some f → as'[i]? = some a → ∃ t, H a = some (.tup [.str f.kind.str, .ref t]) ∧ SqT K H t f.things) (law : LawF Y (.ref mp) fs') (A : FsOk K H x c fq (.ref mp) Y fs' as2') (d : H fq = some (.dK (kvF fs' as2'))) (w60 : Y.W ≤ 60) (l8 : fs'.length ≤ 8)
    (sok : ∀ fe ∈ fs', PyData.canLay0 (.str fe.name) = true) (q1 : fq ≠ dq) (q2 : fq ≠ o) (n1 : fd' ≠ fq) (n2 : fd' ≠ o) (n3 : fd' ≠ dq) : LF K dq (upd H o (.dK (putK kvo (.inr "feasts") (.ref fd')))) o x c fq mp Y fd' fs' as' as2' := by
  have e : Ext (TT K) (· = o) H (upd H o (.dK (putK kvo (.inr "feasts") (.ref fd')))) := Ext.setK ho rfl
  refine ⟨O.put ho hfd n2 n3 len each, law, A.ext e q2, e.dk _ _ d q2, w60, l8, sok, q1, q2, n1, n2, ⟨_, upd_same, ?_⟩⟩
  obtain ⟨kv2, _, h2, _, _, _, _, h7⟩ := O.ex
  rw [ho] at h2
  cases h2
  rw [putK_len, h7]
  exact hol
theorem dict_fd {H : Hp} {fd : Addr} {p : Addr} {xs : List (Key × V)} (h : H fd = some (.dK xs)) (hp : H p = none) : p ≠ fd := fun z => by rw [z, h] at hp; cases hp
theorem law_D (T : Tx K mg base) (tk : TOk (TT K)) (tl : LamNe K) (A : Around) (outer : List Env) (s : Shared) (H0 : Hp) (E : XK) (hr : Room 79 (A.deeper (envOfC "law" (defScope s_law) s.heap.objs.size (He.fAd K ("law", none)) (.ref (He.cT K ("law", none)).1)))) :
    ∃ t, PSs (cxOf (L2.CX P w) P w K mg base ["script", "dice", "own", "parts", "calendar", "moons", "feasts", "step", "name", "kind", "things", "good", "year", "last", "rows", "place", "day", "names", "one", "other", "both", "k", "a", "b", "days"] "law" (defScope s_law) (He.fAd K ("law", none)) (.ref (He.cT K ("law", none)).1) A outer s H0 E) (lawBody.drop 6) t ∧
      ∀ (D : Ends) (v_parts v_step v_name v_kind v_things v_good v_year v_last v_rows v_place v_day v_names v_one v_other v_both v_k v_a v_b v_days : Option V) (a dq p0 : Addr) (o x c fq mp : Addr) (Y : Yr) (fd : Addr) (fs : List Fe) (as as2 : List Addr) (H' : Hp), Gd (TT K) H' → DiceAt H' dq → H' p0 = some (.lst [.ref dq]) → p0 ≠ dq → LF K dq H' o x c fq mp Y fd fs as as2 → H' fd = some (.dK (kvF fs as)) → fs.length = 0 →  (∀ σ2 H2, Gd (TT K) H2 → H2 p0 = some (.lst [.ref dq]) → D.nx σ2 H2) → t D [some (.ref a), some (.ref dq), some (.ref o), v_parts, some (.ref c), some (.ref mp), some (.ref x), v_step, v_name, v_kind, v_things, v_good, v_year, v_last, v_rows, v_place, v_day, v_names, v_one, v_other, v_both, v_k, v_a, v_b, v_days] H' := by
  obtain ⟨oc, od, dV, kV, doc, pm, an, cdv, ct, osl, efd, lk, hcg, hDf, _⟩ := T.F_law_told.ex
  have hbt := bi_law_told T
  rw [efd] at hbt
  rw [efd] at lk
  have ok_Calendar_short := fun T : Tx K mg base => ok_Calendar_short (P := P) (w := w) T tk
  have ok_Feasts_nth := fun T : Tx K mg base => ok_Feasts_nth (P := P) (w := w) T tk
  have ok_Feasts_day := fun T : Tx K mg base => ok_Feasts_day (P := P) (w := w) T tk 8
  have ok_Feasts_meet := fun T : Tx K mg base => ok_Feasts_meet (P := P) (w := w) T tk 8
  have ok_Feasts_spread := fun T : Tx K mg base => ok_Feasts_spread (P := P) (w := w) T tk 8
  have ok_Feasts_year := fun T : Tx K mg base => ok_Feasts_year (P := P) (w := w) T tk 8
  have ok_law_falls := fun T : Tx K mg base => ok_law_falls (P := P) (w := w) T tk 8
  refine ⟨_, (pss_cons (ps_for (passes_of rfl) rfl (pi_range1 rfl T.b_range (pa_cons (pe_call (ok_law_roll T) (hr.mono (by first | decide | omega)) rfl T.g_law_roll T.F_law_roll.kp (bi_law_roll T) .nil (passes_call (takes_of rfl rfl rfl rfl) fun _ _ _ _ h => h) (pa_cons (pv 1) (pa_cons pe_int pa_nil))) pa_nil)) (pg_name (i := 7) sc_law.nd rfl (Or.inl rfl)) (pss_cons (ps_asg (pe_tupN (T := TT K) (pa_cons (pe_op op_add_str pe_str (pe_callTy call_str_int rfl T.b_str (by decide +kernel) (pa_cons (pe_call (ok_law_roll T) (hr.mono (by first | decide | omega)) rfl T.g_law_roll T.F_law_roll.kp (bi_law_roll T) .nil (passes_call (takes_of rfl rfl rfl rfl) fun _ _ _ _ h => h) (pa_cons (pv 1) (pa_cons pe_int pa_nil))) pa_nil))) (pa_cons (pe_call (ok_law_feast T) (hr.mono (by first | decide | omega)) rfl T.g_law_feast T.F_law_feast.kp (bi_law_feast T) .nil (passes_call (takes_of rfl rfl rfl rfl) fun _ _ _ _ h => h) (pa_cons (pv 1) (pa_cons (pv 2) pa_nil))) pa_nil))) (pg_tupK (K := K) (n := 2) rfl rfl (pgs_cons (pg_name (i := 8) sc_law.nd rfl (Or.inr rfl)) (pgs_cons (pg_tupK (K := K) (n := 2) rfl rfl (pgs_cons (pg_name (i := 9) sc_law.nd rfl (Or.inr rfl)) (pgs_cons (pg_name (i := 10) sc_law.nd rfl (Or.inr rfl)) pgs_nil))) pgs_nil))))
 (pss_cons (ps_set (i := 11) sc_law.nd rfl (Or.inl rfl) (pe_and (pe_cmp (pc_dnotin (Nat.lt_of_le_of_lt (Nat.add_le_add_left (by decide) _) hr.units) (pv 8) (pe_dget (Nat.lt_of_le_of_lt (Nat.add_le_add_left (by decide) _) hr.units) (pv 2) pe_str (fun _ _ => rfl))) (by with_unfolding_all rfl)) (pe_one (pe_or (pe_cmpR op_notIn_seq (pv 9) (pe_lstN (T := TT K) (pa_cons pe_str (pa_cons pe_str pa_nil))) (by with_unfolding_all rfl)) (pe_one (pe_cmp (pc_din (Nat.lt_of_le_of_lt (Nat.add_le_add_left (by decide) _) hr.units) (pe_ix (ix_tupK (K := K) rfl) (pv 10) pe_int (fun _ _ => rfl)) (pe_dget (Nat.lt_of_le_of_lt (Nat.add_le_add_left (by decide) _) hr.units) (pv 2) pe_str (fun _ _ => rfl))) (by with_unfolding_all rfl)))))))
 (pss_cons (ps_if (pt_cmpR op_eq (pe_cmpR op_eq (ML.pe_toldL (T := (TT K).lam) (c := (He.cT K ("law", none)).1) (P := (He.cT K ("law", none)).2) ⟨T.tb_law.code, T.tb_law.bm, T.tb_law.gP⟩ rfl (List.mem_cons_of_mem _ List.mem_cons_self) (hu_law tl) ⟨LamX.lamS_by (sc := defScope s_law) (by decide +kernel), fun _ _ _ _ _ => rfl, fun A outer s H E f c' hr => (pe_meth (pv 6) T.c_Feasts T.m_Feasts_add (ok_Feasts_add T) (hr.mono (by first | decide | omega)) (bi_Feasts_add T) .nil (passes_call (takes_of rfl rfl rfl rfl) fun _ _ _ _ h => h) (pa_cons (pe_make T.mk_Feast (ok_Feast_init T) (hr.mono (by first | decide | omega)) rfl T.g_Feast (bi_Feast_init T) .nil (passes_call (takes_of rfl rfl rfl rfl) fun _ _ _ _ h => h) (pa_cons (pv 8) (pa_cons (pv 9) (pa_cons (pv 10) pa_nil)))) pa_nil))⟩ (k := 20) (hr.mono (by decide)) rfl T.g_law_told T.F_law_told.kp lk hcg hbt sc_law_told rfl (Or.inl rfl) rfl T.g_MoonError (fun _ => rfl)) pe_str (nomark _)) (pv 11) (nomark _)) (pss_one (ps_ret pe_bl)) pss_nil)
 (pss_one (ps_asg (pe_callTy (call_dictPK (T := TT K) (K := K) rfl rfl) rfl T.b_dict (by decide +kernel) (pa_cons (pe_op (op_catN (T := TT K)) (LiI.pe_listItems rfl (pe_dget (Nat.lt_of_le_of_lt (Nat.add_le_add_left (by decide) _) hr.units) (pv 2) pe_str (fun _ _ => rfl)) rfl T.b_list (by decide +kernel)) (pe_op (op_repN (T := TT K)) (pe_lstN (T := TT K) (pa_cons (pe_tupN (T := TT K) (pa_cons (pv 8) (pa_cons (pe_tupN (T := TT K) (pa_cons (pv 9) (pa_cons (pv 10) pa_nil))) pa_nil))) pa_nil)) (pe_callTy call_int1 rfl T.b_int (by decide +kernel) (pa_cons (pv 11) pa_nil)))) pa_nil)) (pg_sub (pv 2) pe_str (set_dict (Nat.lt_of_le_of_lt (Nat.add_le_add_left (by decide) _) hr.units)))))))))
 (law_E T tk tl A outer s H0 E hr).choose_spec.1), ?_⟩
  intro D v_parts v_step v_name v_kind v_things v_good v_year v_last v_rows v_place v_day v_names v_one v_other v_both v_k v_a v_b v_days a dq p0 o x c fq mp Y fd fs as as2 H' gd dice hp0 hpd F hfd h0 hD
  walk_at "s"
  refine ⟨dice, by decide, by decide, fun r H1 hr9 hd1 e1 => ?_⟩
  have F1 := F.ext e1
  have gd1 := e1.gd gd
  have hp1 := e1.lst _ _ hp0 hpd
  have hfd1 := e1.dk _ _ hfd F.own.fo
  clear e1 F gd hp0 hfd dice
  walk_at "s"
  refine ⟨by omega, by omega, ?_⟩
  have hn : ((r : Nat) : Int).toNat = r := by omega
  rw [hn]
  refine for_range (fun i σ' H2 => ∃ (u1 u2 u3 u4 u5 : Option V) (fd : Addr) (fs : List Fe) (as as2 : List Addr), σ' = [some (.ref a), some (.ref dq), some (.ref o), v_parts, some (.ref c), some (.ref mp), some (.ref x), u1, u2, u3, u4, u5, v_year, v_last, v_rows, v_place, v_day, v_names, v_one, v_other, v_both, v_k, v_a, v_b, v_days] ∧ LF K dq H2 o x c fq mp Y fd fs as as2 ∧ H2 fd = some (.dK (kvF fs as)) ∧ fs.length ≤ i ∧ Gd (TT K) H2 ∧ DiceAt H2 dq ∧ H2 p0 = some (.lst [.ref dq])) ⟨_, _, _, _, _, fd, fs, as, as2, rfl, F1, hfd1, by omega, gd1, hd1, hp1⟩ ?_ ?_
  rotate_left
  · rintro σ' H2 ⟨u1, u2, u3, u4, u5, fd, fs, as, as2, rfl, F2, hfd2, _, gd2, hd2, hp2⟩
    exact (law_E T tk tl A outer s H0 E hr).choose_spec.2 D _ _ _ _ _ _ _ _ _ _ _ _ _ _ _ _ _ _ _  a dq p0 o x c fq mp Y fd fs as as2 H2 gd2 hd2 hp2 hpd F2 hfd2 hD
  clear F1 hfd1 gd1 hd1 hp1 h0 fd fs as as2
  rintro i σ' H2 hi ⟨u1, u2, u3, u4, u5, fd, fs, as, as2, rfl, F2, hfd2, hln, gd2, hd2, hp2⟩
  walk_at "s"
  refine ⟨hd2, by decide, by decide, fun k H3 hk hd3 e3 => ?_⟩
  have hk : k < 6 := by omega
  walk_at "s"
  refine ⟨Nat.lt_of_le_of_lt (Nat.log2_le_self _) (by omega), ?_⟩
  walk_at "s"
  have hfl := fn_len k hk
  rw [Int.zero_add] at hfl
  refine ⟨Nat.le_trans hfl (sz (by decide)), ?_⟩
  have hnm : Str.ofString "f" ++ Str.ofString (toString (k : Int)) = fnS k := by unfold fnS; rw [Int.zero_add]
  rw [hnm]
  have hsk := fn_sok k hk
  have hne : fnS k ≠ "" := fn_ne k (by omega)
  generalize fnS k = nm at hsk hne
  walk_at "s"
  have F3 := F2.ext e3
  refine ⟨dq, o, fd, Y, fs, as, nm, rfl, hd3, F3.own, F3.law.ov, F3.law.w1, F3.w60, fun t th fe H4 hfn hFe ht hth hd4 e4 => ?_⟩
  subst hfn
  walk_at "s"
  refine ⟨sz, fun t5 H5 ht5 hv5 e5 => ?_⟩
  refine ⟨_, _, rfl, SqT.of hv5, rfl, ?_⟩
  have e25 := (e3.trans e4).trans e5.no
  have F5 := F2.ext e25
  have gd5 := e25.gd gd2
  have hd5 := hd4.ext e5 id
  have hp5 := e25.lst _ _ hp2 hpd
  have hfd5 := e25.dk _ _ hfd2 F2.own.fo
  have hth5 := e5.fix _ _ hth rfl
  have htt5 := e5.fix _ _ ht rfl
  clear e3 e4 e5 e25 F2 F3 gd2 hd2 hp2 hfd2 hd3 hd4 ht hth hv5 ht5 hfl hnm
  refine ⟨_, _, rfl, ?_⟩
  refine ⟨_, _, rfl, ?_⟩
  refine ⟨_, _, rfl, SqT.of htt5, rfl, ?_⟩
  refine ⟨_, _, rfl, ?_⟩
  refine ⟨_, _, rfl, ?_⟩
  refine ⟨rfl, ?_⟩
  refine ⟨rfl, ?_⟩
  dsimp only
  refine asg_rule (fun v H6 => ∃ b : Bool, v = .bl b ∧ (b = true ↔ GoodF fs fe) ∧ Ext (TT K) No H5 H6) (fun Q' hQ' => ?_) ?_
  · obtain ⟨_, _, _, _, _, gF5⟩ := F5.own.get
    walk_at "s"
    refine ⟨_, _, rfl, gF5, ?_⟩
    walk_at "s"
    refine ⟨_, _, rfl, DGet.k (k := .inr fe.name) hfd5, ?_⟩
    rw [kvF_some F5.own.len]
    walk_at "s"
    refine ifB (fun q1 => ?_) (fun q1 => ?_)
    · have q1 : fe.name ∉ fs.map (·.name) := by simpa using q1
      walk_at "s"
      refine ⟨sz, fun l6 H6 hl6 hv6 e6 => ?_⟩
      refine ⟨l6, _, rfl, .inl (SqL.of hv6), rfl, rfl, ?_⟩
      have hb1 : (if true = true then !inV (V.str fe.kind.str) [V.str "behind", V.str "next"] else inV (V.str fe.kind.str) [V.str "behind", V.str "next"]) = !decide (fe.kind = .behind ∨ fe.kind = .next) := by
        cases fe.kind <;> decide +kernel
      rw [hb1]
      walk_at "s"
      refine ifB (fun q2 => ?_) (fun q2 => ?_)
      · have q2 : ¬ (fe.kind = .behind ∨ fe.kind = .next) := by simpa using q2
        exact hQ' _ _ ⟨true, rfl, ⟨fun _ => ⟨q1, fun z => absurd z q2⟩, fun _ => rfl⟩, e6⟩
      have q2 : fe.kind = .behind ∨ fe.kind = .next := by
        by_cases h : fe.kind = .behind ∨ fe.kind = .next
        · exact h
        · rw [decide_eq_false h] at q2
          cases q2
      have hat : atI fe.things 0 = some (.str fe.s) := by
        unfold Fe.things
        split <;> rfl
      have F6 := F5.ext e6.no
      obtain ⟨_, _, _, _, _, gF6⟩ := F6.own.get
      walk_at "s"
      refine ⟨_, _, _, _, rfl, rfl, SqT.of (e6.fix _ _ hth5 rfl), hat, ?_⟩
      walk_at "s"
      refine ⟨_, _, rfl, gF6, ?_⟩
      walk_at "s"
      refine ⟨_, _, rfl, DGet.k (k := .inr fe.s) (e6.dk _ _ hfd5 id), ?_⟩
      rw [kvF_some F5.own.len]
      exact hQ' _ _ ⟨decide (fe.s ∈ fs.map (·.name)), rfl, ⟨fun z => ⟨q1, fun _ => of_decide_eq_true z⟩, fun z => decide_eq_true (z.dep q2)⟩, e6⟩
    · have q1 : fe.name ∈ fs.map (·.name) := by simpa using q1
      walk_at "s"
      exact hQ' _ _ ⟨false, rfl, ⟨(fun z => by cases z), fun z => absurd q1 z.new⟩, .refl⟩
  rintro v H6 ⟨good, rfl, hgood, e6⟩
  have F6 := F5.ext e6.no
  have gd6 := e6.gd gd5
  have hd6 := hd5.ext e6 id
  have hp6 := e6.lst _ _ hp5 id
  have hfd6 := e6.dk _ _ hfd5 id
  have hth6 := e6.fix _ _ hth5 rfl
  clear F5 gd5 hd5 hp5 hfd5 hth5 htt5 e6
  walk_at "s"
  refine ⟨gd6.2, fun H7 eN eP T7 => ?_⟩
  have e7 : Ext (TT K) No H6 H7 := law_lam tk eN eP T7
  have F7 := F6.ext e7.no
  obtain ⟨dxf, lf⟩ := id F7.f.at_
  walk_at "s"
  refine ⟨_, _, _, rfl, lf, rfl, ?_⟩
  walk_at "s"
  intro z dz hz hdz hzne
  refine ⟨z, dz, th, fe.name, fe.kind.str, fe.things, H7, rfl, hz, hdz, hzne, rfl, .inr (SqT.of (e7.fix _ _ hth6 rfl)), fun _ t8 H8 hz8 ht8 e8 => ?_, fun q => absurd (show FV fe.name fe.kind.str fe.things.length from ⟨hne, fe.kind, rfl, fe.things_len⟩) q⟩
  have e78 := e7.trans e8
  have F8 := F6.ext e78.no
  have gd8 := e78.gd gd6
  have hd8 := hd6.ext e78 id
  have hp8 := e78.lst _ _ hp6 id
  have hfd8 := e78.dk _ _ hfd6 id
  have hth8 := e78.fix _ _ hth6 rfl
  clear F6 F7 gd6 hd6 hp6 hfd6 hth6 eN eP T7 e7 e8 e78 lf hz hdz hzne
  have hlen8 : fs.length < 8 := by omega
  walk_at "s"
  refine ⟨x, c, fq, z, .ref mp, Y.W, Y.f0, fs, as2, fe, rfl, F8.f.at_, F8.f.d, F8.d, ⟨dz, t8, hz8, ht8⟩, .inr ⟨mp, rfl⟩, by omega, fun hA H9 hD9 hfq9 e9 => ?_, fun hA H9 e9 => ⟨true, T.xm_FeastError_MoonError, fun _ => ?_, fun z => by cases z⟩⟩
  · have hG : GoodF fs fe := ⟨hA.new, hA.dep⟩
    have hgt : good = true := hgood.mpr hG
    subst hgt
    have ofq : ¬ o = fq := fun z => F8.q2 z.symm
    have nl9 : ∀ b xs, b = fq → H8 b ≠ some (.lst xs) := fun b xs z q => by rw [z, F8.d] at q; cases q
    have O9 := F8.own.extM e9 ofq F8.q3 nl9
    have A9 : FsOk K H9 x c fq (.ref mp) Y (fs ++ [fe]) (as2 ++ [z]) := ⟨F8.f.at_.ext e9, hD9, F8.f.cal.ext e9, F8.f.ms, F8.f.ok, F8.f.w1, fun z => by
      obtain ⟨mp', h1, h2, h3⟩ := F8.f.moon z
      exact ⟨mp', h1, h2.ext e9, h3⟩, F8.f.wf.snoc hFe hG (fun z => nomatch z)⟩
    have gd9 := e9.gd gd8
    have hd9 := hd8.ext e9 (Ne.symm F8.q1)
    have hp9 := e9.lst _ _ hp8 (fun z => nl9 _ _ z hp8)
    have hfd9 := e9.dk _ _ hfd8 F8.q3
    have hth9 := e9.fix _ _ hth8 rfl
    obtain ⟨kvo, ho8, hol⟩ := F8.ol
    have ho9 := e9.dk _ _ ho8 ofq
    obtain ⟨_, _, _, _, _, gF9⟩ := O9.get
    walk_at "s"
    refine ⟨_, _, rfl, gF9, ?_⟩
    refine ⟨fd, _, rfl, hfd9, fun H10 pl ts hkp hpl hts hpt hpv hpr => ?_⟩
    have e10 : Ext (TT K) No H9 H10 := Ext.kept hkp
    walk_at "s"
    refine ⟨sz, fun t11 H11 ht11 hv11 e11 => ?_⟩
    walk_at "s"
    refine ⟨sz, fun t12 H12 ht12 hv12 e12 => ?_⟩
    walk_at "s"
    refine ⟨sz, fun l13 H13 hl13 hv13 e13 => ?_⟩
    walk_at "s"
    refine .inr ⟨_, rfl, ?_⟩
    refine ⟨l13, 1, _, rfl, rfl, hv13, by decide, by decide, sz (show (1 : Nat) ≤ 1000 by decide), fun pa Ha hpa hva ea => ?_⟩
    have hva : Ha pa = some (.lst [.ref t12]) := hva
    have e1a := e11.trans (e12.trans (e13.trans ea))
    have htsl : ts.length = (kvF fs as).length := paired_len hpr
    rw [kvF_len F8.own.len] at htsl
    refine ⟨pl, pa, _, _, rfl, rfl, e1a.lst _ _ hpv id, hva, (by rw [List.length_map, htsl]; exact sz (by show _ + 1 ≤ _; omega)), fun pb Hb hpb hvb eb => ?_⟩
    have e1b := e1a.trans eb
    have ht11b := (e12.trans (e13.trans (ea.trans eb))).fix _ _ hv11 rfl
    have ht12b := (e13.trans (ea.trans eb)).fix _ _ hv12 rfl
    have hpr2 : Paired (fun p kv => SqT K Hb p [L2.kV kv.1, kv.2]) (ts ++ [t12]) (kvF (fs ++ [fe]) (as ++ [t11])) := by
      rw [kvF_snoc F8.own.len]
      have q1 : Paired (fun p (kv : Key × V) => SqT K Hb p [L2.kV kv.1, kv.2]) ts (kvF fs as) := paired_map hpr fun a b q => SqT.of (e1b.fix _ _ q rfl)
      exact paired_snoc (F := fun p (kv : Key × V) => SqT K Hb p [L2.kV kv.1, kv.2]) (SqT.of ht12b) q1
    have hwf := F8.law.snoc hFe hG (fun z => nomatch z)
    have hl2 : (as ++ [t11]).length = (fs ++ [fe]).length := by
      have := F8.own.len
      simp [this]
    have e9b := e10.trans e1b
    walk_at "s"
    refine ⟨pb, ts ++ [t12], kvF (fs ++ [fe]) (as ++ [t11]), rfl, SqL.of (by rw [List.map_append]; exact hvb), hpr2, fun fd' Hc hfc hvc ec => ?_⟩
    rw [(merge_nd _ [] (by rw [List.nil_append]; exact kvF_nd hl2 hwf.wf.nd)).trans (List.nil_append _)] at hvc
    have e9c := e9b.trans ec
    have Oc := O9.extM e9c id id (fun _ _ z => z.elim)
    have hoc := e9c.dk _ _ ho9 id
    have hdc := e9c.dk _ _ hfq9 id
    have hdqc := hd9.ext e9b id
    have n1 : fd' ≠ fq := fun z => by rw [z, e9b.dk _ _ hfq9 id] at hfc; cases hfc
    have n2 : fd' ≠ o := fun z => by rw [z, e9b.dk _ _ ho9 id] at hfc; cases hfc
    have n3 : fd' ≠ dq := fun z => by obtain ⟨_, _, _, g⟩ := hdqc; rw [z, g] at hfc; cases hfc
    have eo : Ext (TT K) (· = o) Hc (upd Hc o (.dK (putK kvo (.inr "feasts") (.ref fd')))) := Ext.setK hoc rfl
    have hdc2 := hdqc.ext ec id
    have hpc := e9c.lst _ _ hp9 id
    walk_at "s"
    refine ⟨o, _, rfl, .inl ⟨_, .inr "feasts", hoc, rfl, szl (by omega), rfl⟩, ?_⟩
    refine ⟨_, _, _, _, _, fd', fs ++ [fe], as ++ [t11], as2 ++ [z], rfl, LF.step Oc hoc hol hvc hl2 (fun j f a g1 g2 => ?_) hwf (A9.ext e9c id) hdc F8.w60 (by rw [List.length_append]; show _ + 1 ≤ _; omega) (fun f hf => ?_) F8.q1 F8.q2 n1 n2 n3, eo.dk _ _ hvc n2, by rw [List.length_append]; show _ + 1 ≤ _; omega, eo.gd (e9c.gd gd9), hdc2.ext eo (Ne.symm F8.own.own.od), eo.lst _ _ hpc (fun z => by rw [z, hoc] at hpc; cases hpc)⟩
    · have hol := F8.own.len
      rcases snoc_cases g1 with q | ⟨rfl, rfl⟩
      · have hj := (List.getElem?_eq_some_iff.mp q).1
        rw [List.getElem?_append_left (by omega)] at g2
        exact Oc.each j f a q g2
      · rw [List.getElem?_append_right (by omega)] at g2
        have hz : fs.length - as.length = 0 := by omega
        rw [hz] at g2
        cases g2
        exact ⟨th, ec.fix _ _ ht11b rfl, SqT.of (e9c.fix _ _ hth9 rfl)⟩
    · rcases List.mem_append.mp hf with q | q
      · exact F8.sok f q
      · obtain rfl := List.mem_singleton.mp q
        exact hsk
  · have hG : ¬ GoodF fs fe := fun q => hA ⟨q.new, by omega, q.dep, fun _ => (fun z => nomatch z)⟩
    have hgf : good = false := by
      cases good
      · rfl
      · exact absurd (hgood.mp rfl) hG
    subst hgf
    have F9 := F8.ext e9.no
    have gd9 := e9.gd gd8
    have hd9 := hd8.ext e9 id
    have hp9 := e9.lst _ _ hp8 id
    have hfd9 := e9.dk _ _ hfd8 id
    obtain ⟨kvo, ho9, hol⟩ := F9.ol
    obtain ⟨_, _, _, _, _, gF9⟩ := F9.own.get
    have O9 := F9.own
    have hfq9 := F9.d
    have hl2 := F9.own.len
    walk_at "s"
    refine ⟨_, _, rfl, gF9, ?_⟩
    refine ⟨fd, _, rfl, hfd9, fun H10 pl ts hkp hpl hts hpt hpv hpr => ?_⟩
    have e10 : Ext (TT K) No H9 H10 := Ext.kept hkp
    walk_at "s"
    refine ⟨sz, fun t11 H11 ht11 hv11 e11 => ?_⟩
    walk_at "s"
    refine ⟨sz, fun t12 H12 ht12 hv12 e12 => ?_⟩
    walk_at "s"
    refine ⟨sz, fun l13 H13 hl13 hv13 e13 => ?_⟩
    walk_at "s"
    refine .inr ⟨_, rfl, ?_⟩
    refine ⟨l13, 0, _, rfl, rfl, hv13, by decide, by decide, by simp, fun pa Ha hpa hva ea => ?_⟩
    have hva : Ha pa = some (.lst []) := hva
    have e1a := e11.trans (e12.trans (e13.trans ea))
    have htsl : ts.length = (kvF fs as).length := paired_len hpr
    rw [kvF_len F8.own.len] at htsl
    refine ⟨pl, pa, _, _, rfl, rfl, e1a.lst _ _ hpv id, hva, (by rw [List.length_map, htsl]; exact sz (by show _ + 0 ≤ _; omega)), fun pb Hb hpb hvb eb => ?_⟩
    rw [List.append_nil] at hvb
    have e1b := e1a.trans eb
    have e9b := e10.trans e1b
    walk_at "s"
    refine ⟨pb, ts, kvF fs as, rfl, SqL.of hvb, paired_map hpr fun a b q => SqT.of (e1b.fix _ _ q rfl), fun fd' Hc hfc hvc ec => ?_⟩
    rw [(merge_nd _ [] (by rw [List.nil_append]; exact kvF_nd hl2 F9.law.wf.nd)).trans (List.nil_append _)] at hvc
    have e9c := e9b.trans ec
    have Oc := O9.extM e9c id id (fun _ _ z => z.elim)
    have hoc := e9c.dk _ _ ho9 id
    have hdc := e9c.dk _ _ hfq9 id
    have hdqc := hd9.ext e9b id
    have n1 : fd' ≠ fq := fun z => by rw [z, e9b.dk _ _ hfq9 id] at hfc; cases hfc
    have n2 : fd' ≠ o := fun z => by rw [z, e9b.dk _ _ ho9 id] at hfc; cases hfc
    have n3 : fd' ≠ dq := fun z => by obtain ⟨_, _, _, g⟩ := hdqc; rw [z, g] at hfc; cases hfc
    have eo : Ext (TT K) (· = o) Hc (upd Hc o (.dK (putK kvo (.inr "feasts") (.ref fd')))) := Ext.setK hoc rfl
    have hdc2 := hdqc.ext ec id
    have hpc := e9c.lst _ _ hp9 id
    walk_at "s"
    refine ⟨o, _, rfl, .inl ⟨_, .inr "feasts", hoc, rfl, szl (by omega), rfl⟩, ?_⟩
    exact ⟨_, _, _, _, _, fd', fs, as, as2, rfl, LF.step Oc hoc hol hvc hl2 Oc.each F9.law (F9.f.ext e9c id) hdc F9.w60 F9.len F9.sok F9.q1 F9.q2 n1 n2 n3, eo.dk _ _ hvc n2, by omega, eo.gd (e9c.gd gd9), hdc2.ext eo (Ne.symm F9.own.own.od), eo.lst _ _ hpc (fun z => by rw [z, hoc] at hpc; cases hpc)⟩
end K60

set_option Elab.async false
set_option linter.all false
set_option maxRecDepth 100000
set_option maxHeartbeats 2000000
namespace K60
open PySem PySem.Spec PyProof.Rows L2 MB
local macro_rules | `(tactic| walk_at "s") => `(tactic| repeat (first | refine ⟨_, rfl, ?_⟩ | refine ⟨_, _, rfl, rfl, ?_⟩ | refine ⟨_, _, rfl, ?_⟩ | refine ⟨rfl, ?_⟩))
variable {P : Program} {w : World} {K : PySem.W.Frag} {mg : Str → Option Value} {base : Heap}
theorem wfNil {Y : Yr} {mv : V} : WfF Y mv [] := ⟨by simp, fun _ z => by simp at z, fun _ _ z => by simp at z, fun _ z => by simp at z⟩
theorem OwnAt.put {dq o : Addr} {H : Hp} {ms : Mons} {lg : Str} {rs : MM.Rules} {kvs : List (Key × V)} {k : Key} {v : V} (h : OwnAt K dq H o ms lg rs) (hk : H o = some (.dK kvs)) (n1 : ¬ (.inr "months" : Key) = k) (n2 : ¬ (.inr "longer" : Key) = k) (n3 : ¬ (.inr "rules" : Key) = k) : OwnAt K dq (upd H o (.dK (putK kvs k v))) o ms lg rs := by
  have e : Ext (TT K) (· = o) H (upd H o (.dK (putK kvs k v))) := Ext.setK hk rfl
  obtain ⟨⟨mq, rq, ts, rts, ⟨kv1, k1, k2, k3, k4⟩, g2, g3, g4, g4', g5, g6⟩, g7⟩ := h
  rw [hk] at k1
  cases k1
  have nl : ∀ {b xs}, H b = some (.lst xs) → ¬ b = o := fun q z => by rw [z, hk] at q; cases q
  exact ⟨⟨mq, rq, ts, rts, ⟨_, upd_same, by rw [valV_put, if_neg n1]; exact k2, by rw [valV_put, if_neg n2]; exact k3, by rw [valV_put, if_neg n3]; exact k4⟩, e.lst _ _ g2 (nl g2), g3.ext e, e.lst _ _ g4 (nl g4), g4'.ext e, g5, g6⟩, g7⟩
theorem law_C (T : Tx K mg base) (tk : TOk (TT K)) (tl : LamNe K) (A : Around) (outer : List Env) (s : Shared) (H0 : Hp) (E : XK) (hr : Room 79 (A.deeper (envOfC "law" (defScope s_law) s.heap.objs.size (He.fAd K ("law", none)) (.ref (He.cT K ("law", none)).1)))) :
    ∃ t, PSs (cxOf (L2.CX P w) P w K mg base ["script", "dice", "own", "parts", "calendar", "moons", "feasts", "step", "name", "kind", "things", "good", "year", "last", "rows", "place", "day", "names", "one", "other", "both", "k", "a", "b", "days"] "law" (defScope s_law) (He.fAd K ("law", none)) (.ref (He.cT K ("law", none)).1) A outer s H0 E) (lawBody.drop 0) t ∧
      ∀ (D : Ends) (v_own v_parts v_calendar v_moons v_feasts v_step v_name v_kind v_things v_good v_year v_last v_rows v_place v_day v_names v_one v_other v_both v_k v_a v_b v_days : Option V) (a dq p0 : Addr)  (H' : Hp), Gd (TT K) H' → DiceAt H' dq → H' p0 = some (.lst [.ref dq]) → p0 ≠ dq →  (∀ σ2 H2, Gd (TT K) H2 → H2 p0 = some (.lst [.ref dq]) → D.nx σ2 H2) → t D [some (.ref a), some (.ref dq), v_own, v_parts, v_calendar, v_moons, v_feasts, v_step, v_name, v_kind, v_things, v_good, v_year, v_last, v_rows, v_place, v_day, v_names, v_one, v_other, v_both, v_k, v_a, v_b, v_days] H' := by
  obtain ⟨oc, od, dV, kV, doc, pm, an, cdv, ct, osl, efd, lk, hcg, hDf, _⟩ := T.F_law_told.ex
  have hbt := bi_law_told T
  rw [efd] at hbt
  rw [efd] at lk
  have ok_Calendar_short := fun T : Tx K mg base => ok_Calendar_short (P := P) (w := w) T tk
  have ok_Feasts_nth := fun T : Tx K mg base => ok_Feasts_nth (P := P) (w := w) T tk
  have ok_Feasts_day := fun T : Tx K mg base => ok_Feasts_day (P := P) (w := w) T tk 8
  have ok_Feasts_meet := fun T : Tx K mg base => ok_Feasts_meet (P := P) (w := w) T tk 8
  have ok_Feasts_spread := fun T : Tx K mg base => ok_Feasts_spread (P := P) (w := w) T tk 8
  have ok_Feasts_year := fun T : Tx K mg base => ok_Feasts_year (P := P) (w := w) T tk 8
  have ok_law_falls := fun T : Tx K mg base => ok_law_falls (P := P) (w := w) T tk 8
  refine ⟨_, (pss_cons (ps_asg (pe_tupN (T := TT K) (pa_cons (pe_call (ok_law_calendar T) (hr.mono (by first | decide | omega)) rfl T.g_law_calendar T.F_law_calendar.kp (bi_law_calendar T) .nil (passes_call (takes_of rfl rfl rfl rfl) fun _ _ _ _ h => h) (pa_cons (pv 1) pa_nil)) (pa_cons (pe_op op_add pe_int (pe_call (ok_law_roll T) (hr.mono (by first | decide | omega)) rfl T.g_law_roll T.F_law_roll.kp (bi_law_roll T) .nil (passes_call (takes_of rfl rfl rfl rfl) fun _ _ _ _ h => h) (pa_cons (pv 1) (pa_cons pe_int pa_nil)))) pa_nil))) (pg_tupK (K := K) (n := 2) rfl rfl (pgs_cons (pg_name (i := 2) sc_law.nd rfl (Or.inr rfl)) (pgs_cons (pg_name (i := 3) sc_law.nd rfl (Or.inl rfl)) pgs_nil))))
 (pss_cons (ps_asg (pe_tupN (T := TT K) (pa_cons (pe_op op_add (pe_op op_mul (pv 3) (pe_op op_add pe_int (pe_call (ok_law_roll T) (hr.mono (by first | decide | omega)) rfl T.g_law_roll T.F_law_roll.kp (bi_law_roll T) .nil (passes_call (takes_of rfl rfl rfl rfl) fun _ _ _ _ h => h) (pa_cons (pv 1) (pa_cons pe_int pa_nil))))) (pe_call (ok_law_roll T) (hr.mono (by first | decide | omega)) rfl T.g_law_roll T.F_law_roll.kp (bi_law_roll T) .nil (passes_call (takes_of rfl rfl rfl rfl) fun _ _ _ _ h => h) (pa_cons (pv 1) (pa_cons (pv 3) pa_nil)))) (pa_cons (pv 3) (pa_cons (pe_call (ok_law_roll T) (hr.mono (by first | decide | omega)) rfl T.g_law_roll T.F_law_roll.kp (bi_law_roll T) .nil (passes_call (takes_of rfl rfl rfl rfl) fun _ _ _ _ h => h) (pa_cons (pv 1) (pa_cons (pv 3) pa_nil))) pa_nil)))) (pg_sub (pv 2) pe_str (set_dict (Nat.lt_of_le_of_lt (Nat.add_le_add_left (by decide) _) hr.units))))
 (pss_cons (ps_asg (pe_tupN (T := TT K) (pa_cons (pe_op op_add pe_int (pe_call (ok_law_roll T) (hr.mono (by first | decide | omega)) rfl T.g_law_roll T.F_law_roll.kp (bi_law_roll T) .nil (passes_call (takes_of rfl rfl rfl rfl) fun _ _ _ _ h => h) (pa_cons (pv 1) (pa_cons pe_int pa_nil)))) (pa_cons pe_dnewK pa_nil))) (pg_tupK (K := K) (n := 2) rfl rfl (pgs_cons (pg_sub (pv 2) pe_str (set_dict (Nat.lt_of_le_of_lt (Nat.add_le_add_left (by decide) _) hr.units))) (pgs_cons (pg_sub (pv 2) pe_str (set_dict (Nat.lt_of_le_of_lt (Nat.add_le_add_left (by decide) _) hr.units))) pgs_nil))))
 (pss_cons (ps_asg (pe_call (ok_law_roll T) (hr.mono (by first | decide | omega)) rfl T.g_law_roll T.F_law_roll.kp (bi_law_roll T) .nil (passes_call (takes_of rfl rfl rfl rfl) fun _ _ _ _ h => h) (pa_cons (pv 1) (pa_cons (pe_dget (Nat.lt_of_le_of_lt (Nat.add_le_add_left (by decide) _) hr.units) (pv 2) pe_str (fun _ _ => rfl)) pa_nil))) (pg_sub (pv 2) pe_str (set_dict (Nat.lt_of_le_of_lt (Nat.add_le_add_left (by decide) _) hr.units))))
 (pss_cons (ps_par (i := 4) (j := 5) rfl sc_law.nd rfl rfl (by decide) rfl rfl (pa_cons (pe_make T.mk_Calendar (ok_Calendar_init T tk) (hr.mono (by first | decide | omega)) rfl T.g_Calendar (bi_Calendar_init T) .nil (passes_call (takes_of rfl rfl rfl rfl) fun _ _ _ _ h => h) (pa_cons (pe_dget (Nat.lt_of_le_of_lt (Nat.add_le_add_left (by decide) _) hr.units) (pv 2) pe_str (fun _ _ => rfl)) (pa_cons (pe_dget (Nat.lt_of_le_of_lt (Nat.add_le_add_left (by decide) _) hr.units) (pv 2) pe_str (fun _ _ => rfl)) (pa_cons (pe_dget (Nat.lt_of_le_of_lt (Nat.add_le_add_left (by decide) _) hr.units) (pv 2) pe_str (fun _ _ => rfl)) pa_nil)))) (pa_cons (pe_make T.mk_Moons (ok_Moons_init T) (hr.mono (by first | decide | omega)) rfl T.g_Moons (bi_Moons_init T) .nil (passes_call (takes_of rfl rfl rfl rfl) fun _ _ _ _ h => h) (pa_cons (pe_ix (ix_tupK (K := K) rfl) (pe_dget (Nat.lt_of_le_of_lt (Nat.add_le_add_left (by decide) _) hr.units) (pv 2) pe_str (fun _ _ => rfl)) pe_int (fun _ _ => rfl)) (pa_cons (pe_ix (ix_tupK (K := K) rfl) (pe_dget (Nat.lt_of_le_of_lt (Nat.add_le_add_left (by decide) _) hr.units) (pv 2) pe_str (fun _ _ => rfl)) pe_int (fun _ _ => rfl)) (pa_cons (pe_ix (ix_tupK (K := K) rfl) (pe_dget (Nat.lt_of_le_of_lt (Nat.add_le_add_left (by decide) _) hr.units) (pv 2) pe_str (fun _ _ => rfl)) pe_int (fun _ _ => rfl)) pa_nil)))) pa_nil)) rfl)
 (pss_cons (ps_set (i := 6) sc_law.nd rfl (Or.inr rfl) (pe_make T.mk_Feasts (ok_Feasts_init T) (hr.mono (by first | decide | omega)) rfl T.g_Feasts (bi_Feasts_init T) .nil (passes_call (takes_of rfl rfl rfl rfl) fun _ _ _ _ h => h) (pa_cons (pv 4) (pa_cons (pv 5) (pa_cons (pe_dget (Nat.lt_of_le_of_lt (Nat.add_le_add_left (by decide) _) hr.units) (pv 2) pe_str (fun _ _ => rfl)) (pa_cons (pe_dget (Nat.lt_of_le_of_lt (Nat.add_le_add_left (by decide) _) hr.units) (pv 2) pe_str (fun _ _ => rfl)) pa_nil))))))
 (law_D T tk tl A outer s H0 E hr).choose_spec.1)))))), ?_⟩
  intro D v_own v_parts v_calendar v_moons v_feasts v_step v_name v_kind v_things v_good v_year v_last v_rows v_place v_day v_names v_one v_other v_both v_k v_a v_b v_days a dq p0 H' gd dice hp0 hpd hD
  walk_at "s"
  refine ⟨dice, fun o ms lg rs H1 ho1 hk1 ov1 hd1 e1 => ?_⟩
  have gd1 := e1.gd gd
  have hp1 := e1.lst _ _ hp0 hpd
  walk_at "s"
  refine ⟨hd1, by decide, by decide, fun pr H2 hpr hd2 e2 => ?_⟩
  have ho2 := ho1.ext e2
  have gd2 := e2.gd gd1
  have hp2 := e2.lst _ _ hp1 hpd
  obtain ⟨kv1, hk1, hl1⟩ := hk1
  have hk2 := e2.dk _ _ hk1 ho1.od
  obtain ⟨pp, hpp, hpp1, hpp5⟩ : ∃ pp : Nat, (1 : Int) + (pr : Nat) = (pp : Nat) ∧ 1 ≤ pp ∧ pp ≤ 5 := ⟨pr + 1, by omega, by omega, by omega⟩
  clear e1 gd hp0 dice gd1 hp1 hd1 ho1 hk1
  walk_at "s"
  refine ⟨sz, fun t3 H3 ht3 hv3 e3 => ?_⟩
  refine ⟨_, _, rfl, SqT.of hv3, rfl, ?_⟩
  have ho3 := ho2.ext (e3.no (M := (· = dq)))
  have gd3 := (e3.no (M := (· = dq))).gd gd2
  have hp3 := (e3.no (M := (· = dq))).lst _ _ hp2 hpd
  have hk3 := (e3.no (M := (· = dq))).dk _ _ hk2 ho2.od
  have hd3 := hd2.ext e3 id
  clear hv3 ht3 ho2 gd2 hp2 hk2 hd2 e2 e3
  dsimp only
  rw [hpp]
  walk_at "s"
  refine ⟨hd3, by decide, by decide, fun r1 H4 hr1 hd4 e4 => ?_⟩
  have ho4 := ho3.ext e4
  have gd4 := e4.gd gd3
  have hp4 := e4.lst _ _ hp3 hpd
  have hk4 := e4.dk _ _ hk3 ho3.od
  have hr1 : r1 < 12 := by omega
  have hL1 : pp * (2 + r1) ≤ 5 * 13 := Nat.mul_le_mul hpp5 (by omega)
  have hL2 : pp * 2 ≤ pp * (2 + r1) := Nat.mul_le_mul_left pp (by omega)
  have hL3 : pp * (2 + r1) ≤ pp * 13 := Nat.mul_le_mul_left pp (by omega)
  clear gd3 hp3 hk3 hd3 ho3 e4
  walk_at "s"
  refine ⟨.inl ⟨by omega, by omega⟩, ?_⟩
  walk_at "s"
  refine ⟨hd4, by omega, by omega, fun r2 H5 hr2 hd5 e5 => ?_⟩
  have ho5 := ho4.ext e5
  have gd5 := e5.gd gd4
  have hp5 := e5.lst _ _ hp4 hpd
  have hk5 := e5.dk _ _ hk4 ho4.od
  clear gd4 hp4 hk4 hd4 ho4 e5
  have eLL : ((pp : Nat) : Int) * (2 + ((r1 : Nat) : Int)) + ((r2 : Nat) : Int) = ((pp * (2 + r1) + r2 : Nat) : Int) := by push_cast; rfl
  obtain ⟨L, hL⟩ : ∃ L, L = pp * (2 + r1) + r2 := ⟨_, rfl⟩
  rw [← hL] at eLL
  have hr2 : r2 < pp := by omega
  have mlo : 2 * pp ≤ L := by omega
  have mhi : L ≤ 100 * pp := by omega
  refine ⟨_, _, rfl, rfl, ?_⟩
  dsimp only
  rw [eLL]
  clear eLL hL
  walk_at "s"
  refine ⟨hd5, by omega, by omega, fun r3 H6 hr3 hd6 e6 => ?_⟩
  have hr3 : r3 < pp := by omega
  have mok : MOk L pp r3 := ⟨by omega, by omega, mlo, mhi, hr3⟩
  have ho6 := ho5.ext e6
  have gd6 := e6.gd gd5
  have hp6 := e6.lst _ _ hp5 hpd
  have hk6 := e6.dk _ _ hk5 ho5.od
  clear gd5 hp5 hk5 hd5 ho5 e6
  walk_at "s"
  refine ⟨sz, fun mt H7 hmt hv7 e7 => ?_⟩
  have ho7 := ho6.ext (e7.no (M := (· = dq)))
  have gd7 := (e7.no (M := (· = dq))).gd gd6
  have hp7 := (e7.no (M := (· = dq))).lst _ _ hp6 hpd
  have hk7 := (e7.no (M := (· = dq))).dk _ _ hk6 ho6.od
  have hd7 := hd6.ext e7 id
  clear gd6 hp6 hk6 hd6 ho6 e7
  walk_at "s"
  refine ⟨o, _, rfl, .inl ⟨_, .inr "moon", hk7, rfl, szl (by omega), rfl⟩, ?_⟩
  obtain ⟨kv2, hkv8⟩ : ∃ kk, kk = putK kv1 (.inr "moon") (.ref mt) := ⟨_, rfl⟩
  rw [← hkv8]
  obtain ⟨H8, hH8⟩ : ∃ HH, HH = upd H7 o (.dK kv2) := ⟨_, rfl⟩
  rw [← hH8]
  have ho8 : OwnAt K dq H8 o ms lg rs := by rw [hH8, hkv8]; exact ho7.put hk7 (by decide +kernel) (by decide +kernel) (by decide +kernel)
  have eo8 : Ext (TT K) (· = o) H7 H8 := by rw [hH8]; exact Ext.setK hk7 rfl
  have hk8 : H8 o = some (.dK kv2) := by rw [hH8]; exact upd_same
  have hl8 : kv2.length ≤ kv1.length + 1 := by rw [hkv8]; exact length_putK _ _ _
  have gd8 := eo8.gd gd7
  have hd8 := hd7.ext eo8 (Ne.symm ho7.od)
  have hp8 := eo8.lst _ _ hp7 (fun z => by rw [z, hk7] at hp7; cases hp7)
  clear hH8
  have hmt8 := eo8.fix _ _ hv7 rfl
  clear gd7 hp7 hk7 hd7 ho7 eo8 hv7
  walk_at "s"
  refine ⟨hd8, by decide, by decide, fun rw9 H9 hrw hd9 e9 => ?_⟩
  have ho9 := ho8.ext e9
  have gd9 := e9.gd gd8
  have hp9 := e9.lst _ _ hp8 hpd
  have hk9 := e9.dk _ _ hk8 ho8.od
  have hmt9 := e9.fix _ _ hmt8 rfl
  obtain ⟨W, hW, hW1, hW7⟩ : ∃ W : Nat, (1 : Int) + (rw9 : Nat) = (W : Nat) ∧ 1 ≤ W ∧ W ≤ 7 := ⟨rw9 + 1, by omega, by omega, by omega⟩
  clear gd8 hp8 hk8 hd8 ho8 e9 hmt8
  refine ⟨_, _, rfl, rfl, ?_⟩
  dsimp only
  rw [hW]
  walk_at "s"
  intro fd hfd
  have e10 : Ext (TT K) No H9 (upd H9 fd (.dK [])) := Ext.new hfd
  have hfd10 : upd H9 fd (.dK []) fd = some (.dK []) := upd_same
  have nfo : fd ≠ o := fun z => by rw [z, hk9] at hfd; cases hfd
  have nfd : fd ≠ dq := fun z => by obtain ⟨_, _, _, g⟩ := hd9; rw [z, g] at hfd; cases hfd
  generalize upd H9 fd (.dK []) = H10 at e10 hfd10
  have ho10 := ho9.ext (e10.no (M := (· = dq)))
  have gd10 := (e10.no (M := (· = dq))).gd gd9
  have hp10 := (e10.no (M := (· = dq))).lst _ _ hp9 hpd
  have hk10 := (e10.no (M := (· = dq))).dk _ _ hk9 ho9.od
  have hd10 := hd9.ext e10 id
  have hmt10 := e10.fix _ _ hmt9 rfl
  clear gd9 hp9 hk9 hd9 ho9 e10 hmt9 hfd
  walk_at "s"
  refine ⟨sz, fun t11 H11 ht11 hv11 e11 => ?_⟩
  refine ⟨_, _, rfl, SqT.of hv11, rfl, ?_⟩
  have ho11 := ho10.ext (e11.no (M := (· = dq)))
  have gd11 := (e11.no (M := (· = dq))).gd gd10
  have hp11 := (e11.no (M := (· = dq))).lst _ _ hp10 hpd
  have hk11 := (e11.no (M := (· = dq))).dk _ _ hk10 ho10.od
  have hd11 := hd10.ext e11 id
  have hmt11 := e11.fix _ _ hmt10 rfl
  have hfd11 := e11.dk _ _ hfd10 id
  clear gd10 hp10 hk10 hd10 ho10 e11 hmt10 hfd10 hv11 ht11
  walk_at "s"
  refine ⟨o, _, rfl, .inl ⟨_, .inr "week", hk11, rfl, szl (by omega), rfl⟩, ?_⟩
  obtain ⟨kv3, hkv12⟩ : ∃ kk, kk = putK kv2 (.inr "week") (.int (W : Nat)) := ⟨_, rfl⟩
  rw [← hkv12]
  obtain ⟨H12, hH12⟩ : ∃ HH, HH = upd H11 o (.dK kv3) := ⟨_, rfl⟩
  rw [← hH12]
  have ho12 : OwnAt K dq H12 o ms lg rs := by rw [hH12, hkv12]; exact ho11.put hk11 (by decide +kernel) (by decide +kernel) (by decide +kernel)
  have eo12 : Ext (TT K) (· = o) H11 H12 := by rw [hH12]; exact Ext.setK hk11 rfl
  have hk12 : H12 o = some (.dK kv3) := by rw [hH12]; exact upd_same
  have hl12 : kv3.length ≤ kv2.length + 1 := by rw [hkv12]; exact length_putK _ _ _
  have gd12 := eo12.gd gd11
  have hd12 := hd11.ext eo12 (Ne.symm ho11.od)
  have hp12 := eo12.lst _ _ hp11 (fun z => by rw [z, hk11] at hp11; cases hp11)
  clear hH12
  have hmt12 := eo12.fix _ _ hmt11 rfl
  have hfd12 := eo12.dk _ _ hfd11 nfo
  clear gd11 hp11 hk11 hd11 ho11 eo12 hmt11 hfd11
  walk_at "s"
  refine ⟨o, _, rfl, .inl ⟨_, .inr "feasts", hk12, rfl, szl (by omega), rfl⟩, ?_⟩
  obtain ⟨kv4, hkv13⟩ : ∃ kk, kk = putK kv3 (.inr "feasts") (.ref fd) := ⟨_, rfl⟩
  rw [← hkv13]
  obtain ⟨H13, hH13⟩ : ∃ HH, HH = upd H12 o (.dK kv4) := ⟨_, rfl⟩
  rw [← hH13]
  have ho13 : OwnAt K dq H13 o ms lg rs := by rw [hH13, hkv13]; exact ho12.put hk12 (by decide +kernel) (by decide +kernel) (by decide +kernel)
  have eo13 : Ext (TT K) (· = o) H12 H13 := by rw [hH13]; exact Ext.setK hk12 rfl
  have hk13 : H13 o = some (.dK kv4) := by rw [hH13]; exact upd_same
  have hl13 : kv4.length ≤ kv3.length + 1 := by rw [hkv13]; exact length_putK _ _ _
  have gd13 := eo13.gd gd12
  have hd13 := hd12.ext eo13 (Ne.symm ho12.od)
  have hp13 := eo13.lst _ _ hp12 (fun z => by rw [z, hk12] at hp12; cases hp12)
  clear hH13
  have hmt13 := eo13.fix _ _ hmt12 rfl
  have hfd13 := eo13.dk _ _ hfd12 nfo
  clear gd12 hp12 hk12 hd12 ho12 eo13 hmt12 hfd12
  have gW13 : DGet H13 o (.str "week") (some (.int (W : Nat))) := by
    have q : valV kv4 (.inr "week") = some (.int (W : Nat)) := by
      rw [hkv13, valV_put, if_neg (by decide +kernel), hkv12, valV_put, if_pos rfl]
    exact q ▸ DGet.k (k := .inr "week") hk13
  walk_at "s"
  refine ⟨_, _, rfl, gW13, ?_⟩
  walk_at "s"
  refine ⟨hd13, by omega, by omega, fun f0 H14 hf0 hd14 e14 => ?_⟩
  have ho14 := ho13.ext e14
  have gd14 := e14.gd gd13
  have hp14 := e14.lst _ _ hp13 hpd
  have hk14 := e14.dk _ _ hk13 ho13.od
  have hmt14 := e14.fix _ _ hmt13 rfl
  have hfd14 := e14.dk _ _ hfd13 nfd
  clear gd13 hp13 hk13 hd13 ho13 e14 hmt13 hfd13 gW13
  walk_at "s"
  refine ⟨o, _, rfl, .inl ⟨_, .inr "first", hk14, rfl, szl (by omega), rfl⟩, ?_⟩
  obtain ⟨kv5, hkv15⟩ : ∃ kk, kk = putK kv4 (.inr "first") (.int (f0 : Nat)) := ⟨_, rfl⟩
  rw [← hkv15]
  obtain ⟨H15, hH15⟩ : ∃ HH, HH = upd H14 o (.dK kv5) := ⟨_, rfl⟩
  rw [← hH15]
  have ho15 : OwnAt K dq H15 o ms lg rs := by rw [hH15, hkv15]; exact ho14.put hk14 (by decide +kernel) (by decide +kernel) (by decide +kernel)
  have eo15 : Ext (TT K) (· = o) H14 H15 := by rw [hH15]; exact Ext.setK hk14 rfl
  have hk15 : H15 o = some (.dK kv5) := by rw [hH15]; exact upd_same
  have hl15 : kv5.length ≤ kv4.length + 1 := by rw [hkv15]; exact length_putK _ _ _
  have gd15 := eo15.gd gd14
  have hd15 := hd14.ext eo15 (Ne.symm ho14.od)
  have hp15 := eo15.lst _ _ hp14 (fun z => by rw [z, hk14] at hp14; cases hp14)
  clear hH15
  have hmt15 := eo15.fix _ _ hmt14 rfl
  have hfd15 := eo15.dk _ _ hfd14 nfo
  clear gd14 hp14 hk14 hd14 ho14 eo15 hmt14 hfd14
  have v1 : valV kv5 (.inr "moon") = some (.ref mt) := by
    rw [hkv15, valV_put, if_neg (by decide +kernel), hkv13, valV_put, if_neg (by decide +kernel), hkv12, valV_put, if_neg (by decide +kernel), hkv8, valV_put, if_pos rfl]
  have v2 : valV kv5 (.inr "week") = some (.int (W : Nat)) := by
    rw [hkv15, valV_put, if_neg (by decide +kernel), hkv13, valV_put, if_neg (by decide +kernel), hkv12, valV_put, if_pos rfl]
  have v3 : valV kv5 (.inr "feasts") = some (.ref fd) := by
    rw [hkv15, valV_put, if_neg (by decide +kernel), hkv13, valV_put, if_pos rfl]
  have v4 : valV kv5 (.inr "first") = some (.int (f0 : Nat)) := by
    rw [hkv15, valV_put, if_pos rfl]
  have hl20 : kv5.length ≤ 20 := by omega
  have O15 : OwnF K dq H15 o ⟨ms, lg, rs, (W : Nat), (f0 : Nat), L, pp, r3⟩ fd [] [] := ⟨ho15, ⟨kv5, mt, hk15, v1, hmt15, v2, v4, v3⟩, rfl, .inl hfd15, nfd, fun i f a z _ => by simp at z⟩
  clear hkv8 hkv12 hkv13 hkv15 hl8 hl12 hl13 hl15 v1 v2 v3 v4 hmt15
  obtain ⟨mt2, hmt15, gm15, gw15, gf15, _⟩ := O15.get
  obtain ⟨⟨mq, rq, ts, rts, g1, g2, g3, g4, g4', m5, r6⟩, h7⟩ := id ho15
  walk_at "s"
  refine ⟨_, _, rfl, get_months g1, ?_⟩
  walk_at "s"
  refine ⟨_, _, rfl, get_longer g1, ?_⟩
  walk_at "s"
  refine ⟨_, _, rfl, get_rules g1, ?_⟩
  walk_at "s"
  intro cx dcx hcx hdcx hnec
  refine ⟨cx, dcx, mq, rq, ms, lg, rs, H15, rfl, hcx, hdcx, hnec, rfl, gd15, ⟨ts, .inl (SqL.of g2), g3⟩, by have := ov1.four; omega, ⟨rts, .inl (SqL.of g4), g4'⟩, by have := ov1.ok.six; omega, fun _ _ H16 hC16 e16 => ?_, fun _ z => absurd ov1.mv z, fun z => absurd ⟨ov1.ok.pos, ov1.ok.six, ov1.ok.rng, ov1.ok.asc⟩ z⟩
  have O16 := O15.ext e16.no
  have gd16 := e16.gd gd15
  have hp16 := e16.lst _ _ hp15 id
  have hd16 := hd15.ext e16 id
  have hfd16 := e16.dk _ _ hfd15 id
  have hk16 := e16.dk _ _ hk15 id
  clear hcx hdcx hnec e16 O15 gd15 hp15 hd15 hfd15 hk15 gm15 gw15 gf15 g1 g2 g3 g4 g4' hmt15 ho15
  obtain ⟨mt3, hmt16, gm16, gw16, gf16, _⟩ := O16.get
  refine ⟨rfl, ?_⟩
  walk_at "s"
  refine ⟨_, _, rfl, gm16, ?_⟩
  walk_at "s"
  refine ⟨_, _, _, _, rfl, rfl, SqT.of hmt16, rfl, ?_⟩
  walk_at "s"
  refine ⟨_, _, rfl, gm16, ?_⟩
  walk_at "s"
  refine ⟨_, _, _, _, rfl, rfl, SqT.of hmt16, rfl, ?_⟩
  walk_at "s"
  refine ⟨_, _, rfl, gm16, ?_⟩
  walk_at "s"
  refine ⟨_, _, _, _, rfl, rfl, SqT.of hmt16, rfl, ?_⟩
  walk_at "s"
  intro mx dmx hmx hdmx hnem
  refine ⟨mx, dmx, _, _, _, H16, rfl, hmx, hdmx, hnem, rfl, fun _ H17 hM17 e17 => ?_, fun z => absurd (show MV (L : Nat) (pp : Nat) (r3 : Nat) from ⟨by omega, by omega, by omega, by omega, by omega⟩) z⟩
  have hM17 : MoonsAt (MC K) H17 mx L pp r3 := hM17
  have O17 := O16.ext e17.no
  have gd17 := e17.gd gd16
  have hp17 := e17.lst _ _ hp16 id
  have hd17 := hd16.ext e17 id
  have hfd17 := e17.dk _ _ hfd16 id
  have hk17 := e17.dk _ _ hk16 id
  have hC17 := hC16.ext e17
  clear hmx hdmx hnem e17 O16 gd16 hp16 hd16 hfd16 hk16 gm16 gw16 gf16 hmt16 hC16
  obtain ⟨mt4, hmt17, gm17, gw17, gf17, _⟩ := O17.get
  refine ⟨rfl, ?_⟩
  walk_at "s"
  refine ⟨_, _, rfl, gw17, ?_⟩
  walk_at "s"
  refine ⟨_, _, rfl, gf17, ?_⟩
  walk_at "s"
  intro x dx hx hdx hnex
  refine ⟨x, dx, cx, .ref mx, (W : Nat), (f0 : Nat), H17, rfl, hx, hdx, hnex, rfl, fun _ fq H18 hX18 hfq18 nfq e18 => ?_, fun z => absurd (show FsV (W : Nat) (f0 : Nat) from ⟨by omega, by omega, by omega, by omega⟩) z⟩
  have q1 : fq ≠ dq := fun z => by
    obtain ⟨_, _, _, g⟩ := hd17
    exact nfq.1 _ (by rw [z]; exact g)
  have q2 : fq ≠ o := fun z => nfq.2 _ (by rw [z]; exact hk17)
  have q3 : fd ≠ fq := fun z => nfq.2 _ (by rw [← z]; exact hfd17)
  refine ⟨rfl, ?_⟩
  walk_at "s"
  refine (law_D T tk tl A outer s H0 E hr).choose_spec.2 D _ _ _ _ _ _ _ _ _ _ _ _ _ _ _ _ _ _ _  a dq p0 o x cx fq mx ⟨ms, lg, rs, (W : Nat), (f0 : Nat), L, pp, r3⟩ fd [] [] [] H18 (e18.gd gd17) (hd17.ext e18 id) (e18.lst _ _ hp17 id) hpd ⟨O17.ext e18.no, ⟨wfNil, ov1.mv, ov1, (by show (1 : Int) ≤ (W : Nat); omega), mok, fun f z => by simp at z⟩, ⟨hX18, ⟨rfl, .inl hfq18, fun i f a z => by simp at z⟩, hC17.ext e18, ov1.mv, ov1.ok, (by show (1 : Int) ≤ (W : Nat); omega), fun _ => ⟨mx, rfl, hM17.ext e18, mok⟩, wfNil⟩, hfq18, (by show ((W : Nat) : Int) ≤ 60; omega), (by decide), fun f z => by simp at z, q1, q2, q3, nfo, ⟨kv5, e18.dk _ _ hk17 id, hl20⟩⟩ (e18.dk _ _ hfd17 id) rfl hD
theorem ok_law (T : Tx K mg base) (tk : TOk (TT K)) (tl : LamNe K) (ok_law_plain : ∀ T : Tx K mg base, FnOk P w K mg base (L2.CX P w) 75 (He.fAd K ("_law_plain", none)) T.fd_law_plain [] (spPlain K)) : FnOk P w K mg base (L2.CX P w) 80 (He.fAd K ("law", none)) T.fd_law ["script"] (spLaw K) := by
  refine MB.FunD.okC (d := ("law", none)) T.F_law sc_law (fun vs H Q E h => ?_) (fun A outer s H vs Q E hr h => ⟨_, (pss_cons (ps_for (passes_of rfl) rfl (pi_listK (K := K) rfl (pe_call (ok_law_rounds T) (hr.mono (by first | decide | omega)) rfl T.g_law_rounds T.F_law_rounds.kp (bi_law_rounds T) .nil (passes_call (takes_of rfl rfl rfl rfl) fun _ _ _ _ h => h) (pa_cons (pv 0) (pa_cons pe_int pa_nil)))) (pg_name (i := 1) sc_law.nd rfl (Or.inl rfl)) (law_C T tk tl A outer s H E hr).choose_spec.1)
 (pss_one (ps_ret (pe_call0 (ok_law_plain T) (hr.mono (by first | decide | omega)) rfl T.g_law_plain T.F_law_plain.kp (bi_law_plain T) .nil (passes_call (takes_of rfl rfl rfl rfl) fun _ _ _ _ h => h))))), ?_⟩)
  · obtain ⟨a, ns, rfl, _⟩ := h
    rfl
  · obtain ⟨a, ns, rfl, hS, gd, hQ⟩ := h
    walk_at "s"
    refine ⟨a, ns, rfl, hS, fun p0 dq H1 hp0 hdq hne e1 => ?_⟩
    have gd1 := e1.gd gd
    clear hS e1 gd
    walk_at "s"
    refine ⟨⟨_, SqL.of hp0⟩, ?_⟩
    refine for_list (xs := [.ref dq]) (fun i σ' H' => (i = 0 → σ' = L2.start ["script", "dice", "own", "parts", "calendar", "moons", "feasts", "step", "name", "kind", "things", "good", "year", "last", "rows", "place", "day", "names", "one", "other", "both", "k", "a", "b", "days"] [V.ref a] ∧ H' = H1) ∧ Gd (TT K) H' ∧ H' p0 = some (.lst [.ref dq])) ⟨fun _ => ⟨rfl, rfl⟩, gd1, hp0⟩ (fun i σ' H' _ ⟨_, _, e⟩ => SqL.of e) ?_ ?_
    rotate_left
    · rintro σ2 H2 ⟨_, g2, _⟩
      walk_at "s"
      exact ⟨g2, fun H3 _ => hQ H3⟩
    rintro i x σ' H' hx ⟨h0, _, _⟩
    have hi : i = 0 := by
      have := (List.getElem?_eq_some_iff.mp hx).1
      simp at this
      exact this
    subst hi
    obtain ⟨rfl, rfl⟩ := h0 rfl
    cases hx
    exact (law_C T tk tl A outer s H E hr).choose_spec.2 _ _ _ _ _ _ _ _ _ _ _ _ _ _ _ _ _ _ _ _ _ _ _ _  a dq p0 H' gd1 hdq hp0 (Ne.symm hne) fun σ2 H2 g2 q2 => ⟨fun z => (nomatch z), g2, q2⟩
end K60

set_option Elab.async false
set_option linter.all false
set_option maxRecDepth 100000
set_option maxHeartbeats 0
namespace K60
open PySem PySem.Spec PyProof.Rows L2 MB
theorem fd_one {K : PySem.W.Frag} {x q : Str} {a : Arguments} {b : List Stmt} {sc : Scope} {dv : List V} {kw : List (Str × V)} {f : Addr} {fd fd' : FuncData} (F : FunD K x q a b sc dv kw f fd) (F' : FunD K x q a b sc dv kw f fd') : fd' = fd := by
  obtain ⟨oc, od, _, _, _, _, _, _, _, osl, _, lk, _⟩ := F.ex
  obtain ⟨oc', od', _, _, _, _, _, _, _, osl', _, lk', _⟩ := F'.ex
  rw [lk] at lk'
  cases lk'
  rfl
theorem facts {P : Program} {w : World} {K : PySem.W.Frag} {h : Heap} {mg : Str → Option Value} {f : Addr} (plain : ∀ {base : Heap} (T : Tx K mg base) (tk : TOk (TT K)) (tl : LamNe K), FnOk P w K mg base (L2.CX P w) 75 (He.fAd K ("_law_plain", none)) T.fd_law_plain [] (spPlain K)) (X : K.In h) (G : h.Ns mainGlobals mg) (hfa : mg ("law" : Str) = some (.ref f)) (c : He.SaysX fa fn [] tf exB w h K) :
    ∃ fd : FuncData, (∀ (s : Shared) (v : Value), BindsTo s fd ⟨[v], []⟩ [("script", v)]) ∧ ∀ base : Heap, K.In base → base.Ns mainGlobals mg → (∀ p ∈ tf.map (He.cT K), GxR.TabB base mg p.1 p.2) → FnOk P w K mg base (L2.CX P w) 80 f fd ["script"] (spLaw K) := by
  obtain ⟨fd, F⟩ := c.t.d.def_ 37 (d := d_law) rfl
  have e := hfa.symm.trans (He.glo_ok X G (c.t.d.fact 14 (f := .glo "law") rfl))
  cases e
  have b := FunD.bindsA (ps := ["script"]) F fun _ _ _ _ _ _ us hl => match us, hl with | [_], _ => rfl
  obtain ⟨hb1, hb2⟩ := (Bool.and_eq_true _ _).mp (show ((_ && _) : Bool) = true from c.more)
  have tl : LamNe K := of_decide_eq_true hb2
  have tk : TOk (TT K) := fun p hp q hq => by
    have hp2 := List.all_eq_true.mp hb1 p hp
    have hq2 : q.1 ∈ [(He.cT K ("_law_plain", none)).2, (He.cT K ("law", none)).2] := List.mem_map.mpr ⟨q, hq, rfl⟩
    exact Ne.symm (of_decide_eq_true (List.all_eq_true.mp hp2 q.1 hq2))
  refine ⟨fd, fun s v => b s [v] rfl, fun base _ _ tb => ?_⟩
  obtain ⟨T⟩ := tx_of (base := base) X G c tb
  have e2 := fd_one F T.F_law
  rw [← e2]
  exact ok_law T tk tl fun T => plain T tk tl
end K60
open PySem PySem.W PySem.Calls PyProof.Rows
theorem PySem.Challenge.cw_moonstack_k60_whole_years_of_feasts_holds : PySem.Challenge.rw_moonstack_k60_whole_years_of_feasts.Holds := by
  w_on; o_law
  refine HandSHeadRun.head_any (r := OpenLaw.row PySem.Challenge.rw_moonstack_k60_whole_years_of_feasts) (q := view (OpenLaw.row PySem.Challenge.rw_moonstack_k60_whole_years_of_feasts).prog [35]) (H := K60.hk) (ob := K60.ob) (M := 4000) (loose := K60.loose) (d := HandSHeadRun.topDef (OpenLaw.row PySem.Challenge.rw_moonstack_k60_whole_years_of_feasts).prog 35) (kwd := []) K60.ob_eq
    (by kernel_rfl) (fun s => by kernel_rfl) K60.run (by kernel_rfl) (by kernel_rfl) (by kernel_rfl) (by rfl) (by first | assumption | decide +kernel) (by decide +kernel) ⟨rfl, rfl, rfl, rfl, rfl, by decide +kernel⟩ ?hw ?hc
  case hw => w_witness2
  case hc =>
    refine LamX.walk_ofTsE (l := PySem.Challenge.rw_moonstack_k60_whole_years_of_feasts) (n := 63) (k := 80) (x := "script") (CX := fun w => L2.CX (PySem.Challenge.rw_moonstack_k60_whole_years_of_feasts).prog w) rfl (by decide) (by kernel_rfl) ⟨rfl, by decide, by decide⟩ ?F
      (fun w H s e s' z => by
        obtain ⟨_, _, _, _, _, _, _, _, _, _, _, _, q⟩ := z
        exact q)
    intro w mg fa h Y G hmg0
    obtain ⟨K, KX, c⟩ := Y
    have hmg : mg ("law" : PySem.Str) = some (.ref fa) := by
      have e : (HandSHeadRun.topDef (OpenLaw.row PySem.Challenge.rw_moonstack_k60_whole_years_of_feasts).prog 35).name = ("law" : PySem.Str) := by kernel_rfl
      rw [← e]
      exact hmg0
    obtain ⟨fd, hb, hF⟩ := K60.facts (P := (PySem.Challenge.rw_moonstack_k60_whole_years_of_feasts).prog) (w := w) (fun T tk tl => K60.ok_law_plain T tk tl) KX G hmg c
    refine ⟨K, KX, fd, K60.tf.map (He.cT K), K60.spLaw K, ?_, ?_, ?_, hb, ?_, ?_⟩
    · intro p hp
      obtain ⟨q, hq, rfl⟩ := List.mem_map.mp hp
      exact c.empty q hq
    · intro p hp
      obtain ⟨q, hq, rfl⟩ := List.mem_map.mp hp
      exact c.out q hq
    · intro p hp
      obtain ⟨q, hq, rfl⟩ := List.mem_map.mp hp
      exact PySem.W.codeHd_of_K KX (c.hd q hq)
    · intro H a ns hl _ hT hS
      refine ⟨a, ns, rfl, hS, ⟨fun p hp => ?_, fun p hp => ?_⟩, fun _ => rfl⟩
      · have e : p = (He.cT K ("Leaps", some "__init__")).2 ∨ p = (He.cT K ("Calendar", some "__init__")).2 ∨ p = (He.cT K ("Calendar", some "short")).2 ∨ p = (He.cT K ("Feasts", some "year")).2 := by simpa [K60.TT] using hp
        rcases e with e | e | e | e
        · rw [e]
          exact ⟨#[], hT _ (List.mem_map.mpr ⟨("Leaps", some "__init__"), by decide +kernel, rfl⟩), True.intro⟩
        · rw [e]
          exact ⟨#[], hT _ (List.mem_map.mpr ⟨("Calendar", some "__init__"), by decide +kernel, rfl⟩), True.intro⟩
        · rw [e]
          exact ⟨#[], hT _ (List.mem_map.mpr ⟨("Calendar", some "short"), by decide +kernel, rfl⟩), True.intro⟩
        · rw [e]
          exact ⟨#[], hT _ (List.mem_map.mpr ⟨("Feasts", some "year"), by decide +kernel, rfl⟩), True.intro⟩
      · have e : p = ((He.cT K ("_law_plain", none)).2, ("_law_plain.<locals>.<lambda>" : PySem.Str)) ∨ p = ((He.cT K ("law", none)).2, ("law.<locals>.<lambda>" : PySem.Str)) := by simpa [K60.TT] using hp
        rcases e with e | e
        · rw [e]
          exact LamX.TabS.nil (hT _ (List.mem_map.mpr ⟨("_law_plain", none), by decide +kernel, rfl⟩))
        · rw [e]
          exact LamX.TabS.nil (hT _ (List.mem_map.mpr ⟨("law", none), by decide +kernel, rfl⟩))
    · intro base h1 h2 h3
      exact hF base h1 h2 fun p hp => ⟨(h3 p hp).code, (h3 p hp).bm, (h3 p hp).gP⟩
