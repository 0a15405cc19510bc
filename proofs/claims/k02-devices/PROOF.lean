import PyProof.Rows.All
import Wide.All
import OpenK.AllK
import Wide.FinOn
import HandS.ForMost
import HandS.ForExc
import HandS.GenList
import HandS.AnyAll
import PyProof.CodeObjX
import HandS.Conv
import PyProof.CollectIter
import KE.KExcSuper
import KE.RegKSuper
import HandS.ExcSuper
import HandS.Text
import HandS.TryOnly
import HandS.Lambda
import HandS.Head0
import HandS.Head1
import HandS.Head2
import HandS.HeadEnd
import HandS.HeadHook1
import HandS.HeadHook2
import HandS.HeadHook3
import HandS.HeadHook4
import HandS.HeadWalk
import HandS.TupMul
import HandS.Style
import HandS.Dict
import HandS.TryMany
import HandS.CallSlots
import HandS.Iter
import HandS.Zip0
import HandS.Walk
import HandS.TupAny
import PyProof.Draws
import PyProof.EnumMake
import HandS.TupSets
import PySem.Challenge.RW_hoststack_k02_devices_and_journals
set_option Elab.async false
set_option linter.all false
set_option maxRecDepth 100000
set_option maxHeartbeats 2000000
/-! a generator expression, any element: its run as a generator, for any consumer -/
namespace GX
open PySem PySem.Spec PyProof.Rows L2 GenW

def NoCell (o : Obj) : Prop := ∀ v, o.data ≠ .cell v
/-- the consumer's object, if it has one -/
def pinsS (S : Option Addr) (o : Obj) : List (Addr × Obj) := match S with
  | some a => [(a, o)]
  | none => []
theorem mem_pinsS {S : Option Addr} {o : Obj} {p : Addr × Obj} (h : p ∈ pinsS S o) : S = some p.1 ∧ p.2 = o := by
  cases S with
  | none => cases h
  | some a =>
    rw [List.mem_singleton.mp h]
    exact ⟨rfl, rfl⟩
theorem pinsS_mem {S : Option Addr} {o : Obj} {a : Addr} (h : S = some a) : (a, o) ∈ pinsS S o := by
  subst h
  exact List.mem_cons_self
/-- running: what stands at S tells what is out -/
def GIc (X : Cx) (S : Option Addr) (C : List V → Obj → Prop) (ip : List (Addr × Obj)) (ys : List V) (σ : L2.St) (H : Hp) (s : Shared) : Prop :=
  ∃ oS, C ys oS ∧ Inv X (pinsS S oS ++ ip) σ H s
/-- the consumer's turn: S alone changes -/
structure SleptC (S : Option Addr) (C : List V → Obj → Prop) (ys : List V) (s s' : Shared) : Prop where
  os : s'.os = s.os
  bare : AllBare s'.gens
  keep : ∀ b o, S ≠ some b → s.heap.get? b = some o → s'.heap.get? b = some o
  own : ∃ o, C ys o ∧ ∀ a, S = some a → s'.heap.get? a = some o ∧ NoCell o
theorem GIc.at_ {X : Cx} {S : Option Addr} {C : List V → Obj → Prop} {ip : List (Addr × Obj)} {ys : List V} {σ : L2.St} {H : Hp} {s : Shared} (h : GIc X S C ip ys σ H s) :
    (∀ a, S = some a → H a = none ∧ a ≠ X.env.locals ∧ a ∉ X.fs) ∧ ∃ oS, C ys oS ∧ ∀ a, S = some a → s.heap.get? a = some oS ∧ NoCell oS := by
  obtain ⟨oS, c, I⟩ := h
  refine ⟨fun a ha => ?_, oS, c, fun a ha => ?_⟩
  · obtain ⟨h1, h2, h3, h4, h5⟩ := I.pin (a, oS) (List.mem_append_right _ (List.mem_append_left _ (pinsS_mem ha)))
    exact ⟨h2, h3, h4⟩
  · obtain ⟨h1, h2, h3, h4, h5⟩ := I.pin (a, oS) (List.mem_append_right _ (List.mem_append_left _ (pinsS_mem ha)))
    exact ⟨h1, h5⟩
/-- woken again -/
theorem GIc.woken {X : Cx} {S : Option Addr} {C : List V → Obj → Prop} {ip : List (Addr × Obj)} {ys ys' : List V} {σ : L2.St} {H : Hp} {s s' : Shared} (hpn : ∀ p ∈ X.pn, S ≠ some p.1) (hip : ∀ p ∈ ip, S ≠ some p.1) (hA : ∀ a, S = some a → Apart X a) (h : GIc X S C ip ys σ H s) (z : SleptC S C ys' s s') :
    GIc X S C ip ys' σ H s' := by
  obtain ⟨hS, _⟩ := h.at_
  obtain ⟨oS, c, I⟩ := h
  have I0 : Inv X ip σ H s := I.pins_of fun p hp => I.pin p (List.mem_append_right _ (List.mem_append_right _ hp))
  have nt : ∀ b u, H b = some u → S ≠ some b := fun b u q hb => by rw [(hS b hb).1] at q; cases q
  obtain ⟨z1, z2, z3, o', c', hown⟩ := z
  obtain ⟨hh, g, d, t, o⟩ := s'
  have ho : o = s.os := z1
  subst ho
  have inS : ∀ b, b ∈ S.toList ↔ S = some b := fun b => by
    cases S with
    | none => simp
    | some a => simp [eq_comm]
  have nc : ∀ b, b ∉ S.toList → S ≠ some b := fun b hb e => hb ((inS b).mpr e)
  have J : Inv X ip σ H { s with heap := hh, gens := g, drawn := d, toks := t } := by
    refine I0.step (g' := g) (t' := t) (d' := d) (ch := S.toList) (fun b hb => ?_)
      (fun b ob _ _ hc q _ => z3 b ob (nc b hc) q) (fun b ob _ _ hc q _ => ⟨ob.slots, z3 b ob (nc b hc) q⟩) (fun _ _ _ _ n => n) (fun b ob hc q => ⟨ob, z3 b ob (nc b hc) q⟩)
      (fun _ _ q => q) (fun _ _ _ q => q) (fun b ps q => ⟨#[], by rw [q]; simp⟩) (fun m hm => ?_) (fun b u q => ?_) z2
    · have e := (inS b).mp hb
      obtain ⟨a1, a2, a3⟩ := hA b e
      refine ⟨.inr a1, a2, a3, fun p hp z => ?_⟩
      rcases List.mem_append.mp hp with hp | hp
      · exact hpn p hp (by rw [z]; exact e)
      · exact hip p hp (by rw [z]; exact e)
    · obtain ⟨ob, es, ep, ho, r⟩ := hm
      exact ⟨ob, es, ep, z3 _ ob (fun e => (hS _ e).2.1 rfl) ho, r⟩
    · refine (I0.hok b u q).stay (fun c v hc y => z3 c v ?_ y) (fun _ y => y) fun _ _ y => y
      rcases hc with y | y
      · rw [y]; exact nt b u q
      · exact nt c _ y
  refine ⟨o', c', J.pins_of fun p hp => ?_⟩
  rcases List.mem_append.mp hp with hp | hp
  · obtain ⟨e1, e2⟩ := mem_pinsS hp
    obtain ⟨h1, h2, h3⟩ := hS _ e1
    obtain ⟨g1, g2⟩ := hown _ e1
    rw [e2]
    exact ⟨g1, h1, h2, h3, g2⟩
  · exact J.pin p (List.mem_append_right _ hp)

/-- the protocol with its consumer -/
def YC (P : Program) (w : World) (outer : List Env) (H : Hp) (s : Shared) (S : Option Addr) (a : Addr) (g : Nat) (C : List V → Obj → Prop) (Yx : List V → V → Hp → Prop) : Protocol := fun n s₀ v s1 kap =>
  ∃ (ys : List V) (x : V) (H' : Hp), n + 1 + ys.length = sizeLine ∧ RelV x v ∧ s1.os = s.os ∧ AllBare s1.gens ∧ s1.heap.NoLimit ∧ s1.heap.IsGen a g ∧ Un (frs outer) [] H H' s.heap s1.heap ∧ HOk P w H' s1.heap ∧ (∀ b, S = some b → H' b = none) ∧
    (∃ oS, C ys oS ∧ ∀ b, S = some b → s1.heap.get? b = some oS ∧ NoCell oS) ∧ Yx ys x H' ∧ ∀ s', SleptC S C (ys ++ [x]) s1 s' → kap (.send .none) s'
def RC (P : Program) (w : World) (outer : List Env) (H : Hp) (s : Shared) (S : Option Addr) (a : Addr) (g : Nat) (C : List V → Obj → Prop) (Q : List V → Hp → Prop) (E : XK) : GenEnd := fun n s₀ r s1 =>
  ((r = .ok (.ret .none) ∨ r = .ok .next) ∧ ∃ (ys : List V) (H' : Hp), s1.os = s.os ∧ AllBare s1.gens ∧ Un (frs outer) [] H H' s.heap s1.heap ∧ HOk P w H' s1.heap ∧ (∀ b, S = some b → H' b = none) ∧ (∃ oS, C ys oS ∧ ∀ b, S = some b → s1.heap.get? b = some oS ∧ NoCell oS) ∧ ys.length ≤ sizeLine ∧ Q ys H') ∨
  ∃ e, r = .error e ∧ CX P w outer H s E e s1 ∧ s1.heap.IsGen a g
/-- a generator that has not begun, for any consumer -/
def GMadeC (P : Program) (w : World) (k : Nat) (outer : List Env) (H : Hp) (s : Shared) (Yx : List V → V → Hp → Prop) (Q : List V → Hp → Prop) (E : XK) (u : Value) (s' : Shared) : Prop :=
  ∃ (a : Addr) (g : Nat) (c : Code) (go : Obj), u = .ref a ∧ s.heap.objs.size ≤ a ∧ a < s'.heap.objs.size ∧ s'.heap.get? a = some go ∧ NoCell go ∧ s'.heap.IsGen a g ∧ s'.gens[g]? = some (.fresh c) ∧ s'.os = s.os ∧ AllBare s'.gens ∧ s'.heap.NoLimit ∧
    ∀ (C : List V → Obj → Prop) (A : Around) (S : Option Addr) (s2 : Shared), Room k A → A.frames = some outer → (∀ b, S = some b → s'.heap.objs.size ≤ b) → (∀ b o, s'.heap.get? b = some o → s2.heap.get? b = some o) →
      (∃ o, C [] o ∧ ∀ b, S = some b → s2.heap.get? b = some o ∧ NoCell o) → s2.os = s.os → AllBare s2.gens →
      Seg (model P w) A (RC P w outer H s S a g C Q E) (YC P w outer H s S a g C Yx) sizeLine s2 c ((model P w).den c) [] s2
abbrev gEnv (X : Cx) (scope : Scope) (L : Addr) (code : Value) (bi : Addr) : Env := genEnv scope (cloFrom X.env.cells scope.names []) L code bi X.env
/-- the context of a generator expression's frame; entered: what stood when the walked thing had been reckoned -/
def gCx (X : Cx) (A : Around) (s : Shared) (H : Hp) (E : XK) (scope : Scope) (L : Addr) (code : Value) (bi : Addr) (pn : List (Addr × Obj)) : Cx where
  prog := X.prog
  w := X.w
  K := X.K
  mg := X.mg
  base := X.base
  A := A.deeper (gEnv X scope L code bi)
  N := X.N
  s_0 := s
  H_0 := H
  env := gEnv X scope L code bi
  outer := X.stack
  stack := gEnv X scope L code bi :: X.stack
  ex := []
  fn := fun _ => false
  calm := true
  pn := pn
  xe := fun e s' => wpAny (model X.prog X.w) (A.deeper (gEnv X scope L code bi)) (leaving (gEnv X scope L code bi) e)
    (fun _ s'' => CX X.prog X.w X.stack H s E e s'' ∧ ∀ p ∈ pn, s''.heap.get? p.1 = some p.2) (fun _ _ => False) s'
section
variable {X : Cx} {A : Around} {s : Shared} {H : Hp} {E : XK} {scope : Scope} {L : Addr} {code : Value} {bi : Addr} {pn : List (Addr × Obj)}
theorem takes_g : Takes (gCx X A s H E scope L code bi pn) (fun cls d _ H' => E cls d H') := fun u s' x =>
  XE.leaveG (X := gCx X A s H E scope L code bi pn) (W := fun cls d _ H' => E cls d H') (E := E) rfl rfl rfl (fun _ _ _ _ h => h) x
theorem owns_g : PassesOwn (model X.prog X.w) (gCx X A s H E scope L code bi pn).A (gCx X A s H E scope L code bi pn).env (gCx X A s H E scope L code bi pn).xe :=
  passes_of (X := gCx X A s H E scope L code bi pn) (K := fun e s'' => CX X.prog X.w X.stack H s E e s'' ∧ ∀ p ∈ pn, s''.heap.get? p.1 = some p.2) (E₁ := fun _ _ => False) rfl
end
theorem over_gen {A : Around} {elt tg iter : Expr} {ifs : List Expr} {scope : Scope} {pos : Pos} {it acc : Value} {env : Env} :
    A.over (.compLoop (.GeneratorExp elt [⟨tg, iter, ifs, 0⟩] scope pos) 0 it acc env) [] = A.deeper env := by
  first
    | rfl
    | (obtain ⟨hd, d, fr, gs, u⟩ := A; simp [Around.over, Around.deeper, marksOver, frameCount, unitsOf, envsOf, guardsOf, pushEnvs, pushGuards, Code.envs, Code.env?, Code.isFrame, Code.guards, Code.isGuard, Code.weight, Code.frames, Code.isCreation, Code.isCaller, Code.cUnits])
theorem over_genS {A : Around} {elt tg iter : Expr} {ifs : List Expr} {scope : Scope} {pos : Pos} {it acc : Value} {env : Env} :
    A.over (.compStart (.GeneratorExp elt [⟨tg, iter, ifs, 0⟩] scope pos) 0 it acc env) [] = A.deeper env := by
  first
    | rfl
    | (obtain ⟨hd, d, fr, gs, u⟩ := A; simp [Around.over, Around.deeper, marksOver, frameCount, unitsOf, envsOf, guardsOf, pushEnvs, pushGuards, Code.envs, Code.env?, Code.isFrame, Code.guards, Code.isGuard, Code.weight, Code.frames, Code.isCreation, Code.isCaller, Code.cUnits])
/-- the reading of the turns: W by the turn, a measure, what is out so far -/
def tTurns (g : TG) (tt : TT) (te : TE) (vs : List Nat) (Yx : List V → V → Hp → Prop) (σ : L2.St) (J : It) (H0 : Hp) (cont : List V → Hp → Prop) : Prop :=
  ∃ W : Nat → Nat → List V → Hp → Prop, (∃ m, W 0 m [] H0) ∧ ∀ i m ys H, W i m ys H →
    (J.stop i H ∧ cont ys H) ∨ (J.go i H ∧ ∃ Nx : List V → Hp → Prop, (∀ ys' H', Nx ys' H' → ∃ m', m' < m ∧ W (i + 1) m' ys' H') ∧ ∀ x H', J.yld i H x H' → g x (wipe σ vs) H' fun σ2 H2 => wipe σ2 vs = wipe σ vs ∧ tt σ2 H2 fun b H3 =>
      if b = true then te σ2 H3 fun y H4 => ys.length < sizeLine ∧ Yx ys y H4 ∧ Nx (ys ++ [y]) H4 else Nx ys H3)

/-- the generator's turns -/
theorem seg_turns {Xg : Cx} {A : Around} {R : GenEnd} {Y : Protocol} {S : Option Addr} {C : List V → Obj → Prop} {Yx : List V → V → Hp → Prop} {elt tg iter : Expr} {ifs : List Expr} {scope : Scope} {pos : Pos} {it : Addr} {fp : List Addr} {tn : Nat → Heap → Prop} {J : It}
    {g : TG} {tt : TT} {te : TE} {vs : List Nat} {σ : L2.St} {cont : List V → Hp → Prop} {W : Nat → Nat → List V → Hp → Prop}
    (hA : A.deeper Xg.env = Xg.A) (hcalm : Xg.calm = true) (hco : Xg.env.scope.isCoroutine = false) (hpn : ∀ p ∈ Xg.pn, S ≠ some p.1) (hAp : ∀ a, S = some a → Apart Xg a) (hfS : ∀ b ∈ fp, S ≠ some b)
    (hfp : ∀ b ∈ fp, b ≠ Xg.env.locals ∧ b ∉ Xg.fs ∧ Xg.s_0.heap.objs.size ≤ b ∧ (∀ x c, Xg.env.cells.lookup x = some c → c ≠ b) ∧ ∀ p ∈ Xg.pn, p.1 ≠ b)
    (T : Turn Xg.prog Xg.w Xg.K tg J fp it tn) (pg : PG Xg tg g) (pt : PTs Xg ifs tt) (pe : PE Xg elt te)
    (turn : ∀ i m ys H, W i m ys H → (J.stop i H ∧ cont ys H) ∨ (J.go i H ∧ ∃ Nx : List V → Hp → Prop, (∀ ys' H', Nx ys' H' → ∃ m', m' < m ∧ W (i + 1) m' ys' H') ∧ ∀ x H', J.yld i H x H' → g x (wipe σ vs) H' fun σ2 H2 => wipe σ2 vs = wipe σ vs ∧ tt σ2 H2 fun b H3 =>
      if b = true then te σ2 H3 fun y H4 => ys.length < sizeLine ∧ Yx ys y H4 ∧ Nx (ys ++ [y]) H4 else Nx ys H3))
    (hend : ∀ n s₀ ys H s, n + ys.length = sizeLine → GIc Xg S C [] ys (wipe σ vs) H s → cont ys H → R n s₀ (.ok .next) s)
    (hexc : ∀ n s₀ e s, Xg.xe e s → wpAny (model Xg.prog Xg.w) Xg.A (leaving Xg.env e) (fun _ s'' => R n s₀ (.error e) s'') (fun _ _ => False) s)
    (hy : ∀ n s₀ ys ip σ2 H x v s kap, n + 1 + ys.length = sizeLine → (∀ p ∈ ip, S ≠ some p.1) → RelV x v → GIc Xg S C ip ys σ2 H s → Yx ys x H → (∀ s', SleptC S C (ys ++ [x]) s s' → kap (.send .none) s') → Y n s₀ v s kap) :
    ∀ (m i n : Nat) (ys : List V) (s₀ s : Shared) (H : Hp), n + ys.length = sizeLine → W i m ys H → GIc Xg S C [] ys (wipe σ vs) H s → tn i s.heap → (∀ b ∈ fp, H b = none) →
      Seg (model Xg.prog Xg.w) A R Y n s₀ (.compLoop (.GeneratorExp elt [⟨tg, iter, ifs, 0⟩] scope pos) 0 (.ref it) .none Xg.env)
        ((model Xg.prog Xg.w).den (.compLoop (.GeneratorExp elt [⟨tg, iter, ifs, 0⟩] scope pos) 0 (.ref it) .none Xg.env)) [] s := by
  intro m
  induction m using Nat.strongRecOn with
  | ind m ih =>
    intro i n ys s₀ s H hn w hI st nfp
    have exc : ∀ (n : Nat) (s₀ : Shared) (e : Value) (s' : Shared), Xg.xe e s' → Seg (model Xg.prog Xg.w) A R Y n s₀ (.compLoop (.GeneratorExp elt [⟨tg, iter, ifs, 0⟩] scope pos) 0 (.ref it) .none Xg.env)
        ((leaving Xg.env e).bind fun _ => (Sem.raise e : Sem PySem.Fin)) [] s' := fun n s₀ e s' hx => by
      rw [Sem.bind_eq_wrap]
      refine seg_wrap ?_
      rw [over_gen, hA]
      exact wpAny_mono (hexc n s₀ e s' hx) (fun _ s'' q => seg_end (.error e) q) fun _ _ q => q.elim
    have stat : ∀ {pins : List (Addr × Obj)} {H' : Hp}, (∀ p ∈ pins, p.1 ∉ fp) → (∀ b ∈ fp, H' b = none) → ∀ b ∈ fp, FpOk Xg pins H' b := fun {pins H'} hp hn b hb => by
      obtain ⟨f1, f2, f3, f4, f5⟩ := hfp b hb
      refine ⟨hn b hb, f1, f2, .inr f3, f4, fun p hm => ?_⟩
      rcases List.mem_append.mp hm with z | z
      · exact f5 p z
      · intro e
        exact hp p z (by rw [e]; exact hb)
    obtain ⟨oS, cS, I⟩ := hI
    have sing : ∀ p ∈ pinsS S oS ++ [], p.1 ∉ fp := fun p hp hm => by
      rw [List.append_nil] at hp
      exact hfS _ hm (mem_pinsS hp).1
    show Seg _ A _ _ _ s₀ _ ((compTurn (.GeneratorExp elt [⟨tg, iter, ifs, 0⟩] scope pos) 0 (.ref it) .none Xg.env).onRaise (leaving Xg.env)) [] s
    rw [compTurn_gen, Sem.onRaise_eq_wrap]
    refine seg_bind_wrap (wpAny_standAt ?_)
    rcases turn i m ys H w with ⟨stop, qc⟩ | ⟨go, Nx, hNx, step⟩
    · have td := T.done Xg rfl rfl rfl hcalm i (pinsS S oS ++ []) s _ H (fun _ _ => False) I (stat sing nfp) st stop
      refine seg_bind_wrap ?_
      rw [over_gen, hA]
      refine wpAny_mono td (fun r s1 ⟨hr, I1⟩ => ?_) fun _ _ z => z.elim
      subst hr
      exact seg_end (.ok .next) (hend n s₀ ys H s1 hn ⟨oS, cS, I1⟩ qc)
    · have ti := T.item Xg rfl rfl rfl hcalm i (pinsS S oS ++ []) s _ H (fun _ _ => False) I (stat sing nfp) st go
      refine seg_bind_wrap ?_
      rw [over_gen, hA]
      refine wpAny_mono ti (fun r s1 ⟨u, hr, h1⟩ => ?_) fun _ _ z => z.elim
      subst hr
      dsimp only
      refine seg_bind_wrap ?_
      rw [over_gen, hA]
      refine wpAny_mono h1 (fun _ s2 ⟨x, H2, I2, r2, y2, st2, n2⟩ => ?_) fun _ _ z => z.elim
      rw [List.append_nil] at I2
      have I2' : Inv Xg (pinsS S oS ++ pinsAt fp s2.heap) (wipe σ vs) H2 s2 := I2.pinned (stat (fun p hp => sing p (List.mem_append_left _ hp)) n2) (T.obj _ _ st2)
      refine seg_bind_wrap ?_
      rw [over_gen, hA]
      refine wpAny_mono (pg.run _ s2 _ H2 x u _ I2' r2 (step x H2 y2)) (fun _ s3 ⟨σ3, H3, I3, hw3, q3⟩ => ?_) fun e s' hx => exc n s₀ e s' hx
      refine seg_bind_wrap ?_
      rw [over_gen, hA]
      refine wpAny_mono (pt.run _ s3 σ3 H3 _ I3 q3) (fun b s4 ⟨H4, I4, q4⟩ => ?_) fun e s' hx => exc n s₀ e s' hx
      have npS : ∀ p ∈ pinsAt fp s2.heap, S ≠ some p.1 := fun p hp => hfS _ (of_pinsAt hp).1
      -- the next turn
      have again : ∀ {n' : Nat} {ys' : List V} {H' : Hp} {s₀' s' : Shared}, n' + ys'.length = sizeLine → GIc Xg S C (pinsAt fp s2.heap) ys' σ3 H' s' → Nx ys' H' →
          Seg (model Xg.prog Xg.w) A R Y n' s₀' (.compLoop (.GeneratorExp elt [⟨tg, iter, ifs, 0⟩] scope pos) 0 (.ref it) .none Xg.env)
            (.pure (.again (.compLoop (.GeneratorExp elt [⟨tg, iter, ifs, 0⟩] scope pos) 0 (.ref it) .none Xg.env))) [] s' := fun {n' ys' H' s₀' s'} hn' hI' nx => by
        obtain ⟨m', hm, w'⟩ := hNx ys' H' nx
        obtain ⟨o', c', I'⟩ := hI'
        have pin' : ∀ b ∈ fp, ∀ o, s2.heap.get? b = some o → s'.heap.get? b = some o ∧ H' b = none := fun b hb o e =>
          let z := I'.pin (b, o) (List.mem_append_right _ (List.mem_append_right _ (mem_pinsAt hb e)))
          ⟨z.1, z.2.1⟩
        have hl : (wipe σ vs).length = σ3.length := by rw [← hw3, wipe_length]
        have Iu : Inv Xg (pinsS S o' ++ []) σ3 H' s' := I'.pins_of fun p hp => by
          rw [List.append_nil] at hp
          exact I'.pin p (List.mem_append_right _ (List.mem_append_left _ hp))
        refine seg_again rfl (ih m' hm (i + 1) n' ys' s₀' s' H' hn' w' ⟨o', c', Iu.weak hl fun j v e => ?_⟩ (T.keep _ _ _ st2 fun b hb o e => (pin' b hb o e).1) fun b hb => ?_)
        · rw [← hw3] at e
          exact (wipe_some e).1
        · obtain ⟨o, e, _⟩ := T.obj _ _ st2 b hb
          exact (pin' b hb o e).2
      cases b with
      | false =>
        simp only [Bool.false_eq_true, if_false] at q4 ⊢
        exact again hn ⟨oS, cS, I4⟩ q4
      | true =>
        simp only [if_true] at q4 ⊢
        have hyv : ∀ v, yieldOut Xg.env v = yieldValue v := fun v => by simp only [yieldOut, hco, Bool.false_eq_true, if_false]
        simp only [hyv]
        rw [Sem.bind_eq_wrap', Sem.bind_eq_wrap', Sem.wrap_wrap, Sem.wrap_wrap]
        refine seg_wrap ?_
        rw [over_gen, hA]
        refine wpAny_mono (pe.run _ s4 σ3 H4 _ I4 q4) (fun v s5 ⟨yv, H5, I5, r5, hlt, hyx, nx⟩ => ?_) fun e s' hx => exc n s₀ e s' hx
        obtain ⟨n, rfl⟩ : ∃ n', n = n' + 1 := ⟨n - 1, by omega⟩
        have G5 : GIc Xg S C (pinsAt fp s2.heap) ys σ3 H5 s5 := ⟨oS, cS, I5⟩
        refine seg_at (seg_yield rfl rfl rfl (hy n s₀ ys (pinsAt fp s2.heap) σ3 H5 yv v s5 _ (by omega) npS r5 G5 hyx fun s' z => ?_))
        exact again (by rw [List.length_append, List.length_singleton]; omega) (G5.woken hpn npS hAp z) nx
end GX
set_option Elab.async false
set_option linter.all false
set_option maxRecDepth 100000
set_option maxHeartbeats 2000000
namespace GX
open PySem PySem.Spec PyProof.Rows L2 GenW

/-- the names of a generator expression's frame: its own (with their places in N), or captured -/
structure GenOk (N : List Str) (sc scope : Scope) (own : List (Str × Nat)) : Prop where
  blk : BlkOk N sc scope own
  co : scope.isCoroutine = false
  cell : ∀ y ∈ scope.names, y.2 ≠ .cell
  dot : scope.names.lookup (".0" : Str) = some NameKind.local
def genOkB (N : List Str) (sc scope : Scope) (own : List (Str × Nat)) : Bool :=
  decide (scope.kind = .function) && (scope.names.all fun y => decide (scope.names.lookup y.1 = some y.2)) && (own.all fun p => decide (N[p.2]? = some p.1)) &&
    (scope.names.all fun y => !decide (y.2 = .free) || (decide (sc.names.lookup y.1 = some .cell) || decide (sc.names.lookup y.1 = some .free))) &&
    (scope.names.all fun y => !(decide (y.2 = .local) || decide (y.2 = .cell)) || (decide (y.1 ∈ own.map (·.1)) || decide (y.1 ∉ N))) &&
    (!scope.isCoroutine && (scope.names.all fun y => !decide (y.2 = .cell)) && decide (scope.names.lookup (".0" : Str) = some NameKind.local))
theorem genOk_by {N : List Str} {sc scope : Scope} {own : List (Str × Nat)} (h : genOkB N sc scope own = true) : GenOk N sc scope own := by
  unfold genOkB at h
  simp only [Bool.and_eq_true, Bool.or_eq_true, Bool.not_eq_true', decide_eq_true_eq, decide_eq_false_iff_not, List.all_eq_true] at h
  obtain ⟨⟨⟨⟨⟨h1, h2⟩, h3⟩, h4⟩, h5⟩, ⟨h6, h7⟩, h8⟩ := h
  refine ⟨⟨h1, h2, h3, fun y hy e => ?_, fun y hy e => ?_⟩, h6, fun y hy e => ?_, h8⟩
  · rcases h4 y hy with z | z
    · exact absurd e z
    · exact z
  · rcases h5 y hy with z | z
    · have q : (decide (y.2 = .local) || decide (y.2 = .cell)) = true := by
        rcases e with e | e
        · rw [e]; rfl
        · rw [e]; rfl
      rw [q] at z
      cases z
    · exact z
  · exact h7 y hy e

/-- the frame is made: the generator's context begins -/
theorem inv_startGx {X : Cx} {pins : List (Addr × Obj)} {σ : L2.St} {H1 H2 : Hp} {s1 s2 : Shared} {A : Around} {E : XK} {scope : Scope} {own : List (Str × Nat)} {L : Addr} {code : Value} {bi : Addr} {m : Str → Option Value}
    (I : Inv X pins σ H1 s1) (ok : GenOk X.N X.env.scope scope own) (hN : X.N.Nodup) (hbi : bi = builtinsNs) (hd : A.handled = none) (hfr : A.frames = some X.stack) (hL : s1.heap.objs.size ≤ L) (hns : s2.heap.Ns L m)
    (un : Un (frs X.stack) [] H1 H2 s1.heap s2.heap) (hok : HOk X.prog X.w H2 s2.heap) (hos : s2.os = s1.os) (hb : AllBare s2.gens) (hHL : H2 L = none) :
    Inv (gCx X A s1 H1 E scope L code bi []) [] (wipe σ (own.map (·.2))) H2 s2 := by
  have hfree : ∀ y ∈ scope.names, y.2 = .free → ∃ c, X.env.cells.lookup y.1 = some c := fun y hy e => by
    rcases ok.blk.free y hy e with k | k
    · exact I.ok.has _ (.inl k)
    · exact I.ok.has _ (.inr k)
  have cm : ∀ {y c}, (cloFrom X.env.cells scope.names []).lookup y = some c → X.env.cells.lookup y = some c := fun {y c} e => by
    rcases cloFrom_mem (PySem.mem_of_lookup e) with hm | ⟨h1, h2⟩
    · cases hm
    · obtain ⟨c1, hc⟩ := hfree _ h1 rfl
      have hc : X.env.cells.lookup y = some c1 := hc
      have e2 : c = c1 := by
        rw [h2, hc] <;> rfl
      rw [e2]
      exact hc
  have look : ∀ {y}, scope.names.lookup y = some .free → ∃ c, (cloFrom X.env.cells scope.names []).lookup y = some c := fun {y} hl => by
    have hy : (y, NameKind.free) ∈ scope.names := PySem.mem_of_lookup hl
    exact mem_lookup (cloFrom_has (cells := X.env.cells) (acc := []) hy)
  have cellLt : ∀ {y c}, X.env.cells.lookup y = some c → c < s1.heap.objs.size := fun {y c} e => by
    obtain ⟨v, z⟩ := I.cell y c e
    exact z.lt
  have cellK : ∀ {c : Addr} {v : Option Value}, H1 c = none → s1.heap.IsCell c v → s2.heap.IsCell c v := fun {c v} n ⟨o, ho, hd⟩ => by
    obtain ⟨sl, q⟩ := un.any ho n (by simp)
    exact ⟨_, q, hd⟩
  have noA : ∀ b : Addr, b ∉ (gCx X A s1 H1 E scope L code bi []).ex := fun b z => absurd (show b ∈ ([] : List Addr) from z) (by simp)
  refine ⟨⟨I.ok.mod, ok.blk.kind, I.ok.glob, hbi, hL, fun y z c e1 e2 => I.ok.inj y z c (cm e1) (cm e2), fun y hy => ?_, fun y c z _ => ?_, fun _ => hd, Around.frames_deeper hfr, .inr ⟨rfl, rfl⟩, fun b z => absurd z (noA b), I.bs, Nat.le_trans I.ok.bsz I.sz, fun b _ _ => noA b,
      fun b z => absurd z (noA b), I.stack, I.stkFree⟩,
    hos, hb, un, ⟨m, hns, fun i y v e1 e2 e3 => ?_⟩, fun y c e => ?_, hHL, fun y c e => ?_, fun q hq => absurd (show q ∈ ([] : List (Addr × Obj)) ++ [] from hq) (by simp), hok, by rw [wipe_length]; exact I.len⟩
  · have hy : scope.names.lookup y = some .cell ∨ scope.names.lookup y = some .free := hy
    rcases hy with hy | hy
    · exact absurd rfl (ok.cell _ (PySem.mem_of_lookup hy))
    · exact look hy
  · have z : false = true := z
    cases z
  · obtain ⟨e2, hne⟩ := wipe_some e2
    have e3 : Vis scope y := e3
    have no : ∀ k, (k = NameKind.local ∨ k = .cell) → scope.names.lookup y = some k → False := fun k hk q => by
      rcases ok.blk.own _ (PySem.mem_of_lookup q) hk with e' | e'
      · obtain ⟨p, hp, hpy⟩ := List.mem_map.mp e'
        have e3 := ok.blk.ix p hp
        have : p.1 = y := hpy
        rw [this] at e3
        exact hne (List.mem_map.mpr ⟨p, hp, nodup_ix hN e3 e1⟩)
      · exact e' (List.mem_of_getElem? e1)
    rcases e3 with k | k | k
    · exact (no _ (.inl rfl) k).elim
    · exact (no _ (.inr rfl) k).elim
    · obtain ⟨m, hn, hl⟩ := I.loc
      have hvis : Vis X.env.scope y := (ok.blk.free _ (PySem.mem_of_lookup k) rfl).elim (fun k => .inr (.inl k)) (fun k => .inr (.inr k))
      obtain ⟨w', r, q⟩ := hl i y v e1 e2 hvis
      obtain ⟨c2, h2⟩ := look k
      refine ⟨w', r, .inr ⟨.inr k, c2, h2, ?_⟩⟩
      have c1 := cm h2
      rcases q with ⟨k', _⟩ | ⟨_, c3, e', z⟩
      · have k' : X.env.scope.names.lookup y = some .local := k'
        rcases ok.blk.free _ (PySem.mem_of_lookup k) rfl with k2 | k2 <;> rw [show X.env.scope.names.lookup y = _ from k2] at k' <;> cases k'
      · rw [c1] at e'
        cases e'
        exact cellK (I.freeC y _ c1) z
  · obtain ⟨w', z⟩ := I.cell y c (cm e)
    exact ⟨w', cellK (I.freeC y c (cm e)) z⟩
  · obtain ⟨v, o, ho, hd⟩ := I.cell y c (cm e)
    exact un.free c o ho (I.freeC y c (cm e)) (by simp)

/-- a walked thing whose iterator is new: H1 is what was held when it had been reckoned -/
structure PIf (X : Cx) (tg iter : Expr) (wi : TI) : Prop where
  run : ∀ (pins : List (Addr × Obj)) (s : Shared) (σ : L2.St) (H : Hp) (R : It → Hp → Prop), Inv X pins σ H s → wi σ H R →
    wpAny (model X.prog X.w) X.A (eval iter X.env) (fun v s1 => ∃ J H1, Inv X pins σ H1 s1 ∧ R J H1 ∧ wpAny (model X.prog X.w) X.A (pyIter v) (fun itv s2 =>
      ∃ (it : Addr) (fp : List Addr) (tn : Nat → Heap → Prop), itv = .ref it ∧ Inv X pins σ H1 s2 ∧ s2.gens = s1.gens ∧ (∀ b o, s1.heap.get? b = some o → s2.heap.get? b = some o) ∧ Turn X.prog X.w X.K tg J fp it tn ∧ tn 0 s2.heap ∧
        (∀ b ∈ fp, s1.heap.objs.size ≤ b)) X.xe s1) X.xe s
section
variable {X : Cx} {tg : Expr}
theorem pif_list {l : Expr} {tl : TE} (hl : PE X l tl) : PIf X tg l (iList X.K tl) := by
  refine ⟨fun pins s σ H R I h => ?_⟩
  refine thn (hl.run pins s σ H _ I h) fun v s1 ⟨x, H1, I1, r1, q1⟩ => ?_
  obtain ⟨a, e, ⟨xs, hq⟩, q⟩ := q1
  subst e
  cases r1
  obtain ⟨its, rv, p, hz⟩ := I1.list hq
  refine ⟨_, H1, I1, q, wpAny_pyIter_list p.isList ?_⟩
  refine ⟨s1.heap.objs.size, [s1.heap.objs.size], _, rfl, I1.kept (t' := s1.toks) fun b o e => Heap.get?_push_of_some _ e, rfl, fun b o e => Heap.get?_push_of_some _ e, turn_list a _, ⟨_, Heap.get?_push_size _ rfl, rfl, rfl⟩, fun b hb => ?_⟩
  rw [List.mem_singleton.mp hb]
  exact Nat.le_refl _
theorem pif_tup {l : Expr} {tl : TE} (hl : PE X l tl) : PIf X tg l (iTup X.K tl) := by
  refine ⟨fun pins s σ H R I h => ?_⟩
  refine thn (hl.run pins s σ H _ I h) fun v s1 ⟨x, H1, I1, r1, q1⟩ => ?_
  obtain ⟨a, e, ⟨xs, hq⟩, q⟩ := q1
  subst e
  cases r1
  obtain ⟨its, rv, p, hz⟩ := I1.tuple hq
  refine ⟨_, H1, I1, q, wpAny_pyIter_tuple (show s1.heap.IsTuple a its.toArray from p) ?_⟩
  refine ⟨s1.heap.objs.size, [s1.heap.objs.size], _, rfl, I1.kept (t' := s1.toks) fun b o e => Heap.get?_push_of_some _ e, rfl, fun b o e => Heap.get?_push_of_some _ e, turn_tuple a _, ⟨_, Heap.get?_push_size _ rfl, rfl, rfl⟩, fun b hb => ?_⟩
  rw [List.mem_singleton.mp hb]
  exact Nat.le_refl _
theorem pif_str {e : Expr} {te : TE} (he : PE X e te) : PIf X tg e (iStr te) := by
  refine ⟨fun pins s σ H R I h => ?_⟩
  refine thn (he.run pins s σ H _ I h) fun v s1 ⟨y, H1, I1, r1, x, ex, q⟩ => ?_
  subst ex
  obtain ⟨t, rfl⟩ := r1
  refine ⟨_, H1, I1, q, ?_⟩
  cases ha : x.cps.all (· < 128)
  · refine wpAny_pyIter_wide ha ⟨s1.heap.objs.size, [s1.heap.objs.size], _, rfl, I1.kept (t' := s1.toks) fun b o e => Heap.get?_push_of_some _ e, rfl, fun b o e => Heap.get?_push_of_some _ e, turn_str _ x t "str_iterator" (.inr rfl), ⟨_, Heap.get?_push_size _ rfl, rfl, rfl⟩, fun b hb => ?_⟩
    rw [List.mem_singleton.mp hb]
    exact Nat.le_refl _
  · refine wpAny_pyIter_ascii ha ⟨s1.heap.objs.size, [s1.heap.objs.size], _, rfl, I1.kept (t' := s1.toks) fun b o e => Heap.get?_push_of_some _ e, rfl, fun b o e => Heap.get?_push_of_some _ e, turn_str _ x t "str_ascii_iterator" (.inl rfl), ⟨_, Heap.get?_push_size _ rfl, rfl, rfl⟩, fun b hb => ?_⟩
    rw [List.mem_singleton.mp hb]
    exact Nat.le_refl _
theorem range_itf {pins : List (Addr × Obj)} {σ : L2.St} {H : Hp} {s : Shared} {E : Value → Shared → Prop} {lo hi : Int} {t u v : Tok} {tk : Nat} (I : Inv X pins σ H s) (h1 : -(2 ^ 62) ≤ lo) (h2 : lo < 2 ^ 62) (h3 : -(2 ^ 62) ≤ hi) (h4 : hi < 2 ^ 62) (hE : E = X.xe) {R : It → Hp → Prop}
    (q : R (Itr lo (hi - lo).toNat) H) : ∃ J H1, Inv X pins σ H1 { s with heap := s.heap.push { cls := .type "range", data := .fields #[.int lo t, .int hi u, .int 1 v] }, toks := tk } ∧ R J H1 ∧
      wpAny (model X.prog X.w) X.A (pyIter (.ref s.heap.objs.size)) (fun itv s2 => ∃ (it : Addr) (fp : List Addr) (tn : Nat → Heap → Prop), itv = .ref it ∧ Inv X pins σ H1 s2 ∧ s2.gens = s.gens ∧ (∀ b o, (s.heap.push { cls := .type "range", data := .fields #[.int lo t, .int hi u, .int 1 v] }).get? b = some o → s2.heap.get? b = some o) ∧
        Turn X.prog X.w X.K tg J fp it tn ∧ tn 0 s2.heap ∧ (∀ b ∈ fp, (s.heap.push { cls := .type "range", data := .fields #[.int lo t, .int hi u, .int 1 v] }).objs.size ≤ b)) E { s with heap := s.heap.push { cls := .type "range", data := .fields #[.int lo t, .int hi u, .int 1 v] }, toks := tk } := by
  subst hE
  have I1 : Inv X pins σ H { s with heap := s.heap.push { cls := .type "range", data := .fields #[.int lo t, .int hi u, .int 1 v] }, toks := tk } := I.kept fun b o e => Heap.get?_push_of_some _ e
  refine ⟨_, H, I1, q, wpAny_pyIter_range (IsRange.new ..) (small_one h1 h2 h3 h4) ?_⟩
  refine ⟨(s.heap.push { cls := .type "range", data := .fields #[.int lo t, .int hi u, .int 1 v] }).objs.size, [(s.heap.push { cls := .type "range", data := .fields #[.int lo t, .int hi u, .int 1 v] }).objs.size], _, rfl,
    I1.kept (t' := tk) fun b o e => Heap.get?_push_of_some _ e, rfl, fun b o e => Heap.get?_push_of_some _ e, turn_range _ lo (hi - lo).toNat, ?_, fun b hb => ?_⟩
  · have e1 : lo + ((0 : Nat) : Int) * 1 = lo := by simp
    have e2 : (((hi - lo).toNat : Nat) : Int) - ((0 : Nat) : Int) = Builtin.Range.rangeSize lo hi 1 := by rw [rangeSize_one]; split <;> omega
    show IsRangeIter _ _ (lo + ((0 : Nat) : Int) * 1) ((((hi - lo).toNat : Nat) : Int) - ((0 : Nat) : Int)) 1
    rw [e1, e2]
    exact Heap.get?_push_size _ rfl
  · rw [List.mem_singleton.mp hb]
    exact Nat.le_refl _
theorem pif_range1 {a : Expr} {ta : TA} {p pos : Pos} (hg : Gl X "range") (hm : X.mg "range" = none) (ha : PA X [a] ta) (hs : starEach [a] X.env = [(false, eval a X.env)] := by rfl) : PIf X tg (.Call (.Name "range" p) [a] [] pos) (iRng1 ta) := by
  refine ⟨fun pins s σ H R I h => ?_⟩
  refine Call_ (ld_blt I hg hm boot_range (PyProof.Rows.callWith_type1 (thn (ha.run pos pins s σ H _ I h) fun us s1 ⟨vs, H1, I1, r1, q1⟩ => ?_) hs rfl))
  obtain ⟨j, e, q1, q2, q⟩ := q1
  subst e
  cases r1 with
  | cons r rr =>
    cases rr
    obtain ⟨t, rfl⟩ := r
    exact call_range_1 (range_itf I1 (by omega) (by omega) q1 q2 rfl (by simpa using q))
end
end GX
set_option Elab.async false
set_option linter.all false
set_option maxRecDepth 100000
set_option maxHeartbeats 2000000
namespace GX
open PySem PySem.Spec PyProof.Rows L2 GenW

/-- a generator expression: what is walked, then the table may have grown, then the turns -/

def TblE (P : Addr) : HO := .ext fun h => ∃ ps : Array Value, h.get? P = some { cls := .none, data := .fields ps } ∧ TriplesOk ps.toList
theorem inv_tabE {X : Cx} {pins : List (Addr × Obj)} {σ : L2.St} {H : Hp} {s : Shared} {P : Addr} {ps : Array Value} {h' : Heap} {g' : Array GenState} {d' : Drawn} {t' : Nat} (I : Inv X pins σ H s) (hP : H P = some (TblE P)) (k : ∀ b o, b ≠ P → s.heap.get? b = some o → h'.get? b = some o)
    (hm : h'.get? P = some { cls := .none, data := .fields ps }) (ht : TriplesOk ps.toList) (hg : AllBare g') : Inv X pins σ H { s with heap := h', gens := g', drawn := d', toks := t' } := by
  have nP : ∀ b u, H b = some u → (u ≠ TblE P) → b ≠ P := fun b u e q z => by
    rw [z, hP] at e
    exact q (Option.some.inj e).symm
  have nN : ∀ b, H b = none → b ≠ P := fun b e z => by
    rw [z, hP] at e
    cases e
  refine I.step (g' := g') (d' := d') (ch := []) (fun b hb => absurd hb (by simp)) (fun b o _ _ _ e n => k b o (nN b n) e) (fun b o _ _ _ e n => ⟨o.slots, k b o (nN b n) e⟩)
    (fun b o _ e n => n) (fun b o _ e => ?_) (fun b xs e => e) (fun b o u e => e) (fun b qs e => ⟨#[], by simp [e]⟩) (fun m hn => ?_) (fun b u e => ?_) hg
  · by_cases hb : b = P
    · rw [hb]
      exact ⟨_, hm⟩
    · exact ⟨o, k b o hb e⟩
  · obtain ⟨ob, es, ep, ho, r⟩ := hn
    exact ⟨ob, es, ep, k _ ob (nN _ I.free) ho, r⟩
  · by_cases hb2 : b = P
    · rw [hb2, hP] at e
      cases e
      rw [hb2]
      exact ⟨⟨ps, hm, ht⟩, ⟨_, hm⟩, fun h1 h2 ⟨qs, a, b⟩ st => ⟨qs, st _ a, b⟩⟩
    · refine (I.hok b u e).stay (fun d v hd q => k d v ?_ q) (fun d q => q) fun d xs q => q
      rcases hd with z | z
      · rw [z]
        exact hb2
      · exact nP d _ z (fun z => by cases z)
def tGenx (P : Addr) (wi : TI) (g : TG) (tt : TT) (te : TE) (vs : List Nat) (Yx : List V → V → Hp → Prop) : L2.St → Hp → (List V → Hp → Prop) → Prop := fun σ H cont =>
  wi σ H fun J H1 => H1 P = some (TblE P) ∧ tTurns g tt te vs Yx σ J H1 cont

section
variable {X : Cx} {pins : List (Addr × Obj)} {σ : L2.St} {H : Hp} {s : Shared}
/-- eval of a generator expression -/
theorem genx_made {c P : Addr} {elt tg iter : Expr} {ifs : List Expr} {scope : Scope} {own : List (Str × Nat)} {gpos : Pos} {wi : TI} {g : TG} {tt : TT} {te : TE} {k : Nat} {Yx : List V → V → Hp → Prop} {cont : List V → Hp → Prop} {E : XK}
    (hr : Room k X.A) (hc : X.calm = true) (hN : X.N.Nodup) (TB : GxR.TabB X.base X.mg c P) (hcode : X.env.code = .ref c) (ok : GenOk X.N X.env.scope scope own) (hi : PIf X tg iter wi)
    (hg : ∀ (A : Around) (s : Shared) (H : Hp) (L : Addr) (code : Value) (bi : Addr) (pn : List (Addr × Obj)), PG (gCx X A s H E scope L code bi pn) tg g)
    (ht : ∀ (A : Around) (s : Shared) (H : Hp) (L : Addr) (code : Value) (bi : Addr) (pn : List (Addr × Obj)), Room k (A.deeper (gEnv X scope L code bi)) → PTs (gCx X A s H E scope L code bi pn) ifs tt)
    (he : ∀ (A : Around) (s : Shared) (H : Hp) (L : Addr) (code : Value) (bi : Addr) (pn : List (Addr × Obj)), Room k (A.deeper (gEnv X scope L code bi)) → PE (gCx X A s H E scope L code bi pn) elt te)
    (hs : ∀ v, genFold iter X.env v = pure v) (I : Inv X pins σ H s) (h : tGenx P wi g tt te (own.map (·.2)) Yx σ H cont) :
    wpAny (model X.prog X.w) X.A (eval (.GeneratorExp elt [⟨tg, iter, ifs, 0⟩] scope gpos) X.env) (fun u s' => ∃ H1 sc, Inv X pins σ H1 sc ∧ sc.heap.objs.size ≤ s'.heap.objs.size ∧ GMadeC X.prog X.w (k + 1) X.stack H1 sc Yx cont E u s') X.xe s := by
  have hfree : ∀ y ∈ scope.names, y.2 = .free → ∃ c, X.env.cells.lookup y.1 = some c := fun y hy e => by
    rcases ok.blk.free y hy e with k | k
    · exact I.ok.has _ (.inl k)
    · exact I.ok.has _ (.inr k)
  refine wpAny_GeneratorExp_make ok.co (closure_ok hfree) ok.cell ok.dot ok.blk.kind (by have := hr.dp; omega) ?_ hs
  refine thn (hi.run pins s σ H _ I h) fun xv s1 ⟨J, H1, I1, ⟨hP, q1⟩, hit⟩ => ?_
  refine thn hit fun itv s2 ⟨it, fp, tn, eit, I2, gen2, kp2, T, st2, f2⟩ => ?_
  subst eit
  refine ⟨I2.nolimit, ?_⟩
  obtain ⟨⟨ps, hPs, ht3⟩, _⟩ := I1.hok P _ hP
  have hP2 : s2.heap.get? P = some { cls := .none, data := .fields ps } := kp2 P _ hPs
  have cd : PySem.W.CodeHd s2.heap c P := TB.code.keeps fun b u e => I2.bk b u e
  have sz12 : s1.heap.objs.size ≤ s2.heap.objs.size := by
    cases hz : s1.heap.objs.size with
    | zero => exact Nat.zero_le _
    | succ n =>
      have hlt : P < s1.heap.objs.size := Heap.lt_size hPs
      by_cases hle : s1.heap.objs.size ≤ s2.heap.objs.size
      · rw [hz] at hle; exact hle
      · obtain ⟨o, e, _⟩ := T.obj _ _ st2 it T.mem
        have h1 := Heap.lt_size e
        have h2 := f2 it T.mem
        exact absurd (Nat.lt_of_le_of_lt h2 h1) (by omega)
  have cont' : ∀ (code : Value) (h3 : Heap) (tk : Nat) (ps' : Array Value), Heap.ExtBut P s2.heap h3 → s2.heap.objs.size ≤ h3.objs.size → h3.get? P = some { cls := .none, data := .fields ps' } → (∃ more, ps' = ps ++ more) → TriplesOk ps'.toList →
      wpAny (model X.prog X.w) X.A (builtinsFor X.env.globals X.env.builtins) (fun bi s₄ =>
        ∀ h', h'.Ns s₄.heap.objs.size (fun y => if y = ".0" then some (Value.ref it) else none) → Heap.SameBut s₄.heap.objs.size (s₄.heap.push { cls := .type "frame", data := .dict #[] }) h' →
          ∃ H1' sc, Inv X pins σ H1' sc ∧ sc.heap.objs.size ≤ (h'.push { cls := .type "generator", data := .fields #[.int s₄.gens.size 0, .str "<genexpr>" (s₄.toks + 1), .str (X.env.qual ++ "<genexpr>") (s₄.toks + 1 + 1)] }).objs.size ∧
            GMadeC X.prog X.w (k + 1) X.stack H1' sc Yx cont E (.ref h'.objs.size) { s₄ with
              gens := s₄.gens.push (.fresh (.compStart (.GeneratorExp elt [⟨tg, iter, ifs, 0⟩] scope gpos) 0 (.ref it) .none (gEnv X scope s₄.heap.objs.size code bi))),
              toks := s₄.toks + 1 + 1 + 1,
              heap := h'.push { cls := .type "generator", data := .fields #[.int s₄.gens.size 0, .str "<genexpr>" (s₄.toks + 1), .str (X.env.qual ++ "<genexpr>") (s₄.toks + 1 + 1)] } }) X.xe { s2 with heap := h3, toks := tk } := by
    intro code h3 tk ps' hx hsz hP3 hmore htr
    obtain ⟨bm, ob, e1, e2, e3, e4, e5, e6, e7, e8⟩ := TB.bm
    have hcP : cStatics ≠ P := fun e => by
      obtain ⟨_, hns, _⟩ := I1.nolimit
      obtain ⟨o', es, ep, ho, hd, _⟩ := hns
      rw [e, hPs] at ho
      cases ho
      cases hd
    have keep3 : ∀ b u, b ≠ P → s1.heap.get? b = some u → h3.get? b = some u := fun b u hb e => hx b u hb (kp2 b u e)
    refine wpAny_builtinsFor (m := X.mg) (by rw [I1.ok.glob]; exact (I2.mod.glob.keeps I2.bk).extBut hx TB.gP) e1 e2 (keep3 _ _ e4 (I1.bk _ _ e5)) e6 e7 e8 ?_
    intro h' hn' hs'
    -- the state behind: s5
    have szL : h'.objs.size = h3.objs.size + 1 := by rw [hs'.1]; exact Heap.size_push ..
    obtain ⟨more, em⟩ := hmore
    generalize hgo : ({ cls := .type "generator", data := .fields #[.int s2.gens.size 0, .str "<genexpr>" (tk + 1), .str (X.env.qual ++ "<genexpr>") (tk + 1 + 1)] } : Obj) = go
    have goC : go.cls = .type "generator" := by rw [← hgo]
    have goD : go.data = .fields #[.int s2.gens.size 0, .str "<genexpr>" (tk + 1), .str (X.env.qual ++ "<genexpr>") (tk + 1 + 1)] := by rw [← hgo]
    have goS : go.slots = #[] := by rw [← hgo]
    have goN : NoCell go := fun v z => by rw [goD] at z; cases z
    have goP : (h'.push go).get? h'.objs.size = some go := by rw [← hgo]; exact Heap.get?_push_size _ rfl
    have keep5 : ∀ b u, b ≠ P → s1.heap.get? b = some u → (h'.push go).get? b = some u := fun b u hb e =>
      Heap.get?_push_of_some _ (hs'.extBut b u (fun z => by
        have h1 := Heap.lt_size e
        rw [z] at h1
        have h2 : h3.objs.size < s1.heap.objs.size := h1
        omega) (Heap.get?_push_of_some _ (keep3 b u hb e)))
    have keep5' : ∀ b u, b ≠ P → s2.heap.get? b = some u → (h'.push go).get? b = some u := fun b u hb e =>
      Heap.get?_push_of_some _ (hs'.extBut b u (fun z => by
        have h1 := Heap.lt_size e
        rw [z] at h1
        have h2 : h3.objs.size < s2.heap.objs.size := h1
        omega) (Heap.get?_push_of_some _ (hx b u hb e)))
    have hP5 : (h'.push go).get? P = some { cls := .none, data := .fields ps' } :=
      Heap.get?_push_of_some _ (hs'.extBut P _ (fun z => by
        have h1 := Heap.lt_size hP3
        rw [z] at h1
        exact Nat.lt_irrefl _ h1) (Heap.get?_push_of_some _ hP3))
    have J5 := inv_tabE (h' := h'.push go) (g' := s2.gens.push (.fresh (.compStart (.GeneratorExp elt [⟨tg, iter, ifs, 0⟩] scope gpos) 0 (.ref it) .none (gEnv X scope h3.objs.size code builtinsNs)))) (d' := s2.drawn) (t' := tk + 1 + 1 + 1) I1 hP keep5
      hP5 htr (AllBare.push (by rw [gen2]; exact I1.bare) rfl)
    refine ⟨H1, s1, I1, by show s1.heap.objs.size ≤ (h'.push go).objs.size; rw [Heap.size_push]; omega, h'.objs.size, s2.gens.size, _, go, rfl, by omega, by show h'.objs.size < (h'.push go).objs.size; rw [Heap.size_push]; exact Nat.lt_succ_self _, goP, goN, ⟨go, _, _, goP, goC, goD, goS⟩, Array.getElem?_push_size .., I2.os.trans I1.os.symm, J5.bare, J5.nolimit, ?_⟩
    intro C Aw S s2w hrw hfr hS hk2 hSo hos hba
    have lt1L : s1.heap.objs.size ≤ h3.objs.size := Nat.le_trans sz12 hsz
    have nN1 : ∀ b, H1 b = none → b ≠ P := fun b e z => by
      rw [z, hP] at e
      cases e
    have hPlt : P < s1.heap.objs.size := Heap.lt_size hPs
    have kp1 : ∀ b u, b ≠ P → s1.heap.get? b = some u → s2w.heap.get? b = some u := fun b u hb e => hk2 b u (keep5 b u hb e)
    have hPw : s2w.heap.get? P = some { cls := .none, data := .fields ps' } := hk2 _ _ hP5
    have un : Un (frs X.stack) [] H1 H1 s1.heap s2w.heap := {
      keep := fun b o q n _ _ => kp1 b o (nN1 b n) q
      slot := fun b o q n _ _ => ⟨o.slots, kp1 b o (nN1 b n) q⟩
      free := fun b o q n _ => n
      there := fun b o q _ => by
        by_cases hb : b = P
        · exact ⟨_, by rw [hb]; exact hPw⟩
        · exact ⟨o, kp1 b o hb q⟩
      tups := fun b xs q => q
      frzs := fun b o v q => q
      tbls := fun b qs q => ⟨#[], by simp [q]⟩ }
    have hLn : H1 h3.objs.size = none := I1.hok.fresh lt1L
    have hnsw : s2w.heap.Ns h3.objs.size (fun y => if y = ".0" then some (Value.ref it) else none) :=
      (show (h'.push go).Ns h3.objs.size _ from Heap.Ns.push (show h'.Ns h3.objs.size _ from hn') go).keeps hk2
    have Ig : Inv (gCx X Aw s1 H1 E scope h3.objs.size code builtinsNs []) [] (wipe σ (own.map (·.2))) H1 s2w :=
      inv_startGx (m := fun y => if y = ".0" then some (Value.ref it) else none) I1 ok hN rfl hrw.hd hfr lt1L hnsw un (J5.hok.kept hk2) hos hba hLn
    -- what is younger
    have young : ∀ b, s1.heap.objs.size ≤ b → b ≠ h3.objs.size → H1 b = none ∧ b ≠ h3.objs.size ∧ b ∉ frs X.stack ∧ s1.heap.objs.size ≤ b ∧ ∀ y c, (cloFrom X.env.cells scope.names []).lookup y = some c → c ≠ b := fun b hb hbL => by
      refine ⟨?_, hbL, fun hm => ?_, hb, fun y c e z => ?_⟩
      · exact I1.hok.fresh hb
      · rcases List.mem_cons.mp (I1.stkSub b hm) with z | z
        · have := I1.lt
          rw [z] at hb
          exact absurd (Nat.lt_of_lt_of_le this hb) (Nat.lt_irrefl _)
        · exact I1.nofs hb z
      · obtain ⟨v, q⟩ := Ig.cell y c e
        have hc : X.env.cells.lookup y = some c := by
          rcases cloFrom_mem (PySem.mem_of_lookup e) with hm | ⟨h1, h2⟩
          · cases hm
          · obtain ⟨c1, hc⟩ := hfree _ h1 rfl
            have hc : X.env.cells.lookup y = some c1 := hc
            have e2 : c = c1 := by
              rw [h2, hc] <;> rfl
            rw [e2]
            exact hc
        obtain ⟨v, q⟩ := I1.cell y c hc
        have := q.lt
        rw [z] at this
        exact absurd (Nat.lt_of_lt_of_le this hb) (Nat.lt_irrefl _)
    have szgo : (h'.push go).objs.size = h3.objs.size + 2 := by rw [Heap.size_push, szL]
    have ha1 : s1.heap.objs.size ≤ h'.objs.size ∧ h'.objs.size ≠ h3.objs.size := ⟨by omega, by omega⟩
    have hS1 : ∀ b, S = some b → s1.heap.objs.size ≤ b ∧ b ≠ h3.objs.size ∧ b ≠ h'.objs.size := fun b e => by
      have z : (h'.push go).objs.size ≤ b := hS b e
      refine ⟨by omega, Nat.ne_of_gt (by omega), Nat.ne_of_gt (by omega)⟩
    have hea : s2w.heap.get? h'.objs.size = some go := hk2 _ _ goP
    obtain ⟨oS, cS0, hoS⟩ := hSo
    have Ip : Inv (gCx X Aw s1 H1 E scope h3.objs.size code builtinsNs [(h'.objs.size, go)]) (pinsS S oS ++ []) (wipe σ (own.map (·.2))) H1 s2w := by
      have Iok := Ig.ok
      refine ⟨⟨Iok.mod, Iok.kind, Iok.glob, Iok.blt, Iok.above, Iok.inj, Iok.has, Iok.cab, Iok.hd, Iok.frames, Iok.stk, Iok.exf, Iok.bs, Iok.bsz, Iok.noex, Iok.exfs, Iok.funs, Iok.frf⟩, Ig.os, Ig.bare, Ig.base, Ig.loc, Ig.cell, Ig.free, Ig.freeC, fun p hp => ?_, Ig.hok, Ig.len⟩
      rcases List.mem_append.mp hp with z | z
      · rw [List.mem_singleton.mp z]
        obtain ⟨y1, y2, y3, _, _⟩ := young _ ha1.1 ha1.2
        exact ⟨hea, y1, y2, y3, goN⟩
      · rw [List.append_nil] at z
        obtain ⟨e1, e2⟩ := mem_pinsS z
        obtain ⟨q1, q2, q3⟩ := hS1 _ e1
        obtain ⟨y1, y2, y3, _, _⟩ := young _ q1 q2
        obtain ⟨g1, g2⟩ := hoS _ e1
        rw [e2]
        exact ⟨g1, y1, y2, y3, g2⟩
    have hGI : GIc (gCx X Aw s1 H1 E scope h3.objs.size code builtinsNs [(h'.objs.size, go)]) S C [] [] (wipe σ (own.map (·.2))) H1 s2w := ⟨oS, cS0, Ip⟩
    have isgen : ∀ h : Heap, h.get? h'.objs.size = some go → h.IsGen h'.objs.size s2.gens.size := fun h e => ⟨go, _, _, e, goC, goD, goS⟩
    have pinned : ∀ {pins' : List (Addr × Obj)} {s' : Shared} {σ' : L2.St} {H' : Hp}, Inv (gCx X Aw s1 H1 E scope h3.objs.size code builtinsNs [(h'.objs.size, go)]) pins' σ' H' s' → s'.heap.IsGen h'.objs.size s2.gens.size := fun {pins' s' σ' H'} J =>
      isgen _ (J.pin (h'.objs.size, go) (List.mem_append_left _ (List.mem_singleton.mpr rfl))).1
    have hfpL : ∀ b ∈ fp, s1.heap.objs.size ≤ b ∧ b ≠ h3.objs.size ∧ b ≠ h'.objs.size ∧ b < s2.heap.objs.size := fun b hb => by
      obtain ⟨o, e, _⟩ := T.obj _ _ st2 b hb
      have h1 : (b : Nat) < s2.heap.objs.size := Heap.lt_size e
      have h2 : s1.heap.objs.size ≤ (b : Nat) := f2 b hb
      refine ⟨h2, Nat.ne_of_lt (Nat.lt_of_lt_of_le h1 hsz), Nat.ne_of_lt (Nat.lt_of_lt_of_le h1 (show s2.heap.objs.size ≤ h'.objs.size by omega)), h1⟩
    have stw : tn 0 s2w.heap := T.keep _ _ _ st2 fun b hb o e => hk2 b o (keep5' b o (Nat.ne_of_gt (Nat.lt_of_lt_of_le hPlt (f2 b hb))) e)
    obtain ⟨W, ⟨m0, w0⟩, turn⟩ := q1
    have hr1 : Room k (Aw.deeper (gEnv X scope h3.objs.size code builtinsNs)) := hrw.deeper _
    have loop := seg_turns (Xg := gCx X Aw s1 H1 E scope h3.objs.size code builtinsNs [(h'.objs.size, go)]) (A := Aw) (R := RC X.prog X.w X.stack H1 s1 S h'.objs.size s2.gens.size C cont E) (Y := YC X.prog X.w X.stack H1 s1 S h'.objs.size s2.gens.size C Yx) (S := S) (C := C) (Yx := Yx)
      (elt := elt) (tg := tg) (iter := iter) (ifs := ifs) (scope := scope) (pos := gpos) (it := it) (fp := fp) (tn := tn) (J := J) (cont := cont) (W := W) (σ := σ) (vs := own.map (·.2))
      rfl rfl ok.co (fun p hp e => by
        rw [List.mem_singleton.mp hp] at e
        exact (hS1 _ e).2.2 rfl) (fun a e => by
        obtain ⟨q1, q2, q3⟩ := hS1 _ e
        obtain ⟨y1, y2, y3, y4, y5⟩ := young _ q1 q2
        exact ⟨y4, y2, y5⟩) (fun b hb e => by
        have z : (h'.push go).objs.size ≤ b := hS b e
        have h9 := (hfpL b hb).2.2.2
        exact absurd (Nat.lt_of_lt_of_le h9 (Nat.le_trans (show s2.heap.objs.size ≤ (h'.push go).objs.size by omega) z)) (Nat.lt_irrefl _)) (fun b hb => by
        obtain ⟨q1, q2, q3, q4⟩ := hfpL b hb
        obtain ⟨y1, y2, y3, y4, y5⟩ := young _ q1 q2
        exact ⟨y2, y3, y4, y5, fun p hp => by
          rw [List.mem_singleton.mp hp]
          exact Ne.symm q3⟩) T (hg _ _ _ _ _ _ _) (ht _ _ _ _ _ _ _ hr1) (he _ _ _ _ _ _ _ hr1) turn
      (fun n s₀ ys H' s' hn hI hc => by
        obtain ⟨a1, oS', c', eS'⟩ := hI.at_
        obtain ⟨_, _, J'⟩ := hI
        exact .inl ⟨.inr rfl, ys, H', J'.os, J'.bare, J'.base, J'.hok, fun b e => (a1 b e).1, ⟨oS', c', eS'⟩, by omega, hc⟩)
      (fun n s₀ e s' hx => wpAny_mono (show wpAny (model X.prog X.w) (Aw.deeper (gEnv X scope h3.objs.size code builtinsNs)) (leaving (gEnv X scope h3.objs.size code builtinsNs) e)
        (fun _ s'' => CX X.prog X.w X.stack H1 s1 E e s'' ∧ ∀ p ∈ [(h'.objs.size, go)], s''.heap.get? p.1 = some p.2) (fun _ _ => False) s' from hx) (fun _ s'' q => .inr ⟨e, rfl, q.1, isgen _ (q.2 (h'.objs.size, go) (List.mem_singleton.mpr rfl))⟩) fun _ _ q => q)
      (fun n s₀ ys ip σ2 H' x v s' kap hn hip rv hI hyx hk => by
        obtain ⟨a1, oS', c', eS'⟩ := hI.at_
        obtain ⟨_, _, J'⟩ := hI
        exact ⟨ys, x, H', hn, rv, J'.os, J'.bare, J'.nolimit, pinned J', J'.base, J'.hok, fun b e => (a1 b e).1, ⟨oS', c', eS'⟩, hyx, hk⟩)
      m0 0 sizeLine [] s2w s2w _ (Nat.add_zero _) w0 hGI stw (fun b hb => by
        exact I1.hok.fresh (f2 b hb))
    show Seg _ Aw _ _ _ s2w _ ((compStart (.GeneratorExp elt [⟨tg, iter, ifs, 0⟩] scope gpos) 0 (.ref it) .none (gEnv X scope h3.objs.size code builtinsNs)).onRaise (leaving (gEnv X scope h3.objs.size code builtinsNs))) [] s2w
    unfold compStart
    rw [Sem.onRaise_eq_wrap]
    show Seg _ Aw _ _ _ s2w _ ((ask >>= _).wrap _ _ _ _) [] s2w
    refine seg_bind_wrap (wpAny_askSetting ?_)
    split
    · exact seg_again rfl loop
    · first
        | exact seg_bind_wrap (wpAny_rule (seg_bind_wrap (wpAny_standAt (seg_bind_wrap (T.self _ 0 s2w _ _ stw (seg_again rfl loop))))))
        | (refine seg_bind_wrap (wpAny_rule ?_); show Seg _ Aw _ _ _ s2w _ ((standAt iter.pos >>= _).wrap _ _ _ _) [] s2w; exact seg_bind_wrap (wpAny_standAt (seg_bind_wrap (T.self _ 0 s2w _ _ stw (seg_again rfl loop)))))
  cases hf : codeAmong gpos ps.toList with
  | none =>
    refine wpAny_genexprCodeX hcode (cd.code hP2 ht3) (cd.tab hP2) hf fun c' h' tk hx hge hlt hco' _ htab' _ => ?_
    obtain ⟨o1, vs, f1, tf, fl, tg, inF, tx, tt, op, _, _, _, _, _, _, _, _, _, htr, _⟩ := hco'
    exact cont' _ h' tk _ hx (Nat.le_trans hge (Nat.le_of_lt hlt)) htab'.2 ⟨_, rfl⟩ htr
  | some cv =>
    refine wpAny_genexprCode_hit hcode (cd.code hP2 ht3) hf ?_
    exact cont' cv s2.heap s2.toks ps (Heap.ExtBut.refl _ _) (Nat.le_refl _) hP2 ⟨#[], by simp⟩ ht3
end
end GX
set_option Elab.async false
set_option linter.all false
set_option maxRecDepth 100000
set_option maxHeartbeats 2000000
namespace GX
open PySem PySem.Spec PyProof.Rows L2 GenW

/-! ### the consumer with a list -/
def CL : List V → Obj → Prop := fun ys o => ∃ (acc : Array Value) (c : Nat), o = lstObj acc c ∧ Vals ys acc.toList
theorem lst_nocell {acc : Array Value} {c : Nat} : NoCell (lstObj acc c) := fun v q => by cases q
theorem slept_push {S : Addr} {s : Shared} {acc : Array Value} {c : Nat} {G : Array GenState} {ys : List V} {x : V} {v : Value} (hS : s.heap.get? S = some (lstObj acc c)) (hG : AllBare G) (rr : Vals ys acc.toList) (rv : RelV x v) :
    SleptC (some S) CL (ys ++ [x]) s { s with gens := G, heap := s.heap.update S (Obj.mapSeq (·.push v)) } where
  os := rfl
  bare := hG
  keep := fun b o hb e => (Heap.get?_update_other _ _ (fun z => hb (by rw [z]))).trans e
  own := ⟨Obj.mapSeq (·.push v) (lstObj acc c), ⟨acc.push v, _, rfl, by rw [Array.toList_push]; exact rr.append (.cons rv .nil)⟩, fun b hb => by
    cases hb
    exact ⟨Heap.get?_update_self _ hS rfl, fun v q => by cases q⟩⟩
theorem drainL {P : Program} {w : World} {outer : List Env} {H : Hp} {sc : Shared} {Q : List V → Hp → Prop} {EX : XK} {Yx : List V → V → Hp → Prop} {A : Around} {R : Result → Shared → Prop} {S a : Addr} {g : Nat} {res : Value}
    (hh : A.handled = none) (hd : A.depth < recursionLimit) (hSa : S ≠ a) (hSc : S ≠ cStatics)
    (hend : ∀ s' acc c H' ys, s'.heap.get? S = some (lstObj acc c) → Vals ys acc.toList → ys.length ≤ sizeLine → s'.os = sc.os → AllBare s'.gens → Un (frs outer) [] H H' sc.heap s'.heap → HOk P w H' s'.heap → H' S = none → Q ys H' → R (.ok (.ret res)) s')
    (hexc : ∀ e s', CX P w outer H sc EX e s' → NotStop (model P w) e s'.heap ∧ R (.error e) (s'.setGen g .finished)) :
    ∀ (m : Nat) (s : Shared), s.heap.IsGen a g → s.heap.NoLimit →
      (∃ gs, s.gens[g]? = some gs ∧ gs.Goes (model P w) A.in1.in1 (RC P w outer H sc (some S) a g CL Q EX) (YC P w outer H sc (some S) a g CL Yx) m (.send .none) (s.setGen g .running)) →
      codeAny (model P w) A (.builtin "list.extend.loop" ⟨[.ref S, .ref a, res], []⟩) R s := by
  have goes : ∀ {gs : GenState} {B : Around} {n : Nat} {r : Resume} {s : Shared}, gs.Goes (model P w) B (RC P w outer H sc (some S) a g CL Q EX) (YC P w outer H sc (some S) a g CL Yx) n r s →
      gs.Goes (model P w) B (fun n s₀ r s1 => ((r = .ok (.ret .none) ∨ r = .ok .next) ∧ (∃ (ys : List V) (H' : Hp), s1.os = sc.os ∧ AllBare s1.gens ∧ Un (frs outer) [] H H' sc.heap s1.heap ∧ HOk P w H' s1.heap ∧ (∀ b, some S = some b → H' b = none) ∧ (∃ oS, CL ys oS ∧ ∀ b, some S = some b → s1.heap.get? b = some oS ∧ NoCell oS) ∧ ys.length ≤ sizeLine ∧ Q ys H')) ∨
        ∃ e, r = .error e ∧ (CX P w outer H sc EX e s1 ∧ s1.heap.IsGen a g)) (YC P w outer H sc (some S) a g CL Yx) n r s := fun h => h
  intro m
  induction m with
  | zero =>
    intro s hg hl ⟨gs, hgs, hgo⟩
    refine codeAny_builtin F.entry_extend_loop ?_
    rw [Around.under_plainId F.plain_extend_loop _]
    show wpAny _ A.in1 (pyNext (.ref a) >>= _) _ _ s
    refine wpAny_bind (next_genG (A := A.in1) hh hl hd hg hgs (goes hgo) (fun v s₁ gs' hbare hv => ?_) (fun s₁ hp h' hk => ?_) fun e s₁ he => ?_)
    · obtain ⟨ys, x, H', hn, rv, os1, hb1, hl1, hg1, un, hok, hSn, ⟨oS, ⟨acc, c, e, rr⟩, eS⟩, hyx, hk⟩ := hv
      have hS1 := (eS S rfl).1
      rw [e] at hS1
      exact False.elim (hk _ (slept_push hS1 hb1 rr rv))
    · obtain ⟨ys, H', os1, hb1, un, hok, hSn, ⟨oS, ⟨acc, c, e, rr⟩, eS⟩, hle, hQ⟩ := hp
      have eS' := (eS S rfl).1
      rw [e] at eS'
      exact wpAny_pure (hend _ acc c H' ys (hk _ _ eS') rr hle os1 (allBare_setGen hb1 rfl) (un.trans (Un.kept hk)) (hok.kept hk) (hSn S rfl) hQ)
    · obtain ⟨hc, hg1⟩ := he
      obtain ⟨q1, q2⟩ := hexc e s₁ hc
      exact ⟨hg1, q1, q2⟩
  | succ m ih =>
    intro s hg hl ⟨gs, hgs, hgo⟩
    have hgl : g < s.gens.size := (Array.getElem?_eq_some_iff.mp hgs).1
    refine codeAny_builtin F.entry_extend_loop ?_
    rw [Around.under_plainId F.plain_extend_loop _]
    show wpAny _ A.in1 (pyNext (.ref a) >>= _) _ _ s
    refine wpAny_bind (wpAny_gsz (n := g + 1) hgl (next_genG (A := A.in1) hh hl hd hg hgs (goes hgo) (fun v s₁ gs' hbare hv => ?_) (fun s₁ hp h' hk => ?_) fun e s₁ he => ?_))
    · intro hsz
      obtain ⟨ys, x, H', hn, rv, os1, hb1, hl1, hg1, un, hok, hSn, ⟨oS, ⟨acc, c, e, rr⟩, eS⟩, hyx, hk⟩ := hv
      have hS1 := (eS S rfl).1
      rw [e] at hS1
      have hasz : acc.size = ys.length := by
        have e1 := rr.length
        have e2 : acc.toList.length = acc.size := by simp
        omega
      have hasz' : acc.size < sizeLine := by omega
      show wpAny _ A.in1 (updateSeq S (·.push v) >>= _) _ _ _
      refine wpAny_bind ?_
      refine wpAny_updateSeq hS1 rfl (wpAny_pure ⟨plainId_quiet F.plain_extend_loop _, ?_⟩) (Nat.le_of_lt hasz') (by show (acc.push v).size ≤ sizeLine + 1; rw [Array.size_push]; omega)
      have keep3 : ∀ b o, b ≠ S → s₁.heap.get? b = some o → (s₁.heap.update S (Obj.mapSeq (·.push v))).get? b = some o := fun b o hbS e => (Heap.get?_update_other _ _ (Ne.symm hbS)).trans e
      have hsz1 : g < s₁.gens.size := by
        have q : (s₁.setGen g gs').gens.size = s₁.gens.size := setGen_size _ _ _
        have hsz' : g + 1 ≤ (s₁.setGen g gs').gens.size := hsz
        omega
      refine ih { s₁.setGen g gs' with heap := s₁.heap.update S (Obj.mapSeq (·.push v)) } ?_ ?_ ⟨gs', setGen_at hsz1, ?_⟩
      · obtain ⟨o, nm, qn, ho, r⟩ := hg1
        exact ⟨o, nm, qn, keep3 a o (Ne.symm hSa) ho, r⟩
      · obtain ⟨mc, hns, hnn⟩ := hl1
        exact ⟨mc, hns.at' fun o e => keep3 _ o (Ne.symm hSc) e, hnn⟩
      · exact hk _ (slept_push hS1 (allBare_setGen (s := s₁.setGen g gs') (allBare_setGen hb1 hbare) rfl) rr rv)
    · intro hsz
      obtain ⟨ys, H', os1, hb1, un, hok, hSn, ⟨oS, ⟨acc, c, e, rr⟩, eS⟩, hle, hQ⟩ := hp
      have eS' := (eS S rfl).1
      rw [e] at eS'
      exact wpAny_pure (hend _ acc c H' ys (hk _ _ eS') rr hle os1 (allBare_setGen hb1 rfl) (un.trans (Un.kept hk)) (hok.kept hk) (hSn S rfl) hQ)
    · obtain ⟨hc, hg1⟩ := he
      obtain ⟨q1, q2⟩ := hexc e s₁ hc
      exact ⟨hg1, q1, fun _ => q2⟩
end GX
set_option Elab.async false
set_option linter.all false
set_option maxRecDepth 100000
set_option maxHeartbeats 2000000
namespace GX
open PySem PySem.Spec PyProof.Rows L2 GenW

section
variable {P : Program} {w : World} {outer : List Env} {H : Hp} {sc s : Shared} {Q : List V → Hp → Prop} {EX : XK} {Yx : List V → V → Hp → Prop} {A : Around} {k : Nat} {u : Value} {E : Value → Shared → Prop}
/-- what is behind a drained generator: its list at S -/
structure Drained (P : Program) (w : World) (outer : List Env) (H : Hp) (sc s : Shared) (Q : List V → Hp → Prop) (acc : Array Value) (s' : Shared) : Prop where
  ex : ∃ (S : Addr) (c : Nat) (H' : Hp) (ys : List V), s.heap.objs.size ≤ S ∧ s'.heap.get? S = some (lstObj acc c) ∧ Vals ys acc.toList ∧ ys.length ≤ sizeLine ∧ s'.os = sc.os ∧ AllBare s'.gens ∧ Un (frs outer) [] H H' sc.heap s'.heap ∧ HOk P w H' s'.heap ∧ H' S = none ∧ Q ys H'
theorem collect_gen {Q' : List Value → Shared → Prop} (hr : Room (k + 4) A) (hfr : A.frames = some outer) (h : GMadeC P w k outer H sc Yx Q EX u s)
    (hQ : ∀ s' acc, Drained P w outer H sc s Q acc s' → Q' acc.toList s')
    (hexc : ∀ e s' g, CX P w outer H sc EX e s' → NotStop (model P w) e s'.heap ∧ E e (s'.setGen g .finished)) :
    wpAny (model P w) A (collect u) Q' E s := by
  obtain ⟨a, g, c, go, rfl, ha1, ha2, hgo, hgoN, hg, hgs, hos, hb, hl, wake⟩ := h
  have hSa : s.heap.objs.size ≠ a := Nat.ne_of_gt ha2
  have hcl : cStatics < s.heap.objs.size := let ⟨_, hn, _⟩ := hl; hn.lt
  have hSc : s.heap.objs.size ≠ cStatics := Nat.ne_of_gt hcl
  unfold collect
  refine wpAny_bind (wpAny_runValue (codeAny_builtin F.entry_proto_collect ?_))
  rw [Around.under_plainId F.plain_proto_collect _]
  show wpAny _ A.in1 (newList [] >>= fun l => again (.builtin "list.__iadd__" ⟨[l, .ref a], []⟩)) _ _ s
  refine wpAny_bind (wpAny_newObj_type ?_)
  refine wpAny_pure ⟨plainId_quiet F.plain_list_iadd _, codeAny_builtin F.entry_list_iadd ?_⟩
  rw [Around.under_plainId F.plain_list_iadd _]
  show wpAny _ A.in1 (Builtin.List.listExtendWith (.ref s.heap.objs.size) (.ref a) (.ref s.heap.objs.size)) _ _ _
  unfold Builtin.List.listExtendWith
  have hS : (s.heap.push { cls := .type "list", data := .seq ([] : List Value).toArray }).get? s.heap.objs.size = some { cls := .type "list", data := .seq ([] : List Value).toArray } := Heap.get?_push_size _ rfl
  have up : ∀ (h : Heap) (f : Obj → Obj), (∀ b o, s.heap.get? b = some o → h.get? b = some o) → ∀ b o, s.heap.get? b = some o → (h.update s.heap.objs.size f).get? b = some o := fun h f q b o e =>
    (Heap.get?_update_other _ _ (Ne.symm (Nat.ne_of_lt (Heap.lt_size e)))).trans (q b o e)
  have k1 : ∀ b o, s.heap.get? b = some o → (s.heap.push { cls := .type "list", data := .seq ([] : List Value).toArray }).get? b = some o := fun b o e => Heap.get?_push_of_some _ e
  have gty : ∀ {h : Heap}, (∀ b o, s.heap.get? b = some o → h.get? b = some o) → h.IsGen a g := fun {h} q => hg.keeps q
  refine wpAny_bind (wpAny_typeOf (Heap.IsGen.typeIs (s := { s with heap := _ }) (gty k1)) ?_)
  have h1 : Builtin.List.listSameRef (.ref s.heap.objs.size) (.ref a) = false := by simp [Builtin.List.listSameRef, hSa]
  have h2 : (Value.type "generator" == Value.type "list") = false := by decide
  have h3 : (Value.type "generator" == Value.type "tuple") = false := by decide
  simp only [h1, h2, h3, Bool.or_false, Bool.false_eq_true, if_false]
  refine wpAny_bind (wpAny_pyIter_gen (s := { s with heap := _ }) (gty k1) ?_)
  refine wpAny_bind (wpAny_holding ?_)
  unfold Builtin.List.listLengthHint
  refine wpAny_bind (wpAny_specialOf (Heap.IsGen.typeIs (s := { s with heap := _ }) (gty k1)) F.gen_no_len ?_)
  show wpAny _ A.in1 (specialOf (Value.ref a) (Str.ofString "__length_hint__") >>= _) _ _ _
  refine wpAny_bind (wpAny_specialOf (Heap.IsGen.typeIs (s := { s with heap := _ }) (gty k1)) F.gen_no_hint ?_)
  refine wpAny_pure ?_
  show wpAny _ A.in1 (rule "list.extend.makes-room" >>= fun _ => Builtin.List.listTouch (.ref s.heap.objs.size) >>= fun _ =>
    again (.builtin "list.extend.loop" ⟨[.ref s.heap.objs.size, .ref a, .ref s.heap.objs.size], []⟩)) _ _ _
  refine wpAny_bind (wpAny_rule ?_)
  refine wpAny_bind ?_
  show wpAny _ A.in1 (updateSeq s.heap.objs.size (·.push .none) >>= fun _ => updateSeq s.heap.objs.size (·.pop)) _ _ _
  refine wpAny_bind (wpAny_updateSeq hS rfl ?_)
  have hS3 := Heap.get?_update_self (Obj.mapSeq (·.push Value.none)) hS rfl
  refine wpAny_updateSeq (hz := by seq_fits) hS3 rfl ?_
  have hS4 := Heap.get?_update_self (Obj.mapSeq (·.pop)) hS3 rfl
  have k4 := up _ (Obj.mapSeq (·.pop)) (up _ (Obj.mapSeq (·.push Value.none)) k1)
  refine wpAny_pure ⟨plainId_quiet F.plain_extend_loop _, ?_⟩
  refine drainL (P := P) (w := w) (outer := outer) (H := H) (sc := sc) (Q := Q) (EX := EX) (Yx := Yx) (A := A) (g := g) hr.hd (by have := hr.dp; omega) hSa hSc
    (fun s' acc c H' ys q1 q2 q3 q4 q5 q6 q7 q8 q9 => ?_) (fun e s' hc => hexc e s' g hc)
    sizeLine _ (gty k4) (hl.keeps k4) ⟨_, hgs, rfl, ?_⟩
  · show wpAny _ A (load s.heap.objs.size >>= _) _ _ s'
    exact wpAny_bind (wpAny_load q1 (wpAny_pure (hQ s' acc ⟨_, c, H', ys, Nat.le_refl _, q1, q2, q3, q4, q5, q6, q7, q8, q9⟩)))
  · refine wake _ _ (some s.heap.objs.size) _ ⟨hr.hd, ?_, ?_⟩ hfr (fun b hb => by cases hb; exact Nat.le_refl _) k4 ⟨_, ⟨_, _, rfl, .nil⟩, fun b hb => by cases hb; exact ⟨hS4, fun v q => by cases q⟩⟩ hos (allBare_setGen (s := { s with heap := _ }) hb rfl)
    · have := hr.dp
      show A.depth + 3 * k + 5 < _
      omega
    · have := hr.un
      show A.units + 1 + 1 + 16 * k + 200 < _
      omega
theorem code_tuple_gen {Q₁ : Value → Shared → Prop} (hr : Room (k + 5) A) (hfr : A.frames = some outer) (h : GMadeC P w k outer H sc Yx Q EX u s)
    (hQ : ∀ s' acc, Drained P w outer H sc s Q acc s' → Q₁ (.ref s'.heap.objs.size) { s' with heap := s'.heap.push { cls := .type "tuple", data := .seq acc } })
    (hexc : ∀ e s' g, CX P w outer H sc EX e s' → NotStop (model P w) e s'.heap ∧ E e (s'.setGen g .finished)) :
    codeAny (model P w) A (.call (.builtin "tuple.__new__") ⟨[.type "tuple", u], []⟩) (wants Q₁ E) s := by
  have h0 := h
  obtain ⟨a, g, c, go, rfl, ha1, ha2, hgo, hgoN, hg, hgs, hos, hb, hl, wake⟩ := h
  refine codeAny_of_tree ?_
  show wpAny _ A.in1 (do checkBuiltinCall "tuple.__new__" ⟨[.type "tuple", .ref a], []⟩; again (.builtin "tuple.__new__" ⟨[.type "tuple", .ref a], []⟩)) _ _ s
  refine wpAny_bind (wpAny_of_eq (F.newCall_tuple_1 _) (wpAny_pure ⟨plainId_quiet F.plain_tuple_new _, codeAny_builtin F.entry_tuple_new ?_⟩))
  rw [Around.under_plainId F.plain_tuple_new _]
  have hsub := sub_tuple_self
  have hinit := init_tuple_lookup
  have hmh := madeHere_tuple
  have hTI : s.TypeIs (.ref a) "generator" := hg.typeIs
  have hrA : Room (k + 4) A.in1 := ⟨hr.hd, by have := hr.dp; show A.depth + 3 * (k + 4) + 5 < _; omega, by have := hr.un; show A.units + 1 + 16 * (k + 4) + 200 < _; omega⟩
  wp_walk using wpAny_typeOf hTI, collect_gen (A := A.in1) hrA hfr h0
  · intro s' acc hd
    have hz : acc.toList.toArray.size ≤ sizeLine := by
      obtain ⟨S, c, H', ys, _, _, hv, hle, _⟩ := hd.ex
      have e := hv.length
      simp only [Array.toArray_toList]
      have e2 : acc.toList.length = acc.size := by simp
      omega
    show wpAny _ _ (Builtin.Tuple.tupleExact acc.toList.toArray >>= fun v => ret v) _ _ _
    unfold Builtin.Tuple.tupleExact
    refine wpAny_bind (wpAny_newObj_type ?_ hz)
    refine wpAny_pure ?_
    have e : acc.toList.toArray = acc := by simp
    rw [e]
    exact hQ s' acc hd
  · exact hexc
theorem call_tuple_gen {Q' : Value → Shared → Prop} (hr : Room (k + 6) A) (hfr : A.frames = some outer) (h : GMadeC P w k outer H sc Yx Q EX u s)
    (hQ : ∀ s' acc, Drained P w outer H sc s Q acc s' → Q' (.ref s'.heap.objs.size) { s' with heap := s'.heap.push { cls := .type "tuple", data := .seq acc } })
    (hexc : ∀ e s' g, CX P w outer H sc EX e s' → NotStop (model P w) e s'.heap ∧ E e (s'.setGen g .finished)) :
    wpAny (model P w) A (call (.type "tuple") [u]) Q' E s := by
  have hrA : Room (k + 5) A.in1 := ⟨hr.hd, by have := hr.dp; show A.depth + 3 * (k + 5) + 5 < _; omega, by have := hr.un; show A.units + 1 + 16 * (k + 5) + 200 < _; omega⟩
  refine callType_codes (Q₁ := fun obj s₁ => s₁.TypeIs obj "tuple" ∧ Q' obj s₁) F.called_tuple (F.typeCall_tuple_1 _) F.entry_object_init
    (code_tuple_gen (A := A.in1) hrA hfr h (fun s' acc hd => ⟨⟨_, Heap.get?_push_size _ rfl, rfl⟩, hQ s' acc hd⟩) hexc) fun obj s₁ h₁ => ?_
  exact ⟨h₁.1, F.args_object_init_2 obj _, object_init_meets F.called_tuple.init.lookup F.called_tuple.made (by decide) P w A.in1 _ s₁ ⟨h₁.1, rfl, h₁.2⟩⟩
end

/-- an exception that a call let out, in X -/
theorem kin_of_cx {X : Cx} {pins : List (Addr × Obj)} {σ : L2.St} {H : Hp} {sc s' : Shared} {E : XK} {e : Value} (I : Inv X pins σ H sc) (hc : CX X.prog X.w X.stack H sc E e s') : X.K.In s'.heap := by
  obtain ⟨a, B, H', cls, d, _, fl, _, ub, _⟩ := id hc
  refine I.ok.mod.kin.keeps fun b o eb => fl.1 b o (ub.keep b o (I.bs b o eb).1 (I.bs b o eb).2 fun hm => ?_)
  rcases List.mem_cons.mp (I.stkSub b hm) with z | z
  · have h1 := Heap.lt_size eb
    have h2 := Nat.le_trans I.ok.bsz I.ok.above
    rw [z] at h1
    exact absurd (Nat.lt_of_lt_of_le h1 h2) (Nat.lt_irrefl _)
  · exact I.ok.nofr eb z
theorem cx_setGen {P : Program} {w : World} {outer : List Env} {H : Hp} {sc s' : Shared} {E : XK} {e : Value} {g : Nat} (hc : CX P w outer H sc E e s') : CX P w outer H sc E e (s'.setGen g .finished) := by
  obtain ⟨a, B, H', cls, d, z1, fl, z2, ub, z3, z4, z5, z6⟩ := hc
  exact ⟨a, B, H', cls, d, z1, fl, z2, ub, z3, z4, allBare_setGen z5 rfl, z6⟩
section
variable {X : Cx}
theorem pe_tupG {c P : Addr} {elt tg iter : Expr} {ifs : List Expr} {scope : Scope} {own : List (Str × Nat)} {gpos p pos : Pos} {wi : TI} {g : TG} {tt : L2.St → TT} {te : L2.St → TE} {k : Nat} {E : L2.St → XK}
    (hr : Room (k + 7) X.A) (hc : X.calm = true) (hN : X.N.Nodup) (hgl : Gl X "tuple") (hm : X.mg "tuple" = none) (TB : GxR.TabB X.base X.mg c P) (hcode : X.env.code = .ref c) (ok : GenOk X.N X.env.scope scope own) (hi : PIf X tg iter wi)
    (hx : ∀ σ, PassesAt (L2.CX X.prog X.w) X σ (E σ)) (hns : ∀ σ, NoStop X.K (E σ))
    (hg : ∀ (σ : L2.St) (A : Around) (s : Shared) (H : Hp) (L : Addr) (code : Value) (bi : Addr) (pn : List (Addr × Obj)), PG (gCx X A s H (E σ) scope L code bi pn) tg g)
    (ht : ∀ (σ : L2.St) (A : Around) (s : Shared) (H : Hp) (L : Addr) (code : Value) (bi : Addr) (pn : List (Addr × Obj)), Room k (A.deeper (gEnv X scope L code bi)) → PTs (gCx X A s H (E σ) scope L code bi pn) ifs (tt σ))
    (he : ∀ (σ : L2.St) (A : Around) (s : Shared) (H : Hp) (L : Addr) (code : Value) (bi : Addr) (pn : List (Addr × Obj)), Room k (A.deeper (gEnv X scope L code bi)) → PE (gCx X A s H (E σ) scope L code bi pn) elt (te σ))
    (hs : ∀ v, genFold iter X.env v = pure v := by intro _; rfl)
    (hst : starEach [.GeneratorExp elt [⟨tg, iter, ifs, 0⟩] scope gpos] X.env = (false, eval (.GeneratorExp elt [⟨tg, iter, ifs, 0⟩] scope gpos) X.env) :: starEach [] X.env := by rfl) :
    PE X (.Call (.Name "tuple" p) [.GeneratorExp elt [⟨tg, iter, ifs, 0⟩] scope gpos] [] pos)
      (fun σ H Q => tGenx P wi g (tt σ) (te σ) (own.map (·.2)) (fun _ _ _ => True) σ H fun ys H2 => ∀ p, H2 p = none → Q (.ref p) (upd H2 p (.tup ys))) := by
  refine ⟨fun pins s σ H Q I h => ?_⟩
  refine wpAny_Call_Name_kw (ld_blt I hgl hm boot_tuple ?_)
  refine PyProof.Rows.callWith_type1 ?_ hst rfl
  rw [hst]
  show wpAny _ _ (spliced ((false, eval (.GeneratorExp elt [⟨tg, iter, ifs, 0⟩] scope gpos) X.env) :: backTo pos (starEach [] X.env))) _ _ s
  have hr0 : Room k X.A := hr.mono (by omega)
  refine Calls.spliced_cons (thn (genx_made (E := E σ) hr0 hc hN TB hcode ok hi (hg σ) (ht σ) (he σ) hs I h) fun u s1 ⟨H1, sc, I1, hsz, hG⟩ => ?_)
  refine Calls.spliced_nil ?_
  refine call_tuple_gen (k := k + 1) (by have := hr; exact this) I1.ok.frames hG (fun s' acc hd => ?_) fun e s' g hcx => ?_
  · obtain ⟨S, c', H', ys, q0, q1, q2, hl, q3, q4, q5, q6, q7, q8⟩ := hd.ex
    have J : Inv X pins σ H' s' := I1.call' (ch := []) q3 q5 q6 q4 (fun b hb => by simp at hb)
    have hz : acc.size ≤ sizeLine := by
      have e := q2.length
      have e2 : acc.toList.length = acc.size := by simp
      omega
    refine ⟨.ref s'.heap.objs.size, upd H' s'.heap.objs.size (.tup ys), ?_, rfl, q8 _ (J.hok.fresh (Nat.le_refl _))⟩
    have L := J.laid (t' := s'.toks) (a := s'.heap.objs.size) (o := .tup ys) (h' := s'.heap.push { cls := .type "tuple", data := .seq acc }) (fun b o e => Heap.get?_push_of_some _ e) (Nat.le_refl _)
      (show ObjOk X.prog X.w _ _ _ (.tup ys) from ⟨hl, acc.toList, q2, by
        have z := IsTup.new s'.heap acc
        first
          | exact z
          | simpa using z⟩)
    exact L
  · exact ⟨notStop_of (hns σ) (kin_of_cx I1 hcx) hcx, hx σ pins H1 sc e _ I1 (cx_setGen hcx)⟩
end
end GX
set_option Elab.async false
set_option linter.all false
set_option maxRecDepth 100000
set_option maxHeartbeats 2000000
namespace GX
open PySem PySem.Spec PyProof.Rows L2 GenW
/-- the consumer without a list -/
def CN : List V → Obj → Prop := fun _ _ => True
/-- a bool is handed out; where it is `stop` the consumer is done -/
def YB (stop : Bool) (QT : Hp → Prop) : List V → V → Hp → Prop := fun _ x H' => ∃ b, x = .bl b ∧ (b = stop → QT H')
section
variable {P : Program} {w : World} {outer : List Env} {H : Hp} {sc s : Shared} {EX : XK} {QT QF : Hp → Prop} {A : Around} {E : Value → Shared → Prop}
/-- what stands behind -/
structure Behind (P : Program) (w : World) (outer : List Env) (H : Hp) (sc : Shared) (Q : Hp → Prop) (s' : Shared) : Prop where
  ex : ∃ H' : Hp, s'.os = sc.os ∧ AllBare s'.gens ∧ Un (frs outer) [] H H' sc.heap s'.heap ∧ HOk P w H' s'.heap ∧ Q H'
theorem loop_any {R : Result → Shared → Prop} {a : Addr} {g : Nat} (hh : A.handled = none) (hd : A.depth < recursionLimit)
    (hT : ∀ s', Behind P w outer H sc QT s' → R (.ok (.ret (.bool true))) s') (hF : ∀ s', Behind P w outer H sc QF s' → R (.ok (.ret (.bool false))) s')
    (hexc : ∀ e s', CX P w outer H sc EX e s' → NotStop (model P w) e s'.heap ∧ R (.error e) (s'.setGen g .finished)) :
    ∀ (m : Nat) (s : Shared), s.heap.IsGen a g → s.heap.NoLimit →
      (∃ gs, s.gens[g]? = some gs ∧ gs.Goes (model P w) A.in1.in1 (RC P w outer H sc none a g CN (fun _ H' => QF H') EX) (YC P w outer H sc none a g CN (YB true QT)) m (.send .none) (s.setGen g .running)) →
      codeAny (model P w) A (.builtin "any.loop" ⟨[.ref a], []⟩) R s := by
  have goes : ∀ {gs : GenState} {B : Around} {n : Nat} {r : Resume} {s : Shared}, gs.Goes (model P w) B (RC P w outer H sc none a g CN (fun _ H' => QF H') EX) (YC P w outer H sc none a g CN (YB true QT)) n r s →
      gs.Goes (model P w) B (fun n s₀ r s1 => ((r = .ok (.ret .none) ∨ r = .ok .next) ∧ (∃ (ys : List V) (H' : Hp), s1.os = sc.os ∧ AllBare s1.gens ∧ Un (frs outer) [] H H' sc.heap s1.heap ∧ HOk P w H' s1.heap ∧ (∀ b, none = some b → H' b = none) ∧ (∃ oS, CN ys oS ∧ ∀ b, none = some b → s1.heap.get? b = some oS ∧ NoCell oS) ∧ ys.length ≤ sizeLine ∧ QF H')) ∨
        ∃ e, r = .error e ∧ (CX P w outer H sc EX e s1 ∧ s1.heap.IsGen a g)) (YC P w outer H sc none a g CN (YB true QT)) n r s := fun h => h
  intro m
  induction m with
  | zero =>
    intro s hg hl ⟨gs, hgs, hgo⟩
    refine codeAny_builtin F.entry_any_loop ?_
    rw [Around.under_plainId F.plain_any_loop _]
    show wpAny _ A.in1 (pyNext (.ref a) >>= _) _ _ s
    refine wpAny_bind (next_genG (A := A.in1) hh hl hd hg hgs (goes hgo) (fun v s₁ gs' hbare hv => ?_) (fun s₁ hp h' hk => ?_) fun e s₁ he => ?_)
    · obtain ⟨ys, x, H', hn, rv, os1, hb1, hl1, hg1, un, hok, hSn, hS, ⟨b, ex, hb⟩, hk⟩ := hv
      exact False.elim (hk s₁ ⟨rfl, hb1, fun b o _ e => e, ⟨{ cls := .none, data := .plain }, True.intro, fun b hb => by cases hb⟩⟩)
    · obtain ⟨ys, H', os1, hb1, un, hok, hSn, _, hle, hQ⟩ := hp
      exact wpAny_bind (wpAny_rule (wpAny_pure (hF _ ⟨H', os1, allBare_setGen hb1 rfl, un.trans (Un.kept hk), hok.kept hk, hQ⟩)))
    · obtain ⟨hc, hg1⟩ := he
      obtain ⟨q1, q2⟩ := hexc e s₁ hc
      exact ⟨hg1, q1, q2⟩
  | succ m ih =>
    intro s hg hl ⟨gs, hgs, hgo⟩
    have hgl : g < s.gens.size := (Array.getElem?_eq_some_iff.mp hgs).1
    refine codeAny_builtin F.entry_any_loop ?_
    rw [Around.under_plainId F.plain_any_loop _]
    show wpAny _ A.in1 (pyNext (.ref a) >>= _) _ _ s
    refine wpAny_bind (wpAny_gsz (n := g + 1) hgl (next_genG (A := A.in1) hh hl hd hg hgs (goes hgo) (fun v s₁ gs' hbare hv => ?_) (fun s₁ hp h' hk => ?_) fun e s₁ he => ?_))
    · intro hsz
      obtain ⟨ys, x, H', hn, rv, os1, hb1, hl1, hg1, un, hok, hSn, hS, ⟨b, ex, hb⟩, hk⟩ := hv
      subst ex
      obtain rfl : v = Value.bool b := rv
      have hsz1 : g < s₁.gens.size := by
        have q : (s₁.setGen g gs').gens.size = s₁.gens.size := setGen_size _ _ _
        have hsz' : g + 1 ≤ (s₁.setGen g gs').gens.size := hsz
        omega
      refine wpAny_bind (wpAny_holding (wpAny_truthy_bool ?_))
      refine wpAny_bind (wpAny_letGo ?_)
      cases b with
      | true =>
        show wpAny _ A.in1 (rule "any.true-item" >>= fun _ => ret (.bool true)) _ _ _
        exact wpAny_bind (wpAny_rule (wpAny_pure (hT _ ⟨H', os1, allBare_setGen hb1 hbare, un, hok, hb rfl⟩)))
      | false =>
        show wpAny _ A.in1 (again (.builtin "any.loop" ⟨[.ref a], []⟩)) _ _ _
        refine wpAny_pure ⟨plainId_quiet F.plain_any_loop _, ih (s₁.setGen g gs') hg1 hl1 ⟨gs', setGen_at hsz1, ?_⟩⟩
        exact hk _ ⟨rfl, allBare_setGen (s := s₁.setGen g gs') (allBare_setGen hb1 hbare) rfl, fun b o _ e => e, ⟨{ cls := .none, data := .plain }, True.intro, fun b hb => by cases hb⟩⟩
    · intro hsz
      obtain ⟨ys, H', os1, hb1, un, hok, hSn, _, hle, hQ⟩ := hp
      exact wpAny_bind (wpAny_rule (wpAny_pure (hF _ ⟨H', os1, allBare_setGen hb1 rfl, un.trans (Un.kept hk), hok.kept hk, hQ⟩)))
    · obtain ⟨hc, hg1⟩ := he
      obtain ⟨q1, q2⟩ := hexc e s₁ hc
      exact ⟨hg1, q1, fun _ => q2⟩
theorem loop_all {R : Result → Shared → Prop} {a : Addr} {g : Nat} (hh : A.handled = none) (hd : A.depth < recursionLimit)
    (hT : ∀ s', Behind P w outer H sc QT s' → R (.ok (.ret (.bool false))) s') (hF : ∀ s', Behind P w outer H sc QF s' → R (.ok (.ret (.bool true))) s')
    (hexc : ∀ e s', CX P w outer H sc EX e s' → NotStop (model P w) e s'.heap ∧ R (.error e) (s'.setGen g .finished)) :
    ∀ (m : Nat) (s : Shared), s.heap.IsGen a g → s.heap.NoLimit →
      (∃ gs, s.gens[g]? = some gs ∧ gs.Goes (model P w) A.in1.in1 (RC P w outer H sc none a g CN (fun _ H' => QF H') EX) (YC P w outer H sc none a g CN (YB false QT)) m (.send .none) (s.setGen g .running)) →
      codeAny (model P w) A (.builtin "all.loop" ⟨[.ref a], []⟩) R s := by
  have goes : ∀ {gs : GenState} {B : Around} {n : Nat} {r : Resume} {s : Shared}, gs.Goes (model P w) B (RC P w outer H sc none a g CN (fun _ H' => QF H') EX) (YC P w outer H sc none a g CN (YB false QT)) n r s →
      gs.Goes (model P w) B (fun n s₀ r s1 => ((r = .ok (.ret .none) ∨ r = .ok .next) ∧ (∃ (ys : List V) (H' : Hp), s1.os = sc.os ∧ AllBare s1.gens ∧ Un (frs outer) [] H H' sc.heap s1.heap ∧ HOk P w H' s1.heap ∧ (∀ b, none = some b → H' b = none) ∧ (∃ oS, CN ys oS ∧ ∀ b, none = some b → s1.heap.get? b = some oS ∧ NoCell oS) ∧ ys.length ≤ sizeLine ∧ QF H')) ∨
        ∃ e, r = .error e ∧ (CX P w outer H sc EX e s1 ∧ s1.heap.IsGen a g)) (YC P w outer H sc none a g CN (YB false QT)) n r s := fun h => h
  intro m
  induction m with
  | zero =>
    intro s hg hl ⟨gs, hgs, hgo⟩
    refine codeAny_builtin F.entry_all_loop ?_
    rw [Around.under_plainId F.plain_all_loop _]
    show wpAny _ A.in1 (pyNext (.ref a) >>= _) _ _ s
    refine wpAny_bind (next_genG (A := A.in1) hh hl hd hg hgs (goes hgo) (fun v s₁ gs' hbare hv => ?_) (fun s₁ hp h' hk => ?_) fun e s₁ he => ?_)
    · obtain ⟨ys, x, H', hn, rv, os1, hb1, hl1, hg1, un, hok, hSn, hS, ⟨b, ex, hb⟩, hk⟩ := hv
      exact False.elim (hk s₁ ⟨rfl, hb1, fun b o _ e => e, ⟨{ cls := .none, data := .plain }, True.intro, fun b hb => by cases hb⟩⟩)
    · obtain ⟨ys, H', os1, hb1, un, hok, hSn, _, hle, hQ⟩ := hp
      exact wpAny_bind (wpAny_rule (wpAny_pure (hF _ ⟨H', os1, allBare_setGen hb1 rfl, un.trans (Un.kept hk), hok.kept hk, hQ⟩)))
    · obtain ⟨hc, hg1⟩ := he
      obtain ⟨q1, q2⟩ := hexc e s₁ hc
      exact ⟨hg1, q1, q2⟩
  | succ m ih =>
    intro s hg hl ⟨gs, hgs, hgo⟩
    have hgl : g < s.gens.size := (Array.getElem?_eq_some_iff.mp hgs).1
    refine codeAny_builtin F.entry_all_loop ?_
    rw [Around.under_plainId F.plain_all_loop _]
    show wpAny _ A.in1 (pyNext (.ref a) >>= _) _ _ s
    refine wpAny_bind (wpAny_gsz (n := g + 1) hgl (next_genG (A := A.in1) hh hl hd hg hgs (goes hgo) (fun v s₁ gs' hbare hv => ?_) (fun s₁ hp h' hk => ?_) fun e s₁ he => ?_))
    · intro hsz
      obtain ⟨ys, x, H', hn, rv, os1, hb1, hl1, hg1, un, hok, hSn, hS, ⟨b, ex, hb⟩, hk⟩ := hv
      subst ex
      obtain rfl : v = Value.bool b := rv
      have hsz1 : g < s₁.gens.size := by
        have q : (s₁.setGen g gs').gens.size = s₁.gens.size := setGen_size _ _ _
        have hsz' : g + 1 ≤ (s₁.setGen g gs').gens.size := hsz
        omega
      refine wpAny_bind (wpAny_holding (wpAny_truthy_bool ?_))
      refine wpAny_bind (wpAny_letGo ?_)
      cases b with
      | false =>
        show wpAny _ A.in1 (rule "all.false-item" >>= fun _ => ret (.bool false)) _ _ _
        exact wpAny_bind (wpAny_rule (wpAny_pure (hT _ ⟨H', os1, allBare_setGen hb1 hbare, un, hok, hb rfl⟩)))
      | true =>
        show wpAny _ A.in1 (again (.builtin "all.loop" ⟨[.ref a], []⟩)) _ _ _
        refine wpAny_pure ⟨plainId_quiet F.plain_all_loop _, ih (s₁.setGen g gs') hg1 hl1 ⟨gs', setGen_at hsz1, ?_⟩⟩
        exact hk _ ⟨rfl, allBare_setGen (s := s₁.setGen g gs') (allBare_setGen hb1 hbare) rfl, fun b o _ e => e, ⟨{ cls := .none, data := .plain }, True.intro, fun b hb => by cases hb⟩⟩
    · intro hsz
      obtain ⟨ys, H', os1, hb1, un, hok, hSn, _, hle, hQ⟩ := hp
      exact wpAny_bind (wpAny_rule (wpAny_pure (hF _ ⟨H', os1, allBare_setGen hb1 rfl, un.trans (Un.kept hk), hok.kept hk, hQ⟩)))
    · obtain ⟨hc, hg1⟩ := he
      obtain ⟨q1, q2⟩ := hexc e s₁ hc
      exact ⟨hg1, q1, fun _ => q2⟩
end
end GX
set_option Elab.async false
set_option linter.all false
set_option maxRecDepth 100000
set_option maxHeartbeats 2000000
namespace GX
open PySem PySem.Spec PyProof.Rows L2 GenW
section
variable {P : Program} {w : World} {outer : List Env} {H : Hp} {sc s : Shared} {EX : XK} {QT QF : Hp → Prop} {A : Around} {E : Value → Shared → Prop} {k : Nat} {u : Value}
theorem call_any_gen {Q' : Value → Shared → Prop} (hr : Room (k + 4) A) (hfr : A.frames = some outer) (h : GMadeC P w k outer H sc (YB true QT) (fun _ H' => QF H') EX u s)
    (hT : ∀ s', Behind P w outer H sc QT s' → Q' (.bool true) s') (hF : ∀ s', Behind P w outer H sc QF s' → Q' (.bool false) s')
    (hexc : ∀ e s' g, CX P w outer H sc EX e s' → NotStop (model P w) e s'.heap ∧ E e (s'.setGen g .finished)) :
    wpAny (model P w) A (call (.builtin "any") [u]) Q' E s := by
  obtain ⟨a, g, c, go, rfl, ha1, ha2, hgo, hgoN, hg, hgs, hos, hb, hl, wake⟩ := h
  refine call_function_tree F.kind_any F.plain_any F.entry_any (F.args_any1 _) ?_
  unfold Builtin.«any»
  refine wpAny_bind (m := oneArg "any" _) (wpAny_pure ?_)
  refine wpAny_bind (wpAny_pyIter_gen hg ?_)
  refine wpAny_pure ⟨plainId_quiet F.plain_any_loop _, ?_⟩
  refine loop_any (P := P) (w := w) (outer := outer) (H := H) (sc := sc) (QT := QT) (QF := QF) (EX := EX) (A := A) (g := g) hr.hd (by have := hr.dp; omega) (fun s' hb => hT s' hb) (fun s' hb => hF s' hb) (fun e s' hc => hexc e s' g hc)
    sizeLine _ hg hl ⟨_, hgs, rfl, ?_⟩
  refine wake _ _ none _ ⟨hr.hd, ?_, ?_⟩ hfr (fun b hb => by cases hb) (fun _ _ e => e) ⟨{ cls := .none, data := .plain }, True.intro, fun b hb => by cases hb⟩ hos (allBare_setGen hb rfl)
  · have := hr.dp
    show A.depth + 3 * k + 5 < _
    omega
  · have := hr.un
    show A.units + 1 + 1 + 16 * k + 200 < _
    omega
theorem call_all_gen {Q' : Value → Shared → Prop} (hr : Room (k + 4) A) (hfr : A.frames = some outer) (h : GMadeC P w k outer H sc (YB false QT) (fun _ H' => QF H') EX u s)
    (hT : ∀ s', Behind P w outer H sc QT s' → Q' (.bool false) s') (hF : ∀ s', Behind P w outer H sc QF s' → Q' (.bool true) s')
    (hexc : ∀ e s' g, CX P w outer H sc EX e s' → NotStop (model P w) e s'.heap ∧ E e (s'.setGen g .finished)) :
    wpAny (model P w) A (call (.builtin "all") [u]) Q' E s := by
  obtain ⟨a, g, c, go, rfl, ha1, ha2, hgo, hgoN, hg, hgs, hos, hb, hl, wake⟩ := h
  refine call_function_tree F.kind_all F.plain_all F.entry_all (F.args_all1 _) ?_
  unfold Builtin.«all»
  refine wpAny_bind (m := oneArg "all" _) (wpAny_pure ?_)
  refine wpAny_bind (wpAny_pyIter_gen hg ?_)
  refine wpAny_pure ⟨plainId_quiet F.plain_all_loop _, ?_⟩
  refine loop_all (P := P) (w := w) (outer := outer) (H := H) (sc := sc) (QT := QT) (QF := QF) (EX := EX) (A := A) (g := g) hr.hd (by have := hr.dp; omega) (fun s' hb => hT s' hb) (fun s' hb => hF s' hb) (fun e s' hc => hexc e s' g hc)
    sizeLine _ hg hl ⟨_, hgs, rfl, ?_⟩
  refine wake _ _ none _ ⟨hr.hd, ?_, ?_⟩ hfr (fun b hb => by cases hb) (fun _ _ e => e) ⟨{ cls := .none, data := .plain }, True.intro, fun b hb => by cases hb⟩ hos (allBare_setGen hb rfl)
  · have := hr.dp
    show A.depth + 3 * k + 5 < _
    omega
  · have := hr.un
    show A.units + 1 + 1 + 16 * k + 200 < _
    omega
end
section
variable {X : Cx}
theorem behind_inv {pins : List (Addr × Obj)} {σ : L2.St} {H1 : Hp} {sc s' : Shared} {Q : Hp → Prop} (I : Inv X pins σ H1 sc) (hb : Behind X.prog X.w X.stack H1 sc Q s') : ∃ H', Inv X pins σ H' s' ∧ Q H' := by
  obtain ⟨H', q3, q4, q5, q6, q⟩ := hb.ex
  exact ⟨H', I.call' (ch := []) q3 q5 q6 q4 (fun b hb => by simp at hb), q⟩
theorem pe_anyG {c P : Addr} {elt tg iter : Expr} {ifs : List Expr} {scope : Scope} {own : List (Str × Nat)} {gpos p pos : Pos} {wi : TI} {g : TG} {tt : L2.St → TT} {te : L2.St → TE} {k : Nat} {E : L2.St → XK}
    (hr : Room (k + 5) X.A) (hc : X.calm = true) (hN : X.N.Nodup) (hgl : Gl X "any") (hm : X.mg "any" = none) (TB : GxR.TabB X.base X.mg c P) (hcode : X.env.code = .ref c) (ok : GenOk X.N X.env.scope scope own) (hi : PIf X tg iter wi)
    (hx : ∀ σ, PassesAt (L2.CX X.prog X.w) X σ (E σ)) (hns : ∀ σ, NoStop X.K (E σ))
    (hg : ∀ (σ : L2.St) (A : Around) (s : Shared) (H : Hp) (L : Addr) (code : Value) (bi : Addr) (pn : List (Addr × Obj)), PG (gCx X A s H (E σ) scope L code bi pn) tg g)
    (ht : ∀ (σ : L2.St) (A : Around) (s : Shared) (H : Hp) (L : Addr) (code : Value) (bi : Addr) (pn : List (Addr × Obj)), Room k (A.deeper (gEnv X scope L code bi)) → PTs (gCx X A s H (E σ) scope L code bi pn) ifs (tt σ))
    (he : ∀ (σ : L2.St) (A : Around) (s : Shared) (H : Hp) (L : Addr) (code : Value) (bi : Addr) (pn : List (Addr × Obj)), Room k (A.deeper (gEnv X scope L code bi)) → PE (gCx X A s H (E σ) scope L code bi pn) elt (te σ))
    (hs : ∀ v, genFold iter X.env v = pure v := by intro _; rfl)
    (hst : starEach [.GeneratorExp elt [⟨tg, iter, ifs, 0⟩] scope gpos] X.env = (false, eval (.GeneratorExp elt [⟨tg, iter, ifs, 0⟩] scope gpos) X.env) :: starEach [] X.env := by rfl) :
    PE X (.Call (.Name "any" p) [.GeneratorExp elt [⟨tg, iter, ifs, 0⟩] scope gpos] [] pos)
      (fun σ H Q => tGenx P wi g (tt σ) (te σ) (own.map (·.2)) (YB true fun H' => Q (.bl true) H') σ H fun _ H2 => Q (.bl false) H2) := by
  refine ⟨fun pins s σ H Q I h => ?_⟩
  refine wpAny_Call_Name_kw (ld_blt I hgl hm boot_any ?_)
  refine PyProof.Rows.callWith_builtin1 ?_ hst (by rfl)
  rw [hst]
  show wpAny _ _ (spliced ((false, eval (.GeneratorExp elt [⟨tg, iter, ifs, 0⟩] scope gpos) X.env) :: backTo pos (starEach [] X.env))) _ _ s
  have hr0 : Room k X.A := hr.mono (by omega)
  refine Calls.spliced_cons (thn (genx_made (E := E σ) hr0 hc hN TB hcode ok hi (hg σ) (ht σ) (he σ) hs I h) fun u s1 ⟨H1, sc, I1, hsz, hG⟩ => ?_)
  refine Calls.spliced_nil ?_
  refine call_any_gen (k := k + 1) (by exact hr) I1.ok.frames hG (fun s' hb => ?_) (fun s' hb => ?_) fun e s' g hcx => ?_
  · obtain ⟨H', J, q⟩ := behind_inv I1 hb
    exact ⟨.bl true, H', J, rfl, q⟩
  · obtain ⟨H', J, q⟩ := behind_inv I1 hb
    exact ⟨.bl false, H', J, rfl, q⟩
  · exact ⟨notStop_of (hns σ) (kin_of_cx I1 hcx) hcx, hx σ pins H1 sc e _ I1 (cx_setGen hcx)⟩
theorem pe_allG {c P : Addr} {elt tg iter : Expr} {ifs : List Expr} {scope : Scope} {own : List (Str × Nat)} {gpos p pos : Pos} {wi : TI} {g : TG} {tt : L2.St → TT} {te : L2.St → TE} {k : Nat} {E : L2.St → XK}
    (hr : Room (k + 5) X.A) (hc : X.calm = true) (hN : X.N.Nodup) (hgl : Gl X "all") (hm : X.mg "all" = none) (TB : GxR.TabB X.base X.mg c P) (hcode : X.env.code = .ref c) (ok : GenOk X.N X.env.scope scope own) (hi : PIf X tg iter wi)
    (hx : ∀ σ, PassesAt (L2.CX X.prog X.w) X σ (E σ)) (hns : ∀ σ, NoStop X.K (E σ))
    (hg : ∀ (σ : L2.St) (A : Around) (s : Shared) (H : Hp) (L : Addr) (code : Value) (bi : Addr) (pn : List (Addr × Obj)), PG (gCx X A s H (E σ) scope L code bi pn) tg g)
    (ht : ∀ (σ : L2.St) (A : Around) (s : Shared) (H : Hp) (L : Addr) (code : Value) (bi : Addr) (pn : List (Addr × Obj)), Room k (A.deeper (gEnv X scope L code bi)) → PTs (gCx X A s H (E σ) scope L code bi pn) ifs (tt σ))
    (he : ∀ (σ : L2.St) (A : Around) (s : Shared) (H : Hp) (L : Addr) (code : Value) (bi : Addr) (pn : List (Addr × Obj)), Room k (A.deeper (gEnv X scope L code bi)) → PE (gCx X A s H (E σ) scope L code bi pn) elt (te σ))
    (hs : ∀ v, genFold iter X.env v = pure v := by intro _; rfl)
    (hst : starEach [.GeneratorExp elt [⟨tg, iter, ifs, 0⟩] scope gpos] X.env = (false, eval (.GeneratorExp elt [⟨tg, iter, ifs, 0⟩] scope gpos) X.env) :: starEach [] X.env := by rfl) :
    PE X (.Call (.Name "all" p) [.GeneratorExp elt [⟨tg, iter, ifs, 0⟩] scope gpos] [] pos)
      (fun σ H Q => tGenx P wi g (tt σ) (te σ) (own.map (·.2)) (YB false fun H' => Q (.bl false) H') σ H fun _ H2 => Q (.bl true) H2) := by
  refine ⟨fun pins s σ H Q I h => ?_⟩
  refine wpAny_Call_Name_kw (ld_blt I hgl hm boot_all ?_)
  refine PyProof.Rows.callWith_builtin1 ?_ hst (by rfl)
  rw [hst]
  show wpAny _ _ (spliced ((false, eval (.GeneratorExp elt [⟨tg, iter, ifs, 0⟩] scope gpos) X.env) :: backTo pos (starEach [] X.env))) _ _ s
  have hr0 : Room k X.A := hr.mono (by omega)
  refine Calls.spliced_cons (thn (genx_made (E := E σ) hr0 hc hN TB hcode ok hi (hg σ) (ht σ) (he σ) hs I h) fun u s1 ⟨H1, sc, I1, hsz, hG⟩ => ?_)
  refine Calls.spliced_nil ?_
  refine call_all_gen (k := k + 1) (by exact hr) I1.ok.frames hG (fun s' hb => ?_) (fun s' hb => ?_) fun e s' g hcx => ?_
  · obtain ⟨H', J, q⟩ := behind_inv I1 hb
    exact ⟨.bl false, H', J, rfl, q⟩
  · obtain ⟨H', J, q⟩ := behind_inv I1 hb
    exact ⟨.bl true, H', J, rfl, q⟩
  · exact ⟨notStop_of (hns σ) (kin_of_cx I1 hcx) hcx, hx σ pins H1 sc e _ I1 (cx_setGen hcx)⟩
end
end GX
set_option Elab.async false
set_option linter.all false
set_option maxRecDepth 100000
set_option maxHeartbeats 2000000
/-! FileError: an own error whose __init__ says super().__init__(word) and keeps word as a field. -/
namespace GF
open PySem PySem.W PySem.Calls PyProof.Rows PySem.HandSPX
def iA (p1 p2 : Pos) : Arguments := { posonlyargs := [], args := [{ arg := "self", annotation := none, pos := p1 }, { arg := "word", annotation := none, pos := p2 }], vararg := none, kwonlyargs := [], kw_defaults := [], kwarg := none, defaults := [] }
def iB (q0 q1 q2 q3 q4 q5 q6 q7 q8 q9 : Pos) : List Stmt :=
  [.Expr (.Call (.Attribute (.Call (.Name "super" q0) [] [] q1) "__init__" q2) [.Name "word" q3] [] q4) q5,
   .Assign [.Attribute (.Name "self" q6) "word" q7] (.Name "word" q8) q9]
def iS : Scope := { kind := .function, names := [(PySem.Str.ofString "self", .local), (PySem.Str.ofString "word", .local), (PySem.Str.ofString "__class__", .free), (PySem.Str.ofString "super", .globalImplicit)], isGenerator := false, isCoroutine := false, more := [] }
/-- what the written part says of FileError, at C, and of its __init__, at fI -/
structure FileTxt (P : Program) (K : Frag) (mg : Str → Option Value) (C fI : Addr) : Prop where
  gC : mg "FileError" = some (.ref C)
  noS : mg "super" = none
  cls : ∃ nm q N bs bm sn sub ab col dd k0 k1 k2 k3 k5, K.lookup C = some (excClassObj nm q C N bs bm true sn sub ab col dd k0 k1 k2 k3 k5 "ValueError.__new__") ∧ refsVE bm = true
  sup : ks_superIn K C C "__init__" = some (some (.builtin "ValueError.__init__"))
  sa : findIn K (.ref C) "__setattr__" = some (some (.builtin "object.__setattr__"))
  noN : findIn K (.ref C) "word" = some none
  iC : findIn K (.ref C) "__init__" = some (some (.ref fI))
  tC : typeIn K (.ref fI) = some (.type "function")
  kC : keepIn K (.ref C) = true
  exC : subIn K (.ref C) (.type "BaseException") = some true
  veC : subIn K (.ref C) (.type "ValueError") = some true
  meC : mroIn K C (.ref C) = some true
  tyC : typeIn K (.ref C) = some (.type "type")
  opq : nsIn K cStatics "thirdparty.any" = some none
  top : (P.main.scope.names.lookup ("super" : Str)).isSome = false
  fn : ∃ (oc : Value) (od : Option Addr) (doc pm : Value) (an : Option Addr) (cda cc : Addr) (ct : Value) (osl : Array (Option Value)) (p1 p2 q0 q1 q2 q3 q4 q5 q6 q7 q8 q9 : Pos) (ccl : Value) (cdd : Option Addr) (vs : Array Value) (ccs : Array (Option Value)) (file : Str) (tf : Tok) (cl : Value) (cld : Option Addr) (csl : Array (Option Value)),
    K.lookup fI = some ⟨oc, od, .func (ksFn "__init__" "FileError.__init__" (iA p1 p2) (iB q0 q1 q2 q3 q4 q5 q6 q7 q8 q9) iS .none .none doc pm an (.ref cda) ct cc), osl⟩ ∧ codeIn K (.ref cda) "FileError.__init__" = true ∧
    K.lookup cda = some ⟨ccl, cdd, .fields vs, ccs⟩ ∧ vs[2]? = some (.str file tf) ∧ (q2.endLine == q4.line) = true ∧ ((P.main.file : Str) == file) = true ∧
    K.lookup cc = some ⟨cl, cld, .cell (some (.ref C)), csl⟩
theorem one_size (v : Value) : [v].length ≤ sizeLine := by
  rw [sizeLine_eq]
  exact (by decide : 1 ≤ 16777216)
theorem kept_but {K : Frag} {h h' : Heap} {x : Addr} (X : K.In h) (hx : K.lookup x = none) (k : ∀ b o, b ≠ x → h.get? b = some o → h'.get? b = some o) : K.In h' := fun a o e =>
  k a o (fun z => by rw [z, hx] at e; cases e) (X a o e)
/-- a method call whose name ends on the line of the call, one argument -/
theorem mc1 {o e : Expr} {name : Str} {apos pos : Pos} {env : Env} (h : (apos.endLine == pos.line) = true) (hs : starEach (e :: []) env = (false, eval e env) :: [] := by rfl) :
    eval (.Call (.Attribute o name apos) [e] [] pos) env = (do
      let ov ← attributeBase o name env (eval o env)
      standAt apos.atName
      let (f, first) ← holding [ov] (getMethod ov name (do return (← importBound o env).getD true))
      callWith pos f first (backTo pos (starEach [e] env)) []) := by
  rw [arm_eval_Call, hs]
  unfold methodCall calleeOf methodCallPos
  have hf : methodCallForm ([e].length + ([] : List Keyword).length) (backTo pos [(false, eval e env)]) (backToKw pos (keywordEach [] env)) = true := rfl
  rw [hf, h]
  simp only [Bool.not_true, Bool.false_or, if_true, pure_bind]
  rfl
theorem ldK {M : Model} {s : Shared} {env : Env} {m : Str → Option Value} {x : Str} {pos : Pos} {v : Value} {Q : Value → Shared → Prop} {A : Around} {E : Value → Shared → Prop} (hn : s.heap.Ns env.locals m) (hv : m x = some v) (h : Q v s)
    (hk : env.scope.kind = .function := by rfl) (hl : env.kindOf x = some .local := by rfl) (hd : (x == ("__debug__" : Str)) = false := by decide) :
    wpAny M A (eval (.Name x pos) env) Q E s := wpAny_Name (wpAny_loadName_local hk hl hn hv h) hd
section
variable {prog : Program} {w : World} {A : Around} {E : Value → Shared → Prop} {h : Heap} {g : Array GenState} {d : Drawn} {t : Nat} {os : OsState}
variable {nm q : Str} {C N : Addr} {bs bm : List Value} {hdct : Bool} {sn : List Str} {sub : List Value} {ab : Bool} {col : Option Bool} {dd : Option Addr} {k0 k1 k2 k3 k5 : Option Value}
/-- the wrapper of ValueError.__init__ called: the args are laid anew -/
theorem call_vw {u e t0 : Addr} {rest : List Value} {Q : Value → Shared → Prop}
    (hC : h.get? C = some (excClassObj nm q C N bs bm hdct sn sub ab col dd k0 k1 k2 k3 k5 "ValueError.__new__")) (he : h.get? e = some (HandSPX.excO C t0)) (hu : h.get? u = some (kxs_mw "ValueError.__init__" e)) (hrest : rest.length ≤ sizeLine)
    (hq : ∀ h' t1, (∀ b o, b ≠ e → h.get? b = some o → h'.get? b = some o) → h'.get? e = some (HandSPX.excO C t1) → h.objs.size ≤ h'.objs.size → Q .none ⟨h', g, d, t, os⟩) :
    wpAny (model prog w) A (call (.ref u) rest) Q E ⟨h, g, d, t, os⟩ := by
  refine wpAny_call (codeAny_of_tree ?_)
  show wpAny _ A.in1 (callAny (.ref u) ⟨rest, []⟩) _ _ _
  simp only [callAny]
  refine wpAny_bind (wpAny_load hu ?_)
  simp only [kxs_mw, show (Value.type "method-wrapper" == Value.type "method" || Value.type "method-wrapper" == Value.type "builtin_function_or_method" || Value.type "method-wrapper" == Value.type "method-wrapper") = true by decide, if_true]
  refine W.KFB.if_so (by decide) ?_
  refine wpAny_bind (ESX.check_bound F.excBase_ValueError hC he rfl ?_)
  refine wpAny_bind (wpAny_pure (wpAny_pure ?_))
  refine ⟨Code.quiet_builtin _ (by decide +kernel), codeAny_builtin F.excBase_ValueError.initEntry ?_⟩
  rw [Around.under_plainId F.excBase_ValueError.init.plain _]
  wp_walk
  refine hq _ h.objs.size (fun b o hb ho => ?_) ?_ ?_
  · rw [Heap.get?_update_other _ _ (Ne.symm hb)]
    exact Heap.get?_push_of_some _ ho
  · rw [Heap.get?_update_self _ (Heap.get?_push_of_some _ he) rfl]
    rfl
  · first
      | (simp only [Heap.size_update, Heap.size_push]; omega)
      | (simp only [Heap.update, Heap.push]; simp)
end
/-- what __init__ leaves of a fresh exception at x -/
structure InitEnd (h h' : Heap) (x C dx t1 : Addr) (v : Value) : Prop where
  keep : ∀ b o, b ≠ x → h.get? b = some o → h'.get? b = some o
  obj : h'.get? x = some { cls := .ref C, dict := some dx, data := .fields #[.ref t1, .none, .none, .none, .bool false, .none] }
  dbig : h.objs.size ≤ dx
  dne : dx ≠ x
  ns : h'.Ns1 dx (fun y => if y = "word" then some v else none)
/-- a made FileError -/
structure OwnMade (h h' : Heap) (e C d : Addr) (v : Value) : Prop where
  keep : ∀ b o, h.get? b = some o → h'.get? b = some o
  new : h.objs.size ≤ e
  obj : ∃ oe vs, h'.get? e = some oe ∧ oe.cls = .ref C ∧ oe.dict = some d ∧ oe.data = .fields vs ∧ vs[1]? = some .none
  dbig : h.objs.size ≤ d
  dne : d ≠ e
  ns : h'.Ns1 d (fun y => if y = "word" then some v else none)
section
variable {prog : Program} {w : World} {A : Around} {E : Value → Shared → Prop} {R : Result → Shared → Prop} {s : Shared} {K : Frag} {mg mb : Str → Option Value} {C fI : Addr}
theorem file_init (T : FileTxt prog K mg C fI) {x t0 : Addr} {v : Value} (X : K.In s.heap) (hg : s.heap.Ns mainGlobals mg) (hb : s.heap.Ns builtinsNs mb) (hsb : mb "super" = some (.type "super")) (hlim : s.heap.NoLimit) (hx : s.heap.get? x = some (excO C t0)) (hnx : K.lookup x = none) (hroom : A.depth < recursionLimit)
    (hq : ∀ h' tk dx t1, InitEnd s.heap h' x C dx t1 v → R (.ok (.ret .none)) { s with heap := h', toks := tk }) :
    codeAny (model prog w) A (.call (.ref fI) ⟨[.ref x, v], []⟩) R s := by
  obtain ⟨oc, od, doc, pm, an, cda, cc, ct, osl, p1, p2, q0, q1, q2, q3, q4, q5, q6, q7, q8, q9, ccl, cdd, vs, ccs, file, tf, cl, cld, csl, ho, hcd, hcda, hvs, hline, hfile, hcell⟩ := T.fn
  obtain ⟨nm, qn, N, bs, bm, sn, sub, ab, col, dd, k0, k1, k2, k3, k5, hC, hbm⟩ := T.cls
  have hcl : clsIn K C = some { name := nm, bases := bs, mro := .ref C :: bm, ns := N, qualname := qn, hasDict := true, slotNames := sn, subclasses := sub, abstract := ab, collection := col, hasDel := false } := by unfold clsIn; rw [hC] <;> rfl
  have hfo := X _ _ ho
  refine ks_codeAny_call_defAt (fd := ksFn "__init__" "FileError.__init__" (iA p1 p2) (iB q0 q1 q2 q3 q4 q5 q6 q7 q8 q9) iS .none .none doc pm an (.ref cda) ct cc) (body := iB q0 q1 q2 q3 q4 q5 q6 q7 q8 q9) (binds := [("self", .ref x), ("word", v)])
    hroom hfo rfl hlim (codeRec_of X hcd) rfl (BindsTo.of_eq (by first | rfl | with_unfolding_all rfl)) (show ∀ z ∈ iS.names, z.2 ≠ .cell by decide) (locs (scope := iS) rfl) (fun h₁ hn k => ?_)
  have hxL : s.heap.objs.size ≠ x := Nat.ne_of_gt (Heap.lt_size hx)
  have X₁ : K.In h₁ := X.keeps k
  have hx₁ := k _ _ hx
  have hsize : s.heap.objs.size < h₁.objs.size := hn.lt
  have I₁ : InstAt h₁ x (excO C t0) C none := ⟨hx₁, rfl, rfl, trivial⟩
  have eE : callEnv (ksFn "__init__" "FileError.__init__" (iA p1 p2) (iB q0 q1 q2 q3 q4 q5 q6 q7 q8 q9) iS .none .none doc pm an (.ref cda) ct cc) s.heap.objs.size fI = ksEnv "FileError.__init__" iS s.heap.objs.size fI (.ref cda) cc := rfl
  rw [eE]
  unfold iB
  refine ks_wpAt_execs_cons ?_
  refine ks_wpAt_Expr_any ?_
  refine ks_wpAt_MethodCall ?_ (mc1 hline)
  refine ks_wpAt_super_base (env := ksEnv "FileError.__init__" iS s.heap.objs.size fI (.ref cda) cc) (f := fI) (cc := cda) (ar := { arg := "self", annotation := none, pos := p1 }) (by rfl) (by rfl) (by decide) rfl (X₁ _ _ ho) rfl rfl rfl (X₁ _ _ hcda) rfl hvs hfile T.top ?_
  refine ks_loadName_global (by rfl) (by rfl) (loadGlobal_builtin (env := ksEnv "FileError.__init__" iS s.heap.objs.size fI (.ref cda) cc) (hg.keeps k) T.noS (hb.keeps k) hsb ⟨rfl, ?_⟩)
  refine wpAny_loadName_free (v := .ref C) (by rfl) (by rfl) rfl ⟨_, X₁ _ _ hcell, rfl⟩ ?_
  refine wpAny_loadName_local (v := .ref x) (by rfl) (by rfl) hn (by rfl) ?_
  refine ks_wpAny_isType_cls (X₁ _ _ hC) rfl ⟨rfl, ?_⟩
  refine ks_wpAny_call_super (C := C) (X₁ _ _ hC) rfl hx₁ rfl (fun c e => by cases e) (looks_mroIn X₁ T.meC) (fun h2 hso k2 => ?_)
  have k12 : ∀ b o, s.heap.get? b = some o → h2.get? b = some o := fun b o e => k2 _ _ (k _ _ e)
  have X₂ : K.In h2 := X₁.keeps k2
  have hx₂ := k2 _ _ hx₁
  have I₂ : InstAt h2 x (excO C t0) C none := ⟨hx₂, rfl, rfl, trivial⟩
  have hsup := T.sup
  unfold ks_superIn at hsup
  rw [hcl] at hsup
  refine kxs_getMethod (D := C) (x := x) (C := C) (l₀ := .ref C :: bm) kxs_ValueError hso (looks_opaque X₂ T.opq) ?_ rfl X₂ hsup (I₂.type.andThen (looks_subIn X₂ T.veC)) (ks_ne X₂ I₂ hcl) (by decide) ?_
  · exact fun A Q E s k q => wpAny_bind ((looks_clsIn X₂ hcl) A _ E s k (wpAny_pure q))
  have up3 : ∀ b o, h2.get? b = some o → (h2.push (kxs_mw "ValueError.__init__" x)).get? b = some o := fun b o e => Heap.get?_push_of_some _ e
  have hu : (h2.push (kxs_mw "ValueError.__init__" x)).get? h2.objs.size = some (kxs_mw "ValueError.__init__" x) := Heap.get?_push_at rfl rfl
  have hn3 : (h2.push (kxs_mw "ValueError.__init__" x)).Ns s.heap.objs.size (fun y => List.lookup y ([(("self" : Str), Value.ref x), (("word" : Str), v)].reverse)) := (hn.keeps k2).keeps up3
  have hx3 := up3 _ _ hx₂
  have hC3 := up3 _ _ (X₂ _ _ hC)
  refine kxs_callWith (i := "ValueError.__init__") (x := x) (by rfl) (evalArgs_plain ?_)
  refine spliced_more (ldK (v := v) hn3 (by rfl) (spliced_none ?_) (by rfl) (by rfl))
  refine ⟨hu, call_vw hC3 hx3 hu (one_size v) (fun h4 t1 k4 hx4 sz4 => ?_)⟩
  have xne : s.heap.objs.size ≠ x := hxL
  have hn4 : h4.Ns s.heap.objs.size (fun y => List.lookup y ([(("self" : Str), Value.ref x), (("word" : Str), v)].reverse)) := by
    obtain ⟨oL, es, ep, hL, r⟩ := hn3
    exact ⟨oL, es, ep, k4 _ _ hxL hL, r⟩
  have k34 : ∀ b o, b ≠ x → s.heap.get? b = some o → h4.get? b = some o := fun b o hb e => k4 b o hb (up3 _ _ (k12 _ _ e))
  have X₄ : K.In h4 := kept_but X hnx k34
  refine ks_wpAt_execs_cons (wpAt_of_wpAny (plainObj_wpAny_Assign_Attribute ?_))
  refine ldK (v := v) hn4 (by rfl) ?_ (by rfl) (by rfl)
  refine ldK (v := .ref x) hn4 (by rfl) ?_ (by rfl) (by rfl)
  refine set_plain X₄ (ox := excO C t1) (od := none) ⟨hx4, rfl, rfl, trivial⟩ T.sa ?_
  refine exc_osa X₄ hx4 hcl (show refsVE (.ref C :: bm) = true from hbm) rfl T.noN (fun h₅ tk₅ dx k₅ dn dne hx₅ hn₅ => ?_)
  refine wpAt_of_wpAny (wpAny_execs_nil (hq h₅ tk₅ dx t1 ⟨fun b o hb e => k₅ b o hb (k34 b o hb e), hx₅, ?_, dne, hn₅⟩))
  have hL4 := hn4.lt
  have : s.heap.objs.size < h4.objs.size := hL4
  exact Nat.le_of_lt (Nat.lt_of_lt_of_le this dn)
theorem file_made (T : FileTxt prog K mg C fI) {v : Value} (X : K.In s.heap) (hg : s.heap.Ns mainGlobals mg) (hb : s.heap.Ns builtinsNs mb) (hsb : mb "super" = some (.type "super")) (hlim : s.heap.NoLimit) (hroom : A.depth + 1 < recursionLimit)
    (hq : ∀ h' tk e d, OwnMade s.heap h' e C d v → R (.ok (.ret (.ref e))) { s with heap := h', toks := tk }) :
    codeAny (model prog w) A (.call (.ref C) ⟨[v], []⟩) R s := by
  obtain ⟨nm, q, N, bs, bm, sn, sub, ab, col, dd, k0, k1, k2, k3, k5, hC, hbm⟩ := T.cls
  obtain ⟨hp, g, dr, tk, os⟩ := s
  have k : ∀ b o, hp.get? b = some o → ((hp.push (kdv_tup [v])).push (excO C hp.objs.size)).get? b = some o := fun b o e => Heap.get?_push_of_some _ (Heap.get?_push_of_some _ e)
  have hget : ((hp.push (kdv_tup [v])).push (excO C hp.objs.size)).get? (hp.objs.size + 1) = some (excO C hp.objs.size) := by heap_get
  have hnx : K.lookup (hp.objs.size + 1) = none := by
    cases e : K.lookup (hp.objs.size + 1) with
    | none => rfl
    | some o =>
      have z : hp.get? (hp.objs.size + 1) = some o := X _ _ e
      exact absurd (Nat.lt_of_succ_lt (Heap.lt_size z)) (Nat.lt_irrefl _)
  refine call_own F.excBase_ValueError (fun X => refsVE_contains X bm hbm) (X _ _ hC) (looks_findIn X T.iC) (fun self => bind_fn X self T.tC) (one_size v) ?_
  refine file_init (s := ⟨(hp.push (kdv_tup [v])).push (excO C hp.objs.size), g, dr, tk, os⟩) T (X.keeps k) (hg.keeps k) (hb.keeps k) hsb (hlim.keeps k) hget hnx ?_ fun h' tk' dx t1 ⟨k', hx, dn, dne, hns⟩ => ?_
  · show A.depth + 1 < recursionLimit
    exact hroom
  · have old : ∀ b o, hp.get? b = some o → h'.get? b = some o := fun b o e => k' b o (Nat.ne_of_lt (Nat.lt_succ_of_lt (Heap.lt_size e))) (k b o e)
    have z : hp.objs.size + 1 + 1 ≤ dx := by
      first
        | (simpa only [Heap.size_push] using dn)
        | exact dn
        | (have q := dn; rw [Heap.size_push, Heap.size_push] at q; exact q)
    exact ⟨rfl, hq h' tk' (hp.objs.size + 1) dx ⟨old, Nat.le_succ _, ⟨_, _, hx, rfl, rfl, rfl, rfl⟩, Nat.le_trans (Nat.le_trans (Nat.le_succ _) (Nat.le_succ _)) z, dne, hns⟩⟩
end
end GF
set_option Elab.async false
set_option linter.all false
set_option maxRecDepth 100000
set_option maxHeartbeats 2000000
namespace GX
open PySem PySem.Spec PyProof.Rows L2
theorem relO_word {v : V} {v' : Value} (r : RelV v v') (f : Str) : RelO (List.lookup f [(("word" : Str), v)]) (if f = "word" then some v' else none) := by
  by_cases hw : f = "word"
  · subst hw
    rw [if_pos rfl]
    have q : List.lookup ("word" : Str) [(("word" : Str), v)] = some v := by simp [List.lookup]
    rw [q]
    exact r
  · rw [if_neg hw]
    have qw : (f == ("word" : Str)) = false := by simpa using hw
    have q2 : List.lookup f [(("word" : Str), v)] = none := by simp [List.lookup, qw]
    rw [q2]
    trivial
section
variable {X : Cx} {C fI : Addr}
/-- FileError(e) -/
def tMkFile (C : Addr) (ta : TA) : L2.St → Hp → XK → Prop := fun σ H Q => ta σ H fun vs H1 => ∃ v, vs = [v] ∧ ∀ d, H1 d = none → Q (.ref C) (some d) (upd H1 d (.xd [(("word" : Str), v)]))
theorem pmk_file {a : Expr} {ta : TA} {p pos : Pos} {k : Nat} (T : GF.FileTxt X.prog X.K X.mg C fI) (hr : Room k X.A) (ha : PA X [a] ta) (hg : Gl X "FileError" := by rfl)
    (he : starEach (a :: []) X.env = (false, eval a X.env) :: starEach [] X.env := by rfl) (hpl : (backTo pos (starEach [] X.env)).any (·.1) = false := by rfl) :
    PMk X (.Call (.Name "FileError" p) [a] [] pos) (tMkFile C ta) := by
  intro pins s σ H Q I h
  refine wpAny_Call_Name_kw (ld_glob I hg T.gC ?_)
  refine PySem.W.callWith_K (h₀ := X.base) I.ok.mod.kin T.kC (thn (ha.run pos pins s σ H _ I h) fun us s1 hh => ?_) he hpl
  obtain ⟨vs, H1, I1, r1, v, ev, q1⟩ := hh
  subst ev
  refine ⟨I1.kIn, ?_⟩
  cases r1 with
  | cons rv rn =>
    rename_i v' us'
    cases rn
    show wpAny _ _ (call (.ref C) [v']) _ _ _
    have hlim := I1.nolimit
    obtain ⟨mb, hb1, hb2⟩ := I1.mod.blt
    have hgl := I1.mod.glob.keeps I1.bk
    have hbl := hb1.keeps I1.bk
    have hsb : mb "super" = some (.type "super") := (hb2 "super" (by decide)).trans (by first | rfl | decide +kernel)
    obtain ⟨hp, g, dr, tk, os⟩ := s1
    refine wpAny_call (GF.file_made T I1.kIn hgl hbl hsb hlim (by have := hr.dp; omega) fun h' tk' e d M => ?_)
    show MkP X pins σ Q (.ref e) ⟨h', g, dr, tk', os⟩
    obtain ⟨oe, fv, hoe, hc, hd, hdat, h1⟩ := M.obj
    have hns := M.ns
    obtain ⟨G', g1, g2⟩ := restrict h' fun b => decide (b ≠ e)
    have gk : ∀ b, b ≠ e → G'.get? b = h'.get? b := fun b hb => g1 b (decide_eq_true hb)
    have ge : G'.get? e = none := g2 e (by simp)
    have old : ∀ b o, hp.get? b = some o → G'.get? b = some o := fun b o q => (gk b (Nat.ne_of_lt (Nat.lt_of_lt_of_le (Heap.lt_size q) M.new))).trans (M.keep b o q)
    have ob : ObjOk X.prog X.w (upd H1 d (.xd [(("word" : Str), v)])) G' d (.xd [(("word" : Str), v)]) :=
      ⟨_, hns.at (fun o q => (gk d M.dne).trans q), fun f => relO_word rv f⟩
    have J : Inv X pins σ (upd H1 d (.xd [(("word" : Str), v)])) ⟨G', g, dr, tk', os⟩ := I1.laid (t' := tk') old M.dbig ob
    refine ⟨e, oe, fv, ⟨G', g, dr, tk', os⟩, _, .ref C, some d, rfl, J, fun b o q => ?_, ge, hoe, ⟨hc, hd⟩, hdat, h1, ?_, rfl, I1.bare, raises_own T.exC T.tyC, q1 d (I1.hok.fresh M.dbig)⟩
    · by_cases hb : b = e
      · have q' : G'.get? b = some o := q
        rw [hb, ge] at q'; cases q'
      · exact (gk b hb).symm.trans q
    · rw [upd_ne (Ne.symm M.dne)]
      exact I1.hok.fresh M.new
/-- raise FileError(e) -/
def tRaiseFile (C : Addr) (W : WX) (ta : TA) : TS := fun _ σ H => tMkFile C ta σ H fun cls d H' => W cls d σ H'
theorem ps_raiseFile {a : Expr} {ta : TA} {W : WX} {p pos pos2 : Pos} {k : Nat} (hc : X.calm = true) (T : GF.FileTxt X.prog X.K X.mg C fI) (hr : Room k X.A) (tk : Takes X W) (ha : PA X [a] ta) (hg : Gl X "FileError" := by rfl)
    (he : starEach (a :: []) X.env = (false, eval a X.env) :: starEach [] X.env := by rfl) (hpl : (backTo pos (starEach [] X.env)).any (·.1) = false := by rfl) :
    PS X (.Raise (some (.Call (.Name "FileError" p) [a] [] pos)) none pos2) (tRaiseFile C W ta) := ps_raise hc tk (pmk_file T hr ha hg he hpl)
end
end GX
set_option Elab.async false
set_option linter.all false
set_option maxRecDepth 100000
set_option maxHeartbeats 2000000
/-! defs as they stand behind the top, called by their promises; operators of any kind -/
namespace GX
open PySem PySem.Spec PyProof.Rows L2
/-! ### a def -/
structure Def (K : PySem.W.Frag) (mg : Str → Option Value) (x : Str) (st : Stmt) (f : Addr) (fd : FuncData) (c : Addr) : Prop where
  ex : ∃ (oc : Value) (od : Option Addr) (kV doc pm : Value) (an : Option Addr) (ct : Value) (osl : Array (Option Value)),
    fd = PySem.W.fnOf x x (defArgs st) (defBody st) (defScope st) .none kV doc pm an (.ref c) ct ∧ K.lookup f = some ⟨oc, od, .func fd, osl⟩ ∧ PySem.W.codeIn K (.ref c) x = true
  kp : PySem.W.keepIn K (.ref f) = true
  gm : mg x = some (.ref f)
theorem def_mk {K : PySem.W.Frag} {mg : Str → Option Value} {x : Str} {st : Stmt} {f c : Addr} {oc : Value} {od an : Option Addr} {osl : Array (Option Value)} {kV doc pm ct : Value}
    (l : K.lookup f = some ⟨oc, od, .func (PySem.W.fnOf x x (defArgs st) (defBody st) (defScope st) .none kV doc pm an (.ref c) ct), osl⟩) (hc : PySem.W.codeIn K (.ref c) x = true) (k : PySem.W.keepIn K (.ref f) = true) (g : mg x = some (.ref f)) :
    Def K mg x st f (PySem.W.fnOf x x (defArgs st) (defBody st) (defScope st) .none kV doc pm an (.ref c) ct) c := ⟨⟨oc, od, kV, doc, pm, an, ct, osl, rfl, l, hc⟩, k, g⟩
/-- a promise that is kept: called by the name x -/
structure Cal (P : Program) (w : World) (K : PySem.W.Frag) (mg : Str → Option Value) (base : Heap) (k : Nat) (x : Str) (sp : Sp) : Prop where
  ex : ∃ (f : Addr) (fd : FuncData) (ps : List Str), FnOk P w K mg base (L2.CX P w) k f fd ps sp ∧ mg x = some (.ref f) ∧ PySem.W.keepIn K (.ref f) = true ∧ Binds K fd ps []
section
variable {P : Program} {w : World} {K : PySem.W.Frag} {mg : Str → Option Value} {base : Heap}
theorem Cal.imp {k : Nat} {x : Str} {sp sp' : Sp} (c : Cal P w K mg base k x sp) (h : ∀ vs H Q E, sp' vs H Q E → sp vs H Q E) : Cal P w K mg base k x sp' := by
  obtain ⟨f, fd, ps, F, r⟩ := c.ex
  exact ⟨f, fd, ps, F.imp h, r⟩
/-- THE RULE for a def -/
theorem Def.okF {x : Str} {st : Stmt} {f c : Addr} {fd : FuncData} {N ps : List Str} {k : Nat} {sp : Sp} (D : Def K mg x st f fd c) (S : FnScope N ps (defScope st)) (len : ∀ vs H Q E, sp vs H Q E → vs.length = ps.length)
    (bd : ∀ (kV doc pm : Value) (an : Option Addr) (cdv ct : Value) (us : List Value), us.length = ps.length → bindArgs (PySem.W.fnOf x x (defArgs st) (defBody st) (defScope st) .none kV doc pm an cdv ct) ⟨us, []⟩ = pure (ps.zip us))
    (hbody : ∀ (A : Around) (outer : List Env) (s : Shared) (H : Hp) (vs : List V) (Q : VK) (E : XK), Room k (A.deeper (envOfC x (defScope st) s.heap.objs.size f (.ref c))) → sp vs H Q E →
      ∃ t, PSs (cxOf (L2.CX P w) P w K mg base N x (defScope st) f (.ref c) A outer s H E) (defBody st) t ∧ t { nx := fun _ H' => Q .non H', rt := Q } (start N vs) H) :
    FnOk P w K mg base (L2.CX P w) (k + 1) f fd ps sp ∧ (∀ us : List Value, us.length = ps.length → bindArgs fd ⟨us, []⟩ = pure (ps.zip us)) := by
  obtain ⟨⟨oc, od, kV, doc, pm, an, ct, osl, rfl, lk, hcd⟩, kp, gm⟩ := D
  exact ⟨fn_of lk hcd S len fun A outer s H vs Q E hr hsp => hbody A outer s H vs Q E hr hsp, bd kV doc pm an (.ref c) ct⟩
theorem Def.ok {x : Str} {st : Stmt} {f c : Addr} {fd : FuncData} {N ps : List Str} {k : Nat} {sp : Sp} (D : Def K mg x st f fd c) (S : FnScope N ps (defScope st)) (len : ∀ vs H Q E, sp vs H Q E → vs.length = ps.length)
    (bd : ∀ (kV doc pm : Value) (an : Option Addr) (cdv ct : Value) (us : List Value), us.length = ps.length → bindArgs (PySem.W.fnOf x x (defArgs st) (defBody st) (defScope st) .none kV doc pm an cdv ct) ⟨us, []⟩ = pure (ps.zip us))
    (hbody : ∀ (A : Around) (outer : List Env) (s : Shared) (H : Hp) (vs : List V) (Q : VK) (E : XK), Room k (A.deeper (envOfC x (defScope st) s.heap.objs.size f (.ref c))) → sp vs H Q E →
      ∃ t, PSs (cxOf (L2.CX P w) P w K mg base N x (defScope st) f (.ref c) A outer s H E) (defBody st) t ∧ t { nx := fun _ H' => Q .non H', rt := Q } (start N vs) H) : Cal P w K mg base (k + 1) x sp := by
  obtain ⟨F, b⟩ := Def.okF D S len bd hbody
  exact ⟨f, fd, ps, F, D.gm, D.kp, .all b⟩
end
section
variable {X : Cx} {k : Nat} {sp : Sp} {W : WX} {x : Str} {p pos : Pos} {e : Expr} {es : List Expr} {t : TA}
theorem pe_call (c : Cal X.prog X.w X.K X.mg X.base k x sp) (hr : Room k X.A) (tk : Takes X W) (ha : PA X (e :: es) t) (hg : Gl X x := by rfl) (hdb : (x == ("__debug__" : Str)) = false := by decide)
    (he : starEach (e :: es) X.env = (false, eval e X.env) :: starEach es X.env := by rfl) (hpl : (backTo pos (starEach es X.env)).any (·.1) = false := by rfl) : PE X (.Call (.Name x p) (e :: es) [] pos) (tCallS sp (WE W) t) := by
  obtain ⟨f, fd, ps, F, gm, kp, bd⟩ := c.ex
  exact pe_callS F hr hg gm kp bd (fun σ => passAt tk σ) ha hdb he hpl
theorem pe_call0 (c : Cal X.prog X.w X.K X.mg X.base k x sp) (hr : Room k X.A) (tk : Takes X W) (hg : Gl X x := by rfl) (hdb : (x == ("__debug__" : Str)) = false := by decide) : PE X (.Call (.Name x p) [] [] pos) (tCallS sp (WE W) tNil) := by
  obtain ⟨f, fd, ps, F, gm, kp, bd⟩ := c.ex
  refine ⟨fun pins s σ H Q I h => ?_⟩
  refine wpAny_Call_Name_kw (ld_glob I hg gm ?_ hdb)
  exact PySem.W.callWith_K0 I.kIn kp (run_fnS (us := []) F hr bd (passAt tk σ) I .nil h)
end
/-! ### operators of any kind -/
def rAddU (K : PySem.W.Frag) : R2 := fun x y H Q => match x, y with
  | .int i, .int j => Q (.int (i + j)) H
  | .str a, .str b => a.length + b.length ≤ sizeLine ∧ Q (.str (a ++ b)) H
  | .ref _, .ref _ => rCatT K x y H Q ∨ rCat x y H Q
  | _, _ => False
def rSubU : R2 := fun x y H Q => match x, y with
  | .int i, .int j => Q (.int (i - j)) H
  | _, _ => False
def rMulU : R2 := fun x y H Q => match x, y with
  | .int i, .int j => CMul i j ∧ Q (.int (i * j)) H
  | .ref _, .int _ => rRep x y H Q
  | _, _ => False
def rFdvU : R2 := fun x y H Q => match x, y with
  | .int i, .int j => CDiv i j ∧ Q (.int (i / j)) H
  | _, _ => False
def rModU : R2 := fun x y H Q => match x, y with
  | .int i, .int j => 0 < j ∧ Q (.int (i % j)) H
  | _, _ => False
def rPowU : R2 := fun x y H Q => match x, y with
  | .int i, .int j => CPow i j ∧ Q (.int (i ^ j.toNat)) H
  | _, _ => False
def rLtU : R2 := fun x y H Q => match x, y with
  | .int i, .int j => Q (.bl (decide (i < j))) H
  | _, _ => False
def rLeU : R2 := fun x y H Q => match x, y with
  | .int i, .int j => Q (.bl (decide (i ≤ j))) H
  | _, _ => False
def rGtU : R2 := fun x y H Q => match x, y with
  | .int i, .int j => Q (.bl (decide (j < i))) H
  | _, _ => False
def rGeU : R2 := fun x y H Q => match x, y with
  | .int i, .int j => Q (.bl (decide (j ≤ i))) H
  | _, _ => False
def rEqU (K : PySem.W.Frag) : R2 := fun x y H Q => match x, y with
  | .int i, .int j => Q (.bl (decide (i = j))) H
  | .str a, .str b => Q (.bl (decide (a = b))) H
  | .bl a, .bl b => Q (.bl (decide (a = b))) H
  | .ref _, .ref _ => rEqD K x y H Q
  | _, _ => rEq x y H Q
def rNeU (K : PySem.W.Frag) : R2 := fun x y H Q => match x, y with
  | .int i, .int j => Q (.bl (!decide (i = j))) H
  | .str a, .str b => Q (.bl (!decide (a = b))) H
  | .bl a, .bl b => Q (.bl (!decide (a = b))) H
  | .ref _, .ref _ => rNeD K x y H Q
  | _, _ => rNe x y H Q
theorem OpR.imp {X : Cx} {f : Value → Value → Sem Value} {r r' : R2} (h : OpR X f r) (hi : ∀ x y H Q, r' x y H Q → r x y H Q) : OpR X f r' :=
  fun pins s σ H x y v u Q I rx ry q => h pins s σ H x y v u Q I rx ry (hi _ _ _ _ q)
section
variable {X : Cx}
theorem opU_add : OpR X (binaryOp .Add) (rAddU X.K) := OpR.imp (OpR.or op_add (OpR.or op_add_str (OpR.or op_catT op_cat))) (by
  intro x y H Q h
  unfold rAddU at h
  split at h
  · exact .inl ⟨_, _, rfl, rfl, h⟩
  · exact .inr (.inl ⟨_, _, rfl, rfl, h⟩)
  · exact .inr (.inr h)
  · exact h.elim)
theorem opU_sub : OpR X (binaryOp .Sub) rSubU := OpR.imp op_sub (by
  intro x y H Q h
  unfold rSubU at h
  split at h
  · exact ⟨_, _, rfl, rfl, h⟩
  · exact h.elim)
theorem opU_mul : OpR X (binaryOp .Mult) rMulU := OpR.imp (OpR.or op_mul op_rep) (by
  intro x y H Q h
  unfold rMulU at h
  split at h
  · exact .inl ⟨_, _, rfl, rfl, h⟩
  · exact .inr h
  · exact h.elim)
theorem opU_fdv : OpR X (binaryOp .FloorDiv) rFdvU := OpR.imp op_fdiv (by
  intro x y H Q h
  unfold rFdvU at h
  split at h
  · exact ⟨_, _, rfl, rfl, h⟩
  · exact h.elim)
theorem opU_mod : OpR X (binaryOp .Mod) rModU := OpR.imp op_mod (by
  intro x y H Q h
  unfold rModU at h
  split at h
  · exact ⟨_, _, rfl, rfl, h⟩
  · exact h.elim)
theorem opU_pow : OpR X (binaryOp .Pow) rPowU := OpR.imp op_pow (by
  intro x y H Q h
  unfold rPowU at h
  split at h
  · exact ⟨_, _, rfl, rfl, h⟩
  · exact h.elim)
theorem opU_lt : OpR X (compareOp .Lt) rLtU := OpR.imp op_lt (by
  intro x y H Q h
  unfold rLtU at h
  split at h
  · exact ⟨_, _, rfl, rfl, h⟩
  · exact h.elim)
theorem opU_le : OpR X (compareOp .LtE) rLeU := OpR.imp op_le (by
  intro x y H Q h
  unfold rLeU at h
  split at h
  · exact ⟨_, _, rfl, rfl, h⟩
  · exact h.elim)
theorem opU_gt : OpR X (compareOp .Gt) rGtU := OpR.imp op_gt (by
  intro x y H Q h
  unfold rGtU at h
  split at h
  · exact ⟨_, _, rfl, rfl, h⟩
  · exact h.elim)
theorem opU_ge : OpR X (compareOp .GtE) rGeU := OpR.imp op_ge (by
  intro x y H Q h
  unfold rGeU at h
  split at h
  · exact ⟨_, _, rfl, rfl, h⟩
  · exact h.elim)
theorem opU_eq (hu : X.A.units + 64 < cLine) : OpR X (compareOp .Eq) (rEqU X.K) := OpR.imp (OpR.or op_eq (op_eqD hu)) (by
  intro x y H Q h
  unfold rEqU at h
  split at h
  · exact .inl ⟨rfl, by rename_i i j; rw [show decide (V.int i = V.int j) = decide (i = j) by simp]; exact h⟩
  · exact .inl ⟨rfl, by rename_i i j; rw [show decide (V.str i = V.str j) = decide (i = j) by simp]; exact h⟩
  · exact .inl ⟨rfl, by rename_i i j; rw [show decide (V.bl i = V.bl j) = decide (i = j) by simp]; exact h⟩
  · exact .inr h
  · exact .inl h)
theorem opU_ne (hu : X.A.units + 64 < cLine) : OpR X (compareOp .NotEq) (rNeU X.K) := OpR.imp (OpR.or op_ne (op_neD hu)) (by
  intro x y H Q h
  unfold rNeU at h
  split at h
  · exact .inl ⟨rfl, by rename_i i j; rw [show decide (V.int i = V.int j) = decide (i = j) by simp]; exact h⟩
  · exact .inl ⟨rfl, by rename_i i j; rw [show decide (V.str i = V.str j) = decide (i = j) by simp]; exact h⟩
  · exact .inl ⟨rfl, by rename_i i j; rw [show decide (V.bl i = V.bl j) = decide (i = j) by simp]; exact h⟩
  · exact .inr h
  · exact .inl h)
/-- text.index(part), the part there -/
def rSIndex : V → List V → Hp → VK → Prop := fun x xs H Q => ∃ a b i rest, x = .str a ∧ xs = [.str b] ∧ Builtin.Str.occurrences a b 0 a.length 1 = i :: rest ∧ Q (.int (i : Nat)) H
theorem mt_sindex : MtR X "str.index" rSIndex := by
  intro pins s σ H x xs v us Q I rx rs h
  obtain ⟨a, b, i, rest, rfl, rfl, ho, h⟩ := h
  obtain ⟨t, rfl⟩ := rx
  cases rs with
  | cons r1 rs =>
    cases rs
    obtain ⟨u, rfl⟩ := r1
    exact PySem.SC.index ho ⟨.int i, H, I.tok _, ⟨_, rfl⟩, h⟩
end
end GX
set_option Elab.async false
set_option linter.all false
set_option maxRecDepth 100000
set_option maxHeartbeats 2000000
/-! what stays; the turns of a generator over a text, a list, a tuple, a range -/
namespace GX
open PySem PySem.Spec PyProof.Rows L2
/-- all but A and the tables stays; tables stay tables -/
structure Ex (A : List Addr) (TL : List (Addr × Str)) (GT : List Addr) (H H' : Hp) : Prop where
  ext : ∀ b o, b ∉ A → H b = some o → (∀ ps, o ≠ .tbl ps) → H' b = some o
  tl : LamX.Tabs TL H → LamX.Tabs TL H'
  tg : (∀ P ∈ GT, H P = some (TblE P)) → ∀ P ∈ GT, H' P = some (TblE P)
  tup : ∀ b xs, Rd H b (.tup xs) → Rd H' b (.tup xs)
/-- nothing stands there but, it may be, a table -/
def free (H : Hp) (a : Addr) : Prop := ∀ o, H a = some o → ∃ ps, o = .tbl ps
theorem free_none {H : Hp} {a : Addr} (h : H a = none) : free H a := fun o e => by rw [h] at e; cases e
/-- what may change -/
def isMut : HO → Bool
  | .lst _ => true | .dK _ => true | .dT _ => true | .ins _ _ _ => true | _ => false
/-- the tables stand -/
structure Tb (TL : List (Addr × Str)) (GT : List Addr) (H : Hp) : Prop where
  tl : LamX.Tabs TL H
  tg : ∀ P ∈ GT, H P = some (TblE P)
section
variable {A B : List Addr} {TL : List (Addr × Str)} {GT : List Addr} {H H1 H2 : Hp}
theorem Ex.refl : Ex A TL GT H H := ⟨fun _ _ _ h _ => h, fun h => h, fun h => h, fun _ _ h => h⟩
theorem Ex.trans (a : Ex A TL GT H H1) (b : Ex A TL GT H1 H2) : Ex A TL GT H H2 :=
  ⟨fun c o n h t => b.ext c o n (a.ext c o n h t) t, fun h => b.tl (a.tl h), fun h => b.tg (a.tg h), fun c xs h => b.tup c xs (a.tup c xs h)⟩
theorem Ex.mono (a : Ex A TL GT H H1) (h : ∀ x ∈ A, x ∈ B) : Ex B TL GT H H1 := ⟨fun c o n e t => a.ext c o (fun q => n (h _ q)) e t, a.tl, a.tg, a.tup⟩
theorem Ex.any (a : Ex [] TL GT H H1) : Ex A TL GT H H1 := a.mono (by simp)
theorem Ex.tb (a : Ex A TL GT H H1) (t : Tb TL GT H) : Tb TL GT H1 := ⟨a.tl t.tl, a.tg t.tg⟩
theorem tabs_upd_new {p : Addr} {o : HO} (hp : H p = none) : LamX.Tabs TL H → LamX.Tabs TL (upd H p o) := fun h q hq => by
  obtain ⟨ps, e, ok, hc⟩ := h q hq
  refine ⟨ps, by rw [upd_ne (ne_of_none e hp)]; exact e, ok, fun pos cv hcv => ?_⟩
  obtain ⟨c, rfl, hc⟩ := hc pos cv hcv
  exact ⟨c, rfl, by rw [upd_ne (ne_of_none hc hp)]; exact hc⟩
/-- a new object -/
theorem Ex.new {p : Addr} {o : HO} (hp : H p = none) : Ex A TL GT H (upd H p o) :=
  ⟨fun b o' _ e _ => by rw [upd_ne (ne_of_none e hp)]; exact e, tabs_upd_new hp, fun h P hP => by
    rw [upd_ne (ne_of_none (h P hP) hp)]
    exact h P hP, fun b xs h => by
    rcases h with h | ⟨ob, h⟩
    · exact .inl (by rw [upd_ne (ne_of_none h hp)]; exact h)
    · exact .inr ⟨ob, by rw [upd_ne (ne_of_none h hp)]; exact h⟩⟩
/-- an object changed that is no table and no code -/
theorem Ex.chg {a : Addr} {o o' : HO} (x : Ex A TL GT H H1) (e : H1 a = some o) (hm : isMut o = true) (ha : a ∈ A ∨ free H a) : Ex A TL GT H (upd H1 a o') := by
  have h1 : ∀ ps, o ≠ .tbl ps := fun ps z => by rw [z] at hm; cases hm
  have h2 : ∀ φ, o ≠ .ext φ := fun ps z => by rw [z] at hm; cases hm
  have h3 : ∀ xs, o ≠ .tup xs := fun ps z => by rw [z] at hm; cases hm
  have h4 : ∀ ob u, o ≠ .frz ob u := fun ob u z => by rw [z] at hm; cases hm
  refine ⟨fun b ob nb eb ne => ?_, fun h q hq => ?_, fun h P hP => ?_, fun b xs h => ?_⟩
  · have nz : b ≠ a := fun z => by
      rcases ha with ha | ha
      · exact nb (by rw [z]; exact ha)
      · rw [z] at eb
        obtain ⟨ps, q⟩ := ha _ eb
        exact ne ps q
    rw [upd_ne nz]; exact x.ext b ob nb eb ne
  · obtain ⟨ps, eq, ok, hc⟩ := x.tl h q hq
    have n1 : q.1 ≠ a := fun z => by rw [z, e] at eq; exact h1 ps (Option.some.inj eq)
    refine ⟨ps, by rw [upd_ne n1]; exact eq, ok, fun pos cv hcv => ?_⟩
    obtain ⟨c, rfl, hc⟩ := hc pos cv hcv
    have n2 : c ≠ a := fun z => by rw [z, e] at hc; exact h2 _ (Option.some.inj hc)
    exact ⟨c, rfl, by rw [upd_ne n2]; exact hc⟩
  · have eq := x.tg h P hP
    have n1 : P ≠ a := fun z => by rw [z, e] at eq; exact h2 _ (Option.some.inj eq)
    rw [upd_ne n1]
    exact eq
  · rcases x.tup b xs h with h | ⟨ob, h⟩
    · have n1 : b ≠ a := fun z => by rw [z, e] at h; exact h3 _ (Option.some.inj h)
      exact .inl (by rw [upd_ne n1]; exact h)
    · have n1 : b ≠ a := fun z => by rw [z, e] at h; exact h4 _ _ (Option.some.inj h)
      exact .inr ⟨ob, by rw [upd_ne n1]; exact h⟩
theorem Ex.put {a : Addr} {o o' : HO} (ha : a ∈ A) (e : H a = some o) (hm : isMut o = true) : Ex A TL GT H (upd H a o') := Ex.refl.chg e hm (.inl ha)
theorem Ex.fresh {p : Addr} (x : Ex A TL GT H H1) (h : free H1 p) : p ∈ A ∨ free H p := by
  by_cases hp : p ∈ A
  · exact .inl hp
  · refine .inr fun o e => ?_
    by_cases ht : ∃ ps, o = .tbl ps
    · exact ht
    · exact h o (x.ext p o hp e (fun ps z => ht ⟨ps, z⟩))
/-- a new object behind -/
theorem Ex.add {p : Addr} {o : HO} (x : Ex A TL GT H H1) (hp : H1 p = none) : Ex A TL GT H (upd H1 p o) := x.trans (Ex.new hp)
theorem Ex.tupA (a : Ex A TL GT H H1) {p : Addr} {xs : List V} (hp : p ∉ A) (e : H p = some (.tup xs)) : H1 p = some (.tup xs) := a.ext p _ hp e (fun _ q => by cases q)
theorem Ex.lst (a : Ex A TL GT H H1) {p : Addr} {xs : List V} (hp : p ∉ A) (e : H p = some (.lst xs)) : H1 p = some (.lst xs) := a.ext p _ hp e (fun _ q => by cases q)
end
section
variable {g : TG} {tt : TT} {te : TE} {vs : List Nat} {Yx : List V → V → Hp → Prop} {σ : L2.St} {H0 : Hp} {cont : List V → Hp → Prop}
theorem turns_str {z : Str} (Pv : Nat → List V → Hp → Prop) (h0 : Pv 0 [] H0)
    (hs : ∀ i c ys H, z.cps[i]? = some c → Pv i ys H → g (.str ⟨#[c]⟩) (wipe σ vs) H fun σ2 H2 => wipe σ2 vs = wipe σ vs ∧ tt σ2 H2 fun b H3 => if b = true then te σ2 H3 fun y H4 => ys.length < sizeLine ∧ Yx ys y H4 ∧ Pv (i + 1) (ys ++ [y]) H4 else Pv (i + 1) ys H3)
    (hd : ∀ ys H, Pv z.cps.size ys H → cont ys H) : tTurns g tt te vs Yx σ (Its z) H0 cont := by
  refine ⟨fun i m ys H => m = z.cps.size - i ∧ i ≤ z.cps.size ∧ Pv i ys H, ⟨_, rfl, Nat.zero_le _, h0⟩, ?_⟩
  rintro i m ys H ⟨rfl, hi, p⟩
  by_cases hlt : i < z.cps.size
  · refine .inr ⟨hlt, Pv (i + 1), fun ys' H' p' => ⟨z.cps.size - (i + 1), by omega, rfl, hlt, p'⟩, fun x H' y => ?_⟩
    obtain ⟨rfl, c, hc, rfl⟩ := y
    exact hs i c ys H' hc p
  · have e : i = z.cps.size := by omega
    subst e
    exact .inl ⟨Nat.le_refl _, hd _ _ p⟩
theorem turns_list {K : PySem.W.Frag} {a : Addr} {xs : List V} (Pv : Nat → List V → Hp → Prop) (h0 : Pv 0 [] H0) (hl : ∀ i ys H, i ≤ xs.length → Pv i ys H → SqL K H a xs)
    (hs : ∀ i x ys H, xs[i]? = some x → Pv i ys H → g x (wipe σ vs) H fun σ2 H2 => wipe σ2 vs = wipe σ vs ∧ tt σ2 H2 fun b H3 => if b = true then te σ2 H3 fun y H4 => ys.length < sizeLine ∧ Yx ys y H4 ∧ Pv (i + 1) (ys ++ [y]) H4 else Pv (i + 1) ys H3)
    (hd : ∀ ys H, Pv xs.length ys H → cont ys H) : tTurns g tt te vs Yx σ (Itl K a) H0 cont := by
  refine ⟨fun i m ys H => m = xs.length - i ∧ i ≤ xs.length ∧ Pv i ys H, ⟨_, rfl, Nat.zero_le _, h0⟩, ?_⟩
  rintro i m ys H ⟨rfl, hi, p⟩
  have q := hl i ys H hi p
  by_cases hlt : i < xs.length
  · refine .inr ⟨⟨xs, xs[i], q, by simp [hlt]⟩, Pv (i + 1), fun ys' H' p' => ⟨xs.length - (i + 1), by omega, rfl, hlt, p'⟩, fun x H' y => ?_⟩
    obtain ⟨rfl, hx⟩ := y
    exact hs i x ys H' (hx xs q) p
  · have e : i = xs.length := by omega
    subst e
    exact .inl ⟨⟨xs, q, Nat.le_refl _⟩, hd _ _ p⟩
theorem turns_tup {K : PySem.W.Frag} {a : Addr} {xs : List V} (Pv : Nat → List V → Hp → Prop) (h0 : Pv 0 [] H0) (hl : ∀ i ys H, i ≤ xs.length → Pv i ys H → SqT K H a xs)
    (hs : ∀ i x ys H, xs[i]? = some x → Pv i ys H → g x (wipe σ vs) H fun σ2 H2 => wipe σ2 vs = wipe σ vs ∧ tt σ2 H2 fun b H3 => if b = true then te σ2 H3 fun y H4 => ys.length < sizeLine ∧ Yx ys y H4 ∧ Pv (i + 1) (ys ++ [y]) H4 else Pv (i + 1) ys H3)
    (hd : ∀ ys H, Pv xs.length ys H → cont ys H) : tTurns g tt te vs Yx σ (Itt K a) H0 cont := by
  refine ⟨fun i m ys H => m = xs.length - i ∧ i ≤ xs.length ∧ Pv i ys H, ⟨_, rfl, Nat.zero_le _, h0⟩, ?_⟩
  rintro i m ys H ⟨rfl, hi, p⟩
  have q := hl i ys H hi p
  by_cases hlt : i < xs.length
  · refine .inr ⟨⟨xs, xs[i], q, by simp [hlt]⟩, Pv (i + 1), fun ys' H' p' => ⟨xs.length - (i + 1), by omega, rfl, hlt, p'⟩, fun x H' y => ?_⟩
    obtain ⟨rfl, hx⟩ := y
    exact hs i x ys H' (hx xs q) p
  · have e : i = xs.length := by omega
    subst e
    exact .inl ⟨⟨xs, q, Nat.le_refl _⟩, hd _ _ p⟩
theorem turns_range {lo : Int} {n : Nat} (Pv : Nat → List V → Hp → Prop) (h0 : Pv 0 [] H0)
    (hs : ∀ i ys H, i < n → Pv i ys H → g (.int (lo + i)) (wipe σ vs) H fun σ2 H2 => wipe σ2 vs = wipe σ vs ∧ tt σ2 H2 fun b H3 => if b = true then te σ2 H3 fun y H4 => ys.length < sizeLine ∧ Yx ys y H4 ∧ Pv (i + 1) (ys ++ [y]) H4 else Pv (i + 1) ys H3)
    (hd : ∀ ys H, Pv n ys H → cont ys H) : tTurns g tt te vs Yx σ (Itr lo n) H0 cont := by
  refine ⟨fun i m ys H => m = n - i ∧ i ≤ n ∧ Pv i ys H, ⟨_, rfl, Nat.zero_le _, h0⟩, ?_⟩
  rintro i m ys H ⟨rfl, hi, p⟩
  by_cases hlt : i < n
  · refine .inr ⟨hlt, Pv (i + 1), fun ys' H' p' => ⟨n - (i + 1), by omega, rfl, hlt, p'⟩, fun x H' y => ?_⟩
    obtain ⟨rfl, rfl⟩ := y
    exact hs i ys H' hlt p
  · have e : i = n := by omega
    subst e
    exact .inl ⟨Nat.le_refl _, hd _ _ p⟩
theorem pe_gl {X : Cx} {x : Str} {v : V} {pos : Pos} (hg : Gl X x) (h : ∃ u, X.mg x = some u ∧ RelV v u) (hd : (x == ("__debug__" : Str)) = false := by decide) : PE X (.Name x pos) (tC v) := by
  obtain ⟨u, hm, r⟩ := h
  exact pe_glob hg hm r hd
theorem cx_K {CX : CXT} {P : Program} {w : World} {K : PySem.W.Frag} {mg : Str → Option Value} {base : Heap} {N : List Str} {qual : Str} {scope : Scope} {f : Addr} {cd : Value} {A : Around} {outer : List Env} {s : Shared} {H : Hp} {E : XK} :
    (cxOf CX P w K mg base N qual scope f cd A outer s H E).K = K := rfl
theorem gcx_K {X : Cx} {A : Around} {s : Shared} {H : Hp} {E : XK} {scope : Scope} {L : Addr} {code : Value} {bi : Addr} {pn : List (Addr × Obj)} : (gCx X A s H E scope L code bi pn).K = X.K := rfl
theorem sz (n : Nat) (h : n ≤ 16777216 := by decide) : n ≤ sizeLine := by rw [sizeLine_eq]; exact h
section
variable {K : PySem.W.Frag} {H : Hp} {p : Addr} {xs : List V} {i : Int} {v : V} {Q : VK}
theorem rIx_tup (hs : SqT K H p xs) (h : atI xs i = some v) (q : Q v H) : rIx K (.ref p) (.int i) H Q := .inr (.inl ⟨p, xs, i, v, rfl, rfl, hs, h, q⟩)
theorem rIx_lst (hs : SqL K H p xs) (h : atI xs i = some v) (q : Q v H) : rIx K (.ref p) (.int i) H Q := .inl ⟨p, xs, i, v, rfl, rfl, hs, h, q⟩
theorem rIx_str {z : Str} {c : Nat} (hz : z.length ≤ sizeLine) (h : atI z.cps.toList i = some c) (q : Q (.str ⟨#[c]⟩) H) : rIx K (.str z) (.int i) H Q := .inr (.inr ⟨z, i, c, rfl, rfl, hz, h, q⟩)
theorem lst_at (h : H p = some (.lst xs)) : SqL K H p xs := .inl (.of h)
theorem tup_at (h : H p = some (.tup xs)) : SqT K H p xs := .inl (.of h)
end
section
variable {K : PySem.W.Frag} {H : Hp} {Q : VK} {i j : Int} {a b : Str} {k l : Bool} {p q : Addr}
theorem addU_int : rAddU K (.int i) (.int j) H Q = Q (.int (i + j)) H := rfl
theorem addU_str : rAddU K (.str a) (.str b) H Q = (a.length + b.length ≤ sizeLine ∧ Q (.str (a ++ b)) H) := rfl
theorem addU_ref : rAddU K (.ref p) (.ref q) H Q = (rCatT K (.ref p) (.ref q) H Q ∨ rCat (.ref p) (.ref q) H Q) := rfl
theorem subU_int : rSubU (.int i) (.int j) H Q = Q (.int (i - j)) H := rfl
theorem mulU_int : rMulU (.int i) (.int j) H Q = (CMul i j ∧ Q (.int (i * j)) H) := rfl
theorem mulU_ref : rMulU (.ref p) (.int j) H Q = rRep (.ref p) (.int j) H Q := rfl
theorem fdvU_int : rFdvU (.int i) (.int j) H Q = (CDiv i j ∧ Q (.int (i / j)) H) := rfl
theorem modU_int : rModU (.int i) (.int j) H Q = (0 < j ∧ Q (.int (i % j)) H) := rfl
theorem powU_int : rPowU (.int i) (.int j) H Q = (CPow i j ∧ Q (.int (i ^ j.toNat)) H) := rfl
theorem ltU_int : rLtU (.int i) (.int j) H Q = Q (.bl (decide (i < j))) H := rfl
theorem leU_int : rLeU (.int i) (.int j) H Q = Q (.bl (decide (i ≤ j))) H := rfl
theorem gtU_int : rGtU (.int i) (.int j) H Q = Q (.bl (decide (j < i))) H := rfl
theorem geU_int : rGeU (.int i) (.int j) H Q = Q (.bl (decide (j ≤ i))) H := rfl
theorem eqU_int : rEqU K (.int i) (.int j) H Q = Q (.bl (decide (i = j))) H := rfl
theorem eqU_str : rEqU K (.str a) (.str b) H Q = Q (.bl (decide (a = b))) H := rfl
theorem eqU_bl : rEqU K (.bl k) (.bl l) H Q = Q (.bl (decide (k = l))) H := rfl
theorem eqU_ref : rEqU K (.ref p) (.ref q) H Q = rEqD K (.ref p) (.ref q) H Q := rfl
theorem neU_int : rNeU K (.int i) (.int j) H Q = Q (.bl (!decide (i = j))) H := rfl
theorem neU_str : rNeU K (.str a) (.str b) H Q = Q (.bl (!decide (a = b))) H := rfl
theorem neU_bl : rNeU K (.bl k) (.bl l) H Q = Q (.bl (!decide (k = l))) H := rfl
theorem neU_ref : rNeU K (.ref p) (.ref q) H Q = rNeD K (.ref p) (.ref q) H Q := rfl
theorem setL_at {i v : V} {xs : List V} {n : Int} {j : Nat} {R : Hp → Prop} (h : H p = some (.lst xs)) (hi : i = .int n) (hj : ixN xs.length n = some j) (q : R (upd H p (.lst (xs.set j v)))) : rSetL (.ref p) i v H R := ⟨p, xs, n, j, rfl, hi, h, hj, q⟩
end
/-! ### loops, folded -/
def Loop (g : TG) (tb : TS) (D : Ends) (J : It) (σ : L2.St) (H1 : Hp) : Prop := ∃ W : Nat → Nat → L2.St → Hp → Prop, (∃ m, W 0 m σ H1) ∧ ∀ i m σ H, W i m σ H →
  (J.stop i H ∧ D.nx σ H) ∨ (J.go i H ∧ ∃ N : L2.St → Hp → Prop, (∀ σ' H', N σ' H' → ∃ m', m' < m ∧ W (i + 1) m' σ' H') ∧ ∀ x H', J.yld i H x H' → g x σ H' fun σ2 H2 => tb { D with nx := N, ct := N, bk := D.nx } σ2 H2)
theorem tFor_eq {wi : TI} {g : TG} {tb : TS} {D : Ends} {σ : L2.St} {H : Hp} : tFor wi g tb D σ H = wi σ H fun J H1 => Loop g tb D J σ H1 := rfl
theorem loop_list {K : PySem.W.Frag} {a : Addr} {xs : List V} {g : TG} {tb : TS} {D : Ends} {σ : L2.St} {H : Hp} (Pv : Nat → L2.St → Hp → Prop) (h0 : Pv 0 σ H) (hl : ∀ i σ H, i ≤ xs.length → Pv i σ H → SqL K H a xs)
    (hs : ∀ i x σ H, xs[i]? = some x → Pv i σ H → g x σ H fun σ2 H2 => tb { D with nx := Pv (i + 1), ct := Pv (i + 1), bk := D.nx } σ2 H2) (hd : ∀ σ H, Pv xs.length σ H → D.nx σ H) : Loop g tb D (Itl K a) σ H := for_list Pv h0 hl hs hd
theorem loop_tup {K : PySem.W.Frag} {a : Addr} {xs : List V} {g : TG} {tb : TS} {D : Ends} {σ : L2.St} {H : Hp} (Pv : Nat → L2.St → Hp → Prop) (h0 : Pv 0 σ H) (hl : ∀ i σ H, i ≤ xs.length → Pv i σ H → SqT K H a xs)
    (hs : ∀ i x σ H, xs[i]? = some x → Pv i σ H → g x σ H fun σ2 H2 => tb { D with nx := Pv (i + 1), ct := Pv (i + 1), bk := D.nx } σ2 H2) (hd : ∀ σ H, Pv xs.length σ H → D.nx σ H) : Loop g tb D (Itt K a) σ H := for_tup Pv h0 hl hs hd
theorem loop_range {lo : Int} {n : Nat} {g : TG} {tb : TS} {D : Ends} {σ : L2.St} {H : Hp} (Pv : Nat → L2.St → Hp → Prop) (h0 : Pv 0 σ H)
    (hs : ∀ i σ H, i < n → Pv i σ H → g (.int (lo + i)) σ H fun σ2 H2 => tb { D with nx := Pv (i + 1), ct := Pv (i + 1), bk := D.nx } σ2 H2) (hd : ∀ σ H, Pv n σ H → D.nx σ H) : Loop g tb D (Itr lo n) σ H := for_range Pv h0 hs hd
def LcLoop (g : TG) (tt : TT) (te : TE) (vs : List Nat) (J : It) (σ : L2.St) (H1 : Hp) (D : Addr) (Q : Hp → Prop) : Prop := ∃ W : Nat → Nat → Hp → Prop, (∃ m, W 0 m (upd H1 D (.lst []))) ∧ ∀ i m H, W i m H →
  (J.stop i H ∧ Q H) ∨ (J.go i H ∧ ∃ Nx : Hp → Prop, (∀ H', Nx H' → ∃ m', m' < m ∧ W (i + 1) m' H') ∧ ∀ x H', J.yld i H x H' → g x (wipe σ vs) H' fun σ2 H2 => wipe σ2 vs = wipe σ vs ∧ tt σ2 H2 fun b H3 =>
    if b = true then te σ2 H3 fun y H4 => ∃ acc, H4 D = some (.lst acc) ∧ acc.length < sizeLine ∧ Nx (upd H4 D (.lst (acc ++ [y]))) else Nx H3)
theorem tLc_eq {wi : TI} {g : TG} {tt : TT} {te : TE} {vs : List Nat} {σ : L2.St} {H : Hp} {Q : VK} : tLc wi g tt te vs σ H Q = wi σ H fun J H1 => ∀ D, H1 D = none → LcLoop g tt te vs J σ H1 D (Q (.ref D)) := rfl
theorem lcl_list {K : PySem.W.Frag} {a : Addr} {xs : List V} {g : TG} {tt : TT} {te : TE} {vs : List Nat} {σ : L2.St} {H1 : Hp} {D : Addr} {Qd : Hp → Prop} (Pv : Nat → Hp → Prop) (h0 : Pv 0 (upd H1 D (.lst []))) (hl : ∀ i H, i ≤ xs.length → Pv i H → SqL K H a xs)
    (hs : ∀ i x H, xs[i]? = some x → Pv i H → g x (wipe σ vs) H fun σ2 H2 => wipe σ2 vs = wipe σ vs ∧ tt σ2 H2 fun b H3 =>
      if b = true then te σ2 H3 fun y H4 => ∃ acc, H4 D = some (.lst acc) ∧ acc.length < sizeLine ∧ Pv (i + 1) (upd H4 D (.lst (acc ++ [y]))) else Pv (i + 1) H3) (hd : ∀ H, Pv xs.length H → Qd H) : LcLoop g tt te vs (Itl K a) σ H1 D Qd := lc_list Pv h0 hl hs hd
theorem lcl_tup {K : PySem.W.Frag} {a : Addr} {xs : List V} {g : TG} {tt : TT} {te : TE} {vs : List Nat} {σ : L2.St} {H1 : Hp} {D : Addr} {Qd : Hp → Prop} (Pv : Nat → Hp → Prop) (h0 : Pv 0 (upd H1 D (.lst []))) (hl : ∀ i H, i ≤ xs.length → Pv i H → SqT K H a xs)
    (hs : ∀ i x H, xs[i]? = some x → Pv i H → g x (wipe σ vs) H fun σ2 H2 => wipe σ2 vs = wipe σ vs ∧ tt σ2 H2 fun b H3 =>
      if b = true then te σ2 H3 fun y H4 => ∃ acc, H4 D = some (.lst acc) ∧ acc.length < sizeLine ∧ Pv (i + 1) (upd H4 D (.lst (acc ++ [y]))) else Pv (i + 1) H3) (hd : ∀ H, Pv xs.length H → Qd H) : LcLoop g tt te vs (Itt K a) σ H1 D Qd := lc_tup Pv h0 hl hs hd
theorem lcl_range {lo : Int} {n : Nat} {g : TG} {tt : TT} {te : TE} {vs : List Nat} {σ : L2.St} {H1 : Hp} {D : Addr} {Qd : Hp → Prop} (Pv : Nat → Hp → Prop) (h0 : Pv 0 (upd H1 D (.lst [])))
    (hs : ∀ i H, i < n → Pv i H → g (.int (lo + i)) (wipe σ vs) H fun σ2 H2 => wipe σ2 vs = wipe σ vs ∧ tt σ2 H2 fun b H3 =>
      if b = true then te σ2 H3 fun y H4 => ∃ acc, H4 D = some (.lst acc) ∧ acc.length < sizeLine ∧ Pv (i + 1) (upd H4 D (.lst (acc ++ [y]))) else Pv (i + 1) H3) (hd : ∀ H, Pv n H → Qd H) : LcLoop g tt te vs (Itr lo n) σ H1 D Qd := lc_range Pv h0 hs hd
theorem lcl_str {z : Str} {g : TG} {tt : TT} {te : TE} {vs : List Nat} {σ : L2.St} {H1 : Hp} {D : Addr} {Qd : Hp → Prop} (Pv : Nat → Hp → Prop) (h0 : Pv 0 (upd H1 D (.lst [])))
    (hs : ∀ i c H, z.cps[i]? = some c → Pv i H → g (.str ⟨#[c]⟩) (wipe σ vs) H fun σ2 H2 => wipe σ2 vs = wipe σ vs ∧ tt σ2 H2 fun b H3 =>
      if b = true then te σ2 H3 fun y H4 => ∃ acc, H4 D = some (.lst acc) ∧ acc.length < sizeLine ∧ Pv (i + 1) (upd H4 D (.lst (acc ++ [y]))) else Pv (i + 1) H3) (hd : ∀ H, Pv z.cps.size H → Qd H) : LcLoop g tt te vs (Its z) σ H1 D Qd := by
  refine ⟨fun i m H => m = z.cps.size - i ∧ i ≤ z.cps.size ∧ Pv i H, ⟨_, rfl, Nat.zero_le _, h0⟩, ?_⟩
  rintro i m H ⟨rfl, hi, p⟩
  by_cases hlt : i < z.cps.size
  · refine .inr ⟨hlt, Pv (i + 1), fun H' p' => ⟨z.cps.size - (i + 1), by omega, rfl, hlt, p'⟩, fun x H' y => ?_⟩
    obtain ⟨rfl, c, hc, rfl⟩ := y
    exact hs i c H' hc p
  · have e : i = z.cps.size := by omega
    subst e
    exact .inl ⟨Nat.le_refl _, hd _ p⟩
/-- int(v) -/
def rIntU : List V → Hp → VK → Prop := fun xs H Q => match xs with
  | [.int i] => Q (.int i) H
  | [.bl k] => Q (.int (if k then 1 else 0)) H
  | _ => False
theorem call_intU {X : Cx} : CallR X (.type "int") rIntU := by
  intro pins s σ H xs us Q I rs h
  refine call_int1 pins s σ H xs us Q I rs ?_
  unfold rIntU at h
  split at h
  · exact .inl ⟨_, rfl, h⟩
  · exact .inr ⟨_, rfl, h⟩
  · exact h.elim
theorem intU_int {H : Hp} {Q : VK} {i : Int} : rIntU [.int i] H Q = Q (.int i) H := rfl
theorem intU_bl {H : Hp} {Q : VK} {k : Bool} : rIntU [.bl k] H Q = Q (.int (if k then 1 else 0)) H := rfl
theorem Ex.sqt {A : List Addr} {TL : List (Addr × Str)} {GT : List Addr} {H H1 : Hp} {K : PySem.W.Frag} {p : Addr} {xs : List V} (a : Ex A TL GT H H1) (e : SqT K H p xs) : SqT K H1 p xs := by
  rcases e with e | e
  · exact .inl (a.tup _ _ e)
  · exact .inr e
theorem tup_sqt {K : PySem.W.Frag} {H : Hp} {p : Addr} {xs : List V} (h : H p = some (.tup xs)) : SqT K H p xs := .inl (.of h)
theorem Ex.sql {A : List Addr} {TL : List (Addr × Str)} {GT : List Addr} {H H1 : Hp} {K : PySem.W.Frag} {p : Addr} {xs : List V} (a : Ex A TL GT H H1) (hp : p ∉ A) (e : SqL K H p xs) : SqL K H1 p xs := by
  rcases e with (e | ⟨o, e⟩) | e
  · exact .inl (.inl (a.ext p _ hp e (fun _ q => by cases q)))
  · exact .inl (.inr ⟨o, a.ext p _ hp e (fun _ q => by cases q)⟩)
  · exact .inr e
theorem map_at {α β : Type} {f : α → β} {l : List α} {i : Nat} {x : β} (h : (l.map f)[i]? = some x) : ∃ z, l[i]? = some z ∧ x = f z := by
  rw [List.getElem?_map] at h
  cases e : l[i]? with
  | none => rw [e] at h; cases h
  | some z => rw [e] at h; exact ⟨z, rfl, (Option.some.inj h).symm⟩
theorem take_more {α : Type} {l : List α} {i : Nat} {x : α} (h : l[i]? = some x) : l.take (i + 1) = l.take i ++ [x] := by
  rw [List.take_add_one, h]; rfl
/-- over the top: a list that is younger than H changes -/
theorem Ex.over {A : List Addr} {TL : List (Addr × Str)} {GT : List Addr} {H H1 : Hp} {D : Addr} {o o' : HO} (a : Ex A TL GT H H1) (hd : H D = none) (e : H1 D = some o) (hm : isMut o = true) : Ex A TL GT H (L2.upd H1 D o') := a.chg e hm (.inr (free_none hd))
theorem Ex.overL {A : List Addr} {TL : List (Addr × Str)} {GT : List Addr} {H H1 : Hp} {D : Addr} {xs : List V} {o' : HO} (a : Ex A TL GT H H1) (hd : H D = none) (e : H1 D = some (.lst xs)) : Ex A TL GT H (L2.upd H1 D o') := a.chg e rfl (.inr (free_none hd))
/-! ### the written part by its name -/
theorem opK {X : Cx} {f : Value → Value → Sem Value} {K : PySem.W.Frag} {r : PySem.W.Frag → R2} (h : OpR X f (r X.K)) (e : X.K = K) : OpR X f (r K) := by
  rw [← e]; exact h
theorem ixK {X : Cx} {K : PySem.W.Frag} {r : PySem.W.Frag → R2} (h : IxR X (r X.K)) (e : X.K = K) : IxR X (r K) := by
  rw [← e]; exact h
theorem slK {X : Cx} {K : PySem.W.Frag} {r : PySem.W.Frag → V → Option Int → Option Int → Hp → VK → Prop} (h : SlR X (r X.K)) (e : X.K = K) : SlR X (r K) := by
  rw [← e]; exact h
def rLenU (K : PySem.W.Frag) : List V → Hp → VK → Prop := fun xs H Q => ∃ x n, xs = [x] ∧ LenV K x H n ∧ Q (.int (n : Nat)) H
theorem call_lenU {X : Cx} {K : PySem.W.Frag} (e : X.K = K) : CallR X (.builtin "len") (rLenU K) := by
  rw [← e]; exact call_len
def tTruU (K : PySem.W.Frag) (ta : TE) : TT := fun σ H Q => ta σ H fun x H' => ∃ k, TruV K x H' k ∧ Q k H'
theorem pt_truU {X : Cx} {K : PySem.W.Frag} {a : Expr} {ta : TE} (e : X.K = K) (h : PT X a (tTruU X.K ta)) : PT X a (tTruU K ta) := by
  rw [← e]; exact h
theorem tupOfK {X : Cx} {K : PySem.W.Frag} {a : Expr} {ta : TE} {p pos : Pos} (e : X.K = K) (h : PE X (.Call (.Name "tuple" p) [a] [] pos) (tThen ta (kTup X.K))) : PE X (.Call (.Name "tuple" p) [a] [] pos) (tThen ta (kTup K)) := by
  rw [← e]; exact h
def tTupL (K : PySem.W.Frag) (ta : TE) : TE := fun σ H Q => ta σ H fun x H1 => ∃ p xs, x = .ref p ∧ SqL K H1 p xs ∧ ∀ q, H1 q = none → Q (.ref q) (upd H1 q (.tup xs))
theorem pe_tupL {X : Cx} {K : PySem.W.Frag} {a : Expr} {ta : TE} {p pos : Pos} (e : X.K = K) (hg : Gl X "tuple") (hm : X.mg "tuple" = none) (ha : PE X a ta) (na : starEach [a] X.env = (false, eval a X.env) :: starEach [] X.env := by rfl) :
    PE X (.Call (.Name "tuple" p) [a] [] pos) (tTupL K ta) := by
  subst e
  refine ⟨fun pins s σ H Q I h => ?_⟩
  exact Call_ (ld_blt I hg hm boot_tuple (PyProof.Rows.callWith_type1 (one_arg ha I h (fun v s2 x H2 I2 r q => rl_tuple pins s2 σ H2 x v Q I2 r (.inl q)) na) na))
theorem ex2eq {α β : Type} {a : α} {b : β} {P : α → β → Prop} : (∃ v w, (a = v ∧ b = w) ∧ P v w) ↔ P a b := ⟨fun ⟨_, _, ⟨rfl, rfl⟩, h⟩ => h, fun h => ⟨a, b, ⟨rfl, rfl⟩, h⟩⟩
theorem roomEq {k : Nat} {A : Around} (hr : Room k A) : A.units + 64 < cLine := by have := hr.un; omega
end
end GX
set_option Elab.async false
set_option linter.all false
set_option maxRecDepth 100000
set_option maxHeartbeats 2000000
/-! a def that calls what it got and tells an error by a word -/
namespace GX
open PySem PySem.Spec PyProof.Rows L2
structure Told (K : PySem.W.Frag) (mg : Str → Option Value) (x a e ret : Str) (CS : Addr) : Prop where
  ex : ∃ (g cg : Addr) (fd : FuncData) (st : Stmt) (Ng : List Str) (p1 p2 p3 p4 p5 p6 p7 p8 : Pos), Def K mg x st g fd cg ∧
    defBody st = [.Try [.Return (some (.Call (.Name a p1) [] [] p2)) p3] [.ExceptHandler (some (.Name e p4)) none [.Return (some (.Constant (.str ret) 0 p5)) p6] p7] [] [] p8] ∧ FnScope Ng [a] (defScope st) ∧ Ng[0]? = some a ∧ Vis (defScope st) a ∧
    (defScope st).names.lookup e = some .globalImplicit ∧ (∀ f : Addr, (L2.start Ng [V.ref f])[0]? = some (some (V.ref f))) ∧
    (∀ (kV doc pm : Value) (an : Option Addr) (cdv ct : Value) (us : List Value), us.length = [a].length → bindArgs (PySem.W.fnOf x x (defArgs st) (defBody st) (defScope st) .none kV doc pm an cdv ct) ⟨us, []⟩ = pure ([a].zip us))
  me : mg e = some (.ref CS)
  de : (e == ("__debug__" : Str)) = false
  da : (a == ("__debug__" : Str)) = false
  dx : (x == ("__debug__" : Str)) = false
  dc : (a == ("__classdict__" : Str)) = false
theorem pe_told {X : Cx} {x a e ret : Str} {CS c P : Addr} {TL : List (Addr × Str)} {k : Nat} {params : Arguments} {body : Expr} {scope : Scope} {t : XK → TE} {p lpos pos : Pos} (T : Told X.K X.mg x a e ret CS) (hg : Gl X x)
    (TB : LamX.TabB X.base X.mg c P) (hcode : X.env.code = .ref c) (hmT : (P, X.env.qual ++ "<lambda>") ∈ TL) (hu : ∀ p ∈ TL, p.1 = P → p.2 = X.env.qual ++ "<lambda>") (hr : Room (k + 2) X.A) (L : LamX.LamS X.env.scope scope) (hdef : defaultsOf params X.env = ([], []))
    (hbind : ∀ (q : Str) (cl : List (Str × Addr)) (pm cv ctv : Value), bindArgs (PySem.W.kla_fn "<lambda>" q params body scope cl pm cv ctv) ⟨[], []⟩ = pure [])
    (hbody : ∀ (A : Around) (outer : List Env) (s : Shared) (H : Hp) (E : XK) (f c' : Addr), Room k (A.deeper (LamX.lamEnv X scope s.heap.objs.size f c')) → PE (LamX.lamCx X A outer s H E scope f c') body (t E)) :
    PE X (.Call (.Name x p) [.Lambda params body scope lpos] [] pos) (LamX.tLam TL (LamX.TTold X.K CS ret) t) := by
  obtain ⟨⟨g, cg, fd, st, Ng, p1, p2, p3, p4, p5, p6, p7, p8, D, hb, S, h1, h2, h3, h4, h5⟩, me, de, da, dx, dc⟩ := T
  obtain ⟨⟨oc, od, kV, doc, pm, an, ct, osl, rfl, lk, hcd⟩, kp, gm⟩ := D
  refine LamX.pe_lamcall (a := a) hg gm kp lk hcd (.all (h5 kV doc pm an (.ref cg) ct)) S h1 h2 ?_ TB hcode hmT hu hr L hdef hbind hbody dx da dc
  rw [hb]
  exact LamX.told_gives h3 me de h4
theorem takes_lam {X : Cx} {A : Around} {outer : List Env} {s : Shared} {H : Hp} {E : XK} {scope : Scope} {f c' : Addr} : Takes (LamX.lamCx X A outer s H E scope f c') (fun cls d _ H => E cls d H) := takes_of rfl rfl rfl rfl
theorem lcx_K {X : Cx} {A : Around} {outer : List Env} {s : Shared} {H : Hp} {E : XK} {scope : Scope} {f c' : Addr} : (LamX.lamCx X A outer s H E scope f c').K = X.K := rfl
/-- the table of lambdas and its like, as yet empty -/
theorem tabs_empty {TL : List (Addr × Str)} {H : Hp} (h : ∀ p ∈ TL, H p.1 = some (.tbl #[])) : LamX.Tabs TL H := fun p hp => ⟨#[], h p hp, by first | exact trivial | (intro _ h; cases h) | simp [PyProof.Rows.TriplesOk] , fun pos cv hcv => by cases hcv⟩
theorem ExtN.ex {A : List Addr} {TL : List (Addr × Str)} {GT : List Addr} {H H1 : Hp} (e : LamX.ExtN H H1) (t : LamX.Tabs TL H1) : Ex A TL GT H H1 := ⟨fun b o _ eb ne => e b o eb ne, fun _ => t, fun h P hP => e P _ (h P hP) (fun _ z => by cases z), fun b xs h => by
    rcases h with h | ⟨ob, h⟩
    · exact .inl (e b _ h (fun _ z => by cases z))
    · exact .inr ⟨ob, e b _ h (fun _ z => by cases z)⟩⟩
end GX
set_option Elab.async false
set_option linter.all false
set_option maxRecDepth 100000
set_option maxHeartbeats 2000000
/-! the head: defs, tables, FileError, by one look at the heap behind the top -/
namespace GX
open PySem PySem.Spec PyProof.Rows L2
/-- a def of the top as a datum -/
def dd (x : Str) (st : Stmt) : He.DefD := ⟨(x, none), x, x, defArgs st, defBody st, defScope st, [], []⟩
theorem def_funD {K : PySem.W.Frag} {mg : Str → Option Value} {x : Str} {st : Stmt} {f : Addr} {fd : FuncData} (F : FunD K x x (defArgs st) (defBody st) (defScope st) [] [] f fd) (gm : mg x = some (.ref f)) :
    ∃ c, Def K mg x st f fd c ∧ fd.code = .ref c := by
  obtain ⟨⟨oc, od, dV, kV, doc, pm, an, cdv, ct, osl, rfl, lk, hcd, hD, hK⟩, kp⟩ := F
  obtain ⟨c, rfl⟩ := He.codeIn_ref hcd
  rcases hD with ⟨_, rfl⟩ | ⟨e, _⟩
  · exact ⟨c, ⟨⟨oc, od, kV, doc, pm, an, ct, osl, rfl, lk, hcd⟩, kp, gm⟩, rfl⟩
  · exact absurd rfl e
/-! ### FileError -/
def clsB (K : PySem.W.Frag) (C : Addr) : Bool := match K.lookup C with
  | some ⟨.type t, _, .cls cd, sl⟩ => (match cd.mro, sl.toList with
    | .ref C' :: bm, [_, _, _, _, some (.builtin n), _] => t == "type" && (C' == C && (n == "ValueError.__new__" && (cd.hasDict && (!cd.hasDel && HandSPX.refsVE bm))))
    | _, _ => false)
  | _ => false
theorem clsB_ok {K : PySem.W.Frag} {C : Addr} (q : clsB K C = true) : ∃ nm q N bs bm sn sub ab col dd k0 k1 k2 k3 k5, K.lookup C = some (excClassObj nm q C N bs bm true sn sub ab col dd k0 k1 k2 k3 k5 "ValueError.__new__") ∧ HandSPX.refsVE bm = true := by
  unfold clsB at q
  split at q
  · rename_i t dd cd sl ho
    split at q
    · rename_i C' bm k0 k1 k2 k3 n k5 hm hs
      simp only [Bool.and_eq_true, beq_iff_eq, Bool.not_eq_true'] at q
      obtain ⟨rfl, rfl, rfl, hd, hdel, ht⟩ := q
      obtain ⟨nm, bs, mro, ns, qn, hdd, sn, sub, ab, col, del⟩ := cd
      dsimp only at hm hdel hd
      subst hm hdel hd
      have hsl : sl = #[k0, k1, k2, k3, some (.builtin "ValueError.__new__"), k5] := by
        obtain ⟨l⟩ := sl
        simp only at hs
        rw [hs]
      subst hsl
      exact ⟨nm, qn, ns, bs, bm, sn, sub, ab, col, dd, k0, k1, k2, k3, k5, ho, ht⟩
    · cases q
  · cases q
abbrev IniW : Type := Option (Str × Str × Arguments × FuncBody × Scope × Addr × Addr × List Str)
def iniC (K : PySem.W.Frag) : Addr := He.ga K "FileError"
def iniF (K : PySem.W.Frag) : Addr := He.ma K (iniC K) "__init__"
def iniW (K : PySem.W.Frag) : IniW := match K.lookup (iniF K) with
  | some ⟨_, _, .func fd, _⟩ => some (fd.name, fd.qualname, fd.params, fd.body, fd.scope, fd.globals, fd.builtins, fd.closure.map (·.1))
  | _ => none
def iniV (st : Stmt) : IniW := some ("__init__", "FileError.__init__", defArgs st, .stmts (defBody st), defScope st, mainGlobals, builtinsNs, ["__class__"])
def iniB (file : Str) (K : PySem.W.Frag) : Bool := match K.lookup (iniF K) with
  | some ⟨_, _, .func fd, _⟩ => (match fd.defaults, fd.kwdefaults, fd.code, fd.closure with
    | .none, .none, .ref cda, [(_, cc)] => PySem.W.codeIn K (.ref cda) "FileError.__init__" && ((match K.lookup cda with
        | some ⟨_, _, .fields vs, _⟩ => (match (vs[2]? : Option Value) with
          | some (.str f _) => file == f
          | _ => false)
        | _ => false) && (match K.lookup cc with
        | some ⟨_, _, .cell (some (.ref C)), _⟩ => C == iniC K
        | _ => false))
    | _, _, _, _ => false)
  | _ => false
def fileB (file : Str) (K : PySem.W.Frag) : Bool :=
  (clsB K (iniC K) && iniB file K) && ((decide (PySem.W.ks_superIn K (iniC K) (iniC K) "__init__" = some (some (.builtin "ValueError.__init__"))) && decide (PySem.W.findIn K (.ref (iniC K)) "__setattr__" = some (some (.builtin "object.__setattr__")))) &&
  ((decide (PySem.W.findIn K (.ref (iniC K)) "word" = some none) && decide (PySem.W.findIn K (.ref (iniC K)) "__init__" = some (some (.ref (iniF K))))) && ((decide (PySem.W.typeIn K (.ref (iniF K)) = some (.type "function")) && PySem.W.keepIn K (.ref (iniC K))) &&
  ((decide (PySem.W.subIn K (.ref (iniC K)) (.type "BaseException") = some true) && decide (PySem.W.subIn K (.ref (iniC K)) (.type "ValueError") = some true)) && ((decide (PySem.W.mroIn K (iniC K) (.ref (iniC K)) = some true) && decide (PySem.W.typeIn K (.ref (iniC K)) = some (.type "type"))) &&
  (decide (PySem.W.nsIn K cStatics "thirdparty.any" = some none) && (decide (PySem.W.subIn K (.ref (iniC K)) (.type "StopIteration") = some false) && decide (PySem.W.exmOne K (.ref (iniC K)) (.ref (iniC K)) = some true))))))))
theorem file_ok {P : Program} {K : PySem.W.Frag} {mg : Str → Option Value} {st : Stmt} {p1 p2 q0 q1 q2 q3 q4 q5 q6 q7 q8 q9 : Pos} (hb : fileB P.main.file K = true) (hw : iniW K = iniV st) (gC : mg "FileError" = some (.ref (iniC K))) (gS : mg "super" = none) (top : (P.main.scope.names.lookup ("super" : Str)).isSome = false)
    (e1 : defArgs st = GF.iA p1 p2) (e2 : defBody st = GF.iB q0 q1 q2 q3 q4 q5 q6 q7 q8 q9) (e3 : defScope st = GF.iS) (hl : (q2.endLine == q4.line) = true) :
    GF.FileTxt P K mg (iniC K) (iniF K) ∧ PySem.W.subIn K (.ref (iniC K)) (.type "StopIteration") = some false ∧ PySem.W.exmOne K (.ref (iniC K)) (.ref (iniC K)) = some true := by
  unfold fileB at hb
  simp only [Bool.and_eq_true, decide_eq_true_eq] at hb
  obtain ⟨⟨h1, h2⟩, ⟨h3, h4⟩, ⟨h5, h6⟩, ⟨h7, h8⟩, ⟨h9, h10⟩, ⟨h11, h12⟩, h13, h14, h15⟩ := hb
  refine ⟨⟨gC, gS, clsB_ok h1, h3, h4, h5, h6, h7, h8, h9, h10, h11, h12, h13, top, ?_⟩, h14, h15⟩
  unfold iniW iniV at hw
  unfold iniB at h2
  cases q : K.lookup (iniF K) with
  | none => rw [q] at h2; cases h2
  | some o =>
    obtain ⟨oc, od, dt, osl⟩ := o
    rw [q] at h2 hw
    cases dt with
    | func fd =>
      obtain ⟨n1, n2, n3, n4, n5, n6, n7, n8, n9, n10, n11, n12, n13, n14, n15⟩ := fd
      simp only [Option.some.injEq, Prod.mk.injEq] at hw
      obtain ⟨k1, k2, k3, k4, k5, k6, k7, k8⟩ := hw
      simp only at k1 k2 k3 k4 k5 k6 k7 k8 h2
      subst k1 k2 k3 k4 k5 k6 k7
      split at h2
      · rename_i cda cl0 cc
        simp only [Bool.and_eq_true] at h2
        obtain ⟨w1, w2, w3⟩ := h2
        have k9 : cl0 = (("__class__" : Str)) := (List.cons.inj (show [cl0] = [(("__class__" : Str))] from k8)).1
        subst k9
        split at w2
        · rename_i ccl cdd vs ccs hcda
          split at w2
          · rename_i f tf hvs
            split at w3
            · rename_i cl cld C csl hcc
              have ec : C = iniC K := beq_iff_eq.mp w3
              subst ec
              refine ⟨oc, od, n10, n11, n12, cda, cc, n14, osl, p1, p2, q0, q1, q2, q3, q4, q5, q6, q7, q8, q9, ccl, cdd, vs, ccs, f, tf, cl, cld, csl, ?_, w1, hcda, hvs, hl, w2, hcc⟩
              rw [← e1, ← e2, ← e3]
            · cases w3
          · cases w2
        · cases w2
      · cases h2
    | _ => cases h2
/-! ### the look -/
def clos (g : Addr → Option Obj) (as : List Addr) : List Addr := as.flatMap fun a => match g a with
  | some ⟨_, _, .func fd, _⟩ => fd.closure.map (·.2)
  | _ => []
def asF (g : Addr → Option Obj) (n : Nat) : List Addr := He.asD g n ++ (cStatics :: clos g (He.asD g n))
structure SaysF (fa : List He.Fa) (fn : List He.DefD) (tf : List He.Defn) (ex : PySem.W.Frag → Bool) (iv : IniW) (w : World) (h : Heap) (K : PySem.W.Frag) : Prop where
  x : He.SaysX fa fn [] tf ex w h K
  i : iniW K = iv
abbrev AlF : Type := He.AlX × IniW
def obsF (n : Nat) (fa : List He.Fa) (fn : List He.DefD) (tf : List He.Defn) (ex : PySem.W.Frag → Bool) (g : Addr → Option Obj) : AlF :=
  ((He.obsT fa fn [] (He.frT g (asF g n)), ex (He.frT g (asF g n)) && He.tabsB g tf (He.frT g (asF g n))), iniW (He.frT g (asF g n)))
def valF (fn : List He.DefD) (iv : IniW) (w : World) : AlF := ((He.valT fn [] w, true), iv)
theorem saysF_of {n : Nat} {fa : List He.Fa} {fn : List He.DefD} {tf : List He.Defn} {ex : PySem.W.Frag → Bool} {iv : IniW} {w : World} {h : Heap} (e : obsF n fa fn tf ex h.get? = valF fn iv w) : SaysF fa fn tf ex iv w h (He.frT h.get? (asF h.get? n)) := by
  have e0 : iniW (He.frT h.get? (asF h.get? n)) = iv := congrArg (fun z : AlF => z.2) e
  have e1 : He.obsT fa fn [] (He.frT h.get? (asF h.get? n)) = He.valT fn [] w := congrArg (fun z : AlF => z.1.1) e
  have e2 : (ex (He.frT h.get? (asF h.get? n)) && He.tabsB h.get? tf (He.frT h.get? (asF h.get? n))) = true := congrArg (fun z : AlF => z.1.2) e
  obtain ⟨h1, h2⟩ := He.ba e2
  have key : ∀ p ∈ tf, PySem.W.codeHdIn (He.frT h.get? (asF h.get? n)) (He.cT (He.frT h.get? (asF h.get? n)) p).1 (He.cT (He.frT h.get? (asF h.get? n)) p).2 = true ∧ ∃ o, h.get? (He.cT (He.frT h.get? (asF h.get? n)) p).2 = some o ∧ He.emptyTab o = true := fun p hp => by
    obtain ⟨h3, h4⟩ := He.ba (List.all_eq_true.mp h2 p hp)
    refine ⟨h3, ?_⟩
    cases q : h.get? (He.cT (He.frT h.get? (asF h.get? n)) p).2 with
    | none =>
      rw [q] at h4
      cases h4
    | some o =>
      rw [q] at h4
      exact ⟨o, rfl, h4⟩
  exact ⟨⟨e1, h1, fun p hp => (key p hp).1, fun p hp => by
    obtain ⟨_, o, q, z⟩ := key p hp
    exact He.frT_none q z, fun p hp => by
    obtain ⟨_, o, q, z⟩ := key p hp
    rw [q, He.emptyTab_eq z]⟩, e0⟩
def hookF (n : Nat) (fa : List He.Fa) (fn : List He.DefD) (tf : List He.Defn) (ex : PySem.W.Frag → Bool) (iv : IniW) : PySem.W.Hook where
  α := AlF
  obs := fun s => obsF n fa fn tf ex s.heap.get?
  val := fun w => valF fn iv w
  says := fun w h => ∃ K : PySem.W.Frag, K.In h ∧ SaysF fa fn tf ex iv w h K
  of := fun _ _ e => ⟨_, He.frT_in, saysF_of e⟩
  keeps := fun _ _ _ ⟨K, hK, c⟩ k => ⟨K, PySem.W.Frag.In.keeps hK k, ⟨⟨c.x.t, c.x.more, c.x.hd, c.x.out, fun p hp => k _ _ (c.x.empty p hp)⟩, c.i⟩⟩
theorem obsF_eq {n : Nat} {fa : List He.Fa} {fn : List He.DefD} {tf : List He.Defn} {ex : PySem.W.Frag → Bool} {iv : IniW} {g : Addr → Option Obj} {s : Shared} (h : ∀ a, g a = s.heap.get? a) : obsF n fa fn tf ex g = (hookF n fa fn tf ex iv).obs s := by
  have e : g = s.heap.get? := funext h
  rw [e] <;> rfl
/-- a def that is told -/
theorem says_def {fa : List He.Fa} {fn : List He.DefD} {tf : List He.Defn} {ex : PySem.W.Frag → Bool} {iv : IniW} {w : World} {h : Heap} {K : PySem.W.Frag} {mg : Str → Option Value} {x : Str} {st : Stmt} (c : SaysF fa fn tf ex iv w h K) (X : K.In h) (G : h.Ns mainGlobals mg)
    (h1 : dd x st ∈ fn) (h2 : He.Fa.glo x ∈ fa) : ∃ fd cd, Def K mg x st (He.ga K x) fd cd ∧ cd = (He.cT K (x, none)).1 := by
  obtain ⟨fd, F⟩ := c.x.t.d.defs h1
  obtain ⟨cd, D, e⟩ := def_funD (mg := mg) F (He.glo_ok X G (c.x.t.d.facts h2))
  obtain ⟨oc, od, kV, doc, pm, an, ct, osl, rfl, lk, hcd⟩ := D.ex
  exact ⟨_, cd, D, (He.codeOf_eq (p := (x, none)) lk rfl).symm⟩
/-! ### tables of codes, held as such -/
def toE (GT : List Addr) (H : Hp) : Hp := fun b => if b ∈ GT then some (TblE b) else H b
def atF (h : Heap) (b : Addr) : Array Value := match h.get? b with
  | some ⟨_, _, .fields vs, _⟩ => vs
  | _ => #[]
def toT (GT : List Addr) (h : Heap) (H : Hp) : Hp := fun b => if b ∈ GT then some (.tbl (atF h b)) else H b
theorem toE_in {GT : List Addr} {H : Hp} {b : Addr} (h : b ∈ GT) : toE GT H b = some (TblE b) := if_pos h
theorem toE_out {GT : List Addr} {H : Hp} {b : Addr} (h : b ∉ GT) : toE GT H b = H b := if_neg h
theorem toT_in {GT : List Addr} {hp : Heap} {H : Hp} {b : Addr} (h : b ∈ GT) : toT GT hp H b = some (.tbl (atF hp b)) := if_pos h
theorem toT_out {GT : List Addr} {hp : Heap} {H : Hp} {b : Addr} (h : b ∉ GT) : toT GT hp H b = H b := if_neg h
theorem hok_toE {P : Program} {w : World} {GT : List Addr} {H : Hp} {h : Heap} (hok : HOk P w H h) (hT : ∀ p ∈ GT, H p = some (.tbl #[])) : HOk P w (toE GT H) h := fun a o e => by
  by_cases ha : a ∈ GT
  · rw [toE_in ha] at e
    cases e
    have q : h.get? a = some { cls := .none, data := .fields #[] } := hok a _ (hT a ha)
    exact ⟨⟨#[], q, by first | exact trivial | (intro _ h; cases h) | simp [TriplesOk]⟩, ⟨_, q⟩, fun h1 h2 ⟨qs, x, y⟩ st => ⟨qs, st _ x, y⟩⟩
  · rw [toE_out ha] at e
    refine (hok a o e).stay (fun b u _ q => q) (fun b q => ?_) fun b xs q => ?_
    · have nb : b ∉ GT := fun z => by rw [hT b z] at q; cases q
      rw [toE_out nb]; exact q
    · have nb : b ∉ GT := fun z => by rw [hT b z] at q; cases q
      rw [toE_out nb]; exact q
theorem hok_toT {P : Program} {w : World} {GT : List Addr} {H : Hp} {h : Heap} (hok : HOk P w H h) (hT : ∀ p ∈ GT, H p = some (TblE p)) : HOk P w (toT GT h H) h := fun a o e => by
  by_cases ha : a ∈ GT
  · rw [toT_in ha] at e
    cases e
    obtain ⟨⟨ps, q, _⟩, _⟩ := hok a _ (hT a ha)
    show h.get? a = some { cls := .none, data := .fields (atF h a) }
    unfold atF
    rw [q]
  · rw [toT_out ha] at e
    refine (hok a o e).stay (fun b u _ q => q) (fun b q => ?_) fun b xs q => ?_
    · have nb : b ∉ GT := fun z => by rw [hT b z] at q; cases q
      rw [toT_out nb]; exact q
    · have nb : b ∉ GT := fun z => by rw [hT b z] at q; cases q
      rw [toT_out nb]; exact q
def spTabs (GT : List Addr) (sp : Sp) : Sp := fun vs H Q E => (∀ p ∈ GT, H p = some (.tbl #[])) ∧ (∃ R : V → Prop, (∀ v H', R v → Q v H') ∧ sp vs (toE GT H) (fun v H' => R v ∧ ∀ p ∈ GT, H' p = some (TblE p)) fun _ _ _ => False)
theorem fn_tabs {P : Program} {w : World} {K : PySem.W.Frag} {mg : Str → Option Value} {base : Heap} {k : Nat} {f : Addr} {fd : FuncData} {ps : List Str} {sp : Sp} {GT : List Addr} (F : FnOk P w K mg base (L2.CX P w) k f fd ps sp) : FnOk P w K mg base (L2.CX P w) k f fd ps (spTabs GT sp) := by
  refine ⟨fun vs H Q E h => ?_, fun A outer s H args us vs Q E hr e0 hb r h => ?_⟩
  · obtain ⟨_, R, _, h⟩ := h
    exact F.len _ _ _ _ h
  obtain ⟨hT, R, hR, h⟩ := h
  have nT : ∀ b, H b = none → b ∉ GT := fun b e z => by rw [hT b z] at e; cases e
  have e1 : Env0 P w K mg base A outer s (toE GT H) := ⟨e0.frames, e0.mod, fun b o q => ⟨(e0.bs b o q).1, by rw [toE_out (nT b (e0.bs b o q).2)]; exact (e0.bs b o q).2⟩, e0.bsz, e0.funs,
    fun b hb => by rw [toE_out (nT b (e0.frf b hb))]; exact e0.frf b hb, hok_toE e0.hok hT, e0.bare⟩
  refine codeAny_mono (F.run A outer s (toE GT H) args us vs _ _ hr e1 hb r h) fun r s' hq => ?_
  cases r with
  | error e =>
    obtain ⟨a, B, H', cls, d, _, _, _, _, _, _, _, z⟩ := hq
    exact z.elim
  | ok fl =>
    cases fl with
    | ret u =>
      obtain ⟨v, H', os, bare, un, hok', rv, hr', ht'⟩ := hq
      have tE : ∀ b u, H b = some u → (u ≠ .tbl #[]) → b ∉ GT := fun b u e ne z => by rw [hT b z] at e; exact ne (Option.some.inj e).symm
      refine ⟨v, toT GT s'.heap H', os, bare, ?_, hok_toT hok' ht', rv, hR v _ hr'⟩
      refine ⟨fun b o q n nf nx => un.keep b o q (by rw [toE_out (nT b n)]; exact n) nf nx, fun b o q n nf nx => un.slot b o q (by rw [toE_out (nT b n)]; exact n) nf nx, fun b o q n nx => ?_, fun b o q nx => un.there b o q nx, fun b xs q => ?_, fun b o u q => ?_, fun b qs q => ?_⟩
      · rw [toT_out (nT b n)]
        exact un.free b o q (by rw [toE_out (nT b n)]; exact n) nx
      · have nb := tE b _ q (fun z => by cases z)
        rw [toT_out nb]
        exact un.tups b xs (by rw [toE_out nb]; exact q)
      · have nb := tE b _ q (fun z => by cases z)
        rw [toT_out nb]
        exact un.frzs b o u (by rw [toE_out nb]; exact q)
      · by_cases hb : b ∈ GT
        · have z := hT b hb
          rw [q] at z
          cases z
          exact ⟨atF s'.heap b, by rw [toT_in hb, Array.empty_append]⟩
        · obtain ⟨more, z⟩ := un.tbls b qs (by rw [toE_out hb]; exact q)
          exact ⟨more, by rw [toT_out hb]; exact z⟩
    | next => exact False.elim hq
    | brk => exact False.elim hq
    | cont => exact False.elim hq
end GX
set_option Elab.async false
set_option linter.all false
set_option maxRecDepth 100000
set_option maxHeartbeats 2000000
/-! methods and instances by their promises; more operators -/
namespace GX
open PySem PySem.Spec PyProof.Rows L2
/-! ### a method, a class that is made -/
structure Met (P : Program) (w : World) (K : PySem.W.Frag) (mg : Str → Option Value) (base : Heap) (k : Nat) (C : Addr) (m : Str) (dvs : List V) (sp : Sp) : Prop where
  cls : Cls K C
  ex : ∃ (f : Addr) (fd : FuncData) (ps : List Str) (ds : List Value), Meth K C m f ∧ FnOk P w K mg base (L2.CX P w) k f fd ps sp ∧ Binds K fd ps ds ∧ Vals dvs ds
structure Mak (P : Program) (w : World) (K : PySem.W.Frag) (mg : Str → Option Value) (base : Heap) (k : Nat) (x : Str) (C : Addr) (dvs : List V) (sp : Sp) : Prop where
  gm : mg x = some (.ref C)
  ex : ∃ (f : Addr) (fd : FuncData) (ps : List Str) (ds : List Value), Mk K C f ∧ FnOk P w K mg base (L2.CX P w) k f fd ps sp ∧ Binds K fd ps ds ∧ Vals dvs ds
def tMet (C : Addr) (m : Str) (sp : Sp) (dvs : List V) (E : L2.St → XK) (ta : TE) (t : TA) : TE := fun σ H Q => ta σ H fun x H1 => ∃ a dx fs, x = .ref a ∧ H1 a = some (.ins C dx fs) ∧ fs.lookup m = none ∧ t σ H1 fun vs H2 => sp (x :: (vs ++ dvs)) H2 Q (E σ)
section
variable {X : Cx} {k : Nat} {C : Addr} {m x : Str} {dvs : List V} {sp : Sp} {W : WX} {o e : Expr} {es : List Expr} {ta : TE} {t : TA} {p apos pos : Pos}
theorem pe_met {pl : Sem Bool} (c : Met X.prog X.w X.K X.mg X.base k C m dvs sp) (hr : Room k X.A) (tk : Takes X W) (he : PE X o ta) (ha : PA X (e :: es) t)
    (hst : starEach (e :: es) X.env = (false, eval e X.env) :: starEach es X.env := by rfl) (hpl : (backTo pos (starEach es X.env)).any (·.1) = false := by rfl)
    (ht : eval (.Call (.Attribute o m apos) (e :: es) [] pos) X.env = (do
      let ov ← eval o X.env
      standAt apos.atName
      let (f, first) ← holding [ov] (getMethod ov m pl)
      callWith pos f first (backTo pos (starEach (e :: es) X.env)) (backToKw pos (keywordEach [] X.env))) := by rfl) :
    PE X (.Call (.Attribute o m apos) (e :: es) [] pos) (tMet C m sp dvs (WE W) ta t) := by
  obtain ⟨cl, f, fd, ps, ds, hm, F, hb, hd⟩ := c
  refine ⟨fun pins s σ H Q I h => ?_⟩
  refine PySem.W.methodCall_KW (pl := pl) (thn (he.run pins s σ H _ I h) fun u s1 ⟨x, H1, I1, rx, a, dx, fs, ex, ea, l, q⟩ => ?_) ht
  subst ex
  obtain rfl : u = Value.ref a := rx
  refine getmeth_ok I1 ea cl hm l ?_
  refine PySem.W.callWith_K (first := [.ref a]) (h₀ := X.base) I.ok.mod.kin hm.kp (thn (ha.run pos pins s1 σ H1 _ I1 q) fun us s2 ⟨vs, H2, I2, r, q2⟩ => ⟨I2.kIn, ?_⟩) hst hpl
  exact run_fnSD (E := WE W) (us := .ref a :: us) (vs := .ref a :: vs) F hr hb hd (passAt tk σ) I2 (.cons rfl r) q2
theorem pe_met0 {pl : Sem Bool} (c : Met X.prog X.w X.K X.mg X.base k C m dvs sp) (hr : Room k X.A) (tk : Takes X W) (he : PE X o ta)
    (ht : eval (.Call (.Attribute o m apos) [] [] pos) X.env = (do
      let ov ← eval o X.env
      standAt apos.atName
      let (f, first) ← holding [ov] (getMethod ov m pl)
      callWith pos f first (backTo pos (starEach [] X.env)) (backToKw pos (keywordEach [] X.env))) := by rfl) :
    PE X (.Call (.Attribute o m apos) [] [] pos) (tMet C m sp dvs (WE W) ta tNil) := by
  obtain ⟨cl, f, fd, ps, ds, hm, F, hb, hd⟩ := c
  refine ⟨fun pins s σ H Q I h => ?_⟩
  refine PySem.W.methodCall_KW (pl := pl) (thn (he.run pins s σ H _ I h) fun u s1 ⟨x, H1, I1, rx, a, dx, fs, ex, ea, l, q⟩ => ?_) ht
  subst ex
  obtain rfl : u = Value.ref a := rx
  refine getmeth_ok I1 ea cl hm l ?_
  exact PySem.W.callWith_K0 (first := [.ref a]) I1.kIn hm.kp (run_fnSD (E := WE W) (us := [.ref a]) (vs := [.ref a]) F hr hb hd (passAt tk σ) I1 (.cons rfl .nil) q)
theorem passF {X : Cx} : Passes (L2.CX X.prog X.w) X (fun _ _ _ => False) := fun pins σ H s e s' I c => by
  obtain ⟨_, _, _, _, _, _, _, _, _, _, _, _, z⟩ := c
  exact z.elim
/-- C(e, ..): the maker raises nothing -/
theorem pe_mak (c : Mak X.prog X.w X.K X.mg X.base k x C dvs sp) (hr : Room (k + 1) X.A) (ha : PA X (e :: es) t) (hg : Gl X x := by rfl) (hdb : (x == ("__debug__" : Str)) = false := by decide)
    (he : starEach (e :: es) X.env = (false, eval e X.env) :: starEach es X.env := by rfl) (hpl : (backTo pos (starEach es X.env)).any (·.1) = false := by rfl) :
    PE X (.Call (.Name x p) (e :: es) [] pos) (tMake C sp dvs (fun _ _ _ => False) t) := by
  obtain ⟨gm, f, fd, ps, ds, M, F, hb, hd⟩ := c
  exact pe_make M F hr hg gm hb hd passF ha hdb he hpl
theorem pe_mak0 (c : Mak X.prog X.w X.K X.mg X.base k x C dvs sp) (hr : Room (k + 1) X.A) (hg : Gl X x := by rfl) (hdb : (x == ("__debug__" : Str)) = false := by decide) :
    PE X (.Call (.Name x p) [] [] pos) (tMake C sp dvs (fun _ _ _ => False) tNil) := by
  obtain ⟨gm, f, fd, ps, ds, M, F, hb, hd⟩ := c
  exact pe_make0 M F hr hg gm hb hd passF hdb
end
/-! ### x op= y of any kind -/
def rIaddU (K : PySem.W.Frag) : R2 := fun x y H Q => match x, y with
  | .int i, .int j => Q (.int (i + j)) H
  | .str a, .str b => a.length + b.length ≤ sizeLine ∧ Q (.str (a ++ b)) H
  | .ref _, .ref _ => rCatT K x y H Q ∨ rExt2 x y H Q
  | _, _ => False
theorem no_iadd_tuple : typeLookup (.type "tuple") (dunderI "add") = pure none := by
  rw [typeLookup_type, builtinLookup_eq_fast]; kernel_rfl
section
variable {X : Cx}
theorem iop_catT : OpR X (inplaceOp .Add) (rCatT X.K) := by
  intro pins s σ H x y v u Q I rx ry h
  obtain ⟨a, b, xs, ys, rfl, rfl, ha, hb, hx, hz, q1, q2⟩ := h
  cases rx
  cases ry
  obtain ⟨its, r1, ⟨⟨cls, dd, data, sl⟩, ho, hc, n, hd⟩, _⟩ := I.tuple ha
  obtain ⟨its2, r2, ⟨⟨cls2, dd2, data2, sl2⟩, ho2, hc2, n2, hd2⟩, _⟩ := I.tuple hb
  simp only at hc hd hc2 hd2
  subst hc hd hc2 hd2
  have hne : its ≠ [] := fun z => hx (r1.nil_iff.mp z)
  have hsz : its.length + its2.length ≤ sizeLine := by rw [← r1.length, ← r2.length]; exact hz
  have e : its.toArray ++ its2.toArray = (its ++ its2).toArray := by simp
  refine wpAny_inplaceOp_concat (T := "tuple") ⟨_, ho, rfl⟩ ⟨_, ho2, rfl⟩ no_iadd_tuple noFill_tuple_add seq_tuple_add ?_
  by_cases hw : its2 = []
  · exact call_meets PySem.F.slot_tuple_add ⟨_, ho, rfl⟩ PySem.F.entry_tuple_add (PySem.F.args_tuple_add_2 _ _)
      (PyProof.Rows.tuple_addW1 a b its.toArray its2.toArray n n2 dd dd2 sl sl2 (by simpa using hne) (by simp [hw])) ⟨ho, ho2, .ref a, H, I, rfl, q1 (r2.nil_iff.mp hw)⟩
  · refine call_meets PySem.F.slot_tuple_add ⟨_, ho, rfl⟩ PySem.F.entry_tuple_add (PySem.F.args_tuple_add_2 _ _)
      (PyProof.Rows.tuple_addW2 a b its.toArray its2.toArray n n2 dd dd2 sl sl2 (by simpa using hne) (by simpa using hw) (by rw [List.size_toArray, List.size_toArray]; exact hsz)) ⟨ho, ho2, ?_⟩
    rw [e]
    refine ⟨.ref s.heap.objs.size, _, I.laid (t' := s.toks) (o := .tup (xs ++ ys)) (fun b ob q => Heap.get?_push_of_some _ q) (Nat.le_refl _) ?_, rfl, q2 (fun w => hw (r2.nil_iff.mpr w)) _ (I.hok.fresh (Nat.le_refl _))⟩
    exact ⟨by rw [List.length_append]; exact hz, _, r1.append r2, IsTup.new _ _⟩
theorem opU_iadd : OpR X (inplaceOp .Add) (rIaddU X.K) := OpR.imp (OpR.or iop_add (OpR.or iop_add_str (OpR.or iop_catT iop_ext))) (by
  intro x y H Q h
  unfold rIaddU at h
  split at h
  · exact .inl ⟨_, _, rfl, rfl, h⟩
  · exact .inr (.inl ⟨_, _, rfl, rfl, h⟩)
  · exact .inr (.inr h)
  · exact h.elim)
end
/-! ### a tuple times a number -/
theorem tuple_mul_one (l : Addr) (items : Array Value) (n : Nat) (dd : Option Addr) (sl : Array (Option Value)) (u : Tok) :
    Meets (Builtin.«tuple.__mul__» ⟨[.ref l, .int 1 u], []⟩) (fun _ R s => s.heap.get? l = some { cls := .type "tuple", dict := dd, data := .seq items n, slots := sl } ∧ R (.ok (.ret (Value.ref l))) s) :=
  .of_wp fun prog w A R s h => by
    obtain ⟨hp, g, d, tk, os⟩ := s
    obtain ⟨hl, h⟩ := h
    have f1 := AutoSeq1.idx_int
    have c0 : (decide ((1 : Int) < -(2 ^ 63)) || decide ((1 : Int) ≥ 2 ^ 63)) = false := by decide
    have c1 : (items.isEmpty || (1 : Int) == 1) = true := by simp
    wp_walk using wpAny_loadPart' hl
    repeat (first
      | (refine wpAny_ite_false (decide_eq_false (by rw [c0]; exact Bool.false_ne_true)) ?_; wp_walk using wpAny_loadPart' hl)
      | (refine wpAny_ite_true (decide_eq_true (by rw [c1])) ?_; wp_walk using wpAny_loadPart' hl))
    all_goals first | exact ⟨_, rfl, h⟩ | trace_state
theorem tuple_mul_zero (l : Addr) (items : Array Value) (n : Nat) (dd : Option Addr) (sl : Array (Option Value)) (u : Tok) (hi : items.isEmpty = false) :
    Meets (Builtin.«tuple.__mul__» ⟨[.ref l, .int 0 u], []⟩) (fun _ R s => s.heap.get? l = some { cls := .type "tuple", dict := dd, data := .seq items n, slots := sl } ∧
      R (.ok (.ret (Value.ref s.heap.objs.size))) { s with heap := s.heap.push { cls := Value.type "tuple", data := Data.seq #[] }, toks := s.toks }) :=
  .of_wp fun prog w A R s h => by
    obtain ⟨hp, g, d, tk, os⟩ := s
    obtain ⟨hl, h⟩ := h
    have f1 := AutoSeq1.idx_int
    have c0 : (decide ((0 : Int) < -(2 ^ 63)) || decide ((0 : Int) ≥ 2 ^ 63)) = false := by decide
    have c1 : (items.isEmpty || (0 : Int) == 1) = false := by rw [hi]; rfl
    have c2 : (decide ((0 : Int) ≤ 0) || items.isEmpty) = true := by simp
    wp_walk using wpAny_loadPart' hl
    repeat (first
      | (refine wpAny_ite_false (decide_eq_false (by rw [c0]; exact Bool.false_ne_true)) ?_; wp_walk using wpAny_loadPart' hl)
      | (refine wpAny_ite_false (decide_eq_false (by rw [c1]; exact Bool.false_ne_true)) ?_; wp_walk using wpAny_loadPart' hl)
      | (refine wpAny_ite_true (decide_eq_true (by rw [c2])) ?_; wp_walk using wpAny_loadPart' hl))
    all_goals first | exact ⟨_, rfl, h⟩ | trace_state
def rRepT2 (K : PySem.W.Frag) : R2 := fun x y H Q => ∃ l k xs, x = .ref l ∧ y = .int k ∧ SqT K H l xs ∧ xs ≠ [] ∧ 0 ≤ k ∧ k ≤ 1000 ∧ xs.length ≤ 1000 ∧ (k = 1 → Q (.ref l) H) ∧ (k ≠ 1 → ∀ p, H p = none → Q (.ref p) (upd H p (.tup (List.replicate k.toNat xs).flatten)))
section
variable {X : Cx}
theorem op_repU : OpR X (binaryOp .Mult) (rRepT2 X.K) := by
  intro pins s σ H x y v u Q I rx ry h
  obtain ⟨l, k, xs, rfl, rfl, hT, hne, h1, h2, hz, q1, q2⟩ := h
  by_cases hk2 : 2 ≤ k
  · exact op_repT pins s σ H _ _ v u Q I rx ry ⟨l, k, xs, rfl, rfl, hT, hne, hk2, h2, hz, q2 (by omega)⟩
  cases rx
  obtain ⟨t, rfl⟩ := ry
  obtain ⟨its, r, ⟨⟨cls, dd, data, sl⟩, ho, hc, n, hd⟩, hs⟩ := I.tuple hT
  simp only at hc hd
  subst hc hd
  have hle : its.length = xs.length := r.length.symm
  have hn : its ≠ [] := fun e => hne (by
    rw [e] at hle
    exact List.eq_nil_of_length_eq_zero hle.symm)
  have hi : its.toArray.isEmpty = false := by
    cases its with
    | nil => exact absurd rfl hn
    | cons a b => rfl
  have go : ∀ {S : PySem.Spec}, Meets (Builtin.«tuple.__mul__» ⟨[.ref l, .int k t], []⟩) S → S X.A (wants (EP X pins σ Q) X.xe) s → wpAny (model X.prog X.w) X.A (binaryOp .Mult (.ref l) (.int k t)) (EP X pins σ Q) X.xe s := fun {S} m hS =>
    wpAny_binaryOp_repeat_ref (T := "tuple") (U := "int") (by decide) ⟨_, ho, rfl⟩ (fun s' => typeIs_int s' k t) noFill_tuple_mul F.fills_int_mul F.slot_int_rmul repeat_tuple F.slot_int_index.lookup
      (call_meets F.slot_int_rmul (typeIs_int s k t) F.entry_int_rmul (F.args_int_rmul_2 _ _) (int_rmul_tuple k t l its.toArray n dd sl)
        ⟨ho, rfl, ⟨_, ho, rfl⟩, call_meets F.slot_tuple_mul ⟨_, ho, rfl⟩ F.entry_tuple_mul (F.args_tuple_mul_2 _ _) m hS⟩)
  by_cases hk1 : k = 1
  · subst hk1
    exact go (tuple_mul_one l its.toArray n dd sl t) ⟨ho, .ref l, H, I, rfl, q1 rfl⟩
  · have hk0 : k = 0 := by omega
    subst hk0
    refine go (tuple_mul_zero l its.toArray n dd sl t hi) ⟨ho, .ref s.heap.objs.size, _, I.laid (t' := s.toks) (o := .tup []) (fun b ob q => Heap.get?_push_of_some _ q) (Nat.le_refl _) ?_, rfl, ?_⟩
    · exact ⟨Nat.zero_le _, [], .nil, IsTup.new _ _⟩
    · exact q2 (by decide) _ (I.hok.fresh (Nat.le_refl _))
end
end GX
set_option Elab.async false
set_option linter.all false
set_option maxRecDepth 100000
set_option maxHeartbeats 2000000
/-! casts of K for objects; methods kept -/
namespace GX
open PySem PySem.Spec PyProof.Rows L2
section
variable {X : Cx} {K : PySem.W.Frag} {e tg : Expr} {st : Stmt}
theorem fldK {ta : TE} {f : Str} (h : X.K = K) (p : PE X e (tFld X.K ta f)) : PE X e (tFld K ta f) := by
  subst h; exact p
theorem sFldK {ta tv : TE} {f : Str} (h : X.K = K) (p : PS X st (sFld X.K ta tv f)) : PS X st (sFld K ta tv f) := by
  subst h; exact p
theorem sFldAugK {ta tv : TE} {rd : V → V → Hp → VK → Prop} {f : Str} (h : X.K = K) (p : PS X st (sFldAug X.K ta tv rd f)) : PS X st (sFldAug K ta tv rd f) := by
  subst h; exact p
theorem bmK {T : String} {r : V → List V → Hp → VK → Prop} {to : TE} {t : TA} (h : X.K = K) (p : PE X e (tBM X.K T r to t)) : PE X e (tBM K T r to t) := by
  subst h; exact p
theorem ilK {tl : TE} {it : Expr} (h : X.K = K) (p : PI X tg it (iList X.K tl)) : PI X tg it (iList K tl) := by
  subst h; exact p
theorem itK {tl : TE} {it : Expr} (h : X.K = K) (p : PI X tg it (iTup X.K tl)) : PI X tg it (iTup K tl) := by
  subst h; exact p
theorem enumK {ta : TA} {it : Expr} (h : X.K = K) (p : PI X tg it (iEnum X.K ta)) : PI X tg it (iEnum K ta) := by
  subst h; exact p
theorem revK {te : TE} (h : X.K = K) (p : PE X e (tRevL X.K te)) : PE X e (tRevL K te) := by
  subst h; exact p
theorem tupGK {n : Nat} {t : TGs} (h : X.K = K) (p : PG X tg (gTup X.K n t)) : PG X tg (gTup K n t) := by
  subst h; exact p
end
theorem roomD {k : Nat} {A : Around} (hr : Room k A) : A.units + 1 < cLine := by have := hr.un; omega
/-- an own error without an __init__, by name -/
structure PlainX (K : PySem.W.Frag) (mg : Str → Option Value) (x : Str) (C : Addr) : Prop where
  q : PySem.W.excIn K C He.veBase "ValueError.__new__" = true
  gm : mg x = some (.ref C)
  kp : PySem.W.keepIn K (.ref C) = true
  be : PySem.W.subIn K (.ref C) (.type "BaseException") = some true
  ty : PySem.W.typeIn K (.ref C) = some (.type "type")
theorem pmk_plain {X : Cx} {x m : Str} {C : Addr} {j : Nat} {p p2 pos : Pos} (c : PlainX X.K X.mg x C) (hg : Gl X x := by rfl) (hdb : (x == ("__debug__" : Str)) = false := by decide) : PMk X (.Call (.Name x p) [.Constant (.str m) j p2] [] pos) (fun _ H Q => Q (.ref C) none H) :=
  pmk_own PySem.F.excBase_ValueError c.q c.gm c.kp (raises_own c.be c.ty) hg hdb
/-- a method as it stands -/
structure MDef (K : PySem.W.Frag) (m qual : Str) (st : Stmt) (dvs : List V) (f : Addr) (fd : FuncData) (c : Addr) : Prop where
  F : FunD K m qual (defArgs st) (defBody st) (defScope st) dvs [] f fd
  hc : fd.code = .ref c
section
variable {P : Program} {w : World} {K : PySem.W.Frag} {mg : Str → Option Value} {base : Heap} {m qual : Str} {st : Stmt} {dvs : List V} {f c C : Addr} {fd : FuncData} {N ps : List Str} {k : Nat} {sp : Sp}
theorem MDef.okF (D : MDef K m qual st dvs f fd c) (S : FnScope N ps (defScope st)) (len : ∀ vs H Q E, sp vs H Q E → vs.length = ps.length)
    (hbody : ∀ (A : Around) (outer : List Env) (s : Shared) (H : Hp) (vs : List V) (Q : VK) (E : XK), Room k (A.deeper (envOfC qual (defScope st) s.heap.objs.size f (.ref c))) → sp vs H Q E →
      ∃ t, PSs (cxOf (L2.CX P w) P w K mg base N qual (defScope st) f (.ref c) A outer s H E) (defBody st) t ∧ t { nx := fun _ H' => Q .non H', rt := Q } (start N vs) H) :
    FnOk P w K mg base (L2.CX P w) (k + 1) f fd ps sp := by
  obtain ⟨⟨⟨oc, od, dV, kV, doc, pm, an, cdv, ct, osl, rfl, lk, hcd, hD, hK⟩, kp⟩, hc⟩ := D
  have hc' : cdv = .ref c := hc
  subst hc'
  exact fn_of lk hcd S len fun A outer s H vs Q E hr hsp => hbody A outer s H vs Q E hr hsp
theorem MDef.bind0 (D : MDef K m qual st [] f fd c)
    (bd : ∀ (kV doc pm : Value) (an : Option Addr) (cdv ct : Value) (us : List Value), us.length = ps.length → bindArgs (PySem.W.fnOf m qual (defArgs st) (defBody st) (defScope st) .none kV doc pm an cdv ct) ⟨us, []⟩ = pure (ps.zip us)) : ∃ ds, Vals ([] : List V) ds ∧ Binds K fd ps ds :=
  ⟨[], .nil, D.F.bindsN bd⟩
theorem met_of (cl : Cls K C) (hm : Meth K C m f) (F : FnOk P w K mg base (L2.CX P w) k f fd ps sp) (hb : ∃ ds, Vals dvs ds ∧ Binds K fd ps ds) : Met P w K mg base k C m dvs sp := by
  obtain ⟨ds, h1, h2⟩ := hb
  exact ⟨cl, f, fd, ps, ds, hm, F, h2, h1⟩
theorem mak_of {x : Str} (gm : mg x = some (.ref C)) (M : Mk K C f) (F : FnOk P w K mg base (L2.CX P w) k f fd ps sp) (hb : ∃ ds, Vals dvs ds ∧ Binds K fd ps ds) : Mak P w K mg base k x C dvs sp := by
  obtain ⟨ds, h1, h2⟩ := hb
  exact ⟨gm, f, fd, ps, ds, M, F, h2, h1⟩
end
theorem mk_ex {α : Type _} {p q : α → Prop} {t : α} (h1 : p t) (h2 : q t) : ∃ t, p t ∧ q t := ⟨t, h1, h2⟩
def rIsubU : R2 := fun x y H Q => match x, y with
  | .int i, .int j => Q (.int (i - j)) H
  | _, _ => False
theorem opU_isub {X : Cx} : OpR X (inplaceOp .Sub) rIsubU := OpR.imp iop_sub (by
  intro x y H Q h
  unfold rIsubU at h
  split at h
  · exact ⟨_, _, rfl, rfl, h⟩
  · exact h.elim)
section
variable {K : PySem.W.Frag} {H : Hp} {Q : VK} {i j : Int} {a b : Str} {p q : Addr} {xs ys : List V}
theorem iaddU_int : rIaddU K (.int i) (.int j) H Q = Q (.int (i + j)) H := rfl
theorem isubU_int : rIsubU (.int i) (.int j) H Q = Q (.int (i - j)) H := rfl
theorem iaddU_str : rIaddU K (.str a) (.str b) H Q = (a.length + b.length ≤ sizeLine ∧ Q (.str (a ++ b)) H) := rfl
/-- two tuples, none of them empty -/
theorem addU_tup (hp : SqT K H p xs) (hq : SqT K H q ys) (hx : xs ≠ []) (hy : ys ≠ []) (hz : xs.length + ys.length ≤ sizeLine) (h : ∀ r, H r = none → Q (.ref r) (upd H r (.tup (xs ++ ys)))) : rAddU K (.ref p) (.ref q) H Q :=
  .inl ⟨p, q, xs, ys, rfl, rfl, hp, hq, hx, hz, fun z => absurd z hy, fun _ => h⟩
theorem iaddU_tup (hp : SqT K H p xs) (hq : SqT K H q ys) (hx : xs ≠ []) (hy : ys ≠ []) (hz : xs.length + ys.length ≤ sizeLine) (h : ∀ r, H r = none → Q (.ref r) (upd H r (.tup (xs ++ ys)))) : rIaddU K (.ref p) (.ref q) H Q :=
  .inl ⟨p, q, xs, ys, rfl, rfl, hp, hq, hx, hz, fun z => absurd z hy, fun _ => h⟩
end
def rMulV (K : PySem.W.Frag) : R2 := fun x y H Q => match x, y with
  | .int i, .int j => CMul i j ∧ Q (.int (i * j)) H
  | .ref _, .int _ => rRep x y H Q ∨ rRepT2 K x y H Q
  | _, _ => False
theorem opV_mul {X : Cx} : OpR X (binaryOp .Mult) (rMulV X.K) := OpR.imp (OpR.or op_mul (OpR.or op_rep op_repU)) (by
  intro x y H Q h
  unfold rMulV at h
  split at h
  · exact .inl ⟨_, _, rfl, rfl, h⟩
  · exact .inr h
  · exact h.elim)
theorem mulV_int {K : PySem.W.Frag} {H : Hp} {Q : VK} {i j : Int} : rMulV K (.int i) (.int j) H Q = (CMul i j ∧ Q (.int (i * j)) H) := rfl
theorem mulV_tup {K : PySem.W.Frag} {H : Hp} {Q : VK} {p : Addr} {xs : List V} {k : Int} (h : SqT K H p xs) (hx : xs ≠ []) (h0 : 0 ≤ k) (h1 : k ≠ 1) (h2 : k ≤ 1000) (hz : xs.length ≤ 1000) (q : ∀ r, H r = none → Q (.ref r) (upd H r (.tup (List.replicate k.toNat xs).flatten))) : rMulV K (.ref p) (.int k) H Q :=
  .inr ⟨p, k, xs, rfl, rfl, h, hx, h0, h2, hz, fun z => absurd z h1, fun _ => q⟩
theorem mulV_one {K : PySem.W.Frag} {H : Hp} {Q : VK} {p : Addr} {xs : List V} (h : SqT K H p xs) (hx : xs ≠ []) (hz : xs.length ≤ 1000) (q : Q (.ref p) H) : rMulV K (.ref p) (.int 1) H Q :=
  .inr ⟨p, 1, xs, rfl, rfl, h, hx, by decide, by decide, hz, fun _ => q, fun z => absurd rfl z⟩
end GX
set_option Elab.async false
set_option linter.all false
set_option maxRecDepth 100000
set_option maxHeartbeats 2000000
/-! enumerate(tuple); loops over enumerate -/
open PySem PySem.Sem
namespace GX
theorem draws_tup {prog : Program} {w : World} {A : Around} (hh : A.handled = none) (it l : Addr) (hne : l ≠ it) (items : Array Value) :
    Draws prog w A it [it, l] items.size (fun i v => items[i]? = some v) (fun i h => h.IsTupleIter it l i ∧ h.IsTuple l items) where
  live := fun _ _ st => let ⟨o, ho, _⟩ := st.1; ⟨o, ho⟩
  frame := fun _ _ _ st hk => ⟨st.1.at fun o e => hk it (by simp) o e, let ⟨o, ho, r⟩ := st.2; ⟨o, hk l (by simp) o ho, r⟩⟩
  item := fun i s Q E hi st hQ => by
    refine RZ.nextOf_tuple_item st.1 st.2 (x := items[i]) (by simp [hi]) fun h' hit' hs' => ?_
    exact hQ _ h' s.toks (by simp [hi]) ⟨hit', st.2.extBut hs'.extBut hne⟩ hs'
  done := fun s Q E st hE => RZ.nextOf_tuple_end hh st.1 st.2 (by simp) hE
/-- the same, at its end: nothing more is drawn -/
theorem draws_endT {prog : Program} {w : World} {A : Around} (hh : A.handled = none) (it l : Addr) (hne : l ≠ it) (items : Array Value) (n : Nat) (hn : items.size ≤ n) :
    Draws prog w A it [it, l] n (fun i v => items[i]? = some v) (fun i h => h.IsTupleIter it l i ∧ h.IsTuple l items ∧ n ≤ i) where
  live := fun _ _ st => let ⟨o, ho, _⟩ := st.1; ⟨o, ho⟩
  frame := fun _ _ _ st hk => ⟨st.1.at fun o e => hk it (by simp) o e, let ⟨o, ho, r⟩ := st.2.1; ⟨o, hk l (by simp) o ho, r⟩, st.2.2⟩
  item := fun i s Q E hi st hQ => absurd st.2.2 (by omega)
  done := fun s Q E st hE => RZ.nextOf_tuple_end hh st.1 st.2.1 (by simpa using hn) hE
theorem meets_enumerate_newT (l : Addr) (items : Array Value) (n : Nat) (dct : Option Addr) (sl : Array (Option Value)) :
    Meets (Builtin.«enumerate.__new__» ⟨[.type "enumerate", .ref l], []⟩) (fun _ R s => s.heap.get? l = some { cls := .type "tuple", dict := dct, data := .seq items n, slots := sl } ∧
      R (.ok (.ret (.ref (s.heap.push { cls := .type "tuple_iterator", data := .fields #[.ref l, .int 0 0] }).objs.size)))
        { s with heap := (s.heap.push { cls := .type "tuple_iterator", data := .fields #[.ref l, .int 0 0] }).push { cls := .type "enumerate", data := .fields #[.none, .bool false, .ref s.heap.objs.size, rawInt 0, .none, .none] } }) :=
  .of_wp fun prog w A R s h => by
    obtain ⟨hp, g, d, tk, os⟩ := s; obtain ⟨hl, h⟩ := h
    have hsub := sub_enumerate
    have hL : Heap.IsTuple (Shared.heap ⟨hp, g, d, tk, os⟩) l items := ⟨_, hl, rfl, n, rfl⟩
    wp_walk using AutoSeq1.wpAny_loadPart' hl
    refine wpAny_stack_any fun st => wpAny_pure ?_
    split
    · rename_i c _ _ _ _ _
      cases (c == Value.type "enumerate")
      · wp_walk using AutoSeq1.wpAny_loadPart' hl, wpAny_pyIter_tuple hL
        exact ⟨_, rfl, h⟩
      · wp_walk using AutoSeq1.wpAny_loadPart' hl, wpAny_pyIter_tuple hL
        exact ⟨_, rfl, h⟩
    · wp_walk using AutoSeq1.wpAny_loadPart' hl, wpAny_pyIter_tuple hL
      exact ⟨_, rfl, h⟩
section
variable {prog : Program} {w : World} {A : Around} {E : Value → Shared → Prop} {s : Shared}
theorem call_enumerate_tup {l : Addr} {items : Array Value} {Q : Value → Shared → Prop} (hL : s.heap.IsTuple l items)
    (h : ∀ h', IsEnum h' (s.heap.objs.size + 1) s.heap.objs.size 0 .none → h'.IsTupleIter s.heap.objs.size l 0 → h'.objs.size = s.heap.objs.size + 2 →
      (∀ b o, s.heap.get? b = some o → h'.get? b = some o) → Q (.ref (s.heap.objs.size + 1)) { s with heap := h' }) :
    wpAny (model prog w) A (call (.type "enumerate") [.ref l]) Q E s := by
  obtain ⟨⟨c, dct, dt, sl⟩, hl, hc, n, hd⟩ := hL
  replace hc : c = .type "tuple" := hc
  replace hd : dt = .seq items n := hd
  subst hc hd
  refine callType_new F.called_enumerate (by decide) (F.typeCall_enumerate_1 _) (F.newCall_enumerate_1 _) (fun obj => F.args_object_init_2 obj _) F.entry_enumerate_new
    (meets_enumerate_newT l items n dct sl) ⟨hl, ?_⟩
  have hz : (s.heap.push { cls := .type "tuple_iterator", data := .fields #[.ref l, .int 0 0] }).objs.size = s.heap.objs.size + 1 := Heap.size_push ..
  show _ ∧ _
  rw [hz]
  have he : IsEnum ((s.heap.push { cls := .type "tuple_iterator", data := .fields #[.ref l, .int 0 0] }).push
      { cls := .type "enumerate", data := .fields #[.none, .bool false, .ref s.heap.objs.size, rawInt 0, .none, .none] }) (s.heap.objs.size + 1) s.heap.objs.size 0 .none := by
    have := Heap.get?_push_size (s.heap.push { cls := .type "tuple_iterator", data := .fields #[.ref l, .int 0 0] })
      (o := { cls := .type "enumerate", data := .fields #[.none, .bool false, .ref s.heap.objs.size, rawInt 0, .none, .none] }) rfl
    rw [hz] at this; exact this
  refine ⟨⟨_, he, rfl⟩, h _ he ⟨_, Heap.get?_push_of_some _ (Heap.get?_push_size _ rfl), rfl, rfl⟩ (by rw [Heap.size_push, hz]) fun b o x => Heap.get?_push_of_some _ (Heap.get?_push_of_some _ x)⟩
end
open PySem.Spec PyProof.Rows L2
/-- a tuple, its items in new pairs -/
def IteT (K : PySem.W.Frag) (a : Addr) : It :=
  ⟨fun i H => ∃ (xs : List V) (x : V), SqT K H a xs ∧ xs[i]? = some x, fun i H v H' => ∃ T x, v = .ref T ∧ H T = none ∧ H' = upd H T (.tup [.int (i : Nat), x]) ∧ ∀ xs, SqT K H a xs → xs[i]? = some x, fun i H => ∃ xs : List V, SqT K H a xs ∧ xs.length ≤ i⟩
theorem turn_enumT {P : Program} {w : World} {K : PySem.W.Frag} {elts : List Expr} {kk : Nat} {tpos : Pos} (a e it : Addr) (ha : a ≠ it) (hae : a ≠ e) :
    Turn P w K (.Tuple elts kk tpos) (IteT K a) [e, it] e (fun i h => (∃ old, IsEnum h e it ((i : Nat) : Int) old) ∧ h.IsTupleIter it a i ∧ e ≠ it) where
  mem := by simp
  obj := fun i h st b hb => by
    obtain ⟨⟨old, he⟩, ⟨o, ho, hc, hd⟩, _⟩ := st
    have e' : b = e ∨ b = it := by simpa using hb
    rcases e' with z | z
    · rw [z]; exact ⟨_, he, fun v q => nomatch q⟩
    · rw [z]; exact ⟨o, ho, fun v q => by rw [hd] at q; cases q⟩
  keep := fun i h h' st k => let ⟨⟨old, he⟩, hi, hne⟩ := st; ⟨⟨old, k e (by simp) _ he⟩, hi.at fun o q => k it (by simp) o q, hne⟩
  item := by
    intro X hP hw hK hc i pins s σ H E I hf st hg
    subst hP hw hK
    obtain ⟨⟨old, he⟩, hit, hne⟩ := st
    obtain ⟨xs, x, hq, hx⟩ := hg
    obtain ⟨its, rv, p, hz⟩ := I.tuple hq
    obtain ⟨u, hu, ru⟩ := rv.get hx
    have hel : e < s.heap.objs.size := Heap.lt_size he
    have hil : it < s.heap.objs.size := by obtain ⟨_, q, _⟩ := hit; exact Heap.lt_size q
    have hlt : i < its.toArray.size := by
      rcases Nat.lt_or_ge i its.length with z | z
      · simpa using z
      · rw [List.getElem?_eq_none z] at hu; cases hu
    refine wpAny_pyNext_enum_itemD (draws_tup (A := X.A.in1) (I.ok.hd hc) it a ha its.toArray) he ⟨hit, p⟩ hlt hne (by simp [hne, Ne.symm hae]) fun y h' tk hP ho hit' hT hsz hk => ?_
    have hy : y = u := by
      have e1 : its.toArray[i]? = some y := hP
      have e2 : its.toArray[i]? = some u := by simpa using hu
      rw [e1] at e2; exact Option.some.inj e2
    subst hy
    refine ⟨_, rfl, wpAny_letOwnedTupleGo_enum (s := { s with heap := h', toks := tk + 1 }) ho fun h'' he' sb => ?_⟩
    have hT2 : h''.get? s.heap.objs.size = some { cls := .type "tuple", data := .seq #[.int i tk, y] } := (sb.2 _ (Nat.ne_of_gt hel)).trans hT
    have new : ObjOk X.prog X.w (upd H s.heap.objs.size (.tup [.int (i : Nat), x])) h'' s.heap.objs.size (.tup [.int (i : Nat), x]) :=
      ⟨by show 2 ≤ sizeLine; decide, [.int i tk, y], .cons ⟨_, rfl⟩ (.cons ru .nil), ⟨_, hT2, rfl, _, rfl⟩⟩
    have I1 : Inv X pins σ (upd H s.heap.objs.size (.tup [.int (i : Nat), x])) { s with heap := h'', toks := tk + 1 } :=
      I.turnedNew (ch := [e, it]) (fun b ob hb q => (sb.2 b (fun z => hb (by simp [z]))).trans (hk b ob (fun z => hb (by simp [z])) (fun z => hb (by simp [z])) q)) hf (Nat.le_refl _) new
    refine ⟨.ref s.heap.objs.size, _, I1, rfl, ⟨_, x, rfl, I.hok.fresh (Nat.le_refl _), rfl, fun ys hy => by rw [I.tuple_inj hy hq]; exact hx⟩, ⟨⟨y, ?_⟩, hit'.1.at fun o q => (sb.2 it (Ne.symm hne)).trans q, hne⟩, fun b hb => ?_⟩
    · have e1 : ((i + 1 : Nat) : Int) = (i : Int) + 1 := by omega
      rw [e1]; exact he'
    · have hb' : b < s.heap.objs.size := by
        have e' : b = e ∨ b = it := by simpa using hb
        rcases e' with z | z
        · rw [z]; exact hel
        · rw [z]; exact hil
      rw [upd_ne (Nat.ne_of_lt hb')]
      exact (hf b hb).1
  done := by
    intro X hP hw hK hc i pins s σ H E I hf st hg
    subst hP hw hK
    obtain ⟨⟨old, he⟩, hit, hne⟩ := st
    obtain ⟨xs, hq, hx⟩ := hg
    obtain ⟨its, rv, p, hz⟩ := I.tuple hq
    obtain ⟨f0, f1, f2, f3, f4, f5⟩ := hf it (by simp)
    have hl := rv.length
    refine wpAny_pyNext_enum_endD (draws_endT (A := X.A.in1) (I.ok.hd hc) it a ha its.toArray i (by simp; omega)) he ⟨hit, p, Nat.le_refl _⟩ fun h' eb => ⟨rfl, I.turned (t' := s.toks) (fun b o hb q => eb b o hb q) f0 f1 f3 f4 f5⟩
  self := fun A i s Q E st h => let ⟨⟨_, he⟩, _⟩ := st; wpAny_pyIter_enum he h
def iEnumT (K : PySem.W.Frag) (ta : TA) : TI := fun σ H R => ta σ H fun vs H1 => ∃ a xs, vs = [.ref a] ∧ SqT K H1 a xs ∧ R (IteT K a) H1
theorem pi_enumT {X : Cx} {e : Expr} {ta : TA} {p pos tpos : Pos} {elts : List Expr} {kk : Nat} (hg : Gl X "enumerate") (hm : X.mg "enumerate" = none) (ha : PA X [e] ta) (hs : starEach [e] X.env = [(false, eval e X.env)] := by rfl) :
    PI X (.Tuple elts kk tpos) (.Call (.Name "enumerate" p) [e] [] pos) (iEnumT X.K ta) := by
  refine ⟨fun pins s σ H R I h => ?_⟩
  refine Call_ (ld_blt I hg hm boot_enumerate (PyProof.Rows.callWith_type1 (thn (ha.run pos pins s σ H _ I h) fun us s1 ⟨vs, H1, I1, r1, q1⟩ => ?_) hs rfl))
  obtain ⟨a, xs, ex, hq, q⟩ := q1
  subst ex
  cases r1 with
  | cons r rr =>
    cases rr
    cases r
    obtain ⟨its, rv, p', hz⟩ := I1.tuple hq
    have hlt : a < s1.heap.objs.size := by obtain ⟨o, q, _⟩ := p'; exact Heap.lt_size q
    refine call_enumerate_tup (show s1.heap.IsTuple a its.toArray from p') fun h' he hit hsz hk => wpAny_pyIter_enum he ?_
    have I2 : Inv X pins σ H1 { s1 with heap := h' } := I1.kept (t' := s1.toks) hk
    refine ⟨s1.heap.objs.size + 1, [s1.heap.objs.size + 1, s1.heap.objs.size], _, _, H1, rfl, I2, turn_enumT a (s1.heap.objs.size + 1) s1.heap.objs.size (Nat.ne_of_lt hlt) (Nat.ne_of_lt (Nat.lt_succ_of_lt hlt)), ⟨⟨.none, he⟩, hit, Nat.succ_ne_self _⟩, fun b hb => ?_, q⟩
    have e' : b = s1.heap.objs.size + 1 ∨ b = s1.heap.objs.size := by simpa using hb
    have hle : s1.heap.objs.size ≤ b := by
      rcases e' with z | z
      · rw [z]; exact Nat.le_add_right _ _
      · rw [z]; exact Nat.le_refl _
    exact I1.fpOk hle (I1.hok.fresh hle)
theorem enumTK {X : Cx} {K : PySem.W.Frag} {tg it : Expr} {ta : TA} (h : X.K = K) (p : PI X tg it (iEnumT X.K ta)) : PI X tg it (iEnumT K ta) := by
  subst h; exact p
theorem walk_enumT {K : PySem.W.Frag} {a : Addr} {xs : List V} : Walk (IteT K a) xs.length (fun H => SqT K H a xs) (YPair (fun i => some (.int (i : Nat))) (fun i => xs[i]?)) := by
  refine ⟨fun i _ hi q => ⟨xs, xs[i], q, by simp [hi]⟩, fun _ q => ⟨xs, q, Nat.le_refl _⟩, fun i H v H' _ q y => ?_⟩
  obtain ⟨T, x, h1, h2, h3, h4⟩ := y
  exact ⟨T, .int (i : Nat), x, h1, h2, h3, rfl, h4 xs q⟩
section
variable {K : PySem.W.Frag} {a : Addr} {xs : List V} {g : TG} {tb : TS} {D : Ends} {σ : L2.St} {H : Hp}
theorem loop_enum (Pv : Nat → L2.St → Hp → Prop) (h0 : Pv 0 σ H) (hl : ∀ i σ H, i ≤ xs.length → Pv i σ H → SqL K H a xs)
    (hs : ∀ i x σ H T, xs[i]? = some x → Pv i σ H → H T = none → g (.ref T) σ (upd H T (.tup [.int (i : Nat), x])) fun σ2 H2 => tb { D with nx := Pv (i + 1), ct := Pv (i + 1), bk := D.nx } σ2 H2) (hd : ∀ σ H, Pv xs.length σ H → D.nx σ H) : Loop g tb D (Ite K a) σ H :=
  for_it walk_enum Pv h0 hl (fun i x σ H H' hi p y => by
    obtain ⟨T, x1, x2, rfl, h2, rfl, h4, h5⟩ := y
    cases h4
    exact hs i x2 σ H T h5 p h2) hd
theorem loop_enumT (Pv : Nat → L2.St → Hp → Prop) (h0 : Pv 0 σ H) (hl : ∀ i σ H, i ≤ xs.length → Pv i σ H → SqT K H a xs)
    (hs : ∀ i x σ H T, xs[i]? = some x → Pv i σ H → H T = none → g (.ref T) σ (upd H T (.tup [.int (i : Nat), x])) fun σ2 H2 => tb { D with nx := Pv (i + 1), ct := Pv (i + 1), bk := D.nx } σ2 H2) (hd : ∀ σ H, Pv xs.length σ H → D.nx σ H) : Loop g tb D (IteT K a) σ H :=
  for_it walk_enumT Pv h0 hl (fun i x σ H H' hi p y => by
    obtain ⟨T, x1, x2, rfl, h2, rfl, h4, h5⟩ := y
    cases h4
    exact hs i x2 σ H T h5 p h2) hd
theorem lcl_enumT {tt : TT} {te : TE} {vs : List Nat} {H1 : Hp} {D : Addr} {Qd : Hp → Prop} (Pv : Nat → Hp → Prop) (h0 : Pv 0 (upd H1 D (.lst []))) (hl : ∀ i H, i ≤ xs.length → Pv i H → SqT K H a xs)
    (hs : ∀ i x H T, xs[i]? = some x → Pv i H → H T = none → g (.ref T) (wipe σ vs) (upd H T (.tup [.int (i : Nat), x])) fun σ2 H2 => wipe σ2 vs = wipe σ vs ∧ tt σ2 H2 fun b H3 =>
      if b = true then te σ2 H3 fun y H4 => ∃ acc, H4 D = some (.lst acc) ∧ acc.length < sizeLine ∧ Pv (i + 1) (upd H4 D (.lst (acc ++ [y]))) else Pv (i + 1) H3) (hd : ∀ H, Pv xs.length H → Qd H) : LcLoop g tt te vs (IteT K a) σ H1 D Qd :=
  lc_it walk_enumT Pv h0 hl (fun i x H H' hi p y => by
    obtain ⟨T, x1, x2, rfl, h2, rfl, h4, h5⟩ := y
    cases h4
    exact hs i x2 H T h5 p h2) hd
end
end GX
/-! ### tuples: added, cut, repeated, of any length -/
namespace GX
open PySem.Spec PyProof.Rows L2
def rAddA (K : PySem.W.Frag) : R2 := fun x y H Q => match x, y with
  | .int i, .int j => Q (.int (i + j)) H
  | .str a, .str b => a.length + b.length ≤ sizeLine ∧ Q (.str (a ++ b)) H
  | .ref _, .ref _ => rCatA K x y H Q ∨ rCat x y H Q
  | _, _ => False
theorem opA_add {X : Cx} : OpR X (binaryOp .Add) (rAddA X.K) := by
  refine OpR.imp (OpR.or (opU_add (X := X)) op_catA) ?_
  intro x y H Q h
  unfold rAddA at h
  split at h
  · exact .inl h
  · exact .inl h
  · rcases h with h | h
    · exact .inr h
    · exact .inl (.inr h)
  · exact h.elim
section
variable {K : PySem.W.Frag} {H : Hp} {Q : VK} {i j : Int} {a b : Str} {p q : Addr} {xs ys : List V} {TL : List (Addr × Str)} {GT : List Addr}
theorem addA_int : rAddA K (.int i) (.int j) H Q = Q (.int (i + j)) H := rfl
theorem addA_str : rAddA K (.str a) (.str b) H Q = (a.length + b.length ≤ sizeLine ∧ Q (.str (a ++ b)) H) := rfl
theorem addA_tup (hp : SqT K H p xs) (hq : SqT K H q ys) (hz : xs.length + ys.length ≤ sizeLine) (h : ∀ r H', Ex [] TL GT H H' → SqT K H' r (xs ++ ys) → Q (.ref r) H') : rAddA K (.ref p) (.ref q) H Q := by
  refine .inl ⟨p, q, xs, ys, rfl, rfl, hp, hq, hz, fun e => ?_, fun _ e => ?_, fun _ _ r hr => ?_⟩
  · subst e; exact h q H Ex.refl (by simpa using hq)
  · subst e; exact h p H Ex.refl (by simpa using hp)
  · exact h r _ (Ex.new hr) (.inl (.inl upd_same))
theorem slA_tup {lo hi : Option Int} (hp : SqT K H p xs) (h : ∀ r H', Ex [] TL GT H H' → SqT K H' r (cutV xs lo hi) → Q (.ref r) H') : rSlA K (.ref p) lo hi H Q := by
  refine ⟨p, xs, rfl, hp, fun e => ?_, fun _ r hr => h r _ (Ex.new hr) (.inl (.inl upd_same))⟩
  refine h p H Ex.refl ?_
  have e1 : cutV xs lo hi = xs := by unfold cutV; rw [e.1, e.2]; simp
  rw [e1]; exact hp
theorem mulV_any {k : Int} (hp : SqT K H p xs) (hx : xs ≠ []) (h0 : 0 ≤ k) (h2 : k ≤ 1000) (hz : xs.length ≤ 1000) (h : ∀ r H', Ex [] TL GT H H' → SqT K H' r (List.replicate k.toNat xs).flatten → Q (.ref r) H') : rMulV K (.ref p) (.int k) H Q := by
  by_cases h1 : k = 1
  · subst h1
    exact mulV_one hp hx hz (h p H Ex.refl (by simpa using hp))
  · exact mulV_tup hp hx h0 h1 h2 hz fun r hr => h r _ (Ex.new hr) (.inl (.inl upd_same))
theorem cutV_to {xs : List V} (n : Nat) (h : n ≤ xs.length) : cutV xs none (some (n : Int)) = xs.take n := by
  unfold cutV
  rw [HT.sIx_none, HT.sIx_nat, Nat.min_eq_left h, List.drop_zero, Nat.sub_zero]
theorem cutV_from {xs : List V} (n : Nat) (h : n ≤ xs.length) : cutV xs (some (n : Int)) none = xs.drop n := by
  unfold cutV
  rw [HT.sIx_none, HT.sIx_nat, Nat.min_eq_left h, List.take_of_length_le (by rw [List.length_drop]; exact Nat.le_refl _)]
theorem cutV_mid {xs : List V} (n m : Nat) (h : n ≤ m) (hm : m ≤ xs.length) : cutV xs (some (n : Int)) (some (m : Int)) = (xs.drop n).take (m - n) := by
  unfold cutV
  rw [HT.sIx_nat, HT.sIx_nat, Nat.min_eq_left hm, Nat.min_eq_left (Nat.le_trans h hm)]
end
end GX
set_option Elab.async false
set_option linter.all false
set_option maxRecDepth 100000
set_option maxHeartbeats 2000000
/-! == and != of tuples of ints, of lists of pairs -/
namespace GX
open PySem PySem.Spec PyProof.Rows L2
theorem canLay_ints : ∀ ns : List Int, PyData.canLayAll0 (ns.map PyData.int) = true
  | [] => rfl
  | _ :: ns => by
    show (PyData.canLay0 (.int _) && PyData.canLayAll0 (ns.map PyData.int)) = true
    rw [canLay_ints ns]; rfl
theorem depth_ints : ∀ ns : List Int, PyData.depthAll (ns.map PyData.int) = 0
  | [] => rfl
  | _ :: ns => by
    show max 0 (PyData.depthAll (ns.map PyData.int)) = 0
    rw [depth_ints ns]; rfl
theorem shaped_tupI (ns : List Int) : SeqAt.shaped (.tuple (ns.map PyData.int)) = true := by
  unfold SeqAt.shaped
  rw [show PyData.canLay0 (.tuple (ns.map PyData.int)) = true from canLay_ints ns, show PyData.depth (.tuple (ns.map PyData.int)) = 0 + 1 by show PyData.depthAll _ + 1 = _; rw [depth_ints]]
  rfl
theorem eqvAll_ints : ∀ ns ms : List Int, PyData.eqvAll (ns.map PyData.int) (ms.map PyData.int) = decide (ns = ms)
  | [], [] => rfl
  | [], _ :: _ => rfl
  | _ :: _, [] => rfl
  | n :: ns, m :: ms => by
    show ((n == m) && PyData.eqvAll (ns.map PyData.int) (ms.map PyData.int)) = _
    rw [eqvAll_ints ns ms]
    by_cases h : n = m
    · subst h; by_cases h2 : ns = ms <;> simp [h2]
    · simp [h]
section
variable {K : PySem.W.Frag} {H : Hp} {p q : Addr} {Q : VK} {ns ms : List Int}
theorem dp_ints : ∀ ns : List Int, DpAll K H (ns.map V.int) (ns.map PyData.int)
  | [] => .nil
  | n :: ns => .cons (.int n) (dp_ints ns)
theorem ne_tups (hp : SqT K H p (ns.map V.int)) (hq : SqT K H q (ms.map V.int)) (h : Q (.bl (!decide (ns = ms))) H) : rNeU K (.ref p) (.ref q) H Q := by
  refine ⟨.tuple (ns.map .int), .tuple (ms.map .int), .tup hp (dp_ints ns), .tup hq (dp_ints ms), shaped_tupI ns, shaped_tupI ms, ?_⟩
  rw [show PyData.eqv (.tuple (ns.map PyData.int)) (.tuple (ms.map PyData.int)) = PyData.eqvAll (ns.map PyData.int) (ms.map PyData.int) from rfl, eqvAll_ints]
  exact h
theorem eq_tups (hp : SqT K H p (ns.map V.int)) (hq : SqT K H q (ms.map V.int)) (h : Q (.bl (decide (ns = ms))) H) : rEqU K (.ref p) (.ref q) H Q := by
  refine ⟨.tuple (ns.map .int), .tuple (ms.map .int), .tup hp (dp_ints ns), .tup hq (dp_ints ms), shaped_tupI ns, shaped_tupI ms, ?_⟩
  rw [show PyData.eqv (.tuple (ns.map PyData.int)) (.tuple (ms.map PyData.int)) = PyData.eqvAll (ns.map PyData.int) (ms.map PyData.int) from rfl, eqvAll_ints]
  exact h
end
/-! rows: a list of (int, tuple of ints) -/
def rowD (b : Int × List Int) : PyData := .tuple [.int b.1, .tuple (b.2.map .int)]
theorem canLay_rows : ∀ l : List (Int × List Int), PyData.canLayAll0 (l.map rowD) = true
  | [] => rfl
  | b :: l => by
    show (PyData.canLay0 (rowD b) && PyData.canLayAll0 (l.map rowD)) = true
    rw [canLay_rows l]
    show ((true && (PyData.canLayAll0 (b.2.map .int) && true)) && true) = true
    rw [canLay_ints]; rfl
theorem depth_rows : ∀ l : List (Int × List Int), PyData.depthAll (l.map rowD) ≤ 2
  | [] => by decide
  | b :: l => by
    show max (PyData.depth (rowD b)) (PyData.depthAll (l.map rowD)) ≤ 2
    have h := depth_rows l
    have e : PyData.depth (rowD b) = 2 := by
      show max 0 (max (PyData.depthAll (b.2.map .int) + 1) 0) + 1 = 2
      rw [depth_ints]; rfl
    omega
theorem shaped_rows (l : List (Int × List Int)) : SeqAt.shaped (.list (l.map rowD)) = true := by
  unfold SeqAt.shaped
  have h := depth_rows l
  rw [show PyData.canLay0 (.list (l.map rowD)) = true from canLay_rows l, show PyData.depth (.list (l.map rowD)) = PyData.depthAll (l.map rowD) + 1 from rfl]
  simp
  omega
theorem eqvAll_rows : ∀ l m : List (Int × List Int), PyData.eqvAll (l.map rowD) (m.map rowD) = decide (l = m)
  | [], [] => rfl
  | [], _ :: _ => rfl
  | _ :: _, [] => rfl
  | a :: l, b :: m => by
    show (PyData.eqv (rowD a) (rowD b) && PyData.eqvAll (l.map rowD) (m.map rowD)) = _
    rw [eqvAll_rows l m]
    have e : PyData.eqv (rowD a) (rowD b) = decide (a = b) := by
      show ((a.1 == b.1) && (PyData.eqvAll (a.2.map .int) (b.2.map .int) && true)) = _
      rw [eqvAll_ints]
      obtain ⟨a1, a2⟩ := a
      obtain ⟨b1, b2⟩ := b
      by_cases h : a1 = b1
      · subst h; by_cases h2 : a2 = b2 <;> simp [h2]
      · simp [h]
    rw [e]
    by_cases h : a = b
    · subst h; by_cases h2 : l = m <;> simp [h2]
    · simp [h]
end GX
set_option Elab.async false
set_option linter.all false
set_option maxRecDepth 100000
set_option maxHeartbeats 2000000
/-! a def that calls what it got and tells two errors by words -/
namespace GX
open PySem PySem.Spec PyProof.Rows L2
def TTold2 (K : PySem.W.Frag) (C1 : Addr) (r1 : Str) (C2 : Addr) (r2 : Str) : (XK → Hp → VK → Prop) → Hp → VK → Prop := fun tl H Q =>
  tl (fun cls _ H' => ∃ b, PySem.W.exmOne K cls (.ref C1) = some b ∧ (b = true → Q (.str r1) H') ∧ (b = false → ∃ b2, PySem.W.exmOne K cls (.ref C2) = some b2 ∧ (b2 = true → Q (.str r2) H') ∧ (b2 = false → False))) H Q
theorem told_gives2 {X : Cx} {Ng : List Str} {x a e1 e2 q ret1 ret2 : Str} {sg : Scope} {g C1 C2 : Addr} {cdg : Value} {j1 j2 : Nat} {p1 p2 p3 p4 p5 p6 p7 p8 p9 p10 p11 p12 : Pos} (hge1 : sg.names.lookup e1 = some .globalImplicit) (hme1 : X.mg e1 = some (.ref C1)) (hde1 : (e1 == ("__debug__" : Str)) = false)
    (hge2 : sg.names.lookup e2 = some .globalImplicit) (hme2 : X.mg e2 = some (.ref C2)) (hde2 : (e2 == ("__debug__" : Str)) = false) (h0 : ∀ f : Addr, (L2.start Ng [V.ref f])[0]? = some (some (V.ref f))) :
    LamX.GivesTo X Ng x sg g cdg [.Try [.Return (some (.Call (.Name a p1) [] [] p2)) p3] [.ExceptHandler (some (.Name e1 p4)) none [.Return (some (.Constant (.str ret1) j1 p5)) p6] p7, .ExceptHandler (some (.Name e2 p9)) none [.Return (some (.Constant (.str ret2) j2 p10)) p11] p12] [] [] p8] a q (TTold2 X.K C1 ret1 C2 ret2) := by
  intro f c' s H Q tl act hc h
  have hgl1 : Gl (cxOf C8.CX0 X.prog X.w X.K X.mg X.base Ng x sg g cdg X.A X.stack s H C8.E0).nox e1 := hge1
  have hgl2 : Gl (cxOf C8.CX0 X.prog X.w X.K X.mg X.base Ng x sg g cdg X.A X.stack s H C8.E0).nox e2 := hge2
  refine ⟨_, pss_one (ps_try_many (X := (cxOf C8.CX0 X.prog X.w X.K X.mg X.base Ng x sg g cdg X.A X.stack s H C8.E0).nox)
      (tb := fun W D σ H => ∃ Ech : XK, (∀ cls d σ' H', Ech cls d H' → W cls d σ' H') ∧ σ[0]? = some (some (.ref f)) ∧ H c' = some (LamX.CodeO c' q) ∧ tl Ech H D.rt)
      rfl rfl takes0 (fun W pn xe tk _ => ?_) (.cons (c := .ref C1) ⟨hgl1, hde1, .inl hme1⟩ (fun a oe cls d pn _ _ => pss_one (ps_ret pe_str)) (.cons (c := .ref C2) ⟨hgl2, hde2, .inl hme2⟩ (fun a oe cls d pn _ _ => pss_one (ps_ret pe_str)) .nil))), ?_⟩
  · refine ⟨fun pins s' σ H' D I h' => ?_⟩
    obtain ⟨Ech, hW, h1, h2, h3⟩ := h'
    have hp := act W pn xe Ech p1 p2 tk hW
    have hq := pss_one (ps_ret (pos := p3) hp)
    exact hq.run pins s' σ H' D I ⟨h1, h2, h3⟩
  · refine ⟨_, fun cls d σ' H' hh => ?_, h0 f, hc, h⟩
    obtain ⟨b, g1, g2, g3⟩ := hh
    refine ⟨b, g1, fun hb a _ => g2 hb, fun hb => ?_⟩
    obtain ⟨b2, k1, k2, k3⟩ := g3 hb
    exact ⟨b2, k1, fun hb a _ => k2 hb, fun hb => k3 hb⟩
structure Told2 (K : PySem.W.Frag) (mg : Str → Option Value) (x a e1 ret1 e2 ret2 : Str) (C1 C2 : Addr) : Prop where
  ex : ∃ (g cg : Addr) (fd : FuncData) (st : Stmt) (Ng : List Str) (p1 p2 p3 p4 p5 p6 p7 p8 p9 p10 p11 p12 : Pos), Def K mg x st g fd cg ∧
    defBody st = [.Try [.Return (some (.Call (.Name a p1) [] [] p2)) p3] [.ExceptHandler (some (.Name e1 p4)) none [.Return (some (.Constant (.str ret1) 0 p5)) p6] p7, .ExceptHandler (some (.Name e2 p9)) none [.Return (some (.Constant (.str ret2) 0 p10)) p11] p12] [] [] p8] ∧ FnScope Ng [a] (defScope st) ∧ Ng[0]? = some a ∧ Vis (defScope st) a ∧
    (defScope st).names.lookup e1 = some .globalImplicit ∧ (defScope st).names.lookup e2 = some .globalImplicit ∧ (∀ f : Addr, (L2.start Ng [V.ref f])[0]? = some (some (V.ref f))) ∧
    (∀ (kV doc pm : Value) (an : Option Addr) (cdv ct : Value) (us : List Value), us.length = [a].length → bindArgs (PySem.W.fnOf x x (defArgs st) (defBody st) (defScope st) .none kV doc pm an cdv ct) ⟨us, []⟩ = pure ([a].zip us))
  me1 : mg e1 = some (.ref C1)
  de1 : (e1 == ("__debug__" : Str)) = false
  me2 : mg e2 = some (.ref C2)
  de2 : (e2 == ("__debug__" : Str)) = false
  da : (a == ("__debug__" : Str)) = false
  dx : (x == ("__debug__" : Str)) = false
  dc : (a == ("__classdict__" : Str)) = false
theorem pe_told2 {X : Cx} {x a e1 ret1 e2 ret2 : Str} {C1 C2 c P : Addr} {TL : List (Addr × Str)} {k : Nat} {params : Arguments} {body : Expr} {scope : Scope} {t : XK → TE} {p lpos pos : Pos} (T : Told2 X.K X.mg x a e1 ret1 e2 ret2 C1 C2) (hg : Gl X x)
    (TB : LamX.TabB X.base X.mg c P) (hcode : X.env.code = .ref c) (hmT : (P, X.env.qual ++ "<lambda>") ∈ TL) (hu : ∀ p ∈ TL, p.1 = P → p.2 = X.env.qual ++ "<lambda>") (hr : Room (k + 2) X.A) (L : LamX.LamS X.env.scope scope) (hdef : defaultsOf params X.env = ([], []))
    (hbind : ∀ (q : Str) (cl : List (Str × Addr)) (pm cv ctv : Value), bindArgs (PySem.W.kla_fn "<lambda>" q params body scope cl pm cv ctv) ⟨[], []⟩ = pure [])
    (hbody : ∀ (A : Around) (outer : List Env) (s : Shared) (H : Hp) (E : XK) (f c' : Addr), Room k (A.deeper (LamX.lamEnv X scope s.heap.objs.size f c')) → PE (LamX.lamCx X A outer s H E scope f c') body (t E)) :
    PE X (.Call (.Name x p) [.Lambda params body scope lpos] [] pos) (LamX.tLam TL (TTold2 X.K C1 ret1 C2 ret2) t) := by
  obtain ⟨⟨g, cg, fd, st, Ng, p1, p2, p3, p4, p5, p6, p7, p8, p9, p10, p11, p12, D, hb, S, h1, h2, h3, h3', h4, h5⟩, me1, de1, me2, de2, da, dx, dc⟩ := T
  obtain ⟨⟨oc, od, kV, doc, pm, an, ct, osl, rfl, lk, hcd⟩, kp, gm⟩ := D
  refine LamX.pe_lamcall (a := a) hg gm kp lk hcd (.all (h5 kV doc pm an (.ref cg) ct)) S h1 h2 ?_ TB hcode hmT hu hr L hdef hbind hbody dx da dc
  rw [hb]
  exact told_gives2 h3 me1 de1 h3' me2 de2 h4
end GX
set_option Elab.async false
set_option linter.all false
set_option maxRecDepth 100000
set_option maxHeartbeats 2000000
namespace KB
open PySem PySem.Spec PyProof.Rows L2 GX
def top (i : Nat) : Stmt := PySem.Challenge.pw_hoststack_k02_devices_and_journals.main.body.getD i (.Pass ⟨0, 0, 0, 0⟩)
/-- what the top has written -/
structure Txt (P : Program) (w : World) (K : PySem.W.Frag) (mg : Str → Option Value) (base : Heap) (CD CJ DE JE jm : Addr) (TL : List (Addr × Str)) (GT : List Addr) : Prop where
  x_DeviceError : PlainX K mg "DeviceError" DE
  x_JournalError : PlainX K mg "JournalError" JE
  cD : Cls K CD
  cJ : Cls K CJ
  fD : ∀ f ∈ ([("block_size" : Str), "total", "blocks", "waiting", "fuse", "dead", "steps"] : List Str), NoAttr K CD f
  fJ : ∀ f ∈ ([("device" : Str), "first", "blocks", "serial"] : List Str), NoAttr K CJ f
  gD : mg "Device" = some (.ref CD)
  gJ : mg "Journal" = some (.ref CJ)
  d_step : ∃ f fd c, MDef K "step" "Device.step" (inClass (top 16) 2) [] f fd c ∧ Meth K CD "step" f
  d_check : ∃ f fd c, MDef K "check_number" "Device.check_number" (inClass (top 16) 3) [] f fd c ∧ Meth K CD "check_number" f
  d_arm : ∃ f fd c, MDef K "arm" "Device.arm" (inClass (top 16) 1) [] f fd c ∧ Meth K CD "arm" f
  d_read : ∃ f fd c, MDef K "read" "Device.read" (inClass (top 16) 4) [] f fd c ∧ Meth K CD "read" f
  d_write : ∃ f fd c, MDef K "write_block" "Device.write_block" (inClass (top 16) 5) [] f fd c ∧ Meth K CD "write_block" f
  d_flush : ∃ f fd c, MDef K "flush" "Device.flush" (inClass (top 16) 6) [] f fd c ∧ Meth K CD "flush" f
  d_init : ∃ f fd c, MDef K "__init__" "Device.__init__" (inClass (top 16) 0) [.non] f fd c ∧ Mk K CD f
  d_rest : ∃ f fd c, MDef K "restarted" "Device.restarted" (inClass (top 16) 7) [] f fd c ∧ Meth K CD "restarted" f
  j_init : ∃ f fd c, MDef K "__init__" "Journal.__init__" (inClass (top 14) 0) [] f fd c ∧ Mk K CJ f
  j_room : ∃ f fd c, MDef K "room" "Journal.room" (inClass (top 14) 1) [] f fd c ∧ Meth K CJ "room" f
  j_commit : ∃ f fd c, MDef K "commit" "Journal.commit" (inClass (top 14) 2) [] f fd c ∧ Meth K CJ "commit" f
  j_home : ∃ f fd c, MDef K "write_home" "Journal.write_home" (inClass (top 14) 3) [] f fd c ∧ Meth K CJ "write_home" f
  j_pending : ∃ f fd c, MDef K "pending" "Journal.pending" (inClass (top 14) 4) [] f fd c ∧ Meth K CJ "pending" f
  j_recover : ∃ f fd c tP, MDef K "recover" "Journal.recover" (inClass (top 14) 5) [] f fd c ∧ Meth K CJ "recover" f ∧ GxR.TabB base mg c tP ∧ tP ∈ GT
  d_pair : ∃ f fd c, Def K mg "pair" (top 5) f fd c
  d_nop : ∃ f fd c, Def K mg "number_of_pair" (top 6) f fd c
  d_ws : ∃ f fd c, Def K mg "word_sum" (top 7) f fd c
  d_hr : ∃ f fd c, Def K mg "head_room" (top 11) f fd c
  d_ho : ∃ f fd c, Def K mg "head_of" (top 12) f fd c
  d_rh : ∃ f fd c tP, Def K mg "read_head" (top 13) f fd c ∧ GxR.TabB base mg c tP ∧ tP ∈ GT
  d_dice : ∃ f fd c, Def K mg "_law_dice" (top 18) f fd c
  d_roll : ∃ f fd c, Def K mg "_law_roll" (top 19) f fd c
  d_rounds : ∃ f fd c, Def K mg "_law_rounds" (top 20) f fd c
  d_block : ∃ f fd c, Def K mg "_law_block" (top 22) f fd c
  d_group : ∃ f fd c, Def K mg "_law_group" (top 23) f fd c
  d_same : ∃ f fd c, Def K mg "_law_same" (top 24) f fd c
  d_again : ∃ f fd c, Def K mg "_law_again" (top 25) f fd c
  d_law : ∃ f fd c, Def K mg "law" (top 26) f fd c
  g_FIXED : ∃ u, mg "FIXED" = some u ∧ RelV (.int 10) u
  g_JOURNAL_MARK : ∃ u, mg "JOURNAL_MARK" = some u ∧ RelV (.ref jm) u
  markT : ∀ H, SqT K H jm [.int 74, .int 82]
  n_enumerate : mg "enumerate" = none
  n_dict : mg "dict" = none
  n_min : mg "min" = none
  n_sorted : mg "sorted" = none
  n_len : mg "len" = none
  n_tuple : mg "tuple" = none
  n_range : mg "range" = none
  n_abs : mg "abs" = none
  n_int : mg "int" = none
/-! ### the device, plainly -/
abbrev Blk : Type := Int × List Int
structure Dv where
  total : Int
  blocks : List Blk
  waiting : List Blk
  fuse : Option Int
  dead : Bool
  steps : Int
def fz : Option Int → V
  | none => .non
  | some i => .int i
def zeros : List Int := List.replicate 64 0
def putB (l : List Blk) (n : Int) (x : List Int) : List Blk := if (l.any fun p => decide (p.1 = n)) = true then l.map (fun p => if p.1 = n then (p.1, x) else p) else l ++ [(n, x)]
def getB (l : List Blk) (n : Int) : Option (List Int) := (l.find? fun p => decide (p.1 = n)).map (·.2)
def dstep (v : Dv) : Dv × Bool :=
  if v.dead then (v, false) else match v.fuse with
    | none => ({ v with steps := v.steps + 1 }, true)
    | some n => if n = 0 then ({ v with dead := true }, false) else ({ v with fuse := some (n - 1), steps := v.steps + 1 }, true)
def dread (v : Dv) (n : Int) : List Int := match getB v.waiting.reverse n with
  | some x => x
  | none => (getB v.blocks n).getD zeros
def okNum (v : Dv) (n : Int) : Bool := !v.dead && (decide (0 ≤ n) && decide (n < v.total))
def dwrite (v : Dv) (n : Int) (x : List Int) : Dv × Bool :=
  if okNum v n = false then (v, false) else if x.length ≠ 64 then (v, false) else
  if (dstep v).2 then ({ (dstep v).1 with waiting := (dstep v).1.waiting ++ [(n, x)] }, true) else dstep v
def dflush (v : Dv) : Dv × Bool :=
  if (dstep v).2 then ({ (dstep v).1 with blocks := (dstep v).1.waiting.foldl (fun l p => putB l p.1 p.2) (dstep v).1.blocks, waiting := [] }, true) else dstep v
/-! ### how it stands in the heap -/
section
variable {K : PySem.W.Frag} {H H' : Hp}
def TI (K : PySem.W.Frag) (H : Hp) (v : V) (xs : List Int) : Prop := ∃ p, v = .ref p ∧ SqT K H p (xs.map V.int)
def PairAt (K : PySem.W.Frag) (H : Hp) (v : V) (b : Blk) : Prop := ∃ q u, v = V.ref q ∧ SqT K H q [.int b.1, u] ∧ TI K H u b.2
def KvAt (K : PySem.W.Frag) (H : Hp) (kv : Key × V) (b : Blk) : Prop := kv.1 = .inl b.1 ∧ TI K H kv.2 b.2
theorem TI.ex {A : List Addr} {TL : List (Addr × Str)} {GT : List Addr} {v : V} {xs : List Int} (e : Ex A TL GT H H') (t : TI K H v xs) : TI K H' v xs := by
  obtain ⟨p, rfl, h⟩ := t
  exact ⟨p, rfl, e.sqt h⟩
theorem PairAt.ex {A : List Addr} {TL : List (Addr × Str)} {GT : List Addr} {v : V} {b : Blk} (e : Ex A TL GT H H') (t : PairAt K H v b) : PairAt K H' v b := by
  obtain ⟨p, u, rfl, h, h2⟩ := t
  exact ⟨p, u, rfl, e.sqt h, h2.ex e⟩
theorem KvAt.ex {A : List Addr} {TL : List (Addr × Str)} {GT : List Addr} {kv : Key × V} {b : Blk} (e : Ex A TL GT H H') (t : KvAt K H kv b) : KvAt K H' kv b := ⟨t.1, t.2.ex e⟩
def flds (b w : Addr) (v : Dv) : List (Str × V) := [("block_size", .int 64), ("total", .int v.total), ("blocks", .ref b), ("waiting", .ref w), ("fuse", fz v.fuse), ("dead", .bl v.dead), ("steps", .int v.steps)]
/-- the device v at d; F: what may change with it -/
structure DevAt (K : PySem.W.Frag) (CD : Addr) (H : Hp) (d : Addr) (v : Dv) (F : List Addr) : Prop where
  ex : ∃ (dx b w : Addr) (kvs : List (Key × V)) (ws : List V), F = [d, b, w] ∧ H d = some (.ins CD dx (flds b w v)) ∧ H b = some (.dK kvs) ∧ H w = some (.lst ws) ∧ Paired (KvAt K H) kvs v.blocks ∧ Paired (PairAt K H) ws v.waiting
theorem pimp {α β : Type} {R S : α → β → Prop} (h : ∀ a b, R a b → S a b) : ∀ {xs : List α} {ys : List β}, Paired R xs ys → Paired S xs ys
  | _, _, .nil => .nil
  | _, _, .cons p r => .cons (h _ _ p) (pimp h r)
/-- behind a deed on it -/
structure Aft (K : PySem.W.Frag) (CD : Addr) (TL : List (Addr × Str)) (GT : List Addr) (H : Hp) (d : Addr) (F : List Addr) (v : Dv) (H' : Hp) : Prop where
  e : Ex F TL GT H H'
  at_ : ∃ F', DevAt K CD H' d v F' ∧ ∀ a ∈ F', a ∈ F ∨ free H a
theorem ex_behind {A B : List Addr} {TL : List (Addr × Str)} {GT : List Addr} {H1 H2 : Hp} (a : Ex A TL GT H H1) (hB : ∀ x ∈ B, x ∈ A ∨ free H x) (b : Ex B TL GT H1 H2) : Ex A TL GT H H2 :=
  ⟨fun c o n e ne => b.ext c o (fun q => (hB c q).elim n (fun z => by obtain ⟨ps, z2⟩ := z o e; exact ne ps z2)) (a.ext c o n e ne) ne, fun h => b.tl (a.tl h), fun h => b.tg (a.tg h), fun c xs h => b.tup c xs (a.tup c xs h)⟩
theorem DevAt.keep {CD d : Addr} {v : Dv} {F A : List Addr} {TL : List (Addr × Str)} {GT : List Addr} (D : DevAt K CD H d v F) (e : Ex A TL GT H H') (hA : ∀ a ∈ F, a ∉ A) : DevAt K CD H' d v F := by
  obtain ⟨dx, b, w, kvs, ws, rfl, h1, h2, h3, h4, h5⟩ := D
  exact ⟨dx, b, w, kvs, ws, rfl, e.ext _ _ (hA d (by simp)) h1 (fun _ z => by cases z), e.ext _ _ (hA b (by simp)) h2 (fun _ z => by cases z), e.ext _ _ (hA w (by simp)) h3 (fun _ z => by cases z), pimp (fun _ _ => KvAt.ex e) h4, pimp (fun _ _ => PairAt.ex e) h5⟩
theorem Aft.refl {CD d : Addr} {v : Dv} {F : List Addr} {TL : List (Addr × Str)} {GT : List Addr} (D : DevAt K CD H d v F) : Aft K CD TL GT H d F v H := ⟨Ex.refl, F, D, fun a h => .inl h⟩
end
theorem ne_kind {H : Hp} {a b : Addr} {x y : HO} (ha : H a = some x) (hb : H b = some y) (h : isMut x = true) (k : x ≠ y) : a ≠ b := fun e => by
  rw [e, hb] at ha
  exact k (Option.some.inj ha).symm
section
variable {K : PySem.W.Frag} {H H' : Hp}
theorem put_any {kvs : List (Key × V)} {l : List Blk} (n : Int) (h : Paired (KvAt K H) kvs l) : (kvs.any fun kv => decide (kv.1 = .inl n)) = l.any fun p => decide (p.1 = n) := by
  induction h with
  | nil => rfl
  | cons p r ih =>
    rw [List.any_cons, List.any_cons, ih, p.1]
    simp
theorem put_map {kvs : List (Key × V)} {l : List Blk} {n : Int} {u : V} {x : List Int} (hu : TI K H u x) (h : Paired (KvAt K H) kvs l) : Paired (KvAt K H) (kvs.map fun kv => if kv.1 = .inl n then (kv.1, u) else kv) (l.map fun p => if p.1 = n then (p.1, x) else p) := by
  induction h with
  | nil => exact .nil
  | cons p r ih =>
    rename_i kv b _ _
    refine .cons ?_ ih
    show KvAt K H (if kv.1 = .inl n then (kv.1, u) else kv) (if b.1 = n then (b.1, x) else b)
    by_cases hb : b.1 = n
    · have e : kv.1 = .inl n := by rw [p.1, hb]
      rw [if_pos hb, if_pos e]
      exact ⟨p.1, hu⟩
    · have e : ¬ kv.1 = .inl n := fun z => by rw [p.1] at z; exact hb (Sum.inl.inj z)
      rw [if_neg hb, if_neg e]
      exact p
theorem paired_append {α β : Type} {R : α → β → Prop} : ∀ {xs : List α} {ys : List β} {xs' : List α} {ys' : List β}, Paired R xs ys → Paired R xs' ys' → Paired R (xs ++ xs') (ys ++ ys')
  | _, _, _, _, .nil, h => h
  | _, _, _, _, .cons p r, h => .cons p (paired_append r h)
theorem put_ok {kvs : List (Key × V)} {l : List Blk} {n : Int} {u : V} {x : List Int} (hu : TI K H u x) (h : Paired (KvAt K H) kvs l) : Paired (KvAt K H) (putK kvs (.inl n) u) (putB l n x) := by
  unfold putK putB
  rw [put_any n h]
  split
  · exact put_map hu h
  · exact paired_append h (.cons ⟨rfl, hu⟩ .nil)
theorem getB_at {l : List Blk} {i : Nat} {n : Int} {bk : Blk} (h : l[i]? = some bk) (hn : getB (l.take i) n = none) (hb : bk.1 = n) : getB l n = some bk.2 := by
  have hlt : i < l.length := by
    rcases Nat.lt_or_ge i l.length with z | z
    · exact z
    · rw [List.getElem?_eq_none z] at h; cases h
  have e : l = l.take i ++ l.drop i := (List.take_append_drop i l).symm
  have e2 : l.drop i = bk :: l.drop (i + 1) := by
    rw [List.drop_eq_getElem_cons hlt]
    congr 1
    rw [List.getElem?_eq_getElem hlt] at h
    exact Option.some.inj h
  unfold getB at hn ⊢
  rw [e, List.find?_append, Option.map_eq_none_iff.mp hn, e2, List.find?_cons]
  simp [hb]
theorem getB_none {l : List Blk} {n : Int} {bk : Blk} (hn : getB l n = none) (hb : ¬ bk.1 = n) : getB (l ++ [bk]) n = none := by
  unfold getB at hn ⊢
  rw [List.find?_append, Option.map_eq_none_iff.mp hn, List.find?_cons]
  simp [hb]
theorem putK_len (ks : List (Key × V)) (k : Key) (u : V) : (putK ks k u).length ≤ ks.length + 1 := by
  unfold putK
  split <;> simp
theorem get_ok {kvs : List (Key × V)} {l : List Blk} (n : Int) (h : Paired (KvAt K H) kvs l) : match valV kvs (Sum.inl n) with
    | some u => ∃ x, getB l n = some x ∧ TI K H u x
    | none => getB l n = none := by
  induction h with
  | nil => rfl
  | cons p r ih =>
    rename_i kv b kvs l
    by_cases hb : b.1 = n
    · have e : kv.1 = .inl n := by rw [p.1, hb]
      rw [valV_pos e]
      exact ⟨b.2, by unfold getB; rw [List.find?_cons]; simp [hb], p.2⟩
    · have e : ¬ kv.1 = .inl n := fun z => by rw [p.1] at z; exact hb (Sum.inl.inj z)
      rw [valV_neg e]
      have e2 : getB (b :: l) n = getB l n := by unfold getB; rw [List.find?_cons]; simp [hb]
      rw [e2]
      exact ih
theorem paired_at {α β : Type} {R : α → β → Prop} : ∀ {xs : List α} {ys : List β} {i : Nat} {x : α}, Paired R xs ys → xs[i]? = some x → ∃ y, ys[i]? = some y ∧ R x y
  | _, _, 0, _, .cons p _, h => ⟨_, rfl, by cases h; exact p⟩
  | _, _, i + 1, _, .cons _ r, h => paired_at (i := i) r h
  | _, _, _, _, .nil, h => by cases h
theorem paired_len {α β : Type} {R : α → β → Prop} : ∀ {xs : List α} {ys : List β}, Paired R xs ys → xs.length = ys.length
  | _, _, .nil => rfl
  | _, _, .cons _ r => by rw [List.length_cons, List.length_cons, paired_len r]
theorem paired_rev {α β : Type} {R : α → β → Prop} : ∀ {xs : List α} {ys : List β}, Paired R xs ys → Paired R xs.reverse ys.reverse
  | _, _, .nil => .nil
  | _, _, .cons p r => by rw [List.reverse_cons, List.reverse_cons]; exact paired_append (paired_rev r) (.cons p .nil)
end
/-- fields changed, blocks and what waits stand -/
theorem dev_put {K : PySem.W.Frag} {CD : Addr} {TL : List (Addr × Str)} {GT : List Addr} {H : Hp} {d dx b w : Addr} {v v' : Dv} {kvs : List (Key × V)} {ws : List V} (h1 : H d = some (.ins CD dx (flds b w v))) (h2 : H b = some (.dK kvs)) (h3 : H w = some (.lst ws))
    (h4 : Paired (KvAt K H) kvs v.blocks) (h5 : Paired (PairAt K H) ws v.waiting) (e1 : v'.blocks = v.blocks) (e2 : v'.waiting = v.waiting) : Aft K CD TL GT H d [d, b, w] v' (upd H d (.ins CD dx (flds b w v'))) := by
  have e : Ex [d, b, w] TL GT H (upd H d (.ins CD dx (flds b w v'))) := Ex.put (by simp) h1 rfl
  refine ⟨e, [d, b, w], ⟨dx, b, w, kvs, ws, rfl, upd_same, ?_, ?_, ?_, ?_⟩, fun a h => .inl h⟩
  · rw [upd_ne (ne_kind h2 h1 rfl (fun z => by cases z))]; exact h2
  · rw [upd_ne (ne_kind h3 h1 rfl (fun z => by cases z))]; exact h3
  · rw [e1]; exact pimp (fun _ _ => KvAt.ex e) h4
  · rw [e2]; exact pimp (fun _ _ => PairAt.ex e) h5
section
variable {P : Program} {w : World} {K : PySem.W.Frag} {mg : Str → Option Value} {base : Heap} {CD CJ DE JE jm : Addr} {TL : List (Addr × Str)} {GT : List Addr}
def spStep (K : PySem.W.Frag) (CD DE : Addr) (TL : List (Addr × Str)) (GT : List Addr) : Sp := fun vs H Q E => ∃ d v F, vs = [.ref d] ∧ DevAt K CD H d v F ∧
  ((dstep v).2 = true → ∀ H', Aft K CD TL GT H d F (dstep v).1 H' → Q .non H') ∧ ((dstep v).2 = false → ∀ H', Aft K CD TL GT H d F (dstep v).1 H' → E (.ref DE) none H')
theorem m_step (T : KB.Txt P w K mg base CD CJ DE JE jm TL GT) : Met P w K mg base 3 CD "step" [] (spStep K CD DE TL GT) := by
  obtain ⟨f, fd, c, D, hm⟩ := T.d_step
  refine met_of T.cD hm ?_ (D.bind0 (ps := ["self"]) (fun _ _ _ _ _ _ us hl => match us, hl with | [_], _ => rfl))
  refine D.okF (N := ["self"]) (ps := ["self"]) ⟨rfl, rfl, rfl, by decide +kernel, rfl, by decide +kernel, by decide +kernel⟩ (fun vs H Q E h => by first | (obtain ⟨_, rfl, _⟩ := h; rfl) | (obtain ⟨_, _, rfl, _⟩ := h; rfl) | (obtain ⟨_, _, _, rfl, _⟩ := h; rfl) | (obtain ⟨_, _, _, _, rfl, _⟩ := h; rfl) | (obtain ⟨_, _, _, _, _, rfl, _⟩ := h; rfl) | (obtain ⟨_, _, _, _, _, _, rfl, _⟩ := h; rfl) | (obtain ⟨_, _, _, _, _, _, _, rfl, _⟩ := h; rfl) | (obtain ⟨_, _, _, _, _, _, _, _, rfl, _⟩ := h; rfl) | (obtain ⟨rfl, _⟩ := h; rfl)) (fun A outer s H vs Q E hr h => ?_)
  have nd : (["self"] : List Str).Nodup := by decide
  refine mk_ex (pss_cons (ps_if (pt_truU (K := K) rfl (by exact (pt_truth (fldK (K := K) rfl (pe_fld (pv 0) rfl)) (fun _ => rfl)))) (pss_one (ps_raise rfl (takes_of rfl rfl rfl rfl) (by exact (pmk_plain T.x_DeviceError)))) pss_nil)
    (pss_cons (ps_if (pt_cmpR op_notN (fldK (K := K) rfl (pe_fld (pv 0) rfl)) pe_non (nomark _)) (pss_cons (ps_if (pt_cmpR (opK (K := K) (r := rEqU) (opU_eq (roomEq hr)) rfl) (fldK (K := K) rfl (pe_fld (pv 0) rfl)) pe_int (nomark _)) (pss_cons (sFldK (K := K) rfl (ps_fld (pv 0) pe_bl rfl))
    (pss_one (ps_raise rfl (takes_of rfl rfl rfl rfl) (by exact (pmk_plain T.x_DeviceError))))) pss_nil)
    (pss_one (sFldAugK (K := K) rfl (ps_fldaug (pv 0) pe_int opU_isub)))) pss_nil)
    (pss_one (sFldAugK (K := K) rfl (ps_fldaug (pv 0) pe_int (opK (K := K) (r := rIaddU) opU_iadd rfl)))))) ?_
  obtain ⟨d, v, F, rfl, ⟨dx, b, w, kvs, ws, rfl, h1, h2, h3, h4, h5⟩, hq, he⟩ := h
  simp only [cx_K, gcx_K, lcx_K, LenV, rLenU, tTruU, kTup, tFld, sFld, sFldAug, tMet, tMake, tBM, tDGet, tDGet1, tDGet2, sDPut, tRevL, iEnum, tAug, tAsg, mulV_int, iaddU_int, isubU_int, iaddU_str, tTupL, ex2eq, not_true_eq_false, not_false_eq_true, LamX.tLam, LamX.TTold, tSeq, tIf, tNext, tRet, tRetN, tIfS, tTest, tB, tNot, tAnd, tOr, tChain, tOp, tUn, tC, tVar, tCons, tNil, tTup, tLst, tAsg, gName, gTup, gCons, gNil, gSub, tDrop, tCallS, tCB, tM1, tM0, tBM, tBM0, tSl, tPar, tFor_eq, tLc_eq, intU_int, intU_bl, iList, iTup, iEnumT, tDNewK, rSlT, rSlL, iRng1, iRng2, iStr, tThen, tNever, L2.start, tRaiseFile, tMkFile, tYes, tPart, tNoPart, addA_int, addA_str, addU_int, addU_str, addU_ref, subU_int, mulU_int, mulU_ref, fdvU_int, modU_int, powU_int, ltU_int, leU_int, gtU_int, geU_int, eqU_int, eqU_str, eqU_bl, neU_int, neU_str, neU_bl, WE, TruV, List.map, List.length_cons, List.length_nil, List.replicate, List.append, List.getElem?_cons_zero, List.getElem?_cons_succ, List.set_cons_zero, List.set_cons_succ, List.cons_append, List.nil_append, Option.some.injEq, V.int.injEq, V.str.injEq, V.bl.injEq, V.ref.injEq, List.cons.injEq, exists_eq_left, exists_eq_right, and_true, true_and, and_self, exists_eq, exists_const, Bool.not_true, Bool.not_false, Bool.false_eq_true, if_true, if_false, reduceIte, decide_eq_true_eq, bne_iff_ne, exists_eq_left', exists_eq', exists_and_left, Bool.not_eq_true', decide_eq_false_iff_not, Nat.reduceSub, Nat.reduceAdd, reduceCtorEq, false_and, or_false, false_or, exists_false]
  have hr0 : Aft K CD TL GT H d [d, b, w] v H := Aft.refl ⟨dx, b, w, kvs, ws, rfl, h1, h2, h3, h4, h5⟩
  refine ⟨_, _, _, h1, T.cD, T.fD _ (by simp), _, rfl, ?_⟩; try simp only [cx_K, gcx_K, lcx_K, LenV, rLenU, tTruU, kTup, tFld, sFld, sFldAug, tMet, tMake, tBM, tDGet, tDGet1, tDGet2, sDPut, tRevL, iEnum, tAug, tAsg, mulV_int, iaddU_int, isubU_int, iaddU_str, tTupL, ex2eq, not_true_eq_false, not_false_eq_true, LamX.tLam, LamX.TTold, tSeq, tIf, tNext, tRet, tRetN, tIfS, tTest, tB, tNot, tAnd, tOr, tChain, tOp, tUn, tC, tVar, tCons, tNil, tTup, tLst, tAsg, gName, gTup, gCons, gNil, gSub, tDrop, tCallS, tCB, tM1, tM0, tBM, tBM0, tSl, tPar, tFor_eq, tLc_eq, intU_int, intU_bl, iList, iTup, iEnumT, tDNewK, rSlT, rSlL, iRng1, iRng2, iStr, tThen, tNever, L2.start, tRaiseFile, tMkFile, tYes, tPart, tNoPart, addA_int, addA_str, addU_int, addU_str, addU_ref, subU_int, mulU_int, mulU_ref, fdvU_int, modU_int, powU_int, ltU_int, leU_int, gtU_int, geU_int, eqU_int, eqU_str, eqU_bl, neU_int, neU_str, neU_bl, WE, TruV, List.map, List.length_cons, List.length_nil, List.replicate, List.append, List.getElem?_cons_zero, List.getElem?_cons_succ, List.set_cons_zero, List.set_cons_succ, List.cons_append, List.nil_append, Option.some.injEq, V.int.injEq, V.str.injEq, V.bl.injEq, V.ref.injEq, List.cons.injEq, exists_eq_left, exists_eq_right, and_true, true_and, and_self, exists_eq, exists_const, Bool.not_true, Bool.not_false, Bool.false_eq_true, if_true, if_false, reduceIte, decide_eq_true_eq, bne_iff_ne, exists_eq_left', exists_eq', exists_and_left, Bool.not_eq_true', decide_eq_false_iff_not, Nat.reduceSub, Nat.reduceAdd, reduceCtorEq, false_and, or_false, false_or, exists_false]
  cases hd : v.dead with
  | true =>
    have e1 : dstep v = (v, false) := by unfold dstep; rw [hd]; rfl
    rw [e1] at he
    simp only [cx_K, gcx_K, lcx_K, LenV, rLenU, tTruU, kTup, tFld, sFld, sFldAug, tMet, tMake, tBM, tDGet, tDGet1, tDGet2, sDPut, tRevL, iEnum, tAug, tAsg, mulV_int, iaddU_int, isubU_int, iaddU_str, tTupL, ex2eq, not_true_eq_false, not_false_eq_true, LamX.tLam, LamX.TTold, tSeq, tIf, tNext, tRet, tRetN, tIfS, tTest, tB, tNot, tAnd, tOr, tChain, tOp, tUn, tC, tVar, tCons, tNil, tTup, tLst, tAsg, gName, gTup, gCons, gNil, gSub, tDrop, tCallS, tCB, tM1, tM0, tBM, tBM0, tSl, tPar, tFor_eq, tLc_eq, intU_int, intU_bl, iList, iTup, iEnumT, tDNewK, rSlT, rSlL, iRng1, iRng2, iStr, tThen, tNever, L2.start, tRaiseFile, tMkFile, tYes, tPart, tNoPart, addA_int, addA_str, addU_int, addU_str, addU_ref, subU_int, mulU_int, mulU_ref, fdvU_int, modU_int, powU_int, ltU_int, leU_int, gtU_int, geU_int, eqU_int, eqU_str, eqU_bl, neU_int, neU_str, neU_bl, WE, TruV, List.map, List.length_cons, List.length_nil, List.replicate, List.append, List.getElem?_cons_zero, List.getElem?_cons_succ, List.set_cons_zero, List.set_cons_succ, List.cons_append, List.nil_append, Option.some.injEq, V.int.injEq, V.str.injEq, V.bl.injEq, V.ref.injEq, List.cons.injEq, exists_eq_left, exists_eq_right, and_true, true_and, and_self, exists_eq, exists_const, Bool.not_true, Bool.not_false, Bool.false_eq_true, if_true, if_false, reduceIte, decide_eq_true_eq, bne_iff_ne, exists_eq_left', exists_eq', exists_and_left, Bool.not_eq_true', decide_eq_false_iff_not, Nat.reduceSub, Nat.reduceAdd, reduceCtorEq, false_and, or_false, false_or, exists_false]
    exact he rfl _ hr0
  | false =>
    simp only [cx_K, gcx_K, lcx_K, LenV, rLenU, tTruU, kTup, tFld, sFld, sFldAug, tMet, tMake, tBM, tDGet, tDGet1, tDGet2, sDPut, tRevL, iEnum, tAug, tAsg, mulV_int, iaddU_int, isubU_int, iaddU_str, tTupL, ex2eq, not_true_eq_false, not_false_eq_true, LamX.tLam, LamX.TTold, tSeq, tIf, tNext, tRet, tRetN, tIfS, tTest, tB, tNot, tAnd, tOr, tChain, tOp, tUn, tC, tVar, tCons, tNil, tTup, tLst, tAsg, gName, gTup, gCons, gNil, gSub, tDrop, tCallS, tCB, tM1, tM0, tBM, tBM0, tSl, tPar, tFor_eq, tLc_eq, intU_int, intU_bl, iList, iTup, iEnumT, tDNewK, rSlT, rSlL, iRng1, iRng2, iStr, tThen, tNever, L2.start, tRaiseFile, tMkFile, tYes, tPart, tNoPart, addA_int, addA_str, addU_int, addU_str, addU_ref, subU_int, mulU_int, mulU_ref, fdvU_int, modU_int, powU_int, ltU_int, leU_int, gtU_int, geU_int, eqU_int, eqU_str, eqU_bl, neU_int, neU_str, neU_bl, WE, TruV, List.map, List.length_cons, List.length_nil, List.replicate, List.append, List.getElem?_cons_zero, List.getElem?_cons_succ, List.set_cons_zero, List.set_cons_succ, List.cons_append, List.nil_append, Option.some.injEq, V.int.injEq, V.str.injEq, V.bl.injEq, V.ref.injEq, List.cons.injEq, exists_eq_left, exists_eq_right, and_true, true_and, and_self, exists_eq, exists_const, Bool.not_true, Bool.not_false, Bool.false_eq_true, if_true, if_false, reduceIte, decide_eq_true_eq, bne_iff_ne, exists_eq_left', exists_eq', exists_and_left, Bool.not_eq_true', decide_eq_false_iff_not, Nat.reduceSub, Nat.reduceAdd, reduceCtorEq, false_and, or_false, false_or, exists_false]
    refine ⟨_, _, _, h1, T.cD, T.fD _ (by simp), _, rfl, ?_⟩; try simp only [cx_K, gcx_K, lcx_K, LenV, rLenU, tTruU, kTup, tFld, sFld, sFldAug, tMet, tMake, tBM, tDGet, tDGet1, tDGet2, sDPut, tRevL, iEnum, tAug, tAsg, mulV_int, iaddU_int, isubU_int, iaddU_str, tTupL, ex2eq, not_true_eq_false, not_false_eq_true, LamX.tLam, LamX.TTold, tSeq, tIf, tNext, tRet, tRetN, tIfS, tTest, tB, tNot, tAnd, tOr, tChain, tOp, tUn, tC, tVar, tCons, tNil, tTup, tLst, tAsg, gName, gTup, gCons, gNil, gSub, tDrop, tCallS, tCB, tM1, tM0, tBM, tBM0, tSl, tPar, tFor_eq, tLc_eq, intU_int, intU_bl, iList, iTup, iEnumT, tDNewK, rSlT, rSlL, iRng1, iRng2, iStr, tThen, tNever, L2.start, tRaiseFile, tMkFile, tYes, tPart, tNoPart, addA_int, addA_str, addU_int, addU_str, addU_ref, subU_int, mulU_int, mulU_ref, fdvU_int, modU_int, powU_int, ltU_int, leU_int, gtU_int, geU_int, eqU_int, eqU_str, eqU_bl, neU_int, neU_str, neU_bl, WE, TruV, List.map, List.length_cons, List.length_nil, List.replicate, List.append, List.getElem?_cons_zero, List.getElem?_cons_succ, List.set_cons_zero, List.set_cons_succ, List.cons_append, List.nil_append, Option.some.injEq, V.int.injEq, V.str.injEq, V.bl.injEq, V.ref.injEq, List.cons.injEq, exists_eq_left, exists_eq_right, and_true, true_and, and_self, exists_eq, exists_const, Bool.not_true, Bool.not_false, Bool.false_eq_true, if_true, if_false, reduceIte, decide_eq_true_eq, bne_iff_ne, exists_eq_left', exists_eq', exists_and_left, Bool.not_eq_true', decide_eq_false_iff_not, Nat.reduceSub, Nat.reduceAdd, reduceCtorEq, false_and, or_false, false_or, exists_false]
    cases hf : v.fuse with
    | none =>
      have e1 : dstep v = ({ v with steps := v.steps + 1 }, true) := by unfold dstep; rw [hd, hf]; rfl
      rw [e1] at hq
      simp only [fz, cx_K, gcx_K, lcx_K, LenV, rLenU, tTruU, kTup, tFld, sFld, sFldAug, tMet, tMake, tBM, tDGet, tDGet1, tDGet2, sDPut, tRevL, iEnum, tAug, tAsg, mulV_int, iaddU_int, isubU_int, iaddU_str, tTupL, ex2eq, not_true_eq_false, not_false_eq_true, LamX.tLam, LamX.TTold, tSeq, tIf, tNext, tRet, tRetN, tIfS, tTest, tB, tNot, tAnd, tOr, tChain, tOp, tUn, tC, tVar, tCons, tNil, tTup, tLst, tAsg, gName, gTup, gCons, gNil, gSub, tDrop, tCallS, tCB, tM1, tM0, tBM, tBM0, tSl, tPar, tFor_eq, tLc_eq, intU_int, intU_bl, iList, iTup, iEnumT, tDNewK, rSlT, rSlL, iRng1, iRng2, iStr, tThen, tNever, L2.start, tRaiseFile, tMkFile, tYes, tPart, tNoPart, addA_int, addA_str, addU_int, addU_str, addU_ref, subU_int, mulU_int, mulU_ref, fdvU_int, modU_int, powU_int, ltU_int, leU_int, gtU_int, geU_int, eqU_int, eqU_str, eqU_bl, neU_int, neU_str, neU_bl, WE, TruV, List.map, List.length_cons, List.length_nil, List.replicate, List.append, List.getElem?_cons_zero, List.getElem?_cons_succ, List.set_cons_zero, List.set_cons_succ, List.cons_append, List.nil_append, Option.some.injEq, V.int.injEq, V.str.injEq, V.bl.injEq, V.ref.injEq, List.cons.injEq, exists_eq_left, exists_eq_right, and_true, true_and, and_self, exists_eq, exists_const, Bool.not_true, Bool.not_false, Bool.false_eq_true, if_true, if_false, reduceIte, decide_eq_true_eq, bne_iff_ne, exists_eq_left', exists_eq', exists_and_left, Bool.not_eq_true', decide_eq_false_iff_not, Nat.reduceSub, Nat.reduceAdd, reduceCtorEq, false_and, or_false, false_or, exists_false]
      refine ⟨_, _, _, h1, T.cD, T.fD _ (by simp), _, rfl, ?_⟩; try simp only [cx_K, gcx_K, lcx_K, LenV, rLenU, tTruU, kTup, tFld, sFld, sFldAug, tMet, tMake, tBM, tDGet, tDGet1, tDGet2, sDPut, tRevL, iEnum, tAug, tAsg, mulV_int, iaddU_int, isubU_int, iaddU_str, tTupL, ex2eq, not_true_eq_false, not_false_eq_true, LamX.tLam, LamX.TTold, tSeq, tIf, tNext, tRet, tRetN, tIfS, tTest, tB, tNot, tAnd, tOr, tChain, tOp, tUn, tC, tVar, tCons, tNil, tTup, tLst, tAsg, gName, gTup, gCons, gNil, gSub, tDrop, tCallS, tCB, tM1, tM0, tBM, tBM0, tSl, tPar, tFor_eq, tLc_eq, intU_int, intU_bl, iList, iTup, iEnumT, tDNewK, rSlT, rSlL, iRng1, iRng2, iStr, tThen, tNever, L2.start, tRaiseFile, tMkFile, tYes, tPart, tNoPart, addA_int, addA_str, addU_int, addU_str, addU_ref, subU_int, mulU_int, mulU_ref, fdvU_int, modU_int, powU_int, ltU_int, leU_int, gtU_int, geU_int, eqU_int, eqU_str, eqU_bl, neU_int, neU_str, neU_bl, WE, TruV, List.map, List.length_cons, List.length_nil, List.replicate, List.append, List.getElem?_cons_zero, List.getElem?_cons_succ, List.set_cons_zero, List.set_cons_succ, List.cons_append, List.nil_append, Option.some.injEq, V.int.injEq, V.str.injEq, V.bl.injEq, V.ref.injEq, List.cons.injEq, exists_eq_left, exists_eq_right, and_true, true_and, and_self, exists_eq, exists_const, Bool.not_true, Bool.not_false, Bool.false_eq_true, if_true, if_false, reduceIte, decide_eq_true_eq, bne_iff_ne, exists_eq_left', exists_eq', exists_and_left, Bool.not_eq_true', decide_eq_false_iff_not, Nat.reduceSub, Nat.reduceAdd, reduceCtorEq, false_and, or_false, false_or, exists_false]
      exact ⟨_, _, h1, by show 7 < 1000; decide, hq rfl _ (dev_put h1 h2 h3 h4 h5 rfl rfl)⟩
    | some n =>
      simp only [fz, cx_K, gcx_K, lcx_K, LenV, rLenU, tTruU, kTup, tFld, sFld, sFldAug, tMet, tMake, tBM, tDGet, tDGet1, tDGet2, sDPut, tRevL, iEnum, tAug, tAsg, mulV_int, iaddU_int, isubU_int, iaddU_str, tTupL, ex2eq, not_true_eq_false, not_false_eq_true, LamX.tLam, LamX.TTold, tSeq, tIf, tNext, tRet, tRetN, tIfS, tTest, tB, tNot, tAnd, tOr, tChain, tOp, tUn, tC, tVar, tCons, tNil, tTup, tLst, tAsg, gName, gTup, gCons, gNil, gSub, tDrop, tCallS, tCB, tM1, tM0, tBM, tBM0, tSl, tPar, tFor_eq, tLc_eq, intU_int, intU_bl, iList, iTup, iEnumT, tDNewK, rSlT, rSlL, iRng1, iRng2, iStr, tThen, tNever, L2.start, tRaiseFile, tMkFile, tYes, tPart, tNoPart, addA_int, addA_str, addU_int, addU_str, addU_ref, subU_int, mulU_int, mulU_ref, fdvU_int, modU_int, powU_int, ltU_int, leU_int, gtU_int, geU_int, eqU_int, eqU_str, eqU_bl, neU_int, neU_str, neU_bl, WE, TruV, List.map, List.length_cons, List.length_nil, List.replicate, List.append, List.getElem?_cons_zero, List.getElem?_cons_succ, List.set_cons_zero, List.set_cons_succ, List.cons_append, List.nil_append, Option.some.injEq, V.int.injEq, V.str.injEq, V.bl.injEq, V.ref.injEq, List.cons.injEq, exists_eq_left, exists_eq_right, and_true, true_and, and_self, exists_eq, exists_const, Bool.not_true, Bool.not_false, Bool.false_eq_true, if_true, if_false, reduceIte, decide_eq_true_eq, bne_iff_ne, exists_eq_left', exists_eq', exists_and_left, Bool.not_eq_true', decide_eq_false_iff_not, Nat.reduceSub, Nat.reduceAdd, reduceCtorEq, false_and, or_false, false_or, exists_false]
      refine ⟨_, _, _, h1, T.cD, T.fD _ (by simp), _, rfl, ?_⟩; try simp only [cx_K, gcx_K, lcx_K, LenV, rLenU, tTruU, kTup, tFld, sFld, sFldAug, tMet, tMake, tBM, tDGet, tDGet1, tDGet2, sDPut, tRevL, iEnum, tAug, tAsg, mulV_int, iaddU_int, isubU_int, iaddU_str, tTupL, ex2eq, not_true_eq_false, not_false_eq_true, LamX.tLam, LamX.TTold, tSeq, tIf, tNext, tRet, tRetN, tIfS, tTest, tB, tNot, tAnd, tOr, tChain, tOp, tUn, tC, tVar, tCons, tNil, tTup, tLst, tAsg, gName, gTup, gCons, gNil, gSub, tDrop, tCallS, tCB, tM1, tM0, tBM, tBM0, tSl, tPar, tFor_eq, tLc_eq, intU_int, intU_bl, iList, iTup, iEnumT, tDNewK, rSlT, rSlL, iRng1, iRng2, iStr, tThen, tNever, L2.start, tRaiseFile, tMkFile, tYes, tPart, tNoPart, addA_int, addA_str, addU_int, addU_str, addU_ref, subU_int, mulU_int, mulU_ref, fdvU_int, modU_int, powU_int, ltU_int, leU_int, gtU_int, geU_int, eqU_int, eqU_str, eqU_bl, neU_int, neU_str, neU_bl, WE, TruV, List.map, List.length_cons, List.length_nil, List.replicate, List.append, List.getElem?_cons_zero, List.getElem?_cons_succ, List.set_cons_zero, List.set_cons_succ, List.cons_append, List.nil_append, Option.some.injEq, V.int.injEq, V.str.injEq, V.bl.injEq, V.ref.injEq, List.cons.injEq, exists_eq_left, exists_eq_right, and_true, true_and, and_self, exists_eq, exists_const, Bool.not_true, Bool.not_false, Bool.false_eq_true, if_true, if_false, reduceIte, decide_eq_true_eq, bne_iff_ne, exists_eq_left', exists_eq', exists_and_left, Bool.not_eq_true', decide_eq_false_iff_not, Nat.reduceSub, Nat.reduceAdd, reduceCtorEq, false_and, or_false, false_or, exists_false]
      simp only [hf, fz, cx_K, gcx_K, lcx_K, LenV, rLenU, tTruU, kTup, tFld, sFld, sFldAug, tMet, tMake, tBM, tDGet, tDGet1, tDGet2, sDPut, tRevL, iEnum, tAug, tAsg, mulV_int, iaddU_int, isubU_int, iaddU_str, tTupL, ex2eq, not_true_eq_false, not_false_eq_true, LamX.tLam, LamX.TTold, tSeq, tIf, tNext, tRet, tRetN, tIfS, tTest, tB, tNot, tAnd, tOr, tChain, tOp, tUn, tC, tVar, tCons, tNil, tTup, tLst, tAsg, gName, gTup, gCons, gNil, gSub, tDrop, tCallS, tCB, tM1, tM0, tBM, tBM0, tSl, tPar, tFor_eq, tLc_eq, intU_int, intU_bl, iList, iTup, iEnumT, tDNewK, rSlT, rSlL, iRng1, iRng2, iStr, tThen, tNever, L2.start, tRaiseFile, tMkFile, tYes, tPart, tNoPart, addA_int, addA_str, addU_int, addU_str, addU_ref, subU_int, mulU_int, mulU_ref, fdvU_int, modU_int, powU_int, ltU_int, leU_int, gtU_int, geU_int, eqU_int, eqU_str, eqU_bl, neU_int, neU_str, neU_bl, WE, TruV, List.map, List.length_cons, List.length_nil, List.replicate, List.append, List.getElem?_cons_zero, List.getElem?_cons_succ, List.set_cons_zero, List.set_cons_succ, List.cons_append, List.nil_append, Option.some.injEq, V.int.injEq, V.str.injEq, V.bl.injEq, V.ref.injEq, List.cons.injEq, exists_eq_left, exists_eq_right, and_true, true_and, and_self, exists_eq, exists_const, Bool.not_true, Bool.not_false, Bool.false_eq_true, if_true, if_false, reduceIte, decide_eq_true_eq, bne_iff_ne, exists_eq_left', exists_eq', exists_and_left, Bool.not_eq_true', decide_eq_false_iff_not, Nat.reduceSub, Nat.reduceAdd, reduceCtorEq, false_and, or_false, false_or, exists_false]
      by_cases hn : n = 0
      · have e1 : dstep v = ({ v with dead := true }, false) := by unfold dstep; rw [hd, hf]; simp [hn]
        rw [e1] at he
        rw [if_pos hn]
        exact ⟨_, _, _, h1, T.cD, T.fD _ (by simp), by show 7 < 1000; decide, he rfl _ (dev_put h1 h2 h3 h4 h5 rfl rfl)⟩
      · have e1 : dstep v = ({ v with fuse := some (n - 1), steps := v.steps + 1 }, true) := by unfold dstep; rw [hd, hf]; simp [hn]
        rw [e1] at hq
        rw [if_neg hn]
        refine ⟨_, _, _, h1, T.cD, T.fD _ (by simp), _, rfl, ?_⟩; try simp only [cx_K, gcx_K, lcx_K, LenV, rLenU, tTruU, kTup, tFld, sFld, sFldAug, tMet, tMake, tBM, tDGet, tDGet1, tDGet2, sDPut, tRevL, iEnum, tAug, tAsg, mulV_int, iaddU_int, isubU_int, iaddU_str, tTupL, ex2eq, not_true_eq_false, not_false_eq_true, LamX.tLam, LamX.TTold, tSeq, tIf, tNext, tRet, tRetN, tIfS, tTest, tB, tNot, tAnd, tOr, tChain, tOp, tUn, tC, tVar, tCons, tNil, tTup, tLst, tAsg, gName, gTup, gCons, gNil, gSub, tDrop, tCallS, tCB, tM1, tM0, tBM, tBM0, tSl, tPar, tFor_eq, tLc_eq, intU_int, intU_bl, iList, iTup, iEnumT, tDNewK, rSlT, rSlL, iRng1, iRng2, iStr, tThen, tNever, L2.start, tRaiseFile, tMkFile, tYes, tPart, tNoPart, addA_int, addA_str, addU_int, addU_str, addU_ref, subU_int, mulU_int, mulU_ref, fdvU_int, modU_int, powU_int, ltU_int, leU_int, gtU_int, geU_int, eqU_int, eqU_str, eqU_bl, neU_int, neU_str, neU_bl, WE, TruV, List.map, List.length_cons, List.length_nil, List.replicate, List.append, List.getElem?_cons_zero, List.getElem?_cons_succ, List.set_cons_zero, List.set_cons_succ, List.cons_append, List.nil_append, Option.some.injEq, V.int.injEq, V.str.injEq, V.bl.injEq, V.ref.injEq, List.cons.injEq, exists_eq_left, exists_eq_right, and_true, true_and, and_self, exists_eq, exists_const, Bool.not_true, Bool.not_false, Bool.false_eq_true, if_true, if_false, reduceIte, decide_eq_true_eq, bne_iff_ne, exists_eq_left', exists_eq', exists_and_left, Bool.not_eq_true', decide_eq_false_iff_not, Nat.reduceSub, Nat.reduceAdd, reduceCtorEq, false_and, or_false, false_or, exists_false]
        simp only [hf, fz, cx_K, gcx_K, lcx_K, LenV, rLenU, tTruU, kTup, tFld, sFld, sFldAug, tMet, tMake, tBM, tDGet, tDGet1, tDGet2, sDPut, tRevL, iEnum, tAug, tAsg, mulV_int, iaddU_int, isubU_int, iaddU_str, tTupL, ex2eq, not_true_eq_false, not_false_eq_true, LamX.tLam, LamX.TTold, tSeq, tIf, tNext, tRet, tRetN, tIfS, tTest, tB, tNot, tAnd, tOr, tChain, tOp, tUn, tC, tVar, tCons, tNil, tTup, tLst, tAsg, gName, gTup, gCons, gNil, gSub, tDrop, tCallS, tCB, tM1, tM0, tBM, tBM0, tSl, tPar, tFor_eq, tLc_eq, intU_int, intU_bl, iList, iTup, iEnumT, tDNewK, rSlT, rSlL, iRng1, iRng2, iStr, tThen, tNever, L2.start, tRaiseFile, tMkFile, tYes, tPart, tNoPart, addA_int, addA_str, addU_int, addU_str, addU_ref, subU_int, mulU_int, mulU_ref, fdvU_int, modU_int, powU_int, ltU_int, leU_int, gtU_int, geU_int, eqU_int, eqU_str, eqU_bl, neU_int, neU_str, neU_bl, WE, TruV, List.map, List.length_cons, List.length_nil, List.replicate, List.append, List.getElem?_cons_zero, List.getElem?_cons_succ, List.set_cons_zero, List.set_cons_succ, List.cons_append, List.nil_append, Option.some.injEq, V.int.injEq, V.str.injEq, V.bl.injEq, V.ref.injEq, List.cons.injEq, exists_eq_left, exists_eq_right, and_true, true_and, and_self, exists_eq, exists_const, Bool.not_true, Bool.not_false, Bool.false_eq_true, if_true, if_false, reduceIte, decide_eq_true_eq, bne_iff_ne, exists_eq_left', exists_eq', exists_and_left, Bool.not_eq_true', decide_eq_false_iff_not, Nat.reduceSub, Nat.reduceAdd, reduceCtorEq, false_and, or_false, false_or, exists_false]
        refine ⟨_, _, h1, by show 7 < 1000; decide, _, _, _, upd_same, T.cD, T.fD _ (by simp), _, rfl, ?_⟩
        simp only [cx_K, gcx_K, lcx_K, LenV, rLenU, tTruU, kTup, tFld, sFld, sFldAug, tMet, tMake, tBM, tDGet, tDGet1, tDGet2, sDPut, tRevL, iEnum, tAug, tAsg, mulV_int, iaddU_int, isubU_int, iaddU_str, tTupL, ex2eq, not_true_eq_false, not_false_eq_true, LamX.tLam, LamX.TTold, tSeq, tIf, tNext, tRet, tRetN, tIfS, tTest, tB, tNot, tAnd, tOr, tChain, tOp, tUn, tC, tVar, tCons, tNil, tTup, tLst, tAsg, gName, gTup, gCons, gNil, gSub, tDrop, tCallS, tCB, tM1, tM0, tBM, tBM0, tSl, tPar, tFor_eq, tLc_eq, intU_int, intU_bl, iList, iTup, iEnumT, tDNewK, rSlT, rSlL, iRng1, iRng2, iStr, tThen, tNever, L2.start, tRaiseFile, tMkFile, tYes, tPart, tNoPart, addA_int, addA_str, addU_int, addU_str, addU_ref, subU_int, mulU_int, mulU_ref, fdvU_int, modU_int, powU_int, ltU_int, leU_int, gtU_int, geU_int, eqU_int, eqU_str, eqU_bl, neU_int, neU_str, neU_bl, WE, TruV, List.map, List.length_cons, List.length_nil, List.replicate, List.append, List.getElem?_cons_zero, List.getElem?_cons_succ, List.set_cons_zero, List.set_cons_succ, List.cons_append, List.nil_append, Option.some.injEq, V.int.injEq, V.str.injEq, V.bl.injEq, V.ref.injEq, List.cons.injEq, exists_eq_left, exists_eq_right, and_true, true_and, and_self, exists_eq, exists_const, Bool.not_true, Bool.not_false, Bool.false_eq_true, if_true, if_false, reduceIte, decide_eq_true_eq, bne_iff_ne, exists_eq_left', exists_eq', exists_and_left, Bool.not_eq_true', decide_eq_false_iff_not, Nat.reduceSub, Nat.reduceAdd, reduceCtorEq, false_and, or_false, false_or, exists_false]
        refine ⟨_, _, upd_same, by show 7 < 1000; decide, ?_⟩
        rw [L2.upd_upd]
        exact hq rfl _ (dev_put h1 h2 h3 h4 h5 rfl rfl)
def spCheck (K : PySem.W.Frag) (CD DE : Addr) : Sp := fun vs H Q E => ∃ d v F n, vs = [.ref d, .int n] ∧ DevAt K CD H d v F ∧ (okNum v n = true → Q .non H) ∧ (okNum v n = false → E (.ref DE) none H)
theorem m_check (T : KB.Txt P w K mg base CD CJ DE JE jm TL GT) : Met P w K mg base 3 CD "check_number" [] (spCheck K CD DE) := by
  obtain ⟨f, fd, c, D, hm⟩ := T.d_check
  refine met_of T.cD hm ?_ (D.bind0 (ps := ["self", "number"]) (fun _ _ _ _ _ _ us hl => match us, hl with | [_, _], _ => rfl))
  refine D.okF (N := ["self", "number"]) (ps := ["self", "number"]) ⟨rfl, rfl, rfl, by decide +kernel, rfl, by decide +kernel, by decide +kernel⟩ (fun vs H Q E h => by first | (obtain ⟨_, rfl, _⟩ := h; rfl) | (obtain ⟨_, _, rfl, _⟩ := h; rfl) | (obtain ⟨_, _, _, rfl, _⟩ := h; rfl) | (obtain ⟨_, _, _, _, rfl, _⟩ := h; rfl) | (obtain ⟨_, _, _, _, _, rfl, _⟩ := h; rfl) | (obtain ⟨_, _, _, _, _, _, rfl, _⟩ := h; rfl) | (obtain ⟨_, _, _, _, _, _, _, rfl, _⟩ := h; rfl) | (obtain ⟨_, _, _, _, _, _, _, _, rfl, _⟩ := h; rfl) | (obtain ⟨rfl, _⟩ := h; rfl)) (fun A outer s H vs Q E hr h => ?_)
  have nd : (["self", "number"] : List Str).Nodup := by decide
  refine mk_ex (pss_cons (ps_if (pt_truU (K := K) rfl (by exact (pt_truth (fldK (K := K) rfl (pe_fld (pv 0) rfl)) (fun _ => rfl)))) (pss_one (ps_raise rfl (takes_of rfl rfl rfl rfl) (by exact (pmk_plain T.x_DeviceError)))) pss_nil)
    (pss_one (ps_if (pt_not (pt_chain opU_le opU_lt pe_int (pv 1) (fldK (K := K) rfl (pe_fld (pv 0) rfl)))) (pss_one (ps_raise rfl (takes_of rfl rfl rfl rfl) (by exact (pmk_plain T.x_DeviceError)))) pss_nil))) ?_
  obtain ⟨d, v, F, n, rfl, ⟨dx, b, w, kvs, ws, rfl, h1, h2, h3, h4, h5⟩, hq, he⟩ := h
  simp only [cx_K, gcx_K, lcx_K, LenV, rLenU, tTruU, kTup, tFld, sFld, sFldAug, tMet, tMake, tBM, tDGet, tDGet1, tDGet2, sDPut, tRevL, iEnum, tAug, tAsg, mulV_int, iaddU_int, isubU_int, iaddU_str, tTupL, ex2eq, not_true_eq_false, not_false_eq_true, LamX.tLam, LamX.TTold, tSeq, tIf, tNext, tRet, tRetN, tIfS, tTest, tB, tNot, tAnd, tOr, tChain, tOp, tUn, tC, tVar, tCons, tNil, tTup, tLst, tAsg, gName, gTup, gCons, gNil, gSub, tDrop, tCallS, tCB, tM1, tM0, tBM, tBM0, tSl, tPar, tFor_eq, tLc_eq, intU_int, intU_bl, iList, iTup, iEnumT, tDNewK, rSlT, rSlL, iRng1, iRng2, iStr, tThen, tNever, L2.start, tRaiseFile, tMkFile, tYes, tPart, tNoPart, addA_int, addA_str, addU_int, addU_str, addU_ref, subU_int, mulU_int, mulU_ref, fdvU_int, modU_int, powU_int, ltU_int, leU_int, gtU_int, geU_int, eqU_int, eqU_str, eqU_bl, neU_int, neU_str, neU_bl, WE, TruV, List.map, List.length_cons, List.length_nil, List.replicate, List.append, List.getElem?_cons_zero, List.getElem?_cons_succ, List.set_cons_zero, List.set_cons_succ, List.cons_append, List.nil_append, Option.some.injEq, V.int.injEq, V.str.injEq, V.bl.injEq, V.ref.injEq, List.cons.injEq, exists_eq_left, exists_eq_right, and_true, true_and, and_self, exists_eq, exists_const, Bool.not_true, Bool.not_false, Bool.false_eq_true, if_true, if_false, reduceIte, decide_eq_true_eq, bne_iff_ne, exists_eq_left', exists_eq', exists_and_left, Bool.not_eq_true', decide_eq_false_iff_not, Nat.reduceSub, Nat.reduceAdd, reduceCtorEq, false_and, or_false, false_or, exists_false]
  refine ⟨_, _, _, h1, T.cD, T.fD _ (by simp), _, rfl, ?_⟩; try simp only [cx_K, gcx_K, lcx_K, LenV, rLenU, tTruU, kTup, tFld, sFld, sFldAug, tMet, tMake, tBM, tDGet, tDGet1, tDGet2, sDPut, tRevL, iEnum, tAug, tAsg, mulV_int, iaddU_int, isubU_int, iaddU_str, tTupL, ex2eq, not_true_eq_false, not_false_eq_true, LamX.tLam, LamX.TTold, tSeq, tIf, tNext, tRet, tRetN, tIfS, tTest, tB, tNot, tAnd, tOr, tChain, tOp, tUn, tC, tVar, tCons, tNil, tTup, tLst, tAsg, gName, gTup, gCons, gNil, gSub, tDrop, tCallS, tCB, tM1, tM0, tBM, tBM0, tSl, tPar, tFor_eq, tLc_eq, intU_int, intU_bl, iList, iTup, iEnumT, tDNewK, rSlT, rSlL, iRng1, iRng2, iStr, tThen, tNever, L2.start, tRaiseFile, tMkFile, tYes, tPart, tNoPart, addA_int, addA_str, addU_int, addU_str, addU_ref, subU_int, mulU_int, mulU_ref, fdvU_int, modU_int, powU_int, ltU_int, leU_int, gtU_int, geU_int, eqU_int, eqU_str, eqU_bl, neU_int, neU_str, neU_bl, WE, TruV, List.map, List.length_cons, List.length_nil, List.replicate, List.append, List.getElem?_cons_zero, List.getElem?_cons_succ, List.set_cons_zero, List.set_cons_succ, List.cons_append, List.nil_append, Option.some.injEq, V.int.injEq, V.str.injEq, V.bl.injEq, V.ref.injEq, List.cons.injEq, exists_eq_left, exists_eq_right, and_true, true_and, and_self, exists_eq, exists_const, Bool.not_true, Bool.not_false, Bool.false_eq_true, if_true, if_false, reduceIte, decide_eq_true_eq, bne_iff_ne, exists_eq_left', exists_eq', exists_and_left, Bool.not_eq_true', decide_eq_false_iff_not, Nat.reduceSub, Nat.reduceAdd, reduceCtorEq, false_and, or_false, false_or, exists_false]
  unfold okNum at hq he
  cases hd : v.dead with
  | true =>
    rw [hd] at he
    simp only [cx_K, gcx_K, lcx_K, LenV, rLenU, tTruU, kTup, tFld, sFld, sFldAug, tMet, tMake, tBM, tDGet, tDGet1, tDGet2, sDPut, tRevL, iEnum, tAug, tAsg, mulV_int, iaddU_int, isubU_int, iaddU_str, tTupL, ex2eq, not_true_eq_false, not_false_eq_true, LamX.tLam, LamX.TTold, tSeq, tIf, tNext, tRet, tRetN, tIfS, tTest, tB, tNot, tAnd, tOr, tChain, tOp, tUn, tC, tVar, tCons, tNil, tTup, tLst, tAsg, gName, gTup, gCons, gNil, gSub, tDrop, tCallS, tCB, tM1, tM0, tBM, tBM0, tSl, tPar, tFor_eq, tLc_eq, intU_int, intU_bl, iList, iTup, iEnumT, tDNewK, rSlT, rSlL, iRng1, iRng2, iStr, tThen, tNever, L2.start, tRaiseFile, tMkFile, tYes, tPart, tNoPart, addA_int, addA_str, addU_int, addU_str, addU_ref, subU_int, mulU_int, mulU_ref, fdvU_int, modU_int, powU_int, ltU_int, leU_int, gtU_int, geU_int, eqU_int, eqU_str, eqU_bl, neU_int, neU_str, neU_bl, WE, TruV, List.map, List.length_cons, List.length_nil, List.replicate, List.append, List.getElem?_cons_zero, List.getElem?_cons_succ, List.set_cons_zero, List.set_cons_succ, List.cons_append, List.nil_append, Option.some.injEq, V.int.injEq, V.str.injEq, V.bl.injEq, V.ref.injEq, List.cons.injEq, exists_eq_left, exists_eq_right, and_true, true_and, and_self, exists_eq, exists_const, Bool.not_true, Bool.not_false, Bool.false_eq_true, if_true, if_false, reduceIte, decide_eq_true_eq, bne_iff_ne, exists_eq_left', exists_eq', exists_and_left, Bool.not_eq_true', decide_eq_false_iff_not, Nat.reduceSub, Nat.reduceAdd, reduceCtorEq, false_and, or_false, false_or, exists_false]
    exact he rfl
  | false =>
    rw [hd] at hq he
    simp only [cx_K, gcx_K, lcx_K, LenV, rLenU, tTruU, kTup, tFld, sFld, sFldAug, tMet, tMake, tBM, tDGet, tDGet1, tDGet2, sDPut, tRevL, iEnum, tAug, tAsg, mulV_int, iaddU_int, isubU_int, iaddU_str, tTupL, ex2eq, not_true_eq_false, not_false_eq_true, LamX.tLam, LamX.TTold, tSeq, tIf, tNext, tRet, tRetN, tIfS, tTest, tB, tNot, tAnd, tOr, tChain, tOp, tUn, tC, tVar, tCons, tNil, tTup, tLst, tAsg, gName, gTup, gCons, gNil, gSub, tDrop, tCallS, tCB, tM1, tM0, tBM, tBM0, tSl, tPar, tFor_eq, tLc_eq, intU_int, intU_bl, iList, iTup, iEnumT, tDNewK, rSlT, rSlL, iRng1, iRng2, iStr, tThen, tNever, L2.start, tRaiseFile, tMkFile, tYes, tPart, tNoPart, addA_int, addA_str, addU_int, addU_str, addU_ref, subU_int, mulU_int, mulU_ref, fdvU_int, modU_int, powU_int, ltU_int, leU_int, gtU_int, geU_int, eqU_int, eqU_str, eqU_bl, neU_int, neU_str, neU_bl, WE, TruV, List.map, List.length_cons, List.length_nil, List.replicate, List.append, List.getElem?_cons_zero, List.getElem?_cons_succ, List.set_cons_zero, List.set_cons_succ, List.cons_append, List.nil_append, Option.some.injEq, V.int.injEq, V.str.injEq, V.bl.injEq, V.ref.injEq, List.cons.injEq, exists_eq_left, exists_eq_right, and_true, true_and, and_self, exists_eq, exists_const, Bool.not_true, Bool.not_false, Bool.false_eq_true, if_true, if_false, reduceIte, decide_eq_true_eq, bne_iff_ne, exists_eq_left', exists_eq', exists_and_left, Bool.not_eq_true', decide_eq_false_iff_not, Nat.reduceSub, Nat.reduceAdd, reduceCtorEq, false_and, or_false, false_or, exists_false]
    by_cases h0 : 0 ≤ n
    · rw [if_pos h0]
      refine ⟨_, _, _, h1, T.cD, T.fD _ (by simp), _, rfl, ?_⟩; try simp only [cx_K, gcx_K, lcx_K, LenV, rLenU, tTruU, kTup, tFld, sFld, sFldAug, tMet, tMake, tBM, tDGet, tDGet1, tDGet2, sDPut, tRevL, iEnum, tAug, tAsg, mulV_int, iaddU_int, isubU_int, iaddU_str, tTupL, ex2eq, not_true_eq_false, not_false_eq_true, LamX.tLam, LamX.TTold, tSeq, tIf, tNext, tRet, tRetN, tIfS, tTest, tB, tNot, tAnd, tOr, tChain, tOp, tUn, tC, tVar, tCons, tNil, tTup, tLst, tAsg, gName, gTup, gCons, gNil, gSub, tDrop, tCallS, tCB, tM1, tM0, tBM, tBM0, tSl, tPar, tFor_eq, tLc_eq, intU_int, intU_bl, iList, iTup, iEnumT, tDNewK, rSlT, rSlL, iRng1, iRng2, iStr, tThen, tNever, L2.start, tRaiseFile, tMkFile, tYes, tPart, tNoPart, addA_int, addA_str, addU_int, addU_str, addU_ref, subU_int, mulU_int, mulU_ref, fdvU_int, modU_int, powU_int, ltU_int, leU_int, gtU_int, geU_int, eqU_int, eqU_str, eqU_bl, neU_int, neU_str, neU_bl, WE, TruV, List.map, List.length_cons, List.length_nil, List.replicate, List.append, List.getElem?_cons_zero, List.getElem?_cons_succ, List.set_cons_zero, List.set_cons_succ, List.cons_append, List.nil_append, Option.some.injEq, V.int.injEq, V.str.injEq, V.bl.injEq, V.ref.injEq, List.cons.injEq, exists_eq_left, exists_eq_right, and_true, true_and, and_self, exists_eq, exists_const, Bool.not_true, Bool.not_false, Bool.false_eq_true, if_true, if_false, reduceIte, decide_eq_true_eq, bne_iff_ne, exists_eq_left', exists_eq', exists_and_left, Bool.not_eq_true', decide_eq_false_iff_not, Nat.reduceSub, Nat.reduceAdd, reduceCtorEq, false_and, or_false, false_or, exists_false]
      by_cases h9 : n < v.total
      · simp [h0, h9] at hq
        simpa [h9] using hq
      · simp [h0, h9] at he
        simpa [h9] using he
    · rw [if_neg h0]
      simp [h0] at he
      exact he
def spArm (K : PySem.W.Frag) (CD : Addr) (TL : List (Addr × Str)) (GT : List Addr) : Sp := fun vs H Q E => ∃ d v F n, vs = [.ref d, fz n] ∧ DevAt K CD H d v F ∧ ∀ H', Aft K CD TL GT H d F { v with fuse := n } H' → Q .non H'
theorem m_arm (T : KB.Txt P w K mg base CD CJ DE JE jm TL GT) : Met P w K mg base 3 CD "arm" [] (spArm K CD TL GT) := by
  obtain ⟨f, fd, c, D, hm⟩ := T.d_arm
  refine met_of T.cD hm ?_ (D.bind0 (ps := ["self", "steps"]) (fun _ _ _ _ _ _ us hl => match us, hl with | [_, _], _ => rfl))
  refine D.okF (N := ["self", "steps"]) (ps := ["self", "steps"]) ⟨rfl, rfl, rfl, by decide +kernel, rfl, by decide +kernel, by decide +kernel⟩ (fun vs H Q E h => by first | (obtain ⟨_, rfl, _⟩ := h; rfl) | (obtain ⟨_, _, rfl, _⟩ := h; rfl) | (obtain ⟨_, _, _, rfl, _⟩ := h; rfl) | (obtain ⟨_, _, _, _, rfl, _⟩ := h; rfl) | (obtain ⟨_, _, _, _, _, rfl, _⟩ := h; rfl) | (obtain ⟨_, _, _, _, _, _, rfl, _⟩ := h; rfl) | (obtain ⟨_, _, _, _, _, _, _, rfl, _⟩ := h; rfl) | (obtain ⟨_, _, _, _, _, _, _, _, rfl, _⟩ := h; rfl) | (obtain ⟨rfl, _⟩ := h; rfl)) (fun A outer s H vs Q E hr h => ?_)
  have nd : (["self", "steps"] : List Str).Nodup := by decide
  refine mk_ex (pss_one (sFldK (K := K) rfl (ps_fld (pv 0) (pv 1) rfl))) ?_
  obtain ⟨d, v, F, n, rfl, ⟨dx, b, w, kvs, ws, rfl, h1, h2, h3, h4, h5⟩, hq⟩ := h
  simp only [cx_K, gcx_K, lcx_K, LenV, rLenU, tTruU, kTup, tFld, sFld, sFldAug, tMet, tMake, tBM, tDGet, tDGet1, tDGet2, sDPut, tRevL, iEnum, tAug, tAsg, mulV_int, iaddU_int, isubU_int, iaddU_str, tTupL, ex2eq, not_true_eq_false, not_false_eq_true, LamX.tLam, LamX.TTold, tSeq, tIf, tNext, tRet, tRetN, tIfS, tTest, tB, tNot, tAnd, tOr, tChain, tOp, tUn, tC, tVar, tCons, tNil, tTup, tLst, tAsg, gName, gTup, gCons, gNil, gSub, tDrop, tCallS, tCB, tM1, tM0, tBM, tBM0, tSl, tPar, tFor_eq, tLc_eq, intU_int, intU_bl, iList, iTup, iEnumT, tDNewK, rSlT, rSlL, iRng1, iRng2, iStr, tThen, tNever, L2.start, tRaiseFile, tMkFile, tYes, tPart, tNoPart, addA_int, addA_str, addU_int, addU_str, addU_ref, subU_int, mulU_int, mulU_ref, fdvU_int, modU_int, powU_int, ltU_int, leU_int, gtU_int, geU_int, eqU_int, eqU_str, eqU_bl, neU_int, neU_str, neU_bl, WE, TruV, List.map, List.length_cons, List.length_nil, List.replicate, List.append, List.getElem?_cons_zero, List.getElem?_cons_succ, List.set_cons_zero, List.set_cons_succ, List.cons_append, List.nil_append, Option.some.injEq, V.int.injEq, V.str.injEq, V.bl.injEq, V.ref.injEq, List.cons.injEq, exists_eq_left, exists_eq_right, and_true, true_and, and_self, exists_eq, exists_const, Bool.not_true, Bool.not_false, Bool.false_eq_true, if_true, if_false, reduceIte, decide_eq_true_eq, bne_iff_ne, exists_eq_left', exists_eq', exists_and_left, Bool.not_eq_true', decide_eq_false_iff_not, Nat.reduceSub, Nat.reduceAdd, reduceCtorEq, false_and, or_false, false_or, exists_false]
  exact ⟨_, _, _, h1, T.cD, T.fD _ (by simp), by show 7 < 1000; decide, hq _ (dev_put (v' := { v with fuse := n }) h1 h2 h3 h4 h5 rfl rfl)⟩
theorem dstep_same (v : Dv) : (dstep v).1.blocks = v.blocks ∧ (dstep v).1.waiting = v.waiting ∧ (dstep v).1.total = v.total := by
  unfold dstep
  repeat' split
  all_goals exact ⟨rfl, rfl, rfl⟩
def spWrite (K : PySem.W.Frag) (CD DE : Addr) (TL : List (Addr × Str)) (GT : List Addr) : Sp := fun vs H Q E => ∃ d v F n u x, vs = [.ref d, .int n, u] ∧ DevAt K CD H d v F ∧ TI K H u x ∧ v.waiting.length < 10000 ∧
  ((dwrite v n x).2 = true → ∀ H', Aft K CD TL GT H d F (dwrite v n x).1 H' → Q .non H') ∧ ((dwrite v n x).2 = false → ∀ H', Aft K CD TL GT H d F (dwrite v n x).1 H' → E (.ref DE) none H')
theorem m_write (T : KB.Txt P w K mg base CD CJ DE JE jm TL GT) : Met P w K mg base 5 CD "write_block" [] (spWrite K CD DE TL GT) := by
  have m_Device_step := m_step (TL := TL) (GT := GT) T
  have m_Device_check_number := m_check T
  obtain ⟨f, fd, c, D, hm⟩ := T.d_write
  refine met_of T.cD hm ?_ (D.bind0 (ps := ["self", "number", "data"]) (fun _ _ _ _ _ _ us hl => match us, hl with | [_, _, _], _ => rfl))
  refine D.okF (N := ["self", "number", "data"]) (ps := ["self", "number", "data"]) ⟨rfl, rfl, rfl, by decide +kernel, rfl, by decide +kernel, by decide +kernel⟩ (fun vs H Q E h => by first | (obtain ⟨_, rfl, _⟩ := h; rfl) | (obtain ⟨_, _, rfl, _⟩ := h; rfl) | (obtain ⟨_, _, _, rfl, _⟩ := h; rfl) | (obtain ⟨_, _, _, _, rfl, _⟩ := h; rfl) | (obtain ⟨_, _, _, _, _, rfl, _⟩ := h; rfl) | (obtain ⟨_, _, _, _, _, _, rfl, _⟩ := h; rfl) | (obtain ⟨_, _, _, _, _, _, _, rfl, _⟩ := h; rfl) | (obtain ⟨_, _, _, _, _, _, _, _, rfl, _⟩ := h; rfl) | (obtain ⟨rfl, _⟩ := h; rfl)) (fun A outer s H vs Q E hr h => ?_)
  have nd : (["self", "number", "data"] : List Str).Nodup := by decide
  refine mk_ex (pss_cons (ps_expr (pe_met m_Device_check_number (hr.mono (by decide)) (takes_of rfl rfl rfl rfl) (pv 0) (by exact (pa_cons (pv 1) pa_nil))))
    (pss_cons (ps_if (pt_cmpR (opK (K := K) (r := rNeU) (opU_ne (roomEq hr)) rfl) (pe_callB (call_lenU (K := K) rfl) rfl T.n_len rfl (by exact (pa_cons (pv 2) pa_nil))) (fldK (K := K) rfl (pe_fld (pv 0) rfl)) (nomark _)) (pss_one (ps_raise rfl (takes_of rfl rfl rfl rfl) (by exact (pmk_plain T.x_DeviceError)))) pss_nil)
    (pss_cons (ps_expr (pe_met0 m_Device_step (hr.mono (by decide)) (takes_of rfl rfl rfl rfl) (pv 0)))
    (pss_one (ps_expr (bmK (K := K) rfl (pe_bm PySem.F.plainAttrs_list PySem.F.slot_list_append PySem.F.type_list_append mt_append (fldK (K := K) rfl (pe_fld (pv 0) rfl)) (by exact (pa_cons (pe_tup (pa_cons (pv 1) (pa_cons (tupOfK (K := K) rfl (pe_tupleOf rfl T.n_tuple (pv 2))) pa_nil))) pa_nil))))))))) ?_
  obtain ⟨d, v, F, n, u, x, rfl, hD, hu, hw, hq, he⟩ := h
  obtain ⟨dx, b, w, kvs, ws, rfl, h1, h2, h3, h4, h5⟩ := id hD
  simp only [cx_K, gcx_K, lcx_K, LenV, rLenU, tTruU, kTup, tFld, sFld, sFldAug, tMet, tMake, tBM, tDGet, tDGet1, tDGet2, sDPut, tRevL, iEnum, tAug, tAsg, mulV_int, iaddU_int, isubU_int, iaddU_str, tTupL, ex2eq, not_true_eq_false, not_false_eq_true, LamX.tLam, LamX.TTold, tSeq, tIf, tNext, tRet, tRetN, tIfS, tTest, tB, tNot, tAnd, tOr, tChain, tOp, tUn, tC, tVar, tCons, tNil, tTup, tLst, tAsg, gName, gTup, gCons, gNil, gSub, tDrop, tCallS, tCB, tM1, tM0, tBM, tBM0, tSl, tPar, tFor_eq, tLc_eq, intU_int, intU_bl, iList, iTup, iEnumT, tDNewK, rSlT, rSlL, iRng1, iRng2, iStr, tThen, tNever, L2.start, tRaiseFile, tMkFile, tYes, tPart, tNoPart, addA_int, addA_str, addU_int, addU_str, addU_ref, subU_int, mulU_int, mulU_ref, fdvU_int, modU_int, powU_int, ltU_int, leU_int, gtU_int, geU_int, eqU_int, eqU_str, eqU_bl, neU_int, neU_str, neU_bl, WE, TruV, List.map, List.length_cons, List.length_nil, List.replicate, List.append, List.getElem?_cons_zero, List.getElem?_cons_succ, List.set_cons_zero, List.set_cons_succ, List.cons_append, List.nil_append, Option.some.injEq, V.int.injEq, V.str.injEq, V.bl.injEq, V.ref.injEq, List.cons.injEq, exists_eq_left, exists_eq_right, and_true, true_and, and_self, exists_eq, exists_const, Bool.not_true, Bool.not_false, Bool.false_eq_true, if_true, if_false, reduceIte, decide_eq_true_eq, bne_iff_ne, exists_eq_left', exists_eq', exists_and_left, Bool.not_eq_true', decide_eq_false_iff_not, Nat.reduceSub, Nat.reduceAdd, reduceCtorEq, false_and, or_false, false_or, exists_false]
  refine ⟨_, _, h1, rfl, d, v, _, n, rfl, hD, fun hk => ?_, fun hk => ?_⟩
  rotate_left
  · have e1 : dwrite v n x = (v, false) := by unfold dwrite; rw [if_pos hk]
    rw [e1] at he
    exact he rfl _ (Aft.refl hD)
  have hk' : ¬ okNum v n = false := by rw [hk]; simp
  obtain ⟨pu, rfl, hpu⟩ := id hu
  simp only [cx_K, gcx_K, lcx_K, LenV, rLenU, tTruU, kTup, tFld, sFld, sFldAug, tMet, tMake, tBM, tDGet, tDGet1, tDGet2, sDPut, tRevL, iEnum, tAug, tAsg, mulV_int, iaddU_int, isubU_int, iaddU_str, tTupL, ex2eq, not_true_eq_false, not_false_eq_true, LamX.tLam, LamX.TTold, tSeq, tIf, tNext, tRet, tRetN, tIfS, tTest, tB, tNot, tAnd, tOr, tChain, tOp, tUn, tC, tVar, tCons, tNil, tTup, tLst, tAsg, gName, gTup, gCons, gNil, gSub, tDrop, tCallS, tCB, tM1, tM0, tBM, tBM0, tSl, tPar, tFor_eq, tLc_eq, intU_int, intU_bl, iList, iTup, iEnumT, tDNewK, rSlT, rSlL, iRng1, iRng2, iStr, tThen, tNever, L2.start, tRaiseFile, tMkFile, tYes, tPart, tNoPart, addA_int, addA_str, addU_int, addU_str, addU_ref, subU_int, mulU_int, mulU_ref, fdvU_int, modU_int, powU_int, ltU_int, leU_int, gtU_int, geU_int, eqU_int, eqU_str, eqU_bl, neU_int, neU_str, neU_bl, WE, TruV, List.map, List.length_cons, List.length_nil, List.replicate, List.append, List.getElem?_cons_zero, List.getElem?_cons_succ, List.set_cons_zero, List.set_cons_succ, List.cons_append, List.nil_append, Option.some.injEq, V.int.injEq, V.str.injEq, V.bl.injEq, V.ref.injEq, List.cons.injEq, exists_eq_left, exists_eq_right, and_true, true_and, and_self, exists_eq, exists_const, Bool.not_true, Bool.not_false, Bool.false_eq_true, if_true, if_false, reduceIte, decide_eq_true_eq, bne_iff_ne, exists_eq_left', exists_eq', exists_and_left, Bool.not_eq_true', decide_eq_false_iff_not, Nat.reduceSub, Nat.reduceAdd, reduceCtorEq, false_and, or_false, false_or, exists_false]
  refine ⟨x.length, .inr ⟨_, hpu, by simp⟩, _, _, _, h1, T.cD, T.fD _ (by simp), _, rfl, ?_⟩
  simp only [cx_K, gcx_K, lcx_K, LenV, rLenU, tTruU, kTup, tFld, sFld, sFldAug, tMet, tMake, tBM, tDGet, tDGet1, tDGet2, sDPut, tRevL, iEnum, tAug, tAsg, mulV_int, iaddU_int, isubU_int, iaddU_str, tTupL, ex2eq, not_true_eq_false, not_false_eq_true, LamX.tLam, LamX.TTold, tSeq, tIf, tNext, tRet, tRetN, tIfS, tTest, tB, tNot, tAnd, tOr, tChain, tOp, tUn, tC, tVar, tCons, tNil, tTup, tLst, tAsg, gName, gTup, gCons, gNil, gSub, tDrop, tCallS, tCB, tM1, tM0, tBM, tBM0, tSl, tPar, tFor_eq, tLc_eq, intU_int, intU_bl, iList, iTup, iEnumT, tDNewK, rSlT, rSlL, iRng1, iRng2, iStr, tThen, tNever, L2.start, tRaiseFile, tMkFile, tYes, tPart, tNoPart, addA_int, addA_str, addU_int, addU_str, addU_ref, subU_int, mulU_int, mulU_ref, fdvU_int, modU_int, powU_int, ltU_int, leU_int, gtU_int, geU_int, eqU_int, eqU_str, eqU_bl, neU_int, neU_str, neU_bl, WE, TruV, List.map, List.length_cons, List.length_nil, List.replicate, List.append, List.getElem?_cons_zero, List.getElem?_cons_succ, List.set_cons_zero, List.set_cons_succ, List.cons_append, List.nil_append, Option.some.injEq, V.int.injEq, V.str.injEq, V.bl.injEq, V.ref.injEq, List.cons.injEq, exists_eq_left, exists_eq_right, and_true, true_and, and_self, exists_eq, exists_const, Bool.not_true, Bool.not_false, Bool.false_eq_true, if_true, if_false, reduceIte, decide_eq_true_eq, bne_iff_ne, exists_eq_left', exists_eq', exists_and_left, Bool.not_eq_true', decide_eq_false_iff_not, Nat.reduceSub, Nat.reduceAdd, reduceCtorEq, false_and, or_false, false_or, exists_false]
  by_cases hl : x.length = 64
  rotate_left
  · have e1 : dwrite v n x = (v, false) := by unfold dwrite; rw [if_neg hk', if_pos hl]
    rw [e1] at he
    rw [if_pos (by omega)]
    exact he rfl _ (Aft.refl hD)
  rw [if_neg (by omega)]
  have hl' : ¬ x.length ≠ 64 := by simp [hl]
  refine ⟨_, _, h1, rfl, d, v, _, rfl, hD, fun ho H1 a1 => ?_, fun ho H1 a1 => ?_⟩
  rotate_left
  · have e1 : dwrite v n x = dstep v := by unfold dwrite; rw [if_neg hk', if_neg hl', if_neg (by rw [ho]; simp)]
    rw [e1] at he
    exact he ho _ a1
  have e1 : dwrite v n x = ({ (dstep v).1 with waiting := (dstep v).1.waiting ++ [(n, x)] }, true) := by unfold dwrite; rw [if_neg hk', if_neg hl', if_pos ho]
  rw [e1] at hq
  obtain ⟨e, F', D', hF⟩ := a1
  obtain ⟨dx', b', w', kvs', ws', rfl, g1, g2, g3, g4, g5⟩ := id D'
  refine ⟨_, _, _, g1, T.cD, T.fD _ (by simp), _, rfl, .inl ⟨rfl, _, lst_at g3⟩, ?_⟩
  have hpu1 := e.sqt hpu
  have hw5 : ws'.length < 10000 := by rw [paired_len g5, (dstep_same v).2.1]; exact hw
  refine .inr ⟨_, hpu1, sz 2, fun q hq1 => ⟨w', ws', .ref q, rfl, rfl, ?_, ?_, ?_⟩⟩
  · rw [upd_ne (ne_of_none g3 hq1)]; exact g3
  · rw [sizeLine_eq]; omega
  · have e2 : Ex [d, b, w] TL GT H (upd H1 q (.tup [.int n, .ref pu])) := e.add hq1
    have n3 : upd H1 q (.tup [.int n, .ref pu]) w' = some (.lst ws') := by rw [upd_ne (ne_of_none g3 hq1)]; exact g3
    have e3 : Ex [d, b, w] TL GT H (upd (upd H1 q (.tup [.int n, .ref pu])) w' (.lst (ws' ++ [.ref q]))) := e2.chg n3 rfl (hF w' (by simp))
    have eX : Ex [w'] TL GT H1 (upd (upd H1 q (.tup [.int n, .ref pu])) w' (.lst (ws' ++ [.ref q]))) := (Ex.new hq1).chg n3 rfl (.inl (by simp))
    refine hq rfl _ ⟨e3, [d, b', w'], ⟨dx', b', w', kvs', _, rfl, ?_, ?_, upd_same, pimp (fun _ _ => KvAt.ex eX) g4, ?_⟩, hF⟩
    · rw [upd_ne (ne_kind g1 g3 rfl (fun z => by cases z)), upd_ne (ne_of_none g1 hq1)]; exact g1
    · rw [upd_ne (ne_kind g2 g3 rfl (fun z => by cases z)), upd_ne (ne_of_none g2 hq1)]; exact g2
    · refine paired_append (pimp (fun _ _ => PairAt.ex eX) g5) (.cons ⟨q, .ref pu, rfl, tup_at (by rw [upd_ne (Ne.symm (ne_of_none g3 hq1))]; exact upd_same), ⟨pu, rfl, eX.sqt hpu1⟩⟩ .nil)
def spFlush (K : PySem.W.Frag) (CD DE : Addr) (TL : List (Addr × Str)) (GT : List Addr) : Sp := fun vs H Q E => ∃ d v F, vs = [.ref d] ∧ DevAt K CD H d v F ∧ v.waiting.length + v.blocks.length < 10000 ∧
  ((dflush v).2 = true → ∀ H', Aft K CD TL GT H d F (dflush v).1 H' → Q .non H') ∧ ((dflush v).2 = false → ∀ H', Aft K CD TL GT H d F (dflush v).1 H' → E (.ref DE) none H')
theorem m_flush (T : KB.Txt P w K mg base CD CJ DE JE jm TL GT) : Met P w K mg base 5 CD "flush" [] (spFlush K CD DE TL GT) := by
  have m_Device_step := m_step (TL := TL) (GT := GT) T
  obtain ⟨f, fd, c, D, hm⟩ := T.d_flush
  refine met_of T.cD hm ?_ (D.bind0 (ps := ["self"]) (fun _ _ _ _ _ _ us hl => match us, hl with | [_], _ => rfl))
  refine D.okF (N := ["self", "number", "data"]) (ps := ["self"]) ⟨rfl, rfl, rfl, by decide +kernel, rfl, by decide +kernel, by decide +kernel⟩ (fun vs H Q E h => by first | (obtain ⟨_, rfl, _⟩ := h; rfl) | (obtain ⟨_, _, rfl, _⟩ := h; rfl) | (obtain ⟨_, _, _, rfl, _⟩ := h; rfl) | (obtain ⟨_, _, _, _, rfl, _⟩ := h; rfl) | (obtain ⟨_, _, _, _, _, rfl, _⟩ := h; rfl) | (obtain ⟨_, _, _, _, _, _, rfl, _⟩ := h; rfl) | (obtain ⟨_, _, _, _, _, _, _, rfl, _⟩ := h; rfl) | (obtain ⟨_, _, _, _, _, _, _, _, rfl, _⟩ := h; rfl) | (obtain ⟨rfl, _⟩ := h; rfl)) (fun A outer s H vs Q E hr h => ?_)
  have nd : (["self", "number", "data"] : List Str).Nodup := by decide
  refine mk_ex (pss_cons (ps_expr (pe_met0 m_Device_step (hr.mono (by decide)) (takes_of rfl rfl rfl rfl) (pv 0)))
    (pss_cons (ps_for (passes_of rfl) rfl (ilK (K := K) rfl (pi_list (fldK (K := K) rfl (pe_fld (pv 0) rfl)))) (tupGK (K := K) rfl (pg_tup (n := 2) rfl (pgs_cons (pg_name (i := 1) nd rfl (Or.inl rfl)) (pgs_cons (pg_name (i := 2) nd rfl (Or.inl rfl)) pgs_nil)))) (pss_one (ps_dput (roomD hr) (fldK (K := K) rfl (pe_fld (pv 0) rfl)) (pv 1) (pv 2) rfl)))
    (pss_one (sFldK (K := K) rfl (ps_fld (pv 0) (pe_lst pa_nil) rfl))))) ?_
  obtain ⟨d, v, F, rfl, hD, hw, hq, he⟩ := h
  obtain ⟨dx, b, w, kvs, ws, rfl, h1, h2, h3, h4, h5⟩ := id hD
  simp only [cx_K, gcx_K, lcx_K, LenV, rLenU, tTruU, kTup, tFld, sFld, sFldAug, tMet, tMake, tBM, tDGet, tDGet1, tDGet2, sDPut, tRevL, iEnum, tAug, tAsg, mulV_int, iaddU_int, isubU_int, iaddU_str, tTupL, ex2eq, not_true_eq_false, not_false_eq_true, LamX.tLam, LamX.TTold, tSeq, tIf, tNext, tRet, tRetN, tIfS, tTest, tB, tNot, tAnd, tOr, tChain, tOp, tUn, tC, tVar, tCons, tNil, tTup, tLst, tAsg, gName, gTup, gCons, gNil, gSub, tDrop, tCallS, tCB, tM1, tM0, tBM, tBM0, tSl, tPar, tFor_eq, tLc_eq, intU_int, intU_bl, iList, iTup, iEnumT, tDNewK, rSlT, rSlL, iRng1, iRng2, iStr, tThen, tNever, L2.start, tRaiseFile, tMkFile, tYes, tPart, tNoPart, addA_int, addA_str, addU_int, addU_str, addU_ref, subU_int, mulU_int, mulU_ref, fdvU_int, modU_int, powU_int, ltU_int, leU_int, gtU_int, geU_int, eqU_int, eqU_str, eqU_bl, neU_int, neU_str, neU_bl, WE, TruV, List.map, List.length_cons, List.length_nil, List.replicate, List.append, List.getElem?_cons_zero, List.getElem?_cons_succ, List.set_cons_zero, List.set_cons_succ, List.cons_append, List.nil_append, Option.some.injEq, V.int.injEq, V.str.injEq, V.bl.injEq, V.ref.injEq, List.cons.injEq, exists_eq_left, exists_eq_right, and_true, true_and, and_self, exists_eq, exists_const, Bool.not_true, Bool.not_false, Bool.false_eq_true, if_true, if_false, reduceIte, decide_eq_true_eq, bne_iff_ne, exists_eq_left', exists_eq', exists_and_left, Bool.not_eq_true', decide_eq_false_iff_not, Nat.reduceSub, Nat.reduceAdd, reduceCtorEq, false_and, or_false, false_or, exists_false]
  refine ⟨_, _, h1, rfl, d, v, _, rfl, hD, fun ho H1 a1 => ?_, fun ho H1 a1 => ?_⟩
  rotate_left
  · have e1 : dflush v = dstep v := by unfold dflush; rw [if_neg (by rw [ho]; simp)]
    rw [e1] at he
    exact he ho _ a1
  have e1 : dflush v = ({ (dstep v).1 with blocks := (dstep v).1.waiting.foldl (fun l p => putB l p.1 p.2) (dstep v).1.blocks, waiting := [] }, true) := by unfold dflush; rw [if_pos ho]
  rw [e1] at hq
  obtain ⟨e, F', D', hF⟩ := a1
  obtain ⟨dx', b', w', kvs', ws', rfl, g1, g2, g3, g4, g5⟩ := id D'
  refine ⟨_, _, _, g1, T.cD, T.fD _ (by simp), _, rfl, _, rfl, ⟨_, lst_at g3⟩, ?_⟩
  generalize hv : (dstep v).1 = v1 at *
  have hb9 : v1.blocks.length + v1.waiting.length < 10000 := by
    have z := dstep_same v
    rw [hv] at z
    rw [z.1, z.2.1]
    omega
  refine loop_list (xs := ws') (fun i σ H' => ∃ s1 s2 ks, σ = [some (.ref d), s1, s2] ∧ Ex [b'] TL GT H1 H' ∧ H' b' = some (.dK ks) ∧ Paired (KvAt K H') ks ((v1.waiting.take i).foldl (fun l p => putB l p.1 p.2) v1.blocks) ∧ ks.length ≤ v1.blocks.length + i)
    ⟨_, _, kvs', rfl, Ex.refl, g2, g4, by rw [paired_len g4]; omega⟩ (fun i σ H' _ ⟨_, _, _, _, eX, _⟩ => eX.sql (by simpa using ne_kind g3 g2 rfl (fun z => by cases z)) (lst_at g3)) ?_ ?_
  · rintro i x σ H' hx ⟨s1, s2, ks, rfl, eX, hk, hP, hl⟩
    obtain ⟨bk, hbk, q, u, rfl, hq2, hu⟩ := paired_at g5 hx
    simp only [cx_K, gcx_K, lcx_K, LenV, rLenU, tTruU, kTup, tFld, sFld, sFldAug, tMet, tMake, tBM, tDGet, tDGet1, tDGet2, sDPut, tRevL, iEnum, tAug, tAsg, mulV_int, iaddU_int, isubU_int, iaddU_str, tTupL, ex2eq, not_true_eq_false, not_false_eq_true, LamX.tLam, LamX.TTold, tSeq, tIf, tNext, tRet, tRetN, tIfS, tTest, tB, tNot, tAnd, tOr, tChain, tOp, tUn, tC, tVar, tCons, tNil, tTup, tLst, tAsg, gName, gTup, gCons, gNil, gSub, tDrop, tCallS, tCB, tM1, tM0, tBM, tBM0, tSl, tPar, tFor_eq, tLc_eq, intU_int, intU_bl, iList, iTup, iEnumT, tDNewK, rSlT, rSlL, iRng1, iRng2, iStr, tThen, tNever, L2.start, tRaiseFile, tMkFile, tYes, tPart, tNoPart, addA_int, addA_str, addU_int, addU_str, addU_ref, subU_int, mulU_int, mulU_ref, fdvU_int, modU_int, powU_int, ltU_int, leU_int, gtU_int, geU_int, eqU_int, eqU_str, eqU_bl, neU_int, neU_str, neU_bl, WE, TruV, List.map, List.length_cons, List.length_nil, List.replicate, List.append, List.getElem?_cons_zero, List.getElem?_cons_succ, List.set_cons_zero, List.set_cons_succ, List.cons_append, List.nil_append, Option.some.injEq, V.int.injEq, V.str.injEq, V.bl.injEq, V.ref.injEq, List.cons.injEq, exists_eq_left, exists_eq_right, and_true, true_and, and_self, exists_eq, exists_const, Bool.not_true, Bool.not_false, Bool.false_eq_true, if_true, if_false, reduceIte, decide_eq_true_eq, bne_iff_ne, exists_eq_left', exists_eq', exists_and_left, Bool.not_eq_true', decide_eq_false_iff_not, Nat.reduceSub, Nat.reduceAdd, reduceCtorEq, false_and, or_false, false_or, exists_false]
    have gd : H' d = some (.ins CD dx' (flds b' w' v1)) := eX.ext d _ (by simpa using ne_kind g1 g2 rfl (fun z => by cases z)) g1 (fun _ z => by cases z)
    have hP' : i < v1.waiting.length := by
      rcases Nat.lt_or_ge i v1.waiting.length with z | z
      · exact z
      · rw [List.getElem?_eq_none z] at hbk; cases hbk
    have e3 : Ex [b'] TL GT H1 (upd H' b' (.dK (putK ks (.inl bk.1) u))) := eX.chg hk rfl (.inl (by simp))
    have e4 : Ex [b'] TL GT H' (upd H' b' (.dK (putK ks (.inl bk.1) u))) := Ex.put (by simp) hk rfl
    refine ⟨_, eX.sqt hq2, rfl, _, _, rfl, _, _, rfl, rfl, _, _, _, gd, T.cD, T.fD _ (by simp), _, rfl, b', rfl, _, DPut.k (k := .inl bk.1) hk (by rw [sizeLine_eq]; omega), e3, _, upd_same, ?_, ?_⟩
    · rw [take_more hbk, List.foldl_append]
      exact put_ok (hu.ex e3) (pimp (fun _ _ => KvAt.ex e4) hP)
    · exact Nat.le_trans (putK_len _ _ _) (by omega)
  · rintro σ H' ⟨s1, s2, ks, rfl, eX, hk, hP, hl⟩
    simp only [cx_K, gcx_K, lcx_K, LenV, rLenU, tTruU, kTup, tFld, sFld, sFldAug, tMet, tMake, tBM, tDGet, tDGet1, tDGet2, sDPut, tRevL, iEnum, tAug, tAsg, mulV_int, iaddU_int, isubU_int, iaddU_str, tTupL, ex2eq, not_true_eq_false, not_false_eq_true, LamX.tLam, LamX.TTold, tSeq, tIf, tNext, tRet, tRetN, tIfS, tTest, tB, tNot, tAnd, tOr, tChain, tOp, tUn, tC, tVar, tCons, tNil, tTup, tLst, tAsg, gName, gTup, gCons, gNil, gSub, tDrop, tCallS, tCB, tM1, tM0, tBM, tBM0, tSl, tPar, tFor_eq, tLc_eq, intU_int, intU_bl, iList, iTup, iEnumT, tDNewK, rSlT, rSlL, iRng1, iRng2, iStr, tThen, tNever, L2.start, tRaiseFile, tMkFile, tYes, tPart, tNoPart, addA_int, addA_str, addU_int, addU_str, addU_ref, subU_int, mulU_int, mulU_ref, fdvU_int, modU_int, powU_int, ltU_int, leU_int, gtU_int, geU_int, eqU_int, eqU_str, eqU_bl, neU_int, neU_str, neU_bl, WE, TruV, List.map, List.length_cons, List.length_nil, List.replicate, List.append, List.getElem?_cons_zero, List.getElem?_cons_succ, List.set_cons_zero, List.set_cons_succ, List.cons_append, List.nil_append, Option.some.injEq, V.int.injEq, V.str.injEq, V.bl.injEq, V.ref.injEq, List.cons.injEq, exists_eq_left, exists_eq_right, and_true, true_and, and_self, exists_eq, exists_const, Bool.not_true, Bool.not_false, Bool.false_eq_true, if_true, if_false, reduceIte, decide_eq_true_eq, bne_iff_ne, exists_eq_left', exists_eq', exists_and_left, Bool.not_eq_true', decide_eq_false_iff_not, Nat.reduceSub, Nat.reduceAdd, reduceCtorEq, false_and, or_false, false_or, exists_false]
    have gd : H' d = some (.ins CD dx' (flds b' w' v1)) := eX.ext d _ (by simpa using ne_kind g1 g2 rfl (fun z => by cases z)) g1 (fun _ z => by cases z)
    rw [paired_len g5, List.take_length] at hP
    refine ⟨sz 0, fun p hp => ⟨_, _, _, by rw [upd_ne (ne_of_none gd hp)]; exact gd, T.cD, T.fD _ (by simp), by show 7 < 1000; decide, hq rfl _ ?_⟩⟩
    have e5 : Ex [d, b, w] TL GT H H' := ex_behind e (fun x hx => hF x (by simp at hx; simp [hx])) eX
    have e6 : Ex [d, b, w] TL GT H (upd H' p (.lst [])) := e5.add hp
    have gd2 : upd H' p (.lst []) d = some (.ins CD dx' (flds b' w' v1)) := by rw [upd_ne (ne_of_none gd hp)]; exact gd
    have e8 : Ex [d] TL GT H' (upd (upd H' p (.lst [])) d (.ins CD dx' (putF "waiting" (.ref p) (flds b' w' v1)))) := (Ex.new hp).chg gd2 rfl (.inl (by simp))
    refine ⟨e6.chg gd2 rfl (.inl (by simp)), [d, b', p], ⟨dx', b', p, ks, [], rfl, upd_same, ?_, ?_, pimp (fun _ _ => KvAt.ex e8) hP, .nil⟩, fun a ha => ?_⟩
    · rw [upd_ne (ne_kind hk gd rfl (fun z => by cases z)), upd_ne (ne_of_none hk hp)]; exact hk
    · rw [upd_ne (Ne.symm (ne_of_none gd hp))]; exact upd_same
    · have hF' := hF a
      simp only [List.mem_cons, List.not_mem_nil, or_false] at ha hF' ⊢
      rcases ha with rfl | rfl | rfl
      · exact hF' (.inl rfl)
      · exact hF' (.inr (.inl rfl))
      · exact (by simpa using e5.fresh (free_none hp))
def spRead (K : PySem.W.Frag) (CD DE : Addr) (TL : List (Addr × Str)) (GT : List Addr) : Sp := fun vs H Q E => ∃ d v F n, vs = [.ref d, .int n] ∧ DevAt K CD H d v F ∧
  (okNum v n = true → ∀ u H', Ex [] TL GT H H' → TI K H' u (dread v n) → Q u H') ∧ (okNum v n = false → E (.ref DE) none H)
theorem m_read (T : KB.Txt P w K mg base CD CJ DE JE jm TL GT) : Met P w K mg base 5 CD "read" [] (spRead K CD DE TL GT) := by
  have m_Device_check_number := m_check T
  obtain ⟨f, fd, c, D, hm⟩ := T.d_read
  refine met_of T.cD hm ?_ (D.bind0 (ps := ["self", "number"]) (fun _ _ _ _ _ _ us hl => match us, hl with | [_, _], _ => rfl))
  refine D.okF (N := ["self", "number", "one", "data"]) (ps := ["self", "number"]) ⟨rfl, rfl, rfl, by decide +kernel, rfl, by decide +kernel, by decide +kernel⟩ (fun vs H Q E h => by first | (obtain ⟨_, rfl, _⟩ := h; rfl) | (obtain ⟨_, _, rfl, _⟩ := h; rfl) | (obtain ⟨_, _, _, rfl, _⟩ := h; rfl) | (obtain ⟨_, _, _, _, rfl, _⟩ := h; rfl) | (obtain ⟨_, _, _, _, _, rfl, _⟩ := h; rfl) | (obtain ⟨_, _, _, _, _, _, rfl, _⟩ := h; rfl) | (obtain ⟨_, _, _, _, _, _, _, rfl, _⟩ := h; rfl) | (obtain ⟨_, _, _, _, _, _, _, _, rfl, _⟩ := h; rfl) | (obtain ⟨rfl, _⟩ := h; rfl)) (fun A outer s H vs Q E hr h => ?_)
  have nd : (["self", "number", "one", "data"] : List Str).Nodup := by decide
  refine mk_ex (pss_cons (ps_expr (pe_met m_Device_check_number (hr.mono (by decide)) (takes_of rfl rfl rfl rfl) (pv 0) (by exact (pa_cons (pv 1) pa_nil))))
    (pss_cons (ps_for (passes_of rfl) rfl (ilK (K := K) rfl (pi_list (revK (K := K) rfl (pe_revL (fldK (K := K) rfl (pe_fld (pv 0) rfl)))))) (tupGK (K := K) rfl (pg_tup (n := 2) rfl (pgs_cons (pg_name (i := 2) nd rfl (Or.inl rfl)) (pgs_cons (pg_name (i := 3) nd rfl (Or.inl rfl)) pgs_nil)))) (pss_one (ps_if (pt_cmpR (opK (K := K) (r := rEqU) (opU_eq (roomEq hr)) rfl) (pv 2) (pv 1) (nomark _)) (pss_one (ps_ret (pv 3))) pss_nil)))
    (pss_one (ps_ret (pe_dget2 (roomD hr) (fldK (K := K) rfl (pe_fld (pv 0) rfl)) (pv 1) (pe_op (opK (K := K) (r := rMulV) opV_mul rfl) (pe_tup (pa_cons pe_int pa_nil)) (fldK (K := K) rfl (pe_fld (pv 0) rfl))) ⟨rfl, rfl, rfl, rfl⟩))))) ?_
  obtain ⟨d, v, F, n, rfl, hD, hq, he⟩ := h
  obtain ⟨dx, b, w, kvs, ws, rfl, h1, h2, h3, h4, h5⟩ := id hD
  simp only [cx_K, gcx_K, lcx_K, LenV, rLenU, tTruU, kTup, tFld, sFld, sFldAug, tMet, tMake, tBM, tDGet, tDGet1, tDGet2, sDPut, tRevL, iEnum, tAug, tAsg, mulV_int, iaddU_int, isubU_int, iaddU_str, tTupL, ex2eq, not_true_eq_false, not_false_eq_true, LamX.tLam, LamX.TTold, tSeq, tIf, tNext, tRet, tRetN, tIfS, tTest, tB, tNot, tAnd, tOr, tChain, tOp, tUn, tC, tVar, tCons, tNil, tTup, tLst, tAsg, gName, gTup, gCons, gNil, gSub, tDrop, tCallS, tCB, tM1, tM0, tBM, tBM0, tSl, tPar, tFor_eq, tLc_eq, intU_int, intU_bl, iList, iTup, iEnumT, tDNewK, rSlT, rSlL, iRng1, iRng2, iStr, tThen, tNever, L2.start, tRaiseFile, tMkFile, tYes, tPart, tNoPart, addA_int, addA_str, addU_int, addU_str, addU_ref, subU_int, mulU_int, mulU_ref, fdvU_int, modU_int, powU_int, ltU_int, leU_int, gtU_int, geU_int, eqU_int, eqU_str, eqU_bl, neU_int, neU_str, neU_bl, WE, TruV, List.map, List.length_cons, List.length_nil, List.replicate, List.append, List.getElem?_cons_zero, List.getElem?_cons_succ, List.set_cons_zero, List.set_cons_succ, List.cons_append, List.nil_append, Option.some.injEq, V.int.injEq, V.str.injEq, V.bl.injEq, V.ref.injEq, List.cons.injEq, exists_eq_left, exists_eq_right, and_true, true_and, and_self, exists_eq, exists_const, Bool.not_true, Bool.not_false, Bool.false_eq_true, if_true, if_false, reduceIte, decide_eq_true_eq, bne_iff_ne, exists_eq_left', exists_eq', exists_and_left, Bool.not_eq_true', decide_eq_false_iff_not, Nat.reduceSub, Nat.reduceAdd, reduceCtorEq, false_and, or_false, false_or, exists_false]
  refine ⟨_, _, h1, rfl, d, v, _, n, rfl, hD, fun hk => ?_, fun hk => he hk⟩
  refine ⟨_, _, _, h1, T.cD, T.fD _ (by simp), _, rfl, ?_⟩; try simp only [cx_K, gcx_K, lcx_K, LenV, rLenU, tTruU, kTup, tFld, sFld, sFldAug, tMet, tMake, tBM, tDGet, tDGet1, tDGet2, sDPut, tRevL, iEnum, tAug, tAsg, mulV_int, iaddU_int, isubU_int, iaddU_str, tTupL, ex2eq, not_true_eq_false, not_false_eq_true, LamX.tLam, LamX.TTold, tSeq, tIf, tNext, tRet, tRetN, tIfS, tTest, tB, tNot, tAnd, tOr, tChain, tOp, tUn, tC, tVar, tCons, tNil, tTup, tLst, tAsg, gName, gTup, gCons, gNil, gSub, tDrop, tCallS, tCB, tM1, tM0, tBM, tBM0, tSl, tPar, tFor_eq, tLc_eq, intU_int, intU_bl, iList, iTup, iEnumT, tDNewK, rSlT, rSlL, iRng1, iRng2, iStr, tThen, tNever, L2.start, tRaiseFile, tMkFile, tYes, tPart, tNoPart, addA_int, addA_str, addU_int, addU_str, addU_ref, subU_int, mulU_int, mulU_ref, fdvU_int, modU_int, powU_int, ltU_int, leU_int, gtU_int, geU_int, eqU_int, eqU_str, eqU_bl, neU_int, neU_str, neU_bl, WE, TruV, List.map, List.length_cons, List.length_nil, List.replicate, List.append, List.getElem?_cons_zero, List.getElem?_cons_succ, List.set_cons_zero, List.set_cons_succ, List.cons_append, List.nil_append, Option.some.injEq, V.int.injEq, V.str.injEq, V.bl.injEq, V.ref.injEq, List.cons.injEq, exists_eq_left, exists_eq_right, and_true, true_and, and_self, exists_eq, exists_const, Bool.not_true, Bool.not_false, Bool.false_eq_true, if_true, if_false, reduceIte, decide_eq_true_eq, bne_iff_ne, exists_eq_left', exists_eq', exists_and_left, Bool.not_eq_true', decide_eq_false_iff_not, Nat.reduceSub, Nat.reduceAdd, reduceCtorEq, false_and, or_false, false_or, exists_false]
  refine ⟨_, lst_at h3, fun p hp => ⟨⟨_, lst_at upd_same⟩, ?_⟩⟩
  have h5r := paired_rev h5
  have er : Ex [] TL GT H (upd H p (.lst ws.reverse)) := Ex.new hp
  refine loop_list (xs := ws.reverse) (fun i σ H' => ∃ s1 s2, σ = [some (.ref d), some (.int n), s1, s2] ∧ Ex [] TL GT H H' ∧ H' p = some (.lst ws.reverse) ∧ getB (v.waiting.reverse.take i) n = none)
    ⟨_, _, rfl, er, upd_same, rfl⟩ (fun i σ H' _ ⟨_, _, _, _, z, _⟩ => lst_at z) ?_ ?_
  · rintro i x σ H' hx ⟨s1, s2, rfl, eX, hl, hn⟩
    obtain ⟨bk, hbk, q, u, rfl, hq2, hu⟩ := paired_at h5r hx
    simp only [cx_K, gcx_K, lcx_K, LenV, rLenU, tTruU, kTup, tFld, sFld, sFldAug, tMet, tMake, tBM, tDGet, tDGet1, tDGet2, sDPut, tRevL, iEnum, tAug, tAsg, mulV_int, iaddU_int, isubU_int, iaddU_str, tTupL, ex2eq, not_true_eq_false, not_false_eq_true, LamX.tLam, LamX.TTold, tSeq, tIf, tNext, tRet, tRetN, tIfS, tTest, tB, tNot, tAnd, tOr, tChain, tOp, tUn, tC, tVar, tCons, tNil, tTup, tLst, tAsg, gName, gTup, gCons, gNil, gSub, tDrop, tCallS, tCB, tM1, tM0, tBM, tBM0, tSl, tPar, tFor_eq, tLc_eq, intU_int, intU_bl, iList, iTup, iEnumT, tDNewK, rSlT, rSlL, iRng1, iRng2, iStr, tThen, tNever, L2.start, tRaiseFile, tMkFile, tYes, tPart, tNoPart, addA_int, addA_str, addU_int, addU_str, addU_ref, subU_int, mulU_int, mulU_ref, fdvU_int, modU_int, powU_int, ltU_int, leU_int, gtU_int, geU_int, eqU_int, eqU_str, eqU_bl, neU_int, neU_str, neU_bl, WE, TruV, List.map, List.length_cons, List.length_nil, List.replicate, List.append, List.getElem?_cons_zero, List.getElem?_cons_succ, List.set_cons_zero, List.set_cons_succ, List.cons_append, List.nil_append, Option.some.injEq, V.int.injEq, V.str.injEq, V.bl.injEq, V.ref.injEq, List.cons.injEq, exists_eq_left, exists_eq_right, and_true, true_and, and_self, exists_eq, exists_const, Bool.not_true, Bool.not_false, Bool.false_eq_true, if_true, if_false, reduceIte, decide_eq_true_eq, bne_iff_ne, exists_eq_left', exists_eq', exists_and_left, Bool.not_eq_true', decide_eq_false_iff_not, Nat.reduceSub, Nat.reduceAdd, reduceCtorEq, false_and, or_false, false_or, exists_false]
    refine ⟨_, eX.sqt hq2, rfl, _, _, rfl, _, _, rfl, rfl, ?_⟩
    simp only [cx_K, gcx_K, lcx_K, LenV, rLenU, tTruU, kTup, tFld, sFld, sFldAug, tMet, tMake, tBM, tDGet, tDGet1, tDGet2, sDPut, tRevL, iEnum, tAug, tAsg, mulV_int, iaddU_int, isubU_int, iaddU_str, tTupL, ex2eq, not_true_eq_false, not_false_eq_true, LamX.tLam, LamX.TTold, tSeq, tIf, tNext, tRet, tRetN, tIfS, tTest, tB, tNot, tAnd, tOr, tChain, tOp, tUn, tC, tVar, tCons, tNil, tTup, tLst, tAsg, gName, gTup, gCons, gNil, gSub, tDrop, tCallS, tCB, tM1, tM0, tBM, tBM0, tSl, tPar, tFor_eq, tLc_eq, intU_int, intU_bl, iList, iTup, iEnumT, tDNewK, rSlT, rSlL, iRng1, iRng2, iStr, tThen, tNever, L2.start, tRaiseFile, tMkFile, tYes, tPart, tNoPart, addA_int, addA_str, addU_int, addU_str, addU_ref, subU_int, mulU_int, mulU_ref, fdvU_int, modU_int, powU_int, ltU_int, leU_int, gtU_int, geU_int, eqU_int, eqU_str, eqU_bl, neU_int, neU_str, neU_bl, WE, TruV, List.map, List.length_cons, List.length_nil, List.replicate, List.append, List.getElem?_cons_zero, List.getElem?_cons_succ, List.set_cons_zero, List.set_cons_succ, List.cons_append, List.nil_append, Option.some.injEq, V.int.injEq, V.str.injEq, V.bl.injEq, V.ref.injEq, List.cons.injEq, exists_eq_left, exists_eq_right, and_true, true_and, and_self, exists_eq, exists_const, Bool.not_true, Bool.not_false, Bool.false_eq_true, if_true, if_false, reduceIte, decide_eq_true_eq, bne_iff_ne, exists_eq_left', exists_eq', exists_and_left, Bool.not_eq_true', decide_eq_false_iff_not, Nat.reduceSub, Nat.reduceAdd, reduceCtorEq, false_and, or_false, false_or, exists_false]
    by_cases hb : bk.1 = n
    · rw [if_pos hb]
      refine hq hk u H' eX ?_
      have e1 : dread v n = bk.2 := by
        unfold dread
        rw [getB_at hbk hn hb]
      rw [e1]
      exact hu.ex eX
    · rw [if_neg hb]
      refine ⟨eX, hl, ?_⟩
      rw [take_more hbk]
      exact getB_none hn hb
  · rintro σ H' ⟨s1, s2, rfl, eX, hl, hn⟩
    rw [paired_len h5r, List.take_length] at hn
    simp only [cx_K, gcx_K, lcx_K, LenV, rLenU, tTruU, kTup, tFld, sFld, sFldAug, tMet, tMake, tBM, tDGet, tDGet1, tDGet2, sDPut, tRevL, iEnum, tAug, tAsg, mulV_int, iaddU_int, isubU_int, iaddU_str, tTupL, ex2eq, not_true_eq_false, not_false_eq_true, LamX.tLam, LamX.TTold, tSeq, tIf, tNext, tRet, tRetN, tIfS, tTest, tB, tNot, tAnd, tOr, tChain, tOp, tUn, tC, tVar, tCons, tNil, tTup, tLst, tAsg, gName, gTup, gCons, gNil, gSub, tDrop, tCallS, tCB, tM1, tM0, tBM, tBM0, tSl, tPar, tFor_eq, tLc_eq, intU_int, intU_bl, iList, iTup, iEnumT, tDNewK, rSlT, rSlL, iRng1, iRng2, iStr, tThen, tNever, L2.start, tRaiseFile, tMkFile, tYes, tPart, tNoPart, addA_int, addA_str, addU_int, addU_str, addU_ref, subU_int, mulU_int, mulU_ref, fdvU_int, modU_int, powU_int, ltU_int, leU_int, gtU_int, geU_int, eqU_int, eqU_str, eqU_bl, neU_int, neU_str, neU_bl, WE, TruV, List.map, List.length_cons, List.length_nil, List.replicate, List.append, List.getElem?_cons_zero, List.getElem?_cons_succ, List.set_cons_zero, List.set_cons_succ, List.cons_append, List.nil_append, Option.some.injEq, V.int.injEq, V.str.injEq, V.bl.injEq, V.ref.injEq, List.cons.injEq, exists_eq_left, exists_eq_right, and_true, true_and, and_self, exists_eq, exists_const, Bool.not_true, Bool.not_false, Bool.false_eq_true, if_true, if_false, reduceIte, decide_eq_true_eq, bne_iff_ne, exists_eq_left', exists_eq', exists_and_left, Bool.not_eq_true', decide_eq_false_iff_not, Nat.reduceSub, Nat.reduceAdd, reduceCtorEq, false_and, or_false, false_or, exists_false]
    have gd : H' d = some (.ins CD dx (flds b w v)) := eX.ext d _ (by simp) h1 (fun _ z => by cases z)
    have gb : H' b = some (.dK kvs) := eX.ext b _ (by simp) h2 (fun _ z => by cases z)
    have gz : ∀ p, H' p = none → upd H' p (.tup [.int 0]) d = some (.ins CD dx (flds b w v)) := fun p hp => by rw [upd_ne (ne_of_none gd hp)]; exact gd
    refine ⟨_, _, _, gd, T.cD, T.fD _ (by simp), _, rfl, b, rfl, .inl ⟨kvs, .inl gb⟩, by decide, fun p hp => ⟨_, _, _, gz p hp, T.cD, T.fD _ (by simp), _, rfl, ?_⟩⟩
    refine mulV_tup (SqT.of upd_same) (by simp) (by decide) (by decide) (by decide) (by simp) fun r hr => ?_
    have e2 : Ex [] TL GT H (upd (upd H' p (.tup [.int 0])) r (.tup (List.replicate (64 : Int).toNat [V.int 0]).flatten)) := (eX.add hp).add hr
    have gb2 : upd (upd H' p (.tup [.int 0])) r (.tup (List.replicate (64 : Int).toNat [V.int 0]).flatten) b = some (.dK kvs) := e2.ext b _ (by simp) h2 (fun _ z => by cases z)
    refine ⟨_, DGet.k (k := .inl n) gb2, hq hk _ _ e2 ?_⟩
    have e1 : dread v n = (getB v.blocks n).getD zeros := by unfold dread; rw [hn]
    have hg := get_ok n (pimp (fun _ _ => KvAt.ex e2) h4)
    rw [e1]
    revert hg
    cases valV kvs (Sum.inl n) with
    | some u =>
      rintro ⟨x, hx, hu⟩
      rw [hx]
      exact hu
    | none =>
      intro hg
      rw [hg]
      exact ⟨r, rfl, SqT.of (by rw [upd_same]; rfl)⟩
end
end KB
set_option Elab.async false
set_option linter.all false
set_option maxRecDepth 100000
set_option maxHeartbeats 2000000
namespace KB
open PySem PySem.Spec PyProof.Rows L2 GX
section
variable {P : Program} {w : World} {K : PySem.W.Frag} {mg : Str → Option Value} {base : Heap} {CD CJ DE JE jm : Addr} {TL : List (Addr × Str)} {GT : List Addr}
/-- what a new device takes its blocks from -/
def BlkAt (K : PySem.W.Frag) (H : Hp) (x : V) (l : List Blk) : Prop := (x = .non ∧ l = []) ∨ ∃ b kvs, x = .ref b ∧ H b = some (.dK kvs) ∧ Paired (KvAt K H) kvs l
def newDv (n : Int) (l : List Blk) : Dv := ⟨n, l, [], none, false, 0⟩
def spInit (K : PySem.W.Frag) (CD : Addr) (TL : List (Addr × Str)) (GT : List Addr) : Sp := fun vs H Q E => ∃ d n x l dx, vs = [.ref d, .int 64, .int n, x] ∧ H d = some (.ins CD dx []) ∧ BlkAt K H x l ∧
  ∀ H' F, Ex [d] TL GT H H' → DevAt K CD H' d (newDv n l) F → (∀ a ∈ F, a = d ∨ free H a) → Q .non H'
theorem f_init (T : KB.Txt P w K mg base CD CJ DE JE jm TL GT) : ∃ f fd c, MDef K "__init__" "Device.__init__" (inClass (top 16) 0) [.non] f fd c ∧ Mk K CD f ∧ FnOk P w K mg base (L2.CX P w) 3 f fd ["self", "block_size", "count", "blocks"] (spInit K CD TL GT) := by
  obtain ⟨f, fd, c, D, hm⟩ := T.d_init
  refine ⟨f, fd, c, D, hm, ?_⟩
  refine D.okF (N := ["self", "block_size", "count", "blocks"]) (ps := ["self", "block_size", "count", "blocks"]) ⟨rfl, rfl, rfl, by decide +kernel, rfl, by decide +kernel, by decide +kernel⟩ (fun vs H Q E h => by first | (obtain ⟨_, rfl, _⟩ := h; rfl) | (obtain ⟨_, _, rfl, _⟩ := h; rfl) | (obtain ⟨_, _, _, rfl, _⟩ := h; rfl) | (obtain ⟨_, _, _, _, rfl, _⟩ := h; rfl) | (obtain ⟨_, _, _, _, _, rfl, _⟩ := h; rfl) | (obtain ⟨_, _, _, _, _, _, rfl, _⟩ := h; rfl) | (obtain ⟨_, _, _, _, _, _, _, rfl, _⟩ := h; rfl) | (obtain ⟨_, _, _, _, _, _, _, _, rfl, _⟩ := h; rfl) | (obtain ⟨rfl, _⟩ := h; rfl)) (fun A outer s H vs Q E hr h => ?_)
  have nd : (["self", "block_size", "count", "blocks"] : List Str).Nodup := by decide
  refine mk_ex (pss_cons (sFldK (K := K) rfl (ps_fld (pv 0) (pv 1) rfl))
    (pss_cons (sFldK (K := K) rfl (ps_fld (pv 0) (pv 2) rfl))
    (pss_cons (sFldK (K := K) rfl (ps_fld (pv 0) (pe_ifExp (pt_cmpR op_isN (pv 3) pe_non (nomark _)) pe_dnewK (pe_callTy call_dictD rfl T.n_dict rfl (by exact (pa_cons (pv 3) pa_nil)))) rfl))
    (pss_cons (sFldK (K := K) rfl (ps_fld (pv 0) (pe_lst pa_nil) rfl))
    (pss_cons (sFldK (K := K) rfl (ps_fld (pv 0) pe_non rfl))
    (pss_cons (sFldK (K := K) rfl (ps_fld (pv 0) pe_bl rfl))
    (pss_one (sFldK (K := K) rfl (ps_fld (pv 0) pe_int rfl))))))))) ?_
  obtain ⟨d, n, x, l, dx, rfl, h1, hx, hq⟩ := h
  simp only [cx_K, gcx_K, lcx_K, LenV, rLenU, tTruU, kTup, tFld, sFld, sFldAug, tMet, tMake, tBM, tDGet, tDGet1, tDGet2, sDPut, tRevL, iEnum, tAug, tAsg, mulV_int, iaddU_int, isubU_int, iaddU_str, tTupL, ex2eq, not_true_eq_false, not_false_eq_true, LamX.tLam, LamX.TTold, tSeq, tIf, tNext, tRet, tRetN, tIfS, tTest, tB, tNot, tAnd, tOr, tChain, tOp, tUn, tC, tVar, tCons, tNil, tTup, tLst, tAsg, gName, gTup, gCons, gNil, gSub, tDrop, tCallS, tCB, tM1, tM0, tBM, tBM0, tSl, tPar, tFor_eq, tLc_eq, intU_int, intU_bl, iList, iTup, iEnumT, tDNewK, rSlT, rSlL, iRng1, iRng2, iStr, tThen, tNever, L2.start, tRaiseFile, tMkFile, tYes, tPart, tNoPart, addA_int, addA_str, addU_int, addU_str, addU_ref, subU_int, mulU_int, mulU_ref, fdvU_int, modU_int, powU_int, ltU_int, leU_int, gtU_int, geU_int, eqU_int, eqU_str, eqU_bl, neU_int, neU_str, neU_bl, WE, TruV, List.map, List.length_cons, List.length_nil, List.replicate, List.append, List.getElem?_cons_zero, List.getElem?_cons_succ, List.set_cons_zero, List.set_cons_succ, List.cons_append, List.nil_append, Option.some.injEq, V.int.injEq, V.str.injEq, V.bl.injEq, V.ref.injEq, List.cons.injEq, exists_eq_left, exists_eq_right, and_true, true_and, and_self, exists_eq, exists_const, Bool.not_true, Bool.not_false, Bool.false_eq_true, if_true, if_false, reduceIte, decide_eq_true_eq, bne_iff_ne, exists_eq_left', exists_eq', exists_and_left, Bool.not_eq_true', decide_eq_false_iff_not, Nat.reduceSub, Nat.reduceAdd, reduceCtorEq, false_and, or_false, false_or, exists_false]
  refine ⟨_, _, _, h1, T.cD, T.fD _ (by simp), (by first | (show 0 < 1000; decide) | (show 1 < 1000; decide) | (show 2 < 1000; decide) | (show 3 < 1000; decide) | (show 4 < 1000; decide) | (show 5 < 1000; decide) | (show 6 < 1000; decide) | (show 7 < 1000; decide)), ?_⟩; try simp only [cx_K, gcx_K, lcx_K, LenV, rLenU, tTruU, kTup, tFld, sFld, sFldAug, tMet, tMake, tBM, tDGet, tDGet1, tDGet2, sDPut, tRevL, iEnum, tAug, tAsg, mulV_int, iaddU_int, isubU_int, iaddU_str, tTupL, ex2eq, not_true_eq_false, not_false_eq_true, LamX.tLam, LamX.TTold, tSeq, tIf, tNext, tRet, tRetN, tIfS, tTest, tB, tNot, tAnd, tOr, tChain, tOp, tUn, tC, tVar, tCons, tNil, tTup, tLst, tAsg, gName, gTup, gCons, gNil, gSub, tDrop, tCallS, tCB, tM1, tM0, tBM, tBM0, tSl, tPar, tFor_eq, tLc_eq, intU_int, intU_bl, iList, iTup, iEnumT, tDNewK, rSlT, rSlL, iRng1, iRng2, iStr, tThen, tNever, L2.start, tRaiseFile, tMkFile, tYes, tPart, tNoPart, addA_int, addA_str, addU_int, addU_str, addU_ref, subU_int, mulU_int, mulU_ref, fdvU_int, modU_int, powU_int, ltU_int, leU_int, gtU_int, geU_int, eqU_int, eqU_str, eqU_bl, neU_int, neU_str, neU_bl, WE, TruV, List.map, List.length_cons, List.length_nil, List.replicate, List.append, List.getElem?_cons_zero, List.getElem?_cons_succ, List.set_cons_zero, List.set_cons_succ, List.cons_append, List.nil_append, Option.some.injEq, V.int.injEq, V.str.injEq, V.bl.injEq, V.ref.injEq, List.cons.injEq, exists_eq_left, exists_eq_right, and_true, true_and, and_self, exists_eq, exists_const, Bool.not_true, Bool.not_false, Bool.false_eq_true, if_true, if_false, reduceIte, decide_eq_true_eq, bne_iff_ne, exists_eq_left', exists_eq', exists_and_left, Bool.not_eq_true', decide_eq_false_iff_not, Nat.reduceSub, Nat.reduceAdd, reduceCtorEq, false_and, or_false, false_or, exists_false]
  refine ⟨_, _, _, upd_same, T.cD, T.fD _ (by simp), (by first | (show 0 < 1000; decide) | (show 1 < 1000; decide) | (show 2 < 1000; decide) | (show 3 < 1000; decide) | (show 4 < 1000; decide) | (show 5 < 1000; decide) | (show 6 < 1000; decide) | (show 7 < 1000; decide)), ?_⟩; try simp only [cx_K, gcx_K, lcx_K, LenV, rLenU, tTruU, kTup, tFld, sFld, sFldAug, tMet, tMake, tBM, tDGet, tDGet1, tDGet2, sDPut, tRevL, iEnum, tAug, tAsg, mulV_int, iaddU_int, isubU_int, iaddU_str, tTupL, ex2eq, not_true_eq_false, not_false_eq_true, LamX.tLam, LamX.TTold, tSeq, tIf, tNext, tRet, tRetN, tIfS, tTest, tB, tNot, tAnd, tOr, tChain, tOp, tUn, tC, tVar, tCons, tNil, tTup, tLst, tAsg, gName, gTup, gCons, gNil, gSub, tDrop, tCallS, tCB, tM1, tM0, tBM, tBM0, tSl, tPar, tFor_eq, tLc_eq, intU_int, intU_bl, iList, iTup, iEnumT, tDNewK, rSlT, rSlL, iRng1, iRng2, iStr, tThen, tNever, L2.start, tRaiseFile, tMkFile, tYes, tPart, tNoPart, addA_int, addA_str, addU_int, addU_str, addU_ref, subU_int, mulU_int, mulU_ref, fdvU_int, modU_int, powU_int, ltU_int, leU_int, gtU_int, geU_int, eqU_int, eqU_str, eqU_bl, neU_int, neU_str, neU_bl, WE, TruV, List.map, List.length_cons, List.length_nil, List.replicate, List.append, List.getElem?_cons_zero, List.getElem?_cons_succ, List.set_cons_zero, List.set_cons_succ, List.cons_append, List.nil_append, Option.some.injEq, V.int.injEq, V.str.injEq, V.bl.injEq, V.ref.injEq, List.cons.injEq, exists_eq_left, exists_eq_right, and_true, true_and, and_self, exists_eq, exists_const, Bool.not_true, Bool.not_false, Bool.false_eq_true, if_true, if_false, reduceIte, decide_eq_true_eq, bne_iff_ne, exists_eq_left', exists_eq', exists_and_left, Bool.not_eq_true', decide_eq_false_iff_not, Nat.reduceSub, Nat.reduceAdd, reduceCtorEq, false_and, or_false, false_or, exists_false]
  rcases hx with ⟨rfl, rfl⟩ | ⟨b0, kvs, rfl, hb0, hp⟩
  · simp only [cx_K, gcx_K, lcx_K, LenV, rLenU, tTruU, kTup, tFld, sFld, sFldAug, tMet, tMake, tBM, tDGet, tDGet1, tDGet2, sDPut, tRevL, iEnum, tAug, tAsg, mulV_int, iaddU_int, isubU_int, iaddU_str, tTupL, ex2eq, not_true_eq_false, not_false_eq_true, LamX.tLam, LamX.TTold, tSeq, tIf, tNext, tRet, tRetN, tIfS, tTest, tB, tNot, tAnd, tOr, tChain, tOp, tUn, tC, tVar, tCons, tNil, tTup, tLst, tAsg, gName, gTup, gCons, gNil, gSub, tDrop, tCallS, tCB, tM1, tM0, tBM, tBM0, tSl, tPar, tFor_eq, tLc_eq, intU_int, intU_bl, iList, iTup, iEnumT, tDNewK, rSlT, rSlL, iRng1, iRng2, iStr, tThen, tNever, L2.start, tRaiseFile, tMkFile, tYes, tPart, tNoPart, addA_int, addA_str, addU_int, addU_str, addU_ref, subU_int, mulU_int, mulU_ref, fdvU_int, modU_int, powU_int, ltU_int, leU_int, gtU_int, geU_int, eqU_int, eqU_str, eqU_bl, neU_int, neU_str, neU_bl, WE, TruV, List.map, List.length_cons, List.length_nil, List.replicate, List.append, List.getElem?_cons_zero, List.getElem?_cons_succ, List.set_cons_zero, List.set_cons_succ, List.cons_append, List.nil_append, Option.some.injEq, V.int.injEq, V.str.injEq, V.bl.injEq, V.ref.injEq, List.cons.injEq, exists_eq_left, exists_eq_right, and_true, true_and, and_self, exists_eq, exists_const, Bool.not_true, Bool.not_false, Bool.false_eq_true, if_true, if_false, reduceIte, decide_eq_true_eq, bne_iff_ne, exists_eq_left', exists_eq', exists_and_left, Bool.not_eq_true', decide_eq_false_iff_not, Nat.reduceSub, Nat.reduceAdd, reduceCtorEq, false_and, or_false, false_or, exists_false]
    intro b hb
    obtain ⟨kvs, hkv⟩ : ∃ kvs : List (Key × V), kvs = [] := ⟨[], rfl⟩
    rw [← hkv]
    have bd : b ≠ d := fun e => by rw [e, upd_same] at hb; cases hb
    have hbn : H b = none := by rw [upd_ne bd, upd_ne bd] at hb; exact hb
    have e1 : Ex [d] TL GT H (upd (upd H d (.ins CD dx (putF "block_size" (.int 64) []))) d (.ins CD dx (putF "total" (.int n) (putF "block_size" (.int 64) [])))) := (Ex.put (by simp) h1 rfl).chg upd_same rfl (.inl (by simp))
    have hE : ∀ a, upd (upd (upd H d (.ins CD dx (putF "block_size" (.int 64) []))) d (.ins CD dx (putF "total" (.int n) (putF "block_size" (.int 64) [])))) b (.dK kvs) a = none → H a = none := fun a ha => by
      have z1 : a ≠ b := fun e => by rw [e, upd_same] at ha; cases ha
      rw [upd_ne z1] at ha
      have z2 : a ≠ d := fun e => by rw [e, upd_same] at ha; cases ha
      rw [upd_ne z2, upd_ne z2] at ha
      exact ha
    generalize hH2 : upd (upd (upd H d (.ins CD dx (putF "block_size" (.int 64) []))) d (.ins CD dx (putF "total" (.int n) (putF "block_size" (.int 64) [])))) b (.dK kvs) = H2 at *
    have e2 : Ex [d] TL GT H H2 := by rw [← hH2]; exact e1.add hb
    have gp : H2 b = some (.dK kvs) := by rw [← hH2]; exact upd_same
    have g1 : H2 d = some (.ins CD dx (putF "total" (.int n) (putF "block_size" (.int 64) []))) := by rw [← hH2, upd_ne (Ne.symm bd)]; exact upd_same
    have hp2 : Paired (KvAt K H2) kvs [] := by rw [hkv]; exact .nil
    refine ⟨_, _, _, g1, T.cD, T.fD _ (by simp), (by first | (show 0 < 1000; decide) | (show 1 < 1000; decide) | (show 2 < 1000; decide) | (show 3 < 1000; decide) | (show 4 < 1000; decide) | (show 5 < 1000; decide) | (show 6 < 1000; decide) | (show 7 < 1000; decide)), Nat.zero_le _, fun w hw => ?_⟩
    have wd : w ≠ d := fun e => by rw [e, upd_same] at hw; cases hw
    have gd : ∀ {A B : HO}, upd (upd H2 d A) w B d = some A := fun {A B} => by rw [upd_ne (Ne.symm wd)]; exact upd_same
    refine ⟨_, _, _, gd, T.cD, T.fD _ (by simp), (by first | (show 0 < 1000; decide) | (show 1 < 1000; decide) | (show 2 < 1000; decide) | (show 3 < 1000; decide) | (show 4 < 1000; decide) | (show 5 < 1000; decide) | (show 6 < 1000; decide) | (show 7 < 1000; decide)), ?_⟩; try simp only [cx_K, gcx_K, lcx_K, LenV, rLenU, tTruU, kTup, tFld, sFld, sFldAug, tMet, tMake, tBM, tDGet, tDGet1, tDGet2, sDPut, tRevL, iEnum, tAug, tAsg, mulV_int, iaddU_int, isubU_int, iaddU_str, tTupL, ex2eq, not_true_eq_false, not_false_eq_true, LamX.tLam, LamX.TTold, tSeq, tIf, tNext, tRet, tRetN, tIfS, tTest, tB, tNot, tAnd, tOr, tChain, tOp, tUn, tC, tVar, tCons, tNil, tTup, tLst, tAsg, gName, gTup, gCons, gNil, gSub, tDrop, tCallS, tCB, tM1, tM0, tBM, tBM0, tSl, tPar, tFor_eq, tLc_eq, intU_int, intU_bl, iList, iTup, iEnumT, tDNewK, rSlT, rSlL, iRng1, iRng2, iStr, tThen, tNever, L2.start, tRaiseFile, tMkFile, tYes, tPart, tNoPart, addA_int, addA_str, addU_int, addU_str, addU_ref, subU_int, mulU_int, mulU_ref, fdvU_int, modU_int, powU_int, ltU_int, leU_int, gtU_int, geU_int, eqU_int, eqU_str, eqU_bl, neU_int, neU_str, neU_bl, WE, TruV, List.map, List.length_cons, List.length_nil, List.replicate, List.append, List.getElem?_cons_zero, List.getElem?_cons_succ, List.set_cons_zero, List.set_cons_succ, List.cons_append, List.nil_append, Option.some.injEq, V.int.injEq, V.str.injEq, V.bl.injEq, V.ref.injEq, List.cons.injEq, exists_eq_left, exists_eq_right, and_true, true_and, and_self, exists_eq, exists_const, Bool.not_true, Bool.not_false, Bool.false_eq_true, if_true, if_false, reduceIte, decide_eq_true_eq, bne_iff_ne, exists_eq_left', exists_eq', exists_and_left, Bool.not_eq_true', decide_eq_false_iff_not, Nat.reduceSub, Nat.reduceAdd, reduceCtorEq, false_and, or_false, false_or, exists_false]
    refine ⟨_, _, _, upd_same, T.cD, T.fD _ (by simp), (by first | (show 0 < 1000; decide) | (show 1 < 1000; decide) | (show 2 < 1000; decide) | (show 3 < 1000; decide) | (show 4 < 1000; decide) | (show 5 < 1000; decide) | (show 6 < 1000; decide) | (show 7 < 1000; decide)), ?_⟩; try simp only [cx_K, gcx_K, lcx_K, LenV, rLenU, tTruU, kTup, tFld, sFld, sFldAug, tMet, tMake, tBM, tDGet, tDGet1, tDGet2, sDPut, tRevL, iEnum, tAug, tAsg, mulV_int, iaddU_int, isubU_int, iaddU_str, tTupL, ex2eq, not_true_eq_false, not_false_eq_true, LamX.tLam, LamX.TTold, tSeq, tIf, tNext, tRet, tRetN, tIfS, tTest, tB, tNot, tAnd, tOr, tChain, tOp, tUn, tC, tVar, tCons, tNil, tTup, tLst, tAsg, gName, gTup, gCons, gNil, gSub, tDrop, tCallS, tCB, tM1, tM0, tBM, tBM0, tSl, tPar, tFor_eq, tLc_eq, intU_int, intU_bl, iList, iTup, iEnumT, tDNewK, rSlT, rSlL, iRng1, iRng2, iStr, tThen, tNever, L2.start, tRaiseFile, tMkFile, tYes, tPart, tNoPart, addA_int, addA_str, addU_int, addU_str, addU_ref, subU_int, mulU_int, mulU_ref, fdvU_int, modU_int, powU_int, ltU_int, leU_int, gtU_int, geU_int, eqU_int, eqU_str, eqU_bl, neU_int, neU_str, neU_bl, WE, TruV, List.map, List.length_cons, List.length_nil, List.replicate, List.append, List.getElem?_cons_zero, List.getElem?_cons_succ, List.set_cons_zero, List.set_cons_succ, List.cons_append, List.nil_append, Option.some.injEq, V.int.injEq, V.str.injEq, V.bl.injEq, V.ref.injEq, List.cons.injEq, exists_eq_left, exists_eq_right, and_true, true_and, and_self, exists_eq, exists_const, Bool.not_true, Bool.not_false, Bool.false_eq_true, if_true, if_false, reduceIte, decide_eq_true_eq, bne_iff_ne, exists_eq_left', exists_eq', exists_and_left, Bool.not_eq_true', decide_eq_false_iff_not, Nat.reduceSub, Nat.reduceAdd, reduceCtorEq, false_and, or_false, false_or, exists_false]
    refine ⟨_, _, _, upd_same, T.cD, T.fD _ (by simp), (by first | (show 0 < 1000; decide) | (show 1 < 1000; decide) | (show 2 < 1000; decide) | (show 3 < 1000; decide) | (show 4 < 1000; decide) | (show 5 < 1000; decide) | (show 6 < 1000; decide) | (show 7 < 1000; decide)), ?_⟩; try simp only [cx_K, gcx_K, lcx_K, LenV, rLenU, tTruU, kTup, tFld, sFld, sFldAug, tMet, tMake, tBM, tDGet, tDGet1, tDGet2, sDPut, tRevL, iEnum, tAug, tAsg, mulV_int, iaddU_int, isubU_int, iaddU_str, tTupL, ex2eq, not_true_eq_false, not_false_eq_true, LamX.tLam, LamX.TTold, tSeq, tIf, tNext, tRet, tRetN, tIfS, tTest, tB, tNot, tAnd, tOr, tChain, tOp, tUn, tC, tVar, tCons, tNil, tTup, tLst, tAsg, gName, gTup, gCons, gNil, gSub, tDrop, tCallS, tCB, tM1, tM0, tBM, tBM0, tSl, tPar, tFor_eq, tLc_eq, intU_int, intU_bl, iList, iTup, iEnumT, tDNewK, rSlT, rSlL, iRng1, iRng2, iStr, tThen, tNever, L2.start, tRaiseFile, tMkFile, tYes, tPart, tNoPart, addA_int, addA_str, addU_int, addU_str, addU_ref, subU_int, mulU_int, mulU_ref, fdvU_int, modU_int, powU_int, ltU_int, leU_int, gtU_int, geU_int, eqU_int, eqU_str, eqU_bl, neU_int, neU_str, neU_bl, WE, TruV, List.map, List.length_cons, List.length_nil, List.replicate, List.append, List.getElem?_cons_zero, List.getElem?_cons_succ, List.set_cons_zero, List.set_cons_succ, List.cons_append, List.nil_append, Option.some.injEq, V.int.injEq, V.str.injEq, V.bl.injEq, V.ref.injEq, List.cons.injEq, exists_eq_left, exists_eq_right, and_true, true_and, and_self, exists_eq, exists_const, Bool.not_true, Bool.not_false, Bool.false_eq_true, if_true, if_false, reduceIte, decide_eq_true_eq, bne_iff_ne, exists_eq_left', exists_eq', exists_and_left, Bool.not_eq_true', decide_eq_false_iff_not, Nat.reduceSub, Nat.reduceAdd, reduceCtorEq, false_and, or_false, false_or, exists_false]
    refine ⟨_, _, _, upd_same, T.cD, T.fD _ (by simp), (by first | (show 0 < 1000; decide) | (show 1 < 1000; decide) | (show 2 < 1000; decide) | (show 3 < 1000; decide) | (show 4 < 1000; decide) | (show 5 < 1000; decide) | (show 6 < 1000; decide) | (show 7 < 1000; decide)), ?_⟩
    have chain : ∀ {H0 : Hp} {o1 o3 o4 o5 o6 : HO}, isMut o1 = true → isMut o3 = true → isMut o4 = true → isMut o5 = true → Ex [d] TL GT H0 H2 → Ex [d] TL GT H0 (upd (upd (upd (upd (upd (upd H2 d o1) w (.lst [])) d o3) d o4) d o5) d o6) := fun {H0 o1 o3 o4 o5 o6} h1 h3 h4 h5 e =>
      (((((e.chg g1 rfl (.inl (by simp))).add (by
        by_cases z : w = d
        · exact absurd z wd
        · rw [upd_ne z] at hw ⊢; exact hw)).chg gd h1 (.inl (by simp))).chg upd_same h3 (.inl (by simp))).chg upd_same h4 (.inl (by simp))).chg upd_same h5 (.inl (by simp))
    have wb : w ≠ b := fun e => by
      rw [e, upd_ne bd, gp] at hw; cases hw
    refine hq _ [d, b, w] (chain rfl rfl rfl rfl e2) ⟨dx, b, w, kvs, [], rfl, upd_same, ?_, ?_, pimp (fun _ _ => KvAt.ex (chain rfl rfl rfl rfl Ex.refl)) hp2, .nil⟩ ?_
    · exact (chain rfl rfl rfl rfl Ex.refl).ext b _ (by simpa using bd) gp (fun _ z => by cases z)
    · rw [upd_ne wd, upd_ne wd, upd_ne wd, upd_ne wd]; exact upd_same
    · intro a ha
      simp only [List.mem_cons, List.not_mem_nil, or_false] at ha
      rcases ha with rfl | rfl | rfl
      · exact .inl rfl
      · exact .inr (free_none hbn)
      · refine .inr (free_none ?_)
        rw [upd_ne wd] at hw
        exact hE _ hw
  · simp only [cx_K, gcx_K, lcx_K, LenV, rLenU, tTruU, kTup, tFld, sFld, sFldAug, tMet, tMake, tBM, tDGet, tDGet1, tDGet2, sDPut, tRevL, iEnum, tAug, tAsg, mulV_int, iaddU_int, isubU_int, iaddU_str, tTupL, ex2eq, not_true_eq_false, not_false_eq_true, LamX.tLam, LamX.TTold, tSeq, tIf, tNext, tRet, tRetN, tIfS, tTest, tB, tNot, tAnd, tOr, tChain, tOp, tUn, tC, tVar, tCons, tNil, tTup, tLst, tAsg, gName, gTup, gCons, gNil, gSub, tDrop, tCallS, tCB, tM1, tM0, tBM, tBM0, tSl, tPar, tFor_eq, tLc_eq, intU_int, intU_bl, iList, iTup, iEnumT, tDNewK, rSlT, rSlL, iRng1, iRng2, iStr, tThen, tNever, L2.start, tRaiseFile, tMkFile, tYes, tPart, tNoPart, addA_int, addA_str, addU_int, addU_str, addU_ref, subU_int, mulU_int, mulU_ref, fdvU_int, modU_int, powU_int, ltU_int, leU_int, gtU_int, geU_int, eqU_int, eqU_str, eqU_bl, neU_int, neU_str, neU_bl, WE, TruV, List.map, List.length_cons, List.length_nil, List.replicate, List.append, List.getElem?_cons_zero, List.getElem?_cons_succ, List.set_cons_zero, List.set_cons_succ, List.cons_append, List.nil_append, Option.some.injEq, V.int.injEq, V.str.injEq, V.bl.injEq, V.ref.injEq, List.cons.injEq, exists_eq_left, exists_eq_right, and_true, true_and, and_self, exists_eq, exists_const, Bool.not_true, Bool.not_false, Bool.false_eq_true, if_true, if_false, reduceIte, decide_eq_true_eq, bne_iff_ne, exists_eq_left', exists_eq', exists_and_left, Bool.not_eq_true', decide_eq_false_iff_not, Nat.reduceSub, Nat.reduceAdd, reduceCtorEq, false_and, or_false, false_or, exists_false]
    have c0 : b0 ≠ d := ne_kind hb0 h1 rfl (fun z => by cases z)
    refine ⟨kvs, .inl (by rw [upd_ne c0, upd_ne c0]; exact hb0), fun b hb => ?_⟩
    have bd : b ≠ d := fun e => by rw [e, upd_same] at hb; cases hb
    have hbn : H b = none := by rw [upd_ne bd, upd_ne bd] at hb; exact hb
    have e1 : Ex [d] TL GT H (upd (upd H d (.ins CD dx (putF "block_size" (.int 64) []))) d (.ins CD dx (putF "total" (.int n) (putF "block_size" (.int 64) [])))) := (Ex.put (by simp) h1 rfl).chg upd_same rfl (.inl (by simp))
    have hE : ∀ a, upd (upd (upd H d (.ins CD dx (putF "block_size" (.int 64) []))) d (.ins CD dx (putF "total" (.int n) (putF "block_size" (.int 64) [])))) b (.dK kvs) a = none → H a = none := fun a ha => by
      have z1 : a ≠ b := fun e => by rw [e, upd_same] at ha; cases ha
      rw [upd_ne z1] at ha
      have z2 : a ≠ d := fun e => by rw [e, upd_same] at ha; cases ha
      rw [upd_ne z2, upd_ne z2] at ha
      exact ha
    generalize hH2 : upd (upd (upd H d (.ins CD dx (putF "block_size" (.int 64) []))) d (.ins CD dx (putF "total" (.int n) (putF "block_size" (.int 64) [])))) b (.dK kvs) = H2 at *
    have e2 : Ex [d] TL GT H H2 := by rw [← hH2]; exact e1.add hb
    have gp : H2 b = some (.dK kvs) := by rw [← hH2]; exact upd_same
    have g1 : H2 d = some (.ins CD dx (putF "total" (.int n) (putF "block_size" (.int 64) []))) := by rw [← hH2, upd_ne (Ne.symm bd)]; exact upd_same
    have hp2 : Paired (KvAt K H2) kvs l := pimp (fun _ _ => KvAt.ex e2) hp
    refine ⟨_, _, _, g1, T.cD, T.fD _ (by simp), (by first | (show 0 < 1000; decide) | (show 1 < 1000; decide) | (show 2 < 1000; decide) | (show 3 < 1000; decide) | (show 4 < 1000; decide) | (show 5 < 1000; decide) | (show 6 < 1000; decide) | (show 7 < 1000; decide)), Nat.zero_le _, fun w hw => ?_⟩
    have wd : w ≠ d := fun e => by rw [e, upd_same] at hw; cases hw
    have gd : ∀ {A B : HO}, upd (upd H2 d A) w B d = some A := fun {A B} => by rw [upd_ne (Ne.symm wd)]; exact upd_same
    refine ⟨_, _, _, gd, T.cD, T.fD _ (by simp), (by first | (show 0 < 1000; decide) | (show 1 < 1000; decide) | (show 2 < 1000; decide) | (show 3 < 1000; decide) | (show 4 < 1000; decide) | (show 5 < 1000; decide) | (show 6 < 1000; decide) | (show 7 < 1000; decide)), ?_⟩; try simp only [cx_K, gcx_K, lcx_K, LenV, rLenU, tTruU, kTup, tFld, sFld, sFldAug, tMet, tMake, tBM, tDGet, tDGet1, tDGet2, sDPut, tRevL, iEnum, tAug, tAsg, mulV_int, iaddU_int, isubU_int, iaddU_str, tTupL, ex2eq, not_true_eq_false, not_false_eq_true, LamX.tLam, LamX.TTold, tSeq, tIf, tNext, tRet, tRetN, tIfS, tTest, tB, tNot, tAnd, tOr, tChain, tOp, tUn, tC, tVar, tCons, tNil, tTup, tLst, tAsg, gName, gTup, gCons, gNil, gSub, tDrop, tCallS, tCB, tM1, tM0, tBM, tBM0, tSl, tPar, tFor_eq, tLc_eq, intU_int, intU_bl, iList, iTup, iEnumT, tDNewK, rSlT, rSlL, iRng1, iRng2, iStr, tThen, tNever, L2.start, tRaiseFile, tMkFile, tYes, tPart, tNoPart, addA_int, addA_str, addU_int, addU_str, addU_ref, subU_int, mulU_int, mulU_ref, fdvU_int, modU_int, powU_int, ltU_int, leU_int, gtU_int, geU_int, eqU_int, eqU_str, eqU_bl, neU_int, neU_str, neU_bl, WE, TruV, List.map, List.length_cons, List.length_nil, List.replicate, List.append, List.getElem?_cons_zero, List.getElem?_cons_succ, List.set_cons_zero, List.set_cons_succ, List.cons_append, List.nil_append, Option.some.injEq, V.int.injEq, V.str.injEq, V.bl.injEq, V.ref.injEq, List.cons.injEq, exists_eq_left, exists_eq_right, and_true, true_and, and_self, exists_eq, exists_const, Bool.not_true, Bool.not_false, Bool.false_eq_true, if_true, if_false, reduceIte, decide_eq_true_eq, bne_iff_ne, exists_eq_left', exists_eq', exists_and_left, Bool.not_eq_true', decide_eq_false_iff_not, Nat.reduceSub, Nat.reduceAdd, reduceCtorEq, false_and, or_false, false_or, exists_false]
    refine ⟨_, _, _, upd_same, T.cD, T.fD _ (by simp), (by first | (show 0 < 1000; decide) | (show 1 < 1000; decide) | (show 2 < 1000; decide) | (show 3 < 1000; decide) | (show 4 < 1000; decide) | (show 5 < 1000; decide) | (show 6 < 1000; decide) | (show 7 < 1000; decide)), ?_⟩; try simp only [cx_K, gcx_K, lcx_K, LenV, rLenU, tTruU, kTup, tFld, sFld, sFldAug, tMet, tMake, tBM, tDGet, tDGet1, tDGet2, sDPut, tRevL, iEnum, tAug, tAsg, mulV_int, iaddU_int, isubU_int, iaddU_str, tTupL, ex2eq, not_true_eq_false, not_false_eq_true, LamX.tLam, LamX.TTold, tSeq, tIf, tNext, tRet, tRetN, tIfS, tTest, tB, tNot, tAnd, tOr, tChain, tOp, tUn, tC, tVar, tCons, tNil, tTup, tLst, tAsg, gName, gTup, gCons, gNil, gSub, tDrop, tCallS, tCB, tM1, tM0, tBM, tBM0, tSl, tPar, tFor_eq, tLc_eq, intU_int, intU_bl, iList, iTup, iEnumT, tDNewK, rSlT, rSlL, iRng1, iRng2, iStr, tThen, tNever, L2.start, tRaiseFile, tMkFile, tYes, tPart, tNoPart, addA_int, addA_str, addU_int, addU_str, addU_ref, subU_int, mulU_int, mulU_ref, fdvU_int, modU_int, powU_int, ltU_int, leU_int, gtU_int, geU_int, eqU_int, eqU_str, eqU_bl, neU_int, neU_str, neU_bl, WE, TruV, List.map, List.length_cons, List.length_nil, List.replicate, List.append, List.getElem?_cons_zero, List.getElem?_cons_succ, List.set_cons_zero, List.set_cons_succ, List.cons_append, List.nil_append, Option.some.injEq, V.int.injEq, V.str.injEq, V.bl.injEq, V.ref.injEq, List.cons.injEq, exists_eq_left, exists_eq_right, and_true, true_and, and_self, exists_eq, exists_const, Bool.not_true, Bool.not_false, Bool.false_eq_true, if_true, if_false, reduceIte, decide_eq_true_eq, bne_iff_ne, exists_eq_left', exists_eq', exists_and_left, Bool.not_eq_true', decide_eq_false_iff_not, Nat.reduceSub, Nat.reduceAdd, reduceCtorEq, false_and, or_false, false_or, exists_false]
    refine ⟨_, _, _, upd_same, T.cD, T.fD _ (by simp), (by first | (show 0 < 1000; decide) | (show 1 < 1000; decide) | (show 2 < 1000; decide) | (show 3 < 1000; decide) | (show 4 < 1000; decide) | (show 5 < 1000; decide) | (show 6 < 1000; decide) | (show 7 < 1000; decide)), ?_⟩; try simp only [cx_K, gcx_K, lcx_K, LenV, rLenU, tTruU, kTup, tFld, sFld, sFldAug, tMet, tMake, tBM, tDGet, tDGet1, tDGet2, sDPut, tRevL, iEnum, tAug, tAsg, mulV_int, iaddU_int, isubU_int, iaddU_str, tTupL, ex2eq, not_true_eq_false, not_false_eq_true, LamX.tLam, LamX.TTold, tSeq, tIf, tNext, tRet, tRetN, tIfS, tTest, tB, tNot, tAnd, tOr, tChain, tOp, tUn, tC, tVar, tCons, tNil, tTup, tLst, tAsg, gName, gTup, gCons, gNil, gSub, tDrop, tCallS, tCB, tM1, tM0, tBM, tBM0, tSl, tPar, tFor_eq, tLc_eq, intU_int, intU_bl, iList, iTup, iEnumT, tDNewK, rSlT, rSlL, iRng1, iRng2, iStr, tThen, tNever, L2.start, tRaiseFile, tMkFile, tYes, tPart, tNoPart, addA_int, addA_str, addU_int, addU_str, addU_ref, subU_int, mulU_int, mulU_ref, fdvU_int, modU_int, powU_int, ltU_int, leU_int, gtU_int, geU_int, eqU_int, eqU_str, eqU_bl, neU_int, neU_str, neU_bl, WE, TruV, List.map, List.length_cons, List.length_nil, List.replicate, List.append, List.getElem?_cons_zero, List.getElem?_cons_succ, List.set_cons_zero, List.set_cons_succ, List.cons_append, List.nil_append, Option.some.injEq, V.int.injEq, V.str.injEq, V.bl.injEq, V.ref.injEq, List.cons.injEq, exists_eq_left, exists_eq_right, and_true, true_and, and_self, exists_eq, exists_const, Bool.not_true, Bool.not_false, Bool.false_eq_true, if_true, if_false, reduceIte, decide_eq_true_eq, bne_iff_ne, exists_eq_left', exists_eq', exists_and_left, Bool.not_eq_true', decide_eq_false_iff_not, Nat.reduceSub, Nat.reduceAdd, reduceCtorEq, false_and, or_false, false_or, exists_false]
    refine ⟨_, _, _, upd_same, T.cD, T.fD _ (by simp), (by first | (show 0 < 1000; decide) | (show 1 < 1000; decide) | (show 2 < 1000; decide) | (show 3 < 1000; decide) | (show 4 < 1000; decide) | (show 5 < 1000; decide) | (show 6 < 1000; decide) | (show 7 < 1000; decide)), ?_⟩
    have chain : ∀ {H0 : Hp} {o1 o3 o4 o5 o6 : HO}, isMut o1 = true → isMut o3 = true → isMut o4 = true → isMut o5 = true → Ex [d] TL GT H0 H2 → Ex [d] TL GT H0 (upd (upd (upd (upd (upd (upd H2 d o1) w (.lst [])) d o3) d o4) d o5) d o6) := fun {H0 o1 o3 o4 o5 o6} h1 h3 h4 h5 e =>
      (((((e.chg g1 rfl (.inl (by simp))).add (by
        by_cases z : w = d
        · exact absurd z wd
        · rw [upd_ne z] at hw ⊢; exact hw)).chg gd h1 (.inl (by simp))).chg upd_same h3 (.inl (by simp))).chg upd_same h4 (.inl (by simp))).chg upd_same h5 (.inl (by simp))
    have wb : w ≠ b := fun e => by
      rw [e, upd_ne bd, gp] at hw; cases hw
    refine hq _ [d, b, w] (chain rfl rfl rfl rfl e2) ⟨dx, b, w, kvs, [], rfl, upd_same, ?_, ?_, pimp (fun _ _ => KvAt.ex (chain rfl rfl rfl rfl Ex.refl)) hp2, .nil⟩ ?_
    · exact (chain rfl rfl rfl rfl Ex.refl).ext b _ (by simpa using bd) gp (fun _ z => by cases z)
    · rw [upd_ne wd, upd_ne wd, upd_ne wd, upd_ne wd]; exact upd_same
    · intro a ha
      simp only [List.mem_cons, List.not_mem_nil, or_false] at ha
      rcases ha with rfl | rfl | rfl
      · exact .inl rfl
      · exact .inr (free_none hbn)
      · refine .inr (free_none ?_)
        rw [upd_ne wd] at hw
        exact hE _ hw
theorem k_dev3 (T : KB.Txt P w K mg base CD CJ DE JE jm TL GT) : Mak P w K mg base 3 "Device" CD [] (spInit K CD TL GT) := by
  obtain ⟨f, fd, c, D, hm, F⟩ := f_init (TL := TL) (GT := GT) T
  refine mak_of T.gD hm F (D.F.binds1 4 1 (by simp) rfl fun T kV doc pm an cdv ct us its h1 h2 => ?_)
  match us, h1, its, h2 with
  | [_, _, _, _], _, [_], _ => exact ⟨_, rfl, rfl⟩
theorem k_dev2 (T : KB.Txt P w K mg base CD CJ DE JE jm TL GT) : Mak P w K mg base 3 "Device" CD [.non] (spInit K CD TL GT) := by
  obtain ⟨f, fd, c, D, hm, F⟩ := f_init (TL := TL) (GT := GT) T
  refine mak_of T.gD hm F (D.F.binds1 3 0 (by simp) rfl fun T kV doc pm an cdv ct us its h1 h2 => ?_)
  match us, h1, its, h2 with
  | [_, _, _], _, [_], _ => exact ⟨_, rfl, rfl⟩
/-- a new instance, its __init__ told by spInit -/
theorem dev_new {H : Hp} {E : XK} {Q : VK} {n : Int} {x : V} {l : List Blk} (hx : BlkAt K H x l) (hq : ∀ r F H', Ex [] TL GT H H' → DevAt K CD H' r (newDv n l) F → (∀ a ∈ F, free H a) → Q (.ref r) H') :
    ∀ r dx, H r = none → H dx = none → dx ≠ r → spInit K CD TL GT [.ref r, .int 64, .int n, x] (upd (upd H dx (.own r)) r (.ins CD dx [])) (fun v H2 => v = .non ∧ Q (.ref r) H2) E := by
  intro r dx h1 h2 h3
  have h1' : upd H dx (.own r) r = none := by rw [upd_ne (Ne.symm h3)]; exact h1
  have e : Ex [] TL GT H (upd (upd H dx (.own r)) r (.ins CD dx [])) := (Ex.new h2).add h1'
  refine ⟨r, n, x, l, dx, rfl, upd_same, ?_, fun H' F eX D hF => ⟨rfl, hq r F H' (ex_behind e (B := [r]) (fun a ha => .inr ?_) eX) D fun a ha => ?_⟩⟩
  · rcases hx with z | ⟨b, kvs, z, hb, hp⟩
    · exact .inl z
    · exact .inr ⟨b, kvs, z, e.ext b _ (by simp) hb (fun _ z => by cases z), pimp (fun _ _ => KvAt.ex e) hp⟩
  · simp only [List.mem_singleton] at ha
    rw [ha]; exact free_none h1
  · rcases hF a ha with rfl | z
    · exact free_none h1
    · exact (e.fresh z).elim (fun z => by simp at z) id
/-- what restarted leaves of the blocks -/
def dturn (l : List Blk) (c : Int) (p : Blk) : List Blk := if c = 1 then putB l p.1 p.2 else if c = 2 then putB l p.1 (p.2.take 32 ++ ((getB l p.1).getD zeros).drop 32) else l
def rst (cs : List Int) (ws b0 : List Blk) : Nat → List Blk
  | 0 => b0
  | i + 1 => match ws[i]? with
    | some p => dturn (rst cs ws b0 i) ((cs[i]?).getD 0) p
    | none => rst cs ws b0 i
def WfB (l : List Blk) : Prop := ∀ p ∈ l, p.2.length = 64
theorem putB_mem {l : List Blk} {n : Int} {x : List Int} {q : Blk} (h : q ∈ putB l n x) : q.2 = x ∨ q ∈ l := by
  unfold putB at h
  split at h
  · obtain ⟨p, hp, e⟩ := List.mem_map.mp h
    split at e
    · rw [← e]; exact .inl rfl
    · rw [← e]; exact .inr hp
  · rcases List.mem_append.mp h with z | z
    · exact .inr z
    · rw [List.mem_singleton.mp z]; exact .inl rfl
theorem wf_put {l : List Blk} {n : Int} {x : List Int} (h : WfB l) (hx : x.length = 64) : WfB (putB l n x) := fun q hq => by
  rcases putB_mem hq with z | z
  · rw [z]; exact hx
  · exact h q z
theorem getB_mem {l : List Blk} {n : Int} {x : List Int} (h : getB l n = some x) : (n, x) ∈ l := by
  unfold getB at h
  obtain ⟨p, hp, e⟩ := Option.map_eq_some_iff.mp h
  have h1 := List.mem_of_find?_eq_some hp
  have h2 := List.find?_some hp
  have h3 : p.1 = n := by simpa using h2
  rw [← h3, ← e]
  exact h1
theorem wf_get {l : List Blk} {n : Int} (h : WfB l) : ((getB l n).getD zeros).length = 64 := by
  cases e : getB l n with
  | none => rfl
  | some x => exact h _ (getB_mem e)
theorem wf_turn {l : List Blk} {c : Int} {p : Blk} (h : WfB l) (hp : p.2.length = 64) : WfB (dturn l c p) := by
  unfold dturn
  split
  · exact wf_put h hp
  · split
    · exact wf_put h (by rw [List.length_append, List.length_take, List.length_drop, hp, wf_get h]; rfl)
    · exact h
theorem wf_rst {cs : List Int} {ws b0 : List Blk} (hb : WfB b0) (hw : WfB ws) : ∀ i, WfB (rst cs ws b0 i)
  | 0 => hb
  | i + 1 => by
    unfold rst
    split
    · rename_i p hp
      exact wf_turn (wf_rst hb hw i) (hw p (List.mem_of_getElem? hp))
    · exact wf_rst hb hw i
def drest (v : Dv) (cs : List Int) : Dv := newDv v.total (rst cs v.waiting v.blocks v.waiting.length)
def spRest (K : PySem.W.Frag) (CD : Addr) (TL : List (Addr × Str)) (GT : List Addr) : Sp := fun vs H Q E => ∃ d v F c cs, vs = [.ref d, .ref c] ∧ DevAt K CD H d v F ∧ SqL K H c (cs.map V.int) ∧ WfB v.blocks ∧ WfB v.waiting ∧ v.blocks.length + v.waiting.length < 10000 ∧
  ∀ r F' H', Ex [] TL GT H H' → DevAt K CD H' r (drest v cs) F' → (∀ a ∈ F', free H a) → Q (.ref r) H'
theorem m_rest (T : KB.Txt P w K mg base CD CJ DE JE jm TL GT) : Met P w K mg base 6 CD "restarted" [] (spRest K CD TL GT) := by
  have k_Device := k_dev3 (TL := TL) (GT := GT) T
  obtain ⟨f, fd, c, D, hm⟩ := T.d_rest
  refine met_of T.cD hm ?_ (D.bind0 (ps := ["self", "choices"]) (fun _ _ _ _ _ _ us hl => match us, hl with | [_, _], _ => rfl))
  refine D.okF (N := ["self", "choices", "blocks", "place", "pair", "number", "data", "choice", "half"]) (ps := ["self", "choices"]) ⟨rfl, rfl, rfl, by decide +kernel, rfl, by decide +kernel, by decide +kernel⟩ (fun vs H Q E h => by first | (obtain ⟨_, rfl, _⟩ := h; rfl) | (obtain ⟨_, _, rfl, _⟩ := h; rfl) | (obtain ⟨_, _, _, rfl, _⟩ := h; rfl) | (obtain ⟨_, _, _, _, rfl, _⟩ := h; rfl) | (obtain ⟨_, _, _, _, _, rfl, _⟩ := h; rfl) | (obtain ⟨_, _, _, _, _, _, rfl, _⟩ := h; rfl) | (obtain ⟨_, _, _, _, _, _, _, rfl, _⟩ := h; rfl) | (obtain ⟨_, _, _, _, _, _, _, _, rfl, _⟩ := h; rfl) | (obtain ⟨rfl, _⟩ := h; rfl)) (fun A outer s H vs Q E hr h => ?_)
  have nd : (["self", "choices", "blocks", "place", "pair", "number", "data", "choice", "half"] : List Str).Nodup := by decide
  refine mk_ex (pss_cons (ps_set (i := 2) nd rfl (Or.inl rfl) (pe_callTy call_dictD rfl T.n_dict rfl (by exact (pa_cons (fldK (K := K) rfl (pe_fld (pv 0) rfl)) pa_nil))))
    (pss_cons (ps_for (passes_of rfl) rfl (enumK (K := K) rfl (pi_enum rfl T.n_enumerate (pa_cons (fldK (K := K) rfl (pe_fld (pv 0) rfl)) pa_nil))) (tupGK (K := K) rfl (pg_tup (n := 2) rfl (pgs_cons (pg_name (i := 3) nd rfl (Or.inl rfl)) (pgs_cons (pg_name (i := 4) nd rfl (Or.inl rfl)) pgs_nil)))) (pss_cons (ps_asg (pv 4) (tupGK (K := K) rfl (pg_tup (n := 2) rfl (pgs_cons (pg_name (i := 5) nd rfl (Or.inl rfl)) (pgs_cons (pg_name (i := 6) nd rfl (Or.inl rfl)) pgs_nil)))))
    (pss_cons (ps_set (i := 7) nd rfl (Or.inl rfl) (pe_ifExp (pt_cmpR opU_lt (pv 3) (pe_callB (call_lenU (K := K) rfl) rfl T.n_len rfl (by exact (pa_cons (pv 1) pa_nil))) (nomark _)) (pe_ix (ixK (K := K) (r := rIx) ix_seq rfl) (pv 1) (pv 3) (fun _ _ => rfl)) pe_int))
    (pss_cons (ps_set (i := 8) nd rfl (Or.inl rfl) (pe_op opU_fdv (fldK (K := K) rfl (pe_fld (pv 0) rfl)) pe_int))
    (pss_one (ps_if (pt_cmpR (opK (K := K) (r := rEqU) (opU_eq (roomEq hr)) rfl) (pv 7) pe_int (nomark _)) (pss_one (ps_dput (roomD hr) (pv 2) (pv 5) (pv 6) rfl)) (pss_one (ps_if (pt_cmpR (opK (K := K) (r := rEqU) (opU_eq (roomEq hr)) rfl) (pv 7) pe_int (nomark _)) (pss_one (ps_dput (roomD hr) (pv 2) (pv 5) (pe_op (opK (K := K) (r := rAddA) opA_add rfl) (pe_slice (slK (K := K) (r := rSlA) sl_tupA rfl) (pv 6) po_none (po_some (pv 8))) (pe_slice (slK (K := K) (r := rSlA) sl_tupA rfl) (pe_dget2 (roomD hr) (pv 2) (pv 5) (pe_op (opK (K := K) (r := rMulV) opV_mul rfl) (pe_tup (pa_cons pe_int pa_nil)) (fldK (K := K) rfl (pe_fld (pv 0) rfl))) ⟨rfl, rfl, rfl, rfl⟩) (po_some (pv 8)) po_none)) rfl)) pss_nil))))))))
    (pss_one (ps_ret (pe_mak k_Device (hr.mono (by decide)) (by exact (pa_cons (fldK (K := K) rfl (pe_fld (pv 0) rfl)) (pa_cons (fldK (K := K) rfl (pe_fld (pv 0) rfl)) (pa_cons (pv 2) pa_nil))))))))) ?_
  obtain ⟨d, v, F, c, cs, rfl, hD, hc, wb, ww, hn, hq⟩ := h
  obtain ⟨dx, b, w, kvs, ws, rfl, h1, h2, h3, h4, h5⟩ := id hD
  simp only [cx_K, gcx_K, lcx_K, LenV, rLenU, tTruU, kTup, tFld, sFld, sFldAug, tMet, tMake, tBM, tDGet, tDGet1, tDGet2, sDPut, tRevL, iEnum, tAug, tAsg, mulV_int, iaddU_int, isubU_int, iaddU_str, tTupL, ex2eq, not_true_eq_false, not_false_eq_true, LamX.tLam, LamX.TTold, tSeq, tIf, tNext, tRet, tRetN, tIfS, tTest, tB, tNot, tAnd, tOr, tChain, tOp, tUn, tC, tVar, tCons, tNil, tTup, tLst, tAsg, gName, gTup, gCons, gNil, gSub, tDrop, tCallS, tCB, tM1, tM0, tBM, tBM0, tSl, tPar, tFor_eq, tLc_eq, intU_int, intU_bl, iList, iTup, iEnumT, tDNewK, rSlT, rSlL, iRng1, iRng2, iStr, tThen, tNever, L2.start, tRaiseFile, tMkFile, tYes, tPart, tNoPart, addA_int, addA_str, addU_int, addU_str, addU_ref, subU_int, mulU_int, mulU_ref, fdvU_int, modU_int, powU_int, ltU_int, leU_int, gtU_int, geU_int, eqU_int, eqU_str, eqU_bl, neU_int, neU_str, neU_bl, WE, TruV, List.map, List.length_cons, List.length_nil, List.replicate, List.append, List.getElem?_cons_zero, List.getElem?_cons_succ, List.set_cons_zero, List.set_cons_succ, List.cons_append, List.nil_append, Option.some.injEq, V.int.injEq, V.str.injEq, V.bl.injEq, V.ref.injEq, List.cons.injEq, exists_eq_left, exists_eq_right, and_true, true_and, and_self, exists_eq, exists_const, Bool.not_true, Bool.not_false, Bool.false_eq_true, if_true, if_false, reduceIte, decide_eq_true_eq, bne_iff_ne, exists_eq_left', exists_eq', exists_and_left, Bool.not_eq_true', decide_eq_false_iff_not, Nat.reduceSub, Nat.reduceAdd, reduceCtorEq, false_and, or_false, false_or, exists_false]
  refine ⟨_, _, _, h1, T.cD, T.fD _ (by simp), _, rfl, ?_⟩; try simp only [cx_K, gcx_K, lcx_K, LenV, rLenU, tTruU, kTup, tFld, sFld, sFldAug, tMet, tMake, tBM, tDGet, tDGet1, tDGet2, sDPut, tRevL, iEnum, tAug, tAsg, mulV_int, iaddU_int, isubU_int, iaddU_str, tTupL, ex2eq, not_true_eq_false, not_false_eq_true, LamX.tLam, LamX.TTold, tSeq, tIf, tNext, tRet, tRetN, tIfS, tTest, tB, tNot, tAnd, tOr, tChain, tOp, tUn, tC, tVar, tCons, tNil, tTup, tLst, tAsg, gName, gTup, gCons, gNil, gSub, tDrop, tCallS, tCB, tM1, tM0, tBM, tBM0, tSl, tPar, tFor_eq, tLc_eq, intU_int, intU_bl, iList, iTup, iEnumT, tDNewK, rSlT, rSlL, iRng1, iRng2, iStr, tThen, tNever, L2.start, tRaiseFile, tMkFile, tYes, tPart, tNoPart, addA_int, addA_str, addU_int, addU_str, addU_ref, subU_int, mulU_int, mulU_ref, fdvU_int, modU_int, powU_int, ltU_int, leU_int, gtU_int, geU_int, eqU_int, eqU_str, eqU_bl, neU_int, neU_str, neU_bl, WE, TruV, List.map, List.length_cons, List.length_nil, List.replicate, List.append, List.getElem?_cons_zero, List.getElem?_cons_succ, List.set_cons_zero, List.set_cons_succ, List.cons_append, List.nil_append, Option.some.injEq, V.int.injEq, V.str.injEq, V.bl.injEq, V.ref.injEq, List.cons.injEq, exists_eq_left, exists_eq_right, and_true, true_and, and_self, exists_eq, exists_const, Bool.not_true, Bool.not_false, Bool.false_eq_true, if_true, if_false, reduceIte, decide_eq_true_eq, bne_iff_ne, exists_eq_left', exists_eq', exists_and_left, Bool.not_eq_true', decide_eq_false_iff_not, Nat.reduceSub, Nat.reduceAdd, reduceCtorEq, false_and, or_false, false_or, exists_false]
  refine ⟨kvs, .inl h2, fun bn hbn => ?_⟩
  have e1 : Ex [] TL GT H (upd H bn (.dK kvs)) := Ex.new hbn
  have g1 := e1.ext d _ (by simp) h1 (fun _ z => by cases z)
  refine ⟨_, _, _, g1, T.cD, T.fD _ (by simp), _, rfl, ?_⟩; try simp only [cx_K, gcx_K, lcx_K, LenV, rLenU, tTruU, kTup, tFld, sFld, sFldAug, tMet, tMake, tBM, tDGet, tDGet1, tDGet2, sDPut, tRevL, iEnum, tAug, tAsg, mulV_int, iaddU_int, isubU_int, iaddU_str, tTupL, ex2eq, not_true_eq_false, not_false_eq_true, LamX.tLam, LamX.TTold, tSeq, tIf, tNext, tRet, tRetN, tIfS, tTest, tB, tNot, tAnd, tOr, tChain, tOp, tUn, tC, tVar, tCons, tNil, tTup, tLst, tAsg, gName, gTup, gCons, gNil, gSub, tDrop, tCallS, tCB, tM1, tM0, tBM, tBM0, tSl, tPar, tFor_eq, tLc_eq, intU_int, intU_bl, iList, iTup, iEnumT, tDNewK, rSlT, rSlL, iRng1, iRng2, iStr, tThen, tNever, L2.start, tRaiseFile, tMkFile, tYes, tPart, tNoPart, addA_int, addA_str, addU_int, addU_str, addU_ref, subU_int, mulU_int, mulU_ref, fdvU_int, modU_int, powU_int, ltU_int, leU_int, gtU_int, geU_int, eqU_int, eqU_str, eqU_bl, neU_int, neU_str, neU_bl, WE, TruV, List.map, List.length_cons, List.length_nil, List.replicate, List.append, List.getElem?_cons_zero, List.getElem?_cons_succ, List.set_cons_zero, List.set_cons_succ, List.cons_append, List.nil_append, Option.some.injEq, V.int.injEq, V.str.injEq, V.bl.injEq, V.ref.injEq, List.cons.injEq, exists_eq_left, exists_eq_right, and_true, true_and, and_self, exists_eq, exists_const, Bool.not_true, Bool.not_false, Bool.false_eq_true, if_true, if_false, reduceIte, decide_eq_true_eq, bne_iff_ne, exists_eq_left', exists_eq', exists_and_left, Bool.not_eq_true', decide_eq_false_iff_not, Nat.reduceSub, Nat.reduceAdd, reduceCtorEq, false_and, or_false, false_or, exists_false]
  have g3 := e1.ext w _ (by simp) h3 (fun _ z => by cases z)
  refine ⟨_, lst_at g3, ?_⟩
  refine loop_enum (xs := ws) (fun i σ H' => ∃ s1 s2 s3 s4 s5 s6 ks, σ = [some (.ref d), some (.ref c), some (.ref bn), s1, s2, s3, s4, s5, s6] ∧ Ex [] TL GT H H' ∧ H' bn = some (.dK ks) ∧ Paired (KvAt K H') ks (rst cs v.waiting v.blocks i) ∧ ks.length ≤ v.blocks.length + i)
    ⟨_, _, _, _, _, _, kvs, rfl, e1, upd_same, pimp (fun _ _ => KvAt.ex e1) h4, by rw [paired_len h4]; omega⟩ ?_ ?_ ?_
  · rintro i σ H' _ ⟨_, _, _, _, _, _, _, _, eX, _⟩
    exact eX.sql (by simp) (lst_at h3)
  · rintro i x σ H' T1 hx ⟨s1, s2, s3, s4, s5, s6, ks, rfl, eX, hk, hP, hl⟩ hT
    obtain ⟨bk, hbk, q, u, rfl, hq2, hu⟩ := paired_at h5 hx
    have eT := eX.add (o := .tup [.int (i : Nat), .ref q]) hT
    have eT' : Ex [] TL GT H' (upd H' T1 (.tup [.int (i : Nat), .ref q])) := Ex.new hT
    have hk2 := eT'.ext bn _ (by simp) hk (fun _ z => by cases z)
    have hP2 := pimp (fun _ _ => KvAt.ex eT') hP
    have gd := eT.ext d _ (by simp) h1 (fun _ z => by cases z)
    generalize hHT : upd H' T1 (.tup [.int (i : Nat), .ref q]) = HT at *
    have hsT : SqT K HT T1 [.int (i : Nat), .ref q] := by rw [← hHT]; exact SqT.of upd_same
    clear hHT hT eX eT' hk hP
    simp only [cx_K, gcx_K, lcx_K, LenV, rLenU, tTruU, kTup, tFld, sFld, sFldAug, tMet, tMake, tBM, tDGet, tDGet1, tDGet2, sDPut, tRevL, iEnum, tAug, tAsg, mulV_int, iaddU_int, isubU_int, iaddU_str, tTupL, ex2eq, not_true_eq_false, not_false_eq_true, LamX.tLam, LamX.TTold, tSeq, tIf, tNext, tRet, tRetN, tIfS, tTest, tB, tNot, tAnd, tOr, tChain, tOp, tUn, tC, tVar, tCons, tNil, tTup, tLst, tAsg, gName, gTup, gCons, gNil, gSub, tDrop, tCallS, tCB, tM1, tM0, tBM, tBM0, tSl, tPar, tFor_eq, tLc_eq, intU_int, intU_bl, iList, iTup, iEnumT, tDNewK, rSlT, rSlL, iRng1, iRng2, iStr, tThen, tNever, L2.start, tRaiseFile, tMkFile, tYes, tPart, tNoPart, addA_int, addA_str, addU_int, addU_str, addU_ref, subU_int, mulU_int, mulU_ref, fdvU_int, modU_int, powU_int, ltU_int, leU_int, gtU_int, geU_int, eqU_int, eqU_str, eqU_bl, neU_int, neU_str, neU_bl, WE, TruV, List.map, List.length_cons, List.length_nil, List.replicate, List.append, List.getElem?_cons_zero, List.getElem?_cons_succ, List.set_cons_zero, List.set_cons_succ, List.cons_append, List.nil_append, Option.some.injEq, V.int.injEq, V.str.injEq, V.bl.injEq, V.ref.injEq, List.cons.injEq, exists_eq_left, exists_eq_right, and_true, true_and, and_self, exists_eq, exists_const, Bool.not_true, Bool.not_false, Bool.false_eq_true, if_true, if_false, reduceIte, decide_eq_true_eq, bne_iff_ne, exists_eq_left', exists_eq', exists_and_left, Bool.not_eq_true', decide_eq_false_iff_not, Nat.reduceSub, Nat.reduceAdd, reduceCtorEq, false_and, or_false, false_or, exists_false]
    refine ⟨_, hsT, rfl, _, _, rfl, _, _, rfl, rfl, q, rfl, _, eT.sqt hq2, rfl, _, _, rfl, _, _, rfl, rfl, cs.length, .inl ⟨_, eT.sql (by simp) hc, by simp⟩, ?_⟩
    simp only [cx_K, gcx_K, lcx_K, LenV, rLenU, tTruU, kTup, tFld, sFld, sFldAug, tMet, tMake, tBM, tDGet, tDGet1, tDGet2, sDPut, tRevL, iEnum, tAug, tAsg, mulV_int, iaddU_int, isubU_int, iaddU_str, tTupL, ex2eq, not_true_eq_false, not_false_eq_true, LamX.tLam, LamX.TTold, tSeq, tIf, tNext, tRet, tRetN, tIfS, tTest, tB, tNot, tAnd, tOr, tChain, tOp, tUn, tC, tVar, tCons, tNil, tTup, tLst, tAsg, gName, gTup, gCons, gNil, gSub, tDrop, tCallS, tCB, tM1, tM0, tBM, tBM0, tSl, tPar, tFor_eq, tLc_eq, intU_int, intU_bl, iList, iTup, iEnumT, tDNewK, rSlT, rSlL, iRng1, iRng2, iStr, tThen, tNever, L2.start, tRaiseFile, tMkFile, tYes, tPart, tNoPart, addA_int, addA_str, addU_int, addU_str, addU_ref, subU_int, mulU_int, mulU_ref, fdvU_int, modU_int, powU_int, ltU_int, leU_int, gtU_int, geU_int, eqU_int, eqU_str, eqU_bl, neU_int, neU_str, neU_bl, WE, TruV, List.map, List.length_cons, List.length_nil, List.replicate, List.append, List.getElem?_cons_zero, List.getElem?_cons_succ, List.set_cons_zero, List.set_cons_succ, List.cons_append, List.nil_append, Option.some.injEq, V.int.injEq, V.str.injEq, V.bl.injEq, V.ref.injEq, List.cons.injEq, exists_eq_left, exists_eq_right, and_true, true_and, and_self, exists_eq, exists_const, Bool.not_true, Bool.not_false, Bool.false_eq_true, if_true, if_false, reduceIte, decide_eq_true_eq, bne_iff_ne, exists_eq_left', exists_eq', exists_and_left, Bool.not_eq_true', decide_eq_false_iff_not, Nat.reduceSub, Nat.reduceAdd, reduceCtorEq, false_and, or_false, false_or, exists_false]
    have hlv : i < v.waiting.length := by
      rcases Nat.lt_or_ge i v.waiting.length with z | z
      · exact z
      · rw [List.getElem?_eq_none z] at hbk; cases hbk
    have hr1 : rst cs v.waiting v.blocks (i + 1) = dturn (rst cs v.waiting v.blocks i) ((cs[i]?).getD 0) bk := by
      show (match v.waiting[i]? with
        | some p => dturn (rst cs v.waiting v.blocks i) ((cs[i]?).getD 0) p
        | none => rst cs v.waiting v.blocks i) = _
      rw [hbk]
    have hbn2 : bn < bn + 1 := Nat.lt_succ_self _
    have hdiv : (64 : Int) / 2 = 32 := by decide
    by_cases hi : (i : Int) < (cs.length : Int)
    rotate_left
    · rw [if_neg hi]
      have e0 : cs[i]? = none := List.getElem?_eq_none (by omega)
      refine ⟨_, _, _, gd, T.cD, T.fD _ (by simp), _, rfl, ?_⟩; try simp only [cx_K, gcx_K, lcx_K, LenV, rLenU, tTruU, kTup, tFld, sFld, sFldAug, tMet, tMake, tBM, tDGet, tDGet1, tDGet2, sDPut, tRevL, iEnum, tAug, tAsg, mulV_int, iaddU_int, isubU_int, iaddU_str, tTupL, ex2eq, not_true_eq_false, not_false_eq_true, LamX.tLam, LamX.TTold, tSeq, tIf, tNext, tRet, tRetN, tIfS, tTest, tB, tNot, tAnd, tOr, tChain, tOp, tUn, tC, tVar, tCons, tNil, tTup, tLst, tAsg, gName, gTup, gCons, gNil, gSub, tDrop, tCallS, tCB, tM1, tM0, tBM, tBM0, tSl, tPar, tFor_eq, tLc_eq, intU_int, intU_bl, iList, iTup, iEnumT, tDNewK, rSlT, rSlL, iRng1, iRng2, iStr, tThen, tNever, L2.start, tRaiseFile, tMkFile, tYes, tPart, tNoPart, addA_int, addA_str, addU_int, addU_str, addU_ref, subU_int, mulU_int, mulU_ref, fdvU_int, modU_int, powU_int, ltU_int, leU_int, gtU_int, geU_int, eqU_int, eqU_str, eqU_bl, neU_int, neU_str, neU_bl, WE, TruV, List.map, List.length_cons, List.length_nil, List.replicate, List.append, List.getElem?_cons_zero, List.getElem?_cons_succ, List.set_cons_zero, List.set_cons_succ, List.cons_append, List.nil_append, Option.some.injEq, V.int.injEq, V.str.injEq, V.bl.injEq, V.ref.injEq, List.cons.injEq, exists_eq_left, exists_eq_right, and_true, true_and, and_self, exists_eq, exists_const, Bool.not_true, Bool.not_false, Bool.false_eq_true, if_true, if_false, reduceIte, decide_eq_true_eq, bne_iff_ne, exists_eq_left', exists_eq', exists_and_left, Bool.not_eq_true', decide_eq_false_iff_not, Nat.reduceSub, Nat.reduceAdd, reduceCtorEq, false_and, or_false, false_or, exists_false]
      refine ⟨⟨by decide, by decide⟩, ?_⟩
      rw [if_neg (by decide), if_neg (by decide)]
      refine ⟨_, _, _, _, _, _, ⟨rfl, rfl, rfl, rfl, rfl, rfl⟩, eT, ks, hk2, ?_, by omega⟩
      have e1 : rst cs v.waiting v.blocks (i + 1) = rst cs v.waiting v.blocks i := by
        rw [hr1, e0]; unfold dturn; rw [if_neg (by decide), if_neg (by decide)]
      rw [e1]; exact hP2
    · rw [if_pos hi]
      have hi' : i < cs.length := by omega
      have e0 : cs[i]? = some cs[i] := List.getElem?_eq_getElem hi'
      rw [e0] at hr1
      refine rIx_lst (eT.sql (by simp) hc) (atI_nat (by rw [List.getElem?_map, e0]; rfl)) ?_
      refine ⟨_, _, _, gd, T.cD, T.fD _ (by simp), _, rfl, ?_⟩; try simp only [cx_K, gcx_K, lcx_K, LenV, rLenU, tTruU, kTup, tFld, sFld, sFldAug, tMet, tMake, tBM, tDGet, tDGet1, tDGet2, sDPut, tRevL, iEnum, tAug, tAsg, mulV_int, iaddU_int, isubU_int, iaddU_str, tTupL, ex2eq, not_true_eq_false, not_false_eq_true, LamX.tLam, LamX.TTold, tSeq, tIf, tNext, tRet, tRetN, tIfS, tTest, tB, tNot, tAnd, tOr, tChain, tOp, tUn, tC, tVar, tCons, tNil, tTup, tLst, tAsg, gName, gTup, gCons, gNil, gSub, tDrop, tCallS, tCB, tM1, tM0, tBM, tBM0, tSl, tPar, tFor_eq, tLc_eq, intU_int, intU_bl, iList, iTup, iEnumT, tDNewK, rSlT, rSlL, iRng1, iRng2, iStr, tThen, tNever, L2.start, tRaiseFile, tMkFile, tYes, tPart, tNoPart, addA_int, addA_str, addU_int, addU_str, addU_ref, subU_int, mulU_int, mulU_ref, fdvU_int, modU_int, powU_int, ltU_int, leU_int, gtU_int, geU_int, eqU_int, eqU_str, eqU_bl, neU_int, neU_str, neU_bl, WE, TruV, List.map, List.length_cons, List.length_nil, List.replicate, List.append, List.getElem?_cons_zero, List.getElem?_cons_succ, List.set_cons_zero, List.set_cons_succ, List.cons_append, List.nil_append, Option.some.injEq, V.int.injEq, V.str.injEq, V.bl.injEq, V.ref.injEq, List.cons.injEq, exists_eq_left, exists_eq_right, and_true, true_and, and_self, exists_eq, exists_const, Bool.not_true, Bool.not_false, Bool.false_eq_true, if_true, if_false, reduceIte, decide_eq_true_eq, bne_iff_ne, exists_eq_left', exists_eq', exists_and_left, Bool.not_eq_true', decide_eq_false_iff_not, Nat.reduceSub, Nat.reduceAdd, reduceCtorEq, false_and, or_false, false_or, exists_false]
      refine ⟨⟨by decide, by decide⟩, ?_⟩
      obtain ⟨up, rfl, hup⟩ := hu.ex eT
      have hput : ∀ {H2 : Hp} {y : V} {l2 : List Int} , Ex [] TL GT HT H2 → TI K H2 y l2 → H2 bn = some (.dK ks) → rst cs v.waiting v.blocks (i + 1) = putB (rst cs v.waiting v.blocks i) bk.1 l2 → ∃ x, DPut H2 bn (V.int bk.1) y x ∧ Ex [] TL GT H x ∧ ∃ x_1, x bn = some (.dK x_1) ∧ Paired (KvAt K x) x_1 (rst cs v.waiting v.blocks (i + 1)) ∧ x_1.length ≤ v.blocks.length + (i + 1) := by
        intro H2 y l2 e2 hy hb2 hr
        have e3 : Ex [bn] TL GT H2 (upd H2 bn (.dK (putK ks (.inl bk.1) y))) := Ex.put (by simp) hb2 rfl
        have e4 : Ex [bn] TL GT HT (upd H2 bn (.dK (putK ks (.inl bk.1) y))) := (e2.mono (by simp)).chg hb2 rfl (.inl (by simp))
        refine ⟨_, DPut.k (k := .inl bk.1) hb2 (by rw [sizeLine_eq]; omega), (eT.trans e2).over hbn hb2 rfl, _, upd_same, ?_, Nat.le_trans (putK_len _ _ _) (by omega)⟩
        rw [hr]
        exact put_ok (hy.ex e3) (pimp (fun _ _ => KvAt.ex e4) hP2)
      by_cases c1 : cs[i] = 1
      · rw [if_pos c1]
        obtain ⟨x, hx1, hx2, hx3⟩ := hput Ex.refl ⟨up, rfl, hup⟩ hk2 (by rw [hr1]; unfold dturn; rw [if_pos (by exact c1)])
        exact ⟨x, hx1, _, _, _, _, _, _, ⟨rfl, rfl, rfl, rfl, rfl, rfl⟩, hx2, hx3⟩
      · rw [if_neg c1]
        by_cases c2 : cs[i] = 2
        rotate_left
        · rw [if_neg c2]
          refine ⟨_, _, _, _, _, _, ⟨rfl, rfl, rfl, rfl, rfl, rfl⟩, eT, ks, hk2, ?_, by omega⟩
          have e1 : rst cs v.waiting v.blocks (i + 1) = rst cs v.waiting v.blocks i := by
            rw [hr1]; unfold dturn; rw [if_neg (by exact c1), if_neg (by exact c2)]
          rw [e1]; exact hP2
        rw [if_pos c2]
        rw [hdiv]
        refine slA_tup (TL := TL) (GT := GT) hup fun r1 H1 f1 hr1' => ?_
        have hk3 := f1.ext bn _ (by simp) hk2 (fun _ z => by cases z)
        refine ⟨.inl ⟨ks, .inl hk3⟩, by decide, fun p hp => ?_⟩
        have f2 := f1.add (o := .tup [.int 0]) hp
        have f2' : Ex [] TL GT H1 (upd H1 p (.tup [.int 0])) := Ex.new hp
        have gd2 := f2.ext d _ (by simp) gd (fun _ z => by cases z)
        refine ⟨_, _, _, gd2, T.cD, T.fD _ (by simp), _, rfl, ?_⟩; try simp only [cx_K, gcx_K, lcx_K, LenV, rLenU, tTruU, kTup, tFld, sFld, sFldAug, tMet, tMake, tBM, tDGet, tDGet1, tDGet2, sDPut, tRevL, iEnum, tAug, tAsg, mulV_int, iaddU_int, isubU_int, iaddU_str, tTupL, ex2eq, not_true_eq_false, not_false_eq_true, LamX.tLam, LamX.TTold, tSeq, tIf, tNext, tRet, tRetN, tIfS, tTest, tB, tNot, tAnd, tOr, tChain, tOp, tUn, tC, tVar, tCons, tNil, tTup, tLst, tAsg, gName, gTup, gCons, gNil, gSub, tDrop, tCallS, tCB, tM1, tM0, tBM, tBM0, tSl, tPar, tFor_eq, tLc_eq, intU_int, intU_bl, iList, iTup, iEnumT, tDNewK, rSlT, rSlL, iRng1, iRng2, iStr, tThen, tNever, L2.start, tRaiseFile, tMkFile, tYes, tPart, tNoPart, addA_int, addA_str, addU_int, addU_str, addU_ref, subU_int, mulU_int, mulU_ref, fdvU_int, modU_int, powU_int, ltU_int, leU_int, gtU_int, geU_int, eqU_int, eqU_str, eqU_bl, neU_int, neU_str, neU_bl, WE, TruV, List.map, List.length_cons, List.length_nil, List.replicate, List.append, List.getElem?_cons_zero, List.getElem?_cons_succ, List.set_cons_zero, List.set_cons_succ, List.cons_append, List.nil_append, Option.some.injEq, V.int.injEq, V.str.injEq, V.bl.injEq, V.ref.injEq, List.cons.injEq, exists_eq_left, exists_eq_right, and_true, true_and, and_self, exists_eq, exists_const, Bool.not_true, Bool.not_false, Bool.false_eq_true, if_true, if_false, reduceIte, decide_eq_true_eq, bne_iff_ne, exists_eq_left', exists_eq', exists_and_left, Bool.not_eq_true', decide_eq_false_iff_not, Nat.reduceSub, Nat.reduceAdd, reduceCtorEq, false_and, or_false, false_or, exists_false]
        refine mulV_any (TL := TL) (GT := GT) (SqT.of upd_same) (by simp) (by decide) (by decide) (by decide) fun z H3 f3 hz => ?_
        have f3' := f2.trans f3
        have hk4 := f3'.ext bn _ (by simp) hk2 (fun _ z => by cases z)
        refine ⟨_, DGet.k (k := .inl bk.1) hk4, ?_⟩
        have hget : TI K H3 ((valV ks (Sum.inl bk.1)).getD (.ref z)) ((getB (rst cs v.waiting v.blocks i) bk.1).getD zeros) := by
          have g := get_ok bk.1 (pimp (fun _ _ => KvAt.ex f3') hP2)
          revert g
          cases valV ks (Sum.inl bk.1) with
          | none => intro g; rw [g]; exact ⟨z, rfl, hz⟩
          | some y => rintro ⟨x, g1, g2⟩; rw [g1]; exact g2
        obtain ⟨zp, hzp, hzq⟩ := hget
        rw [hzp]
        have hold : ((getB (rst cs v.waiting v.blocks i) bk.1).getD zeros).length = 64 := wf_get (wf_rst wb ww i)
        have hnew : bk.2.length = 64 := ww bk (List.mem_of_getElem? hbk)
        refine slA_tup (TL := TL) (GT := GT) hzq fun r2 H4 f4 hr2 => ?_
        have t1 : SqT K H4 r1 ((bk.2.take 32).map V.int) := by
          have z1 := ((f2'.trans f3).trans f4).sqt hr1'
          rw [show (some (32 : Int)) = some ((32 : Nat) : Int) from rfl, cutV_to 32 (by simp [hnew])] at z1
          rwa [List.map_take]
        have t2 : SqT K H4 r2 ((((getB (rst cs v.waiting v.blocks i) bk.1).getD zeros).drop 32).map V.int) := by
          rw [show (some (32 : Int)) = some ((32 : Nat) : Int) from rfl, cutV_from 32 (by simp [hold])] at hr2
          rwa [List.map_drop]
        refine addA_tup (TL := TL) (GT := GT) t1 t2 (by rw [sizeLine_eq]; simp; omega) fun r3 H5 f5 hr3 => ?_
        have f6 := (f3'.trans f4).trans f5
        obtain ⟨x, hx1, hx2, hx3⟩ := hput f6 ⟨r3, rfl, by rw [List.map_append]; exact hr3⟩ (f6.ext bn _ (by simp) hk2 (fun _ z => by cases z)) (by rw [hr1]; unfold dturn; rw [if_neg (by exact c1), if_pos (by exact c2)])
        exact ⟨x, hx1, _, _, _, _, _, _, ⟨rfl, rfl, rfl, rfl, rfl, rfl⟩, hx2, hx3⟩
  · rintro σ H' ⟨s1, s2, s3, s4, s5, s6, ks, rfl, eX, hk, hP, hl⟩
    simp only [cx_K, gcx_K, lcx_K, LenV, rLenU, tTruU, kTup, tFld, sFld, sFldAug, tMet, tMake, tBM, tDGet, tDGet1, tDGet2, sDPut, tRevL, iEnum, tAug, tAsg, mulV_int, iaddU_int, isubU_int, iaddU_str, tTupL, ex2eq, not_true_eq_false, not_false_eq_true, LamX.tLam, LamX.TTold, tSeq, tIf, tNext, tRet, tRetN, tIfS, tTest, tB, tNot, tAnd, tOr, tChain, tOp, tUn, tC, tVar, tCons, tNil, tTup, tLst, tAsg, gName, gTup, gCons, gNil, gSub, tDrop, tCallS, tCB, tM1, tM0, tBM, tBM0, tSl, tPar, tFor_eq, tLc_eq, intU_int, intU_bl, iList, iTup, iEnumT, tDNewK, rSlT, rSlL, iRng1, iRng2, iStr, tThen, tNever, L2.start, tRaiseFile, tMkFile, tYes, tPart, tNoPart, addA_int, addA_str, addU_int, addU_str, addU_ref, subU_int, mulU_int, mulU_ref, fdvU_int, modU_int, powU_int, ltU_int, leU_int, gtU_int, geU_int, eqU_int, eqU_str, eqU_bl, neU_int, neU_str, neU_bl, WE, TruV, List.map, List.length_cons, List.length_nil, List.replicate, List.append, List.getElem?_cons_zero, List.getElem?_cons_succ, List.set_cons_zero, List.set_cons_succ, List.cons_append, List.nil_append, Option.some.injEq, V.int.injEq, V.str.injEq, V.bl.injEq, V.ref.injEq, List.cons.injEq, exists_eq_left, exists_eq_right, and_true, true_and, and_self, exists_eq, exists_const, Bool.not_true, Bool.not_false, Bool.false_eq_true, if_true, if_false, reduceIte, decide_eq_true_eq, bne_iff_ne, exists_eq_left', exists_eq', exists_and_left, Bool.not_eq_true', decide_eq_false_iff_not, Nat.reduceSub, Nat.reduceAdd, reduceCtorEq, false_and, or_false, false_or, exists_false]
    have gd := eX.ext d _ (by simp) h1 (fun _ z => by cases z)
    refine ⟨_, _, _, gd, T.cD, T.fD _ (by simp), _, rfl, _, _, _, gd, T.cD, T.fD _ (by simp), _, rfl, ?_⟩
    rw [paired_len h5] at hP
    exact dev_new (.inr ⟨bn, ks, rfl, hk, hP⟩) fun r F' H2 e2 D2 hF2 => hq r F' H2 (eX.trans e2) D2 fun a ha => (eX.fresh (hF2 a ha)).elim (fun z => by simp at z) id
end
end KB
set_option Elab.async false
set_option linter.all false
set_option maxRecDepth 100000
set_option maxHeartbeats 2000000
namespace KB
open PySem PySem.Spec PyProof.Rows L2 GX
section
variable {P : Program} {w : World} {K : PySem.W.Frag} {mg : Str → Option Value} {base : Heap} {CD CJ DE JE jm : Addr} {TL : List (Addr × Str)} {GT : List Addr}
def pairL (n : Int) : List Int := [n / 256 % 256, n % 256]
def spPair (K : PySem.W.Frag) (TL : List (Addr × Str)) (GT : List Addr) : Sp := fun vs H Q E => ∃ n : Int, vs = [.int n] ∧ ∀ p H', Ex [] TL GT H H' → SqT K H' p ((pairL n).map V.int) → Q (.ref p) H'
theorem c_pair (T : KB.Txt P w K mg base CD CJ DE JE jm TL GT) : Cal P w K mg base 3 "pair" (spPair K TL GT) := by
  obtain ⟨f, fd, c, D⟩ := T.d_pair
  refine D.ok (N := ["number"]) (ps := ["number"]) ⟨rfl, rfl, rfl, by decide +kernel, rfl, by decide +kernel, by decide +kernel⟩ (fun vs H Q E h => by first | (obtain ⟨_, rfl, _⟩ := h; rfl) | (obtain ⟨_, _, rfl, _⟩ := h; rfl) | (obtain ⟨_, _, _, rfl, _⟩ := h; rfl) | (obtain ⟨_, _, _, _, rfl, _⟩ := h; rfl) | (obtain ⟨_, _, _, _, _, rfl, _⟩ := h; rfl) | (obtain ⟨_, _, _, _, _, _, rfl, _⟩ := h; rfl) | (obtain ⟨_, _, _, _, _, _, _, rfl, _⟩ := h; rfl) | (obtain ⟨_, _, _, _, _, _, _, _, rfl, _⟩ := h; rfl) | (obtain ⟨rfl, _⟩ := h; rfl)) (fun _ _ _ _ _ _ us hl => match us, hl with | [_], _ => rfl) (fun A outer s H vs Q E hr h => ?_)
  have nd : (["number"] : List Str).Nodup := by decide
  refine mk_ex (pss_one (ps_ret (pe_tup (pa_cons (pe_op opU_mod (pe_op opU_fdv (pv 0) pe_int) pe_int) (pa_cons (pe_op opU_mod (pv 0) pe_int) pa_nil))))) ?_
  obtain ⟨z, rfl, h⟩ := h
  simp only [cx_K, gcx_K, lcx_K, LenV, rLenU, tTruU, kTup, tFld, sFld, sFldAug, tMet, tMake, tBM, tDGet, tDGet1, tDGet2, sDPut, tRevL, iEnum, tAug, tAsg, mulV_int, iaddU_int, isubU_int, iaddU_str, tTupL, ex2eq, not_true_eq_false, not_false_eq_true, LamX.tLam, LamX.TTold, tSeq, tIf, tNext, tRet, tRetN, tIfS, tTest, tB, tNot, tAnd, tOr, tChain, tOp, tUn, tC, tVar, tCons, tNil, tTup, tLst, tAsg, gName, gTup, gCons, gNil, gSub, tDrop, tCallS, tCB, tM1, tM0, tBM, tBM0, tSl, tPar, tFor_eq, tLc_eq, intU_int, intU_bl, iList, iTup, iEnumT, tDNewK, rSlT, rSlL, iRng1, iRng2, iStr, tThen, tNever, L2.start, tRaiseFile, tMkFile, tYes, tPart, tNoPart, addA_int, addA_str, addU_int, addU_str, addU_ref, subU_int, mulU_int, mulU_ref, fdvU_int, modU_int, powU_int, ltU_int, leU_int, gtU_int, geU_int, eqU_int, eqU_str, eqU_bl, neU_int, neU_str, neU_bl, WE, TruV, List.map, List.length_cons, List.length_nil, List.replicate, List.append, List.getElem?_cons_zero, List.getElem?_cons_succ, List.set_cons_zero, List.set_cons_succ, List.cons_append, List.nil_append, Option.some.injEq, V.int.injEq, V.str.injEq, V.bl.injEq, V.ref.injEq, List.cons.injEq, exists_eq_left, exists_eq_right, and_true, true_and, and_self, exists_eq, exists_const, Bool.not_true, Bool.not_false, Bool.false_eq_true, if_true, if_false, reduceIte, decide_eq_true_eq, bne_iff_ne, exists_eq_left', exists_eq', exists_and_left, Bool.not_eq_true', decide_eq_false_iff_not, Nat.reduceSub, Nat.reduceAdd, reduceCtorEq, false_and, or_false, false_or, exists_false]
  exact ⟨⟨by decide, by decide⟩, by decide, by decide, sz 2, fun p hp => h p _ (Ex.new hp) (SqT.of upd_same)⟩
def spNP (K : PySem.W.Frag) : Sp := fun vs H Q E => ∃ (p : Addr) (i : Int) (xs : List V) (a b : Int), vs = [.ref p, .int i] ∧ SqT K H p xs ∧ atI xs i = some (.int a) ∧ atI xs (i + 1) = some (.int b) ∧ Q (.int (a * 256 + b)) H
theorem c_number_of_pair (T : KB.Txt P w K mg base CD CJ DE JE jm TL GT) : Cal P w K mg base 3 "number_of_pair" (spNP K) := by
  obtain ⟨f, fd, c, D⟩ := T.d_nop
  refine D.ok (N := ["data", "place"]) (ps := ["data", "place"]) ⟨rfl, rfl, rfl, by decide +kernel, rfl, by decide +kernel, by decide +kernel⟩ (fun vs H Q E h => by first | (obtain ⟨_, rfl, _⟩ := h; rfl) | (obtain ⟨_, _, rfl, _⟩ := h; rfl) | (obtain ⟨_, _, _, rfl, _⟩ := h; rfl) | (obtain ⟨_, _, _, _, rfl, _⟩ := h; rfl) | (obtain ⟨_, _, _, _, _, rfl, _⟩ := h; rfl) | (obtain ⟨_, _, _, _, _, _, rfl, _⟩ := h; rfl) | (obtain ⟨_, _, _, _, _, _, _, rfl, _⟩ := h; rfl) | (obtain ⟨_, _, _, _, _, _, _, _, rfl, _⟩ := h; rfl) | (obtain ⟨rfl, _⟩ := h; rfl)) (fun _ _ _ _ _ _ us hl => match us, hl with | [_, _], _ => rfl) (fun A outer s H vs Q E hr h => ?_)
  have nd : (["data", "place"] : List Str).Nodup := by decide
  refine mk_ex (pss_one (ps_ret (pe_op (opK (K := K) (r := rAddU) opU_add rfl) (pe_op (opK (K := K) (r := rMulV) opV_mul rfl) (pe_ix (ixK (K := K) (r := rIx) ix_seq rfl) (pv 0) (pv 1) (fun _ _ => rfl)) pe_int) (pe_ix (ixK (K := K) (r := rIx) ix_seq rfl) (pv 0) (pe_op (opK (K := K) (r := rAddU) opU_add rfl) (pv 1) pe_int) (fun _ _ => rfl))))) ?_
  obtain ⟨p, i, xs, a, b, rfl, hs, h1, h2, q⟩ := h
  simp only [cx_K, gcx_K, lcx_K, LenV, rLenU, tTruU, kTup, tFld, sFld, sFldAug, tMet, tMake, tBM, tDGet, tDGet1, tDGet2, sDPut, tRevL, iEnum, tAug, tAsg, mulV_int, iaddU_int, isubU_int, iaddU_str, tTupL, ex2eq, not_true_eq_false, not_false_eq_true, LamX.tLam, LamX.TTold, tSeq, tIf, tNext, tRet, tRetN, tIfS, tTest, tB, tNot, tAnd, tOr, tChain, tOp, tUn, tC, tVar, tCons, tNil, tTup, tLst, tAsg, gName, gTup, gCons, gNil, gSub, tDrop, tCallS, tCB, tM1, tM0, tBM, tBM0, tSl, tPar, tFor_eq, tLc_eq, intU_int, intU_bl, iList, iTup, iEnumT, tDNewK, rSlT, rSlL, iRng1, iRng2, iStr, tThen, tNever, L2.start, tRaiseFile, tMkFile, tYes, tPart, tNoPart, addA_int, addA_str, addU_int, addU_str, addU_ref, subU_int, mulU_int, mulU_ref, fdvU_int, modU_int, powU_int, ltU_int, leU_int, gtU_int, geU_int, eqU_int, eqU_str, eqU_bl, neU_int, neU_str, neU_bl, WE, TruV, List.map, List.length_cons, List.length_nil, List.replicate, List.append, List.getElem?_cons_zero, List.getElem?_cons_succ, List.set_cons_zero, List.set_cons_succ, List.cons_append, List.nil_append, Option.some.injEq, V.int.injEq, V.str.injEq, V.bl.injEq, V.ref.injEq, List.cons.injEq, exists_eq_left, exists_eq_right, and_true, true_and, and_self, exists_eq, exists_const, Bool.not_true, Bool.not_false, Bool.false_eq_true, if_true, if_false, reduceIte, decide_eq_true_eq, bne_iff_ne, exists_eq_left', exists_eq', exists_and_left, Bool.not_eq_true', decide_eq_false_iff_not, Nat.reduceSub, Nat.reduceAdd, reduceCtorEq, false_and, or_false, false_or, exists_false]
  refine rIx_tup hs h1 ⟨.inr (by decide), rIx_tup hs h2 ?_⟩
  exact q
/-- the sums of a word -/
def wstep (s : Int × Int) (n : Int) : Int × Int := ((s.1 + n) % 65521, (s.2 + (s.1 + n) % 65521) % 65521)
def wsum (ns : List Int) : Int × Int := ns.foldl wstep (1, 0)
theorem wsum_more {ns : List Int} {i : Nat} {n : Int} (h : ns[i]? = some n) : wsum (ns.take (i + 1)) = wstep (wsum (ns.take i)) n := by
  unfold wsum
  rw [take_more h, List.foldl_append]
  rfl
def ws4 (ns : List Int) : List Int := pairL (wsum ns).2 ++ pairL (wsum ns).1
def spWS (K : PySem.W.Frag) (TL : List (Addr × Str)) (GT : List Addr) : Sp := fun vs H Q E => ∃ (p : Addr) (ns : List Int), vs = [.ref p] ∧ SqT K H p (ns.map V.int) ∧
  ∀ q H', Ex [] TL GT H H' → SqT K H' q ((ws4 ns).map V.int) → Q (.ref q) H'
theorem c_word_sum (T : KB.Txt P w K mg base CD CJ DE JE jm TL GT) : Cal P w K mg base 5 "word_sum" (spWS K TL GT) := by
  have c_pair := c_pair T
  obtain ⟨f, fd, c, D⟩ := T.d_ws
  refine D.ok (N := ["numbers", "first", "second", "number"]) (ps := ["numbers"]) ⟨rfl, rfl, rfl, by decide +kernel, rfl, by decide +kernel, by decide +kernel⟩ (fun vs H Q E h => by first | (obtain ⟨_, rfl, _⟩ := h; rfl) | (obtain ⟨_, _, rfl, _⟩ := h; rfl) | (obtain ⟨_, _, _, rfl, _⟩ := h; rfl) | (obtain ⟨_, _, _, _, rfl, _⟩ := h; rfl) | (obtain ⟨_, _, _, _, _, rfl, _⟩ := h; rfl) | (obtain ⟨_, _, _, _, _, _, rfl, _⟩ := h; rfl) | (obtain ⟨_, _, _, _, _, _, _, rfl, _⟩ := h; rfl) | (obtain ⟨_, _, _, _, _, _, _, _, rfl, _⟩ := h; rfl) | (obtain ⟨rfl, _⟩ := h; rfl)) (fun _ _ _ _ _ _ us hl => match us, hl with | [_], _ => rfl) (fun A outer s H vs Q E hr h => ?_)
  have nd : (["numbers", "first", "second", "number"] : List Str).Nodup := by decide
  refine mk_ex (pss_cons (ps_asg (pe_tup (pa_cons pe_int (pa_cons pe_int pa_nil))) (tupGK (K := K) rfl (pg_tup (n := 2) rfl (pgs_cons (pg_name (i := 1) nd rfl (Or.inl rfl)) (pgs_cons (pg_name (i := 2) nd rfl (Or.inl rfl)) pgs_nil)))))
    (pss_cons (ps_for (passes_of rfl) rfl (itK (K := K) rfl (pi_tup (pv 0))) (pg_name (i := 3) nd rfl (Or.inl rfl)) (pss_cons (ps_set (i := 1) nd rfl (Or.inl rfl) (pe_op opU_mod (pe_op (opK (K := K) (r := rAddU) opU_add rfl) (pv 1) (pv 3)) pe_int))
    (pss_one (ps_set (i := 2) nd rfl (Or.inl rfl) (pe_op opU_mod (pe_op (opK (K := K) (r := rAddU) opU_add rfl) (pv 2) (pv 1)) pe_int)))))
    (pss_one (ps_ret (pe_op (opK (K := K) (r := rAddU) opU_add rfl) (GX.pe_call c_pair (hr.mono (by decide)) (takes_of rfl rfl rfl rfl) (by exact (pa_cons (pv 2) pa_nil))) (GX.pe_call c_pair (hr.mono (by decide)) (takes_of rfl rfl rfl rfl) (by exact (pa_cons (pv 1) pa_nil)))))))) ?_
  obtain ⟨p, ns, rfl, hs, h⟩ := h
  simp only [cx_K, gcx_K, lcx_K, LenV, rLenU, tTruU, kTup, tFld, sFld, sFldAug, tMet, tMake, tBM, tDGet, tDGet1, tDGet2, sDPut, tRevL, iEnum, tAug, tAsg, mulV_int, iaddU_int, isubU_int, iaddU_str, tTupL, ex2eq, not_true_eq_false, not_false_eq_true, LamX.tLam, LamX.TTold, tSeq, tIf, tNext, tRet, tRetN, tIfS, tTest, tB, tNot, tAnd, tOr, tChain, tOp, tUn, tC, tVar, tCons, tNil, tTup, tLst, tAsg, gName, gTup, gCons, gNil, gSub, tDrop, tCallS, tCB, tM1, tM0, tBM, tBM0, tSl, tPar, tFor_eq, tLc_eq, intU_int, intU_bl, iList, iTup, iEnumT, tDNewK, rSlT, rSlL, iRng1, iRng2, iStr, tThen, tNever, L2.start, tRaiseFile, tMkFile, tYes, tPart, tNoPart, addA_int, addA_str, addU_int, addU_str, addU_ref, subU_int, mulU_int, mulU_ref, fdvU_int, modU_int, powU_int, ltU_int, leU_int, gtU_int, geU_int, eqU_int, eqU_str, eqU_bl, neU_int, neU_str, neU_bl, WE, TruV, List.map, List.length_cons, List.length_nil, List.replicate, List.append, List.getElem?_cons_zero, List.getElem?_cons_succ, List.set_cons_zero, List.set_cons_succ, List.cons_append, List.nil_append, Option.some.injEq, V.int.injEq, V.str.injEq, V.bl.injEq, V.ref.injEq, List.cons.injEq, exists_eq_left, exists_eq_right, and_true, true_and, and_self, exists_eq, exists_const, Bool.not_true, Bool.not_false, Bool.false_eq_true, if_true, if_false, reduceIte, decide_eq_true_eq, bne_iff_ne, exists_eq_left', exists_eq', exists_and_left, Bool.not_eq_true', decide_eq_false_iff_not, Nat.reduceSub, Nat.reduceAdd, reduceCtorEq, false_and, or_false, false_or, exists_false]
  refine ⟨sz 2, fun p1 hp1 => ⟨_, tup_at upd_same, rfl, _, _, rfl, _, _, rfl, rfl, ⟨_, (Ex.new (A := []) (TL := TL) (GT := GT) hp1).sqt hs⟩, ?_⟩⟩
  refine loop_tup (xs := ns.map V.int) (fun i σ H' => ∃ v, σ = [some (.ref p), some (.int (wsum (ns.take i)).1), some (.int (wsum (ns.take i)).2), v] ∧ Ex [] TL GT H H') ⟨none, rfl, Ex.new hp1⟩ (fun i σ H' _ ⟨_, _, e⟩ => e.sqt hs) ?_ ?_
  · rintro i x σ H' hx ⟨v, rfl, e⟩
    obtain ⟨n, hn, rfl⟩ := map_at hx
    simp only [cx_K, gcx_K, lcx_K, LenV, rLenU, tTruU, kTup, tFld, sFld, sFldAug, tMet, tMake, tBM, tDGet, tDGet1, tDGet2, sDPut, tRevL, iEnum, tAug, tAsg, mulV_int, iaddU_int, isubU_int, iaddU_str, tTupL, ex2eq, not_true_eq_false, not_false_eq_true, LamX.tLam, LamX.TTold, tSeq, tIf, tNext, tRet, tRetN, tIfS, tTest, tB, tNot, tAnd, tOr, tChain, tOp, tUn, tC, tVar, tCons, tNil, tTup, tLst, tAsg, gName, gTup, gCons, gNil, gSub, tDrop, tCallS, tCB, tM1, tM0, tBM, tBM0, tSl, tPar, tFor_eq, tLc_eq, intU_int, intU_bl, iList, iTup, iEnumT, tDNewK, rSlT, rSlL, iRng1, iRng2, iStr, tThen, tNever, L2.start, tRaiseFile, tMkFile, tYes, tPart, tNoPart, addA_int, addA_str, addU_int, addU_str, addU_ref, subU_int, mulU_int, mulU_ref, fdvU_int, modU_int, powU_int, ltU_int, leU_int, gtU_int, geU_int, eqU_int, eqU_str, eqU_bl, neU_int, neU_str, neU_bl, WE, TruV, List.map, List.length_cons, List.length_nil, List.replicate, List.append, List.getElem?_cons_zero, List.getElem?_cons_succ, List.set_cons_zero, List.set_cons_succ, List.cons_append, List.nil_append, Option.some.injEq, V.int.injEq, V.str.injEq, V.bl.injEq, V.ref.injEq, List.cons.injEq, exists_eq_left, exists_eq_right, and_true, true_and, and_self, exists_eq, exists_const, Bool.not_true, Bool.not_false, Bool.false_eq_true, if_true, if_false, reduceIte, decide_eq_true_eq, bne_iff_ne, exists_eq_left', exists_eq', exists_and_left, Bool.not_eq_true', decide_eq_false_iff_not, Nat.reduceSub, Nat.reduceAdd, reduceCtorEq, false_and, or_false, false_or, exists_false]
    refine ⟨by decide, by decide, some (.int n), ?_, e⟩
    rw [wsum_more hn]
    exact ⟨rfl, rfl, rfl⟩
  · rintro σ H' ⟨v, rfl, e⟩
    have z : ns.take (ns.map V.int).length = ns := by rw [List.length_map]; exact List.take_length
    rw [z]
    simp only [cx_K, gcx_K, lcx_K, LenV, rLenU, tTruU, kTup, tFld, sFld, sFldAug, tMet, tMake, tBM, tDGet, tDGet1, tDGet2, sDPut, tRevL, iEnum, tAug, tAsg, mulV_int, iaddU_int, isubU_int, iaddU_str, tTupL, ex2eq, not_true_eq_false, not_false_eq_true, LamX.tLam, LamX.TTold, tSeq, tIf, tNext, tRet, tRetN, tIfS, tTest, tB, tNot, tAnd, tOr, tChain, tOp, tUn, tC, tVar, tCons, tNil, tTup, tLst, tAsg, gName, gTup, gCons, gNil, gSub, tDrop, tCallS, tCB, tM1, tM0, tBM, tBM0, tSl, tPar, tFor_eq, tLc_eq, intU_int, intU_bl, iList, iTup, iEnumT, tDNewK, rSlT, rSlL, iRng1, iRng2, iStr, tThen, tNever, L2.start, tRaiseFile, tMkFile, tYes, tPart, tNoPart, addA_int, addA_str, addU_int, addU_str, addU_ref, subU_int, mulU_int, mulU_ref, fdvU_int, modU_int, powU_int, ltU_int, leU_int, gtU_int, geU_int, eqU_int, eqU_str, eqU_bl, neU_int, neU_str, neU_bl, WE, TruV, List.map, List.length_cons, List.length_nil, List.replicate, List.append, List.getElem?_cons_zero, List.getElem?_cons_succ, List.set_cons_zero, List.set_cons_succ, List.cons_append, List.nil_append, Option.some.injEq, V.int.injEq, V.str.injEq, V.bl.injEq, V.ref.injEq, List.cons.injEq, exists_eq_left, exists_eq_right, and_true, true_and, and_self, exists_eq, exists_const, Bool.not_true, Bool.not_false, Bool.false_eq_true, if_true, if_false, reduceIte, decide_eq_true_eq, bne_iff_ne, exists_eq_left', exists_eq', exists_and_left, Bool.not_eq_true', decide_eq_false_iff_not, Nat.reduceSub, Nat.reduceAdd, reduceCtorEq, false_and, or_false, false_or, exists_false]
    refine ⟨_, rfl, fun q1 H1 e1 h1 => ⟨_, rfl, fun q2 H2 e2 h2 => addU_tup (e2.sqt h1) h2 (by simp [pairL]) (by simp [pairL]) (sz 4) fun r hr => h r _ (((e.trans e1).trans e2).trans (Ex.new hr)) (SqT.of (by rw [upd_same]; rfl))⟩⟩
def headL (s : Int) (ns : List Int) : List Int := [74, 82] ++ pairL s ++ pairL ns.length ++ ns.flatMap pairL
def fullHead (s : Int) (ns : List Int) (rows : List (List Int)) : List Int := headL s ns ++ ws4 (headL s ns ++ rows.flatten) ++ List.replicate (64 - (headL s ns ++ ws4 (headL s ns ++ rows.flatten)).length) 0
theorem pairs_len (ns : List Int) : (ns.flatMap pairL).length = 2 * ns.length := by
  induction ns with
  | nil => rfl
  | cons n ns ih => rw [List.flatMap_cons, List.length_append, ih, List.length_cons]; show 2 + _ = _; omega
theorem headL_len (s : Int) (ns : List Int) : (headL s ns).length = 6 + 2 * ns.length := by
  unfold headL
  rw [List.length_append, List.length_append, List.length_append, pairs_len]
  rfl
theorem flat_len {l : List (List Int)} {k : Nat} (h : ∀ r ∈ l, r.length = 64) (hk : l.length ≤ k) : l.flatten.length ≤ 64 * k := by
  have e : l.flatten.length = 64 * l.length := by
    induction l with
    | nil => rfl
    | cons r l ih => rw [List.flatten_cons, List.length_append, h r List.mem_cons_self, ih (fun r hr => h r (List.mem_cons_of_mem _ hr)) (by rw [List.length_cons] at hk; omega), List.length_cons]; omega
  rw [e]
  exact Nat.mul_le_mul_left 64 hk
def spHeadOf (K : PySem.W.Frag) (TL : List (Addr × Str)) (GT : List Addr) : Sp := fun vs H Q E => ∃ (s : Int) (a b : Addr) (ns : List Int) (us : List V) (rows : List (List Int)), vs = [.int s, .ref a, .ref b, .int 64] ∧ SqL K H a (ns.map V.int) ∧ SqL K H b us ∧ Paired (TI K H) us rows ∧
  ns.length ≤ 20 ∧ rows.length ≤ 20 ∧ (∀ r ∈ rows, r.length = 64) ∧ ∀ q H', Ex [] TL GT H H' → SqT K H' q ((fullHead s ns rows).map V.int) → Q (.ref q) H'
theorem c_head_of (T : KB.Txt P w K mg base CD CJ DE JE jm TL GT) : Cal P w K mg base 7 "head_of" (spHeadOf K TL GT) := by
  have c_pair := c_pair T
  have c_word_sum := c_word_sum T
  obtain ⟨f, fd, c, D⟩ := T.d_ho
  refine D.ok (N := ["serial", "numbers", "rows", "block_size", "found", "number", "whole", "data"]) (ps := ["serial", "numbers", "rows", "block_size"]) ⟨rfl, rfl, rfl, by decide +kernel, rfl, by decide +kernel, by decide +kernel⟩ (fun vs H Q E h => by first | (obtain ⟨_, rfl, _⟩ := h; rfl) | (obtain ⟨_, _, rfl, _⟩ := h; rfl) | (obtain ⟨_, _, _, rfl, _⟩ := h; rfl) | (obtain ⟨_, _, _, _, rfl, _⟩ := h; rfl) | (obtain ⟨_, _, _, _, _, rfl, _⟩ := h; rfl) | (obtain ⟨_, _, _, _, _, _, rfl, _⟩ := h; rfl) | (obtain ⟨_, _, _, _, _, _, _, rfl, _⟩ := h; rfl) | (obtain ⟨_, _, _, _, _, _, _, _, rfl, _⟩ := h; rfl) | (obtain ⟨rfl, _⟩ := h; rfl)) (fun _ _ _ _ _ _ us hl => match us, hl with | [_, _, _, _], _ => rfl) (fun A outer s H vs Q E hr h => ?_)
  have nd : (["serial", "numbers", "rows", "block_size", "found", "number", "whole", "data"] : List Str).Nodup := by decide
  refine mk_ex (pss_cons (ps_set (i := 4) nd rfl (Or.inl rfl) (pe_op (opK (K := K) (r := rAddA) opA_add rfl) (pe_op (opK (K := K) (r := rAddA) opA_add rfl) (pe_gl rfl T.g_JOURNAL_MARK) (GX.pe_call c_pair (hr.mono (by decide)) (takes_of rfl rfl rfl rfl) (by exact (pa_cons (pv 0) pa_nil)))) (GX.pe_call c_pair (hr.mono (by decide)) (takes_of rfl rfl rfl rfl) (by exact (pa_cons (pe_callB (call_lenU (K := K) rfl) rfl T.n_len rfl (by exact (pa_cons (pv 1) pa_nil))) pa_nil)))))
    (pss_cons (ps_for (passes_of rfl) rfl (ilK (K := K) rfl (pi_list (pv 1))) (pg_name (i := 5) nd rfl (Or.inl rfl)) (pss_one (ps_aug (i := 4) nd rfl (Or.inl rfl) (GX.pe_call c_pair (hr.mono (by decide)) (takes_of rfl rfl rfl rfl) (by exact (pa_cons (pv 5) pa_nil))) (opK (K := K) (r := rIaddU) opU_iadd rfl))))
    (pss_cons (ps_set (i := 6) nd rfl (Or.inl rfl) (pv 4))
    (pss_cons (ps_for (passes_of rfl) rfl (ilK (K := K) rfl (pi_list (pv 2))) (pg_name (i := 7) nd rfl (Or.inl rfl)) (pss_one (ps_aug (i := 6) nd rfl (Or.inl rfl) (pv 7) (opK (K := K) (r := rIaddU) opU_iadd rfl))))
    (pss_cons (ps_aug (i := 4) nd rfl (Or.inl rfl) (GX.pe_call c_word_sum (hr.mono (by decide)) (takes_of rfl rfl rfl rfl) (by exact (pa_cons (pv 6) pa_nil))) (opK (K := K) (r := rIaddU) opU_iadd rfl))
    (pss_one (ps_ret (pe_op (opK (K := K) (r := rAddA) opA_add rfl) (pv 4) (pe_op (opK (K := K) (r := rMulV) opV_mul rfl) (pe_tup (pa_cons pe_int pa_nil)) (pe_op opU_sub (pv 3) (pe_callB (call_lenU (K := K) rfl) rfl T.n_len rfl (by exact (pa_cons (pv 4) pa_nil))))))))))))) ?_
  obtain ⟨s0, a, b, ns, us, rows, rfl, ha, hb, hp, n20, r20, h64, hq⟩ := h
  simp only [cx_K, gcx_K, lcx_K, LenV, rLenU, tTruU, kTup, tFld, sFld, sFldAug, tMet, tMake, tBM, tDGet, tDGet1, tDGet2, sDPut, tRevL, iEnum, tAug, tAsg, mulV_int, iaddU_int, isubU_int, iaddU_str, tTupL, ex2eq, not_true_eq_false, not_false_eq_true, LamX.tLam, LamX.TTold, tSeq, tIf, tNext, tRet, tRetN, tIfS, tTest, tB, tNot, tAnd, tOr, tChain, tOp, tUn, tC, tVar, tCons, tNil, tTup, tLst, tAsg, gName, gTup, gCons, gNil, gSub, tDrop, tCallS, tCB, tM1, tM0, tBM, tBM0, tSl, tPar, tFor_eq, tLc_eq, intU_int, intU_bl, iList, iTup, iEnumT, tDNewK, rSlT, rSlL, iRng1, iRng2, iStr, tThen, tNever, L2.start, tRaiseFile, tMkFile, tYes, tPart, tNoPart, addA_int, addA_str, addU_int, addU_str, addU_ref, subU_int, mulU_int, mulU_ref, fdvU_int, modU_int, powU_int, ltU_int, leU_int, gtU_int, geU_int, eqU_int, eqU_str, eqU_bl, neU_int, neU_str, neU_bl, WE, TruV, List.map, List.length_cons, List.length_nil, List.replicate, List.append, List.getElem?_cons_zero, List.getElem?_cons_succ, List.set_cons_zero, List.set_cons_succ, List.cons_append, List.nil_append, Option.some.injEq, V.int.injEq, V.str.injEq, V.bl.injEq, V.ref.injEq, List.cons.injEq, exists_eq_left, exists_eq_right, and_true, true_and, and_self, exists_eq, exists_const, Bool.not_true, Bool.not_false, Bool.false_eq_true, if_true, if_false, reduceIte, decide_eq_true_eq, bne_iff_ne, exists_eq_left', exists_eq', exists_and_left, Bool.not_eq_true', decide_eq_false_iff_not, Nat.reduceSub, Nat.reduceAdd, reduceCtorEq, false_and, or_false, false_or, exists_false]
  refine ⟨s0, rfl, fun q1 H1 e1 h1 => addA_tup (TL := TL) (GT := GT) (T.markT H1) h1 (sz 4) fun q2 H2 e2 h2 => ⟨ns.length, .inl ⟨_, (e1.trans e2).sql (by simp) ha, by simp⟩, _, rfl, fun q3 H3 e3 h3 => addA_tup (TL := TL) (GT := GT) (e3.sqt h2) h3 (sz 6) fun q4 H4 e4 h4 => ⟨⟨_, (((e1.trans e2).trans e3).trans e4).sql (by simp) ha⟩, ?_⟩⟩⟩
  have f4 := ((e1.trans e2).trans e3).trans e4
  refine loop_list (xs := ns.map V.int) (fun i σ H' => ∃ v1 v2 v3 q, σ = [some (.int s0), some (.ref a), some (.ref b), some (.int 64), some (.ref q), v1, v2, v3] ∧ Ex [] TL GT H H' ∧ SqT K H' q (([74, 82] ++ pairL s0 ++ pairL ns.length ++ (ns.take i).flatMap pairL).map V.int))
    ⟨_, _, _, q4, rfl, f4, by simpa using h4⟩ (fun i σ H' _ ⟨_, _, _, _, _, e, _⟩ => e.sql (by simp) ha) ?_ ?_
  · rintro i x σ H' hx ⟨v1, v2, v3, q, rfl, e, hs⟩
    obtain ⟨n, hn, rfl⟩ := map_at hx
    have hi : i < ns.length := by
      rcases Nat.lt_or_ge i ns.length with z | z
      · exact z
      · rw [List.getElem?_eq_none z] at hn; cases hn
    simp only [cx_K, gcx_K, lcx_K, LenV, rLenU, tTruU, kTup, tFld, sFld, sFldAug, tMet, tMake, tBM, tDGet, tDGet1, tDGet2, sDPut, tRevL, iEnum, tAug, tAsg, mulV_int, iaddU_int, isubU_int, iaddU_str, tTupL, ex2eq, not_true_eq_false, not_false_eq_true, LamX.tLam, LamX.TTold, tSeq, tIf, tNext, tRet, tRetN, tIfS, tTest, tB, tNot, tAnd, tOr, tChain, tOp, tUn, tC, tVar, tCons, tNil, tTup, tLst, tAsg, gName, gTup, gCons, gNil, gSub, tDrop, tCallS, tCB, tM1, tM0, tBM, tBM0, tSl, tPar, tFor_eq, tLc_eq, intU_int, intU_bl, iList, iTup, iEnumT, tDNewK, rSlT, rSlL, iRng1, iRng2, iStr, tThen, tNever, L2.start, tRaiseFile, tMkFile, tYes, tPart, tNoPart, addA_int, addA_str, addU_int, addU_str, addU_ref, subU_int, mulU_int, mulU_ref, fdvU_int, modU_int, powU_int, ltU_int, leU_int, gtU_int, geU_int, eqU_int, eqU_str, eqU_bl, neU_int, neU_str, neU_bl, WE, TruV, List.map, List.length_cons, List.length_nil, List.replicate, List.append, List.getElem?_cons_zero, List.getElem?_cons_succ, List.set_cons_zero, List.set_cons_succ, List.cons_append, List.nil_append, Option.some.injEq, V.int.injEq, V.str.injEq, V.bl.injEq, V.ref.injEq, List.cons.injEq, exists_eq_left, exists_eq_right, and_true, true_and, and_self, exists_eq, exists_const, Bool.not_true, Bool.not_false, Bool.false_eq_true, if_true, if_false, reduceIte, decide_eq_true_eq, bne_iff_ne, exists_eq_left', exists_eq', exists_and_left, Bool.not_eq_true', decide_eq_false_iff_not, Nat.reduceSub, Nat.reduceAdd, reduceCtorEq, false_and, or_false, false_or, exists_false]
    refine ⟨n, rfl, fun q5 H5 e5 h5 => iaddU_tup (e5.sqt hs) h5 (by simp [pairL]) (by simp [pairL]) ?_ fun r hr => ⟨_, _, _, r, ⟨rfl, rfl, rfl, rfl⟩, (e.trans e5).add hr, ?_⟩⟩
    · have z := pairs_len (ns.take i)
      rw [List.length_take] at z
      rw [sizeLine_eq, List.length_map, List.length_map, List.length_append, z]
      simp [pairL]; omega
    · rw [take_more hn, List.flatMap_append, ← List.append_assoc, List.map_append]
      refine SqT.of ?_
      rw [upd_same]
      simp
  · rintro σ H' ⟨v1, v2, v3, q, rfl, e, hs⟩
    have z : ns.take (ns.map V.int).length = ns := by rw [List.length_map]; exact List.take_length
    rw [z] at hs
    have hs' : SqT K H' q ((headL s0 ns).map V.int) := hs
    simp only [cx_K, gcx_K, lcx_K, LenV, rLenU, tTruU, kTup, tFld, sFld, sFldAug, tMet, tMake, tBM, tDGet, tDGet1, tDGet2, sDPut, tRevL, iEnum, tAug, tAsg, mulV_int, iaddU_int, isubU_int, iaddU_str, tTupL, ex2eq, not_true_eq_false, not_false_eq_true, LamX.tLam, LamX.TTold, tSeq, tIf, tNext, tRet, tRetN, tIfS, tTest, tB, tNot, tAnd, tOr, tChain, tOp, tUn, tC, tVar, tCons, tNil, tTup, tLst, tAsg, gName, gTup, gCons, gNil, gSub, tDrop, tCallS, tCB, tM1, tM0, tBM, tBM0, tSl, tPar, tFor_eq, tLc_eq, intU_int, intU_bl, iList, iTup, iEnumT, tDNewK, rSlT, rSlL, iRng1, iRng2, iStr, tThen, tNever, L2.start, tRaiseFile, tMkFile, tYes, tPart, tNoPart, addA_int, addA_str, addU_int, addU_str, addU_ref, subU_int, mulU_int, mulU_ref, fdvU_int, modU_int, powU_int, ltU_int, leU_int, gtU_int, geU_int, eqU_int, eqU_str, eqU_bl, neU_int, neU_str, neU_bl, WE, TruV, List.map, List.length_cons, List.length_nil, List.replicate, List.append, List.getElem?_cons_zero, List.getElem?_cons_succ, List.set_cons_zero, List.set_cons_succ, List.cons_append, List.nil_append, Option.some.injEq, V.int.injEq, V.str.injEq, V.bl.injEq, V.ref.injEq, List.cons.injEq, exists_eq_left, exists_eq_right, and_true, true_and, and_self, exists_eq, exists_const, Bool.not_true, Bool.not_false, Bool.false_eq_true, if_true, if_false, reduceIte, decide_eq_true_eq, bne_iff_ne, exists_eq_left', exists_eq', exists_and_left, Bool.not_eq_true', decide_eq_false_iff_not, Nat.reduceSub, Nat.reduceAdd, reduceCtorEq, false_and, or_false, false_or, exists_false]
    refine ⟨⟨_, e.sql (by simp) hb⟩, ?_⟩
    refine loop_list (xs := us) (fun i σ H' => ∃ v1 v2 q2, σ = [some (.int s0), some (.ref a), some (.ref b), some (.int 64), some (.ref q), v1, some (.ref q2), v2] ∧ Ex [] TL GT H H' ∧ SqT K H' q ((headL s0 ns).map V.int) ∧ SqT K H' q2 ((headL s0 ns ++ (rows.take i).flatten).map V.int))
      ⟨_, _, q, rfl, e, hs', by simpa using hs'⟩ (fun i σ H' _ ⟨_, _, _, _, e, _⟩ => e.sql (by simp) hb) ?_ ?_
    · rintro i x σ H' hx ⟨v1, v2, q2, rfl, e, hs1, hs2⟩
      obtain ⟨r, hr, hu⟩ := paired_at hp hx
      obtain ⟨p, rfl, hpp⟩ := hu.ex e
      have hr64 := h64 r (List.mem_of_getElem? hr)
      have hfl : ((rows.take i).flatten).length ≤ 64 * i := flat_len (fun r hr => h64 r (List.mem_of_mem_take hr)) (by rw [List.length_take]; omega)
      have hi : i < rows.length := by
        rcases Nat.lt_or_ge i rows.length with z | z
        · exact z
        · rw [List.getElem?_eq_none z] at hr; cases hr
      simp only [cx_K, gcx_K, lcx_K, LenV, rLenU, tTruU, kTup, tFld, sFld, sFldAug, tMet, tMake, tBM, tDGet, tDGet1, tDGet2, sDPut, tRevL, iEnum, tAug, tAsg, mulV_int, iaddU_int, isubU_int, iaddU_str, tTupL, ex2eq, not_true_eq_false, not_false_eq_true, LamX.tLam, LamX.TTold, tSeq, tIf, tNext, tRet, tRetN, tIfS, tTest, tB, tNot, tAnd, tOr, tChain, tOp, tUn, tC, tVar, tCons, tNil, tTup, tLst, tAsg, gName, gTup, gCons, gNil, gSub, tDrop, tCallS, tCB, tM1, tM0, tBM, tBM0, tSl, tPar, tFor_eq, tLc_eq, intU_int, intU_bl, iList, iTup, iEnumT, tDNewK, rSlT, rSlL, iRng1, iRng2, iStr, tThen, tNever, L2.start, tRaiseFile, tMkFile, tYes, tPart, tNoPart, addA_int, addA_str, addU_int, addU_str, addU_ref, subU_int, mulU_int, mulU_ref, fdvU_int, modU_int, powU_int, ltU_int, leU_int, gtU_int, geU_int, eqU_int, eqU_str, eqU_bl, neU_int, neU_str, neU_bl, WE, TruV, List.map, List.length_cons, List.length_nil, List.replicate, List.append, List.getElem?_cons_zero, List.getElem?_cons_succ, List.set_cons_zero, List.set_cons_succ, List.cons_append, List.nil_append, Option.some.injEq, V.int.injEq, V.str.injEq, V.bl.injEq, V.ref.injEq, List.cons.injEq, exists_eq_left, exists_eq_right, and_true, true_and, and_self, exists_eq, exists_const, Bool.not_true, Bool.not_false, Bool.false_eq_true, if_true, if_false, reduceIte, decide_eq_true_eq, bne_iff_ne, exists_eq_left', exists_eq', exists_and_left, Bool.not_eq_true', decide_eq_false_iff_not, Nat.reduceSub, Nat.reduceAdd, reduceCtorEq, false_and, or_false, false_or, exists_false]
      refine iaddU_tup hs2 hpp (by simp [headL]) (by intro z; rw [List.map_eq_nil_iff] at z; rw [z] at hr64; cases hr64) ?_ fun r0 hr0 => ⟨_, _, r0, ⟨rfl, rfl, rfl⟩, e.add hr0, (Ex.new (A := []) (TL := TL) (GT := GT) hr0).sqt hs1, ?_⟩
      · rw [sizeLine_eq, List.length_map, List.length_map, List.length_append, headL_len]
        omega
      · refine SqT.of ?_
        rw [upd_same, take_more hr]
        simp
    · rintro σ H' ⟨v1, v2, q2, rfl, e, hs1, hs2⟩
      rw [paired_len hp, List.take_length] at hs2
      simp only [cx_K, gcx_K, lcx_K, LenV, rLenU, tTruU, kTup, tFld, sFld, sFldAug, tMet, tMake, tBM, tDGet, tDGet1, tDGet2, sDPut, tRevL, iEnum, tAug, tAsg, mulV_int, iaddU_int, isubU_int, iaddU_str, tTupL, ex2eq, not_true_eq_false, not_false_eq_true, LamX.tLam, LamX.TTold, tSeq, tIf, tNext, tRet, tRetN, tIfS, tTest, tB, tNot, tAnd, tOr, tChain, tOp, tUn, tC, tVar, tCons, tNil, tTup, tLst, tAsg, gName, gTup, gCons, gNil, gSub, tDrop, tCallS, tCB, tM1, tM0, tBM, tBM0, tSl, tPar, tFor_eq, tLc_eq, intU_int, intU_bl, iList, iTup, iEnumT, tDNewK, rSlT, rSlL, iRng1, iRng2, iStr, tThen, tNever, L2.start, tRaiseFile, tMkFile, tYes, tPart, tNoPart, addA_int, addA_str, addU_int, addU_str, addU_ref, subU_int, mulU_int, mulU_ref, fdvU_int, modU_int, powU_int, ltU_int, leU_int, gtU_int, geU_int, eqU_int, eqU_str, eqU_bl, neU_int, neU_str, neU_bl, WE, TruV, List.map, List.length_cons, List.length_nil, List.replicate, List.append, List.getElem?_cons_zero, List.getElem?_cons_succ, List.set_cons_zero, List.set_cons_succ, List.cons_append, List.nil_append, Option.some.injEq, V.int.injEq, V.str.injEq, V.bl.injEq, V.ref.injEq, List.cons.injEq, exists_eq_left, exists_eq_right, and_true, true_and, and_self, exists_eq, exists_const, Bool.not_true, Bool.not_false, Bool.false_eq_true, if_true, if_false, reduceIte, decide_eq_true_eq, bne_iff_ne, exists_eq_left', exists_eq', exists_and_left, Bool.not_eq_true', decide_eq_false_iff_not, Nat.reduceSub, Nat.reduceAdd, reduceCtorEq, false_and, or_false, false_or, exists_false]
      refine ⟨q2, _, rfl, hs2, fun q3 H3 e3 h3 => iaddU_tup (e3.sqt hs1) h3 (by simp [headL]) (by simp [ws4, pairL]) ?_ fun r hr => ?_⟩
      · rw [sizeLine_eq, List.length_map, headL_len]; simp [ws4, pairL]; omega
      have hlen : (headL s0 ns ++ ws4 (headL s0 ns ++ rows.flatten)).length = 10 + 2 * ns.length := by
        rw [List.length_append, headL_len]; show _ + 4 = _; omega
      have hr1 : SqT K (upd H3 r (.tup ((headL s0 ns).map V.int ++ (ws4 (headL s0 ns ++ rows.flatten)).map V.int))) r ((headL s0 ns ++ ws4 (headL s0 ns ++ rows.flatten)).map V.int) := SqT.of (by rw [upd_same, List.map_append])
      have e4 := (e.trans e3).add (o := .tup ((headL s0 ns).map V.int ++ (ws4 (headL s0 ns ++ rows.flatten)).map V.int)) hr
      generalize upd H3 r (.tup ((headL s0 ns).map V.int ++ (ws4 (headL s0 ns ++ rows.flatten)).map V.int)) = H4 at hr1 e4 ⊢
      simp only [cx_K, gcx_K, lcx_K, LenV, rLenU, tTruU, kTup, tFld, sFld, sFldAug, tMet, tMake, tBM, tDGet, tDGet1, tDGet2, sDPut, tRevL, iEnum, tAug, tAsg, mulV_int, iaddU_int, isubU_int, iaddU_str, tTupL, ex2eq, not_true_eq_false, not_false_eq_true, LamX.tLam, LamX.TTold, tSeq, tIf, tNext, tRet, tRetN, tIfS, tTest, tB, tNot, tAnd, tOr, tChain, tOp, tUn, tC, tVar, tCons, tNil, tTup, tLst, tAsg, gName, gTup, gCons, gNil, gSub, tDrop, tCallS, tCB, tM1, tM0, tBM, tBM0, tSl, tPar, tFor_eq, tLc_eq, intU_int, intU_bl, iList, iTup, iEnumT, tDNewK, rSlT, rSlL, iRng1, iRng2, iStr, tThen, tNever, L2.start, tRaiseFile, tMkFile, tYes, tPart, tNoPart, addA_int, addA_str, addU_int, addU_str, addU_ref, subU_int, mulU_int, mulU_ref, fdvU_int, modU_int, powU_int, ltU_int, leU_int, gtU_int, geU_int, eqU_int, eqU_str, eqU_bl, neU_int, neU_str, neU_bl, WE, TruV, List.map, List.length_cons, List.length_nil, List.replicate, List.append, List.getElem?_cons_zero, List.getElem?_cons_succ, List.set_cons_zero, List.set_cons_succ, List.cons_append, List.nil_append, Option.some.injEq, V.int.injEq, V.str.injEq, V.bl.injEq, V.ref.injEq, List.cons.injEq, exists_eq_left, exists_eq_right, and_true, true_and, and_self, exists_eq, exists_const, Bool.not_true, Bool.not_false, Bool.false_eq_true, if_true, if_false, reduceIte, decide_eq_true_eq, bne_iff_ne, exists_eq_left', exists_eq', exists_and_left, Bool.not_eq_true', decide_eq_false_iff_not, Nat.reduceSub, Nat.reduceAdd, reduceCtorEq, false_and, or_false, false_or, exists_false]
      refine ⟨sz 1, fun p hp0 => ⟨_, .inr ⟨_, (Ex.new (A := []) (TL := TL) (GT := GT) hp0).sqt hr1, rfl⟩, ?_⟩⟩
      have e5 := e4.add (o := .tup [.int 0]) hp0
      have hk : ((64 : Int) - ((((headL s0 ns ++ ws4 (headL s0 ns ++ rows.flatten)).map V.int).length : Nat) : Int)).toNat = 64 - (headL s0 ns ++ ws4 (headL s0 ns ++ rows.flatten)).length := by
        rw [List.length_map, hlen]; omega
      refine mulV_any (TL := TL) (GT := GT) (SqT.of upd_same) (by simp) (by rw [List.length_map, hlen]; omega) (by rw [List.length_map, hlen]; omega) (by decide) fun r6 H6 e6 h6 => ?_
      rw [hk] at h6
      refine addA_tup (TL := TL) (GT := GT) (((Ex.new (A := []) (TL := TL) (GT := GT) hp0).trans e6).sqt hr1) h6 ?_ fun r7 H7 e7 h7 => hq r7 H7 ((e5.trans e6).trans e7) ?_
      · rw [sizeLine_eq, List.length_map, hlen, List.flatten_replicate_singleton, List.length_replicate]; omega
      · have e9 : (fullHead s0 ns rows).map V.int = (headL s0 ns ++ ws4 (headL s0 ns ++ rows.flatten)).map V.int ++ (List.replicate (64 - (headL s0 ns ++ ws4 (headL s0 ns ++ rows.flatten)).length) [V.int 0]).flatten := by
          unfold fullHead
          rw [List.map_append, List.flatten_replicate_singleton, List.map_replicate]
        rw [e9]; exact h7
/-- two bytes as a number -/
def numAt (l : List Int) (i : Nat) : Int := l.getD i 0 * 256 + l.getD (i + 1) 0
/-- what read_head finds -/
def rhead (l : List Int) : Option (Int × List Int × List Int) :=
  if l.take 2 ≠ [74, 82] then none else if (6 + 2 * numAt l 4) + 4 > 64 then none else
  some (numAt l 2, (List.range (numAt l 4).toNat).map (fun i => numAt l (6 + 2 * i)), (l.drop (6 + 2 * (numAt l 4).toNat)).take 4)
def HeadAt (K : PySem.W.Frag) (H : Hp) (x : V) : Option (Int × List Int × List Int) → Prop
  | none => x = .non
  | some h => ∃ r a b, x = .ref r ∧ SqT K H r [.int h.1, .ref a, .ref b] ∧ SqT K H a (h.2.1.map V.int) ∧ SqT K H b (h.2.2.map V.int)
theorem num_at {l : List Int} {i : Nat} {p : Addr} {H : Hp} (hp : SqT K H p (l.map V.int)) (h : i + 1 < l.length) {Q : Int → Prop} : ∃ a b, atI (l.map V.int) (i : Int) = some (.int a) ∧ atI (l.map V.int) ((i : Int) + 1) = some (.int b) ∧ a * 256 + b = numAt l i := by
  refine ⟨l[i], l[i + 1], atI_nat (by rw [List.getElem?_map, List.getElem?_eq_getElem (by omega)]; rfl), ?_, ?_⟩
  · exact atI_nat (j := i + 1) (by rw [List.getElem?_map, List.getElem?_eq_getElem h]; rfl)
  · unfold numAt
    rw [List.getD_eq_getElem?_getD, List.getD_eq_getElem?_getD, List.getElem?_eq_getElem (by omega), List.getElem?_eq_getElem h]
    rfl
theorem num_nn {l : List Int} (h : ∀ x ∈ l, 0 ≤ x) (i : Nat) : 0 ≤ numAt l i := by
  have g : ∀ i, 0 ≤ l.getD i 0 := fun i => by
    rw [List.getD_eq_getElem?_getD]
    cases e : l[i]? with
    | none => exact Int.le_refl 0
    | some x => exact h x (List.mem_of_getElem? e)
  unfold numAt
  have a := g i
  have b := g (i + 1)
  omega
def spReadHead (K : PySem.W.Frag) (TL : List (Addr × Str)) (GT : List Addr) : Sp := fun vs H Q E => ∃ (p : Addr) (l : List Int), vs = [.ref p] ∧ SqT K H p (l.map V.int) ∧ l.length = 64 ∧ (∀ x ∈ l, 0 ≤ x) ∧ Tb TL GT H ∧
  ∀ x H', Ex [] TL GT H H' → HeadAt K H' x (rhead l) → Q x H'
theorem c_read_head (T : KB.Txt P w K mg base CD CJ DE JE jm TL GT) : Cal P w K mg base 14 "read_head" (spReadHead K TL GT) := by
  have c_number_of_pair := c_number_of_pair T
  obtain ⟨f, fd, c, tP, D, tb, hmem⟩ := T.d_rh
  refine D.ok (N := ["data", "serial", "many", "end", "numbers", "place"]) (ps := ["data"]) ⟨rfl, rfl, rfl, by decide +kernel, rfl, by decide +kernel, by decide +kernel⟩ (fun vs H Q E h => by first | (obtain ⟨_, rfl, _⟩ := h; rfl) | (obtain ⟨_, _, rfl, _⟩ := h; rfl) | (obtain ⟨_, _, _, rfl, _⟩ := h; rfl) | (obtain ⟨_, _, _, _, rfl, _⟩ := h; rfl) | (obtain ⟨_, _, _, _, _, rfl, _⟩ := h; rfl) | (obtain ⟨_, _, _, _, _, _, rfl, _⟩ := h; rfl) | (obtain ⟨_, _, _, _, _, _, _, rfl, _⟩ := h; rfl) | (obtain ⟨_, _, _, _, _, _, _, _, rfl, _⟩ := h; rfl) | (obtain ⟨rfl, _⟩ := h; rfl)) (fun _ _ _ _ _ _ us hl => match us, hl with | [_], _ => rfl) (fun A outer s H vs Q E hr h => ?_)
  have nd : (["data", "serial", "many", "end", "numbers", "place"] : List Str).Nodup := by decide
  refine mk_ex (pss_cons (ps_if (pt_cmpR (opK (K := K) (r := rNeU) (opU_ne (roomEq hr)) rfl) (tupOfK (K := K) rfl (pe_tupleOf rfl T.n_tuple (pe_slice (slK (K := K) (r := rSlA) sl_tupA rfl) (pv 0) po_none (po_some pe_int)))) (pe_gl rfl T.g_JOURNAL_MARK) (nomark _)) (pss_one (ps_ret pe_non)) pss_nil)
    (pss_cons (ps_par (i := 1) (j := 2) rfl nd rfl rfl (by decide) rfl rfl (by exact (pa_cons (GX.pe_call c_number_of_pair (hr.mono (by decide)) (takes_of rfl rfl rfl rfl) (by exact (pa_cons (pv 0) (pa_cons pe_int pa_nil)))) (pa_cons (GX.pe_call c_number_of_pair (hr.mono (by decide)) (takes_of rfl rfl rfl rfl) (by exact (pa_cons (pv 0) (pa_cons pe_int pa_nil)))) pa_nil))) rfl)
    (pss_cons (ps_set (i := 3) nd rfl (Or.inl rfl) (pe_op (opK (K := K) (r := rAddU) opU_add rfl) pe_int (pe_op (opK (K := K) (r := rMulV) opV_mul rfl) pe_int (pv 2))))
    (pss_cons (ps_if (pt_cmpR opU_gt (pe_op (opK (K := K) (r := rAddU) opU_add rfl) (pv 3) pe_int) (pe_callB (call_lenU (K := K) rfl) rfl T.n_len rfl (by exact (pa_cons (pv 0) pa_nil))) (nomark _)) (pss_one (ps_ret pe_non)) pss_nil)
    (pss_cons (ps_set (i := 4) nd rfl (Or.inl rfl) (pe_tupG (k := 6) (own := [("place", 5)]) (E := fun _ _ _ _ => False) (hr.mono (by decide)) rfl nd rfl T.n_tuple tb rfl (show GenOk ["data", "serial", "many", "end", "numbers", "place"] (defScope (top 13)) _ [("place", 5)] from genOk_by (by decide +kernel)) (pif_range1 rfl T.n_range (pa_cons (pv 2) pa_nil)) (fun σ pins H s e s' I c => passF pins σ H s e s' I c) (fun σ cls d H h => h.elim) (fun σ A s H L code bi pn => (pg_name (i := 5) nd rfl (Or.inl rfl))) (fun σ A s H L code bi pn hr1 => pts_nil) (fun σ A s H L code bi pn hr1 => (GX.pe_call c_number_of_pair (hr1.mono (by decide)) takes_g (by exact (pa_cons (pv 0) (pa_cons (pe_op (opK (K := K) (r := rAddU) opU_add rfl) pe_int (pe_op (opK (K := K) (r := rMulV) opV_mul rfl) pe_int (pv 5))) pa_nil)))))))
    (pss_one (ps_ret (pe_tup (pa_cons (pv 1) (pa_cons (pv 4) (pa_cons (tupOfK (K := K) rfl (pe_tupleOf rfl T.n_tuple (pe_slice (slK (K := K) (r := rSlA) sl_tupA rfl) (pv 0) (po_some (pv 3)) (po_some (pe_op (opK (K := K) (r := rAddU) opU_add rfl) (pv 3) pe_int))))) pa_nil))))))))))) ?_
  obtain ⟨p, l, rfl, hp, h64, hnn, ht, hq⟩ := h
  simp only [cx_K, gcx_K, lcx_K, LenV, rLenU, tTruU, kTup, tFld, sFld, sFldAug, tMet, tMake, tBM, tDGet, tDGet1, tDGet2, sDPut, tRevL, iEnum, tAug, tAsg, mulV_int, iaddU_int, isubU_int, iaddU_str, tTupL, ex2eq, not_true_eq_false, not_false_eq_true, LamX.tLam, LamX.TTold, tSeq, tIf, tNext, tRet, tRetN, tIfS, tTest, tB, tNot, tAnd, tOr, tChain, tOp, tUn, tC, tVar, tCons, tNil, tTup, tLst, tAsg, gName, gTup, gCons, gNil, gSub, tDrop, tCallS, tCB, tM1, tM0, tBM, tBM0, tSl, tPar, tFor_eq, tLc_eq, intU_int, intU_bl, iList, iTup, iEnumT, tDNewK, rSlT, rSlL, iRng1, iRng2, iStr, tThen, tNever, L2.start, tRaiseFile, tMkFile, tYes, tPart, tNoPart, addA_int, addA_str, addU_int, addU_str, addU_ref, subU_int, mulU_int, mulU_ref, fdvU_int, modU_int, powU_int, ltU_int, leU_int, gtU_int, geU_int, eqU_int, eqU_str, eqU_bl, neU_int, neU_str, neU_bl, WE, TruV, List.map, List.length_cons, List.length_nil, List.replicate, List.append, List.getElem?_cons_zero, List.getElem?_cons_succ, List.set_cons_zero, List.set_cons_succ, List.cons_append, List.nil_append, Option.some.injEq, V.int.injEq, V.str.injEq, V.bl.injEq, V.ref.injEq, List.cons.injEq, exists_eq_left, exists_eq_right, and_true, true_and, and_self, exists_eq, exists_const, Bool.not_true, Bool.not_false, Bool.false_eq_true, if_true, if_false, reduceIte, decide_eq_true_eq, bne_iff_ne, exists_eq_left', exists_eq', exists_and_left, Bool.not_eq_true', decide_eq_false_iff_not, Nat.reduceSub, Nat.reduceAdd, reduceCtorEq, false_and, or_false, false_or, exists_false]
  refine slA_tup (TL := TL) (GT := GT) hp fun q1 H1 e1 h1 => .inr ⟨q1, rfl, _, h1, ?_⟩
  have h1' : SqT K H1 q1 ((l.take 2).map V.int) := by
    rw [show (some (2 : Int)) = some ((2 : Nat) : Int) from rfl, cutV_to 2 (by simp [h64])] at h1
    rwa [List.map_take]
  refine ne_tups (ms := [74, 82]) h1' (T.markT H1) ⟨_, rfl, ?_⟩
  by_cases hm : l.take 2 = [74, 82]
  rotate_left
  · rw [if_pos (by simp [hm])]
    refine hq _ _ e1 ?_
    have e : rhead l = none := by unfold rhead; rw [if_pos hm]
    rw [e]; rfl
  rw [if_neg (by simp [hm])]
  obtain ⟨a2, b2, g1, g2, g3⟩ := num_at (i := 2) (e1.sqt hp) (by omega) (Q := fun _ => True)
  obtain ⟨a4, b4, k1, k2, k3⟩ := num_at (i := 4) (e1.sqt hp) (by omega) (Q := fun _ => True)
  refine ⟨p, 2, _, a2, b2, rfl, e1.sqt hp, g1, g2, p, 4, _, a4, b4, rfl, e1.sqt hp, k1, k2, ?_⟩
  rw [k3, g3]
  have n4 := num_nn hnn 4
  simp only [cx_K, gcx_K, lcx_K, LenV, rLenU, tTruU, kTup, tFld, sFld, sFldAug, tMet, tMake, tBM, tDGet, tDGet1, tDGet2, sDPut, tRevL, iEnum, tAug, tAsg, mulV_int, iaddU_int, isubU_int, iaddU_str, tTupL, ex2eq, not_true_eq_false, not_false_eq_true, LamX.tLam, LamX.TTold, tSeq, tIf, tNext, tRet, tRetN, tIfS, tTest, tB, tNot, tAnd, tOr, tChain, tOp, tUn, tC, tVar, tCons, tNil, tTup, tLst, tAsg, gName, gTup, gCons, gNil, gSub, tDrop, tCallS, tCB, tM1, tM0, tBM, tBM0, tSl, tPar, tFor_eq, tLc_eq, intU_int, intU_bl, iList, iTup, iEnumT, tDNewK, rSlT, rSlL, iRng1, iRng2, iStr, tThen, tNever, L2.start, tRaiseFile, tMkFile, tYes, tPart, tNoPart, addA_int, addA_str, addU_int, addU_str, addU_ref, subU_int, mulU_int, mulU_ref, fdvU_int, modU_int, powU_int, ltU_int, leU_int, gtU_int, geU_int, eqU_int, eqU_str, eqU_bl, neU_int, neU_str, neU_bl, WE, TruV, List.map, List.length_cons, List.length_nil, List.replicate, List.append, List.getElem?_cons_zero, List.getElem?_cons_succ, List.set_cons_zero, List.set_cons_succ, List.cons_append, List.nil_append, Option.some.injEq, V.int.injEq, V.str.injEq, V.bl.injEq, V.ref.injEq, List.cons.injEq, exists_eq_left, exists_eq_right, and_true, true_and, and_self, exists_eq, exists_const, Bool.not_true, Bool.not_false, Bool.false_eq_true, if_true, if_false, reduceIte, decide_eq_true_eq, bne_iff_ne, exists_eq_left', exists_eq', exists_and_left, Bool.not_eq_true', decide_eq_false_iff_not, Nat.reduceSub, Nat.reduceAdd, reduceCtorEq, false_and, or_false, false_or, exists_false]
  refine ⟨.inl (by decide), _, .inr ⟨_, e1.sqt hp, rfl⟩, ?_⟩
  rw [List.length_map, h64]
  by_cases hl : (64 : Int) < 6 + 2 * numAt l 4 + 4
  · rw [if_pos (by exact hl)]
    refine hq _ _ e1 ?_
    have e : rhead l = none := by unfold rhead; rw [if_neg (by simp [hm]), if_pos hl]
    rw [e]; rfl
  rw [if_neg (by exact hl)]
  obtain ⟨m, hmN⟩ : ∃ m : Nat, numAt l 4 = m := ⟨(numAt l 4).toNat, by omega⟩
  have er : rhead l = some (numAt l 2, (List.range m).map (fun i => numAt l (6 + 2 * i)), (l.drop (6 + 2 * m)).take 4) := by
    unfold rhead; rw [if_neg (by simp [hm]), if_neg hl, hmN, Int.toNat_natCast]
  rw [er] at hq
  rw [hmN] at hl ⊢
  refine ⟨_, rfl, (m : Int), rfl, by omega, by omega, e1.tg ht.tg tP hmem, ?_⟩
  rw [Int.toNat_natCast]
  refine turns_range (fun i ys H' => Ex [] TL GT H H' ∧ ys = ((List.range i).map fun j => numAt l (6 + 2 * j)).map V.int) ⟨e1, rfl⟩ ?_ ?_
  · rintro i ys H' hi ⟨e, rfl⟩
    have hpp := e.sqt hp
    obtain ⟨a6, b6, g6, g7, g8⟩ := num_at (i := 6 + 2 * i) hpp (by omega) (Q := fun _ => True)
    simp only [cx_K, gcx_K, lcx_K, LenV, rLenU, tTruU, kTup, tFld, sFld, sFldAug, tMet, tMake, tBM, tDGet, tDGet1, tDGet2, sDPut, tRevL, iEnum, tAug, tAsg, mulV_int, iaddU_int, isubU_int, iaddU_str, tTupL, ex2eq, not_true_eq_false, not_false_eq_true, LamX.tLam, LamX.TTold, tSeq, tIf, tNext, tRet, tRetN, tIfS, tTest, tB, tNot, tAnd, tOr, tChain, tOp, tUn, tC, tVar, tCons, tNil, tTup, tLst, tAsg, gName, gTup, gCons, gNil, gSub, tDrop, tCallS, tCB, tM1, tM0, tBM, tBM0, tSl, tPar, tFor_eq, tLc_eq, intU_int, intU_bl, iList, iTup, iEnumT, tDNewK, rSlT, rSlL, iRng1, iRng2, iStr, tThen, tNever, L2.start, tRaiseFile, tMkFile, tYes, tPart, tNoPart, addA_int, addA_str, addU_int, addU_str, addU_ref, subU_int, mulU_int, mulU_ref, fdvU_int, modU_int, powU_int, ltU_int, leU_int, gtU_int, geU_int, eqU_int, eqU_str, eqU_bl, neU_int, neU_str, neU_bl, WE, TruV, List.map, List.length_cons, List.length_nil, List.replicate, List.append, List.getElem?_cons_zero, List.getElem?_cons_succ, List.set_cons_zero, List.set_cons_succ, List.cons_append, List.nil_append, Option.some.injEq, V.int.injEq, V.str.injEq, V.bl.injEq, V.ref.injEq, List.cons.injEq, exists_eq_left, exists_eq_right, and_true, true_and, and_self, exists_eq, exists_const, Bool.not_true, Bool.not_false, Bool.false_eq_true, if_true, if_false, reduceIte, decide_eq_true_eq, bne_iff_ne, exists_eq_left', exists_eq', exists_and_left, Bool.not_eq_true', decide_eq_false_iff_not, Nat.reduceSub, Nat.reduceAdd, reduceCtorEq, false_and, or_false, false_or, exists_false, wipe, tYes]
    refine ⟨.inl (by decide), p, _, _, a6, b6, rfl, hpp, ?_, ?_, ?_⟩
    · rw [← g6]; congr 1; omega
    · rw [← g7]; congr 1; omega
    · refine ⟨?_, e, ?_⟩
      · rw [sizeLine_eq, List.length_map, List.length_map, List.length_range]; omega
      · rw [g8, List.range_succ, List.map_append, List.map_append]; rfl
  · rintro ys H' ⟨e, rfl⟩ p1 hp1
    have e2 := e.add (o := .tup (((List.range m).map fun j => numAt l (6 + 2 * j)).map V.int)) hp1
    have hp1' : SqT K (upd H' p1 (.tup (((List.range m).map fun j => numAt l (6 + 2 * j)).map V.int))) p1 (((List.range m).map fun j => numAt l (6 + 2 * j)).map V.int) := SqT.of upd_same
    generalize upd H' p1 (.tup (((List.range m).map fun j => numAt l (6 + 2 * j)).map V.int)) = H2 at e2 hp1'
    refine slA_tup (TL := TL) (GT := GT) (e2.sqt hp) fun q3 H3 e3 h3 => .inr ⟨q3, rfl, _, h3, sz 3, fun p4 hp4 => ?_⟩
    refine hq _ _ ((e2.trans e3).add hp4) ⟨p4, p1, q3, rfl, SqT.of upd_same, ((e3.add hp4) : Ex [] TL GT H2 _).sqt hp1', ?_⟩
    have h5 := (Ex.new (A := []) (TL := TL) (GT := GT) hp4 (o := .tup [.int (numAt l 2), .ref p1, .ref q3])).sqt h3
    have c1 : (6 : Int) + 2 * (m : Int) = ((6 + 2 * m : Nat) : Int) := by omega
    have c2 : (6 : Int) + 2 * (m : Int) + 4 = ((6 + 2 * m + 4 : Nat) : Int) := by omega
    rw [c2, c1, cutV_mid (6 + 2 * m) (6 + 2 * m + 4) (by omega) (by rw [List.length_map]; omega)] at h5
    rw [List.map_take, List.map_drop]
    have c3 : 6 + 2 * m + 4 - (6 + 2 * m) = 4 := by omega
    rw [c3] at h5
    exact h5
end
end KB
set_option Elab.async false
set_option linter.all false
set_option maxRecDepth 100000
set_option maxHeartbeats 2000000
namespace KB
open PySem PySem.Spec PyProof.Rows L2 GX
inductive Op where
  | wr (n : Int) (x : List Int)
  | fl
def dop (v : Dv) : Op → Dv × Bool
  | .wr n x => dwrite v n x
  | .fl => dflush v
def runOps : Dv → List Op → Dv × Bool
  | v, [] => (v, true)
  | v, o :: r => if (dop v o).2 = true then runOps (dop v o).1 r else dop v o
theorem run_append (v : Dv) (a b : List Op) : runOps v (a ++ b) = if (runOps v a).2 = true then runOps (runOps v a).1 b else runOps v a := by
  induction a generalizing v with
  | nil => rfl
  | cons o a ih =>
    show (if (dop v o).2 = true then runOps (dop v o).1 (a ++ b) else dop v o) = if (if (dop v o).2 = true then runOps (dop v o).1 a else dop v o).2 = true then runOps (if (dop v o).2 = true then runOps (dop v o).1 a else dop v o).1 b else (if (dop v o).2 = true then runOps (dop v o).1 a else dop v o)
    by_cases h : (dop v o).2 = true
    · rw [if_pos h, if_pos h]; exact ih _
    · rw [if_neg h, if_neg h, if_neg h]
def szD (v : Dv) : Nat := v.blocks.length + v.waiting.length
theorem dstep_size (v : Dv) : szD (dstep v).1 = szD v := by
  have h := dstep_same v
  unfold szD
  rw [h.1, h.2.1]
theorem putB_len (l : List Blk) (n : Int) (x : List Int) : (putB l n x).length ≤ l.length + 1 := by
  unfold putB
  split <;> simp
theorem puts_len (ws l : List Blk) : (ws.foldl (fun l p => putB l p.1 p.2) l).length ≤ l.length + ws.length := by
  induction ws generalizing l with
  | nil => exact Nat.le_refl _
  | cons p ws ih =>
    have a := ih (putB l p.1 p.2)
    have b := putB_len l p.1 p.2
    rw [List.foldl_cons, List.length_cons]
    omega
theorem dop_size (v : Dv) (o : Op) : szD (dop v o).1 ≤ szD v + 1 := by
  have hs := dstep_size v
  cases o with
  | wr n x =>
    show szD (dwrite v n x).1 ≤ _
    unfold dwrite
    split
    · exact Nat.le_succ _
    · split
      · exact Nat.le_succ _
      · split
        · unfold szD at hs ⊢
          simp only [List.length_append, List.length_cons, List.length_nil]
          omega
        · omega
  | fl =>
    show szD (dflush v).1 ≤ _
    unfold dflush
    split
    · have h := puts_len (dstep v).1.waiting (dstep v).1.blocks
      unfold szD at hs ⊢
      simp only [List.length_nil]
      omega
    · omega
theorem run_size (v : Dv) (l : List Op) : szD (runOps v l).1 ≤ szD v + l.length := by
  induction l generalizing v with
  | nil => exact Nat.le_refl _
  | cons o l ih =>
    have a := dop_size v o
    show szD (if (dop v o).2 = true then runOps (dop v o).1 l else dop v o).1 ≤ _
    rw [List.length_cons]
    split
    · have b := ih (dop v o).1
      omega
    · omega
def homeOps (rows : List Blk) : List Op := rows.map (fun p => .wr p.1 p.2) ++ [.fl, .wr 1 zeros, .fl]
section
variable {P : Program} {w : World} {K : PySem.W.Frag} {mg : Str → Option Value} {base : Heap} {CD CJ DE JE jm : Addr} {TL : List (Addr × Str)} {GT : List Addr}
theorem aft_trans {H H1 H2 : Hp} {d : Addr} {F F1 : List Addr} {v : Dv} (e : Ex F TL GT H H1) (hF : ∀ a ∈ F1, a ∈ F ∨ free H a) (b : Aft K CD TL GT H1 d F1 v H2) : Aft K CD TL GT H d F v H2 := by
  obtain ⟨e2, F2, D2, hF2⟩ := b
  exact ⟨ex_behind e hF e2, F2, D2, fun a ha => (hF2 a ha).elim (hF a) (fun z => e.fresh z)⟩
def spHR : Sp := fun vs H Q E => vs = [.int 64, .int 6] ∧ Q (.int 5) H ∨ vs = [.int 64, .int 100] ∧ Q (.int 11) H
theorem c_head_room (T : KB.Txt P w K mg base CD CJ DE JE jm TL GT) : Cal P w K mg base 3 "head_room" spHR := by
  obtain ⟨f, fd, c, D⟩ := T.d_hr
  refine D.ok (N := ["block_size", "count"]) (ps := ["block_size", "count"]) ⟨rfl, rfl, rfl, by decide +kernel, rfl, by decide +kernel, by decide +kernel⟩ (fun vs H Q E h => by rcases h with ⟨rfl, _⟩ | ⟨rfl, _⟩ <;> rfl) (fun _ _ _ _ _ _ us hl => match us, hl with | [_, _], _ => rfl) (fun A outer s H vs Q E hr h => ?_)
  have nd : (["block_size", "count"] : List Str).Nodup := by decide
  refine mk_ex (pss_one (ps_ret (pe_callB (call_min2 rfl) rfl T.n_min rfl (by exact (pa_cons (pe_op opU_sub (pv 1) pe_int) (pa_cons (pe_op opU_fdv (pe_op opU_sub (pe_op opU_fdv (pv 0) pe_int) (pe_gl rfl T.g_FIXED)) pe_int) pa_nil)))))) ?_
  rcases h with ⟨rfl, hq⟩ | ⟨rfl, hq⟩
  · simp only [cx_K, gcx_K, lcx_K, LenV, rLenU, tTruU, kTup, tFld, sFld, sFldAug, tMet, tMake, tBM, tDGet, tDGet1, tDGet2, sDPut, tRevL, iEnum, tAug, tAsg, mulV_int, iaddU_int, isubU_int, iaddU_str, tTupL, ex2eq, not_true_eq_false, not_false_eq_true, LamX.tLam, LamX.TTold, tSeq, tIf, tNext, tRet, tRetN, tIfS, tTest, tB, tNot, tAnd, tOr, tChain, tOp, tUn, tC, tVar, tCons, tNil, tTup, tLst, tAsg, gName, gTup, gCons, gNil, gSub, tDrop, tCallS, tCB, tM1, tM0, tBM, tBM0, tSl, tPar, tFor_eq, tLc_eq, intU_int, intU_bl, iList, iTup, iEnumT, tDNewK, rSlT, rSlL, iRng1, iRng2, iStr, tThen, tNever, L2.start, tRaiseFile, tMkFile, tYes, tPart, tNoPart, addA_int, addA_str, addU_int, addU_str, addU_ref, subU_int, mulU_int, mulU_ref, fdvU_int, modU_int, powU_int, ltU_int, leU_int, gtU_int, geU_int, eqU_int, eqU_str, eqU_bl, neU_int, neU_str, neU_bl, WE, TruV, List.map, List.length_cons, List.length_nil, List.replicate, List.append, List.getElem?_cons_zero, List.getElem?_cons_succ, List.set_cons_zero, List.set_cons_succ, List.cons_append, List.nil_append, Option.some.injEq, V.int.injEq, V.str.injEq, V.bl.injEq, V.ref.injEq, List.cons.injEq, exists_eq_left, exists_eq_right, and_true, true_and, and_self, exists_eq, exists_const, Bool.not_true, Bool.not_false, Bool.false_eq_true, if_true, if_false, reduceIte, decide_eq_true_eq, bne_iff_ne, exists_eq_left', exists_eq', exists_and_left, Bool.not_eq_true', decide_eq_false_iff_not, Nat.reduceSub, Nat.reduceAdd, reduceCtorEq, false_and, or_false, false_or, exists_false]
    rw [show (if (64 / 2 - 10) / 2 < (6 : Int) - 1 then ((64 : Int) / 2 - 10) / 2 else 6 - 1) = 5 by decide]
    exact ⟨⟨by decide, by decide⟩, ⟨by decide, by decide⟩, hq⟩
  · simp only [cx_K, gcx_K, lcx_K, LenV, rLenU, tTruU, kTup, tFld, sFld, sFldAug, tMet, tMake, tBM, tDGet, tDGet1, tDGet2, sDPut, tRevL, iEnum, tAug, tAsg, mulV_int, iaddU_int, isubU_int, iaddU_str, tTupL, ex2eq, not_true_eq_false, not_false_eq_true, LamX.tLam, LamX.TTold, tSeq, tIf, tNext, tRet, tRetN, tIfS, tTest, tB, tNot, tAnd, tOr, tChain, tOp, tUn, tC, tVar, tCons, tNil, tTup, tLst, tAsg, gName, gTup, gCons, gNil, gSub, tDrop, tCallS, tCB, tM1, tM0, tBM, tBM0, tSl, tPar, tFor_eq, tLc_eq, intU_int, intU_bl, iList, iTup, iEnumT, tDNewK, rSlT, rSlL, iRng1, iRng2, iStr, tThen, tNever, L2.start, tRaiseFile, tMkFile, tYes, tPart, tNoPart, addA_int, addA_str, addU_int, addU_str, addU_ref, subU_int, mulU_int, mulU_ref, fdvU_int, modU_int, powU_int, ltU_int, leU_int, gtU_int, geU_int, eqU_int, eqU_str, eqU_bl, neU_int, neU_str, neU_bl, WE, TruV, List.map, List.length_cons, List.length_nil, List.replicate, List.append, List.getElem?_cons_zero, List.getElem?_cons_succ, List.set_cons_zero, List.set_cons_succ, List.cons_append, List.nil_append, Option.some.injEq, V.int.injEq, V.str.injEq, V.bl.injEq, V.ref.injEq, List.cons.injEq, exists_eq_left, exists_eq_right, and_true, true_and, and_self, exists_eq, exists_const, Bool.not_true, Bool.not_false, Bool.false_eq_true, if_true, if_false, reduceIte, decide_eq_true_eq, bne_iff_ne, exists_eq_left', exists_eq', exists_and_left, Bool.not_eq_true', decide_eq_false_iff_not, Nat.reduceSub, Nat.reduceAdd, reduceCtorEq, false_and, or_false, false_or, exists_false]
    rw [show (if (64 / 2 - 10) / 2 < (100 : Int) - 1 then ((64 : Int) / 2 - 10) / 2 else 100 - 1) = 11 by decide]
    exact ⟨⟨by decide, by decide⟩, ⟨by decide, by decide⟩, hq⟩
def jfl (d : Addr) (s : Int) : List (Str × V) := [("device", .ref d), ("first", .int 1), ("blocks", .int 6), ("serial", .int s)]
def JAt (CJ : Addr) (H : Hp) (j d : Addr) (s : Int) : Prop := ∃ dx, H j = some (.ins CJ dx (jfl d s))
def spJInit (CJ : Addr) (TL : List (Addr × Str)) (GT : List Addr) : Sp := fun vs H Q E => ∃ j d dx, vs = [.ref j, .ref d, .int 1, .int 6] ∧ H j = some (.ins CJ dx []) ∧ ∀ H', Ex [j] TL GT H H' → JAt CJ H' j d 0 → Q .non H'
theorem k_jrn (T : KB.Txt P w K mg base CD CJ DE JE jm TL GT) : Mak P w K mg base 3 "Journal" CJ [] (spJInit CJ TL GT) := by
  obtain ⟨f, fd, c, D, hm⟩ := T.j_init
  refine mak_of T.gJ hm ?_ (D.bind0 (ps := ["self", "device", "start", "count"]) (fun _ _ _ _ _ _ us hl => match us, hl with | [_, _, _, _], _ => rfl))
  refine D.okF (N := ["self", "device", "start", "count"]) (ps := ["self", "device", "start", "count"]) ⟨rfl, rfl, rfl, by decide +kernel, rfl, by decide +kernel, by decide +kernel⟩ (fun vs H Q E h => by first | (obtain ⟨_, rfl, _⟩ := h; rfl) | (obtain ⟨_, _, rfl, _⟩ := h; rfl) | (obtain ⟨_, _, _, rfl, _⟩ := h; rfl) | (obtain ⟨_, _, _, _, rfl, _⟩ := h; rfl) | (obtain ⟨_, _, _, _, _, rfl, _⟩ := h; rfl) | (obtain ⟨_, _, _, _, _, _, rfl, _⟩ := h; rfl) | (obtain ⟨_, _, _, _, _, _, _, rfl, _⟩ := h; rfl) | (obtain ⟨_, _, _, _, _, _, _, _, rfl, _⟩ := h; rfl) | (obtain ⟨rfl, _⟩ := h; rfl)) (fun A outer s H vs Q E hr h => ?_)
  have nd : (["self", "device", "start", "count"] : List Str).Nodup := by decide
  refine mk_ex (pss_cons (sFldK (K := K) rfl (ps_fld (pv 0) (pv 1) rfl))
    (pss_cons (sFldK (K := K) rfl (ps_fld (pv 0) (pv 2) rfl))
    (pss_cons (sFldK (K := K) rfl (ps_fld (pv 0) (pv 3) rfl))
    (pss_one (sFldK (K := K) rfl (ps_fld (pv 0) pe_int rfl)))))) ?_
  obtain ⟨j, d, dx, rfl, h1, hq⟩ := h
  simp only [cx_K, gcx_K, lcx_K, LenV, rLenU, tTruU, kTup, tFld, sFld, sFldAug, tMet, tMake, tBM, tDGet, tDGet1, tDGet2, sDPut, tRevL, iEnum, tAug, tAsg, mulV_int, iaddU_int, isubU_int, iaddU_str, tTupL, ex2eq, not_true_eq_false, not_false_eq_true, LamX.tLam, LamX.TTold, tSeq, tIf, tNext, tRet, tRetN, tIfS, tTest, tB, tNot, tAnd, tOr, tChain, tOp, tUn, tC, tVar, tCons, tNil, tTup, tLst, tAsg, gName, gTup, gCons, gNil, gSub, tDrop, tCallS, tCB, tM1, tM0, tBM, tBM0, tSl, tPar, tFor_eq, tLc_eq, intU_int, intU_bl, iList, iTup, iEnumT, tDNewK, rSlT, rSlL, iRng1, iRng2, iStr, tThen, tNever, L2.start, tRaiseFile, tMkFile, tYes, tPart, tNoPart, addA_int, addA_str, addU_int, addU_str, addU_ref, subU_int, mulU_int, mulU_ref, fdvU_int, modU_int, powU_int, ltU_int, leU_int, gtU_int, geU_int, eqU_int, eqU_str, eqU_bl, neU_int, neU_str, neU_bl, WE, TruV, List.map, List.length_cons, List.length_nil, List.replicate, List.append, List.getElem?_cons_zero, List.getElem?_cons_succ, List.set_cons_zero, List.set_cons_succ, List.cons_append, List.nil_append, Option.some.injEq, V.int.injEq, V.str.injEq, V.bl.injEq, V.ref.injEq, List.cons.injEq, exists_eq_left, exists_eq_right, and_true, true_and, and_self, exists_eq, exists_const, Bool.not_true, Bool.not_false, Bool.false_eq_true, if_true, if_false, reduceIte, decide_eq_true_eq, bne_iff_ne, exists_eq_left', exists_eq', exists_and_left, Bool.not_eq_true', decide_eq_false_iff_not, Nat.reduceSub, Nat.reduceAdd, reduceCtorEq, false_and, or_false, false_or, exists_false]
  refine ⟨_, _, _, h1, T.cJ, T.fJ _ (by simp), (by first | (show 0 < 1000; decide) | (show 1 < 1000; decide) | (show 2 < 1000; decide) | (show 3 < 1000; decide) | (show 4 < 1000; decide) | (show 5 < 1000; decide) | (show 6 < 1000; decide) | (show 7 < 1000; decide)), ?_⟩; try simp only [cx_K, gcx_K, lcx_K, LenV, rLenU, tTruU, kTup, tFld, sFld, sFldAug, tMet, tMake, tBM, tDGet, tDGet1, tDGet2, sDPut, tRevL, iEnum, tAug, tAsg, mulV_int, iaddU_int, isubU_int, iaddU_str, tTupL, ex2eq, not_true_eq_false, not_false_eq_true, LamX.tLam, LamX.TTold, tSeq, tIf, tNext, tRet, tRetN, tIfS, tTest, tB, tNot, tAnd, tOr, tChain, tOp, tUn, tC, tVar, tCons, tNil, tTup, tLst, tAsg, gName, gTup, gCons, gNil, gSub, tDrop, tCallS, tCB, tM1, tM0, tBM, tBM0, tSl, tPar, tFor_eq, tLc_eq, intU_int, intU_bl, iList, iTup, iEnumT, tDNewK, rSlT, rSlL, iRng1, iRng2, iStr, tThen, tNever, L2.start, tRaiseFile, tMkFile, tYes, tPart, tNoPart, addA_int, addA_str, addU_int, addU_str, addU_ref, subU_int, mulU_int, mulU_ref, fdvU_int, modU_int, powU_int, ltU_int, leU_int, gtU_int, geU_int, eqU_int, eqU_str, eqU_bl, neU_int, neU_str, neU_bl, WE, TruV, List.map, List.length_cons, List.length_nil, List.replicate, List.append, List.getElem?_cons_zero, List.getElem?_cons_succ, List.set_cons_zero, List.set_cons_succ, List.cons_append, List.nil_append, Option.some.injEq, V.int.injEq, V.str.injEq, V.bl.injEq, V.ref.injEq, List.cons.injEq, exists_eq_left, exists_eq_right, and_true, true_and, and_self, exists_eq, exists_const, Bool.not_true, Bool.not_false, Bool.false_eq_true, if_true, if_false, reduceIte, decide_eq_true_eq, bne_iff_ne, exists_eq_left', exists_eq', exists_and_left, Bool.not_eq_true', decide_eq_false_iff_not, Nat.reduceSub, Nat.reduceAdd, reduceCtorEq, false_and, or_false, false_or, exists_false]
  refine ⟨_, _, _, upd_same, T.cJ, T.fJ _ (by simp), (by first | (show 0 < 1000; decide) | (show 1 < 1000; decide) | (show 2 < 1000; decide) | (show 3 < 1000; decide) | (show 4 < 1000; decide) | (show 5 < 1000; decide) | (show 6 < 1000; decide) | (show 7 < 1000; decide)), ?_⟩; try simp only [cx_K, gcx_K, lcx_K, LenV, rLenU, tTruU, kTup, tFld, sFld, sFldAug, tMet, tMake, tBM, tDGet, tDGet1, tDGet2, sDPut, tRevL, iEnum, tAug, tAsg, mulV_int, iaddU_int, isubU_int, iaddU_str, tTupL, ex2eq, not_true_eq_false, not_false_eq_true, LamX.tLam, LamX.TTold, tSeq, tIf, tNext, tRet, tRetN, tIfS, tTest, tB, tNot, tAnd, tOr, tChain, tOp, tUn, tC, tVar, tCons, tNil, tTup, tLst, tAsg, gName, gTup, gCons, gNil, gSub, tDrop, tCallS, tCB, tM1, tM0, tBM, tBM0, tSl, tPar, tFor_eq, tLc_eq, intU_int, intU_bl, iList, iTup, iEnumT, tDNewK, rSlT, rSlL, iRng1, iRng2, iStr, tThen, tNever, L2.start, tRaiseFile, tMkFile, tYes, tPart, tNoPart, addA_int, addA_str, addU_int, addU_str, addU_ref, subU_int, mulU_int, mulU_ref, fdvU_int, modU_int, powU_int, ltU_int, leU_int, gtU_int, geU_int, eqU_int, eqU_str, eqU_bl, neU_int, neU_str, neU_bl, WE, TruV, List.map, List.length_cons, List.length_nil, List.replicate, List.append, List.getElem?_cons_zero, List.getElem?_cons_succ, List.set_cons_zero, List.set_cons_succ, List.cons_append, List.nil_append, Option.some.injEq, V.int.injEq, V.str.injEq, V.bl.injEq, V.ref.injEq, List.cons.injEq, exists_eq_left, exists_eq_right, and_true, true_and, and_self, exists_eq, exists_const, Bool.not_true, Bool.not_false, Bool.false_eq_true, if_true, if_false, reduceIte, decide_eq_true_eq, bne_iff_ne, exists_eq_left', exists_eq', exists_and_left, Bool.not_eq_true', decide_eq_false_iff_not, Nat.reduceSub, Nat.reduceAdd, reduceCtorEq, false_and, or_false, false_or, exists_false]
  refine ⟨_, _, _, upd_same, T.cJ, T.fJ _ (by simp), (by first | (show 0 < 1000; decide) | (show 1 < 1000; decide) | (show 2 < 1000; decide) | (show 3 < 1000; decide) | (show 4 < 1000; decide) | (show 5 < 1000; decide) | (show 6 < 1000; decide) | (show 7 < 1000; decide)), ?_⟩; try simp only [cx_K, gcx_K, lcx_K, LenV, rLenU, tTruU, kTup, tFld, sFld, sFldAug, tMet, tMake, tBM, tDGet, tDGet1, tDGet2, sDPut, tRevL, iEnum, tAug, tAsg, mulV_int, iaddU_int, isubU_int, iaddU_str, tTupL, ex2eq, not_true_eq_false, not_false_eq_true, LamX.tLam, LamX.TTold, tSeq, tIf, tNext, tRet, tRetN, tIfS, tTest, tB, tNot, tAnd, tOr, tChain, tOp, tUn, tC, tVar, tCons, tNil, tTup, tLst, tAsg, gName, gTup, gCons, gNil, gSub, tDrop, tCallS, tCB, tM1, tM0, tBM, tBM0, tSl, tPar, tFor_eq, tLc_eq, intU_int, intU_bl, iList, iTup, iEnumT, tDNewK, rSlT, rSlL, iRng1, iRng2, iStr, tThen, tNever, L2.start, tRaiseFile, tMkFile, tYes, tPart, tNoPart, addA_int, addA_str, addU_int, addU_str, addU_ref, subU_int, mulU_int, mulU_ref, fdvU_int, modU_int, powU_int, ltU_int, leU_int, gtU_int, geU_int, eqU_int, eqU_str, eqU_bl, neU_int, neU_str, neU_bl, WE, TruV, List.map, List.length_cons, List.length_nil, List.replicate, List.append, List.getElem?_cons_zero, List.getElem?_cons_succ, List.set_cons_zero, List.set_cons_succ, List.cons_append, List.nil_append, Option.some.injEq, V.int.injEq, V.str.injEq, V.bl.injEq, V.ref.injEq, List.cons.injEq, exists_eq_left, exists_eq_right, and_true, true_and, and_self, exists_eq, exists_const, Bool.not_true, Bool.not_false, Bool.false_eq_true, if_true, if_false, reduceIte, decide_eq_true_eq, bne_iff_ne, exists_eq_left', exists_eq', exists_and_left, Bool.not_eq_true', decide_eq_false_iff_not, Nat.reduceSub, Nat.reduceAdd, reduceCtorEq, false_and, or_false, false_or, exists_false]
  refine ⟨_, _, _, upd_same, T.cJ, T.fJ _ (by simp), (by first | (show 0 < 1000; decide) | (show 1 < 1000; decide) | (show 2 < 1000; decide) | (show 3 < 1000; decide) | (show 4 < 1000; decide) | (show 5 < 1000; decide) | (show 6 < 1000; decide) | (show 7 < 1000; decide)), ?_⟩
  refine hq _ ((((Ex.put (by simp) h1 rfl).chg upd_same rfl (.inl (by simp))).chg upd_same rfl (.inl (by simp))).chg upd_same rfl (.inl (by simp))) ⟨dx, upd_same⟩
def spRoom (K : PySem.W.Frag) (CD CJ : Addr) : Sp := fun vs H Q E => ∃ j d s v F, vs = [.ref j] ∧ JAt CJ H j d s ∧ DevAt K CD H d v F ∧ Q (.int 5) H
theorem m_room (T : KB.Txt P w K mg base CD CJ DE JE jm TL GT) : Met P w K mg base 5 CJ "room" [] (spRoom K CD CJ) := by
  have c_head_room := c_head_room T
  obtain ⟨f, fd, c, D, hm⟩ := T.j_room
  refine met_of T.cJ hm ?_ (D.bind0 (ps := ["self"]) (fun _ _ _ _ _ _ us hl => match us, hl with | [_], _ => rfl))
  refine D.okF (N := ["self"]) (ps := ["self"]) ⟨rfl, rfl, rfl, by decide +kernel, rfl, by decide +kernel, by decide +kernel⟩ (fun vs H Q E h => by first | (obtain ⟨_, rfl, _⟩ := h; rfl) | (obtain ⟨_, _, rfl, _⟩ := h; rfl) | (obtain ⟨_, _, _, rfl, _⟩ := h; rfl) | (obtain ⟨_, _, _, _, rfl, _⟩ := h; rfl) | (obtain ⟨_, _, _, _, _, rfl, _⟩ := h; rfl) | (obtain ⟨_, _, _, _, _, _, rfl, _⟩ := h; rfl) | (obtain ⟨_, _, _, _, _, _, _, rfl, _⟩ := h; rfl) | (obtain ⟨_, _, _, _, _, _, _, _, rfl, _⟩ := h; rfl) | (obtain ⟨rfl, _⟩ := h; rfl)) (fun A outer s H vs Q E hr h => ?_)
  have nd : (["self"] : List Str).Nodup := by decide
  refine mk_ex (pss_one (ps_ret (GX.pe_call c_head_room (hr.mono (by decide)) (takes_of rfl rfl rfl rfl) (by exact (pa_cons (fldK (K := K) rfl (pe_fld (fldK (K := K) rfl (pe_fld (pv 0) rfl)) rfl)) (pa_cons (fldK (K := K) rfl (pe_fld (pv 0) rfl)) pa_nil)))))) ?_
  obtain ⟨j, d, s0, v, F, rfl, ⟨dx, h1⟩, hD, hq⟩ := h
  obtain ⟨dx2, b, w, kvs, ws, rfl, g1, g2, g3, g4, g5⟩ := id hD
  simp only [cx_K, gcx_K, lcx_K, LenV, rLenU, tTruU, kTup, tFld, sFld, sFldAug, tMet, tMake, tBM, tDGet, tDGet1, tDGet2, sDPut, tRevL, iEnum, tAug, tAsg, mulV_int, iaddU_int, isubU_int, iaddU_str, tTupL, ex2eq, not_true_eq_false, not_false_eq_true, LamX.tLam, LamX.TTold, tSeq, tIf, tNext, tRet, tRetN, tIfS, tTest, tB, tNot, tAnd, tOr, tChain, tOp, tUn, tC, tVar, tCons, tNil, tTup, tLst, tAsg, gName, gTup, gCons, gNil, gSub, tDrop, tCallS, tCB, tM1, tM0, tBM, tBM0, tSl, tPar, tFor_eq, tLc_eq, intU_int, intU_bl, iList, iTup, iEnumT, tDNewK, rSlT, rSlL, iRng1, iRng2, iStr, tThen, tNever, L2.start, tRaiseFile, tMkFile, tYes, tPart, tNoPart, addA_int, addA_str, addU_int, addU_str, addU_ref, subU_int, mulU_int, mulU_ref, fdvU_int, modU_int, powU_int, ltU_int, leU_int, gtU_int, geU_int, eqU_int, eqU_str, eqU_bl, neU_int, neU_str, neU_bl, WE, TruV, List.map, List.length_cons, List.length_nil, List.replicate, List.append, List.getElem?_cons_zero, List.getElem?_cons_succ, List.set_cons_zero, List.set_cons_succ, List.cons_append, List.nil_append, Option.some.injEq, V.int.injEq, V.str.injEq, V.bl.injEq, V.ref.injEq, List.cons.injEq, exists_eq_left, exists_eq_right, and_true, true_and, and_self, exists_eq, exists_const, Bool.not_true, Bool.not_false, Bool.false_eq_true, if_true, if_false, reduceIte, decide_eq_true_eq, bne_iff_ne, exists_eq_left', exists_eq', exists_and_left, Bool.not_eq_true', decide_eq_false_iff_not, Nat.reduceSub, Nat.reduceAdd, reduceCtorEq, false_and, or_false, false_or, exists_false]
  refine ⟨_, _, _, h1, T.cJ, T.fJ _ (by simp), _, rfl, ?_⟩; try simp only [cx_K, gcx_K, lcx_K, LenV, rLenU, tTruU, kTup, tFld, sFld, sFldAug, tMet, tMake, tBM, tDGet, tDGet1, tDGet2, sDPut, tRevL, iEnum, tAug, tAsg, mulV_int, iaddU_int, isubU_int, iaddU_str, tTupL, ex2eq, not_true_eq_false, not_false_eq_true, LamX.tLam, LamX.TTold, tSeq, tIf, tNext, tRet, tRetN, tIfS, tTest, tB, tNot, tAnd, tOr, tChain, tOp, tUn, tC, tVar, tCons, tNil, tTup, tLst, tAsg, gName, gTup, gCons, gNil, gSub, tDrop, tCallS, tCB, tM1, tM0, tBM, tBM0, tSl, tPar, tFor_eq, tLc_eq, intU_int, intU_bl, iList, iTup, iEnumT, tDNewK, rSlT, rSlL, iRng1, iRng2, iStr, tThen, tNever, L2.start, tRaiseFile, tMkFile, tYes, tPart, tNoPart, addA_int, addA_str, addU_int, addU_str, addU_ref, subU_int, mulU_int, mulU_ref, fdvU_int, modU_int, powU_int, ltU_int, leU_int, gtU_int, geU_int, eqU_int, eqU_str, eqU_bl, neU_int, neU_str, neU_bl, WE, TruV, List.map, List.length_cons, List.length_nil, List.replicate, List.append, List.getElem?_cons_zero, List.getElem?_cons_succ, List.set_cons_zero, List.set_cons_succ, List.cons_append, List.nil_append, Option.some.injEq, V.int.injEq, V.str.injEq, V.bl.injEq, V.ref.injEq, List.cons.injEq, exists_eq_left, exists_eq_right, and_true, true_and, and_self, exists_eq, exists_const, Bool.not_true, Bool.not_false, Bool.false_eq_true, if_true, if_false, reduceIte, decide_eq_true_eq, bne_iff_ne, exists_eq_left', exists_eq', exists_and_left, Bool.not_eq_true', decide_eq_false_iff_not, Nat.reduceSub, Nat.reduceAdd, reduceCtorEq, false_and, or_false, false_or, exists_false]
  refine ⟨_, _, _, g1, T.cD, T.fD _ (by simp), _, rfl, ?_⟩; try simp only [cx_K, gcx_K, lcx_K, LenV, rLenU, tTruU, kTup, tFld, sFld, sFldAug, tMet, tMake, tBM, tDGet, tDGet1, tDGet2, sDPut, tRevL, iEnum, tAug, tAsg, mulV_int, iaddU_int, isubU_int, iaddU_str, tTupL, ex2eq, not_true_eq_false, not_false_eq_true, LamX.tLam, LamX.TTold, tSeq, tIf, tNext, tRet, tRetN, tIfS, tTest, tB, tNot, tAnd, tOr, tChain, tOp, tUn, tC, tVar, tCons, tNil, tTup, tLst, tAsg, gName, gTup, gCons, gNil, gSub, tDrop, tCallS, tCB, tM1, tM0, tBM, tBM0, tSl, tPar, tFor_eq, tLc_eq, intU_int, intU_bl, iList, iTup, iEnumT, tDNewK, rSlT, rSlL, iRng1, iRng2, iStr, tThen, tNever, L2.start, tRaiseFile, tMkFile, tYes, tPart, tNoPart, addA_int, addA_str, addU_int, addU_str, addU_ref, subU_int, mulU_int, mulU_ref, fdvU_int, modU_int, powU_int, ltU_int, leU_int, gtU_int, geU_int, eqU_int, eqU_str, eqU_bl, neU_int, neU_str, neU_bl, WE, TruV, List.map, List.length_cons, List.length_nil, List.replicate, List.append, List.getElem?_cons_zero, List.getElem?_cons_succ, List.set_cons_zero, List.set_cons_succ, List.cons_append, List.nil_append, Option.some.injEq, V.int.injEq, V.str.injEq, V.bl.injEq, V.ref.injEq, List.cons.injEq, exists_eq_left, exists_eq_right, and_true, true_and, and_self, exists_eq, exists_const, Bool.not_true, Bool.not_false, Bool.false_eq_true, if_true, if_false, reduceIte, decide_eq_true_eq, bne_iff_ne, exists_eq_left', exists_eq', exists_and_left, Bool.not_eq_true', decide_eq_false_iff_not, Nat.reduceSub, Nat.reduceAdd, reduceCtorEq, false_and, or_false, false_or, exists_false]
  refine ⟨_, _, _, h1, T.cJ, T.fJ _ (by simp), _, rfl, ?_⟩; try simp only [cx_K, gcx_K, lcx_K, LenV, rLenU, tTruU, kTup, tFld, sFld, sFldAug, tMet, tMake, tBM, tDGet, tDGet1, tDGet2, sDPut, tRevL, iEnum, tAug, tAsg, mulV_int, iaddU_int, isubU_int, iaddU_str, tTupL, ex2eq, not_true_eq_false, not_false_eq_true, LamX.tLam, LamX.TTold, tSeq, tIf, tNext, tRet, tRetN, tIfS, tTest, tB, tNot, tAnd, tOr, tChain, tOp, tUn, tC, tVar, tCons, tNil, tTup, tLst, tAsg, gName, gTup, gCons, gNil, gSub, tDrop, tCallS, tCB, tM1, tM0, tBM, tBM0, tSl, tPar, tFor_eq, tLc_eq, intU_int, intU_bl, iList, iTup, iEnumT, tDNewK, rSlT, rSlL, iRng1, iRng2, iStr, tThen, tNever, L2.start, tRaiseFile, tMkFile, tYes, tPart, tNoPart, addA_int, addA_str, addU_int, addU_str, addU_ref, subU_int, mulU_int, mulU_ref, fdvU_int, modU_int, powU_int, ltU_int, leU_int, gtU_int, geU_int, eqU_int, eqU_str, eqU_bl, neU_int, neU_str, neU_bl, WE, TruV, List.map, List.length_cons, List.length_nil, List.replicate, List.append, List.getElem?_cons_zero, List.getElem?_cons_succ, List.set_cons_zero, List.set_cons_succ, List.cons_append, List.nil_append, Option.some.injEq, V.int.injEq, V.str.injEq, V.bl.injEq, V.ref.injEq, List.cons.injEq, exists_eq_left, exists_eq_right, and_true, true_and, and_self, exists_eq, exists_const, Bool.not_true, Bool.not_false, Bool.false_eq_true, if_true, if_false, reduceIte, decide_eq_true_eq, bne_iff_ne, exists_eq_left', exists_eq', exists_and_left, Bool.not_eq_true', decide_eq_false_iff_not, Nat.reduceSub, Nat.reduceAdd, reduceCtorEq, false_and, or_false, false_or, exists_false]
  exact .inl ⟨rfl, hq⟩
theorem run_take {v : Dv} {l : List Op} {i : Nat} {o : Op} (h : l[i]? = some o) (h2 : (runOps v (l.take i)).2 = true) : runOps v (l.take (i + 1)) = dop (runOps v (l.take i)).1 o := by
  rw [take_more h, run_append, if_pos h2]
  show (if (dop _ o).2 = true then ((dop _ o).1, true) else dop _ o) = _
  by_cases z : (dop (runOps v (l.take i)).1 o).2 = true
  · rw [if_pos z, ← z]
  · rw [if_neg z]
theorem run_stop {v : Dv} {l : List Op} {i : Nat} {o : Op} (h : l[i]? = some o) (h2 : (runOps v (l.take i)).2 = true) (h3 : (dop (runOps v (l.take i)).1 o).2 = false) : runOps v l = dop (runOps v (l.take i)).1 o := by
  have e := run_take h h2
  have e2 := run_append v (l.take (i + 1)) (l.drop (i + 1))
  rw [List.take_append_drop, e, if_neg (by rw [h3]; simp)] at e2
  exact e2
theorem run_go {v : Dv} {l : List Op} {i : Nat} {o : Op} (h : l[i]? = some o) (h2 : (runOps v (l.take i)).2 = true) (h3 : (dop (runOps v (l.take i)).1 o).2 = true) : (runOps v (l.take (i + 1))).1 = (dop (runOps v (l.take i)).1 o).1 ∧ (runOps v (l.take (i + 1))).2 = true := by
  have e := run_take h h2
  rw [e]; exact ⟨rfl, h3⟩
/-- a device with the ops done so far, all well -/
structure Run (K : PySem.W.Frag) (CD : Addr) (TL : List (Addr × Str)) (GT : List Addr) (H : Hp) (d : Addr) (F : List Addr) (v : Dv) (ops : List Op) (i : Nat) (H' : Hp) : Prop where
  ok : (runOps v (ops.take i)).2 = true
  aft : Aft K CD TL GT H d F (runOps v (ops.take i)).1 H'
theorem Run.write {H H' : Hp} {d : Addr} {F : List Addr} {v : Dv} {ops : List Op} {i : Nat} {n : Int} {u : V} {x : List Int} {Q : VK} {E : XK} (R : Run K CD TL GT H d F v ops i H') (ho : ops[i]? = some (.wr n x)) (hu : TI K H' u x) (hsz : szD v + i < 10000)
    (go : ∀ H2, Run K CD TL GT H d F v ops (i + 1) H2 → Q .non H2) (stop : (runOps v ops).2 = false → ∀ H2, Aft K CD TL GT H d F (runOps v ops).1 H2 → E (.ref DE) none H2) : spWrite K CD DE TL GT [.ref d, .int n, u] H' Q E := by
  obtain ⟨ok, e, F1, D1, hF1⟩ := R
  have hs := run_size v (ops.take i)
  have hl : (ops.take i).length ≤ i := by rw [List.length_take]; omega
  refine ⟨d, _, F1, n, u, x, rfl, D1, hu, by unfold szD at hs hsz; omega, fun h2 H2 a => ?_, fun h2 H2 a => ?_⟩
  · have g := run_go ho ok h2
    refine go H2 ⟨g.2, ?_⟩
    rw [g.1]
    exact aft_trans e hF1 a
  · have g := run_stop ho ok h2
    refine stop (by rw [g]; exact h2) H2 ?_
    rw [g]
    exact aft_trans e hF1 a
theorem Run.flush {H H' : Hp} {d : Addr} {F : List Addr} {v : Dv} {ops : List Op} {i : Nat} {Q : VK} {E : XK} (R : Run K CD TL GT H d F v ops i H') (ho : ops[i]? = some .fl) (hsz : szD v + i < 10000)
    (go : ∀ H2, Run K CD TL GT H d F v ops (i + 1) H2 → Q .non H2) (stop : (runOps v ops).2 = false → ∀ H2, Aft K CD TL GT H d F (runOps v ops).1 H2 → E (.ref DE) none H2) : spFlush K CD DE TL GT [.ref d] H' Q E := by
  obtain ⟨ok, e, F1, D1, hF1⟩ := R
  have hs := run_size v (ops.take i)
  have hl : (ops.take i).length ≤ i := by rw [List.length_take]; omega
  refine ⟨d, _, F1, rfl, D1, by unfold szD at hs hsz; omega, fun h2 H2 a => ?_, fun h2 H2 a => ?_⟩
  · have g := run_go ho ok h2
    refine go H2 ⟨g.2, ?_⟩
    rw [g.1]
    exact aft_trans e hF1 a
  · have g := run_stop ho ok h2
    refine stop (by rw [g]; exact h2) H2 ?_
    rw [g]
    exact aft_trans e hF1 a
theorem Run.at_ {H H' : Hp} {d : Addr} {F : List Addr} {v : Dv} {ops : List Op} {i : Nat} (R : Run K CD TL GT H d F v ops i H') : ∃ dx b w v1, H' d = some (.ins CD dx (flds b w v1)) := by
  obtain ⟨ok, e, F1, D1, hF1⟩ := R
  obtain ⟨dx, b, w, kvs, ws, rfl, h1, _⟩ := D1
  exact ⟨dx, b, w, _, h1⟩
theorem Run.add {H H' : Hp} {d p : Addr} {F : List Addr} {v : Dv} {ops : List Op} {i : Nat} {o : HO} (R : Run K CD TL GT H d F v ops i H') (hp : H' p = none) : Run K CD TL GT H d F v ops i (upd H' p o) := by
  obtain ⟨ok, e, F1, D1, hF1⟩ := R
  exact ⟨ok, e.add hp, F1, D1.keep (Ex.new hp : Ex [] TL GT H' _) (fun a _ => by simp), hF1⟩
theorem Run.ex {H H' H2 : Hp} {d : Addr} {F : List Addr} {v : Dv} {ops : List Op} {i : Nat} (R : Run K CD TL GT H d F v ops i H') (e2 : Ex [] TL GT H' H2) : Run K CD TL GT H d F v ops i H2 := by
  obtain ⟨ok, e, F1, D1, hF1⟩ := R
  exact ⟨ok, ex_behind e (B := []) (by simp) e2, F1, D1.keep e2 (fun a _ => by simp), hF1⟩
theorem Run.all {H H' : Hp} {d : Addr} {F : List Addr} {v : Dv} {ops : List Op} {i : Nat} (R : Run K CD TL GT H d F v ops i H') (hi : ops.length ≤ i) : (runOps v ops).2 = true ∧ Aft K CD TL GT H d F (runOps v ops).1 H' := by
  obtain ⟨ok, a⟩ := R
  rw [List.take_of_length_le hi] at ok a
  exact ⟨ok, a⟩
theorem home_row {rows : List Blk} {i : Nat} {b : Blk} (h : rows[i]? = some b) : (homeOps rows)[i]? = some (.wr b.1 b.2) := by
  have hi : i < rows.length := by
    rcases Nat.lt_or_ge i rows.length with z | z
    · exact z
    · rw [List.getElem?_eq_none z] at h; cases h
  unfold homeOps
  rw [List.getElem?_append_left (by rw [List.length_map]; exact hi), List.getElem?_map, h]
  rfl
theorem home_end {rows : List Blk} (k : Nat) : (homeOps rows)[rows.length + k]? = [Op.fl, .wr 1 zeros, .fl][k]? := by
  unfold homeOps
  rw [List.getElem?_append_right (by rw [List.length_map]; omega), List.length_map]
  congr 1; omega
theorem home_len (rows : List Blk) : (homeOps rows).length = rows.length + 3 := by
  unfold homeOps
  rw [List.length_append, List.length_map]; rfl
def spHome (K : PySem.W.Frag) (CD CJ DE : Addr) (TL : List (Addr × Str)) (GT : List Addr) : Sp := fun vs H Q E => ∃ j d s v F r us rows, vs = [.ref j, .ref r] ∧ JAt CJ H j d s ∧ DevAt K CD H d v F ∧ SqL K H r us ∧ Paired (PairAt K H) us rows ∧ j ∉ F ∧ (r ∉ F) ∧ szD v + rows.length < 9000 ∧
  ((runOps v (homeOps rows)).2 = true → ∀ H', Aft K CD TL GT H d F (runOps v (homeOps rows)).1 H' → Q .non H') ∧ ((runOps v (homeOps rows)).2 = false → ∀ H', Aft K CD TL GT H d F (runOps v (homeOps rows)).1 H' → E (.ref DE) none H')
theorem m_home (T : KB.Txt P w K mg base CD CJ DE JE jm TL GT) : Met P w K mg base 7 CJ "write_home" [] (spHome K CD CJ DE TL GT) := by
  have m_Device_write_block := m_write (TL := TL) (GT := GT) T
  have m_Device_flush := m_flush (TL := TL) (GT := GT) T
  obtain ⟨f, fd, c, D, hm⟩ := T.j_home
  refine met_of T.cJ hm ?_ (D.bind0 (ps := ["self", "rows"]) (fun _ _ _ _ _ _ us hl => match us, hl with | [_, _], _ => rfl))
  refine D.okF (N := ["self", "rows", "number", "data"]) (ps := ["self", "rows"]) ⟨rfl, rfl, rfl, by decide +kernel, rfl, by decide +kernel, by decide +kernel⟩ (fun vs H Q E h => by first | (obtain ⟨_, rfl, _⟩ := h; rfl) | (obtain ⟨_, _, rfl, _⟩ := h; rfl) | (obtain ⟨_, _, _, rfl, _⟩ := h; rfl) | (obtain ⟨_, _, _, _, rfl, _⟩ := h; rfl) | (obtain ⟨_, _, _, _, _, rfl, _⟩ := h; rfl) | (obtain ⟨_, _, _, _, _, _, rfl, _⟩ := h; rfl) | (obtain ⟨_, _, _, _, _, _, _, rfl, _⟩ := h; rfl) | (obtain ⟨_, _, _, _, _, _, _, _, rfl, _⟩ := h; rfl) | (obtain ⟨rfl, _⟩ := h; rfl)) (fun A outer s H vs Q E hr h => ?_)
  have nd : (["self", "rows", "number", "data"] : List Str).Nodup := by decide
  refine mk_ex (pss_cons (ps_for (passes_of rfl) rfl (ilK (K := K) rfl (pi_list (pv 1))) (tupGK (K := K) rfl (pg_tup (n := 2) rfl (pgs_cons (pg_name (i := 2) nd rfl (Or.inl rfl)) (pgs_cons (pg_name (i := 3) nd rfl (Or.inl rfl)) pgs_nil)))) (pss_one (ps_expr (pe_met m_Device_write_block (hr.mono (by decide)) (takes_of rfl rfl rfl rfl) (fldK (K := K) rfl (pe_fld (pv 0) rfl)) (by exact (pa_cons (pv 2) (pa_cons (pv 3) pa_nil)))))))
    (pss_cons (ps_expr (pe_met0 m_Device_flush (hr.mono (by decide)) (takes_of rfl rfl rfl rfl) (fldK (K := K) rfl (pe_fld (pv 0) rfl))))
    (pss_cons (ps_expr (pe_met m_Device_write_block (hr.mono (by decide)) (takes_of rfl rfl rfl rfl) (fldK (K := K) rfl (pe_fld (pv 0) rfl)) (by exact (pa_cons (fldK (K := K) rfl (pe_fld (pv 0) rfl)) (pa_cons (pe_op (opK (K := K) (r := rMulV) opV_mul rfl) (pe_tup (pa_cons pe_int pa_nil)) (fldK (K := K) rfl (pe_fld (fldK (K := K) rfl (pe_fld (pv 0) rfl)) rfl))) pa_nil)))))
    (pss_one (ps_expr (pe_met0 m_Device_flush (hr.mono (by decide)) (takes_of rfl rfl rfl rfl) (fldK (K := K) rfl (pe_fld (pv 0) rfl)))))))) ?_
  obtain ⟨j, d, s0, v, F, r, us, rows, rfl, ⟨jx, hj⟩, hD, hr, hp, hjF, hrF, hsz, hq, he⟩ := h
  simp only [cx_K, gcx_K, lcx_K, LenV, rLenU, tTruU, kTup, tFld, sFld, sFldAug, tMet, tMake, tBM, tDGet, tDGet1, tDGet2, sDPut, tRevL, iEnum, tAug, tAsg, mulV_int, iaddU_int, isubU_int, iaddU_str, tTupL, ex2eq, not_true_eq_false, not_false_eq_true, LamX.tLam, LamX.TTold, tSeq, tIf, tNext, tRet, tRetN, tIfS, tTest, tB, tNot, tAnd, tOr, tChain, tOp, tUn, tC, tVar, tCons, tNil, tTup, tLst, tAsg, gName, gTup, gCons, gNil, gSub, tDrop, tCallS, tCB, tM1, tM0, tBM, tBM0, tSl, tPar, tFor_eq, tLc_eq, intU_int, intU_bl, iList, iTup, iEnumT, tDNewK, rSlT, rSlL, iRng1, iRng2, iStr, tThen, tNever, L2.start, tRaiseFile, tMkFile, tYes, tPart, tNoPart, addA_int, addA_str, addU_int, addU_str, addU_ref, subU_int, mulU_int, mulU_ref, fdvU_int, modU_int, powU_int, ltU_int, leU_int, gtU_int, geU_int, eqU_int, eqU_str, eqU_bl, neU_int, neU_str, neU_bl, WE, TruV, List.map, List.length_cons, List.length_nil, List.replicate, List.append, List.getElem?_cons_zero, List.getElem?_cons_succ, List.set_cons_zero, List.set_cons_succ, List.cons_append, List.nil_append, Option.some.injEq, V.int.injEq, V.str.injEq, V.bl.injEq, V.ref.injEq, List.cons.injEq, exists_eq_left, exists_eq_right, and_true, true_and, and_self, exists_eq, exists_const, Bool.not_true, Bool.not_false, Bool.false_eq_true, if_true, if_false, reduceIte, decide_eq_true_eq, bne_iff_ne, exists_eq_left', exists_eq', exists_and_left, Bool.not_eq_true', decide_eq_false_iff_not, Nat.reduceSub, Nat.reduceAdd, reduceCtorEq, false_and, or_false, false_or, exists_false]
  refine ⟨⟨_, hr⟩, ?_⟩
  refine loop_list (xs := us) (fun i σ H' => ∃ v1 v2, σ = [some (.ref j), some (.ref r), v1, v2] ∧ Run K CD TL GT H d F v (homeOps rows) i H') ⟨_, _, rfl, rfl, Aft.refl hD⟩ (fun i σ H' _ ⟨_, _, _, e⟩ => e.aft.e.sql hrF hr) ?_ ?_
  · rintro i x σ H' hx ⟨v1, v2, rfl, ⟨ok, e, F1, D1, hF1⟩⟩
    obtain ⟨bk, hbk, q, u, rfl, hq2, hu⟩ := paired_at hp hx
    simp only [cx_K, gcx_K, lcx_K, LenV, rLenU, tTruU, kTup, tFld, sFld, sFldAug, tMet, tMake, tBM, tDGet, tDGet1, tDGet2, sDPut, tRevL, iEnum, tAug, tAsg, mulV_int, iaddU_int, isubU_int, iaddU_str, tTupL, ex2eq, not_true_eq_false, not_false_eq_true, LamX.tLam, LamX.TTold, tSeq, tIf, tNext, tRet, tRetN, tIfS, tTest, tB, tNot, tAnd, tOr, tChain, tOp, tUn, tC, tVar, tCons, tNil, tTup, tLst, tAsg, gName, gTup, gCons, gNil, gSub, tDrop, tCallS, tCB, tM1, tM0, tBM, tBM0, tSl, tPar, tFor_eq, tLc_eq, intU_int, intU_bl, iList, iTup, iEnumT, tDNewK, rSlT, rSlL, iRng1, iRng2, iStr, tThen, tNever, L2.start, tRaiseFile, tMkFile, tYes, tPart, tNoPart, addA_int, addA_str, addU_int, addU_str, addU_ref, subU_int, mulU_int, mulU_ref, fdvU_int, modU_int, powU_int, ltU_int, leU_int, gtU_int, geU_int, eqU_int, eqU_str, eqU_bl, neU_int, neU_str, neU_bl, WE, TruV, List.map, List.length_cons, List.length_nil, List.replicate, List.append, List.getElem?_cons_zero, List.getElem?_cons_succ, List.set_cons_zero, List.set_cons_succ, List.cons_append, List.nil_append, Option.some.injEq, V.int.injEq, V.str.injEq, V.bl.injEq, V.ref.injEq, List.cons.injEq, exists_eq_left, exists_eq_right, and_true, true_and, and_self, exists_eq, exists_const, Bool.not_true, Bool.not_false, Bool.false_eq_true, if_true, if_false, reduceIte, decide_eq_true_eq, bne_iff_ne, exists_eq_left', exists_eq', exists_and_left, Bool.not_eq_true', decide_eq_false_iff_not, Nat.reduceSub, Nat.reduceAdd, reduceCtorEq, false_and, or_false, false_or, exists_false]
    refine ⟨_, (e.sqt hq2), rfl, _, _, rfl, _, _, rfl, rfl, ?_⟩
    have hj1 := e.ext j _ hjF hj (fun _ z => by cases z)
    refine ⟨_, _, _, hj1, T.cJ, T.fJ _ (by simp), _, rfl, ?_⟩; try simp only [cx_K, gcx_K, lcx_K, LenV, rLenU, tTruU, kTup, tFld, sFld, sFldAug, tMet, tMake, tBM, tDGet, tDGet1, tDGet2, sDPut, tRevL, iEnum, tAug, tAsg, mulV_int, iaddU_int, isubU_int, iaddU_str, tTupL, ex2eq, not_true_eq_false, not_false_eq_true, LamX.tLam, LamX.TTold, tSeq, tIf, tNext, tRet, tRetN, tIfS, tTest, tB, tNot, tAnd, tOr, tChain, tOp, tUn, tC, tVar, tCons, tNil, tTup, tLst, tAsg, gName, gTup, gCons, gNil, gSub, tDrop, tCallS, tCB, tM1, tM0, tBM, tBM0, tSl, tPar, tFor_eq, tLc_eq, intU_int, intU_bl, iList, iTup, iEnumT, tDNewK, rSlT, rSlL, iRng1, iRng2, iStr, tThen, tNever, L2.start, tRaiseFile, tMkFile, tYes, tPart, tNoPart, addA_int, addA_str, addU_int, addU_str, addU_ref, subU_int, mulU_int, mulU_ref, fdvU_int, modU_int, powU_int, ltU_int, leU_int, gtU_int, geU_int, eqU_int, eqU_str, eqU_bl, neU_int, neU_str, neU_bl, WE, TruV, List.map, List.length_cons, List.length_nil, List.replicate, List.append, List.getElem?_cons_zero, List.getElem?_cons_succ, List.set_cons_zero, List.set_cons_succ, List.cons_append, List.nil_append, Option.some.injEq, V.int.injEq, V.str.injEq, V.bl.injEq, V.ref.injEq, List.cons.injEq, exists_eq_left, exists_eq_right, and_true, true_and, and_self, exists_eq, exists_const, Bool.not_true, Bool.not_false, Bool.false_eq_true, if_true, if_false, reduceIte, decide_eq_true_eq, bne_iff_ne, exists_eq_left', exists_eq', exists_and_left, Bool.not_eq_true', decide_eq_false_iff_not, Nat.reduceSub, Nat.reduceAdd, reduceCtorEq, false_and, or_false, false_or, exists_false]
    obtain ⟨dx, b, w, v3, hd⟩ := Run.at_ (ops := homeOps rows) ⟨ok, e, F1, D1, hF1⟩
    refine ⟨_, _, hd, rfl, Run.write ⟨ok, e, F1, D1, hF1⟩ (home_row hbk) (hu.ex e) ?_ (fun H2 r2 => r2) he⟩
    have hi : i < rows.length := by
      rcases Nat.lt_or_ge i rows.length with z | z
      · exact z
      · rw [List.getElem?_eq_none z] at hbk; cases hbk
    omega
  · rintro σ H' ⟨v1, v2, rfl, R⟩
    rw [paired_len hp] at R
    have e := R.aft.e
    obtain ⟨dx, b, w, v3, hd⟩ := R.at_
    have hj1 := e.ext j _ hjF hj (fun _ z => by cases z)
    simp only [cx_K, gcx_K, lcx_K, LenV, rLenU, tTruU, kTup, tFld, sFld, sFldAug, tMet, tMake, tBM, tDGet, tDGet1, tDGet2, sDPut, tRevL, iEnum, tAug, tAsg, mulV_int, iaddU_int, isubU_int, iaddU_str, tTupL, ex2eq, not_true_eq_false, not_false_eq_true, LamX.tLam, LamX.TTold, tSeq, tIf, tNext, tRet, tRetN, tIfS, tTest, tB, tNot, tAnd, tOr, tChain, tOp, tUn, tC, tVar, tCons, tNil, tTup, tLst, tAsg, gName, gTup, gCons, gNil, gSub, tDrop, tCallS, tCB, tM1, tM0, tBM, tBM0, tSl, tPar, tFor_eq, tLc_eq, intU_int, intU_bl, iList, iTup, iEnumT, tDNewK, rSlT, rSlL, iRng1, iRng2, iStr, tThen, tNever, L2.start, tRaiseFile, tMkFile, tYes, tPart, tNoPart, addA_int, addA_str, addU_int, addU_str, addU_ref, subU_int, mulU_int, mulU_ref, fdvU_int, modU_int, powU_int, ltU_int, leU_int, gtU_int, geU_int, eqU_int, eqU_str, eqU_bl, neU_int, neU_str, neU_bl, WE, TruV, List.map, List.length_cons, List.length_nil, List.replicate, List.append, List.getElem?_cons_zero, List.getElem?_cons_succ, List.set_cons_zero, List.set_cons_succ, List.cons_append, List.nil_append, Option.some.injEq, V.int.injEq, V.str.injEq, V.bl.injEq, V.ref.injEq, List.cons.injEq, exists_eq_left, exists_eq_right, and_true, true_and, and_self, exists_eq, exists_const, Bool.not_true, Bool.not_false, Bool.false_eq_true, if_true, if_false, reduceIte, decide_eq_true_eq, bne_iff_ne, exists_eq_left', exists_eq', exists_and_left, Bool.not_eq_true', decide_eq_false_iff_not, Nat.reduceSub, Nat.reduceAdd, reduceCtorEq, false_and, or_false, false_or, exists_false]
    refine ⟨_, _, _, hj1, T.cJ, T.fJ _ (by simp), _, rfl, ?_⟩; try simp only [cx_K, gcx_K, lcx_K, LenV, rLenU, tTruU, kTup, tFld, sFld, sFldAug, tMet, tMake, tBM, tDGet, tDGet1, tDGet2, sDPut, tRevL, iEnum, tAug, tAsg, mulV_int, iaddU_int, isubU_int, iaddU_str, tTupL, ex2eq, not_true_eq_false, not_false_eq_true, LamX.tLam, LamX.TTold, tSeq, tIf, tNext, tRet, tRetN, tIfS, tTest, tB, tNot, tAnd, tOr, tChain, tOp, tUn, tC, tVar, tCons, tNil, tTup, tLst, tAsg, gName, gTup, gCons, gNil, gSub, tDrop, tCallS, tCB, tM1, tM0, tBM, tBM0, tSl, tPar, tFor_eq, tLc_eq, intU_int, intU_bl, iList, iTup, iEnumT, tDNewK, rSlT, rSlL, iRng1, iRng2, iStr, tThen, tNever, L2.start, tRaiseFile, tMkFile, tYes, tPart, tNoPart, addA_int, addA_str, addU_int, addU_str, addU_ref, subU_int, mulU_int, mulU_ref, fdvU_int, modU_int, powU_int, ltU_int, leU_int, gtU_int, geU_int, eqU_int, eqU_str, eqU_bl, neU_int, neU_str, neU_bl, WE, TruV, List.map, List.length_cons, List.length_nil, List.replicate, List.append, List.getElem?_cons_zero, List.getElem?_cons_succ, List.set_cons_zero, List.set_cons_succ, List.cons_append, List.nil_append, Option.some.injEq, V.int.injEq, V.str.injEq, V.bl.injEq, V.ref.injEq, List.cons.injEq, exists_eq_left, exists_eq_right, and_true, true_and, and_self, exists_eq, exists_const, Bool.not_true, Bool.not_false, Bool.false_eq_true, if_true, if_false, reduceIte, decide_eq_true_eq, bne_iff_ne, exists_eq_left', exists_eq', exists_and_left, Bool.not_eq_true', decide_eq_false_iff_not, Nat.reduceSub, Nat.reduceAdd, reduceCtorEq, false_and, or_false, false_or, exists_false]
    refine ⟨_, _, hd, rfl, R.flush (home_end 0) (by omega) (fun H2 R => ?_) he⟩
    clear e hj1 hd
    have e := R.aft.e
    obtain ⟨dx, b, w, v3, hd⟩ := R.at_
    have hj1 := e.ext j _ hjF hj (fun _ z => by cases z)
    refine ⟨_, _, _, hj1, T.cJ, T.fJ _ (by simp), _, rfl, ?_⟩; try simp only [cx_K, gcx_K, lcx_K, LenV, rLenU, tTruU, kTup, tFld, sFld, sFldAug, tMet, tMake, tBM, tDGet, tDGet1, tDGet2, sDPut, tRevL, iEnum, tAug, tAsg, mulV_int, iaddU_int, isubU_int, iaddU_str, tTupL, ex2eq, not_true_eq_false, not_false_eq_true, LamX.tLam, LamX.TTold, tSeq, tIf, tNext, tRet, tRetN, tIfS, tTest, tB, tNot, tAnd, tOr, tChain, tOp, tUn, tC, tVar, tCons, tNil, tTup, tLst, tAsg, gName, gTup, gCons, gNil, gSub, tDrop, tCallS, tCB, tM1, tM0, tBM, tBM0, tSl, tPar, tFor_eq, tLc_eq, intU_int, intU_bl, iList, iTup, iEnumT, tDNewK, rSlT, rSlL, iRng1, iRng2, iStr, tThen, tNever, L2.start, tRaiseFile, tMkFile, tYes, tPart, tNoPart, addA_int, addA_str, addU_int, addU_str, addU_ref, subU_int, mulU_int, mulU_ref, fdvU_int, modU_int, powU_int, ltU_int, leU_int, gtU_int, geU_int, eqU_int, eqU_str, eqU_bl, neU_int, neU_str, neU_bl, WE, TruV, List.map, List.length_cons, List.length_nil, List.replicate, List.append, List.getElem?_cons_zero, List.getElem?_cons_succ, List.set_cons_zero, List.set_cons_succ, List.cons_append, List.nil_append, Option.some.injEq, V.int.injEq, V.str.injEq, V.bl.injEq, V.ref.injEq, List.cons.injEq, exists_eq_left, exists_eq_right, and_true, true_and, and_self, exists_eq, exists_const, Bool.not_true, Bool.not_false, Bool.false_eq_true, if_true, if_false, reduceIte, decide_eq_true_eq, bne_iff_ne, exists_eq_left', exists_eq', exists_and_left, Bool.not_eq_true', decide_eq_false_iff_not, Nat.reduceSub, Nat.reduceAdd, reduceCtorEq, false_and, or_false, false_or, exists_false]
    refine ⟨_, _, hd, rfl, ?_⟩
    refine ⟨_, _, _, hj1, T.cJ, T.fJ _ (by simp), _, rfl, ?_⟩; try simp only [cx_K, gcx_K, lcx_K, LenV, rLenU, tTruU, kTup, tFld, sFld, sFldAug, tMet, tMake, tBM, tDGet, tDGet1, tDGet2, sDPut, tRevL, iEnum, tAug, tAsg, mulV_int, iaddU_int, isubU_int, iaddU_str, tTupL, ex2eq, not_true_eq_false, not_false_eq_true, LamX.tLam, LamX.TTold, tSeq, tIf, tNext, tRet, tRetN, tIfS, tTest, tB, tNot, tAnd, tOr, tChain, tOp, tUn, tC, tVar, tCons, tNil, tTup, tLst, tAsg, gName, gTup, gCons, gNil, gSub, tDrop, tCallS, tCB, tM1, tM0, tBM, tBM0, tSl, tPar, tFor_eq, tLc_eq, intU_int, intU_bl, iList, iTup, iEnumT, tDNewK, rSlT, rSlL, iRng1, iRng2, iStr, tThen, tNever, L2.start, tRaiseFile, tMkFile, tYes, tPart, tNoPart, addA_int, addA_str, addU_int, addU_str, addU_ref, subU_int, mulU_int, mulU_ref, fdvU_int, modU_int, powU_int, ltU_int, leU_int, gtU_int, geU_int, eqU_int, eqU_str, eqU_bl, neU_int, neU_str, neU_bl, WE, TruV, List.map, List.length_cons, List.length_nil, List.replicate, List.append, List.getElem?_cons_zero, List.getElem?_cons_succ, List.set_cons_zero, List.set_cons_succ, List.cons_append, List.nil_append, Option.some.injEq, V.int.injEq, V.str.injEq, V.bl.injEq, V.ref.injEq, List.cons.injEq, exists_eq_left, exists_eq_right, and_true, true_and, and_self, exists_eq, exists_const, Bool.not_true, Bool.not_false, Bool.false_eq_true, if_true, if_false, reduceIte, decide_eq_true_eq, bne_iff_ne, exists_eq_left', exists_eq', exists_and_left, Bool.not_eq_true', decide_eq_false_iff_not, Nat.reduceSub, Nat.reduceAdd, reduceCtorEq, false_and, or_false, false_or, exists_false]
    refine ⟨sz 1, fun p hp => ?_⟩
    have R1 := R.add (o := .tup [.int 0]) hp
    have hp1 : SqT K (upd H2 p (.tup [.int 0])) p [.int 0] := SqT.of upd_same
    generalize upd H2 p (.tup [.int 0]) = H3 at R1 hp1 ⊢
    clear e hj1 hd
    have e := R1.aft.e
    obtain ⟨dx, b, w, v3, hd⟩ := R1.at_
    have hj1 := e.ext j _ hjF hj (fun _ z => by cases z)
    refine ⟨_, _, _, hj1, T.cJ, T.fJ _ (by simp), _, rfl, ?_⟩; try simp only [cx_K, gcx_K, lcx_K, LenV, rLenU, tTruU, kTup, tFld, sFld, sFldAug, tMet, tMake, tBM, tDGet, tDGet1, tDGet2, sDPut, tRevL, iEnum, tAug, tAsg, mulV_int, iaddU_int, isubU_int, iaddU_str, tTupL, ex2eq, not_true_eq_false, not_false_eq_true, LamX.tLam, LamX.TTold, tSeq, tIf, tNext, tRet, tRetN, tIfS, tTest, tB, tNot, tAnd, tOr, tChain, tOp, tUn, tC, tVar, tCons, tNil, tTup, tLst, tAsg, gName, gTup, gCons, gNil, gSub, tDrop, tCallS, tCB, tM1, tM0, tBM, tBM0, tSl, tPar, tFor_eq, tLc_eq, intU_int, intU_bl, iList, iTup, iEnumT, tDNewK, rSlT, rSlL, iRng1, iRng2, iStr, tThen, tNever, L2.start, tRaiseFile, tMkFile, tYes, tPart, tNoPart, addA_int, addA_str, addU_int, addU_str, addU_ref, subU_int, mulU_int, mulU_ref, fdvU_int, modU_int, powU_int, ltU_int, leU_int, gtU_int, geU_int, eqU_int, eqU_str, eqU_bl, neU_int, neU_str, neU_bl, WE, TruV, List.map, List.length_cons, List.length_nil, List.replicate, List.append, List.getElem?_cons_zero, List.getElem?_cons_succ, List.set_cons_zero, List.set_cons_succ, List.cons_append, List.nil_append, Option.some.injEq, V.int.injEq, V.str.injEq, V.bl.injEq, V.ref.injEq, List.cons.injEq, exists_eq_left, exists_eq_right, and_true, true_and, and_self, exists_eq, exists_const, Bool.not_true, Bool.not_false, Bool.false_eq_true, if_true, if_false, reduceIte, decide_eq_true_eq, bne_iff_ne, exists_eq_left', exists_eq', exists_and_left, Bool.not_eq_true', decide_eq_false_iff_not, Nat.reduceSub, Nat.reduceAdd, reduceCtorEq, false_and, or_false, false_or, exists_false]
    refine ⟨_, _, _, hd, T.cD, T.fD _ (by simp), _, rfl, ?_⟩; try simp only [cx_K, gcx_K, lcx_K, LenV, rLenU, tTruU, kTup, tFld, sFld, sFldAug, tMet, tMake, tBM, tDGet, tDGet1, tDGet2, sDPut, tRevL, iEnum, tAug, tAsg, mulV_int, iaddU_int, isubU_int, iaddU_str, tTupL, ex2eq, not_true_eq_false, not_false_eq_true, LamX.tLam, LamX.TTold, tSeq, tIf, tNext, tRet, tRetN, tIfS, tTest, tB, tNot, tAnd, tOr, tChain, tOp, tUn, tC, tVar, tCons, tNil, tTup, tLst, tAsg, gName, gTup, gCons, gNil, gSub, tDrop, tCallS, tCB, tM1, tM0, tBM, tBM0, tSl, tPar, tFor_eq, tLc_eq, intU_int, intU_bl, iList, iTup, iEnumT, tDNewK, rSlT, rSlL, iRng1, iRng2, iStr, tThen, tNever, L2.start, tRaiseFile, tMkFile, tYes, tPart, tNoPart, addA_int, addA_str, addU_int, addU_str, addU_ref, subU_int, mulU_int, mulU_ref, fdvU_int, modU_int, powU_int, ltU_int, leU_int, gtU_int, geU_int, eqU_int, eqU_str, eqU_bl, neU_int, neU_str, neU_bl, WE, TruV, List.map, List.length_cons, List.length_nil, List.replicate, List.append, List.getElem?_cons_zero, List.getElem?_cons_succ, List.set_cons_zero, List.set_cons_succ, List.cons_append, List.nil_append, Option.some.injEq, V.int.injEq, V.str.injEq, V.bl.injEq, V.ref.injEq, List.cons.injEq, exists_eq_left, exists_eq_right, and_true, true_and, and_self, exists_eq, exists_const, Bool.not_true, Bool.not_false, Bool.false_eq_true, if_true, if_false, reduceIte, decide_eq_true_eq, bne_iff_ne, exists_eq_left', exists_eq', exists_and_left, Bool.not_eq_true', decide_eq_false_iff_not, Nat.reduceSub, Nat.reduceAdd, reduceCtorEq, false_and, or_false, false_or, exists_false]
    refine mulV_any (TL := TL) (GT := GT) hp1 (by simp) (by decide) (by decide) (by decide) fun p4 H4 e4 h4 => ?_
    have R2 := R1.ex e4
    refine R2.write (home_end 1) ⟨p4, rfl, h4⟩ (by omega) (fun H5 R => ?_) he
    clear e hj1 hd
    have e := R.aft.e
    obtain ⟨dx, b, w, v3, hd⟩ := R.at_
    have hj1 := e.ext j _ hjF hj (fun _ z => by cases z)
    refine ⟨_, _, _, hj1, T.cJ, T.fJ _ (by simp), _, rfl, ?_⟩; try simp only [cx_K, gcx_K, lcx_K, LenV, rLenU, tTruU, kTup, tFld, sFld, sFldAug, tMet, tMake, tBM, tDGet, tDGet1, tDGet2, sDPut, tRevL, iEnum, tAug, tAsg, mulV_int, iaddU_int, isubU_int, iaddU_str, tTupL, ex2eq, not_true_eq_false, not_false_eq_true, LamX.tLam, LamX.TTold, tSeq, tIf, tNext, tRet, tRetN, tIfS, tTest, tB, tNot, tAnd, tOr, tChain, tOp, tUn, tC, tVar, tCons, tNil, tTup, tLst, tAsg, gName, gTup, gCons, gNil, gSub, tDrop, tCallS, tCB, tM1, tM0, tBM, tBM0, tSl, tPar, tFor_eq, tLc_eq, intU_int, intU_bl, iList, iTup, iEnumT, tDNewK, rSlT, rSlL, iRng1, iRng2, iStr, tThen, tNever, L2.start, tRaiseFile, tMkFile, tYes, tPart, tNoPart, addA_int, addA_str, addU_int, addU_str, addU_ref, subU_int, mulU_int, mulU_ref, fdvU_int, modU_int, powU_int, ltU_int, leU_int, gtU_int, geU_int, eqU_int, eqU_str, eqU_bl, neU_int, neU_str, neU_bl, WE, TruV, List.map, List.length_cons, List.length_nil, List.replicate, List.append, List.getElem?_cons_zero, List.getElem?_cons_succ, List.set_cons_zero, List.set_cons_succ, List.cons_append, List.nil_append, Option.some.injEq, V.int.injEq, V.str.injEq, V.bl.injEq, V.ref.injEq, List.cons.injEq, exists_eq_left, exists_eq_right, and_true, true_and, and_self, exists_eq, exists_const, Bool.not_true, Bool.not_false, Bool.false_eq_true, if_true, if_false, reduceIte, decide_eq_true_eq, bne_iff_ne, exists_eq_left', exists_eq', exists_and_left, Bool.not_eq_true', decide_eq_false_iff_not, Nat.reduceSub, Nat.reduceAdd, reduceCtorEq, false_and, or_false, false_or, exists_false]
    refine ⟨_, _, hd, rfl, R.flush (home_end 2) (by omega) (fun H2 R => ?_) he⟩
    obtain ⟨z1, z2⟩ := R.all (by rw [home_len]; exact Nat.le_refl _)
    exact hq z1 _ z2
end
end KB
set_option Elab.async false
set_option linter.all false
set_option maxRecDepth 100000
set_option maxHeartbeats 2000000
namespace KB
open PySem PySem.Spec PyProof.Rows L2 GX
def commitOps (s : Int) (rows : List Blk) : List Op := rows.zipIdx.map (fun p => .wr (1 + 1 + (p.2 : Int)) p.1.2) ++ [.fl, .wr 1 (fullHead (s % 65536) (rows.map (·.1)) (rows.map (·.2))), .fl]
section
variable {P : Program} {w : World} {K : PySem.W.Frag} {mg : Str → Option Value} {base : Heap} {CD CJ DE JE jm : Addr} {TL : List (Addr × Str)} {GT : List Addr}
theorem dp_rows {H : Hp} {us : List V} {rows : List Blk} (h : Paired (PairAt K H) us rows) : DpAll K H us (rows.map rowD) := by
  induction h with
  | nil => exact .nil
  | cons p r ih =>
    obtain ⟨q, u, rfl, h1, t, rfl, h2⟩ := p
    exact .cons (.tup h1 (.cons (.int _) (.cons (.tup h2 (dp_ints _)) .nil))) ih
theorem eq_rows {H : Hp} {Q : VK} {p q : Addr} {us ws : List V} {l m : List Blk} (hp : SqL K H p us) (hq : SqL K H q ws) (h1 : Paired (PairAt K H) us l) (h2 : Paired (PairAt K H) ws m) (h : Q (.bl (decide (l = m))) H) : rEqU K (.ref p) (.ref q) H Q := by
  refine ⟨.list (l.map rowD), .list (m.map rowD), .lst hp (dp_rows h1), .lst hq (dp_rows h2), shaped_rows l, shaped_rows m, ?_⟩
  rw [show PyData.eqv (.list (l.map rowD)) (.list (m.map rowD)) = PyData.eqvAll (l.map rowD) (m.map rowD) from rfl, eqvAll_rows]
  exact h
theorem ne_rows {H : Hp} {Q : VK} {p q : Addr} {us ws : List V} {l m : List Blk} (hp : SqL K H p us) (hq : SqL K H q ws) (h1 : Paired (PairAt K H) us l) (h2 : Paired (PairAt K H) ws m) (h : Q (.bl (!decide (l = m))) H) : rNeU K (.ref p) (.ref q) H Q := by
  refine ⟨.list (l.map rowD), .list (m.map rowD), .lst hp (dp_rows h1), .lst hq (dp_rows h2), shaped_rows l, shaped_rows m, ?_⟩
  rw [show PyData.eqv (.list (l.map rowD)) (.list (m.map rowD)) = PyData.eqvAll (l.map rowD) (m.map rowD) from rfl, eqvAll_rows]
  exact h
theorem map_at' {α β : Type} {f : α → β} {l : List α} {i : Nat} {x : β} (h : (l.map f)[i]? = some x) : ∃ z, l[i]? = some z ∧ f z = x := by
  obtain ⟨z, h1, h2⟩ := map_at h
  exact ⟨z, h1, h2.symm⟩
/-- behind a deed on a journal -/
structure AftJ (K : PySem.W.Frag) (CD CJ : Addr) (TL : List (Addr × Str)) (GT : List Addr) (H : Hp) (j d : Addr) (F : List Addr) (v : Dv) (s : Int) (H' : Hp) : Prop where
  e : Ex (j :: F) TL GT H H'
  at_ : ∃ F', DevAt K CD H' d v F' ∧ ∀ a ∈ F', a ∈ F ∨ free H a
  jat : JAt CJ H' j d s
theorem DevAt.live {CD d : Addr} {v : Dv} {F : List Addr} {H : Hp} (D : DevAt K CD H d v F) : ∀ a ∈ F, ∃ o, H a = some o ∧ isMut o = true := by
  obtain ⟨dx, b, w, kvs, ws, rfl, h1, h2, h3, _⟩ := D
  intro a ha
  simp only [List.mem_cons, List.not_mem_nil, or_false] at ha
  rcases ha with rfl | rfl | rfl
  · exact ⟨_, h1, rfl⟩
  · exact ⟨_, h2, rfl⟩
  · exact ⟨_, h3, rfl⟩
theorem DevAt.notin {CD d a : Addr} {v : Dv} {F : List Addr} {H : Hp} (D : DevAt K CD H d v F) (h : H a = none) : a ∉ F := fun ha => by
  obtain ⟨o, e, _⟩ := D.live a ha
  rw [h] at e; cases e
theorem commit_row {s : Int} {rows : List Blk} {i : Nat} {b : Blk} (h : rows[i]? = some b) : (commitOps s rows)[i]? = some (.wr (1 + 1 + (i : Int)) b.2) := by
  have hi : i < rows.length := by
    rcases Nat.lt_or_ge i rows.length with z | z
    · exact z
    · rw [List.getElem?_eq_none z] at h; cases h
  unfold commitOps
  rw [List.getElem?_append_left (by rw [List.length_map, List.length_zipIdx]; exact hi), List.getElem?_map, List.getElem?_zipIdx, h]
  simp
theorem commit_end {s : Int} {rows : List Blk} (k : Nat) : (commitOps s rows)[rows.length + k]? = [Op.fl, .wr 1 (fullHead (s % 65536) (rows.map (·.1)) (rows.map (·.2))), .fl][k]? := by
  unfold commitOps
  rw [List.getElem?_append_right (by rw [List.length_map, List.length_zipIdx]; omega), List.length_map, List.length_zipIdx]
  congr 1; omega
theorem commit_len (s : Int) (rows : List Blk) : (commitOps s rows).length = rows.length + 3 := by
  unfold commitOps
  rw [List.length_append, List.length_map, List.length_zipIdx]; rfl
def spCommit (K : PySem.W.Frag) (CD CJ DE JE : Addr) (TL : List (Addr × Str)) (GT : List Addr) : Sp := fun vs H Q E => ∃ j d s v F r us rows, vs = [.ref j, .ref r] ∧ JAt CJ H j d s ∧ DevAt K CD H d v F ∧ H r = some (.lst us) ∧ Paired (PairAt K H) us rows ∧ (∀ p ∈ rows, p.2.length = 64) ∧ j ∉ F ∧ (r ∉ j :: F) ∧ szD v + 2 * rows.length < 8000 ∧
  (5 < rows.length → ∀ H', Ex [] TL GT H H' → E (.ref JE) none H') ∧ (rows = [] → ∀ H', Ex [] TL GT H H' → Q .non H') ∧
  (rows.length ≤ 5 → rows ≠ [] → (runOps v (commitOps (s + 1) rows ++ homeOps rows)).2 = true → ∀ H', AftJ K CD CJ TL GT H j d F (runOps v (commitOps (s + 1) rows ++ homeOps rows)).1 (s + 1) H' → Q .non H') ∧
  (rows.length ≤ 5 → rows ≠ [] → (runOps v (commitOps (s + 1) rows ++ homeOps rows)).2 = false → ∀ H', AftJ K CD CJ TL GT H j d F (runOps v (commitOps (s + 1) rows ++ homeOps rows)).1 (s + 1) H' → E (.ref DE) none H')
theorem m_commit (T : KB.Txt P w K mg base CD CJ DE JE jm TL GT) : Met P w K mg base 9 CJ "commit" [] (spCommit K CD CJ DE JE TL GT) := by
  have m_Device_write_block := m_write (TL := TL) (GT := GT) T
  have m_Device_flush := m_flush (TL := TL) (GT := GT) T
  have m_Journal_room := m_room T
  have m_Journal_write_home := m_home T
  have c_head_of := c_head_of T
  obtain ⟨f, fd, c, D, hm⟩ := T.j_commit
  refine met_of T.cJ hm ?_ (D.bind0 (ps := ["self", "rows"]) (fun _ _ _ _ _ _ us hl => match us, hl with | [_, _], _ => rfl))
  refine D.okF (N := ["self", "rows", "data", "numbers", "datas", "place", "number"]) (ps := ["self", "rows"]) ⟨rfl, rfl, rfl, by decide +kernel, rfl, by decide +kernel, by decide +kernel⟩ (fun vs H Q E h => by first | (obtain ⟨_, rfl, _⟩ := h; rfl) | (obtain ⟨_, _, rfl, _⟩ := h; rfl) | (obtain ⟨_, _, _, rfl, _⟩ := h; rfl) | (obtain ⟨_, _, _, _, rfl, _⟩ := h; rfl) | (obtain ⟨_, _, _, _, _, rfl, _⟩ := h; rfl) | (obtain ⟨_, _, _, _, _, _, rfl, _⟩ := h; rfl) | (obtain ⟨_, _, _, _, _, _, _, rfl, _⟩ := h; rfl) | (obtain ⟨_, _, _, _, _, _, _, _, rfl, _⟩ := h; rfl) | (obtain ⟨rfl, _⟩ := h; rfl)) (fun A outer s H vs Q E hr h => ?_)
  have nd : (["self", "rows", "data", "numbers", "datas", "place", "number"] : List Str).Nodup := by decide
  refine mk_ex (pss_cons (ps_if (pt_cmpR opU_gt (pe_callB (call_lenU (K := K) rfl) rfl T.n_len rfl (by exact (pa_cons (pv 1) pa_nil))) (pe_met0 m_Journal_room (hr.mono (by decide)) (takes_of rfl rfl rfl rfl) (pv 0)) (nomark _)) (pss_one (ps_raise rfl (takes_of rfl rfl rfl rfl) (by exact (pmk_plain T.x_JournalError)))) pss_nil)
    (pss_cons (ps_if (pt_cmpR (opK (K := K) (r := rEqU) (opU_eq (roomEq hr)) rfl) (pv 1) (pe_lst pa_nil) (nomark _)) (pss_one ps_retN) pss_nil)
    (pss_cons (sFldAugK (K := K) rfl (ps_fldaug (pv 0) pe_int (opK (K := K) (r := rIaddU) opU_iadd rfl)))
    (pss_cons (ps_par (i := 3) (j := 4) rfl nd rfl rfl (by decide) rfl rfl (by exact (pa_cons (pe_lc rfl nd (ilK (K := K) rfl (pi_list (pv 1))) (show BlkOk ["self", "rows", "data", "numbers", "datas", "place", "number"] (defScope (inClass (top 14) 2)) _ [("number", 6), ("data", 2)] from blkOk_by (by decide +kernel)) (fun s H C cl fp => (tupGK (K := K) rfl (pg_tup (n := 2) rfl (pgs_cons (pg_name (i := 6) nd rfl (Or.inl rfl)) (pgs_cons (pg_name (i := 2) nd rfl (Or.inl rfl)) pgs_nil))))) (fun s H C cl fp => pts_nil) (fun s H C cl fp => (pv 6))) (pa_cons (pe_lc rfl nd (ilK (K := K) rfl (pi_list (pv 1))) (show BlkOk ["self", "rows", "data", "numbers", "datas", "place", "number"] (defScope (inClass (top 14) 2)) _ [("number", 6), ("data", 2)] from blkOk_by (by decide +kernel)) (fun s H C cl fp => (tupGK (K := K) rfl (pg_tup (n := 2) rfl (pgs_cons (pg_name (i := 6) nd rfl (Or.inl rfl)) (pgs_cons (pg_name (i := 2) nd rfl (Or.inl rfl)) pgs_nil))))) (fun s H C cl fp => pts_nil) (fun s H C cl fp => (pv 2))) pa_nil))) rfl)
    (pss_cons (ps_for (passes_of rfl) rfl (enumK (K := K) rfl (pi_enum rfl T.n_enumerate (pa_cons (pv 4) pa_nil))) (tupGK (K := K) rfl (pg_tup (n := 2) rfl (pgs_cons (pg_name (i := 5) nd rfl (Or.inl rfl)) (pgs_cons (pg_name (i := 2) nd rfl (Or.inl rfl)) pgs_nil)))) (pss_one (ps_expr (pe_met m_Device_write_block (hr.mono (by decide)) (takes_of rfl rfl rfl rfl) (fldK (K := K) rfl (pe_fld (pv 0) rfl)) (by exact (pa_cons (pe_op (opK (K := K) (r := rAddU) opU_add rfl) (pe_op (opK (K := K) (r := rAddU) opU_add rfl) (fldK (K := K) rfl (pe_fld (pv 0) rfl)) pe_int) (pv 5)) (pa_cons (pv 2) pa_nil)))))))
    (pss_cons (ps_expr (pe_met0 m_Device_flush (hr.mono (by decide)) (takes_of rfl rfl rfl rfl) (fldK (K := K) rfl (pe_fld (pv 0) rfl))))
    (pss_cons (ps_expr (pe_met m_Device_write_block (hr.mono (by decide)) (takes_of rfl rfl rfl rfl) (fldK (K := K) rfl (pe_fld (pv 0) rfl)) (by exact (pa_cons (fldK (K := K) rfl (pe_fld (pv 0) rfl)) (pa_cons (GX.pe_call c_head_of (hr.mono (by decide)) (takes_of rfl rfl rfl rfl) (by exact (pa_cons (pe_op opU_mod (fldK (K := K) rfl (pe_fld (pv 0) rfl)) pe_int) (pa_cons (pv 3) (pa_cons (pv 4) (pa_cons (fldK (K := K) rfl (pe_fld (fldK (K := K) rfl (pe_fld (pv 0) rfl)) rfl)) pa_nil)))))) pa_nil)))))
    (pss_cons (ps_expr (pe_met0 m_Device_flush (hr.mono (by decide)) (takes_of rfl rfl rfl rfl) (fldK (K := K) rfl (pe_fld (pv 0) rfl))))
    (pss_one (ps_expr (pe_met m_Journal_write_home (hr.mono (by decide)) (takes_of rfl rfl rfl rfl) (pv 0) (by exact (pa_cons (pv 1) pa_nil))))))))))))) ?_
  obtain ⟨j, d, s0, v, F, r, us, rows, rfl, ⟨jx, hj⟩, hD, hr0, hp, hr64, hjF, hrF, hsz, h1, h2, h3, h4⟩ := h
  have hr : SqL K H r us := lst_at hr0
  simp only [cx_K, gcx_K, lcx_K, LenV, rLenU, tTruU, kTup, tFld, sFld, sFldAug, tMet, tMake, tBM, tDGet, tDGet1, tDGet2, sDPut, tRevL, iEnum, tAug, tAsg, mulV_int, iaddU_int, isubU_int, iaddU_str, tTupL, ex2eq, not_true_eq_false, not_false_eq_true, LamX.tLam, LamX.TTold, tSeq, tIf, tNext, tRet, tRetN, tIfS, tTest, tB, tNot, tAnd, tOr, tChain, tOp, tUn, tC, tVar, tCons, tNil, tTup, tLst, tAsg, gName, gTup, gCons, gNil, gSub, tDrop, tCallS, tCB, tM1, tM0, tBM, tBM0, tSl, tPar, tFor_eq, tLc_eq, intU_int, intU_bl, iList, iTup, iEnumT, tDNewK, rSlT, rSlL, iRng1, iRng2, iStr, tThen, tNever, L2.start, tRaiseFile, tMkFile, tYes, tPart, tNoPart, addA_int, addA_str, addU_int, addU_str, addU_ref, subU_int, mulU_int, mulU_ref, fdvU_int, modU_int, powU_int, ltU_int, leU_int, gtU_int, geU_int, eqU_int, eqU_str, eqU_bl, neU_int, neU_str, neU_bl, WE, TruV, List.map, List.length_cons, List.length_nil, List.replicate, List.append, List.getElem?_cons_zero, List.getElem?_cons_succ, List.set_cons_zero, List.set_cons_succ, List.cons_append, List.nil_append, Option.some.injEq, V.int.injEq, V.str.injEq, V.bl.injEq, V.ref.injEq, List.cons.injEq, exists_eq_left, exists_eq_right, and_true, true_and, and_self, exists_eq, exists_const, Bool.not_true, Bool.not_false, Bool.false_eq_true, if_true, if_false, reduceIte, decide_eq_true_eq, bne_iff_ne, exists_eq_left', exists_eq', exists_and_left, Bool.not_eq_true', decide_eq_false_iff_not, Nat.reduceSub, Nat.reduceAdd, reduceCtorEq, false_and, or_false, false_or, exists_false]
  refine ⟨us.length, .inl ⟨_, hr, rfl⟩, _, _, hj, rfl, ⟨j, d, s0, v, F, rfl, ⟨jx, hj⟩, hD, ?_⟩⟩
  have hul := paired_len hp
  simp only [cx_K, gcx_K, lcx_K, LenV, rLenU, tTruU, kTup, tFld, sFld, sFldAug, tMet, tMake, tBM, tDGet, tDGet1, tDGet2, sDPut, tRevL, iEnum, tAug, tAsg, mulV_int, iaddU_int, isubU_int, iaddU_str, tTupL, ex2eq, not_true_eq_false, not_false_eq_true, LamX.tLam, LamX.TTold, tSeq, tIf, tNext, tRet, tRetN, tIfS, tTest, tB, tNot, tAnd, tOr, tChain, tOp, tUn, tC, tVar, tCons, tNil, tTup, tLst, tAsg, gName, gTup, gCons, gNil, gSub, tDrop, tCallS, tCB, tM1, tM0, tBM, tBM0, tSl, tPar, tFor_eq, tLc_eq, intU_int, intU_bl, iList, iTup, iEnumT, tDNewK, rSlT, rSlL, iRng1, iRng2, iStr, tThen, tNever, L2.start, tRaiseFile, tMkFile, tYes, tPart, tNoPart, addA_int, addA_str, addU_int, addU_str, addU_ref, subU_int, mulU_int, mulU_ref, fdvU_int, modU_int, powU_int, ltU_int, leU_int, gtU_int, geU_int, eqU_int, eqU_str, eqU_bl, neU_int, neU_str, neU_bl, WE, TruV, List.map, List.length_cons, List.length_nil, List.replicate, List.append, List.getElem?_cons_zero, List.getElem?_cons_succ, List.set_cons_zero, List.set_cons_succ, List.cons_append, List.nil_append, Option.some.injEq, V.int.injEq, V.str.injEq, V.bl.injEq, V.ref.injEq, List.cons.injEq, exists_eq_left, exists_eq_right, and_true, true_and, and_self, exists_eq, exists_const, Bool.not_true, Bool.not_false, Bool.false_eq_true, if_true, if_false, reduceIte, decide_eq_true_eq, bne_iff_ne, exists_eq_left', exists_eq', exists_and_left, Bool.not_eq_true', decide_eq_false_iff_not, Nat.reduceSub, Nat.reduceAdd, reduceCtorEq, false_and, or_false, false_or, exists_false]
  by_cases c5 : 5 < rows.length
  · rw [if_pos (by omega)]
    exact h1 c5 H Ex.refl
  rw [if_neg (by omega)]
  refine ⟨sz 0, fun p0 hp0 => ?_⟩
  have e0 : Ex [] TL GT H (upd H p0 (.lst [])) := Ex.new hp0
  refine eq_rows (m := []) (e0.sql (by simp) hr) (lst_at upd_same) (pimp (fun _ _ => PairAt.ex e0) hp) .nil ⟨_, rfl, ?_⟩
  by_cases cr : rows = []
  · rw [if_pos (by simp [cr])]
    exact h2 cr _ e0
  rw [if_neg (by simp [cr])]
  have hj0 := e0.ext j _ (by simp) hj (fun _ z => by cases z)
  refine ⟨_, _, _, hj0, T.cJ, T.fJ _ (by simp), _, rfl, ?_⟩
  simp only [cx_K, gcx_K, lcx_K, LenV, rLenU, tTruU, kTup, tFld, sFld, sFldAug, tMet, tMake, tBM, tDGet, tDGet1, tDGet2, sDPut, tRevL, iEnum, tAug, tAsg, mulV_int, iaddU_int, isubU_int, iaddU_str, tTupL, ex2eq, not_true_eq_false, not_false_eq_true, LamX.tLam, LamX.TTold, tSeq, tIf, tNext, tRet, tRetN, tIfS, tTest, tB, tNot, tAnd, tOr, tChain, tOp, tUn, tC, tVar, tCons, tNil, tTup, tLst, tAsg, gName, gTup, gCons, gNil, gSub, tDrop, tCallS, tCB, tM1, tM0, tBM, tBM0, tSl, tPar, tFor_eq, tLc_eq, intU_int, intU_bl, iList, iTup, iEnumT, tDNewK, rSlT, rSlL, iRng1, iRng2, iStr, tThen, tNever, L2.start, tRaiseFile, tMkFile, tYes, tPart, tNoPart, addA_int, addA_str, addU_int, addU_str, addU_ref, subU_int, mulU_int, mulU_ref, fdvU_int, modU_int, powU_int, ltU_int, leU_int, gtU_int, geU_int, eqU_int, eqU_str, eqU_bl, neU_int, neU_str, neU_bl, WE, TruV, List.map, List.length_cons, List.length_nil, List.replicate, List.append, List.getElem?_cons_zero, List.getElem?_cons_succ, List.set_cons_zero, List.set_cons_succ, List.cons_append, List.nil_append, Option.some.injEq, V.int.injEq, V.str.injEq, V.bl.injEq, V.ref.injEq, List.cons.injEq, exists_eq_left, exists_eq_right, and_true, true_and, and_self, exists_eq, exists_const, Bool.not_true, Bool.not_false, Bool.false_eq_true, if_true, if_false, reduceIte, decide_eq_true_eq, bne_iff_ne, exists_eq_left', exists_eq', exists_and_left, Bool.not_eq_true', decide_eq_false_iff_not, Nat.reduceSub, Nat.reduceAdd, reduceCtorEq, false_and, or_false, false_or, exists_false]
  refine ⟨_, _, hj0, (by first | (show 0 < 1000; decide) | (show 1 < 1000; decide) | (show 2 < 1000; decide) | (show 3 < 1000; decide) | (show 4 < 1000; decide) | (show 5 < 1000; decide) | (show 6 < 1000; decide) | (show 7 < 1000; decide)), ?_⟩
  have e1 : Ex [j] TL GT H (upd (upd H p0 (.lst [])) j (.ins CJ jx (jfl d (s0 + 1)))) := (e0.mono (by simp)).chg hj0 rfl (.inl (by simp))
  have hj1 : upd (upd H p0 (.lst [])) j (.ins CJ jx (jfl d (s0 + 1))) j = some (.ins CJ jx (jfl d (s0 + 1))) := upd_same
  have hrj : r ≠ j := fun z => hrF (by rw [z]; simp)
  have hr1 : SqL K (upd (upd H p0 (.lst [])) j (.ins CJ jx (jfl d (s0 + 1)))) r us := e1.sql (by simpa using hrj) hr
  have hD1 : DevAt K CD (upd (upd H p0 (.lst [])) j (.ins CJ jx (jfl d (s0 + 1)))) d v F := hD.keep e1 (fun a ha => by
    simp only [List.mem_singleton]; intro z; rw [z] at ha; exact hjF ha)
  have hp1 := pimp (fun _ _ => PairAt.ex e1) hp
  show (∃ xs, SqL K (upd (upd H p0 (.lst [])) j (.ins CJ jx (jfl d (s0 + 1)))) r xs) ∧ ∀ D, upd (upd H p0 (.lst [])) j (.ins CJ jx (jfl d (s0 + 1))) D = none → LcLoop _ _ _ _ _ _ (upd (upd H p0 (.lst [])) j (.ins CJ jx (jfl d (s0 + 1)))) D _
  generalize upd (upd H p0 (.lst [])) j (.ins CJ jx (jfl d (s0 + 1))) = H1 at e1 hj1 hr1 hD1 hp1 ⊢
  refine ⟨⟨_, hr1⟩, fun D1 hD1n => ?_⟩
  have rD : ∀ {HH : Hp} {D0 : Addr}, HH D0 = none → Ex [] TL GT HH (upd HH D0 (.lst [])) := fun h => Ex.new h
  refine lcl_list (xs := us) (fun i H' => Ex [] TL GT H1 H' ∧ H' D1 = some (.lst (((rows.map (·.1)).take i).map V.int))) ⟨Ex.new hD1n, upd_same⟩ (fun i H' _ e => e.1.sql (by simp) hr1) ?_ ?_
  · rintro i x H' hx ⟨e, hl⟩
    obtain ⟨bk, hbk, q, u, rfl, hq2, hu⟩ := paired_at hp1 hx
    simp only [cx_K, gcx_K, lcx_K, LenV, rLenU, tTruU, kTup, tFld, sFld, sFldAug, tMet, tMake, tBM, tDGet, tDGet1, tDGet2, sDPut, tRevL, iEnum, tAug, tAsg, mulV_int, iaddU_int, isubU_int, iaddU_str, tTupL, ex2eq, not_true_eq_false, not_false_eq_true, LamX.tLam, LamX.TTold, tSeq, tIf, tNext, tRet, tRetN, tIfS, tTest, tB, tNot, tAnd, tOr, tChain, tOp, tUn, tC, tVar, tCons, tNil, tTup, tLst, tAsg, gName, gTup, gCons, gNil, gSub, tDrop, tCallS, tCB, tM1, tM0, tBM, tBM0, tSl, tPar, tFor_eq, tLc_eq, intU_int, intU_bl, iList, iTup, iEnumT, tDNewK, rSlT, rSlL, iRng1, iRng2, iStr, tThen, tNever, L2.start, tRaiseFile, tMkFile, tYes, tPart, tNoPart, addA_int, addA_str, addU_int, addU_str, addU_ref, subU_int, mulU_int, mulU_ref, fdvU_int, modU_int, powU_int, ltU_int, leU_int, gtU_int, geU_int, eqU_int, eqU_str, eqU_bl, neU_int, neU_str, neU_bl, WE, TruV, List.map, List.length_cons, List.length_nil, List.replicate, List.append, List.getElem?_cons_zero, List.getElem?_cons_succ, List.set_cons_zero, List.set_cons_succ, List.cons_append, List.nil_append, Option.some.injEq, V.int.injEq, V.str.injEq, V.bl.injEq, V.ref.injEq, List.cons.injEq, exists_eq_left, exists_eq_right, and_true, true_and, and_self, exists_eq, exists_const, Bool.not_true, Bool.not_false, Bool.false_eq_true, if_true, if_false, reduceIte, decide_eq_true_eq, bne_iff_ne, exists_eq_left', exists_eq', exists_and_left, Bool.not_eq_true', decide_eq_false_iff_not, Nat.reduceSub, Nat.reduceAdd, reduceCtorEq, false_and, or_false, false_or, exists_false, wipe, tYes]
    refine ⟨_, e.sqt hq2, rfl, _, _, rfl, _, _, rfl, rfl, _, hl, ?_, e.overL hD1n hl, ?_⟩
    · rw [List.length_map, List.length_take, List.length_map, sizeLine_eq]; omega
    · rw [upd_same, take_more (x := bk.1) (by rw [List.getElem?_map, hbk]; rfl), List.map_append]; rfl
  rintro H2 ⟨f2, hl2⟩
  rw [hul, ← List.length_map (f := fun p : Blk => p.1) (as := rows), List.take_length] at hl2
  refine ⟨⟨_, f2.sql (by simp) hr1⟩, fun D2 hD2n => ?_⟩
  have hr2 : SqL K H2 r us := f2.sql (by simp) hr1
  have hp2 := pimp (fun _ _ => PairAt.ex f2) hp1
  refine lcl_list (xs := us) (fun i H' => Ex [] TL GT H2 H' ∧ ∃ acc, H' D2 = some (.lst acc) ∧ Paired (TI K H') acc ((rows.map (·.2)).take i)) ⟨Ex.new hD2n, [], upd_same, .nil⟩ (fun i H' _ e => e.1.sql (by simp) hr2) ?_ ?_
  · rintro i x H' hx ⟨e, acc, hl, ha⟩
    obtain ⟨bk, hbk, q, u, rfl, hq2, hu⟩ := paired_at hp2 hx
    simp only [cx_K, gcx_K, lcx_K, LenV, rLenU, tTruU, kTup, tFld, sFld, sFldAug, tMet, tMake, tBM, tDGet, tDGet1, tDGet2, sDPut, tRevL, iEnum, tAug, tAsg, mulV_int, iaddU_int, isubU_int, iaddU_str, tTupL, ex2eq, not_true_eq_false, not_false_eq_true, LamX.tLam, LamX.TTold, tSeq, tIf, tNext, tRet, tRetN, tIfS, tTest, tB, tNot, tAnd, tOr, tChain, tOp, tUn, tC, tVar, tCons, tNil, tTup, tLst, tAsg, gName, gTup, gCons, gNil, gSub, tDrop, tCallS, tCB, tM1, tM0, tBM, tBM0, tSl, tPar, tFor_eq, tLc_eq, intU_int, intU_bl, iList, iTup, iEnumT, tDNewK, rSlT, rSlL, iRng1, iRng2, iStr, tThen, tNever, L2.start, tRaiseFile, tMkFile, tYes, tPart, tNoPart, addA_int, addA_str, addU_int, addU_str, addU_ref, subU_int, mulU_int, mulU_ref, fdvU_int, modU_int, powU_int, ltU_int, leU_int, gtU_int, geU_int, eqU_int, eqU_str, eqU_bl, neU_int, neU_str, neU_bl, WE, TruV, List.map, List.length_cons, List.length_nil, List.replicate, List.append, List.getElem?_cons_zero, List.getElem?_cons_succ, List.set_cons_zero, List.set_cons_succ, List.cons_append, List.nil_append, Option.some.injEq, V.int.injEq, V.str.injEq, V.bl.injEq, V.ref.injEq, List.cons.injEq, exists_eq_left, exists_eq_right, and_true, true_and, and_self, exists_eq, exists_const, Bool.not_true, Bool.not_false, Bool.false_eq_true, if_true, if_false, reduceIte, decide_eq_true_eq, bne_iff_ne, exists_eq_left', exists_eq', exists_and_left, Bool.not_eq_true', decide_eq_false_iff_not, Nat.reduceSub, Nat.reduceAdd, reduceCtorEq, false_and, or_false, false_or, exists_false, wipe, tYes]
    have hal := paired_len ha
    have eD : Ex [D2] TL GT H' (upd H' D2 (.lst (acc ++ [u]))) := Ex.put (by simp) hl rfl
    refine ⟨_, e.sqt hq2, rfl, _, _, rfl, _, _, rfl, rfl, _, hl, ?_, e.overL hD2n hl, _, upd_same, ?_⟩
    · rw [hal, List.length_take, List.length_map, sizeLine_eq]; omega
    · rw [take_more (x := bk.2) (by rw [List.getElem?_map, hbk]; rfl)]
      exact paired_append (pimp (fun _ _ h => h.ex eD) ha) (.cons ((hu.ex e).ex eD) .nil)
  rintro H3 ⟨f3, ds, hds, hdp⟩
  rw [hul, ← List.length_map (f := fun p : Blk => p.2) (as := rows), List.take_length] at hdp
  have g3 := f2.trans f3
  have hD3 : DevAt K CD H3 d v F := hD1.keep g3 (fun a _ => by simp)
  have hj3 := g3.ext j _ (by simp) hj1 (fun _ z => by cases z)
  have hl3 := f3.ext D1 _ (by simp) hl2 (fun _ z => by cases z)
  have hr3 : SqL K H3 r us := f3.sql (by simp) hr2
  have hp3 := pimp (fun _ _ => PairAt.ex f3) hp2
  have nD1 : D1 ∉ F := hD1.notin hD1n
  have nD2 : D2 ∉ F := (hD1.keep f2 (fun a _ => by simp)).notin hD2n
  have e3 : Ex [j] TL GT H H3 := e1.trans (g3.mono (by simp))
  have hrF2 : r ∉ F := fun z => hrF (List.mem_cons_of_mem _ z)
  have hdl : ds.length = rows.length := by rw [paired_len hdp, List.length_map]
  have fin : ∀ {v' : Dv} {H' : Hp}, Aft K CD TL GT H3 d F v' H' → AftJ K CD CJ TL GT H j d F v' (s0 + 1) H' := by
    intro v' H' a
    obtain ⟨e, F', D', hF'⟩ := a
    refine ⟨ex_behind (e3.mono (B := j :: F) (by simp)) (fun a ha => .inl (List.mem_cons_of_mem _ ha)) e, ⟨F', D', fun a ha => ?_⟩, ⟨jx, e.ext j _ hjF hj3 (fun _ z => by cases z)⟩⟩
    rcases hF' a ha with z | z
    · exact .inl z
    · rcases e3.fresh z with y | y
      · simp only [List.mem_singleton] at y
        rw [y] at z
        obtain ⟨ps, w⟩ := z _ hj3
        cases w
      · exact .inr y
  have h4' : (runOps v (commitOps (s0 + 1) rows)).2 = false → ∀ H', Aft K CD TL GT H3 d F (runOps v (commitOps (s0 + 1) rows)).1 H' → E (.ref DE) none H' := fun hb H' a => by
    have e := run_append v (commitOps (s0 + 1) rows) (homeOps rows)
    rw [if_neg (by rw [hb]; simp)] at e
    refine h4 (by omega) cr (by rw [e]; exact hb) H' ?_
    rw [e]
    exact fin a
  refine ⟨_, lst_at hds, ?_⟩
  refine loop_enum (xs := ds) (fun i σ H' => ∃ v1 v2, σ = [some (.ref j), some (.ref r), v1, some (.ref D1), some (.ref D2), v2, none] ∧ Run K CD TL GT H3 d F v (commitOps (s0 + 1) rows) i H') ⟨_, _, rfl, rfl, Aft.refl hD3⟩ (fun i σ H' _ ⟨_, _, _, R⟩ => R.aft.e.sql nD2 (lst_at hds)) ?_ ?_
  · rintro i x σ H' T1 hx ⟨v1, v2, rfl, R0⟩ hT
    obtain ⟨x2, hx2, hu⟩ := paired_at hdp hx
    obtain ⟨bk, hbk, rfl⟩ := map_at' hx2
    have R := R0.add (o := .tup [.int (i : Nat), x]) hT
    have hsT : SqT K (upd H' T1 (.tup [.int (i : Nat), x])) T1 [.int (i : Nat), x] := SqT.of upd_same
    generalize upd H' T1 (.tup [.int (i : Nat), x]) = HT at R hsT ⊢
    have e := R.aft.e
    obtain ⟨dx, b, w, v3, hd⟩ := R.at_
    have hj4 := e.ext j _ hjF hj3 (fun _ z => by cases z)
    have hi : i < rows.length := by
      rcases Nat.lt_or_ge i rows.length with z | z
      · exact z
      · rw [List.getElem?_eq_none z] at hbk; cases hbk
    simp only [cx_K, gcx_K, lcx_K, LenV, rLenU, tTruU, kTup, tFld, sFld, sFldAug, tMet, tMake, tBM, tDGet, tDGet1, tDGet2, sDPut, tRevL, iEnum, tAug, tAsg, mulV_int, iaddU_int, isubU_int, iaddU_str, tTupL, ex2eq, not_true_eq_false, not_false_eq_true, LamX.tLam, LamX.TTold, tSeq, tIf, tNext, tRet, tRetN, tIfS, tTest, tB, tNot, tAnd, tOr, tChain, tOp, tUn, tC, tVar, tCons, tNil, tTup, tLst, tAsg, gName, gTup, gCons, gNil, gSub, tDrop, tCallS, tCB, tM1, tM0, tBM, tBM0, tSl, tPar, tFor_eq, tLc_eq, intU_int, intU_bl, iList, iTup, iEnumT, tDNewK, rSlT, rSlL, iRng1, iRng2, iStr, tThen, tNever, L2.start, tRaiseFile, tMkFile, tYes, tPart, tNoPart, addA_int, addA_str, addU_int, addU_str, addU_ref, subU_int, mulU_int, mulU_ref, fdvU_int, modU_int, powU_int, ltU_int, leU_int, gtU_int, geU_int, eqU_int, eqU_str, eqU_bl, neU_int, neU_str, neU_bl, WE, TruV, List.map, List.length_cons, List.length_nil, List.replicate, List.append, List.getElem?_cons_zero, List.getElem?_cons_succ, List.set_cons_zero, List.set_cons_succ, List.cons_append, List.nil_append, Option.some.injEq, V.int.injEq, V.str.injEq, V.bl.injEq, V.ref.injEq, List.cons.injEq, exists_eq_left, exists_eq_right, and_true, true_and, and_self, exists_eq, exists_const, Bool.not_true, Bool.not_false, Bool.false_eq_true, if_true, if_false, reduceIte, decide_eq_true_eq, bne_iff_ne, exists_eq_left', exists_eq', exists_and_left, Bool.not_eq_true', decide_eq_false_iff_not, Nat.reduceSub, Nat.reduceAdd, reduceCtorEq, false_and, or_false, false_or, exists_false]
    refine ⟨_, hsT, rfl, _, _, rfl, _, _, rfl, rfl, ?_⟩
    refine ⟨_, _, _, hj4, T.cJ, T.fJ _ (by simp), _, rfl, ?_⟩; try simp only [cx_K, gcx_K, lcx_K, LenV, rLenU, tTruU, kTup, tFld, sFld, sFldAug, tMet, tMake, tBM, tDGet, tDGet1, tDGet2, sDPut, tRevL, iEnum, tAug, tAsg, mulV_int, iaddU_int, isubU_int, iaddU_str, tTupL, ex2eq, not_true_eq_false, not_false_eq_true, LamX.tLam, LamX.TTold, tSeq, tIf, tNext, tRet, tRetN, tIfS, tTest, tB, tNot, tAnd, tOr, tChain, tOp, tUn, tC, tVar, tCons, tNil, tTup, tLst, tAsg, gName, gTup, gCons, gNil, gSub, tDrop, tCallS, tCB, tM1, tM0, tBM, tBM0, tSl, tPar, tFor_eq, tLc_eq, intU_int, intU_bl, iList, iTup, iEnumT, tDNewK, rSlT, rSlL, iRng1, iRng2, iStr, tThen, tNever, L2.start, tRaiseFile, tMkFile, tYes, tPart, tNoPart, addA_int, addA_str, addU_int, addU_str, addU_ref, subU_int, mulU_int, mulU_ref, fdvU_int, modU_int, powU_int, ltU_int, leU_int, gtU_int, geU_int, eqU_int, eqU_str, eqU_bl, neU_int, neU_str, neU_bl, WE, TruV, List.map, List.length_cons, List.length_nil, List.replicate, List.append, List.getElem?_cons_zero, List.getElem?_cons_succ, List.set_cons_zero, List.set_cons_succ, List.cons_append, List.nil_append, Option.some.injEq, V.int.injEq, V.str.injEq, V.bl.injEq, V.ref.injEq, List.cons.injEq, exists_eq_left, exists_eq_right, and_true, true_and, and_self, exists_eq, exists_const, Bool.not_true, Bool.not_false, Bool.false_eq_true, if_true, if_false, reduceIte, decide_eq_true_eq, bne_iff_ne, exists_eq_left', exists_eq', exists_and_left, Bool.not_eq_true', decide_eq_false_iff_not, Nat.reduceSub, Nat.reduceAdd, reduceCtorEq, false_and, or_false, false_or, exists_false]
    refine ⟨_, _, hd, rfl, ?_⟩
    refine ⟨_, _, _, hj4, T.cJ, T.fJ _ (by simp), _, rfl, ?_⟩; try simp only [cx_K, gcx_K, lcx_K, LenV, rLenU, tTruU, kTup, tFld, sFld, sFldAug, tMet, tMake, tBM, tDGet, tDGet1, tDGet2, sDPut, tRevL, iEnum, tAug, tAsg, mulV_int, iaddU_int, isubU_int, iaddU_str, tTupL, ex2eq, not_true_eq_false, not_false_eq_true, LamX.tLam, LamX.TTold, tSeq, tIf, tNext, tRet, tRetN, tIfS, tTest, tB, tNot, tAnd, tOr, tChain, tOp, tUn, tC, tVar, tCons, tNil, tTup, tLst, tAsg, gName, gTup, gCons, gNil, gSub, tDrop, tCallS, tCB, tM1, tM0, tBM, tBM0, tSl, tPar, tFor_eq, tLc_eq, intU_int, intU_bl, iList, iTup, iEnumT, tDNewK, rSlT, rSlL, iRng1, iRng2, iStr, tThen, tNever, L2.start, tRaiseFile, tMkFile, tYes, tPart, tNoPart, addA_int, addA_str, addU_int, addU_str, addU_ref, subU_int, mulU_int, mulU_ref, fdvU_int, modU_int, powU_int, ltU_int, leU_int, gtU_int, geU_int, eqU_int, eqU_str, eqU_bl, neU_int, neU_str, neU_bl, WE, TruV, List.map, List.length_cons, List.length_nil, List.replicate, List.append, List.getElem?_cons_zero, List.getElem?_cons_succ, List.set_cons_zero, List.set_cons_succ, List.cons_append, List.nil_append, Option.some.injEq, V.int.injEq, V.str.injEq, V.bl.injEq, V.ref.injEq, List.cons.injEq, exists_eq_left, exists_eq_right, and_true, true_and, and_self, exists_eq, exists_const, Bool.not_true, Bool.not_false, Bool.false_eq_true, if_true, if_false, reduceIte, decide_eq_true_eq, bne_iff_ne, exists_eq_left', exists_eq', exists_and_left, Bool.not_eq_true', decide_eq_false_iff_not, Nat.reduceSub, Nat.reduceAdd, reduceCtorEq, false_and, or_false, false_or, exists_false]
    exact R.write (commit_row hbk) (hu.ex e) (by omega) (fun H2 r2 => r2) h4'
  · rintro σ H' ⟨v1, v2, rfl, R⟩
    rw [hdl] at R
    have e := R.aft.e
    obtain ⟨dx, b, w, v3, hd⟩ := R.at_
    have hj4 := e.ext j _ hjF hj3 (fun _ z => by cases z)
    simp only [cx_K, gcx_K, lcx_K, LenV, rLenU, tTruU, kTup, tFld, sFld, sFldAug, tMet, tMake, tBM, tDGet, tDGet1, tDGet2, sDPut, tRevL, iEnum, tAug, tAsg, mulV_int, iaddU_int, isubU_int, iaddU_str, tTupL, ex2eq, not_true_eq_false, not_false_eq_true, LamX.tLam, LamX.TTold, tSeq, tIf, tNext, tRet, tRetN, tIfS, tTest, tB, tNot, tAnd, tOr, tChain, tOp, tUn, tC, tVar, tCons, tNil, tTup, tLst, tAsg, gName, gTup, gCons, gNil, gSub, tDrop, tCallS, tCB, tM1, tM0, tBM, tBM0, tSl, tPar, tFor_eq, tLc_eq, intU_int, intU_bl, iList, iTup, iEnumT, tDNewK, rSlT, rSlL, iRng1, iRng2, iStr, tThen, tNever, L2.start, tRaiseFile, tMkFile, tYes, tPart, tNoPart, addA_int, addA_str, addU_int, addU_str, addU_ref, subU_int, mulU_int, mulU_ref, fdvU_int, modU_int, powU_int, ltU_int, leU_int, gtU_int, geU_int, eqU_int, eqU_str, eqU_bl, neU_int, neU_str, neU_bl, WE, TruV, List.map, List.length_cons, List.length_nil, List.replicate, List.append, List.getElem?_cons_zero, List.getElem?_cons_succ, List.set_cons_zero, List.set_cons_succ, List.cons_append, List.nil_append, Option.some.injEq, V.int.injEq, V.str.injEq, V.bl.injEq, V.ref.injEq, List.cons.injEq, exists_eq_left, exists_eq_right, and_true, true_and, and_self, exists_eq, exists_const, Bool.not_true, Bool.not_false, Bool.false_eq_true, if_true, if_false, reduceIte, decide_eq_true_eq, bne_iff_ne, exists_eq_left', exists_eq', exists_and_left, Bool.not_eq_true', decide_eq_false_iff_not, Nat.reduceSub, Nat.reduceAdd, reduceCtorEq, false_and, or_false, false_or, exists_false]
    refine ⟨_, _, _, hj4, T.cJ, T.fJ _ (by simp), _, rfl, ?_⟩; try simp only [cx_K, gcx_K, lcx_K, LenV, rLenU, tTruU, kTup, tFld, sFld, sFldAug, tMet, tMake, tBM, tDGet, tDGet1, tDGet2, sDPut, tRevL, iEnum, tAug, tAsg, mulV_int, iaddU_int, isubU_int, iaddU_str, tTupL, ex2eq, not_true_eq_false, not_false_eq_true, LamX.tLam, LamX.TTold, tSeq, tIf, tNext, tRet, tRetN, tIfS, tTest, tB, tNot, tAnd, tOr, tChain, tOp, tUn, tC, tVar, tCons, tNil, tTup, tLst, tAsg, gName, gTup, gCons, gNil, gSub, tDrop, tCallS, tCB, tM1, tM0, tBM, tBM0, tSl, tPar, tFor_eq, tLc_eq, intU_int, intU_bl, iList, iTup, iEnumT, tDNewK, rSlT, rSlL, iRng1, iRng2, iStr, tThen, tNever, L2.start, tRaiseFile, tMkFile, tYes, tPart, tNoPart, addA_int, addA_str, addU_int, addU_str, addU_ref, subU_int, mulU_int, mulU_ref, fdvU_int, modU_int, powU_int, ltU_int, leU_int, gtU_int, geU_int, eqU_int, eqU_str, eqU_bl, neU_int, neU_str, neU_bl, WE, TruV, List.map, List.length_cons, List.length_nil, List.replicate, List.append, List.getElem?_cons_zero, List.getElem?_cons_succ, List.set_cons_zero, List.set_cons_succ, List.cons_append, List.nil_append, Option.some.injEq, V.int.injEq, V.str.injEq, V.bl.injEq, V.ref.injEq, List.cons.injEq, exists_eq_left, exists_eq_right, and_true, true_and, and_self, exists_eq, exists_const, Bool.not_true, Bool.not_false, Bool.false_eq_true, if_true, if_false, reduceIte, decide_eq_true_eq, bne_iff_ne, exists_eq_left', exists_eq', exists_and_left, Bool.not_eq_true', decide_eq_false_iff_not, Nat.reduceSub, Nat.reduceAdd, reduceCtorEq, false_and, or_false, false_or, exists_false]
    refine ⟨_, _, hd, rfl, R.flush (commit_end 0) (by omega) (fun H4 R4 => ?_) h4'⟩
    clear e hd hj4
    have e := R4.aft.e
    obtain ⟨dx, b, w, v3, hd⟩ := R4.at_
    have hj4 := e.ext j _ hjF hj3 (fun _ z => by cases z)
    have hds4 := e.ext D2 _ nD2 hds (fun _ z => by cases z)
    have hl4 := e.ext D1 _ nD1 hl3 (fun _ z => by cases z)
    refine ⟨_, _, _, hj4, T.cJ, T.fJ _ (by simp), _, rfl, ?_⟩; try simp only [cx_K, gcx_K, lcx_K, LenV, rLenU, tTruU, kTup, tFld, sFld, sFldAug, tMet, tMake, tBM, tDGet, tDGet1, tDGet2, sDPut, tRevL, iEnum, tAug, tAsg, mulV_int, iaddU_int, isubU_int, iaddU_str, tTupL, ex2eq, not_true_eq_false, not_false_eq_true, LamX.tLam, LamX.TTold, tSeq, tIf, tNext, tRet, tRetN, tIfS, tTest, tB, tNot, tAnd, tOr, tChain, tOp, tUn, tC, tVar, tCons, tNil, tTup, tLst, tAsg, gName, gTup, gCons, gNil, gSub, tDrop, tCallS, tCB, tM1, tM0, tBM, tBM0, tSl, tPar, tFor_eq, tLc_eq, intU_int, intU_bl, iList, iTup, iEnumT, tDNewK, rSlT, rSlL, iRng1, iRng2, iStr, tThen, tNever, L2.start, tRaiseFile, tMkFile, tYes, tPart, tNoPart, addA_int, addA_str, addU_int, addU_str, addU_ref, subU_int, mulU_int, mulU_ref, fdvU_int, modU_int, powU_int, ltU_int, leU_int, gtU_int, geU_int, eqU_int, eqU_str, eqU_bl, neU_int, neU_str, neU_bl, WE, TruV, List.map, List.length_cons, List.length_nil, List.replicate, List.append, List.getElem?_cons_zero, List.getElem?_cons_succ, List.set_cons_zero, List.set_cons_succ, List.cons_append, List.nil_append, Option.some.injEq, V.int.injEq, V.str.injEq, V.bl.injEq, V.ref.injEq, List.cons.injEq, exists_eq_left, exists_eq_right, and_true, true_and, and_self, exists_eq, exists_const, Bool.not_true, Bool.not_false, Bool.false_eq_true, if_true, if_false, reduceIte, decide_eq_true_eq, bne_iff_ne, exists_eq_left', exists_eq', exists_and_left, Bool.not_eq_true', decide_eq_false_iff_not, Nat.reduceSub, Nat.reduceAdd, reduceCtorEq, false_and, or_false, false_or, exists_false]
    refine ⟨_, _, hd, rfl, ?_⟩
    refine ⟨_, _, _, hj4, T.cJ, T.fJ _ (by simp), _, rfl, ?_⟩; try simp only [cx_K, gcx_K, lcx_K, LenV, rLenU, tTruU, kTup, tFld, sFld, sFldAug, tMet, tMake, tBM, tDGet, tDGet1, tDGet2, sDPut, tRevL, iEnum, tAug, tAsg, mulV_int, iaddU_int, isubU_int, iaddU_str, tTupL, ex2eq, not_true_eq_false, not_false_eq_true, LamX.tLam, LamX.TTold, tSeq, tIf, tNext, tRet, tRetN, tIfS, tTest, tB, tNot, tAnd, tOr, tChain, tOp, tUn, tC, tVar, tCons, tNil, tTup, tLst, tAsg, gName, gTup, gCons, gNil, gSub, tDrop, tCallS, tCB, tM1, tM0, tBM, tBM0, tSl, tPar, tFor_eq, tLc_eq, intU_int, intU_bl, iList, iTup, iEnumT, tDNewK, rSlT, rSlL, iRng1, iRng2, iStr, tThen, tNever, L2.start, tRaiseFile, tMkFile, tYes, tPart, tNoPart, addA_int, addA_str, addU_int, addU_str, addU_ref, subU_int, mulU_int, mulU_ref, fdvU_int, modU_int, powU_int, ltU_int, leU_int, gtU_int, geU_int, eqU_int, eqU_str, eqU_bl, neU_int, neU_str, neU_bl, WE, TruV, List.map, List.length_cons, List.length_nil, List.replicate, List.append, List.getElem?_cons_zero, List.getElem?_cons_succ, List.set_cons_zero, List.set_cons_succ, List.cons_append, List.nil_append, Option.some.injEq, V.int.injEq, V.str.injEq, V.bl.injEq, V.ref.injEq, List.cons.injEq, exists_eq_left, exists_eq_right, and_true, true_and, and_self, exists_eq, exists_const, Bool.not_true, Bool.not_false, Bool.false_eq_true, if_true, if_false, reduceIte, decide_eq_true_eq, bne_iff_ne, exists_eq_left', exists_eq', exists_and_left, Bool.not_eq_true', decide_eq_false_iff_not, Nat.reduceSub, Nat.reduceAdd, reduceCtorEq, false_and, or_false, false_or, exists_false]
    refine ⟨_, _, _, hj4, T.cJ, T.fJ _ (by simp), _, rfl, ?_⟩; try simp only [cx_K, gcx_K, lcx_K, LenV, rLenU, tTruU, kTup, tFld, sFld, sFldAug, tMet, tMake, tBM, tDGet, tDGet1, tDGet2, sDPut, tRevL, iEnum, tAug, tAsg, mulV_int, iaddU_int, isubU_int, iaddU_str, tTupL, ex2eq, not_true_eq_false, not_false_eq_true, LamX.tLam, LamX.TTold, tSeq, tIf, tNext, tRet, tRetN, tIfS, tTest, tB, tNot, tAnd, tOr, tChain, tOp, tUn, tC, tVar, tCons, tNil, tTup, tLst, tAsg, gName, gTup, gCons, gNil, gSub, tDrop, tCallS, tCB, tM1, tM0, tBM, tBM0, tSl, tPar, tFor_eq, tLc_eq, intU_int, intU_bl, iList, iTup, iEnumT, tDNewK, rSlT, rSlL, iRng1, iRng2, iStr, tThen, tNever, L2.start, tRaiseFile, tMkFile, tYes, tPart, tNoPart, addA_int, addA_str, addU_int, addU_str, addU_ref, subU_int, mulU_int, mulU_ref, fdvU_int, modU_int, powU_int, ltU_int, leU_int, gtU_int, geU_int, eqU_int, eqU_str, eqU_bl, neU_int, neU_str, neU_bl, WE, TruV, List.map, List.length_cons, List.length_nil, List.replicate, List.append, List.getElem?_cons_zero, List.getElem?_cons_succ, List.set_cons_zero, List.set_cons_succ, List.cons_append, List.nil_append, Option.some.injEq, V.int.injEq, V.str.injEq, V.bl.injEq, V.ref.injEq, List.cons.injEq, exists_eq_left, exists_eq_right, and_true, true_and, and_self, exists_eq, exists_const, Bool.not_true, Bool.not_false, Bool.false_eq_true, if_true, if_false, reduceIte, decide_eq_true_eq, bne_iff_ne, exists_eq_left', exists_eq', exists_and_left, Bool.not_eq_true', decide_eq_false_iff_not, Nat.reduceSub, Nat.reduceAdd, reduceCtorEq, false_and, or_false, false_or, exists_false]
    refine ⟨by decide, ?_⟩
    refine ⟨_, _, _, hj4, T.cJ, T.fJ _ (by simp), _, rfl, ?_⟩; try simp only [cx_K, gcx_K, lcx_K, LenV, rLenU, tTruU, kTup, tFld, sFld, sFldAug, tMet, tMake, tBM, tDGet, tDGet1, tDGet2, sDPut, tRevL, iEnum, tAug, tAsg, mulV_int, iaddU_int, isubU_int, iaddU_str, tTupL, ex2eq, not_true_eq_false, not_false_eq_true, LamX.tLam, LamX.TTold, tSeq, tIf, tNext, tRet, tRetN, tIfS, tTest, tB, tNot, tAnd, tOr, tChain, tOp, tUn, tC, tVar, tCons, tNil, tTup, tLst, tAsg, gName, gTup, gCons, gNil, gSub, tDrop, tCallS, tCB, tM1, tM0, tBM, tBM0, tSl, tPar, tFor_eq, tLc_eq, intU_int, intU_bl, iList, iTup, iEnumT, tDNewK, rSlT, rSlL, iRng1, iRng2, iStr, tThen, tNever, L2.start, tRaiseFile, tMkFile, tYes, tPart, tNoPart, addA_int, addA_str, addU_int, addU_str, addU_ref, subU_int, mulU_int, mulU_ref, fdvU_int, modU_int, powU_int, ltU_int, leU_int, gtU_int, geU_int, eqU_int, eqU_str, eqU_bl, neU_int, neU_str, neU_bl, WE, TruV, List.map, List.length_cons, List.length_nil, List.replicate, List.append, List.getElem?_cons_zero, List.getElem?_cons_succ, List.set_cons_zero, List.set_cons_succ, List.cons_append, List.nil_append, Option.some.injEq, V.int.injEq, V.str.injEq, V.bl.injEq, V.ref.injEq, List.cons.injEq, exists_eq_left, exists_eq_right, and_true, true_and, and_self, exists_eq, exists_const, Bool.not_true, Bool.not_false, Bool.false_eq_true, if_true, if_false, reduceIte, decide_eq_true_eq, bne_iff_ne, exists_eq_left', exists_eq', exists_and_left, Bool.not_eq_true', decide_eq_false_iff_not, Nat.reduceSub, Nat.reduceAdd, reduceCtorEq, false_and, or_false, false_or, exists_false]
    refine ⟨_, _, _, hd, T.cD, T.fD _ (by simp), _, rfl, ?_⟩; try simp only [cx_K, gcx_K, lcx_K, LenV, rLenU, tTruU, kTup, tFld, sFld, sFldAug, tMet, tMake, tBM, tDGet, tDGet1, tDGet2, sDPut, tRevL, iEnum, tAug, tAsg, mulV_int, iaddU_int, isubU_int, iaddU_str, tTupL, ex2eq, not_true_eq_false, not_false_eq_true, LamX.tLam, LamX.TTold, tSeq, tIf, tNext, tRet, tRetN, tIfS, tTest, tB, tNot, tAnd, tOr, tChain, tOp, tUn, tC, tVar, tCons, tNil, tTup, tLst, tAsg, gName, gTup, gCons, gNil, gSub, tDrop, tCallS, tCB, tM1, tM0, tBM, tBM0, tSl, tPar, tFor_eq, tLc_eq, intU_int, intU_bl, iList, iTup, iEnumT, tDNewK, rSlT, rSlL, iRng1, iRng2, iStr, tThen, tNever, L2.start, tRaiseFile, tMkFile, tYes, tPart, tNoPart, addA_int, addA_str, addU_int, addU_str, addU_ref, subU_int, mulU_int, mulU_ref, fdvU_int, modU_int, powU_int, ltU_int, leU_int, gtU_int, geU_int, eqU_int, eqU_str, eqU_bl, neU_int, neU_str, neU_bl, WE, TruV, List.map, List.length_cons, List.length_nil, List.replicate, List.append, List.getElem?_cons_zero, List.getElem?_cons_succ, List.set_cons_zero, List.set_cons_succ, List.cons_append, List.nil_append, Option.some.injEq, V.int.injEq, V.str.injEq, V.bl.injEq, V.ref.injEq, List.cons.injEq, exists_eq_left, exists_eq_right, and_true, true_and, and_self, exists_eq, exists_const, Bool.not_true, Bool.not_false, Bool.false_eq_true, if_true, if_false, reduceIte, decide_eq_true_eq, bne_iff_ne, exists_eq_left', exists_eq', exists_and_left, Bool.not_eq_true', decide_eq_false_iff_not, Nat.reduceSub, Nat.reduceAdd, reduceCtorEq, false_and, or_false, false_or, exists_false]
    refine ⟨(s0 + 1) % 65536, D1, D2, rows.map (·.1), ds, rows.map (·.2), rfl, lst_at hl4, lst_at hds4, pimp (fun _ _ h => h.ex e) hdp, by rw [List.length_map]; omega, by rw [List.length_map]; omega, ?_, fun q H5 e5 h5 => ?_⟩
    · intro y hy
      obtain ⟨z, hz, rfl⟩ := List.mem_map.mp hy
      exact hr64 z hz
    have R5 := R4.ex e5
    refine R5.write (commit_end 1) ⟨q, rfl, h5⟩ (by omega) (fun H6 R6 => ?_) h4'
    clear e hd hj4
    have e := R6.aft.e
    obtain ⟨dx, b, w, v3, hd⟩ := R6.at_
    have hj4 := e.ext j _ hjF hj3 (fun _ z => by cases z)
    refine ⟨_, _, _, hj4, T.cJ, T.fJ _ (by simp), _, rfl, ?_⟩; try simp only [cx_K, gcx_K, lcx_K, LenV, rLenU, tTruU, kTup, tFld, sFld, sFldAug, tMet, tMake, tBM, tDGet, tDGet1, tDGet2, sDPut, tRevL, iEnum, tAug, tAsg, mulV_int, iaddU_int, isubU_int, iaddU_str, tTupL, ex2eq, not_true_eq_false, not_false_eq_true, LamX.tLam, LamX.TTold, tSeq, tIf, tNext, tRet, tRetN, tIfS, tTest, tB, tNot, tAnd, tOr, tChain, tOp, tUn, tC, tVar, tCons, tNil, tTup, tLst, tAsg, gName, gTup, gCons, gNil, gSub, tDrop, tCallS, tCB, tM1, tM0, tBM, tBM0, tSl, tPar, tFor_eq, tLc_eq, intU_int, intU_bl, iList, iTup, iEnumT, tDNewK, rSlT, rSlL, iRng1, iRng2, iStr, tThen, tNever, L2.start, tRaiseFile, tMkFile, tYes, tPart, tNoPart, addA_int, addA_str, addU_int, addU_str, addU_ref, subU_int, mulU_int, mulU_ref, fdvU_int, modU_int, powU_int, ltU_int, leU_int, gtU_int, geU_int, eqU_int, eqU_str, eqU_bl, neU_int, neU_str, neU_bl, WE, TruV, List.map, List.length_cons, List.length_nil, List.replicate, List.append, List.getElem?_cons_zero, List.getElem?_cons_succ, List.set_cons_zero, List.set_cons_succ, List.cons_append, List.nil_append, Option.some.injEq, V.int.injEq, V.str.injEq, V.bl.injEq, V.ref.injEq, List.cons.injEq, exists_eq_left, exists_eq_right, and_true, true_and, and_self, exists_eq, exists_const, Bool.not_true, Bool.not_false, Bool.false_eq_true, if_true, if_false, reduceIte, decide_eq_true_eq, bne_iff_ne, exists_eq_left', exists_eq', exists_and_left, Bool.not_eq_true', decide_eq_false_iff_not, Nat.reduceSub, Nat.reduceAdd, reduceCtorEq, false_and, or_false, false_or, exists_false]
    refine ⟨_, _, hd, rfl, R6.flush (commit_end 2) (by omega) (fun H7 R7 => ?_) h4'⟩
    obtain ⟨z1, z2⟩ := R7.all (by rw [commit_len]; exact Nat.le_refl _)
    clear e hd hj4
    obtain ⟨e, F7, D7, hF7⟩ := z2
    have hj4 := e.ext j _ hjF hj3 (fun _ z => by cases z)
    have e7 := run_append v (commitOps (s0 + 1) rows) (homeOps rows)
    rw [if_pos z1] at e7
    rw [e7] at h3 h4
    have hs7 := run_size v (commitOps (s0 + 1) rows)
    rw [commit_len] at hs7
    have notin : ∀ {a : Addr} {o : HO}, a ∉ F → H3 a = some o → (∀ ps, o ≠ .tbl ps) → a ∉ F7 := fun hn ha hm z => by
      rcases hF7 _ z with y | y
      · exact hn y
      · obtain ⟨ps, w⟩ := y _ ha
        exact hm ps w
    refine ⟨_, _, hj4, rfl, j, d, s0 + 1, _, F7, r, us, rows, rfl, ⟨jx, hj4⟩, D7, e.sql hrF2 hr3, pimp (fun _ _ => PairAt.ex e) hp3, notin hjF hj3 (fun _ z => by cases z), ?_, by omega, fun hb H8 a8 => h3 (by omega) cr hb H8 (fin (aft_trans e hF7 a8)), fun hb H8 a8 => h4 (by omega) cr hb H8 (fin (aft_trans e hF7 a8))⟩
    exact notin hrF2 (e3.ext r _ (by simpa using hrj) hr0 (fun _ z => by cases z)) (fun _ z => by cases z)
end
end KB
set_option Elab.async false
set_option linter.all false
set_option maxRecDepth 100000
set_option maxHeartbeats 2000000
namespace KB
open PySem PySem.Spec PyProof.Rows L2 GX
def NnB (l : List Blk) : Prop := ∀ p ∈ l, ∀ x ∈ p.2, 0 ≤ x
structure WfD (v : Dv) : Prop where
  b : WfB v.blocks
  w : WfB v.waiting
  nb : NnB v.blocks
  nw : NnB v.waiting
  t : v.total = 16
theorem WfD.read {v : Dv} (h : WfD v) (n : Int) : (dread v n).length = 64 ∧ ∀ x ∈ dread v n, 0 ≤ x := by
  unfold dread
  cases e : getB v.waiting.reverse n with
  | some x =>
    have hm := List.mem_reverse.mp (getB_mem e)
    exact ⟨h.w _ hm, h.nw _ hm⟩
  | none =>
    cases e2 : getB v.blocks n with
    | some x => exact ⟨h.b _ (getB_mem e2), h.nb _ (getB_mem e2)⟩
    | none => exact ⟨rfl, fun x hx => by rw [List.eq_of_mem_replicate hx]; exact Int.le_refl 0⟩
def pendRows (v : Dv) (ns : List Int) : List Blk := ns.zipIdx.map (fun p => (p.1, dread v (1 + 1 + (p.2 : Int))))
def dpend (v : Dv) : List Blk := match rhead (dread v 1) with
  | none => []
  | some h => if 5 < h.2.1.length then [] else if ws4 (headL h.1 ((pendRows v h.2.1).map (·.1)) ++ ((pendRows v h.2.1).map (·.2)).flatten) = h.2.2 then pendRows v h.2.1 else []
section
variable {P : Program} {w : World} {K : PySem.W.Frag} {mg : Str → Option Value} {base : Heap} {CD CJ DE JE jm : Addr} {TL : List (Addr × Str)} {GT : List Addr}
def spPend (K : PySem.W.Frag) (CD CJ : Addr) (TL : List (Addr × Str)) (GT : List Addr) : Sp := fun vs H Q E => ∃ j d s v F, vs = [.ref j] ∧ JAt CJ H j d s ∧ DevAt K CD H d v F ∧ WfD v ∧ v.dead = false ∧ Tb TL GT H ∧
  ∀ u us H', Ex [] TL GT H H' → free H u → H' u = some (.lst us) → Paired (PairAt K H') us (dpend v) → Q (.ref u) H'
theorem m_pend (T : KB.Txt P w K mg base CD CJ DE JE jm TL GT) : Met P w K mg base 16 CJ "pending" [] (spPend K CD CJ TL GT) := by
  have m_Device_read := m_read (TL := TL) (GT := GT) T
  have m_Journal_room := m_room T
  have c_read_head := c_read_head T
  have c_pair := c_pair T
  have c_word_sum := c_word_sum T
  obtain ⟨f, fd, c, D, hm⟩ := T.j_pending
  refine met_of T.cJ hm ?_ (D.bind0 (ps := ["self"]) (fun _ _ _ _ _ _ us hl => match us, hl with | [_], _ => rfl))
  refine D.okF (N := ["self", "head", "number", "rows", "whole", "data", "place"]) (ps := ["self"]) ⟨rfl, rfl, rfl, by decide +kernel, rfl, by decide +kernel, by decide +kernel⟩ (fun vs H Q E h => by first | (obtain ⟨_, rfl, _⟩ := h; rfl) | (obtain ⟨_, _, rfl, _⟩ := h; rfl) | (obtain ⟨_, _, _, rfl, _⟩ := h; rfl) | (obtain ⟨_, _, _, _, rfl, _⟩ := h; rfl) | (obtain ⟨_, _, _, _, _, rfl, _⟩ := h; rfl) | (obtain ⟨_, _, _, _, _, _, rfl, _⟩ := h; rfl) | (obtain ⟨_, _, _, _, _, _, _, rfl, _⟩ := h; rfl) | (obtain ⟨_, _, _, _, _, _, _, _, rfl, _⟩ := h; rfl) | (obtain ⟨rfl, _⟩ := h; rfl)) (fun A outer s H vs Q E hr h => ?_)
  have nd : (["self", "head", "number", "rows", "whole", "data", "place"] : List Str).Nodup := by decide
  refine mk_ex (pss_cons (ps_set (i := 1) nd rfl (Or.inl rfl) (GX.pe_call c_read_head (hr.mono (by decide)) (takes_of rfl rfl rfl rfl) (by exact (pa_cons (pe_met m_Device_read (hr.mono (by decide)) (takes_of rfl rfl rfl rfl) (fldK (K := K) rfl (pe_fld (pv 0) rfl)) (by exact (pa_cons (fldK (K := K) rfl (pe_fld (pv 0) rfl)) pa_nil))) pa_nil))))
    (pss_cons (ps_if (PW.pt (pw_or (pt_cmpR op_isN (pv 1) pe_non (nomark _)) (pw_or1 (pt_cmpR opU_gt (pe_callB (call_lenU (K := K) rfl) rfl T.n_len rfl (by exact (pa_cons (pe_ix (ixK (K := K) (r := rIx) ix_seq rfl) (pv 1) pe_int (fun _ _ => rfl)) pa_nil))) (pe_met0 m_Journal_room (hr.mono (by decide)) (takes_of rfl rfl rfl rfl) (pv 0)) (nomark _))))) (pss_one (ps_ret (pe_lst pa_nil))) pss_nil)
    (pss_cons (ps_setLc (i := 3) rfl nd rfl rfl rfl (enumTK (K := K) rfl (pi_enumT rfl T.n_enumerate (pa_cons (pe_ix (ixK (K := K) (r := rIx) ix_seq rfl) (pv 1) pe_int (fun _ _ => rfl)) pa_nil))) (show BlkOk ["self", "head", "number", "rows", "whole", "data", "place"] (defScope (inClass (top 14) 4)) _ [("place", 6), ("number", 2)] from blkOk_by (by decide +kernel)) (fun s H C cl fp => (tupGK (K := K) rfl (pg_tup (n := 2) rfl (pgs_cons (pg_name (i := 6) nd rfl (Or.inl rfl)) (pgs_cons (pg_name (i := 2) nd rfl (Or.inl rfl)) pgs_nil))))) (fun s H C cl fp => pts_nil) (fun s H C cl fp => (pe_tup (pa_cons (pv 2) (pa_cons (pe_met m_Device_read (hr.mono (by decide)) takes0 (fldK (K := K) rfl (pe_fld (pv 0) rfl)) (by exact (pa_cons (pe_op (opK (K := K) (r := rAddA) opA_add rfl) (pe_op (opK (K := K) (r := rAddA) opA_add rfl) (fldK (K := K) rfl (pe_fld (pv 0) rfl)) pe_int) (pv 6)) pa_nil))) pa_nil)))))
    (pss_cons (ps_set (i := 4) nd rfl (Or.inl rfl) (pe_op (opK (K := K) (r := rAddA) opA_add rfl) (pe_op (opK (K := K) (r := rAddA) opA_add rfl) (pe_gl rfl T.g_JOURNAL_MARK) (GX.pe_call c_pair (hr.mono (by decide)) (takes_of rfl rfl rfl rfl) (by exact (pa_cons (pe_ix (ixK (K := K) (r := rIx) ix_seq rfl) (pv 1) pe_int (fun _ _ => rfl)) pa_nil)))) (GX.pe_call c_pair (hr.mono (by decide)) (takes_of rfl rfl rfl rfl) (by exact (pa_cons (pe_callB (call_lenU (K := K) rfl) rfl T.n_len rfl (by exact (pa_cons (pv 3) pa_nil))) pa_nil)))))
    (pss_cons (ps_for (passes_of rfl) rfl (ilK (K := K) rfl (pi_list (pv 3))) (tupGK (K := K) rfl (pg_tup (n := 2) rfl (pgs_cons (pg_name (i := 2) nd rfl (Or.inl rfl)) (pgs_cons (pg_name (i := 5) nd rfl (Or.inl rfl)) pgs_nil)))) (pss_one (ps_aug (i := 4) nd rfl (Or.inl rfl) (GX.pe_call c_pair (hr.mono (by decide)) (takes_of rfl rfl rfl rfl) (by exact (pa_cons (pv 2) pa_nil))) (opK (K := K) (r := rIaddU) opU_iadd rfl))))
    (pss_cons (ps_for (passes_of rfl) rfl (ilK (K := K) rfl (pi_list (pv 3))) (tupGK (K := K) rfl (pg_tup (n := 2) rfl (pgs_cons (pg_name (i := 2) nd rfl (Or.inl rfl)) (pgs_cons (pg_name (i := 5) nd rfl (Or.inl rfl)) pgs_nil)))) (pss_one (ps_aug (i := 4) nd rfl (Or.inl rfl) (pv 5) (opK (K := K) (r := rIaddU) opU_iadd rfl))))
    (pss_one (ps_ret (pe_ifExp (pt_cmpR (opK (K := K) (r := rEqU) (opU_eq (roomEq hr)) rfl) (GX.pe_call c_word_sum (hr.mono (by decide)) (takes_of rfl rfl rfl rfl) (by exact (pa_cons (pv 4) pa_nil))) (pe_ix (ixK (K := K) (r := rIx) ix_seq rfl) (pv 1) pe_int (fun _ _ => rfl)) (nomark _)) (pv 3) (pe_lst pa_nil)))))))))) ?_
  obtain ⟨j, d, s0, v, F, rfl, ⟨jx, hj⟩, hD, wf, hdead, ht, hq⟩ := h
  obtain ⟨dx, b, w, kvs, ws, rfl, h1, h2, h3, h4, h5⟩ := id hD
  simp only [cx_K, gcx_K, lcx_K, LenV, rLenU, tTruU, kTup, tFld, sFld, sFldAug, tMet, tMake, tBM, tDGet, tDGet1, tDGet2, sDPut, tRevL, iEnum, tAug, tAsg, mulV_int, iaddU_int, isubU_int, iaddU_str, tTupL, ex2eq, not_true_eq_false, not_false_eq_true, LamX.tLam, LamX.TTold, tSeq, tIf, tNext, tRet, tRetN, tIfS, tTest, tB, tNot, tAnd, tOr, tChain, tOp, tUn, tC, tVar, tCons, tNil, tTup, tLst, tAsg, gName, gTup, gCons, gNil, gSub, tDrop, tCallS, tCB, tM1, tM0, tBM, tBM0, tSl, tPar, tFor_eq, tLc_eq, intU_int, intU_bl, iList, iTup, iEnumT, tDNewK, rSlT, rSlL, iRng1, iRng2, iStr, tThen, tNever, L2.start, tRaiseFile, tMkFile, tYes, tPart, tNoPart, addA_int, addA_str, addU_int, addU_str, addU_ref, subU_int, mulU_int, mulU_ref, fdvU_int, modU_int, powU_int, ltU_int, leU_int, gtU_int, geU_int, eqU_int, eqU_str, eqU_bl, neU_int, neU_str, neU_bl, WE, TruV, List.map, List.length_cons, List.length_nil, List.replicate, List.append, List.getElem?_cons_zero, List.getElem?_cons_succ, List.set_cons_zero, List.set_cons_succ, List.cons_append, List.nil_append, Option.some.injEq, V.int.injEq, V.str.injEq, V.bl.injEq, V.ref.injEq, List.cons.injEq, exists_eq_left, exists_eq_right, and_true, true_and, and_self, exists_eq, exists_const, Bool.not_true, Bool.not_false, Bool.false_eq_true, if_true, if_false, reduceIte, decide_eq_true_eq, bne_iff_ne, exists_eq_left', exists_eq', exists_and_left, Bool.not_eq_true', decide_eq_false_iff_not, Nat.reduceSub, Nat.reduceAdd, reduceCtorEq, false_and, or_false, false_or, exists_false]
  refine ⟨_, _, _, hj, T.cJ, T.fJ _ (by simp), _, rfl, ?_⟩; try simp only [cx_K, gcx_K, lcx_K, LenV, rLenU, tTruU, kTup, tFld, sFld, sFldAug, tMet, tMake, tBM, tDGet, tDGet1, tDGet2, sDPut, tRevL, iEnum, tAug, tAsg, mulV_int, iaddU_int, isubU_int, iaddU_str, tTupL, ex2eq, not_true_eq_false, not_false_eq_true, LamX.tLam, LamX.TTold, tSeq, tIf, tNext, tRet, tRetN, tIfS, tTest, tB, tNot, tAnd, tOr, tChain, tOp, tUn, tC, tVar, tCons, tNil, tTup, tLst, tAsg, gName, gTup, gCons, gNil, gSub, tDrop, tCallS, tCB, tM1, tM0, tBM, tBM0, tSl, tPar, tFor_eq, tLc_eq, intU_int, intU_bl, iList, iTup, iEnumT, tDNewK, rSlT, rSlL, iRng1, iRng2, iStr, tThen, tNever, L2.start, tRaiseFile, tMkFile, tYes, tPart, tNoPart, addA_int, addA_str, addU_int, addU_str, addU_ref, subU_int, mulU_int, mulU_ref, fdvU_int, modU_int, powU_int, ltU_int, leU_int, gtU_int, geU_int, eqU_int, eqU_str, eqU_bl, neU_int, neU_str, neU_bl, WE, TruV, List.map, List.length_cons, List.length_nil, List.replicate, List.append, List.getElem?_cons_zero, List.getElem?_cons_succ, List.set_cons_zero, List.set_cons_succ, List.cons_append, List.nil_append, Option.some.injEq, V.int.injEq, V.str.injEq, V.bl.injEq, V.ref.injEq, List.cons.injEq, exists_eq_left, exists_eq_right, and_true, true_and, and_self, exists_eq, exists_const, Bool.not_true, Bool.not_false, Bool.false_eq_true, if_true, if_false, reduceIte, decide_eq_true_eq, bne_iff_ne, exists_eq_left', exists_eq', exists_and_left, Bool.not_eq_true', decide_eq_false_iff_not, Nat.reduceSub, Nat.reduceAdd, reduceCtorEq, false_and, or_false, false_or, exists_false]
  refine ⟨_, _, h1, rfl, ?_⟩
  refine ⟨_, _, _, hj, T.cJ, T.fJ _ (by simp), _, rfl, ?_⟩; try simp only [cx_K, gcx_K, lcx_K, LenV, rLenU, tTruU, kTup, tFld, sFld, sFldAug, tMet, tMake, tBM, tDGet, tDGet1, tDGet2, sDPut, tRevL, iEnum, tAug, tAsg, mulV_int, iaddU_int, isubU_int, iaddU_str, tTupL, ex2eq, not_true_eq_false, not_false_eq_true, LamX.tLam, LamX.TTold, tSeq, tIf, tNext, tRet, tRetN, tIfS, tTest, tB, tNot, tAnd, tOr, tChain, tOp, tUn, tC, tVar, tCons, tNil, tTup, tLst, tAsg, gName, gTup, gCons, gNil, gSub, tDrop, tCallS, tCB, tM1, tM0, tBM, tBM0, tSl, tPar, tFor_eq, tLc_eq, intU_int, intU_bl, iList, iTup, iEnumT, tDNewK, rSlT, rSlL, iRng1, iRng2, iStr, tThen, tNever, L2.start, tRaiseFile, tMkFile, tYes, tPart, tNoPart, addA_int, addA_str, addU_int, addU_str, addU_ref, subU_int, mulU_int, mulU_ref, fdvU_int, modU_int, powU_int, ltU_int, leU_int, gtU_int, geU_int, eqU_int, eqU_str, eqU_bl, neU_int, neU_str, neU_bl, WE, TruV, List.map, List.length_cons, List.length_nil, List.replicate, List.append, List.getElem?_cons_zero, List.getElem?_cons_succ, List.set_cons_zero, List.set_cons_succ, List.cons_append, List.nil_append, Option.some.injEq, V.int.injEq, V.str.injEq, V.bl.injEq, V.ref.injEq, List.cons.injEq, exists_eq_left, exists_eq_right, and_true, true_and, and_self, exists_eq, exists_const, Bool.not_true, Bool.not_false, Bool.false_eq_true, if_true, if_false, reduceIte, decide_eq_true_eq, bne_iff_ne, exists_eq_left', exists_eq', exists_and_left, Bool.not_eq_true', decide_eq_false_iff_not, Nat.reduceSub, Nat.reduceAdd, reduceCtorEq, false_and, or_false, false_or, exists_false]
  have okn : ∀ n : Int, 0 ≤ n → n < 16 → okNum v n = true := fun n h0 h1 => by unfold okNum; rw [hdead, wf.t]; simp [h0, h1]
  have rd := wf.read
  refine ⟨d, v, _, 1, rfl, hD, fun _ u H1 e1 hu => ?_, fun z => absurd z (by rw [okn 1 (by decide) (by decide)]; simp)⟩
  obtain ⟨p1, rfl, hp1⟩ := hu
  refine ⟨p1, dread v 1, rfl, hp1, (rd 1).1, (rd 1).2, e1.tb ht, fun x H2 e2 hx => ?_⟩
  have e12 := e1.trans e2
  have hj2 := e12.ext j _ (by simp) hj (fun _ z => by cases z)
  have hD2 : DevAt K CD H2 d v _ := hD.keep e12 (fun a _ => by simp)
  cases hr : rhead (dread v 1) with
  | none =>
    rw [hr] at hx
    obtain rfl := hx
    have ep : dpend v = [] := by unfold dpend; rw [hr]
    rw [ep] at hq
    simp only [cx_K, gcx_K, lcx_K, LenV, rLenU, tTruU, kTup, tFld, sFld, sFldAug, tMet, tMake, tBM, tDGet, tDGet1, tDGet2, sDPut, tRevL, iEnum, tAug, tAsg, mulV_int, iaddU_int, isubU_int, iaddU_str, tTupL, ex2eq, not_true_eq_false, not_false_eq_true, LamX.tLam, LamX.TTold, tSeq, tIf, tNext, tRet, tRetN, tIfS, tTest, tB, tNot, tAnd, tOr, tChain, tOp, tUn, tC, tVar, tCons, tNil, tTup, tLst, tAsg, gName, gTup, gCons, gNil, gSub, tDrop, tCallS, tCB, tM1, tM0, tBM, tBM0, tSl, tPar, tFor_eq, tLc_eq, intU_int, intU_bl, iList, iTup, iEnumT, tDNewK, rSlT, rSlL, iRng1, iRng2, iStr, tThen, tNever, L2.start, tRaiseFile, tMkFile, tYes, tPart, tNoPart, addA_int, addA_str, addU_int, addU_str, addU_ref, subU_int, mulU_int, mulU_ref, fdvU_int, modU_int, powU_int, ltU_int, leU_int, gtU_int, geU_int, eqU_int, eqU_str, eqU_bl, neU_int, neU_str, neU_bl, WE, TruV, List.map, List.length_cons, List.length_nil, List.replicate, List.append, List.getElem?_cons_zero, List.getElem?_cons_succ, List.set_cons_zero, List.set_cons_succ, List.cons_append, List.nil_append, Option.some.injEq, V.int.injEq, V.str.injEq, V.bl.injEq, V.ref.injEq, List.cons.injEq, exists_eq_left, exists_eq_right, and_true, true_and, and_self, exists_eq, exists_const, Bool.not_true, Bool.not_false, Bool.false_eq_true, if_true, if_false, reduceIte, decide_eq_true_eq, bne_iff_ne, exists_eq_left', exists_eq', exists_and_left, Bool.not_eq_true', decide_eq_false_iff_not, Nat.reduceSub, Nat.reduceAdd, reduceCtorEq, false_and, or_false, false_or, exists_false]
    exact ⟨sz 0, fun p hp => hq p [] _ (e12.add hp) ((e12.fresh (free_none hp)).elim (fun z => by simp at z) id) upd_same .nil⟩
  | some h =>
    rw [hr] at hx
    obtain ⟨s1, ns, cs⟩ := h
    obtain ⟨r, a2, b2, rfl, hr1, hr2, hr3⟩ := hx
    replace hr1 : SqT K H2 r [V.int s1, .ref a2, .ref b2] := hr1
    replace hr2 : SqT K H2 a2 (ns.map V.int) := hr2
    replace hr3 : SqT K H2 b2 (cs.map V.int) := hr3
    have ep : dpend v = if 5 < ns.length then [] else if ws4 (headL s1 ((pendRows v ns).map (·.1)) ++ ((pendRows v ns).map (·.2)).flatten) = cs then pendRows v ns else [] := by
      unfold dpend; rw [hr]
    simp only [cx_K, gcx_K, lcx_K, LenV, rLenU, tTruU, kTup, tFld, sFld, sFldAug, tMet, tMake, tBM, tDGet, tDGet1, tDGet2, sDPut, tRevL, iEnum, tAug, tAsg, mulV_int, iaddU_int, isubU_int, iaddU_str, tTupL, ex2eq, not_true_eq_false, not_false_eq_true, LamX.tLam, LamX.TTold, tSeq, tIf, tNext, tRet, tRetN, tIfS, tTest, tB, tNot, tAnd, tOr, tChain, tOp, tUn, tC, tVar, tCons, tNil, tTup, tLst, tAsg, gName, gTup, gCons, gNil, gSub, tDrop, tCallS, tCB, tM1, tM0, tBM, tBM0, tSl, tPar, tFor_eq, tLc_eq, intU_int, intU_bl, iList, iTup, iEnumT, tDNewK, rSlT, rSlL, iRng1, iRng2, iStr, tThen, tNever, L2.start, tRaiseFile, tMkFile, tYes, tPart, tNoPart, addA_int, addA_str, addU_int, addU_str, addU_ref, subU_int, mulU_int, mulU_ref, fdvU_int, modU_int, powU_int, ltU_int, leU_int, gtU_int, geU_int, eqU_int, eqU_str, eqU_bl, neU_int, neU_str, neU_bl, WE, TruV, List.map, List.length_cons, List.length_nil, List.replicate, List.append, List.getElem?_cons_zero, List.getElem?_cons_succ, List.set_cons_zero, List.set_cons_succ, List.cons_append, List.nil_append, Option.some.injEq, V.int.injEq, V.str.injEq, V.bl.injEq, V.ref.injEq, List.cons.injEq, exists_eq_left, exists_eq_right, and_true, true_and, and_self, exists_eq, exists_const, Bool.not_true, Bool.not_false, Bool.false_eq_true, if_true, if_false, reduceIte, decide_eq_true_eq, bne_iff_ne, exists_eq_left', exists_eq', exists_and_left, Bool.not_eq_true', decide_eq_false_iff_not, Nat.reduceSub, Nat.reduceAdd, reduceCtorEq, false_and, or_false, false_or, exists_false]
    refine rIx_tup hr1 (by rfl) ?_
    refine ⟨_, .inr ⟨_, hr2, rfl⟩, _, _, hj2, rfl, j, d, s0, v, _, rfl, ⟨jx, hj2⟩, hD2, ?_⟩
    rw [List.length_map]
    simp only [cx_K, gcx_K, lcx_K, LenV, rLenU, tTruU, kTup, tFld, sFld, sFldAug, tMet, tMake, tBM, tDGet, tDGet1, tDGet2, sDPut, tRevL, iEnum, tAug, tAsg, mulV_int, iaddU_int, isubU_int, iaddU_str, tTupL, ex2eq, not_true_eq_false, not_false_eq_true, LamX.tLam, LamX.TTold, tSeq, tIf, tNext, tRet, tRetN, tIfS, tTest, tB, tNot, tAnd, tOr, tChain, tOp, tUn, tC, tVar, tCons, tNil, tTup, tLst, tAsg, gName, gTup, gCons, gNil, gSub, tDrop, tCallS, tCB, tM1, tM0, tBM, tBM0, tSl, tPar, tFor_eq, tLc_eq, intU_int, intU_bl, iList, iTup, iEnumT, tDNewK, rSlT, rSlL, iRng1, iRng2, iStr, tThen, tNever, L2.start, tRaiseFile, tMkFile, tYes, tPart, tNoPart, addA_int, addA_str, addU_int, addU_str, addU_ref, subU_int, mulU_int, mulU_ref, fdvU_int, modU_int, powU_int, ltU_int, leU_int, gtU_int, geU_int, eqU_int, eqU_str, eqU_bl, neU_int, neU_str, neU_bl, WE, TruV, List.map, List.length_cons, List.length_nil, List.replicate, List.append, List.getElem?_cons_zero, List.getElem?_cons_succ, List.set_cons_zero, List.set_cons_succ, List.cons_append, List.nil_append, Option.some.injEq, V.int.injEq, V.str.injEq, V.bl.injEq, V.ref.injEq, List.cons.injEq, exists_eq_left, exists_eq_right, and_true, true_and, and_self, exists_eq, exists_const, Bool.not_true, Bool.not_false, Bool.false_eq_true, if_true, if_false, reduceIte, decide_eq_true_eq, bne_iff_ne, exists_eq_left', exists_eq', exists_and_left, Bool.not_eq_true', decide_eq_false_iff_not, Nat.reduceSub, Nat.reduceAdd, reduceCtorEq, false_and, or_false, false_or, exists_false]
    by_cases c5 : 5 < ns.length
    · rw [if_pos (by omega)]
      rw [if_pos c5] at ep
      rw [ep] at hq
      exact ⟨sz 0, fun p hp => hq p [] _ (e12.add hp) ((e12.fresh (free_none hp)).elim (fun z => by simp at z) id) upd_same .nil⟩
    rw [if_neg (by omega)]
    rw [if_neg c5] at ep
    refine rIx_tup hr1 (by rfl) ⟨_, rfl, _, hr2, fun D hDn => ?_⟩
    have hDf : free H D := (e12.fresh (free_none hDn)).elim (fun z => by simp at z) id
    refine lcl_enumT (xs := ns.map V.int) (fun i H' => Ex [] TL GT H2 H' ∧ ∃ acc, H' D = some (.lst acc) ∧ Paired (PairAt K H') acc ((pendRows v ns).take i)) ⟨Ex.new hDn, [], upd_same, .nil⟩ (fun i H' _ e => e.1.sqt hr2) ?_ ?_
    · rintro i x H' T1 hx ⟨e, acc, hl, ha⟩ hT
      obtain ⟨n, hn, rfl⟩ := map_at hx
      have hsT : SqT K (upd H' T1 (.tup [.int (i : Nat), .int n])) T1 [.int (i : Nat), .int n] := SqT.of upd_same
      have eT : Ex [] TL GT H' (upd H' T1 (.tup [.int (i : Nat), .int n])) := Ex.new hT
      generalize upd H' T1 (.tup [.int (i : Nat), .int n]) = HT at hsT eT ⊢
      have e2T := e.trans eT
      have hi : i < ns.length := by
        rcases Nat.lt_or_ge i ns.length with z | z
        · exact z
        · rw [List.getElem?_eq_none z] at hn; cases hn
      have hjT := e2T.ext j _ (by simp) hj2 (fun _ z => by cases z)
      have hDT : DevAt K CD HT d v _ := hD2.keep e2T (fun a _ => by simp)
      obtain ⟨dx', hd'⟩ : ∃ dx', HT d = some (.ins CD dx' (flds b w v)) := ⟨dx, (e12.trans e2T).ext d _ (by simp) h1 (fun _ z => by cases z)⟩
      simp only [cx_K, gcx_K, lcx_K, LenV, rLenU, tTruU, kTup, tFld, sFld, sFldAug, tMet, tMake, tBM, tDGet, tDGet1, tDGet2, sDPut, tRevL, iEnum, tAug, tAsg, mulV_int, iaddU_int, isubU_int, iaddU_str, tTupL, ex2eq, not_true_eq_false, not_false_eq_true, LamX.tLam, LamX.TTold, tSeq, tIf, tNext, tRet, tRetN, tIfS, tTest, tB, tNot, tAnd, tOr, tChain, tOp, tUn, tC, tVar, tCons, tNil, tTup, tLst, tAsg, gName, gTup, gCons, gNil, gSub, tDrop, tCallS, tCB, tM1, tM0, tBM, tBM0, tSl, tPar, tFor_eq, tLc_eq, intU_int, intU_bl, iList, iTup, iEnumT, tDNewK, rSlT, rSlL, iRng1, iRng2, iStr, tThen, tNever, L2.start, tRaiseFile, tMkFile, tYes, tPart, tNoPart, addA_int, addA_str, addU_int, addU_str, addU_ref, subU_int, mulU_int, mulU_ref, fdvU_int, modU_int, powU_int, ltU_int, leU_int, gtU_int, geU_int, eqU_int, eqU_str, eqU_bl, neU_int, neU_str, neU_bl, WE, TruV, List.map, List.length_cons, List.length_nil, List.replicate, List.append, List.getElem?_cons_zero, List.getElem?_cons_succ, List.set_cons_zero, List.set_cons_succ, List.cons_append, List.nil_append, Option.some.injEq, V.int.injEq, V.str.injEq, V.bl.injEq, V.ref.injEq, List.cons.injEq, exists_eq_left, exists_eq_right, and_true, true_and, and_self, exists_eq, exists_const, Bool.not_true, Bool.not_false, Bool.false_eq_true, if_true, if_false, reduceIte, decide_eq_true_eq, bne_iff_ne, exists_eq_left', exists_eq', exists_and_left, Bool.not_eq_true', decide_eq_false_iff_not, Nat.reduceSub, Nat.reduceAdd, reduceCtorEq, false_and, or_false, false_or, exists_false, wipe, tYes]
      refine ⟨_, hsT, rfl, _, _, rfl, _, _, rfl, rfl, ?_⟩
      refine ⟨_, _, _, hjT, T.cJ, T.fJ _ (by simp), _, rfl, ?_⟩; try simp only [cx_K, gcx_K, lcx_K, LenV, rLenU, tTruU, kTup, tFld, sFld, sFldAug, tMet, tMake, tBM, tDGet, tDGet1, tDGet2, sDPut, tRevL, iEnum, tAug, tAsg, mulV_int, iaddU_int, isubU_int, iaddU_str, tTupL, ex2eq, not_true_eq_false, not_false_eq_true, LamX.tLam, LamX.TTold, tSeq, tIf, tNext, tRet, tRetN, tIfS, tTest, tB, tNot, tAnd, tOr, tChain, tOp, tUn, tC, tVar, tCons, tNil, tTup, tLst, tAsg, gName, gTup, gCons, gNil, gSub, tDrop, tCallS, tCB, tM1, tM0, tBM, tBM0, tSl, tPar, tFor_eq, tLc_eq, intU_int, intU_bl, iList, iTup, iEnumT, tDNewK, rSlT, rSlL, iRng1, iRng2, iStr, tThen, tNever, L2.start, tRaiseFile, tMkFile, tYes, tPart, tNoPart, addA_int, addA_str, addU_int, addU_str, addU_ref, subU_int, mulU_int, mulU_ref, fdvU_int, modU_int, powU_int, ltU_int, leU_int, gtU_int, geU_int, eqU_int, eqU_str, eqU_bl, neU_int, neU_str, neU_bl, WE, TruV, List.map, List.length_cons, List.length_nil, List.replicate, List.append, List.getElem?_cons_zero, List.getElem?_cons_succ, List.set_cons_zero, List.set_cons_succ, List.cons_append, List.nil_append, Option.some.injEq, V.int.injEq, V.str.injEq, V.bl.injEq, V.ref.injEq, List.cons.injEq, exists_eq_left, exists_eq_right, and_true, true_and, and_self, exists_eq, exists_const, Bool.not_true, Bool.not_false, Bool.false_eq_true, if_true, if_false, reduceIte, decide_eq_true_eq, bne_iff_ne, exists_eq_left', exists_eq', exists_and_left, Bool.not_eq_true', decide_eq_false_iff_not, Nat.reduceSub, Nat.reduceAdd, reduceCtorEq, false_and, or_false, false_or, exists_false]
      refine ⟨_, _, hd', rfl, ?_⟩
      refine ⟨_, _, _, hjT, T.cJ, T.fJ _ (by simp), _, rfl, ?_⟩; try simp only [cx_K, gcx_K, lcx_K, LenV, rLenU, tTruU, kTup, tFld, sFld, sFldAug, tMet, tMake, tBM, tDGet, tDGet1, tDGet2, sDPut, tRevL, iEnum, tAug, tAsg, mulV_int, iaddU_int, isubU_int, iaddU_str, tTupL, ex2eq, not_true_eq_false, not_false_eq_true, LamX.tLam, LamX.TTold, tSeq, tIf, tNext, tRet, tRetN, tIfS, tTest, tB, tNot, tAnd, tOr, tChain, tOp, tUn, tC, tVar, tCons, tNil, tTup, tLst, tAsg, gName, gTup, gCons, gNil, gSub, tDrop, tCallS, tCB, tM1, tM0, tBM, tBM0, tSl, tPar, tFor_eq, tLc_eq, intU_int, intU_bl, iList, iTup, iEnumT, tDNewK, rSlT, rSlL, iRng1, iRng2, iStr, tThen, tNever, L2.start, tRaiseFile, tMkFile, tYes, tPart, tNoPart, addA_int, addA_str, addU_int, addU_str, addU_ref, subU_int, mulU_int, mulU_ref, fdvU_int, modU_int, powU_int, ltU_int, leU_int, gtU_int, geU_int, eqU_int, eqU_str, eqU_bl, neU_int, neU_str, neU_bl, WE, TruV, List.map, List.length_cons, List.length_nil, List.replicate, List.append, List.getElem?_cons_zero, List.getElem?_cons_succ, List.set_cons_zero, List.set_cons_succ, List.cons_append, List.nil_append, Option.some.injEq, V.int.injEq, V.str.injEq, V.bl.injEq, V.ref.injEq, List.cons.injEq, exists_eq_left, exists_eq_right, and_true, true_and, and_self, exists_eq, exists_const, Bool.not_true, Bool.not_false, Bool.false_eq_true, if_true, if_false, reduceIte, decide_eq_true_eq, bne_iff_ne, exists_eq_left', exists_eq', exists_and_left, Bool.not_eq_true', decide_eq_false_iff_not, Nat.reduceSub, Nat.reduceAdd, reduceCtorEq, false_and, or_false, false_or, exists_false]
      refine ⟨d, v, _, _, rfl, hDT, fun _ u H5 e5 hu => ?_, fun z => absurd z (by rw [okn _ (by omega) (by omega)]; simp)⟩
      refine ⟨sz 2, fun p hp => ?_⟩
      have hl5 := (eT.trans e5).ext D _ (by simp) hl (fun _ z => by cases z)
      have e6 := (eT.trans e5).add (o := .tup [.int n, u]) hp
      have hl6 := e6.ext D _ (by simp) hl (fun _ z => by cases z)
      refine ⟨_, hl6, ?_, (e.trans e6).overL hDn hl6, _, upd_same, ?_⟩
      · rw [paired_len ha, List.length_take, sizeLine_eq]
        have : (pendRows v ns).length = ns.length := by unfold pendRows; rw [List.length_map, List.length_zipIdx]
        omega
      · rw [take_more (x := (n, dread v (1 + 1 + (i : Int)))) (by unfold pendRows; rw [List.getElem?_map, List.getElem?_zipIdx, hn]; simp)]
        have e7 : Ex [D] TL GT H' (upd (upd H5 p (.tup [.int n, u])) D (.lst (acc ++ [.ref p]))) := (e6.mono (by simp)).chg hl6 rfl (.inl (by simp))
        have e8 : Ex [D] TL GT H5 (upd (upd H5 p (.tup [.int n, u])) D (.lst (acc ++ [.ref p]))) := (Ex.new hp).chg hl6 rfl (.inl (by simp))
        have e9 : Ex [D] TL GT (upd H5 p (.tup [.int n, u])) (upd (upd H5 p (.tup [.int n, u])) D (.lst (acc ++ [.ref p]))) := Ex.put (by simp) hl6 rfl
        exact paired_append (pimp (fun _ _ h => h.ex e7) ha) (.cons ⟨p, u, rfl, e9.sqt (SqT.of upd_same), hu.ex e8⟩ .nil)
    rintro H3 ⟨f3, us, hus, hpus⟩
    have hpl : (pendRows v ns).length = ns.length := by unfold pendRows; rw [List.length_map, List.length_zipIdx]
    rw [List.length_map, ← hpl, List.take_length] at hpus
    have e3 := e12.trans f3
    refine rIx_tup (f3.sqt hr1) (by rfl) ⟨s1, rfl, fun q1 H4 e4 h4 => addA_tup (TL := TL) (GT := GT) (T.markT H4) h4 (sz 4) fun q2 H5 e5 h5 => ⟨us.length, .inl ⟨us, (e4.trans e5).sql (by simp) (lst_at hus), rfl⟩, _, rfl, fun q3 H6 e6 h6 => addA_tup (TL := TL) (GT := GT) (e6.sqt h5) h6 (sz 6) fun q4 H7 e7 h7 => ⟨⟨us, (((e4.trans e5).trans e6).trans e7).sql (by simp) (lst_at hus)⟩, ?_⟩⟩⟩
    have g7 := ((e4.trans e5).trans e6).trans e7
    have husl : us.length = ns.length := by rw [paired_len hpus, hpl]
    rw [husl] at h7
    have hn1 : (pendRows v ns).map (·.1) = ns := by
      unfold pendRows
      rw [List.map_map]
      have : ((fun x : Blk => x.1) ∘ fun p : Int × Nat => ((p.1, dread v (1 + 1 + (p.2 : Int))) : Blk)) = Prod.fst := rfl
      rw [this, List.zipIdx_map_fst]
    rw [hn1] at ep
    have hus7 := g7.ext D _ (by simp) hus (fun _ z => by cases z)
    have hp7 := pimp (fun _ _ => PairAt.ex g7) hpus
    have e7' := e3.trans g7
    generalize hrw : pendRows v ns = rows at *
    refine loop_list (xs := us) (fun i σ H' => ∃ v1 v2 q, σ = [some (.ref j), some (.ref r), v1, some (.ref D), some (.ref q), v2, none] ∧ Ex [] TL GT H7 H' ∧ SqT K H' q (([74, 82] ++ pairL s1 ++ pairL (ns.length : Int) ++ ((List.map (fun b : Blk => b.1) rows).take i).flatMap pairL : List Int).map V.int))
      ⟨_, _, q4, rfl, Ex.refl, by simpa using h7⟩ (fun i σ H' _ ⟨_, _, _, _, e, _⟩ => e.sql (by simp) (lst_at hus7)) ?_ ?_
    · rintro i x σ H' hx ⟨v1, v2, q, rfl, e, hs⟩
      obtain ⟨bk, hbk, qq, u, rfl, hq2, hu⟩ := paired_at hp7 hx
      have hi : i < rows.length := by
        rcases Nat.lt_or_ge i rows.length with z | z
        · exact z
        · rw [List.getElem?_eq_none z] at hbk; cases hbk
      simp only [cx_K, gcx_K, lcx_K, LenV, rLenU, tTruU, kTup, tFld, sFld, sFldAug, tMet, tMake, tBM, tDGet, tDGet1, tDGet2, sDPut, tRevL, iEnum, tAug, tAsg, mulV_int, iaddU_int, isubU_int, iaddU_str, tTupL, ex2eq, not_true_eq_false, not_false_eq_true, LamX.tLam, LamX.TTold, tSeq, tIf, tNext, tRet, tRetN, tIfS, tTest, tB, tNot, tAnd, tOr, tChain, tOp, tUn, tC, tVar, tCons, tNil, tTup, tLst, tAsg, gName, gTup, gCons, gNil, gSub, tDrop, tCallS, tCB, tM1, tM0, tBM, tBM0, tSl, tPar, tFor_eq, tLc_eq, intU_int, intU_bl, iList, iTup, iEnumT, tDNewK, rSlT, rSlL, iRng1, iRng2, iStr, tThen, tNever, L2.start, tRaiseFile, tMkFile, tYes, tPart, tNoPart, addA_int, addA_str, addU_int, addU_str, addU_ref, subU_int, mulU_int, mulU_ref, fdvU_int, modU_int, powU_int, ltU_int, leU_int, gtU_int, geU_int, eqU_int, eqU_str, eqU_bl, neU_int, neU_str, neU_bl, WE, TruV, List.map, List.length_cons, List.length_nil, List.replicate, List.append, List.getElem?_cons_zero, List.getElem?_cons_succ, List.set_cons_zero, List.set_cons_succ, List.cons_append, List.nil_append, Option.some.injEq, V.int.injEq, V.str.injEq, V.bl.injEq, V.ref.injEq, List.cons.injEq, exists_eq_left, exists_eq_right, and_true, true_and, and_self, exists_eq, exists_const, Bool.not_true, Bool.not_false, Bool.false_eq_true, if_true, if_false, reduceIte, decide_eq_true_eq, bne_iff_ne, exists_eq_left', exists_eq', exists_and_left, Bool.not_eq_true', decide_eq_false_iff_not, Nat.reduceSub, Nat.reduceAdd, reduceCtorEq, false_and, or_false, false_or, exists_false]
      refine ⟨_, e.sqt hq2, rfl, _, _, rfl, _, _, rfl, rfl, bk.1, rfl, fun q5 H5 e5 h5 => iaddU_tup (e5.sqt hs) h5 (by simp [pairL]) (by simp [pairL]) ?_ fun r hr => ⟨_, _, r, ⟨rfl, rfl, rfl⟩, (e.trans e5).add hr, ?_⟩⟩
      · have z := pairs_len ((rows.map (·.1)).take i)
        rw [List.length_take] at z
        rw [sizeLine_eq, List.length_map, List.length_map, List.length_append, z]
        simp [pairL]; omega
      · rw [take_more (x := bk.1) (by rw [List.getElem?_map, hbk]; rfl), List.flatMap_append, ← List.append_assoc, List.map_append]
        refine SqT.of ?_
        rw [upd_same]
        simp
    rintro σ H' ⟨v1, v2, q, rfl, e, hs⟩
    have z : ((rows.map (·.1)).take us.length) = ns := by rw [hn1, husl, List.take_length]
    rw [z] at hs
    replace hs : SqT K H' q ((headL s1 ns).map V.int) := hs
    simp only [cx_K, gcx_K, lcx_K, LenV, rLenU, tTruU, kTup, tFld, sFld, sFldAug, tMet, tMake, tBM, tDGet, tDGet1, tDGet2, sDPut, tRevL, iEnum, tAug, tAsg, mulV_int, iaddU_int, isubU_int, iaddU_str, tTupL, ex2eq, not_true_eq_false, not_false_eq_true, LamX.tLam, LamX.TTold, tSeq, tIf, tNext, tRet, tRetN, tIfS, tTest, tB, tNot, tAnd, tOr, tChain, tOp, tUn, tC, tVar, tCons, tNil, tTup, tLst, tAsg, gName, gTup, gCons, gNil, gSub, tDrop, tCallS, tCB, tM1, tM0, tBM, tBM0, tSl, tPar, tFor_eq, tLc_eq, intU_int, intU_bl, iList, iTup, iEnumT, tDNewK, rSlT, rSlL, iRng1, iRng2, iStr, tThen, tNever, L2.start, tRaiseFile, tMkFile, tYes, tPart, tNoPart, addA_int, addA_str, addU_int, addU_str, addU_ref, subU_int, mulU_int, mulU_ref, fdvU_int, modU_int, powU_int, ltU_int, leU_int, gtU_int, geU_int, eqU_int, eqU_str, eqU_bl, neU_int, neU_str, neU_bl, WE, TruV, List.map, List.length_cons, List.length_nil, List.replicate, List.append, List.getElem?_cons_zero, List.getElem?_cons_succ, List.set_cons_zero, List.set_cons_succ, List.cons_append, List.nil_append, Option.some.injEq, V.int.injEq, V.str.injEq, V.bl.injEq, V.ref.injEq, List.cons.injEq, exists_eq_left, exists_eq_right, and_true, true_and, and_self, exists_eq, exists_const, Bool.not_true, Bool.not_false, Bool.false_eq_true, if_true, if_false, reduceIte, decide_eq_true_eq, bne_iff_ne, exists_eq_left', exists_eq', exists_and_left, Bool.not_eq_true', decide_eq_false_iff_not, Nat.reduceSub, Nat.reduceAdd, reduceCtorEq, false_and, or_false, false_or, exists_false]
    refine ⟨⟨us, e.sql (by simp) (lst_at hus7)⟩, ?_⟩
    refine loop_list (xs := us) (fun i σ H' => ∃ v1 v2 q2, σ = [some (.ref j), some (.ref r), v1, some (.ref D), some (.ref q2), v2, none] ∧ Ex [] TL GT H7 H' ∧ SqT K H' q2 ((headL s1 ns ++ ((rows.map (·.2)).take i).flatten).map V.int))
      ⟨_, _, q, rfl, e, by simpa using hs⟩ (fun i σ H' _ ⟨_, _, _, _, e, _⟩ => e.sql (by simp) (lst_at hus7)) ?_ ?_
    · rintro i x σ H' hx ⟨v1, v2, q2, rfl, e, hs2⟩
      obtain ⟨bk, hbk, qq, u, rfl, hq2, hu⟩ := paired_at hp7 hx
      obtain ⟨p, rfl, hpp⟩ := hu.ex e
      have hmem := List.mem_of_getElem? hbk
      have hr64 : ∀ bk ∈ rows, bk.2.length = 64 := by
        intro bk hb
        rw [← hrw] at hb
        unfold pendRows at hb
        obtain ⟨y, _, rfl⟩ := List.mem_map.mp hb
        exact (rd _).1
      have hfl : (((rows.map (·.2)).take i).flatten).length ≤ 64 * i := flat_len (fun r hr => by
        obtain ⟨y, hy, rfl⟩ := List.mem_map.mp (List.mem_of_mem_take hr)
        exact hr64 y hy) (by rw [List.length_take]; omega)
      have hb64 := hr64 bk hmem
      have hi : i < rows.length := by
        rcases Nat.lt_or_ge i rows.length with z | z
        · exact z
        · rw [List.getElem?_eq_none z] at hbk; cases hbk
      simp only [cx_K, gcx_K, lcx_K, LenV, rLenU, tTruU, kTup, tFld, sFld, sFldAug, tMet, tMake, tBM, tDGet, tDGet1, tDGet2, sDPut, tRevL, iEnum, tAug, tAsg, mulV_int, iaddU_int, isubU_int, iaddU_str, tTupL, ex2eq, not_true_eq_false, not_false_eq_true, LamX.tLam, LamX.TTold, tSeq, tIf, tNext, tRet, tRetN, tIfS, tTest, tB, tNot, tAnd, tOr, tChain, tOp, tUn, tC, tVar, tCons, tNil, tTup, tLst, tAsg, gName, gTup, gCons, gNil, gSub, tDrop, tCallS, tCB, tM1, tM0, tBM, tBM0, tSl, tPar, tFor_eq, tLc_eq, intU_int, intU_bl, iList, iTup, iEnumT, tDNewK, rSlT, rSlL, iRng1, iRng2, iStr, tThen, tNever, L2.start, tRaiseFile, tMkFile, tYes, tPart, tNoPart, addA_int, addA_str, addU_int, addU_str, addU_ref, subU_int, mulU_int, mulU_ref, fdvU_int, modU_int, powU_int, ltU_int, leU_int, gtU_int, geU_int, eqU_int, eqU_str, eqU_bl, neU_int, neU_str, neU_bl, WE, TruV, List.map, List.length_cons, List.length_nil, List.replicate, List.append, List.getElem?_cons_zero, List.getElem?_cons_succ, List.set_cons_zero, List.set_cons_succ, List.cons_append, List.nil_append, Option.some.injEq, V.int.injEq, V.str.injEq, V.bl.injEq, V.ref.injEq, List.cons.injEq, exists_eq_left, exists_eq_right, and_true, true_and, and_self, exists_eq, exists_const, Bool.not_true, Bool.not_false, Bool.false_eq_true, if_true, if_false, reduceIte, decide_eq_true_eq, bne_iff_ne, exists_eq_left', exists_eq', exists_and_left, Bool.not_eq_true', decide_eq_false_iff_not, Nat.reduceSub, Nat.reduceAdd, reduceCtorEq, false_and, or_false, false_or, exists_false]
      refine ⟨_, e.sqt hq2, rfl, _, _, rfl, _, _, rfl, rfl, ?_⟩
      refine iaddU_tup hs2 hpp (by simp [headL]) (by intro z; rw [List.map_eq_nil_iff] at z; rw [z] at hb64; cases hb64) ?_ fun r0 hr0 => ⟨_, _, r0, ⟨rfl, rfl, rfl⟩, e.add hr0, ?_⟩
      · rw [sizeLine_eq, List.length_map, List.length_map, List.length_append, headL_len]
        omega
      · refine SqT.of ?_
        rw [upd_same, take_more (x := bk.2) (by rw [List.getElem?_map, hbk]; rfl)]
        simp
    · rintro σ H' ⟨v1, v2, q2, rfl, e, hs2⟩
      have z2 : ((rows.map (·.2)).take us.length) = rows.map (·.2) := by rw [husl, ← hpl, ← List.length_map (f := fun p : Blk => p.2) (as := rows), List.take_length]
      rw [z2] at hs2
      simp only [cx_K, gcx_K, lcx_K, LenV, rLenU, tTruU, kTup, tFld, sFld, sFldAug, tMet, tMake, tBM, tDGet, tDGet1, tDGet2, sDPut, tRevL, iEnum, tAug, tAsg, mulV_int, iaddU_int, isubU_int, iaddU_str, tTupL, ex2eq, not_true_eq_false, not_false_eq_true, LamX.tLam, LamX.TTold, tSeq, tIf, tNext, tRet, tRetN, tIfS, tTest, tB, tNot, tAnd, tOr, tChain, tOp, tUn, tC, tVar, tCons, tNil, tTup, tLst, tAsg, gName, gTup, gCons, gNil, gSub, tDrop, tCallS, tCB, tM1, tM0, tBM, tBM0, tSl, tPar, tFor_eq, tLc_eq, intU_int, intU_bl, iList, iTup, iEnumT, tDNewK, rSlT, rSlL, iRng1, iRng2, iStr, tThen, tNever, L2.start, tRaiseFile, tMkFile, tYes, tPart, tNoPart, addA_int, addA_str, addU_int, addU_str, addU_ref, subU_int, mulU_int, mulU_ref, fdvU_int, modU_int, powU_int, ltU_int, leU_int, gtU_int, geU_int, eqU_int, eqU_str, eqU_bl, neU_int, neU_str, neU_bl, WE, TruV, List.map, List.length_cons, List.length_nil, List.replicate, List.append, List.getElem?_cons_zero, List.getElem?_cons_succ, List.set_cons_zero, List.set_cons_succ, List.cons_append, List.nil_append, Option.some.injEq, V.int.injEq, V.str.injEq, V.bl.injEq, V.ref.injEq, List.cons.injEq, exists_eq_left, exists_eq_right, and_true, true_and, and_self, exists_eq, exists_const, Bool.not_true, Bool.not_false, Bool.false_eq_true, if_true, if_false, reduceIte, decide_eq_true_eq, bne_iff_ne, exists_eq_left', exists_eq', exists_and_left, Bool.not_eq_true', decide_eq_false_iff_not, Nat.reduceSub, Nat.reduceAdd, reduceCtorEq, false_and, or_false, false_or, exists_false]
      refine ⟨q2, _, rfl, hs2, fun q3 H8 e8 h8 => rIx_tup ((((f3.trans g7).trans e).trans e8).sqt hr1) (by rfl) (eq_tups h8 ((((f3.trans g7).trans e).trans e8).sqt hr3) ⟨_, rfl, ?_⟩)⟩
      have e9 := (e7'.trans e).trans e8
      by_cases hw : ws4 (headL s1 ns ++ (rows.map (·.2)).flatten) = cs
      · rw [if_pos (by exact decide_eq_true hw)]
        rw [if_pos hw] at ep
        rw [ep] at hq
        exact hq D us _ e9 hDf ((e.trans e8).ext D _ (by simp) hus7 (fun _ z => by cases z)) (pimp (fun _ _ => PairAt.ex (e.trans e8)) hp7)
      · rw [if_neg (by simpa using hw)]
        rw [if_neg hw] at ep
        rw [ep] at hq
        exact ⟨sz 0, fun p hp => hq p [] _ (e9.add hp) ((e9.fresh (free_none hp)).elim (fun z => by simp at z) id) upd_same .nil⟩
theorem dpend_len (v : Dv) : (dpend v).length ≤ 5 := by
  unfold dpend
  split
  · exact Nat.zero_le _
  · split
    · exact Nat.zero_le _
    · rename_i h
      split
      · unfold pendRows; rw [List.length_map, List.length_zipIdx]; omega
      · exact Nat.zero_le _
def recOps (rows : List Blk) : List Op := if rows = [] then [] else homeOps rows
def spRec (K : PySem.W.Frag) (CD CJ DE : Addr) (TL : List (Addr × Str)) (GT : List Addr) : Sp := fun vs H Q E => ∃ j d s v F, vs = [.ref j] ∧ JAt CJ H j d s ∧ DevAt K CD H d v F ∧ WfD v ∧ v.dead = false ∧ Tb TL GT H ∧ j ∉ F ∧ szD v < 8000 ∧
  ((runOps v (recOps (dpend v))).2 = true → ∀ u H', Aft K CD TL GT H d F (runOps v (recOps (dpend v))).1 H' → SqT K H' u (((dpend v).map (·.1)).map V.int) → Q (.ref u) H') ∧
  ((runOps v (recOps (dpend v))).2 = false → ∀ H', Aft K CD TL GT H d F (runOps v (recOps (dpend v))).1 H' → E (.ref DE) none H')
theorem m_rec (T : KB.Txt P w K mg base CD CJ DE JE jm TL GT) : Met P w K mg base 18 CJ "recover" [] (spRec K CD CJ DE TL GT) := by
  have m_Journal_pending := m_pend T
  have m_Journal_write_home := m_home T
  obtain ⟨f, fd, c, tP, D, hm, tb, hmem⟩ := T.j_recover
  refine met_of T.cJ hm ?_ (D.bind0 (ps := ["self"]) (fun _ _ _ _ _ _ us hl => match us, hl with | [_], _ => rfl))
  refine D.okF (N := ["self", "rows", "number", "data"]) (ps := ["self"]) ⟨rfl, rfl, rfl, by decide +kernel, rfl, by decide +kernel, by decide +kernel⟩ (fun vs H Q E h => by first | (obtain ⟨_, rfl, _⟩ := h; rfl) | (obtain ⟨_, _, rfl, _⟩ := h; rfl) | (obtain ⟨_, _, _, rfl, _⟩ := h; rfl) | (obtain ⟨_, _, _, _, rfl, _⟩ := h; rfl) | (obtain ⟨_, _, _, _, _, rfl, _⟩ := h; rfl) | (obtain ⟨_, _, _, _, _, _, rfl, _⟩ := h; rfl) | (obtain ⟨_, _, _, _, _, _, _, rfl, _⟩ := h; rfl) | (obtain ⟨_, _, _, _, _, _, _, _, rfl, _⟩ := h; rfl) | (obtain ⟨rfl, _⟩ := h; rfl)) (fun A outer s H vs Q E hr h => ?_)
  have nd : (["self", "rows", "number", "data"] : List Str).Nodup := by decide
  refine mk_ex (pss_cons (ps_set (i := 1) nd rfl (Or.inl rfl) (pe_met0 m_Journal_pending (hr.mono (by decide)) (takes_of rfl rfl rfl rfl) (pv 0)))
    (pss_cons (ps_if (pt_cmpR (opK (K := K) (r := rNeU) (opU_ne (roomEq hr)) rfl) (pv 1) (pe_lst pa_nil) (nomark _)) (pss_one (ps_expr (pe_met m_Journal_write_home (hr.mono (by decide)) (takes_of rfl rfl rfl rfl) (pv 0) (by exact (pa_cons (pv 1) pa_nil))))) pss_nil)
    (pss_one (ps_ret (pe_tupG (k := 6) (own := [("number", 2), ("data", 3)]) (E := fun _ _ _ _ => False) (hr.mono (by decide)) rfl nd rfl T.n_tuple tb rfl (show GenOk ["self", "rows", "number", "data"] (defScope (inClass (top 14) 5)) _ [("number", 2), ("data", 3)] from genOk_by (by decide +kernel)) (pif_list (pv 1)) (fun σ pins H s e s' I c => passF pins σ H s e s' I c) (fun σ cls d H h => h.elim) (fun σ A s H L code bi pn => (tupGK (K := K) rfl (pg_tup (n := 2) rfl (pgs_cons (pg_name (i := 2) nd rfl (Or.inl rfl)) (pgs_cons (pg_name (i := 3) nd rfl (Or.inl rfl)) pgs_nil))))) (fun σ A s H L code bi pn hr1 => pts_nil) (fun σ A s H L code bi pn hr1 => (pv 2))))))) ?_
  obtain ⟨j, d, s0, v, F, rfl, ⟨jx, hj⟩, hD, wf, hdead, ht, hjF, hsz, h1, h2⟩ := h
  simp only [cx_K, gcx_K, lcx_K, LenV, rLenU, tTruU, kTup, tFld, sFld, sFldAug, tMet, tMake, tBM, tDGet, tDGet1, tDGet2, sDPut, tRevL, iEnum, tAug, tAsg, mulV_int, iaddU_int, isubU_int, iaddU_str, tTupL, ex2eq, not_true_eq_false, not_false_eq_true, LamX.tLam, LamX.TTold, tSeq, tIf, tNext, tRet, tRetN, tIfS, tTest, tB, tNot, tAnd, tOr, tChain, tOp, tUn, tC, tVar, tCons, tNil, tTup, tLst, tAsg, gName, gTup, gCons, gNil, gSub, tDrop, tCallS, tCB, tM1, tM0, tBM, tBM0, tSl, tPar, tFor_eq, tLc_eq, intU_int, intU_bl, iList, iTup, iEnumT, tDNewK, rSlT, rSlL, iRng1, iRng2, iStr, tThen, tNever, L2.start, tRaiseFile, tMkFile, tYes, tPart, tNoPart, addA_int, addA_str, addU_int, addU_str, addU_ref, subU_int, mulU_int, mulU_ref, fdvU_int, modU_int, powU_int, ltU_int, leU_int, gtU_int, geU_int, eqU_int, eqU_str, eqU_bl, neU_int, neU_str, neU_bl, WE, TruV, List.map, List.length_cons, List.length_nil, List.replicate, List.append, List.getElem?_cons_zero, List.getElem?_cons_succ, List.set_cons_zero, List.set_cons_succ, List.cons_append, List.nil_append, Option.some.injEq, V.int.injEq, V.str.injEq, V.bl.injEq, V.ref.injEq, List.cons.injEq, exists_eq_left, exists_eq_right, and_true, true_and, and_self, exists_eq, exists_const, Bool.not_true, Bool.not_false, Bool.false_eq_true, if_true, if_false, reduceIte, decide_eq_true_eq, bne_iff_ne, exists_eq_left', exists_eq', exists_and_left, Bool.not_eq_true', decide_eq_false_iff_not, Nat.reduceSub, Nat.reduceAdd, reduceCtorEq, false_and, or_false, false_or, exists_false]
  refine ⟨_, _, hj, rfl, j, d, s0, v, F, rfl, ⟨jx, hj⟩, hD, wf, hdead, ht, fun u us H1 e1 hf hus hp => ⟨sz 0, fun p hp0 => ?_⟩⟩
  have e2 : Ex [] TL GT H1 (upd H1 p (.lst [])) := Ex.new hp0
  refine ne_rows (m := []) (lst_at (e2.ext u _ (by simp) hus (fun _ z => by cases z))) (lst_at upd_same) (pimp (fun _ _ => PairAt.ex e2) hp) .nil ⟨_, rfl, ?_⟩
  have e12 := e1.trans e2
  have hus2 := e2.ext u _ (by simp) hus (fun _ z => by cases z)
  have hp2 := pimp (fun _ _ => PairAt.ex e2) hp
  have hj2 := e12.ext j _ (by simp) hj (fun _ z => by cases z)
  have hD2 : DevAt K CD _ d v F := hD.keep e12 (fun a _ => by simp)
  generalize upd H1 p (.lst []) = H2 at e12 hus2 hp2 hj2 hD2 ⊢
  generalize hrw : dpend v = rows at *
  have huF : u ∉ F := fun z => by
    obtain ⟨o, ho, hm⟩ := hD.live u z
    obtain ⟨ps, rfl⟩ := hf o ho
    cases hm
  have husF : us.length ≤ us.length := Nat.le_refl _
  have tail : ∀ H3, (runOps v (recOps rows)).2 = true → Aft K CD TL GT H2 d F (runOps v (recOps rows)).1 H3 → tGenx tP (iList K (tVar 1)) (gTup K 2 (gCons (gName 2) (gCons (gName 3) gNil))) tYes (tVar 2) [2, 3] (fun x x_2 x_3 => True) [some (V.ref j), some (V.ref u), none, none] H3 fun ys H2 =>
      ∀ (p : Addr), H2 p = none → Q (V.ref p) (upd H2 p (HO.tup ys)) := by
    intro H3 hb a3
    have e3 := a3.e
    have hus3 := e3.ext u _ huF hus2 (fun _ z => by cases z)
    have hp3 := pimp (fun _ _ => PairAt.ex e3) hp2
    have a3' : Aft K CD TL GT H d F (runOps v (recOps rows)).1 H3 := aft_trans (e12.mono (by simp)) (fun a ha => .inl ha) a3
    refine ⟨_, rfl, u, rfl, ⟨us, lst_at hus3⟩, (e3.tg ((e12.tb ht).tg)) tP hmem, ?_⟩
    refine turns_list (xs := us) (fun i ys H' => Ex [] TL GT H3 H' ∧ ys = ((rows.map (·.1)).take i).map V.int) ⟨Ex.refl, rfl⟩ (fun i ys H' _ e => e.1.sql (by simp) (lst_at hus3)) ?_ ?_
    · rintro i ys x H' hx ⟨e, rfl⟩
      obtain ⟨bk, hbk, q, y, rfl, hq2, hu⟩ := paired_at hp3 hx
      simp only [cx_K, gcx_K, lcx_K, LenV, rLenU, tTruU, kTup, tFld, sFld, sFldAug, tMet, tMake, tBM, tDGet, tDGet1, tDGet2, sDPut, tRevL, iEnum, tAug, tAsg, mulV_int, iaddU_int, isubU_int, iaddU_str, tTupL, ex2eq, not_true_eq_false, not_false_eq_true, LamX.tLam, LamX.TTold, tSeq, tIf, tNext, tRet, tRetN, tIfS, tTest, tB, tNot, tAnd, tOr, tChain, tOp, tUn, tC, tVar, tCons, tNil, tTup, tLst, tAsg, gName, gTup, gCons, gNil, gSub, tDrop, tCallS, tCB, tM1, tM0, tBM, tBM0, tSl, tPar, tFor_eq, tLc_eq, intU_int, intU_bl, iList, iTup, iEnumT, tDNewK, rSlT, rSlL, iRng1, iRng2, iStr, tThen, tNever, L2.start, tRaiseFile, tMkFile, tYes, tPart, tNoPart, addA_int, addA_str, addU_int, addU_str, addU_ref, subU_int, mulU_int, mulU_ref, fdvU_int, modU_int, powU_int, ltU_int, leU_int, gtU_int, geU_int, eqU_int, eqU_str, eqU_bl, neU_int, neU_str, neU_bl, WE, TruV, List.map, List.length_cons, List.length_nil, List.replicate, List.append, List.getElem?_cons_zero, List.getElem?_cons_succ, List.set_cons_zero, List.set_cons_succ, List.cons_append, List.nil_append, Option.some.injEq, V.int.injEq, V.str.injEq, V.bl.injEq, V.ref.injEq, List.cons.injEq, exists_eq_left, exists_eq_right, and_true, true_and, and_self, exists_eq, exists_const, Bool.not_true, Bool.not_false, Bool.false_eq_true, if_true, if_false, reduceIte, decide_eq_true_eq, bne_iff_ne, exists_eq_left', exists_eq', exists_and_left, Bool.not_eq_true', decide_eq_false_iff_not, Nat.reduceSub, Nat.reduceAdd, reduceCtorEq, false_and, or_false, false_or, exists_false, wipe, tYes]
      refine ⟨_, e.sqt hq2, rfl, _, _, rfl, _, _, rfl, rfl, ?_, e, ?_⟩
      · have hl5 : rows.length ≤ 5 := by rw [← hrw]; exact dpend_len v
        rw [List.length_map, List.length_take, List.length_map, sizeLine_eq]; omega
      · rw [take_more (x := bk.1) (by rw [List.getElem?_map, hbk]; rfl), List.map_append]; rfl
    · rintro ys H' ⟨e, rfl⟩ p hp
      rw [paired_len hp3, ← List.length_map (f := fun p : Blk => p.1) (as := rows), List.take_length]
      obtain ⟨e4, F4, D4, hF4⟩ := a3'
      refine h1 hb p _ ⟨(ex_behind e4 (B := []) (by simp) e).add hp, F4, D4.keep ((e.add hp) : Ex [] TL GT H3 _) (fun a _ => by simp), hF4⟩ (SqT.of upd_same)
  by_cases hr0 : rows = []
  · rw [if_neg (by simp [hr0])]
    have er : recOps rows = [] := if_pos hr0
    refine tail H2 (by rw [er]; rfl) ?_
    rw [er]
    exact Aft.refl hD2
  · rw [if_pos (by simp [hr0])]
    have er : recOps rows = homeOps rows := if_neg hr0
    have hl : rows.length ≤ 5 := by rw [← hrw]; exact dpend_len v
    refine ⟨_, _, hj2, rfl, j, d, s0, v, F, u, us, rows, rfl, ⟨jx, hj2⟩, hD2, lst_at hus2, hp2, hjF, huF, by omega, fun hb H3 a => ?_, fun hb H3 a => ?_⟩
    · exact tail H3 (by rw [er]; exact hb) (by rw [er]; exact a)
    · refine h2 (by rw [er]; exact hb) H3 ?_
      rw [er]
      exact aft_trans (e12.mono (by simp)) (fun a ha => .inl ha) a
end
end KB
set_option Elab.async false
set_option linter.all false
set_option maxRecDepth 100000
set_option maxHeartbeats 2000000
namespace KB
open PySem PySem.Spec PyProof.Rows L2 GX
section
variable {P : Program} {w : World} {K : PySem.W.Frag} {mg : Str → Option Value} {base : Heap} {CD CJ DE JE jm : Addr} {TL : List (Addr × Str)} {GT : List Addr}
def spDice (TL : List (Addr × Str)) (GT : List Addr) : Sp := fun vs H Q E => ∃ (n : Int), vs = [.int n] ∧
  ∀ q x y z H', Ex [] TL GT H H' → H' q = some (.lst [.int x, .int y, .int z]) → Q (.ref q) H'
theorem c_law_dice (T : KB.Txt P w K mg base CD CJ DE JE jm TL GT) : Cal P w K mg base 3 "_law_dice" (spDice TL GT) := by
  obtain ⟨f, fd, c, D⟩ := T.d_dice
  refine D.ok (N := ["cell"]) (ps := ["cell"]) ⟨rfl, rfl, rfl, by decide +kernel, rfl, by decide +kernel, by decide +kernel⟩ (fun vs H Q E h => by first | (obtain ⟨_, rfl, _⟩ := h; rfl) | (obtain ⟨_, _, rfl, _⟩ := h; rfl) | (obtain ⟨_, _, _, rfl, _⟩ := h; rfl) | (obtain ⟨_, _, _, _, rfl, _⟩ := h; rfl) | (obtain ⟨_, _, _, _, _, rfl, _⟩ := h; rfl) | (obtain ⟨_, _, _, _, _, _, rfl, _⟩ := h; rfl) | (obtain ⟨_, _, _, _, _, _, _, rfl, _⟩ := h; rfl) | (obtain ⟨_, _, _, _, _, _, _, _, rfl, _⟩ := h; rfl) | (obtain ⟨rfl, _⟩ := h; rfl)) (fun _ _ _ _ _ _ us hl => match us, hl with | [_], _ => rfl) (fun A outer s H vs Q E hr h => ?_)
  have nd : (["cell"] : List Str).Nodup := by decide
  refine mk_ex (pss_cons (ps_if (pt_chain opU_lt opU_lt (pe_op opU_sub pe_int pe_int) (pv 0) pe_int) (pss_one (ps_ret (pe_lst (pa_cons (pe_callB call_abs rfl T.n_abs rfl (by exact (pa_cons (pv 0) pa_nil))) (pa_cons pe_int (pa_cons pe_int pa_nil)))))) pss_nil)
    (pss_one (ps_ret (pe_lst (pa_cons (pv 0) (pa_cons (pe_op (opK (K := K) (r := rAddU) opU_add rfl) pe_int (pe_op opU_mod (pe_callTy call_intU rfl T.n_int rfl (by exact (pa_cons (pv 0) pa_nil))) pe_int)) (pa_cons (pe_callTy call_intU rfl T.n_int rfl (by exact (pa_cons (pe_cmpR opU_ge (pv 0) (pe_op opU_pow pe_int pe_int) (nomark _)) pa_nil))) pa_nil))))))) ?_
  obtain ⟨n, rfl, h⟩ := h
  simp only [cx_K, gcx_K, lcx_K, LenV, rLenU, tTruU, kTup, tFld, sFld, sFldAug, tMet, tMake, tBM, tDGet, tDGet1, tDGet2, sDPut, tRevL, iEnum, tAug, tAsg, mulV_int, iaddU_int, isubU_int, iaddU_str, tTupL, ex2eq, not_true_eq_false, not_false_eq_true, LamX.tLam, LamX.TTold, tSeq, tIf, tNext, tRet, tRetN, tIfS, tTest, tB, tNot, tAnd, tOr, tChain, tOp, tUn, tC, tVar, tCons, tNil, tTup, tLst, tAsg, gName, gTup, gCons, gNil, gSub, tDrop, tCallS, tCB, tM1, tM0, tBM, tBM0, tSl, tPar, tFor_eq, tLc_eq, intU_int, intU_bl, iList, iTup, iEnumT, tDNewK, rSlT, rSlL, iRng1, iRng2, iStr, tThen, tNever, L2.start, tRaiseFile, tMkFile, tYes, tPart, tNoPart, addA_int, addA_str, addU_int, addU_str, addU_ref, subU_int, mulU_int, mulU_ref, fdvU_int, modU_int, powU_int, ltU_int, leU_int, gtU_int, geU_int, eqU_int, eqU_str, eqU_bl, neU_int, neU_str, neU_bl, WE, TruV, List.map, List.length_cons, List.length_nil, List.replicate, List.append, List.getElem?_cons_zero, List.getElem?_cons_succ, List.set_cons_zero, List.set_cons_succ, List.cons_append, List.nil_append, Option.some.injEq, V.int.injEq, V.str.injEq, V.bl.injEq, V.ref.injEq, List.cons.injEq, exists_eq_left, exists_eq_right, and_true, true_and, and_self, exists_eq, exists_const, Bool.not_true, Bool.not_false, Bool.false_eq_true, if_true, if_false, reduceIte, decide_eq_true_eq, bne_iff_ne, exists_eq_left', exists_eq', exists_and_left, Bool.not_eq_true', decide_eq_false_iff_not, Nat.reduceSub, Nat.reduceAdd, reduceCtorEq, false_and, or_false, false_or, exists_false]
  have hp : CPow 10 18 := ⟨by decide, by decide, by decide⟩
  repeat' (first | split | exact ⟨sz 3, fun p hp => h p _ _ _ _ (Ex.new hp) upd_same⟩ | exact ⟨by decide, hp, sz 3, fun p hp => h p _ _ _ _ (Ex.new hp) upd_same⟩)
def spRoll (TL : List (Addr × Str)) (GT : List Addr) : Sp := fun vs H Q E => ∃ (a : Addr) (x y z many : Int), vs = [.ref a, .int many] ∧ H a = some (.lst [.int x, .int y, .int z]) ∧ 0 < many ∧ many ≤ 100000000 ∧
  ∀ r x' y' z' H', 0 ≤ r → r < many → Ex [a] TL GT H H' → H' a = some (.lst [.int x', .int y', .int z']) → Q (.int r) H'
theorem c_law_roll (T : KB.Txt P w K mg base CD CJ DE JE jm TL GT) : Cal P w K mg base 3 "_law_roll" (spRoll TL GT) := by
  obtain ⟨f, fd, c, D⟩ := T.d_roll
  refine D.ok (N := ["dice", "many", "found"]) (ps := ["dice", "many"]) ⟨rfl, rfl, rfl, by decide +kernel, rfl, by decide +kernel, by decide +kernel⟩ (fun vs H Q E h => by first | (obtain ⟨_, rfl, _⟩ := h; rfl) | (obtain ⟨_, _, rfl, _⟩ := h; rfl) | (obtain ⟨_, _, _, rfl, _⟩ := h; rfl) | (obtain ⟨_, _, _, _, rfl, _⟩ := h; rfl) | (obtain ⟨_, _, _, _, _, rfl, _⟩ := h; rfl) | (obtain ⟨_, _, _, _, _, _, rfl, _⟩ := h; rfl) | (obtain ⟨_, _, _, _, _, _, _, rfl, _⟩ := h; rfl) | (obtain ⟨_, _, _, _, _, _, _, _, rfl, _⟩ := h; rfl) | (obtain ⟨rfl, _⟩ := h; rfl)) (fun _ _ _ _ _ _ us hl => match us, hl with | [_, _], _ => rfl) (fun A outer s H vs Q E hr h => ?_)
  have nd : (["dice", "many", "found"] : List Str).Nodup := by decide
  refine mk_ex (pss_cons (ps_if (PW.pt (pw_or (pt_cmpR (opK (K := K) (r := rEqU) (opU_eq (roomEq hr)) rfl) (pe_ix (ixK (K := K) (r := rIx) ix_seq rfl) (pv 0) pe_int (fun _ _ => rfl)) pe_int (nomark _)) (pw_or1 (PW.pt (pw_and (pt_cmpR (opK (K := K) (r := rEqU) (opU_eq (roomEq hr)) rfl) (pe_ix (ixK (K := K) (r := rIx) ix_seq rfl) (pv 0) pe_int (fun _ _ => rfl)) pe_int (nomark _)) (pw_and1 (pt_cmpR opU_gt (pe_ix (ixK (K := K) (r := rIx) ix_seq rfl) (pv 0) pe_int (fun _ _ => rfl)) pe_int (nomark _)))))))) (pss_cons (ps_set (i := 2) nd rfl (Or.inl rfl) (pe_op opU_mod (pe_callTy call_intU rfl T.n_int rfl (by exact (pa_cons (pe_ix (ixK (K := K) (r := rIx) ix_seq rfl) (pv 0) pe_int (fun _ _ => rfl)) pa_nil))) (pv 1)))
    (pss_cons (ps_asg (pe_op opU_fdv (pe_ix (ixK (K := K) (r := rIx) ix_seq rfl) (pv 0) pe_int (fun _ _ => rfl)) (pv 1)) (pg_sub (pv 0) pe_int set_list))
    (pss_one (ps_ret (pv 2))))) pss_nil)
    (pss_cons (ps_asg pe_int (pg_sub (pv 0) pe_int set_list))
    (pss_cons (ps_if (pt_cmpR opU_gt (pv 1) pe_int (nomark _)) (pss_one ps_never) pss_nil)
    (pss_cons (ps_asg (pe_op opU_mod (pe_callTy call_intU rfl T.n_int rfl (by exact (pa_cons (pe_op (opK (K := K) (r := rAddU) opU_add rfl) (pe_op (opK (K := K) (r := rAddU) opU_add rfl) (pe_op (opK (K := K) (r := rMulV) opV_mul rfl) (pe_ix (ixK (K := K) (r := rIx) ix_seq rfl) (pv 0) pe_int (fun _ _ => rfl)) pe_int) (pe_op (opK (K := K) (r := rMulV) opV_mul rfl) (pe_ix (ixK (K := K) (r := rIx) ix_seq rfl) (pv 0) pe_int (fun _ _ => rfl)) pe_int)) pe_int) pa_nil))) pe_int) (pg_sub (pv 0) pe_int set_list))
    (pss_cons (ps_asg (pe_op (opK (K := K) (r := rAddU) opU_add rfl) (pe_ix (ixK (K := K) (r := rIx) ix_seq rfl) (pv 0) pe_int (fun _ _ => rfl)) pe_int) (pg_sub (pv 0) pe_int set_list))
    (pss_one (ps_ret (pe_op opU_mod (pe_callTy call_intU rfl T.n_int rfl (by exact (pa_cons (pe_op opU_fdv (pe_ix (ixK (K := K) (r := rIx) ix_seq rfl) (pv 0) pe_int (fun _ _ => rfl)) pe_int) pa_nil))) (pv 1))))))))) ?_
  obtain ⟨a, x, y, z, many, rfl, ha, h1, h2, h⟩ := h
  simp only [cx_K, gcx_K, lcx_K, LenV, rLenU, tTruU, kTup, tFld, sFld, sFldAug, tMet, tMake, tBM, tDGet, tDGet1, tDGet2, sDPut, tRevL, iEnum, tAug, tAsg, mulV_int, iaddU_int, isubU_int, iaddU_str, tTupL, ex2eq, not_true_eq_false, not_false_eq_true, LamX.tLam, LamX.TTold, tSeq, tIf, tNext, tRet, tRetN, tIfS, tTest, tB, tNot, tAnd, tOr, tChain, tOp, tUn, tC, tVar, tCons, tNil, tTup, tLst, tAsg, gName, gTup, gCons, gNil, gSub, tDrop, tCallS, tCB, tM1, tM0, tBM, tBM0, tSl, tPar, tFor_eq, tLc_eq, intU_int, intU_bl, iList, iTup, iEnumT, tDNewK, rSlT, rSlL, iRng1, iRng2, iStr, tThen, tNever, L2.start, tRaiseFile, tMkFile, tYes, tPart, tNoPart, addA_int, addA_str, addU_int, addU_str, addU_ref, subU_int, mulU_int, mulU_ref, fdvU_int, modU_int, powU_int, ltU_int, leU_int, gtU_int, geU_int, eqU_int, eqU_str, eqU_bl, neU_int, neU_str, neU_bl, WE, TruV, List.map, List.length_cons, List.length_nil, List.replicate, List.append, List.getElem?_cons_zero, List.getElem?_cons_succ, List.set_cons_zero, List.set_cons_succ, List.cons_append, List.nil_append, Option.some.injEq, V.int.injEq, V.str.injEq, V.bl.injEq, V.ref.injEq, List.cons.injEq, exists_eq_left, exists_eq_right, and_true, true_and, and_self, exists_eq, exists_const, Bool.not_true, Bool.not_false, Bool.false_eq_true, if_true, if_false, reduceIte, decide_eq_true_eq, bne_iff_ne, exists_eq_left', exists_eq', exists_and_left, Bool.not_eq_true', decide_eq_false_iff_not, Nat.reduceSub, Nat.reduceAdd, reduceCtorEq, false_and, or_false, false_or, exists_false]
  have hc : ∀ {i : Int}, CDiv i many := ⟨h1, by omega⟩
  have hfin : ∀ (r x' y' z' : Int) (H' : Hp), 0 ≤ r → r < many → Ex [a] TL GT H H' → H' a = some (.lst [.int x', .int y', .int z']) → Q (.int r) H' := fun r x' y' z' H' => h r x' y' z' H'
  have hput : ∀ {H1 : Hp} {l l' : List V}, H1 a = some (.lst l) → Ex [a] TL GT H1 (upd H1 a (.lst l')) := fun e => Ex.put (by simp) e rfl
  have hm0 : ∀ i : Int, 0 ≤ i % many := fun i => Int.emod_nonneg _ (by omega)
  have hm1 : ∀ i : Int, i % many < many := fun i => Int.emod_lt_of_pos _ h1
  have hA : rIx K (.ref a) (.int 0) H fun x H1 => rIntU [x] H1 fun x H1 => rModU x (.int many) H1 fun x H1 => rIx K (.ref a) (.int 0) H1 fun x1 H1 => rFdvU x1 (.int many) H1 fun x2 H1 => rSetL (.ref a) (.int 0) x2 H1 fun H3 => Q x H3 := by
    refine rIx_lst (lst_at ha) (by rfl) ?_; try simp only [cx_K, gcx_K, lcx_K, LenV, rLenU, tTruU, kTup, tFld, sFld, sFldAug, tMet, tMake, tBM, tDGet, tDGet1, tDGet2, sDPut, tRevL, iEnum, tAug, tAsg, mulV_int, iaddU_int, isubU_int, iaddU_str, tTupL, ex2eq, not_true_eq_false, not_false_eq_true, LamX.tLam, LamX.TTold, tSeq, tIf, tNext, tRet, tRetN, tIfS, tTest, tB, tNot, tAnd, tOr, tChain, tOp, tUn, tC, tVar, tCons, tNil, tTup, tLst, tAsg, gName, gTup, gCons, gNil, gSub, tDrop, tCallS, tCB, tM1, tM0, tBM, tBM0, tSl, tPar, tFor_eq, tLc_eq, intU_int, intU_bl, iList, iTup, iEnumT, tDNewK, rSlT, rSlL, iRng1, iRng2, iStr, tThen, tNever, L2.start, tRaiseFile, tMkFile, tYes, tPart, tNoPart, addA_int, addA_str, addU_int, addU_str, addU_ref, subU_int, mulU_int, mulU_ref, fdvU_int, modU_int, powU_int, ltU_int, leU_int, gtU_int, geU_int, eqU_int, eqU_str, eqU_bl, neU_int, neU_str, neU_bl, WE, TruV, List.map, List.length_cons, List.length_nil, List.replicate, List.append, List.getElem?_cons_zero, List.getElem?_cons_succ, List.set_cons_zero, List.set_cons_succ, List.cons_append, List.nil_append, Option.some.injEq, V.int.injEq, V.str.injEq, V.bl.injEq, V.ref.injEq, List.cons.injEq, exists_eq_left, exists_eq_right, and_true, true_and, and_self, exists_eq, exists_const, Bool.not_true, Bool.not_false, Bool.false_eq_true, if_true, if_false, reduceIte, decide_eq_true_eq, bne_iff_ne, exists_eq_left', exists_eq', exists_and_left, Bool.not_eq_true', decide_eq_false_iff_not, Nat.reduceSub, Nat.reduceAdd, reduceCtorEq, false_and, or_false, false_or, exists_false]
    refine ⟨h1, ?_⟩
    refine rIx_lst (lst_at ha) (by rfl) ?_; try simp only [cx_K, gcx_K, lcx_K, LenV, rLenU, tTruU, kTup, tFld, sFld, sFldAug, tMet, tMake, tBM, tDGet, tDGet1, tDGet2, sDPut, tRevL, iEnum, tAug, tAsg, mulV_int, iaddU_int, isubU_int, iaddU_str, tTupL, ex2eq, not_true_eq_false, not_false_eq_true, LamX.tLam, LamX.TTold, tSeq, tIf, tNext, tRet, tRetN, tIfS, tTest, tB, tNot, tAnd, tOr, tChain, tOp, tUn, tC, tVar, tCons, tNil, tTup, tLst, tAsg, gName, gTup, gCons, gNil, gSub, tDrop, tCallS, tCB, tM1, tM0, tBM, tBM0, tSl, tPar, tFor_eq, tLc_eq, intU_int, intU_bl, iList, iTup, iEnumT, tDNewK, rSlT, rSlL, iRng1, iRng2, iStr, tThen, tNever, L2.start, tRaiseFile, tMkFile, tYes, tPart, tNoPart, addA_int, addA_str, addU_int, addU_str, addU_ref, subU_int, mulU_int, mulU_ref, fdvU_int, modU_int, powU_int, ltU_int, leU_int, gtU_int, geU_int, eqU_int, eqU_str, eqU_bl, neU_int, neU_str, neU_bl, WE, TruV, List.map, List.length_cons, List.length_nil, List.replicate, List.append, List.getElem?_cons_zero, List.getElem?_cons_succ, List.set_cons_zero, List.set_cons_succ, List.cons_append, List.nil_append, Option.some.injEq, V.int.injEq, V.str.injEq, V.bl.injEq, V.ref.injEq, List.cons.injEq, exists_eq_left, exists_eq_right, and_true, true_and, and_self, exists_eq, exists_const, Bool.not_true, Bool.not_false, Bool.false_eq_true, if_true, if_false, reduceIte, decide_eq_true_eq, bne_iff_ne, exists_eq_left', exists_eq', exists_and_left, Bool.not_eq_true', decide_eq_false_iff_not, Nat.reduceSub, Nat.reduceAdd, reduceCtorEq, false_and, or_false, false_or, exists_false]
    refine ⟨hc, ?_⟩
    refine setL_at ha rfl (by rfl) ?_
    exact hfin _ _ _ _ _ (hm0 _) (hm1 _) (hput ha) upd_same
  have nb : ¬ (100000000 < many) := by omega
  refine rIx_lst (lst_at ha) (by rfl) ?_; try simp only [cx_K, gcx_K, lcx_K, LenV, rLenU, tTruU, kTup, tFld, sFld, sFldAug, tMet, tMake, tBM, tDGet, tDGet1, tDGet2, sDPut, tRevL, iEnum, tAug, tAsg, mulV_int, iaddU_int, isubU_int, iaddU_str, tTupL, ex2eq, not_true_eq_false, not_false_eq_true, LamX.tLam, LamX.TTold, tSeq, tIf, tNext, tRet, tRetN, tIfS, tTest, tB, tNot, tAnd, tOr, tChain, tOp, tUn, tC, tVar, tCons, tNil, tTup, tLst, tAsg, gName, gTup, gCons, gNil, gSub, tDrop, tCallS, tCB, tM1, tM0, tBM, tBM0, tSl, tPar, tFor_eq, tLc_eq, intU_int, intU_bl, iList, iTup, iEnumT, tDNewK, rSlT, rSlL, iRng1, iRng2, iStr, tThen, tNever, L2.start, tRaiseFile, tMkFile, tYes, tPart, tNoPart, addA_int, addA_str, addU_int, addU_str, addU_ref, subU_int, mulU_int, mulU_ref, fdvU_int, modU_int, powU_int, ltU_int, leU_int, gtU_int, geU_int, eqU_int, eqU_str, eqU_bl, neU_int, neU_str, neU_bl, WE, TruV, List.map, List.length_cons, List.length_nil, List.replicate, List.append, List.getElem?_cons_zero, List.getElem?_cons_succ, List.set_cons_zero, List.set_cons_succ, List.cons_append, List.nil_append, Option.some.injEq, V.int.injEq, V.str.injEq, V.bl.injEq, V.ref.injEq, List.cons.injEq, exists_eq_left, exists_eq_right, and_true, true_and, and_self, exists_eq, exists_const, Bool.not_true, Bool.not_false, Bool.false_eq_true, if_true, if_false, reduceIte, decide_eq_true_eq, bne_iff_ne, exists_eq_left', exists_eq', exists_and_left, Bool.not_eq_true', decide_eq_false_iff_not, Nat.reduceSub, Nat.reduceAdd, reduceCtorEq, false_and, or_false, false_or, exists_false]
  split
  · exact hA
  · refine rIx_lst (lst_at ha) (by rfl) ?_; try simp only [cx_K, gcx_K, lcx_K, LenV, rLenU, tTruU, kTup, tFld, sFld, sFldAug, tMet, tMake, tBM, tDGet, tDGet1, tDGet2, sDPut, tRevL, iEnum, tAug, tAsg, mulV_int, iaddU_int, isubU_int, iaddU_str, tTupL, ex2eq, not_true_eq_false, not_false_eq_true, LamX.tLam, LamX.TTold, tSeq, tIf, tNext, tRet, tRetN, tIfS, tTest, tB, tNot, tAnd, tOr, tChain, tOp, tUn, tC, tVar, tCons, tNil, tTup, tLst, tAsg, gName, gTup, gCons, gNil, gSub, tDrop, tCallS, tCB, tM1, tM0, tBM, tBM0, tSl, tPar, tFor_eq, tLc_eq, intU_int, intU_bl, iList, iTup, iEnumT, tDNewK, rSlT, rSlL, iRng1, iRng2, iStr, tThen, tNever, L2.start, tRaiseFile, tMkFile, tYes, tPart, tNoPart, addA_int, addA_str, addU_int, addU_str, addU_ref, subU_int, mulU_int, mulU_ref, fdvU_int, modU_int, powU_int, ltU_int, leU_int, gtU_int, geU_int, eqU_int, eqU_str, eqU_bl, neU_int, neU_str, neU_bl, WE, TruV, List.map, List.length_cons, List.length_nil, List.replicate, List.append, List.getElem?_cons_zero, List.getElem?_cons_succ, List.set_cons_zero, List.set_cons_succ, List.cons_append, List.nil_append, Option.some.injEq, V.int.injEq, V.str.injEq, V.bl.injEq, V.ref.injEq, List.cons.injEq, exists_eq_left, exists_eq_right, and_true, true_and, and_self, exists_eq, exists_const, Bool.not_true, Bool.not_false, Bool.false_eq_true, if_true, if_false, reduceIte, decide_eq_true_eq, bne_iff_ne, exists_eq_left', exists_eq', exists_and_left, Bool.not_eq_true', decide_eq_false_iff_not, Nat.reduceSub, Nat.reduceAdd, reduceCtorEq, false_and, or_false, false_or, exists_false]
    split
    · refine rIx_lst (lst_at ha) (by rfl) ?_; try simp only [cx_K, gcx_K, lcx_K, LenV, rLenU, tTruU, kTup, tFld, sFld, sFldAug, tMet, tMake, tBM, tDGet, tDGet1, tDGet2, sDPut, tRevL, iEnum, tAug, tAsg, mulV_int, iaddU_int, isubU_int, iaddU_str, tTupL, ex2eq, not_true_eq_false, not_false_eq_true, LamX.tLam, LamX.TTold, tSeq, tIf, tNext, tRet, tRetN, tIfS, tTest, tB, tNot, tAnd, tOr, tChain, tOp, tUn, tC, tVar, tCons, tNil, tTup, tLst, tAsg, gName, gTup, gCons, gNil, gSub, tDrop, tCallS, tCB, tM1, tM0, tBM, tBM0, tSl, tPar, tFor_eq, tLc_eq, intU_int, intU_bl, iList, iTup, iEnumT, tDNewK, rSlT, rSlL, iRng1, iRng2, iStr, tThen, tNever, L2.start, tRaiseFile, tMkFile, tYes, tPart, tNoPart, addA_int, addA_str, addU_int, addU_str, addU_ref, subU_int, mulU_int, mulU_ref, fdvU_int, modU_int, powU_int, ltU_int, leU_int, gtU_int, geU_int, eqU_int, eqU_str, eqU_bl, neU_int, neU_str, neU_bl, WE, TruV, List.map, List.length_cons, List.length_nil, List.replicate, List.append, List.getElem?_cons_zero, List.getElem?_cons_succ, List.set_cons_zero, List.set_cons_succ, List.cons_append, List.nil_append, Option.some.injEq, V.int.injEq, V.str.injEq, V.bl.injEq, V.ref.injEq, List.cons.injEq, exists_eq_left, exists_eq_right, and_true, true_and, and_self, exists_eq, exists_const, Bool.not_true, Bool.not_false, Bool.false_eq_true, if_true, if_false, reduceIte, decide_eq_true_eq, bne_iff_ne, exists_eq_left', exists_eq', exists_and_left, Bool.not_eq_true', decide_eq_false_iff_not, Nat.reduceSub, Nat.reduceAdd, reduceCtorEq, false_and, or_false, false_or, exists_false]
      split
      · exact hA
      · refine setL_at ha rfl (by rfl) ?_; try simp only [cx_K, gcx_K, lcx_K, LenV, rLenU, tTruU, kTup, tFld, sFld, sFldAug, tMet, tMake, tBM, tDGet, tDGet1, tDGet2, sDPut, tRevL, iEnum, tAug, tAsg, mulV_int, iaddU_int, isubU_int, iaddU_str, tTupL, ex2eq, not_true_eq_false, not_false_eq_true, LamX.tLam, LamX.TTold, tSeq, tIf, tNext, tRet, tRetN, tIfS, tTest, tB, tNot, tAnd, tOr, tChain, tOp, tUn, tC, tVar, tCons, tNil, tTup, tLst, tAsg, gName, gTup, gCons, gNil, gSub, tDrop, tCallS, tCB, tM1, tM0, tBM, tBM0, tSl, tPar, tFor_eq, tLc_eq, intU_int, intU_bl, iList, iTup, iEnumT, tDNewK, rSlT, rSlL, iRng1, iRng2, iStr, tThen, tNever, L2.start, tRaiseFile, tMkFile, tYes, tPart, tNoPart, addA_int, addA_str, addU_int, addU_str, addU_ref, subU_int, mulU_int, mulU_ref, fdvU_int, modU_int, powU_int, ltU_int, leU_int, gtU_int, geU_int, eqU_int, eqU_str, eqU_bl, neU_int, neU_str, neU_bl, WE, TruV, List.map, List.length_cons, List.length_nil, List.replicate, List.append, List.getElem?_cons_zero, List.getElem?_cons_succ, List.set_cons_zero, List.set_cons_succ, List.cons_append, List.nil_append, Option.some.injEq, V.int.injEq, V.str.injEq, V.bl.injEq, V.ref.injEq, List.cons.injEq, exists_eq_left, exists_eq_right, and_true, true_and, and_self, exists_eq, exists_const, Bool.not_true, Bool.not_false, Bool.false_eq_true, if_true, if_false, reduceIte, decide_eq_true_eq, bne_iff_ne, exists_eq_left', exists_eq', exists_and_left, Bool.not_eq_true', decide_eq_false_iff_not, Nat.reduceSub, Nat.reduceAdd, reduceCtorEq, false_and, or_false, false_or, exists_false]
        try rw [if_neg nb]
        refine rIx_lst (lst_at upd_same) (by rfl) ?_; try simp only [cx_K, gcx_K, lcx_K, LenV, rLenU, tTruU, kTup, tFld, sFld, sFldAug, tMet, tMake, tBM, tDGet, tDGet1, tDGet2, sDPut, tRevL, iEnum, tAug, tAsg, mulV_int, iaddU_int, isubU_int, iaddU_str, tTupL, ex2eq, not_true_eq_false, not_false_eq_true, LamX.tLam, LamX.TTold, tSeq, tIf, tNext, tRet, tRetN, tIfS, tTest, tB, tNot, tAnd, tOr, tChain, tOp, tUn, tC, tVar, tCons, tNil, tTup, tLst, tAsg, gName, gTup, gCons, gNil, gSub, tDrop, tCallS, tCB, tM1, tM0, tBM, tBM0, tSl, tPar, tFor_eq, tLc_eq, intU_int, intU_bl, iList, iTup, iEnumT, tDNewK, rSlT, rSlL, iRng1, iRng2, iStr, tThen, tNever, L2.start, tRaiseFile, tMkFile, tYes, tPart, tNoPart, addA_int, addA_str, addU_int, addU_str, addU_ref, subU_int, mulU_int, mulU_ref, fdvU_int, modU_int, powU_int, ltU_int, leU_int, gtU_int, geU_int, eqU_int, eqU_str, eqU_bl, neU_int, neU_str, neU_bl, WE, TruV, List.map, List.length_cons, List.length_nil, List.replicate, List.append, List.getElem?_cons_zero, List.getElem?_cons_succ, List.set_cons_zero, List.set_cons_succ, List.cons_append, List.nil_append, Option.some.injEq, V.int.injEq, V.str.injEq, V.bl.injEq, V.ref.injEq, List.cons.injEq, exists_eq_left, exists_eq_right, and_true, true_and, and_self, exists_eq, exists_const, Bool.not_true, Bool.not_false, Bool.false_eq_true, if_true, if_false, reduceIte, decide_eq_true_eq, bne_iff_ne, exists_eq_left', exists_eq', exists_and_left, Bool.not_eq_true', decide_eq_false_iff_not, Nat.reduceSub, Nat.reduceAdd, reduceCtorEq, false_and, or_false, false_or, exists_false]
        refine ⟨.inr (by decide), ?_⟩
        refine rIx_lst (lst_at upd_same) (by rfl) ?_; try simp only [cx_K, gcx_K, lcx_K, LenV, rLenU, tTruU, kTup, tFld, sFld, sFldAug, tMet, tMake, tBM, tDGet, tDGet1, tDGet2, sDPut, tRevL, iEnum, tAug, tAsg, mulV_int, iaddU_int, isubU_int, iaddU_str, tTupL, ex2eq, not_true_eq_false, not_false_eq_true, LamX.tLam, LamX.TTold, tSeq, tIf, tNext, tRet, tRetN, tIfS, tTest, tB, tNot, tAnd, tOr, tChain, tOp, tUn, tC, tVar, tCons, tNil, tTup, tLst, tAsg, gName, gTup, gCons, gNil, gSub, tDrop, tCallS, tCB, tM1, tM0, tBM, tBM0, tSl, tPar, tFor_eq, tLc_eq, intU_int, intU_bl, iList, iTup, iEnumT, tDNewK, rSlT, rSlL, iRng1, iRng2, iStr, tThen, tNever, L2.start, tRaiseFile, tMkFile, tYes, tPart, tNoPart, addA_int, addA_str, addU_int, addU_str, addU_ref, subU_int, mulU_int, mulU_ref, fdvU_int, modU_int, powU_int, ltU_int, leU_int, gtU_int, geU_int, eqU_int, eqU_str, eqU_bl, neU_int, neU_str, neU_bl, WE, TruV, List.map, List.length_cons, List.length_nil, List.replicate, List.append, List.getElem?_cons_zero, List.getElem?_cons_succ, List.set_cons_zero, List.set_cons_succ, List.cons_append, List.nil_append, Option.some.injEq, V.int.injEq, V.str.injEq, V.bl.injEq, V.ref.injEq, List.cons.injEq, exists_eq_left, exists_eq_right, and_true, true_and, and_self, exists_eq, exists_const, Bool.not_true, Bool.not_false, Bool.false_eq_true, if_true, if_false, reduceIte, decide_eq_true_eq, bne_iff_ne, exists_eq_left', exists_eq', exists_and_left, Bool.not_eq_true', decide_eq_false_iff_not, Nat.reduceSub, Nat.reduceAdd, reduceCtorEq, false_and, or_false, false_or, exists_false]
        refine ⟨.inr (by decide), by decide, ?_⟩
        refine setL_at upd_same rfl (by rfl) ?_; try simp only [cx_K, gcx_K, lcx_K, LenV, rLenU, tTruU, kTup, tFld, sFld, sFldAug, tMet, tMake, tBM, tDGet, tDGet1, tDGet2, sDPut, tRevL, iEnum, tAug, tAsg, mulV_int, iaddU_int, isubU_int, iaddU_str, tTupL, ex2eq, not_true_eq_false, not_false_eq_true, LamX.tLam, LamX.TTold, tSeq, tIf, tNext, tRet, tRetN, tIfS, tTest, tB, tNot, tAnd, tOr, tChain, tOp, tUn, tC, tVar, tCons, tNil, tTup, tLst, tAsg, gName, gTup, gCons, gNil, gSub, tDrop, tCallS, tCB, tM1, tM0, tBM, tBM0, tSl, tPar, tFor_eq, tLc_eq, intU_int, intU_bl, iList, iTup, iEnumT, tDNewK, rSlT, rSlL, iRng1, iRng2, iStr, tThen, tNever, L2.start, tRaiseFile, tMkFile, tYes, tPart, tNoPart, addA_int, addA_str, addU_int, addU_str, addU_ref, subU_int, mulU_int, mulU_ref, fdvU_int, modU_int, powU_int, ltU_int, leU_int, gtU_int, geU_int, eqU_int, eqU_str, eqU_bl, neU_int, neU_str, neU_bl, WE, TruV, List.map, List.length_cons, List.length_nil, List.replicate, List.append, List.getElem?_cons_zero, List.getElem?_cons_succ, List.set_cons_zero, List.set_cons_succ, List.cons_append, List.nil_append, Option.some.injEq, V.int.injEq, V.str.injEq, V.bl.injEq, V.ref.injEq, List.cons.injEq, exists_eq_left, exists_eq_right, and_true, true_and, and_self, exists_eq, exists_const, Bool.not_true, Bool.not_false, Bool.false_eq_true, if_true, if_false, reduceIte, decide_eq_true_eq, bne_iff_ne, exists_eq_left', exists_eq', exists_and_left, Bool.not_eq_true', decide_eq_false_iff_not, Nat.reduceSub, Nat.reduceAdd, reduceCtorEq, false_and, or_false, false_or, exists_false]
        refine rIx_lst (lst_at upd_same) (by rfl) ?_; try simp only [cx_K, gcx_K, lcx_K, LenV, rLenU, tTruU, kTup, tFld, sFld, sFldAug, tMet, tMake, tBM, tDGet, tDGet1, tDGet2, sDPut, tRevL, iEnum, tAug, tAsg, mulV_int, iaddU_int, isubU_int, iaddU_str, tTupL, ex2eq, not_true_eq_false, not_false_eq_true, LamX.tLam, LamX.TTold, tSeq, tIf, tNext, tRet, tRetN, tIfS, tTest, tB, tNot, tAnd, tOr, tChain, tOp, tUn, tC, tVar, tCons, tNil, tTup, tLst, tAsg, gName, gTup, gCons, gNil, gSub, tDrop, tCallS, tCB, tM1, tM0, tBM, tBM0, tSl, tPar, tFor_eq, tLc_eq, intU_int, intU_bl, iList, iTup, iEnumT, tDNewK, rSlT, rSlL, iRng1, iRng2, iStr, tThen, tNever, L2.start, tRaiseFile, tMkFile, tYes, tPart, tNoPart, addA_int, addA_str, addU_int, addU_str, addU_ref, subU_int, mulU_int, mulU_ref, fdvU_int, modU_int, powU_int, ltU_int, leU_int, gtU_int, geU_int, eqU_int, eqU_str, eqU_bl, neU_int, neU_str, neU_bl, WE, TruV, List.map, List.length_cons, List.length_nil, List.replicate, List.append, List.getElem?_cons_zero, List.getElem?_cons_succ, List.set_cons_zero, List.set_cons_succ, List.cons_append, List.nil_append, Option.some.injEq, V.int.injEq, V.str.injEq, V.bl.injEq, V.ref.injEq, List.cons.injEq, exists_eq_left, exists_eq_right, and_true, true_and, and_self, exists_eq, exists_const, Bool.not_true, Bool.not_false, Bool.false_eq_true, if_true, if_false, reduceIte, decide_eq_true_eq, bne_iff_ne, exists_eq_left', exists_eq', exists_and_left, Bool.not_eq_true', decide_eq_false_iff_not, Nat.reduceSub, Nat.reduceAdd, reduceCtorEq, false_and, or_false, false_or, exists_false]
        refine setL_at upd_same rfl (by rfl) ?_; try simp only [cx_K, gcx_K, lcx_K, LenV, rLenU, tTruU, kTup, tFld, sFld, sFldAug, tMet, tMake, tBM, tDGet, tDGet1, tDGet2, sDPut, tRevL, iEnum, tAug, tAsg, mulV_int, iaddU_int, isubU_int, iaddU_str, tTupL, ex2eq, not_true_eq_false, not_false_eq_true, LamX.tLam, LamX.TTold, tSeq, tIf, tNext, tRet, tRetN, tIfS, tTest, tB, tNot, tAnd, tOr, tChain, tOp, tUn, tC, tVar, tCons, tNil, tTup, tLst, tAsg, gName, gTup, gCons, gNil, gSub, tDrop, tCallS, tCB, tM1, tM0, tBM, tBM0, tSl, tPar, tFor_eq, tLc_eq, intU_int, intU_bl, iList, iTup, iEnumT, tDNewK, rSlT, rSlL, iRng1, iRng2, iStr, tThen, tNever, L2.start, tRaiseFile, tMkFile, tYes, tPart, tNoPart, addA_int, addA_str, addU_int, addU_str, addU_ref, subU_int, mulU_int, mulU_ref, fdvU_int, modU_int, powU_int, ltU_int, leU_int, gtU_int, geU_int, eqU_int, eqU_str, eqU_bl, neU_int, neU_str, neU_bl, WE, TruV, List.map, List.length_cons, List.length_nil, List.replicate, List.append, List.getElem?_cons_zero, List.getElem?_cons_succ, List.set_cons_zero, List.set_cons_succ, List.cons_append, List.nil_append, Option.some.injEq, V.int.injEq, V.str.injEq, V.bl.injEq, V.ref.injEq, List.cons.injEq, exists_eq_left, exists_eq_right, and_true, true_and, and_self, exists_eq, exists_const, Bool.not_true, Bool.not_false, Bool.false_eq_true, if_true, if_false, reduceIte, decide_eq_true_eq, bne_iff_ne, exists_eq_left', exists_eq', exists_and_left, Bool.not_eq_true', decide_eq_false_iff_not, Nat.reduceSub, Nat.reduceAdd, reduceCtorEq, false_and, or_false, false_or, exists_false]
        refine rIx_lst (lst_at upd_same) (by rfl) ?_; try simp only [cx_K, gcx_K, lcx_K, LenV, rLenU, tTruU, kTup, tFld, sFld, sFldAug, tMet, tMake, tBM, tDGet, tDGet1, tDGet2, sDPut, tRevL, iEnum, tAug, tAsg, mulV_int, iaddU_int, isubU_int, iaddU_str, tTupL, ex2eq, not_true_eq_false, not_false_eq_true, LamX.tLam, LamX.TTold, tSeq, tIf, tNext, tRet, tRetN, tIfS, tTest, tB, tNot, tAnd, tOr, tChain, tOp, tUn, tC, tVar, tCons, tNil, tTup, tLst, tAsg, gName, gTup, gCons, gNil, gSub, tDrop, tCallS, tCB, tM1, tM0, tBM, tBM0, tSl, tPar, tFor_eq, tLc_eq, intU_int, intU_bl, iList, iTup, iEnumT, tDNewK, rSlT, rSlL, iRng1, iRng2, iStr, tThen, tNever, L2.start, tRaiseFile, tMkFile, tYes, tPart, tNoPart, addA_int, addA_str, addU_int, addU_str, addU_ref, subU_int, mulU_int, mulU_ref, fdvU_int, modU_int, powU_int, ltU_int, leU_int, gtU_int, geU_int, eqU_int, eqU_str, eqU_bl, neU_int, neU_str, neU_bl, WE, TruV, List.map, List.length_cons, List.length_nil, List.replicate, List.append, List.getElem?_cons_zero, List.getElem?_cons_succ, List.set_cons_zero, List.set_cons_succ, List.cons_append, List.nil_append, Option.some.injEq, V.int.injEq, V.str.injEq, V.bl.injEq, V.ref.injEq, List.cons.injEq, exists_eq_left, exists_eq_right, and_true, true_and, and_self, exists_eq, exists_const, Bool.not_true, Bool.not_false, Bool.false_eq_true, if_true, if_false, reduceIte, decide_eq_true_eq, bne_iff_ne, exists_eq_left', exists_eq', exists_and_left, Bool.not_eq_true', decide_eq_false_iff_not, Nat.reduceSub, Nat.reduceAdd, reduceCtorEq, false_and, or_false, false_or, exists_false]
        exact ⟨⟨by decide, by decide⟩, h1, hfin _ _ _ _ _ (hm0 _) (hm1 _) (((hput ha).trans (hput upd_same)).trans (hput upd_same)) upd_same⟩
    · refine setL_at ha rfl (by rfl) ?_; try simp only [cx_K, gcx_K, lcx_K, LenV, rLenU, tTruU, kTup, tFld, sFld, sFldAug, tMet, tMake, tBM, tDGet, tDGet1, tDGet2, sDPut, tRevL, iEnum, tAug, tAsg, mulV_int, iaddU_int, isubU_int, iaddU_str, tTupL, ex2eq, not_true_eq_false, not_false_eq_true, LamX.tLam, LamX.TTold, tSeq, tIf, tNext, tRet, tRetN, tIfS, tTest, tB, tNot, tAnd, tOr, tChain, tOp, tUn, tC, tVar, tCons, tNil, tTup, tLst, tAsg, gName, gTup, gCons, gNil, gSub, tDrop, tCallS, tCB, tM1, tM0, tBM, tBM0, tSl, tPar, tFor_eq, tLc_eq, intU_int, intU_bl, iList, iTup, iEnumT, tDNewK, rSlT, rSlL, iRng1, iRng2, iStr, tThen, tNever, L2.start, tRaiseFile, tMkFile, tYes, tPart, tNoPart, addA_int, addA_str, addU_int, addU_str, addU_ref, subU_int, mulU_int, mulU_ref, fdvU_int, modU_int, powU_int, ltU_int, leU_int, gtU_int, geU_int, eqU_int, eqU_str, eqU_bl, neU_int, neU_str, neU_bl, WE, TruV, List.map, List.length_cons, List.length_nil, List.replicate, List.append, List.getElem?_cons_zero, List.getElem?_cons_succ, List.set_cons_zero, List.set_cons_succ, List.cons_append, List.nil_append, Option.some.injEq, V.int.injEq, V.str.injEq, V.bl.injEq, V.ref.injEq, List.cons.injEq, exists_eq_left, exists_eq_right, and_true, true_and, and_self, exists_eq, exists_const, Bool.not_true, Bool.not_false, Bool.false_eq_true, if_true, if_false, reduceIte, decide_eq_true_eq, bne_iff_ne, exists_eq_left', exists_eq', exists_and_left, Bool.not_eq_true', decide_eq_false_iff_not, Nat.reduceSub, Nat.reduceAdd, reduceCtorEq, false_and, or_false, false_or, exists_false]
      try rw [if_neg nb]
      refine rIx_lst (lst_at upd_same) (by rfl) ?_; try simp only [cx_K, gcx_K, lcx_K, LenV, rLenU, tTruU, kTup, tFld, sFld, sFldAug, tMet, tMake, tBM, tDGet, tDGet1, tDGet2, sDPut, tRevL, iEnum, tAug, tAsg, mulV_int, iaddU_int, isubU_int, iaddU_str, tTupL, ex2eq, not_true_eq_false, not_false_eq_true, LamX.tLam, LamX.TTold, tSeq, tIf, tNext, tRet, tRetN, tIfS, tTest, tB, tNot, tAnd, tOr, tChain, tOp, tUn, tC, tVar, tCons, tNil, tTup, tLst, tAsg, gName, gTup, gCons, gNil, gSub, tDrop, tCallS, tCB, tM1, tM0, tBM, tBM0, tSl, tPar, tFor_eq, tLc_eq, intU_int, intU_bl, iList, iTup, iEnumT, tDNewK, rSlT, rSlL, iRng1, iRng2, iStr, tThen, tNever, L2.start, tRaiseFile, tMkFile, tYes, tPart, tNoPart, addA_int, addA_str, addU_int, addU_str, addU_ref, subU_int, mulU_int, mulU_ref, fdvU_int, modU_int, powU_int, ltU_int, leU_int, gtU_int, geU_int, eqU_int, eqU_str, eqU_bl, neU_int, neU_str, neU_bl, WE, TruV, List.map, List.length_cons, List.length_nil, List.replicate, List.append, List.getElem?_cons_zero, List.getElem?_cons_succ, List.set_cons_zero, List.set_cons_succ, List.cons_append, List.nil_append, Option.some.injEq, V.int.injEq, V.str.injEq, V.bl.injEq, V.ref.injEq, List.cons.injEq, exists_eq_left, exists_eq_right, and_true, true_and, and_self, exists_eq, exists_const, Bool.not_true, Bool.not_false, Bool.false_eq_true, if_true, if_false, reduceIte, decide_eq_true_eq, bne_iff_ne, exists_eq_left', exists_eq', exists_and_left, Bool.not_eq_true', decide_eq_false_iff_not, Nat.reduceSub, Nat.reduceAdd, reduceCtorEq, false_and, or_false, false_or, exists_false]
      refine ⟨.inr (by decide), ?_⟩
      refine rIx_lst (lst_at upd_same) (by rfl) ?_; try simp only [cx_K, gcx_K, lcx_K, LenV, rLenU, tTruU, kTup, tFld, sFld, sFldAug, tMet, tMake, tBM, tDGet, tDGet1, tDGet2, sDPut, tRevL, iEnum, tAug, tAsg, mulV_int, iaddU_int, isubU_int, iaddU_str, tTupL, ex2eq, not_true_eq_false, not_false_eq_true, LamX.tLam, LamX.TTold, tSeq, tIf, tNext, tRet, tRetN, tIfS, tTest, tB, tNot, tAnd, tOr, tChain, tOp, tUn, tC, tVar, tCons, tNil, tTup, tLst, tAsg, gName, gTup, gCons, gNil, gSub, tDrop, tCallS, tCB, tM1, tM0, tBM, tBM0, tSl, tPar, tFor_eq, tLc_eq, intU_int, intU_bl, iList, iTup, iEnumT, tDNewK, rSlT, rSlL, iRng1, iRng2, iStr, tThen, tNever, L2.start, tRaiseFile, tMkFile, tYes, tPart, tNoPart, addA_int, addA_str, addU_int, addU_str, addU_ref, subU_int, mulU_int, mulU_ref, fdvU_int, modU_int, powU_int, ltU_int, leU_int, gtU_int, geU_int, eqU_int, eqU_str, eqU_bl, neU_int, neU_str, neU_bl, WE, TruV, List.map, List.length_cons, List.length_nil, List.replicate, List.append, List.getElem?_cons_zero, List.getElem?_cons_succ, List.set_cons_zero, List.set_cons_succ, List.cons_append, List.nil_append, Option.some.injEq, V.int.injEq, V.str.injEq, V.bl.injEq, V.ref.injEq, List.cons.injEq, exists_eq_left, exists_eq_right, and_true, true_and, and_self, exists_eq, exists_const, Bool.not_true, Bool.not_false, Bool.false_eq_true, if_true, if_false, reduceIte, decide_eq_true_eq, bne_iff_ne, exists_eq_left', exists_eq', exists_and_left, Bool.not_eq_true', decide_eq_false_iff_not, Nat.reduceSub, Nat.reduceAdd, reduceCtorEq, false_and, or_false, false_or, exists_false]
      refine ⟨.inr (by decide), by decide, ?_⟩
      refine setL_at upd_same rfl (by rfl) ?_; try simp only [cx_K, gcx_K, lcx_K, LenV, rLenU, tTruU, kTup, tFld, sFld, sFldAug, tMet, tMake, tBM, tDGet, tDGet1, tDGet2, sDPut, tRevL, iEnum, tAug, tAsg, mulV_int, iaddU_int, isubU_int, iaddU_str, tTupL, ex2eq, not_true_eq_false, not_false_eq_true, LamX.tLam, LamX.TTold, tSeq, tIf, tNext, tRet, tRetN, tIfS, tTest, tB, tNot, tAnd, tOr, tChain, tOp, tUn, tC, tVar, tCons, tNil, tTup, tLst, tAsg, gName, gTup, gCons, gNil, gSub, tDrop, tCallS, tCB, tM1, tM0, tBM, tBM0, tSl, tPar, tFor_eq, tLc_eq, intU_int, intU_bl, iList, iTup, iEnumT, tDNewK, rSlT, rSlL, iRng1, iRng2, iStr, tThen, tNever, L2.start, tRaiseFile, tMkFile, tYes, tPart, tNoPart, addA_int, addA_str, addU_int, addU_str, addU_ref, subU_int, mulU_int, mulU_ref, fdvU_int, modU_int, powU_int, ltU_int, leU_int, gtU_int, geU_int, eqU_int, eqU_str, eqU_bl, neU_int, neU_str, neU_bl, WE, TruV, List.map, List.length_cons, List.length_nil, List.replicate, List.append, List.getElem?_cons_zero, List.getElem?_cons_succ, List.set_cons_zero, List.set_cons_succ, List.cons_append, List.nil_append, Option.some.injEq, V.int.injEq, V.str.injEq, V.bl.injEq, V.ref.injEq, List.cons.injEq, exists_eq_left, exists_eq_right, and_true, true_and, and_self, exists_eq, exists_const, Bool.not_true, Bool.not_false, Bool.false_eq_true, if_true, if_false, reduceIte, decide_eq_true_eq, bne_iff_ne, exists_eq_left', exists_eq', exists_and_left, Bool.not_eq_true', decide_eq_false_iff_not, Nat.reduceSub, Nat.reduceAdd, reduceCtorEq, false_and, or_false, false_or, exists_false]
      refine rIx_lst (lst_at upd_same) (by rfl) ?_; try simp only [cx_K, gcx_K, lcx_K, LenV, rLenU, tTruU, kTup, tFld, sFld, sFldAug, tMet, tMake, tBM, tDGet, tDGet1, tDGet2, sDPut, tRevL, iEnum, tAug, tAsg, mulV_int, iaddU_int, isubU_int, iaddU_str, tTupL, ex2eq, not_true_eq_false, not_false_eq_true, LamX.tLam, LamX.TTold, tSeq, tIf, tNext, tRet, tRetN, tIfS, tTest, tB, tNot, tAnd, tOr, tChain, tOp, tUn, tC, tVar, tCons, tNil, tTup, tLst, tAsg, gName, gTup, gCons, gNil, gSub, tDrop, tCallS, tCB, tM1, tM0, tBM, tBM0, tSl, tPar, tFor_eq, tLc_eq, intU_int, intU_bl, iList, iTup, iEnumT, tDNewK, rSlT, rSlL, iRng1, iRng2, iStr, tThen, tNever, L2.start, tRaiseFile, tMkFile, tYes, tPart, tNoPart, addA_int, addA_str, addU_int, addU_str, addU_ref, subU_int, mulU_int, mulU_ref, fdvU_int, modU_int, powU_int, ltU_int, leU_int, gtU_int, geU_int, eqU_int, eqU_str, eqU_bl, neU_int, neU_str, neU_bl, WE, TruV, List.map, List.length_cons, List.length_nil, List.replicate, List.append, List.getElem?_cons_zero, List.getElem?_cons_succ, List.set_cons_zero, List.set_cons_succ, List.cons_append, List.nil_append, Option.some.injEq, V.int.injEq, V.str.injEq, V.bl.injEq, V.ref.injEq, List.cons.injEq, exists_eq_left, exists_eq_right, and_true, true_and, and_self, exists_eq, exists_const, Bool.not_true, Bool.not_false, Bool.false_eq_true, if_true, if_false, reduceIte, decide_eq_true_eq, bne_iff_ne, exists_eq_left', exists_eq', exists_and_left, Bool.not_eq_true', decide_eq_false_iff_not, Nat.reduceSub, Nat.reduceAdd, reduceCtorEq, false_and, or_false, false_or, exists_false]
      refine setL_at upd_same rfl (by rfl) ?_; try simp only [cx_K, gcx_K, lcx_K, LenV, rLenU, tTruU, kTup, tFld, sFld, sFldAug, tMet, tMake, tBM, tDGet, tDGet1, tDGet2, sDPut, tRevL, iEnum, tAug, tAsg, mulV_int, iaddU_int, isubU_int, iaddU_str, tTupL, ex2eq, not_true_eq_false, not_false_eq_true, LamX.tLam, LamX.TTold, tSeq, tIf, tNext, tRet, tRetN, tIfS, tTest, tB, tNot, tAnd, tOr, tChain, tOp, tUn, tC, tVar, tCons, tNil, tTup, tLst, tAsg, gName, gTup, gCons, gNil, gSub, tDrop, tCallS, tCB, tM1, tM0, tBM, tBM0, tSl, tPar, tFor_eq, tLc_eq, intU_int, intU_bl, iList, iTup, iEnumT, tDNewK, rSlT, rSlL, iRng1, iRng2, iStr, tThen, tNever, L2.start, tRaiseFile, tMkFile, tYes, tPart, tNoPart, addA_int, addA_str, addU_int, addU_str, addU_ref, subU_int, mulU_int, mulU_ref, fdvU_int, modU_int, powU_int, ltU_int, leU_int, gtU_int, geU_int, eqU_int, eqU_str, eqU_bl, neU_int, neU_str, neU_bl, WE, TruV, List.map, List.length_cons, List.length_nil, List.replicate, List.append, List.getElem?_cons_zero, List.getElem?_cons_succ, List.set_cons_zero, List.set_cons_succ, List.cons_append, List.nil_append, Option.some.injEq, V.int.injEq, V.str.injEq, V.bl.injEq, V.ref.injEq, List.cons.injEq, exists_eq_left, exists_eq_right, and_true, true_and, and_self, exists_eq, exists_const, Bool.not_true, Bool.not_false, Bool.false_eq_true, if_true, if_false, reduceIte, decide_eq_true_eq, bne_iff_ne, exists_eq_left', exists_eq', exists_and_left, Bool.not_eq_true', decide_eq_false_iff_not, Nat.reduceSub, Nat.reduceAdd, reduceCtorEq, false_and, or_false, false_or, exists_false]
      refine rIx_lst (lst_at upd_same) (by rfl) ?_; try simp only [cx_K, gcx_K, lcx_K, LenV, rLenU, tTruU, kTup, tFld, sFld, sFldAug, tMet, tMake, tBM, tDGet, tDGet1, tDGet2, sDPut, tRevL, iEnum, tAug, tAsg, mulV_int, iaddU_int, isubU_int, iaddU_str, tTupL, ex2eq, not_true_eq_false, not_false_eq_true, LamX.tLam, LamX.TTold, tSeq, tIf, tNext, tRet, tRetN, tIfS, tTest, tB, tNot, tAnd, tOr, tChain, tOp, tUn, tC, tVar, tCons, tNil, tTup, tLst, tAsg, gName, gTup, gCons, gNil, gSub, tDrop, tCallS, tCB, tM1, tM0, tBM, tBM0, tSl, tPar, tFor_eq, tLc_eq, intU_int, intU_bl, iList, iTup, iEnumT, tDNewK, rSlT, rSlL, iRng1, iRng2, iStr, tThen, tNever, L2.start, tRaiseFile, tMkFile, tYes, tPart, tNoPart, addA_int, addA_str, addU_int, addU_str, addU_ref, subU_int, mulU_int, mulU_ref, fdvU_int, modU_int, powU_int, ltU_int, leU_int, gtU_int, geU_int, eqU_int, eqU_str, eqU_bl, neU_int, neU_str, neU_bl, WE, TruV, List.map, List.length_cons, List.length_nil, List.replicate, List.append, List.getElem?_cons_zero, List.getElem?_cons_succ, List.set_cons_zero, List.set_cons_succ, List.cons_append, List.nil_append, Option.some.injEq, V.int.injEq, V.str.injEq, V.bl.injEq, V.ref.injEq, List.cons.injEq, exists_eq_left, exists_eq_right, and_true, true_and, and_self, exists_eq, exists_const, Bool.not_true, Bool.not_false, Bool.false_eq_true, if_true, if_false, reduceIte, decide_eq_true_eq, bne_iff_ne, exists_eq_left', exists_eq', exists_and_left, Bool.not_eq_true', decide_eq_false_iff_not, Nat.reduceSub, Nat.reduceAdd, reduceCtorEq, false_and, or_false, false_or, exists_false]
      exact ⟨⟨by decide, by decide⟩, h1, hfin _ _ _ _ _ (hm0 _) (hm1 _) (((hput ha).trans (hput upd_same)).trans (hput upd_same)) upd_same⟩
def spRounds (K : PySem.W.Frag) (TL : List (Addr × Str)) (GT : List Addr) : Sp := fun vs H Q E => ∃ (p : Addr) (ns : List Int), vs = [.ref p, .int 1] ∧ SqL K H p (ns.map V.int) ∧
  ∀ q r x y z H', Ex [] TL GT H H' → H' q = some (.lst [.ref r]) → H' r = some (.lst [.int x, .int y, .int z]) → Q (.ref q) H'
theorem c_law_rounds (T : KB.Txt P w K mg base CD CJ DE JE jm TL GT) : Cal P w K mg base 5 "_law_rounds" (spRounds K TL GT) := by
  have c_law_dice := c_law_dice T
  obtain ⟨f, fd, c, D⟩ := T.d_rounds
  refine D.ok (N := ["script", "most", "cells", "cell"]) (ps := ["script", "most"]) ⟨rfl, rfl, rfl, by decide +kernel, rfl, by decide +kernel, by decide +kernel⟩ (fun vs H Q E h => by first | (obtain ⟨_, rfl, _⟩ := h; rfl) | (obtain ⟨_, _, rfl, _⟩ := h; rfl) | (obtain ⟨_, _, _, rfl, _⟩ := h; rfl) | (obtain ⟨_, _, _, _, rfl, _⟩ := h; rfl) | (obtain ⟨_, _, _, _, _, rfl, _⟩ := h; rfl) | (obtain ⟨_, _, _, _, _, _, rfl, _⟩ := h; rfl) | (obtain ⟨_, _, _, _, _, _, _, rfl, _⟩ := h; rfl) | (obtain ⟨_, _, _, _, _, _, _, _, rfl, _⟩ := h; rfl) | (obtain ⟨rfl, _⟩ := h; rfl)) (fun _ _ _ _ _ _ us hl => match us, hl with | [_, _], _ => rfl) (fun A outer s H vs Q E hr h => ?_)
  have nd : (["script", "most", "cells", "cell"] : List Str).Nodup := by decide
  refine mk_ex (pss_cons (ps_set (i := 2) nd rfl (Or.inl rfl) (pe_slice (slK (K := K) (r := rSlL) sl_list rfl) (pv 0) po_none (po_some (pv 1))))
    (pss_cons (ps_if (pt_cmpR (opK (K := K) (r := rEqU) (opU_eq (roomEq hr)) rfl) (pv 2) (pe_lst pa_nil) (nomark _)) (pss_one (ps_set (i := 2) nd rfl (Or.inl rfl) (pe_lst (pa_cons pe_int pa_nil)))) pss_nil)
    (pss_one (ps_ret (pe_lc rfl nd (ilK (K := K) rfl (pi_list (pv 2))) (show BlkOk ["script", "most", "cells", "cell"] (defScope (top 20)) _ [("cell", 3)] from blkOk_by (by decide +kernel)) (fun s H C cl fp => (pg_name (i := 3) nd rfl (Or.inl rfl))) (fun s H C cl fp => pts_nil) (fun s H C cl fp => (GX.pe_call c_law_dice (hr.mono (by decide)) takes0 (by exact (pa_cons (pv 3) pa_nil))))))))) ?_
  obtain ⟨p, ns, rfl, hs, h⟩ := h
  simp only [cx_K, gcx_K, lcx_K, LenV, rLenU, tTruU, kTup, tFld, sFld, sFldAug, tMet, tMake, tBM, tDGet, tDGet1, tDGet2, sDPut, tRevL, iEnum, tAug, tAsg, mulV_int, iaddU_int, isubU_int, iaddU_str, tTupL, ex2eq, not_true_eq_false, not_false_eq_true, LamX.tLam, LamX.TTold, tSeq, tIf, tNext, tRet, tRetN, tIfS, tTest, tB, tNot, tAnd, tOr, tChain, tOp, tUn, tC, tVar, tCons, tNil, tTup, tLst, tAsg, gName, gTup, gCons, gNil, gSub, tDrop, tCallS, tCB, tM1, tM0, tBM, tBM0, tSl, tPar, tFor_eq, tLc_eq, intU_int, intU_bl, iList, iTup, iEnumT, tDNewK, rSlT, rSlL, iRng1, iRng2, iStr, tThen, tNever, L2.start, tRaiseFile, tMkFile, tYes, tPart, tNoPart, addA_int, addA_str, addU_int, addU_str, addU_ref, subU_int, mulU_int, mulU_ref, fdvU_int, modU_int, powU_int, ltU_int, leU_int, gtU_int, geU_int, eqU_int, eqU_str, eqU_bl, neU_int, neU_str, neU_bl, WE, TruV, List.map, List.length_cons, List.length_nil, List.replicate, List.append, List.getElem?_cons_zero, List.getElem?_cons_succ, List.set_cons_zero, List.set_cons_succ, List.cons_append, List.nil_append, Option.some.injEq, V.int.injEq, V.str.injEq, V.bl.injEq, V.ref.injEq, List.cons.injEq, exists_eq_left, exists_eq_right, and_true, true_and, and_self, exists_eq, exists_const, Bool.not_true, Bool.not_false, Bool.false_eq_true, if_true, if_false, reduceIte, decide_eq_true_eq, bne_iff_ne, exists_eq_left', exists_eq', exists_and_left, Bool.not_eq_true', decide_eq_false_iff_not, Nat.reduceSub, Nat.reduceAdd, reduceCtorEq, false_and, or_false, false_or, exists_false]
  have hL : ∀ (H0 : Hp) (a D : Addr) (n : Int) (σ : L2.St), Ex [] TL GT H H0 → SqL K H0 a [V.int n] → H0 D = none → (∃ v0 v1 v2 v3, σ = [v0, v1, v2, v3]) →
      LcLoop (gName 3) tYes (tCallS (spDice TL GT) (WE fun _ _ _ _ => False) (tCons (tVar 3) tNil)) [3] (Itl K a) σ H0 D (Q (.ref D)) := by
    rintro H0 a D n σ e0 ha hD ⟨v0, v1, v2, v3, rfl⟩
    refine lcl_list (xs := [V.int n]) (fun i H' => Ex [] TL GT H0 H' ∧ (i = 0 → H' D = some (.lst [])) ∧ (i = 1 → ∃ r x y z, H' D = some (.lst [.ref r]) ∧ H' r = some (.lst [.int x, .int y, .int z]))) ⟨Ex.new hD, fun _ => upd_same, by simp⟩ (fun i H' _ e => e.1.sql (by simp) ha) ?_ ?_
    · rintro i x H' hx ⟨e, k0, k1⟩
      match i, hx with
      | 0, hx =>
        obtain rfl : V.int n = x := Option.some.inj hx
        simp only [cx_K, gcx_K, lcx_K, LenV, rLenU, tTruU, kTup, tFld, sFld, sFldAug, tMet, tMake, tBM, tDGet, tDGet1, tDGet2, sDPut, tRevL, iEnum, tAug, tAsg, mulV_int, iaddU_int, isubU_int, iaddU_str, tTupL, ex2eq, not_true_eq_false, not_false_eq_true, LamX.tLam, LamX.TTold, tSeq, tIf, tNext, tRet, tRetN, tIfS, tTest, tB, tNot, tAnd, tOr, tChain, tOp, tUn, tC, tVar, tCons, tNil, tTup, tLst, tAsg, gName, gTup, gCons, gNil, gSub, tDrop, tCallS, tCB, tM1, tM0, tBM, tBM0, tSl, tPar, tFor_eq, tLc_eq, intU_int, intU_bl, iList, iTup, iEnumT, tDNewK, rSlT, rSlL, iRng1, iRng2, iStr, tThen, tNever, L2.start, tRaiseFile, tMkFile, tYes, tPart, tNoPart, addA_int, addA_str, addU_int, addU_str, addU_ref, subU_int, mulU_int, mulU_ref, fdvU_int, modU_int, powU_int, ltU_int, leU_int, gtU_int, geU_int, eqU_int, eqU_str, eqU_bl, neU_int, neU_str, neU_bl, WE, TruV, List.map, List.length_cons, List.length_nil, List.replicate, List.append, List.getElem?_cons_zero, List.getElem?_cons_succ, List.set_cons_zero, List.set_cons_succ, List.cons_append, List.nil_append, Option.some.injEq, V.int.injEq, V.str.injEq, V.bl.injEq, V.ref.injEq, List.cons.injEq, exists_eq_left, exists_eq_right, and_true, true_and, and_self, exists_eq, exists_const, Bool.not_true, Bool.not_false, Bool.false_eq_true, if_true, if_false, reduceIte, decide_eq_true_eq, bne_iff_ne, exists_eq_left', exists_eq', exists_and_left, Bool.not_eq_true', decide_eq_false_iff_not, Nat.reduceSub, Nat.reduceAdd, reduceCtorEq, false_and, or_false, false_or, exists_false, wipe]
        refine ⟨n, rfl, fun q x y z H2 e2 h2 => ⟨_, e2.lst (by simp) (k0 rfl), by rw [sizeLine_eq]; decide, (e.trans e2).overL hD (e2.lst (by simp) (k0 rfl)), by simp, fun _ => ⟨q, upd_same, x, y, z, ?_⟩⟩⟩
        have nd : q ≠ D := fun z => by
          have w := e2.lst (by simp) (k0 rfl)
          rw [← z, h2] at w
          cases w
        rw [upd_ne nd]
        exact h2
    · rintro H' ⟨e, k0, k1⟩
      obtain ⟨r, x, y, z, h1, h2⟩ := k1 rfl
      exact h D r x y z H' (e0.trans e) h1 h2
  match ns, hs with
  | [], hs =>
    refine ⟨[], hs, fun q hq => ?_⟩
    have eq1 : Ex [] TL GT H (upd H q (.lst [])) := Ex.new hq
    refine ⟨sz 0, fun q2 hq2 => ?_⟩
    rw [eqU_ref]
    refine ⟨.list [], .list [], .lst ((Ex.new (A := []) (TL := TL) (GT := GT) hq2).sql (by simp) (lst_at upd_same)) .nil, .lst (lst_at upd_same) .nil, rfl, rfl, true, rfl, ?_⟩
    refine ⟨sz 1, fun q3 hq3 => ⟨⟨_, lst_at upd_same⟩, fun D hD => hL _ _ _ 0 _ ((eq1.trans (Ex.new hq2)).trans (Ex.new hq3)) (lst_at upd_same) hD ⟨_, _, _, _, rfl⟩⟩⟩
  | n :: ns, hs =>
    refine ⟨_, hs, fun q hq => ?_⟩
    have ec : cutV (List.map V.int (n :: ns)) none (some 1) = [V.int n] := by
      have e0 : (List.map V.int (n :: ns)).length = ns.length + 1 := by simp
      unfold cutV
      rw [e0]
      show List.take (min (1 : Int).toNat (ns.length + 1) - 0) (List.drop 0 (V.int n :: ns.map V.int)) = _
      rw [show min (1 : Int).toNat (ns.length + 1) - 0 = 1 by show min 1 (ns.length + 1) - 0 = 1; omega]
      rfl
    rw [ec]
    have eq1 : Ex [] TL GT H (upd H q (.lst [V.int n])) := Ex.new hq
    refine ⟨sz 0, fun q2 hq2 => ?_⟩
    have hq' := (Ex.new (A := []) (TL := TL) (GT := GT) (o := .lst []) hq2).sql (K := K) (p := q) (by simp) (lst_at upd_same)
    rw [eqU_ref]
    refine ⟨.list [.int n], .list [], .lst hq' (.cons (.int n) .nil), .lst (lst_at upd_same) .nil, rfl, rfl, false, rfl, ?_⟩
    refine ⟨⟨_, hq'⟩, fun D hD => hL _ _ _ n _ (eq1.trans (Ex.new hq2)) hq' hD ⟨_, _, _, _, rfl⟩⟩
/-- the dice stand at r -/
def Dc (H : Hp) (r : Addr) : Prop := ∃ x y z, H r = some (.lst [.int x, .int y, .int z])
theorem roll_ok {H : Hp} {r : Addr} {E : XK} {m : Int} {R : VK} (s : Dc H r) (h1 : 0 < m) (h2 : m ≤ 100000000) (k : ∀ n H', 0 ≤ n → n < m → Ex [r] TL GT H H' → Dc H' r → R (.int n) H') : spRoll TL GT [.ref r, .int m] H R E := by
  obtain ⟨x, y, z, h⟩ := s
  exact ⟨r, x, y, z, m, rfl, h, h1, h2, fun n x' y' z' H' a b e hh => k n H' a b e ⟨x', y', z', hh⟩⟩
def spBlock (K : PySem.W.Frag) (TL : List (Addr × Str)) (GT : List Addr) : Sp := fun vs H Q E => ∃ r, vs = [.ref r] ∧ Dc H r ∧
  ∀ u c H', 0 ≤ c → c < 256 → Ex [r] TL GT H H' → Dc H' r → SqT K H' u ((List.replicate 64 c).map V.int) → Q (.ref u) H'
theorem c_law_block (T : KB.Txt P w K mg base CD CJ DE JE jm TL GT) : Cal P w K mg base 5 "_law_block" (spBlock K TL GT) := by
  have c_law_roll := c_law_roll T
  obtain ⟨f, fd, c, D⟩ := T.d_block
  refine D.ok (N := ["dice"]) (ps := ["dice"]) ⟨rfl, rfl, rfl, by decide +kernel, rfl, by decide +kernel, by decide +kernel⟩ (fun vs H Q E h => by first | (obtain ⟨_, rfl, _⟩ := h; rfl) | (obtain ⟨_, _, rfl, _⟩ := h; rfl) | (obtain ⟨_, _, _, rfl, _⟩ := h; rfl) | (obtain ⟨_, _, _, _, rfl, _⟩ := h; rfl) | (obtain ⟨_, _, _, _, _, rfl, _⟩ := h; rfl) | (obtain ⟨_, _, _, _, _, _, rfl, _⟩ := h; rfl) | (obtain ⟨_, _, _, _, _, _, _, rfl, _⟩ := h; rfl) | (obtain ⟨_, _, _, _, _, _, _, _, rfl, _⟩ := h; rfl) | (obtain ⟨rfl, _⟩ := h; rfl)) (fun _ _ _ _ _ _ us hl => match us, hl with | [_], _ => rfl) (fun A outer s H vs Q E hr h => ?_)
  have nd : (["dice"] : List Str).Nodup := by decide
  refine mk_ex (pss_one (ps_ret (tupOfK (K := K) rfl (pe_tupleOf rfl T.n_tuple (pe_op (opK (K := K) (r := rMulV) opV_mul rfl) (pe_lst (pa_cons (GX.pe_call c_law_roll (hr.mono (by decide)) (takes_of rfl rfl rfl rfl) (by exact (pa_cons (pv 0) (pa_cons pe_int pa_nil)))) pa_nil)) pe_int))))) ?_
  obtain ⟨r, rfl, hd, h⟩ := h
  simp only [cx_K, gcx_K, lcx_K, LenV, rLenU, tTruU, kTup, tFld, sFld, sFldAug, tMet, tMake, tBM, tDGet, tDGet1, tDGet2, sDPut, tRevL, iEnum, tAug, tAsg, mulV_int, iaddU_int, isubU_int, iaddU_str, tTupL, ex2eq, not_true_eq_false, not_false_eq_true, LamX.tLam, LamX.TTold, tSeq, tIf, tNext, tRet, tRetN, tIfS, tTest, tB, tNot, tAnd, tOr, tChain, tOp, tUn, tC, tVar, tCons, tNil, tTup, tLst, tAsg, gName, gTup, gCons, gNil, gSub, tDrop, tCallS, tCB, tM1, tM0, tBM, tBM0, tSl, tPar, tFor_eq, tLc_eq, intU_int, intU_bl, iList, iTup, iEnumT, tDNewK, rSlT, rSlL, iRng1, iRng2, iStr, tThen, tNever, L2.start, tRaiseFile, tMkFile, tYes, tPart, tNoPart, addA_int, addA_str, addU_int, addU_str, addU_ref, subU_int, mulU_int, mulU_ref, fdvU_int, modU_int, powU_int, ltU_int, leU_int, gtU_int, geU_int, eqU_int, eqU_str, eqU_bl, neU_int, neU_str, neU_bl, WE, TruV, List.map, List.length_cons, List.length_nil, List.replicate, List.append, List.getElem?_cons_zero, List.getElem?_cons_succ, List.set_cons_zero, List.set_cons_succ, List.cons_append, List.nil_append, Option.some.injEq, V.int.injEq, V.str.injEq, V.bl.injEq, V.ref.injEq, List.cons.injEq, exists_eq_left, exists_eq_right, and_true, true_and, and_self, exists_eq, exists_const, Bool.not_true, Bool.not_false, Bool.false_eq_true, if_true, if_false, reduceIte, decide_eq_true_eq, bne_iff_ne, exists_eq_left', exists_eq', exists_and_left, Bool.not_eq_true', decide_eq_false_iff_not, Nat.reduceSub, Nat.reduceAdd, reduceCtorEq, false_and, or_false, false_or, exists_false]
  refine roll_ok hd (by decide) (by decide) fun c0 H1 c1 c2 e1 s1 => ⟨sz 1, fun p hp => .inl ⟨p, 64, [V.int c0], rfl, rfl, upd_same, by decide, by decide, by rw [sizeLine_eq]; show 64 ≤ 16777216; decide, fun p2 hp2 => .inl ⟨p2, rfl, _, lst_at upd_same, fun q hq => ?_⟩⟩⟩
  have e4 := ((e1.add (o := .lst [V.int c0]) hp).add (o := .lst (List.replicate (64 : Int).toNat [V.int c0]).flatten) hp2).add (o := .tup (List.replicate (64 : Int).toNat [V.int c0]).flatten) hq
  have e5 : Ex [] TL GT H1 _ := ((Ex.new (o := .lst [V.int c0]) hp).add (o := .lst (List.replicate (64 : Int).toNat [V.int c0]).flatten) hp2).add (o := .tup (List.replicate (64 : Int).toNat [V.int c0]).flatten) hq
  refine h q c0 _ c1 c2 e4 ?_ (SqT.of ?_)
  · obtain ⟨x, y, z, s⟩ := s1
    exact ⟨x, y, z, e5.lst (by simp) s⟩
  · rw [upd_same, List.flatten_replicate_singleton, List.map_replicate]; rfl
def spAgain (K : PySem.W.Frag) (CD : Addr) (TL : List (Addr × Str)) (GT : List Addr) : Sp := fun vs H Q E => ∃ r d v F, vs = [.ref r, .ref d] ∧ Dc H r ∧ DevAt K CD H d v F ∧ r ∉ F ∧ WfB v.blocks ∧ WfB v.waiting ∧ szD v < 9000 ∧
  ∀ u cs F' H', Ex [r] TL GT H H' → Dc H' r → DevAt K CD H' u (drest v cs) F' → (∀ a ∈ F', free H a) → Q (.ref u) H'
theorem c_law_again (T : KB.Txt P w K mg base CD CJ DE JE jm TL GT) : Cal P w K mg base 8 "_law_again" (spAgain K CD TL GT) := by
  have c_law_roll := c_law_roll T
  have m_Device_restarted := m_rest (TL := TL) (GT := GT) T
  obtain ⟨f, fd, c, D⟩ := T.d_again
  refine D.ok (N := ["dice", "device", "k"]) (ps := ["dice", "device"]) ⟨rfl, rfl, rfl, by decide +kernel, rfl, by decide +kernel, by decide +kernel⟩ (fun vs H Q E h => by first | (obtain ⟨_, rfl, _⟩ := h; rfl) | (obtain ⟨_, _, rfl, _⟩ := h; rfl) | (obtain ⟨_, _, _, rfl, _⟩ := h; rfl) | (obtain ⟨_, _, _, _, rfl, _⟩ := h; rfl) | (obtain ⟨_, _, _, _, _, rfl, _⟩ := h; rfl) | (obtain ⟨_, _, _, _, _, _, rfl, _⟩ := h; rfl) | (obtain ⟨_, _, _, _, _, _, _, rfl, _⟩ := h; rfl) | (obtain ⟨_, _, _, _, _, _, _, _, rfl, _⟩ := h; rfl) | (obtain ⟨rfl, _⟩ := h; rfl)) (fun _ _ _ _ _ _ us hl => match us, hl with | [_, _], _ => rfl) (fun A outer s H vs Q E hr h => ?_)
  have nd : (["dice", "device", "k"] : List Str).Nodup := by decide
  refine mk_ex (pss_one (ps_ret (pe_met m_Device_restarted (hr.mono (by decide)) (takes_of rfl rfl rfl rfl) (pv 1) (by exact (pa_cons (pe_lc rfl nd (pi_range1 rfl T.n_range (pa_cons (GX.pe_call c_law_roll (hr.mono (by decide)) (takes_of rfl rfl rfl rfl) (by exact (pa_cons (pv 0) (pa_cons pe_int pa_nil)))) pa_nil)) (show BlkOk ["dice", "device", "k"] (defScope (top 25)) _ [("k", 2)] from blkOk_by (by decide +kernel)) (fun s H C cl fp => (pg_name (i := 2) nd rfl (Or.inl rfl))) (fun s H C cl fp => pts_nil) (fun s H C cl fp => (GX.pe_call c_law_roll (hr.mono (by decide)) takes0 (by exact (pa_cons (pv 0) (pa_cons pe_int pa_nil)))))) pa_nil))))) ?_
  obtain ⟨r, d, v, F, rfl, hd, hD, hrF, wb, ww, hs, h⟩ := h
  simp only [cx_K, gcx_K, lcx_K, LenV, rLenU, tTruU, kTup, tFld, sFld, sFldAug, tMet, tMake, tBM, tDGet, tDGet1, tDGet2, sDPut, tRevL, iEnum, tAug, tAsg, mulV_int, iaddU_int, isubU_int, iaddU_str, tTupL, ex2eq, not_true_eq_false, not_false_eq_true, LamX.tLam, LamX.TTold, tSeq, tIf, tNext, tRet, tRetN, tIfS, tTest, tB, tNot, tAnd, tOr, tChain, tOp, tUn, tC, tVar, tCons, tNil, tTup, tLst, tAsg, gName, gTup, gCons, gNil, gSub, tDrop, tCallS, tCB, tM1, tM0, tBM, tBM0, tSl, tPar, tFor_eq, tLc_eq, intU_int, intU_bl, iList, iTup, iEnumT, tDNewK, rSlT, rSlL, iRng1, iRng2, iStr, tThen, tNever, L2.start, tRaiseFile, tMkFile, tYes, tPart, tNoPart, addA_int, addA_str, addU_int, addU_str, addU_ref, subU_int, mulU_int, mulU_ref, fdvU_int, modU_int, powU_int, ltU_int, leU_int, gtU_int, geU_int, eqU_int, eqU_str, eqU_bl, neU_int, neU_str, neU_bl, WE, TruV, List.map, List.length_cons, List.length_nil, List.replicate, List.append, List.getElem?_cons_zero, List.getElem?_cons_succ, List.set_cons_zero, List.set_cons_succ, List.cons_append, List.nil_append, Option.some.injEq, V.int.injEq, V.str.injEq, V.bl.injEq, V.ref.injEq, List.cons.injEq, exists_eq_left, exists_eq_right, and_true, true_and, and_self, exists_eq, exists_const, Bool.not_true, Bool.not_false, Bool.false_eq_true, if_true, if_false, reduceIte, decide_eq_true_eq, bne_iff_ne, exists_eq_left', exists_eq', exists_and_left, Bool.not_eq_true', decide_eq_false_iff_not, Nat.reduceSub, Nat.reduceAdd, reduceCtorEq, false_and, or_false, false_or, exists_false]
  obtain ⟨dx, b, w, kvs, ws, rfl, h1, h2, h3, h4, h5⟩ := id hD
  refine ⟨_, _, h1, rfl, roll_ok hd (by decide) (by decide) fun j H1 j0 j1 e1 s1 => ⟨j, rfl, by omega, by omega, fun D hDn => ?_⟩⟩
  have hDr : D ≠ r := fun e => by
    obtain ⟨x, y, z, s⟩ := s1
    rw [e, s] at hDn; cases hDn
  have eD : Ex [] TL GT H1 (upd H1 D (.lst [])) := Ex.new hDn
  have DcK : ∀ {Ha Hb : Hp} {A : List Addr}, r ∉ A → Ex A TL GT Ha Hb → Dc Ha r → Dc Hb r := fun hn e s => by
    obtain ⟨x, y, z, s⟩ := s
    exact ⟨x, y, z, e.lst hn s⟩
  refine lcl_range (fun i H' => ∃ cs : List Int, cs.length = i ∧ H' D = some (.lst (cs.map V.int)) ∧ Ex [r] TL GT H1 H' ∧ Dc H' r) ⟨[], rfl, upd_same, Ex.new hDn, DcK (by simp) eD s1⟩ ?_ ?_
  · rintro i H3 hi ⟨cs, hl, hD3, e3, s3⟩
    simp only [cx_K, gcx_K, lcx_K, LenV, rLenU, tTruU, kTup, tFld, sFld, sFldAug, tMet, tMake, tBM, tDGet, tDGet1, tDGet2, sDPut, tRevL, iEnum, tAug, tAsg, mulV_int, iaddU_int, isubU_int, iaddU_str, tTupL, ex2eq, not_true_eq_false, not_false_eq_true, LamX.tLam, LamX.TTold, tSeq, tIf, tNext, tRet, tRetN, tIfS, tTest, tB, tNot, tAnd, tOr, tChain, tOp, tUn, tC, tVar, tCons, tNil, tTup, tLst, tAsg, gName, gTup, gCons, gNil, gSub, tDrop, tCallS, tCB, tM1, tM0, tBM, tBM0, tSl, tPar, tFor_eq, tLc_eq, intU_int, intU_bl, iList, iTup, iEnumT, tDNewK, rSlT, rSlL, iRng1, iRng2, iStr, tThen, tNever, L2.start, tRaiseFile, tMkFile, tYes, tPart, tNoPart, addA_int, addA_str, addU_int, addU_str, addU_ref, subU_int, mulU_int, mulU_ref, fdvU_int, modU_int, powU_int, ltU_int, leU_int, gtU_int, geU_int, eqU_int, eqU_str, eqU_bl, neU_int, neU_str, neU_bl, WE, TruV, List.map, List.length_cons, List.length_nil, List.replicate, List.append, List.getElem?_cons_zero, List.getElem?_cons_succ, List.set_cons_zero, List.set_cons_succ, List.cons_append, List.nil_append, Option.some.injEq, V.int.injEq, V.str.injEq, V.bl.injEq, V.ref.injEq, List.cons.injEq, exists_eq_left, exists_eq_right, and_true, true_and, and_self, exists_eq, exists_const, Bool.not_true, Bool.not_false, Bool.false_eq_true, if_true, if_false, reduceIte, decide_eq_true_eq, bne_iff_ne, exists_eq_left', exists_eq', exists_and_left, Bool.not_eq_true', decide_eq_false_iff_not, Nat.reduceSub, Nat.reduceAdd, reduceCtorEq, false_and, or_false, false_or, exists_false, wipe, tYes]
    refine roll_ok s3 (by decide) (by decide) fun k H4 k0 k1 e4 s4 => ?_
    have hD4 := e4.lst (by simpa using hDr) hD3
    refine ⟨_, hD4, ?_, cs ++ [k], by simp [hl], by rw [upd_same, List.map_append]; rfl, (e3.trans e4).overL hDn hD4, ?_⟩
    · rw [List.length_map, hl, sizeLine_eq]; omega
    · exact DcK (A := [D]) (by simpa using Ne.symm hDr) (Ex.put (TL := TL) (GT := GT) (by simp) hD4 rfl) s4
  · rintro H3 ⟨cs, hl, hD3, e3, s3⟩
    have e13 := e1.trans e3
    have hrd : ∀ a ∈ [d, b, w], a ∉ [r] := fun a ha => by
      simp only [List.mem_singleton]; intro z; rw [z] at ha; exact hrF ha
    refine ⟨d, v, _, D, cs, rfl, hD.keep e13 hrd, lst_at hD3, wb, ww, by unfold szD at hs; omega, fun u F' H' e' D' hF' => h u cs F' H' (e13.trans (e'.mono (by simp))) (DcK (by simp) e' s3) D' fun a ha => ?_⟩
    rcases e13.fresh (hF' a ha) with z | z
    · simp only [List.mem_singleton] at z
      obtain ⟨x, y, q, s⟩ := s3
      have y2 := hF' a ha
      rw [z] at y2
      obtain ⟨ps, w2⟩ := y2 _ s
      cases w2
    · exact z
theorem eq_lstI {H : Hp} {Q : VK} {p q : Addr} {ns ms : List Int} (hp : SqL K H p (ns.map V.int)) (hq : SqL K H q (ms.map V.int)) (h : Q (.bl (decide (ns = ms))) H) : rEqU K (.ref p) (.ref q) H Q := by
  refine ⟨.list (ns.map .int), .list (ms.map .int), .lst hp (dp_ints ns), .lst hq (dp_ints ms), ?_, ?_, ?_⟩
  · exact shaped_tupI ns
  · exact shaped_tupI ms
  rw [show PyData.eqv (.list (ns.map PyData.int)) (.list (ms.map PyData.int)) = PyData.eqvAll (ns.map PyData.int) (ms.map PyData.int) from rfl, eqvAll_ints]
  exact h
/-- where device and dict differ -/
def badAt (v : Dv) (l : List Blk) (n : Nat) : List Nat := (List.range n).filter fun i => !decide (dread v (8 + i) = (getB l (8 + i)).getD zeros)
theorem bad_succ (v : Dv) (l : List Blk) (n : Nat) : badAt v l (n + 1) = if (!decide (dread v (8 + n) = (getB l (8 + n)).getD zeros)) = true then badAt v l n ++ [n] else badAt v l n := by
  unfold badAt
  rw [List.range_succ, List.filter_append, List.filter_cons]
  split <;> simp
theorem bad_len (v : Dv) (l : List Blk) (n : Nat) : (badAt v l n).length ≤ n := by
  have h := List.length_filter_le (fun i : Nat => !decide (dread v (8 + i) = (getB l (8 + i)).getD zeros)) (List.range n)
  rw [List.length_range] at h
  exact h
def spSame (K : PySem.W.Frag) (CD : Addr) (TL : List (Addr × Str)) (GT : List Addr) : Sp := fun vs H Q E => ∃ d v F b kvs l, vs = [.ref d, .ref b] ∧ DevAt K CD H d v F ∧ v.dead = false ∧ v.total = 16 ∧ H b = some (.dK kvs) ∧ Paired (KvAt K H) kvs l ∧
  ∀ H', Ex [] TL GT H H' → Q (.bl (decide (badAt v l 7 = []))) H'
theorem c_law_same (T : KB.Txt P w K mg base CD CJ DE JE jm TL GT) : Cal P w K mg base 8 "_law_same" (spSame K CD TL GT) := by
  have m_Device_read := m_read (TL := TL) (GT := GT) T
  obtain ⟨f, fd, c, D⟩ := T.d_same
  refine D.ok (N := ["device", "blocks", "number"]) (ps := ["device", "blocks"]) ⟨rfl, rfl, rfl, by decide +kernel, rfl, by decide +kernel, by decide +kernel⟩ (fun vs H Q E h => by first | (obtain ⟨_, rfl, _⟩ := h; rfl) | (obtain ⟨_, _, rfl, _⟩ := h; rfl) | (obtain ⟨_, _, _, rfl, _⟩ := h; rfl) | (obtain ⟨_, _, _, _, rfl, _⟩ := h; rfl) | (obtain ⟨_, _, _, _, _, rfl, _⟩ := h; rfl) | (obtain ⟨_, _, _, _, _, _, rfl, _⟩ := h; rfl) | (obtain ⟨_, _, _, _, _, _, _, rfl, _⟩ := h; rfl) | (obtain ⟨_, _, _, _, _, _, _, _, rfl, _⟩ := h; rfl) | (obtain ⟨rfl, _⟩ := h; rfl)) (fun _ _ _ _ _ _ us hl => match us, hl with | [_, _], _ => rfl) (fun A outer s H vs Q E hr h => ?_)
  have nd : (["device", "blocks", "number"] : List Str).Nodup := by decide
  refine mk_ex (pss_one (ps_ret (pe_cmpR (opK (K := K) (r := rEqU) (opU_eq (roomEq hr)) rfl) (pe_lc rfl nd (pi_range2 rfl T.n_range (pa_cons pe_int (pa_cons pe_int pa_nil))) (show BlkOk ["device", "blocks", "number"] (defScope (top 24)) _ [("number", 2)] from blkOk_by (by decide +kernel)) (fun s H C cl fp => (pg_name (i := 2) nd rfl (Or.inl rfl))) (fun s H C cl fp => (pts_one (pt_cmpR (opK (K := K) (r := rNeU) (opU_ne (roomEq hr)) rfl) (pe_met m_Device_read (hr.mono (by decide)) takes0 (pv 0) (by exact (pa_cons (pv 2) pa_nil))) (pe_dget2 (roomD hr) (pv 1) (pv 2) (pe_op (opK (K := K) (r := rMulV) opV_mul rfl) (pe_tup (pa_cons pe_int pa_nil)) pe_int) ⟨rfl, rfl, rfl, rfl⟩) (nomark _)))) (fun s H C cl fp => (pv 2))) (pe_lst pa_nil) (nomark _)))) ?_
  obtain ⟨d, v, F, b, kvs, l, rfl, hD, hdead, ht, hb, hp, h⟩ := h
  simp only [cx_K, gcx_K, lcx_K, LenV, rLenU, tTruU, kTup, tFld, sFld, sFldAug, tMet, tMake, tBM, tDGet, tDGet1, tDGet2, sDPut, tRevL, iEnum, tAug, tAsg, mulV_int, iaddU_int, isubU_int, iaddU_str, tTupL, ex2eq, not_true_eq_false, not_false_eq_true, LamX.tLam, LamX.TTold, tSeq, tIf, tNext, tRet, tRetN, tIfS, tTest, tB, tNot, tAnd, tOr, tChain, tOp, tUn, tC, tVar, tCons, tNil, tTup, tLst, tAsg, gName, gTup, gCons, gNil, gSub, tDrop, tCallS, tCB, tM1, tM0, tBM, tBM0, tSl, tPar, tFor_eq, tLc_eq, intU_int, intU_bl, iList, iTup, iEnumT, tDNewK, rSlT, rSlL, iRng1, iRng2, iStr, tThen, tNever, L2.start, tRaiseFile, tMkFile, tYes, tPart, tNoPart, addA_int, addA_str, addU_int, addU_str, addU_ref, subU_int, mulU_int, mulU_ref, fdvU_int, modU_int, powU_int, ltU_int, leU_int, gtU_int, geU_int, eqU_int, eqU_str, eqU_bl, neU_int, neU_str, neU_bl, WE, TruV, List.map, List.length_cons, List.length_nil, List.replicate, List.append, List.getElem?_cons_zero, List.getElem?_cons_succ, List.set_cons_zero, List.set_cons_succ, List.cons_append, List.nil_append, Option.some.injEq, V.int.injEq, V.str.injEq, V.bl.injEq, V.ref.injEq, List.cons.injEq, exists_eq_left, exists_eq_right, and_true, true_and, and_self, exists_eq, exists_const, Bool.not_true, Bool.not_false, Bool.false_eq_true, if_true, if_false, reduceIte, decide_eq_true_eq, bne_iff_ne, exists_eq_left', exists_eq', exists_and_left, Bool.not_eq_true', decide_eq_false_iff_not, Nat.reduceSub, Nat.reduceAdd, reduceCtorEq, false_and, or_false, false_or, exists_false]
  obtain ⟨dx, b2, w, kvs2, ws, rfl, h1, h2, h3, h4, h5⟩ := id hD
  refine ⟨⟨by decide, by decide, by decide, by decide⟩, fun D hDn => ?_⟩
  have e7 : ((15 : Int) - 8).toNat = 7 := by decide
  rw [e7]
  refine lcl_range (fun i H' => Ex [] TL GT H H' ∧ H' D = some (.lst ((badAt v l i).map fun k : Nat => V.int (8 + k)))) ⟨Ex.new hDn, upd_same⟩ ?_ ?_
  · rintro i H' hi ⟨e, hl⟩
    simp only [cx_K, gcx_K, lcx_K, LenV, rLenU, tTruU, kTup, tFld, sFld, sFldAug, tMet, tMake, tBM, tDGet, tDGet1, tDGet2, sDPut, tRevL, iEnum, tAug, tAsg, mulV_int, iaddU_int, isubU_int, iaddU_str, tTupL, ex2eq, not_true_eq_false, not_false_eq_true, LamX.tLam, LamX.TTold, tSeq, tIf, tNext, tRet, tRetN, tIfS, tTest, tB, tNot, tAnd, tOr, tChain, tOp, tUn, tC, tVar, tCons, tNil, tTup, tLst, tAsg, gName, gTup, gCons, gNil, gSub, tDrop, tCallS, tCB, tM1, tM0, tBM, tBM0, tSl, tPar, tFor_eq, tLc_eq, intU_int, intU_bl, iList, iTup, iEnumT, tDNewK, rSlT, rSlL, iRng1, iRng2, iStr, tThen, tNever, L2.start, tRaiseFile, tMkFile, tYes, tPart, tNoPart, addA_int, addA_str, addU_int, addU_str, addU_ref, subU_int, mulU_int, mulU_ref, fdvU_int, modU_int, powU_int, ltU_int, leU_int, gtU_int, geU_int, eqU_int, eqU_str, eqU_bl, neU_int, neU_str, neU_bl, WE, TruV, List.map, List.length_cons, List.length_nil, List.replicate, List.append, List.getElem?_cons_zero, List.getElem?_cons_succ, List.set_cons_zero, List.set_cons_succ, List.cons_append, List.nil_append, Option.some.injEq, V.int.injEq, V.str.injEq, V.bl.injEq, V.ref.injEq, List.cons.injEq, exists_eq_left, exists_eq_right, and_true, true_and, and_self, exists_eq, exists_const, Bool.not_true, Bool.not_false, Bool.false_eq_true, if_true, if_false, reduceIte, decide_eq_true_eq, bne_iff_ne, exists_eq_left', exists_eq', exists_and_left, Bool.not_eq_true', decide_eq_false_iff_not, Nat.reduceSub, Nat.reduceAdd, reduceCtorEq, false_and, or_false, false_or, exists_false, wipe, tYes]
    have okn : okNum v (8 + (i : Int)) = true := by unfold okNum; rw [hdead, ht]; simp; omega
    refine ⟨_, _, e.ext d _ (by simp) h1 (fun _ z => by cases z), rfl, d, v, _, _, rfl, hD.keep e (fun a _ => by simp), fun _ u H2 e2 hu => ?_, fun z => absurd z (by rw [okn]; simp)⟩
    have eb := (e.trans e2).ext b _ (by simp) hb (fun _ z => by cases z)
    refine ⟨.inl ⟨kvs, .inl eb⟩, sz 1, fun p hp0 => ?_⟩
    refine mulV_any (TL := TL) (GT := GT) (SqT.of upd_same) (by simp) (by decide) (by decide) (by decide) fun z H3 e3 hz => ?_
    have e23 : Ex [] TL GT H2 H3 := (Ex.new hp0).trans e3
    have e4 := (e.trans e2).trans e23
    refine ⟨_, DGet.k (k := .inl (8 + (i : Int))) (e4.ext b _ (by simp) hb (fun _ z => by cases z)), ?_⟩
    have hget : TI K H3 ((valV kvs (Sum.inl (8 + (i : Int)))).getD (.ref z)) ((getB l (8 + (i : Int))).getD zeros) := by
      have g := get_ok (8 + (i : Int)) (pimp (fun _ _ => KvAt.ex e4) hp)
      revert g
      cases valV kvs (Sum.inl (8 + (i : Int))) with
      | none => intro g; rw [g]; exact ⟨z, rfl, hz⟩
      | some y => rintro ⟨x, g1, g2⟩; rw [g1]; exact g2
    obtain ⟨zp, hzp, hzq⟩ := hget
    obtain ⟨up, rfl, hup⟩ := hu.ex e23
    rw [hzp]
    refine ne_tups hup hzq ⟨_, rfl, ?_⟩
    have hl3 := (e2.trans e23).ext D _ (by simp) hl (fun _ z => by cases z)
    rw [bad_succ]
    by_cases hne : dread v (8 + (i : Int)) = (getB l (8 + (i : Int))).getD zeros
    · rw [if_neg (by simpa using hne), if_neg (by simpa using hne)]
      exact ⟨e4, hl3⟩
    · rw [if_pos (by simpa using hne), if_pos (by simpa using hne)]
      refine ⟨_, hl3, ?_, e4.overL hDn hl3, by rw [upd_same, List.map_append]; rfl⟩
      have := bad_len v l i
      rw [List.length_map, sizeLine_eq]; omega
  · rintro H' ⟨e, hl⟩
    refine ⟨sz 0, fun p hp0 => ?_⟩
    have e2 : Ex [] TL GT H' (upd H' p (.lst [])) := Ex.new hp0
    have hl2 := e2.ext D _ (by simp) hl (fun _ z => by cases z)
    have em : ((badAt v l 7).map fun k : Nat => V.int (8 + k)) = (((badAt v l 7).map fun k : Nat => ((8 : Int) + k))).map V.int := by rw [List.map_map]; rfl
    rw [em] at hl2
    refine eq_lstI (ms := []) (lst_at hl2) (lst_at upd_same) ?_
    have ed : decide ((badAt v l 7).map (fun k : Nat => ((8 : Int) + k)) = []) = decide (badAt v l 7 = []) := by
      rw [decide_eq_decide, List.map_eq_nil_iff]
    rw [ed]
    exact h _ (e.trans e2)
/-- a group of rows as _law_group makes it -/
structure Grp (rows : List Blk) : Prop where
  asc : rows.Pairwise (fun a b => a.1 < b.1)
  rng : ∀ p ∈ rows, 8 ≤ p.1 ∧ p.1 < 15
  len : ∀ p ∈ rows, p.2.length = 64
  byt : ∀ p ∈ rows, ∀ x ∈ p.2, 0 ≤ x ∧ x < 256
  few : rows.length ≤ 6
/-- the dict that it fills -/
structure Tab (l : List Blk) (i : Nat) : Prop where
  nd : (l.map (·.1)).Nodup
  rng : ∀ p ∈ l, 8 ≤ p.1 ∧ p.1 < 15
  len : ∀ p ∈ l, p.2.length = 64
  byt : ∀ p ∈ l, ∀ x ∈ p.2, 0 ≤ x ∧ x < 256
  few : l.length ≤ i
theorem putB_nd {l : List Blk} {n : Int} {x : List Int} (h : (l.map (·.1)).Nodup) : ((putB l n x).map (·.1)).Nodup := by
  unfold putB
  split
  · have e : (l.map fun p => if p.1 = n then (p.1, x) else p).map (·.1) = l.map (·.1) := by
      rw [List.map_map]
      congr 1
      funext p
      show (if p.1 = n then (p.1, x) else p).1 = p.1
      split <;> rfl
    rw [e]; exact h
  · rename_i hn
    rw [List.map_append, List.nodup_append]
    refine ⟨h, by simp, ?_⟩
    intro a ha b hb e
    simp only [List.map_cons, List.map_nil, List.mem_singleton] at hb
    subst hb
    subst e
    obtain ⟨p, hp, e⟩ := List.mem_map.mp ha
    exact hn (List.any_eq_true.mpr ⟨p, hp, by simpa using e⟩)
theorem putB_mem2 {l : List Blk} {n : Int} {x : List Int} {q : Blk} (h : q ∈ putB l n x) : q = (n, x) ∨ q ∈ l := by
  unfold putB at h
  split at h
  · obtain ⟨p, hp, e⟩ := List.mem_map.mp h
    split at e
    · rename_i hpn
      rw [← e, hpn]; exact .inl rfl
    · rw [← e]; exact .inr hp
  · rcases List.mem_append.mp h with z | z
    · exact .inr z
    · exact .inl (List.mem_singleton.mp z)
theorem Tab.put {l : List Blk} {i : Nat} {n : Int} {x : List Int} (T : Tab l i) (h1 : 8 ≤ n ∧ n < 15) (h2 : x.length = 64) (h3 : ∀ y ∈ x, 0 ≤ y ∧ y < 256) : Tab (putB l n x) (i + 1) := by
  refine ⟨putB_nd T.nd, fun p hp => ?_, fun p hp => ?_, fun p hp => ?_, Nat.le_trans (putB_len _ _ _) (Nat.succ_le_succ T.few)⟩
  all_goals rcases putB_mem2 hp with z | z
  · rw [z]; exact h1
  · exact T.rng p z
  · rw [z]; exact h2
  · exact T.len p z
  · rw [z]; exact h3
  · exact T.byt p z
def rowsOf (l : List Blk) (ys : List Int) : List Blk := ys.map fun n => (n, (getB l n).getD zeros)
theorem getB_some {l : List Blk} {n : Int} (h : n ∈ l.map (·.1)) : ∃ x, getB l n = some x := by
  obtain ⟨p, hp, e⟩ := List.mem_map.mp h
  unfold getB
  cases hf : l.find? (fun p => decide (p.1 = n)) with
  | some q => exact ⟨q.2, rfl⟩
  | none =>
    have := List.find?_eq_none.mp hf p hp
    simp [e] at this
theorem Tab.grp {l : List Blk} {ys : List Int} (T : Tab l 6) (hp : ys.Perm (l.map (·.1))) (hs : ys.Pairwise (· ≤ ·)) : Grp (rowsOf l ys) := by
  have nd : ys.Nodup := hp.nodup_iff.mpr T.nd
  have hmem : ∀ n ∈ ys, ∃ x, getB l n = some x ∧ (n, x) ∈ l := fun n hn => by
    obtain ⟨x, hx⟩ := getB_some (hp.mem_iff.mp hn)
    exact ⟨x, hx, getB_mem hx⟩
  have hrow : ∀ p ∈ rowsOf l ys, p ∈ l := fun p hpm => by
    obtain ⟨n, hn, rfl⟩ := List.mem_map.mp hpm
    obtain ⟨x, hx, hm⟩ := hmem n hn
    rw [hx]; exact hm
  refine ⟨?_, fun p h => T.rng p (hrow p h), fun p h => T.len p (hrow p h), fun p h => T.byt p (hrow p h), ?_⟩
  · unfold rowsOf
    rw [List.pairwise_map]
    have h2 : ys.Pairwise (fun a b => a ≤ b ∧ a ≠ b) := List.Pairwise.and hs nd
    exact h2.imp fun {a b} ⟨x, y⟩ => by show a < b; omega
  · unfold rowsOf
    rw [List.length_map, hp.length_eq, List.length_map]; exact T.few
theorem kv_keys {H : Hp} {kvs : List (Key × V)} {l : List Blk} (h : Paired (KvAt K H) kvs l) : kvs.map (·.1) = (l.map (·.1)).map Sum.inl := by
  induction h with
  | nil => rfl
  | cons p r ih => rw [List.map_cons, List.map_cons, List.map_cons, ih, p.1]
def spGroup (K : PySem.W.Frag) (TL : List (Addr × Str)) (GT : List Addr) : Sp := fun vs H Q E => ∃ r, vs = [.ref r] ∧ Dc H r ∧
  ∀ u us rows H', Ex [r] TL GT H H' → Dc H' r → free H u → u ≠ r → H' u = some (.lst us) → Paired (PairAt K H') us rows → Grp rows → Q (.ref u) H'
theorem c_law_group (T : KB.Txt P w K mg base CD CJ DE JE jm TL GT) : Cal P w K mg base 7 "_law_group" (spGroup K TL GT) := by
  have c_law_roll := c_law_roll T
  have c_law_block := c_law_block T
  obtain ⟨f, fd, c, D⟩ := T.d_group
  refine D.ok (N := ["dice", "table", "turn", "number"]) (ps := ["dice"]) ⟨rfl, rfl, rfl, by decide +kernel, rfl, by decide +kernel, by decide +kernel⟩ (fun vs H Q E h => by first | (obtain ⟨_, rfl, _⟩ := h; rfl) | (obtain ⟨_, _, rfl, _⟩ := h; rfl) | (obtain ⟨_, _, _, rfl, _⟩ := h; rfl) | (obtain ⟨_, _, _, _, rfl, _⟩ := h; rfl) | (obtain ⟨_, _, _, _, _, rfl, _⟩ := h; rfl) | (obtain ⟨_, _, _, _, _, _, rfl, _⟩ := h; rfl) | (obtain ⟨_, _, _, _, _, _, _, rfl, _⟩ := h; rfl) | (obtain ⟨_, _, _, _, _, _, _, _, rfl, _⟩ := h; rfl) | (obtain ⟨rfl, _⟩ := h; rfl)) (fun _ _ _ _ _ _ us hl => match us, hl with | [_], _ => rfl) (fun A outer s H vs Q E hr h => ?_)
  have nd : (["dice", "table", "turn", "number"] : List Str).Nodup := by decide
  refine mk_ex (pss_cons (ps_set (i := 1) nd rfl (Or.inr rfl) pe_dnewK)
    (pss_cons (ps_for (passes_of rfl) rfl (pi_range1 rfl T.n_range (pa_cons (GX.pe_call c_law_roll (hr.mono (by decide)) (takes_of rfl rfl rfl rfl) (by exact (pa_cons (pv 0) (pa_cons pe_int pa_nil)))) pa_nil)) (pg_name (i := 2) nd rfl (Or.inl rfl)) (pss_one (ps_dput (roomD hr) (pv 1) (pe_op (opK (K := K) (r := rAddU) opU_add rfl) pe_int (GX.pe_call c_law_roll (hr.mono (by decide)) (takes_of rfl rfl rfl rfl) (by exact (pa_cons (pv 0) (pa_cons pe_int pa_nil))))) (GX.pe_call c_law_block (hr.mono (by decide)) (takes_of rfl rfl rfl rfl) (by exact (pa_cons (pv 0) pa_nil))) rfl)))
    (pss_one (ps_ret (pe_lc rfl nd (ilK (K := K) rfl (pi_list (pe_callB (call_sortedDI rfl) rfl T.n_sorted rfl (by exact (pa_cons (pv 1) pa_nil))))) (show BlkOk ["dice", "table", "turn", "number"] (defScope (top 23)) _ [("number", 3)] from blkOk_by (by decide +kernel)) (fun s H C cl fp => (pg_name (i := 3) nd rfl (Or.inl rfl))) (fun s H C cl fp => pts_nil) (fun s H C cl fp => (pe_tup (pa_cons (pv 3) (pa_cons (pe_dget (roomD hr) (pv 1) (pv 3) (fun _ _ => rfl)) pa_nil))))))))) ?_
  obtain ⟨r, rfl, hd, h⟩ := h
  simp only [cx_K, gcx_K, lcx_K, LenV, rLenU, tTruU, kTup, tFld, sFld, sFldAug, tMet, tMake, tBM, tDGet, tDGet1, tDGet2, sDPut, tRevL, iEnum, tAug, tAsg, mulV_int, iaddU_int, isubU_int, iaddU_str, tTupL, ex2eq, not_true_eq_false, not_false_eq_true, LamX.tLam, LamX.TTold, tSeq, tIf, tNext, tRet, tRetN, tIfS, tTest, tB, tNot, tAnd, tOr, tChain, tOp, tUn, tC, tVar, tCons, tNil, tTup, tLst, tAsg, gName, gTup, gCons, gNil, gSub, tDrop, tCallS, tCB, tM1, tM0, tBM, tBM0, tSl, tPar, tFor_eq, tLc_eq, intU_int, intU_bl, iList, iTup, iEnumT, tDNewK, rSlT, rSlL, iRng1, iRng2, iStr, tThen, tNever, L2.start, tRaiseFile, tMkFile, tYes, tPart, tNoPart, addA_int, addA_str, addU_int, addU_str, addU_ref, subU_int, mulU_int, mulU_ref, fdvU_int, modU_int, powU_int, ltU_int, leU_int, gtU_int, geU_int, eqU_int, eqU_str, eqU_bl, neU_int, neU_str, neU_bl, WE, TruV, List.map, List.length_cons, List.length_nil, List.replicate, List.append, List.getElem?_cons_zero, List.getElem?_cons_succ, List.set_cons_zero, List.set_cons_succ, List.cons_append, List.nil_append, Option.some.injEq, V.int.injEq, V.str.injEq, V.bl.injEq, V.ref.injEq, List.cons.injEq, exists_eq_left, exists_eq_right, and_true, true_and, and_self, exists_eq, exists_const, Bool.not_true, Bool.not_false, Bool.false_eq_true, if_true, if_false, reduceIte, decide_eq_true_eq, bne_iff_ne, exists_eq_left', exists_eq', exists_and_left, Bool.not_eq_true', decide_eq_false_iff_not, Nat.reduceSub, Nat.reduceAdd, reduceCtorEq, false_and, or_false, false_or, exists_false]
  intro p hp
  have e0 : Ex [] TL GT H (upd H p (.dK [])) := Ex.new hp
  have DcK : ∀ {Ha Hb : Hp} {A : List Addr}, r ∉ A → Ex A TL GT Ha Hb → Dc Ha r → Dc Hb r := fun hn e s => by
    obtain ⟨x, y, z, s⟩ := s
    exact ⟨x, y, z, e.lst hn s⟩
  have hpr : p ≠ r := fun e => by
    obtain ⟨x, y, z, s⟩ := hd
    rw [e, s] at hp; cases hp
  refine roll_ok (DcK (by simp) e0 hd) (by decide) (by decide) fun j H1 j0 j1 e1 s1 => ⟨j, rfl, by omega, by omega, ?_⟩
  have e01 : Ex [r] TL GT H H1 := (e0.mono (by simp)).trans e1
  have hp1 := e1.ext p _ (by simpa using hpr) (upd_same (a := p) (o := HO.dK [])) (fun _ z => by cases z)
  refine loop_range (fun i σ H' => ∃ v, σ = [some (.ref r), some (.ref p), v, none] ∧ Ex [r] TL GT H H' ∧ Dc H' r ∧ ∃ kvs l, H' p = some (.dK kvs) ∧ Paired (KvAt K H') kvs l ∧ Tab l i) ⟨_, rfl, e01, s1, [], [], hp1, .nil, ⟨.nil, by simp, by simp, by simp, Nat.le_refl _⟩⟩ ?_ ?_
  · rintro i σ H' hi ⟨v, rfl, e, s, kvs, l, hk, hP, hT⟩
    simp only [cx_K, gcx_K, lcx_K, LenV, rLenU, tTruU, kTup, tFld, sFld, sFldAug, tMet, tMake, tBM, tDGet, tDGet1, tDGet2, sDPut, tRevL, iEnum, tAug, tAsg, mulV_int, iaddU_int, isubU_int, iaddU_str, tTupL, ex2eq, not_true_eq_false, not_false_eq_true, LamX.tLam, LamX.TTold, tSeq, tIf, tNext, tRet, tRetN, tIfS, tTest, tB, tNot, tAnd, tOr, tChain, tOp, tUn, tC, tVar, tCons, tNil, tTup, tLst, tAsg, gName, gTup, gCons, gNil, gSub, tDrop, tCallS, tCB, tM1, tM0, tBM, tBM0, tSl, tPar, tFor_eq, tLc_eq, intU_int, intU_bl, iList, iTup, iEnumT, tDNewK, rSlT, rSlL, iRng1, iRng2, iStr, tThen, tNever, L2.start, tRaiseFile, tMkFile, tYes, tPart, tNoPart, addA_int, addA_str, addU_int, addU_str, addU_ref, subU_int, mulU_int, mulU_ref, fdvU_int, modU_int, powU_int, ltU_int, leU_int, gtU_int, geU_int, eqU_int, eqU_str, eqU_bl, neU_int, neU_str, neU_bl, WE, TruV, List.map, List.length_cons, List.length_nil, List.replicate, List.append, List.getElem?_cons_zero, List.getElem?_cons_succ, List.set_cons_zero, List.set_cons_succ, List.cons_append, List.nil_append, Option.some.injEq, V.int.injEq, V.str.injEq, V.bl.injEq, V.ref.injEq, List.cons.injEq, exists_eq_left, exists_eq_right, and_true, true_and, and_self, exists_eq, exists_const, Bool.not_true, Bool.not_false, Bool.false_eq_true, if_true, if_false, reduceIte, decide_eq_true_eq, bne_iff_ne, exists_eq_left', exists_eq', exists_and_left, Bool.not_eq_true', decide_eq_false_iff_not, Nat.reduceSub, Nat.reduceAdd, reduceCtorEq, false_and, or_false, false_or, exists_false]
    refine ⟨r, rfl, s, fun u c0 H2 c1 c2 e2 s2 hu => roll_ok s2 (by decide) (by decide) fun n H3 n0 n1 e3 s3 => ?_⟩
    simp only [cx_K, gcx_K, lcx_K, LenV, rLenU, tTruU, kTup, tFld, sFld, sFldAug, tMet, tMake, tBM, tDGet, tDGet1, tDGet2, sDPut, tRevL, iEnum, tAug, tAsg, mulV_int, iaddU_int, isubU_int, iaddU_str, tTupL, ex2eq, not_true_eq_false, not_false_eq_true, LamX.tLam, LamX.TTold, tSeq, tIf, tNext, tRet, tRetN, tIfS, tTest, tB, tNot, tAnd, tOr, tChain, tOp, tUn, tC, tVar, tCons, tNil, tTup, tLst, tAsg, gName, gTup, gCons, gNil, gSub, tDrop, tCallS, tCB, tM1, tM0, tBM, tBM0, tSl, tPar, tFor_eq, tLc_eq, intU_int, intU_bl, iList, iTup, iEnumT, tDNewK, rSlT, rSlL, iRng1, iRng2, iStr, tThen, tNever, L2.start, tRaiseFile, tMkFile, tYes, tPart, tNoPart, addA_int, addA_str, addU_int, addU_str, addU_ref, subU_int, mulU_int, mulU_ref, fdvU_int, modU_int, powU_int, ltU_int, leU_int, gtU_int, geU_int, eqU_int, eqU_str, eqU_bl, neU_int, neU_str, neU_bl, WE, TruV, List.map, List.length_cons, List.length_nil, List.replicate, List.append, List.getElem?_cons_zero, List.getElem?_cons_succ, List.set_cons_zero, List.set_cons_succ, List.cons_append, List.nil_append, Option.some.injEq, V.int.injEq, V.str.injEq, V.bl.injEq, V.ref.injEq, List.cons.injEq, exists_eq_left, exists_eq_right, and_true, true_and, and_self, exists_eq, exists_const, Bool.not_true, Bool.not_false, Bool.false_eq_true, if_true, if_false, reduceIte, decide_eq_true_eq, bne_iff_ne, exists_eq_left', exists_eq', exists_and_left, Bool.not_eq_true', decide_eq_false_iff_not, Nat.reduceSub, Nat.reduceAdd, reduceCtorEq, false_and, or_false, false_or, exists_false]
    have e23 := e2.trans e3
    have hk3 := e23.ext p _ (by simpa using hpr) hk (fun _ z => by cases z)
    have hl := paired_len hP
    have hfew := hT.few
    have hu3 : TI K H3 (.ref u) (List.replicate 64 c0) := ⟨u, rfl, e3.sqt hu⟩
    have e4 : Ex [p] TL GT H3 (upd H3 p (.dK (putK kvs (.inl (8 + n)) (.ref u)))) := Ex.put (by simp) hk3 rfl
    have e5 : Ex [p, r] TL GT H' (upd H3 p (.dK (putK kvs (.inl (8 + n)) (.ref u)))) := (e23.mono (by simp)).chg hk3 rfl (.inl (by simp))
    refine ⟨_, DPut.k (k := .inl (8 + n)) hk3 (by rw [sizeLine_eq]; omega), (e.trans e23).over hp hk3 rfl, DcK (by simpa using Ne.symm hpr) e4 s3, _, upd_same, _, put_ok (hu3.ex e4) (pimp (fun _ _ => KvAt.ex e5) hP), hT.put (by omega) (by rw [List.length_replicate]) fun y hy => ?_⟩
    rw [List.eq_of_mem_replicate hy]; exact ⟨c1, c2⟩
  · rintro σ H' ⟨v, rfl, e, s, kvs, l, hk, hP, hT⟩
    simp only [cx_K, gcx_K, lcx_K, LenV, rLenU, tTruU, kTup, tFld, sFld, sFldAug, tMet, tMake, tBM, tDGet, tDGet1, tDGet2, sDPut, tRevL, iEnum, tAug, tAsg, mulV_int, iaddU_int, isubU_int, iaddU_str, tTupL, ex2eq, not_true_eq_false, not_false_eq_true, LamX.tLam, LamX.TTold, tSeq, tIf, tNext, tRet, tRetN, tIfS, tTest, tB, tNot, tAnd, tOr, tChain, tOp, tUn, tC, tVar, tCons, tNil, tTup, tLst, tAsg, gName, gTup, gCons, gNil, gSub, tDrop, tCallS, tCB, tM1, tM0, tBM, tBM0, tSl, tPar, tFor_eq, tLc_eq, intU_int, intU_bl, iList, iTup, iEnumT, tDNewK, rSlT, rSlL, iRng1, iRng2, iStr, tThen, tNever, L2.start, tRaiseFile, tMkFile, tYes, tPart, tNoPart, addA_int, addA_str, addU_int, addU_str, addU_ref, subU_int, mulU_int, mulU_ref, fdvU_int, modU_int, powU_int, ltU_int, leU_int, gtU_int, geU_int, eqU_int, eqU_str, eqU_bl, neU_int, neU_str, neU_bl, WE, TruV, List.map, List.length_cons, List.length_nil, List.replicate, List.append, List.getElem?_cons_zero, List.getElem?_cons_succ, List.set_cons_zero, List.set_cons_succ, List.cons_append, List.nil_append, Option.some.injEq, V.int.injEq, V.str.injEq, V.bl.injEq, V.ref.injEq, List.cons.injEq, exists_eq_left, exists_eq_right, and_true, true_and, and_self, exists_eq, exists_const, Bool.not_true, Bool.not_false, Bool.false_eq_true, if_true, if_false, reduceIte, decide_eq_true_eq, bne_iff_ne, exists_eq_left', exists_eq', exists_and_left, Bool.not_eq_true', decide_eq_false_iff_not, Nat.reduceSub, Nat.reduceAdd, reduceCtorEq, false_and, or_false, false_or, exists_false]
    have hfew : l.length ≤ 6 := by have := hT.few; omega
    refine ⟨kvs, .inl hk, l.map (·.1), kv_keys hP, by rw [List.length_map]; omega, fun ys q hperm hsort hq => ?_⟩
    have eq1 : Ex [] TL GT H' (upd H' q (.lst (ys.map V.int))) := Ex.new hq
    have hT6 : Tab l 6 := ⟨hT.nd, hT.rng, hT.len, hT.byt, hfew⟩
    have hG := hT6.grp hperm hsort
    have hyl : ys.length ≤ 6 := by rw [hperm.length_eq, List.length_map]; exact hfew
    have hk1 := eq1.ext p _ (by simp) hk (fun _ z => by cases z)
    have hP1 := pimp (fun _ _ => KvAt.ex eq1) hP
    have s1 := DcK (by simp) eq1 s
    have hq1 : upd H' q (.lst (ys.map V.int)) q = some (.lst (ys.map V.int)) := upd_same
    have eA := e.trans (eq1.mono (by simp))
    generalize upd H' q (.lst (ys.map V.int)) = H2 at hk1 hP1 s1 hq1 eA ⊢
    refine ⟨⟨_, lst_at hq1⟩, fun D hDn => ?_⟩
    refine lcl_list (xs := ys.map V.int) (fun i H3 => Ex [] TL GT H2 H3 ∧ ∃ acc, H3 D = some (.lst acc) ∧ Paired (PairAt K H3) acc ((rowsOf l ys).take i)) ⟨Ex.new hDn, [], upd_same, .nil⟩ (fun i H3 _ e => e.1.sql (by simp) (lst_at hq1)) ?_ ?_
    · rintro i x H3 hx ⟨e3, acc, hl, ha⟩
      obtain ⟨n, hn, rfl⟩ := map_at hx
      simp only [cx_K, gcx_K, lcx_K, LenV, rLenU, tTruU, kTup, tFld, sFld, sFldAug, tMet, tMake, tBM, tDGet, tDGet1, tDGet2, sDPut, tRevL, iEnum, tAug, tAsg, mulV_int, iaddU_int, isubU_int, iaddU_str, tTupL, ex2eq, not_true_eq_false, not_false_eq_true, LamX.tLam, LamX.TTold, tSeq, tIf, tNext, tRet, tRetN, tIfS, tTest, tB, tNot, tAnd, tOr, tChain, tOp, tUn, tC, tVar, tCons, tNil, tTup, tLst, tAsg, gName, gTup, gCons, gNil, gSub, tDrop, tCallS, tCB, tM1, tM0, tBM, tBM0, tSl, tPar, tFor_eq, tLc_eq, intU_int, intU_bl, iList, iTup, iEnumT, tDNewK, rSlT, rSlL, iRng1, iRng2, iStr, tThen, tNever, L2.start, tRaiseFile, tMkFile, tYes, tPart, tNoPart, addA_int, addA_str, addU_int, addU_str, addU_ref, subU_int, mulU_int, mulU_ref, fdvU_int, modU_int, powU_int, ltU_int, leU_int, gtU_int, geU_int, eqU_int, eqU_str, eqU_bl, neU_int, neU_str, neU_bl, WE, TruV, List.map, List.length_cons, List.length_nil, List.replicate, List.append, List.getElem?_cons_zero, List.getElem?_cons_succ, List.set_cons_zero, List.set_cons_succ, List.cons_append, List.nil_append, Option.some.injEq, V.int.injEq, V.str.injEq, V.bl.injEq, V.ref.injEq, List.cons.injEq, exists_eq_left, exists_eq_right, and_true, true_and, and_self, exists_eq, exists_const, Bool.not_true, Bool.not_false, Bool.false_eq_true, if_true, if_false, reduceIte, decide_eq_true_eq, bne_iff_ne, exists_eq_left', exists_eq', exists_and_left, Bool.not_eq_true', decide_eq_false_iff_not, Nat.reduceSub, Nat.reduceAdd, reduceCtorEq, false_and, or_false, false_or, exists_false, wipe, tYes]
      have hnm : n ∈ l.map (·.1) := hperm.mem_iff.mp (List.mem_of_getElem? hn)
      obtain ⟨dt, hdt⟩ := getB_some hnm
      have hk3 := e3.ext p _ (by simp) hk1 (fun _ z => by cases z)
      have g := get_ok n (pimp (fun _ _ => KvAt.ex e3) hP1)
      cases hv : valV kvs (Sum.inl n) with
      | none =>
        rw [hv] at g
        rw [g] at hdt; cases hdt
      | some y =>
        rw [hv] at g
        obtain ⟨x, g1, g2⟩ := g
        refine ⟨y, by have z := DGet.k (k := .inl n) hk3; rw [hv] at z; exact z, sz 2, fun q2 hq2 => ?_⟩
        have e4 : Ex [] TL GT H3 (upd H3 q2 (.tup [.int n, y])) := Ex.new hq2
        have hl4 := e4.ext D _ (by simp) hl (fun _ z => by cases z)
        have e5 : Ex [D] TL GT (upd H3 q2 (.tup [.int n, y])) (upd (upd H3 q2 (.tup [.int n, y])) D (.lst (acc ++ [.ref q2]))) := Ex.put (by simp) hl4 rfl
        have e6 : Ex [D] TL GT H3 (upd (upd H3 q2 (.tup [.int n, y])) D (.lst (acc ++ [.ref q2]))) := (e4.mono (by simp)).trans e5
        refine ⟨_, hl4, ?_, (e3.trans e4).overL hDn hl4, _, upd_same, ?_⟩
        · rw [paired_len ha, List.length_take, sizeLine_eq]
          have : (rowsOf l ys).length = ys.length := by unfold rowsOf; rw [List.length_map]
          omega
        · rw [take_more (x := (n, x)) (by unfold rowsOf; rw [List.getElem?_map, hn, Option.map_some, g1]; rfl)]
          exact paired_append (pimp (fun _ _ h => h.ex e6) ha) (.cons ⟨q2, y, rfl, e5.sqt (SqT.of upd_same), g2.ex e6⟩ .nil)
    · rintro H3 ⟨e3, acc, hl, ha⟩
      have hrl : (rowsOf l ys).length = ys.length := by unfold rowsOf; rw [List.length_map]
      rw [List.length_map, ← hrl, List.take_length] at ha
      have hDr : D ≠ r := fun z => by
        obtain ⟨x, y, zz, ss⟩ := s1
        rw [z, ss] at hDn; cases hDn
      refine h D acc _ H3 (eA.trans (e3.mono (by simp))) (DcK (by simp) e3 s1) ?_ hDr hl ha hG
      rcases eA.fresh (free_none hDn) with z | z
      · exact absurd (by simpa using z) hDr
      · exact z
end
end KB
set_option Elab.async false
set_option linter.all false
set_option maxRecDepth 100000
set_option maxHeartbeats 2000000
namespace KB
open PySem PySem.Spec PyProof.Rows L2 GX
/-! ### the plain law: ops on a device -/
def opA : Op → List Blk → List Blk → List Blk × List Blk
  | .wr n x, b, w => (b, w ++ [(n, x)])
  | .fl, b, w => (w.foldl (fun l p => putB l p.1 p.2) b, [])
def okOp : Op → Prop
  | .wr n x => 0 ≤ n ∧ n < 16 ∧ x.length = 64
  | .fl => True
theorem dstep_cases (v : Dv) (h : v.dead = false) : ((dstep v).2 = true ∧ (dstep v).1.dead = false) ∨ ((dstep v).2 = false ∧ (dstep v).1.dead = true) := by
  unfold dstep
  rw [if_neg (by rw [h]; simp)]
  cases v.fuse with
  | none => exact .inl ⟨rfl, h⟩
  | some n =>
    by_cases hn : n = 0
    · simp only [hn, if_true]; exact .inr ⟨trivial, trivial⟩
    · simp only [hn, if_false]; exact .inl ⟨trivial, h⟩
theorem dop_cases (v : Dv) (o : Op) (h : v.dead = false) (ht : v.total = 16) (ho : okOp o) :
    ((dop v o).2 = true ∧ ((dop v o).1.blocks, (dop v o).1.waiting) = opA o v.blocks v.waiting ∧ (dop v o).1.dead = false ∧ (dop v o).1.total = 16) ∨
    ((dop v o).2 = false ∧ (dop v o).1.blocks = v.blocks ∧ (dop v o).1.waiting = v.waiting ∧ (dop v o).1.dead = true ∧ (dop v o).1.total = 16) := by
  obtain ⟨s1, s2, s3⟩ := dstep_same v
  cases o with
  | wr n x =>
    obtain ⟨h0, h1, h2⟩ := ho
    have e : dop v (.wr n x) = if (dstep v).2 then ({ (dstep v).1 with waiting := (dstep v).1.waiting ++ [(n, x)] }, true) else dstep v := by
      show dwrite v n x = _
      unfold dwrite
      have ok : okNum v n = true := by unfold okNum; rw [h, ht]; simp [h0, h1]
      rw [if_neg (by rw [ok]; simp), if_neg (by simp [h2])]
    rw [e]
    rcases dstep_cases v h with ⟨a, b⟩ | ⟨a, b⟩
    · rw [if_pos a]
      exact .inl ⟨rfl, by show ((dstep v).1.blocks, (dstep v).1.waiting ++ [(n, x)]) = (v.blocks, v.waiting ++ [(n, x)]); rw [s1, s2], b, s3.trans ht⟩
    · rw [if_neg (by rw [a]; simp)]
      exact .inr ⟨a, s1, s2, b, s3.trans ht⟩
  | fl =>
    have e : dop v .fl = if (dstep v).2 then ({ (dstep v).1 with blocks := (dstep v).1.waiting.foldl (fun l p => putB l p.1 p.2) (dstep v).1.blocks, waiting := [] }, true) else dstep v := rfl
    rw [e]
    rcases dstep_cases v h with ⟨a, b⟩ | ⟨a, b⟩
    · rw [if_pos a]
      exact .inl ⟨rfl, by show ((dstep v).1.waiting.foldl (fun l p => putB l p.1 p.2) (dstep v).1.blocks, ([] : List Blk)) = (v.waiting.foldl (fun l p => putB l p.1 p.2) v.blocks, []); rw [s1, s2], b, s3.trans ht⟩
    · rw [if_neg (by rw [a]; simp)]
      exact .inr ⟨a, s1, s2, b, s3.trans ht⟩
theorem run_inv (Pv : Nat → List Blk → List Blk → Prop) : ∀ (ops : List Op) (k : Nat) (v : Dv), v.dead = false → v.total = 16 → Pv k v.blocks v.waiting →
    (∀ i o, ops[i]? = some o → okOp o ∧ ∀ b w, Pv (k + i) b w → Pv (k + i + 1) (opA o b w).1 (opA o b w).2) →
    ((runOps v ops).2 = true ∧ Pv (k + ops.length) (runOps v ops).1.blocks (runOps v ops).1.waiting ∧ (runOps v ops).1.dead = false ∧ (runOps v ops).1.total = 16) ∨
    ((runOps v ops).2 = false ∧ (∃ i, i < ops.length ∧ Pv (k + i) (runOps v ops).1.blocks (runOps v ops).1.waiting) ∧ (runOps v ops).1.dead = true ∧ (runOps v ops).1.total = 16)
  | [], k, v, hd, ht, h0, _ => .inl ⟨rfl, h0, hd, ht⟩
  | o :: r, k, v, hd, ht, h0, hs => by
    obtain ⟨ho, hst⟩ := hs 0 o rfl
    have e : runOps v (o :: r) = if (dop v o).2 = true then runOps (dop v o).1 r else dop v o := rfl
    rw [e]
    rcases dop_cases v o hd ht ho with ⟨a, b, c, d⟩ | ⟨a, b1, b2, c, d⟩
    · rw [if_pos a]
      have h1 : Pv (k + 1) (dop v o).1.blocks (dop v o).1.waiting := by
        have z := hst _ _ h0
        rw [← b] at z
        exact z
      have ih := run_inv Pv r (k + 1) (dop v o).1 c d h1 (fun i o' hi => by
        have z := hs (i + 1) o' hi
        rw [show k + 1 + i = k + (i + 1) by omega]
        exact z)
      rcases ih with ⟨x1, x2, x3⟩ | ⟨x1, ⟨i, hi, x2⟩, x3⟩
      · exact .inl ⟨x1, by rw [List.length_cons, show k + (r.length + 1) = k + 1 + r.length by omega]; exact x2, x3⟩
      · exact .inr ⟨x1, ⟨i + 1, by rw [List.length_cons]; omega, by rw [show k + (i + 1) = k + 1 + i by omega]; exact x2⟩, x3⟩
    · rw [if_neg (by rw [a]; simp)]
      exact .inr ⟨a, ⟨0, by rw [List.length_cons]; omega, by rw [b1, b2]; exact h0⟩, c, d⟩
/-! ### what a block holds -/
def bk (l : List Blk) (n : Int) : List Int := (getB l n).getD zeros
theorem getB_cons (p : Blk) (l : List Blk) (n : Int) : getB (p :: l) n = if p.1 = n then some p.2 else getB l n := by
  unfold getB
  rw [List.find?_cons]
  by_cases h : p.1 = n
  · simp [h]
  · simp [h]
theorem getB_any {l : List Blk} {n : Int} : (l.any fun p => decide (p.1 = n)) = (getB l n).isSome := by
  induction l with
  | nil => rfl
  | cons p l ih =>
    rw [List.any_cons, ih, getB_cons]
    by_cases h : p.1 = n <;> simp [h]
theorem getB_append (a b : List Blk) (n : Int) : getB (a ++ b) n = (getB a n).or (getB b n) := by
  induction a with
  | nil => simp [getB]
  | cons p a ih =>
    rw [List.cons_append, getB_cons, getB_cons, ih]
    by_cases h : p.1 = n <;> simp [h]
theorem getB_map (l : List Blk) (n m : Int) (x : List Int) : getB (l.map fun p => if p.1 = n then (p.1, x) else p) m = if m = n then (getB l m).map (fun _ => x) else getB l m := by
  induction l with
  | nil => by_cases h : m = n <;> simp [getB, h]
  | cons p l ih =>
    rw [List.map_cons, getB_cons, ih, getB_cons]
    by_cases h : p.1 = n
    · rw [if_pos h]
      by_cases hm : m = n
      · subst hm; simp [h]
      · have : ¬ p.1 = m := fun z => hm (by rw [← z, h])
        simp [this, hm]
    · rw [if_neg h]
      by_cases hm : m = n
      · subst hm; simp [h]
      · by_cases hp : p.1 = m <;> simp [hp, hm]
theorem getB_put (l : List Blk) (n m : Int) (x : List Int) : getB (putB l n x) m = if m = n then some x else getB l m := by
  unfold putB
  by_cases h : (l.any fun p => decide (p.1 = n)) = true
  · rw [if_pos h, getB_map]
    by_cases hm : m = n
    · rw [if_pos hm, if_pos hm]
      rw [getB_any] at h
      subst hm
      obtain ⟨y, hy⟩ := Option.isSome_iff_exists.mp h
      rw [hy]; rfl
    · rw [if_neg hm, if_neg hm]
  · rw [if_neg h, getB_append]
    rw [getB_any] at h
    by_cases hm : m = n
    · rw [if_pos hm]
      subst hm
      have : getB l m = none := by
        cases e : getB l m with
        | none => rfl
        | some y => rw [e] at h; simp at h
      rw [this]; simp [getB]
    · rw [if_neg hm]
      have : getB [(n, x)] m = none := by
        rw [getB_cons]; rw [if_neg (by exact fun z => hm z.symm)]; rfl
      rw [this]; simp
theorem bk_put (l : List Blk) (n m : Int) (x : List Int) : bk (putB l n x) m = if m = n then x else bk l m := by
  unfold bk
  rw [getB_put]
  by_cases h : m = n <;> simp [h]
/-- what may stand in block n behind a crash -/
inductive Poss (n : Int) : List Blk → List Int → List Int → Prop where
  | nil {x : List Int} : Poss n [] x x
  | skip {p : Blk} {ws : List Blk} {x y : List Int} : Poss n ws x y → Poss n (ws ++ [p]) x y
  | full {d : List Int} {ws : List Blk} {x y : List Int} : Poss n ws x y → Poss n (ws ++ [(n, d)]) x d
  | half {d : List Int} {ws : List Blk} {x y : List Int} : Poss n ws x y → Poss n (ws ++ [(n, d)]) x (d.take 32 ++ y.drop 32)
theorem bk_turn (l : List Blk) (c : Int) (p : Blk) (m : Int) : bk (dturn l c p) m = bk l m ∨ (m = p.1 ∧ (bk (dturn l c p) m = p.2 ∨ bk (dturn l c p) m = p.2.take 32 ++ (bk l m).drop 32)) := by
  unfold dturn
  split
  · rw [bk_put]
    by_cases h : m = p.1
    · rw [if_pos h]; exact .inr ⟨h, .inl rfl⟩
    · rw [if_neg h]; exact .inl rfl
  · split
    · rw [bk_put]
      by_cases h : m = p.1
      · rw [if_pos h]; exact .inr ⟨h, .inr (by rw [h]; rfl)⟩
      · rw [if_neg h]; exact .inl rfl
    · exact .inl rfl
theorem rst_poss (cs : List Int) (ws b0 : List Blk) (m : Int) : ∀ i, i ≤ ws.length → Poss m (ws.take i) (bk b0 m) (bk (rst cs ws b0 i) m)
  | 0, _ => by rw [List.take_zero]; exact .nil
  | i + 1, hi => by
    have ih := rst_poss cs ws b0 m i (by omega)
    have hp : ws[i]? = some ws[i] := List.getElem?_eq_getElem (by omega)
    rw [take_more hp]
    have e : rst cs ws b0 (i + 1) = dturn (rst cs ws b0 i) ((cs[i]?).getD 0) ws[i] := by
      show (match ws[i]? with
        | some p => dturn (rst cs ws b0 i) ((cs[i]?).getD 0) p
        | none => rst cs ws b0 i) = _
      rw [hp]
    rw [e]
    rcases bk_turn (rst cs ws b0 i) ((cs[i]?).getD 0) ws[i] m with z | ⟨z1, z | z⟩
    · rw [z]; exact .skip ih
    · rw [z]
      have : ws[i] = (m, ws[i].2) := by rw [z1]
      rw [this]; exact .full ih
    · rw [z]
      have : ws[i] = (m, ws[i].2) := by rw [z1]
      rw [this]; exact .half ih
theorem rest_poss (v : Dv) (cs : List Int) (m : Int) : Poss m v.waiting (bk v.blocks m) (bk (drest v cs).blocks m) := by
  have h := rst_poss cs v.waiting v.blocks m v.waiting.length (Nat.le_refl _)
  rw [List.take_length] at h
  exact h
end KB
set_option Elab.async false
set_option linter.all false
set_option maxRecDepth 100000
set_option maxHeartbeats 2000000
namespace KB
open PySem PySem.Spec PyProof.Rows L2 GX
theorem poss_inv {m : Int} (S : List Int → Prop) {ws : List Blk} {x y : List Int} (h : Poss m ws x y) (hx : S x) (hs : ∀ p ∈ ws, p.1 = m → S p.2 ∧ ∀ y, S y → S (p.2.take 32 ++ y.drop 32)) : S y := by
  induction h with
  | nil => exact hx
  | skip h ih => exact ih hx fun p hp => hs p (List.mem_append_left _ hp)
  | full h ih => exact (hs _ (List.mem_append_right _ (List.mem_singleton.mpr rfl)) rfl).1
  | half h ih => exact (hs _ (List.mem_append_right _ (List.mem_singleton.mpr rfl)) rfl).2 _ (ih hx fun p hp => hs p (List.mem_append_left _ hp))
theorem poss_same {m : Int} {ws : List Blk} {x y : List Int} (h : Poss m ws x y) (hs : ∀ p ∈ ws, p.1 ≠ m) : y = x :=
  poss_inv (fun z => z = x) h rfl fun p hp e => absurd e (hs p hp)
/-- the second half is empty -/
def Zt (x : List Int) : Prop := x.length = 64 ∧ x.drop 32 = List.replicate 32 0
theorem zt_mix {d y : List Int} (hd : Zt d) (hy : Zt y) : d.take 32 ++ y.drop 32 = d := by
  rw [hy.2, ← hd.2, List.take_append_drop]
theorem zt_zeros : Zt zeros := ⟨rfl, rfl⟩
theorem ws4_len (l : List Int) : (ws4 l).length = 4 := rfl
theorem full_len {s : Int} {ns : List Int} {rows : List (List Int)} (h : ns.length ≤ 11) : (fullHead s ns rows).length = 64 := by
  unfold fullHead
  rw [List.length_append, List.length_replicate, List.length_append, headL_len, ws4_len]
  omega
theorem zt_full {s : Int} {ns : List Int} {rows : List (List Int)} (h : ns.length ≤ 11) : Zt (fullHead s ns rows) := by
  refine ⟨full_len h, ?_⟩
  unfold fullHead
  have e : (headL s ns ++ ws4 (headL s ns ++ rows.flatten)).length = 10 + 2 * ns.length := by
    rw [List.length_append, headL_len, ws4_len]; omega
  rw [List.drop_append, List.drop_eq_nil_of_le (by rw [e]; omega), List.nil_append, e, List.drop_replicate]
  congr 1
  omega
theorem fm_at (ns : List Int) (r : List Int) : ∀ i (h : i < ns.length), (ns.flatMap pairL ++ r).getD (2 * i) 0 = ns[i] / 256 % 256 ∧ (ns.flatMap pairL ++ r).getD (2 * i + 1) 0 = ns[i] % 256 := by
  induction ns with
  | nil => intro i h; cases h
  | cons n ns ih =>
    intro i h
    rw [List.flatMap_cons]
    cases i with
    | zero => exact ⟨rfl, rfl⟩
    | succ i =>
      have z := ih i (by rw [List.length_cons] at h; omega)
      exact z
theorem rhead_full {s : Int} {ns : List Int} {rows : List (List Int)} (h : ns.length ≤ 11) (hs : 0 ≤ s ∧ s < 65536) (hn : ∀ n ∈ ns, 0 ≤ n ∧ n < 65536) : rhead (fullHead s ns rows) = some (s, ns, ws4 (headL s ns ++ rows.flatten)) := by
  have e0 : fullHead s ns rows = 74 :: 82 :: (s / 256 % 256) :: (s % 256) :: ((ns.length : Int) / 256 % 256) :: ((ns.length : Int) % 256) :: (ns.flatMap pairL ++ (ws4 (headL s ns ++ rows.flatten) ++ List.replicate (64 - (headL s ns ++ ws4 (headL s ns ++ rows.flatten)).length) 0)) := by
    unfold fullHead headL
    simp [pairL]
  have e2 : numAt (fullHead s ns rows) 2 = s := by
    rw [e0]
    show s / 256 % 256 * 256 + s % 256 = s
    omega
  have e4 : numAt (fullHead s ns rows) 4 = ns.length := by
    rw [e0]
    show (ns.length : Int) / 256 % 256 * 256 + (ns.length : Int) % 256 = ns.length
    omega
  have et : (fullHead s ns rows).take 2 = [74, 82] := by rw [e0]; rfl
  unfold rhead
  rw [if_neg (by rw [et]; simp), e4, if_neg (by omega), e2]
  congr 2
  congr 1
  · rw [Int.toNat_natCast]
    apply List.ext_getElem
    · rw [List.length_map, List.length_range]
    · intro i h1 h2
      rw [List.getElem_map, List.getElem_range]
      obtain ⟨a, b⟩ := fm_at ns (ws4 (headL s ns ++ rows.flatten) ++ List.replicate (64 - (headL s ns ++ ws4 (headL s ns ++ rows.flatten)).length) 0) i h2
      have hz := hn ns[i] (List.getElem_mem h2)
      unfold numAt
      rw [e0]
      have c1 : 6 + 2 * i = (2 * i) + 6 := by omega
      have c2 : 6 + 2 * i + 1 = (2 * i + 1) + 6 := by omega
      rw [c2, c1]
      show (ns.flatMap pairL ++ _).getD (2 * i) 0 * 256 + (ns.flatMap pairL ++ _).getD (2 * i + 1) 0 = ns[i]
      rw [a, b]
      omega
  · rw [Int.toNat_natCast]
    have hd : (fullHead s ns rows).drop (6 + 2 * ns.length) = ws4 (headL s ns ++ rows.flatten) ++ List.replicate (64 - (headL s ns ++ ws4 (headL s ns ++ rows.flatten)).length) 0 := by
      unfold fullHead
      rw [List.append_assoc, ← headL_len s ns, List.drop_left]
    rw [hd, ← ws4_len (headL s ns ++ rows.flatten), List.take_left]
theorem rhead_zeros : rhead zeros = none := by decide
end KB
set_option Elab.async false
set_option linter.all false
set_option maxRecDepth 100000
set_option maxHeartbeats 2000000
namespace KB
open PySem PySem.Spec PyProof.Rows L2 GX
theorem putB_keys {l : List Blk} {n : Int} {x : List Int} (h : (l.map (·.1)).Nodup) : ((putB l n x).map (·.1)).Nodup := by
  unfold putB
  split
  · have e : (l.map fun p => if p.1 = n then (p.1, x) else p).map (·.1) = l.map (·.1) := by
      rw [List.map_map]
      congr 1
      funext p
      show (if p.1 = n then (p.1, x) else p).1 = p.1
      split <;> rfl
    rw [e]; exact h
  · rename_i hn
    rw [List.map_append, List.nodup_append]
    refine ⟨h, by simp, ?_⟩
    intro a ha b hb e
    simp only [List.map_cons, List.map_nil, List.mem_singleton] at hb
    subst hb
    subst e
    obtain ⟨p, hp, e⟩ := List.mem_map.mp ha
    exact hn (List.any_eq_true.mpr ⟨p, hp, by simpa using e⟩)
theorem putB_memK {l : List Blk} {n : Int} {x : List Int} {q : Blk} (h : q ∈ putB l n x) : q = (n, x) ∨ q ∈ l := by
  unfold putB at h
  split at h
  · obtain ⟨p, hp, e⟩ := List.mem_map.mp h
    split at e
    · rename_i hpn
      rw [← e, hpn]; exact .inl rfl
    · rw [← e]; exact .inr hp
  · rcases List.mem_append.mp h with z | z
    · exact .inr z
    · exact .inl (List.mem_singleton.mp z)
/-- one block as it may stand -/
def OkB (p : Blk) : Prop := 0 ≤ p.1 ∧ p.1 < 16 ∧ p.2.length = 64 ∧ ∀ x ∈ p.2, 0 ≤ x
structure Fine (b w : List Blk) : Prop where
  kb : ∀ p ∈ b, OkB p
  kw : ∀ p ∈ w, OkB p
  nd : (b.map (·.1)).Nodup
def okOpB : Op → Prop
  | .wr n x => OkB (n, x)
  | .fl => True
theorem okOpB.ok {o : Op} (h : okOpB o) : okOp o := by
  cases o with
  | wr n x => exact ⟨h.1, h.2.1, h.2.2.1⟩
  | fl => trivial
theorem fine_put {b w : List Blk} {p : Blk} (h : Fine b w) (hp : OkB p) : Fine (putB b p.1 p.2) w :=
  ⟨fun q hq => (putB_memK hq).elim (fun z => by rw [z]; exact hp) (h.kb q), h.kw, putB_keys h.nd⟩
theorem fine_puts {w : List Blk} : ∀ {ws b : List Blk}, Fine b w → (∀ p ∈ ws, OkB p) → Fine (ws.foldl (fun l p => putB l p.1 p.2) b) w
  | [], _, h, _ => h
  | p :: ws, b, h, hs => fine_puts (ws := ws) (fine_put h (hs p List.mem_cons_self)) fun q hq => hs q (List.mem_cons_of_mem _ hq)
theorem fine_op {b w : List Blk} {o : Op} (h : Fine b w) (ho : okOpB o) : Fine (opA o b w).1 (opA o b w).2 := by
  cases o with
  | wr n x => exact ⟨h.kb, fun p hp => (List.mem_append.mp hp).elim (h.kw p) (fun z => by rw [List.mem_singleton.mp z]; exact ho), h.nd⟩
  | fl =>
    have z := fine_puts h h.kw
    exact ⟨z.kb, (fun p hp => by cases hp), z.nd⟩
theorem bk_ok {b w : List Blk} (h : Fine b w) (n : Int) : (bk b n).length = 64 ∧ ∀ x ∈ bk b n, 0 ≤ x := by
  unfold bk
  cases e : getB b n with
  | none => exact ⟨rfl, fun x hx => by rw [List.eq_of_mem_replicate hx]; exact Int.le_refl 0⟩
  | some x => exact (h.kb _ (getB_mem e)).2.2
theorem fine_turn {b w : List Blk} {c : Int} {p : Blk} (h : Fine b w) (hp : OkB p) : Fine (dturn b c p) w := by
  unfold dturn
  split
  · exact fine_put h hp
  · split
    · have z := bk_ok h p.1
      refine fine_put (p := (p.1, p.2.take 32 ++ (bk b p.1).drop 32)) h ⟨hp.1, hp.2.1, ?_, fun x hx => ?_⟩
      · show (p.2.take 32 ++ (bk b p.1).drop 32).length = 64
        rw [List.length_append, List.length_take, List.length_drop, hp.2.2.1, z.1]
        rfl
      · rcases List.mem_append.mp hx with y | y
        · exact hp.2.2.2 x (List.mem_of_mem_take y)
        · exact z.2 x (List.mem_of_mem_drop y)
    · exact h
theorem fine_rst {b w : List Blk} (cs : List Int) (h : Fine b w) : ∀ i, Fine (rst cs w b i) []
  | 0 => ⟨h.kb, (fun p hp => by cases hp), h.nd⟩
  | i + 1 => by
    show Fine (match w[i]? with
      | some p => dturn (rst cs w b i) ((cs[i]?).getD 0) p
      | none => rst cs w b i) []
    cases e : w[i]? with
    | none => exact fine_rst cs h i
    | some p => exact fine_turn (fine_rst cs h i) (h.kw p (List.mem_of_getElem? e))
theorem fine_len {b w : List Blk} (h : Fine b w) : b.length ≤ 16 := by
  have e : ((b.map (·.1)).map Int.toNat).length ≤ (List.range 16).length := by
    refine nat_nodup_len _ _ ?_ ?_
    · rw [List.Nodup, List.pairwise_map]
      refine List.Pairwise.imp_of_mem (fun {x y} hx hy hne => ?_) h.nd
      obtain ⟨p, hp, rfl⟩ := List.mem_map.mp hx
      obtain ⟨q, hq, rfl⟩ := List.mem_map.mp hy
      have a := h.kb p hp
      have c := h.kb q hq
      unfold OkB at a c
      intro z
      exact hne (by omega)
    · intro x hx
      obtain ⟨y, hy, rfl⟩ := List.mem_map.mp hx
      obtain ⟨p, hp, rfl⟩ := List.mem_map.mp hy
      have a := h.kb p hp
      unfold OkB at a
      rw [List.mem_range]; omega
  rw [List.length_map, List.length_map, List.length_range] at e
  exact e
theorem fine_wf {v : Dv} (h : Fine v.blocks v.waiting) (ht : v.total = 16) : WfD v :=
  ⟨fun p hp => (h.kb p hp).2.2.1, fun p hp => (h.kw p hp).2.2.1, fun p hp => (h.kb p hp).2.2.2, fun p hp => (h.kw p hp).2.2.2, ht⟩
end KB
set_option Elab.async false
set_option linter.all false
set_option maxRecDepth 100000
set_option maxHeartbeats 2000000
namespace KB
open PySem PySem.Spec PyProof.Rows L2 GX
def putAll (b rows : List Blk) : List Blk := rows.foldl (fun l p => putB l p.1 p.2) b
theorem puts_not {n : Int} : ∀ {rows b : List Blk}, n ∉ rows.map (·.1) → bk (putAll b rows) n = bk b n
  | [], _, _ => rfl
  | p :: rows, b, h => by
    have h1 : n ≠ p.1 := fun e => h (by rw [List.map_cons, e]; exact List.mem_cons_self)
    have h2 : n ∉ rows.map (·.1) := fun e => h (by rw [List.map_cons]; exact List.mem_cons_of_mem _ e)
    have ih := puts_not (b := putB b p.1 p.2) h2
    show bk (putAll (putB b p.1 p.2) rows) n = _
    rw [ih, bk_put, if_neg h1]
theorem puts_mem {n : Int} {d : List Int} : ∀ {rows b : List Blk}, (rows.map (·.1)).Nodup → (n, d) ∈ rows → bk (putAll b rows) n = d
  | [], _, _, h => by cases h
  | p :: rows, b, nd, h => by
    rw [List.map_cons, List.nodup_cons] at nd
    show bk (putAll (putB b p.1 p.2) rows) n = _
    rcases List.mem_cons.mp h with z | z
    · rw [← z] at nd ⊢
      rw [puts_not nd.1, bk_put, if_pos rfl]
    · exact puts_mem nd.2 z
/-- rows of a group as they are committed -/
structure Rw (rows : List Blk) : Prop where
  few : rows.length ≤ 5
  ne : rows ≠ []
  nd : (rows.map (·.1)).Nodup
  rng : ∀ p ∈ rows, 8 ≤ p.1 ∧ p.1 < 15
  len : ∀ p ∈ rows, p.2.length = 64
  nn : ∀ p ∈ rows, ∀ x ∈ p.2, 0 ≤ x
theorem Rw.ok {rows : List Blk} (R : Rw rows) {p : Blk} (h : p ∈ rows) : OkB p := ⟨by have := R.rng p h; omega, by have := R.rng p h; omega, R.len p h, R.nn p h⟩
def HM (b l : List Blk) : Prop := ∀ n : Int, 8 ≤ n → n < 15 → bk b n = bk l n
structure SA (b l : List Blk) : Prop where
  hd : bk b 1 = zeros
  hm : HM b l
structure SC (b k : List Blk) (s : Int) (rows : List Blk) : Prop where
  hd : bk b 1 = fullHead s (rows.map (·.1)) (rows.map (·.2))
  dt : ∀ (i : Nat) (p : Blk), rows[i]? = some p → bk b (1 + 1 + (i : Int)) = p.2
  hm : ∀ n : Int, 8 ≤ n → n < 15 → n ∉ rows.map (·.1) → bk b n = bk k n
structure CR (b k l : List Blk) (s : Int) (rows : List Blk) : Prop where
  s0 : 0 ≤ s ∧ s < 65536
  rw_ : Rw rows
  sc : SC b k s rows
  lm : HM l (putAll k rows)
def Good (b k l : List Blk) : Prop := SA b k ∨ SA b l ∨ ∃ s rows, CR b k l s rows
theorem same_blk {v : Dv} {m : Int} (cs : List Int) (h : ∀ p ∈ v.waiting, p.1 ≠ m) : bk (drest v cs).blocks m = bk v.blocks m := poss_same (rest_poss v cs m) h
/-- how a run of ops may end -/
def Ends2 (r : Dv × Bool) (k l : List Blk) : Prop :=
  (r.2 = true ∧ r.1.waiting = [] ∧ SA r.1.blocks l ∧ Fine r.1.blocks r.1.waiting ∧ r.1.dead = false ∧ r.1.total = 16) ∨
  (r.2 = false ∧ r.1.dead = true ∧ r.1.total = 16 ∧ Fine r.1.blocks r.1.waiting ∧ r.1.waiting.length ≤ 20 ∧ ∀ cs, Good (drest r.1 cs).blocks k l)
theorem sc_keep {b b' k rows : List Blk} {s : Int} (R : Rw rows) (h : SC b k s rows) (h1 : bk b' 1 = bk b 1) (h2 : ∀ m : Int, m ∉ rows.map (·.1) → m ≠ 1 → bk b' m = bk b m) : SC b' k s rows := by
  refine ⟨h1.trans h.hd, fun i p hp => ?_, fun n n1 n2 hn => (h2 n hn (by omega)).trans (h.hm n n1 n2 hn)⟩
  have hi : i < rows.length := by
    rcases Nat.lt_or_ge i rows.length with z | z
    · exact z
    · rw [List.getElem?_eq_none z] at hp; cases hp
  have hf := R.few
  refine (h2 _ (fun hm => ?_) (by omega)).trans (h.dt i p hp)
  obtain ⟨q, hq, e⟩ := List.mem_map.mp hm
  have := R.rng q hq
  omega
theorem home_law {v : Dv} {k l rows : List Blk} {s : Int} (hd : v.dead = false) (ht : v.total = 16) (hw : v.waiting = []) (hf : Fine v.blocks v.waiting) (C : CR v.blocks k l s rows) : Ends2 (runOps v (homeOps rows)) k l := by
  obtain ⟨s0, R, hc, hl⟩ := C
  have hlen := home_len rows
  have step := run_inv (fun i b w => Fine b w ∧ w.length ≤ i ∧ ((i ≤ rows.length ∧ SC b k s rows ∧ w = rows.take i) ∨ (i = rows.length + 1 ∧ SC b k s rows ∧ HM b l ∧ w = []) ∨ (i = rows.length + 2 ∧ SC b k s rows ∧ HM b l ∧ w = [(1, zeros)]) ∨ (i = rows.length + 3 ∧ SA b l ∧ w = [])))
    (homeOps rows) 0 v hd ht ⟨hf, by rw [hw]; exact Nat.le_refl _, .inl ⟨Nat.zero_le _, hc, hw⟩⟩ ?_
  · rw [hlen] at step
    rcases step with ⟨a, ⟨b1, _, b2⟩, c, d⟩ | ⟨a, ⟨i, hi, b1, b3, b2⟩, c, d⟩
    · rcases b2 with ⟨z, _⟩ | ⟨z, _⟩ | ⟨z, _⟩ | ⟨_, z1, z2⟩
      · omega
      · omega
      · omega
      · exact .inl ⟨a, z2, z1, b1, c, d⟩
    · have hf5 := R.few
      refine .inr ⟨a, c, d, b1, by omega, fun cs => ?_⟩
      rcases b2 with ⟨_, z1, z2⟩ | ⟨_, z1, _, z2⟩ | ⟨_, z1, z3, z2⟩ | ⟨z, _⟩
      · refine .inr (.inr ⟨s, rows, s0, R, sc_keep R z1 (same_blk cs fun p hp => ?_) fun m hm _ => same_blk cs fun p hp e => ?_, hl⟩)
        · rw [z2] at hp
          have := R.rng p (List.mem_of_mem_take hp)
          omega
        · rw [z2] at hp
          exact hm (List.mem_map.mpr ⟨p, List.mem_of_mem_take hp, e⟩)
      · exact .inr (.inr ⟨s, rows, s0, R, sc_keep R z1 (same_blk cs fun p hp => by rw [z2] at hp; cases hp) (fun m hm _ => same_blk cs fun p hp e => by rw [z2] at hp; cases hp), hl⟩)
      · have hne : ∀ m : Int, m ≠ 1 → bk (drest (runOps v (homeOps rows)).1 cs).blocks m = bk (runOps v (homeOps rows)).1.blocks m := fun m hm => same_blk cs fun p hp e => by
          rw [z2, List.mem_singleton] at hp
          rw [hp] at e
          exact hm e.symm
        have hz : Zt (fullHead s (rows.map (·.1)) (rows.map (·.2))) := zt_full (by rw [List.length_map]; omega)
        have h1 := poss_inv (fun x => x = fullHead s (rows.map (·.1)) (rows.map (·.2)) ∨ x = zeros) (rest_poss (runOps v (homeOps rows)).1 cs 1) (.inl z1.hd) fun p hp _ => by
          rw [z2, List.mem_singleton] at hp
          rw [hp]
          refine ⟨.inr rfl, fun y hy => .inr ?_⟩
          refine zt_mix zt_zeros ?_
          rcases hy with e | e
          · rw [e]; exact hz
          · rw [e]; exact zt_zeros
        rcases h1 with e | e
        · exact .inr (.inr ⟨s, rows, s0, R, sc_keep R z1 (e.trans z1.hd.symm) fun m _ hm => hne m hm, hl⟩)
        · exact .inr (.inl ⟨e, fun n n1 n2 => (hne n (by omega)).trans (z3 n n1 n2)⟩)
      · omega
  · intro i o hi
    rw [Nat.zero_add]
    rcases Nat.lt_or_ge i rows.length with hlt | hge
    · have hr := home_row (List.getElem?_eq_getElem hlt)
      rw [hr] at hi
      obtain rfl := Option.some.inj hi
      have hm : rows[i] ∈ rows := List.getElem_mem hlt
      have ok := R.ok hm
      refine ⟨⟨ok.1, ok.2.1, ok.2.2.1⟩, fun b w ⟨f, g, h⟩ => ⟨fine_op (o := .wr _ _) f ok, by show (w ++ [_]).length ≤ _; rw [List.length_append]; show w.length + 1 ≤ i + 1; omega, ?_⟩⟩
      rcases h with ⟨_, z1, z2⟩ | ⟨z, _⟩ | ⟨z, _⟩ | ⟨z, _⟩
      · refine .inl ⟨hlt, z1, ?_⟩
        show w ++ [(rows[i].1, rows[i].2)] = _
        rw [z2, take_more (List.getElem?_eq_getElem hlt)]
      · omega
      · omega
      · omega
    · obtain ⟨j, rfl⟩ : ∃ j, i = rows.length + j := ⟨i - rows.length, by omega⟩
      rw [home_end] at hi
      match j, hi with
      | 0, hi =>
        obtain rfl : Op.fl = o := Option.some.inj hi
        refine ⟨trivial, fun b w ⟨f, g, h⟩ => ⟨fine_op (o := .fl) f trivial, Nat.zero_le _, ?_⟩⟩
        rcases h with ⟨_, z1, z2⟩ | ⟨z, _⟩ | ⟨z, _⟩ | ⟨z, _⟩
        · have hw2 : w = rows := by rw [z2]; exact List.take_length
          have hp : ∀ m : Int, m ∉ rows.map (·.1) → bk (putAll b rows) m = bk b m := fun m hm => puts_not hm
          refine .inr (.inl ⟨rfl, ?_, ?_, rfl⟩)
          · show SC (putAll b w) k s rows
            rw [hw2]
            refine sc_keep R z1 (hp 1 fun hm => ?_) fun m hm _ => hp m hm
            obtain ⟨q, hq, e⟩ := List.mem_map.mp hm
            have := R.rng q hq
            omega
          · show HM (putAll b w) l
            rw [hw2]
            intro n n1 n2
            rw [hl n n1 n2]
            by_cases hm : n ∈ rows.map (·.1)
            · obtain ⟨q, hq, e⟩ := List.mem_map.mp hm
              have hq' : (n, q.2) ∈ rows := by rw [← e]; exact hq
              rw [puts_mem R.nd hq', puts_mem R.nd hq']
            · rw [hp n hm, puts_not hm, z1.hm n n1 n2 hm]
        · omega
        · omega
        · omega
      | 1, hi =>
        obtain rfl : Op.wr 1 zeros = o := Option.some.inj hi
        have ok : OkB (1, zeros) := ⟨by decide, by decide, rfl, fun x hx => by rw [List.eq_of_mem_replicate hx]; exact Int.le_refl 0⟩
        refine ⟨⟨ok.1, ok.2.1, ok.2.2.1⟩, fun b w ⟨f, g, h⟩ => ⟨fine_op (o := .wr _ _) f ok, by show (w ++ [_]).length ≤ _; rw [List.length_append]; show w.length + 1 ≤ _ + 1; omega, ?_⟩⟩
        rcases h with ⟨z, _⟩ | ⟨_, z1, z3, z2⟩ | ⟨z, _⟩ | ⟨z, _⟩
        · omega
        · exact .inr (.inr (.inl ⟨rfl, z1, z3, by show w ++ [(1, zeros)] = _; rw [z2]; rfl⟩))
        · omega
        · omega
      | 2, hi =>
        obtain rfl : Op.fl = o := Option.some.inj hi
        refine ⟨trivial, fun b w ⟨f, g, h⟩ => ⟨fine_op (o := .fl) f trivial, Nat.zero_le _, ?_⟩⟩
        rcases h with ⟨z, _⟩ | ⟨z, _⟩ | ⟨_, z1, z3, z2⟩ | ⟨z, _⟩
        · omega
        · omega
        · refine .inr (.inr (.inr ⟨rfl, ?_, rfl⟩))
          show SA (w.foldl (fun l p => putB l p.1 p.2) b) l
          rw [z2]
          refine ⟨by show bk (putB b 1 zeros) 1 = zeros; rw [bk_put, if_pos rfl], fun n n1 n2 => ?_⟩
          show bk (putB b 1 zeros) n = _
          rw [bk_put, if_neg (by omega)]
          exact z3 n n1 n2
        · omega
      | j + 3, hi => simp at hi
end KB
set_option Elab.async false
set_option linter.all false
set_option maxRecDepth 100000
set_option maxHeartbeats 2000000
namespace KB
open PySem PySem.Spec PyProof.Rows L2 GX
def jw (rows : List Blk) : List Blk := rows.zipIdx.map fun p => (1 + 1 + (p.2 : Int), p.1.2)
theorem jw_at {rows : List Blk} {i : Nat} {p : Blk} (h : rows[i]? = some p) : (jw rows)[i]? = some (1 + 1 + (i : Int), p.2) := by
  unfold jw
  rw [List.getElem?_map, List.getElem?_zipIdx, h]
  simp
theorem jw_len (rows : List Blk) : (jw rows).length = rows.length := by
  unfold jw
  rw [List.length_map, List.length_zipIdx]
theorem jw_mem {rows : List Blk} {q : Blk} (h : q ∈ jw rows) : ∃ i p, i < rows.length ∧ rows[i]? = some p ∧ q = (1 + 1 + (i : Int), p.2) := by
  obtain ⟨i, hi⟩ := List.getElem?_of_mem h
  have hl : i < rows.length := by
    rcases Nat.lt_or_ge i rows.length with z | z
    · exact z
    · rw [List.getElem?_eq_none (by rw [jw_len]; exact z)] at hi; cases hi
  have hr := List.getElem?_eq_getElem hl
  rw [jw_at hr] at hi
  exact ⟨i, _, hl, hr, (Option.some.inj hi).symm⟩
theorem jw_nd (rows : List Blk) : ((jw rows).map (·.1)).Nodup := by
  have e : (jw rows).map (·.1) = (List.range' 0 rows.length).map fun i : Nat => (1 : Int) + 1 + (i : Int) := by
    unfold jw
    rw [List.map_map, ← List.zipIdx_map_snd 0 rows, List.map_map]
    rfl
  rw [e, List.Nodup, List.pairwise_map]
  exact List.Pairwise.imp (fun {a b} h z => h (by omega)) (List.nodup_range' (s := 0) (n := rows.length) (step := 1))
theorem pair_nn (n : Int) : ∀ x ∈ pairL n, 0 ≤ x := fun x hx => by
  unfold pairL at hx
  simp only [List.mem_cons, List.not_mem_nil, or_false] at hx
  rcases hx with rfl | rfl <;> omega
theorem full_nn {s : Int} {ns : List Int} {rows : List (List Int)} : ∀ x ∈ fullHead s ns rows, 0 ≤ x := fun x hx => by
  unfold fullHead headL ws4 at hx
  simp only [List.mem_append, List.mem_flatMap, List.mem_cons, List.not_mem_nil, or_false] at hx
  rcases hx with ((((h | h) | h) | ⟨n, _, h⟩) | (h | h)) | h
  · rcases h with rfl | rfl <;> decide
  · exact pair_nn _ x h
  · exact pair_nn _ x h
  · exact pair_nn _ x h
  · exact pair_nn _ x h
  · exact pair_nn _ x h
  · rw [List.eq_of_mem_replicate h]; exact Int.le_refl 0
theorem commit_law {v : Dv} {k l rows : List Blk} {s : Int} (hd : v.dead = false) (ht : v.total = 16) (hw : v.waiting = []) (hf : Fine v.blocks v.waiting) (A : SA v.blocks k) (R : Rw rows) (hl : HM l (putAll k rows)) : Ends2 (runOps v (commitOps s rows ++ homeOps rows)) k l := by
  have hf5 := R.few
  have hlen := commit_len s rows
  have hz : Zt (fullHead (s % 65536) (rows.map (·.1)) (rows.map (·.2))) := zt_full (by rw [List.length_map]; omega)
  have s0 : 0 ≤ s % 65536 ∧ s % 65536 < 65536 := by omega
  have jk : ∀ q ∈ jw rows, 2 ≤ q.1 ∧ q.1 < 8 := fun q hq => by
    obtain ⟨i, p, h1, h2, rfl⟩ := jw_mem hq
    show 2 ≤ (1 : Int) + 1 + i ∧ (1 : Int) + 1 + i < 8
    omega
  have hfull : OkB (1, fullHead (s % 65536) (rows.map (·.1)) (rows.map (·.2))) := ⟨(by decide : (0 : Int) ≤ 1), (by decide : (1 : Int) < 16), hz.1, full_nn⟩
  have step := run_inv (fun i b w => Fine b w ∧ w.length ≤ i ∧ ((i ≤ rows.length ∧ SA b k ∧ w = (jw rows).take i) ∨ (i = rows.length + 1 ∧ SA b k ∧ (∀ (i : Nat) (p : Blk), rows[i]? = some p → bk b (1 + 1 + (i : Int)) = p.2) ∧ w = []) ∨
      (i = rows.length + 2 ∧ SA b k ∧ (∀ (i : Nat) (p : Blk), rows[i]? = some p → bk b (1 + 1 + (i : Int)) = p.2) ∧ w = [(1, fullHead (s % 65536) (rows.map (·.1)) (rows.map (·.2)))]) ∨ (i = rows.length + 3 ∧ SC b k (s % 65536) rows ∧ w = [])))
    (commitOps s rows) 0 v hd ht ⟨hf, by rw [hw]; exact Nat.le_refl _, .inl ⟨Nat.zero_le _, A, hw⟩⟩ ?_
  · rw [hlen] at step
    have ea := run_append v (commitOps s rows) (homeOps rows)
    rcases step with ⟨a, ⟨b1, _, b2⟩, c, d⟩ | ⟨a, ⟨i, hi, b1, b3, b2⟩, c, d⟩
    · rw [if_pos a] at ea
      rw [ea]
      rcases b2 with ⟨z, _⟩ | ⟨z, _⟩ | ⟨z, _⟩ | ⟨_, z1, z2⟩
      · omega
      · omega
      · omega
      · exact home_law c d z2 b1 ⟨s0, R, z1, hl⟩
    · rw [if_neg (by rw [a]; simp)] at ea
      rw [ea]
      refine .inr ⟨a, c, d, b1, by omega, fun cs => ?_⟩
      have keepA : ∀ {m : Int}, SA (runOps v (commitOps s rows)).1.blocks k → (∀ m : Int, m = 1 ∨ (8 ≤ m ∧ m < 15) → bk (drest (runOps v (commitOps s rows)).1 cs).blocks m = bk (runOps v (commitOps s rows)).1.blocks m) → Good (drest (runOps v (commitOps s rows)).1 cs).blocks k l := fun {_} z1 h => .inl ⟨(h 1 (.inl rfl)).trans z1.hd, fun n n1 n2 => (h n (.inr ⟨n1, n2⟩)).trans (z1.hm n n1 n2)⟩
      rcases b2 with ⟨_, z1, z2⟩ | ⟨_, z1, _, z2⟩ | ⟨_, z1, z3, z2⟩ | ⟨z, _⟩
      · refine keepA (m := 0) z1 fun m hm => same_blk cs fun p hp e => ?_
        rw [z2] at hp
        have := jk p (List.mem_of_mem_take hp)
        omega
      · exact keepA (m := 0) z1 fun m hm => same_blk cs fun p hp e => by rw [z2] at hp; cases hp
      · have hne : ∀ m : Int, m ≠ 1 → bk (drest (runOps v (commitOps s rows)).1 cs).blocks m = bk (runOps v (commitOps s rows)).1.blocks m := fun m hm => same_blk cs fun p hp e => by
          rw [z2, List.mem_singleton] at hp
          rw [hp] at e
          exact hm e.symm
        have h1 := poss_inv (fun x => x = fullHead (s % 65536) (rows.map (·.1)) (rows.map (·.2)) ∨ x = zeros) (rest_poss (runOps v (commitOps s rows)).1 cs 1) (.inr z1.hd) fun p hp _ => by
          rw [z2, List.mem_singleton] at hp
          rw [hp]
          refine ⟨.inl rfl, fun y hy => .inl ?_⟩
          refine zt_mix hz ?_
          rcases hy with e | e
          · rw [e]; exact hz
          · rw [e]; exact zt_zeros
        rcases h1 with e | e
        · refine .inr (.inr ⟨s % 65536, rows, s0, R, ⟨e, fun i p hp => (hne _ (by omega)).trans (z3 i p hp), fun n n1 n2 _ => (hne n (by omega)).trans (z1.hm n n1 n2)⟩, hl⟩)
        · exact .inl ⟨e, fun n n1 n2 => (hne n (by omega)).trans (z1.hm n n1 n2)⟩
      · omega
  · intro i o hi
    rw [Nat.zero_add]
    rcases Nat.lt_or_ge i rows.length with hlt | hge
    · have hg := List.getElem?_eq_getElem hlt
      have hr := commit_row (s := s) hg
      rw [hr] at hi
      obtain rfl := Option.some.inj hi
      have hm : rows[i] ∈ rows := List.getElem_mem hlt
      have ok : OkB (1 + 1 + (i : Int), rows[i].2) := ⟨by show 0 ≤ (1 : Int) + 1 + i; omega, by show (1 : Int) + 1 + i < 16; omega, R.len rows[i] hm, R.nn rows[i] hm⟩
      refine ⟨⟨ok.1, ok.2.1, ok.2.2.1⟩, fun b w ⟨f, g, h⟩ => ⟨fine_op (o := .wr _ _) f ok, by show (w ++ [_]).length ≤ _; rw [List.length_append]; show w.length + 1 ≤ i + 1; omega, ?_⟩⟩
      rcases h with ⟨_, z1, z2⟩ | ⟨z, _⟩ | ⟨z, _⟩ | ⟨z, _⟩
      · refine .inl ⟨hlt, z1, ?_⟩
        show w ++ [(1 + 1 + (i : Int), rows[i].2)] = _
        rw [z2, take_more (jw_at hg)]
      · omega
      · omega
      · omega
    · obtain ⟨j, rfl⟩ : ∃ j, i = rows.length + j := ⟨i - rows.length, by omega⟩
      rw [commit_end] at hi
      match j, hi with
      | 0, hi =>
        obtain rfl : Op.fl = o := Option.some.inj hi
        refine ⟨trivial, fun b w ⟨f, g, h⟩ => ⟨fine_op (o := .fl) f trivial, Nat.zero_le _, ?_⟩⟩
        rcases h with ⟨_, z1, z2⟩ | ⟨z, _⟩ | ⟨z, _⟩ | ⟨z, _⟩
        · have hw2 : w = jw rows := by rw [z2]; exact List.take_of_length_le (by rw [jw_len]; omega)
          have hp : ∀ m : Int, m = 1 ∨ 8 ≤ m → bk (putAll b (jw rows)) m = bk b m := fun m hm => puts_not fun hk => by
            obtain ⟨q, hq, e⟩ := List.mem_map.mp hk
            have := jk q hq
            omega
          refine .inr (.inl ⟨rfl, ?_, ?_, rfl⟩)
          · show SA (putAll b w) k
            rw [hw2]
            exact ⟨(hp 1 (.inl rfl)).trans z1.hd, fun n n1 n2 => (hp n (.inr n1)).trans (z1.hm n n1 n2)⟩
          · intro i p hip
            show bk (putAll b w) _ = _
            rw [hw2]
            exact puts_mem (jw_nd rows) (List.mem_of_getElem? (jw_at hip))
        · omega
        · omega
        · omega
      | 1, hi =>
        obtain rfl := Option.some.inj hi
        refine ⟨⟨hfull.1, hfull.2.1, hfull.2.2.1⟩, fun b w ⟨f, g, h⟩ => ⟨fine_op (o := .wr _ _) f hfull, by show (w ++ [_]).length ≤ _; rw [List.length_append]; show w.length + 1 ≤ _ + 1; omega, ?_⟩⟩
        rcases h with ⟨z, _⟩ | ⟨_, z1, z3, z2⟩ | ⟨z, _⟩ | ⟨z, _⟩
        · omega
        · exact .inr (.inr (.inl ⟨rfl, z1, z3, by show w ++ [_] = _; rw [z2]; rfl⟩))
        · omega
        · omega
      | 2, hi =>
        obtain rfl : Op.fl = o := Option.some.inj hi
        refine ⟨trivial, fun b w ⟨f, g, h⟩ => ⟨fine_op (o := .fl) f trivial, Nat.zero_le _, ?_⟩⟩
        rcases h with ⟨z, _⟩ | ⟨z, _⟩ | ⟨_, z1, z3, z2⟩ | ⟨z, _⟩
        · omega
        · omega
        · refine .inr (.inr (.inr ⟨rfl, ?_, rfl⟩))
          show SC (w.foldl (fun l p => putB l p.1 p.2) b) k _ rows
          rw [z2]
          have hb : ∀ m : Int, bk (putB b 1 (fullHead (s % 65536) (rows.map (·.1)) (rows.map (·.2)))) m = if m = 1 then fullHead (s % 65536) (rows.map (·.1)) (rows.map (·.2)) else bk b m := fun m => bk_put _ _ _ _
          refine ⟨by show bk (putB b 1 _) 1 = _; rw [hb, if_pos rfl], fun i p hp => ?_, fun n n1 n2 _ => ?_⟩
          · show bk (putB b 1 _) _ = _
            rw [hb, if_neg (by omega)]; exact z3 i p hp
          · show bk (putB b 1 _) _ = _
            rw [hb, if_neg (by omega)]; exact z1.hm n n1 n2
        · omega
      | j + 3, hi => simp at hi
end KB
set_option Elab.async false
set_option linter.all false
set_option maxRecDepth 100000
set_option maxHeartbeats 2000000
namespace KB
open PySem PySem.Spec PyProof.Rows L2 GX
theorem dread_bk {v : Dv} (h : v.waiting = []) (n : Int) : dread v n = bk v.blocks n := by
  unfold dread bk
  rw [h]
  rfl
theorem pend_none {v : Dv} {k : List Blk} (h : v.waiting = []) (A : SA v.blocks k) : dpend v = [] := by
  unfold dpend
  rw [dread_bk h, A.hd, rhead_zeros]
theorem pend_rows {v : Dv} {k l rows : List Blk} {s : Int} (h : v.waiting = []) (C : CR v.blocks k l s rows) : dpend v = rows := by
  obtain ⟨s0, R, sc, _⟩ := C
  have hf := R.few
  have e1 : pendRows v (rows.map (·.1)) = rows := by
    unfold pendRows
    apply List.ext_getElem
    · rw [List.length_map, List.length_zipIdx, List.length_map]
    · intro i h1 h2
      rw [List.getElem_map, List.getElem_zipIdx, List.getElem_map]
      have z := sc.dt i rows[i] (List.getElem?_eq_getElem h2)
      show (rows[i].1, dread v (1 + 1 + ((0 + i : Nat) : Int))) = rows[i]
      rw [dread_bk h, Nat.zero_add, z]
  unfold dpend
  rw [dread_bk h, sc.hd, rhead_full (by rw [List.length_map]; omega) s0 (fun n hn => by
    obtain ⟨p, hp, rfl⟩ := List.mem_map.mp hn
    have := R.rng p hp
    omega)]
  show (if 5 < (rows.map (·.1)).length then [] else if ws4 (headL s ((pendRows v (rows.map (·.1))).map (·.1)) ++ ((pendRows v (rows.map (·.1))).map (·.2)).flatten) = ws4 (headL s (rows.map (·.1)) ++ (rows.map (·.2)).flatten) then pendRows v (rows.map (·.1)) else []) = rows
  rw [e1, if_neg (by rw [List.length_map]; omega), if_pos rfl]
/-- how recovery may end -/
def EndsR (r : Dv × Bool) (k l : List Blk) : Prop :=
  (r.2 = true ∧ r.1.waiting = [] ∧ (SA r.1.blocks k ∨ SA r.1.blocks l) ∧ Fine r.1.blocks r.1.waiting ∧ r.1.dead = false ∧ r.1.total = 16) ∨
  (r.2 = false ∧ r.1.dead = true ∧ r.1.total = 16 ∧ Fine r.1.blocks r.1.waiting ∧ r.1.waiting.length ≤ 20 ∧ ∀ cs, Good (drest r.1 cs).blocks k l)
theorem rec_law {v : Dv} {k l : List Blk} (hd : v.dead = false) (ht : v.total = 16) (hw : v.waiting = []) (hf : Fine v.blocks v.waiting) (G : Good v.blocks k l) : EndsR (runOps v (recOps (dpend v))) k l ∧ ∀ p ∈ dpend v, 8 ≤ p.1 ∧ p.1 < 15 := by
  rcases G with A | A | ⟨s, rows, C⟩
  · rw [pend_none hw A]
    exact ⟨.inl ⟨rfl, hw, .inl A, hf, hd, ht⟩, fun p hp => by cases hp⟩
  · rw [pend_none hw A]
    exact ⟨.inl ⟨rfl, hw, .inr A, hf, hd, ht⟩, fun p hp => by cases hp⟩
  · rw [pend_rows hw C]
    have e : recOps rows = homeOps rows := if_neg C.rw_.ne
    rw [e]
    refine ⟨?_, C.rw_.rng⟩
    rcases home_law hd ht hw hf C with ⟨a, b, c, d⟩ | z
    · exact .inl ⟨a, b, .inr c, d⟩
    · exact .inr z
/-- a device that was started again -/
theorem rest_ok {v : Dv} {cs : List Int} (hf : Fine v.blocks v.waiting) (ht : v.total = 16) : (drest v cs).dead = false ∧ (drest v cs).total = 16 ∧ (drest v cs).waiting = [] ∧ Fine (drest v cs).blocks (drest v cs).waiting ∧ (drest v cs).fuse = none :=
  ⟨rfl, ht, rfl, fine_rst cs hf _, rfl⟩
theorem good_rest {v : Dv} {k l : List Blk} (hw : v.waiting = []) (G : Good v.blocks k l) (cs : List Int) : Good (drest v cs).blocks k l := by
  have e : (drest v cs).blocks = v.blocks := by
    show rst cs v.waiting v.blocks v.waiting.length = _
    rw [hw]; rfl
  rw [e]; exact G
/-- without a fuse nothing fails -/
theorem step_free {v : Dv} (hd : v.dead = false) (hf : v.fuse = none) : (dstep v).2 = true ∧ (dstep v).1.fuse = none ∧ (dstep v).1.dead = false := by
  unfold dstep
  rw [if_neg (by rw [hd]; simp), hf]
  exact ⟨rfl, rfl, hd⟩
theorem op_free {v : Dv} {o : Op} (hd : v.dead = false) (hf : v.fuse = none) (ht : v.total = 16) (ho : okOp o) : (dop v o).2 = true ∧ (dop v o).1.fuse = none ∧ (dop v o).1.dead = false ∧ (dop v o).1.total = 16 := by
  obtain ⟨a, b, c⟩ := step_free hd hf
  have t3 := (dstep_same v).2.2
  cases o with
  | wr n x =>
    obtain ⟨h0, h1, h2⟩ := ho
    have e : dop v (.wr n x) = ({ (dstep v).1 with waiting := (dstep v).1.waiting ++ [(n, x)] }, true) := by
      show dwrite v n x = _
      unfold dwrite
      have ok : okNum v n = true := by unfold okNum; rw [hd, ht]; simp [h0, h1]
      rw [if_neg (by rw [ok]; simp), if_neg (by simp [h2]), if_pos a]
    rw [e]
    exact ⟨rfl, b, c, t3.trans ht⟩
  | fl =>
    have e : dop v .fl = ({ (dstep v).1 with blocks := (dstep v).1.waiting.foldl (fun l p => putB l p.1 p.2) (dstep v).1.blocks, waiting := [] }, true) := by
      show dflush v = _
      unfold dflush
      rw [if_pos a]
    rw [e]
    exact ⟨rfl, b, c, t3.trans ht⟩
theorem run_free : ∀ {ops : List Op} {v : Dv}, v.dead = false → v.fuse = none → v.total = 16 → (∀ o ∈ ops, okOp o) → (runOps v ops).2 = true ∧ (runOps v ops).1.fuse = none
  | [], v, _, hf, _, _ => ⟨rfl, hf⟩
  | o :: r, v, hd, hf, ht, ho => by
    obtain ⟨a, b, c, d⟩ := op_free hd hf ht (ho o List.mem_cons_self)
    have e : runOps v (o :: r) = runOps (dop v o).1 r := if_pos a
    rw [e]
    exact run_free c b d fun o' h => ho o' (List.mem_cons_of_mem _ h)
theorem home_ok {rows : List Blk} (R : Rw rows) : ∀ o ∈ homeOps rows, okOp o := fun o ho => by
  unfold homeOps at ho
  rcases List.mem_append.mp ho with z | z
  · obtain ⟨p, hp, rfl⟩ := List.mem_map.mp z
    have k := R.ok hp
    exact ⟨k.1, k.2.1, k.2.2.1⟩
  · simp only [List.mem_cons, List.not_mem_nil, or_false] at z
    rcases z with rfl | rfl | rfl
    · trivial
    · exact ⟨by decide, by decide, rfl⟩
    · trivial
theorem rec_free {v : Dv} {k l : List Blk} (hd : v.dead = false) (hfu : v.fuse = none) (ht : v.total = 16) (hw : v.waiting = []) (G : Good v.blocks k l) : (runOps v (recOps (dpend v))).2 = true ∧ (runOps v (recOps (dpend v))).1.fuse = none := by
  refine run_free hd hfu ht ?_
  rcases G with A | A | ⟨s, rows, C⟩
  · rw [pend_none hw A]; intro o ho; cases ho
  · rw [pend_none hw A]; intro o ho; cases ho
  · rw [pend_rows hw C, show recOps rows = homeOps rows from if_neg C.rw_.ne]
    exact home_ok C.rw_
end KB
set_option Elab.async false
set_option linter.all false
set_option maxRecDepth 100000
set_option maxHeartbeats 2000000
namespace KB
open PySem PySem.Spec PyProof.Rows L2 GX
theorem fold_first : ∀ (l : List Int) (s : Int × Int), 0 ≤ s.1 ∧ s.1 < 65521 → (0 ≤ (l.foldl wstep s).1 ∧ (l.foldl wstep s).1 < 65521) ∧ (l.foldl wstep s).1 = (s.1 + l.sum) % 65521
  | [], s, h => ⟨h, by simp only [List.foldl_nil, List.sum_nil]; omega⟩
  | n :: l, s, h => by
    have ih := fold_first l (wstep s n) ⟨by show 0 ≤ (s.1 + n) % 65521; omega, by show (s.1 + n) % 65521 < 65521; omega⟩
    rw [List.foldl_cons]
    refine ⟨ih.1, ?_⟩
    rw [ih.2, List.sum_cons]
    show ((s.1 + n) % 65521 + l.sum) % 65521 = _
    omega
theorem wsum_first (l : List Int) : (0 ≤ (wsum l).1 ∧ (wsum l).1 < 65521) ∧ (wsum l).1 = (1 + l.sum) % 65521 := fold_first l (1, 0) ⟨by decide, by decide⟩
theorem ws4_inj {l m : List Int} (h : ws4 l = ws4 m) : (wsum l).1 = (wsum m).1 := by
  have a := (wsum_first l).1
  have b := (wsum_first m).1
  unfold ws4 pairL at h
  simp only [List.cons_append, List.nil_append, List.cons.injEq, and_true] at h
  obtain ⟨_, _, h3, h4⟩ := h
  omega
/-- sums that are not far apart and not the same -/
theorem ws4_ne {l m : List Int} (h : l.sum ≠ m.sum) (h1 : l.sum - m.sum ≤ 255) (h2 : m.sum - l.sum ≤ 255) : ws4 l ≠ ws4 m := fun e => by
  have z := ws4_inj e
  rw [(wsum_first l).2, (wsum_first m).2] at z
  omega
theorem bend_sum {d : List Int} {p : Nat} (h : p < d.length) (y : Int) : (d.take p ++ [y] ++ d.drop (p + 1)).sum = d.sum - d[p] + y := by
  have e : d = d.take p ++ (d[p] :: d.drop (p + 1)) := by
    rw [← List.drop_eq_getElem_cons h, List.take_append_drop]
  have e2 : d.sum = (d.take p).sum + (d[p] + (d.drop (p + 1)).sum) := by
    have := congrArg List.sum e
    rw [List.sum_append, List.sum_cons] at this
    exact this
  rw [List.sum_append, List.sum_append, e2]
  simp only [List.sum_cons, List.sum_nil]
  omega
/-- a bent first row is found out -/
theorem bend_ne {s : Int} {ns : List Int} {d : List Int} {r : List (List Int)} {p : Nat} (h : p < d.length) (hb : 0 ≤ d[p] ∧ d[p] < 256) :
    ws4 (headL s ns ++ ((d.take p ++ [(d[p] + 1) % 256] ++ d.drop (p + 1)) :: r).flatten) ≠ ws4 (headL s ns ++ (d :: r).flatten) := by
  have hs := bend_sum h ((d[p] + 1) % 256)
  generalize d.take p ++ [(d[p] + 1) % 256] ++ d.drop (p + 1) = d2 at hs ⊢
  refine ws4_ne ?_ ?_ ?_
  all_goals rw [List.sum_append, List.sum_append, List.flatten_cons, List.flatten_cons, List.sum_append, List.sum_append, hs]
  all_goals omega
end KB
set_option Elab.async false
set_option linter.all false
set_option maxRecDepth 100000
set_option maxHeartbeats 2000000
namespace KB
open PySem PySem.Spec PyProof.Rows L2 GX
/-- what is read while things wait -/
def rdW (w b : List Blk) (n : Int) : List Int := (getB w.reverse n).getD (bk b n)
theorem dread_rdW (v : Dv) (n : Int) : dread v n = rdW v.waiting v.blocks n := by
  unfold dread rdW bk
  cases getB v.waiting.reverse n <;> rfl
theorem rdW_snoc (w b : List Blk) (p : Blk) (n : Int) : rdW (w ++ [p]) b n = if p.1 = n then p.2 else rdW w b n := by
  unfold rdW
  rw [List.reverse_append, List.reverse_singleton, List.singleton_append, getB_cons]
  by_cases h : p.1 = n <;> simp [h]
theorem getB_of_mem {l : List Blk} {n : Int} {x : List Int} (nd : (l.map (·.1)).Nodup) (h : (n, x) ∈ l) : getB l n = some x := by
  induction l with
  | nil => cases h
  | cons p l ih =>
    rw [List.map_cons, List.nodup_cons] at nd
    rw [getB_cons]
    rcases List.mem_cons.mp h with z | z
    · rw [← z]; simp
    · have : ¬ p.1 = n := fun e => nd.1 (by rw [e]; exact List.mem_map.mpr ⟨_, z, rfl⟩)
      rw [if_neg this]
      exact ih nd.2 z
theorem rdW_jw {rows b : List Blk} {i : Nat} {p : Blk} (h : rows[i]? = some p) : rdW (jw rows) b (1 + 1 + (i : Int)) = p.2 := by
  unfold rdW
  have nd : ((jw rows).reverse.map (·.1)).Nodup := by
    rw [List.map_reverse]
    have z := jw_nd rows
    rw [List.Nodup] at z ⊢
    rw [List.pairwise_reverse]
    exact z.imp fun h => Ne.symm h
  rw [getB_of_mem nd (List.mem_reverse.mpr (List.mem_of_getElem? (jw_at h)))]
  rfl
/-- what is pending where the head is whole -/
theorem pend_of {v : Dv} {s : Int} {rows : List Blk} (few : rows.length ≤ 5) (s0 : 0 ≤ s ∧ s < 65536) (rng : ∀ p ∈ rows, 8 ≤ p.1 ∧ p.1 < 15) (h : dread v 1 = fullHead s (rows.map (·.1)) (rows.map (·.2))) :
    dpend v = if ws4 (headL s (rows.map (·.1)) ++ ((pendRows v (rows.map (·.1))).map (·.2)).flatten) = ws4 (headL s (rows.map (·.1)) ++ (rows.map (·.2)).flatten) then pendRows v (rows.map (·.1)) else [] := by
  have hk : (pendRows v (rows.map (·.1))).map (·.1) = rows.map (·.1) := by
    unfold pendRows
    rw [List.map_map]
    have : ((fun x : Blk => x.1) ∘ fun p : Int × Nat => ((p.1, dread v (1 + 1 + (p.2 : Int))) : Blk)) = Prod.fst := rfl
    rw [this, List.zipIdx_map_fst]
  unfold dpend
  rw [h, rhead_full (by rw [List.length_map]; omega) s0 (fun n hn => by
    obtain ⟨p, hp, rfl⟩ := List.mem_map.mp hn
    have := rng p hp
    omega)]
  show (if 5 < (rows.map (·.1)).length then [] else if ws4 (headL s ((pendRows v (rows.map (·.1))).map (·.1)) ++ ((pendRows v (rows.map (·.1))).map (·.2)).flatten) = ws4 (headL s (rows.map (·.1)) ++ (rows.map (·.2)).flatten) then pendRows v (rows.map (·.1)) else []) = _
  rw [hk, if_neg (by rw [List.length_map]; omega)]
theorem pendRows_eq {v : Dv} {rows rows' : List Blk} (hl : rows'.length = rows.length) (hk : ∀ i (h : i < rows.length), (rows'[i]'(by omega)).1 = rows[i].1) (hd : ∀ i (h : i < rows.length), dread v (1 + 1 + (i : Int)) = (rows'[i]'(by omega)).2) : pendRows v (rows.map (·.1)) = rows' := by
  unfold pendRows
  apply List.ext_getElem
  · rw [List.length_map, List.length_zipIdx, List.length_map, hl]
  · intro i h1 h2
    have hi : i < rows.length := by omega
    rw [List.getElem_map, List.getElem_zipIdx, List.getElem_map]
    show (rows[i].1, dread v (1 + 1 + ((0 + i : Nat) : Int))) = rows'[i]
    rw [Nat.zero_add, hd i hi, ← hk i hi]
/-- head and rows wait: the group is pending -/
theorem pend_wait {v : Dv} {s : Int} {rows : List Blk} (few : rows.length ≤ 5) (s0 : 0 ≤ s ∧ s < 65536) (rng : ∀ p ∈ rows, 8 ≤ p.1 ∧ p.1 < 15) (hw : v.waiting = jw rows ++ [(1, fullHead s (rows.map (·.1)) (rows.map (·.2)))]) : dpend v = rows := by
  have e1 : dread v 1 = fullHead s (rows.map (·.1)) (rows.map (·.2)) := by rw [dread_rdW, hw, rdW_snoc, if_pos rfl]
  have e2 : pendRows v (rows.map (·.1)) = rows := pendRows_eq rfl (fun _ _ => rfl) fun i hi => by
    rw [dread_rdW, hw, rdW_snoc, if_neg (by show ¬ (1 : Int) = 1 + 1 + i; omega), rdW_jw (List.getElem?_eq_getElem hi)]
  rw [pend_of few s0 rng e1, e2, if_pos rfl]
/-- and a bent first row: nothing is -/
theorem pend_bent {v : Dv} {s : Int} {p0 : Blk} {r : List Blk} {k : Nat} (few : (p0 :: r).length ≤ 5) (s0 : 0 ≤ s ∧ s < 65536) (rng : ∀ p ∈ p0 :: r, 8 ≤ p.1 ∧ p.1 < 15) (hk : k < p0.2.length) (hb : 0 ≤ p0.2[k] ∧ p0.2[k] < 256)
    (hw : v.waiting = jw (p0 :: r) ++ [(1, fullHead s ((p0 :: r).map (·.1)) ((p0 :: r).map (·.2)))] ++ [(2, p0.2.take k ++ [(p0.2[k] + 1) % 256] ++ p0.2.drop (k + 1))]) : dpend v = [] := by
  have e1 : dread v 1 = fullHead s ((p0 :: r).map (·.1)) ((p0 :: r).map (·.2)) := by rw [dread_rdW, hw, rdW_snoc, if_neg (by show ¬ (2 : Int) = 1; decide), rdW_snoc, if_pos rfl]
  have e2 : pendRows v ((p0 :: r).map (·.1)) = (p0.1, p0.2.take k ++ [(p0.2[k] + 1) % 256] ++ p0.2.drop (k + 1)) :: r := pendRows_eq rfl (fun i hi => by cases i <;> rfl) fun i hi => by
    rw [dread_rdW, hw]
    cases i with
    | zero => rw [rdW_snoc, if_pos (by show (2 : Int) = 1 + 1 + ((0 : Nat) : Int); decide)]; rfl
    | succ i =>
      rw [rdW_snoc, if_neg (by show ¬ (2 : Int) = 1 + 1 + ((i + 1 : Nat) : Int); omega), rdW_snoc, if_neg (by show ¬ (1 : Int) = 1 + 1 + ((i + 1 : Nat) : Int); omega), rdW_jw (List.getElem?_eq_getElem hi)]
      rfl
  rw [pend_of few s0 rng e1, e2]
  exact if_neg (bend_ne hk hb)
end KB
set_option Elab.async false
set_option linter.all false
set_option maxRecDepth 100000
set_option maxHeartbeats 2000000
namespace KB
open PySem PySem.Spec PyProof.Rows L2 GX
/-- a new journal -/
theorem jrn_new {CJ d : Addr} {TL : List (Addr × Str)} {GT : List Addr} {H : Hp} {E : XK} {Q : Addr → Hp → Prop} (hq : ∀ r H', Ex [] TL GT H H' → JAt CJ H' r d 0 → H r = none → Q r H') :
    ∀ r dx, H r = none → H dx = none → dx ≠ r → spJInit CJ TL GT [.ref r, .ref d, .int 1, .int 6] (upd (upd H dx (.own r)) r (.ins CJ dx [])) (fun v H2 => v = .non ∧ Q r H2) E := by
  intro r dx h1 h2 h3
  have h1' : upd H dx (.own r) r = none := by rw [upd_ne (Ne.symm h3)]; exact h1
  have e : Ex [] TL GT H (upd (upd H dx (.own r)) r (.ins CJ dx [])) := (Ex.new h2).add h1'
  refine ⟨r, d, dx, rfl, upd_same, fun H' eX J => ⟨rfl, hq r H' (ex_behind e (B := [r]) (fun a ha => .inr ?_) eX) J h1⟩⟩
  simp only [List.mem_singleton] at ha
  rw [ha]; exact free_none h1
theorem dev_newA {K : PySem.W.Frag} {CD : Addr} {TL : List (Addr × Str)} {GT : List Addr} {H : Hp} {E : XK} {Q : Addr → Hp → Prop} {n : Int} {x : V} {l : List Blk} (hx : BlkAt K H x l) (hq : ∀ r F H', Ex [] TL GT H H' → DevAt K CD H' r (newDv n l) F → (∀ a ∈ F, free H a) → Q r H') :
    ∀ r dx, H r = none → H dx = none → dx ≠ r → spInit K CD TL GT [.ref r, .int 64, .int n, x] (upd (upd H dx (.own r)) r (.ins CD dx [])) (fun v H2 => v = .non ∧ Q r H2) E := fun r dx h1 h2 h3 => by
  have z := dev_new (E := E) (Q := fun v H2 => ∀ a, v = .ref a → Q a H2) hx (fun r F H' a b c s e => by cases e; exact hq r F H' a b c) r dx h1 h2 h3
  obtain ⟨d, n', x', l', dx', e, a, b, c⟩ := z
  refine ⟨d, n', x', l', dx', e, a, b, fun H' F y1 y2 y3 => ?_⟩
  obtain ⟨u1, u2⟩ := c H' F y1 y2 y3
  exact ⟨u1, u2 r rfl⟩
end KB
set_option Elab.async false
set_option linter.all false
set_option maxRecDepth 100000
set_option maxHeartbeats 2000000
namespace KB
open PySem PySem.Spec PyProof.Rows L2 GX
/-! ### what stands while the law runs -/
section
variable {K : PySem.W.Frag} {CD CJ : Addr} {TL : List (Addr × Str)} {GT : List Addr} {H H' : Hp} {q r d j p u : Addr} {v v' : Dv} {F F' A : List Addr} {s s' : Int} {l : List Blk}
theorem Dc.keep (hn : r ∉ A) (e : Ex A TL GT H H') (c : Dc H r) : Dc H' r := by
  obtain ⟨x, y, z, c⟩ := c
  exact ⟨x, y, z, e.lst hn c⟩
theorem JAt.keep (hn : j ∉ A) (e : Ex A TL GT H H') (c : JAt CJ H j d s) : JAt CJ H' j d s := by
  obtain ⟨dx, c⟩ := c
  exact ⟨dx, e.ext _ _ hn c (fun _ z => by cases z)⟩
/-- a that stands is not in what is new -/
theorem off_new {a : Addr} {o : HO} (ha : H a = some o) (hn : ∀ ps, o ≠ .tbl ps) (h1 : a ∉ F) (h2 : ∀ x ∈ F', x ∈ F ∨ free H x) : a ∉ F' := fun z => (h2 a z).elim h1 fun f => by
  obtain ⟨ps, e⟩ := f o ha
  exact hn ps e
/-- dice and device -/
structure Z (K : PySem.W.Frag) (CD : Addr) (TL : List (Addr × Str)) (GT : List Addr) (H : Hp) (q r d : Addr) (v : Dv) (F : List Addr) : Prop where
  hq : H q = some (.lst [.ref r])
  c : Dc H r
  dv : DevAt K CD H d v F
  tb : Tb TL GT H
  nq : q ∉ F
  nr : r ∉ F
theorem Z.qr (z : Z K CD TL GT H q r d v F) : q ≠ r := fun e => by
  obtain ⟨x, y, w, c⟩ := z.c
  have h := z.hq
  rw [e, c] at h
  cases h
theorem Z.ex (z : Z K CD TL GT H q r d v F) (e : Ex [] TL GT H H') : Z K CD TL GT H' q r d v F :=
  ⟨e.lst (by simp) z.hq, z.c.keep (by simp) e, z.dv.keep e (fun _ _ => by simp), e.tb z.tb, z.nq, z.nr⟩
theorem Z.roll (z : Z K CD TL GT H q r d v F) (e : Ex [r] TL GT H H') (c : Dc H' r) : Z K CD TL GT H' q r d v F :=
  ⟨e.lst (by simpa using z.qr) z.hq, c, z.dv.keep e (fun a ha => by simp only [List.mem_singleton]; intro h; rw [h] at ha; exact z.nr ha), e.tb z.tb, z.nq, z.nr⟩
/-- an own dict changes -/
theorem Z.put {kvs : List (Key × V)} {o : HO} (z : Z K CD TL GT H q r d v F) (hp : H p = some (.dK kvs)) (np : p ∉ F) : Z K CD TL GT (upd H p o) q r d v F := by
  have e : Ex [p] TL GT H (upd H p o) := Ex.put (by simp) hp rfl
  refine ⟨e.lst ?_ z.hq, z.c.keep ?_ e, z.dv.keep e (fun a ha => by simp only [List.mem_singleton]; intro h; rw [h] at ha; exact np ha), e.tb z.tb, z.nq, z.nr⟩
  · simp only [List.mem_singleton]
    exact ne_kind z.hq hp rfl (fun z => by cases z)
  · simp only [List.mem_singleton]
    obtain ⟨x, y, w, c⟩ := z.c
    exact ne_kind c hp rfl (fun z => by cases z)
theorem Z.dev (z : Z K CD TL GT H q r d v F) (a : Aft K CD TL GT H d F v' H') : ∃ F', Z K CD TL GT H' q r d v' F' ∧ ∀ x ∈ F', x ∈ F ∨ free H x := by
  obtain ⟨e, F', D', hF⟩ := a
  obtain ⟨x, y, w, c⟩ := id z.c
  exact ⟨F', ⟨e.lst z.nq z.hq, z.c.keep z.nr e, D', e.tb z.tb, off_new z.hq (fun _ h => by cases h) z.nq hF, off_new c (fun _ h => by cases h) z.nr hF⟩, hF⟩
theorem DevAt.ins (D : DevAt K CD H d v F) : ∃ dx b w, H d = some (.ins CD dx (flds b w v)) := by
  obtain ⟨dx, b, w, kvs, ws, rfl, h1, _⟩ := D
  exact ⟨dx, b, w, h1⟩
theorem DevAt.nfree (D : DevAt K CD H d v F) (h : free H u) : u ∉ F := fun hu => by
  obtain ⟨o, e, m⟩ := D.live u hu
  obtain ⟨ps, e2⟩ := h o e
  rw [e2] at m
  cases m
theorem fz_at (n : Int) (k : Int) (h0 : 0 ≤ k) (h1 : k < 2) : ∃ fu, atI [V.int n, V.non] k = some (fz fu) := by
  have h : k = 0 ∨ k = 1 := by omega
  rcases h with rfl | rfl
  · exact ⟨some n, rfl⟩
  · exact ⟨none, rfl⟩
/-- a journal -/
structure Jt (CJ : Addr) (H : Hp) (j d : Addr) (s : Int) (F : List Addr) : Prop where
  at_ : JAt CJ H j d s
  nj : j ∉ F
theorem Jt.ne_r (J : Jt CJ H j d s F) (z : Z K CD TL GT H q r d v F) : j ≠ r := by
  obtain ⟨dx, h⟩ := J.at_
  obtain ⟨x, y, w, c⟩ := z.c
  exact ne_kind h c rfl (fun z => by cases z)
theorem Jt.ne_q (J : Jt CJ H j d s F) (z : Z K CD TL GT H q r d v F) : j ≠ q := by
  obtain ⟨dx, h⟩ := J.at_
  exact ne_kind h z.hq rfl (fun z => by cases z)
theorem Jt.ex (J : Jt CJ H j d s F) (e : Ex [] TL GT H H') : Jt CJ H' j d s F := ⟨J.at_.keep (by simp) e, J.nj⟩
theorem Jt.roll (J : Jt CJ H j d s F) (z : Z K CD TL GT H q r d v F) (e : Ex [r] TL GT H H') : Jt CJ H' j d s F := ⟨J.at_.keep (by simpa using J.ne_r z) e, J.nj⟩
theorem Jt.put {kvs : List (Key × V)} {o : HO} (J : Jt CJ H j d s F) (hp : H p = some (.dK kvs)) : Jt CJ (upd H p o) j d s F := by
  obtain ⟨dx, h⟩ := J.at_
  have n : j ≠ p := ne_kind h hp rfl (fun z => by cases z)
  exact ⟨⟨dx, by rw [upd_ne n]; exact h⟩, J.nj⟩
theorem Jt.dev (J : Jt CJ H j d s F) (e : Ex F TL GT H H') (hF : ∀ x ∈ F', x ∈ F ∨ free H x) : Jt CJ H' j d s F' := by
  obtain ⟨dx, h⟩ := id J.at_
  exact ⟨J.at_.keep J.nj e, off_new h (fun _ z => by cases z) J.nj hF⟩
/-- behind a deed of the journal -/
theorem Z.jrn (z : Z K CD TL GT H q r d v F) (J : Jt CJ H j d s F) (a : AftJ K CD CJ TL GT H j d F v' s' H') : ∃ F', Z K CD TL GT H' q r d v' F' ∧ Jt CJ H' j d s' F' ∧ ∀ x ∈ F', x ∈ F ∨ free H x := by
  obtain ⟨e, ⟨F', D', hF⟩, ja⟩ := a
  obtain ⟨x, y, w, c⟩ := id z.c
  obtain ⟨dx, h⟩ := id J.at_
  have nq : q ∉ j :: F := by
    simp only [List.mem_cons, not_or]; exact ⟨Ne.symm (J.ne_q z), z.nq⟩
  have nr : r ∉ j :: F := by
    simp only [List.mem_cons, not_or]; exact ⟨Ne.symm (J.ne_r z), z.nr⟩
  exact ⟨F', ⟨e.lst nq z.hq, z.c.keep nr e, D', e.tb z.tb, off_new z.hq (fun _ h => by cases h) z.nq hF, off_new c (fun _ h => by cases h) z.nr hF⟩, ⟨ja, off_new h (fun _ z => by cases z) J.nj hF⟩, hF⟩
/-- a dict of blocks -/
structure Dk (K : PySem.W.Frag) (H : Hp) (p : Addr) (l : List Blk) (F : List Addr) : Prop where
  at_ : ∃ kvs, H p = some (.dK kvs) ∧ Paired (KvAt K H) kvs l
  np : p ∉ F
theorem Dk.keep (D : Dk K H p l F) (hn : p ∉ A) (e : Ex A TL GT H H') : Dk K H' p l F := by
  obtain ⟨⟨kvs, h, hp⟩, np⟩ := D
  exact ⟨⟨kvs, e.ext _ _ hn h (fun _ z => by cases z), pimp (fun _ _ => KvAt.ex e) hp⟩, np⟩
theorem Dk.ex (D : Dk K H p l F) (e : Ex [] TL GT H H') : Dk K H' p l F := D.keep (by simp) e
theorem Dk.ne_lst {xs : List V} (D : Dk K H p l F) (h : H u = some (.lst xs)) : p ≠ u := by
  obtain ⟨⟨kvs, hk, _⟩, _⟩ := D
  exact ne_kind hk h rfl (fun z => by cases z)
theorem Dk.roll (D : Dk K H p l F) (z : Z K CD TL GT H q r d v F) (e : Ex [r] TL GT H H') : Dk K H' p l F := by
  obtain ⟨x, y, w, c⟩ := z.c
  exact D.keep (by simpa using D.ne_lst c) e
theorem Dk.dev (D : Dk K H p l F) (e : Ex F TL GT H H') (hF : ∀ x ∈ F', x ∈ F ∨ free H x) : Dk K H' p l F' := by
  obtain ⟨⟨kvs, h, _⟩, np⟩ := id D
  exact ⟨(D.keep D.np e).at_, off_new h (fun _ z => by cases z) np hF⟩
theorem Dk.jrn (D : Dk K H p l F) (J : Jt CJ H j d s F) (e : Ex (j :: F) TL GT H H') (hF : ∀ x ∈ F', x ∈ F ∨ free H x) : Dk K H' p l F' := by
  obtain ⟨⟨kvs, h, _⟩, np⟩ := id D
  obtain ⟨dx, hj⟩ := J.at_
  have n : p ≠ j := ne_kind h hj rfl (fun z => by cases z)
  exact ⟨(D.keep (by simp only [List.mem_cons, not_or]; exact ⟨n, np⟩) e).at_, off_new h (fun _ z => by cases z) np hF⟩
/-- another dict changes -/
theorem Dk.put {kvs : List (Key × V)} {o : HO} (D : Dk K H p l F) (hu : H u = some (.dK kvs)) (n : p ≠ u) : Dk K (upd H u o) p l F :=
  D.keep (TL := []) (GT := []) (A := [u]) (by simpa using n) (Ex.put (by simp) hu rfl)
/-- a group of rows -/
structure Gp (K : PySem.W.Frag) (H : Hp) (u r : Addr) (rows : List Blk) (F : List Addr) : Prop where
  at_ : ∃ us, H u = some (.lst us) ∧ Paired (PairAt K H) us rows
  nu : u ∉ F
  nr : u ≠ r
variable {rows : List Blk}
theorem Gp.keep (D : Gp K H u r rows F) (hn : u ∉ A) (e : Ex A TL GT H H') : Gp K H' u r rows F := by
  obtain ⟨⟨us, h, hp⟩, np, nr⟩ := D
  exact ⟨⟨us, e.lst hn h, pimp (fun _ _ => PairAt.ex e) hp⟩, np, nr⟩
theorem Gp.ex (D : Gp K H u r rows F) (e : Ex [] TL GT H H') : Gp K H' u r rows F := D.keep (by simp) e
theorem Gp.roll (D : Gp K H u r rows F) (e : Ex [r] TL GT H H') : Gp K H' u r rows F := D.keep (by simpa using D.nr) e
theorem Gp.dev (D : Gp K H u r rows F) (e : Ex F TL GT H H') (hF : ∀ x ∈ F', x ∈ F ∨ free H x) : Gp K H' u r rows F' := by
  obtain ⟨⟨us, h, _⟩, np, nr⟩ := id D
  exact ⟨(D.keep D.nu e).at_, off_new h (fun _ z => by cases z) np hF, nr⟩
theorem Gp.put {kvs : List (Key × V)} {o : HO} (D : Gp K H u r rows F) (hp : H p = some (.dK kvs)) : Gp K (upd H p o) u r rows F := by
  obtain ⟨us, h, _⟩ := id D.at_
  have n : u ≠ p := ne_kind h hp rfl (fun z => by cases z)
  exact D.keep (TL := []) (GT := []) (A := [p]) (by simpa using n) (Ex.put (by simp) hp rfl)
/-- the disk, plainly, between two groups -/
structure Pd (v : Dv) (l : List Blk) : Prop where
  de : v.dead = false
  to : v.total = 16
  wa : v.waiting = []
  fi : Fine v.blocks v.waiting
  sa : SA v.blocks l
theorem Pd.sz (P : Pd v l) : szD v ≤ 16 := by
  have h := fine_len P.fi
  unfold szD
  rw [P.wa]
  simpa using h
theorem Pd.arm (P : Pd v l) (n : Option Int) : Pd { v with fuse := n } l := ⟨P.de, P.to, P.wa, P.fi, P.sa⟩
theorem Pd.new : Pd (newDv 16 []) [] := ⟨rfl, rfl, rfl, ⟨fun p h => (by cases h), fun p h => (by cases h), .nil⟩, ⟨rfl, fun n _ _ => rfl⟩⟩
theorem Pd.same (P : Pd v l) : badAt v l 7 = [] := by
  unfold badAt
  rw [List.filter_eq_nil_iff]
  intro i hi
  have hi := List.mem_range.mp hi
  rw [dread_bk P.wa, P.sa.hm _ (by omega) (by omega)]
  simp [bk]
theorem Pd.pend (P : Pd v l) : dpend v = [] := pend_none P.wa P.sa
/-- the disk behind the groups: crashed, it may be -/
structure Pc (v : Dv) (k l : List Blk) : Prop where
  to : v.total = 16
  fi : Fine v.blocks v.waiting
  wa : v.waiting.length ≤ 20
  go : ∀ cs, Good (drest v cs).blocks k l
theorem Pd.pc (P : Pd v l) (m : List Blk) : Pc v l m := ⟨P.to, P.fi, by rw [P.wa]; simp, fun cs => good_rest P.wa (.inl P.sa) cs⟩
theorem Grp.rw_ (G : Grp rows) (h5 : rows.length ≤ 5) (hn : rows ≠ []) : Rw rows := by
  refine ⟨h5, hn, ?_, G.rng, G.len, fun p hp x hx => (G.byt p hp x hx).1⟩
  rw [List.Nodup, List.pairwise_map]
  exact G.asc.imp fun h e => by omega
/-- how a commit ends -/
theorem commit_end2 (P : Pd v l) (G : Grp rows) (h5 : rows.length ≤ 5) (hn : rows ≠ []) : ((runOps v (commitOps s rows ++ homeOps rows)).2 = true ∧ Pd (runOps v (commitOps s rows ++ homeOps rows)).1 (putAll l rows)) ∨
    ((runOps v (commitOps s rows ++ homeOps rows)).2 = false ∧ (runOps v (commitOps s rows ++ homeOps rows)).1.dead = true ∧ Pc (runOps v (commitOps s rows ++ homeOps rows)).1 l (putAll l rows)) := by
  have h := commit_law (l := putAll l rows) (s := s) P.de P.to P.wa P.fi P.sa (G.rw_ h5 hn) (fun n _ _ => rfl)
  rcases h with ⟨a, b, c, d, e, f⟩ | ⟨a, b, c, d, e, f⟩
  · exact .inl ⟨a, e, f, b, d, c⟩
  · exact .inr ⟨a, b, c, d, e, f⟩
end
section
variable {K : PySem.W.Frag} {CD CJ : Addr} {TL : List (Addr × Str)} {GT : List Addr} {H H' : Hp} {q r d j p u : Addr} {v v' : Dv} {F F' A : List Addr} {s s' : Int} {k l : List Blk}
/-- a device started again -/
structure Pr (v : Dv) (k l : List Blk) : Prop where
  de : v.dead = false
  to : v.total = 16
  wa : v.waiting = []
  fi : Fine v.blocks v.waiting
  go : Good v.blocks k l
theorem Pc.rest (P : Pc v k l) (cs : List Int) : Pr (drest v cs) k l ∧ (drest v cs).fuse = none := by
  obtain ⟨a, b, c, d, e⟩ := rest_ok (cs := cs) P.fi P.to
  exact ⟨⟨a, b, c, d, P.go cs⟩, e⟩
theorem Pr.arm (P : Pr v k l) (n : Option Int) : Pr { v with fuse := n } k l := ⟨P.de, P.to, P.wa, P.fi, P.go⟩
theorem Pr.sz (P : Pr v k l) : szD v ≤ 16 := by
  have h := fine_len P.fi
  unfold szD
  rw [P.wa]
  simpa using h
theorem Pr.wf (P : Pr v k l) : WfD v := fine_wf P.fi P.to
theorem Pr.rec_ (P : Pr v k l) : Pc (runOps v (recOps (dpend v))).1 k l := by
  rcases (rec_law P.de P.to P.wa P.fi P.go).1 with ⟨_, b, c, d, e, f⟩ | ⟨_, b, c, d, e, f⟩
  · exact ⟨f, d, by rw [b]; simp, fun cs => good_rest b (c.elim .inl fun z => .inr (.inl z)) cs⟩
  · exact ⟨c, d, e, f⟩
theorem Pr.home (P : Pr v k l) (hf : v.fuse = none) : (runOps v (recOps (dpend v))).2 = true ∧ (Pd (runOps v (recOps (dpend v))).1 k ∨ Pd (runOps v (recOps (dpend v))).1 l) ∧ ∀ p ∈ dpend v, 8 ≤ p.1 ∧ p.1 < 15 := by
  have h2 := (rec_free P.de hf P.to P.wa P.go).1
  obtain ⟨h, hr⟩ := rec_law P.de P.to P.wa P.fi P.go
  refine ⟨h2, ?_, hr⟩
  rcases h with ⟨_, b, c, d, e, f⟩ | ⟨a, _⟩
  · exact c.elim (fun c => .inl ⟨e, f, b, d, c⟩) fun c => .inr ⟨e, f, b, d, c⟩
  · rw [h2] at a; cases a
theorem Pc.sz (P : Pc v k l) : szD v < 9000 := by
  have h := fine_len P.fi
  have := P.wa
  unfold szD
  omega
theorem Pc.wf (P : Pc v k l) : WfD v := fine_wf P.fi P.to
theorem Pd.wf (P : Pd v l) : WfD v := fine_wf P.fi P.to
theorem Pd.rec_ (P : Pd v l) : runOps v (recOps (dpend v)) = (v, true) := by rw [P.pend]; rfl
theorem Z.again (z : Z K CD TL GT H q r d v F) (e : Ex [r] TL GT H H') (c : Dc H' r) (D : DevAt K CD H' u v' F') (hF : ∀ a ∈ F', free H a) : Z K CD TL GT H' q r u v' F' := by
  obtain ⟨x, y, w, c0⟩ := id z.c
  exact ⟨e.lst (by simpa using z.qr) z.hq, c, D, e.tb z.tb, off_new (F := []) z.hq (fun _ h => by cases h) (by simp) (fun x hx => .inr (hF x hx)), off_new (F := []) c0 (fun _ h => by cases h) (by simp) (fun x hx => .inr (hF x hx))⟩
theorem Dk.again (D : Dk K H p l F) (z : Z K CD TL GT H q r d v F) (e : Ex [r] TL GT H H') (hF : ∀ a ∈ F', free H a) : Dk K H' p l F' := by
  obtain ⟨⟨kvs, h, _⟩, _⟩ := id D
  exact ⟨(D.roll z e).at_, off_new (F := []) h (fun _ z => by cases z) (by simp) (fun x hx => .inr (hF x hx))⟩
/-- a journal is new -/
theorem jt_new (z : Z K CD TL GT H q r d v F) (J : JAt CJ H' j d 0) (h : H j = none) : Jt CJ H' j d 0 F := ⟨J, z.dv.notin h⟩
theorem ne_lstI {ns ms : List Int} {Q : VK} (hp : SqL K H p (ns.map V.int)) (hq : SqL K H q (ms.map V.int)) (h : Q (.bl (!decide (ns = ms))) H) : rNeU K (.ref p) (.ref q) H Q := by
  refine ⟨.list (ns.map .int), .list (ms.map .int), .lst hp (dp_ints ns), .lst hq (dp_ints ms), ?_, ?_, ?_⟩
  · exact shaped_tupI ns
  · exact shaped_tupI ms
  rw [show PyData.eqv (.list (ns.map PyData.int)) (.list (ms.map PyData.int)) = PyData.eqvAll (ns.map PyData.int) (ms.map PyData.int) from rfl, eqvAll_ints]
  exact h
theorem eqD_tup_str {ns : List Int} {a : Str} {Q : VK} (hp : SqT K H p (ns.map V.int)) (ha : SeqAt.shaped (.str a) = true) (h : Q (.bl false) H) : rEqD K (.ref p) (.str a) H Q :=
  ⟨.tuple (ns.map .int), .str a, .tup hp (dp_ints ns), .str a, shaped_tupI ns, ha, h⟩
end
section
variable {K : PySem.W.Frag} {CD CJ : Addr} {TL : List (Addr × Str)} {GT : List Addr} {H H' : Hp} {q r d j p1 p2 : Addr} {v : Dv} {F : List Addr} {k l : List Blk}
theorem same_false {v : Dv} {l : List Blk} (h : ¬ badAt v l 7 = []) (P : Pd v l) : False := h P.same
theorem same2 {C N : Hp → Prop} {E1 E2 : XK} (z : Z K CD TL GT H q r d v F) (D1 : Dk K H p1 k F) (D2 : Dk K H p2 l F) (hP : Pd v k ∨ Pd v l) (h : ∀ H', Ex [] TL GT H H' → C H') :
    spSame K CD TL GT [.ref d, .ref p1] H (fun x H' => ∃ b, TruV K x H' b ∧ if b = false then spSame K CD TL GT [.ref d, .ref p2] H' (fun x H'' => ∃ b, TruV K x H'' b ∧ if b = false then N H'' else C H'') E2 else C H') E1 := by
  obtain ⟨hde, hto⟩ : v.dead = false ∧ v.total = 16 := hP.elim (fun P => ⟨P.de, P.to⟩) fun P => ⟨P.de, P.to⟩
  obtain ⟨kv1, h1, q1⟩ := id D1.at_
  refine ⟨d, v, F, p1, kv1, k, rfl, z.dv, hde, hto, h1, q1, fun H1 e1 => ?_⟩
  by_cases hb : badAt v k 7 = []
  · refine ⟨true, ?_, ?_⟩
    · show true = decide _
      rw [decide_eq_true hb]
    · exact h _ e1
  · refine ⟨false, ?_, ?_⟩
    · show false = decide _
      rw [decide_eq_false hb]
    · have P : Pd v l := hP.elim (fun P => absurd P.same hb) id
      obtain ⟨kv2, h2, q2⟩ := (D2.ex e1).at_
      refine ⟨d, v, F, p2, kv2, l, rfl, (z.ex e1).dv, hde, hto, h2, q2, fun H2 e2 => ⟨true, ?_, ?_⟩⟩
      · show true = decide _
        rw [decide_eq_true P.same]
      · exact h _ (e1.trans e2)
end
theorem cut5 (xs : List V) : cutV xs none (some 5) = xs.take 5 := by
  unfold cutV
  show List.take (min 5 xs.length - 0) (List.drop 0 xs) = _
  rw [List.drop_zero, Nat.sub_zero, ← List.take_eq_take_min]
theorem cutL {xs : List V} {i : Int} (h0 : 0 ≤ i) : cutV xs none (some i) = xs.take i.toNat := by
  unfold cutV
  have e : HT.sIx xs.length xs.length (some i) = min i.toNat xs.length := by
    unfold HT.sIx
    simp only []
    try split
    all_goals omega
  rw [e]
  show List.take (min i.toNat xs.length - 0) (List.drop 0 xs) = _
  rw [List.drop_zero, Nat.sub_zero, ← List.take_eq_take_min]
theorem cutR {xs : List V} {i : Int} (h0 : 0 ≤ i) (h1 : i ≤ xs.length) : cutV xs (some i) none = xs.drop i.toNat := by
  unfold cutV
  have e : HT.sIx xs.length 0 (some i) = i.toNat := by
    unfold HT.sIx
    simp only []
    try split
    all_goals omega
  rw [e]
  show List.take (xs.length - i.toNat) (List.drop i.toNat xs) = _
  rw [List.take_of_length_le]
  rw [List.length_drop]; exact Nat.le_refl _
theorem paired_take {α β : Type} {R : α → β → Prop} : ∀ {xs : List α} {ys : List β} (n : Nat), Paired R xs ys → Paired R (xs.take n) (ys.take n)
  | _, _, 0, _ => by simp only [List.take_zero]; exact .nil
  | _, _, n + 1, .nil => .nil
  | _, _, n + 1, .cons p r => .cons p (paired_take n r)
theorem Grp.take {rows : List Blk} (G : Grp rows) (n : Nat) : Grp (rows.take n) :=
  ⟨G.asc.sublist (List.take_sublist _ _), fun p h => G.rng p (List.mem_of_mem_take h), fun p h => G.len p (List.mem_of_mem_take h), fun p h => G.byt p (List.mem_of_mem_take h), by have := G.few; rw [List.length_take]; omega⟩
section
variable {K : PySem.W.Frag} {H : Hp} {p q a b : Addr} {s : Int} {ns : List Int} {Q : VK}
theorem ne_head (hp : SqT K H p [.int s, .ref a]) (ha : SqT K H a (ns.map V.int)) (hq : SqT K H q [.int s, .ref b]) (hb : SqT K H b (ns.map V.int)) (h : Q (.bl false) H) : rNeU K (.ref p) (.ref q) H Q := by
  refine ⟨rowD (s, ns), rowD (s, ns), .tup hp (.cons (.int s) (.cons (.tup ha (dp_ints ns)) .nil)), .tup hq (.cons (.int s) (.cons (.tup hb (dp_ints ns)) .nil)), ?_, ?_, ?_⟩
  · have h := shaped_rows [(s, ns)]
    unfold SeqAt.shaped at h ⊢
    show (PyData.canLay0 (rowD (s, ns)) && decide _) = true
    have e : PyData.depth (rowD (s, ns)) = 2 := by
      show max 0 (max (PyData.depthAll (ns.map .int) + 1) 0) + 1 = 2
      rw [depth_ints]; rfl
    rw [e]
    have e2 : (PyData.canLayAll0 ([(s, ns)].map rowD)) = true := canLay_rows [(s, ns)]
    have e3 : (PyData.canLay0 (rowD (s, ns)) && true) = true := e2
    rw [Bool.and_true] at e3
    rw [e3]; rfl
  · unfold SeqAt.shaped
    show (PyData.canLay0 (rowD (s, ns)) && decide _) = true
    have e : PyData.depth (rowD (s, ns)) = 2 := by
      show max 0 (max (PyData.depthAll (ns.map .int) + 1) 0) + 1 = 2
      rw [depth_ints]; rfl
    rw [e]
    have e2 : (PyData.canLayAll0 ([(s, ns)].map rowD)) = true := canLay_rows [(s, ns)]
    have e3 : (PyData.canLay0 (rowD (s, ns)) && true) = true := e2
    rw [Bool.and_true] at e3
    rw [e3]; rfl
  · have e := eqvAll_rows [(s, ns)] [(s, ns)]
    have e1 : (PyData.eqv (rowD (s, ns)) (rowD (s, ns)) && true) = decide ([(s, ns)] = [(s, ns)]) := e
    rw [Bool.and_true] at e1
    rw [e1]
    simpa using h
end
/-- a device without a fuse, all its writes wait -/
structure Wv (v : Dv) (ws : List Blk) : Prop where
  de : v.dead = false
  to : v.total = 16
  fu : v.fuse = none
  wa : v.waiting = ws
  fi : Fine v.blocks v.waiting
theorem Wv.new : Wv (newDv 16 []) [] := ⟨rfl, rfl, rfl, rfl, Pd.new.fi⟩
theorem Wv.write {v : Dv} {ws : List Blk} {n : Int} {x : List Int} (W : Wv v ws) (h : OkB (n, x)) : (dwrite v n x).2 = true ∧ Wv (dwrite v n x).1 (ws ++ [(n, x)]) := by
  obtain ⟨h0, h1, h2, h3⟩ := h
  have hs := step_free W.de W.fu
  have hk : okNum v n = true := by
    unfold okNum
    rw [W.de, W.to]
    simp only [Bool.not_false, Bool.true_and, Bool.and_eq_true, decide_eq_true_eq]
    exact ⟨h0, h1⟩
  have e : dwrite v n x = ({ (dstep v).1 with waiting := (dstep v).1.waiting ++ [(n, x)] }, true) := by
    unfold dwrite
    rw [if_neg (by rw [hk]; simp), if_neg (by simpa using h2), if_pos hs.1]
  rw [e]
  have hd := dstep_same v
  refine ⟨rfl, hs.2.2, hd.2.2.trans W.to, hs.2.1, ?_, ?_⟩
  · show (dstep v).1.waiting ++ [(n, x)] = _
    rw [hd.2.1, W.wa]
  · show Fine (dstep v).1.blocks ((dstep v).1.waiting ++ [(n, x)])
    rw [hd.1, hd.2.1]
    refine ⟨W.fi.kb, fun p hp => ?_, W.fi.nd⟩
    rcases List.mem_append.mp hp with z | z
    · exact W.fi.kw p z
    · rw [List.mem_singleton.mp z]; exact ⟨h0, h1, h2, h3⟩
theorem Wv.wf {v : Dv} {ws : List Blk} (W : Wv v ws) : WfD v := fine_wf W.fi W.to
/-- a group, its data, its head -/
structure Gs (K : PySem.W.Frag) (H : Hp) (r DD p5 hdp : Addr) (acc us5 : List V) (rw5 : List Blk) (F : List Addr) : Prop where
  hd : H DD = some (.lst acc)
  pd : Paired (TI K H) acc (rw5.map (·.2))
  hg : H p5 = some (.lst us5)
  pg : Paired (PairAt K H) us5 rw5
  hh : SqT K H hdp ((fullHead 7 (rw5.map (·.1)) (rw5.map (·.2))).map V.int)
  nd : DD ∉ F
  ng : p5 ∉ F
  rd : DD ≠ r
  rg : p5 ≠ r
section
variable {K : PySem.W.Frag} {CD CJ : Addr} {TL : List (Addr × Str)} {GT : List Addr} {H H' : Hp} {q r d DD p5 hdp : Addr} {v v' : Dv} {F F' A : List Addr} {acc us5 : List V} {rw5 : List Blk}
theorem Gs.keep (G : Gs K H r DD p5 hdp acc us5 rw5 F) (e : Ex A TL GT H H') (h1 : DD ∉ A) (h2 : p5 ∉ A) : Gs K H' r DD p5 hdp acc us5 rw5 F :=
  ⟨e.lst h1 G.hd, pimp (fun _ _ => TI.ex e) G.pd, e.lst h2 G.hg, pimp (fun _ _ => PairAt.ex e) G.pg, e.sqt G.hh, G.nd, G.ng, G.rd, G.rg⟩
theorem Gs.ex (G : Gs K H r DD p5 hdp acc us5 rw5 F) (e : Ex [] TL GT H H') : Gs K H' r DD p5 hdp acc us5 rw5 F := G.keep e (by simp) (by simp)
theorem Gs.roll (G : Gs K H r DD p5 hdp acc us5 rw5 F) (e : Ex [r] TL GT H H') : Gs K H' r DD p5 hdp acc us5 rw5 F := G.keep e (by simpa using G.rd) (by simpa using G.rg)
theorem Gs.to (G : Gs K H r DD p5 hdp acc us5 rw5 F) (hF : ∀ x ∈ F', x ∈ F ∨ free H x) : Gs K H r DD p5 hdp acc us5 rw5 F' :=
  ⟨G.hd, G.pd, G.hg, G.pg, G.hh, off_new G.hd (fun _ z => by cases z) G.nd hF, off_new G.hg (fun _ z => by cases z) G.ng hF, G.rd, G.rg⟩
theorem Gs.dev (G : Gs K H r DD p5 hdp acc us5 rw5 F) (e : Ex F TL GT H H') (hF : ∀ x ∈ F', x ∈ F ∨ free H x) : Gs K H' r DD p5 hdp acc us5 rw5 F' := by
  have h := G.keep e G.nd G.ng
  exact ⟨h.hd, h.pd, h.hg, h.pg, h.hh, off_new G.hd (fun _ z => by cases z) G.nd hF, off_new G.hg (fun _ z => by cases z) G.ng hF, G.rd, G.rg⟩
end
/-- the names of the law -/
def SgE (r d2 DD hdp p5 : Addr) (σ : L2.St) : Prop := ∃ v0 v2 v3 v4 v5 v6 v7 v8 v9 v10 v13 v14 v17 v18 v19, σ = [v0, some (.ref r), v2, v3, v4, v5, v6, v7, v8, v9, v10, some (.ref DD), some (.ref hdp), v13, v14, some (.ref d2), some (.ref p5), v17, v18, v19]
/-- the names of the law -/
def SgA (r p1 p2 d a : Addr) (σ : L2.St) : Prop := ∃ v0 v4 v5 v6 v7 v8 v9 v10 v11 v12 v13 v16 v17 v18 v19, σ = [v0, some (.ref r), some (.ref p1), some (.ref p2), v4, v5, v6, v7, v8, v9, v10, v11, v12, v13, some (.ref a), some (.ref d), v16, v17, v18, v19]
def Sg (r p1 p2 d : Addr) (σ : L2.St) : Prop := ∃ v0 v4 v5 v6 v7 v8 v9 v10 v11 v12 v13 v14 v16 v17 v18 v19, σ = [v0, some (.ref r), some (.ref p1), some (.ref p2), v4, v5, v6, v7, v8, v9, v10, v11, v12, v13, v14, some (.ref d), v16, v17, v18, v19]
def SgJ (r p1 p2 d j : Addr) (σ : L2.St) : Prop := ∃ v0 v4 v5 v6 v7 v8 v9 v10 v11 v12 v13 v14 v16 v18 v19, σ = [v0, some (.ref r), some (.ref p1), some (.ref p2), v4, v5, v6, v7, v8, v9, v10, v11, v12, v13, v14, some (.ref d), v16, some (.ref j), v18, v19]
def SgU (r p1 p2 d j u : Addr) (σ : L2.St) : Prop := ∃ v0 v4 v5 v6 v7 v8 v9 v10 v11 v12 v13 v14 v18 v19, σ = [v0, some (.ref r), some (.ref p1), some (.ref p2), v4, v5, v6, v7, v8, v9, v10, v11, v12, v13, v14, some (.ref d), some (.ref u), some (.ref j), v18, v19]
theorem putAll_len (b rows : List Blk) : (putAll b rows).length ≤ b.length + rows.length := puts_len rows b
section
variable (K : PySem.W.Frag) (CD CJ : Addr) (TL : List (Addr × Str)) (GT : List Addr) (q r d j : Addr)
def Lp (i : Nat) (σ : L2.St) (H : Hp) : Prop := ∃ p1 p2 v F s kl ll, SgJ r p1 p2 d j σ ∧ Z K CD TL GT H q r d v F ∧ Jt CJ H j d s F ∧ Dk K H p1 kl F ∧ Dk K H p2 ll F ∧ Pd v kl ∧ kl.length ≤ 6 * i
def La (p1 p2 : Addr) (kl ll : List Blk) (σ : L2.St) (H : Hp) : Prop := ∃ a v F, SgA r p1 p2 d a σ ∧ Z K CD TL GT H q r a v F ∧ Dk K H p1 kl F ∧ Dk K H p2 ll F ∧ Pr v kl ll ∧ v.fuse = none
def Af (σ : L2.St) (H : Hp) : Prop := ∃ p1 p2 v F kl ll, Sg r p1 p2 d σ ∧ Z K CD TL GT H q r d v F ∧ Dk K H p1 kl F ∧ Dk K H p2 ll F ∧ Pc v kl ll
end
theorem jd_ne : decide ((Str.ofString "JournalError") = (Str.ofString "DeviceError")) = false := by decide
theorem dj_ne : decide ((Str.ofString "DeviceError") = (Str.ofString "JournalError")) = false := by decide
theorem eqU_non {K : PySem.W.Frag} {a : Str} {H : Hp} {Q : VK} (h : Q (.bl false) H) : rEqU K .non (.str a) H Q := ⟨rfl, h⟩
theorem told2_intro {K : PySem.W.Frag} {C1 C2 : Addr} {r1 r2 : Str} {tl : XK → Hp → VK → Prop} {H : Hp} {Q : VK} (h : tl (fun cls _ H' => ∃ b, PySem.W.exmOne K cls (.ref C1) = some b ∧ (b = true → Q (.str r1) H') ∧ (b = false → ∃ b2, PySem.W.exmOne K cls (.ref C2) = some b2 ∧ (b2 = true → Q (.str r2) H') ∧ (b2 = false → False))) H Q) : TTold2 K C1 r1 C2 r2 tl H Q := h
/-- what follows a loop, first -/
theorem with_nx {g : TG} {tb : TS} {D : Ends} {J : It} {σ : L2.St} {H : Hp} (Af : L2.St → Hp → Prop) (hk : ∀ σ H, Af σ H → D.nx σ H) (rest : (∀ σ H, Af σ H → D.nx σ H) → Loop g tb D J σ H) : Loop g tb D J σ H := rest hk
/-- which errors are told -/
structure ExE (K : PySem.W.Frag) (DE JE : Addr) : Prop where
  dd : PySem.W.exmOne K (.ref DE) (.ref DE) = some true
  jd : PySem.W.exmOne K (.ref JE) (.ref DE) = some false
  jj : PySem.W.exmOne K (.ref JE) (.ref JE) = some true
end KB
set_option Elab.async false
set_option linter.all false
set_option maxRecDepth 100000
set_option maxHeartbeats 2000000
set_option pp.maxSteps 900
namespace KB
open PySem PySem.Spec PyProof.Rows L2 GX
section
variable {P : Program} {w : World} {K : PySem.W.Frag} {mg : Str → Option Value} {base : Heap} {CD CJ DE JE jm PL : Addr} {GT : List Addr}
def lamq : Str := (("law" : Str) ++ ".<locals>.") ++ "<lambda>"
abbrev TLaw (PL : Addr) : List (Addr × Str) := [(PL, lamq)]
def spLaw (K : PySem.W.Frag) (TL : List (Addr × Str)) (GT : List Addr) : Sp := fun vs H Q E => ∃ (p : Addr) (ns : List Int), vs = [.ref p] ∧ SqL K H p (ns.map V.int) ∧ Tb TL GT H ∧ ∀ H', (∀ P ∈ GT, H' P = some (TblE P)) → Q (.bl true) H'
theorem c_law (T : KB.Txt P w K mg base CD CJ DE JE jm (TLaw PL) GT) (told : Told2 K mg "_law_told" "what" "DeviceError" "DeviceError" "JournalError" "JournalError" DE JE) (xe : ExE K DE JE) {f c : Addr} {fd : FuncData} (D : Def K mg "law" (top 26) f fd c) (tbL : LamX.TabB base mg c PL) :
    FnOk P w K mg base (L2.CX P w) 30 f fd ["script"] (spLaw K (TLaw PL) GT) ∧ (∀ us : List Value, us.length = 1 → bindArgs fd ⟨us, []⟩ = pure ((["script"] : List Str).zip us)) := by
  have c_law_rounds := c_law_rounds T
  have c_law_roll := c_law_roll T
  have c_law_group := c_law_group T
  have c_law_same := c_law_same T
  have c_law_again := c_law_again T
  have c_head_room := c_head_room T
  have c_head_of := c_head_of T
  have c_read_head := c_read_head T
  have k_Device := k_dev2 (TL := TLaw PL) (GT := GT) T
  have k_Journal := k_jrn T
  have m_Device_arm := m_arm T
  have m_Device_read := m_read (TL := TLaw PL) (GT := GT) T
  have m_Device_write_block := m_write (TL := TLaw PL) (GT := GT) T
  have m_Journal_commit := m_commit T
  have m_Journal_pending := m_pend T
  have m_Journal_recover := m_rec T
  have m_Journal_room := m_room T
  have hmT : (PL, lamq) ∈ TLaw PL := List.mem_singleton.mpr rfl
  have hu : ∀ p ∈ TLaw PL, p.1 = PL → p.2 = lamq := fun p hp _ => by rw [List.mem_singleton.mp hp]
  refine D.okF (N := ["script", "dice", "kept", "later", "turn", "number", "data", "steps", "told_now", "found", "numbers", "datas", "head", "bent", "again", "device", "group", "journal", "place", "pair_now"]) (ps := ["script"]) ⟨rfl, rfl, rfl, by decide +kernel, rfl, by decide +kernel, by decide +kernel⟩ (fun vs H Q E h => by first | (obtain ⟨_, rfl, _⟩ := h; rfl) | (obtain ⟨_, _, rfl, _⟩ := h; rfl) | (obtain ⟨_, _, _, rfl, _⟩ := h; rfl) | (obtain ⟨_, _, _, _, rfl, _⟩ := h; rfl) | (obtain ⟨_, _, _, _, _, rfl, _⟩ := h; rfl) | (obtain ⟨_, _, _, _, _, _, rfl, _⟩ := h; rfl) | (obtain ⟨_, _, _, _, _, _, _, rfl, _⟩ := h; rfl) | (obtain ⟨_, _, _, _, _, _, _, _, rfl, _⟩ := h; rfl) | (obtain ⟨rfl, _⟩ := h; rfl)) (fun _ _ _ _ _ _ us hl => match us, hl with | [_], _ => rfl) (fun A outer s H vs Q E hr h => ?_)
  have nd : (["script", "dice", "kept", "later", "turn", "number", "data", "steps", "told_now", "found", "numbers", "datas", "head", "bent", "again", "device", "group", "journal", "place", "pair_now"] : List Str).Nodup := by decide
  refine mk_ex (pss_cons (ps_for (passes_of rfl) rfl (ilK (K := K) rfl (pi_list (GX.pe_call c_law_rounds (hr.mono (by decide)) (takes_of rfl rfl rfl rfl) (by exact (pa_cons (pv 0) (pa_cons pe_int pa_nil)))))) (pg_name (i := 1) nd rfl (Or.inl rfl)) (pss_cons (ps_set (i := 15) nd rfl (Or.inr rfl) (pe_mak k_Device (hr.mono (by decide)) (by exact (pa_cons pe_int (pa_cons pe_int pa_nil)))))
    (pss_cons (ps_asg (pe_tup (pa_cons (pe_mak k_Journal (hr.mono (by decide)) (by exact (pa_cons (pv 15) (pa_cons pe_int (pa_cons pe_int pa_nil))))) (pa_cons pe_dnewK (pa_cons pe_dnewK pa_nil)))) (tupGK (K := K) rfl (pg_tup (n := 3) rfl (pgs_cons (pg_name (i := 17) nd rfl (Or.inr rfl)) (pgs_cons (pg_name (i := 2) nd rfl (Or.inl rfl)) (pgs_cons (pg_name (i := 3) nd rfl (Or.inl rfl)) pgs_nil))))))
    (pss_cons (ps_if (PW.pt (pw_or (pt_cmpR (opK (K := K) (r := rNeU) (opU_ne (roomEq hr)) rfl) (pe_met0 m_Journal_room (hr.mono (by decide)) (takes_of rfl rfl rfl rfl) (pv 17)) pe_int (nomark _)) (pw_or1 (pt_cmpR (opK (K := K) (r := rNeU) (opU_ne (roomEq hr)) rfl) (GX.pe_call c_head_room (hr.mono (by decide)) (takes_of rfl rfl rfl rfl) (by exact (pa_cons pe_int (pa_cons pe_int pa_nil)))) pe_int (nomark _))))) (pss_one (ps_ret pe_bl)) pss_nil)
    (pss_cons (ps_expr (pe_met m_Device_arm (hr.mono (by decide)) (takes_of rfl rfl rfl rfl) (pv 15) (by exact (pa_cons (pe_ix (ixK (K := K) (r := rIx) ix_seq rfl) (pe_lst (pa_cons (GX.pe_call c_law_roll (hr.mono (by decide)) (takes_of rfl rfl rfl rfl) (by exact (pa_cons (pv 1) (pa_cons pe_int pa_nil)))) (pa_cons pe_non pa_nil))) (GX.pe_call c_law_roll (hr.mono (by decide)) (takes_of rfl rfl rfl rfl) (by exact (pa_cons (pv 1) (pa_cons pe_int pa_nil)))) (fun _ _ => rfl)) pa_nil))))
    (pss_cons (ps_for (passes_of rfl) rfl (pi_range1 rfl T.n_range (pa_cons (GX.pe_call c_law_roll (hr.mono (by decide)) (takes_of rfl rfl rfl rfl) (by exact (pa_cons (pv 1) (pa_cons pe_int pa_nil)))) pa_nil)) (pg_name (i := 4) nd rfl (Or.inl rfl)) (pss_cons (ps_set (i := 16) nd rfl (Or.inr rfl) (GX.pe_call c_law_group (hr.mono (by decide)) (takes_of rfl rfl rfl rfl) (by exact (pa_cons (pv 1) pa_nil))))
    (pss_cons (ps_set (i := 3) nd rfl (Or.inl rfl) (pe_callTy call_dictD rfl T.n_dict rfl (by exact (pa_cons (pv 2) pa_nil))))
    (pss_cons (ps_for (passes_of rfl) rfl (ilK (K := K) rfl (pi_list (pv 16))) (tupGK (K := K) rfl (pg_tup (n := 2) rfl (pgs_cons (pg_name (i := 5) nd rfl (Or.inl rfl)) (pgs_cons (pg_name (i := 6) nd rfl (Or.inl rfl)) pgs_nil)))) (pss_one (ps_dput (roomD hr) (pv 3) (pv 5) (pv 6) rfl)))
    (pss_cons (ps_set (i := 7) nd rfl (Or.inl rfl) (fldK (K := K) rfl (pe_fld (pv 15) rfl)))
    (pss_cons (ps_set (i := 8) nd rfl (Or.inl rfl) (pe_told2 (k := 20) told rfl tbL rfl hmT hu (hr.mono (by decide)) (show LamX.LamS (defScope (top 26)) _ from LamX.lamS_by (by decide +kernel)) rfl (fun _ _ _ _ _ => rfl) (fun A outer s H E f c' hr1 => (pe_met m_Journal_commit (hr1.mono (by decide)) takes_lam (pv 17) (by exact (pa_cons (pv 16) pa_nil))))))
    (pss_cons (ps_if (pt_cmpR (opK (K := K) (r := rNeU) (opU_ne (roomEq hr)) rfl) (pe_cmpR (opK (K := K) (r := rEqU) (opU_eq (roomEq hr)) rfl) (pv 8) pe_str (nomark _)) (pe_cmpR opU_gt (pe_callB (call_lenU (K := K) rfl) rfl T.n_len rfl (by exact (pa_cons (pv 16) pa_nil))) pe_int (nomark _)) (nomark _)) (pss_one (ps_ret pe_bl)) pss_nil)
    (pss_cons (ps_if (PW.pt (pw_or (PW.pt (pw_and (pt_cmpR (opK (K := K) (r := rEqU) (opU_eq (roomEq hr)) rfl) (pv 8) pe_str (nomark _)) (pw_and1 (pt_cmpR (opK (K := K) (r := rNeU) (opU_ne (roomEq hr)) rfl) (fldK (K := K) rfl (pe_fld (pv 15) rfl)) (pv 7) (nomark _))))) (pw_or1 (PW.pt (pw_and (pt_cmpR (opK (K := K) (r := rEqU) (opU_eq (roomEq hr)) rfl) (pv 8) pe_str (nomark _)) (pw_and1 (pt_not (pt_truU (K := K) rfl (by exact (pt_truth (fldK (K := K) rfl (pe_fld (pv 15) rfl)) (fun _ => rfl))))))))))) (pss_one (ps_ret pe_bl)) pss_nil)
    (pss_cons (ps_set (i := 3) nd rfl (Or.inl rfl) (pe_ifExp (pt_cmpR (opK (K := K) (r := rEqU) (opU_eq (roomEq hr)) rfl) (pv 8) pe_str (nomark _)) (pv 2) (pv 3)))
    (pss_cons (ps_if (pt_cmpR (opK (K := K) (r := rEqU) (opU_eq (roomEq hr)) rfl) (pv 8) pe_str (nomark _)) (pss_one ps_break) pss_nil)
    (pss_cons (ps_set (i := 2) nd rfl (Or.inl rfl) (pv 3))
    (pss_one (ps_if (PW.pt (pw_or (pt_not (pt_truU (K := K) rfl (by exact (pt_truth (GX.pe_call c_law_same (hr.mono (by decide)) (takes_of rfl rfl rfl rfl) (by exact (pa_cons (pv 15) (pa_cons (pv 2) pa_nil)))) (fun _ => rfl))))) (pw_or1 (pt_cmpR (opK (K := K) (r := rNeU) (opU_ne (roomEq hr)) rfl) (pe_met0 m_Journal_pending (hr.mono (by decide)) (takes_of rfl rfl rfl rfl) (pv 17)) (pe_lst pa_nil) (nomark _))))) (pss_one (ps_ret pe_bl)) pss_nil)))))))))))))
    (pss_cons (ps_set (i := 14) nd rfl (Or.inr rfl) (GX.pe_call c_law_again (hr.mono (by decide)) (takes_of rfl rfl rfl rfl) (by exact (pa_cons (pv 1) (pa_cons (pv 15) pa_nil)))))
    (pss_cons (ps_for (passes_of rfl) rfl (pi_range1 rfl T.n_range (pa_cons (GX.pe_call c_law_roll (hr.mono (by decide)) (takes_of rfl rfl rfl rfl) (by exact (pa_cons (pv 1) (pa_cons pe_int pa_nil)))) pa_nil)) (pg_name (i := 4) nd rfl (Or.inl rfl)) (pss_cons (ps_expr (pe_met m_Device_arm (hr.mono (by decide)) (takes_of rfl rfl rfl rfl) (pv 14) (by exact (pa_cons (GX.pe_call c_law_roll (hr.mono (by decide)) (takes_of rfl rfl rfl rfl) (by exact (pa_cons (pv 1) (pa_cons pe_int pa_nil)))) pa_nil))))
    (pss_cons (ps_expr (pe_told2 (k := 20) told rfl tbL rfl hmT hu (hr.mono (by decide)) (show LamX.LamS (defScope (top 26)) _ from LamX.lamS_by (by decide +kernel)) rfl (fun _ _ _ _ _ => rfl) (fun A outer s H E f c' hr1 => (pe_met0 m_Journal_recover (hr1.mono (by decide)) takes_lam (pe_mak k_Journal (hr1.mono (by decide)) (by exact (pa_cons (pv 14) (pa_cons pe_int (pa_cons pe_int pa_nil)))))))))
    (pss_one (ps_set (i := 14) nd rfl (Or.inr rfl) (GX.pe_call c_law_again (hr.mono (by decide)) (takes_of rfl rfl rfl rfl) (by exact (pa_cons (pv 1) (pa_cons (pv 14) pa_nil)))))))))
    (pss_cons (ps_set (i := 9) nd rfl (Or.inl rfl) (pe_told2 (k := 20) told rfl tbL rfl hmT hu (hr.mono (by decide)) (show LamX.LamS (defScope (top 26)) _ from LamX.lamS_by (by decide +kernel)) rfl (fun _ _ _ _ _ => rfl) (fun A outer s H E f c' hr1 => (pe_met0 m_Journal_recover (hr1.mono (by decide)) takes_lam (pe_mak k_Journal (hr1.mono (by decide)) (by exact (pa_cons (pv 14) (pa_cons pe_int (pa_cons pe_int pa_nil)))))))))
    (pss_cons (ps_if (PW.pt (pw_or (pt_cmpR (opK (K := K) (r := rEqD) (op_eqD (roomEq hr)) rfl) (pv 9) pe_str (nomark _)) (pw_or1 (PW.pt (pw_and (pt_not (pt_truU (K := K) rfl (by exact (pt_truth (GX.pe_call c_law_same (hr.mono (by decide)) (takes_of rfl rfl rfl rfl) (by exact (pa_cons (pv 14) (pa_cons (pv 2) pa_nil)))) (fun _ => rfl))))) (pw_and1 (pt_not (pt_truU (K := K) rfl (by exact (pt_truth (GX.pe_call c_law_same (hr.mono (by decide)) (takes_of rfl rfl rfl rfl) (by exact (pa_cons (pv 14) (pa_cons (pv 3) pa_nil)))) (fun _ => rfl))))))))))) (pss_one (ps_ret pe_bl)) pss_nil)
    (pss_cons (ps_if (PW.pt (pw_or (pt_cmpR (opK (K := K) (r := rNeU) (opU_ne (roomEq hr)) rfl) (pe_met0 m_Journal_recover (hr.mono (by decide)) (takes_of rfl rfl rfl rfl) (pe_mak k_Journal (hr.mono (by decide)) (by exact (pa_cons (pv 14) (pa_cons pe_int (pa_cons pe_int pa_nil)))))) (pe_tup pa_nil) (nomark _)) (pw_or1 (pt_cmpR (opK (K := K) (r := rNeU) (opU_ne (roomEq hr)) rfl) (pe_lc rfl nd (itK (K := K) rfl (pi_tup (pv 9))) (show BlkOk ["script", "dice", "kept", "later", "turn", "number", "data", "steps", "told_now", "found", "numbers", "datas", "head", "bent", "again", "device", "group", "journal", "place", "pair_now"] (defScope (top 26)) _ [("number", 5)] from blkOk_by (by decide +kernel)) (fun s H C cl fp => (pg_name (i := 5) nd rfl (Or.inl rfl))) (fun s H C cl fp => (pts_one (pt_not (pt_chain opU_le opU_lt pe_int (pv 5) pe_int)))) (fun s H C cl fp => (pv 5))) (pe_lst pa_nil) (nomark _))))) (pss_one (ps_ret pe_bl)) pss_nil)
    (pss_cons (ps_set (i := 16) nd rfl (Or.inr rfl) (pe_slice (slK (K := K) (r := rSlL) sl_list rfl) (pe_lc rfl nd (ilK (K := K) rfl (pi_list (GX.pe_call c_law_group (hr.mono (by decide)) (takes_of rfl rfl rfl rfl) (by exact (pa_cons (pv 1) pa_nil))))) (show BlkOk ["script", "dice", "kept", "later", "turn", "number", "data", "steps", "told_now", "found", "numbers", "datas", "head", "bent", "again", "device", "group", "journal", "place", "pair_now"] (defScope (top 26)) _ [("pair_now", 19)] from blkOk_by (by decide +kernel)) (fun s H C cl fp => (pg_name (i := 19) nd rfl (Or.inl rfl))) (fun s H C cl fp => pts_nil) (fun s H C cl fp => (pv 19))) po_none (po_some pe_int)))
    (pss_cons (ps_par (i := 10) (j := 11) rfl nd rfl rfl (by decide) rfl rfl (by exact (pa_cons (pe_lc rfl nd (ilK (K := K) rfl (pi_list (pv 16))) (show BlkOk ["script", "dice", "kept", "later", "turn", "number", "data", "steps", "told_now", "found", "numbers", "datas", "head", "bent", "again", "device", "group", "journal", "place", "pair_now"] (defScope (top 26)) _ [("number", 5), ("data", 6)] from blkOk_by (by decide +kernel)) (fun s H C cl fp => (tupGK (K := K) rfl (pg_tup (n := 2) rfl (pgs_cons (pg_name (i := 5) nd rfl (Or.inl rfl)) (pgs_cons (pg_name (i := 6) nd rfl (Or.inl rfl)) pgs_nil))))) (fun s H C cl fp => pts_nil) (fun s H C cl fp => (pv 5))) (pa_cons (pe_lc rfl nd (ilK (K := K) rfl (pi_list (pv 16))) (show BlkOk ["script", "dice", "kept", "later", "turn", "number", "data", "steps", "told_now", "found", "numbers", "datas", "head", "bent", "again", "device", "group", "journal", "place", "pair_now"] (defScope (top 26)) _ [("number", 5), ("data", 6)] from blkOk_by (by decide +kernel)) (fun s H C cl fp => (tupGK (K := K) rfl (pg_tup (n := 2) rfl (pgs_cons (pg_name (i := 5) nd rfl (Or.inl rfl)) (pgs_cons (pg_name (i := 6) nd rfl (Or.inl rfl)) pgs_nil))))) (fun s H C cl fp => pts_nil) (fun s H C cl fp => (pv 6))) pa_nil))) rfl)
    (pss_cons (ps_set (i := 12) nd rfl (Or.inl rfl) (GX.pe_call c_head_of (hr.mono (by decide)) (takes_of rfl rfl rfl rfl) (by exact (pa_cons pe_int (pa_cons (pv 10) (pa_cons (pv 11) (pa_cons pe_int pa_nil)))))))
    (pss_cons (ps_if (PW.pt (pw_or (pt_cmpR (opK (K := K) (r := rNeU) (opU_ne (roomEq hr)) rfl) (pe_callB (call_lenU (K := K) rfl) rfl T.n_len rfl (by exact (pa_cons (pv 12) pa_nil))) pe_int (nomark _)) (pw_or (pt_cmpR (opK (K := K) (r := rNeU) (opU_ne (roomEq hr)) rfl) (pe_slice (slK (K := K) (r := rSlA) sl_tupA rfl) (GX.pe_call c_read_head (hr.mono (by decide)) (takes_of rfl rfl rfl rfl) (by exact (pa_cons (pv 12) pa_nil))) po_none (po_some pe_int)) (pe_tup (pa_cons pe_int (pa_cons (tupOfK (K := K) rfl (pe_tupleOf rfl T.n_tuple (pv 10))) pa_nil))) (nomark _)) (pw_or1 (pt_cmpR op_notN (GX.pe_call c_read_head (hr.mono (by decide)) (takes_of rfl rfl rfl rfl) (by exact (pa_cons (pe_op (opK (K := K) (r := rMulV) opV_mul rfl) (pe_tup (pa_cons pe_int pa_nil)) pe_int) pa_nil))) pe_non (nomark _)))))) (pss_one (ps_ret pe_bl)) pss_nil)
    (pss_cons (ps_set (i := 15) nd rfl (Or.inr rfl) (pe_mak k_Device (hr.mono (by decide)) (by exact (pa_cons pe_int (pa_cons pe_int pa_nil)))))
    (pss_cons (ps_for (passes_of rfl) rfl (enumK (K := K) rfl (pi_enum rfl T.n_enumerate (pa_cons (pv 11) pa_nil))) (tupGK (K := K) rfl (pg_tup (n := 2) rfl (pgs_cons (pg_name (i := 18) nd rfl (Or.inr rfl)) (pgs_cons (pg_name (i := 6) nd rfl (Or.inl rfl)) pgs_nil)))) (pss_one (ps_expr (pe_met m_Device_write_block (hr.mono (by decide)) (takes_of rfl rfl rfl rfl) (pv 15) (by exact (pa_cons (pe_op (opK (K := K) (r := rAddA) opA_add rfl) pe_int (pv 18)) (pa_cons (pv 6) pa_nil)))))))
    (pss_cons (ps_expr (pe_met m_Device_write_block (hr.mono (by decide)) (takes_of rfl rfl rfl rfl) (pv 15) (by exact (pa_cons pe_int (pa_cons (pv 12) pa_nil)))))
    (pss_cons (ps_if (pt_cmpR (opK (K := K) (r := rNeU) (opU_ne (roomEq hr)) rfl) (pe_met0 m_Journal_pending (hr.mono (by decide)) (takes_of rfl rfl rfl rfl) (pe_mak k_Journal (hr.mono (by decide)) (by exact (pa_cons (pv 15) (pa_cons pe_int (pa_cons pe_int pa_nil)))))) (pv 16) (nomark _)) (pss_one (ps_ret pe_bl)) pss_nil)
    (pss_cons (ps_if (pt_cmpR (opK (K := K) (r := rNeU) (opU_ne (roomEq hr)) rfl) (pv 16) (pe_lst pa_nil) (nomark _)) (pss_cons (ps_set (i := 18) nd rfl (Or.inr rfl) (GX.pe_call c_law_roll (hr.mono (by decide)) (takes_of rfl rfl rfl rfl) (by exact (pa_cons (pv 1) (pa_cons pe_int pa_nil)))))
    (pss_cons (ps_set (i := 13) nd rfl (Or.inl rfl) (pe_op (opK (K := K) (r := rAddA) opA_add rfl) (pe_op (opK (K := K) (r := rAddA) opA_add rfl) (pe_slice (slK (K := K) (r := rSlA) sl_tupA rfl) (pe_ix (ixK (K := K) (r := rIx) ix_seq rfl) (pv 11) pe_int (fun _ _ => rfl)) po_none (po_some (pv 18))) (pe_tup (pa_cons (pe_op opU_mod (pe_op (opK (K := K) (r := rAddA) opA_add rfl) (pe_ix (ixK (K := K) (r := rIx) ix_seq rfl) (pe_ix (ixK (K := K) (r := rIx) ix_seq rfl) (pv 11) pe_int (fun _ _ => rfl)) (pv 18) (fun _ _ => rfl)) pe_int) pe_int) pa_nil))) (pe_slice (slK (K := K) (r := rSlA) sl_tupA rfl) (pe_ix (ixK (K := K) (r := rIx) ix_seq rfl) (pv 11) pe_int (fun _ _ => rfl)) (po_some (pe_op (opK (K := K) (r := rAddA) opA_add rfl) (pv 18) pe_int)) po_none)))
    (pss_cons (ps_expr (pe_met m_Device_write_block (hr.mono (by decide)) (takes_of rfl rfl rfl rfl) (pv 15) (by exact (pa_cons pe_int (pa_cons (pv 13) pa_nil)))))
    (pss_one (ps_if (pt_cmpR (opK (K := K) (r := rNeU) (opU_ne (roomEq hr)) rfl) (pe_met0 m_Journal_pending (hr.mono (by decide)) (takes_of rfl rfl rfl rfl) (pe_mak k_Journal (hr.mono (by decide)) (by exact (pa_cons (pv 15) (pa_cons pe_int (pa_cons pe_int pa_nil)))))) (pe_lst pa_nil) (nomark _)) (pss_one (ps_ret pe_bl)) pss_nil))))) pss_nil)
    (pss_cons (ps_set (i := 18) nd rfl (Or.inr rfl) (GX.pe_call c_law_roll (hr.mono (by decide)) (takes_of rfl rfl rfl rfl) (by exact (pa_cons (pv 1) (pa_cons pe_int pa_nil)))))
    (pss_one (ps_if (PW.pt (pw_or (pt_cmpR (opK (K := K) (r := rNeU) (opU_ne (roomEq hr)) rfl) (pe_told2 (k := 20) told rfl tbL rfl hmT hu (hr.mono (by decide)) (show LamX.LamS (defScope (top 26)) _ from LamX.lamS_by (by decide +kernel)) rfl (fun _ _ _ _ _ => rfl) (fun A outer s H E f c' hr1 => (pe_met m_Device_read (hr1.mono (by decide)) takes_lam (pv 15) (by exact (pa_cons pe_int pa_nil))))) pe_str (nomark _)) (pw_or1 (pt_cmpR (opK (K := K) (r := rNeU) (opU_ne (roomEq hr)) rfl) (pe_told2 (k := 20) told rfl tbL rfl hmT hu (hr.mono (by decide)) (show LamX.LamS (defScope (top 26)) _ from LamX.lamS_by (by decide +kernel)) rfl (fun _ _ _ _ _ => rfl) (fun A outer s H E f c' hr1 => (pe_met m_Device_write_block (hr1.mono (by decide)) takes_lam (pe_mak k_Device (hr1.mono (by decide)) (by exact (pa_cons pe_int (pa_cons pe_int pa_nil)))) (by exact (pa_cons pe_int (pa_cons (pe_op (opK (K := K) (r := rMulV) opV_mul rfl) (pe_tup (pa_cons pe_int pa_nil)) (pe_op opU_mod (pv 18) pe_int)) pa_nil)))))) pe_str (nomark _))))) (pss_one (ps_ret pe_bl)) pss_nil)))))))))))))))))))))))
    (pss_one (ps_ret pe_bl))) ?_
  obtain ⟨p, ns, rfl, hs, ht, h⟩ := h
  simp only [cx_K, gcx_K, lcx_K, LenV, rLenU, tTruU, kTup, tFld, sFld, sFldAug, tMet, tMake, tBM, tDGet, tDGet1, tDGet2, sDPut, tRevL, iEnum, tAug, tAsg, mulV_int, iaddU_int, isubU_int, iaddU_str, tTupL, ex2eq, not_true_eq_false, not_false_eq_true, LamX.tLam, LamX.TTold, tSeq, tIf, tNext, tRet, tRetN, tIfS, tTest, tB, tNot, tAnd, tOr, tChain, tOp, tUn, tC, tVar, tCons, tNil, tTup, tLst, tAsg, gName, gTup, gCons, gNil, gSub, tDrop, tCallS, tCB, tM1, tM0, tBM, tBM0, tSl, tPar, tFor_eq, tLc_eq, intU_int, intU_bl, iList, iTup, iEnumT, tDNewK, rSlT, rSlL, iRng1, iRng2, iStr, tThen, tNever, L2.start, tRaiseFile, tMkFile, tYes, tPart, tNoPart, addA_int, addA_str, addU_int, addU_str, addU_ref, subU_int, mulU_int, mulU_ref, fdvU_int, modU_int, powU_int, ltU_int, leU_int, gtU_int, geU_int, eqU_int, eqU_str, eqU_bl, neU_int, neU_str, neU_bl, WE, TruV, List.map, List.length_cons, List.length_nil, List.replicate, List.append, List.getElem?_cons_zero, List.getElem?_cons_succ, List.set_cons_zero, List.set_cons_succ, List.cons_append, List.nil_append, Option.some.injEq, V.int.injEq, V.str.injEq, V.bl.injEq, V.ref.injEq, List.cons.injEq, exists_eq_left, exists_eq_right, and_true, true_and, and_self, exists_eq, exists_const, Bool.not_true, Bool.not_false, Bool.false_eq_true, if_true, if_false, reduceIte, decide_eq_true_eq, bne_iff_ne, exists_eq_left', exists_eq', exists_and_left, Bool.not_eq_true', decide_eq_false_iff_not, Nat.reduceSub, Nat.reduceAdd, reduceCtorEq, false_and, or_false, false_or, exists_false]
  refine ⟨p, ns, rfl, hs, fun q r x y z H1 e1 hq hr0 => ⟨q, rfl, ⟨_, lst_at hq⟩, ?_⟩⟩
  have s1 : Dc H1 r := ⟨x, y, z, hr0⟩
  have t1 := e1.tb ht
  refine loop_list (xs := [V.ref r]) (fun i σ H' => (i = 0 → σ = L2.start ["script", "dice", "kept", "later", "turn", "number", "data", "steps", "told_now", "found", "numbers", "datas", "head", "bent", "again", "device", "group", "journal", "place", "pair_now"] [.ref p] ∧ H' = H1) ∧ H' q = some (.lst [.ref r]) ∧ Tb (TLaw PL) GT H') ⟨fun _ => ⟨rfl, rfl⟩, hq, t1⟩ (fun i σ H' hi e => lst_at e.2.1) ?_ ?_
  · rintro i v σ H' hx ⟨e0, _, _⟩
    match i, hx with
    | 0, hx =>
      obtain rfl : V.ref r = v := Option.some.inj hx
      obtain ⟨rfl, rfl⟩ := e0 rfl
      simp only [L2.start, cx_K, gcx_K, lcx_K, LenV, rLenU, tTruU, kTup, tFld, sFld, sFldAug, tMet, tMake, tBM, tDGet, tDGet1, tDGet2, sDPut, tRevL, iEnum, tAug, tAsg, mulV_int, iaddU_int, isubU_int, iaddU_str, tTupL, ex2eq, not_true_eq_false, not_false_eq_true, LamX.tLam, LamX.TTold, tSeq, tIf, tNext, tRet, tRetN, tIfS, tTest, tB, tNot, tAnd, tOr, tChain, tOp, tUn, tC, tVar, tCons, tNil, tTup, tLst, tAsg, gName, gTup, gCons, gNil, gSub, tDrop, tCallS, tCB, tM1, tM0, tBM, tBM0, tSl, tPar, tFor_eq, tLc_eq, intU_int, intU_bl, iList, iTup, iEnumT, tDNewK, rSlT, rSlL, iRng1, iRng2, iStr, tThen, tNever, L2.start, tRaiseFile, tMkFile, tYes, tPart, tNoPart, addA_int, addA_str, addU_int, addU_str, addU_ref, subU_int, mulU_int, mulU_ref, fdvU_int, modU_int, powU_int, ltU_int, leU_int, gtU_int, geU_int, eqU_int, eqU_str, eqU_bl, neU_int, neU_str, neU_bl, WE, TruV, List.map, List.length_cons, List.length_nil, List.replicate, List.append, List.getElem?_cons_zero, List.getElem?_cons_succ, List.set_cons_zero, List.set_cons_succ, List.cons_append, List.nil_append, Option.some.injEq, V.int.injEq, V.str.injEq, V.bl.injEq, V.ref.injEq, List.cons.injEq, exists_eq_left, exists_eq_right, and_true, true_and, and_self, exists_eq, exists_const, Bool.not_true, Bool.not_false, Bool.false_eq_true, if_true, if_false, reduceIte, decide_eq_true_eq, bne_iff_ne, exists_eq_left', exists_eq', exists_and_left, Bool.not_eq_true', decide_eq_false_iff_not, Nat.reduceSub, Nat.reduceAdd, reduceCtorEq, false_and, or_false, false_or, exists_false]
      refine dev_newA (.inl ⟨rfl, rfl⟩) fun d F H2 e2 D2 hF2 => ?_
      refine jrn_new fun j H3 e3 J3 hj3 => ?_
      have hF1 : ∀ {a : Addr} {o : HO}, H' a = some o → (∀ ps, o ≠ .tbl ps) → a ∉ F := fun h1 h2 => off_new (F := []) h1 h2 (by simp) (fun x hx => .inr (hF2 x hx))
      have z3 : Z K CD (TLaw PL) GT H3 q r d (newDv 16 []) F := (⟨e2.lst (by simp) hq, s1.keep (by simp) e2, D2, e2.tb t1, hF1 hq (fun _ h => by cases h), hF1 hr0 (fun _ h => by cases h)⟩ : Z K CD (TLaw PL) GT H2 q r d (newDv 16 []) F).ex e3
      have j3 : Jt CJ H3 j d 0 F := ⟨J3, D2.notin hj3⟩
      intro p1 hp1 p2 hp2
      refine ⟨sz 3, fun p3 hp3 => ?_⟩
      have np1 := z3.dv.notin hp1
      have e31 : Ex [] (TLaw PL) GT H3 (upd H3 p1 (.dK [])) := Ex.new hp1
      have e32 : Ex [] (TLaw PL) GT (upd H3 p1 (.dK [])) (upd (upd H3 p1 (.dK [])) p2 (.dK [])) := Ex.new hp2
      have np2 := (z3.ex e31).dv.notin hp2
      have e33 := Ex.new (A := []) (TL := TLaw PL) (GT := GT) (o := .tup [.ref j, .ref p1, .ref p2]) hp3
      have z4 := ((z3.ex e31).ex e32).ex e33
      have j4 := ((j3.ex e31).ex e32).ex e33
      have k4 : Dk K _ p1 [] F := (((⟨⟨[], upd_same, .nil⟩, np1⟩ : Dk K (upd H3 p1 (.dK [])) p1 [] F)).ex e32).ex e33
      have l4 : Dk K _ p2 [] F := ((⟨⟨[], upd_same, .nil⟩, np2⟩ : Dk K (upd (upd H3 p1 (.dK [])) p2 (.dK [])) p2 [] F)).ex e33
      refine ⟨_, tup_at upd_same, rfl, _, _, rfl, _, _, rfl, _, _, rfl, rfl, j, rfl, ?_⟩
      generalize upd (upd (upd H3 p1 (.dK [])) p2 (.dK [])) p3 (.tup [.ref j, .ref p1, .ref p2]) = H4 at z4 j4 k4 l4 ⊢
      obtain ⟨jx, hj4⟩ := id j4.at_
      refine ⟨_, _, hj4, rfl, j, d, 0, _, F, rfl, j4.at_, z4.dv, ?_⟩
      simp only [cx_K, gcx_K, lcx_K, LenV, rLenU, tTruU, kTup, tFld, sFld, sFldAug, tMet, tMake, tBM, tDGet, tDGet1, tDGet2, sDPut, tRevL, iEnum, tAug, tAsg, mulV_int, iaddU_int, isubU_int, iaddU_str, tTupL, ex2eq, not_true_eq_false, not_false_eq_true, LamX.tLam, LamX.TTold, tSeq, tIf, tNext, tRet, tRetN, tIfS, tTest, tB, tNot, tAnd, tOr, tChain, tOp, tUn, tC, tVar, tCons, tNil, tTup, tLst, tAsg, gName, gTup, gCons, gNil, gSub, tDrop, tCallS, tCB, tM1, tM0, tBM, tBM0, tSl, tPar, tFor_eq, tLc_eq, intU_int, intU_bl, iList, iTup, iEnumT, tDNewK, rSlT, rSlL, iRng1, iRng2, iStr, tThen, tNever, L2.start, tRaiseFile, tMkFile, tYes, tPart, tNoPart, addA_int, addA_str, addU_int, addU_str, addU_ref, subU_int, mulU_int, mulU_ref, fdvU_int, modU_int, powU_int, ltU_int, leU_int, gtU_int, geU_int, eqU_int, eqU_str, eqU_bl, neU_int, neU_str, neU_bl, WE, TruV, List.map, List.length_cons, List.length_nil, List.replicate, List.append, List.getElem?_cons_zero, List.getElem?_cons_succ, List.set_cons_zero, List.set_cons_succ, List.cons_append, List.nil_append, Option.some.injEq, V.int.injEq, V.str.injEq, V.bl.injEq, V.ref.injEq, List.cons.injEq, exists_eq_left, exists_eq_right, and_true, true_and, and_self, exists_eq, exists_const, Bool.not_true, Bool.not_false, Bool.false_eq_true, if_true, if_false, reduceIte, decide_eq_true_eq, bne_iff_ne, exists_eq_left', exists_eq', exists_and_left, Bool.not_eq_true', decide_eq_false_iff_not, Nat.reduceSub, Nat.reduceAdd, reduceCtorEq, false_and, or_false, false_or, exists_false]
      refine .inr ⟨rfl, ?_⟩
      simp only [cx_K, gcx_K, lcx_K, LenV, rLenU, tTruU, kTup, tFld, sFld, sFldAug, tMet, tMake, tBM, tDGet, tDGet1, tDGet2, sDPut, tRevL, iEnum, tAug, tAsg, mulV_int, iaddU_int, isubU_int, iaddU_str, tTupL, ex2eq, not_true_eq_false, not_false_eq_true, LamX.tLam, LamX.TTold, tSeq, tIf, tNext, tRet, tRetN, tIfS, tTest, tB, tNot, tAnd, tOr, tChain, tOp, tUn, tC, tVar, tCons, tNil, tTup, tLst, tAsg, gName, gTup, gCons, gNil, gSub, tDrop, tCallS, tCB, tM1, tM0, tBM, tBM0, tSl, tPar, tFor_eq, tLc_eq, intU_int, intU_bl, iList, iTup, iEnumT, tDNewK, rSlT, rSlL, iRng1, iRng2, iStr, tThen, tNever, L2.start, tRaiseFile, tMkFile, tYes, tPart, tNoPart, addA_int, addA_str, addU_int, addU_str, addU_ref, subU_int, mulU_int, mulU_ref, fdvU_int, modU_int, powU_int, ltU_int, leU_int, gtU_int, geU_int, eqU_int, eqU_str, eqU_bl, neU_int, neU_str, neU_bl, WE, TruV, List.map, List.length_cons, List.length_nil, List.replicate, List.append, List.getElem?_cons_zero, List.getElem?_cons_succ, List.set_cons_zero, List.set_cons_succ, List.cons_append, List.nil_append, Option.some.injEq, V.int.injEq, V.str.injEq, V.bl.injEq, V.ref.injEq, List.cons.injEq, exists_eq_left, exists_eq_right, and_true, true_and, and_self, exists_eq, exists_const, Bool.not_true, Bool.not_false, Bool.false_eq_true, if_true, if_false, reduceIte, decide_eq_true_eq, bne_iff_ne, exists_eq_left', exists_eq', exists_and_left, Bool.not_eq_true', decide_eq_false_iff_not, Nat.reduceSub, Nat.reduceAdd, reduceCtorEq, false_and, or_false, false_or, exists_false]
      obtain ⟨dx4, b4, w4, hd4⟩ := z4.dv.ins
      refine ⟨_, _, hd4, rfl, roll_ok z4.c (by decide) (by decide) fun n1 H5 n10 n11 e5 c5 => ⟨sz 2, fun p5 hp5 => ?_⟩⟩
      have z5 := z4.roll e5 c5
      have j5 := j4.roll z4 e5
      have k5 := k4.roll z4 e5
      have l5 := l4.roll z4 e5
      have e6 : Ex [] (TLaw PL) GT H5 (upd H5 p5 (.lst [.int n1, .non])) := Ex.new hp5
      have z6 := z5.ex e6
      have j6 := j5.ex e6
      have k6 := k5.ex e6
      have l6 := l5.ex e6
      have np5 : p5 ≠ r := fun e => by
        obtain ⟨x, y, z, c⟩ := z5.c
        rw [e, c] at hp5; cases hp5
      refine roll_ok z6.c (by decide) (by decide) fun n2 H7 n20 n21 e7 c7 => ?_
      have z7 := z6.roll e7 c7
      have j7 := j6.roll z6 e7
      have k7 := k6.roll z6 e7
      have l7 := l6.roll z6 e7
      have h75 := e7.lst (by simpa using np5) (upd_same (a := p5) (o := HO.lst [.int n1, .non]))
      obtain ⟨fu, hfu⟩ := fz_at n1 n2 n20 n21
      refine rIx_lst (lst_at h75) hfu ⟨d, _, F, fu, rfl, z7.dv, fun H8 a8 => ?_⟩
      obtain ⟨F8, z8, hF8⟩ := z7.dev a8
      have j8 := j7.dev a8.e hF8
      have k8 := k7.dev a8.e hF8
      have l8 := l7.dev a8.e hF8
      refine roll_ok z8.c (by decide) (by decide) fun n3 H9 n30 n31 e9 c9 => ⟨n3, rfl, by omega, by omega, ?_⟩
      have z9 := z8.roll e9 c9
      have j9 := j8.roll z8 e9
      have k9 := k8.roll z8 e9
      have l9 := l8.roll z8 e9
      refine with_nx (Af K CD (TLaw PL) GT q r d) ?aft fun hk => ?_
      case aft =>
        rintro σ H ⟨p1, p2, v, F, kl, ll, ⟨v0, v4, v5, v6, v7, v8, v9, v10, v11, v12, v13, v14, v16, v17, v18, v19, rfl⟩, zA, kA, lA, pA⟩
        simp only [cx_K, gcx_K, lcx_K, LenV, rLenU, tTruU, kTup, tFld, sFld, sFldAug, tMet, tMake, tBM, tDGet, tDGet1, tDGet2, sDPut, tRevL, iEnum, tAug, tAsg, mulV_int, iaddU_int, isubU_int, iaddU_str, tTupL, ex2eq, not_true_eq_false, not_false_eq_true, LamX.tLam, LamX.TTold, tSeq, tIf, tNext, tRet, tRetN, tIfS, tTest, tB, tNot, tAnd, tOr, tChain, tOp, tUn, tC, tVar, tCons, tNil, tTup, tLst, tAsg, gName, gTup, gCons, gNil, gSub, tDrop, tCallS, tCB, tM1, tM0, tBM, tBM0, tSl, tPar, tFor_eq, tLc_eq, intU_int, intU_bl, iList, iTup, iEnumT, tDNewK, rSlT, rSlL, iRng1, iRng2, iStr, tThen, tNever, L2.start, tRaiseFile, tMkFile, tYes, tPart, tNoPart, addA_int, addA_str, addU_int, addU_str, addU_ref, subU_int, mulU_int, mulU_ref, fdvU_int, modU_int, powU_int, ltU_int, leU_int, gtU_int, geU_int, eqU_int, eqU_str, eqU_bl, neU_int, neU_str, neU_bl, WE, TruV, List.map, List.length_cons, List.length_nil, List.replicate, List.append, List.getElem?_cons_zero, List.getElem?_cons_succ, List.set_cons_zero, List.set_cons_succ, List.cons_append, List.nil_append, Option.some.injEq, V.int.injEq, V.str.injEq, V.bl.injEq, V.ref.injEq, List.cons.injEq, exists_eq_left, exists_eq_right, and_true, true_and, and_self, exists_eq, exists_const, Bool.not_true, Bool.not_false, Bool.false_eq_true, if_true, if_false, reduceIte, decide_eq_true_eq, bne_iff_ne, exists_eq_left', exists_eq', exists_and_left, Bool.not_eq_true', decide_eq_false_iff_not, Nat.reduceSub, Nat.reduceAdd, reduceCtorEq, false_and, or_false, false_or, exists_false]
        refine ⟨r, _, _, _, rfl, zA.c, zA.dv, zA.nr, pA.wf.b, pA.wf.w, pA.sz, fun a2 cs F2 H2 e2 c2 D2 hF2 => ?_⟩
        have z2 := zA.again e2 c2 D2 hF2
        have k2 := kA.again zA e2 hF2
        have l2 := lA.again zA e2 hF2
        obtain ⟨P2, f2⟩ := pA.rest cs
        generalize drest v cs = v2 at *
        refine roll_ok z2.c (by decide) (by decide) fun n3 H3 n30 n31 e3 c3 => ⟨n3, rfl, by omega, by omega, ?_⟩
        have z3 := z2.roll e3 c3
        have k3 := k2.roll z2 e3
        have l3 := l2.roll z2 e3
        refine loop_range (fun _ => La K CD (TLaw PL) GT q r d p1 p2 kl ll) ⟨a2, v2, F2, ⟨_, _, _, _, _, _, _, _, _, _, _, _, _, _, _, rfl⟩, z3, k3, l3, P2, f2⟩ ?rec ?found
        case rec =>
          clear z3 k3 l3 e3 c3 z2 k2 l2 P2 f2 e2 c2 D2 hF2 zA kA lA pA
          rintro i σ H _ ⟨a, v, F, ⟨v0, v4, v5, v6, v7, v8, v9, v10, v11, v12, v13, v16, v17, v18, v19, rfl⟩, zA, kA, lA, pA, _⟩
          simp only [cx_K, gcx_K, lcx_K, LenV, rLenU, tTruU, kTup, tFld, sFld, sFldAug, tMet, tMake, tBM, tDGet, tDGet1, tDGet2, sDPut, tRevL, iEnum, tAug, tAsg, mulV_int, iaddU_int, isubU_int, iaddU_str, tTupL, ex2eq, not_true_eq_false, not_false_eq_true, LamX.tLam, LamX.TTold, tSeq, tIf, tNext, tRet, tRetN, tIfS, tTest, tB, tNot, tAnd, tOr, tChain, tOp, tUn, tC, tVar, tCons, tNil, tTup, tLst, tAsg, gName, gTup, gCons, gNil, gSub, tDrop, tCallS, tCB, tM1, tM0, tBM, tBM0, tSl, tPar, tFor_eq, tLc_eq, intU_int, intU_bl, iList, iTup, iEnumT, tDNewK, rSlT, rSlL, iRng1, iRng2, iStr, tThen, tNever, L2.start, tRaiseFile, tMkFile, tYes, tPart, tNoPart, addA_int, addA_str, addU_int, addU_str, addU_ref, subU_int, mulU_int, mulU_ref, fdvU_int, modU_int, powU_int, ltU_int, leU_int, gtU_int, geU_int, eqU_int, eqU_str, eqU_bl, neU_int, neU_str, neU_bl, WE, TruV, List.map, List.length_cons, List.length_nil, List.replicate, List.append, List.getElem?_cons_zero, List.getElem?_cons_succ, List.set_cons_zero, List.set_cons_succ, List.cons_append, List.nil_append, Option.some.injEq, V.int.injEq, V.str.injEq, V.bl.injEq, V.ref.injEq, List.cons.injEq, exists_eq_left, exists_eq_right, and_true, true_and, and_self, exists_eq, exists_const, Bool.not_true, Bool.not_false, Bool.false_eq_true, if_true, if_false, reduceIte, decide_eq_true_eq, bne_iff_ne, exists_eq_left', exists_eq', exists_and_left, Bool.not_eq_true', decide_eq_false_iff_not, Nat.reduceSub, Nat.reduceAdd, reduceCtorEq, false_and, or_false, false_or, exists_false]
          obtain ⟨dx4, b4, w4, hd4⟩ := zA.dv.ins
          refine ⟨_, _, hd4, rfl, roll_ok zA.c (by decide) (by decide) fun n1 H5 n10 n11 e5 c5 => ⟨_, _, _, some n1, rfl, (zA.roll e5 c5).dv, fun H8 a8 => ?_⟩⟩
          have z5 := zA.roll e5 c5
          have k5 := kA.roll zA e5
          have l5 := lA.roll zA e5
          obtain ⟨F8, z8, hF8⟩ := z5.dev a8
          have k8 := k5.dev a8.e hF8
          have l8 := l5.dev a8.e hF8
          have P8 := pA.arm (some n1)
          refine ⟨z8.tb.tl, fun H9 x9 t9 => told2_intro ?_⟩
          have e9 : Ex [] (TLaw PL) GT H8 H9 := ExtN.ex x9 t9
          refine jrn_new fun j HJ eJ JJ hjn => ?_
          have z9 := (z8.ex e9).ex eJ
          have k9 := (k8.ex e9).ex eJ
          have l9 := (l8.ex e9).ex eJ
          have j9 := jt_new (z8.ex e9) JJ hjn
          obtain ⟨jx9, hj9⟩ := id j9.at_
          have P9 := P8.rec_
          refine ⟨_, _, hj9, rfl, j, _, _, _, _, rfl, j9.at_, z9.dv, P8.wf, P8.de, z9.tb, j9.nj, by have := P8.sz; omega, fun _ u HR aR sR => ?_, fun _ HR aR => ⟨true, xe.dd, fun _ => ?_, fun z => by cases z⟩⟩
          all_goals
            obtain ⟨FR, zR, hFR⟩ := z9.dev aR
            have kR := k9.dev aR.e hFR
            have lR := l9.dev aR.e hFR
            generalize (runOps { v with fuse := some n1 } (recOps (dpend { v with fuse := some n1 }))).1 = vR at *
            try simp only [cx_K, gcx_K, lcx_K, LenV, rLenU, tTruU, kTup, tFld, sFld, sFldAug, tMet, tMake, tBM, tDGet, tDGet1, tDGet2, sDPut, tRevL, iEnum, tAug, tAsg, mulV_int, iaddU_int, isubU_int, iaddU_str, tTupL, ex2eq, not_true_eq_false, not_false_eq_true, LamX.tLam, LamX.TTold, tSeq, tIf, tNext, tRet, tRetN, tIfS, tTest, tB, tNot, tAnd, tOr, tChain, tOp, tUn, tC, tVar, tCons, tNil, tTup, tLst, tAsg, gName, gTup, gCons, gNil, gSub, tDrop, tCallS, tCB, tM1, tM0, tBM, tBM0, tSl, tPar, tFor_eq, tLc_eq, intU_int, intU_bl, iList, iTup, iEnumT, tDNewK, rSlT, rSlL, iRng1, iRng2, iStr, tThen, tNever, L2.start, tRaiseFile, tMkFile, tYes, tPart, tNoPart, addA_int, addA_str, addU_int, addU_str, addU_ref, subU_int, mulU_int, mulU_ref, fdvU_int, modU_int, powU_int, ltU_int, leU_int, gtU_int, geU_int, eqU_int, eqU_str, eqU_bl, neU_int, neU_str, neU_bl, WE, TruV, List.map, List.length_cons, List.length_nil, List.replicate, List.append, List.getElem?_cons_zero, List.getElem?_cons_succ, List.set_cons_zero, List.set_cons_succ, List.cons_append, List.nil_append, Option.some.injEq, V.int.injEq, V.str.injEq, V.bl.injEq, V.ref.injEq, List.cons.injEq, exists_eq_left, exists_eq_right, and_true, true_and, and_self, exists_eq, exists_const, Bool.not_true, Bool.not_false, Bool.false_eq_true, if_true, if_false, reduceIte, decide_eq_true_eq, bne_iff_ne, exists_eq_left', exists_eq', exists_and_left, Bool.not_eq_true', decide_eq_false_iff_not, Nat.reduceSub, Nat.reduceAdd, reduceCtorEq, false_and, or_false, false_or, exists_false]
            refine ⟨r, _, _, _, rfl, zR.c, zR.dv, zR.nr, P9.wf.b, P9.wf.w, P9.sz, fun a2 cs F2 H2 e2 c2 D2 hF2 => ?_⟩
            have z2 := zR.again e2 c2 D2 hF2
            have k2 := kR.again zR e2 hF2
            have l2 := lR.again zR e2 hF2
            obtain ⟨P2, f2⟩ := P9.rest cs
            exact ⟨a2, _, F2, ⟨_, _, _, _, _, _, _, _, _, _, _, _, _, _, _, rfl⟩, z2, k2, l2, P2, f2⟩
        case found =>
          clear z3 k3 l3 e3 c3 z2 k2 l2 P2 f2 e2 c2 D2 hF2 zA kA lA pA
          rintro σ H ⟨a, v, F, ⟨v0, v4, v5, v6, v7, v8, v9, v10, v11, v12, v13, v16, v17, v18, v19, rfl⟩, zA, kA, lA, pA, fA⟩
          simp only [cx_K, gcx_K, lcx_K, LenV, rLenU, tTruU, kTup, tFld, sFld, sFldAug, tMet, tMake, tBM, tDGet, tDGet1, tDGet2, sDPut, tRevL, iEnum, tAug, tAsg, mulV_int, iaddU_int, isubU_int, iaddU_str, tTupL, ex2eq, not_true_eq_false, not_false_eq_true, LamX.tLam, LamX.TTold, tSeq, tIf, tNext, tRet, tRetN, tIfS, tTest, tB, tNot, tAnd, tOr, tChain, tOp, tUn, tC, tVar, tCons, tNil, tTup, tLst, tAsg, gName, gTup, gCons, gNil, gSub, tDrop, tCallS, tCB, tM1, tM0, tBM, tBM0, tSl, tPar, tFor_eq, tLc_eq, intU_int, intU_bl, iList, iTup, iEnumT, tDNewK, rSlT, rSlL, iRng1, iRng2, iStr, tThen, tNever, L2.start, tRaiseFile, tMkFile, tYes, tPart, tNoPart, addA_int, addA_str, addU_int, addU_str, addU_ref, subU_int, mulU_int, mulU_ref, fdvU_int, modU_int, powU_int, ltU_int, leU_int, gtU_int, geU_int, eqU_int, eqU_str, eqU_bl, neU_int, neU_str, neU_bl, WE, TruV, List.map, List.length_cons, List.length_nil, List.replicate, List.append, List.getElem?_cons_zero, List.getElem?_cons_succ, List.set_cons_zero, List.set_cons_succ, List.cons_append, List.nil_append, Option.some.injEq, V.int.injEq, V.str.injEq, V.bl.injEq, V.ref.injEq, List.cons.injEq, exists_eq_left, exists_eq_right, and_true, true_and, and_self, exists_eq, exists_const, Bool.not_true, Bool.not_false, Bool.false_eq_true, if_true, if_false, reduceIte, decide_eq_true_eq, bne_iff_ne, exists_eq_left', exists_eq', exists_and_left, Bool.not_eq_true', decide_eq_false_iff_not, Nat.reduceSub, Nat.reduceAdd, reduceCtorEq, false_and, or_false, false_or, exists_false]
          refine ⟨zA.tb.tl, fun H9 x9 t9 => told2_intro ?_⟩
          have e9 : Ex [] (TLaw PL) GT H H9 := ExtN.ex x9 t9
          refine jrn_new fun j HJ eJ JJ hjn => ?_
          have z9 := (zA.ex e9).ex eJ
          have k9 := (kA.ex e9).ex eJ
          have l9 := (lA.ex e9).ex eJ
          have j9 := jt_new (zA.ex e9) JJ hjn
          obtain ⟨jx9, hj9⟩ := id j9.at_
          obtain ⟨hok, P9, hrng⟩ := pA.home fA
          refine ⟨_, _, hj9, rfl, j, _, _, _, _, rfl, j9.at_, z9.dv, pA.wf, pA.de, z9.tb, j9.nj, by have := pA.sz; omega, fun _ u HR aR sR => ?_, fun hno => by rw [hok] at hno; cases hno⟩
          obtain ⟨FR, zR, hFR⟩ := z9.dev aR
          have kR := k9.dev aR.e hFR
          have lR := l9.dev aR.e hFR
          generalize (runOps v (recOps (dpend v))).1 = vR at *
          simp only [cx_K, gcx_K, lcx_K, LenV, rLenU, tTruU, kTup, tFld, sFld, sFldAug, tMet, tMake, tBM, tDGet, tDGet1, tDGet2, sDPut, tRevL, iEnum, tAug, tAsg, mulV_int, iaddU_int, isubU_int, iaddU_str, tTupL, ex2eq, not_true_eq_false, not_false_eq_true, LamX.tLam, LamX.TTold, tSeq, tIf, tNext, tRet, tRetN, tIfS, tTest, tB, tNot, tAnd, tOr, tChain, tOp, tUn, tC, tVar, tCons, tNil, tTup, tLst, tAsg, gName, gTup, gCons, gNil, gSub, tDrop, tCallS, tCB, tM1, tM0, tBM, tBM0, tSl, tPar, tFor_eq, tLc_eq, intU_int, intU_bl, iList, iTup, iEnumT, tDNewK, rSlT, rSlL, iRng1, iRng2, iStr, tThen, tNever, L2.start, tRaiseFile, tMkFile, tYes, tPart, tNoPart, addA_int, addA_str, addU_int, addU_str, addU_ref, subU_int, mulU_int, mulU_ref, fdvU_int, modU_int, powU_int, ltU_int, leU_int, gtU_int, geU_int, eqU_int, eqU_str, eqU_bl, neU_int, neU_str, neU_bl, WE, TruV, List.map, List.length_cons, List.length_nil, List.replicate, List.append, List.getElem?_cons_zero, List.getElem?_cons_succ, List.set_cons_zero, List.set_cons_succ, List.cons_append, List.nil_append, Option.some.injEq, V.int.injEq, V.str.injEq, V.bl.injEq, V.ref.injEq, List.cons.injEq, exists_eq_left, exists_eq_right, and_true, true_and, and_self, exists_eq, exists_const, Bool.not_true, Bool.not_false, Bool.false_eq_true, if_true, if_false, reduceIte, decide_eq_true_eq, bne_iff_ne, exists_eq_left', exists_eq', exists_and_left, Bool.not_eq_true', decide_eq_false_iff_not, Nat.reduceSub, Nat.reduceAdd, reduceCtorEq, false_and, or_false, false_or, exists_false]
          refine eqD_tup_str sR (by decide +kernel) ?_
          simp only [cx_K, gcx_K, lcx_K, LenV, rLenU, tTruU, kTup, tFld, sFld, sFldAug, tMet, tMake, tBM, tDGet, tDGet1, tDGet2, sDPut, tRevL, iEnum, tAug, tAsg, mulV_int, iaddU_int, isubU_int, iaddU_str, tTupL, ex2eq, not_true_eq_false, not_false_eq_true, LamX.tLam, LamX.TTold, tSeq, tIf, tNext, tRet, tRetN, tIfS, tTest, tB, tNot, tAnd, tOr, tChain, tOp, tUn, tC, tVar, tCons, tNil, tTup, tLst, tAsg, gName, gTup, gCons, gNil, gSub, tDrop, tCallS, tCB, tM1, tM0, tBM, tBM0, tSl, tPar, tFor_eq, tLc_eq, intU_int, intU_bl, iList, iTup, iEnumT, tDNewK, rSlT, rSlL, iRng1, iRng2, iStr, tThen, tNever, L2.start, tRaiseFile, tMkFile, tYes, tPart, tNoPart, addA_int, addA_str, addU_int, addU_str, addU_ref, subU_int, mulU_int, mulU_ref, fdvU_int, modU_int, powU_int, ltU_int, leU_int, gtU_int, geU_int, eqU_int, eqU_str, eqU_bl, neU_int, neU_str, neU_bl, WE, TruV, List.map, List.length_cons, List.length_nil, List.replicate, List.append, List.getElem?_cons_zero, List.getElem?_cons_succ, List.set_cons_zero, List.set_cons_succ, List.cons_append, List.nil_append, Option.some.injEq, V.int.injEq, V.str.injEq, V.bl.injEq, V.ref.injEq, List.cons.injEq, exists_eq_left, exists_eq_right, and_true, true_and, and_self, exists_eq, exists_const, Bool.not_true, Bool.not_false, Bool.false_eq_true, if_true, if_false, reduceIte, decide_eq_true_eq, bne_iff_ne, exists_eq_left', exists_eq', exists_and_left, Bool.not_eq_true', decide_eq_false_iff_not, Nat.reduceSub, Nat.reduceAdd, reduceCtorEq, false_and, or_false, false_or, exists_false]
          refine same2 zR kR lR P9 fun HS eS => ?_
          obtain ⟨lx, P⟩ : ∃ lx, Pd vR lx := P9.elim (fun P => ⟨_, P⟩) fun P => ⟨_, P⟩
          have zS := zR.ex eS
          have sS := eS.sqt sR
          refine jrn_new fun j2 HT eT JT hjT => ?_
          have zT := zS.ex eT
          have jT := jt_new zS JT hjT
          obtain ⟨jxT, hjT2⟩ := id jT.at_
          have sT := eT.sqt sS
          refine ⟨_, _, hjT2, rfl, j2, _, _, _, _, rfl, jT.at_, zT.dv, P.wf, P.de, zT.tb, jT.nj, by have := P.sz; omega, fun _ u2 HU aU sU => ?_, fun hno => by rw [P.rec_] at hno; cases hno⟩
          rw [P.rec_] at aU
          rw [P.pend] at sU
          have sV := aU.e.sqt sT
          obtain ⟨FU, zU, hFU⟩ := zT.dev aU
          refine ⟨sz 0, fun p3 hp3 => ?_⟩
          have eV : Ex [] (TLaw PL) GT HU (upd HU p3 (.tup [])) := Ex.new hp3
          refine ne_tups (ns := []) (ms := []) (eV.sqt sU) (tup_at upd_same) ?_
          simp only [cx_K, gcx_K, lcx_K, LenV, rLenU, tTruU, kTup, tFld, sFld, sFldAug, tMet, tMake, tBM, tDGet, tDGet1, tDGet2, sDPut, tRevL, iEnum, tAug, tAsg, mulV_int, iaddU_int, isubU_int, iaddU_str, tTupL, ex2eq, not_true_eq_false, not_false_eq_true, LamX.tLam, LamX.TTold, tSeq, tIf, tNext, tRet, tRetN, tIfS, tTest, tB, tNot, tAnd, tOr, tChain, tOp, tUn, tC, tVar, tCons, tNil, tTup, tLst, tAsg, gName, gTup, gCons, gNil, gSub, tDrop, tCallS, tCB, tM1, tM0, tBM, tBM0, tSl, tPar, tFor_eq, tLc_eq, intU_int, intU_bl, iList, iTup, iEnumT, tDNewK, rSlT, rSlL, iRng1, iRng2, iStr, tThen, tNever, L2.start, tRaiseFile, tMkFile, tYes, tPart, tNoPart, addA_int, addA_str, addU_int, addU_str, addU_ref, subU_int, mulU_int, mulU_ref, fdvU_int, modU_int, powU_int, ltU_int, leU_int, gtU_int, geU_int, eqU_int, eqU_str, eqU_bl, neU_int, neU_str, neU_bl, WE, TruV, List.map, List.length_cons, List.length_nil, List.replicate, List.append, List.getElem?_cons_zero, List.getElem?_cons_succ, List.set_cons_zero, List.set_cons_succ, List.cons_append, List.nil_append, Option.some.injEq, V.int.injEq, V.str.injEq, V.bl.injEq, V.ref.injEq, List.cons.injEq, exists_eq_left, exists_eq_right, and_true, true_and, and_self, exists_eq, exists_const, Bool.not_true, Bool.not_false, Bool.false_eq_true, if_true, if_false, reduceIte, decide_eq_true_eq, bne_iff_ne, exists_eq_left', exists_eq', exists_and_left, Bool.not_eq_true', decide_eq_false_iff_not, Nat.reduceSub, Nat.reduceAdd, reduceCtorEq, false_and, or_false, false_or, exists_false]
          have zV := zU.ex eV
          have sV := eV.sqt sV
          generalize upd HU p3 (.tup []) = HV at eV zV sV ⊢
          refine ⟨⟨_, sV⟩, fun D hD => ?_⟩
          refine lcl_tup (xs := ((dpend v).map (·.1)).map V.int) (fun i H' => H' D = some (.lst []) ∧ Ex [] (TLaw PL) GT HV H') ⟨upd_same, Ex.new hD⟩ (fun i H' _ e => e.2.sqt sV) ?num ?nums
          case num =>
            rintro i x H' hx ⟨hl, e⟩
            obtain ⟨n, hn, rfl⟩ := map_at hx
            obtain ⟨bk, hbk, rfl⟩ := map_at hn
            obtain ⟨r1, r2⟩ := hrng bk (List.mem_of_getElem? hbk)
            simp only [cx_K, gcx_K, lcx_K, LenV, rLenU, tTruU, kTup, tFld, sFld, sFldAug, tMet, tMake, tBM, tDGet, tDGet1, tDGet2, sDPut, tRevL, iEnum, tAug, tAsg, mulV_int, iaddU_int, isubU_int, iaddU_str, tTupL, ex2eq, not_true_eq_false, not_false_eq_true, LamX.tLam, LamX.TTold, tSeq, tIf, tNext, tRet, tRetN, tIfS, tTest, tB, tNot, tAnd, tOr, tChain, tOp, tUn, tC, tVar, tCons, tNil, tTup, tLst, tAsg, gName, gTup, gCons, gNil, gSub, tDrop, tCallS, tCB, tM1, tM0, tBM, tBM0, tSl, tPar, tFor_eq, tLc_eq, intU_int, intU_bl, iList, iTup, iEnumT, tDNewK, rSlT, rSlL, iRng1, iRng2, iStr, tThen, tNever, L2.start, tRaiseFile, tMkFile, tYes, tPart, tNoPart, addA_int, addA_str, addU_int, addU_str, addU_ref, subU_int, mulU_int, mulU_ref, fdvU_int, modU_int, powU_int, ltU_int, leU_int, gtU_int, geU_int, eqU_int, eqU_str, eqU_bl, neU_int, neU_str, neU_bl, WE, TruV, List.map, List.length_cons, List.length_nil, List.replicate, List.append, List.getElem?_cons_zero, List.getElem?_cons_succ, List.set_cons_zero, List.set_cons_succ, List.cons_append, List.nil_append, Option.some.injEq, V.int.injEq, V.str.injEq, V.bl.injEq, V.ref.injEq, List.cons.injEq, exists_eq_left, exists_eq_right, and_true, true_and, and_self, exists_eq, exists_const, Bool.not_true, Bool.not_false, Bool.false_eq_true, if_true, if_false, reduceIte, decide_eq_true_eq, bne_iff_ne, exists_eq_left', exists_eq', exists_and_left, Bool.not_eq_true', decide_eq_false_iff_not, Nat.reduceSub, Nat.reduceAdd, reduceCtorEq, false_and, or_false, false_or, exists_false, wipe]
            rw [if_pos r1, if_neg (fun z => z r2)]
            exact ⟨hl, e⟩
          rintro HW ⟨hlW, eW⟩
          have zW := zV.ex eW
          refine ⟨sz 0, fun p4 hp4 => ?_⟩
          have eX : Ex [] (TLaw PL) GT HW (upd HW p4 (.lst [])) := Ex.new hp4
          refine ne_lstI (ns := []) (ms := []) (lst_at (eX.lst (by simp) hlW)) (lst_at upd_same) ?_
          simp only [cx_K, gcx_K, lcx_K, LenV, rLenU, tTruU, kTup, tFld, sFld, sFldAug, tMet, tMake, tBM, tDGet, tDGet1, tDGet2, sDPut, tRevL, iEnum, tAug, tAsg, mulV_int, iaddU_int, isubU_int, iaddU_str, tTupL, ex2eq, not_true_eq_false, not_false_eq_true, LamX.tLam, LamX.TTold, tSeq, tIf, tNext, tRet, tRetN, tIfS, tTest, tB, tNot, tAnd, tOr, tChain, tOp, tUn, tC, tVar, tCons, tNil, tTup, tLst, tAsg, gName, gTup, gCons, gNil, gSub, tDrop, tCallS, tCB, tM1, tM0, tBM, tBM0, tSl, tPar, tFor_eq, tLc_eq, intU_int, intU_bl, iList, iTup, iEnumT, tDNewK, rSlT, rSlL, iRng1, iRng2, iStr, tThen, tNever, L2.start, tRaiseFile, tMkFile, tYes, tPart, tNoPart, addA_int, addA_str, addU_int, addU_str, addU_ref, subU_int, mulU_int, mulU_ref, fdvU_int, modU_int, powU_int, ltU_int, leU_int, gtU_int, geU_int, eqU_int, eqU_str, eqU_bl, neU_int, neU_str, neU_bl, WE, TruV, List.map, List.length_cons, List.length_nil, List.replicate, List.append, List.getElem?_cons_zero, List.getElem?_cons_succ, List.set_cons_zero, List.set_cons_succ, List.cons_append, List.nil_append, Option.some.injEq, V.int.injEq, V.str.injEq, V.bl.injEq, V.ref.injEq, List.cons.injEq, exists_eq_left, exists_eq_right, and_true, true_and, and_self, exists_eq, exists_const, Bool.not_true, Bool.not_false, Bool.false_eq_true, if_true, if_false, reduceIte, decide_eq_true_eq, bne_iff_ne, exists_eq_left', exists_eq', exists_and_left, Bool.not_eq_true', decide_eq_false_iff_not, Nat.reduceSub, Nat.reduceAdd, reduceCtorEq, false_and, or_false, false_or, exists_false]
          have zX := zW.ex eX
          generalize upd HW p4 (.lst []) = HX at zX ⊢
          clear sV sT sS zW zV zU zT zS zR eX eW eV eT eS aU sU kA lA kR lR k9 l9 zA z9 hlW
          refine ⟨r, rfl, zX.c, fun u5 us rows HA eA cA fA nA hA pA G => ?_⟩
          have zA := zX.roll eA cA
          refine ⟨u5, rfl, ⟨_, lst_at hA⟩, fun D hD => ?_⟩
          refine lcl_list (xs := us) (fun i H' => H' D = some (.lst (us.take i)) ∧ Ex [] (TLaw PL) GT HA H') ⟨upd_same, Ex.new hD⟩ (fun i H' _ e => e.2.sql (by simp) (lst_at hA)) ?cp ?cpd
          case cp =>
            rintro i x H' hx ⟨hl, e⟩
            simp only [cx_K, gcx_K, lcx_K, LenV, rLenU, tTruU, kTup, tFld, sFld, sFldAug, tMet, tMake, tBM, tDGet, tDGet1, tDGet2, sDPut, tRevL, iEnum, tAug, tAsg, mulV_int, iaddU_int, isubU_int, iaddU_str, tTupL, ex2eq, not_true_eq_false, not_false_eq_true, LamX.tLam, LamX.TTold, tSeq, tIf, tNext, tRet, tRetN, tIfS, tTest, tB, tNot, tAnd, tOr, tChain, tOp, tUn, tC, tVar, tCons, tNil, tTup, tLst, tAsg, gName, gTup, gCons, gNil, gSub, tDrop, tCallS, tCB, tM1, tM0, tBM, tBM0, tSl, tPar, tFor_eq, tLc_eq, intU_int, intU_bl, iList, iTup, iEnumT, tDNewK, rSlT, rSlL, iRng1, iRng2, iStr, tThen, tNever, L2.start, tRaiseFile, tMkFile, tYes, tPart, tNoPart, addA_int, addA_str, addU_int, addU_str, addU_ref, subU_int, mulU_int, mulU_ref, fdvU_int, modU_int, powU_int, ltU_int, leU_int, gtU_int, geU_int, eqU_int, eqU_str, eqU_bl, neU_int, neU_str, neU_bl, WE, TruV, List.map, List.length_cons, List.length_nil, List.replicate, List.append, List.getElem?_cons_zero, List.getElem?_cons_succ, List.set_cons_zero, List.set_cons_succ, List.cons_append, List.nil_append, Option.some.injEq, V.int.injEq, V.str.injEq, V.bl.injEq, V.ref.injEq, List.cons.injEq, exists_eq_left, exists_eq_right, and_true, true_and, and_self, exists_eq, exists_const, Bool.not_true, Bool.not_false, Bool.false_eq_true, if_true, if_false, reduceIte, decide_eq_true_eq, bne_iff_ne, exists_eq_left', exists_eq', exists_and_left, Bool.not_eq_true', decide_eq_false_iff_not, Nat.reduceSub, Nat.reduceAdd, reduceCtorEq, false_and, or_false, false_or, exists_false, wipe]
            refine ⟨_, hl, ?_, ?_, e.overL hD hl⟩
            · rw [List.length_take, sizeLine_eq]; have := paired_len pA; have := G.few; omega
            · rw [upd_same, take_more hx]
          rintro HB ⟨hB, eB⟩
          rw [List.take_length] at hB
          refine ⟨us, lst_at hB, fun p5 hp5 => ?_⟩
          rw [cut5]
          have e5 : Ex [] (TLaw PL) GT HB (upd HB p5 (.lst (us.take 5))) := Ex.new hp5
          have h5 : upd HB p5 (.lst (us.take 5)) p5 = some (.lst (us.take 5)) := upd_same
          have zC := (zA.ex eB).ex e5
          have q5 : Paired (PairAt K (upd HB p5 (.lst (us.take 5)))) (us.take 5) (rows.take 5) := paired_take 5 (pimp (fun _ _ => PairAt.ex (eB.trans e5)) pA)
          have G5 := G.take 5
          have l5 : (rows.take 5).length ≤ 5 := by rw [List.length_take]; omega
          have nP5 : p5 ≠ r := fun e => by
            obtain ⟨x, y, z, c⟩ := (zA.ex eB).c
            rw [e, c] at hp5; cases hp5
          generalize upd HB p5 (.lst (us.take 5)) = HC at *
          generalize us.take 5 = us5 at *
          generalize rows.take 5 = rw5 at *
          clear hB eB zA hA pA G e5 zX
          have lu5 := paired_len q5
          refine ⟨⟨_, lst_at h5⟩, fun DN hDN => ?_⟩
          refine lcl_list (xs := us5) (fun i H' => H' DN = some (.lst (((rw5.map (·.1)).take i).map V.int)) ∧ Ex [] (TLaw PL) GT HC H') ⟨upd_same, Ex.new hDN⟩ (fun i H' _ e => e.2.sql (by simp) (lst_at h5)) ?nm ?nmd
          case nm =>
            rintro i x H' hx ⟨hl, e⟩
            obtain ⟨bk, hbk, q0, u0, rfl, hq2, hu0⟩ := paired_at q5 hx
            simp only [cx_K, gcx_K, lcx_K, LenV, rLenU, tTruU, kTup, tFld, sFld, sFldAug, tMet, tMake, tBM, tDGet, tDGet1, tDGet2, sDPut, tRevL, iEnum, tAug, tAsg, mulV_int, iaddU_int, isubU_int, iaddU_str, tTupL, ex2eq, not_true_eq_false, not_false_eq_true, LamX.tLam, LamX.TTold, tSeq, tIf, tNext, tRet, tRetN, tIfS, tTest, tB, tNot, tAnd, tOr, tChain, tOp, tUn, tC, tVar, tCons, tNil, tTup, tLst, tAsg, gName, gTup, gCons, gNil, gSub, tDrop, tCallS, tCB, tM1, tM0, tBM, tBM0, tSl, tPar, tFor_eq, tLc_eq, intU_int, intU_bl, iList, iTup, iEnumT, tDNewK, rSlT, rSlL, iRng1, iRng2, iStr, tThen, tNever, L2.start, tRaiseFile, tMkFile, tYes, tPart, tNoPart, addA_int, addA_str, addU_int, addU_str, addU_ref, subU_int, mulU_int, mulU_ref, fdvU_int, modU_int, powU_int, ltU_int, leU_int, gtU_int, geU_int, eqU_int, eqU_str, eqU_bl, neU_int, neU_str, neU_bl, WE, TruV, List.map, List.length_cons, List.length_nil, List.replicate, List.append, List.getElem?_cons_zero, List.getElem?_cons_succ, List.set_cons_zero, List.set_cons_succ, List.cons_append, List.nil_append, Option.some.injEq, V.int.injEq, V.str.injEq, V.bl.injEq, V.ref.injEq, List.cons.injEq, exists_eq_left, exists_eq_right, and_true, true_and, and_self, exists_eq, exists_const, Bool.not_true, Bool.not_false, Bool.false_eq_true, if_true, if_false, reduceIte, decide_eq_true_eq, bne_iff_ne, exists_eq_left', exists_eq', exists_and_left, Bool.not_eq_true', decide_eq_false_iff_not, Nat.reduceSub, Nat.reduceAdd, reduceCtorEq, false_and, or_false, false_or, exists_false, wipe]
            refine ⟨_, e.sqt hq2, rfl, _, _, rfl, _, _, rfl, rfl, _, hl, ?_, ?_, e.overL hDN hl⟩
            · simp only [List.length_map, List.length_take, sizeLine_eq]; omega
            · rw [upd_same, take_more (x := bk.1) (by rw [List.getElem?_map, hbk]; rfl), List.map_append]; rfl
          rintro HD ⟨hDN, eD⟩
          rw [List.take_of_length_le (by rw [List.length_map]; omega)] at hDN
          refine ⟨⟨_, lst_at (eD.lst (by simp) h5)⟩, fun DD hDD => ?_⟩
          have nDD : DD ≠ r := fun e => by
            obtain ⟨x, y, z, c⟩ := (zC.ex eD).c
            rw [e, c] at hDD; cases hDD
          refine lcl_list (xs := us5) (fun i H' => (∃ acc, H' DD = some (.lst acc) ∧ Paired (TI K H') acc ((rw5.map (·.2)).take i)) ∧ Ex [] (TLaw PL) GT HD H') ⟨⟨[], upd_same, .nil⟩, Ex.new hDD⟩ (fun i H' _ e => e.2.sql (by simp) (lst_at (eD.lst (by simp) h5))) ?dt ?dtd
          case dt =>
            rintro i x H' hx ⟨⟨acc, hl, pa⟩, e⟩
            obtain ⟨bk, hbk, q0, u0, rfl, hq2, hu0⟩ := paired_at q5 hx
            simp only [cx_K, gcx_K, lcx_K, LenV, rLenU, tTruU, kTup, tFld, sFld, sFldAug, tMet, tMake, tBM, tDGet, tDGet1, tDGet2, sDPut, tRevL, iEnum, tAug, tAsg, mulV_int, iaddU_int, isubU_int, iaddU_str, tTupL, ex2eq, not_true_eq_false, not_false_eq_true, LamX.tLam, LamX.TTold, tSeq, tIf, tNext, tRet, tRetN, tIfS, tTest, tB, tNot, tAnd, tOr, tChain, tOp, tUn, tC, tVar, tCons, tNil, tTup, tLst, tAsg, gName, gTup, gCons, gNil, gSub, tDrop, tCallS, tCB, tM1, tM0, tBM, tBM0, tSl, tPar, tFor_eq, tLc_eq, intU_int, intU_bl, iList, iTup, iEnumT, tDNewK, rSlT, rSlL, iRng1, iRng2, iStr, tThen, tNever, L2.start, tRaiseFile, tMkFile, tYes, tPart, tNoPart, addA_int, addA_str, addU_int, addU_str, addU_ref, subU_int, mulU_int, mulU_ref, fdvU_int, modU_int, powU_int, ltU_int, leU_int, gtU_int, geU_int, eqU_int, eqU_str, eqU_bl, neU_int, neU_str, neU_bl, WE, TruV, List.map, List.length_cons, List.length_nil, List.replicate, List.append, List.getElem?_cons_zero, List.getElem?_cons_succ, List.set_cons_zero, List.set_cons_succ, List.cons_append, List.nil_append, Option.some.injEq, V.int.injEq, V.str.injEq, V.bl.injEq, V.ref.injEq, List.cons.injEq, exists_eq_left, exists_eq_right, and_true, true_and, and_self, exists_eq, exists_const, Bool.not_true, Bool.not_false, Bool.false_eq_true, if_true, if_false, reduceIte, decide_eq_true_eq, bne_iff_ne, exists_eq_left', exists_eq', exists_and_left, Bool.not_eq_true', decide_eq_false_iff_not, Nat.reduceSub, Nat.reduceAdd, reduceCtorEq, false_and, or_false, false_or, exists_false, wipe]
            have eP : Ex [DD] (TLaw PL) GT H' (upd H' DD (.lst (acc ++ [u0]))) := Ex.put (by simp) hl rfl
            refine ⟨_, (eD.trans e).sqt hq2, rfl, _, _, rfl, _, _, rfl, rfl, _, hl, ?_, ⟨_, upd_same, ?_⟩, e.overL hDD hl⟩
            · rw [paired_len pa]; simp only [List.length_map, List.length_take, sizeLine_eq]; omega
            · rw [take_more (x := bk.2) (by rw [List.getElem?_map, hbk]; rfl)]
              exact paired_append (pimp (fun _ _ => TI.ex eP) pa) (.cons (TI.ex eP (TI.ex (eD.trans e) hu0)) .nil)
          rintro HE ⟨⟨acc, hDD, pa⟩, eE⟩
          rw [List.take_of_length_le (by rw [List.length_map]; omega)] at pa
          have zE := (zC.ex eD).ex eE
          refine ⟨7, DN, DD, rw5.map (·.1), acc, rw5.map (·.2), rfl, lst_at (eE.lst (by simp) hDN), lst_at hDD, pa, by rw [List.length_map]; omega, by rw [List.length_map]; omega, fun x hx => ?_, fun hdp HF eF hF => ?_⟩
          · obtain ⟨p, hp, rfl⟩ := List.mem_map.mp hx
            exact G5.len p hp
          have flen : (fullHead 7 (rw5.map (·.1)) (rw5.map (·.2))).length = 64 := full_len (by rw [List.length_map]; omega)
          refine ⟨64, .inr ⟨_, hF, by rw [List.length_map, flen]⟩, ?_⟩
          rw [if_neg (fun z => z (by rfl))]
          have zF := zE.ex eF
          refine ⟨hdp, _, rfl, hF, flen, full_nn, zF.tb, fun x HG eG xG => ?_⟩
          have zG := zF.ex eG
          have rg : ∀ n ∈ rw5.map (·.1), 0 ≤ n ∧ n < 65536 := fun n hn => by
            obtain ⟨p, hp, rfl⟩ := List.mem_map.mp hn
            have := G5.rng p hp
            omega
          rw [rhead_full (by rw [List.length_map]; omega) (by decide) rg] at xG
          obtain ⟨hr, ha, hb, rfl, hr1, hr2, hr3⟩ := xG
          refine slA_tup (TL := TLaw PL) (GT := GT) hr1 fun s2 HI eI hs2 => ?_
          have zI := zG.ex eI
          have eEI : Ex [] (TLaw PL) GT HE HI := (eF.trans eG).trans eI
          refine .inl ⟨_, lst_at (eEI.lst (by simp) (eE.lst (by simp) hDN)), fun q1 hq1 => ⟨sz 2, fun q2 hq2 => ?_⟩⟩
          have eJ : Ex [] (TLaw PL) GT HI (upd HI q1 (.tup ((rw5.map (·.1)).map V.int))) := Ex.new hq1
          have eK := Ex.new (A := []) (TL := TLaw PL) (GT := GT) (o := .tup [.int 7, .ref q1]) hq2
          refine ne_head (ns := rw5.map (·.1)) ((eJ.trans eK).sqt hs2) ((eI.trans (eJ.trans eK)).sqt hr2) (tup_at upd_same) (eK.sqt (tup_at upd_same)) ?_
          simp only [cx_K, gcx_K, lcx_K, LenV, rLenU, tTruU, kTup, tFld, sFld, sFldAug, tMet, tMake, tBM, tDGet, tDGet1, tDGet2, sDPut, tRevL, iEnum, tAug, tAsg, mulV_int, iaddU_int, isubU_int, iaddU_str, tTupL, ex2eq, not_true_eq_false, not_false_eq_true, LamX.tLam, LamX.TTold, tSeq, tIf, tNext, tRet, tRetN, tIfS, tTest, tB, tNot, tAnd, tOr, tChain, tOp, tUn, tC, tVar, tCons, tNil, tTup, tLst, tAsg, gName, gTup, gCons, gNil, gSub, tDrop, tCallS, tCB, tM1, tM0, tBM, tBM0, tSl, tPar, tFor_eq, tLc_eq, intU_int, intU_bl, iList, iTup, iEnumT, tDNewK, rSlT, rSlL, iRng1, iRng2, iStr, tThen, tNever, L2.start, tRaiseFile, tMkFile, tYes, tPart, tNoPart, addA_int, addA_str, addU_int, addU_str, addU_ref, subU_int, mulU_int, mulU_ref, fdvU_int, modU_int, powU_int, ltU_int, leU_int, gtU_int, geU_int, eqU_int, eqU_str, eqU_bl, neU_int, neU_str, neU_bl, WE, TruV, List.map, List.length_cons, List.length_nil, List.replicate, List.append, List.getElem?_cons_zero, List.getElem?_cons_succ, List.set_cons_zero, List.set_cons_succ, List.cons_append, List.nil_append, Option.some.injEq, V.int.injEq, V.str.injEq, V.bl.injEq, V.ref.injEq, List.cons.injEq, exists_eq_left, exists_eq_right, and_true, true_and, and_self, exists_eq, exists_const, Bool.not_true, Bool.not_false, Bool.false_eq_true, if_true, if_false, reduceIte, decide_eq_true_eq, bne_iff_ne, exists_eq_left', exists_eq', exists_and_left, Bool.not_eq_true', decide_eq_false_iff_not, Nat.reduceSub, Nat.reduceAdd, reduceCtorEq, false_and, or_false, false_or, exists_false]
          have zK := (zI.ex eJ).ex eK
          have eEK := (eEI.trans eJ).trans eK
          have hFK := ((eG.trans eI).trans (eJ.trans eK)).sqt hF
          generalize upd (upd HI q1 (.tup ((rw5.map (·.1)).map V.int))) q2 (.tup [.int 7, .ref q1]) = HK at zK eEK hFK ⊢
          have gK : Gs K HK r DD p5 hdp acc us5 rw5 [] := ⟨eEK.lst (by simp) hDD, pimp (fun _ _ => TI.ex eEK) pa, ((eD.trans eE).trans eEK).lst (by simp) h5, pimp (fun _ _ => PairAt.ex ((eD.trans eE).trans eEK)) q5, hFK, by simp, by simp, nDD, nP5⟩
          refine ⟨sz 1, fun p6 hp6 => mulV_any (TL := TLaw PL) (GT := GT) (SqT.of upd_same) (by simp) (by decide) (by decide) (by decide) fun zz HL eL hz => ?_⟩
          have eKL := (Ex.new (A := []) (TL := TLaw PL) (GT := GT) (o := .tup [.int 0]) hp6).trans eL
          have zL := zK.ex eKL
          have gL := gK.ex eKL
          have hz' : SqT K HL zz (zeros.map V.int) := hz
          refine ⟨zz, zeros, rfl, hz', rfl, by decide, zL.tb, fun x HM eM xM => ?_⟩
          rw [rhead_zeros] at xM
          obtain rfl : x = .non := xM
          rw [if_neg (fun z => z rfl)]
          have zM := zL.ex eM
          have gM := gL.ex eM
          refine dev_newA (.inl ⟨rfl, rfl⟩) fun d2 F2 HN eN D2 hF2 => ?_
          have zN := zM.again (eN.mono (by simp)) (zM.c.keep (by simp) eN) D2 hF2
          have gN := (gM.to (F' := F2) (fun x hx => .inr (hF2 x hx))).ex eN
          clear zM gM gL zL zK zI gK zG zF zE zC
          have lacc : acc.length = rw5.length := by rw [paired_len pa, List.length_map]
          refine ⟨_, lst_at gN.hd, ?_⟩
          refine loop_enum (xs := acc) (fun i σ H' => SgE r d2 DD hdp p5 σ ∧ ∃ v F, Z K CD (TLaw PL) GT H' q r d2 v F ∧ Gs K H' r DD p5 hdp acc us5 rw5 F ∧ Wv v ((jw rw5).take i))
            ⟨⟨_, _, _, _, _, _, _, _, _, _, _, _, _, _, _, rfl⟩, _, _, zN, gN, Wv.new⟩ (fun i σ H' _ ⟨_, _, _, _, g, _⟩ => lst_at g.hd) ?wr ?wrd
          case wr =>
            rintro i x σ H' T1 hx ⟨⟨w0, w2, w3, w4, w5, w6, w7, w8, w9, w10, w13, w14, w17, w18, w19, rfl⟩, vv, FF, z, g, W⟩ hT
            have eT := Ex.new (A := []) (TL := TLaw PL) (GT := GT) (o := .tup [.int (i : Nat), x]) hT
            have zT := z.ex eT
            have gT := g.ex eT
            have hsT : SqT K (upd H' T1 (.tup [.int (i : Nat), x])) T1 [.int (i : Nat), x] := SqT.of upd_same
            generalize upd H' T1 (.tup [.int (i : Nat), x]) = HT at zT gT hsT ⊢
            obtain ⟨x2, hx2, hu⟩ := paired_at gT.pd hx
            obtain ⟨bk, hbk, rfl⟩ := map_at' hx2
            have hi : i < rw5.length := by
              rcases Nat.lt_or_ge i rw5.length with z | z
              · exact z
              · rw [List.getElem?_eq_none z] at hbk; cases hbk
            obtain ⟨dxT, bT, wT, hdT⟩ := zT.dv.ins
            have hm := List.mem_of_getElem? hbk
            have WW := W.write (n := 2 + (i : Int)) (x := bk.2) ⟨by omega, by show (2 : Int) + i < 16; omega, G5.len bk hm, fun x hx => (G5.byt bk hm x hx).1⟩
            simp only [cx_K, gcx_K, lcx_K, LenV, rLenU, tTruU, kTup, tFld, sFld, sFldAug, tMet, tMake, tBM, tDGet, tDGet1, tDGet2, sDPut, tRevL, iEnum, tAug, tAsg, mulV_int, iaddU_int, isubU_int, iaddU_str, tTupL, ex2eq, not_true_eq_false, not_false_eq_true, LamX.tLam, LamX.TTold, tSeq, tIf, tNext, tRet, tRetN, tIfS, tTest, tB, tNot, tAnd, tOr, tChain, tOp, tUn, tC, tVar, tCons, tNil, tTup, tLst, tAsg, gName, gTup, gCons, gNil, gSub, tDrop, tCallS, tCB, tM1, tM0, tBM, tBM0, tSl, tPar, tFor_eq, tLc_eq, intU_int, intU_bl, iList, iTup, iEnumT, tDNewK, rSlT, rSlL, iRng1, iRng2, iStr, tThen, tNever, L2.start, tRaiseFile, tMkFile, tYes, tPart, tNoPart, addA_int, addA_str, addU_int, addU_str, addU_ref, subU_int, mulU_int, mulU_ref, fdvU_int, modU_int, powU_int, ltU_int, leU_int, gtU_int, geU_int, eqU_int, eqU_str, eqU_bl, neU_int, neU_str, neU_bl, WE, TruV, List.map, List.length_cons, List.length_nil, List.replicate, List.append, List.getElem?_cons_zero, List.getElem?_cons_succ, List.set_cons_zero, List.set_cons_succ, List.cons_append, List.nil_append, Option.some.injEq, V.int.injEq, V.str.injEq, V.bl.injEq, V.ref.injEq, List.cons.injEq, exists_eq_left, exists_eq_right, and_true, true_and, and_self, exists_eq, exists_const, Bool.not_true, Bool.not_false, Bool.false_eq_true, if_true, if_false, reduceIte, decide_eq_true_eq, bne_iff_ne, exists_eq_left', exists_eq', exists_and_left, Bool.not_eq_true', decide_eq_false_iff_not, Nat.reduceSub, Nat.reduceAdd, reduceCtorEq, false_and, or_false, false_or, exists_false]
            refine ⟨_, hsT, rfl, _, _, rfl, _, _, rfl, rfl, _, _, hdT, rfl, d2, vv, FF, 2 + (i : Int), x, bk.2, rfl, zT.dv, hu, ?_, fun _ H2 a2 => ?_, fun hno => by rw [WW.1] at hno; cases hno⟩
            · rw [W.wa, List.length_take, jw_len]; omega
            · obtain ⟨F3, z3, hF3⟩ := zT.dev a2
              refine ⟨⟨_, _, _, _, _, _, _, _, _, _, _, _, _, _, _, rfl⟩, _, F3, z3, gT.dev a2.e hF3, ?_⟩
              rw [take_more (jw_at hbk), show (1 : Int) + 1 + i = 2 + i by omega]
              exact WW.2
          rintro σ HO ⟨⟨w0, w2, w3, w4, w5, w6, w7, w8, w9, w10, w13, w14, w17, w18, w19, rfl⟩, vO, FO, zO, gO, W⟩
          rw [lacc, ← jw_len, List.take_length] at W
          simp only [cx_K, gcx_K, lcx_K, LenV, rLenU, tTruU, kTup, tFld, sFld, sFldAug, tMet, tMake, tBM, tDGet, tDGet1, tDGet2, sDPut, tRevL, iEnum, tAug, tAsg, mulV_int, iaddU_int, isubU_int, iaddU_str, tTupL, ex2eq, not_true_eq_false, not_false_eq_true, LamX.tLam, LamX.TTold, tSeq, tIf, tNext, tRet, tRetN, tIfS, tTest, tB, tNot, tAnd, tOr, tChain, tOp, tUn, tC, tVar, tCons, tNil, tTup, tLst, tAsg, gName, gTup, gCons, gNil, gSub, tDrop, tCallS, tCB, tM1, tM0, tBM, tBM0, tSl, tPar, tFor_eq, tLc_eq, intU_int, intU_bl, iList, iTup, iEnumT, tDNewK, rSlT, rSlL, iRng1, iRng2, iStr, tThen, tNever, L2.start, tRaiseFile, tMkFile, tYes, tPart, tNoPart, addA_int, addA_str, addU_int, addU_str, addU_ref, subU_int, mulU_int, mulU_ref, fdvU_int, modU_int, powU_int, ltU_int, leU_int, gtU_int, geU_int, eqU_int, eqU_str, eqU_bl, neU_int, neU_str, neU_bl, WE, TruV, List.map, List.length_cons, List.length_nil, List.replicate, List.append, List.getElem?_cons_zero, List.getElem?_cons_succ, List.set_cons_zero, List.set_cons_succ, List.cons_append, List.nil_append, Option.some.injEq, V.int.injEq, V.str.injEq, V.bl.injEq, V.ref.injEq, List.cons.injEq, exists_eq_left, exists_eq_right, and_true, true_and, and_self, exists_eq, exists_const, Bool.not_true, Bool.not_false, Bool.false_eq_true, if_true, if_false, reduceIte, decide_eq_true_eq, bne_iff_ne, exists_eq_left', exists_eq', exists_and_left, Bool.not_eq_true', decide_eq_false_iff_not, Nat.reduceSub, Nat.reduceAdd, reduceCtorEq, false_and, or_false, false_or, exists_false]
          obtain ⟨dxT, bT, wT, hdT⟩ := zO.dv.ins
          have WW := W.write (n := 1) (x := fullHead 7 (rw5.map (·.1)) (rw5.map (·.2))) ⟨by show (0 : Int) ≤ 1; decide, by show (1 : Int) < 16; decide, flen, full_nn⟩
          refine ⟨_, _, hdT, rfl, d2, vO, FO, 1, .ref hdp, _, rfl, zO.dv, ⟨hdp, rfl, gO.hh⟩, by rw [W.wa, jw_len]; omega, fun _ HP aP => ?_, fun hno => by rw [WW.1] at hno; cases hno⟩
          obtain ⟨FP, zP, hFP⟩ := zO.dev aP
          have gP := gO.dev aP.e hFP
          obtain ⟨_, W2⟩ := WW
          generalize (dwrite vO 1 (fullHead 7 (rw5.map (·.1)) (rw5.map (·.2)))).1 = vP at *
          refine jrn_new fun j3 HQ eQ JQ hjQ => ?_
          have zQ := zP.ex eQ
          have gQ := gP.ex eQ
          have jQ := jt_new zP JQ hjQ
          obtain ⟨jxQ, hjQ2⟩ := id jQ.at_
          have rng5 : ∀ p ∈ rw5, 8 ≤ p.1 ∧ p.1 < 15 := G5.rng
          have pe := pend_wait (v := vP) l5 (by decide) rng5 W2.wa
          refine ⟨_, _, hjQ2, rfl, j3, d2, _, _, _, rfl, jQ.at_, zQ.dv, W2.wf, W2.de, zQ.tb, fun uT usT HR eR fR hR pR => ?_⟩
          rw [pe] at pR
          have zR := zQ.ex eR
          have gR := gQ.ex eR
          refine ne_rows (lst_at hR) (lst_at gR.hg) pR gR.pg ?_
          simp only [cx_K, gcx_K, lcx_K, LenV, rLenU, tTruU, kTup, tFld, sFld, sFldAug, tMet, tMake, tBM, tDGet, tDGet1, tDGet2, sDPut, tRevL, iEnum, tAug, tAsg, mulV_int, iaddU_int, isubU_int, iaddU_str, tTupL, ex2eq, not_true_eq_false, not_false_eq_true, LamX.tLam, LamX.TTold, tSeq, tIf, tNext, tRet, tRetN, tIfS, tTest, tB, tNot, tAnd, tOr, tChain, tOp, tUn, tC, tVar, tCons, tNil, tTup, tLst, tAsg, gName, gTup, gCons, gNil, gSub, tDrop, tCallS, tCB, tM1, tM0, tBM, tBM0, tSl, tPar, tFor_eq, tLc_eq, intU_int, intU_bl, iList, iTup, iEnumT, tDNewK, rSlT, rSlL, iRng1, iRng2, iStr, tThen, tNever, L2.start, tRaiseFile, tMkFile, tYes, tPart, tNoPart, addA_int, addA_str, addU_int, addU_str, addU_ref, subU_int, mulU_int, mulU_ref, fdvU_int, modU_int, powU_int, ltU_int, leU_int, gtU_int, geU_int, eqU_int, eqU_str, eqU_bl, neU_int, neU_str, neU_bl, WE, TruV, List.map, List.length_cons, List.length_nil, List.replicate, List.append, List.getElem?_cons_zero, List.getElem?_cons_succ, List.set_cons_zero, List.set_cons_succ, List.cons_append, List.nil_append, Option.some.injEq, V.int.injEq, V.str.injEq, V.bl.injEq, V.ref.injEq, List.cons.injEq, exists_eq_left, exists_eq_right, and_true, true_and, and_self, exists_eq, exists_const, Bool.not_true, Bool.not_false, Bool.false_eq_true, if_true, if_false, reduceIte, decide_eq_true_eq, bne_iff_ne, exists_eq_left', exists_eq', exists_and_left, Bool.not_eq_true', decide_eq_false_iff_not, Nat.reduceSub, Nat.reduceAdd, reduceCtorEq, false_and, or_false, false_or, exists_false]
          refine ⟨sz 0, fun p7 hp7 => ?_⟩
          have eS : Ex [] (TLaw PL) GT HR (upd HR p7 (.lst [])) := Ex.new hp7
          have zS := zR.ex eS
          have gS := gR.ex eS
          refine ne_rows (m := []) (lst_at gS.hg) (lst_at upd_same) gS.pg .nil ?_
          generalize upd HR p7 (.lst []) = HS at zS gS ⊢
          by_cases h0 : rw5 = []
          · rw [decide_eq_true h0]
            simp only [cx_K, gcx_K, lcx_K, LenV, rLenU, tTruU, kTup, tFld, sFld, sFldAug, tMet, tMake, tBM, tDGet, tDGet1, tDGet2, sDPut, tRevL, iEnum, tAug, tAsg, mulV_int, iaddU_int, isubU_int, iaddU_str, tTupL, ex2eq, not_true_eq_false, not_false_eq_true, LamX.tLam, LamX.TTold, tSeq, tIf, tNext, tRet, tRetN, tIfS, tTest, tB, tNot, tAnd, tOr, tChain, tOp, tUn, tC, tVar, tCons, tNil, tTup, tLst, tAsg, gName, gTup, gCons, gNil, gSub, tDrop, tCallS, tCB, tM1, tM0, tBM, tBM0, tSl, tPar, tFor_eq, tLc_eq, intU_int, intU_bl, iList, iTup, iEnumT, tDNewK, rSlT, rSlL, iRng1, iRng2, iStr, tThen, tNever, L2.start, tRaiseFile, tMkFile, tYes, tPart, tNoPart, addA_int, addA_str, addU_int, addU_str, addU_ref, subU_int, mulU_int, mulU_ref, fdvU_int, modU_int, powU_int, ltU_int, leU_int, gtU_int, geU_int, eqU_int, eqU_str, eqU_bl, neU_int, neU_str, neU_bl, WE, TruV, List.map, List.length_cons, List.length_nil, List.replicate, List.append, List.getElem?_cons_zero, List.getElem?_cons_succ, List.set_cons_zero, List.set_cons_succ, List.cons_append, List.nil_append, Option.some.injEq, V.int.injEq, V.str.injEq, V.bl.injEq, V.ref.injEq, List.cons.injEq, exists_eq_left, exists_eq_right, and_true, true_and, and_self, exists_eq, exists_const, Bool.not_true, Bool.not_false, Bool.false_eq_true, if_true, if_false, reduceIte, decide_eq_true_eq, bne_iff_ne, exists_eq_left', exists_eq', exists_and_left, Bool.not_eq_true', decide_eq_false_iff_not, Nat.reduceSub, Nat.reduceAdd, reduceCtorEq, false_and, or_false, false_or, exists_false]
            refine roll_ok zS.c (by decide) (by decide) fun n9 I1 n90 n91 i1 k1 => ?_
            have y1 := zS.roll i1 k1
            refine ⟨y1.tb.tl, fun I2 x2 t2 => told2_intro ?_⟩
            have i2 : Ex [] (TLaw PL) GT I1 I2 := ExtN.ex x2 t2
            have y2 := y1.ex i2
            obtain ⟨dxI, bI, wI, hdI⟩ := y2.dv.ins
            refine ⟨_, _, hdI, rfl, d2, _, _, 16, rfl, y2.dv, fun hok => ?_, fun _ => ⟨true, xe.dd, fun _ => ?_, fun z => by cases z⟩⟩
            · unfold okNum at hok
              rw [W2.to] at hok
              simp at hok
            simp only [cx_K, gcx_K, lcx_K, LenV, rLenU, tTruU, kTup, tFld, sFld, sFldAug, tMet, tMake, tBM, tDGet, tDGet1, tDGet2, sDPut, tRevL, iEnum, tAug, tAsg, mulV_int, iaddU_int, isubU_int, iaddU_str, tTupL, ex2eq, not_true_eq_false, not_false_eq_true, LamX.tLam, LamX.TTold, tSeq, tIf, tNext, tRet, tRetN, tIfS, tTest, tB, tNot, tAnd, tOr, tChain, tOp, tUn, tC, tVar, tCons, tNil, tTup, tLst, tAsg, gName, gTup, gCons, gNil, gSub, tDrop, tCallS, tCB, tM1, tM0, tBM, tBM0, tSl, tPar, tFor_eq, tLc_eq, intU_int, intU_bl, iList, iTup, iEnumT, tDNewK, rSlT, rSlL, iRng1, iRng2, iStr, tThen, tNever, L2.start, tRaiseFile, tMkFile, tYes, tPart, tNoPart, addA_int, addA_str, addU_int, addU_str, addU_ref, subU_int, mulU_int, mulU_ref, fdvU_int, modU_int, powU_int, ltU_int, leU_int, gtU_int, geU_int, eqU_int, eqU_str, eqU_bl, neU_int, neU_str, neU_bl, WE, TruV, List.map, List.length_cons, List.length_nil, List.replicate, List.append, List.getElem?_cons_zero, List.getElem?_cons_succ, List.set_cons_zero, List.set_cons_succ, List.cons_append, List.nil_append, Option.some.injEq, V.int.injEq, V.str.injEq, V.bl.injEq, V.ref.injEq, List.cons.injEq, exists_eq_left, exists_eq_right, and_true, true_and, and_self, exists_eq, exists_const, Bool.not_true, Bool.not_false, Bool.false_eq_true, if_true, if_false, reduceIte, decide_eq_true_eq, bne_iff_ne, exists_eq_left', exists_eq', exists_and_left, Bool.not_eq_true', decide_eq_false_iff_not, Nat.reduceSub, Nat.reduceAdd, reduceCtorEq, false_and, or_false, false_or, exists_false]
            refine ⟨y2.tb.tl, fun I3 x3 t3 => told2_intro ?_⟩
            have i3 : Ex [] (TLaw PL) GT I2 I3 := ExtN.ex x3 t3
            have y3 := y2.ex i3
            refine dev_newA (.inl ⟨rfl, rfl⟩) fun d3 F3 I4 i4 D3 hF3 => ?_
            obtain ⟨dxJ, bJ, wJ, hdJ⟩ := D3.ins
            refine ⟨_, _, hdJ, rfl, sz 1, fun p9 hp9 => ⟨by decide, ?_⟩⟩
            have i5 : Ex [] (TLaw PL) GT I4 (upd I4 p9 (.tup [.int 1])) := Ex.new hp9
            refine mulV_any (TL := TLaw PL) (GT := GT) (SqT.of upd_same) (by simp) (by omega) (by omega) (by decide) fun zz I6 i6 hz6 => ?_
            have eI6 := i5.trans i6
            have ez : (List.replicate (n9 % 64).toNat [V.int 1]).flatten = (List.replicate (n9 % 64).toNat (1 : Int)).map V.int := by
              rw [List.flatten_replicate_singleton, List.map_replicate]
            rw [ez] at hz6
            have hno : dwrite (newDv 2 []) 0 (List.replicate (n9 % 64).toNat (1 : Int)) = (newDv 2 [], false) := by
              unfold dwrite
              rw [if_neg (by decide), if_pos (by rw [List.length_replicate]; omega)]
            refine ⟨d3, _, F3, 0, .ref zz, _, rfl, D3.keep eI6 (fun _ _ => by simp), ⟨zz, rfl, hz6⟩, by show 0 < 10000; decide, fun hy => (by rw [hno] at hy; cases hy), fun _ I7 a7 => ⟨true, xe.dd, fun _ => ?_, fun z => by cases z⟩⟩
            try simp only [cx_K, gcx_K, lcx_K, LenV, rLenU, tTruU, kTup, tFld, sFld, sFldAug, tMet, tMake, tBM, tDGet, tDGet1, tDGet2, sDPut, tRevL, iEnum, tAug, tAsg, mulV_int, iaddU_int, isubU_int, iaddU_str, tTupL, ex2eq, not_true_eq_false, not_false_eq_true, LamX.tLam, LamX.TTold, tSeq, tIf, tNext, tRet, tRetN, tIfS, tTest, tB, tNot, tAnd, tOr, tChain, tOp, tUn, tC, tVar, tCons, tNil, tTup, tLst, tAsg, gName, gTup, gCons, gNil, gSub, tDrop, tCallS, tCB, tM1, tM0, tBM, tBM0, tSl, tPar, tFor_eq, tLc_eq, intU_int, intU_bl, iList, iTup, iEnumT, tDNewK, rSlT, rSlL, iRng1, iRng2, iStr, tThen, tNever, L2.start, tRaiseFile, tMkFile, tYes, tPart, tNoPart, addA_int, addA_str, addU_int, addU_str, addU_ref, subU_int, mulU_int, mulU_ref, fdvU_int, modU_int, powU_int, ltU_int, leU_int, gtU_int, geU_int, eqU_int, eqU_str, eqU_bl, neU_int, neU_str, neU_bl, WE, TruV, List.map, List.length_cons, List.length_nil, List.replicate, List.append, List.getElem?_cons_zero, List.getElem?_cons_succ, List.set_cons_zero, List.set_cons_succ, List.cons_append, List.nil_append, Option.some.injEq, V.int.injEq, V.str.injEq, V.bl.injEq, V.ref.injEq, List.cons.injEq, exists_eq_left, exists_eq_right, and_true, true_and, and_self, exists_eq, exists_const, Bool.not_true, Bool.not_false, Bool.false_eq_true, if_true, if_false, reduceIte, decide_eq_true_eq, bne_iff_ne, exists_eq_left', exists_eq', exists_and_left, Bool.not_eq_true', decide_eq_false_iff_not, Nat.reduceSub, Nat.reduceAdd, reduceCtorEq, false_and, or_false, false_or, exists_false]
            have nq7 : q ∉ F3 := off_new (F := []) y3.hq (fun _ h => by cases h) (by simp) (fun x hx => .inr (hF3 x hx))
            have e47 := i4.trans eI6
            exact ⟨fun z => z.elim, a7.e.lst nq7 (e47.lst (by simp) y3.hq), a7.e.tb (e47.tb y3.tb)⟩
          rw [decide_eq_false h0]
          simp only [cx_K, gcx_K, lcx_K, LenV, rLenU, tTruU, kTup, tFld, sFld, sFldAug, tMet, tMake, tBM, tDGet, tDGet1, tDGet2, sDPut, tRevL, iEnum, tAug, tAsg, mulV_int, iaddU_int, isubU_int, iaddU_str, tTupL, ex2eq, not_true_eq_false, not_false_eq_true, LamX.tLam, LamX.TTold, tSeq, tIf, tNext, tRet, tRetN, tIfS, tTest, tB, tNot, tAnd, tOr, tChain, tOp, tUn, tC, tVar, tCons, tNil, tTup, tLst, tAsg, gName, gTup, gCons, gNil, gSub, tDrop, tCallS, tCB, tM1, tM0, tBM, tBM0, tSl, tPar, tFor_eq, tLc_eq, intU_int, intU_bl, iList, iTup, iEnumT, tDNewK, rSlT, rSlL, iRng1, iRng2, iStr, tThen, tNever, L2.start, tRaiseFile, tMkFile, tYes, tPart, tNoPart, addA_int, addA_str, addU_int, addU_str, addU_ref, subU_int, mulU_int, mulU_ref, fdvU_int, modU_int, powU_int, ltU_int, leU_int, gtU_int, geU_int, eqU_int, eqU_str, eqU_bl, neU_int, neU_str, neU_bl, WE, TruV, List.map, List.length_cons, List.length_nil, List.replicate, List.append, List.getElem?_cons_zero, List.getElem?_cons_succ, List.set_cons_zero, List.set_cons_succ, List.cons_append, List.nil_append, Option.some.injEq, V.int.injEq, V.str.injEq, V.bl.injEq, V.ref.injEq, List.cons.injEq, exists_eq_left, exists_eq_right, and_true, true_and, and_self, exists_eq, exists_const, Bool.not_true, Bool.not_false, Bool.false_eq_true, if_true, if_false, reduceIte, decide_eq_true_eq, bne_iff_ne, exists_eq_left', exists_eq', exists_and_left, Bool.not_eq_true', decide_eq_false_iff_not, Nat.reduceSub, Nat.reduceAdd, reduceCtorEq, false_and, or_false, false_or, exists_false]
          obtain ⟨b0, rs, rfl⟩ : ∃ b0 rs, rw5 = b0 :: rs := by
            cases rw5 with
            | nil => exact absurd rfl h0
            | cons b rs => exact ⟨b, rs, rfl⟩
          obtain ⟨t0, l0, rfl⟩ : ∃ t0 l0, acc = .ref t0 :: l0 := by
            cases gS.pd with
            | cons p r =>
              obtain ⟨t, rfl, _⟩ := p
              exact ⟨t, _, rfl⟩
          have lb := G5.len b0 (by simp)
          have bb := G5.byt b0 (by simp)
          refine roll_ok zS.c (by decide) (by decide) fun n HT n0 n1 eT cT => ?_
          have zT := zS.roll eT cT
          have gT := gS.roll eT
          obtain ⟨k, rfl⟩ : ∃ k : Nat, n = k := ⟨n.toNat, by omega⟩
          have hk : k < b0.2.length := by omega
          have hT0 : SqT K HT t0 (b0.2.map V.int) := by
            cases gT.pd with
            | cons p r =>
              obtain ⟨t, e, q⟩ := p
              cases e
              exact q
          have hx0 : ∀ {HH : Hp}, Ex [] (TLaw PL) GT HT HH → SqT K HH t0 (b0.2.map V.int) := fun e => e.sqt hT0
          have hl0 : ∀ {HH : Hp}, Ex [] (TLaw PL) GT HT HH → SqL K HH DD (.ref t0 :: l0) := fun e => lst_at (gT.ex e).hd
          refine rIx_lst (hl0 Ex.refl) (atI_nat (j := 0) rfl) ⟨_, rfl, slA_tup (TL := TLaw PL) (GT := GT) hT0 fun s1 H1 e1 hs1 => ?_⟩
          refine rIx_lst (hl0 e1) (atI_nat (j := 0) rfl) (rIx_tup (hx0 e1) (atI_nat (j := k) (by rw [List.getElem?_map, List.getElem?_eq_getElem hk]; rfl)) ?_)
          simp only [cx_K, gcx_K, lcx_K, LenV, rLenU, tTruU, kTup, tFld, sFld, sFldAug, tMet, tMake, tBM, tDGet, tDGet1, tDGet2, sDPut, tRevL, iEnum, tAug, tAsg, mulV_int, iaddU_int, isubU_int, iaddU_str, tTupL, ex2eq, not_true_eq_false, not_false_eq_true, LamX.tLam, LamX.TTold, tSeq, tIf, tNext, tRet, tRetN, tIfS, tTest, tB, tNot, tAnd, tOr, tChain, tOp, tUn, tC, tVar, tCons, tNil, tTup, tLst, tAsg, gName, gTup, gCons, gNil, gSub, tDrop, tCallS, tCB, tM1, tM0, tBM, tBM0, tSl, tPar, tFor_eq, tLc_eq, intU_int, intU_bl, iList, iTup, iEnumT, tDNewK, rSlT, rSlL, iRng1, iRng2, iStr, tThen, tNever, L2.start, tRaiseFile, tMkFile, tYes, tPart, tNoPart, addA_int, addA_str, addU_int, addU_str, addU_ref, subU_int, mulU_int, mulU_ref, fdvU_int, modU_int, powU_int, ltU_int, leU_int, gtU_int, geU_int, eqU_int, eqU_str, eqU_bl, neU_int, neU_str, neU_bl, WE, TruV, List.map, List.length_cons, List.length_nil, List.replicate, List.append, List.getElem?_cons_zero, List.getElem?_cons_succ, List.set_cons_zero, List.set_cons_succ, List.cons_append, List.nil_append, Option.some.injEq, V.int.injEq, V.str.injEq, V.bl.injEq, V.ref.injEq, List.cons.injEq, exists_eq_left, exists_eq_right, and_true, true_and, and_self, exists_eq, exists_const, Bool.not_true, Bool.not_false, Bool.false_eq_true, if_true, if_false, reduceIte, decide_eq_true_eq, bne_iff_ne, exists_eq_left', exists_eq', exists_and_left, Bool.not_eq_true', decide_eq_false_iff_not, Nat.reduceSub, Nat.reduceAdd, reduceCtorEq, false_and, or_false, false_or, exists_false]
          refine ⟨by decide, sz 1, fun p8 hp8 => ?_⟩
          have e2 := Ex.new (A := []) (TL := TLaw PL) (GT := GT) (o := .tup [.int ((b0.2[k] + 1) % 256)]) hp8
          refine addA_tup (TL := TLaw PL) (GT := GT) (e2.sqt hs1) (SqT.of upd_same) ?_ fun s2 H3 e3 hs2 => ?_
          · rw [cutL (by omega)]
            simp only [List.length_take, List.length_map, List.length_cons, List.length_nil, sizeLine_eq]
            omega
          have e13 := (e1.trans e2).trans e3
          refine rIx_lst (hl0 e13) (atI_nat (j := 0) rfl) ?_
          refine slA_tup (TL := TLaw PL) (GT := GT) (hx0 e13) fun s3 H4 e4 hs3 => ?_
          refine addA_tup (TL := TLaw PL) (GT := GT) (e4.sqt hs2) hs3 ?_ fun s4 H5 e5 hs4 => ?_
          · rw [cutL (by omega), cutR (by omega) (by rw [List.length_map]; omega)]
            simp only [List.length_take, List.length_map, List.length_cons, List.length_nil, List.length_append, List.length_drop, sizeLine_eq]
            omega
          have e15 := (e13.trans e4).trans e5
          have zU := zT.ex e15
          have gU := gT.ex e15
          have ebent : cutV (b0.2.map V.int) none (some (k : Int)) ++ [V.int ((b0.2[k] + 1) % 256)] ++ cutV (b0.2.map V.int) (some ((k : Int) + 1)) none = (b0.2.take k ++ [(b0.2[k] + 1) % 256] ++ b0.2.drop (k + 1)).map V.int := by
            rw [cutL (by omega), cutR (by omega) (by rw [List.length_map]; omega)]
            rw [List.map_append, List.map_append, List.map_take, List.map_drop]
            rfl
          rw [ebent] at hs4
          generalize hbt : b0.2.take k ++ [(b0.2[k] + 1) % 256] ++ b0.2.drop (k + 1) = bent at hs4
          have hbk := bb b0.2[k] (List.getElem_mem hk)
          have WW3 := W2.write (n := 2) (x := bent) ⟨by show (0 : Int) ≤ 2; decide, by show (2 : Int) < 16; decide, by show bent.length = 64; rw [← hbt]; simp only [List.length_append, List.length_take, List.length_drop, List.length_cons, List.length_nil]; omega, fun x hx => by
            have hx : x ∈ bent := hx
            rw [← hbt] at hx
            rcases List.mem_append.mp hx with hx | hx
            · rcases List.mem_append.mp hx with hx | hx
              · exact (bb x (List.mem_of_mem_take hx)).1
              · rw [List.mem_singleton.mp hx]; omega
            · exact (bb x (List.mem_of_mem_drop hx)).1⟩
          obtain ⟨dxU, bU, wU, hdU⟩ := zU.dv.ins
          refine ⟨_, _, hdU, rfl, d2, _, _, 2, .ref s4, bent, rfl, zU.dv, ⟨s4, rfl, hs4⟩, by rw [W2.wa, List.length_append, jw_len]; simp only [List.length_cons, List.length_nil] at l5 ⊢; omega, fun _ HV aV => ?_, fun hno => by rw [WW3.1] at hno; cases hno⟩
          obtain ⟨FV, zV, hFV⟩ := zU.dev aV
          obtain ⟨_, W3⟩ := WW3
          have pe3 := pend_bent (v := (dwrite vP 2 bent).1) (s := 7) l5 (by decide) rng5 hk hbk (by rw [W3.wa, hbt])
          generalize (dwrite vP 2 bent).1 = vV at *
          refine jrn_new fun j4 HW eW JW hjW => ?_
          have zW := zV.ex eW
          have jW := jt_new zV JW hjW
          obtain ⟨jxW, hjW2⟩ := id jW.at_
          refine ⟨_, _, hjW2, rfl, j4, d2, _, _, _, rfl, jW.at_, zW.dv, W3.wf, W3.de, zW.tb, fun uT usT HX eX fX hX pX => ⟨sz 0, fun p9 hp9 => ?_⟩⟩
          rw [pe3] at pX
          have eY : Ex [] (TLaw PL) GT HX (upd HX p9 (.lst [])) := Ex.new hp9
          have zY := (zW.ex eX).ex eY
          refine ne_rows (l := []) (m := []) (lst_at (eY.lst (by simp) hX)) (lst_at upd_same) (pimp (fun _ _ => PairAt.ex eY) pX) .nil ?_
          simp only [cx_K, gcx_K, lcx_K, LenV, rLenU, tTruU, kTup, tFld, sFld, sFldAug, tMet, tMake, tBM, tDGet, tDGet1, tDGet2, sDPut, tRevL, iEnum, tAug, tAsg, mulV_int, iaddU_int, isubU_int, iaddU_str, tTupL, ex2eq, not_true_eq_false, not_false_eq_true, LamX.tLam, LamX.TTold, tSeq, tIf, tNext, tRet, tRetN, tIfS, tTest, tB, tNot, tAnd, tOr, tChain, tOp, tUn, tC, tVar, tCons, tNil, tTup, tLst, tAsg, gName, gTup, gCons, gNil, gSub, tDrop, tCallS, tCB, tM1, tM0, tBM, tBM0, tSl, tPar, tFor_eq, tLc_eq, intU_int, intU_bl, iList, iTup, iEnumT, tDNewK, rSlT, rSlL, iRng1, iRng2, iStr, tThen, tNever, L2.start, tRaiseFile, tMkFile, tYes, tPart, tNoPart, addA_int, addA_str, addU_int, addU_str, addU_ref, subU_int, mulU_int, mulU_ref, fdvU_int, modU_int, powU_int, ltU_int, leU_int, gtU_int, geU_int, eqU_int, eqU_str, eqU_bl, neU_int, neU_str, neU_bl, WE, TruV, List.map, List.length_cons, List.length_nil, List.replicate, List.append, List.getElem?_cons_zero, List.getElem?_cons_succ, List.set_cons_zero, List.set_cons_succ, List.cons_append, List.nil_append, Option.some.injEq, V.int.injEq, V.str.injEq, V.bl.injEq, V.ref.injEq, List.cons.injEq, exists_eq_left, exists_eq_right, and_true, true_and, and_self, exists_eq, exists_const, Bool.not_true, Bool.not_false, Bool.false_eq_true, if_true, if_false, reduceIte, decide_eq_true_eq, bne_iff_ne, exists_eq_left', exists_eq', exists_and_left, Bool.not_eq_true', decide_eq_false_iff_not, Nat.reduceSub, Nat.reduceAdd, reduceCtorEq, false_and, or_false, false_or, exists_false]
          generalize upd HX p9 (.lst []) = HY at zY ⊢
          refine roll_ok zY.c (by decide) (by decide) fun n9 I1 n90 n91 i1 k1 => ?_
          have y1 := zY.roll i1 k1
          refine ⟨y1.tb.tl, fun I2 x2 t2 => told2_intro ?_⟩
          have i2 : Ex [] (TLaw PL) GT I1 I2 := ExtN.ex x2 t2
          have y2 := y1.ex i2
          obtain ⟨dxI, bI, wI, hdI⟩ := y2.dv.ins
          refine ⟨_, _, hdI, rfl, d2, _, _, 16, rfl, y2.dv, fun hok => ?_, fun _ => ⟨true, xe.dd, fun _ => ?_, fun z => by cases z⟩⟩
          · unfold okNum at hok
            rw [W3.to] at hok
            simp at hok
          simp only [cx_K, gcx_K, lcx_K, LenV, rLenU, tTruU, kTup, tFld, sFld, sFldAug, tMet, tMake, tBM, tDGet, tDGet1, tDGet2, sDPut, tRevL, iEnum, tAug, tAsg, mulV_int, iaddU_int, isubU_int, iaddU_str, tTupL, ex2eq, not_true_eq_false, not_false_eq_true, LamX.tLam, LamX.TTold, tSeq, tIf, tNext, tRet, tRetN, tIfS, tTest, tB, tNot, tAnd, tOr, tChain, tOp, tUn, tC, tVar, tCons, tNil, tTup, tLst, tAsg, gName, gTup, gCons, gNil, gSub, tDrop, tCallS, tCB, tM1, tM0, tBM, tBM0, tSl, tPar, tFor_eq, tLc_eq, intU_int, intU_bl, iList, iTup, iEnumT, tDNewK, rSlT, rSlL, iRng1, iRng2, iStr, tThen, tNever, L2.start, tRaiseFile, tMkFile, tYes, tPart, tNoPart, addA_int, addA_str, addU_int, addU_str, addU_ref, subU_int, mulU_int, mulU_ref, fdvU_int, modU_int, powU_int, ltU_int, leU_int, gtU_int, geU_int, eqU_int, eqU_str, eqU_bl, neU_int, neU_str, neU_bl, WE, TruV, List.map, List.length_cons, List.length_nil, List.replicate, List.append, List.getElem?_cons_zero, List.getElem?_cons_succ, List.set_cons_zero, List.set_cons_succ, List.cons_append, List.nil_append, Option.some.injEq, V.int.injEq, V.str.injEq, V.bl.injEq, V.ref.injEq, List.cons.injEq, exists_eq_left, exists_eq_right, and_true, true_and, and_self, exists_eq, exists_const, Bool.not_true, Bool.not_false, Bool.false_eq_true, if_true, if_false, reduceIte, decide_eq_true_eq, bne_iff_ne, exists_eq_left', exists_eq', exists_and_left, Bool.not_eq_true', decide_eq_false_iff_not, Nat.reduceSub, Nat.reduceAdd, reduceCtorEq, false_and, or_false, false_or, exists_false]
          refine ⟨y2.tb.tl, fun I3 x3 t3 => told2_intro ?_⟩
          have i3 : Ex [] (TLaw PL) GT I2 I3 := ExtN.ex x3 t3
          have y3 := y2.ex i3
          refine dev_newA (.inl ⟨rfl, rfl⟩) fun d3 F3 I4 i4 D3 hF3 => ?_
          obtain ⟨dxJ, bJ, wJ, hdJ⟩ := D3.ins
          refine ⟨_, _, hdJ, rfl, sz 1, fun p9 hp9 => ⟨by decide, ?_⟩⟩
          have i5 : Ex [] (TLaw PL) GT I4 (upd I4 p9 (.tup [.int 1])) := Ex.new hp9
          refine mulV_any (TL := TLaw PL) (GT := GT) (SqT.of upd_same) (by simp) (by omega) (by omega) (by decide) fun zz I6 i6 hz6 => ?_
          have eI6 := i5.trans i6
          have ez : (List.replicate (n9 % 64).toNat [V.int 1]).flatten = (List.replicate (n9 % 64).toNat (1 : Int)).map V.int := by
            rw [List.flatten_replicate_singleton, List.map_replicate]
          rw [ez] at hz6
          have hno : dwrite (newDv 2 []) 0 (List.replicate (n9 % 64).toNat (1 : Int)) = (newDv 2 [], false) := by
            unfold dwrite
            rw [if_neg (by decide), if_pos (by rw [List.length_replicate]; omega)]
          refine ⟨d3, _, F3, 0, .ref zz, _, rfl, D3.keep eI6 (fun _ _ => by simp), ⟨zz, rfl, hz6⟩, by show 0 < 10000; decide, fun hy => (by rw [hno] at hy; cases hy), fun _ I7 a7 => ⟨true, xe.dd, fun _ => ?_, fun z => by cases z⟩⟩
          try simp only [cx_K, gcx_K, lcx_K, LenV, rLenU, tTruU, kTup, tFld, sFld, sFldAug, tMet, tMake, tBM, tDGet, tDGet1, tDGet2, sDPut, tRevL, iEnum, tAug, tAsg, mulV_int, iaddU_int, isubU_int, iaddU_str, tTupL, ex2eq, not_true_eq_false, not_false_eq_true, LamX.tLam, LamX.TTold, tSeq, tIf, tNext, tRet, tRetN, tIfS, tTest, tB, tNot, tAnd, tOr, tChain, tOp, tUn, tC, tVar, tCons, tNil, tTup, tLst, tAsg, gName, gTup, gCons, gNil, gSub, tDrop, tCallS, tCB, tM1, tM0, tBM, tBM0, tSl, tPar, tFor_eq, tLc_eq, intU_int, intU_bl, iList, iTup, iEnumT, tDNewK, rSlT, rSlL, iRng1, iRng2, iStr, tThen, tNever, L2.start, tRaiseFile, tMkFile, tYes, tPart, tNoPart, addA_int, addA_str, addU_int, addU_str, addU_ref, subU_int, mulU_int, mulU_ref, fdvU_int, modU_int, powU_int, ltU_int, leU_int, gtU_int, geU_int, eqU_int, eqU_str, eqU_bl, neU_int, neU_str, neU_bl, WE, TruV, List.map, List.length_cons, List.length_nil, List.replicate, List.append, List.getElem?_cons_zero, List.getElem?_cons_succ, List.set_cons_zero, List.set_cons_succ, List.cons_append, List.nil_append, Option.some.injEq, V.int.injEq, V.str.injEq, V.bl.injEq, V.ref.injEq, List.cons.injEq, exists_eq_left, exists_eq_right, and_true, true_and, and_self, exists_eq, exists_const, Bool.not_true, Bool.not_false, Bool.false_eq_true, if_true, if_false, reduceIte, decide_eq_true_eq, bne_iff_ne, exists_eq_left', exists_eq', exists_and_left, Bool.not_eq_true', decide_eq_false_iff_not, Nat.reduceSub, Nat.reduceAdd, reduceCtorEq, false_and, or_false, false_or, exists_false]
          have nq7 : q ∉ F3 := off_new (F := []) y3.hq (fun _ h => by cases h) (by simp) (fun x hx => .inr (hF3 x hx))
          have e47 := i4.trans eI6
          exact ⟨fun z => z.elim, a7.e.lst nq7 (e47.lst (by simp) y3.hq), a7.e.tb (e47.tb y3.tb)⟩
      have P9 : Pd { newDv 16 [] with fuse := fu } [] := Pd.new.arm fu
      refine loop_range (Lp K CD CJ (TLaw PL) GT q r d j) ⟨p1, p2, _, F8, 0, [], [], ⟨_, _, _, _, _, _, _, _, _, _, _, _, _, _, _, rfl⟩, z9, j9, k9, l9, P9, Nat.zero_le _⟩ ?turn ?done
      case done =>
        rintro σ H ⟨p1, p2, v, F, s, kl, ll, ⟨v0, v4, v5, v6, v7, v8, v9, v10, v11, v12, v13, v14, v16, v18, v19, rfl⟩, z, j, k, l, P, _⟩
        exact hk _ _ ⟨p1, p2, v, F, kl, ll, ⟨_, _, _, _, _, _, _, _, _, _, _, _, _, _, _, _, rfl⟩, z, k, l, P.pc ll⟩
      rintro i σ HA hi ⟨p1, p2, v, F, s, kl, ll, ⟨v0, v4, v5, v6, v7, v8, v9, v10, v11, v12, v13, v14, v16, v18, v19, rfl⟩, zA, jA, kA, lA, PA, fA⟩
      clear z3 j3 e31 e32 e33 z4 j4 k4 l4 z5 j5 k5 l5 z6 j6 k6 l6 z7 j7 k7 l7 z8 j8 k8 l8 z9 j9 k9 l9 e5 e6 e7 e9 a8 c5 c7 c9 P9 hfu
      simp only [cx_K, gcx_K, lcx_K, LenV, rLenU, tTruU, kTup, tFld, sFld, sFldAug, tMet, tMake, tBM, tDGet, tDGet1, tDGet2, sDPut, tRevL, iEnum, tAug, tAsg, mulV_int, iaddU_int, isubU_int, iaddU_str, tTupL, ex2eq, not_true_eq_false, not_false_eq_true, LamX.tLam, LamX.TTold, tSeq, tIf, tNext, tRet, tRetN, tIfS, tTest, tB, tNot, tAnd, tOr, tChain, tOp, tUn, tC, tVar, tCons, tNil, tTup, tLst, tAsg, gName, gTup, gCons, gNil, gSub, tDrop, tCallS, tCB, tM1, tM0, tBM, tBM0, tSl, tPar, tFor_eq, tLc_eq, intU_int, intU_bl, iList, iTup, iEnumT, tDNewK, rSlT, rSlL, iRng1, iRng2, iStr, tThen, tNever, L2.start, tRaiseFile, tMkFile, tYes, tPart, tNoPart, addA_int, addA_str, addU_int, addU_str, addU_ref, subU_int, mulU_int, mulU_ref, fdvU_int, modU_int, powU_int, ltU_int, leU_int, gtU_int, geU_int, eqU_int, eqU_str, eqU_bl, neU_int, neU_str, neU_bl, WE, TruV, List.map, List.length_cons, List.length_nil, List.replicate, List.append, List.getElem?_cons_zero, List.getElem?_cons_succ, List.set_cons_zero, List.set_cons_succ, List.cons_append, List.nil_append, Option.some.injEq, V.int.injEq, V.str.injEq, V.bl.injEq, V.ref.injEq, List.cons.injEq, exists_eq_left, exists_eq_right, and_true, true_and, and_self, exists_eq, exists_const, Bool.not_true, Bool.not_false, Bool.false_eq_true, if_true, if_false, reduceIte, decide_eq_true_eq, bne_iff_ne, exists_eq_left', exists_eq', exists_and_left, Bool.not_eq_true', decide_eq_false_iff_not, Nat.reduceSub, Nat.reduceAdd, reduceCtorEq, false_and, or_false, false_or, exists_false]
      refine ⟨r, rfl, zA.c, fun u us rows HB eB cB fB nB hB pB G => ?_⟩
      have zB := zA.roll eB cB
      have jB := jA.roll zA eB
      have kB := kA.roll zA eB
      have lB := lA.roll zA eB
      have gB : Gp K HB u r rows F := ⟨⟨us, hB, pB⟩, zA.dv.nfree fB, nB⟩
      obtain ⟨kvs, hkB, pkB⟩ := id kB.at_
      refine ⟨kvs, .inl hkB, fun p6 hp6 => ?_⟩
      have eC : Ex [] (TLaw PL) GT HB (upd HB p6 (.dK kvs)) := Ex.new hp6
      have zC := zB.ex eC
      have jC := jB.ex eC
      have kC := kB.ex eC
      have gC := gB.ex eC
      have lC : Dk K (upd HB p6 (.dK kvs)) p6 kl F := ⟨⟨kvs, upd_same, pimp (fun _ _ => KvAt.ex eC) pkB⟩, zB.dv.notin hp6⟩
      have n16 : p1 ≠ p6 := ne_of_none hkB hp6
      obtain ⟨us', hu', pu'⟩ := id gC.at_
      have fG := G.few
      refine ⟨u, rfl, ⟨_, lst_at hu'⟩, ?_⟩
      refine loop_list (xs := us') (fun k σ H' => SgU r p1 p6 d j u σ ∧ Z K CD (TLaw PL) GT H' q r d v F ∧ Jt CJ H' j d s F ∧ Dk K H' p1 kl F ∧ (H' u = some (.lst us') ∧ Paired (PairAt K H') us' rows) ∧ Dk K H' p6 (putAll kl (rows.take k)) F)
        ⟨⟨_, _, _, _, _, _, _, _, _, _, _, _, _, _, rfl⟩, zC, jC, kC, ⟨hu', pu'⟩, lC⟩ (fun k σ H' _ e => lst_at e.2.2.2.2.1.1) ?row ?rows
      case row =>
        rintro k x σ H' hx ⟨⟨w0, w4, w5, w6, w7, w8, w9, w10, w11, w12, w13, w14, w18, w19, rfl⟩, z, J, kk, ⟨hu, pu⟩, ll6⟩
        obtain ⟨bk, hbk, q0, u0, rfl, hq2, hu0⟩ := paired_at pu hx
        obtain ⟨ks, hks, pks⟩ := id ll6.at_
        simp only [cx_K, gcx_K, lcx_K, LenV, rLenU, tTruU, kTup, tFld, sFld, sFldAug, tMet, tMake, tBM, tDGet, tDGet1, tDGet2, sDPut, tRevL, iEnum, tAug, tAsg, mulV_int, iaddU_int, isubU_int, iaddU_str, tTupL, ex2eq, not_true_eq_false, not_false_eq_true, LamX.tLam, LamX.TTold, tSeq, tIf, tNext, tRet, tRetN, tIfS, tTest, tB, tNot, tAnd, tOr, tChain, tOp, tUn, tC, tVar, tCons, tNil, tTup, tLst, tAsg, gName, gTup, gCons, gNil, gSub, tDrop, tCallS, tCB, tM1, tM0, tBM, tBM0, tSl, tPar, tFor_eq, tLc_eq, intU_int, intU_bl, iList, iTup, iEnumT, tDNewK, rSlT, rSlL, iRng1, iRng2, iStr, tThen, tNever, L2.start, tRaiseFile, tMkFile, tYes, tPart, tNoPart, addA_int, addA_str, addU_int, addU_str, addU_ref, subU_int, mulU_int, mulU_ref, fdvU_int, modU_int, powU_int, ltU_int, leU_int, gtU_int, geU_int, eqU_int, eqU_str, eqU_bl, neU_int, neU_str, neU_bl, WE, TruV, List.map, List.length_cons, List.length_nil, List.replicate, List.append, List.getElem?_cons_zero, List.getElem?_cons_succ, List.set_cons_zero, List.set_cons_succ, List.cons_append, List.nil_append, Option.some.injEq, V.int.injEq, V.str.injEq, V.bl.injEq, V.ref.injEq, List.cons.injEq, exists_eq_left, exists_eq_right, and_true, true_and, and_self, exists_eq, exists_const, Bool.not_true, Bool.not_false, Bool.false_eq_true, if_true, if_false, reduceIte, decide_eq_true_eq, bne_iff_ne, exists_eq_left', exists_eq', exists_and_left, Bool.not_eq_true', decide_eq_false_iff_not, Nat.reduceSub, Nat.reduceAdd, reduceCtorEq, false_and, or_false, false_or, exists_false]
        have hk : k < rows.length := by
          rcases Nat.lt_or_ge k rows.length with z | z
          · exact z
          · rw [List.getElem?_eq_none z] at hbk; cases hbk
        have hkl : ks.length < 1000 := by
          have a := putAll_len kl (rows.take k)
          rw [paired_len pks]
          rw [List.length_take] at a
          omega
        have eP : Ex [p6] (TLaw PL) GT H' (upd H' p6 (.dK (putK ks (.inl bk.1) u0))) := Ex.put (by simp) hks rfl
        refine ⟨_, hq2, rfl, _, _, rfl, _, _, rfl, rfl, _, DPut.k (k := .inl bk.1) hks (by rw [sizeLine_eq]; omega), ⟨_, _, _, _, _, _, _, _, _, _, _, _, _, _, rfl⟩, z.put hks ll6.np, J.put hks, kk.put hks n16, ⟨?_, pimp (fun _ _ => PairAt.ex eP) pu⟩, ⟨⟨_, upd_same, ?_⟩, ll6.np⟩⟩
        · rw [upd_ne (Ne.symm (ne_kind hks hu rfl (fun z => by cases z)))]; exact hu
        · rw [take_more hbk]
          unfold putAll
          rw [List.foldl_append]
          exact put_ok (hu0.ex eP) (pimp (fun _ _ => KvAt.ex eP) pks)
      rintro σ HD ⟨⟨w0, w4, w5, w6, w7, w8, w9, w10, w11, w12, w13, w14, w18, w19, rfl⟩, zD, jD, kD, ⟨huD, puD⟩, lD⟩
      rw [paired_len puD, List.take_length] at lD
      have gD : Gp K HD u r rows F := ⟨⟨us', huD, puD⟩, gC.nu, gC.nr⟩
      clear zB jB kB lB gB zC jC kC gC lC zA jA kA lA eC eB cB pkB hkB hB pB hu' pu'
      obtain ⟨dxD, bD, wD, hdD⟩ := zD.dv.ins
      simp only [cx_K, gcx_K, lcx_K, LenV, rLenU, tTruU, kTup, tFld, sFld, sFldAug, tMet, tMake, tBM, tDGet, tDGet1, tDGet2, sDPut, tRevL, iEnum, tAug, tAsg, mulV_int, iaddU_int, isubU_int, iaddU_str, tTupL, ex2eq, not_true_eq_false, not_false_eq_true, LamX.tLam, LamX.TTold, tSeq, tIf, tNext, tRet, tRetN, tIfS, tTest, tB, tNot, tAnd, tOr, tChain, tOp, tUn, tC, tVar, tCons, tNil, tTup, tLst, tAsg, gName, gTup, gCons, gNil, gSub, tDrop, tCallS, tCB, tM1, tM0, tBM, tBM0, tSl, tPar, tFor_eq, tLc_eq, intU_int, intU_bl, iList, iTup, iEnumT, tDNewK, rSlT, rSlL, iRng1, iRng2, iStr, tThen, tNever, L2.start, tRaiseFile, tMkFile, tYes, tPart, tNoPart, addA_int, addA_str, addU_int, addU_str, addU_ref, subU_int, mulU_int, mulU_ref, fdvU_int, modU_int, powU_int, ltU_int, leU_int, gtU_int, geU_int, eqU_int, eqU_str, eqU_bl, neU_int, neU_str, neU_bl, WE, TruV, List.map, List.length_cons, List.length_nil, List.replicate, List.append, List.getElem?_cons_zero, List.getElem?_cons_succ, List.set_cons_zero, List.set_cons_succ, List.cons_append, List.nil_append, Option.some.injEq, V.int.injEq, V.str.injEq, V.bl.injEq, V.ref.injEq, List.cons.injEq, exists_eq_left, exists_eq_right, and_true, true_and, and_self, exists_eq, exists_const, Bool.not_true, Bool.not_false, Bool.false_eq_true, if_true, if_false, reduceIte, decide_eq_true_eq, bne_iff_ne, exists_eq_left', exists_eq', exists_and_left, Bool.not_eq_true', decide_eq_false_iff_not, Nat.reduceSub, Nat.reduceAdd, reduceCtorEq, false_and, or_false, false_or, exists_false]
      refine ⟨_, _, _, hdD, T.cD, T.fD _ (by simp), _, rfl, zD.tb.tl, fun HE xE tE => ?_⟩
      have eE : Ex [] (TLaw PL) GT HD HE := ExtN.ex xE tE
      have zE := zD.ex eE
      have jE := jD.ex eE
      have kE := kD.ex eE
      have gE := gD.ex eE
      have lE := lD.ex eE
      have huE := eE.lst (by simp) huD
      have puE := pimp (fun _ _ => PairAt.ex eE) puD
      obtain ⟨jxE, hjE⟩ := id jE.at_
      have szA := PA.sz
      have lus := paired_len puE
      have bnd : (putAll kl rows).length ≤ 6 * (i + 1) := by
        have := putAll_len kl rows
        omega
      refine told2_intro ?_
      refine ⟨_, _, hjE, rfl, j, d, s, v, F, u, us', rows, rfl, jE.at_, zE.dv, huE, puE, G.len, jE.nj, ?_, by omega, fun h5 HF eF => ⟨false, xe.jd, (fun z => by cases z), fun _ => ⟨true, xe.jj, fun _ => ?_, fun z => by cases z⟩⟩, fun h0 HF eF => ?_, fun h5 h0 hok HF aF => ?_, fun h5 h0 hok HF aF => ⟨true, xe.dd, fun _ => ?_, fun z => by cases z⟩⟩
      · simp only [List.mem_cons, not_or]
        exact ⟨ne_kind huE hjE rfl (fun z => by cases z), gE.nu⟩
      · simp only [cx_K, gcx_K, lcx_K, LenV, rLenU, tTruU, kTup, tFld, sFld, sFldAug, tMet, tMake, tBM, tDGet, tDGet1, tDGet2, sDPut, tRevL, iEnum, tAug, tAsg, mulV_int, iaddU_int, isubU_int, iaddU_str, tTupL, ex2eq, not_true_eq_false, not_false_eq_true, LamX.tLam, LamX.TTold, tSeq, tIf, tNext, tRet, tRetN, tIfS, tTest, tB, tNot, tAnd, tOr, tChain, tOp, tUn, tC, tVar, tCons, tNil, tTup, tLst, tAsg, gName, gTup, gCons, gNil, gSub, tDrop, tCallS, tCB, tM1, tM0, tBM, tBM0, tSl, tPar, tFor_eq, tLc_eq, intU_int, intU_bl, iList, iTup, iEnumT, tDNewK, rSlT, rSlL, iRng1, iRng2, iStr, tThen, tNever, L2.start, tRaiseFile, tMkFile, tYes, tPart, tNoPart, addA_int, addA_str, addU_int, addU_str, addU_ref, subU_int, mulU_int, mulU_ref, fdvU_int, modU_int, powU_int, ltU_int, leU_int, gtU_int, geU_int, eqU_int, eqU_str, eqU_bl, neU_int, neU_str, neU_bl, WE, TruV, List.map, List.length_cons, List.length_nil, List.replicate, List.append, List.getElem?_cons_zero, List.getElem?_cons_succ, List.set_cons_zero, List.set_cons_succ, List.cons_append, List.nil_append, Option.some.injEq, V.int.injEq, V.str.injEq, V.bl.injEq, V.ref.injEq, List.cons.injEq, exists_eq_left, exists_eq_right, and_true, true_and, and_self, exists_eq, exists_const, Bool.not_true, Bool.not_false, Bool.false_eq_true, if_true, if_false, reduceIte, decide_eq_true_eq, bne_iff_ne, exists_eq_left', exists_eq', exists_and_left, Bool.not_eq_true', decide_eq_false_iff_not, Nat.reduceSub, Nat.reduceAdd, reduceCtorEq, false_and, or_false, false_or, exists_false, jd_ne, dj_ne]
        have zF := zE.ex eF
        have jF := jE.ex eF
        have kF := kE.ex eF
        obtain ⟨dxF, bF, wF, hdF⟩ := zF.dv.ins
        refine ⟨us'.length, .inl ⟨_, lst_at (eF.lst (by simp) huE), rfl⟩, ?_⟩
        rw [decide_eq_true (show (5 : Int) < (us'.length : Nat) by omega)]
        simp only [cx_K, gcx_K, lcx_K, LenV, rLenU, tTruU, kTup, tFld, sFld, sFldAug, tMet, tMake, tBM, tDGet, tDGet1, tDGet2, sDPut, tRevL, iEnum, tAug, tAsg, mulV_int, iaddU_int, isubU_int, iaddU_str, tTupL, ex2eq, not_true_eq_false, not_false_eq_true, LamX.tLam, LamX.TTold, tSeq, tIf, tNext, tRet, tRetN, tIfS, tTest, tB, tNot, tAnd, tOr, tChain, tOp, tUn, tC, tVar, tCons, tNil, tTup, tLst, tAsg, gName, gTup, gCons, gNil, gSub, tDrop, tCallS, tCB, tM1, tM0, tBM, tBM0, tSl, tPar, tFor_eq, tLc_eq, intU_int, intU_bl, iList, iTup, iEnumT, tDNewK, rSlT, rSlL, iRng1, iRng2, iStr, tThen, tNever, L2.start, tRaiseFile, tMkFile, tYes, tPart, tNoPart, addA_int, addA_str, addU_int, addU_str, addU_ref, subU_int, mulU_int, mulU_ref, fdvU_int, modU_int, powU_int, ltU_int, leU_int, gtU_int, geU_int, eqU_int, eqU_str, eqU_bl, neU_int, neU_str, neU_bl, WE, TruV, List.map, List.length_cons, List.length_nil, List.replicate, List.append, List.getElem?_cons_zero, List.getElem?_cons_succ, List.set_cons_zero, List.set_cons_succ, List.cons_append, List.nil_append, Option.some.injEq, V.int.injEq, V.str.injEq, V.bl.injEq, V.ref.injEq, List.cons.injEq, exists_eq_left, exists_eq_right, and_true, true_and, and_self, exists_eq, exists_const, Bool.not_true, Bool.not_false, Bool.false_eq_true, if_true, if_false, reduceIte, decide_eq_true_eq, bne_iff_ne, exists_eq_left', exists_eq', exists_and_left, Bool.not_eq_true', decide_eq_false_iff_not, Nat.reduceSub, Nat.reduceAdd, reduceCtorEq, false_and, or_false, false_or, exists_false, jd_ne, dj_ne]
        refine ⟨_, _, _, hdF, T.cD, T.fD _ (by simp), _, rfl, ?_⟩
        simp only [cx_K, gcx_K, lcx_K, LenV, rLenU, tTruU, kTup, tFld, sFld, sFldAug, tMet, tMake, tBM, tDGet, tDGet1, tDGet2, sDPut, tRevL, iEnum, tAug, tAsg, mulV_int, iaddU_int, isubU_int, iaddU_str, tTupL, ex2eq, not_true_eq_false, not_false_eq_true, LamX.tLam, LamX.TTold, tSeq, tIf, tNext, tRet, tRetN, tIfS, tTest, tB, tNot, tAnd, tOr, tChain, tOp, tUn, tC, tVar, tCons, tNil, tTup, tLst, tAsg, gName, gTup, gCons, gNil, gSub, tDrop, tCallS, tCB, tM1, tM0, tBM, tBM0, tSl, tPar, tFor_eq, tLc_eq, intU_int, intU_bl, iList, iTup, iEnumT, tDNewK, rSlT, rSlL, iRng1, iRng2, iStr, tThen, tNever, L2.start, tRaiseFile, tMkFile, tYes, tPart, tNoPart, addA_int, addA_str, addU_int, addU_str, addU_ref, subU_int, mulU_int, mulU_ref, fdvU_int, modU_int, powU_int, ltU_int, leU_int, gtU_int, geU_int, eqU_int, eqU_str, eqU_bl, neU_int, neU_str, neU_bl, WE, TruV, List.map, List.length_cons, List.length_nil, List.replicate, List.append, List.getElem?_cons_zero, List.getElem?_cons_succ, List.set_cons_zero, List.set_cons_succ, List.cons_append, List.nil_append, Option.some.injEq, V.int.injEq, V.str.injEq, V.bl.injEq, V.ref.injEq, List.cons.injEq, exists_eq_left, exists_eq_right, and_true, true_and, and_self, exists_eq, exists_const, Bool.not_true, Bool.not_false, Bool.false_eq_true, if_true, if_false, reduceIte, decide_eq_true_eq, bne_iff_ne, exists_eq_left', exists_eq', exists_and_left, Bool.not_eq_true', decide_eq_false_iff_not, Nat.reduceSub, Nat.reduceAdd, reduceCtorEq, false_and, or_false, false_or, exists_false, jd_ne, dj_ne]
        obtain ⟨kvT, hkT, pkT⟩ := id kF.at_
        refine ⟨d, _, _, p1, kvT, _, rfl, zF.dv, PA.de, PA.to, hkT, pkT, fun HT eT => ?_⟩
        rw [PA.same]
        simp only [cx_K, gcx_K, lcx_K, LenV, rLenU, tTruU, kTup, tFld, sFld, sFldAug, tMet, tMake, tBM, tDGet, tDGet1, tDGet2, sDPut, tRevL, iEnum, tAug, tAsg, mulV_int, iaddU_int, isubU_int, iaddU_str, tTupL, ex2eq, not_true_eq_false, not_false_eq_true, LamX.tLam, LamX.TTold, tSeq, tIf, tNext, tRet, tRetN, tIfS, tTest, tB, tNot, tAnd, tOr, tChain, tOp, tUn, tC, tVar, tCons, tNil, tTup, tLst, tAsg, gName, gTup, gCons, gNil, gSub, tDrop, tCallS, tCB, tM1, tM0, tBM, tBM0, tSl, tPar, tFor_eq, tLc_eq, intU_int, intU_bl, iList, iTup, iEnumT, tDNewK, rSlT, rSlL, iRng1, iRng2, iStr, tThen, tNever, L2.start, tRaiseFile, tMkFile, tYes, tPart, tNoPart, addA_int, addA_str, addU_int, addU_str, addU_ref, subU_int, mulU_int, mulU_ref, fdvU_int, modU_int, powU_int, ltU_int, leU_int, gtU_int, geU_int, eqU_int, eqU_str, eqU_bl, neU_int, neU_str, neU_bl, WE, TruV, List.map, List.length_cons, List.length_nil, List.replicate, List.append, List.getElem?_cons_zero, List.getElem?_cons_succ, List.set_cons_zero, List.set_cons_succ, List.cons_append, List.nil_append, Option.some.injEq, V.int.injEq, V.str.injEq, V.bl.injEq, V.ref.injEq, List.cons.injEq, exists_eq_left, exists_eq_right, and_true, true_and, and_self, exists_eq, exists_const, Bool.not_true, Bool.not_false, Bool.false_eq_true, if_true, if_false, reduceIte, decide_eq_true_eq, bne_iff_ne, exists_eq_left', exists_eq', exists_and_left, Bool.not_eq_true', decide_eq_false_iff_not, Nat.reduceSub, Nat.reduceAdd, reduceCtorEq, false_and, or_false, false_or, exists_false]
        have zT := zF.ex eT
        have jT := jF.ex eT
        obtain ⟨jxT, hjT⟩ := id jT.at_
        refine ⟨_, _, hjT, rfl, j, d, _, _, _, rfl, jT.at_, zT.dv, fine_wf PA.fi PA.to, PA.de, zT.tb, fun uT usT HU eU fU hU pU => ⟨sz 0, fun pz hpz => ?_⟩⟩
        have eV : Ex [] (TLaw PL) GT HU (upd HU pz (.lst [])) := Ex.new hpz
        rw [PA.pend] at pU
        refine ne_rows (l := []) (m := []) (lst_at (eV.lst (by simp) hU)) (lst_at upd_same) (pimp (fun _ _ => PairAt.ex eV) pU) .nil ?_
        simp only [cx_K, gcx_K, lcx_K, LenV, rLenU, tTruU, kTup, tFld, sFld, sFldAug, tMet, tMake, tBM, tDGet, tDGet1, tDGet2, sDPut, tRevL, iEnum, tAug, tAsg, mulV_int, iaddU_int, isubU_int, iaddU_str, tTupL, ex2eq, not_true_eq_false, not_false_eq_true, LamX.tLam, LamX.TTold, tSeq, tIf, tNext, tRet, tRetN, tIfS, tTest, tB, tNot, tAnd, tOr, tChain, tOp, tUn, tC, tVar, tCons, tNil, tTup, tLst, tAsg, gName, gTup, gCons, gNil, gSub, tDrop, tCallS, tCB, tM1, tM0, tBM, tBM0, tSl, tPar, tFor_eq, tLc_eq, intU_int, intU_bl, iList, iTup, iEnumT, tDNewK, rSlT, rSlL, iRng1, iRng2, iStr, tThen, tNever, L2.start, tRaiseFile, tMkFile, tYes, tPart, tNoPart, addA_int, addA_str, addU_int, addU_str, addU_ref, subU_int, mulU_int, mulU_ref, fdvU_int, modU_int, powU_int, ltU_int, leU_int, gtU_int, geU_int, eqU_int, eqU_str, eqU_bl, neU_int, neU_str, neU_bl, WE, TruV, List.map, List.length_cons, List.length_nil, List.replicate, List.append, List.getElem?_cons_zero, List.getElem?_cons_succ, List.set_cons_zero, List.set_cons_succ, List.cons_append, List.nil_append, Option.some.injEq, V.int.injEq, V.str.injEq, V.bl.injEq, V.ref.injEq, List.cons.injEq, exists_eq_left, exists_eq_right, and_true, true_and, and_self, exists_eq, exists_const, Bool.not_true, Bool.not_false, Bool.false_eq_true, if_true, if_false, reduceIte, decide_eq_true_eq, bne_iff_ne, exists_eq_left', exists_eq', exists_and_left, Bool.not_eq_true', decide_eq_false_iff_not, Nat.reduceSub, Nat.reduceAdd, reduceCtorEq, false_and, or_false, false_or, exists_false]
        have eW := (eT.trans eU).trans eV
        exact ⟨p1, p1, _, _, _, _, _, ⟨_, _, _, _, _, _, _, _, _, _, _, _, _, _, _, rfl⟩, zF.ex eW, jF.ex eW, kF.ex eW, kF.ex eW, PA, by omega⟩
      · have zF := zE.ex eF
        have jF := jE.ex eF
        have lF := lE.ex eF
        have PF : Pd v (putAll kl rows) := by rw [h0]; exact PA
        have h5 : rows.length ≤ 5 := by rw [h0]; decide
        refine eqU_non ?_
        simp only [cx_K, gcx_K, lcx_K, LenV, rLenU, tTruU, kTup, tFld, sFld, sFldAug, tMet, tMake, tBM, tDGet, tDGet1, tDGet2, sDPut, tRevL, iEnum, tAug, tAsg, mulV_int, iaddU_int, isubU_int, iaddU_str, tTupL, ex2eq, not_true_eq_false, not_false_eq_true, LamX.tLam, LamX.TTold, tSeq, tIf, tNext, tRet, tRetN, tIfS, tTest, tB, tNot, tAnd, tOr, tChain, tOp, tUn, tC, tVar, tCons, tNil, tTup, tLst, tAsg, gName, gTup, gCons, gNil, gSub, tDrop, tCallS, tCB, tM1, tM0, tBM, tBM0, tSl, tPar, tFor_eq, tLc_eq, intU_int, intU_bl, iList, iTup, iEnumT, tDNewK, rSlT, rSlL, iRng1, iRng2, iStr, tThen, tNever, L2.start, tRaiseFile, tMkFile, tYes, tPart, tNoPart, addA_int, addA_str, addU_int, addU_str, addU_ref, subU_int, mulU_int, mulU_ref, fdvU_int, modU_int, powU_int, ltU_int, leU_int, gtU_int, geU_int, eqU_int, eqU_str, eqU_bl, neU_int, neU_str, neU_bl, WE, TruV, List.map, List.length_cons, List.length_nil, List.replicate, List.append, List.getElem?_cons_zero, List.getElem?_cons_succ, List.set_cons_zero, List.set_cons_succ, List.cons_append, List.nil_append, Option.some.injEq, V.int.injEq, V.str.injEq, V.bl.injEq, V.ref.injEq, List.cons.injEq, exists_eq_left, exists_eq_right, and_true, true_and, and_self, exists_eq, exists_const, Bool.not_true, Bool.not_false, Bool.false_eq_true, if_true, if_false, reduceIte, decide_eq_true_eq, bne_iff_ne, exists_eq_left', exists_eq', exists_and_left, Bool.not_eq_true', decide_eq_false_iff_not, Nat.reduceSub, Nat.reduceAdd, reduceCtorEq, false_and, or_false, false_or, exists_false]
        refine ⟨us'.length, .inl ⟨_, lst_at (eF.lst (by simp) huE), rfl⟩, ?_⟩
        rw [decide_eq_false (show ¬ (5 : Int) < (us'.length : Nat) by omega)]
        simp only [cx_K, gcx_K, lcx_K, LenV, rLenU, tTruU, kTup, tFld, sFld, sFldAug, tMet, tMake, tBM, tDGet, tDGet1, tDGet2, sDPut, tRevL, iEnum, tAug, tAsg, mulV_int, iaddU_int, isubU_int, iaddU_str, tTupL, ex2eq, not_true_eq_false, not_false_eq_true, LamX.tLam, LamX.TTold, tSeq, tIf, tNext, tRet, tRetN, tIfS, tTest, tB, tNot, tAnd, tOr, tChain, tOp, tUn, tC, tVar, tCons, tNil, tTup, tLst, tAsg, gName, gTup, gCons, gNil, gSub, tDrop, tCallS, tCB, tM1, tM0, tBM, tBM0, tSl, tPar, tFor_eq, tLc_eq, intU_int, intU_bl, iList, iTup, iEnumT, tDNewK, rSlT, rSlL, iRng1, iRng2, iStr, tThen, tNever, L2.start, tRaiseFile, tMkFile, tYes, tPart, tNoPart, addA_int, addA_str, addU_int, addU_str, addU_ref, subU_int, mulU_int, mulU_ref, fdvU_int, modU_int, powU_int, ltU_int, leU_int, gtU_int, geU_int, eqU_int, eqU_str, eqU_bl, neU_int, neU_str, neU_bl, WE, TruV, List.map, List.length_cons, List.length_nil, List.replicate, List.append, List.getElem?_cons_zero, List.getElem?_cons_succ, List.set_cons_zero, List.set_cons_succ, List.cons_append, List.nil_append, Option.some.injEq, V.int.injEq, V.str.injEq, V.bl.injEq, V.ref.injEq, List.cons.injEq, exists_eq_left, exists_eq_right, and_true, true_and, and_self, exists_eq, exists_const, Bool.not_true, Bool.not_false, Bool.false_eq_true, if_true, if_false, reduceIte, decide_eq_true_eq, bne_iff_ne, exists_eq_left', exists_eq', exists_and_left, Bool.not_eq_true', decide_eq_false_iff_not, Nat.reduceSub, Nat.reduceAdd, reduceCtorEq, false_and, or_false, false_or, exists_false]
        refine eqU_non ?_
        simp only [cx_K, gcx_K, lcx_K, LenV, rLenU, tTruU, kTup, tFld, sFld, sFldAug, tMet, tMake, tBM, tDGet, tDGet1, tDGet2, sDPut, tRevL, iEnum, tAug, tAsg, mulV_int, iaddU_int, isubU_int, iaddU_str, tTupL, ex2eq, not_true_eq_false, not_false_eq_true, LamX.tLam, LamX.TTold, tSeq, tIf, tNext, tRet, tRetN, tIfS, tTest, tB, tNot, tAnd, tOr, tChain, tOp, tUn, tC, tVar, tCons, tNil, tTup, tLst, tAsg, gName, gTup, gCons, gNil, gSub, tDrop, tCallS, tCB, tM1, tM0, tBM, tBM0, tSl, tPar, tFor_eq, tLc_eq, intU_int, intU_bl, iList, iTup, iEnumT, tDNewK, rSlT, rSlL, iRng1, iRng2, iStr, tThen, tNever, L2.start, tRaiseFile, tMkFile, tYes, tPart, tNoPart, addA_int, addA_str, addU_int, addU_str, addU_ref, subU_int, mulU_int, mulU_ref, fdvU_int, modU_int, powU_int, ltU_int, leU_int, gtU_int, geU_int, eqU_int, eqU_str, eqU_bl, neU_int, neU_str, neU_bl, WE, TruV, List.map, List.length_cons, List.length_nil, List.replicate, List.append, List.getElem?_cons_zero, List.getElem?_cons_succ, List.set_cons_zero, List.set_cons_succ, List.cons_append, List.nil_append, Option.some.injEq, V.int.injEq, V.str.injEq, V.bl.injEq, V.ref.injEq, List.cons.injEq, exists_eq_left, exists_eq_right, and_true, true_and, and_self, exists_eq, exists_const, Bool.not_true, Bool.not_false, Bool.false_eq_true, if_true, if_false, reduceIte, decide_eq_true_eq, bne_iff_ne, exists_eq_left', exists_eq', exists_and_left, Bool.not_eq_true', decide_eq_false_iff_not, Nat.reduceSub, Nat.reduceAdd, reduceCtorEq, false_and, or_false, false_or, exists_false]
        refine eqU_non ?_
        simp only [cx_K, gcx_K, lcx_K, LenV, rLenU, tTruU, kTup, tFld, sFld, sFldAug, tMet, tMake, tBM, tDGet, tDGet1, tDGet2, sDPut, tRevL, iEnum, tAug, tAsg, mulV_int, iaddU_int, isubU_int, iaddU_str, tTupL, ex2eq, not_true_eq_false, not_false_eq_true, LamX.tLam, LamX.TTold, tSeq, tIf, tNext, tRet, tRetN, tIfS, tTest, tB, tNot, tAnd, tOr, tChain, tOp, tUn, tC, tVar, tCons, tNil, tTup, tLst, tAsg, gName, gTup, gCons, gNil, gSub, tDrop, tCallS, tCB, tM1, tM0, tBM, tBM0, tSl, tPar, tFor_eq, tLc_eq, intU_int, intU_bl, iList, iTup, iEnumT, tDNewK, rSlT, rSlL, iRng1, iRng2, iStr, tThen, tNever, L2.start, tRaiseFile, tMkFile, tYes, tPart, tNoPart, addA_int, addA_str, addU_int, addU_str, addU_ref, subU_int, mulU_int, mulU_ref, fdvU_int, modU_int, powU_int, ltU_int, leU_int, gtU_int, geU_int, eqU_int, eqU_str, eqU_bl, neU_int, neU_str, neU_bl, WE, TruV, List.map, List.length_cons, List.length_nil, List.replicate, List.append, List.getElem?_cons_zero, List.getElem?_cons_succ, List.set_cons_zero, List.set_cons_succ, List.cons_append, List.nil_append, Option.some.injEq, V.int.injEq, V.str.injEq, V.bl.injEq, V.ref.injEq, List.cons.injEq, exists_eq_left, exists_eq_right, and_true, true_and, and_self, exists_eq, exists_const, Bool.not_true, Bool.not_false, Bool.false_eq_true, if_true, if_false, reduceIte, decide_eq_true_eq, bne_iff_ne, exists_eq_left', exists_eq', exists_and_left, Bool.not_eq_true', decide_eq_false_iff_not, Nat.reduceSub, Nat.reduceAdd, reduceCtorEq, false_and, or_false, false_or, exists_false]
        refine eqU_non ?_
        simp only [cx_K, gcx_K, lcx_K, LenV, rLenU, tTruU, kTup, tFld, sFld, sFldAug, tMet, tMake, tBM, tDGet, tDGet1, tDGet2, sDPut, tRevL, iEnum, tAug, tAsg, mulV_int, iaddU_int, isubU_int, iaddU_str, tTupL, ex2eq, not_true_eq_false, not_false_eq_true, LamX.tLam, LamX.TTold, tSeq, tIf, tNext, tRet, tRetN, tIfS, tTest, tB, tNot, tAnd, tOr, tChain, tOp, tUn, tC, tVar, tCons, tNil, tTup, tLst, tAsg, gName, gTup, gCons, gNil, gSub, tDrop, tCallS, tCB, tM1, tM0, tBM, tBM0, tSl, tPar, tFor_eq, tLc_eq, intU_int, intU_bl, iList, iTup, iEnumT, tDNewK, rSlT, rSlL, iRng1, iRng2, iStr, tThen, tNever, L2.start, tRaiseFile, tMkFile, tYes, tPart, tNoPart, addA_int, addA_str, addU_int, addU_str, addU_ref, subU_int, mulU_int, mulU_ref, fdvU_int, modU_int, powU_int, ltU_int, leU_int, gtU_int, geU_int, eqU_int, eqU_str, eqU_bl, neU_int, neU_str, neU_bl, WE, TruV, List.map, List.length_cons, List.length_nil, List.replicate, List.append, List.getElem?_cons_zero, List.getElem?_cons_succ, List.set_cons_zero, List.set_cons_succ, List.cons_append, List.nil_append, Option.some.injEq, V.int.injEq, V.str.injEq, V.bl.injEq, V.ref.injEq, List.cons.injEq, exists_eq_left, exists_eq_right, and_true, true_and, and_self, exists_eq, exists_const, Bool.not_true, Bool.not_false, Bool.false_eq_true, if_true, if_false, reduceIte, decide_eq_true_eq, bne_iff_ne, exists_eq_left', exists_eq', exists_and_left, Bool.not_eq_true', decide_eq_false_iff_not, Nat.reduceSub, Nat.reduceAdd, reduceCtorEq, false_and, or_false, false_or, exists_false]
        refine eqU_non ?_
        simp only [cx_K, gcx_K, lcx_K, LenV, rLenU, tTruU, kTup, tFld, sFld, sFldAug, tMet, tMake, tBM, tDGet, tDGet1, tDGet2, sDPut, tRevL, iEnum, tAug, tAsg, mulV_int, iaddU_int, isubU_int, iaddU_str, tTupL, ex2eq, not_true_eq_false, not_false_eq_true, LamX.tLam, LamX.TTold, tSeq, tIf, tNext, tRet, tRetN, tIfS, tTest, tB, tNot, tAnd, tOr, tChain, tOp, tUn, tC, tVar, tCons, tNil, tTup, tLst, tAsg, gName, gTup, gCons, gNil, gSub, tDrop, tCallS, tCB, tM1, tM0, tBM, tBM0, tSl, tPar, tFor_eq, tLc_eq, intU_int, intU_bl, iList, iTup, iEnumT, tDNewK, rSlT, rSlL, iRng1, iRng2, iStr, tThen, tNever, L2.start, tRaiseFile, tMkFile, tYes, tPart, tNoPart, addA_int, addA_str, addU_int, addU_str, addU_ref, subU_int, mulU_int, mulU_ref, fdvU_int, modU_int, powU_int, ltU_int, leU_int, gtU_int, geU_int, eqU_int, eqU_str, eqU_bl, neU_int, neU_str, neU_bl, WE, TruV, List.map, List.length_cons, List.length_nil, List.replicate, List.append, List.getElem?_cons_zero, List.getElem?_cons_succ, List.set_cons_zero, List.set_cons_succ, List.cons_append, List.nil_append, Option.some.injEq, V.int.injEq, V.str.injEq, V.bl.injEq, V.ref.injEq, List.cons.injEq, exists_eq_left, exists_eq_right, and_true, true_and, and_self, exists_eq, exists_const, Bool.not_true, Bool.not_false, Bool.false_eq_true, if_true, if_false, reduceIte, decide_eq_true_eq, bne_iff_ne, exists_eq_left', exists_eq', exists_and_left, Bool.not_eq_true', decide_eq_false_iff_not, Nat.reduceSub, Nat.reduceAdd, reduceCtorEq, false_and, or_false, false_or, exists_false]
        obtain ⟨kvT, hkT, pkT⟩ := id lF.at_
        refine ⟨d, _, _, p6, kvT, _, rfl, zF.dv, PF.de, PF.to, hkT, pkT, fun HT eT => ?_⟩
        rw [PF.same]
        simp only [cx_K, gcx_K, lcx_K, LenV, rLenU, tTruU, kTup, tFld, sFld, sFldAug, tMet, tMake, tBM, tDGet, tDGet1, tDGet2, sDPut, tRevL, iEnum, tAug, tAsg, mulV_int, iaddU_int, isubU_int, iaddU_str, tTupL, ex2eq, not_true_eq_false, not_false_eq_true, LamX.tLam, LamX.TTold, tSeq, tIf, tNext, tRet, tRetN, tIfS, tTest, tB, tNot, tAnd, tOr, tChain, tOp, tUn, tC, tVar, tCons, tNil, tTup, tLst, tAsg, gName, gTup, gCons, gNil, gSub, tDrop, tCallS, tCB, tM1, tM0, tBM, tBM0, tSl, tPar, tFor_eq, tLc_eq, intU_int, intU_bl, iList, iTup, iEnumT, tDNewK, rSlT, rSlL, iRng1, iRng2, iStr, tThen, tNever, L2.start, tRaiseFile, tMkFile, tYes, tPart, tNoPart, addA_int, addA_str, addU_int, addU_str, addU_ref, subU_int, mulU_int, mulU_ref, fdvU_int, modU_int, powU_int, ltU_int, leU_int, gtU_int, geU_int, eqU_int, eqU_str, eqU_bl, neU_int, neU_str, neU_bl, WE, TruV, List.map, List.length_cons, List.length_nil, List.replicate, List.append, List.getElem?_cons_zero, List.getElem?_cons_succ, List.set_cons_zero, List.set_cons_succ, List.cons_append, List.nil_append, Option.some.injEq, V.int.injEq, V.str.injEq, V.bl.injEq, V.ref.injEq, List.cons.injEq, exists_eq_left, exists_eq_right, and_true, true_and, and_self, exists_eq, exists_const, Bool.not_true, Bool.not_false, Bool.false_eq_true, if_true, if_false, reduceIte, decide_eq_true_eq, bne_iff_ne, exists_eq_left', exists_eq', exists_and_left, Bool.not_eq_true', decide_eq_false_iff_not, Nat.reduceSub, Nat.reduceAdd, reduceCtorEq, false_and, or_false, false_or, exists_false]
        have zT := zF.ex eT
        have jT := jF.ex eT
        obtain ⟨jxT, hjT⟩ := id jT.at_
        refine ⟨_, _, hjT, rfl, j, d, _, _, _, rfl, jT.at_, zT.dv, fine_wf PF.fi PF.to, PF.de, zT.tb, fun uT usT HU eU fU hU pU => ⟨sz 0, fun pz hpz => ?_⟩⟩
        have eV : Ex [] (TLaw PL) GT HU (upd HU pz (.lst [])) := Ex.new hpz
        rw [PF.pend] at pU
        refine ne_rows (l := []) (m := []) (lst_at (eV.lst (by simp) hU)) (lst_at upd_same) (pimp (fun _ _ => PairAt.ex eV) pU) .nil ?_
        simp only [cx_K, gcx_K, lcx_K, LenV, rLenU, tTruU, kTup, tFld, sFld, sFldAug, tMet, tMake, tBM, tDGet, tDGet1, tDGet2, sDPut, tRevL, iEnum, tAug, tAsg, mulV_int, iaddU_int, isubU_int, iaddU_str, tTupL, ex2eq, not_true_eq_false, not_false_eq_true, LamX.tLam, LamX.TTold, tSeq, tIf, tNext, tRet, tRetN, tIfS, tTest, tB, tNot, tAnd, tOr, tChain, tOp, tUn, tC, tVar, tCons, tNil, tTup, tLst, tAsg, gName, gTup, gCons, gNil, gSub, tDrop, tCallS, tCB, tM1, tM0, tBM, tBM0, tSl, tPar, tFor_eq, tLc_eq, intU_int, intU_bl, iList, iTup, iEnumT, tDNewK, rSlT, rSlL, iRng1, iRng2, iStr, tThen, tNever, L2.start, tRaiseFile, tMkFile, tYes, tPart, tNoPart, addA_int, addA_str, addU_int, addU_str, addU_ref, subU_int, mulU_int, mulU_ref, fdvU_int, modU_int, powU_int, ltU_int, leU_int, gtU_int, geU_int, eqU_int, eqU_str, eqU_bl, neU_int, neU_str, neU_bl, WE, TruV, List.map, List.length_cons, List.length_nil, List.replicate, List.append, List.getElem?_cons_zero, List.getElem?_cons_succ, List.set_cons_zero, List.set_cons_succ, List.cons_append, List.nil_append, Option.some.injEq, V.int.injEq, V.str.injEq, V.bl.injEq, V.ref.injEq, List.cons.injEq, exists_eq_left, exists_eq_right, and_true, true_and, and_self, exists_eq, exists_const, Bool.not_true, Bool.not_false, Bool.false_eq_true, if_true, if_false, reduceIte, decide_eq_true_eq, bne_iff_ne, exists_eq_left', exists_eq', exists_and_left, Bool.not_eq_true', decide_eq_false_iff_not, Nat.reduceSub, Nat.reduceAdd, reduceCtorEq, false_and, or_false, false_or, exists_false]
        have eW := (eT.trans eU).trans eV
        exact ⟨p6, p6, _, _, _, _, _, ⟨_, _, _, _, _, _, _, _, _, _, _, _, _, _, _, rfl⟩, zF.ex eW, jF.ex eW, lF.ex eW, lF.ex eW, PF, bnd⟩
      · obtain ⟨F2, zF, jF, hF2⟩ := zE.jrn jE aF
        have lF := lE.jrn jE aF.e hF2
        have uF := aF.e.lst (by simp only [List.mem_cons, not_or]; exact ⟨ne_kind huE hjE rfl (fun z => by cases z), gE.nu⟩) huE
        rcases commit_end2 (s := s + 1) PA G h5 h0 with ⟨_, PF⟩ | ⟨hb, _⟩
        rotate_left
        · rw [hok] at hb; cases hb
        generalize (runOps v (commitOps (s + 1) rows ++ homeOps rows)).1 = v2 at *
        refine eqU_non ?_
        simp only [cx_K, gcx_K, lcx_K, LenV, rLenU, tTruU, kTup, tFld, sFld, sFldAug, tMet, tMake, tBM, tDGet, tDGet1, tDGet2, sDPut, tRevL, iEnum, tAug, tAsg, mulV_int, iaddU_int, isubU_int, iaddU_str, tTupL, ex2eq, not_true_eq_false, not_false_eq_true, LamX.tLam, LamX.TTold, tSeq, tIf, tNext, tRet, tRetN, tIfS, tTest, tB, tNot, tAnd, tOr, tChain, tOp, tUn, tC, tVar, tCons, tNil, tTup, tLst, tAsg, gName, gTup, gCons, gNil, gSub, tDrop, tCallS, tCB, tM1, tM0, tBM, tBM0, tSl, tPar, tFor_eq, tLc_eq, intU_int, intU_bl, iList, iTup, iEnumT, tDNewK, rSlT, rSlL, iRng1, iRng2, iStr, tThen, tNever, L2.start, tRaiseFile, tMkFile, tYes, tPart, tNoPart, addA_int, addA_str, addU_int, addU_str, addU_ref, subU_int, mulU_int, mulU_ref, fdvU_int, modU_int, powU_int, ltU_int, leU_int, gtU_int, geU_int, eqU_int, eqU_str, eqU_bl, neU_int, neU_str, neU_bl, WE, TruV, List.map, List.length_cons, List.length_nil, List.replicate, List.append, List.getElem?_cons_zero, List.getElem?_cons_succ, List.set_cons_zero, List.set_cons_succ, List.cons_append, List.nil_append, Option.some.injEq, V.int.injEq, V.str.injEq, V.bl.injEq, V.ref.injEq, List.cons.injEq, exists_eq_left, exists_eq_right, and_true, true_and, and_self, exists_eq, exists_const, Bool.not_true, Bool.not_false, Bool.false_eq_true, if_true, if_false, reduceIte, decide_eq_true_eq, bne_iff_ne, exists_eq_left', exists_eq', exists_and_left, Bool.not_eq_true', decide_eq_false_iff_not, Nat.reduceSub, Nat.reduceAdd, reduceCtorEq, false_and, or_false, false_or, exists_false]
        refine ⟨us'.length, .inl ⟨_, lst_at uF, rfl⟩, ?_⟩
        rw [decide_eq_false (show ¬ (5 : Int) < (us'.length : Nat) by omega)]
        simp only [cx_K, gcx_K, lcx_K, LenV, rLenU, tTruU, kTup, tFld, sFld, sFldAug, tMet, tMake, tBM, tDGet, tDGet1, tDGet2, sDPut, tRevL, iEnum, tAug, tAsg, mulV_int, iaddU_int, isubU_int, iaddU_str, tTupL, ex2eq, not_true_eq_false, not_false_eq_true, LamX.tLam, LamX.TTold, tSeq, tIf, tNext, tRet, tRetN, tIfS, tTest, tB, tNot, tAnd, tOr, tChain, tOp, tUn, tC, tVar, tCons, tNil, tTup, tLst, tAsg, gName, gTup, gCons, gNil, gSub, tDrop, tCallS, tCB, tM1, tM0, tBM, tBM0, tSl, tPar, tFor_eq, tLc_eq, intU_int, intU_bl, iList, iTup, iEnumT, tDNewK, rSlT, rSlL, iRng1, iRng2, iStr, tThen, tNever, L2.start, tRaiseFile, tMkFile, tYes, tPart, tNoPart, addA_int, addA_str, addU_int, addU_str, addU_ref, subU_int, mulU_int, mulU_ref, fdvU_int, modU_int, powU_int, ltU_int, leU_int, gtU_int, geU_int, eqU_int, eqU_str, eqU_bl, neU_int, neU_str, neU_bl, WE, TruV, List.map, List.length_cons, List.length_nil, List.replicate, List.append, List.getElem?_cons_zero, List.getElem?_cons_succ, List.set_cons_zero, List.set_cons_succ, List.cons_append, List.nil_append, Option.some.injEq, V.int.injEq, V.str.injEq, V.bl.injEq, V.ref.injEq, List.cons.injEq, exists_eq_left, exists_eq_right, and_true, true_and, and_self, exists_eq, exists_const, Bool.not_true, Bool.not_false, Bool.false_eq_true, if_true, if_false, reduceIte, decide_eq_true_eq, bne_iff_ne, exists_eq_left', exists_eq', exists_and_left, Bool.not_eq_true', decide_eq_false_iff_not, Nat.reduceSub, Nat.reduceAdd, reduceCtorEq, false_and, or_false, false_or, exists_false]
        refine eqU_non ?_
        simp only [cx_K, gcx_K, lcx_K, LenV, rLenU, tTruU, kTup, tFld, sFld, sFldAug, tMet, tMake, tBM, tDGet, tDGet1, tDGet2, sDPut, tRevL, iEnum, tAug, tAsg, mulV_int, iaddU_int, isubU_int, iaddU_str, tTupL, ex2eq, not_true_eq_false, not_false_eq_true, LamX.tLam, LamX.TTold, tSeq, tIf, tNext, tRet, tRetN, tIfS, tTest, tB, tNot, tAnd, tOr, tChain, tOp, tUn, tC, tVar, tCons, tNil, tTup, tLst, tAsg, gName, gTup, gCons, gNil, gSub, tDrop, tCallS, tCB, tM1, tM0, tBM, tBM0, tSl, tPar, tFor_eq, tLc_eq, intU_int, intU_bl, iList, iTup, iEnumT, tDNewK, rSlT, rSlL, iRng1, iRng2, iStr, tThen, tNever, L2.start, tRaiseFile, tMkFile, tYes, tPart, tNoPart, addA_int, addA_str, addU_int, addU_str, addU_ref, subU_int, mulU_int, mulU_ref, fdvU_int, modU_int, powU_int, ltU_int, leU_int, gtU_int, geU_int, eqU_int, eqU_str, eqU_bl, neU_int, neU_str, neU_bl, WE, TruV, List.map, List.length_cons, List.length_nil, List.replicate, List.append, List.getElem?_cons_zero, List.getElem?_cons_succ, List.set_cons_zero, List.set_cons_succ, List.cons_append, List.nil_append, Option.some.injEq, V.int.injEq, V.str.injEq, V.bl.injEq, V.ref.injEq, List.cons.injEq, exists_eq_left, exists_eq_right, and_true, true_and, and_self, exists_eq, exists_const, Bool.not_true, Bool.not_false, Bool.false_eq_true, if_true, if_false, reduceIte, decide_eq_true_eq, bne_iff_ne, exists_eq_left', exists_eq', exists_and_left, Bool.not_eq_true', decide_eq_false_iff_not, Nat.reduceSub, Nat.reduceAdd, reduceCtorEq, false_and, or_false, false_or, exists_false]
        refine eqU_non ?_
        simp only [cx_K, gcx_K, lcx_K, LenV, rLenU, tTruU, kTup, tFld, sFld, sFldAug, tMet, tMake, tBM, tDGet, tDGet1, tDGet2, sDPut, tRevL, iEnum, tAug, tAsg, mulV_int, iaddU_int, isubU_int, iaddU_str, tTupL, ex2eq, not_true_eq_false, not_false_eq_true, LamX.tLam, LamX.TTold, tSeq, tIf, tNext, tRet, tRetN, tIfS, tTest, tB, tNot, tAnd, tOr, tChain, tOp, tUn, tC, tVar, tCons, tNil, tTup, tLst, tAsg, gName, gTup, gCons, gNil, gSub, tDrop, tCallS, tCB, tM1, tM0, tBM, tBM0, tSl, tPar, tFor_eq, tLc_eq, intU_int, intU_bl, iList, iTup, iEnumT, tDNewK, rSlT, rSlL, iRng1, iRng2, iStr, tThen, tNever, L2.start, tRaiseFile, tMkFile, tYes, tPart, tNoPart, addA_int, addA_str, addU_int, addU_str, addU_ref, subU_int, mulU_int, mulU_ref, fdvU_int, modU_int, powU_int, ltU_int, leU_int, gtU_int, geU_int, eqU_int, eqU_str, eqU_bl, neU_int, neU_str, neU_bl, WE, TruV, List.map, List.length_cons, List.length_nil, List.replicate, List.append, List.getElem?_cons_zero, List.getElem?_cons_succ, List.set_cons_zero, List.set_cons_succ, List.cons_append, List.nil_append, Option.some.injEq, V.int.injEq, V.str.injEq, V.bl.injEq, V.ref.injEq, List.cons.injEq, exists_eq_left, exists_eq_right, and_true, true_and, and_self, exists_eq, exists_const, Bool.not_true, Bool.not_false, Bool.false_eq_true, if_true, if_false, reduceIte, decide_eq_true_eq, bne_iff_ne, exists_eq_left', exists_eq', exists_and_left, Bool.not_eq_true', decide_eq_false_iff_not, Nat.reduceSub, Nat.reduceAdd, reduceCtorEq, false_and, or_false, false_or, exists_false]
        refine eqU_non ?_
        simp only [cx_K, gcx_K, lcx_K, LenV, rLenU, tTruU, kTup, tFld, sFld, sFldAug, tMet, tMake, tBM, tDGet, tDGet1, tDGet2, sDPut, tRevL, iEnum, tAug, tAsg, mulV_int, iaddU_int, isubU_int, iaddU_str, tTupL, ex2eq, not_true_eq_false, not_false_eq_true, LamX.tLam, LamX.TTold, tSeq, tIf, tNext, tRet, tRetN, tIfS, tTest, tB, tNot, tAnd, tOr, tChain, tOp, tUn, tC, tVar, tCons, tNil, tTup, tLst, tAsg, gName, gTup, gCons, gNil, gSub, tDrop, tCallS, tCB, tM1, tM0, tBM, tBM0, tSl, tPar, tFor_eq, tLc_eq, intU_int, intU_bl, iList, iTup, iEnumT, tDNewK, rSlT, rSlL, iRng1, iRng2, iStr, tThen, tNever, L2.start, tRaiseFile, tMkFile, tYes, tPart, tNoPart, addA_int, addA_str, addU_int, addU_str, addU_ref, subU_int, mulU_int, mulU_ref, fdvU_int, modU_int, powU_int, ltU_int, leU_int, gtU_int, geU_int, eqU_int, eqU_str, eqU_bl, neU_int, neU_str, neU_bl, WE, TruV, List.map, List.length_cons, List.length_nil, List.replicate, List.append, List.getElem?_cons_zero, List.getElem?_cons_succ, List.set_cons_zero, List.set_cons_succ, List.cons_append, List.nil_append, Option.some.injEq, V.int.injEq, V.str.injEq, V.bl.injEq, V.ref.injEq, List.cons.injEq, exists_eq_left, exists_eq_right, and_true, true_and, and_self, exists_eq, exists_const, Bool.not_true, Bool.not_false, Bool.false_eq_true, if_true, if_false, reduceIte, decide_eq_true_eq, bne_iff_ne, exists_eq_left', exists_eq', exists_and_left, Bool.not_eq_true', decide_eq_false_iff_not, Nat.reduceSub, Nat.reduceAdd, reduceCtorEq, false_and, or_false, false_or, exists_false]
        refine eqU_non ?_
        simp only [cx_K, gcx_K, lcx_K, LenV, rLenU, tTruU, kTup, tFld, sFld, sFldAug, tMet, tMake, tBM, tDGet, tDGet1, tDGet2, sDPut, tRevL, iEnum, tAug, tAsg, mulV_int, iaddU_int, isubU_int, iaddU_str, tTupL, ex2eq, not_true_eq_false, not_false_eq_true, LamX.tLam, LamX.TTold, tSeq, tIf, tNext, tRet, tRetN, tIfS, tTest, tB, tNot, tAnd, tOr, tChain, tOp, tUn, tC, tVar, tCons, tNil, tTup, tLst, tAsg, gName, gTup, gCons, gNil, gSub, tDrop, tCallS, tCB, tM1, tM0, tBM, tBM0, tSl, tPar, tFor_eq, tLc_eq, intU_int, intU_bl, iList, iTup, iEnumT, tDNewK, rSlT, rSlL, iRng1, iRng2, iStr, tThen, tNever, L2.start, tRaiseFile, tMkFile, tYes, tPart, tNoPart, addA_int, addA_str, addU_int, addU_str, addU_ref, subU_int, mulU_int, mulU_ref, fdvU_int, modU_int, powU_int, ltU_int, leU_int, gtU_int, geU_int, eqU_int, eqU_str, eqU_bl, neU_int, neU_str, neU_bl, WE, TruV, List.map, List.length_cons, List.length_nil, List.replicate, List.append, List.getElem?_cons_zero, List.getElem?_cons_succ, List.set_cons_zero, List.set_cons_succ, List.cons_append, List.nil_append, Option.some.injEq, V.int.injEq, V.str.injEq, V.bl.injEq, V.ref.injEq, List.cons.injEq, exists_eq_left, exists_eq_right, and_true, true_and, and_self, exists_eq, exists_const, Bool.not_true, Bool.not_false, Bool.false_eq_true, if_true, if_false, reduceIte, decide_eq_true_eq, bne_iff_ne, exists_eq_left', exists_eq', exists_and_left, Bool.not_eq_true', decide_eq_false_iff_not, Nat.reduceSub, Nat.reduceAdd, reduceCtorEq, false_and, or_false, false_or, exists_false]
        obtain ⟨kvT, hkT, pkT⟩ := id lF.at_
        refine ⟨d, _, _, p6, kvT, _, rfl, zF.dv, PF.de, PF.to, hkT, pkT, fun HT eT => ?_⟩
        rw [PF.same]
        simp only [cx_K, gcx_K, lcx_K, LenV, rLenU, tTruU, kTup, tFld, sFld, sFldAug, tMet, tMake, tBM, tDGet, tDGet1, tDGet2, sDPut, tRevL, iEnum, tAug, tAsg, mulV_int, iaddU_int, isubU_int, iaddU_str, tTupL, ex2eq, not_true_eq_false, not_false_eq_true, LamX.tLam, LamX.TTold, tSeq, tIf, tNext, tRet, tRetN, tIfS, tTest, tB, tNot, tAnd, tOr, tChain, tOp, tUn, tC, tVar, tCons, tNil, tTup, tLst, tAsg, gName, gTup, gCons, gNil, gSub, tDrop, tCallS, tCB, tM1, tM0, tBM, tBM0, tSl, tPar, tFor_eq, tLc_eq, intU_int, intU_bl, iList, iTup, iEnumT, tDNewK, rSlT, rSlL, iRng1, iRng2, iStr, tThen, tNever, L2.start, tRaiseFile, tMkFile, tYes, tPart, tNoPart, addA_int, addA_str, addU_int, addU_str, addU_ref, subU_int, mulU_int, mulU_ref, fdvU_int, modU_int, powU_int, ltU_int, leU_int, gtU_int, geU_int, eqU_int, eqU_str, eqU_bl, neU_int, neU_str, neU_bl, WE, TruV, List.map, List.length_cons, List.length_nil, List.replicate, List.append, List.getElem?_cons_zero, List.getElem?_cons_succ, List.set_cons_zero, List.set_cons_succ, List.cons_append, List.nil_append, Option.some.injEq, V.int.injEq, V.str.injEq, V.bl.injEq, V.ref.injEq, List.cons.injEq, exists_eq_left, exists_eq_right, and_true, true_and, and_self, exists_eq, exists_const, Bool.not_true, Bool.not_false, Bool.false_eq_true, if_true, if_false, reduceIte, decide_eq_true_eq, bne_iff_ne, exists_eq_left', exists_eq', exists_and_left, Bool.not_eq_true', decide_eq_false_iff_not, Nat.reduceSub, Nat.reduceAdd, reduceCtorEq, false_and, or_false, false_or, exists_false]
        have zT := zF.ex eT
        have jT := jF.ex eT
        obtain ⟨jxT, hjT⟩ := id jT.at_
        refine ⟨_, _, hjT, rfl, j, d, _, _, _, rfl, jT.at_, zT.dv, fine_wf PF.fi PF.to, PF.de, zT.tb, fun uT usT HU eU fU hU pU => ⟨sz 0, fun pz hpz => ?_⟩⟩
        have eV : Ex [] (TLaw PL) GT HU (upd HU pz (.lst [])) := Ex.new hpz
        rw [PF.pend] at pU
        refine ne_rows (l := []) (m := []) (lst_at (eV.lst (by simp) hU)) (lst_at upd_same) (pimp (fun _ _ => PairAt.ex eV) pU) .nil ?_
        simp only [cx_K, gcx_K, lcx_K, LenV, rLenU, tTruU, kTup, tFld, sFld, sFldAug, tMet, tMake, tBM, tDGet, tDGet1, tDGet2, sDPut, tRevL, iEnum, tAug, tAsg, mulV_int, iaddU_int, isubU_int, iaddU_str, tTupL, ex2eq, not_true_eq_false, not_false_eq_true, LamX.tLam, LamX.TTold, tSeq, tIf, tNext, tRet, tRetN, tIfS, tTest, tB, tNot, tAnd, tOr, tChain, tOp, tUn, tC, tVar, tCons, tNil, tTup, tLst, tAsg, gName, gTup, gCons, gNil, gSub, tDrop, tCallS, tCB, tM1, tM0, tBM, tBM0, tSl, tPar, tFor_eq, tLc_eq, intU_int, intU_bl, iList, iTup, iEnumT, tDNewK, rSlT, rSlL, iRng1, iRng2, iStr, tThen, tNever, L2.start, tRaiseFile, tMkFile, tYes, tPart, tNoPart, addA_int, addA_str, addU_int, addU_str, addU_ref, subU_int, mulU_int, mulU_ref, fdvU_int, modU_int, powU_int, ltU_int, leU_int, gtU_int, geU_int, eqU_int, eqU_str, eqU_bl, neU_int, neU_str, neU_bl, WE, TruV, List.map, List.length_cons, List.length_nil, List.replicate, List.append, List.getElem?_cons_zero, List.getElem?_cons_succ, List.set_cons_zero, List.set_cons_succ, List.cons_append, List.nil_append, Option.some.injEq, V.int.injEq, V.str.injEq, V.bl.injEq, V.ref.injEq, List.cons.injEq, exists_eq_left, exists_eq_right, and_true, true_and, and_self, exists_eq, exists_const, Bool.not_true, Bool.not_false, Bool.false_eq_true, if_true, if_false, reduceIte, decide_eq_true_eq, bne_iff_ne, exists_eq_left', exists_eq', exists_and_left, Bool.not_eq_true', decide_eq_false_iff_not, Nat.reduceSub, Nat.reduceAdd, reduceCtorEq, false_and, or_false, false_or, exists_false]
        have eW := (eT.trans eU).trans eV
        exact ⟨p6, p6, _, _, _, _, _, ⟨_, _, _, _, _, _, _, _, _, _, _, _, _, _, _, rfl⟩, zF.ex eW, jF.ex eW, lF.ex eW, lF.ex eW, PF, bnd⟩
      · obtain ⟨F2, zF, jF, hF2⟩ := zE.jrn jE aF
        have lF := lE.jrn jE aF.e hF2
        have kF := kE.jrn jE aF.e hF2
        have uF := aF.e.lst (by simp only [List.mem_cons, not_or]; exact ⟨ne_kind huE hjE rfl (fun z => by cases z), gE.nu⟩) huE
        rcases commit_end2 (s := s + 1) PA G h5 h0 with ⟨hb, _⟩ | ⟨_, hde, PF⟩
        · rw [hok] at hb; cases hb
        generalize (runOps v (commitOps (s + 1) rows ++ homeOps rows)).1 = v2 at *
        obtain ⟨dxF, bF, wF, hdF⟩ := zF.dv.ins
        simp only [cx_K, gcx_K, lcx_K, LenV, rLenU, tTruU, kTup, tFld, sFld, sFldAug, tMet, tMake, tBM, tDGet, tDGet1, tDGet2, sDPut, tRevL, iEnum, tAug, tAsg, mulV_int, iaddU_int, isubU_int, iaddU_str, tTupL, ex2eq, not_true_eq_false, not_false_eq_true, LamX.tLam, LamX.TTold, tSeq, tIf, tNext, tRet, tRetN, tIfS, tTest, tB, tNot, tAnd, tOr, tChain, tOp, tUn, tC, tVar, tCons, tNil, tTup, tLst, tAsg, gName, gTup, gCons, gNil, gSub, tDrop, tCallS, tCB, tM1, tM0, tBM, tBM0, tSl, tPar, tFor_eq, tLc_eq, intU_int, intU_bl, iList, iTup, iEnumT, tDNewK, rSlT, rSlL, iRng1, iRng2, iStr, tThen, tNever, L2.start, tRaiseFile, tMkFile, tYes, tPart, tNoPart, addA_int, addA_str, addU_int, addU_str, addU_ref, subU_int, mulU_int, mulU_ref, fdvU_int, modU_int, powU_int, ltU_int, leU_int, gtU_int, geU_int, eqU_int, eqU_str, eqU_bl, neU_int, neU_str, neU_bl, WE, TruV, List.map, List.length_cons, List.length_nil, List.replicate, List.append, List.getElem?_cons_zero, List.getElem?_cons_succ, List.set_cons_zero, List.set_cons_succ, List.cons_append, List.nil_append, Option.some.injEq, V.int.injEq, V.str.injEq, V.bl.injEq, V.ref.injEq, List.cons.injEq, exists_eq_left, exists_eq_right, and_true, true_and, and_self, exists_eq, exists_const, Bool.not_true, Bool.not_false, Bool.false_eq_true, if_true, if_false, reduceIte, decide_eq_true_eq, bne_iff_ne, exists_eq_left', exists_eq', exists_and_left, Bool.not_eq_true', decide_eq_false_iff_not, Nat.reduceSub, Nat.reduceAdd, reduceCtorEq, false_and, or_false, false_or, exists_false, jd_ne, dj_ne]
        refine ⟨us'.length, .inl ⟨_, lst_at uF, rfl⟩, ?_⟩
        rw [decide_eq_false (show ¬ (5 : Int) < (us'.length : Nat) by omega)]
        simp only [cx_K, gcx_K, lcx_K, LenV, rLenU, tTruU, kTup, tFld, sFld, sFldAug, tMet, tMake, tBM, tDGet, tDGet1, tDGet2, sDPut, tRevL, iEnum, tAug, tAsg, mulV_int, iaddU_int, isubU_int, iaddU_str, tTupL, ex2eq, not_true_eq_false, not_false_eq_true, LamX.tLam, LamX.TTold, tSeq, tIf, tNext, tRet, tRetN, tIfS, tTest, tB, tNot, tAnd, tOr, tChain, tOp, tUn, tC, tVar, tCons, tNil, tTup, tLst, tAsg, gName, gTup, gCons, gNil, gSub, tDrop, tCallS, tCB, tM1, tM0, tBM, tBM0, tSl, tPar, tFor_eq, tLc_eq, intU_int, intU_bl, iList, iTup, iEnumT, tDNewK, rSlT, rSlL, iRng1, iRng2, iStr, tThen, tNever, L2.start, tRaiseFile, tMkFile, tYes, tPart, tNoPart, addA_int, addA_str, addU_int, addU_str, addU_ref, subU_int, mulU_int, mulU_ref, fdvU_int, modU_int, powU_int, ltU_int, leU_int, gtU_int, geU_int, eqU_int, eqU_str, eqU_bl, neU_int, neU_str, neU_bl, WE, TruV, List.map, List.length_cons, List.length_nil, List.replicate, List.append, List.getElem?_cons_zero, List.getElem?_cons_succ, List.set_cons_zero, List.set_cons_succ, List.cons_append, List.nil_append, Option.some.injEq, V.int.injEq, V.str.injEq, V.bl.injEq, V.ref.injEq, List.cons.injEq, exists_eq_left, exists_eq_right, and_true, true_and, and_self, exists_eq, exists_const, Bool.not_true, Bool.not_false, Bool.false_eq_true, if_true, if_false, reduceIte, decide_eq_true_eq, bne_iff_ne, exists_eq_left', exists_eq', exists_and_left, Bool.not_eq_true', decide_eq_false_iff_not, Nat.reduceSub, Nat.reduceAdd, reduceCtorEq, false_and, or_false, false_or, exists_false, jd_ne, dj_ne]
        refine ⟨_, _, _, hdF, T.cD, T.fD _ (by simp), _, rfl, ?_⟩
        simp only [hde, cx_K, gcx_K, lcx_K, LenV, rLenU, tTruU, kTup, tFld, sFld, sFldAug, tMet, tMake, tBM, tDGet, tDGet1, tDGet2, sDPut, tRevL, iEnum, tAug, tAsg, mulV_int, iaddU_int, isubU_int, iaddU_str, tTupL, ex2eq, not_true_eq_false, not_false_eq_true, LamX.tLam, LamX.TTold, tSeq, tIf, tNext, tRet, tRetN, tIfS, tTest, tB, tNot, tAnd, tOr, tChain, tOp, tUn, tC, tVar, tCons, tNil, tTup, tLst, tAsg, gName, gTup, gCons, gNil, gSub, tDrop, tCallS, tCB, tM1, tM0, tBM, tBM0, tSl, tPar, tFor_eq, tLc_eq, intU_int, intU_bl, iList, iTup, iEnumT, tDNewK, rSlT, rSlL, iRng1, iRng2, iStr, tThen, tNever, L2.start, tRaiseFile, tMkFile, tYes, tPart, tNoPart, addA_int, addA_str, addU_int, addU_str, addU_ref, subU_int, mulU_int, mulU_ref, fdvU_int, modU_int, powU_int, ltU_int, leU_int, gtU_int, geU_int, eqU_int, eqU_str, eqU_bl, neU_int, neU_str, neU_bl, WE, TruV, List.map, List.length_cons, List.length_nil, List.replicate, List.append, List.getElem?_cons_zero, List.getElem?_cons_succ, List.set_cons_zero, List.set_cons_succ, List.cons_append, List.nil_append, Option.some.injEq, V.int.injEq, V.str.injEq, V.bl.injEq, V.ref.injEq, List.cons.injEq, exists_eq_left, exists_eq_right, and_true, true_and, and_self, exists_eq, exists_const, Bool.not_true, Bool.not_false, Bool.false_eq_true, if_true, if_false, reduceIte, decide_eq_true_eq, bne_iff_ne, exists_eq_left', exists_eq', exists_and_left, Bool.not_eq_true', decide_eq_false_iff_not, Nat.reduceSub, Nat.reduceAdd, reduceCtorEq, false_and, or_false, false_or, exists_false, jd_ne, dj_ne]
        exact hk _ _ ⟨p1, p6, v2, F2, kl, putAll kl rows, ⟨_, _, _, _, _, _, _, _, _, _, _, _, _, _, _, _, rfl⟩, zF, kF, lF, PF⟩
  · rintro σ H' ⟨_, _, t2⟩
    simp only [cx_K, gcx_K, lcx_K, LenV, rLenU, tTruU, kTup, tFld, sFld, sFldAug, tMet, tMake, tBM, tDGet, tDGet1, tDGet2, sDPut, tRevL, iEnum, tAug, tAsg, mulV_int, iaddU_int, isubU_int, iaddU_str, tTupL, ex2eq, not_true_eq_false, not_false_eq_true, LamX.tLam, LamX.TTold, tSeq, tIf, tNext, tRet, tRetN, tIfS, tTest, tB, tNot, tAnd, tOr, tChain, tOp, tUn, tC, tVar, tCons, tNil, tTup, tLst, tAsg, gName, gTup, gCons, gNil, gSub, tDrop, tCallS, tCB, tM1, tM0, tBM, tBM0, tSl, tPar, tFor_eq, tLc_eq, intU_int, intU_bl, iList, iTup, iEnumT, tDNewK, rSlT, rSlL, iRng1, iRng2, iStr, tThen, tNever, L2.start, tRaiseFile, tMkFile, tYes, tPart, tNoPart, addA_int, addA_str, addU_int, addU_str, addU_ref, subU_int, mulU_int, mulU_ref, fdvU_int, modU_int, powU_int, ltU_int, leU_int, gtU_int, geU_int, eqU_int, eqU_str, eqU_bl, neU_int, neU_str, neU_bl, WE, TruV, List.map, List.length_cons, List.length_nil, List.replicate, List.append, List.getElem?_cons_zero, List.getElem?_cons_succ, List.set_cons_zero, List.set_cons_succ, List.cons_append, List.nil_append, Option.some.injEq, V.int.injEq, V.str.injEq, V.bl.injEq, V.ref.injEq, List.cons.injEq, exists_eq_left, exists_eq_right, and_true, true_and, and_self, exists_eq, exists_const, Bool.not_true, Bool.not_false, Bool.false_eq_true, if_true, if_false, reduceIte, decide_eq_true_eq, bne_iff_ne, exists_eq_left', exists_eq', exists_and_left, Bool.not_eq_true', decide_eq_false_iff_not, Nat.reduceSub, Nat.reduceAdd, reduceCtorEq, false_and, or_false, false_or, exists_false]
    exact h _ t2.tg
end
end KB
set_option Elab.async false
set_option linter.all false
set_option maxRecDepth 100000
set_option maxHeartbeats 0
namespace KB
open PySem PySem.Spec PyProof.Rows L2 GX
/-! ### the head -/
def dfs : List (Str × Stmt) := [("pair", (top 5)), ("number_of_pair", (top 6)), ("word_sum", (top 7)), ("head_room", (top 11)), ("head_of", (top 12)), ("read_head", (top 13)), ("_law_dice", (top 18)), ("_law_roll", (top 19)), ("_law_rounds", (top 20)), ("_law_told", (top 21)), ("_law_block", (top 22)), ("_law_group", (top 23)), ("_law_same", (top 24)), ("_law_again", (top 25)), ("law", (top 26))]
abbrev MD : Type := (Str × Str) × (Str × (Stmt × List He.Dv))
def mts : List MD := [(("Device", "step"), ("Device.step", ((inClass (top 16) 2), []))), (("Device", "check_number"), ("Device.check_number", ((inClass (top 16) 3), []))), (("Device", "arm"), ("Device.arm", ((inClass (top 16) 1), []))), (("Device", "read"), ("Device.read", ((inClass (top 16) 4), []))),
  (("Device", "write_block"), ("Device.write_block", ((inClass (top 16) 5), []))), (("Device", "flush"), ("Device.flush", ((inClass (top 16) 6), []))), (("Device", "restarted"), ("Device.restarted", ((inClass (top 16) 7), []))),
  (("Journal", "room"), ("Journal.room", ((inClass (top 14) 1), []))), (("Journal", "commit"), ("Journal.commit", ((inClass (top 14) 2), []))), (("Journal", "write_home"), ("Journal.write_home", ((inClass (top 14) 3), []))), (("Journal", "pending"), ("Journal.pending", ((inClass (top 14) 4), []))), (("Journal", "recover"), ("Journal.recover", ((inClass (top 14) 5), [])))]
def ini : List MD := [(("Device", "__init__"), ("Device.__init__", ((inClass (top 16) 0), [.non]))), (("Journal", "__init__"), ("Journal.__init__", ((inClass (top 14) 0), [])))]
def md (p : MD) : He.DefD := ⟨(p.1.1, some p.1.2), p.1.2, p.2.1, defArgs p.2.2.1, defBody p.2.2.1, defScope p.2.2.1, p.2.2.2, []⟩
def fn : List He.DefD := (dfs.map fun p => dd p.1 p.2) ++ ((mts ++ ini).map md)
def frs : List Str := ["enumerate", "dict", "min", "sorted", "len", "tuple", "range", "abs", "int"]
def fds : List (Str × Str) := [("Device", "block_size"), ("Device", "total"), ("Device", "blocks"), ("Device", "waiting"), ("Device", "fuse"), ("Device", "dead"), ("Device", "steps"), ("Journal", "device"), ("Journal", "first"), ("Journal", "blocks"), ("Journal", "serial")]
def cls : List Str := ["Device", "Journal"]
def exs : List Str := ["DeviceError", "JournalError"]
def oth : List He.Fa := [.exm "DeviceError" "DeviceError" true, .exm "JournalError" "DeviceError" false, .exm "JournalError" "JournalError" true, .int "FIXED" 10, .glo "JOURNAL_MARK"]
def fa : List He.Fa := (((((((dfs.map fun p => He.Fa.glo p.1) ++ (mts.map fun p => He.Fa.meth p.1.1 p.1.2)) ++ (frs.map He.Fa.free)) ++ (fds.map fun p => He.Fa.noat p.1 p.2)) ++ (cls.map He.Fa.cls)) ++ ((cls.map He.Fa.mkr) ++ ((cls ++ exs).map He.Fa.glo))) ++ (exs.map He.Fa.exc)) ++ oth
def tf : List He.Defn := [("read_head", none), ("Journal", some "recover"), ("law", none)]
abbrev R : PySem.W.OpenRow := PySem.W.OpenLaw.row PySem.Challenge.rw_hoststack_k02_devices_and_journals
abbrev tb1 (K : PySem.W.Frag) : Addr := (He.cT K ("read_head", none)).2
abbrev tb2 (K : PySem.W.Frag) : Addr := (He.cT K ("Journal", some "recover")).2
abbrev tb3 (K : PySem.W.Frag) : Addr := (He.cT K ("law", none)).2
abbrev exF : PySem.W.Frag → Bool := fun K => He.tupB K "JOURNAL_MARK" [.int 74, .int 82] && (decide (tb1 K ≠ tb3 K) && decide (tb2 K ≠ tb3 K))
abbrev hk : PySem.W.Hook := He.hookX 6 fa fn [] tf exF
def ob (s : PySem.W.SharedT) : He.AlX := He.obsX 6 fa fn [] tf exF (HandSHeadRun.getT s)
theorem ob_eq (s : PySem.W.SharedT) : ob s = hk.obs s.abs := He.obsX_eq (HandSHeadRun.getT_eq s)
def loose : List Str := ["HostError", "DeviceError", "JournalError", "pair", "number_of_pair", "word_sum", "JOURNAL_MARK", "FIXED", "head_room", "head_of", "read_head", "Journal", "Device", "_law_dice", "_law_roll", "_law_rounds", "_law_told", "_law_block", "_law_group", "_law_same", "_law_again"]
theorem run (w : World) : HandSHeadRun.RunEq R (PySem.W.view R.prog [26]) hk ob 4000 loose w := by
  intro os
  kernel_rfl
end KB
set_option Elab.async false
set_option linter.all false
set_option maxRecDepth 100000
set_option maxHeartbeats 0
namespace KB
open PySem PySem.Spec PyProof.Rows L2 GX
section
variable {P : Program} {w : World} {K : PySem.W.Frag} {h : Heap} {mg : Str → Option Value}
theorem sql_toE {GT : List Addr} {H : Hp} {a : Addr} {xs : List V} (hT : ∀ p ∈ GT, ∃ ps, H p = some (.tbl ps)) (h : SqL K H a xs) : SqL K (toE GT H) a xs := by
  rcases h with (h | ⟨o, h⟩) | h
  · have na : a ∉ GT := fun z => by obtain ⟨ps, q⟩ := hT a z; rw [h] at q; cases q
    exact .inl (.inl (by rw [toE_out na]; exact h))
  · have na : a ∉ GT := fun z => by obtain ⟨ps, q⟩ := hT a z; rw [h] at q; cases q
    exact .inl (.inr ⟨o, by rw [toE_out na]; exact h⟩)
  · exact .inr h
theorem law_at (X : K.In h) (G : h.Ns mainGlobals mg) (c : He.SaysX fa fn [] tf exF w h K) {f : Addr} (hfa : mg ("law" : Str) = some (.ref f)) :
    LamX.LawAtS PySem.Challenge.rw_hoststack_k02_devices_and_journals w K (L2.CX R.prog w) 30 63 "script" mg f h := by
  have fc : ∀ {z : He.Fa}, z ∈ fa → z.ok K = true := fun hz => c.t.d.facts hz
  have D : ∀ {x : Str} {st : Stmt}, (x, st) ∈ dfs → ∃ fd cd, Def K mg x st (He.ga K x) fd cd ∧ cd = (He.cT K (x, none)).1 := fun {x st} hm => by
    obtain ⟨fd, F⟩ := c.t.d.defs (d := dd x st) (List.mem_append_left _ (List.mem_map.mpr ⟨(x, st), hm, rfl⟩))
    obtain ⟨cd, D, e⟩ := def_funD (mg := mg) F (He.glo_ok X G (fc (z := .glo x) (List.mem_append_left _ (List.mem_append_left _ (List.mem_append_left _ (List.mem_append_left _ (List.mem_append_left _ (List.mem_append_left _ (List.mem_append_left _ (List.mem_map.mpr ⟨(x, st), hm, rfl⟩))))))))))
    obtain ⟨oc, od, kV, doc, pm, an, ct, osl, rfl, lk, hcd⟩ := D.ex
    exact ⟨_, cd, D, (He.codeOf_eq (p := (x, none)) lk rfl).symm⟩
  have M0 : ∀ {p : MD}, p ∈ mts ++ ini → ∃ fd cd, MDef K p.1.2 p.2.1 p.2.2.1 (p.2.2.2.map (He.Dv.v K)) (He.ma K (He.ga K p.1.1) p.1.2) fd cd ∧ cd = (He.cT K (p.1.1, some p.1.2)).1 := fun {p} hm => by
    obtain ⟨fd, F⟩ := c.t.d.defs (d := md p) (List.mem_append_right _ (List.mem_map.mpr ⟨p, hm, rfl⟩))
    have F0 := F
    obtain ⟨⟨oc, od, dV, kV, doc, pm, an, cdv, ct, osl, rfl, lk, hcd, hD, hK⟩, kp⟩ := F
    obtain ⟨cc, rfl⟩ := He.codeIn_ref hcd
    exact ⟨_, cc, ⟨F0, rfl⟩, (He.codeOf_eq (p := (p.1.1, some p.1.2)) lk rfl).symm⟩
  have M : ∀ {p : MD}, p ∈ mts → ∃ f fd cd, MDef K p.1.2 p.2.1 p.2.2.1 (p.2.2.2.map (He.Dv.v K)) f fd cd ∧ Meth K (He.ga K p.1.1) p.1.2 f := fun {p} hm => by
    obtain ⟨fd, cd, D, _⟩ := M0 (List.mem_append_left _ hm)
    exact ⟨_, fd, cd, D, He.meth_ok (fc (z := .meth p.1.1 p.1.2) (List.mem_append_left _ (List.mem_append_left _ (List.mem_append_left _ (List.mem_append_left _ (List.mem_append_left _ (List.mem_append_left _ (List.mem_append_right _ (List.mem_map.mpr ⟨p, hm, rfl⟩)))))))))⟩
  have Fr : ∀ {x : Str}, x ∈ frs → mg x = none := fun {x} hm => He.free_ok X G (fc (z := .free x) (List.mem_append_left _ (List.mem_append_left _ (List.mem_append_left _ (List.mem_append_left _ (List.mem_append_left _ (List.mem_append_right _ (List.mem_map.mpr ⟨x, hm, rfl⟩))))))))
  have Na : ∀ {x g : Str}, (x, g) ∈ fds → NoAttr K (He.ga K x) g := fun {x g} hm => He.noat_ok (fc (z := .noat x g) (List.mem_append_left _ (List.mem_append_left _ (List.mem_append_left _ (List.mem_append_left _ (List.mem_append_right _ (List.mem_map.mpr ⟨(x, g), hm, rfl⟩)))))))
  have Cl : ∀ {x : Str}, x ∈ cls → Cls K (He.ga K x) := fun {x} hm => He.cls_ok (fc (z := .cls x) (List.mem_append_left _ (List.mem_append_left _ (List.mem_append_left _ (List.mem_append_right _ (List.mem_map.mpr ⟨x, hm, rfl⟩))))))
  have Mr : ∀ {x : Str}, x ∈ cls → Mk K (He.ga K x) (He.ma K (He.ga K x) "__init__") := fun {x} hm => He.mkr_ok (fc (z := .mkr x) (List.mem_append_left _ (List.mem_append_left _ (List.mem_append_right _ (List.mem_append_left _ (List.mem_map.mpr ⟨x, hm, rfl⟩))))))
  have Gl : ∀ {x : Str}, x ∈ cls ++ exs → mg x = some (.ref (He.ga K x)) := fun {x} hm => He.glo_ok X G (fc (z := .glo x) (List.mem_append_left _ (List.mem_append_left _ (List.mem_append_right _ (List.mem_append_right _ (List.mem_map.mpr ⟨x, hm, rfl⟩))))))
  have Px : ∀ {x : Str}, x ∈ exs → PlainX K mg x (He.ga K x) := fun {x} hm => by
    obtain ⟨e1, e2, e3, e4⟩ := He.exc_ok (fc (z := .exc x) (List.mem_append_left _ (List.mem_append_right _ (List.mem_map.mpr ⟨x, hm, rfl⟩))))
    exact ⟨e1, Gl (List.mem_append_right _ hm), e2, e3, e4⟩
  have Ot : ∀ {z : He.Fa}, z ∈ oth → z.ok K = true := fun hz => fc (List.mem_append_right _ hz)
  have Dx : ∀ {x : Str} {st : Stmt}, (x, st) ∈ dfs → ∃ f fd cd, Def K mg x st f fd cd := fun hm => let ⟨fd, cd, d, _⟩ := D hm; ⟨_, fd, cd, d⟩
  obtain ⟨fdL, cdL, DL, eL⟩ := D (x := "law") (st := (top 26)) (by simp [dfs])
  obtain ⟨fdN, cdN, DN, eN⟩ := D (x := "read_head") (st := (top 13)) (by simp [dfs])
  obtain ⟨fdR, cdR, DR, eR⟩ := M0 (p := (("Journal", "recover"), ("Journal.recover", ((inClass (top 14) 5), [])))) (by simp [mts])
  have hR := He.meth_ok (fc (z := .meth "Journal" "recover") (List.mem_append_left _ (List.mem_append_left _ (List.mem_append_left _ (List.mem_append_left _ (List.mem_append_left _ (List.mem_append_left _ (List.mem_append_right _ (List.mem_map.mpr ⟨(("Journal", "recover"), ("Journal.recover", ((inClass (top 14) 5), []))), by simp [mts], rfl⟩)))))))))
  have efa := hfa.symm.trans DL.gm
  cases efa
  obtain ⟨cO, hbind⟩ : True ∧ ∀ us : List Value, us.length = 1 → bindArgs fdL ⟨us, []⟩ = pure ((["script"] : List Str).zip us) := by
    obtain ⟨oc, od, kV, doc, pm, an, ct, osl, rfl, lk, hcd⟩ := DL.ex
    exact ⟨trivial, fun us hl => match us, hl with | [_], _ => rfl⟩
  obtain ⟨tt, et⟩ : ∃ ts : List (Addr × Addr), ts = tf.map (He.cT K) := ⟨_, rfl⟩
  have hme : ∀ p ∈ tt, ∃ q ∈ tf, p = He.cT K q := fun p hp => by
    rw [et] at hp
    obtain ⟨q, hq, e⟩ := List.mem_map.mp hp
    exact ⟨q, hq, e.symm⟩
  have hin : ∀ q ∈ tf, He.cT K q ∈ tt := fun q hq => by rw [et]; exact List.mem_map.mpr ⟨q, hq, rfl⟩
  obtain ⟨hmark, hmore⟩ := He.ba c.more
  obtain ⟨hne1, hne2⟩ := He.ba hmore
  have hne1 : tb1 K ≠ tb3 K := of_decide_eq_true hne1
  have hne2 : tb2 K ≠ tb3 K := of_decide_eq_true hne2
  refine ⟨fdL, tt, spTabs [tb1 K, tb2 K] (spLaw K (TLaw (tb3 K)) [tb1 K, tb2 K]), fun p hp => ?_, fun p hp => ?_, fun p hp => ?_, fun s u => .of_eq (hbind [u] rfl), ?_, ?_⟩
  · obtain ⟨q, hq, rfl⟩ := hme p hp
    exact c.empty q hq
  · obtain ⟨q, hq, rfl⟩ := hme p hp
    exact c.out q hq
  · obtain ⟨q, hq, rfl⟩ := hme p hp
    exact PySem.W.codeHd_of_K X (c.hd q hq)
  · intro H a zs hl hb hT hS
    have hN : H (tb1 K) = some (.tbl #[]) := hT (He.cT K ("read_head", none)) (hin _ (by simp [tf]))
    have hJ : H (tb2 K) = some (.tbl #[]) := hT (He.cT K ("Journal", some "recover")) (hin _ (by simp [tf]))
    have hL : H (tb3 K) = some (.tbl #[]) := hT (He.cT K ("law", none)) (hin _ (by simp [tf]))
    have hGT : ∀ p ∈ [tb1 K, tb2 K], H p = some (.tbl #[]) := fun p hp => by
      simp only [List.mem_cons, List.not_mem_nil, or_false] at hp
      rcases hp with rfl | rfl
      · exact hN
      · exact hJ
    refine ⟨hGT, fun v => v = .bl true, fun v H' h => h, a, zs, rfl, ?_, ⟨?_, fun p hp => toE_in hp⟩, fun H' h => ⟨rfl, h⟩⟩
    · exact sql_toE (fun p hp => ⟨#[], hGT p hp⟩) hS
    · refine tabs_empty fun p hp => ?_
      rw [List.mem_singleton.mp hp]
      show toE _ H (tb3 K) = _
      rw [toE_out (by simp only [List.mem_cons, List.not_mem_nil, or_false, not_or]; exact ⟨Ne.symm hne1, Ne.symm hne2⟩)]
      exact hL
  · intro base hK hG hTB
    have tN := hTB (He.cT K ("read_head", none)) (hin _ (by simp [tf]))
    have tJ := hTB (He.cT K ("Journal", some "recover")) (hin _ (by simp [tf]))
    have tL := hTB (He.cT K ("law", none)) (hin _ (by simp [tf]))
    rw [← eN] at tN
    rw [← eR] at tJ
    rw [← eL] at tL
    have T : KB.Txt R.prog w K mg base (He.ga K "Device") (He.ga K "Journal") (He.ga K "DeviceError") (He.ga K "JournalError") (He.ga K "JOURNAL_MARK") (TLaw (tb3 K)) [tb1 K, tb2 K] :=
      { x_DeviceError := Px (by simp [exs]), x_JournalError := Px (by simp [exs])
        cD := Cl (by simp [cls]), cJ := Cl (by simp [cls])
        fD := fun f hf => by
          simp only [List.mem_cons, List.not_mem_nil, or_false] at hf
          rcases hf with rfl | rfl | rfl | rfl | rfl | rfl | rfl <;> exact Na (by simp [fds])
        fJ := fun f hf => by
          simp only [List.mem_cons, List.not_mem_nil, or_false] at hf
          rcases hf with rfl | rfl | rfl | rfl <;> exact Na (by simp [fds])
        gD := Gl (by simp [cls]), gJ := Gl (by simp [cls])
        d_step := M (p := (("Device", "step"), ("Device.step", ((inClass (top 16) 2), [])))) (by simp [mts])
        d_check := M (p := (("Device", "check_number"), ("Device.check_number", ((inClass (top 16) 3), [])))) (by simp [mts])
        d_arm := M (p := (("Device", "arm"), ("Device.arm", ((inClass (top 16) 1), [])))) (by simp [mts])
        d_read := M (p := (("Device", "read"), ("Device.read", ((inClass (top 16) 4), [])))) (by simp [mts])
        d_write := M (p := (("Device", "write_block"), ("Device.write_block", ((inClass (top 16) 5), [])))) (by simp [mts])
        d_flush := M (p := (("Device", "flush"), ("Device.flush", ((inClass (top 16) 6), [])))) (by simp [mts])
        d_rest := M (p := (("Device", "restarted"), ("Device.restarted", ((inClass (top 16) 7), [])))) (by simp [mts])
        d_init := by
          obtain ⟨fd, cd, D, _⟩ := M0 (p := (("Device", "__init__"), ("Device.__init__", ((inClass (top 16) 0), [.non])))) (by simp [ini])
          exact ⟨_, fd, cd, D, Mr (by simp [cls])⟩
        j_init := by
          obtain ⟨fd, cd, D, _⟩ := M0 (p := (("Journal", "__init__"), ("Journal.__init__", ((inClass (top 14) 0), [])))) (by simp [ini])
          exact ⟨_, fd, cd, D, Mr (by simp [cls])⟩
        j_room := M (p := (("Journal", "room"), ("Journal.room", ((inClass (top 14) 1), [])))) (by simp [mts])
        j_commit := M (p := (("Journal", "commit"), ("Journal.commit", ((inClass (top 14) 2), [])))) (by simp [mts])
        j_home := M (p := (("Journal", "write_home"), ("Journal.write_home", ((inClass (top 14) 3), [])))) (by simp [mts])
        j_pending := M (p := (("Journal", "pending"), ("Journal.pending", ((inClass (top 14) 4), [])))) (by simp [mts])
        j_recover := ⟨_, fdR, cdR, _, DR, hR, ⟨tJ.code, tJ.bm, tJ.gP⟩, by simp⟩
        d_pair := Dx (by simp [dfs]), d_nop := Dx (by simp [dfs]), d_ws := Dx (by simp [dfs]), d_hr := Dx (by simp [dfs]), d_ho := Dx (by simp [dfs])
        d_rh := ⟨_, fdN, cdN, _, DN, ⟨tN.code, tN.bm, tN.gP⟩, by simp⟩
        d_dice := Dx (by simp [dfs]), d_roll := Dx (by simp [dfs]), d_rounds := Dx (by simp [dfs]), d_block := Dx (by simp [dfs]), d_group := Dx (by simp [dfs]), d_same := Dx (by simp [dfs]), d_again := Dx (by simp [dfs])
        d_law := Dx (by simp [dfs])
        g_FIXED := by
          obtain ⟨t, q⟩ := He.int_ok X G (Ot (z := .int "FIXED" 10) (by simp [oth]))
          exact ⟨_, q, ⟨t, rfl⟩⟩
        g_JOURNAL_MARK := ⟨_, He.glo_ok X G (Ot (z := .glo "JOURNAL_MARK") (by simp [oth])), rfl⟩
        markT := He.tupB_ok hmark
        n_enumerate := Fr (by simp [frs]), n_dict := Fr (by simp [frs]), n_min := Fr (by simp [frs]), n_sorted := Fr (by simp [frs]), n_len := Fr (by simp [frs]), n_tuple := Fr (by simp [frs]), n_range := Fr (by simp [frs]), n_abs := Fr (by simp [frs]), n_int := Fr (by simp [frs]) }
    obtain ⟨fT, fdT, cT, DT⟩ := Dx (x := "_law_told") (st := (top 21)) (by simp [dfs])
    have told : Told2 K mg "_law_told" "what" "DeviceError" "DeviceError" "JournalError" "JournalError" (He.ga K "DeviceError") (He.ga K "JournalError") :=
      { ex := ⟨fT, cT, fdT, (top 21), ["what"], _, _, _, _, _, _, _, _, _, _, _, _, DT, rfl, ⟨rfl, rfl, rfl, by decide +kernel, rfl, by decide +kernel, by decide +kernel⟩, rfl, Or.inl rfl, rfl, rfl, fun _ => rfl, fun _ _ _ _ _ _ us hl => match us, hl with | [_], _ => rfl⟩
        me1 := Gl (by simp [exs]), de1 := rfl, me2 := Gl (by simp [exs]), de2 := rfl, da := rfl, dx := rfl, dc := rfl }
    have xe : ExE K (He.ga K "DeviceError") (He.ga K "JournalError") := ⟨He.exm_ok (Ot (by simp [oth])), He.exm_ok (Ot (by simp [oth])), He.exm_ok (Ot (by simp [oth]))⟩
    exact fn_tabs (c_law T told xe DL tL).1
end
end KB
open PySem PySem.W PySem.Calls PyProof.Rows
theorem PySem.Challenge.cw_hoststack_k02_devices_and_journals_holds : PySem.Challenge.rw_hoststack_k02_devices_and_journals.Holds := by
  w_on; o_law
  refine HandSHeadRun.head_any (r := OpenLaw.row PySem.Challenge.rw_hoststack_k02_devices_and_journals) (q := view (OpenLaw.row PySem.Challenge.rw_hoststack_k02_devices_and_journals).prog [26]) (H := KB.hk) (ob := KB.ob) (M := 4000) (loose := KB.loose) (d := HandSHeadRun.topDef (OpenLaw.row PySem.Challenge.rw_hoststack_k02_devices_and_journals).prog 26) (kwd := []) KB.ob_eq
    (by kernel_rfl) (fun s => by kernel_rfl) KB.run (by kernel_rfl) (by kernel_rfl) (by kernel_rfl) (by rfl) (by first | assumption | decide +kernel) (by decide +kernel) ⟨rfl, rfl, rfl, rfl, rfl, by decide +kernel⟩ ?hw ?hc
  case hw => w_witness2
  case hc =>
    refine LamX.walk_ofTsE (l := PySem.Challenge.rw_hoststack_k02_devices_and_journals) (n := 63) (k := 30) (x := "script") (CX := fun w => L2.CX KB.R.prog w) rfl (by decide) (by kernel_rfl) ⟨rfl, by decide, by decide⟩ ?F (fun w H s e s' z => by obtain ⟨_, _, _, _, _, _, _, _, _, _, _, _, z⟩ := z; exact z)
    intro w mg fa h Y G hmg0
    obtain ⟨K, KX, c⟩ := Y
    have hmg : mg ("law" : PySem.Str) = some (.ref fa) := by
      have e : (HandSHeadRun.topDef (OpenLaw.row PySem.Challenge.rw_hoststack_k02_devices_and_journals).prog 26).name = ("law" : PySem.Str) := by kernel_rfl
      rw [← e]
      exact hmg0
    exact ⟨K, KX, KB.law_at KX G c hmg⟩
