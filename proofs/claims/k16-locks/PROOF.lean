import PyProof.Rows.All
import Wide.All
import OpenK.AllK
import Wide.FinOn
import HandS.ForMost
import HandS.ForExc
import HandS.GenList
import HandS.AnyAll
import PyProof.CodeObjX
import HandS.Conv
import PyProof.CollectIter
import KE.KExcSuper
import KE.RegKSuper
import HandS.ExcSuper
import HandS.Text
import HandS.TryOnly
import HandS.Lambda
import HandS.Head0
import HandS.Head1
import HandS.Head2
import HandS.HeadEnd
import HandS.HeadHook1
import HandS.HeadHook2
import HandS.HeadHook3
import HandS.HeadHook4
import HandS.HeadWalk
import HandS.TupMul
import HandS.Style
import HandS.Dict
import HandS.TryMany
import HandS.CallSlots
import HandS.Iter
import HandS.Zip0
import HandS.Walk
import HandS.TupAny
import PyProof.Draws
import PyProof.EnumMake
import HandS.SetFor
import HandS.More
import HandS.SetKeys
import KE.DataFind
import HandS.DictTup
import HandS.Keys
import HandS.Sort
import KE.KItemsList
import KE.KSortTup
import HandS.DictComp
import HandS.TupLe
import KE.KEqDict
import PySem.Challenge.RW_hoststack_k16_locks_and_rings
section
set_option Elab.async false
set_option linter.all false
set_option maxRecDepth 100000
set_option maxHeartbeats 2000000
/-! a generator expression, any element: its run as a generator, for any consumer -/
namespace GX
open PySem PySem.Spec PyProof.Rows L2 GenW

def NoCell (o : Obj) : Prop := ∀ v, o.data ≠ .cell v
/-- the consumer's object, if it has one -/
def pinsS (S : Option Addr) (o : Obj) : List (Addr × Obj) := match S with
  | some a => [(a, o)]
  | none => []
theorem mem_pinsS {S : Option Addr} {o : Obj} {p : Addr × Obj} (h : p ∈ pinsS S o) : S = some p.1 ∧ p.2 = o := by
  cases S with
  | none => cases h
  | some a =>
    rw [List.mem_singleton.mp h]
    exact ⟨rfl, rfl⟩
theorem pinsS_mem {S : Option Addr} {o : Obj} {a : Addr} (h : S = some a) : (a, o) ∈ pinsS S o := by
  subst h
  exact List.mem_cons_self
/-- running: what stands at S tells what is out -/
def GIc (X : Cx) (S : Option Addr) (C : List V → Obj → Prop) (ip : List (Addr × Obj)) (ys : List V) (σ : L2.St) (H : Hp) (s : Shared) : Prop :=
  ∃ oS, C ys oS ∧ Inv X (pinsS S oS ++ ip) σ H s
/-- the consumer's turn: S alone changes -/
structure SleptC (S : Option Addr) (C : List V → Obj → Prop) (ys : List V) (s s' : Shared) : Prop where
  os : s'.os = s.os
  bare : AllBare s'.gens
  keep : ∀ b o, S ≠ some b → s.heap.get? b = some o → s'.heap.get? b = some o
  own : ∃ o, C ys o ∧ ∀ a, S = some a → s'.heap.get? a = some o ∧ NoCell o
theorem GIc.at_ {X : Cx} {S : Option Addr} {C : List V → Obj → Prop} {ip : List (Addr × Obj)} {ys : List V} {σ : L2.St} {H : Hp} {s : Shared} (h : GIc X S C ip ys σ H s) :
    (∀ a, S = some a → H a = none ∧ a ≠ X.env.locals ∧ a ∉ X.fs) ∧ ∃ oS, C ys oS ∧ ∀ a, S = some a → s.heap.get? a = some oS ∧ NoCell oS := by
  obtain ⟨oS, c, I⟩ := h
  refine ⟨fun a ha => ?_, oS, c, fun a ha => ?_⟩
  · obtain ⟨h1, h2, h3, h4, h5⟩ := I.pin (a, oS) (List.mem_append_right _ (List.mem_append_left _ (pinsS_mem ha)))
    exact ⟨h2, h3, h4⟩
  · obtain ⟨h1, h2, h3, h4, h5⟩ := I.pin (a, oS) (List.mem_append_right _ (List.mem_append_left _ (pinsS_mem ha)))
    exact ⟨h1, h5⟩
/-- woken again -/
theorem GIc.woken {X : Cx} {S : Option Addr} {C : List V → Obj → Prop} {ip : List (Addr × Obj)} {ys ys' : List V} {σ : L2.St} {H : Hp} {s s' : Shared} (hpn : ∀ p ∈ X.pn, S ≠ some p.1) (hip : ∀ p ∈ ip, S ≠ some p.1) (hA : ∀ a, S = some a → Apart X a) (h : GIc X S C ip ys σ H s) (z : SleptC S C ys' s s') :
    GIc X S C ip ys' σ H s' := by
  obtain ⟨hS, _⟩ := h.at_
  obtain ⟨oS, c, I⟩ := h
  have I0 : Inv X ip σ H s := I.pins_of fun p hp => I.pin p (List.mem_append_right _ (List.mem_append_right _ hp))
  have nt : ∀ b u, H b = some u → S ≠ some b := fun b u q hb => by rw [(hS b hb).1] at q; cases q
  obtain ⟨z1, z2, z3, o', c', hown⟩ := z
  obtain ⟨hh, g, d, t, o⟩ := s'
  have ho : o = s.os := z1
  subst ho
  have inS : ∀ b, b ∈ S.toList ↔ S = some b := fun b => by
    cases S with
    | none => simp
    | some a => simp [eq_comm]
  have nc : ∀ b, b ∉ S.toList → S ≠ some b := fun b hb e => hb ((inS b).mpr e)
  have J : Inv X ip σ H { s with heap := hh, gens := g, drawn := d, toks := t } := by
    refine I0.step (g' := g) (t' := t) (d' := d) (ch := S.toList) (fun b hb => ?_)
      (fun b ob _ _ hc q _ => z3 b ob (nc b hc) q) (fun b ob _ _ hc q _ => ⟨ob.slots, z3 b ob (nc b hc) q⟩) (fun _ _ _ _ n => n) (fun b ob hc q => ⟨ob, z3 b ob (nc b hc) q⟩)
      (fun _ _ q => q) (fun _ _ _ q => q) (fun b ps q => ⟨#[], by rw [q]; simp⟩) (fun m hm => ?_) (fun b u q => ?_) z2
    · have e := (inS b).mp hb
      obtain ⟨a1, a2, a3⟩ := hA b e
      refine ⟨.inr a1, a2, a3, fun p hp z => ?_⟩
      rcases List.mem_append.mp hp with hp | hp
      · exact hpn p hp (by rw [z]; exact e)
      · exact hip p hp (by rw [z]; exact e)
    · obtain ⟨ob, es, ep, ho, r⟩ := hm
      exact ⟨ob, es, ep, z3 _ ob (fun e => (hS _ e).2.1 rfl) ho, r⟩
    · refine (I0.hok b u q).stay (fun c v hc y => z3 c v ?_ y) (fun _ y => y) fun _ _ y => y
      rcases hc with y | y
      · rw [y]; exact nt b u q
      · exact nt c _ y
  refine ⟨o', c', J.pins_of fun p hp => ?_⟩
  rcases List.mem_append.mp hp with hp | hp
  · obtain ⟨e1, e2⟩ := mem_pinsS hp
    obtain ⟨h1, h2, h3⟩ := hS _ e1
    obtain ⟨g1, g2⟩ := hown _ e1
    rw [e2]
    exact ⟨g1, h1, h2, h3, g2⟩
  · exact J.pin p (List.mem_append_right _ hp)

/-- the protocol with its consumer -/
def YC (P : Program) (w : World) (outer : List Env) (H : Hp) (s : Shared) (S : Option Addr) (a : Addr) (g : Nat) (C : List V → Obj → Prop) (Yx : List V → V → Hp → Prop) : Protocol := fun n s₀ v s1 kap =>
  ∃ (ys : List V) (x : V) (H' : Hp), n + 1 + ys.length = sizeLine ∧ RelV x v ∧ s1.os = s.os ∧ AllBare s1.gens ∧ s1.heap.NoLimit ∧ s1.heap.IsGen a g ∧ Un (frs outer) [] H H' s.heap s1.heap ∧ HOk P w H' s1.heap ∧ (∀ b, S = some b → H' b = none) ∧
    (∃ oS, C ys oS ∧ ∀ b, S = some b → s1.heap.get? b = some oS ∧ NoCell oS) ∧ Yx ys x H' ∧ ∀ s', SleptC S C (ys ++ [x]) s1 s' → kap (.send .none) s'
def RC (P : Program) (w : World) (outer : List Env) (H : Hp) (s : Shared) (S : Option Addr) (a : Addr) (g : Nat) (C : List V → Obj → Prop) (Q : List V → Hp → Prop) (E : XK) : GenEnd := fun n s₀ r s1 =>
  ((r = .ok (.ret .none) ∨ r = .ok .next) ∧ ∃ (ys : List V) (H' : Hp), s1.os = s.os ∧ AllBare s1.gens ∧ Un (frs outer) [] H H' s.heap s1.heap ∧ HOk P w H' s1.heap ∧ (∀ b, S = some b → H' b = none) ∧ (∃ oS, C ys oS ∧ ∀ b, S = some b → s1.heap.get? b = some oS ∧ NoCell oS) ∧ ys.length ≤ sizeLine ∧ Q ys H') ∨
  ∃ e, r = .error e ∧ CX P w outer H s E e s1 ∧ s1.heap.IsGen a g
/-- a generator that has not begun, for any consumer -/
def GMadeC (P : Program) (w : World) (k : Nat) (outer : List Env) (H : Hp) (s : Shared) (Yx : List V → V → Hp → Prop) (Q : List V → Hp → Prop) (E : XK) (u : Value) (s' : Shared) : Prop :=
  ∃ (a : Addr) (g : Nat) (c : Code) (go : Obj), u = .ref a ∧ s.heap.objs.size ≤ a ∧ a < s'.heap.objs.size ∧ s'.heap.get? a = some go ∧ NoCell go ∧ s'.heap.IsGen a g ∧ s'.gens[g]? = some (.fresh c) ∧ s'.os = s.os ∧ AllBare s'.gens ∧ s'.heap.NoLimit ∧
    ∀ (C : List V → Obj → Prop) (A : Around) (S : Option Addr) (s2 : Shared), Room k A → A.frames = some outer → (∀ b, S = some b → s'.heap.objs.size ≤ b) → (∀ b o, s'.heap.get? b = some o → s2.heap.get? b = some o) →
      (∃ o, C [] o ∧ ∀ b, S = some b → s2.heap.get? b = some o ∧ NoCell o) → s2.os = s.os → AllBare s2.gens →
      Seg (model P w) A (RC P w outer H s S a g C Q E) (YC P w outer H s S a g C Yx) sizeLine s2 c ((model P w).den c) [] s2
abbrev gEnv (X : Cx) (scope : Scope) (L : Addr) (code : Value) (bi : Addr) : Env := genEnv scope (cloFrom X.env.cells scope.names []) L code bi X.env
/-- the context of a generator expression's frame; entered: what stood when the walked thing had been reckoned -/
def gCx (X : Cx) (A : Around) (s : Shared) (H : Hp) (E : XK) (scope : Scope) (L : Addr) (code : Value) (bi : Addr) (pn : List (Addr × Obj)) : Cx where
  prog := X.prog
  w := X.w
  K := X.K
  mg := X.mg
  base := X.base
  A := A.deeper (gEnv X scope L code bi)
  N := X.N
  s_0 := s
  H_0 := H
  env := gEnv X scope L code bi
  outer := X.stack
  stack := gEnv X scope L code bi :: X.stack
  ex := []
  fn := fun _ => false
  calm := true
  pn := pn
  xe := fun e s' => wpAny (model X.prog X.w) (A.deeper (gEnv X scope L code bi)) (leaving (gEnv X scope L code bi) e)
    (fun _ s'' => CX X.prog X.w X.stack H s E e s'' ∧ ∀ p ∈ pn, s''.heap.get? p.1 = some p.2) (fun _ _ => False) s'
section
variable {X : Cx} {A : Around} {s : Shared} {H : Hp} {E : XK} {scope : Scope} {L : Addr} {code : Value} {bi : Addr} {pn : List (Addr × Obj)}
theorem takes_g : Takes (gCx X A s H E scope L code bi pn) (fun cls d _ H' => E cls d H') := fun u s' x =>
  XE.leaveG (X := gCx X A s H E scope L code bi pn) (W := fun cls d _ H' => E cls d H') (E := E) rfl rfl rfl (fun _ _ _ _ h => h) x
theorem owns_g : PassesOwn (model X.prog X.w) (gCx X A s H E scope L code bi pn).A (gCx X A s H E scope L code bi pn).env (gCx X A s H E scope L code bi pn).xe :=
  passes_of (X := gCx X A s H E scope L code bi pn) (K := fun e s'' => CX X.prog X.w X.stack H s E e s'' ∧ ∀ p ∈ pn, s''.heap.get? p.1 = some p.2) (E₁ := fun _ _ => False) rfl
end
theorem over_gen {A : Around} {elt tg iter : Expr} {ifs : List Expr} {scope : Scope} {pos : Pos} {it acc : Value} {env : Env} :
    A.over (.compLoop (.GeneratorExp elt [⟨tg, iter, ifs, 0⟩] scope pos) 0 it acc env) [] = A.deeper env := by
  first
    | rfl
    | (obtain ⟨hd, d, fr, gs, u⟩ := A; simp [Around.over, Around.deeper, marksOver, frameCount, unitsOf, envsOf, guardsOf, pushEnvs, pushGuards, Code.envs, Code.env?, Code.isFrame, Code.guards, Code.isGuard, Code.weight, Code.frames, Code.isCreation, Code.isCaller, Code.cUnits])
theorem over_genS {A : Around} {elt tg iter : Expr} {ifs : List Expr} {scope : Scope} {pos : Pos} {it acc : Value} {env : Env} :
    A.over (.compStart (.GeneratorExp elt [⟨tg, iter, ifs, 0⟩] scope pos) 0 it acc env) [] = A.deeper env := by
  first
    | rfl
    | (obtain ⟨hd, d, fr, gs, u⟩ := A; simp [Around.over, Around.deeper, marksOver, frameCount, unitsOf, envsOf, guardsOf, pushEnvs, pushGuards, Code.envs, Code.env?, Code.isFrame, Code.guards, Code.isGuard, Code.weight, Code.frames, Code.isCreation, Code.isCaller, Code.cUnits])
/-- the reading of the turns: W by the turn, a measure, what is out so far -/
def tTurns (g : TG) (tt : TT) (te : TE) (vs : List Nat) (Yx : List V → V → Hp → Prop) (σ : L2.St) (J : It) (H0 : Hp) (cont : List V → Hp → Prop) : Prop :=
  ∃ W : Nat → Nat → List V → Hp → Prop, (∃ m, W 0 m [] H0) ∧ ∀ i m ys H, W i m ys H →
    (J.stop i H ∧ cont ys H) ∨ (J.go i H ∧ ∃ Nx : List V → Hp → Prop, (∀ ys' H', Nx ys' H' → ∃ m', m' < m ∧ W (i + 1) m' ys' H') ∧ ∀ x H', J.yld i H x H' → g x (wipe σ vs) H' fun σ2 H2 => wipe σ2 vs = wipe σ vs ∧ tt σ2 H2 fun b H3 =>
      if b = true then te σ2 H3 fun y H4 => ys.length < sizeLine ∧ Yx ys y H4 ∧ Nx (ys ++ [y]) H4 else Nx ys H3)

/-- the generator's turns -/
theorem seg_turns {Xg : Cx} {A : Around} {R : GenEnd} {Y : Protocol} {S : Option Addr} {C : List V → Obj → Prop} {Yx : List V → V → Hp → Prop} {elt tg iter : Expr} {ifs : List Expr} {scope : Scope} {pos : Pos} {it : Addr} {fp : List Addr} {tn : Nat → Heap → Prop} {J : It}
    {g : TG} {tt : TT} {te : TE} {vs : List Nat} {σ : L2.St} {cont : List V → Hp → Prop} {W : Nat → Nat → List V → Hp → Prop}
    (hA : A.deeper Xg.env = Xg.A) (hcalm : Xg.calm = true) (hco : Xg.env.scope.isCoroutine = false) (hpn : ∀ p ∈ Xg.pn, S ≠ some p.1) (hAp : ∀ a, S = some a → Apart Xg a) (hfS : ∀ b ∈ fp, S ≠ some b)
    (hfp : ∀ b ∈ fp, b ≠ Xg.env.locals ∧ b ∉ Xg.fs ∧ Xg.s_0.heap.objs.size ≤ b ∧ (∀ x c, Xg.env.cells.lookup x = some c → c ≠ b) ∧ ∀ p ∈ Xg.pn, p.1 ≠ b)
    (T : Turn Xg.prog Xg.w Xg.K tg J fp it tn) (pg : PG Xg tg g) (pt : PTs Xg ifs tt) (pe : PE Xg elt te)
    (turn : ∀ i m ys H, W i m ys H → (J.stop i H ∧ cont ys H) ∨ (J.go i H ∧ ∃ Nx : List V → Hp → Prop, (∀ ys' H', Nx ys' H' → ∃ m', m' < m ∧ W (i + 1) m' ys' H') ∧ ∀ x H', J.yld i H x H' → g x (wipe σ vs) H' fun σ2 H2 => wipe σ2 vs = wipe σ vs ∧ tt σ2 H2 fun b H3 =>
      if b = true then te σ2 H3 fun y H4 => ys.length < sizeLine ∧ Yx ys y H4 ∧ Nx (ys ++ [y]) H4 else Nx ys H3))
    (hend : ∀ n s₀ ys H s, n + ys.length = sizeLine → GIc Xg S C [] ys (wipe σ vs) H s → cont ys H → R n s₀ (.ok .next) s)
    (hexc : ∀ n s₀ e s, Xg.xe e s → wpAny (model Xg.prog Xg.w) Xg.A (leaving Xg.env e) (fun _ s'' => R n s₀ (.error e) s'') (fun _ _ => False) s)
    (hy : ∀ n s₀ ys ip σ2 H x v s kap, n + 1 + ys.length = sizeLine → (∀ p ∈ ip, S ≠ some p.1) → RelV x v → GIc Xg S C ip ys σ2 H s → Yx ys x H → (∀ s', SleptC S C (ys ++ [x]) s s' → kap (.send .none) s') → Y n s₀ v s kap) :
    ∀ (m i n : Nat) (ys : List V) (s₀ s : Shared) (H : Hp), n + ys.length = sizeLine → W i m ys H → GIc Xg S C [] ys (wipe σ vs) H s → tn i s.heap → (∀ b ∈ fp, H b = none) →
      Seg (model Xg.prog Xg.w) A R Y n s₀ (.compLoop (.GeneratorExp elt [⟨tg, iter, ifs, 0⟩] scope pos) 0 (.ref it) .none Xg.env)
        ((model Xg.prog Xg.w).den (.compLoop (.GeneratorExp elt [⟨tg, iter, ifs, 0⟩] scope pos) 0 (.ref it) .none Xg.env)) [] s := by
  intro m
  induction m using Nat.strongRecOn with
  | ind m ih =>
    intro i n ys s₀ s H hn w hI st nfp
    have exc : ∀ (n : Nat) (s₀ : Shared) (e : Value) (s' : Shared), Xg.xe e s' → Seg (model Xg.prog Xg.w) A R Y n s₀ (.compLoop (.GeneratorExp elt [⟨tg, iter, ifs, 0⟩] scope pos) 0 (.ref it) .none Xg.env)
        ((leaving Xg.env e).bind fun _ => (Sem.raise e : Sem PySem.Fin)) [] s' := fun n s₀ e s' hx => by
      rw [Sem.bind_eq_wrap]
      refine seg_wrap ?_
      rw [over_gen, hA]
      exact wpAny_mono (hexc n s₀ e s' hx) (fun _ s'' q => seg_end (.error e) q) fun _ _ q => q.elim
    have stat : ∀ {pins : List (Addr × Obj)} {H' : Hp}, (∀ p ∈ pins, p.1 ∉ fp) → (∀ b ∈ fp, H' b = none) → ∀ b ∈ fp, FpOk Xg pins H' b := fun {pins H'} hp hn b hb => by
      obtain ⟨f1, f2, f3, f4, f5⟩ := hfp b hb
      refine ⟨hn b hb, f1, f2, .inr f3, f4, fun p hm => ?_⟩
      rcases List.mem_append.mp hm with z | z
      · exact f5 p z
      · intro e
        exact hp p z (by rw [e]; exact hb)
    obtain ⟨oS, cS, I⟩ := hI
    have sing : ∀ p ∈ pinsS S oS ++ [], p.1 ∉ fp := fun p hp hm => by
      rw [List.append_nil] at hp
      exact hfS _ hm (mem_pinsS hp).1
    show Seg _ A _ _ _ s₀ _ ((compTurn (.GeneratorExp elt [⟨tg, iter, ifs, 0⟩] scope pos) 0 (.ref it) .none Xg.env).onRaise (leaving Xg.env)) [] s
    rw [compTurn_gen, Sem.onRaise_eq_wrap]
    refine seg_bind_wrap (wpAny_standAt ?_)
    rcases turn i m ys H w with ⟨stop, qc⟩ | ⟨go, Nx, hNx, step⟩
    · have td := T.done Xg rfl rfl rfl hcalm i (pinsS S oS ++ []) s _ H (fun _ _ => False) I (stat sing nfp) st stop
      refine seg_bind_wrap ?_
      rw [over_gen, hA]
      refine wpAny_mono td (fun r s1 ⟨hr, I1⟩ => ?_) fun _ _ z => z.elim
      subst hr
      exact seg_end (.ok .next) (hend n s₀ ys H s1 hn ⟨oS, cS, I1⟩ qc)
    · have ti := T.item Xg rfl rfl rfl hcalm i (pinsS S oS ++ []) s _ H (fun _ _ => False) I (stat sing nfp) st go
      refine seg_bind_wrap ?_
      rw [over_gen, hA]
      refine wpAny_mono ti (fun r s1 ⟨u, hr, h1⟩ => ?_) fun _ _ z => z.elim
      subst hr
      dsimp only
      refine seg_bind_wrap ?_
      rw [over_gen, hA]
      refine wpAny_mono h1 (fun _ s2 ⟨x, H2, I2, r2, y2, st2, n2⟩ => ?_) fun _ _ z => z.elim
      rw [List.append_nil] at I2
      have I2' : Inv Xg (pinsS S oS ++ pinsAt fp s2.heap) (wipe σ vs) H2 s2 := I2.pinned (stat (fun p hp => sing p (List.mem_append_left _ hp)) n2) (T.obj _ _ st2)
      refine seg_bind_wrap ?_
      rw [over_gen, hA]
      refine wpAny_mono (pg.run _ s2 _ H2 x u _ I2' r2 (step x H2 y2)) (fun _ s3 ⟨σ3, H3, I3, hw3, q3⟩ => ?_) fun e s' hx => exc n s₀ e s' hx
      refine seg_bind_wrap ?_
      rw [over_gen, hA]
      refine wpAny_mono (pt.run _ s3 σ3 H3 _ I3 q3) (fun b s4 ⟨H4, I4, q4⟩ => ?_) fun e s' hx => exc n s₀ e s' hx
      have npS : ∀ p ∈ pinsAt fp s2.heap, S ≠ some p.1 := fun p hp => hfS _ (of_pinsAt hp).1
      -- the next turn
      have again : ∀ {n' : Nat} {ys' : List V} {H' : Hp} {s₀' s' : Shared}, n' + ys'.length = sizeLine → GIc Xg S C (pinsAt fp s2.heap) ys' σ3 H' s' → Nx ys' H' →
          Seg (model Xg.prog Xg.w) A R Y n' s₀' (.compLoop (.GeneratorExp elt [⟨tg, iter, ifs, 0⟩] scope pos) 0 (.ref it) .none Xg.env)
            (.pure (.again (.compLoop (.GeneratorExp elt [⟨tg, iter, ifs, 0⟩] scope pos) 0 (.ref it) .none Xg.env))) [] s' := fun {n' ys' H' s₀' s'} hn' hI' nx => by
        obtain ⟨m', hm, w'⟩ := hNx ys' H' nx
        obtain ⟨o', c', I'⟩ := hI'
        have pin' : ∀ b ∈ fp, ∀ o, s2.heap.get? b = some o → s'.heap.get? b = some o ∧ H' b = none := fun b hb o e =>
          let z := I'.pin (b, o) (List.mem_append_right _ (List.mem_append_right _ (mem_pinsAt hb e)))
          ⟨z.1, z.2.1⟩
        have hl : (wipe σ vs).length = σ3.length := by rw [← hw3, wipe_length]
        have Iu : Inv Xg (pinsS S o' ++ []) σ3 H' s' := I'.pins_of fun p hp => by
          rw [List.append_nil] at hp
          exact I'.pin p (List.mem_append_right _ (List.mem_append_left _ hp))
        refine seg_again rfl (ih m' hm (i + 1) n' ys' s₀' s' H' hn' w' ⟨o', c', Iu.weak hl fun j v e => ?_⟩ (T.keep _ _ _ st2 fun b hb o e => (pin' b hb o e).1) fun b hb => ?_)
        · rw [← hw3] at e
          exact (wipe_some e).1
        · obtain ⟨o, e, _⟩ := T.obj _ _ st2 b hb
          exact (pin' b hb o e).2
      cases b with
      | false =>
        simp only [Bool.false_eq_true, if_false] at q4 ⊢
        exact again hn ⟨oS, cS, I4⟩ q4
      | true =>
        simp only [if_true] at q4 ⊢
        have hyv : ∀ v, yieldOut Xg.env v = yieldValue v := fun v => by simp only [yieldOut, hco, Bool.false_eq_true, if_false]
        simp only [hyv]
        rw [Sem.bind_eq_wrap', Sem.bind_eq_wrap', Sem.wrap_wrap, Sem.wrap_wrap]
        refine seg_wrap ?_
        rw [over_gen, hA]
        refine wpAny_mono (pe.run _ s4 σ3 H4 _ I4 q4) (fun v s5 ⟨yv, H5, I5, r5, hlt, hyx, nx⟩ => ?_) fun e s' hx => exc n s₀ e s' hx
        obtain ⟨n, rfl⟩ : ∃ n', n = n' + 1 := ⟨n - 1, by omega⟩
        have G5 : GIc Xg S C (pinsAt fp s2.heap) ys σ3 H5 s5 := ⟨oS, cS, I5⟩
        refine seg_at (seg_yield rfl rfl rfl (hy n s₀ ys (pinsAt fp s2.heap) σ3 H5 yv v s5 _ (by omega) npS r5 G5 hyx fun s' z => ?_))
        exact again (by rw [List.length_append, List.length_singleton]; omega) (G5.woken hpn npS hAp z) nx
end GX
end
section
set_option Elab.async false
set_option linter.all false
set_option maxRecDepth 100000
set_option maxHeartbeats 2000000
namespace GX
open PySem PySem.Spec PyProof.Rows L2 GenW

/-- the names of a generator expression's frame: its own (with their places in N), or captured -/
structure GenOk (N : List Str) (sc scope : Scope) (own : List (Str × Nat)) : Prop where
  blk : BlkOk N sc scope own
  co : scope.isCoroutine = false
  cell : ∀ y ∈ scope.names, y.2 ≠ .cell
  dot : scope.names.lookup (".0" : Str) = some NameKind.local
def genOkB (N : List Str) (sc scope : Scope) (own : List (Str × Nat)) : Bool :=
  decide (scope.kind = .function) && (scope.names.all fun y => decide (scope.names.lookup y.1 = some y.2)) && (own.all fun p => decide (N[p.2]? = some p.1)) &&
    (scope.names.all fun y => !decide (y.2 = .free) || (decide (sc.names.lookup y.1 = some .cell) || decide (sc.names.lookup y.1 = some .free))) &&
    (scope.names.all fun y => !(decide (y.2 = .local) || decide (y.2 = .cell)) || (decide (y.1 ∈ own.map (·.1)) || decide (y.1 ∉ N))) &&
    (!scope.isCoroutine && (scope.names.all fun y => !decide (y.2 = .cell)) && decide (scope.names.lookup (".0" : Str) = some NameKind.local))
theorem genOk_by {N : List Str} {sc scope : Scope} {own : List (Str × Nat)} (h : genOkB N sc scope own = true) : GenOk N sc scope own := by
  unfold genOkB at h
  simp only [Bool.and_eq_true, Bool.or_eq_true, Bool.not_eq_true', decide_eq_true_eq, decide_eq_false_iff_not, List.all_eq_true] at h
  obtain ⟨⟨⟨⟨⟨h1, h2⟩, h3⟩, h4⟩, h5⟩, ⟨h6, h7⟩, h8⟩ := h
  refine ⟨⟨h1, h2, h3, fun y hy e => ?_, fun y hy e => ?_⟩, h6, fun y hy e => ?_, h8⟩
  · rcases h4 y hy with z | z
    · exact absurd e z
    · exact z
  · rcases h5 y hy with z | z
    · have q : (decide (y.2 = .local) || decide (y.2 = .cell)) = true := by
        rcases e with e | e
        · rw [e]; rfl
        · rw [e]; rfl
      rw [q] at z
      cases z
    · exact z
  · exact h7 y hy e

/-- the frame is made: the generator's context begins -/
theorem inv_startGx {X : Cx} {pins : List (Addr × Obj)} {σ : L2.St} {H1 H2 : Hp} {s1 s2 : Shared} {A : Around} {E : XK} {scope : Scope} {own : List (Str × Nat)} {L : Addr} {code : Value} {bi : Addr} {m : Str → Option Value}
    (I : Inv X pins σ H1 s1) (ok : GenOk X.N X.env.scope scope own) (hN : X.N.Nodup) (hbi : bi = builtinsNs) (hd : A.handled = none) (hfr : A.frames = some X.stack) (hL : s1.heap.objs.size ≤ L) (hns : s2.heap.Ns L m)
    (un : Un (frs X.stack) [] H1 H2 s1.heap s2.heap) (hok : HOk X.prog X.w H2 s2.heap) (hos : s2.os = s1.os) (hb : AllBare s2.gens) (hHL : H2 L = none) :
    Inv (gCx X A s1 H1 E scope L code bi []) [] (wipe σ (own.map (·.2))) H2 s2 := by
  have hfree : ∀ y ∈ scope.names, y.2 = .free → ∃ c, X.env.cells.lookup y.1 = some c := fun y hy e => by
    rcases ok.blk.free y hy e with k | k
    · exact I.ok.has _ (.inl k)
    · exact I.ok.has _ (.inr k)
  have cm : ∀ {y c}, (cloFrom X.env.cells scope.names []).lookup y = some c → X.env.cells.lookup y = some c := fun {y c} e => by
    rcases cloFrom_mem (PySem.mem_of_lookup e) with hm | ⟨h1, h2⟩
    · cases hm
    · obtain ⟨c1, hc⟩ := hfree _ h1 rfl
      have hc : X.env.cells.lookup y = some c1 := hc
      have e2 : c = c1 := by
        rw [h2, hc] <;> rfl
      rw [e2]
      exact hc
  have look : ∀ {y}, scope.names.lookup y = some .free → ∃ c, (cloFrom X.env.cells scope.names []).lookup y = some c := fun {y} hl => by
    have hy : (y, NameKind.free) ∈ scope.names := PySem.mem_of_lookup hl
    exact mem_lookup (cloFrom_has (cells := X.env.cells) (acc := []) hy)
  have cellLt : ∀ {y c}, X.env.cells.lookup y = some c → c < s1.heap.objs.size := fun {y c} e => by
    obtain ⟨v, z⟩ := I.cell y c e
    exact z.lt
  have cellK : ∀ {c : Addr} {v : Option Value}, H1 c = none → s1.heap.IsCell c v → s2.heap.IsCell c v := fun {c v} n ⟨o, ho, hd⟩ => by
    obtain ⟨sl, q⟩ := un.any ho n (by simp)
    exact ⟨_, q, hd⟩
  have noA : ∀ b : Addr, b ∉ (gCx X A s1 H1 E scope L code bi []).ex := fun b z => absurd (show b ∈ ([] : List Addr) from z) (by simp)
  refine ⟨⟨I.ok.mod, ok.blk.kind, I.ok.glob, hbi, hL, fun y z c e1 e2 => I.ok.inj y z c (cm e1) (cm e2), fun y hy => ?_, fun y c z _ => ?_, fun _ => hd, Around.frames_deeper hfr, .inr ⟨rfl, rfl⟩, fun b z => absurd z (noA b), I.bs, Nat.le_trans I.ok.bsz I.sz, fun b _ _ => noA b,
      fun b z => absurd z (noA b), I.stack, I.stkFree⟩,
    hos, hb, un, ⟨m, hns, fun i y v e1 e2 e3 => ?_⟩, fun y c e => ?_, hHL, fun y c e => ?_, fun q hq => absurd (show q ∈ ([] : List (Addr × Obj)) ++ [] from hq) (by simp), hok, by rw [wipe_length]; exact I.len⟩
  · have hy : scope.names.lookup y = some .cell ∨ scope.names.lookup y = some .free := hy
    rcases hy with hy | hy
    · exact absurd rfl (ok.cell _ (PySem.mem_of_lookup hy))
    · exact look hy
  · have z : false = true := z
    cases z
  · obtain ⟨e2, hne⟩ := wipe_some e2
    have e3 : Vis scope y := e3
    have no : ∀ k, (k = NameKind.local ∨ k = .cell) → scope.names.lookup y = some k → False := fun k hk q => by
      rcases ok.blk.own _ (PySem.mem_of_lookup q) hk with e' | e'
      · obtain ⟨p, hp, hpy⟩ := List.mem_map.mp e'
        have e3 := ok.blk.ix p hp
        have : p.1 = y := hpy
        rw [this] at e3
        exact hne (List.mem_map.mpr ⟨p, hp, nodup_ix hN e3 e1⟩)
      · exact e' (List.mem_of_getElem? e1)
    rcases e3 with k | k | k
    · exact (no _ (.inl rfl) k).elim
    · exact (no _ (.inr rfl) k).elim
    · obtain ⟨m, hn, hl⟩ := I.loc
      have hvis : Vis X.env.scope y := (ok.blk.free _ (PySem.mem_of_lookup k) rfl).elim (fun k => .inr (.inl k)) (fun k => .inr (.inr k))
      obtain ⟨w', r, q⟩ := hl i y v e1 e2 hvis
      obtain ⟨c2, h2⟩ := look k
      refine ⟨w', r, .inr ⟨.inr k, c2, h2, ?_⟩⟩
      have c1 := cm h2
      rcases q with ⟨k', _⟩ | ⟨_, c3, e', z⟩
      · have k' : X.env.scope.names.lookup y = some .local := k'
        rcases ok.blk.free _ (PySem.mem_of_lookup k) rfl with k2 | k2 <;> rw [show X.env.scope.names.lookup y = _ from k2] at k' <;> cases k'
      · rw [c1] at e'
        cases e'
        exact cellK (I.freeC y _ c1) z
  · obtain ⟨w', z⟩ := I.cell y c (cm e)
    exact ⟨w', cellK (I.freeC y c (cm e)) z⟩
  · obtain ⟨v, o, ho, hd⟩ := I.cell y c (cm e)
    exact un.free c o ho (I.freeC y c (cm e)) (by simp)

/-- a walked thing whose iterator is new: H1 is what was held when it had been reckoned -/
structure PIf (X : Cx) (tg iter : Expr) (wi : TI) : Prop where
  run : ∀ (pins : List (Addr × Obj)) (s : Shared) (σ : L2.St) (H : Hp) (R : It → Hp → Prop), Inv X pins σ H s → wi σ H R →
    wpAny (model X.prog X.w) X.A (eval iter X.env) (fun v s1 => ∃ J H1, Inv X pins σ H1 s1 ∧ R J H1 ∧ wpAny (model X.prog X.w) X.A (pyIter v) (fun itv s2 =>
      ∃ (it : Addr) (fp : List Addr) (tn : Nat → Heap → Prop), itv = .ref it ∧ Inv X pins σ H1 s2 ∧ s2.gens = s1.gens ∧ (∀ b o, s1.heap.get? b = some o → s2.heap.get? b = some o) ∧ Turn X.prog X.w X.K tg J fp it tn ∧ tn 0 s2.heap ∧
        (∀ b ∈ fp, s1.heap.objs.size ≤ b)) X.xe s1) X.xe s
section
variable {X : Cx} {tg : Expr}
theorem pif_list {l : Expr} {tl : TE} (hl : PE X l tl) : PIf X tg l (iList X.K tl) := by
  refine ⟨fun pins s σ H R I h => ?_⟩
  refine thn (hl.run pins s σ H _ I h) fun v s1 ⟨x, H1, I1, r1, q1⟩ => ?_
  obtain ⟨a, e, ⟨xs, hq⟩, q⟩ := q1
  subst e
  cases r1
  obtain ⟨its, rv, p, hz⟩ := I1.list hq
  refine ⟨_, H1, I1, q, wpAny_pyIter_list p.isList ?_⟩
  refine ⟨s1.heap.objs.size, [s1.heap.objs.size], _, rfl, I1.kept (t' := s1.toks) fun b o e => Heap.get?_push_of_some _ e, rfl, fun b o e => Heap.get?_push_of_some _ e, turn_list a _, ⟨_, Heap.get?_push_size _ rfl, rfl, rfl⟩, fun b hb => ?_⟩
  rw [List.mem_singleton.mp hb]
  exact Nat.le_refl _
theorem pif_tup {l : Expr} {tl : TE} (hl : PE X l tl) : PIf X tg l (iTup X.K tl) := by
  refine ⟨fun pins s σ H R I h => ?_⟩
  refine thn (hl.run pins s σ H _ I h) fun v s1 ⟨x, H1, I1, r1, q1⟩ => ?_
  obtain ⟨a, e, ⟨xs, hq⟩, q⟩ := q1
  subst e
  cases r1
  obtain ⟨its, rv, p, hz⟩ := I1.tuple hq
  refine ⟨_, H1, I1, q, wpAny_pyIter_tuple (show s1.heap.IsTuple a its.toArray from p) ?_⟩
  refine ⟨s1.heap.objs.size, [s1.heap.objs.size], _, rfl, I1.kept (t' := s1.toks) fun b o e => Heap.get?_push_of_some _ e, rfl, fun b o e => Heap.get?_push_of_some _ e, turn_tuple a _, ⟨_, Heap.get?_push_size _ rfl, rfl, rfl⟩, fun b hb => ?_⟩
  rw [List.mem_singleton.mp hb]
  exact Nat.le_refl _
theorem pif_str {e : Expr} {te : TE} (he : PE X e te) : PIf X tg e (iStr te) := by
  refine ⟨fun pins s σ H R I h => ?_⟩
  refine thn (he.run pins s σ H _ I h) fun v s1 ⟨y, H1, I1, r1, x, ex, q⟩ => ?_
  subst ex
  obtain ⟨t, rfl⟩ := r1
  refine ⟨_, H1, I1, q, ?_⟩
  cases ha : x.cps.all (· < 128)
  · refine wpAny_pyIter_wide ha ⟨s1.heap.objs.size, [s1.heap.objs.size], _, rfl, I1.kept (t' := s1.toks) fun b o e => Heap.get?_push_of_some _ e, rfl, fun b o e => Heap.get?_push_of_some _ e, turn_str _ x t "str_iterator" (.inr rfl), ⟨_, Heap.get?_push_size _ rfl, rfl, rfl⟩, fun b hb => ?_⟩
    rw [List.mem_singleton.mp hb]
    exact Nat.le_refl _
  · refine wpAny_pyIter_ascii ha ⟨s1.heap.objs.size, [s1.heap.objs.size], _, rfl, I1.kept (t' := s1.toks) fun b o e => Heap.get?_push_of_some _ e, rfl, fun b o e => Heap.get?_push_of_some _ e, turn_str _ x t "str_ascii_iterator" (.inl rfl), ⟨_, Heap.get?_push_size _ rfl, rfl, rfl⟩, fun b hb => ?_⟩
    rw [List.mem_singleton.mp hb]
    exact Nat.le_refl _
theorem range_itf {pins : List (Addr × Obj)} {σ : L2.St} {H : Hp} {s : Shared} {E : Value → Shared → Prop} {lo hi : Int} {t u v : Tok} {tk : Nat} (I : Inv X pins σ H s) (h1 : -(2 ^ 62) ≤ lo) (h2 : lo < 2 ^ 62) (h3 : -(2 ^ 62) ≤ hi) (h4 : hi < 2 ^ 62) (hE : E = X.xe) {R : It → Hp → Prop}
    (q : R (Itr lo (hi - lo).toNat) H) : ∃ J H1, Inv X pins σ H1 { s with heap := s.heap.push { cls := .type "range", data := .fields #[.int lo t, .int hi u, .int 1 v] }, toks := tk } ∧ R J H1 ∧
      wpAny (model X.prog X.w) X.A (pyIter (.ref s.heap.objs.size)) (fun itv s2 => ∃ (it : Addr) (fp : List Addr) (tn : Nat → Heap → Prop), itv = .ref it ∧ Inv X pins σ H1 s2 ∧ s2.gens = s.gens ∧ (∀ b o, (s.heap.push { cls := .type "range", data := .fields #[.int lo t, .int hi u, .int 1 v] }).get? b = some o → s2.heap.get? b = some o) ∧
        Turn X.prog X.w X.K tg J fp it tn ∧ tn 0 s2.heap ∧ (∀ b ∈ fp, (s.heap.push { cls := .type "range", data := .fields #[.int lo t, .int hi u, .int 1 v] }).objs.size ≤ b)) E { s with heap := s.heap.push { cls := .type "range", data := .fields #[.int lo t, .int hi u, .int 1 v] }, toks := tk } := by
  subst hE
  have I1 : Inv X pins σ H { s with heap := s.heap.push { cls := .type "range", data := .fields #[.int lo t, .int hi u, .int 1 v] }, toks := tk } := I.kept fun b o e => Heap.get?_push_of_some _ e
  refine ⟨_, H, I1, q, wpAny_pyIter_range (IsRange.new ..) (small_one h1 h2 h3 h4) ?_⟩
  refine ⟨(s.heap.push { cls := .type "range", data := .fields #[.int lo t, .int hi u, .int 1 v] }).objs.size, [(s.heap.push { cls := .type "range", data := .fields #[.int lo t, .int hi u, .int 1 v] }).objs.size], _, rfl,
    I1.kept (t' := tk) fun b o e => Heap.get?_push_of_some _ e, rfl, fun b o e => Heap.get?_push_of_some _ e, turn_range _ lo (hi - lo).toNat, ?_, fun b hb => ?_⟩
  · have e1 : lo + ((0 : Nat) : Int) * 1 = lo := by simp
    have e2 : (((hi - lo).toNat : Nat) : Int) - ((0 : Nat) : Int) = Builtin.Range.rangeSize lo hi 1 := by rw [rangeSize_one]; split <;> omega
    show IsRangeIter _ _ (lo + ((0 : Nat) : Int) * 1) ((((hi - lo).toNat : Nat) : Int) - ((0 : Nat) : Int)) 1
    rw [e1, e2]
    exact Heap.get?_push_size _ rfl
  · rw [List.mem_singleton.mp hb]
    exact Nat.le_refl _
theorem pif_range1 {a : Expr} {ta : TA} {p pos : Pos} (hg : Gl X "range") (hm : X.mg "range" = none) (ha : PA X [a] ta) (hs : starEach [a] X.env = [(false, eval a X.env)] := by rfl) : PIf X tg (.Call (.Name "range" p) [a] [] pos) (iRng1 ta) := by
  refine ⟨fun pins s σ H R I h => ?_⟩
  refine Call_ (ld_blt I hg hm boot_range (PyProof.Rows.callWith_type1 (thn (ha.run pos pins s σ H _ I h) fun us s1 ⟨vs, H1, I1, r1, q1⟩ => ?_) hs rfl))
  obtain ⟨j, e, q1, q2, q⟩ := q1
  subst e
  cases r1 with
  | cons r rr =>
    cases rr
    obtain ⟨t, rfl⟩ := r
    exact call_range_1 (range_itf I1 (by omega) (by omega) q1 q2 rfl (by simpa using q))
end
end GX
end
section
set_option Elab.async false
set_option linter.all false
set_option maxRecDepth 100000
set_option maxHeartbeats 2000000
namespace GX
open PySem PySem.Spec PyProof.Rows L2 GenW

/-- a generator expression: what is walked, then the table may have grown, then the turns -/

def TblE (P : Addr) : HO := .ext fun h => ∃ ps : Array Value, h.get? P = some { cls := .none, data := .fields ps } ∧ TriplesOk ps.toList
theorem inv_tabE {X : Cx} {pins : List (Addr × Obj)} {σ : L2.St} {H : Hp} {s : Shared} {P : Addr} {ps : Array Value} {h' : Heap} {g' : Array GenState} {d' : Drawn} {t' : Nat} (I : Inv X pins σ H s) (hP : H P = some (TblE P)) (k : ∀ b o, b ≠ P → s.heap.get? b = some o → h'.get? b = some o)
    (hm : h'.get? P = some { cls := .none, data := .fields ps }) (ht : TriplesOk ps.toList) (hg : AllBare g') : Inv X pins σ H { s with heap := h', gens := g', drawn := d', toks := t' } := by
  have nP : ∀ b u, H b = some u → (u ≠ TblE P) → b ≠ P := fun b u e q z => by
    rw [z, hP] at e
    exact q (Option.some.inj e).symm
  have nN : ∀ b, H b = none → b ≠ P := fun b e z => by
    rw [z, hP] at e
    cases e
  refine I.step (g' := g') (d' := d') (ch := []) (fun b hb => absurd hb (by simp)) (fun b o _ _ _ e n => k b o (nN b n) e) (fun b o _ _ _ e n => ⟨o.slots, k b o (nN b n) e⟩)
    (fun b o _ e n => n) (fun b o _ e => ?_) (fun b xs e => e) (fun b o u e => e) (fun b qs e => ⟨#[], by simp [e]⟩) (fun m hn => ?_) (fun b u e => ?_) hg
  · by_cases hb : b = P
    · rw [hb]
      exact ⟨_, hm⟩
    · exact ⟨o, k b o hb e⟩
  · obtain ⟨ob, es, ep, ho, r⟩ := hn
    exact ⟨ob, es, ep, k _ ob (nN _ I.free) ho, r⟩
  · by_cases hb2 : b = P
    · rw [hb2, hP] at e
      cases e
      rw [hb2]
      exact ⟨⟨ps, hm, ht⟩, ⟨_, hm⟩, fun h1 h2 ⟨qs, a, b⟩ st => ⟨qs, st _ a, b⟩⟩
    · refine (I.hok b u e).stay (fun d v hd q => k d v ?_ q) (fun d q => q) fun d xs q => q
      rcases hd with z | z
      · rw [z]
        exact hb2
      · exact nP d _ z (fun z => by cases z)
def tGenx (P : Addr) (wi : TI) (g : TG) (tt : TT) (te : TE) (vs : List Nat) (Yx : List V → V → Hp → Prop) : L2.St → Hp → (List V → Hp → Prop) → Prop := fun σ H cont =>
  wi σ H fun J H1 => H1 P = some (TblE P) ∧ tTurns g tt te vs Yx σ J H1 cont

section
variable {X : Cx} {pins : List (Addr × Obj)} {σ : L2.St} {H : Hp} {s : Shared}
/-- eval of a generator expression -/
theorem genx_made {c P : Addr} {elt tg iter : Expr} {ifs : List Expr} {scope : Scope} {own : List (Str × Nat)} {gpos : Pos} {wi : TI} {g : TG} {tt : TT} {te : TE} {k : Nat} {Yx : List V → V → Hp → Prop} {cont : List V → Hp → Prop} {E : XK}
    (hr : Room k X.A) (hc : X.calm = true) (hN : X.N.Nodup) (TB : GxR.TabB X.base X.mg c P) (hcode : X.env.code = .ref c) (ok : GenOk X.N X.env.scope scope own) (hi : PIf X tg iter wi)
    (hg : ∀ (A : Around) (s : Shared) (H : Hp) (L : Addr) (code : Value) (bi : Addr) (pn : List (Addr × Obj)), PG (gCx X A s H E scope L code bi pn) tg g)
    (ht : ∀ (A : Around) (s : Shared) (H : Hp) (L : Addr) (code : Value) (bi : Addr) (pn : List (Addr × Obj)), Room k (A.deeper (gEnv X scope L code bi)) → PTs (gCx X A s H E scope L code bi pn) ifs tt)
    (he : ∀ (A : Around) (s : Shared) (H : Hp) (L : Addr) (code : Value) (bi : Addr) (pn : List (Addr × Obj)), Room k (A.deeper (gEnv X scope L code bi)) → PE (gCx X A s H E scope L code bi pn) elt te)
    (hs : ∀ v, genFold iter X.env v = pure v) (I : Inv X pins σ H s) (h : tGenx P wi g tt te (own.map (·.2)) Yx σ H cont) :
    wpAny (model X.prog X.w) X.A (eval (.GeneratorExp elt [⟨tg, iter, ifs, 0⟩] scope gpos) X.env) (fun u s' => ∃ H1 sc, Inv X pins σ H1 sc ∧ sc.heap.objs.size ≤ s'.heap.objs.size ∧ GMadeC X.prog X.w (k + 1) X.stack H1 sc Yx cont E u s') X.xe s := by
  have hfree : ∀ y ∈ scope.names, y.2 = .free → ∃ c, X.env.cells.lookup y.1 = some c := fun y hy e => by
    rcases ok.blk.free y hy e with k | k
    · exact I.ok.has _ (.inl k)
    · exact I.ok.has _ (.inr k)
  refine wpAny_GeneratorExp_make ok.co (closure_ok hfree) ok.cell ok.dot ok.blk.kind (by have := hr.dp; omega) ?_ hs
  refine thn (hi.run pins s σ H _ I h) fun xv s1 ⟨J, H1, I1, ⟨hP, q1⟩, hit⟩ => ?_
  refine thn hit fun itv s2 ⟨it, fp, tn, eit, I2, gen2, kp2, T, st2, f2⟩ => ?_
  subst eit
  refine ⟨I2.nolimit, ?_⟩
  obtain ⟨⟨ps, hPs, ht3⟩, _⟩ := I1.hok P _ hP
  have hP2 : s2.heap.get? P = some { cls := .none, data := .fields ps } := kp2 P _ hPs
  have cd : PySem.W.CodeHd s2.heap c P := TB.code.keeps fun b u e => I2.bk b u e
  have sz12 : s1.heap.objs.size ≤ s2.heap.objs.size := by
    cases hz : s1.heap.objs.size with
    | zero => exact Nat.zero_le _
    | succ n =>
      have hlt : P < s1.heap.objs.size := Heap.lt_size hPs
      by_cases hle : s1.heap.objs.size ≤ s2.heap.objs.size
      · rw [hz] at hle; exact hle
      · obtain ⟨o, e, _⟩ := T.obj _ _ st2 it T.mem
        have h1 := Heap.lt_size e
        have h2 := f2 it T.mem
        exact absurd (Nat.lt_of_le_of_lt h2 h1) (by omega)
  have cont' : ∀ (code : Value) (h3 : Heap) (tk : Nat) (ps' : Array Value), Heap.ExtBut P s2.heap h3 → s2.heap.objs.size ≤ h3.objs.size → h3.get? P = some { cls := .none, data := .fields ps' } → (∃ more, ps' = ps ++ more) → TriplesOk ps'.toList →
      wpAny (model X.prog X.w) X.A (builtinsFor X.env.globals X.env.builtins) (fun bi s₄ =>
        ∀ h', h'.Ns s₄.heap.objs.size (fun y => if y = ".0" then some (Value.ref it) else none) → Heap.SameBut s₄.heap.objs.size (s₄.heap.push { cls := .type "frame", data := .dict #[] }) h' →
          ∃ H1' sc, Inv X pins σ H1' sc ∧ sc.heap.objs.size ≤ (h'.push { cls := .type "generator", data := .fields #[.int s₄.gens.size 0, .str "<genexpr>" (s₄.toks + 1), .str (X.env.qual ++ "<genexpr>") (s₄.toks + 1 + 1)] }).objs.size ∧
            GMadeC X.prog X.w (k + 1) X.stack H1' sc Yx cont E (.ref h'.objs.size) { s₄ with
              gens := s₄.gens.push (.fresh (.compStart (.GeneratorExp elt [⟨tg, iter, ifs, 0⟩] scope gpos) 0 (.ref it) .none (gEnv X scope s₄.heap.objs.size code bi))),
              toks := s₄.toks + 1 + 1 + 1,
              heap := h'.push { cls := .type "generator", data := .fields #[.int s₄.gens.size 0, .str "<genexpr>" (s₄.toks + 1), .str (X.env.qual ++ "<genexpr>") (s₄.toks + 1 + 1)] } }) X.xe { s2 with heap := h3, toks := tk } := by
    intro code h3 tk ps' hx hsz hP3 hmore htr
    obtain ⟨bm, ob, e1, e2, e3, e4, e5, e6, e7, e8⟩ := TB.bm
    have hcP : cStatics ≠ P := fun e => by
      obtain ⟨_, hns, _⟩ := I1.nolimit
      obtain ⟨o', es, ep, ho, hd, _⟩ := hns
      rw [e, hPs] at ho
      cases ho
      cases hd
    have keep3 : ∀ b u, b ≠ P → s1.heap.get? b = some u → h3.get? b = some u := fun b u hb e => hx b u hb (kp2 b u e)
    refine wpAny_builtinsFor (m := X.mg) (by rw [I1.ok.glob]; exact (I2.mod.glob.keeps I2.bk).extBut hx TB.gP) e1 e2 (keep3 _ _ e4 (I1.bk _ _ e5)) e6 e7 e8 ?_
    intro h' hn' hs'
    -- the state behind: s5
    have szL : h'.objs.size = h3.objs.size + 1 := by rw [hs'.1]; exact Heap.size_push ..
    obtain ⟨more, em⟩ := hmore
    generalize hgo : ({ cls := .type "generator", data := .fields #[.int s2.gens.size 0, .str "<genexpr>" (tk + 1), .str (X.env.qual ++ "<genexpr>") (tk + 1 + 1)] } : Obj) = go
    have goC : go.cls = .type "generator" := by rw [← hgo]
    have goD : go.data = .fields #[.int s2.gens.size 0, .str "<genexpr>" (tk + 1), .str (X.env.qual ++ "<genexpr>") (tk + 1 + 1)] := by rw [← hgo]
    have goS : go.slots = #[] := by rw [← hgo]
    have goN : NoCell go := fun v z => by rw [goD] at z; cases z
    have goP : (h'.push go).get? h'.objs.size = some go := by rw [← hgo]; exact Heap.get?_push_size _ rfl
    have keep5 : ∀ b u, b ≠ P → s1.heap.get? b = some u → (h'.push go).get? b = some u := fun b u hb e =>
      Heap.get?_push_of_some _ (hs'.extBut b u (fun z => by
        have h1 := Heap.lt_size e
        rw [z] at h1
        have h2 : h3.objs.size < s1.heap.objs.size := h1
        omega) (Heap.get?_push_of_some _ (keep3 b u hb e)))
    have keep5' : ∀ b u, b ≠ P → s2.heap.get? b = some u → (h'.push go).get? b = some u := fun b u hb e =>
      Heap.get?_push_of_some _ (hs'.extBut b u (fun z => by
        have h1 := Heap.lt_size e
        rw [z] at h1
        have h2 : h3.objs.size < s2.heap.objs.size := h1
        omega) (Heap.get?_push_of_some _ (hx b u hb e)))
    have hP5 : (h'.push go).get? P = some { cls := .none, data := .fields ps' } :=
      Heap.get?_push_of_some _ (hs'.extBut P _ (fun z => by
        have h1 := Heap.lt_size hP3
        rw [z] at h1
        exact Nat.lt_irrefl _ h1) (Heap.get?_push_of_some _ hP3))
    have J5 := inv_tabE (h' := h'.push go) (g' := s2.gens.push (.fresh (.compStart (.GeneratorExp elt [⟨tg, iter, ifs, 0⟩] scope gpos) 0 (.ref it) .none (gEnv X scope h3.objs.size code builtinsNs)))) (d' := s2.drawn) (t' := tk + 1 + 1 + 1) I1 hP keep5
      hP5 htr (AllBare.push (by rw [gen2]; exact I1.bare) rfl)
    refine ⟨H1, s1, I1, by show s1.heap.objs.size ≤ (h'.push go).objs.size; rw [Heap.size_push]; omega, h'.objs.size, s2.gens.size, _, go, rfl, by omega, by show h'.objs.size < (h'.push go).objs.size; rw [Heap.size_push]; exact Nat.lt_succ_self _, goP, goN, ⟨go, _, _, goP, goC, goD, goS⟩, Array.getElem?_push_size .., I2.os.trans I1.os.symm, J5.bare, J5.nolimit, ?_⟩
    intro C Aw S s2w hrw hfr hS hk2 hSo hos hba
    have lt1L : s1.heap.objs.size ≤ h3.objs.size := Nat.le_trans sz12 hsz
    have nN1 : ∀ b, H1 b = none → b ≠ P := fun b e z => by
      rw [z, hP] at e
      cases e
    have hPlt : P < s1.heap.objs.size := Heap.lt_size hPs
    have kp1 : ∀ b u, b ≠ P → s1.heap.get? b = some u → s2w.heap.get? b = some u := fun b u hb e => hk2 b u (keep5 b u hb e)
    have hPw : s2w.heap.get? P = some { cls := .none, data := .fields ps' } := hk2 _ _ hP5
    have un : Un (frs X.stack) [] H1 H1 s1.heap s2w.heap := {
      keep := fun b o q n _ _ => kp1 b o (nN1 b n) q
      slot := fun b o q n _ _ => ⟨o.slots, kp1 b o (nN1 b n) q⟩
      free := fun b o q n _ => n
      there := fun b o q _ => by
        by_cases hb : b = P
        · exact ⟨_, by rw [hb]; exact hPw⟩
        · exact ⟨o, kp1 b o hb q⟩
      tups := fun b xs q => q
      frzs := fun b o v q => q
      tbls := fun b qs q => ⟨#[], by simp [q]⟩ }
    have hLn : H1 h3.objs.size = none := I1.hok.fresh lt1L
    have hnsw : s2w.heap.Ns h3.objs.size (fun y => if y = ".0" then some (Value.ref it) else none) :=
      (show (h'.push go).Ns h3.objs.size _ from Heap.Ns.push (show h'.Ns h3.objs.size _ from hn') go).keeps hk2
    have Ig : Inv (gCx X Aw s1 H1 E scope h3.objs.size code builtinsNs []) [] (wipe σ (own.map (·.2))) H1 s2w :=
      inv_startGx (m := fun y => if y = ".0" then some (Value.ref it) else none) I1 ok hN rfl hrw.hd hfr lt1L hnsw un (J5.hok.kept hk2) hos hba hLn
    -- what is younger
    have young : ∀ b, s1.heap.objs.size ≤ b → b ≠ h3.objs.size → H1 b = none ∧ b ≠ h3.objs.size ∧ b ∉ frs X.stack ∧ s1.heap.objs.size ≤ b ∧ ∀ y c, (cloFrom X.env.cells scope.names []).lookup y = some c → c ≠ b := fun b hb hbL => by
      refine ⟨?_, hbL, fun hm => ?_, hb, fun y c e z => ?_⟩
      · exact I1.hok.fresh hb
      · rcases List.mem_cons.mp (I1.stkSub b hm) with z | z
        · have := I1.lt
          rw [z] at hb
          exact absurd (Nat.lt_of_lt_of_le this hb) (Nat.lt_irrefl _)
        · exact I1.nofs hb z
      · obtain ⟨v, q⟩ := Ig.cell y c e
        have hc : X.env.cells.lookup y = some c := by
          rcases cloFrom_mem (PySem.mem_of_lookup e) with hm | ⟨h1, h2⟩
          · cases hm
          · obtain ⟨c1, hc⟩ := hfree _ h1 rfl
            have hc : X.env.cells.lookup y = some c1 := hc
            have e2 : c = c1 := by
              rw [h2, hc] <;> rfl
            rw [e2]
            exact hc
        obtain ⟨v, q⟩ := I1.cell y c hc
        have := q.lt
        rw [z] at this
        exact absurd (Nat.lt_of_lt_of_le this hb) (Nat.lt_irrefl _)
    have szgo : (h'.push go).objs.size = h3.objs.size + 2 := by rw [Heap.size_push, szL]
    have ha1 : s1.heap.objs.size ≤ h'.objs.size ∧ h'.objs.size ≠ h3.objs.size := ⟨by omega, by omega⟩
    have hS1 : ∀ b, S = some b → s1.heap.objs.size ≤ b ∧ b ≠ h3.objs.size ∧ b ≠ h'.objs.size := fun b e => by
      have z : (h'.push go).objs.size ≤ b := hS b e
      refine ⟨by omega, Nat.ne_of_gt (by omega), Nat.ne_of_gt (by omega)⟩
    have hea : s2w.heap.get? h'.objs.size = some go := hk2 _ _ goP
    obtain ⟨oS, cS0, hoS⟩ := hSo
    have Ip : Inv (gCx X Aw s1 H1 E scope h3.objs.size code builtinsNs [(h'.objs.size, go)]) (pinsS S oS ++ []) (wipe σ (own.map (·.2))) H1 s2w := by
      have Iok := Ig.ok
      refine ⟨⟨Iok.mod, Iok.kind, Iok.glob, Iok.blt, Iok.above, Iok.inj, Iok.has, Iok.cab, Iok.hd, Iok.frames, Iok.stk, Iok.exf, Iok.bs, Iok.bsz, Iok.noex, Iok.exfs, Iok.funs, Iok.frf⟩, Ig.os, Ig.bare, Ig.base, Ig.loc, Ig.cell, Ig.free, Ig.freeC, fun p hp => ?_, Ig.hok, Ig.len⟩
      rcases List.mem_append.mp hp with z | z
      · rw [List.mem_singleton.mp z]
        obtain ⟨y1, y2, y3, _, _⟩ := young _ ha1.1 ha1.2
        exact ⟨hea, y1, y2, y3, goN⟩
      · rw [List.append_nil] at z
        obtain ⟨e1, e2⟩ := mem_pinsS z
        obtain ⟨q1, q2, q3⟩ := hS1 _ e1
        obtain ⟨y1, y2, y3, _, _⟩ := young _ q1 q2
        obtain ⟨g1, g2⟩ := hoS _ e1
        rw [e2]
        exact ⟨g1, y1, y2, y3, g2⟩
    have hGI : GIc (gCx X Aw s1 H1 E scope h3.objs.size code builtinsNs [(h'.objs.size, go)]) S C [] [] (wipe σ (own.map (·.2))) H1 s2w := ⟨oS, cS0, Ip⟩
    have isgen : ∀ h : Heap, h.get? h'.objs.size = some go → h.IsGen h'.objs.size s2.gens.size := fun h e => ⟨go, _, _, e, goC, goD, goS⟩
    have pinned : ∀ {pins' : List (Addr × Obj)} {s' : Shared} {σ' : L2.St} {H' : Hp}, Inv (gCx X Aw s1 H1 E scope h3.objs.size code builtinsNs [(h'.objs.size, go)]) pins' σ' H' s' → s'.heap.IsGen h'.objs.size s2.gens.size := fun {pins' s' σ' H'} J =>
      isgen _ (J.pin (h'.objs.size, go) (List.mem_append_left _ (List.mem_singleton.mpr rfl))).1
    have hfpL : ∀ b ∈ fp, s1.heap.objs.size ≤ b ∧ b ≠ h3.objs.size ∧ b ≠ h'.objs.size ∧ b < s2.heap.objs.size := fun b hb => by
      obtain ⟨o, e, _⟩ := T.obj _ _ st2 b hb
      have h1 : (b : Nat) < s2.heap.objs.size := Heap.lt_size e
      have h2 : s1.heap.objs.size ≤ (b : Nat) := f2 b hb
      refine ⟨h2, Nat.ne_of_lt (Nat.lt_of_lt_of_le h1 hsz), Nat.ne_of_lt (Nat.lt_of_lt_of_le h1 (show s2.heap.objs.size ≤ h'.objs.size by omega)), h1⟩
    have stw : tn 0 s2w.heap := T.keep _ _ _ st2 fun b hb o e => hk2 b o (keep5' b o (Nat.ne_of_gt (Nat.lt_of_lt_of_le hPlt (f2 b hb))) e)
    obtain ⟨W, ⟨m0, w0⟩, turn⟩ := q1
    have hr1 : Room k (Aw.deeper (gEnv X scope h3.objs.size code builtinsNs)) := hrw.deeper _
    have loop := seg_turns (Xg := gCx X Aw s1 H1 E scope h3.objs.size code builtinsNs [(h'.objs.size, go)]) (A := Aw) (R := RC X.prog X.w X.stack H1 s1 S h'.objs.size s2.gens.size C cont E) (Y := YC X.prog X.w X.stack H1 s1 S h'.objs.size s2.gens.size C Yx) (S := S) (C := C) (Yx := Yx)
      (elt := elt) (tg := tg) (iter := iter) (ifs := ifs) (scope := scope) (pos := gpos) (it := it) (fp := fp) (tn := tn) (J := J) (cont := cont) (W := W) (σ := σ) (vs := own.map (·.2))
      rfl rfl ok.co (fun p hp e => by
        rw [List.mem_singleton.mp hp] at e
        exact (hS1 _ e).2.2 rfl) (fun a e => by
        obtain ⟨q1, q2, q3⟩ := hS1 _ e
        obtain ⟨y1, y2, y3, y4, y5⟩ := young _ q1 q2
        exact ⟨y4, y2, y5⟩) (fun b hb e => by
        have z : (h'.push go).objs.size ≤ b := hS b e
        have h9 := (hfpL b hb).2.2.2
        exact absurd (Nat.lt_of_lt_of_le h9 (Nat.le_trans (show s2.heap.objs.size ≤ (h'.push go).objs.size by omega) z)) (Nat.lt_irrefl _)) (fun b hb => by
        obtain ⟨q1, q2, q3, q4⟩ := hfpL b hb
        obtain ⟨y1, y2, y3, y4, y5⟩ := young _ q1 q2
        exact ⟨y2, y3, y4, y5, fun p hp => by
          rw [List.mem_singleton.mp hp]
          exact Ne.symm q3⟩) T (hg _ _ _ _ _ _ _) (ht _ _ _ _ _ _ _ hr1) (he _ _ _ _ _ _ _ hr1) turn
      (fun n s₀ ys H' s' hn hI hc => by
        obtain ⟨a1, oS', c', eS'⟩ := hI.at_
        obtain ⟨_, _, J'⟩ := hI
        exact .inl ⟨.inr rfl, ys, H', J'.os, J'.bare, J'.base, J'.hok, fun b e => (a1 b e).1, ⟨oS', c', eS'⟩, by omega, hc⟩)
      (fun n s₀ e s' hx => wpAny_mono (show wpAny (model X.prog X.w) (Aw.deeper (gEnv X scope h3.objs.size code builtinsNs)) (leaving (gEnv X scope h3.objs.size code builtinsNs) e)
        (fun _ s'' => CX X.prog X.w X.stack H1 s1 E e s'' ∧ ∀ p ∈ [(h'.objs.size, go)], s''.heap.get? p.1 = some p.2) (fun _ _ => False) s' from hx) (fun _ s'' q => .inr ⟨e, rfl, q.1, isgen _ (q.2 (h'.objs.size, go) (List.mem_singleton.mpr rfl))⟩) fun _ _ q => q)
      (fun n s₀ ys ip σ2 H' x v s' kap hn hip rv hI hyx hk => by
        obtain ⟨a1, oS', c', eS'⟩ := hI.at_
        obtain ⟨_, _, J'⟩ := hI
        exact ⟨ys, x, H', hn, rv, J'.os, J'.bare, J'.nolimit, pinned J', J'.base, J'.hok, fun b e => (a1 b e).1, ⟨oS', c', eS'⟩, hyx, hk⟩)
      m0 0 sizeLine [] s2w s2w _ (Nat.add_zero _) w0 hGI stw (fun b hb => by
        exact I1.hok.fresh (f2 b hb))
    show Seg _ Aw _ _ _ s2w _ ((compStart (.GeneratorExp elt [⟨tg, iter, ifs, 0⟩] scope gpos) 0 (.ref it) .none (gEnv X scope h3.objs.size code builtinsNs)).onRaise (leaving (gEnv X scope h3.objs.size code builtinsNs))) [] s2w
    unfold compStart
    rw [Sem.onRaise_eq_wrap]
    show Seg _ Aw _ _ _ s2w _ ((ask >>= _).wrap _ _ _ _) [] s2w
    refine seg_bind_wrap (wpAny_askSetting ?_)
    split
    · exact seg_again rfl loop
    · first
        | exact seg_bind_wrap (wpAny_rule (seg_bind_wrap (wpAny_standAt (seg_bind_wrap (T.self _ 0 s2w _ _ stw (seg_again rfl loop))))))
        | (refine seg_bind_wrap (wpAny_rule ?_); show Seg _ Aw _ _ _ s2w _ ((standAt iter.pos >>= _).wrap _ _ _ _) [] s2w; exact seg_bind_wrap (wpAny_standAt (seg_bind_wrap (T.self _ 0 s2w _ _ stw (seg_again rfl loop)))))
  cases hf : codeAmong gpos ps.toList with
  | none =>
    refine wpAny_genexprCodeX hcode (cd.code hP2 ht3) (cd.tab hP2) hf fun c' h' tk hx hge hlt hco' _ htab' _ => ?_
    obtain ⟨o1, vs, f1, tf, fl, tg, inF, tx, tt, op, _, _, _, _, _, _, _, _, _, htr, _⟩ := hco'
    exact cont' _ h' tk _ hx (Nat.le_trans hge (Nat.le_of_lt hlt)) htab'.2 ⟨_, rfl⟩ htr
  | some cv =>
    refine wpAny_genexprCode_hit hcode (cd.code hP2 ht3) hf ?_
    exact cont' cv s2.heap s2.toks ps (Heap.ExtBut.refl _ _) (Nat.le_refl _) hP2 ⟨#[], by simp⟩ ht3
end
end GX
end
section
set_option Elab.async false
set_option linter.all false
set_option maxRecDepth 100000
set_option maxHeartbeats 2000000
namespace GX
open PySem PySem.Spec PyProof.Rows L2 GenW

/-! ### the consumer with a list -/
def CL : List V → Obj → Prop := fun ys o => ∃ (acc : Array Value) (c : Nat), o = lstObj acc c ∧ Vals ys acc.toList
theorem lst_nocell {acc : Array Value} {c : Nat} : NoCell (lstObj acc c) := fun v q => by cases q
theorem slept_push {S : Addr} {s : Shared} {acc : Array Value} {c : Nat} {G : Array GenState} {ys : List V} {x : V} {v : Value} (hS : s.heap.get? S = some (lstObj acc c)) (hG : AllBare G) (rr : Vals ys acc.toList) (rv : RelV x v) :
    SleptC (some S) CL (ys ++ [x]) s { s with gens := G, heap := s.heap.update S (Obj.mapSeq (·.push v)) } where
  os := rfl
  bare := hG
  keep := fun b o hb e => (Heap.get?_update_other _ _ (fun z => hb (by rw [z]))).trans e
  own := ⟨Obj.mapSeq (·.push v) (lstObj acc c), ⟨acc.push v, _, rfl, by rw [Array.toList_push]; exact rr.append (.cons rv .nil)⟩, fun b hb => by
    cases hb
    exact ⟨Heap.get?_update_self _ hS rfl, fun v q => by cases q⟩⟩
theorem drainL {P : Program} {w : World} {outer : List Env} {H : Hp} {sc : Shared} {Q : List V → Hp → Prop} {EX : XK} {Yx : List V → V → Hp → Prop} {A : Around} {R : Result → Shared → Prop} {S a : Addr} {g : Nat} {res : Value}
    (hh : A.handled = none) (hd : A.depth < recursionLimit) (hSa : S ≠ a) (hSc : S ≠ cStatics)
    (hend : ∀ s' acc c H' ys, s'.heap.get? S = some (lstObj acc c) → Vals ys acc.toList → ys.length ≤ sizeLine → s'.os = sc.os → AllBare s'.gens → Un (frs outer) [] H H' sc.heap s'.heap → HOk P w H' s'.heap → H' S = none → Q ys H' → R (.ok (.ret res)) s')
    (hexc : ∀ e s', CX P w outer H sc EX e s' → NotStop (model P w) e s'.heap ∧ R (.error e) (s'.setGen g .finished)) :
    ∀ (m : Nat) (s : Shared), s.heap.IsGen a g → s.heap.NoLimit →
      (∃ gs, s.gens[g]? = some gs ∧ gs.Goes (model P w) A.in1.in1 (RC P w outer H sc (some S) a g CL Q EX) (YC P w outer H sc (some S) a g CL Yx) m (.send .none) (s.setGen g .running)) →
      codeAny (model P w) A (.builtin "list.extend.loop" ⟨[.ref S, .ref a, res], []⟩) R s := by
  have goes : ∀ {gs : GenState} {B : Around} {n : Nat} {r : Resume} {s : Shared}, gs.Goes (model P w) B (RC P w outer H sc (some S) a g CL Q EX) (YC P w outer H sc (some S) a g CL Yx) n r s →
      gs.Goes (model P w) B (fun n s₀ r s1 => ((r = .ok (.ret .none) ∨ r = .ok .next) ∧ (∃ (ys : List V) (H' : Hp), s1.os = sc.os ∧ AllBare s1.gens ∧ Un (frs outer) [] H H' sc.heap s1.heap ∧ HOk P w H' s1.heap ∧ (∀ b, some S = some b → H' b = none) ∧ (∃ oS, CL ys oS ∧ ∀ b, some S = some b → s1.heap.get? b = some oS ∧ NoCell oS) ∧ ys.length ≤ sizeLine ∧ Q ys H')) ∨
        ∃ e, r = .error e ∧ (CX P w outer H sc EX e s1 ∧ s1.heap.IsGen a g)) (YC P w outer H sc (some S) a g CL Yx) n r s := fun h => h
  intro m
  induction m with
  | zero =>
    intro s hg hl ⟨gs, hgs, hgo⟩
    refine codeAny_builtin F.entry_extend_loop ?_
    rw [Around.under_plainId F.plain_extend_loop _]
    show wpAny _ A.in1 (pyNext (.ref a) >>= _) _ _ s
    refine wpAny_bind (next_genG (A := A.in1) hh hl hd hg hgs (goes hgo) (fun v s₁ gs' hbare hv => ?_) (fun s₁ hp h' hk => ?_) fun e s₁ he => ?_)
    · obtain ⟨ys, x, H', hn, rv, os1, hb1, hl1, hg1, un, hok, hSn, ⟨oS, ⟨acc, c, e, rr⟩, eS⟩, hyx, hk⟩ := hv
      have hS1 := (eS S rfl).1
      rw [e] at hS1
      exact False.elim (hk _ (slept_push hS1 hb1 rr rv))
    · obtain ⟨ys, H', os1, hb1, un, hok, hSn, ⟨oS, ⟨acc, c, e, rr⟩, eS⟩, hle, hQ⟩ := hp
      have eS' := (eS S rfl).1
      rw [e] at eS'
      exact wpAny_pure (hend _ acc c H' ys (hk _ _ eS') rr hle os1 (allBare_setGen hb1 rfl) (un.trans (Un.kept hk)) (hok.kept hk) (hSn S rfl) hQ)
    · obtain ⟨hc, hg1⟩ := he
      obtain ⟨q1, q2⟩ := hexc e s₁ hc
      exact ⟨hg1, q1, q2⟩
  | succ m ih =>
    intro s hg hl ⟨gs, hgs, hgo⟩
    have hgl : g < s.gens.size := (Array.getElem?_eq_some_iff.mp hgs).1
    refine codeAny_builtin F.entry_extend_loop ?_
    rw [Around.under_plainId F.plain_extend_loop _]
    show wpAny _ A.in1 (pyNext (.ref a) >>= _) _ _ s
    refine wpAny_bind (wpAny_gsz (n := g + 1) hgl (next_genG (A := A.in1) hh hl hd hg hgs (goes hgo) (fun v s₁ gs' hbare hv => ?_) (fun s₁ hp h' hk => ?_) fun e s₁ he => ?_))
    · intro hsz
      obtain ⟨ys, x, H', hn, rv, os1, hb1, hl1, hg1, un, hok, hSn, ⟨oS, ⟨acc, c, e, rr⟩, eS⟩, hyx, hk⟩ := hv
      have hS1 := (eS S rfl).1
      rw [e] at hS1
      have hasz : acc.size = ys.length := by
        have e1 := rr.length
        have e2 : acc.toList.length = acc.size := by simp
        omega
      have hasz' : acc.size < sizeLine := by omega
      show wpAny _ A.in1 (updateSeq S (·.push v) >>= _) _ _ _
      refine wpAny_bind ?_
      refine wpAny_updateSeq hS1 rfl (wpAny_pure ⟨plainId_quiet F.plain_extend_loop _, ?_⟩) (Nat.le_of_lt hasz') (by show (acc.push v).size ≤ sizeLine + 1; rw [Array.size_push]; omega)
      have keep3 : ∀ b o, b ≠ S → s₁.heap.get? b = some o → (s₁.heap.update S (Obj.mapSeq (·.push v))).get? b = some o := fun b o hbS e => (Heap.get?_update_other _ _ (Ne.symm hbS)).trans e
      have hsz1 : g < s₁.gens.size := by
        have q : (s₁.setGen g gs').gens.size = s₁.gens.size := setGen_size _ _ _
        have hsz' : g + 1 ≤ (s₁.setGen g gs').gens.size := hsz
        omega
      refine ih { s₁.setGen g gs' with heap := s₁.heap.update S (Obj.mapSeq (·.push v)) } ?_ ?_ ⟨gs', setGen_at hsz1, ?_⟩
      · obtain ⟨o, nm, qn, ho, r⟩ := hg1
        exact ⟨o, nm, qn, keep3 a o (Ne.symm hSa) ho, r⟩
      · obtain ⟨mc, hns, hnn⟩ := hl1
        exact ⟨mc, hns.at' fun o e => keep3 _ o (Ne.symm hSc) e, hnn⟩
      · exact hk _ (slept_push hS1 (allBare_setGen (s := s₁.setGen g gs') (allBare_setGen hb1 hbare) rfl) rr rv)
    · intro hsz
      obtain ⟨ys, H', os1, hb1, un, hok, hSn, ⟨oS, ⟨acc, c, e, rr⟩, eS⟩, hle, hQ⟩ := hp
      have eS' := (eS S rfl).1
      rw [e] at eS'
      exact wpAny_pure (hend _ acc c H' ys (hk _ _ eS') rr hle os1 (allBare_setGen hb1 rfl) (un.trans (Un.kept hk)) (hok.kept hk) (hSn S rfl) hQ)
    · obtain ⟨hc, hg1⟩ := he
      obtain ⟨q1, q2⟩ := hexc e s₁ hc
      exact ⟨hg1, q1, fun _ => q2⟩
end GX
end
section
set_option Elab.async false
set_option linter.all false
set_option maxRecDepth 100000
set_option maxHeartbeats 2000000
namespace GX
open PySem PySem.Spec PyProof.Rows L2 GenW

section
variable {P : Program} {w : World} {outer : List Env} {H : Hp} {sc s : Shared} {Q : List V → Hp → Prop} {EX : XK} {Yx : List V → V → Hp → Prop} {A : Around} {k : Nat} {u : Value} {E : Value → Shared → Prop}
/-- what is behind a drained generator: its list at S -/
structure Drained (P : Program) (w : World) (outer : List Env) (H : Hp) (sc s : Shared) (Q : List V → Hp → Prop) (acc : Array Value) (s' : Shared) : Prop where
  ex : ∃ (S : Addr) (c : Nat) (H' : Hp) (ys : List V), s.heap.objs.size ≤ S ∧ s'.heap.get? S = some (lstObj acc c) ∧ Vals ys acc.toList ∧ ys.length ≤ sizeLine ∧ s'.os = sc.os ∧ AllBare s'.gens ∧ Un (frs outer) [] H H' sc.heap s'.heap ∧ HOk P w H' s'.heap ∧ H' S = none ∧ Q ys H'
theorem collect_gen {Q' : List Value → Shared → Prop} (hr : Room (k + 4) A) (hfr : A.frames = some outer) (h : GMadeC P w k outer H sc Yx Q EX u s)
    (hQ : ∀ s' acc, Drained P w outer H sc s Q acc s' → Q' acc.toList s')
    (hexc : ∀ e s' g, CX P w outer H sc EX e s' → NotStop (model P w) e s'.heap ∧ E e (s'.setGen g .finished)) :
    wpAny (model P w) A (collect u) Q' E s := by
  obtain ⟨a, g, c, go, rfl, ha1, ha2, hgo, hgoN, hg, hgs, hos, hb, hl, wake⟩ := h
  have hSa : s.heap.objs.size ≠ a := Nat.ne_of_gt ha2
  have hcl : cStatics < s.heap.objs.size := let ⟨_, hn, _⟩ := hl; hn.lt
  have hSc : s.heap.objs.size ≠ cStatics := Nat.ne_of_gt hcl
  unfold collect
  refine wpAny_bind (wpAny_runValue (codeAny_builtin F.entry_proto_collect ?_))
  rw [Around.under_plainId F.plain_proto_collect _]
  show wpAny _ A.in1 (newList [] >>= fun l => again (.builtin "list.__iadd__" ⟨[l, .ref a], []⟩)) _ _ s
  refine wpAny_bind (wpAny_newObj_type ?_)
  refine wpAny_pure ⟨plainId_quiet F.plain_list_iadd _, codeAny_builtin F.entry_list_iadd ?_⟩
  rw [Around.under_plainId F.plain_list_iadd _]
  show wpAny _ A.in1 (Builtin.List.listExtendWith (.ref s.heap.objs.size) (.ref a) (.ref s.heap.objs.size)) _ _ _
  unfold Builtin.List.listExtendWith
  have hS : (s.heap.push { cls := .type "list", data := .seq ([] : List Value).toArray }).get? s.heap.objs.size = some { cls := .type "list", data := .seq ([] : List Value).toArray } := Heap.get?_push_size _ rfl
  have up : ∀ (h : Heap) (f : Obj → Obj), (∀ b o, s.heap.get? b = some o → h.get? b = some o) → ∀ b o, s.heap.get? b = some o → (h.update s.heap.objs.size f).get? b = some o := fun h f q b o e =>
    (Heap.get?_update_other _ _ (Ne.symm (Nat.ne_of_lt (Heap.lt_size e)))).trans (q b o e)
  have k1 : ∀ b o, s.heap.get? b = some o → (s.heap.push { cls := .type "list", data := .seq ([] : List Value).toArray }).get? b = some o := fun b o e => Heap.get?_push_of_some _ e
  have gty : ∀ {h : Heap}, (∀ b o, s.heap.get? b = some o → h.get? b = some o) → h.IsGen a g := fun {h} q => hg.keeps q
  refine wpAny_bind (wpAny_typeOf (Heap.IsGen.typeIs (s := { s with heap := _ }) (gty k1)) ?_)
  have h1 : Builtin.List.listSameRef (.ref s.heap.objs.size) (.ref a) = false := by simp [Builtin.List.listSameRef, hSa]
  have h2 : (Value.type "generator" == Value.type "list") = false := by decide
  have h3 : (Value.type "generator" == Value.type "tuple") = false := by decide
  simp only [h1, h2, h3, Bool.or_false, Bool.false_eq_true, if_false]
  refine wpAny_bind (wpAny_pyIter_gen (s := { s with heap := _ }) (gty k1) ?_)
  refine wpAny_bind (wpAny_holding ?_)
  unfold Builtin.List.listLengthHint
  refine wpAny_bind (wpAny_specialOf (Heap.IsGen.typeIs (s := { s with heap := _ }) (gty k1)) F.gen_no_len ?_)
  show wpAny _ A.in1 (specialOf (Value.ref a) (Str.ofString "__length_hint__") >>= _) _ _ _
  refine wpAny_bind (wpAny_specialOf (Heap.IsGen.typeIs (s := { s with heap := _ }) (gty k1)) F.gen_no_hint ?_)
  refine wpAny_pure ?_
  show wpAny _ A.in1 (rule "list.extend.makes-room" >>= fun _ => Builtin.List.listTouch (.ref s.heap.objs.size) >>= fun _ =>
    again (.builtin "list.extend.loop" ⟨[.ref s.heap.objs.size, .ref a, .ref s.heap.objs.size], []⟩)) _ _ _
  refine wpAny_bind (wpAny_rule ?_)
  refine wpAny_bind ?_
  show wpAny _ A.in1 (updateSeq s.heap.objs.size (·.push .none) >>= fun _ => updateSeq s.heap.objs.size (·.pop)) _ _ _
  refine wpAny_bind (wpAny_updateSeq hS rfl ?_)
  have hS3 := Heap.get?_update_self (Obj.mapSeq (·.push Value.none)) hS rfl
  refine wpAny_updateSeq (hz := by seq_fits) hS3 rfl ?_
  have hS4 := Heap.get?_update_self (Obj.mapSeq (·.pop)) hS3 rfl
  have k4 := up _ (Obj.mapSeq (·.pop)) (up _ (Obj.mapSeq (·.push Value.none)) k1)
  refine wpAny_pure ⟨plainId_quiet F.plain_extend_loop _, ?_⟩
  refine drainL (P := P) (w := w) (outer := outer) (H := H) (sc := sc) (Q := Q) (EX := EX) (Yx := Yx) (A := A) (g := g) hr.hd (by have := hr.dp; omega) hSa hSc
    (fun s' acc c H' ys q1 q2 q3 q4 q5 q6 q7 q8 q9 => ?_) (fun e s' hc => hexc e s' g hc)
    sizeLine _ (gty k4) (hl.keeps k4) ⟨_, hgs, rfl, ?_⟩
  · show wpAny _ A (load s.heap.objs.size >>= _) _ _ s'
    exact wpAny_bind (wpAny_load q1 (wpAny_pure (hQ s' acc ⟨_, c, H', ys, Nat.le_refl _, q1, q2, q3, q4, q5, q6, q7, q8, q9⟩)))
  · refine wake _ _ (some s.heap.objs.size) _ ⟨hr.hd, ?_, ?_⟩ hfr (fun b hb => by cases hb; exact Nat.le_refl _) k4 ⟨_, ⟨_, _, rfl, .nil⟩, fun b hb => by cases hb; exact ⟨hS4, fun v q => by cases q⟩⟩ hos (allBare_setGen (s := { s with heap := _ }) hb rfl)
    · have := hr.dp
      show A.depth + 3 * k + 5 < _
      omega
    · have := hr.un
      show A.units + 1 + 1 + 16 * k + 200 < _
      omega
theorem code_tuple_gen {Q₁ : Value → Shared → Prop} (hr : Room (k + 5) A) (hfr : A.frames = some outer) (h : GMadeC P w k outer H sc Yx Q EX u s)
    (hQ : ∀ s' acc, Drained P w outer H sc s Q acc s' → Q₁ (.ref s'.heap.objs.size) { s' with heap := s'.heap.push { cls := .type "tuple", data := .seq acc } })
    (hexc : ∀ e s' g, CX P w outer H sc EX e s' → NotStop (model P w) e s'.heap ∧ E e (s'.setGen g .finished)) :
    codeAny (model P w) A (.call (.builtin "tuple.__new__") ⟨[.type "tuple", u], []⟩) (wants Q₁ E) s := by
  have h0 := h
  obtain ⟨a, g, c, go, rfl, ha1, ha2, hgo, hgoN, hg, hgs, hos, hb, hl, wake⟩ := h
  refine codeAny_of_tree ?_
  show wpAny _ A.in1 (do checkBuiltinCall "tuple.__new__" ⟨[.type "tuple", .ref a], []⟩; again (.builtin "tuple.__new__" ⟨[.type "tuple", .ref a], []⟩)) _ _ s
  refine wpAny_bind (wpAny_of_eq (F.newCall_tuple_1 _) (wpAny_pure ⟨plainId_quiet F.plain_tuple_new _, codeAny_builtin F.entry_tuple_new ?_⟩))
  rw [Around.under_plainId F.plain_tuple_new _]
  have hsub := sub_tuple_self
  have hinit := init_tuple_lookup
  have hmh := madeHere_tuple
  have hTI : s.TypeIs (.ref a) "generator" := hg.typeIs
  have hrA : Room (k + 4) A.in1 := ⟨hr.hd, by have := hr.dp; show A.depth + 3 * (k + 4) + 5 < _; omega, by have := hr.un; show A.units + 1 + 16 * (k + 4) + 200 < _; omega⟩
  wp_walk using wpAny_typeOf hTI, collect_gen (A := A.in1) hrA hfr h0
  · intro s' acc hd
    have hz : acc.toList.toArray.size ≤ sizeLine := by
      obtain ⟨S, c, H', ys, _, _, hv, hle, _⟩ := hd.ex
      have e := hv.length
      simp only [Array.toArray_toList]
      have e2 : acc.toList.length = acc.size := by simp
      omega
    show wpAny _ _ (Builtin.Tuple.tupleExact acc.toList.toArray >>= fun v => ret v) _ _ _
    unfold Builtin.Tuple.tupleExact
    refine wpAny_bind (wpAny_newObj_type ?_ hz)
    refine wpAny_pure ?_
    have e : acc.toList.toArray = acc := by simp
    rw [e]
    exact hQ s' acc hd
  · exact hexc
theorem call_tuple_gen {Q' : Value → Shared → Prop} (hr : Room (k + 6) A) (hfr : A.frames = some outer) (h : GMadeC P w k outer H sc Yx Q EX u s)
    (hQ : ∀ s' acc, Drained P w outer H sc s Q acc s' → Q' (.ref s'.heap.objs.size) { s' with heap := s'.heap.push { cls := .type "tuple", data := .seq acc } })
    (hexc : ∀ e s' g, CX P w outer H sc EX e s' → NotStop (model P w) e s'.heap ∧ E e (s'.setGen g .finished)) :
    wpAny (model P w) A (call (.type "tuple") [u]) Q' E s := by
  have hrA : Room (k + 5) A.in1 := ⟨hr.hd, by have := hr.dp; show A.depth + 3 * (k + 5) + 5 < _; omega, by have := hr.un; show A.units + 1 + 16 * (k + 5) + 200 < _; omega⟩
  refine callType_codes (Q₁ := fun obj s₁ => s₁.TypeIs obj "tuple" ∧ Q' obj s₁) F.called_tuple (F.typeCall_tuple_1 _) F.entry_object_init
    (code_tuple_gen (A := A.in1) hrA hfr h (fun s' acc hd => ⟨⟨_, Heap.get?_push_size _ rfl, rfl⟩, hQ s' acc hd⟩) hexc) fun obj s₁ h₁ => ?_
  exact ⟨h₁.1, F.args_object_init_2 obj _, object_init_meets F.called_tuple.init.lookup F.called_tuple.made (by decide) P w A.in1 _ s₁ ⟨h₁.1, rfl, h₁.2⟩⟩
end

/-- an exception that a call let out, in X -/
theorem kin_of_cx {X : Cx} {pins : List (Addr × Obj)} {σ : L2.St} {H : Hp} {sc s' : Shared} {E : XK} {e : Value} (I : Inv X pins σ H sc) (hc : CX X.prog X.w X.stack H sc E e s') : X.K.In s'.heap := by
  obtain ⟨a, B, H', cls, d, _, fl, _, ub, _⟩ := id hc
  refine I.ok.mod.kin.keeps fun b o eb => fl.1 b o (ub.keep b o (I.bs b o eb).1 (I.bs b o eb).2 fun hm => ?_)
  rcases List.mem_cons.mp (I.stkSub b hm) with z | z
  · have h1 := Heap.lt_size eb
    have h2 := Nat.le_trans I.ok.bsz I.ok.above
    rw [z] at h1
    exact absurd (Nat.lt_of_lt_of_le h1 h2) (Nat.lt_irrefl _)
  · exact I.ok.nofr eb z
theorem cx_setGen {P : Program} {w : World} {outer : List Env} {H : Hp} {sc s' : Shared} {E : XK} {e : Value} {g : Nat} (hc : CX P w outer H sc E e s') : CX P w outer H sc E e (s'.setGen g .finished) := by
  obtain ⟨a, B, H', cls, d, z1, fl, z2, ub, z3, z4, z5, z6⟩ := hc
  exact ⟨a, B, H', cls, d, z1, fl, z2, ub, z3, z4, allBare_setGen z5 rfl, z6⟩
section
variable {X : Cx}
theorem pe_tupG {c P : Addr} {elt tg iter : Expr} {ifs : List Expr} {scope : Scope} {own : List (Str × Nat)} {gpos p pos : Pos} {wi : TI} {g : TG} {tt : L2.St → TT} {te : L2.St → TE} {k : Nat} {E : L2.St → XK}
    (hr : Room (k + 7) X.A) (hc : X.calm = true) (hN : X.N.Nodup) (hgl : Gl X "tuple") (hm : X.mg "tuple" = none) (TB : GxR.TabB X.base X.mg c P) (hcode : X.env.code = .ref c) (ok : GenOk X.N X.env.scope scope own) (hi : PIf X tg iter wi)
    (hx : ∀ σ, PassesAt (L2.CX X.prog X.w) X σ (E σ)) (hns : ∀ σ, NoStop X.K (E σ))
    (hg : ∀ (σ : L2.St) (A : Around) (s : Shared) (H : Hp) (L : Addr) (code : Value) (bi : Addr) (pn : List (Addr × Obj)), PG (gCx X A s H (E σ) scope L code bi pn) tg g)
    (ht : ∀ (σ : L2.St) (A : Around) (s : Shared) (H : Hp) (L : Addr) (code : Value) (bi : Addr) (pn : List (Addr × Obj)), Room k (A.deeper (gEnv X scope L code bi)) → PTs (gCx X A s H (E σ) scope L code bi pn) ifs (tt σ))
    (he : ∀ (σ : L2.St) (A : Around) (s : Shared) (H : Hp) (L : Addr) (code : Value) (bi : Addr) (pn : List (Addr × Obj)), Room k (A.deeper (gEnv X scope L code bi)) → PE (gCx X A s H (E σ) scope L code bi pn) elt (te σ))
    (hs : ∀ v, genFold iter X.env v = pure v := by intro _; rfl)
    (hst : starEach [.GeneratorExp elt [⟨tg, iter, ifs, 0⟩] scope gpos] X.env = (false, eval (.GeneratorExp elt [⟨tg, iter, ifs, 0⟩] scope gpos) X.env) :: starEach [] X.env := by rfl) :
    PE X (.Call (.Name "tuple" p) [.GeneratorExp elt [⟨tg, iter, ifs, 0⟩] scope gpos] [] pos)
      (fun σ H Q => tGenx P wi g (tt σ) (te σ) (own.map (·.2)) (fun _ _ _ => True) σ H fun ys H2 => ∀ p, H2 p = none → Q (.ref p) (upd H2 p (.tup ys))) := by
  refine ⟨fun pins s σ H Q I h => ?_⟩
  refine wpAny_Call_Name_kw (ld_blt I hgl hm boot_tuple ?_)
  refine PyProof.Rows.callWith_type1 ?_ hst rfl
  rw [hst]
  show wpAny _ _ (spliced ((false, eval (.GeneratorExp elt [⟨tg, iter, ifs, 0⟩] scope gpos) X.env) :: backTo pos (starEach [] X.env))) _ _ s
  have hr0 : Room k X.A := hr.mono (by omega)
  refine Calls.spliced_cons (thn (genx_made (E := E σ) hr0 hc hN TB hcode ok hi (hg σ) (ht σ) (he σ) hs I h) fun u s1 ⟨H1, sc, I1, hsz, hG⟩ => ?_)
  refine Calls.spliced_nil ?_
  refine call_tuple_gen (k := k + 1) (by have := hr; exact this) I1.ok.frames hG (fun s' acc hd => ?_) fun e s' g hcx => ?_
  · obtain ⟨S, c', H', ys, q0, q1, q2, hl, q3, q4, q5, q6, q7, q8⟩ := hd.ex
    have J : Inv X pins σ H' s' := I1.call' (ch := []) q3 q5 q6 q4 (fun b hb => by simp at hb)
    have hz : acc.size ≤ sizeLine := by
      have e := q2.length
      have e2 : acc.toList.length = acc.size := by simp
      omega
    refine ⟨.ref s'.heap.objs.size, upd H' s'.heap.objs.size (.tup ys), ?_, rfl, q8 _ (J.hok.fresh (Nat.le_refl _))⟩
    have L := J.laid (t' := s'.toks) (a := s'.heap.objs.size) (o := .tup ys) (h' := s'.heap.push { cls := .type "tuple", data := .seq acc }) (fun b o e => Heap.get?_push_of_some _ e) (Nat.le_refl _)
      (show ObjOk X.prog X.w _ _ _ (.tup ys) from ⟨hl, acc.toList, q2, by
        have z := IsTup.new s'.heap acc
        first
          | exact z
          | simpa using z⟩)
    exact L
  · exact ⟨notStop_of (hns σ) (kin_of_cx I1 hcx) hcx, hx σ pins H1 sc e _ I1 (cx_setGen hcx)⟩
end
end GX
end
section
set_option Elab.async false
set_option linter.all false
set_option maxRecDepth 100000
set_option maxHeartbeats 2000000
namespace GX
open PySem PySem.Spec PyProof.Rows L2 GenW
/-- the consumer without a list -/
def CN : List V → Obj → Prop := fun _ _ => True
/-- a bool is handed out; where it is `stop` the consumer is done -/
def YB (stop : Bool) (QT : Hp → Prop) : List V → V → Hp → Prop := fun _ x H' => ∃ b, x = .bl b ∧ (b = stop → QT H')
section
variable {P : Program} {w : World} {outer : List Env} {H : Hp} {sc s : Shared} {EX : XK} {QT QF : Hp → Prop} {A : Around} {E : Value → Shared → Prop}
/-- what stands behind -/
structure Behind (P : Program) (w : World) (outer : List Env) (H : Hp) (sc : Shared) (Q : Hp → Prop) (s' : Shared) : Prop where
  ex : ∃ H' : Hp, s'.os = sc.os ∧ AllBare s'.gens ∧ Un (frs outer) [] H H' sc.heap s'.heap ∧ HOk P w H' s'.heap ∧ Q H'
theorem loop_any {R : Result → Shared → Prop} {a : Addr} {g : Nat} (hh : A.handled = none) (hd : A.depth < recursionLimit)
    (hT : ∀ s', Behind P w outer H sc QT s' → R (.ok (.ret (.bool true))) s') (hF : ∀ s', Behind P w outer H sc QF s' → R (.ok (.ret (.bool false))) s')
    (hexc : ∀ e s', CX P w outer H sc EX e s' → NotStop (model P w) e s'.heap ∧ R (.error e) (s'.setGen g .finished)) :
    ∀ (m : Nat) (s : Shared), s.heap.IsGen a g → s.heap.NoLimit →
      (∃ gs, s.gens[g]? = some gs ∧ gs.Goes (model P w) A.in1.in1 (RC P w outer H sc none a g CN (fun _ H' => QF H') EX) (YC P w outer H sc none a g CN (YB true QT)) m (.send .none) (s.setGen g .running)) →
      codeAny (model P w) A (.builtin "any.loop" ⟨[.ref a], []⟩) R s := by
  have goes : ∀ {gs : GenState} {B : Around} {n : Nat} {r : Resume} {s : Shared}, gs.Goes (model P w) B (RC P w outer H sc none a g CN (fun _ H' => QF H') EX) (YC P w outer H sc none a g CN (YB true QT)) n r s →
      gs.Goes (model P w) B (fun n s₀ r s1 => ((r = .ok (.ret .none) ∨ r = .ok .next) ∧ (∃ (ys : List V) (H' : Hp), s1.os = sc.os ∧ AllBare s1.gens ∧ Un (frs outer) [] H H' sc.heap s1.heap ∧ HOk P w H' s1.heap ∧ (∀ b, none = some b → H' b = none) ∧ (∃ oS, CN ys oS ∧ ∀ b, none = some b → s1.heap.get? b = some oS ∧ NoCell oS) ∧ ys.length ≤ sizeLine ∧ QF H')) ∨
        ∃ e, r = .error e ∧ (CX P w outer H sc EX e s1 ∧ s1.heap.IsGen a g)) (YC P w outer H sc none a g CN (YB true QT)) n r s := fun h => h
  intro m
  induction m with
  | zero =>
    intro s hg hl ⟨gs, hgs, hgo⟩
    refine codeAny_builtin F.entry_any_loop ?_
    rw [Around.under_plainId F.plain_any_loop _]
    show wpAny _ A.in1 (pyNext (.ref a) >>= _) _ _ s
    refine wpAny_bind (next_genG (A := A.in1) hh hl hd hg hgs (goes hgo) (fun v s₁ gs' hbare hv => ?_) (fun s₁ hp h' hk => ?_) fun e s₁ he => ?_)
    · obtain ⟨ys, x, H', hn, rv, os1, hb1, hl1, hg1, un, hok, hSn, hS, ⟨b, ex, hb⟩, hk⟩ := hv
      exact False.elim (hk s₁ ⟨rfl, hb1, fun b o _ e => e, ⟨{ cls := .none, data := .plain }, True.intro, fun b hb => by cases hb⟩⟩)
    · obtain ⟨ys, H', os1, hb1, un, hok, hSn, _, hle, hQ⟩ := hp
      exact wpAny_bind (wpAny_rule (wpAny_pure (hF _ ⟨H', os1, allBare_setGen hb1 rfl, un.trans (Un.kept hk), hok.kept hk, hQ⟩)))
    · obtain ⟨hc, hg1⟩ := he
      obtain ⟨q1, q2⟩ := hexc e s₁ hc
      exact ⟨hg1, q1, q2⟩
  | succ m ih =>
    intro s hg hl ⟨gs, hgs, hgo⟩
    have hgl : g < s.gens.size := (Array.getElem?_eq_some_iff.mp hgs).1
    refine codeAny_builtin F.entry_any_loop ?_
    rw [Around.under_plainId F.plain_any_loop _]
    show wpAny _ A.in1 (pyNext (.ref a) >>= _) _ _ s
    refine wpAny_bind (wpAny_gsz (n := g + 1) hgl (next_genG (A := A.in1) hh hl hd hg hgs (goes hgo) (fun v s₁ gs' hbare hv => ?_) (fun s₁ hp h' hk => ?_) fun e s₁ he => ?_))
    · intro hsz
      obtain ⟨ys, x, H', hn, rv, os1, hb1, hl1, hg1, un, hok, hSn, hS, ⟨b, ex, hb⟩, hk⟩ := hv
      subst ex
      obtain rfl : v = Value.bool b := rv
      have hsz1 : g < s₁.gens.size := by
        have q : (s₁.setGen g gs').gens.size = s₁.gens.size := setGen_size _ _ _
        have hsz' : g + 1 ≤ (s₁.setGen g gs').gens.size := hsz
        omega
      refine wpAny_bind (wpAny_holding (wpAny_truthy_bool ?_))
      refine wpAny_bind (wpAny_letGo ?_)
      cases b with
      | true =>
        show wpAny _ A.in1 (rule "any.true-item" >>= fun _ => ret (.bool true)) _ _ _
        exact wpAny_bind (wpAny_rule (wpAny_pure (hT _ ⟨H', os1, allBare_setGen hb1 hbare, un, hok, hb rfl⟩)))
      | false =>
        show wpAny _ A.in1 (again (.builtin "any.loop" ⟨[.ref a], []⟩)) _ _ _
        refine wpAny_pure ⟨plainId_quiet F.plain_any_loop _, ih (s₁.setGen g gs') hg1 hl1 ⟨gs', setGen_at hsz1, ?_⟩⟩
        exact hk _ ⟨rfl, allBare_setGen (s := s₁.setGen g gs') (allBare_setGen hb1 hbare) rfl, fun b o _ e => e, ⟨{ cls := .none, data := .plain }, True.intro, fun b hb => by cases hb⟩⟩
    · intro hsz
      obtain ⟨ys, H', os1, hb1, un, hok, hSn, _, hle, hQ⟩ := hp
      exact wpAny_bind (wpAny_rule (wpAny_pure (hF _ ⟨H', os1, allBare_setGen hb1 rfl, un.trans (Un.kept hk), hok.kept hk, hQ⟩)))
    · obtain ⟨hc, hg1⟩ := he
      obtain ⟨q1, q2⟩ := hexc e s₁ hc
      exact ⟨hg1, q1, fun _ => q2⟩
theorem loop_all {R : Result → Shared → Prop} {a : Addr} {g : Nat} (hh : A.handled = none) (hd : A.depth < recursionLimit)
    (hT : ∀ s', Behind P w outer H sc QT s' → R (.ok (.ret (.bool false))) s') (hF : ∀ s', Behind P w outer H sc QF s' → R (.ok (.ret (.bool true))) s')
    (hexc : ∀ e s', CX P w outer H sc EX e s' → NotStop (model P w) e s'.heap ∧ R (.error e) (s'.setGen g .finished)) :
    ∀ (m : Nat) (s : Shared), s.heap.IsGen a g → s.heap.NoLimit →
      (∃ gs, s.gens[g]? = some gs ∧ gs.Goes (model P w) A.in1.in1 (RC P w outer H sc none a g CN (fun _ H' => QF H') EX) (YC P w outer H sc none a g CN (YB false QT)) m (.send .none) (s.setGen g .running)) →
      codeAny (model P w) A (.builtin "all.loop" ⟨[.ref a], []⟩) R s := by
  have goes : ∀ {gs : GenState} {B : Around} {n : Nat} {r : Resume} {s : Shared}, gs.Goes (model P w) B (RC P w outer H sc none a g CN (fun _ H' => QF H') EX) (YC P w outer H sc none a g CN (YB false QT)) n r s →
      gs.Goes (model P w) B (fun n s₀ r s1 => ((r = .ok (.ret .none) ∨ r = .ok .next) ∧ (∃ (ys : List V) (H' : Hp), s1.os = sc.os ∧ AllBare s1.gens ∧ Un (frs outer) [] H H' sc.heap s1.heap ∧ HOk P w H' s1.heap ∧ (∀ b, none = some b → H' b = none) ∧ (∃ oS, CN ys oS ∧ ∀ b, none = some b → s1.heap.get? b = some oS ∧ NoCell oS) ∧ ys.length ≤ sizeLine ∧ QF H')) ∨
        ∃ e, r = .error e ∧ (CX P w outer H sc EX e s1 ∧ s1.heap.IsGen a g)) (YC P w outer H sc none a g CN (YB false QT)) n r s := fun h => h
  intro m
  induction m with
  | zero =>
    intro s hg hl ⟨gs, hgs, hgo⟩
    refine codeAny_builtin F.entry_all_loop ?_
    rw [Around.under_plainId F.plain_all_loop _]
    show wpAny _ A.in1 (pyNext (.ref a) >>= _) _ _ s
    refine wpAny_bind (next_genG (A := A.in1) hh hl hd hg hgs (goes hgo) (fun v s₁ gs' hbare hv => ?_) (fun s₁ hp h' hk => ?_) fun e s₁ he => ?_)
    · obtain ⟨ys, x, H', hn, rv, os1, hb1, hl1, hg1, un, hok, hSn, hS, ⟨b, ex, hb⟩, hk⟩ := hv
      exact False.elim (hk s₁ ⟨rfl, hb1, fun b o _ e => e, ⟨{ cls := .none, data := .plain }, True.intro, fun b hb => by cases hb⟩⟩)
    · obtain ⟨ys, H', os1, hb1, un, hok, hSn, _, hle, hQ⟩ := hp
      exact wpAny_bind (wpAny_rule (wpAny_pure (hF _ ⟨H', os1, allBare_setGen hb1 rfl, un.trans (Un.kept hk), hok.kept hk, hQ⟩)))
    · obtain ⟨hc, hg1⟩ := he
      obtain ⟨q1, q2⟩ := hexc e s₁ hc
      exact ⟨hg1, q1, q2⟩
  | succ m ih =>
    intro s hg hl ⟨gs, hgs, hgo⟩
    have hgl : g < s.gens.size := (Array.getElem?_eq_some_iff.mp hgs).1
    refine codeAny_builtin F.entry_all_loop ?_
    rw [Around.under_plainId F.plain_all_loop _]
    show wpAny _ A.in1 (pyNext (.ref a) >>= _) _ _ s
    refine wpAny_bind (wpAny_gsz (n := g + 1) hgl (next_genG (A := A.in1) hh hl hd hg hgs (goes hgo) (fun v s₁ gs' hbare hv => ?_) (fun s₁ hp h' hk => ?_) fun e s₁ he => ?_))
    · intro hsz
      obtain ⟨ys, x, H', hn, rv, os1, hb1, hl1, hg1, un, hok, hSn, hS, ⟨b, ex, hb⟩, hk⟩ := hv
      subst ex
      obtain rfl : v = Value.bool b := rv
      have hsz1 : g < s₁.gens.size := by
        have q : (s₁.setGen g gs').gens.size = s₁.gens.size := setGen_size _ _ _
        have hsz' : g + 1 ≤ (s₁.setGen g gs').gens.size := hsz
        omega
      refine wpAny_bind (wpAny_holding (wpAny_truthy_bool ?_))
      refine wpAny_bind (wpAny_letGo ?_)
      cases b with
      | false =>
        show wpAny _ A.in1 (rule "all.false-item" >>= fun _ => ret (.bool false)) _ _ _
        exact wpAny_bind (wpAny_rule (wpAny_pure (hT _ ⟨H', os1, allBare_setGen hb1 hbare, un, hok, hb rfl⟩)))
      | true =>
        show wpAny _ A.in1 (again (.builtin "all.loop" ⟨[.ref a], []⟩)) _ _ _
        refine wpAny_pure ⟨plainId_quiet F.plain_all_loop _, ih (s₁.setGen g gs') hg1 hl1 ⟨gs', setGen_at hsz1, ?_⟩⟩
        exact hk _ ⟨rfl, allBare_setGen (s := s₁.setGen g gs') (allBare_setGen hb1 hbare) rfl, fun b o _ e => e, ⟨{ cls := .none, data := .plain }, True.intro, fun b hb => by cases hb⟩⟩
    · intro hsz
      obtain ⟨ys, H', os1, hb1, un, hok, hSn, _, hle, hQ⟩ := hp
      exact wpAny_bind (wpAny_rule (wpAny_pure (hF _ ⟨H', os1, allBare_setGen hb1 rfl, un.trans (Un.kept hk), hok.kept hk, hQ⟩)))
    · obtain ⟨hc, hg1⟩ := he
      obtain ⟨q1, q2⟩ := hexc e s₁ hc
      exact ⟨hg1, q1, fun _ => q2⟩
end
end GX
end
section
set_option Elab.async false
set_option linter.all false
set_option maxRecDepth 100000
set_option maxHeartbeats 2000000
namespace GX
open PySem PySem.Spec PyProof.Rows L2 GenW
section
variable {P : Program} {w : World} {outer : List Env} {H : Hp} {sc s : Shared} {EX : XK} {QT QF : Hp → Prop} {A : Around} {E : Value → Shared → Prop} {k : Nat} {u : Value}
theorem call_any_gen {Q' : Value → Shared → Prop} (hr : Room (k + 4) A) (hfr : A.frames = some outer) (h : GMadeC P w k outer H sc (YB true QT) (fun _ H' => QF H') EX u s)
    (hT : ∀ s', Behind P w outer H sc QT s' → Q' (.bool true) s') (hF : ∀ s', Behind P w outer H sc QF s' → Q' (.bool false) s')
    (hexc : ∀ e s' g, CX P w outer H sc EX e s' → NotStop (model P w) e s'.heap ∧ E e (s'.setGen g .finished)) :
    wpAny (model P w) A (call (.builtin "any") [u]) Q' E s := by
  obtain ⟨a, g, c, go, rfl, ha1, ha2, hgo, hgoN, hg, hgs, hos, hb, hl, wake⟩ := h
  refine call_function_tree F.kind_any F.plain_any F.entry_any (F.args_any1 _) ?_
  unfold Builtin.«any»
  refine wpAny_bind (m := oneArg "any" _) (wpAny_pure ?_)
  refine wpAny_bind (wpAny_pyIter_gen hg ?_)
  refine wpAny_pure ⟨plainId_quiet F.plain_any_loop _, ?_⟩
  refine loop_any (P := P) (w := w) (outer := outer) (H := H) (sc := sc) (QT := QT) (QF := QF) (EX := EX) (A := A) (g := g) hr.hd (by have := hr.dp; omega) (fun s' hb => hT s' hb) (fun s' hb => hF s' hb) (fun e s' hc => hexc e s' g hc)
    sizeLine _ hg hl ⟨_, hgs, rfl, ?_⟩
  refine wake _ _ none _ ⟨hr.hd, ?_, ?_⟩ hfr (fun b hb => by cases hb) (fun _ _ e => e) ⟨{ cls := .none, data := .plain }, True.intro, fun b hb => by cases hb⟩ hos (allBare_setGen hb rfl)
  · have := hr.dp
    show A.depth + 3 * k + 5 < _
    omega
  · have := hr.un
    show A.units + 1 + 1 + 16 * k + 200 < _
    omega
theorem call_all_gen {Q' : Value → Shared → Prop} (hr : Room (k + 4) A) (hfr : A.frames = some outer) (h : GMadeC P w k outer H sc (YB false QT) (fun _ H' => QF H') EX u s)
    (hT : ∀ s', Behind P w outer H sc QT s' → Q' (.bool false) s') (hF : ∀ s', Behind P w outer H sc QF s' → Q' (.bool true) s')
    (hexc : ∀ e s' g, CX P w outer H sc EX e s' → NotStop (model P w) e s'.heap ∧ E e (s'.setGen g .finished)) :
    wpAny (model P w) A (call (.builtin "all") [u]) Q' E s := by
  obtain ⟨a, g, c, go, rfl, ha1, ha2, hgo, hgoN, hg, hgs, hos, hb, hl, wake⟩ := h
  refine call_function_tree F.kind_all F.plain_all F.entry_all (F.args_all1 _) ?_
  unfold Builtin.«all»
  refine wpAny_bind (m := oneArg "all" _) (wpAny_pure ?_)
  refine wpAny_bind (wpAny_pyIter_gen hg ?_)
  refine wpAny_pure ⟨plainId_quiet F.plain_all_loop _, ?_⟩
  refine loop_all (P := P) (w := w) (outer := outer) (H := H) (sc := sc) (QT := QT) (QF := QF) (EX := EX) (A := A) (g := g) hr.hd (by have := hr.dp; omega) (fun s' hb => hT s' hb) (fun s' hb => hF s' hb) (fun e s' hc => hexc e s' g hc)
    sizeLine _ hg hl ⟨_, hgs, rfl, ?_⟩
  refine wake _ _ none _ ⟨hr.hd, ?_, ?_⟩ hfr (fun b hb => by cases hb) (fun _ _ e => e) ⟨{ cls := .none, data := .plain }, True.intro, fun b hb => by cases hb⟩ hos (allBare_setGen hb rfl)
  · have := hr.dp
    show A.depth + 3 * k + 5 < _
    omega
  · have := hr.un
    show A.units + 1 + 1 + 16 * k + 200 < _
    omega
end
section
variable {X : Cx}
theorem behind_inv {pins : List (Addr × Obj)} {σ : L2.St} {H1 : Hp} {sc s' : Shared} {Q : Hp → Prop} (I : Inv X pins σ H1 sc) (hb : Behind X.prog X.w X.stack H1 sc Q s') : ∃ H', Inv X pins σ H' s' ∧ Q H' := by
  obtain ⟨H', q3, q4, q5, q6, q⟩ := hb.ex
  exact ⟨H', I.call' (ch := []) q3 q5 q6 q4 (fun b hb => by simp at hb), q⟩
theorem pe_anyG {c P : Addr} {elt tg iter : Expr} {ifs : List Expr} {scope : Scope} {own : List (Str × Nat)} {gpos p pos : Pos} {wi : TI} {g : TG} {tt : L2.St → TT} {te : L2.St → TE} {k : Nat} {E : L2.St → XK}
    (hr : Room (k + 5) X.A) (hc : X.calm = true) (hN : X.N.Nodup) (hgl : Gl X "any") (hm : X.mg "any" = none) (TB : GxR.TabB X.base X.mg c P) (hcode : X.env.code = .ref c) (ok : GenOk X.N X.env.scope scope own) (hi : PIf X tg iter wi)
    (hx : ∀ σ, PassesAt (L2.CX X.prog X.w) X σ (E σ)) (hns : ∀ σ, NoStop X.K (E σ))
    (hg : ∀ (σ : L2.St) (A : Around) (s : Shared) (H : Hp) (L : Addr) (code : Value) (bi : Addr) (pn : List (Addr × Obj)), PG (gCx X A s H (E σ) scope L code bi pn) tg g)
    (ht : ∀ (σ : L2.St) (A : Around) (s : Shared) (H : Hp) (L : Addr) (code : Value) (bi : Addr) (pn : List (Addr × Obj)), Room k (A.deeper (gEnv X scope L code bi)) → PTs (gCx X A s H (E σ) scope L code bi pn) ifs (tt σ))
    (he : ∀ (σ : L2.St) (A : Around) (s : Shared) (H : Hp) (L : Addr) (code : Value) (bi : Addr) (pn : List (Addr × Obj)), Room k (A.deeper (gEnv X scope L code bi)) → PE (gCx X A s H (E σ) scope L code bi pn) elt (te σ))
    (hs : ∀ v, genFold iter X.env v = pure v := by intro _; rfl)
    (hst : starEach [.GeneratorExp elt [⟨tg, iter, ifs, 0⟩] scope gpos] X.env = (false, eval (.GeneratorExp elt [⟨tg, iter, ifs, 0⟩] scope gpos) X.env) :: starEach [] X.env := by rfl) :
    PE X (.Call (.Name "any" p) [.GeneratorExp elt [⟨tg, iter, ifs, 0⟩] scope gpos] [] pos)
      (fun σ H Q => tGenx P wi g (tt σ) (te σ) (own.map (·.2)) (YB true fun H' => Q (.bl true) H') σ H fun _ H2 => Q (.bl false) H2) := by
  refine ⟨fun pins s σ H Q I h => ?_⟩
  refine wpAny_Call_Name_kw (ld_blt I hgl hm boot_any ?_)
  refine PyProof.Rows.callWith_builtin1 ?_ hst (by rfl)
  rw [hst]
  show wpAny _ _ (spliced ((false, eval (.GeneratorExp elt [⟨tg, iter, ifs, 0⟩] scope gpos) X.env) :: backTo pos (starEach [] X.env))) _ _ s
  have hr0 : Room k X.A := hr.mono (by omega)
  refine Calls.spliced_cons (thn (genx_made (E := E σ) hr0 hc hN TB hcode ok hi (hg σ) (ht σ) (he σ) hs I h) fun u s1 ⟨H1, sc, I1, hsz, hG⟩ => ?_)
  refine Calls.spliced_nil ?_
  refine call_any_gen (k := k + 1) (by exact hr) I1.ok.frames hG (fun s' hb => ?_) (fun s' hb => ?_) fun e s' g hcx => ?_
  · obtain ⟨H', J, q⟩ := behind_inv I1 hb
    exact ⟨.bl true, H', J, rfl, q⟩
  · obtain ⟨H', J, q⟩ := behind_inv I1 hb
    exact ⟨.bl false, H', J, rfl, q⟩
  · exact ⟨notStop_of (hns σ) (kin_of_cx I1 hcx) hcx, hx σ pins H1 sc e _ I1 (cx_setGen hcx)⟩
theorem pe_allG {c P : Addr} {elt tg iter : Expr} {ifs : List Expr} {scope : Scope} {own : List (Str × Nat)} {gpos p pos : Pos} {wi : TI} {g : TG} {tt : L2.St → TT} {te : L2.St → TE} {k : Nat} {E : L2.St → XK}
    (hr : Room (k + 5) X.A) (hc : X.calm = true) (hN : X.N.Nodup) (hgl : Gl X "all") (hm : X.mg "all" = none) (TB : GxR.TabB X.base X.mg c P) (hcode : X.env.code = .ref c) (ok : GenOk X.N X.env.scope scope own) (hi : PIf X tg iter wi)
    (hx : ∀ σ, PassesAt (L2.CX X.prog X.w) X σ (E σ)) (hns : ∀ σ, NoStop X.K (E σ))
    (hg : ∀ (σ : L2.St) (A : Around) (s : Shared) (H : Hp) (L : Addr) (code : Value) (bi : Addr) (pn : List (Addr × Obj)), PG (gCx X A s H (E σ) scope L code bi pn) tg g)
    (ht : ∀ (σ : L2.St) (A : Around) (s : Shared) (H : Hp) (L : Addr) (code : Value) (bi : Addr) (pn : List (Addr × Obj)), Room k (A.deeper (gEnv X scope L code bi)) → PTs (gCx X A s H (E σ) scope L code bi pn) ifs (tt σ))
    (he : ∀ (σ : L2.St) (A : Around) (s : Shared) (H : Hp) (L : Addr) (code : Value) (bi : Addr) (pn : List (Addr × Obj)), Room k (A.deeper (gEnv X scope L code bi)) → PE (gCx X A s H (E σ) scope L code bi pn) elt (te σ))
    (hs : ∀ v, genFold iter X.env v = pure v := by intro _; rfl)
    (hst : starEach [.GeneratorExp elt [⟨tg, iter, ifs, 0⟩] scope gpos] X.env = (false, eval (.GeneratorExp elt [⟨tg, iter, ifs, 0⟩] scope gpos) X.env) :: starEach [] X.env := by rfl) :
    PE X (.Call (.Name "all" p) [.GeneratorExp elt [⟨tg, iter, ifs, 0⟩] scope gpos] [] pos)
      (fun σ H Q => tGenx P wi g (tt σ) (te σ) (own.map (·.2)) (YB false fun H' => Q (.bl false) H') σ H fun _ H2 => Q (.bl true) H2) := by
  refine ⟨fun pins s σ H Q I h => ?_⟩
  refine wpAny_Call_Name_kw (ld_blt I hgl hm boot_all ?_)
  refine PyProof.Rows.callWith_builtin1 ?_ hst (by rfl)
  rw [hst]
  show wpAny _ _ (spliced ((false, eval (.GeneratorExp elt [⟨tg, iter, ifs, 0⟩] scope gpos) X.env) :: backTo pos (starEach [] X.env))) _ _ s
  have hr0 : Room k X.A := hr.mono (by omega)
  refine Calls.spliced_cons (thn (genx_made (E := E σ) hr0 hc hN TB hcode ok hi (hg σ) (ht σ) (he σ) hs I h) fun u s1 ⟨H1, sc, I1, hsz, hG⟩ => ?_)
  refine Calls.spliced_nil ?_
  refine call_all_gen (k := k + 1) (by exact hr) I1.ok.frames hG (fun s' hb => ?_) (fun s' hb => ?_) fun e s' g hcx => ?_
  · obtain ⟨H', J, q⟩ := behind_inv I1 hb
    exact ⟨.bl false, H', J, rfl, q⟩
  · obtain ⟨H', J, q⟩ := behind_inv I1 hb
    exact ⟨.bl true, H', J, rfl, q⟩
  · exact ⟨notStop_of (hns σ) (kin_of_cx I1 hcx) hcx, hx σ pins H1 sc e _ I1 (cx_setGen hcx)⟩
end
end GX
end
section
set_option Elab.async false
set_option linter.all false
set_option maxRecDepth 100000
set_option maxHeartbeats 2000000
/-! FileError: an own error whose __init__ says super().__init__(word) and keeps word as a field. -/
namespace GF
open PySem PySem.W PySem.Calls PyProof.Rows PySem.HandSPX
def iA (p1 p2 : Pos) : Arguments := { posonlyargs := [], args := [{ arg := "self", annotation := none, pos := p1 }, { arg := "word", annotation := none, pos := p2 }], vararg := none, kwonlyargs := [], kw_defaults := [], kwarg := none, defaults := [] }
def iB (q0 q1 q2 q3 q4 q5 q6 q7 q8 q9 : Pos) : List Stmt :=
  [.Expr (.Call (.Attribute (.Call (.Name "super" q0) [] [] q1) "__init__" q2) [.Name "word" q3] [] q4) q5,
   .Assign [.Attribute (.Name "self" q6) "word" q7] (.Name "word" q8) q9]
def iS : Scope := { kind := .function, names := [(PySem.Str.ofString "self", .local), (PySem.Str.ofString "word", .local), (PySem.Str.ofString "__class__", .free), (PySem.Str.ofString "super", .globalImplicit)], isGenerator := false, isCoroutine := false, more := [] }
/-- what the written part says of FileError, at C, and of its __init__, at fI -/
structure FileTxt (P : Program) (K : Frag) (mg : Str → Option Value) (C fI : Addr) : Prop where
  gC : mg "FileError" = some (.ref C)
  noS : mg "super" = none
  cls : ∃ nm q N bs bm sn sub ab col dd k0 k1 k2 k3 k5, K.lookup C = some (excClassObj nm q C N bs bm true sn sub ab col dd k0 k1 k2 k3 k5 "ValueError.__new__") ∧ refsVE bm = true
  sup : ks_superIn K C C "__init__" = some (some (.builtin "ValueError.__init__"))
  sa : findIn K (.ref C) "__setattr__" = some (some (.builtin "object.__setattr__"))
  noN : findIn K (.ref C) "word" = some none
  iC : findIn K (.ref C) "__init__" = some (some (.ref fI))
  tC : typeIn K (.ref fI) = some (.type "function")
  kC : keepIn K (.ref C) = true
  exC : subIn K (.ref C) (.type "BaseException") = some true
  veC : subIn K (.ref C) (.type "ValueError") = some true
  meC : mroIn K C (.ref C) = some true
  tyC : typeIn K (.ref C) = some (.type "type")
  opq : nsIn K cStatics "thirdparty.any" = some none
  top : (P.main.scope.names.lookup ("super" : Str)).isSome = false
  fn : ∃ (oc : Value) (od : Option Addr) (doc pm : Value) (an : Option Addr) (cda cc : Addr) (ct : Value) (osl : Array (Option Value)) (p1 p2 q0 q1 q2 q3 q4 q5 q6 q7 q8 q9 : Pos) (ccl : Value) (cdd : Option Addr) (vs : Array Value) (ccs : Array (Option Value)) (file : Str) (tf : Tok) (cl : Value) (cld : Option Addr) (csl : Array (Option Value)),
    K.lookup fI = some ⟨oc, od, .func (ksFn "__init__" "FileError.__init__" (iA p1 p2) (iB q0 q1 q2 q3 q4 q5 q6 q7 q8 q9) iS .none .none doc pm an (.ref cda) ct cc), osl⟩ ∧ codeIn K (.ref cda) "FileError.__init__" = true ∧
    K.lookup cda = some ⟨ccl, cdd, .fields vs, ccs⟩ ∧ vs[2]? = some (.str file tf) ∧ (q2.endLine == q4.line) = true ∧ ((P.main.file : Str) == file) = true ∧
    K.lookup cc = some ⟨cl, cld, .cell (some (.ref C)), csl⟩
theorem one_size (v : Value) : [v].length ≤ sizeLine := by
  rw [sizeLine_eq]
  exact (by decide : 1 ≤ 16777216)
theorem kept_but {K : Frag} {h h' : Heap} {x : Addr} (X : K.In h) (hx : K.lookup x = none) (k : ∀ b o, b ≠ x → h.get? b = some o → h'.get? b = some o) : K.In h' := fun a o e =>
  k a o (fun z => by rw [z, hx] at e; cases e) (X a o e)
/-- a method call whose name ends on the line of the call, one argument -/
theorem mc1 {o e : Expr} {name : Str} {apos pos : Pos} {env : Env} (h : (apos.endLine == pos.line) = true) (hs : starEach (e :: []) env = (false, eval e env) :: [] := by rfl) :
    eval (.Call (.Attribute o name apos) [e] [] pos) env = (do
      let ov ← attributeBase o name env (eval o env)
      standAt apos.atName
      let (f, first) ← holding [ov] (getMethod ov name (do return (← importBound o env).getD true))
      callWith pos f first (backTo pos (starEach [e] env)) []) := by
  rw [arm_eval_Call, hs]
  unfold methodCall calleeOf methodCallPos
  have hf : methodCallForm ([e].length + ([] : List Keyword).length) (backTo pos [(false, eval e env)]) (backToKw pos (keywordEach [] env)) = true := rfl
  rw [hf, h]
  simp only [Bool.not_true, Bool.false_or, if_true, pure_bind]
  rfl
theorem ldK {M : Model} {s : Shared} {env : Env} {m : Str → Option Value} {x : Str} {pos : Pos} {v : Value} {Q : Value → Shared → Prop} {A : Around} {E : Value → Shared → Prop} (hn : s.heap.Ns env.locals m) (hv : m x = some v) (h : Q v s)
    (hk : env.scope.kind = .function := by rfl) (hl : env.kindOf x = some .local := by rfl) (hd : (x == ("__debug__" : Str)) = false := by decide) :
    wpAny M A (eval (.Name x pos) env) Q E s := wpAny_Name (wpAny_loadName_local hk hl hn hv h) hd
section
variable {prog : Program} {w : World} {A : Around} {E : Value → Shared → Prop} {h : Heap} {g : Array GenState} {d : Drawn} {t : Nat} {os : OsState}
variable {nm q : Str} {C N : Addr} {bs bm : List Value} {hdct : Bool} {sn : List Str} {sub : List Value} {ab : Bool} {col : Option Bool} {dd : Option Addr} {k0 k1 k2 k3 k5 : Option Value}
/-- the wrapper of ValueError.__init__ called: the args are laid anew -/
theorem call_vw {u e t0 : Addr} {rest : List Value} {Q : Value → Shared → Prop}
    (hC : h.get? C = some (excClassObj nm q C N bs bm hdct sn sub ab col dd k0 k1 k2 k3 k5 "ValueError.__new__")) (he : h.get? e = some (HandSPX.excO C t0)) (hu : h.get? u = some (kxs_mw "ValueError.__init__" e)) (hrest : rest.length ≤ sizeLine)
    (hq : ∀ h' t1, (∀ b o, b ≠ e → h.get? b = some o → h'.get? b = some o) → h'.get? e = some (HandSPX.excO C t1) → h.objs.size ≤ h'.objs.size → Q .none ⟨h', g, d, t, os⟩) :
    wpAny (model prog w) A (call (.ref u) rest) Q E ⟨h, g, d, t, os⟩ := by
  refine wpAny_call (codeAny_of_tree ?_)
  show wpAny _ A.in1 (callAny (.ref u) ⟨rest, []⟩) _ _ _
  simp only [callAny]
  refine wpAny_bind (wpAny_load hu ?_)
  simp only [kxs_mw, show (Value.type "method-wrapper" == Value.type "method" || Value.type "method-wrapper" == Value.type "builtin_function_or_method" || Value.type "method-wrapper" == Value.type "method-wrapper") = true by decide, if_true]
  refine W.KFB.if_so (by decide) ?_
  refine wpAny_bind (ESX.check_bound F.excBase_ValueError hC he rfl ?_)
  refine wpAny_bind (wpAny_pure (wpAny_pure ?_))
  refine ⟨Code.quiet_builtin _ (by decide +kernel), codeAny_builtin F.excBase_ValueError.initEntry ?_⟩
  rw [Around.under_plainId F.excBase_ValueError.init.plain _]
  wp_walk
  refine hq _ h.objs.size (fun b o hb ho => ?_) ?_ ?_
  · rw [Heap.get?_update_other _ _ (Ne.symm hb)]
    exact Heap.get?_push_of_some _ ho
  · rw [Heap.get?_update_self _ (Heap.get?_push_of_some _ he) rfl]
    rfl
  · first
      | (simp only [Heap.size_update, Heap.size_push]; omega)
      | (simp only [Heap.update, Heap.push]; simp)
end
/-- what __init__ leaves of a fresh exception at x -/
structure InitEnd (h h' : Heap) (x C dx t1 : Addr) (v : Value) : Prop where
  keep : ∀ b o, b ≠ x → h.get? b = some o → h'.get? b = some o
  obj : h'.get? x = some { cls := .ref C, dict := some dx, data := .fields #[.ref t1, .none, .none, .none, .bool false, .none] }
  dbig : h.objs.size ≤ dx
  dne : dx ≠ x
  ns : h'.Ns1 dx (fun y => if y = "word" then some v else none)
/-- a made FileError -/
structure OwnMade (h h' : Heap) (e C d : Addr) (v : Value) : Prop where
  keep : ∀ b o, h.get? b = some o → h'.get? b = some o
  new : h.objs.size ≤ e
  obj : ∃ oe vs, h'.get? e = some oe ∧ oe.cls = .ref C ∧ oe.dict = some d ∧ oe.data = .fields vs ∧ vs[1]? = some .none
  dbig : h.objs.size ≤ d
  dne : d ≠ e
  ns : h'.Ns1 d (fun y => if y = "word" then some v else none)
section
variable {prog : Program} {w : World} {A : Around} {E : Value → Shared → Prop} {R : Result → Shared → Prop} {s : Shared} {K : Frag} {mg mb : Str → Option Value} {C fI : Addr}
theorem file_init (T : FileTxt prog K mg C fI) {x t0 : Addr} {v : Value} (X : K.In s.heap) (hg : s.heap.Ns mainGlobals mg) (hb : s.heap.Ns builtinsNs mb) (hsb : mb "super" = some (.type "super")) (hlim : s.heap.NoLimit) (hx : s.heap.get? x = some (excO C t0)) (hnx : K.lookup x = none) (hroom : A.depth < recursionLimit)
    (hq : ∀ h' tk dx t1, InitEnd s.heap h' x C dx t1 v → R (.ok (.ret .none)) { s with heap := h', toks := tk }) :
    codeAny (model prog w) A (.call (.ref fI) ⟨[.ref x, v], []⟩) R s := by
  obtain ⟨oc, od, doc, pm, an, cda, cc, ct, osl, p1, p2, q0, q1, q2, q3, q4, q5, q6, q7, q8, q9, ccl, cdd, vs, ccs, file, tf, cl, cld, csl, ho, hcd, hcda, hvs, hline, hfile, hcell⟩ := T.fn
  obtain ⟨nm, qn, N, bs, bm, sn, sub, ab, col, dd, k0, k1, k2, k3, k5, hC, hbm⟩ := T.cls
  have hcl : clsIn K C = some { name := nm, bases := bs, mro := .ref C :: bm, ns := N, qualname := qn, hasDict := true, slotNames := sn, subclasses := sub, abstract := ab, collection := col, hasDel := false } := by unfold clsIn; rw [hC] <;> rfl
  have hfo := X _ _ ho
  refine ks_codeAny_call_defAt (fd := ksFn "__init__" "FileError.__init__" (iA p1 p2) (iB q0 q1 q2 q3 q4 q5 q6 q7 q8 q9) iS .none .none doc pm an (.ref cda) ct cc) (body := iB q0 q1 q2 q3 q4 q5 q6 q7 q8 q9) (binds := [("self", .ref x), ("word", v)])
    hroom hfo rfl hlim (codeRec_of X hcd) rfl (BindsTo.of_eq (by first | rfl | with_unfolding_all rfl)) (show ∀ z ∈ iS.names, z.2 ≠ .cell by decide) (locs (scope := iS) rfl) (fun h₁ hn k => ?_)
  have hxL : s.heap.objs.size ≠ x := Nat.ne_of_gt (Heap.lt_size hx)
  have X₁ : K.In h₁ := X.keeps k
  have hx₁ := k _ _ hx
  have hsize : s.heap.objs.size < h₁.objs.size := hn.lt
  have I₁ : InstAt h₁ x (excO C t0) C none := ⟨hx₁, rfl, rfl, trivial⟩
  have eE : callEnv (ksFn "__init__" "FileError.__init__" (iA p1 p2) (iB q0 q1 q2 q3 q4 q5 q6 q7 q8 q9) iS .none .none doc pm an (.ref cda) ct cc) s.heap.objs.size fI = ksEnv "FileError.__init__" iS s.heap.objs.size fI (.ref cda) cc := rfl
  rw [eE]
  unfold iB
  refine ks_wpAt_execs_cons ?_
  refine ks_wpAt_Expr_any ?_
  refine ks_wpAt_MethodCall ?_ (mc1 hline)
  refine ks_wpAt_super_base (env := ksEnv "FileError.__init__" iS s.heap.objs.size fI (.ref cda) cc) (f := fI) (cc := cda) (ar := { arg := "self", annotation := none, pos := p1 }) (by rfl) (by rfl) (by decide) rfl (X₁ _ _ ho) rfl rfl rfl (X₁ _ _ hcda) rfl hvs hfile T.top ?_
  refine ks_loadName_global (by rfl) (by rfl) (loadGlobal_builtin (env := ksEnv "FileError.__init__" iS s.heap.objs.size fI (.ref cda) cc) (hg.keeps k) T.noS (hb.keeps k) hsb ⟨rfl, ?_⟩)
  refine wpAny_loadName_free (v := .ref C) (by rfl) (by rfl) rfl ⟨_, X₁ _ _ hcell, rfl⟩ ?_
  refine wpAny_loadName_local (v := .ref x) (by rfl) (by rfl) hn (by rfl) ?_
  refine ks_wpAny_isType_cls (X₁ _ _ hC) rfl ⟨rfl, ?_⟩
  refine ks_wpAny_call_super (C := C) (X₁ _ _ hC) rfl hx₁ rfl (fun c e => by cases e) (looks_mroIn X₁ T.meC) (fun h2 hso k2 => ?_)
  have k12 : ∀ b o, s.heap.get? b = some o → h2.get? b = some o := fun b o e => k2 _ _ (k _ _ e)
  have X₂ : K.In h2 := X₁.keeps k2
  have hx₂ := k2 _ _ hx₁
  have I₂ : InstAt h2 x (excO C t0) C none := ⟨hx₂, rfl, rfl, trivial⟩
  have hsup := T.sup
  unfold ks_superIn at hsup
  rw [hcl] at hsup
  refine kxs_getMethod (D := C) (x := x) (C := C) (l₀ := .ref C :: bm) kxs_ValueError hso (looks_opaque X₂ T.opq) ?_ rfl X₂ hsup (I₂.type.andThen (looks_subIn X₂ T.veC)) (ks_ne X₂ I₂ hcl) (by decide) ?_
  · exact fun A Q E s k q => wpAny_bind ((looks_clsIn X₂ hcl) A _ E s k (wpAny_pure q))
  have up3 : ∀ b o, h2.get? b = some o → (h2.push (kxs_mw "ValueError.__init__" x)).get? b = some o := fun b o e => Heap.get?_push_of_some _ e
  have hu : (h2.push (kxs_mw "ValueError.__init__" x)).get? h2.objs.size = some (kxs_mw "ValueError.__init__" x) := Heap.get?_push_at rfl rfl
  have hn3 : (h2.push (kxs_mw "ValueError.__init__" x)).Ns s.heap.objs.size (fun y => List.lookup y ([(("self" : Str), Value.ref x), (("word" : Str), v)].reverse)) := (hn.keeps k2).keeps up3
  have hx3 := up3 _ _ hx₂
  have hC3 := up3 _ _ (X₂ _ _ hC)
  refine kxs_callWith (i := "ValueError.__init__") (x := x) (by rfl) (evalArgs_plain ?_)
  refine spliced_more (ldK (v := v) hn3 (by rfl) (spliced_none ?_) (by rfl) (by rfl))
  refine ⟨hu, call_vw hC3 hx3 hu (one_size v) (fun h4 t1 k4 hx4 sz4 => ?_)⟩
  have xne : s.heap.objs.size ≠ x := hxL
  have hn4 : h4.Ns s.heap.objs.size (fun y => List.lookup y ([(("self" : Str), Value.ref x), (("word" : Str), v)].reverse)) := by
    obtain ⟨oL, es, ep, hL, r⟩ := hn3
    exact ⟨oL, es, ep, k4 _ _ hxL hL, r⟩
  have k34 : ∀ b o, b ≠ x → s.heap.get? b = some o → h4.get? b = some o := fun b o hb e => k4 b o hb (up3 _ _ (k12 _ _ e))
  have X₄ : K.In h4 := kept_but X hnx k34
  refine ks_wpAt_execs_cons (wpAt_of_wpAny (plainObj_wpAny_Assign_Attribute ?_))
  refine ldK (v := v) hn4 (by rfl) ?_ (by rfl) (by rfl)
  refine ldK (v := .ref x) hn4 (by rfl) ?_ (by rfl) (by rfl)
  refine set_plain X₄ (ox := excO C t1) (od := none) ⟨hx4, rfl, rfl, trivial⟩ T.sa ?_
  refine exc_osa X₄ hx4 hcl (show refsVE (.ref C :: bm) = true from hbm) rfl T.noN (fun h₅ tk₅ dx k₅ dn dne hx₅ hn₅ => ?_)
  refine wpAt_of_wpAny (wpAny_execs_nil (hq h₅ tk₅ dx t1 ⟨fun b o hb e => k₅ b o hb (k34 b o hb e), hx₅, ?_, dne, hn₅⟩))
  have hL4 := hn4.lt
  have : s.heap.objs.size < h4.objs.size := hL4
  exact Nat.le_of_lt (Nat.lt_of_lt_of_le this dn)
theorem file_made (T : FileTxt prog K mg C fI) {v : Value} (X : K.In s.heap) (hg : s.heap.Ns mainGlobals mg) (hb : s.heap.Ns builtinsNs mb) (hsb : mb "super" = some (.type "super")) (hlim : s.heap.NoLimit) (hroom : A.depth + 1 < recursionLimit)
    (hq : ∀ h' tk e d, OwnMade s.heap h' e C d v → R (.ok (.ret (.ref e))) { s with heap := h', toks := tk }) :
    codeAny (model prog w) A (.call (.ref C) ⟨[v], []⟩) R s := by
  obtain ⟨nm, q, N, bs, bm, sn, sub, ab, col, dd, k0, k1, k2, k3, k5, hC, hbm⟩ := T.cls
  obtain ⟨hp, g, dr, tk, os⟩ := s
  have k : ∀ b o, hp.get? b = some o → ((hp.push (kdv_tup [v])).push (excO C hp.objs.size)).get? b = some o := fun b o e => Heap.get?_push_of_some _ (Heap.get?_push_of_some _ e)
  have hget : ((hp.push (kdv_tup [v])).push (excO C hp.objs.size)).get? (hp.objs.size + 1) = some (excO C hp.objs.size) := by heap_get
  have hnx : K.lookup (hp.objs.size + 1) = none := by
    cases e : K.lookup (hp.objs.size + 1) with
    | none => rfl
    | some o =>
      have z : hp.get? (hp.objs.size + 1) = some o := X _ _ e
      exact absurd (Nat.lt_of_succ_lt (Heap.lt_size z)) (Nat.lt_irrefl _)
  refine call_own F.excBase_ValueError (fun X => refsVE_contains X bm hbm) (X _ _ hC) (looks_findIn X T.iC) (fun self => bind_fn X self T.tC) (one_size v) ?_
  refine file_init (s := ⟨(hp.push (kdv_tup [v])).push (excO C hp.objs.size), g, dr, tk, os⟩) T (X.keeps k) (hg.keeps k) (hb.keeps k) hsb (hlim.keeps k) hget hnx ?_ fun h' tk' dx t1 ⟨k', hx, dn, dne, hns⟩ => ?_
  · show A.depth + 1 < recursionLimit
    exact hroom
  · have old : ∀ b o, hp.get? b = some o → h'.get? b = some o := fun b o e => k' b o (Nat.ne_of_lt (Nat.lt_succ_of_lt (Heap.lt_size e))) (k b o e)
    have z : hp.objs.size + 1 + 1 ≤ dx := by
      first
        | (simpa only [Heap.size_push] using dn)
        | exact dn
        | (have q := dn; rw [Heap.size_push, Heap.size_push] at q; exact q)
    exact ⟨rfl, hq h' tk' (hp.objs.size + 1) dx ⟨old, Nat.le_succ _, ⟨_, _, hx, rfl, rfl, rfl, rfl⟩, Nat.le_trans (Nat.le_trans (Nat.le_succ _) (Nat.le_succ _)) z, dne, hns⟩⟩
end
end GF
end
section
set_option Elab.async false
set_option linter.all false
set_option maxRecDepth 100000
set_option maxHeartbeats 2000000
namespace GX
open PySem PySem.Spec PyProof.Rows L2
theorem relO_word {v : V} {v' : Value} (r : RelV v v') (f : Str) : RelO (List.lookup f [(("word" : Str), v)]) (if f = "word" then some v' else none) := by
  by_cases hw : f = "word"
  · subst hw
    rw [if_pos rfl]
    have q : List.lookup ("word" : Str) [(("word" : Str), v)] = some v := by simp [List.lookup]
    rw [q]
    exact r
  · rw [if_neg hw]
    have qw : (f == ("word" : Str)) = false := by simpa using hw
    have q2 : List.lookup f [(("word" : Str), v)] = none := by simp [List.lookup, qw]
    rw [q2]
    trivial
section
variable {X : Cx} {C fI : Addr}
/-- FileError(e) -/
def tMkFile (C : Addr) (ta : TA) : L2.St → Hp → XK → Prop := fun σ H Q => ta σ H fun vs H1 => ∃ v, vs = [v] ∧ ∀ d, H1 d = none → Q (.ref C) (some d) (upd H1 d (.xd [(("word" : Str), v)]))
theorem pmk_file {a : Expr} {ta : TA} {p pos : Pos} {k : Nat} (T : GF.FileTxt X.prog X.K X.mg C fI) (hr : Room k X.A) (ha : PA X [a] ta) (hg : Gl X "FileError" := by rfl)
    (he : starEach (a :: []) X.env = (false, eval a X.env) :: starEach [] X.env := by rfl) (hpl : (backTo pos (starEach [] X.env)).any (·.1) = false := by rfl) :
    PMk X (.Call (.Name "FileError" p) [a] [] pos) (tMkFile C ta) := by
  intro pins s σ H Q I h
  refine wpAny_Call_Name_kw (ld_glob I hg T.gC ?_)
  refine PySem.W.callWith_K (h₀ := X.base) I.ok.mod.kin T.kC (thn (ha.run pos pins s σ H _ I h) fun us s1 hh => ?_) he hpl
  obtain ⟨vs, H1, I1, r1, v, ev, q1⟩ := hh
  subst ev
  refine ⟨I1.kIn, ?_⟩
  cases r1 with
  | cons rv rn =>
    rename_i v' us'
    cases rn
    show wpAny _ _ (call (.ref C) [v']) _ _ _
    have hlim := I1.nolimit
    obtain ⟨mb, hb1, hb2⟩ := I1.mod.blt
    have hgl := I1.mod.glob.keeps I1.bk
    have hbl := hb1.keeps I1.bk
    have hsb : mb "super" = some (.type "super") := (hb2 "super" (by decide)).trans (by first | rfl | decide +kernel)
    obtain ⟨hp, g, dr, tk, os⟩ := s1
    refine wpAny_call (GF.file_made T I1.kIn hgl hbl hsb hlim (by have := hr.dp; omega) fun h' tk' e d M => ?_)
    show MkP X pins σ Q (.ref e) ⟨h', g, dr, tk', os⟩
    obtain ⟨oe, fv, hoe, hc, hd, hdat, h1⟩ := M.obj
    have hns := M.ns
    obtain ⟨G', g1, g2⟩ := restrict h' fun b => decide (b ≠ e)
    have gk : ∀ b, b ≠ e → G'.get? b = h'.get? b := fun b hb => g1 b (decide_eq_true hb)
    have ge : G'.get? e = none := g2 e (by simp)
    have old : ∀ b o, hp.get? b = some o → G'.get? b = some o := fun b o q => (gk b (Nat.ne_of_lt (Nat.lt_of_lt_of_le (Heap.lt_size q) M.new))).trans (M.keep b o q)
    have ob : ObjOk X.prog X.w (upd H1 d (.xd [(("word" : Str), v)])) G' d (.xd [(("word" : Str), v)]) :=
      ⟨_, hns.at (fun o q => (gk d M.dne).trans q), fun f => relO_word rv f⟩
    have J : Inv X pins σ (upd H1 d (.xd [(("word" : Str), v)])) ⟨G', g, dr, tk', os⟩ := I1.laid (t' := tk') old M.dbig ob
    refine ⟨e, oe, fv, ⟨G', g, dr, tk', os⟩, _, .ref C, some d, rfl, J, fun b o q => ?_, ge, hoe, ⟨hc, hd⟩, hdat, h1, ?_, rfl, I1.bare, raises_own T.exC T.tyC, q1 d (I1.hok.fresh M.dbig)⟩
    · by_cases hb : b = e
      · have q' : G'.get? b = some o := q
        rw [hb, ge] at q'; cases q'
      · exact (gk b hb).symm.trans q
    · rw [upd_ne (Ne.symm M.dne)]
      exact I1.hok.fresh M.new
/-- raise FileError(e) -/
def tRaiseFile (C : Addr) (W : WX) (ta : TA) : TS := fun _ σ H => tMkFile C ta σ H fun cls d H' => W cls d σ H'
theorem ps_raiseFile {a : Expr} {ta : TA} {W : WX} {p pos pos2 : Pos} {k : Nat} (hc : X.calm = true) (T : GF.FileTxt X.prog X.K X.mg C fI) (hr : Room k X.A) (tk : Takes X W) (ha : PA X [a] ta) (hg : Gl X "FileError" := by rfl)
    (he : starEach (a :: []) X.env = (false, eval a X.env) :: starEach [] X.env := by rfl) (hpl : (backTo pos (starEach [] X.env)).any (·.1) = false := by rfl) :
    PS X (.Raise (some (.Call (.Name "FileError" p) [a] [] pos)) none pos2) (tRaiseFile C W ta) := ps_raise hc tk (pmk_file T hr ha hg he hpl)
end
end GX
end
section
set_option Elab.async false
set_option linter.all false
set_option maxRecDepth 100000
set_option maxHeartbeats 2000000
/-! defs as they stand behind the top, called by their promises; operators of any kind -/
namespace GX
open PySem PySem.Spec PyProof.Rows L2
/-! ### a def -/
structure Def (K : PySem.W.Frag) (mg : Str → Option Value) (x : Str) (st : Stmt) (f : Addr) (fd : FuncData) (c : Addr) : Prop where
  ex : ∃ (oc : Value) (od : Option Addr) (kV doc pm : Value) (an : Option Addr) (ct : Value) (osl : Array (Option Value)),
    fd = PySem.W.fnOf x x (defArgs st) (defBody st) (defScope st) .none kV doc pm an (.ref c) ct ∧ K.lookup f = some ⟨oc, od, .func fd, osl⟩ ∧ PySem.W.codeIn K (.ref c) x = true
  kp : PySem.W.keepIn K (.ref f) = true
  gm : mg x = some (.ref f)
theorem def_mk {K : PySem.W.Frag} {mg : Str → Option Value} {x : Str} {st : Stmt} {f c : Addr} {oc : Value} {od an : Option Addr} {osl : Array (Option Value)} {kV doc pm ct : Value}
    (l : K.lookup f = some ⟨oc, od, .func (PySem.W.fnOf x x (defArgs st) (defBody st) (defScope st) .none kV doc pm an (.ref c) ct), osl⟩) (hc : PySem.W.codeIn K (.ref c) x = true) (k : PySem.W.keepIn K (.ref f) = true) (g : mg x = some (.ref f)) :
    Def K mg x st f (PySem.W.fnOf x x (defArgs st) (defBody st) (defScope st) .none kV doc pm an (.ref c) ct) c := ⟨⟨oc, od, kV, doc, pm, an, ct, osl, rfl, l, hc⟩, k, g⟩
/-- a promise that is kept: called by the name x -/
structure Cal (P : Program) (w : World) (K : PySem.W.Frag) (mg : Str → Option Value) (base : Heap) (k : Nat) (x : Str) (sp : Sp) : Prop where
  ex : ∃ (f : Addr) (fd : FuncData) (ps : List Str), FnOk P w K mg base (L2.CX P w) k f fd ps sp ∧ mg x = some (.ref f) ∧ PySem.W.keepIn K (.ref f) = true ∧ Binds K fd ps []
section
variable {P : Program} {w : World} {K : PySem.W.Frag} {mg : Str → Option Value} {base : Heap}
theorem Cal.imp {k : Nat} {x : Str} {sp sp' : Sp} (c : Cal P w K mg base k x sp) (h : ∀ vs H Q E, sp' vs H Q E → sp vs H Q E) : Cal P w K mg base k x sp' := by
  obtain ⟨f, fd, ps, F, r⟩ := c.ex
  exact ⟨f, fd, ps, F.imp h, r⟩
/-- THE RULE for a def -/
theorem Def.okF {x : Str} {st : Stmt} {f c : Addr} {fd : FuncData} {N ps : List Str} {k : Nat} {sp : Sp} (D : Def K mg x st f fd c) (S : FnScope N ps (defScope st)) (len : ∀ vs H Q E, sp vs H Q E → vs.length = ps.length)
    (bd : ∀ (kV doc pm : Value) (an : Option Addr) (cdv ct : Value) (us : List Value), us.length = ps.length → bindArgs (PySem.W.fnOf x x (defArgs st) (defBody st) (defScope st) .none kV doc pm an cdv ct) ⟨us, []⟩ = pure (ps.zip us))
    (hbody : ∀ (A : Around) (outer : List Env) (s : Shared) (H : Hp) (vs : List V) (Q : VK) (E : XK), Room k (A.deeper (envOfC x (defScope st) s.heap.objs.size f (.ref c))) → sp vs H Q E →
      ∃ t, PSs (cxOf (L2.CX P w) P w K mg base N x (defScope st) f (.ref c) A outer s H E) (defBody st) t ∧ t { nx := fun _ H' => Q .non H', rt := Q } (start N vs) H) :
    FnOk P w K mg base (L2.CX P w) (k + 1) f fd ps sp ∧ (∀ us : List Value, us.length = ps.length → bindArgs fd ⟨us, []⟩ = pure (ps.zip us)) := by
  obtain ⟨⟨oc, od, kV, doc, pm, an, ct, osl, rfl, lk, hcd⟩, kp, gm⟩ := D
  exact ⟨fn_of lk hcd S len fun A outer s H vs Q E hr hsp => hbody A outer s H vs Q E hr hsp, bd kV doc pm an (.ref c) ct⟩
theorem Def.ok {x : Str} {st : Stmt} {f c : Addr} {fd : FuncData} {N ps : List Str} {k : Nat} {sp : Sp} (D : Def K mg x st f fd c) (S : FnScope N ps (defScope st)) (len : ∀ vs H Q E, sp vs H Q E → vs.length = ps.length)
    (bd : ∀ (kV doc pm : Value) (an : Option Addr) (cdv ct : Value) (us : List Value), us.length = ps.length → bindArgs (PySem.W.fnOf x x (defArgs st) (defBody st) (defScope st) .none kV doc pm an cdv ct) ⟨us, []⟩ = pure (ps.zip us))
    (hbody : ∀ (A : Around) (outer : List Env) (s : Shared) (H : Hp) (vs : List V) (Q : VK) (E : XK), Room k (A.deeper (envOfC x (defScope st) s.heap.objs.size f (.ref c))) → sp vs H Q E →
      ∃ t, PSs (cxOf (L2.CX P w) P w K mg base N x (defScope st) f (.ref c) A outer s H E) (defBody st) t ∧ t { nx := fun _ H' => Q .non H', rt := Q } (start N vs) H) : Cal P w K mg base (k + 1) x sp := by
  obtain ⟨F, b⟩ := Def.okF D S len bd hbody
  exact ⟨f, fd, ps, F, D.gm, D.kp, .all b⟩
end
section
variable {X : Cx} {k : Nat} {sp : Sp} {W : WX} {x : Str} {p pos : Pos} {e : Expr} {es : List Expr} {t : TA}
theorem pe_call (c : Cal X.prog X.w X.K X.mg X.base k x sp) (hr : Room k X.A) (tk : Takes X W) (ha : PA X (e :: es) t) (hg : Gl X x := by rfl) (hdb : (x == ("__debug__" : Str)) = false := by decide)
    (he : starEach (e :: es) X.env = (false, eval e X.env) :: starEach es X.env := by rfl) (hpl : (backTo pos (starEach es X.env)).any (·.1) = false := by rfl) : PE X (.Call (.Name x p) (e :: es) [] pos) (tCallS sp (WE W) t) := by
  obtain ⟨f, fd, ps, F, gm, kp, bd⟩ := c.ex
  exact pe_callS F hr hg gm kp bd (fun σ => passAt tk σ) ha hdb he hpl
theorem pe_call0 (c : Cal X.prog X.w X.K X.mg X.base k x sp) (hr : Room k X.A) (tk : Takes X W) (hg : Gl X x := by rfl) (hdb : (x == ("__debug__" : Str)) = false := by decide) : PE X (.Call (.Name x p) [] [] pos) (tCallS sp (WE W) tNil) := by
  obtain ⟨f, fd, ps, F, gm, kp, bd⟩ := c.ex
  refine ⟨fun pins s σ H Q I h => ?_⟩
  refine wpAny_Call_Name_kw (ld_glob I hg gm ?_ hdb)
  exact PySem.W.callWith_K0 I.kIn kp (run_fnS (us := []) F hr bd (passAt tk σ) I .nil h)
end
/-! ### operators of any kind -/
def rAddU (K : PySem.W.Frag) : R2 := fun x y H Q => match x, y with
  | .int i, .int j => Q (.int (i + j)) H
  | .str a, .str b => a.length + b.length ≤ sizeLine ∧ Q (.str (a ++ b)) H
  | .ref _, .ref _ => rCatT K x y H Q ∨ rCat x y H Q
  | _, _ => False
def rSubU : R2 := fun x y H Q => match x, y with
  | .int i, .int j => Q (.int (i - j)) H
  | _, _ => False
def rMulU : R2 := fun x y H Q => match x, y with
  | .int i, .int j => CMul i j ∧ Q (.int (i * j)) H
  | .ref _, .int _ => rRep x y H Q
  | _, _ => False
def rFdvU : R2 := fun x y H Q => match x, y with
  | .int i, .int j => CDiv i j ∧ Q (.int (i / j)) H
  | _, _ => False
def rModU : R2 := fun x y H Q => match x, y with
  | .int i, .int j => 0 < j ∧ Q (.int (i % j)) H
  | _, _ => False
def rPowU : R2 := fun x y H Q => match x, y with
  | .int i, .int j => CPow i j ∧ Q (.int (i ^ j.toNat)) H
  | _, _ => False
def rLtU : R2 := fun x y H Q => match x, y with
  | .int i, .int j => Q (.bl (decide (i < j))) H
  | _, _ => False
def rLeU : R2 := fun x y H Q => match x, y with
  | .int i, .int j => Q (.bl (decide (i ≤ j))) H
  | _, _ => False
def rGtU : R2 := fun x y H Q => match x, y with
  | .int i, .int j => Q (.bl (decide (j < i))) H
  | _, _ => False
def rGeU : R2 := fun x y H Q => match x, y with
  | .int i, .int j => Q (.bl (decide (j ≤ i))) H
  | _, _ => False
def rEqU (K : PySem.W.Frag) : R2 := fun x y H Q => match x, y with
  | .int i, .int j => Q (.bl (decide (i = j))) H
  | .str a, .str b => Q (.bl (decide (a = b))) H
  | .bl a, .bl b => Q (.bl (decide (a = b))) H
  | .ref _, .ref _ => rEqD K x y H Q
  | _, _ => rEq x y H Q
def rNeU (K : PySem.W.Frag) : R2 := fun x y H Q => match x, y with
  | .int i, .int j => Q (.bl (!decide (i = j))) H
  | .str a, .str b => Q (.bl (!decide (a = b))) H
  | .bl a, .bl b => Q (.bl (!decide (a = b))) H
  | .ref _, .ref _ => rNeD K x y H Q
  | _, _ => rNe x y H Q
theorem OpR.imp {X : Cx} {f : Value → Value → Sem Value} {r r' : R2} (h : OpR X f r) (hi : ∀ x y H Q, r' x y H Q → r x y H Q) : OpR X f r' :=
  fun pins s σ H x y v u Q I rx ry q => h pins s σ H x y v u Q I rx ry (hi _ _ _ _ q)
section
variable {X : Cx}
theorem opU_add : OpR X (binaryOp .Add) (rAddU X.K) := OpR.imp (OpR.or op_add (OpR.or op_add_str (OpR.or op_catT op_cat))) (by
  intro x y H Q h
  unfold rAddU at h
  split at h
  · exact .inl ⟨_, _, rfl, rfl, h⟩
  · exact .inr (.inl ⟨_, _, rfl, rfl, h⟩)
  · exact .inr (.inr h)
  · exact h.elim)
theorem opU_sub : OpR X (binaryOp .Sub) rSubU := OpR.imp op_sub (by
  intro x y H Q h
  unfold rSubU at h
  split at h
  · exact ⟨_, _, rfl, rfl, h⟩
  · exact h.elim)
theorem opU_mul : OpR X (binaryOp .Mult) rMulU := OpR.imp (OpR.or op_mul op_rep) (by
  intro x y H Q h
  unfold rMulU at h
  split at h
  · exact .inl ⟨_, _, rfl, rfl, h⟩
  · exact .inr h
  · exact h.elim)
theorem opU_fdv : OpR X (binaryOp .FloorDiv) rFdvU := OpR.imp op_fdiv (by
  intro x y H Q h
  unfold rFdvU at h
  split at h
  · exact ⟨_, _, rfl, rfl, h⟩
  · exact h.elim)
theorem opU_mod : OpR X (binaryOp .Mod) rModU := OpR.imp op_mod (by
  intro x y H Q h
  unfold rModU at h
  split at h
  · exact ⟨_, _, rfl, rfl, h⟩
  · exact h.elim)
theorem opU_pow : OpR X (binaryOp .Pow) rPowU := OpR.imp op_pow (by
  intro x y H Q h
  unfold rPowU at h
  split at h
  · exact ⟨_, _, rfl, rfl, h⟩
  · exact h.elim)
theorem opU_lt : OpR X (compareOp .Lt) rLtU := OpR.imp op_lt (by
  intro x y H Q h
  unfold rLtU at h
  split at h
  · exact ⟨_, _, rfl, rfl, h⟩
  · exact h.elim)
theorem opU_le : OpR X (compareOp .LtE) rLeU := OpR.imp op_le (by
  intro x y H Q h
  unfold rLeU at h
  split at h
  · exact ⟨_, _, rfl, rfl, h⟩
  · exact h.elim)
theorem opU_gt : OpR X (compareOp .Gt) rGtU := OpR.imp op_gt (by
  intro x y H Q h
  unfold rGtU at h
  split at h
  · exact ⟨_, _, rfl, rfl, h⟩
  · exact h.elim)
theorem opU_ge : OpR X (compareOp .GtE) rGeU := OpR.imp op_ge (by
  intro x y H Q h
  unfold rGeU at h
  split at h
  · exact ⟨_, _, rfl, rfl, h⟩
  · exact h.elim)
theorem opU_eq (hu : X.A.units + 64 < cLine) : OpR X (compareOp .Eq) (rEqU X.K) := OpR.imp (OpR.or op_eq (op_eqD hu)) (by
  intro x y H Q h
  unfold rEqU at h
  split at h
  · exact .inl ⟨rfl, by rename_i i j; rw [show decide (V.int i = V.int j) = decide (i = j) by simp]; exact h⟩
  · exact .inl ⟨rfl, by rename_i i j; rw [show decide (V.str i = V.str j) = decide (i = j) by simp]; exact h⟩
  · exact .inl ⟨rfl, by rename_i i j; rw [show decide (V.bl i = V.bl j) = decide (i = j) by simp]; exact h⟩
  · exact .inr h
  · exact .inl h)
theorem opU_ne (hu : X.A.units + 64 < cLine) : OpR X (compareOp .NotEq) (rNeU X.K) := OpR.imp (OpR.or op_ne (op_neD hu)) (by
  intro x y H Q h
  unfold rNeU at h
  split at h
  · exact .inl ⟨rfl, by rename_i i j; rw [show decide (V.int i = V.int j) = decide (i = j) by simp]; exact h⟩
  · exact .inl ⟨rfl, by rename_i i j; rw [show decide (V.str i = V.str j) = decide (i = j) by simp]; exact h⟩
  · exact .inl ⟨rfl, by rename_i i j; rw [show decide (V.bl i = V.bl j) = decide (i = j) by simp]; exact h⟩
  · exact .inr h
  · exact .inl h)
/-- text.index(part), the part there -/
def rSIndex : V → List V → Hp → VK → Prop := fun x xs H Q => ∃ a b i rest, x = .str a ∧ xs = [.str b] ∧ Builtin.Str.occurrences a b 0 a.length 1 = i :: rest ∧ Q (.int (i : Nat)) H
theorem mt_sindex : MtR X "str.index" rSIndex := by
  intro pins s σ H x xs v us Q I rx rs h
  obtain ⟨a, b, i, rest, rfl, rfl, ho, h⟩ := h
  obtain ⟨t, rfl⟩ := rx
  cases rs with
  | cons r1 rs =>
    cases rs
    obtain ⟨u, rfl⟩ := r1
    exact PySem.SC.index ho ⟨.int i, H, I.tok _, ⟨_, rfl⟩, h⟩
end
end GX
end
section
set_option Elab.async false
set_option linter.all false
set_option maxRecDepth 100000
set_option maxHeartbeats 2000000
/-! what stays; the turns of a generator over a text, a list, a tuple, a range -/
namespace GX
open PySem PySem.Spec PyProof.Rows L2
/-- all but A and the tables stays; tables stay tables -/
structure Ex (A : List Addr) (TL : List (Addr × Str)) (GT : List Addr) (H H' : Hp) : Prop where
  ext : ∀ b o, b ∉ A → H b = some o → (∀ ps, o ≠ .tbl ps) → H' b = some o
  tl : LamX.Tabs TL H → LamX.Tabs TL H'
  tg : (∀ P ∈ GT, H P = some (TblE P)) → ∀ P ∈ GT, H' P = some (TblE P)
  tup : ∀ b xs, Rd H b (.tup xs) → Rd H' b (.tup xs)
/-- nothing stands there but, it may be, a table -/
def free (H : Hp) (a : Addr) : Prop := ∀ o, H a = some o → ∃ ps, o = .tbl ps
theorem free_none {H : Hp} {a : Addr} (h : H a = none) : free H a := fun o e => by rw [h] at e; cases e
/-- what may change -/
def isMut : HO → Bool
  | .lst _ => true | .dK _ => true | .dT _ => true | .ins _ _ _ => true | _ => false
/-- the tables stand -/
structure Tb (TL : List (Addr × Str)) (GT : List Addr) (H : Hp) : Prop where
  tl : LamX.Tabs TL H
  tg : ∀ P ∈ GT, H P = some (TblE P)
section
variable {A B : List Addr} {TL : List (Addr × Str)} {GT : List Addr} {H H1 H2 : Hp}
theorem Ex.refl : Ex A TL GT H H := ⟨fun _ _ _ h _ => h, fun h => h, fun h => h, fun _ _ h => h⟩
theorem Ex.trans (a : Ex A TL GT H H1) (b : Ex A TL GT H1 H2) : Ex A TL GT H H2 :=
  ⟨fun c o n h t => b.ext c o n (a.ext c o n h t) t, fun h => b.tl (a.tl h), fun h => b.tg (a.tg h), fun c xs h => b.tup c xs (a.tup c xs h)⟩
theorem Ex.mono (a : Ex A TL GT H H1) (h : ∀ x ∈ A, x ∈ B) : Ex B TL GT H H1 := ⟨fun c o n e t => a.ext c o (fun q => n (h _ q)) e t, a.tl, a.tg, a.tup⟩
theorem Ex.any (a : Ex [] TL GT H H1) : Ex A TL GT H H1 := a.mono (by simp)
theorem Ex.tb (a : Ex A TL GT H H1) (t : Tb TL GT H) : Tb TL GT H1 := ⟨a.tl t.tl, a.tg t.tg⟩
theorem tabs_upd_new {p : Addr} {o : HO} (hp : H p = none) : LamX.Tabs TL H → LamX.Tabs TL (upd H p o) := fun h q hq => by
  obtain ⟨ps, e, ok, hc⟩ := h q hq
  refine ⟨ps, by rw [upd_ne (ne_of_none e hp)]; exact e, ok, fun pos cv hcv => ?_⟩
  obtain ⟨c, rfl, hc⟩ := hc pos cv hcv
  exact ⟨c, rfl, by rw [upd_ne (ne_of_none hc hp)]; exact hc⟩
/-- a new object -/
theorem Ex.new {p : Addr} {o : HO} (hp : H p = none) : Ex A TL GT H (upd H p o) :=
  ⟨fun b o' _ e _ => by rw [upd_ne (ne_of_none e hp)]; exact e, tabs_upd_new hp, fun h P hP => by
    rw [upd_ne (ne_of_none (h P hP) hp)]
    exact h P hP, fun b xs h => by
    rcases h with h | ⟨ob, h⟩
    · exact .inl (by rw [upd_ne (ne_of_none h hp)]; exact h)
    · exact .inr ⟨ob, by rw [upd_ne (ne_of_none h hp)]; exact h⟩⟩
/-- an object changed that is no table and no code -/
theorem Ex.chg {a : Addr} {o o' : HO} (x : Ex A TL GT H H1) (e : H1 a = some o) (hm : isMut o = true) (ha : a ∈ A ∨ free H a) : Ex A TL GT H (upd H1 a o') := by
  have h1 : ∀ ps, o ≠ .tbl ps := fun ps z => by rw [z] at hm; cases hm
  have h2 : ∀ φ, o ≠ .ext φ := fun ps z => by rw [z] at hm; cases hm
  have h3 : ∀ xs, o ≠ .tup xs := fun ps z => by rw [z] at hm; cases hm
  have h4 : ∀ ob u, o ≠ .frz ob u := fun ob u z => by rw [z] at hm; cases hm
  refine ⟨fun b ob nb eb ne => ?_, fun h q hq => ?_, fun h P hP => ?_, fun b xs h => ?_⟩
  · have nz : b ≠ a := fun z => by
      rcases ha with ha | ha
      · exact nb (by rw [z]; exact ha)
      · rw [z] at eb
        obtain ⟨ps, q⟩ := ha _ eb
        exact ne ps q
    rw [upd_ne nz]; exact x.ext b ob nb eb ne
  · obtain ⟨ps, eq, ok, hc⟩ := x.tl h q hq
    have n1 : q.1 ≠ a := fun z => by rw [z, e] at eq; exact h1 ps (Option.some.inj eq)
    refine ⟨ps, by rw [upd_ne n1]; exact eq, ok, fun pos cv hcv => ?_⟩
    obtain ⟨c, rfl, hc⟩ := hc pos cv hcv
    have n2 : c ≠ a := fun z => by rw [z, e] at hc; exact h2 _ (Option.some.inj hc)
    exact ⟨c, rfl, by rw [upd_ne n2]; exact hc⟩
  · have eq := x.tg h P hP
    have n1 : P ≠ a := fun z => by rw [z, e] at eq; exact h2 _ (Option.some.inj eq)
    rw [upd_ne n1]
    exact eq
  · rcases x.tup b xs h with h | ⟨ob, h⟩
    · have n1 : b ≠ a := fun z => by rw [z, e] at h; exact h3 _ (Option.some.inj h)
      exact .inl (by rw [upd_ne n1]; exact h)
    · have n1 : b ≠ a := fun z => by rw [z, e] at h; exact h4 _ _ (Option.some.inj h)
      exact .inr ⟨ob, by rw [upd_ne n1]; exact h⟩
theorem Ex.put {a : Addr} {o o' : HO} (ha : a ∈ A) (e : H a = some o) (hm : isMut o = true) : Ex A TL GT H (upd H a o') := Ex.refl.chg e hm (.inl ha)
theorem Ex.fresh {p : Addr} (x : Ex A TL GT H H1) (h : free H1 p) : p ∈ A ∨ free H p := by
  by_cases hp : p ∈ A
  · exact .inl hp
  · refine .inr fun o e => ?_
    by_cases ht : ∃ ps, o = .tbl ps
    · exact ht
    · exact h o (x.ext p o hp e (fun ps z => ht ⟨ps, z⟩))
/-- a new object behind -/
theorem Ex.add {p : Addr} {o : HO} (x : Ex A TL GT H H1) (hp : H1 p = none) : Ex A TL GT H (upd H1 p o) := x.trans (Ex.new hp)
theorem Ex.tupA (a : Ex A TL GT H H1) {p : Addr} {xs : List V} (hp : p ∉ A) (e : H p = some (.tup xs)) : H1 p = some (.tup xs) := a.ext p _ hp e (fun _ q => by cases q)
theorem Ex.lst (a : Ex A TL GT H H1) {p : Addr} {xs : List V} (hp : p ∉ A) (e : H p = some (.lst xs)) : H1 p = some (.lst xs) := a.ext p _ hp e (fun _ q => by cases q)
end
section
variable {g : TG} {tt : TT} {te : TE} {vs : List Nat} {Yx : List V → V → Hp → Prop} {σ : L2.St} {H0 : Hp} {cont : List V → Hp → Prop}
theorem turns_str {z : Str} (Pv : Nat → List V → Hp → Prop) (h0 : Pv 0 [] H0)
    (hs : ∀ i c ys H, z.cps[i]? = some c → Pv i ys H → g (.str ⟨#[c]⟩) (wipe σ vs) H fun σ2 H2 => wipe σ2 vs = wipe σ vs ∧ tt σ2 H2 fun b H3 => if b = true then te σ2 H3 fun y H4 => ys.length < sizeLine ∧ Yx ys y H4 ∧ Pv (i + 1) (ys ++ [y]) H4 else Pv (i + 1) ys H3)
    (hd : ∀ ys H, Pv z.cps.size ys H → cont ys H) : tTurns g tt te vs Yx σ (Its z) H0 cont := by
  refine ⟨fun i m ys H => m = z.cps.size - i ∧ i ≤ z.cps.size ∧ Pv i ys H, ⟨_, rfl, Nat.zero_le _, h0⟩, ?_⟩
  rintro i m ys H ⟨rfl, hi, p⟩
  by_cases hlt : i < z.cps.size
  · refine .inr ⟨hlt, Pv (i + 1), fun ys' H' p' => ⟨z.cps.size - (i + 1), by omega, rfl, hlt, p'⟩, fun x H' y => ?_⟩
    obtain ⟨rfl, c, hc, rfl⟩ := y
    exact hs i c ys H' hc p
  · have e : i = z.cps.size := by omega
    subst e
    exact .inl ⟨Nat.le_refl _, hd _ _ p⟩
theorem turns_list {K : PySem.W.Frag} {a : Addr} {xs : List V} (Pv : Nat → List V → Hp → Prop) (h0 : Pv 0 [] H0) (hl : ∀ i ys H, i ≤ xs.length → Pv i ys H → SqL K H a xs)
    (hs : ∀ i x ys H, xs[i]? = some x → Pv i ys H → g x (wipe σ vs) H fun σ2 H2 => wipe σ2 vs = wipe σ vs ∧ tt σ2 H2 fun b H3 => if b = true then te σ2 H3 fun y H4 => ys.length < sizeLine ∧ Yx ys y H4 ∧ Pv (i + 1) (ys ++ [y]) H4 else Pv (i + 1) ys H3)
    (hd : ∀ ys H, Pv xs.length ys H → cont ys H) : tTurns g tt te vs Yx σ (Itl K a) H0 cont := by
  refine ⟨fun i m ys H => m = xs.length - i ∧ i ≤ xs.length ∧ Pv i ys H, ⟨_, rfl, Nat.zero_le _, h0⟩, ?_⟩
  rintro i m ys H ⟨rfl, hi, p⟩
  have q := hl i ys H hi p
  by_cases hlt : i < xs.length
  · refine .inr ⟨⟨xs, xs[i], q, by simp [hlt]⟩, Pv (i + 1), fun ys' H' p' => ⟨xs.length - (i + 1), by omega, rfl, hlt, p'⟩, fun x H' y => ?_⟩
    obtain ⟨rfl, hx⟩ := y
    exact hs i x ys H' (hx xs q) p
  · have e : i = xs.length := by omega
    subst e
    exact .inl ⟨⟨xs, q, Nat.le_refl _⟩, hd _ _ p⟩
theorem turns_tup {K : PySem.W.Frag} {a : Addr} {xs : List V} (Pv : Nat → List V → Hp → Prop) (h0 : Pv 0 [] H0) (hl : ∀ i ys H, i ≤ xs.length → Pv i ys H → SqT K H a xs)
    (hs : ∀ i x ys H, xs[i]? = some x → Pv i ys H → g x (wipe σ vs) H fun σ2 H2 => wipe σ2 vs = wipe σ vs ∧ tt σ2 H2 fun b H3 => if b = true then te σ2 H3 fun y H4 => ys.length < sizeLine ∧ Yx ys y H4 ∧ Pv (i + 1) (ys ++ [y]) H4 else Pv (i + 1) ys H3)
    (hd : ∀ ys H, Pv xs.length ys H → cont ys H) : tTurns g tt te vs Yx σ (Itt K a) H0 cont := by
  refine ⟨fun i m ys H => m = xs.length - i ∧ i ≤ xs.length ∧ Pv i ys H, ⟨_, rfl, Nat.zero_le _, h0⟩, ?_⟩
  rintro i m ys H ⟨rfl, hi, p⟩
  have q := hl i ys H hi p
  by_cases hlt : i < xs.length
  · refine .inr ⟨⟨xs, xs[i], q, by simp [hlt]⟩, Pv (i + 1), fun ys' H' p' => ⟨xs.length - (i + 1), by omega, rfl, hlt, p'⟩, fun x H' y => ?_⟩
    obtain ⟨rfl, hx⟩ := y
    exact hs i x ys H' (hx xs q) p
  · have e : i = xs.length := by omega
    subst e
    exact .inl ⟨⟨xs, q, Nat.le_refl _⟩, hd _ _ p⟩
theorem turns_range {lo : Int} {n : Nat} (Pv : Nat → List V → Hp → Prop) (h0 : Pv 0 [] H0)
    (hs : ∀ i ys H, i < n → Pv i ys H → g (.int (lo + i)) (wipe σ vs) H fun σ2 H2 => wipe σ2 vs = wipe σ vs ∧ tt σ2 H2 fun b H3 => if b = true then te σ2 H3 fun y H4 => ys.length < sizeLine ∧ Yx ys y H4 ∧ Pv (i + 1) (ys ++ [y]) H4 else Pv (i + 1) ys H3)
    (hd : ∀ ys H, Pv n ys H → cont ys H) : tTurns g tt te vs Yx σ (Itr lo n) H0 cont := by
  refine ⟨fun i m ys H => m = n - i ∧ i ≤ n ∧ Pv i ys H, ⟨_, rfl, Nat.zero_le _, h0⟩, ?_⟩
  rintro i m ys H ⟨rfl, hi, p⟩
  by_cases hlt : i < n
  · refine .inr ⟨hlt, Pv (i + 1), fun ys' H' p' => ⟨n - (i + 1), by omega, rfl, hlt, p'⟩, fun x H' y => ?_⟩
    obtain ⟨rfl, rfl⟩ := y
    exact hs i ys H' hlt p
  · have e : i = n := by omega
    subst e
    exact .inl ⟨Nat.le_refl _, hd _ _ p⟩
theorem pe_gl {X : Cx} {x : Str} {v : V} {pos : Pos} (hg : Gl X x) (h : ∃ u, X.mg x = some u ∧ RelV v u) (hd : (x == ("__debug__" : Str)) = false := by decide) : PE X (.Name x pos) (tC v) := by
  obtain ⟨u, hm, r⟩ := h
  exact pe_glob hg hm r hd
theorem cx_K {CX : CXT} {P : Program} {w : World} {K : PySem.W.Frag} {mg : Str → Option Value} {base : Heap} {N : List Str} {qual : Str} {scope : Scope} {f : Addr} {cd : Value} {A : Around} {outer : List Env} {s : Shared} {H : Hp} {E : XK} :
    (cxOf CX P w K mg base N qual scope f cd A outer s H E).K = K := rfl
theorem gcx_K {X : Cx} {A : Around} {s : Shared} {H : Hp} {E : XK} {scope : Scope} {L : Addr} {code : Value} {bi : Addr} {pn : List (Addr × Obj)} : (gCx X A s H E scope L code bi pn).K = X.K := rfl
theorem sz (n : Nat) (h : n ≤ 16777216 := by decide) : n ≤ sizeLine := by rw [sizeLine_eq]; exact h
section
variable {K : PySem.W.Frag} {H : Hp} {p : Addr} {xs : List V} {i : Int} {v : V} {Q : VK}
theorem rIx_tup (hs : SqT K H p xs) (h : atI xs i = some v) (q : Q v H) : rIx K (.ref p) (.int i) H Q := .inr (.inl ⟨p, xs, i, v, rfl, rfl, hs, h, q⟩)
theorem rIx_lst (hs : SqL K H p xs) (h : atI xs i = some v) (q : Q v H) : rIx K (.ref p) (.int i) H Q := .inl ⟨p, xs, i, v, rfl, rfl, hs, h, q⟩
theorem rIx_str {z : Str} {c : Nat} (hz : z.length ≤ sizeLine) (h : atI z.cps.toList i = some c) (q : Q (.str ⟨#[c]⟩) H) : rIx K (.str z) (.int i) H Q := .inr (.inr ⟨z, i, c, rfl, rfl, hz, h, q⟩)
theorem lst_at (h : H p = some (.lst xs)) : SqL K H p xs := .inl (.of h)
theorem tup_at (h : H p = some (.tup xs)) : SqT K H p xs := .inl (.of h)
end
section
variable {K : PySem.W.Frag} {H : Hp} {Q : VK} {i j : Int} {a b : Str} {k l : Bool} {p q : Addr}
theorem addU_int : rAddU K (.int i) (.int j) H Q = Q (.int (i + j)) H := rfl
theorem addU_str : rAddU K (.str a) (.str b) H Q = (a.length + b.length ≤ sizeLine ∧ Q (.str (a ++ b)) H) := rfl
theorem addU_ref : rAddU K (.ref p) (.ref q) H Q = (rCatT K (.ref p) (.ref q) H Q ∨ rCat (.ref p) (.ref q) H Q) := rfl
theorem subU_int : rSubU (.int i) (.int j) H Q = Q (.int (i - j)) H := rfl
theorem mulU_int : rMulU (.int i) (.int j) H Q = (CMul i j ∧ Q (.int (i * j)) H) := rfl
theorem mulU_ref : rMulU (.ref p) (.int j) H Q = rRep (.ref p) (.int j) H Q := rfl
theorem fdvU_int : rFdvU (.int i) (.int j) H Q = (CDiv i j ∧ Q (.int (i / j)) H) := rfl
theorem modU_int : rModU (.int i) (.int j) H Q = (0 < j ∧ Q (.int (i % j)) H) := rfl
theorem powU_int : rPowU (.int i) (.int j) H Q = (CPow i j ∧ Q (.int (i ^ j.toNat)) H) := rfl
theorem ltU_int : rLtU (.int i) (.int j) H Q = Q (.bl (decide (i < j))) H := rfl
theorem leU_int : rLeU (.int i) (.int j) H Q = Q (.bl (decide (i ≤ j))) H := rfl
theorem gtU_int : rGtU (.int i) (.int j) H Q = Q (.bl (decide (j < i))) H := rfl
theorem geU_int : rGeU (.int i) (.int j) H Q = Q (.bl (decide (j ≤ i))) H := rfl
theorem eqU_int : rEqU K (.int i) (.int j) H Q = Q (.bl (decide (i = j))) H := rfl
theorem eqU_str : rEqU K (.str a) (.str b) H Q = Q (.bl (decide (a = b))) H := rfl
theorem eqU_bl : rEqU K (.bl k) (.bl l) H Q = Q (.bl (decide (k = l))) H := rfl
theorem eqU_ref : rEqU K (.ref p) (.ref q) H Q = rEqD K (.ref p) (.ref q) H Q := rfl
theorem neU_int : rNeU K (.int i) (.int j) H Q = Q (.bl (!decide (i = j))) H := rfl
theorem neU_str : rNeU K (.str a) (.str b) H Q = Q (.bl (!decide (a = b))) H := rfl
theorem neU_bl : rNeU K (.bl k) (.bl l) H Q = Q (.bl (!decide (k = l))) H := rfl
theorem neU_ref : rNeU K (.ref p) (.ref q) H Q = rNeD K (.ref p) (.ref q) H Q := rfl
theorem setL_at {i v : V} {xs : List V} {n : Int} {j : Nat} {R : Hp → Prop} (h : H p = some (.lst xs)) (hi : i = .int n) (hj : ixN xs.length n = some j) (q : R (upd H p (.lst (xs.set j v)))) : rSetL (.ref p) i v H R := ⟨p, xs, n, j, rfl, hi, h, hj, q⟩
end
/-! ### loops, folded -/
def Loop (g : TG) (tb : TS) (D : Ends) (J : It) (σ : L2.St) (H1 : Hp) : Prop := ∃ W : Nat → Nat → L2.St → Hp → Prop, (∃ m, W 0 m σ H1) ∧ ∀ i m σ H, W i m σ H →
  (J.stop i H ∧ D.nx σ H) ∨ (J.go i H ∧ ∃ N : L2.St → Hp → Prop, (∀ σ' H', N σ' H' → ∃ m', m' < m ∧ W (i + 1) m' σ' H') ∧ ∀ x H', J.yld i H x H' → g x σ H' fun σ2 H2 => tb { D with nx := N, ct := N, bk := D.nx } σ2 H2)
theorem tFor_eq {wi : TI} {g : TG} {tb : TS} {D : Ends} {σ : L2.St} {H : Hp} : tFor wi g tb D σ H = wi σ H fun J H1 => Loop g tb D J σ H1 := rfl
theorem loop_list {K : PySem.W.Frag} {a : Addr} {xs : List V} {g : TG} {tb : TS} {D : Ends} {σ : L2.St} {H : Hp} (Pv : Nat → L2.St → Hp → Prop) (h0 : Pv 0 σ H) (hl : ∀ i σ H, i ≤ xs.length → Pv i σ H → SqL K H a xs)
    (hs : ∀ i x σ H, xs[i]? = some x → Pv i σ H → g x σ H fun σ2 H2 => tb { D with nx := Pv (i + 1), ct := Pv (i + 1), bk := D.nx } σ2 H2) (hd : ∀ σ H, Pv xs.length σ H → D.nx σ H) : Loop g tb D (Itl K a) σ H := for_list Pv h0 hl hs hd
theorem loop_tup {K : PySem.W.Frag} {a : Addr} {xs : List V} {g : TG} {tb : TS} {D : Ends} {σ : L2.St} {H : Hp} (Pv : Nat → L2.St → Hp → Prop) (h0 : Pv 0 σ H) (hl : ∀ i σ H, i ≤ xs.length → Pv i σ H → SqT K H a xs)
    (hs : ∀ i x σ H, xs[i]? = some x → Pv i σ H → g x σ H fun σ2 H2 => tb { D with nx := Pv (i + 1), ct := Pv (i + 1), bk := D.nx } σ2 H2) (hd : ∀ σ H, Pv xs.length σ H → D.nx σ H) : Loop g tb D (Itt K a) σ H := for_tup Pv h0 hl hs hd
theorem loop_range {lo : Int} {n : Nat} {g : TG} {tb : TS} {D : Ends} {σ : L2.St} {H : Hp} (Pv : Nat → L2.St → Hp → Prop) (h0 : Pv 0 σ H)
    (hs : ∀ i σ H, i < n → Pv i σ H → g (.int (lo + i)) σ H fun σ2 H2 => tb { D with nx := Pv (i + 1), ct := Pv (i + 1), bk := D.nx } σ2 H2) (hd : ∀ σ H, Pv n σ H → D.nx σ H) : Loop g tb D (Itr lo n) σ H := for_range Pv h0 hs hd
def LcLoop (g : TG) (tt : TT) (te : TE) (vs : List Nat) (J : It) (σ : L2.St) (H1 : Hp) (D : Addr) (Q : Hp → Prop) : Prop := ∃ W : Nat → Nat → Hp → Prop, (∃ m, W 0 m (upd H1 D (.lst []))) ∧ ∀ i m H, W i m H →
  (J.stop i H ∧ Q H) ∨ (J.go i H ∧ ∃ Nx : Hp → Prop, (∀ H', Nx H' → ∃ m', m' < m ∧ W (i + 1) m' H') ∧ ∀ x H', J.yld i H x H' → g x (wipe σ vs) H' fun σ2 H2 => wipe σ2 vs = wipe σ vs ∧ tt σ2 H2 fun b H3 =>
    if b = true then te σ2 H3 fun y H4 => ∃ acc, H4 D = some (.lst acc) ∧ acc.length < sizeLine ∧ Nx (upd H4 D (.lst (acc ++ [y]))) else Nx H3)
theorem tLc_eq {wi : TI} {g : TG} {tt : TT} {te : TE} {vs : List Nat} {σ : L2.St} {H : Hp} {Q : VK} : tLc wi g tt te vs σ H Q = wi σ H fun J H1 => ∀ D, H1 D = none → LcLoop g tt te vs J σ H1 D (Q (.ref D)) := rfl
theorem lcl_list {K : PySem.W.Frag} {a : Addr} {xs : List V} {g : TG} {tt : TT} {te : TE} {vs : List Nat} {σ : L2.St} {H1 : Hp} {D : Addr} {Qd : Hp → Prop} (Pv : Nat → Hp → Prop) (h0 : Pv 0 (upd H1 D (.lst []))) (hl : ∀ i H, i ≤ xs.length → Pv i H → SqL K H a xs)
    (hs : ∀ i x H, xs[i]? = some x → Pv i H → g x (wipe σ vs) H fun σ2 H2 => wipe σ2 vs = wipe σ vs ∧ tt σ2 H2 fun b H3 =>
      if b = true then te σ2 H3 fun y H4 => ∃ acc, H4 D = some (.lst acc) ∧ acc.length < sizeLine ∧ Pv (i + 1) (upd H4 D (.lst (acc ++ [y]))) else Pv (i + 1) H3) (hd : ∀ H, Pv xs.length H → Qd H) : LcLoop g tt te vs (Itl K a) σ H1 D Qd := lc_list Pv h0 hl hs hd
theorem lcl_tup {K : PySem.W.Frag} {a : Addr} {xs : List V} {g : TG} {tt : TT} {te : TE} {vs : List Nat} {σ : L2.St} {H1 : Hp} {D : Addr} {Qd : Hp → Prop} (Pv : Nat → Hp → Prop) (h0 : Pv 0 (upd H1 D (.lst []))) (hl : ∀ i H, i ≤ xs.length → Pv i H → SqT K H a xs)
    (hs : ∀ i x H, xs[i]? = some x → Pv i H → g x (wipe σ vs) H fun σ2 H2 => wipe σ2 vs = wipe σ vs ∧ tt σ2 H2 fun b H3 =>
      if b = true then te σ2 H3 fun y H4 => ∃ acc, H4 D = some (.lst acc) ∧ acc.length < sizeLine ∧ Pv (i + 1) (upd H4 D (.lst (acc ++ [y]))) else Pv (i + 1) H3) (hd : ∀ H, Pv xs.length H → Qd H) : LcLoop g tt te vs (Itt K a) σ H1 D Qd := lc_tup Pv h0 hl hs hd
theorem lcl_range {lo : Int} {n : Nat} {g : TG} {tt : TT} {te : TE} {vs : List Nat} {σ : L2.St} {H1 : Hp} {D : Addr} {Qd : Hp → Prop} (Pv : Nat → Hp → Prop) (h0 : Pv 0 (upd H1 D (.lst [])))
    (hs : ∀ i H, i < n → Pv i H → g (.int (lo + i)) (wipe σ vs) H fun σ2 H2 => wipe σ2 vs = wipe σ vs ∧ tt σ2 H2 fun b H3 =>
      if b = true then te σ2 H3 fun y H4 => ∃ acc, H4 D = some (.lst acc) ∧ acc.length < sizeLine ∧ Pv (i + 1) (upd H4 D (.lst (acc ++ [y]))) else Pv (i + 1) H3) (hd : ∀ H, Pv n H → Qd H) : LcLoop g tt te vs (Itr lo n) σ H1 D Qd := lc_range Pv h0 hs hd
theorem lcl_str {z : Str} {g : TG} {tt : TT} {te : TE} {vs : List Nat} {σ : L2.St} {H1 : Hp} {D : Addr} {Qd : Hp → Prop} (Pv : Nat → Hp → Prop) (h0 : Pv 0 (upd H1 D (.lst [])))
    (hs : ∀ i c H, z.cps[i]? = some c → Pv i H → g (.str ⟨#[c]⟩) (wipe σ vs) H fun σ2 H2 => wipe σ2 vs = wipe σ vs ∧ tt σ2 H2 fun b H3 =>
      if b = true then te σ2 H3 fun y H4 => ∃ acc, H4 D = some (.lst acc) ∧ acc.length < sizeLine ∧ Pv (i + 1) (upd H4 D (.lst (acc ++ [y]))) else Pv (i + 1) H3) (hd : ∀ H, Pv z.cps.size H → Qd H) : LcLoop g tt te vs (Its z) σ H1 D Qd := by
  refine ⟨fun i m H => m = z.cps.size - i ∧ i ≤ z.cps.size ∧ Pv i H, ⟨_, rfl, Nat.zero_le _, h0⟩, ?_⟩
  rintro i m H ⟨rfl, hi, p⟩
  by_cases hlt : i < z.cps.size
  · refine .inr ⟨hlt, Pv (i + 1), fun H' p' => ⟨z.cps.size - (i + 1), by omega, rfl, hlt, p'⟩, fun x H' y => ?_⟩
    obtain ⟨rfl, c, hc, rfl⟩ := y
    exact hs i c H' hc p
  · have e : i = z.cps.size := by omega
    subst e
    exact .inl ⟨Nat.le_refl _, hd _ p⟩
/-- int(v) -/
def rIntU : List V → Hp → VK → Prop := fun xs H Q => match xs with
  | [.int i] => Q (.int i) H
  | [.bl k] => Q (.int (if k then 1 else 0)) H
  | _ => False
theorem call_intU {X : Cx} : CallR X (.type "int") rIntU := by
  intro pins s σ H xs us Q I rs h
  refine call_int1 pins s σ H xs us Q I rs ?_
  unfold rIntU at h
  split at h
  · exact .inl ⟨_, rfl, h⟩
  · exact .inr ⟨_, rfl, h⟩
  · exact h.elim
theorem intU_int {H : Hp} {Q : VK} {i : Int} : rIntU [.int i] H Q = Q (.int i) H := rfl
theorem intU_bl {H : Hp} {Q : VK} {k : Bool} : rIntU [.bl k] H Q = Q (.int (if k then 1 else 0)) H := rfl
theorem Ex.sqt {A : List Addr} {TL : List (Addr × Str)} {GT : List Addr} {H H1 : Hp} {K : PySem.W.Frag} {p : Addr} {xs : List V} (a : Ex A TL GT H H1) (e : SqT K H p xs) : SqT K H1 p xs := by
  rcases e with e | e
  · exact .inl (a.tup _ _ e)
  · exact .inr e
theorem tup_sqt {K : PySem.W.Frag} {H : Hp} {p : Addr} {xs : List V} (h : H p = some (.tup xs)) : SqT K H p xs := .inl (.of h)
theorem Ex.sql {A : List Addr} {TL : List (Addr × Str)} {GT : List Addr} {H H1 : Hp} {K : PySem.W.Frag} {p : Addr} {xs : List V} (a : Ex A TL GT H H1) (hp : p ∉ A) (e : SqL K H p xs) : SqL K H1 p xs := by
  rcases e with (e | ⟨o, e⟩) | e
  · exact .inl (.inl (a.ext p _ hp e (fun _ q => by cases q)))
  · exact .inl (.inr ⟨o, a.ext p _ hp e (fun _ q => by cases q)⟩)
  · exact .inr e
theorem map_at {α β : Type} {f : α → β} {l : List α} {i : Nat} {x : β} (h : (l.map f)[i]? = some x) : ∃ z, l[i]? = some z ∧ x = f z := by
  rw [List.getElem?_map] at h
  cases e : l[i]? with
  | none => rw [e] at h; cases h
  | some z => rw [e] at h; exact ⟨z, rfl, (Option.some.inj h).symm⟩
theorem take_more {α : Type} {l : List α} {i : Nat} {x : α} (h : l[i]? = some x) : l.take (i + 1) = l.take i ++ [x] := by
  rw [List.take_add_one, h]; rfl
/-- over the top: a list that is younger than H changes -/
theorem Ex.over {A : List Addr} {TL : List (Addr × Str)} {GT : List Addr} {H H1 : Hp} {D : Addr} {o o' : HO} (a : Ex A TL GT H H1) (hd : H D = none) (e : H1 D = some o) (hm : isMut o = true) : Ex A TL GT H (L2.upd H1 D o') := a.chg e hm (.inr (free_none hd))
theorem Ex.overL {A : List Addr} {TL : List (Addr × Str)} {GT : List Addr} {H H1 : Hp} {D : Addr} {xs : List V} {o' : HO} (a : Ex A TL GT H H1) (hd : H D = none) (e : H1 D = some (.lst xs)) : Ex A TL GT H (L2.upd H1 D o') := a.chg e rfl (.inr (free_none hd))
/-! ### the written part by its name -/
theorem opK {X : Cx} {f : Value → Value → Sem Value} {K : PySem.W.Frag} {r : PySem.W.Frag → R2} (h : OpR X f (r X.K)) (e : X.K = K) : OpR X f (r K) := by
  rw [← e]; exact h
theorem ixK {X : Cx} {K : PySem.W.Frag} {r : PySem.W.Frag → R2} (h : IxR X (r X.K)) (e : X.K = K) : IxR X (r K) := by
  rw [← e]; exact h
theorem slK {X : Cx} {K : PySem.W.Frag} {r : PySem.W.Frag → V → Option Int → Option Int → Hp → VK → Prop} (h : SlR X (r X.K)) (e : X.K = K) : SlR X (r K) := by
  rw [← e]; exact h
def rLenU (K : PySem.W.Frag) : List V → Hp → VK → Prop := fun xs H Q => ∃ x n, xs = [x] ∧ LenV K x H n ∧ Q (.int (n : Nat)) H
theorem call_lenU {X : Cx} {K : PySem.W.Frag} (e : X.K = K) : CallR X (.builtin "len") (rLenU K) := by
  rw [← e]; exact call_len
def tTruU (K : PySem.W.Frag) (ta : TE) : TT := fun σ H Q => ta σ H fun x H' => ∃ k, TruV K x H' k ∧ Q k H'
theorem pt_truU {X : Cx} {K : PySem.W.Frag} {a : Expr} {ta : TE} (e : X.K = K) (h : PT X a (tTruU X.K ta)) : PT X a (tTruU K ta) := by
  rw [← e]; exact h
theorem tupOfK {X : Cx} {K : PySem.W.Frag} {a : Expr} {ta : TE} {p pos : Pos} (e : X.K = K) (h : PE X (.Call (.Name "tuple" p) [a] [] pos) (tThen ta (kTup X.K))) : PE X (.Call (.Name "tuple" p) [a] [] pos) (tThen ta (kTup K)) := by
  rw [← e]; exact h
def tTupL (K : PySem.W.Frag) (ta : TE) : TE := fun σ H Q => ta σ H fun x H1 => ∃ p xs, x = .ref p ∧ SqL K H1 p xs ∧ ∀ q, H1 q = none → Q (.ref q) (upd H1 q (.tup xs))
theorem pe_tupL {X : Cx} {K : PySem.W.Frag} {a : Expr} {ta : TE} {p pos : Pos} (e : X.K = K) (hg : Gl X "tuple") (hm : X.mg "tuple" = none) (ha : PE X a ta) (na : starEach [a] X.env = (false, eval a X.env) :: starEach [] X.env := by rfl) :
    PE X (.Call (.Name "tuple" p) [a] [] pos) (tTupL K ta) := by
  subst e
  refine ⟨fun pins s σ H Q I h => ?_⟩
  exact Call_ (ld_blt I hg hm boot_tuple (PyProof.Rows.callWith_type1 (one_arg ha I h (fun v s2 x H2 I2 r q => rl_tuple pins s2 σ H2 x v Q I2 r (.inl q)) na) na))
theorem ex2eq {α β : Type} {a : α} {b : β} {P : α → β → Prop} : (∃ v w, (a = v ∧ b = w) ∧ P v w) ↔ P a b := ⟨fun ⟨_, _, ⟨rfl, rfl⟩, h⟩ => h, fun h => ⟨a, b, ⟨rfl, rfl⟩, h⟩⟩
theorem roomEq {k : Nat} {A : Around} (hr : Room k A) : A.units + 64 < cLine := by have := hr.un; omega
end
end GX
end
section
set_option Elab.async false
set_option linter.all false
set_option maxRecDepth 100000
set_option maxHeartbeats 2000000
/-! a def that calls what it got and tells an error by a word -/
namespace GX
open PySem PySem.Spec PyProof.Rows L2
structure Told (K : PySem.W.Frag) (mg : Str → Option Value) (x a e ret : Str) (CS : Addr) : Prop where
  ex : ∃ (g cg : Addr) (fd : FuncData) (st : Stmt) (Ng : List Str) (p1 p2 p3 p4 p5 p6 p7 p8 : Pos), Def K mg x st g fd cg ∧
    defBody st = [.Try [.Return (some (.Call (.Name a p1) [] [] p2)) p3] [.ExceptHandler (some (.Name e p4)) none [.Return (some (.Constant (.str ret) 0 p5)) p6] p7] [] [] p8] ∧ FnScope Ng [a] (defScope st) ∧ Ng[0]? = some a ∧ Vis (defScope st) a ∧
    (defScope st).names.lookup e = some .globalImplicit ∧ (∀ f : Addr, (L2.start Ng [V.ref f])[0]? = some (some (V.ref f))) ∧
    (∀ (kV doc pm : Value) (an : Option Addr) (cdv ct : Value) (us : List Value), us.length = [a].length → bindArgs (PySem.W.fnOf x x (defArgs st) (defBody st) (defScope st) .none kV doc pm an cdv ct) ⟨us, []⟩ = pure ([a].zip us))
  me : mg e = some (.ref CS)
  de : (e == ("__debug__" : Str)) = false
  da : (a == ("__debug__" : Str)) = false
  dx : (x == ("__debug__" : Str)) = false
  dc : (a == ("__classdict__" : Str)) = false
theorem pe_told {X : Cx} {x a e ret : Str} {CS c P : Addr} {TL : List (Addr × Str)} {k : Nat} {params : Arguments} {body : Expr} {scope : Scope} {t : XK → TE} {p lpos pos : Pos} (T : Told X.K X.mg x a e ret CS) (hg : Gl X x)
    (TB : LamX.TabB X.base X.mg c P) (hcode : X.env.code = .ref c) (hmT : (P, X.env.qual ++ "<lambda>") ∈ TL) (hu : ∀ p ∈ TL, p.1 = P → p.2 = X.env.qual ++ "<lambda>") (hr : Room (k + 2) X.A) (L : LamX.LamS X.env.scope scope) (hdef : defaultsOf params X.env = ([], []))
    (hbind : ∀ (q : Str) (cl : List (Str × Addr)) (pm cv ctv : Value), bindArgs (PySem.W.kla_fn "<lambda>" q params body scope cl pm cv ctv) ⟨[], []⟩ = pure [])
    (hbody : ∀ (A : Around) (outer : List Env) (s : Shared) (H : Hp) (E : XK) (f c' : Addr), Room k (A.deeper (LamX.lamEnv X scope s.heap.objs.size f c')) → PE (LamX.lamCx X A outer s H E scope f c') body (t E)) :
    PE X (.Call (.Name x p) [.Lambda params body scope lpos] [] pos) (LamX.tLam TL (LamX.TTold X.K CS ret) t) := by
  obtain ⟨⟨g, cg, fd, st, Ng, p1, p2, p3, p4, p5, p6, p7, p8, D, hb, S, h1, h2, h3, h4, h5⟩, me, de, da, dx, dc⟩ := T
  obtain ⟨⟨oc, od, kV, doc, pm, an, ct, osl, rfl, lk, hcd⟩, kp, gm⟩ := D
  refine LamX.pe_lamcall (a := a) hg gm kp lk hcd (.all (h5 kV doc pm an (.ref cg) ct)) S h1 h2 ?_ TB hcode hmT hu hr L hdef hbind hbody dx da dc
  rw [hb]
  exact LamX.told_gives h3 me de h4
theorem takes_lam {X : Cx} {A : Around} {outer : List Env} {s : Shared} {H : Hp} {E : XK} {scope : Scope} {f c' : Addr} : Takes (LamX.lamCx X A outer s H E scope f c') (fun cls d _ H => E cls d H) := takes_of rfl rfl rfl rfl
theorem lcx_K {X : Cx} {A : Around} {outer : List Env} {s : Shared} {H : Hp} {E : XK} {scope : Scope} {f c' : Addr} : (LamX.lamCx X A outer s H E scope f c').K = X.K := rfl
/-- the table of lambdas and its like, as yet empty -/
theorem tabs_empty {TL : List (Addr × Str)} {H : Hp} (h : ∀ p ∈ TL, H p.1 = some (.tbl #[])) : LamX.Tabs TL H := fun p hp => ⟨#[], h p hp, by first | exact trivial | (intro _ h; cases h) | simp [PyProof.Rows.TriplesOk] , fun pos cv hcv => by cases hcv⟩
theorem ExtN.ex {A : List Addr} {TL : List (Addr × Str)} {GT : List Addr} {H H1 : Hp} (e : LamX.ExtN H H1) (t : LamX.Tabs TL H1) : Ex A TL GT H H1 := ⟨fun b o _ eb ne => e b o eb ne, fun _ => t, fun h P hP => e P _ (h P hP) (fun _ z => by cases z), fun b xs h => by
    rcases h with h | ⟨ob, h⟩
    · exact .inl (e b _ h (fun _ z => by cases z))
    · exact .inr ⟨ob, e b _ h (fun _ z => by cases z)⟩⟩
end GX
end
section
set_option Elab.async false
set_option linter.all false
set_option maxRecDepth 100000
set_option maxHeartbeats 2000000
/-! the head: defs, tables, FileError, by one look at the heap behind the top -/
namespace GX
open PySem PySem.Spec PyProof.Rows L2
/-- a def of the top as a datum -/
def dd (x : Str) (st : Stmt) : He.DefD := ⟨(x, none), x, x, defArgs st, defBody st, defScope st, [], []⟩
theorem def_funD {K : PySem.W.Frag} {mg : Str → Option Value} {x : Str} {st : Stmt} {f : Addr} {fd : FuncData} (F : FunD K x x (defArgs st) (defBody st) (defScope st) [] [] f fd) (gm : mg x = some (.ref f)) :
    ∃ c, Def K mg x st f fd c ∧ fd.code = .ref c := by
  obtain ⟨⟨oc, od, dV, kV, doc, pm, an, cdv, ct, osl, rfl, lk, hcd, hD, hK⟩, kp⟩ := F
  obtain ⟨c, rfl⟩ := He.codeIn_ref hcd
  rcases hD with ⟨_, rfl⟩ | ⟨e, _⟩
  · exact ⟨c, ⟨⟨oc, od, kV, doc, pm, an, ct, osl, rfl, lk, hcd⟩, kp, gm⟩, rfl⟩
  · exact absurd rfl e
/-! ### FileError -/
def clsB (K : PySem.W.Frag) (C : Addr) : Bool := match K.lookup C with
  | some ⟨.type t, _, .cls cd, sl⟩ => (match cd.mro, sl.toList with
    | .ref C' :: bm, [_, _, _, _, some (.builtin n), _] => t == "type" && (C' == C && (n == "ValueError.__new__" && (cd.hasDict && (!cd.hasDel && HandSPX.refsVE bm))))
    | _, _ => false)
  | _ => false
theorem clsB_ok {K : PySem.W.Frag} {C : Addr} (q : clsB K C = true) : ∃ nm q N bs bm sn sub ab col dd k0 k1 k2 k3 k5, K.lookup C = some (excClassObj nm q C N bs bm true sn sub ab col dd k0 k1 k2 k3 k5 "ValueError.__new__") ∧ HandSPX.refsVE bm = true := by
  unfold clsB at q
  split at q
  · rename_i t dd cd sl ho
    split at q
    · rename_i C' bm k0 k1 k2 k3 n k5 hm hs
      simp only [Bool.and_eq_true, beq_iff_eq, Bool.not_eq_true'] at q
      obtain ⟨rfl, rfl, rfl, hd, hdel, ht⟩ := q
      obtain ⟨nm, bs, mro, ns, qn, hdd, sn, sub, ab, col, del⟩ := cd
      dsimp only at hm hdel hd
      subst hm hdel hd
      have hsl : sl = #[k0, k1, k2, k3, some (.builtin "ValueError.__new__"), k5] := by
        obtain ⟨l⟩ := sl
        simp only at hs
        rw [hs]
      subst hsl
      exact ⟨nm, qn, ns, bs, bm, sn, sub, ab, col, dd, k0, k1, k2, k3, k5, ho, ht⟩
    · cases q
  · cases q
abbrev IniW : Type := Option (Str × Str × Arguments × FuncBody × Scope × Addr × Addr × List Str)
def iniC (K : PySem.W.Frag) : Addr := He.ga K "FileError"
def iniF (K : PySem.W.Frag) : Addr := He.ma K (iniC K) "__init__"
def iniW (K : PySem.W.Frag) : IniW := match K.lookup (iniF K) with
  | some ⟨_, _, .func fd, _⟩ => some (fd.name, fd.qualname, fd.params, fd.body, fd.scope, fd.globals, fd.builtins, fd.closure.map (·.1))
  | _ => none
def iniV (st : Stmt) : IniW := some ("__init__", "FileError.__init__", defArgs st, .stmts (defBody st), defScope st, mainGlobals, builtinsNs, ["__class__"])
def iniB (file : Str) (K : PySem.W.Frag) : Bool := match K.lookup (iniF K) with
  | some ⟨_, _, .func fd, _⟩ => (match fd.defaults, fd.kwdefaults, fd.code, fd.closure with
    | .none, .none, .ref cda, [(_, cc)] => PySem.W.codeIn K (.ref cda) "FileError.__init__" && ((match K.lookup cda with
        | some ⟨_, _, .fields vs, _⟩ => (match (vs[2]? : Option Value) with
          | some (.str f _) => file == f
          | _ => false)
        | _ => false) && (match K.lookup cc with
        | some ⟨_, _, .cell (some (.ref C)), _⟩ => C == iniC K
        | _ => false))
    | _, _, _, _ => false)
  | _ => false
def fileB (file : Str) (K : PySem.W.Frag) : Bool :=
  (clsB K (iniC K) && iniB file K) && ((decide (PySem.W.ks_superIn K (iniC K) (iniC K) "__init__" = some (some (.builtin "ValueError.__init__"))) && decide (PySem.W.findIn K (.ref (iniC K)) "__setattr__" = some (some (.builtin "object.__setattr__")))) &&
  ((decide (PySem.W.findIn K (.ref (iniC K)) "word" = some none) && decide (PySem.W.findIn K (.ref (iniC K)) "__init__" = some (some (.ref (iniF K))))) && ((decide (PySem.W.typeIn K (.ref (iniF K)) = some (.type "function")) && PySem.W.keepIn K (.ref (iniC K))) &&
  ((decide (PySem.W.subIn K (.ref (iniC K)) (.type "BaseException") = some true) && decide (PySem.W.subIn K (.ref (iniC K)) (.type "ValueError") = some true)) && ((decide (PySem.W.mroIn K (iniC K) (.ref (iniC K)) = some true) && decide (PySem.W.typeIn K (.ref (iniC K)) = some (.type "type"))) &&
  (decide (PySem.W.nsIn K cStatics "thirdparty.any" = some none) && (decide (PySem.W.subIn K (.ref (iniC K)) (.type "StopIteration") = some false) && decide (PySem.W.exmOne K (.ref (iniC K)) (.ref (iniC K)) = some true))))))))
theorem file_ok {P : Program} {K : PySem.W.Frag} {mg : Str → Option Value} {st : Stmt} {p1 p2 q0 q1 q2 q3 q4 q5 q6 q7 q8 q9 : Pos} (hb : fileB P.main.file K = true) (hw : iniW K = iniV st) (gC : mg "FileError" = some (.ref (iniC K))) (gS : mg "super" = none) (top : (P.main.scope.names.lookup ("super" : Str)).isSome = false)
    (e1 : defArgs st = GF.iA p1 p2) (e2 : defBody st = GF.iB q0 q1 q2 q3 q4 q5 q6 q7 q8 q9) (e3 : defScope st = GF.iS) (hl : (q2.endLine == q4.line) = true) :
    GF.FileTxt P K mg (iniC K) (iniF K) ∧ PySem.W.subIn K (.ref (iniC K)) (.type "StopIteration") = some false ∧ PySem.W.exmOne K (.ref (iniC K)) (.ref (iniC K)) = some true := by
  unfold fileB at hb
  simp only [Bool.and_eq_true, decide_eq_true_eq] at hb
  obtain ⟨⟨h1, h2⟩, ⟨h3, h4⟩, ⟨h5, h6⟩, ⟨h7, h8⟩, ⟨h9, h10⟩, ⟨h11, h12⟩, h13, h14, h15⟩ := hb
  refine ⟨⟨gC, gS, clsB_ok h1, h3, h4, h5, h6, h7, h8, h9, h10, h11, h12, h13, top, ?_⟩, h14, h15⟩
  unfold iniW iniV at hw
  unfold iniB at h2
  cases q : K.lookup (iniF K) with
  | none => rw [q] at h2; cases h2
  | some o =>
    obtain ⟨oc, od, dt, osl⟩ := o
    rw [q] at h2 hw
    cases dt with
    | func fd =>
      obtain ⟨n1, n2, n3, n4, n5, n6, n7, n8, n9, n10, n11, n12, n13, n14, n15⟩ := fd
      simp only [Option.some.injEq, Prod.mk.injEq] at hw
      obtain ⟨k1, k2, k3, k4, k5, k6, k7, k8⟩ := hw
      simp only at k1 k2 k3 k4 k5 k6 k7 k8 h2
      subst k1 k2 k3 k4 k5 k6 k7
      split at h2
      · rename_i cda cl0 cc
        simp only [Bool.and_eq_true] at h2
        obtain ⟨w1, w2, w3⟩ := h2
        have k9 : cl0 = (("__class__" : Str)) := (List.cons.inj (show [cl0] = [(("__class__" : Str))] from k8)).1
        subst k9
        split at w2
        · rename_i ccl cdd vs ccs hcda
          split at w2
          · rename_i f tf hvs
            split at w3
            · rename_i cl cld C csl hcc
              have ec : C = iniC K := beq_iff_eq.mp w3
              subst ec
              refine ⟨oc, od, n10, n11, n12, cda, cc, n14, osl, p1, p2, q0, q1, q2, q3, q4, q5, q6, q7, q8, q9, ccl, cdd, vs, ccs, f, tf, cl, cld, csl, ?_, w1, hcda, hvs, hl, w2, hcc⟩
              rw [← e1, ← e2, ← e3]
            · cases w3
          · cases w2
        · cases w2
      · cases h2
    | _ => cases h2
/-! ### the look -/
def clos (g : Addr → Option Obj) (as : List Addr) : List Addr := as.flatMap fun a => match g a with
  | some ⟨_, _, .func fd, _⟩ => fd.closure.map (·.2)
  | _ => []
def asF (g : Addr → Option Obj) (n : Nat) : List Addr := He.asD g n ++ (cStatics :: clos g (He.asD g n))
structure SaysF (fa : List He.Fa) (fn : List He.DefD) (tf : List He.Defn) (ex : PySem.W.Frag → Bool) (iv : IniW) (w : World) (h : Heap) (K : PySem.W.Frag) : Prop where
  x : He.SaysX fa fn [] tf ex w h K
  i : iniW K = iv
abbrev AlF : Type := He.AlX × IniW
def obsF (n : Nat) (fa : List He.Fa) (fn : List He.DefD) (tf : List He.Defn) (ex : PySem.W.Frag → Bool) (g : Addr → Option Obj) : AlF :=
  ((He.obsT fa fn [] (He.frT g (asF g n)), ex (He.frT g (asF g n)) && He.tabsB g tf (He.frT g (asF g n))), iniW (He.frT g (asF g n)))
def valF (fn : List He.DefD) (iv : IniW) (w : World) : AlF := ((He.valT fn [] w, true), iv)
theorem saysF_of {n : Nat} {fa : List He.Fa} {fn : List He.DefD} {tf : List He.Defn} {ex : PySem.W.Frag → Bool} {iv : IniW} {w : World} {h : Heap} (e : obsF n fa fn tf ex h.get? = valF fn iv w) : SaysF fa fn tf ex iv w h (He.frT h.get? (asF h.get? n)) := by
  have e0 : iniW (He.frT h.get? (asF h.get? n)) = iv := congrArg (fun z : AlF => z.2) e
  have e1 : He.obsT fa fn [] (He.frT h.get? (asF h.get? n)) = He.valT fn [] w := congrArg (fun z : AlF => z.1.1) e
  have e2 : (ex (He.frT h.get? (asF h.get? n)) && He.tabsB h.get? tf (He.frT h.get? (asF h.get? n))) = true := congrArg (fun z : AlF => z.1.2) e
  obtain ⟨h1, h2⟩ := He.ba e2
  have key : ∀ p ∈ tf, PySem.W.codeHdIn (He.frT h.get? (asF h.get? n)) (He.cT (He.frT h.get? (asF h.get? n)) p).1 (He.cT (He.frT h.get? (asF h.get? n)) p).2 = true ∧ ∃ o, h.get? (He.cT (He.frT h.get? (asF h.get? n)) p).2 = some o ∧ He.emptyTab o = true := fun p hp => by
    obtain ⟨h3, h4⟩ := He.ba (List.all_eq_true.mp h2 p hp)
    refine ⟨h3, ?_⟩
    cases q : h.get? (He.cT (He.frT h.get? (asF h.get? n)) p).2 with
    | none =>
      rw [q] at h4
      cases h4
    | some o =>
      rw [q] at h4
      exact ⟨o, rfl, h4⟩
  exact ⟨⟨e1, h1, fun p hp => (key p hp).1, fun p hp => by
    obtain ⟨_, o, q, z⟩ := key p hp
    exact He.frT_none q z, fun p hp => by
    obtain ⟨_, o, q, z⟩ := key p hp
    rw [q, He.emptyTab_eq z]⟩, e0⟩
def hookF (n : Nat) (fa : List He.Fa) (fn : List He.DefD) (tf : List He.Defn) (ex : PySem.W.Frag → Bool) (iv : IniW) : PySem.W.Hook where
  α := AlF
  obs := fun s => obsF n fa fn tf ex s.heap.get?
  val := fun w => valF fn iv w
  says := fun w h => ∃ K : PySem.W.Frag, K.In h ∧ SaysF fa fn tf ex iv w h K
  of := fun _ _ e => ⟨_, He.frT_in, saysF_of e⟩
  keeps := fun _ _ _ ⟨K, hK, c⟩ k => ⟨K, PySem.W.Frag.In.keeps hK k, ⟨⟨c.x.t, c.x.more, c.x.hd, c.x.out, fun p hp => k _ _ (c.x.empty p hp)⟩, c.i⟩⟩
theorem obsF_eq {n : Nat} {fa : List He.Fa} {fn : List He.DefD} {tf : List He.Defn} {ex : PySem.W.Frag → Bool} {iv : IniW} {g : Addr → Option Obj} {s : Shared} (h : ∀ a, g a = s.heap.get? a) : obsF n fa fn tf ex g = (hookF n fa fn tf ex iv).obs s := by
  have e : g = s.heap.get? := funext h
  rw [e] <;> rfl
/-- a def that is told -/
theorem says_def {fa : List He.Fa} {fn : List He.DefD} {tf : List He.Defn} {ex : PySem.W.Frag → Bool} {iv : IniW} {w : World} {h : Heap} {K : PySem.W.Frag} {mg : Str → Option Value} {x : Str} {st : Stmt} (c : SaysF fa fn tf ex iv w h K) (X : K.In h) (G : h.Ns mainGlobals mg)
    (h1 : dd x st ∈ fn) (h2 : He.Fa.glo x ∈ fa) : ∃ fd cd, Def K mg x st (He.ga K x) fd cd ∧ cd = (He.cT K (x, none)).1 := by
  obtain ⟨fd, F⟩ := c.x.t.d.defs h1
  obtain ⟨cd, D, e⟩ := def_funD (mg := mg) F (He.glo_ok X G (c.x.t.d.facts h2))
  obtain ⟨oc, od, kV, doc, pm, an, ct, osl, rfl, lk, hcd⟩ := D.ex
  exact ⟨_, cd, D, (He.codeOf_eq (p := (x, none)) lk rfl).symm⟩
/-! ### tables of codes, held as such -/
def toE (GT : List Addr) (H : Hp) : Hp := fun b => if b ∈ GT then some (TblE b) else H b
def atF (h : Heap) (b : Addr) : Array Value := match h.get? b with
  | some ⟨_, _, .fields vs, _⟩ => vs
  | _ => #[]
def toT (GT : List Addr) (h : Heap) (H : Hp) : Hp := fun b => if b ∈ GT then some (.tbl (atF h b)) else H b
theorem toE_in {GT : List Addr} {H : Hp} {b : Addr} (h : b ∈ GT) : toE GT H b = some (TblE b) := if_pos h
theorem toE_out {GT : List Addr} {H : Hp} {b : Addr} (h : b ∉ GT) : toE GT H b = H b := if_neg h
theorem toT_in {GT : List Addr} {hp : Heap} {H : Hp} {b : Addr} (h : b ∈ GT) : toT GT hp H b = some (.tbl (atF hp b)) := if_pos h
theorem toT_out {GT : List Addr} {hp : Heap} {H : Hp} {b : Addr} (h : b ∉ GT) : toT GT hp H b = H b := if_neg h
theorem hok_toE {P : Program} {w : World} {GT : List Addr} {H : Hp} {h : Heap} (hok : HOk P w H h) (hT : ∀ p ∈ GT, H p = some (.tbl #[])) : HOk P w (toE GT H) h := fun a o e => by
  by_cases ha : a ∈ GT
  · rw [toE_in ha] at e
    cases e
    have q : h.get? a = some { cls := .none, data := .fields #[] } := hok a _ (hT a ha)
    exact ⟨⟨#[], q, by first | exact trivial | (intro _ h; cases h) | simp [TriplesOk]⟩, ⟨_, q⟩, fun h1 h2 ⟨qs, x, y⟩ st => ⟨qs, st _ x, y⟩⟩
  · rw [toE_out ha] at e
    refine (hok a o e).stay (fun b u _ q => q) (fun b q => ?_) fun b xs q => ?_
    · have nb : b ∉ GT := fun z => by rw [hT b z] at q; cases q
      rw [toE_out nb]; exact q
    · have nb : b ∉ GT := fun z => by rw [hT b z] at q; cases q
      rw [toE_out nb]; exact q
theorem hok_toT {P : Program} {w : World} {GT : List Addr} {H : Hp} {h : Heap} (hok : HOk P w H h) (hT : ∀ p ∈ GT, H p = some (TblE p)) : HOk P w (toT GT h H) h := fun a o e => by
  by_cases ha : a ∈ GT
  · rw [toT_in ha] at e
    cases e
    obtain ⟨⟨ps, q, _⟩, _⟩ := hok a _ (hT a ha)
    show h.get? a = some { cls := .none, data := .fields (atF h a) }
    unfold atF
    rw [q]
  · rw [toT_out ha] at e
    refine (hok a o e).stay (fun b u _ q => q) (fun b q => ?_) fun b xs q => ?_
    · have nb : b ∉ GT := fun z => by rw [hT b z] at q; cases q
      rw [toT_out nb]; exact q
    · have nb : b ∉ GT := fun z => by rw [hT b z] at q; cases q
      rw [toT_out nb]; exact q
def spTabs (GT : List Addr) (sp : Sp) : Sp := fun vs H Q E => (∀ p ∈ GT, H p = some (.tbl #[])) ∧ (∃ R : V → Prop, (∀ v H', R v → Q v H') ∧ sp vs (toE GT H) (fun v H' => R v ∧ ∀ p ∈ GT, H' p = some (TblE p)) fun _ _ _ => False)
theorem fn_tabs {P : Program} {w : World} {K : PySem.W.Frag} {mg : Str → Option Value} {base : Heap} {k : Nat} {f : Addr} {fd : FuncData} {ps : List Str} {sp : Sp} {GT : List Addr} (F : FnOk P w K mg base (L2.CX P w) k f fd ps sp) : FnOk P w K mg base (L2.CX P w) k f fd ps (spTabs GT sp) := by
  refine ⟨fun vs H Q E h => ?_, fun A outer s H args us vs Q E hr e0 hb r h => ?_⟩
  · obtain ⟨_, R, _, h⟩ := h
    exact F.len _ _ _ _ h
  obtain ⟨hT, R, hR, h⟩ := h
  have nT : ∀ b, H b = none → b ∉ GT := fun b e z => by rw [hT b z] at e; cases e
  have e1 : Env0 P w K mg base A outer s (toE GT H) := ⟨e0.frames, e0.mod, fun b o q => ⟨(e0.bs b o q).1, by rw [toE_out (nT b (e0.bs b o q).2)]; exact (e0.bs b o q).2⟩, e0.bsz, e0.funs,
    fun b hb => by rw [toE_out (nT b (e0.frf b hb))]; exact e0.frf b hb, hok_toE e0.hok hT, e0.bare⟩
  refine codeAny_mono (F.run A outer s (toE GT H) args us vs _ _ hr e1 hb r h) fun r s' hq => ?_
  cases r with
  | error e =>
    obtain ⟨a, B, H', cls, d, _, _, _, _, _, _, _, z⟩ := hq
    exact z.elim
  | ok fl =>
    cases fl with
    | ret u =>
      obtain ⟨v, H', os, bare, un, hok', rv, hr', ht'⟩ := hq
      have tE : ∀ b u, H b = some u → (u ≠ .tbl #[]) → b ∉ GT := fun b u e ne z => by rw [hT b z] at e; exact ne (Option.some.inj e).symm
      refine ⟨v, toT GT s'.heap H', os, bare, ?_, hok_toT hok' ht', rv, hR v _ hr'⟩
      refine ⟨fun b o q n nf nx => un.keep b o q (by rw [toE_out (nT b n)]; exact n) nf nx, fun b o q n nf nx => un.slot b o q (by rw [toE_out (nT b n)]; exact n) nf nx, fun b o q n nx => ?_, fun b o q nx => un.there b o q nx, fun b xs q => ?_, fun b o u q => ?_, fun b qs q => ?_⟩
      · rw [toT_out (nT b n)]
        exact un.free b o q (by rw [toE_out (nT b n)]; exact n) nx
      · have nb := tE b _ q (fun z => by cases z)
        rw [toT_out nb]
        exact un.tups b xs (by rw [toE_out nb]; exact q)
      · have nb := tE b _ q (fun z => by cases z)
        rw [toT_out nb]
        exact un.frzs b o u (by rw [toE_out nb]; exact q)
      · by_cases hb : b ∈ GT
        · have z := hT b hb
          rw [q] at z
          cases z
          exact ⟨atF s'.heap b, by rw [toT_in hb, Array.empty_append]⟩
        · obtain ⟨more, z⟩ := un.tbls b qs (by rw [toE_out hb]; exact q)
          exact ⟨more, by rw [toT_out hb]; exact z⟩
    | next => exact False.elim hq
    | brk => exact False.elim hq
    | cont => exact False.elim hq
end GX
end
section
set_option Elab.async false
set_option linter.all false
set_option maxRecDepth 100000
set_option maxHeartbeats 2000000
/-! methods and instances by their promises; more operators -/
namespace GX
open PySem PySem.Spec PyProof.Rows L2
/-! ### a method, a class that is made -/
structure Met (P : Program) (w : World) (K : PySem.W.Frag) (mg : Str → Option Value) (base : Heap) (k : Nat) (C : Addr) (m : Str) (dvs : List V) (sp : Sp) : Prop where
  cls : Cls K C
  ex : ∃ (f : Addr) (fd : FuncData) (ps : List Str) (ds : List Value), Meth K C m f ∧ FnOk P w K mg base (L2.CX P w) k f fd ps sp ∧ Binds K fd ps ds ∧ Vals dvs ds
structure Mak (P : Program) (w : World) (K : PySem.W.Frag) (mg : Str → Option Value) (base : Heap) (k : Nat) (x : Str) (C : Addr) (dvs : List V) (sp : Sp) : Prop where
  gm : mg x = some (.ref C)
  ex : ∃ (f : Addr) (fd : FuncData) (ps : List Str) (ds : List Value), Mk K C f ∧ FnOk P w K mg base (L2.CX P w) k f fd ps sp ∧ Binds K fd ps ds ∧ Vals dvs ds
def tMet (C : Addr) (m : Str) (sp : Sp) (dvs : List V) (E : L2.St → XK) (ta : TE) (t : TA) : TE := fun σ H Q => ta σ H fun x H1 => ∃ a dx fs, x = .ref a ∧ H1 a = some (.ins C dx fs) ∧ fs.lookup m = none ∧ t σ H1 fun vs H2 => sp (x :: (vs ++ dvs)) H2 Q (E σ)
section
variable {X : Cx} {k : Nat} {C : Addr} {m x : Str} {dvs : List V} {sp : Sp} {W : WX} {o e : Expr} {es : List Expr} {ta : TE} {t : TA} {p apos pos : Pos}
theorem pe_met {pl : Sem Bool} (c : Met X.prog X.w X.K X.mg X.base k C m dvs sp) (hr : Room k X.A) (tk : Takes X W) (he : PE X o ta) (ha : PA X (e :: es) t)
    (hst : starEach (e :: es) X.env = (false, eval e X.env) :: starEach es X.env := by rfl) (hpl : (backTo pos (starEach es X.env)).any (·.1) = false := by rfl)
    (ht : eval (.Call (.Attribute o m apos) (e :: es) [] pos) X.env = (do
      let ov ← eval o X.env
      standAt apos.atName
      let (f, first) ← holding [ov] (getMethod ov m pl)
      callWith pos f first (backTo pos (starEach (e :: es) X.env)) (backToKw pos (keywordEach [] X.env))) := by rfl) :
    PE X (.Call (.Attribute o m apos) (e :: es) [] pos) (tMet C m sp dvs (WE W) ta t) := by
  obtain ⟨cl, f, fd, ps, ds, hm, F, hb, hd⟩ := c
  refine ⟨fun pins s σ H Q I h => ?_⟩
  refine PySem.W.methodCall_KW (pl := pl) (thn (he.run pins s σ H _ I h) fun u s1 ⟨x, H1, I1, rx, a, dx, fs, ex, ea, l, q⟩ => ?_) ht
  subst ex
  obtain rfl : u = Value.ref a := rx
  refine getmeth_ok I1 ea cl hm l ?_
  refine PySem.W.callWith_K (first := [.ref a]) (h₀ := X.base) I.ok.mod.kin hm.kp (thn (ha.run pos pins s1 σ H1 _ I1 q) fun us s2 ⟨vs, H2, I2, r, q2⟩ => ⟨I2.kIn, ?_⟩) hst hpl
  exact run_fnSD (E := WE W) (us := .ref a :: us) (vs := .ref a :: vs) F hr hb hd (passAt tk σ) I2 (.cons rfl r) q2
theorem pe_met0 {pl : Sem Bool} (c : Met X.prog X.w X.K X.mg X.base k C m dvs sp) (hr : Room k X.A) (tk : Takes X W) (he : PE X o ta)
    (ht : eval (.Call (.Attribute o m apos) [] [] pos) X.env = (do
      let ov ← eval o X.env
      standAt apos.atName
      let (f, first) ← holding [ov] (getMethod ov m pl)
      callWith pos f first (backTo pos (starEach [] X.env)) (backToKw pos (keywordEach [] X.env))) := by rfl) :
    PE X (.Call (.Attribute o m apos) [] [] pos) (tMet C m sp dvs (WE W) ta tNil) := by
  obtain ⟨cl, f, fd, ps, ds, hm, F, hb, hd⟩ := c
  refine ⟨fun pins s σ H Q I h => ?_⟩
  refine PySem.W.methodCall_KW (pl := pl) (thn (he.run pins s σ H _ I h) fun u s1 ⟨x, H1, I1, rx, a, dx, fs, ex, ea, l, q⟩ => ?_) ht
  subst ex
  obtain rfl : u = Value.ref a := rx
  refine getmeth_ok I1 ea cl hm l ?_
  exact PySem.W.callWith_K0 (first := [.ref a]) I1.kIn hm.kp (run_fnSD (E := WE W) (us := [.ref a]) (vs := [.ref a]) F hr hb hd (passAt tk σ) I1 (.cons rfl .nil) q)
theorem passF {X : Cx} : Passes (L2.CX X.prog X.w) X (fun _ _ _ => False) := fun pins σ H s e s' I c => by
  obtain ⟨_, _, _, _, _, _, _, _, _, _, _, _, z⟩ := c
  exact z.elim
/-- C(e, ..): the maker raises nothing -/
theorem pe_mak (c : Mak X.prog X.w X.K X.mg X.base k x C dvs sp) (hr : Room (k + 1) X.A) (ha : PA X (e :: es) t) (hg : Gl X x := by rfl) (hdb : (x == ("__debug__" : Str)) = false := by decide)
    (he : starEach (e :: es) X.env = (false, eval e X.env) :: starEach es X.env := by rfl) (hpl : (backTo pos (starEach es X.env)).any (·.1) = false := by rfl) :
    PE X (.Call (.Name x p) (e :: es) [] pos) (tMake C sp dvs (fun _ _ _ => False) t) := by
  obtain ⟨gm, f, fd, ps, ds, M, F, hb, hd⟩ := c
  exact pe_make M F hr hg gm hb hd passF ha hdb he hpl
theorem pe_mak0 (c : Mak X.prog X.w X.K X.mg X.base k x C dvs sp) (hr : Room (k + 1) X.A) (hg : Gl X x := by rfl) (hdb : (x == ("__debug__" : Str)) = false := by decide) :
    PE X (.Call (.Name x p) [] [] pos) (tMake C sp dvs (fun _ _ _ => False) tNil) := by
  obtain ⟨gm, f, fd, ps, ds, M, F, hb, hd⟩ := c
  exact pe_make0 M F hr hg gm hb hd passF hdb
end
/-! ### x op= y of any kind -/
def rIaddU (K : PySem.W.Frag) : R2 := fun x y H Q => match x, y with
  | .int i, .int j => Q (.int (i + j)) H
  | .str a, .str b => a.length + b.length ≤ sizeLine ∧ Q (.str (a ++ b)) H
  | .ref _, .ref _ => rCatT K x y H Q ∨ rExt2 x y H Q
  | _, _ => False
theorem no_iadd_tuple : typeLookup (.type "tuple") (dunderI "add") = pure none := by
  rw [typeLookup_type, builtinLookup_eq_fast]; kernel_rfl
section
variable {X : Cx}
theorem iop_catT : OpR X (inplaceOp .Add) (rCatT X.K) := by
  intro pins s σ H x y v u Q I rx ry h
  obtain ⟨a, b, xs, ys, rfl, rfl, ha, hb, hx, hz, q1, q2⟩ := h
  cases rx
  cases ry
  obtain ⟨its, r1, ⟨⟨cls, dd, data, sl⟩, ho, hc, n, hd⟩, _⟩ := I.tuple ha
  obtain ⟨its2, r2, ⟨⟨cls2, dd2, data2, sl2⟩, ho2, hc2, n2, hd2⟩, _⟩ := I.tuple hb
  simp only at hc hd hc2 hd2
  subst hc hd hc2 hd2
  have hne : its ≠ [] := fun z => hx (r1.nil_iff.mp z)
  have hsz : its.length + its2.length ≤ sizeLine := by rw [← r1.length, ← r2.length]; exact hz
  have e : its.toArray ++ its2.toArray = (its ++ its2).toArray := by simp
  refine wpAny_inplaceOp_concat (T := "tuple") ⟨_, ho, rfl⟩ ⟨_, ho2, rfl⟩ no_iadd_tuple noFill_tuple_add seq_tuple_add ?_
  by_cases hw : its2 = []
  · exact call_meets PySem.F.slot_tuple_add ⟨_, ho, rfl⟩ PySem.F.entry_tuple_add (PySem.F.args_tuple_add_2 _ _)
      (PyProof.Rows.tuple_addW1 a b its.toArray its2.toArray n n2 dd dd2 sl sl2 (by simpa using hne) (by simp [hw])) ⟨ho, ho2, .ref a, H, I, rfl, q1 (r2.nil_iff.mp hw)⟩
  · refine call_meets PySem.F.slot_tuple_add ⟨_, ho, rfl⟩ PySem.F.entry_tuple_add (PySem.F.args_tuple_add_2 _ _)
      (PyProof.Rows.tuple_addW2 a b its.toArray its2.toArray n n2 dd dd2 sl sl2 (by simpa using hne) (by simpa using hw) (by rw [List.size_toArray, List.size_toArray]; exact hsz)) ⟨ho, ho2, ?_⟩
    rw [e]
    refine ⟨.ref s.heap.objs.size, _, I.laid (t' := s.toks) (o := .tup (xs ++ ys)) (fun b ob q => Heap.get?_push_of_some _ q) (Nat.le_refl _) ?_, rfl, q2 (fun w => hw (r2.nil_iff.mpr w)) _ (I.hok.fresh (Nat.le_refl _))⟩
    exact ⟨by rw [List.length_append]; exact hz, _, r1.append r2, IsTup.new _ _⟩
theorem opU_iadd : OpR X (inplaceOp .Add) (rIaddU X.K) := OpR.imp (OpR.or iop_add (OpR.or iop_add_str (OpR.or iop_catT iop_ext))) (by
  intro x y H Q h
  unfold rIaddU at h
  split at h
  · exact .inl ⟨_, _, rfl, rfl, h⟩
  · exact .inr (.inl ⟨_, _, rfl, rfl, h⟩)
  · exact .inr (.inr h)
  · exact h.elim)
end
/-! ### a tuple times a number -/
theorem tuple_mul_one (l : Addr) (items : Array Value) (n : Nat) (dd : Option Addr) (sl : Array (Option Value)) (u : Tok) :
    Meets (Builtin.«tuple.__mul__» ⟨[.ref l, .int 1 u], []⟩) (fun _ R s => s.heap.get? l = some { cls := .type "tuple", dict := dd, data := .seq items n, slots := sl } ∧ R (.ok (.ret (Value.ref l))) s) :=
  .of_wp fun prog w A R s h => by
    obtain ⟨hp, g, d, tk, os⟩ := s
    obtain ⟨hl, h⟩ := h
    have f1 := AutoSeq1.idx_int
    have c0 : (decide ((1 : Int) < -(2 ^ 63)) || decide ((1 : Int) ≥ 2 ^ 63)) = false := by decide
    have c1 : (items.isEmpty || (1 : Int) == 1) = true := by simp
    wp_walk using wpAny_loadPart' hl
    repeat (first
      | (refine wpAny_ite_false (decide_eq_false (by rw [c0]; exact Bool.false_ne_true)) ?_; wp_walk using wpAny_loadPart' hl)
      | (refine wpAny_ite_true (decide_eq_true (by rw [c1])) ?_; wp_walk using wpAny_loadPart' hl))
    all_goals first | exact ⟨_, rfl, h⟩ | trace_state
theorem tuple_mul_zero (l : Addr) (items : Array Value) (n : Nat) (dd : Option Addr) (sl : Array (Option Value)) (u : Tok) (hi : items.isEmpty = false) :
    Meets (Builtin.«tuple.__mul__» ⟨[.ref l, .int 0 u], []⟩) (fun _ R s => s.heap.get? l = some { cls := .type "tuple", dict := dd, data := .seq items n, slots := sl } ∧
      R (.ok (.ret (Value.ref s.heap.objs.size))) { s with heap := s.heap.push { cls := Value.type "tuple", data := Data.seq #[] }, toks := s.toks }) :=
  .of_wp fun prog w A R s h => by
    obtain ⟨hp, g, d, tk, os⟩ := s
    obtain ⟨hl, h⟩ := h
    have f1 := AutoSeq1.idx_int
    have c0 : (decide ((0 : Int) < -(2 ^ 63)) || decide ((0 : Int) ≥ 2 ^ 63)) = false := by decide
    have c1 : (items.isEmpty || (0 : Int) == 1) = false := by rw [hi]; rfl
    have c2 : (decide ((0 : Int) ≤ 0) || items.isEmpty) = true := by simp
    wp_walk using wpAny_loadPart' hl
    repeat (first
      | (refine wpAny_ite_false (decide_eq_false (by rw [c0]; exact Bool.false_ne_true)) ?_; wp_walk using wpAny_loadPart' hl)
      | (refine wpAny_ite_false (decide_eq_false (by rw [c1]; exact Bool.false_ne_true)) ?_; wp_walk using wpAny_loadPart' hl)
      | (refine wpAny_ite_true (decide_eq_true (by rw [c2])) ?_; wp_walk using wpAny_loadPart' hl))
    all_goals first | exact ⟨_, rfl, h⟩ | trace_state
def rRepT2 (K : PySem.W.Frag) : R2 := fun x y H Q => ∃ l k xs, x = .ref l ∧ y = .int k ∧ SqT K H l xs ∧ xs ≠ [] ∧ 0 ≤ k ∧ k ≤ 1000 ∧ xs.length ≤ 1000 ∧ (k = 1 → Q (.ref l) H) ∧ (k ≠ 1 → ∀ p, H p = none → Q (.ref p) (upd H p (.tup (List.replicate k.toNat xs).flatten)))
section
variable {X : Cx}
theorem op_repU : OpR X (binaryOp .Mult) (rRepT2 X.K) := by
  intro pins s σ H x y v u Q I rx ry h
  obtain ⟨l, k, xs, rfl, rfl, hT, hne, h1, h2, hz, q1, q2⟩ := h
  by_cases hk2 : 2 ≤ k
  · exact op_repT pins s σ H _ _ v u Q I rx ry ⟨l, k, xs, rfl, rfl, hT, hne, hk2, h2, hz, q2 (by omega)⟩
  cases rx
  obtain ⟨t, rfl⟩ := ry
  obtain ⟨its, r, ⟨⟨cls, dd, data, sl⟩, ho, hc, n, hd⟩, hs⟩ := I.tuple hT
  simp only at hc hd
  subst hc hd
  have hle : its.length = xs.length := r.length.symm
  have hn : its ≠ [] := fun e => hne (by
    rw [e] at hle
    exact List.eq_nil_of_length_eq_zero hle.symm)
  have hi : its.toArray.isEmpty = false := by
    cases its with
    | nil => exact absurd rfl hn
    | cons a b => rfl
  have go : ∀ {S : PySem.Spec}, Meets (Builtin.«tuple.__mul__» ⟨[.ref l, .int k t], []⟩) S → S X.A (wants (EP X pins σ Q) X.xe) s → wpAny (model X.prog X.w) X.A (binaryOp .Mult (.ref l) (.int k t)) (EP X pins σ Q) X.xe s := fun {S} m hS =>
    wpAny_binaryOp_repeat_ref (T := "tuple") (U := "int") (by decide) ⟨_, ho, rfl⟩ (fun s' => typeIs_int s' k t) noFill_tuple_mul F.fills_int_mul F.slot_int_rmul repeat_tuple F.slot_int_index.lookup
      (call_meets F.slot_int_rmul (typeIs_int s k t) F.entry_int_rmul (F.args_int_rmul_2 _ _) (int_rmul_tuple k t l its.toArray n dd sl)
        ⟨ho, rfl, ⟨_, ho, rfl⟩, call_meets F.slot_tuple_mul ⟨_, ho, rfl⟩ F.entry_tuple_mul (F.args_tuple_mul_2 _ _) m hS⟩)
  by_cases hk1 : k = 1
  · subst hk1
    exact go (tuple_mul_one l its.toArray n dd sl t) ⟨ho, .ref l, H, I, rfl, q1 rfl⟩
  · have hk0 : k = 0 := by omega
    subst hk0
    refine go (tuple_mul_zero l its.toArray n dd sl t hi) ⟨ho, .ref s.heap.objs.size, _, I.laid (t' := s.toks) (o := .tup []) (fun b ob q => Heap.get?_push_of_some _ q) (Nat.le_refl _) ?_, rfl, ?_⟩
    · exact ⟨Nat.zero_le _, [], .nil, IsTup.new _ _⟩
    · exact q2 (by decide) _ (I.hok.fresh (Nat.le_refl _))
end
end GX
end
section
set_option Elab.async false
set_option linter.all false
set_option maxRecDepth 100000
set_option maxHeartbeats 2000000
/-! casts of K for objects; methods kept -/
namespace GX
open PySem PySem.Spec PyProof.Rows L2
section
variable {X : Cx} {K : PySem.W.Frag} {e tg : Expr} {st : Stmt}
theorem fldK {ta : TE} {f : Str} (h : X.K = K) (p : PE X e (tFld X.K ta f)) : PE X e (tFld K ta f) := by
  subst h; exact p
theorem sFldK {ta tv : TE} {f : Str} (h : X.K = K) (p : PS X st (sFld X.K ta tv f)) : PS X st (sFld K ta tv f) := by
  subst h; exact p
theorem sFldAugK {ta tv : TE} {rd : V → V → Hp → VK → Prop} {f : Str} (h : X.K = K) (p : PS X st (sFldAug X.K ta tv rd f)) : PS X st (sFldAug K ta tv rd f) := by
  subst h; exact p
theorem bmK {T : String} {r : V → List V → Hp → VK → Prop} {to : TE} {t : TA} (h : X.K = K) (p : PE X e (tBM X.K T r to t)) : PE X e (tBM K T r to t) := by
  subst h; exact p
theorem ilK {tl : TE} {it : Expr} (h : X.K = K) (p : PI X tg it (iList X.K tl)) : PI X tg it (iList K tl) := by
  subst h; exact p
theorem itK {tl : TE} {it : Expr} (h : X.K = K) (p : PI X tg it (iTup X.K tl)) : PI X tg it (iTup K tl) := by
  subst h; exact p
theorem enumK {ta : TA} {it : Expr} (h : X.K = K) (p : PI X tg it (iEnum X.K ta)) : PI X tg it (iEnum K ta) := by
  subst h; exact p
theorem revK {te : TE} (h : X.K = K) (p : PE X e (tRevL X.K te)) : PE X e (tRevL K te) := by
  subst h; exact p
theorem tupGK {n : Nat} {t : TGs} (h : X.K = K) (p : PG X tg (gTup X.K n t)) : PG X tg (gTup K n t) := by
  subst h; exact p
end
theorem roomD {k : Nat} {A : Around} (hr : Room k A) : A.units + 1 < cLine := by have := hr.un; omega
/-- an own error without an __init__, by name -/
structure PlainX (K : PySem.W.Frag) (mg : Str → Option Value) (x : Str) (C : Addr) : Prop where
  q : PySem.W.excIn K C He.veBase "ValueError.__new__" = true
  gm : mg x = some (.ref C)
  kp : PySem.W.keepIn K (.ref C) = true
  be : PySem.W.subIn K (.ref C) (.type "BaseException") = some true
  ty : PySem.W.typeIn K (.ref C) = some (.type "type")
theorem pmk_plain {X : Cx} {x m : Str} {C : Addr} {j : Nat} {p p2 pos : Pos} (c : PlainX X.K X.mg x C) (hg : Gl X x := by rfl) (hdb : (x == ("__debug__" : Str)) = false := by decide) : PMk X (.Call (.Name x p) [.Constant (.str m) j p2] [] pos) (fun _ H Q => Q (.ref C) none H) :=
  pmk_own PySem.F.excBase_ValueError c.q c.gm c.kp (raises_own c.be c.ty) hg hdb
/-- a method as it stands -/
structure MDef (K : PySem.W.Frag) (m qual : Str) (st : Stmt) (dvs : List V) (f : Addr) (fd : FuncData) (c : Addr) : Prop where
  F : FunD K m qual (defArgs st) (defBody st) (defScope st) dvs [] f fd
  hc : fd.code = .ref c
section
variable {P : Program} {w : World} {K : PySem.W.Frag} {mg : Str → Option Value} {base : Heap} {m qual : Str} {st : Stmt} {dvs : List V} {f c C : Addr} {fd : FuncData} {N ps : List Str} {k : Nat} {sp : Sp}
theorem MDef.okF (D : MDef K m qual st dvs f fd c) (S : FnScope N ps (defScope st)) (len : ∀ vs H Q E, sp vs H Q E → vs.length = ps.length)
    (hbody : ∀ (A : Around) (outer : List Env) (s : Shared) (H : Hp) (vs : List V) (Q : VK) (E : XK), Room k (A.deeper (envOfC qual (defScope st) s.heap.objs.size f (.ref c))) → sp vs H Q E →
      ∃ t, PSs (cxOf (L2.CX P w) P w K mg base N qual (defScope st) f (.ref c) A outer s H E) (defBody st) t ∧ t { nx := fun _ H' => Q .non H', rt := Q } (start N vs) H) :
    FnOk P w K mg base (L2.CX P w) (k + 1) f fd ps sp := by
  obtain ⟨⟨⟨oc, od, dV, kV, doc, pm, an, cdv, ct, osl, rfl, lk, hcd, hD, hK⟩, kp⟩, hc⟩ := D
  have hc' : cdv = .ref c := hc
  subst hc'
  exact fn_of lk hcd S len fun A outer s H vs Q E hr hsp => hbody A outer s H vs Q E hr hsp
theorem MDef.bind0 (D : MDef K m qual st [] f fd c)
    (bd : ∀ (kV doc pm : Value) (an : Option Addr) (cdv ct : Value) (us : List Value), us.length = ps.length → bindArgs (PySem.W.fnOf m qual (defArgs st) (defBody st) (defScope st) .none kV doc pm an cdv ct) ⟨us, []⟩ = pure (ps.zip us)) : ∃ ds, Vals ([] : List V) ds ∧ Binds K fd ps ds :=
  ⟨[], .nil, D.F.bindsN bd⟩
theorem met_of (cl : Cls K C) (hm : Meth K C m f) (F : FnOk P w K mg base (L2.CX P w) k f fd ps sp) (hb : ∃ ds, Vals dvs ds ∧ Binds K fd ps ds) : Met P w K mg base k C m dvs sp := by
  obtain ⟨ds, h1, h2⟩ := hb
  exact ⟨cl, f, fd, ps, ds, hm, F, h2, h1⟩
theorem mak_of {x : Str} (gm : mg x = some (.ref C)) (M : Mk K C f) (F : FnOk P w K mg base (L2.CX P w) k f fd ps sp) (hb : ∃ ds, Vals dvs ds ∧ Binds K fd ps ds) : Mak P w K mg base k x C dvs sp := by
  obtain ⟨ds, h1, h2⟩ := hb
  exact ⟨gm, f, fd, ps, ds, M, F, h2, h1⟩
end
theorem mk_ex {α : Type _} {p q : α → Prop} {t : α} (h1 : p t) (h2 : q t) : ∃ t, p t ∧ q t := ⟨t, h1, h2⟩
def rIsubU : R2 := fun x y H Q => match x, y with
  | .int i, .int j => Q (.int (i - j)) H
  | _, _ => False
theorem opU_isub {X : Cx} : OpR X (inplaceOp .Sub) rIsubU := OpR.imp iop_sub (by
  intro x y H Q h
  unfold rIsubU at h
  split at h
  · exact ⟨_, _, rfl, rfl, h⟩
  · exact h.elim)
section
variable {K : PySem.W.Frag} {H : Hp} {Q : VK} {i j : Int} {a b : Str} {p q : Addr} {xs ys : List V}
theorem iaddU_int : rIaddU K (.int i) (.int j) H Q = Q (.int (i + j)) H := rfl
theorem isubU_int : rIsubU (.int i) (.int j) H Q = Q (.int (i - j)) H := rfl
theorem iaddU_str : rIaddU K (.str a) (.str b) H Q = (a.length + b.length ≤ sizeLine ∧ Q (.str (a ++ b)) H) := rfl
/-- two tuples, none of them empty -/
theorem addU_tup (hp : SqT K H p xs) (hq : SqT K H q ys) (hx : xs ≠ []) (hy : ys ≠ []) (hz : xs.length + ys.length ≤ sizeLine) (h : ∀ r, H r = none → Q (.ref r) (upd H r (.tup (xs ++ ys)))) : rAddU K (.ref p) (.ref q) H Q :=
  .inl ⟨p, q, xs, ys, rfl, rfl, hp, hq, hx, hz, fun z => absurd z hy, fun _ => h⟩
theorem iaddU_tup (hp : SqT K H p xs) (hq : SqT K H q ys) (hx : xs ≠ []) (hy : ys ≠ []) (hz : xs.length + ys.length ≤ sizeLine) (h : ∀ r, H r = none → Q (.ref r) (upd H r (.tup (xs ++ ys)))) : rIaddU K (.ref p) (.ref q) H Q :=
  .inl ⟨p, q, xs, ys, rfl, rfl, hp, hq, hx, hz, fun z => absurd z hy, fun _ => h⟩
end
def rMulV (K : PySem.W.Frag) : R2 := fun x y H Q => match x, y with
  | .int i, .int j => CMul i j ∧ Q (.int (i * j)) H
  | .ref _, .int _ => rRep x y H Q ∨ rRepT2 K x y H Q
  | _, _ => False
theorem opV_mul {X : Cx} : OpR X (binaryOp .Mult) (rMulV X.K) := OpR.imp (OpR.or op_mul (OpR.or op_rep op_repU)) (by
  intro x y H Q h
  unfold rMulV at h
  split at h
  · exact .inl ⟨_, _, rfl, rfl, h⟩
  · exact .inr h
  · exact h.elim)
theorem mulV_int {K : PySem.W.Frag} {H : Hp} {Q : VK} {i j : Int} : rMulV K (.int i) (.int j) H Q = (CMul i j ∧ Q (.int (i * j)) H) := rfl
theorem mulV_tup {K : PySem.W.Frag} {H : Hp} {Q : VK} {p : Addr} {xs : List V} {k : Int} (h : SqT K H p xs) (hx : xs ≠ []) (h0 : 0 ≤ k) (h1 : k ≠ 1) (h2 : k ≤ 1000) (hz : xs.length ≤ 1000) (q : ∀ r, H r = none → Q (.ref r) (upd H r (.tup (List.replicate k.toNat xs).flatten))) : rMulV K (.ref p) (.int k) H Q :=
  .inr ⟨p, k, xs, rfl, rfl, h, hx, h0, h2, hz, fun z => absurd z h1, fun _ => q⟩
theorem mulV_one {K : PySem.W.Frag} {H : Hp} {Q : VK} {p : Addr} {xs : List V} (h : SqT K H p xs) (hx : xs ≠ []) (hz : xs.length ≤ 1000) (q : Q (.ref p) H) : rMulV K (.ref p) (.int 1) H Q :=
  .inr ⟨p, 1, xs, rfl, rfl, h, hx, by decide, by decide, hz, fun _ => q, fun z => absurd rfl z⟩
end GX
end
section
set_option Elab.async false
set_option linter.all false
set_option maxRecDepth 100000
set_option maxHeartbeats 2000000
/-! enumerate(tuple); loops over enumerate -/
open PySem PySem.Sem
namespace GX
theorem draws_tup {prog : Program} {w : World} {A : Around} (hh : A.handled = none) (it l : Addr) (hne : l ≠ it) (items : Array Value) :
    Draws prog w A it [it, l] items.size (fun i v => items[i]? = some v) (fun i h => h.IsTupleIter it l i ∧ h.IsTuple l items) where
  live := fun _ _ st => let ⟨o, ho, _⟩ := st.1; ⟨o, ho⟩
  frame := fun _ _ _ st hk => ⟨st.1.at fun o e => hk it (by simp) o e, let ⟨o, ho, r⟩ := st.2; ⟨o, hk l (by simp) o ho, r⟩⟩
  item := fun i s Q E hi st hQ => by
    refine RZ.nextOf_tuple_item st.1 st.2 (x := items[i]) (by simp [hi]) fun h' hit' hs' => ?_
    exact hQ _ h' s.toks (by simp [hi]) ⟨hit', st.2.extBut hs'.extBut hne⟩ hs'
  done := fun s Q E st hE => RZ.nextOf_tuple_end hh st.1 st.2 (by simp) hE
/-- the same, at its end: nothing more is drawn -/
theorem draws_endT {prog : Program} {w : World} {A : Around} (hh : A.handled = none) (it l : Addr) (hne : l ≠ it) (items : Array Value) (n : Nat) (hn : items.size ≤ n) :
    Draws prog w A it [it, l] n (fun i v => items[i]? = some v) (fun i h => h.IsTupleIter it l i ∧ h.IsTuple l items ∧ n ≤ i) where
  live := fun _ _ st => let ⟨o, ho, _⟩ := st.1; ⟨o, ho⟩
  frame := fun _ _ _ st hk => ⟨st.1.at fun o e => hk it (by simp) o e, let ⟨o, ho, r⟩ := st.2.1; ⟨o, hk l (by simp) o ho, r⟩, st.2.2⟩
  item := fun i s Q E hi st hQ => absurd st.2.2 (by omega)
  done := fun s Q E st hE => RZ.nextOf_tuple_end hh st.1 st.2.1 (by simpa using hn) hE
theorem meets_enumerate_newT (l : Addr) (items : Array Value) (n : Nat) (dct : Option Addr) (sl : Array (Option Value)) :
    Meets (Builtin.«enumerate.__new__» ⟨[.type "enumerate", .ref l], []⟩) (fun _ R s => s.heap.get? l = some { cls := .type "tuple", dict := dct, data := .seq items n, slots := sl } ∧
      R (.ok (.ret (.ref (s.heap.push { cls := .type "tuple_iterator", data := .fields #[.ref l, .int 0 0] }).objs.size)))
        { s with heap := (s.heap.push { cls := .type "tuple_iterator", data := .fields #[.ref l, .int 0 0] }).push { cls := .type "enumerate", data := .fields #[.none, .bool false, .ref s.heap.objs.size, rawInt 0, .none, .none] } }) :=
  .of_wp fun prog w A R s h => by
    obtain ⟨hp, g, d, tk, os⟩ := s; obtain ⟨hl, h⟩ := h
    have hsub := sub_enumerate
    have hL : Heap.IsTuple (Shared.heap ⟨hp, g, d, tk, os⟩) l items := ⟨_, hl, rfl, n, rfl⟩
    wp_walk using AutoSeq1.wpAny_loadPart' hl
    refine wpAny_stack_any fun st => wpAny_pure ?_
    split
    · rename_i c _ _ _ _ _
      cases (c == Value.type "enumerate")
      · wp_walk using AutoSeq1.wpAny_loadPart' hl, wpAny_pyIter_tuple hL
        exact ⟨_, rfl, h⟩
      · wp_walk using AutoSeq1.wpAny_loadPart' hl, wpAny_pyIter_tuple hL
        exact ⟨_, rfl, h⟩
    · wp_walk using AutoSeq1.wpAny_loadPart' hl, wpAny_pyIter_tuple hL
      exact ⟨_, rfl, h⟩
section
variable {prog : Program} {w : World} {A : Around} {E : Value → Shared → Prop} {s : Shared}
theorem call_enumerate_tup {l : Addr} {items : Array Value} {Q : Value → Shared → Prop} (hL : s.heap.IsTuple l items)
    (h : ∀ h', IsEnum h' (s.heap.objs.size + 1) s.heap.objs.size 0 .none → h'.IsTupleIter s.heap.objs.size l 0 → h'.objs.size = s.heap.objs.size + 2 →
      (∀ b o, s.heap.get? b = some o → h'.get? b = some o) → Q (.ref (s.heap.objs.size + 1)) { s with heap := h' }) :
    wpAny (model prog w) A (call (.type "enumerate") [.ref l]) Q E s := by
  obtain ⟨⟨c, dct, dt, sl⟩, hl, hc, n, hd⟩ := hL
  replace hc : c = .type "tuple" := hc
  replace hd : dt = .seq items n := hd
  subst hc hd
  refine callType_new F.called_enumerate (by decide) (F.typeCall_enumerate_1 _) (F.newCall_enumerate_1 _) (fun obj => F.args_object_init_2 obj _) F.entry_enumerate_new
    (meets_enumerate_newT l items n dct sl) ⟨hl, ?_⟩
  have hz : (s.heap.push { cls := .type "tuple_iterator", data := .fields #[.ref l, .int 0 0] }).objs.size = s.heap.objs.size + 1 := Heap.size_push ..
  show _ ∧ _
  rw [hz]
  have he : IsEnum ((s.heap.push { cls := .type "tuple_iterator", data := .fields #[.ref l, .int 0 0] }).push
      { cls := .type "enumerate", data := .fields #[.none, .bool false, .ref s.heap.objs.size, rawInt 0, .none, .none] }) (s.heap.objs.size + 1) s.heap.objs.size 0 .none := by
    have := Heap.get?_push_size (s.heap.push { cls := .type "tuple_iterator", data := .fields #[.ref l, .int 0 0] })
      (o := { cls := .type "enumerate", data := .fields #[.none, .bool false, .ref s.heap.objs.size, rawInt 0, .none, .none] }) rfl
    rw [hz] at this; exact this
  refine ⟨⟨_, he, rfl⟩, h _ he ⟨_, Heap.get?_push_of_some _ (Heap.get?_push_size _ rfl), rfl, rfl⟩ (by rw [Heap.size_push, hz]) fun b o x => Heap.get?_push_of_some _ (Heap.get?_push_of_some _ x)⟩
end
open PySem.Spec PyProof.Rows L2
/-- a tuple, its items in new pairs -/
def IteT (K : PySem.W.Frag) (a : Addr) : It :=
  ⟨fun i H => ∃ (xs : List V) (x : V), SqT K H a xs ∧ xs[i]? = some x, fun i H v H' => ∃ T x, v = .ref T ∧ H T = none ∧ H' = upd H T (.tup [.int (i : Nat), x]) ∧ ∀ xs, SqT K H a xs → xs[i]? = some x, fun i H => ∃ xs : List V, SqT K H a xs ∧ xs.length ≤ i⟩
theorem turn_enumT {P : Program} {w : World} {K : PySem.W.Frag} {elts : List Expr} {kk : Nat} {tpos : Pos} (a e it : Addr) (ha : a ≠ it) (hae : a ≠ e) :
    Turn P w K (.Tuple elts kk tpos) (IteT K a) [e, it] e (fun i h => (∃ old, IsEnum h e it ((i : Nat) : Int) old) ∧ h.IsTupleIter it a i ∧ e ≠ it) where
  mem := by simp
  obj := fun i h st b hb => by
    obtain ⟨⟨old, he⟩, ⟨o, ho, hc, hd⟩, _⟩ := st
    have e' : b = e ∨ b = it := by simpa using hb
    rcases e' with z | z
    · rw [z]; exact ⟨_, he, fun v q => nomatch q⟩
    · rw [z]; exact ⟨o, ho, fun v q => by rw [hd] at q; cases q⟩
  keep := fun i h h' st k => let ⟨⟨old, he⟩, hi, hne⟩ := st; ⟨⟨old, k e (by simp) _ he⟩, hi.at fun o q => k it (by simp) o q, hne⟩
  item := by
    intro X hP hw hK hc i pins s σ H E I hf st hg
    subst hP hw hK
    obtain ⟨⟨old, he⟩, hit, hne⟩ := st
    obtain ⟨xs, x, hq, hx⟩ := hg
    obtain ⟨its, rv, p, hz⟩ := I.tuple hq
    obtain ⟨u, hu, ru⟩ := rv.get hx
    have hel : e < s.heap.objs.size := Heap.lt_size he
    have hil : it < s.heap.objs.size := by obtain ⟨_, q, _⟩ := hit; exact Heap.lt_size q
    have hlt : i < its.toArray.size := by
      rcases Nat.lt_or_ge i its.length with z | z
      · simpa using z
      · rw [List.getElem?_eq_none z] at hu; cases hu
    refine wpAny_pyNext_enum_itemD (draws_tup (A := X.A.in1) (I.ok.hd hc) it a ha its.toArray) he ⟨hit, p⟩ hlt hne (by simp [hne, Ne.symm hae]) fun y h' tk hP ho hit' hT hsz hk => ?_
    have hy : y = u := by
      have e1 : its.toArray[i]? = some y := hP
      have e2 : its.toArray[i]? = some u := by simpa using hu
      rw [e1] at e2; exact Option.some.inj e2
    subst hy
    refine ⟨_, rfl, wpAny_letOwnedTupleGo_enum (s := { s with heap := h', toks := tk + 1 }) ho fun h'' he' sb => ?_⟩
    have hT2 : h''.get? s.heap.objs.size = some { cls := .type "tuple", data := .seq #[.int i tk, y] } := (sb.2 _ (Nat.ne_of_gt hel)).trans hT
    have new : ObjOk X.prog X.w (upd H s.heap.objs.size (.tup [.int (i : Nat), x])) h'' s.heap.objs.size (.tup [.int (i : Nat), x]) :=
      ⟨by show 2 ≤ sizeLine; decide, [.int i tk, y], .cons ⟨_, rfl⟩ (.cons ru .nil), ⟨_, hT2, rfl, _, rfl⟩⟩
    have I1 : Inv X pins σ (upd H s.heap.objs.size (.tup [.int (i : Nat), x])) { s with heap := h'', toks := tk + 1 } :=
      I.turnedNew (ch := [e, it]) (fun b ob hb q => (sb.2 b (fun z => hb (by simp [z]))).trans (hk b ob (fun z => hb (by simp [z])) (fun z => hb (by simp [z])) q)) hf (Nat.le_refl _) new
    refine ⟨.ref s.heap.objs.size, _, I1, rfl, ⟨_, x, rfl, I.hok.fresh (Nat.le_refl _), rfl, fun ys hy => by rw [I.tuple_inj hy hq]; exact hx⟩, ⟨⟨y, ?_⟩, hit'.1.at fun o q => (sb.2 it (Ne.symm hne)).trans q, hne⟩, fun b hb => ?_⟩
    · have e1 : ((i + 1 : Nat) : Int) = (i : Int) + 1 := by omega
      rw [e1]; exact he'
    · have hb' : b < s.heap.objs.size := by
        have e' : b = e ∨ b = it := by simpa using hb
        rcases e' with z | z
        · rw [z]; exact hel
        · rw [z]; exact hil
      rw [upd_ne (Nat.ne_of_lt hb')]
      exact (hf b hb).1
  done := by
    intro X hP hw hK hc i pins s σ H E I hf st hg
    subst hP hw hK
    obtain ⟨⟨old, he⟩, hit, hne⟩ := st
    obtain ⟨xs, hq, hx⟩ := hg
    obtain ⟨its, rv, p, hz⟩ := I.tuple hq
    obtain ⟨f0, f1, f2, f3, f4, f5⟩ := hf it (by simp)
    have hl := rv.length
    refine wpAny_pyNext_enum_endD (draws_endT (A := X.A.in1) (I.ok.hd hc) it a ha its.toArray i (by simp; omega)) he ⟨hit, p, Nat.le_refl _⟩ fun h' eb => ⟨rfl, I.turned (t' := s.toks) (fun b o hb q => eb b o hb q) f0 f1 f3 f4 f5⟩
  self := fun A i s Q E st h => let ⟨⟨_, he⟩, _⟩ := st; wpAny_pyIter_enum he h
def iEnumT (K : PySem.W.Frag) (ta : TA) : TI := fun σ H R => ta σ H fun vs H1 => ∃ a xs, vs = [.ref a] ∧ SqT K H1 a xs ∧ R (IteT K a) H1
theorem pi_enumT {X : Cx} {e : Expr} {ta : TA} {p pos tpos : Pos} {elts : List Expr} {kk : Nat} (hg : Gl X "enumerate") (hm : X.mg "enumerate" = none) (ha : PA X [e] ta) (hs : starEach [e] X.env = [(false, eval e X.env)] := by rfl) :
    PI X (.Tuple elts kk tpos) (.Call (.Name "enumerate" p) [e] [] pos) (iEnumT X.K ta) := by
  refine ⟨fun pins s σ H R I h => ?_⟩
  refine Call_ (ld_blt I hg hm boot_enumerate (PyProof.Rows.callWith_type1 (thn (ha.run pos pins s σ H _ I h) fun us s1 ⟨vs, H1, I1, r1, q1⟩ => ?_) hs rfl))
  obtain ⟨a, xs, ex, hq, q⟩ := q1
  subst ex
  cases r1 with
  | cons r rr =>
    cases rr
    cases r
    obtain ⟨its, rv, p', hz⟩ := I1.tuple hq
    have hlt : a < s1.heap.objs.size := by obtain ⟨o, q, _⟩ := p'; exact Heap.lt_size q
    refine call_enumerate_tup (show s1.heap.IsTuple a its.toArray from p') fun h' he hit hsz hk => wpAny_pyIter_enum he ?_
    have I2 : Inv X pins σ H1 { s1 with heap := h' } := I1.kept (t' := s1.toks) hk
    refine ⟨s1.heap.objs.size + 1, [s1.heap.objs.size + 1, s1.heap.objs.size], _, _, H1, rfl, I2, turn_enumT a (s1.heap.objs.size + 1) s1.heap.objs.size (Nat.ne_of_lt hlt) (Nat.ne_of_lt (Nat.lt_succ_of_lt hlt)), ⟨⟨.none, he⟩, hit, Nat.succ_ne_self _⟩, fun b hb => ?_, q⟩
    have e' : b = s1.heap.objs.size + 1 ∨ b = s1.heap.objs.size := by simpa using hb
    have hle : s1.heap.objs.size ≤ b := by
      rcases e' with z | z
      · rw [z]; exact Nat.le_add_right _ _
      · rw [z]; exact Nat.le_refl _
    exact I1.fpOk hle (I1.hok.fresh hle)
theorem enumTK {X : Cx} {K : PySem.W.Frag} {tg it : Expr} {ta : TA} (h : X.K = K) (p : PI X tg it (iEnumT X.K ta)) : PI X tg it (iEnumT K ta) := by
  subst h; exact p
theorem walk_enumT {K : PySem.W.Frag} {a : Addr} {xs : List V} : Walk (IteT K a) xs.length (fun H => SqT K H a xs) (YPair (fun i => some (.int (i : Nat))) (fun i => xs[i]?)) := by
  refine ⟨fun i _ hi q => ⟨xs, xs[i], q, by simp [hi]⟩, fun _ q => ⟨xs, q, Nat.le_refl _⟩, fun i H v H' _ q y => ?_⟩
  obtain ⟨T, x, h1, h2, h3, h4⟩ := y
  exact ⟨T, .int (i : Nat), x, h1, h2, h3, rfl, h4 xs q⟩
section
variable {K : PySem.W.Frag} {a : Addr} {xs : List V} {g : TG} {tb : TS} {D : Ends} {σ : L2.St} {H : Hp}
theorem loop_enum (Pv : Nat → L2.St → Hp → Prop) (h0 : Pv 0 σ H) (hl : ∀ i σ H, i ≤ xs.length → Pv i σ H → SqL K H a xs)
    (hs : ∀ i x σ H T, xs[i]? = some x → Pv i σ H → H T = none → g (.ref T) σ (upd H T (.tup [.int (i : Nat), x])) fun σ2 H2 => tb { D with nx := Pv (i + 1), ct := Pv (i + 1), bk := D.nx } σ2 H2) (hd : ∀ σ H, Pv xs.length σ H → D.nx σ H) : Loop g tb D (Ite K a) σ H :=
  for_it walk_enum Pv h0 hl (fun i x σ H H' hi p y => by
    obtain ⟨T, x1, x2, rfl, h2, rfl, h4, h5⟩ := y
    cases h4
    exact hs i x2 σ H T h5 p h2) hd
theorem loop_enumT (Pv : Nat → L2.St → Hp → Prop) (h0 : Pv 0 σ H) (hl : ∀ i σ H, i ≤ xs.length → Pv i σ H → SqT K H a xs)
    (hs : ∀ i x σ H T, xs[i]? = some x → Pv i σ H → H T = none → g (.ref T) σ (upd H T (.tup [.int (i : Nat), x])) fun σ2 H2 => tb { D with nx := Pv (i + 1), ct := Pv (i + 1), bk := D.nx } σ2 H2) (hd : ∀ σ H, Pv xs.length σ H → D.nx σ H) : Loop g tb D (IteT K a) σ H :=
  for_it walk_enumT Pv h0 hl (fun i x σ H H' hi p y => by
    obtain ⟨T, x1, x2, rfl, h2, rfl, h4, h5⟩ := y
    cases h4
    exact hs i x2 σ H T h5 p h2) hd
theorem lcl_enumT {tt : TT} {te : TE} {vs : List Nat} {H1 : Hp} {D : Addr} {Qd : Hp → Prop} (Pv : Nat → Hp → Prop) (h0 : Pv 0 (upd H1 D (.lst []))) (hl : ∀ i H, i ≤ xs.length → Pv i H → SqT K H a xs)
    (hs : ∀ i x H T, xs[i]? = some x → Pv i H → H T = none → g (.ref T) (wipe σ vs) (upd H T (.tup [.int (i : Nat), x])) fun σ2 H2 => wipe σ2 vs = wipe σ vs ∧ tt σ2 H2 fun b H3 =>
      if b = true then te σ2 H3 fun y H4 => ∃ acc, H4 D = some (.lst acc) ∧ acc.length < sizeLine ∧ Pv (i + 1) (upd H4 D (.lst (acc ++ [y]))) else Pv (i + 1) H3) (hd : ∀ H, Pv xs.length H → Qd H) : LcLoop g tt te vs (IteT K a) σ H1 D Qd :=
  lc_it walk_enumT Pv h0 hl (fun i x H H' hi p y => by
    obtain ⟨T, x1, x2, rfl, h2, rfl, h4, h5⟩ := y
    cases h4
    exact hs i x2 H T h5 p h2) hd
end
end GX
/-! ### tuples: added, cut, repeated, of any length -/
namespace GX
open PySem.Spec PyProof.Rows L2
def rAddA (K : PySem.W.Frag) : R2 := fun x y H Q => match x, y with
  | .int i, .int j => Q (.int (i + j)) H
  | .str a, .str b => a.length + b.length ≤ sizeLine ∧ Q (.str (a ++ b)) H
  | .ref _, .ref _ => rCatA K x y H Q ∨ rCat x y H Q
  | _, _ => False
theorem opA_add {X : Cx} : OpR X (binaryOp .Add) (rAddA X.K) := by
  refine OpR.imp (OpR.or (opU_add (X := X)) op_catA) ?_
  intro x y H Q h
  unfold rAddA at h
  split at h
  · exact .inl h
  · exact .inl h
  · rcases h with h | h
    · exact .inr h
    · exact .inl (.inr h)
  · exact h.elim
section
variable {K : PySem.W.Frag} {H : Hp} {Q : VK} {i j : Int} {a b : Str} {p q : Addr} {xs ys : List V} {TL : List (Addr × Str)} {GT : List Addr}
theorem addA_int : rAddA K (.int i) (.int j) H Q = Q (.int (i + j)) H := rfl
theorem addA_str : rAddA K (.str a) (.str b) H Q = (a.length + b.length ≤ sizeLine ∧ Q (.str (a ++ b)) H) := rfl
theorem addA_tup (hp : SqT K H p xs) (hq : SqT K H q ys) (hz : xs.length + ys.length ≤ sizeLine) (h : ∀ r H', Ex [] TL GT H H' → SqT K H' r (xs ++ ys) → Q (.ref r) H') : rAddA K (.ref p) (.ref q) H Q := by
  refine .inl ⟨p, q, xs, ys, rfl, rfl, hp, hq, hz, fun e => ?_, fun _ e => ?_, fun _ _ r hr => ?_⟩
  · subst e; exact h q H Ex.refl (by simpa using hq)
  · subst e; exact h p H Ex.refl (by simpa using hp)
  · exact h r _ (Ex.new hr) (.inl (.inl upd_same))
theorem slA_tup {lo hi : Option Int} (hp : SqT K H p xs) (h : ∀ r H', Ex [] TL GT H H' → SqT K H' r (cutV xs lo hi) → Q (.ref r) H') : rSlA K (.ref p) lo hi H Q := by
  refine ⟨p, xs, rfl, hp, fun e => ?_, fun _ r hr => h r _ (Ex.new hr) (.inl (.inl upd_same))⟩
  refine h p H Ex.refl ?_
  have e1 : cutV xs lo hi = xs := by unfold cutV; rw [e.1, e.2]; simp
  rw [e1]; exact hp
theorem mulV_any {k : Int} (hp : SqT K H p xs) (hx : xs ≠ []) (h0 : 0 ≤ k) (h2 : k ≤ 1000) (hz : xs.length ≤ 1000) (h : ∀ r H', Ex [] TL GT H H' → SqT K H' r (List.replicate k.toNat xs).flatten → Q (.ref r) H') : rMulV K (.ref p) (.int k) H Q := by
  by_cases h1 : k = 1
  · subst h1
    exact mulV_one hp hx hz (h p H Ex.refl (by simpa using hp))
  · exact mulV_tup hp hx h0 h1 h2 hz fun r hr => h r _ (Ex.new hr) (.inl (.inl upd_same))
theorem cutV_to {xs : List V} (n : Nat) (h : n ≤ xs.length) : cutV xs none (some (n : Int)) = xs.take n := by
  unfold cutV
  rw [HT.sIx_none, HT.sIx_nat, Nat.min_eq_left h, List.drop_zero, Nat.sub_zero]
theorem cutV_from {xs : List V} (n : Nat) (h : n ≤ xs.length) : cutV xs (some (n : Int)) none = xs.drop n := by
  unfold cutV
  rw [HT.sIx_none, HT.sIx_nat, Nat.min_eq_left h, List.take_of_length_le (by rw [List.length_drop]; exact Nat.le_refl _)]
theorem cutV_mid {xs : List V} (n m : Nat) (h : n ≤ m) (hm : m ≤ xs.length) : cutV xs (some (n : Int)) (some (m : Int)) = (xs.drop n).take (m - n) := by
  unfold cutV
  rw [HT.sIx_nat, HT.sIx_nat, Nat.min_eq_left hm, Nat.min_eq_left (Nat.le_trans h hm)]
end
end GX
end
section
set_option Elab.async false
set_option linter.all false
set_option maxRecDepth 100000
set_option maxHeartbeats 2000000
/-! == and != of tuples of ints, of lists of pairs -/
namespace GX
open PySem PySem.Spec PyProof.Rows L2
theorem canLay_ints : ∀ ns : List Int, PyData.canLayAll0 (ns.map PyData.int) = true
  | [] => rfl
  | _ :: ns => by
    show (PyData.canLay0 (.int _) && PyData.canLayAll0 (ns.map PyData.int)) = true
    rw [canLay_ints ns]; rfl
theorem depth_ints : ∀ ns : List Int, PyData.depthAll (ns.map PyData.int) = 0
  | [] => rfl
  | _ :: ns => by
    show max 0 (PyData.depthAll (ns.map PyData.int)) = 0
    rw [depth_ints ns]; rfl
theorem shaped_tupI (ns : List Int) : SeqAt.shaped (.tuple (ns.map PyData.int)) = true := by
  unfold SeqAt.shaped
  rw [show PyData.canLay0 (.tuple (ns.map PyData.int)) = true from canLay_ints ns, show PyData.depth (.tuple (ns.map PyData.int)) = 0 + 1 by show PyData.depthAll _ + 1 = _; rw [depth_ints]]
  rfl
theorem eqvAll_ints : ∀ ns ms : List Int, PyData.eqvAll (ns.map PyData.int) (ms.map PyData.int) = decide (ns = ms)
  | [], [] => rfl
  | [], _ :: _ => rfl
  | _ :: _, [] => rfl
  | n :: ns, m :: ms => by
    show ((n == m) && PyData.eqvAll (ns.map PyData.int) (ms.map PyData.int)) = _
    rw [eqvAll_ints ns ms]
    by_cases h : n = m
    · subst h; by_cases h2 : ns = ms <;> simp [h2]
    · simp [h]
section
variable {K : PySem.W.Frag} {H : Hp} {p q : Addr} {Q : VK} {ns ms : List Int}
theorem dp_ints : ∀ ns : List Int, DpAll K H (ns.map V.int) (ns.map PyData.int)
  | [] => .nil
  | n :: ns => .cons (.int n) (dp_ints ns)
theorem ne_tups (hp : SqT K H p (ns.map V.int)) (hq : SqT K H q (ms.map V.int)) (h : Q (.bl (!decide (ns = ms))) H) : rNeU K (.ref p) (.ref q) H Q := by
  refine ⟨.tuple (ns.map .int), .tuple (ms.map .int), .tup hp (dp_ints ns), .tup hq (dp_ints ms), shaped_tupI ns, shaped_tupI ms, ?_⟩
  rw [show PyData.eqv (.tuple (ns.map PyData.int)) (.tuple (ms.map PyData.int)) = PyData.eqvAll (ns.map PyData.int) (ms.map PyData.int) from rfl, eqvAll_ints]
  exact h
theorem eq_tups (hp : SqT K H p (ns.map V.int)) (hq : SqT K H q (ms.map V.int)) (h : Q (.bl (decide (ns = ms))) H) : rEqU K (.ref p) (.ref q) H Q := by
  refine ⟨.tuple (ns.map .int), .tuple (ms.map .int), .tup hp (dp_ints ns), .tup hq (dp_ints ms), shaped_tupI ns, shaped_tupI ms, ?_⟩
  rw [show PyData.eqv (.tuple (ns.map PyData.int)) (.tuple (ms.map PyData.int)) = PyData.eqvAll (ns.map PyData.int) (ms.map PyData.int) from rfl, eqvAll_ints]
  exact h
end
/-! rows: a list of (int, tuple of ints) -/
def rowD (b : Int × List Int) : PyData := .tuple [.int b.1, .tuple (b.2.map .int)]
theorem canLay_rows : ∀ l : List (Int × List Int), PyData.canLayAll0 (l.map rowD) = true
  | [] => rfl
  | b :: l => by
    show (PyData.canLay0 (rowD b) && PyData.canLayAll0 (l.map rowD)) = true
    rw [canLay_rows l]
    show ((true && (PyData.canLayAll0 (b.2.map .int) && true)) && true) = true
    rw [canLay_ints]; rfl
theorem depth_rows : ∀ l : List (Int × List Int), PyData.depthAll (l.map rowD) ≤ 2
  | [] => by decide
  | b :: l => by
    show max (PyData.depth (rowD b)) (PyData.depthAll (l.map rowD)) ≤ 2
    have h := depth_rows l
    have e : PyData.depth (rowD b) = 2 := by
      show max 0 (max (PyData.depthAll (b.2.map .int) + 1) 0) + 1 = 2
      rw [depth_ints]; rfl
    omega
theorem shaped_rows (l : List (Int × List Int)) : SeqAt.shaped (.list (l.map rowD)) = true := by
  unfold SeqAt.shaped
  have h := depth_rows l
  rw [show PyData.canLay0 (.list (l.map rowD)) = true from canLay_rows l, show PyData.depth (.list (l.map rowD)) = PyData.depthAll (l.map rowD) + 1 from rfl]
  simp
  omega
theorem eqvAll_rows : ∀ l m : List (Int × List Int), PyData.eqvAll (l.map rowD) (m.map rowD) = decide (l = m)
  | [], [] => rfl
  | [], _ :: _ => rfl
  | _ :: _, [] => rfl
  | a :: l, b :: m => by
    show (PyData.eqv (rowD a) (rowD b) && PyData.eqvAll (l.map rowD) (m.map rowD)) = _
    rw [eqvAll_rows l m]
    have e : PyData.eqv (rowD a) (rowD b) = decide (a = b) := by
      show ((a.1 == b.1) && (PyData.eqvAll (a.2.map .int) (b.2.map .int) && true)) = _
      rw [eqvAll_ints]
      obtain ⟨a1, a2⟩ := a
      obtain ⟨b1, b2⟩ := b
      by_cases h : a1 = b1
      · subst h; by_cases h2 : a2 = b2 <;> simp [h2]
      · simp [h]
    rw [e]
    by_cases h : a = b
    · subst h; by_cases h2 : l = m <;> simp [h2]
    · simp [h]
end GX
end
section
set_option Elab.async false
set_option linter.all false
set_option maxRecDepth 100000
set_option maxHeartbeats 2000000
/-! a def that calls what it got and tells two errors by words -/
namespace GX
open PySem PySem.Spec PyProof.Rows L2
def TTold2 (K : PySem.W.Frag) (C1 : Addr) (r1 : Str) (C2 : Addr) (r2 : Str) : (XK → Hp → VK → Prop) → Hp → VK → Prop := fun tl H Q =>
  tl (fun cls _ H' => ∃ b, PySem.W.exmOne K cls (.ref C1) = some b ∧ (b = true → Q (.str r1) H') ∧ (b = false → ∃ b2, PySem.W.exmOne K cls (.ref C2) = some b2 ∧ (b2 = true → Q (.str r2) H') ∧ (b2 = false → False))) H Q
theorem told_gives2 {X : Cx} {Ng : List Str} {x a e1 e2 q ret1 ret2 : Str} {sg : Scope} {g C1 C2 : Addr} {cdg : Value} {j1 j2 : Nat} {p1 p2 p3 p4 p5 p6 p7 p8 p9 p10 p11 p12 : Pos} (hge1 : sg.names.lookup e1 = some .globalImplicit) (hme1 : X.mg e1 = some (.ref C1)) (hde1 : (e1 == ("__debug__" : Str)) = false)
    (hge2 : sg.names.lookup e2 = some .globalImplicit) (hme2 : X.mg e2 = some (.ref C2)) (hde2 : (e2 == ("__debug__" : Str)) = false) (h0 : ∀ f : Addr, (L2.start Ng [V.ref f])[0]? = some (some (V.ref f))) :
    LamX.GivesTo X Ng x sg g cdg [.Try [.Return (some (.Call (.Name a p1) [] [] p2)) p3] [.ExceptHandler (some (.Name e1 p4)) none [.Return (some (.Constant (.str ret1) j1 p5)) p6] p7, .ExceptHandler (some (.Name e2 p9)) none [.Return (some (.Constant (.str ret2) j2 p10)) p11] p12] [] [] p8] a q (TTold2 X.K C1 ret1 C2 ret2) := by
  intro f c' s H Q tl act hc h
  have hgl1 : Gl (cxOf C8.CX0 X.prog X.w X.K X.mg X.base Ng x sg g cdg X.A X.stack s H C8.E0).nox e1 := hge1
  have hgl2 : Gl (cxOf C8.CX0 X.prog X.w X.K X.mg X.base Ng x sg g cdg X.A X.stack s H C8.E0).nox e2 := hge2
  refine ⟨_, pss_one (ps_try_many (X := (cxOf C8.CX0 X.prog X.w X.K X.mg X.base Ng x sg g cdg X.A X.stack s H C8.E0).nox)
      (tb := fun W D σ H => ∃ Ech : XK, (∀ cls d σ' H', Ech cls d H' → W cls d σ' H') ∧ σ[0]? = some (some (.ref f)) ∧ H c' = some (LamX.CodeO c' q) ∧ tl Ech H D.rt)
      rfl rfl takes0 (fun W pn xe tk _ => ?_) (.cons (c := .ref C1) ⟨hgl1, hde1, .inl hme1⟩ (fun a oe cls d pn _ _ => pss_one (ps_ret pe_str)) (.cons (c := .ref C2) ⟨hgl2, hde2, .inl hme2⟩ (fun a oe cls d pn _ _ => pss_one (ps_ret pe_str)) .nil))), ?_⟩
  · refine ⟨fun pins s' σ H' D I h' => ?_⟩
    obtain ⟨Ech, hW, h1, h2, h3⟩ := h'
    have hp := act W pn xe Ech p1 p2 tk hW
    have hq := pss_one (ps_ret (pos := p3) hp)
    exact hq.run pins s' σ H' D I ⟨h1, h2, h3⟩
  · refine ⟨_, fun cls d σ' H' hh => ?_, h0 f, hc, h⟩
    obtain ⟨b, g1, g2, g3⟩ := hh
    refine ⟨b, g1, fun hb a _ => g2 hb, fun hb => ?_⟩
    obtain ⟨b2, k1, k2, k3⟩ := g3 hb
    exact ⟨b2, k1, fun hb a _ => k2 hb, fun hb => k3 hb⟩
structure Told2 (K : PySem.W.Frag) (mg : Str → Option Value) (x a e1 ret1 e2 ret2 : Str) (C1 C2 : Addr) : Prop where
  ex : ∃ (g cg : Addr) (fd : FuncData) (st : Stmt) (Ng : List Str) (p1 p2 p3 p4 p5 p6 p7 p8 p9 p10 p11 p12 : Pos), Def K mg x st g fd cg ∧
    defBody st = [.Try [.Return (some (.Call (.Name a p1) [] [] p2)) p3] [.ExceptHandler (some (.Name e1 p4)) none [.Return (some (.Constant (.str ret1) 0 p5)) p6] p7, .ExceptHandler (some (.Name e2 p9)) none [.Return (some (.Constant (.str ret2) 0 p10)) p11] p12] [] [] p8] ∧ FnScope Ng [a] (defScope st) ∧ Ng[0]? = some a ∧ Vis (defScope st) a ∧
    (defScope st).names.lookup e1 = some .globalImplicit ∧ (defScope st).names.lookup e2 = some .globalImplicit ∧ (∀ f : Addr, (L2.start Ng [V.ref f])[0]? = some (some (V.ref f))) ∧
    (∀ (kV doc pm : Value) (an : Option Addr) (cdv ct : Value) (us : List Value), us.length = [a].length → bindArgs (PySem.W.fnOf x x (defArgs st) (defBody st) (defScope st) .none kV doc pm an cdv ct) ⟨us, []⟩ = pure ([a].zip us))
  me1 : mg e1 = some (.ref C1)
  de1 : (e1 == ("__debug__" : Str)) = false
  me2 : mg e2 = some (.ref C2)
  de2 : (e2 == ("__debug__" : Str)) = false
  da : (a == ("__debug__" : Str)) = false
  dx : (x == ("__debug__" : Str)) = false
  dc : (a == ("__classdict__" : Str)) = false
theorem pe_told2 {X : Cx} {x a e1 ret1 e2 ret2 : Str} {C1 C2 c P : Addr} {TL : List (Addr × Str)} {k : Nat} {params : Arguments} {body : Expr} {scope : Scope} {t : XK → TE} {p lpos pos : Pos} (T : Told2 X.K X.mg x a e1 ret1 e2 ret2 C1 C2) (hg : Gl X x)
    (TB : LamX.TabB X.base X.mg c P) (hcode : X.env.code = .ref c) (hmT : (P, X.env.qual ++ "<lambda>") ∈ TL) (hu : ∀ p ∈ TL, p.1 = P → p.2 = X.env.qual ++ "<lambda>") (hr : Room (k + 2) X.A) (L : LamX.LamS X.env.scope scope) (hdef : defaultsOf params X.env = ([], []))
    (hbind : ∀ (q : Str) (cl : List (Str × Addr)) (pm cv ctv : Value), bindArgs (PySem.W.kla_fn "<lambda>" q params body scope cl pm cv ctv) ⟨[], []⟩ = pure [])
    (hbody : ∀ (A : Around) (outer : List Env) (s : Shared) (H : Hp) (E : XK) (f c' : Addr), Room k (A.deeper (LamX.lamEnv X scope s.heap.objs.size f c')) → PE (LamX.lamCx X A outer s H E scope f c') body (t E)) :
    PE X (.Call (.Name x p) [.Lambda params body scope lpos] [] pos) (LamX.tLam TL (TTold2 X.K C1 ret1 C2 ret2) t) := by
  obtain ⟨⟨g, cg, fd, st, Ng, p1, p2, p3, p4, p5, p6, p7, p8, p9, p10, p11, p12, D, hb, S, h1, h2, h3, h3', h4, h5⟩, me1, de1, me2, de2, da, dx, dc⟩ := T
  obtain ⟨⟨oc, od, kV, doc, pm, an, ct, osl, rfl, lk, hcd⟩, kp, gm⟩ := D
  refine LamX.pe_lamcall (a := a) hg gm kp lk hcd (.all (h5 kV doc pm an (.ref cg) ct)) S h1 h2 ?_ TB hcode hmT hu hr L hdef hbind hbody dx da dc
  rw [hb]
  exact told_gives2 h3 me1 de1 h3' me2 de2 h4
end GX
end
section
set_option Elab.async false
set_option linter.all false
set_option maxRecDepth 100000
set_option maxHeartbeats 2000000
/-! a dict that is made and walked; a row taken out of a list; more -/
namespace GX
open PySem PySem.Spec PyProof.Rows L2
/-- a lock that is let go, it may be -/
def unl (H0 : Hp) (R : Hp → Prop) : Hp → Prop := fun H' => R H' ∨ ∃ d od u, H' d = some (.frz od u) ∧ (∀ o w, H0 d ≠ some (.frz o w)) ∧ R (upd H' d u)
def tLk (t : TE) : TE := fun σ H Q => t σ H fun x H1 => ∃ d u, x = .ref d ∧ H1 d = some u ∧ Mut (some u) ∧ ∀ od, Q x (upd H1 d (.frz od u))
def tLockA (t : TS) : TS := fun D σ H => t ⟨fun σ' => unl H (D.nx σ'), fun v => unl H (D.rt v), fun σ' => unl H (D.bk σ'), fun σ' => unl H (D.ct σ')⟩ σ H
def tLockEA (t : TE) : TE := fun σ H Q => t σ H fun v => unl H (Q v)
section
variable {X : Cx}
theorem pe_lk {e : Expr} {t : TE} (h : PE X e t) : PE X e (tLk t) := by
  refine ⟨fun pins s σ H Q I hw => ?_⟩
  refine thn (h.run pins s σ H _ I hw) fun v s1 ⟨x, H1, I1, r, d, u, e, hd, mu, q⟩ => ?_
  obtain ⟨od, I2⟩ := I1.lock hd mu
  exact ⟨x, _, I2, r, q od⟩
theorem unl_ok {pins : List (Addr × Obj)} {σ σ' : L2.St} {H H' : Hp} {s s' : Shared} {R : Hp → Prop} (I : Inv X pins σ H s) (I2 : Inv X pins σ' H' s') (h : unl H R H') : ∃ H2, Inv X pins σ' H2 s' ∧ R H2 := by
  rcases h with h | ⟨d, od, u, e, hn, q⟩
  · exact ⟨H', I2, h⟩
  · exact ⟨_, I2.unlock e (fun o w z => hn o w (I.base.frzs d o w z)), q⟩
theorem ps_lockA {st : Stmt} {t : TS} (h : PS X st t) : PS X st (tLockA t) := by
  refine ⟨fun pins s σ H D I hw => ?_⟩
  refine thn (h.run pins s σ _ _ I hw) fun f s1 q => ?_
  cases f with
  | next => obtain ⟨σ', H', I2, q⟩ := q; obtain ⟨H2, I3, q⟩ := unl_ok I I2 q; exact ⟨σ', _, I3, q⟩
  | brk => obtain ⟨σ', H', I2, q⟩ := q; obtain ⟨H2, I3, q⟩ := unl_ok I I2 q; exact ⟨σ', _, I3, q⟩
  | cont => obtain ⟨σ', H', I2, q⟩ := q; obtain ⟨H2, I3, q⟩ := unl_ok I I2 q; exact ⟨σ', _, I3, q⟩
  | ret v => obtain ⟨x, σ', H', I2, r, q⟩ := q; obtain ⟨H2, I3, q⟩ := unl_ok I I2 q; exact ⟨x, σ', _, I3, r, q⟩
theorem pe_lockA {e : Expr} {t : TE} (h : PE X e t) : PE X e (tLockEA t) := by
  refine ⟨fun pins s σ H Q I hw => ?_⟩
  refine thn (h.run pins s σ _ _ I hw) fun v s1 ⟨x, H1, I2, r, q⟩ => ?_
  obtain ⟨H2, I3, q⟩ := unl_ok I I2 q
  exact ⟨x, _, I3, r, q⟩
/-! ### a row taken out -/
def rRemD (K : PySem.W.Frag) : V → List V → Hp → VK → Prop := fun x xs H Q => ∃ (l : Addr) (as : List Addr) (y : V) (d : PyData) (ds : List PyData) (j : Nat), x = .ref l ∧ xs = [y] ∧ H l = some (.lst (as.map V.ref)) ∧ as.Nodup ∧ DpAll K H (as.map V.ref) ds ∧ Dp K H y d ∧ SeqAt.shaped d = true ∧ (∀ z ∈ ds, SeqAt.shaped z = true) ∧
  (∃ z, ds[j]? = some z ∧ PyData.eqv z d = true) ∧ (∀ m z, m < j → ds[m]? = some z → PyData.eqv z d = false) ∧ Q .non (upd H l (.lst ((as.eraseIdx j).map V.ref)))
theorem erase_mapR : ∀ (l : List Addr) (j : Nat), (l.map V.ref).eraseIdx j = (l.eraseIdx j).map V.ref
  | [], j => by simp
  | a :: r, 0 => by simp
  | a :: r, j + 1 => by
    have ih := erase_mapR r j
    simp [ih]
theorem dp_at {K : PySem.W.Frag} {H : Hp} : ∀ {vs : List V} {ds : List PyData} {i : Nat} {v : V}, DpAll K H vs ds → vs[i]? = some v → ∃ d, ds[i]? = some d ∧ Dp K H v d
  | _, _, 0, _, .cons p _, h => ⟨_, rfl, by cases h; exact p⟩
  | _, _, i + 1, _, .cons _ r, h => dp_at (i := i) r h
  | _, _, _, _, .nil, h => by cases h
theorem dp_len {K : PySem.W.Frag} {H : Hp} : ∀ {vs : List V} {ds : List PyData}, DpAll K H vs ds → vs.length = ds.length
  | _, _, .nil => rfl
  | _, _, .cons _ r => by rw [List.length_cons, List.length_cons, dp_len r]
theorem vals_refs : ∀ {as : List Addr} {us : List Value}, Vals (as.map V.ref) us → us = as.map Value.ref
  | [], _, .nil => rfl
  | a :: as, _, .cons r h => by
    rw [vals_refs h]
    cases r
    rfl
theorem mt_removeD (hu : X.A.units + 66 < cLine) : MtM X "list.remove" (rRemD X.K) := by
  intro pins s σ H x xs v us Q I rx rxs h
  obtain ⟨l, as, y, d, ds, j, rfl, rfl, hH, hnd, hds, hy, hsd, hsds, ⟨zj, hj, hjt⟩, hno, q⟩ := h
  cases rx
  obtain ⟨u, rfl, ru⟩ := rxs.one
  obtain ⟨z, its, n, r, hl, e⟩ := I.lstM hH
  have hits := vals_refs r
  have hlen : as.length = ds.length := by have := dp_len hds; rwa [List.length_map] at this
  have hjl : j < as.length := by rw [hlen]; exact (List.getElem?_eq_some_iff.mp hj).1
  have hil : its.length = as.length := by rw [hits, List.length_map]
  obtain ⟨bs, rd⟩ := Dp.reads I d y u hy ru
  have hat : ∀ i (h : i < as.length), ∃ z, ds[i]? = some z ∧ SeqAt.EqAt X.A.in1 s (Value.ref as[i]) u (PyData.eqv z d) := fun i hi => by
    obtain ⟨z, hz, hdz⟩ := dp_at (i := i) (v := V.ref as[i]) hds (by rw [List.getElem?_map, List.getElem?_eq_getElem hi]; rfl)
    obtain ⟨cs, rz⟩ := Dp.reads I z (V.ref as[i]) (Value.ref as[i]) hdz rfl
    have s1 := hsds z (List.mem_of_getElem? hz)
    have h1 := SeqAt.depth_of_shaped s1
    refine ⟨z, hz, SeqAt.eqAt_reads z d X.A.in1 s _ _ cs bs rz rd (SeqAt.canLay_of_shaped s1) (SeqAt.canLay_of_shaped hsd) ?_⟩
    have : X.A.in1.units = X.A.units + 1 := rfl
    have : min z.depth d.depth ≤ z.depth := Nat.min_le_left _ _
    omega
  let ef : Value → Bool := fun v => @decide (∃ i, ∃ h : i < as.length, v = Value.ref as[i] ∧ ∃ z, ds[i]? = some z ∧ PyData.eqv z d = true) (Classical.propDecidable _)
  have hef : ∀ i (h : i < as.length), ∃ z, ds[i]? = some z ∧ ef (Value.ref as[i]) = PyData.eqv z d := fun i hi => by
    obtain ⟨z, hz, _⟩ := hat i hi
    refine ⟨z, hz, ?_⟩
    cases hv : PyData.eqv z d with
    | true => exact @decide_eq_true _ (Classical.propDecidable _) ⟨i, hi, rfl, z, hz, hv⟩
    | false =>
      refine @decide_eq_false _ (Classical.propDecidable _) ?_
      rintro ⟨i2, hi2, e2, z2, hz2, hv2⟩
      have e3 : as[i] = as[i2] := by injection e2
      have e4 : i = i2 := (List.getElem_inj hnd).mp e3
      subst e4
      rw [hz] at hz2
      cases hz2
      rw [hv] at hv2
      cases hv2
  have hsz : its.toArray.size = as.length := by rw [List.size_toArray, hil]
  have hget : ∀ m (h : m < its.toArray.size), its.toArray[m] = Value.ref (as[m]'(by rw [← hsz]; exact h)) := fun m hm => by
    subst hits
    simp
  have z2 : its.length ≤ sizeLine := by rw [hil]; rw [List.length_map] at z; exact z
  refine call_meets PySem.F.slot_list_remove ⟨_, e, rfl⟩ PySem.F.entry_list_remove (PySem.F.args_list_remove_2 _ _)
    (SeqAt.list_removeAt l its.toArray n none #[] u ef j (by rw [hsz]; exact hjl) ?_ ?_ (by rw [List.size_toArray]; exact z2)) ⟨e, fun y hy => ?_, ?_⟩
  · rw [hget j (by rw [hsz]; exact hjl)]
    obtain ⟨z, hz, he⟩ := hef j hjl
    rw [hj] at hz
    cases hz
    rw [he]; exact hjt
  · intro m hm hmj
    rw [hget m hm]
    obtain ⟨z, hz, he⟩ := hef m (by rw [← hsz]; exact hm)
    rw [he]
    exact hno m z hmj hz
  · obtain ⟨m, hm, hm2⟩ := Array.mem_iff_getElem.mp hy
    rw [hget m hm] at hm2
    have hm' : m < as.length := by rw [← hsz]; exact hm
    obtain ⟨z, hz, he⟩ := hef m hm'
    obtain ⟨z2, hz2, h2⟩ := hat m hm'
    rw [hz] at hz2
    cases hz2
    rw [← hm2, he]
    exact h2
  · have rr := r.eraseIdx j
    rw [erase_mapR] at rr
    refine ⟨.non, _, I.lset (its' := its.eraseIdx j) (t' := s.toks) hH e ?_ rr ?_, rfl, q⟩
    · show its.toArray.eraseIdxIfInBounds j = (its.eraseIdx j).toArray
      rw [List.eraseIdxIfInBounds_toArray]
    · rw [List.length_map] at z ⊢
      exact Nat.le_trans (List.length_eraseIdx_le _ _) z
end
end GX
end
section
set_option Elab.async false
set_option linter.all false
set_option maxRecDepth 100000
set_option maxHeartbeats 2000000
/-! sorted(d.items()) of a dict whose keys are ints and whose values are texts -/
namespace GX
open PySem PySem.Spec PyProof.Rows L2
def headI (h : Heap) : Value → Int
  | .ref a => match h.get? a with
    | some o => match o.data with
      | .seq xs _ => match xs[0]? with
        | some v => (match v with
          | .int i _ => i
          | _ => 0)
        | none => 0
      | _ => 0
    | none => 0
  | _ => 0
def HasI (h : Heap) (v : Value) (i : Int) (x : Str) : Prop := ∃ a t u, v = .ref a ∧ IsTup h a #[.int i t, .str x u]
theorem HasI.head {h : Heap} {v : Value} {i : Int} {x : Str} (e : HasI h v i x) : headI h v = i := by
  obtain ⟨a, t, u, rfl, o, ho, hc, n, hd⟩ := e
  simp [headI, ho, hd]
theorem firstsI {h : Heap} : ∀ vs : List Value, (∀ v ∈ vs, ∃ i x, HasI h v i x) → ∃ fs, PySem.W.KatTups h vs fs ∧ fs.length = vs.length ∧ ∀ f, f ∈ fs → ∃ n t, f = Value.int n t
  | [], _ => ⟨[], PySem.W.KatTups.nil, rfl, fun f hf => by simp at hf⟩
  | v :: vs, x => by
    obtain ⟨fs, k, hl, hi⟩ := firstsI vs fun u hu => x u (List.mem_cons_of_mem _ hu)
    obtain ⟨i, y, a, t, u, rfl, o, ho, hc, n, hd⟩ := x v (List.mem_cons_self ..)
    refine ⟨.int i t :: fs, PySem.W.KatTups.cons ho hc hd rfl k, by simp [hl], ?_⟩
    intro f hf
    rcases List.mem_cons.mp hf with rfl | hf
    · exact ⟨i, t, rfl⟩
    · exact hi f hf
section
variable {prog : Program} {w : World} {A : Around} {E : Value → Shared → Prop} {s : Shared}
theorem kind_is {vs : List Value} (M : Int → Str) (h2 : 2 ≤ vs.length) (x : ∀ v ∈ vs, ∃ i, HasI s.heap v i (M i)) (Q : SortKind → Shared → Prop)
    (h : ∀ κ, TS.Cmp prog w A s κ (pairsOf vs) (headI s.heap) → Q κ s) : wpAny (model prog w) A (keyKind' vs.toArray) Q E s := by
  obtain ⟨fs, k, hl, hi⟩ := firstsI vs fun v hv => let ⟨i, e⟩ := x v hv; ⟨i, _, e⟩
  refine PySem.W.kat_kind (T := Value.type "int") k (by omega) (fun f hf => ?_) rfl (h _ ?_)
  · obtain ⟨n, t, rfl⟩ := hi f hf
    exact PySem.W.Looks.of_pure rfl
  · intro p q hp hq Q' E' hQ
    rw [pairsOf_toList] at hp hq
    obtain ⟨i, pi⟩ := x _ (mem_zip_self hp).2
    obtain ⟨j, pj⟩ := x _ (mem_zip_self hq).2
    have hQ' : Q' (decide (i < j)) s := by
      have z : decide (headI s.heap p.1 < headI s.heap q.1) = decide (i < j) := by rw [pi.head, pj.head]
      rw [← z]; exact hQ
    obtain ⟨a, t, u, e1, o, ho, hc, n, hd⟩ := pi
    obtain ⟨a', t', u', e2, o', ho', hc', n', hd'⟩ := pj
    rw [e1, e2]
    refine PySem.W.kat_lt ho hd ho' hd' ?_
    show PySem.W.KatLex prog w A _ false Q' [(Value.int i t, Value.int j t'), (Value.str (M i) u, Value.str (M j) u')] 0 s
    refine PySem.W.kat_cons (wpAny_eqBool_int ?_)
    by_cases e : i = j
    · subst e
      rw [beq_self_eq_true]
      refine PySem.W.kat_yes (PySem.W.kat_cons (wpAny_eqBool_str ?_))
      rw [decide_eq_true rfl]
      refine PySem.W.kat_yes (PySem.W.kat_nil ?_)
      rw [decide_eq_false (Int.lt_irrefl _)] at hQ'
      exact hQ'
    · rw [show (i == j) = false from beq_eq_false_iff_ne.mpr e]
      exact PySem.W.kat_no (TS.oneLt_ints _ hQ')
open PySem.W PySem.Calls in
theorem sortedIt {K : Type} [DecidableEq K] {knd : KeyKind prog w K} {kvs : List (K × Value)} {r d : Addr} {ep : Nat} {Q : Value → Shared → Prop} (hh : A.handled = none) (hv : s.heap.IsItemsView r d) (hm : s.heap.DictAt knd d kvs ep) (hn : kvs.length ≤ sizeLine)
    (h : ∀ (h' : Heap) (tk : Nat) (as : List Addr), (∀ b o, s.heap.get? b = some o → h'.get? b = some o) → as.length = kvs.length → KdxG knd kvs s.heap.objs.size h' as →
      wpAny (model prog w) A.in1 (call (.builtin "list.sort") [.ref h'.objs.size]) (fun _ s' => Q (.ref h'.objs.size) s') E { s with heap := h'.push { cls := .type "list", data := .seq (as.map Value.ref).toArray }, toks := tk }) :
    wpAny (model prog w) A (call (.builtin "sorted") [.ref r]) Q E s := by
  refine call_function_entry kind_sorted plain_sorted entry_sorted (args_sorted1 _) ?_
  unfold Builtin.«sorted»
  refine wpAny_bind (m := checkCount "sorted" 1 1 _) (wpAny_pure ?_)
  refine wpAny_bind (kdx_collect (A := A.in1) (knd := knd) (kvs := kvs) (ep := ep) hh hv hm hn fun h' tk as hk hl hG => ?_)
  refine wpAny_bind (wpAny_newList ?_ (by rw [List.length_map, hl]; exact hn))
  have hg := h h' tk as hk hl hG
  refine wpAny_bind (wpAny_holding (wpAny_mono hg (fun _ s' x => ?_) fun _ _ e => e))
  exact wpAny_pure ⟨_, rfl, x⟩
end
section
variable {X : Cx}
def rItemsK : V → List V → Hp → VK → Prop := fun x xs H Q => ∃ (a : Addr) (kvs : List (Key × V)), x = .ref a ∧ xs = [] ∧ H a = some (.dK kvs) ∧ ∀ p, H p = none → Q (.ref p) (upd H p (DX.itemsO p a))
theorem mt_itemsK : MtR X "dict.items" rItemsK := by
  intro pins s σ H x xs v us Q I rx rxs h
  obtain ⟨a, kvs, rfl, rfl, ha, q⟩ := h
  cases rx
  cases rxs
  obtain ⟨hz, hd, vs, kv, hdo⟩ := I.hok a _ ha
  have hf : H s.heap.objs.size = none := I.hok.fresh (Nat.le_refl _)
  refine call_meetsIn PySem.F.slot_dict_items hdo.typeIs PySem.F.entry_dict_items (PySem.F.args_dict_items_1 _) (PySem.meets_dict_items (mixKind X.prog X.w) a hd) ⟨⟨vs, hdo⟩, ?_⟩
  exact ⟨.ref s.heap.objs.size, upd H s.heap.objs.size (DX.itemsO s.heap.objs.size a), I.laid (t' := s.toks) (fun b u e => Heap.get?_push_of_some _ e) (Nat.le_refl _) (DX.itemsO_ok (Heap.get?_push_size _ rfl)), rfl, q _ hf⟩
abbrev entI (e : Int × Str) : Key × V := (Sum.inl e.1, V.str e.2)
def rSortItI : List V → Hp → VK → Prop := fun vs H Q => ∃ (p a : Addr) (ks : List (Int × Str)), vs = [.ref p] ∧ H p = some (DX.itemsO p a) ∧ H a = some (.dK (ks.map entI)) ∧ ks ≠ [] ∧ ks.length < 64 ∧ (ks.map (·.1)).Nodup ∧
  ∀ (H' : Hp) (l : Addr) (ts : List Addr) (es : List (Int × Str)), (∀ b o, H b = some o → H' b = some o) → H l = none → (∀ t ∈ ts, H t = none) → H' l = some (.lst (ts.map V.ref)) → es.Perm ks → es.Pairwise (fun e f => e.1 ≤ f.1) →
    Paired (fun (t : Addr) (e : Int × Str) => H' t = some (.tup [.int e.1, .str e.2])) ts es → Q (.ref l) H'
theorem call_sortItI (hc : X.calm = true) : CallR X (.builtin "sorted") rSortItI := by
  intro pins s σ H xs us Q I r h
  obtain ⟨p, a, ks, rfl, hp, ha, hne, h64, hnd, q⟩ := h
  obtain rfl := Vals.ref1 r
  have view : s.heap.IsItemsView p a := (show ObjOk X.prog X.w H s.heap p (DX.itemsO p a) from I.hok p _ hp).1
  obtain ⟨hz, hd, vs, kv, hdo⟩ := I.hok a _ ha
  obtain ⟨ep, hat⟩ := hdo.dictAt
  have lk : (ks.map entI).length = vs.length := Paired.length kv
  rw [List.length_map] at lk hz
  have hh : X.A.handled = none := I.ok.hd hc
  refine sortedIt (knd := mixKind X.prog X.w) (kvs := vs) (ep := ep) hh view hat (by omega) fun h' tk as hk hl hG => ?_
  have lak : as.length = ks.length := by omega
  have hlt : s.heap.objs.size < h'.objs.size := by
    cases has : as with
    | nil => rw [has] at lak; cases ks with
      | nil => exact absurd rfl hne
      | cons _ _ => cases lak
    | cons b bs =>
      have hb : b ∈ as := by rw [has]; exact List.mem_cons_self
      exact Nat.lt_trans (hG.above b hb) (hG.there hb)
  have nd : as.Nodup := List.Pairwise.imp (fun h => Nat.ne_of_lt h) hG.rise
  -- the pairs that were made
  have pr : ∀ (j : Nat) (b : Addr), as[j]? = some b → ∃ (e : Int × Str) (t u : Tok), ks[j]? = some e ∧ h'.get? b = some { cls := .type "tuple", data := .seq #[Value.int e.1 t, Value.str e.2 u] } := by
    intro j b hj
    obtain ⟨key, k, x, f1, f2, f3⟩ := hG.pairs j b hj
    obtain ⟨e0, he0, g2, g3⟩ := DX.pget kv f1
    rw [List.getElem?_map] at he0
    cases hkj : ks[j]? with
    | none => rw [hkj] at he0; cases he0
    | some e =>
      rw [hkj] at he0
      have ee : entI e = e0 := Option.some.inj he0
      rw [← ee] at g2 g3
      have rk : RelV (kV (entI e).1) key := by
        rw [g2]
        exact relV_key (show keyIs k key = true from f2)
      obtain ⟨t, rfl⟩ := (show ∃ t, key = Value.int e.1 t from rk)
      obtain ⟨u, rfl⟩ := (show ∃ u, x = Value.str e.2 u from g3)
      exact ⟨e, t, u, rfl, f3⟩
  have hob : (h'.push { cls := .type "list", data := .seq (as.map Value.ref).toArray }).get? h'.objs.size = some (seqObj "list" (as.map Value.ref).toArray 0) := Heap.get?_push_size _ rfl
  have kb : ∀ b o, s.heap.get? b = some o → (h'.push { cls := .type "list", data := .seq (as.map Value.ref).toArray }).get? b = some o := fun b o e => Heap.get?_push_of_some _ (hk b o e)
  have ne0 : ∀ b o, h'.get? b = some o → b ≠ h'.objs.size := fun b o e => Nat.ne_of_lt (Heap.lt_size e)
  generalize hh2 : h'.push { cls := .type "list", data := .seq (as.map Value.ref).toArray } = h2 at hob kb ⊢
  have ka : ∀ b o, h'.get? b = some o → h2.get? b = some o := fun b o e => by rw [← hh2]; exact Heap.get?_push_of_some _ e
  have pin : ∀ (j : Nat) (b : Addr), as[j]? = some b → ∃ e : Int × Str, ks[j]? = some e ∧ HasI (TS.midHeap h2 h'.objs.size (as.map Value.ref)) (.ref b) e.1 e.2 := by
    intro j b hj
    obtain ⟨e, t, u, he, hg⟩ := pr j b hj
    exact ⟨e, he, b, t, u, rfl, _, TS.midHeap_old (ne0 _ _ hg) (ka _ _ hg), rfl, 0, rfl⟩
  let M : Int → Str := fun i => ((ks.find? fun e => decide (e.1 = i)).map (·.2)).getD ("" : Str)
  have hM : ∀ e ∈ ks, M e.1 = e.2 := by
    intro e he
    show ((ks.find? fun f => decide (f.1 = e.1)).map (·.2)).getD ("" : Str) = e.2
    have : ks.find? (fun f => decide (f.1 = e.1)) = some e := by
      clear q ha hz lk lak pr pin h64 hne kv hlt
      induction ks with
      | nil => cases he
      | cons f r ih =>
        rw [List.find?_cons]
        rcases List.mem_cons.mp he with rfl | he
        · simp
        · rw [List.map_cons, List.nodup_cons] at hnd
          have : f.1 ≠ e.1 := fun z => hnd.1 (by rw [z]; exact List.mem_map.mpr ⟨e, he, rfl⟩)
          rw [decide_eq_false this]
          exact ih hnd.2 he
    rw [this]; rfl
  have at_ : ∀ v ∈ as.map Value.ref, ∃ (j : Nat) (b : Addr) (e : Int × Str), v = .ref b ∧ as[j]? = some b ∧ ks[j]? = some e := by
    intro v hv'
    obtain ⟨b, hb, rfl⟩ := List.mem_map.mp hv'
    obtain ⟨j, hj⟩ := List.mem_iff_getElem?.mp hb
    obtain ⟨e, _, _, he, _⟩ := pr j b hj
    exact ⟨j, b, e, rfl, hj, he⟩
  refine wpAny_call_entry PyProof.Rows.slot_list_sort ⟨_, hob, rfl⟩ PyProof.Rows.entry_list_sort
    (SK.plain_sort (s := { s with heap := h2, toks := tk }) (r := headI (TS.midHeap h2 h'.objs.size (as.map Value.ref))) hob (by rw [List.length_map]; omega) (fun h2' Qk hQk => ?_) fun ps out o1 o2 o3 => ⟨.none, rfl, ?_⟩) (PyProof.Rows.args_list_sort _)
  · refine kind_is (s := { s with heap := TS.midHeap h2 h'.objs.size (as.map Value.ref), toks := tk }) M h2' (fun v hv' => ?_) Qk hQk
    obtain ⟨j, b, e, rfl, hj, he⟩ := at_ v hv'
    obtain ⟨e', he', hp'⟩ := pin j b hj
    refine ⟨e'.1, ?_⟩
    rw [hM e' (List.mem_of_getElem? he')]
    exact hp'
  · show EP X pins σ Q (.ref h'.objs.size) { s with heap := sortedHeap h2 h'.objs.size (as.map Value.ref) out, toks := tk }
    obtain ⟨zs, pz, ez⟩ := L2.perm_lift (fun z : Addr × Int × Str => (Value.ref z.1, Value.ref z.1)) o2 (as.zip ks) (DX.zip_self Value.ref as ks lak)
    have idx : ∀ z ∈ zs, ∃ j : Nat, as[j]? = some z.1 ∧ ks[j]? = some z.2 := by
      intro z' hz'
      obtain ⟨j, hj⟩ := List.mem_iff_getElem?.mp (pz.mem_iff.mp hz')
      exact ⟨j, List.getElem?_zip_eq_some.mp hj⟩
    have hout : out.toList = zs.map fun z => Value.ref z.1 := by
      rw [o1, ← ez, List.map_map]
      all_goals rfl
    have hperm : (zs.map (·.2)).Perm ks := by
      have e := pz.map (·.2)
      have m2 : (as.zip ks).map (·.2) = ks := List.map_snd_zip (by rw [lak]; exact Nat.le_refl _)
      rw [m2] at e
      exact e
    have hsort : (zs.map (·.2)).Pairwise (fun e f => e.1 ≤ f.1) := by
      rw [← ez, List.pairwise_map] at o3
      rw [List.pairwise_map]
      refine List.Pairwise.imp_of_mem (fun {x y} hx hy h => ?_) o3
      obtain ⟨j, j1, j2⟩ := idx x hx
      obtain ⟨i, i1, i2⟩ := idx y hy
      obtain ⟨ej, ej1, ej2⟩ := pin j _ j1
      obtain ⟨ei, ei1, ei2⟩ := pin i _ i1
      have hle : headI (TS.midHeap h2 h'.objs.size (as.map Value.ref)) (.ref x.1) ≤ headI (TS.midHeap h2 h'.objs.size (as.map Value.ref)) (.ref y.1) := h
      rw [ej2.head, ei2.head] at hle
      rw [j2] at ej1
      rw [i2] at ei1
      cases ej1
      cases ei1
      exact hle
    -- behind the sort
    have kF : ∀ b o, b ≠ h'.objs.size → h2.get? b = some o → (sortedHeap h2 h'.objs.size (as.map Value.ref) out).get? b = some o := fun b o hb e => (PyProof.Rows.sortedHeap_old hb (Heap.lt_size e)).trans e
    have kS : ∀ b o, s.heap.get? b = some o → (sortedHeap h2 h'.objs.size (as.map Value.ref) out).get? b = some o := fun b o e => kF b o (ne0 _ _ (hk b o e)) (kb b o e)
    obtain ⟨eF, heF⟩ := PyProof.Rows.sortedHeap_at (vs := as.map Value.ref) (out := out) hob
    have I1 : Inv X pins σ H { s with heap := sortedHeap h2 h'.objs.size (as.map Value.ref) out, toks := tk } := I.kept (t' := tk) kS
    have hn0 : H h'.objs.size = none := I.hok.fresh (Nat.le_of_lt hlt)
    have hlen : (zs.map fun z => V.ref z.1).length ≤ sizeLine := by
      have e := hperm.length_eq
      rw [List.length_map] at e
      rw [List.length_map]
      omega
    have rv : Vals (zs.map fun z => V.ref z.1) out.toList := by
      rw [hout]
      exact vals_maps (fun z : Addr × Int × Str => V.ref z.1) (fun z => Value.ref z.1) zs fun _ _ => rfl
    have I2 : Inv X pins σ (upd H h'.objs.size (.lst (zs.map fun z => V.ref z.1))) { s with heap := sortedHeap h2 h'.objs.size (as.map Value.ref) out, toks := tk } :=
      I1.take (h' := sortedHeap h2 h'.objs.size (as.map Value.ref) out) (t' := tk) (fun b ob _ e => e) (I.fpOk (Nat.le_of_lt hlt) hn0) ⟨hlen, out.toList, eF, rv, heF⟩
    have new : ∀ b ∈ as, H b = none := fun b hb => I.hok.fresh (Nat.le_of_lt (hG.above b hb))
    obtain ⟨H2, I3, g, qt⟩ := DX.takeT (P := fun b vs => ∃ (j : Nat) (e : Int × Str), as[j]? = some b ∧ ks[j]? = some e ∧ vs = [.int e.1, .str e.2]) I as _ I2 nd fun b hb => by
      obtain ⟨j, hj⟩ := List.mem_iff_getElem?.mp hb
      obtain ⟨e, t, u, he, hg⟩ := pr j b hj
      have hbl : s.heap.objs.size ≤ b := Nat.le_of_lt (hG.above b hb)
      refine ⟨hbl, ?_, [.int e.1, .str e.2], ⟨j, e, hj, he, rfl⟩, fun H3 => ⟨(by rw [sizeLine_eq]; show 2 ≤ 16777216; omega), [Value.int e.1 t, Value.str e.2 u], .cons ⟨t, rfl⟩ (.cons ⟨u, rfl⟩ .nil), ⟨_, kF _ _ (ne0 _ _ hg) (ka _ _ hg), rfl, 0, rfl⟩⟩⟩
      rw [upd_ne (ne0 _ _ hg)]
      exact I.hok.fresh hbl
    have gr : ∀ b o, H b = some o → H2 b = some o := fun b o e => g b o (by rw [upd_ne (ne_of_none e hn0)]; exact e)
    have hl2 : H2 h'.objs.size = some (.lst ((zs.map (·.1)).map V.ref)) := by
      rw [List.map_map]
      exact g _ _ upd_same
    refine ⟨.ref h'.objs.size, H2, I3, rfl, q H2 h'.objs.size (zs.map (·.1)) (zs.map (·.2)) gr hn0 (fun t ht => ?_) hl2 hperm hsort ?_⟩
    · obtain ⟨z, hz1, rfl⟩ := List.mem_map.mp ht
      obtain ⟨j, j1, _⟩ := idx z hz1
      exact new _ (List.mem_of_getElem? j1)
    · have all : ∀ z ∈ zs, H2 z.1 = some (.tup [.int z.2.1, .str z.2.2]) := by
        intro z' hz'
        obtain ⟨i, i1, i2⟩ := idx z' hz'
        obtain ⟨vs, ⟨j, e, j1, j2, ev⟩, hH⟩ := qt z'.1 (List.mem_of_getElem? i1)
        have eij : i = j := (List.getElem?_inj (List.getElem?_eq_some_iff.mp i1).1 nd).mp (i1.trans j1.symm)
        subst eij
        have ee : e = z'.2 := Option.some.inj (j2.symm.trans i2)
        rw [ev, ee] at hH
        exact hH
      clear qt g gr hl2 rv I2 hlen hsort hperm hout ez pz idx
      induction zs with
      | nil => exact .nil
      | cons z r ih => exact .cons (all z List.mem_cons_self) (ih fun z' h' => all z' (List.mem_cons_of_mem _ h'))
end
end GX
end
section
set_option Elab.async false
set_option linter.all false
set_option maxRecDepth 100000
set_option maxHeartbeats 2000000
/-! what k02 and k03 left for all laws; dict == {}; x is True -/
namespace GX
open PySem PySem.Spec PyProof.Rows L2
/-- a dict under a lock changes -/
theorem Ex.unl {A : List Addr} {TL : List (Addr × Str)} {GT : List Addr} {H H1 : Hp} {a : Addr} {ob : Obj} {kvs : List (Key × V)} {o' : HO} (x : Ex A TL GT H H1) (e : H1 a = some (.frz ob (.dK kvs))) (ha : a ∈ A ∨ free H a) : Ex A TL GT H (upd H1 a o') := by
  refine ⟨fun b ob nb eb ne => ?_, fun h q hq => ?_, fun h P hP => ?_, fun b xs h => ?_⟩
  · have nz : b ≠ a := fun z => by
      rcases ha with ha | ha
      · exact nb (by rw [z]; exact ha)
      · rw [z] at eb
        obtain ⟨ps, q⟩ := ha _ eb
        exact ne ps q
    rw [upd_ne nz]; exact x.ext b ob nb eb ne
  · obtain ⟨ps, eq, ok, hc⟩ := x.tl h q hq
    have n1 : q.1 ≠ a := fun z => by rw [z, e] at eq; cases eq
    refine ⟨ps, by rw [upd_ne n1]; exact eq, ok, fun pos cv hcv => ?_⟩
    obtain ⟨c, rfl, hc⟩ := hc pos cv hcv
    have n2 : c ≠ a := fun z => by rw [z, e] at hc; cases hc
    exact ⟨c, rfl, by rw [upd_ne n2]; exact hc⟩
  · have eq := x.tg h P hP
    have n1 : P ≠ a := fun z => by rw [z, e] at eq; cases eq
    rw [upd_ne n1]
    exact eq
  · rcases x.tup b xs h with h | ⟨ob, h⟩
    · have n1 : b ≠ a := fun z => by rw [z, e] at h; cases h
      exact .inl (by rw [upd_ne n1]; exact h)
    · have n1 : b ≠ a := fun z => by rw [z, e] at h; cases h
      exact .inr ⟨ob, by rw [upd_ne n1]; exact h⟩
theorem loop_keys {d : Addr} {o : Obj} {kvs : List (Key × V)} {g : TG} {tb : TS} {D : Ends} {σ : L2.St} {H : Hp} (Pv : Nat → L2.St → Hp → Prop) (h0 : Pv 0 σ H) (hl : ∀ i σ H, i ≤ kvs.length → Pv i σ H → H d = some (.frz o (.dK kvs)))
    (hs : ∀ i k v σ H, kvs[i]? = some (k, v) → Pv i σ H → g (kV k) σ H fun σ2 H2 => tb { D with nx := Pv (i + 1), ct := Pv (i + 1), bk := D.nx } σ2 H2) (hd : ∀ σ H, Pv kvs.length σ H → D.nx σ H) : Loop g tb D (Itk d o kvs) σ H :=
  for_it walk_keys Pv h0 hl (fun i x σ H H' hi p y => by
    obtain ⟨rfl, k, v, h1, rfl⟩ := y
    exact hs i k v σ H' h1 p) hd
theorem lcl_keys {d : Addr} {o : Obj} {kvs : List (Key × V)} {g : TG} {tt : TT} {te : TE} {vs : List Nat} {σ : L2.St} {H1 : Hp} {D : Addr} {Qd : Hp → Prop} (Pv : Nat → Hp → Prop) (h0 : Pv 0 (upd H1 D (.lst []))) (hl : ∀ i H, i ≤ kvs.length → Pv i H → H d = some (.frz o (.dK kvs)))
    (hs : ∀ i k v H, kvs[i]? = some (k, v) → Pv i H → g (kV k) (wipe σ vs) H fun σ2 H2 => wipe σ2 vs = wipe σ vs ∧ tt σ2 H2 fun b H3 =>
      if b = true then te σ2 H3 fun y H4 => ∃ acc, H4 D = some (.lst acc) ∧ acc.length < sizeLine ∧ Pv (i + 1) (upd H4 D (.lst (acc ++ [y]))) else Pv (i + 1) H3) (hd : ∀ H, Pv kvs.length H → Qd H) : LcLoop g tt te vs (Itk d o kvs) σ H1 D Qd :=
  lc_it walk_keys Pv h0 hl (fun i x H H' hi p y => by
    obtain ⟨rfl, k, v, h1, rfl⟩ := y
    exact hs i k v H' h1 p) hd
theorem Ex.back {TL : List (Addr × Str)} {GT : List Addr} {H H' : Hp} {a : Addr} {o : HO} (e : Ex [a] TL GT H H') (h1 : H a = some o) (h2 : H' a = some o) : Ex [] TL GT H H' :=
  ⟨fun b ob _ hb hn => by
    by_cases z : b = a
    · rw [z, h1] at hb
      rw [z, h2]; exact hb
    · exact e.ext b ob (by simpa using z) hb hn, e.tl, e.tg, e.tup⟩
theorem ex_behind {A B : List Addr} {TL : List (Addr × Str)} {GT : List Addr} {H1 H2 : Hp} (a : Ex A TL GT H H1) (hB : ∀ x ∈ B, x ∈ A ∨ free H x) (b : Ex B TL GT H1 H2) : Ex A TL GT H H2 :=
  ⟨fun c o n e ne => b.ext c o (fun q => (hB c q).elim n (fun z => by obtain ⟨ps, z2⟩ := z o e; exact ne ps z2)) (a.ext c o n e ne) ne, fun h => b.tl (a.tl h), fun h => b.tg (a.tg h), fun c xs h => b.tup c xs (a.tup c xs h)⟩
theorem ne_kind {H : Hp} {a b : Addr} {x y : HO} (ha : H a = some x) (hb : H b = some y) (h : isMut x = true) (k : x ≠ y) : a ≠ b := fun e => by
  rw [e, hb] at ha
  exact k (Option.some.inj ha).symm
theorem with_nx {g : TG} {tb : TS} {D : Ends} {J : It} {σ : L2.St} {H : Hp} (Af : L2.St → Hp → Prop) (hk : ∀ σ H, Af σ H → D.nx σ H) (rest : (∀ σ H, Af σ H → D.nx σ H) → Loop g tb D J σ H) : Loop g tb D J σ H := rest hk
section
variable {H : Hp} {F F' : List Addr}
theorem off_new {a : Addr} {o : HO} (ha : H a = some o) (hn : ∀ ps, o ≠ .tbl ps) (h1 : a ∉ F) (h2 : ∀ x ∈ F', x ∈ F ∨ free H x) : a ∉ F' := fun z => (h2 a z).elim h1 fun f => by
  obtain ⟨ps, e⟩ := f o ha
  exact hn ps e
end
def rEqDE : R2 := fun x y H Q => ∃ a b ks, x = .ref a ∧ y = .ref b ∧ H a = some (.dK ks) ∧ H b = some (.dK []) ∧ Q (.bl (decide (ks = []))) H
theorem op_eqDE {X : Cx} (hu : X.A.units < cLine) : OpR X (compareOp .Eq) rEqDE := by
  intro pins s σ H x y v u Q I rx ry h
  obtain ⟨a, b, ks, rfl, rfl, ea, eb, q⟩ := h
  obtain rfl : v = Value.ref a := rx
  obtain rfl : u = Value.ref b := ry
  obtain ⟨_, ya, va, ra, da⟩ := (show ObjOk X.prog X.w H s.heap a (.dK ks) from I.hok a _ ea)
  obtain ⟨_, yb, vb, rb, db⟩ := (show ObjOk X.prog X.w H s.heap b (.dK []) from I.hok b _ eb)
  cases rb
  have hlen : ks.length = va.length := Paired.length ra
  refine PySem.W.keq_eq (knd := mixKind X.prog X.w) (r := true) ya yb da db hu (fun e => ?_) ⟨.bl _, H, I, rfl, ?_⟩
  · cases va with
    | nil => exact .nil
    | cons _ _ => cases e
  · have : (va.length == ([] : List (Key × Value)).length && true) = decide (ks = []) := by
      cases ks with
      | nil => rw [List.length_nil] at hlen; simp [← hlen]
      | cons _ _ => rw [List.length_cons] at hlen; simp [← hlen]
    rw [this]; exact q
def rEqE (K : PySem.W.Frag) : R2 := fun x y H Q => rEqU K x y H Q ∨ rEqDE x y H Q
theorem opE_eq {X : Cx} (hu : X.A.units + 64 < cLine) : OpR X (compareOp .Eq) (rEqE X.K) := by
  intro pins s σ H x y v u Q I rx ry h
  rcases h with h | h
  · exact opU_eq hu pins s σ H x y v u Q I rx ry h
  · exact op_eqDE (by omega) pins s σ H x y v u Q I rx ry h
def rNeE (K : PySem.W.Frag) : R2 := fun x y H Q => rNeU K x y H Q ∨ rNeDA x y H Q
theorem opE_ne {X : Cx} (hu : X.A.units + 64 < cLine) : OpR X (compareOp .NotEq) (rNeE X.K) := by
  intro pins s σ H x y v u Q I rx ry h
  rcases h with h | h
  · exact opU_ne hu pins s σ H x y v u Q I rx ry h
  · exact op_ne_dictA (by omega) pins s σ H x y v u Q I rx ry h
def rIsB : R2 := fun x y H Q => ∃ b, y = .bl b ∧ ((∃ a, x = .bl a ∧ Q (.bl (decide (a = b))) H) ∨ (∃ t, x = .str t ∧ Q (.bl false) H))
theorem op_isB {X : Cx} : OpR X (compareOp .Is) rIsB := by
  intro pins s σ H x y v u Q I rx ry h
  obtain ⟨b, rfl, ⟨a, rfl, q⟩ | ⟨t, rfl, q⟩⟩ := h
  · exact op_is_bl pins s σ H _ _ v u Q I rx ry ⟨a, b, rfl, rfl, q⟩
  · obtain ⟨k, rfl⟩ := (show ∃ k, v = Value.str t k from rx)
    cases (show u = Value.bool b from ry)
    exact wpAny_is_other rfl (fun z => by cases z) ⟨.bl false, H, I, rfl, q⟩
section
variable {X : Cx} {K : PySem.W.Frag} {e : Expr}
theorem bm0K {T : String} {r : V → List V → Hp → VK → Prop} {to : TE} (h : X.K = K) (p : PE X e (tBM0 X.K T r to)) : PE X e (tBM0 K T r to) := by
  subst h; exact p
theorem rmK (h : X.K = K) (p : MtM X "list.remove" (rRemD X.K)) : MtR X "list.remove" (rRemD K) := by
  subst h; exact p
def rListOf (K : PySem.W.Frag) : List V → Hp → VK → Prop := fun xs H Q => ∃ p ys, xs = [.ref p] ∧ (SqL K H p ys ∨ SqT K H p ys) ∧ ∀ l, H l = none → Q (.ref l) (upd H l (.lst ys))
theorem listOfK (h : X.K = K) : CallR X (.type "list") (rListOf K) := by
  subst h; exact call_list_of
theorem room66 {k : Nat} {A : Around} (hr : Room k A) : A.units + 66 < cLine := by have := hr.un; omega
end
end GX
end
section
set_option Elab.async false
set_option linter.all false
set_option maxRecDepth 100000
set_option maxHeartbeats 2000000
/-! any(genexp) that ends at what it finds -/
namespace GX
open PySem PySem.Spec PyProof.Rows L2 GenW
def CT : List V → Obj → Prop := fun ys _ => ∀ y ∈ ys, y ≠ V.bl true
section
variable {P : Program} {w : World} {outer : List Env} {H : Hp} {sc s : Shared} {EX : XK} {QT QF : Hp → Prop} {A : Around} {E : Value → Shared → Prop}
theorem ct_of {ys : List V} {X : Obj → Prop} (h : ∃ o, CT ys o ∧ X o) : ∀ y ∈ ys, y ≠ V.bl true := let ⟨_, c, _⟩ := h; c
theorem ct_more {ys : List V} {X : Obj → Prop} (h : ∃ o, CT ys o ∧ X o) : ∀ y ∈ ys ++ [V.bl false], y ≠ V.bl true := fun y hy => by
  rcases List.mem_append.mp hy with hy | hy
  · exact ct_of h y hy
  · rw [List.mem_singleton.mp hy]; intro z; cases z
theorem loop_any2 {R : Result → Shared → Prop} {a : Addr} {g : Nat} (hh : A.handled = none) (hd : A.depth < recursionLimit)
    (hT : ∀ s', Behind P w outer H sc QT s' → R (.ok (.ret (.bool true))) s') (hF : ∀ s', Behind P w outer H sc QF s' → R (.ok (.ret (.bool false))) s')
    (hexc : ∀ e s', CX P w outer H sc EX e s' → NotStop (model P w) e s'.heap ∧ R (.error e) (s'.setGen g .finished)) :
    ∀ (m : Nat) (s : Shared), s.heap.IsGen a g → s.heap.NoLimit →
      (∃ gs, s.gens[g]? = some gs ∧ gs.Goes (model P w) A.in1.in1 (RC P w outer H sc none a g CT (fun ys H' => (∀ y ∈ ys, y ≠ V.bl true) → QF H') EX) (YC P w outer H sc none a g CT (YB true QT)) m (.send .none) (s.setGen g .running)) →
      codeAny (model P w) A (.builtin "any.loop" ⟨[.ref a], []⟩) R s := by
  have goes : ∀ {gs : GenState} {B : Around} {n : Nat} {r : Resume} {s : Shared}, gs.Goes (model P w) B (RC P w outer H sc none a g CT (fun ys H' => (∀ y ∈ ys, y ≠ V.bl true) → QF H') EX) (YC P w outer H sc none a g CT (YB true QT)) n r s →
      gs.Goes (model P w) B (fun n s₀ r s1 => ((r = .ok (.ret .none) ∨ r = .ok .next) ∧ (∃ (ys : List V) (H' : Hp), s1.os = sc.os ∧ AllBare s1.gens ∧ Un (frs outer) [] H H' sc.heap s1.heap ∧ HOk P w H' s1.heap ∧ (∀ b, none = some b → H' b = none) ∧ (∃ oS, CT ys oS ∧ ∀ b, none = some b → s1.heap.get? b = some oS ∧ NoCell oS) ∧ ys.length ≤ sizeLine ∧ ((∀ y ∈ ys, y ≠ V.bl true) → QF H'))) ∨
        ∃ e, r = .error e ∧ (CX P w outer H sc EX e s1 ∧ s1.heap.IsGen a g)) (YC P w outer H sc none a g CT (YB true QT)) n r s := fun h => h
  intro m
  induction m with
  | zero =>
    intro s hg hl ⟨gs, hgs, hgo⟩
    refine codeAny_builtin F.entry_any_loop ?_
    rw [Around.under_plainId F.plain_any_loop _]
    show wpAny _ A.in1 (pyNext (.ref a) >>= _) _ _ s
    refine wpAny_bind (next_genG (A := A.in1) hh hl hd hg hgs (goes hgo) (fun v s₁ gs' hbare hv => ?_) (fun s₁ hp h' hk => ?_) fun e s₁ he => ?_)
    · obtain ⟨ys, x, H', hn, rv, os1, hb1, hl1, hg1, un, hok, hSn, hS, ⟨b, ex, hb⟩, hk⟩ := hv
      subst ex
      obtain rfl : v = Value.bool b := rv
      refine wpAny_bind (wpAny_holding (wpAny_truthy_bool ?_))
      refine wpAny_bind (wpAny_letGo ?_)
      cases b with
      | true =>
        show wpAny _ A.in1 (rule "any.true-item" >>= fun _ => ret (.bool true)) _ _ _
        exact wpAny_bind (wpAny_rule (wpAny_pure (hT _ ⟨H', os1, allBare_setGen hb1 hbare, un, hok, hb rfl⟩)))
      | false => exact False.elim (hk s₁ ⟨rfl, hb1, fun b o _ e => e, ⟨{ cls := .none, data := .plain }, ct_more hS, fun b hb => by cases hb⟩⟩)
    · obtain ⟨ys, H', os1, hb1, un, hok, hSn, hC, hle, hQ⟩ := hp
      exact wpAny_bind (wpAny_rule (wpAny_pure (hF _ ⟨H', os1, allBare_setGen hb1 rfl, un.trans (Un.kept hk), hok.kept hk, hQ (ct_of hC)⟩)))
    · obtain ⟨hc, hg1⟩ := he
      obtain ⟨q1, q2⟩ := hexc e s₁ hc
      exact ⟨hg1, q1, q2⟩
  | succ m ih =>
    intro s hg hl ⟨gs, hgs, hgo⟩
    have hgl : g < s.gens.size := (Array.getElem?_eq_some_iff.mp hgs).1
    refine codeAny_builtin F.entry_any_loop ?_
    rw [Around.under_plainId F.plain_any_loop _]
    show wpAny _ A.in1 (pyNext (.ref a) >>= _) _ _ s
    refine wpAny_bind (wpAny_gsz (n := g + 1) hgl (next_genG (A := A.in1) hh hl hd hg hgs (goes hgo) (fun v s₁ gs' hbare hv => ?_) (fun s₁ hp h' hk => ?_) fun e s₁ he => ?_))
    · intro hsz
      obtain ⟨ys, x, H', hn, rv, os1, hb1, hl1, hg1, un, hok, hSn, hS, ⟨b, ex, hb⟩, hk⟩ := hv
      subst ex
      obtain rfl : v = Value.bool b := rv
      have hsz1 : g < s₁.gens.size := by
        have q : (s₁.setGen g gs').gens.size = s₁.gens.size := setGen_size _ _ _
        have hsz' : g + 1 ≤ (s₁.setGen g gs').gens.size := hsz
        omega
      refine wpAny_bind (wpAny_holding (wpAny_truthy_bool ?_))
      refine wpAny_bind (wpAny_letGo ?_)
      cases b with
      | true =>
        show wpAny _ A.in1 (rule "any.true-item" >>= fun _ => ret (.bool true)) _ _ _
        exact wpAny_bind (wpAny_rule (wpAny_pure (hT _ ⟨H', os1, allBare_setGen hb1 hbare, un, hok, hb rfl⟩)))
      | false =>
        show wpAny _ A.in1 (again (.builtin "any.loop" ⟨[.ref a], []⟩)) _ _ _
        refine wpAny_pure ⟨plainId_quiet F.plain_any_loop _, ih (s₁.setGen g gs') hg1 hl1 ⟨gs', setGen_at hsz1, ?_⟩⟩
        refine hk _ ⟨rfl, allBare_setGen (s := s₁.setGen g gs') (allBare_setGen hb1 hbare) rfl, fun b o _ e => e, ⟨{ cls := .none, data := .plain }, ?_, fun b hb => by cases hb⟩⟩
        exact ct_more hS
    · intro hsz
      obtain ⟨ys, H', os1, hb1, un, hok, hSn, hC, hle, hQ⟩ := hp
      exact wpAny_bind (wpAny_rule (wpAny_pure (hF _ ⟨H', os1, allBare_setGen hb1 rfl, un.trans (Un.kept hk), hok.kept hk, hQ (ct_of hC)⟩)))
    · obtain ⟨hc, hg1⟩ := he
      obtain ⟨q1, q2⟩ := hexc e s₁ hc
      exact ⟨hg1, q1, fun _ => q2⟩
end
section
variable {P : Program} {w : World} {outer : List Env} {H : Hp} {sc s : Shared} {EX : XK} {QT QF : Hp → Prop} {A : Around} {E : Value → Shared → Prop} {k : Nat} {u : Value}
theorem call_any_gen2 {Q' : Value → Shared → Prop} (hr : Room (k + 4) A) (hfr : A.frames = some outer) (h : GMadeC P w k outer H sc (YB true QT) (fun ys H' => (∀ y ∈ ys, y ≠ V.bl true) → QF H') EX u s)
    (hT : ∀ s', Behind P w outer H sc QT s' → Q' (.bool true) s') (hF : ∀ s', Behind P w outer H sc QF s' → Q' (.bool false) s')
    (hexc : ∀ e s' g, CX P w outer H sc EX e s' → NotStop (model P w) e s'.heap ∧ E e (s'.setGen g .finished)) :
    wpAny (model P w) A (call (.builtin "any") [u]) Q' E s := by
  obtain ⟨a, g, c, go, rfl, ha1, ha2, hgo, hgoN, hg, hgs, hos, hb, hl, wake⟩ := h
  refine call_function_tree F.kind_any F.plain_any F.entry_any (F.args_any1 _) ?_
  unfold Builtin.«any»
  refine wpAny_bind (m := oneArg "any" _) (wpAny_pure ?_)
  refine wpAny_bind (wpAny_pyIter_gen hg ?_)
  refine wpAny_pure ⟨plainId_quiet F.plain_any_loop _, ?_⟩
  refine loop_any2 (P := P) (w := w) (outer := outer) (H := H) (sc := sc) (QT := QT) (QF := QF) (EX := EX) (A := A) (g := g) hr.hd (by have := hr.dp; omega) (fun s' hb => hT s' hb) (fun s' hb => hF s' hb) (fun e s' hc => hexc e s' g hc)
    sizeLine _ hg hl ⟨_, hgs, rfl, ?_⟩
  refine wake _ _ none _ ⟨hr.hd, ?_, ?_⟩ hfr (fun b hb => by cases hb) (fun _ _ e => e) ⟨{ cls := .none, data := .plain }, (fun y hy => by cases hy), fun b hb => by cases hb⟩ hos (allBare_setGen hb rfl)
  · have := hr.dp
    show A.depth + 3 * k + 5 < _
    omega
  · have := hr.un
    show A.units + 1 + 1 + 16 * k + 200 < _
    omega
end
section
variable {X : Cx}
theorem pe_anyG2 {c P : Addr} {elt tg iter : Expr} {ifs : List Expr} {scope : Scope} {own : List (Str × Nat)} {gpos p pos : Pos} {wi : TI} {g : TG} {tt : L2.St → TT} {te : L2.St → TE} {k : Nat} {E : L2.St → XK}
    (hr : Room (k + 5) X.A) (hc : X.calm = true) (hN : X.N.Nodup) (hgl : Gl X "any") (hm : X.mg "any" = none) (TB : GxR.TabB X.base X.mg c P) (hcode : X.env.code = .ref c) (ok : GenOk X.N X.env.scope scope own) (hi : PIf X tg iter wi)
    (hx : ∀ σ, PassesAt (L2.CX X.prog X.w) X σ (E σ)) (hns : ∀ σ, NoStop X.K (E σ))
    (hg : ∀ (σ : L2.St) (A : Around) (s : Shared) (H : Hp) (L : Addr) (code : Value) (bi : Addr) (pn : List (Addr × Obj)), PG (gCx X A s H (E σ) scope L code bi pn) tg g)
    (ht : ∀ (σ : L2.St) (A : Around) (s : Shared) (H : Hp) (L : Addr) (code : Value) (bi : Addr) (pn : List (Addr × Obj)), Room k (A.deeper (gEnv X scope L code bi)) → PTs (gCx X A s H (E σ) scope L code bi pn) ifs (tt σ))
    (he : ∀ (σ : L2.St) (A : Around) (s : Shared) (H : Hp) (L : Addr) (code : Value) (bi : Addr) (pn : List (Addr × Obj)), Room k (A.deeper (gEnv X scope L code bi)) → PE (gCx X A s H (E σ) scope L code bi pn) elt (te σ))
    (hs : ∀ v, genFold iter X.env v = pure v := by intro _; rfl)
    (hst : starEach [.GeneratorExp elt [⟨tg, iter, ifs, 0⟩] scope gpos] X.env = (false, eval (.GeneratorExp elt [⟨tg, iter, ifs, 0⟩] scope gpos) X.env) :: starEach [] X.env := by rfl) :
    PE X (.Call (.Name "any" p) [.GeneratorExp elt [⟨tg, iter, ifs, 0⟩] scope gpos] [] pos)
      (fun σ H Q => tGenx P wi g (tt σ) (te σ) (own.map (·.2)) (YB true fun H' => Q (.bl true) H') σ H fun ys H2 => (∀ y ∈ ys, y ≠ V.bl true) → Q (.bl false) H2) := by
  refine ⟨fun pins s σ H Q I h => ?_⟩
  refine wpAny_Call_Name_kw (ld_blt I hgl hm boot_any ?_)
  refine PyProof.Rows.callWith_builtin1 ?_ hst (by rfl)
  rw [hst]
  show wpAny _ _ (spliced ((false, eval (.GeneratorExp elt [⟨tg, iter, ifs, 0⟩] scope gpos) X.env) :: backTo pos (starEach [] X.env))) _ _ s
  have hr0 : Room k X.A := hr.mono (by omega)
  refine Calls.spliced_cons (thn (genx_made (E := E σ) hr0 hc hN TB hcode ok hi (hg σ) (ht σ) (he σ) hs I h) fun u s1 ⟨H1, sc, I1, hsz, hG⟩ => ?_)
  refine Calls.spliced_nil ?_
  refine call_any_gen2 (k := k + 1) (by exact hr) I1.ok.frames hG (fun s' hb => ?_) (fun s' hb => ?_) fun e s' g hcx => ?_
  · obtain ⟨H', J, q⟩ := behind_inv I1 hb
    exact ⟨.bl true, H', J, rfl, q⟩
  · obtain ⟨H', J, q⟩ := behind_inv I1 hb
    exact ⟨.bl false, H', J, rfl, q⟩
  · exact ⟨notStop_of (hns σ) (kin_of_cx I1 hcx) hcx, hx σ pins H1 sc e _ I1 (cx_setGen hcx)⟩
end
end GX
end
section
set_option Elab.async false
set_option linter.all false
set_option maxRecDepth 100000
set_option maxHeartbeats 2000000
set_option pp.maxSteps 900
namespace KL
open PySem PySem.Spec PyProof.Rows L2 GX
def top (i : Nat) : Stmt := PySem.Challenge.pw_hoststack_k16_locks_and_rings.main.body.getD i (.Pass ⟨0, 0, 0, 0⟩)
/-- what the top has written -/
structure Txt (P : Program) (w : World) (K : PySem.W.Frag) (mg : Str → Option Value) (base : Heap) (CL PE : Addr) (TL : List (Addr × Str)) (GT : List Addr) : Prop where
  x_ProcessError : PlainX K mg "ProcessError" PE
  cL : Cls K CL
  fL : ∀ f ∈ ([("held" : Str), "queue"] : List Str), NoAttr K CL f
  gL : mg "Locks" = some (.ref CL)
  l_init : ∃ f fd c, MDef K "__init__" "Locks.__init__" (inClass (top 4) 0) [] f fd c ∧ Mk K CL f
  l_holders : ∃ f fd c, MDef K "holders_of" "Locks.holders_of" (inClass (top 4) 1) [] f fd c ∧ Meth K CL "holders_of" f
  l_fits : ∃ f fd c, MDef K "fits" "Locks.fits" (inClass (top 4) 2) [] f fd c ∧ Meth K CL "fits" f
  l_ahead : ∃ f fd c, MDef K "ahead" "Locks.ahead" (inClass (top 4) 3) [] f fd c ∧ Meth K CL "ahead" f
  l_blockers : ∃ f fd c, MDef K "blockers" "Locks.blockers" (inClass (top 4) 4) [] f fd c ∧ Meth K CL "blockers" f
  l_ask : ∃ f fd c tP, MDef K "ask" "Locks.ask" (inClass (top 4) 5) [] f fd c ∧ Meth K CL "ask" f ∧ GxR.TabB base mg c tP ∧ tP ∈ GT
  l_take : ∃ f fd c, MDef K "take" "Locks.take" (inClass (top 4) 6) [] f fd c ∧ Meth K CL "take" f
  l_waits : ∃ f fd c, MDef K "waits_for" "Locks.waits_for" (inClass (top 4) 7) [] f fd c ∧ Meth K CL "waits_for" f
  l_ring : ∃ f fd c, MDef K "in_ring" "Locks.in_ring" (inClass (top 4) 8) [] f fd c ∧ Meth K CL "in_ring" f
  l_release : ∃ f fd c, MDef K "release" "Locks.release" (inClass (top 4) 9) [] f fd c ∧ Meth K CL "release" f
  l_leave : ∃ f fd c, MDef K "leave" "Locks.leave" (inClass (top 4) 10) [] f fd c ∧ Meth K CL "leave" f
  l_serve : ∃ f fd c, MDef K "serve" "Locks.serve" (inClass (top 4) 11) [] f fd c ∧ Meth K CL "serve" f
  l_shown : ∃ f fd c tP, MDef K "shown" "Locks.shown" (inClass (top 4) 12) [] f fd c ∧ Meth K CL "shown" f ∧ GxR.TabB base mg c tP ∧ tP ∈ GT
  d_dice : ∃ f fd c, Def K mg "_law_dice" (top 6) f fd c
  d_roll : ∃ f fd c, Def K mg "_law_roll" (top 7) f fd c
  d_rounds : ∃ f fd c, Def K mg "_law_rounds" (top 8) f fd c
  d_blocked : ∃ f fd c, Def K mg "_law_blocked" (top 10) f fd c
  d_waits : ∃ f fd c, Def K mg "_law_waits" (top 11) f fd c
  d_ring : ∃ f fd c, Def K mg "_law_ring" (top 12) f fd c
  d_take : ∃ f fd c, Def K mg "_law_take" (top 13) f fd c
  d_serve : ∃ f fd c, Def K mg "_law_serve" (top 14) f fd c
  d_drop : ∃ f fd c, Def K mg "_law_drop" (top 15) f fd c
  d_law : ∃ f fd c, Def K mg "law" (top 16) f fd c
  n_any : mg "any" = none
  n_all : mg "all" = none
  n_list : mg "list" = none
  n_enumerate : mg "enumerate" = none
  n_dict : mg "dict" = none
  n_sorted : mg "sorted" = none
  n_tuple : mg "tuple" = none
  n_range : mg "range" = none
  n_abs : mg "abs" = none
  n_int : mg "int" = none
  n_len : mg "len" = none
/-! ### the table, plainly -/
abbrev Row : Type := Int × Str × Bool
abbrev Tab : Type := List (Int × Bool)
structure Lk where
  held : List (Str × Tab)
  queue : List Row
def hw (b : Bool) : Str := if b = true then "alone" else "shared"
def tabK (t : Tab) : List (Key × V) := t.map fun p => (Sum.inl p.1, V.str (hw p.2))
def rowV (r : Row) : List V := [.int r.1, .str r.2.1, .str (hw r.2.2)]
def getT (l : List (Str × Tab)) (n : Str) : Option Tab := (l.find? fun e => decide (e.1 = n)).map (·.2)
def hold (v : Lk) (n : Str) : Tab := (getT v.held n).getD []
def keyI (t : Tab) (who : Int) : Bool := t.any fun p => decide (p.1 = who)
def aheadL : List Row → Int → Str → List Int
  | [], _, _ => []
  | r :: rs, who, n => if r.1 = who then [] else if r.2.1 = n then r.1 :: aheadL rs who n else aheadL rs who n
def blkA (t : Tab) (who : Int) (al : Bool) : List Int := (t.filter fun p => decide (p.1 ≠ who) && (al || p.2)).map (·.1)
def blkL (v : Lk) (who : Int) (n : Str) (al : Bool) : List Int := blkA (hold v n) who al ++ (if keyI (hold v n) who = true then [] else aheadL v.queue who n)
def addI (ks : List Int) (k : Int) : List Int := if k ∈ ks then ks else ks ++ [k]
def ded (l : List Int) : List Int := l.foldl addI []
def insI (a : Int) : List Int → List Int
  | [] => [a]
  | b :: l => if a ≤ b then a :: b :: l else b :: insI a l
def srt : List Int → List Int
  | [] => []
  | a :: l => insI a (srt l)
def blk (v : Lk) (who : Int) (n : Str) (al : Bool) : List Int := srt (ded (blkL v who n al))
/-! ### the table in the heap -/
structure Co (K : PySem.W.Frag) (H : Hp) (h q : Addr) (hs : List (Str × Addr × Tab)) (qs : List (Addr × Row)) : Prop where
  hh : H h = some (.dK (hs.map fun e => (Sum.inr e.1, V.ref e.2.1)))
  hq : H q = some (.lst (qs.map fun e => V.ref e.1))
  ht : ∀ e ∈ hs, H e.2.1 = some (.dK (tabK e.2.2))
  hr : ∀ e ∈ qs, Rd H e.1 (.tup (rowV e.2))
  nh : (hs.map (·.2.1)).Nodup
  nq : (qs.map (·.1)).Nodup
  nn : h ∉ hs.map (·.2.1)
  nk : ∀ e ∈ hs, (e.2.2.map (·.1)).Nodup
  nm : (hs.map (·.1)).Nodup
def lkOf (hs : List (Str × Addr × Tab)) (qs : List (Addr × Row)) : Lk := ⟨hs.map fun e => (e.1, e.2.2), qs.map (·.2)⟩
def fpOf (h q : Addr) (hs : List (Str × Addr × Tab)) : List Addr := h :: q :: hs.map (·.2.1)
structure LP (K : PySem.W.Frag) (CL : Addr) (H : Hp) (l dx h q : Addr) (hs : List (Str × Addr × Tab)) (qs : List (Addr × Row)) : Prop where
  hl : H l = some (.ins CL dx [("held", .ref h), ("queue", .ref q)])
  co : Co K H h q hs qs
def LkAt (K : PySem.W.Frag) (CL : Addr) (H : Hp) (l : Addr) (v : Lk) (F : List Addr) : Prop := ∃ dx h q hs qs, v = lkOf hs qs ∧ F = l :: fpOf h q hs ∧ LP K CL H l dx h q hs qs
section
variable {P : Program} {w : World} {K : PySem.W.Frag} {mg : Str → Option Value} {base : Heap} {CL PE : Addr} {TL : List (Addr × Str)} {GT : List Addr} {H H' : Hp} {h q l dx : Addr} {hs : List (Str × Addr × Tab)} {qs : List (Addr × Row)} {v : Lk} {F A : List Addr}
theorem Co.hrT (C : Co K H h q hs qs) : ∀ e ∈ qs, SqT K H e.1 (rowV e.2) := fun e he => .inl (C.hr e he)
theorem Co.keep (C : Co K H h q hs qs) (e : Ex A TL GT H H') (hA : ∀ a ∈ fpOf h q hs, a ∉ A) : Co K H' h q hs qs := by
  obtain ⟨hh, hq, ht, hr, nh, nq, nn, nk, nm⟩ := C
  refine ⟨e.ext _ _ (hA h (by simp [fpOf])) hh (fun _ z => by cases z), e.lst (hA q (by simp [fpOf])) hq, fun x hx => e.ext _ _ (hA _ ?_) (ht x hx) (fun _ z => by cases z), fun x hx => e.tup _ _ (hr x hx), nh, nq, nn, nk, nm⟩
  simp only [fpOf, List.mem_cons, List.mem_map]
  exact .inr (.inr ⟨x, hx, rfl⟩)
theorem LP.keep (C : LP K CL H l dx h q hs qs) (e : Ex A TL GT H H') (hA : ∀ a ∈ l :: fpOf h q hs, a ∉ A) : LP K CL H' l dx h q hs qs :=
  ⟨e.ext _ _ (hA l (by simp)) C.hl (fun _ z => by cases z), C.co.keep e fun a ha => hA a (List.mem_cons_of_mem _ ha)⟩
theorem LkAt.keep (C : LkAt K CL H l v F) (e : Ex A TL GT H H') (hA : ∀ a ∈ F, a ∉ A) : LkAt K CL H' l v F := by
  obtain ⟨dx, h, q, hs, qs, rfl, rfl, C⟩ := C
  exact ⟨dx, h, q, hs, qs, rfl, rfl, C.keep e hA⟩
/-- the table of a name, where it is -/
def fh (hs : List (Str × Addr × Tab)) (n : Str) : Option (Str × Addr × Tab) := hs.find? fun e => decide (e.1 = n)
theorem fh_mem {n : Str} {e : Str × Addr × Tab} (h : fh hs n = some e) : e ∈ hs ∧ e.1 = n := ⟨List.mem_of_find?_eq_some h, by simpa using List.find?_some h⟩
def kvH (hs : List (Str × Addr × Tab)) : List (Key × V) := hs.map fun e => (Sum.inr e.1, V.ref e.2.1)
theorem val_hs (n : Str) : ∀ hs : List (Str × Addr × Tab), valV (kvH hs) (.inr n) = (fh hs n).map fun e => V.ref e.2.1
  | [] => rfl
  | e :: hs => by
    unfold kvH fh
    rw [List.map_cons]
    by_cases z : e.1 = n
    · rw [valV_pos (by rw [z]), List.find?_cons_of_pos (by simpa using z)]; rfl
    · rw [valV_neg (fun q => z (Sum.inr.inj q)), List.find?_cons_of_neg (by simpa using z)]; exact val_hs n hs
theorem get_fh (n : Str) : ∀ hs : List (Str × Addr × Tab), getT (hs.map fun e => (e.1, e.2.2)) n = (fh hs n).map fun e => e.2.2
  | [] => rfl
  | e :: hs => by
    unfold getT fh
    rw [List.map_cons]
    by_cases z : e.1 = n
    · rw [List.find?_cons_of_pos (by simpa using z), List.find?_cons_of_pos (by simpa using z)]; rfl
    · rw [List.find?_cons_of_neg (by simpa using z), List.find?_cons_of_neg (by simpa using z)]; exact get_fh n hs
theorem hold_fh (n : Str) : hold (lkOf hs qs) n = ((fh hs n).map fun e => e.2.2).getD [] := by
  unfold hold lkOf
  rw [get_fh]
def HoldQ (H : Hp) (hs : List (Str × Addr × Tab)) (n : Str) (a : Addr) : Prop := (∃ e, fh hs n = some e ∧ a = e.2.1) ∨ (fh hs n = none ∧ H a = none)
def spHold (K : PySem.W.Frag) (CL : Addr) (TL : List (Addr × Str)) (GT : List Addr) : Sp := fun vs H Q E => ∃ l n dx h q hs qs, vs = [.ref l, .str n] ∧ LP K CL H l dx h q hs qs ∧
  ∀ a H', Ex [] TL GT H H' → H' a = some (.dK (tabK (hold (lkOf hs qs) n))) → HoldQ H hs n a → Q (.ref a) H'
theorem m_hold (T : KL.Txt P w K mg base CL PE TL GT) : Met P w K mg base 3 CL "holders_of" [] (spHold K CL TL GT) := by
  obtain ⟨f, fd, c, D, hm⟩ := T.l_holders
  refine met_of T.cL hm ?_ (D.bind0 (ps := ["self", "name"]) (fun _ _ _ _ _ _ us hl => match us, hl with | [_, _], _ => rfl))
  refine D.okF (N := ["self", "name"]) (ps := ["self", "name"]) ⟨rfl, rfl, rfl, by decide +kernel, rfl, by decide +kernel, by decide +kernel⟩ (fun vs H Q E h => by first | (obtain ⟨_, rfl, _⟩ := h; rfl) | (obtain ⟨_, _, rfl, _⟩ := h; rfl) | (obtain ⟨_, _, _, rfl, _⟩ := h; rfl) | (obtain ⟨_, _, _, _, rfl, _⟩ := h; rfl) | (obtain ⟨_, _, _, _, _, rfl, _⟩ := h; rfl) | (obtain ⟨_, _, _, _, _, _, rfl, _⟩ := h; rfl) | (obtain ⟨_, _, _, _, _, _, _, rfl, _⟩ := h; rfl) | (obtain ⟨_, _, _, _, _, _, _, _, rfl, _⟩ := h; rfl) | (obtain ⟨_, _, _, _, _, _, _, _, _, rfl, _⟩ := h; rfl) | (obtain ⟨_, _, _, _, _, _, _, _, _, _, rfl, _⟩ := h; rfl) | (obtain ⟨_, _, _, _, _, _, _, _, _, _, _, rfl, _⟩ := h; rfl) | (obtain ⟨_, _, _, _, _, _, _, _, _, _, _, _, rfl, _⟩ := h; rfl) | (obtain ⟨_, _, _, _, _, _, _, _, _, _, _, _, _, rfl, _⟩ := h; rfl) | (obtain ⟨_, _, _, _, _, _, _, _, _, _, _, _, _, _, rfl, _⟩ := h; rfl) | (obtain ⟨_, _, _, _, _, _, _, _, _, _, _, _, _, _, _, rfl, _⟩ := h; rfl) | (obtain ⟨rfl, _⟩ := h; rfl)) (fun A outer s H vs Q E hr h => ?_)
  have nd : (["self", "name"] : List Str).Nodup := by decide
  refine mk_ex (pss_one (ps_ret (pe_dget2 (roomD hr) (fldK (K := K) rfl (pe_fld (pv 0) rfl)) (pv 1) pe_dnewK ⟨rfl, rfl, rfl, rfl⟩))) ?_
  obtain ⟨l, n, dx, h, q, hs, qs, rfl, L, hq⟩ := h
  simp only [cx_K, gcx_K, lcx_K, LenV, rLenU, tTruU, kTup, tFld, sFld, sFldAug, tMet, tMake, tBM, tDGet, tDGet1, tDGet2, sDPut, tRevL, iEnum, tAug, tAsg, mulV_int, iaddU_int, isubU_int, iaddU_str, tTupL, ex2eq, not_true_eq_false, not_false_eq_true, LamX.tLam, LamX.TTold, tSeq, tIf, tNext, tRet, tRetN, tIfS, tTest, tB, tNot, tAnd, tOr, tChain, tOp, tUn, tC, tVar, tCons, tNil, tTup, tLst, tAsg, gName, gTup, gCons, gNil, gSub, tDrop, tCallS, tCB, tM1, tM0, tBM, tBM0, tSl, tPar, tFor_eq, tLc_eq, intU_int, intU_bl, iList, iTup, iEnumT, tDNewK, rSlT, rSlL, iRng1, iRng2, iStr, tThen, tNever, L2.start, tRaiseFile, tMkFile, tYes, tPart, tNoPart, addA_int, addA_str, addU_int, addU_str, addU_ref, subU_int, mulU_int, mulU_ref, fdvU_int, modU_int, powU_int, ltU_int, leU_int, gtU_int, geU_int, eqU_int, eqU_str, eqU_bl, neU_int, neU_str, neU_bl, WE, TruV, tDIn, tDNotIn, sDDel, tDSetd, tDPop1, tLock, tLockE, tLk, tLockA, tLockEA, iKeys, List.map, List.length_cons, List.length_nil, List.replicate, List.append, List.getElem?_cons_zero, List.getElem?_cons_succ, List.set_cons_zero, List.set_cons_succ, List.cons_append, List.nil_append, Option.some.injEq, V.int.injEq, V.str.injEq, V.bl.injEq, V.ref.injEq, List.cons.injEq, exists_eq_left, exists_eq_right, and_true, true_and, and_self, exists_eq, exists_const, Bool.not_true, Bool.not_false, Bool.false_eq_true, if_true, if_false, reduceIte, decide_eq_true_eq, bne_iff_ne, exists_eq_left', exists_eq', exists_and_left, Bool.not_eq_true', decide_eq_false_iff_not, Nat.reduceSub, Nat.reduceAdd, reduceCtorEq, false_and, or_false, false_or, exists_false]
  refine ⟨_, _, _, L.hl, T.cL, T.fL _ (by simp), _, rfl, ?_⟩; try simp only [cx_K, gcx_K, lcx_K, LenV, rLenU, tTruU, kTup, tFld, sFld, sFldAug, tMet, tMake, tBM, tDGet, tDGet1, tDGet2, sDPut, tRevL, iEnum, tAug, tAsg, mulV_int, iaddU_int, isubU_int, iaddU_str, tTupL, ex2eq, not_true_eq_false, not_false_eq_true, LamX.tLam, LamX.TTold, tSeq, tIf, tNext, tRet, tRetN, tIfS, tTest, tB, tNot, tAnd, tOr, tChain, tOp, tUn, tC, tVar, tCons, tNil, tTup, tLst, tAsg, gName, gTup, gCons, gNil, gSub, tDrop, tCallS, tCB, tM1, tM0, tBM, tBM0, tSl, tPar, tFor_eq, tLc_eq, intU_int, intU_bl, iList, iTup, iEnumT, tDNewK, rSlT, rSlL, iRng1, iRng2, iStr, tThen, tNever, L2.start, tRaiseFile, tMkFile, tYes, tPart, tNoPart, addA_int, addA_str, addU_int, addU_str, addU_ref, subU_int, mulU_int, mulU_ref, fdvU_int, modU_int, powU_int, ltU_int, leU_int, gtU_int, geU_int, eqU_int, eqU_str, eqU_bl, neU_int, neU_str, neU_bl, WE, TruV, tDIn, tDNotIn, sDDel, tDSetd, tDPop1, tLock, tLockE, tLk, tLockA, tLockEA, iKeys, List.map, List.length_cons, List.length_nil, List.replicate, List.append, List.getElem?_cons_zero, List.getElem?_cons_succ, List.set_cons_zero, List.set_cons_succ, List.cons_append, List.nil_append, Option.some.injEq, V.int.injEq, V.str.injEq, V.bl.injEq, V.ref.injEq, List.cons.injEq, exists_eq_left, exists_eq_right, and_true, true_and, and_self, exists_eq, exists_const, Bool.not_true, Bool.not_false, Bool.false_eq_true, if_true, if_false, reduceIte, decide_eq_true_eq, bne_iff_ne, exists_eq_left', exists_eq', exists_and_left, Bool.not_eq_true', decide_eq_false_iff_not, Nat.reduceSub, Nat.reduceAdd, reduceCtorEq, false_and, or_false, false_or, exists_false]
  refine ⟨.inl ⟨_, .inl L.co.hh⟩, fun p hp => ?_⟩
  have hn : p ≠ h := fun z => by rw [z, L.co.hh] at hp; cases hp
  refine ⟨valV (kvH hs) (.inr n), .inl ⟨kvH hs, .inr n, .inl (by rw [upd_ne hn.symm]; exact L.co.hh), rfl, rfl⟩, ?_⟩
  rw [val_hs]
  cases hf : fh hs n with
  | none => exact hq p _ (Ex.new hp) (by rw [upd_same, hold_fh, hf]; rfl) (.inr ⟨hf, hp⟩)
  | some e =>
    have hx := L.co.ht e (fh_mem hf).1
    have : p ≠ e.2.1 := fun z => by rw [z, hx] at hp; cases hp
    exact hq e.2.1 _ (Ex.new hp) (by rw [upd_ne this.symm, hx, hold_fh, hf]; rfl) (.inl ⟨e, hf, rfl⟩)
theorem app_at {K : PySem.W.Frag} {H : Hp} {l : Addr} {xs : List V} {y : V} {Q : VK} (h : H l = some (.lst xs)) (hz : xs.length < sizeLine) (q : Q .non (upd H l (.lst (xs ++ [y])))) : tyV K "list" (.ref l) H ∧ rAppend (.ref l) [y] H Q := ⟨.inl ⟨rfl, xs, lst_at h⟩, l, xs, y, rfl, rfl, h, hz, q⟩
theorem aheadL_len : ∀ (l : List Row) (who : Int) (n : Str), (aheadL l who n).length ≤ l.length
  | [], _, _ => Nat.le_refl _
  | r :: rs, who, n => by
    have := aheadL_len rs who n
    unfold aheadL
    split
    · exact Nat.zero_le _
    · split
      · rw [List.length_cons, List.length_cons]; omega
      · rw [List.length_cons]; omega
structure AhI (K : PySem.W.Frag) (CL : Addr) (TL : List (Addr × Str)) (GT : List Addr) (H : Hp) (l dx h q : Addr) (hs : List (Str × Addr × Tab)) (qs : List (Addr × Row)) (who : Int) (n : Str) (p : Addr) (i : Nat) (σ : L2.St) (H' : Hp) : Prop where
  s : ∃ v4 v5 v6, σ = [some (.ref l), some (.int who), some (.str n), some (.ref p), v4, v5, v6]
  e : Ex [] TL GT H H'
  f : ∃ fo : List Int, H' p = some (.lst (fo.map V.int)) ∧ fo ++ aheadL ((qs.map (·.2)).drop i) who n = aheadL (qs.map (·.2)) who n
theorem drop_at {α : Type} (l : List α) {i : Nat} {x : α} (h : l[i]? = some x) : l.drop i = x :: l.drop (i + 1) := by
  obtain ⟨hi, e⟩ := List.getElem?_eq_some_iff.mp h
  rw [List.drop_eq_getElem_cons hi, e]
def spAhead (K : PySem.W.Frag) (CL : Addr) (TL : List (Addr × Str)) (GT : List Addr) : Sp := fun vs H Q E => ∃ l who n dx h q hs qs, vs = [.ref l, .int who, .str n] ∧ LP K CL H l dx h q hs qs ∧ qs.length < 1000 ∧
  ∀ a H', Ex [] TL GT H H' → H' a = some (.lst ((aheadL (qs.map (·.2)) who n).map V.int)) → H a = none → Q (.ref a) H'
theorem m_ahead (T : KL.Txt P w K mg base CL PE TL GT) : Met P w K mg base 3 CL "ahead" [] (spAhead K CL TL GT) := by
  obtain ⟨f, fd, c, D, hm⟩ := T.l_ahead
  refine met_of T.cL hm ?_ (D.bind0 (ps := ["self", "who", "name"]) (fun _ _ _ _ _ _ us hl => match us, hl with | [_, _, _], _ => rfl))
  refine D.okF (N := ["self", "who", "name", "found", "one", "wanted", "how"]) (ps := ["self", "who", "name"]) ⟨rfl, rfl, rfl, by decide +kernel, rfl, by decide +kernel, by decide +kernel⟩ (fun vs H Q E h => by first | (obtain ⟨_, rfl, _⟩ := h; rfl) | (obtain ⟨_, _, rfl, _⟩ := h; rfl) | (obtain ⟨_, _, _, rfl, _⟩ := h; rfl) | (obtain ⟨_, _, _, _, rfl, _⟩ := h; rfl) | (obtain ⟨_, _, _, _, _, rfl, _⟩ := h; rfl) | (obtain ⟨_, _, _, _, _, _, rfl, _⟩ := h; rfl) | (obtain ⟨_, _, _, _, _, _, _, rfl, _⟩ := h; rfl) | (obtain ⟨_, _, _, _, _, _, _, _, rfl, _⟩ := h; rfl) | (obtain ⟨_, _, _, _, _, _, _, _, _, rfl, _⟩ := h; rfl) | (obtain ⟨_, _, _, _, _, _, _, _, _, _, rfl, _⟩ := h; rfl) | (obtain ⟨_, _, _, _, _, _, _, _, _, _, _, rfl, _⟩ := h; rfl) | (obtain ⟨_, _, _, _, _, _, _, _, _, _, _, _, rfl, _⟩ := h; rfl) | (obtain ⟨_, _, _, _, _, _, _, _, _, _, _, _, _, rfl, _⟩ := h; rfl) | (obtain ⟨_, _, _, _, _, _, _, _, _, _, _, _, _, _, rfl, _⟩ := h; rfl) | (obtain ⟨_, _, _, _, _, _, _, _, _, _, _, _, _, _, _, rfl, _⟩ := h; rfl) | (obtain ⟨rfl, _⟩ := h; rfl)) (fun A outer s H vs Q E hr h => ?_)
  have nd : (["self", "who", "name", "found", "one", "wanted", "how"] : List Str).Nodup := by decide
  refine mk_ex (pss_cons (ps_set (i := 3) nd rfl (Or.inl rfl) (pe_lst pa_nil))
    (pss_cons (ps_for (passes_of rfl) rfl (ilK (K := K) rfl (pi_list (fldK (K := K) rfl (pe_fld (pv 0) rfl)))) (tupGK (K := K) rfl (pg_tup (n := 3) rfl (pgs_cons (pg_name (i := 4) nd rfl (Or.inl rfl)) (pgs_cons (pg_name (i := 5) nd rfl (Or.inl rfl)) (pgs_cons (pg_name (i := 6) nd rfl (Or.inl rfl)) pgs_nil))))) (pss_cons (ps_if (pt_cmpR (opK (K := K) (r := rEqU) (opU_eq (roomEq hr)) rfl) (pv 4) (pv 1) (nomark _)) (pss_one (ps_ret (pv 3))) pss_nil)
    (pss_one (ps_if (pt_cmpR (opK (K := K) (r := rEqU) (opU_eq (roomEq hr)) rfl) (pv 5) (pv 2) (nomark _)) (pss_one (ps_expr (bmK (K := K) rfl (pe_bm PySem.F.plainAttrs_list PySem.F.slot_list_append PySem.F.type_list_append mt_append (pv 3) (by exact (pa_cons (pv 4) pa_nil)))))) pss_nil))))
    (pss_one (ps_ret (pv 3))))) ?_
  obtain ⟨l, who, n, dx, h, q, hs, qs, rfl, L, hz, hq⟩ := h
  simp only [cx_K, gcx_K, lcx_K, LenV, rLenU, tTruU, kTup, tFld, sFld, sFldAug, tMet, tMake, tBM, tDGet, tDGet1, tDGet2, sDPut, tRevL, iEnum, tAug, tAsg, mulV_int, iaddU_int, isubU_int, iaddU_str, tTupL, ex2eq, not_true_eq_false, not_false_eq_true, LamX.tLam, LamX.TTold, tSeq, tIf, tNext, tRet, tRetN, tIfS, tTest, tB, tNot, tAnd, tOr, tChain, tOp, tUn, tC, tVar, tCons, tNil, tTup, tLst, tAsg, gName, gTup, gCons, gNil, gSub, tDrop, tCallS, tCB, tM1, tM0, tBM, tBM0, tSl, tPar, tFor_eq, tLc_eq, intU_int, intU_bl, iList, iTup, iEnumT, tDNewK, rSlT, rSlL, iRng1, iRng2, iStr, tThen, tNever, L2.start, tRaiseFile, tMkFile, tYes, tPart, tNoPart, addA_int, addA_str, addU_int, addU_str, addU_ref, subU_int, mulU_int, mulU_ref, fdvU_int, modU_int, powU_int, ltU_int, leU_int, gtU_int, geU_int, eqU_int, eqU_str, eqU_bl, neU_int, neU_str, neU_bl, WE, TruV, tDIn, tDNotIn, sDDel, tDSetd, tDPop1, tLock, tLockE, tLk, tLockA, tLockEA, iKeys, List.map, List.length_cons, List.length_nil, List.replicate, List.append, List.getElem?_cons_zero, List.getElem?_cons_succ, List.set_cons_zero, List.set_cons_succ, List.cons_append, List.nil_append, Option.some.injEq, V.int.injEq, V.str.injEq, V.bl.injEq, V.ref.injEq, List.cons.injEq, exists_eq_left, exists_eq_right, and_true, true_and, and_self, exists_eq, exists_const, Bool.not_true, Bool.not_false, Bool.false_eq_true, if_true, if_false, reduceIte, decide_eq_true_eq, bne_iff_ne, exists_eq_left', exists_eq', exists_and_left, Bool.not_eq_true', decide_eq_false_iff_not, Nat.reduceSub, Nat.reduceAdd, reduceCtorEq, false_and, or_false, false_or, exists_false]
  refine ⟨Nat.zero_le _, fun p hp => ?_⟩
  have e1 : Ex [] TL GT H (upd H p (.lst [])) := Ex.new hp
  have L1 := L.keep e1 (fun _ _ => by simp)
  refine ⟨_, _, _, L1.hl, T.cL, T.fL _ (by simp), _, rfl, ?_⟩; try simp only [cx_K, gcx_K, lcx_K, LenV, rLenU, tTruU, kTup, tFld, sFld, sFldAug, tMet, tMake, tBM, tDGet, tDGet1, tDGet2, sDPut, tRevL, iEnum, tAug, tAsg, mulV_int, iaddU_int, isubU_int, iaddU_str, tTupL, ex2eq, not_true_eq_false, not_false_eq_true, LamX.tLam, LamX.TTold, tSeq, tIf, tNext, tRet, tRetN, tIfS, tTest, tB, tNot, tAnd, tOr, tChain, tOp, tUn, tC, tVar, tCons, tNil, tTup, tLst, tAsg, gName, gTup, gCons, gNil, gSub, tDrop, tCallS, tCB, tM1, tM0, tBM, tBM0, tSl, tPar, tFor_eq, tLc_eq, intU_int, intU_bl, iList, iTup, iEnumT, tDNewK, rSlT, rSlL, iRng1, iRng2, iStr, tThen, tNever, L2.start, tRaiseFile, tMkFile, tYes, tPart, tNoPart, addA_int, addA_str, addU_int, addU_str, addU_ref, subU_int, mulU_int, mulU_ref, fdvU_int, modU_int, powU_int, ltU_int, leU_int, gtU_int, geU_int, eqU_int, eqU_str, eqU_bl, neU_int, neU_str, neU_bl, WE, TruV, tDIn, tDNotIn, sDDel, tDSetd, tDPop1, tLock, tLockE, tLk, tLockA, tLockEA, iKeys, List.map, List.length_cons, List.length_nil, List.replicate, List.append, List.getElem?_cons_zero, List.getElem?_cons_succ, List.set_cons_zero, List.set_cons_succ, List.cons_append, List.nil_append, Option.some.injEq, V.int.injEq, V.str.injEq, V.bl.injEq, V.ref.injEq, List.cons.injEq, exists_eq_left, exists_eq_right, and_true, true_and, and_self, exists_eq, exists_const, Bool.not_true, Bool.not_false, Bool.false_eq_true, if_true, if_false, reduceIte, decide_eq_true_eq, bne_iff_ne, exists_eq_left', exists_eq', exists_and_left, Bool.not_eq_true', decide_eq_false_iff_not, Nat.reduceSub, Nat.reduceAdd, reduceCtorEq, false_and, or_false, false_or, exists_false]
  refine ⟨⟨_, lst_at L1.co.hq⟩, ?_⟩
  refine loop_list (xs := qs.map fun e => V.ref e.1) (AhI K CL TL GT H l dx h q hs qs who n p) ⟨⟨_, _, _, rfl⟩, e1, [], upd_same, by simp⟩ (fun i σ H' hi I => lst_at (L.keep I.e (fun _ _ => by simp)).co.hq) ?_ ?_
  · rintro i x σ H' hx I
    obtain ⟨⟨v4, v5, v6, rfl⟩, e, fo, h3, h4⟩ := I
    have LL := L.keep e (fun _ _ => by simp)
    rw [List.getElem?_map] at hx
    cases hqi : qs[i]? with
    | none => rw [hqi] at hx; cases hx
    | some ar =>
      rw [hqi] at hx
      obtain rfl : V.ref ar.1 = x := Option.some.inj hx
      have hr := LL.co.hrT ar (List.mem_of_getElem? hqi)
      have hd := drop_at (qs.map (·.2)) (by rw [List.getElem?_map, hqi]; rfl)
      simp only [cx_K, gcx_K, lcx_K, LenV, rLenU, tTruU, kTup, tFld, sFld, sFldAug, tMet, tMake, tBM, tDGet, tDGet1, tDGet2, sDPut, tRevL, iEnum, tAug, tAsg, mulV_int, iaddU_int, isubU_int, iaddU_str, tTupL, ex2eq, not_true_eq_false, not_false_eq_true, LamX.tLam, LamX.TTold, tSeq, tIf, tNext, tRet, tRetN, tIfS, tTest, tB, tNot, tAnd, tOr, tChain, tOp, tUn, tC, tVar, tCons, tNil, tTup, tLst, tAsg, gName, gTup, gCons, gNil, gSub, tDrop, tCallS, tCB, tM1, tM0, tBM, tBM0, tSl, tPar, tFor_eq, tLc_eq, intU_int, intU_bl, iList, iTup, iEnumT, tDNewK, rSlT, rSlL, iRng1, iRng2, iStr, tThen, tNever, L2.start, tRaiseFile, tMkFile, tYes, tPart, tNoPart, addA_int, addA_str, addU_int, addU_str, addU_ref, subU_int, mulU_int, mulU_ref, fdvU_int, modU_int, powU_int, ltU_int, leU_int, gtU_int, geU_int, eqU_int, eqU_str, eqU_bl, neU_int, neU_str, neU_bl, WE, TruV, tDIn, tDNotIn, sDDel, tDSetd, tDPop1, tLock, tLockE, tLk, tLockA, tLockEA, iKeys, List.map, List.length_cons, List.length_nil, List.replicate, List.append, List.getElem?_cons_zero, List.getElem?_cons_succ, List.set_cons_zero, List.set_cons_succ, List.cons_append, List.nil_append, Option.some.injEq, V.int.injEq, V.str.injEq, V.bl.injEq, V.ref.injEq, List.cons.injEq, exists_eq_left, exists_eq_right, and_true, true_and, and_self, exists_eq, exists_const, Bool.not_true, Bool.not_false, Bool.false_eq_true, if_true, if_false, reduceIte, decide_eq_true_eq, bne_iff_ne, exists_eq_left', exists_eq', exists_and_left, Bool.not_eq_true', decide_eq_false_iff_not, Nat.reduceSub, Nat.reduceAdd, reduceCtorEq, false_and, or_false, false_or, exists_false]
      have hlen : fo.length < 1000 := by
        have a1 := congrArg List.length h4
        rw [List.length_append] at a1
        have a2 := aheadL_len (qs.map (·.2)) who n
        rw [List.length_map] at a2
        omega
      refine ⟨rowV ar.2, hr, rfl, _, _, rfl, _, _, rfl, _, _, rfl, rfl, ?_⟩
      simp only [cx_K, gcx_K, lcx_K, LenV, rLenU, tTruU, kTup, tFld, sFld, sFldAug, tMet, tMake, tBM, tDGet, tDGet1, tDGet2, sDPut, tRevL, iEnum, tAug, tAsg, mulV_int, iaddU_int, isubU_int, iaddU_str, tTupL, ex2eq, not_true_eq_false, not_false_eq_true, LamX.tLam, LamX.TTold, tSeq, tIf, tNext, tRet, tRetN, tIfS, tTest, tB, tNot, tAnd, tOr, tChain, tOp, tUn, tC, tVar, tCons, tNil, tTup, tLst, tAsg, gName, gTup, gCons, gNil, gSub, tDrop, tCallS, tCB, tM1, tM0, tBM, tBM0, tSl, tPar, tFor_eq, tLc_eq, intU_int, intU_bl, iList, iTup, iEnumT, tDNewK, rSlT, rSlL, iRng1, iRng2, iStr, tThen, tNever, L2.start, tRaiseFile, tMkFile, tYes, tPart, tNoPart, addA_int, addA_str, addU_int, addU_str, addU_ref, subU_int, mulU_int, mulU_ref, fdvU_int, modU_int, powU_int, ltU_int, leU_int, gtU_int, geU_int, eqU_int, eqU_str, eqU_bl, neU_int, neU_str, neU_bl, WE, TruV, tDIn, tDNotIn, sDDel, tDSetd, tDPop1, tLock, tLockE, tLk, tLockA, tLockEA, iKeys, List.map, List.length_cons, List.length_nil, List.replicate, List.append, List.getElem?_cons_zero, List.getElem?_cons_succ, List.set_cons_zero, List.set_cons_succ, List.cons_append, List.nil_append, Option.some.injEq, V.int.injEq, V.str.injEq, V.bl.injEq, V.ref.injEq, List.cons.injEq, exists_eq_left, exists_eq_right, and_true, true_and, and_self, exists_eq, exists_const, Bool.not_true, Bool.not_false, Bool.false_eq_true, if_true, if_false, reduceIte, decide_eq_true_eq, bne_iff_ne, exists_eq_left', exists_eq', exists_and_left, Bool.not_eq_true', decide_eq_false_iff_not, Nat.reduceSub, Nat.reduceAdd, reduceCtorEq, false_and, or_false, false_or, exists_false]
      rw [hd, aheadL] at h4
      by_cases z1 : ar.2.1 = who
      · rw [if_pos z1]
        rw [if_pos z1, List.append_nil] at h4
        exact hq p H' e (by rw [h3, h4]) hp
      · rw [if_neg z1]
        rw [if_neg z1] at h4
        by_cases z2 : ar.2.2.1 = n
        · rw [if_pos z2]
          rw [if_pos z2] at h4
          refine app_at h3 (by rw [List.length_map, sizeLine_eq]; omega) ⟨⟨_, _, _, rfl⟩, e.over hp h3 rfl, fo ++ [ar.2.1], by rw [upd_same]; simp, by simpa using h4⟩
        · rw [if_neg z2]
          rw [if_neg z2] at h4
          exact ⟨⟨_, _, _, rfl⟩, e, fo, h3, h4⟩
  · rintro σ H' ⟨⟨v4, v5, v6, rfl⟩, e, fo, h3, h4⟩
    rw [List.length_map, List.drop_eq_nil_of_le (by simp)] at h4
    rw [aheadL, List.append_nil] at h4
    simp only [cx_K, gcx_K, lcx_K, LenV, rLenU, tTruU, kTup, tFld, sFld, sFldAug, tMet, tMake, tBM, tDGet, tDGet1, tDGet2, sDPut, tRevL, iEnum, tAug, tAsg, mulV_int, iaddU_int, isubU_int, iaddU_str, tTupL, ex2eq, not_true_eq_false, not_false_eq_true, LamX.tLam, LamX.TTold, tSeq, tIf, tNext, tRet, tRetN, tIfS, tTest, tB, tNot, tAnd, tOr, tChain, tOp, tUn, tC, tVar, tCons, tNil, tTup, tLst, tAsg, gName, gTup, gCons, gNil, gSub, tDrop, tCallS, tCB, tM1, tM0, tBM, tBM0, tSl, tPar, tFor_eq, tLc_eq, intU_int, intU_bl, iList, iTup, iEnumT, tDNewK, rSlT, rSlL, iRng1, iRng2, iStr, tThen, tNever, L2.start, tRaiseFile, tMkFile, tYes, tPart, tNoPart, addA_int, addA_str, addU_int, addU_str, addU_ref, subU_int, mulU_int, mulU_ref, fdvU_int, modU_int, powU_int, ltU_int, leU_int, gtU_int, geU_int, eqU_int, eqU_str, eqU_bl, neU_int, neU_str, neU_bl, WE, TruV, tDIn, tDNotIn, sDDel, tDSetd, tDPop1, tLock, tLockE, tLk, tLockA, tLockEA, iKeys, List.map, List.length_cons, List.length_nil, List.replicate, List.append, List.getElem?_cons_zero, List.getElem?_cons_succ, List.set_cons_zero, List.set_cons_succ, List.cons_append, List.nil_append, Option.some.injEq, V.int.injEq, V.str.injEq, V.bl.injEq, V.ref.injEq, List.cons.injEq, exists_eq_left, exists_eq_right, and_true, true_and, and_self, exists_eq, exists_const, Bool.not_true, Bool.not_false, Bool.false_eq_true, if_true, if_false, reduceIte, decide_eq_true_eq, bne_iff_ne, exists_eq_left', exists_eq', exists_and_left, Bool.not_eq_true', decide_eq_false_iff_not, Nat.reduceSub, Nat.reduceAdd, reduceCtorEq, false_and, or_false, false_or, exists_false]
    exact hq p H' e (by rw [h3, h4]) hp
end
end KL
end
section
set_option Elab.async false
set_option linter.all false
set_option maxRecDepth 100000
set_option maxHeartbeats 2000000
set_option pp.maxSteps 900
namespace KL
open PySem PySem.Spec PyProof.Rows L2 GX
section
variable {P : Program} {w : World} {K : PySem.W.Frag} {mg : Str → Option Value} {base : Heap} {CL PE : Addr} {TL : List (Addr × Str)} {GT : List Addr} {H H' : Hp} {h q l dx : Addr} {hs : List (Str × Addr × Tab)} {qs : List (Addr × Row)} {v : Lk} {F A : List Addr}
theorem LP.live (C : LP K CL H l dx h q hs qs) : ∀ a ∈ l :: fpOf h q hs, ∃ o, H a = some o ∧ isMut o = true := by
  intro a ha
  simp only [fpOf, List.mem_cons, List.mem_map] at ha
  rcases ha with rfl | rfl | rfl | ⟨e, he, rfl⟩
  · exact ⟨_, C.hl, rfl⟩
  · exact ⟨_, C.co.hh, rfl⟩
  · exact ⟨_, C.co.hq, rfl⟩
  · exact ⟨_, C.co.ht e he, rfl⟩
theorem LP.notin {a : Addr} (C : LP K CL H l dx h q hs qs) (e : H a = none) : a ∉ l :: fpOf h q hs := fun z => by
  obtain ⟨o, e2, _⟩ := C.live a z
  rw [e] at e2; cases e2
theorem _root_.GX.Ex.home {a : Addr} (e : Ex (a :: A) TL GT H H') (h : H a = none ∨ ∃ o, H a = some o ∧ H' a = some o) : Ex A TL GT H H' :=
  ⟨fun c o hA hc hn => by
    by_cases z : c = a
    · rcases h with h | ⟨o2, h1, h2⟩
      · rw [z, h] at hc; cases hc
      · rw [z, h1] at hc
        cases hc
        rw [z]; exact h2
    · exact e.ext c o (by simp [z, hA]) hc hn, e.tl, e.tg, e.tup⟩
def dkB (ks : List Int) : List (Key × V) := ks.map fun k => (Sum.inl k, V.bl true)
theorem put_dkB (ks : List Int) (k : Int) : putK (dkB ks) (.inl k) (.bl true) = dkB (addI ks k) := by
  unfold putK addI
  have h : ((dkB ks).any fun kv => decide (kv.1 = .inl k)) = true ↔ k ∈ ks := by
    unfold dkB
    rw [List.any_map, List.any_eq_true]
    exact ⟨fun ⟨x, a, b⟩ => by
      have : x = k := by simpa using b
      rw [← this]; exact a, fun a => ⟨k, a, by simp⟩⟩
  by_cases hk : k ∈ ks
  · rw [if_pos (h.mpr hk), if_pos hk]
    unfold dkB
    rw [List.map_map]
    refine List.map_congr_left fun x _ => ?_
    show (if (Sum.inl x : Key) = .inl k then ((Sum.inl x : Key), V.bl true) else (Sum.inl x, V.bl true)) = _
    split <;> rfl
  · rw [if_neg (fun z => hk (h.mp z)), if_neg hk]
    unfold dkB
    rw [List.map_append]; rfl
theorem ded_snoc (l : List Int) (x : Int) : ded (l ++ [x]) = addI (ded l) x := by
  unfold ded
  rw [List.foldl_append]; rfl
theorem hw_eq (al : Bool) : decide (hw al = ("alone" : Str)) = al := by cases al <;> decide
def Sz (v : Lk) : Prop := v.queue.length ≤ 20 ∧ ∀ n, (hold v n).length ≤ 20
structure BlI (TL : List (Addr × Str)) (GT : List Addr) (l : Addr) (who : Int) (n : Str) (al : Bool) (h p a : Addr) (od : Obj) (t : Tab) (H1 : Hp) (i : Nat) (σ : L2.St) (H' : Hp) : Prop where
  s : ∃ v5, σ = [some (.ref l), some (.int who), some (.str n), some (.str (hw al)), some (.ref p), v5]
  e : Ex [a, p] TL GT H1 H'
  lk : H' a = some (.frz od (.dK (tabK t)))
  f : H' p = some (.dK (dkB (ded (blkA (t.take i) who al))))
structure BlJ (TL : List (Addr × Str)) (GT : List Addr) (l : Addr) (who : Int) (n : Str) (al : Bool) (p a : Addr) (xs b : List Int) (H1 : Hp) (i : Nat) (σ : L2.St) (H' : Hp) : Prop where
  s : ∃ v5, σ = [some (.ref l), some (.int who), some (.str n), some (.str (hw al)), some (.ref p), v5]
  e : Ex [p] TL GT H1 H'
  lk : H' a = some (.lst (xs.map V.int))
  f : H' p = some (.dK (dkB (ded (b ++ xs.take i))))
theorem val_key (t : Tab) (who : Int) : (valV (tabK t) (.inl who)).isSome = keyI t who := by
  rw [← valV_any]
  unfold tabK keyI
  rw [List.any_map]
  congr 1
  funext x
  show decide ((Sum.inl x.1 : Key) = .inl who) = decide (x.1 = who)
  simp
theorem insI_perm (a : Int) : ∀ l : List Int, (insI a l).Perm (a :: l)
  | [] => .refl _
  | b :: l => by
    unfold insI
    split
    · exact .refl _
    · exact ((insI_perm a l).cons b).trans (.swap a b l)
theorem srt_perm : ∀ l : List Int, (srt l).Perm l
  | [] => .refl _
  | a :: l => (insI_perm a (srt l)).trans ((srt_perm l).cons a)
theorem insI_sorted (a : Int) : ∀ {l : List Int}, l.Pairwise (· ≤ ·) → (insI a l).Pairwise (· ≤ ·)
  | [], _ => by unfold insI; exact List.pairwise_singleton _ _
  | b :: l, h => by
    unfold insI
    rw [List.pairwise_cons] at h
    split
    · rename_i hab
      refine List.pairwise_cons.mpr ⟨fun x hx => ?_, List.pairwise_cons.mpr h⟩
      rcases List.mem_cons.mp hx with rfl | hx
      · exact hab
      · exact Int.le_trans hab (h.1 x hx)
    · rename_i hab
      refine List.pairwise_cons.mpr ⟨fun x hx => ?_, insI_sorted a h.2⟩
      rcases List.mem_cons.mp ((insI_perm a l).mem_iff.mp hx) with rfl | hx
      · omega
      · exact h.1 x hx
theorem srt_sorted : ∀ l : List Int, (srt l).Pairwise (· ≤ ·)
  | [] => .nil
  | a :: l => insI_sorted a (srt_sorted l)
theorem sorted_perm : ∀ {l m : List Int}, l.Pairwise (· ≤ ·) → m.Pairwise (· ≤ ·) → l.Perm m → l = m
  | [], m, _, _, p => p.nil_eq
  | a :: l, [], _, _, p => p.symm.nil_eq.symm
  | a :: l, b :: m, h1, h2, p => by
    rw [List.pairwise_cons] at h1 h2
    have e : a = b := by
      rcases List.mem_cons.mp (p.mem_iff.mp List.mem_cons_self) with e | ha
      · exact e
      · rcases List.mem_cons.mp (p.mem_iff.mpr List.mem_cons_self) with e | hb
        · exact e.symm
        · exact Int.le_antisymm (h1.1 b hb) (h2.1 a ha)
    subst e
    rw [sorted_perm h1.2 h2.2 (p.cons_inv)]
theorem srt_eq {ys ks : List Int} (h : ys.Pairwise (· ≤ ·)) (p : ys.Perm ks) : ys = srt ks := sorted_perm h (srt_sorted ks) (p.trans (srt_perm ks).symm)
theorem fold_len : ∀ (l a : List Int), (l.foldl addI a).length ≤ a.length + l.length
  | [], a => Nat.le_refl _
  | x :: l, a => by
    have := fold_len l (addI a x)
    have h2 : (addI a x).length ≤ a.length + 1 := by
      unfold addI
      split
      · omega
      · rw [List.length_append]; exact Nat.le_refl _
    rw [List.foldl_cons, List.length_cons]
    omega
theorem ded_len (l : List Int) : (ded l).length ≤ l.length := by have := fold_len l []; simpa [ded] using this
theorem blkA_len (t : Tab) (who : Int) (al : Bool) : (blkA t who al).length ≤ t.length := by
  unfold blkA
  rw [List.length_map]
  exact List.length_filter_le _ _
theorem val_tab : ∀ {t : Tab} {ob : Int × Bool}, (t.map (·.1)).Nodup → ob ∈ t → valV (tabK t) (.inl ob.1) = some (.str (hw ob.2))
  | [], _, _, h => by cases h
  | x :: t, ob, nd, h => by
    rw [List.map_cons, List.nodup_cons] at nd
    unfold tabK
    rw [List.map_cons]
    rcases List.mem_cons.mp h with rfl | h
    · exact valV_pos rfl
    · rw [valV_neg (fun z => nd.1 (by
        have : x.1 = ob.1 := Sum.inl.inj z
        rw [this]; exact List.mem_map.mpr ⟨ob, h, rfl⟩))]
      exact val_tab nd.2 h
def spBlk (K : PySem.W.Frag) (CL : Addr) (TL : List (Addr × Str)) (GT : List Addr) : Sp := fun vs H Q E => ∃ l who n al dx h q hs qs, vs = [.ref l, .int who, .str n, .str (hw al)] ∧ LP K CL H l dx h q hs qs ∧ Sz (lkOf hs qs) ∧
  ∀ a H', Ex [] TL GT H H' → H' a = some (.lst ((blk (lkOf hs qs) who n al).map V.int)) → free H a → Q (.ref a) H'
theorem m_blk (T : KL.Txt P w K mg base CL PE TL GT) : Met P w K mg base 5 CL "blockers" [] (spBlk K CL TL GT) := by
  have m_Locks_holders_of := m_hold T
  have m_Locks_ahead := m_ahead T
  obtain ⟨f, fd, c, D, hm⟩ := T.l_blockers
  refine met_of T.cL hm ?_ (D.bind0 (ps := ["self", "who", "name", "how"]) (fun _ _ _ _ _ _ us hl => match us, hl with | [_, _, _, _], _ => rfl))
  refine D.okF (N := ["self", "who", "name", "how", "found", "one"]) (ps := ["self", "who", "name", "how"]) ⟨rfl, rfl, rfl, by decide +kernel, rfl, by decide +kernel, by decide +kernel⟩ (fun vs H Q E h => by first | (obtain ⟨_, rfl, _⟩ := h; rfl) | (obtain ⟨_, _, rfl, _⟩ := h; rfl) | (obtain ⟨_, _, _, rfl, _⟩ := h; rfl) | (obtain ⟨_, _, _, _, rfl, _⟩ := h; rfl) | (obtain ⟨_, _, _, _, _, rfl, _⟩ := h; rfl) | (obtain ⟨_, _, _, _, _, _, rfl, _⟩ := h; rfl) | (obtain ⟨_, _, _, _, _, _, _, rfl, _⟩ := h; rfl) | (obtain ⟨_, _, _, _, _, _, _, _, rfl, _⟩ := h; rfl) | (obtain ⟨_, _, _, _, _, _, _, _, _, rfl, _⟩ := h; rfl) | (obtain ⟨_, _, _, _, _, _, _, _, _, _, rfl, _⟩ := h; rfl) | (obtain ⟨_, _, _, _, _, _, _, _, _, _, _, rfl, _⟩ := h; rfl) | (obtain ⟨_, _, _, _, _, _, _, _, _, _, _, _, rfl, _⟩ := h; rfl) | (obtain ⟨_, _, _, _, _, _, _, _, _, _, _, _, _, rfl, _⟩ := h; rfl) | (obtain ⟨_, _, _, _, _, _, _, _, _, _, _, _, _, _, rfl, _⟩ := h; rfl) | (obtain ⟨_, _, _, _, _, _, _, _, _, _, _, _, _, _, _, rfl, _⟩ := h; rfl) | (obtain ⟨rfl, _⟩ := h; rfl)) (fun A outer s H vs Q E hr h => ?_)
  have nd : (["self", "who", "name", "how", "found", "one"] : List Str).Nodup := by decide
  refine mk_ex (pss_cons (ps_set (i := 4) nd rfl (Or.inl rfl) pe_dnewK)
    (pss_cons (ps_lockA (ps_for (passes_of rfl) rfl (pi_keys (pe_lk (pe_met m_Locks_holders_of (hr.mono (by decide)) (takes_of rfl rfl rfl rfl) (pv 0) (by exact (pa_cons (pv 2) pa_nil))))) (pg_name (i := 5) nd rfl (Or.inl rfl)) (pss_one (ps_if (PW.pt (pw_and (pt_cmpR (opK (K := K) (r := rNeU) (opU_ne (roomEq hr)) rfl) (pv 5) (pv 1) (nomark _)) (pw_and1 (PW.pt (pw_or (pt_cmpR (opK (K := K) (r := rEqU) (opU_eq (roomEq hr)) rfl) (pv 3) pe_str (nomark _)) (pw_or1 (pt_cmpR (opK (K := K) (r := rEqU) (opU_eq (roomEq hr)) rfl) (pe_dget (roomD hr) (pe_dget (roomD hr) (fldK (K := K) rfl (pe_fld (pv 0) rfl)) (pv 2) (fun _ _ => rfl)) (pv 5) (fun _ _ => rfl)) pe_str (nomark _)))))))) (pss_one (ps_dput (roomD hr) (pv 4) (pv 5) pe_bl rfl)) pss_nil))))
    (pss_cons (ps_if (pt_cmp (pc_dnotin (roomD hr) (pv 1) (pe_met m_Locks_holders_of (hr.mono (by decide)) (takes_of rfl rfl rfl rfl) (pv 0) (by exact (pa_cons (pv 2) pa_nil))))) (pss_one (ps_for (passes_of rfl) rfl (ilK (K := K) rfl (pi_list (pe_met m_Locks_ahead (hr.mono (by decide)) (takes_of rfl rfl rfl rfl) (pv 0) (by exact (pa_cons (pv 1) (pa_cons (pv 2) pa_nil)))))) (pg_name (i := 5) nd rfl (Or.inl rfl)) (pss_one (ps_dput (roomD hr) (pv 4) (pv 5) pe_bl rfl)))) pss_nil)
    (pss_one (ps_ret (pe_callB (call_sortedDI rfl) rfl T.n_sorted rfl (by exact (pa_cons (pv 4) pa_nil)))))))) ?_
  obtain ⟨l, who, n, al, dx, h, q, hs, qs, rfl, L, sz, hq⟩ := h
  simp only [cx_K, gcx_K, lcx_K, LenV, rLenU, tTruU, kTup, tFld, sFld, sFldAug, tMet, tMake, tBM, tDGet, tDGet1, tDGet2, sDPut, tRevL, iEnum, tAug, tAsg, mulV_int, iaddU_int, isubU_int, iaddU_str, tTupL, ex2eq, not_true_eq_false, not_false_eq_true, LamX.tLam, LamX.TTold, tSeq, tIf, tNext, tRet, tRetN, tIfS, tTest, tB, tNot, tAnd, tOr, tChain, tOp, tUn, tC, tVar, tCons, tNil, tTup, tLst, tAsg, gName, gTup, gCons, gNil, gSub, tDrop, tCallS, tCB, tM1, tM0, tBM, tBM0, tSl, tPar, tFor_eq, tLc_eq, intU_int, intU_bl, iList, iTup, iEnumT, tDNewK, rSlT, rSlL, iRng1, iRng2, iStr, tThen, tNever, L2.start, tRaiseFile, tMkFile, tYes, tPart, tNoPart, addA_int, addA_str, addU_int, addU_str, addU_ref, subU_int, mulU_int, mulU_ref, fdvU_int, modU_int, powU_int, ltU_int, leU_int, gtU_int, geU_int, eqU_int, eqU_str, eqU_bl, neU_int, neU_str, neU_bl, WE, TruV, tDIn, tDNotIn, sDDel, tDSetd, tDPop1, tLock, tLockE, tLk, tLockA, tLockEA, iKeys, List.map, List.length_cons, List.length_nil, List.replicate, List.append, List.getElem?_cons_zero, List.getElem?_cons_succ, List.set_cons_zero, List.set_cons_succ, List.cons_append, List.nil_append, Option.some.injEq, V.int.injEq, V.str.injEq, V.bl.injEq, V.ref.injEq, List.cons.injEq, exists_eq_left, exists_eq_right, and_true, true_and, and_self, exists_eq, exists_const, Bool.not_true, Bool.not_false, Bool.false_eq_true, if_true, if_false, reduceIte, decide_eq_true_eq, bne_iff_ne, exists_eq_left', exists_eq', exists_and_left, Bool.not_eq_true', decide_eq_false_iff_not, Nat.reduceSub, Nat.reduceAdd, reduceCtorEq, false_and, or_false, false_or, exists_false]
  intro p hp
  have e1 : Ex [] TL GT H (upd H p (.dK [])) := Ex.new hp
  have p1 : upd H p (.dK []) p = some (.dK []) := upd_same
  have L1 := L.keep e1 (fun _ _ => by simp)
  have hpF : p ∉ l :: fpOf h q hs := L.notin hp
  generalize upd H p (.dK []) = H1 at e1 p1 L1 ⊢
  refine ⟨_, _, L1.hl, rfl, l, n, dx, h, q, hs, qs, rfl, L1, fun a H2 e2 ha hQ => ⟨a, rfl, _, ha, trivial, fun od => ⟨a, rfl, od, .inl ⟨_, upd_same, ?_⟩⟩⟩⟩
  have hnF : H1 a = none ∨ H1 a = some (.dK (tabK (hold (lkOf hs qs) n))) := by
    rcases hQ with ⟨e, he, rfl⟩ | ⟨_, z⟩
    · rw [L1.co.ht e (fh_mem he).1, hold_fh, he]; exact .inr rfl
    · exact .inl z
  have hap : p ≠ a := fun z => by
    rcases hQ with ⟨e, he, rfl⟩ | ⟨_, z2⟩
    · exact hpF (by rw [z]; simp only [fpOf, List.mem_cons, List.mem_map]; exact .inr (.inr (.inr ⟨e, (fh_mem he).1, rfl⟩)))
    · rw [z, z2] at p1; cases p1
  have hq0 : ∀ x ∈ l :: h :: q :: ([] : List Addr), x ≠ a := fun x hx z => by
    rcases hQ with ⟨e, he, rfl⟩ | ⟨_, z2⟩
    · have h1 := L1.co.ht e (fh_mem he).1
      rw [← z] at h1
      simp only [List.mem_cons, List.not_mem_nil, or_false] at hx
      rcases hx with rfl | rfl | rfl
      · rw [L1.hl] at h1; cases h1
      · exact L1.co.nn (by rw [z]; exact List.mem_map.mpr ⟨e, (fh_mem he).1, rfl⟩)
      · rw [L1.co.hq] at h1; cases h1
    · obtain ⟨o, ho, _⟩ := L1.live x (by simp only [List.mem_cons, List.not_mem_nil, or_false] at hx; simp only [fpOf, List.mem_cons]; rcases hx with rfl | rfl | rfl <;> simp)
      rw [z, z2] at ho; cases ho
  have hq1 : ∀ x ∈ l :: h :: q :: ([] : List Addr), x ∉ [a, p] := fun x hx z => by
    simp only [List.mem_cons, List.not_mem_nil, or_false] at z
    rcases z with z | z
    · exact hq0 x hx z
    · refine hpF (by rw [← z]; simp only [List.mem_cons, List.not_mem_nil, or_false] at hx; simp only [fpOf, List.mem_cons]; rcases hx with rfl | rfl | rfl <;> simp)
  generalize ht : hold (lkOf hs qs) n = t at *
  have hnk : (t.map (·.1)).Nodup := by
    rw [← ht, hold_fh]
    cases he : fh hs n with
    | none => exact .nil
    | some e => exact L.co.nk e (fh_mem he).1
  have hlk : H1 a = none ∨ Ex [a] TL GT H1 (upd H2 a (.frz od (.dK (tabK t)))) := .inr ((e2.mono (by simp)).chg ha rfl (.inl (by simp)))
  refine loop_keys (BlI TL GT l who n al h p a od t H1) ⟨⟨_, rfl⟩, (e2.mono (by simp)).chg ha rfl (.inl (by simp)), upd_same, by rw [upd_ne hap]; exact e2.ext _ _ (by simp) p1 (fun _ z => by cases z)⟩ (fun i σ H' _ I => I.lk) ?_ ?_
  · rintro i k v0 σ H' hx ⟨⟨v5, rfl⟩, e, lk, hf⟩
    have hx0 := hx
    unfold tabK at hx
    rw [List.getElem?_map] at hx
    cases hti : t[i]? with
    | none => rw [hti] at hx; cases hx
    | some ob =>
      rw [hti] at hx
      cases Option.some.inj hx
      have hl2 : H' l = some (.ins CL dx [("held", .ref h), ("queue", .ref q)]) := e.ext _ _ (hq1 l (by simp)) L1.hl (fun _ z => by cases z)
      have hh2 : H' h = some (.dK (kvH hs)) := e.ext _ _ (hq1 h (by simp)) L1.co.hh (fun _ z => by cases z)
      simp only [cx_K, gcx_K, lcx_K, LenV, rLenU, tTruU, kTup, tFld, sFld, sFldAug, tMet, tMake, tBM, tDGet, tDGet1, tDGet2, sDPut, tRevL, iEnum, tAug, tAsg, mulV_int, iaddU_int, isubU_int, iaddU_str, tTupL, ex2eq, not_true_eq_false, not_false_eq_true, LamX.tLam, LamX.TTold, tSeq, tIf, tNext, tRet, tRetN, tIfS, tTest, tB, tNot, tAnd, tOr, tChain, tOp, tUn, tC, tVar, tCons, tNil, tTup, tLst, tAsg, gName, gTup, gCons, gNil, gSub, tDrop, tCallS, tCB, tM1, tM0, tBM, tBM0, tSl, tPar, tFor_eq, tLc_eq, intU_int, intU_bl, iList, iTup, iEnumT, tDNewK, rSlT, rSlL, iRng1, iRng2, iStr, tThen, tNever, L2.start, tRaiseFile, tMkFile, tYes, tPart, tNoPart, addA_int, addA_str, addU_int, addU_str, addU_ref, subU_int, mulU_int, mulU_ref, fdvU_int, modU_int, powU_int, ltU_int, leU_int, gtU_int, geU_int, eqU_int, eqU_str, eqU_bl, neU_int, neU_str, neU_bl, WE, TruV, tDIn, tDNotIn, sDDel, tDSetd, tDPop1, tLock, tLockE, tLk, tLockA, tLockEA, iKeys, List.map, List.length_cons, List.length_nil, List.replicate, List.append, List.getElem?_cons_zero, List.getElem?_cons_succ, List.set_cons_zero, List.set_cons_succ, List.cons_append, List.nil_append, Option.some.injEq, V.int.injEq, V.str.injEq, V.bl.injEq, V.ref.injEq, List.cons.injEq, exists_eq_left, exists_eq_right, and_true, true_and, and_self, exists_eq, exists_const, Bool.not_true, Bool.not_false, Bool.false_eq_true, if_true, if_false, reduceIte, decide_eq_true_eq, bne_iff_ne, exists_eq_left', exists_eq', exists_and_left, Bool.not_eq_true', decide_eq_false_iff_not, Nat.reduceSub, Nat.reduceAdd, reduceCtorEq, false_and, or_false, false_or, exists_false, kV]
      have hne : t ≠ [] := fun z => by rw [z] at hti; cases hti
      obtain ⟨e0, he0, ha0⟩ : ∃ e, fh hs n = some e ∧ a = e.2.1 := by
        rcases hQ with hQ | ⟨z, _⟩
        · exact hQ
        · rw [hold_fh, z] at ht; exact absurd ht.symm hne
      have hlen : (ded (blkA (t.take i) who al)).length ≤ 20 := by
        have a1 := ded_len (blkA (t.take i) who al)
        have a2 := blkA_len (t.take i) who al
        have a3 := sz.2 n
        rw [ht] at a3
        rw [List.length_take] at a2
        omega
      have hstep : blkA (t.take (i + 1)) who al = blkA (t.take i) who al ++ (if (decide (ob.1 ≠ who) && (al || ob.2)) = true then [ob.1] else []) := by
        unfold blkA
        rw [List.take_succ, hti, List.filter_append, List.map_append]
        congr 1
        rw [Option.toList_some, List.filter_cons]
        split <;> rfl
      have hput : (decide (ob.1 ≠ who) && (al || ob.2)) = true → ∃ x, DPut H' p (V.int ob.1) (V.bl true) x ∧ BlI TL GT l who n al h p a od t H1 (i + 1) [some (V.ref l), some (V.int who), some (V.str n), some (V.str (hw al)), some (V.ref p), some (V.int ob.1)] x := fun hc => by
        refine ⟨_, DPut.k (k := .inl ob.1) hf (by show (dkB _).length < _; unfold dkB; rw [List.length_map, sizeLine_eq]; omega), ⟨⟨_, rfl⟩, e.trans (Ex.put (by simp) hf rfl), ?_, ?_⟩⟩
        · rw [upd_ne hap.symm]; exact lk
        · rw [upd_same, hstep, if_pos hc, ded_snoc, put_dkB]
      have hno : (decide (ob.1 ≠ who) && (al || ob.2)) = false → BlI TL GT l who n al h p a od t H1 (i + 1) [some (V.ref l), some (V.int who), some (V.str n), some (V.str (hw al)), some (V.ref p), some (V.int ob.1)] H' := fun hc => by
        refine ⟨⟨_, rfl⟩, e, lk, ?_⟩
        rw [hstep, if_neg (by rw [hc]; simp), List.append_nil]; exact hf
      by_cases z1 : ob.1 = who
      · rw [if_neg (by simpa using z1)]
        exact hno (by simp [z1])
      · rw [if_pos z1]
        cases al with
        | true =>
          rw [if_pos (by decide)]
          exact hput (by simp [z1])
        | false =>
          rw [if_neg (by decide)]
          refine ⟨_, _, _, hl2, T.cL, T.fL _ (by simp), _, rfl, h, rfl, _, .inl ⟨kvH hs, .inr n, .inl hh2, rfl, by rw [val_hs, he0]; rfl⟩, a, by rw [ha0], _, .inl ⟨tabK t, .inl ob.1, .inr ⟨od, lk⟩, rfl, (val_tab hnk (List.mem_of_getElem? hti)).symm⟩, ?_⟩
          simp only [cx_K, gcx_K, lcx_K, LenV, rLenU, tTruU, kTup, tFld, sFld, sFldAug, tMet, tMake, tBM, tDGet, tDGet1, tDGet2, sDPut, tRevL, iEnum, tAug, tAsg, mulV_int, iaddU_int, isubU_int, iaddU_str, tTupL, ex2eq, not_true_eq_false, not_false_eq_true, LamX.tLam, LamX.TTold, tSeq, tIf, tNext, tRet, tRetN, tIfS, tTest, tB, tNot, tAnd, tOr, tChain, tOp, tUn, tC, tVar, tCons, tNil, tTup, tLst, tAsg, gName, gTup, gCons, gNil, gSub, tDrop, tCallS, tCB, tM1, tM0, tBM, tBM0, tSl, tPar, tFor_eq, tLc_eq, intU_int, intU_bl, iList, iTup, iEnumT, tDNewK, rSlT, rSlL, iRng1, iRng2, iStr, tThen, tNever, L2.start, tRaiseFile, tMkFile, tYes, tPart, tNoPart, addA_int, addA_str, addU_int, addU_str, addU_ref, subU_int, mulU_int, mulU_ref, fdvU_int, modU_int, powU_int, ltU_int, leU_int, gtU_int, geU_int, eqU_int, eqU_str, eqU_bl, neU_int, neU_str, neU_bl, WE, TruV, tDIn, tDNotIn, sDDel, tDSetd, tDPop1, tLock, tLockE, tLk, tLockA, tLockEA, iKeys, List.map, List.length_cons, List.length_nil, List.replicate, List.append, List.getElem?_cons_zero, List.getElem?_cons_succ, List.set_cons_zero, List.set_cons_succ, List.cons_append, List.nil_append, Option.some.injEq, V.int.injEq, V.str.injEq, V.bl.injEq, V.ref.injEq, List.cons.injEq, exists_eq_left, exists_eq_right, and_true, true_and, and_self, exists_eq, exists_const, Bool.not_true, Bool.not_false, Bool.false_eq_true, if_true, if_false, reduceIte, decide_eq_true_eq, bne_iff_ne, exists_eq_left', exists_eq', exists_and_left, Bool.not_eq_true', decide_eq_false_iff_not, Nat.reduceSub, Nat.reduceAdd, reduceCtorEq, false_and, or_false, false_or, exists_false]
          cases hb : ob.2 with
          | true =>
            rw [if_pos (by decide)]
            exact hput (by simp [z1, hb])
          | false =>
            rw [if_neg (by decide)]
            exact hno (by simp [hb])
  · rintro σ H' ⟨⟨v5, rfl⟩, e, lk, hf⟩
    refine .inr ⟨a, od, _, lk, fun o w z => ?_, ?_⟩
    · rcases hnF with y | y
      · rw [y] at z; cases z
      · rw [y] at z; cases z
    have e3 : Ex [p] TL GT H1 (upd H' a (.dK (tabK t))) := (e.unl lk (.inl (by simp))).home (by
      rcases hnF with y | y
      · exact .inl y
      · exact .inr ⟨_, y, upd_same⟩)
    have f3 : upd H' a (.dK (tabK t)) p = some (.dK (dkB (ded (blkA t who al)))) := by
      rw [upd_ne hap, hf]
      show some (HO.dK (dkB (ded (blkA (t.take (tabK t).length) who al)))) = _
      rw [List.take_of_length_le (by unfold tabK; simp)]
    generalize upd H' a (.dK (tabK t)) = H3 at e3 f3 ⊢
    have L3 := L1.keep e3 (fun x hx z => hpF (by rw [← List.mem_singleton.mp z]; exact hx))
    have hfin : ∀ (ks : List Int) (H5 : Hp) (l5 : List Int), Ex [p] TL GT H1 H5 → H5 p = some (.dK (dkB (ded l5))) → l5 = blkL (lkOf hs qs) who n al → l5.length < 64 → ∃ x, Rd H5 p (HO.dK x) ∧ ∃ x_1 : List Int, x.map (·.1) = x_1.map Sum.inl ∧ x_1.length < 64 ∧ ∀ (ys : List Int) (p : Addr), ys.Perm x_1 → ys.Pairwise (· ≤ ·) → H5 p = none → Q (.ref p) (upd H5 p (.lst (ys.map V.int))) := by
      intro ks H5 l5 e5 h5 hl5 hz5
      refine ⟨_, .inl h5, ded l5, by unfold dkB; rw [List.map_map]; rfl, Nat.lt_of_le_of_lt (ded_len l5) hz5, fun ys p5 hy1 hy2 hp5 => ?_⟩
      have e6 := (ex_behind e1 (B := [p]) (fun x hx => .inr (by rw [List.mem_singleton.mp hx]; exact free_none hp)) e5).add (o := .lst (ys.map V.int)) hp5
      refine hq p5 _ e6 ?_ ?_
      · rw [upd_same, srt_eq hy2 hy1, hl5]; rfl
      · exact ((ex_behind e1 (B := [p]) (fun x hx => .inr (by rw [List.mem_singleton.mp hx]; exact free_none hp)) e5).fresh (free_none hp5)).resolve_left (by simp)
    simp only [cx_K, gcx_K, lcx_K, LenV, rLenU, tTruU, kTup, tFld, sFld, sFldAug, tMet, tMake, tBM, tDGet, tDGet1, tDGet2, sDPut, tRevL, iEnum, tAug, tAsg, mulV_int, iaddU_int, isubU_int, iaddU_str, tTupL, ex2eq, not_true_eq_false, not_false_eq_true, LamX.tLam, LamX.TTold, tSeq, tIf, tNext, tRet, tRetN, tIfS, tTest, tB, tNot, tAnd, tOr, tChain, tOp, tUn, tC, tVar, tCons, tNil, tTup, tLst, tAsg, gName, gTup, gCons, gNil, gSub, tDrop, tCallS, tCB, tM1, tM0, tBM, tBM0, tSl, tPar, tFor_eq, tLc_eq, intU_int, intU_bl, iList, iTup, iEnumT, tDNewK, rSlT, rSlL, iRng1, iRng2, iStr, tThen, tNever, L2.start, tRaiseFile, tMkFile, tYes, tPart, tNoPart, addA_int, addA_str, addU_int, addU_str, addU_ref, subU_int, mulU_int, mulU_ref, fdvU_int, modU_int, powU_int, ltU_int, leU_int, gtU_int, geU_int, eqU_int, eqU_str, eqU_bl, neU_int, neU_str, neU_bl, WE, TruV, tDIn, tDNotIn, sDDel, tDSetd, tDPop1, tLock, tLockE, tLk, tLockA, tLockEA, iKeys, List.map, List.length_cons, List.length_nil, List.replicate, List.append, List.getElem?_cons_zero, List.getElem?_cons_succ, List.set_cons_zero, List.set_cons_succ, List.cons_append, List.nil_append, Option.some.injEq, V.int.injEq, V.str.injEq, V.bl.injEq, V.ref.injEq, List.cons.injEq, exists_eq_left, exists_eq_right, and_true, true_and, and_self, exists_eq, exists_const, Bool.not_true, Bool.not_false, Bool.false_eq_true, if_true, if_false, reduceIte, decide_eq_true_eq, bne_iff_ne, exists_eq_left', exists_eq', exists_and_left, Bool.not_eq_true', decide_eq_false_iff_not, Nat.reduceSub, Nat.reduceAdd, reduceCtorEq, false_and, or_false, false_or, exists_false]
    have hwho : ∀ o, o = valV (tabK t) (.inl who) → o.isSome = keyI t who := fun o ho => by rw [ho]; exact val_key t who
    refine ⟨_, _, L3.hl, rfl, l, n, dx, h, q, hs, qs, rfl, L3, fun a4 H4 e4 ha4 hQ4 => ⟨a4, rfl, _, .inl ⟨_, .inl who, .inl ha4, rfl, rfl⟩, ?_⟩⟩
    have L4 := L3.keep e4 (fun _ _ => by simp)
    have f4 : H4 p = some (.dK (dkB (ded (blkA t who al)))) := e4.ext _ _ (by simp) f3 (fun _ z => by cases z)
    have e04 := e3.trans (e4.mono (by simp))
    rw [ht, val_key]
    have hb20 : (blkA t who al).length ≤ 20 := by
      have a2 := blkA_len t who al
      have a3 := sz.2 n
      rw [ht] at a3
      omega
    cases hk : keyI t who with
    | true =>
      rw [if_neg (by decide)]
      exact hfin [] _ _ e04 f4 (by unfold blkL; rw [ht, hk, if_pos rfl, List.append_nil]) (by omega)
    | false =>
      rw [if_pos rfl]
      refine ⟨_, _, L4.hl, rfl, l, who, n, dx, h, q, hs, qs, rfl, L4, Nat.lt_of_le_of_lt (by have := sz.1; unfold lkOf at this; simpa using this) (show 20 < 1000 by decide), fun a5 H5 e5 ha5 hn5 => ⟨a5, rfl, ⟨_, lst_at ha5⟩, ?_⟩⟩
      have f5 : H5 p = some (.dK (dkB (ded (blkA t who al)))) := e5.ext _ _ (by simp) f4 (fun _ z => by cases z)
      have e05 := e04.trans (e5.mono (by simp))
      have ha20 : (aheadL (qs.map (·.2)) who n).length ≤ 20 := by
        have := aheadL_len (qs.map (·.2)) who n
        have z := sz.1
        unfold lkOf at z
        exact Nat.le_trans this z
      have n5p : a5 ≠ p := fun z => by rw [z, f5] at ha5; cases ha5
      generalize hal : aheadL (qs.map (·.2)) who n = xs at *
      refine loop_list (xs := xs.map V.int) (BlJ TL GT l who n al p a5 xs (blkA t who al) H1) ⟨⟨_, rfl⟩, e05, ha5, by rw [List.take_zero, List.append_nil]; exact f5⟩ (fun i σ H' _ I => lst_at I.lk) ?_ ?_
      · rintro i x σ H' hx ⟨⟨v5, rfl⟩, e, lk, hf⟩
        rw [List.getElem?_map] at hx
        cases hti : xs[i]? with
        | none => rw [hti] at hx; cases hx
        | some one =>
          rw [hti] at hx
          obtain rfl : V.int one = x := Option.some.inj hx
          have hlen : (ded (blkA t who al ++ xs.take i)).length ≤ 40 := by
            have a1 := ded_len (blkA t who al ++ xs.take i)
            rw [List.length_append, List.length_take] at a1
            omega
          simp only [cx_K, gcx_K, lcx_K, LenV, rLenU, tTruU, kTup, tFld, sFld, sFldAug, tMet, tMake, tBM, tDGet, tDGet1, tDGet2, sDPut, tRevL, iEnum, tAug, tAsg, mulV_int, iaddU_int, isubU_int, iaddU_str, tTupL, ex2eq, not_true_eq_false, not_false_eq_true, LamX.tLam, LamX.TTold, tSeq, tIf, tNext, tRet, tRetN, tIfS, tTest, tB, tNot, tAnd, tOr, tChain, tOp, tUn, tC, tVar, tCons, tNil, tTup, tLst, tAsg, gName, gTup, gCons, gNil, gSub, tDrop, tCallS, tCB, tM1, tM0, tBM, tBM0, tSl, tPar, tFor_eq, tLc_eq, intU_int, intU_bl, iList, iTup, iEnumT, tDNewK, rSlT, rSlL, iRng1, iRng2, iStr, tThen, tNever, L2.start, tRaiseFile, tMkFile, tYes, tPart, tNoPart, addA_int, addA_str, addU_int, addU_str, addU_ref, subU_int, mulU_int, mulU_ref, fdvU_int, modU_int, powU_int, ltU_int, leU_int, gtU_int, geU_int, eqU_int, eqU_str, eqU_bl, neU_int, neU_str, neU_bl, WE, TruV, tDIn, tDNotIn, sDDel, tDSetd, tDPop1, tLock, tLockE, tLk, tLockA, tLockEA, iKeys, List.map, List.length_cons, List.length_nil, List.replicate, List.append, List.getElem?_cons_zero, List.getElem?_cons_succ, List.set_cons_zero, List.set_cons_succ, List.cons_append, List.nil_append, Option.some.injEq, V.int.injEq, V.str.injEq, V.bl.injEq, V.ref.injEq, List.cons.injEq, exists_eq_left, exists_eq_right, and_true, true_and, and_self, exists_eq, exists_const, Bool.not_true, Bool.not_false, Bool.false_eq_true, if_true, if_false, reduceIte, decide_eq_true_eq, bne_iff_ne, exists_eq_left', exists_eq', exists_and_left, Bool.not_eq_true', decide_eq_false_iff_not, Nat.reduceSub, Nat.reduceAdd, reduceCtorEq, false_and, or_false, false_or, exists_false]
          refine ⟨_, DPut.k (k := .inl one) hf (by show (dkB _).length < _; unfold dkB; rw [List.length_map, sizeLine_eq]; omega), ⟨⟨_, rfl⟩, e.trans (Ex.put (by simp) hf rfl), ?_, ?_⟩⟩
          · rw [upd_ne n5p]; exact lk
          · rw [upd_same, List.take_succ, hti, Option.toList_some, ← List.append_assoc, ded_snoc, put_dkB]
      · rintro σ H' ⟨⟨v5, rfl⟩, e, lk, hf⟩
        simp only [cx_K, gcx_K, lcx_K, LenV, rLenU, tTruU, kTup, tFld, sFld, sFldAug, tMet, tMake, tBM, tDGet, tDGet1, tDGet2, sDPut, tRevL, iEnum, tAug, tAsg, mulV_int, iaddU_int, isubU_int, iaddU_str, tTupL, ex2eq, not_true_eq_false, not_false_eq_true, LamX.tLam, LamX.TTold, tSeq, tIf, tNext, tRet, tRetN, tIfS, tTest, tB, tNot, tAnd, tOr, tChain, tOp, tUn, tC, tVar, tCons, tNil, tTup, tLst, tAsg, gName, gTup, gCons, gNil, gSub, tDrop, tCallS, tCB, tM1, tM0, tBM, tBM0, tSl, tPar, tFor_eq, tLc_eq, intU_int, intU_bl, iList, iTup, iEnumT, tDNewK, rSlT, rSlL, iRng1, iRng2, iStr, tThen, tNever, L2.start, tRaiseFile, tMkFile, tYes, tPart, tNoPart, addA_int, addA_str, addU_int, addU_str, addU_ref, subU_int, mulU_int, mulU_ref, fdvU_int, modU_int, powU_int, ltU_int, leU_int, gtU_int, geU_int, eqU_int, eqU_str, eqU_bl, neU_int, neU_str, neU_bl, WE, TruV, tDIn, tDNotIn, sDDel, tDSetd, tDPop1, tLock, tLockE, tLk, tLockA, tLockEA, iKeys, List.map, List.length_cons, List.length_nil, List.replicate, List.append, List.getElem?_cons_zero, List.getElem?_cons_succ, List.set_cons_zero, List.set_cons_succ, List.cons_append, List.nil_append, Option.some.injEq, V.int.injEq, V.str.injEq, V.bl.injEq, V.ref.injEq, List.cons.injEq, exists_eq_left, exists_eq_right, and_true, true_and, and_self, exists_eq, exists_const, Bool.not_true, Bool.not_false, Bool.false_eq_true, if_true, if_false, reduceIte, decide_eq_true_eq, bne_iff_ne, exists_eq_left', exists_eq', exists_and_left, Bool.not_eq_true', decide_eq_false_iff_not, Nat.reduceSub, Nat.reduceAdd, reduceCtorEq, false_and, or_false, false_or, exists_false]
        rw [List.length_map, List.take_length] at hf
        exact hfin [] _ _ e hf (by unfold blkL; rw [ht, hk, if_neg (by decide)]; show _ = _ ++ aheadL (qs.map (·.2)) who n; rw [hal]) (by rw [List.length_append]; omega)
end
end KL
end
section
set_option Elab.async false
set_option linter.all false
set_option maxRecDepth 100000
set_option maxHeartbeats 2000000
set_option pp.maxSteps 900
namespace KL
open PySem PySem.Spec PyProof.Rows L2 GX
def setT (l : List (Str × Tab)) (n : Str) (t : Tab) : List (Str × Tab) := l.map fun e => if e.1 = n then (e.1, t) else e
def putI (t : Tab) (who : Int) (b : Bool) : Tab := if keyI t who = true then t.map (fun p => if p.1 = who then (p.1, b) else p) else t ++ [(who, b)]
def getI (t : Tab) (who : Int) : Option Bool := (t.find? fun p => decide (p.1 = who)).map (·.2)
def takeB (t : Tab) (who : Int) (al : Bool) : Bool := decide (getI t who = some true) || al
def newT (l : List (Str × Tab)) (n : Str) : List (Str × Tab) := if (getT l n).isSome = true then l else l ++ [(n, [])]
def takeL (v : Lk) (who : Int) (n : Str) (al : Bool) : Lk := { v with held := setT (newT v.held n) n (putI (hold v n) who (takeB (hold v n) who al)) }
section
variable {P : Program} {w : World} {K : PySem.W.Frag} {mg : Str → Option Value} {base : Heap} {CL PE : Addr} {TL : List (Addr × Str)} {GT : List Addr} {H H' : Hp} {h q l dx : Addr} {hs : List (Str × Addr × Tab)} {qs : List (Addr × Row)} {v : Lk} {F A : List Addr}
def setH (hs : List (Str × Addr × Tab)) (n : Str) (t : Tab) : List (Str × Addr × Tab) := hs.map fun e => if e.1 = n then (e.1, e.2.1, t) else e
theorem nodup_inj {α β : Type} {f : α → β} : ∀ {l : List α} {x y : α}, (l.map f).Nodup → x ∈ l → y ∈ l → f x = f y → x = y
  | [], _, _, _, h, _, _ => by cases h
  | a :: l, x, y, nd, hx, hy, e => by
    rw [List.map_cons, List.nodup_cons] at nd
    rcases List.mem_cons.mp hx with rfl | hx
    · rcases List.mem_cons.mp hy with z | hy
      · exact z.symm
      · exact absurd (List.mem_map.mpr ⟨y, hy, e.symm⟩) nd.1
    · rcases List.mem_cons.mp hy with z | hy
      · exact absurd (List.mem_map.mpr ⟨x, hx, by rw [e, z]⟩) nd.1
      · exact nodup_inj nd.2 hx hy e
theorem setH_fst (hs : List (Str × Addr × Tab)) (n : Str) (t : Tab) : (setH hs n t).map (·.1) = hs.map (·.1) := by
  unfold setH; rw [List.map_map]; refine List.map_congr_left fun e _ => ?_
  show (if e.1 = n then _ else e).1 = e.1
  split <;> rfl
theorem setH_adr (hs : List (Str × Addr × Tab)) (n : Str) (t : Tab) : (setH hs n t).map (·.2.1) = hs.map (·.2.1) := by
  unfold setH; rw [List.map_map]; refine List.map_congr_left fun e _ => ?_
  show (if e.1 = n then _ else e).2.1 = e.2.1
  split <;> rfl
theorem setH_kv (hs : List (Str × Addr × Tab)) (n : Str) (t : Tab) : kvH (setH hs n t) = kvH hs := by
  unfold setH kvH; rw [List.map_map]; refine List.map_congr_left fun e _ => ?_
  show ((Sum.inr (if e.1 = n then (e.1, e.2.1, t) else e).1 : Key), V.ref (if e.1 = n then (e.1, e.2.1, t) else e).2.1) = _
  split <;> rfl
theorem setH_lk (hs : List (Str × Addr × Tab)) (qs : List (Addr × Row)) (n : Str) (t : Tab) : lkOf (setH hs n t) qs = { lkOf hs qs with held := setT (lkOf hs qs).held n t } := by
  unfold lkOf setH setT
  simp only [List.map_map]
  congr 1
  refine List.map_congr_left fun e _ => ?_
  show ((if e.1 = n then (e.1, e.2.1, t) else e).1, (if e.1 = n then (e.1, e.2.1, t) else e).2.2) = if e.1 = n then (e.1, t) else (e.1, e.2.2)
  split <;> rfl
/-- one name's table changes -/
theorem Co.setTab (C : Co K H h q hs qs) {e : Str × Addr × Tab} (he : e ∈ hs) {t : Tab} (hk : (t.map (·.1)).Nodup) : Co K (upd H e.2.1 (.dK (tabK t))) h q (setH hs e.1 t) qs := by
  obtain ⟨hh, hq, ht, hr, nh, nq, nn, nk, nm⟩ := C
  have e1 : Ex [e.2.1] [] [] H (upd H e.2.1 (.dK (tabK t))) := Ex.put (by simp) (ht e he) rfl
  have nhe : h ≠ e.2.1 := fun z => nn (by rw [z]; exact List.mem_map.mpr ⟨e, he, rfl⟩)
  have nqe : q ≠ e.2.1 := fun z => by rw [z, ht e he] at hq; cases hq
  have key : ∀ x ∈ hs, x.1 = e.1 → x = e := fun x hx z => nodup_inj nm hx he z
  have adr : ∀ x ∈ hs, x.2.1 = e.2.1 → x = e := fun x hx z => nodup_inj nh hx he z
  refine ⟨by rw [upd_ne nhe, hh]; exact congrArg some (congrArg HO.dK (setH_kv hs e.1 t).symm), by rw [upd_ne nqe]; exact hq, fun x hx => ?_, fun x hx => e1.tup _ _ (hr x hx), by rw [setH_adr]; exact nh, nq, by rw [setH_adr]; exact nn, fun x hx => ?_, by rw [setH_fst]; exact nm⟩
  · obtain ⟨y, hy, rfl⟩ := List.mem_map.mp hx
    show upd H e.2.1 (.dK (tabK t)) (if y.1 = e.1 then (y.1, y.2.1, t) else y).2.1 = _
    by_cases z : y.1 = e.1
    · rw [if_pos z]
      rw [key y hy z]
      exact upd_same
    · rw [if_neg z, upd_ne (fun z2 => z (by rw [adr y hy z2]))]
      exact ht y hy
  · obtain ⟨y, hy, rfl⟩ := List.mem_map.mp hx
    show ((if y.1 = e.1 then (y.1, y.2.1, t) else y).2.2.map (·.1)).Nodup
    split
    · exact hk
    · exact nk y hy
/-- a new name -/
theorem Co.newName (C : Co K H h q hs qs) {n : Str} {p : Addr} (hp : H p = some (.dK [])) (hn : fh hs n = none) (hpF : p ∉ fpOf h q hs) : Co K (upd H h (.dK (putK (kvH hs) (.inr n) (.ref p)))) h q (hs ++ [(n, p, [])]) qs := by
  obtain ⟨hh, hq, ht, hr, nh, nq, nn, nk, nm⟩ := C
  simp only [fpOf, List.mem_cons, not_or] at hpF
  obtain ⟨p1, p2, p3⟩ := hpF
  have e1 : Ex [h] [] [] H (upd H h (.dK (putK (kvH hs) (.inr n) (.ref p)))) := Ex.put (by simp) hh rfl
  have nqh : q ≠ h := fun z => by rw [z, hh] at hq; cases hq
  have nin : ∀ x ∈ hs, x.1 ≠ n := fun x hx z => by
    have := List.find?_eq_none.mp hn x hx
    simp [z] at this
  refine ⟨?_, by rw [upd_ne nqh]; exact hq, fun x hx => ?_, fun x hx => e1.tup _ _ (hr x hx), ?_, nq, ?_, fun x hx => ?_, ?_⟩
  · rw [upd_same, putK_new (v := .ref p) (by rw [val_hs, hn]; rfl)]
    unfold kvH
    rw [List.map_append]; rfl
  · rcases List.mem_append.mp hx with hx | hx
    · rw [upd_ne (fun z => nn (by rw [← z]; exact List.mem_map.mpr ⟨x, hx, rfl⟩))]; exact ht x hx
    · rw [List.mem_singleton.mp hx]
      show upd H h _ p = _
      rw [upd_ne p1]; exact hp
  · rw [List.map_append]
    exact List.nodup_append.mpr ⟨nh, (List.pairwise_singleton _ _), fun a ha b hb z => by
      have hb' : b = p := List.mem_singleton.mp hb
      exact p3 (by rw [← hb', ← z]; exact ha)⟩
  · rw [List.map_append, List.mem_append]
    rintro (z | z)
    · exact nn z
    · exact p1 (List.mem_singleton.mp z).symm
  · rcases List.mem_append.mp hx with hx | hx
    · exact nk x hx
    · rw [List.mem_singleton.mp hx]; exact .nil
  · rw [List.map_append]
    exact List.nodup_append.mpr ⟨nm, (List.pairwise_singleton _ _), fun a ha b hb z => by
      obtain ⟨x, hx, hxa⟩ := List.mem_map.mp ha
      have hb' : b = n := List.mem_singleton.mp hb
      exact nin x hx (by rw [hxa, z, hb'])⟩
theorem put_tab (t : Tab) (who : Int) (b : Bool) : putK (tabK t) (.inl who) (.str (hw b)) = tabK (putI t who b) := by
  unfold putK putI
  have h : ((tabK t).any fun kv => decide (kv.1 = .inl who)) = keyI t who := by
    unfold tabK keyI
    rw [List.any_map]
    congr 1
    funext x
    show decide ((Sum.inl x.1 : Key) = .inl who) = decide (x.1 = who)
    simp
  rw [h]
  split
  · unfold tabK
    rw [List.map_map, List.map_map]
    refine List.map_congr_left fun x _ => ?_
    show (if (Sum.inl x.1 : Key) = .inl who then ((Sum.inl x.1 : Key), V.str (hw b)) else (Sum.inl x.1, V.str (hw x.2))) = (Sum.inl (if x.1 = who then (x.1, b) else x).1, V.str (hw (if x.1 = who then (x.1, b) else x).2))
    by_cases z : x.1 = who
    · rw [if_pos (by rw [z]), if_pos z]
    · rw [if_neg (fun y => z (Sum.inl.inj y)), if_neg z]
  · unfold tabK
    rw [List.map_append]; rfl
theorem val_getI (t : Tab) (who : Int) : valV (tabK t) (.inl who) = (getI t who).map fun b => V.str (hw b) := by
  induction t with
  | nil => rfl
  | cons x t ih =>
    unfold tabK getI
    rw [List.map_cons]
    by_cases z : x.1 = who
    · rw [valV_pos (by rw [z]), List.find?_cons_of_pos (by simpa using z)]; rfl
    · rw [valV_neg (fun y => z (Sum.inl.inj y)), List.find?_cons_of_neg (by simpa using z)]; exact ih
theorem take_fin {a : Addr} {t : Tab} {who : Int} {al : Bool} {R : Hp → Prop} (ha : H a = some (.dK (tabK t))) (hz : t.length < 1000) (hR : R (upd H a (.dK (tabK (putI t who (takeB t who al)))))) :
    ∃ o, DGet H a (V.int who) o ∧ rEqU K (o.getD V.non) (V.str ("alone" : Str)) H fun x H' => ∃ k, x = V.bl k ∧ if k = true then ∃ x, DPut H' a (V.int who) (V.str ("alone" : Str)) x ∧ R x else ∃ x, DPut H' a (V.int who) (V.str (hw al)) x ∧ R x := by
  have hz2 : (tabK t).length < sizeLine := by unfold tabK; rw [List.length_map, sizeLine_eq]; omega
  refine ⟨valV (tabK t) (.inl who), .inl ⟨tabK t, .inl who, .inl ha, rfl, rfl⟩, ?_⟩
  rw [val_getI]
  have p1 := put_tab t who
  unfold takeB at hR
  cases hg : getI t who with
  | none =>
    rw [hg] at hR
    refine ⟨rfl, false, rfl, ?_⟩
    rw [if_neg (by decide)]
    refine ⟨_, DPut.k (k := .inl who) ha hz2, ?_⟩
    rw [p1]
    simpa using hR
  | some b =>
    rw [hg] at hR
    refine ⟨_, rfl, ?_⟩
    rw [hw_eq]
    cases b with
    | true =>
      rw [if_pos rfl]
      refine ⟨_, DPut.k (k := .inl who) ha hz2, ?_⟩
      rw [show (V.str ("alone" : Str)) = V.str (hw true) from rfl, p1]
      simpa using hR
    | false =>
      rw [if_neg (by decide)]
      refine ⟨_, DPut.k (k := .inl who) ha hz2, ?_⟩
      rw [p1]
      simpa using hR
theorem putI_nodup {t : Tab} (h : (t.map (·.1)).Nodup) (who : Int) (b : Bool) : ((putI t who b).map (·.1)).Nodup := by
  unfold putI
  split
  · rw [List.map_map]
    have : (t.map ((fun x => x.1) ∘ fun p => if p.1 = who then (p.1, b) else p)) = t.map (·.1) := by
      refine List.map_congr_left fun x _ => ?_
      show (if x.1 = who then (x.1, b) else x).1 = x.1
      split <;> rfl
    rw [this]; exact h
  · rename_i hk
    rw [List.map_append]
    exact List.nodup_append.mpr ⟨h, (List.pairwise_singleton _ _), fun a ha c hc z => by
      obtain ⟨x, hx, hxa⟩ := List.mem_map.mp ha
      have hc' : c = who := List.mem_singleton.mp hc
      exact hk (List.any_eq_true.mpr ⟨x, hx, by simp [hxa, z, hc']⟩)⟩
/-- what a step leaves of the locks -/
structure AftL (K : PySem.W.Frag) (CL : Addr) (TL : List (Addr × Str)) (GT : List Addr) (H : Hp) (l dx h q : Addr) (F : List Addr) (v : Lk) (qs : List (Addr × Row)) (H' : Hp) : Prop where
  e : Ex F TL GT H H'
  at_ : ∃ hs, v = lkOf hs qs ∧ LP K CL H' l dx h q hs qs ∧ ∀ a ∈ l :: fpOf h q hs, a ∈ F ∨ free H a
def spTake (K : PySem.W.Frag) (CL : Addr) (TL : List (Addr × Str)) (GT : List Addr) : Sp := fun vs H Q E => ∃ l who n al dx h q hs qs, vs = [.ref l, .int who, .str n, .str (hw al)] ∧ LP K CL H l dx h q hs qs ∧ Sz (lkOf hs qs) ∧ hs.length ≤ 20 ∧
  ∀ H', AftL K CL TL GT H l dx h q (l :: fpOf h q hs) (takeL (lkOf hs qs) who n al) qs H' → Q .non H'
theorem m_take (T : KL.Txt P w K mg base CL PE TL GT) : Met P w K mg base 3 CL "take" [] (spTake K CL TL GT) := by
  obtain ⟨f, fd, c, D, hm⟩ := T.l_take
  refine met_of T.cL hm ?_ (D.bind0 (ps := ["self", "who", "name", "how"]) (fun _ _ _ _ _ _ us hl => match us, hl with | [_, _, _, _], _ => rfl))
  refine D.okF (N := ["self", "who", "name", "how", "table"]) (ps := ["self", "who", "name", "how"]) ⟨rfl, rfl, rfl, by decide +kernel, rfl, by decide +kernel, by decide +kernel⟩ (fun vs H Q E h => by first | (obtain ⟨_, rfl, _⟩ := h; rfl) | (obtain ⟨_, _, rfl, _⟩ := h; rfl) | (obtain ⟨_, _, _, rfl, _⟩ := h; rfl) | (obtain ⟨_, _, _, _, rfl, _⟩ := h; rfl) | (obtain ⟨_, _, _, _, _, rfl, _⟩ := h; rfl) | (obtain ⟨_, _, _, _, _, _, rfl, _⟩ := h; rfl) | (obtain ⟨_, _, _, _, _, _, _, rfl, _⟩ := h; rfl) | (obtain ⟨_, _, _, _, _, _, _, _, rfl, _⟩ := h; rfl) | (obtain ⟨_, _, _, _, _, _, _, _, _, rfl, _⟩ := h; rfl) | (obtain ⟨_, _, _, _, _, _, _, _, _, _, rfl, _⟩ := h; rfl) | (obtain ⟨_, _, _, _, _, _, _, _, _, _, _, rfl, _⟩ := h; rfl) | (obtain ⟨_, _, _, _, _, _, _, _, _, _, _, _, rfl, _⟩ := h; rfl) | (obtain ⟨_, _, _, _, _, _, _, _, _, _, _, _, _, rfl, _⟩ := h; rfl) | (obtain ⟨_, _, _, _, _, _, _, _, _, _, _, _, _, _, rfl, _⟩ := h; rfl) | (obtain ⟨_, _, _, _, _, _, _, _, _, _, _, _, _, _, _, rfl, _⟩ := h; rfl) | (obtain ⟨rfl, _⟩ := h; rfl)) (fun A outer s H vs Q E hr h => ?_)
  have nd : (["self", "who", "name", "how", "table"] : List Str).Nodup := by decide
  refine mk_ex (pss_cons (ps_set (i := 4) nd rfl (Or.inl rfl) (pe_dsetd (fldK (K := K) rfl (pe_fld (pv 0) rfl)) (pv 2) pe_dnewK ⟨rfl, rfl, rfl, rfl⟩))
    (pss_one (ps_dput (roomD hr) (pv 4) (pv 1) (pe_ifExp (pt_cmpR (opK (K := K) (r := rEqU) (opU_eq (roomEq hr)) rfl) (pe_dget1 (roomD hr) (pv 4) (pv 1) ⟨rfl, rfl, rfl, rfl⟩) pe_str (nomark _)) pe_str (pv 3)) rfl))) ?_
  obtain ⟨l, who, n, al, dx, h, q, hs, qs, rfl, L, sz, hz, hq⟩ := h
  simp only [cx_K, gcx_K, lcx_K, LenV, rLenU, tTruU, kTup, tFld, sFld, sFldAug, tMet, tMake, tBM, tDGet, tDGet1, tDGet2, sDPut, tRevL, iEnum, tAug, tAsg, mulV_int, iaddU_int, isubU_int, iaddU_str, tTupL, ex2eq, not_true_eq_false, not_false_eq_true, LamX.tLam, LamX.TTold, tSeq, tIf, tNext, tRet, tRetN, tIfS, tTest, tB, tNot, tAnd, tOr, tChain, tOp, tUn, tC, tVar, tCons, tNil, tTup, tLst, tAsg, gName, gTup, gCons, gNil, gSub, tDrop, tCallS, tCB, tM1, tM0, tBM, tBM0, tSl, tPar, tFor_eq, tLc_eq, intU_int, intU_bl, iList, iTup, iEnumT, tDNewK, rSlT, rSlL, iRng1, iRng2, iStr, tThen, tNever, L2.start, tRaiseFile, tMkFile, tYes, tPart, tNoPart, addA_int, addA_str, addU_int, addU_str, addU_ref, subU_int, mulU_int, mulU_ref, fdvU_int, modU_int, powU_int, ltU_int, leU_int, gtU_int, geU_int, eqU_int, eqU_str, eqU_bl, neU_int, neU_str, neU_bl, WE, TruV, tDIn, tDNotIn, sDDel, tDSetd, tDPop1, tLock, tLockE, tLk, tLockA, tLockEA, iKeys, List.map, List.length_cons, List.length_nil, List.replicate, List.append, List.getElem?_cons_zero, List.getElem?_cons_succ, List.set_cons_zero, List.set_cons_succ, List.cons_append, List.nil_append, Option.some.injEq, V.int.injEq, V.str.injEq, V.bl.injEq, V.ref.injEq, List.cons.injEq, exists_eq_left, exists_eq_right, and_true, true_and, and_self, exists_eq, exists_const, Bool.not_true, Bool.not_false, Bool.false_eq_true, if_true, if_false, reduceIte, decide_eq_true_eq, bne_iff_ne, exists_eq_left', exists_eq', exists_and_left, Bool.not_eq_true', decide_eq_false_iff_not, Nat.reduceSub, Nat.reduceAdd, reduceCtorEq, false_and, or_false, false_or, exists_false]
  refine ⟨_, _, _, L.hl, T.cL, T.fL _ (by simp), _, rfl, ?_⟩; try simp only [cx_K, gcx_K, lcx_K, LenV, rLenU, tTruU, kTup, tFld, sFld, sFldAug, tMet, tMake, tBM, tDGet, tDGet1, tDGet2, sDPut, tRevL, iEnum, tAug, tAsg, mulV_int, iaddU_int, isubU_int, iaddU_str, tTupL, ex2eq, not_true_eq_false, not_false_eq_true, LamX.tLam, LamX.TTold, tSeq, tIf, tNext, tRet, tRetN, tIfS, tTest, tB, tNot, tAnd, tOr, tChain, tOp, tUn, tC, tVar, tCons, tNil, tTup, tLst, tAsg, gName, gTup, gCons, gNil, gSub, tDrop, tCallS, tCB, tM1, tM0, tBM, tBM0, tSl, tPar, tFor_eq, tLc_eq, intU_int, intU_bl, iList, iTup, iEnumT, tDNewK, rSlT, rSlL, iRng1, iRng2, iStr, tThen, tNever, L2.start, tRaiseFile, tMkFile, tYes, tPart, tNoPart, addA_int, addA_str, addU_int, addU_str, addU_ref, subU_int, mulU_int, mulU_ref, fdvU_int, modU_int, powU_int, ltU_int, leU_int, gtU_int, geU_int, eqU_int, eqU_str, eqU_bl, neU_int, neU_str, neU_bl, WE, TruV, tDIn, tDNotIn, sDDel, tDSetd, tDPop1, tLock, tLockE, tLk, tLockA, tLockEA, iKeys, List.map, List.length_cons, List.length_nil, List.replicate, List.append, List.getElem?_cons_zero, List.getElem?_cons_succ, List.set_cons_zero, List.set_cons_succ, List.cons_append, List.nil_append, Option.some.injEq, V.int.injEq, V.str.injEq, V.bl.injEq, V.ref.injEq, List.cons.injEq, exists_eq_left, exists_eq_right, and_true, true_and, and_self, exists_eq, exists_const, Bool.not_true, Bool.not_false, Bool.false_eq_true, if_true, if_false, reduceIte, decide_eq_true_eq, bne_iff_ne, exists_eq_left', exists_eq', exists_and_left, Bool.not_eq_true', decide_eq_false_iff_not, Nat.reduceSub, Nat.reduceAdd, reduceCtorEq, false_and, or_false, false_or, exists_false]
  refine ⟨.inl ⟨_, .inl L.co.hh⟩, fun p hp => ?_⟩
  have hpF := L.notin hp
  have e1 : Ex [] TL GT H (upd H p (.dK [])) := Ex.new hp
  have p1 : upd H p (.dK []) p = some (.dK []) := upd_same
  have L1 := L.keep e1 (fun _ _ => by simp)
  have t20 := sz.2 n
  generalize upd H p (.dK []) = H1 at e1 p1 L1 ⊢
  refine ⟨kvH hs, L1.co.hh, .inr n, rfl, by show (kvH hs).length < _; unfold kvH; rw [List.length_map, sizeLine_eq]; omega, fun v hv => ?_, fun hv => ?_⟩
  · rw [val_hs] at hv
    cases hf : fh hs n with
    | none => rw [hf] at hv; cases hv
    | some e =>
      rw [hf] at hv
      obtain rfl : V.ref e.2.1 = v := Option.some.inj hv
      obtain ⟨he, hen⟩ := fh_mem hf
      have ht : hold (lkOf hs qs) n = e.2.2 := by rw [hold_fh, hf]; rfl
      rw [ht] at t20
      refine ⟨_, rfl, .inl ⟨_, .inl (L1.co.ht e he)⟩, ?_⟩
      simp only [cx_K, gcx_K, lcx_K, LenV, rLenU, tTruU, kTup, tFld, sFld, sFldAug, tMet, tMake, tBM, tDGet, tDGet1, tDGet2, sDPut, tRevL, iEnum, tAug, tAsg, mulV_int, iaddU_int, isubU_int, iaddU_str, tTupL, ex2eq, not_true_eq_false, not_false_eq_true, LamX.tLam, LamX.TTold, tSeq, tIf, tNext, tRet, tRetN, tIfS, tTest, tB, tNot, tAnd, tOr, tChain, tOp, tUn, tC, tVar, tCons, tNil, tTup, tLst, tAsg, gName, gTup, gCons, gNil, gSub, tDrop, tCallS, tCB, tM1, tM0, tBM, tBM0, tSl, tPar, tFor_eq, tLc_eq, intU_int, intU_bl, iList, iTup, iEnumT, tDNewK, rSlT, rSlL, iRng1, iRng2, iStr, tThen, tNever, L2.start, tRaiseFile, tMkFile, tYes, tPart, tNoPart, addA_int, addA_str, addU_int, addU_str, addU_ref, subU_int, mulU_int, mulU_ref, fdvU_int, modU_int, powU_int, ltU_int, leU_int, gtU_int, geU_int, eqU_int, eqU_str, eqU_bl, neU_int, neU_str, neU_bl, WE, TruV, tDIn, tDNotIn, sDDel, tDSetd, tDPop1, tLock, tLockE, tLk, tLockA, tLockEA, iKeys, List.map, List.length_cons, List.length_nil, List.replicate, List.append, List.getElem?_cons_zero, List.getElem?_cons_succ, List.set_cons_zero, List.set_cons_succ, List.cons_append, List.nil_append, Option.some.injEq, V.int.injEq, V.str.injEq, V.bl.injEq, V.ref.injEq, List.cons.injEq, exists_eq_left, exists_eq_right, and_true, true_and, and_self, exists_eq, exists_const, Bool.not_true, Bool.not_false, Bool.false_eq_true, if_true, if_false, reduceIte, decide_eq_true_eq, bne_iff_ne, exists_eq_left', exists_eq', exists_and_left, Bool.not_eq_true', decide_eq_false_iff_not, Nat.reduceSub, Nat.reduceAdd, reduceCtorEq, false_and, or_false, false_or, exists_false]
      have hmem : e.2.1 ∈ l :: fpOf h q hs := by
        simp only [fpOf, List.mem_cons, List.mem_map]; exact .inr (.inr (.inr ⟨e, he, rfl⟩))
      refine take_fin (L1.co.ht e he) (by omega) (hq _ ⟨(e1.any).chg (L1.co.ht e he) rfl (.inl hmem), setH hs e.1 (putI e.2.2 who (takeB e.2.2 who al)), ?_, ⟨?_, L1.co.setTab he (putI_nodup (L.co.nk e he) _ _)⟩, fun a ha => .inl ?_⟩)
      · rw [setH_lk, hen]
        unfold takeL newT
        rw [if_pos (by unfold lkOf; rw [get_fh, hf]; rfl), ht]
      · rw [upd_ne (fun z => by have := L1.co.ht e he; rw [← z, L1.hl] at this; cases this)]; exact L1.hl
      · unfold fpOf at ha ⊢
        rw [setH_adr] at ha; exact ha
  · rw [val_hs] at hv
    have hf : fh hs n = none := by
      cases hf : fh hs n with
      | none => rfl
      | some e => rw [hf] at hv; cases hv
    have ht : hold (lkOf hs qs) n = [] := by rw [hold_fh, hf]; rfl
    have C2 := L1.co.newName p1 hf (fun z => hpF (List.mem_cons_of_mem _ z))
    have hph : p ≠ h := fun z => hpF (by rw [z]; simp [fpOf])
    have p2 : upd H1 h (.dK (putK (kvH hs) (.inr n) (.ref p))) p = some (.dK (tabK [])) := by rw [upd_ne hph]; exact p1
    have e2 : Ex (l :: fpOf h q hs) TL GT H (upd H1 h (.dK (putK (kvH hs) (.inr n) (.ref p)))) := (e1.any).chg L1.co.hh rfl (.inl (by simp [fpOf]))
    have l2 : upd H1 h (.dK (putK (kvH hs) (.inr n) (.ref p))) l = some (.ins CL dx [("held", .ref h), ("queue", .ref q)]) := by
      rw [upd_ne (fun z => by have := L1.co.hh; rw [← z, L1.hl] at this; cases this)]; exact L1.hl
    generalize upd H1 h (.dK (putK (kvH hs) (.inr n) (.ref p))) = H2 at *
    refine ⟨.inl ⟨_, .inl p2⟩, ?_⟩
    try simp only [cx_K, gcx_K, lcx_K, LenV, rLenU, tTruU, kTup, tFld, sFld, sFldAug, tMet, tMake, tBM, tDGet, tDGet1, tDGet2, sDPut, tRevL, iEnum, tAug, tAsg, mulV_int, iaddU_int, isubU_int, iaddU_str, tTupL, ex2eq, not_true_eq_false, not_false_eq_true, LamX.tLam, LamX.TTold, tSeq, tIf, tNext, tRet, tRetN, tIfS, tTest, tB, tNot, tAnd, tOr, tChain, tOp, tUn, tC, tVar, tCons, tNil, tTup, tLst, tAsg, gName, gTup, gCons, gNil, gSub, tDrop, tCallS, tCB, tM1, tM0, tBM, tBM0, tSl, tPar, tFor_eq, tLc_eq, intU_int, intU_bl, iList, iTup, iEnumT, tDNewK, rSlT, rSlL, iRng1, iRng2, iStr, tThen, tNever, L2.start, tRaiseFile, tMkFile, tYes, tPart, tNoPart, addA_int, addA_str, addU_int, addU_str, addU_ref, subU_int, mulU_int, mulU_ref, fdvU_int, modU_int, powU_int, ltU_int, leU_int, gtU_int, geU_int, eqU_int, eqU_str, eqU_bl, neU_int, neU_str, neU_bl, WE, TruV, tDIn, tDNotIn, sDDel, tDSetd, tDPop1, tLock, tLockE, tLk, tLockA, tLockEA, iKeys, List.map, List.length_cons, List.length_nil, List.replicate, List.append, List.getElem?_cons_zero, List.getElem?_cons_succ, List.set_cons_zero, List.set_cons_succ, List.cons_append, List.nil_append, Option.some.injEq, V.int.injEq, V.str.injEq, V.bl.injEq, V.ref.injEq, List.cons.injEq, exists_eq_left, exists_eq_right, and_true, true_and, and_self, exists_eq, exists_const, Bool.not_true, Bool.not_false, Bool.false_eq_true, if_true, if_false, reduceIte, decide_eq_true_eq, bne_iff_ne, exists_eq_left', exists_eq', exists_and_left, Bool.not_eq_true', decide_eq_false_iff_not, Nat.reduceSub, Nat.reduceAdd, reduceCtorEq, false_and, or_false, false_or, exists_false]
    refine take_fin p2 (by simp) (hq _ ⟨e2.chg p2 rfl (.inr (free_none hp)), setH (hs ++ [(n, p, [])]) n (putI [] who (takeB [] who al)), ?_, ⟨?_, C2.setTab (e := (n, p, [])) (by simp) (putI_nodup (t := []) .nil _ _)⟩, fun a ha => ?_⟩)
    · rw [setH_lk]
      unfold takeL newT
      rw [if_neg (by unfold lkOf; rw [get_fh, hf]; simp), ht]
      unfold lkOf
      simp
    · rw [upd_ne (fun z => by rw [← z, l2] at p2; cases p2)]; exact l2
    · unfold fpOf at ha
      rw [setH_adr, List.map_append] at ha
      simp only [List.mem_cons, List.mem_append, List.map_cons, List.map_nil, List.not_mem_nil, or_false] at ha
      rcases ha with rfl | rfl | rfl | ha | rfl
      · exact .inl (by simp)
      · exact .inl (by simp [fpOf])
      · exact .inl (by simp [fpOf])
      · exact .inl (by simp only [fpOf, List.mem_cons]; exact .inr (.inr (.inr ha)))
      · exact .inr (free_none hp)
end
end KL
end
section
set_option Elab.async false
set_option linter.all false
set_option maxRecDepth 100000
set_option maxHeartbeats 2000000
set_option pp.maxSteps 900
namespace KL
open PySem PySem.Spec PyProof.Rows L2 GX
def waitsL (v : Lk) (who : Int) : List Int := match v.queue.find? fun r => decide (r.1 = who) with
  | some r => blk v who r.2.1 r.2.2
  | none => []
section
variable {P : Program} {w : World} {K : PySem.W.Frag} {mg : Str → Option Value} {base : Heap} {CL PE : Addr} {TL : List (Addr × Str)} {GT : List Addr} {H H' : Hp} {h q l dx : Addr} {hs : List (Str × Addr × Tab)} {qs : List (Addr × Row)} {v : Lk} {F A : List Addr}
theorem waits_some {who : Int} {r : Row} (h : (qs.map (·.2)).find? (fun r => decide (r.1 = who)) = some r) : waitsL (lkOf hs qs) who = blk (lkOf hs qs) who r.2.1 r.2.2 := by
  unfold waitsL
  rw [show (lkOf hs qs).queue = qs.map (·.2) from rfl, h]
theorem waits_none {who : Int} (h : (qs.map (·.2)).find? (fun r => decide (r.1 = who)) = none) : waitsL (lkOf hs qs) who = [] := by
  unfold waitsL
  rw [show (lkOf hs qs).queue = qs.map (·.2) from rfl, h]
def spWaits (K : PySem.W.Frag) (CL : Addr) (TL : List (Addr × Str)) (GT : List Addr) : Sp := fun vs H Q E => ∃ l who dx h q hs qs, vs = [.ref l, .int who] ∧ LP K CL H l dx h q hs qs ∧ Sz (lkOf hs qs) ∧
  ∀ a H', Ex [] TL GT H H' → H' a = some (.lst ((waitsL (lkOf hs qs) who).map V.int)) → free H a → Q (.ref a) H'
structure WaI (TL : List (Addr × Str)) (GT : List Addr) (l : Addr) (who : Int) (H : Hp) (rows : List Row) (i : Nat) (σ : L2.St) (H' : Hp) : Prop where
  s : ∃ v2 v3 v4, σ = [some (.ref l), some (.int who), v2, v3, v4]
  e : Ex [] TL GT H H'
  f : (rows.drop i).find? (fun r => decide (r.1 = who)) = rows.find? fun r => decide (r.1 = who)
theorem m_waits (T : KL.Txt P w K mg base CL PE TL GT) : Met P w K mg base 7 CL "waits_for" [] (spWaits K CL TL GT) := by
  have m_Locks_blockers := m_blk T
  obtain ⟨f, fd, c, D, hm⟩ := T.l_waits
  refine met_of T.cL hm ?_ (D.bind0 (ps := ["self", "who"]) (fun _ _ _ _ _ _ us hl => match us, hl with | [_, _], _ => rfl))
  refine D.okF (N := ["self", "who", "one", "name", "how"]) (ps := ["self", "who"]) ⟨rfl, rfl, rfl, by decide +kernel, rfl, by decide +kernel, by decide +kernel⟩ (fun vs H Q E h => by first | (obtain ⟨_, rfl, _⟩ := h; rfl) | (obtain ⟨_, _, rfl, _⟩ := h; rfl) | (obtain ⟨_, _, _, rfl, _⟩ := h; rfl) | (obtain ⟨_, _, _, _, rfl, _⟩ := h; rfl) | (obtain ⟨_, _, _, _, _, rfl, _⟩ := h; rfl) | (obtain ⟨_, _, _, _, _, _, rfl, _⟩ := h; rfl) | (obtain ⟨_, _, _, _, _, _, _, rfl, _⟩ := h; rfl) | (obtain ⟨_, _, _, _, _, _, _, _, rfl, _⟩ := h; rfl) | (obtain ⟨_, _, _, _, _, _, _, _, _, rfl, _⟩ := h; rfl) | (obtain ⟨_, _, _, _, _, _, _, _, _, _, rfl, _⟩ := h; rfl) | (obtain ⟨_, _, _, _, _, _, _, _, _, _, _, rfl, _⟩ := h; rfl) | (obtain ⟨_, _, _, _, _, _, _, _, _, _, _, _, rfl, _⟩ := h; rfl) | (obtain ⟨_, _, _, _, _, _, _, _, _, _, _, _, _, rfl, _⟩ := h; rfl) | (obtain ⟨_, _, _, _, _, _, _, _, _, _, _, _, _, _, rfl, _⟩ := h; rfl) | (obtain ⟨_, _, _, _, _, _, _, _, _, _, _, _, _, _, _, rfl, _⟩ := h; rfl) | (obtain ⟨rfl, _⟩ := h; rfl)) (fun A outer s H vs Q E hr h => ?_)
  have nd : (["self", "who", "one", "name", "how"] : List Str).Nodup := by decide
  refine mk_ex (pss_cons (ps_for (passes_of rfl) rfl (ilK (K := K) rfl (pi_list (fldK (K := K) rfl (pe_fld (pv 0) rfl)))) (tupGK (K := K) rfl (pg_tup (n := 3) rfl (pgs_cons (pg_name (i := 2) nd rfl (Or.inl rfl)) (pgs_cons (pg_name (i := 3) nd rfl (Or.inl rfl)) (pgs_cons (pg_name (i := 4) nd rfl (Or.inl rfl)) pgs_nil))))) (pss_one (ps_if (pt_cmpR (opK (K := K) (r := rEqU) (opU_eq (roomEq hr)) rfl) (pv 2) (pv 1) (nomark _)) (pss_one (ps_ret (pe_met m_Locks_blockers (hr.mono (by decide)) (takes_of rfl rfl rfl rfl) (pv 0) (by exact (pa_cons (pv 1) (pa_cons (pv 3) (pa_cons (pv 4) pa_nil))))))) pss_nil)))
    (pss_one (ps_ret (pe_lst pa_nil)))) ?_
  obtain ⟨l, who, dx, h, q, hs, qs, rfl, L, sz, hq⟩ := h
  simp only [cx_K, gcx_K, lcx_K, LenV, rLenU, tTruU, kTup, tFld, sFld, sFldAug, tMet, tMake, tBM, tDGet, tDGet1, tDGet2, sDPut, tRevL, iEnum, tAug, tAsg, mulV_int, iaddU_int, isubU_int, iaddU_str, tTupL, ex2eq, not_true_eq_false, not_false_eq_true, LamX.tLam, LamX.TTold, tSeq, tIf, tNext, tRet, tRetN, tIfS, tTest, tB, tNot, tAnd, tOr, tChain, tOp, tUn, tC, tVar, tCons, tNil, tTup, tLst, tAsg, gName, gTup, gCons, gNil, gSub, tDrop, tCallS, tCB, tM1, tM0, tBM, tBM0, tSl, tPar, tFor_eq, tLc_eq, intU_int, intU_bl, iList, iTup, iEnumT, tDNewK, rSlT, rSlL, iRng1, iRng2, iStr, tThen, tNever, L2.start, tRaiseFile, tMkFile, tYes, tPart, tNoPart, addA_int, addA_str, addU_int, addU_str, addU_ref, subU_int, mulU_int, mulU_ref, fdvU_int, modU_int, powU_int, ltU_int, leU_int, gtU_int, geU_int, eqU_int, eqU_str, eqU_bl, neU_int, neU_str, neU_bl, WE, TruV, tDIn, tDNotIn, sDDel, tDSetd, tDPop1, tLock, tLockE, tLk, tLockA, tLockEA, iKeys, List.map, List.length_cons, List.length_nil, List.replicate, List.append, List.getElem?_cons_zero, List.getElem?_cons_succ, List.set_cons_zero, List.set_cons_succ, List.cons_append, List.nil_append, Option.some.injEq, V.int.injEq, V.str.injEq, V.bl.injEq, V.ref.injEq, List.cons.injEq, exists_eq_left, exists_eq_right, and_true, true_and, and_self, exists_eq, exists_const, Bool.not_true, Bool.not_false, Bool.false_eq_true, if_true, if_false, reduceIte, decide_eq_true_eq, bne_iff_ne, exists_eq_left', exists_eq', exists_and_left, Bool.not_eq_true', decide_eq_false_iff_not, Nat.reduceSub, Nat.reduceAdd, reduceCtorEq, false_and, or_false, false_or, exists_false]
  refine ⟨_, _, _, L.hl, T.cL, T.fL _ (by simp), _, rfl, ?_⟩; try simp only [cx_K, gcx_K, lcx_K, LenV, rLenU, tTruU, kTup, tFld, sFld, sFldAug, tMet, tMake, tBM, tDGet, tDGet1, tDGet2, sDPut, tRevL, iEnum, tAug, tAsg, mulV_int, iaddU_int, isubU_int, iaddU_str, tTupL, ex2eq, not_true_eq_false, not_false_eq_true, LamX.tLam, LamX.TTold, tSeq, tIf, tNext, tRet, tRetN, tIfS, tTest, tB, tNot, tAnd, tOr, tChain, tOp, tUn, tC, tVar, tCons, tNil, tTup, tLst, tAsg, gName, gTup, gCons, gNil, gSub, tDrop, tCallS, tCB, tM1, tM0, tBM, tBM0, tSl, tPar, tFor_eq, tLc_eq, intU_int, intU_bl, iList, iTup, iEnumT, tDNewK, rSlT, rSlL, iRng1, iRng2, iStr, tThen, tNever, L2.start, tRaiseFile, tMkFile, tYes, tPart, tNoPart, addA_int, addA_str, addU_int, addU_str, addU_ref, subU_int, mulU_int, mulU_ref, fdvU_int, modU_int, powU_int, ltU_int, leU_int, gtU_int, geU_int, eqU_int, eqU_str, eqU_bl, neU_int, neU_str, neU_bl, WE, TruV, tDIn, tDNotIn, sDDel, tDSetd, tDPop1, tLock, tLockE, tLk, tLockA, tLockEA, iKeys, List.map, List.length_cons, List.length_nil, List.replicate, List.append, List.getElem?_cons_zero, List.getElem?_cons_succ, List.set_cons_zero, List.set_cons_succ, List.cons_append, List.nil_append, Option.some.injEq, V.int.injEq, V.str.injEq, V.bl.injEq, V.ref.injEq, List.cons.injEq, exists_eq_left, exists_eq_right, and_true, true_and, and_self, exists_eq, exists_const, Bool.not_true, Bool.not_false, Bool.false_eq_true, if_true, if_false, reduceIte, decide_eq_true_eq, bne_iff_ne, exists_eq_left', exists_eq', exists_and_left, Bool.not_eq_true', decide_eq_false_iff_not, Nat.reduceSub, Nat.reduceAdd, reduceCtorEq, false_and, or_false, false_or, exists_false]
  refine ⟨⟨_, lst_at L.co.hq⟩, ?_⟩
  refine loop_list (xs := qs.map fun e => V.ref e.1) (WaI TL GT l who H (qs.map (·.2))) ⟨⟨_, _, _, rfl⟩, Ex.refl, rfl⟩ (fun i σ H' hi I => lst_at (L.keep I.e (fun _ _ => by simp)).co.hq) ?_ ?_
  · rintro i x σ H' hx ⟨⟨v2, v3, v4, rfl⟩, e, hf⟩
    have LL := L.keep e (fun _ _ => by simp)
    rw [List.getElem?_map] at hx
    cases hqi : qs[i]? with
    | none => rw [hqi] at hx; cases hx
    | some ar =>
      rw [hqi] at hx
      obtain rfl : V.ref ar.1 = x := Option.some.inj hx
      have hr := LL.co.hrT ar (List.mem_of_getElem? hqi)
      have hd := drop_at (qs.map (·.2)) (by rw [List.getElem?_map, hqi]; rfl)
      simp only [cx_K, gcx_K, lcx_K, LenV, rLenU, tTruU, kTup, tFld, sFld, sFldAug, tMet, tMake, tBM, tDGet, tDGet1, tDGet2, sDPut, tRevL, iEnum, tAug, tAsg, mulV_int, iaddU_int, isubU_int, iaddU_str, tTupL, ex2eq, not_true_eq_false, not_false_eq_true, LamX.tLam, LamX.TTold, tSeq, tIf, tNext, tRet, tRetN, tIfS, tTest, tB, tNot, tAnd, tOr, tChain, tOp, tUn, tC, tVar, tCons, tNil, tTup, tLst, tAsg, gName, gTup, gCons, gNil, gSub, tDrop, tCallS, tCB, tM1, tM0, tBM, tBM0, tSl, tPar, tFor_eq, tLc_eq, intU_int, intU_bl, iList, iTup, iEnumT, tDNewK, rSlT, rSlL, iRng1, iRng2, iStr, tThen, tNever, L2.start, tRaiseFile, tMkFile, tYes, tPart, tNoPart, addA_int, addA_str, addU_int, addU_str, addU_ref, subU_int, mulU_int, mulU_ref, fdvU_int, modU_int, powU_int, ltU_int, leU_int, gtU_int, geU_int, eqU_int, eqU_str, eqU_bl, neU_int, neU_str, neU_bl, WE, TruV, tDIn, tDNotIn, sDDel, tDSetd, tDPop1, tLock, tLockE, tLk, tLockA, tLockEA, iKeys, List.map, List.length_cons, List.length_nil, List.replicate, List.append, List.getElem?_cons_zero, List.getElem?_cons_succ, List.set_cons_zero, List.set_cons_succ, List.cons_append, List.nil_append, Option.some.injEq, V.int.injEq, V.str.injEq, V.bl.injEq, V.ref.injEq, List.cons.injEq, exists_eq_left, exists_eq_right, and_true, true_and, and_self, exists_eq, exists_const, Bool.not_true, Bool.not_false, Bool.false_eq_true, if_true, if_false, reduceIte, decide_eq_true_eq, bne_iff_ne, exists_eq_left', exists_eq', exists_and_left, Bool.not_eq_true', decide_eq_false_iff_not, Nat.reduceSub, Nat.reduceAdd, reduceCtorEq, false_and, or_false, false_or, exists_false]
      refine ⟨rowV ar.2, hr, rfl, _, _, rfl, _, _, rfl, _, _, rfl, rfl, ?_⟩
      simp only [cx_K, gcx_K, lcx_K, LenV, rLenU, tTruU, kTup, tFld, sFld, sFldAug, tMet, tMake, tBM, tDGet, tDGet1, tDGet2, sDPut, tRevL, iEnum, tAug, tAsg, mulV_int, iaddU_int, isubU_int, iaddU_str, tTupL, ex2eq, not_true_eq_false, not_false_eq_true, LamX.tLam, LamX.TTold, tSeq, tIf, tNext, tRet, tRetN, tIfS, tTest, tB, tNot, tAnd, tOr, tChain, tOp, tUn, tC, tVar, tCons, tNil, tTup, tLst, tAsg, gName, gTup, gCons, gNil, gSub, tDrop, tCallS, tCB, tM1, tM0, tBM, tBM0, tSl, tPar, tFor_eq, tLc_eq, intU_int, intU_bl, iList, iTup, iEnumT, tDNewK, rSlT, rSlL, iRng1, iRng2, iStr, tThen, tNever, L2.start, tRaiseFile, tMkFile, tYes, tPart, tNoPart, addA_int, addA_str, addU_int, addU_str, addU_ref, subU_int, mulU_int, mulU_ref, fdvU_int, modU_int, powU_int, ltU_int, leU_int, gtU_int, geU_int, eqU_int, eqU_str, eqU_bl, neU_int, neU_str, neU_bl, WE, TruV, tDIn, tDNotIn, sDDel, tDSetd, tDPop1, tLock, tLockE, tLk, tLockA, tLockEA, iKeys, List.map, List.length_cons, List.length_nil, List.replicate, List.append, List.getElem?_cons_zero, List.getElem?_cons_succ, List.set_cons_zero, List.set_cons_succ, List.cons_append, List.nil_append, Option.some.injEq, V.int.injEq, V.str.injEq, V.bl.injEq, V.ref.injEq, List.cons.injEq, exists_eq_left, exists_eq_right, and_true, true_and, and_self, exists_eq, exists_const, Bool.not_true, Bool.not_false, Bool.false_eq_true, if_true, if_false, reduceIte, decide_eq_true_eq, bne_iff_ne, exists_eq_left', exists_eq', exists_and_left, Bool.not_eq_true', decide_eq_false_iff_not, Nat.reduceSub, Nat.reduceAdd, reduceCtorEq, false_and, or_false, false_or, exists_false]
      rw [hd] at hf
      by_cases z1 : ar.2.1 = who
      · rw [if_pos z1]
        rw [List.find?_cons_of_pos (by simpa using z1)] at hf
        refine ⟨_, _, LL.hl, rfl, l, who, ar.2.2.1, ar.2.2.2, dx, h, q, hs, qs, rfl, LL, sz, fun a H2 e2 ha hn => hq a H2 (e.trans e2) ?_ ((e.fresh hn).resolve_left (by simp))⟩
        rw [ha, waits_some hf.symm]
      · rw [if_neg z1]
        rw [List.find?_cons_of_neg (by simpa using z1)] at hf
        exact ⟨⟨_, _, _, rfl⟩, e, hf⟩
  · rintro σ H' ⟨⟨v2, v3, v4, rfl⟩, e, hf⟩
    rw [List.length_map, List.drop_eq_nil_of_le (by simp)] at hf
    simp only [cx_K, gcx_K, lcx_K, LenV, rLenU, tTruU, kTup, tFld, sFld, sFldAug, tMet, tMake, tBM, tDGet, tDGet1, tDGet2, sDPut, tRevL, iEnum, tAug, tAsg, mulV_int, iaddU_int, isubU_int, iaddU_str, tTupL, ex2eq, not_true_eq_false, not_false_eq_true, LamX.tLam, LamX.TTold, tSeq, tIf, tNext, tRet, tRetN, tIfS, tTest, tB, tNot, tAnd, tOr, tChain, tOp, tUn, tC, tVar, tCons, tNil, tTup, tLst, tAsg, gName, gTup, gCons, gNil, gSub, tDrop, tCallS, tCB, tM1, tM0, tBM, tBM0, tSl, tPar, tFor_eq, tLc_eq, intU_int, intU_bl, iList, iTup, iEnumT, tDNewK, rSlT, rSlL, iRng1, iRng2, iStr, tThen, tNever, L2.start, tRaiseFile, tMkFile, tYes, tPart, tNoPart, addA_int, addA_str, addU_int, addU_str, addU_ref, subU_int, mulU_int, mulU_ref, fdvU_int, modU_int, powU_int, ltU_int, leU_int, gtU_int, geU_int, eqU_int, eqU_str, eqU_bl, neU_int, neU_str, neU_bl, WE, TruV, tDIn, tDNotIn, sDDel, tDSetd, tDPop1, tLock, tLockE, tLk, tLockA, tLockEA, iKeys, List.map, List.length_cons, List.length_nil, List.replicate, List.append, List.getElem?_cons_zero, List.getElem?_cons_succ, List.set_cons_zero, List.set_cons_succ, List.cons_append, List.nil_append, Option.some.injEq, V.int.injEq, V.str.injEq, V.bl.injEq, V.ref.injEq, List.cons.injEq, exists_eq_left, exists_eq_right, and_true, true_and, and_self, exists_eq, exists_const, Bool.not_true, Bool.not_false, Bool.false_eq_true, if_true, if_false, reduceIte, decide_eq_true_eq, bne_iff_ne, exists_eq_left', exists_eq', exists_and_left, Bool.not_eq_true', decide_eq_false_iff_not, Nat.reduceSub, Nat.reduceAdd, reduceCtorEq, false_and, or_false, false_or, exists_false]
    refine ⟨Nat.zero_le _, fun p hp => hq p _ (e.add hp) ?_ ((e.fresh (free_none hp)).resolve_left (by simp))⟩
    rw [upd_same, waits_none hf.symm]; rfl
end
end KL
end
section
set_option Elab.async false
set_option linter.all false
set_option maxRecDepth 100000
set_option maxHeartbeats 2000000
set_option pp.maxSteps 900
namespace KL
open PySem PySem.Spec PyProof.Rows L2 GX
/-- who waits, over others too, for whom -/
inductive Rch (v : Lk) : Int → Int → Prop
  | one {a b : Int} : b ∈ waitsL v a → Rch v a b
  | step {a b c : Int} : Rch v a b → c ∈ waitsL v b → Rch v a c
def unU (v : Lk) : List Int := v.held.flatMap (fun e => e.2.map (·.1)) ++ v.queue.map (·.1)
def outU (v : Lk) (seen : List Int) : List Int := (unU v).filter fun x => decide (x ∉ seen)
theorem outU_step {v : Lk} {seen : List Int} {x : Int} (h1 : x ∈ unU v) (h2 : x ∉ seen) : (outU v (seen ++ [x])).length < (outU v seen).length := by
  have e : outU v (seen ++ [x]) = (outU v seen).filter fun y => decide (y ≠ x) := by
    unfold outU
    rw [List.filter_filter]
    refine List.filter_congr fun y _ => ?_
    simp only [List.mem_append, List.mem_singleton, not_or]
    by_cases a : y ∈ seen <;> by_cases b : y = x <;> simp [a, b]
  rw [e]
  refine List.length_filter_lt_length_iff_exists.mpr ⟨x, ?_, by simp⟩
  unfold outU
  exact List.mem_filter.mpr ⟨h1, by simpa using h2⟩
theorem srt_mem {l : List Int} {x : Int} : x ∈ srt l ↔ x ∈ l := (srt_perm l).mem_iff
theorem addI_mem {l : List Int} {k x : Int} : x ∈ addI l k ↔ x ∈ l ∨ x = k := by
  unfold addI
  split
  · rename_i h
    exact ⟨.inl, fun z => z.elim id fun z => by rw [z]; exact h⟩
  · rw [List.mem_append, List.mem_singleton]
theorem fold_mem : ∀ {l a : List Int} {x : Int}, x ∈ l.foldl addI a ↔ x ∈ a ∨ x ∈ l
  | [], a, x => by simp
  | y :: l, a, x => by rw [List.foldl_cons, fold_mem, addI_mem, List.mem_cons, or_assoc]
theorem ded_mem {l : List Int} {x : Int} : x ∈ ded l ↔ x ∈ l := by unfold ded; rw [fold_mem]; simp
theorem blk_mem {v : Lk} {who : Int} {n : Str} {al : Bool} {x : Int} : x ∈ blk v who n al ↔ x ∈ blkL v who n al := by unfold blk; rw [srt_mem, ded_mem]
theorem ahead_sub : ∀ {l : List Row} {who : Int} {n : Str} {x : Int}, x ∈ aheadL l who n → x ∈ l.map (·.1)
  | [], _, _, _, h => by cases h
  | r :: l, who, n, x, h => by
    unfold aheadL at h
    rw [List.map_cons]
    split at h
    · cases h
    · split at h
      · rcases List.mem_cons.mp h with rfl | h
        · exact List.mem_cons_self
        · exact List.mem_cons_of_mem _ (ahead_sub h)
      · exact List.mem_cons_of_mem _ (ahead_sub h)
theorem blk_sub {v : Lk} {who : Int} {n : Str} {al : Bool} {x : Int} (h : x ∈ blk v who n al) : x ∈ unU v := by
  rw [blk_mem] at h
  unfold unU
  rw [List.mem_append]
  rcases List.mem_append.mp h with h | h
  · refine .inl ?_
    unfold blkA at h
    obtain ⟨p, hp, rfl⟩ := List.mem_map.mp h
    have hp := (List.mem_filter.mp hp).1
    unfold hold getT at hp
    cases hf : v.held.find? (fun e => decide (e.1 = n)) with
    | none => rw [hf] at hp; cases hp
    | some e =>
      rw [hf] at hp
      exact List.mem_flatMap.mpr ⟨e, List.mem_of_find?_eq_some hf, List.mem_map.mpr ⟨p, hp, rfl⟩⟩
  · refine .inr ?_
    split at h
    · cases h
    · exact ahead_sub h
theorem waits_sub {v : Lk} {who x : Int} (h : x ∈ waitsL v who) : x ∈ unU v := by
  unfold waitsL at h
  split at h
  · exact blk_sub h
  · cases h
theorem waits_len {v : Lk} (sz : Sz v) (who : Int) : (waitsL v who).length ≤ 40 := by
  unfold waitsL
  split
  · rename_i r _
    unfold blk
    rw [(srt_perm _).length_eq]
    refine Nat.le_trans (ded_len _) ?_
    unfold blkL
    rw [List.length_append]
    have a1 := blkA_len (hold v r.2.1) who r.2.2
    have a2 := sz.2 r.2.1
    have a3 := aheadL_len v.queue who r.2.1
    have a4 := sz.1
    split
    · rw [List.length_nil]; omega
    · omega
  · exact Nat.zero_le _
structure RgI (v : Lk) (who : Int) (left seen : List Int) : Prop where
  l1 : ∀ x ∈ left, Rch v who x
  l2 : ∀ x ∈ left, x ∈ unU v
  c1 : ∀ y ∈ waitsL v who, y ∈ left ∨ y ∈ seen
  c2 : ∀ x ∈ seen, ∀ y ∈ waitsL v x, y ∈ left ∨ y ∈ seen
  w : who ∉ seen
  z : seen.length + (outU v seen).length ≤ (unU v).length
theorem RgI.init (v : Lk) (who : Int) : RgI v who (waitsL v who) [] :=
  ⟨fun x h => .one h, fun x h => waits_sub h, fun y h => .inl h, (fun x h => by cases h), (by simp), (by rw [List.length_nil, Nat.zero_add]; exact List.length_filter_le _ _)⟩
theorem RgI.done {v : Lk} {who : Int} {seen : List Int} (I : RgI v who [] seen) : ¬ Rch v who who := fun h => by
  have all : ∀ {a x : Int}, Rch v a x → a = who → x ∈ seen := by
    intro a x h
    induction h with
    | one hy => intro e; subst e; exact (I.c1 _ hy).resolve_left (by simp)
    | step _ hc ih => intro e; exact (I.c2 _ (ih e) _ hc).resolve_left (by simp)
  exact I.w (all h rfl)
theorem last_split {l : List Int} (h : l ≠ []) : ∃ r x, l = r ++ [x] := ⟨l.dropLast, l.getLast h, (List.dropLast_concat_getLast h).symm⟩
theorem RgI.old {v : Lk} {who x : Int} {r seen : List Int} (I : RgI v who (r ++ [x]) seen) (h : x ∈ seen) : RgI v who r seen :=
  ⟨fun y hy => I.l1 y (by simp [hy]), fun y hy => I.l2 y (by simp [hy]), fun y hy => by
    rcases I.c1 y hy with z | z
    · rcases List.mem_append.mp z with z | z
      · exact .inl z
      · exact .inr (by rw [List.mem_singleton.mp z]; exact h)
    · exact .inr z, fun a ha y hy => by
    rcases I.c2 a ha y hy with z | z
    · rcases List.mem_append.mp z with z | z
      · exact .inl z
      · exact .inr (by rw [List.mem_singleton.mp z]; exact h)
    · exact .inr z, I.w, I.z⟩
theorem RgI.new {v : Lk} {who x : Int} {r seen : List Int} (I : RgI v who (r ++ [x]) seen) (h : x ∉ seen) (hw : x ≠ who) : RgI v who (r ++ waitsL v x) (seen ++ [x]) := by
  have hx := I.l1 x (by simp)
  have hu := I.l2 x (by simp)
  have mv : ∀ y, y ∈ r ++ [x] ∨ y ∈ seen → y ∈ r ++ waitsL v x ∨ y ∈ seen ++ [x] := fun y z => by
    rcases z with z | z
    · rcases List.mem_append.mp z with z | z
      · exact .inl (by simp [z])
      · exact .inr (by rw [List.mem_singleton.mp z]; simp)
    · exact .inr (by simp [z])
  refine ⟨fun y hy => ?_, fun y hy => ?_, fun y hy => mv y (I.c1 y hy), fun a ha y hy => ?_, fun z => ?_, ?_⟩
  · rcases List.mem_append.mp hy with z | z
    · exact I.l1 y (by simp [z])
    · exact .step hx z
  · rcases List.mem_append.mp hy with z | z
    · exact I.l2 y (by simp [z])
    · exact waits_sub z
  · rcases List.mem_append.mp ha with z | z
    · exact mv y (I.c2 a z y hy)
    · rw [List.mem_singleton.mp z] at hy
      exact .inl (by simp [hy])
  · rcases List.mem_append.mp z with z | z
    · exact I.w z
    · exact hw (List.mem_singleton.mp z).symm
  · have := outU_step hu h
    have := I.z
    rw [List.length_append, List.length_singleton]
    omega
section
variable {P : Program} {w : World} {K : PySem.W.Frag} {mg : Str → Option Value} {base : Heap} {CL PE : Addr} {TL : List (Addr × Str)} {GT : List Addr} {H H' : Hp} {h q l dx : Addr} {hs : List (Str × Addr × Tab)} {qs : List (Addr × Row)} {v : Lk} {F A : List Addr}
theorem dp_ints' (ns : List Int) : DpAll K H (ns.map V.int) (ns.map PyData.int) := dp_ints ns
theorem eq_lstI {Q : VK} {p q : Addr} {ns ms : List Int} (hp : SqL K H p (ns.map V.int)) (hq : SqL K H q (ms.map V.int)) (h : Q (.bl (decide (ns = ms))) H) : rEqU K (.ref p) (.ref q) H Q := by
  refine ⟨.list (ns.map .int), .list (ms.map .int), .lst hp (dp_ints ns), .lst hq (dp_ints ms), shaped_tupI ns, shaped_tupI ms, ?_⟩
  rw [show PyData.eqv (.list (ns.map PyData.int)) (.list (ms.map PyData.int)) = PyData.eqvAll (ns.map PyData.int) (ms.map PyData.int) from rfl, eqvAll_ints]
  exact h
theorem ne_lstI {Q : VK} {p q : Addr} {ns ms : List Int} (hp : SqL K H p (ns.map V.int)) (hq : SqL K H q (ms.map V.int)) (h : Q (.bl (!decide (ns = ms))) H) : rNeU K (.ref p) (.ref q) H Q := by
  refine ⟨.list (ns.map .int), .list (ms.map .int), .lst hp (dp_ints ns), .lst hq (dp_ints ms), shaped_tupI ns, shaped_tupI ms, ?_⟩
  rw [show PyData.eqv (.list (ns.map PyData.int)) (.list (ms.map PyData.int)) = PyData.eqvAll (ns.map PyData.int) (ms.map PyData.int) from rfl, eqvAll_ints]
  exact h
def spRing (K : PySem.W.Frag) (CL : Addr) (TL : List (Addr × Str)) (GT : List Addr) : Sp := fun vs H Q E => ∃ l who dx h q hs qs, vs = [.ref l, .int who] ∧ LP K CL H l dx h q hs qs ∧ Sz (lkOf hs qs) ∧ (unU (lkOf hs qs)).length ≤ 1000 ∧
  ∀ (b : Bool) H', Ex [] TL GT H H' → (b = true ↔ Rch (lkOf hs qs) who who) → Q (.bl b) H'
structure RgJ (K : PySem.W.Frag) (CL : Addr) (TL : List (Addr × Str)) (GT : List Addr) (H : Hp) (l : Addr) (who : Int) (v : Lk) (m : Nat) (σ : L2.St) (H' : Hp) : Prop where
  s : ∃ a p v4 left seen, σ = [some (.ref l), some (.int who), some (.ref a), some (.ref p), v4] ∧ H' a = some (.lst (left.map V.int)) ∧ H' p = some (.dK (dkB seen)) ∧ free H a ∧ free H p ∧ RgI v who left seen ∧ m = (outU v seen).length * 64 + left.length ∧ m ≤ 64040
  e : Ex [] TL GT H H'
theorem m_ring (T : KL.Txt P w K mg base CL PE TL GT) : Met P w K mg base 9 CL "in_ring" [] (spRing K CL TL GT) := by
  have m_Locks_waits_for := m_waits T
  obtain ⟨f, fd, c, D, hm⟩ := T.l_ring
  refine met_of T.cL hm ?_ (D.bind0 (ps := ["self", "who"]) (fun _ _ _ _ _ _ us hl => match us, hl with | [_, _], _ => rfl))
  refine D.okF (N := ["self", "who", "left", "seen", "one"]) (ps := ["self", "who"]) ⟨rfl, rfl, rfl, by decide +kernel, rfl, by decide +kernel, by decide +kernel⟩ (fun vs H Q E h => by first | (obtain ⟨_, rfl, _⟩ := h; rfl) | (obtain ⟨_, _, rfl, _⟩ := h; rfl) | (obtain ⟨_, _, _, rfl, _⟩ := h; rfl) | (obtain ⟨_, _, _, _, rfl, _⟩ := h; rfl) | (obtain ⟨_, _, _, _, _, rfl, _⟩ := h; rfl) | (obtain ⟨_, _, _, _, _, _, rfl, _⟩ := h; rfl) | (obtain ⟨_, _, _, _, _, _, _, rfl, _⟩ := h; rfl) | (obtain ⟨_, _, _, _, _, _, _, _, rfl, _⟩ := h; rfl) | (obtain ⟨_, _, _, _, _, _, _, _, _, rfl, _⟩ := h; rfl) | (obtain ⟨_, _, _, _, _, _, _, _, _, _, rfl, _⟩ := h; rfl) | (obtain ⟨_, _, _, _, _, _, _, _, _, _, _, rfl, _⟩ := h; rfl) | (obtain ⟨_, _, _, _, _, _, _, _, _, _, _, _, rfl, _⟩ := h; rfl) | (obtain ⟨_, _, _, _, _, _, _, _, _, _, _, _, _, rfl, _⟩ := h; rfl) | (obtain ⟨_, _, _, _, _, _, _, _, _, _, _, _, _, _, rfl, _⟩ := h; rfl) | (obtain ⟨_, _, _, _, _, _, _, _, _, _, _, _, _, _, _, rfl, _⟩ := h; rfl) | (obtain ⟨rfl, _⟩ := h; rfl)) (fun A outer s H vs Q E hr h => ?_)
  have nd : (["self", "who", "left", "seen", "one"] : List Str).Nodup := by decide
  refine mk_ex (pss_cons (ps_par (i := 2) (j := 3) rfl nd rfl rfl (by decide) rfl rfl (by exact (pa_cons (pe_met m_Locks_waits_for (hr.mono (by decide)) (takes_of rfl rfl rfl rfl) (pv 0) (by exact (pa_cons (pv 1) pa_nil))) (pa_cons pe_dnewK pa_nil))) (by first | rfl | kernel_rfl))
    (pss_cons (ps_while (passes_of rfl) (pt_cmpR (opK (K := K) (r := rNeU) (opU_ne (roomEq hr)) rfl) (pv 2) (pe_lst pa_nil) (nomark _)) (pss_cons (ps_set (i := 4) nd rfl (Or.inl rfl) (bm0K (K := K) rfl (pe_bm0 PySem.F.plainAttrs_list PySem.F.slot_list_pop PySem.F.type_list_pop mt_pop (pv 2))))
    (pss_cons (ps_if (pt_cmpR (opK (K := K) (r := rEqU) (opU_eq (roomEq hr)) rfl) (pv 4) (pv 1) (nomark _)) (pss_one (ps_ret pe_bl)) pss_nil)
    (pss_one (ps_if (pt_cmp (pc_dnotin (roomD hr) (pv 4) (pv 3))) (pss_cons (ps_dput (roomD hr) (pv 3) (pv 4) pe_bl rfl)
    (pss_one (ps_aug (i := 2) nd rfl (Or.inl rfl) (pe_met m_Locks_waits_for (hr.mono (by decide)) (takes_of rfl rfl rfl rfl) (pv 0) (by exact (pa_cons (pv 4) pa_nil))) (opK (K := K) (r := rIaddU) opU_iadd rfl)))) pss_nil)))))
    (pss_one (ps_ret pe_bl)))) ?_
  obtain ⟨l, who, dx, h, q, hs, qs, rfl, L, sz, su, hq⟩ := h
  simp only [cx_K, gcx_K, lcx_K, LenV, rLenU, tTruU, kTup, tFld, sFld, sFldAug, tMet, tMake, tBM, tDGet, tDGet1, tDGet2, sDPut, tRevL, iEnum, tAug, tAsg, mulV_int, iaddU_int, isubU_int, iaddU_str, tTupL, ex2eq, not_true_eq_false, not_false_eq_true, LamX.tLam, LamX.TTold, tSeq, tIf, tNext, tRet, tRetN, tIfS, tTest, tB, tNot, tAnd, tOr, tChain, tOp, tUn, tC, tVar, tCons, tNil, tTup, tLst, tAsg, gName, gTup, gCons, gNil, gSub, tDrop, tCallS, tCB, tM1, tM0, tBM, tBM0, tSl, tPar, tFor_eq, tLc_eq, intU_int, intU_bl, iList, iTup, iEnumT, tDNewK, rSlT, rSlL, iRng1, iRng2, iStr, tThen, tNever, L2.start, tRaiseFile, tMkFile, tYes, tPart, tNoPart, addA_int, addA_str, addU_int, addU_str, addU_ref, subU_int, mulU_int, mulU_ref, fdvU_int, modU_int, powU_int, ltU_int, leU_int, gtU_int, geU_int, eqU_int, eqU_str, eqU_bl, neU_int, neU_str, neU_bl, WE, TruV, tDIn, tDNotIn, sDDel, tDSetd, tDPop1, tLock, tLockE, tLk, tLockA, tLockEA, iKeys, List.map, List.length_cons, List.length_nil, List.replicate, List.append, List.getElem?_cons_zero, List.getElem?_cons_succ, List.set_cons_zero, List.set_cons_succ, List.cons_append, List.nil_append, Option.some.injEq, V.int.injEq, V.str.injEq, V.bl.injEq, V.ref.injEq, List.cons.injEq, exists_eq_left, exists_eq_right, and_true, true_and, and_self, exists_eq, exists_const, Bool.not_true, Bool.not_false, Bool.false_eq_true, if_true, if_false, reduceIte, decide_eq_true_eq, bne_iff_ne, exists_eq_left', exists_eq', exists_and_left, Bool.not_eq_true', decide_eq_false_iff_not, Nat.reduceSub, Nat.reduceAdd, reduceCtorEq, false_and, or_false, false_or, exists_false]
  refine ⟨_, _, L.hl, rfl, l, who, dx, h, q, hs, qs, rfl, L, sz, fun a H1 e1 ha hna p hp => ?_⟩
  have e2 : Ex [] TL GT H (upd H1 p (.dK [])) := e1.add hp
  have hap : a ≠ p := fun z => by rw [z, hp] at ha; cases ha
  have a2 : upd H1 p (.dK []) a = some (.lst ((waitsL (lkOf hs qs) who).map V.int)) := by rw [upd_ne hap]; exact ha
  have p2 : upd H1 p (.dK []) p = some (.dK (dkB [])) := upd_same
  have hnp : free H p := (e1.fresh (free_none hp)).resolve_left (by simp)
  have hm0 : (outU (lkOf hs qs) []).length * 64 + (waitsL (lkOf hs qs) who).length ≤ 64040 := by
    have z1 := waits_len sz who
    have z2 : (outU (lkOf hs qs) []).length ≤ (unU (lkOf hs qs)).length := List.length_filter_le _ _
    omega
  refine ⟨RgJ K CL TL GT H l who (lkOf hs qs), ⟨_, ⟨a, p, none, _, [], rfl, a2, p2, hna, hnp, RgI.init _ _, rfl, hm0⟩, e2⟩, ?_⟩
  rintro m σ H' ⟨⟨a, p, v4, left, seen, rfl, ha, hp, na, np, I, hm, hm2⟩, e⟩
  simp only [cx_K, gcx_K, lcx_K, LenV, rLenU, tTruU, kTup, tFld, sFld, sFldAug, tMet, tMake, tBM, tDGet, tDGet1, tDGet2, sDPut, tRevL, iEnum, tAug, tAsg, mulV_int, iaddU_int, isubU_int, iaddU_str, tTupL, ex2eq, not_true_eq_false, not_false_eq_true, LamX.tLam, LamX.TTold, tSeq, tIf, tNext, tRet, tRetN, tIfS, tTest, tB, tNot, tAnd, tOr, tChain, tOp, tUn, tC, tVar, tCons, tNil, tTup, tLst, tAsg, gName, gTup, gCons, gNil, gSub, tDrop, tCallS, tCB, tM1, tM0, tBM, tBM0, tSl, tPar, tFor_eq, tLc_eq, intU_int, intU_bl, iList, iTup, iEnumT, tDNewK, rSlT, rSlL, iRng1, iRng2, iStr, tThen, tNever, L2.start, tRaiseFile, tMkFile, tYes, tPart, tNoPart, addA_int, addA_str, addU_int, addU_str, addU_ref, subU_int, mulU_int, mulU_ref, fdvU_int, modU_int, powU_int, ltU_int, leU_int, gtU_int, geU_int, eqU_int, eqU_str, eqU_bl, neU_int, neU_str, neU_bl, WE, TruV, tDIn, tDNotIn, sDDel, tDSetd, tDPop1, tLock, tLockE, tLk, tLockA, tLockEA, iKeys, List.map, List.length_cons, List.length_nil, List.replicate, List.append, List.getElem?_cons_zero, List.getElem?_cons_succ, List.set_cons_zero, List.set_cons_succ, List.cons_append, List.nil_append, Option.some.injEq, V.int.injEq, V.str.injEq, V.bl.injEq, V.ref.injEq, List.cons.injEq, exists_eq_left, exists_eq_right, and_true, true_and, and_self, exists_eq, exists_const, Bool.not_true, Bool.not_false, Bool.false_eq_true, if_true, if_false, reduceIte, decide_eq_true_eq, bne_iff_ne, exists_eq_left', exists_eq', exists_and_left, Bool.not_eq_true', decide_eq_false_iff_not, Nat.reduceSub, Nat.reduceAdd, reduceCtorEq, false_and, or_false, false_or, exists_false]
  refine ⟨Nat.zero_le _, fun p1 hp1 => ?_⟩
  have e1 : Ex [] TL GT H' (upd H' p1 (.lst [])) := Ex.new hp1
  have ha1 : upd H' p1 (.lst []) a = some (.lst (left.map V.int)) := e1.lst (by simp) ha
  have hp2 : upd H' p1 (.lst []) p = some (.dK (dkB seen)) := e1.ext _ _ (by simp) hp (fun _ z => by cases z)
  have q1 : upd H' p1 (.lst []) p1 = some (.lst (([] : List Int).map V.int)) := upd_same
  have e2 := e.trans e1
  generalize upd H' p1 (.lst []) = H1 at ha1 hp2 q1 e2 ⊢
  refine ne_lstI (lst_at ha1) (lst_at q1) ⟨_, rfl, ?_⟩
  have hap : a ≠ p := fun z => by rw [z, hp2] at ha1; cases ha1
  by_cases hl : left = []
  · rw [if_neg (by simp [hl])]
    subst hl
    exact hq false H1 e2 ⟨(fun z => by cases z), fun z => absurd z I.done⟩
  · rw [if_pos (by simp [hl])]
    obtain ⟨r, x, rfl⟩ := last_split hl
    refine ⟨fun σ' H2 => ∃ m', m' < m ∧ RgJ K CL TL GT H l who (lkOf hs qs) m' σ' H2, fun σ' H2 z => z, .inl ⟨rfl, _, lst_at ha1⟩, a, _, .int x, rfl, rfl, ha1, by simp, ?_⟩
    have hdl : ((r ++ [x]).map V.int).dropLast = r.map V.int := by rw [List.map_append]; simp
    rw [hdl]
    have e3 : Ex [] TL GT H (upd H1 a (.lst (r.map V.int))) := e2.chg ha1 rfl (.inr na)
    have ha3 : upd H1 a (.lst (r.map V.int)) a = some (.lst (r.map V.int)) := upd_same
    have hp3 : upd H1 a (.lst (r.map V.int)) p = some (.dK (dkB seen)) := by rw [upd_ne hap.symm]; exact hp2
    generalize upd H1 a (.lst (r.map V.int)) = H3 at e3 ha3 hp3 ⊢
    have hlen : (outU (lkOf hs qs) seen).length * 64 + (r.length + 1) = m := by rw [hm, List.length_append]; rfl
    have hsl : seen.length ≤ 1000 := by have := I.z; omega
    simp only [cx_K, gcx_K, lcx_K, LenV, rLenU, tTruU, kTup, tFld, sFld, sFldAug, tMet, tMake, tBM, tDGet, tDGet1, tDGet2, sDPut, tRevL, iEnum, tAug, tAsg, mulV_int, iaddU_int, isubU_int, iaddU_str, tTupL, ex2eq, not_true_eq_false, not_false_eq_true, LamX.tLam, LamX.TTold, tSeq, tIf, tNext, tRet, tRetN, tIfS, tTest, tB, tNot, tAnd, tOr, tChain, tOp, tUn, tC, tVar, tCons, tNil, tTup, tLst, tAsg, gName, gTup, gCons, gNil, gSub, tDrop, tCallS, tCB, tM1, tM0, tBM, tBM0, tSl, tPar, tFor_eq, tLc_eq, intU_int, intU_bl, iList, iTup, iEnumT, tDNewK, rSlT, rSlL, iRng1, iRng2, iStr, tThen, tNever, L2.start, tRaiseFile, tMkFile, tYes, tPart, tNoPart, addA_int, addA_str, addU_int, addU_str, addU_ref, subU_int, mulU_int, mulU_ref, fdvU_int, modU_int, powU_int, ltU_int, leU_int, gtU_int, geU_int, eqU_int, eqU_str, eqU_bl, neU_int, neU_str, neU_bl, WE, TruV, tDIn, tDNotIn, sDDel, tDSetd, tDPop1, tLock, tLockE, tLk, tLockA, tLockEA, iKeys, List.map, List.length_cons, List.length_nil, List.replicate, List.append, List.getElem?_cons_zero, List.getElem?_cons_succ, List.set_cons_zero, List.set_cons_succ, List.cons_append, List.nil_append, Option.some.injEq, V.int.injEq, V.str.injEq, V.bl.injEq, V.ref.injEq, List.cons.injEq, exists_eq_left, exists_eq_right, and_true, true_and, and_self, exists_eq, exists_const, Bool.not_true, Bool.not_false, Bool.false_eq_true, if_true, if_false, reduceIte, decide_eq_true_eq, bne_iff_ne, exists_eq_left', exists_eq', exists_and_left, Bool.not_eq_true', decide_eq_false_iff_not, Nat.reduceSub, Nat.reduceAdd, reduceCtorEq, false_and, or_false, false_or, exists_false]
    by_cases z1 : x = who
    · rw [if_pos z1]
      refine hq true H3 e3 ⟨fun _ => ?_, fun _ => rfl⟩
      have := I.l1 x (by simp)
      rw [z1] at this; exact this
    · rw [if_neg z1]
      refine ⟨_, .inl ⟨dkB seen, .inl x, .inl hp3, rfl, rfl⟩, ?_⟩
      have hval : (valV (dkB seen) (.inl x)).isSome = decide (x ∈ seen) := by
        rw [← valV_any]
        unfold dkB
        rw [List.any_map, Bool.eq_iff_iff, List.any_eq_true, decide_eq_true_iff]
        exact ⟨fun ⟨y, h1, h2⟩ => by
          have : y = x := by simpa using h2
          rw [← this]; exact h1, fun h1 => ⟨x, h1, by simp⟩⟩
      rw [hval]
      by_cases z2 : x ∈ seen
      · rw [if_neg (by simp [z2])]
        exact ⟨_, (by rw [← hlen]; omega), ⟨a, p, _, r, seen, rfl, ha3, hp3, na, np, I.old z2, rfl, by omega⟩, e3⟩
      · rw [if_pos (by simp [z2])]
        have hz : (dkB seen).length < sizeLine := by unfold dkB; rw [List.length_map, sizeLine_eq]; omega
        refine ⟨_, DPut.k (k := .inl x) hp3 hz, ?_⟩
        rw [put_dkB, show addI seen x = seen ++ [x] from if_neg z2]
        have e4 : Ex [] TL GT H (upd H3 p (.dK (dkB (seen ++ [x])))) := e3.chg hp3 rfl (.inr np)
        have ha4 : upd H3 p (.dK (dkB (seen ++ [x]))) a = some (.lst (r.map V.int)) := by rw [upd_ne hap]; exact ha3
        have hp4 : upd H3 p (.dK (dkB (seen ++ [x]))) p = some (.dK (dkB (seen ++ [x]))) := upd_same
        generalize upd H3 p (.dK (dkB (seen ++ [x]))) = H4 at e4 ha4 hp4 ⊢
        have L4 := L.keep e4 (fun _ _ => by simp)
        refine ⟨_, _, L4.hl, rfl, l, x, dx, h, q, hs, qs, rfl, L4, sz, fun b H5 e5 hb hnb => ?_⟩
        have ha5 := e5.lst (by simp) ha4
        have hp5 : H5 p = some (.dK (dkB (seen ++ [x]))) := e5.ext _ _ (by simp) hp4 (fun _ z => by cases z)
        have hwl := waits_len sz x
        have hst := outU_step (I.l2 x (by simp)) z2
        refine .inr ⟨a, b, _, _, rfl, rfl, ha5, hb, by rw [List.length_map, List.length_map, sizeLine_eq]; omega, ?_⟩
        have e6 : Ex [] TL GT H (upd H5 a (.lst (r.map V.int ++ (waitsL (lkOf hs qs) x).map V.int))) := (e4.trans e5).chg ha5 rfl (.inr na)
        refine ⟨(outU (lkOf hs qs) (seen ++ [x])).length * 64 + (r ++ waitsL (lkOf hs qs) x).length, by rw [← hlen, List.length_append]; omega, ⟨a, p, _, r ++ waitsL (lkOf hs qs) x, seen ++ [x], rfl, by rw [upd_same, List.map_append], by rw [upd_ne hap.symm]; exact hp5, na, np, I.new z2 z1, rfl, by rw [List.length_append]; omega⟩, e6⟩
end
end KL
end
section
set_option Elab.async false
set_option linter.all false
set_option maxRecDepth 100000
set_option maxHeartbeats 2000000
namespace KL
open PySem PySem.Spec PyProof.Rows L2 GX
/-! ### the plain law: what stays true of the table -/
theorem sub_len {α : Type} [DecidableEq α] : ∀ {l m : List α}, l.Nodup → (∀ x ∈ l, x ∈ m) → l.length ≤ m.length
  | [], _, _, _ => Nat.zero_le _
  | a :: l, m, nd, h => by
    rw [List.nodup_cons] at nd
    have ha := h a List.mem_cons_self
    have ih := sub_len (l := l) (m := m.erase a) nd.2 fun x hx => (List.mem_erase_of_ne (fun z => nd.1 (by rw [← z]; exact hx))).mpr (h x (List.mem_cons_of_mem _ hx))
    rw [List.length_erase_of_mem ha] at ih
    have := List.length_pos_of_mem ha
    rw [List.length_cons]
    omega
def nms : List Str := ["p", "q", "r", "s"]
def W5 (x : Int) : Prop := 1 ≤ x ∧ x ≤ 5
theorem len5 {l : List Int} (nd : l.Nodup) (h : ∀ x ∈ l, W5 x) : l.length ≤ 5 :=
  sub_len (m := [1, 2, 3, 4, 5]) nd fun x hx => by
    obtain ⟨a, b⟩ := h x hx
    have : x = 1 ∨ x = 2 ∨ x = 3 ∨ x = 4 ∨ x = 5 := by omega
    rcases this with rfl | rfl | rfl | rfl | rfl <;> decide
structure Wf (v : Lk) : Prop where
  qn : (v.queue.map (·.1)).Nodup
  qr : ∀ r ∈ v.queue, W5 r.1 ∧ r.2.1 ∈ nms
  hn : (v.held.map (·.1)).Nodup
  hr : ∀ e ∈ v.held, e.1 ∈ nms
  tn : ∀ e ∈ v.held, (e.2.map (·.1)).Nodup ∧ e.2 ≠ [] ∧ ∀ p ∈ e.2, W5 p.1
theorem getT_mem {l : List (Str × Tab)} {n : Str} {t : Tab} (h : getT l n = some t) : (n, t) ∈ l := by
  unfold getT at h
  cases hf : l.find? (fun e => decide (e.1 = n)) with
  | none => rw [hf] at h; cases h
  | some e =>
    rw [hf] at h
    have e1 : e.2 = t := Option.some.inj h
    have e2 : e.1 = n := by simpa using List.find?_some hf
    rw [← e1, ← e2]
    exact List.mem_of_find?_eq_some hf
theorem getT_of_mem : ∀ {l : List (Str × Tab)} {n : Str} {t : Tab}, (l.map (·.1)).Nodup → (n, t) ∈ l → getT l n = some t
  | [], _, _, _, h => by cases h
  | e :: l, n, t, nd, h => by
    rw [List.map_cons, List.nodup_cons] at nd
    unfold getT
    rcases List.mem_cons.mp h with h | h
    · rw [← h, List.find?_cons_of_pos (by simp)]; rfl
    · rw [List.find?_cons_of_neg (by
        have : e.1 ≠ n := fun z => nd.1 (by rw [z]; exact List.mem_map.mpr ⟨_, h, rfl⟩)
        simpa using this)]
      exact getT_of_mem nd.2 h
theorem Wf.hold {v : Lk} (W : Wf v) (n : Str) : ((hold v n).map (·.1)).Nodup ∧ ∀ p ∈ hold v n, W5 p.1 := by
  unfold KL.hold
  cases hg : getT v.held n with
  | none => exact ⟨.nil, fun p h => by cases h⟩
  | some t => exact ⟨(W.tn _ (getT_mem hg)).1, (W.tn _ (getT_mem hg)).2.2⟩
theorem flat_len {α β : Type} (f : α → List β) (b : Nat) : ∀ l : List α, (∀ x ∈ l, (f x).length ≤ b) → (l.flatMap f).length ≤ l.length * b
  | [], _ => by simp
  | a :: l, h => by
    rw [List.flatMap_cons, List.length_append, List.length_cons, Nat.succ_mul]
    have := flat_len f b l fun x hx => h x (List.mem_cons_of_mem _ hx)
    have := h a List.mem_cons_self
    omega
theorem Wf.q5 {v : Lk} (W : Wf v) : v.queue.length ≤ 5 := by
  have := len5 W.qn fun x hx => by obtain ⟨r, hr, rfl⟩ := List.mem_map.mp hx; exact (W.qr r hr).1
  rwa [List.length_map] at this
theorem Wf.h4 {v : Lk} (W : Wf v) : v.held.length ≤ 4 := by
  have := sub_len (m := nms) W.hn fun x hx => by obtain ⟨r, hr, rfl⟩ := List.mem_map.mp hx; exact W.hr r hr
  rwa [List.length_map] at this
theorem Wf.sz {v : Lk} (W : Wf v) : Sz v := by
  refine ⟨Nat.le_trans W.q5 (by decide), fun n => ?_⟩
  have := len5 (W.hold n).1 fun x hx => by obtain ⟨r, hr, rfl⟩ := List.mem_map.mp hx; exact (W.hold n).2 r hr
  rw [List.length_map] at this
  omega
theorem Wf.su {v : Lk} (W : Wf v) : (unU v).length ≤ 1000 := by
  unfold unU
  rw [List.length_append, List.length_map]
  have a := flat_len (fun e : Str × Tab => e.2.map (·.1)) 5 v.held fun e he => len5 (W.tn e he).1 fun x hx => by
    obtain ⟨p, hp, rfl⟩ := List.mem_map.mp hx; exact (W.tn e he).2.2 p hp
  have b := W.q5
  have c := W.h4
  omega
def rmW (q : List Row) (who : Int) : List Row := q.filter fun r => decide (r.1 ≠ who)
theorem Wf.rm {v : Lk} (W : Wf v) (who : Int) : Wf { v with queue := rmW v.queue who } :=
  ⟨W.qn.sublist (List.Sublist.map _ List.filter_sublist), fun r hr => W.qr r (List.mem_filter.mp hr).1, W.hn, W.hr, W.tn⟩
theorem setT_fst (l : List (Str × Tab)) (n : Str) (t : Tab) : (setT l n t).map (·.1) = l.map (·.1) := by
  unfold setT; rw [List.map_map]; refine List.map_congr_left fun e _ => ?_
  show (if e.1 = n then _ else e).1 = e.1
  split <;> rfl
theorem putI_mem {t : Tab} {who : Int} {b : Bool} {p : Int × Bool} (h : p ∈ putI t who b) : p = (who, b) ∨ p ∈ t := by
  unfold putI at h
  split at h
  · obtain ⟨x, hx, rfl⟩ := List.mem_map.mp h
    split
    · rename_i z; exact .inl (by rw [z])
    · exact .inr hx
  · rcases List.mem_append.mp h with h | h
    · exact .inr h
    · exact .inl (List.mem_singleton.mp h)
theorem putI_ne (t : Tab) (who : Int) (b : Bool) : putI t who b ≠ [] := by
  unfold putI
  split
  · rename_i h
    intro z
    have := List.map_eq_nil_iff.mp z
    rw [this] at h; cases h
  · simp
theorem newT_names {l : List (Str × Tab)} {n : Str} (nd : (l.map (·.1)).Nodup) : ((newT l n).map (·.1)).Nodup := by
  unfold newT
  split
  · exact nd
  · rename_i h
    rw [List.map_append]
    refine List.nodup_append.mpr ⟨nd, List.pairwise_singleton _ _, fun a ha b hb z => h ?_⟩
    obtain ⟨e, he, rfl⟩ := List.mem_map.mp ha
    have hb' : b = n := List.mem_singleton.mp hb
    rw [← hb', ← z, getT_of_mem nd (show (e.1, e.2) ∈ l from he)]; rfl
theorem Wf.take {v : Lk} (W : Wf v) {who : Int} {n : Str} (h1 : W5 who) (h2 : n ∈ nms) (al : Bool) : Wf (takeL v who n al) := by
  have hN := W.hold n
  refine ⟨W.qn, W.qr, ?_, ?_, ?_⟩
  · show ((setT (newT v.held n) n _).map (·.1)).Nodup
    rw [setT_fst]; exact newT_names W.hn
  · intro e he
    obtain ⟨x, hx, rfl⟩ := List.mem_map.mp he
    have : x.1 ∈ nms := by
      unfold newT at hx
      split at hx
      · exact W.hr x hx
      · rcases List.mem_append.mp hx with hx | hx
        · exact W.hr x hx
        · rw [List.mem_singleton.mp hx]; exact h2
    show (if x.1 = n then _ else x).1 ∈ nms
    split <;> exact this
  · intro e he
    obtain ⟨x, hx, rfl⟩ := List.mem_map.mp he
    show ((if x.1 = n then (x.1, _) else x).2.map _).Nodup ∧ _
    by_cases z : x.1 = n
    · rw [if_pos z]
      refine ⟨putI_nodup hN.1 _ _, putI_ne _ _ _, fun p hp => ?_⟩
      rcases putI_mem hp with rfl | hp
      · exact h1
      · exact hN.2 p hp
    · rw [if_neg z]
      refine W.tn x ?_
      unfold newT at hx
      split at hx
      · exact hx
      · rcases List.mem_append.mp hx with hx | hx
        · exact hx
        · rw [List.mem_singleton.mp hx] at z; exact absurd rfl z
def pushL (v : Lk) (r : Row) : Lk := { v with queue := v.queue ++ [r] }
theorem Wf.push {v : Lk} (W : Wf v) {r : Row} (h : (v.queue.any fun x => decide (x.1 = r.1)) = false) (h1 : W5 r.1) (h2 : r.2.1 ∈ nms) : Wf (pushL v r) := by
  refine ⟨?_, fun x hx => ?_, W.hn, W.hr, W.tn⟩
  · show ((v.queue ++ [r]).map (·.1)).Nodup
    rw [List.map_append]
    refine List.nodup_append.mpr ⟨W.qn, List.pairwise_singleton _ _, fun a ha b hb z => ?_⟩
    obtain ⟨x, hx, rfl⟩ := List.mem_map.mp ha
    have hb' : b = r.1 := List.mem_singleton.mp hb
    have : (v.queue.any fun x => decide (x.1 = r.1)) = true := List.any_eq_true.mpr ⟨x, hx, by simp [z, hb']⟩
    rw [h] at this; cases this
  · rcases List.mem_append.mp hx with hx | hx
    · exact W.qr x hx
    · rw [List.mem_singleton.mp hx]; exact ⟨h1, h2⟩
end KL
end
section
set_option Elab.async false
set_option linter.all false
set_option maxRecDepth 100000
set_option maxHeartbeats 2000000
set_option pp.maxSteps 900
namespace KL
open PySem PySem.Spec PyProof.Rows L2 GX
def passL : Lk → List Row → Lk × List Int
  | v, [] => (v, [])
  | v, r :: rs => if blk v r.1 r.2.1 r.2.2 = [] then ((passL (takeL { v with queue := rmW v.queue r.1 } r.1 r.2.1 r.2.2) rs).1, r.1 :: (passL (takeL { v with queue := rmW v.queue r.1 } r.1 r.2.1 r.2.2) rs).2) else passL v rs
def serveN : Nat → Lk → Lk × List Int
  | 0, v => (v, [])
  | m + 1, v => if (passL v v.queue).2 = [] then ((passL v v.queue).1, []) else ((serveN m (passL v v.queue).1).1, (passL v v.queue).2 ++ (serveN m (passL v v.queue).1).2)
section
variable {P : Program} {w : World} {K : PySem.W.Frag} {mg : Str → Option Value} {base : Heap} {CL PE : Addr} {TL : List (Addr × Str)} {GT : List Addr} {H H' : Hp} {h q l dx : Addr} {hs : List (Str × Addr × Tab)} {qs : List (Addr × Row)} {v : Lk} {F A : List Addr}
def rowD (r : Row) : PyData := .tuple [.int r.1, .str r.2.1, .str (hw r.2.2)]
theorem dp_row {a : Addr} {r : Row} (h : SqT K H a (rowV r)) : Dp K H (.ref a) (rowD r) := .tup h (.cons (.int _) (.cons (.str _) (.cons (.str _) .nil)))
theorem rowD_ne {a b : Row} (h : a.1 ≠ b.1) : PyData.eqv (rowD a) (rowD b) = false := by
  show ((a.1 == b.1) && _) = false
  rw [show (a.1 == b.1) = false by simpa using h]; rfl
theorem rowD_eq (a : Row) : PyData.eqv (rowD a) (rowD a) = true := by
  show ((a.1 == a.1) && ((a.2.1 == a.2.1) && ((hw a.2.2 == hw a.2.2) && true))) = true
  simp
theorem erase_fil : ∀ {qs : List (Addr × Row)} {j : Nat} {e : Addr × Row}, (qs.map (·.2.1)).Nodup → qs[j]? = some e → qs.eraseIdx j = qs.filter fun x => decide (x.2.1 ≠ e.2.1)
  | [], _, _, _, h => by cases h
  | x :: qs, 0, e, nd, h => by
    have hxe : x = e := Option.some.inj h
    subst hxe
    rw [List.map_cons, List.nodup_cons] at nd
    rw [List.eraseIdx_cons_zero, List.filter_cons_of_neg (by simp)]
    refine (List.filter_eq_self.mpr fun y hy => ?_).symm
    have : y.2.1 ≠ x.2.1 := fun z => nd.1 (by rw [← z]; exact List.mem_map.mpr ⟨y, hy, rfl⟩)
    simpa using this
  | x :: qs, j + 1, e, nd, h => by
    rw [List.map_cons, List.nodup_cons] at nd
    have he : e ∈ qs := List.mem_of_getElem? h
    rw [List.eraseIdx_cons_succ, List.filter_cons_of_pos (by
      have : x.2.1 ≠ e.2.1 := fun z => nd.1 (by rw [z]; exact List.mem_map.mpr ⟨e, he, rfl⟩)
      simpa using this), erase_fil nd.2 h]
def rmQ (qs : List (Addr × Row)) (who : Int) : List (Addr × Row) := qs.filter fun x => decide (x.2.1 ≠ who)
theorem rmQ_lk (hs : List (Str × Addr × Tab)) (qs : List (Addr × Row)) (who : Int) : lkOf hs (rmQ qs who) = { lkOf hs qs with queue := rmW (lkOf hs qs).queue who } := by
  unfold lkOf rmQ rmW
  simp only [List.filter_map]
  rfl
theorem Co.rm (C : Co K H h q hs qs) (who : Int) : Co K (upd H q (.lst ((rmQ qs who).map fun e => V.ref e.1))) h q hs (rmQ qs who) := by
  obtain ⟨hh, hq, ht, hr, nh, nq, nn, nk, nm⟩ := C
  have e1 : Ex [q] [] [] H (upd H q (.lst ((rmQ qs who).map fun e => V.ref e.1))) := Ex.put (by simp) hq rfl
  have nhq : h ≠ q := fun z => by rw [z, hq] at hh; cases hh
  refine ⟨by rw [upd_ne nhq]; exact hh, upd_same, fun x hx => ?_, fun x hx => e1.tup _ _ (hr x (List.mem_filter.mp hx).1), nh, nq.sublist (List.Sublist.map _ List.filter_sublist), nn, nk, nm⟩
  rw [upd_ne (fun z => by have := ht x hx; rw [z, hq] at this; cases this)]
  exact ht x hx
theorem dp_rowsA : ∀ {qs : List (Addr × Row)}, (∀ e ∈ qs, SqT K H e.1 (rowV e.2)) → DpAll K H (qs.map fun e => V.ref e.1) (qs.map fun e => rowD e.2)
  | [], _ => .nil
  | x :: qs, h => .cons (dp_row (h x List.mem_cons_self)) (dp_rowsA fun e he => h e (List.mem_cons_of_mem _ he))
theorem nms_ok {n : Str} (h : n ∈ nms) : PyData.strOk n = true := by
  simp only [nms, List.mem_cons, List.not_mem_nil, or_false] at h
  rcases h with rfl | rfl | rfl | rfl <;> decide +kernel
theorem hw_ok (b : Bool) : PyData.strOk (hw b) = true := by cases b <;> decide +kernel
theorem shaped_row (r : Row) (h : r.2.1 ∈ nms) : SeqAt.shaped (rowD r) = true := by
  simp [SeqAt.shaped, rowD, PyData.canLay0, PyData.canLayAll0, PyData.depth, PyData.depthAll, nms_ok h, hw_ok]
theorem rem_row (C : Co K H h q hs qs) {e : Addr × Row} (he : e ∈ qs) (nd : (qs.map (·.2.1)).Nodup) (hn : ∀ e ∈ qs, e.2.2.1 ∈ nms) {Q : VK} (hQ : Q .non (upd H q (.lst ((rmQ qs e.2.1).map fun e => V.ref e.1)))) : tyV K "list" (.ref q) H ∧ rRemD K (.ref q) [.ref e.1] H Q := by
  obtain ⟨j, hj⟩ := List.mem_iff_getElem?.mp he
  have em : qs.map (fun e => V.ref e.1) = (qs.map (·.1)).map V.ref := by rw [List.map_map]; rfl
  refine ⟨.inl ⟨rfl, _, lst_at C.hq⟩, q, qs.map (·.1), .ref e.1, rowD e.2, qs.map (fun e => rowD e.2), j, rfl, rfl, by rw [C.hq, em], C.nq, by rw [← em]; exact dp_rowsA C.hrT, dp_row (C.hrT e he), shaped_row _ (hn e he), fun z hz => ?_, ⟨rowD e.2, by rw [List.getElem?_map, hj]; rfl, rowD_eq _⟩, fun m z hm hz => ?_, ?_⟩
  · obtain ⟨x, hx, rfl⟩ := List.mem_map.mp hz; exact shaped_row _ (hn x hx)
  · rw [List.getElem?_map] at hz
    cases hx : qs[m]? with
    | none => rw [hx] at hz; cases hz
    | some x =>
      rw [hx] at hz
      cases hz
      refine rowD_ne fun z => ?_
      have h1 : (qs.map (·.2.1))[m]? = some x.2.1 := by rw [List.getElem?_map, hx]; rfl
      have h2 : (qs.map (·.2.1))[j]? = some e.2.1 := by rw [List.getElem?_map, hj]; rfl
      rw [z, ← h2] at h1
      have := (List.getElem?_inj (by rw [List.length_map]; exact (List.getElem?_eq_some_iff.mp hx).1) nd).mp h1
      omega
  · rw [show ((qs.map (·.1)).eraseIdx j).map V.ref = (rmQ qs e.2.1).map fun e => V.ref e.1 by
      unfold rmQ
      rw [← erase_fil nd hj, ← DT.map_erase, List.map_map]; rfl]
    exact hQ
theorem LP.lst_off {p : Addr} {xs : List V} (L : LP K CL H l dx h q hs qs) (hp : H p = some (.lst xs)) (n : p ≠ q) : p ∉ l :: fpOf h q hs := fun z => by
  simp only [fpOf, List.mem_cons, List.mem_map] at z
  rcases z with rfl | rfl | rfl | ⟨e, he, rfl⟩
  · rw [L.hl] at hp; cases hp
  · rw [L.co.hh] at hp; cases hp
  · exact n rfl
  · rw [L.co.ht e he] at hp; cases hp
def SvW (K : PySem.W.Frag) (CL : Addr) (TL : List (Addr × Str)) (GT : List Addr) (H : Hp) (l dx h q : Addr) (F : List Addr) (p : Addr) (v0 : Lk) (n : Nat) (σ : L2.St) (H' : Hp) : Prop :=
  ∃ (b : Bool) (v3 : Option V) (hs : List (Str × Addr × Tab)) (qs : List (Addr × Row)) (fo : List Int), σ = [some (.ref l), some (.ref p), some (.bl b), v3] ∧ Ex F TL GT H H' ∧ LP K CL H' l dx h q hs qs ∧ (∀ a ∈ l :: fpOf h q hs, a ∈ F ∨ free H a) ∧ Wf (lkOf hs qs) ∧
    H' p = some (.lst (fo.map V.int)) ∧ (b = true → qs.length < n ∧ serveN 50 v0 = ((serveN n (lkOf hs qs)).1, fo ++ (serveN n (lkOf hs qs)).2)) ∧ (b = false → serveN 50 v0 = (lkOf hs qs, fo)) ∧ qs.length + fo.length ≤ 5
structure SvI (K : PySem.W.Frag) (CL : Addr) (TL : List (Addr × Str)) (GT : List Addr) (H : Hp) (l dx h q : Addr) (F : List Addr) (p s : Addr) (snap : List (Addr × Row)) (v1 : Lk) (fo : List Int) (i : Nat) (σ : L2.St) (H' : Hp) : Prop where
  w : ∃ (v3 : Option V) (hs : List (Str × Addr × Tab)) (qs : List (Addr × Row)) (f : List Int), σ = [some (.ref l), some (.ref p), some (.bl (decide (f ≠ []))), v3] ∧ LP K CL H' l dx h q hs qs ∧ (∀ a ∈ l :: fpOf h q hs, a ∈ F ∨ free H a) ∧ Wf (lkOf hs qs) ∧
    H' p = some (.lst ((fo ++ f).map V.int)) ∧ (∀ e ∈ snap.drop i, e ∈ qs) ∧ passL v1 (snap.map (·.2)) = ((passL (lkOf hs qs) ((snap.map (·.2)).drop i)).1, f ++ (passL (lkOf hs qs) ((snap.map (·.2)).drop i)).2) ∧ qs.length + f.length ≤ snap.length ∧ qs.length + (fo ++ f).length ≤ 5
  e : Ex F TL GT H H'
  s : H' s = some (.lst (snap.map fun e => V.ref e.1))
def spServe (K : PySem.W.Frag) (CL : Addr) (TL : List (Addr × Str)) (GT : List Addr) : Sp := fun vs H Q E => ∃ l dx h q hs qs, vs = [.ref l] ∧ LP K CL H l dx h q hs qs ∧ Wf (lkOf hs qs) ∧
  ∀ a H' qs', AftL K CL TL GT H l dx h q (l :: fpOf h q hs) (serveN 50 (lkOf hs qs)).1 qs' H' → H' a = some (.lst ((serveN 50 (lkOf hs qs)).2.map V.int)) → free H a → Q (.ref a) H'
theorem m_serve (T : KL.Txt P w K mg base CL PE TL GT) : Met P w K mg base 8 CL "serve" [] (spServe K CL TL GT) := by
  have m_Locks_blockers := m_blk T
  have m_Locks_take := m_take T
  obtain ⟨f, fd, c, D, hm⟩ := T.l_serve
  refine met_of T.cL hm ?_ (D.bind0 (ps := ["self"]) (fun _ _ _ _ _ _ us hl => match us, hl with | [_], _ => rfl))
  refine D.okF (N := ["self", "found", "moved", "row"]) (ps := ["self"]) ⟨rfl, rfl, rfl, by decide +kernel, rfl, by decide +kernel, by decide +kernel⟩ (fun vs H Q E h => by first | (obtain ⟨_, rfl, _⟩ := h; rfl) | (obtain ⟨_, _, rfl, _⟩ := h; rfl) | (obtain ⟨_, _, _, rfl, _⟩ := h; rfl) | (obtain ⟨_, _, _, _, rfl, _⟩ := h; rfl) | (obtain ⟨_, _, _, _, _, rfl, _⟩ := h; rfl) | (obtain ⟨_, _, _, _, _, _, rfl, _⟩ := h; rfl) | (obtain ⟨_, _, _, _, _, _, _, rfl, _⟩ := h; rfl) | (obtain ⟨_, _, _, _, _, _, _, _, rfl, _⟩ := h; rfl) | (obtain ⟨_, _, _, _, _, _, _, _, _, rfl, _⟩ := h; rfl) | (obtain ⟨_, _, _, _, _, _, _, _, _, _, rfl, _⟩ := h; rfl) | (obtain ⟨_, _, _, _, _, _, _, _, _, _, _, rfl, _⟩ := h; rfl) | (obtain ⟨_, _, _, _, _, _, _, _, _, _, _, _, rfl, _⟩ := h; rfl) | (obtain ⟨_, _, _, _, _, _, _, _, _, _, _, _, _, rfl, _⟩ := h; rfl) | (obtain ⟨_, _, _, _, _, _, _, _, _, _, _, _, _, _, rfl, _⟩ := h; rfl) | (obtain ⟨_, _, _, _, _, _, _, _, _, _, _, _, _, _, _, rfl, _⟩ := h; rfl) | (obtain ⟨rfl, _⟩ := h; rfl)) (fun A outer s H vs Q E hr h => ?_)
  have nd : (["self", "found", "moved", "row"] : List Str).Nodup := by decide
  refine mk_ex (pss_cons (ps_par (i := 1) (j := 2) rfl nd rfl rfl (by decide) rfl rfl (by exact (pa_cons (pe_lst pa_nil) (pa_cons pe_bl pa_nil))) (by first | rfl | kernel_rfl))
    (pss_cons (ps_while (passes_of rfl) (pt_truU (K := K) rfl (by exact (pt_truth (pv 2) (fun _ => rfl)))) (pss_cons (ps_set (i := 2) nd rfl (Or.inl rfl) pe_bl)
    (pss_one (ps_for (passes_of rfl) rfl (ilK (K := K) rfl (pi_list (pe_callTy (listOfK (K := K) rfl) rfl T.n_list rfl (by exact (pa_cons (fldK (K := K) rfl (pe_fld (pv 0) rfl)) pa_nil))))) (pg_name (i := 3) nd rfl (Or.inl rfl)) (pss_one (ps_if (pt_cmpR (opK (K := K) (r := rEqU) (opU_eq (roomEq hr)) rfl) (pe_met m_Locks_blockers (hr.mono (by decide)) (takes_of rfl rfl rfl rfl) (pv 0) (by exact (pa_cons (pe_ix (ixK (K := K) (r := rIx) ix_seq rfl) (pv 3) pe_int (fun _ _ => rfl)) (pa_cons (pe_ix (ixK (K := K) (r := rIx) ix_seq rfl) (pv 3) pe_int (fun _ _ => rfl)) (pa_cons (pe_ix (ixK (K := K) (r := rIx) ix_seq rfl) (pv 3) pe_int (fun _ _ => rfl)) pa_nil))))) (pe_lst pa_nil) (nomark _)) (pss_cons (ps_expr (bmK (K := K) rfl (pe_bm PySem.F.plainAttrs_list PySem.F.slot_list_remove PySem.F.type_list_remove (rmK (K := K) rfl (mt_removeD (room66 hr))) (fldK (K := K) rfl (pe_fld (pv 0) rfl)) (by exact (pa_cons (pv 3) pa_nil)))))
    (pss_cons (ps_expr (pe_met m_Locks_take (hr.mono (by decide)) (takes_of rfl rfl rfl rfl) (pv 0) (by exact (pa_cons (pe_ix (ixK (K := K) (r := rIx) ix_seq rfl) (pv 3) pe_int (fun _ _ => rfl)) (pa_cons (pe_ix (ixK (K := K) (r := rIx) ix_seq rfl) (pv 3) pe_int (fun _ _ => rfl)) (pa_cons (pe_ix (ixK (K := K) (r := rIx) ix_seq rfl) (pv 3) pe_int (fun _ _ => rfl)) pa_nil))))))
    (pss_cons (ps_expr (bmK (K := K) rfl (pe_bm PySem.F.plainAttrs_list PySem.F.slot_list_append PySem.F.type_list_append mt_append (pv 1) (by exact (pa_cons (pe_ix (ixK (K := K) (r := rIx) ix_seq rfl) (pv 3) pe_int (fun _ _ => rfl)) pa_nil)))))
    (pss_one (ps_set (i := 2) nd rfl (Or.inl rfl) pe_bl))))) pss_nil))))))
    (pss_one (ps_ret (pv 1))))) ?_
  obtain ⟨l, dx, h, q, hs, qs, rfl, L, W, hq⟩ := h
  simp only [cx_K, gcx_K, lcx_K, LenV, rLenU, tTruU, kTup, tFld, sFld, sFldAug, tMet, tMake, tBM, tDGet, tDGet1, tDGet2, sDPut, tRevL, iEnum, tAug, tAsg, mulV_int, iaddU_int, isubU_int, iaddU_str, tTupL, ex2eq, not_true_eq_false, not_false_eq_true, LamX.tLam, LamX.TTold, tSeq, tIf, tNext, tRet, tRetN, tIfS, tTest, tB, tNot, tAnd, tOr, tChain, tOp, tUn, tC, tVar, tCons, tNil, tTup, tLst, tAsg, gName, gTup, gCons, gNil, gSub, tDrop, tCallS, tCB, tM1, tM0, tBM, tBM0, tSl, tPar, tFor_eq, tLc_eq, intU_int, intU_bl, iList, iTup, iEnumT, tDNewK, rSlT, rSlL, iRng1, iRng2, iStr, tThen, tNever, L2.start, tRaiseFile, tMkFile, tYes, tPart, tNoPart, addA_int, addA_str, addU_int, addU_str, addU_ref, subU_int, mulU_int, mulU_ref, fdvU_int, modU_int, powU_int, ltU_int, leU_int, gtU_int, geU_int, eqU_int, eqU_str, eqU_bl, neU_int, neU_str, neU_bl, WE, TruV, tDIn, tDNotIn, sDDel, tDSetd, tDPop1, tLock, tLockE, tLk, tLockA, tLockEA, iKeys, List.map, List.length_cons, List.length_nil, List.replicate, List.append, List.getElem?_cons_zero, List.getElem?_cons_succ, List.set_cons_zero, List.set_cons_succ, List.cons_append, List.nil_append, Option.some.injEq, V.int.injEq, V.str.injEq, V.bl.injEq, V.ref.injEq, List.cons.injEq, exists_eq_left, exists_eq_right, and_true, true_and, and_self, exists_eq, exists_const, Bool.not_true, Bool.not_false, Bool.false_eq_true, if_true, if_false, reduceIte, decide_eq_true_eq, bne_iff_ne, exists_eq_left', exists_eq', exists_and_left, Bool.not_eq_true', decide_eq_false_iff_not, Nat.reduceSub, Nat.reduceAdd, reduceCtorEq, false_and, or_false, false_or, exists_false]
  refine ⟨Nat.zero_le _, fun p hp => ?_⟩
  have e1 : Ex [] TL GT H (upd H p (.lst [])) := Ex.new hp
  have p1 : upd H p (.lst []) p = some (.lst (([] : List Int).map V.int)) := upd_same
  have L1 := L.keep e1 (fun _ _ => by simp)
  have hpF := L.notin hp
  have hnp := free_none hp
  generalize upd H p (.lst []) = H1 at e1 p1 L1 ⊢
  refine ⟨SvW K CL TL GT H l dx h q (l :: fpOf h q hs) p (lkOf hs qs), ⟨50, true, none, hs, qs, [], rfl, e1.any, L1, fun a ha => .inl ha, W, p1, (fun _ => ⟨by have := W.q5; unfold lkOf at this; rw [List.length_map] at this; show qs.length < 50; omega, rfl⟩), (fun z => by cases z), by have := W.q5; unfold lkOf at this; rw [List.length_map] at this; exact this⟩, ?_⟩
  rintro n σ H2 ⟨b, v3, hs2, qs2, fo, rfl, e2, L2', fp2, W2, hp2, hb1, hb2, hz5⟩
  simp only [cx_K, gcx_K, lcx_K, LenV, rLenU, tTruU, kTup, tFld, sFld, sFldAug, tMet, tMake, tBM, tDGet, tDGet1, tDGet2, sDPut, tRevL, iEnum, tAug, tAsg, mulV_int, iaddU_int, isubU_int, iaddU_str, tTupL, ex2eq, not_true_eq_false, not_false_eq_true, LamX.tLam, LamX.TTold, tSeq, tIf, tNext, tRet, tRetN, tIfS, tTest, tB, tNot, tAnd, tOr, tChain, tOp, tUn, tC, tVar, tCons, tNil, tTup, tLst, tAsg, gName, gTup, gCons, gNil, gSub, tDrop, tCallS, tCB, tM1, tM0, tBM, tBM0, tSl, tPar, tFor_eq, tLc_eq, intU_int, intU_bl, iList, iTup, iEnumT, tDNewK, rSlT, rSlL, iRng1, iRng2, iStr, tThen, tNever, L2.start, tRaiseFile, tMkFile, tYes, tPart, tNoPart, addA_int, addA_str, addU_int, addU_str, addU_ref, subU_int, mulU_int, mulU_ref, fdvU_int, modU_int, powU_int, ltU_int, leU_int, gtU_int, geU_int, eqU_int, eqU_str, eqU_bl, neU_int, neU_str, neU_bl, WE, TruV, tDIn, tDNotIn, sDDel, tDSetd, tDPop1, tLock, tLockE, tLk, tLockA, tLockEA, iKeys, List.map, List.length_cons, List.length_nil, List.replicate, List.append, List.getElem?_cons_zero, List.getElem?_cons_succ, List.set_cons_zero, List.set_cons_succ, List.cons_append, List.nil_append, Option.some.injEq, V.int.injEq, V.str.injEq, V.bl.injEq, V.ref.injEq, List.cons.injEq, exists_eq_left, exists_eq_right, and_true, true_and, and_self, exists_eq, exists_const, Bool.not_true, Bool.not_false, Bool.false_eq_true, if_true, if_false, reduceIte, decide_eq_true_eq, bne_iff_ne, exists_eq_left', exists_eq', exists_and_left, Bool.not_eq_true', decide_eq_false_iff_not, Nat.reduceSub, Nat.reduceAdd, reduceCtorEq, false_and, or_false, false_or, exists_false]
  cases b with
  | false =>
    rw [if_neg (by decide)]
    have hr := hb2 rfl
    exact hq p H2 qs2 ⟨e2, hs2, by rw [hr], L2', fp2⟩ (by rw [hp2, hr]) hnp
  | true =>
    rw [if_pos rfl]
    obtain ⟨hn, hr⟩ := hb1 rfl
    refine ⟨fun σ' H3 => ∃ m', m' < n ∧ SvW K CL TL GT H l dx h q (l :: fpOf h q hs) p (lkOf hs qs) m' σ' H3, fun σ' H3 z => z, _, _, _, L2'.hl, T.cL, T.fL _ (by simp), _, rfl, q, _, rfl, .inl (lst_at L2'.co.hq), fun s hs0 => ⟨s, rfl, ⟨_, lst_at upd_same⟩, ?_⟩⟩
    have e3 : Ex [] TL GT H2 (upd H2 s (.lst (qs2.map fun e => V.ref e.1))) := Ex.new hs0
    have L3 := L2'.keep e3 (fun _ _ => by simp)
    have hp3 := e3.lst (by simp) hp2
    have hs3 : upd H2 s (.lst (qs2.map fun e => V.ref e.1)) s = some (.lst (qs2.map fun e => V.ref e.1)) := upd_same
    have hsF : s ∉ l :: fpOf h q hs2 := L2'.notin hs0
    have hsp : s ≠ p := fun z => by rw [z, hp2] at hs0; cases hs0
    have e03 := e2.trans (e3.any)
    have hsf : s ∈ l :: fpOf h q hs ∨ free H s := e2.fresh (free_none hs0)
    generalize upd H2 s (.lst (qs2.map fun e => V.ref e.1)) = H3 at e3 L3 hp3 hs3 e03 ⊢
    refine loop_list (xs := qs2.map fun e => V.ref e.1) (SvI K CL TL GT H l dx h q (l :: fpOf h q hs) p s qs2 (lkOf hs2 qs2) fo) ⟨⟨v3, hs2, qs2, [], rfl, L3, fp2, W2, by rw [List.append_nil]; exact hp3, fun e he => by simpa using he, by simp, by simp, by simpa using hz5⟩, e03, hs3⟩ (fun i σ H' _ I => lst_at I.s) ?_ ?_
    · rintro i x σ H4 hx ⟨⟨v3, hs4, qs4, f, rfl, L4, fp4, W4, hp4, hsub, hpass, hlen, hz4⟩, e4, s4⟩
      rw [List.getElem?_map] at hx
      cases hqi : qs2[i]? with
      | none => rw [hqi] at hx; cases hx
      | some ar =>
        rw [hqi] at hx
        obtain rfl : V.ref ar.1 = x := Option.some.inj hx
        have hd := drop_at qs2 hqi
        have hd2 := drop_at (qs2.map (·.2)) (by rw [List.getElem?_map, hqi]; rfl)
        have har : ar ∈ qs4 := hsub ar (by rw [hd]; exact List.mem_cons_self)
        have hrow := L4.co.hrT ar har
        simp only [cx_K, gcx_K, lcx_K, LenV, rLenU, tTruU, kTup, tFld, sFld, sFldAug, tMet, tMake, tBM, tDGet, tDGet1, tDGet2, sDPut, tRevL, iEnum, tAug, tAsg, mulV_int, iaddU_int, isubU_int, iaddU_str, tTupL, ex2eq, not_true_eq_false, not_false_eq_true, LamX.tLam, LamX.TTold, tSeq, tIf, tNext, tRet, tRetN, tIfS, tTest, tB, tNot, tAnd, tOr, tChain, tOp, tUn, tC, tVar, tCons, tNil, tTup, tLst, tAsg, gName, gTup, gCons, gNil, gSub, tDrop, tCallS, tCB, tM1, tM0, tBM, tBM0, tSl, tPar, tFor_eq, tLc_eq, intU_int, intU_bl, iList, iTup, iEnumT, tDNewK, rSlT, rSlL, iRng1, iRng2, iStr, tThen, tNever, L2.start, tRaiseFile, tMkFile, tYes, tPart, tNoPart, addA_int, addA_str, addU_int, addU_str, addU_ref, subU_int, mulU_int, mulU_ref, fdvU_int, modU_int, powU_int, ltU_int, leU_int, gtU_int, geU_int, eqU_int, eqU_str, eqU_bl, neU_int, neU_str, neU_bl, WE, TruV, tDIn, tDNotIn, sDDel, tDSetd, tDPop1, tLock, tLockE, tLk, tLockA, tLockEA, iKeys, List.map, List.length_cons, List.length_nil, List.replicate, List.append, List.getElem?_cons_zero, List.getElem?_cons_succ, List.set_cons_zero, List.set_cons_succ, List.cons_append, List.nil_append, Option.some.injEq, V.int.injEq, V.str.injEq, V.bl.injEq, V.ref.injEq, List.cons.injEq, exists_eq_left, exists_eq_right, and_true, true_and, and_self, exists_eq, exists_const, Bool.not_true, Bool.not_false, Bool.false_eq_true, if_true, if_false, reduceIte, decide_eq_true_eq, bne_iff_ne, exists_eq_left', exists_eq', exists_and_left, Bool.not_eq_true', decide_eq_false_iff_not, Nat.reduceSub, Nat.reduceAdd, reduceCtorEq, false_and, or_false, false_or, exists_false]
        refine ⟨_, _, L4.hl, rfl, ?_⟩
        refine rIx_tup hrow (by rfl) (rIx_tup hrow (by rfl) (rIx_tup hrow (by rfl) ?_))
        refine ⟨l, ar.2.1, ar.2.2.1, ar.2.2.2, dx, h, q, hs4, qs4, rfl, L4, W4.sz, fun a5 H5 e5 ha5 hn5 => ⟨Nat.zero_le _, fun p6 hp6 => ?_⟩⟩
        have e6 : Ex [] TL GT H5 (upd H5 p6 (.lst [])) := Ex.new hp6
        have ha6 := e6.lst (by simp) ha5
        have q6 : upd H5 p6 (.lst []) p6 = some (.lst (([] : List Int).map V.int)) := upd_same
        have e46 := e5.trans e6
        generalize upd H5 p6 (.lst []) = H6 at e6 ha6 q6 e46 ⊢
        have L6 := L4.keep e46 (fun _ _ => by simp)
        have hp6' := e46.lst (by simp) hp4
        have hs6 := e46.lst (by simp) s4
        have e06 := e4.trans e46.any
        have hr6 := e46.sqt hrow
        have npq : p ≠ q := fun z => hpF (by rw [z]; simp [fpOf])
        have nsq : s ≠ q := fun z => hsF (by rw [z]; simp [fpOf])
        refine eq_lstI (lst_at ha6) (lst_at q6) ⟨_, rfl, ?_⟩
        rw [hd2, passL] at hpass
        by_cases hb : blk (lkOf hs4 qs4) ar.2.1 ar.2.2.1 ar.2.2.2 = []
        · rw [if_pos hb] at hpass
          rw [if_pos (by simpa using hb)]
          have nd4 : (qs4.map (·.2.1)).Nodup := by have := W4.qn; unfold lkOf at this; rw [List.map_map] at this; exact this
          have W7 : Wf (lkOf hs4 (rmQ qs4 ar.2.1)) := by rw [rmQ_lk]; exact W4.rm ar.2.1
          have hW5 := (W4.qr ar.2 (List.mem_map.mpr ⟨ar, har, rfl⟩))
          refine ⟨_, _, _, L6.hl, T.cL, T.fL _ (by simp), _, rfl, ?_⟩
          refine rem_row L6.co har nd4 (fun e he => (W4.qr e.2 (List.mem_map.mpr ⟨e, he, rfl⟩)).2) ?_
          have e7 : Ex [q] TL GT H6 (upd H6 q (.lst ((rmQ qs4 ar.2.1).map fun e => V.ref e.1))) := Ex.put (by simp) L6.co.hq rfl
          have C7 := L6.co.rm ar.2.1
          have l7 := e7.ext _ _ (by simp only [List.mem_singleton]; intro z; have := L6.co.hq; rw [← z, L6.hl] at this; cases this) L6.hl (fun _ z => by cases z)
          have hp7 := e7.lst (by simpa using npq) hp6'
          have hs7 := e7.lst (by simpa using nsq) hs6
          have hr7 := e7.sqt hr6
          have e07 := e06.trans (e7.mono (fun x hx => by rw [List.mem_singleton.mp hx]; simp [fpOf]))
          generalize upd H6 q (.lst ((rmQ qs4 ar.2.1).map fun e => V.ref e.1)) = H7 at e7 C7 l7 hp7 hs7 hr7 e07 ⊢
          have L7 : LP K CL H7 l dx h q hs4 (rmQ qs4 ar.2.1) := ⟨l7, C7⟩
          have hh4 : hs4.length ≤ 20 := by have := W4.h4; unfold lkOf at this; rw [List.length_map] at this; omega
          refine ⟨_, _, L7.hl, rfl, rIx_tup hr7 (by rfl) (rIx_tup hr7 (by rfl) (rIx_tup hr7 (by rfl) ?_))⟩
          refine ⟨l, ar.2.1, ar.2.2.1, ar.2.2.2, dx, h, q, hs4, rmQ qs4 ar.2.1, rfl, L7, W7.sz, hh4, fun H8 A8 => ?_⟩
          obtain ⟨e8, hs8, hv8, L8, fp8⟩ := A8
          have W8 : Wf (lkOf hs8 (rmQ qs4 ar.2.1)) := by rw [← hv8]; exact W7.take hW5.1 hW5.2 _
          have hp8 := e8.lst (L7.lst_off hp7 npq) hp7
          have hs8' := e8.lst (L7.lst_off hs7 nsq) hs7
          have hr8 := e8.sqt hr7
          have e08 := ex_behind e07 fp4 e8
          have fp8' : ∀ a ∈ l :: fpOf h q hs8, a ∈ l :: fpOf h q hs ∨ free H a := fun a ha => by
            rcases fp8 a ha with z | z
            · exact fp4 a z
            · exact e07.fresh z
          have hlt : (rmQ qs4 ar.2.1).length < qs4.length := List.length_filter_lt_length_iff_exists.mpr ⟨ar, har, by simp⟩
          rw [List.length_append] at hz4
          refine ⟨.inl ⟨rfl, _, lst_at hp8⟩, rIx_tup hr8 (by rfl) ⟨p, _, _, rfl, rfl, hp8, by rw [List.length_map, List.length_append, sizeLine_eq]; omega, ?_⟩⟩
          have e9 : Ex [p] TL GT H8 (upd H8 p (.lst ((fo ++ f).map V.int ++ [V.int ar.2.1]))) := Ex.put (by simp) hp8 rfl
          refine ⟨⟨some (.ref ar.1), hs8, rmQ qs4 ar.2.1, f ++ [ar.2.1], by simp, L8.keep e9 (fun a ha z => L8.lst_off hp8 npq (by rw [← List.mem_singleton.mp z]; exact ha)), fp8', W8, by rw [upd_same]; simp, fun e he => ?_, ?_, by rw [List.length_append, List.length_singleton]; omega, by rw [List.length_append, List.length_append, List.length_singleton]; omega⟩, e08.chg hp8 rfl (.inr hnp), by rw [upd_ne hsp]; exact hs8'⟩
          · have h1 : e ∈ qs4 := hsub e (by rw [hd]; exact List.mem_cons_of_mem _ he)
            refine List.mem_filter.mpr ⟨h1, ?_⟩
            have nd2 : (qs2.map (·.2.1)).Nodup := by have := W2.qn; unfold lkOf at this; rw [List.map_map] at this; exact this
            have nd3 := nd2.sublist (List.Sublist.map _ (List.drop_sublist i qs2))
            rw [hd, List.map_cons, List.nodup_cons] at nd3
            have : e.2.1 ≠ ar.2.1 := fun z => nd3.1 (by rw [← z]; exact List.mem_map.mpr ⟨e, he, rfl⟩)
            simpa using this
          · rw [hpass, ← rmQ_lk, hv8]
            simp
        · rw [if_neg hb] at hpass
          rw [if_neg (by simpa using hb)]
          exact ⟨⟨_, hs4, qs4, f, rfl, L6, fp4, W4, hp6', fun e he => hsub e (by rw [hd]; exact List.mem_cons_of_mem _ he), hpass, hlen, hz4⟩, e06, hs6⟩
    · rintro σ H4 ⟨⟨v3, hs4, qs4, f, rfl, L4, fp4, W4, hp4, hsub, hpass, hlen, hz4⟩, e4, s4⟩
      rw [List.length_map, List.drop_eq_nil_of_le (by simp), passL] at hpass
      rw [List.append_nil] at hpass
      have hr2 : serveN n (lkOf hs2 qs2) = if f = [] then (lkOf hs4 qs4, []) else ((serveN (n - 1) (lkOf hs4 qs4)).1, f ++ (serveN (n - 1) (lkOf hs4 qs4)).2) := by
        obtain ⟨m, rfl⟩ : ∃ m, n = m + 1 := ⟨n - 1, by omega⟩
        show (if (passL (lkOf hs2 qs2) (qs2.map (·.2))).2 = [] then _ else _) = _
        show (if (passL (lkOf hs2 qs2) (qs2.map (·.2))).2 = [] then ((passL (lkOf hs2 qs2) (qs2.map (·.2))).1, []) else ((serveN m (passL (lkOf hs2 qs2) (qs2.map (·.2))).1).1, (passL (lkOf hs2 qs2) (qs2.map (·.2))).2 ++ (serveN m (passL (lkOf hs2 qs2) (qs2.map (·.2))).1).2)) = _
        rw [hpass]
        rfl
      rw [hr2] at hr
      rw [List.length_append] at hz4
      refine ⟨n - 1, by omega, decide (f ≠ []), v3, hs4, qs4, fo ++ f, rfl, e4, L4, fp4, W4, hp4, fun hf => ?_, fun hf => ?_, by rw [List.length_append]; omega⟩
      · have hf' : f ≠ [] := by simpa using hf
        have : 0 < f.length := List.length_pos_iff.mpr hf'
        rw [if_neg hf'] at hr
        exact ⟨by omega, by rw [hr, List.append_assoc]⟩
      · have hf' : f = [] := by simpa using hf
        rw [if_pos hf'] at hr
        rw [hr, hf', List.append_nil]
end
end KL
end
section
set_option Elab.async false
set_option linter.all false
set_option maxRecDepth 100000
set_option maxHeartbeats 2000000
set_option pp.maxSteps 900
namespace KL
open PySem PySem.Spec PyProof.Rows L2 GX
def dropI (t : Tab) (who : Int) : Tab := t.filter fun p => decide (p.1 ≠ who)
def delN (l : List (Str × Tab)) (n : Str) : List (Str × Tab) := l.filter fun e => decide (e.1 ≠ n)
def dropL (v : Lk) (who : Int) (n : Str) : Lk := { v with held := if dropI (hold v n) who = [] then delN v.held n else setT v.held n (dropI (hold v n) who) }
theorem dropI_nodup {t : Tab} (h : (t.map (·.1)).Nodup) (who : Int) : ((dropI t who).map (·.1)).Nodup := h.sublist (List.Sublist.map _ List.filter_sublist)
theorem Wf.drop {v : Lk} (W : Wf v) (who : Int) (n : Str) : Wf (dropL v who n) := by
  have hN := W.hold n
  by_cases hd : dropI (KL.hold v n) who = []
  · have e : dropL v who n = { v with held := delN v.held n } := by unfold dropL; rw [if_pos hd]
    rw [e]
    exact ⟨W.qn, W.qr, W.hn.sublist (List.Sublist.map _ List.filter_sublist), fun e he => W.hr e (List.mem_filter.mp he).1, fun e he => W.tn e (List.mem_filter.mp he).1⟩
  · have e : dropL v who n = { v with held := setT v.held n (dropI (KL.hold v n) who) } := by unfold dropL; rw [if_neg hd]
    rw [e]
    refine ⟨W.qn, W.qr, ?_, fun e he => ?_, fun e he => ?_⟩
    · show ((setT v.held n _).map (·.1)).Nodup
      rw [setT_fst]; exact W.hn
    · obtain ⟨x, hx, rfl⟩ := List.mem_map.mp he
      show (if x.1 = n then _ else x).1 ∈ nms
      split <;> exact W.hr x hx
    · obtain ⟨x, hx, rfl⟩ := List.mem_map.mp he
      by_cases z : x.1 = n
      · rw [if_pos z]
        exact ⟨dropI_nodup hN.1 who, hd, fun p hp => hN.2 p (List.mem_filter.mp hp).1⟩
      · rw [if_neg z]; exact W.tn x hx
section
variable {P : Program} {w : World} {K : PySem.W.Frag} {mg : Str → Option Value} {base : Heap} {CL PE : Addr} {TL : List (Addr × Str)} {GT : List Addr} {H H' : Hp} {h q l dx : Addr} {hs : List (Str × Addr × Tab)} {qs : List (Addr × Row)} {v : Lk} {F A : List Addr}
def delH (hs : List (Str × Addr × Tab)) (n : Str) : List (Str × Addr × Tab) := hs.filter fun e => decide (e.1 ≠ n)
theorem delH_lk (hs : List (Str × Addr × Tab)) (qs : List (Addr × Row)) (n : Str) : lkOf (delH hs n) qs = { lkOf hs qs with held := delN (lkOf hs qs).held n } := by
  unfold lkOf delH delN
  simp only [List.filter_map]
  rfl
theorem drop_tab (t : Tab) (who : Int) : dropK (tabK t) (.inl who) = tabK (dropI t who) := by
  unfold dropK tabK dropI
  rw [List.filter_map]
  congr 1
  refine List.filter_congr fun x _ => ?_
  show decide ((Sum.inl x.1 : Key) ≠ .inl who) = decide (x.1 ≠ who)
  simp
theorem drop_kvH (hs : List (Str × Addr × Tab)) (n : Str) : dropK (kvH hs) (.inr n) = kvH (delH hs n) := by
  unfold dropK kvH delH
  rw [List.filter_map]
  congr 1
  refine List.filter_congr fun x _ => ?_
  show decide ((Sum.inr x.1 : Key) ≠ .inr n) = decide (x.1 ≠ n)
  simp
theorem Co.delName (C : Co K H h q hs qs) (n : Str) : Co K (upd H h (.dK (kvH (delH hs n)))) h q (delH hs n) qs := by
  obtain ⟨hh, hq, ht, hr, nh, nq, nn, nk, nm⟩ := C
  have e1 : Ex [h] [] [] H (upd H h (.dK (kvH (delH hs n)))) := Ex.put (by simp) hh rfl
  have nqh : q ≠ h := fun z => by rw [z, hh] at hq; cases hq
  have sub : ∀ x ∈ delH hs n, x ∈ hs := fun x hx => (List.mem_filter.mp hx).1
  refine ⟨upd_same, by rw [upd_ne nqh]; exact hq, fun x hx => ?_, fun x hx => e1.tup _ _ (hr x hx), nh.sublist (List.Sublist.map _ List.filter_sublist), nq, fun z => nn ?_, fun x hx => nk x (sub x hx), nm.sublist (List.Sublist.map _ List.filter_sublist)⟩
  · rw [upd_ne (fun z => nn (by rw [← z]; exact List.mem_map.mpr ⟨x, sub x hx, rfl⟩))]
    exact ht x (sub x hx)
  · obtain ⟨x, hx, e⟩ := List.mem_map.mp z
    exact List.mem_map.mpr ⟨x, sub x hx, e⟩
theorem fh_set {n : Str} {e : Str × Addr × Tab} {t : Tab} (h : fh hs n = some e) : fh (setH hs e.1 t) n = some (e.1, e.2.1, t) := by
  obtain ⟨he, hen⟩ := fh_mem h
  subst hen
  clear he
  induction hs with
  | nil => cases h
  | cons x hs ih =>
    unfold fh setH at *
    rw [List.map_cons]
    by_cases z : x.1 = e.1
    · rw [List.find?_cons_of_pos (by simpa using z)] at h
      cases h
      rw [if_pos rfl, List.find?_cons_of_pos (by simp)]
    · rw [List.find?_cons_of_neg (by simpa using z)] at h
      rw [if_neg z, List.find?_cons_of_neg (by simpa using z)]
      exact ih h
theorem delN_set (l : List (Str × Tab)) (n : Str) (t : Tab) : delN (setT l n t) n = delN l n := by
  unfold delN setT
  induction l with
  | nil => rfl
  | cons x l ih =>
    rw [List.map_cons]
    by_cases z : x.1 = n
    · rw [if_pos z, List.filter_cons_of_neg (by simp [z]), List.filter_cons_of_neg (by simp [z]), ih]
    · rw [if_neg z, List.filter_cons_of_pos (by simpa using z), List.filter_cons_of_pos (by simpa using z), ih]
def spRel (K : PySem.W.Frag) (CL PE : Addr) (TL : List (Addr × Str)) (GT : List Addr) : Sp := fun vs H Q E => ∃ l who n dx h q hs qs, vs = [.ref l, .int who, .str n] ∧ LP K CL H l dx h q hs qs ∧ Wf (lkOf hs qs) ∧
  (keyI (hold (lkOf hs qs) n) who = true → ∀ a H' qs', AftL K CL TL GT H l dx h q (l :: fpOf h q hs) (serveN 50 (dropL (lkOf hs qs) who n)).1 qs' H' → H' a = some (.lst ((serveN 50 (dropL (lkOf hs qs) who n)).2.map V.int)) → (a ∈ l :: fpOf h q hs ∨ free H a) → Q (.ref a) H') ∧
  (keyI (hold (lkOf hs qs) n) who = false → ∀ H', Ex [] TL GT H H' → E (.ref PE) none H')
theorem m_rel (T : KL.Txt P w K mg base CL PE TL GT) : Met P w K mg base 10 CL "release" [] (spRel K CL PE TL GT) := by
  have m_Locks_holders_of := m_hold T
  have m_Locks_serve := m_serve T
  obtain ⟨f, fd, c, D, hm⟩ := T.l_release
  refine met_of T.cL hm ?_ (D.bind0 (ps := ["self", "who", "name"]) (fun _ _ _ _ _ _ us hl => match us, hl with | [_, _, _], _ => rfl))
  refine D.okF (N := ["self", "who", "name"]) (ps := ["self", "who", "name"]) ⟨rfl, rfl, rfl, by decide +kernel, rfl, by decide +kernel, by decide +kernel⟩ (fun vs H Q E h => by first | (obtain ⟨_, rfl, _⟩ := h; rfl) | (obtain ⟨_, _, rfl, _⟩ := h; rfl) | (obtain ⟨_, _, _, rfl, _⟩ := h; rfl) | (obtain ⟨_, _, _, _, rfl, _⟩ := h; rfl) | (obtain ⟨_, _, _, _, _, rfl, _⟩ := h; rfl) | (obtain ⟨_, _, _, _, _, _, rfl, _⟩ := h; rfl) | (obtain ⟨_, _, _, _, _, _, _, rfl, _⟩ := h; rfl) | (obtain ⟨_, _, _, _, _, _, _, _, rfl, _⟩ := h; rfl) | (obtain ⟨_, _, _, _, _, _, _, _, _, rfl, _⟩ := h; rfl) | (obtain ⟨_, _, _, _, _, _, _, _, _, _, rfl, _⟩ := h; rfl) | (obtain ⟨_, _, _, _, _, _, _, _, _, _, _, rfl, _⟩ := h; rfl) | (obtain ⟨_, _, _, _, _, _, _, _, _, _, _, _, rfl, _⟩ := h; rfl) | (obtain ⟨_, _, _, _, _, _, _, _, _, _, _, _, _, rfl, _⟩ := h; rfl) | (obtain ⟨_, _, _, _, _, _, _, _, _, _, _, _, _, _, rfl, _⟩ := h; rfl) | (obtain ⟨_, _, _, _, _, _, _, _, _, _, _, _, _, _, _, rfl, _⟩ := h; rfl) | (obtain ⟨rfl, _⟩ := h; rfl)) (fun A outer s H vs Q E hr h => ?_)
  have nd : (["self", "who", "name"] : List Str).Nodup := by decide
  refine mk_ex (pss_cons (ps_if (pt_cmp (pc_dnotin (roomD hr) (pv 1) (pe_met m_Locks_holders_of (hr.mono (by decide)) (takes_of rfl rfl rfl rfl) (pv 0) (by exact (pa_cons (pv 2) pa_nil))))) (pss_one (ps_raise rfl (takes_of rfl rfl rfl rfl) (by exact (pmk_plain T.x_ProcessError)))) pss_nil)
    (pss_cons (ps_ddel (pe_dget (roomD hr) (fldK (K := K) rfl (pe_fld (pv 0) rfl)) (pv 2) (fun _ _ => rfl)) (pv 1))
    (pss_cons (ps_if (pt_cmpR (opK (K := K) (r := rEqE) (opE_eq (roomEq hr)) rfl) (pe_dget (roomD hr) (fldK (K := K) rfl (pe_fld (pv 0) rfl)) (pv 2) (fun _ _ => rfl)) pe_dnewK (nomark _)) (pss_one (ps_ddel (fldK (K := K) rfl (pe_fld (pv 0) rfl)) (pv 2))) pss_nil)
    (pss_one (ps_ret (pe_met0 m_Locks_serve (hr.mono (by decide)) (takes_of rfl rfl rfl rfl) (pv 0))))))) ?_
  obtain ⟨l, who, n, dx, h, q, hs, qs, rfl, L, W, hq, he⟩ := h
  simp only [cx_K, gcx_K, lcx_K, LenV, rLenU, tTruU, kTup, tFld, sFld, sFldAug, tMet, tMake, tBM, tDGet, tDGet1, tDGet2, sDPut, tRevL, iEnum, tAug, tAsg, mulV_int, iaddU_int, isubU_int, iaddU_str, tTupL, ex2eq, not_true_eq_false, not_false_eq_true, LamX.tLam, LamX.TTold, tSeq, tIf, tNext, tRet, tRetN, tIfS, tTest, tB, tNot, tAnd, tOr, tChain, tOp, tUn, tC, tVar, tCons, tNil, tTup, tLst, tAsg, gName, gTup, gCons, gNil, gSub, tDrop, tCallS, tCB, tM1, tM0, tBM, tBM0, tSl, tPar, tFor_eq, tLc_eq, intU_int, intU_bl, iList, iTup, iEnumT, tDNewK, rSlT, rSlL, iRng1, iRng2, iStr, tThen, tNever, L2.start, tRaiseFile, tMkFile, tYes, tPart, tNoPart, addA_int, addA_str, addU_int, addU_str, addU_ref, subU_int, mulU_int, mulU_ref, fdvU_int, modU_int, powU_int, ltU_int, leU_int, gtU_int, geU_int, eqU_int, eqU_str, eqU_bl, neU_int, neU_str, neU_bl, WE, TruV, tDIn, tDNotIn, sDDel, tDSetd, tDPop1, tLock, tLockE, tLk, tLockA, tLockEA, iKeys, List.map, List.length_cons, List.length_nil, List.replicate, List.append, List.getElem?_cons_zero, List.getElem?_cons_succ, List.set_cons_zero, List.set_cons_succ, List.cons_append, List.nil_append, Option.some.injEq, V.int.injEq, V.str.injEq, V.bl.injEq, V.ref.injEq, List.cons.injEq, exists_eq_left, exists_eq_right, and_true, true_and, and_self, exists_eq, exists_const, Bool.not_true, Bool.not_false, Bool.false_eq_true, if_true, if_false, reduceIte, decide_eq_true_eq, bne_iff_ne, exists_eq_left', exists_eq', exists_and_left, Bool.not_eq_true', decide_eq_false_iff_not, Nat.reduceSub, Nat.reduceAdd, reduceCtorEq, false_and, or_false, false_or, exists_false]
  refine ⟨_, _, L.hl, rfl, l, n, dx, h, q, hs, qs, rfl, L, fun a H2 e2 ha hQ => ⟨a, rfl, _, .inl ⟨_, .inl who, .inl ha, rfl, rfl⟩, ?_⟩⟩
  rw [val_key]
  cases hk : keyI (hold (lkOf hs qs) n) who with
  | false =>
    rw [if_pos rfl]
    exact he hk H2 e2
  | true =>
    rw [if_neg (by decide)]
    obtain ⟨e0, hf⟩ : ∃ e, fh hs n = some e := by
      cases hf : fh hs n with
      | none => rw [hold_fh, hf] at hk; cases hk
      | some e => exact ⟨e, rfl⟩
    obtain ⟨he0, hen⟩ := fh_mem hf
    have ht : hold (lkOf hs qs) n = e0.2.2 := by rw [hold_fh, hf]; rfl
    have L2' := L.keep e2 (fun _ _ => by simp)
    have hnk : ((dropI e0.2.2 who).map (·.1)).Nodup := dropI_nodup (L.co.nk e0 he0) who
    refine ⟨_, _, _, L2'.hl, T.cL, T.fL _ (by simp), _, rfl, h, rfl, _, .inl ⟨kvH hs, .inr n, .inl L2'.co.hh, rfl, by rw [val_hs, hf]; rfl⟩, e0.2.1, rfl, _, L2'.co.ht e0 he0, .inl who, rfl, by rw [val_key, ← ht]; exact hk, ?_⟩
    rw [drop_tab]
    have C3 := L2'.co.setTab he0 hnk
    have hmem : e0.2.1 ∈ l :: fpOf h q hs := by
      simp only [fpOf, List.mem_cons, List.mem_map]; exact .inr (.inr (.inr ⟨e0, he0, rfl⟩))
    have e3 : Ex (l :: fpOf h q hs) TL GT H (upd H2 e0.2.1 (.dK (tabK (dropI e0.2.2 who)))) := e2.any.chg (L2'.co.ht e0 he0) rfl (.inl hmem)
    have l3 : upd H2 e0.2.1 (.dK (tabK (dropI e0.2.2 who))) l = some (.ins CL dx [("held", .ref h), ("queue", .ref q)]) := by
      rw [upd_ne (fun z => by have := L2'.co.ht e0 he0; rw [← z, L2'.hl] at this; cases this)]; exact L2'.hl
    have t3 : upd H2 e0.2.1 (.dK (tabK (dropI e0.2.2 who))) e0.2.1 = some (.dK (tabK (dropI e0.2.2 who))) := upd_same
    generalize upd H2 e0.2.1 (.dK (tabK (dropI e0.2.2 who))) = H3 at e3 l3 t3 C3 ⊢
    have L3 : LP K CL H3 l dx h q (setH hs e0.1 (dropI e0.2.2 who)) qs := ⟨l3, C3⟩
    have hv3 : fh (setH hs e0.1 (dropI e0.2.2 who)) n = some (e0.1, e0.2.1, dropI e0.2.2 who) := fh_set hf
    have fpe : fpOf h q (setH hs e0.1 (dropI e0.2.2 who)) = fpOf h q hs := by unfold fpOf; rw [setH_adr]
    try simp only [cx_K, gcx_K, lcx_K, LenV, rLenU, tTruU, kTup, tFld, sFld, sFldAug, tMet, tMake, tBM, tDGet, tDGet1, tDGet2, sDPut, tRevL, iEnum, tAug, tAsg, mulV_int, iaddU_int, isubU_int, iaddU_str, tTupL, ex2eq, not_true_eq_false, not_false_eq_true, LamX.tLam, LamX.TTold, tSeq, tIf, tNext, tRet, tRetN, tIfS, tTest, tB, tNot, tAnd, tOr, tChain, tOp, tUn, tC, tVar, tCons, tNil, tTup, tLst, tAsg, gName, gTup, gCons, gNil, gSub, tDrop, tCallS, tCB, tM1, tM0, tBM, tBM0, tSl, tPar, tFor_eq, tLc_eq, intU_int, intU_bl, iList, iTup, iEnumT, tDNewK, rSlT, rSlL, iRng1, iRng2, iStr, tThen, tNever, L2.start, tRaiseFile, tMkFile, tYes, tPart, tNoPart, addA_int, addA_str, addU_int, addU_str, addU_ref, subU_int, mulU_int, mulU_ref, fdvU_int, modU_int, powU_int, ltU_int, leU_int, gtU_int, geU_int, eqU_int, eqU_str, eqU_bl, neU_int, neU_str, neU_bl, WE, TruV, tDIn, tDNotIn, sDDel, tDSetd, tDPop1, tLock, tLockE, tLk, tLockA, tLockEA, iKeys, List.map, List.length_cons, List.length_nil, List.replicate, List.append, List.getElem?_cons_zero, List.getElem?_cons_succ, List.set_cons_zero, List.set_cons_succ, List.cons_append, List.nil_append, Option.some.injEq, V.int.injEq, V.str.injEq, V.bl.injEq, V.ref.injEq, List.cons.injEq, exists_eq_left, exists_eq_right, and_true, true_and, and_self, exists_eq, exists_const, Bool.not_true, Bool.not_false, Bool.false_eq_true, if_true, if_false, reduceIte, decide_eq_true_eq, bne_iff_ne, exists_eq_left', exists_eq', exists_and_left, Bool.not_eq_true', decide_eq_false_iff_not, Nat.reduceSub, Nat.reduceAdd, reduceCtorEq, false_and, or_false, false_or, exists_false]
    have fin : ∀ (H5 : Hp) (hs5 : List (Str × Addr × Tab)) (E5 : XK), Ex (l :: fpOf h q hs) TL GT H H5 → LP K CL H5 l dx h q hs5 qs → lkOf hs5 qs = dropL (lkOf hs qs) who n → (∀ a ∈ l :: fpOf h q hs5, a ∈ l :: fpOf h q hs ∨ free H a) → spServe K CL TL GT [V.ref l] H5 Q E5 := by
      intro H5 hs5 E5 e5 L5 hv fp5
      refine ⟨l, dx, h, q, hs5, qs, rfl, L5, by rw [hv]; exact W.drop who n, fun a H6 qs6 A6 ha6 hn6 => hq hk a H6 qs6 ⟨ex_behind e5 fp5 A6.e, ?_⟩ (by rw [ha6, hv]) ?_⟩
      · obtain ⟨hs6, hv6, L6, fp6⟩ := A6.at_
        rw [hv] at hv6
        refine ⟨hs6, hv6, L6, fun a ha => ?_⟩
        rcases fp6 a ha with z | z
        · exact fp5 a z
        · exact e5.fresh z
      · exact e5.fresh hn6
    refine ⟨_, _, _, L3.hl, T.cL, T.fL _ (by simp), _, rfl, h, rfl, _, .inl ⟨kvH (setH hs e0.1 (dropI e0.2.2 who)), .inr n, .inl L3.co.hh, rfl, by rw [val_hs, hv3]; rfl⟩, fun p hp => ?_⟩
    have e4 : Ex [] TL GT H3 (upd H3 p (.dK [])) := Ex.new hp
    have L4 := L3.keep e4 (fun _ _ => by simp)
    have t4 : upd H3 p (.dK []) e0.2.1 = some (.dK (tabK (dropI e0.2.2 who))) := e4.ext _ _ (by simp) t3 (fun _ z => by cases z)
    have p4 : upd H3 p (.dK []) p = some (.dK []) := upd_same
    have e04 := e3.trans e4.any
    generalize upd H3 p (.dK []) = H4 at e4 L4 t4 p4 e04 ⊢
    refine .inr ⟨_, p, _, rfl, rfl, t4, p4, _, rfl, ?_⟩
    have hv : lkOf (setH hs e0.1 (dropI e0.2.2 who)) qs = { lkOf hs qs with held := setT (lkOf hs qs).held n (dropI (hold (lkOf hs qs) n) who) } := by rw [setH_lk, hen, ht]
    by_cases hd : dropI e0.2.2 who = []
    · rw [if_pos (by rw [hd]; rfl)]
      refine ⟨_, _, _, L4.hl, T.cL, T.fL _ (by simp), _, rfl, h, rfl, _, L4.co.hh, .inr n, rfl, by show (valV (kvH (setH hs e0.1 (dropI e0.2.2 who))) (.inr n)).isSome = true; rw [val_hs, hv3]; rfl, ?_⟩
      rw [show dropK (List.map (fun e : Str × Addr × Tab => ((Sum.inr e.1 : Key), V.ref e.2.1)) (setH hs e0.1 (dropI e0.2.2 who))) (.inr n) = kvH (delH (setH hs e0.1 (dropI e0.2.2 who)) n) from drop_kvH _ _]
      have C5 := L4.co.delName n
      have e5 : Ex (l :: fpOf h q hs) TL GT H (upd H4 h (.dK (kvH (delH (setH hs e0.1 (dropI e0.2.2 who)) n)))) := e04.chg L4.co.hh rfl (.inl (by simp [fpOf]))
      have l5 : upd H4 h (.dK (kvH (delH (setH hs e0.1 (dropI e0.2.2 who)) n))) l = some (.ins CL dx [("held", .ref h), ("queue", .ref q)]) := by
        rw [upd_ne (fun z => by have := L4.co.hh; rw [← z, L4.hl] at this; cases this)]; exact L4.hl
      generalize upd H4 h (.dK (kvH (delH (setH hs e0.1 (dropI e0.2.2 who)) n))) = H5 at C5 e5 l5 ⊢
      try simp only [cx_K, gcx_K, lcx_K, LenV, rLenU, tTruU, kTup, tFld, sFld, sFldAug, tMet, tMake, tBM, tDGet, tDGet1, tDGet2, sDPut, tRevL, iEnum, tAug, tAsg, mulV_int, iaddU_int, isubU_int, iaddU_str, tTupL, ex2eq, not_true_eq_false, not_false_eq_true, LamX.tLam, LamX.TTold, tSeq, tIf, tNext, tRet, tRetN, tIfS, tTest, tB, tNot, tAnd, tOr, tChain, tOp, tUn, tC, tVar, tCons, tNil, tTup, tLst, tAsg, gName, gTup, gCons, gNil, gSub, tDrop, tCallS, tCB, tM1, tM0, tBM, tBM0, tSl, tPar, tFor_eq, tLc_eq, intU_int, intU_bl, iList, iTup, iEnumT, tDNewK, rSlT, rSlL, iRng1, iRng2, iStr, tThen, tNever, L2.start, tRaiseFile, tMkFile, tYes, tPart, tNoPart, addA_int, addA_str, addU_int, addU_str, addU_ref, subU_int, mulU_int, mulU_ref, fdvU_int, modU_int, powU_int, ltU_int, leU_int, gtU_int, geU_int, eqU_int, eqU_str, eqU_bl, neU_int, neU_str, neU_bl, WE, TruV, tDIn, tDNotIn, sDDel, tDSetd, tDPop1, tLock, tLockE, tLk, tLockA, tLockEA, iKeys, List.map, List.length_cons, List.length_nil, List.replicate, List.append, List.getElem?_cons_zero, List.getElem?_cons_succ, List.set_cons_zero, List.set_cons_succ, List.cons_append, List.nil_append, Option.some.injEq, V.int.injEq, V.str.injEq, V.bl.injEq, V.ref.injEq, List.cons.injEq, exists_eq_left, exists_eq_right, and_true, true_and, and_self, exists_eq, exists_const, Bool.not_true, Bool.not_false, Bool.false_eq_true, if_true, if_false, reduceIte, decide_eq_true_eq, bne_iff_ne, exists_eq_left', exists_eq', exists_and_left, Bool.not_eq_true', decide_eq_false_iff_not, Nat.reduceSub, Nat.reduceAdd, reduceCtorEq, false_and, or_false, false_or, exists_false]
      refine ⟨_, _, l5, rfl, fin H5 _ _ e5 ⟨l5, C5⟩ ?_ fun a ha => .inl ?_⟩
      · rw [delH_lk, hv]
        unfold dropL
        rw [ht, if_pos hd, delN_set]
      · simp only [fpOf, List.mem_cons, delH, List.mem_map, List.mem_filter] at ha ⊢
        rcases ha with z | z | z | ⟨x, ⟨hx, _⟩, hxa⟩
        · exact .inl z
        · exact .inr (.inl z)
        · exact .inr (.inr (.inl z))
        · refine .inr (.inr (.inr ?_))
          have : x.2.1 ∈ (setH hs e0.1 (dropI e0.2.2 who)).map (·.2.1) := List.mem_map.mpr ⟨x, hx, rfl⟩
          rw [setH_adr] at this
          rw [← hxa]
          obtain ⟨y, hy, e⟩ := List.mem_map.mp this
          exact ⟨y, hy, e⟩
    · rw [if_neg (by
        have : tabK (dropI e0.2.2 who) ≠ [] := fun z => hd (List.map_eq_nil_iff.mp z)
        simpa using this)]
      refine ⟨_, _, L4.hl, rfl, fin H4 _ _ e04 L4 ?_ fun a ha => .inl ?_⟩
      · rw [hv]
        unfold dropL
        rw [ht, if_neg hd]
      · rw [fpe] at ha; exact ha
end
end KL
end
section
set_option Elab.async false
set_option linter.all false
set_option maxRecDepth 100000
set_option maxHeartbeats 2000000
set_option pp.maxSteps 900
namespace KL
open PySem PySem.Spec PyProof.Rows L2 GX
section
variable {P : Program} {w : World} {K : PySem.W.Frag} {mg : Str → Option Value} {base : Heap} {CL PE : Addr} {TL : List (Addr × Str)} {GT : List Addr} {H H' : Hp} {h q l dx : Addr} {hs : List (Str × Addr × Tab)} {qs : List (Addr × Row)} {v : Lk} {F A : List Addr}
def othersL (t : Tab) (who : Int) : List Int := (t.filter fun p => decide (p.1 ≠ who)).map (·.1)
structure FiI (TL : List (Addr × Str)) (GT : List Addr) (H : Hp) (a D : Addr) (od : Obj) (t : Tab) (who : Int) (i : Nat) (H' : Hp) : Prop where
  e : Ex [a] TL GT H H'
  lk : H' a = some (.frz od (.dK (tabK t)))
  f : H' D = some (.lst ((othersL (t.take i) who).map V.int))
def spFits (K : PySem.W.Frag) (CL : Addr) (TL : List (Addr × Str)) (GT : List Addr) : Sp := fun vs H Q E => ∃ l who n dx h q hs qs, vs = [.ref l, .int who, .str n, .str ("alone" : Str)] ∧ LP K CL H l dx h q hs qs ∧ Wf (lkOf hs qs) ∧
  ∀ H', Ex [] TL GT H H' → Q (.bl (decide (othersL (hold (lkOf hs qs) n) who = []))) H'
theorem m_fits (T : KL.Txt P w K mg base CL PE TL GT) : Met P w K mg base 5 CL "fits" [] (spFits K CL TL GT) := by
  have m_Locks_holders_of := m_hold T
  obtain ⟨f, fd, c, D, hm⟩ := T.l_fits
  refine met_of T.cL hm ?_ (D.bind0 (ps := ["self", "who", "name", "how"]) (fun _ _ _ _ _ _ us hl => match us, hl with | [_, _, _, _], _ => rfl))
  refine D.okF (N := ["self", "who", "name", "how", "others", "one"]) (ps := ["self", "who", "name", "how"]) ⟨rfl, rfl, rfl, by decide +kernel, rfl, by decide +kernel, by decide +kernel⟩ (fun vs H Q E h => by first | (obtain ⟨_, rfl, _⟩ := h; rfl) | (obtain ⟨_, _, rfl, _⟩ := h; rfl) | (obtain ⟨_, _, _, rfl, _⟩ := h; rfl) | (obtain ⟨_, _, _, _, rfl, _⟩ := h; rfl) | (obtain ⟨_, _, _, _, _, rfl, _⟩ := h; rfl) | (obtain ⟨_, _, _, _, _, _, rfl, _⟩ := h; rfl) | (obtain ⟨_, _, _, _, _, _, _, rfl, _⟩ := h; rfl) | (obtain ⟨_, _, _, _, _, _, _, _, rfl, _⟩ := h; rfl) | (obtain ⟨_, _, _, _, _, _, _, _, _, rfl, _⟩ := h; rfl) | (obtain ⟨_, _, _, _, _, _, _, _, _, _, rfl, _⟩ := h; rfl) | (obtain ⟨_, _, _, _, _, _, _, _, _, _, _, rfl, _⟩ := h; rfl) | (obtain ⟨_, _, _, _, _, _, _, _, _, _, _, _, rfl, _⟩ := h; rfl) | (obtain ⟨_, _, _, _, _, _, _, _, _, _, _, _, _, rfl, _⟩ := h; rfl) | (obtain ⟨_, _, _, _, _, _, _, _, _, _, _, _, _, _, rfl, _⟩ := h; rfl) | (obtain ⟨_, _, _, _, _, _, _, _, _, _, _, _, _, _, _, rfl, _⟩ := h; rfl) | (obtain ⟨rfl, _⟩ := h; rfl)) (fun A outer s H vs Q E hr h => ?_)
  have nd : (["self", "who", "name", "how", "others", "one"] : List Str).Nodup := by decide
  refine mk_ex (pss_cons (ps_lockA (ps_setLc (i := 4) rfl nd rfl rfl rfl (pi_keys (pe_lk (pe_met m_Locks_holders_of (hr.mono (by decide)) (takes_of rfl rfl rfl rfl) (pv 0) (by exact (pa_cons (pv 2) pa_nil))))) (show BlkOk ["self", "who", "name", "how", "others", "one"] (defScope (inClass (top 4) 2)) _ [("one", 5)] from blkOk_by (by decide +kernel)) (fun s H C cl fp => (pg_name (i := 5) nd rfl (Or.inl rfl))) (fun s H C cl fp => (pts_one (pt_cmpR (opK (K := K) (r := rNeU) (opU_ne (roomEq hr)) rfl) (pv 5) (pv 1) (nomark _)))) (fun s H C cl fp => (pv 5))))
    (pss_cons (ps_if (pt_cmpR (opK (K := K) (r := rEqU) (opU_eq (roomEq hr)) rfl) (pv 3) pe_str (nomark _)) (pss_one (ps_ret (pe_cmpR (opK (K := K) (r := rEqU) (opU_eq (roomEq hr)) rfl) (pv 4) (pe_lst pa_nil) (nomark _)))) pss_nil)
    (pss_one ps_never))) ?_
  obtain ⟨l, who, n, dx, h, q, hs, qs, rfl, L, W, hq⟩ := h
  simp only [cx_K, gcx_K, lcx_K, LenV, rLenU, tTruU, kTup, tFld, sFld, sFldAug, tMet, tMake, tBM, tDGet, tDGet1, tDGet2, sDPut, tRevL, iEnum, tAug, tAsg, mulV_int, iaddU_int, isubU_int, iaddU_str, tTupL, ex2eq, not_true_eq_false, not_false_eq_true, LamX.tLam, LamX.TTold, tSeq, tIf, tNext, tRet, tRetN, tIfS, tTest, tB, tNot, tAnd, tOr, tChain, tOp, tUn, tC, tVar, tCons, tNil, tTup, tLst, tAsg, gName, gTup, gCons, gNil, gSub, tDrop, tCallS, tCB, tM1, tM0, tBM, tBM0, tSl, tPar, tFor_eq, tLc_eq, intU_int, intU_bl, iList, iTup, iEnumT, tDNewK, rSlT, rSlL, iRng1, iRng2, iStr, tThen, tNever, L2.start, tRaiseFile, tMkFile, tYes, tPart, tNoPart, addA_int, addA_str, addU_int, addU_str, addU_ref, subU_int, mulU_int, mulU_ref, fdvU_int, modU_int, powU_int, ltU_int, leU_int, gtU_int, geU_int, eqU_int, eqU_str, eqU_bl, neU_int, neU_str, neU_bl, WE, TruV, tDIn, tDNotIn, sDDel, tDSetd, tDPop1, tLock, tLockE, tLk, tLockA, tLockEA, iKeys, List.map, List.length_cons, List.length_nil, List.replicate, List.append, List.getElem?_cons_zero, List.getElem?_cons_succ, List.set_cons_zero, List.set_cons_succ, List.cons_append, List.nil_append, Option.some.injEq, V.int.injEq, V.str.injEq, V.bl.injEq, V.ref.injEq, List.cons.injEq, exists_eq_left, exists_eq_right, and_true, true_and, and_self, exists_eq, exists_const, Bool.not_true, Bool.not_false, Bool.false_eq_true, if_true, if_false, reduceIte, decide_eq_true_eq, bne_iff_ne, exists_eq_left', exists_eq', exists_and_left, Bool.not_eq_true', decide_eq_false_iff_not, Nat.reduceSub, Nat.reduceAdd, reduceCtorEq, false_and, or_false, false_or, exists_false]
  refine ⟨_, _, L.hl, rfl, l, n, dx, h, q, hs, qs, rfl, L, fun a H2 e2 ha hQ => ⟨a, rfl, _, ha, trivial, fun od => ⟨a, rfl, od, .inl ⟨_, upd_same, fun D hD => ?_⟩⟩⟩⟩
  have hDa : D ≠ a := fun z => by rw [z, upd_same] at hD; cases hD
  have hD2 : H2 D = none := by rw [upd_ne hDa] at hD; exact hD
  have hDf := (e2.fresh (free_none hD2)).resolve_left (by simp)
  have hnF : H a = none ∨ ∃ o, H a = some o ∧ o = .dK (tabK (hold (lkOf hs qs) n)) := by
    rcases hQ with ⟨e, he, rfl⟩ | ⟨_, z⟩
    · exact .inr ⟨_, L.co.ht e (fh_mem he).1, by rw [hold_fh, he]; rfl⟩
    · exact .inl z
  have hz := (W.sz).2 n
  generalize ht : hold (lkOf hs qs) n = t at *
  have e3 : Ex [a] TL GT H (upd H2 a (.frz od (.dK (tabK t)))) := e2.any.chg ha rfl (.inl (by simp))
  have a3 : upd H2 a (.frz od (.dK (tabK t))) a = some (.frz od (.dK (tabK t))) := upd_same
  generalize upd H2 a (.frz od (.dK (tabK t))) = H3 at e3 a3 hD ⊢
  refine lcl_keys (FiI TL GT H a D od t who) ⟨e3.add hD, by rw [upd_ne hDa.symm]; exact a3, upd_same⟩ (fun i H' _ I => I.lk) ?_ ?_
  · rintro i k v0 H' hx ⟨e, lk, hf⟩
    have hx0 := hx
    unfold tabK at hx
    rw [List.getElem?_map] at hx
    cases hti : t[i]? with
    | none => rw [hti] at hx; cases hx
    | some ob =>
      rw [hti] at hx
      cases Option.some.inj hx
      simp only [cx_K, gcx_K, lcx_K, LenV, rLenU, tTruU, kTup, tFld, sFld, sFldAug, tMet, tMake, tBM, tDGet, tDGet1, tDGet2, sDPut, tRevL, iEnum, tAug, tAsg, mulV_int, iaddU_int, isubU_int, iaddU_str, tTupL, ex2eq, not_true_eq_false, not_false_eq_true, LamX.tLam, LamX.TTold, tSeq, tIf, tNext, tRet, tRetN, tIfS, tTest, tB, tNot, tAnd, tOr, tChain, tOp, tUn, tC, tVar, tCons, tNil, tTup, tLst, tAsg, gName, gTup, gCons, gNil, gSub, tDrop, tCallS, tCB, tM1, tM0, tBM, tBM0, tSl, tPar, tFor_eq, tLc_eq, intU_int, intU_bl, iList, iTup, iEnumT, tDNewK, rSlT, rSlL, iRng1, iRng2, iStr, tThen, tNever, L2.start, tRaiseFile, tMkFile, tYes, tPart, tNoPart, addA_int, addA_str, addU_int, addU_str, addU_ref, subU_int, mulU_int, mulU_ref, fdvU_int, modU_int, powU_int, ltU_int, leU_int, gtU_int, geU_int, eqU_int, eqU_str, eqU_bl, neU_int, neU_str, neU_bl, WE, TruV, tDIn, tDNotIn, sDDel, tDSetd, tDPop1, tLock, tLockE, tLk, tLockA, tLockEA, iKeys, List.map, List.length_cons, List.length_nil, List.replicate, List.append, List.getElem?_cons_zero, List.getElem?_cons_succ, List.set_cons_zero, List.set_cons_succ, List.cons_append, List.nil_append, Option.some.injEq, V.int.injEq, V.str.injEq, V.bl.injEq, V.ref.injEq, List.cons.injEq, exists_eq_left, exists_eq_right, and_true, true_and, and_self, exists_eq, exists_const, Bool.not_true, Bool.not_false, Bool.false_eq_true, if_true, if_false, reduceIte, decide_eq_true_eq, bne_iff_ne, exists_eq_left', exists_eq', exists_and_left, Bool.not_eq_true', decide_eq_false_iff_not, Nat.reduceSub, Nat.reduceAdd, reduceCtorEq, false_and, or_false, false_or, exists_false, kV, wipe]
      have hstep : othersL (t.take (i + 1)) who = othersL (t.take i) who ++ (if ob.1 ≠ who then [ob.1] else []) := by
        unfold othersL
        rw [List.take_succ, hti, List.filter_append, List.map_append]
        congr 1
        rw [Option.toList_some, List.filter_cons]
        by_cases z : ob.1 = who <;> simp [z]
      have hlen : (othersL (t.take i) who).length ≤ 20 := by
        unfold othersL
        rw [List.length_map]
        have := List.length_filter_le (fun p : Int × Bool => decide (p.1 ≠ who)) (t.take i)
        rw [List.length_take] at this
        omega
      by_cases z : ob.1 = who
      · rw [if_neg (by simpa using z)]
        exact ⟨e, lk, by rw [hf, hstep, if_neg (by simpa using z), List.append_nil]⟩
      · rw [if_pos z]
        refine ⟨_, hf, by rw [List.length_map, sizeLine_eq]; omega, e.chg hf rfl (.inr hDf), by rw [upd_ne hDa.symm]; exact lk, ?_⟩
        rw [upd_same, hstep, if_pos z]; simp
  · rintro H' ⟨e, lk, hf⟩
    refine .inr ⟨a, od, _, lk, fun o w z => ?_, ?_⟩
    · rcases hnF with y | ⟨o2, y, y2⟩
      · rw [y] at z; cases z
      · rw [y, y2] at z; cases z
    · have e5 : Ex [] TL GT H (upd H' a (.dK (tabK t))) := (e.unl lk (.inl (by simp))).home (by
        rcases hnF with y | ⟨o2, y, y2⟩
        · exact .inl y
        · exact .inr ⟨_, by rw [y, y2], upd_same⟩)
      have f5 : upd H' a (.dK (tabK t)) D = some (.lst ((othersL t who).map V.int)) := by
        rw [upd_ne hDa, hf]
        show some (HO.lst ((othersL (t.take (tabK t).length) who).map V.int)) = _
        rw [List.take_of_length_le (by unfold tabK; simp)]
      generalize upd H' a (.dK (tabK t)) = H5 at e5 f5 ⊢
      try simp only [cx_K, gcx_K, lcx_K, LenV, rLenU, tTruU, kTup, tFld, sFld, sFldAug, tMet, tMake, tBM, tDGet, tDGet1, tDGet2, sDPut, tRevL, iEnum, tAug, tAsg, mulV_int, iaddU_int, isubU_int, iaddU_str, tTupL, ex2eq, not_true_eq_false, not_false_eq_true, LamX.tLam, LamX.TTold, tSeq, tIf, tNext, tRet, tRetN, tIfS, tTest, tB, tNot, tAnd, tOr, tChain, tOp, tUn, tC, tVar, tCons, tNil, tTup, tLst, tAsg, gName, gTup, gCons, gNil, gSub, tDrop, tCallS, tCB, tM1, tM0, tBM, tBM0, tSl, tPar, tFor_eq, tLc_eq, intU_int, intU_bl, iList, iTup, iEnumT, tDNewK, rSlT, rSlL, iRng1, iRng2, iStr, tThen, tNever, L2.start, tRaiseFile, tMkFile, tYes, tPart, tNoPart, addA_int, addA_str, addU_int, addU_str, addU_ref, subU_int, mulU_int, mulU_ref, fdvU_int, modU_int, powU_int, ltU_int, leU_int, gtU_int, geU_int, eqU_int, eqU_str, eqU_bl, neU_int, neU_str, neU_bl, WE, TruV, tDIn, tDNotIn, sDDel, tDSetd, tDPop1, tLock, tLockE, tLk, tLockA, tLockEA, iKeys, List.map, List.length_cons, List.length_nil, List.replicate, List.append, List.getElem?_cons_zero, List.getElem?_cons_succ, List.set_cons_zero, List.set_cons_succ, List.cons_append, List.nil_append, Option.some.injEq, V.int.injEq, V.str.injEq, V.bl.injEq, V.ref.injEq, List.cons.injEq, exists_eq_left, exists_eq_right, and_true, true_and, and_self, exists_eq, exists_const, Bool.not_true, Bool.not_false, Bool.false_eq_true, if_true, if_false, reduceIte, decide_eq_true_eq, bne_iff_ne, exists_eq_left', exists_eq', exists_and_left, Bool.not_eq_true', decide_eq_false_iff_not, Nat.reduceSub, Nat.reduceAdd, reduceCtorEq, false_and, or_false, false_or, exists_false]
      refine ⟨Nat.zero_le _, fun p hp => ?_⟩
      have e6 : Ex [] TL GT H5 (upd H5 p (.lst [])) := Ex.new hp
      exact eq_lstI (ms := []) (lst_at (e6.lst (by simp) f5)) (lst_at upd_same) (hq _ (e5.trans e6))
def spLInit (K : PySem.W.Frag) (CL : Addr) (TL : List (Addr × Str)) (GT : List Addr) : Sp := fun vs H Q E => ∃ l dx, vs = [.ref l] ∧ H l = some (.ins CL dx []) ∧
  ∀ h q H', Ex [l] TL GT H H' → LP K CL H' l dx h q [] [] → H h = none → H q = none → Q .non H'
theorem f_linit (T : KL.Txt P w K mg base CL PE TL GT) : ∃ f fd c, MDef K "__init__" "Locks.__init__" (inClass (top 4) 0) [] f fd c ∧ Mk K CL f ∧ FnOk P w K mg base (L2.CX P w) 3 f fd ["self"] (spLInit K CL TL GT) := by
  obtain ⟨f, fd, c, D, hm⟩ := T.l_init
  refine ⟨f, fd, c, D, hm, ?_⟩
  refine D.okF (N := ["self"]) (ps := ["self"]) ⟨rfl, rfl, rfl, by decide +kernel, rfl, by decide +kernel, by decide +kernel⟩ (fun vs H Q E h => by first | (obtain ⟨_, rfl, _⟩ := h; rfl) | (obtain ⟨_, _, rfl, _⟩ := h; rfl) | (obtain ⟨_, _, _, rfl, _⟩ := h; rfl) | (obtain ⟨_, _, _, _, rfl, _⟩ := h; rfl) | (obtain ⟨_, _, _, _, _, rfl, _⟩ := h; rfl) | (obtain ⟨_, _, _, _, _, _, rfl, _⟩ := h; rfl) | (obtain ⟨_, _, _, _, _, _, _, rfl, _⟩ := h; rfl) | (obtain ⟨_, _, _, _, _, _, _, _, rfl, _⟩ := h; rfl) | (obtain ⟨_, _, _, _, _, _, _, _, _, rfl, _⟩ := h; rfl) | (obtain ⟨_, _, _, _, _, _, _, _, _, _, rfl, _⟩ := h; rfl) | (obtain ⟨_, _, _, _, _, _, _, _, _, _, _, rfl, _⟩ := h; rfl) | (obtain ⟨_, _, _, _, _, _, _, _, _, _, _, _, rfl, _⟩ := h; rfl) | (obtain ⟨_, _, _, _, _, _, _, _, _, _, _, _, _, rfl, _⟩ := h; rfl) | (obtain ⟨_, _, _, _, _, _, _, _, _, _, _, _, _, _, rfl, _⟩ := h; rfl) | (obtain ⟨_, _, _, _, _, _, _, _, _, _, _, _, _, _, _, rfl, _⟩ := h; rfl) | (obtain ⟨rfl, _⟩ := h; rfl)) (fun A outer s H vs Q E hr h => ?_)
  have nd : (["self"] : List Str).Nodup := by decide
  refine mk_ex (pss_cons (sFldK (K := K) rfl (ps_fld (pv 0) pe_dnewK rfl))
    (pss_one (sFldK (K := K) rfl (ps_fld (pv 0) (pe_lst pa_nil) rfl)))) ?_
  obtain ⟨l, dx, rfl, h1, hq⟩ := h
  simp only [cx_K, gcx_K, lcx_K, LenV, rLenU, tTruU, kTup, tFld, sFld, sFldAug, tMet, tMake, tBM, tDGet, tDGet1, tDGet2, sDPut, tRevL, iEnum, tAug, tAsg, mulV_int, iaddU_int, isubU_int, iaddU_str, tTupL, ex2eq, not_true_eq_false, not_false_eq_true, LamX.tLam, LamX.TTold, tSeq, tIf, tNext, tRet, tRetN, tIfS, tTest, tB, tNot, tAnd, tOr, tChain, tOp, tUn, tC, tVar, tCons, tNil, tTup, tLst, tAsg, gName, gTup, gCons, gNil, gSub, tDrop, tCallS, tCB, tM1, tM0, tBM, tBM0, tSl, tPar, tFor_eq, tLc_eq, intU_int, intU_bl, iList, iTup, iEnumT, tDNewK, rSlT, rSlL, iRng1, iRng2, iStr, tThen, tNever, L2.start, tRaiseFile, tMkFile, tYes, tPart, tNoPart, addA_int, addA_str, addU_int, addU_str, addU_ref, subU_int, mulU_int, mulU_ref, fdvU_int, modU_int, powU_int, ltU_int, leU_int, gtU_int, geU_int, eqU_int, eqU_str, eqU_bl, neU_int, neU_str, neU_bl, WE, TruV, tDIn, tDNotIn, sDDel, tDSetd, tDPop1, tLock, tLockE, tLk, tLockA, tLockEA, iKeys, List.map, List.length_cons, List.length_nil, List.replicate, List.append, List.getElem?_cons_zero, List.getElem?_cons_succ, List.set_cons_zero, List.set_cons_succ, List.cons_append, List.nil_append, Option.some.injEq, V.int.injEq, V.str.injEq, V.bl.injEq, V.ref.injEq, List.cons.injEq, exists_eq_left, exists_eq_right, and_true, true_and, and_self, exists_eq, exists_const, Bool.not_true, Bool.not_false, Bool.false_eq_true, if_true, if_false, reduceIte, decide_eq_true_eq, bne_iff_ne, exists_eq_left', exists_eq', exists_and_left, Bool.not_eq_true', decide_eq_false_iff_not, Nat.reduceSub, Nat.reduceAdd, reduceCtorEq, false_and, or_false, false_or, exists_false]
  intro p hp
  have npl : p ≠ l := fun z => by rw [z, h1] at hp; cases hp
  have e1 : Ex [l] TL GT H (upd H p (.dK [])) := Ex.new hp
  have h2 : upd H p (.dK []) l = some (.ins CL dx []) := by rw [upd_ne npl.symm]; exact h1
  have p2 : upd H p (.dK []) p = some (.dK []) := upd_same
  have hf2 : ∀ a, upd H p (.dK []) a = none → H a = none := fun a ha => by
    by_cases z : a = p
    · rw [z, upd_same] at ha; cases ha
    · rw [upd_ne z] at ha; exact ha
  generalize upd H p (.dK []) = H2 at e1 h2 p2 hf2 ⊢
  refine ⟨_, _, _, h2, T.cL, T.fL _ (by simp), (by first | (show 0 < 1000; decide) | (show 1 < 1000; decide) | (show 2 < 1000; decide) | (show 3 < 1000; decide) | (show 4 < 1000; decide) | (show 5 < 1000; decide) | (show 6 < 1000; decide) | (show 7 < 1000; decide)), ?_⟩; try simp only [cx_K, gcx_K, lcx_K, LenV, rLenU, tTruU, kTup, tFld, sFld, sFldAug, tMet, tMake, tBM, tDGet, tDGet1, tDGet2, sDPut, tRevL, iEnum, tAug, tAsg, mulV_int, iaddU_int, isubU_int, iaddU_str, tTupL, ex2eq, not_true_eq_false, not_false_eq_true, LamX.tLam, LamX.TTold, tSeq, tIf, tNext, tRet, tRetN, tIfS, tTest, tB, tNot, tAnd, tOr, tChain, tOp, tUn, tC, tVar, tCons, tNil, tTup, tLst, tAsg, gName, gTup, gCons, gNil, gSub, tDrop, tCallS, tCB, tM1, tM0, tBM, tBM0, tSl, tPar, tFor_eq, tLc_eq, intU_int, intU_bl, iList, iTup, iEnumT, tDNewK, rSlT, rSlL, iRng1, iRng2, iStr, tThen, tNever, L2.start, tRaiseFile, tMkFile, tYes, tPart, tNoPart, addA_int, addA_str, addU_int, addU_str, addU_ref, subU_int, mulU_int, mulU_ref, fdvU_int, modU_int, powU_int, ltU_int, leU_int, gtU_int, geU_int, eqU_int, eqU_str, eqU_bl, neU_int, neU_str, neU_bl, WE, TruV, tDIn, tDNotIn, sDDel, tDSetd, tDPop1, tLock, tLockE, tLk, tLockA, tLockEA, iKeys, List.map, List.length_cons, List.length_nil, List.replicate, List.append, List.getElem?_cons_zero, List.getElem?_cons_succ, List.set_cons_zero, List.set_cons_succ, List.cons_append, List.nil_append, Option.some.injEq, V.int.injEq, V.str.injEq, V.bl.injEq, V.ref.injEq, List.cons.injEq, exists_eq_left, exists_eq_right, and_true, true_and, and_self, exists_eq, exists_const, Bool.not_true, Bool.not_false, Bool.false_eq_true, if_true, if_false, reduceIte, decide_eq_true_eq, bne_iff_ne, exists_eq_left', exists_eq', exists_and_left, Bool.not_eq_true', decide_eq_false_iff_not, Nat.reduceSub, Nat.reduceAdd, reduceCtorEq, false_and, or_false, false_or, exists_false]
  refine ⟨Nat.zero_le _, ?_⟩
  have e3 : Ex [l] TL GT H (upd H2 l (.ins CL dx (putF "held" (.ref p) []))) := e1.chg h2 rfl (.inl (by simp))
  have h3 : upd H2 l (.ins CL dx (putF "held" (.ref p) [])) l = some (.ins CL dx (putF "held" (.ref p) [])) := upd_same
  have p3 : upd H2 l (.ins CL dx (putF "held" (.ref p) [])) p = some (.dK []) := by rw [upd_ne npl]; exact p2
  have hf3 : ∀ a, upd H2 l (.ins CL dx (putF "held" (.ref p) [])) a = none → H2 a = none := fun a ha => by
    by_cases z : a = l
    · rw [z, upd_same] at ha; cases ha
    · rw [upd_ne z] at ha; exact ha
  generalize upd H2 l (.ins CL dx (putF "held" (.ref p) [])) = H3 at e3 h3 p3 hf3 ⊢
  intro r hr
  have nrl : r ≠ l := fun z => by rw [z, h3] at hr; cases hr
  have nrp : r ≠ p := fun z => by rw [z, p3] at hr; cases hr
  have e4 : Ex [l] TL GT H (upd H3 r (.lst [])) := e3.add hr
  have h4 : upd H3 r (.lst []) l = some (.ins CL dx (putF "held" (.ref p) [])) := by rw [upd_ne nrl.symm]; exact h3
  have p4 : upd H3 r (.lst []) p = some (.dK []) := by rw [upd_ne nrp.symm]; exact p3
  have r4 : upd H3 r (.lst []) r = some (.lst []) := upd_same
  generalize upd H3 r (.lst []) = H4 at e4 h4 p4 r4 ⊢
  refine ⟨_, _, _, h4, T.cL, T.fL _ (by simp), (by first | (show 0 < 1000; decide) | (show 1 < 1000; decide) | (show 2 < 1000; decide) | (show 3 < 1000; decide) | (show 4 < 1000; decide) | (show 5 < 1000; decide) | (show 6 < 1000; decide) | (show 7 < 1000; decide)), ?_⟩; try simp only [cx_K, gcx_K, lcx_K, LenV, rLenU, tTruU, kTup, tFld, sFld, sFldAug, tMet, tMake, tBM, tDGet, tDGet1, tDGet2, sDPut, tRevL, iEnum, tAug, tAsg, mulV_int, iaddU_int, isubU_int, iaddU_str, tTupL, ex2eq, not_true_eq_false, not_false_eq_true, LamX.tLam, LamX.TTold, tSeq, tIf, tNext, tRet, tRetN, tIfS, tTest, tB, tNot, tAnd, tOr, tChain, tOp, tUn, tC, tVar, tCons, tNil, tTup, tLst, tAsg, gName, gTup, gCons, gNil, gSub, tDrop, tCallS, tCB, tM1, tM0, tBM, tBM0, tSl, tPar, tFor_eq, tLc_eq, intU_int, intU_bl, iList, iTup, iEnumT, tDNewK, rSlT, rSlL, iRng1, iRng2, iStr, tThen, tNever, L2.start, tRaiseFile, tMkFile, tYes, tPart, tNoPart, addA_int, addA_str, addU_int, addU_str, addU_ref, subU_int, mulU_int, mulU_ref, fdvU_int, modU_int, powU_int, ltU_int, leU_int, gtU_int, geU_int, eqU_int, eqU_str, eqU_bl, neU_int, neU_str, neU_bl, WE, TruV, tDIn, tDNotIn, sDDel, tDSetd, tDPop1, tLock, tLockE, tLk, tLockA, tLockEA, iKeys, List.map, List.length_cons, List.length_nil, List.replicate, List.append, List.getElem?_cons_zero, List.getElem?_cons_succ, List.set_cons_zero, List.set_cons_succ, List.cons_append, List.nil_append, Option.some.injEq, V.int.injEq, V.str.injEq, V.bl.injEq, V.ref.injEq, List.cons.injEq, exists_eq_left, exists_eq_right, and_true, true_and, and_self, exists_eq, exists_const, Bool.not_true, Bool.not_false, Bool.false_eq_true, if_true, if_false, reduceIte, decide_eq_true_eq, bne_iff_ne, exists_eq_left', exists_eq', exists_and_left, Bool.not_eq_true', decide_eq_false_iff_not, Nat.reduceSub, Nat.reduceAdd, reduceCtorEq, false_and, or_false, false_or, exists_false]
  have e5 : Ex [l] TL GT H (upd H4 l (.ins CL dx (putF "queue" (.ref r) (putF "held" (.ref p) [])))) := e4.chg h4 rfl (.inl (by simp))
  refine hq p r _ e5 ⟨upd_same, ⟨by rw [upd_ne npl]; exact p4, by rw [upd_ne nrl]; exact r4, fun x hx => (by cases hx), fun x hx => (by cases hx), .nil, .nil, (by simp), fun x hx => (by cases hx), .nil⟩⟩ hp ?_
  exact hf2 _ (hf3 _ hr)
end
end KL
end
section
set_option Elab.async false
set_option linter.all false
set_option maxRecDepth 100000
set_option maxHeartbeats 2000000
set_option pp.maxSteps 900
namespace KL
open PySem PySem.Spec PyProof.Rows L2 GX
section
variable {P : Program} {w : World} {K : PySem.W.Frag} {mg : Str → Option Value} {base : Heap} {CL PE : Addr} {TL : List (Addr × Str)} {GT : List Addr} {H H' : Hp} {h q l dx : Addr} {hs : List (Str × Addr × Tab)} {qs : List (Addr × Row)} {v : Lk} {F A : List Addr}
theorem Co.newQ (C : Co K H h q hs qs) (who : Int) {q' : Addr} (hq' : H q' = some (.lst ((rmQ qs who).map fun e => V.ref e.1))) : Co K H h q' hs (rmQ qs who) :=
  ⟨C.hh, hq', C.ht, fun x hx => C.hr x (List.mem_filter.mp hx).1, C.nh, C.nq.sublist (List.Sublist.map _ List.filter_sublist), C.nn, C.nk, C.nm⟩
theorem Co.push (C : Co K H h q hs qs) {r : Addr} {row : Row} (hr : Rd H r (.tup (rowV row))) (hn : r ∉ qs.map (·.1)) : Co K (upd H q (.lst ((qs ++ [(r, row)]).map fun e => V.ref e.1))) h q hs (qs ++ [(r, row)]) := by
  obtain ⟨hh, hq, ht, hrr, nh, nq, nn, nk, nm⟩ := C
  have e1 : Ex [q] [] [] H (upd H q (.lst ((qs ++ [(r, row)]).map fun e => V.ref e.1))) := Ex.put (by simp) hq rfl
  have nhq : h ≠ q := fun z => by rw [z, hq] at hh; cases hh
  refine ⟨by rw [upd_ne nhq]; exact hh, upd_same, fun x hx => ?_, fun x hx => ?_, nh, ?_, nn, nk, nm⟩
  · rw [upd_ne (fun z => by have := ht x hx; rw [z, hq] at this; cases this)]
    exact ht x hx
  · rcases List.mem_append.mp hx with hx | hx
    · exact e1.tup _ _ (hrr x hx)
    · rw [List.mem_singleton.mp hx]; exact e1.tup _ _ hr
  · rw [List.map_append]
    exact List.nodup_append.mpr ⟨nq, List.pairwise_singleton _ _, fun a ha b hb z => hn (by
      have hb' : b = r := List.mem_singleton.mp hb
      rw [← hb', ← z]; exact ha)⟩
theorem Co.subQ {qs' : List (Addr × Row)} (C : Co K H h q hs qs) (s : qs'.Sublist qs) : Co K (upd H q (.lst (qs'.map fun e => V.ref e.1))) h q hs qs' := by
  obtain ⟨hh, hq, ht, hrr, nh, nq, nn, nk, nm⟩ := C
  have e1 : Ex [q] [] [] H (upd H q (.lst (qs'.map fun e => V.ref e.1))) := Ex.put (by simp) hq rfl
  have nhq : h ≠ q := fun z => by rw [z, hq] at hh; cases hh
  refine ⟨by rw [upd_ne nhq]; exact hh, upd_same, fun x hx => ?_, fun x hx => e1.tup _ _ (hrr x (s.subset hx)), nh, nq.sublist (s.map _), nn, nk, nm⟩
  rw [upd_ne (fun z => by have := ht x hx; rw [z, hq] at this; cases this)]
  exact ht x hx
def keyQ (v : Lk) (who : Int) : Bool := v.queue.any fun r => decide (r.1 = who)
def spAsk (K : PySem.W.Frag) (CL PE : Addr) (TL : List (Addr × Str)) (GT : List Addr) : Sp := fun vs H Q E => ∃ l who n how dx h q hs qs, vs = [.ref l, .int who, .str n, .str how] ∧ LP K CL H l dx h q hs qs ∧ Wf (lkOf hs qs) ∧ W5 who ∧ Tb TL GT H ∧
  (how ≠ "shared" → how ≠ "alone" → ∀ H', Ex [] TL GT H H' → E (.ref PE) none H') ∧
  (∀ al, how = hw al → n ∈ nms ∧
    (keyQ (lkOf hs qs) who = true → ∀ H', Ex [] TL GT H H' → E (.ref PE) none H') ∧
    (keyQ (lkOf hs qs) who = false → blk (lkOf hs qs) who n al = [] → ∀ H', AftL K CL TL GT H l dx h q (l :: fpOf h q hs) (takeL (lkOf hs qs) who n al) qs H' → Q (.bl true) H') ∧
    (keyQ (lkOf hs qs) who = false → blk (lkOf hs qs) who n al ≠ [] → ¬ Rch (pushL (lkOf hs qs) (who, n, al)) who who → ∀ H' r, AftL K CL TL GT H l dx h q (l :: fpOf h q hs) (pushL (lkOf hs qs) (who, n, al)) (qs ++ [(r, (who, n, al))]) H' → Q (.bl false) H') ∧
    (keyQ (lkOf hs qs) who = false → blk (lkOf hs qs) who n al ≠ [] → Rch (pushL (lkOf hs qs) (who, n, al)) who who → ∀ H', AftL K CL TL GT H l dx h q (l :: fpOf h q hs) (lkOf hs qs) qs H' → E (.ref PE) none H'))
theorem m_ask (T : KL.Txt P w K mg base CL PE TL GT) : Met P w K mg base 12 CL "ask" [] (spAsk K CL PE TL GT) := by
  have m_Locks_blockers := m_blk T
  have m_Locks_take := m_take T
  have m_Locks_in_ring := m_ring T
  obtain ⟨f, fd, c, tP, D, hm, tb, hmem⟩ := T.l_ask
  refine met_of T.cL hm ?_ (D.bind0 (ps := ["self", "who", "name", "how"]) (fun _ _ _ _ _ _ us hl => match us, hl with | [_, _, _, _], _ => rfl))
  refine D.okF (N := ["self", "who", "name", "how", "one", "wanted", "way"]) (ps := ["self", "who", "name", "how"]) ⟨rfl, rfl, rfl, by decide +kernel, rfl, by decide +kernel, by decide +kernel⟩ (fun vs H Q E h => by first | (obtain ⟨_, rfl, _⟩ := h; rfl) | (obtain ⟨_, _, rfl, _⟩ := h; rfl) | (obtain ⟨_, _, _, rfl, _⟩ := h; rfl) | (obtain ⟨_, _, _, _, rfl, _⟩ := h; rfl) | (obtain ⟨_, _, _, _, _, rfl, _⟩ := h; rfl) | (obtain ⟨_, _, _, _, _, _, rfl, _⟩ := h; rfl) | (obtain ⟨_, _, _, _, _, _, _, rfl, _⟩ := h; rfl) | (obtain ⟨_, _, _, _, _, _, _, _, rfl, _⟩ := h; rfl) | (obtain ⟨_, _, _, _, _, _, _, _, _, rfl, _⟩ := h; rfl) | (obtain ⟨_, _, _, _, _, _, _, _, _, _, rfl, _⟩ := h; rfl) | (obtain ⟨_, _, _, _, _, _, _, _, _, _, _, rfl, _⟩ := h; rfl) | (obtain ⟨_, _, _, _, _, _, _, _, _, _, _, _, rfl, _⟩ := h; rfl) | (obtain ⟨_, _, _, _, _, _, _, _, _, _, _, _, _, rfl, _⟩ := h; rfl) | (obtain ⟨_, _, _, _, _, _, _, _, _, _, _, _, _, _, rfl, _⟩ := h; rfl) | (obtain ⟨_, _, _, _, _, _, _, _, _, _, _, _, _, _, _, rfl, _⟩ := h; rfl) | (obtain ⟨rfl, _⟩ := h; rfl)) (fun A outer s H vs Q E hr h => ?_)
  have nd : (["self", "who", "name", "how", "one", "wanted", "way"] : List Str).Nodup := by decide
  refine mk_ex (pss_cons (ps_if (PW.pt (pw_or (pt_cmpR (opK (K := K) (r := fun K => rIn K true) op_notIn_seq rfl) (pv 3) (pe_tup (pa_cons pe_str (pa_cons pe_str pa_nil))) rfl) (pw_or1 (pt_truU (K := K) rfl (by exact (pt_truth (pe_anyG2 (k := 6) (own := [("one", 4), ("wanted", 5), ("way", 6)]) (E := fun _ _ _ _ => False) (hr.mono (by decide)) rfl nd rfl T.n_any tb rfl (show GenOk ["self", "who", "name", "how", "one", "wanted", "way"] (defScope (inClass (top 4) 5)) _ [("one", 4), ("wanted", 5), ("way", 6)] from genOk_by (by decide +kernel)) (pif_list (fldK (K := K) rfl (pe_fld (pv 0) rfl))) (fun σ pins H s e s' I c => passF pins σ H s e s' I c) (fun σ cls d H h => h.elim) (fun σ A s H L code bi pn => (tupGK (K := K) rfl (pg_tup (n := 3) rfl (pgs_cons (pg_name (i := 4) nd rfl (Or.inl rfl)) (pgs_cons (pg_name (i := 5) nd rfl (Or.inl rfl)) (pgs_cons (pg_name (i := 6) nd rfl (Or.inl rfl)) pgs_nil)))))) (fun σ A s H L code bi pn hr1 => pts_nil) (fun σ A s H L code bi pn hr1 => (pe_cmpR (opK (K := K) (r := rEqU) (opU_eq (roomEq hr1)) rfl) (pv 4) (pv 1) (nomark _)))) (fun _ => rfl))))))) (pss_one (ps_raise rfl (takes_of rfl rfl rfl rfl) (by exact (pmk_plain T.x_ProcessError)))) pss_nil)
    (pss_cons (ps_if (pt_cmpR (opK (K := K) (r := rEqU) (opU_eq (roomEq hr)) rfl) (pe_met m_Locks_blockers (hr.mono (by decide)) (takes_of rfl rfl rfl rfl) (pv 0) (by exact (pa_cons (pv 1) (pa_cons (pv 2) (pa_cons (pv 3) pa_nil))))) (pe_lst pa_nil) (nomark _)) (pss_cons (ps_expr (pe_met m_Locks_take (hr.mono (by decide)) (takes_of rfl rfl rfl rfl) (pv 0) (by exact (pa_cons (pv 1) (pa_cons (pv 2) (pa_cons (pv 3) pa_nil))))))
    (pss_one (ps_ret pe_bl))) pss_nil)
    (pss_cons (ps_expr (bmK (K := K) rfl (pe_bm PySem.F.plainAttrs_list PySem.F.slot_list_append PySem.F.type_list_append mt_append (fldK (K := K) rfl (pe_fld (pv 0) rfl)) (by exact (pa_cons (pe_tup (pa_cons (pv 1) (pa_cons (pv 2) (pa_cons (pv 3) pa_nil)))) pa_nil)))))
    (pss_cons (ps_if (pt_truU (K := K) rfl (by exact (pt_truth (pe_met m_Locks_in_ring (hr.mono (by decide)) (takes_of rfl rfl rfl rfl) (pv 0) (by exact (pa_cons (pv 1) pa_nil))) (fun _ => rfl)))) (pss_cons (ps_expr (bm0K (K := K) rfl (pe_bm0 PySem.F.plainAttrs_list PySem.F.slot_list_pop PySem.F.type_list_pop mt_pop (fldK (K := K) rfl (pe_fld (pv 0) rfl)))))
    (pss_one (ps_raise rfl (takes_of rfl rfl rfl rfl) (by exact (pmk_plain T.x_ProcessError))))) pss_nil)
    (pss_one (ps_ret pe_bl)))))) ?_
  obtain ⟨l, who, n, how, dx, h, q, hs, qs, rfl, L, W, hw5, ht, h1, h2⟩ := h
  simp only [cx_K, gcx_K, lcx_K, LenV, rLenU, tTruU, kTup, tFld, sFld, sFldAug, tMet, tMake, tBM, tDGet, tDGet1, tDGet2, sDPut, tRevL, iEnum, tAug, tAsg, mulV_int, iaddU_int, isubU_int, iaddU_str, tTupL, ex2eq, not_true_eq_false, not_false_eq_true, LamX.tLam, LamX.TTold, tSeq, tIf, tNext, tRet, tRetN, tIfS, tTest, tB, tNot, tAnd, tOr, tChain, tOp, tUn, tC, tVar, tCons, tNil, tTup, tLst, tAsg, gName, gTup, gCons, gNil, gSub, tDrop, tCallS, tCB, tM1, tM0, tBM, tBM0, tSl, tPar, tFor_eq, tLc_eq, intU_int, intU_bl, iList, iTup, iEnumT, tDNewK, rSlT, rSlL, iRng1, iRng2, iStr, tThen, tNever, L2.start, tRaiseFile, tMkFile, tYes, tPart, tNoPart, addA_int, addA_str, addU_int, addU_str, addU_ref, subU_int, mulU_int, mulU_ref, fdvU_int, modU_int, powU_int, ltU_int, leU_int, gtU_int, geU_int, eqU_int, eqU_str, eqU_bl, neU_int, neU_str, neU_bl, WE, TruV, tDIn, tDNotIn, sDDel, tDSetd, tDPop1, tLock, tLockE, tLk, tLockA, tLockEA, iKeys, List.map, List.length_cons, List.length_nil, List.replicate, List.append, List.getElem?_cons_zero, List.getElem?_cons_succ, List.set_cons_zero, List.set_cons_succ, List.cons_append, List.nil_append, Option.some.injEq, V.int.injEq, V.str.injEq, V.bl.injEq, V.ref.injEq, List.cons.injEq, exists_eq_left, exists_eq_right, and_true, true_and, and_self, exists_eq, exists_const, Bool.not_true, Bool.not_false, Bool.false_eq_true, if_true, if_false, reduceIte, decide_eq_true_eq, bne_iff_ne, exists_eq_left', exists_eq', exists_and_left, Bool.not_eq_true', decide_eq_false_iff_not, Nat.reduceSub, Nat.reduceAdd, reduceCtorEq, false_and, or_false, false_or, exists_false]
  refine ⟨sz 2, fun p hp => ?_⟩
  have e1 : Ex [] TL GT H (upd H p (.tup [.str ("shared" : Str), .str ("alone" : Str)])) := Ex.new hp
  have L1 := L.keep e1 (fun _ _ => by simp)
  have t1 := e1.tb ht
  have p1 : SqT K (upd H p (.tup [.str ("shared" : Str), .str ("alone" : Str)])) p [.str ("shared" : Str), .str ("alone" : Str)] := SqT.of upd_same
  generalize upd H p (.tup [.str ("shared" : Str), .str ("alone" : Str)]) = H1 at e1 L1 t1 p1 ⊢
  refine ⟨p, _, rfl, .inr p1, rfl, rfl, ?_⟩
  refine ⟨_, rfl, ?_⟩
  have hin : inV (.str how) [.str ("shared" : Str), .str ("alone" : Str)] = decide (how = "shared" ∨ how = "alone") := by
    have b1 : ∀ a b : Str, (a == b) = decide (b = a) := fun a b => by rw [Bool.eq_iff_iff, beq_iff_eq, decide_eq_true_iff]; exact eq_comm
    simp [inV, Bool.decide_or, eqV, b1]
  rw [if_pos rfl, hin]
  by_cases hho : how = "shared" ∨ how = "alone"
  · rw [if_neg (by simp [hho])]
    obtain ⟨al, rfl⟩ : ∃ al, how = hw al := by
      rcases hho with rfl | rfl
      · exact ⟨false, rfl⟩
      · exact ⟨true, rfl⟩
    obtain ⟨hnm, q1, q2, q3, q4⟩ := h2 al rfl
    simp only [tGenx, cx_K, gcx_K, lcx_K, LenV, rLenU, tTruU, kTup, tFld, sFld, sFldAug, tMet, tMake, tBM, tDGet, tDGet1, tDGet2, sDPut, tRevL, iEnum, tAug, tAsg, mulV_int, iaddU_int, isubU_int, iaddU_str, tTupL, ex2eq, not_true_eq_false, not_false_eq_true, LamX.tLam, LamX.TTold, tSeq, tIf, tNext, tRet, tRetN, tIfS, tTest, tB, tNot, tAnd, tOr, tChain, tOp, tUn, tC, tVar, tCons, tNil, tTup, tLst, tAsg, gName, gTup, gCons, gNil, gSub, tDrop, tCallS, tCB, tM1, tM0, tBM, tBM0, tSl, tPar, tFor_eq, tLc_eq, intU_int, intU_bl, iList, iTup, iEnumT, tDNewK, rSlT, rSlL, iRng1, iRng2, iStr, tThen, tNever, L2.start, tRaiseFile, tMkFile, tYes, tPart, tNoPart, addA_int, addA_str, addU_int, addU_str, addU_ref, subU_int, mulU_int, mulU_ref, fdvU_int, modU_int, powU_int, ltU_int, leU_int, gtU_int, geU_int, eqU_int, eqU_str, eqU_bl, neU_int, neU_str, neU_bl, WE, TruV, tDIn, tDNotIn, sDDel, tDSetd, tDPop1, tLock, tLockE, tLk, tLockA, tLockEA, iKeys, List.map, List.length_cons, List.length_nil, List.replicate, List.append, List.getElem?_cons_zero, List.getElem?_cons_succ, List.set_cons_zero, List.set_cons_succ, List.cons_append, List.nil_append, Option.some.injEq, V.int.injEq, V.str.injEq, V.bl.injEq, V.ref.injEq, List.cons.injEq, exists_eq_left, exists_eq_right, and_true, true_and, and_self, exists_eq, exists_const, Bool.not_true, Bool.not_false, Bool.false_eq_true, if_true, if_false, reduceIte, decide_eq_true_eq, bne_iff_ne, exists_eq_left', exists_eq', exists_and_left, Bool.not_eq_true', decide_eq_false_iff_not, Nat.reduceSub, Nat.reduceAdd, reduceCtorEq, false_and, or_false, false_or, exists_false]
    refine ⟨_, _, _, L1.hl, T.cL, T.fL _ (by simp), _, rfl, q, rfl, ⟨_, lst_at L1.co.hq⟩, t1.tg tP hmem, ?_⟩
    refine turns_list (xs := qs.map fun e => V.ref e.1) (fun i ys H' => Ex [] TL GT H1 H' ∧ (((qs.map (·.2)).take i).any (fun r => decide (r.1 = who)) = true → V.bl true ∈ ys) ∧ ys.length = i) ⟨Ex.refl, (fun z => by simp at z), rfl⟩ (fun i ys H' _ e => lst_at (L1.keep e.1 (fun _ _ => by simp)).co.hq) ?_ ?_
    · rintro i x ys H' hx ⟨e, hk, hl⟩
      have LL := L1.keep e (fun _ _ => by simp)
      rw [List.getElem?_map] at hx
      cases hqi : qs[i]? with
      | none => rw [hqi] at hx; cases hx
      | some ar =>
        rw [hqi] at hx
        obtain rfl : V.ref ar.1 = x := Option.some.inj hx
        have hr := LL.co.hrT ar (List.mem_of_getElem? hqi)
        simp only [cx_K, gcx_K, lcx_K, LenV, rLenU, tTruU, kTup, tFld, sFld, sFldAug, tMet, tMake, tBM, tDGet, tDGet1, tDGet2, sDPut, tRevL, iEnum, tAug, tAsg, mulV_int, iaddU_int, isubU_int, iaddU_str, tTupL, ex2eq, not_true_eq_false, not_false_eq_true, LamX.tLam, LamX.TTold, tSeq, tIf, tNext, tRet, tRetN, tIfS, tTest, tB, tNot, tAnd, tOr, tChain, tOp, tUn, tC, tVar, tCons, tNil, tTup, tLst, tAsg, gName, gTup, gCons, gNil, gSub, tDrop, tCallS, tCB, tM1, tM0, tBM, tBM0, tSl, tPar, tFor_eq, tLc_eq, intU_int, intU_bl, iList, iTup, iEnumT, tDNewK, rSlT, rSlL, iRng1, iRng2, iStr, tThen, tNever, L2.start, tRaiseFile, tMkFile, tYes, tPart, tNoPart, addA_int, addA_str, addU_int, addU_str, addU_ref, subU_int, mulU_int, mulU_ref, fdvU_int, modU_int, powU_int, ltU_int, leU_int, gtU_int, geU_int, eqU_int, eqU_str, eqU_bl, neU_int, neU_str, neU_bl, WE, TruV, tDIn, tDNotIn, sDDel, tDSetd, tDPop1, tLock, tLockE, tLk, tLockA, tLockEA, iKeys, List.map, List.length_cons, List.length_nil, List.replicate, List.append, List.getElem?_cons_zero, List.getElem?_cons_succ, List.set_cons_zero, List.set_cons_succ, List.cons_append, List.nil_append, Option.some.injEq, V.int.injEq, V.str.injEq, V.bl.injEq, V.ref.injEq, List.cons.injEq, exists_eq_left, exists_eq_right, and_true, true_and, and_self, exists_eq, exists_const, Bool.not_true, Bool.not_false, Bool.false_eq_true, if_true, if_false, reduceIte, decide_eq_true_eq, bne_iff_ne, exists_eq_left', exists_eq', exists_and_left, Bool.not_eq_true', decide_eq_false_iff_not, Nat.reduceSub, Nat.reduceAdd, reduceCtorEq, false_and, or_false, false_or, exists_false, wipe, tYes]
        refine ⟨rowV ar.2, hr, rfl, _, _, rfl, _, _, rfl, _, _, rfl, rfl, ?_⟩
        have hi : i < qs.length := (List.getElem?_eq_some_iff.mp hqi).1
        have h5 : qs.length ≤ 5 := by have := W.q5; unfold lkOf at this; rw [List.length_map] at this; exact this
        refine ⟨by rw [hl, sizeLine_eq]; omega, ⟨_, rfl, fun hd => q1 ?_ H' (e1.trans e)⟩, e, fun hk2 => ?_, by rw [List.length_append, hl]; rfl⟩
        · exact List.any_eq_true.mpr ⟨ar.2, List.mem_map.mpr ⟨ar, List.mem_of_getElem? hqi, rfl⟩, hd⟩
        · rw [List.take_succ, List.getElem?_map, hqi, List.any_append, Bool.or_eq_true] at hk2
          rcases hk2 with z | z
          · exact List.mem_append.mpr (.inl (hk z))
          · have : decide (ar.2.1 = who) = true := by simpa using z
            rw [this]
            exact List.mem_append.mpr (.inr List.mem_cons_self)
    · rintro ys H' ⟨e, hk, hl⟩ hno
      have hkq : keyQ (lkOf hs qs) who = false := by
        cases hc : keyQ (lkOf hs qs) who with
        | false => rfl
        | true => exact absurd rfl (hno _ (hk (by rw [List.length_map, List.take_of_length_le (by simp)]; exact hc)))
      have LL := L1.keep e (fun _ _ => by simp)
      refine ⟨_, _, LL.hl, rfl, l, who, n, al, dx, h, q, hs, qs, rfl, LL, W.sz, fun a2 H2 e2 ha2 hn2 => ⟨Nat.zero_le _, fun p3 hp3 => ?_⟩⟩
      have e3 : Ex [] TL GT H2 (upd H2 p3 (.lst [])) := Ex.new hp3
      have L3 := LL.keep (e2.trans e3) (fun _ _ => by simp)
      have ha3 := e3.lst (by simp) ha2
      have q3' : upd H2 p3 (.lst []) p3 = some (.lst (([] : List Int).map V.int)) := upd_same
      have e03 := (e1.trans e).trans (e2.trans e3)
      generalize upd H2 p3 (.lst []) = H3 at e3 L3 ha3 q3' e03 ⊢
      refine eq_lstI (lst_at ha3) (lst_at q3') ⟨_, rfl, ?_⟩
      by_cases hb : blk (lkOf hs qs) who n al = []
      · rw [if_pos (by simpa using hb)]
        have hh4 : hs.length ≤ 20 := by have := W.h4; unfold lkOf at this; rw [List.length_map] at this; omega
        refine ⟨_, _, L3.hl, rfl, l, who, n, al, dx, h, q, hs, qs, rfl, L3, W.sz, hh4, fun H4 A4 => q2 hkq hb H4 ⟨e03.any.trans A4.e, ?_⟩⟩
        obtain ⟨hs4, hv4, L4, fp4⟩ := A4.at_
        exact ⟨hs4, hv4, L4, fun a ha => (fp4 a ha).imp id fun z => (e03.fresh z).resolve_left (by simp)⟩
      · rw [if_neg (by simpa using hb)]
        refine ⟨_, _, _, L3.hl, T.cL, T.fL _ (by simp), _, rfl, .inl ⟨rfl, _, lst_at L3.co.hq⟩, sz 3, fun r hr => ?_⟩
        have e4 : Ex [] TL GT H3 (upd H3 r (.tup (rowV (who, n, al)))) := Ex.new hr
        have L4 := L3.keep e4 (fun _ _ => by simp)
        have r4 : upd H3 r (.tup (rowV (who, n, al))) r = some (.tup (rowV (who, n, al))) := upd_same
        have e04 := e03.trans e4
        have hrn : r ∉ qs.map (·.1) := fun z => by
          obtain ⟨x, hx, hxr⟩ := List.mem_map.mp z
          have := L3.co.hr x hx
          rw [hxr] at this
          rcases this with y | ⟨o, y⟩ <;> rw [hr] at y <;> cases y
        show rAppend (.ref q) [.ref r] (upd H3 r (.tup (rowV (who, n, al)))) _
        generalize upd H3 r (.tup (rowV (who, n, al))) = H4 at e4 L4 r4 e04 ⊢
        have C5 := L4.co.push (.inl r4) hrn
        refine ⟨q, _, _, rfl, rfl, L4.co.hq, by rw [List.length_map, sizeLine_eq]; have := W.q5; unfold lkOf at this; rw [List.length_map] at this; omega, ?_⟩
        rw [show List.map (fun e : Addr × Row => V.ref e.fst) qs ++ [V.ref r] = (qs ++ [(r, ((who, n, al) : Row))]).map (fun e => V.ref e.1) by rw [List.map_append]; rfl]
        have e5 : Ex (l :: fpOf h q hs) TL GT H (upd H4 q (.lst ((qs ++ [(r, ((who, n, al) : Row))]).map fun e => V.ref e.1))) := e04.any.chg L4.co.hq rfl (.inl (by simp [fpOf]))
        have nlq : l ≠ q := fun z => by have := L4.hl; rw [z, L4.co.hq] at this; cases this
        have l5 : upd H4 q (.lst ((qs ++ [(r, ((who, n, al) : Row))]).map fun e => V.ref e.1)) l = some (.ins CL dx [("held", .ref h), ("queue", .ref q)]) := by rw [upd_ne nlq]; exact L4.hl
        generalize upd H4 q (.lst ((qs ++ [(r, ((who, n, al) : Row))]).map fun e => V.ref e.1)) = H5 at C5 e5 l5 ⊢
        have hv5 : lkOf hs (qs ++ [(r, ((who, n, al) : Row))]) = pushL (lkOf hs qs) (who, n, al) := by unfold lkOf pushL; simp
        have WW := W.push (r := (who, n, al)) hkq hw5 hnm
        have L5 : LP K CL H5 l dx h q hs (qs ++ [(r, (who, n, al))]) := ⟨l5, C5⟩
        refine ⟨_, _, l5, rfl, l, who, dx, h, q, hs, qs ++ [(r, (who, n, al))], rfl, L5, by rw [hv5]; exact WW.sz, by rw [hv5]; exact WW.su, fun b H6 e6 hb6 => ⟨_, rfl, ?_⟩⟩
        rw [hv5] at hb6
        have L6 := L5.keep e6 (fun _ _ => by simp)
        have e06 := e5.trans e6.any
        cases b with
        | false =>
          rw [if_neg (by decide)]
          exact q3 hkq hb (fun z => by cases hb6.mpr z) H6 r ⟨e06, hs, hv5.symm, L6, fun a ha => .inl ha⟩
        | true =>
          rw [if_pos rfl]
          refine ⟨_, _, _, L6.hl, T.cL, T.fL _ (by simp), _, rfl, .inl ⟨rfl, _, lst_at L6.co.hq⟩, q, _, .ref r, rfl, rfl, L6.co.hq, by simp, ?_⟩
          have hdl : ((qs ++ [(r, ((who, n, al) : Row))]).map fun e => V.ref e.1).dropLast = qs.map fun e => V.ref e.1 := by rw [List.map_append]; simp
          rw [hdl]
          have C7 := L6.co.subQ (List.sublist_append_left qs _)
          have l7 : upd H6 q (.lst (qs.map fun e => V.ref e.1)) l = some (.ins CL dx [("held", .ref h), ("queue", .ref q)]) := by rw [upd_ne nlq]; exact L6.hl
          exact q4 hkq hb (hb6.mp rfl) _ ⟨e06.chg L6.co.hq rfl (.inl (by simp [fpOf])), hs, rfl, ⟨l7, C7⟩, fun a ha => .inl ha⟩
  · rw [if_pos (by simp [hho])]
    exact h1 (fun z => hho (.inl z)) (fun z => hho (.inr z)) _ e1
end
end KL
end
section
set_option Elab.async false
set_option linter.all false
set_option maxRecDepth 100000
set_option maxHeartbeats 2000000
namespace KL
open PySem PySem.Spec PyProof.Rows L2 GX
/-! ### the plain law: no ring of waiting is ever closed -/
theorem getT_set (n m : Str) (t : Tab) : ∀ l : List (Str × Tab), getT (setT l n t) m = if m = n then (getT l n).map (fun _ => t) else getT l m
  | [] => by unfold setT getT; simp
  | e :: l => by
    have ih := getT_set n m t l
    unfold setT getT at *
    rw [List.map_cons]
    by_cases w : m = n
    · rw [if_pos w] at ih ⊢
      by_cases z : e.1 = n
      · rw [if_pos z, List.find?_cons_of_pos (by simp [z, w]), List.find?_cons_of_pos (by simp [z])]; rfl
      · rw [if_neg z, List.find?_cons_of_neg (by simp [z, w]), List.find?_cons_of_neg (by simp [z])]; exact ih
    · rw [if_neg w] at ih ⊢
      by_cases z : e.1 = n
      · have nm : e.1 ≠ m := fun y => w (by rw [← y, z])
        rw [if_pos z, List.find?_cons_of_neg (by simp [nm]), List.find?_cons_of_neg (by simp [nm])]; exact ih
      · rw [if_neg z]
        by_cases y : e.1 = m
        · rw [List.find?_cons_of_pos (by simp [y]), List.find?_cons_of_pos (by simp [y])]
        · rw [List.find?_cons_of_neg (by simp [y]), List.find?_cons_of_neg (by simp [y])]; exact ih
theorem getT_del (n m : Str) : ∀ l : List (Str × Tab), getT (delN l n) m = if m = n then none else getT l m
  | [] => by unfold delN getT; simp
  | e :: l => by
    have ih := getT_del n m l
    unfold delN getT at *
    by_cases z : e.1 = n
    · rw [List.filter_cons_of_neg (by simp [z]), ih]
      by_cases w : m = n
      · rw [if_pos w, if_pos w]
      · rw [if_neg w, if_neg w, List.find?_cons_of_neg (by simp [z]; exact fun h => w h.symm)]
    · rw [List.filter_cons_of_pos (by simp [z])]
      by_cases y : e.1 = m
      · have w : m ≠ n := fun h => z (by rw [y, h])
        rw [if_neg w, List.find?_cons_of_pos (by simp [y]), List.find?_cons_of_pos (by simp [y])]
      · rw [List.find?_cons_of_neg (by simp [y]), ih]
        split
        · rfl
        · rw [List.find?_cons_of_neg (by simp [y])]
theorem getT_app (n m : Str) (t : Tab) : ∀ l : List (Str × Tab), getT (l ++ [(n, t)]) m = if (getT l m).isSome = true then getT l m else if n = m then some t else none
  | [] => by
    unfold getT
    by_cases z : n = m
    · simp [z]
    · simp [z]
  | e :: l => by
    have ih := getT_app n m t l
    unfold getT at *
    rw [List.cons_append]
    by_cases y : e.1 = m
    · rw [List.find?_cons_of_pos (by simp [y]), List.find?_cons_of_pos (by simp [y])]; rfl
    · rw [List.find?_cons_of_neg (by simp [y]), List.find?_cons_of_neg (by simp [y])]; exact ih
theorem hold_take (v : Lk) (who : Int) (n : Str) (al : Bool) (m : Str) : hold (takeL v who n al) m = if m = n then putI (hold v n) who (takeB (hold v n) who al) else hold v m := by
  show (getT (setT (newT v.held n) n _) m).getD [] = _
  rw [getT_set]
  by_cases w : m = n
  · rw [if_pos w, if_pos w]
    have : (getT (newT v.held n) n).isSome = true := by
      unfold newT
      split
      · assumption
      · rename_i h
        rw [getT_app, if_neg h, if_pos rfl]; rfl
    obtain ⟨t, ht⟩ := Option.isSome_iff_exists.mp this
    rw [ht]; rfl
  · rw [if_neg w, if_neg w]
    unfold newT hold
    split
    · rfl
    · rw [getT_app]
      split
      · rfl
      · rename_i h
        rw [if_neg (fun z => w z.symm)]
        cases hg : getT v.held m with
        | none => rfl
        | some t => rw [hg] at h; exact absurd rfl h
theorem hold_drop (v : Lk) (who : Int) (n m : Str) : hold (dropL v who n) m = if m = n then dropI (hold v n) who else hold v m := by
  unfold dropL
  by_cases hd : dropI (hold v n) who = []
  · show (getT (if dropI (hold v n) who = [] then _ else _) m).getD [] = _
    rw [if_pos hd, getT_del]
    by_cases w : m = n
    · rw [if_pos w, if_pos w, hd]; rfl
    · rw [if_neg w, if_neg w]; rfl
  · show (getT (if dropI (hold v n) who = [] then _ else _) m).getD [] = _
    rw [if_neg hd, getT_set]
    by_cases w : m = n
    · rw [if_pos w, if_pos w]
      cases hg : getT v.held n with
      | none => exact absurd (by unfold hold; rw [hg]; rfl) hd
      | some t => rfl
    · rw [if_neg w, if_neg w]; rfl
/-- because of whom x waits -/
def Bk (v : Lk) (x : Int) (n : Str) (al : Bool) (y : Int) : Prop := (∃ b, (y, b) ∈ hold v n ∧ y ≠ x ∧ (al = true ∨ b = true)) ∨ (keyI (hold v n) x = false ∧ y ∈ aheadL v.queue x n)
theorem bk_iff {v : Lk} {x : Int} {n : Str} {al : Bool} {y : Int} : y ∈ blk v x n al ↔ Bk v x n al y := by
  rw [blk_mem]
  unfold blkL Bk
  rw [List.mem_append]
  refine or_congr ?_ ?_
  · unfold blkA
    rw [List.mem_map]
    constructor
    · rintro ⟨⟨a, b⟩, hp, rfl⟩
      obtain ⟨h1, h2⟩ := List.mem_filter.mp hp
      refine ⟨b, h1, ?_⟩
      simpa using h2
    · rintro ⟨b, h1, h2⟩
      exact ⟨(y, b), List.mem_filter.mpr ⟨h1, by simpa using h2⟩, rfl⟩
  · cases keyI (hold v n) x <;> simp
theorem ed_iff {v : Lk} (nd : (v.queue.map (·.1)).Nodup) {x y : Int} : y ∈ waitsL v x ↔ ∃ n al, (x, n, al) ∈ v.queue ∧ Bk v x n al y := by
  unfold waitsL
  constructor
  · intro h
    cases hf : v.queue.find? (fun r => decide (r.1 = x)) with
    | none => rw [hf] at h; cases h
    | some r =>
      rw [hf] at h
      obtain ⟨a, n, al⟩ := r
      have e : a = x := by simpa using List.find?_some hf
      subst e
      exact ⟨n, al, List.mem_of_find?_eq_some hf, bk_iff.mp h⟩
  · rintro ⟨n, al, hm, hb⟩
    cases hf : v.queue.find? (fun r => decide (r.1 = x)) with
    | none => have := List.find?_eq_none.mp hf _ hm; simp at this
    | some r =>
      have e : r.1 = x := by simpa using List.find?_some hf
      have := nodup_inj nd (List.mem_of_find?_eq_some hf) hm e
      rw [this]
      exact bk_iff.mpr hb
theorem keyI_mem {t : Tab} {x : Int} : keyI t x = true ↔ ∃ b, (x, b) ∈ t := by
  unfold keyI
  rw [List.any_eq_true]
  constructor
  · rintro ⟨⟨a, b⟩, h, e⟩
    have e : a = x := by simpa using e
    subst e
    exact ⟨b, h⟩
  · rintro ⟨b, h⟩
    exact ⟨_, h, by simp⟩
theorem Rch.tran {v : Lk} {a b c : Int} (h : Rch v a b) (h2 : Rch v b c) : Rch v a c := by
  induction h2 with
  | one e => exact .step h e
  | step _ e ih => exact .step ih e
theorem Rch.src {v : Lk} {a b : Int} (h : Rch v a b) : waitsL v a ≠ [] := by
  induction h with
  | one e => intro z; rw [z] at e; cases e
  | step _ _ ih => exact ih
theorem Rch.sub {v v' : Lk} (h : ∀ x y, y ∈ waitsL v' x → y ∈ waitsL v x) {a b : Int} (r : Rch v' a b) : Rch v a b := by
  induction r with
  | one e => exact .one (h _ _ e)
  | step _ e ih => exact .step ih (h _ _ e)
theorem Rch.into {v v' : Lk} {who : Int} (h : ∀ x y, y ∈ waitsL v' x → y ≠ who → y ∈ waitsL v x) (hw : waitsL v' who = []) {a b : Int} (r : Rch v' a b) : b ≠ who → Rch v a b := by
  induction r with
  | one e => exact fun n => .one (h _ _ e n)
  | step _ e ih =>
    intro n
    exact .step (ih fun z => by rw [z, hw] at e; cases e) (h _ _ e n)
theorem Rch.outof {v v' : Lk} {who : Int} (h : ∀ x y, y ∈ waitsL v' x → x ≠ who → y ∈ waitsL v x) {a b : Int} (r : Rch v' a b) : Rch v a b ∨ ((a = who ∨ Rch v' a who) ∧ Rch v' who b) := by
  induction r with
  | @one y e =>
    by_cases z : a = who
    · exact .inr ⟨.inl z, by rw [← z]; exact .one e⟩
    · exact .inl (.one (h _ _ e z))
  | @step b c r e ih =>
    rcases ih with ih | ⟨i1, i2⟩
    · by_cases z : b = who
      · exact .inr ⟨.inr (by rw [← z]; exact r), by rw [← z]; exact .one (by rw [z] at e ⊢; exact e)⟩
      · exact .inl (.step ih (h _ _ e z))
    · exact .inr ⟨i1, .step i2 e⟩
structure Inv (v : Lk) : Prop where
  wf : Wf v
  one : ∀ n x y b, (x, true) ∈ hold v n → (y, b) ∈ hold v n → y = x
  up : ∀ x n al, (x, n, al) ∈ v.queue → keyI (hold v n) x = true → al = true
  ac : ∀ x, ¬ Rch v x x
theorem mem_rm {q : List Row} {who : Int} {r : Row} : r ∈ rmW q who ↔ r ∈ q ∧ r.1 ≠ who := by
  unfold rmW
  rw [List.mem_filter, decide_eq_true_iff]
theorem ahead_rm {who x : Int} {n : Str} {y : Int} (hx : x ≠ who) : ∀ {q : List Row}, y ∈ aheadL (rmW q who) x n → y ∈ aheadL q x n
  | [], h => h
  | r :: q, h => by
    have ih := ahead_rm (y := y) (n := n) hx (q := q)
    unfold rmW at h ih
    by_cases z : r.1 = who
    · rw [List.filter_cons_of_neg (by simp [z])] at h
      unfold aheadL
      rw [if_neg (fun e => hx (by rw [← e, z]))]
      split
      · exact List.mem_cons_of_mem _ (ih h)
      · exact ih h
    · rw [List.filter_cons_of_pos (by simp [z])] at h
      unfold aheadL at h ⊢
      split at h
      · cases h
      · rename_i h1
        rw [if_neg h1]
        split at h
        · rename_i h2
          rw [if_pos h2]
          rcases List.mem_cons.mp h with h | h
          · exact List.mem_cons.mpr (.inl h)
          · exact List.mem_cons_of_mem _ (ih h)
        · rename_i h2
          rw [if_neg h2]; exact ih h
theorem ahead_app {x : Int} {n : Str} (l : List Row) : ∀ {q : List Row}, x ∈ q.map (·.1) → aheadL (q ++ l) x n = aheadL q x n
  | [], h => by cases h
  | r :: q, h => by
    rw [List.cons_append]
    unfold aheadL
    by_cases z : r.1 = x
    · rw [if_pos z, if_pos z]
    · rw [if_neg z, if_neg z]
      rw [List.map_cons] at h
      have ih := ahead_app (n := n) l (q := q) ((List.mem_cons.mp h).resolve_left fun e => z e.symm)
      rw [ih]
theorem waits_nil {v : Lk} {x : Int} (h : x ∉ v.queue.map (·.1)) : waitsL v x = [] := by
  unfold waitsL
  cases hf : v.queue.find? (fun r => decide (r.1 = x)) with
  | none => rfl
  | some r =>
    have e : r.1 = x := by simpa using List.find?_some hf
    exact absurd (List.mem_map.mpr ⟨r, List.mem_of_find?_eq_some hf, e⟩) h
theorem putI_mem2 {t : Tab} {who : Int} {b : Bool} {p : Int × Bool} (h : p ∈ putI t who b) : p = (who, b) ∨ (p ∈ t ∧ p.1 ≠ who) := by
  unfold putI at h
  split at h
  · obtain ⟨x, hx, rfl⟩ := List.mem_map.mp h
    split
    · rename_i z; exact .inl (by rw [z])
    · rename_i z; exact .inr ⟨hx, z⟩
  · rename_i hk
    rcases List.mem_append.mp h with h | h
    · exact .inr ⟨h, fun z => hk (keyI_mem.mpr ⟨p.2, by rw [← z]; exact h⟩)⟩
    · exact .inl (List.mem_singleton.mp h)
theorem key_putI {t : Tab} {who : Int} {b : Bool} {x : Int} (hx : x ≠ who) : keyI (putI t who b) x = keyI t x := by
  rw [Bool.eq_iff_iff, keyI_mem, keyI_mem]
  constructor
  · rintro ⟨c, h⟩
    rcases putI_mem2 h with h | ⟨h, _⟩
    · exact absurd (congrArg Prod.fst h) hx
    · exact ⟨c, h⟩
  · rintro ⟨c, h⟩
    refine ⟨c, ?_⟩
    unfold putI
    split
    · exact List.mem_map.mpr ⟨(x, c), h, by rw [if_neg hx]⟩
    · exact List.mem_append.mpr (.inl h)
theorem getI_mem {t : Tab} {x : Int} {b : Bool} (h : getI t x = some b) : (x, b) ∈ t := by
  unfold getI at h
  cases hf : t.find? (fun p => decide (p.1 = x)) with
  | none => rw [hf] at h; cases h
  | some p =>
    rw [hf] at h
    have e1 : p.2 = b := Option.some.inj h
    have e2 : p.1 = x := by simpa using List.find?_some hf
    rw [← e1, ← e2]
    exact List.mem_of_find?_eq_some hf
/-- stopping to wait -/
theorem Inv.rm {v : Lk} (I : Inv v) (who : Int) : Inv { v with queue := rmW v.queue who } := by
  have W := I.wf.rm who
  refine ⟨W, I.one, fun x n al h hk => I.up x n al (mem_rm.mp h).1 hk, fun x h => I.ac x (h.sub fun x y h => ?_)⟩
  rw [ed_iff W.qn] at h
  rw [ed_iff I.wf.qn]
  obtain ⟨n, al, hm, hb⟩ := h
  obtain ⟨h1, h2⟩ := mem_rm.mp hm
  refine ⟨n, al, h1, ?_⟩
  rcases hb with hb | ⟨hb, h3⟩
  · exact .inl hb
  · exact .inr ⟨hb, ahead_rm h2 h3⟩
/-- a name is given to one who need not wait for it -/
theorem Inv.take {v : Lk} (I : Inv v) {who : Int} {n : Str} {al : Bool} (h1 : W5 who) (h2 : n ∈ nms) (hb : blk v who n al = []) : Inv (takeL { v with queue := rmW v.queue who } who n al) := by
  have W := (I.wf.rm who).take h1 h2 al
  have no : ∀ y, ¬ Bk v who n al y := fun y h => by
    have := bk_iff.mpr h
    rw [hb] at this; cases this
  have hh := hold_take { v with queue := rmW v.queue who } who n al
  rw [show hold { v with queue := rmW v.queue who } = hold v from rfl] at hh
  refine ⟨W, fun m x y b hx hy => ?_, fun x m a hm hk => ?_, fun x h => ?_⟩
  · rw [hh] at hx hy
    by_cases z : m = n
    · rw [if_pos z] at hx hy
      rcases putI_mem2 hx with ex | ⟨hx, nx⟩
      · have ex1 : x = who := congrArg Prod.fst ex
        have ex2 : true = takeB (hold v n) who al := congrArg Prod.snd ex
        rcases putI_mem2 hy with ey | ⟨hy, ny⟩
        · rw [ex1]; exact congrArg Prod.fst ey
        · exfalso
          unfold takeB at ex2
          have ex3 := ex2.symm
          rw [Bool.or_eq_true, decide_eq_true_iff] at ex3
          rcases ex3 with ex3 | ex3
          · exact ny (I.one n who y b (getI_mem ex3) hy)
          · exact no y (.inl ⟨b, hy, ny, .inl ex3⟩)
      · exact absurd (.inl ⟨true, hx, nx, .inr rfl⟩) (no x)
    · rw [if_neg z] at hx hy
      exact I.one m x y b hx hy
  · obtain ⟨g1, g2⟩ := mem_rm.mp (show (x, m, a) ∈ rmW v.queue who from hm)
    refine I.up x m a g1 ?_
    rw [hh] at hk
    by_cases z : m = n
    · rw [if_pos z, key_putI g2] at hk
      rw [z]; exact hk
    · rw [if_neg z] at hk; exact hk
  · have hw : waitsL (takeL { v with queue := rmW v.queue who } who n al) who = [] := waits_nil fun z => by
      obtain ⟨r, hr, e⟩ := List.mem_map.mp (show who ∈ (rmW v.queue who).map (·.1) from z)
      exact (mem_rm.mp hr).2 e
    have nx : x ≠ who := fun z => h.src (by rw [z]; exact hw)
    refine I.ac x (Rch.into (who := who) (fun x y h ny => ?_) hw h nx)
    rw [ed_iff W.qn] at h
    rw [ed_iff I.wf.qn]
    obtain ⟨m, a, hm, hbk⟩ := h
    obtain ⟨g1, g2⟩ := mem_rm.mp (show (x, m, a) ∈ rmW v.queue who from hm)
    refine ⟨m, a, g1, ?_⟩
    unfold Bk at hbk ⊢
    rw [hh] at hbk
    rcases hbk with ⟨b, k1, k2, k3⟩ | ⟨k1, k2⟩
    · refine .inl ⟨b, ?_, k2, k3⟩
      by_cases z : m = n
      · rw [if_pos z] at k1
        rcases putI_mem2 k1 with e | ⟨k1, _⟩
        · exact absurd (congrArg Prod.fst e) ny
        · rw [z]; exact k1
      · rw [if_neg z] at k1; exact k1
    · refine .inr ⟨?_, ahead_rm g2 k2⟩
      by_cases z : m = n
      · rw [if_pos z, key_putI g2] at k1
        rw [z]; exact k1
      · rw [if_neg z] at k1; exact k1
/-- one more waits, who closes no ring -/
theorem Inv.push {v : Lk} (I : Inv v) {who : Int} {n : Str} {al : Bool} (h1 : W5 who) (h2 : n ∈ nms) (hq : (v.queue.any fun x => decide (x.1 = who)) = false) (hb : blk v who n al ≠ []) (hr : ¬ Rch (pushL v (who, n, al)) who who) : Inv (pushL v (who, n, al)) := by
  have W := I.wf.push (r := (who, n, al)) hq h1 h2
  refine ⟨W, I.one, fun x m a hm hk => ?_, fun x h => ?_⟩
  · rcases List.mem_append.mp (show (x, m, a) ∈ v.queue ++ [(who, n, al)] from hm) with hm | hm
    · exact I.up x m a hm hk
    · obtain ⟨rfl, rfl, rfl⟩ : x = who ∧ m = n ∧ a = al := by simpa using List.mem_singleton.mp hm
      have hk : keyI (hold v m) x = true := hk
      cases a with
      | true => rfl
      | false =>
        exfalso
        obtain ⟨y, hy⟩ : ∃ y, y ∈ blk v x m false := by
          cases hc : blk v x m false with
          | nil => exact absurd hc hb
          | cons y l => exact ⟨y, List.mem_cons_self⟩
        rcases bk_iff.mp hy with ⟨b, k1, k2, k3⟩ | ⟨k1, _⟩
        · have k3 := k3.resolve_left (by decide)
          subst k3
          obtain ⟨c, k4⟩ := keyI_mem.mp hk
          exact k2 (I.one m y x c k1 k4).symm
        · exact absurd (show false = true from k1.symm.trans hk) (by decide)
  · have key : ∀ x y, y ∈ waitsL (pushL v (who, n, al)) x → x ≠ who → y ∈ waitsL v x := fun x y h nx => by
      rw [ed_iff W.qn] at h
      rw [ed_iff I.wf.qn]
      obtain ⟨m, a, hm, hbk⟩ := h
      rcases List.mem_append.mp (show (x, m, a) ∈ v.queue ++ [(who, n, al)] from hm) with hm | hm
      · refine ⟨m, a, hm, ?_⟩
        rcases hbk with hbk | ⟨k1, k2⟩
        · exact .inl hbk
        · refine .inr ⟨k1, ?_⟩
          have k2 : y ∈ aheadL (v.queue ++ [(who, n, al)]) x m := k2
          rw [ahead_app _ (List.mem_map.mpr ⟨_, hm, rfl⟩)] at k2
          exact k2
      · have e := List.mem_singleton.mp hm
        exact absurd (congrArg Prod.fst e) nx
    rcases Rch.outof key h with h | ⟨h3, h4⟩
    · exact I.ac x h
    · rcases h3 with h3 | h3
      · rw [h3] at h4; exact hr h4
      · exact hr (h4.tran h3)
theorem mem_dropI {t : Tab} {who : Int} {p : Int × Bool} : p ∈ dropI t who ↔ p ∈ t ∧ p.1 ≠ who := by
  unfold dropI
  rw [List.mem_filter, decide_eq_true_iff]
theorem key_dropI {t : Tab} {who x : Int} : keyI (dropI t who) x = true ↔ keyI t x = true ∧ x ≠ who := by
  rw [keyI_mem, keyI_mem]
  constructor
  · rintro ⟨b, h⟩
    obtain ⟨h1, h2⟩ := mem_dropI.mp h
    exact ⟨⟨b, h1⟩, h2⟩
  · rintro ⟨⟨b, h⟩, h2⟩
    exact ⟨b, mem_dropI.mpr ⟨h, h2⟩⟩
/-- the one ahead of whom nobody of theirs stands, waits himself -/
theorem ahead_row {x : Int} {n : Str} {y : Int} : ∀ {q : List Row}, y ∈ aheadL q x n → ∃ a, (y, n, a) ∈ q ∧ y ≠ x
  | [], h => by cases h
  | r :: q, h => by
    unfold aheadL at h
    split at h
    · cases h
    · rename_i h1
      split at h
      · rename_i h2
        rcases List.mem_cons.mp h with e | h
        · exact ⟨r.2.2, by rw [e, ← h2]; exact List.mem_cons_self, by rw [e]; exact h1⟩
        · obtain ⟨a, i1, i2⟩ := ahead_row h
          exact ⟨a, List.mem_cons_of_mem _ i1, i2⟩
      · obtain ⟨a, i1, i2⟩ := ahead_row h
        exact ⟨a, List.mem_cons_of_mem _ i1, i2⟩
theorem ahead_tran {x y z : Int} {n : Str} : ∀ {q : List Row}, (q.map (·.1)).Nodup → y ∈ aheadL q x n → z ∈ aheadL q y n → z ∈ aheadL q x n
  | [], _, h, _ => by cases h
  | r :: q, nd, h, h2 => by
    rw [List.map_cons, List.nodup_cons] at nd
    unfold aheadL at h h2 ⊢
    split at h
    · cases h
    · rename_i n1
      rw [if_neg n1]
      split at h2
      · cases h2
      · rename_i n2
        split at h
        · rename_i e
          rw [if_pos e] at h2 ⊢
          have hy := (List.mem_cons.mp h).resolve_left fun z => n2 z.symm
          rcases List.mem_cons.mp h2 with e2 | h2
          · rw [e2]; exact List.mem_cons_self
          · exact List.mem_cons_of_mem _ (ahead_tran nd.2 hy h2)
        · rename_i e
          rw [if_neg e] at h2 ⊢
          exact ahead_tran nd.2 h h2
/-- a name is let go -/
theorem Inv.drop {v : Lk} (I : Inv v) (who : Int) (n : Str) : Inv (dropL v who n) := by
  have W := I.wf.drop who n
  have hh := hold_drop v who n
  have hq : (dropL v who n).queue = v.queue := rfl
  have sub : ∀ m p, p ∈ hold (dropL v who n) m → p ∈ hold v m := fun m p h => by
    rw [hh] at h
    by_cases z : m = n
    · rw [if_pos z] at h; rw [z]; exact (mem_dropI.mp h).1
    · rw [if_neg z] at h; exact h
  have off : ∀ b, (who, b) ∉ hold (dropL v who n) n := fun b h => by
    rw [hh, if_pos rfl] at h; exact (mem_dropI.mp h).2 rfl
  have keep : ∀ m x, x ≠ who ∨ m ≠ n → keyI (hold (dropL v who n) m) x = keyI (hold v m) x := fun m x h => by
    rw [hh]
    by_cases z : m = n
    · rw [if_pos z, z, Bool.eq_iff_iff, key_dropI]
      exact ⟨fun h => h.1, fun k => ⟨k, h.resolve_right (fun y => y z)⟩⟩
    · rw [if_neg z]
  have kw : ∀ m x, keyI (hold (dropL v who n) m) x = true → keyI (hold v m) x = true := fun m x h => by
    obtain ⟨b, h⟩ := keyI_mem.mp h
    exact keyI_mem.mpr ⟨b, sub m _ h⟩
  refine ⟨W, fun m x y b hx hy => I.one m x y b (sub m _ hx) (sub m _ hy), fun x m a hm hk => I.up x m a hm (kw m x hk), fun x h => ?_⟩
  -- the edges that are new lead from who to those ahead
  have ed : ∀ x y, y ∈ waitsL (dropL v who n) x → y ∈ waitsL v x ∨ (x = who ∧ ∃ a, (who, n, a) ∈ v.queue ∧ keyI (hold v n) who = true ∧ y ∈ aheadL v.queue who n) := fun x y h => by
    rw [ed_iff W.qn, hq] at h
    obtain ⟨m, a, hm, hb⟩ := h
    by_cases c : x ≠ who ∨ m ≠ n
    · refine .inl ((ed_iff I.wf.qn).mpr ⟨m, a, hm, ?_⟩)
      rcases hb with ⟨b, k1, k2, k3⟩ | ⟨k1, k2⟩
      · exact .inl ⟨b, sub m _ k1, k2, k3⟩
      · exact .inr ⟨by rw [← keep m x c]; exact k1, k2⟩
    · have c1 : x = who := by by_cases z : x = who; exact z; exact absurd (.inl z) c
      have c2 : m = n := by by_cases z : m = n; exact z; exact absurd (.inr z) c
      subst c1
      subst c2
      rcases hb with ⟨b, k1, k2, k3⟩ | ⟨k1, k2⟩
      · exact .inl ((ed_iff I.wf.qn).mpr ⟨m, a, hm, .inl ⟨b, sub m _ k1, k2, k3⟩⟩)
      · cases hk : keyI (hold v m) x with
        | false => exact .inl ((ed_iff I.wf.qn).mpr ⟨m, a, hm, .inr ⟨hk, k2⟩⟩)
        | true => exact .inr ⟨rfl, a, hm, rfl, k2⟩
  by_cases hup : ∃ a, (who, n, a) ∈ v.queue ∧ keyI (hold v n) who = true
  · obtain ⟨a, hrow, hkey⟩ := hup
    have ha := I.up who n a hrow hkey
    subst ha
    -- the holders of the name, whom who waits for
    have hold_ed : ∀ y b, (y, b) ∈ hold v n → y ≠ who → y ∈ waitsL v who := fun y b h1 h2 => (ed_iff I.wf.qn).mpr ⟨n, true, hrow, .inl ⟨b, h1, h2, .inl rfl⟩⟩
    -- those who lead to who no more
    let S : Int → Prop := fun x => (¬ Rch v x who ∧ x ≠ who) ∨ x ∈ aheadL v.queue who n
    have hw : ¬ S who := fun h => by
      rcases h with ⟨_, h⟩ | h
      · exact h rfl
      · obtain ⟨_, _, h⟩ := ahead_row h; exact h rfl
    have cl : ∀ x y, S x → y ∈ waitsL (dropL v who n) x → S y := fun x y hx h => by
      by_cases hA : x ∈ aheadL v.queue who n
      · obtain ⟨c, r1, r2⟩ := ahead_row hA
        rw [ed_iff W.qn, hq] at h
        obtain ⟨m, a, hm, hb⟩ := h
        have e := nodup_inj I.wf.qn r1 hm rfl
        cases e
        rcases hb with ⟨b, k1, k2, k3⟩ | ⟨k1, k2⟩
        · have ny : y ≠ who := fun z => off b (z ▸ k1)
          exact .inl ⟨fun z => I.ac who ((Rch.one (hold_ed y b (sub n _ k1) ny)).tran z), ny⟩
        · exact .inr (ahead_tran I.wf.qn hA k2)
      · obtain ⟨g1, g2⟩ := hx.resolve_right hA
        have e := (ed x y h).resolve_right fun z => g2 z.1
        have ny : y ≠ who := fun z => g1 (.one (by rw [← z]; exact e))
        exact .inl ⟨fun z => g1 ((Rch.one e).tran z), ny⟩
    have stay : ∀ {a b}, Rch (dropL v who n) a b → S a → S b := fun {a b} r ha => by
      induction r with
      | one e => exact cl _ _ ha e
      | step _ e ih => exact cl _ _ ih e
    have tr : ∀ {a b}, Rch (dropL v who n) a b → Rch v a b ∨ (S b ∧ (a = who ∨ Rch (dropL v who n) a who)) := fun {a b} r => by
      induction r with
      | @one y e =>
        rcases ed _ _ e with e2 | ⟨e2, _, _, _, e3⟩
        · exact .inl (.one e2)
        · exact .inr ⟨.inr e3, .inl e2⟩
      | @step b c r e ih =>
        rcases ih with ih | ⟨i1, i2⟩
        · rcases ed _ _ e with e2 | ⟨e2, _, _, _, e3⟩
          · exact .inl (.step ih e2)
          · exact .inr ⟨.inr e3, .inr (e2 ▸ r)⟩
        · exact .inr ⟨cl _ _ i1 e, i2⟩
    rcases tr h with h2 | ⟨h2, h3⟩
    · exact I.ac x h2
    · rcases h3 with h3 | h3
      · rw [h3] at h2; exact hw h2
      · exact hw (stay h3 h2)
  · exact I.ac x (h.sub fun x y h => (ed x y h).resolve_right fun ⟨_, a, h1, h2, _⟩ => hup ⟨a, h1, h2⟩)
theorem pass_inv : ∀ {rs : List Row} {v : Lk}, Inv v → (rs.map (·.1)).Nodup → (∀ r ∈ rs, r ∈ v.queue) → Inv (passL v rs).1
  | [], v, I, _, _ => I
  | r :: rs, v, I, nd, h => by
    rw [List.map_cons, List.nodup_cons] at nd
    unfold passL
    by_cases hb : blk v r.1 r.2.1 r.2.2 = []
    · rw [if_pos hb]
      have g := I.wf.qr r (h r List.mem_cons_self)
      refine pass_inv (I.take g.1 g.2 hb) nd.2 fun x hx => mem_rm.mpr ⟨h x (List.mem_cons_of_mem _ hx), fun z => nd.1 (by rw [← z]; exact List.mem_map.mpr ⟨x, hx, rfl⟩)⟩
    · rw [if_neg hb]
      exact pass_inv I nd.2 fun x hx => h x (List.mem_cons_of_mem _ hx)
theorem serve_inv : ∀ (m : Nat) {v : Lk}, Inv v → Inv (serveN m v).1
  | 0, v, I => I
  | m + 1, v, I => by
    have J := pass_inv I I.wf.qn fun r hr => hr
    unfold serveN
    split
    · exact J
    · exact serve_inv m J
theorem Inv.init : Inv ⟨[], []⟩ :=
  ⟨⟨List.nodup_nil, (fun r h => by cases h), List.nodup_nil, (fun r h => by cases h), (fun r h => by cases h)⟩, (fun n x y b h => by cases h), (fun x n al h => by cases h), (fun x h => h.src rfl)⟩
/-! ### the law's own ring -/
def expR (v : Lk) (seen : List Int) (x : Int) : List Int := seen ++ (waitsL v x).filter fun o => decide (o ∉ seen)
def rndR (v : Lk) (seen : List Int) : List Int := seen.foldl (expR v) seen
def ringN (v : Lk) : Nat → List Int → List Int
  | 0, s => s
  | m + 1, s => ringN v m (rndR v s)
def ClosR (v : Lk) (s : List Int) : Prop := ∀ x ∈ s, ∀ y ∈ waitsL v x, y ∈ s
theorem exp_old {v : Lk} {s : List Int} {x y : Int} (h : y ∈ s) : y ∈ expR v s x := List.mem_append.mpr (.inl h)
theorem exp_new {v : Lk} {s : List Int} {x y : Int} (h : y ∈ waitsL v x) : y ∈ expR v s x := by
  by_cases z : y ∈ s
  · exact exp_old z
  · exact List.mem_append.mpr (.inr (List.mem_filter.mpr ⟨h, by simpa using z⟩))
theorem fold_old {v : Lk} : ∀ {l s : List Int} {y : Int}, y ∈ s → y ∈ l.foldl (expR v) s
  | [], _, _, h => h
  | x :: l, s, y, h => by rw [List.foldl_cons]; exact fold_old (exp_old h)
theorem fold_new {v : Lk} : ∀ {l s : List Int} {x y : Int}, x ∈ l → y ∈ waitsL v x → y ∈ l.foldl (expR v) s
  | [], _, _, _, h, _ => by cases h
  | a :: l, s, x, y, h, hy => by
    rw [List.foldl_cons]
    rcases List.mem_cons.mp h with rfl | h
    · exact fold_old (exp_new hy)
    · exact fold_new h hy
theorem exp_all {v : Lk} {P : Int → Prop} {s : List Int} {x : Int} (h : ∀ y ∈ s, P y) (hx : ∀ y ∈ waitsL v x, P y) : ∀ y ∈ expR v s x, P y := fun y hy => by
  rcases List.mem_append.mp hy with hy | hy
  · exact h y hy
  · exact hx y (List.mem_filter.mp hy).1
theorem fold_all {v : Lk} {P : Int → Prop} : ∀ {l s : List Int}, (∀ y ∈ s, P y) → (∀ x ∈ l, ∀ y ∈ waitsL v x, P y) → ∀ y ∈ l.foldl (expR v) s, P y
  | [], _, h, _ => h
  | a :: l, s, h, hl => by
    rw [List.foldl_cons]
    exact fold_all (exp_all h (hl a List.mem_cons_self)) fun x hx => hl x (List.mem_cons_of_mem _ hx)
theorem fold_same {v : Lk} : ∀ {l s : List Int}, (∀ x ∈ l, ∀ y ∈ waitsL v x, y ∈ s) → l.foldl (expR v) s = s
  | [], _, _ => rfl
  | a :: l, s, h => by
    rw [List.foldl_cons]
    have e : expR v s a = s := by
      unfold expR
      rw [List.filter_eq_nil_iff.mpr fun y hy => by simpa using h a List.mem_cons_self y hy, List.append_nil]
    rw [e]
    exact fold_same fun x hx => h x (List.mem_cons_of_mem _ hx)
theorem rnd_same {v : Lk} {s : List Int} (h : ClosR v s) : rndR v s = s := fold_same h
theorem ring_same {v : Lk} : ∀ (m : Nat) {s : List Int}, ClosR v s → ringN v m s = s
  | 0, _, _ => rfl
  | m + 1, s, h => by
    unfold ringN
    rw [rnd_same h]
    exact ring_same m h
def offQ (v : Lk) (s : List Int) : List Row := v.queue.filter fun r => decide (r.1 ∉ s)
theorem off_less {v : Lk} {s : List Int} (h : ¬ ClosR v (rndR v s)) : (offQ v (rndR v s)).length < (offQ v s).length := by
  have h2 : ∃ x ∈ rndR v s, ∃ y ∈ waitsL v x, y ∉ rndR v s := Classical.byContradiction fun z => h fun x hx y hy => Classical.byContradiction fun w => z ⟨x, hx, y, hy, w⟩
  obtain ⟨x, hx, y, hy, hn⟩ := h2
  have hxs : x ∉ s := fun z => hn (fold_new z hy)
  have hrow : ∃ r ∈ v.queue, r.1 = x := by
    unfold waitsL at hy
    cases hf : v.queue.find? (fun r => decide (r.1 = x)) with
    | none => rw [hf] at hy; cases hy
    | some r => exact ⟨r, List.mem_of_find?_eq_some hf, by simpa using List.find?_some hf⟩
  obtain ⟨r, hr, rfl⟩ := hrow
  have e : offQ v (rndR v s) = (offQ v s).filter fun r => decide (r.1 ∉ rndR v s) := by
    unfold offQ
    rw [List.filter_filter]
    refine List.filter_congr fun z _ => ?_
    by_cases a : z.1 ∈ rndR v s
    · simp [a]
    · have : z.1 ∉ s := fun b => a (fold_old b)
      simp [a, this]
  rw [e]
  exact List.length_filter_lt_length_iff_exists.mpr ⟨r, List.mem_filter.mpr ⟨hr, by simpa using hxs⟩, by simpa using hx⟩
theorem ring_clos {v : Lk} : ∀ (m : Nat) {s : List Int}, (offQ v s).length < m → ClosR v (ringN v m s)
  | 0, _, h => absurd h (Nat.not_lt_zero _)
  | m + 1, s, h => by
    unfold ringN
    by_cases c : ClosR v (rndR v s)
    · rw [ring_same m c]; exact c
    · exact ring_clos m (by have := off_less c; omega)
theorem ring_all {v : Lk} {P : Int → Prop} (hP : ∀ x, P x → ∀ y ∈ waitsL v x, P y) : ∀ (m : Nat) {s : List Int}, (∀ y ∈ s, P y) → ∀ y ∈ ringN v m s, P y
  | 0, _, h => h
  | m + 1, s, h => ring_all hP m (fold_all h fun x hx => hP x (h x hx))
theorem ring_old {v : Lk} : ∀ (m : Nat) {s : List Int} {y : Int}, y ∈ s → y ∈ ringN v m s
  | 0, _, _, h => h
  | m + 1, s, y, h => ring_old m (fold_old h)
theorem ring_ok (v : Lk) (who : Int) : who ∈ ringN v (v.queue.length + 1) (waitsL v who) ↔ Rch v who who := by
  constructor
  · exact fun h => ring_all (P := fun x => Rch v who x) (fun x hx y hy => .step hx hy) _ (fun y hy => .one hy) _ h
  · intro h
    have cl : ClosR v (ringN v (v.queue.length + 1) (waitsL v who)) := ring_clos _ (by have := List.length_filter_le (fun r : Row => decide (r.1 ∉ waitsL v who)) v.queue; unfold offQ; omega)
    have all : ∀ {a x : Int}, Rch v a x → a = who → x ∈ ringN v (v.queue.length + 1) (waitsL v who) := by
      intro a x h
      induction h with
      | one hy => intro e; subst e; exact ring_old _ hy
      | step _ hc ih => intro e; exact cl _ (ih e) _ hc
    exact all h rfl
/-! ### how long the lists are -/
def In5 (s : List Int) : Prop := s.Nodup ∧ ∀ x ∈ s, W5 x
theorem In5.len {s : List Int} (h : In5 s) : s.length ≤ 5 := len5 h.1 h.2
theorem addI_nodup {l : List Int} (h : l.Nodup) (k : Int) : (addI l k).Nodup := by
  unfold addI
  split
  · exact h
  · rename_i z
    exact List.nodup_append.mpr ⟨h, List.pairwise_singleton _ _, fun a ha b hb e => z (by rw [← List.mem_singleton.mp hb, ← e]; exact ha)⟩
theorem fold_nodup : ∀ (l : List Int) {a : List Int}, a.Nodup → (l.foldl addI a).Nodup
  | [], _, h => h
  | x :: l, a, h => by rw [List.foldl_cons]; exact fold_nodup l (addI_nodup h x)
theorem blk_in5 {v : Lk} (W : Wf v) (who : Int) (n : Str) (al : Bool) : In5 (blk v who n al) := by
  refine ⟨(srt_perm _).nodup_iff.mpr (fold_nodup _ .nil), fun x hx => ?_⟩
  rcases bk_iff.mp hx with ⟨b, h, _⟩ | ⟨_, h⟩
  · exact (W.hold n).2 _ h
  · obtain ⟨r, hr, rfl⟩ := List.mem_map.mp (ahead_sub h)
    exact (W.qr r hr).1
theorem waits_in5 {v : Lk} (W : Wf v) (who : Int) : In5 (waitsL v who) := by
  unfold waitsL
  split
  · exact blk_in5 W _ _ _
  · exact ⟨.nil, fun x h => by cases h⟩
theorem exp_in5 {v : Lk} (W : Wf v) {s : List Int} (h : In5 s) (x : Int) : In5 (expR v s x) := by
  have w := waits_in5 W x
  refine ⟨List.nodup_append.mpr ⟨h.1, w.1.sublist List.filter_sublist, fun a ha b hb e => ?_⟩, exp_all h.2 w.2⟩
  have := (List.mem_filter.mp hb).2
  rw [← e] at this
  simp [ha] at this
theorem fold_in5 {v : Lk} (W : Wf v) : ∀ (l : List Int) {s : List Int}, In5 s → In5 (l.foldl (expR v) s)
  | [], _, h => h
  | x :: l, s, h => by rw [List.foldl_cons]; exact fold_in5 W l (exp_in5 W h x)
theorem ring_in5 {v : Lk} (W : Wf v) : ∀ (m : Nat) {s : List Int}, In5 s → In5 (ringN v m s)
  | 0, _, h => h
  | m + 1, s, h => ring_in5 W m (fold_in5 W _ h)
/-! ### leaving -/
def leaveF (who : Int) (v : Lk) (n : Str) : Lk := if keyI (hold v n) who = true then dropL v who n else v
def leaveL (v : Lk) (who : Int) (ns : List Str) : Lk := ns.foldl (leaveF who) { v with queue := rmW v.queue who }
theorem leaveF_inv {v : Lk} (I : Inv v) (who : Int) (n : Str) : Inv (leaveF who v n) := by
  unfold leaveF
  split
  · exact I.drop who n
  · exact I
theorem fold_leave : ∀ (ns : List Str) {v : Lk} (who : Int), Inv v → Inv (ns.foldl (leaveF who) v)
  | [], _, _, I => I
  | n :: ns, v, who, I => by rw [List.foldl_cons]; exact fold_leave ns who (leaveF_inv I who n)
theorem leave_inv {v : Lk} (I : Inv v) (who : Int) (ns : List Str) : Inv (leaveL v who ns) := fold_leave ns who (I.rm who)
theorem rm_self {q : List Row} {who : Int} (h : (q.any fun x => decide (x.1 = who)) = false) : rmW q who = q := by
  unfold rmW
  refine List.filter_eq_self.mpr fun r hr => ?_
  rw [List.any_eq_false] at h
  simpa using h r hr
theorem Inv.take0 {v : Lk} (I : Inv v) {who : Int} {n : Str} {al : Bool} (h1 : W5 who) (h2 : n ∈ nms) (hq : (v.queue.any fun x => decide (x.1 = who)) = false) (hb : blk v who n al = []) : Inv (takeL v who n al) := by
  have := I.take h1 h2 hb
  rwa [rm_self hq] at this
end KL
end
section
set_option Elab.async false
set_option linter.all false
set_option maxRecDepth 100000
set_option maxHeartbeats 2000000
set_option pp.maxSteps 900
namespace KL
open PySem PySem.Spec PyProof.Rows L2 GX
section
variable {P : Program} {w : World} {K : PySem.W.Frag} {mg : Str → Option Value} {base : Heap} {CL PE : Addr} {TL : List (Addr × Str)} {GT : List Addr} {H H' : Hp} {h q l dx : Addr} {hs : List (Str × Addr × Tab)} {qs : List (Addr × Row)} {v : Lk} {F A : List Addr}
def spLeave (K : PySem.W.Frag) (CL : Addr) (TL : List (Addr × Str)) (GT : List Addr) : Sp := fun vs H Q E => ∃ l who dx h q hs qs, vs = [.ref l, .int who] ∧ LP K CL H l dx h q hs qs ∧ Wf (lkOf hs qs) ∧
  ∀ a q' H' qs' ns, ns.Perm (hs.map (·.1)) → sortedS ns = true → AftL K CL TL GT H l dx h q' (l :: fpOf h q hs) (serveN 50 (leaveL (lkOf hs qs) who ns)).1 qs' H' → H' a = some (.lst ((serveN 50 (leaveL (lkOf hs qs) who ns)).2.map V.int)) → (a ∈ l :: fpOf h q hs ∨ free H a) → Q (.ref a) H'
theorem fh_some {n : Str} : ∀ {hs : List (Str × Addr × Tab)}, n ∈ hs.map (·.1) → ∃ e, fh hs n = some e
  | [], h => by cases h
  | e :: hs, h => by
    unfold fh
    by_cases z : e.1 = n
    · exact ⟨e, by rw [List.find?_cons_of_pos (by simpa using z)]⟩
    · rw [List.find?_cons_of_neg (by simpa using z)]
      exact fh_some ((List.mem_cons.mp h).resolve_left fun y => z y.symm)
theorem fh_in {n : Str} {hs : List (Str × Addr × Tab)} (h : ∃ e, fh hs n = some e) : n ∈ hs.map (·.1) := by
  obtain ⟨e, h⟩ := h
  obtain ⟨h1, h2⟩ := fh_mem h
  exact List.mem_map.mpr ⟨e, h1, h2⟩
structure LvI (K : PySem.W.Frag) (CL : Addr) (TL : List (Addr × Str)) (GT : List Addr) (H : Hp) (l dx h q : Addr) (F : List Addr) (p : Addr) (who : Int) (ns : List Str) (v0 : Lk) (qs : List (Addr × Row)) (i : Nat) (σ : L2.St) (H' : Hp) : Prop where
  w : ∃ (v2 v3 : Option V) (hs : List (Str × Addr × Tab)), σ = [some (.ref l), some (.int who), v2, v3] ∧ LP K CL H' l dx h q hs qs ∧ (∀ a ∈ l :: fpOf h q hs, a ∈ F ∨ free H a) ∧ Wf (lkOf hs qs) ∧
    lkOf hs qs = (ns.take i).foldl (leaveF who) v0 ∧ ∀ n ∈ ns.drop i, ∃ e, fh hs n = some e
  e : Ex F TL GT H H'
  s : H' p = some (.lst (ns.map V.str))
theorem m_leave (T : KL.Txt P w K mg base CL PE TL GT) : Met P w K mg base 10 CL "leave" [] (spLeave K CL TL GT) := by
  have m_Locks_serve := m_serve T
  obtain ⟨f, fd, c, D, hm⟩ := T.l_leave
  refine met_of T.cL hm ?_ (D.bind0 (ps := ["self", "who"]) (fun _ _ _ _ _ _ us hl => match us, hl with | [_, _], _ => rfl))
  refine D.okF (N := ["self", "who", "name", "row"]) (ps := ["self", "who"]) ⟨rfl, rfl, rfl, by decide +kernel, rfl, by decide +kernel, by decide +kernel⟩ (fun vs H Q E h => by first | (obtain ⟨_, rfl, _⟩ := h; rfl) | (obtain ⟨_, _, rfl, _⟩ := h; rfl) | (obtain ⟨_, _, _, rfl, _⟩ := h; rfl) | (obtain ⟨_, _, _, _, rfl, _⟩ := h; rfl) | (obtain ⟨_, _, _, _, _, rfl, _⟩ := h; rfl) | (obtain ⟨_, _, _, _, _, _, rfl, _⟩ := h; rfl) | (obtain ⟨_, _, _, _, _, _, _, rfl, _⟩ := h; rfl) | (obtain ⟨_, _, _, _, _, _, _, _, rfl, _⟩ := h; rfl) | (obtain ⟨_, _, _, _, _, _, _, _, _, rfl, _⟩ := h; rfl) | (obtain ⟨_, _, _, _, _, _, _, _, _, _, rfl, _⟩ := h; rfl) | (obtain ⟨_, _, _, _, _, _, _, _, _, _, _, rfl, _⟩ := h; rfl) | (obtain ⟨_, _, _, _, _, _, _, _, _, _, _, _, rfl, _⟩ := h; rfl) | (obtain ⟨_, _, _, _, _, _, _, _, _, _, _, _, _, rfl, _⟩ := h; rfl) | (obtain ⟨_, _, _, _, _, _, _, _, _, _, _, _, _, _, rfl, _⟩ := h; rfl) | (obtain ⟨_, _, _, _, _, _, _, _, _, _, _, _, _, _, _, rfl, _⟩ := h; rfl) | (obtain ⟨rfl, _⟩ := h; rfl)) (fun A outer s H vs Q E hr h => ?_)
  have nd : (["self", "who", "name", "row"] : List Str).Nodup := by decide
  refine mk_ex (pss_cons (sFldK (K := K) rfl (ps_fld (pv 0) (pe_lc rfl nd (ilK (K := K) rfl (pi_list (fldK (K := K) rfl (pe_fld (pv 0) rfl)))) (show BlkOk ["self", "who", "name", "row"] (defScope (inClass (top 4) 10)) _ [("row", 3)] from blkOk_by (by decide +kernel)) (fun s H C cl fp => (pg_name (i := 3) nd rfl (Or.inl rfl))) (fun s H C cl fp => (pts_one (pt_cmpR (opK (K := K) (r := rNeU) (opU_ne (roomEq hr)) rfl) (pe_ix (ixK (K := K) (r := rIx) ix_seq rfl) (pv 3) pe_int (fun _ _ => rfl)) (pv 1) (nomark _)))) (fun s H C cl fp => (pv 3))) rfl))
    (pss_cons (ps_for (passes_of rfl) rfl (ilK (K := K) rfl (pi_list (pe_callB (call_sortedD rfl) rfl T.n_sorted rfl (by exact (pa_cons (fldK (K := K) rfl (pe_fld (pv 0) rfl)) pa_nil))))) (pg_name (i := 2) nd rfl (Or.inl rfl)) (pss_one (ps_if (pt_cmp (pc_din (roomD hr) (pv 1) (pe_dget (roomD hr) (fldK (K := K) rfl (pe_fld (pv 0) rfl)) (pv 2) (fun _ _ => rfl)))) (pss_cons (ps_ddel (pe_dget (roomD hr) (fldK (K := K) rfl (pe_fld (pv 0) rfl)) (pv 2) (fun _ _ => rfl)) (pv 1))
    (pss_one (ps_if (pt_cmpR (opK (K := K) (r := rEqE) (opE_eq (roomEq hr)) rfl) (pe_dget (roomD hr) (fldK (K := K) rfl (pe_fld (pv 0) rfl)) (pv 2) (fun _ _ => rfl)) pe_dnewK (nomark _)) (pss_one (ps_ddel (fldK (K := K) rfl (pe_fld (pv 0) rfl)) (pv 2))) pss_nil))) pss_nil)))
    (pss_one (ps_ret (pe_met0 m_Locks_serve (hr.mono (by decide)) (takes_of rfl rfl rfl rfl) (pv 0)))))) ?_
  obtain ⟨l, who, dx, h, q, hs, qs, rfl, L, W, hq⟩ := h
  simp only [cx_K, gcx_K, lcx_K, LenV, rLenU, tTruU, kTup, tFld, sFld, sFldAug, tMet, tMake, tBM, tDGet, tDGet1, tDGet2, sDPut, tRevL, iEnum, tAug, tAsg, mulV_int, iaddU_int, isubU_int, iaddU_str, tTupL, ex2eq, not_true_eq_false, not_false_eq_true, LamX.tLam, LamX.TTold, tSeq, tIf, tNext, tRet, tRetN, tIfS, tTest, tB, tNot, tAnd, tOr, tChain, tOp, tUn, tC, tVar, tCons, tNil, tTup, tLst, tAsg, gName, gTup, gCons, gNil, gSub, tDrop, tCallS, tCB, tM1, tM0, tBM, tBM0, tSl, tPar, tFor_eq, tLc_eq, intU_int, intU_bl, iList, iTup, iEnumT, tDNewK, rSlT, rSlL, iRng1, iRng2, iStr, tThen, tNever, L2.start, tRaiseFile, tMkFile, tYes, tPart, tNoPart, addA_int, addA_str, addU_int, addU_str, addU_ref, subU_int, mulU_int, mulU_ref, fdvU_int, modU_int, powU_int, ltU_int, leU_int, gtU_int, geU_int, eqU_int, eqU_str, eqU_bl, neU_int, neU_str, neU_bl, WE, TruV, tDIn, tDNotIn, sDDel, tDSetd, tDPop1, tLock, tLockE, tLk, tLockA, tLockEA, iKeys, List.map, List.length_cons, List.length_nil, List.replicate, List.append, List.getElem?_cons_zero, List.getElem?_cons_succ, List.set_cons_zero, List.set_cons_succ, List.cons_append, List.nil_append, Option.some.injEq, V.int.injEq, V.str.injEq, V.bl.injEq, V.ref.injEq, List.cons.injEq, exists_eq_left, exists_eq_right, and_true, true_and, and_self, exists_eq, exists_const, Bool.not_true, Bool.not_false, Bool.false_eq_true, if_true, if_false, reduceIte, decide_eq_true_eq, bne_iff_ne, exists_eq_left', exists_eq', exists_and_left, Bool.not_eq_true', decide_eq_false_iff_not, Nat.reduceSub, Nat.reduceAdd, reduceCtorEq, false_and, or_false, false_or, exists_false]
  refine ⟨_, _, _, L.hl, T.cL, T.fL _ (by simp), _, rfl, ?_⟩; try simp only [cx_K, gcx_K, lcx_K, LenV, rLenU, tTruU, kTup, tFld, sFld, sFldAug, tMet, tMake, tBM, tDGet, tDGet1, tDGet2, sDPut, tRevL, iEnum, tAug, tAsg, mulV_int, iaddU_int, isubU_int, iaddU_str, tTupL, ex2eq, not_true_eq_false, not_false_eq_true, LamX.tLam, LamX.TTold, tSeq, tIf, tNext, tRet, tRetN, tIfS, tTest, tB, tNot, tAnd, tOr, tChain, tOp, tUn, tC, tVar, tCons, tNil, tTup, tLst, tAsg, gName, gTup, gCons, gNil, gSub, tDrop, tCallS, tCB, tM1, tM0, tBM, tBM0, tSl, tPar, tFor_eq, tLc_eq, intU_int, intU_bl, iList, iTup, iEnumT, tDNewK, rSlT, rSlL, iRng1, iRng2, iStr, tThen, tNever, L2.start, tRaiseFile, tMkFile, tYes, tPart, tNoPart, addA_int, addA_str, addU_int, addU_str, addU_ref, subU_int, mulU_int, mulU_ref, fdvU_int, modU_int, powU_int, ltU_int, leU_int, gtU_int, geU_int, eqU_int, eqU_str, eqU_bl, neU_int, neU_str, neU_bl, WE, TruV, tDIn, tDNotIn, sDDel, tDSetd, tDPop1, tLock, tLockE, tLk, tLockA, tLockEA, iKeys, List.map, List.length_cons, List.length_nil, List.replicate, List.append, List.getElem?_cons_zero, List.getElem?_cons_succ, List.set_cons_zero, List.set_cons_succ, List.cons_append, List.nil_append, Option.some.injEq, V.int.injEq, V.str.injEq, V.bl.injEq, V.ref.injEq, List.cons.injEq, exists_eq_left, exists_eq_right, and_true, true_and, and_self, exists_eq, exists_const, Bool.not_true, Bool.not_false, Bool.false_eq_true, if_true, if_false, reduceIte, decide_eq_true_eq, bne_iff_ne, exists_eq_left', exists_eq', exists_and_left, Bool.not_eq_true', decide_eq_false_iff_not, Nat.reduceSub, Nat.reduceAdd, reduceCtorEq, false_and, or_false, false_or, exists_false]
  refine ⟨⟨_, lst_at L.co.hq⟩, fun D hD => ?_⟩
  have hDF := L.notin hD
  have hDf := free_none hD
  refine lcl_list (xs := qs.map fun e => V.ref e.1) (fun i H' => Ex [] TL GT H H' ∧ H' D = some (.lst ((rmQ (qs.take i) who).map fun e => V.ref e.1))) ⟨Ex.new hD, upd_same⟩ (fun i H' _ e => lst_at (L.keep e.1 (fun _ _ => by simp)).co.hq) ?_ ?_
  · rintro i x H' hx ⟨e, hf⟩
    have LL := L.keep e (fun _ _ => by simp)
    rw [List.getElem?_map] at hx
    cases hqi : qs[i]? with
    | none => rw [hqi] at hx; cases hx
    | some ar =>
      rw [hqi] at hx
      obtain rfl : V.ref ar.1 = x := Option.some.inj hx
      have hr := LL.co.hrT ar (List.mem_of_getElem? hqi)
      simp only [cx_K, gcx_K, lcx_K, LenV, rLenU, tTruU, kTup, tFld, sFld, sFldAug, tMet, tMake, tBM, tDGet, tDGet1, tDGet2, sDPut, tRevL, iEnum, tAug, tAsg, mulV_int, iaddU_int, isubU_int, iaddU_str, tTupL, ex2eq, not_true_eq_false, not_false_eq_true, LamX.tLam, LamX.TTold, tSeq, tIf, tNext, tRet, tRetN, tIfS, tTest, tB, tNot, tAnd, tOr, tChain, tOp, tUn, tC, tVar, tCons, tNil, tTup, tLst, tAsg, gName, gTup, gCons, gNil, gSub, tDrop, tCallS, tCB, tM1, tM0, tBM, tBM0, tSl, tPar, tFor_eq, tLc_eq, intU_int, intU_bl, iList, iTup, iEnumT, tDNewK, rSlT, rSlL, iRng1, iRng2, iStr, tThen, tNever, L2.start, tRaiseFile, tMkFile, tYes, tPart, tNoPart, addA_int, addA_str, addU_int, addU_str, addU_ref, subU_int, mulU_int, mulU_ref, fdvU_int, modU_int, powU_int, ltU_int, leU_int, gtU_int, geU_int, eqU_int, eqU_str, eqU_bl, neU_int, neU_str, neU_bl, WE, TruV, tDIn, tDNotIn, sDDel, tDSetd, tDPop1, tLock, tLockE, tLk, tLockA, tLockEA, iKeys, List.map, List.length_cons, List.length_nil, List.replicate, List.append, List.getElem?_cons_zero, List.getElem?_cons_succ, List.set_cons_zero, List.set_cons_succ, List.cons_append, List.nil_append, Option.some.injEq, V.int.injEq, V.str.injEq, V.bl.injEq, V.ref.injEq, List.cons.injEq, exists_eq_left, exists_eq_right, and_true, true_and, and_self, exists_eq, exists_const, Bool.not_true, Bool.not_false, Bool.false_eq_true, if_true, if_false, reduceIte, decide_eq_true_eq, bne_iff_ne, exists_eq_left', exists_eq', exists_and_left, Bool.not_eq_true', decide_eq_false_iff_not, Nat.reduceSub, Nat.reduceAdd, reduceCtorEq, false_and, or_false, false_or, exists_false, wipe]
      have hstep : rmQ (qs.take (i + 1)) who = rmQ (qs.take i) who ++ (if ar.2.1 ≠ who then [ar] else []) := by
        unfold rmQ
        rw [List.take_succ, hqi, List.filter_append]
        congr 1
        rw [Option.toList_some, List.filter_cons]
        by_cases z : ar.2.1 = who <;> simp [z]
      have hlen : (rmQ (qs.take i) who).length ≤ 5 := by
        have a1 := List.length_filter_le (fun x : Addr × Row => decide (x.2.1 ≠ who)) (qs.take i)
        have h5 : qs.length ≤ 5 := by have := W.q5; unfold lkOf at this; rw [List.length_map] at this; exact this
        rw [List.length_take] at a1
        unfold rmQ
        omega
      refine rIx_tup hr (by rfl) ?_
      try simp only [cx_K, gcx_K, lcx_K, LenV, rLenU, tTruU, kTup, tFld, sFld, sFldAug, tMet, tMake, tBM, tDGet, tDGet1, tDGet2, sDPut, tRevL, iEnum, tAug, tAsg, mulV_int, iaddU_int, isubU_int, iaddU_str, tTupL, ex2eq, not_true_eq_false, not_false_eq_true, LamX.tLam, LamX.TTold, tSeq, tIf, tNext, tRet, tRetN, tIfS, tTest, tB, tNot, tAnd, tOr, tChain, tOp, tUn, tC, tVar, tCons, tNil, tTup, tLst, tAsg, gName, gTup, gCons, gNil, gSub, tDrop, tCallS, tCB, tM1, tM0, tBM, tBM0, tSl, tPar, tFor_eq, tLc_eq, intU_int, intU_bl, iList, iTup, iEnumT, tDNewK, rSlT, rSlL, iRng1, iRng2, iStr, tThen, tNever, L2.start, tRaiseFile, tMkFile, tYes, tPart, tNoPart, addA_int, addA_str, addU_int, addU_str, addU_ref, subU_int, mulU_int, mulU_ref, fdvU_int, modU_int, powU_int, ltU_int, leU_int, gtU_int, geU_int, eqU_int, eqU_str, eqU_bl, neU_int, neU_str, neU_bl, WE, TruV, tDIn, tDNotIn, sDDel, tDSetd, tDPop1, tLock, tLockE, tLk, tLockA, tLockEA, iKeys, List.map, List.length_cons, List.length_nil, List.replicate, List.append, List.getElem?_cons_zero, List.getElem?_cons_succ, List.set_cons_zero, List.set_cons_succ, List.cons_append, List.nil_append, Option.some.injEq, V.int.injEq, V.str.injEq, V.bl.injEq, V.ref.injEq, List.cons.injEq, exists_eq_left, exists_eq_right, and_true, true_and, and_self, exists_eq, exists_const, Bool.not_true, Bool.not_false, Bool.false_eq_true, if_true, if_false, reduceIte, decide_eq_true_eq, bne_iff_ne, exists_eq_left', exists_eq', exists_and_left, Bool.not_eq_true', decide_eq_false_iff_not, Nat.reduceSub, Nat.reduceAdd, reduceCtorEq, false_and, or_false, false_or, exists_false]
      by_cases z : ar.2.1 = who
      · rw [if_neg (by simpa using z)]
        exact ⟨e, by rw [hf, hstep, if_neg (by simpa using z), List.append_nil]⟩
      · rw [if_pos z]
        refine ⟨_, hf, by rw [List.length_map, sizeLine_eq]; omega, e.chg hf rfl (.inr hDf), ?_⟩
        rw [upd_same, hstep, if_pos z, List.map_append]; rfl
  · rintro H' ⟨e, hf⟩
    rw [List.length_map, List.take_of_length_le (Nat.le_refl _)] at hf
    have LL := L.keep e (fun _ _ => by simp)
    refine ⟨_, _, _, LL.hl, T.cL, T.fL _ (by simp), (by first | (show 0 < 1000; decide) | (show 1 < 1000; decide) | (show 2 < 1000; decide) | (show 3 < 1000; decide) | (show 4 < 1000; decide) | (show 5 < 1000; decide) | (show 6 < 1000; decide) | (show 7 < 1000; decide)), ?_⟩
    have C1 := LL.co.newQ who hf
    have e1 : Ex (l :: fpOf h q hs) TL GT H (upd H' l (.ins CL dx (putF "queue" (.ref D) [("held", .ref h), ("queue", .ref q)]))) := e.any.chg LL.hl rfl (.inl (by simp))
    have l1 : upd H' l (.ins CL dx (putF "queue" (.ref D) [("held", .ref h), ("queue", .ref q)])) l = some (.ins CL dx [("held", .ref h), ("queue", .ref D)]) := upd_same
    have C2 : Co K (upd H' l (.ins CL dx (putF "queue" (.ref D) [("held", .ref h), ("queue", .ref q)]))) h D hs (rmQ qs who) := C1.keep (A := [l]) (TL := TL) (GT := GT) (Ex.put (by simp) LL.hl rfl) (fun a ha => by
      rw [List.mem_singleton]
      intro z
      simp only [fpOf, List.mem_cons, List.mem_map] at ha
      rcases ha with rfl | rfl | ⟨x, hx, rfl⟩
      · have := LL.hl; rw [← z, LL.co.hh] at this; cases this
      · have := LL.hl; rw [← z, hf] at this; cases this
      · have := LL.hl; rw [← z, LL.co.ht x hx] at this; cases this)
    generalize upd H' l (.ins CL dx (putF "queue" (.ref D) [("held", .ref h), ("queue", .ref q)])) = H1 at e1 l1 C2 ⊢
    have L1 : LP K CL H1 l dx h D hs (rmQ qs who) := ⟨l1, C2⟩
    have W1 : Wf (lkOf hs (rmQ qs who)) := by rw [rmQ_lk]; exact W.rm who
    refine ⟨_, _, _, l1, T.cL, T.fL _ (by simp), _, rfl, h, rfl, _, .inl L1.co.hh, hs.map (·.1), by rw [List.map_map, List.map_map]; rfl, by have := W.h4; unfold lkOf at this; rw [List.length_map] at this ⊢; omega, fun ns p hp1 hp2 hp => ⟨⟨_, lst_at upd_same⟩, ?_⟩⟩
    have hpF : p ∉ l :: fpOf h D hs := L1.notin hp
    have fp1 : ∀ a ∈ l :: fpOf h D hs, a ∈ l :: fpOf h q hs ∨ free H a := fun a ha => by
      simp only [fpOf, List.mem_cons] at ha
      rcases ha with rfl | rfl | rfl | ha
      · exact .inl (by simp)
      · exact .inl (by simp [fpOf])
      · exact .inr hDf
      · exact .inl (by simp only [fpOf, List.mem_cons]; exact .inr (.inr (.inr ha)))
    have e2 : Ex (l :: fpOf h q hs) TL GT H (upd H1 p (.lst (ns.map V.str))) := e1.add hp
    have p2 : upd H1 p (.lst (ns.map V.str)) p = some (.lst (ns.map V.str)) := upd_same
    have L2' := L1.keep (Ex.new (A := []) (TL := TL) (GT := GT) (o := .lst (ns.map V.str)) hp) (fun _ _ => by simp)
    have pf : p ∈ l :: fpOf h q hs ∨ free H p := e1.fresh (free_none hp)
    have npD : p ≠ D := fun z => hpF (by rw [z]; simp [fpOf])
    generalize upd H1 p (.lst (ns.map V.str)) = H2 at e2 p2 L2' ⊢
    have nnd : ns.Nodup := hp1.nodup_iff.mpr L.co.nm
    refine loop_list (xs := ns.map V.str) (LvI K CL TL GT H l dx h D (l :: fpOf h q hs) p who ns { lkOf hs qs with queue := rmW (lkOf hs qs).queue who } (rmQ qs who)) ⟨⟨none, none, hs, rfl, L2', fp1, W1, rmQ_lk hs qs who, fun n hn => ?_⟩, e2, p2⟩ (fun i σ H' _ I => lst_at I.s) ?_ ?_
    · obtain ⟨e, he, hen⟩ := List.mem_map.mp (hp1.mem_iff.mp (by simpa using hn : n ∈ ns))
      cases hf : fh hs n with
      | none => have := List.find?_eq_none.mp hf e he; simp [hen] at this
      | some e => exact ⟨e, rfl⟩
    · rintro i x σ H3 hx ⟨⟨v2, v3, hs3, rfl, L3, fp3, W3, hv3, hn3⟩, e3, p3⟩
      rw [List.getElem?_map] at hx
      cases hni : ns[i]? with
      | none => rw [hni] at hx; cases hx
      | some n =>
        rw [hni] at hx
        obtain rfl : V.str n = x := Option.some.inj hx
        have hd := drop_at ns hni
        obtain ⟨e0, hf0⟩ := hn3 n (by rw [hd]; exact List.mem_cons_self)
        obtain ⟨he0, hen⟩ := fh_mem hf0
        have nnd2 : n ∉ ns.drop (i + 1) := fun z => by
          have := nnd.sublist (List.drop_sublist i ns)
          rw [hd, List.nodup_cons] at this
          exact this.1 z
        try simp only [cx_K, gcx_K, lcx_K, LenV, rLenU, tTruU, kTup, tFld, sFld, sFldAug, tMet, tMake, tBM, tDGet, tDGet1, tDGet2, sDPut, tRevL, iEnum, tAug, tAsg, mulV_int, iaddU_int, isubU_int, iaddU_str, tTupL, ex2eq, not_true_eq_false, not_false_eq_true, LamX.tLam, LamX.TTold, tSeq, tIf, tNext, tRet, tRetN, tIfS, tTest, tB, tNot, tAnd, tOr, tChain, tOp, tUn, tC, tVar, tCons, tNil, tTup, tLst, tAsg, gName, gTup, gCons, gNil, gSub, tDrop, tCallS, tCB, tM1, tM0, tBM, tBM0, tSl, tPar, tFor_eq, tLc_eq, intU_int, intU_bl, iList, iTup, iEnumT, tDNewK, rSlT, rSlL, iRng1, iRng2, iStr, tThen, tNever, L2.start, tRaiseFile, tMkFile, tYes, tPart, tNoPart, addA_int, addA_str, addU_int, addU_str, addU_ref, subU_int, mulU_int, mulU_ref, fdvU_int, modU_int, powU_int, ltU_int, leU_int, gtU_int, geU_int, eqU_int, eqU_str, eqU_bl, neU_int, neU_str, neU_bl, WE, TruV, tDIn, tDNotIn, sDDel, tDSetd, tDPop1, tLock, tLockE, tLk, tLockA, tLockEA, iKeys, List.map, List.length_cons, List.length_nil, List.replicate, List.append, List.getElem?_cons_zero, List.getElem?_cons_succ, List.set_cons_zero, List.set_cons_succ, List.cons_append, List.nil_append, Option.some.injEq, V.int.injEq, V.str.injEq, V.bl.injEq, V.ref.injEq, List.cons.injEq, exists_eq_left, exists_eq_right, and_true, true_and, and_self, exists_eq, exists_const, Bool.not_true, Bool.not_false, Bool.false_eq_true, if_true, if_false, reduceIte, decide_eq_true_eq, bne_iff_ne, exists_eq_left', exists_eq', exists_and_left, Bool.not_eq_true', decide_eq_false_iff_not, Nat.reduceSub, Nat.reduceAdd, reduceCtorEq, false_and, or_false, false_or, exists_false]
        have ht : hold (lkOf hs3 (rmQ qs who)) n = e0.2.2 := by rw [hold_fh, hf0]; rfl
        have hstep : (ns.take (i + 1)).foldl (leaveF who) { lkOf hs qs with queue := rmW (lkOf hs qs).queue who } = leaveF who (lkOf hs3 (rmQ qs who)) n := by
          rw [List.take_succ, hni, List.foldl_append, hv3]; rfl
        refine ⟨_, _, _, L3.hl, T.cL, T.fL _ (by simp), _, rfl, h, rfl, _, .inl ⟨kvH hs3, .inr n, .inl L3.co.hh, rfl, by rw [val_hs, hf0]; rfl⟩, e0.2.1, rfl, _, .inl ⟨tabK e0.2.2, .inl who, .inl (L3.co.ht e0 he0), rfl, rfl⟩, ?_⟩
        rw [val_key]
        have hnx : ∀ m ∈ ns.drop (i + 1), ∃ e, fh hs3 m = some e := fun m hm => hn3 m (by rw [hd]; exact List.mem_cons_of_mem _ hm)
        cases hk : keyI e0.2.2 who with
        | false =>
          rw [if_neg (by decide)]
          exact ⟨⟨_, _, hs3, rfl, L3, fp3, W3, by rw [hstep]; unfold leaveF; rw [ht, hk, if_neg (by decide)], hnx⟩, e3, p3⟩
        | true =>
          rw [if_pos rfl]
          have hnk : ((dropI e0.2.2 who).map (·.1)).Nodup := dropI_nodup (L3.co.nk e0 he0) who
          refine ⟨_, _, _, L3.hl, T.cL, T.fL _ (by simp), _, rfl, h, rfl, _, .inl ⟨kvH hs3, .inr n, .inl L3.co.hh, rfl, by rw [val_hs, hf0]; rfl⟩, e0.2.1, rfl, _, L3.co.ht e0 he0, .inl who, rfl, by rw [val_key]; exact hk, ?_⟩
          rw [drop_tab]
          have C4 := L3.co.setTab he0 hnk
          have hmem : e0.2.1 ∈ l :: fpOf h D hs3 := by
            simp only [fpOf, List.mem_cons, List.mem_map]; exact .inr (.inr (.inr ⟨e0, he0, rfl⟩))
          have hp3F : p ∉ l :: fpOf h D hs3 := L3.lst_off p3 npD
          have npe : p ≠ e0.2.1 := fun z => hp3F (by rw [z]; exact hmem)
          have nph : p ≠ h := fun z => hp3F (by rw [z]; simp [fpOf])
          have e4 : Ex (l :: fpOf h q hs) TL GT H (upd H3 e0.2.1 (.dK (tabK (dropI e0.2.2 who)))) := e3.chg (L3.co.ht e0 he0) rfl (fp3 _ hmem)
          have l4 : upd H3 e0.2.1 (.dK (tabK (dropI e0.2.2 who))) l = some (.ins CL dx [("held", .ref h), ("queue", .ref D)]) := by
            rw [upd_ne (fun z => by have := L3.co.ht e0 he0; rw [← z, L3.hl] at this; cases this)]; exact L3.hl
          have t4 : upd H3 e0.2.1 (.dK (tabK (dropI e0.2.2 who))) e0.2.1 = some (.dK (tabK (dropI e0.2.2 who))) := upd_same
          have p4 : upd H3 e0.2.1 (.dK (tabK (dropI e0.2.2 who))) p = some (.lst (ns.map V.str)) := by rw [upd_ne npe]; exact p3
          generalize upd H3 e0.2.1 (.dK (tabK (dropI e0.2.2 who))) = H4 at e4 l4 t4 C4 p4 ⊢
          have L4 : LP K CL H4 l dx h D (setH hs3 e0.1 (dropI e0.2.2 who)) (rmQ qs who) := ⟨l4, C4⟩
          have hv4 : fh (setH hs3 e0.1 (dropI e0.2.2 who)) n = some (e0.1, e0.2.1, dropI e0.2.2 who) := fh_set hf0
          have fpe : fpOf h D (setH hs3 e0.1 (dropI e0.2.2 who)) = fpOf h D hs3 := by unfold fpOf; rw [setH_adr]
          try simp only [cx_K, gcx_K, lcx_K, LenV, rLenU, tTruU, kTup, tFld, sFld, sFldAug, tMet, tMake, tBM, tDGet, tDGet1, tDGet2, sDPut, tRevL, iEnum, tAug, tAsg, mulV_int, iaddU_int, isubU_int, iaddU_str, tTupL, ex2eq, not_true_eq_false, not_false_eq_true, LamX.tLam, LamX.TTold, tSeq, tIf, tNext, tRet, tRetN, tIfS, tTest, tB, tNot, tAnd, tOr, tChain, tOp, tUn, tC, tVar, tCons, tNil, tTup, tLst, tAsg, gName, gTup, gCons, gNil, gSub, tDrop, tCallS, tCB, tM1, tM0, tBM, tBM0, tSl, tPar, tFor_eq, tLc_eq, intU_int, intU_bl, iList, iTup, iEnumT, tDNewK, rSlT, rSlL, iRng1, iRng2, iStr, tThen, tNever, L2.start, tRaiseFile, tMkFile, tYes, tPart, tNoPart, addA_int, addA_str, addU_int, addU_str, addU_ref, subU_int, mulU_int, mulU_ref, fdvU_int, modU_int, powU_int, ltU_int, leU_int, gtU_int, geU_int, eqU_int, eqU_str, eqU_bl, neU_int, neU_str, neU_bl, WE, TruV, tDIn, tDNotIn, sDDel, tDSetd, tDPop1, tLock, tLockE, tLk, tLockA, tLockEA, iKeys, List.map, List.length_cons, List.length_nil, List.replicate, List.append, List.getElem?_cons_zero, List.getElem?_cons_succ, List.set_cons_zero, List.set_cons_succ, List.cons_append, List.nil_append, Option.some.injEq, V.int.injEq, V.str.injEq, V.bl.injEq, V.ref.injEq, List.cons.injEq, exists_eq_left, exists_eq_right, and_true, true_and, and_self, exists_eq, exists_const, Bool.not_true, Bool.not_false, Bool.false_eq_true, if_true, if_false, reduceIte, decide_eq_true_eq, bne_iff_ne, exists_eq_left', exists_eq', exists_and_left, Bool.not_eq_true', decide_eq_false_iff_not, Nat.reduceSub, Nat.reduceAdd, reduceCtorEq, false_and, or_false, false_or, exists_false]
          refine ⟨_, _, _, L4.hl, T.cL, T.fL _ (by simp), _, rfl, h, rfl, _, .inl ⟨kvH (setH hs3 e0.1 (dropI e0.2.2 who)), .inr n, .inl L4.co.hh, rfl, by rw [val_hs, hv4]; rfl⟩, fun r hr => ?_⟩
          have er : Ex [] TL GT H4 (upd H4 r (.dK [])) := Ex.new hr
          have L5 := L4.keep er (fun _ _ => by simp)
          have t5 : upd H4 r (.dK []) e0.2.1 = some (.dK (tabK (dropI e0.2.2 who))) := er.ext _ _ (by simp) t4 (fun _ z => by cases z)
          have r5 : upd H4 r (.dK []) r = some (.dK []) := upd_same
          have p5 := er.lst (by simp) p4
          have e5 := e4.trans er.any
          generalize upd H4 r (.dK []) = H5 at er L5 t5 r5 p5 e5 ⊢
          refine .inr ⟨_, r, _, rfl, rfl, t5, r5, _, rfl, ?_⟩
          have hv : lkOf (setH hs3 e0.1 (dropI e0.2.2 who)) (rmQ qs who) = { lkOf hs3 (rmQ qs who) with held := setT (lkOf hs3 (rmQ qs who)).held n (dropI (hold (lkOf hs3 (rmQ qs who)) n) who) } := by rw [setH_lk, hen, ht]
          have hnx2 : ∀ m ∈ ns.drop (i + 1), ∃ e, fh (setH hs3 e0.1 (dropI e0.2.2 who)) m = some e := fun m hm => fh_some (by rw [setH_fst]; exact fh_in (hnx m hm))
          by_cases hd2 : dropI e0.2.2 who = []
          · rw [if_pos (by rw [hd2]; rfl)]
            refine ⟨_, _, _, L5.hl, T.cL, T.fL _ (by simp), _, rfl, h, rfl, _, L5.co.hh, .inr n, rfl, by show (valV (kvH (setH hs3 e0.1 (dropI e0.2.2 who))) (.inr n)).isSome = true; rw [val_hs, hv4]; rfl, ?_⟩
            rw [show dropK (List.map (fun e : Str × Addr × Tab => ((Sum.inr e.1 : Key), V.ref e.2.1)) (setH hs3 e0.1 (dropI e0.2.2 who))) (.inr n) = kvH (delH (setH hs3 e0.1 (dropI e0.2.2 who)) n) from drop_kvH _ _]
            have C6 := L5.co.delName n
            have e6 : Ex (l :: fpOf h q hs) TL GT H (upd H5 h (.dK (kvH (delH (setH hs3 e0.1 (dropI e0.2.2 who)) n)))) := e5.chg L5.co.hh rfl (.inl (by simp [fpOf]))
            have l6 : upd H5 h (.dK (kvH (delH (setH hs3 e0.1 (dropI e0.2.2 who)) n))) l = some (.ins CL dx [("held", .ref h), ("queue", .ref D)]) := by
              rw [upd_ne (fun z => by have := L5.co.hh; rw [← z, L5.hl] at this; cases this)]; exact L5.hl
            have p6 : upd H5 h (.dK (kvH (delH (setH hs3 e0.1 (dropI e0.2.2 who)) n))) p = some (.lst (ns.map V.str)) := by rw [upd_ne nph]; exact p5
            have hvv : lkOf (delH (setH hs3 e0.1 (dropI e0.2.2 who)) n) (rmQ qs who) = dropL (lkOf hs3 (rmQ qs who)) who n := by
              rw [delH_lk, hv]
              unfold dropL
              rw [ht, if_pos hd2, delN_set]
            refine ⟨⟨_, _, delH (setH hs3 e0.1 (dropI e0.2.2 who)) n, rfl, ⟨l6, C6⟩, fun a ha => fp3 a ?_, by rw [hvv]; exact W3.drop who n, by rw [hstep, hvv]; unfold leaveF; rw [ht, hk, if_pos rfl], fun m hm => ?_⟩, e6, p6⟩
            · simp only [fpOf, List.mem_cons, delH, List.mem_map, List.mem_filter] at ha ⊢
              rcases ha with z | z | z | ⟨x, ⟨hx, _⟩, hxa⟩
              · exact .inl z
              · exact .inr (.inl z)
              · exact .inr (.inr (.inl z))
              · refine .inr (.inr (.inr ?_))
                have : x.2.1 ∈ (setH hs3 e0.1 (dropI e0.2.2 who)).map (·.2.1) := List.mem_map.mpr ⟨x, hx, rfl⟩
                rw [setH_adr] at this
                rw [← hxa]
                obtain ⟨y, hy, e⟩ := List.mem_map.mp this
                exact ⟨y, hy, e⟩
            · obtain ⟨e, he⟩ := hnx2 m hm
              obtain ⟨h1, h2⟩ := fh_mem he
              refine fh_some (List.mem_map.mpr ⟨e, List.mem_filter.mpr ⟨h1, ?_⟩, h2⟩)
              have : e.1 ≠ n := fun z => nnd2 (by rw [← z, h2]; exact hm)
              simpa using this
          · rw [if_neg (by
              have : tabK (dropI e0.2.2 who) ≠ [] := fun z => hd2 (List.map_eq_nil_iff.mp z)
              simpa using this)]
            have hvv : lkOf (setH hs3 e0.1 (dropI e0.2.2 who)) (rmQ qs who) = dropL (lkOf hs3 (rmQ qs who)) who n := by
              rw [hv]
              unfold dropL
              rw [ht, if_neg hd2]
            exact ⟨⟨_, _, setH hs3 e0.1 (dropI e0.2.2 who), rfl, L5, fun a ha => fp3 a (by rw [fpe] at ha; exact ha), by rw [hvv]; exact W3.drop who n, by rw [hstep, hvv]; unfold leaveF; rw [ht, hk, if_pos rfl], hnx2⟩, e5, p5⟩
    · rintro σ H3 ⟨⟨v2, v3, hs3, rfl, L3, fp3, W3, hv3, hn3⟩, e3, p3⟩
      try simp only [cx_K, gcx_K, lcx_K, LenV, rLenU, tTruU, kTup, tFld, sFld, sFldAug, tMet, tMake, tBM, tDGet, tDGet1, tDGet2, sDPut, tRevL, iEnum, tAug, tAsg, mulV_int, iaddU_int, isubU_int, iaddU_str, tTupL, ex2eq, not_true_eq_false, not_false_eq_true, LamX.tLam, LamX.TTold, tSeq, tIf, tNext, tRet, tRetN, tIfS, tTest, tB, tNot, tAnd, tOr, tChain, tOp, tUn, tC, tVar, tCons, tNil, tTup, tLst, tAsg, gName, gTup, gCons, gNil, gSub, tDrop, tCallS, tCB, tM1, tM0, tBM, tBM0, tSl, tPar, tFor_eq, tLc_eq, intU_int, intU_bl, iList, iTup, iEnumT, tDNewK, rSlT, rSlL, iRng1, iRng2, iStr, tThen, tNever, L2.start, tRaiseFile, tMkFile, tYes, tPart, tNoPart, addA_int, addA_str, addU_int, addU_str, addU_ref, subU_int, mulU_int, mulU_ref, fdvU_int, modU_int, powU_int, ltU_int, leU_int, gtU_int, geU_int, eqU_int, eqU_str, eqU_bl, neU_int, neU_str, neU_bl, WE, TruV, tDIn, tDNotIn, sDDel, tDSetd, tDPop1, tLock, tLockE, tLk, tLockA, tLockEA, iKeys, List.map, List.length_cons, List.length_nil, List.replicate, List.append, List.getElem?_cons_zero, List.getElem?_cons_succ, List.set_cons_zero, List.set_cons_succ, List.cons_append, List.nil_append, Option.some.injEq, V.int.injEq, V.str.injEq, V.bl.injEq, V.ref.injEq, List.cons.injEq, exists_eq_left, exists_eq_right, and_true, true_and, and_self, exists_eq, exists_const, Bool.not_true, Bool.not_false, Bool.false_eq_true, if_true, if_false, reduceIte, decide_eq_true_eq, bne_iff_ne, exists_eq_left', exists_eq', exists_and_left, Bool.not_eq_true', decide_eq_false_iff_not, Nat.reduceSub, Nat.reduceAdd, reduceCtorEq, false_and, or_false, false_or, exists_false]
      rw [List.length_map, List.take_of_length_le (Nat.le_refl _)] at hv3
      have hv5 : lkOf hs3 (rmQ qs who) = leaveL (lkOf hs qs) who ns := hv3
      refine ⟨_, _, L3.hl, rfl, l, dx, h, D, hs3, rmQ qs who, rfl, L3, W3, fun a H6 qs6 A6 ha6 hn6 => hq a D H6 qs6 ns hp1 hp2 ⟨ex_behind e3 fp3 A6.e, ?_⟩ (by rw [ha6, hv5]) (e3.fresh hn6)⟩
      obtain ⟨hs6, hv6, L6, fp6⟩ := A6.at_
      rw [hv5] at hv6
      refine ⟨hs6, hv6, L6, fun a ha => ?_⟩
      rcases fp6 a ha with z | z
      · exact fp3 a z
      · exact e3.fresh z
end
end KL
end
section
set_option Elab.async false
set_option linter.all false
set_option maxRecDepth 100000
set_option maxHeartbeats 2000000
set_option pp.maxSteps 900
namespace KL
open PySem PySem.Spec PyProof.Rows L2 GX
section
variable {P : Program} {w : World} {K : PySem.W.Frag} {mg : Str → Option Value} {base : Heap} {CL PE : Addr} {TL : List (Addr × Str)} {GT : List Addr} {H H' : Hp} {h q l dx : Addr} {hs : List (Str × Addr × Tab)} {qs : List (Addr × Row)} {v : Lk} {F A : List Addr}
mutual
theorem dp_ex (e : Ex [] TL GT H H') : ∀ (d : PyData) (v : V), Dp K H v d → Dp K H' v d
  | .none, _, h => by cases h; exact .non
  | .bool b, _, h => by cases h; exact .bl b
  | .int i, _, h => by cases h; exact .int i
  | .str x, _, h => by cases h; exact .str x
  | .list ds, _, h => by
    cases h with
    | lst a b => exact .lst (e.sql (by simp) a) (dpAll_ex e ds _ b)
  | .tuple ds, _, h => by
    cases h with
    | tup a b => exact .tup (e.sqt a) (dpAll_ex e ds _ b)
  | .dict _, _, h => by cases h
theorem dpAll_ex (e : Ex [] TL GT H H') : ∀ (ds : List PyData) (vs : List V), DpAll K H vs ds → DpAll K H' vs ds
  | [], _, h => by cases h; exact .nil
  | d :: ds, _, h => by
    cases h with
    | cons a b => exact .cons (dp_ex e d _ a) (dpAll_ex e ds _ b)
end
theorem dpAll_app : ∀ {xs ys : List V} {ds es : List PyData}, DpAll K H xs ds → DpAll K H ys es → DpAll K H (xs ++ ys) (ds ++ es)
  | _, _, _, _, .nil, h => h
  | _, _, _, _, .cons a b, h => .cons a (dpAll_app b h)
theorem dpa_len : ∀ {xs : List V} {ds : List PyData}, DpAll K H xs ds → xs.length = ds.length
  | _, _, .nil => rfl
  | _, _, .cons _ b => by rw [List.length_cons, List.length_cons, dpa_len b]
theorem ex_of (e : ∀ b o, H b = some o → H' b = some o) : Ex A TL GT H H' :=
  ⟨fun b o _ h _ => e b o h, fun t => t.ext e, fun h P hP => e _ _ (h P hP), fun b xs h => h.elim (fun h => .inl (e _ _ h)) fun ⟨o, h⟩ => .inr ⟨o, e _ _ h⟩⟩
/-! ### the order of the names -/
def rk (x : Str) : Int := if x = "p" then 0 else if x = "q" then 1 else if x = "r" then 2 else 3
def un (i : Int) : Str := if i = 0 then "p" else if i = 1 then "q" else if i = 2 then "r" else "s"
theorem un_rk {x : Str} (h : x ∈ nms) : un (rk x) = x := by
  simp only [nms, List.mem_cons, List.not_mem_nil, or_false] at h
  rcases h with rfl | rfl | rfl | rfl <;> decide +kernel
theorem lt_rk {x y : Str} (hx : x ∈ nms) (hy : y ∈ nms) : ltCps x.cps.toList y.cps.toList = decide (rk x < rk y) := by
  simp only [nms, List.mem_cons, List.not_mem_nil, or_false] at hx hy
  rcases hx with rfl | rfl | rfl | rfl <;> rcases hy with rfl | rfl | rfl | rfl <;> decide +kernel
theorem rising_pw : ∀ (l : List Str) (p : Str), p ∈ nms → (∀ x ∈ l, x ∈ nms) → risingS p l = true → ((p :: l).map rk).Pairwise (· ≤ ·)
  | [], p, _, _, _ => List.pairwise_singleton _ _
  | x :: r, p, hp, hl, h => by
    unfold risingS at h
    rw [Bool.and_eq_true] at h
    have hx := hl x List.mem_cons_self
    rw [lt_rk hx hp] at h
    have ih := rising_pw r x hx (fun y hy => hl y (List.mem_cons_of_mem _ hy)) h.2
    have h1 : rk p ≤ rk x := by
      have := h.1
      simp at this
      exact this
    rw [List.map_cons]
    refine List.pairwise_cons.mpr ⟨fun y hy => ?_, ih⟩
    rw [List.map_cons, List.pairwise_cons] at ih
    rcases List.mem_cons.mp hy with rfl | hy
    · exact h1
    · exact Int.le_trans h1 (ih.1 y hy)
theorem sortedS_pw {l : List Str} (hl : ∀ x ∈ l, x ∈ nms) (h : sortedS l = true) : (l.map rk).Pairwise (· ≤ ·) := by
  cases l with
  | nil => exact .nil
  | cons x r => exact rising_pw r x (hl x List.mem_cons_self) (fun y hy => hl y (List.mem_cons_of_mem _ hy)) h
theorem names_eq {ns ms : List Str} (hn : ∀ x ∈ ns, x ∈ nms) (p : ns.Perm ms) (h1 : sortedS ns = true) (h2 : sortedS ms = true) : ns = ms := by
  have hm : ∀ x ∈ ms, x ∈ nms := fun x hx => hn x (p.mem_iff.mpr hx)
  have e := sorted_perm (sortedS_pw hn h1) (sortedS_pw hm h2) (p.map rk)
  have back : ∀ {l : List Str}, (∀ x ∈ l, x ∈ nms) → (l.map rk).map un = l := fun {l} h => by
    rw [List.map_map]
    have := List.map_congr_left (f := un ∘ rk) (g := id) (l := l) fun x hx => un_rk (h x hx)
    rw [this, List.map_id]
  rw [← back hn, e, back hm]
/-! ### what is shown -/
def itS (t : Tab) : List (Int × Bool) := (srt (t.map (·.1))).map fun k => (k, (getI t k).getD false)
def itD (p : Int × Bool) : PyData := .tuple [.int p.1, .str (hw p.2)]
def nmD (v : Lk) (n : Str) : PyData := .tuple [.str n, .tuple ((itS (hold v n)).map itD)]
def shD (v : Lk) (ns : List Str) : PyData := .tuple [.tuple (ns.map (nmD v)), .tuple (v.queue.map rowD)]
theorem getI_of_mem : ∀ {t : Tab} {k : Int} {b : Bool}, (t.map (·.1)).Nodup → (k, b) ∈ t → getI t k = some b
  | [], _, _, _, h => by cases h
  | e :: t, k, b, nd, h => by
    rw [List.map_cons, List.nodup_cons] at nd
    unfold getI
    rcases List.mem_cons.mp h with h | h
    · rw [← h, List.find?_cons_of_pos (by simp)]; rfl
    · rw [List.find?_cons_of_neg (by
        have : e.1 ≠ k := fun z => nd.1 (by rw [z]; exact List.mem_map.mpr ⟨_, h, rfl⟩)
        simpa using this)]
      exact getI_of_mem nd.2 h
theorem it_eq {t : Tab} (nd : (t.map (·.1)).Nodup) {es : List (Int × Str)} (p : es.Perm (t.map fun p => (p.1, hw p.2))) (s : es.Pairwise (fun e f => e.1 ≤ f.1)) : es = (itS t).map fun p => (p.1, hw p.2) := by
  have h1 : es.map (·.1) = srt (t.map (·.1)) := by
    refine srt_eq (List.pairwise_map.mpr s) ?_
    have := p.map (·.1)
    rwa [List.map_map] at this
  have h2 : ∀ e ∈ es, e = (e.1, hw ((getI t e.1).getD false)) := fun e he => by
    obtain ⟨x, hx, rfl⟩ := List.mem_map.mp (p.mem_iff.mp he)
    rw [getI_of_mem nd (show (x.1, x.2) ∈ t from hx)]; rfl
  unfold itS
  rw [← h1, List.map_map, List.map_map]
  refine (List.map_id es).symm.trans (List.map_congr_left fun e he => ?_)
  exact h2 e he
theorem dp_its {H : Hp} {ts : List Addr} {es : List (Int × Bool)} (p : Paired (fun (t : Addr) (e : Int × Str) => H t = some (.tup [.int e.1, .str e.2])) ts (es.map fun p => (p.1, hw p.2))) : DpAll K H (ts.map V.ref) (es.map itD) := by
  induction es generalizing ts with
  | nil => cases p; exact .nil
  | cons e es ih =>
    rw [List.map_cons] at p
    cases p with
    | cons a b => exact .cons (.tup (tup_sqt a) (.cons (.int _) (.cons (.str _) .nil))) (ih b)
def spShown (K : PySem.W.Frag) (CL : Addr) (TL : List (Addr × Str)) (GT : List Addr) : Sp := fun vs H Q E => ∃ l dx h q hs qs, vs = [.ref l] ∧ LP K CL H l dx h q hs qs ∧ Wf (lkOf hs qs) ∧ Tb TL GT H ∧
  ∀ a H' ns, ns.Perm (hs.map (·.1)) → sortedS ns = true → Ex [] TL GT H H' → Dp K H' (.ref a) (shD (lkOf hs qs) ns) → Q (.ref a) H'
theorem m_shown (T : KL.Txt P w K mg base CL PE TL GT) : Met P w K mg base 14 CL "shown" [] (spShown K CL TL GT) := by
  obtain ⟨f, fd, c, tP, D, hm, tb, hmem⟩ := T.l_shown
  refine met_of T.cL hm ?_ (D.bind0 (ps := ["self"]) (fun _ _ _ _ _ _ us hl => match us, hl with | [_], _ => rfl))
  refine D.okF (N := ["self", "rows", "name"]) (ps := ["self"]) ⟨rfl, rfl, rfl, by decide +kernel, rfl, by decide +kernel, by decide +kernel⟩ (fun vs H Q E h => by first | (obtain ⟨_, rfl, _⟩ := h; rfl) | (obtain ⟨_, _, rfl, _⟩ := h; rfl) | (obtain ⟨_, _, _, rfl, _⟩ := h; rfl) | (obtain ⟨_, _, _, _, rfl, _⟩ := h; rfl) | (obtain ⟨_, _, _, _, _, rfl, _⟩ := h; rfl) | (obtain ⟨_, _, _, _, _, _, rfl, _⟩ := h; rfl) | (obtain ⟨_, _, _, _, _, _, _, rfl, _⟩ := h; rfl) | (obtain ⟨_, _, _, _, _, _, _, _, rfl, _⟩ := h; rfl) | (obtain ⟨_, _, _, _, _, _, _, _, _, rfl, _⟩ := h; rfl) | (obtain ⟨_, _, _, _, _, _, _, _, _, _, rfl, _⟩ := h; rfl) | (obtain ⟨_, _, _, _, _, _, _, _, _, _, _, rfl, _⟩ := h; rfl) | (obtain ⟨_, _, _, _, _, _, _, _, _, _, _, _, rfl, _⟩ := h; rfl) | (obtain ⟨_, _, _, _, _, _, _, _, _, _, _, _, _, rfl, _⟩ := h; rfl) | (obtain ⟨_, _, _, _, _, _, _, _, _, _, _, _, _, _, rfl, _⟩ := h; rfl) | (obtain ⟨_, _, _, _, _, _, _, _, _, _, _, _, _, _, _, rfl, _⟩ := h; rfl) | (obtain ⟨rfl, _⟩ := h; rfl)) (fun A outer s H vs Q E hr h => ?_)
  have nd : (["self", "rows", "name"] : List Str).Nodup := by decide
  refine mk_ex (pss_cons (ps_set (i := 1) nd rfl (Or.inl rfl) (pe_tupG (k := 6) (own := [("name", 2)]) (E := fun _ _ _ _ => False) (hr.mono (by decide)) rfl nd rfl T.n_tuple tb rfl (show GenOk ["self", "rows", "name"] (defScope (inClass (top 4) 12)) _ [("name", 2)] from genOk_by (by decide +kernel)) (pif_list (pe_callB (call_sortedD rfl) rfl T.n_sorted rfl (by exact (pa_cons (fldK (K := K) rfl (pe_fld (pv 0) rfl)) pa_nil)))) (fun σ pins H s e s' I c => passF pins σ H s e s' I c) (fun σ cls d H h => h.elim) (fun σ A s H L code bi pn => (pg_name (i := 2) nd rfl (Or.inl rfl))) (fun σ A s H L code bi pn hr1 => pts_nil) (fun σ A s H L code bi pn hr1 => (pe_tup (pa_cons (pv 2) (pa_cons (tupOfK (K := K) rfl (pe_tupleOf rfl T.n_tuple (pe_callB (call_sortItI rfl) rfl T.n_sorted rfl (by exact (pa_cons (bm0K (K := K) rfl (pe_bm0 PySem.F.plainAttrs_dict PySem.F.slot_dict_items PySem.F.type_dict_items mt_itemsK (pe_dget (roomD hr1) (fldK (K := K) rfl (pe_fld (pv 0) rfl)) (pv 2) (fun _ _ => rfl)))) pa_nil))))) pa_nil))))))
    (pss_one (ps_ret (pe_tup (pa_cons (pv 1) (pa_cons (tupOfK (K := K) rfl (pe_tupleOf rfl T.n_tuple (fldK (K := K) rfl (pe_fld (pv 0) rfl)))) pa_nil)))))) ?_
  obtain ⟨l, dx, h, q, hs, qs, rfl, L, W, ht, hq⟩ := h
  simp only [cx_K, gcx_K, lcx_K, LenV, rLenU, tTruU, kTup, tFld, sFld, sFldAug, tMet, tMake, tBM, tDGet, tDGet1, tDGet2, sDPut, tRevL, iEnum, tAug, tAsg, mulV_int, iaddU_int, isubU_int, iaddU_str, tTupL, ex2eq, not_true_eq_false, not_false_eq_true, LamX.tLam, LamX.TTold, tSeq, tIf, tNext, tRet, tRetN, tIfS, tTest, tB, tNot, tAnd, tOr, tChain, tOp, tUn, tC, tVar, tCons, tNil, tTup, tLst, tAsg, gName, gTup, gCons, gNil, gSub, tDrop, tCallS, tCB, tM1, tM0, tBM, tBM0, tSl, tPar, tFor_eq, tLc_eq, intU_int, intU_bl, iList, iTup, iEnumT, tDNewK, rSlT, rSlL, iRng1, iRng2, iStr, tThen, tNever, L2.start, tRaiseFile, tMkFile, tYes, tPart, tNoPart, addA_int, addA_str, addU_int, addU_str, addU_ref, subU_int, mulU_int, mulU_ref, fdvU_int, modU_int, powU_int, ltU_int, leU_int, gtU_int, geU_int, eqU_int, eqU_str, eqU_bl, neU_int, neU_str, neU_bl, WE, TruV, tDIn, tDNotIn, sDDel, tDSetd, tDPop1, tLock, tLockE, tLk, tLockA, tLockEA, iKeys, List.map, List.length_cons, List.length_nil, List.replicate, List.append, List.getElem?_cons_zero, List.getElem?_cons_succ, List.set_cons_zero, List.set_cons_succ, List.cons_append, List.nil_append, Option.some.injEq, V.int.injEq, V.str.injEq, V.bl.injEq, V.ref.injEq, List.cons.injEq, exists_eq_left, exists_eq_right, and_true, true_and, and_self, exists_eq, exists_const, Bool.not_true, Bool.not_false, Bool.false_eq_true, if_true, if_false, reduceIte, decide_eq_true_eq, bne_iff_ne, exists_eq_left', exists_eq', exists_and_left, Bool.not_eq_true', decide_eq_false_iff_not, Nat.reduceSub, Nat.reduceAdd, reduceCtorEq, false_and, or_false, false_or, exists_false]
  simp only [tGenx, cx_K, gcx_K, lcx_K, LenV, rLenU, tTruU, kTup, tFld, sFld, sFldAug, tMet, tMake, tBM, tDGet, tDGet1, tDGet2, sDPut, tRevL, iEnum, tAug, tAsg, mulV_int, iaddU_int, isubU_int, iaddU_str, tTupL, ex2eq, not_true_eq_false, not_false_eq_true, LamX.tLam, LamX.TTold, tSeq, tIf, tNext, tRet, tRetN, tIfS, tTest, tB, tNot, tAnd, tOr, tChain, tOp, tUn, tC, tVar, tCons, tNil, tTup, tLst, tAsg, gName, gTup, gCons, gNil, gSub, tDrop, tCallS, tCB, tM1, tM0, tBM, tBM0, tSl, tPar, tFor_eq, tLc_eq, intU_int, intU_bl, iList, iTup, iEnumT, tDNewK, rSlT, rSlL, iRng1, iRng2, iStr, tThen, tNever, L2.start, tRaiseFile, tMkFile, tYes, tPart, tNoPart, addA_int, addA_str, addU_int, addU_str, addU_ref, subU_int, mulU_int, mulU_ref, fdvU_int, modU_int, powU_int, ltU_int, leU_int, gtU_int, geU_int, eqU_int, eqU_str, eqU_bl, neU_int, neU_str, neU_bl, WE, TruV, tDIn, tDNotIn, sDDel, tDSetd, tDPop1, tLock, tLockE, tLk, tLockA, tLockEA, iKeys, List.map, List.length_cons, List.length_nil, List.replicate, List.append, List.getElem?_cons_zero, List.getElem?_cons_succ, List.set_cons_zero, List.set_cons_succ, List.cons_append, List.nil_append, Option.some.injEq, V.int.injEq, V.str.injEq, V.bl.injEq, V.ref.injEq, List.cons.injEq, exists_eq_left, exists_eq_right, and_true, true_and, and_self, exists_eq, exists_const, Bool.not_true, Bool.not_false, Bool.false_eq_true, if_true, if_false, reduceIte, decide_eq_true_eq, bne_iff_ne, exists_eq_left', exists_eq', exists_and_left, Bool.not_eq_true', decide_eq_false_iff_not, Nat.reduceSub, Nat.reduceAdd, reduceCtorEq, false_and, or_false, false_or, exists_false]
  refine ⟨_, _, _, L.hl, T.cL, T.fL _ (by simp), _, rfl, h, rfl, _, .inl L.co.hh, hs.map (·.1), by rw [List.map_map, List.map_map]; rfl, by have := W.h4; unfold lkOf at this; rw [List.length_map] at this ⊢; omega, fun ns p hp1 hp2 hp => ⟨⟨_, lst_at upd_same⟩, ?_⟩⟩
  have e1 : Ex [] TL GT H (upd H p (.lst (ns.map V.str))) := Ex.new hp
  have L1 := L.keep e1 (fun _ _ => by simp)
  have t1 := e1.tb ht
  have p1 : upd H p (.lst (ns.map V.str)) p = some (.lst (ns.map V.str)) := upd_same
  generalize upd H p (.lst (ns.map V.str)) = H1 at e1 L1 t1 p1 ⊢
  refine ⟨t1.tg tP hmem, ?_⟩
  refine turns_list (xs := ns.map V.str) (fun i ys H' => Ex [] TL GT H1 H' ∧ DpAll K H' ys ((ns.take i).map (nmD (lkOf hs qs)))) ⟨Ex.refl, .nil⟩ (fun i ys H' _ e => lst_at (e.1.lst (by simp) p1)) ?_ ?_
  · rintro i x ys H' hx ⟨e, hd⟩
    have LL := L1.keep e (fun _ _ => by simp)
    rw [List.getElem?_map] at hx
    cases hni : ns[i]? with
    | none => rw [hni] at hx; cases hx
    | some n =>
      rw [hni] at hx
      obtain rfl : V.str n = x := Option.some.inj hx
      simp only [cx_K, gcx_K, lcx_K, LenV, rLenU, tTruU, kTup, tFld, sFld, sFldAug, tMet, tMake, tBM, tDGet, tDGet1, tDGet2, sDPut, tRevL, iEnum, tAug, tAsg, mulV_int, iaddU_int, isubU_int, iaddU_str, tTupL, ex2eq, not_true_eq_false, not_false_eq_true, LamX.tLam, LamX.TTold, tSeq, tIf, tNext, tRet, tRetN, tIfS, tTest, tB, tNot, tAnd, tOr, tChain, tOp, tUn, tC, tVar, tCons, tNil, tTup, tLst, tAsg, gName, gTup, gCons, gNil, gSub, tDrop, tCallS, tCB, tM1, tM0, tBM, tBM0, tSl, tPar, tFor_eq, tLc_eq, intU_int, intU_bl, iList, iTup, iEnumT, tDNewK, rSlT, rSlL, iRng1, iRng2, iStr, tThen, tNever, L2.start, tRaiseFile, tMkFile, tYes, tPart, tNoPart, addA_int, addA_str, addU_int, addU_str, addU_ref, subU_int, mulU_int, mulU_ref, fdvU_int, modU_int, powU_int, ltU_int, leU_int, gtU_int, geU_int, eqU_int, eqU_str, eqU_bl, neU_int, neU_str, neU_bl, WE, TruV, tDIn, tDNotIn, sDDel, tDSetd, tDPop1, tLock, tLockE, tLk, tLockA, tLockEA, iKeys, List.map, List.length_cons, List.length_nil, List.replicate, List.append, List.getElem?_cons_zero, List.getElem?_cons_succ, List.set_cons_zero, List.set_cons_succ, List.cons_append, List.nil_append, Option.some.injEq, V.int.injEq, V.str.injEq, V.bl.injEq, V.ref.injEq, List.cons.injEq, exists_eq_left, exists_eq_right, and_true, true_and, and_self, exists_eq, exists_const, Bool.not_true, Bool.not_false, Bool.false_eq_true, if_true, if_false, reduceIte, decide_eq_true_eq, bne_iff_ne, exists_eq_left', exists_eq', exists_and_left, Bool.not_eq_true', decide_eq_false_iff_not, Nat.reduceSub, Nat.reduceAdd, reduceCtorEq, false_and, or_false, false_or, exists_false, wipe, tYes]
      obtain ⟨e0, hf⟩ := fh_some (hp1.mem_iff.mp (List.mem_of_getElem? hni))
      obtain ⟨he0, hen⟩ := fh_mem hf
      have ht0 : hold (lkOf hs qs) n = e0.2.2 := by rw [hold_fh, hf]; rfl
      have hta := LL.co.ht e0 he0
      have htn := W.tn (e0.1, e0.2.2) (List.mem_map.mpr ⟨e0, he0, rfl⟩)
      have htl : e0.2.2.length ≤ 5 := by
        have := len5 htn.1 fun x hx => by obtain ⟨r, hr, rfl⟩ := List.mem_map.mp hx; exact htn.2.2 r hr
        rwa [List.length_map] at this
      refine ⟨_, _, _, LL.hl, T.cL, T.fL _ (by simp), _, rfl, h, rfl, V.ref e0.2.1, .inl ⟨kvH hs, .inr n, .inl LL.co.hh, rfl, by rw [val_hs, hf]; rfl⟩, .inr (.inr (.inl ⟨rfl, .inl ⟨_, hta⟩⟩)), e0.2.1, _, rfl, rfl, hta, fun pi hpi => ?_⟩
      have e2 : Ex [] TL GT H' (upd H' pi (DX.itemsO pi e0.2.1)) := Ex.new hpi
      have a2 : upd H' pi (DX.itemsO pi e0.2.1) e0.2.1 = some (.dK (tabK e0.2.2)) := e2.ext _ _ (by simp) hta (fun _ z => by cases z)
      have i2 : upd H' pi (DX.itemsO pi e0.2.1) pi = some (DX.itemsO pi e0.2.1) := upd_same
      generalize upd H' pi (DX.itemsO pi e0.2.1) = H2 at e2 a2 i2 ⊢
      refine ⟨pi, e0.2.1, e0.2.2.map fun p => (p.1, hw p.2), rfl, i2, by rw [a2, List.map_map]; rfl, fun z => htn.2.1 (List.map_eq_nil_iff.mp z), by rw [List.length_map]; omega, by rw [List.map_map]; exact htn.1, fun H3 ll ts es hk hl hts hll hp3 hs3 hpr => .inl ⟨ll, rfl, _, lst_at hll, fun r hr => ⟨sz 2, fun r2 hr2 => ?_⟩⟩⟩
      have e3 : Ex [] TL GT H1 H3 := (e.trans e2).trans (ex_of hk)
      have e23 : Ex [] TL GT H' H3 := e2.trans (ex_of hk)
      have hes := it_eq htn.1 hp3 hs3
      rw [hes] at hpr
      have d3 : DpAll K H3 (ts.map V.ref) ((itS e0.2.2).map itD) := dp_its hpr
      have e4 : Ex [] TL GT H3 (upd H3 r (.tup (ts.map V.ref))) := Ex.new hr
      have q4 : upd H3 r (.tup (ts.map V.ref)) r = some (.tup (ts.map V.ref)) := upd_same
      generalize upd H3 r (.tup (ts.map V.ref)) = H4 at e4 q4 hr2 ⊢
      have e5 : Ex [] TL GT H4 (upd H4 r2 (.tup [V.str n, V.ref r])) := Ex.new hr2
      have q5 : upd H4 r2 (.tup [V.str n, V.ref r]) r2 = some (.tup [V.str n, V.ref r]) := upd_same
      generalize upd H4 r2 (.tup [V.str n, V.ref r]) = H5 at e5 q5 ⊢
      have e35 := e4.trans e5
      refine ⟨by have := dpa_len hd; rw [List.length_map, List.length_take] at this; have h4 := W.h4; have := hp1.length_eq; unfold lkOf at h4; rw [List.length_map] at this h4; rw [sizeLine_eq]; omega, e3.trans e35, ?_⟩
      rw [List.take_succ, hni, List.map_append]
      refine dpAll_app (dpAll_ex (e23.trans e35) _ _ hd) (.cons (.tup (tup_sqt q5) (.cons (.str _) (.cons (.tup (e5.sqt (tup_sqt q4)) ?_) .nil))) .nil)
      rw [ht0]
      exact dpAll_ex e35 _ _ d3
  · rintro ys H' ⟨e, hd⟩
    rw [List.length_map, List.take_of_length_le (Nat.le_refl _)] at hd
    intro r hr
    have LL := L1.keep e (fun _ _ => by simp)
    have e2 : Ex [] TL GT H' (upd H' r (.tup ys)) := Ex.new hr
    have L2' := LL.keep e2 (fun _ _ => by simp)
    have r2 : upd H' r (.tup ys) r = some (.tup ys) := upd_same
    have d2 := dpAll_ex e2 _ _ hd
    generalize upd H' r (.tup ys) = H2 at e2 L2' r2 d2 ⊢
    refine ⟨_, _, _, L2'.hl, T.cL, T.fL _ (by simp), _, rfl, .inl ⟨q, rfl, _, lst_at L2'.co.hq, fun r3 hr3 => ⟨sz 2, fun r4 hr4 => ?_⟩⟩⟩
    have e3 : Ex [] TL GT H2 (upd H2 r3 (.tup (qs.map fun e => V.ref e.1))) := Ex.new hr3
    have q3 : upd H2 r3 (.tup (qs.map fun e => V.ref e.1)) r3 = some (.tup (qs.map fun e => V.ref e.1)) := upd_same
    have L3 := L2'.keep e3 (fun _ _ => by simp)
    generalize upd H2 r3 (.tup (qs.map fun e => V.ref e.1)) = H3 at e3 q3 L3 hr4 ⊢
    have e4 : Ex [] TL GT H3 (upd H3 r4 (.tup [V.ref r, V.ref r3])) := Ex.new hr4
    have q4 : upd H3 r4 (.tup [V.ref r, V.ref r3]) r4 = some (.tup [V.ref r, V.ref r3]) := upd_same
    have L4 := L3.keep e4 (fun _ _ => by simp)
    generalize upd H3 r4 (.tup [V.ref r, V.ref r3]) = H4 at e4 q4 L4 ⊢
    refine hq r4 H4 ns hp1 hp2 (((e1.trans e).trans e2).trans (e3.trans e4)) (.tup (tup_sqt q4) (.cons (.tup ((e3.trans e4).sqt (tup_sqt r2)) (dpAll_ex (e3.trans e4) _ _ d2)) (.cons (.tup (e4.sqt (tup_sqt q3)) ?_) .nil)))
    have : (lkOf hs qs).queue.map rowD = qs.map fun e => rowD e.2 := by unfold lkOf; rw [List.map_map]; rfl
    rw [this]
    exact dp_rowsA L4.co.hrT
end
end KL
end
section
set_option Elab.async false
set_option linter.all false
set_option maxRecDepth 100000
set_option maxHeartbeats 2000000
namespace KL
open PySem PySem.Spec PyProof.Rows L2 GX
section
variable {P : Program} {w : World} {K : PySem.W.Frag} {mg : Str → Option Value} {base : Heap} {CL PE : Addr} {TL : List (Addr × Str)} {GT : List Addr}
def spDice (TL : List (Addr × Str)) (GT : List Addr) : Sp := fun vs H Q E => ∃ (n : Int), vs = [.int n] ∧
  ∀ q x y z H', Ex [] TL GT H H' → H' q = some (.lst [.int x, .int y, .int z]) → Q (.ref q) H'
theorem c_law_dice (T : KL.Txt P w K mg base CL PE TL GT) : Cal P w K mg base 3 "_law_dice" (spDice TL GT) := by
  obtain ⟨f, fd, c, D⟩ := T.d_dice
  refine D.ok (N := ["cell"]) (ps := ["cell"]) ⟨rfl, rfl, rfl, by decide +kernel, rfl, by decide +kernel, by decide +kernel⟩ (fun vs H Q E h => by first | (obtain ⟨_, rfl, _⟩ := h; rfl) | (obtain ⟨_, _, rfl, _⟩ := h; rfl) | (obtain ⟨_, _, _, rfl, _⟩ := h; rfl) | (obtain ⟨_, _, _, _, rfl, _⟩ := h; rfl) | (obtain ⟨_, _, _, _, _, rfl, _⟩ := h; rfl) | (obtain ⟨_, _, _, _, _, _, rfl, _⟩ := h; rfl) | (obtain ⟨_, _, _, _, _, _, _, rfl, _⟩ := h; rfl) | (obtain ⟨_, _, _, _, _, _, _, _, rfl, _⟩ := h; rfl) | (obtain ⟨_, _, _, _, _, _, _, _, _, rfl, _⟩ := h; rfl) | (obtain ⟨_, _, _, _, _, _, _, _, _, _, rfl, _⟩ := h; rfl) | (obtain ⟨_, _, _, _, _, _, _, _, _, _, _, rfl, _⟩ := h; rfl) | (obtain ⟨_, _, _, _, _, _, _, _, _, _, _, _, rfl, _⟩ := h; rfl) | (obtain ⟨_, _, _, _, _, _, _, _, _, _, _, _, _, rfl, _⟩ := h; rfl) | (obtain ⟨_, _, _, _, _, _, _, _, _, _, _, _, _, _, rfl, _⟩ := h; rfl) | (obtain ⟨_, _, _, _, _, _, _, _, _, _, _, _, _, _, _, rfl, _⟩ := h; rfl) | (obtain ⟨rfl, _⟩ := h; rfl)) (fun _ _ _ _ _ _ us hl => match us, hl with | [_], _ => rfl) (fun A outer s H vs Q E hr h => ?_)
  have nd : (["cell"] : List Str).Nodup := by decide
  refine mk_ex (pss_cons (ps_if (pt_chain opU_lt opU_lt (pe_op opU_sub pe_int pe_int) (pv 0) pe_int) (pss_one (ps_ret (pe_lst (pa_cons (pe_callB call_abs rfl T.n_abs rfl (by exact (pa_cons (pv 0) pa_nil))) (pa_cons pe_int (pa_cons pe_int pa_nil)))))) pss_nil)
    (pss_one (ps_ret (pe_lst (pa_cons (pv 0) (pa_cons (pe_op (opK (K := K) (r := rAddU) opU_add rfl) pe_int (pe_op opU_mod (pe_callTy call_intU rfl T.n_int rfl (by exact (pa_cons (pv 0) pa_nil))) pe_int)) (pa_cons (pe_callTy call_intU rfl T.n_int rfl (by exact (pa_cons (pe_cmpR opU_ge (pv 0) (pe_op opU_pow pe_int pe_int) (nomark _)) pa_nil))) pa_nil))))))) ?_
  obtain ⟨n, rfl, h⟩ := h
  simp only [cx_K, gcx_K, lcx_K, LenV, rLenU, tTruU, kTup, tFld, sFld, sFldAug, tMet, tMake, tBM, tDGet, tDGet1, tDGet2, sDPut, tRevL, iEnum, tAug, tAsg, mulV_int, iaddU_int, isubU_int, iaddU_str, tTupL, ex2eq, not_true_eq_false, not_false_eq_true, LamX.tLam, LamX.TTold, tSeq, tIf, tNext, tRet, tRetN, tIfS, tTest, tB, tNot, tAnd, tOr, tChain, tOp, tUn, tC, tVar, tCons, tNil, tTup, tLst, tAsg, gName, gTup, gCons, gNil, gSub, tDrop, tCallS, tCB, tM1, tM0, tBM, tBM0, tSl, tPar, tFor_eq, tLc_eq, intU_int, intU_bl, iList, iTup, iEnumT, tDNewK, rSlT, rSlL, iRng1, iRng2, iStr, tThen, tNever, L2.start, tRaiseFile, tMkFile, tYes, tPart, tNoPart, addA_int, addA_str, addU_int, addU_str, addU_ref, subU_int, mulU_int, mulU_ref, fdvU_int, modU_int, powU_int, ltU_int, leU_int, gtU_int, geU_int, eqU_int, eqU_str, eqU_bl, neU_int, neU_str, neU_bl, WE, TruV, tDIn, tDNotIn, sDDel, tDSetd, tDPop1, tLock, tLockE, tLk, tLockA, tLockEA, iKeys, List.map, List.length_cons, List.length_nil, List.replicate, List.append, List.getElem?_cons_zero, List.getElem?_cons_succ, List.set_cons_zero, List.set_cons_succ, List.cons_append, List.nil_append, Option.some.injEq, V.int.injEq, V.str.injEq, V.bl.injEq, V.ref.injEq, List.cons.injEq, exists_eq_left, exists_eq_right, and_true, true_and, and_self, exists_eq, exists_const, Bool.not_true, Bool.not_false, Bool.false_eq_true, if_true, if_false, reduceIte, decide_eq_true_eq, bne_iff_ne, exists_eq_left', exists_eq', exists_and_left, Bool.not_eq_true', decide_eq_false_iff_not, Nat.reduceSub, Nat.reduceAdd, reduceCtorEq, false_and, or_false, false_or, exists_false]
  have hp : CPow 10 18 := ⟨by decide, by decide, by decide⟩
  repeat' (first | split | exact ⟨sz 3, fun p hp => h p _ _ _ _ (Ex.new hp) upd_same⟩ | exact ⟨by decide, hp, sz 3, fun p hp => h p _ _ _ _ (Ex.new hp) upd_same⟩)
def spRoll (TL : List (Addr × Str)) (GT : List Addr) : Sp := fun vs H Q E => ∃ (a : Addr) (x y z many : Int), vs = [.ref a, .int many] ∧ H a = some (.lst [.int x, .int y, .int z]) ∧ 0 < many ∧ many ≤ 100000000 ∧
  ∀ r x' y' z' H', 0 ≤ r → r < many → Ex [a] TL GT H H' → H' a = some (.lst [.int x', .int y', .int z']) → Q (.int r) H'
theorem c_law_roll (T : KL.Txt P w K mg base CL PE TL GT) : Cal P w K mg base 3 "_law_roll" (spRoll TL GT) := by
  obtain ⟨f, fd, c, D⟩ := T.d_roll
  refine D.ok (N := ["dice", "many", "found"]) (ps := ["dice", "many"]) ⟨rfl, rfl, rfl, by decide +kernel, rfl, by decide +kernel, by decide +kernel⟩ (fun vs H Q E h => by first | (obtain ⟨_, rfl, _⟩ := h; rfl) | (obtain ⟨_, _, rfl, _⟩ := h; rfl) | (obtain ⟨_, _, _, rfl, _⟩ := h; rfl) | (obtain ⟨_, _, _, _, rfl, _⟩ := h; rfl) | (obtain ⟨_, _, _, _, _, rfl, _⟩ := h; rfl) | (obtain ⟨_, _, _, _, _, _, rfl, _⟩ := h; rfl) | (obtain ⟨_, _, _, _, _, _, _, rfl, _⟩ := h; rfl) | (obtain ⟨_, _, _, _, _, _, _, _, rfl, _⟩ := h; rfl) | (obtain ⟨_, _, _, _, _, _, _, _, _, rfl, _⟩ := h; rfl) | (obtain ⟨_, _, _, _, _, _, _, _, _, _, rfl, _⟩ := h; rfl) | (obtain ⟨_, _, _, _, _, _, _, _, _, _, _, rfl, _⟩ := h; rfl) | (obtain ⟨_, _, _, _, _, _, _, _, _, _, _, _, rfl, _⟩ := h; rfl) | (obtain ⟨_, _, _, _, _, _, _, _, _, _, _, _, _, rfl, _⟩ := h; rfl) | (obtain ⟨_, _, _, _, _, _, _, _, _, _, _, _, _, _, rfl, _⟩ := h; rfl) | (obtain ⟨_, _, _, _, _, _, _, _, _, _, _, _, _, _, _, rfl, _⟩ := h; rfl) | (obtain ⟨rfl, _⟩ := h; rfl)) (fun _ _ _ _ _ _ us hl => match us, hl with | [_, _], _ => rfl) (fun A outer s H vs Q E hr h => ?_)
  have nd : (["dice", "many", "found"] : List Str).Nodup := by decide
  refine mk_ex (pss_cons (ps_if (PW.pt (pw_or (pt_cmpR (opK (K := K) (r := rEqU) (opU_eq (roomEq hr)) rfl) (pe_ix (ixK (K := K) (r := rIx) ix_seq rfl) (pv 0) pe_int (fun _ _ => rfl)) pe_int (nomark _)) (pw_or1 (PW.pt (pw_and (pt_cmpR (opK (K := K) (r := rEqU) (opU_eq (roomEq hr)) rfl) (pe_ix (ixK (K := K) (r := rIx) ix_seq rfl) (pv 0) pe_int (fun _ _ => rfl)) pe_int (nomark _)) (pw_and1 (pt_cmpR opU_gt (pe_ix (ixK (K := K) (r := rIx) ix_seq rfl) (pv 0) pe_int (fun _ _ => rfl)) pe_int (nomark _)))))))) (pss_cons (ps_set (i := 2) nd rfl (Or.inl rfl) (pe_op opU_mod (pe_callTy call_intU rfl T.n_int rfl (by exact (pa_cons (pe_ix (ixK (K := K) (r := rIx) ix_seq rfl) (pv 0) pe_int (fun _ _ => rfl)) pa_nil))) (pv 1)))
    (pss_cons (ps_asg (pe_op opU_fdv (pe_ix (ixK (K := K) (r := rIx) ix_seq rfl) (pv 0) pe_int (fun _ _ => rfl)) (pv 1)) (pg_sub (pv 0) pe_int set_list))
    (pss_one (ps_ret (pv 2))))) pss_nil)
    (pss_cons (ps_asg pe_int (pg_sub (pv 0) pe_int set_list))
    (pss_cons (ps_if (pt_cmpR opU_gt (pv 1) pe_int (nomark _)) (pss_one ps_never) pss_nil)
    (pss_cons (ps_asg (pe_op opU_mod (pe_callTy call_intU rfl T.n_int rfl (by exact (pa_cons (pe_op (opK (K := K) (r := rAddU) opU_add rfl) (pe_op (opK (K := K) (r := rAddU) opU_add rfl) (pe_op (opK (K := K) (r := rMulV) opV_mul rfl) (pe_ix (ixK (K := K) (r := rIx) ix_seq rfl) (pv 0) pe_int (fun _ _ => rfl)) pe_int) (pe_op (opK (K := K) (r := rMulV) opV_mul rfl) (pe_ix (ixK (K := K) (r := rIx) ix_seq rfl) (pv 0) pe_int (fun _ _ => rfl)) pe_int)) pe_int) pa_nil))) pe_int) (pg_sub (pv 0) pe_int set_list))
    (pss_cons (ps_asg (pe_op (opK (K := K) (r := rAddU) opU_add rfl) (pe_ix (ixK (K := K) (r := rIx) ix_seq rfl) (pv 0) pe_int (fun _ _ => rfl)) pe_int) (pg_sub (pv 0) pe_int set_list))
    (pss_one (ps_ret (pe_op opU_mod (pe_callTy call_intU rfl T.n_int rfl (by exact (pa_cons (pe_op opU_fdv (pe_ix (ixK (K := K) (r := rIx) ix_seq rfl) (pv 0) pe_int (fun _ _ => rfl)) pe_int) pa_nil))) (pv 1))))))))) ?_
  obtain ⟨a, x, y, z, many, rfl, ha, h1, h2, h⟩ := h
  simp only [cx_K, gcx_K, lcx_K, LenV, rLenU, tTruU, kTup, tFld, sFld, sFldAug, tMet, tMake, tBM, tDGet, tDGet1, tDGet2, sDPut, tRevL, iEnum, tAug, tAsg, mulV_int, iaddU_int, isubU_int, iaddU_str, tTupL, ex2eq, not_true_eq_false, not_false_eq_true, LamX.tLam, LamX.TTold, tSeq, tIf, tNext, tRet, tRetN, tIfS, tTest, tB, tNot, tAnd, tOr, tChain, tOp, tUn, tC, tVar, tCons, tNil, tTup, tLst, tAsg, gName, gTup, gCons, gNil, gSub, tDrop, tCallS, tCB, tM1, tM0, tBM, tBM0, tSl, tPar, tFor_eq, tLc_eq, intU_int, intU_bl, iList, iTup, iEnumT, tDNewK, rSlT, rSlL, iRng1, iRng2, iStr, tThen, tNever, L2.start, tRaiseFile, tMkFile, tYes, tPart, tNoPart, addA_int, addA_str, addU_int, addU_str, addU_ref, subU_int, mulU_int, mulU_ref, fdvU_int, modU_int, powU_int, ltU_int, leU_int, gtU_int, geU_int, eqU_int, eqU_str, eqU_bl, neU_int, neU_str, neU_bl, WE, TruV, tDIn, tDNotIn, sDDel, tDSetd, tDPop1, tLock, tLockE, tLk, tLockA, tLockEA, iKeys, List.map, List.length_cons, List.length_nil, List.replicate, List.append, List.getElem?_cons_zero, List.getElem?_cons_succ, List.set_cons_zero, List.set_cons_succ, List.cons_append, List.nil_append, Option.some.injEq, V.int.injEq, V.str.injEq, V.bl.injEq, V.ref.injEq, List.cons.injEq, exists_eq_left, exists_eq_right, and_true, true_and, and_self, exists_eq, exists_const, Bool.not_true, Bool.not_false, Bool.false_eq_true, if_true, if_false, reduceIte, decide_eq_true_eq, bne_iff_ne, exists_eq_left', exists_eq', exists_and_left, Bool.not_eq_true', decide_eq_false_iff_not, Nat.reduceSub, Nat.reduceAdd, reduceCtorEq, false_and, or_false, false_or, exists_false]
  have hc : ∀ {i : Int}, CDiv i many := ⟨h1, by omega⟩
  have hfin : ∀ (r x' y' z' : Int) (H' : Hp), 0 ≤ r → r < many → Ex [a] TL GT H H' → H' a = some (.lst [.int x', .int y', .int z']) → Q (.int r) H' := fun r x' y' z' H' => h r x' y' z' H'
  have hput : ∀ {H1 : Hp} {l l' : List V}, H1 a = some (.lst l) → Ex [a] TL GT H1 (upd H1 a (.lst l')) := fun e => Ex.put (by simp) e rfl
  have hm0 : ∀ i : Int, 0 ≤ i % many := fun i => Int.emod_nonneg _ (by omega)
  have hm1 : ∀ i : Int, i % many < many := fun i => Int.emod_lt_of_pos _ h1
  have hA : rIx K (.ref a) (.int 0) H fun x H1 => rIntU [x] H1 fun x H1 => rModU x (.int many) H1 fun x H1 => rIx K (.ref a) (.int 0) H1 fun x1 H1 => rFdvU x1 (.int many) H1 fun x2 H1 => rSetL (.ref a) (.int 0) x2 H1 fun H3 => Q x H3 := by
    refine rIx_lst (lst_at ha) (by rfl) ?_; try simp only [cx_K, gcx_K, lcx_K, LenV, rLenU, tTruU, kTup, tFld, sFld, sFldAug, tMet, tMake, tBM, tDGet, tDGet1, tDGet2, sDPut, tRevL, iEnum, tAug, tAsg, mulV_int, iaddU_int, isubU_int, iaddU_str, tTupL, ex2eq, not_true_eq_false, not_false_eq_true, LamX.tLam, LamX.TTold, tSeq, tIf, tNext, tRet, tRetN, tIfS, tTest, tB, tNot, tAnd, tOr, tChain, tOp, tUn, tC, tVar, tCons, tNil, tTup, tLst, tAsg, gName, gTup, gCons, gNil, gSub, tDrop, tCallS, tCB, tM1, tM0, tBM, tBM0, tSl, tPar, tFor_eq, tLc_eq, intU_int, intU_bl, iList, iTup, iEnumT, tDNewK, rSlT, rSlL, iRng1, iRng2, iStr, tThen, tNever, L2.start, tRaiseFile, tMkFile, tYes, tPart, tNoPart, addA_int, addA_str, addU_int, addU_str, addU_ref, subU_int, mulU_int, mulU_ref, fdvU_int, modU_int, powU_int, ltU_int, leU_int, gtU_int, geU_int, eqU_int, eqU_str, eqU_bl, neU_int, neU_str, neU_bl, WE, TruV, tDIn, tDNotIn, sDDel, tDSetd, tDPop1, tLock, tLockE, tLk, tLockA, tLockEA, iKeys, List.map, List.length_cons, List.length_nil, List.replicate, List.append, List.getElem?_cons_zero, List.getElem?_cons_succ, List.set_cons_zero, List.set_cons_succ, List.cons_append, List.nil_append, Option.some.injEq, V.int.injEq, V.str.injEq, V.bl.injEq, V.ref.injEq, List.cons.injEq, exists_eq_left, exists_eq_right, and_true, true_and, and_self, exists_eq, exists_const, Bool.not_true, Bool.not_false, Bool.false_eq_true, if_true, if_false, reduceIte, decide_eq_true_eq, bne_iff_ne, exists_eq_left', exists_eq', exists_and_left, Bool.not_eq_true', decide_eq_false_iff_not, Nat.reduceSub, Nat.reduceAdd, reduceCtorEq, false_and, or_false, false_or, exists_false]
    refine ⟨h1, ?_⟩
    refine rIx_lst (lst_at ha) (by rfl) ?_; try simp only [cx_K, gcx_K, lcx_K, LenV, rLenU, tTruU, kTup, tFld, sFld, sFldAug, tMet, tMake, tBM, tDGet, tDGet1, tDGet2, sDPut, tRevL, iEnum, tAug, tAsg, mulV_int, iaddU_int, isubU_int, iaddU_str, tTupL, ex2eq, not_true_eq_false, not_false_eq_true, LamX.tLam, LamX.TTold, tSeq, tIf, tNext, tRet, tRetN, tIfS, tTest, tB, tNot, tAnd, tOr, tChain, tOp, tUn, tC, tVar, tCons, tNil, tTup, tLst, tAsg, gName, gTup, gCons, gNil, gSub, tDrop, tCallS, tCB, tM1, tM0, tBM, tBM0, tSl, tPar, tFor_eq, tLc_eq, intU_int, intU_bl, iList, iTup, iEnumT, tDNewK, rSlT, rSlL, iRng1, iRng2, iStr, tThen, tNever, L2.start, tRaiseFile, tMkFile, tYes, tPart, tNoPart, addA_int, addA_str, addU_int, addU_str, addU_ref, subU_int, mulU_int, mulU_ref, fdvU_int, modU_int, powU_int, ltU_int, leU_int, gtU_int, geU_int, eqU_int, eqU_str, eqU_bl, neU_int, neU_str, neU_bl, WE, TruV, tDIn, tDNotIn, sDDel, tDSetd, tDPop1, tLock, tLockE, tLk, tLockA, tLockEA, iKeys, List.map, List.length_cons, List.length_nil, List.replicate, List.append, List.getElem?_cons_zero, List.getElem?_cons_succ, List.set_cons_zero, List.set_cons_succ, List.cons_append, List.nil_append, Option.some.injEq, V.int.injEq, V.str.injEq, V.bl.injEq, V.ref.injEq, List.cons.injEq, exists_eq_left, exists_eq_right, and_true, true_and, and_self, exists_eq, exists_const, Bool.not_true, Bool.not_false, Bool.false_eq_true, if_true, if_false, reduceIte, decide_eq_true_eq, bne_iff_ne, exists_eq_left', exists_eq', exists_and_left, Bool.not_eq_true', decide_eq_false_iff_not, Nat.reduceSub, Nat.reduceAdd, reduceCtorEq, false_and, or_false, false_or, exists_false]
    refine ⟨hc, ?_⟩
    refine setL_at ha rfl (by rfl) ?_
    exact hfin _ _ _ _ _ (hm0 _) (hm1 _) (hput ha) upd_same
  have nb : ¬ (100000000 < many) := by omega
  refine rIx_lst (lst_at ha) (by rfl) ?_; try simp only [cx_K, gcx_K, lcx_K, LenV, rLenU, tTruU, kTup, tFld, sFld, sFldAug, tMet, tMake, tBM, tDGet, tDGet1, tDGet2, sDPut, tRevL, iEnum, tAug, tAsg, mulV_int, iaddU_int, isubU_int, iaddU_str, tTupL, ex2eq, not_true_eq_false, not_false_eq_true, LamX.tLam, LamX.TTold, tSeq, tIf, tNext, tRet, tRetN, tIfS, tTest, tB, tNot, tAnd, tOr, tChain, tOp, tUn, tC, tVar, tCons, tNil, tTup, tLst, tAsg, gName, gTup, gCons, gNil, gSub, tDrop, tCallS, tCB, tM1, tM0, tBM, tBM0, tSl, tPar, tFor_eq, tLc_eq, intU_int, intU_bl, iList, iTup, iEnumT, tDNewK, rSlT, rSlL, iRng1, iRng2, iStr, tThen, tNever, L2.start, tRaiseFile, tMkFile, tYes, tPart, tNoPart, addA_int, addA_str, addU_int, addU_str, addU_ref, subU_int, mulU_int, mulU_ref, fdvU_int, modU_int, powU_int, ltU_int, leU_int, gtU_int, geU_int, eqU_int, eqU_str, eqU_bl, neU_int, neU_str, neU_bl, WE, TruV, tDIn, tDNotIn, sDDel, tDSetd, tDPop1, tLock, tLockE, tLk, tLockA, tLockEA, iKeys, List.map, List.length_cons, List.length_nil, List.replicate, List.append, List.getElem?_cons_zero, List.getElem?_cons_succ, List.set_cons_zero, List.set_cons_succ, List.cons_append, List.nil_append, Option.some.injEq, V.int.injEq, V.str.injEq, V.bl.injEq, V.ref.injEq, List.cons.injEq, exists_eq_left, exists_eq_right, and_true, true_and, and_self, exists_eq, exists_const, Bool.not_true, Bool.not_false, Bool.false_eq_true, if_true, if_false, reduceIte, decide_eq_true_eq, bne_iff_ne, exists_eq_left', exists_eq', exists_and_left, Bool.not_eq_true', decide_eq_false_iff_not, Nat.reduceSub, Nat.reduceAdd, reduceCtorEq, false_and, or_false, false_or, exists_false]
  split
  · exact hA
  · refine rIx_lst (lst_at ha) (by rfl) ?_; try simp only [cx_K, gcx_K, lcx_K, LenV, rLenU, tTruU, kTup, tFld, sFld, sFldAug, tMet, tMake, tBM, tDGet, tDGet1, tDGet2, sDPut, tRevL, iEnum, tAug, tAsg, mulV_int, iaddU_int, isubU_int, iaddU_str, tTupL, ex2eq, not_true_eq_false, not_false_eq_true, LamX.tLam, LamX.TTold, tSeq, tIf, tNext, tRet, tRetN, tIfS, tTest, tB, tNot, tAnd, tOr, tChain, tOp, tUn, tC, tVar, tCons, tNil, tTup, tLst, tAsg, gName, gTup, gCons, gNil, gSub, tDrop, tCallS, tCB, tM1, tM0, tBM, tBM0, tSl, tPar, tFor_eq, tLc_eq, intU_int, intU_bl, iList, iTup, iEnumT, tDNewK, rSlT, rSlL, iRng1, iRng2, iStr, tThen, tNever, L2.start, tRaiseFile, tMkFile, tYes, tPart, tNoPart, addA_int, addA_str, addU_int, addU_str, addU_ref, subU_int, mulU_int, mulU_ref, fdvU_int, modU_int, powU_int, ltU_int, leU_int, gtU_int, geU_int, eqU_int, eqU_str, eqU_bl, neU_int, neU_str, neU_bl, WE, TruV, tDIn, tDNotIn, sDDel, tDSetd, tDPop1, tLock, tLockE, tLk, tLockA, tLockEA, iKeys, List.map, List.length_cons, List.length_nil, List.replicate, List.append, List.getElem?_cons_zero, List.getElem?_cons_succ, List.set_cons_zero, List.set_cons_succ, List.cons_append, List.nil_append, Option.some.injEq, V.int.injEq, V.str.injEq, V.bl.injEq, V.ref.injEq, List.cons.injEq, exists_eq_left, exists_eq_right, and_true, true_and, and_self, exists_eq, exists_const, Bool.not_true, Bool.not_false, Bool.false_eq_true, if_true, if_false, reduceIte, decide_eq_true_eq, bne_iff_ne, exists_eq_left', exists_eq', exists_and_left, Bool.not_eq_true', decide_eq_false_iff_not, Nat.reduceSub, Nat.reduceAdd, reduceCtorEq, false_and, or_false, false_or, exists_false]
    split
    · refine rIx_lst (lst_at ha) (by rfl) ?_; try simp only [cx_K, gcx_K, lcx_K, LenV, rLenU, tTruU, kTup, tFld, sFld, sFldAug, tMet, tMake, tBM, tDGet, tDGet1, tDGet2, sDPut, tRevL, iEnum, tAug, tAsg, mulV_int, iaddU_int, isubU_int, iaddU_str, tTupL, ex2eq, not_true_eq_false, not_false_eq_true, LamX.tLam, LamX.TTold, tSeq, tIf, tNext, tRet, tRetN, tIfS, tTest, tB, tNot, tAnd, tOr, tChain, tOp, tUn, tC, tVar, tCons, tNil, tTup, tLst, tAsg, gName, gTup, gCons, gNil, gSub, tDrop, tCallS, tCB, tM1, tM0, tBM, tBM0, tSl, tPar, tFor_eq, tLc_eq, intU_int, intU_bl, iList, iTup, iEnumT, tDNewK, rSlT, rSlL, iRng1, iRng2, iStr, tThen, tNever, L2.start, tRaiseFile, tMkFile, tYes, tPart, tNoPart, addA_int, addA_str, addU_int, addU_str, addU_ref, subU_int, mulU_int, mulU_ref, fdvU_int, modU_int, powU_int, ltU_int, leU_int, gtU_int, geU_int, eqU_int, eqU_str, eqU_bl, neU_int, neU_str, neU_bl, WE, TruV, tDIn, tDNotIn, sDDel, tDSetd, tDPop1, tLock, tLockE, tLk, tLockA, tLockEA, iKeys, List.map, List.length_cons, List.length_nil, List.replicate, List.append, List.getElem?_cons_zero, List.getElem?_cons_succ, List.set_cons_zero, List.set_cons_succ, List.cons_append, List.nil_append, Option.some.injEq, V.int.injEq, V.str.injEq, V.bl.injEq, V.ref.injEq, List.cons.injEq, exists_eq_left, exists_eq_right, and_true, true_and, and_self, exists_eq, exists_const, Bool.not_true, Bool.not_false, Bool.false_eq_true, if_true, if_false, reduceIte, decide_eq_true_eq, bne_iff_ne, exists_eq_left', exists_eq', exists_and_left, Bool.not_eq_true', decide_eq_false_iff_not, Nat.reduceSub, Nat.reduceAdd, reduceCtorEq, false_and, or_false, false_or, exists_false]
      split
      · exact hA
      · refine setL_at ha rfl (by rfl) ?_; try simp only [cx_K, gcx_K, lcx_K, LenV, rLenU, tTruU, kTup, tFld, sFld, sFldAug, tMet, tMake, tBM, tDGet, tDGet1, tDGet2, sDPut, tRevL, iEnum, tAug, tAsg, mulV_int, iaddU_int, isubU_int, iaddU_str, tTupL, ex2eq, not_true_eq_false, not_false_eq_true, LamX.tLam, LamX.TTold, tSeq, tIf, tNext, tRet, tRetN, tIfS, tTest, tB, tNot, tAnd, tOr, tChain, tOp, tUn, tC, tVar, tCons, tNil, tTup, tLst, tAsg, gName, gTup, gCons, gNil, gSub, tDrop, tCallS, tCB, tM1, tM0, tBM, tBM0, tSl, tPar, tFor_eq, tLc_eq, intU_int, intU_bl, iList, iTup, iEnumT, tDNewK, rSlT, rSlL, iRng1, iRng2, iStr, tThen, tNever, L2.start, tRaiseFile, tMkFile, tYes, tPart, tNoPart, addA_int, addA_str, addU_int, addU_str, addU_ref, subU_int, mulU_int, mulU_ref, fdvU_int, modU_int, powU_int, ltU_int, leU_int, gtU_int, geU_int, eqU_int, eqU_str, eqU_bl, neU_int, neU_str, neU_bl, WE, TruV, tDIn, tDNotIn, sDDel, tDSetd, tDPop1, tLock, tLockE, tLk, tLockA, tLockEA, iKeys, List.map, List.length_cons, List.length_nil, List.replicate, List.append, List.getElem?_cons_zero, List.getElem?_cons_succ, List.set_cons_zero, List.set_cons_succ, List.cons_append, List.nil_append, Option.some.injEq, V.int.injEq, V.str.injEq, V.bl.injEq, V.ref.injEq, List.cons.injEq, exists_eq_left, exists_eq_right, and_true, true_and, and_self, exists_eq, exists_const, Bool.not_true, Bool.not_false, Bool.false_eq_true, if_true, if_false, reduceIte, decide_eq_true_eq, bne_iff_ne, exists_eq_left', exists_eq', exists_and_left, Bool.not_eq_true', decide_eq_false_iff_not, Nat.reduceSub, Nat.reduceAdd, reduceCtorEq, false_and, or_false, false_or, exists_false]
        try rw [if_neg nb]
        refine rIx_lst (lst_at upd_same) (by rfl) ?_; try simp only [cx_K, gcx_K, lcx_K, LenV, rLenU, tTruU, kTup, tFld, sFld, sFldAug, tMet, tMake, tBM, tDGet, tDGet1, tDGet2, sDPut, tRevL, iEnum, tAug, tAsg, mulV_int, iaddU_int, isubU_int, iaddU_str, tTupL, ex2eq, not_true_eq_false, not_false_eq_true, LamX.tLam, LamX.TTold, tSeq, tIf, tNext, tRet, tRetN, tIfS, tTest, tB, tNot, tAnd, tOr, tChain, tOp, tUn, tC, tVar, tCons, tNil, tTup, tLst, tAsg, gName, gTup, gCons, gNil, gSub, tDrop, tCallS, tCB, tM1, tM0, tBM, tBM0, tSl, tPar, tFor_eq, tLc_eq, intU_int, intU_bl, iList, iTup, iEnumT, tDNewK, rSlT, rSlL, iRng1, iRng2, iStr, tThen, tNever, L2.start, tRaiseFile, tMkFile, tYes, tPart, tNoPart, addA_int, addA_str, addU_int, addU_str, addU_ref, subU_int, mulU_int, mulU_ref, fdvU_int, modU_int, powU_int, ltU_int, leU_int, gtU_int, geU_int, eqU_int, eqU_str, eqU_bl, neU_int, neU_str, neU_bl, WE, TruV, tDIn, tDNotIn, sDDel, tDSetd, tDPop1, tLock, tLockE, tLk, tLockA, tLockEA, iKeys, List.map, List.length_cons, List.length_nil, List.replicate, List.append, List.getElem?_cons_zero, List.getElem?_cons_succ, List.set_cons_zero, List.set_cons_succ, List.cons_append, List.nil_append, Option.some.injEq, V.int.injEq, V.str.injEq, V.bl.injEq, V.ref.injEq, List.cons.injEq, exists_eq_left, exists_eq_right, and_true, true_and, and_self, exists_eq, exists_const, Bool.not_true, Bool.not_false, Bool.false_eq_true, if_true, if_false, reduceIte, decide_eq_true_eq, bne_iff_ne, exists_eq_left', exists_eq', exists_and_left, Bool.not_eq_true', decide_eq_false_iff_not, Nat.reduceSub, Nat.reduceAdd, reduceCtorEq, false_and, or_false, false_or, exists_false]
        refine ⟨.inr (by decide), ?_⟩
        refine rIx_lst (lst_at upd_same) (by rfl) ?_; try simp only [cx_K, gcx_K, lcx_K, LenV, rLenU, tTruU, kTup, tFld, sFld, sFldAug, tMet, tMake, tBM, tDGet, tDGet1, tDGet2, sDPut, tRevL, iEnum, tAug, tAsg, mulV_int, iaddU_int, isubU_int, iaddU_str, tTupL, ex2eq, not_true_eq_false, not_false_eq_true, LamX.tLam, LamX.TTold, tSeq, tIf, tNext, tRet, tRetN, tIfS, tTest, tB, tNot, tAnd, tOr, tChain, tOp, tUn, tC, tVar, tCons, tNil, tTup, tLst, tAsg, gName, gTup, gCons, gNil, gSub, tDrop, tCallS, tCB, tM1, tM0, tBM, tBM0, tSl, tPar, tFor_eq, tLc_eq, intU_int, intU_bl, iList, iTup, iEnumT, tDNewK, rSlT, rSlL, iRng1, iRng2, iStr, tThen, tNever, L2.start, tRaiseFile, tMkFile, tYes, tPart, tNoPart, addA_int, addA_str, addU_int, addU_str, addU_ref, subU_int, mulU_int, mulU_ref, fdvU_int, modU_int, powU_int, ltU_int, leU_int, gtU_int, geU_int, eqU_int, eqU_str, eqU_bl, neU_int, neU_str, neU_bl, WE, TruV, tDIn, tDNotIn, sDDel, tDSetd, tDPop1, tLock, tLockE, tLk, tLockA, tLockEA, iKeys, List.map, List.length_cons, List.length_nil, List.replicate, List.append, List.getElem?_cons_zero, List.getElem?_cons_succ, List.set_cons_zero, List.set_cons_succ, List.cons_append, List.nil_append, Option.some.injEq, V.int.injEq, V.str.injEq, V.bl.injEq, V.ref.injEq, List.cons.injEq, exists_eq_left, exists_eq_right, and_true, true_and, and_self, exists_eq, exists_const, Bool.not_true, Bool.not_false, Bool.false_eq_true, if_true, if_false, reduceIte, decide_eq_true_eq, bne_iff_ne, exists_eq_left', exists_eq', exists_and_left, Bool.not_eq_true', decide_eq_false_iff_not, Nat.reduceSub, Nat.reduceAdd, reduceCtorEq, false_and, or_false, false_or, exists_false]
        refine ⟨.inr (by decide), by decide, ?_⟩
        refine setL_at upd_same rfl (by rfl) ?_; try simp only [cx_K, gcx_K, lcx_K, LenV, rLenU, tTruU, kTup, tFld, sFld, sFldAug, tMet, tMake, tBM, tDGet, tDGet1, tDGet2, sDPut, tRevL, iEnum, tAug, tAsg, mulV_int, iaddU_int, isubU_int, iaddU_str, tTupL, ex2eq, not_true_eq_false, not_false_eq_true, LamX.tLam, LamX.TTold, tSeq, tIf, tNext, tRet, tRetN, tIfS, tTest, tB, tNot, tAnd, tOr, tChain, tOp, tUn, tC, tVar, tCons, tNil, tTup, tLst, tAsg, gName, gTup, gCons, gNil, gSub, tDrop, tCallS, tCB, tM1, tM0, tBM, tBM0, tSl, tPar, tFor_eq, tLc_eq, intU_int, intU_bl, iList, iTup, iEnumT, tDNewK, rSlT, rSlL, iRng1, iRng2, iStr, tThen, tNever, L2.start, tRaiseFile, tMkFile, tYes, tPart, tNoPart, addA_int, addA_str, addU_int, addU_str, addU_ref, subU_int, mulU_int, mulU_ref, fdvU_int, modU_int, powU_int, ltU_int, leU_int, gtU_int, geU_int, eqU_int, eqU_str, eqU_bl, neU_int, neU_str, neU_bl, WE, TruV, tDIn, tDNotIn, sDDel, tDSetd, tDPop1, tLock, tLockE, tLk, tLockA, tLockEA, iKeys, List.map, List.length_cons, List.length_nil, List.replicate, List.append, List.getElem?_cons_zero, List.getElem?_cons_succ, List.set_cons_zero, List.set_cons_succ, List.cons_append, List.nil_append, Option.some.injEq, V.int.injEq, V.str.injEq, V.bl.injEq, V.ref.injEq, List.cons.injEq, exists_eq_left, exists_eq_right, and_true, true_and, and_self, exists_eq, exists_const, Bool.not_true, Bool.not_false, Bool.false_eq_true, if_true, if_false, reduceIte, decide_eq_true_eq, bne_iff_ne, exists_eq_left', exists_eq', exists_and_left, Bool.not_eq_true', decide_eq_false_iff_not, Nat.reduceSub, Nat.reduceAdd, reduceCtorEq, false_and, or_false, false_or, exists_false]
        refine rIx_lst (lst_at upd_same) (by rfl) ?_; try simp only [cx_K, gcx_K, lcx_K, LenV, rLenU, tTruU, kTup, tFld, sFld, sFldAug, tMet, tMake, tBM, tDGet, tDGet1, tDGet2, sDPut, tRevL, iEnum, tAug, tAsg, mulV_int, iaddU_int, isubU_int, iaddU_str, tTupL, ex2eq, not_true_eq_false, not_false_eq_true, LamX.tLam, LamX.TTold, tSeq, tIf, tNext, tRet, tRetN, tIfS, tTest, tB, tNot, tAnd, tOr, tChain, tOp, tUn, tC, tVar, tCons, tNil, tTup, tLst, tAsg, gName, gTup, gCons, gNil, gSub, tDrop, tCallS, tCB, tM1, tM0, tBM, tBM0, tSl, tPar, tFor_eq, tLc_eq, intU_int, intU_bl, iList, iTup, iEnumT, tDNewK, rSlT, rSlL, iRng1, iRng2, iStr, tThen, tNever, L2.start, tRaiseFile, tMkFile, tYes, tPart, tNoPart, addA_int, addA_str, addU_int, addU_str, addU_ref, subU_int, mulU_int, mulU_ref, fdvU_int, modU_int, powU_int, ltU_int, leU_int, gtU_int, geU_int, eqU_int, eqU_str, eqU_bl, neU_int, neU_str, neU_bl, WE, TruV, tDIn, tDNotIn, sDDel, tDSetd, tDPop1, tLock, tLockE, tLk, tLockA, tLockEA, iKeys, List.map, List.length_cons, List.length_nil, List.replicate, List.append, List.getElem?_cons_zero, List.getElem?_cons_succ, List.set_cons_zero, List.set_cons_succ, List.cons_append, List.nil_append, Option.some.injEq, V.int.injEq, V.str.injEq, V.bl.injEq, V.ref.injEq, List.cons.injEq, exists_eq_left, exists_eq_right, and_true, true_and, and_self, exists_eq, exists_const, Bool.not_true, Bool.not_false, Bool.false_eq_true, if_true, if_false, reduceIte, decide_eq_true_eq, bne_iff_ne, exists_eq_left', exists_eq', exists_and_left, Bool.not_eq_true', decide_eq_false_iff_not, Nat.reduceSub, Nat.reduceAdd, reduceCtorEq, false_and, or_false, false_or, exists_false]
        refine setL_at upd_same rfl (by rfl) ?_; try simp only [cx_K, gcx_K, lcx_K, LenV, rLenU, tTruU, kTup, tFld, sFld, sFldAug, tMet, tMake, tBM, tDGet, tDGet1, tDGet2, sDPut, tRevL, iEnum, tAug, tAsg, mulV_int, iaddU_int, isubU_int, iaddU_str, tTupL, ex2eq, not_true_eq_false, not_false_eq_true, LamX.tLam, LamX.TTold, tSeq, tIf, tNext, tRet, tRetN, tIfS, tTest, tB, tNot, tAnd, tOr, tChain, tOp, tUn, tC, tVar, tCons, tNil, tTup, tLst, tAsg, gName, gTup, gCons, gNil, gSub, tDrop, tCallS, tCB, tM1, tM0, tBM, tBM0, tSl, tPar, tFor_eq, tLc_eq, intU_int, intU_bl, iList, iTup, iEnumT, tDNewK, rSlT, rSlL, iRng1, iRng2, iStr, tThen, tNever, L2.start, tRaiseFile, tMkFile, tYes, tPart, tNoPart, addA_int, addA_str, addU_int, addU_str, addU_ref, subU_int, mulU_int, mulU_ref, fdvU_int, modU_int, powU_int, ltU_int, leU_int, gtU_int, geU_int, eqU_int, eqU_str, eqU_bl, neU_int, neU_str, neU_bl, WE, TruV, tDIn, tDNotIn, sDDel, tDSetd, tDPop1, tLock, tLockE, tLk, tLockA, tLockEA, iKeys, List.map, List.length_cons, List.length_nil, List.replicate, List.append, List.getElem?_cons_zero, List.getElem?_cons_succ, List.set_cons_zero, List.set_cons_succ, List.cons_append, List.nil_append, Option.some.injEq, V.int.injEq, V.str.injEq, V.bl.injEq, V.ref.injEq, List.cons.injEq, exists_eq_left, exists_eq_right, and_true, true_and, and_self, exists_eq, exists_const, Bool.not_true, Bool.not_false, Bool.false_eq_true, if_true, if_false, reduceIte, decide_eq_true_eq, bne_iff_ne, exists_eq_left', exists_eq', exists_and_left, Bool.not_eq_true', decide_eq_false_iff_not, Nat.reduceSub, Nat.reduceAdd, reduceCtorEq, false_and, or_false, false_or, exists_false]
        refine rIx_lst (lst_at upd_same) (by rfl) ?_; try simp only [cx_K, gcx_K, lcx_K, LenV, rLenU, tTruU, kTup, tFld, sFld, sFldAug, tMet, tMake, tBM, tDGet, tDGet1, tDGet2, sDPut, tRevL, iEnum, tAug, tAsg, mulV_int, iaddU_int, isubU_int, iaddU_str, tTupL, ex2eq, not_true_eq_false, not_false_eq_true, LamX.tLam, LamX.TTold, tSeq, tIf, tNext, tRet, tRetN, tIfS, tTest, tB, tNot, tAnd, tOr, tChain, tOp, tUn, tC, tVar, tCons, tNil, tTup, tLst, tAsg, gName, gTup, gCons, gNil, gSub, tDrop, tCallS, tCB, tM1, tM0, tBM, tBM0, tSl, tPar, tFor_eq, tLc_eq, intU_int, intU_bl, iList, iTup, iEnumT, tDNewK, rSlT, rSlL, iRng1, iRng2, iStr, tThen, tNever, L2.start, tRaiseFile, tMkFile, tYes, tPart, tNoPart, addA_int, addA_str, addU_int, addU_str, addU_ref, subU_int, mulU_int, mulU_ref, fdvU_int, modU_int, powU_int, ltU_int, leU_int, gtU_int, geU_int, eqU_int, eqU_str, eqU_bl, neU_int, neU_str, neU_bl, WE, TruV, tDIn, tDNotIn, sDDel, tDSetd, tDPop1, tLock, tLockE, tLk, tLockA, tLockEA, iKeys, List.map, List.length_cons, List.length_nil, List.replicate, List.append, List.getElem?_cons_zero, List.getElem?_cons_succ, List.set_cons_zero, List.set_cons_succ, List.cons_append, List.nil_append, Option.some.injEq, V.int.injEq, V.str.injEq, V.bl.injEq, V.ref.injEq, List.cons.injEq, exists_eq_left, exists_eq_right, and_true, true_and, and_self, exists_eq, exists_const, Bool.not_true, Bool.not_false, Bool.false_eq_true, if_true, if_false, reduceIte, decide_eq_true_eq, bne_iff_ne, exists_eq_left', exists_eq', exists_and_left, Bool.not_eq_true', decide_eq_false_iff_not, Nat.reduceSub, Nat.reduceAdd, reduceCtorEq, false_and, or_false, false_or, exists_false]
        exact ⟨⟨by decide, by decide⟩, h1, hfin _ _ _ _ _ (hm0 _) (hm1 _) (((hput ha).trans (hput upd_same)).trans (hput upd_same)) upd_same⟩
    · refine setL_at ha rfl (by rfl) ?_; try simp only [cx_K, gcx_K, lcx_K, LenV, rLenU, tTruU, kTup, tFld, sFld, sFldAug, tMet, tMake, tBM, tDGet, tDGet1, tDGet2, sDPut, tRevL, iEnum, tAug, tAsg, mulV_int, iaddU_int, isubU_int, iaddU_str, tTupL, ex2eq, not_true_eq_false, not_false_eq_true, LamX.tLam, LamX.TTold, tSeq, tIf, tNext, tRet, tRetN, tIfS, tTest, tB, tNot, tAnd, tOr, tChain, tOp, tUn, tC, tVar, tCons, tNil, tTup, tLst, tAsg, gName, gTup, gCons, gNil, gSub, tDrop, tCallS, tCB, tM1, tM0, tBM, tBM0, tSl, tPar, tFor_eq, tLc_eq, intU_int, intU_bl, iList, iTup, iEnumT, tDNewK, rSlT, rSlL, iRng1, iRng2, iStr, tThen, tNever, L2.start, tRaiseFile, tMkFile, tYes, tPart, tNoPart, addA_int, addA_str, addU_int, addU_str, addU_ref, subU_int, mulU_int, mulU_ref, fdvU_int, modU_int, powU_int, ltU_int, leU_int, gtU_int, geU_int, eqU_int, eqU_str, eqU_bl, neU_int, neU_str, neU_bl, WE, TruV, tDIn, tDNotIn, sDDel, tDSetd, tDPop1, tLock, tLockE, tLk, tLockA, tLockEA, iKeys, List.map, List.length_cons, List.length_nil, List.replicate, List.append, List.getElem?_cons_zero, List.getElem?_cons_succ, List.set_cons_zero, List.set_cons_succ, List.cons_append, List.nil_append, Option.some.injEq, V.int.injEq, V.str.injEq, V.bl.injEq, V.ref.injEq, List.cons.injEq, exists_eq_left, exists_eq_right, and_true, true_and, and_self, exists_eq, exists_const, Bool.not_true, Bool.not_false, Bool.false_eq_true, if_true, if_false, reduceIte, decide_eq_true_eq, bne_iff_ne, exists_eq_left', exists_eq', exists_and_left, Bool.not_eq_true', decide_eq_false_iff_not, Nat.reduceSub, Nat.reduceAdd, reduceCtorEq, false_and, or_false, false_or, exists_false]
      try rw [if_neg nb]
      refine rIx_lst (lst_at upd_same) (by rfl) ?_; try simp only [cx_K, gcx_K, lcx_K, LenV, rLenU, tTruU, kTup, tFld, sFld, sFldAug, tMet, tMake, tBM, tDGet, tDGet1, tDGet2, sDPut, tRevL, iEnum, tAug, tAsg, mulV_int, iaddU_int, isubU_int, iaddU_str, tTupL, ex2eq, not_true_eq_false, not_false_eq_true, LamX.tLam, LamX.TTold, tSeq, tIf, tNext, tRet, tRetN, tIfS, tTest, tB, tNot, tAnd, tOr, tChain, tOp, tUn, tC, tVar, tCons, tNil, tTup, tLst, tAsg, gName, gTup, gCons, gNil, gSub, tDrop, tCallS, tCB, tM1, tM0, tBM, tBM0, tSl, tPar, tFor_eq, tLc_eq, intU_int, intU_bl, iList, iTup, iEnumT, tDNewK, rSlT, rSlL, iRng1, iRng2, iStr, tThen, tNever, L2.start, tRaiseFile, tMkFile, tYes, tPart, tNoPart, addA_int, addA_str, addU_int, addU_str, addU_ref, subU_int, mulU_int, mulU_ref, fdvU_int, modU_int, powU_int, ltU_int, leU_int, gtU_int, geU_int, eqU_int, eqU_str, eqU_bl, neU_int, neU_str, neU_bl, WE, TruV, tDIn, tDNotIn, sDDel, tDSetd, tDPop1, tLock, tLockE, tLk, tLockA, tLockEA, iKeys, List.map, List.length_cons, List.length_nil, List.replicate, List.append, List.getElem?_cons_zero, List.getElem?_cons_succ, List.set_cons_zero, List.set_cons_succ, List.cons_append, List.nil_append, Option.some.injEq, V.int.injEq, V.str.injEq, V.bl.injEq, V.ref.injEq, List.cons.injEq, exists_eq_left, exists_eq_right, and_true, true_and, and_self, exists_eq, exists_const, Bool.not_true, Bool.not_false, Bool.false_eq_true, if_true, if_false, reduceIte, decide_eq_true_eq, bne_iff_ne, exists_eq_left', exists_eq', exists_and_left, Bool.not_eq_true', decide_eq_false_iff_not, Nat.reduceSub, Nat.reduceAdd, reduceCtorEq, false_and, or_false, false_or, exists_false]
      refine ⟨.inr (by decide), ?_⟩
      refine rIx_lst (lst_at upd_same) (by rfl) ?_; try simp only [cx_K, gcx_K, lcx_K, LenV, rLenU, tTruU, kTup, tFld, sFld, sFldAug, tMet, tMake, tBM, tDGet, tDGet1, tDGet2, sDPut, tRevL, iEnum, tAug, tAsg, mulV_int, iaddU_int, isubU_int, iaddU_str, tTupL, ex2eq, not_true_eq_false, not_false_eq_true, LamX.tLam, LamX.TTold, tSeq, tIf, tNext, tRet, tRetN, tIfS, tTest, tB, tNot, tAnd, tOr, tChain, tOp, tUn, tC, tVar, tCons, tNil, tTup, tLst, tAsg, gName, gTup, gCons, gNil, gSub, tDrop, tCallS, tCB, tM1, tM0, tBM, tBM0, tSl, tPar, tFor_eq, tLc_eq, intU_int, intU_bl, iList, iTup, iEnumT, tDNewK, rSlT, rSlL, iRng1, iRng2, iStr, tThen, tNever, L2.start, tRaiseFile, tMkFile, tYes, tPart, tNoPart, addA_int, addA_str, addU_int, addU_str, addU_ref, subU_int, mulU_int, mulU_ref, fdvU_int, modU_int, powU_int, ltU_int, leU_int, gtU_int, geU_int, eqU_int, eqU_str, eqU_bl, neU_int, neU_str, neU_bl, WE, TruV, tDIn, tDNotIn, sDDel, tDSetd, tDPop1, tLock, tLockE, tLk, tLockA, tLockEA, iKeys, List.map, List.length_cons, List.length_nil, List.replicate, List.append, List.getElem?_cons_zero, List.getElem?_cons_succ, List.set_cons_zero, List.set_cons_succ, List.cons_append, List.nil_append, Option.some.injEq, V.int.injEq, V.str.injEq, V.bl.injEq, V.ref.injEq, List.cons.injEq, exists_eq_left, exists_eq_right, and_true, true_and, and_self, exists_eq, exists_const, Bool.not_true, Bool.not_false, Bool.false_eq_true, if_true, if_false, reduceIte, decide_eq_true_eq, bne_iff_ne, exists_eq_left', exists_eq', exists_and_left, Bool.not_eq_true', decide_eq_false_iff_not, Nat.reduceSub, Nat.reduceAdd, reduceCtorEq, false_and, or_false, false_or, exists_false]
      refine ⟨.inr (by decide), by decide, ?_⟩
      refine setL_at upd_same rfl (by rfl) ?_; try simp only [cx_K, gcx_K, lcx_K, LenV, rLenU, tTruU, kTup, tFld, sFld, sFldAug, tMet, tMake, tBM, tDGet, tDGet1, tDGet2, sDPut, tRevL, iEnum, tAug, tAsg, mulV_int, iaddU_int, isubU_int, iaddU_str, tTupL, ex2eq, not_true_eq_false, not_false_eq_true, LamX.tLam, LamX.TTold, tSeq, tIf, tNext, tRet, tRetN, tIfS, tTest, tB, tNot, tAnd, tOr, tChain, tOp, tUn, tC, tVar, tCons, tNil, tTup, tLst, tAsg, gName, gTup, gCons, gNil, gSub, tDrop, tCallS, tCB, tM1, tM0, tBM, tBM0, tSl, tPar, tFor_eq, tLc_eq, intU_int, intU_bl, iList, iTup, iEnumT, tDNewK, rSlT, rSlL, iRng1, iRng2, iStr, tThen, tNever, L2.start, tRaiseFile, tMkFile, tYes, tPart, tNoPart, addA_int, addA_str, addU_int, addU_str, addU_ref, subU_int, mulU_int, mulU_ref, fdvU_int, modU_int, powU_int, ltU_int, leU_int, gtU_int, geU_int, eqU_int, eqU_str, eqU_bl, neU_int, neU_str, neU_bl, WE, TruV, tDIn, tDNotIn, sDDel, tDSetd, tDPop1, tLock, tLockE, tLk, tLockA, tLockEA, iKeys, List.map, List.length_cons, List.length_nil, List.replicate, List.append, List.getElem?_cons_zero, List.getElem?_cons_succ, List.set_cons_zero, List.set_cons_succ, List.cons_append, List.nil_append, Option.some.injEq, V.int.injEq, V.str.injEq, V.bl.injEq, V.ref.injEq, List.cons.injEq, exists_eq_left, exists_eq_right, and_true, true_and, and_self, exists_eq, exists_const, Bool.not_true, Bool.not_false, Bool.false_eq_true, if_true, if_false, reduceIte, decide_eq_true_eq, bne_iff_ne, exists_eq_left', exists_eq', exists_and_left, Bool.not_eq_true', decide_eq_false_iff_not, Nat.reduceSub, Nat.reduceAdd, reduceCtorEq, false_and, or_false, false_or, exists_false]
      refine rIx_lst (lst_at upd_same) (by rfl) ?_; try simp only [cx_K, gcx_K, lcx_K, LenV, rLenU, tTruU, kTup, tFld, sFld, sFldAug, tMet, tMake, tBM, tDGet, tDGet1, tDGet2, sDPut, tRevL, iEnum, tAug, tAsg, mulV_int, iaddU_int, isubU_int, iaddU_str, tTupL, ex2eq, not_true_eq_false, not_false_eq_true, LamX.tLam, LamX.TTold, tSeq, tIf, tNext, tRet, tRetN, tIfS, tTest, tB, tNot, tAnd, tOr, tChain, tOp, tUn, tC, tVar, tCons, tNil, tTup, tLst, tAsg, gName, gTup, gCons, gNil, gSub, tDrop, tCallS, tCB, tM1, tM0, tBM, tBM0, tSl, tPar, tFor_eq, tLc_eq, intU_int, intU_bl, iList, iTup, iEnumT, tDNewK, rSlT, rSlL, iRng1, iRng2, iStr, tThen, tNever, L2.start, tRaiseFile, tMkFile, tYes, tPart, tNoPart, addA_int, addA_str, addU_int, addU_str, addU_ref, subU_int, mulU_int, mulU_ref, fdvU_int, modU_int, powU_int, ltU_int, leU_int, gtU_int, geU_int, eqU_int, eqU_str, eqU_bl, neU_int, neU_str, neU_bl, WE, TruV, tDIn, tDNotIn, sDDel, tDSetd, tDPop1, tLock, tLockE, tLk, tLockA, tLockEA, iKeys, List.map, List.length_cons, List.length_nil, List.replicate, List.append, List.getElem?_cons_zero, List.getElem?_cons_succ, List.set_cons_zero, List.set_cons_succ, List.cons_append, List.nil_append, Option.some.injEq, V.int.injEq, V.str.injEq, V.bl.injEq, V.ref.injEq, List.cons.injEq, exists_eq_left, exists_eq_right, and_true, true_and, and_self, exists_eq, exists_const, Bool.not_true, Bool.not_false, Bool.false_eq_true, if_true, if_false, reduceIte, decide_eq_true_eq, bne_iff_ne, exists_eq_left', exists_eq', exists_and_left, Bool.not_eq_true', decide_eq_false_iff_not, Nat.reduceSub, Nat.reduceAdd, reduceCtorEq, false_and, or_false, false_or, exists_false]
      refine setL_at upd_same rfl (by rfl) ?_; try simp only [cx_K, gcx_K, lcx_K, LenV, rLenU, tTruU, kTup, tFld, sFld, sFldAug, tMet, tMake, tBM, tDGet, tDGet1, tDGet2, sDPut, tRevL, iEnum, tAug, tAsg, mulV_int, iaddU_int, isubU_int, iaddU_str, tTupL, ex2eq, not_true_eq_false, not_false_eq_true, LamX.tLam, LamX.TTold, tSeq, tIf, tNext, tRet, tRetN, tIfS, tTest, tB, tNot, tAnd, tOr, tChain, tOp, tUn, tC, tVar, tCons, tNil, tTup, tLst, tAsg, gName, gTup, gCons, gNil, gSub, tDrop, tCallS, tCB, tM1, tM0, tBM, tBM0, tSl, tPar, tFor_eq, tLc_eq, intU_int, intU_bl, iList, iTup, iEnumT, tDNewK, rSlT, rSlL, iRng1, iRng2, iStr, tThen, tNever, L2.start, tRaiseFile, tMkFile, tYes, tPart, tNoPart, addA_int, addA_str, addU_int, addU_str, addU_ref, subU_int, mulU_int, mulU_ref, fdvU_int, modU_int, powU_int, ltU_int, leU_int, gtU_int, geU_int, eqU_int, eqU_str, eqU_bl, neU_int, neU_str, neU_bl, WE, TruV, tDIn, tDNotIn, sDDel, tDSetd, tDPop1, tLock, tLockE, tLk, tLockA, tLockEA, iKeys, List.map, List.length_cons, List.length_nil, List.replicate, List.append, List.getElem?_cons_zero, List.getElem?_cons_succ, List.set_cons_zero, List.set_cons_succ, List.cons_append, List.nil_append, Option.some.injEq, V.int.injEq, V.str.injEq, V.bl.injEq, V.ref.injEq, List.cons.injEq, exists_eq_left, exists_eq_right, and_true, true_and, and_self, exists_eq, exists_const, Bool.not_true, Bool.not_false, Bool.false_eq_true, if_true, if_false, reduceIte, decide_eq_true_eq, bne_iff_ne, exists_eq_left', exists_eq', exists_and_left, Bool.not_eq_true', decide_eq_false_iff_not, Nat.reduceSub, Nat.reduceAdd, reduceCtorEq, false_and, or_false, false_or, exists_false]
      refine rIx_lst (lst_at upd_same) (by rfl) ?_; try simp only [cx_K, gcx_K, lcx_K, LenV, rLenU, tTruU, kTup, tFld, sFld, sFldAug, tMet, tMake, tBM, tDGet, tDGet1, tDGet2, sDPut, tRevL, iEnum, tAug, tAsg, mulV_int, iaddU_int, isubU_int, iaddU_str, tTupL, ex2eq, not_true_eq_false, not_false_eq_true, LamX.tLam, LamX.TTold, tSeq, tIf, tNext, tRet, tRetN, tIfS, tTest, tB, tNot, tAnd, tOr, tChain, tOp, tUn, tC, tVar, tCons, tNil, tTup, tLst, tAsg, gName, gTup, gCons, gNil, gSub, tDrop, tCallS, tCB, tM1, tM0, tBM, tBM0, tSl, tPar, tFor_eq, tLc_eq, intU_int, intU_bl, iList, iTup, iEnumT, tDNewK, rSlT, rSlL, iRng1, iRng2, iStr, tThen, tNever, L2.start, tRaiseFile, tMkFile, tYes, tPart, tNoPart, addA_int, addA_str, addU_int, addU_str, addU_ref, subU_int, mulU_int, mulU_ref, fdvU_int, modU_int, powU_int, ltU_int, leU_int, gtU_int, geU_int, eqU_int, eqU_str, eqU_bl, neU_int, neU_str, neU_bl, WE, TruV, tDIn, tDNotIn, sDDel, tDSetd, tDPop1, tLock, tLockE, tLk, tLockA, tLockEA, iKeys, List.map, List.length_cons, List.length_nil, List.replicate, List.append, List.getElem?_cons_zero, List.getElem?_cons_succ, List.set_cons_zero, List.set_cons_succ, List.cons_append, List.nil_append, Option.some.injEq, V.int.injEq, V.str.injEq, V.bl.injEq, V.ref.injEq, List.cons.injEq, exists_eq_left, exists_eq_right, and_true, true_and, and_self, exists_eq, exists_const, Bool.not_true, Bool.not_false, Bool.false_eq_true, if_true, if_false, reduceIte, decide_eq_true_eq, bne_iff_ne, exists_eq_left', exists_eq', exists_and_left, Bool.not_eq_true', decide_eq_false_iff_not, Nat.reduceSub, Nat.reduceAdd, reduceCtorEq, false_and, or_false, false_or, exists_false]
      exact ⟨⟨by decide, by decide⟩, h1, hfin _ _ _ _ _ (hm0 _) (hm1 _) (((hput ha).trans (hput upd_same)).trans (hput upd_same)) upd_same⟩
def spRounds (K : PySem.W.Frag) (TL : List (Addr × Str)) (GT : List Addr) : Sp := fun vs H Q E => ∃ (p : Addr) (ns : List Int), vs = [.ref p, .int 1] ∧ SqL K H p (ns.map V.int) ∧
  ∀ q r x y z H', Ex [] TL GT H H' → H' q = some (.lst [.ref r]) → H' r = some (.lst [.int x, .int y, .int z]) → Q (.ref q) H'
theorem c_law_rounds (T : KL.Txt P w K mg base CL PE TL GT) : Cal P w K mg base 5 "_law_rounds" (spRounds K TL GT) := by
  have c_law_dice := c_law_dice T
  obtain ⟨f, fd, c, D⟩ := T.d_rounds
  refine D.ok (N := ["script", "most", "cells", "cell"]) (ps := ["script", "most"]) ⟨rfl, rfl, rfl, by decide +kernel, rfl, by decide +kernel, by decide +kernel⟩ (fun vs H Q E h => by first | (obtain ⟨_, rfl, _⟩ := h; rfl) | (obtain ⟨_, _, rfl, _⟩ := h; rfl) | (obtain ⟨_, _, _, rfl, _⟩ := h; rfl) | (obtain ⟨_, _, _, _, rfl, _⟩ := h; rfl) | (obtain ⟨_, _, _, _, _, rfl, _⟩ := h; rfl) | (obtain ⟨_, _, _, _, _, _, rfl, _⟩ := h; rfl) | (obtain ⟨_, _, _, _, _, _, _, rfl, _⟩ := h; rfl) | (obtain ⟨_, _, _, _, _, _, _, _, rfl, _⟩ := h; rfl) | (obtain ⟨_, _, _, _, _, _, _, _, _, rfl, _⟩ := h; rfl) | (obtain ⟨_, _, _, _, _, _, _, _, _, _, rfl, _⟩ := h; rfl) | (obtain ⟨_, _, _, _, _, _, _, _, _, _, _, rfl, _⟩ := h; rfl) | (obtain ⟨_, _, _, _, _, _, _, _, _, _, _, _, rfl, _⟩ := h; rfl) | (obtain ⟨_, _, _, _, _, _, _, _, _, _, _, _, _, rfl, _⟩ := h; rfl) | (obtain ⟨_, _, _, _, _, _, _, _, _, _, _, _, _, _, rfl, _⟩ := h; rfl) | (obtain ⟨_, _, _, _, _, _, _, _, _, _, _, _, _, _, _, rfl, _⟩ := h; rfl) | (obtain ⟨rfl, _⟩ := h; rfl)) (fun _ _ _ _ _ _ us hl => match us, hl with | [_, _], _ => rfl) (fun A outer s H vs Q E hr h => ?_)
  have nd : (["script", "most", "cells", "cell"] : List Str).Nodup := by decide
  refine mk_ex (pss_cons (ps_set (i := 2) nd rfl (Or.inl rfl) (pe_slice (slK (K := K) (r := rSlL) sl_list rfl) (pv 0) po_none (po_some (pv 1))))
    (pss_cons (ps_if (pt_cmpR (opK (K := K) (r := rEqU) (opU_eq (roomEq hr)) rfl) (pv 2) (pe_lst pa_nil) (nomark _)) (pss_one (ps_set (i := 2) nd rfl (Or.inl rfl) (pe_lst (pa_cons pe_int pa_nil)))) pss_nil)
    (pss_one (ps_ret (pe_lc rfl nd (ilK (K := K) rfl (pi_list (pv 2))) (show BlkOk ["script", "most", "cells", "cell"] (defScope (top 8)) _ [("cell", 3)] from blkOk_by (by decide +kernel)) (fun s H C cl fp => (pg_name (i := 3) nd rfl (Or.inl rfl))) (fun s H C cl fp => pts_nil) (fun s H C cl fp => (GX.pe_call c_law_dice (hr.mono (by decide)) takes0 (by exact (pa_cons (pv 3) pa_nil))))))))) ?_
  obtain ⟨p, ns, rfl, hs, h⟩ := h
  simp only [cx_K, gcx_K, lcx_K, LenV, rLenU, tTruU, kTup, tFld, sFld, sFldAug, tMet, tMake, tBM, tDGet, tDGet1, tDGet2, sDPut, tRevL, iEnum, tAug, tAsg, mulV_int, iaddU_int, isubU_int, iaddU_str, tTupL, ex2eq, not_true_eq_false, not_false_eq_true, LamX.tLam, LamX.TTold, tSeq, tIf, tNext, tRet, tRetN, tIfS, tTest, tB, tNot, tAnd, tOr, tChain, tOp, tUn, tC, tVar, tCons, tNil, tTup, tLst, tAsg, gName, gTup, gCons, gNil, gSub, tDrop, tCallS, tCB, tM1, tM0, tBM, tBM0, tSl, tPar, tFor_eq, tLc_eq, intU_int, intU_bl, iList, iTup, iEnumT, tDNewK, rSlT, rSlL, iRng1, iRng2, iStr, tThen, tNever, L2.start, tRaiseFile, tMkFile, tYes, tPart, tNoPart, addA_int, addA_str, addU_int, addU_str, addU_ref, subU_int, mulU_int, mulU_ref, fdvU_int, modU_int, powU_int, ltU_int, leU_int, gtU_int, geU_int, eqU_int, eqU_str, eqU_bl, neU_int, neU_str, neU_bl, WE, TruV, tDIn, tDNotIn, sDDel, tDSetd, tDPop1, tLock, tLockE, tLk, tLockA, tLockEA, iKeys, List.map, List.length_cons, List.length_nil, List.replicate, List.append, List.getElem?_cons_zero, List.getElem?_cons_succ, List.set_cons_zero, List.set_cons_succ, List.cons_append, List.nil_append, Option.some.injEq, V.int.injEq, V.str.injEq, V.bl.injEq, V.ref.injEq, List.cons.injEq, exists_eq_left, exists_eq_right, and_true, true_and, and_self, exists_eq, exists_const, Bool.not_true, Bool.not_false, Bool.false_eq_true, if_true, if_false, reduceIte, decide_eq_true_eq, bne_iff_ne, exists_eq_left', exists_eq', exists_and_left, Bool.not_eq_true', decide_eq_false_iff_not, Nat.reduceSub, Nat.reduceAdd, reduceCtorEq, false_and, or_false, false_or, exists_false]
  have hL : ∀ (H0 : Hp) (a D : Addr) (n : Int) (σ : L2.St), Ex [] TL GT H H0 → SqL K H0 a [V.int n] → H0 D = none → (∃ v0 v1 v2 v3, σ = [v0, v1, v2, v3]) →
      LcLoop (gName 3) tYes (tCallS (spDice TL GT) (WE fun _ _ _ _ => False) (tCons (tVar 3) tNil)) [3] (Itl K a) σ H0 D (Q (.ref D)) := by
    rintro H0 a D n σ e0 ha hD ⟨v0, v1, v2, v3, rfl⟩
    refine lcl_list (xs := [V.int n]) (fun i H' => Ex [] TL GT H0 H' ∧ (i = 0 → H' D = some (.lst [])) ∧ (i = 1 → ∃ r x y z, H' D = some (.lst [.ref r]) ∧ H' r = some (.lst [.int x, .int y, .int z]))) ⟨Ex.new hD, fun _ => upd_same, by simp⟩ (fun i H' _ e => e.1.sql (by simp) ha) ?_ ?_
    · rintro i x H' hx ⟨e, k0, k1⟩
      match i, hx with
      | 0, hx =>
        obtain rfl : V.int n = x := Option.some.inj hx
        simp only [cx_K, gcx_K, lcx_K, LenV, rLenU, tTruU, kTup, tFld, sFld, sFldAug, tMet, tMake, tBM, tDGet, tDGet1, tDGet2, sDPut, tRevL, iEnum, tAug, tAsg, mulV_int, iaddU_int, isubU_int, iaddU_str, tTupL, ex2eq, not_true_eq_false, not_false_eq_true, LamX.tLam, LamX.TTold, tSeq, tIf, tNext, tRet, tRetN, tIfS, tTest, tB, tNot, tAnd, tOr, tChain, tOp, tUn, tC, tVar, tCons, tNil, tTup, tLst, tAsg, gName, gTup, gCons, gNil, gSub, tDrop, tCallS, tCB, tM1, tM0, tBM, tBM0, tSl, tPar, tFor_eq, tLc_eq, intU_int, intU_bl, iList, iTup, iEnumT, tDNewK, rSlT, rSlL, iRng1, iRng2, iStr, tThen, tNever, L2.start, tRaiseFile, tMkFile, tYes, tPart, tNoPart, addA_int, addA_str, addU_int, addU_str, addU_ref, subU_int, mulU_int, mulU_ref, fdvU_int, modU_int, powU_int, ltU_int, leU_int, gtU_int, geU_int, eqU_int, eqU_str, eqU_bl, neU_int, neU_str, neU_bl, WE, TruV, tDIn, tDNotIn, sDDel, tDSetd, tDPop1, tLock, tLockE, tLk, tLockA, tLockEA, iKeys, List.map, List.length_cons, List.length_nil, List.replicate, List.append, List.getElem?_cons_zero, List.getElem?_cons_succ, List.set_cons_zero, List.set_cons_succ, List.cons_append, List.nil_append, Option.some.injEq, V.int.injEq, V.str.injEq, V.bl.injEq, V.ref.injEq, List.cons.injEq, exists_eq_left, exists_eq_right, and_true, true_and, and_self, exists_eq, exists_const, Bool.not_true, Bool.not_false, Bool.false_eq_true, if_true, if_false, reduceIte, decide_eq_true_eq, bne_iff_ne, exists_eq_left', exists_eq', exists_and_left, Bool.not_eq_true', decide_eq_false_iff_not, Nat.reduceSub, Nat.reduceAdd, reduceCtorEq, false_and, or_false, false_or, exists_false, wipe]
        refine ⟨n, rfl, fun q x y z H2 e2 h2 => ⟨_, e2.lst (by simp) (k0 rfl), by rw [sizeLine_eq]; decide, (e.trans e2).overL hD (e2.lst (by simp) (k0 rfl)), by simp, fun _ => ⟨q, upd_same, x, y, z, ?_⟩⟩⟩
        have nd : q ≠ D := fun z => by
          have w := e2.lst (by simp) (k0 rfl)
          rw [← z, h2] at w
          cases w
        rw [upd_ne nd]
        exact h2
    · rintro H' ⟨e, k0, k1⟩
      obtain ⟨r, x, y, z, h1, h2⟩ := k1 rfl
      exact h D r x y z H' (e0.trans e) h1 h2
  match ns, hs with
  | [], hs =>
    refine ⟨[], hs, fun q hq => ?_⟩
    have eq1 : Ex [] TL GT H (upd H q (.lst [])) := Ex.new hq
    refine ⟨sz 0, fun q2 hq2 => ?_⟩
    rw [eqU_ref]
    refine ⟨.list [], .list [], .lst ((Ex.new (A := []) (TL := TL) (GT := GT) hq2).sql (by simp) (lst_at upd_same)) .nil, .lst (lst_at upd_same) .nil, rfl, rfl, true, rfl, ?_⟩
    refine ⟨sz 1, fun q3 hq3 => ⟨⟨_, lst_at upd_same⟩, fun D hD => hL _ _ _ 0 _ ((eq1.trans (Ex.new hq2)).trans (Ex.new hq3)) (lst_at upd_same) hD ⟨_, _, _, _, rfl⟩⟩⟩
  | n :: ns, hs =>
    refine ⟨_, hs, fun q hq => ?_⟩
    have ec : cutV (List.map V.int (n :: ns)) none (some 1) = [V.int n] := by
      have e0 : (List.map V.int (n :: ns)).length = ns.length + 1 := by simp
      unfold cutV
      rw [e0]
      show List.take (min (1 : Int).toNat (ns.length + 1) - 0) (List.drop 0 (V.int n :: ns.map V.int)) = _
      rw [show min (1 : Int).toNat (ns.length + 1) - 0 = 1 by show min 1 (ns.length + 1) - 0 = 1; omega]
      rfl
    rw [ec]
    have eq1 : Ex [] TL GT H (upd H q (.lst [V.int n])) := Ex.new hq
    refine ⟨sz 0, fun q2 hq2 => ?_⟩
    have hq' := (Ex.new (A := []) (TL := TL) (GT := GT) (o := .lst []) hq2).sql (K := K) (p := q) (by simp) (lst_at upd_same)
    rw [eqU_ref]
    refine ⟨.list [.int n], .list [], .lst hq' (.cons (.int n) .nil), .lst (lst_at upd_same) .nil, rfl, rfl, false, rfl, ?_⟩
    refine ⟨⟨_, hq'⟩, fun D hD => hL _ _ _ n _ (eq1.trans (Ex.new hq2)) hq' hD ⟨_, _, _, _, rfl⟩⟩
/-- the dice stand at r -/
def Dc (H : Hp) (r : Addr) : Prop := ∃ x y z, H r = some (.lst [.int x, .int y, .int z])
theorem roll_ok {H : Hp} {r : Addr} {E : XK} {m : Int} {R : VK} (s : Dc H r) (h1 : 0 < m) (h2 : m ≤ 100000000) (k : ∀ n H', 0 ≤ n → n < m → Ex [r] TL GT H H' → Dc H' r → R (.int n) H') : spRoll TL GT [.ref r, .int m] H R E := by
  obtain ⟨x, y, z, h⟩ := s
  exact ⟨r, x, y, z, m, rfl, h, h1, h2, fun n x' y' z' H' a b e hh => k n H' a b e ⟨x', y', z', hh⟩⟩
end
end KL
end
section
set_option Elab.async false
set_option linter.all false
set_option maxRecDepth 100000
set_option maxHeartbeats 2000000
set_option pp.maxSteps 900
namespace KL
open PySem PySem.Spec PyProof.Rows L2 GX
section
variable {P : Program} {w : World} {K : PySem.W.Frag} {mg : Str → Option Value} {base : Heap} {CL PE : Addr} {TL : List (Addr × Str)} {GT : List Addr} {H H' : Hp} {h q l s dx : Addr} {hs : List (Str × Addr × Tab)} {qs : List (Addr × Row)} {v : Lk} {F A : List Addr}
/-- the law's own state -/
structure SA (K : PySem.W.Frag) (H : Hp) (s h q : Addr) (hs : List (Str × Addr × Tab)) (qs : List (Addr × Row)) : Prop where
  hsd : H s = some (.dK [(.inr "held", .ref h), (.inr "queue", .ref q)])
  co : Co K H h q hs qs
  nn : s ∉ fpOf h q hs
theorem SA.keep (C : SA K H s h q hs qs) (e : Ex A TL GT H H') (hA : ∀ a ∈ s :: fpOf h q hs, a ∉ A) : SA K H' s h q hs qs :=
  ⟨e.ext _ _ (hA s (by simp)) C.hsd (fun _ z => by cases z), C.co.keep e fun a ha => hA a (List.mem_cons_of_mem _ ha), C.nn⟩
theorem SA.live (C : SA K H s h q hs qs) : ∀ a ∈ s :: fpOf h q hs, ∃ o, H a = some o ∧ isMut o = true := by
  intro a ha
  simp only [fpOf, List.mem_cons, List.mem_map] at ha
  rcases ha with rfl | rfl | rfl | ⟨e, he, rfl⟩
  · exact ⟨_, C.hsd, rfl⟩
  · exact ⟨_, C.co.hh, rfl⟩
  · exact ⟨_, C.co.hq, rfl⟩
  · exact ⟨_, C.co.ht e he, rfl⟩
theorem SA.notin {a : Addr} (C : SA K H s h q hs qs) (e : H a = none) : a ∉ s :: fpOf h q hs := fun z => by
  obtain ⟨o, e2, _⟩ := C.live a z
  rw [e] at e2; cases e2
theorem SA.gh (C : SA K H s h q hs qs) : DGet H s (.str ("held" : Str)) (some (.ref h)) := .inl ⟨_, .inr "held", .inl C.hsd, rfl, rfl⟩
theorem SA.gq (C : SA K H s h q hs qs) : DGet H s (.str ("queue" : Str)) (some (.ref q)) := .inl ⟨_, .inr "queue", .inl C.hsd, rfl, by rw [valV_neg (fun z => absurd (Sum.inr.inj z) (by decide)), valV_pos rfl]⟩
theorem in_alone (a b : Bool) : inV (.str ("alone" : Str)) [.str (hw a), .str (hw b)] = (a || b) := by cases a <;> cases b <;> decide +kernel
def nameL (l : List Row) (n : Str) : List Int := (l.filter fun r => decide (r.2.1 = n)).map (·.1)
def mineL : List Row → Int → Nat → List Int
  | [], _, _ => []
  | r :: rs, who, i => if r.1 = who then (i : Int) :: mineL rs who (i + 1) else mineL rs who (i + 1)
theorem mine_none : ∀ {rows : List Row} {who : Int} {n : Str} {i : Nat}, mineL rows who i = [] → aheadL rows who n = nameL rows n
  | [], _, _, _, _ => rfl
  | r :: rs, who, n, i, h => by
    unfold mineL at h
    split at h
    · cases h
    · rename_i z
      unfold aheadL nameL
      rw [if_neg z, mine_none h]
      by_cases y : r.2.1 = n
      · rw [if_pos y, List.filter_cons_of_pos (by simpa using y)]; rfl
      · rw [if_neg y, List.filter_cons_of_neg (by simpa using y)]; rfl
theorem mine_some : ∀ {rows : List Row} {who : Int} {n : Str} {i : Nat} {m : Int} {ms : List Int}, mineL rows who i = m :: ms → ∃ j : Nat, m = ((i + j : Nat) : Int) ∧ j ≤ rows.length ∧ aheadL rows who n = nameL (rows.take j) n
  | [], _, _, _, _, _, h => by cases h
  | r :: rs, who, n, i, m, ms, h => by
    unfold mineL at h
    split at h
    · rename_i z
      refine ⟨0, (List.cons.inj h).1.symm, Nat.zero_le _, ?_⟩
      unfold aheadL
      rw [if_pos z]; rfl
    · rename_i z
      obtain ⟨j, h1, h2, h3⟩ := mine_some (n := n) h
      refine ⟨j + 1, by rw [h1]; congr 1; omega, by rw [List.length_cons]; omega, ?_⟩
      unfold aheadL
      rw [if_neg z, h3, List.take_succ_cons]
      unfold nameL
      by_cases y : r.2.1 = n
      · rw [if_pos y, List.filter_cons_of_pos (by simpa using y)]; rfl
      · rw [if_neg y, List.filter_cons_of_neg (by simpa using y)]
theorem mineL_len : ∀ (rows : List Row) (who : Int) (i : Nat), (mineL rows who i).length ≤ rows.length
  | [], _, _ => Nat.le_refl _
  | r :: rs, who, i => by
    have := mineL_len rs who (i + 1)
    unfold mineL
    split
    · rw [List.length_cons, List.length_cons]; omega
    · rw [List.length_cons]; omega
theorem nameL_len (rows : List Row) (n : Str) : (nameL rows n).length ≤ rows.length := by
  unfold nameL
  rw [List.length_map]; exact List.length_filter_le _ _
theorem lcl_enum {a : Addr} {xs : List V} {g : TG} {σ : L2.St} {tt : TT} {te : TE} {vs : List Nat} {H1 : Hp} {D : Addr} {Qd : Hp → Prop} (Pv : Nat → Hp → Prop) (h0 : Pv 0 (upd H1 D (.lst []))) (hl : ∀ i H, i ≤ xs.length → Pv i H → SqL K H a xs)
    (hs : ∀ i x H T, xs[i]? = some x → Pv i H → H T = none → g (.ref T) (wipe σ vs) (upd H T (.tup [.int (i : Nat), x])) fun σ2 H2 => wipe σ2 vs = wipe σ vs ∧ tt σ2 H2 fun b H3 =>
      if b = true then te σ2 H3 fun y H4 => ∃ acc, H4 D = some (.lst acc) ∧ acc.length < sizeLine ∧ Pv (i + 1) (upd H4 D (.lst (acc ++ [y]))) else Pv (i + 1) H3) (hd : ∀ H, Pv xs.length H → Qd H) : LcLoop g tt te vs (Ite K a) σ H1 D Qd :=
  lc_it walk_enum Pv h0 hl (fun i x H H' hi p y => by
    obtain ⟨T, x1, x2, rfl, h2, rfl, h4, h5⟩ := y
    cases h4
    exact hs i x2 H T h5 p h2) hd
theorem lc_names {Qd : Hp → Prop} {ar D2 : Addr} {rows : List (Addr × Row)} {n : Str} {v0 v1 v3 v4 v5 v6 v7 v8 v9 v10 v11 : Option V} (har : H ar = some (.lst (rows.map fun e => V.ref e.1))) (hr : ∀ e ∈ rows, SqT K H e.1 (rowV e.2)) (hz : rows.length ≤ 20) (hD : H D2 = none)
    (hq : ∀ H', Ex [] TL GT H H' → H' D2 = some (.lst ((nameL (rows.map (·.2)) n).map V.int)) → Qd H') :
    LcLoop (gName 11) (tTest (tOp (rEqU K) (tOp (rIx K) (tVar 11) (tC (V.int 1))) (tVar 2))) (tOp (rIx K) (tVar 11) (tC (V.int 0))) [11] (Itl K ar) [v0, v1, some (.str n), v3, v4, v5, v6, v7, v8, v9, v10, v11] H D2 Qd := by
  refine lcl_list (xs := rows.map fun e => V.ref e.1) (fun i H' => Ex [] TL GT H H' ∧ H' D2 = some (.lst ((nameL ((rows.map (·.2)).take i) n).map V.int))) ⟨Ex.new hD, upd_same⟩ (fun i H' _ e => lst_at (e.1.lst (by simp) har)) ?_ ?_
  · rintro i x H' hx ⟨e, hf⟩
    rw [List.getElem?_map] at hx
    cases hqi : rows[i]? with
    | none => rw [hqi] at hx; cases hx
    | some r =>
      rw [hqi] at hx
      obtain rfl : V.ref r.1 = x := Option.some.inj hx
      have hr1 := e.sqt (hr r (List.mem_of_getElem? hqi))
      simp only [cx_K, gcx_K, lcx_K, LenV, rLenU, tTruU, kTup, tFld, sFld, sFldAug, tMet, tMake, tBM, tDGet, tDGet1, tDGet2, sDPut, tRevL, iEnum, tAug, tAsg, mulV_int, iaddU_int, isubU_int, iaddU_str, tTupL, ex2eq, not_true_eq_false, not_false_eq_true, LamX.tLam, LamX.TTold, tSeq, tIf, tNext, tRet, tRetN, tIfS, tTest, tB, tNot, tAnd, tOr, tChain, tOp, tUn, tC, tVar, tCons, tNil, tTup, tLst, tAsg, gName, gTup, gCons, gNil, gSub, tDrop, tCallS, tCB, tM1, tM0, tBM, tBM0, tSl, tPar, tFor_eq, tLc_eq, intU_int, intU_bl, iList, iTup, iEnumT, tDNewK, rSlT, rSlL, iRng1, iRng2, iStr, tThen, tNever, L2.start, tRaiseFile, tMkFile, tYes, tPart, tNoPart, addA_int, addA_str, addU_int, addU_str, addU_ref, subU_int, mulU_int, mulU_ref, fdvU_int, modU_int, powU_int, ltU_int, leU_int, gtU_int, geU_int, eqU_int, eqU_str, eqU_bl, neU_int, neU_str, neU_bl, WE, TruV, tDIn, tDNotIn, sDDel, tDSetd, tDPop1, tLock, tLockE, tLk, tLockA, tLockEA, iKeys, List.map, List.length_cons, List.length_nil, List.replicate, List.append, List.getElem?_cons_zero, List.getElem?_cons_succ, List.set_cons_zero, List.set_cons_succ, List.cons_append, List.nil_append, Option.some.injEq, V.int.injEq, V.str.injEq, V.bl.injEq, V.ref.injEq, List.cons.injEq, exists_eq_left, exists_eq_right, and_true, true_and, and_self, exists_eq, exists_const, Bool.not_true, Bool.not_false, Bool.false_eq_true, if_true, if_false, reduceIte, decide_eq_true_eq, bne_iff_ne, exists_eq_left', exists_eq', exists_and_left, Bool.not_eq_true', decide_eq_false_iff_not, Nat.reduceSub, Nat.reduceAdd, reduceCtorEq, false_and, or_false, false_or, exists_false, wipe]
      have hstep : nameL ((rows.map (·.2)).take (i + 1)) n = nameL ((rows.map (·.2)).take i) n ++ (if r.2.2.1 = n then [r.2.1] else []) := by
        unfold nameL
        rw [List.take_succ, List.getElem?_map, hqi, List.filter_append, List.map_append]
        congr 1
        show (List.filter _ [r.2]).map _ = _
        rw [List.filter_cons]
        by_cases z : r.2.2.1 = n <;> simp [z]
      have hlen : (nameL ((rows.map (·.2)).take i) n).length ≤ 20 := by
        have := nameL_len ((rows.map (·.2)).take i) n
        rw [List.length_take, List.length_map] at this
        omega
      refine rIx_tup hr1 (by rfl) ?_
      try simp only [cx_K, gcx_K, lcx_K, LenV, rLenU, tTruU, kTup, tFld, sFld, sFldAug, tMet, tMake, tBM, tDGet, tDGet1, tDGet2, sDPut, tRevL, iEnum, tAug, tAsg, mulV_int, iaddU_int, isubU_int, iaddU_str, tTupL, ex2eq, not_true_eq_false, not_false_eq_true, LamX.tLam, LamX.TTold, tSeq, tIf, tNext, tRet, tRetN, tIfS, tTest, tB, tNot, tAnd, tOr, tChain, tOp, tUn, tC, tVar, tCons, tNil, tTup, tLst, tAsg, gName, gTup, gCons, gNil, gSub, tDrop, tCallS, tCB, tM1, tM0, tBM, tBM0, tSl, tPar, tFor_eq, tLc_eq, intU_int, intU_bl, iList, iTup, iEnumT, tDNewK, rSlT, rSlL, iRng1, iRng2, iStr, tThen, tNever, L2.start, tRaiseFile, tMkFile, tYes, tPart, tNoPart, addA_int, addA_str, addU_int, addU_str, addU_ref, subU_int, mulU_int, mulU_ref, fdvU_int, modU_int, powU_int, ltU_int, leU_int, gtU_int, geU_int, eqU_int, eqU_str, eqU_bl, neU_int, neU_str, neU_bl, WE, TruV, tDIn, tDNotIn, sDDel, tDSetd, tDPop1, tLock, tLockE, tLk, tLockA, tLockEA, iKeys, List.map, List.length_cons, List.length_nil, List.replicate, List.append, List.getElem?_cons_zero, List.getElem?_cons_succ, List.set_cons_zero, List.set_cons_succ, List.cons_append, List.nil_append, Option.some.injEq, V.int.injEq, V.str.injEq, V.bl.injEq, V.ref.injEq, List.cons.injEq, exists_eq_left, exists_eq_right, and_true, true_and, and_self, exists_eq, exists_const, Bool.not_true, Bool.not_false, Bool.false_eq_true, if_true, if_false, reduceIte, decide_eq_true_eq, bne_iff_ne, exists_eq_left', exists_eq', exists_and_left, Bool.not_eq_true', decide_eq_false_iff_not, Nat.reduceSub, Nat.reduceAdd, reduceCtorEq, false_and, or_false, false_or, exists_false]
      by_cases z : r.2.2.1 = n
      · rw [if_pos z]
        refine rIx_tup hr1 (by rfl) ?_
        refine ⟨_, hf, by rw [List.length_map, sizeLine_eq]; omega, e.chg hf rfl (.inr (free_none hD)), ?_⟩
        rw [upd_same, hstep, if_pos z]; simp
      · rw [if_neg z]
        exact ⟨e, by rw [hf, hstep, if_neg z, List.append_nil]⟩
  · rintro H' ⟨e, hf⟩
    rw [List.take_of_length_le (by simp)] at hf
    exact hq H' e hf
def kv1 (l : List Int) : List (Key × V) := l.map fun k => (Sum.inl k, V.int 1)
theorem lc_pairs {Qd : Hp → Prop} {ar D2 : Addr} {l : List Int} {v0 v1 v2 v3 v4 v5 v6 v7 v8 v9 v10 v11 : Option V} (har : H ar = some (.lst (l.map V.int))) (hz : l.length ≤ 60) (hD : H D2 = none)
    (hq : ∀ H' ps, Ex [] TL GT H H' → H' D2 = some (.lst (ps.map V.ref)) → Paired (fun p kv => SqT K H' p [kV kv.1, kv.2]) ps (kv1 l) → Qd H') :
    LcLoop (gName 9) tYes (tTup (tCons (tVar 9) (tCons (tC (V.int 1)) tNil))) [9] (Itl K ar) [v0, v1, v2, v3, v4, v5, v6, v7, v8, v9, v10, v11] H D2 Qd := by
  refine lcl_list (xs := l.map V.int) (fun i H' => Ex [] TL GT H H' ∧ ∃ ps, H' D2 = some (.lst (ps.map V.ref)) ∧ Paired (fun p kv => SqT K H' p [kV kv.1, kv.2]) ps (kv1 (l.take i))) ⟨Ex.new hD, [], upd_same, .nil⟩ (fun i H' _ e => lst_at (e.1.lst (by simp) har)) ?_ ?_
  · rintro i x H' hx ⟨e, ps, hf, hp⟩
    rw [List.getElem?_map] at hx
    cases hqi : l[i]? with
    | none => rw [hqi] at hx; cases hx
    | some k =>
      rw [hqi] at hx
      obtain rfl : V.int k = x := Option.some.inj hx
      simp only [cx_K, gcx_K, lcx_K, LenV, rLenU, tTruU, kTup, tFld, sFld, sFldAug, tMet, tMake, tBM, tDGet, tDGet1, tDGet2, sDPut, tRevL, iEnum, tAug, tAsg, mulV_int, iaddU_int, isubU_int, iaddU_str, tTupL, ex2eq, not_true_eq_false, not_false_eq_true, LamX.tLam, LamX.TTold, tSeq, tIf, tNext, tRet, tRetN, tIfS, tTest, tB, tNot, tAnd, tOr, tChain, tOp, tUn, tC, tVar, tCons, tNil, tTup, tLst, tAsg, gName, gTup, gCons, gNil, gSub, tDrop, tCallS, tCB, tM1, tM0, tBM, tBM0, tSl, tPar, tFor_eq, tLc_eq, intU_int, intU_bl, iList, iTup, iEnumT, tDNewK, rSlT, rSlL, iRng1, iRng2, iStr, tThen, tNever, L2.start, tRaiseFile, tMkFile, tYes, tPart, tNoPart, addA_int, addA_str, addU_int, addU_str, addU_ref, subU_int, mulU_int, mulU_ref, fdvU_int, modU_int, powU_int, ltU_int, leU_int, gtU_int, geU_int, eqU_int, eqU_str, eqU_bl, neU_int, neU_str, neU_bl, WE, TruV, tDIn, tDNotIn, sDDel, tDSetd, tDPop1, tLock, tLockE, tLk, tLockA, tLockEA, iKeys, List.map, List.length_cons, List.length_nil, List.replicate, List.append, List.getElem?_cons_zero, List.getElem?_cons_succ, List.set_cons_zero, List.set_cons_succ, List.cons_append, List.nil_append, Option.some.injEq, V.int.injEq, V.str.injEq, V.bl.injEq, V.ref.injEq, List.cons.injEq, exists_eq_left, exists_eq_right, and_true, true_and, and_self, exists_eq, exists_const, Bool.not_true, Bool.not_false, Bool.false_eq_true, if_true, if_false, reduceIte, decide_eq_true_eq, bne_iff_ne, exists_eq_left', exists_eq', exists_and_left, Bool.not_eq_true', decide_eq_false_iff_not, Nat.reduceSub, Nat.reduceAdd, reduceCtorEq, false_and, or_false, false_or, exists_false, wipe]
      refine ⟨sz 2, fun r hr => ?_⟩
      have e1 : Ex [] TL GT H' (upd H' r (.tup [V.int k, V.int 1])) := Ex.new hr
      have r1 : upd H' r (.tup [V.int k, V.int 1]) r = some (.tup [V.int k, V.int 1]) := upd_same
      have f1 := e1.lst (by simp) hf
      have p1 : Paired (fun p kv => SqT K (upd H' r (.tup [V.int k, V.int 1])) p [kV kv.1, kv.2]) ps (kv1 (l.take i)) := L2.Paired.mapP hp fun _ _ h => e1.sqt h
      have e2 := e.trans e1
      generalize upd H' r (.tup [V.int k, V.int 1]) = H1 at e1 r1 f1 p1 e2 ⊢
      have hl : ps.length ≤ 60 := by
        have := p1.length
        unfold kv1 at this
        rw [List.length_map, List.length_take] at this
        omega
      have e3 : Ex [] TL GT H (upd H1 D2 (.lst (ps.map V.ref ++ [V.ref r]))) := e2.chg f1 rfl (.inr (free_none hD))
      have e4 : Ex [D2] TL GT H1 (upd H1 D2 (.lst (ps.map V.ref ++ [V.ref r]))) := Ex.put (by simp) f1 rfl
      refine ⟨_, f1, by rw [List.length_map, sizeLine_eq]; omega, e3, ps ++ [r], by rw [upd_same, List.map_append]; rfl, ?_⟩
      unfold kv1 at p1 ⊢
      rw [List.take_succ, hqi, List.map_append]
      exact (L2.Paired.mapP p1 fun _ _ h => e4.sqt h).snoc (e4.sqt (tup_sqt r1))
  · rintro H' ⟨e, ps, hf, hp⟩
    rw [List.take_of_length_le (by simp)] at hp
    exact hq H' ps e hf hp
theorem merge_keys : ∀ (l a : List Int) (kvs : List (Key × V)), kvs.map (·.1) = a.map Sum.inl → (mergeK kvs (kv1 l)).map (·.1) = (l.foldl addI a).map Sum.inl
  | [], a, kvs, h => h
  | x :: l, a, kvs, h => by
    rw [List.foldl_cons]
    refine merge_keys l (addI a x) (putK kvs (.inl x) (.int 1)) ?_
    unfold putK addI
    have hk : (kvs.any fun kv => decide (kv.1 = .inl x)) = true ↔ x ∈ a := by
      have : (kvs.any fun kv => decide (kv.1 = .inl x)) = ((kvs.map (·.1)).any fun k => decide (k = .inl x)) := by rw [List.any_map]; rfl
      rw [this, h, List.any_map, List.any_eq_true]
      exact ⟨fun ⟨y, p, q⟩ => by
        have : y = x := by simpa using q
        rw [← this]; exact p, fun p => ⟨x, p, by simp⟩⟩
    by_cases z : x ∈ a
    · rw [if_pos (hk.mpr z), if_pos z, List.map_map, ← h]
      refine List.map_congr_left fun kv _ => ?_
      show (if kv.1 = .inl x then (kv.1, V.int 1) else kv).1 = kv.1
      split <;> rfl
    · rw [if_neg (fun y => z (hk.mp y)), if_neg z, List.map_append, List.map_append, h]; rfl
structure BdI (TL : List (Addr × Str)) (GT : List Addr) (H : Hp) (a D : Addr) (od : Obj) (t : Tab) (who : Int) (al : Bool) (i : Nat) (H' : Hp) : Prop where
  e : Ex [a] TL GT H H'
  lk : H' a = some (.frz od (.dK (tabK t)))
  f : H' D = some (.lst ((blkA (t.take i) who al).map V.int))
def spBlocked (K : PySem.W.Frag) (TL : List (Addr × Str)) (GT : List Addr) : Sp := fun vs H Q E => ∃ s who n al h q hs qs, vs = [.ref s, .int who, .str n, .str (hw al)] ∧ SA K H s h q hs qs ∧ Wf (lkOf hs qs) ∧
  ∀ a H', Ex [] TL GT H H' → H' a = some (.lst ((blk (lkOf hs qs) who n al).map V.int)) → free H a → Q (.ref a) H'
theorem c_law_blocked (T : KL.Txt P w K mg base CL PE TL GT) : Cal P w K mg base 6 "_law_blocked" (spBlocked K TL GT) := by
  obtain ⟨f, fd, c, D⟩ := T.d_blocked
  refine D.ok (N := ["state", "who", "name", "how", "held", "queue", "found", "mine", "ahead", "one", "k", "row"]) (ps := ["state", "who", "name", "how"]) ⟨rfl, rfl, rfl, by decide +kernel, rfl, by decide +kernel, by decide +kernel⟩ (fun vs H Q E h => by first | (obtain ⟨_, rfl, _⟩ := h; rfl) | (obtain ⟨_, _, rfl, _⟩ := h; rfl) | (obtain ⟨_, _, _, rfl, _⟩ := h; rfl) | (obtain ⟨_, _, _, _, rfl, _⟩ := h; rfl) | (obtain ⟨_, _, _, _, _, rfl, _⟩ := h; rfl) | (obtain ⟨_, _, _, _, _, _, rfl, _⟩ := h; rfl) | (obtain ⟨_, _, _, _, _, _, _, rfl, _⟩ := h; rfl) | (obtain ⟨_, _, _, _, _, _, _, _, rfl, _⟩ := h; rfl) | (obtain ⟨_, _, _, _, _, _, _, _, _, rfl, _⟩ := h; rfl) | (obtain ⟨_, _, _, _, _, _, _, _, _, _, rfl, _⟩ := h; rfl) | (obtain ⟨_, _, _, _, _, _, _, _, _, _, _, rfl, _⟩ := h; rfl) | (obtain ⟨_, _, _, _, _, _, _, _, _, _, _, _, rfl, _⟩ := h; rfl) | (obtain ⟨_, _, _, _, _, _, _, _, _, _, _, _, _, rfl, _⟩ := h; rfl) | (obtain ⟨_, _, _, _, _, _, _, _, _, _, _, _, _, _, rfl, _⟩ := h; rfl) | (obtain ⟨_, _, _, _, _, _, _, _, _, _, _, _, _, _, _, rfl, _⟩ := h; rfl) | (obtain ⟨rfl, _⟩ := h; rfl)) (fun _ _ _ _ _ _ us hl => match us, hl with | [_, _, _, _], _ => rfl) (fun A outer s H vs Q E hr h => ?_)
  have nd : (["state", "who", "name", "how", "held", "queue", "found", "mine", "ahead", "one", "k", "row"] : List Str).Nodup := by decide
  refine mk_ex (pss_cons (ps_asg (pe_tup (pa_cons (pe_dget2 (roomD hr) (pe_dget (roomD hr) (pv 0) pe_str (fun _ _ => rfl)) (pv 2) pe_dnewK ⟨rfl, rfl, rfl, rfl⟩) (pa_cons (pe_dget (roomD hr) (pv 0) pe_str (fun _ _ => rfl)) pa_nil))) (tupGK (K := K) rfl (pg_tup (n := 2) rfl (pgs_cons (pg_name (i := 4) nd rfl (Or.inr rfl)) (pgs_cons (pg_name (i := 5) nd rfl (Or.inl rfl)) pgs_nil)))))
    (pss_cons (ps_lockA (ps_setLc (i := 6) rfl nd rfl rfl rfl (pi_keys (pe_lk (pv 4))) (show BlkOk ["state", "who", "name", "how", "held", "queue", "found", "mine", "ahead", "one", "k", "row"] (defScope (top 10)) _ [("one", 9)] from blkOk_by (by decide +kernel)) (fun s H C cl fp => (pg_name (i := 9) nd rfl (Or.inl rfl))) (fun s H C cl fp => (pts_one (PW.pt (pw_and (pt_cmpR (opK (K := K) (r := rNeU) (opU_ne (roomEq hr)) rfl) (pv 9) (pv 1) (nomark _)) (pw_and1 (pt_cmpR (opK (K := K) (r := fun K => rIn K false) op_in_seq rfl) pe_str (pe_lst (pa_cons (pv 3) (pa_cons (pe_dget (roomD hr) (pv 4) (pv 9) (fun _ _ => rfl)) pa_nil))) rfl)))))) (fun s H C cl fp => (pv 9))))
    (pss_cons (ps_if (pt_cmp (pc_dnotin (roomD hr) (pv 1) (pv 4))) (pss_cons (ps_setLc (i := 7) rfl nd rfl rfl rfl (enumK (K := K) rfl (pi_enum rfl T.n_enumerate (pa_cons (pv 5) pa_nil))) (show BlkOk ["state", "who", "name", "how", "held", "queue", "found", "mine", "ahead", "one", "k", "row"] (defScope (top 10)) _ [("k", 10), ("row", 11)] from blkOk_by (by decide +kernel)) (fun s H C cl fp => (tupGK (K := K) rfl (pg_tup (n := 2) rfl (pgs_cons (pg_name (i := 10) nd rfl (Or.inl rfl)) (pgs_cons (pg_name (i := 11) nd rfl (Or.inl rfl)) pgs_nil))))) (fun s H C cl fp => (pts_one (pt_cmpR (opK (K := K) (r := rEqU) (opU_eq (roomEq hr)) rfl) (pe_ix (ixK (K := K) (r := rIx) ix_seq rfl) (pv 11) pe_int (fun _ _ => rfl)) (pv 1) (nomark _)))) (fun s H C cl fp => (pv 10)))
    (pss_cons (ps_set (i := 8) nd rfl (Or.inl rfl) (pe_ifExp (pt_cmpR (opK (K := K) (r := rNeU) (opU_ne (roomEq hr)) rfl) (pv 7) (pe_lst pa_nil) (nomark _)) (pe_slice (slK (K := K) (r := rSlL) sl_list rfl) (pv 5) po_none (po_some (pe_ix (ixK (K := K) (r := rIx) ix_seq rfl) (pv 7) pe_int (fun _ _ => rfl)))) (pv 5)))
    (pss_one (ps_set (i := 6) nd rfl (Or.inl rfl) (pe_op (opK (K := K) (r := rAddU) opU_add rfl) (pv 6) (pe_lc rfl nd (ilK (K := K) rfl (pi_list (pv 8))) (show BlkOk ["state", "who", "name", "how", "held", "queue", "found", "mine", "ahead", "one", "k", "row"] (defScope (top 10)) _ [("row", 11)] from blkOk_by (by decide +kernel)) (fun s H C cl fp => (pg_name (i := 11) nd rfl (Or.inl rfl))) (fun s H C cl fp => (pts_one (pt_cmpR (opK (K := K) (r := rEqU) (opU_eq (roomEq hr)) rfl) (pe_ix (ixK (K := K) (r := rIx) ix_seq rfl) (pv 11) pe_int (fun _ _ => rfl)) (pv 2) (nomark _)))) (fun s H C cl fp => (pe_ix (ixK (K := K) (r := rIx) ix_seq rfl) (pv 11) pe_int (fun _ _ => rfl))))))))) pss_nil)
    (pss_one (ps_ret (pe_callB (call_sortedDI rfl) rfl T.n_sorted rfl (by exact (pa_cons (pe_callTy (call_dictP rfl) rfl T.n_dict rfl (by exact (pa_cons (pe_lc rfl nd (ilK (K := K) rfl (pi_list (pv 6))) (show BlkOk ["state", "who", "name", "how", "held", "queue", "found", "mine", "ahead", "one", "k", "row"] (defScope (top 10)) _ [("one", 9)] from blkOk_by (by decide +kernel)) (fun s H C cl fp => (pg_name (i := 9) nd rfl (Or.inl rfl))) (fun s H C cl fp => pts_nil) (fun s H C cl fp => (pe_tup (pa_cons (pv 9) (pa_cons pe_int pa_nil))))) pa_nil))) pa_nil)))))))) ?_
  obtain ⟨s, who, n, al, h, q, hs, qs, rfl, S, W, hq⟩ := h
  simp only [cx_K, gcx_K, lcx_K, LenV, rLenU, tTruU, kTup, tFld, sFld, sFldAug, tMet, tMake, tBM, tDGet, tDGet1, tDGet2, sDPut, tRevL, iEnum, tAug, tAsg, mulV_int, iaddU_int, isubU_int, iaddU_str, tTupL, ex2eq, not_true_eq_false, not_false_eq_true, LamX.tLam, LamX.TTold, tSeq, tIf, tNext, tRet, tRetN, tIfS, tTest, tB, tNot, tAnd, tOr, tChain, tOp, tUn, tC, tVar, tCons, tNil, tTup, tLst, tAsg, gName, gTup, gCons, gNil, gSub, tDrop, tCallS, tCB, tM1, tM0, tBM, tBM0, tSl, tPar, tFor_eq, tLc_eq, intU_int, intU_bl, iList, iTup, iEnumT, tDNewK, rSlT, rSlL, iRng1, iRng2, iStr, tThen, tNever, L2.start, tRaiseFile, tMkFile, tYes, tPart, tNoPart, addA_int, addA_str, addU_int, addU_str, addU_ref, subU_int, mulU_int, mulU_ref, fdvU_int, modU_int, powU_int, ltU_int, leU_int, gtU_int, geU_int, eqU_int, eqU_str, eqU_bl, neU_int, neU_str, neU_bl, WE, TruV, tDIn, tDNotIn, sDDel, tDSetd, tDPop1, tLock, tLockE, tLk, tLockA, tLockEA, iKeys, List.map, List.length_cons, List.length_nil, List.replicate, List.append, List.getElem?_cons_zero, List.getElem?_cons_succ, List.set_cons_zero, List.set_cons_succ, List.cons_append, List.nil_append, Option.some.injEq, V.int.injEq, V.str.injEq, V.bl.injEq, V.ref.injEq, List.cons.injEq, exists_eq_left, exists_eq_right, and_true, true_and, and_self, exists_eq, exists_const, Bool.not_true, Bool.not_false, Bool.false_eq_true, if_true, if_false, reduceIte, decide_eq_true_eq, bne_iff_ne, exists_eq_left', exists_eq', exists_and_left, Bool.not_eq_true', decide_eq_false_iff_not, Nat.reduceSub, Nat.reduceAdd, reduceCtorEq, false_and, or_false, false_or, exists_false]
  refine ⟨_, S.gh, h, rfl, .inl ⟨_, .inl S.co.hh⟩, fun p hp => ?_⟩
  have e1 : Ex [] TL GT H (upd H p (.dK [])) := Ex.new hp
  have p1 : upd H p (.dK []) p = some (.dK []) := upd_same
  have S1 := S.keep e1 (fun _ _ => by simp)
  have hpF := S.notin hp
  generalize upd H p (.dK []) = H1 at e1 p1 S1 ⊢
  refine ⟨valV (kvH hs) (.inr n), .inl ⟨kvH hs, .inr n, .inl S1.co.hh, rfl, rfl⟩, _, S1.gq, sz 2, fun r hr => ?_⟩
  obtain ⟨a, hoa, haH, hQ⟩ : ∃ a, (valV (kvH hs) (.inr n)).getD (.ref p) = .ref a ∧ H1 a = some (.dK (tabK (hold (lkOf hs qs) n))) ∧ HoldQ H hs n a := by
    rw [val_hs]
    cases hf : fh hs n with
    | none => exact ⟨p, rfl, by rw [p1, hold_fh, hf]; rfl, .inr ⟨hf, hp⟩⟩
    | some e => exact ⟨e.2.1, rfl, by rw [S1.co.ht e (fh_mem hf).1, hold_fh, hf]; rfl, .inl ⟨e, hf, rfl⟩⟩
  rw [hoa]
  have e2 : Ex [] TL GT H1 (upd H1 r (.tup [V.ref a, V.ref q])) := Ex.new hr
  have r2 : upd H1 r (.tup [V.ref a, V.ref q]) r = some (.tup [V.ref a, V.ref q]) := upd_same
  have S2 := S1.keep e2 (fun _ _ => by simp)
  have ha2 : upd H1 r (.tup [V.ref a, V.ref q]) a = some (.dK (tabK (hold (lkOf hs qs) n))) := e2.ext _ _ (by simp) haH (fun _ z => by cases z)
  have e02 := e1.trans e2
  generalize upd H1 r (.tup [V.ref a, V.ref q]) = H2 at e2 r2 S2 ha2 e02 ⊢
  refine ⟨_, SqT.of r2, rfl, _, _, rfl, _, _, rfl, rfl, a, rfl, _, ha2, trivial, fun od => ⟨a, rfl, od, .inl ⟨_, upd_same, fun D hD => ?_⟩⟩⟩
  have hDa : D ≠ a := fun z => by rw [z, upd_same] at hD; cases hD
  have hD2 : H2 D = none := by rw [upd_ne hDa] at hD; exact hD
  have hDf := (e02.fresh (free_none hD2)).resolve_left (by simp)
  have hnF : H a = none ∨ ∃ o, H a = some o ∧ o = .dK (tabK (hold (lkOf hs qs) n)) := by
    rcases hQ with ⟨e, he, rfl⟩ | ⟨_, z⟩
    · exact .inr ⟨_, S.co.ht e (fh_mem he).1, by rw [hold_fh, he]; rfl⟩
    · exact .inl z
  have hz := (W.sz).2 n
  have hnk : ((hold (lkOf hs qs) n).map (·.1)).Nodup := (W.hold n).1
  generalize ht : hold (lkOf hs qs) n = t at *
  have e3 : Ex [a] TL GT H (upd H2 a (.frz od (.dK (tabK t)))) := e02.any.chg ha2 rfl (.inl (by simp))
  have a3 : upd H2 a (.frz od (.dK (tabK t))) a = some (.frz od (.dK (tabK t))) := upd_same
  generalize upd H2 a (.frz od (.dK (tabK t))) = H3 at e3 a3 hD ⊢
  refine lcl_keys (BdI TL GT H a D od t who al) ⟨e3.add hD, by rw [upd_ne hDa.symm]; exact a3, upd_same⟩ (fun i H' _ I => I.lk) ?_ ?_
  · rintro i k v0 H' hx ⟨e, lk, hf⟩
    have hx0 := hx
    unfold tabK at hx
    rw [List.getElem?_map] at hx
    cases hti : t[i]? with
    | none => rw [hti] at hx; cases hx
    | some ob =>
      rw [hti] at hx
      cases Option.some.inj hx
      simp only [cx_K, gcx_K, lcx_K, LenV, rLenU, tTruU, kTup, tFld, sFld, sFldAug, tMet, tMake, tBM, tDGet, tDGet1, tDGet2, sDPut, tRevL, iEnum, tAug, tAsg, mulV_int, iaddU_int, isubU_int, iaddU_str, tTupL, ex2eq, not_true_eq_false, not_false_eq_true, LamX.tLam, LamX.TTold, tSeq, tIf, tNext, tRet, tRetN, tIfS, tTest, tB, tNot, tAnd, tOr, tChain, tOp, tUn, tC, tVar, tCons, tNil, tTup, tLst, tAsg, gName, gTup, gCons, gNil, gSub, tDrop, tCallS, tCB, tM1, tM0, tBM, tBM0, tSl, tPar, tFor_eq, tLc_eq, intU_int, intU_bl, iList, iTup, iEnumT, tDNewK, rSlT, rSlL, iRng1, iRng2, iStr, tThen, tNever, L2.start, tRaiseFile, tMkFile, tYes, tPart, tNoPart, addA_int, addA_str, addU_int, addU_str, addU_ref, subU_int, mulU_int, mulU_ref, fdvU_int, modU_int, powU_int, ltU_int, leU_int, gtU_int, geU_int, eqU_int, eqU_str, eqU_bl, neU_int, neU_str, neU_bl, WE, TruV, tDIn, tDNotIn, sDDel, tDSetd, tDPop1, tLock, tLockE, tLk, tLockA, tLockEA, iKeys, List.map, List.length_cons, List.length_nil, List.replicate, List.append, List.getElem?_cons_zero, List.getElem?_cons_succ, List.set_cons_zero, List.set_cons_succ, List.cons_append, List.nil_append, Option.some.injEq, V.int.injEq, V.str.injEq, V.bl.injEq, V.ref.injEq, List.cons.injEq, exists_eq_left, exists_eq_right, and_true, true_and, and_self, exists_eq, exists_const, Bool.not_true, Bool.not_false, Bool.false_eq_true, if_true, if_false, reduceIte, decide_eq_true_eq, bne_iff_ne, exists_eq_left', exists_eq', exists_and_left, Bool.not_eq_true', decide_eq_false_iff_not, Nat.reduceSub, Nat.reduceAdd, reduceCtorEq, false_and, or_false, false_or, exists_false, kV, wipe]
      have hstep : blkA (t.take (i + 1)) who al = blkA (t.take i) who al ++ (if (decide (ob.1 ≠ who) && (al || ob.2)) = true then [ob.1] else []) := by
        unfold blkA
        rw [List.take_succ, hti, List.filter_append, List.map_append]
        congr 1
        rw [Option.toList_some, List.filter_cons]
        split <;> rfl
      have hlen : (blkA (t.take i) who al).length ≤ 20 := by
        have a2 := blkA_len (t.take i) who al
        rw [List.length_take] at a2
        omega
      by_cases z1 : ob.1 = who
      · rw [if_neg (by simpa using z1)]
        refine ⟨e, lk, ?_⟩
        rw [hstep, if_neg (by simp [z1]), List.append_nil]; exact hf
      · rw [if_pos z1]
        refine ⟨_, .inl ⟨tabK t, .inl ob.1, .inr ⟨od, lk⟩, rfl, (val_tab hnk (List.mem_of_getElem? hti)).symm⟩, sz 2, fun r4 hr4 => ?_⟩
        have e4 : Ex [] TL GT H' (upd H' r4 (.lst [V.str (hw al), V.str (hw ob.2)])) := Ex.new hr4
        have q4 : SqL K (upd H' r4 (.lst [V.str (hw al), V.str (hw ob.2)])) r4 [V.str (hw al), V.str (hw ob.2)] := lst_at upd_same
        have lk4 := e4.ext _ _ (by simp) lk (fun _ z => by cases z)
        have f4 := e4.lst (by simp) hf
        have e04 := e.trans e4.any
        generalize upd H' r4 (.lst [V.str (hw al), V.str (hw ob.2)]) = H4 at e4 q4 lk4 f4 e04 ⊢
        refine ⟨r4, _, rfl, .inl q4, rfl, rfl, ?_⟩
        refine ⟨_, rfl, ?_⟩
        rw [in_alone, if_neg (show ¬ (false = true) by decide)]
        by_cases z2 : (al || ob.2) = true
        · rw [if_pos z2]
          refine ⟨_, f4, by rw [List.length_map, sizeLine_eq]; omega, e04.chg f4 rfl (.inr hDf), by rw [upd_ne hDa.symm]; exact lk4, ?_⟩
          rw [upd_same, hstep, if_pos (by simp only [z2]; simpa using z1)]; simp
        · rw [if_neg z2]
          refine ⟨e04, lk4, ?_⟩
          rw [hstep, if_neg (by simp only [Bool.and_eq_true]; exact fun z => z2 z.2), List.append_nil]; exact f4
  · rintro H' ⟨e, lk, hf⟩
    refine .inr ⟨a, od, _, lk, fun o w z => ?_, ?_⟩
    · rw [ha2] at z; cases z
    have e5 : Ex [] TL GT H (upd H' a (.dK (tabK t))) := (e.unl lk (.inl (by simp))).home (by
      rcases hnF with y | ⟨o2, y, y2⟩
      · exact .inl y
      · exact .inr ⟨_, by rw [y, y2], upd_same⟩)
    have f5 : upd H' a (.dK (tabK t)) D = some (.lst ((blkA t who al).map V.int)) := by
      rw [upd_ne hDa, hf]
      show some (HO.lst ((blkA (t.take (tabK t).length) who al).map V.int)) = _
      rw [List.take_of_length_le (by unfold tabK; simp)]
    have a5 : upd H' a (.dK (tabK t)) a = some (.dK (tabK t)) := upd_same
    generalize upd H' a (.dK (tabK t)) = H5 at e5 f5 a5 ⊢
    have S5 := S.keep e5 (fun _ _ => by simp)
    try simp only [cx_K, gcx_K, lcx_K, LenV, rLenU, tTruU, kTup, tFld, sFld, sFldAug, tMet, tMake, tBM, tDGet, tDGet1, tDGet2, sDPut, tRevL, iEnum, tAug, tAsg, mulV_int, iaddU_int, isubU_int, iaddU_str, tTupL, ex2eq, not_true_eq_false, not_false_eq_true, LamX.tLam, LamX.TTold, tSeq, tIf, tNext, tRet, tRetN, tIfS, tTest, tB, tNot, tAnd, tOr, tChain, tOp, tUn, tC, tVar, tCons, tNil, tTup, tLst, tAsg, gName, gTup, gCons, gNil, gSub, tDrop, tCallS, tCB, tM1, tM0, tBM, tBM0, tSl, tPar, tFor_eq, tLc_eq, intU_int, intU_bl, iList, iTup, iEnumT, tDNewK, rSlT, rSlL, iRng1, iRng2, iStr, tThen, tNever, L2.start, tRaiseFile, tMkFile, tYes, tPart, tNoPart, addA_int, addA_str, addU_int, addU_str, addU_ref, subU_int, mulU_int, mulU_ref, fdvU_int, modU_int, powU_int, ltU_int, leU_int, gtU_int, geU_int, eqU_int, eqU_str, eqU_bl, neU_int, neU_str, neU_bl, WE, TruV, tDIn, tDNotIn, sDDel, tDSetd, tDPop1, tLock, tLockE, tLk, tLockA, tLockEA, iKeys, List.map, List.length_cons, List.length_nil, List.replicate, List.append, List.getElem?_cons_zero, List.getElem?_cons_succ, List.set_cons_zero, List.set_cons_succ, List.cons_append, List.nil_append, Option.some.injEq, V.int.injEq, V.str.injEq, V.bl.injEq, V.ref.injEq, List.cons.injEq, exists_eq_left, exists_eq_right, and_true, true_and, and_self, exists_eq, exists_const, Bool.not_true, Bool.not_false, Bool.false_eq_true, if_true, if_false, reduceIte, decide_eq_true_eq, bne_iff_ne, exists_eq_left', exists_eq', exists_and_left, Bool.not_eq_true', decide_eq_false_iff_not, Nat.reduceSub, Nat.reduceAdd, reduceCtorEq, false_and, or_false, false_or, exists_false]
    refine ⟨_, .inl ⟨tabK t, .inl who, .inl a5, rfl, rfl⟩, ?_⟩
    rw [val_key]
    have blk20 := blkA_len t who al
    have q5 : qs.length ≤ 5 := by have := W.q5; unfold lkOf at this; rw [List.length_map] at this; exact this
    have fin : ∀ (H6 : Hp) (a6 : Addr) (l6 : List Int) (v7 v8 : Option V), Ex [] TL GT H H6 → H6 a6 = some (.lst (l6.map V.int)) → l6 = blkL (lkOf hs qs) who n al → l6.length ≤ 60 →
        ((∃ xs, SqL K H6 a6 xs) ∧ ∀ (D : Addr), H6 D = none → LcLoop (gName 9) tYes (tTup (tCons (tVar 9) (tCons (tC (V.int 1)) tNil))) [9] (Itl K a6) [some (.ref s), some (.int who), some (.str n), some (.str (hw al)), some (.ref a), some (.ref q), some (.ref a6), v7, v8, none, none, none] H6 D fun H1 =>
          ∃ x, SqL K H1 D (List.map V.ref x) ∧ ∃ x_1, Paired (fun p kv => SqT K H1 p [kV kv.fst, kv.snd]) x x_1 ∧ ∀ (p : Addr), H1 p = none → ∃ x, Rd (upd H1 p (HO.dK (mergeK [] x_1))) p (HO.dK x) ∧ ∃ x_2, List.map (fun x => x.fst) x = List.map Sum.inl x_2 ∧ x_2.length < 64 ∧
            ∀ (ys : List Int) (p_1 : Addr), ys.Perm x_2 → List.Pairwise (fun x1 x2 => x1 ≤ x2) ys → upd H1 p (HO.dK (mergeK [] x_1)) p_1 = none → Q (.ref p_1) (upd (upd H1 p (HO.dK (mergeK [] x_1))) p_1 (.lst (ys.map V.int)))) := by
      intro H6 a6 l6 v7 v8 e6 h6 hl6 hz6
      refine ⟨⟨_, lst_at h6⟩, fun D6 hD6 => lc_pairs (TL := TL) (GT := GT) h6 hz6 hD6 fun H7 ps e7 hf7 hp7 => ⟨ps, lst_at hf7, _, hp7, fun r hr => ⟨_, .inl upd_same, ded l6, merge_keys l6 [] [] rfl, by have := ded_len l6; omega, fun ys r2 hy1 hy2 hr2 => ?_⟩⟩⟩
      have e8 := (e6.trans e7).add (o := .dK (mergeK [] (kv1 l6))) hr
      refine hq r2 _ (e8.add hr2) ?_ ((e8.fresh (free_none hr2)).resolve_left (by simp))
      rw [upd_same, srt_eq hy2 hy1, hl6]; rfl
    cases hk : keyI t who with
    | true =>
      rw [if_neg (by decide)]
      exact fin H5 D _ none none e5 f5 (by unfold blkL; rw [ht, hk, if_pos rfl, List.append_nil]) (by omega)
    | false =>
      rw [if_pos rfl]
      refine ⟨_, lst_at S5.co.hq, fun D2 hD2 => ?_⟩
      have hD2f := free_none hD2
      refine lcl_enum (xs := qs.map fun e => V.ref e.1) (fun i H' => Ex [] TL GT H5 H' ∧ ∃ fo : List Int, H' D2 = some (.lst (fo.map V.int)) ∧ fo ++ mineL ((qs.map (·.2)).drop i) who i = mineL (qs.map (·.2)) who 0) ⟨Ex.new hD2, [], upd_same, rfl⟩ (fun i H' _ e => lst_at (S5.keep e.1 (fun _ _ => by simp)).co.hq) ?_ ?_
      · rintro i x H' TT hx ⟨e, fo, h3, h4⟩ hTT
        rw [List.getElem?_map] at hx
        cases hqi : qs[i]? with
        | none => rw [hqi] at hx; cases hx
        | some ar =>
          rw [hqi] at hx
          obtain rfl : V.ref ar.1 = x := Option.some.inj hx
          have e6 : Ex [] TL GT H' (upd H' TT (.tup [.int (i : Nat), V.ref ar.1])) := Ex.new hTT
          have t6 : upd H' TT (.tup [.int (i : Nat), V.ref ar.1]) TT = some (.tup [.int (i : Nat), V.ref ar.1]) := upd_same
          have h6 := e6.lst (by simp) h3
          have S6 := S5.keep (e.trans e6) (fun _ _ => by simp)
          have e56 := e.trans e6
          generalize upd H' TT (.tup [.int (i : Nat), V.ref ar.1]) = H6 at e6 t6 h6 S6 e56 ⊢
          have hr := S6.co.hrT ar (List.mem_of_getElem? hqi)
          have hd := drop_at (qs.map (·.2)) (by rw [List.getElem?_map, hqi]; rfl)
          have hlen := mineL_len (qs.map (·.2)) who 0
          rw [← h4, List.length_append, List.length_map] at hlen
          rw [hd, mineL] at h4
          simp only [cx_K, gcx_K, lcx_K, LenV, rLenU, tTruU, kTup, tFld, sFld, sFldAug, tMet, tMake, tBM, tDGet, tDGet1, tDGet2, sDPut, tRevL, iEnum, tAug, tAsg, mulV_int, iaddU_int, isubU_int, iaddU_str, tTupL, ex2eq, not_true_eq_false, not_false_eq_true, LamX.tLam, LamX.TTold, tSeq, tIf, tNext, tRet, tRetN, tIfS, tTest, tB, tNot, tAnd, tOr, tChain, tOp, tUn, tC, tVar, tCons, tNil, tTup, tLst, tAsg, gName, gTup, gCons, gNil, gSub, tDrop, tCallS, tCB, tM1, tM0, tBM, tBM0, tSl, tPar, tFor_eq, tLc_eq, intU_int, intU_bl, iList, iTup, iEnumT, tDNewK, rSlT, rSlL, iRng1, iRng2, iStr, tThen, tNever, L2.start, tRaiseFile, tMkFile, tYes, tPart, tNoPart, addA_int, addA_str, addU_int, addU_str, addU_ref, subU_int, mulU_int, mulU_ref, fdvU_int, modU_int, powU_int, ltU_int, leU_int, gtU_int, geU_int, eqU_int, eqU_str, eqU_bl, neU_int, neU_str, neU_bl, WE, TruV, tDIn, tDNotIn, sDDel, tDSetd, tDPop1, tLock, tLockE, tLk, tLockA, tLockEA, iKeys, List.map, List.length_cons, List.length_nil, List.replicate, List.append, List.getElem?_cons_zero, List.getElem?_cons_succ, List.set_cons_zero, List.set_cons_succ, List.cons_append, List.nil_append, Option.some.injEq, V.int.injEq, V.str.injEq, V.bl.injEq, V.ref.injEq, List.cons.injEq, exists_eq_left, exists_eq_right, and_true, true_and, and_self, exists_eq, exists_const, Bool.not_true, Bool.not_false, Bool.false_eq_true, if_true, if_false, reduceIte, decide_eq_true_eq, bne_iff_ne, exists_eq_left', exists_eq', exists_and_left, Bool.not_eq_true', decide_eq_false_iff_not, Nat.reduceSub, Nat.reduceAdd, reduceCtorEq, false_and, or_false, false_or, exists_false, wipe]
          refine ⟨_, tup_sqt t6, rfl, _, _, rfl, _, _, rfl, rfl, ?_⟩
          refine rIx_tup hr (by rfl) ?_
          try simp only [cx_K, gcx_K, lcx_K, LenV, rLenU, tTruU, kTup, tFld, sFld, sFldAug, tMet, tMake, tBM, tDGet, tDGet1, tDGet2, sDPut, tRevL, iEnum, tAug, tAsg, mulV_int, iaddU_int, isubU_int, iaddU_str, tTupL, ex2eq, not_true_eq_false, not_false_eq_true, LamX.tLam, LamX.TTold, tSeq, tIf, tNext, tRet, tRetN, tIfS, tTest, tB, tNot, tAnd, tOr, tChain, tOp, tUn, tC, tVar, tCons, tNil, tTup, tLst, tAsg, gName, gTup, gCons, gNil, gSub, tDrop, tCallS, tCB, tM1, tM0, tBM, tBM0, tSl, tPar, tFor_eq, tLc_eq, intU_int, intU_bl, iList, iTup, iEnumT, tDNewK, rSlT, rSlL, iRng1, iRng2, iStr, tThen, tNever, L2.start, tRaiseFile, tMkFile, tYes, tPart, tNoPart, addA_int, addA_str, addU_int, addU_str, addU_ref, subU_int, mulU_int, mulU_ref, fdvU_int, modU_int, powU_int, ltU_int, leU_int, gtU_int, geU_int, eqU_int, eqU_str, eqU_bl, neU_int, neU_str, neU_bl, WE, TruV, tDIn, tDNotIn, sDDel, tDSetd, tDPop1, tLock, tLockE, tLk, tLockA, tLockEA, iKeys, List.map, List.length_cons, List.length_nil, List.replicate, List.append, List.getElem?_cons_zero, List.getElem?_cons_succ, List.set_cons_zero, List.set_cons_succ, List.cons_append, List.nil_append, Option.some.injEq, V.int.injEq, V.str.injEq, V.bl.injEq, V.ref.injEq, List.cons.injEq, exists_eq_left, exists_eq_right, and_true, true_and, and_self, exists_eq, exists_const, Bool.not_true, Bool.not_false, Bool.false_eq_true, if_true, if_false, reduceIte, decide_eq_true_eq, bne_iff_ne, exists_eq_left', exists_eq', exists_and_left, Bool.not_eq_true', decide_eq_false_iff_not, Nat.reduceSub, Nat.reduceAdd, reduceCtorEq, false_and, or_false, false_or, exists_false]
          by_cases z : ar.2.1 = who
          · rw [if_pos z] at h4 ⊢
            refine ⟨_, h6, by rw [List.length_map, sizeLine_eq]; omega, e56.chg h6 rfl (.inr hD2f), fo ++ [(i : Int)], by rw [upd_same, List.map_append]; rfl, by rw [List.append_assoc]; exact h4⟩
          · rw [if_neg z] at h4 ⊢
            exact ⟨e56, fo, h6, h4⟩
      · rintro H' ⟨e, fo, h3, h4⟩
        rw [List.length_map, List.drop_eq_nil_of_le (by simp), mineL, List.append_nil] at h4
        have S6 := S5.keep e (fun _ _ => by simp)
        refine ⟨Nat.zero_le _, fun p6 hp6 => ?_⟩
        have e6 : Ex [] TL GT H' (upd H' p6 (.lst [])) := Ex.new hp6
        have h6 := e6.lst (by simp) h3
        have q6 : upd H' p6 (.lst []) p6 = some (.lst (([] : List Int).map V.int)) := upd_same
        have S7 := S6.keep e6 (fun _ _ => by simp)
        have e57 := e.trans e6
        have f7 := e57.lst (by simp) f5
        generalize upd H' p6 (.lst []) = H7 at e6 h6 q6 S7 e57 f7 ⊢
        refine ne_lstI (lst_at h6) (lst_at q6) ⟨_, rfl, ?_⟩
        have hD7 : ∀ (H8 : Hp) (D3 p8 : Addr) (l8 : List Int), Ex [] TL GT H7 H8 → H8 D3 = some (.lst (l8.map V.int)) → aheadL (qs.map (·.2)) who n = l8 → l8.length ≤ 20 → ∀ r9, H8 r9 = none → Ex [] TL GT H (upd H8 r9 (.lst ((blkA t who al).map V.int ++ l8.map V.int))) ∧ upd H8 r9 (.lst ((blkA t who al).map V.int ++ l8.map V.int)) r9 = some (.lst ((blkA t who al ++ l8).map V.int)) ∧ blkA t who al ++ l8 = blkL (lkOf hs qs) who n al ∧ (blkA t who al ++ l8).length ≤ 60 := by
          intro H8 D3 p8 l8 e8 h8 hl8 hz8 r9 hr9
          refine ⟨((e5.trans e57).trans e8).add hr9, by rw [upd_same, List.map_append], ?_, by rw [List.length_append]; omega⟩
          unfold blkL
          rw [ht, hk, if_neg (by decide), ← hl8]; rfl
        by_cases hfo : fo = []
        · subst hfo
          rw [if_neg (by simp)]
          refine ⟨⟨_, lst_at S7.co.hq⟩, fun D3 hD3 => lc_names (TL := TL) (GT := GT) S7.co.hq S7.co.hrT (by omega) hD3 fun H8 e8 h8 => ?_⟩
          have hl8 : (nameL (qs.map (·.2)) n).length ≤ 20 := by have := nameL_len (qs.map (·.2)) n; rw [List.length_map] at this; omega
          refine .inr ⟨D, D3, _, _, rfl, rfl, e8.lst (by simp) f7, h8, by rw [List.length_map, List.length_map, sizeLine_eq]; omega, fun r9 hr9 => ?_⟩
          obtain ⟨g1, g2, g3, g4⟩ := hD7 H8 D3 D3 _ e8 h8 (mine_none h4.symm) hl8 r9 hr9
          exact ⟨r9, rfl, fin _ r9 _ _ _ g1 g2 g3 g4⟩
        · obtain ⟨m, ms, rfl⟩ : ∃ m ms, fo = m :: ms := by cases fo with | nil => exact absurd rfl hfo | cons m ms => exact ⟨m, ms, rfl⟩
          rw [if_pos (by simp)]
          obtain ⟨j, hm, hj, haj⟩ := mine_some (n := n) h4.symm
          rw [Nat.zero_add] at hm
          subst hm
          rw [List.length_map] at hj
          refine rIx_lst (lst_at h6) (v := V.int j) (atI_nat (j := 0) (by rfl)) ⟨_, rfl, _, lst_at S7.co.hq, fun p8 hp8 => ?_⟩
          rw [cutV_to j (by rw [List.length_map]; exact hj), ← List.map_take]
          have e8 : Ex [] TL GT H7 (upd H7 p8 (.lst ((qs.take j).map fun e => V.ref e.1))) := Ex.new hp8
          have q8 : upd H7 p8 (.lst ((qs.take j).map fun e => V.ref e.1)) p8 = some (.lst ((qs.take j).map fun e => V.ref e.1)) := upd_same
          have S8 := S7.keep e8 (fun _ _ => by simp)
          have f8 := e8.lst (by simp) f7
          generalize upd H7 p8 (.lst ((qs.take j).map fun e => V.ref e.1)) = H8 at e8 q8 S8 f8 ⊢
          refine ⟨⟨_, lst_at q8⟩, fun D3 hD3 => lc_names (TL := TL) (GT := GT) q8 (fun e he => S8.co.hrT e (List.mem_of_mem_take he)) (by rw [List.length_take]; omega) hD3 fun H9 e9 h9 => ?_⟩
          have hl8 : (nameL ((qs.take j).map (·.2)) n).length ≤ 20 := by have := nameL_len ((qs.take j).map (·.2)) n; rw [List.length_map, List.length_take] at this; omega
          refine .inr ⟨D, D3, _, _, rfl, rfl, e9.lst (by simp) f8, h9, by rw [List.length_map, List.length_map, sizeLine_eq]; omega, fun r9 hr9 => ?_⟩
          obtain ⟨g1, g2, g3, g4⟩ := hD7 H9 D3 D3 _ (e8.trans e9) h9 (by rw [haj, List.map_take]) hl8 r9 hr9
          exact ⟨r9, rfl, fin _ r9 _ _ _ g1 g2 g3 g4⟩
end
end KL
end
section
set_option Elab.async false
set_option linter.all false
set_option maxRecDepth 100000
set_option maxHeartbeats 2000000
set_option pp.maxSteps 900
namespace KL
open PySem PySem.Spec PyProof.Rows L2 GX
section
variable {P : Program} {w : World} {K : PySem.W.Frag} {mg : Str → Option Value} {base : Heap} {CL PE : Addr} {TL : List (Addr × Str)} {GT : List Addr} {H H' : Hp} {h q l s dx : Addr} {hs : List (Str × Addr × Tab)} {qs : List (Addr × Row)} {v : Lk} {F A : List Addr}
def rowsW (qs : List (Addr × Row)) (who : Int) : List (Addr × Row) := qs.filter fun e => decide (e.2.1 = who)
theorem rowsW_eq {who : Int} : ∀ {qs : List (Addr × Row)}, (qs.map (·.2.1)).Nodup → rowsW qs who = (qs.find? fun e => decide (e.2.1 = who)).toList
  | [], _ => rfl
  | e :: qs, nd => by
    rw [List.map_cons, List.nodup_cons] at nd
    unfold rowsW
    by_cases z : e.2.1 = who
    · rw [List.filter_cons_of_pos (by simpa using z), List.find?_cons_of_pos (by simpa using z), List.filter_eq_nil_iff.mpr fun x hx => ?_]
      · rfl
      · have : x.2.1 ≠ who := fun y => nd.1 (by rw [z, ← y]; exact List.mem_map.mpr ⟨x, hx, rfl⟩)
        simpa using this
    · rw [List.filter_cons_of_neg (by simpa using z), List.find?_cons_of_neg (by simpa using z)]
      exact rowsW_eq nd.2
theorem find_map (who : Int) : ∀ qs : List (Addr × Row), (qs.map (·.2)).find? (fun r => decide (r.1 = who)) = (qs.find? fun e => decide (e.2.1 = who)).map (·.2)
  | [] => rfl
  | e :: qs => by
    rw [List.map_cons]
    by_cases z : e.2.1 = who
    · rw [List.find?_cons_of_pos (by simpa using z), List.find?_cons_of_pos (by simpa using z)]; rfl
    · rw [List.find?_cons_of_neg (by simpa using z), List.find?_cons_of_neg (by simpa using z)]; exact find_map who qs
def spLWaits (K : PySem.W.Frag) (TL : List (Addr × Str)) (GT : List Addr) : Sp := fun vs H Q E => ∃ s who h q hs qs, vs = [.ref s, .int who] ∧ SA K H s h q hs qs ∧ Wf (lkOf hs qs) ∧
  ∀ a H', Ex [] TL GT H H' → H' a = some (.lst ((waitsL (lkOf hs qs) who).map V.int)) → free H a → Q (.ref a) H'
theorem c_law_waits (T : KL.Txt P w K mg base CL PE TL GT) : Cal P w K mg base 8 "_law_waits" (spLWaits K TL GT) := by
  have c_law_blocked := c_law_blocked T
  obtain ⟨f, fd, c, D⟩ := T.d_waits
  refine D.ok (N := ["state", "who", "rows", "row"]) (ps := ["state", "who"]) ⟨rfl, rfl, rfl, by decide +kernel, rfl, by decide +kernel, by decide +kernel⟩ (fun vs H Q E h => by first | (obtain ⟨_, rfl, _⟩ := h; rfl) | (obtain ⟨_, _, rfl, _⟩ := h; rfl) | (obtain ⟨_, _, _, rfl, _⟩ := h; rfl) | (obtain ⟨_, _, _, _, rfl, _⟩ := h; rfl) | (obtain ⟨_, _, _, _, _, rfl, _⟩ := h; rfl) | (obtain ⟨_, _, _, _, _, _, rfl, _⟩ := h; rfl) | (obtain ⟨_, _, _, _, _, _, _, rfl, _⟩ := h; rfl) | (obtain ⟨_, _, _, _, _, _, _, _, rfl, _⟩ := h; rfl) | (obtain ⟨_, _, _, _, _, _, _, _, _, rfl, _⟩ := h; rfl) | (obtain ⟨_, _, _, _, _, _, _, _, _, _, rfl, _⟩ := h; rfl) | (obtain ⟨_, _, _, _, _, _, _, _, _, _, _, rfl, _⟩ := h; rfl) | (obtain ⟨_, _, _, _, _, _, _, _, _, _, _, _, rfl, _⟩ := h; rfl) | (obtain ⟨_, _, _, _, _, _, _, _, _, _, _, _, _, rfl, _⟩ := h; rfl) | (obtain ⟨_, _, _, _, _, _, _, _, _, _, _, _, _, _, rfl, _⟩ := h; rfl) | (obtain ⟨_, _, _, _, _, _, _, _, _, _, _, _, _, _, _, rfl, _⟩ := h; rfl) | (obtain ⟨rfl, _⟩ := h; rfl)) (fun _ _ _ _ _ _ us hl => match us, hl with | [_, _], _ => rfl) (fun A outer s H vs Q E hr h => ?_)
  have nd : (["state", "who", "rows", "row"] : List Str).Nodup := by decide
  refine mk_ex (pss_cons (ps_setLc (i := 2) rfl nd rfl rfl rfl (ilK (K := K) rfl (pi_list (pe_dget (roomD hr) (pv 0) pe_str (fun _ _ => rfl)))) (show BlkOk ["state", "who", "rows", "row"] (defScope (top 11)) _ [("row", 3)] from blkOk_by (by decide +kernel)) (fun s H C cl fp => (pg_name (i := 3) nd rfl (Or.inl rfl))) (fun s H C cl fp => (pts_one (pt_cmpR (opK (K := K) (r := rEqU) (opU_eq (roomEq hr)) rfl) (pe_ix (ixK (K := K) (r := rIx) ix_seq rfl) (pv 3) pe_int (fun _ _ => rfl)) (pv 1) (nomark _)))) (fun s H C cl fp => (pv 3)))
    (pss_one (ps_ret (pe_ifExp (pt_cmpR (opK (K := K) (r := rNeU) (opU_ne (roomEq hr)) rfl) (pv 2) (pe_lst pa_nil) (nomark _)) (GX.pe_call c_law_blocked (hr.mono (by decide)) (takes_of rfl rfl rfl rfl) (by exact (pa_cons (pv 0) (pa_cons (pe_ix (ixK (K := K) (r := rIx) ix_seq rfl) (pe_ix (ixK (K := K) (r := rIx) ix_seq rfl) (pv 2) pe_int (fun _ _ => rfl)) pe_int (fun _ _ => rfl)) (pa_cons (pe_ix (ixK (K := K) (r := rIx) ix_seq rfl) (pe_ix (ixK (K := K) (r := rIx) ix_seq rfl) (pv 2) pe_int (fun _ _ => rfl)) pe_int (fun _ _ => rfl)) (pa_cons (pe_ix (ixK (K := K) (r := rIx) ix_seq rfl) (pe_ix (ixK (K := K) (r := rIx) ix_seq rfl) (pv 2) pe_int (fun _ _ => rfl)) pe_int (fun _ _ => rfl)) pa_nil)))))) (pe_lst pa_nil))))) ?_
  obtain ⟨s, who, h, q, hs, qs, rfl, S, W, hq⟩ := h
  simp only [cx_K, gcx_K, lcx_K, LenV, rLenU, tTruU, kTup, tFld, sFld, sFldAug, tMet, tMake, tBM, tDGet, tDGet1, tDGet2, sDPut, tRevL, iEnum, tAug, tAsg, mulV_int, iaddU_int, isubU_int, iaddU_str, tTupL, ex2eq, not_true_eq_false, not_false_eq_true, LamX.tLam, LamX.TTold, tSeq, tIf, tNext, tRet, tRetN, tIfS, tTest, tB, tNot, tAnd, tOr, tChain, tOp, tUn, tC, tVar, tCons, tNil, tTup, tLst, tAsg, gName, gTup, gCons, gNil, gSub, tDrop, tCallS, tCB, tM1, tM0, tBM, tBM0, tSl, tPar, tFor_eq, tLc_eq, intU_int, intU_bl, iList, iTup, iEnumT, tDNewK, rSlT, rSlL, iRng1, iRng2, iStr, tThen, tNever, L2.start, tRaiseFile, tMkFile, tYes, tPart, tNoPart, addA_int, addA_str, addU_int, addU_str, addU_ref, subU_int, mulU_int, mulU_ref, fdvU_int, modU_int, powU_int, ltU_int, leU_int, gtU_int, geU_int, eqU_int, eqU_str, eqU_bl, neU_int, neU_str, neU_bl, WE, TruV, tDIn, tDNotIn, sDDel, tDSetd, tDPop1, tLock, tLockE, tLk, tLockA, tLockEA, iKeys, List.map, List.length_cons, List.length_nil, List.replicate, List.append, List.getElem?_cons_zero, List.getElem?_cons_succ, List.set_cons_zero, List.set_cons_succ, List.cons_append, List.nil_append, Option.some.injEq, V.int.injEq, V.str.injEq, V.bl.injEq, V.ref.injEq, List.cons.injEq, exists_eq_left, exists_eq_right, and_true, true_and, and_self, exists_eq, exists_const, Bool.not_true, Bool.not_false, Bool.false_eq_true, if_true, if_false, reduceIte, decide_eq_true_eq, bne_iff_ne, exists_eq_left', exists_eq', exists_and_left, Bool.not_eq_true', decide_eq_false_iff_not, Nat.reduceSub, Nat.reduceAdd, reduceCtorEq, false_and, or_false, false_or, exists_false]
  refine ⟨_, S.gq, q, rfl, ⟨_, lst_at S.co.hq⟩, fun D hD => ?_⟩
  have hDf := free_none hD
  have q5 : qs.length ≤ 5 := by have := W.q5; unfold lkOf at this; rw [List.length_map] at this; exact this
  have nd : (qs.map (·.2.1)).Nodup := by have := W.qn; unfold lkOf at this; rw [List.map_map] at this; exact this
  refine lcl_list (xs := qs.map fun e => V.ref e.1) (fun i H' => Ex [] TL GT H H' ∧ H' D = some (.lst ((rowsW (qs.take i) who).map fun e => V.ref e.1))) ⟨Ex.new hD, upd_same⟩ (fun i H' _ e => lst_at (S.keep e.1 (fun _ _ => by simp)).co.hq) ?_ ?_
  · rintro i x H' hx ⟨e, hf⟩
    have SS := S.keep e (fun _ _ => by simp)
    rw [List.getElem?_map] at hx
    cases hqi : qs[i]? with
    | none => rw [hqi] at hx; cases hx
    | some ar =>
      rw [hqi] at hx
      obtain rfl : V.ref ar.1 = x := Option.some.inj hx
      have hr := SS.co.hrT ar (List.mem_of_getElem? hqi)
      simp only [cx_K, gcx_K, lcx_K, LenV, rLenU, tTruU, kTup, tFld, sFld, sFldAug, tMet, tMake, tBM, tDGet, tDGet1, tDGet2, sDPut, tRevL, iEnum, tAug, tAsg, mulV_int, iaddU_int, isubU_int, iaddU_str, tTupL, ex2eq, not_true_eq_false, not_false_eq_true, LamX.tLam, LamX.TTold, tSeq, tIf, tNext, tRet, tRetN, tIfS, tTest, tB, tNot, tAnd, tOr, tChain, tOp, tUn, tC, tVar, tCons, tNil, tTup, tLst, tAsg, gName, gTup, gCons, gNil, gSub, tDrop, tCallS, tCB, tM1, tM0, tBM, tBM0, tSl, tPar, tFor_eq, tLc_eq, intU_int, intU_bl, iList, iTup, iEnumT, tDNewK, rSlT, rSlL, iRng1, iRng2, iStr, tThen, tNever, L2.start, tRaiseFile, tMkFile, tYes, tPart, tNoPart, addA_int, addA_str, addU_int, addU_str, addU_ref, subU_int, mulU_int, mulU_ref, fdvU_int, modU_int, powU_int, ltU_int, leU_int, gtU_int, geU_int, eqU_int, eqU_str, eqU_bl, neU_int, neU_str, neU_bl, WE, TruV, tDIn, tDNotIn, sDDel, tDSetd, tDPop1, tLock, tLockE, tLk, tLockA, tLockEA, iKeys, List.map, List.length_cons, List.length_nil, List.replicate, List.append, List.getElem?_cons_zero, List.getElem?_cons_succ, List.set_cons_zero, List.set_cons_succ, List.cons_append, List.nil_append, Option.some.injEq, V.int.injEq, V.str.injEq, V.bl.injEq, V.ref.injEq, List.cons.injEq, exists_eq_left, exists_eq_right, and_true, true_and, and_self, exists_eq, exists_const, Bool.not_true, Bool.not_false, Bool.false_eq_true, if_true, if_false, reduceIte, decide_eq_true_eq, bne_iff_ne, exists_eq_left', exists_eq', exists_and_left, Bool.not_eq_true', decide_eq_false_iff_not, Nat.reduceSub, Nat.reduceAdd, reduceCtorEq, false_and, or_false, false_or, exists_false, wipe]
      have hstep : rowsW (qs.take (i + 1)) who = rowsW (qs.take i) who ++ (if ar.2.1 = who then [ar] else []) := by
        unfold rowsW
        rw [List.take_succ, hqi, List.filter_append]
        congr 1
        rw [Option.toList_some, List.filter_cons]
        by_cases z : ar.2.1 = who <;> simp [z]
      have hlen : (rowsW (qs.take i) who).length ≤ 5 := by
        have a1 := List.length_filter_le (fun x : Addr × Row => decide (x.2.1 = who)) (qs.take i)
        rw [List.length_take] at a1
        unfold rowsW
        omega
      refine rIx_tup hr (by rfl) ?_
      try simp only [cx_K, gcx_K, lcx_K, LenV, rLenU, tTruU, kTup, tFld, sFld, sFldAug, tMet, tMake, tBM, tDGet, tDGet1, tDGet2, sDPut, tRevL, iEnum, tAug, tAsg, mulV_int, iaddU_int, isubU_int, iaddU_str, tTupL, ex2eq, not_true_eq_false, not_false_eq_true, LamX.tLam, LamX.TTold, tSeq, tIf, tNext, tRet, tRetN, tIfS, tTest, tB, tNot, tAnd, tOr, tChain, tOp, tUn, tC, tVar, tCons, tNil, tTup, tLst, tAsg, gName, gTup, gCons, gNil, gSub, tDrop, tCallS, tCB, tM1, tM0, tBM, tBM0, tSl, tPar, tFor_eq, tLc_eq, intU_int, intU_bl, iList, iTup, iEnumT, tDNewK, rSlT, rSlL, iRng1, iRng2, iStr, tThen, tNever, L2.start, tRaiseFile, tMkFile, tYes, tPart, tNoPart, addA_int, addA_str, addU_int, addU_str, addU_ref, subU_int, mulU_int, mulU_ref, fdvU_int, modU_int, powU_int, ltU_int, leU_int, gtU_int, geU_int, eqU_int, eqU_str, eqU_bl, neU_int, neU_str, neU_bl, WE, TruV, tDIn, tDNotIn, sDDel, tDSetd, tDPop1, tLock, tLockE, tLk, tLockA, tLockEA, iKeys, List.map, List.length_cons, List.length_nil, List.replicate, List.append, List.getElem?_cons_zero, List.getElem?_cons_succ, List.set_cons_zero, List.set_cons_succ, List.cons_append, List.nil_append, Option.some.injEq, V.int.injEq, V.str.injEq, V.bl.injEq, V.ref.injEq, List.cons.injEq, exists_eq_left, exists_eq_right, and_true, true_and, and_self, exists_eq, exists_const, Bool.not_true, Bool.not_false, Bool.false_eq_true, if_true, if_false, reduceIte, decide_eq_true_eq, bne_iff_ne, exists_eq_left', exists_eq', exists_and_left, Bool.not_eq_true', decide_eq_false_iff_not, Nat.reduceSub, Nat.reduceAdd, reduceCtorEq, false_and, or_false, false_or, exists_false]
      by_cases z : ar.2.1 = who
      · rw [if_pos z]
        refine ⟨_, hf, by rw [List.length_map, sizeLine_eq]; omega, e.chg hf rfl (.inr hDf), ?_⟩
        rw [upd_same, hstep, if_pos z, List.map_append]; rfl
      · rw [if_neg z]
        exact ⟨e, by rw [hf, hstep, if_neg z, List.append_nil]⟩
  · rintro H' ⟨e, hf⟩
    rw [List.length_map, List.take_of_length_le (Nat.le_refl _), rowsW_eq nd] at hf
    refine ⟨Nat.zero_le _, fun p hp => ?_⟩
    have e1 : Ex [] TL GT H' (upd H' p (.lst [])) := Ex.new hp
    have p1 : upd H' p (.lst []) p = some (.lst []) := upd_same
    have f1 := e1.lst (by simp) hf
    have e01 := e.trans e1
    generalize upd H' p (.lst []) = H1 at e1 p1 f1 e01 ⊢
    have S1 := S.keep e01 (fun _ _ => by simp)
    have hfm : (qs.map (·.2)).find? (fun r => decide (r.1 = who)) = (qs.find? fun e => decide (e.2.1 = who)).map (·.2) := find_map who qs
    cases hr : qs.find? (fun e => decide (e.2.1 = who)) with
    | none =>
      rw [hr] at f1 hfm
      refine ne_lstI (ns := []) (ms := []) (lst_at f1) (lst_at p1) ⟨_, rfl, ?_⟩
      rw [if_neg (by decide)]
      refine ⟨Nat.zero_le _, fun p2 hp2 => hq p2 _ (e01.add hp2) ?_ ((e01.fresh (free_none hp2)).resolve_left (by simp))⟩
      rw [upd_same, waits_none hfm]; rfl
    | some r =>
      rw [hr] at f1 hfm
      have hrm := List.mem_of_find?_eq_some hr
      have hrw : r.2.1 = who := by simpa using List.find?_some hr
      have hrT := S1.co.hrT r hrm
      have hnm := (W.qr r.2 (List.mem_map.mpr ⟨r, hrm, rfl⟩)).2
      have f1' : H1 D = some (.lst [V.ref r.1]) := f1
      refine ⟨.list [rowD r.2], .list [], .lst (lst_at f1') (.cons (dp_row hrT) .nil), .lst (lst_at p1) .nil, ?_, rfl, true, rfl, ?_⟩
      · simp [SeqAt.shaped, rowD, PyData.canLay0, PyData.canLayAll0, PyData.depth, PyData.depthAll, nms_ok hnm, hw_ok]
      rw [if_pos rfl]
      refine rIx_lst (lst_at f1') (by rfl) ?_; try simp only [cx_K, gcx_K, lcx_K, LenV, rLenU, tTruU, kTup, tFld, sFld, sFldAug, tMet, tMake, tBM, tDGet, tDGet1, tDGet2, sDPut, tRevL, iEnum, tAug, tAsg, mulV_int, iaddU_int, isubU_int, iaddU_str, tTupL, ex2eq, not_true_eq_false, not_false_eq_true, LamX.tLam, LamX.TTold, tSeq, tIf, tNext, tRet, tRetN, tIfS, tTest, tB, tNot, tAnd, tOr, tChain, tOp, tUn, tC, tVar, tCons, tNil, tTup, tLst, tAsg, gName, gTup, gCons, gNil, gSub, tDrop, tCallS, tCB, tM1, tM0, tBM, tBM0, tSl, tPar, tFor_eq, tLc_eq, intU_int, intU_bl, iList, iTup, iEnumT, tDNewK, rSlT, rSlL, iRng1, iRng2, iStr, tThen, tNever, L2.start, tRaiseFile, tMkFile, tYes, tPart, tNoPart, addA_int, addA_str, addU_int, addU_str, addU_ref, subU_int, mulU_int, mulU_ref, fdvU_int, modU_int, powU_int, ltU_int, leU_int, gtU_int, geU_int, eqU_int, eqU_str, eqU_bl, neU_int, neU_str, neU_bl, WE, TruV, tDIn, tDNotIn, sDDel, tDSetd, tDPop1, tLock, tLockE, tLk, tLockA, tLockEA, iKeys, List.map, List.length_cons, List.length_nil, List.replicate, List.append, List.getElem?_cons_zero, List.getElem?_cons_succ, List.set_cons_zero, List.set_cons_succ, List.cons_append, List.nil_append, Option.some.injEq, V.int.injEq, V.str.injEq, V.bl.injEq, V.ref.injEq, List.cons.injEq, exists_eq_left, exists_eq_right, and_true, true_and, and_self, exists_eq, exists_const, Bool.not_true, Bool.not_false, Bool.false_eq_true, if_true, if_false, reduceIte, decide_eq_true_eq, bne_iff_ne, exists_eq_left', exists_eq', exists_and_left, Bool.not_eq_true', decide_eq_false_iff_not, Nat.reduceSub, Nat.reduceAdd, reduceCtorEq, false_and, or_false, false_or, exists_false]
      refine rIx_tup hrT (by rfl) ?_
      refine rIx_lst (lst_at f1') (by rfl) ?_; try simp only [cx_K, gcx_K, lcx_K, LenV, rLenU, tTruU, kTup, tFld, sFld, sFldAug, tMet, tMake, tBM, tDGet, tDGet1, tDGet2, sDPut, tRevL, iEnum, tAug, tAsg, mulV_int, iaddU_int, isubU_int, iaddU_str, tTupL, ex2eq, not_true_eq_false, not_false_eq_true, LamX.tLam, LamX.TTold, tSeq, tIf, tNext, tRet, tRetN, tIfS, tTest, tB, tNot, tAnd, tOr, tChain, tOp, tUn, tC, tVar, tCons, tNil, tTup, tLst, tAsg, gName, gTup, gCons, gNil, gSub, tDrop, tCallS, tCB, tM1, tM0, tBM, tBM0, tSl, tPar, tFor_eq, tLc_eq, intU_int, intU_bl, iList, iTup, iEnumT, tDNewK, rSlT, rSlL, iRng1, iRng2, iStr, tThen, tNever, L2.start, tRaiseFile, tMkFile, tYes, tPart, tNoPart, addA_int, addA_str, addU_int, addU_str, addU_ref, subU_int, mulU_int, mulU_ref, fdvU_int, modU_int, powU_int, ltU_int, leU_int, gtU_int, geU_int, eqU_int, eqU_str, eqU_bl, neU_int, neU_str, neU_bl, WE, TruV, tDIn, tDNotIn, sDDel, tDSetd, tDPop1, tLock, tLockE, tLk, tLockA, tLockEA, iKeys, List.map, List.length_cons, List.length_nil, List.replicate, List.append, List.getElem?_cons_zero, List.getElem?_cons_succ, List.set_cons_zero, List.set_cons_succ, List.cons_append, List.nil_append, Option.some.injEq, V.int.injEq, V.str.injEq, V.bl.injEq, V.ref.injEq, List.cons.injEq, exists_eq_left, exists_eq_right, and_true, true_and, and_self, exists_eq, exists_const, Bool.not_true, Bool.not_false, Bool.false_eq_true, if_true, if_false, reduceIte, decide_eq_true_eq, bne_iff_ne, exists_eq_left', exists_eq', exists_and_left, Bool.not_eq_true', decide_eq_false_iff_not, Nat.reduceSub, Nat.reduceAdd, reduceCtorEq, false_and, or_false, false_or, exists_false]
      refine rIx_tup hrT (by rfl) ?_
      refine rIx_lst (lst_at f1') (by rfl) ?_; try simp only [cx_K, gcx_K, lcx_K, LenV, rLenU, tTruU, kTup, tFld, sFld, sFldAug, tMet, tMake, tBM, tDGet, tDGet1, tDGet2, sDPut, tRevL, iEnum, tAug, tAsg, mulV_int, iaddU_int, isubU_int, iaddU_str, tTupL, ex2eq, not_true_eq_false, not_false_eq_true, LamX.tLam, LamX.TTold, tSeq, tIf, tNext, tRet, tRetN, tIfS, tTest, tB, tNot, tAnd, tOr, tChain, tOp, tUn, tC, tVar, tCons, tNil, tTup, tLst, tAsg, gName, gTup, gCons, gNil, gSub, tDrop, tCallS, tCB, tM1, tM0, tBM, tBM0, tSl, tPar, tFor_eq, tLc_eq, intU_int, intU_bl, iList, iTup, iEnumT, tDNewK, rSlT, rSlL, iRng1, iRng2, iStr, tThen, tNever, L2.start, tRaiseFile, tMkFile, tYes, tPart, tNoPart, addA_int, addA_str, addU_int, addU_str, addU_ref, subU_int, mulU_int, mulU_ref, fdvU_int, modU_int, powU_int, ltU_int, leU_int, gtU_int, geU_int, eqU_int, eqU_str, eqU_bl, neU_int, neU_str, neU_bl, WE, TruV, tDIn, tDNotIn, sDDel, tDSetd, tDPop1, tLock, tLockE, tLk, tLockA, tLockEA, iKeys, List.map, List.length_cons, List.length_nil, List.replicate, List.append, List.getElem?_cons_zero, List.getElem?_cons_succ, List.set_cons_zero, List.set_cons_succ, List.cons_append, List.nil_append, Option.some.injEq, V.int.injEq, V.str.injEq, V.bl.injEq, V.ref.injEq, List.cons.injEq, exists_eq_left, exists_eq_right, and_true, true_and, and_self, exists_eq, exists_const, Bool.not_true, Bool.not_false, Bool.false_eq_true, if_true, if_false, reduceIte, decide_eq_true_eq, bne_iff_ne, exists_eq_left', exists_eq', exists_and_left, Bool.not_eq_true', decide_eq_false_iff_not, Nat.reduceSub, Nat.reduceAdd, reduceCtorEq, false_and, or_false, false_or, exists_false]
      refine rIx_tup hrT (by rfl) ?_
      refine ⟨s, r.2.1, r.2.2.1, r.2.2.2, h, q, hs, qs, rfl, S1, W, fun a H2 e2 h2 hn2 => hq a H2 (e01.trans e2) ?_ ((e01.fresh hn2).resolve_left (by simp))⟩
      rw [h2, waits_some hfm, ← hrw]
def spLTake (K : PySem.W.Frag) (TL : List (Addr × Str)) (GT : List Addr) : Sp := fun vs H Q E => ∃ s who n al h q hs qs, vs = [.ref s, .int who, .str n, .str (hw al)] ∧ SA K H s h q hs qs ∧ Wf (lkOf hs qs) ∧
  ∀ hs' H', Ex (s :: fpOf h q hs) TL GT H H' → takeL (lkOf hs qs) who n al = lkOf hs' qs → SA K H' s h q hs' qs → (∀ a ∈ s :: fpOf h q hs', a ∈ s :: fpOf h q hs ∨ free H a) → Q .non H'
theorem c_law_take (T : KL.Txt P w K mg base CL PE TL GT) : Cal P w K mg base 6 "_law_take" (spLTake K TL GT) := by
  obtain ⟨f, fd, c, D⟩ := T.d_take
  refine D.ok (N := ["state", "who", "name", "how", "table"]) (ps := ["state", "who", "name", "how"]) ⟨rfl, rfl, rfl, by decide +kernel, rfl, by decide +kernel, by decide +kernel⟩ (fun vs H Q E h => by first | (obtain ⟨_, rfl, _⟩ := h; rfl) | (obtain ⟨_, _, rfl, _⟩ := h; rfl) | (obtain ⟨_, _, _, rfl, _⟩ := h; rfl) | (obtain ⟨_, _, _, _, rfl, _⟩ := h; rfl) | (obtain ⟨_, _, _, _, _, rfl, _⟩ := h; rfl) | (obtain ⟨_, _, _, _, _, _, rfl, _⟩ := h; rfl) | (obtain ⟨_, _, _, _, _, _, _, rfl, _⟩ := h; rfl) | (obtain ⟨_, _, _, _, _, _, _, _, rfl, _⟩ := h; rfl) | (obtain ⟨_, _, _, _, _, _, _, _, _, rfl, _⟩ := h; rfl) | (obtain ⟨_, _, _, _, _, _, _, _, _, _, rfl, _⟩ := h; rfl) | (obtain ⟨_, _, _, _, _, _, _, _, _, _, _, rfl, _⟩ := h; rfl) | (obtain ⟨_, _, _, _, _, _, _, _, _, _, _, _, rfl, _⟩ := h; rfl) | (obtain ⟨_, _, _, _, _, _, _, _, _, _, _, _, _, rfl, _⟩ := h; rfl) | (obtain ⟨_, _, _, _, _, _, _, _, _, _, _, _, _, _, rfl, _⟩ := h; rfl) | (obtain ⟨_, _, _, _, _, _, _, _, _, _, _, _, _, _, _, rfl, _⟩ := h; rfl) | (obtain ⟨rfl, _⟩ := h; rfl)) (fun _ _ _ _ _ _ us hl => match us, hl with | [_, _, _, _], _ => rfl) (fun A outer s H vs Q E hr h => ?_)
  have nd : (["state", "who", "name", "how", "table"] : List Str).Nodup := by decide
  refine mk_ex (pss_cons (ps_set (i := 4) nd rfl (Or.inl rfl) (pe_dsetd (pe_dget (roomD hr) (pv 0) pe_str (fun _ _ => rfl)) (pv 2) pe_dnewK ⟨rfl, rfl, rfl, rfl⟩))
    (pss_one (ps_dput (roomD hr) (pv 4) (pv 1) (pe_ifExp (pt_cmpR (opK (K := K) (r := rEqU) (opU_eq (roomEq hr)) rfl) (pe_dget1 (roomD hr) (pv 4) (pv 1) ⟨rfl, rfl, rfl, rfl⟩) pe_str (nomark _)) pe_str (pv 3)) rfl))) ?_
  obtain ⟨s, who, n, al, h, q, hs, qs, rfl, S, W, hq⟩ := h
  simp only [cx_K, gcx_K, lcx_K, LenV, rLenU, tTruU, kTup, tFld, sFld, sFldAug, tMet, tMake, tBM, tDGet, tDGet1, tDGet2, sDPut, tRevL, iEnum, tAug, tAsg, mulV_int, iaddU_int, isubU_int, iaddU_str, tTupL, ex2eq, not_true_eq_false, not_false_eq_true, LamX.tLam, LamX.TTold, tSeq, tIf, tNext, tRet, tRetN, tIfS, tTest, tB, tNot, tAnd, tOr, tChain, tOp, tUn, tC, tVar, tCons, tNil, tTup, tLst, tAsg, gName, gTup, gCons, gNil, gSub, tDrop, tCallS, tCB, tM1, tM0, tBM, tBM0, tSl, tPar, tFor_eq, tLc_eq, intU_int, intU_bl, iList, iTup, iEnumT, tDNewK, rSlT, rSlL, iRng1, iRng2, iStr, tThen, tNever, L2.start, tRaiseFile, tMkFile, tYes, tPart, tNoPart, addA_int, addA_str, addU_int, addU_str, addU_ref, subU_int, mulU_int, mulU_ref, fdvU_int, modU_int, powU_int, ltU_int, leU_int, gtU_int, geU_int, eqU_int, eqU_str, eqU_bl, neU_int, neU_str, neU_bl, WE, TruV, tDIn, tDNotIn, sDDel, tDSetd, tDPop1, tLock, tLockE, tLk, tLockA, tLockEA, iKeys, List.map, List.length_cons, List.length_nil, List.replicate, List.append, List.getElem?_cons_zero, List.getElem?_cons_succ, List.set_cons_zero, List.set_cons_succ, List.cons_append, List.nil_append, Option.some.injEq, V.int.injEq, V.str.injEq, V.bl.injEq, V.ref.injEq, List.cons.injEq, exists_eq_left, exists_eq_right, and_true, true_and, and_self, exists_eq, exists_const, Bool.not_true, Bool.not_false, Bool.false_eq_true, if_true, if_false, reduceIte, decide_eq_true_eq, bne_iff_ne, exists_eq_left', exists_eq', exists_and_left, Bool.not_eq_true', decide_eq_false_iff_not, Nat.reduceSub, Nat.reduceAdd, reduceCtorEq, false_and, or_false, false_or, exists_false]
  refine ⟨_, S.gh, h, rfl, .inl ⟨_, .inl S.co.hh⟩, fun p hp => ?_⟩
  have hpF := S.notin hp
  have e1 : Ex [] TL GT H (upd H p (.dK [])) := Ex.new hp
  have p1 : upd H p (.dK []) p = some (.dK []) := upd_same
  have S1 := S.keep e1 (fun _ _ => by simp)
  have t20 := (W.sz).2 n
  have hz : hs.length ≤ 4 := by have := W.h4; unfold lkOf at this; rw [List.length_map] at this; exact this
  generalize upd H p (.dK []) = H1 at e1 p1 S1 ⊢
  refine ⟨kvH hs, S1.co.hh, .inr n, rfl, by show (kvH hs).length < _; unfold kvH; rw [List.length_map, sizeLine_eq]; omega, fun v hv => ?_, fun hv => ?_⟩
  · rw [val_hs] at hv
    cases hf : fh hs n with
    | none => rw [hf] at hv; cases hv
    | some e =>
      rw [hf] at hv
      obtain rfl : V.ref e.2.1 = v := Option.some.inj hv
      obtain ⟨he, hen⟩ := fh_mem hf
      have ht : hold (lkOf hs qs) n = e.2.2 := by rw [hold_fh, hf]; rfl
      rw [ht] at t20
      refine ⟨_, rfl, .inl ⟨_, .inl (S1.co.ht e he)⟩, ?_⟩
      simp only [cx_K, gcx_K, lcx_K, LenV, rLenU, tTruU, kTup, tFld, sFld, sFldAug, tMet, tMake, tBM, tDGet, tDGet1, tDGet2, sDPut, tRevL, iEnum, tAug, tAsg, mulV_int, iaddU_int, isubU_int, iaddU_str, tTupL, ex2eq, not_true_eq_false, not_false_eq_true, LamX.tLam, LamX.TTold, tSeq, tIf, tNext, tRet, tRetN, tIfS, tTest, tB, tNot, tAnd, tOr, tChain, tOp, tUn, tC, tVar, tCons, tNil, tTup, tLst, tAsg, gName, gTup, gCons, gNil, gSub, tDrop, tCallS, tCB, tM1, tM0, tBM, tBM0, tSl, tPar, tFor_eq, tLc_eq, intU_int, intU_bl, iList, iTup, iEnumT, tDNewK, rSlT, rSlL, iRng1, iRng2, iStr, tThen, tNever, L2.start, tRaiseFile, tMkFile, tYes, tPart, tNoPart, addA_int, addA_str, addU_int, addU_str, addU_ref, subU_int, mulU_int, mulU_ref, fdvU_int, modU_int, powU_int, ltU_int, leU_int, gtU_int, geU_int, eqU_int, eqU_str, eqU_bl, neU_int, neU_str, neU_bl, WE, TruV, tDIn, tDNotIn, sDDel, tDSetd, tDPop1, tLock, tLockE, tLk, tLockA, tLockEA, iKeys, List.map, List.length_cons, List.length_nil, List.replicate, List.append, List.getElem?_cons_zero, List.getElem?_cons_succ, List.set_cons_zero, List.set_cons_succ, List.cons_append, List.nil_append, Option.some.injEq, V.int.injEq, V.str.injEq, V.bl.injEq, V.ref.injEq, List.cons.injEq, exists_eq_left, exists_eq_right, and_true, true_and, and_self, exists_eq, exists_const, Bool.not_true, Bool.not_false, Bool.false_eq_true, if_true, if_false, reduceIte, decide_eq_true_eq, bne_iff_ne, exists_eq_left', exists_eq', exists_and_left, Bool.not_eq_true', decide_eq_false_iff_not, Nat.reduceSub, Nat.reduceAdd, reduceCtorEq, false_and, or_false, false_or, exists_false]
      have hmem : e.2.1 ∈ s :: fpOf h q hs := by
        simp only [fpOf, List.mem_cons, List.mem_map]; exact .inr (.inr (.inr ⟨e, he, rfl⟩))
      have nse : s ≠ e.2.1 := fun z => S.nn (by rw [z]; simp only [fpOf, List.mem_cons, List.mem_map]; exact .inr (.inr ⟨e, he, rfl⟩))
      have fpe : fpOf h q (setH hs e.1 (putI e.2.2 who (takeB e.2.2 who al))) = fpOf h q hs := by unfold fpOf; rw [setH_adr]
      refine take_fin (S1.co.ht e he) (by omega) (hq (setH hs e.1 (putI e.2.2 who (takeB e.2.2 who al))) _ ((e1.any).chg (S1.co.ht e he) rfl (.inl hmem)) ?_ ⟨?_, S1.co.setTab he (putI_nodup (S.co.nk e he) _ _), by rw [fpe]; exact S.nn⟩ (fun a ha => .inl (by rw [fpe] at ha; exact ha)))
      · rw [setH_lk, hen]
        unfold takeL newT
        rw [if_pos (by unfold lkOf; rw [get_fh, hf]; rfl), ht]
      · rw [upd_ne nse]; exact S1.hsd
  · rw [val_hs] at hv
    have hf : fh hs n = none := by
      cases hf : fh hs n with
      | none => rfl
      | some e => rw [hf] at hv; cases hv
    have ht : hold (lkOf hs qs) n = [] := by rw [hold_fh, hf]; rfl
    have C2 := S1.co.newName p1 hf (fun z => hpF (List.mem_cons_of_mem _ z))
    have hph : p ≠ h := fun z => hpF (by rw [z]; simp [fpOf])
    have nsh : s ≠ h := fun z => S.nn (by rw [z]; simp [fpOf])
    have nsp : s ≠ p := fun z => hpF (by rw [← z]; simp)
    have p2 : upd H1 h (.dK (putK (kvH hs) (.inr n) (.ref p))) p = some (.dK (tabK [])) := by rw [upd_ne hph]; exact p1
    have e2 : Ex (s :: fpOf h q hs) TL GT H (upd H1 h (.dK (putK (kvH hs) (.inr n) (.ref p)))) := (e1.any).chg S1.co.hh rfl (.inl (by simp [fpOf]))
    have l2 : upd H1 h (.dK (putK (kvH hs) (.inr n) (.ref p))) s = some (.dK [(.inr "held", .ref h), (.inr "queue", .ref q)]) := by
      rw [upd_ne nsh]; exact S1.hsd
    generalize upd H1 h (.dK (putK (kvH hs) (.inr n) (.ref p))) = H2 at *
    refine ⟨.inl ⟨_, .inl p2⟩, ?_⟩
    try simp only [cx_K, gcx_K, lcx_K, LenV, rLenU, tTruU, kTup, tFld, sFld, sFldAug, tMet, tMake, tBM, tDGet, tDGet1, tDGet2, sDPut, tRevL, iEnum, tAug, tAsg, mulV_int, iaddU_int, isubU_int, iaddU_str, tTupL, ex2eq, not_true_eq_false, not_false_eq_true, LamX.tLam, LamX.TTold, tSeq, tIf, tNext, tRet, tRetN, tIfS, tTest, tB, tNot, tAnd, tOr, tChain, tOp, tUn, tC, tVar, tCons, tNil, tTup, tLst, tAsg, gName, gTup, gCons, gNil, gSub, tDrop, tCallS, tCB, tM1, tM0, tBM, tBM0, tSl, tPar, tFor_eq, tLc_eq, intU_int, intU_bl, iList, iTup, iEnumT, tDNewK, rSlT, rSlL, iRng1, iRng2, iStr, tThen, tNever, L2.start, tRaiseFile, tMkFile, tYes, tPart, tNoPart, addA_int, addA_str, addU_int, addU_str, addU_ref, subU_int, mulU_int, mulU_ref, fdvU_int, modU_int, powU_int, ltU_int, leU_int, gtU_int, geU_int, eqU_int, eqU_str, eqU_bl, neU_int, neU_str, neU_bl, WE, TruV, tDIn, tDNotIn, sDDel, tDSetd, tDPop1, tLock, tLockE, tLk, tLockA, tLockEA, iKeys, List.map, List.length_cons, List.length_nil, List.replicate, List.append, List.getElem?_cons_zero, List.getElem?_cons_succ, List.set_cons_zero, List.set_cons_succ, List.cons_append, List.nil_append, Option.some.injEq, V.int.injEq, V.str.injEq, V.bl.injEq, V.ref.injEq, List.cons.injEq, exists_eq_left, exists_eq_right, and_true, true_and, and_self, exists_eq, exists_const, Bool.not_true, Bool.not_false, Bool.false_eq_true, if_true, if_false, reduceIte, decide_eq_true_eq, bne_iff_ne, exists_eq_left', exists_eq', exists_and_left, Bool.not_eq_true', decide_eq_false_iff_not, Nat.reduceSub, Nat.reduceAdd, reduceCtorEq, false_and, or_false, false_or, exists_false]
    have fpe : fpOf h q (setH (hs ++ [(n, p, [])]) n (putI [] who (takeB [] who al))) = fpOf h q (hs ++ [(n, p, [])]) := by unfold fpOf; rw [setH_adr]
    have fpe2 : ∀ a, a ∈ fpOf h q (hs ++ [(n, p, ([] : Tab))]) → a ∈ fpOf h q hs ∨ a = p := fun a ha => by
      unfold fpOf at ha ⊢
      rw [List.map_append] at ha
      simp only [List.mem_cons, List.mem_append, List.map_cons, List.map_nil, List.not_mem_nil, or_false] at ha ⊢
      rcases ha with z | z | z | z
      · exact .inl (.inl z)
      · exact .inl (.inr (.inl z))
      · exact .inl (.inr (.inr z))
      · exact .inr z
    refine take_fin p2 (by simp) (hq (setH (hs ++ [(n, p, [])]) n (putI [] who (takeB [] who al))) _ (e2.chg p2 rfl (.inr (free_none hp))) ?_ ⟨?_, C2.setTab (e := (n, p, [])) (by simp) (putI_nodup (t := []) .nil _ _), by rw [fpe]; exact fun z => (fpe2 _ z).elim S.nn nsp⟩ (fun a ha => ?_))
    · rw [setH_lk]
      unfold takeL newT
      rw [if_neg (by unfold lkOf; rw [get_fh, hf]; simp), ht]
      unfold lkOf
      simp
    · rw [upd_ne nsp]; exact l2
    · rw [fpe] at ha
      rcases List.mem_cons.mp ha with z | z
      · exact .inl (by rw [z]; simp)
      · rcases fpe2 _ z with z | z
        · exact .inl (List.mem_cons_of_mem _ z)
        · exact .inr (by rw [z]; exact free_none hp)
def spLDrop (K : PySem.W.Frag) (TL : List (Addr × Str)) (GT : List Addr) : Sp := fun vs H Q E => ∃ s who n h q hs qs, vs = [.ref s, .int who, .str n] ∧ SA K H s h q hs qs ∧ Wf (lkOf hs qs) ∧ keyI (hold (lkOf hs qs) n) who = true ∧
  ∀ hs' H', Ex (s :: fpOf h q hs) TL GT H H' → dropL (lkOf hs qs) who n = lkOf hs' qs → SA K H' s h q hs' qs → (∀ a ∈ s :: fpOf h q hs', a ∈ s :: fpOf h q hs) → Q .non H'
theorem c_law_drop (T : KL.Txt P w K mg base CL PE TL GT) : Cal P w K mg base 6 "_law_drop" (spLDrop K TL GT) := by
  obtain ⟨f, fd, c, D⟩ := T.d_drop
  refine D.ok (N := ["state", "who", "name", "held"]) (ps := ["state", "who", "name"]) ⟨rfl, rfl, rfl, by decide +kernel, rfl, by decide +kernel, by decide +kernel⟩ (fun vs H Q E h => by first | (obtain ⟨_, rfl, _⟩ := h; rfl) | (obtain ⟨_, _, rfl, _⟩ := h; rfl) | (obtain ⟨_, _, _, rfl, _⟩ := h; rfl) | (obtain ⟨_, _, _, _, rfl, _⟩ := h; rfl) | (obtain ⟨_, _, _, _, _, rfl, _⟩ := h; rfl) | (obtain ⟨_, _, _, _, _, _, rfl, _⟩ := h; rfl) | (obtain ⟨_, _, _, _, _, _, _, rfl, _⟩ := h; rfl) | (obtain ⟨_, _, _, _, _, _, _, _, rfl, _⟩ := h; rfl) | (obtain ⟨_, _, _, _, _, _, _, _, _, rfl, _⟩ := h; rfl) | (obtain ⟨_, _, _, _, _, _, _, _, _, _, rfl, _⟩ := h; rfl) | (obtain ⟨_, _, _, _, _, _, _, _, _, _, _, rfl, _⟩ := h; rfl) | (obtain ⟨_, _, _, _, _, _, _, _, _, _, _, _, rfl, _⟩ := h; rfl) | (obtain ⟨_, _, _, _, _, _, _, _, _, _, _, _, _, rfl, _⟩ := h; rfl) | (obtain ⟨_, _, _, _, _, _, _, _, _, _, _, _, _, _, rfl, _⟩ := h; rfl) | (obtain ⟨_, _, _, _, _, _, _, _, _, _, _, _, _, _, _, rfl, _⟩ := h; rfl) | (obtain ⟨rfl, _⟩ := h; rfl)) (fun _ _ _ _ _ _ us hl => match us, hl with | [_, _, _], _ => rfl) (fun A outer s H vs Q E hr h => ?_)
  have nd : (["state", "who", "name", "held"] : List Str).Nodup := by decide
  refine mk_ex (pss_cons (ps_set (i := 3) nd rfl (Or.inl rfl) (pe_dget (roomD hr) (pv 0) pe_str (fun _ _ => rfl)))
    (pss_cons (ps_expr (pe_dpop1 (pe_dget (roomD hr) (pv 3) (pv 2) (fun _ _ => rfl)) (pv 1) ⟨rfl, rfl, rfl, rfl⟩))
    (pss_one (ps_if (pt_cmpR (opK (K := K) (r := rEqE) (opE_eq (roomEq hr)) rfl) (pe_dget (roomD hr) (pv 3) (pv 2) (fun _ _ => rfl)) pe_dnewK (nomark _)) (pss_one (ps_expr (pe_dpop1 (pv 3) (pv 2) ⟨rfl, rfl, rfl, rfl⟩))) pss_nil)))) ?_
  obtain ⟨s, who, n, h, q, hs, qs, rfl, S, W, hk, hq⟩ := h
  simp only [cx_K, gcx_K, lcx_K, LenV, rLenU, tTruU, kTup, tFld, sFld, sFldAug, tMet, tMake, tBM, tDGet, tDGet1, tDGet2, sDPut, tRevL, iEnum, tAug, tAsg, mulV_int, iaddU_int, isubU_int, iaddU_str, tTupL, ex2eq, not_true_eq_false, not_false_eq_true, LamX.tLam, LamX.TTold, tSeq, tIf, tNext, tRet, tRetN, tIfS, tTest, tB, tNot, tAnd, tOr, tChain, tOp, tUn, tC, tVar, tCons, tNil, tTup, tLst, tAsg, gName, gTup, gCons, gNil, gSub, tDrop, tCallS, tCB, tM1, tM0, tBM, tBM0, tSl, tPar, tFor_eq, tLc_eq, intU_int, intU_bl, iList, iTup, iEnumT, tDNewK, rSlT, rSlL, iRng1, iRng2, iStr, tThen, tNever, L2.start, tRaiseFile, tMkFile, tYes, tPart, tNoPart, addA_int, addA_str, addU_int, addU_str, addU_ref, subU_int, mulU_int, mulU_ref, fdvU_int, modU_int, powU_int, ltU_int, leU_int, gtU_int, geU_int, eqU_int, eqU_str, eqU_bl, neU_int, neU_str, neU_bl, WE, TruV, tDIn, tDNotIn, sDDel, tDSetd, tDPop1, tLock, tLockE, tLk, tLockA, tLockEA, iKeys, List.map, List.length_cons, List.length_nil, List.replicate, List.append, List.getElem?_cons_zero, List.getElem?_cons_succ, List.set_cons_zero, List.set_cons_succ, List.cons_append, List.nil_append, Option.some.injEq, V.int.injEq, V.str.injEq, V.bl.injEq, V.ref.injEq, List.cons.injEq, exists_eq_left, exists_eq_right, and_true, true_and, and_self, exists_eq, exists_const, Bool.not_true, Bool.not_false, Bool.false_eq_true, if_true, if_false, reduceIte, decide_eq_true_eq, bne_iff_ne, exists_eq_left', exists_eq', exists_and_left, Bool.not_eq_true', decide_eq_false_iff_not, Nat.reduceSub, Nat.reduceAdd, reduceCtorEq, false_and, or_false, false_or, exists_false]
  obtain ⟨e0, hf⟩ : ∃ e, fh hs n = some e := by
    cases hf : fh hs n with
    | none => rw [hold_fh, hf] at hk; cases hk
    | some e => exact ⟨e, rfl⟩
  obtain ⟨he0, hen⟩ := fh_mem hf
  have ht : hold (lkOf hs qs) n = e0.2.2 := by rw [hold_fh, hf]; rfl
  have hnk : ((dropI e0.2.2 who).map (·.1)).Nodup := dropI_nodup (S.co.nk e0 he0) who
  obtain ⟨vv, hvv⟩ : ∃ vv, valV (tabK e0.2.2) (.inl who) = some vv := Option.isSome_iff_exists.mp (by rw [val_key, ← ht]; exact hk)
  refine ⟨_, S.gh, h, rfl, V.ref e0.2.1, .inl ⟨kvH hs, .inr n, .inl S.co.hh, rfl, by rw [val_hs, hf]; rfl⟩, e0.2.1, rfl, .inl ⟨_, .inl (S.co.ht e0 he0)⟩, _, S.co.ht e0 he0, .inl who, rfl, vv, hvv, h, rfl, ?_⟩
  rw [drop_tab]
  have C3 := S.co.setTab he0 hnk
  have hmem : e0.2.1 ∈ s :: fpOf h q hs := by
    simp only [fpOf, List.mem_cons, List.mem_map]; exact .inr (.inr (.inr ⟨e0, he0, rfl⟩))
  have nse : s ≠ e0.2.1 := fun z => S.nn (by rw [z]; simp only [fpOf, List.mem_cons, List.mem_map]; exact .inr (.inr ⟨e0, he0, rfl⟩))
  have nsh : s ≠ h := fun z => S.nn (by rw [z]; simp [fpOf])
  have e3 : Ex (s :: fpOf h q hs) TL GT H (upd H e0.2.1 (.dK (tabK (dropI e0.2.2 who)))) := Ex.put hmem (S.co.ht e0 he0) rfl
  have l3 : upd H e0.2.1 (.dK (tabK (dropI e0.2.2 who))) s = some (.dK [(.inr "held", .ref h), (.inr "queue", .ref q)]) := by
    rw [upd_ne nse]; exact S.hsd
  have t3 : upd H e0.2.1 (.dK (tabK (dropI e0.2.2 who))) e0.2.1 = some (.dK (tabK (dropI e0.2.2 who))) := upd_same
  generalize upd H e0.2.1 (.dK (tabK (dropI e0.2.2 who))) = H3 at e3 l3 t3 C3 ⊢
  have fpe : fpOf h q (setH hs e0.1 (dropI e0.2.2 who)) = fpOf h q hs := by unfold fpOf; rw [setH_adr]
  have S3 : SA K H3 s h q (setH hs e0.1 (dropI e0.2.2 who)) qs := ⟨l3, C3, by rw [fpe]; exact S.nn⟩
  have hv3 : fh (setH hs e0.1 (dropI e0.2.2 who)) n = some (e0.1, e0.2.1, dropI e0.2.2 who) := fh_set hf
  refine ⟨V.ref e0.2.1, .inl ⟨kvH (setH hs e0.1 (dropI e0.2.2 who)), .inr n, .inl S3.co.hh, rfl, by rw [val_hs, hv3]; rfl⟩, fun p hp => ?_⟩
  have e4 : Ex [] TL GT H3 (upd H3 p (.dK [])) := Ex.new hp
  have S4 := S3.keep e4 (fun _ _ => by simp)
  have t4 : upd H3 p (.dK []) e0.2.1 = some (.dK (tabK (dropI e0.2.2 who))) := e4.ext _ _ (by simp) t3 (fun _ z => by cases z)
  have p4 : upd H3 p (.dK []) p = some (.dK []) := upd_same
  have e04 := e3.trans e4.any
  generalize upd H3 p (.dK []) = H4 at e4 S4 t4 p4 e04 ⊢
  refine .inr ⟨_, p, _, rfl, rfl, t4, p4, _, rfl, ?_⟩
  have hv : lkOf (setH hs e0.1 (dropI e0.2.2 who)) qs = { lkOf hs qs with held := setT (lkOf hs qs).held n (dropI (hold (lkOf hs qs) n) who) } := by rw [setH_lk, hen, ht]
  by_cases hd : dropI e0.2.2 who = []
  · rw [if_pos (by rw [hd]; rfl)]
    refine ⟨h, rfl, .inl ⟨_, .inl S4.co.hh⟩, _, S4.co.hh, .inr n, rfl, V.ref e0.2.1, by show valV (kvH (setH hs e0.1 (dropI e0.2.2 who))) (.inr n) = _; rw [val_hs, hv3]; rfl, ?_⟩
    rw [show dropK (List.map (fun e : Str × Addr × Tab => ((Sum.inr e.1 : Key), V.ref e.2.1)) (setH hs e0.1 (dropI e0.2.2 who))) (.inr n) = kvH (delH (setH hs e0.1 (dropI e0.2.2 who)) n) from drop_kvH _ _]
    have C5 := S4.co.delName n
    have sub : ∀ a, a ∈ fpOf h q (delH (setH hs e0.1 (dropI e0.2.2 who)) n) → a ∈ fpOf h q hs := fun a ha => by
      simp only [fpOf, List.mem_cons, delH, List.mem_map, List.mem_filter] at ha ⊢
      rcases ha with z | z | ⟨x, ⟨hx, _⟩, hxa⟩
      · exact .inl z
      · exact .inr (.inl z)
      · refine .inr (.inr ?_)
        have : x.2.1 ∈ (setH hs e0.1 (dropI e0.2.2 who)).map (·.2.1) := List.mem_map.mpr ⟨x, hx, rfl⟩
        rw [setH_adr] at this
        rw [← hxa]
        obtain ⟨y, hy, e⟩ := List.mem_map.mp this
        exact ⟨y, hy, e⟩
    refine hq (delH (setH hs e0.1 (dropI e0.2.2 who)) n) _ (e04.chg S4.co.hh rfl (.inl (by simp [fpOf]))) ?_ ⟨by rw [upd_ne nsh]; exact S4.hsd, C5, fun z => S.nn (sub _ z)⟩ fun a ha => ?_
    · rw [delH_lk, hv]
      unfold dropL
      rw [ht, if_pos hd, delN_set]
    · rcases List.mem_cons.mp ha with z | z
      · rw [z]; simp
      · exact List.mem_cons_of_mem _ (sub _ z)
  · rw [if_neg (by
      have : tabK (dropI e0.2.2 who) ≠ [] := fun z => hd (List.map_eq_nil_iff.mp z)
      simpa using this)]
    refine hq (setH hs e0.1 (dropI e0.2.2 who)) H4 e04 ?_ S4 fun a ha => by rw [fpe] at ha; exact ha
    rw [hv]
    unfold dropL
    rw [ht, if_neg hd]
theorem inV_int (x : Int) (l : List Int) : inV (.int x) (l.map V.int) = decide (x ∈ l) := by
  unfold inV
  rw [List.any_map, Bool.eq_iff_iff, List.any_eq_true, decide_eq_true_iff]
  constructor
  · rintro ⟨y, hy, e⟩
    have : y = x := by simpa [eqV] using e
    rw [← this]; exact hy
  · exact fun h => ⟨x, h, by simp [eqV]⟩
theorem flat_ints (l : List Int) : (l.map V.int).all flatV = true := by
  rw [List.all_map, List.all_eq_true]
  exact fun _ _ => rfl
structure RnI (TL : List (Addr × Str)) (GT : List Addr) (H : Hp) (s : Addr) (who : Int) (v : Lk) (N : Nat) (i : Nat) (σ : L2.St) (H' : Hp) : Prop where
  s : ∃ (a : Addr) (seen : List Int) (v3 v4 v5 : Option V), σ = [some (.ref s), some (.int who), some (.ref a), v3, v4, v5] ∧ H' a = some (.lst (seen.map V.int)) ∧ In5 seen ∧ ringN v (N + 1 - i) seen = ringN v (N + 1) (waitsL v who)
  e : Ex [] TL GT H H'
structure RnJ (TL : List (Addr × Str)) (GT : List Addr) (H : Hp) (s : Addr) (who : Int) (v : Lk) (v3 : V) (b : Addr) (seen : List Int) (j : Nat) (σ : L2.St) (H' : Hp) : Prop where
  s : ∃ (a : Addr) (v4 v5 : Option V), σ = [some (.ref s), some (.int who), some (.ref a), some v3, v4, v5] ∧ H' a = some (.lst (((seen.take j).foldl (expR v) seen).map V.int))
  e : Ex [] TL GT H H'
  b : H' b = some (.lst (seen.map V.int))
def spLRing (K : PySem.W.Frag) (TL : List (Addr × Str)) (GT : List Addr) : Sp := fun vs H Q E => ∃ s who h q hs qs, vs = [.ref s, .int who] ∧ SA K H s h q hs qs ∧ Wf (lkOf hs qs) ∧
  ∀ (b : Bool) H', Ex [] TL GT H H' → (b = true ↔ Rch (lkOf hs qs) who who) → Q (.bl b) H'
theorem c_law_ring (T : KL.Txt P w K mg base CL PE TL GT) : Cal P w K mg base 10 "_law_ring" (spLRing K TL GT) := by
  have c_law_waits := c_law_waits T
  obtain ⟨f, fd, c, D⟩ := T.d_ring
  refine D.ok (N := ["state", "who", "seen", "turn", "one", "other"]) (ps := ["state", "who"]) ⟨rfl, rfl, rfl, by decide +kernel, rfl, by decide +kernel, by decide +kernel⟩ (fun vs H Q E h => by first | (obtain ⟨_, rfl, _⟩ := h; rfl) | (obtain ⟨_, _, rfl, _⟩ := h; rfl) | (obtain ⟨_, _, _, rfl, _⟩ := h; rfl) | (obtain ⟨_, _, _, _, rfl, _⟩ := h; rfl) | (obtain ⟨_, _, _, _, _, rfl, _⟩ := h; rfl) | (obtain ⟨_, _, _, _, _, _, rfl, _⟩ := h; rfl) | (obtain ⟨_, _, _, _, _, _, _, rfl, _⟩ := h; rfl) | (obtain ⟨_, _, _, _, _, _, _, _, rfl, _⟩ := h; rfl) | (obtain ⟨_, _, _, _, _, _, _, _, _, rfl, _⟩ := h; rfl) | (obtain ⟨_, _, _, _, _, _, _, _, _, _, rfl, _⟩ := h; rfl) | (obtain ⟨_, _, _, _, _, _, _, _, _, _, _, rfl, _⟩ := h; rfl) | (obtain ⟨_, _, _, _, _, _, _, _, _, _, _, _, rfl, _⟩ := h; rfl) | (obtain ⟨_, _, _, _, _, _, _, _, _, _, _, _, _, rfl, _⟩ := h; rfl) | (obtain ⟨_, _, _, _, _, _, _, _, _, _, _, _, _, _, rfl, _⟩ := h; rfl) | (obtain ⟨_, _, _, _, _, _, _, _, _, _, _, _, _, _, _, rfl, _⟩ := h; rfl) | (obtain ⟨rfl, _⟩ := h; rfl)) (fun _ _ _ _ _ _ us hl => match us, hl with | [_, _], _ => rfl) (fun A outer s H vs Q E hr h => ?_)
  have nd : (["state", "who", "seen", "turn", "one", "other"] : List Str).Nodup := by decide
  refine mk_ex (pss_cons (ps_set (i := 2) nd rfl (Or.inr rfl) (GX.pe_call c_law_waits (hr.mono (by decide)) (takes_of rfl rfl rfl rfl) (by exact (pa_cons (pv 0) (pa_cons (pv 1) pa_nil)))))
    (pss_cons (ps_for (passes_of rfl) rfl (pi_range1 rfl T.n_range (pa_cons (pe_op (opK (K := K) (r := rAddU) opU_add rfl) (pe_callB (call_lenU (K := K) rfl) rfl T.n_len rfl (by exact (pa_cons (pe_dget (roomD hr) (pv 0) pe_str (fun _ _ => rfl)) pa_nil))) pe_int) pa_nil)) (pg_name (i := 3) nd rfl (Or.inl rfl)) (pss_one (ps_for (passes_of rfl) rfl (ilK (K := K) rfl (pi_list (pe_callTy (listOfK (K := K) rfl) rfl T.n_list rfl (by exact (pa_cons (pv 2) pa_nil))))) (pg_name (i := 4) nd rfl (Or.inl rfl)) (pss_one (ps_set (i := 2) nd rfl (Or.inr rfl) (pe_op (opK (K := K) (r := rAddU) opU_add rfl) (pv 2) (pe_lc rfl nd (ilK (K := K) rfl (pi_list (GX.pe_call c_law_waits (hr.mono (by decide)) (takes_of rfl rfl rfl rfl) (by exact (pa_cons (pv 0) (pa_cons (pv 4) pa_nil)))))) (show BlkOk ["state", "who", "seen", "turn", "one", "other"] (defScope (top 12)) _ [("other", 5)] from blkOk_by (by decide +kernel)) (fun s H C cl fp => (pg_name (i := 5) nd rfl (Or.inl rfl))) (fun s H C cl fp => (pts_one (pt_cmpR (opK (K := K) (r := fun K => rIn K true) op_notIn_seq rfl) (pv 5) (pv 2) rfl))) (fun s H C cl fp => (pv 5)))))))))
    (pss_one (ps_ret (pe_cmpR (opK (K := K) (r := fun K => rIn K false) op_in_seq rfl) (pv 1) (pv 2) rfl))))) ?_
  obtain ⟨s, who, h, q, hs, qs, rfl, S, W, hq⟩ := h
  simp only [cx_K, gcx_K, lcx_K, LenV, rLenU, tTruU, kTup, tFld, sFld, sFldAug, tMet, tMake, tBM, tDGet, tDGet1, tDGet2, sDPut, tRevL, iEnum, tAug, tAsg, mulV_int, iaddU_int, isubU_int, iaddU_str, tTupL, ex2eq, not_true_eq_false, not_false_eq_true, LamX.tLam, LamX.TTold, tSeq, tIf, tNext, tRet, tRetN, tIfS, tTest, tB, tNot, tAnd, tOr, tChain, tOp, tUn, tC, tVar, tCons, tNil, tTup, tLst, tAsg, gName, gTup, gCons, gNil, gSub, tDrop, tCallS, tCB, tM1, tM0, tBM, tBM0, tSl, tPar, tFor_eq, tLc_eq, intU_int, intU_bl, iList, iTup, iEnumT, tDNewK, rSlT, rSlL, iRng1, iRng2, iStr, tThen, tNever, L2.start, tRaiseFile, tMkFile, tYes, tPart, tNoPart, addA_int, addA_str, addU_int, addU_str, addU_ref, subU_int, mulU_int, mulU_ref, fdvU_int, modU_int, powU_int, ltU_int, leU_int, gtU_int, geU_int, eqU_int, eqU_str, eqU_bl, neU_int, neU_str, neU_bl, WE, TruV, tDIn, tDNotIn, sDDel, tDSetd, tDPop1, tLock, tLockE, tLk, tLockA, tLockEA, iKeys, List.map, List.length_cons, List.length_nil, List.replicate, List.append, List.getElem?_cons_zero, List.getElem?_cons_succ, List.set_cons_zero, List.set_cons_succ, List.cons_append, List.nil_append, Option.some.injEq, V.int.injEq, V.str.injEq, V.bl.injEq, V.ref.injEq, List.cons.injEq, exists_eq_left, exists_eq_right, and_true, true_and, and_self, exists_eq, exists_const, Bool.not_true, Bool.not_false, Bool.false_eq_true, if_true, if_false, reduceIte, decide_eq_true_eq, bne_iff_ne, exists_eq_left', exists_eq', exists_and_left, Bool.not_eq_true', decide_eq_false_iff_not, Nat.reduceSub, Nat.reduceAdd, reduceCtorEq, false_and, or_false, false_or, exists_false]
  refine ⟨s, who, h, q, hs, qs, rfl, S, W, fun a H1 e1 h1 hn1 => ?_⟩
  have S1 := S.keep e1 (fun _ _ => by simp)
  have q5 : qs.length ≤ 5 := by have := W.q5; unfold lkOf at this; rw [List.length_map] at this; exact this
  refine ⟨_, S1.gq, qs.length, .inl ⟨_, lst_at S1.co.hq, by rw [List.length_map]⟩, by omega, by omega, ?_⟩
  have hN : ((qs.length : Int) + 1).toNat = qs.length + 1 := by omega
  rw [hN]
  refine loop_range (RnI TL GT H s who (lkOf hs qs) qs.length) ⟨⟨a, _, _, _, _, rfl, h1, waits_in5 W who, rfl⟩, e1⟩ ?_ ?_
  · rintro i σ H2 hi ⟨⟨a, seen, v3, v4, v5, rfl, h2, i5, hr⟩, e2⟩
    simp only [cx_K, gcx_K, lcx_K, LenV, rLenU, tTruU, kTup, tFld, sFld, sFldAug, tMet, tMake, tBM, tDGet, tDGet1, tDGet2, sDPut, tRevL, iEnum, tAug, tAsg, mulV_int, iaddU_int, isubU_int, iaddU_str, tTupL, ex2eq, not_true_eq_false, not_false_eq_true, LamX.tLam, LamX.TTold, tSeq, tIf, tNext, tRet, tRetN, tIfS, tTest, tB, tNot, tAnd, tOr, tChain, tOp, tUn, tC, tVar, tCons, tNil, tTup, tLst, tAsg, gName, gTup, gCons, gNil, gSub, tDrop, tCallS, tCB, tM1, tM0, tBM, tBM0, tSl, tPar, tFor_eq, tLc_eq, intU_int, intU_bl, iList, iTup, iEnumT, tDNewK, rSlT, rSlL, iRng1, iRng2, iStr, tThen, tNever, L2.start, tRaiseFile, tMkFile, tYes, tPart, tNoPart, addA_int, addA_str, addU_int, addU_str, addU_ref, subU_int, mulU_int, mulU_ref, fdvU_int, modU_int, powU_int, ltU_int, leU_int, gtU_int, geU_int, eqU_int, eqU_str, eqU_bl, neU_int, neU_str, neU_bl, WE, TruV, tDIn, tDNotIn, sDDel, tDSetd, tDPop1, tLock, tLockE, tLk, tLockA, tLockEA, iKeys, List.map, List.length_cons, List.length_nil, List.replicate, List.append, List.getElem?_cons_zero, List.getElem?_cons_succ, List.set_cons_zero, List.set_cons_succ, List.cons_append, List.nil_append, Option.some.injEq, V.int.injEq, V.str.injEq, V.bl.injEq, V.ref.injEq, List.cons.injEq, exists_eq_left, exists_eq_right, and_true, true_and, and_self, exists_eq, exists_const, Bool.not_true, Bool.not_false, Bool.false_eq_true, if_true, if_false, reduceIte, decide_eq_true_eq, bne_iff_ne, exists_eq_left', exists_eq', exists_and_left, Bool.not_eq_true', decide_eq_false_iff_not, Nat.reduceSub, Nat.reduceAdd, reduceCtorEq, false_and, or_false, false_or, exists_false]
    refine ⟨a, _, rfl, .inl (lst_at h2), fun b hb => ⟨b, rfl, ⟨_, lst_at upd_same⟩, ?_⟩⟩
    have eb : Ex [] TL GT H2 (upd H2 b (.lst (seen.map V.int))) := Ex.new hb
    have hab := eb.lst (by simp) h2
    have hbb : upd H2 b (.lst (seen.map V.int)) b = some (.lst (seen.map V.int)) := upd_same
    have e3 := e2.trans eb
    generalize upd H2 b (.lst (seen.map V.int)) = H3 at eb hab hbb e3 ⊢
    refine loop_list (xs := seen.map V.int) (RnJ TL GT H s who (lkOf hs qs) (.int (0 + (i : Nat))) b seen) ⟨⟨a, _, _, rfl, hab⟩, e3, hbb⟩ (fun j σ H' _ I => lst_at I.b) ?_ ?_
    · rintro j x σ H4 hx ⟨⟨a4, v4, v5, rfl, h4⟩, e4, hb4⟩
      rw [List.getElem?_map] at hx
      cases hni : seen[j]? with
      | none => rw [hni] at hx; cases hx
      | some one =>
        rw [hni] at hx
        obtain rfl : V.int one = x := Option.some.inj hx
        simp only [cx_K, gcx_K, lcx_K, LenV, rLenU, tTruU, kTup, tFld, sFld, sFldAug, tMet, tMake, tBM, tDGet, tDGet1, tDGet2, sDPut, tRevL, iEnum, tAug, tAsg, mulV_int, iaddU_int, isubU_int, iaddU_str, tTupL, ex2eq, not_true_eq_false, not_false_eq_true, LamX.tLam, LamX.TTold, tSeq, tIf, tNext, tRet, tRetN, tIfS, tTest, tB, tNot, tAnd, tOr, tChain, tOp, tUn, tC, tVar, tCons, tNil, tTup, tLst, tAsg, gName, gTup, gCons, gNil, gSub, tDrop, tCallS, tCB, tM1, tM0, tBM, tBM0, tSl, tPar, tFor_eq, tLc_eq, intU_int, intU_bl, iList, iTup, iEnumT, tDNewK, rSlT, rSlL, iRng1, iRng2, iStr, tThen, tNever, L2.start, tRaiseFile, tMkFile, tYes, tPart, tNoPart, addA_int, addA_str, addU_int, addU_str, addU_ref, subU_int, mulU_int, mulU_ref, fdvU_int, modU_int, powU_int, ltU_int, leU_int, gtU_int, geU_int, eqU_int, eqU_str, eqU_bl, neU_int, neU_str, neU_bl, WE, TruV, tDIn, tDNotIn, sDDel, tDSetd, tDPop1, tLock, tLockE, tLk, tLockA, tLockEA, iKeys, List.map, List.length_cons, List.length_nil, List.replicate, List.append, List.getElem?_cons_zero, List.getElem?_cons_succ, List.set_cons_zero, List.set_cons_succ, List.cons_append, List.nil_append, Option.some.injEq, V.int.injEq, V.str.injEq, V.bl.injEq, V.ref.injEq, List.cons.injEq, exists_eq_left, exists_eq_right, and_true, true_and, and_self, exists_eq, exists_const, Bool.not_true, Bool.not_false, Bool.false_eq_true, if_true, if_false, reduceIte, decide_eq_true_eq, bne_iff_ne, exists_eq_left', exists_eq', exists_and_left, Bool.not_eq_true', decide_eq_false_iff_not, Nat.reduceSub, Nat.reduceAdd, reduceCtorEq, false_and, or_false, false_or, exists_false]
        have S4 := S.keep e4 (fun _ _ => by simp)
        refine ⟨s, one, h, q, hs, qs, rfl, S4, W, fun c5 H5 e5 h5 hn5 => ⟨c5, rfl, ⟨_, lst_at h5⟩, fun D hD => ?_⟩⟩
        generalize hcur : (seen.take j).foldl (expR (lkOf hs qs)) seen = cur at *
        have hc5 : In5 cur := by rw [← hcur]; exact fold_in5 W _ i5
        have hl5 := hc5.len
        have hw5 := (waits_in5 W one).len
        have ha5 := e5.lst (by simp) h4
        have hb5 := e5.lst (by simp) hb4
        have e45 := e4.trans e5
        refine lcl_list (xs := (waitsL (lkOf hs qs) one).map V.int) (fun k H' => Ex [] TL GT H5 H' ∧ H' D = some (.lst ((((waitsL (lkOf hs qs) one).take k).filter fun o => decide (o ∉ cur)).map V.int))) ⟨Ex.new hD, upd_same⟩ (fun k H' _ e => lst_at (e.1.lst (by simp) h5)) ?_ ?_
        · rintro k x H6 hx ⟨e6, h6⟩
          rw [List.getElem?_map] at hx
          cases hok : (waitsL (lkOf hs qs) one)[k]? with
          | none => rw [hok] at hx; cases hx
          | some o =>
            rw [hok] at hx
            obtain rfl : V.int o = x := Option.some.inj hx
            simp only [cx_K, gcx_K, lcx_K, LenV, rLenU, tTruU, kTup, tFld, sFld, sFldAug, tMet, tMake, tBM, tDGet, tDGet1, tDGet2, sDPut, tRevL, iEnum, tAug, tAsg, mulV_int, iaddU_int, isubU_int, iaddU_str, tTupL, ex2eq, not_true_eq_false, not_false_eq_true, LamX.tLam, LamX.TTold, tSeq, tIf, tNext, tRet, tRetN, tIfS, tTest, tB, tNot, tAnd, tOr, tChain, tOp, tUn, tC, tVar, tCons, tNil, tTup, tLst, tAsg, gName, gTup, gCons, gNil, gSub, tDrop, tCallS, tCB, tM1, tM0, tBM, tBM0, tSl, tPar, tFor_eq, tLc_eq, intU_int, intU_bl, iList, iTup, iEnumT, tDNewK, rSlT, rSlL, iRng1, iRng2, iStr, tThen, tNever, L2.start, tRaiseFile, tMkFile, tYes, tPart, tNoPart, addA_int, addA_str, addU_int, addU_str, addU_ref, subU_int, mulU_int, mulU_ref, fdvU_int, modU_int, powU_int, ltU_int, leU_int, gtU_int, geU_int, eqU_int, eqU_str, eqU_bl, neU_int, neU_str, neU_bl, WE, TruV, tDIn, tDNotIn, sDDel, tDSetd, tDPop1, tLock, tLockE, tLk, tLockA, tLockEA, iKeys, List.map, List.length_cons, List.length_nil, List.replicate, List.append, List.getElem?_cons_zero, List.getElem?_cons_succ, List.set_cons_zero, List.set_cons_succ, List.cons_append, List.nil_append, Option.some.injEq, V.int.injEq, V.str.injEq, V.bl.injEq, V.ref.injEq, List.cons.injEq, exists_eq_left, exists_eq_right, and_true, true_and, and_self, exists_eq, exists_const, Bool.not_true, Bool.not_false, Bool.false_eq_true, if_true, if_false, reduceIte, decide_eq_true_eq, bne_iff_ne, exists_eq_left', exists_eq', exists_and_left, Bool.not_eq_true', decide_eq_false_iff_not, Nat.reduceSub, Nat.reduceAdd, reduceCtorEq, false_and, or_false, false_or, exists_false, wipe]
            have ha6 := e6.lst (by simp) ha5
            have hstep : ((waitsL (lkOf hs qs) one).take (k + 1)).filter (fun o => decide (o ∉ cur)) = ((waitsL (lkOf hs qs) one).take k).filter (fun o => decide (o ∉ cur)) ++ (if o ∉ cur then [o] else []) := by
              rw [List.take_succ, hok, List.filter_append]
              congr 1
              rw [Option.toList_some, List.filter_cons]
              by_cases z : o ∈ cur <;> simp [z]
            have hlen := List.length_filter_le (fun o => decide (o ∉ cur)) ((waitsL (lkOf hs qs) one).take k)
            rw [List.length_take] at hlen
            refine ⟨a4, _, rfl, .inl (lst_at ha6), rfl, flat_ints cur, ?_⟩
            refine ⟨_, rfl, ?_⟩
            rw [if_pos rfl, inV_int]
            by_cases z : o ∈ cur
            · rw [if_neg (by simpa using z)]
              exact ⟨e6, by rw [h6, hstep, if_neg (by simpa using z), List.append_nil]⟩
            · rw [if_pos (by simpa using z)]
              refine ⟨_, h6, by rw [List.length_map, sizeLine_eq]; omega, e6.chg h6 rfl (.inr (free_none hD)), ?_⟩
              rw [upd_same, hstep, if_pos z, List.map_append]; rfl
        · rintro H6 ⟨e6, h6⟩
          rw [List.take_of_length_le (by simp)] at h6
          have hlen := List.length_filter_le (fun o => decide (o ∉ cur)) (waitsL (lkOf hs qs) one)
          refine .inr ⟨a4, D, _, _, rfl, rfl, e6.lst (by simp) ha5, h6, by rw [List.length_map, List.length_map, sizeLine_eq]; omega, fun r7 hr7 => ?_⟩
          refine ⟨⟨r7, _, _, rfl, ?_⟩, (e45.trans e6).add hr7, (e6.add hr7).lst (by simp) hb5⟩
          rw [upd_same, List.take_succ, hni, List.foldl_append, hcur, ← List.map_append]; rfl
    · rintro σ H4 ⟨⟨a4, v4, v5, rfl, h4⟩, e4, hb4⟩
      rw [List.length_map, List.take_of_length_le (Nat.le_refl _)] at h4
      refine ⟨⟨a4, _, _, _, _, rfl, h4, fold_in5 W _ i5, ?_⟩, e4⟩
      have : qs.length + 1 - i = (qs.length + 1 - (i + 1)) + 1 := by omega
      rw [this] at hr
      exact hr
  · rintro σ H2 ⟨⟨a, seen, v3, v4, v5, rfl, h2, i5, hr⟩, e2⟩
    rw [Nat.sub_self] at hr
    simp only [cx_K, gcx_K, lcx_K, LenV, rLenU, tTruU, kTup, tFld, sFld, sFldAug, tMet, tMake, tBM, tDGet, tDGet1, tDGet2, sDPut, tRevL, iEnum, tAug, tAsg, mulV_int, iaddU_int, isubU_int, iaddU_str, tTupL, ex2eq, not_true_eq_false, not_false_eq_true, LamX.tLam, LamX.TTold, tSeq, tIf, tNext, tRet, tRetN, tIfS, tTest, tB, tNot, tAnd, tOr, tChain, tOp, tUn, tC, tVar, tCons, tNil, tTup, tLst, tAsg, gName, gTup, gCons, gNil, gSub, tDrop, tCallS, tCB, tM1, tM0, tBM, tBM0, tSl, tPar, tFor_eq, tLc_eq, intU_int, intU_bl, iList, iTup, iEnumT, tDNewK, rSlT, rSlL, iRng1, iRng2, iStr, tThen, tNever, L2.start, tRaiseFile, tMkFile, tYes, tPart, tNoPart, addA_int, addA_str, addU_int, addU_str, addU_ref, subU_int, mulU_int, mulU_ref, fdvU_int, modU_int, powU_int, ltU_int, leU_int, gtU_int, geU_int, eqU_int, eqU_str, eqU_bl, neU_int, neU_str, neU_bl, WE, TruV, tDIn, tDNotIn, sDDel, tDSetd, tDPop1, tLock, tLockE, tLk, tLockA, tLockEA, iKeys, List.map, List.length_cons, List.length_nil, List.replicate, List.append, List.getElem?_cons_zero, List.getElem?_cons_succ, List.set_cons_zero, List.set_cons_succ, List.cons_append, List.nil_append, Option.some.injEq, V.int.injEq, V.str.injEq, V.bl.injEq, V.ref.injEq, List.cons.injEq, exists_eq_left, exists_eq_right, and_true, true_and, and_self, exists_eq, exists_const, Bool.not_true, Bool.not_false, Bool.false_eq_true, if_true, if_false, reduceIte, decide_eq_true_eq, bne_iff_ne, exists_eq_left', exists_eq', exists_and_left, Bool.not_eq_true', decide_eq_false_iff_not, Nat.reduceSub, Nat.reduceAdd, reduceCtorEq, false_and, or_false, false_or, exists_false]
    refine ⟨a, _, rfl, .inl (lst_at h2), rfl, flat_ints seen, ?_⟩
    have hr : seen = ringN (lkOf hs qs) (qs.length + 1) (waitsL (lkOf hs qs) who) := hr
    rw [if_neg (by decide), inV_int, hr]
    refine hq _ H2 e2 ?_
    rw [decide_eq_true_iff]
    have := ring_ok (lkOf hs qs) who
    rw [show (lkOf hs qs).queue.length = qs.length by unfold lkOf; rw [List.length_map]] at this
    exact this
end
end KL
end
section
set_option Elab.async false
set_option linter.all false
set_option maxRecDepth 100000
set_option maxHeartbeats 2000000
set_option pp.maxSteps 900
namespace KL
open PySem PySem.Spec PyProof.Rows L2 GX
section
variable {P : Program} {w : World} {K : PySem.W.Frag} {mg : Str → Option Value} {base : Heap} {CL PE : Addr} {TL : List (Addr × Str)} {GT : List Addr} {H H' : Hp} {h q l s dx : Addr} {hs : List (Str × Addr × Tab)} {qs : List (Addr × Row)} {v : Lk} {F A : List Addr}
theorem SA.lst_off {p : Addr} {xs : List V} (L : SA K H s h q hs qs) (hp : H p = some (.lst xs)) (n : p ≠ q) : p ∉ s :: fpOf h q hs := fun z => by
  simp only [fpOf, List.mem_cons, List.mem_map] at z
  rcases z with rfl | rfl | rfl | ⟨e, he, rfl⟩
  · rw [L.hsd] at hp; cases hp
  · rw [L.co.hh] at hp; cases hp
  · exact n rfl
  · rw [L.co.ht e he] at hp; cases hp
def SvX (K : PySem.W.Frag) (TL : List (Addr × Str)) (GT : List Addr) (H : Hp) (s h q : Addr) (F : List Addr) (p : Addr) (v0 : Lk) (i : Nat) (σ : L2.St) (H' : Hp) : Prop :=
  ∃ (b : Bool) (v3 v4 v5 : Option V) (hs : List (Str × Addr × Tab)) (qs : List (Addr × Row)) (fo : List Int), σ = [some (.ref s), some (.ref p), some (.bl b), v3, v4, v5] ∧ Ex F TL GT H H' ∧ SA K H' s h q hs qs ∧ (∀ a ∈ s :: fpOf h q hs, a ∈ F ∨ free H a) ∧ Wf (lkOf hs qs) ∧
    H' p = some (.lst (fo.map V.int)) ∧ (b = true → serveN 50 v0 = ((serveN (50 - i) (lkOf hs qs)).1, fo ++ (serveN (50 - i) (lkOf hs qs)).2)) ∧ (b = false → serveN 50 v0 = (lkOf hs qs, fo)) ∧ qs.length + fo.length ≤ 5
structure SvY (K : PySem.W.Frag) (TL : List (Addr × Str)) (GT : List Addr) (H : Hp) (s h q : Addr) (F : List Addr) (p r : Addr) (v3 : V) (snap : List (Addr × Row)) (v1 : Lk) (fo : List Int) (i : Nat) (σ : L2.St) (H' : Hp) : Prop where
  w : ∃ (v4 v5 : Option V) (hs : List (Str × Addr × Tab)) (qs : List (Addr × Row)) (f : List Int), σ = [some (.ref s), some (.ref p), some (.bl (decide (f ≠ []))), some v3, v4, v5] ∧ SA K H' s h q hs qs ∧ (∀ a ∈ s :: fpOf h q hs, a ∈ F ∨ free H a) ∧ Wf (lkOf hs qs) ∧
    H' p = some (.lst ((fo ++ f).map V.int)) ∧ (∀ e ∈ snap.drop i, e ∈ qs) ∧ passL v1 (snap.map (·.2)) = ((passL (lkOf hs qs) ((snap.map (·.2)).drop i)).1, f ++ (passL (lkOf hs qs) ((snap.map (·.2)).drop i)).2) ∧ qs.length + f.length ≤ snap.length ∧ qs.length + (fo ++ f).length ≤ 5
  e : Ex F TL GT H H'
  r : H' r = some (.lst (snap.map fun e => V.ref e.1))
def spLServe (K : PySem.W.Frag) (TL : List (Addr × Str)) (GT : List Addr) : Sp := fun vs H Q E => ∃ s h q hs qs, vs = [.ref s] ∧ SA K H s h q hs qs ∧ Wf (lkOf hs qs) ∧
  ∀ a hs' qs' H', Ex (s :: fpOf h q hs) TL GT H H' → (serveN 50 (lkOf hs qs)).1 = lkOf hs' qs' → SA K H' s h q hs' qs' → (∀ a ∈ s :: fpOf h q hs', a ∈ s :: fpOf h q hs ∨ free H a) → H' a = some (.lst ((serveN 50 (lkOf hs qs)).2.map V.int)) → free H a → Q (.ref a) H'
theorem c_law_serve (T : KL.Txt P w K mg base CL PE TL GT) : Cal P w K mg base 8 "_law_serve" (spLServe K TL GT) := by
  have c_law_blocked := c_law_blocked T
  have c_law_take := c_law_take T
  obtain ⟨f, fd, c, D⟩ := T.d_serve
  refine D.ok (N := ["state", "found", "again", "turn", "row", "queue"]) (ps := ["state"]) ⟨rfl, rfl, rfl, by decide +kernel, rfl, by decide +kernel, by decide +kernel⟩ (fun vs H Q E h => by first | (obtain ⟨_, rfl, _⟩ := h; rfl) | (obtain ⟨_, _, rfl, _⟩ := h; rfl) | (obtain ⟨_, _, _, rfl, _⟩ := h; rfl) | (obtain ⟨_, _, _, _, rfl, _⟩ := h; rfl) | (obtain ⟨_, _, _, _, _, rfl, _⟩ := h; rfl) | (obtain ⟨_, _, _, _, _, _, rfl, _⟩ := h; rfl) | (obtain ⟨_, _, _, _, _, _, _, rfl, _⟩ := h; rfl) | (obtain ⟨_, _, _, _, _, _, _, _, rfl, _⟩ := h; rfl) | (obtain ⟨_, _, _, _, _, _, _, _, _, rfl, _⟩ := h; rfl) | (obtain ⟨_, _, _, _, _, _, _, _, _, _, rfl, _⟩ := h; rfl) | (obtain ⟨_, _, _, _, _, _, _, _, _, _, _, rfl, _⟩ := h; rfl) | (obtain ⟨_, _, _, _, _, _, _, _, _, _, _, _, rfl, _⟩ := h; rfl) | (obtain ⟨_, _, _, _, _, _, _, _, _, _, _, _, _, rfl, _⟩ := h; rfl) | (obtain ⟨_, _, _, _, _, _, _, _, _, _, _, _, _, _, rfl, _⟩ := h; rfl) | (obtain ⟨_, _, _, _, _, _, _, _, _, _, _, _, _, _, _, rfl, _⟩ := h; rfl) | (obtain ⟨rfl, _⟩ := h; rfl)) (fun _ _ _ _ _ _ us hl => match us, hl with | [_], _ => rfl) (fun A outer s H vs Q E hr h => ?_)
  have nd : (["state", "found", "again", "turn", "row", "queue"] : List Str).Nodup := by decide
  refine mk_ex (pss_cons (ps_par (i := 1) (j := 2) rfl nd rfl rfl (by decide) rfl rfl (by exact (pa_cons (pe_lst pa_nil) (pa_cons pe_bl pa_nil))) (by first | rfl | kernel_rfl))
    (pss_cons (ps_for (passes_of rfl) rfl (pi_range1 rfl T.n_range (pa_cons pe_int pa_nil)) (pg_name (i := 3) nd rfl (Or.inl rfl)) (pss_cons (ps_if (pt_not (pt_truU (K := K) rfl (by exact (pt_truth (pv 2) (fun _ => rfl))))) (pss_one ps_break) pss_nil)
    (pss_cons (ps_set (i := 2) nd rfl (Or.inl rfl) pe_bl)
    (pss_one (ps_for (passes_of rfl) rfl (ilK (K := K) rfl (pi_list (pe_callTy (listOfK (K := K) rfl) rfl T.n_list rfl (by exact (pa_cons (pe_dget (roomD hr) (pv 0) pe_str (fun _ _ => rfl)) pa_nil))))) (pg_name (i := 4) nd rfl (Or.inl rfl)) (pss_one (ps_if (pt_cmpR (opK (K := K) (r := rEqU) (opU_eq (roomEq hr)) rfl) (GX.pe_call c_law_blocked (hr.mono (by decide)) (takes_of rfl rfl rfl rfl) (by exact (pa_cons (pv 0) (pa_cons (pe_ix (ixK (K := K) (r := rIx) ix_seq rfl) (pv 4) pe_int (fun _ _ => rfl)) (pa_cons (pe_ix (ixK (K := K) (r := rIx) ix_seq rfl) (pv 4) pe_int (fun _ _ => rfl)) (pa_cons (pe_ix (ixK (K := K) (r := rIx) ix_seq rfl) (pv 4) pe_int (fun _ _ => rfl)) pa_nil)))))) (pe_lst pa_nil) (nomark _)) (pss_cons (ps_set (i := 5) nd rfl (Or.inl rfl) (pe_dget (roomD hr) (pv 0) pe_str (fun _ _ => rfl)))
    (pss_cons (ps_expr (bmK (K := K) rfl (pe_bm PySem.F.plainAttrs_list PySem.F.slot_list_remove PySem.F.type_list_remove (rmK (K := K) rfl (mt_removeD (room66 hr))) (pv 5) (by exact (pa_cons (pv 4) pa_nil)))))
    (pss_cons (ps_expr (GX.pe_call c_law_take (hr.mono (by decide)) (takes_of rfl rfl rfl rfl) (by exact (pa_cons (pv 0) (pa_cons (pe_ix (ixK (K := K) (r := rIx) ix_seq rfl) (pv 4) pe_int (fun _ _ => rfl)) (pa_cons (pe_ix (ixK (K := K) (r := rIx) ix_seq rfl) (pv 4) pe_int (fun _ _ => rfl)) (pa_cons (pe_ix (ixK (K := K) (r := rIx) ix_seq rfl) (pv 4) pe_int (fun _ _ => rfl)) pa_nil)))))))
    (pss_cons (ps_expr (bmK (K := K) rfl (pe_bm PySem.F.plainAttrs_list PySem.F.slot_list_append PySem.F.type_list_append mt_append (pv 1) (by exact (pa_cons (pe_ix (ixK (K := K) (r := rIx) ix_seq rfl) (pv 4) pe_int (fun _ _ => rfl)) pa_nil)))))
    (pss_one (ps_set (i := 2) nd rfl (Or.inl rfl) pe_bl)))))) pss_nil)))))))
    (pss_one (ps_ret (pv 1))))) ?_
  obtain ⟨s, h, q, hs, qs, rfl, S, W, hq⟩ := h
  simp only [cx_K, gcx_K, lcx_K, LenV, rLenU, tTruU, kTup, tFld, sFld, sFldAug, tMet, tMake, tBM, tDGet, tDGet1, tDGet2, sDPut, tRevL, iEnum, tAug, tAsg, mulV_int, iaddU_int, isubU_int, iaddU_str, tTupL, ex2eq, not_true_eq_false, not_false_eq_true, LamX.tLam, LamX.TTold, tSeq, tIf, tNext, tRet, tRetN, tIfS, tTest, tB, tNot, tAnd, tOr, tChain, tOp, tUn, tC, tVar, tCons, tNil, tTup, tLst, tAsg, gName, gTup, gCons, gNil, gSub, tDrop, tCallS, tCB, tM1, tM0, tBM, tBM0, tSl, tPar, tFor_eq, tLc_eq, intU_int, intU_bl, iList, iTup, iEnumT, tDNewK, rSlT, rSlL, iRng1, iRng2, iStr, tThen, tNever, L2.start, tRaiseFile, tMkFile, tYes, tPart, tNoPart, addA_int, addA_str, addU_int, addU_str, addU_ref, subU_int, mulU_int, mulU_ref, fdvU_int, modU_int, powU_int, ltU_int, leU_int, gtU_int, geU_int, eqU_int, eqU_str, eqU_bl, neU_int, neU_str, neU_bl, WE, TruV, tDIn, tDNotIn, sDDel, tDSetd, tDPop1, tLock, tLockE, tLk, tLockA, tLockEA, iKeys, List.map, List.length_cons, List.length_nil, List.replicate, List.append, List.getElem?_cons_zero, List.getElem?_cons_succ, List.set_cons_zero, List.set_cons_succ, List.cons_append, List.nil_append, Option.some.injEq, V.int.injEq, V.str.injEq, V.bl.injEq, V.ref.injEq, List.cons.injEq, exists_eq_left, exists_eq_right, and_true, true_and, and_self, exists_eq, exists_const, Bool.not_true, Bool.not_false, Bool.false_eq_true, if_true, if_false, reduceIte, decide_eq_true_eq, bne_iff_ne, exists_eq_left', exists_eq', exists_and_left, Bool.not_eq_true', decide_eq_false_iff_not, Nat.reduceSub, Nat.reduceAdd, reduceCtorEq, false_and, or_false, false_or, exists_false]
  refine ⟨Nat.zero_le _, fun p hp => ⟨by decide, by decide, ?_⟩⟩
  have e1 : Ex [] TL GT H (upd H p (.lst [])) := Ex.new hp
  have p1 : upd H p (.lst []) p = some (.lst (([] : List Int).map V.int)) := upd_same
  have S1 := S.keep e1 (fun _ _ => by simp)
  have hpF := S.notin hp
  have hnp := free_none hp
  have q5 : qs.length ≤ 5 := by have := W.q5; unfold lkOf at this; rw [List.length_map] at this; exact this
  generalize upd H p (.lst []) = H1 at e1 p1 S1 ⊢
  rw [show Int.toNat 50 = 50 from rfl]
  have hend : ∀ (σ : L2.St) (H2 : Hp) (fo : List Int) (hs2 : List (Str × Addr × Tab)) (qs2 : List (Addr × Row)), Ex (s :: fpOf h q hs) TL GT H H2 → SA K H2 s h q hs2 qs2 → (∀ a ∈ s :: fpOf h q hs2, a ∈ s :: fpOf h q hs ∨ free H a) → H2 p = some (.lst (fo.map V.int)) → serveN 50 (lkOf hs qs) = (lkOf hs2 qs2, fo) → Q (.ref p) H2 :=
    fun σ H2 fo hs2 qs2 e2 S2 fp2 hp2 hr => hq p hs2 qs2 H2 e2 (by rw [hr]) S2 fp2 (by rw [hp2, hr]) hnp
  refine loop_range (SvX K TL GT H s h q (s :: fpOf h q hs) p (lkOf hs qs)) ⟨true, none, none, none, hs, qs, [], rfl, e1.any, S1, fun a ha => .inl ha, W, p1, (fun _ => rfl), (fun z => by cases z), by simpa using q5⟩ ?_ ?_
  · rintro i σ H2 hi ⟨b, v3, v4, v5, hs2, qs2, fo, rfl, e2, S2, fp2, W2, hp2, hb1, hb2, hz5⟩
    simp only [cx_K, gcx_K, lcx_K, LenV, rLenU, tTruU, kTup, tFld, sFld, sFldAug, tMet, tMake, tBM, tDGet, tDGet1, tDGet2, sDPut, tRevL, iEnum, tAug, tAsg, mulV_int, iaddU_int, isubU_int, iaddU_str, tTupL, ex2eq, not_true_eq_false, not_false_eq_true, LamX.tLam, LamX.TTold, tSeq, tIf, tNext, tRet, tRetN, tIfS, tTest, tB, tNot, tAnd, tOr, tChain, tOp, tUn, tC, tVar, tCons, tNil, tTup, tLst, tAsg, gName, gTup, gCons, gNil, gSub, tDrop, tCallS, tCB, tM1, tM0, tBM, tBM0, tSl, tPar, tFor_eq, tLc_eq, intU_int, intU_bl, iList, iTup, iEnumT, tDNewK, rSlT, rSlL, iRng1, iRng2, iStr, tThen, tNever, L2.start, tRaiseFile, tMkFile, tYes, tPart, tNoPart, addA_int, addA_str, addU_int, addU_str, addU_ref, subU_int, mulU_int, mulU_ref, fdvU_int, modU_int, powU_int, ltU_int, leU_int, gtU_int, geU_int, eqU_int, eqU_str, eqU_bl, neU_int, neU_str, neU_bl, WE, TruV, tDIn, tDNotIn, sDDel, tDSetd, tDPop1, tLock, tLockE, tLk, tLockA, tLockEA, iKeys, List.map, List.length_cons, List.length_nil, List.replicate, List.append, List.getElem?_cons_zero, List.getElem?_cons_succ, List.set_cons_zero, List.set_cons_succ, List.cons_append, List.nil_append, Option.some.injEq, V.int.injEq, V.str.injEq, V.bl.injEq, V.ref.injEq, List.cons.injEq, exists_eq_left, exists_eq_right, and_true, true_and, and_self, exists_eq, exists_const, Bool.not_true, Bool.not_false, Bool.false_eq_true, if_true, if_false, reduceIte, decide_eq_true_eq, bne_iff_ne, exists_eq_left', exists_eq', exists_and_left, Bool.not_eq_true', decide_eq_false_iff_not, Nat.reduceSub, Nat.reduceAdd, reduceCtorEq, false_and, or_false, false_or, exists_false]
    cases b with
    | false =>
      rw [if_pos (by decide)]
      simp only [tBreak, cx_K, gcx_K, lcx_K, LenV, rLenU, tTruU, kTup, tFld, sFld, sFldAug, tMet, tMake, tBM, tDGet, tDGet1, tDGet2, sDPut, tRevL, iEnum, tAug, tAsg, mulV_int, iaddU_int, isubU_int, iaddU_str, tTupL, ex2eq, not_true_eq_false, not_false_eq_true, LamX.tLam, LamX.TTold, tSeq, tIf, tNext, tRet, tRetN, tIfS, tTest, tB, tNot, tAnd, tOr, tChain, tOp, tUn, tC, tVar, tCons, tNil, tTup, tLst, tAsg, gName, gTup, gCons, gNil, gSub, tDrop, tCallS, tCB, tM1, tM0, tBM, tBM0, tSl, tPar, tFor_eq, tLc_eq, intU_int, intU_bl, iList, iTup, iEnumT, tDNewK, rSlT, rSlL, iRng1, iRng2, iStr, tThen, tNever, L2.start, tRaiseFile, tMkFile, tYes, tPart, tNoPart, addA_int, addA_str, addU_int, addU_str, addU_ref, subU_int, mulU_int, mulU_ref, fdvU_int, modU_int, powU_int, ltU_int, leU_int, gtU_int, geU_int, eqU_int, eqU_str, eqU_bl, neU_int, neU_str, neU_bl, WE, TruV, tDIn, tDNotIn, sDDel, tDSetd, tDPop1, tLock, tLockE, tLk, tLockA, tLockEA, iKeys, List.map, List.length_cons, List.length_nil, List.replicate, List.append, List.getElem?_cons_zero, List.getElem?_cons_succ, List.set_cons_zero, List.set_cons_succ, List.cons_append, List.nil_append, Option.some.injEq, V.int.injEq, V.str.injEq, V.bl.injEq, V.ref.injEq, List.cons.injEq, exists_eq_left, exists_eq_right, and_true, true_and, and_self, exists_eq, exists_const, Bool.not_true, Bool.not_false, Bool.false_eq_true, if_true, if_false, reduceIte, decide_eq_true_eq, bne_iff_ne, exists_eq_left', exists_eq', exists_and_left, Bool.not_eq_true', decide_eq_false_iff_not, Nat.reduceSub, Nat.reduceAdd, reduceCtorEq, false_and, or_false, false_or, exists_false]
      exact hend [] H2 fo hs2 qs2 e2 S2 fp2 hp2 (hb2 rfl)
    | true =>
      rw [if_neg (by decide)]
      have hr := hb1 rfl
      try simp only [cx_K, gcx_K, lcx_K, LenV, rLenU, tTruU, kTup, tFld, sFld, sFldAug, tMet, tMake, tBM, tDGet, tDGet1, tDGet2, sDPut, tRevL, iEnum, tAug, tAsg, mulV_int, iaddU_int, isubU_int, iaddU_str, tTupL, ex2eq, not_true_eq_false, not_false_eq_true, LamX.tLam, LamX.TTold, tSeq, tIf, tNext, tRet, tRetN, tIfS, tTest, tB, tNot, tAnd, tOr, tChain, tOp, tUn, tC, tVar, tCons, tNil, tTup, tLst, tAsg, gName, gTup, gCons, gNil, gSub, tDrop, tCallS, tCB, tM1, tM0, tBM, tBM0, tSl, tPar, tFor_eq, tLc_eq, intU_int, intU_bl, iList, iTup, iEnumT, tDNewK, rSlT, rSlL, iRng1, iRng2, iStr, tThen, tNever, L2.start, tRaiseFile, tMkFile, tYes, tPart, tNoPart, addA_int, addA_str, addU_int, addU_str, addU_ref, subU_int, mulU_int, mulU_ref, fdvU_int, modU_int, powU_int, ltU_int, leU_int, gtU_int, geU_int, eqU_int, eqU_str, eqU_bl, neU_int, neU_str, neU_bl, WE, TruV, tDIn, tDNotIn, sDDel, tDSetd, tDPop1, tLock, tLockE, tLk, tLockA, tLockEA, iKeys, List.map, List.length_cons, List.length_nil, List.replicate, List.append, List.getElem?_cons_zero, List.getElem?_cons_succ, List.set_cons_zero, List.set_cons_succ, List.cons_append, List.nil_append, Option.some.injEq, V.int.injEq, V.str.injEq, V.bl.injEq, V.ref.injEq, List.cons.injEq, exists_eq_left, exists_eq_right, and_true, true_and, and_self, exists_eq, exists_const, Bool.not_true, Bool.not_false, Bool.false_eq_true, if_true, if_false, reduceIte, decide_eq_true_eq, bne_iff_ne, exists_eq_left', exists_eq', exists_and_left, Bool.not_eq_true', decide_eq_false_iff_not, Nat.reduceSub, Nat.reduceAdd, reduceCtorEq, false_and, or_false, false_or, exists_false]
      refine ⟨_, S2.gq, q, _, rfl, .inl (lst_at S2.co.hq), fun r hr0 => ⟨r, rfl, ⟨_, lst_at upd_same⟩, ?_⟩⟩
      have e3 : Ex [] TL GT H2 (upd H2 r (.lst (qs2.map fun e => V.ref e.1))) := Ex.new hr0
      have S3 := S2.keep e3 (fun _ _ => by simp)
      have hp3 := e3.lst (by simp) hp2
      have hs3 : upd H2 r (.lst (qs2.map fun e => V.ref e.1)) r = some (.lst (qs2.map fun e => V.ref e.1)) := upd_same
      have hsF : r ∉ s :: fpOf h q hs2 := S2.notin hr0
      have hsp : r ≠ p := fun z => by rw [z, hp2] at hr0; cases hr0
      have e03 := e2.trans (e3.any)
      generalize upd H2 r (.lst (qs2.map fun e => V.ref e.1)) = H3 at e3 S3 hp3 hs3 e03 ⊢
      refine loop_list (xs := qs2.map fun e => V.ref e.1) (SvY K TL GT H s h q (s :: fpOf h q hs) p r (.int (0 + (i : Nat))) qs2 (lkOf hs2 qs2) fo) ⟨⟨_, _, hs2, qs2, [], rfl, S3, fp2, W2, by rw [List.append_nil]; exact hp3, fun e he => by simpa using he, by simp, by simp, by simpa using hz5⟩, e03, hs3⟩ (fun i σ H' _ I => lst_at I.r) ?_ ?_
      · rintro j x σ H4 hx ⟨⟨v4, v5, hs4, qs4, f, rfl, S4, fp4, W4, hp4, hsub, hpass, hlen, hz4⟩, e4, s4⟩
        rw [List.getElem?_map] at hx
        cases hqi : qs2[j]? with
        | none => rw [hqi] at hx; cases hx
        | some ar =>
          rw [hqi] at hx
          obtain rfl : V.ref ar.1 = x := Option.some.inj hx
          have hd := drop_at qs2 hqi
          have hd2 := drop_at (qs2.map (·.2)) (by rw [List.getElem?_map, hqi]; rfl)
          have har : ar ∈ qs4 := hsub ar (by rw [hd]; exact List.mem_cons_self)
          have hrow := S4.co.hrT ar har
          simp only [cx_K, gcx_K, lcx_K, LenV, rLenU, tTruU, kTup, tFld, sFld, sFldAug, tMet, tMake, tBM, tDGet, tDGet1, tDGet2, sDPut, tRevL, iEnum, tAug, tAsg, mulV_int, iaddU_int, isubU_int, iaddU_str, tTupL, ex2eq, not_true_eq_false, not_false_eq_true, LamX.tLam, LamX.TTold, tSeq, tIf, tNext, tRet, tRetN, tIfS, tTest, tB, tNot, tAnd, tOr, tChain, tOp, tUn, tC, tVar, tCons, tNil, tTup, tLst, tAsg, gName, gTup, gCons, gNil, gSub, tDrop, tCallS, tCB, tM1, tM0, tBM, tBM0, tSl, tPar, tFor_eq, tLc_eq, intU_int, intU_bl, iList, iTup, iEnumT, tDNewK, rSlT, rSlL, iRng1, iRng2, iStr, tThen, tNever, L2.start, tRaiseFile, tMkFile, tYes, tPart, tNoPart, addA_int, addA_str, addU_int, addU_str, addU_ref, subU_int, mulU_int, mulU_ref, fdvU_int, modU_int, powU_int, ltU_int, leU_int, gtU_int, geU_int, eqU_int, eqU_str, eqU_bl, neU_int, neU_str, neU_bl, WE, TruV, tDIn, tDNotIn, sDDel, tDSetd, tDPop1, tLock, tLockE, tLk, tLockA, tLockEA, iKeys, List.map, List.length_cons, List.length_nil, List.replicate, List.append, List.getElem?_cons_zero, List.getElem?_cons_succ, List.set_cons_zero, List.set_cons_succ, List.cons_append, List.nil_append, Option.some.injEq, V.int.injEq, V.str.injEq, V.bl.injEq, V.ref.injEq, List.cons.injEq, exists_eq_left, exists_eq_right, and_true, true_and, and_self, exists_eq, exists_const, Bool.not_true, Bool.not_false, Bool.false_eq_true, if_true, if_false, reduceIte, decide_eq_true_eq, bne_iff_ne, exists_eq_left', exists_eq', exists_and_left, Bool.not_eq_true', decide_eq_false_iff_not, Nat.reduceSub, Nat.reduceAdd, reduceCtorEq, false_and, or_false, false_or, exists_false]
          refine rIx_tup hrow (by rfl) (rIx_tup hrow (by rfl) (rIx_tup hrow (by rfl) ?_))
          refine ⟨s, ar.2.1, ar.2.2.1, ar.2.2.2, h, q, hs4, qs4, rfl, S4, W4, fun a5 H5 e5 ha5 hn5 => ⟨Nat.zero_le _, fun p6 hp6 => ?_⟩⟩
          have e6 : Ex [] TL GT H5 (upd H5 p6 (.lst [])) := Ex.new hp6
          have ha6 := e6.lst (by simp) ha5
          have q6 : upd H5 p6 (.lst []) p6 = some (.lst (([] : List Int).map V.int)) := upd_same
          have e46 := e5.trans e6
          generalize upd H5 p6 (.lst []) = H6 at e6 ha6 q6 e46 ⊢
          have S6 := S4.keep e46 (fun _ _ => by simp)
          have hp6' := e46.lst (by simp) hp4
          have hs6 := e46.lst (by simp) s4
          have e06 := e4.trans e46.any
          have hr6 := e46.sqt hrow
          have npq : p ≠ q := fun z => hpF (by rw [z]; simp [fpOf])
          have nsq : r ≠ q := fun z => hsF (by rw [z]; simp [fpOf])
          refine eq_lstI (lst_at ha6) (lst_at q6) ⟨_, rfl, ?_⟩
          rw [hd2, passL] at hpass
          by_cases hb : blk (lkOf hs4 qs4) ar.2.1 ar.2.2.1 ar.2.2.2 = []
          · rw [if_pos hb] at hpass
            rw [if_pos (by simpa using hb)]
            have nd4 : (qs4.map (·.2.1)).Nodup := by have := W4.qn; unfold lkOf at this; rw [List.map_map] at this; exact this
            have W7 : Wf (lkOf hs4 (rmQ qs4 ar.2.1)) := by rw [rmQ_lk]; exact W4.rm ar.2.1
            have hW5 := (W4.qr ar.2 (List.mem_map.mpr ⟨ar, har, rfl⟩))
            refine ⟨_, S6.gq, ?_⟩
            refine rem_row S6.co har nd4 (fun e he => (W4.qr e.2 (List.mem_map.mpr ⟨e, he, rfl⟩)).2) ?_
            have e7 : Ex [q] TL GT H6 (upd H6 q (.lst ((rmQ qs4 ar.2.1).map fun e => V.ref e.1))) := Ex.put (by simp) S6.co.hq rfl
            have C7 := S6.co.rm ar.2.1
            have nsq2 : s ≠ q := fun z => S6.nn (by rw [z]; simp [fpOf])
            have l7 := e7.ext _ _ (by simpa using nsq2) S6.hsd (fun _ z => by cases z)
            have hp7 := e7.lst (by simpa using npq) hp6'
            have hs7 := e7.lst (by simpa using nsq) hs6
            have hr7 := e7.sqt hr6
            have e07 := e06.trans (e7.mono (fun x hx => by rw [List.mem_singleton.mp hx]; simp [fpOf]))
            generalize upd H6 q (.lst ((rmQ qs4 ar.2.1).map fun e => V.ref e.1)) = H7 at e7 C7 l7 hp7 hs7 hr7 e07 ⊢
            have S7 : SA K H7 s h q hs4 (rmQ qs4 ar.2.1) := ⟨l7, C7, S6.nn⟩
            refine rIx_tup hr7 (by rfl) (rIx_tup hr7 (by rfl) (rIx_tup hr7 (by rfl) ?_))
            refine ⟨s, ar.2.1, ar.2.2.1, ar.2.2.2, h, q, hs4, rmQ qs4 ar.2.1, rfl, S7, W7, fun hs8 H8 e8 hv8 S8 fp8 => ?_⟩
            have W8 : Wf (lkOf hs8 (rmQ qs4 ar.2.1)) := by rw [← hv8]; exact W7.take hW5.1 hW5.2 _
            have hp8 := e8.lst (S7.lst_off hp7 npq) hp7
            have hs8' := e8.lst (S7.lst_off hs7 nsq) hs7
            have hr8 := e8.sqt hr7
            have e08 := ex_behind e07 fp4 e8
            have fp8' : ∀ a ∈ s :: fpOf h q hs8, a ∈ s :: fpOf h q hs ∨ free H a := fun a ha => by
              rcases fp8 a ha with z | z
              · exact fp4 a z
              · exact e07.fresh z
            have hlt : (rmQ qs4 ar.2.1).length < qs4.length := List.length_filter_lt_length_iff_exists.mpr ⟨ar, har, by simp⟩
            rw [List.length_append] at hz4
            refine ⟨.inl ⟨rfl, _, lst_at hp8⟩, rIx_tup hr8 (by rfl) ⟨p, _, _, rfl, rfl, hp8, by rw [List.length_map, List.length_append, sizeLine_eq]; omega, ?_⟩⟩
            have e9 : Ex [p] TL GT H8 (upd H8 p (.lst ((fo ++ f).map V.int ++ [V.int ar.2.1]))) := Ex.put (by simp) hp8 rfl
            refine ⟨⟨some (.ref ar.1), some (.ref q), hs8, rmQ qs4 ar.2.1, f ++ [ar.2.1], by simp, S8.keep e9 (fun a ha z => S8.lst_off hp8 npq (by rw [← List.mem_singleton.mp z]; exact ha)), fp8', W8, by rw [upd_same]; simp, fun e he => ?_, ?_, by rw [List.length_append, List.length_singleton]; omega, by rw [List.length_append, List.length_append, List.length_singleton]; omega⟩, e08.chg hp8 rfl (.inr hnp), by rw [upd_ne hsp]; exact hs8'⟩
            · have h1 : e ∈ qs4 := hsub e (by rw [hd]; exact List.mem_cons_of_mem _ he)
              refine List.mem_filter.mpr ⟨h1, ?_⟩
              have nd2 : (qs2.map (·.2.1)).Nodup := by have := W2.qn; unfold lkOf at this; rw [List.map_map] at this; exact this
              have nd3 := nd2.sublist (List.Sublist.map _ (List.drop_sublist j qs2))
              rw [hd, List.map_cons, List.nodup_cons] at nd3
              have : e.2.1 ≠ ar.2.1 := fun z => nd3.1 (by rw [← z]; exact List.mem_map.mpr ⟨e, he, rfl⟩)
              simpa using this
            · rw [hpass, ← rmQ_lk, hv8]
              simp
          · rw [if_neg hb] at hpass
            rw [if_neg (by simpa using hb)]
            exact ⟨⟨_, _, hs4, qs4, f, rfl, S6, fp4, W4, hp6', fun e he => hsub e (by rw [hd]; exact List.mem_cons_of_mem _ he), hpass, hlen, hz4⟩, e06, hs6⟩
      · rintro σ H4 ⟨⟨v4, v5, hs4, qs4, f, rfl, S4, fp4, W4, hp4, hsub, hpass, hlen, hz4⟩, e4, s4⟩
        rw [List.length_map, List.drop_eq_nil_of_le (by simp), passL] at hpass
        rw [List.append_nil] at hpass
        have hi50 : 50 - i = (50 - (i + 1)) + 1 := by omega
        have hr2 : serveN (50 - i) (lkOf hs2 qs2) = if f = [] then (lkOf hs4 qs4, []) else ((serveN (50 - (i + 1)) (lkOf hs4 qs4)).1, f ++ (serveN (50 - (i + 1)) (lkOf hs4 qs4)).2) := by
          rw [hi50]
          show (if (passL (lkOf hs2 qs2) (qs2.map (·.2))).2 = [] then ((passL (lkOf hs2 qs2) (qs2.map (·.2))).1, []) else ((serveN (50 - (i + 1)) (passL (lkOf hs2 qs2) (qs2.map (·.2))).1).1, (passL (lkOf hs2 qs2) (qs2.map (·.2))).2 ++ (serveN (50 - (i + 1)) (passL (lkOf hs2 qs2) (qs2.map (·.2))).1).2)) = _
          rw [hpass]
        rw [hr2] at hr
        rw [List.length_append] at hz4
        refine ⟨decide (f ≠ []), _, v4, v5, hs4, qs4, fo ++ f, rfl, e4, S4, fp4, W4, hp4, fun hf => ?_, fun hf => ?_, by rw [List.length_append]; omega⟩
        · have hf' : f ≠ [] := by simpa using hf
          rw [if_neg hf'] at hr
          rw [hr, List.append_assoc]
        · have hf' : f = [] := by simpa using hf
          rw [if_pos hf'] at hr
          rw [hr, hf', List.append_nil]
  · rintro σ H2 ⟨b, v3, v4, v5, hs2, qs2, fo, rfl, e2, S2, fp2, W2, hp2, hb1, hb2, hz5⟩
    simp only [cx_K, gcx_K, lcx_K, LenV, rLenU, tTruU, kTup, tFld, sFld, sFldAug, tMet, tMake, tBM, tDGet, tDGet1, tDGet2, sDPut, tRevL, iEnum, tAug, tAsg, mulV_int, iaddU_int, isubU_int, iaddU_str, tTupL, ex2eq, not_true_eq_false, not_false_eq_true, LamX.tLam, LamX.TTold, tSeq, tIf, tNext, tRet, tRetN, tIfS, tTest, tB, tNot, tAnd, tOr, tChain, tOp, tUn, tC, tVar, tCons, tNil, tTup, tLst, tAsg, gName, gTup, gCons, gNil, gSub, tDrop, tCallS, tCB, tM1, tM0, tBM, tBM0, tSl, tPar, tFor_eq, tLc_eq, intU_int, intU_bl, iList, iTup, iEnumT, tDNewK, rSlT, rSlL, iRng1, iRng2, iStr, tThen, tNever, L2.start, tRaiseFile, tMkFile, tYes, tPart, tNoPart, addA_int, addA_str, addU_int, addU_str, addU_ref, subU_int, mulU_int, mulU_ref, fdvU_int, modU_int, powU_int, ltU_int, leU_int, gtU_int, geU_int, eqU_int, eqU_str, eqU_bl, neU_int, neU_str, neU_bl, WE, TruV, tDIn, tDNotIn, sDDel, tDSetd, tDPop1, tLock, tLockE, tLk, tLockA, tLockEA, iKeys, List.map, List.length_cons, List.length_nil, List.replicate, List.append, List.getElem?_cons_zero, List.getElem?_cons_succ, List.set_cons_zero, List.set_cons_succ, List.cons_append, List.nil_append, Option.some.injEq, V.int.injEq, V.str.injEq, V.bl.injEq, V.ref.injEq, List.cons.injEq, exists_eq_left, exists_eq_right, and_true, true_and, and_self, exists_eq, exists_const, Bool.not_true, Bool.not_false, Bool.false_eq_true, if_true, if_false, reduceIte, decide_eq_true_eq, bne_iff_ne, exists_eq_left', exists_eq', exists_and_left, Bool.not_eq_true', decide_eq_false_iff_not, Nat.reduceSub, Nat.reduceAdd, reduceCtorEq, false_and, or_false, false_or, exists_false]
    refine hend [] H2 fo hs2 qs2 e2 S2 fp2 hp2 ?_
    cases b with
    | false => exact hb2 rfl
    | true => rw [hb1 rfl]; show (lkOf hs2 qs2, fo ++ []) = _; rw [List.append_nil]
end
end KL
end
section
set_option Elab.async false
set_option linter.all false
set_option maxRecDepth 100000
set_option maxHeartbeats 2000000
set_option pp.maxSteps 900
namespace KL
open PySem PySem.Spec PyProof.Rows L2 GX
section
variable {P : Program} {w : World} {K : PySem.W.Frag} {mg : Str → Option Value} {base : Heap} {CL PE PL : Addr} {GT : List Addr} {TL : List (Addr × Str)}
theorem k_Locks (T : KL.Txt P w K mg base CL PE TL GT) : Mak P w K mg base 3 "Locks" CL [] (spLInit K CL TL GT) := by
  obtain ⟨f, fd, c, D, hm, F⟩ := f_linit (TL := TL) (GT := GT) T
  exact mak_of T.gL hm F (D.bind0 (ps := ["self"]) (fun _ _ _ _ _ _ us hl => match us, hl with | [_], _ => rfl))
def lamq : Str := (("law" : Str) ++ ".<locals>.") ++ "<lambda>"
abbrev TLaw (PL : Addr) : List (Addr × Str) := [(PL, lamq)]
def spLaw (K : PySem.W.Frag) (TL : List (Addr × Str)) (GT : List Addr) : Sp := fun vs H Q E => ∃ (p : Addr) (ns : List Int), vs = [.ref p] ∧ SqL K H p (ns.map V.int) ∧ Tb TL GT H ∧ ∀ H', (∀ P ∈ GT, H' P = some (TblE P)) → Q (.bl true) H'
/-- a new Locks -/
theorem lk_new {H : Hp} {E : XK} {Q : Addr → Hp → Prop} (hq : ∀ r dx h q H', Ex [] TL GT H H' → LP K CL H' r dx h q [] [] → (∀ a ∈ r :: fpOf h q [], free H a) → Q r H') :
    ∀ r dx, H r = none → H dx = none → dx ≠ r → spLInit K CL TL GT [.ref r] (upd (upd H dx (.own r)) r (.ins CL dx [])) (fun v H2 => v = .non ∧ Q r H2) E := by
  intro r dx h1 h2 h3
  have h1' : upd H dx (.own r) r = none := by rw [upd_ne (Ne.symm h3)]; exact h1
  have e : Ex [] TL GT H (upd (upd H dx (.own r)) r (.ins CL dx [])) := (Ex.new h2).add h1'
  refine ⟨r, dx, rfl, upd_same, fun h q H' eX L hh hqq => ⟨rfl, hq r dx h q H' (ex_behind e (B := [r]) (fun a ha => .inr ?_) eX) L fun a ha => ?_⟩⟩
  · simp only [List.mem_singleton] at ha
    rw [ha]; exact free_none h1
  · simp only [fpOf, List.map_nil, List.mem_cons, List.not_mem_nil, or_false] at ha
    rcases ha with rfl | rfl | rfl
    · exact free_none h1
    · exact (e.fresh (free_none hh)).resolve_left (by simp)
    · exact (e.fresh (free_none hqq)).resolve_left (by simp)
theorem merge2 (a b : Addr) : mergeK [] [((.inr "held" : Key), V.ref a), (.inr "queue", V.ref b)] = [((.inr "held" : Key), V.ref a), (.inr "queue", V.ref b)] := by
  have : (Sum.inr ("held" : Str) : Key) ≠ (Sum.inr ("queue" : Str) : Key) := fun z => absurd (show ("held" : Str) = "queue" from Sum.inr.inj z) (by decide)
  simp [mergeK, putK, this]
structure LW (K : PySem.W.Frag) (CL : Addr) (TL : List (Addr × Str)) (GT : List Addr) (H : Hp) (r q0 l dx h q : Addr) (hs : List (Str × Addr × Tab)) (qs : List (Addr × Row)) (s h' q' : Addr) (hs' : List (Str × Addr × Tab)) (qs' : List (Addr × Row)) : Prop where
  dc : Dc H r
  hq : H q0 = some (.lst [.ref r])
  tb : Tb TL GT H
  lk : LP K CL H l dx h q hs qs
  st : SA K H s h' q' hs' qs'
  dj : ∀ a ∈ l :: fpOf h q hs, a ∉ s :: fpOf h' q' hs'
  r1 : r ∉ l :: fpOf h q hs
  r2 : r ∉ s :: fpOf h' q' hs'
  q1 : q0 ∉ l :: fpOf h q hs
  q2 : q0 ∉ s :: fpOf h' q' hs'
section
variable {H H' : Hp} {r q0 l dx h q s h' q' q'' : Addr} {hs hs' hs2 : List (Str × Addr × Tab)} {qs qs' qs2 : List (Addr × Row)} {v : Lk}
theorem Dc.keep {A : List Addr} (d : Dc H r) (hr : r ∉ A) (e : Ex A TL GT H H') : Dc H' r := by
  obtain ⟨x, y, z, h⟩ := d
  exact ⟨x, y, z, e.lst hr h⟩
theorem LW.nqr (z : LW K CL TL GT H r q0 l dx h q hs qs s h' q' hs' qs') : q0 ≠ r := fun e => by
  obtain ⟨x, y, w, h⟩ := z.dc
  have := z.hq
  rw [e, h] at this; cases this
theorem LW.ex (z : LW K CL TL GT H r q0 l dx h q hs qs s h' q' hs' qs') (e : Ex [] TL GT H H') : LW K CL TL GT H' r q0 l dx h q hs qs s h' q' hs' qs' :=
  ⟨z.dc.keep (by simp) e, e.lst (by simp) z.hq, e.tb z.tb, z.lk.keep e (fun _ _ => by simp), z.st.keep e (fun _ _ => by simp), z.dj, z.r1, z.r2, z.q1, z.q2⟩
theorem LW.roll (z : LW K CL TL GT H r q0 l dx h q hs qs s h' q' hs' qs') (e : Ex [r] TL GT H H') (d : Dc H' r) : LW K CL TL GT H' r q0 l dx h q hs qs s h' q' hs' qs' :=
  ⟨d, e.lst (by simpa using z.nqr) z.hq, e.tb z.tb, z.lk.keep e (fun a ha => by simp only [List.mem_singleton]; exact fun y => z.r1 (y ▸ ha)), z.st.keep e (fun a ha => by simp only [List.mem_singleton]; exact fun y => z.r2 (y ▸ ha)), z.dj, z.r1, z.r2, z.q1, z.q2⟩
theorem not_free {a : Addr} (h : ∃ o, H a = some o ∧ isMut o = true) : ¬ free H a := fun f => by
  obtain ⟨o, h1, h2⟩ := h
  obtain ⟨ps, rfl⟩ := f o h1
  cases h2
theorem LW.lr (z : LW K CL TL GT H r q0 l dx h q hs qs s h' q' hs' qs') : ¬ free H r := not_free (let ⟨_, _, _, h⟩ := z.dc; ⟨_, h, rfl⟩)
theorem LW.lq (z : LW K CL TL GT H r q0 l dx h q hs qs s h' q' hs' qs') : ¬ free H q0 := not_free ⟨_, z.hq, rfl⟩
theorem LW.locks (z : LW K CL TL GT H r q0 l dx h q hs qs s h' q' hs' qs') (A : AftL K CL TL GT H l dx h q'' (l :: fpOf h q hs) v qs2 H') : ∃ hs2, v = lkOf hs2 qs2 ∧ LW K CL TL GT H' r q0 l dx h q'' hs2 qs2 s h' q' hs' qs' := by
  obtain ⟨e, hs2, hv, L, fp⟩ := A
  have nin : ∀ a, ¬ free H a → a ∉ l :: fpOf h q hs → a ∉ l :: fpOf h q'' hs2 := fun a hf h1 h2 => (fp a h2).elim h1 hf
  exact ⟨hs2, hv, z.dc.keep z.r1 e, e.lst z.q1 z.hq, e.tb z.tb, L, z.st.keep e (fun a ha h2 => z.dj a h2 ha), fun a ha h2 => nin a (not_free (z.st.live a h2)) (fun h3 => z.dj a h3 h2) ha, nin _ z.lr z.r1, z.r2, nin _ z.lq z.q1, z.q2⟩
theorem LW.stt (z : LW K CL TL GT H r q0 l dx h q hs qs s h' q' hs' qs') (e : Ex (s :: fpOf h' q' hs') TL GT H H') (S : SA K H' s h' q'' hs2 qs2) (fp : ∀ a ∈ s :: fpOf h' q'' hs2, a ∈ s :: fpOf h' q' hs' ∨ free H a) : LW K CL TL GT H' r q0 l dx h q hs qs s h' q'' hs2 qs2 := by
  have nin : ∀ a, ¬ free H a → a ∉ s :: fpOf h' q' hs' → a ∉ s :: fpOf h' q'' hs2 := fun a hf h1 h2 => (fp a h2).elim h1 hf
  exact ⟨z.dc.keep z.r2 e, e.lst z.q2 z.hq, e.tb z.tb, z.lk.keep e (fun a ha h2 => z.dj a ha h2), S, fun a ha => nin a (not_free (z.lk.live a ha)) (z.dj a ha), z.r1, nin _ z.lr z.r2, z.q1, nin _ z.lq z.q2⟩
end
def LwI (K : PySem.W.Frag) (CL : Addr) (TL : List (Addr × Str)) (GT : List Addr) (p r q0 s l : Addr) (σ : L2.St) (H' : Hp) : Prop :=
  ∃ (v3 v4 v5 v6 v7 v8 v9 v10 v11 v12 v14 v15 v16 v17 : Option V) (dx h q h' q' : Addr) (hs hs' : List (Str × Addr × Tab)) (qs qs' : List (Addr × Row)), σ = [some (.ref p), some (.ref r), some (.ref s), v3, v4, v5, v6, v7, v8, v9, v10, v11, v12, some (.ref l), v14, v15, v16, v17] ∧
    LW K CL TL GT H' r q0 l dx h q hs qs s h' q' hs' qs' ∧ lkOf hs qs = lkOf hs' qs' ∧ Inv (lkOf hs qs)
/-- before the tail of a step -/
def LwT (K : PySem.W.Frag) (CL : Addr) (TL : List (Addr × Str)) (GT : List Addr) (p r q0 s l : Addr) (σ : L2.St) (H' : Hp) : Prop :=
  ∃ (v3 v4 v5 v6 v7 v8 v9 v10 v11 v12 v16 v17 : Option V) (who : Int) (n : Str) (dx h q h' q' : Addr) (hs hs' : List (Str × Addr × Tab)) (qs qs' : List (Addr × Row)), σ = [some (.ref p), some (.ref r), some (.ref s), v3, v4, v5, v6, v7, v8, v9, v10, v11, v12, some (.ref l), some (.str n), some (.int who), v16, v17] ∧
    LW K CL TL GT H' r q0 l dx h q hs qs s h' q' hs' qs' ∧ lkOf hs qs = lkOf hs' qs' ∧ Inv (lkOf hs qs)
theorem seq_cut {A B : TS} {D : Ends} {σ : L2.St} {H : Hp} (R : L2.St → Hp → Prop) (h1 : ∀ σ H, R σ H → B D σ H) (h2 : ∀ N : L2.St → Hp → Prop, (∀ σ H, R σ H → N σ H) → A { D with nx := N } σ H) : tSeq A B D σ H := h2 (fun σ H => B D σ H) h1
theorem rIx_pq {H : Hp} {Q : VK} {k : Int} (h1 : 0 ≤ k) (h2 : k < 4) (q : ∀ n ∈ nms, Q (.str n) H) : rIx K (.str (Str.ofString "pqrs")) (.int k) H Q := by
  have : k = 0 ∨ k = 1 ∨ k = 2 ∨ k = 3 := by omega
  rcases this with rfl | rfl | rfl | rfl
  · exact rIx_str (c := 112) (by rw [sizeLine_eq]; decide +kernel) (by decide +kernel) (q "p" (by decide +kernel))
  · exact rIx_str (c := 113) (by rw [sizeLine_eq]; decide +kernel) (by decide +kernel) (q "q" (by decide +kernel))
  · exact rIx_str (c := 114) (by rw [sizeLine_eq]; decide +kernel) (by decide +kernel) (q "r" (by decide +kernel))
  · exact rIx_str (c := 115) (by rw [sizeLine_eq]; decide +kernel) (by decide +kernel) (q "s" (by decide +kernel))
theorem hw_inj {a b : Bool} (h : hw a = hw b) : a = b := by
  cases a <;> cases b <;> first | rfl | exact absurd h (by decide)
theorem hw_no {a : Bool} (h1 : hw a ≠ "shared") (h2 : hw a ≠ "alone") : (0 : Nat) ≠ 0 := by
  cases a
  · exact absurd rfl h1
  · exact absurd rfl h2
theorem held_get {H : Hp} {h q p : Addr} {hs : List (Str × Addr × Tab)} {qs : List (Addr × Row)} {n : Str} (C : Co K H h q hs qs) (hp : H p = some (.dK [])) : ∃ o a, DGet H h (.str n) o ∧ o.getD (.ref p) = .ref a ∧ H a = some (.dK (tabK (hold (lkOf hs qs) n))) := by
  refine ⟨valV (kvH hs) (.inr n), ?_⟩
  rw [val_hs]
  cases hf : fh hs n with
  | none => exact ⟨p, .inl ⟨kvH hs, .inr n, .inl C.hh, rfl, by rw [val_hs, hf]⟩, rfl, by rw [hp, hold_fh, hf]; rfl⟩
  | some e => exact ⟨e.2.1, .inl ⟨kvH hs, .inr n, .inl C.hh, rfl, by rw [val_hs, hf]⟩, rfl, by rw [C.ht e (fh_mem hf).1, hold_fh, hf]; rfl⟩
theorem put2 (a b c : Addr) : putK [((.inr (Str.ofString "held") : Key), V.ref a), (.inr (Str.ofString "queue"), V.ref b)] (.inr (Str.ofString "queue")) (.ref c) = [((.inr (Str.ofString "held") : Key), V.ref a), (.inr (Str.ofString "queue"), V.ref c)] := by
  have : (Sum.inr (Str.ofString "held") : Key) ≠ (Sum.inr (Str.ofString "queue") : Key) := fun z => absurd (show ("held" : Str) = "queue" from Sum.inr.inj z) (by decide)
  simp [putK, this]
theorem names_drop {v : Lk} {who : Int} {n m : Str} (h : m ∈ v.held.map (·.1)) (hn : m ≠ n) : m ∈ (dropL v who n).held.map (·.1) := by
  show m ∈ (if dropI (hold v n) who = [] then delN v.held n else setT v.held n (dropI (hold v n) who)).map (·.1)
  split
  · obtain ⟨e, he, rfl⟩ := List.mem_map.mp h
    exact List.mem_map.mpr ⟨e, List.mem_filter.mpr ⟨he, by simpa using hn⟩, rfl⟩
  · rw [setT_fst]; exact h
theorem lk_names (hs : List (Str × Addr × Tab)) (qs : List (Addr × Row)) : (lkOf hs qs).held.map (·.1) = hs.map (·.1) := by
  unfold lkOf
  rw [List.map_map]; rfl
structure LvS (K : PySem.W.Frag) (CL : Addr) (TL : List (Addr × Str)) (GT : List Addr) (r q0 l dx h q : Addr) (hs : List (Str × Addr × Tab)) (qs : List (Addr × Row)) (s h' q' : Addr) (qs' : List (Addr × Row)) (who : Int) (ns : List Str) (v0 : Lk) (a : Addr) (xs : List V) (pl : Addr) (f : Option V → L2.St) (j : Nat) (σ : L2.St) (H' : Hp) : Prop where
  w : ∃ (v9 : Option V) (hs' : List (Str × Addr × Tab)), σ = f v9 ∧ LW K CL TL GT H' r q0 l dx h q hs qs s h' q' hs' qs' ∧ lkOf hs' qs' = (ns.take j).foldl (leaveF who) v0 ∧ Wf (lkOf hs' qs') ∧ (∀ m ∈ ns.drop j, m ∈ (lkOf hs' qs').held.map (·.1)) ∧
    H' a = some (.lst xs) ∧ a ∉ s :: fpOf h' q' hs' ∧ H' pl = some (.lst (ns.map V.str)) ∧ pl ∉ s :: fpOf h' q' hs'
theorem LvS.p {K : PySem.W.Frag} {CL : Addr} {TL : List (Addr × Str)} {GT : List Addr} {r q0 l dx h q : Addr} {hs : List (Str × Addr × Tab)} {qs : List (Addr × Row)} {s h' q' : Addr} {qs' : List (Addr × Row)} {who : Int} {ns : List Str} {v0 : Lk} {a : Addr} {xs : List V} {pl : Addr} {f : Option V → L2.St} {j : Nat} {σ : L2.St} {H' : Hp}
    (I : LvS K CL TL GT r q0 l dx h q hs qs s h' q' qs' who ns v0 a xs pl f j σ H') : H' pl = some (.lst (ns.map V.str)) := by
  obtain ⟨_, _, _, _, _, _, _, _, _, z, _⟩ := I.w
  exact z
mutual
def tOnly : PyData → Bool
  | .list _ => false
  | .dict _ => false
  | .tuple ds => tOnlyL ds
  | _ => true
def tOnlyL : List PyData → Bool
  | [] => true
  | d :: ds => tOnly d && tOnlyL ds
end
mutual
theorem dp_exT {A : List Addr} {H H' : Hp} (e : Ex A TL GT H H') : ∀ (d : PyData) (v : V), tOnly d = true → Dp K H v d → Dp K H' v d
  | .none, _, _, h => by cases h; exact .non
  | .bool b, _, _, h => by cases h; exact .bl b
  | .int i, _, _, h => by cases h; exact .int i
  | .str x, _, _, h => by cases h; exact .str x
  | .list ds, _, t, h => by unfold tOnly at t; cases t
  | .tuple ds, _, t, h => by
    unfold tOnly at t
    cases h with
    | tup a b => exact .tup (e.sqt a) (dpAll_exT e ds _ t b)
  | .dict _, _, _, h => by cases h
theorem dpAll_exT {A : List Addr} {H H' : Hp} (e : Ex A TL GT H H') : ∀ (ds : List PyData) (vs : List V), tOnlyL ds = true → DpAll K H vs ds → DpAll K H' vs ds
  | [], _, _, h => by cases h; exact .nil
  | d :: ds, _, t, h => by
    unfold tOnlyL at t
    rw [Bool.and_eq_true] at t
    cases h with
    | cons a b => exact .cons (dp_exT e d _ t.1 a) (dpAll_exT e ds _ t.2 b)
end
theorem tOnly_map {α : Type} (f : α → PyData) (h : ∀ x, tOnly (f x) = true) : ∀ l : List α, tOnlyL (l.map f) = true
  | [] => by unfold tOnlyL; rfl
  | x :: l => by
    rw [List.map_cons]
    unfold tOnlyL
    rw [h x, tOnly_map f h l]; rfl
theorem tOnly_it (p : Int × Bool) : tOnly (itD p) = true := by simp [itD, tOnly, tOnlyL]
theorem tOnly_nm (v : Lk) (n : Str) : tOnly (nmD v n) = true := by
  simp [nmD, tOnly, tOnlyL, tOnly_map itD tOnly_it]
theorem lc_its {Qd : Hp → Prop} {H : Hp} {h q pI D1 : Addr} {hs : List (Str × Addr × Tab)} {qs : List (Addr × Row)} {n : Str} {e0 : Str × Addr × Tab} {v0 v1 v2 v3 v4 v5 v6 v7 v8 v11 v12 v13 v14 v15 v16 v17 : Option V} (C : Co K H h q hs qs) (hf : fh hs n = some e0) (hl : e0.2.2.length ≤ 5)
    (hp : H pI = some (.lst ((srt (e0.2.2.map (·.1))).map V.int))) (hD : H D1 = none)
    (hq : ∀ H' ts, Ex [] TL GT H H' → H' D1 = some (.lst ts) → DpAll K H' ts ((itS e0.2.2).map itD) → Qd H') :
    LcLoop (gName 17) tYes (tTup (tCons (tVar 17) (tCons (tDGet (tDGet (tVar 10) (tVar 9)) (tVar 17)) tNil))) [17] (Itl K pI) [v0, v1, v2, v3, v4, v5, v6, v7, v8, some (.str n), some (.ref h), v11, v12, v13, v14, v15, v16, v17] H D1 Qd := by
  obtain ⟨he0, hen⟩ := fh_mem hf
  have hlen : (srt (e0.2.2.map (·.1))).length ≤ 5 := by rw [(srt_perm _).length_eq, List.length_map]; exact hl
  refine lcl_list (xs := (srt (e0.2.2.map (·.1))).map V.int) (fun i H' => Ex [] TL GT H H' ∧ ∃ ts, H' D1 = some (.lst ts) ∧ DpAll K H' ts (((itS e0.2.2).take i).map itD)) ⟨Ex.new hD, [], upd_same, .nil⟩ (fun i H' _ e => lst_at (e.1.lst (by simp) hp)) ?_ ?_
  · rintro i x H' hx ⟨e, ts, hts, hd⟩
    rw [List.getElem?_map] at hx
    cases hki : (srt (e0.2.2.map (·.1)))[i]? with
    | none => rw [hki] at hx; cases hx
    | some k =>
      rw [hki] at hx
      obtain rfl : V.int k = x := Option.some.inj hx
      simp only [cx_K, gcx_K, lcx_K, LenV, rLenU, tTruU, kTup, tFld, sFld, sFldAug, tMet, tMake, tBM, tDGet, tDGet1, tDGet2, sDPut, tRevL, iEnum, tAug, tAsg, mulV_int, iaddU_int, isubU_int, iaddU_str, tTupL, ex2eq, not_true_eq_false, not_false_eq_true, LamX.tLam, LamX.TTold, tSeq, tIf, tNext, tRet, tRetN, tIfS, tTest, tB, tNot, tAnd, tOr, tChain, tOp, tUn, tC, tVar, tCons, tNil, tTup, tLst, tAsg, gName, gTup, gCons, gNil, gSub, tDrop, tCallS, tCB, tM1, tM0, tBM, tBM0, tSl, tPar, tFor_eq, tLc_eq, intU_int, intU_bl, iList, iTup, iEnumT, tDNewK, tDisp, tPairs, rSlT, rSlL, iRng1, iRng2, iStr, tThen, tNever, L2.start, tRaiseFile, tMkFile, tYes, tPart, tNoPart, addA_int, addA_str, addU_int, addU_str, addU_ref, subU_int, mulU_int, mulU_ref, fdvU_int, modU_int, powU_int, ltU_int, leU_int, gtU_int, geU_int, eqU_int, eqU_str, eqU_bl, neU_int, neU_str, neU_bl, WE, TruV, tDIn, tDNotIn, sDDel, tDSetd, tDPop1, tLock, tLockE, tLk, tLockA, tLockEA, iKeys, List.map, List.length_cons, List.length_nil, List.replicate, List.append, List.getElem?_cons_zero, List.getElem?_cons_succ, List.set_cons_zero, List.set_cons_succ, List.cons_append, List.nil_append, Option.some.injEq, V.int.injEq, V.str.injEq, V.bl.injEq, V.ref.injEq, List.cons.injEq, exists_eq_left, exists_eq_right, and_true, true_and, and_self, exists_eq, exists_const, Bool.not_true, Bool.not_false, Bool.false_eq_true, if_true, if_false, reduceIte, decide_eq_true_eq, bne_iff_ne, exists_eq_left', exists_eq', exists_and_left, Bool.not_eq_true', decide_eq_false_iff_not, Nat.reduceSub, Nat.reduceAdd, reduceCtorEq, false_and, or_false, false_or, exists_false, wipe]
      have CC := C.keep e (fun _ _ => by simp)
      have hk : k ∈ e0.2.2.map (·.1) := srt_mem.mp (List.mem_of_getElem? hki)
      obtain ⟨ob, hob, hobk⟩ := List.mem_map.mp hk
      have hgi : getI e0.2.2 k = some ob.2 := getI_of_mem (CC.nk e0 he0) (by rw [← hobk]; exact hob)
      refine ⟨_, .inl ⟨kvH hs, .inr n, .inl CC.hh, rfl, by rw [val_hs, hf]; rfl⟩, e0.2.1, rfl, V.str (hw ob.2), .inl ⟨tabK e0.2.2, .inl k, .inl (CC.ht e0 he0), rfl, by rw [← hobk]; exact (val_tab (CC.nk e0 he0) hob).symm⟩, sz 2, fun r hr => ?_⟩
      have e1 : Ex [] TL GT H' (upd H' r (.tup [V.int k, V.str (hw ob.2)])) := Ex.new hr
      have r1 : upd H' r (.tup [V.int k, V.str (hw ob.2)]) r = some (.tup [V.int k, V.str (hw ob.2)]) := upd_same
      have t1 := e1.lst (by simp) hts
      have d1 := dpAll_ex e1 _ _ hd
      have e01 := e.trans e1
      generalize upd H' r (.tup [V.int k, V.str (hw ob.2)]) = H1 at e1 r1 t1 d1 e01 ⊢
      have hl2 := dpa_len d1
      rw [List.length_map, List.length_take] at hl2
      have hil : (itS e0.2.2).length ≤ 5 := by unfold itS; rw [List.length_map]; exact hlen
      have e2 : Ex [D1] TL GT H1 (upd H1 D1 (.lst (ts ++ [V.ref r]))) := Ex.put (by simp) t1 rfl
      refine ⟨ts, t1, by rw [sizeLine_eq]; omega, e01.chg t1 rfl (.inr (free_none hD)), _, upd_same, ?_⟩
      have hit : (itS e0.2.2)[i]? = some (k, ob.2) := by
        unfold itS
        rw [List.getElem?_map, hki, Option.map_some, hgi]; rfl
      rw [List.take_succ, hit, List.map_append]
      exact dpAll_app (dpAll_exT e2 _ _ (tOnly_map itD tOnly_it _) d1) (.cons (.tup (e2.sqt (tup_sqt r1)) (.cons (.int _) (.cons (.str _) .nil))) .nil)
  · rintro H' ⟨e, ts, hts, hd⟩
    rw [List.length_map, show (srt (e0.2.2.map (·.1))).length = (itS e0.2.2).length by unfold itS; rw [List.length_map], List.take_length] at hd
    exact hq H' ts e hts hd
theorem lay_map {α : Type} (f : α → PyData) : ∀ l : List α, (∀ x ∈ l, (f x).canLay0 = true) → PyData.canLayAll0 (l.map f) = true
  | [], _ => by unfold PyData.canLayAll0; rfl
  | x :: l, h => by
    rw [List.map_cons]
    unfold PyData.canLayAll0
    rw [h x List.mem_cons_self, lay_map f l fun y hy => h y (List.mem_cons_of_mem _ hy)]; rfl
theorem dep_map {α : Type} (f : α → PyData) (c : Nat) : ∀ l : List α, (∀ x ∈ l, (f x).depth ≤ c) → PyData.depthAll (l.map f) ≤ c
  | [], _ => by unfold PyData.depthAll; exact Nat.zero_le _
  | x :: l, h => by
    rw [List.map_cons]
    unfold PyData.depthAll
    exact Nat.max_le.mpr ⟨h x List.mem_cons_self, dep_map f c l fun y hy => h y (List.mem_cons_of_mem _ hy)⟩
theorem lay_it (p : Int × Bool) : (itD p).canLay0 = true := by simp [itD, PyData.canLay0, PyData.canLayAll0, hw_ok]
theorem dep_it (p : Int × Bool) : (itD p).depth ≤ 5 := by simp [itD, PyData.depth, PyData.depthAll]
theorem lay_row (r : Row) (h : r.2.1 ∈ nms) : (rowD r).canLay0 = true := by simp [rowD, PyData.canLay0, PyData.canLayAll0, nms_ok h, hw_ok]
theorem dep_row (r : Row) : (rowD r).depth ≤ 5 := by simp [rowD, PyData.depth, PyData.depthAll]
theorem lay_nm (v : Lk) (n : Str) (h : n ∈ nms) : (nmD v n).canLay0 = true := by
  have := lay_map itD (itS (hold v n)) fun x _ => lay_it x
  simp [nmD, PyData.canLay0, PyData.canLayAll0, nms_ok h, this]
theorem dep_nm (v : Lk) (n : Str) : (nmD v n).depth ≤ 10 := by
  have := dep_map itD 5 (itS (hold v n)) fun x _ => dep_it x
  simp [nmD, PyData.depth, PyData.depthAll]
  omega
theorem shaped_sh {v : Lk} (W : Wf v) {ns : List Str} (h : ∀ x ∈ ns, x ∈ nms) : SeqAt.shaped (shD v ns) = true := by
  have a1 := lay_map (nmD v) ns fun x hx => lay_nm v x (h x hx)
  have a2 := lay_map rowD v.queue fun x hx => lay_row x (W.qr x hx).2
  have b1 := dep_map (nmD v) 10 ns fun x _ => dep_nm v x
  have b2 := dep_map rowD 5 v.queue fun x _ => dep_row x
  unfold SeqAt.shaped
  rw [Bool.and_eq_true, decide_eq_true_iff]
  refine ⟨?_, ?_⟩
  · simp [shD, PyData.canLay0, PyData.canLayAll0, a1, a2]
  · simp [shD, PyData.depth, PyData.depthAll]
    omega
theorem eqv_self {d : PyData} (h : SeqAt.shaped d = true) : PyData.eqv d d = true := SeqAt.eqv_refl d (SeqAt.canLay_of_shaped h)
theorem ifs_in {c : TT} {A B : TS} {D : Ends} {σ : L2.St} {H : Hp} (h : ∀ A' B' : TS, A = A' → B = B' → tIfS c A' B' D σ H) : tIfS c A B D σ H := h A B rfl rfl
theorem lc_rowsW {Qd : Hp → Prop} {H : Hp} {ar D2 : Addr} {rows : List (Addr × Row)} {who : Int} {v0 v1 v2 v3 v4 v5 v6 v7 v8 v9 v10 v11 v12 v13 v14 v16 v17 : Option V} (har : H ar = some (.lst (rows.map fun e => V.ref e.1))) (hr : ∀ e ∈ rows, SqT K H e.1 (rowV e.2)) (hz : rows.length ≤ 20) (hD : H D2 = none)
    (hq : ∀ H', Ex [] TL GT H H' → H' D2 = some (.lst ((rowsW rows who).map fun e => V.ref e.1)) → Qd H') :
    LcLoop (gName 16) (tTest (tOp (rEqU K) (tOp (rIx K) (tVar 16) (tC (V.int 0))) (tVar 15))) (tVar 16) [16] (Itl K ar) [v0, v1, v2, v3, v4, v5, v6, v7, v8, v9, v10, v11, v12, v13, v14, some (.int who), v16, v17] H D2 Qd := by
  refine lcl_list (xs := rows.map fun e => V.ref e.1) (fun i H' => Ex [] TL GT H H' ∧ H' D2 = some (.lst ((rowsW (rows.take i) who).map fun e => V.ref e.1))) ⟨Ex.new hD, upd_same⟩ (fun i H' _ e => lst_at (e.1.lst (by simp) har)) ?_ ?_
  · rintro i x H' hx ⟨e, hf⟩
    rw [List.getElem?_map] at hx
    cases hqi : rows[i]? with
    | none => rw [hqi] at hx; cases hx
    | some r =>
      rw [hqi] at hx
      obtain rfl : V.ref r.1 = x := Option.some.inj hx
      have hr1 := e.sqt (hr r (List.mem_of_getElem? hqi))
      simp only [cx_K, gcx_K, lcx_K, LenV, rLenU, tTruU, kTup, tFld, sFld, sFldAug, tMet, tMake, tBM, tDGet, tDGet1, tDGet2, sDPut, tRevL, iEnum, tAug, tAsg, mulV_int, iaddU_int, isubU_int, iaddU_str, tTupL, ex2eq, not_true_eq_false, not_false_eq_true, LamX.tLam, LamX.TTold, tSeq, tIf, tNext, tRet, tRetN, tIfS, tTest, tB, tNot, tAnd, tOr, tChain, tOp, tUn, tC, tVar, tCons, tNil, tTup, tLst, tAsg, gName, gTup, gCons, gNil, gSub, tDrop, tCallS, tCB, tM1, tM0, tBM, tBM0, tSl, tPar, tFor_eq, tLc_eq, intU_int, intU_bl, iList, iTup, iEnumT, tDNewK, tDisp, tPairs, rSlT, rSlL, iRng1, iRng2, iStr, tThen, tNever, L2.start, tRaiseFile, tMkFile, tYes, tPart, tNoPart, addA_int, addA_str, addU_int, addU_str, addU_ref, subU_int, mulU_int, mulU_ref, fdvU_int, modU_int, powU_int, ltU_int, leU_int, gtU_int, geU_int, eqU_int, eqU_str, eqU_bl, neU_int, neU_str, neU_bl, WE, TruV, tDIn, tDNotIn, sDDel, tDSetd, tDPop1, tLock, tLockE, tLk, tLockA, tLockEA, iKeys, List.map, List.length_cons, List.length_nil, List.replicate, List.append, List.getElem?_cons_zero, List.getElem?_cons_succ, List.set_cons_zero, List.set_cons_succ, List.cons_append, List.nil_append, Option.some.injEq, V.int.injEq, V.str.injEq, V.bl.injEq, V.ref.injEq, List.cons.injEq, exists_eq_left, exists_eq_right, and_true, true_and, and_self, exists_eq, exists_const, Bool.not_true, Bool.not_false, Bool.false_eq_true, if_true, if_false, reduceIte, decide_eq_true_eq, bne_iff_ne, exists_eq_left', exists_eq', exists_and_left, Bool.not_eq_true', decide_eq_false_iff_not, Nat.reduceSub, Nat.reduceAdd, reduceCtorEq, false_and, or_false, false_or, exists_false, wipe]
      have hstep : rowsW (rows.take (i + 1)) who = rowsW (rows.take i) who ++ (if r.2.1 = who then [r] else []) := by
        unfold rowsW
        rw [List.take_succ, hqi, List.filter_append]
        congr 1
        rw [Option.toList_some, List.filter_cons]
        by_cases z : r.2.1 = who <;> simp [z]
      have hlen := List.length_filter_le (fun x : Addr × Row => decide (x.2.1 = who)) (rows.take i)
      rw [List.length_take] at hlen
      refine rIx_tup hr1 (by rfl) ?_
      try simp only [cx_K, gcx_K, lcx_K, LenV, rLenU, tTruU, kTup, tFld, sFld, sFldAug, tMet, tMake, tBM, tDGet, tDGet1, tDGet2, sDPut, tRevL, iEnum, tAug, tAsg, mulV_int, iaddU_int, isubU_int, iaddU_str, tTupL, ex2eq, not_true_eq_false, not_false_eq_true, LamX.tLam, LamX.TTold, tSeq, tIf, tNext, tRet, tRetN, tIfS, tTest, tB, tNot, tAnd, tOr, tChain, tOp, tUn, tC, tVar, tCons, tNil, tTup, tLst, tAsg, gName, gTup, gCons, gNil, gSub, tDrop, tCallS, tCB, tM1, tM0, tBM, tBM0, tSl, tPar, tFor_eq, tLc_eq, intU_int, intU_bl, iList, iTup, iEnumT, tDNewK, tDisp, tPairs, rSlT, rSlL, iRng1, iRng2, iStr, tThen, tNever, L2.start, tRaiseFile, tMkFile, tYes, tPart, tNoPart, addA_int, addA_str, addU_int, addU_str, addU_ref, subU_int, mulU_int, mulU_ref, fdvU_int, modU_int, powU_int, ltU_int, leU_int, gtU_int, geU_int, eqU_int, eqU_str, eqU_bl, neU_int, neU_str, neU_bl, WE, TruV, tDIn, tDNotIn, sDDel, tDSetd, tDPop1, tLock, tLockE, tLk, tLockA, tLockEA, iKeys, List.map, List.length_cons, List.length_nil, List.replicate, List.append, List.getElem?_cons_zero, List.getElem?_cons_succ, List.set_cons_zero, List.set_cons_succ, List.cons_append, List.nil_append, Option.some.injEq, V.int.injEq, V.str.injEq, V.bl.injEq, V.ref.injEq, List.cons.injEq, exists_eq_left, exists_eq_right, and_true, true_and, and_self, exists_eq, exists_const, Bool.not_true, Bool.not_false, Bool.false_eq_true, if_true, if_false, reduceIte, decide_eq_true_eq, bne_iff_ne, exists_eq_left', exists_eq', exists_and_left, Bool.not_eq_true', decide_eq_false_iff_not, Nat.reduceSub, Nat.reduceAdd, reduceCtorEq, false_and, or_false, false_or, exists_false]
      by_cases z : r.2.1 = who
      · rw [if_pos z]
        refine ⟨_, hf, by rw [List.length_map, sizeLine_eq]; unfold rowsW; omega, e.chg hf rfl (.inr (free_none hD)), ?_⟩
        rw [upd_same, hstep, if_pos z, List.map_append]; rfl
      · rw [if_neg z]
        exact ⟨e, by rw [hf, hstep, if_neg z, List.append_nil]⟩
  · rintro H' ⟨e, hf⟩
    rw [List.length_map, List.take_of_length_le (Nat.le_refl _)] at hf
    exact hq H' e hf
theorem lc_rowsN {Qd : Hp → Prop} {H : Hp} {ar D2 : Addr} {rows : List (Addr × Row)} {who : Int} {v0 v1 v2 v3 v4 v5 v6 v7 v8 v9 v10 v11 v12 v13 v14 v16 v17 : Option V} (har : H ar = some (.lst (rows.map fun e => V.ref e.1))) (hr : ∀ e ∈ rows, SqT K H e.1 (rowV e.2)) (hz : rows.length ≤ 20) (hD : H D2 = none)
    (hq : ∀ H', Ex [] TL GT H H' → H' D2 = some (.lst ((rmQ rows who).map fun e => V.ref e.1)) → Qd H') :
    LcLoop (gName 16) (tTest (tOp (rNeU K) (tOp (rIx K) (tVar 16) (tC (V.int 0))) (tVar 15))) (tVar 16) [16] (Itl K ar) [v0, v1, v2, v3, v4, v5, v6, v7, v8, v9, v10, v11, v12, v13, v14, some (.int who), v16, v17] H D2 Qd := by
  refine lcl_list (xs := rows.map fun e => V.ref e.1) (fun i H' => Ex [] TL GT H H' ∧ H' D2 = some (.lst ((rmQ (rows.take i) who).map fun e => V.ref e.1))) ⟨Ex.new hD, upd_same⟩ (fun i H' _ e => lst_at (e.1.lst (by simp) har)) ?_ ?_
  · rintro i x H' hx ⟨e, hf⟩
    rw [List.getElem?_map] at hx
    cases hqi : rows[i]? with
    | none => rw [hqi] at hx; cases hx
    | some r =>
      rw [hqi] at hx
      obtain rfl : V.ref r.1 = x := Option.some.inj hx
      have hr1 := e.sqt (hr r (List.mem_of_getElem? hqi))
      simp only [cx_K, gcx_K, lcx_K, LenV, rLenU, tTruU, kTup, tFld, sFld, sFldAug, tMet, tMake, tBM, tDGet, tDGet1, tDGet2, sDPut, tRevL, iEnum, tAug, tAsg, mulV_int, iaddU_int, isubU_int, iaddU_str, tTupL, ex2eq, not_true_eq_false, not_false_eq_true, LamX.tLam, LamX.TTold, tSeq, tIf, tNext, tRet, tRetN, tIfS, tTest, tB, tNot, tAnd, tOr, tChain, tOp, tUn, tC, tVar, tCons, tNil, tTup, tLst, tAsg, gName, gTup, gCons, gNil, gSub, tDrop, tCallS, tCB, tM1, tM0, tBM, tBM0, tSl, tPar, tFor_eq, tLc_eq, intU_int, intU_bl, iList, iTup, iEnumT, tDNewK, tDisp, tPairs, rSlT, rSlL, iRng1, iRng2, iStr, tThen, tNever, L2.start, tRaiseFile, tMkFile, tYes, tPart, tNoPart, addA_int, addA_str, addU_int, addU_str, addU_ref, subU_int, mulU_int, mulU_ref, fdvU_int, modU_int, powU_int, ltU_int, leU_int, gtU_int, geU_int, eqU_int, eqU_str, eqU_bl, neU_int, neU_str, neU_bl, WE, TruV, tDIn, tDNotIn, sDDel, tDSetd, tDPop1, tLock, tLockE, tLk, tLockA, tLockEA, iKeys, List.map, List.length_cons, List.length_nil, List.replicate, List.append, List.getElem?_cons_zero, List.getElem?_cons_succ, List.set_cons_zero, List.set_cons_succ, List.cons_append, List.nil_append, Option.some.injEq, V.int.injEq, V.str.injEq, V.bl.injEq, V.ref.injEq, List.cons.injEq, exists_eq_left, exists_eq_right, and_true, true_and, and_self, exists_eq, exists_const, Bool.not_true, Bool.not_false, Bool.false_eq_true, if_true, if_false, reduceIte, decide_eq_true_eq, bne_iff_ne, exists_eq_left', exists_eq', exists_and_left, Bool.not_eq_true', decide_eq_false_iff_not, Nat.reduceSub, Nat.reduceAdd, reduceCtorEq, false_and, or_false, false_or, exists_false, wipe]
      have hstep : rmQ (rows.take (i + 1)) who = rmQ (rows.take i) who ++ (if r.2.1 ≠ who then [r] else []) := by
        unfold rmQ
        rw [List.take_succ, hqi, List.filter_append]
        congr 1
        rw [Option.toList_some, List.filter_cons]
        by_cases z : r.2.1 = who <;> simp [z]
      have hlen := List.length_filter_le (fun x : Addr × Row => decide (x.2.1 ≠ who)) (rows.take i)
      rw [List.length_take] at hlen
      refine rIx_tup hr1 (by rfl) ?_
      try simp only [cx_K, gcx_K, lcx_K, LenV, rLenU, tTruU, kTup, tFld, sFld, sFldAug, tMet, tMake, tBM, tDGet, tDGet1, tDGet2, sDPut, tRevL, iEnum, tAug, tAsg, mulV_int, iaddU_int, isubU_int, iaddU_str, tTupL, ex2eq, not_true_eq_false, not_false_eq_true, LamX.tLam, LamX.TTold, tSeq, tIf, tNext, tRet, tRetN, tIfS, tTest, tB, tNot, tAnd, tOr, tChain, tOp, tUn, tC, tVar, tCons, tNil, tTup, tLst, tAsg, gName, gTup, gCons, gNil, gSub, tDrop, tCallS, tCB, tM1, tM0, tBM, tBM0, tSl, tPar, tFor_eq, tLc_eq, intU_int, intU_bl, iList, iTup, iEnumT, tDNewK, tDisp, tPairs, rSlT, rSlL, iRng1, iRng2, iStr, tThen, tNever, L2.start, tRaiseFile, tMkFile, tYes, tPart, tNoPart, addA_int, addA_str, addU_int, addU_str, addU_ref, subU_int, mulU_int, mulU_ref, fdvU_int, modU_int, powU_int, ltU_int, leU_int, gtU_int, geU_int, eqU_int, eqU_str, eqU_bl, neU_int, neU_str, neU_bl, WE, TruV, tDIn, tDNotIn, sDDel, tDSetd, tDPop1, tLock, tLockE, tLk, tLockA, tLockEA, iKeys, List.map, List.length_cons, List.length_nil, List.replicate, List.append, List.getElem?_cons_zero, List.getElem?_cons_succ, List.set_cons_zero, List.set_cons_succ, List.cons_append, List.nil_append, Option.some.injEq, V.int.injEq, V.str.injEq, V.bl.injEq, V.ref.injEq, List.cons.injEq, exists_eq_left, exists_eq_right, and_true, true_and, and_self, exists_eq, exists_const, Bool.not_true, Bool.not_false, Bool.false_eq_true, if_true, if_false, reduceIte, decide_eq_true_eq, bne_iff_ne, exists_eq_left', exists_eq', exists_and_left, Bool.not_eq_true', decide_eq_false_iff_not, Nat.reduceSub, Nat.reduceAdd, reduceCtorEq, false_and, or_false, false_or, exists_false]
      by_cases z : r.2.1 = who
      · rw [if_neg (by simpa using z)]
        exact ⟨e, by rw [hf, hstep, if_neg (by simpa using z), List.append_nil]⟩
      · rw [if_pos z]
        refine ⟨_, hf, by rw [List.length_map, sizeLine_eq]; unfold rmQ; omega, e.chg hf rfl (.inr (free_none hD)), ?_⟩
        rw [upd_same, hstep, if_pos z, List.map_append]; rfl
  · rintro H' ⟨e, hf⟩
    rw [List.length_map, List.take_of_length_le (Nat.le_refl _)] at hf
    exact hq H' e hf
theorem ne_rows {Q : VK} {H : Hp} {D2 p : Addr} {hs : List (Str × Addr × Tab)} {qs : List (Addr × Row)} {who : Int} (W : Wf (lkOf hs qs)) (hD : H D2 = some (.lst ((rowsW qs who).map fun e => V.ref e.1))) (hr : ∀ e ∈ qs, SqT K H e.1 (rowV e.2)) (hp : H p = some (.lst []))
    (hq : Q (.bl (keyQ (lkOf hs qs) who)) H) : rNeU K (.ref D2) (.ref p) H Q := by
  have nd : (qs.map (·.2.1)).Nodup := by have := W.qn; unfold lkOf at this; rw [List.map_map] at this; exact this
  rw [rowsW_eq nd] at hD
  have hk : keyQ (lkOf hs qs) who = (qs.find? fun e => decide (e.2.1 = who)).isSome := by
    unfold keyQ lkOf
    rw [List.any_map, Bool.eq_iff_iff, List.any_eq_true, List.find?_isSome]
    rfl
  rw [hk] at hq
  cases hf : qs.find? (fun e => decide (e.2.1 = who)) with
  | none =>
    rw [hf] at hD hq
    exact ne_lstI (ns := []) (ms := []) (lst_at hD) (lst_at hp) hq
  | some r =>
    rw [hf] at hD hq
    have hrm := List.mem_of_find?_eq_some hf
    have hnm := (W.qr r.2 (List.mem_map.mpr ⟨r, hrm, rfl⟩)).2
    have f1' : H D2 = some (.lst [V.ref r.1]) := hD
    refine ⟨.list [rowD r.2], .list [], .lst (lst_at f1') (.cons (dp_row (hr r hrm)) .nil), .lst (lst_at hp) .nil, ?_, rfl, hq⟩
    simp [SeqAt.shaped, rowD, PyData.canLay0, PyData.canLayAll0, PyData.depth, PyData.depthAll, nms_ok hnm, hw_ok]
theorem seq_in {A B : TS} {D : Ends} {σ : L2.St} {H : Hp} (h : ∀ N : L2.St → Hp → Prop, (∀ σ H, B D σ H → N σ H) → A { D with nx := N } σ H) : tSeq A B D σ H := h _ fun _ _ h => h
theorem c_law (T : KL.Txt P w K mg base CL PE (TLaw PL) GT) (told : Told K mg "_law_told" "what" "ProcessError" "ProcessError" PE) (xe : PySem.W.exmOne K (.ref PE) (.ref PE) = some true) {f c : Addr} {fd : FuncData} (D : Def K mg "law" (top 16) f fd c) (tbL : LamX.TabB base mg c PL) :
    FnOk P w K mg base (L2.CX P w) 34 f fd ["script"] (spLaw K (TLaw PL) GT) ∧ (∀ us : List Value, us.length = 1 → bindArgs fd ⟨us, []⟩ = pure ((["script"] : List Str).zip us)) := by
  have c_law_rounds := c_law_rounds T
  have c_law_roll := c_law_roll T
  have c_law_blocked := c_law_blocked T
  have c_law_waits := c_law_waits T
  have c_law_ring := c_law_ring T
  have c_law_take := c_law_take T
  have c_law_serve := c_law_serve T
  have c_law_drop := c_law_drop T
  have k_Locks := k_Locks T
  have m_Locks_blockers := m_blk T
  have m_Locks_ask := m_ask T
  have m_Locks_release := m_rel T
  have m_Locks_leave := m_leave T
  have m_Locks_shown := m_shown T
  have m_Locks_waits_for := m_waits T
  have m_Locks_in_ring := m_ring T
  have m_Locks_holders_of := m_hold T
  have m_Locks_fits := m_fits T
  have m_Locks_ahead := m_ahead T
  have hmT : (PL, lamq) ∈ TLaw PL := List.mem_singleton.mpr rfl
  have hu : ∀ p ∈ TLaw PL, p.1 = PL → p.2 = lamq := fun p hp _ => by rw [List.mem_singleton.mp hp]
  refine D.okF (N := ["script", "dice", "state", "step", "sort", "busy", "due", "queue", "told_now", "one", "held", "rows", "how", "locks", "name", "who", "row", "other"]) (ps := ["script"]) ⟨rfl, rfl, rfl, by decide +kernel, rfl, by decide +kernel, by decide +kernel⟩ (fun vs H Q E h => by first | (obtain ⟨_, rfl, _⟩ := h; rfl) | (obtain ⟨_, _, rfl, _⟩ := h; rfl) | (obtain ⟨_, _, _, rfl, _⟩ := h; rfl) | (obtain ⟨_, _, _, _, rfl, _⟩ := h; rfl) | (obtain ⟨_, _, _, _, _, rfl, _⟩ := h; rfl) | (obtain ⟨_, _, _, _, _, _, rfl, _⟩ := h; rfl) | (obtain ⟨_, _, _, _, _, _, _, rfl, _⟩ := h; rfl) | (obtain ⟨_, _, _, _, _, _, _, _, rfl, _⟩ := h; rfl) | (obtain ⟨_, _, _, _, _, _, _, _, _, rfl, _⟩ := h; rfl) | (obtain ⟨_, _, _, _, _, _, _, _, _, _, rfl, _⟩ := h; rfl) | (obtain ⟨_, _, _, _, _, _, _, _, _, _, _, rfl, _⟩ := h; rfl) | (obtain ⟨_, _, _, _, _, _, _, _, _, _, _, _, rfl, _⟩ := h; rfl) | (obtain ⟨_, _, _, _, _, _, _, _, _, _, _, _, _, rfl, _⟩ := h; rfl) | (obtain ⟨_, _, _, _, _, _, _, _, _, _, _, _, _, _, rfl, _⟩ := h; rfl) | (obtain ⟨_, _, _, _, _, _, _, _, _, _, _, _, _, _, _, rfl, _⟩ := h; rfl) | (obtain ⟨rfl, _⟩ := h; rfl)) (fun _ _ _ _ _ _ us hl => match us, hl with | [_], _ => rfl) (fun A outer s H vs Q E hr h => ?_)
  have nd : (["script", "dice", "state", "step", "sort", "busy", "due", "queue", "told_now", "one", "held", "rows", "how", "locks", "name", "who", "row", "other"] : List Str).Nodup := by decide
  refine mk_ex (pss_cons (ps_for (passes_of rfl) rfl (ilK (K := K) rfl (pi_list (GX.pe_call c_law_rounds (hr.mono (by decide)) (takes_of rfl rfl rfl rfl) (by exact (pa_cons (pv 0) (pa_cons pe_int pa_nil)))))) (pg_name (i := 1) nd rfl (Or.inl rfl)) (pss_cons (ps_asg (pe_tup (pa_cons (pe_mak0 k_Locks (hr.mono (by decide))) (pa_cons (pe_disp (pps_cons pe_str pe_dnewK (pps_cons pe_str (pe_lst pa_nil) pps_nil)) rfl rfl (by simp) (by decide)) pa_nil))) (tupGK (K := K) rfl (pg_tup (n := 2) rfl (pgs_cons (pg_name (i := 13) nd rfl (Or.inr rfl)) (pgs_cons (pg_name (i := 2) nd rfl (Or.inl rfl)) pgs_nil)))))
    (pss_one (ps_for (passes_of rfl) rfl (pi_range1 rfl T.n_range (pa_cons (GX.pe_call c_law_roll (hr.mono (by decide)) (takes_of rfl rfl rfl rfl) (by exact (pa_cons (pv 1) (pa_cons pe_int pa_nil)))) pa_nil)) (pg_name (i := 3) nd rfl (Or.inl rfl)) (pss_cons (ps_asg (pe_tup (pa_cons (pe_op (opK (K := K) (r := rAddU) opU_add rfl) pe_int (GX.pe_call c_law_roll (hr.mono (by decide)) (takes_of rfl rfl rfl rfl) (by exact (pa_cons (pv 1) (pa_cons pe_int pa_nil))))) (pa_cons (pe_ix (ixK (K := K) (r := rIx) ix_seq rfl) pe_str (GX.pe_call c_law_roll (hr.mono (by decide)) (takes_of rfl rfl rfl rfl) (by exact (pa_cons (pv 1) (pa_cons pe_int pa_nil)))) (fun _ _ => rfl)) (pa_cons (GX.pe_call c_law_roll (hr.mono (by decide)) (takes_of rfl rfl rfl rfl) (by exact (pa_cons (pv 1) (pa_cons pe_int pa_nil)))) pa_nil)))) (tupGK (K := K) rfl (pg_tup (n := 3) rfl (pgs_cons (pg_name (i := 15) nd rfl (Or.inr rfl)) (pgs_cons (pg_name (i := 14) nd rfl (Or.inr rfl)) (pgs_cons (pg_name (i := 4) nd rfl (Or.inl rfl)) pgs_nil))))))
    (pss_cons (ps_if (pt_cmpR opU_lt (pv 4) pe_int (nomark _)) (pss_cons (ps_set (i := 12) nd rfl (Or.inr rfl) (pe_ix (ixK (K := K) (r := rIx) ix_seq rfl) (pe_lst (pa_cons pe_str (pa_cons pe_str pa_nil))) (GX.pe_call c_law_roll (hr.mono (by decide)) (takes_of rfl rfl rfl rfl) (by exact (pa_cons (pv 1) (pa_cons pe_int pa_nil)))) (fun _ _ => rfl)))
    (pss_cons (ps_set (i := 5) nd rfl (Or.inl rfl) (pe_cmpR (opK (K := K) (r := rNeU) (opU_ne (roomEq hr)) rfl) (pe_lc rfl nd (ilK (K := K) rfl (pi_list (pe_dget (roomD hr) (pv 2) pe_str (fun _ _ => rfl)))) (show BlkOk ["script", "dice", "state", "step", "sort", "busy", "due", "queue", "told_now", "one", "held", "rows", "how", "locks", "name", "who", "row", "other"] (defScope (top 16)) _ [("row", 16)] from blkOk_by (by decide +kernel)) (fun s H C cl fp => (pg_name (i := 16) nd rfl (Or.inl rfl))) (fun s H C cl fp => (pts_one (pt_cmpR (opK (K := K) (r := rEqU) (opU_eq (roomEq hr)) rfl) (pe_ix (ixK (K := K) (r := rIx) ix_seq rfl) (pv 16) pe_int (fun _ _ => rfl)) (pv 15) (nomark _)))) (fun s H C cl fp => (pv 16))) (pe_lst pa_nil) (nomark _)))
    (pss_cons (ps_set (i := 6) nd rfl (Or.inl rfl) (pe_ifExp (pt_truU (K := K) rfl (by exact (pt_truth (pv 5) (fun _ => rfl)))) pe_str (pe_cmpR (opK (K := K) (r := rEqU) (opU_eq (roomEq hr)) rfl) (GX.pe_call c_law_blocked (hr.mono (by decide)) (takes_of rfl rfl rfl rfl) (by exact (pa_cons (pv 2) (pa_cons (pv 15) (pa_cons (pv 14) (pa_cons (pv 12) pa_nil)))))) (pe_lst pa_nil) (nomark _))))
    (pss_cons (ps_if (PW.pt (pw_and (pt_not (pt_truU (K := K) rfl (by exact (pt_truth (pv 5) (fun _ => rfl))))) (pw_and1 (pt_cmpR (opK (K := K) (r := rNeU) (opU_ne (roomEq hr)) rfl) (pe_met m_Locks_blockers (hr.mono (by decide)) (takes_of rfl rfl rfl rfl) (pv 13) (by exact (pa_cons (pv 15) (pa_cons (pv 14) (pa_cons (pv 12) pa_nil))))) (GX.pe_call c_law_blocked (hr.mono (by decide)) (takes_of rfl rfl rfl rfl) (by exact (pa_cons (pv 2) (pa_cons (pv 15) (pa_cons (pv 14) (pa_cons (pv 12) pa_nil)))))) (nomark _))))) (pss_one (ps_ret pe_bl)) pss_nil)
    (pss_cons (ps_if (pt_cmpR op_isB (pv 6) pe_bl (nomark _)) (pss_one (ps_expr (GX.pe_call c_law_take (hr.mono (by decide)) (takes_of rfl rfl rfl rfl) (by exact (pa_cons (pv 2) (pa_cons (pv 15) (pa_cons (pv 14) (pa_cons (pv 12) pa_nil)))))))) (pss_one (ps_if (pt_cmpR op_isB (pv 6) pe_bl (nomark _)) (pss_cons (ps_set (i := 7) nd rfl (Or.inl rfl) (pe_dget (roomD hr) (pv 2) pe_str (fun _ _ => rfl)))
    (pss_cons (ps_expr (bmK (K := K) rfl (pe_bm PySem.F.plainAttrs_list PySem.F.slot_list_append PySem.F.type_list_append mt_append (pv 7) (by exact (pa_cons (pe_tup (pa_cons (pv 15) (pa_cons (pv 14) (pa_cons (pv 12) pa_nil)))) pa_nil)))))
    (pss_one (ps_if (pt_truU (K := K) rfl (by exact (pt_truth (GX.pe_call c_law_ring (hr.mono (by decide)) (takes_of rfl rfl rfl rfl) (by exact (pa_cons (pv 2) (pa_cons (pv 15) pa_nil)))) (fun _ => rfl)))) (pss_cons (ps_expr (bm0K (K := K) rfl (pe_bm0 PySem.F.plainAttrs_list PySem.F.slot_list_pop PySem.F.type_list_pop mt_pop (pv 7))))
    (pss_one (ps_set (i := 6) nd rfl (Or.inl rfl) pe_str))) pss_nil)))) pss_nil)))
    (pss_one (ps_if (pt_cmpR (opK (K := K) (r := rNeU) (opU_ne (roomEq hr)) rfl) (pe_told (k := 20) told rfl tbL rfl hmT hu (hr.mono (by decide)) (show LamX.LamS (defScope (top 16)) _ from LamX.lamS_by (by decide +kernel)) rfl (fun _ _ _ _ _ => rfl) (fun A outer s H E f c' hr1 => (pe_met m_Locks_ask (hr1.mono (by decide)) takes_lam (pv 13) (by exact (pa_cons (pv 15) (pa_cons (pv 14) (pa_cons (pv 12) pa_nil))))))) (pv 6) (nomark _)) (pss_one (ps_ret pe_bl)) pss_nil))))))) (pss_one (ps_if (pt_cmpR opU_lt (pv 4) pe_int (nomark _)) (pss_cons (ps_set (i := 8) nd rfl (Or.inl rfl) (pe_told (k := 20) told rfl tbL rfl hmT hu (hr.mono (by decide)) (show LamX.LamS (defScope (top 16)) _ from LamX.lamS_by (by decide +kernel)) rfl (fun _ _ _ _ _ => rfl) (fun A outer s H E f c' hr1 => (pe_met m_Locks_release (hr1.mono (by decide)) takes_lam (pv 13) (by exact (pa_cons (pv 15) (pa_cons (pv 14) pa_nil)))))))
    (pss_cons (ps_if (pt_cmp (pc_dnotin (roomD hr) (pv 15) (pe_dget2 (roomD hr) (pe_dget (roomD hr) (pv 2) pe_str (fun _ _ => rfl)) (pv 14) pe_dnewK ⟨rfl, rfl, rfl, rfl⟩))) (pss_cons (ps_if (pt_cmpR (opK (K := K) (r := rNeU) (opU_ne (roomEq hr)) rfl) (pv 8) pe_str (nomark _)) (pss_one (ps_ret pe_bl)) pss_nil)
    (pss_one ps_continue)) pss_nil)
    (pss_cons (ps_expr (GX.pe_call c_law_drop (hr.mono (by decide)) (takes_of rfl rfl rfl rfl) (by exact (pa_cons (pv 2) (pa_cons (pv 15) (pa_cons (pv 14) pa_nil))))))
    (pss_one (ps_if (pt_cmpR (opK (K := K) (r := rNeU) (opU_ne (roomEq hr)) rfl) (pv 8) (GX.pe_call c_law_serve (hr.mono (by decide)) (takes_of rfl rfl rfl rfl) (by exact (pa_cons (pv 2) pa_nil))) (nomark _)) (pss_one (ps_ret pe_bl)) pss_nil))))) (pss_cons (ps_set (i := 8) nd rfl (Or.inl rfl) (pe_met m_Locks_leave (hr.mono (by decide)) (takes_of rfl rfl rfl rfl) (pv 13) (by exact (pa_cons (pv 15) pa_nil))))
    (pss_cons (ps_dput (roomD hr) (pv 2) pe_str (pe_lc rfl nd (ilK (K := K) rfl (pi_list (pe_dget (roomD hr) (pv 2) pe_str (fun _ _ => rfl)))) (show BlkOk ["script", "dice", "state", "step", "sort", "busy", "due", "queue", "told_now", "one", "held", "rows", "how", "locks", "name", "who", "row", "other"] (defScope (top 16)) _ [("row", 16)] from blkOk_by (by decide +kernel)) (fun s H C cl fp => (pg_name (i := 16) nd rfl (Or.inl rfl))) (fun s H C cl fp => (pts_one (pt_cmpR (opK (K := K) (r := rNeU) (opU_ne (roomEq hr)) rfl) (pe_ix (ixK (K := K) (r := rIx) ix_seq rfl) (pv 16) pe_int (fun _ _ => rfl)) (pv 15) (nomark _)))) (fun s H C cl fp => (pv 16))) rfl)
    (pss_cons (ps_for (passes_of rfl) rfl (ilK (K := K) rfl (pi_list (pe_callB (call_sortedD rfl) rfl T.n_sorted rfl (by exact (pa_cons (pe_dget (roomD hr) (pv 2) pe_str (fun _ _ => rfl)) pa_nil))))) (pg_name (i := 9) nd rfl (Or.inl rfl)) (pss_one (ps_if (pt_cmp (pc_din (roomD hr) (pv 15) (pe_dget (roomD hr) (pe_dget (roomD hr) (pv 2) pe_str (fun _ _ => rfl)) (pv 9) (fun _ _ => rfl)))) (pss_one (ps_expr (GX.pe_call c_law_drop (hr.mono (by decide)) (takes_of rfl rfl rfl rfl) (by exact (pa_cons (pv 2) (pa_cons (pv 15) (pa_cons (pv 9) pa_nil))))))) pss_nil)))
    (pss_one (ps_if (pt_cmpR (opK (K := K) (r := rNeU) (opU_ne (roomEq hr)) rfl) (pv 8) (GX.pe_call c_law_serve (hr.mono (by decide)) (takes_of rfl rfl rfl rfl) (by exact (pa_cons (pv 2) pa_nil))) (nomark _)) (pss_one (ps_ret pe_bl)) pss_nil))))))))
    (pss_cons (ps_set (i := 10) nd rfl (Or.inr rfl) (pe_dget (roomD hr) (pv 2) pe_str (fun _ _ => rfl)))
    (pss_cons (ps_set (i := 11) nd rfl (Or.inl rfl) (pe_tupL (K := K) rfl rfl T.n_tuple (pe_lc rfl nd (ilK (K := K) rfl (pi_list (pe_callB (call_sortedD rfl) rfl T.n_sorted rfl (by exact (pa_cons (pv 10) pa_nil))))) (show BlkOk ["script", "dice", "state", "step", "sort", "busy", "due", "queue", "told_now", "one", "held", "rows", "how", "locks", "name", "who", "row", "other"] (defScope (top 16)) _ [("one", 9)] from blkOk_by (by decide +kernel)) (fun s H C cl fp => (pg_name (i := 9) nd rfl (Or.inr rfl))) (fun s H C cl fp => pts_nil) (fun s H C cl fp => (pe_tup (pa_cons (pv 9) (pa_cons (pe_tupL (K := K) rfl rfl T.n_tuple (pe_lc rfl nd (ilK (K := K) rfl (pi_list (pe_callB (call_sortedDI rfl) rfl T.n_sorted rfl (by exact (pa_cons (pe_dget (roomD hr) (pv 10) (pv 9) (fun _ _ => rfl)) pa_nil))))) (show BlkOk ["script", "dice", "state", "step", "sort", "busy", "due", "queue", "told_now", "one", "held", "rows", "how", "locks", "name", "who", "row", "other"] (relS _ (defScope (top 16))) _ [("other", 17)] from blkOk_by (by decide +kernel)) (fun s H C cl fp => (pg_name (i := 17) nd rfl (Or.inl rfl))) (fun s H C cl fp => pts_nil) (fun s H C cl fp => (pe_tup (pa_cons (pv 17) (pa_cons (pe_dget (roomD hr) (pe_dget (roomD hr) (pv 10) (pv 9) (fun _ _ => rfl)) (pv 17) (fun _ _ => rfl)) pa_nil)))))) pa_nil)))))))
    (pss_cons (ps_if (pt_cmpR (opK (K := K) (r := rNeU) (opU_ne (roomEq hr)) rfl) (pe_met0 m_Locks_shown (hr.mono (by decide)) (takes_of rfl rfl rfl rfl) (pv 13)) (pe_tup (pa_cons (pv 11) (pa_cons (tupOfK (K := K) rfl (pe_tupleOf rfl T.n_tuple (pe_dget (roomD hr) (pv 2) pe_str (fun _ _ => rfl)))) pa_nil))) (nomark _)) (pss_one (ps_ret pe_bl)) pss_nil)
    (pss_cons (ps_for (passes_of rfl) rfl (pi_range2 rfl T.n_range (pa_cons pe_int (pa_cons pe_int pa_nil))) (pg_name (i := 9) nd rfl (Or.inl rfl)) (pss_one (ps_if (PW.pt (pw_or (pt_cmpR (opK (K := K) (r := rNeU) (opU_ne (roomEq hr)) rfl) (pe_met m_Locks_waits_for (hr.mono (by decide)) (takes_of rfl rfl rfl rfl) (pv 13) (by exact (pa_cons (pv 9) pa_nil))) (GX.pe_call c_law_waits (hr.mono (by decide)) (takes_of rfl rfl rfl rfl) (by exact (pa_cons (pv 2) (pa_cons (pv 9) pa_nil)))) (nomark _)) (pw_or1 (pt_truU (K := K) rfl (by exact (pt_truth (pe_met m_Locks_in_ring (hr.mono (by decide)) (takes_of rfl rfl rfl rfl) (pv 13) (by exact (pa_cons (pv 9) pa_nil))) (fun _ => rfl))))))) (pss_one (ps_ret pe_bl)) pss_nil)))
    (pss_one (ps_if (PW.pt (pw_or (pt_cmpR (opK (K := K) (r := rNeE) (opE_ne (roomEq hr)) rfl) (pe_met m_Locks_holders_of (hr.mono (by decide)) (takes_of rfl rfl rfl rfl) (pv 13) (by exact (pa_cons (pv 14) pa_nil))) (pe_dget2 (roomD hr) (pv 10) (pv 14) pe_dnewK ⟨rfl, rfl, rfl, rfl⟩) (nomark _)) (pw_or1 (pt_cmpR (opK (K := K) (r := rNeE) (opE_ne (roomEq hr)) rfl) (pe_met m_Locks_fits (hr.mono (by decide)) (takes_of rfl rfl rfl rfl) (pv 13) (by exact (pa_cons (pv 15) (pa_cons (pv 14) (pa_cons pe_str pa_nil))))) (pe_cmpR (opK (K := K) (r := rEqU) (opU_eq (roomEq hr)) rfl) (pe_lockA (pe_lc rfl nd (pi_keys (pe_lk (pe_dget2 (roomD hr) (pv 10) (pv 14) pe_dnewK ⟨rfl, rfl, rfl, rfl⟩))) (show BlkOk ["script", "dice", "state", "step", "sort", "busy", "due", "queue", "told_now", "one", "held", "rows", "how", "locks", "name", "who", "row", "other"] (defScope (top 16)) _ [("one", 9)] from blkOk_by (by decide +kernel)) (fun s H C cl fp => (pg_name (i := 9) nd rfl (Or.inl rfl))) (fun s H C cl fp => (pts_one (pt_cmpR (opK (K := K) (r := rNeE) (opE_ne (roomEq hr)) rfl) (pv 9) (pv 15) (nomark _)))) (fun s H C cl fp => (pv 9)))) (pe_lst pa_nil) (nomark _)) (nomark _))))) (pss_one (ps_ret pe_bl)) pss_nil))))))))))))
    (pss_one (ps_ret (pe_and (pe_cmpR (opK (K := K) (r := rEqU) (opU_eq (roomEq hr)) rfl) (pe_told (k := 20) told rfl tbL rfl hmT hu (hr.mono (by decide)) (show LamX.LamS (defScope (top 16)) _ from LamX.lamS_by (by decide +kernel)) rfl (fun _ _ _ _ _ => rfl) (fun A outer s H E f c' hr1 => (pe_met m_Locks_ask (hr1.mono (by decide)) takes_lam (pe_mak0 k_Locks (hr1.mono (by decide))) (by exact (pa_cons pe_int (pa_cons pe_str (pa_cons pe_str pa_nil))))))) pe_str (nomark _)) (pe_one (pe_cmpR (opK (K := K) (r := rEqU) (opU_eq (roomEq hr)) rfl) (pe_met m_Locks_ahead (hr.mono (by decide)) (takes_of rfl rfl rfl rfl) (pe_mak0 k_Locks (hr.mono (by decide))) (by exact (pa_cons pe_int (pa_cons pe_str pa_nil)))) (pe_lst pa_nil) (nomark _))))))) ?_
  obtain ⟨p, ns, rfl, hs, ht, h⟩ := h
  simp only [cx_K, gcx_K, lcx_K, LenV, rLenU, tTruU, kTup, tFld, sFld, sFldAug, tMet, tMake, tBM, tDGet, tDGet1, tDGet2, sDPut, tRevL, iEnum, tAug, tAsg, mulV_int, iaddU_int, isubU_int, iaddU_str, tTupL, ex2eq, not_true_eq_false, not_false_eq_true, LamX.tLam, LamX.TTold, tSeq, tIf, tNext, tRet, tRetN, tIfS, tTest, tB, tNot, tAnd, tOr, tChain, tOp, tUn, tC, tVar, tCons, tNil, tTup, tLst, tAsg, gName, gTup, gCons, gNil, gSub, tDrop, tCallS, tCB, tM1, tM0, tBM, tBM0, tSl, tPar, tFor_eq, tLc_eq, intU_int, intU_bl, iList, iTup, iEnumT, tDNewK, tDisp, tPairs, rSlT, rSlL, iRng1, iRng2, iStr, tThen, tNever, L2.start, tRaiseFile, tMkFile, tYes, tPart, tNoPart, addA_int, addA_str, addU_int, addU_str, addU_ref, subU_int, mulU_int, mulU_ref, fdvU_int, modU_int, powU_int, ltU_int, leU_int, gtU_int, geU_int, eqU_int, eqU_str, eqU_bl, neU_int, neU_str, neU_bl, WE, TruV, tDIn, tDNotIn, sDDel, tDSetd, tDPop1, tLock, tLockE, tLk, tLockA, tLockEA, iKeys, List.map, List.length_cons, List.length_nil, List.replicate, List.append, List.getElem?_cons_zero, List.getElem?_cons_succ, List.set_cons_zero, List.set_cons_succ, List.cons_append, List.nil_append, Option.some.injEq, V.int.injEq, V.str.injEq, V.bl.injEq, V.ref.injEq, List.cons.injEq, exists_eq_left, exists_eq_right, and_true, true_and, and_self, exists_eq, exists_const, Bool.not_true, Bool.not_false, Bool.false_eq_true, if_true, if_false, reduceIte, decide_eq_true_eq, bne_iff_ne, exists_eq_left', exists_eq', exists_and_left, Bool.not_eq_true', decide_eq_false_iff_not, Nat.reduceSub, Nat.reduceAdd, reduceCtorEq, false_and, or_false, false_or, exists_false]
  refine ⟨p, ns, rfl, hs, fun q r x y z H1 e1 hq hr0 => ⟨q, rfl, ⟨_, lst_at hq⟩, ?_⟩⟩
  have s1 : Dc H1 r := ⟨x, y, z, hr0⟩
  have t1 := e1.tb ht
  refine loop_list (xs := [V.ref r]) (fun i σ H' => (i = 0 → σ = L2.start ["script", "dice", "state", "step", "sort", "busy", "due", "queue", "told_now", "one", "held", "rows", "how", "locks", "name", "who", "row", "other"] [.ref p] ∧ H' = H1) ∧ H' q = some (.lst [.ref r]) ∧ Tb (TLaw PL) GT H') ⟨fun _ => ⟨rfl, rfl⟩, hq, t1⟩ (fun i σ H' hi e => lst_at e.2.1) ?_ ?_
  · rintro i v σ H' hx ⟨e0, _, _⟩
    match i, hx with
    | 0, hx =>
      obtain rfl : V.ref r = v := Option.some.inj hx
      obtain ⟨rfl, rfl⟩ := e0 rfl
      simp only [L2.start, tSeq, tAsg, gName, cx_K, gcx_K, lcx_K, LenV, rLenU, tTruU, kTup, tFld, sFld, sFldAug, tMet, tMake, tBM, tDGet, tDGet1, tDGet2, sDPut, tRevL, iEnum, tAug, tAsg, mulV_int, iaddU_int, isubU_int, iaddU_str, tTupL, ex2eq, not_true_eq_false, not_false_eq_true, LamX.tLam, LamX.TTold, tSeq, tIf, tNext, tRet, tRetN, tIfS, tTest, tB, tNot, tAnd, tOr, tChain, tOp, tUn, tC, tVar, tCons, tNil, tTup, tLst, tAsg, gName, gTup, gCons, gNil, gSub, tDrop, tCallS, tCB, tM1, tM0, tBM, tBM0, tSl, tPar, tFor_eq, tLc_eq, intU_int, intU_bl, iList, iTup, iEnumT, tDNewK, tDisp, tPairs, rSlT, rSlL, iRng1, iRng2, iStr, tThen, tNever, L2.start, tRaiseFile, tMkFile, tYes, tPart, tNoPart, addA_int, addA_str, addU_int, addU_str, addU_ref, subU_int, mulU_int, mulU_ref, fdvU_int, modU_int, powU_int, ltU_int, leU_int, gtU_int, geU_int, eqU_int, eqU_str, eqU_bl, neU_int, neU_str, neU_bl, WE, TruV, tDIn, tDNotIn, sDDel, tDSetd, tDPop1, tLock, tLockE, tLk, tLockA, tLockEA, iKeys, List.map, List.length_cons, List.length_nil, List.replicate, List.append, List.getElem?_cons_zero, List.getElem?_cons_succ, List.set_cons_zero, List.set_cons_succ, List.cons_append, List.nil_append, Option.some.injEq, V.int.injEq, V.str.injEq, V.bl.injEq, V.ref.injEq, List.cons.injEq, exists_eq_left, exists_eq_right, and_true, true_and, and_self, exists_eq, exists_const, Bool.not_true, Bool.not_false, Bool.false_eq_true, if_true, if_false, reduceIte, decide_eq_true_eq, bne_iff_ne, exists_eq_left', exists_eq', exists_and_left, Bool.not_eq_true', decide_eq_false_iff_not, Nat.reduceSub, Nat.reduceAdd, reduceCtorEq, false_and, or_false, false_or, exists_false]
      refine lk_new fun l dx h0 q0 H2 e2 L2' f2 s hs1 h1 hh1 => ⟨Nat.zero_le _, fun q1 hq1 => ?_⟩
      have nsh : s ≠ h1 := fun z => by rw [← z, upd_same] at hh1; cases hh1
      have nsq : s ≠ q1 := fun z => by rw [← z, upd_ne nsh, upd_same] at hq1; cases hq1
      have nhq : h1 ≠ q1 := fun z => by rw [← z, upd_same] at hq1; cases hq1
      have hh2 : H2 h1 = none := by rw [upd_ne (Ne.symm nsh)] at hh1; exact hh1
      have hq2 : H2 q1 = none := by rw [upd_ne (Ne.symm nhq), upd_ne (Ne.symm nsq)] at hq1; exact hq1
      have e3 : Ex [] (TLaw PL) GT H2 (upd (upd (upd H2 s (.dK [])) h1 (.dK [])) q1 (.lst [])) := ((Ex.new hs1).add hh1).add hq1
      have g1 : upd (upd (upd H2 s (.dK [])) h1 (.dK [])) q1 (.lst []) s = some (.dK []) := by rw [upd_ne nsq, upd_ne nsh, upd_same]
      have g2 : upd (upd (upd H2 s (.dK [])) h1 (.dK [])) q1 (.lst []) h1 = some (.dK []) := by rw [upd_ne nhq, upd_same]
      have g3 : upd (upd (upd H2 s (.dK [])) h1 (.dK [])) q1 (.lst []) q1 = some (.lst []) := upd_same
      generalize upd (upd (upd H2 s (.dK [])) h1 (.dK [])) q1 (.lst []) = H3 at e3 g1 g2 g3 ⊢
      refine ⟨g1, [(.inr "held", .ref h1), (.inr "queue", .ref q1)], rfl, by show 2 ≤ 15; decide, sz 2, fun r4 hr4 => ?_⟩
      rw [show mergeK [] [((.inr "held" : Key), V.ref h1), (.inr "queue", V.ref q1)] = [((.inr "held" : Key), V.ref h1), (.inr "queue", V.ref q1)] from merge2 h1 q1] at *
      have e4 : Ex [] (TLaw PL) GT H2 (upd H3 s (.dK [(.inr "held", .ref h1), (.inr "queue", .ref q1)])) := e3.chg g1 rfl (.inr (free_none hs1))
      have k1 : upd H3 s (.dK [(.inr "held", .ref h1), (.inr "queue", .ref q1)]) s = some (.dK [(.inr "held", .ref h1), (.inr "queue", .ref q1)]) := upd_same
      have k2 : upd H3 s (.dK [(.inr "held", .ref h1), (.inr "queue", .ref q1)]) h1 = some (.dK []) := by rw [upd_ne (Ne.symm nsh)]; exact g2
      have k3 : upd H3 s (.dK [(.inr "held", .ref h1), (.inr "queue", .ref q1)]) q1 = some (.lst []) := by rw [upd_ne (Ne.symm nsq)]; exact g3
      generalize upd H3 s (.dK [(.inr "held", .ref h1), (.inr "queue", .ref q1)]) = H4 at e4 k1 k2 k3 hr4 ⊢
      have e24 := e2.trans e4
      have L4 := L2'.keep e4 (fun _ _ => by simp)
      have S4 : SA K H4 s h1 q1 [] [] := ⟨k1, ⟨k2, k3, (fun x hx => by cases hx), (fun x hx => by cases hx), .nil, .nil, (by simp), (fun x hx => by cases hx), .nil⟩, by simp [fpOf, nsh, nsq]⟩
      have new1 : ∀ a, ¬ free H' a → a ∉ l :: fpOf h0 q0 [] := fun a hf ha => hf (f2 a ha)
      have new2 : ∀ a, (∃ o, H2 a = some o ∧ isMut o = true) → a ∉ s :: fpOf h1 q1 [] := fun a ha hm => by
        simp only [fpOf, List.map_nil, List.mem_cons, List.not_mem_nil, or_false] at hm
        obtain ⟨o, ho, _⟩ := ha
        rcases hm with rfl | rfl | rfl
        · rw [hs1] at ho; cases ho
        · rw [hh2] at ho; cases ho
        · rw [hq2] at ho; cases ho
      have z4 : LW K CL (TLaw PL) GT H4 r q l dx h0 q0 [] [] s h1 q1 [] [] := ⟨s1.keep (by simp) e24, e24.lst (by simp) hq, e24.tb t1, L4, S4, fun a ha => new2 a (L2'.live a ha), new1 _ (not_free ⟨_, hr0, rfl⟩), new2 _ ⟨_, e2.lst (by simp) hr0, rfl⟩, new1 _ (not_free ⟨_, hq, rfl⟩), new2 _ ⟨_, e2.lst (by simp) hq, rfl⟩⟩
      have z5 := z4.ex (Ex.new (o := .tup [V.ref l, V.ref s]) hr4)
      have q5 : SqT K (upd H4 r4 (.tup [V.ref l, V.ref s])) r4 [V.ref l, V.ref s] := SqT.of upd_same
      generalize upd H4 r4 (.tup [V.ref l, V.ref s]) = H5 at z5 q5 ⊢
      refine ⟨_, q5, rfl, _, _, rfl, _, _, rfl, rfl, roll_ok z5.dc (by decide) (by decide) fun j H6 j0 j1 e6 c6 => ⟨j, rfl, by omega, by omega, ?_⟩⟩
      have z6 := z5.roll e6 c6
      refine loop_range (fun _ => LwI K CL (TLaw PL) GT p r q s l) ⟨_, _, _, _, _, _, _, _, _, _, _, _, _, _, dx, h0, q0, h1, q1, [], [], [], [], rfl, z6, rfl, Inv.init⟩ ?_ ?_
      · rintro i σ H7 hi ⟨v3, v4, v5, v6, v7, v8, v9, v10, v11, v12, v14, v15, v16, v17, dx, h, q5, h', q', hs, hs', qs, qs', rfl, z7, ev, iv⟩
        refine seq_in fun N hN => ?_
        simp only [tAsg, gName, cx_K, gcx_K, lcx_K, LenV, rLenU, tTruU, kTup, tFld, sFld, sFldAug, tMet, tMake, tBM, tDGet, tDGet1, tDGet2, sDPut, tRevL, iEnum, tAug, tAsg, mulV_int, iaddU_int, isubU_int, iaddU_str, tTupL, ex2eq, not_true_eq_false, not_false_eq_true, LamX.tLam, LamX.TTold, tSeq, tIf, tNext, tRet, tRetN, tIfS, tTest, tB, tNot, tAnd, tOr, tChain, tOp, tUn, tC, tVar, tCons, tNil, tTup, tLst, tAsg, gName, gTup, gCons, gNil, gSub, tDrop, tCallS, tCB, tM1, tM0, tBM, tBM0, tSl, tPar, tFor_eq, tLc_eq, intU_int, intU_bl, iList, iTup, iEnumT, tDNewK, tDisp, tPairs, rSlT, rSlL, iRng1, iRng2, iStr, tThen, tNever, L2.start, tRaiseFile, tMkFile, tYes, tPart, tNoPart, addA_int, addA_str, addU_int, addU_str, addU_ref, subU_int, mulU_int, mulU_ref, fdvU_int, modU_int, powU_int, ltU_int, leU_int, gtU_int, geU_int, eqU_int, eqU_str, eqU_bl, neU_int, neU_str, neU_bl, WE, TruV, tDIn, tDNotIn, sDDel, tDSetd, tDPop1, tLock, tLockE, tLk, tLockA, tLockEA, iKeys, List.map, List.length_cons, List.length_nil, List.replicate, List.append, List.getElem?_cons_zero, List.getElem?_cons_succ, List.set_cons_zero, List.set_cons_succ, List.cons_append, List.nil_append, Option.some.injEq, V.int.injEq, V.str.injEq, V.bl.injEq, V.ref.injEq, List.cons.injEq, exists_eq_left, exists_eq_right, and_true, true_and, and_self, exists_eq, exists_const, Bool.not_true, Bool.not_false, Bool.false_eq_true, if_true, if_false, reduceIte, decide_eq_true_eq, bne_iff_ne, exists_eq_left', exists_eq', exists_and_left, Bool.not_eq_true', decide_eq_false_iff_not, Nat.reduceSub, Nat.reduceAdd, reduceCtorEq, false_and, or_false, false_or, exists_false]
        refine roll_ok z7.dc (by decide) (by decide) fun k1 H8 k10 k11 e8 c8 => ?_
        have z8 := z7.roll e8 c8
        simp only [cx_K, gcx_K, lcx_K, LenV, rLenU, tTruU, kTup, tFld, sFld, sFldAug, tMet, tMake, tBM, tDGet, tDGet1, tDGet2, sDPut, tRevL, iEnum, tAug, tAsg, mulV_int, iaddU_int, isubU_int, iaddU_str, tTupL, ex2eq, not_true_eq_false, not_false_eq_true, LamX.tLam, LamX.TTold, tSeq, tIf, tNext, tRet, tRetN, tIfS, tTest, tB, tNot, tAnd, tOr, tChain, tOp, tUn, tC, tVar, tCons, tNil, tTup, tLst, tAsg, gName, gTup, gCons, gNil, gSub, tDrop, tCallS, tCB, tM1, tM0, tBM, tBM0, tSl, tPar, tFor_eq, tLc_eq, intU_int, intU_bl, iList, iTup, iEnumT, tDNewK, tDisp, tPairs, rSlT, rSlL, iRng1, iRng2, iStr, tThen, tNever, L2.start, tRaiseFile, tMkFile, tYes, tPart, tNoPart, addA_int, addA_str, addU_int, addU_str, addU_ref, subU_int, mulU_int, mulU_ref, fdvU_int, modU_int, powU_int, ltU_int, leU_int, gtU_int, geU_int, eqU_int, eqU_str, eqU_bl, neU_int, neU_str, neU_bl, WE, TruV, tDIn, tDNotIn, sDDel, tDSetd, tDPop1, tLock, tLockE, tLk, tLockA, tLockEA, iKeys, List.map, List.length_cons, List.length_nil, List.replicate, List.append, List.getElem?_cons_zero, List.getElem?_cons_succ, List.set_cons_zero, List.set_cons_succ, List.cons_append, List.nil_append, Option.some.injEq, V.int.injEq, V.str.injEq, V.bl.injEq, V.ref.injEq, List.cons.injEq, exists_eq_left, exists_eq_right, and_true, true_and, and_self, exists_eq, exists_const, Bool.not_true, Bool.not_false, Bool.false_eq_true, if_true, if_false, reduceIte, decide_eq_true_eq, bne_iff_ne, exists_eq_left', exists_eq', exists_and_left, Bool.not_eq_true', decide_eq_false_iff_not, Nat.reduceSub, Nat.reduceAdd, reduceCtorEq, false_and, or_false, false_or, exists_false]
        refine roll_ok z8.dc (by decide) (by decide) fun k2 H9 k20 k21 e9 c9 => rIx_pq k20 k21 fun n hn => ?_
        have z9 := z8.roll e9 c9
        refine roll_ok z9.dc (by decide) (by decide) fun k3 H10 k30 k31 e10 c10 => ⟨sz 3, fun t hT => ?_⟩
        have z11 := (z9.roll e10 c10).ex (Ex.new (o := .tup [V.int (1 + k1), V.str n, V.int k3]) hT)
        have t10 : SqT K (upd H10 t (.tup [V.int (1 + k1), V.str n, V.int k3])) t [V.int (1 + k1), V.str n, V.int k3] := SqT.of upd_same
        generalize upd H10 t (.tup [V.int (1 + k1), V.str n, V.int k3]) = H11 at z11 t10 ⊢
        refine ⟨_, t10, rfl, _, _, rfl, _, _, rfl, _, _, rfl, rfl, hN _ _ ?_⟩
        have w5 : W5 (1 + k1) := ⟨by omega, by omega⟩
        generalize 1 + k1 = who at w5 ⊢
        clear hN N
        refine seq_cut (LwT K CL (TLaw PL) GT p r q s l) ?_ fun N hN => ?_
        · clear w5 hn t10 z11
          rintro σ HT ⟨v3, v4, v5, v6, v7, v8, v9, v10, v11, v12, v16, v17, who, n, dx, h, q5, h', q', hs, hs', qs, qs', rfl, zT, ev, iv⟩
          have wf' : Wf (lkOf hs' qs') := by rw [← ev]; exact iv.wf
          refine seq_in fun N2 hN2 => ?_
          simp only [tAsg, gName, cx_K, gcx_K, lcx_K, LenV, rLenU, tTruU, kTup, tFld, sFld, sFldAug, tMet, tMake, tBM, tDGet, tDGet1, tDGet2, sDPut, tRevL, iEnum, tAug, tAsg, mulV_int, iaddU_int, isubU_int, iaddU_str, tTupL, ex2eq, not_true_eq_false, not_false_eq_true, LamX.tLam, LamX.TTold, tSeq, tIf, tNext, tRet, tRetN, tIfS, tTest, tB, tNot, tAnd, tOr, tChain, tOp, tUn, tC, tVar, tCons, tNil, tTup, tLst, tAsg, gName, gTup, gCons, gNil, gSub, tDrop, tCallS, tCB, tM1, tM0, tBM, tBM0, tSl, tPar, tFor_eq, tLc_eq, intU_int, intU_bl, iList, iTup, iEnumT, tDNewK, tDisp, tPairs, rSlT, rSlL, iRng1, iRng2, iStr, tThen, tNever, L2.start, tRaiseFile, tMkFile, tYes, tPart, tNoPart, addA_int, addA_str, addU_int, addU_str, addU_ref, subU_int, mulU_int, mulU_ref, fdvU_int, modU_int, powU_int, ltU_int, leU_int, gtU_int, geU_int, eqU_int, eqU_str, eqU_bl, neU_int, neU_str, neU_bl, WE, TruV, tDIn, tDNotIn, sDDel, tDSetd, tDPop1, tLock, tLockE, tLk, tLockA, tLockEA, iKeys, List.map, List.length_cons, List.length_nil, List.replicate, List.append, List.getElem?_cons_zero, List.getElem?_cons_succ, List.set_cons_zero, List.set_cons_succ, List.cons_append, List.nil_append, Option.some.injEq, V.int.injEq, V.str.injEq, V.bl.injEq, V.ref.injEq, List.cons.injEq, exists_eq_left, exists_eq_right, and_true, true_and, and_self, exists_eq, exists_const, Bool.not_true, Bool.not_false, Bool.false_eq_true, if_true, if_false, reduceIte, decide_eq_true_eq, bne_iff_ne, exists_eq_left', exists_eq', exists_and_left, Bool.not_eq_true', decide_eq_false_iff_not, Nat.reduceSub, Nat.reduceAdd, reduceCtorEq, false_and, or_false, false_or, exists_false]
          refine ⟨_, zT.st.gh, hN2 _ _ ?_⟩
          clear hN2 N2
          refine seq_in fun N2 hN2 => ?_
          simp only [tAsg, gName, cx_K, gcx_K, lcx_K, LenV, rLenU, tTruU, kTup, tFld, sFld, sFldAug, tMet, tMake, tBM, tDGet, tDGet1, tDGet2, sDPut, tRevL, iEnum, tAug, tAsg, mulV_int, iaddU_int, isubU_int, iaddU_str, tTupL, ex2eq, not_true_eq_false, not_false_eq_true, LamX.tLam, LamX.TTold, tSeq, tIf, tNext, tRet, tRetN, tIfS, tTest, tB, tNot, tAnd, tOr, tChain, tOp, tUn, tC, tVar, tCons, tNil, tTup, tLst, tAsg, gName, gTup, gCons, gNil, gSub, tDrop, tCallS, tCB, tM1, tM0, tBM, tBM0, tSl, tPar, tFor_eq, tLc_eq, intU_int, intU_bl, iList, iTup, iEnumT, tDNewK, tDisp, tPairs, rSlT, rSlL, iRng1, iRng2, iStr, tThen, tNever, L2.start, tRaiseFile, tMkFile, tYes, tPart, tNoPart, addA_int, addA_str, addU_int, addU_str, addU_ref, subU_int, mulU_int, mulU_ref, fdvU_int, modU_int, powU_int, ltU_int, leU_int, gtU_int, geU_int, eqU_int, eqU_str, eqU_bl, neU_int, neU_str, neU_bl, WE, TruV, tDIn, tDNotIn, sDDel, tDSetd, tDPop1, tLock, tLockE, tLk, tLockA, tLockEA, iKeys, List.map, List.length_cons, List.length_nil, List.replicate, List.append, List.getElem?_cons_zero, List.getElem?_cons_succ, List.set_cons_zero, List.set_cons_succ, List.cons_append, List.nil_append, Option.some.injEq, V.int.injEq, V.str.injEq, V.bl.injEq, V.ref.injEq, List.cons.injEq, exists_eq_left, exists_eq_right, and_true, true_and, and_self, exists_eq, exists_const, Bool.not_true, Bool.not_false, Bool.false_eq_true, if_true, if_false, reduceIte, decide_eq_true_eq, bne_iff_ne, exists_eq_left', exists_eq', exists_and_left, Bool.not_eq_true', decide_eq_false_iff_not, Nat.reduceSub, Nat.reduceAdd, reduceCtorEq, false_and, or_false, false_or, exists_false]
          refine ⟨_, .inl zT.st.co.hh, hs'.map (·.1), by rw [List.map_map, List.map_map]; rfl, by have := wf'.h4; unfold lkOf at this; rw [List.length_map] at this ⊢; omega, fun ns pl hp1 hp2 hpl => ⟨⟨_, lst_at upd_same⟩, fun D hD => ?_⟩⟩
          have zU := zT.ex (Ex.new (o := .lst (ns.map V.str)) hpl)
          have plU : upd HT pl (.lst (ns.map V.str)) pl = some (.lst (ns.map V.str)) := upd_same
          generalize upd HT pl (.lst (ns.map V.str)) = HU at zU plU hD ⊢
          refine lcl_list (xs := ns.map V.str) (fun i H' => Ex [] (TLaw PL) GT HU H' ∧ ∃ ys, H' D = some (.lst ys) ∧ DpAll K H' ys ((ns.take i).map (nmD (lkOf hs' qs')))) ⟨Ex.new hD, [], upd_same, .nil⟩ (fun i H' _ e => lst_at (e.1.lst (by simp) plU)) ?_ ?_
          · rintro i x H' hx ⟨e, ys, hDy, hd⟩
            rw [List.getElem?_map] at hx
            cases hni : ns[i]? with
            | none => rw [hni] at hx; cases hx
            | some n =>
              rw [hni] at hx
              obtain rfl : V.str n = x := Option.some.inj hx
              simp only [cx_K, gcx_K, lcx_K, LenV, rLenU, tTruU, kTup, tFld, sFld, sFldAug, tMet, tMake, tBM, tDGet, tDGet1, tDGet2, sDPut, tRevL, iEnum, tAug, tAsg, mulV_int, iaddU_int, isubU_int, iaddU_str, tTupL, ex2eq, not_true_eq_false, not_false_eq_true, LamX.tLam, LamX.TTold, tSeq, tIf, tNext, tRet, tRetN, tIfS, tTest, tB, tNot, tAnd, tOr, tChain, tOp, tUn, tC, tVar, tCons, tNil, tTup, tLst, tAsg, gName, gTup, gCons, gNil, gSub, tDrop, tCallS, tCB, tM1, tM0, tBM, tBM0, tSl, tPar, tFor_eq, tLc_eq, intU_int, intU_bl, iList, iTup, iEnumT, tDNewK, tDisp, tPairs, rSlT, rSlL, iRng1, iRng2, iStr, tThen, tNever, L2.start, tRaiseFile, tMkFile, tYes, tPart, tNoPart, addA_int, addA_str, addU_int, addU_str, addU_ref, subU_int, mulU_int, mulU_ref, fdvU_int, modU_int, powU_int, ltU_int, leU_int, gtU_int, geU_int, eqU_int, eqU_str, eqU_bl, neU_int, neU_str, neU_bl, WE, TruV, tDIn, tDNotIn, sDDel, tDSetd, tDPop1, tLock, tLockE, tLk, tLockA, tLockEA, iKeys, List.map, List.length_cons, List.length_nil, List.replicate, List.append, List.getElem?_cons_zero, List.getElem?_cons_succ, List.set_cons_zero, List.set_cons_succ, List.cons_append, List.nil_append, Option.some.injEq, V.int.injEq, V.str.injEq, V.bl.injEq, V.ref.injEq, List.cons.injEq, exists_eq_left, exists_eq_right, and_true, true_and, and_self, exists_eq, exists_const, Bool.not_true, Bool.not_false, Bool.false_eq_true, if_true, if_false, reduceIte, decide_eq_true_eq, bne_iff_ne, exists_eq_left', exists_eq', exists_and_left, Bool.not_eq_true', decide_eq_false_iff_not, Nat.reduceSub, Nat.reduceAdd, reduceCtorEq, false_and, or_false, false_or, exists_false, wipe]
              have zV := zU.ex e
              obtain ⟨e0, hf⟩ := fh_some (hp1.mem_iff.mp (List.mem_of_getElem? hni))
              obtain ⟨he0, hen⟩ := fh_mem hf
              have ht0 : hold (lkOf hs' qs') n = e0.2.2 := by rw [hold_fh, hf]; rfl
              have htn := wf'.tn (e0.1, e0.2.2) (List.mem_map.mpr ⟨e0, he0, rfl⟩)
              have htl : e0.2.2.length ≤ 5 := by
                have := len5 htn.1 fun x hx => by obtain ⟨r, hr, rfl⟩ := List.mem_map.mp hx; exact htn.2.2 r hr
                rwa [List.length_map] at this
              refine ⟨_, .inl ⟨kvH hs', .inr n, .inl zV.st.co.hh, rfl, by rw [val_hs, hf]; rfl⟩, e0.2.1, rfl, _, .inl (zV.st.co.ht e0 he0), e0.2.2.map (·.1), by unfold tabK; rw [List.map_map, List.map_map]; rfl, by rw [List.length_map]; omega, fun ks pk hk1 hk2 hpk => ⟨⟨_, lst_at upd_same⟩, fun D1 hD1 => ?_⟩⟩
              rw [srt_eq hk2 hk1] at *
              have eW : Ex [] (TLaw PL) GT H' (upd H' pk (.lst ((srt (e0.2.2.map (·.1))).map V.int))) := Ex.new hpk
              have zW := zV.ex eW
              have pW : upd H' pk (.lst ((srt (e0.2.2.map (·.1))).map V.int)) pk = some (.lst ((srt (e0.2.2.map (·.1))).map V.int)) := upd_same
              have DW := eW.lst (by simp) hDy
              have dW := dpAll_ex eW _ _ hd
              have e0W := e.trans eW
              generalize upd H' pk (.lst ((srt (e0.2.2.map (·.1))).map V.int)) = HW at eW zW pW DW dW e0W hD1 ⊢
              refine lc_its (TL := TLaw PL) (GT := GT) zW.st.co hf htl pW hD1 fun HX ts eX hts hdX => ⟨ts, lst_at hts, fun u1 hu1 => ⟨sz 2, fun u2 hu2 => ?_⟩⟩
              have eY : Ex [] (TLaw PL) GT HX (upd HX u1 (.tup ts)) := Ex.new hu1
              have uY : upd HX u1 (.tup ts) u1 = some (.tup ts) := upd_same
              generalize upd HX u1 (.tup ts) = HY at eY uY hu2 ⊢
              have eZ : Ex [] (TLaw PL) GT HY (upd HY u2 (.tup [V.str n, V.ref u1])) := Ex.new hu2
              have uZ : upd HY u2 (.tup [V.str n, V.ref u1]) u2 = some (.tup [V.str n, V.ref u1]) := upd_same
              generalize upd HY u2 (.tup [V.str n, V.ref u1]) = HZ at eZ uZ ⊢
              have eWZ := (eX.trans eY).trans eZ
              have DZ := eWZ.lst (by simp) DW
              have dZ := dpAll_ex eWZ _ _ dW
              have e0Z := e0W.trans eWZ
              have hl2 := dpa_len dZ
              rw [List.length_map, List.length_take] at hl2
              have hnl : ns.length ≤ 4 := by rw [hp1.length_eq, List.length_map]; have := wf'.h4; unfold lkOf at this; rw [List.length_map] at this; exact this
              have eP : Ex [D] (TLaw PL) GT HZ (upd HZ D (.lst (ys ++ [V.ref u2]))) := Ex.put (by simp) DZ rfl
              refine ⟨ys, DZ, by rw [sizeLine_eq]; omega, e0Z.chg DZ rfl (.inr (free_none hD)), _, upd_same, ?_⟩
              rw [List.take_succ, hni, List.map_append]
              refine dpAll_app (dpAll_exT eP _ _ (tOnly_map _ (tOnly_nm _) _) dZ) (.cons (.tup (eP.sqt (tup_sqt uZ)) (.cons (.str _) (.cons (.tup (eP.sqt (eZ.sqt (tup_sqt uY))) ?_) .nil))) .nil)
              rw [ht0]
              exact dpAll_exT eP _ _ (tOnly_map itD tOnly_it _) (dpAll_ex (eY.trans eZ) _ _ hdX)
          · rintro H' ⟨e, ys, hDy, hd⟩
            rw [List.length_map, List.take_of_length_le (Nat.le_refl _)] at hd
            refine ⟨_, lst_at hDy, fun u1 hu1 => hN2 _ _ ?_⟩
            clear hN2 N2
            have zV := (zU.ex e).ex (Ex.new (o := .tup ys) hu1)
            have dV := dpAll_ex (Ex.new (A := []) (TL := TLaw PL) (GT := GT) (o := .tup ys) hu1) _ _ hd
            have uV : upd H' u1 (.tup ys) u1 = some (.tup ys) := upd_same
            generalize upd H' u1 (.tup ys) = HV at zV dV uV ⊢
            refine seq_in fun N2 hN2 => ?_
            simp only [tAsg, gName, cx_K, gcx_K, lcx_K, LenV, rLenU, tTruU, kTup, tFld, sFld, sFldAug, tMet, tMake, tBM, tDGet, tDGet1, tDGet2, sDPut, tRevL, iEnum, tAug, tAsg, mulV_int, iaddU_int, isubU_int, iaddU_str, tTupL, ex2eq, not_true_eq_false, not_false_eq_true, LamX.tLam, LamX.TTold, tSeq, tIf, tNext, tRet, tRetN, tIfS, tTest, tB, tNot, tAnd, tOr, tChain, tOp, tUn, tC, tVar, tCons, tNil, tTup, tLst, tAsg, gName, gTup, gCons, gNil, gSub, tDrop, tCallS, tCB, tM1, tM0, tBM, tBM0, tSl, tPar, tFor_eq, tLc_eq, intU_int, intU_bl, iList, iTup, iEnumT, tDNewK, tDisp, tPairs, rSlT, rSlL, iRng1, iRng2, iStr, tThen, tNever, L2.start, tRaiseFile, tMkFile, tYes, tPart, tNoPart, addA_int, addA_str, addU_int, addU_str, addU_ref, subU_int, mulU_int, mulU_ref, fdvU_int, modU_int, powU_int, ltU_int, leU_int, gtU_int, geU_int, eqU_int, eqU_str, eqU_bl, neU_int, neU_str, neU_bl, WE, TruV, tDIn, tDNotIn, sDDel, tDSetd, tDPop1, tLock, tLockE, tLk, tLockA, tLockEA, iKeys, List.map, List.length_cons, List.length_nil, List.replicate, List.append, List.getElem?_cons_zero, List.getElem?_cons_succ, List.set_cons_zero, List.set_cons_succ, List.cons_append, List.nil_append, Option.some.injEq, V.int.injEq, V.str.injEq, V.bl.injEq, V.ref.injEq, List.cons.injEq, exists_eq_left, exists_eq_right, and_true, true_and, and_self, exists_eq, exists_const, Bool.not_true, Bool.not_false, Bool.false_eq_true, if_true, if_false, reduceIte, decide_eq_true_eq, bne_iff_ne, exists_eq_left', exists_eq', exists_and_left, Bool.not_eq_true', decide_eq_false_iff_not, Nat.reduceSub, Nat.reduceAdd, reduceCtorEq, false_and, or_false, false_or, exists_false]
            have hnn : ∀ x ∈ hs'.map (·.1), x ∈ nms := fun x hx => by
              obtain ⟨e, he, rfl⟩ := List.mem_map.mp hx
              exact wf'.hr (e.1, e.2.2) (List.mem_map.mpr ⟨e, he, rfl⟩)
            have hfst : hs'.map (·.1) = hs.map (·.1) := by rw [← lk_names hs' qs', ← ev, lk_names]
            refine ⟨_, _, zV.lk.hl, rfl, l, dx, h, q5, hs, qs, rfl, zV.lk, iv.wf, zV.tb, fun a HW ns2 hn1 hn2 eW dW => ⟨_, (zV.ex eW).st.gq, .inl ⟨q', rfl, _, lst_at (zV.ex eW).st.co.hq, fun v1 hv1 => ⟨sz 2, fun v2 hv2 => ?_⟩⟩⟩⟩
            obtain rfl : ns2 = ns := names_eq (fun x hx => hnn x (by rw [hfst]; exact hn1.mem_iff.mp hx)) (by rw [hfst] at hp1; exact hn1.trans hp1.symm) hn2 hp2
            have zW := zV.ex eW
            have eX : Ex [] (TLaw PL) GT HW (upd HW v1 (.tup (qs'.map fun e => V.ref e.1))) := Ex.new hv1
            have zX := zW.ex eX
            have vX : upd HW v1 (.tup (qs'.map fun e => V.ref e.1)) v1 = some (.tup (qs'.map fun e => V.ref e.1)) := upd_same
            generalize upd HW v1 (.tup (qs'.map fun e => V.ref e.1)) = HX at eX zX vX hv2 ⊢
            have eY : Ex [] (TLaw PL) GT HX (upd HX v2 (.tup [V.ref u1, V.ref v1])) := Ex.new hv2
            have zY := zX.ex eY
            have vY : upd HX v2 (.tup [V.ref u1, V.ref v1]) v2 = some (.tup [V.ref u1, V.ref v1]) := upd_same
            generalize upd HX v2 (.tup [V.ref u1, V.ref v1]) = HY at eY zY vY ⊢
            have eVY := (eW.trans eX).trans eY
            have dY : Dp K HY (.ref v2) (shD (lkOf hs qs) ns2) := by
              rw [ev]
              refine .tup (tup_sqt vY) (.cons (.tup (eVY.sqt (tup_sqt uV)) (dpAll_ex eVY _ _ dV)) (.cons (.tup (eY.sqt (tup_sqt vX)) ?_) .nil))
              have : (lkOf hs' qs').queue.map rowD = qs'.map fun e => rowD e.2 := by unfold lkOf; rw [List.map_map]; rfl
              rw [this]
              exact dp_rowsA zY.st.co.hrT
            have hsh := shaped_sh iv.wf (ns := ns2) (fun x hx => hnn x (hp1.mem_iff.mp hx))
            refine ⟨_, _, dp_ex (eX.trans eY) _ _ dW, dY, hsh, hsh, ?_⟩
            rw [eqv_self hsh]
            refine ⟨_, rfl, ?_⟩
            rw [if_neg (by decide)]
            refine hN2 _ _ ?_
            clear hN2 N2
            refine seq_in fun N2 hN2 => ?_
            simp only [tAsg, gName, cx_K, gcx_K, lcx_K, LenV, rLenU, tTruU, kTup, tFld, sFld, sFldAug, tMet, tMake, tBM, tDGet, tDGet1, tDGet2, sDPut, tRevL, iEnum, tAug, tAsg, mulV_int, iaddU_int, isubU_int, iaddU_str, tTupL, ex2eq, not_true_eq_false, not_false_eq_true, LamX.tLam, LamX.TTold, tSeq, tIf, tNext, tRet, tRetN, tIfS, tTest, tB, tNot, tAnd, tOr, tChain, tOp, tUn, tC, tVar, tCons, tNil, tTup, tLst, tAsg, gName, gTup, gCons, gNil, gSub, tDrop, tCallS, tCB, tM1, tM0, tBM, tBM0, tSl, tPar, tFor_eq, tLc_eq, intU_int, intU_bl, iList, iTup, iEnumT, tDNewK, tDisp, tPairs, rSlT, rSlL, iRng1, iRng2, iStr, tThen, tNever, L2.start, tRaiseFile, tMkFile, tYes, tPart, tNoPart, addA_int, addA_str, addU_int, addU_str, addU_ref, subU_int, mulU_int, mulU_ref, fdvU_int, modU_int, powU_int, ltU_int, leU_int, gtU_int, geU_int, eqU_int, eqU_str, eqU_bl, neU_int, neU_str, neU_bl, WE, TruV, tDIn, tDNotIn, sDDel, tDSetd, tDPop1, tLock, tLockE, tLk, tLockA, tLockEA, iKeys, List.map, List.length_cons, List.length_nil, List.replicate, List.append, List.getElem?_cons_zero, List.getElem?_cons_succ, List.set_cons_zero, List.set_cons_succ, List.cons_append, List.nil_append, Option.some.injEq, V.int.injEq, V.str.injEq, V.bl.injEq, V.ref.injEq, List.cons.injEq, exists_eq_left, exists_eq_right, and_true, true_and, and_self, exists_eq, exists_const, Bool.not_true, Bool.not_false, Bool.false_eq_true, if_true, if_false, reduceIte, decide_eq_true_eq, bne_iff_ne, exists_eq_left', exists_eq', exists_and_left, Bool.not_eq_true', decide_eq_false_iff_not, Nat.reduceSub, Nat.reduceAdd, reduceCtorEq, false_and, or_false, false_or, exists_false]
            refine ⟨⟨by decide, by decide, by decide, by decide⟩, ?_⟩
            refine loop_range (fun _ σ H' => ∃ w9, σ = [some (.ref p), some (.ref r), some (.ref s), v3, v4, v5, v6, v7, v8, w9, some (.ref h'), some (.ref u1), v12, some (.ref l), some (.str n), some (.int who), v16, v17] ∧ LW K CL (TLaw PL) GT H' r q l dx h q5 hs qs s h' q' hs' qs') ⟨v9, rfl, zY⟩ ?_ ?_
            · rintro j σ H2 hj ⟨w9, rfl, z2⟩
              simp only [tAsg, gName, cx_K, gcx_K, lcx_K, LenV, rLenU, tTruU, kTup, tFld, sFld, sFldAug, tMet, tMake, tBM, tDGet, tDGet1, tDGet2, sDPut, tRevL, iEnum, tAug, tAsg, mulV_int, iaddU_int, isubU_int, iaddU_str, tTupL, ex2eq, not_true_eq_false, not_false_eq_true, LamX.tLam, LamX.TTold, tSeq, tIf, tNext, tRet, tRetN, tIfS, tTest, tB, tNot, tAnd, tOr, tChain, tOp, tUn, tC, tVar, tCons, tNil, tTup, tLst, tAsg, gName, gTup, gCons, gNil, gSub, tDrop, tCallS, tCB, tM1, tM0, tBM, tBM0, tSl, tPar, tFor_eq, tLc_eq, intU_int, intU_bl, iList, iTup, iEnumT, tDNewK, tDisp, tPairs, rSlT, rSlL, iRng1, iRng2, iStr, tThen, tNever, L2.start, tRaiseFile, tMkFile, tYes, tPart, tNoPart, addA_int, addA_str, addU_int, addU_str, addU_ref, subU_int, mulU_int, mulU_ref, fdvU_int, modU_int, powU_int, ltU_int, leU_int, gtU_int, geU_int, eqU_int, eqU_str, eqU_bl, neU_int, neU_str, neU_bl, WE, TruV, tDIn, tDNotIn, sDDel, tDSetd, tDPop1, tLock, tLockE, tLk, tLockA, tLockEA, iKeys, List.map, List.length_cons, List.length_nil, List.replicate, List.append, List.getElem?_cons_zero, List.getElem?_cons_succ, List.set_cons_zero, List.set_cons_succ, List.cons_append, List.nil_append, Option.some.injEq, V.int.injEq, V.str.injEq, V.bl.injEq, V.ref.injEq, List.cons.injEq, exists_eq_left, exists_eq_right, and_true, true_and, and_self, exists_eq, exists_const, Bool.not_true, Bool.not_false, Bool.false_eq_true, if_true, if_false, reduceIte, decide_eq_true_eq, bne_iff_ne, exists_eq_left', exists_eq', exists_and_left, Bool.not_eq_true', decide_eq_false_iff_not, Nat.reduceSub, Nat.reduceAdd, reduceCtorEq, false_and, or_false, false_or, exists_false]
              refine ⟨_, _, z2.lk.hl, rfl, l, _, dx, h, q5, hs, qs, rfl, z2.lk, iv.wf.sz, fun a3 H3 e3 h3 _ => ⟨s, _, h', q', hs', qs', rfl, (z2.ex e3).st, wf', fun a4 H4 e4 h4 _ => ?_⟩⟩
              have z4 := (z2.ex e3).ex e4
              rw [← ev] at h4
              refine ne_lstI (lst_at (e4.lst (by simp) h3)) (lst_at h4) ⟨_, rfl, ?_⟩
              rw [if_neg (by simp)]
              refine ⟨_, _, z4.lk.hl, rfl, l, _, dx, h, q5, hs, qs, rfl, z4.lk, iv.wf.sz, iv.wf.su, fun b H5 e5 hb => ⟨_, rfl, ?_⟩⟩
              have hb0 : b = false := by
                cases b with
                | false => rfl
                | true => exact absurd (hb.mp rfl) (iv.ac _)
              subst hb0
              rw [if_neg (by decide)]
              exact z4.ex e5
            · rintro σ H2 ⟨w9, rfl, z2⟩
              refine hN2 _ _ ?_
              clear hN2 N2
              simp only [tAsg, gName, cx_K, gcx_K, lcx_K, LenV, rLenU, tTruU, kTup, tFld, sFld, sFldAug, tMet, tMake, tBM, tDGet, tDGet1, tDGet2, sDPut, tRevL, iEnum, tAug, tAsg, mulV_int, iaddU_int, isubU_int, iaddU_str, tTupL, ex2eq, not_true_eq_false, not_false_eq_true, LamX.tLam, LamX.TTold, tSeq, tIf, tNext, tRet, tRetN, tIfS, tTest, tB, tNot, tAnd, tOr, tChain, tOp, tUn, tC, tVar, tCons, tNil, tTup, tLst, tAsg, gName, gTup, gCons, gNil, gSub, tDrop, tCallS, tCB, tM1, tM0, tBM, tBM0, tSl, tPar, tFor_eq, tLc_eq, intU_int, intU_bl, iList, iTup, iEnumT, tDNewK, tDisp, tPairs, rSlT, rSlL, iRng1, iRng2, iStr, tThen, tNever, L2.start, tRaiseFile, tMkFile, tYes, tPart, tNoPart, addA_int, addA_str, addU_int, addU_str, addU_ref, subU_int, mulU_int, mulU_ref, fdvU_int, modU_int, powU_int, ltU_int, leU_int, gtU_int, geU_int, eqU_int, eqU_str, eqU_bl, neU_int, neU_str, neU_bl, WE, TruV, tDIn, tDNotIn, sDDel, tDSetd, tDPop1, tLock, tLockE, tLk, tLockA, tLockEA, iKeys, List.map, List.length_cons, List.length_nil, List.replicate, List.append, List.getElem?_cons_zero, List.getElem?_cons_succ, List.set_cons_zero, List.set_cons_succ, List.cons_append, List.nil_append, Option.some.injEq, V.int.injEq, V.str.injEq, V.bl.injEq, V.ref.injEq, List.cons.injEq, exists_eq_left, exists_eq_right, and_true, true_and, and_self, exists_eq, exists_const, Bool.not_true, Bool.not_false, Bool.false_eq_true, if_true, if_false, reduceIte, decide_eq_true_eq, bne_iff_ne, exists_eq_left', exists_eq', exists_and_left, Bool.not_eq_true', decide_eq_false_iff_not, Nat.reduceSub, Nat.reduceAdd, reduceCtorEq, false_and, or_false, false_or, exists_false]
              have hnk : ((hold (lkOf hs qs) n).map (·.1)).Nodup := (iv.wf.hold n).1
              have htl : (hold (lkOf hs qs) n).length ≤ 20 := iv.wf.sz.2 n
              refine ⟨_, _, z2.lk.hl, rfl, l, n, dx, h, q5, hs, qs, rfl, z2.lk, fun a3 H3 e3 h3 _ => ⟨.inl ⟨_, .inl (z2.ex e3).st.co.hh⟩, fun p4 hp4 => ?_⟩⟩
              have e4 : Ex [] (TLaw PL) GT H3 (upd H3 p4 (.dK [])) := Ex.new hp4
              have z4 := (z2.ex e3).ex e4
              have h4 := e4.ext _ _ (by simp) h3 (fun _ z => by cases z)
              have p4' : upd H3 p4 (.dK []) p4 = some (.dK []) := upd_same
              generalize upd H3 p4 (.dK []) = H4 at e4 z4 h4 p4' ⊢
              obtain ⟨o, b, g1, g2, g3⟩ := held_get (n := n) z4.st.co p4'
              rw [← ev] at g3
              refine ⟨o, g1, ?_⟩
              rw [g2]
              refine .inr ⟨a3, b, _, _, rfl, rfl, h4, g3, rfl, fun x hx => ?_, _, rfl, ?_⟩
              · obtain ⟨ob, hob, rfl⟩ := List.mem_map.mp hx
                exact ⟨val_tab hnk hob, rfl⟩
              rw [if_neg (by decide)]
              refine ⟨_, _, z4.lk.hl, rfl, l, who, n, dx, h, q5, hs, qs, rfl, z4.lk, iv.wf, fun H5 e5 => ⟨.inl ⟨_, .inl (z4.ex e5).st.co.hh⟩, fun p6 hp6 => ?_⟩⟩
              have e6 : Ex [] (TLaw PL) GT H5 (upd H5 p6 (.dK [])) := Ex.new hp6
              have z6 := (z4.ex e5).ex e6
              have p6' : upd H5 p6 (.dK []) p6 = some (.dK []) := upd_same
              generalize upd H5 p6 (.dK []) = H6 at e6 z6 p6' ⊢
              obtain ⟨o6, b6, k1, k2, k3⟩ := held_get (n := n) z6.st.co p6'
              rw [← ev] at k3
              refine ⟨o6, k1, b6, k2, _, k3, trivial, fun od => ⟨b6, k2, od, .inl ⟨_, upd_same, fun D2 hD2 => ?_⟩⟩⟩
              have hDb : D2 ≠ b6 := fun z => by rw [z, upd_same] at hD2; cases hD2
              have hD6 : H6 D2 = none := by rw [upd_ne hDb] at hD2; exact hD2
              generalize ht : hold (lkOf hs qs) n = t at *
              have e7 : Ex [b6] (TLaw PL) GT H6 (upd H6 b6 (.frz od (.dK (tabK t)))) := Ex.put (by simp) k3 rfl
              have a7 : upd H6 b6 (.frz od (.dK (tabK t))) b6 = some (.frz od (.dK (tabK t))) := upd_same
              generalize upd H6 b6 (.frz od (.dK (tabK t))) = H7 at e7 a7 hD2 ⊢
              refine lcl_keys (FiI (TLaw PL) GT H6 b6 D2 od t who) ⟨e7.add hD2, by rw [upd_ne hDb.symm]; exact a7, upd_same⟩ (fun i H' _ I => I.lk) ?_ ?_
              · rintro i k v0 H8 hx ⟨e, lk, hf⟩
                have hx0 := hx
                unfold tabK at hx
                rw [List.getElem?_map] at hx
                cases hti : t[i]? with
                | none => rw [hti] at hx; cases hx
                | some ob =>
                  rw [hti] at hx
                  cases Option.some.inj hx
                  simp only [cx_K, gcx_K, lcx_K, LenV, rLenU, tTruU, kTup, tFld, sFld, sFldAug, tMet, tMake, tBM, tDGet, tDGet1, tDGet2, sDPut, tRevL, iEnum, tAug, tAsg, mulV_int, iaddU_int, isubU_int, iaddU_str, tTupL, ex2eq, not_true_eq_false, not_false_eq_true, LamX.tLam, LamX.TTold, tSeq, tIf, tNext, tRet, tRetN, tIfS, tTest, tB, tNot, tAnd, tOr, tChain, tOp, tUn, tC, tVar, tCons, tNil, tTup, tLst, tAsg, gName, gTup, gCons, gNil, gSub, tDrop, tCallS, tCB, tM1, tM0, tBM, tBM0, tSl, tPar, tFor_eq, tLc_eq, intU_int, intU_bl, iList, iTup, iEnumT, tDNewK, tDisp, tPairs, rSlT, rSlL, iRng1, iRng2, iStr, tThen, tNever, L2.start, tRaiseFile, tMkFile, tYes, tPart, tNoPart, addA_int, addA_str, addU_int, addU_str, addU_ref, subU_int, mulU_int, mulU_ref, fdvU_int, modU_int, powU_int, ltU_int, leU_int, gtU_int, geU_int, eqU_int, eqU_str, eqU_bl, neU_int, neU_str, neU_bl, WE, TruV, tDIn, tDNotIn, sDDel, tDSetd, tDPop1, tLock, tLockE, tLk, tLockA, tLockEA, iKeys, List.map, List.length_cons, List.length_nil, List.replicate, List.append, List.getElem?_cons_zero, List.getElem?_cons_succ, List.set_cons_zero, List.set_cons_succ, List.cons_append, List.nil_append, Option.some.injEq, V.int.injEq, V.str.injEq, V.bl.injEq, V.ref.injEq, List.cons.injEq, exists_eq_left, exists_eq_right, and_true, true_and, and_self, exists_eq, exists_const, Bool.not_true, Bool.not_false, Bool.false_eq_true, if_true, if_false, reduceIte, decide_eq_true_eq, bne_iff_ne, exists_eq_left', exists_eq', exists_and_left, Bool.not_eq_true', decide_eq_false_iff_not, Nat.reduceSub, Nat.reduceAdd, reduceCtorEq, false_and, or_false, false_or, exists_false, kV, wipe]
                  refine .inl ?_
                  simp only [cx_K, gcx_K, lcx_K, LenV, rLenU, tTruU, kTup, tFld, sFld, sFldAug, tMet, tMake, tBM, tDGet, tDGet1, tDGet2, sDPut, tRevL, iEnum, tAug, tAsg, mulV_int, iaddU_int, isubU_int, iaddU_str, tTupL, ex2eq, not_true_eq_false, not_false_eq_true, LamX.tLam, LamX.TTold, tSeq, tIf, tNext, tRet, tRetN, tIfS, tTest, tB, tNot, tAnd, tOr, tChain, tOp, tUn, tC, tVar, tCons, tNil, tTup, tLst, tAsg, gName, gTup, gCons, gNil, gSub, tDrop, tCallS, tCB, tM1, tM0, tBM, tBM0, tSl, tPar, tFor_eq, tLc_eq, intU_int, intU_bl, iList, iTup, iEnumT, tDNewK, tDisp, tPairs, rSlT, rSlL, iRng1, iRng2, iStr, tThen, tNever, L2.start, tRaiseFile, tMkFile, tYes, tPart, tNoPart, addA_int, addA_str, addU_int, addU_str, addU_ref, subU_int, mulU_int, mulU_ref, fdvU_int, modU_int, powU_int, ltU_int, leU_int, gtU_int, geU_int, eqU_int, eqU_str, eqU_bl, neU_int, neU_str, neU_bl, WE, TruV, tDIn, tDNotIn, sDDel, tDSetd, tDPop1, tLock, tLockE, tLk, tLockA, tLockEA, iKeys, List.map, List.length_cons, List.length_nil, List.replicate, List.append, List.getElem?_cons_zero, List.getElem?_cons_succ, List.set_cons_zero, List.set_cons_succ, List.cons_append, List.nil_append, Option.some.injEq, V.int.injEq, V.str.injEq, V.bl.injEq, V.ref.injEq, List.cons.injEq, exists_eq_left, exists_eq_right, and_true, true_and, and_self, exists_eq, exists_const, Bool.not_true, Bool.not_false, Bool.false_eq_true, if_true, if_false, reduceIte, decide_eq_true_eq, bne_iff_ne, exists_eq_left', exists_eq', exists_and_left, Bool.not_eq_true', decide_eq_false_iff_not, Nat.reduceSub, Nat.reduceAdd, reduceCtorEq, false_and, or_false, false_or, exists_false]
                  have hstep : othersL (t.take (i + 1)) who = othersL (t.take i) who ++ (if ob.1 ≠ who then [ob.1] else []) := by
                    unfold othersL
                    rw [List.take_succ, hti, List.filter_append, List.map_append]
                    congr 1
                    rw [Option.toList_some, List.filter_cons]
                    by_cases z : ob.1 = who <;> simp [z]
                  have hlen : (othersL (t.take i) who).length ≤ 20 := by
                    unfold othersL
                    rw [List.length_map]
                    have := List.length_filter_le (fun p : Int × Bool => decide (p.1 ≠ who)) (t.take i)
                    rw [List.length_take] at this
                    omega
                  by_cases z : ob.1 = who
                  · rw [if_neg (by simpa using z)]
                    exact ⟨e, lk, by rw [hf, hstep, if_neg (by simpa using z), List.append_nil]⟩
                  · rw [if_pos z]
                    refine ⟨_, hf, by rw [List.length_map, sizeLine_eq]; omega, e.chg hf rfl (.inr (free_none hD6)), by rw [upd_ne hDb.symm]; exact lk, ?_⟩
                    rw [upd_same, hstep, if_pos z]; simp
              · rintro H8 ⟨e, lk, hf⟩
                refine .inr ⟨b6, od, _, lk, fun o w z => ?_, ?_⟩
                · have := e6.ext _ _ (by simp) z (fun _ z => by cases z)
                  rw [k3] at this; cases this
                have e9 : Ex [] (TLaw PL) GT H6 (upd H8 b6 (.dK (tabK t))) := (e.unl lk (.inl (by simp))).home (.inr ⟨_, k3, upd_same⟩)
                have f9 : upd H8 b6 (.dK (tabK t)) D2 = some (.lst ((othersL t who).map V.int)) := by
                  rw [upd_ne hDb, hf]
                  show some (HO.lst ((othersL (t.take (tabK t).length) who).map V.int)) = _
                  rw [List.take_of_length_le (by unfold tabK; simp)]
                generalize upd H8 b6 (.dK (tabK t)) = H9 at e9 f9 ⊢
                have z9 := z6.ex e9
                try simp only [cx_K, gcx_K, lcx_K, LenV, rLenU, tTruU, kTup, tFld, sFld, sFldAug, tMet, tMake, tBM, tDGet, tDGet1, tDGet2, sDPut, tRevL, iEnum, tAug, tAsg, mulV_int, iaddU_int, isubU_int, iaddU_str, tTupL, ex2eq, not_true_eq_false, not_false_eq_true, LamX.tLam, LamX.TTold, tSeq, tIf, tNext, tRet, tRetN, tIfS, tTest, tB, tNot, tAnd, tOr, tChain, tOp, tUn, tC, tVar, tCons, tNil, tTup, tLst, tAsg, gName, gTup, gCons, gNil, gSub, tDrop, tCallS, tCB, tM1, tM0, tBM, tBM0, tSl, tPar, tFor_eq, tLc_eq, intU_int, intU_bl, iList, iTup, iEnumT, tDNewK, tDisp, tPairs, rSlT, rSlL, iRng1, iRng2, iStr, tThen, tNever, L2.start, tRaiseFile, tMkFile, tYes, tPart, tNoPart, addA_int, addA_str, addU_int, addU_str, addU_ref, subU_int, mulU_int, mulU_ref, fdvU_int, modU_int, powU_int, ltU_int, leU_int, gtU_int, geU_int, eqU_int, eqU_str, eqU_bl, neU_int, neU_str, neU_bl, WE, TruV, tDIn, tDNotIn, sDDel, tDSetd, tDPop1, tLock, tLockE, tLk, tLockA, tLockEA, iKeys, List.map, List.length_cons, List.length_nil, List.replicate, List.append, List.getElem?_cons_zero, List.getElem?_cons_succ, List.set_cons_zero, List.set_cons_succ, List.cons_append, List.nil_append, Option.some.injEq, V.int.injEq, V.str.injEq, V.bl.injEq, V.ref.injEq, List.cons.injEq, exists_eq_left, exists_eq_right, and_true, true_and, and_self, exists_eq, exists_const, Bool.not_true, Bool.not_false, Bool.false_eq_true, if_true, if_false, reduceIte, decide_eq_true_eq, bne_iff_ne, exists_eq_left', exists_eq', exists_and_left, Bool.not_eq_true', decide_eq_false_iff_not, Nat.reduceSub, Nat.reduceAdd, reduceCtorEq, false_and, or_false, false_or, exists_false]
                refine ⟨Nat.zero_le _, fun p10 hp10 => ?_⟩
                have e10 : Ex [] (TLaw PL) GT H9 (upd H9 p10 (.lst [])) := Ex.new hp10
                have z10 := z9.ex e10
                refine eq_lstI (ms := []) (lst_at (e10.lst (by simp) f9)) (lst_at upd_same) (.inl ?_)
                generalize upd H9 p10 (.lst []) = H10 at z10 ⊢
                simp only [cx_K, gcx_K, lcx_K, LenV, rLenU, tTruU, kTup, tFld, sFld, sFldAug, tMet, tMake, tBM, tDGet, tDGet1, tDGet2, sDPut, tRevL, iEnum, tAug, tAsg, mulV_int, iaddU_int, isubU_int, iaddU_str, tTupL, ex2eq, not_true_eq_false, not_false_eq_true, LamX.tLam, LamX.TTold, tSeq, tIf, tNext, tRet, tRetN, tIfS, tTest, tB, tNot, tAnd, tOr, tChain, tOp, tUn, tC, tVar, tCons, tNil, tTup, tLst, tAsg, gName, gTup, gCons, gNil, gSub, tDrop, tCallS, tCB, tM1, tM0, tBM, tBM0, tSl, tPar, tFor_eq, tLc_eq, intU_int, intU_bl, iList, iTup, iEnumT, tDNewK, tDisp, tPairs, rSlT, rSlL, iRng1, iRng2, iStr, tThen, tNever, L2.start, tRaiseFile, tMkFile, tYes, tPart, tNoPart, addA_int, addA_str, addU_int, addU_str, addU_ref, subU_int, mulU_int, mulU_ref, fdvU_int, modU_int, powU_int, ltU_int, leU_int, gtU_int, geU_int, eqU_int, eqU_str, eqU_bl, neU_int, neU_str, neU_bl, WE, TruV, tDIn, tDNotIn, sDDel, tDSetd, tDPop1, tLock, tLockE, tLk, tLockA, tLockEA, iKeys, List.map, List.length_cons, List.length_nil, List.replicate, List.append, List.getElem?_cons_zero, List.getElem?_cons_succ, List.set_cons_zero, List.set_cons_succ, List.cons_append, List.nil_append, Option.some.injEq, V.int.injEq, V.str.injEq, V.bl.injEq, V.ref.injEq, List.cons.injEq, exists_eq_left, exists_eq_right, and_true, true_and, and_self, exists_eq, exists_const, Bool.not_true, Bool.not_false, Bool.false_eq_true, if_true, if_false, reduceIte, decide_eq_true_eq, bne_iff_ne, exists_eq_left', exists_eq', exists_and_left, Bool.not_eq_true', decide_eq_false_iff_not, Nat.reduceSub, Nat.reduceAdd, reduceCtorEq, false_and, or_false, false_or, exists_false]
                exact ⟨_, _, _, _, _, _, _, _, _, _, _, _, _, _, dx, h, q5, h', q', hs, hs', qs, qs', rfl, z10, ev, iv⟩
        refine ifs_in fun A B hA hB => ?_
        simp only [cx_K, gcx_K, lcx_K, LenV, rLenU, tTruU, kTup, tFld, sFld, sFldAug, tMet, tMake, tBM, tDGet, tDGet1, tDGet2, sDPut, tRevL, iEnum, tAug, tAsg, mulV_int, iaddU_int, isubU_int, iaddU_str, tTupL, ex2eq, not_true_eq_false, not_false_eq_true, LamX.tLam, LamX.TTold, tSeq, tIf, tNext, tRet, tRetN, tIfS, tTest, tB, tNot, tAnd, tOr, tChain, tOp, tUn, tC, tVar, tCons, tNil, tTup, tLst, tAsg, gName, gTup, gCons, gNil, gSub, tDrop, tCallS, tCB, tM1, tM0, tBM, tBM0, tSl, tPar, tFor_eq, tLc_eq, intU_int, intU_bl, iList, iTup, iEnumT, tDNewK, tDisp, tPairs, rSlT, rSlL, iRng1, iRng2, iStr, tThen, tNever, L2.start, tRaiseFile, tMkFile, tYes, tPart, tNoPart, addA_int, addA_str, addU_int, addU_str, addU_ref, subU_int, mulU_int, mulU_ref, fdvU_int, modU_int, powU_int, ltU_int, leU_int, gtU_int, geU_int, eqU_int, eqU_str, eqU_bl, neU_int, neU_str, neU_bl, WE, TruV, tDIn, tDNotIn, sDDel, tDSetd, tDPop1, tLock, tLockE, tLk, tLockA, tLockEA, iKeys, List.map, List.length_cons, List.length_nil, List.replicate, List.append, List.getElem?_cons_zero, List.getElem?_cons_succ, List.set_cons_zero, List.set_cons_succ, List.cons_append, List.nil_append, Option.some.injEq, V.int.injEq, V.str.injEq, V.bl.injEq, V.ref.injEq, List.cons.injEq, exists_eq_left, exists_eq_right, and_true, true_and, and_self, exists_eq, exists_const, Bool.not_true, Bool.not_false, Bool.false_eq_true, if_true, if_false, reduceIte, decide_eq_true_eq, bne_iff_ne, exists_eq_left', exists_eq', exists_and_left, Bool.not_eq_true', decide_eq_false_iff_not, Nat.reduceSub, Nat.reduceAdd, reduceCtorEq, false_and, or_false, false_or, exists_false]
        by_cases hk5 : k3 < 5
        · rw [if_pos hk5]
          clear hB
          subst hA
          refine seq_in fun N2 hN2 => ?_
          simp only [tAsg, gName, cx_K, gcx_K, lcx_K, LenV, rLenU, tTruU, kTup, tFld, sFld, sFldAug, tMet, tMake, tBM, tDGet, tDGet1, tDGet2, sDPut, tRevL, iEnum, tAug, tAsg, mulV_int, iaddU_int, isubU_int, iaddU_str, tTupL, ex2eq, not_true_eq_false, not_false_eq_true, LamX.tLam, LamX.TTold, tSeq, tIf, tNext, tRet, tRetN, tIfS, tTest, tB, tNot, tAnd, tOr, tChain, tOp, tUn, tC, tVar, tCons, tNil, tTup, tLst, tAsg, gName, gTup, gCons, gNil, gSub, tDrop, tCallS, tCB, tM1, tM0, tBM, tBM0, tSl, tPar, tFor_eq, tLc_eq, intU_int, intU_bl, iList, iTup, iEnumT, tDNewK, tDisp, tPairs, rSlT, rSlL, iRng1, iRng2, iStr, tThen, tNever, L2.start, tRaiseFile, tMkFile, tYes, tPart, tNoPart, addA_int, addA_str, addU_int, addU_str, addU_ref, subU_int, mulU_int, mulU_ref, fdvU_int, modU_int, powU_int, ltU_int, leU_int, gtU_int, geU_int, eqU_int, eqU_str, eqU_bl, neU_int, neU_str, neU_bl, WE, TruV, tDIn, tDNotIn, sDDel, tDSetd, tDPop1, tLock, tLockE, tLk, tLockA, tLockEA, iKeys, List.map, List.length_cons, List.length_nil, List.replicate, List.append, List.getElem?_cons_zero, List.getElem?_cons_succ, List.set_cons_zero, List.set_cons_succ, List.cons_append, List.nil_append, Option.some.injEq, V.int.injEq, V.str.injEq, V.bl.injEq, V.ref.injEq, List.cons.injEq, exists_eq_left, exists_eq_right, and_true, true_and, and_self, exists_eq, exists_const, Bool.not_true, Bool.not_false, Bool.false_eq_true, if_true, if_false, reduceIte, decide_eq_true_eq, bne_iff_ne, exists_eq_left', exists_eq', exists_and_left, Bool.not_eq_true', decide_eq_false_iff_not, Nat.reduceSub, Nat.reduceAdd, reduceCtorEq, false_and, or_false, false_or, exists_false]
          refine ⟨sz 2, fun r1 hr1 => roll_ok (z11.ex (Ex.new hr1)).dc (by decide) (by decide) fun k4 H12 k40 k41 e12 c12 => ?_⟩
          have z12 := (z11.ex (Ex.new (o := .lst [V.str (Str.ofString "shared"), V.str (Str.ofString "alone")]) hr1)).roll e12 c12
          have nr1 : r1 ≠ r := fun z => by obtain ⟨x, y, w, hh⟩ := z11.dc; rw [z, hh] at hr1; cases hr1
          have l12 := e12.lst (by simpa using nr1) (upd_same (H := H11) (a := r1) (o := .lst [V.str (Str.ofString "shared"), V.str (Str.ofString "alone")]))
          obtain ⟨al, hal⟩ : ∃ al, atI [V.str (Str.ofString "shared"), V.str (Str.ofString "alone")] k4 = some (V.str (hw al)) := by
            have : k4 = 0 ∨ k4 = 1 := by omega
            rcases this with rfl | rfl
            · exact ⟨false, by rfl⟩
            · exact ⟨true, by rfl⟩
          refine rIx_lst (lst_at l12) hal (hN2 _ _ ?_)
          clear hN2 N2
          refine seq_in fun N2 hN2 => ?_
          simp only [tAsg, gName, cx_K, gcx_K, lcx_K, LenV, rLenU, tTruU, kTup, tFld, sFld, sFldAug, tMet, tMake, tBM, tDGet, tDGet1, tDGet2, sDPut, tRevL, iEnum, tAug, tAsg, mulV_int, iaddU_int, isubU_int, iaddU_str, tTupL, ex2eq, not_true_eq_false, not_false_eq_true, LamX.tLam, LamX.TTold, tSeq, tIf, tNext, tRet, tRetN, tIfS, tTest, tB, tNot, tAnd, tOr, tChain, tOp, tUn, tC, tVar, tCons, tNil, tTup, tLst, tAsg, gName, gTup, gCons, gNil, gSub, tDrop, tCallS, tCB, tM1, tM0, tBM, tBM0, tSl, tPar, tFor_eq, tLc_eq, intU_int, intU_bl, iList, iTup, iEnumT, tDNewK, tDisp, tPairs, rSlT, rSlL, iRng1, iRng2, iStr, tThen, tNever, L2.start, tRaiseFile, tMkFile, tYes, tPart, tNoPart, addA_int, addA_str, addU_int, addU_str, addU_ref, subU_int, mulU_int, mulU_ref, fdvU_int, modU_int, powU_int, ltU_int, leU_int, gtU_int, geU_int, eqU_int, eqU_str, eqU_bl, neU_int, neU_str, neU_bl, WE, TruV, tDIn, tDNotIn, sDDel, tDSetd, tDPop1, tLock, tLockE, tLk, tLockA, tLockEA, iKeys, List.map, List.length_cons, List.length_nil, List.replicate, List.append, List.getElem?_cons_zero, List.getElem?_cons_succ, List.set_cons_zero, List.set_cons_succ, List.cons_append, List.nil_append, Option.some.injEq, V.int.injEq, V.str.injEq, V.bl.injEq, V.ref.injEq, List.cons.injEq, exists_eq_left, exists_eq_right, and_true, true_and, and_self, exists_eq, exists_const, Bool.not_true, Bool.not_false, Bool.false_eq_true, if_true, if_false, reduceIte, decide_eq_true_eq, bne_iff_ne, exists_eq_left', exists_eq', exists_and_left, Bool.not_eq_true', decide_eq_false_iff_not, Nat.reduceSub, Nat.reduceAdd, reduceCtorEq, false_and, or_false, false_or, exists_false]
          have qlen : qs'.length ≤ 20 := by have := iv.wf.q5; rw [ev] at this; unfold lkOf at this; rw [List.length_map] at this; omega
          refine ⟨_, z12.st.gq, q', rfl, ⟨_, lst_at z12.st.co.hq⟩, fun D2 hD2 => lc_rowsW (TL := TLaw PL) (GT := GT) z12.st.co.hq z12.st.co.hrT qlen hD2 fun H13 e13 h13 => ⟨Nat.zero_le _, fun p2 hp2 => ?_⟩⟩
          have e14 : Ex [] (TLaw PL) GT H13 (upd H13 p2 (.lst [])) := Ex.new hp2
          have z14 := (z12.ex e13).ex e14
          refine ne_rows (hs := hs') (by rw [← ev]; exact iv.wf) (e14.lst (by simp) h13) z14.st.co.hrT upd_same (hN2 _ _ ?_)
          clear hN2 N2
          rw [← ev]
          generalize upd H13 p2 (.lst []) = H14 at z14 ⊢
          cases hkq : keyQ (lkOf hs qs) who with
          | true =>
            refine seq_in fun N2 hN2 => ?_
            simp only [tAsg, gName, cx_K, gcx_K, lcx_K, LenV, rLenU, tTruU, kTup, tFld, sFld, sFldAug, tMet, tMake, tBM, tDGet, tDGet1, tDGet2, sDPut, tRevL, iEnum, tAug, tAsg, mulV_int, iaddU_int, isubU_int, iaddU_str, tTupL, ex2eq, not_true_eq_false, not_false_eq_true, LamX.tLam, LamX.TTold, tSeq, tIf, tNext, tRet, tRetN, tIfS, tTest, tB, tNot, tAnd, tOr, tChain, tOp, tUn, tC, tVar, tCons, tNil, tTup, tLst, tAsg, gName, gTup, gCons, gNil, gSub, tDrop, tCallS, tCB, tM1, tM0, tBM, tBM0, tSl, tPar, tFor_eq, tLc_eq, intU_int, intU_bl, iList, iTup, iEnumT, tDNewK, tDisp, tPairs, rSlT, rSlL, iRng1, iRng2, iStr, tThen, tNever, L2.start, tRaiseFile, tMkFile, tYes, tPart, tNoPart, addA_int, addA_str, addU_int, addU_str, addU_ref, subU_int, mulU_int, mulU_ref, fdvU_int, modU_int, powU_int, ltU_int, leU_int, gtU_int, geU_int, eqU_int, eqU_str, eqU_bl, neU_int, neU_str, neU_bl, WE, TruV, tDIn, tDNotIn, sDDel, tDSetd, tDPop1, tLock, tLockE, tLk, tLockA, tLockEA, iKeys, List.map, List.length_cons, List.length_nil, List.replicate, List.append, List.getElem?_cons_zero, List.getElem?_cons_succ, List.set_cons_zero, List.set_cons_succ, List.cons_append, List.nil_append, Option.some.injEq, V.int.injEq, V.str.injEq, V.bl.injEq, V.ref.injEq, List.cons.injEq, exists_eq_left, exists_eq_right, and_true, true_and, and_self, exists_eq, exists_const, Bool.not_true, Bool.not_false, Bool.false_eq_true, if_true, if_false, reduceIte, decide_eq_true_eq, bne_iff_ne, exists_eq_left', exists_eq', exists_and_left, Bool.not_eq_true', decide_eq_false_iff_not, Nat.reduceSub, Nat.reduceAdd, reduceCtorEq, false_and, or_false, false_or, exists_false]
            refine hN2 _ _ ?_
            clear hN2 N2
            refine seq_in fun N2 hN2 => ?_
            simp only [tAsg, gName, cx_K, gcx_K, lcx_K, LenV, rLenU, tTruU, kTup, tFld, sFld, sFldAug, tMet, tMake, tBM, tDGet, tDGet1, tDGet2, sDPut, tRevL, iEnum, tAug, tAsg, mulV_int, iaddU_int, isubU_int, iaddU_str, tTupL, ex2eq, not_true_eq_false, not_false_eq_true, LamX.tLam, LamX.TTold, tSeq, tIf, tNext, tRet, tRetN, tIfS, tTest, tB, tNot, tAnd, tOr, tChain, tOp, tUn, tC, tVar, tCons, tNil, tTup, tLst, tAsg, gName, gTup, gCons, gNil, gSub, tDrop, tCallS, tCB, tM1, tM0, tBM, tBM0, tSl, tPar, tFor_eq, tLc_eq, intU_int, intU_bl, iList, iTup, iEnumT, tDNewK, tDisp, tPairs, rSlT, rSlL, iRng1, iRng2, iStr, tThen, tNever, L2.start, tRaiseFile, tMkFile, tYes, tPart, tNoPart, addA_int, addA_str, addU_int, addU_str, addU_ref, subU_int, mulU_int, mulU_ref, fdvU_int, modU_int, powU_int, ltU_int, leU_int, gtU_int, geU_int, eqU_int, eqU_str, eqU_bl, neU_int, neU_str, neU_bl, WE, TruV, tDIn, tDNotIn, sDDel, tDSetd, tDPop1, tLock, tLockE, tLk, tLockA, tLockEA, iKeys, List.map, List.length_cons, List.length_nil, List.replicate, List.append, List.getElem?_cons_zero, List.getElem?_cons_succ, List.set_cons_zero, List.set_cons_succ, List.cons_append, List.nil_append, Option.some.injEq, V.int.injEq, V.str.injEq, V.bl.injEq, V.ref.injEq, List.cons.injEq, exists_eq_left, exists_eq_right, and_true, true_and, and_self, exists_eq, exists_const, Bool.not_true, Bool.not_false, Bool.false_eq_true, if_true, if_false, reduceIte, decide_eq_true_eq, bne_iff_ne, exists_eq_left', exists_eq', exists_and_left, Bool.not_eq_true', decide_eq_false_iff_not, Nat.reduceSub, Nat.reduceAdd, reduceCtorEq, false_and, or_false, false_or, exists_false]
            refine hN2 _ _ ?_
            clear hN2 N2
            refine seq_in fun N2 hN2 => ?_
            simp only [tAsg, gName, cx_K, gcx_K, lcx_K, LenV, rLenU, tTruU, kTup, tFld, sFld, sFldAug, tMet, tMake, tBM, tDGet, tDGet1, tDGet2, sDPut, tRevL, iEnum, tAug, tAsg, mulV_int, iaddU_int, isubU_int, iaddU_str, tTupL, ex2eq, not_true_eq_false, not_false_eq_true, LamX.tLam, LamX.TTold, tSeq, tIf, tNext, tRet, tRetN, tIfS, tTest, tB, tNot, tAnd, tOr, tChain, tOp, tUn, tC, tVar, tCons, tNil, tTup, tLst, tAsg, gName, gTup, gCons, gNil, gSub, tDrop, tCallS, tCB, tM1, tM0, tBM, tBM0, tSl, tPar, tFor_eq, tLc_eq, intU_int, intU_bl, iList, iTup, iEnumT, tDNewK, tDisp, tPairs, rSlT, rSlL, iRng1, iRng2, iStr, tThen, tNever, L2.start, tRaiseFile, tMkFile, tYes, tPart, tNoPart, addA_int, addA_str, addU_int, addU_str, addU_ref, subU_int, mulU_int, mulU_ref, fdvU_int, modU_int, powU_int, ltU_int, leU_int, gtU_int, geU_int, eqU_int, eqU_str, eqU_bl, neU_int, neU_str, neU_bl, WE, TruV, tDIn, tDNotIn, sDDel, tDSetd, tDPop1, tLock, tLockE, tLk, tLockA, tLockEA, iKeys, List.map, List.length_cons, List.length_nil, List.replicate, List.append, List.getElem?_cons_zero, List.getElem?_cons_succ, List.set_cons_zero, List.set_cons_succ, List.cons_append, List.nil_append, Option.some.injEq, V.int.injEq, V.str.injEq, V.bl.injEq, V.ref.injEq, List.cons.injEq, exists_eq_left, exists_eq_right, and_true, true_and, and_self, exists_eq, exists_const, Bool.not_true, Bool.not_false, Bool.false_eq_true, if_true, if_false, reduceIte, decide_eq_true_eq, bne_iff_ne, exists_eq_left', exists_eq', exists_and_left, Bool.not_eq_true', decide_eq_false_iff_not, Nat.reduceSub, Nat.reduceAdd, reduceCtorEq, false_and, or_false, false_or, exists_false]
            refine ⟨true, rfl, .inr ⟨_, rfl, _, rfl, ?_⟩⟩
            rw [if_neg (by decide)]
            refine ⟨false, rfl, .inr ⟨_, rfl, _, rfl, ?_⟩⟩
            rw [if_neg (by decide)]
            refine hN2 _ _ ?_
            clear hN2 N2
            simp only [tAsg, gName, cx_K, gcx_K, lcx_K, LenV, rLenU, tTruU, kTup, tFld, sFld, sFldAug, tMet, tMake, tBM, tDGet, tDGet1, tDGet2, sDPut, tRevL, iEnum, tAug, tAsg, mulV_int, iaddU_int, isubU_int, iaddU_str, tTupL, ex2eq, not_true_eq_false, not_false_eq_true, LamX.tLam, LamX.TTold, tSeq, tIf, tNext, tRet, tRetN, tIfS, tTest, tB, tNot, tAnd, tOr, tChain, tOp, tUn, tC, tVar, tCons, tNil, tTup, tLst, tAsg, gName, gTup, gCons, gNil, gSub, tDrop, tCallS, tCB, tM1, tM0, tBM, tBM0, tSl, tPar, tFor_eq, tLc_eq, intU_int, intU_bl, iList, iTup, iEnumT, tDNewK, tDisp, tPairs, rSlT, rSlL, iRng1, iRng2, iStr, tThen, tNever, L2.start, tRaiseFile, tMkFile, tYes, tPart, tNoPart, addA_int, addA_str, addU_int, addU_str, addU_ref, subU_int, mulU_int, mulU_ref, fdvU_int, modU_int, powU_int, ltU_int, leU_int, gtU_int, geU_int, eqU_int, eqU_str, eqU_bl, neU_int, neU_str, neU_bl, WE, TruV, tDIn, tDNotIn, sDDel, tDSetd, tDPop1, tLock, tLockE, tLk, tLockA, tLockEA, iKeys, List.map, List.length_cons, List.length_nil, List.replicate, List.append, List.getElem?_cons_zero, List.getElem?_cons_succ, List.set_cons_zero, List.set_cons_succ, List.cons_append, List.nil_append, Option.some.injEq, V.int.injEq, V.str.injEq, V.bl.injEq, V.ref.injEq, List.cons.injEq, exists_eq_left, exists_eq_right, and_true, true_and, and_self, exists_eq, exists_const, Bool.not_true, Bool.not_false, Bool.false_eq_true, if_true, if_false, reduceIte, decide_eq_true_eq, bne_iff_ne, exists_eq_left', exists_eq', exists_and_left, Bool.not_eq_true', decide_eq_false_iff_not, Nat.reduceSub, Nat.reduceAdd, reduceCtorEq, false_and, or_false, false_or, exists_false]
            refine ⟨z14.tb.tl, fun HB xB tbB => ?_⟩
            have zB := z14.ex (ExtN.ex xB tbB)
            refine ⟨_, _, zB.lk.hl, rfl, l, who, n, hw al, dx, h, q5, hs, qs, rfl, zB.lk, iv.wf, w5, zB.tb, (fun z1 z2 => absurd rfl (hw_no z1 z2)), fun al' hal' => ?_⟩
            obtain rfl := hw_inj hal'
            exact ⟨hn, fun _ HC eC => ⟨true, xe, fun _ => hN _ _ ⟨_, _, _, _, _, _, _, _, _, _, _, _, who, n, dx, h, q5, h', q', hs, hs', qs, qs', rfl, zB.ex eC, ev, iv⟩, (fun z => by cases z)⟩, (fun z => by rw [hkq] at z; cases z), (fun z => by rw [hkq] at z; cases z), (fun z => by rw [hkq] at z; cases z)⟩
          | false =>
            refine seq_in fun N2 hN2 => ?_
            simp only [tAsg, gName, cx_K, gcx_K, lcx_K, LenV, rLenU, tTruU, kTup, tFld, sFld, sFldAug, tMet, tMake, tBM, tDGet, tDGet1, tDGet2, sDPut, tRevL, iEnum, tAug, tAsg, mulV_int, iaddU_int, isubU_int, iaddU_str, tTupL, ex2eq, not_true_eq_false, not_false_eq_true, LamX.tLam, LamX.TTold, tSeq, tIf, tNext, tRet, tRetN, tIfS, tTest, tB, tNot, tAnd, tOr, tChain, tOp, tUn, tC, tVar, tCons, tNil, tTup, tLst, tAsg, gName, gTup, gCons, gNil, gSub, tDrop, tCallS, tCB, tM1, tM0, tBM, tBM0, tSl, tPar, tFor_eq, tLc_eq, intU_int, intU_bl, iList, iTup, iEnumT, tDNewK, tDisp, tPairs, rSlT, rSlL, iRng1, iRng2, iStr, tThen, tNever, L2.start, tRaiseFile, tMkFile, tYes, tPart, tNoPart, addA_int, addA_str, addU_int, addU_str, addU_ref, subU_int, mulU_int, mulU_ref, fdvU_int, modU_int, powU_int, ltU_int, leU_int, gtU_int, geU_int, eqU_int, eqU_str, eqU_bl, neU_int, neU_str, neU_bl, WE, TruV, tDIn, tDNotIn, sDDel, tDSetd, tDPop1, tLock, tLockE, tLk, tLockA, tLockEA, iKeys, List.map, List.length_cons, List.length_nil, List.replicate, List.append, List.getElem?_cons_zero, List.getElem?_cons_succ, List.set_cons_zero, List.set_cons_succ, List.cons_append, List.nil_append, Option.some.injEq, V.int.injEq, V.str.injEq, V.bl.injEq, V.ref.injEq, List.cons.injEq, exists_eq_left, exists_eq_right, and_true, true_and, and_self, exists_eq, exists_const, Bool.not_true, Bool.not_false, Bool.false_eq_true, if_true, if_false, reduceIte, decide_eq_true_eq, bne_iff_ne, exists_eq_left', exists_eq', exists_and_left, Bool.not_eq_true', decide_eq_false_iff_not, Nat.reduceSub, Nat.reduceAdd, reduceCtorEq, false_and, or_false, false_or, exists_false]
            refine ⟨s, who, n, al, h', q', hs', qs', rfl, z14.st, by rw [← ev]; exact iv.wf, fun a15 H15 e15 h15 hn15 => ⟨Nat.zero_le _, fun p3 hp3 => ?_⟩⟩
            have e16 : Ex [] (TLaw PL) GT H15 (upd H15 p3 (.lst [])) := Ex.new hp3
            have z16 := (z14.ex e15).ex e16
            refine eq_lstI (ms := []) (lst_at (e16.lst (by simp) h15)) (lst_at upd_same) (hN2 _ _ ?_)
            clear hN2 N2
            rw [← ev]
            generalize upd H15 p3 (.lst []) = H16 at z16 ⊢
            refine seq_in fun N2 hN2 => ?_
            simp only [tAsg, gName, cx_K, gcx_K, lcx_K, LenV, rLenU, tTruU, kTup, tFld, sFld, sFldAug, tMet, tMake, tBM, tDGet, tDGet1, tDGet2, sDPut, tRevL, iEnum, tAug, tAsg, mulV_int, iaddU_int, isubU_int, iaddU_str, tTupL, ex2eq, not_true_eq_false, not_false_eq_true, LamX.tLam, LamX.TTold, tSeq, tIf, tNext, tRet, tRetN, tIfS, tTest, tB, tNot, tAnd, tOr, tChain, tOp, tUn, tC, tVar, tCons, tNil, tTup, tLst, tAsg, gName, gTup, gCons, gNil, gSub, tDrop, tCallS, tCB, tM1, tM0, tBM, tBM0, tSl, tPar, tFor_eq, tLc_eq, intU_int, intU_bl, iList, iTup, iEnumT, tDNewK, tDisp, tPairs, rSlT, rSlL, iRng1, iRng2, iStr, tThen, tNever, L2.start, tRaiseFile, tMkFile, tYes, tPart, tNoPart, addA_int, addA_str, addU_int, addU_str, addU_ref, subU_int, mulU_int, mulU_ref, fdvU_int, modU_int, powU_int, ltU_int, leU_int, gtU_int, geU_int, eqU_int, eqU_str, eqU_bl, neU_int, neU_str, neU_bl, WE, TruV, tDIn, tDNotIn, sDDel, tDSetd, tDPop1, tLock, tLockE, tLk, tLockA, tLockEA, iKeys, List.map, List.length_cons, List.length_nil, List.replicate, List.append, List.getElem?_cons_zero, List.getElem?_cons_succ, List.set_cons_zero, List.set_cons_succ, List.cons_append, List.nil_append, Option.some.injEq, V.int.injEq, V.str.injEq, V.bl.injEq, V.ref.injEq, List.cons.injEq, exists_eq_left, exists_eq_right, and_true, true_and, and_self, exists_eq, exists_const, Bool.not_true, Bool.not_false, Bool.false_eq_true, if_true, if_false, reduceIte, decide_eq_true_eq, bne_iff_ne, exists_eq_left', exists_eq', exists_and_left, Bool.not_eq_true', decide_eq_false_iff_not, Nat.reduceSub, Nat.reduceAdd, reduceCtorEq, false_and, or_false, false_or, exists_false]
            have wf' : Wf (lkOf hs' qs') := by rw [← ev]; exact iv.wf
            refine ⟨_, _, z16.lk.hl, rfl, l, who, n, al, dx, h, q5, hs, qs, rfl, z16.lk, iv.wf.sz, fun a17 H17 e17 h17 hn17 => ⟨s, who, n, al, h', q', hs', qs', rfl, (z16.ex e17).st, wf', fun a18 H18 e18 h18 hn18 => ?_⟩⟩
            have z18 := (z16.ex e17).ex e18
            refine ne_lstI (lst_at (e18.lst (by simp) h17)) (lst_at h18) ⟨_, rfl, ?_⟩
            rw [if_neg (by rw [ev]; simp)]
            refine hN2 _ _ ?_
            clear hN2 N2 h17 h18
            refine seq_in fun N2 hN2 => ?_
            simp only [tAsg, gName, cx_K, gcx_K, lcx_K, LenV, rLenU, tTruU, kTup, tFld, sFld, sFldAug, tMet, tMake, tBM, tDGet, tDGet1, tDGet2, sDPut, tRevL, iEnum, tAug, tAsg, mulV_int, iaddU_int, isubU_int, iaddU_str, tTupL, ex2eq, not_true_eq_false, not_false_eq_true, LamX.tLam, LamX.TTold, tSeq, tIf, tNext, tRet, tRetN, tIfS, tTest, tB, tNot, tAnd, tOr, tChain, tOp, tUn, tC, tVar, tCons, tNil, tTup, tLst, tAsg, gName, gTup, gCons, gNil, gSub, tDrop, tCallS, tCB, tM1, tM0, tBM, tBM0, tSl, tPar, tFor_eq, tLc_eq, intU_int, intU_bl, iList, iTup, iEnumT, tDNewK, tDisp, tPairs, rSlT, rSlL, iRng1, iRng2, iStr, tThen, tNever, L2.start, tRaiseFile, tMkFile, tYes, tPart, tNoPart, addA_int, addA_str, addU_int, addU_str, addU_ref, subU_int, mulU_int, mulU_ref, fdvU_int, modU_int, powU_int, ltU_int, leU_int, gtU_int, geU_int, eqU_int, eqU_str, eqU_bl, neU_int, neU_str, neU_bl, WE, TruV, tDIn, tDNotIn, sDDel, tDSetd, tDPop1, tLock, tLockE, tLk, tLockA, tLockEA, iKeys, List.map, List.length_cons, List.length_nil, List.replicate, List.append, List.getElem?_cons_zero, List.getElem?_cons_succ, List.set_cons_zero, List.set_cons_succ, List.cons_append, List.nil_append, Option.some.injEq, V.int.injEq, V.str.injEq, V.bl.injEq, V.ref.injEq, List.cons.injEq, exists_eq_left, exists_eq_right, and_true, true_and, and_self, exists_eq, exists_const, Bool.not_true, Bool.not_false, Bool.false_eq_true, if_true, if_false, reduceIte, decide_eq_true_eq, bne_iff_ne, exists_eq_left', exists_eq', exists_and_left, Bool.not_eq_true', decide_eq_false_iff_not, Nat.reduceSub, Nat.reduceAdd, reduceCtorEq, false_and, or_false, false_or, exists_false]
            by_cases hb : blk (lkOf hs qs) who n al = []
            · rw [decide_eq_true hb]
              refine ⟨true, rfl, .inl ⟨_, rfl, _, rfl, ?_⟩⟩
              rw [if_pos (by decide)]
              refine ⟨s, who, n, al, h', q', hs', qs', rfl, z18.st, wf', fun hs2 H19 e19 hv19 S19 fp19 => hN2 _ _ ?_⟩
              clear hN2 N2
              have z19 := z18.stt e19 S19 fp19
              rw [← ev] at hv19
              simp only [tAsg, gName, cx_K, gcx_K, lcx_K, LenV, rLenU, tTruU, kTup, tFld, sFld, sFldAug, tMet, tMake, tBM, tDGet, tDGet1, tDGet2, sDPut, tRevL, iEnum, tAug, tAsg, mulV_int, iaddU_int, isubU_int, iaddU_str, tTupL, ex2eq, not_true_eq_false, not_false_eq_true, LamX.tLam, LamX.TTold, tSeq, tIf, tNext, tRet, tRetN, tIfS, tTest, tB, tNot, tAnd, tOr, tChain, tOp, tUn, tC, tVar, tCons, tNil, tTup, tLst, tAsg, gName, gTup, gCons, gNil, gSub, tDrop, tCallS, tCB, tM1, tM0, tBM, tBM0, tSl, tPar, tFor_eq, tLc_eq, intU_int, intU_bl, iList, iTup, iEnumT, tDNewK, tDisp, tPairs, rSlT, rSlL, iRng1, iRng2, iStr, tThen, tNever, L2.start, tRaiseFile, tMkFile, tYes, tPart, tNoPart, addA_int, addA_str, addU_int, addU_str, addU_ref, subU_int, mulU_int, mulU_ref, fdvU_int, modU_int, powU_int, ltU_int, leU_int, gtU_int, geU_int, eqU_int, eqU_str, eqU_bl, neU_int, neU_str, neU_bl, WE, TruV, tDIn, tDNotIn, sDDel, tDSetd, tDPop1, tLock, tLockE, tLk, tLockA, tLockEA, iKeys, List.map, List.length_cons, List.length_nil, List.replicate, List.append, List.getElem?_cons_zero, List.getElem?_cons_succ, List.set_cons_zero, List.set_cons_succ, List.cons_append, List.nil_append, Option.some.injEq, V.int.injEq, V.str.injEq, V.bl.injEq, V.ref.injEq, List.cons.injEq, exists_eq_left, exists_eq_right, and_true, true_and, and_self, exists_eq, exists_const, Bool.not_true, Bool.not_false, Bool.false_eq_true, if_true, if_false, reduceIte, decide_eq_true_eq, bne_iff_ne, exists_eq_left', exists_eq', exists_and_left, Bool.not_eq_true', decide_eq_false_iff_not, Nat.reduceSub, Nat.reduceAdd, reduceCtorEq, false_and, or_false, false_or, exists_false]
              refine ⟨z19.tb.tl, fun HB xB tbB => ?_⟩
              have zB := z19.ex (ExtN.ex xB tbB)
              refine ⟨_, _, zB.lk.hl, rfl, l, who, n, hw al, dx, h, q5, hs, qs, rfl, zB.lk, iv.wf, w5, zB.tb, (fun z1 z2 => absurd rfl (hw_no z1 z2)), fun al' hal' => ?_⟩
              obtain rfl := hw_inj hal'
              refine ⟨hn, (fun z => by rw [hkq] at z; cases z), fun _ _ HC aC => ?_, (fun _ z => absurd hb z), (fun _ z => absurd hb z)⟩
              obtain ⟨hs3, hv3, zC⟩ := zB.locks aC
              simp only [cx_K, gcx_K, lcx_K, LenV, rLenU, tTruU, kTup, tFld, sFld, sFldAug, tMet, tMake, tBM, tDGet, tDGet1, tDGet2, sDPut, tRevL, iEnum, tAug, tAsg, mulV_int, iaddU_int, isubU_int, iaddU_str, tTupL, ex2eq, not_true_eq_false, not_false_eq_true, LamX.tLam, LamX.TTold, tSeq, tIf, tNext, tRet, tRetN, tIfS, tTest, tB, tNot, tAnd, tOr, tChain, tOp, tUn, tC, tVar, tCons, tNil, tTup, tLst, tAsg, gName, gTup, gCons, gNil, gSub, tDrop, tCallS, tCB, tM1, tM0, tBM, tBM0, tSl, tPar, tFor_eq, tLc_eq, intU_int, intU_bl, iList, iTup, iEnumT, tDNewK, tDisp, tPairs, rSlT, rSlL, iRng1, iRng2, iStr, tThen, tNever, L2.start, tRaiseFile, tMkFile, tYes, tPart, tNoPart, addA_int, addA_str, addU_int, addU_str, addU_ref, subU_int, mulU_int, mulU_ref, fdvU_int, modU_int, powU_int, ltU_int, leU_int, gtU_int, geU_int, eqU_int, eqU_str, eqU_bl, neU_int, neU_str, neU_bl, WE, TruV, tDIn, tDNotIn, sDDel, tDSetd, tDPop1, tLock, tLockE, tLk, tLockA, tLockEA, iKeys, List.map, List.length_cons, List.length_nil, List.replicate, List.append, List.getElem?_cons_zero, List.getElem?_cons_succ, List.set_cons_zero, List.set_cons_succ, List.cons_append, List.nil_append, Option.some.injEq, V.int.injEq, V.str.injEq, V.bl.injEq, V.ref.injEq, List.cons.injEq, exists_eq_left, exists_eq_right, and_true, true_and, and_self, exists_eq, exists_const, Bool.not_true, Bool.not_false, Bool.false_eq_true, if_true, if_false, reduceIte, decide_eq_true_eq, bne_iff_ne, exists_eq_left', exists_eq', exists_and_left, Bool.not_eq_true', decide_eq_false_iff_not, Nat.reduceSub, Nat.reduceAdd, reduceCtorEq, false_and, or_false, false_or, exists_false]
              exact hN _ _ ⟨_, _, _, _, _, _, _, _, _, _, _, _, who, n, dx, h, q5, h', q', hs3, hs2, qs, qs', rfl, zC, by rw [← hv3, hv19], by rw [← hv3]; exact iv.take0 w5 hn hkq hb⟩
            · rw [decide_eq_false hb]
              refine ⟨true, rfl, .inl ⟨_, rfl, _, rfl, ?_⟩⟩
              rw [if_neg (by decide)]
              refine ⟨false, rfl, .inl ⟨_, rfl, _, rfl, ?_⟩⟩
              rw [if_pos (by decide)]
              refine ⟨_, z18.st.gq, .inl ⟨rfl, _, lst_at z18.st.co.hq⟩, sz 3, fun rr hrr => ?_⟩
              have hrn : rr ∉ qs'.map (·.1) := fun z => by
                obtain ⟨x, hx, hxr⟩ := List.mem_map.mp z
                have := z18.st.co.hr x hx
                rw [hxr] at this
                rcases this with y | ⟨o, y⟩ <;> rw [hrr] at y <;> cases y
              have z19 := z18.ex (Ex.new (o := .tup (rowV (who, n, al))) hrr)
              have r19 : upd H18 rr (.tup (rowV (who, n, al))) rr = some (.tup (rowV (who, n, al))) := upd_same
              show rAppend (.ref q') [.ref rr] (upd H18 rr (.tup (rowV (who, n, al)))) _
              generalize upd H18 rr (.tup (rowV (who, n, al))) = H19 at z19 r19 ⊢
              refine ⟨q', _, _, rfl, rfl, z19.st.co.hq, by rw [List.length_map, sizeLine_eq]; omega, ?_⟩
              have C20 := z19.st.co.push (.inl r19) hrn
              rw [show List.map (fun e : Addr × Row => V.ref e.fst) qs' ++ [V.ref rr] = (qs' ++ [(rr, ((who, n, al) : Row))]).map (fun e => V.ref e.1) by rw [List.map_append]; rfl]
              have nsq : s ≠ q' := fun z => z19.st.nn (by rw [z]; simp [fpOf])
              have e20 : Ex (s :: fpOf h' q' hs') (TLaw PL) GT H19 (upd H19 q' (.lst ((qs' ++ [(rr, ((who, n, al) : Row))]).map fun e => V.ref e.1))) := Ex.put (by simp [fpOf]) z19.st.co.hq rfl
              have z20 := z19.stt e20 (⟨by rw [upd_ne nsq]; exact z19.st.hsd, C20, z19.st.nn⟩ : SA K _ s h' q' hs' (qs' ++ [(rr, ((who, n, al) : Row))])) (fun a ha => .inl ha)
              generalize upd H19 q' (.lst ((qs' ++ [(rr, ((who, n, al) : Row))]).map fun e => V.ref e.1)) = H20 at z20 ⊢
              have hv20 : lkOf hs' (qs' ++ [(rr, ((who, n, al) : Row))]) = pushL (lkOf hs qs) (who, n, al) := by rw [ev]; unfold lkOf pushL; simp
              refine ⟨s, who, h', q', hs', _, rfl, z20.st, by rw [hv20]; exact iv.wf.push hkq w5 hn, fun b H21 e21 hb21 => ⟨_, rfl, ?_⟩⟩
              rw [hv20] at hb21
              have z21 := z20.ex e21
              cases b with
              | true =>
                rw [if_pos rfl]
                have hdl : ((qs' ++ [(rr, ((who, n, al) : Row))]).map fun e => V.ref e.1).dropLast = qs'.map fun e => V.ref e.1 := by rw [List.map_append]; simp
                refine ⟨.inl ⟨rfl, _, lst_at z21.st.co.hq⟩, q', _, .ref rr, rfl, rfl, z21.st.co.hq, by simp, ?_⟩
                rw [hdl]
                have C22 := z21.st.co.subQ (List.sublist_append_left qs' [(rr, ((who, n, al) : Row))])
                have e22 : Ex (s :: fpOf h' q' hs') (TLaw PL) GT H21 (upd H21 q' (.lst (qs'.map fun e => V.ref e.1))) := Ex.put (by simp [fpOf]) z21.st.co.hq rfl
                have z22 := z21.stt e22 (⟨by rw [upd_ne nsq]; exact z21.st.hsd, C22, z21.st.nn⟩ : SA K _ s h' q' hs' qs') (fun a ha => .inl ha)
                generalize upd H21 q' (.lst (qs'.map fun e => V.ref e.1)) = H22 at z22 ⊢
                refine hN2 _ _ ?_
                clear hN2 N2
                simp only [tAsg, gName, cx_K, gcx_K, lcx_K, LenV, rLenU, tTruU, kTup, tFld, sFld, sFldAug, tMet, tMake, tBM, tDGet, tDGet1, tDGet2, sDPut, tRevL, iEnum, tAug, tAsg, mulV_int, iaddU_int, isubU_int, iaddU_str, tTupL, ex2eq, not_true_eq_false, not_false_eq_true, LamX.tLam, LamX.TTold, tSeq, tIf, tNext, tRet, tRetN, tIfS, tTest, tB, tNot, tAnd, tOr, tChain, tOp, tUn, tC, tVar, tCons, tNil, tTup, tLst, tAsg, gName, gTup, gCons, gNil, gSub, tDrop, tCallS, tCB, tM1, tM0, tBM, tBM0, tSl, tPar, tFor_eq, tLc_eq, intU_int, intU_bl, iList, iTup, iEnumT, tDNewK, tDisp, tPairs, rSlT, rSlL, iRng1, iRng2, iStr, tThen, tNever, L2.start, tRaiseFile, tMkFile, tYes, tPart, tNoPart, addA_int, addA_str, addU_int, addU_str, addU_ref, subU_int, mulU_int, mulU_ref, fdvU_int, modU_int, powU_int, ltU_int, leU_int, gtU_int, geU_int, eqU_int, eqU_str, eqU_bl, neU_int, neU_str, neU_bl, WE, TruV, tDIn, tDNotIn, sDDel, tDSetd, tDPop1, tLock, tLockE, tLk, tLockA, tLockEA, iKeys, List.map, List.length_cons, List.length_nil, List.replicate, List.append, List.getElem?_cons_zero, List.getElem?_cons_succ, List.set_cons_zero, List.set_cons_succ, List.cons_append, List.nil_append, Option.some.injEq, V.int.injEq, V.str.injEq, V.bl.injEq, V.ref.injEq, List.cons.injEq, exists_eq_left, exists_eq_right, and_true, true_and, and_self, exists_eq, exists_const, Bool.not_true, Bool.not_false, Bool.false_eq_true, if_true, if_false, reduceIte, decide_eq_true_eq, bne_iff_ne, exists_eq_left', exists_eq', exists_and_left, Bool.not_eq_true', decide_eq_false_iff_not, Nat.reduceSub, Nat.reduceAdd, reduceCtorEq, false_and, or_false, false_or, exists_false]
                refine ⟨z22.tb.tl, fun HB xB tbB => ?_⟩
                have zB := z22.ex (ExtN.ex xB tbB)
                refine ⟨_, _, zB.lk.hl, rfl, l, who, n, hw al, dx, h, q5, hs, qs, rfl, zB.lk, iv.wf, w5, zB.tb, (fun z1 z2 => absurd rfl (hw_no z1 z2)), fun al' hal' => ?_⟩
                obtain rfl := hw_inj hal'
                refine ⟨hn, (fun z => by rw [hkq] at z; cases z), (fun _ z => absurd z hb), (fun _ _ z => absurd (hb21.mp rfl) z), fun _ _ _ HC aC => ?_⟩
                obtain ⟨hs3, hv3, zC⟩ := zB.locks aC
                exact ⟨true, xe, fun _ => hN _ _ ⟨_, _, _, _, _, _, _, _, _, _, _, _, who, n, dx, h, q5, h', q', hs3, hs', qs, qs', rfl, zC, by rw [← hv3, ev], by rw [← hv3]; exact iv⟩, (fun z => by cases z)⟩
              | false =>
                rw [if_neg (by decide)]
                refine hN2 _ _ ?_
                clear hN2 N2
                have hnr : ¬ Rch (pushL (lkOf hs qs) (who, n, al)) who who := fun z => by cases hb21.mpr z
                simp only [tAsg, gName, cx_K, gcx_K, lcx_K, LenV, rLenU, tTruU, kTup, tFld, sFld, sFldAug, tMet, tMake, tBM, tDGet, tDGet1, tDGet2, sDPut, tRevL, iEnum, tAug, tAsg, mulV_int, iaddU_int, isubU_int, iaddU_str, tTupL, ex2eq, not_true_eq_false, not_false_eq_true, LamX.tLam, LamX.TTold, tSeq, tIf, tNext, tRet, tRetN, tIfS, tTest, tB, tNot, tAnd, tOr, tChain, tOp, tUn, tC, tVar, tCons, tNil, tTup, tLst, tAsg, gName, gTup, gCons, gNil, gSub, tDrop, tCallS, tCB, tM1, tM0, tBM, tBM0, tSl, tPar, tFor_eq, tLc_eq, intU_int, intU_bl, iList, iTup, iEnumT, tDNewK, tDisp, tPairs, rSlT, rSlL, iRng1, iRng2, iStr, tThen, tNever, L2.start, tRaiseFile, tMkFile, tYes, tPart, tNoPart, addA_int, addA_str, addU_int, addU_str, addU_ref, subU_int, mulU_int, mulU_ref, fdvU_int, modU_int, powU_int, ltU_int, leU_int, gtU_int, geU_int, eqU_int, eqU_str, eqU_bl, neU_int, neU_str, neU_bl, WE, TruV, tDIn, tDNotIn, sDDel, tDSetd, tDPop1, tLock, tLockE, tLk, tLockA, tLockEA, iKeys, List.map, List.length_cons, List.length_nil, List.replicate, List.append, List.getElem?_cons_zero, List.getElem?_cons_succ, List.set_cons_zero, List.set_cons_succ, List.cons_append, List.nil_append, Option.some.injEq, V.int.injEq, V.str.injEq, V.bl.injEq, V.ref.injEq, List.cons.injEq, exists_eq_left, exists_eq_right, and_true, true_and, and_self, exists_eq, exists_const, Bool.not_true, Bool.not_false, Bool.false_eq_true, if_true, if_false, reduceIte, decide_eq_true_eq, bne_iff_ne, exists_eq_left', exists_eq', exists_and_left, Bool.not_eq_true', decide_eq_false_iff_not, Nat.reduceSub, Nat.reduceAdd, reduceCtorEq, false_and, or_false, false_or, exists_false]
                refine ⟨z21.tb.tl, fun HB xB tbB => ?_⟩
                have zB := z21.ex (ExtN.ex xB tbB)
                refine ⟨_, _, zB.lk.hl, rfl, l, who, n, hw al, dx, h, q5, hs, qs, rfl, zB.lk, iv.wf, w5, zB.tb, (fun z1 z2 => absurd rfl (hw_no z1 z2)), fun al' hal' => ?_⟩
                obtain rfl := hw_inj hal'
                refine ⟨hn, (fun z => by rw [hkq] at z; cases z), (fun _ z => absurd z hb), (fun _ _ _ HC rC aC => ?_), (fun _ _ z => absurd z hnr)⟩
                obtain ⟨hs3, hv3, zC⟩ := zB.locks aC
                simp only [cx_K, gcx_K, lcx_K, LenV, rLenU, tTruU, kTup, tFld, sFld, sFldAug, tMet, tMake, tBM, tDGet, tDGet1, tDGet2, sDPut, tRevL, iEnum, tAug, tAsg, mulV_int, iaddU_int, isubU_int, iaddU_str, tTupL, ex2eq, not_true_eq_false, not_false_eq_true, LamX.tLam, LamX.TTold, tSeq, tIf, tNext, tRet, tRetN, tIfS, tTest, tB, tNot, tAnd, tOr, tChain, tOp, tUn, tC, tVar, tCons, tNil, tTup, tLst, tAsg, gName, gTup, gCons, gNil, gSub, tDrop, tCallS, tCB, tM1, tM0, tBM, tBM0, tSl, tPar, tFor_eq, tLc_eq, intU_int, intU_bl, iList, iTup, iEnumT, tDNewK, tDisp, tPairs, rSlT, rSlL, iRng1, iRng2, iStr, tThen, tNever, L2.start, tRaiseFile, tMkFile, tYes, tPart, tNoPart, addA_int, addA_str, addU_int, addU_str, addU_ref, subU_int, mulU_int, mulU_ref, fdvU_int, modU_int, powU_int, ltU_int, leU_int, gtU_int, geU_int, eqU_int, eqU_str, eqU_bl, neU_int, neU_str, neU_bl, WE, TruV, tDIn, tDNotIn, sDDel, tDSetd, tDPop1, tLock, tLockE, tLk, tLockA, tLockEA, iKeys, List.map, List.length_cons, List.length_nil, List.replicate, List.append, List.getElem?_cons_zero, List.getElem?_cons_succ, List.set_cons_zero, List.set_cons_succ, List.cons_append, List.nil_append, Option.some.injEq, V.int.injEq, V.str.injEq, V.bl.injEq, V.ref.injEq, List.cons.injEq, exists_eq_left, exists_eq_right, and_true, true_and, and_self, exists_eq, exists_const, Bool.not_true, Bool.not_false, Bool.false_eq_true, if_true, if_false, reduceIte, decide_eq_true_eq, bne_iff_ne, exists_eq_left', exists_eq', exists_and_left, Bool.not_eq_true', decide_eq_false_iff_not, Nat.reduceSub, Nat.reduceAdd, reduceCtorEq, false_and, or_false, false_or, exists_false]
                exact hN _ _ ⟨_, _, _, _, _, _, _, _, _, _, _, _, who, n, dx, h, q5, h', q', hs3, hs', _, _, rfl, zC, by rw [← hv3, hv20], by rw [← hv3]; exact iv.push w5 hn hkq hb hnr⟩
        · rw [if_neg hk5]
          clear hA
          subst hB
          refine ifs_in fun A B hA hB => ?_
          simp only [cx_K, gcx_K, lcx_K, LenV, rLenU, tTruU, kTup, tFld, sFld, sFldAug, tMet, tMake, tBM, tDGet, tDGet1, tDGet2, sDPut, tRevL, iEnum, tAug, tAsg, mulV_int, iaddU_int, isubU_int, iaddU_str, tTupL, ex2eq, not_true_eq_false, not_false_eq_true, LamX.tLam, LamX.TTold, tSeq, tIf, tNext, tRet, tRetN, tIfS, tTest, tB, tNot, tAnd, tOr, tChain, tOp, tUn, tC, tVar, tCons, tNil, tTup, tLst, tAsg, gName, gTup, gCons, gNil, gSub, tDrop, tCallS, tCB, tM1, tM0, tBM, tBM0, tSl, tPar, tFor_eq, tLc_eq, intU_int, intU_bl, iList, iTup, iEnumT, tDNewK, tDisp, tPairs, rSlT, rSlL, iRng1, iRng2, iStr, tThen, tNever, L2.start, tRaiseFile, tMkFile, tYes, tPart, tNoPart, addA_int, addA_str, addU_int, addU_str, addU_ref, subU_int, mulU_int, mulU_ref, fdvU_int, modU_int, powU_int, ltU_int, leU_int, gtU_int, geU_int, eqU_int, eqU_str, eqU_bl, neU_int, neU_str, neU_bl, WE, TruV, tDIn, tDNotIn, sDDel, tDSetd, tDPop1, tLock, tLockE, tLk, tLockA, tLockEA, iKeys, List.map, List.length_cons, List.length_nil, List.replicate, List.append, List.getElem?_cons_zero, List.getElem?_cons_succ, List.set_cons_zero, List.set_cons_succ, List.cons_append, List.nil_append, Option.some.injEq, V.int.injEq, V.str.injEq, V.bl.injEq, V.ref.injEq, List.cons.injEq, exists_eq_left, exists_eq_right, and_true, true_and, and_self, exists_eq, exists_const, Bool.not_true, Bool.not_false, Bool.false_eq_true, if_true, if_false, reduceIte, decide_eq_true_eq, bne_iff_ne, exists_eq_left', exists_eq', exists_and_left, Bool.not_eq_true', decide_eq_false_iff_not, Nat.reduceSub, Nat.reduceAdd, reduceCtorEq, false_and, or_false, false_or, exists_false]
          by_cases hk7 : k3 < 7
          · rw [if_pos hk7]
            clear hB
            subst hA
            refine seq_in fun N2 hN2 => ?_
            simp only [tAsg, gName, cx_K, gcx_K, lcx_K, LenV, rLenU, tTruU, kTup, tFld, sFld, sFldAug, tMet, tMake, tBM, tDGet, tDGet1, tDGet2, sDPut, tRevL, iEnum, tAug, tAsg, mulV_int, iaddU_int, isubU_int, iaddU_str, tTupL, ex2eq, not_true_eq_false, not_false_eq_true, LamX.tLam, LamX.TTold, tSeq, tIf, tNext, tRet, tRetN, tIfS, tTest, tB, tNot, tAnd, tOr, tChain, tOp, tUn, tC, tVar, tCons, tNil, tTup, tLst, tAsg, gName, gTup, gCons, gNil, gSub, tDrop, tCallS, tCB, tM1, tM0, tBM, tBM0, tSl, tPar, tFor_eq, tLc_eq, intU_int, intU_bl, iList, iTup, iEnumT, tDNewK, tDisp, tPairs, rSlT, rSlL, iRng1, iRng2, iStr, tThen, tNever, L2.start, tRaiseFile, tMkFile, tYes, tPart, tNoPart, addA_int, addA_str, addU_int, addU_str, addU_ref, subU_int, mulU_int, mulU_ref, fdvU_int, modU_int, powU_int, ltU_int, leU_int, gtU_int, geU_int, eqU_int, eqU_str, eqU_bl, neU_int, neU_str, neU_bl, WE, TruV, tDIn, tDNotIn, sDDel, tDSetd, tDPop1, tLock, tLockE, tLk, tLockA, tLockEA, iKeys, List.map, List.length_cons, List.length_nil, List.replicate, List.append, List.getElem?_cons_zero, List.getElem?_cons_succ, List.set_cons_zero, List.set_cons_succ, List.cons_append, List.nil_append, Option.some.injEq, V.int.injEq, V.str.injEq, V.bl.injEq, V.ref.injEq, List.cons.injEq, exists_eq_left, exists_eq_right, and_true, true_and, and_self, exists_eq, exists_const, Bool.not_true, Bool.not_false, Bool.false_eq_true, if_true, if_false, reduceIte, decide_eq_true_eq, bne_iff_ne, exists_eq_left', exists_eq', exists_and_left, Bool.not_eq_true', decide_eq_false_iff_not, Nat.reduceSub, Nat.reduceAdd, reduceCtorEq, false_and, or_false, false_or, exists_false]
            have wf' : Wf (lkOf hs' qs') := by rw [← ev]; exact iv.wf
            refine ⟨z11.tb.tl, fun HB xB tbB => ?_⟩
            have zB := z11.ex (ExtN.ex xB tbB)
            refine ⟨_, _, zB.lk.hl, rfl, l, who, n, dx, h, q5, hs, qs, rfl, zB.lk, iv.wf, fun hk a HC qs3 aC ha hna => ?_, fun hk HC eC => ⟨true, xe, fun _ => ?_, (fun z => by cases z)⟩⟩
            · obtain ⟨hs3, hv3, zC⟩ := zB.locks aC
              have has : a ∉ s :: fpOf h' q' hs' := fun z => hna.elim (fun y => zB.dj a y z) (not_free (zB.st.live a z))
              refine hN2 _ _ ?_
              clear hN2 N2
              refine seq_in fun N2 hN2 => ?_
              simp only [tAsg, gName, cx_K, gcx_K, lcx_K, LenV, rLenU, tTruU, kTup, tFld, sFld, sFldAug, tMet, tMake, tBM, tDGet, tDGet1, tDGet2, sDPut, tRevL, iEnum, tAug, tAsg, mulV_int, iaddU_int, isubU_int, iaddU_str, tTupL, ex2eq, not_true_eq_false, not_false_eq_true, LamX.tLam, LamX.TTold, tSeq, tIf, tNext, tRet, tRetN, tIfS, tTest, tB, tNot, tAnd, tOr, tChain, tOp, tUn, tC, tVar, tCons, tNil, tTup, tLst, tAsg, gName, gTup, gCons, gNil, gSub, tDrop, tCallS, tCB, tM1, tM0, tBM, tBM0, tSl, tPar, tFor_eq, tLc_eq, intU_int, intU_bl, iList, iTup, iEnumT, tDNewK, tDisp, tPairs, rSlT, rSlL, iRng1, iRng2, iStr, tThen, tNever, L2.start, tRaiseFile, tMkFile, tYes, tPart, tNoPart, addA_int, addA_str, addU_int, addU_str, addU_ref, subU_int, mulU_int, mulU_ref, fdvU_int, modU_int, powU_int, ltU_int, leU_int, gtU_int, geU_int, eqU_int, eqU_str, eqU_bl, neU_int, neU_str, neU_bl, WE, TruV, tDIn, tDNotIn, sDDel, tDSetd, tDPop1, tLock, tLockE, tLk, tLockA, tLockEA, iKeys, List.map, List.length_cons, List.length_nil, List.replicate, List.append, List.getElem?_cons_zero, List.getElem?_cons_succ, List.set_cons_zero, List.set_cons_succ, List.cons_append, List.nil_append, Option.some.injEq, V.int.injEq, V.str.injEq, V.bl.injEq, V.ref.injEq, List.cons.injEq, exists_eq_left, exists_eq_right, and_true, true_and, and_self, exists_eq, exists_const, Bool.not_true, Bool.not_false, Bool.false_eq_true, if_true, if_false, reduceIte, decide_eq_true_eq, bne_iff_ne, exists_eq_left', exists_eq', exists_and_left, Bool.not_eq_true', decide_eq_false_iff_not, Nat.reduceSub, Nat.reduceAdd, reduceCtorEq, false_and, or_false, false_or, exists_false]
              refine ⟨_, zC.st.gh, h', rfl, .inl ⟨_, .inl zC.st.co.hh⟩, fun p2 hp2 => ?_⟩
              have eD : Ex [] (TLaw PL) GT HC (upd HC p2 (.dK [])) := Ex.new hp2
              have zD := zC.ex eD
              have haD := eD.lst (by simp) ha
              have pD : upd HC p2 (.dK []) p2 = some (.dK []) := upd_same
              generalize upd HC p2 (.dK []) = HD at zD haD pD ⊢
              obtain ⟨o, b, g1, g2, g3⟩ := held_get (n := n) zD.st.co pD
              refine ⟨o, g1, b, g2, _, .inl ⟨_, .inl who, .inl g3, rfl, rfl⟩, ?_⟩
              rw [val_key, ← ev, hk, if_neg (by decide)]
              refine hN2 _ _ ?_
              clear hN2 N2
              refine seq_in fun N2 hN2 => ?_
              simp only [tAsg, gName, cx_K, gcx_K, lcx_K, LenV, rLenU, tTruU, kTup, tFld, sFld, sFldAug, tMet, tMake, tBM, tDGet, tDGet1, tDGet2, sDPut, tRevL, iEnum, tAug, tAsg, mulV_int, iaddU_int, isubU_int, iaddU_str, tTupL, ex2eq, not_true_eq_false, not_false_eq_true, LamX.tLam, LamX.TTold, tSeq, tIf, tNext, tRet, tRetN, tIfS, tTest, tB, tNot, tAnd, tOr, tChain, tOp, tUn, tC, tVar, tCons, tNil, tTup, tLst, tAsg, gName, gTup, gCons, gNil, gSub, tDrop, tCallS, tCB, tM1, tM0, tBM, tBM0, tSl, tPar, tFor_eq, tLc_eq, intU_int, intU_bl, iList, iTup, iEnumT, tDNewK, tDisp, tPairs, rSlT, rSlL, iRng1, iRng2, iStr, tThen, tNever, L2.start, tRaiseFile, tMkFile, tYes, tPart, tNoPart, addA_int, addA_str, addU_int, addU_str, addU_ref, subU_int, mulU_int, mulU_ref, fdvU_int, modU_int, powU_int, ltU_int, leU_int, gtU_int, geU_int, eqU_int, eqU_str, eqU_bl, neU_int, neU_str, neU_bl, WE, TruV, tDIn, tDNotIn, sDDel, tDSetd, tDPop1, tLock, tLockE, tLk, tLockA, tLockEA, iKeys, List.map, List.length_cons, List.length_nil, List.replicate, List.append, List.getElem?_cons_zero, List.getElem?_cons_succ, List.set_cons_zero, List.set_cons_succ, List.cons_append, List.nil_append, Option.some.injEq, V.int.injEq, V.str.injEq, V.bl.injEq, V.ref.injEq, List.cons.injEq, exists_eq_left, exists_eq_right, and_true, true_and, and_self, exists_eq, exists_const, Bool.not_true, Bool.not_false, Bool.false_eq_true, if_true, if_false, reduceIte, decide_eq_true_eq, bne_iff_ne, exists_eq_left', exists_eq', exists_and_left, Bool.not_eq_true', decide_eq_false_iff_not, Nat.reduceSub, Nat.reduceAdd, reduceCtorEq, false_and, or_false, false_or, exists_false]
              refine ⟨s, who, n, h', q', hs', qs', rfl, zD.st, wf', by rw [← ev]; exact hk, fun hsE HE eE hvE SE fpE => hN2 _ _ ?_⟩
              clear hN2 N2
              have zE := zD.stt eE SE (fun x hx => .inl (fpE x hx))
              have haE := eE.lst has haD
              have hasE : a ∉ s :: fpOf h' q' hsE := fun z => has (fpE a z)
              rw [← ev] at hvE
              simp only [tAsg, gName, cx_K, gcx_K, lcx_K, LenV, rLenU, tTruU, kTup, tFld, sFld, sFldAug, tMet, tMake, tBM, tDGet, tDGet1, tDGet2, sDPut, tRevL, iEnum, tAug, tAsg, mulV_int, iaddU_int, isubU_int, iaddU_str, tTupL, ex2eq, not_true_eq_false, not_false_eq_true, LamX.tLam, LamX.TTold, tSeq, tIf, tNext, tRet, tRetN, tIfS, tTest, tB, tNot, tAnd, tOr, tChain, tOp, tUn, tC, tVar, tCons, tNil, tTup, tLst, tAsg, gName, gTup, gCons, gNil, gSub, tDrop, tCallS, tCB, tM1, tM0, tBM, tBM0, tSl, tPar, tFor_eq, tLc_eq, intU_int, intU_bl, iList, iTup, iEnumT, tDNewK, tDisp, tPairs, rSlT, rSlL, iRng1, iRng2, iStr, tThen, tNever, L2.start, tRaiseFile, tMkFile, tYes, tPart, tNoPart, addA_int, addA_str, addU_int, addU_str, addU_ref, subU_int, mulU_int, mulU_ref, fdvU_int, modU_int, powU_int, ltU_int, leU_int, gtU_int, geU_int, eqU_int, eqU_str, eqU_bl, neU_int, neU_str, neU_bl, WE, TruV, tDIn, tDNotIn, sDDel, tDSetd, tDPop1, tLock, tLockE, tLk, tLockA, tLockEA, iKeys, List.map, List.length_cons, List.length_nil, List.replicate, List.append, List.getElem?_cons_zero, List.getElem?_cons_succ, List.set_cons_zero, List.set_cons_succ, List.cons_append, List.nil_append, Option.some.injEq, V.int.injEq, V.str.injEq, V.bl.injEq, V.ref.injEq, List.cons.injEq, exists_eq_left, exists_eq_right, and_true, true_and, and_self, exists_eq, exists_const, Bool.not_true, Bool.not_false, Bool.false_eq_true, if_true, if_false, reduceIte, decide_eq_true_eq, bne_iff_ne, exists_eq_left', exists_eq', exists_and_left, Bool.not_eq_true', decide_eq_false_iff_not, Nat.reduceSub, Nat.reduceAdd, reduceCtorEq, false_and, or_false, false_or, exists_false]
              refine ⟨s, h', q', hsE, qs', rfl, zE.st, by rw [← hvE]; exact iv.wf.drop who n, fun c hsF qsF HF eF hvF SF fpF hcF hcn => ?_⟩
              have zF := zE.stt eF SF fpF
              have haF := eF.lst hasE haE
              rw [← hvE] at hvF hcF
              refine ne_lstI (lst_at haF) (lst_at hcF) ⟨_, rfl, ?_⟩
              rw [if_neg (by simp)]
              exact hN _ _ ⟨_, _, _, _, _, _, _, _, _, _, _, _, who, n, dx, h, q5, h', q', hs3, hsF, qs3, qsF, rfl, zF, by rw [← hv3, hvF], by rw [← hv3]; exact serve_inv 50 (iv.drop who n)⟩
            · have zC := zB.ex eC
              refine hN2 _ _ ?_
              clear hN2 N2
              refine seq_in fun N2 hN2 => ?_
              simp only [tAsg, gName, cx_K, gcx_K, lcx_K, LenV, rLenU, tTruU, kTup, tFld, sFld, sFldAug, tMet, tMake, tBM, tDGet, tDGet1, tDGet2, sDPut, tRevL, iEnum, tAug, tAsg, mulV_int, iaddU_int, isubU_int, iaddU_str, tTupL, ex2eq, not_true_eq_false, not_false_eq_true, LamX.tLam, LamX.TTold, tSeq, tIf, tNext, tRet, tRetN, tIfS, tTest, tB, tNot, tAnd, tOr, tChain, tOp, tUn, tC, tVar, tCons, tNil, tTup, tLst, tAsg, gName, gTup, gCons, gNil, gSub, tDrop, tCallS, tCB, tM1, tM0, tBM, tBM0, tSl, tPar, tFor_eq, tLc_eq, intU_int, intU_bl, iList, iTup, iEnumT, tDNewK, tDisp, tPairs, rSlT, rSlL, iRng1, iRng2, iStr, tThen, tNever, L2.start, tRaiseFile, tMkFile, tYes, tPart, tNoPart, addA_int, addA_str, addU_int, addU_str, addU_ref, subU_int, mulU_int, mulU_ref, fdvU_int, modU_int, powU_int, ltU_int, leU_int, gtU_int, geU_int, eqU_int, eqU_str, eqU_bl, neU_int, neU_str, neU_bl, WE, TruV, tDIn, tDNotIn, sDDel, tDSetd, tDPop1, tLock, tLockE, tLk, tLockA, tLockEA, iKeys, List.map, List.length_cons, List.length_nil, List.replicate, List.append, List.getElem?_cons_zero, List.getElem?_cons_succ, List.set_cons_zero, List.set_cons_succ, List.cons_append, List.nil_append, Option.some.injEq, V.int.injEq, V.str.injEq, V.bl.injEq, V.ref.injEq, List.cons.injEq, exists_eq_left, exists_eq_right, and_true, true_and, and_self, exists_eq, exists_const, Bool.not_true, Bool.not_false, Bool.false_eq_true, if_true, if_false, reduceIte, decide_eq_true_eq, bne_iff_ne, exists_eq_left', exists_eq', exists_and_left, Bool.not_eq_true', decide_eq_false_iff_not, Nat.reduceSub, Nat.reduceAdd, reduceCtorEq, false_and, or_false, false_or, exists_false]
              refine ⟨_, zC.st.gh, h', rfl, .inl ⟨_, .inl zC.st.co.hh⟩, fun p2 hp2 => ?_⟩
              have zD := zC.ex (Ex.new (o := .dK []) hp2)
              have pD : upd HC p2 (.dK []) p2 = some (.dK []) := upd_same
              generalize upd HC p2 (.dK []) = HD at zD pD ⊢
              obtain ⟨o, b, g1, g2, g3⟩ := held_get (n := n) zD.st.co pD
              refine ⟨o, g1, b, g2, _, .inl ⟨_, .inl who, .inl g3, rfl, rfl⟩, ?_⟩
              rw [val_key, ← ev, hk, if_pos (by decide)]
              show LwI K CL (TLaw PL) GT p r q s l _ HD
              exact ⟨_, _, _, _, _, _, _, _, _, _, _, _, _, _, dx, h, q5, h', q', hs, hs', qs, qs', rfl, zD, ev, iv⟩
          · rw [if_neg hk7]
            clear hA
            subst hB
            refine seq_in fun N2 hN2 => ?_
            simp only [tAsg, gName, cx_K, gcx_K, lcx_K, LenV, rLenU, tTruU, kTup, tFld, sFld, sFldAug, tMet, tMake, tBM, tDGet, tDGet1, tDGet2, sDPut, tRevL, iEnum, tAug, tAsg, mulV_int, iaddU_int, isubU_int, iaddU_str, tTupL, ex2eq, not_true_eq_false, not_false_eq_true, LamX.tLam, LamX.TTold, tSeq, tIf, tNext, tRet, tRetN, tIfS, tTest, tB, tNot, tAnd, tOr, tChain, tOp, tUn, tC, tVar, tCons, tNil, tTup, tLst, tAsg, gName, gTup, gCons, gNil, gSub, tDrop, tCallS, tCB, tM1, tM0, tBM, tBM0, tSl, tPar, tFor_eq, tLc_eq, intU_int, intU_bl, iList, iTup, iEnumT, tDNewK, tDisp, tPairs, rSlT, rSlL, iRng1, iRng2, iStr, tThen, tNever, L2.start, tRaiseFile, tMkFile, tYes, tPart, tNoPart, addA_int, addA_str, addU_int, addU_str, addU_ref, subU_int, mulU_int, mulU_ref, fdvU_int, modU_int, powU_int, ltU_int, leU_int, gtU_int, geU_int, eqU_int, eqU_str, eqU_bl, neU_int, neU_str, neU_bl, WE, TruV, tDIn, tDNotIn, sDDel, tDSetd, tDPop1, tLock, tLockE, tLk, tLockA, tLockEA, iKeys, List.map, List.length_cons, List.length_nil, List.replicate, List.append, List.getElem?_cons_zero, List.getElem?_cons_succ, List.set_cons_zero, List.set_cons_succ, List.cons_append, List.nil_append, Option.some.injEq, V.int.injEq, V.str.injEq, V.bl.injEq, V.ref.injEq, List.cons.injEq, exists_eq_left, exists_eq_right, and_true, true_and, and_self, exists_eq, exists_const, Bool.not_true, Bool.not_false, Bool.false_eq_true, if_true, if_false, reduceIte, decide_eq_true_eq, bne_iff_ne, exists_eq_left', exists_eq', exists_and_left, Bool.not_eq_true', decide_eq_false_iff_not, Nat.reduceSub, Nat.reduceAdd, reduceCtorEq, false_and, or_false, false_or, exists_false]
            have wf' : Wf (lkOf hs' qs') := by rw [← ev]; exact iv.wf
            refine ⟨_, _, z11.lk.hl, rfl, l, who, dx, h, q5, hs, qs, rfl, z11.lk, iv.wf, fun a qC HC qs3 ns hns1 hns2 aC ha hna => hN2 _ _ ?_⟩
            clear hN2 N2
            obtain ⟨hs3, hv3, zC⟩ := z11.locks aC
            have has : a ∉ s :: fpOf h' q' hs' := fun z => hna.elim (fun y => z11.dj a y z) (not_free (z11.st.live a z))
            refine seq_in fun N2 hN2 => ?_
            simp only [tAsg, gName, cx_K, gcx_K, lcx_K, LenV, rLenU, tTruU, kTup, tFld, sFld, sFldAug, tMet, tMake, tBM, tDGet, tDGet1, tDGet2, sDPut, tRevL, iEnum, tAug, tAsg, mulV_int, iaddU_int, isubU_int, iaddU_str, tTupL, ex2eq, not_true_eq_false, not_false_eq_true, LamX.tLam, LamX.TTold, tSeq, tIf, tNext, tRet, tRetN, tIfS, tTest, tB, tNot, tAnd, tOr, tChain, tOp, tUn, tC, tVar, tCons, tNil, tTup, tLst, tAsg, gName, gTup, gCons, gNil, gSub, tDrop, tCallS, tCB, tM1, tM0, tBM, tBM0, tSl, tPar, tFor_eq, tLc_eq, intU_int, intU_bl, iList, iTup, iEnumT, tDNewK, tDisp, tPairs, rSlT, rSlL, iRng1, iRng2, iStr, tThen, tNever, L2.start, tRaiseFile, tMkFile, tYes, tPart, tNoPart, addA_int, addA_str, addU_int, addU_str, addU_ref, subU_int, mulU_int, mulU_ref, fdvU_int, modU_int, powU_int, ltU_int, leU_int, gtU_int, geU_int, eqU_int, eqU_str, eqU_bl, neU_int, neU_str, neU_bl, WE, TruV, tDIn, tDNotIn, sDDel, tDSetd, tDPop1, tLock, tLockE, tLk, tLockA, tLockEA, iKeys, List.map, List.length_cons, List.length_nil, List.replicate, List.append, List.getElem?_cons_zero, List.getElem?_cons_succ, List.set_cons_zero, List.set_cons_succ, List.cons_append, List.nil_append, Option.some.injEq, V.int.injEq, V.str.injEq, V.bl.injEq, V.ref.injEq, List.cons.injEq, exists_eq_left, exists_eq_right, and_true, true_and, and_self, exists_eq, exists_const, Bool.not_true, Bool.not_false, Bool.false_eq_true, if_true, if_false, reduceIte, decide_eq_true_eq, bne_iff_ne, exists_eq_left', exists_eq', exists_and_left, Bool.not_eq_true', decide_eq_false_iff_not, Nat.reduceSub, Nat.reduceAdd, reduceCtorEq, false_and, or_false, false_or, exists_false]
            have qlen : qs'.length ≤ 20 := by have := iv.wf.q5; rw [ev] at this; unfold lkOf at this; rw [List.length_map] at this; omega
            refine ⟨_, zC.st.gq, q', rfl, ⟨_, lst_at zC.st.co.hq⟩, fun D hD => lc_rowsN (TL := TLaw PL) (GT := GT) zC.st.co.hq zC.st.co.hrT qlen hD fun HD eD hDq => ?_⟩
            have zD := zC.ex eD
            have haD := eD.lst (by simp) ha
            have nas : a ≠ s := fun z => has (by rw [z]; simp)
            have nsD : s ≠ D := fun z => by have := zC.st.hsd; rw [z, hD] at this; cases this
            have naD : a ≠ D := fun z => by rw [z, hD] at ha; cases ha
            refine ⟨_, DPut.k (k := .inr (Str.ofString "queue")) zD.st.hsd (by rw [sizeLine_eq]; show 2 < 16777216; decide), hN2 _ _ ?_⟩
            clear hN2 N2
            rw [put2]
            have eE : Ex [s] (TLaw PL) GT HD (upd HD s (.dK [(.inr (Str.ofString "held"), .ref h'), (.inr (Str.ofString "queue"), .ref D)])) := Ex.put (by simp) zD.st.hsd rfl
            have sE : upd HD s (.dK [(.inr (Str.ofString "held"), .ref h'), (.inr (Str.ofString "queue"), .ref D)]) s = some (.dK [(.inr (Str.ofString "held"), .ref h'), (.inr (Str.ofString "queue"), .ref D)]) := upd_same
            have haE := eE.lst (by simpa using nas) haD
            generalize upd HD s (.dK [(.inr (Str.ofString "held"), .ref h'), (.inr (Str.ofString "queue"), .ref D)]) = HE at eE sE haE ⊢
            have fpE : ∀ x, x ∈ s :: fpOf h' D hs' → x ∈ s :: fpOf h' q' hs' ∨ free HC x := fun x hx => by
              simp only [fpOf, List.mem_cons] at hx
              rcases hx with rfl | rfl | rfl | hx
              · exact .inl (by simp)
              · exact .inl (by simp [fpOf])
              · exact .inr (free_none hD)
              · exact .inl (by simp only [fpOf, List.mem_cons]; exact .inr (.inr (.inr hx)))
            have snf : s ∉ fpOf h' D hs' := fun z => by
              simp only [fpOf, List.mem_cons] at z
              rcases z with z | z | z
              · exact zC.st.nn (by rw [z]; simp [fpOf])
              · exact nsD z
              · exact zC.st.nn (by simp only [fpOf, List.mem_cons]; exact .inr (.inr z))
            have zE := zC.stt (eD.any.trans (eE.mono (fun x hx => by rw [List.mem_singleton.mp hx]; simp))) (⟨sE, (zD.st.co.newQ who hDq).keep eE (fun x hx => by simp only [List.mem_singleton]; exact fun z => snf (z ▸ hx)), snf⟩ : SA K HE s h' D hs' (rmQ qs' who)) fpE
            have haF : a ∉ s :: fpOf h' D hs' := fun z => by
              rcases fpE a z with y | y
              · exact has y
              · exact y _ ha |>.elim (fun ps e => by cases e)
            have hvE : lkOf hs' (rmQ qs' who) = { lkOf hs qs with queue := rmW (lkOf hs qs).queue who } := by rw [rmQ_lk, ev]
            have hfst : hs'.map (·.1) = hs.map (·.1) := by
              rw [← lk_names hs' qs', ← ev, lk_names]
            refine seq_in fun N2 hN2 => ?_
            simp only [tAsg, gName, cx_K, gcx_K, lcx_K, LenV, rLenU, tTruU, kTup, tFld, sFld, sFldAug, tMet, tMake, tBM, tDGet, tDGet1, tDGet2, sDPut, tRevL, iEnum, tAug, tAsg, mulV_int, iaddU_int, isubU_int, iaddU_str, tTupL, ex2eq, not_true_eq_false, not_false_eq_true, LamX.tLam, LamX.TTold, tSeq, tIf, tNext, tRet, tRetN, tIfS, tTest, tB, tNot, tAnd, tOr, tChain, tOp, tUn, tC, tVar, tCons, tNil, tTup, tLst, tAsg, gName, gTup, gCons, gNil, gSub, tDrop, tCallS, tCB, tM1, tM0, tBM, tBM0, tSl, tPar, tFor_eq, tLc_eq, intU_int, intU_bl, iList, iTup, iEnumT, tDNewK, tDisp, tPairs, rSlT, rSlL, iRng1, iRng2, iStr, tThen, tNever, L2.start, tRaiseFile, tMkFile, tYes, tPart, tNoPart, addA_int, addA_str, addU_int, addU_str, addU_ref, subU_int, mulU_int, mulU_ref, fdvU_int, modU_int, powU_int, ltU_int, leU_int, gtU_int, geU_int, eqU_int, eqU_str, eqU_bl, neU_int, neU_str, neU_bl, WE, TruV, tDIn, tDNotIn, sDDel, tDSetd, tDPop1, tLock, tLockE, tLk, tLockA, tLockEA, iKeys, List.map, List.length_cons, List.length_nil, List.replicate, List.append, List.getElem?_cons_zero, List.getElem?_cons_succ, List.set_cons_zero, List.set_cons_succ, List.cons_append, List.nil_append, Option.some.injEq, V.int.injEq, V.str.injEq, V.bl.injEq, V.ref.injEq, List.cons.injEq, exists_eq_left, exists_eq_right, and_true, true_and, and_self, exists_eq, exists_const, Bool.not_true, Bool.not_false, Bool.false_eq_true, if_true, if_false, reduceIte, decide_eq_true_eq, bne_iff_ne, exists_eq_left', exists_eq', exists_and_left, Bool.not_eq_true', decide_eq_false_iff_not, Nat.reduceSub, Nat.reduceAdd, reduceCtorEq, false_and, or_false, false_or, exists_false]
            refine ⟨_, zE.st.gh, h', rfl, _, .inl zE.st.co.hh, hs'.map (·.1), by rw [List.map_map, List.map_map]; rfl, by have := wf'.h4; unfold lkOf at this; rw [List.length_map] at this ⊢; omega, fun ns2 pl hp1 hp2 hpl => ⟨⟨_, lst_at upd_same⟩, ?_⟩⟩
            rw [hfst] at hp1
            obtain rfl : ns2 = ns := names_eq (fun x hx => by
              obtain ⟨e, he, rfl⟩ := List.mem_map.mp (hp1.mem_iff.mp hx)
              exact iv.wf.hr (e.1, e.2.2) (List.mem_map.mpr ⟨e, he, rfl⟩)) (hp1.trans hns1.symm) hp2 hns2
            have eG : Ex [] (TLaw PL) GT HE (upd HE pl (.lst (ns2.map V.str))) := Ex.new hpl
            have zG := zE.ex eG
            have haG := eG.lst (by simp) haE
            have plG : upd HE pl (.lst (ns2.map V.str)) pl = some (.lst (ns2.map V.str)) := upd_same
            have hplF : pl ∉ s :: fpOf h' D hs' := zE.st.notin hpl
            have hplD : pl ≠ D := fun z => hplF (by rw [z]; simp [fpOf])
            generalize upd HE pl (.lst (ns2.map V.str)) = HG at zG haG plG ⊢
            have nnd : ns2.Nodup := hns1.nodup_iff.mpr z11.lk.co.nm
            have WE' : Wf (lkOf hs' (rmQ qs' who)) := by rw [hvE]; exact iv.wf.rm who
            refine loop_list (xs := ns2.map V.str) (LvS K CL (TLaw PL) GT r q l dx h qC hs3 qs3 s h' D (rmQ qs' who) who ns2 { lkOf hs qs with queue := rmW (lkOf hs qs).queue who } a ((serveN 50 (leaveL (lkOf hs qs) who ns2)).2.map V.int) pl (fun v9 => [some (.ref p), some (.ref r), some (.ref s), some (.int (0 + (i : Nat))), some (.int k3), v5, v6, v7, some (.ref a), v9, v10, v11, v12, some (.ref l), some (.str n), some (.int who), v16, v17])) ⟨⟨v9, hs', rfl, zG, hvE, WE', fun m hm => ?_, haG, haF, plG, hplF⟩⟩ (fun j σ H' _ I => lst_at I.p) ?_ ?_
            · rw [lk_names, hfst]
              exact hns1.mem_iff.mp (by simpa using hm)
            · rintro j x σ H8 hx ⟨⟨w9, hsJ, rfl, zJ, hvJ, WJ, hnJ, haJ, hasJ, plJ, plFJ⟩⟩
              rw [List.getElem?_map] at hx
              cases hni : ns2[j]? with
              | none => rw [hni] at hx; cases hx
              | some m =>
                rw [hni] at hx
                obtain rfl : V.str m = x := Option.some.inj hx
                have hd := drop_at ns2 hni
                have hstep : (ns2.take (j + 1)).foldl (leaveF who) { lkOf hs qs with queue := rmW (lkOf hs qs).queue who } = leaveF who (lkOf hsJ (rmQ qs' who)) m := by
                  rw [List.take_succ, hni, List.foldl_append, hvJ]; rfl
                have nnd2 : m ∉ ns2.drop (j + 1) := fun z => by
                  have := nnd.sublist (List.drop_sublist j ns2)
                  rw [hd, List.nodup_cons] at this
                  exact this.1 z
                obtain ⟨e0, hf0⟩ := fh_some (hs := hsJ) (by have := hnJ m (by rw [hd]; exact List.mem_cons_self); rwa [lk_names] at this)
                have ht0 : hold (lkOf hsJ (rmQ qs' who)) m = e0.2.2 := by rw [hold_fh, hf0]; rfl
                simp only [tAsg, gName, cx_K, gcx_K, lcx_K, LenV, rLenU, tTruU, kTup, tFld, sFld, sFldAug, tMet, tMake, tBM, tDGet, tDGet1, tDGet2, sDPut, tRevL, iEnum, tAug, tAsg, mulV_int, iaddU_int, isubU_int, iaddU_str, tTupL, ex2eq, not_true_eq_false, not_false_eq_true, LamX.tLam, LamX.TTold, tSeq, tIf, tNext, tRet, tRetN, tIfS, tTest, tB, tNot, tAnd, tOr, tChain, tOp, tUn, tC, tVar, tCons, tNil, tTup, tLst, tAsg, gName, gTup, gCons, gNil, gSub, tDrop, tCallS, tCB, tM1, tM0, tBM, tBM0, tSl, tPar, tFor_eq, tLc_eq, intU_int, intU_bl, iList, iTup, iEnumT, tDNewK, tDisp, tPairs, rSlT, rSlL, iRng1, iRng2, iStr, tThen, tNever, L2.start, tRaiseFile, tMkFile, tYes, tPart, tNoPart, addA_int, addA_str, addU_int, addU_str, addU_ref, subU_int, mulU_int, mulU_ref, fdvU_int, modU_int, powU_int, ltU_int, leU_int, gtU_int, geU_int, eqU_int, eqU_str, eqU_bl, neU_int, neU_str, neU_bl, WE, TruV, tDIn, tDNotIn, sDDel, tDSetd, tDPop1, tLock, tLockE, tLk, tLockA, tLockEA, iKeys, List.map, List.length_cons, List.length_nil, List.replicate, List.append, List.getElem?_cons_zero, List.getElem?_cons_succ, List.set_cons_zero, List.set_cons_succ, List.cons_append, List.nil_append, Option.some.injEq, V.int.injEq, V.str.injEq, V.bl.injEq, V.ref.injEq, List.cons.injEq, exists_eq_left, exists_eq_right, and_true, true_and, and_self, exists_eq, exists_const, Bool.not_true, Bool.not_false, Bool.false_eq_true, if_true, if_false, reduceIte, decide_eq_true_eq, bne_iff_ne, exists_eq_left', exists_eq', exists_and_left, Bool.not_eq_true', decide_eq_false_iff_not, Nat.reduceSub, Nat.reduceAdd, reduceCtorEq, false_and, or_false, false_or, exists_false]
                refine ⟨_, zJ.st.gh, h', rfl, V.ref e0.2.1, .inl ⟨kvH hsJ, .inr m, .inl zJ.st.co.hh, rfl, by rw [val_hs, hf0]; rfl⟩, e0.2.1, rfl, _, .inl ⟨tabK e0.2.2, .inl who, .inl (zJ.st.co.ht e0 (fh_mem hf0).1), rfl, rfl⟩, ?_⟩
                rw [val_key]
                have hnx : ∀ x ∈ ns2.drop (j + 1), x ∈ (lkOf hsJ (rmQ qs' who)).held.map (·.1) := fun x hx => hnJ x (by rw [hd]; exact List.mem_cons_of_mem _ hx)
                cases hk : keyI e0.2.2 who with
                | false =>
                  rw [if_neg (by decide)]
                  exact ⟨⟨_, hsJ, rfl, zJ, by rw [hstep]; unfold leaveF; rw [ht0, hk, if_neg (by decide)], WJ, hnx, haJ, hasJ, plJ, plFJ⟩⟩
                | true =>
                  rw [if_pos rfl]
                  refine ⟨s, who, m, h', D, hsJ, rmQ qs' who, rfl, zJ.st, WJ, by rw [ht0]; exact hk, fun hsK HK eK hvK SK fpK => ?_⟩
                  have zK := zJ.stt eK SK (fun x hx => .inl (fpK x hx))
                  exact ⟨⟨_, hsK, rfl, zK, by rw [hstep, ← hvK]; unfold leaveF; rw [ht0, hk, if_pos rfl], by rw [← hvK]; exact WJ.drop who m, fun x hx => by rw [← hvK]; exact names_drop (hnx x hx) (fun z => nnd2 (z ▸ hx)), eK.lst hasJ haJ, fun z => hasJ (fpK a z), eK.lst plFJ plJ, fun z => plFJ (fpK pl z)⟩⟩
            · rintro σ H8 ⟨⟨w9, hsJ, rfl, zJ, hvJ, WJ, hnJ, haJ, hasJ, plJ, plFJ⟩⟩
              rw [List.length_map, List.take_of_length_le (Nat.le_refl _)] at hvJ
              have hvJ : lkOf hsJ (rmQ qs' who) = leaveL (lkOf hs qs) who ns2 := hvJ
              refine hN2 _ _ ?_
              clear hN2 N2
              simp only [tAsg, gName, cx_K, gcx_K, lcx_K, LenV, rLenU, tTruU, kTup, tFld, sFld, sFldAug, tMet, tMake, tBM, tDGet, tDGet1, tDGet2, sDPut, tRevL, iEnum, tAug, tAsg, mulV_int, iaddU_int, isubU_int, iaddU_str, tTupL, ex2eq, not_true_eq_false, not_false_eq_true, LamX.tLam, LamX.TTold, tSeq, tIf, tNext, tRet, tRetN, tIfS, tTest, tB, tNot, tAnd, tOr, tChain, tOp, tUn, tC, tVar, tCons, tNil, tTup, tLst, tAsg, gName, gTup, gCons, gNil, gSub, tDrop, tCallS, tCB, tM1, tM0, tBM, tBM0, tSl, tPar, tFor_eq, tLc_eq, intU_int, intU_bl, iList, iTup, iEnumT, tDNewK, tDisp, tPairs, rSlT, rSlL, iRng1, iRng2, iStr, tThen, tNever, L2.start, tRaiseFile, tMkFile, tYes, tPart, tNoPart, addA_int, addA_str, addU_int, addU_str, addU_ref, subU_int, mulU_int, mulU_ref, fdvU_int, modU_int, powU_int, ltU_int, leU_int, gtU_int, geU_int, eqU_int, eqU_str, eqU_bl, neU_int, neU_str, neU_bl, WE, TruV, tDIn, tDNotIn, sDDel, tDSetd, tDPop1, tLock, tLockE, tLk, tLockA, tLockEA, iKeys, List.map, List.length_cons, List.length_nil, List.replicate, List.append, List.getElem?_cons_zero, List.getElem?_cons_succ, List.set_cons_zero, List.set_cons_succ, List.cons_append, List.nil_append, Option.some.injEq, V.int.injEq, V.str.injEq, V.bl.injEq, V.ref.injEq, List.cons.injEq, exists_eq_left, exists_eq_right, and_true, true_and, and_self, exists_eq, exists_const, Bool.not_true, Bool.not_false, Bool.false_eq_true, if_true, if_false, reduceIte, decide_eq_true_eq, bne_iff_ne, exists_eq_left', exists_eq', exists_and_left, Bool.not_eq_true', decide_eq_false_iff_not, Nat.reduceSub, Nat.reduceAdd, reduceCtorEq, false_and, or_false, false_or, exists_false]
              refine ⟨s, h', D, hsJ, rmQ qs' who, rfl, zJ.st, WJ, fun c hsF qsF HF eF hvF SF fpF hcF hcn => ?_⟩
              have zF := zJ.stt eF SF fpF
              have haF2 := eF.lst hasJ haJ
              rw [hvJ] at hvF hcF
              refine ne_lstI (lst_at haF2) (lst_at hcF) ⟨_, rfl, ?_⟩
              rw [if_neg (by simp)]
              exact hN _ _ ⟨_, _, _, _, _, _, _, _, _, _, _, _, who, n, dx, h, qC, h', D, hs3, hsF, qs3, qsF, rfl, zF, by rw [← hv3, hvF], by rw [← hv3]; exact serve_inv 50 (leave_inv iv who ns2)⟩
      · rintro σ H7 ⟨v3, v4, v5, v6, v7, v8, v9, v10, v11, v12, v14, v15, v16, v17, dx, h, q5, h', q', hs, hs', qs, qs', rfl, z7, ev, iv⟩
        exact ⟨(fun z => by cases z), z7.hq, z7.tb⟩
  · rintro σ H2 ⟨_, hq2, t2⟩
    simp only [tAndV, cx_K, gcx_K, lcx_K, LenV, rLenU, tTruU, kTup, tFld, sFld, sFldAug, tMet, tMake, tBM, tDGet, tDGet1, tDGet2, sDPut, tRevL, iEnum, tAug, tAsg, mulV_int, iaddU_int, isubU_int, iaddU_str, tTupL, ex2eq, not_true_eq_false, not_false_eq_true, LamX.tLam, LamX.TTold, tSeq, tIf, tNext, tRet, tRetN, tIfS, tTest, tB, tNot, tAnd, tOr, tChain, tOp, tUn, tC, tVar, tCons, tNil, tTup, tLst, tAsg, gName, gTup, gCons, gNil, gSub, tDrop, tCallS, tCB, tM1, tM0, tBM, tBM0, tSl, tPar, tFor_eq, tLc_eq, intU_int, intU_bl, iList, iTup, iEnumT, tDNewK, tDisp, tPairs, rSlT, rSlL, iRng1, iRng2, iStr, tThen, tNever, L2.start, tRaiseFile, tMkFile, tYes, tPart, tNoPart, addA_int, addA_str, addU_int, addU_str, addU_ref, subU_int, mulU_int, mulU_ref, fdvU_int, modU_int, powU_int, ltU_int, leU_int, gtU_int, geU_int, eqU_int, eqU_str, eqU_bl, neU_int, neU_str, neU_bl, WE, TruV, tDIn, tDNotIn, sDDel, tDSetd, tDPop1, tLock, tLockE, tLk, tLockA, tLockEA, iKeys, List.map, List.length_cons, List.length_nil, List.replicate, List.append, List.getElem?_cons_zero, List.getElem?_cons_succ, List.set_cons_zero, List.set_cons_succ, List.cons_append, List.nil_append, Option.some.injEq, V.int.injEq, V.str.injEq, V.bl.injEq, V.ref.injEq, List.cons.injEq, exists_eq_left, exists_eq_right, and_true, true_and, and_self, exists_eq, exists_const, Bool.not_true, Bool.not_false, Bool.false_eq_true, if_true, if_false, reduceIte, decide_eq_true_eq, bne_iff_ne, exists_eq_left', exists_eq', exists_and_left, Bool.not_eq_true', decide_eq_false_iff_not, Nat.reduceSub, Nat.reduceAdd, reduceCtorEq, false_and, or_false, false_or, exists_false]
    refine ⟨t2.tl, fun HB xB tbB => lk_new fun l dx h0 q0 H3 e3 L3 f3 => ?_⟩
    have eB : Ex [] (TLaw PL) GT H2 HB := ExtN.ex xB tbB
    have t3 := (eB.trans e3).tb t2
    refine ⟨_, _, L3.hl, rfl, l, 1, "a", "both", dx, h0, q0, [], [], rfl, L3, Inv.init.wf, ⟨by decide, by decide⟩, t3, (fun _ _ H4 e4 => ⟨true, xe, (fun _ => lk_new fun l2 dx2 h2 q2 H5 e5 L5 f5 => ?_), (fun z => by cases z)⟩), fun al hal => ?_⟩
    · refine ⟨_, _, L5.hl, rfl, l2, 1, "a", dx2, h2, q2, [], [], rfl, L5, by decide, fun a H6 e6 h6 _ => ⟨Nat.zero_le _, fun p7 hp7 => ?_⟩⟩
      have e7 : Ex [] (TLaw PL) GT H6 (upd H6 p7 (.lst [])) := Ex.new hp7
      have tF := ((((e4.trans e5).trans e6).trans e7).tb t3)
      refine eq_lstI (ns := []) (ms := []) (lst_at (e7.lst (by simp) h6)) (lst_at upd_same) ?_
      exact h _ tF.tg
    · cases al <;> exact absurd hal (by decide)
end
end KL
end
section
set_option Elab.async false
set_option linter.all false
set_option maxRecDepth 100000
set_option maxHeartbeats 0
namespace KL
open PySem PySem.Spec PyProof.Rows L2 GX
/-! ### the head -/
def dfs : List (Str × Stmt) := [("_law_dice", (top 6)), ("_law_roll", (top 7)), ("_law_rounds", (top 8)), ("_law_told", (top 9)), ("_law_blocked", (top 10)), ("_law_waits", (top 11)), ("_law_ring", (top 12)), ("_law_take", (top 13)), ("_law_serve", (top 14)), ("_law_drop", (top 15)), ("law", (top 16))]
abbrev MD : Type := (Str × Str) × (Str × (Stmt × List He.Dv))
def mts : List MD := [(("Locks", "holders_of"), ("Locks.holders_of", ((inClass (top 4) 1), []))),
  (("Locks", "fits"), ("Locks.fits", ((inClass (top 4) 2), []))),
  (("Locks", "ahead"), ("Locks.ahead", ((inClass (top 4) 3), []))),
  (("Locks", "blockers"), ("Locks.blockers", ((inClass (top 4) 4), []))),
  (("Locks", "ask"), ("Locks.ask", ((inClass (top 4) 5), []))),
  (("Locks", "take"), ("Locks.take", ((inClass (top 4) 6), []))),
  (("Locks", "waits_for"), ("Locks.waits_for", ((inClass (top 4) 7), []))),
  (("Locks", "in_ring"), ("Locks.in_ring", ((inClass (top 4) 8), []))),
  (("Locks", "release"), ("Locks.release", ((inClass (top 4) 9), []))),
  (("Locks", "leave"), ("Locks.leave", ((inClass (top 4) 10), []))),
  (("Locks", "serve"), ("Locks.serve", ((inClass (top 4) 11), []))),
  (("Locks", "shown"), ("Locks.shown", ((inClass (top 4) 12), [])))]
def ini : List MD := [(("Locks", "__init__"), ("Locks.__init__", ((inClass (top 4) 0), [])))]
def md (p : MD) : He.DefD := ⟨(p.1.1, some p.1.2), p.1.2, p.2.1, defArgs p.2.2.1, defBody p.2.2.1, defScope p.2.2.1, p.2.2.2, []⟩
def fn : List He.DefD := (dfs.map fun p => dd p.1 p.2) ++ ((mts ++ ini).map md)
def frs : List Str := ["any", "all", "list", "enumerate", "dict", "sorted", "tuple", "range", "abs", "int", "len"]
def fds : List (Str × Str) := [("Locks", "held"), ("Locks", "queue")]
def cls : List Str := ["Locks"]
def exs : List Str := ["ProcessError"]
def oth : List He.Fa := [.exm "ProcessError" "ProcessError" true]
def fa : List He.Fa := (((((((dfs.map fun p => He.Fa.glo p.1) ++ (mts.map fun p => He.Fa.meth p.1.1 p.1.2)) ++ (frs.map He.Fa.free)) ++ (fds.map fun p => He.Fa.noat p.1 p.2)) ++ (cls.map He.Fa.cls)) ++ ((cls.map He.Fa.mkr) ++ ((cls ++ exs).map He.Fa.glo))) ++ (exs.map He.Fa.exc)) ++ oth
def tf : List He.Defn := [("Locks", some "ask"), ("Locks", some "shown"), ("law", none)]
abbrev R : PySem.W.OpenRow := PySem.W.OpenLaw.row PySem.Challenge.rw_hoststack_k16_locks_and_rings
abbrev tb1 (K : PySem.W.Frag) : Addr := (He.cT K ("Locks", some "ask")).2
abbrev tb2 (K : PySem.W.Frag) : Addr := (He.cT K ("Locks", some "shown")).2
abbrev tb3 (K : PySem.W.Frag) : Addr := (He.cT K ("law", none)).2
abbrev exF : PySem.W.Frag → Bool := fun K => decide (tb1 K ≠ tb3 K) && decide (tb2 K ≠ tb3 K)
abbrev hk : PySem.W.Hook := He.hookX 6 fa fn [] tf exF
def ob (s : PySem.W.SharedT) : He.AlX := He.obsX 6 fa fn [] tf exF (HandSHeadRun.getT s)
theorem ob_eq (s : PySem.W.SharedT) : ob s = hk.obs s.abs := He.obsX_eq (HandSHeadRun.getT_eq s)
def loose : List Str := ["HostError", "ProcessError", "Locks", "_law_dice", "_law_roll", "_law_rounds", "_law_told", "_law_blocked", "_law_waits", "_law_ring", "_law_take", "_law_serve", "_law_drop"]
theorem run (w : World) : HandSHeadRun.RunEq R (PySem.W.view R.prog [16]) hk ob 4000 loose w := by
  intro os
  kernel_rfl
end KL
end
set_option Elab.async false
set_option linter.all false
set_option maxRecDepth 100000
set_option maxHeartbeats 0
namespace KL
open PySem PySem.Spec PyProof.Rows L2 GX
section
variable {P : Program} {w : World} {K : PySem.W.Frag} {h : Heap} {mg : Str → Option Value}
theorem sql_toE {GT : List Addr} {H : Hp} {a : Addr} {xs : List V} (hT : ∀ p ∈ GT, ∃ ps, H p = some (.tbl ps)) (h : SqL K H a xs) : SqL K (toE GT H) a xs := by
  rcases h with (h | ⟨o, h⟩) | h
  · have na : a ∉ GT := fun z => by obtain ⟨ps, q⟩ := hT a z; rw [h] at q; cases q
    exact .inl (.inl (by rw [toE_out na]; exact h))
  · have na : a ∉ GT := fun z => by obtain ⟨ps, q⟩ := hT a z; rw [h] at q; cases q
    exact .inl (.inr ⟨o, by rw [toE_out na]; exact h⟩)
  · exact .inr h
theorem law_at (X : K.In h) (G : h.Ns mainGlobals mg) (c : He.SaysX fa fn [] tf exF w h K) {f : Addr} (hfa : mg ("law" : Str) = some (.ref f)) :
    LamX.LawAtS PySem.Challenge.rw_hoststack_k16_locks_and_rings w K (L2.CX R.prog w) 34 63 "script" mg f h := by
  have fc : ∀ {z : He.Fa}, z ∈ fa → z.ok K = true := fun hz => c.t.d.facts hz
  have D : ∀ {x : Str} {st : Stmt}, (x, st) ∈ dfs → ∃ fd cd, Def K mg x st (He.ga K x) fd cd ∧ cd = (He.cT K (x, none)).1 := fun {x st} hm => by
    obtain ⟨fd, F⟩ := c.t.d.defs (d := dd x st) (List.mem_append_left _ (List.mem_map.mpr ⟨(x, st), hm, rfl⟩))
    obtain ⟨cd, D, e⟩ := def_funD (mg := mg) F (He.glo_ok X G (fc (z := .glo x) (List.mem_append_left _ (List.mem_append_left _ (List.mem_append_left _ (List.mem_append_left _ (List.mem_append_left _ (List.mem_append_left _ (List.mem_append_left _ (List.mem_map.mpr ⟨(x, st), hm, rfl⟩))))))))))
    obtain ⟨oc, od, kV, doc, pm, an, ct, osl, rfl, lk, hcd⟩ := D.ex
    exact ⟨_, cd, D, (He.codeOf_eq (p := (x, none)) lk rfl).symm⟩
  have M0 : ∀ {p : MD}, p ∈ mts ++ ini → ∃ fd cd, MDef K p.1.2 p.2.1 p.2.2.1 (p.2.2.2.map (He.Dv.v K)) (He.ma K (He.ga K p.1.1) p.1.2) fd cd ∧ cd = (He.cT K (p.1.1, some p.1.2)).1 := fun {p} hm => by
    obtain ⟨fd, F⟩ := c.t.d.defs (d := md p) (List.mem_append_right _ (List.mem_map.mpr ⟨p, hm, rfl⟩))
    have F0 := F
    obtain ⟨⟨oc, od, dV, kV, doc, pm, an, cdv, ct, osl, rfl, lk, hcd, hD, hK⟩, kp⟩ := F
    obtain ⟨cc, rfl⟩ := He.codeIn_ref hcd
    exact ⟨_, cc, ⟨F0, rfl⟩, (He.codeOf_eq (p := (p.1.1, some p.1.2)) lk rfl).symm⟩
  have M : ∀ {p : MD}, p ∈ mts → ∃ f fd cd, MDef K p.1.2 p.2.1 p.2.2.1 (p.2.2.2.map (He.Dv.v K)) f fd cd ∧ Meth K (He.ga K p.1.1) p.1.2 f := fun {p} hm => by
    obtain ⟨fd, cd, D, _⟩ := M0 (List.mem_append_left _ hm)
    exact ⟨_, fd, cd, D, He.meth_ok (fc (z := .meth p.1.1 p.1.2) (List.mem_append_left _ (List.mem_append_left _ (List.mem_append_left _ (List.mem_append_left _ (List.mem_append_left _ (List.mem_append_left _ (List.mem_append_right _ (List.mem_map.mpr ⟨p, hm, rfl⟩)))))))))⟩
  have Fr : ∀ {x : Str}, x ∈ frs → mg x = none := fun {x} hm => He.free_ok X G (fc (z := .free x) (List.mem_append_left _ (List.mem_append_left _ (List.mem_append_left _ (List.mem_append_left _ (List.mem_append_left _ (List.mem_append_right _ (List.mem_map.mpr ⟨x, hm, rfl⟩))))))))
  have Na : ∀ {x g : Str}, (x, g) ∈ fds → NoAttr K (He.ga K x) g := fun {x g} hm => He.noat_ok (fc (z := .noat x g) (List.mem_append_left _ (List.mem_append_left _ (List.mem_append_left _ (List.mem_append_left _ (List.mem_append_right _ (List.mem_map.mpr ⟨(x, g), hm, rfl⟩)))))))
  have Cl : ∀ {x : Str}, x ∈ cls → Cls K (He.ga K x) := fun {x} hm => He.cls_ok (fc (z := .cls x) (List.mem_append_left _ (List.mem_append_left _ (List.mem_append_left _ (List.mem_append_right _ (List.mem_map.mpr ⟨x, hm, rfl⟩))))))
  have Mr : ∀ {x : Str}, x ∈ cls → Mk K (He.ga K x) (He.ma K (He.ga K x) "__init__") := fun {x} hm => He.mkr_ok (fc (z := .mkr x) (List.mem_append_left _ (List.mem_append_left _ (List.mem_append_right _ (List.mem_append_left _ (List.mem_map.mpr ⟨x, hm, rfl⟩))))))
  have Gl : ∀ {x : Str}, x ∈ cls ++ exs → mg x = some (.ref (He.ga K x)) := fun {x} hm => He.glo_ok X G (fc (z := .glo x) (List.mem_append_left _ (List.mem_append_left _ (List.mem_append_right _ (List.mem_append_right _ (List.mem_map.mpr ⟨x, hm, rfl⟩))))))
  have Px : ∀ {x : Str}, x ∈ exs → PlainX K mg x (He.ga K x) := fun {x} hm => by
    obtain ⟨e1, e2, e3, e4⟩ := He.exc_ok (fc (z := .exc x) (List.mem_append_left _ (List.mem_append_right _ (List.mem_map.mpr ⟨x, hm, rfl⟩))))
    exact ⟨e1, Gl (List.mem_append_right _ hm), e2, e3, e4⟩
  have Ot : ∀ {z : He.Fa}, z ∈ oth → z.ok K = true := fun hz => fc (List.mem_append_right _ hz)
  have Dx : ∀ {x : Str} {st : Stmt}, (x, st) ∈ dfs → ∃ f fd cd, Def K mg x st f fd cd := fun hm => let ⟨fd, cd, d, _⟩ := D hm; ⟨_, fd, cd, d⟩
  obtain ⟨fdL, cdL, DL, eL⟩ := D (x := "law") (st := (top 16)) (by simp [dfs])
  obtain ⟨fdN, cdN, DN, eN⟩ := M0 (p := (("Locks", "ask"), ("Locks.ask", ((inClass (top 4) 5), [])))) (by simp [mts])
  have hN := He.meth_ok (fc (z := .meth "Locks" "ask") (List.mem_append_left _ (List.mem_append_left _ (List.mem_append_left _ (List.mem_append_left _ (List.mem_append_left _ (List.mem_append_left _ (List.mem_append_right _ (List.mem_map.mpr ⟨(("Locks", "ask"), ("Locks.ask", ((inClass (top 4) 5), []))), by simp [mts], rfl⟩)))))))))
  obtain ⟨fdR, cdR, DR, eR⟩ := M0 (p := (("Locks", "shown"), ("Locks.shown", ((inClass (top 4) 12), [])))) (by simp [mts])
  have hR := He.meth_ok (fc (z := .meth "Locks" "shown") (List.mem_append_left _ (List.mem_append_left _ (List.mem_append_left _ (List.mem_append_left _ (List.mem_append_left _ (List.mem_append_left _ (List.mem_append_right _ (List.mem_map.mpr ⟨(("Locks", "shown"), ("Locks.shown", ((inClass (top 4) 12), []))), by simp [mts], rfl⟩)))))))))
  have efa := hfa.symm.trans DL.gm
  cases efa
  obtain ⟨cO, hbind⟩ : True ∧ ∀ us : List Value, us.length = 1 → bindArgs fdL ⟨us, []⟩ = pure ((["script"] : List Str).zip us) := by
    obtain ⟨oc, od, kV, doc, pm, an, ct, osl, rfl, lk, hcd⟩ := DL.ex
    exact ⟨trivial, fun us hl => match us, hl with | [_], _ => rfl⟩
  obtain ⟨tt, et⟩ : ∃ ts : List (Addr × Addr), ts = tf.map (He.cT K) := ⟨_, rfl⟩
  have hme : ∀ p ∈ tt, ∃ q ∈ tf, p = He.cT K q := fun p hp => by
    rw [et] at hp
    obtain ⟨q, hq, e⟩ := List.mem_map.mp hp
    exact ⟨q, hq, e.symm⟩
  have hin : ∀ q ∈ tf, He.cT K q ∈ tt := fun q hq => by rw [et]; exact List.mem_map.mpr ⟨q, hq, rfl⟩
  obtain ⟨hne1, hne2⟩ := He.ba c.more
  have hne1 : tb1 K ≠ tb3 K := of_decide_eq_true hne1
  have hne2 : tb2 K ≠ tb3 K := of_decide_eq_true hne2
  refine ⟨fdL, tt, spTabs [tb1 K, tb2 K] (spLaw K (TLaw (tb3 K)) [tb1 K, tb2 K]), fun p hp => ?_, fun p hp => ?_, fun p hp => ?_, fun s u => .of_eq (hbind [u] rfl), ?_, ?_⟩
  · obtain ⟨q, hq, rfl⟩ := hme p hp
    exact c.empty q hq
  · obtain ⟨q, hq, rfl⟩ := hme p hp
    exact c.out q hq
  · obtain ⟨q, hq, rfl⟩ := hme p hp
    exact PySem.W.codeHd_of_K X (c.hd q hq)
  · intro H a zs hl hb hT hS
    have hN : H (tb1 K) = some (.tbl #[]) := hT (He.cT K ("Locks", some "ask")) (hin _ (by simp [tf]))
    have hJ : H (tb2 K) = some (.tbl #[]) := hT (He.cT K ("Locks", some "shown")) (hin _ (by simp [tf]))
    have hL : H (tb3 K) = some (.tbl #[]) := hT (He.cT K ("law", none)) (hin _ (by simp [tf]))
    have hGT : ∀ p ∈ [tb1 K, tb2 K], H p = some (.tbl #[]) := fun p hp => by
      simp only [List.mem_cons, List.not_mem_nil, or_false] at hp
      rcases hp with rfl | rfl
      · exact hN
      · exact hJ
    refine ⟨hGT, fun v => v = .bl true, fun v H' h => h, a, zs, rfl, ?_, ⟨?_, fun p hp => toE_in hp⟩, fun H' h => ⟨rfl, h⟩⟩
    · exact sql_toE (fun p hp => ⟨#[], hGT p hp⟩) hS
    · refine tabs_empty fun p hp => ?_
      rw [List.mem_singleton.mp hp]
      show toE _ H (tb3 K) = _
      rw [toE_out (by simp only [List.mem_cons, List.not_mem_nil, or_false, not_or]; exact ⟨Ne.symm hne1, Ne.symm hne2⟩)]
      exact hL
  · intro base hK hG hTB
    have tN := hTB (He.cT K ("Locks", some "ask")) (hin _ (by simp [tf]))
    have tJ := hTB (He.cT K ("Locks", some "shown")) (hin _ (by simp [tf]))
    have tL := hTB (He.cT K ("law", none)) (hin _ (by simp [tf]))
    rw [← eN] at tN
    rw [← eR] at tJ
    rw [← eL] at tL
    have T : KL.Txt R.prog w K mg base (He.ga K "Locks") (He.ga K "ProcessError") (TLaw (tb3 K)) [tb1 K, tb2 K] :=
      { x_ProcessError := Px (by simp [exs])
        cL := Cl (by simp [cls])
        fL := fun f hf => by
          simp only [List.mem_cons, List.not_mem_nil, or_false] at hf
          rcases hf with rfl | rfl <;> exact Na (by simp [fds])
        gL := Gl (by simp [cls])
        l_init := by
          obtain ⟨fd, cd, D, _⟩ := M0 (p := (("Locks", "__init__"), ("Locks.__init__", ((inClass (top 4) 0), [])))) (by simp [ini])
          exact ⟨_, fd, cd, D, Mr (by simp [cls])⟩
        l_holders := M (p := (("Locks", "holders_of"), ("Locks.holders_of", ((inClass (top 4) 1), [])))) (by simp [mts])
        l_fits := M (p := (("Locks", "fits"), ("Locks.fits", ((inClass (top 4) 2), [])))) (by simp [mts])
        l_ahead := M (p := (("Locks", "ahead"), ("Locks.ahead", ((inClass (top 4) 3), [])))) (by simp [mts])
        l_blockers := M (p := (("Locks", "blockers"), ("Locks.blockers", ((inClass (top 4) 4), [])))) (by simp [mts])
        l_take := M (p := (("Locks", "take"), ("Locks.take", ((inClass (top 4) 6), [])))) (by simp [mts])
        l_waits := M (p := (("Locks", "waits_for"), ("Locks.waits_for", ((inClass (top 4) 7), [])))) (by simp [mts])
        l_ring := M (p := (("Locks", "in_ring"), ("Locks.in_ring", ((inClass (top 4) 8), [])))) (by simp [mts])
        l_release := M (p := (("Locks", "release"), ("Locks.release", ((inClass (top 4) 9), [])))) (by simp [mts])
        l_leave := M (p := (("Locks", "leave"), ("Locks.leave", ((inClass (top 4) 10), [])))) (by simp [mts])
        l_serve := M (p := (("Locks", "serve"), ("Locks.serve", ((inClass (top 4) 11), [])))) (by simp [mts])
        l_ask := ⟨_, fdN, cdN, _, DN, hN, ⟨tN.code, tN.bm, tN.gP⟩, by simp⟩
        l_shown := ⟨_, fdR, cdR, _, DR, hR, ⟨tJ.code, tJ.bm, tJ.gP⟩, by simp⟩
        d_dice := Dx (by simp [dfs]), d_roll := Dx (by simp [dfs]), d_rounds := Dx (by simp [dfs]), d_blocked := Dx (by simp [dfs]), d_waits := Dx (by simp [dfs]), d_ring := Dx (by simp [dfs]), d_take := Dx (by simp [dfs]), d_serve := Dx (by simp [dfs]), d_drop := Dx (by simp [dfs]), d_law := Dx (by simp [dfs])
        n_any := Fr (by simp [frs]), n_all := Fr (by simp [frs]), n_list := Fr (by simp [frs]), n_enumerate := Fr (by simp [frs]), n_dict := Fr (by simp [frs]), n_sorted := Fr (by simp [frs]), n_tuple := Fr (by simp [frs]), n_range := Fr (by simp [frs]), n_abs := Fr (by simp [frs]), n_int := Fr (by simp [frs]), n_len := Fr (by simp [frs]) }
    obtain ⟨fT, fdT, cT, DT⟩ := Dx (x := "_law_told") (st := (top 9)) (by simp [dfs])
    have told : Told K mg "_law_told" "what" "ProcessError" "ProcessError" (He.ga K "ProcessError") :=
      { ex := ⟨fT, cT, fdT, (top 9), ["what"], _, _, _, _, _, _, _, _, DT, rfl, ⟨rfl, rfl, rfl, by decide +kernel, rfl, by decide +kernel, by decide +kernel⟩, rfl, Or.inl rfl, rfl, fun _ => rfl, fun _ _ _ _ _ _ us hl => match us, hl with | [_], _ => rfl⟩
        me := Gl (by simp [exs]), de := rfl, da := rfl, dx := rfl, dc := rfl }
    have xe : PySem.W.exmOne K (.ref (He.ga K "ProcessError")) (.ref (He.ga K "ProcessError")) = some true := He.exm_ok (Ot (by simp [oth]))
    exact fn_tabs (c_law T told xe DL tL).1
end
end KL
open PySem PySem.W PySem.Calls PyProof.Rows
theorem PySem.Challenge.cw_hoststack_k16_locks_and_rings_holds : PySem.Challenge.rw_hoststack_k16_locks_and_rings.Holds := by
  w_on; o_law
  refine HandSHeadRun.head_any (r := OpenLaw.row PySem.Challenge.rw_hoststack_k16_locks_and_rings) (q := view (OpenLaw.row PySem.Challenge.rw_hoststack_k16_locks_and_rings).prog [16]) (H := KL.hk) (ob := KL.ob) (M := 4000) (loose := KL.loose) (d := HandSHeadRun.topDef (OpenLaw.row PySem.Challenge.rw_hoststack_k16_locks_and_rings).prog 16) (kwd := []) KL.ob_eq
    (by kernel_rfl) (fun s => by kernel_rfl) KL.run (by kernel_rfl) (by kernel_rfl) (by kernel_rfl) (by rfl) (by first | assumption | decide +kernel) (by decide +kernel) ⟨rfl, rfl, rfl, rfl, rfl, by decide +kernel⟩ ?hw ?hc
  case hw => w_witness2
  case hc =>
    refine LamX.walk_ofTsE (l := PySem.Challenge.rw_hoststack_k16_locks_and_rings) (n := 63) (k := 34) (x := "script") (CX := fun w => L2.CX KL.R.prog w) rfl (by decide) (by kernel_rfl) ⟨rfl, by decide, by decide⟩ ?F (fun w H s e s' z => by obtain ⟨_, _, _, _, _, _, _, _, _, _, _, _, z⟩ := z; exact z)
    intro w mg fa h Y G hmg0
    obtain ⟨K, KX, c⟩ := Y
    have hmg : mg ("law" : PySem.Str) = some (.ref fa) := by
      have e : (HandSHeadRun.topDef (OpenLaw.row PySem.Challenge.rw_hoststack_k16_locks_and_rings).prog 16).name = ("law" : PySem.Str) := by kernel_rfl
      rw [← e]
      exact hmg0
    exact ⟨K, KX, KL.law_at KX G c hmg⟩
