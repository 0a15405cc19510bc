import PyProof.Rows.All
import Wide.All
import OpenK.AllK
import Wide.FinOn
import HandS.ForMost
import HandS.ForExc
import HandS.GenList
import HandS.AnyAll
import PyProof.CodeObjX
import HandS.Conv
import PyProof.CollectIter
import KE.KExcSuper
import KE.RegKSuper
import HandS.ExcSuper
import HandS.Text
import HandS.TryOnly
import HandS.Lambda
import HandS.Head0
import HandS.Head1
import HandS.Head2
import HandS.HeadEnd
import HandS.HeadHook1
import HandS.HeadHook2
import HandS.HeadHook3
import HandS.HeadHook4
import HandS.HeadWalk
import PySem.Challenge.RW_hoststack_k01_texts_as_numbers
set_option Elab.async false
set_option linter.all false
set_option maxRecDepth 100000
set_option maxHeartbeats 2000000
/-! a generator expression, any element: its run as a generator, for any consumer -/
namespace GX
open PySem PySem.Spec PyProof.Rows L2 GenW

def NoCell (o : Obj) : Prop := ∀ v, o.data ≠ .cell v
/-- the consumer's object, if it has one -/
def pinsS (S : Option Addr) (o : Obj) : List (Addr × Obj) := match S with
  | some a => [(a, o)]
  | none => []
theorem mem_pinsS {S : Option Addr} {o : Obj} {p : Addr × Obj} (h : p ∈ pinsS S o) : S = some p.1 ∧ p.2 = o := by
  cases S with
  | none => cases h
  | some a =>
    rw [List.mem_singleton.mp h]
    exact ⟨rfl, rfl⟩
theorem pinsS_mem {S : Option Addr} {o : Obj} {a : Addr} (h : S = some a) : (a, o) ∈ pinsS S o := by
  subst h
  exact List.mem_cons_self
/-- running: what stands at S tells what is out -/
def GIc (X : Cx) (S : Option Addr) (C : List V → Obj → Prop) (ip : List (Addr × Obj)) (ys : List V) (σ : L2.St) (H : Hp) (s : Shared) : Prop :=
  ∃ oS, C ys oS ∧ Inv X (pinsS S oS ++ ip) σ H s
/-- the consumer's turn: S alone changes -/
structure SleptC (S : Option Addr) (C : List V → Obj → Prop) (ys : List V) (s s' : Shared) : Prop where
  os : s'.os = s.os
  bare : AllBare s'.gens
  keep : ∀ b o, S ≠ some b → s.heap.get? b = some o → s'.heap.get? b = some o
  own : ∃ o, C ys o ∧ ∀ a, S = some a → s'.heap.get? a = some o ∧ NoCell o
theorem GIc.at_ {X : Cx} {S : Option Addr} {C : List V → Obj → Prop} {ip : List (Addr × Obj)} {ys : List V} {σ : L2.St} {H : Hp} {s : Shared} (h : GIc X S C ip ys σ H s) :
    (∀ a, S = some a → H a = none ∧ a ≠ X.env.locals ∧ a ∉ X.fs) ∧ ∃ oS, C ys oS ∧ ∀ a, S = some a → s.heap.get? a = some oS ∧ NoCell oS := by
  obtain ⟨oS, c, I⟩ := h
  refine ⟨fun a ha => ?_, oS, c, fun a ha => ?_⟩
  · obtain ⟨h1, h2, h3, h4, h5⟩ := I.pin (a, oS) (List.mem_append_right _ (List.mem_append_left _ (pinsS_mem ha)))
    exact ⟨h2, h3, h4⟩
  · obtain ⟨h1, h2, h3, h4, h5⟩ := I.pin (a, oS) (List.mem_append_right _ (List.mem_append_left _ (pinsS_mem ha)))
    exact ⟨h1, h5⟩
/-- woken again -/
theorem GIc.woken {X : Cx} {S : Option Addr} {C : List V → Obj → Prop} {ip : List (Addr × Obj)} {ys ys' : List V} {σ : L2.St} {H : Hp} {s s' : Shared} (hpn : ∀ p ∈ X.pn, S ≠ some p.1) (hip : ∀ p ∈ ip, S ≠ some p.1) (hA : ∀ a, S = some a → Apart X a) (h : GIc X S C ip ys σ H s) (z : SleptC S C ys' s s') :
    GIc X S C ip ys' σ H s' := by
  obtain ⟨hS, _⟩ := h.at_
  obtain ⟨oS, c, I⟩ := h
  have I0 : Inv X ip σ H s := I.pins_of fun p hp => I.pin p (List.mem_append_right _ (List.mem_append_right _ hp))
  have nt : ∀ b u, H b = some u → S ≠ some b := fun b u q hb => by rw [(hS b hb).1] at q; cases q
  obtain ⟨z1, z2, z3, o', c', hown⟩ := z
  obtain ⟨hh, g, d, t, o⟩ := s'
  have ho : o = s.os := z1
  subst ho
  have inS : ∀ b, b ∈ S.toList ↔ S = some b := fun b => by
    cases S with
    | none => simp
    | some a => simp [eq_comm]
  have nc : ∀ b, b ∉ S.toList → S ≠ some b := fun b hb e => hb ((inS b).mpr e)
  have J : Inv X ip σ H { s with heap := hh, gens := g, drawn := d, toks := t } := by
    refine I0.step (g' := g) (t' := t) (d' := d) (ch := S.toList) (fun b hb => ?_)
      (fun b ob _ _ hc q _ => z3 b ob (nc b hc) q) (fun b ob _ _ hc q _ => ⟨ob.slots, z3 b ob (nc b hc) q⟩) (fun _ _ _ _ n => n) (fun b ob hc q => ⟨ob, z3 b ob (nc b hc) q⟩)
      (fun _ _ q => q) (fun _ _ _ q => q) (fun b ps q => ⟨#[], by rw [q]; simp⟩) (fun m hm => ?_) (fun b u q => ?_) z2
    · have e := (inS b).mp hb
      obtain ⟨a1, a2, a3⟩ := hA b e
      refine ⟨.inr a1, a2, a3, fun p hp z => ?_⟩
      rcases List.mem_append.mp hp with hp | hp
      · exact hpn p hp (by rw [z]; exact e)
      · exact hip p hp (by rw [z]; exact e)
    · obtain ⟨ob, es, ep, ho, r⟩ := hm
      exact ⟨ob, es, ep, z3 _ ob (fun e => (hS _ e).2.1 rfl) ho, r⟩
    · refine (I0.hok b u q).stay (fun c v hc y => z3 c v ?_ y) (fun _ y => y) fun _ _ y => y
      rcases hc with y | y
      · rw [y]; exact nt b u q
      · exact nt c _ y
  refine ⟨o', c', J.pins_of fun p hp => ?_⟩
  rcases List.mem_append.mp hp with hp | hp
  · obtain ⟨e1, e2⟩ := mem_pinsS hp
    obtain ⟨h1, h2, h3⟩ := hS _ e1
    obtain ⟨g1, g2⟩ := hown _ e1
    rw [e2]
    exact ⟨g1, h1, h2, h3, g2⟩
  · exact J.pin p (List.mem_append_right _ hp)

/-- the protocol with its consumer -/
def YC (P : Program) (w : World) (outer : List Env) (H : Hp) (s : Shared) (S : Option Addr) (a : Addr) (g : Nat) (C : List V → Obj → Prop) (Yx : List V → V → Hp → Prop) : Protocol := fun n s₀ v s1 kap =>
  ∃ (ys : List V) (x : V) (H' : Hp), n + 1 + ys.length = sizeLine ∧ RelV x v ∧ s1.os = s.os ∧ AllBare s1.gens ∧ s1.heap.NoLimit ∧ s1.heap.IsGen a g ∧ Un (frs outer) [] H H' s.heap s1.heap ∧ HOk P w H' s1.heap ∧ (∀ b, S = some b → H' b = none) ∧
    (∃ oS, C ys oS ∧ ∀ b, S = some b → s1.heap.get? b = some oS ∧ NoCell oS) ∧ Yx ys x H' ∧ ∀ s', SleptC S C (ys ++ [x]) s1 s' → kap (.send .none) s'
def RC (P : Program) (w : World) (outer : List Env) (H : Hp) (s : Shared) (S : Option Addr) (a : Addr) (g : Nat) (C : List V → Obj → Prop) (Q : List V → Hp → Prop) (E : XK) : GenEnd := fun n s₀ r s1 =>
  ((r = .ok (.ret .none) ∨ r = .ok .next) ∧ ∃ (ys : List V) (H' : Hp), s1.os = s.os ∧ AllBare s1.gens ∧ Un (frs outer) [] H H' s.heap s1.heap ∧ HOk P w H' s1.heap ∧ (∀ b, S = some b → H' b = none) ∧ (∃ oS, C ys oS ∧ ∀ b, S = some b → s1.heap.get? b = some oS ∧ NoCell oS) ∧ ys.length ≤ sizeLine ∧ Q ys H') ∨
  ∃ e, r = .error e ∧ CX P w outer H s E e s1 ∧ s1.heap.IsGen a g
/-- a generator that has not begun, for any consumer -/
def GMadeC (P : Program) (w : World) (k : Nat) (outer : List Env) (H : Hp) (s : Shared) (Yx : List V → V → Hp → Prop) (Q : List V → Hp → Prop) (E : XK) (u : Value) (s' : Shared) : Prop :=
  ∃ (a : Addr) (g : Nat) (c : Code) (go : Obj), u = .ref a ∧ s.heap.objs.size ≤ a ∧ a < s'.heap.objs.size ∧ s'.heap.get? a = some go ∧ NoCell go ∧ s'.heap.IsGen a g ∧ s'.gens[g]? = some (.fresh c) ∧ s'.os = s.os ∧ AllBare s'.gens ∧ s'.heap.NoLimit ∧
    ∀ (C : List V → Obj → Prop) (A : Around) (S : Option Addr) (s2 : Shared), Room k A → A.frames = some outer → (∀ b, S = some b → s'.heap.objs.size ≤ b) → (∀ b o, s'.heap.get? b = some o → s2.heap.get? b = some o) →
      (∃ o, C [] o ∧ ∀ b, S = some b → s2.heap.get? b = some o ∧ NoCell o) → s2.os = s.os → AllBare s2.gens →
      Seg (model P w) A (RC P w outer H s S a g C Q E) (YC P w outer H s S a g C Yx) sizeLine s2 c ((model P w).den c) [] s2
abbrev gEnv (X : Cx) (scope : Scope) (L : Addr) (code : Value) (bi : Addr) : Env := genEnv scope (cloFrom X.env.cells scope.names []) L code bi X.env
/-- the context of a generator expression's frame; entered: what stood when the walked thing had been reckoned -/
def gCx (X : Cx) (A : Around) (s : Shared) (H : Hp) (E : XK) (scope : Scope) (L : Addr) (code : Value) (bi : Addr) (pn : List (Addr × Obj)) : Cx where
  prog := X.prog
  w := X.w
  K := X.K
  mg := X.mg
  base := X.base
  A := A.deeper (gEnv X scope L code bi)
  N := X.N
  s_0 := s
  H_0 := H
  env := gEnv X scope L code bi
  outer := X.stack
  stack := gEnv X scope L code bi :: X.stack
  ex := []
  fn := fun _ => false
  calm := true
  pn := pn
  xe := fun e s' => wpAny (model X.prog X.w) (A.deeper (gEnv X scope L code bi)) (leaving (gEnv X scope L code bi) e)
    (fun _ s'' => CX X.prog X.w X.stack H s E e s'' ∧ ∀ p ∈ pn, s''.heap.get? p.1 = some p.2) (fun _ _ => False) s'
section
variable {X : Cx} {A : Around} {s : Shared} {H : Hp} {E : XK} {scope : Scope} {L : Addr} {code : Value} {bi : Addr} {pn : List (Addr × Obj)}
theorem takes_g : Takes (gCx X A s H E scope L code bi pn) (fun cls d _ H' => E cls d H') := fun u s' x =>
  XE.leaveG (X := gCx X A s H E scope L code bi pn) (W := fun cls d _ H' => E cls d H') (E := E) rfl rfl rfl (fun _ _ _ _ h => h) x
theorem owns_g : PassesOwn (model X.prog X.w) (gCx X A s H E scope L code bi pn).A (gCx X A s H E scope L code bi pn).env (gCx X A s H E scope L code bi pn).xe :=
  passes_of (X := gCx X A s H E scope L code bi pn) (K := fun e s'' => CX X.prog X.w X.stack H s E e s'' ∧ ∀ p ∈ pn, s''.heap.get? p.1 = some p.2) (E₁ := fun _ _ => False) rfl
end
theorem over_gen {A : Around} {elt tg iter : Expr} {ifs : List Expr} {scope : Scope} {pos : Pos} {it acc : Value} {env : Env} :
    A.over (.compLoop (.GeneratorExp elt [⟨tg, iter, ifs, 0⟩] scope pos) 0 it acc env) [] = A.deeper env := by
  first
    | rfl
    | (obtain ⟨hd, d, fr, gs, u⟩ := A; simp [Around.over, Around.deeper, marksOver, frameCount, unitsOf, envsOf, guardsOf, pushEnvs, pushGuards, Code.envs, Code.env?, Code.isFrame, Code.guards, Code.isGuard, Code.weight, Code.frames, Code.isCreation, Code.isCaller, Code.cUnits])
theorem over_genS {A : Around} {elt tg iter : Expr} {ifs : List Expr} {scope : Scope} {pos : Pos} {it acc : Value} {env : Env} :
    A.over (.compStart (.GeneratorExp elt [⟨tg, iter, ifs, 0⟩] scope pos) 0 it acc env) [] = A.deeper env := by
  first
    | rfl
    | (obtain ⟨hd, d, fr, gs, u⟩ := A; simp [Around.over, Around.deeper, marksOver, frameCount, unitsOf, envsOf, guardsOf, pushEnvs, pushGuards, Code.envs, Code.env?, Code.isFrame, Code.guards, Code.isGuard, Code.weight, Code.frames, Code.isCreation, Code.isCaller, Code.cUnits])
/-- the reading of the turns: W by the turn, a measure, what is out so far -/
def tTurns (g : TG) (tt : TT) (te : TE) (vs : List Nat) (Yx : List V → V → Hp → Prop) (σ : L2.St) (J : It) (H0 : Hp) (cont : List V → Hp → Prop) : Prop :=
  ∃ W : Nat → Nat → List V → Hp → Prop, (∃ m, W 0 m [] H0) ∧ ∀ i m ys H, W i m ys H →
    (J.stop i H ∧ cont ys H) ∨ (J.go i H ∧ ∃ Nx : List V → Hp → Prop, (∀ ys' H', Nx ys' H' → ∃ m', m' < m ∧ W (i + 1) m' ys' H') ∧ ∀ x H', J.yld i H x H' → g x (wipe σ vs) H' fun σ2 H2 => wipe σ2 vs = wipe σ vs ∧ tt σ2 H2 fun b H3 =>
      if b = true then te σ2 H3 fun y H4 => ys.length < sizeLine ∧ Yx ys y H4 ∧ Nx (ys ++ [y]) H4 else Nx ys H3)

/-- the generator's turns -/
theorem seg_turns {Xg : Cx} {A : Around} {R : GenEnd} {Y : Protocol} {S : Option Addr} {C : List V → Obj → Prop} {Yx : List V → V → Hp → Prop} {elt tg iter : Expr} {ifs : List Expr} {scope : Scope} {pos : Pos} {it : Addr} {fp : List Addr} {tn : Nat → Heap → Prop} {J : It}
    {g : TG} {tt : TT} {te : TE} {vs : List Nat} {σ : L2.St} {cont : List V → Hp → Prop} {W : Nat → Nat → List V → Hp → Prop}
    (hA : A.deeper Xg.env = Xg.A) (hcalm : Xg.calm = true) (hco : Xg.env.scope.isCoroutine = false) (hpn : ∀ p ∈ Xg.pn, S ≠ some p.1) (hAp : ∀ a, S = some a → Apart Xg a) (hfS : ∀ b ∈ fp, S ≠ some b)
    (hfp : ∀ b ∈ fp, b ≠ Xg.env.locals ∧ b ∉ Xg.fs ∧ Xg.s_0.heap.objs.size ≤ b ∧ (∀ x c, Xg.env.cells.lookup x = some c → c ≠ b) ∧ ∀ p ∈ Xg.pn, p.1 ≠ b)
    (T : Turn Xg.prog Xg.w Xg.K tg J fp it tn) (pg : PG Xg tg g) (pt : PTs Xg ifs tt) (pe : PE Xg elt te)
    (turn : ∀ i m ys H, W i m ys H → (J.stop i H ∧ cont ys H) ∨ (J.go i H ∧ ∃ Nx : List V → Hp → Prop, (∀ ys' H', Nx ys' H' → ∃ m', m' < m ∧ W (i + 1) m' ys' H') ∧ ∀ x H', J.yld i H x H' → g x (wipe σ vs) H' fun σ2 H2 => wipe σ2 vs = wipe σ vs ∧ tt σ2 H2 fun b H3 =>
      if b = true then te σ2 H3 fun y H4 => ys.length < sizeLine ∧ Yx ys y H4 ∧ Nx (ys ++ [y]) H4 else Nx ys H3))
    (hend : ∀ n s₀ ys H s, n + ys.length = sizeLine → GIc Xg S C [] ys (wipe σ vs) H s → cont ys H → R n s₀ (.ok .next) s)
    (hexc : ∀ n s₀ e s, Xg.xe e s → wpAny (model Xg.prog Xg.w) Xg.A (leaving Xg.env e) (fun _ s'' => R n s₀ (.error e) s'') (fun _ _ => False) s)
    (hy : ∀ n s₀ ys ip σ2 H x v s kap, n + 1 + ys.length = sizeLine → (∀ p ∈ ip, S ≠ some p.1) → RelV x v → GIc Xg S C ip ys σ2 H s → Yx ys x H → (∀ s', SleptC S C (ys ++ [x]) s s' → kap (.send .none) s') → Y n s₀ v s kap) :
    ∀ (m i n : Nat) (ys : List V) (s₀ s : Shared) (H : Hp), n + ys.length = sizeLine → W i m ys H → GIc Xg S C [] ys (wipe σ vs) H s → tn i s.heap → (∀ b ∈ fp, H b = none) →
      Seg (model Xg.prog Xg.w) A R Y n s₀ (.compLoop (.GeneratorExp elt [⟨tg, iter, ifs, 0⟩] scope pos) 0 (.ref it) .none Xg.env)
        ((model Xg.prog Xg.w).den (.compLoop (.GeneratorExp elt [⟨tg, iter, ifs, 0⟩] scope pos) 0 (.ref it) .none Xg.env)) [] s := by
  intro m
  induction m using Nat.strongRecOn with
  | ind m ih =>
    intro i n ys s₀ s H hn w hI st nfp
    have exc : ∀ (n : Nat) (s₀ : Shared) (e : Value) (s' : Shared), Xg.xe e s' → Seg (model Xg.prog Xg.w) A R Y n s₀ (.compLoop (.GeneratorExp elt [⟨tg, iter, ifs, 0⟩] scope pos) 0 (.ref it) .none Xg.env)
        ((leaving Xg.env e).bind fun _ => (Sem.raise e : Sem PySem.Fin)) [] s' := fun n s₀ e s' hx => by
      rw [Sem.bind_eq_wrap]
      refine seg_wrap ?_
      rw [over_gen, hA]
      exact wpAny_mono (hexc n s₀ e s' hx) (fun _ s'' q => seg_end (.error e) q) fun _ _ q => q.elim
    have stat : ∀ {pins : List (Addr × Obj)} {H' : Hp}, (∀ p ∈ pins, p.1 ∉ fp) → (∀ b ∈ fp, H' b = none) → ∀ b ∈ fp, FpOk Xg pins H' b := fun {pins H'} hp hn b hb => by
      obtain ⟨f1, f2, f3, f4, f5⟩ := hfp b hb
      refine ⟨hn b hb, f1, f2, .inr f3, f4, fun p hm => ?_⟩
      rcases List.mem_append.mp hm with z | z
      · exact f5 p z
      · intro e
        exact hp p z (by rw [e]; exact hb)
    obtain ⟨oS, cS, I⟩ := hI
    have sing : ∀ p ∈ pinsS S oS ++ [], p.1 ∉ fp := fun p hp hm => by
      rw [List.append_nil] at hp
      exact hfS _ hm (mem_pinsS hp).1
    show Seg _ A _ _ _ s₀ _ ((compTurn (.GeneratorExp elt [⟨tg, iter, ifs, 0⟩] scope pos) 0 (.ref it) .none Xg.env).onRaise (leaving Xg.env)) [] s
    rw [compTurn_gen, Sem.onRaise_eq_wrap]
    refine seg_bind_wrap (wpAny_standAt ?_)
    rcases turn i m ys H w with ⟨stop, qc⟩ | ⟨go, Nx, hNx, step⟩
    · have td := T.done Xg rfl rfl rfl hcalm i (pinsS S oS ++ []) s _ H (fun _ _ => False) I (stat sing nfp) st stop
      refine seg_bind_wrap ?_
      rw [over_gen, hA]
      refine wpAny_mono td (fun r s1 ⟨hr, I1⟩ => ?_) fun _ _ z => z.elim
      subst hr
      exact seg_end (.ok .next) (hend n s₀ ys H s1 hn ⟨oS, cS, I1⟩ qc)
    · have ti := T.item Xg rfl rfl rfl hcalm i (pinsS S oS ++ []) s _ H (fun _ _ => False) I (stat sing nfp) st go
      refine seg_bind_wrap ?_
      rw [over_gen, hA]
      refine wpAny_mono ti (fun r s1 ⟨u, hr, h1⟩ => ?_) fun _ _ z => z.elim
      subst hr
      dsimp only
      refine seg_bind_wrap ?_
      rw [over_gen, hA]
      refine wpAny_mono h1 (fun _ s2 ⟨x, H2, I2, r2, y2, st2, n2⟩ => ?_) fun _ _ z => z.elim
      rw [List.append_nil] at I2
      have I2' : Inv Xg (pinsS S oS ++ pinsAt fp s2.heap) (wipe σ vs) H2 s2 := I2.pinned (stat (fun p hp => sing p (List.mem_append_left _ hp)) n2) (T.obj _ _ st2)
      refine seg_bind_wrap ?_
      rw [over_gen, hA]
      refine wpAny_mono (pg.run _ s2 _ H2 x u _ I2' r2 (step x H2 y2)) (fun _ s3 ⟨σ3, H3, I3, hw3, q3⟩ => ?_) fun e s' hx => exc n s₀ e s' hx
      refine seg_bind_wrap ?_
      rw [over_gen, hA]
      refine wpAny_mono (pt.run _ s3 σ3 H3 _ I3 q3) (fun b s4 ⟨H4, I4, q4⟩ => ?_) fun e s' hx => exc n s₀ e s' hx
      have npS : ∀ p ∈ pinsAt fp s2.heap, S ≠ some p.1 := fun p hp => hfS _ (of_pinsAt hp).1
      -- the next turn
      have again : ∀ {n' : Nat} {ys' : List V} {H' : Hp} {s₀' s' : Shared}, n' + ys'.length = sizeLine → GIc Xg S C (pinsAt fp s2.heap) ys' σ3 H' s' → Nx ys' H' →
          Seg (model Xg.prog Xg.w) A R Y n' s₀' (.compLoop (.GeneratorExp elt [⟨tg, iter, ifs, 0⟩] scope pos) 0 (.ref it) .none Xg.env)
            (.pure (.again (.compLoop (.GeneratorExp elt [⟨tg, iter, ifs, 0⟩] scope pos) 0 (.ref it) .none Xg.env))) [] s' := fun {n' ys' H' s₀' s'} hn' hI' nx => by
        obtain ⟨m', hm, w'⟩ := hNx ys' H' nx
        obtain ⟨o', c', I'⟩ := hI'
        have pin' : ∀ b ∈ fp, ∀ o, s2.heap.get? b = some o → s'.heap.get? b = some o ∧ H' b = none := fun b hb o e =>
          let z := I'.pin (b, o) (List.mem_append_right _ (List.mem_append_right _ (mem_pinsAt hb e)))
          ⟨z.1, z.2.1⟩
        have hl : (wipe σ vs).length = σ3.length := by rw [← hw3, wipe_length]
        have Iu : Inv Xg (pinsS S o' ++ []) σ3 H' s' := I'.pins_of fun p hp => by
          rw [List.append_nil] at hp
          exact I'.pin p (List.mem_append_right _ (List.mem_append_left _ hp))
        refine seg_again rfl (ih m' hm (i + 1) n' ys' s₀' s' H' hn' w' ⟨o', c', Iu.weak hl fun j v e => ?_⟩ (T.keep _ _ _ st2 fun b hb o e => (pin' b hb o e).1) fun b hb => ?_)
        · rw [← hw3] at e
          exact (wipe_some e).1
        · obtain ⟨o, e, _⟩ := T.obj _ _ st2 b hb
          exact (pin' b hb o e).2
      cases b with
      | false =>
        simp only [Bool.false_eq_true, if_false] at q4 ⊢
        exact again hn ⟨oS, cS, I4⟩ q4
      | true =>
        simp only [if_true] at q4 ⊢
        have hyv : ∀ v, yieldOut Xg.env v = yieldValue v := fun v => by simp only [yieldOut, hco, Bool.false_eq_true, if_false]
        simp only [hyv]
        rw [Sem.bind_eq_wrap', Sem.bind_eq_wrap', Sem.wrap_wrap, Sem.wrap_wrap]
        refine seg_wrap ?_
        rw [over_gen, hA]
        refine wpAny_mono (pe.run _ s4 σ3 H4 _ I4 q4) (fun v s5 ⟨yv, H5, I5, r5, hlt, hyx, nx⟩ => ?_) fun e s' hx => exc n s₀ e s' hx
        obtain ⟨n, rfl⟩ : ∃ n', n = n' + 1 := ⟨n - 1, by omega⟩
        have G5 : GIc Xg S C (pinsAt fp s2.heap) ys σ3 H5 s5 := ⟨oS, cS, I5⟩
        refine seg_at (seg_yield rfl rfl rfl (hy n s₀ ys (pinsAt fp s2.heap) σ3 H5 yv v s5 _ (by omega) npS r5 G5 hyx fun s' z => ?_))
        exact again (by rw [List.length_append, List.length_singleton]; omega) (G5.woken hpn npS hAp z) nx
end GX
set_option Elab.async false
set_option linter.all false
set_option maxRecDepth 100000
set_option maxHeartbeats 2000000
namespace GX
open PySem PySem.Spec PyProof.Rows L2 GenW

/-- the names of a generator expression's frame: its own (with their places in N), or captured -/
structure GenOk (N : List Str) (sc scope : Scope) (own : List (Str × Nat)) : Prop where
  blk : BlkOk N sc scope own
  co : scope.isCoroutine = false
  cell : ∀ y ∈ scope.names, y.2 ≠ .cell
  dot : scope.names.lookup (".0" : Str) = some NameKind.local
def genOkB (N : List Str) (sc scope : Scope) (own : List (Str × Nat)) : Bool :=
  decide (scope.kind = .function) && (scope.names.all fun y => decide (scope.names.lookup y.1 = some y.2)) && (own.all fun p => decide (N[p.2]? = some p.1)) &&
    (scope.names.all fun y => !decide (y.2 = .free) || (decide (sc.names.lookup y.1 = some .cell) || decide (sc.names.lookup y.1 = some .free))) &&
    (scope.names.all fun y => !(decide (y.2 = .local) || decide (y.2 = .cell)) || (decide (y.1 ∈ own.map (·.1)) || decide (y.1 ∉ N))) &&
    (!scope.isCoroutine && (scope.names.all fun y => !decide (y.2 = .cell)) && decide (scope.names.lookup (".0" : Str) = some NameKind.local))
theorem genOk_by {N : List Str} {sc scope : Scope} {own : List (Str × Nat)} (h : genOkB N sc scope own = true) : GenOk N sc scope own := by
  unfold genOkB at h
  simp only [Bool.and_eq_true, Bool.or_eq_true, Bool.not_eq_true', decide_eq_true_eq, decide_eq_false_iff_not, List.all_eq_true] at h
  obtain ⟨⟨⟨⟨⟨h1, h2⟩, h3⟩, h4⟩, h5⟩, ⟨h6, h7⟩, h8⟩ := h
  refine ⟨⟨h1, h2, h3, fun y hy e => ?_, fun y hy e => ?_⟩, h6, fun y hy e => ?_, h8⟩
  · rcases h4 y hy with z | z
    · exact absurd e z
    · exact z
  · rcases h5 y hy with z | z
    · have q : (decide (y.2 = .local) || decide (y.2 = .cell)) = true := by
        rcases e with e | e
        · rw [e]; rfl
        · rw [e]; rfl
      rw [q] at z
      cases z
    · exact z
  · exact h7 y hy e

/-- the frame is made: the generator's context begins -/
theorem inv_startGx {X : Cx} {pins : List (Addr × Obj)} {σ : L2.St} {H1 H2 : Hp} {s1 s2 : Shared} {A : Around} {E : XK} {scope : Scope} {own : List (Str × Nat)} {L : Addr} {code : Value} {bi : Addr} {m : Str → Option Value}
    (I : Inv X pins σ H1 s1) (ok : GenOk X.N X.env.scope scope own) (hN : X.N.Nodup) (hbi : bi = builtinsNs) (hd : A.handled = none) (hfr : A.frames = some X.stack) (hL : s1.heap.objs.size ≤ L) (hns : s2.heap.Ns L m)
    (un : Un (frs X.stack) [] H1 H2 s1.heap s2.heap) (hok : HOk X.prog X.w H2 s2.heap) (hos : s2.os = s1.os) (hb : AllBare s2.gens) (hHL : H2 L = none) :
    Inv (gCx X A s1 H1 E scope L code bi []) [] (wipe σ (own.map (·.2))) H2 s2 := by
  have hfree : ∀ y ∈ scope.names, y.2 = .free → ∃ c, X.env.cells.lookup y.1 = some c := fun y hy e => by
    rcases ok.blk.free y hy e with k | k
    · exact I.ok.has _ (.inl k)
    · exact I.ok.has _ (.inr k)
  have cm : ∀ {y c}, (cloFrom X.env.cells scope.names []).lookup y = some c → X.env.cells.lookup y = some c := fun {y c} e => by
    rcases cloFrom_mem (PySem.mem_of_lookup e) with hm | ⟨h1, h2⟩
    · cases hm
    · obtain ⟨c1, hc⟩ := hfree _ h1 rfl
      have hc : X.env.cells.lookup y = some c1 := hc
      have e2 : c = c1 := by
        rw [h2, hc] <;> rfl
      rw [e2]
      exact hc
  have look : ∀ {y}, scope.names.lookup y = some .free → ∃ c, (cloFrom X.env.cells scope.names []).lookup y = some c := fun {y} hl => by
    have hy : (y, NameKind.free) ∈ scope.names := PySem.mem_of_lookup hl
    exact mem_lookup (cloFrom_has (cells := X.env.cells) (acc := []) hy)
  have cellLt : ∀ {y c}, X.env.cells.lookup y = some c → c < s1.heap.objs.size := fun {y c} e => by
    obtain ⟨v, z⟩ := I.cell y c e
    exact z.lt
  have cellK : ∀ {c : Addr} {v : Option Value}, H1 c = none → s1.heap.IsCell c v → s2.heap.IsCell c v := fun {c v} n ⟨o, ho, hd⟩ => by
    obtain ⟨sl, q⟩ := un.any ho n (by simp)
    exact ⟨_, q, hd⟩
  have noA : ∀ b : Addr, b ∉ (gCx X A s1 H1 E scope L code bi []).ex := fun b z => absurd (show b ∈ ([] : List Addr) from z) (by simp)
  refine ⟨⟨I.ok.mod, ok.blk.kind, I.ok.glob, hbi, hL, fun y z c e1 e2 => I.ok.inj y z c (cm e1) (cm e2), fun y hy => ?_, fun y c z _ => ?_, fun _ => hd, Around.frames_deeper hfr, .inr ⟨rfl, rfl⟩, fun b z => absurd z (noA b), I.bs, Nat.le_trans I.ok.bsz I.sz, fun b _ _ => noA b,
      fun b z => absurd z (noA b), I.stack, I.stkFree⟩,
    hos, hb, un, ⟨m, hns, fun i y v e1 e2 e3 => ?_⟩, fun y c e => ?_, hHL, fun y c e => ?_, fun q hq => absurd (show q ∈ ([] : List (Addr × Obj)) ++ [] from hq) (by simp), hok, by rw [wipe_length]; exact I.len⟩
  · have hy : scope.names.lookup y = some .cell ∨ scope.names.lookup y = some .free := hy
    rcases hy with hy | hy
    · exact absurd rfl (ok.cell _ (PySem.mem_of_lookup hy))
    · exact look hy
  · have z : false = true := z
    cases z
  · obtain ⟨e2, hne⟩ := wipe_some e2
    have e3 : Vis scope y := e3
    have no : ∀ k, (k = NameKind.local ∨ k = .cell) → scope.names.lookup y = some k → False := fun k hk q => by
      rcases ok.blk.own _ (PySem.mem_of_lookup q) hk with e' | e'
      · obtain ⟨p, hp, hpy⟩ := List.mem_map.mp e'
        have e3 := ok.blk.ix p hp
        have : p.1 = y := hpy
        rw [this] at e3
        exact hne (List.mem_map.mpr ⟨p, hp, nodup_ix hN e3 e1⟩)
      · exact e' (List.mem_of_getElem? e1)
    rcases e3 with k | k | k
    · exact (no _ (.inl rfl) k).elim
    · exact (no _ (.inr rfl) k).elim
    · obtain ⟨m, hn, hl⟩ := I.loc
      have hvis : Vis X.env.scope y := (ok.blk.free _ (PySem.mem_of_lookup k) rfl).elim (fun k => .inr (.inl k)) (fun k => .inr (.inr k))
      obtain ⟨w', r, q⟩ := hl i y v e1 e2 hvis
      obtain ⟨c2, h2⟩ := look k
      refine ⟨w', r, .inr ⟨.inr k, c2, h2, ?_⟩⟩
      have c1 := cm h2
      rcases q with ⟨k', _⟩ | ⟨_, c3, e', z⟩
      · have k' : X.env.scope.names.lookup y = some .local := k'
        rcases ok.blk.free _ (PySem.mem_of_lookup k) rfl with k2 | k2 <;> rw [show X.env.scope.names.lookup y = _ from k2] at k' <;> cases k'
      · rw [c1] at e'
        cases e'
        exact cellK (I.freeC y _ c1) z
  · obtain ⟨w', z⟩ := I.cell y c (cm e)
    exact ⟨w', cellK (I.freeC y c (cm e)) z⟩
  · obtain ⟨v, o, ho, hd⟩ := I.cell y c (cm e)
    exact un.free c o ho (I.freeC y c (cm e)) (by simp)

/-- a walked thing whose iterator is new: H1 is what was held when it had been reckoned -/
structure PIf (X : Cx) (tg iter : Expr) (wi : TI) : Prop where
  run : ∀ (pins : List (Addr × Obj)) (s : Shared) (σ : L2.St) (H : Hp) (R : It → Hp → Prop), Inv X pins σ H s → wi σ H R →
    wpAny (model X.prog X.w) X.A (eval iter X.env) (fun v s1 => ∃ J H1, Inv X pins σ H1 s1 ∧ R J H1 ∧ wpAny (model X.prog X.w) X.A (pyIter v) (fun itv s2 =>
      ∃ (it : Addr) (fp : List Addr) (tn : Nat → Heap → Prop), itv = .ref it ∧ Inv X pins σ H1 s2 ∧ s2.gens = s1.gens ∧ (∀ b o, s1.heap.get? b = some o → s2.heap.get? b = some o) ∧ Turn X.prog X.w X.K tg J fp it tn ∧ tn 0 s2.heap ∧
        (∀ b ∈ fp, s1.heap.objs.size ≤ b)) X.xe s1) X.xe s
section
variable {X : Cx} {tg : Expr}
theorem pif_list {l : Expr} {tl : TE} (hl : PE X l tl) : PIf X tg l (iList X.K tl) := by
  refine ⟨fun pins s σ H R I h => ?_⟩
  refine thn (hl.run pins s σ H _ I h) fun v s1 ⟨x, H1, I1, r1, q1⟩ => ?_
  obtain ⟨a, e, ⟨xs, hq⟩, q⟩ := q1
  subst e
  cases r1
  obtain ⟨its, rv, p, hz⟩ := I1.list hq
  refine ⟨_, H1, I1, q, wpAny_pyIter_list p.isList ?_⟩
  refine ⟨s1.heap.objs.size, [s1.heap.objs.size], _, rfl, I1.kept (t' := s1.toks) fun b o e => Heap.get?_push_of_some _ e, rfl, fun b o e => Heap.get?_push_of_some _ e, turn_list a _, ⟨_, Heap.get?_push_size _ rfl, rfl, rfl⟩, fun b hb => ?_⟩
  rw [List.mem_singleton.mp hb]
  exact Nat.le_refl _
theorem pif_tup {l : Expr} {tl : TE} (hl : PE X l tl) : PIf X tg l (iTup X.K tl) := by
  refine ⟨fun pins s σ H R I h => ?_⟩
  refine thn (hl.run pins s σ H _ I h) fun v s1 ⟨x, H1, I1, r1, q1⟩ => ?_
  obtain ⟨a, e, ⟨xs, hq⟩, q⟩ := q1
  subst e
  cases r1
  obtain ⟨its, rv, p, hz⟩ := I1.tuple hq
  refine ⟨_, H1, I1, q, wpAny_pyIter_tuple (show s1.heap.IsTuple a its.toArray from p) ?_⟩
  refine ⟨s1.heap.objs.size, [s1.heap.objs.size], _, rfl, I1.kept (t' := s1.toks) fun b o e => Heap.get?_push_of_some _ e, rfl, fun b o e => Heap.get?_push_of_some _ e, turn_tuple a _, ⟨_, Heap.get?_push_size _ rfl, rfl, rfl⟩, fun b hb => ?_⟩
  rw [List.mem_singleton.mp hb]
  exact Nat.le_refl _
theorem pif_str {e : Expr} {te : TE} (he : PE X e te) : PIf X tg e (iStr te) := by
  refine ⟨fun pins s σ H R I h => ?_⟩
  refine thn (he.run pins s σ H _ I h) fun v s1 ⟨y, H1, I1, r1, x, ex, q⟩ => ?_
  subst ex
  obtain ⟨t, rfl⟩ := r1
  refine ⟨_, H1, I1, q, ?_⟩
  cases ha : x.cps.all (· < 128)
  · refine wpAny_pyIter_wide ha ⟨s1.heap.objs.size, [s1.heap.objs.size], _, rfl, I1.kept (t' := s1.toks) fun b o e => Heap.get?_push_of_some _ e, rfl, fun b o e => Heap.get?_push_of_some _ e, turn_str _ x t "str_iterator" (.inr rfl), ⟨_, Heap.get?_push_size _ rfl, rfl, rfl⟩, fun b hb => ?_⟩
    rw [List.mem_singleton.mp hb]
    exact Nat.le_refl _
  · refine wpAny_pyIter_ascii ha ⟨s1.heap.objs.size, [s1.heap.objs.size], _, rfl, I1.kept (t' := s1.toks) fun b o e => Heap.get?_push_of_some _ e, rfl, fun b o e => Heap.get?_push_of_some _ e, turn_str _ x t "str_ascii_iterator" (.inl rfl), ⟨_, Heap.get?_push_size _ rfl, rfl, rfl⟩, fun b hb => ?_⟩
    rw [List.mem_singleton.mp hb]
    exact Nat.le_refl _
theorem range_itf {pins : List (Addr × Obj)} {σ : L2.St} {H : Hp} {s : Shared} {E : Value → Shared → Prop} {lo hi : Int} {t u v : Tok} {tk : Nat} (I : Inv X pins σ H s) (h1 : -(2 ^ 62) ≤ lo) (h2 : lo < 2 ^ 62) (h3 : -(2 ^ 62) ≤ hi) (h4 : hi < 2 ^ 62) (hE : E = X.xe) {R : It → Hp → Prop}
    (q : R (Itr lo (hi - lo).toNat) H) : ∃ J H1, Inv X pins σ H1 { s with heap := s.heap.push { cls := .type "range", data := .fields #[.int lo t, .int hi u, .int 1 v] }, toks := tk } ∧ R J H1 ∧
      wpAny (model X.prog X.w) X.A (pyIter (.ref s.heap.objs.size)) (fun itv s2 => ∃ (it : Addr) (fp : List Addr) (tn : Nat → Heap → Prop), itv = .ref it ∧ Inv X pins σ H1 s2 ∧ s2.gens = s.gens ∧ (∀ b o, (s.heap.push { cls := .type "range", data := .fields #[.int lo t, .int hi u, .int 1 v] }).get? b = some o → s2.heap.get? b = some o) ∧
        Turn X.prog X.w X.K tg J fp it tn ∧ tn 0 s2.heap ∧ (∀ b ∈ fp, (s.heap.push { cls := .type "range", data := .fields #[.int lo t, .int hi u, .int 1 v] }).objs.size ≤ b)) E { s with heap := s.heap.push { cls := .type "range", data := .fields #[.int lo t, .int hi u, .int 1 v] }, toks := tk } := by
  subst hE
  have I1 : Inv X pins σ H { s with heap := s.heap.push { cls := .type "range", data := .fields #[.int lo t, .int hi u, .int 1 v] }, toks := tk } := I.kept fun b o e => Heap.get?_push_of_some _ e
  refine ⟨_, H, I1, q, wpAny_pyIter_range (IsRange.new ..) (small_one h1 h2 h3 h4) ?_⟩
  refine ⟨(s.heap.push { cls := .type "range", data := .fields #[.int lo t, .int hi u, .int 1 v] }).objs.size, [(s.heap.push { cls := .type "range", data := .fields #[.int lo t, .int hi u, .int 1 v] }).objs.size], _, rfl,
    I1.kept (t' := tk) fun b o e => Heap.get?_push_of_some _ e, rfl, fun b o e => Heap.get?_push_of_some _ e, turn_range _ lo (hi - lo).toNat, ?_, fun b hb => ?_⟩
  · have e1 : lo + ((0 : Nat) : Int) * 1 = lo := by simp
    have e2 : (((hi - lo).toNat : Nat) : Int) - ((0 : Nat) : Int) = Builtin.Range.rangeSize lo hi 1 := by rw [rangeSize_one]; split <;> omega
    show IsRangeIter _ _ (lo + ((0 : Nat) : Int) * 1) ((((hi - lo).toNat : Nat) : Int) - ((0 : Nat) : Int)) 1
    rw [e1, e2]
    exact Heap.get?_push_size _ rfl
  · rw [List.mem_singleton.mp hb]
    exact Nat.le_refl _
theorem pif_range1 {a : Expr} {ta : TA} {p pos : Pos} (hg : Gl X "range") (hm : X.mg "range" = none) (ha : PA X [a] ta) (hs : starEach [a] X.env = [(false, eval a X.env)] := by rfl) : PIf X tg (.Call (.Name "range" p) [a] [] pos) (iRng1 ta) := by
  refine ⟨fun pins s σ H R I h => ?_⟩
  refine Call_ (ld_blt I hg hm boot_range (PyProof.Rows.callWith_type1 (thn (ha.run pos pins s σ H _ I h) fun us s1 ⟨vs, H1, I1, r1, q1⟩ => ?_) hs rfl))
  obtain ⟨j, e, q1, q2, q⟩ := q1
  subst e
  cases r1 with
  | cons r rr =>
    cases rr
    obtain ⟨t, rfl⟩ := r
    exact call_range_1 (range_itf I1 (by omega) (by omega) q1 q2 rfl (by simpa using q))
end
end GX
set_option Elab.async false
set_option linter.all false
set_option maxRecDepth 100000
set_option maxHeartbeats 2000000
namespace GX
open PySem PySem.Spec PyProof.Rows L2 GenW

/-- a generator expression: what is walked, then the table may have grown, then the turns -/

def TblE (P : Addr) : HO := .ext fun h => ∃ ps : Array Value, h.get? P = some { cls := .none, data := .fields ps } ∧ TriplesOk ps.toList
theorem inv_tabE {X : Cx} {pins : List (Addr × Obj)} {σ : L2.St} {H : Hp} {s : Shared} {P : Addr} {ps : Array Value} {h' : Heap} {g' : Array GenState} {d' : Drawn} {t' : Nat} (I : Inv X pins σ H s) (hP : H P = some (TblE P)) (k : ∀ b o, b ≠ P → s.heap.get? b = some o → h'.get? b = some o)
    (hm : h'.get? P = some { cls := .none, data := .fields ps }) (ht : TriplesOk ps.toList) (hg : AllBare g') : Inv X pins σ H { s with heap := h', gens := g', drawn := d', toks := t' } := by
  have nP : ∀ b u, H b = some u → (u ≠ TblE P) → b ≠ P := fun b u e q z => by
    rw [z, hP] at e
    exact q (Option.some.inj e).symm
  have nN : ∀ b, H b = none → b ≠ P := fun b e z => by
    rw [z, hP] at e
    cases e
  refine I.step (g' := g') (d' := d') (ch := []) (fun b hb => absurd hb (by simp)) (fun b o _ _ _ e n => k b o (nN b n) e) (fun b o _ _ _ e n => ⟨o.slots, k b o (nN b n) e⟩)
    (fun b o _ e n => n) (fun b o _ e => ?_) (fun b xs e => e) (fun b o u e => e) (fun b qs e => ⟨#[], by simp [e]⟩) (fun m hn => ?_) (fun b u e => ?_) hg
  · by_cases hb : b = P
    · rw [hb]
      exact ⟨_, hm⟩
    · exact ⟨o, k b o hb e⟩
  · obtain ⟨ob, es, ep, ho, r⟩ := hn
    exact ⟨ob, es, ep, k _ ob (nN _ I.free) ho, r⟩
  · by_cases hb2 : b = P
    · rw [hb2, hP] at e
      cases e
      rw [hb2]
      exact ⟨⟨ps, hm, ht⟩, ⟨_, hm⟩, fun h1 h2 ⟨qs, a, b⟩ st => ⟨qs, st _ a, b⟩⟩
    · refine (I.hok b u e).stay (fun d v hd q => k d v ?_ q) (fun d q => q) fun d xs q => q
      rcases hd with z | z
      · rw [z]
        exact hb2
      · exact nP d _ z (fun z => by cases z)
def tGenx (P : Addr) (wi : TI) (g : TG) (tt : TT) (te : TE) (vs : List Nat) (Yx : List V → V → Hp → Prop) : L2.St → Hp → (List V → Hp → Prop) → Prop := fun σ H cont =>
  wi σ H fun J H1 => H1 P = some (TblE P) ∧ tTurns g tt te vs Yx σ J H1 cont

section
variable {X : Cx} {pins : List (Addr × Obj)} {σ : L2.St} {H : Hp} {s : Shared}
/-- eval of a generator expression -/
theorem genx_made {c P : Addr} {elt tg iter : Expr} {ifs : List Expr} {scope : Scope} {own : List (Str × Nat)} {gpos : Pos} {wi : TI} {g : TG} {tt : TT} {te : TE} {k : Nat} {Yx : List V → V → Hp → Prop} {cont : List V → Hp → Prop} {E : XK}
    (hr : Room k X.A) (hc : X.calm = true) (hN : X.N.Nodup) (TB : GxR.TabB X.base X.mg c P) (hcode : X.env.code = .ref c) (ok : GenOk X.N X.env.scope scope own) (hi : PIf X tg iter wi)
    (hg : ∀ (A : Around) (s : Shared) (H : Hp) (L : Addr) (code : Value) (bi : Addr) (pn : List (Addr × Obj)), PG (gCx X A s H E scope L code bi pn) tg g)
    (ht : ∀ (A : Around) (s : Shared) (H : Hp) (L : Addr) (code : Value) (bi : Addr) (pn : List (Addr × Obj)), Room k (A.deeper (gEnv X scope L code bi)) → PTs (gCx X A s H E scope L code bi pn) ifs tt)
    (he : ∀ (A : Around) (s : Shared) (H : Hp) (L : Addr) (code : Value) (bi : Addr) (pn : List (Addr × Obj)), Room k (A.deeper (gEnv X scope L code bi)) → PE (gCx X A s H E scope L code bi pn) elt te)
    (hs : ∀ v, genFold iter X.env v = pure v) (I : Inv X pins σ H s) (h : tGenx P wi g tt te (own.map (·.2)) Yx σ H cont) :
    wpAny (model X.prog X.w) X.A (eval (.GeneratorExp elt [⟨tg, iter, ifs, 0⟩] scope gpos) X.env) (fun u s' => ∃ H1 sc, Inv X pins σ H1 sc ∧ sc.heap.objs.size ≤ s'.heap.objs.size ∧ GMadeC X.prog X.w (k + 1) X.stack H1 sc Yx cont E u s') X.xe s := by
  have hfree : ∀ y ∈ scope.names, y.2 = .free → ∃ c, X.env.cells.lookup y.1 = some c := fun y hy e => by
    rcases ok.blk.free y hy e with k | k
    · exact I.ok.has _ (.inl k)
    · exact I.ok.has _ (.inr k)
  refine wpAny_GeneratorExp_make ok.co (closure_ok hfree) ok.cell ok.dot ok.blk.kind (by have := hr.dp; omega) ?_ hs
  refine thn (hi.run pins s σ H _ I h) fun xv s1 ⟨J, H1, I1, ⟨hP, q1⟩, hit⟩ => ?_
  refine thn hit fun itv s2 ⟨it, fp, tn, eit, I2, gen2, kp2, T, st2, f2⟩ => ?_
  subst eit
  refine ⟨I2.nolimit, ?_⟩
  obtain ⟨⟨ps, hPs, ht3⟩, _⟩ := I1.hok P _ hP
  have hP2 : s2.heap.get? P = some { cls := .none, data := .fields ps } := kp2 P _ hPs
  have cd : PySem.W.CodeHd s2.heap c P := TB.code.keeps fun b u e => I2.bk b u e
  have sz12 : s1.heap.objs.size ≤ s2.heap.objs.size := by
    cases hz : s1.heap.objs.size with
    | zero => exact Nat.zero_le _
    | succ n =>
      have hlt : P < s1.heap.objs.size := Heap.lt_size hPs
      by_cases hle : s1.heap.objs.size ≤ s2.heap.objs.size
      · rw [hz] at hle; exact hle
      · obtain ⟨o, e, _⟩ := T.obj _ _ st2 it T.mem
        have h1 := Heap.lt_size e
        have h2 := f2 it T.mem
        exact absurd (Nat.lt_of_le_of_lt h2 h1) (by omega)
  have cont' : ∀ (code : Value) (h3 : Heap) (tk : Nat) (ps' : Array Value), Heap.ExtBut P s2.heap h3 → s2.heap.objs.size ≤ h3.objs.size → h3.get? P = some { cls := .none, data := .fields ps' } → (∃ more, ps' = ps ++ more) → TriplesOk ps'.toList →
      wpAny (model X.prog X.w) X.A (builtinsFor X.env.globals X.env.builtins) (fun bi s₄ =>
        ∀ h', h'.Ns s₄.heap.objs.size (fun y => if y = ".0" then some (Value.ref it) else none) → Heap.SameBut s₄.heap.objs.size (s₄.heap.push { cls := .type "frame", data := .dict #[] }) h' →
          ∃ H1' sc, Inv X pins σ H1' sc ∧ sc.heap.objs.size ≤ (h'.push { cls := .type "generator", data := .fields #[.int s₄.gens.size 0, .str "<genexpr>" (s₄.toks + 1), .str (X.env.qual ++ "<genexpr>") (s₄.toks + 1 + 1)] }).objs.size ∧
            GMadeC X.prog X.w (k + 1) X.stack H1' sc Yx cont E (.ref h'.objs.size) { s₄ with
              gens := s₄.gens.push (.fresh (.compStart (.GeneratorExp elt [⟨tg, iter, ifs, 0⟩] scope gpos) 0 (.ref it) .none (gEnv X scope s₄.heap.objs.size code bi))),
              toks := s₄.toks + 1 + 1 + 1,
              heap := h'.push { cls := .type "generator", data := .fields #[.int s₄.gens.size 0, .str "<genexpr>" (s₄.toks + 1), .str (X.env.qual ++ "<genexpr>") (s₄.toks + 1 + 1)] } }) X.xe { s2 with heap := h3, toks := tk } := by
    intro code h3 tk ps' hx hsz hP3 hmore htr
    obtain ⟨bm, ob, e1, e2, e3, e4, e5, e6, e7, e8⟩ := TB.bm
    have hcP : cStatics ≠ P := fun e => by
      obtain ⟨_, hns, _⟩ := I1.nolimit
      obtain ⟨o', es, ep, ho, hd, _⟩ := hns
      rw [e, hPs] at ho
      cases ho
      cases hd
    have keep3 : ∀ b u, b ≠ P → s1.heap.get? b = some u → h3.get? b = some u := fun b u hb e => hx b u hb (kp2 b u e)
    refine wpAny_builtinsFor (m := X.mg) (by rw [I1.ok.glob]; exact (I2.mod.glob.keeps I2.bk).extBut hx TB.gP) e1 e2 (keep3 _ _ e4 (I1.bk _ _ e5)) e6 e7 e8 ?_
    intro h' hn' hs'
    -- the state behind: s5
    have szL : h'.objs.size = h3.objs.size + 1 := by rw [hs'.1]; exact Heap.size_push ..
    obtain ⟨more, em⟩ := hmore
    generalize hgo : ({ cls := .type "generator", data := .fields #[.int s2.gens.size 0, .str "<genexpr>" (tk + 1), .str (X.env.qual ++ "<genexpr>") (tk + 1 + 1)] } : Obj) = go
    have goC : go.cls = .type "generator" := by rw [← hgo]
    have goD : go.data = .fields #[.int s2.gens.size 0, .str "<genexpr>" (tk + 1), .str (X.env.qual ++ "<genexpr>") (tk + 1 + 1)] := by rw [← hgo]
    have goS : go.slots = #[] := by rw [← hgo]
    have goN : NoCell go := fun v z => by rw [goD] at z; cases z
    have goP : (h'.push go).get? h'.objs.size = some go := by rw [← hgo]; exact Heap.get?_push_size _ rfl
    have keep5 : ∀ b u, b ≠ P → s1.heap.get? b = some u → (h'.push go).get? b = some u := fun b u hb e =>
      Heap.get?_push_of_some _ (hs'.extBut b u (fun z => by
        have h1 := Heap.lt_size e
        rw [z] at h1
        have h2 : h3.objs.size < s1.heap.objs.size := h1
        omega) (Heap.get?_push_of_some _ (keep3 b u hb e)))
    have keep5' : ∀ b u, b ≠ P → s2.heap.get? b = some u → (h'.push go).get? b = some u := fun b u hb e =>
      Heap.get?_push_of_some _ (hs'.extBut b u (fun z => by
        have h1 := Heap.lt_size e
        rw [z] at h1
        have h2 : h3.objs.size < s2.heap.objs.size := h1
        omega) (Heap.get?_push_of_some _ (hx b u hb e)))
    have hP5 : (h'.push go).get? P = some { cls := .none, data := .fields ps' } :=
      Heap.get?_push_of_some _ (hs'.extBut P _ (fun z => by
        have h1 := Heap.lt_size hP3
        rw [z] at h1
        exact Nat.lt_irrefl _ h1) (Heap.get?_push_of_some _ hP3))
    have J5 := inv_tabE (h' := h'.push go) (g' := s2.gens.push (.fresh (.compStart (.GeneratorExp elt [⟨tg, iter, ifs, 0⟩] scope gpos) 0 (.ref it) .none (gEnv X scope h3.objs.size code builtinsNs)))) (d' := s2.drawn) (t' := tk + 1 + 1 + 1) I1 hP keep5
      hP5 htr (AllBare.push (by rw [gen2]; exact I1.bare) rfl)
    refine ⟨H1, s1, I1, by show s1.heap.objs.size ≤ (h'.push go).objs.size; rw [Heap.size_push]; omega, h'.objs.size, s2.gens.size, _, go, rfl, by omega, by show h'.objs.size < (h'.push go).objs.size; rw [Heap.size_push]; exact Nat.lt_succ_self _, goP, goN, ⟨go, _, _, goP, goC, goD, goS⟩, Array.getElem?_push_size .., I2.os.trans I1.os.symm, J5.bare, J5.nolimit, ?_⟩
    intro C Aw S s2w hrw hfr hS hk2 hSo hos hba
    have lt1L : s1.heap.objs.size ≤ h3.objs.size := Nat.le_trans sz12 hsz
    have nN1 : ∀ b, H1 b = none → b ≠ P := fun b e z => by
      rw [z, hP] at e
      cases e
    have hPlt : P < s1.heap.objs.size := Heap.lt_size hPs
    have kp1 : ∀ b u, b ≠ P → s1.heap.get? b = some u → s2w.heap.get? b = some u := fun b u hb e => hk2 b u (keep5 b u hb e)
    have hPw : s2w.heap.get? P = some { cls := .none, data := .fields ps' } := hk2 _ _ hP5
    have un : Un (frs X.stack) [] H1 H1 s1.heap s2w.heap := {
      keep := fun b o q n _ _ => kp1 b o (nN1 b n) q
      slot := fun b o q n _ _ => ⟨o.slots, kp1 b o (nN1 b n) q⟩
      free := fun b o q n _ => n
      there := fun b o q _ => by
        by_cases hb : b = P
        · exact ⟨_, by rw [hb]; exact hPw⟩
        · exact ⟨o, kp1 b o hb q⟩
      tups := fun b xs q => q
      frzs := fun b o v q => q
      tbls := fun b qs q => ⟨#[], by simp [q]⟩ }
    have hLn : H1 h3.objs.size = none := I1.hok.fresh lt1L
    have hnsw : s2w.heap.Ns h3.objs.size (fun y => if y = ".0" then some (Value.ref it) else none) :=
      (show (h'.push go).Ns h3.objs.size _ from Heap.Ns.push (show h'.Ns h3.objs.size _ from hn') go).keeps hk2
    have Ig : Inv (gCx X Aw s1 H1 E scope h3.objs.size code builtinsNs []) [] (wipe σ (own.map (·.2))) H1 s2w :=
      inv_startGx (m := fun y => if y = ".0" then some (Value.ref it) else none) I1 ok hN rfl hrw.hd hfr lt1L hnsw un (J5.hok.kept hk2) hos hba hLn
    -- what is younger
    have young : ∀ b, s1.heap.objs.size ≤ b → b ≠ h3.objs.size → H1 b = none ∧ b ≠ h3.objs.size ∧ b ∉ frs X.stack ∧ s1.heap.objs.size ≤ b ∧ ∀ y c, (cloFrom X.env.cells scope.names []).lookup y = some c → c ≠ b := fun b hb hbL => by
      refine ⟨?_, hbL, fun hm => ?_, hb, fun y c e z => ?_⟩
      · exact I1.hok.fresh hb
      · rcases List.mem_cons.mp (I1.stkSub b hm) with z | z
        · have := I1.lt
          rw [z] at hb
          exact absurd (Nat.lt_of_lt_of_le this hb) (Nat.lt_irrefl _)
        · exact I1.nofs hb z
      · obtain ⟨v, q⟩ := Ig.cell y c e
        have hc : X.env.cells.lookup y = some c := by
          rcases cloFrom_mem (PySem.mem_of_lookup e) with hm | ⟨h1, h2⟩
          · cases hm
          · obtain ⟨c1, hc⟩ := hfree _ h1 rfl
            have hc : X.env.cells.lookup y = some c1 := hc
            have e2 : c = c1 := by
              rw [h2, hc] <;> rfl
            rw [e2]
            exact hc
        obtain ⟨v, q⟩ := I1.cell y c hc
        have := q.lt
        rw [z] at this
        exact absurd (Nat.lt_of_lt_of_le this hb) (Nat.lt_irrefl _)
    have szgo : (h'.push go).objs.size = h3.objs.size + 2 := by rw [Heap.size_push, szL]
    have ha1 : s1.heap.objs.size ≤ h'.objs.size ∧ h'.objs.size ≠ h3.objs.size := ⟨by omega, by omega⟩
    have hS1 : ∀ b, S = some b → s1.heap.objs.size ≤ b ∧ b ≠ h3.objs.size ∧ b ≠ h'.objs.size := fun b e => by
      have z : (h'.push go).objs.size ≤ b := hS b e
      refine ⟨by omega, Nat.ne_of_gt (by omega), Nat.ne_of_gt (by omega)⟩
    have hea : s2w.heap.get? h'.objs.size = some go := hk2 _ _ goP
    obtain ⟨oS, cS0, hoS⟩ := hSo
    have Ip : Inv (gCx X Aw s1 H1 E scope h3.objs.size code builtinsNs [(h'.objs.size, go)]) (pinsS S oS ++ []) (wipe σ (own.map (·.2))) H1 s2w := by
      have Iok := Ig.ok
      refine ⟨⟨Iok.mod, Iok.kind, Iok.glob, Iok.blt, Iok.above, Iok.inj, Iok.has, Iok.cab, Iok.hd, Iok.frames, Iok.stk, Iok.exf, Iok.bs, Iok.bsz, Iok.noex, Iok.exfs, Iok.funs, Iok.frf⟩, Ig.os, Ig.bare, Ig.base, Ig.loc, Ig.cell, Ig.free, Ig.freeC, fun p hp => ?_, Ig.hok, Ig.len⟩
      rcases List.mem_append.mp hp with z | z
      · rw [List.mem_singleton.mp z]
        obtain ⟨y1, y2, y3, _, _⟩ := young _ ha1.1 ha1.2
        exact ⟨hea, y1, y2, y3, goN⟩
      · rw [List.append_nil] at z
        obtain ⟨e1, e2⟩ := mem_pinsS z
        obtain ⟨q1, q2, q3⟩ := hS1 _ e1
        obtain ⟨y1, y2, y3, _, _⟩ := young _ q1 q2
        obtain ⟨g1, g2⟩ := hoS _ e1
        rw [e2]
        exact ⟨g1, y1, y2, y3, g2⟩
    have hGI : GIc (gCx X Aw s1 H1 E scope h3.objs.size code builtinsNs [(h'.objs.size, go)]) S C [] [] (wipe σ (own.map (·.2))) H1 s2w := ⟨oS, cS0, Ip⟩
    have isgen : ∀ h : Heap, h.get? h'.objs.size = some go → h.IsGen h'.objs.size s2.gens.size := fun h e => ⟨go, _, _, e, goC, goD, goS⟩
    have pinned : ∀ {pins' : List (Addr × Obj)} {s' : Shared} {σ' : L2.St} {H' : Hp}, Inv (gCx X Aw s1 H1 E scope h3.objs.size code builtinsNs [(h'.objs.size, go)]) pins' σ' H' s' → s'.heap.IsGen h'.objs.size s2.gens.size := fun {pins' s' σ' H'} J =>
      isgen _ (J.pin (h'.objs.size, go) (List.mem_append_left _ (List.mem_singleton.mpr rfl))).1
    have hfpL : ∀ b ∈ fp, s1.heap.objs.size ≤ b ∧ b ≠ h3.objs.size ∧ b ≠ h'.objs.size ∧ b < s2.heap.objs.size := fun b hb => by
      obtain ⟨o, e, _⟩ := T.obj _ _ st2 b hb
      have h1 : (b : Nat) < s2.heap.objs.size := Heap.lt_size e
      have h2 : s1.heap.objs.size ≤ (b : Nat) := f2 b hb
      refine ⟨h2, Nat.ne_of_lt (Nat.lt_of_lt_of_le h1 hsz), Nat.ne_of_lt (Nat.lt_of_lt_of_le h1 (show s2.heap.objs.size ≤ h'.objs.size by omega)), h1⟩
    have stw : tn 0 s2w.heap := T.keep _ _ _ st2 fun b hb o e => hk2 b o (keep5' b o (Nat.ne_of_gt (Nat.lt_of_lt_of_le hPlt (f2 b hb))) e)
    obtain ⟨W, ⟨m0, w0⟩, turn⟩ := q1
    have hr1 : Room k (Aw.deeper (gEnv X scope h3.objs.size code builtinsNs)) := hrw.deeper _
    have loop := seg_turns (Xg := gCx X Aw s1 H1 E scope h3.objs.size code builtinsNs [(h'.objs.size, go)]) (A := Aw) (R := RC X.prog X.w X.stack H1 s1 S h'.objs.size s2.gens.size C cont E) (Y := YC X.prog X.w X.stack H1 s1 S h'.objs.size s2.gens.size C Yx) (S := S) (C := C) (Yx := Yx)
      (elt := elt) (tg := tg) (iter := iter) (ifs := ifs) (scope := scope) (pos := gpos) (it := it) (fp := fp) (tn := tn) (J := J) (cont := cont) (W := W) (σ := σ) (vs := own.map (·.2))
      rfl rfl ok.co (fun p hp e => by
        rw [List.mem_singleton.mp hp] at e
        exact (hS1 _ e).2.2 rfl) (fun a e => by
        obtain ⟨q1, q2, q3⟩ := hS1 _ e
        obtain ⟨y1, y2, y3, y4, y5⟩ := young _ q1 q2
        exact ⟨y4, y2, y5⟩) (fun b hb e => by
        have z : (h'.push go).objs.size ≤ b := hS b e
        have h9 := (hfpL b hb).2.2.2
        exact absurd (Nat.lt_of_lt_of_le h9 (Nat.le_trans (show s2.heap.objs.size ≤ (h'.push go).objs.size by omega) z)) (Nat.lt_irrefl _)) (fun b hb => by
        obtain ⟨q1, q2, q3, q4⟩ := hfpL b hb
        obtain ⟨y1, y2, y3, y4, y5⟩ := young _ q1 q2
        exact ⟨y2, y3, y4, y5, fun p hp => by
          rw [List.mem_singleton.mp hp]
          exact Ne.symm q3⟩) T (hg _ _ _ _ _ _ _) (ht _ _ _ _ _ _ _ hr1) (he _ _ _ _ _ _ _ hr1) turn
      (fun n s₀ ys H' s' hn hI hc => by
        obtain ⟨a1, oS', c', eS'⟩ := hI.at_
        obtain ⟨_, _, J'⟩ := hI
        exact .inl ⟨.inr rfl, ys, H', J'.os, J'.bare, J'.base, J'.hok, fun b e => (a1 b e).1, ⟨oS', c', eS'⟩, by omega, hc⟩)
      (fun n s₀ e s' hx => wpAny_mono (show wpAny (model X.prog X.w) (Aw.deeper (gEnv X scope h3.objs.size code builtinsNs)) (leaving (gEnv X scope h3.objs.size code builtinsNs) e)
        (fun _ s'' => CX X.prog X.w X.stack H1 s1 E e s'' ∧ ∀ p ∈ [(h'.objs.size, go)], s''.heap.get? p.1 = some p.2) (fun _ _ => False) s' from hx) (fun _ s'' q => .inr ⟨e, rfl, q.1, isgen _ (q.2 (h'.objs.size, go) (List.mem_singleton.mpr rfl))⟩) fun _ _ q => q)
      (fun n s₀ ys ip σ2 H' x v s' kap hn hip rv hI hyx hk => by
        obtain ⟨a1, oS', c', eS'⟩ := hI.at_
        obtain ⟨_, _, J'⟩ := hI
        exact ⟨ys, x, H', hn, rv, J'.os, J'.bare, J'.nolimit, pinned J', J'.base, J'.hok, fun b e => (a1 b e).1, ⟨oS', c', eS'⟩, hyx, hk⟩)
      m0 0 sizeLine [] s2w s2w _ (Nat.add_zero _) w0 hGI stw (fun b hb => by
        exact I1.hok.fresh (f2 b hb))
    show Seg _ Aw _ _ _ s2w _ ((compStart (.GeneratorExp elt [⟨tg, iter, ifs, 0⟩] scope gpos) 0 (.ref it) .none (gEnv X scope h3.objs.size code builtinsNs)).onRaise (leaving (gEnv X scope h3.objs.size code builtinsNs))) [] s2w
    unfold compStart
    rw [Sem.onRaise_eq_wrap]
    show Seg _ Aw _ _ _ s2w _ ((ask >>= _).wrap _ _ _ _) [] s2w
    refine seg_bind_wrap (wpAny_askSetting ?_)
    split
    · exact seg_again rfl loop
    · first
        | exact seg_bind_wrap (wpAny_rule (seg_bind_wrap (wpAny_standAt (seg_bind_wrap (T.self _ 0 s2w _ _ stw (seg_again rfl loop))))))
        | (refine seg_bind_wrap (wpAny_rule ?_); show Seg _ Aw _ _ _ s2w _ ((standAt iter.pos >>= _).wrap _ _ _ _) [] s2w; exact seg_bind_wrap (wpAny_standAt (seg_bind_wrap (T.self _ 0 s2w _ _ stw (seg_again rfl loop)))))
  cases hf : codeAmong gpos ps.toList with
  | none =>
    refine wpAny_genexprCodeX hcode (cd.code hP2 ht3) (cd.tab hP2) hf fun c' h' tk hx hge hlt hco' _ htab' _ => ?_
    obtain ⟨o1, vs, f1, tf, fl, tg, inF, tx, tt, op, _, _, _, _, _, _, _, _, _, htr, _⟩ := hco'
    exact cont' _ h' tk _ hx (Nat.le_trans hge (Nat.le_of_lt hlt)) htab'.2 ⟨_, rfl⟩ htr
  | some cv =>
    refine wpAny_genexprCode_hit hcode (cd.code hP2 ht3) hf ?_
    exact cont' cv s2.heap s2.toks ps (Heap.ExtBut.refl _ _) (Nat.le_refl _) hP2 ⟨#[], by simp⟩ ht3
end
end GX
set_option Elab.async false
set_option linter.all false
set_option maxRecDepth 100000
set_option maxHeartbeats 2000000
namespace GX
open PySem PySem.Spec PyProof.Rows L2 GenW

/-! ### the consumer with a list -/
def CL : List V → Obj → Prop := fun ys o => ∃ (acc : Array Value) (c : Nat), o = lstObj acc c ∧ Vals ys acc.toList
theorem lst_nocell {acc : Array Value} {c : Nat} : NoCell (lstObj acc c) := fun v q => by cases q
theorem slept_push {S : Addr} {s : Shared} {acc : Array Value} {c : Nat} {G : Array GenState} {ys : List V} {x : V} {v : Value} (hS : s.heap.get? S = some (lstObj acc c)) (hG : AllBare G) (rr : Vals ys acc.toList) (rv : RelV x v) :
    SleptC (some S) CL (ys ++ [x]) s { s with gens := G, heap := s.heap.update S (Obj.mapSeq (·.push v)) } where
  os := rfl
  bare := hG
  keep := fun b o hb e => (Heap.get?_update_other _ _ (fun z => hb (by rw [z]))).trans e
  own := ⟨Obj.mapSeq (·.push v) (lstObj acc c), ⟨acc.push v, _, rfl, by rw [Array.toList_push]; exact rr.append (.cons rv .nil)⟩, fun b hb => by
    cases hb
    exact ⟨Heap.get?_update_self _ hS rfl, fun v q => by cases q⟩⟩
theorem drainL {P : Program} {w : World} {outer : List Env} {H : Hp} {sc : Shared} {Q : List V → Hp → Prop} {EX : XK} {Yx : List V → V → Hp → Prop} {A : Around} {R : Result → Shared → Prop} {S a : Addr} {g : Nat} {res : Value}
    (hh : A.handled = none) (hd : A.depth < recursionLimit) (hSa : S ≠ a) (hSc : S ≠ cStatics)
    (hend : ∀ s' acc c H' ys, s'.heap.get? S = some (lstObj acc c) → Vals ys acc.toList → ys.length ≤ sizeLine → s'.os = sc.os → AllBare s'.gens → Un (frs outer) [] H H' sc.heap s'.heap → HOk P w H' s'.heap → H' S = none → Q ys H' → R (.ok (.ret res)) s')
    (hexc : ∀ e s', CX P w outer H sc EX e s' → NotStop (model P w) e s'.heap ∧ R (.error e) (s'.setGen g .finished)) :
    ∀ (m : Nat) (s : Shared), s.heap.IsGen a g → s.heap.NoLimit →
      (∃ gs, s.gens[g]? = some gs ∧ gs.Goes (model P w) A.in1.in1 (RC P w outer H sc (some S) a g CL Q EX) (YC P w outer H sc (some S) a g CL Yx) m (.send .none) (s.setGen g .running)) →
      codeAny (model P w) A (.builtin "list.extend.loop" ⟨[.ref S, .ref a, res], []⟩) R s := by
  have goes : ∀ {gs : GenState} {B : Around} {n : Nat} {r : Resume} {s : Shared}, gs.Goes (model P w) B (RC P w outer H sc (some S) a g CL Q EX) (YC P w outer H sc (some S) a g CL Yx) n r s →
      gs.Goes (model P w) B (fun n s₀ r s1 => ((r = .ok (.ret .none) ∨ r = .ok .next) ∧ (∃ (ys : List V) (H' : Hp), s1.os = sc.os ∧ AllBare s1.gens ∧ Un (frs outer) [] H H' sc.heap s1.heap ∧ HOk P w H' s1.heap ∧ (∀ b, some S = some b → H' b = none) ∧ (∃ oS, CL ys oS ∧ ∀ b, some S = some b → s1.heap.get? b = some oS ∧ NoCell oS) ∧ ys.length ≤ sizeLine ∧ Q ys H')) ∨
        ∃ e, r = .error e ∧ (CX P w outer H sc EX e s1 ∧ s1.heap.IsGen a g)) (YC P w outer H sc (some S) a g CL Yx) n r s := fun h => h
  intro m
  induction m with
  | zero =>
    intro s hg hl ⟨gs, hgs, hgo⟩
    refine codeAny_builtin F.entry_extend_loop ?_
    rw [Around.under_plainId F.plain_extend_loop _]
    show wpAny _ A.in1 (pyNext (.ref a) >>= _) _ _ s
    refine wpAny_bind (next_genG (A := A.in1) hh hl hd hg hgs (goes hgo) (fun v s₁ gs' hbare hv => ?_) (fun s₁ hp h' hk => ?_) fun e s₁ he => ?_)
    · obtain ⟨ys, x, H', hn, rv, os1, hb1, hl1, hg1, un, hok, hSn, ⟨oS, ⟨acc, c, e, rr⟩, eS⟩, hyx, hk⟩ := hv
      have hS1 := (eS S rfl).1
      rw [e] at hS1
      exact False.elim (hk _ (slept_push hS1 hb1 rr rv))
    · obtain ⟨ys, H', os1, hb1, un, hok, hSn, ⟨oS, ⟨acc, c, e, rr⟩, eS⟩, hle, hQ⟩ := hp
      have eS' := (eS S rfl).1
      rw [e] at eS'
      exact wpAny_pure (hend _ acc c H' ys (hk _ _ eS') rr hle os1 (allBare_setGen hb1 rfl) (un.trans (Un.kept hk)) (hok.kept hk) (hSn S rfl) hQ)
    · obtain ⟨hc, hg1⟩ := he
      obtain ⟨q1, q2⟩ := hexc e s₁ hc
      exact ⟨hg1, q1, q2⟩
  | succ m ih =>
    intro s hg hl ⟨gs, hgs, hgo⟩
    have hgl : g < s.gens.size := (Array.getElem?_eq_some_iff.mp hgs).1
    refine codeAny_builtin F.entry_extend_loop ?_
    rw [Around.under_plainId F.plain_extend_loop _]
    show wpAny _ A.in1 (pyNext (.ref a) >>= _) _ _ s
    refine wpAny_bind (wpAny_gsz (n := g + 1) hgl (next_genG (A := A.in1) hh hl hd hg hgs (goes hgo) (fun v s₁ gs' hbare hv => ?_) (fun s₁ hp h' hk => ?_) fun e s₁ he => ?_))
    · intro hsz
      obtain ⟨ys, x, H', hn, rv, os1, hb1, hl1, hg1, un, hok, hSn, ⟨oS, ⟨acc, c, e, rr⟩, eS⟩, hyx, hk⟩ := hv
      have hS1 := (eS S rfl).1
      rw [e] at hS1
      have hasz : acc.size = ys.length := by
        have e1 := rr.length
        have e2 : acc.toList.length = acc.size := by simp
        omega
      have hasz' : acc.size < sizeLine := by omega
      show wpAny _ A.in1 (updateSeq S (·.push v) >>= _) _ _ _
      refine wpAny_bind ?_
      refine wpAny_updateSeq hS1 rfl (wpAny_pure ⟨plainId_quiet F.plain_extend_loop _, ?_⟩) (Nat.le_of_lt hasz') (by show (acc.push v).size ≤ sizeLine + 1; rw [Array.size_push]; omega)
      have keep3 : ∀ b o, b ≠ S → s₁.heap.get? b = some o → (s₁.heap.update S (Obj.mapSeq (·.push v))).get? b = some o := fun b o hbS e => (Heap.get?_update_other _ _ (Ne.symm hbS)).trans e
      have hsz1 : g < s₁.gens.size := by
        have q : (s₁.setGen g gs').gens.size = s₁.gens.size := setGen_size _ _ _
        have hsz' : g + 1 ≤ (s₁.setGen g gs').gens.size := hsz
        omega
      refine ih { s₁.setGen g gs' with heap := s₁.heap.update S (Obj.mapSeq (·.push v)) } ?_ ?_ ⟨gs', setGen_at hsz1, ?_⟩
      · obtain ⟨o, nm, qn, ho, r⟩ := hg1
        exact ⟨o, nm, qn, keep3 a o (Ne.symm hSa) ho, r⟩
      · obtain ⟨mc, hns, hnn⟩ := hl1
        exact ⟨mc, hns.at' fun o e => keep3 _ o (Ne.symm hSc) e, hnn⟩
      · exact hk _ (slept_push hS1 (allBare_setGen (s := s₁.setGen g gs') (allBare_setGen hb1 hbare) rfl) rr rv)
    · intro hsz
      obtain ⟨ys, H', os1, hb1, un, hok, hSn, ⟨oS, ⟨acc, c, e, rr⟩, eS⟩, hle, hQ⟩ := hp
      have eS' := (eS S rfl).1
      rw [e] at eS'
      exact wpAny_pure (hend _ acc c H' ys (hk _ _ eS') rr hle os1 (allBare_setGen hb1 rfl) (un.trans (Un.kept hk)) (hok.kept hk) (hSn S rfl) hQ)
    · obtain ⟨hc, hg1⟩ := he
      obtain ⟨q1, q2⟩ := hexc e s₁ hc
      exact ⟨hg1, q1, fun _ => q2⟩
end GX
set_option Elab.async false
set_option linter.all false
set_option maxRecDepth 100000
set_option maxHeartbeats 2000000
namespace GX
open PySem PySem.Spec PyProof.Rows L2 GenW

section
variable {P : Program} {w : World} {outer : List Env} {H : Hp} {sc s : Shared} {Q : List V → Hp → Prop} {EX : XK} {Yx : List V → V → Hp → Prop} {A : Around} {k : Nat} {u : Value} {E : Value → Shared → Prop}
/-- what is behind a drained generator: its list at S -/
structure Drained (P : Program) (w : World) (outer : List Env) (H : Hp) (sc s : Shared) (Q : List V → Hp → Prop) (acc : Array Value) (s' : Shared) : Prop where
  ex : ∃ (S : Addr) (c : Nat) (H' : Hp) (ys : List V), s.heap.objs.size ≤ S ∧ s'.heap.get? S = some (lstObj acc c) ∧ Vals ys acc.toList ∧ ys.length ≤ sizeLine ∧ s'.os = sc.os ∧ AllBare s'.gens ∧ Un (frs outer) [] H H' sc.heap s'.heap ∧ HOk P w H' s'.heap ∧ H' S = none ∧ Q ys H'
theorem collect_gen {Q' : List Value → Shared → Prop} (hr : Room (k + 4) A) (hfr : A.frames = some outer) (h : GMadeC P w k outer H sc Yx Q EX u s)
    (hQ : ∀ s' acc, Drained P w outer H sc s Q acc s' → Q' acc.toList s')
    (hexc : ∀ e s' g, CX P w outer H sc EX e s' → NotStop (model P w) e s'.heap ∧ E e (s'.setGen g .finished)) :
    wpAny (model P w) A (collect u) Q' E s := by
  obtain ⟨a, g, c, go, rfl, ha1, ha2, hgo, hgoN, hg, hgs, hos, hb, hl, wake⟩ := h
  have hSa : s.heap.objs.size ≠ a := Nat.ne_of_gt ha2
  have hcl : cStatics < s.heap.objs.size := let ⟨_, hn, _⟩ := hl; hn.lt
  have hSc : s.heap.objs.size ≠ cStatics := Nat.ne_of_gt hcl
  unfold collect
  refine wpAny_bind (wpAny_runValue (codeAny_builtin F.entry_proto_collect ?_))
  rw [Around.under_plainId F.plain_proto_collect _]
  show wpAny _ A.in1 (newList [] >>= fun l => again (.builtin "list.__iadd__" ⟨[l, .ref a], []⟩)) _ _ s
  refine wpAny_bind (wpAny_newObj_type ?_)
  refine wpAny_pure ⟨plainId_quiet F.plain_list_iadd _, codeAny_builtin F.entry_list_iadd ?_⟩
  rw [Around.under_plainId F.plain_list_iadd _]
  show wpAny _ A.in1 (Builtin.List.listExtendWith (.ref s.heap.objs.size) (.ref a) (.ref s.heap.objs.size)) _ _ _
  unfold Builtin.List.listExtendWith
  have hS : (s.heap.push { cls := .type "list", data := .seq ([] : List Value).toArray }).get? s.heap.objs.size = some { cls := .type "list", data := .seq ([] : List Value).toArray } := Heap.get?_push_size _ rfl
  have up : ∀ (h : Heap) (f : Obj → Obj), (∀ b o, s.heap.get? b = some o → h.get? b = some o) → ∀ b o, s.heap.get? b = some o → (h.update s.heap.objs.size f).get? b = some o := fun h f q b o e =>
    (Heap.get?_update_other _ _ (Ne.symm (Nat.ne_of_lt (Heap.lt_size e)))).trans (q b o e)
  have k1 : ∀ b o, s.heap.get? b = some o → (s.heap.push { cls := .type "list", data := .seq ([] : List Value).toArray }).get? b = some o := fun b o e => Heap.get?_push_of_some _ e
  have gty : ∀ {h : Heap}, (∀ b o, s.heap.get? b = some o → h.get? b = some o) → h.IsGen a g := fun {h} q => hg.keeps q
  refine wpAny_bind (wpAny_typeOf (Heap.IsGen.typeIs (s := { s with heap := _ }) (gty k1)) ?_)
  have h1 : Builtin.List.listSameRef (.ref s.heap.objs.size) (.ref a) = false := by simp [Builtin.List.listSameRef, hSa]
  have h2 : (Value.type "generator" == Value.type "list") = false := by decide
  have h3 : (Value.type "generator" == Value.type "tuple") = false := by decide
  simp only [h1, h2, h3, Bool.or_false, Bool.false_eq_true, if_false]
  refine wpAny_bind (wpAny_pyIter_gen (s := { s with heap := _ }) (gty k1) ?_)
  refine wpAny_bind (wpAny_holding ?_)
  unfold Builtin.List.listLengthHint
  refine wpAny_bind (wpAny_specialOf (Heap.IsGen.typeIs (s := { s with heap := _ }) (gty k1)) F.gen_no_len ?_)
  show wpAny _ A.in1 (specialOf (Value.ref a) (Str.ofString "__length_hint__") >>= _) _ _ _
  refine wpAny_bind (wpAny_specialOf (Heap.IsGen.typeIs (s := { s with heap := _ }) (gty k1)) F.gen_no_hint ?_)
  refine wpAny_pure ?_
  show wpAny _ A.in1 (rule "list.extend.makes-room" >>= fun _ => Builtin.List.listTouch (.ref s.heap.objs.size) >>= fun _ =>
    again (.builtin "list.extend.loop" ⟨[.ref s.heap.objs.size, .ref a, .ref s.heap.objs.size], []⟩)) _ _ _
  refine wpAny_bind (wpAny_rule ?_)
  refine wpAny_bind ?_
  show wpAny _ A.in1 (updateSeq s.heap.objs.size (·.push .none) >>= fun _ => updateSeq s.heap.objs.size (·.pop)) _ _ _
  refine wpAny_bind (wpAny_updateSeq hS rfl ?_)
  have hS3 := Heap.get?_update_self (Obj.mapSeq (·.push Value.none)) hS rfl
  refine wpAny_updateSeq (hz := by seq_fits) hS3 rfl ?_
  have hS4 := Heap.get?_update_self (Obj.mapSeq (·.pop)) hS3 rfl
  have k4 := up _ (Obj.mapSeq (·.pop)) (up _ (Obj.mapSeq (·.push Value.none)) k1)
  refine wpAny_pure ⟨plainId_quiet F.plain_extend_loop _, ?_⟩
  refine drainL (P := P) (w := w) (outer := outer) (H := H) (sc := sc) (Q := Q) (EX := EX) (Yx := Yx) (A := A) (g := g) hr.hd (by have := hr.dp; omega) hSa hSc
    (fun s' acc c H' ys q1 q2 q3 q4 q5 q6 q7 q8 q9 => ?_) (fun e s' hc => hexc e s' g hc)
    sizeLine _ (gty k4) (hl.keeps k4) ⟨_, hgs, rfl, ?_⟩
  · show wpAny _ A (load s.heap.objs.size >>= _) _ _ s'
    exact wpAny_bind (wpAny_load q1 (wpAny_pure (hQ s' acc ⟨_, c, H', ys, Nat.le_refl _, q1, q2, q3, q4, q5, q6, q7, q8, q9⟩)))
  · refine wake _ _ (some s.heap.objs.size) _ ⟨hr.hd, ?_, ?_⟩ hfr (fun b hb => by cases hb; exact Nat.le_refl _) k4 ⟨_, ⟨_, _, rfl, .nil⟩, fun b hb => by cases hb; exact ⟨hS4, fun v q => by cases q⟩⟩ hos (allBare_setGen (s := { s with heap := _ }) hb rfl)
    · have := hr.dp
      show A.depth + 3 * k + 5 < _
      omega
    · have := hr.un
      show A.units + 1 + 1 + 16 * k + 200 < _
      omega
theorem code_tuple_gen {Q₁ : Value → Shared → Prop} (hr : Room (k + 5) A) (hfr : A.frames = some outer) (h : GMadeC P w k outer H sc Yx Q EX u s)
    (hQ : ∀ s' acc, Drained P w outer H sc s Q acc s' → Q₁ (.ref s'.heap.objs.size) { s' with heap := s'.heap.push { cls := .type "tuple", data := .seq acc } })
    (hexc : ∀ e s' g, CX P w outer H sc EX e s' → NotStop (model P w) e s'.heap ∧ E e (s'.setGen g .finished)) :
    codeAny (model P w) A (.call (.builtin "tuple.__new__") ⟨[.type "tuple", u], []⟩) (wants Q₁ E) s := by
  have h0 := h
  obtain ⟨a, g, c, go, rfl, ha1, ha2, hgo, hgoN, hg, hgs, hos, hb, hl, wake⟩ := h
  refine codeAny_of_tree ?_
  show wpAny _ A.in1 (do checkBuiltinCall "tuple.__new__" ⟨[.type "tuple", .ref a], []⟩; again (.builtin "tuple.__new__" ⟨[.type "tuple", .ref a], []⟩)) _ _ s
  refine wpAny_bind (wpAny_of_eq (F.newCall_tuple_1 _) (wpAny_pure ⟨plainId_quiet F.plain_tuple_new _, codeAny_builtin F.entry_tuple_new ?_⟩))
  rw [Around.under_plainId F.plain_tuple_new _]
  have hsub := sub_tuple_self
  have hinit := init_tuple_lookup
  have hmh := madeHere_tuple
  have hTI : s.TypeIs (.ref a) "generator" := hg.typeIs
  have hrA : Room (k + 4) A.in1 := ⟨hr.hd, by have := hr.dp; show A.depth + 3 * (k + 4) + 5 < _; omega, by have := hr.un; show A.units + 1 + 16 * (k + 4) + 200 < _; omega⟩
  wp_walk using wpAny_typeOf hTI, collect_gen (A := A.in1) hrA hfr h0
  · intro s' acc hd
    have hz : acc.toList.toArray.size ≤ sizeLine := by
      obtain ⟨S, c, H', ys, _, _, hv, hle, _⟩ := hd.ex
      have e := hv.length
      simp only [Array.toArray_toList]
      have e2 : acc.toList.length = acc.size := by simp
      omega
    show wpAny _ _ (Builtin.Tuple.tupleExact acc.toList.toArray >>= fun v => ret v) _ _ _
    unfold Builtin.Tuple.tupleExact
    refine wpAny_bind (wpAny_newObj_type ?_ hz)
    refine wpAny_pure ?_
    have e : acc.toList.toArray = acc := by simp
    rw [e]
    exact hQ s' acc hd
  · exact hexc
theorem call_tuple_gen {Q' : Value → Shared → Prop} (hr : Room (k + 6) A) (hfr : A.frames = some outer) (h : GMadeC P w k outer H sc Yx Q EX u s)
    (hQ : ∀ s' acc, Drained P w outer H sc s Q acc s' → Q' (.ref s'.heap.objs.size) { s' with heap := s'.heap.push { cls := .type "tuple", data := .seq acc } })
    (hexc : ∀ e s' g, CX P w outer H sc EX e s' → NotStop (model P w) e s'.heap ∧ E e (s'.setGen g .finished)) :
    wpAny (model P w) A (call (.type "tuple") [u]) Q' E s := by
  have hrA : Room (k + 5) A.in1 := ⟨hr.hd, by have := hr.dp; show A.depth + 3 * (k + 5) + 5 < _; omega, by have := hr.un; show A.units + 1 + 16 * (k + 5) + 200 < _; omega⟩
  refine callType_codes (Q₁ := fun obj s₁ => s₁.TypeIs obj "tuple" ∧ Q' obj s₁) F.called_tuple (F.typeCall_tuple_1 _) F.entry_object_init
    (code_tuple_gen (A := A.in1) hrA hfr h (fun s' acc hd => ⟨⟨_, Heap.get?_push_size _ rfl, rfl⟩, hQ s' acc hd⟩) hexc) fun obj s₁ h₁ => ?_
  exact ⟨h₁.1, F.args_object_init_2 obj _, object_init_meets F.called_tuple.init.lookup F.called_tuple.made (by decide) P w A.in1 _ s₁ ⟨h₁.1, rfl, h₁.2⟩⟩
end

/-- an exception that a call let out, in X -/
theorem kin_of_cx {X : Cx} {pins : List (Addr × Obj)} {σ : L2.St} {H : Hp} {sc s' : Shared} {E : XK} {e : Value} (I : Inv X pins σ H sc) (hc : CX X.prog X.w X.stack H sc E e s') : X.K.In s'.heap := by
  obtain ⟨a, B, H', cls, d, _, fl, _, ub, _⟩ := id hc
  refine I.ok.mod.kin.keeps fun b o eb => fl.1 b o (ub.keep b o (I.bs b o eb).1 (I.bs b o eb).2 fun hm => ?_)
  rcases List.mem_cons.mp (I.stkSub b hm) with z | z
  · have h1 := Heap.lt_size eb
    have h2 := Nat.le_trans I.ok.bsz I.ok.above
    rw [z] at h1
    exact absurd (Nat.lt_of_lt_of_le h1 h2) (Nat.lt_irrefl _)
  · exact I.ok.nofr eb z
theorem cx_setGen {P : Program} {w : World} {outer : List Env} {H : Hp} {sc s' : Shared} {E : XK} {e : Value} {g : Nat} (hc : CX P w outer H sc E e s') : CX P w outer H sc E e (s'.setGen g .finished) := by
  obtain ⟨a, B, H', cls, d, z1, fl, z2, ub, z3, z4, z5, z6⟩ := hc
  exact ⟨a, B, H', cls, d, z1, fl, z2, ub, z3, z4, allBare_setGen z5 rfl, z6⟩
section
variable {X : Cx}
theorem pe_tupG {c P : Addr} {elt tg iter : Expr} {ifs : List Expr} {scope : Scope} {own : List (Str × Nat)} {gpos p pos : Pos} {wi : TI} {g : TG} {tt : L2.St → TT} {te : L2.St → TE} {k : Nat} {E : L2.St → XK}
    (hr : Room (k + 7) X.A) (hc : X.calm = true) (hN : X.N.Nodup) (hgl : Gl X "tuple") (hm : X.mg "tuple" = none) (TB : GxR.TabB X.base X.mg c P) (hcode : X.env.code = .ref c) (ok : GenOk X.N X.env.scope scope own) (hi : PIf X tg iter wi)
    (hx : ∀ σ, PassesAt (L2.CX X.prog X.w) X σ (E σ)) (hns : ∀ σ, NoStop X.K (E σ))
    (hg : ∀ (σ : L2.St) (A : Around) (s : Shared) (H : Hp) (L : Addr) (code : Value) (bi : Addr) (pn : List (Addr × Obj)), PG (gCx X A s H (E σ) scope L code bi pn) tg g)
    (ht : ∀ (σ : L2.St) (A : Around) (s : Shared) (H : Hp) (L : Addr) (code : Value) (bi : Addr) (pn : List (Addr × Obj)), Room k (A.deeper (gEnv X scope L code bi)) → PTs (gCx X A s H (E σ) scope L code bi pn) ifs (tt σ))
    (he : ∀ (σ : L2.St) (A : Around) (s : Shared) (H : Hp) (L : Addr) (code : Value) (bi : Addr) (pn : List (Addr × Obj)), Room k (A.deeper (gEnv X scope L code bi)) → PE (gCx X A s H (E σ) scope L code bi pn) elt (te σ))
    (hs : ∀ v, genFold iter X.env v = pure v := by intro _; rfl)
    (hst : starEach [.GeneratorExp elt [⟨tg, iter, ifs, 0⟩] scope gpos] X.env = (false, eval (.GeneratorExp elt [⟨tg, iter, ifs, 0⟩] scope gpos) X.env) :: starEach [] X.env := by rfl) :
    PE X (.Call (.Name "tuple" p) [.GeneratorExp elt [⟨tg, iter, ifs, 0⟩] scope gpos] [] pos)
      (fun σ H Q => tGenx P wi g (tt σ) (te σ) (own.map (·.2)) (fun _ _ _ => True) σ H fun ys H2 => ∀ p, H2 p = none → Q (.ref p) (upd H2 p (.tup ys))) := by
  refine ⟨fun pins s σ H Q I h => ?_⟩
  refine wpAny_Call_Name_kw (ld_blt I hgl hm boot_tuple ?_)
  refine PyProof.Rows.callWith_type1 ?_ hst rfl
  rw [hst]
  show wpAny _ _ (spliced ((false, eval (.GeneratorExp elt [⟨tg, iter, ifs, 0⟩] scope gpos) X.env) :: backTo pos (starEach [] X.env))) _ _ s
  have hr0 : Room k X.A := hr.mono (by omega)
  refine Calls.spliced_cons (thn (genx_made (E := E σ) hr0 hc hN TB hcode ok hi (hg σ) (ht σ) (he σ) hs I h) fun u s1 ⟨H1, sc, I1, hsz, hG⟩ => ?_)
  refine Calls.spliced_nil ?_
  refine call_tuple_gen (k := k + 1) (by have := hr; exact this) I1.ok.frames hG (fun s' acc hd => ?_) fun e s' g hcx => ?_
  · obtain ⟨S, c', H', ys, q0, q1, q2, hl, q3, q4, q5, q6, q7, q8⟩ := hd.ex
    have J : Inv X pins σ H' s' := I1.call' (ch := []) q3 q5 q6 q4 (fun b hb => by simp at hb)
    have hz : acc.size ≤ sizeLine := by
      have e := q2.length
      have e2 : acc.toList.length = acc.size := by simp
      omega
    refine ⟨.ref s'.heap.objs.size, upd H' s'.heap.objs.size (.tup ys), ?_, rfl, q8 _ (J.hok.fresh (Nat.le_refl _))⟩
    have L := J.laid (t' := s'.toks) (a := s'.heap.objs.size) (o := .tup ys) (h' := s'.heap.push { cls := .type "tuple", data := .seq acc }) (fun b o e => Heap.get?_push_of_some _ e) (Nat.le_refl _)
      (show ObjOk X.prog X.w _ _ _ (.tup ys) from ⟨hl, acc.toList, q2, by
        have z := IsTup.new s'.heap acc
        first
          | exact z
          | simpa using z⟩)
    exact L
  · exact ⟨notStop_of (hns σ) (kin_of_cx I1 hcx) hcx, hx σ pins H1 sc e _ I1 (cx_setGen hcx)⟩
end
end GX
set_option Elab.async false
set_option linter.all false
set_option maxRecDepth 100000
set_option maxHeartbeats 2000000
namespace GX
open PySem PySem.Spec PyProof.Rows L2 GenW
/-- the consumer without a list -/
def CN : List V → Obj → Prop := fun _ _ => True
/-- a bool is handed out; where it is `stop` the consumer is done -/
def YB (stop : Bool) (QT : Hp → Prop) : List V → V → Hp → Prop := fun _ x H' => ∃ b, x = .bl b ∧ (b = stop → QT H')
section
variable {P : Program} {w : World} {outer : List Env} {H : Hp} {sc s : Shared} {EX : XK} {QT QF : Hp → Prop} {A : Around} {E : Value → Shared → Prop}
/-- what stands behind -/
structure Behind (P : Program) (w : World) (outer : List Env) (H : Hp) (sc : Shared) (Q : Hp → Prop) (s' : Shared) : Prop where
  ex : ∃ H' : Hp, s'.os = sc.os ∧ AllBare s'.gens ∧ Un (frs outer) [] H H' sc.heap s'.heap ∧ HOk P w H' s'.heap ∧ Q H'
theorem loop_any {R : Result → Shared → Prop} {a : Addr} {g : Nat} (hh : A.handled = none) (hd : A.depth < recursionLimit)
    (hT : ∀ s', Behind P w outer H sc QT s' → R (.ok (.ret (.bool true))) s') (hF : ∀ s', Behind P w outer H sc QF s' → R (.ok (.ret (.bool false))) s')
    (hexc : ∀ e s', CX P w outer H sc EX e s' → NotStop (model P w) e s'.heap ∧ R (.error e) (s'.setGen g .finished)) :
    ∀ (m : Nat) (s : Shared), s.heap.IsGen a g → s.heap.NoLimit →
      (∃ gs, s.gens[g]? = some gs ∧ gs.Goes (model P w) A.in1.in1 (RC P w outer H sc none a g CN (fun _ H' => QF H') EX) (YC P w outer H sc none a g CN (YB true QT)) m (.send .none) (s.setGen g .running)) →
      codeAny (model P w) A (.builtin "any.loop" ⟨[.ref a], []⟩) R s := by
  have goes : ∀ {gs : GenState} {B : Around} {n : Nat} {r : Resume} {s : Shared}, gs.Goes (model P w) B (RC P w outer H sc none a g CN (fun _ H' => QF H') EX) (YC P w outer H sc none a g CN (YB true QT)) n r s →
      gs.Goes (model P w) B (fun n s₀ r s1 => ((r = .ok (.ret .none) ∨ r = .ok .next) ∧ (∃ (ys : List V) (H' : Hp), s1.os = sc.os ∧ AllBare s1.gens ∧ Un (frs outer) [] H H' sc.heap s1.heap ∧ HOk P w H' s1.heap ∧ (∀ b, none = some b → H' b = none) ∧ (∃ oS, CN ys oS ∧ ∀ b, none = some b → s1.heap.get? b = some oS ∧ NoCell oS) ∧ ys.length ≤ sizeLine ∧ QF H')) ∨
        ∃ e, r = .error e ∧ (CX P w outer H sc EX e s1 ∧ s1.heap.IsGen a g)) (YC P w outer H sc none a g CN (YB true QT)) n r s := fun h => h
  intro m
  induction m with
  | zero =>
    intro s hg hl ⟨gs, hgs, hgo⟩
    refine codeAny_builtin F.entry_any_loop ?_
    rw [Around.under_plainId F.plain_any_loop _]
    show wpAny _ A.in1 (pyNext (.ref a) >>= _) _ _ s
    refine wpAny_bind (next_genG (A := A.in1) hh hl hd hg hgs (goes hgo) (fun v s₁ gs' hbare hv => ?_) (fun s₁ hp h' hk => ?_) fun e s₁ he => ?_)
    · obtain ⟨ys, x, H', hn, rv, os1, hb1, hl1, hg1, un, hok, hSn, hS, ⟨b, ex, hb⟩, hk⟩ := hv
      exact False.elim (hk s₁ ⟨rfl, hb1, fun b o _ e => e, ⟨{ cls := .none, data := .plain }, True.intro, fun b hb => by cases hb⟩⟩)
    · obtain ⟨ys, H', os1, hb1, un, hok, hSn, _, hle, hQ⟩ := hp
      exact wpAny_bind (wpAny_rule (wpAny_pure (hF _ ⟨H', os1, allBare_setGen hb1 rfl, un.trans (Un.kept hk), hok.kept hk, hQ⟩)))
    · obtain ⟨hc, hg1⟩ := he
      obtain ⟨q1, q2⟩ := hexc e s₁ hc
      exact ⟨hg1, q1, q2⟩
  | succ m ih =>
    intro s hg hl ⟨gs, hgs, hgo⟩
    have hgl : g < s.gens.size := (Array.getElem?_eq_some_iff.mp hgs).1
    refine codeAny_builtin F.entry_any_loop ?_
    rw [Around.under_plainId F.plain_any_loop _]
    show wpAny _ A.in1 (pyNext (.ref a) >>= _) _ _ s
    refine wpAny_bind (wpAny_gsz (n := g + 1) hgl (next_genG (A := A.in1) hh hl hd hg hgs (goes hgo) (fun v s₁ gs' hbare hv => ?_) (fun s₁ hp h' hk => ?_) fun e s₁ he => ?_))
    · intro hsz
      obtain ⟨ys, x, H', hn, rv, os1, hb1, hl1, hg1, un, hok, hSn, hS, ⟨b, ex, hb⟩, hk⟩ := hv
      subst ex
      obtain rfl : v = Value.bool b := rv
      have hsz1 : g < s₁.gens.size := by
        have q : (s₁.setGen g gs').gens.size = s₁.gens.size := setGen_size _ _ _
        have hsz' : g + 1 ≤ (s₁.setGen g gs').gens.size := hsz
        omega
      refine wpAny_bind (wpAny_holding (wpAny_truthy_bool ?_))
      refine wpAny_bind (wpAny_letGo ?_)
      cases b with
      | true =>
        show wpAny _ A.in1 (rule "any.true-item" >>= fun _ => ret (.bool true)) _ _ _
        exact wpAny_bind (wpAny_rule (wpAny_pure (hT _ ⟨H', os1, allBare_setGen hb1 hbare, un, hok, hb rfl⟩)))
      | false =>
        show wpAny _ A.in1 (again (.builtin "any.loop" ⟨[.ref a], []⟩)) _ _ _
        refine wpAny_pure ⟨plainId_quiet F.plain_any_loop _, ih (s₁.setGen g gs') hg1 hl1 ⟨gs', setGen_at hsz1, ?_⟩⟩
        exact hk _ ⟨rfl, allBare_setGen (s := s₁.setGen g gs') (allBare_setGen hb1 hbare) rfl, fun b o _ e => e, ⟨{ cls := .none, data := .plain }, True.intro, fun b hb => by cases hb⟩⟩
    · intro hsz
      obtain ⟨ys, H', os1, hb1, un, hok, hSn, _, hle, hQ⟩ := hp
      exact wpAny_bind (wpAny_rule (wpAny_pure (hF _ ⟨H', os1, allBare_setGen hb1 rfl, un.trans (Un.kept hk), hok.kept hk, hQ⟩)))
    · obtain ⟨hc, hg1⟩ := he
      obtain ⟨q1, q2⟩ := hexc e s₁ hc
      exact ⟨hg1, q1, fun _ => q2⟩
theorem loop_all {R : Result → Shared → Prop} {a : Addr} {g : Nat} (hh : A.handled = none) (hd : A.depth < recursionLimit)
    (hT : ∀ s', Behind P w outer H sc QT s' → R (.ok (.ret (.bool false))) s') (hF : ∀ s', Behind P w outer H sc QF s' → R (.ok (.ret (.bool true))) s')
    (hexc : ∀ e s', CX P w outer H sc EX e s' → NotStop (model P w) e s'.heap ∧ R (.error e) (s'.setGen g .finished)) :
    ∀ (m : Nat) (s : Shared), s.heap.IsGen a g → s.heap.NoLimit →
      (∃ gs, s.gens[g]? = some gs ∧ gs.Goes (model P w) A.in1.in1 (RC P w outer H sc none a g CN (fun _ H' => QF H') EX) (YC P w outer H sc none a g CN (YB false QT)) m (.send .none) (s.setGen g .running)) →
      codeAny (model P w) A (.builtin "all.loop" ⟨[.ref a], []⟩) R s := by
  have goes : ∀ {gs : GenState} {B : Around} {n : Nat} {r : Resume} {s : Shared}, gs.Goes (model P w) B (RC P w outer H sc none a g CN (fun _ H' => QF H') EX) (YC P w outer H sc none a g CN (YB false QT)) n r s →
      gs.Goes (model P w) B (fun n s₀ r s1 => ((r = .ok (.ret .none) ∨ r = .ok .next) ∧ (∃ (ys : List V) (H' : Hp), s1.os = sc.os ∧ AllBare s1.gens ∧ Un (frs outer) [] H H' sc.heap s1.heap ∧ HOk P w H' s1.heap ∧ (∀ b, none = some b → H' b = none) ∧ (∃ oS, CN ys oS ∧ ∀ b, none = some b → s1.heap.get? b = some oS ∧ NoCell oS) ∧ ys.length ≤ sizeLine ∧ QF H')) ∨
        ∃ e, r = .error e ∧ (CX P w outer H sc EX e s1 ∧ s1.heap.IsGen a g)) (YC P w outer H sc none a g CN (YB false QT)) n r s := fun h => h
  intro m
  induction m with
  | zero =>
    intro s hg hl ⟨gs, hgs, hgo⟩
    refine codeAny_builtin F.entry_all_loop ?_
    rw [Around.under_plainId F.plain_all_loop _]
    show wpAny _ A.in1 (pyNext (.ref a) >>= _) _ _ s
    refine wpAny_bind (next_genG (A := A.in1) hh hl hd hg hgs (goes hgo) (fun v s₁ gs' hbare hv => ?_) (fun s₁ hp h' hk => ?_) fun e s₁ he => ?_)
    · obtain ⟨ys, x, H', hn, rv, os1, hb1, hl1, hg1, un, hok, hSn, hS, ⟨b, ex, hb⟩, hk⟩ := hv
      exact False.elim (hk s₁ ⟨rfl, hb1, fun b o _ e => e, ⟨{ cls := .none, data := .plain }, True.intro, fun b hb => by cases hb⟩⟩)
    · obtain ⟨ys, H', os1, hb1, un, hok, hSn, _, hle, hQ⟩ := hp
      exact wpAny_bind (wpAny_rule (wpAny_pure (hF _ ⟨H', os1, allBare_setGen hb1 rfl, un.trans (Un.kept hk), hok.kept hk, hQ⟩)))
    · obtain ⟨hc, hg1⟩ := he
      obtain ⟨q1, q2⟩ := hexc e s₁ hc
      exact ⟨hg1, q1, q2⟩
  | succ m ih =>
    intro s hg hl ⟨gs, hgs, hgo⟩
    have hgl : g < s.gens.size := (Array.getElem?_eq_some_iff.mp hgs).1
    refine codeAny_builtin F.entry_all_loop ?_
    rw [Around.under_plainId F.plain_all_loop _]
    show wpAny _ A.in1 (pyNext (.ref a) >>= _) _ _ s
    refine wpAny_bind (wpAny_gsz (n := g + 1) hgl (next_genG (A := A.in1) hh hl hd hg hgs (goes hgo) (fun v s₁ gs' hbare hv => ?_) (fun s₁ hp h' hk => ?_) fun e s₁ he => ?_))
    · intro hsz
      obtain ⟨ys, x, H', hn, rv, os1, hb1, hl1, hg1, un, hok, hSn, hS, ⟨b, ex, hb⟩, hk⟩ := hv
      subst ex
      obtain rfl : v = Value.bool b := rv
      have hsz1 : g < s₁.gens.size := by
        have q : (s₁.setGen g gs').gens.size = s₁.gens.size := setGen_size _ _ _
        have hsz' : g + 1 ≤ (s₁.setGen g gs').gens.size := hsz
        omega
      refine wpAny_bind (wpAny_holding (wpAny_truthy_bool ?_))
      refine wpAny_bind (wpAny_letGo ?_)
      cases b with
      | false =>
        show wpAny _ A.in1 (rule "all.false-item" >>= fun _ => ret (.bool false)) _ _ _
        exact wpAny_bind (wpAny_rule (wpAny_pure (hT _ ⟨H', os1, allBare_setGen hb1 hbare, un, hok, hb rfl⟩)))
      | true =>
        show wpAny _ A.in1 (again (.builtin "all.loop" ⟨[.ref a], []⟩)) _ _ _
        refine wpAny_pure ⟨plainId_quiet F.plain_all_loop _, ih (s₁.setGen g gs') hg1 hl1 ⟨gs', setGen_at hsz1, ?_⟩⟩
        exact hk _ ⟨rfl, allBare_setGen (s := s₁.setGen g gs') (allBare_setGen hb1 hbare) rfl, fun b o _ e => e, ⟨{ cls := .none, data := .plain }, True.intro, fun b hb => by cases hb⟩⟩
    · intro hsz
      obtain ⟨ys, H', os1, hb1, un, hok, hSn, _, hle, hQ⟩ := hp
      exact wpAny_bind (wpAny_rule (wpAny_pure (hF _ ⟨H', os1, allBare_setGen hb1 rfl, un.trans (Un.kept hk), hok.kept hk, hQ⟩)))
    · obtain ⟨hc, hg1⟩ := he
      obtain ⟨q1, q2⟩ := hexc e s₁ hc
      exact ⟨hg1, q1, fun _ => q2⟩
end
end GX
set_option Elab.async false
set_option linter.all false
set_option maxRecDepth 100000
set_option maxHeartbeats 2000000
namespace GX
open PySem PySem.Spec PyProof.Rows L2 GenW
section
variable {P : Program} {w : World} {outer : List Env} {H : Hp} {sc s : Shared} {EX : XK} {QT QF : Hp → Prop} {A : Around} {E : Value → Shared → Prop} {k : Nat} {u : Value}
theorem call_any_gen {Q' : Value → Shared → Prop} (hr : Room (k + 4) A) (hfr : A.frames = some outer) (h : GMadeC P w k outer H sc (YB true QT) (fun _ H' => QF H') EX u s)
    (hT : ∀ s', Behind P w outer H sc QT s' → Q' (.bool true) s') (hF : ∀ s', Behind P w outer H sc QF s' → Q' (.bool false) s')
    (hexc : ∀ e s' g, CX P w outer H sc EX e s' → NotStop (model P w) e s'.heap ∧ E e (s'.setGen g .finished)) :
    wpAny (model P w) A (call (.builtin "any") [u]) Q' E s := by
  obtain ⟨a, g, c, go, rfl, ha1, ha2, hgo, hgoN, hg, hgs, hos, hb, hl, wake⟩ := h
  refine call_function_tree F.kind_any F.plain_any F.entry_any (F.args_any1 _) ?_
  unfold Builtin.«any»
  refine wpAny_bind (m := oneArg "any" _) (wpAny_pure ?_)
  refine wpAny_bind (wpAny_pyIter_gen hg ?_)
  refine wpAny_pure ⟨plainId_quiet F.plain_any_loop _, ?_⟩
  refine loop_any (P := P) (w := w) (outer := outer) (H := H) (sc := sc) (QT := QT) (QF := QF) (EX := EX) (A := A) (g := g) hr.hd (by have := hr.dp; omega) (fun s' hb => hT s' hb) (fun s' hb => hF s' hb) (fun e s' hc => hexc e s' g hc)
    sizeLine _ hg hl ⟨_, hgs, rfl, ?_⟩
  refine wake _ _ none _ ⟨hr.hd, ?_, ?_⟩ hfr (fun b hb => by cases hb) (fun _ _ e => e) ⟨{ cls := .none, data := .plain }, True.intro, fun b hb => by cases hb⟩ hos (allBare_setGen hb rfl)
  · have := hr.dp
    show A.depth + 3 * k + 5 < _
    omega
  · have := hr.un
    show A.units + 1 + 1 + 16 * k + 200 < _
    omega
theorem call_all_gen {Q' : Value → Shared → Prop} (hr : Room (k + 4) A) (hfr : A.frames = some outer) (h : GMadeC P w k outer H sc (YB false QT) (fun _ H' => QF H') EX u s)
    (hT : ∀ s', Behind P w outer H sc QT s' → Q' (.bool false) s') (hF : ∀ s', Behind P w outer H sc QF s' → Q' (.bool true) s')
    (hexc : ∀ e s' g, CX P w outer H sc EX e s' → NotStop (model P w) e s'.heap ∧ E e (s'.setGen g .finished)) :
    wpAny (model P w) A (call (.builtin "all") [u]) Q' E s := by
  obtain ⟨a, g, c, go, rfl, ha1, ha2, hgo, hgoN, hg, hgs, hos, hb, hl, wake⟩ := h
  refine call_function_tree F.kind_all F.plain_all F.entry_all (F.args_all1 _) ?_
  unfold Builtin.«all»
  refine wpAny_bind (m := oneArg "all" _) (wpAny_pure ?_)
  refine wpAny_bind (wpAny_pyIter_gen hg ?_)
  refine wpAny_pure ⟨plainId_quiet F.plain_all_loop _, ?_⟩
  refine loop_all (P := P) (w := w) (outer := outer) (H := H) (sc := sc) (QT := QT) (QF := QF) (EX := EX) (A := A) (g := g) hr.hd (by have := hr.dp; omega) (fun s' hb => hT s' hb) (fun s' hb => hF s' hb) (fun e s' hc => hexc e s' g hc)
    sizeLine _ hg hl ⟨_, hgs, rfl, ?_⟩
  refine wake _ _ none _ ⟨hr.hd, ?_, ?_⟩ hfr (fun b hb => by cases hb) (fun _ _ e => e) ⟨{ cls := .none, data := .plain }, True.intro, fun b hb => by cases hb⟩ hos (allBare_setGen hb rfl)
  · have := hr.dp
    show A.depth + 3 * k + 5 < _
    omega
  · have := hr.un
    show A.units + 1 + 1 + 16 * k + 200 < _
    omega
end
section
variable {X : Cx}
theorem behind_inv {pins : List (Addr × Obj)} {σ : L2.St} {H1 : Hp} {sc s' : Shared} {Q : Hp → Prop} (I : Inv X pins σ H1 sc) (hb : Behind X.prog X.w X.stack H1 sc Q s') : ∃ H', Inv X pins σ H' s' ∧ Q H' := by
  obtain ⟨H', q3, q4, q5, q6, q⟩ := hb.ex
  exact ⟨H', I.call' (ch := []) q3 q5 q6 q4 (fun b hb => by simp at hb), q⟩
theorem pe_anyG {c P : Addr} {elt tg iter : Expr} {ifs : List Expr} {scope : Scope} {own : List (Str × Nat)} {gpos p pos : Pos} {wi : TI} {g : TG} {tt : L2.St → TT} {te : L2.St → TE} {k : Nat} {E : L2.St → XK}
    (hr : Room (k + 5) X.A) (hc : X.calm = true) (hN : X.N.Nodup) (hgl : Gl X "any") (hm : X.mg "any" = none) (TB : GxR.TabB X.base X.mg c P) (hcode : X.env.code = .ref c) (ok : GenOk X.N X.env.scope scope own) (hi : PIf X tg iter wi)
    (hx : ∀ σ, PassesAt (L2.CX X.prog X.w) X σ (E σ)) (hns : ∀ σ, NoStop X.K (E σ))
    (hg : ∀ (σ : L2.St) (A : Around) (s : Shared) (H : Hp) (L : Addr) (code : Value) (bi : Addr) (pn : List (Addr × Obj)), PG (gCx X A s H (E σ) scope L code bi pn) tg g)
    (ht : ∀ (σ : L2.St) (A : Around) (s : Shared) (H : Hp) (L : Addr) (code : Value) (bi : Addr) (pn : List (Addr × Obj)), Room k (A.deeper (gEnv X scope L code bi)) → PTs (gCx X A s H (E σ) scope L code bi pn) ifs (tt σ))
    (he : ∀ (σ : L2.St) (A : Around) (s : Shared) (H : Hp) (L : Addr) (code : Value) (bi : Addr) (pn : List (Addr × Obj)), Room k (A.deeper (gEnv X scope L code bi)) → PE (gCx X A s H (E σ) scope L code bi pn) elt (te σ))
    (hs : ∀ v, genFold iter X.env v = pure v := by intro _; rfl)
    (hst : starEach [.GeneratorExp elt [⟨tg, iter, ifs, 0⟩] scope gpos] X.env = (false, eval (.GeneratorExp elt [⟨tg, iter, ifs, 0⟩] scope gpos) X.env) :: starEach [] X.env := by rfl) :
    PE X (.Call (.Name "any" p) [.GeneratorExp elt [⟨tg, iter, ifs, 0⟩] scope gpos] [] pos)
      (fun σ H Q => tGenx P wi g (tt σ) (te σ) (own.map (·.2)) (YB true fun H' => Q (.bl true) H') σ H fun _ H2 => Q (.bl false) H2) := by
  refine ⟨fun pins s σ H Q I h => ?_⟩
  refine wpAny_Call_Name_kw (ld_blt I hgl hm boot_any ?_)
  refine PyProof.Rows.callWith_builtin1 ?_ hst (by rfl)
  rw [hst]
  show wpAny _ _ (spliced ((false, eval (.GeneratorExp elt [⟨tg, iter, ifs, 0⟩] scope gpos) X.env) :: backTo pos (starEach [] X.env))) _ _ s
  have hr0 : Room k X.A := hr.mono (by omega)
  refine Calls.spliced_cons (thn (genx_made (E := E σ) hr0 hc hN TB hcode ok hi (hg σ) (ht σ) (he σ) hs I h) fun u s1 ⟨H1, sc, I1, hsz, hG⟩ => ?_)
  refine Calls.spliced_nil ?_
  refine call_any_gen (k := k + 1) (by exact hr) I1.ok.frames hG (fun s' hb => ?_) (fun s' hb => ?_) fun e s' g hcx => ?_
  · obtain ⟨H', J, q⟩ := behind_inv I1 hb
    exact ⟨.bl true, H', J, rfl, q⟩
  · obtain ⟨H', J, q⟩ := behind_inv I1 hb
    exact ⟨.bl false, H', J, rfl, q⟩
  · exact ⟨notStop_of (hns σ) (kin_of_cx I1 hcx) hcx, hx σ pins H1 sc e _ I1 (cx_setGen hcx)⟩
theorem pe_allG {c P : Addr} {elt tg iter : Expr} {ifs : List Expr} {scope : Scope} {own : List (Str × Nat)} {gpos p pos : Pos} {wi : TI} {g : TG} {tt : L2.St → TT} {te : L2.St → TE} {k : Nat} {E : L2.St → XK}
    (hr : Room (k + 5) X.A) (hc : X.calm = true) (hN : X.N.Nodup) (hgl : Gl X "all") (hm : X.mg "all" = none) (TB : GxR.TabB X.base X.mg c P) (hcode : X.env.code = .ref c) (ok : GenOk X.N X.env.scope scope own) (hi : PIf X tg iter wi)
    (hx : ∀ σ, PassesAt (L2.CX X.prog X.w) X σ (E σ)) (hns : ∀ σ, NoStop X.K (E σ))
    (hg : ∀ (σ : L2.St) (A : Around) (s : Shared) (H : Hp) (L : Addr) (code : Value) (bi : Addr) (pn : List (Addr × Obj)), PG (gCx X A s H (E σ) scope L code bi pn) tg g)
    (ht : ∀ (σ : L2.St) (A : Around) (s : Shared) (H : Hp) (L : Addr) (code : Value) (bi : Addr) (pn : List (Addr × Obj)), Room k (A.deeper (gEnv X scope L code bi)) → PTs (gCx X A s H (E σ) scope L code bi pn) ifs (tt σ))
    (he : ∀ (σ : L2.St) (A : Around) (s : Shared) (H : Hp) (L : Addr) (code : Value) (bi : Addr) (pn : List (Addr × Obj)), Room k (A.deeper (gEnv X scope L code bi)) → PE (gCx X A s H (E σ) scope L code bi pn) elt (te σ))
    (hs : ∀ v, genFold iter X.env v = pure v := by intro _; rfl)
    (hst : starEach [.GeneratorExp elt [⟨tg, iter, ifs, 0⟩] scope gpos] X.env = (false, eval (.GeneratorExp elt [⟨tg, iter, ifs, 0⟩] scope gpos) X.env) :: starEach [] X.env := by rfl) :
    PE X (.Call (.Name "all" p) [.GeneratorExp elt [⟨tg, iter, ifs, 0⟩] scope gpos] [] pos)
      (fun σ H Q => tGenx P wi g (tt σ) (te σ) (own.map (·.2)) (YB false fun H' => Q (.bl false) H') σ H fun _ H2 => Q (.bl true) H2) := by
  refine ⟨fun pins s σ H Q I h => ?_⟩
  refine wpAny_Call_Name_kw (ld_blt I hgl hm boot_all ?_)
  refine PyProof.Rows.callWith_builtin1 ?_ hst (by rfl)
  rw [hst]
  show wpAny _ _ (spliced ((false, eval (.GeneratorExp elt [⟨tg, iter, ifs, 0⟩] scope gpos) X.env) :: backTo pos (starEach [] X.env))) _ _ s
  have hr0 : Room k X.A := hr.mono (by omega)
  refine Calls.spliced_cons (thn (genx_made (E := E σ) hr0 hc hN TB hcode ok hi (hg σ) (ht σ) (he σ) hs I h) fun u s1 ⟨H1, sc, I1, hsz, hG⟩ => ?_)
  refine Calls.spliced_nil ?_
  refine call_all_gen (k := k + 1) (by exact hr) I1.ok.frames hG (fun s' hb => ?_) (fun s' hb => ?_) fun e s' g hcx => ?_
  · obtain ⟨H', J, q⟩ := behind_inv I1 hb
    exact ⟨.bl false, H', J, rfl, q⟩
  · obtain ⟨H', J, q⟩ := behind_inv I1 hb
    exact ⟨.bl true, H', J, rfl, q⟩
  · exact ⟨notStop_of (hns σ) (kin_of_cx I1 hcx) hcx, hx σ pins H1 sc e _ I1 (cx_setGen hcx)⟩
end
end GX
set_option Elab.async false
set_option linter.all false
set_option maxRecDepth 100000
set_option maxHeartbeats 2000000
/-! FileError: an own error whose __init__ says super().__init__(word) and keeps word as a field. -/
namespace GF
open PySem PySem.W PySem.Calls PyProof.Rows PySem.HandSPX
def iA (p1 p2 : Pos) : Arguments := { posonlyargs := [], args := [{ arg := "self", annotation := none, pos := p1 }, { arg := "word", annotation := none, pos := p2 }], vararg := none, kwonlyargs := [], kw_defaults := [], kwarg := none, defaults := [] }
def iB (q0 q1 q2 q3 q4 q5 q6 q7 q8 q9 : Pos) : List Stmt :=
  [.Expr (.Call (.Attribute (.Call (.Name "super" q0) [] [] q1) "__init__" q2) [.Name "word" q3] [] q4) q5,
   .Assign [.Attribute (.Name "self" q6) "word" q7] (.Name "word" q8) q9]
def iS : Scope := { kind := .function, names := [(PySem.Str.ofString "self", .local), (PySem.Str.ofString "word", .local), (PySem.Str.ofString "__class__", .free), (PySem.Str.ofString "super", .globalImplicit)], isGenerator := false, isCoroutine := false, more := [] }
/-- what the written part says of FileError, at C, and of its __init__, at fI -/
structure FileTxt (P : Program) (K : Frag) (mg : Str → Option Value) (C fI : Addr) : Prop where
  gC : mg "FileError" = some (.ref C)
  noS : mg "super" = none
  cls : ∃ nm q N bs bm sn sub ab col dd k0 k1 k2 k3 k5, K.lookup C = some (excClassObj nm q C N bs bm true sn sub ab col dd k0 k1 k2 k3 k5 "ValueError.__new__") ∧ refsVE bm = true
  sup : ks_superIn K C C "__init__" = some (some (.builtin "ValueError.__init__"))
  sa : findIn K (.ref C) "__setattr__" = some (some (.builtin "object.__setattr__"))
  noN : findIn K (.ref C) "word" = some none
  iC : findIn K (.ref C) "__init__" = some (some (.ref fI))
  tC : typeIn K (.ref fI) = some (.type "function")
  kC : keepIn K (.ref C) = true
  exC : subIn K (.ref C) (.type "BaseException") = some true
  veC : subIn K (.ref C) (.type "ValueError") = some true
  meC : mroIn K C (.ref C) = some true
  tyC : typeIn K (.ref C) = some (.type "type")
  opq : nsIn K cStatics "thirdparty.any" = some none
  top : (P.main.scope.names.lookup ("super" : Str)).isSome = false
  fn : ∃ (oc : Value) (od : Option Addr) (doc pm : Value) (an : Option Addr) (cda cc : Addr) (ct : Value) (osl : Array (Option Value)) (p1 p2 q0 q1 q2 q3 q4 q5 q6 q7 q8 q9 : Pos) (ccl : Value) (cdd : Option Addr) (vs : Array Value) (ccs : Array (Option Value)) (file : Str) (tf : Tok) (cl : Value) (cld : Option Addr) (csl : Array (Option Value)),
    K.lookup fI = some ⟨oc, od, .func (ksFn "__init__" "FileError.__init__" (iA p1 p2) (iB q0 q1 q2 q3 q4 q5 q6 q7 q8 q9) iS .none .none doc pm an (.ref cda) ct cc), osl⟩ ∧ codeIn K (.ref cda) "FileError.__init__" = true ∧
    K.lookup cda = some ⟨ccl, cdd, .fields vs, ccs⟩ ∧ vs[2]? = some (.str file tf) ∧ (q2.endLine == q4.line) = true ∧ ((P.main.file : Str) == file) = true ∧
    K.lookup cc = some ⟨cl, cld, .cell (some (.ref C)), csl⟩
theorem one_size (v : Value) : [v].length ≤ sizeLine := by
  rw [sizeLine_eq]
  exact (by decide : 1 ≤ 16777216)
theorem kept_but {K : Frag} {h h' : Heap} {x : Addr} (X : K.In h) (hx : K.lookup x = none) (k : ∀ b o, b ≠ x → h.get? b = some o → h'.get? b = some o) : K.In h' := fun a o e =>
  k a o (fun z => by rw [z, hx] at e; cases e) (X a o e)
/-- a method call whose name ends on the line of the call, one argument -/
theorem mc1 {o e : Expr} {name : Str} {apos pos : Pos} {env : Env} (h : (apos.endLine == pos.line) = true) (hs : starEach (e :: []) env = (false, eval e env) :: [] := by rfl) :
    eval (.Call (.Attribute o name apos) [e] [] pos) env = (do
      let ov ← attributeBase o name env (eval o env)
      standAt apos.atName
      let (f, first) ← holding [ov] (getMethod ov name (do return (← importBound o env).getD true))
      callWith pos f first (backTo pos (starEach [e] env)) []) := by
  rw [arm_eval_Call, hs]
  unfold methodCall calleeOf methodCallPos
  have hf : methodCallForm ([e].length + ([] : List Keyword).length) (backTo pos [(false, eval e env)]) (backToKw pos (keywordEach [] env)) = true := rfl
  rw [hf, h]
  simp only [Bool.not_true, Bool.false_or, if_true, pure_bind]
  rfl
theorem ldK {M : Model} {s : Shared} {env : Env} {m : Str → Option Value} {x : Str} {pos : Pos} {v : Value} {Q : Value → Shared → Prop} {A : Around} {E : Value → Shared → Prop} (hn : s.heap.Ns env.locals m) (hv : m x = some v) (h : Q v s)
    (hk : env.scope.kind = .function := by rfl) (hl : env.kindOf x = some .local := by rfl) (hd : (x == ("__debug__" : Str)) = false := by decide) :
    wpAny M A (eval (.Name x pos) env) Q E s := wpAny_Name (wpAny_loadName_local hk hl hn hv h) hd
section
variable {prog : Program} {w : World} {A : Around} {E : Value → Shared → Prop} {h : Heap} {g : Array GenState} {d : Drawn} {t : Nat} {os : OsState}
variable {nm q : Str} {C N : Addr} {bs bm : List Value} {hdct : Bool} {sn : List Str} {sub : List Value} {ab : Bool} {col : Option Bool} {dd : Option Addr} {k0 k1 k2 k3 k5 : Option Value}
/-- the wrapper of ValueError.__init__ called: the args are laid anew -/
theorem call_vw {u e t0 : Addr} {rest : List Value} {Q : Value → Shared → Prop}
    (hC : h.get? C = some (excClassObj nm q C N bs bm hdct sn sub ab col dd k0 k1 k2 k3 k5 "ValueError.__new__")) (he : h.get? e = some (HandSPX.excO C t0)) (hu : h.get? u = some (kxs_mw "ValueError.__init__" e)) (hrest : rest.length ≤ sizeLine)
    (hq : ∀ h' t1, (∀ b o, b ≠ e → h.get? b = some o → h'.get? b = some o) → h'.get? e = some (HandSPX.excO C t1) → h.objs.size ≤ h'.objs.size → Q .none ⟨h', g, d, t, os⟩) :
    wpAny (model prog w) A (call (.ref u) rest) Q E ⟨h, g, d, t, os⟩ := by
  refine wpAny_call (codeAny_of_tree ?_)
  show wpAny _ A.in1 (callAny (.ref u) ⟨rest, []⟩) _ _ _
  simp only [callAny]
  refine wpAny_bind (wpAny_load hu ?_)
  simp only [kxs_mw, show (Value.type "method-wrapper" == Value.type "method" || Value.type "method-wrapper" == Value.type "builtin_function_or_method" || Value.type "method-wrapper" == Value.type "method-wrapper") = true by decide, if_true]
  refine W.KFB.if_so (by decide) ?_
  refine wpAny_bind (ESX.check_bound F.excBase_ValueError hC he rfl ?_)
  refine wpAny_bind (wpAny_pure (wpAny_pure ?_))
  refine ⟨Code.quiet_builtin _ (by decide +kernel), codeAny_builtin F.excBase_ValueError.initEntry ?_⟩
  rw [Around.under_plainId F.excBase_ValueError.init.plain _]
  wp_walk
  refine hq _ h.objs.size (fun b o hb ho => ?_) ?_ ?_
  · rw [Heap.get?_update_other _ _ (Ne.symm hb)]
    exact Heap.get?_push_of_some _ ho
  · rw [Heap.get?_update_self _ (Heap.get?_push_of_some _ he) rfl]
    rfl
  · first
      | (simp only [Heap.size_update, Heap.size_push]; omega)
      | (simp only [Heap.update, Heap.push]; simp)
end
/-- what __init__ leaves of a fresh exception at x -/
structure InitEnd (h h' : Heap) (x C dx t1 : Addr) (v : Value) : Prop where
  keep : ∀ b o, b ≠ x → h.get? b = some o → h'.get? b = some o
  obj : h'.get? x = some { cls := .ref C, dict := some dx, data := .fields #[.ref t1, .none, .none, .none, .bool false, .none] }
  dbig : h.objs.size ≤ dx
  dne : dx ≠ x
  ns : h'.Ns1 dx (fun y => if y = "word" then some v else none)
/-- a made FileError -/
structure OwnMade (h h' : Heap) (e C d : Addr) (v : Value) : Prop where
  keep : ∀ b o, h.get? b = some o → h'.get? b = some o
  new : h.objs.size ≤ e
  obj : ∃ oe vs, h'.get? e = some oe ∧ oe.cls = .ref C ∧ oe.dict = some d ∧ oe.data = .fields vs ∧ vs[1]? = some .none
  dbig : h.objs.size ≤ d
  dne : d ≠ e
  ns : h'.Ns1 d (fun y => if y = "word" then some v else none)
section
variable {prog : Program} {w : World} {A : Around} {E : Value → Shared → Prop} {R : Result → Shared → Prop} {s : Shared} {K : Frag} {mg mb : Str → Option Value} {C fI : Addr}
theorem file_init (T : FileTxt prog K mg C fI) {x t0 : Addr} {v : Value} (X : K.In s.heap) (hg : s.heap.Ns mainGlobals mg) (hb : s.heap.Ns builtinsNs mb) (hsb : mb "super" = some (.type "super")) (hlim : s.heap.NoLimit) (hx : s.heap.get? x = some (excO C t0)) (hnx : K.lookup x = none) (hroom : A.depth < recursionLimit)
    (hq : ∀ h' tk dx t1, InitEnd s.heap h' x C dx t1 v → R (.ok (.ret .none)) { s with heap := h', toks := tk }) :
    codeAny (model prog w) A (.call (.ref fI) ⟨[.ref x, v], []⟩) R s := by
  obtain ⟨oc, od, doc, pm, an, cda, cc, ct, osl, p1, p2, q0, q1, q2, q3, q4, q5, q6, q7, q8, q9, ccl, cdd, vs, ccs, file, tf, cl, cld, csl, ho, hcd, hcda, hvs, hline, hfile, hcell⟩ := T.fn
  obtain ⟨nm, qn, N, bs, bm, sn, sub, ab, col, dd, k0, k1, k2, k3, k5, hC, hbm⟩ := T.cls
  have hcl : clsIn K C = some { name := nm, bases := bs, mro := .ref C :: bm, ns := N, qualname := qn, hasDict := true, slotNames := sn, subclasses := sub, abstract := ab, collection := col, hasDel := false } := by unfold clsIn; rw [hC] <;> rfl
  have hfo := X _ _ ho
  refine ks_codeAny_call_defAt (fd := ksFn "__init__" "FileError.__init__" (iA p1 p2) (iB q0 q1 q2 q3 q4 q5 q6 q7 q8 q9) iS .none .none doc pm an (.ref cda) ct cc) (body := iB q0 q1 q2 q3 q4 q5 q6 q7 q8 q9) (binds := [("self", .ref x), ("word", v)])
    hroom hfo rfl hlim (codeRec_of X hcd) rfl (BindsTo.of_eq (by first | rfl | with_unfolding_all rfl)) (show ∀ z ∈ iS.names, z.2 ≠ .cell by decide) (locs (scope := iS) rfl) (fun h₁ hn k => ?_)
  have hxL : s.heap.objs.size ≠ x := Nat.ne_of_gt (Heap.lt_size hx)
  have X₁ : K.In h₁ := X.keeps k
  have hx₁ := k _ _ hx
  have hsize : s.heap.objs.size < h₁.objs.size := hn.lt
  have I₁ : InstAt h₁ x (excO C t0) C none := ⟨hx₁, rfl, rfl, trivial⟩
  have eE : callEnv (ksFn "__init__" "FileError.__init__" (iA p1 p2) (iB q0 q1 q2 q3 q4 q5 q6 q7 q8 q9) iS .none .none doc pm an (.ref cda) ct cc) s.heap.objs.size fI = ksEnv "FileError.__init__" iS s.heap.objs.size fI (.ref cda) cc := rfl
  rw [eE]
  unfold iB
  refine ks_wpAt_execs_cons ?_
  refine ks_wpAt_Expr_any ?_
  refine ks_wpAt_MethodCall ?_ (mc1 hline)
  refine ks_wpAt_super_base (env := ksEnv "FileError.__init__" iS s.heap.objs.size fI (.ref cda) cc) (f := fI) (cc := cda) (ar := { arg := "self", annotation := none, pos := p1 }) (by rfl) (by rfl) (by decide) rfl (X₁ _ _ ho) rfl rfl rfl (X₁ _ _ hcda) rfl hvs hfile T.top ?_
  refine ks_loadName_global (by rfl) (by rfl) (loadGlobal_builtin (env := ksEnv "FileError.__init__" iS s.heap.objs.size fI (.ref cda) cc) (hg.keeps k) T.noS (hb.keeps k) hsb ⟨rfl, ?_⟩)
  refine wpAny_loadName_free (v := .ref C) (by rfl) (by rfl) rfl ⟨_, X₁ _ _ hcell, rfl⟩ ?_
  refine wpAny_loadName_local (v := .ref x) (by rfl) (by rfl) hn (by rfl) ?_
  refine ks_wpAny_isType_cls (X₁ _ _ hC) rfl ⟨rfl, ?_⟩
  refine ks_wpAny_call_super (C := C) (X₁ _ _ hC) rfl hx₁ rfl (fun c e => by cases e) (looks_mroIn X₁ T.meC) (fun h2 hso k2 => ?_)
  have k12 : ∀ b o, s.heap.get? b = some o → h2.get? b = some o := fun b o e => k2 _ _ (k _ _ e)
  have X₂ : K.In h2 := X₁.keeps k2
  have hx₂ := k2 _ _ hx₁
  have I₂ : InstAt h2 x (excO C t0) C none := ⟨hx₂, rfl, rfl, trivial⟩
  have hsup := T.sup
  unfold ks_superIn at hsup
  rw [hcl] at hsup
  refine kxs_getMethod (D := C) (x := x) (C := C) (l₀ := .ref C :: bm) kxs_ValueError hso (looks_opaque X₂ T.opq) ?_ rfl X₂ hsup (I₂.type.andThen (looks_subIn X₂ T.veC)) (ks_ne X₂ I₂ hcl) (by decide) ?_
  · exact fun A Q E s k q => wpAny_bind ((looks_clsIn X₂ hcl) A _ E s k (wpAny_pure q))
  have up3 : ∀ b o, h2.get? b = some o → (h2.push (kxs_mw "ValueError.__init__" x)).get? b = some o := fun b o e => Heap.get?_push_of_some _ e
  have hu : (h2.push (kxs_mw "ValueError.__init__" x)).get? h2.objs.size = some (kxs_mw "ValueError.__init__" x) := Heap.get?_push_at rfl rfl
  have hn3 : (h2.push (kxs_mw "ValueError.__init__" x)).Ns s.heap.objs.size (fun y => List.lookup y ([(("self" : Str), Value.ref x), (("word" : Str), v)].reverse)) := (hn.keeps k2).keeps up3
  have hx3 := up3 _ _ hx₂
  have hC3 := up3 _ _ (X₂ _ _ hC)
  refine kxs_callWith (i := "ValueError.__init__") (x := x) (by rfl) (evalArgs_plain ?_)
  refine spliced_more (ldK (v := v) hn3 (by rfl) (spliced_none ?_) (by rfl) (by rfl))
  refine ⟨hu, call_vw hC3 hx3 hu (one_size v) (fun h4 t1 k4 hx4 sz4 => ?_)⟩
  have xne : s.heap.objs.size ≠ x := hxL
  have hn4 : h4.Ns s.heap.objs.size (fun y => List.lookup y ([(("self" : Str), Value.ref x), (("word" : Str), v)].reverse)) := by
    obtain ⟨oL, es, ep, hL, r⟩ := hn3
    exact ⟨oL, es, ep, k4 _ _ hxL hL, r⟩
  have k34 : ∀ b o, b ≠ x → s.heap.get? b = some o → h4.get? b = some o := fun b o hb e => k4 b o hb (up3 _ _ (k12 _ _ e))
  have X₄ : K.In h4 := kept_but X hnx k34
  refine ks_wpAt_execs_cons (wpAt_of_wpAny (plainObj_wpAny_Assign_Attribute ?_))
  refine ldK (v := v) hn4 (by rfl) ?_ (by rfl) (by rfl)
  refine ldK (v := .ref x) hn4 (by rfl) ?_ (by rfl) (by rfl)
  refine set_plain X₄ (ox := excO C t1) (od := none) ⟨hx4, rfl, rfl, trivial⟩ T.sa ?_
  refine exc_osa X₄ hx4 hcl (show refsVE (.ref C :: bm) = true from hbm) rfl T.noN (fun h₅ tk₅ dx k₅ dn dne hx₅ hn₅ => ?_)
  refine wpAt_of_wpAny (wpAny_execs_nil (hq h₅ tk₅ dx t1 ⟨fun b o hb e => k₅ b o hb (k34 b o hb e), hx₅, ?_, dne, hn₅⟩))
  have hL4 := hn4.lt
  have : s.heap.objs.size < h4.objs.size := hL4
  exact Nat.le_of_lt (Nat.lt_of_lt_of_le this dn)
theorem file_made (T : FileTxt prog K mg C fI) {v : Value} (X : K.In s.heap) (hg : s.heap.Ns mainGlobals mg) (hb : s.heap.Ns builtinsNs mb) (hsb : mb "super" = some (.type "super")) (hlim : s.heap.NoLimit) (hroom : A.depth + 1 < recursionLimit)
    (hq : ∀ h' tk e d, OwnMade s.heap h' e C d v → R (.ok (.ret (.ref e))) { s with heap := h', toks := tk }) :
    codeAny (model prog w) A (.call (.ref C) ⟨[v], []⟩) R s := by
  obtain ⟨nm, q, N, bs, bm, sn, sub, ab, col, dd, k0, k1, k2, k3, k5, hC, hbm⟩ := T.cls
  obtain ⟨hp, g, dr, tk, os⟩ := s
  have k : ∀ b o, hp.get? b = some o → ((hp.push (kdv_tup [v])).push (excO C hp.objs.size)).get? b = some o := fun b o e => Heap.get?_push_of_some _ (Heap.get?_push_of_some _ e)
  have hget : ((hp.push (kdv_tup [v])).push (excO C hp.objs.size)).get? (hp.objs.size + 1) = some (excO C hp.objs.size) := by heap_get
  have hnx : K.lookup (hp.objs.size + 1) = none := by
    cases e : K.lookup (hp.objs.size + 1) with
    | none => rfl
    | some o =>
      have z : hp.get? (hp.objs.size + 1) = some o := X _ _ e
      exact absurd (Nat.lt_of_succ_lt (Heap.lt_size z)) (Nat.lt_irrefl _)
  refine call_own F.excBase_ValueError (fun X => refsVE_contains X bm hbm) (X _ _ hC) (looks_findIn X T.iC) (fun self => bind_fn X self T.tC) (one_size v) ?_
  refine file_init (s := ⟨(hp.push (kdv_tup [v])).push (excO C hp.objs.size), g, dr, tk, os⟩) T (X.keeps k) (hg.keeps k) (hb.keeps k) hsb (hlim.keeps k) hget hnx ?_ fun h' tk' dx t1 ⟨k', hx, dn, dne, hns⟩ => ?_
  · show A.depth + 1 < recursionLimit
    exact hroom
  · have old : ∀ b o, hp.get? b = some o → h'.get? b = some o := fun b o e => k' b o (Nat.ne_of_lt (Nat.lt_succ_of_lt (Heap.lt_size e))) (k b o e)
    have z : hp.objs.size + 1 + 1 ≤ dx := by
      first
        | (simpa only [Heap.size_push] using dn)
        | exact dn
        | (have q := dn; rw [Heap.size_push, Heap.size_push] at q; exact q)
    exact ⟨rfl, hq h' tk' (hp.objs.size + 1) dx ⟨old, Nat.le_succ _, ⟨_, _, hx, rfl, rfl, rfl, rfl⟩, Nat.le_trans (Nat.le_trans (Nat.le_succ _) (Nat.le_succ _)) z, dne, hns⟩⟩
end
end GF
set_option Elab.async false
set_option linter.all false
set_option maxRecDepth 100000
set_option maxHeartbeats 2000000
namespace GX
open PySem PySem.Spec PyProof.Rows L2
theorem relO_word {v : V} {v' : Value} (r : RelV v v') (f : Str) : RelO (List.lookup f [(("word" : Str), v)]) (if f = "word" then some v' else none) := by
  by_cases hw : f = "word"
  · subst hw
    rw [if_pos rfl]
    have q : List.lookup ("word" : Str) [(("word" : Str), v)] = some v := by simp [List.lookup]
    rw [q]
    exact r
  · rw [if_neg hw]
    have qw : (f == ("word" : Str)) = false := by simpa using hw
    have q2 : List.lookup f [(("word" : Str), v)] = none := by simp [List.lookup, qw]
    rw [q2]
    trivial
section
variable {X : Cx} {C fI : Addr}
/-- FileError(e) -/
def tMkFile (C : Addr) (ta : TA) : L2.St → Hp → XK → Prop := fun σ H Q => ta σ H fun vs H1 => ∃ v, vs = [v] ∧ ∀ d, H1 d = none → Q (.ref C) (some d) (upd H1 d (.xd [(("word" : Str), v)]))
theorem pmk_file {a : Expr} {ta : TA} {p pos : Pos} {k : Nat} (T : GF.FileTxt X.prog X.K X.mg C fI) (hr : Room k X.A) (ha : PA X [a] ta) (hg : Gl X "FileError" := by rfl)
    (he : starEach (a :: []) X.env = (false, eval a X.env) :: starEach [] X.env := by rfl) (hpl : (backTo pos (starEach [] X.env)).any (·.1) = false := by rfl) :
    PMk X (.Call (.Name "FileError" p) [a] [] pos) (tMkFile C ta) := by
  intro pins s σ H Q I h
  refine wpAny_Call_Name_kw (ld_glob I hg T.gC ?_)
  refine PySem.W.callWith_K (h₀ := X.base) I.ok.mod.kin T.kC (thn (ha.run pos pins s σ H _ I h) fun us s1 hh => ?_) he hpl
  obtain ⟨vs, H1, I1, r1, v, ev, q1⟩ := hh
  subst ev
  refine ⟨I1.kIn, ?_⟩
  cases r1 with
  | cons rv rn =>
    rename_i v' us'
    cases rn
    show wpAny _ _ (call (.ref C) [v']) _ _ _
    have hlim := I1.nolimit
    obtain ⟨mb, hb1, hb2⟩ := I1.mod.blt
    have hgl := I1.mod.glob.keeps I1.bk
    have hbl := hb1.keeps I1.bk
    have hsb : mb "super" = some (.type "super") := (hb2 "super" (by decide)).trans (by first | rfl | decide +kernel)
    obtain ⟨hp, g, dr, tk, os⟩ := s1
    refine wpAny_call (GF.file_made T I1.kIn hgl hbl hsb hlim (by have := hr.dp; omega) fun h' tk' e d M => ?_)
    show MkP X pins σ Q (.ref e) ⟨h', g, dr, tk', os⟩
    obtain ⟨oe, fv, hoe, hc, hd, hdat, h1⟩ := M.obj
    have hns := M.ns
    obtain ⟨G', g1, g2⟩ := restrict h' fun b => decide (b ≠ e)
    have gk : ∀ b, b ≠ e → G'.get? b = h'.get? b := fun b hb => g1 b (decide_eq_true hb)
    have ge : G'.get? e = none := g2 e (by simp)
    have old : ∀ b o, hp.get? b = some o → G'.get? b = some o := fun b o q => (gk b (Nat.ne_of_lt (Nat.lt_of_lt_of_le (Heap.lt_size q) M.new))).trans (M.keep b o q)
    have ob : ObjOk X.prog X.w (upd H1 d (.xd [(("word" : Str), v)])) G' d (.xd [(("word" : Str), v)]) :=
      ⟨_, hns.at (fun o q => (gk d M.dne).trans q), fun f => relO_word rv f⟩
    have J : Inv X pins σ (upd H1 d (.xd [(("word" : Str), v)])) ⟨G', g, dr, tk', os⟩ := I1.laid (t' := tk') old M.dbig ob
    refine ⟨e, oe, fv, ⟨G', g, dr, tk', os⟩, _, .ref C, some d, rfl, J, fun b o q => ?_, ge, hoe, ⟨hc, hd⟩, hdat, h1, ?_, rfl, I1.bare, raises_own T.exC T.tyC, q1 d (I1.hok.fresh M.dbig)⟩
    · by_cases hb : b = e
      · have q' : G'.get? b = some o := q
        rw [hb, ge] at q'; cases q'
      · exact (gk b hb).symm.trans q
    · rw [upd_ne (Ne.symm M.dne)]
      exact I1.hok.fresh M.new
/-- raise FileError(e) -/
def tRaiseFile (C : Addr) (W : WX) (ta : TA) : TS := fun _ σ H => tMkFile C ta σ H fun cls d H' => W cls d σ H'
theorem ps_raiseFile {a : Expr} {ta : TA} {W : WX} {p pos pos2 : Pos} {k : Nat} (hc : X.calm = true) (T : GF.FileTxt X.prog X.K X.mg C fI) (hr : Room k X.A) (tk : Takes X W) (ha : PA X [a] ta) (hg : Gl X "FileError" := by rfl)
    (he : starEach (a :: []) X.env = (false, eval a X.env) :: starEach [] X.env := by rfl) (hpl : (backTo pos (starEach [] X.env)).any (·.1) = false := by rfl) :
    PS X (.Raise (some (.Call (.Name "FileError" p) [a] [] pos)) none pos2) (tRaiseFile C W ta) := ps_raise hc tk (pmk_file T hr ha hg he hpl)
end
end GX
set_option Elab.async false
set_option linter.all false
set_option maxRecDepth 100000
set_option maxHeartbeats 2000000
/-! defs as they stand behind the top, called by their promises; operators of any kind -/
namespace GX
open PySem PySem.Spec PyProof.Rows L2
/-! ### a def -/
structure Def (K : PySem.W.Frag) (mg : Str → Option Value) (x : Str) (st : Stmt) (f : Addr) (fd : FuncData) (c : Addr) : Prop where
  ex : ∃ (oc : Value) (od : Option Addr) (kV doc pm : Value) (an : Option Addr) (ct : Value) (osl : Array (Option Value)),
    fd = PySem.W.fnOf x x (defArgs st) (defBody st) (defScope st) .none kV doc pm an (.ref c) ct ∧ K.lookup f = some ⟨oc, od, .func fd, osl⟩ ∧ PySem.W.codeIn K (.ref c) x = true
  kp : PySem.W.keepIn K (.ref f) = true
  gm : mg x = some (.ref f)
theorem def_mk {K : PySem.W.Frag} {mg : Str → Option Value} {x : Str} {st : Stmt} {f c : Addr} {oc : Value} {od an : Option Addr} {osl : Array (Option Value)} {kV doc pm ct : Value}
    (l : K.lookup f = some ⟨oc, od, .func (PySem.W.fnOf x x (defArgs st) (defBody st) (defScope st) .none kV doc pm an (.ref c) ct), osl⟩) (hc : PySem.W.codeIn K (.ref c) x = true) (k : PySem.W.keepIn K (.ref f) = true) (g : mg x = some (.ref f)) :
    Def K mg x st f (PySem.W.fnOf x x (defArgs st) (defBody st) (defScope st) .none kV doc pm an (.ref c) ct) c := ⟨⟨oc, od, kV, doc, pm, an, ct, osl, rfl, l, hc⟩, k, g⟩
/-- a promise that is kept: called by the name x -/
structure Cal (P : Program) (w : World) (K : PySem.W.Frag) (mg : Str → Option Value) (base : Heap) (k : Nat) (x : Str) (sp : Sp) : Prop where
  ex : ∃ (f : Addr) (fd : FuncData) (ps : List Str), FnOk P w K mg base (L2.CX P w) k f fd ps sp ∧ mg x = some (.ref f) ∧ PySem.W.keepIn K (.ref f) = true ∧ Binds K fd ps []
section
variable {P : Program} {w : World} {K : PySem.W.Frag} {mg : Str → Option Value} {base : Heap}
theorem Cal.imp {k : Nat} {x : Str} {sp sp' : Sp} (c : Cal P w K mg base k x sp) (h : ∀ vs H Q E, sp' vs H Q E → sp vs H Q E) : Cal P w K mg base k x sp' := by
  obtain ⟨f, fd, ps, F, r⟩ := c.ex
  exact ⟨f, fd, ps, F.imp h, r⟩
/-- THE RULE for a def -/
theorem Def.okF {x : Str} {st : Stmt} {f c : Addr} {fd : FuncData} {N ps : List Str} {k : Nat} {sp : Sp} (D : Def K mg x st f fd c) (S : FnScope N ps (defScope st)) (len : ∀ vs H Q E, sp vs H Q E → vs.length = ps.length)
    (bd : ∀ (kV doc pm : Value) (an : Option Addr) (cdv ct : Value) (us : List Value), us.length = ps.length → bindArgs (PySem.W.fnOf x x (defArgs st) (defBody st) (defScope st) .none kV doc pm an cdv ct) ⟨us, []⟩ = pure (ps.zip us))
    (hbody : ∀ (A : Around) (outer : List Env) (s : Shared) (H : Hp) (vs : List V) (Q : VK) (E : XK), Room k (A.deeper (envOfC x (defScope st) s.heap.objs.size f (.ref c))) → sp vs H Q E →
      ∃ t, PSs (cxOf (L2.CX P w) P w K mg base N x (defScope st) f (.ref c) A outer s H E) (defBody st) t ∧ t { nx := fun _ H' => Q .non H', rt := Q } (start N vs) H) :
    FnOk P w K mg base (L2.CX P w) (k + 1) f fd ps sp ∧ (∀ us : List Value, us.length = ps.length → bindArgs fd ⟨us, []⟩ = pure (ps.zip us)) := by
  obtain ⟨⟨oc, od, kV, doc, pm, an, ct, osl, rfl, lk, hcd⟩, kp, gm⟩ := D
  exact ⟨fn_of lk hcd S len fun A outer s H vs Q E hr hsp => hbody A outer s H vs Q E hr hsp, bd kV doc pm an (.ref c) ct⟩
theorem Def.ok {x : Str} {st : Stmt} {f c : Addr} {fd : FuncData} {N ps : List Str} {k : Nat} {sp : Sp} (D : Def K mg x st f fd c) (S : FnScope N ps (defScope st)) (len : ∀ vs H Q E, sp vs H Q E → vs.length = ps.length)
    (bd : ∀ (kV doc pm : Value) (an : Option Addr) (cdv ct : Value) (us : List Value), us.length = ps.length → bindArgs (PySem.W.fnOf x x (defArgs st) (defBody st) (defScope st) .none kV doc pm an cdv ct) ⟨us, []⟩ = pure (ps.zip us))
    (hbody : ∀ (A : Around) (outer : List Env) (s : Shared) (H : Hp) (vs : List V) (Q : VK) (E : XK), Room k (A.deeper (envOfC x (defScope st) s.heap.objs.size f (.ref c))) → sp vs H Q E →
      ∃ t, PSs (cxOf (L2.CX P w) P w K mg base N x (defScope st) f (.ref c) A outer s H E) (defBody st) t ∧ t { nx := fun _ H' => Q .non H', rt := Q } (start N vs) H) : Cal P w K mg base (k + 1) x sp := by
  obtain ⟨F, b⟩ := Def.okF D S len bd hbody
  exact ⟨f, fd, ps, F, D.gm, D.kp, .all b⟩
end
section
variable {X : Cx} {k : Nat} {sp : Sp} {W : WX} {x : Str} {p pos : Pos} {e : Expr} {es : List Expr} {t : TA}
theorem pe_call (c : Cal X.prog X.w X.K X.mg X.base k x sp) (hr : Room k X.A) (tk : Takes X W) (ha : PA X (e :: es) t) (hg : Gl X x := by rfl) (hdb : (x == ("__debug__" : Str)) = false := by decide)
    (he : starEach (e :: es) X.env = (false, eval e X.env) :: starEach es X.env := by rfl) (hpl : (backTo pos (starEach es X.env)).any (·.1) = false := by rfl) : PE X (.Call (.Name x p) (e :: es) [] pos) (tCallS sp (WE W) t) := by
  obtain ⟨f, fd, ps, F, gm, kp, bd⟩ := c.ex
  exact pe_callS F hr hg gm kp bd (fun σ => passAt tk σ) ha hdb he hpl
theorem pe_call0 (c : Cal X.prog X.w X.K X.mg X.base k x sp) (hr : Room k X.A) (tk : Takes X W) (hg : Gl X x := by rfl) (hdb : (x == ("__debug__" : Str)) = false := by decide) : PE X (.Call (.Name x p) [] [] pos) (tCallS sp (WE W) tNil) := by
  obtain ⟨f, fd, ps, F, gm, kp, bd⟩ := c.ex
  refine ⟨fun pins s σ H Q I h => ?_⟩
  refine wpAny_Call_Name_kw (ld_glob I hg gm ?_ hdb)
  exact PySem.W.callWith_K0 I.kIn kp (run_fnS (us := []) F hr bd (passAt tk σ) I .nil h)
end
/-! ### operators of any kind -/
def rAddU (K : PySem.W.Frag) : R2 := fun x y H Q => match x, y with
  | .int i, .int j => Q (.int (i + j)) H
  | .str a, .str b => a.length + b.length ≤ sizeLine ∧ Q (.str (a ++ b)) H
  | .ref _, .ref _ => rCatT K x y H Q ∨ rCat x y H Q
  | _, _ => False
def rSubU : R2 := fun x y H Q => match x, y with
  | .int i, .int j => Q (.int (i - j)) H
  | _, _ => False
def rMulU : R2 := fun x y H Q => match x, y with
  | .int i, .int j => CMul i j ∧ Q (.int (i * j)) H
  | .ref _, .int _ => rRep x y H Q
  | _, _ => False
def rFdvU : R2 := fun x y H Q => match x, y with
  | .int i, .int j => CDiv i j ∧ Q (.int (i / j)) H
  | _, _ => False
def rModU : R2 := fun x y H Q => match x, y with
  | .int i, .int j => 0 < j ∧ Q (.int (i % j)) H
  | _, _ => False
def rPowU : R2 := fun x y H Q => match x, y with
  | .int i, .int j => CPow i j ∧ Q (.int (i ^ j.toNat)) H
  | _, _ => False
def rLtU : R2 := fun x y H Q => match x, y with
  | .int i, .int j => Q (.bl (decide (i < j))) H
  | _, _ => False
def rLeU : R2 := fun x y H Q => match x, y with
  | .int i, .int j => Q (.bl (decide (i ≤ j))) H
  | _, _ => False
def rGtU : R2 := fun x y H Q => match x, y with
  | .int i, .int j => Q (.bl (decide (j < i))) H
  | _, _ => False
def rGeU : R2 := fun x y H Q => match x, y with
  | .int i, .int j => Q (.bl (decide (j ≤ i))) H
  | _, _ => False
def rEqU (K : PySem.W.Frag) : R2 := fun x y H Q => match x, y with
  | .int i, .int j => Q (.bl (decide (i = j))) H
  | .str a, .str b => Q (.bl (decide (a = b))) H
  | .bl a, .bl b => Q (.bl (decide (a = b))) H
  | .ref _, .ref _ => rEqD K x y H Q
  | _, _ => rEq x y H Q
def rNeU (K : PySem.W.Frag) : R2 := fun x y H Q => match x, y with
  | .int i, .int j => Q (.bl (!decide (i = j))) H
  | .str a, .str b => Q (.bl (!decide (a = b))) H
  | .bl a, .bl b => Q (.bl (!decide (a = b))) H
  | .ref _, .ref _ => rNeD K x y H Q
  | _, _ => rNe x y H Q
theorem OpR.imp {X : Cx} {f : Value → Value → Sem Value} {r r' : R2} (h : OpR X f r) (hi : ∀ x y H Q, r' x y H Q → r x y H Q) : OpR X f r' :=
  fun pins s σ H x y v u Q I rx ry q => h pins s σ H x y v u Q I rx ry (hi _ _ _ _ q)
section
variable {X : Cx}
theorem opU_add : OpR X (binaryOp .Add) (rAddU X.K) := OpR.imp (OpR.or op_add (OpR.or op_add_str (OpR.or op_catT op_cat))) (by
  intro x y H Q h
  unfold rAddU at h
  split at h
  · exact .inl ⟨_, _, rfl, rfl, h⟩
  · exact .inr (.inl ⟨_, _, rfl, rfl, h⟩)
  · exact .inr (.inr h)
  · exact h.elim)
theorem opU_sub : OpR X (binaryOp .Sub) rSubU := OpR.imp op_sub (by
  intro x y H Q h
  unfold rSubU at h
  split at h
  · exact ⟨_, _, rfl, rfl, h⟩
  · exact h.elim)
theorem opU_mul : OpR X (binaryOp .Mult) rMulU := OpR.imp (OpR.or op_mul op_rep) (by
  intro x y H Q h
  unfold rMulU at h
  split at h
  · exact .inl ⟨_, _, rfl, rfl, h⟩
  · exact .inr h
  · exact h.elim)
theorem opU_fdv : OpR X (binaryOp .FloorDiv) rFdvU := OpR.imp op_fdiv (by
  intro x y H Q h
  unfold rFdvU at h
  split at h
  · exact ⟨_, _, rfl, rfl, h⟩
  · exact h.elim)
theorem opU_mod : OpR X (binaryOp .Mod) rModU := OpR.imp op_mod (by
  intro x y H Q h
  unfold rModU at h
  split at h
  · exact ⟨_, _, rfl, rfl, h⟩
  · exact h.elim)
theorem opU_pow : OpR X (binaryOp .Pow) rPowU := OpR.imp op_pow (by
  intro x y H Q h
  unfold rPowU at h
  split at h
  · exact ⟨_, _, rfl, rfl, h⟩
  · exact h.elim)
theorem opU_lt : OpR X (compareOp .Lt) rLtU := OpR.imp op_lt (by
  intro x y H Q h
  unfold rLtU at h
  split at h
  · exact ⟨_, _, rfl, rfl, h⟩
  · exact h.elim)
theorem opU_le : OpR X (compareOp .LtE) rLeU := OpR.imp op_le (by
  intro x y H Q h
  unfold rLeU at h
  split at h
  · exact ⟨_, _, rfl, rfl, h⟩
  · exact h.elim)
theorem opU_gt : OpR X (compareOp .Gt) rGtU := OpR.imp op_gt (by
  intro x y H Q h
  unfold rGtU at h
  split at h
  · exact ⟨_, _, rfl, rfl, h⟩
  · exact h.elim)
theorem opU_ge : OpR X (compareOp .GtE) rGeU := OpR.imp op_ge (by
  intro x y H Q h
  unfold rGeU at h
  split at h
  · exact ⟨_, _, rfl, rfl, h⟩
  · exact h.elim)
theorem opU_eq (hu : X.A.units + 64 < cLine) : OpR X (compareOp .Eq) (rEqU X.K) := OpR.imp (OpR.or op_eq (op_eqD hu)) (by
  intro x y H Q h
  unfold rEqU at h
  split at h
  · exact .inl ⟨rfl, by rename_i i j; rw [show decide (V.int i = V.int j) = decide (i = j) by simp]; exact h⟩
  · exact .inl ⟨rfl, by rename_i i j; rw [show decide (V.str i = V.str j) = decide (i = j) by simp]; exact h⟩
  · exact .inl ⟨rfl, by rename_i i j; rw [show decide (V.bl i = V.bl j) = decide (i = j) by simp]; exact h⟩
  · exact .inr h
  · exact .inl h)
theorem opU_ne (hu : X.A.units + 64 < cLine) : OpR X (compareOp .NotEq) (rNeU X.K) := OpR.imp (OpR.or op_ne (op_neD hu)) (by
  intro x y H Q h
  unfold rNeU at h
  split at h
  · exact .inl ⟨rfl, by rename_i i j; rw [show decide (V.int i = V.int j) = decide (i = j) by simp]; exact h⟩
  · exact .inl ⟨rfl, by rename_i i j; rw [show decide (V.str i = V.str j) = decide (i = j) by simp]; exact h⟩
  · exact .inl ⟨rfl, by rename_i i j; rw [show decide (V.bl i = V.bl j) = decide (i = j) by simp]; exact h⟩
  · exact .inr h
  · exact .inl h)
/-- text.index(part), the part there -/
def rSIndex : V → List V → Hp → VK → Prop := fun x xs H Q => ∃ a b i rest, x = .str a ∧ xs = [.str b] ∧ Builtin.Str.occurrences a b 0 a.length 1 = i :: rest ∧ Q (.int (i : Nat)) H
theorem mt_sindex : MtR X "str.index" rSIndex := by
  intro pins s σ H x xs v us Q I rx rs h
  obtain ⟨a, b, i, rest, rfl, rfl, ho, h⟩ := h
  obtain ⟨t, rfl⟩ := rx
  cases rs with
  | cons r1 rs =>
    cases rs
    obtain ⟨u, rfl⟩ := r1
    exact PySem.SC.index ho ⟨.int i, H, I.tok _, ⟨_, rfl⟩, h⟩
end
end GX
set_option Elab.async false
set_option linter.all false
set_option maxRecDepth 100000
set_option maxHeartbeats 2000000
/-! what stays; the turns of a generator over a text, a list, a tuple, a range -/
namespace GX
open PySem PySem.Spec PyProof.Rows L2
/-- all but A and the tables stays; tables stay tables -/
structure Ex (A : List Addr) (TL : List (Addr × Str)) (GT : List Addr) (H H' : Hp) : Prop where
  ext : ∀ b o, b ∉ A → H b = some o → (∀ ps, o ≠ .tbl ps) → H' b = some o
  tl : LamX.Tabs TL H → LamX.Tabs TL H'
  tg : (∀ P ∈ GT, H P = some (TblE P)) → ∀ P ∈ GT, H' P = some (TblE P)
/-- the tables stand -/
structure Tb (TL : List (Addr × Str)) (GT : List Addr) (H : Hp) : Prop where
  tl : LamX.Tabs TL H
  tg : ∀ P ∈ GT, H P = some (TblE P)
section
variable {A B : List Addr} {TL : List (Addr × Str)} {GT : List Addr} {H H1 H2 : Hp}
theorem Ex.refl : Ex A TL GT H H := ⟨fun _ _ _ h _ => h, fun h => h, fun h => h⟩
theorem Ex.trans (a : Ex A TL GT H H1) (b : Ex A TL GT H1 H2) : Ex A TL GT H H2 :=
  ⟨fun c o n h t => b.ext c o n (a.ext c o n h t) t, fun h => b.tl (a.tl h), fun h => b.tg (a.tg h)⟩
theorem Ex.mono (a : Ex A TL GT H H1) (h : ∀ x ∈ A, x ∈ B) : Ex B TL GT H H1 := ⟨fun c o n e t => a.ext c o (fun q => n (h _ q)) e t, a.tl, a.tg⟩
theorem Ex.any (a : Ex [] TL GT H H1) : Ex A TL GT H H1 := a.mono (by simp)
theorem Ex.tb (a : Ex A TL GT H H1) (t : Tb TL GT H) : Tb TL GT H1 := ⟨a.tl t.tl, a.tg t.tg⟩
theorem tabs_upd_new {p : Addr} {o : HO} (hp : H p = none) : LamX.Tabs TL H → LamX.Tabs TL (upd H p o) := fun h q hq => by
  obtain ⟨ps, e, ok, hc⟩ := h q hq
  refine ⟨ps, by rw [upd_ne (ne_of_none e hp)]; exact e, ok, fun pos cv hcv => ?_⟩
  obtain ⟨c, rfl, hc⟩ := hc pos cv hcv
  exact ⟨c, rfl, by rw [upd_ne (ne_of_none hc hp)]; exact hc⟩
/-- a new object -/
theorem Ex.new {p : Addr} {o : HO} (hp : H p = none) : Ex A TL GT H (upd H p o) :=
  ⟨fun b o' _ e _ => by rw [upd_ne (ne_of_none e hp)]; exact e, tabs_upd_new hp, fun h P hP => by
    rw [upd_ne (ne_of_none (h P hP) hp)]
    exact h P hP⟩
/-- an object changed that is no table and no code -/
theorem Ex.put {a : Addr} {o o' : HO} (ha : a ∈ A) (e : H a = some o) (h1 : ∀ ps, o ≠ .tbl ps) (h2 : ∀ φ, o ≠ .ext φ) : Ex A TL GT H (upd H a o') := by
  refine ⟨fun b ob nb eb _ => ?_, fun h q hq => ?_, fun h P hP => ?_⟩
  · have nz : b ≠ a := (fun z => nb (by rw [z]; exact ha))
    rw [upd_ne nz]; exact eb
  · obtain ⟨ps, eq, ok, hc⟩ := h q hq
    have n1 : q.1 ≠ a := fun z => by rw [z, e] at eq; exact h1 ps (Option.some.inj eq)
    refine ⟨ps, by rw [upd_ne n1]; exact eq, ok, fun pos cv hcv => ?_⟩
    obtain ⟨c, rfl, hc⟩ := hc pos cv hcv
    have n2 : c ≠ a := fun z => by rw [z, e] at hc; exact h2 _ (Option.some.inj hc)
    exact ⟨c, rfl, by rw [upd_ne n2]; exact hc⟩
  · have eq := h P hP
    have n1 : P ≠ a := fun z => by rw [z, e] at eq; exact h2 _ (Option.some.inj eq)
    rw [upd_ne n1]
    exact eq
theorem Ex.tup (a : Ex A TL GT H H1) {p : Addr} {xs : List V} (hp : p ∉ A) (e : H p = some (.tup xs)) : H1 p = some (.tup xs) := a.ext p _ hp e (fun _ q => by cases q)
theorem Ex.lst (a : Ex A TL GT H H1) {p : Addr} {xs : List V} (hp : p ∉ A) (e : H p = some (.lst xs)) : H1 p = some (.lst xs) := a.ext p _ hp e (fun _ q => by cases q)
end
section
variable {g : TG} {tt : TT} {te : TE} {vs : List Nat} {Yx : List V → V → Hp → Prop} {σ : L2.St} {H0 : Hp} {cont : List V → Hp → Prop}
theorem turns_str {z : Str} (Pv : Nat → List V → Hp → Prop) (h0 : Pv 0 [] H0)
    (hs : ∀ i c ys H, z.cps[i]? = some c → Pv i ys H → g (.str ⟨#[c]⟩) (wipe σ vs) H fun σ2 H2 => wipe σ2 vs = wipe σ vs ∧ tt σ2 H2 fun b H3 => if b = true then te σ2 H3 fun y H4 => ys.length < sizeLine ∧ Yx ys y H4 ∧ Pv (i + 1) (ys ++ [y]) H4 else Pv (i + 1) ys H3)
    (hd : ∀ ys H, Pv z.cps.size ys H → cont ys H) : tTurns g tt te vs Yx σ (Its z) H0 cont := by
  refine ⟨fun i m ys H => m = z.cps.size - i ∧ i ≤ z.cps.size ∧ Pv i ys H, ⟨_, rfl, Nat.zero_le _, h0⟩, ?_⟩
  rintro i m ys H ⟨rfl, hi, p⟩
  by_cases hlt : i < z.cps.size
  · refine .inr ⟨hlt, Pv (i + 1), fun ys' H' p' => ⟨z.cps.size - (i + 1), by omega, rfl, hlt, p'⟩, fun x H' y => ?_⟩
    obtain ⟨rfl, c, hc, rfl⟩ := y
    exact hs i c ys H' hc p
  · have e : i = z.cps.size := by omega
    subst e
    exact .inl ⟨Nat.le_refl _, hd _ _ p⟩
theorem turns_list {K : PySem.W.Frag} {a : Addr} {xs : List V} (Pv : Nat → List V → Hp → Prop) (h0 : Pv 0 [] H0) (hl : ∀ i ys H, i ≤ xs.length → Pv i ys H → SqL K H a xs)
    (hs : ∀ i x ys H, xs[i]? = some x → Pv i ys H → g x (wipe σ vs) H fun σ2 H2 => wipe σ2 vs = wipe σ vs ∧ tt σ2 H2 fun b H3 => if b = true then te σ2 H3 fun y H4 => ys.length < sizeLine ∧ Yx ys y H4 ∧ Pv (i + 1) (ys ++ [y]) H4 else Pv (i + 1) ys H3)
    (hd : ∀ ys H, Pv xs.length ys H → cont ys H) : tTurns g tt te vs Yx σ (Itl K a) H0 cont := by
  refine ⟨fun i m ys H => m = xs.length - i ∧ i ≤ xs.length ∧ Pv i ys H, ⟨_, rfl, Nat.zero_le _, h0⟩, ?_⟩
  rintro i m ys H ⟨rfl, hi, p⟩
  have q := hl i ys H hi p
  by_cases hlt : i < xs.length
  · refine .inr ⟨⟨xs, xs[i], q, by simp [hlt]⟩, Pv (i + 1), fun ys' H' p' => ⟨xs.length - (i + 1), by omega, rfl, hlt, p'⟩, fun x H' y => ?_⟩
    obtain ⟨rfl, hx⟩ := y
    exact hs i x ys H' (hx xs q) p
  · have e : i = xs.length := by omega
    subst e
    exact .inl ⟨⟨xs, q, Nat.le_refl _⟩, hd _ _ p⟩
theorem turns_tup {K : PySem.W.Frag} {a : Addr} {xs : List V} (Pv : Nat → List V → Hp → Prop) (h0 : Pv 0 [] H0) (hl : ∀ i ys H, i ≤ xs.length → Pv i ys H → SqT K H a xs)
    (hs : ∀ i x ys H, xs[i]? = some x → Pv i ys H → g x (wipe σ vs) H fun σ2 H2 => wipe σ2 vs = wipe σ vs ∧ tt σ2 H2 fun b H3 => if b = true then te σ2 H3 fun y H4 => ys.length < sizeLine ∧ Yx ys y H4 ∧ Pv (i + 1) (ys ++ [y]) H4 else Pv (i + 1) ys H3)
    (hd : ∀ ys H, Pv xs.length ys H → cont ys H) : tTurns g tt te vs Yx σ (Itt K a) H0 cont := by
  refine ⟨fun i m ys H => m = xs.length - i ∧ i ≤ xs.length ∧ Pv i ys H, ⟨_, rfl, Nat.zero_le _, h0⟩, ?_⟩
  rintro i m ys H ⟨rfl, hi, p⟩
  have q := hl i ys H hi p
  by_cases hlt : i < xs.length
  · refine .inr ⟨⟨xs, xs[i], q, by simp [hlt]⟩, Pv (i + 1), fun ys' H' p' => ⟨xs.length - (i + 1), by omega, rfl, hlt, p'⟩, fun x H' y => ?_⟩
    obtain ⟨rfl, hx⟩ := y
    exact hs i x ys H' (hx xs q) p
  · have e : i = xs.length := by omega
    subst e
    exact .inl ⟨⟨xs, q, Nat.le_refl _⟩, hd _ _ p⟩
theorem turns_range {lo : Int} {n : Nat} (Pv : Nat → List V → Hp → Prop) (h0 : Pv 0 [] H0)
    (hs : ∀ i ys H, i < n → Pv i ys H → g (.int (lo + i)) (wipe σ vs) H fun σ2 H2 => wipe σ2 vs = wipe σ vs ∧ tt σ2 H2 fun b H3 => if b = true then te σ2 H3 fun y H4 => ys.length < sizeLine ∧ Yx ys y H4 ∧ Pv (i + 1) (ys ++ [y]) H4 else Pv (i + 1) ys H3)
    (hd : ∀ ys H, Pv n ys H → cont ys H) : tTurns g tt te vs Yx σ (Itr lo n) H0 cont := by
  refine ⟨fun i m ys H => m = n - i ∧ i ≤ n ∧ Pv i ys H, ⟨_, rfl, Nat.zero_le _, h0⟩, ?_⟩
  rintro i m ys H ⟨rfl, hi, p⟩
  by_cases hlt : i < n
  · refine .inr ⟨hlt, Pv (i + 1), fun ys' H' p' => ⟨n - (i + 1), by omega, rfl, hlt, p'⟩, fun x H' y => ?_⟩
    obtain ⟨rfl, rfl⟩ := y
    exact hs i ys H' hlt p
  · have e : i = n := by omega
    subst e
    exact .inl ⟨Nat.le_refl _, hd _ _ p⟩
theorem pe_gl {X : Cx} {x : Str} {v : V} {pos : Pos} (hg : Gl X x) (h : ∃ u, X.mg x = some u ∧ RelV v u) (hd : (x == ("__debug__" : Str)) = false := by decide) : PE X (.Name x pos) (tC v) := by
  obtain ⟨u, hm, r⟩ := h
  exact pe_glob hg hm r hd
theorem cx_K {CX : CXT} {P : Program} {w : World} {K : PySem.W.Frag} {mg : Str → Option Value} {base : Heap} {N : List Str} {qual : Str} {scope : Scope} {f : Addr} {cd : Value} {A : Around} {outer : List Env} {s : Shared} {H : Hp} {E : XK} :
    (cxOf CX P w K mg base N qual scope f cd A outer s H E).K = K := rfl
theorem gcx_K {X : Cx} {A : Around} {s : Shared} {H : Hp} {E : XK} {scope : Scope} {L : Addr} {code : Value} {bi : Addr} {pn : List (Addr × Obj)} : (gCx X A s H E scope L code bi pn).K = X.K := rfl
theorem sz (n : Nat) (h : n ≤ 16777216 := by decide) : n ≤ sizeLine := by rw [sizeLine_eq]; exact h
section
variable {K : PySem.W.Frag} {H : Hp} {p : Addr} {xs : List V} {i : Int} {v : V} {Q : VK}
theorem rIx_tup (hs : SqT K H p xs) (h : atI xs i = some v) (q : Q v H) : rIx K (.ref p) (.int i) H Q := .inr (.inl ⟨p, xs, i, v, rfl, rfl, hs, h, q⟩)
theorem rIx_lst (hs : SqL K H p xs) (h : atI xs i = some v) (q : Q v H) : rIx K (.ref p) (.int i) H Q := .inl ⟨p, xs, i, v, rfl, rfl, hs, h, q⟩
theorem rIx_str {z : Str} {c : Nat} (hz : z.length ≤ sizeLine) (h : atI z.cps.toList i = some c) (q : Q (.str ⟨#[c]⟩) H) : rIx K (.str z) (.int i) H Q := .inr (.inr ⟨z, i, c, rfl, rfl, hz, h, q⟩)
theorem lst_at (h : H p = some (.lst xs)) : SqL K H p xs := .inl (.of h)
theorem tup_at (h : H p = some (.tup xs)) : SqT K H p xs := .inl (.of h)
end
section
variable {K : PySem.W.Frag} {H : Hp} {Q : VK} {i j : Int} {a b : Str} {k l : Bool} {p q : Addr}
theorem addU_int : rAddU K (.int i) (.int j) H Q = Q (.int (i + j)) H := rfl
theorem addU_str : rAddU K (.str a) (.str b) H Q = (a.length + b.length ≤ sizeLine ∧ Q (.str (a ++ b)) H) := rfl
theorem addU_ref : rAddU K (.ref p) (.ref q) H Q = (rCatT K (.ref p) (.ref q) H Q ∨ rCat (.ref p) (.ref q) H Q) := rfl
theorem subU_int : rSubU (.int i) (.int j) H Q = Q (.int (i - j)) H := rfl
theorem mulU_int : rMulU (.int i) (.int j) H Q = (CMul i j ∧ Q (.int (i * j)) H) := rfl
theorem mulU_ref : rMulU (.ref p) (.int j) H Q = rRep (.ref p) (.int j) H Q := rfl
theorem fdvU_int : rFdvU (.int i) (.int j) H Q = (CDiv i j ∧ Q (.int (i / j)) H) := rfl
theorem modU_int : rModU (.int i) (.int j) H Q = (0 < j ∧ Q (.int (i % j)) H) := rfl
theorem powU_int : rPowU (.int i) (.int j) H Q = (CPow i j ∧ Q (.int (i ^ j.toNat)) H) := rfl
theorem ltU_int : rLtU (.int i) (.int j) H Q = Q (.bl (decide (i < j))) H := rfl
theorem leU_int : rLeU (.int i) (.int j) H Q = Q (.bl (decide (i ≤ j))) H := rfl
theorem gtU_int : rGtU (.int i) (.int j) H Q = Q (.bl (decide (j < i))) H := rfl
theorem geU_int : rGeU (.int i) (.int j) H Q = Q (.bl (decide (j ≤ i))) H := rfl
theorem eqU_int : rEqU K (.int i) (.int j) H Q = Q (.bl (decide (i = j))) H := rfl
theorem eqU_str : rEqU K (.str a) (.str b) H Q = Q (.bl (decide (a = b))) H := rfl
theorem eqU_bl : rEqU K (.bl k) (.bl l) H Q = Q (.bl (decide (k = l))) H := rfl
theorem eqU_ref : rEqU K (.ref p) (.ref q) H Q = rEqD K (.ref p) (.ref q) H Q := rfl
theorem neU_int : rNeU K (.int i) (.int j) H Q = Q (.bl (!decide (i = j))) H := rfl
theorem neU_str : rNeU K (.str a) (.str b) H Q = Q (.bl (!decide (a = b))) H := rfl
theorem neU_bl : rNeU K (.bl k) (.bl l) H Q = Q (.bl (!decide (k = l))) H := rfl
theorem neU_ref : rNeU K (.ref p) (.ref q) H Q = rNeD K (.ref p) (.ref q) H Q := rfl
theorem setL_at {i v : V} {xs : List V} {n : Int} {j : Nat} {R : Hp → Prop} (h : H p = some (.lst xs)) (hi : i = .int n) (hj : ixN xs.length n = some j) (q : R (upd H p (.lst (xs.set j v)))) : rSetL (.ref p) i v H R := ⟨p, xs, n, j, rfl, hi, h, hj, q⟩
end
/-! ### loops, folded -/
def Loop (g : TG) (tb : TS) (D : Ends) (J : It) (σ : L2.St) (H1 : Hp) : Prop := ∃ W : Nat → Nat → L2.St → Hp → Prop, (∃ m, W 0 m σ H1) ∧ ∀ i m σ H, W i m σ H →
  (J.stop i H ∧ D.nx σ H) ∨ (J.go i H ∧ ∃ N : L2.St → Hp → Prop, (∀ σ' H', N σ' H' → ∃ m', m' < m ∧ W (i + 1) m' σ' H') ∧ ∀ x H', J.yld i H x H' → g x σ H' fun σ2 H2 => tb { D with nx := N, ct := N, bk := D.nx } σ2 H2)
theorem tFor_eq {wi : TI} {g : TG} {tb : TS} {D : Ends} {σ : L2.St} {H : Hp} : tFor wi g tb D σ H = wi σ H fun J H1 => Loop g tb D J σ H1 := rfl
theorem loop_list {K : PySem.W.Frag} {a : Addr} {xs : List V} {g : TG} {tb : TS} {D : Ends} {σ : L2.St} {H : Hp} (Pv : Nat → L2.St → Hp → Prop) (h0 : Pv 0 σ H) (hl : ∀ i σ H, i ≤ xs.length → Pv i σ H → SqL K H a xs)
    (hs : ∀ i x σ H, xs[i]? = some x → Pv i σ H → g x σ H fun σ2 H2 => tb { D with nx := Pv (i + 1), ct := Pv (i + 1), bk := D.nx } σ2 H2) (hd : ∀ σ H, Pv xs.length σ H → D.nx σ H) : Loop g tb D (Itl K a) σ H := for_list Pv h0 hl hs hd
theorem loop_tup {K : PySem.W.Frag} {a : Addr} {xs : List V} {g : TG} {tb : TS} {D : Ends} {σ : L2.St} {H : Hp} (Pv : Nat → L2.St → Hp → Prop) (h0 : Pv 0 σ H) (hl : ∀ i σ H, i ≤ xs.length → Pv i σ H → SqT K H a xs)
    (hs : ∀ i x σ H, xs[i]? = some x → Pv i σ H → g x σ H fun σ2 H2 => tb { D with nx := Pv (i + 1), ct := Pv (i + 1), bk := D.nx } σ2 H2) (hd : ∀ σ H, Pv xs.length σ H → D.nx σ H) : Loop g tb D (Itt K a) σ H := for_tup Pv h0 hl hs hd
theorem loop_range {lo : Int} {n : Nat} {g : TG} {tb : TS} {D : Ends} {σ : L2.St} {H : Hp} (Pv : Nat → L2.St → Hp → Prop) (h0 : Pv 0 σ H)
    (hs : ∀ i σ H, i < n → Pv i σ H → g (.int (lo + i)) σ H fun σ2 H2 => tb { D with nx := Pv (i + 1), ct := Pv (i + 1), bk := D.nx } σ2 H2) (hd : ∀ σ H, Pv n σ H → D.nx σ H) : Loop g tb D (Itr lo n) σ H := for_range Pv h0 hs hd
def LcLoop (g : TG) (tt : TT) (te : TE) (vs : List Nat) (J : It) (σ : L2.St) (H1 : Hp) (D : Addr) (Q : Hp → Prop) : Prop := ∃ W : Nat → Nat → Hp → Prop, (∃ m, W 0 m (upd H1 D (.lst []))) ∧ ∀ i m H, W i m H →
  (J.stop i H ∧ Q H) ∨ (J.go i H ∧ ∃ Nx : Hp → Prop, (∀ H', Nx H' → ∃ m', m' < m ∧ W (i + 1) m' H') ∧ ∀ x H', J.yld i H x H' → g x (wipe σ vs) H' fun σ2 H2 => wipe σ2 vs = wipe σ vs ∧ tt σ2 H2 fun b H3 =>
    if b = true then te σ2 H3 fun y H4 => ∃ acc, H4 D = some (.lst acc) ∧ acc.length < sizeLine ∧ Nx (upd H4 D (.lst (acc ++ [y]))) else Nx H3)
theorem tLc_eq {wi : TI} {g : TG} {tt : TT} {te : TE} {vs : List Nat} {σ : L2.St} {H : Hp} {Q : VK} : tLc wi g tt te vs σ H Q = wi σ H fun J H1 => ∀ D, H1 D = none → LcLoop g tt te vs J σ H1 D (Q (.ref D)) := rfl
theorem lcl_list {K : PySem.W.Frag} {a : Addr} {xs : List V} {g : TG} {tt : TT} {te : TE} {vs : List Nat} {σ : L2.St} {H1 : Hp} {D : Addr} {Qd : Hp → Prop} (Pv : Nat → Hp → Prop) (h0 : Pv 0 (upd H1 D (.lst []))) (hl : ∀ i H, i ≤ xs.length → Pv i H → SqL K H a xs)
    (hs : ∀ i x H, xs[i]? = some x → Pv i H → g x (wipe σ vs) H fun σ2 H2 => wipe σ2 vs = wipe σ vs ∧ tt σ2 H2 fun b H3 =>
      if b = true then te σ2 H3 fun y H4 => ∃ acc, H4 D = some (.lst acc) ∧ acc.length < sizeLine ∧ Pv (i + 1) (upd H4 D (.lst (acc ++ [y]))) else Pv (i + 1) H3) (hd : ∀ H, Pv xs.length H → Qd H) : LcLoop g tt te vs (Itl K a) σ H1 D Qd := lc_list Pv h0 hl hs hd
theorem lcl_tup {K : PySem.W.Frag} {a : Addr} {xs : List V} {g : TG} {tt : TT} {te : TE} {vs : List Nat} {σ : L2.St} {H1 : Hp} {D : Addr} {Qd : Hp → Prop} (Pv : Nat → Hp → Prop) (h0 : Pv 0 (upd H1 D (.lst []))) (hl : ∀ i H, i ≤ xs.length → Pv i H → SqT K H a xs)
    (hs : ∀ i x H, xs[i]? = some x → Pv i H → g x (wipe σ vs) H fun σ2 H2 => wipe σ2 vs = wipe σ vs ∧ tt σ2 H2 fun b H3 =>
      if b = true then te σ2 H3 fun y H4 => ∃ acc, H4 D = some (.lst acc) ∧ acc.length < sizeLine ∧ Pv (i + 1) (upd H4 D (.lst (acc ++ [y]))) else Pv (i + 1) H3) (hd : ∀ H, Pv xs.length H → Qd H) : LcLoop g tt te vs (Itt K a) σ H1 D Qd := lc_tup Pv h0 hl hs hd
theorem lcl_range {lo : Int} {n : Nat} {g : TG} {tt : TT} {te : TE} {vs : List Nat} {σ : L2.St} {H1 : Hp} {D : Addr} {Qd : Hp → Prop} (Pv : Nat → Hp → Prop) (h0 : Pv 0 (upd H1 D (.lst [])))
    (hs : ∀ i H, i < n → Pv i H → g (.int (lo + i)) (wipe σ vs) H fun σ2 H2 => wipe σ2 vs = wipe σ vs ∧ tt σ2 H2 fun b H3 =>
      if b = true then te σ2 H3 fun y H4 => ∃ acc, H4 D = some (.lst acc) ∧ acc.length < sizeLine ∧ Pv (i + 1) (upd H4 D (.lst (acc ++ [y]))) else Pv (i + 1) H3) (hd : ∀ H, Pv n H → Qd H) : LcLoop g tt te vs (Itr lo n) σ H1 D Qd := lc_range Pv h0 hs hd
theorem lcl_str {z : Str} {g : TG} {tt : TT} {te : TE} {vs : List Nat} {σ : L2.St} {H1 : Hp} {D : Addr} {Qd : Hp → Prop} (Pv : Nat → Hp → Prop) (h0 : Pv 0 (upd H1 D (.lst [])))
    (hs : ∀ i c H, z.cps[i]? = some c → Pv i H → g (.str ⟨#[c]⟩) (wipe σ vs) H fun σ2 H2 => wipe σ2 vs = wipe σ vs ∧ tt σ2 H2 fun b H3 =>
      if b = true then te σ2 H3 fun y H4 => ∃ acc, H4 D = some (.lst acc) ∧ acc.length < sizeLine ∧ Pv (i + 1) (upd H4 D (.lst (acc ++ [y]))) else Pv (i + 1) H3) (hd : ∀ H, Pv z.cps.size H → Qd H) : LcLoop g tt te vs (Its z) σ H1 D Qd := by
  refine ⟨fun i m H => m = z.cps.size - i ∧ i ≤ z.cps.size ∧ Pv i H, ⟨_, rfl, Nat.zero_le _, h0⟩, ?_⟩
  rintro i m H ⟨rfl, hi, p⟩
  by_cases hlt : i < z.cps.size
  · refine .inr ⟨hlt, Pv (i + 1), fun H' p' => ⟨z.cps.size - (i + 1), by omega, rfl, hlt, p'⟩, fun x H' y => ?_⟩
    obtain ⟨rfl, c, hc, rfl⟩ := y
    exact hs i c H' hc p
  · have e : i = z.cps.size := by omega
    subst e
    exact .inl ⟨Nat.le_refl _, hd _ p⟩
/-- int(v) -/
def rIntU : List V → Hp → VK → Prop := fun xs H Q => match xs with
  | [.int i] => Q (.int i) H
  | [.bl k] => Q (.int (if k then 1 else 0)) H
  | _ => False
theorem call_intU {X : Cx} : CallR X (.type "int") rIntU := by
  intro pins s σ H xs us Q I rs h
  refine call_int1 pins s σ H xs us Q I rs ?_
  unfold rIntU at h
  split at h
  · exact .inl ⟨_, rfl, h⟩
  · exact .inr ⟨_, rfl, h⟩
  · exact h.elim
theorem intU_int {H : Hp} {Q : VK} {i : Int} : rIntU [.int i] H Q = Q (.int i) H := rfl
theorem intU_bl {H : Hp} {Q : VK} {k : Bool} : rIntU [.bl k] H Q = Q (.int (if k then 1 else 0)) H := rfl
theorem Ex.sqt {A : List Addr} {TL : List (Addr × Str)} {GT : List Addr} {H H1 : Hp} {K : PySem.W.Frag} {p : Addr} {xs : List V} (a : Ex A TL GT H H1) (hp : p ∉ A) (e : SqT K H p xs) : SqT K H1 p xs := by
  rcases e with (e | ⟨o, e⟩) | e
  · exact .inl (.inl (a.ext p _ hp e (fun _ q => by cases q)))
  · exact .inl (.inr ⟨o, a.ext p _ hp e (fun _ q => by cases q)⟩)
  · exact .inr e
theorem Ex.sql {A : List Addr} {TL : List (Addr × Str)} {GT : List Addr} {H H1 : Hp} {K : PySem.W.Frag} {p : Addr} {xs : List V} (a : Ex A TL GT H H1) (hp : p ∉ A) (e : SqL K H p xs) : SqL K H1 p xs := by
  rcases e with (e | ⟨o, e⟩) | e
  · exact .inl (.inl (a.ext p _ hp e (fun _ q => by cases q)))
  · exact .inl (.inr ⟨o, a.ext p _ hp e (fun _ q => by cases q)⟩)
  · exact .inr e
theorem map_at {α β : Type} {f : α → β} {l : List α} {i : Nat} {x : β} (h : (l.map f)[i]? = some x) : ∃ z, l[i]? = some z ∧ x = f z := by
  rw [List.getElem?_map] at h
  cases e : l[i]? with
  | none => rw [e] at h; cases h
  | some z => rw [e] at h; exact ⟨z, rfl, (Option.some.inj h).symm⟩
theorem take_more {α : Type} {l : List α} {i : Nat} {x : α} (h : l[i]? = some x) : l.take (i + 1) = l.take i ++ [x] := by
  rw [List.take_add_one, h]; rfl
/-- over the top: a list that is younger than H changes -/
theorem Ex.over {A : List Addr} {TL : List (Addr × Str)} {GT : List Addr} {H H1 : Hp} {D : Addr} {o o' : HO} (a : Ex A TL GT H H1) (hd : H D = none) (e : H1 D = some o) (h1 : ∀ ps, o ≠ .tbl ps) (h2 : ∀ φ, o ≠ .ext φ) : Ex A TL GT H (upd H1 D o') := by
  refine ⟨fun b ob nb eb ne => ?_, fun h => ?_, fun h => ?_⟩
  · rw [upd_ne (ne_of_none eb hd)]; exact a.ext b ob nb eb ne
  · exact (Ex.put (A := [D]) (TL := TL) (GT := GT) (o' := o') (by simp) e h1 h2).tl (a.tl h)
  · exact (Ex.put (A := [D]) (TL := TL) (GT := GT) (o' := o') (by simp) e h1 h2).tg (a.tg h)
theorem Ex.overL {A : List Addr} {TL : List (Addr × Str)} {GT : List Addr} {H H1 : Hp} {D : Addr} {xs : List V} {o' : HO} (a : Ex A TL GT H H1) (hd : H D = none) (e : H1 D = some (.lst xs)) : Ex A TL GT H (upd H1 D o') :=
  a.over hd e (fun _ q => by cases q) (fun _ q => by cases q)
/-! ### the written part by its name -/
theorem opK {X : Cx} {f : Value → Value → Sem Value} {K : PySem.W.Frag} {r : PySem.W.Frag → R2} (h : OpR X f (r X.K)) (e : X.K = K) : OpR X f (r K) := by
  rw [← e]; exact h
theorem ixK {X : Cx} {K : PySem.W.Frag} {r : PySem.W.Frag → R2} (h : IxR X (r X.K)) (e : X.K = K) : IxR X (r K) := by
  rw [← e]; exact h
theorem slK {X : Cx} {K : PySem.W.Frag} {r : PySem.W.Frag → V → Option Int → Option Int → Hp → VK → Prop} (h : SlR X (r X.K)) (e : X.K = K) : SlR X (r K) := by
  rw [← e]; exact h
def rLenU (K : PySem.W.Frag) : List V → Hp → VK → Prop := fun xs H Q => ∃ x n, xs = [x] ∧ LenV K x H n ∧ Q (.int (n : Nat)) H
theorem call_lenU {X : Cx} {K : PySem.W.Frag} (e : X.K = K) : CallR X (.builtin "len") (rLenU K) := by
  rw [← e]; exact call_len
def tTruU (K : PySem.W.Frag) (ta : TE) : TT := fun σ H Q => ta σ H fun x H' => ∃ k, TruV K x H' k ∧ Q k H'
theorem pt_truU {X : Cx} {K : PySem.W.Frag} {a : Expr} {ta : TE} (e : X.K = K) (h : PT X a (tTruU X.K ta)) : PT X a (tTruU K ta) := by
  rw [← e]; exact h
theorem tupOfK {X : Cx} {K : PySem.W.Frag} {a : Expr} {ta : TE} {p pos : Pos} (e : X.K = K) (h : PE X (.Call (.Name "tuple" p) [a] [] pos) (tThen ta (kTup X.K))) : PE X (.Call (.Name "tuple" p) [a] [] pos) (tThen ta (kTup K)) := by
  rw [← e]; exact h
def tTupL (K : PySem.W.Frag) (ta : TE) : TE := fun σ H Q => ta σ H fun x H1 => ∃ p xs, x = .ref p ∧ SqL K H1 p xs ∧ ∀ q, H1 q = none → Q (.ref q) (upd H1 q (.tup xs))
theorem pe_tupL {X : Cx} {K : PySem.W.Frag} {a : Expr} {ta : TE} {p pos : Pos} (e : X.K = K) (hg : Gl X "tuple") (hm : X.mg "tuple" = none) (ha : PE X a ta) (na : starEach [a] X.env = (false, eval a X.env) :: starEach [] X.env := by rfl) :
    PE X (.Call (.Name "tuple" p) [a] [] pos) (tTupL K ta) := by
  subst e
  refine ⟨fun pins s σ H Q I h => ?_⟩
  exact Call_ (ld_blt I hg hm boot_tuple (PyProof.Rows.callWith_type1 (one_arg ha I h (fun v s2 x H2 I2 r q => rl_tuple pins s2 σ H2 x v Q I2 r (.inl q)) na) na))
theorem ex2eq {α β : Type} {a : α} {b : β} {P : α → β → Prop} : (∃ v w, (a = v ∧ b = w) ∧ P v w) ↔ P a b := ⟨fun ⟨_, _, ⟨rfl, rfl⟩, h⟩ => h, fun h => ⟨a, b, ⟨rfl, rfl⟩, h⟩⟩
theorem roomEq {k : Nat} {A : Around} (hr : Room k A) : A.units + 64 < cLine := by have := hr.un; omega
end
end GX
set_option Elab.async false
set_option linter.all false
set_option maxRecDepth 100000
set_option maxHeartbeats 2000000
/-! a def that calls what it got and tells an error by a word -/
namespace GX
open PySem PySem.Spec PyProof.Rows L2
structure Told (K : PySem.W.Frag) (mg : Str → Option Value) (x a e ret : Str) (CS : Addr) : Prop where
  ex : ∃ (g cg : Addr) (fd : FuncData) (st : Stmt) (Ng : List Str) (p1 p2 p3 p4 p5 p6 p7 p8 : Pos), Def K mg x st g fd cg ∧
    defBody st = [.Try [.Return (some (.Call (.Name a p1) [] [] p2)) p3] [.ExceptHandler (some (.Name e p4)) none [.Return (some (.Constant (.str ret) 0 p5)) p6] p7] [] [] p8] ∧ FnScope Ng [a] (defScope st) ∧ Ng[0]? = some a ∧ Vis (defScope st) a ∧
    (defScope st).names.lookup e = some .globalImplicit ∧ (∀ f : Addr, (L2.start Ng [V.ref f])[0]? = some (some (V.ref f))) ∧
    (∀ (kV doc pm : Value) (an : Option Addr) (cdv ct : Value) (us : List Value), us.length = [a].length → bindArgs (PySem.W.fnOf x x (defArgs st) (defBody st) (defScope st) .none kV doc pm an cdv ct) ⟨us, []⟩ = pure ([a].zip us))
  me : mg e = some (.ref CS)
  de : (e == ("__debug__" : Str)) = false
  da : (a == ("__debug__" : Str)) = false
  dx : (x == ("__debug__" : Str)) = false
  dc : (a == ("__classdict__" : Str)) = false
theorem pe_told {X : Cx} {x a e ret : Str} {CS c P : Addr} {TL : List (Addr × Str)} {k : Nat} {params : Arguments} {body : Expr} {scope : Scope} {t : XK → TE} {p lpos pos : Pos} (T : Told X.K X.mg x a e ret CS) (hg : Gl X x)
    (TB : LamX.TabB X.base X.mg c P) (hcode : X.env.code = .ref c) (hmT : (P, X.env.qual ++ "<lambda>") ∈ TL) (hu : ∀ p ∈ TL, p.1 = P → p.2 = X.env.qual ++ "<lambda>") (hr : Room (k + 2) X.A) (L : LamX.LamS X.env.scope scope) (hdef : defaultsOf params X.env = ([], []))
    (hbind : ∀ (q : Str) (cl : List (Str × Addr)) (pm cv ctv : Value), bindArgs (PySem.W.kla_fn "<lambda>" q params body scope cl pm cv ctv) ⟨[], []⟩ = pure [])
    (hbody : ∀ (A : Around) (outer : List Env) (s : Shared) (H : Hp) (E : XK) (f c' : Addr), Room k (A.deeper (LamX.lamEnv X scope s.heap.objs.size f c')) → PE (LamX.lamCx X A outer s H E scope f c') body (t E)) :
    PE X (.Call (.Name x p) [.Lambda params body scope lpos] [] pos) (LamX.tLam TL (LamX.TTold X.K CS ret) t) := by
  obtain ⟨⟨g, cg, fd, st, Ng, p1, p2, p3, p4, p5, p6, p7, p8, D, hb, S, h1, h2, h3, h4, h5⟩, me, de, da, dx, dc⟩ := T
  obtain ⟨⟨oc, od, kV, doc, pm, an, ct, osl, rfl, lk, hcd⟩, kp, gm⟩ := D
  refine LamX.pe_lamcall (a := a) hg gm kp lk hcd (.all (h5 kV doc pm an (.ref cg) ct)) S h1 h2 ?_ TB hcode hmT hu hr L hdef hbind hbody dx da dc
  rw [hb]
  exact LamX.told_gives h3 me de h4
theorem takes_lam {X : Cx} {A : Around} {outer : List Env} {s : Shared} {H : Hp} {E : XK} {scope : Scope} {f c' : Addr} : Takes (LamX.lamCx X A outer s H E scope f c') (fun cls d _ H => E cls d H) := takes_of rfl rfl rfl rfl
theorem lcx_K {X : Cx} {A : Around} {outer : List Env} {s : Shared} {H : Hp} {E : XK} {scope : Scope} {f c' : Addr} : (LamX.lamCx X A outer s H E scope f c').K = X.K := rfl
/-- the table of lambdas and its like, as yet empty -/
theorem tabs_empty {TL : List (Addr × Str)} {H : Hp} (h : ∀ p ∈ TL, H p.1 = some (.tbl #[])) : LamX.Tabs TL H := fun p hp => ⟨#[], h p hp, by first | exact trivial | (intro _ h; cases h) | simp [PyProof.Rows.TriplesOk] , fun pos cv hcv => by cases hcv⟩
theorem ExtN.ex {A : List Addr} {TL : List (Addr × Str)} {GT : List Addr} {H H1 : Hp} (e : LamX.ExtN H H1) (t : LamX.Tabs TL H1) : Ex A TL GT H H1 := ⟨fun b o _ eb ne => e b o eb ne, fun _ => t, fun h P hP => e P _ (h P hP) (fun _ z => by cases z)⟩
end GX
set_option Elab.async false
set_option linter.all false
set_option maxRecDepth 100000
set_option maxHeartbeats 2000000
/-! the head: defs, tables, FileError, by one look at the heap behind the top -/
namespace GX
open PySem PySem.Spec PyProof.Rows L2
/-- a def of the top as a datum -/
def dd (x : Str) (st : Stmt) : He.DefD := ⟨(x, none), x, x, defArgs st, defBody st, defScope st, [], []⟩
theorem def_funD {K : PySem.W.Frag} {mg : Str → Option Value} {x : Str} {st : Stmt} {f : Addr} {fd : FuncData} (F : FunD K x x (defArgs st) (defBody st) (defScope st) [] [] f fd) (gm : mg x = some (.ref f)) :
    ∃ c, Def K mg x st f fd c ∧ fd.code = .ref c := by
  obtain ⟨⟨oc, od, dV, kV, doc, pm, an, cdv, ct, osl, rfl, lk, hcd, hD, hK⟩, kp⟩ := F
  obtain ⟨c, rfl⟩ := He.codeIn_ref hcd
  rcases hD with ⟨_, rfl⟩ | ⟨e, _⟩
  · exact ⟨c, ⟨⟨oc, od, kV, doc, pm, an, ct, osl, rfl, lk, hcd⟩, kp, gm⟩, rfl⟩
  · exact absurd rfl e
/-! ### FileError -/
def clsB (K : PySem.W.Frag) (C : Addr) : Bool := match K.lookup C with
  | some ⟨.type t, _, .cls cd, sl⟩ => (match cd.mro, sl.toList with
    | .ref C' :: bm, [_, _, _, _, some (.builtin n), _] => t == "type" && (C' == C && (n == "ValueError.__new__" && (cd.hasDict && (!cd.hasDel && HandSPX.refsVE bm))))
    | _, _ => false)
  | _ => false
theorem clsB_ok {K : PySem.W.Frag} {C : Addr} (q : clsB K C = true) : ∃ nm q N bs bm sn sub ab col dd k0 k1 k2 k3 k5, K.lookup C = some (excClassObj nm q C N bs bm true sn sub ab col dd k0 k1 k2 k3 k5 "ValueError.__new__") ∧ HandSPX.refsVE bm = true := by
  unfold clsB at q
  split at q
  · rename_i t dd cd sl ho
    split at q
    · rename_i C' bm k0 k1 k2 k3 n k5 hm hs
      simp only [Bool.and_eq_true, beq_iff_eq, Bool.not_eq_true'] at q
      obtain ⟨rfl, rfl, rfl, hd, hdel, ht⟩ := q
      obtain ⟨nm, bs, mro, ns, qn, hdd, sn, sub, ab, col, del⟩ := cd
      dsimp only at hm hdel hd
      subst hm hdel hd
      have hsl : sl = #[k0, k1, k2, k3, some (.builtin "ValueError.__new__"), k5] := by
        obtain ⟨l⟩ := sl
        simp only at hs
        rw [hs]
      subst hsl
      exact ⟨nm, qn, ns, bs, bm, sn, sub, ab, col, dd, k0, k1, k2, k3, k5, ho, ht⟩
    · cases q
  · cases q
abbrev IniW : Type := Option (Str × Str × Arguments × FuncBody × Scope × Addr × Addr × List Str)
def iniC (K : PySem.W.Frag) : Addr := He.ga K "FileError"
def iniF (K : PySem.W.Frag) : Addr := He.ma K (iniC K) "__init__"
def iniW (K : PySem.W.Frag) : IniW := match K.lookup (iniF K) with
  | some ⟨_, _, .func fd, _⟩ => some (fd.name, fd.qualname, fd.params, fd.body, fd.scope, fd.globals, fd.builtins, fd.closure.map (·.1))
  | _ => none
def iniV (st : Stmt) : IniW := some ("__init__", "FileError.__init__", defArgs st, .stmts (defBody st), defScope st, mainGlobals, builtinsNs, ["__class__"])
def iniB (file : Str) (K : PySem.W.Frag) : Bool := match K.lookup (iniF K) with
  | some ⟨_, _, .func fd, _⟩ => (match fd.defaults, fd.kwdefaults, fd.code, fd.closure with
    | .none, .none, .ref cda, [(_, cc)] => PySem.W.codeIn K (.ref cda) "FileError.__init__" && ((match K.lookup cda with
        | some ⟨_, _, .fields vs, _⟩ => (match (vs[2]? : Option Value) with
          | some (.str f _) => file == f
          | _ => false)
        | _ => false) && (match K.lookup cc with
        | some ⟨_, _, .cell (some (.ref C)), _⟩ => C == iniC K
        | _ => false))
    | _, _, _, _ => false)
  | _ => false
def fileB (file : Str) (K : PySem.W.Frag) : Bool :=
  (clsB K (iniC K) && iniB file K) && ((decide (PySem.W.ks_superIn K (iniC K) (iniC K) "__init__" = some (some (.builtin "ValueError.__init__"))) && decide (PySem.W.findIn K (.ref (iniC K)) "__setattr__" = some (some (.builtin "object.__setattr__")))) &&
  ((decide (PySem.W.findIn K (.ref (iniC K)) "word" = some none) && decide (PySem.W.findIn K (.ref (iniC K)) "__init__" = some (some (.ref (iniF K))))) && ((decide (PySem.W.typeIn K (.ref (iniF K)) = some (.type "function")) && PySem.W.keepIn K (.ref (iniC K))) &&
  ((decide (PySem.W.subIn K (.ref (iniC K)) (.type "BaseException") = some true) && decide (PySem.W.subIn K (.ref (iniC K)) (.type "ValueError") = some true)) && ((decide (PySem.W.mroIn K (iniC K) (.ref (iniC K)) = some true) && decide (PySem.W.typeIn K (.ref (iniC K)) = some (.type "type"))) &&
  (decide (PySem.W.nsIn K cStatics "thirdparty.any" = some none) && (decide (PySem.W.subIn K (.ref (iniC K)) (.type "StopIteration") = some false) && decide (PySem.W.exmOne K (.ref (iniC K)) (.ref (iniC K)) = some true))))))))
theorem file_ok {P : Program} {K : PySem.W.Frag} {mg : Str → Option Value} {st : Stmt} {p1 p2 q0 q1 q2 q3 q4 q5 q6 q7 q8 q9 : Pos} (hb : fileB P.main.file K = true) (hw : iniW K = iniV st) (gC : mg "FileError" = some (.ref (iniC K))) (gS : mg "super" = none) (top : (P.main.scope.names.lookup ("super" : Str)).isSome = false)
    (e1 : defArgs st = GF.iA p1 p2) (e2 : defBody st = GF.iB q0 q1 q2 q3 q4 q5 q6 q7 q8 q9) (e3 : defScope st = GF.iS) (hl : (q2.endLine == q4.line) = true) :
    GF.FileTxt P K mg (iniC K) (iniF K) ∧ PySem.W.subIn K (.ref (iniC K)) (.type "StopIteration") = some false ∧ PySem.W.exmOne K (.ref (iniC K)) (.ref (iniC K)) = some true := by
  unfold fileB at hb
  simp only [Bool.and_eq_true, decide_eq_true_eq] at hb
  obtain ⟨⟨h1, h2⟩, ⟨h3, h4⟩, ⟨h5, h6⟩, ⟨h7, h8⟩, ⟨h9, h10⟩, ⟨h11, h12⟩, h13, h14, h15⟩ := hb
  refine ⟨⟨gC, gS, clsB_ok h1, h3, h4, h5, h6, h7, h8, h9, h10, h11, h12, h13, top, ?_⟩, h14, h15⟩
  unfold iniW iniV at hw
  unfold iniB at h2
  cases q : K.lookup (iniF K) with
  | none => rw [q] at h2; cases h2
  | some o =>
    obtain ⟨oc, od, dt, osl⟩ := o
    rw [q] at h2 hw
    cases dt with
    | func fd =>
      obtain ⟨n1, n2, n3, n4, n5, n6, n7, n8, n9, n10, n11, n12, n13, n14, n15⟩ := fd
      simp only [Option.some.injEq, Prod.mk.injEq] at hw
      obtain ⟨k1, k2, k3, k4, k5, k6, k7, k8⟩ := hw
      simp only at k1 k2 k3 k4 k5 k6 k7 k8 h2
      subst k1 k2 k3 k4 k5 k6 k7
      split at h2
      · rename_i cda cl0 cc
        simp only [Bool.and_eq_true] at h2
        obtain ⟨w1, w2, w3⟩ := h2
        have k9 : cl0 = (("__class__" : Str)) := (List.cons.inj (show [cl0] = [(("__class__" : Str))] from k8)).1
        subst k9
        split at w2
        · rename_i ccl cdd vs ccs hcda
          split at w2
          · rename_i f tf hvs
            split at w3
            · rename_i cl cld C csl hcc
              have ec : C = iniC K := beq_iff_eq.mp w3
              subst ec
              refine ⟨oc, od, n10, n11, n12, cda, cc, n14, osl, p1, p2, q0, q1, q2, q3, q4, q5, q6, q7, q8, q9, ccl, cdd, vs, ccs, f, tf, cl, cld, csl, ?_, w1, hcda, hvs, hl, w2, hcc⟩
              rw [← e1, ← e2, ← e3]
            · cases w3
          · cases w2
        · cases w2
      · cases h2
    | _ => cases h2
/-! ### the look -/
def clos (g : Addr → Option Obj) (as : List Addr) : List Addr := as.flatMap fun a => match g a with
  | some ⟨_, _, .func fd, _⟩ => fd.closure.map (·.2)
  | _ => []
def asF (g : Addr → Option Obj) (n : Nat) : List Addr := He.asD g n ++ (cStatics :: clos g (He.asD g n))
structure SaysF (fa : List He.Fa) (fn : List He.DefD) (tf : List He.Defn) (ex : PySem.W.Frag → Bool) (iv : IniW) (w : World) (h : Heap) (K : PySem.W.Frag) : Prop where
  x : He.SaysX fa fn [] tf ex w h K
  i : iniW K = iv
abbrev AlF : Type := He.AlX × IniW
def obsF (n : Nat) (fa : List He.Fa) (fn : List He.DefD) (tf : List He.Defn) (ex : PySem.W.Frag → Bool) (g : Addr → Option Obj) : AlF :=
  ((He.obsT fa fn [] (He.frT g (asF g n)), ex (He.frT g (asF g n)) && He.tabsB g tf (He.frT g (asF g n))), iniW (He.frT g (asF g n)))
def valF (fn : List He.DefD) (iv : IniW) (w : World) : AlF := ((He.valT fn [] w, true), iv)
theorem saysF_of {n : Nat} {fa : List He.Fa} {fn : List He.DefD} {tf : List He.Defn} {ex : PySem.W.Frag → Bool} {iv : IniW} {w : World} {h : Heap} (e : obsF n fa fn tf ex h.get? = valF fn iv w) : SaysF fa fn tf ex iv w h (He.frT h.get? (asF h.get? n)) := by
  have e0 : iniW (He.frT h.get? (asF h.get? n)) = iv := congrArg (fun z : AlF => z.2) e
  have e1 : He.obsT fa fn [] (He.frT h.get? (asF h.get? n)) = He.valT fn [] w := congrArg (fun z : AlF => z.1.1) e
  have e2 : (ex (He.frT h.get? (asF h.get? n)) && He.tabsB h.get? tf (He.frT h.get? (asF h.get? n))) = true := congrArg (fun z : AlF => z.1.2) e
  obtain ⟨h1, h2⟩ := He.ba e2
  have key : ∀ p ∈ tf, PySem.W.codeHdIn (He.frT h.get? (asF h.get? n)) (He.cT (He.frT h.get? (asF h.get? n)) p).1 (He.cT (He.frT h.get? (asF h.get? n)) p).2 = true ∧ ∃ o, h.get? (He.cT (He.frT h.get? (asF h.get? n)) p).2 = some o ∧ He.emptyTab o = true := fun p hp => by
    obtain ⟨h3, h4⟩ := He.ba (List.all_eq_true.mp h2 p hp)
    refine ⟨h3, ?_⟩
    cases q : h.get? (He.cT (He.frT h.get? (asF h.get? n)) p).2 with
    | none =>
      rw [q] at h4
      cases h4
    | some o =>
      rw [q] at h4
      exact ⟨o, rfl, h4⟩
  exact ⟨⟨e1, h1, fun p hp => (key p hp).1, fun p hp => by
    obtain ⟨_, o, q, z⟩ := key p hp
    exact He.frT_none q z, fun p hp => by
    obtain ⟨_, o, q, z⟩ := key p hp
    rw [q, He.emptyTab_eq z]⟩, e0⟩
def hookF (n : Nat) (fa : List He.Fa) (fn : List He.DefD) (tf : List He.Defn) (ex : PySem.W.Frag → Bool) (iv : IniW) : PySem.W.Hook where
  α := AlF
  obs := fun s => obsF n fa fn tf ex s.heap.get?
  val := fun w => valF fn iv w
  says := fun w h => ∃ K : PySem.W.Frag, K.In h ∧ SaysF fa fn tf ex iv w h K
  of := fun _ _ e => ⟨_, He.frT_in, saysF_of e⟩
  keeps := fun _ _ _ ⟨K, hK, c⟩ k => ⟨K, PySem.W.Frag.In.keeps hK k, ⟨⟨c.x.t, c.x.more, c.x.hd, c.x.out, fun p hp => k _ _ (c.x.empty p hp)⟩, c.i⟩⟩
theorem obsF_eq {n : Nat} {fa : List He.Fa} {fn : List He.DefD} {tf : List He.Defn} {ex : PySem.W.Frag → Bool} {iv : IniW} {g : Addr → Option Obj} {s : Shared} (h : ∀ a, g a = s.heap.get? a) : obsF n fa fn tf ex g = (hookF n fa fn tf ex iv).obs s := by
  have e : g = s.heap.get? := funext h
  rw [e] <;> rfl
/-- a def that is told -/
theorem says_def {fa : List He.Fa} {fn : List He.DefD} {tf : List He.Defn} {ex : PySem.W.Frag → Bool} {iv : IniW} {w : World} {h : Heap} {K : PySem.W.Frag} {mg : Str → Option Value} {x : Str} {st : Stmt} (c : SaysF fa fn tf ex iv w h K) (X : K.In h) (G : h.Ns mainGlobals mg)
    (h1 : dd x st ∈ fn) (h2 : He.Fa.glo x ∈ fa) : ∃ fd cd, Def K mg x st (He.ga K x) fd cd ∧ cd = (He.cT K (x, none)).1 := by
  obtain ⟨fd, F⟩ := c.x.t.d.defs h1
  obtain ⟨cd, D, e⟩ := def_funD (mg := mg) F (He.glo_ok X G (c.x.t.d.facts h2))
  obtain ⟨oc, od, kV, doc, pm, an, ct, osl, rfl, lk, hcd⟩ := D.ex
  exact ⟨_, cd, D, (He.codeOf_eq (p := (x, none)) lk rfl).symm⟩
/-! ### tables of codes, held as such -/
def toE (GT : List Addr) (H : Hp) : Hp := fun b => if b ∈ GT then some (TblE b) else H b
def atF (h : Heap) (b : Addr) : Array Value := match h.get? b with
  | some ⟨_, _, .fields vs, _⟩ => vs
  | _ => #[]
def toT (GT : List Addr) (h : Heap) (H : Hp) : Hp := fun b => if b ∈ GT then some (.tbl (atF h b)) else H b
theorem toE_in {GT : List Addr} {H : Hp} {b : Addr} (h : b ∈ GT) : toE GT H b = some (TblE b) := if_pos h
theorem toE_out {GT : List Addr} {H : Hp} {b : Addr} (h : b ∉ GT) : toE GT H b = H b := if_neg h
theorem toT_in {GT : List Addr} {hp : Heap} {H : Hp} {b : Addr} (h : b ∈ GT) : toT GT hp H b = some (.tbl (atF hp b)) := if_pos h
theorem toT_out {GT : List Addr} {hp : Heap} {H : Hp} {b : Addr} (h : b ∉ GT) : toT GT hp H b = H b := if_neg h
theorem hok_toE {P : Program} {w : World} {GT : List Addr} {H : Hp} {h : Heap} (hok : HOk P w H h) (hT : ∀ p ∈ GT, H p = some (.tbl #[])) : HOk P w (toE GT H) h := fun a o e => by
  by_cases ha : a ∈ GT
  · rw [toE_in ha] at e
    cases e
    have q : h.get? a = some { cls := .none, data := .fields #[] } := hok a _ (hT a ha)
    exact ⟨⟨#[], q, by first | exact trivial | (intro _ h; cases h) | simp [TriplesOk]⟩, ⟨_, q⟩, fun h1 h2 ⟨qs, x, y⟩ st => ⟨qs, st _ x, y⟩⟩
  · rw [toE_out ha] at e
    refine (hok a o e).stay (fun b u _ q => q) (fun b q => ?_) fun b xs q => ?_
    · have nb : b ∉ GT := fun z => by rw [hT b z] at q; cases q
      rw [toE_out nb]; exact q
    · have nb : b ∉ GT := fun z => by rw [hT b z] at q; cases q
      rw [toE_out nb]; exact q
theorem hok_toT {P : Program} {w : World} {GT : List Addr} {H : Hp} {h : Heap} (hok : HOk P w H h) (hT : ∀ p ∈ GT, H p = some (TblE p)) : HOk P w (toT GT h H) h := fun a o e => by
  by_cases ha : a ∈ GT
  · rw [toT_in ha] at e
    cases e
    obtain ⟨⟨ps, q, _⟩, _⟩ := hok a _ (hT a ha)
    show h.get? a = some { cls := .none, data := .fields (atF h a) }
    unfold atF
    rw [q]
  · rw [toT_out ha] at e
    refine (hok a o e).stay (fun b u _ q => q) (fun b q => ?_) fun b xs q => ?_
    · have nb : b ∉ GT := fun z => by rw [hT b z] at q; cases q
      rw [toT_out nb]; exact q
    · have nb : b ∉ GT := fun z => by rw [hT b z] at q; cases q
      rw [toT_out nb]; exact q
def spTabs (GT : List Addr) (sp : Sp) : Sp := fun vs H Q E => (∀ p ∈ GT, H p = some (.tbl #[])) ∧ (∃ R : V → Prop, (∀ v H', R v → Q v H') ∧ sp vs (toE GT H) (fun v H' => R v ∧ ∀ p ∈ GT, H' p = some (TblE p)) fun _ _ _ => False)
theorem fn_tabs {P : Program} {w : World} {K : PySem.W.Frag} {mg : Str → Option Value} {base : Heap} {k : Nat} {f : Addr} {fd : FuncData} {ps : List Str} {sp : Sp} {GT : List Addr} (F : FnOk P w K mg base (L2.CX P w) k f fd ps sp) : FnOk P w K mg base (L2.CX P w) k f fd ps (spTabs GT sp) := by
  refine ⟨fun vs H Q E h => ?_, fun A outer s H args us vs Q E hr e0 hb r h => ?_⟩
  · obtain ⟨_, R, _, h⟩ := h
    exact F.len _ _ _ _ h
  obtain ⟨hT, R, hR, h⟩ := h
  have nT : ∀ b, H b = none → b ∉ GT := fun b e z => by rw [hT b z] at e; cases e
  have e1 : Env0 P w K mg base A outer s (toE GT H) := ⟨e0.frames, e0.mod, fun b o q => ⟨(e0.bs b o q).1, by rw [toE_out (nT b (e0.bs b o q).2)]; exact (e0.bs b o q).2⟩, e0.bsz, e0.funs,
    fun b hb => by rw [toE_out (nT b (e0.frf b hb))]; exact e0.frf b hb, hok_toE e0.hok hT, e0.bare⟩
  refine codeAny_mono (F.run A outer s (toE GT H) args us vs _ _ hr e1 hb r h) fun r s' hq => ?_
  cases r with
  | error e =>
    obtain ⟨a, B, H', cls, d, _, _, _, _, _, _, _, z⟩ := hq
    exact z.elim
  | ok fl =>
    cases fl with
    | ret u =>
      obtain ⟨v, H', os, bare, un, hok', rv, hr', ht'⟩ := hq
      have tE : ∀ b u, H b = some u → (u ≠ .tbl #[]) → b ∉ GT := fun b u e ne z => by rw [hT b z] at e; exact ne (Option.some.inj e).symm
      refine ⟨v, toT GT s'.heap H', os, bare, ?_, hok_toT hok' ht', rv, hR v _ hr'⟩
      refine ⟨fun b o q n nf nx => un.keep b o q (by rw [toE_out (nT b n)]; exact n) nf nx, fun b o q n nf nx => un.slot b o q (by rw [toE_out (nT b n)]; exact n) nf nx, fun b o q n nx => ?_, fun b o q nx => un.there b o q nx, fun b xs q => ?_, fun b o u q => ?_, fun b qs q => ?_⟩
      · rw [toT_out (nT b n)]
        exact un.free b o q (by rw [toE_out (nT b n)]; exact n) nx
      · have nb := tE b _ q (fun z => by cases z)
        rw [toT_out nb]
        exact un.tups b xs (by rw [toE_out nb]; exact q)
      · have nb := tE b _ q (fun z => by cases z)
        rw [toT_out nb]
        exact un.frzs b o u (by rw [toE_out nb]; exact q)
      · by_cases hb : b ∈ GT
        · have z := hT b hb
          rw [q] at z
          cases z
          exact ⟨atF s'.heap b, by rw [toT_in hb, Array.empty_append]⟩
        · obtain ⟨more, z⟩ := un.tbls b qs (by rw [toE_out hb]; exact q)
          exact ⟨more, by rw [toT_out hb]; exact z⟩
    | next => exact False.elim hq
    | brk => exact False.elim hq
    | cont => exact False.elim hq
end GX
set_option Elab.async false
set_option linter.all false
set_option maxRecDepth 100000
set_option maxHeartbeats 2000000
namespace KA
open PySem PySem.Spec PyProof.Rows L2 GX
def top (i : Nat) : Stmt := PySem.Challenge.pw_hoststack_k01_texts_as_numbers.main.body.getD i (.Pass ⟨0, 0, 0, 0⟩)
def constOf (s : Stmt) : Str := match s with
  | .Assign _ (.Constant (.str x) _ _) _ => x
  | _ => Str.empty
def lits : Str := constOf (top 4)
/-- what the top has written -/
structure Txt (P : Program) (w : World) (K : PySem.W.Frag) (mg : Str → Option Value) (base : Heap) (TL : List (Addr × Str)) (GT : List Addr) (C fI : Addr) : Prop where
  file : GF.FileTxt P K mg C fI
  te : PySem.W.exmOne K (.ref C) (.ref C) = some true
  nostop : PySem.W.subIn K (.ref C) (.type "StopIteration") = some false
  g_LETTERS : ∃ u, mg "LETTERS" = some u ∧ RelV (.str lits) u
  n_len : mg "len" = none
  n_tuple : mg "tuple" = none
  n_range : mg "range" = none
  n_abs : mg "abs" = none
  n_int : mg "int" = none
  d_letter_number : ∃ f fd c, Def K mg "letter_number" (top 5) f fd c
  d_letter_at : ∃ f fd c, Def K mg "letter_at" (top 6) f fd c
  d_numbers_of : ∃ f fd c tP, Def K mg "numbers_of" (top 7) f fd c ∧ GxR.TabB base mg c tP ∧ tP ∈ GT
  d_text_of : ∃ f fd c, Def K mg "text_of" (top 8) f fd c
  d_check_text : ∃ f fd c, Def K mg "check_text" (top 9) f fd c
  d_pair : ∃ f fd c, Def K mg "pair" (top 10) f fd c
  d_number_of_pair : ∃ f fd c, Def K mg "number_of_pair" (top 11) f fd c
  d_word_sum : ∃ f fd c, Def K mg "word_sum" (top 12) f fd c
  d_law_dice : ∃ f fd c, Def K mg "_law_dice" (top 14) f fd c
  d_law_roll : ∃ f fd c, Def K mg "_law_roll" (top 15) f fd c
  d_law_rounds : ∃ f fd c, Def K mg "_law_rounds" (top 16) f fd c
  d_law_letters : ∃ f fd c, Def K mg "_law_letters" (top 18) f fd c
  d_law_sum : ∃ f fd c, Def K mg "_law_sum" (top 19) f fd c
theorem mk_ex {α : Type _} {p q : α → Prop} {t : α} (h1 : p t) (h2 : q t) : ∃ t, p t ∧ q t := ⟨t, h1, h2⟩
section
variable {P : Program} {w : World} {K : PySem.W.Frag} {mg : Str → Option Value} {base : Heap} {TL : List (Addr × Str)} {GT : List Addr} {C fI : Addr}
/-- an error goes out -/
def Out (TL : List (Addr × Str)) (GT : List Addr) (C : Addr) (H : Hp) (E : XK) : Prop := ∀ d H', Ex [] TL GT H H' → E (.ref C) (some d) H'
def badL (z : Str) : Prop := Txt.find lits z < 0 ∨ z = Str.empty
def spLN (TL : List (Addr × Str)) (GT : List Addr) (C : Addr) : Sp := fun vs H Q E => ∃ z : Str, vs = [.str z] ∧ (badL z → Out TL GT C H E) ∧ (¬ badL z → Q (.int (Txt.find lits z)) H)
theorem c_letter_number (T : Txt P w K mg base TL GT C fI) : Cal P w K mg base 3 "letter_number" (spLN TL GT C) := by
  obtain ⟨f, fd, c, D⟩ := T.d_letter_number
  refine D.ok (N := ["letter", "place"]) (ps := ["letter"]) ⟨rfl, rfl, rfl, by decide +kernel, rfl, by decide +kernel, by decide +kernel⟩ (fun vs H Q E h => by first | (obtain ⟨_, rfl, _⟩ := h; rfl) | (obtain ⟨_, _, rfl, _⟩ := h; rfl) | (obtain ⟨_, _, _, rfl, _⟩ := h; rfl) | (obtain ⟨_, _, _, _, rfl, _⟩ := h; rfl) | (obtain ⟨_, _, _, _, _, rfl, _⟩ := h; rfl) | (obtain ⟨rfl, _⟩ := h; rfl)) (fun _ _ _ _ _ _ us hl => match us, hl with | [_], _ => rfl) (fun A outer s H vs Q E hr h => ?_)
  have nd : (["letter", "place"] : List Str).Nodup := by decide
  refine mk_ex (pss_cons (ps_set (i := 1) nd rfl (Or.inl rfl) (pe_m1 F.slot_str_find F.type_str_find mt_find (pe_gl rfl T.g_LETTERS) (pv 0)))
    (pss_cons (ps_if (PW.pt (pw_or (pt_cmpR opU_lt (pv 1) pe_int (nomark _)) (pw_or1 (pt_cmpR (opK (K := K) (r := rEqU) (opU_eq (roomEq hr)) rfl) (pv 0) pe_str (nomark _))))) (pss_one (ps_raiseFile rfl T.file (hr.mono (j := 1) (by decide)) (takes_of rfl rfl rfl rfl) (by exact (pa_cons pe_str pa_nil)))) pss_nil)
    (pss_one (ps_ret (pv 1))))) ?_
  obtain ⟨z, rfl, hb, hg⟩ := h
  simp only [cx_K, gcx_K, lcx_K, LenV, rLenU, tTruU, kTup, tTupL, ex2eq, not_true_eq_false, not_false_eq_true, LamX.tLam, LamX.TTold, tSeq, tNext, tRet, tRetN, tIfS, tTest, tB, tNot, tAnd, tOr, tChain, tOp, tUn, tC, tVar, tCons, tNil, tTup, tLst, tAsg, gName, gTup, gCons, gNil, gSub, tDrop, tCallS, tCB, tM1, tM0, tBM, tBM0, tSl, tPar, tFor_eq, tLc_eq, intU_int, intU_bl, iList, iTup, iRng1, iRng2, iStr, tThen, tNever, L2.start, tRaiseFile, tMkFile, tYes, tPart, tNoPart, addU_int, addU_str, addU_ref, subU_int, mulU_int, mulU_ref, fdvU_int, modU_int, powU_int, ltU_int, leU_int, gtU_int, geU_int, eqU_int, eqU_str, eqU_bl, neU_int, neU_str, neU_bl, WE, TruV, List.map, List.length_cons, List.length_nil, List.replicate, List.append, List.getElem?_cons_zero, List.getElem?_cons_succ, List.set_cons_zero, List.set_cons_succ, List.cons_append, List.nil_append, Option.some.injEq, V.int.injEq, V.str.injEq, V.bl.injEq, V.ref.injEq, List.cons.injEq, exists_eq_left, exists_eq_right, and_true, true_and, and_self, exists_eq, exists_const, Bool.not_true, Bool.not_false, Bool.false_eq_true, if_true, if_false, reduceIte, decide_eq_true_eq, bne_iff_ne, exists_eq_left', exists_eq', exists_and_left, Bool.not_eq_true', decide_eq_false_iff_not, Nat.reduceSub, Nat.reduceAdd, reduceCtorEq, false_and, or_false, false_or, exists_false]
  split
  · rename_i q
    exact fun d hd => hb (.inl q) d _ (Ex.new hd)
  · split
    · rename_i q
      exact fun d hd => hb (.inr q) d _ (Ex.new hd)
    · rename_i q1 q2
      exact hg (fun z => z.elim q1 q2)
/-- the letter at n -/
def lat (n : Int) : Str := ⟨#[(lits.cps.getD n.toNat 0)]⟩
theorem lits_len : lits.length = 95 := by decide +kernel
def spLA (TL : List (Addr × Str)) (GT : List Addr) (C : Addr) : Sp := fun vs H Q E => ∃ n : Int, vs = [.int n] ∧ (¬ (0 ≤ n ∧ n < 95) → Out TL GT C H E) ∧ (0 ≤ n ∧ n < 95 → Q (.str (lat n)) H)
theorem c_letter_at (T : Txt P w K mg base TL GT C fI) : Cal P w K mg base 3 "letter_at" (spLA TL GT C) := by
  obtain ⟨f, fd, c, D⟩ := T.d_letter_at
  refine D.ok (N := ["number"]) (ps := ["number"]) ⟨rfl, rfl, rfl, by decide +kernel, rfl, by decide +kernel, by decide +kernel⟩ (fun vs H Q E h => by first | (obtain ⟨_, rfl, _⟩ := h; rfl) | (obtain ⟨_, _, rfl, _⟩ := h; rfl) | (obtain ⟨_, _, _, rfl, _⟩ := h; rfl) | (obtain ⟨_, _, _, _, rfl, _⟩ := h; rfl) | (obtain ⟨_, _, _, _, _, rfl, _⟩ := h; rfl) | (obtain ⟨rfl, _⟩ := h; rfl)) (fun _ _ _ _ _ _ us hl => match us, hl with | [_], _ => rfl) (fun A outer s H vs Q E hr h => ?_)
  have nd : (["number"] : List Str).Nodup := by decide
  refine mk_ex (pss_cons (ps_if (pt_not (pt_chain opU_le opU_lt pe_int (pv 0) (pe_callB (call_lenU (K := K) rfl) rfl T.n_len rfl (by exact (pa_cons (pe_gl rfl T.g_LETTERS) pa_nil))))) (pss_one (ps_raiseFile rfl T.file (hr.mono (j := 1) (by decide)) (takes_of rfl rfl rfl rfl) (by exact (pa_cons pe_str pa_nil)))) pss_nil)
    (pss_one (ps_ret (pe_ix (ixK (K := K) (r := rIx) ix_seq rfl) (pe_gl rfl T.g_LETTERS) (pv 0) (fun _ _ => rfl))))) ?_
  obtain ⟨z, rfl, hb, hg⟩ := h
  simp only [cx_K, gcx_K, lcx_K, LenV, rLenU, tTruU, kTup, tTupL, ex2eq, not_true_eq_false, not_false_eq_true, LamX.tLam, LamX.TTold, tSeq, tNext, tRet, tRetN, tIfS, tTest, tB, tNot, tAnd, tOr, tChain, tOp, tUn, tC, tVar, tCons, tNil, tTup, tLst, tAsg, gName, gTup, gCons, gNil, gSub, tDrop, tCallS, tCB, tM1, tM0, tBM, tBM0, tSl, tPar, tFor_eq, tLc_eq, intU_int, intU_bl, iList, iTup, iRng1, iRng2, iStr, tThen, tNever, L2.start, tRaiseFile, tMkFile, tYes, tPart, tNoPart, addU_int, addU_str, addU_ref, subU_int, mulU_int, mulU_ref, fdvU_int, modU_int, powU_int, ltU_int, leU_int, gtU_int, geU_int, eqU_int, eqU_str, eqU_bl, neU_int, neU_str, neU_bl, WE, TruV, List.map, List.length_cons, List.length_nil, List.replicate, List.append, List.getElem?_cons_zero, List.getElem?_cons_succ, List.set_cons_zero, List.set_cons_succ, List.cons_append, List.nil_append, Option.some.injEq, V.int.injEq, V.str.injEq, V.bl.injEq, V.ref.injEq, List.cons.injEq, exists_eq_left, exists_eq_right, and_true, true_and, and_self, exists_eq, exists_const, Bool.not_true, Bool.not_false, Bool.false_eq_true, if_true, if_false, reduceIte, decide_eq_true_eq, bne_iff_ne, exists_eq_left', exists_eq', exists_and_left, Bool.not_eq_true', decide_eq_false_iff_not, Nat.reduceSub, Nat.reduceAdd, reduceCtorEq, false_and, or_false, false_or, exists_false, lits_len]
  have hx : ∀ d, H d = none → ¬ (0 ≤ z ∧ z < 95) → E (.ref C) (some d) (upd H d (.xd [(("word" : Str), V.str (Str.ofString "bad text"))])) := fun d hd q => hb q d _ (Ex.new hd)
  split
  · rename_i q
    refine ⟨95, ⟨sz 95, rfl⟩, ?_⟩
    split
    · rename_i q2
      exact fun d hd => hx d hd (by omega)
    · rename_i q2
      have q3 : z < 95 := by omega
      refine rIx_str (by rw [lits_len]; exact sz 95) ?_ (hg ⟨q, q3⟩)
      have e : lits.cps.toList.length = 95 := by decide +kernel
      unfold atI ixN
      rw [e, if_pos q]
      have q4 : z.toNat < 95 := by omega
      rw [if_pos (by omega)]
      show lits.cps.toList[z.toNat]? = some (lits.cps.getD z.toNat 0)
      have e2 : lits.cps.size = 95 := by decide +kernel
      have q5 : z.toNat < lits.cps.size := by omega
      simp [q5, Array.getD_eq_getD_getElem?]
  · rename_i q
    exact fun d hd => hx d hd (by omega)
theorem rIx_lits {K : PySem.W.Frag} {H : Hp} {Q : VK} {n : Int} (h : 0 ≤ n ∧ n < 95) (q : Q (.str (lat n)) H) : rIx K (.str lits) (.int n) H Q := by
  refine rIx_str (by rw [lits_len]; exact sz 95) ?_ q
  have e : lits.cps.toList.length = 95 := by decide +kernel
  unfold atI ixN
  rw [e, if_pos h.1]
  rw [if_pos (by omega)]
  show lits.cps.toList[n.toNat]? = some (lits.cps.getD n.toNat 0)
  have e2 : lits.cps.size = 95 := by decide +kernel
  have q5 : n.toNat < lits.cps.size := by omega
  simp [q5, Array.getD_eq_getD_getElem?]
def spPair (TL : List (Addr × Str)) (GT : List Addr) : Sp := fun vs H Q E => ∃ n : Int, vs = [.int n] ∧ ∀ p H', Ex [] TL GT H H' → H' p = some (.tup [.int (n / 256 % 256), .int (n % 256)]) → Q (.ref p) H'
theorem c_pair (T : Txt P w K mg base TL GT C fI) : Cal P w K mg base 3 "pair" (spPair TL GT) := by
  obtain ⟨f, fd, c, D⟩ := T.d_pair
  refine D.ok (N := ["number"]) (ps := ["number"]) ⟨rfl, rfl, rfl, by decide +kernel, rfl, by decide +kernel, by decide +kernel⟩ (fun vs H Q E h => by first | (obtain ⟨_, rfl, _⟩ := h; rfl) | (obtain ⟨_, _, rfl, _⟩ := h; rfl) | (obtain ⟨_, _, _, rfl, _⟩ := h; rfl) | (obtain ⟨_, _, _, _, rfl, _⟩ := h; rfl) | (obtain ⟨_, _, _, _, _, rfl, _⟩ := h; rfl) | (obtain ⟨rfl, _⟩ := h; rfl)) (fun _ _ _ _ _ _ us hl => match us, hl with | [_], _ => rfl) (fun A outer s H vs Q E hr h => ?_)
  have nd : (["number"] : List Str).Nodup := by decide
  refine mk_ex (pss_one (ps_ret (pe_tup (pa_cons (pe_op opU_mod (pe_op opU_fdv (pv 0) pe_int) pe_int) (pa_cons (pe_op opU_mod (pv 0) pe_int) pa_nil))))) ?_
  obtain ⟨z, rfl, h⟩ := h
  simp only [cx_K, gcx_K, lcx_K, LenV, rLenU, tTruU, kTup, tTupL, ex2eq, not_true_eq_false, not_false_eq_true, LamX.tLam, LamX.TTold, tSeq, tNext, tRet, tRetN, tIfS, tTest, tB, tNot, tAnd, tOr, tChain, tOp, tUn, tC, tVar, tCons, tNil, tTup, tLst, tAsg, gName, gTup, gCons, gNil, gSub, tDrop, tCallS, tCB, tM1, tM0, tBM, tBM0, tSl, tPar, tFor_eq, tLc_eq, intU_int, intU_bl, iList, iTup, iRng1, iRng2, iStr, tThen, tNever, L2.start, tRaiseFile, tMkFile, tYes, tPart, tNoPart, addU_int, addU_str, addU_ref, subU_int, mulU_int, mulU_ref, fdvU_int, modU_int, powU_int, ltU_int, leU_int, gtU_int, geU_int, eqU_int, eqU_str, eqU_bl, neU_int, neU_str, neU_bl, WE, TruV, List.map, List.length_cons, List.length_nil, List.replicate, List.append, List.getElem?_cons_zero, List.getElem?_cons_succ, List.set_cons_zero, List.set_cons_succ, List.cons_append, List.nil_append, Option.some.injEq, V.int.injEq, V.str.injEq, V.bl.injEq, V.ref.injEq, List.cons.injEq, exists_eq_left, exists_eq_right, and_true, true_and, and_self, exists_eq, exists_const, Bool.not_true, Bool.not_false, Bool.false_eq_true, if_true, if_false, reduceIte, decide_eq_true_eq, bne_iff_ne, exists_eq_left', exists_eq', exists_and_left, Bool.not_eq_true', decide_eq_false_iff_not, Nat.reduceSub, Nat.reduceAdd, reduceCtorEq, false_and, or_false, false_or, exists_false]
  exact ⟨⟨by decide, by decide⟩, by decide, by decide, sz 2, fun p hp => h p _ (Ex.new hp) upd_same⟩
def spNP (K : PySem.W.Frag) : Sp := fun vs H Q E => ∃ (p : Addr) (i : Int) (xs : List V) (a b : Int), vs = [.ref p, .int i] ∧ SqT K H p xs ∧ atI xs i = some (.int a) ∧ atI xs (i + 1) = some (.int b) ∧ Q (.int (a * 256 + b)) H
theorem c_number_of_pair (T : Txt P w K mg base TL GT C fI) : Cal P w K mg base 3 "number_of_pair" (spNP K) := by
  obtain ⟨f, fd, c, D⟩ := T.d_number_of_pair
  refine D.ok (N := ["data", "place"]) (ps := ["data", "place"]) ⟨rfl, rfl, rfl, by decide +kernel, rfl, by decide +kernel, by decide +kernel⟩ (fun vs H Q E h => by first | (obtain ⟨_, rfl, _⟩ := h; rfl) | (obtain ⟨_, _, rfl, _⟩ := h; rfl) | (obtain ⟨_, _, _, rfl, _⟩ := h; rfl) | (obtain ⟨_, _, _, _, rfl, _⟩ := h; rfl) | (obtain ⟨_, _, _, _, _, rfl, _⟩ := h; rfl) | (obtain ⟨rfl, _⟩ := h; rfl)) (fun _ _ _ _ _ _ us hl => match us, hl with | [_, _], _ => rfl) (fun A outer s H vs Q E hr h => ?_)
  have nd : (["data", "place"] : List Str).Nodup := by decide
  refine mk_ex (pss_one (ps_ret (pe_op (opK (K := K) (r := rAddU) opU_add rfl) (pe_op opU_mul (pe_ix (ixK (K := K) (r := rIx) ix_seq rfl) (pv 0) (pv 1) (fun _ _ => rfl)) pe_int) (pe_ix (ixK (K := K) (r := rIx) ix_seq rfl) (pv 0) (pe_op (opK (K := K) (r := rAddU) opU_add rfl) (pv 1) pe_int) (fun _ _ => rfl))))) ?_
  obtain ⟨p, i, xs, a, b, rfl, hs, h1, h2, q⟩ := h
  simp only [cx_K, gcx_K, lcx_K, LenV, rLenU, tTruU, kTup, tTupL, ex2eq, not_true_eq_false, not_false_eq_true, LamX.tLam, LamX.TTold, tSeq, tNext, tRet, tRetN, tIfS, tTest, tB, tNot, tAnd, tOr, tChain, tOp, tUn, tC, tVar, tCons, tNil, tTup, tLst, tAsg, gName, gTup, gCons, gNil, gSub, tDrop, tCallS, tCB, tM1, tM0, tBM, tBM0, tSl, tPar, tFor_eq, tLc_eq, intU_int, intU_bl, iList, iTup, iRng1, iRng2, iStr, tThen, tNever, L2.start, tRaiseFile, tMkFile, tYes, tPart, tNoPart, addU_int, addU_str, addU_ref, subU_int, mulU_int, mulU_ref, fdvU_int, modU_int, powU_int, ltU_int, leU_int, gtU_int, geU_int, eqU_int, eqU_str, eqU_bl, neU_int, neU_str, neU_bl, WE, TruV, List.map, List.length_cons, List.length_nil, List.replicate, List.append, List.getElem?_cons_zero, List.getElem?_cons_succ, List.set_cons_zero, List.set_cons_succ, List.cons_append, List.nil_append, Option.some.injEq, V.int.injEq, V.str.injEq, V.bl.injEq, V.ref.injEq, List.cons.injEq, exists_eq_left, exists_eq_right, and_true, true_and, and_self, exists_eq, exists_const, Bool.not_true, Bool.not_false, Bool.false_eq_true, if_true, if_false, reduceIte, decide_eq_true_eq, bne_iff_ne, exists_eq_left', exists_eq', exists_and_left, Bool.not_eq_true', decide_eq_false_iff_not, Nat.reduceSub, Nat.reduceAdd, reduceCtorEq, false_and, or_false, false_or, exists_false]
  refine rIx_tup hs h1 ⟨.inr (by decide), rIx_tup hs h2 ?_⟩
  exact q
/-- the sums of a word -/
def wstep (s : Int × Int) (n : Int) : Int × Int := ((s.1 + n) % 65521, (s.2 + (s.1 + n) % 65521) % 65521)
def wsum (ns : List Int) : Int × Int := ns.foldl wstep (1, 0)
theorem wsum_more {ns : List Int} {i : Nat} {n : Int} (h : ns[i]? = some n) : wsum (ns.take (i + 1)) = wstep (wsum (ns.take i)) n := by
  unfold wsum
  rw [take_more h, List.foldl_append]
  rfl
def spWS (K : PySem.W.Frag) (TL : List (Addr × Str)) (GT : List Addr) : Sp := fun vs H Q E => ∃ (p : Addr) (ns : List Int), vs = [.ref p] ∧ SqT K H p (ns.map V.int) ∧
  ∀ q H', Ex [] TL GT H H' → H' q = some (.tup [.int ((wsum ns).2 / 256 % 256), .int ((wsum ns).2 % 256), .int ((wsum ns).1 / 256 % 256), .int ((wsum ns).1 % 256)]) → Q (.ref q) H'
theorem c_word_sum (T : Txt P w K mg base TL GT C fI) : Cal P w K mg base 5 "word_sum" (spWS K TL GT) := by
  have c_pair := c_pair T
  obtain ⟨f, fd, c, D⟩ := T.d_word_sum
  refine D.ok (N := ["numbers", "first", "second", "number"]) (ps := ["numbers"]) ⟨rfl, rfl, rfl, by decide +kernel, rfl, by decide +kernel, by decide +kernel⟩ (fun vs H Q E h => by first | (obtain ⟨_, rfl, _⟩ := h; rfl) | (obtain ⟨_, _, rfl, _⟩ := h; rfl) | (obtain ⟨_, _, _, rfl, _⟩ := h; rfl) | (obtain ⟨_, _, _, _, rfl, _⟩ := h; rfl) | (obtain ⟨_, _, _, _, _, rfl, _⟩ := h; rfl) | (obtain ⟨rfl, _⟩ := h; rfl)) (fun _ _ _ _ _ _ us hl => match us, hl with | [_], _ => rfl) (fun A outer s H vs Q E hr h => ?_)
  have nd : (["numbers", "first", "second", "number"] : List Str).Nodup := by decide
  refine mk_ex (pss_cons (ps_asg (pe_tup (pa_cons pe_int (pa_cons pe_int pa_nil))) (pg_tup (n := 2) rfl (pgs_cons (pg_name (i := 1) nd rfl (Or.inl rfl)) (pgs_cons (pg_name (i := 2) nd rfl (Or.inl rfl)) pgs_nil))))
    (pss_cons (ps_for (passes_of rfl) rfl (pi_tup (pv 0)) (pg_name (i := 3) nd rfl (Or.inl rfl)) (pss_cons (ps_set (i := 1) nd rfl (Or.inl rfl) (pe_op opU_mod (pe_op (opK (K := K) (r := rAddU) opU_add rfl) (pv 1) (pv 3)) pe_int))
    (pss_one (ps_set (i := 2) nd rfl (Or.inl rfl) (pe_op opU_mod (pe_op (opK (K := K) (r := rAddU) opU_add rfl) (pv 2) (pv 1)) pe_int)))))
    (pss_one (ps_ret (pe_op (opK (K := K) (r := rAddU) opU_add rfl) (GX.pe_call c_pair (hr.mono (by decide)) (takes_of rfl rfl rfl rfl) (by exact (pa_cons (pv 2) pa_nil))) (GX.pe_call c_pair (hr.mono (by decide)) (takes_of rfl rfl rfl rfl) (by exact (pa_cons (pv 1) pa_nil)))))))) ?_
  obtain ⟨p, ns, rfl, hs, h⟩ := h
  simp only [cx_K, gcx_K, lcx_K, LenV, rLenU, tTruU, kTup, tTupL, ex2eq, not_true_eq_false, not_false_eq_true, LamX.tLam, LamX.TTold, tSeq, tNext, tRet, tRetN, tIfS, tTest, tB, tNot, tAnd, tOr, tChain, tOp, tUn, tC, tVar, tCons, tNil, tTup, tLst, tAsg, gName, gTup, gCons, gNil, gSub, tDrop, tCallS, tCB, tM1, tM0, tBM, tBM0, tSl, tPar, tFor_eq, tLc_eq, intU_int, intU_bl, iList, iTup, iRng1, iRng2, iStr, tThen, tNever, L2.start, tRaiseFile, tMkFile, tYes, tPart, tNoPart, addU_int, addU_str, addU_ref, subU_int, mulU_int, mulU_ref, fdvU_int, modU_int, powU_int, ltU_int, leU_int, gtU_int, geU_int, eqU_int, eqU_str, eqU_bl, neU_int, neU_str, neU_bl, WE, TruV, List.map, List.length_cons, List.length_nil, List.replicate, List.append, List.getElem?_cons_zero, List.getElem?_cons_succ, List.set_cons_zero, List.set_cons_succ, List.cons_append, List.nil_append, Option.some.injEq, V.int.injEq, V.str.injEq, V.bl.injEq, V.ref.injEq, List.cons.injEq, exists_eq_left, exists_eq_right, and_true, true_and, and_self, exists_eq, exists_const, Bool.not_true, Bool.not_false, Bool.false_eq_true, if_true, if_false, reduceIte, decide_eq_true_eq, bne_iff_ne, exists_eq_left', exists_eq', exists_and_left, Bool.not_eq_true', decide_eq_false_iff_not, Nat.reduceSub, Nat.reduceAdd, reduceCtorEq, false_and, or_false, false_or, exists_false]
  refine ⟨sz 2, fun p1 hp1 => ⟨_, tup_at upd_same, rfl, _, _, rfl, _, _, rfl, rfl, ⟨_, (Ex.new (A := []) (TL := TL) (GT := GT) hp1).sqt (by simp) hs⟩, ?_⟩⟩
  refine loop_tup (xs := ns.map V.int) (fun i σ H' => ∃ v, σ = [some (.ref p), some (.int (wsum (ns.take i)).1), some (.int (wsum (ns.take i)).2), v] ∧ Ex [] TL GT H H') ⟨none, rfl, Ex.new hp1⟩ (fun i σ H' _ ⟨_, _, e⟩ => e.sqt (by simp) hs) ?_ ?_
  · rintro i x σ H' hx ⟨v, rfl, e⟩
    obtain ⟨n, hn, rfl⟩ := map_at hx
    simp only [cx_K, gcx_K, lcx_K, LenV, rLenU, tTruU, kTup, tTupL, ex2eq, not_true_eq_false, not_false_eq_true, LamX.tLam, LamX.TTold, tSeq, tNext, tRet, tRetN, tIfS, tTest, tB, tNot, tAnd, tOr, tChain, tOp, tUn, tC, tVar, tCons, tNil, tTup, tLst, tAsg, gName, gTup, gCons, gNil, gSub, tDrop, tCallS, tCB, tM1, tM0, tBM, tBM0, tSl, tPar, tFor_eq, tLc_eq, intU_int, intU_bl, iList, iTup, iRng1, iRng2, iStr, tThen, tNever, L2.start, tRaiseFile, tMkFile, tYes, tPart, tNoPart, addU_int, addU_str, addU_ref, subU_int, mulU_int, mulU_ref, fdvU_int, modU_int, powU_int, ltU_int, leU_int, gtU_int, geU_int, eqU_int, eqU_str, eqU_bl, neU_int, neU_str, neU_bl, WE, TruV, List.map, List.length_cons, List.length_nil, List.replicate, List.append, List.getElem?_cons_zero, List.getElem?_cons_succ, List.set_cons_zero, List.set_cons_succ, List.cons_append, List.nil_append, Option.some.injEq, V.int.injEq, V.str.injEq, V.bl.injEq, V.ref.injEq, List.cons.injEq, exists_eq_left, exists_eq_right, and_true, true_and, and_self, exists_eq, exists_const, Bool.not_true, Bool.not_false, Bool.false_eq_true, if_true, if_false, reduceIte, decide_eq_true_eq, bne_iff_ne, exists_eq_left', exists_eq', exists_and_left, Bool.not_eq_true', decide_eq_false_iff_not, Nat.reduceSub, Nat.reduceAdd, reduceCtorEq, false_and, or_false, false_or, exists_false]
    refine ⟨by decide, by decide, some (.int n), ?_, e⟩
    rw [wsum_more hn]
    exact ⟨rfl, rfl, rfl⟩
  · rintro σ H' ⟨v, rfl, e⟩
    have z : ns.take (ns.map V.int).length = ns := by rw [List.length_map]; exact List.take_length
    rw [z]
    simp only [cx_K, gcx_K, lcx_K, LenV, rLenU, tTruU, kTup, tTupL, ex2eq, not_true_eq_false, not_false_eq_true, LamX.tLam, LamX.TTold, tSeq, tNext, tRet, tRetN, tIfS, tTest, tB, tNot, tAnd, tOr, tChain, tOp, tUn, tC, tVar, tCons, tNil, tTup, tLst, tAsg, gName, gTup, gCons, gNil, gSub, tDrop, tCallS, tCB, tM1, tM0, tBM, tBM0, tSl, tPar, tFor_eq, tLc_eq, intU_int, intU_bl, iList, iTup, iRng1, iRng2, iStr, tThen, tNever, L2.start, tRaiseFile, tMkFile, tYes, tPart, tNoPart, addU_int, addU_str, addU_ref, subU_int, mulU_int, mulU_ref, fdvU_int, modU_int, powU_int, ltU_int, leU_int, gtU_int, geU_int, eqU_int, eqU_str, eqU_bl, neU_int, neU_str, neU_bl, WE, TruV, List.map, List.length_cons, List.length_nil, List.replicate, List.append, List.getElem?_cons_zero, List.getElem?_cons_succ, List.set_cons_zero, List.set_cons_succ, List.cons_append, List.nil_append, Option.some.injEq, V.int.injEq, V.str.injEq, V.bl.injEq, V.ref.injEq, List.cons.injEq, exists_eq_left, exists_eq_right, and_true, true_and, and_self, exists_eq, exists_const, Bool.not_true, Bool.not_false, Bool.false_eq_true, if_true, if_false, reduceIte, decide_eq_true_eq, bne_iff_ne, exists_eq_left', exists_eq', exists_and_left, Bool.not_eq_true', decide_eq_false_iff_not, Nat.reduceSub, Nat.reduceAdd, reduceCtorEq, false_and, or_false, false_or, exists_false]
    refine ⟨_, rfl, fun q1 H1 e1 h1 => ⟨_, rfl, fun q2 H2 e2 h2 => .inl ⟨q1, q2, _, _, rfl, rfl, tup_at (e2.tup (by simp) h1), tup_at h2, by simp, sz 4, (fun z => by simp at z), fun _ q hq => h q _ (((e.trans e1).trans e2).trans (Ex.new hq)) upd_same⟩⟩⟩
def spLS (K : PySem.W.Frag) (TL : List (Addr × Str)) (GT : List Addr) : Sp := fun vs H Q E => ∃ (p : Addr) (ns : List Int), vs = [.ref p] ∧ SqT K H p (ns.map V.int) ∧
  ∀ q H', Ex [] TL GT H H' → H' q = some (.tup [.int ((wsum ns).2 / 256), .int ((wsum ns).2 % 256), .int ((wsum ns).1 / 256), .int ((wsum ns).1 % 256)]) → Q (.ref q) H'
theorem c_law_sum (T : Txt P w K mg base TL GT C fI) : Cal P w K mg base 5 "_law_sum" (spLS K TL GT) := by
  obtain ⟨f, fd, c, D⟩ := T.d_law_sum
  refine D.ok (N := ["numbers", "first", "second", "number"]) (ps := ["numbers"]) ⟨rfl, rfl, rfl, by decide +kernel, rfl, by decide +kernel, by decide +kernel⟩ (fun vs H Q E h => by first | (obtain ⟨_, rfl, _⟩ := h; rfl) | (obtain ⟨_, _, rfl, _⟩ := h; rfl) | (obtain ⟨_, _, _, rfl, _⟩ := h; rfl) | (obtain ⟨_, _, _, _, rfl, _⟩ := h; rfl) | (obtain ⟨_, _, _, _, _, rfl, _⟩ := h; rfl) | (obtain ⟨rfl, _⟩ := h; rfl)) (fun _ _ _ _ _ _ us hl => match us, hl with | [_], _ => rfl) (fun A outer s H vs Q E hr h => ?_)
  have nd : (["numbers", "first", "second", "number"] : List Str).Nodup := by decide
  refine mk_ex (pss_cons (ps_asg (pe_tup (pa_cons pe_int (pa_cons pe_int pa_nil))) (pg_tup (n := 2) rfl (pgs_cons (pg_name (i := 1) nd rfl (Or.inl rfl)) (pgs_cons (pg_name (i := 2) nd rfl (Or.inl rfl)) pgs_nil))))
    (pss_cons (ps_for (passes_of rfl) rfl (pi_tup (pv 0)) (pg_name (i := 3) nd rfl (Or.inl rfl)) (pss_cons (ps_set (i := 1) nd rfl (Or.inl rfl) (pe_op opU_mod (pe_callTy call_intU rfl T.n_int rfl (by exact (pa_cons (pe_op (opK (K := K) (r := rAddU) opU_add rfl) (pv 1) (pv 3)) pa_nil))) pe_int))
    (pss_one (ps_set (i := 2) nd rfl (Or.inl rfl) (pe_op opU_mod (pe_callTy call_intU rfl T.n_int rfl (by exact (pa_cons (pe_op (opK (K := K) (r := rAddU) opU_add rfl) (pv 2) (pv 1)) pa_nil))) pe_int)))))
    (pss_one (ps_ret (pe_tup (pa_cons (pe_op opU_fdv (pv 2) pe_int) (pa_cons (pe_op opU_mod (pv 2) pe_int) (pa_cons (pe_op opU_fdv (pv 1) pe_int) (pa_cons (pe_op opU_mod (pv 1) pe_int) pa_nil))))))))) ?_
  obtain ⟨p, ns, rfl, hs, h⟩ := h
  simp only [cx_K, gcx_K, lcx_K, LenV, rLenU, tTruU, kTup, tTupL, ex2eq, not_true_eq_false, not_false_eq_true, LamX.tLam, LamX.TTold, tSeq, tNext, tRet, tRetN, tIfS, tTest, tB, tNot, tAnd, tOr, tChain, tOp, tUn, tC, tVar, tCons, tNil, tTup, tLst, tAsg, gName, gTup, gCons, gNil, gSub, tDrop, tCallS, tCB, tM1, tM0, tBM, tBM0, tSl, tPar, tFor_eq, tLc_eq, intU_int, intU_bl, iList, iTup, iRng1, iRng2, iStr, tThen, tNever, L2.start, tRaiseFile, tMkFile, tYes, tPart, tNoPart, addU_int, addU_str, addU_ref, subU_int, mulU_int, mulU_ref, fdvU_int, modU_int, powU_int, ltU_int, leU_int, gtU_int, geU_int, eqU_int, eqU_str, eqU_bl, neU_int, neU_str, neU_bl, WE, TruV, List.map, List.length_cons, List.length_nil, List.replicate, List.append, List.getElem?_cons_zero, List.getElem?_cons_succ, List.set_cons_zero, List.set_cons_succ, List.cons_append, List.nil_append, Option.some.injEq, V.int.injEq, V.str.injEq, V.bl.injEq, V.ref.injEq, List.cons.injEq, exists_eq_left, exists_eq_right, and_true, true_and, and_self, exists_eq, exists_const, Bool.not_true, Bool.not_false, Bool.false_eq_true, if_true, if_false, reduceIte, decide_eq_true_eq, bne_iff_ne, exists_eq_left', exists_eq', exists_and_left, Bool.not_eq_true', decide_eq_false_iff_not, Nat.reduceSub, Nat.reduceAdd, reduceCtorEq, false_and, or_false, false_or, exists_false]
  refine ⟨sz 2, fun p1 hp1 => ⟨_, tup_at upd_same, rfl, _, _, rfl, _, _, rfl, rfl, ⟨_, (Ex.new (A := []) (TL := TL) (GT := GT) hp1).sqt (by simp) hs⟩, ?_⟩⟩
  refine loop_tup (xs := ns.map V.int) (fun i σ H' => ∃ v, σ = [some (.ref p), some (.int (wsum (ns.take i)).1), some (.int (wsum (ns.take i)).2), v] ∧ Ex [] TL GT H H') ⟨none, rfl, Ex.new hp1⟩ (fun i σ H' _ ⟨_, _, e⟩ => e.sqt (by simp) hs) ?_ ?_
  · rintro i x σ H' hx ⟨v, rfl, e⟩
    obtain ⟨n, hn, rfl⟩ := map_at hx
    simp only [cx_K, gcx_K, lcx_K, LenV, rLenU, tTruU, kTup, tTupL, ex2eq, not_true_eq_false, not_false_eq_true, LamX.tLam, LamX.TTold, tSeq, tNext, tRet, tRetN, tIfS, tTest, tB, tNot, tAnd, tOr, tChain, tOp, tUn, tC, tVar, tCons, tNil, tTup, tLst, tAsg, gName, gTup, gCons, gNil, gSub, tDrop, tCallS, tCB, tM1, tM0, tBM, tBM0, tSl, tPar, tFor_eq, tLc_eq, intU_int, intU_bl, iList, iTup, iRng1, iRng2, iStr, tThen, tNever, L2.start, tRaiseFile, tMkFile, tYes, tPart, tNoPart, addU_int, addU_str, addU_ref, subU_int, mulU_int, mulU_ref, fdvU_int, modU_int, powU_int, ltU_int, leU_int, gtU_int, geU_int, eqU_int, eqU_str, eqU_bl, neU_int, neU_str, neU_bl, WE, TruV, List.map, List.length_cons, List.length_nil, List.replicate, List.append, List.getElem?_cons_zero, List.getElem?_cons_succ, List.set_cons_zero, List.set_cons_succ, List.cons_append, List.nil_append, Option.some.injEq, V.int.injEq, V.str.injEq, V.bl.injEq, V.ref.injEq, List.cons.injEq, exists_eq_left, exists_eq_right, and_true, true_and, and_self, exists_eq, exists_const, Bool.not_true, Bool.not_false, Bool.false_eq_true, if_true, if_false, reduceIte, decide_eq_true_eq, bne_iff_ne, exists_eq_left', exists_eq', exists_and_left, Bool.not_eq_true', decide_eq_false_iff_not, Nat.reduceSub, Nat.reduceAdd, reduceCtorEq, false_and, or_false, false_or, exists_false]
    refine ⟨by decide, by decide, some (.int n), ?_, e⟩
    rw [wsum_more hn]
    exact ⟨rfl, rfl, rfl⟩
  · rintro σ H' ⟨v, rfl, e⟩
    have z : ns.take (ns.map V.int).length = ns := by rw [List.length_map]; exact List.take_length
    rw [z]
    simp only [cx_K, gcx_K, lcx_K, LenV, rLenU, tTruU, kTup, tTupL, ex2eq, not_true_eq_false, not_false_eq_true, LamX.tLam, LamX.TTold, tSeq, tNext, tRet, tRetN, tIfS, tTest, tB, tNot, tAnd, tOr, tChain, tOp, tUn, tC, tVar, tCons, tNil, tTup, tLst, tAsg, gName, gTup, gCons, gNil, gSub, tDrop, tCallS, tCB, tM1, tM0, tBM, tBM0, tSl, tPar, tFor_eq, tLc_eq, intU_int, intU_bl, iList, iTup, iRng1, iRng2, iStr, tThen, tNever, L2.start, tRaiseFile, tMkFile, tYes, tPart, tNoPart, addU_int, addU_str, addU_ref, subU_int, mulU_int, mulU_ref, fdvU_int, modU_int, powU_int, ltU_int, leU_int, gtU_int, geU_int, eqU_int, eqU_str, eqU_bl, neU_int, neU_str, neU_bl, WE, TruV, List.map, List.length_cons, List.length_nil, List.replicate, List.append, List.getElem?_cons_zero, List.getElem?_cons_succ, List.set_cons_zero, List.set_cons_succ, List.cons_append, List.nil_append, Option.some.injEq, V.int.injEq, V.str.injEq, V.bl.injEq, V.ref.injEq, List.cons.injEq, exists_eq_left, exists_eq_right, and_true, true_and, and_self, exists_eq, exists_const, Bool.not_true, Bool.not_false, Bool.false_eq_true, if_true, if_false, reduceIte, decide_eq_true_eq, bne_iff_ne, exists_eq_left', exists_eq', exists_and_left, Bool.not_eq_true', decide_eq_false_iff_not, Nat.reduceSub, Nat.reduceAdd, reduceCtorEq, false_and, or_false, false_or, exists_false]
    exact ⟨⟨by decide, by decide⟩, by decide, ⟨by decide, by decide⟩, by decide, sz 4, fun q hq => h q _ (e.trans (Ex.new hq)) upd_same⟩
def spDice (TL : List (Addr × Str)) (GT : List Addr) : Sp := fun vs H Q E => ∃ (n : Int), vs = [.int n] ∧
  ∀ q x y z H', Ex [] TL GT H H' → H' q = some (.lst [.int x, .int y, .int z]) → Q (.ref q) H'
theorem c_law_dice (T : Txt P w K mg base TL GT C fI) : Cal P w K mg base 3 "_law_dice" (spDice TL GT) := by
  obtain ⟨f, fd, c, D⟩ := T.d_law_dice
  refine D.ok (N := ["cell"]) (ps := ["cell"]) ⟨rfl, rfl, rfl, by decide +kernel, rfl, by decide +kernel, by decide +kernel⟩ (fun vs H Q E h => by first | (obtain ⟨_, rfl, _⟩ := h; rfl) | (obtain ⟨_, _, rfl, _⟩ := h; rfl) | (obtain ⟨_, _, _, rfl, _⟩ := h; rfl) | (obtain ⟨_, _, _, _, rfl, _⟩ := h; rfl) | (obtain ⟨_, _, _, _, _, rfl, _⟩ := h; rfl) | (obtain ⟨rfl, _⟩ := h; rfl)) (fun _ _ _ _ _ _ us hl => match us, hl with | [_], _ => rfl) (fun A outer s H vs Q E hr h => ?_)
  have nd : (["cell"] : List Str).Nodup := by decide
  refine mk_ex (pss_cons (ps_if (pt_chain opU_lt opU_lt (pe_op opU_sub pe_int pe_int) (pv 0) pe_int) (pss_one (ps_ret (pe_lst (pa_cons (pe_callB call_abs rfl T.n_abs rfl (by exact (pa_cons (pv 0) pa_nil))) (pa_cons pe_int (pa_cons pe_int pa_nil)))))) pss_nil)
    (pss_one (ps_ret (pe_lst (pa_cons (pv 0) (pa_cons (pe_op (opK (K := K) (r := rAddU) opU_add rfl) pe_int (pe_op opU_mod (pe_callTy call_intU rfl T.n_int rfl (by exact (pa_cons (pv 0) pa_nil))) pe_int)) (pa_cons (pe_callTy call_intU rfl T.n_int rfl (by exact (pa_cons (pe_cmpR opU_ge (pv 0) (pe_op opU_pow pe_int pe_int) (nomark _)) pa_nil))) pa_nil))))))) ?_
  obtain ⟨n, rfl, h⟩ := h
  simp only [cx_K, gcx_K, lcx_K, LenV, rLenU, tTruU, kTup, tTupL, ex2eq, not_true_eq_false, not_false_eq_true, LamX.tLam, LamX.TTold, tSeq, tNext, tRet, tRetN, tIfS, tTest, tB, tNot, tAnd, tOr, tChain, tOp, tUn, tC, tVar, tCons, tNil, tTup, tLst, tAsg, gName, gTup, gCons, gNil, gSub, tDrop, tCallS, tCB, tM1, tM0, tBM, tBM0, tSl, tPar, tFor_eq, tLc_eq, intU_int, intU_bl, iList, iTup, iRng1, iRng2, iStr, tThen, tNever, L2.start, tRaiseFile, tMkFile, tYes, tPart, tNoPart, addU_int, addU_str, addU_ref, subU_int, mulU_int, mulU_ref, fdvU_int, modU_int, powU_int, ltU_int, leU_int, gtU_int, geU_int, eqU_int, eqU_str, eqU_bl, neU_int, neU_str, neU_bl, WE, TruV, List.map, List.length_cons, List.length_nil, List.replicate, List.append, List.getElem?_cons_zero, List.getElem?_cons_succ, List.set_cons_zero, List.set_cons_succ, List.cons_append, List.nil_append, Option.some.injEq, V.int.injEq, V.str.injEq, V.bl.injEq, V.ref.injEq, List.cons.injEq, exists_eq_left, exists_eq_right, and_true, true_and, and_self, exists_eq, exists_const, Bool.not_true, Bool.not_false, Bool.false_eq_true, if_true, if_false, reduceIte, decide_eq_true_eq, bne_iff_ne, exists_eq_left', exists_eq', exists_and_left, Bool.not_eq_true', decide_eq_false_iff_not, Nat.reduceSub, Nat.reduceAdd, reduceCtorEq, false_and, or_false, false_or, exists_false]
  have hp : CPow 10 18 := ⟨by decide, by decide, by decide⟩
  repeat' (first | split | exact ⟨sz 3, fun p hp => h p _ _ _ _ (Ex.new hp) upd_same⟩ | exact ⟨by decide, hp, sz 3, fun p hp => h p _ _ _ _ (Ex.new hp) upd_same⟩)
def spRoll (TL : List (Addr × Str)) (GT : List Addr) : Sp := fun vs H Q E => ∃ (a : Addr) (x y z many : Int), vs = [.ref a, .int many] ∧ H a = some (.lst [.int x, .int y, .int z]) ∧ 0 < many ∧ many ≤ 100000000 ∧
  ∀ r x' y' z' H', 0 ≤ r → r < many → Ex [a] TL GT H H' → H' a = some (.lst [.int x', .int y', .int z']) → Q (.int r) H'
theorem c_law_roll (T : Txt P w K mg base TL GT C fI) : Cal P w K mg base 3 "_law_roll" (spRoll TL GT) := by
  obtain ⟨f, fd, c, D⟩ := T.d_law_roll
  refine D.ok (N := ["dice", "many", "found"]) (ps := ["dice", "many"]) ⟨rfl, rfl, rfl, by decide +kernel, rfl, by decide +kernel, by decide +kernel⟩ (fun vs H Q E h => by first | (obtain ⟨_, rfl, _⟩ := h; rfl) | (obtain ⟨_, _, rfl, _⟩ := h; rfl) | (obtain ⟨_, _, _, rfl, _⟩ := h; rfl) | (obtain ⟨_, _, _, _, rfl, _⟩ := h; rfl) | (obtain ⟨_, _, _, _, _, rfl, _⟩ := h; rfl) | (obtain ⟨rfl, _⟩ := h; rfl)) (fun _ _ _ _ _ _ us hl => match us, hl with | [_, _], _ => rfl) (fun A outer s H vs Q E hr h => ?_)
  have nd : (["dice", "many", "found"] : List Str).Nodup := by decide
  refine mk_ex (pss_cons (ps_if (PW.pt (pw_or (pt_cmpR (opK (K := K) (r := rEqU) (opU_eq (roomEq hr)) rfl) (pe_ix (ixK (K := K) (r := rIx) ix_seq rfl) (pv 0) pe_int (fun _ _ => rfl)) pe_int (nomark _)) (pw_or1 (PW.pt (pw_and (pt_cmpR (opK (K := K) (r := rEqU) (opU_eq (roomEq hr)) rfl) (pe_ix (ixK (K := K) (r := rIx) ix_seq rfl) (pv 0) pe_int (fun _ _ => rfl)) pe_int (nomark _)) (pw_and1 (pt_cmpR opU_gt (pe_ix (ixK (K := K) (r := rIx) ix_seq rfl) (pv 0) pe_int (fun _ _ => rfl)) pe_int (nomark _)))))))) (pss_cons (ps_set (i := 2) nd rfl (Or.inl rfl) (pe_op opU_mod (pe_callTy call_intU rfl T.n_int rfl (by exact (pa_cons (pe_ix (ixK (K := K) (r := rIx) ix_seq rfl) (pv 0) pe_int (fun _ _ => rfl)) pa_nil))) (pv 1)))
    (pss_cons (ps_asg (pe_op opU_fdv (pe_ix (ixK (K := K) (r := rIx) ix_seq rfl) (pv 0) pe_int (fun _ _ => rfl)) (pv 1)) (pg_sub (pv 0) pe_int set_list))
    (pss_one (ps_ret (pv 2))))) pss_nil)
    (pss_cons (ps_asg pe_int (pg_sub (pv 0) pe_int set_list))
    (pss_cons (ps_if (pt_cmpR opU_gt (pv 1) pe_int (nomark _)) (pss_one ps_never) pss_nil)
    (pss_cons (ps_asg (pe_op opU_mod (pe_callTy call_intU rfl T.n_int rfl (by exact (pa_cons (pe_op (opK (K := K) (r := rAddU) opU_add rfl) (pe_op (opK (K := K) (r := rAddU) opU_add rfl) (pe_op opU_mul (pe_ix (ixK (K := K) (r := rIx) ix_seq rfl) (pv 0) pe_int (fun _ _ => rfl)) pe_int) (pe_op opU_mul (pe_ix (ixK (K := K) (r := rIx) ix_seq rfl) (pv 0) pe_int (fun _ _ => rfl)) pe_int)) pe_int) pa_nil))) pe_int) (pg_sub (pv 0) pe_int set_list))
    (pss_cons (ps_asg (pe_op (opK (K := K) (r := rAddU) opU_add rfl) (pe_ix (ixK (K := K) (r := rIx) ix_seq rfl) (pv 0) pe_int (fun _ _ => rfl)) pe_int) (pg_sub (pv 0) pe_int set_list))
    (pss_one (ps_ret (pe_op opU_mod (pe_callTy call_intU rfl T.n_int rfl (by exact (pa_cons (pe_op opU_fdv (pe_ix (ixK (K := K) (r := rIx) ix_seq rfl) (pv 0) pe_int (fun _ _ => rfl)) pe_int) pa_nil))) (pv 1))))))))) ?_
  obtain ⟨a, x, y, z, many, rfl, ha, h1, h2, h⟩ := h
  simp only [cx_K, gcx_K, lcx_K, LenV, rLenU, tTruU, kTup, tTupL, ex2eq, not_true_eq_false, not_false_eq_true, LamX.tLam, LamX.TTold, tSeq, tNext, tRet, tRetN, tIfS, tTest, tB, tNot, tAnd, tOr, tChain, tOp, tUn, tC, tVar, tCons, tNil, tTup, tLst, tAsg, gName, gTup, gCons, gNil, gSub, tDrop, tCallS, tCB, tM1, tM0, tBM, tBM0, tSl, tPar, tFor_eq, tLc_eq, intU_int, intU_bl, iList, iTup, iRng1, iRng2, iStr, tThen, tNever, L2.start, tRaiseFile, tMkFile, tYes, tPart, tNoPart, addU_int, addU_str, addU_ref, subU_int, mulU_int, mulU_ref, fdvU_int, modU_int, powU_int, ltU_int, leU_int, gtU_int, geU_int, eqU_int, eqU_str, eqU_bl, neU_int, neU_str, neU_bl, WE, TruV, List.map, List.length_cons, List.length_nil, List.replicate, List.append, List.getElem?_cons_zero, List.getElem?_cons_succ, List.set_cons_zero, List.set_cons_succ, List.cons_append, List.nil_append, Option.some.injEq, V.int.injEq, V.str.injEq, V.bl.injEq, V.ref.injEq, List.cons.injEq, exists_eq_left, exists_eq_right, and_true, true_and, and_self, exists_eq, exists_const, Bool.not_true, Bool.not_false, Bool.false_eq_true, if_true, if_false, reduceIte, decide_eq_true_eq, bne_iff_ne, exists_eq_left', exists_eq', exists_and_left, Bool.not_eq_true', decide_eq_false_iff_not, Nat.reduceSub, Nat.reduceAdd, reduceCtorEq, false_and, or_false, false_or, exists_false]
  have hc : ∀ {i : Int}, CDiv i many := ⟨h1, by omega⟩
  have hfin : ∀ (r x' y' z' : Int) (H' : Hp), 0 ≤ r → r < many → Ex [a] TL GT H H' → H' a = some (.lst [.int x', .int y', .int z']) → Q (.int r) H' := fun r x' y' z' H' => h r x' y' z' H'
  have hput : ∀ {H1 : Hp} {l l' : List V}, H1 a = some (.lst l) → Ex [a] TL GT H1 (upd H1 a (.lst l')) := fun e => Ex.put (by simp) e (fun _ q => by cases q) (fun _ q => by cases q)
  have hm0 : ∀ i : Int, 0 ≤ i % many := fun i => Int.emod_nonneg _ (by omega)
  have hm1 : ∀ i : Int, i % many < many := fun i => Int.emod_lt_of_pos _ h1
  have hA : rIx K (.ref a) (.int 0) H fun x H1 => rIntU [x] H1 fun x H1 => rModU x (.int many) H1 fun x H1 => rIx K (.ref a) (.int 0) H1 fun x1 H1 => rFdvU x1 (.int many) H1 fun x2 H1 => rSetL (.ref a) (.int 0) x2 H1 fun H3 => Q x H3 := by
    refine rIx_lst (lst_at ha) (by rfl) ?_; try simp only [cx_K, gcx_K, lcx_K, LenV, rLenU, tTruU, kTup, tTupL, ex2eq, not_true_eq_false, not_false_eq_true, LamX.tLam, LamX.TTold, tSeq, tNext, tRet, tRetN, tIfS, tTest, tB, tNot, tAnd, tOr, tChain, tOp, tUn, tC, tVar, tCons, tNil, tTup, tLst, tAsg, gName, gTup, gCons, gNil, gSub, tDrop, tCallS, tCB, tM1, tM0, tBM, tBM0, tSl, tPar, tFor_eq, tLc_eq, intU_int, intU_bl, iList, iTup, iRng1, iRng2, iStr, tThen, tNever, L2.start, tRaiseFile, tMkFile, tYes, tPart, tNoPart, addU_int, addU_str, addU_ref, subU_int, mulU_int, mulU_ref, fdvU_int, modU_int, powU_int, ltU_int, leU_int, gtU_int, geU_int, eqU_int, eqU_str, eqU_bl, neU_int, neU_str, neU_bl, WE, TruV, List.map, List.length_cons, List.length_nil, List.replicate, List.append, List.getElem?_cons_zero, List.getElem?_cons_succ, List.set_cons_zero, List.set_cons_succ, List.cons_append, List.nil_append, Option.some.injEq, V.int.injEq, V.str.injEq, V.bl.injEq, V.ref.injEq, List.cons.injEq, exists_eq_left, exists_eq_right, and_true, true_and, and_self, exists_eq, exists_const, Bool.not_true, Bool.not_false, Bool.false_eq_true, if_true, if_false, reduceIte, decide_eq_true_eq, bne_iff_ne, exists_eq_left', exists_eq', exists_and_left, Bool.not_eq_true', decide_eq_false_iff_not, Nat.reduceSub, Nat.reduceAdd, reduceCtorEq, false_and, or_false, false_or, exists_false]
    refine ⟨h1, ?_⟩
    refine rIx_lst (lst_at ha) (by rfl) ?_; try simp only [cx_K, gcx_K, lcx_K, LenV, rLenU, tTruU, kTup, tTupL, ex2eq, not_true_eq_false, not_false_eq_true, LamX.tLam, LamX.TTold, tSeq, tNext, tRet, tRetN, tIfS, tTest, tB, tNot, tAnd, tOr, tChain, tOp, tUn, tC, tVar, tCons, tNil, tTup, tLst, tAsg, gName, gTup, gCons, gNil, gSub, tDrop, tCallS, tCB, tM1, tM0, tBM, tBM0, tSl, tPar, tFor_eq, tLc_eq, intU_int, intU_bl, iList, iTup, iRng1, iRng2, iStr, tThen, tNever, L2.start, tRaiseFile, tMkFile, tYes, tPart, tNoPart, addU_int, addU_str, addU_ref, subU_int, mulU_int, mulU_ref, fdvU_int, modU_int, powU_int, ltU_int, leU_int, gtU_int, geU_int, eqU_int, eqU_str, eqU_bl, neU_int, neU_str, neU_bl, WE, TruV, List.map, List.length_cons, List.length_nil, List.replicate, List.append, List.getElem?_cons_zero, List.getElem?_cons_succ, List.set_cons_zero, List.set_cons_succ, List.cons_append, List.nil_append, Option.some.injEq, V.int.injEq, V.str.injEq, V.bl.injEq, V.ref.injEq, List.cons.injEq, exists_eq_left, exists_eq_right, and_true, true_and, and_self, exists_eq, exists_const, Bool.not_true, Bool.not_false, Bool.false_eq_true, if_true, if_false, reduceIte, decide_eq_true_eq, bne_iff_ne, exists_eq_left', exists_eq', exists_and_left, Bool.not_eq_true', decide_eq_false_iff_not, Nat.reduceSub, Nat.reduceAdd, reduceCtorEq, false_and, or_false, false_or, exists_false]
    refine ⟨hc, ?_⟩
    refine setL_at ha rfl (by rfl) ?_
    exact hfin _ _ _ _ _ (hm0 _) (hm1 _) (hput ha) upd_same
  have nb : ¬ (100000000 < many) := by omega
  refine rIx_lst (lst_at ha) (by rfl) ?_; try simp only [cx_K, gcx_K, lcx_K, LenV, rLenU, tTruU, kTup, tTupL, ex2eq, not_true_eq_false, not_false_eq_true, LamX.tLam, LamX.TTold, tSeq, tNext, tRet, tRetN, tIfS, tTest, tB, tNot, tAnd, tOr, tChain, tOp, tUn, tC, tVar, tCons, tNil, tTup, tLst, tAsg, gName, gTup, gCons, gNil, gSub, tDrop, tCallS, tCB, tM1, tM0, tBM, tBM0, tSl, tPar, tFor_eq, tLc_eq, intU_int, intU_bl, iList, iTup, iRng1, iRng2, iStr, tThen, tNever, L2.start, tRaiseFile, tMkFile, tYes, tPart, tNoPart, addU_int, addU_str, addU_ref, subU_int, mulU_int, mulU_ref, fdvU_int, modU_int, powU_int, ltU_int, leU_int, gtU_int, geU_int, eqU_int, eqU_str, eqU_bl, neU_int, neU_str, neU_bl, WE, TruV, List.map, List.length_cons, List.length_nil, List.replicate, List.append, List.getElem?_cons_zero, List.getElem?_cons_succ, List.set_cons_zero, List.set_cons_succ, List.cons_append, List.nil_append, Option.some.injEq, V.int.injEq, V.str.injEq, V.bl.injEq, V.ref.injEq, List.cons.injEq, exists_eq_left, exists_eq_right, and_true, true_and, and_self, exists_eq, exists_const, Bool.not_true, Bool.not_false, Bool.false_eq_true, if_true, if_false, reduceIte, decide_eq_true_eq, bne_iff_ne, exists_eq_left', exists_eq', exists_and_left, Bool.not_eq_true', decide_eq_false_iff_not, Nat.reduceSub, Nat.reduceAdd, reduceCtorEq, false_and, or_false, false_or, exists_false]
  split
  · exact hA
  · refine rIx_lst (lst_at ha) (by rfl) ?_; try simp only [cx_K, gcx_K, lcx_K, LenV, rLenU, tTruU, kTup, tTupL, ex2eq, not_true_eq_false, not_false_eq_true, LamX.tLam, LamX.TTold, tSeq, tNext, tRet, tRetN, tIfS, tTest, tB, tNot, tAnd, tOr, tChain, tOp, tUn, tC, tVar, tCons, tNil, tTup, tLst, tAsg, gName, gTup, gCons, gNil, gSub, tDrop, tCallS, tCB, tM1, tM0, tBM, tBM0, tSl, tPar, tFor_eq, tLc_eq, intU_int, intU_bl, iList, iTup, iRng1, iRng2, iStr, tThen, tNever, L2.start, tRaiseFile, tMkFile, tYes, tPart, tNoPart, addU_int, addU_str, addU_ref, subU_int, mulU_int, mulU_ref, fdvU_int, modU_int, powU_int, ltU_int, leU_int, gtU_int, geU_int, eqU_int, eqU_str, eqU_bl, neU_int, neU_str, neU_bl, WE, TruV, List.map, List.length_cons, List.length_nil, List.replicate, List.append, List.getElem?_cons_zero, List.getElem?_cons_succ, List.set_cons_zero, List.set_cons_succ, List.cons_append, List.nil_append, Option.some.injEq, V.int.injEq, V.str.injEq, V.bl.injEq, V.ref.injEq, List.cons.injEq, exists_eq_left, exists_eq_right, and_true, true_and, and_self, exists_eq, exists_const, Bool.not_true, Bool.not_false, Bool.false_eq_true, if_true, if_false, reduceIte, decide_eq_true_eq, bne_iff_ne, exists_eq_left', exists_eq', exists_and_left, Bool.not_eq_true', decide_eq_false_iff_not, Nat.reduceSub, Nat.reduceAdd, reduceCtorEq, false_and, or_false, false_or, exists_false]
    split
    · refine rIx_lst (lst_at ha) (by rfl) ?_; try simp only [cx_K, gcx_K, lcx_K, LenV, rLenU, tTruU, kTup, tTupL, ex2eq, not_true_eq_false, not_false_eq_true, LamX.tLam, LamX.TTold, tSeq, tNext, tRet, tRetN, tIfS, tTest, tB, tNot, tAnd, tOr, tChain, tOp, tUn, tC, tVar, tCons, tNil, tTup, tLst, tAsg, gName, gTup, gCons, gNil, gSub, tDrop, tCallS, tCB, tM1, tM0, tBM, tBM0, tSl, tPar, tFor_eq, tLc_eq, intU_int, intU_bl, iList, iTup, iRng1, iRng2, iStr, tThen, tNever, L2.start, tRaiseFile, tMkFile, tYes, tPart, tNoPart, addU_int, addU_str, addU_ref, subU_int, mulU_int, mulU_ref, fdvU_int, modU_int, powU_int, ltU_int, leU_int, gtU_int, geU_int, eqU_int, eqU_str, eqU_bl, neU_int, neU_str, neU_bl, WE, TruV, List.map, List.length_cons, List.length_nil, List.replicate, List.append, List.getElem?_cons_zero, List.getElem?_cons_succ, List.set_cons_zero, List.set_cons_succ, List.cons_append, List.nil_append, Option.some.injEq, V.int.injEq, V.str.injEq, V.bl.injEq, V.ref.injEq, List.cons.injEq, exists_eq_left, exists_eq_right, and_true, true_and, and_self, exists_eq, exists_const, Bool.not_true, Bool.not_false, Bool.false_eq_true, if_true, if_false, reduceIte, decide_eq_true_eq, bne_iff_ne, exists_eq_left', exists_eq', exists_and_left, Bool.not_eq_true', decide_eq_false_iff_not, Nat.reduceSub, Nat.reduceAdd, reduceCtorEq, false_and, or_false, false_or, exists_false]
      split
      · exact hA
      · refine setL_at ha rfl (by rfl) ?_; try simp only [cx_K, gcx_K, lcx_K, LenV, rLenU, tTruU, kTup, tTupL, ex2eq, not_true_eq_false, not_false_eq_true, LamX.tLam, LamX.TTold, tSeq, tNext, tRet, tRetN, tIfS, tTest, tB, tNot, tAnd, tOr, tChain, tOp, tUn, tC, tVar, tCons, tNil, tTup, tLst, tAsg, gName, gTup, gCons, gNil, gSub, tDrop, tCallS, tCB, tM1, tM0, tBM, tBM0, tSl, tPar, tFor_eq, tLc_eq, intU_int, intU_bl, iList, iTup, iRng1, iRng2, iStr, tThen, tNever, L2.start, tRaiseFile, tMkFile, tYes, tPart, tNoPart, addU_int, addU_str, addU_ref, subU_int, mulU_int, mulU_ref, fdvU_int, modU_int, powU_int, ltU_int, leU_int, gtU_int, geU_int, eqU_int, eqU_str, eqU_bl, neU_int, neU_str, neU_bl, WE, TruV, List.map, List.length_cons, List.length_nil, List.replicate, List.append, List.getElem?_cons_zero, List.getElem?_cons_succ, List.set_cons_zero, List.set_cons_succ, List.cons_append, List.nil_append, Option.some.injEq, V.int.injEq, V.str.injEq, V.bl.injEq, V.ref.injEq, List.cons.injEq, exists_eq_left, exists_eq_right, and_true, true_and, and_self, exists_eq, exists_const, Bool.not_true, Bool.not_false, Bool.false_eq_true, if_true, if_false, reduceIte, decide_eq_true_eq, bne_iff_ne, exists_eq_left', exists_eq', exists_and_left, Bool.not_eq_true', decide_eq_false_iff_not, Nat.reduceSub, Nat.reduceAdd, reduceCtorEq, false_and, or_false, false_or, exists_false]
        try rw [if_neg nb]
        refine rIx_lst (lst_at upd_same) (by rfl) ?_; try simp only [cx_K, gcx_K, lcx_K, LenV, rLenU, tTruU, kTup, tTupL, ex2eq, not_true_eq_false, not_false_eq_true, LamX.tLam, LamX.TTold, tSeq, tNext, tRet, tRetN, tIfS, tTest, tB, tNot, tAnd, tOr, tChain, tOp, tUn, tC, tVar, tCons, tNil, tTup, tLst, tAsg, gName, gTup, gCons, gNil, gSub, tDrop, tCallS, tCB, tM1, tM0, tBM, tBM0, tSl, tPar, tFor_eq, tLc_eq, intU_int, intU_bl, iList, iTup, iRng1, iRng2, iStr, tThen, tNever, L2.start, tRaiseFile, tMkFile, tYes, tPart, tNoPart, addU_int, addU_str, addU_ref, subU_int, mulU_int, mulU_ref, fdvU_int, modU_int, powU_int, ltU_int, leU_int, gtU_int, geU_int, eqU_int, eqU_str, eqU_bl, neU_int, neU_str, neU_bl, WE, TruV, List.map, List.length_cons, List.length_nil, List.replicate, List.append, List.getElem?_cons_zero, List.getElem?_cons_succ, List.set_cons_zero, List.set_cons_succ, List.cons_append, List.nil_append, Option.some.injEq, V.int.injEq, V.str.injEq, V.bl.injEq, V.ref.injEq, List.cons.injEq, exists_eq_left, exists_eq_right, and_true, true_and, and_self, exists_eq, exists_const, Bool.not_true, Bool.not_false, Bool.false_eq_true, if_true, if_false, reduceIte, decide_eq_true_eq, bne_iff_ne, exists_eq_left', exists_eq', exists_and_left, Bool.not_eq_true', decide_eq_false_iff_not, Nat.reduceSub, Nat.reduceAdd, reduceCtorEq, false_and, or_false, false_or, exists_false]
        refine ⟨.inr (by decide), ?_⟩
        refine rIx_lst (lst_at upd_same) (by rfl) ?_; try simp only [cx_K, gcx_K, lcx_K, LenV, rLenU, tTruU, kTup, tTupL, ex2eq, not_true_eq_false, not_false_eq_true, LamX.tLam, LamX.TTold, tSeq, tNext, tRet, tRetN, tIfS, tTest, tB, tNot, tAnd, tOr, tChain, tOp, tUn, tC, tVar, tCons, tNil, tTup, tLst, tAsg, gName, gTup, gCons, gNil, gSub, tDrop, tCallS, tCB, tM1, tM0, tBM, tBM0, tSl, tPar, tFor_eq, tLc_eq, intU_int, intU_bl, iList, iTup, iRng1, iRng2, iStr, tThen, tNever, L2.start, tRaiseFile, tMkFile, tYes, tPart, tNoPart, addU_int, addU_str, addU_ref, subU_int, mulU_int, mulU_ref, fdvU_int, modU_int, powU_int, ltU_int, leU_int, gtU_int, geU_int, eqU_int, eqU_str, eqU_bl, neU_int, neU_str, neU_bl, WE, TruV, List.map, List.length_cons, List.length_nil, List.replicate, List.append, List.getElem?_cons_zero, List.getElem?_cons_succ, List.set_cons_zero, List.set_cons_succ, List.cons_append, List.nil_append, Option.some.injEq, V.int.injEq, V.str.injEq, V.bl.injEq, V.ref.injEq, List.cons.injEq, exists_eq_left, exists_eq_right, and_true, true_and, and_self, exists_eq, exists_const, Bool.not_true, Bool.not_false, Bool.false_eq_true, if_true, if_false, reduceIte, decide_eq_true_eq, bne_iff_ne, exists_eq_left', exists_eq', exists_and_left, Bool.not_eq_true', decide_eq_false_iff_not, Nat.reduceSub, Nat.reduceAdd, reduceCtorEq, false_and, or_false, false_or, exists_false]
        refine ⟨.inr (by decide), by decide, ?_⟩
        refine setL_at upd_same rfl (by rfl) ?_; try simp only [cx_K, gcx_K, lcx_K, LenV, rLenU, tTruU, kTup, tTupL, ex2eq, not_true_eq_false, not_false_eq_true, LamX.tLam, LamX.TTold, tSeq, tNext, tRet, tRetN, tIfS, tTest, tB, tNot, tAnd, tOr, tChain, tOp, tUn, tC, tVar, tCons, tNil, tTup, tLst, tAsg, gName, gTup, gCons, gNil, gSub, tDrop, tCallS, tCB, tM1, tM0, tBM, tBM0, tSl, tPar, tFor_eq, tLc_eq, intU_int, intU_bl, iList, iTup, iRng1, iRng2, iStr, tThen, tNever, L2.start, tRaiseFile, tMkFile, tYes, tPart, tNoPart, addU_int, addU_str, addU_ref, subU_int, mulU_int, mulU_ref, fdvU_int, modU_int, powU_int, ltU_int, leU_int, gtU_int, geU_int, eqU_int, eqU_str, eqU_bl, neU_int, neU_str, neU_bl, WE, TruV, List.map, List.length_cons, List.length_nil, List.replicate, List.append, List.getElem?_cons_zero, List.getElem?_cons_succ, List.set_cons_zero, List.set_cons_succ, List.cons_append, List.nil_append, Option.some.injEq, V.int.injEq, V.str.injEq, V.bl.injEq, V.ref.injEq, List.cons.injEq, exists_eq_left, exists_eq_right, and_true, true_and, and_self, exists_eq, exists_const, Bool.not_true, Bool.not_false, Bool.false_eq_true, if_true, if_false, reduceIte, decide_eq_true_eq, bne_iff_ne, exists_eq_left', exists_eq', exists_and_left, Bool.not_eq_true', decide_eq_false_iff_not, Nat.reduceSub, Nat.reduceAdd, reduceCtorEq, false_and, or_false, false_or, exists_false]
        refine rIx_lst (lst_at upd_same) (by rfl) ?_; try simp only [cx_K, gcx_K, lcx_K, LenV, rLenU, tTruU, kTup, tTupL, ex2eq, not_true_eq_false, not_false_eq_true, LamX.tLam, LamX.TTold, tSeq, tNext, tRet, tRetN, tIfS, tTest, tB, tNot, tAnd, tOr, tChain, tOp, tUn, tC, tVar, tCons, tNil, tTup, tLst, tAsg, gName, gTup, gCons, gNil, gSub, tDrop, tCallS, tCB, tM1, tM0, tBM, tBM0, tSl, tPar, tFor_eq, tLc_eq, intU_int, intU_bl, iList, iTup, iRng1, iRng2, iStr, tThen, tNever, L2.start, tRaiseFile, tMkFile, tYes, tPart, tNoPart, addU_int, addU_str, addU_ref, subU_int, mulU_int, mulU_ref, fdvU_int, modU_int, powU_int, ltU_int, leU_int, gtU_int, geU_int, eqU_int, eqU_str, eqU_bl, neU_int, neU_str, neU_bl, WE, TruV, List.map, List.length_cons, List.length_nil, List.replicate, List.append, List.getElem?_cons_zero, List.getElem?_cons_succ, List.set_cons_zero, List.set_cons_succ, List.cons_append, List.nil_append, Option.some.injEq, V.int.injEq, V.str.injEq, V.bl.injEq, V.ref.injEq, List.cons.injEq, exists_eq_left, exists_eq_right, and_true, true_and, and_self, exists_eq, exists_const, Bool.not_true, Bool.not_false, Bool.false_eq_true, if_true, if_false, reduceIte, decide_eq_true_eq, bne_iff_ne, exists_eq_left', exists_eq', exists_and_left, Bool.not_eq_true', decide_eq_false_iff_not, Nat.reduceSub, Nat.reduceAdd, reduceCtorEq, false_and, or_false, false_or, exists_false]
        refine setL_at upd_same rfl (by rfl) ?_; try simp only [cx_K, gcx_K, lcx_K, LenV, rLenU, tTruU, kTup, tTupL, ex2eq, not_true_eq_false, not_false_eq_true, LamX.tLam, LamX.TTold, tSeq, tNext, tRet, tRetN, tIfS, tTest, tB, tNot, tAnd, tOr, tChain, tOp, tUn, tC, tVar, tCons, tNil, tTup, tLst, tAsg, gName, gTup, gCons, gNil, gSub, tDrop, tCallS, tCB, tM1, tM0, tBM, tBM0, tSl, tPar, tFor_eq, tLc_eq, intU_int, intU_bl, iList, iTup, iRng1, iRng2, iStr, tThen, tNever, L2.start, tRaiseFile, tMkFile, tYes, tPart, tNoPart, addU_int, addU_str, addU_ref, subU_int, mulU_int, mulU_ref, fdvU_int, modU_int, powU_int, ltU_int, leU_int, gtU_int, geU_int, eqU_int, eqU_str, eqU_bl, neU_int, neU_str, neU_bl, WE, TruV, List.map, List.length_cons, List.length_nil, List.replicate, List.append, List.getElem?_cons_zero, List.getElem?_cons_succ, List.set_cons_zero, List.set_cons_succ, List.cons_append, List.nil_append, Option.some.injEq, V.int.injEq, V.str.injEq, V.bl.injEq, V.ref.injEq, List.cons.injEq, exists_eq_left, exists_eq_right, and_true, true_and, and_self, exists_eq, exists_const, Bool.not_true, Bool.not_false, Bool.false_eq_true, if_true, if_false, reduceIte, decide_eq_true_eq, bne_iff_ne, exists_eq_left', exists_eq', exists_and_left, Bool.not_eq_true', decide_eq_false_iff_not, Nat.reduceSub, Nat.reduceAdd, reduceCtorEq, false_and, or_false, false_or, exists_false]
        refine rIx_lst (lst_at upd_same) (by rfl) ?_; try simp only [cx_K, gcx_K, lcx_K, LenV, rLenU, tTruU, kTup, tTupL, ex2eq, not_true_eq_false, not_false_eq_true, LamX.tLam, LamX.TTold, tSeq, tNext, tRet, tRetN, tIfS, tTest, tB, tNot, tAnd, tOr, tChain, tOp, tUn, tC, tVar, tCons, tNil, tTup, tLst, tAsg, gName, gTup, gCons, gNil, gSub, tDrop, tCallS, tCB, tM1, tM0, tBM, tBM0, tSl, tPar, tFor_eq, tLc_eq, intU_int, intU_bl, iList, iTup, iRng1, iRng2, iStr, tThen, tNever, L2.start, tRaiseFile, tMkFile, tYes, tPart, tNoPart, addU_int, addU_str, addU_ref, subU_int, mulU_int, mulU_ref, fdvU_int, modU_int, powU_int, ltU_int, leU_int, gtU_int, geU_int, eqU_int, eqU_str, eqU_bl, neU_int, neU_str, neU_bl, WE, TruV, List.map, List.length_cons, List.length_nil, List.replicate, List.append, List.getElem?_cons_zero, List.getElem?_cons_succ, List.set_cons_zero, List.set_cons_succ, List.cons_append, List.nil_append, Option.some.injEq, V.int.injEq, V.str.injEq, V.bl.injEq, V.ref.injEq, List.cons.injEq, exists_eq_left, exists_eq_right, and_true, true_and, and_self, exists_eq, exists_const, Bool.not_true, Bool.not_false, Bool.false_eq_true, if_true, if_false, reduceIte, decide_eq_true_eq, bne_iff_ne, exists_eq_left', exists_eq', exists_and_left, Bool.not_eq_true', decide_eq_false_iff_not, Nat.reduceSub, Nat.reduceAdd, reduceCtorEq, false_and, or_false, false_or, exists_false]
        exact ⟨⟨by decide, by decide⟩, h1, hfin _ _ _ _ _ (hm0 _) (hm1 _) (((hput ha).trans (hput upd_same)).trans (hput upd_same)) upd_same⟩
    · refine setL_at ha rfl (by rfl) ?_; try simp only [cx_K, gcx_K, lcx_K, LenV, rLenU, tTruU, kTup, tTupL, ex2eq, not_true_eq_false, not_false_eq_true, LamX.tLam, LamX.TTold, tSeq, tNext, tRet, tRetN, tIfS, tTest, tB, tNot, tAnd, tOr, tChain, tOp, tUn, tC, tVar, tCons, tNil, tTup, tLst, tAsg, gName, gTup, gCons, gNil, gSub, tDrop, tCallS, tCB, tM1, tM0, tBM, tBM0, tSl, tPar, tFor_eq, tLc_eq, intU_int, intU_bl, iList, iTup, iRng1, iRng2, iStr, tThen, tNever, L2.start, tRaiseFile, tMkFile, tYes, tPart, tNoPart, addU_int, addU_str, addU_ref, subU_int, mulU_int, mulU_ref, fdvU_int, modU_int, powU_int, ltU_int, leU_int, gtU_int, geU_int, eqU_int, eqU_str, eqU_bl, neU_int, neU_str, neU_bl, WE, TruV, List.map, List.length_cons, List.length_nil, List.replicate, List.append, List.getElem?_cons_zero, List.getElem?_cons_succ, List.set_cons_zero, List.set_cons_succ, List.cons_append, List.nil_append, Option.some.injEq, V.int.injEq, V.str.injEq, V.bl.injEq, V.ref.injEq, List.cons.injEq, exists_eq_left, exists_eq_right, and_true, true_and, and_self, exists_eq, exists_const, Bool.not_true, Bool.not_false, Bool.false_eq_true, if_true, if_false, reduceIte, decide_eq_true_eq, bne_iff_ne, exists_eq_left', exists_eq', exists_and_left, Bool.not_eq_true', decide_eq_false_iff_not, Nat.reduceSub, Nat.reduceAdd, reduceCtorEq, false_and, or_false, false_or, exists_false]
      try rw [if_neg nb]
      refine rIx_lst (lst_at upd_same) (by rfl) ?_; try simp only [cx_K, gcx_K, lcx_K, LenV, rLenU, tTruU, kTup, tTupL, ex2eq, not_true_eq_false, not_false_eq_true, LamX.tLam, LamX.TTold, tSeq, tNext, tRet, tRetN, tIfS, tTest, tB, tNot, tAnd, tOr, tChain, tOp, tUn, tC, tVar, tCons, tNil, tTup, tLst, tAsg, gName, gTup, gCons, gNil, gSub, tDrop, tCallS, tCB, tM1, tM0, tBM, tBM0, tSl, tPar, tFor_eq, tLc_eq, intU_int, intU_bl, iList, iTup, iRng1, iRng2, iStr, tThen, tNever, L2.start, tRaiseFile, tMkFile, tYes, tPart, tNoPart, addU_int, addU_str, addU_ref, subU_int, mulU_int, mulU_ref, fdvU_int, modU_int, powU_int, ltU_int, leU_int, gtU_int, geU_int, eqU_int, eqU_str, eqU_bl, neU_int, neU_str, neU_bl, WE, TruV, List.map, List.length_cons, List.length_nil, List.replicate, List.append, List.getElem?_cons_zero, List.getElem?_cons_succ, List.set_cons_zero, List.set_cons_succ, List.cons_append, List.nil_append, Option.some.injEq, V.int.injEq, V.str.injEq, V.bl.injEq, V.ref.injEq, List.cons.injEq, exists_eq_left, exists_eq_right, and_true, true_and, and_self, exists_eq, exists_const, Bool.not_true, Bool.not_false, Bool.false_eq_true, if_true, if_false, reduceIte, decide_eq_true_eq, bne_iff_ne, exists_eq_left', exists_eq', exists_and_left, Bool.not_eq_true', decide_eq_false_iff_not, Nat.reduceSub, Nat.reduceAdd, reduceCtorEq, false_and, or_false, false_or, exists_false]
      refine ⟨.inr (by decide), ?_⟩
      refine rIx_lst (lst_at upd_same) (by rfl) ?_; try simp only [cx_K, gcx_K, lcx_K, LenV, rLenU, tTruU, kTup, tTupL, ex2eq, not_true_eq_false, not_false_eq_true, LamX.tLam, LamX.TTold, tSeq, tNext, tRet, tRetN, tIfS, tTest, tB, tNot, tAnd, tOr, tChain, tOp, tUn, tC, tVar, tCons, tNil, tTup, tLst, tAsg, gName, gTup, gCons, gNil, gSub, tDrop, tCallS, tCB, tM1, tM0, tBM, tBM0, tSl, tPar, tFor_eq, tLc_eq, intU_int, intU_bl, iList, iTup, iRng1, iRng2, iStr, tThen, tNever, L2.start, tRaiseFile, tMkFile, tYes, tPart, tNoPart, addU_int, addU_str, addU_ref, subU_int, mulU_int, mulU_ref, fdvU_int, modU_int, powU_int, ltU_int, leU_int, gtU_int, geU_int, eqU_int, eqU_str, eqU_bl, neU_int, neU_str, neU_bl, WE, TruV, List.map, List.length_cons, List.length_nil, List.replicate, List.append, List.getElem?_cons_zero, List.getElem?_cons_succ, List.set_cons_zero, List.set_cons_succ, List.cons_append, List.nil_append, Option.some.injEq, V.int.injEq, V.str.injEq, V.bl.injEq, V.ref.injEq, List.cons.injEq, exists_eq_left, exists_eq_right, and_true, true_and, and_self, exists_eq, exists_const, Bool.not_true, Bool.not_false, Bool.false_eq_true, if_true, if_false, reduceIte, decide_eq_true_eq, bne_iff_ne, exists_eq_left', exists_eq', exists_and_left, Bool.not_eq_true', decide_eq_false_iff_not, Nat.reduceSub, Nat.reduceAdd, reduceCtorEq, false_and, or_false, false_or, exists_false]
      refine ⟨.inr (by decide), by decide, ?_⟩
      refine setL_at upd_same rfl (by rfl) ?_; try simp only [cx_K, gcx_K, lcx_K, LenV, rLenU, tTruU, kTup, tTupL, ex2eq, not_true_eq_false, not_false_eq_true, LamX.tLam, LamX.TTold, tSeq, tNext, tRet, tRetN, tIfS, tTest, tB, tNot, tAnd, tOr, tChain, tOp, tUn, tC, tVar, tCons, tNil, tTup, tLst, tAsg, gName, gTup, gCons, gNil, gSub, tDrop, tCallS, tCB, tM1, tM0, tBM, tBM0, tSl, tPar, tFor_eq, tLc_eq, intU_int, intU_bl, iList, iTup, iRng1, iRng2, iStr, tThen, tNever, L2.start, tRaiseFile, tMkFile, tYes, tPart, tNoPart, addU_int, addU_str, addU_ref, subU_int, mulU_int, mulU_ref, fdvU_int, modU_int, powU_int, ltU_int, leU_int, gtU_int, geU_int, eqU_int, eqU_str, eqU_bl, neU_int, neU_str, neU_bl, WE, TruV, List.map, List.length_cons, List.length_nil, List.replicate, List.append, List.getElem?_cons_zero, List.getElem?_cons_succ, List.set_cons_zero, List.set_cons_succ, List.cons_append, List.nil_append, Option.some.injEq, V.int.injEq, V.str.injEq, V.bl.injEq, V.ref.injEq, List.cons.injEq, exists_eq_left, exists_eq_right, and_true, true_and, and_self, exists_eq, exists_const, Bool.not_true, Bool.not_false, Bool.false_eq_true, if_true, if_false, reduceIte, decide_eq_true_eq, bne_iff_ne, exists_eq_left', exists_eq', exists_and_left, Bool.not_eq_true', decide_eq_false_iff_not, Nat.reduceSub, Nat.reduceAdd, reduceCtorEq, false_and, or_false, false_or, exists_false]
      refine rIx_lst (lst_at upd_same) (by rfl) ?_; try simp only [cx_K, gcx_K, lcx_K, LenV, rLenU, tTruU, kTup, tTupL, ex2eq, not_true_eq_false, not_false_eq_true, LamX.tLam, LamX.TTold, tSeq, tNext, tRet, tRetN, tIfS, tTest, tB, tNot, tAnd, tOr, tChain, tOp, tUn, tC, tVar, tCons, tNil, tTup, tLst, tAsg, gName, gTup, gCons, gNil, gSub, tDrop, tCallS, tCB, tM1, tM0, tBM, tBM0, tSl, tPar, tFor_eq, tLc_eq, intU_int, intU_bl, iList, iTup, iRng1, iRng2, iStr, tThen, tNever, L2.start, tRaiseFile, tMkFile, tYes, tPart, tNoPart, addU_int, addU_str, addU_ref, subU_int, mulU_int, mulU_ref, fdvU_int, modU_int, powU_int, ltU_int, leU_int, gtU_int, geU_int, eqU_int, eqU_str, eqU_bl, neU_int, neU_str, neU_bl, WE, TruV, List.map, List.length_cons, List.length_nil, List.replicate, List.append, List.getElem?_cons_zero, List.getElem?_cons_succ, List.set_cons_zero, List.set_cons_succ, List.cons_append, List.nil_append, Option.some.injEq, V.int.injEq, V.str.injEq, V.bl.injEq, V.ref.injEq, List.cons.injEq, exists_eq_left, exists_eq_right, and_true, true_and, and_self, exists_eq, exists_const, Bool.not_true, Bool.not_false, Bool.false_eq_true, if_true, if_false, reduceIte, decide_eq_true_eq, bne_iff_ne, exists_eq_left', exists_eq', exists_and_left, Bool.not_eq_true', decide_eq_false_iff_not, Nat.reduceSub, Nat.reduceAdd, reduceCtorEq, false_and, or_false, false_or, exists_false]
      refine setL_at upd_same rfl (by rfl) ?_; try simp only [cx_K, gcx_K, lcx_K, LenV, rLenU, tTruU, kTup, tTupL, ex2eq, not_true_eq_false, not_false_eq_true, LamX.tLam, LamX.TTold, tSeq, tNext, tRet, tRetN, tIfS, tTest, tB, tNot, tAnd, tOr, tChain, tOp, tUn, tC, tVar, tCons, tNil, tTup, tLst, tAsg, gName, gTup, gCons, gNil, gSub, tDrop, tCallS, tCB, tM1, tM0, tBM, tBM0, tSl, tPar, tFor_eq, tLc_eq, intU_int, intU_bl, iList, iTup, iRng1, iRng2, iStr, tThen, tNever, L2.start, tRaiseFile, tMkFile, tYes, tPart, tNoPart, addU_int, addU_str, addU_ref, subU_int, mulU_int, mulU_ref, fdvU_int, modU_int, powU_int, ltU_int, leU_int, gtU_int, geU_int, eqU_int, eqU_str, eqU_bl, neU_int, neU_str, neU_bl, WE, TruV, List.map, List.length_cons, List.length_nil, List.replicate, List.append, List.getElem?_cons_zero, List.getElem?_cons_succ, List.set_cons_zero, List.set_cons_succ, List.cons_append, List.nil_append, Option.some.injEq, V.int.injEq, V.str.injEq, V.bl.injEq, V.ref.injEq, List.cons.injEq, exists_eq_left, exists_eq_right, and_true, true_and, and_self, exists_eq, exists_const, Bool.not_true, Bool.not_false, Bool.false_eq_true, if_true, if_false, reduceIte, decide_eq_true_eq, bne_iff_ne, exists_eq_left', exists_eq', exists_and_left, Bool.not_eq_true', decide_eq_false_iff_not, Nat.reduceSub, Nat.reduceAdd, reduceCtorEq, false_and, or_false, false_or, exists_false]
      refine rIx_lst (lst_at upd_same) (by rfl) ?_; try simp only [cx_K, gcx_K, lcx_K, LenV, rLenU, tTruU, kTup, tTupL, ex2eq, not_true_eq_false, not_false_eq_true, LamX.tLam, LamX.TTold, tSeq, tNext, tRet, tRetN, tIfS, tTest, tB, tNot, tAnd, tOr, tChain, tOp, tUn, tC, tVar, tCons, tNil, tTup, tLst, tAsg, gName, gTup, gCons, gNil, gSub, tDrop, tCallS, tCB, tM1, tM0, tBM, tBM0, tSl, tPar, tFor_eq, tLc_eq, intU_int, intU_bl, iList, iTup, iRng1, iRng2, iStr, tThen, tNever, L2.start, tRaiseFile, tMkFile, tYes, tPart, tNoPart, addU_int, addU_str, addU_ref, subU_int, mulU_int, mulU_ref, fdvU_int, modU_int, powU_int, ltU_int, leU_int, gtU_int, geU_int, eqU_int, eqU_str, eqU_bl, neU_int, neU_str, neU_bl, WE, TruV, List.map, List.length_cons, List.length_nil, List.replicate, List.append, List.getElem?_cons_zero, List.getElem?_cons_succ, List.set_cons_zero, List.set_cons_succ, List.cons_append, List.nil_append, Option.some.injEq, V.int.injEq, V.str.injEq, V.bl.injEq, V.ref.injEq, List.cons.injEq, exists_eq_left, exists_eq_right, and_true, true_and, and_self, exists_eq, exists_const, Bool.not_true, Bool.not_false, Bool.false_eq_true, if_true, if_false, reduceIte, decide_eq_true_eq, bne_iff_ne, exists_eq_left', exists_eq', exists_and_left, Bool.not_eq_true', decide_eq_false_iff_not, Nat.reduceSub, Nat.reduceAdd, reduceCtorEq, false_and, or_false, false_or, exists_false]
      exact ⟨⟨by decide, by decide⟩, h1, hfin _ _ _ _ _ (hm0 _) (hm1 _) (((hput ha).trans (hput upd_same)).trans (hput upd_same)) upd_same⟩
end
end KA
set_option Elab.async false
set_option linter.all false
set_option maxRecDepth 100000
set_option maxHeartbeats 2000000
namespace KA
open PySem PySem.Spec PyProof.Rows L2 GX
section
variable {P : Program} {w : World} {K : PySem.W.Frag} {mg : Str → Option Value} {base : Heap} {TL : List (Addr × Str)} {GT : List Addr} {C fI : Addr}
def num (c : Nat) : Int := Txt.find lits ⟨#[c]⟩
def nums (z : Str) : List Int := z.cps.toList.map num
def spNO (TL : List (Addr × Str)) (GT : List Addr) (C : Addr) : Sp := fun vs H Q E => ∃ z : Str, vs = [.str z] ∧ Tb TL GT H ∧ z.cps.size ≤ 1000 ∧ ((∃ c ∈ z.cps.toList, badL ⟨#[c]⟩) → Out TL GT C H E) ∧
  ((∀ c ∈ z.cps.toList, ¬ badL ⟨#[c]⟩) → ∀ q H', Ex [] TL GT H H' → H' q = some (.tup ((nums z).map V.int)) → Q (.ref q) H')
theorem c_numbers_of (T : KA.Txt P w K mg base TL GT C fI) : Cal P w K mg base 12 "numbers_of" (spNO TL GT C) := by
  have c_letter_number := c_letter_number T
  obtain ⟨f, fd, c, tP, D, tb, hP⟩ := T.d_numbers_of
  refine D.ok (N := ["text", "letter"]) (ps := ["text"]) ⟨rfl, rfl, rfl, by decide +kernel, rfl, by decide +kernel, by decide +kernel⟩ (fun vs H Q E h => by first | (obtain ⟨_, rfl, _⟩ := h; rfl) | (obtain ⟨_, _, rfl, _⟩ := h; rfl) | (obtain ⟨_, _, _, rfl, _⟩ := h; rfl) | (obtain ⟨_, _, _, _, rfl, _⟩ := h; rfl) | (obtain ⟨_, _, _, _, _, rfl, _⟩ := h; rfl) | (obtain ⟨rfl, _⟩ := h; rfl)) (fun _ _ _ _ _ _ us hl => match us, hl with | [_], _ => rfl) (fun A outer s H vs Q E hr h => ?_)
  have nd : (["text", "letter"] : List Str).Nodup := by decide
  refine mk_ex (pss_one (ps_ret (pe_tupG (k := 3) (own := [("letter", 1)]) (E := fun _ cls d H' => cls = .ref C ∧ E cls d H') (hr.mono (by decide)) rfl nd rfl T.n_tuple tb rfl (show GenOk ["text", "letter"] (defScope (top 7)) _ [("letter", 1)] from genOk_by (by decide +kernel)) (pif_str (pv 0)) (fun σ pins H s e s' I c => passes_call (takes_of rfl rfl rfl rfl) (fun _ _ _ _ h => h.2) pins σ H s e s' I c) (fun σ cls d H h => by rw [h.1]; exact T.nostop) (fun σ A s H L code bi pn => (pg_name (i := 1) nd rfl (Or.inl rfl))) (fun σ A s H L code bi pn hr1 => pts_nil) (fun σ A s H L code bi pn hr1 => (GX.pe_call c_letter_number (hr1.mono (by decide)) takes_g (by exact (pa_cons (pv 1) pa_nil))))))) ?_
  obtain ⟨z, rfl, ht, hz, hb, hg⟩ := h
  simp only [cx_K, gcx_K, lcx_K, LenV, rLenU, tTruU, kTup, tTupL, ex2eq, not_true_eq_false, not_false_eq_true, LamX.tLam, LamX.TTold, tSeq, tNext, tRet, tRetN, tIfS, tTest, tB, tNot, tAnd, tOr, tChain, tOp, tUn, tC, tVar, tCons, tNil, tTup, tLst, tAsg, gName, gTup, gCons, gNil, gSub, tDrop, tCallS, tCB, tM1, tM0, tBM, tBM0, tSl, tPar, tFor_eq, tLc_eq, intU_int, intU_bl, iList, iTup, iRng1, iRng2, iStr, tThen, tNever, L2.start, tRaiseFile, tMkFile, tYes, tPart, tNoPart, addU_int, addU_str, addU_ref, subU_int, mulU_int, mulU_ref, fdvU_int, modU_int, powU_int, ltU_int, leU_int, gtU_int, geU_int, eqU_int, eqU_str, eqU_bl, neU_int, neU_str, neU_bl, WE, TruV, List.map, List.length_cons, List.length_nil, List.replicate, List.append, List.getElem?_cons_zero, List.getElem?_cons_succ, List.set_cons_zero, List.set_cons_succ, List.cons_append, List.nil_append, Option.some.injEq, V.int.injEq, V.str.injEq, V.bl.injEq, V.ref.injEq, List.cons.injEq, exists_eq_left, exists_eq_right, and_true, true_and, and_self, exists_eq, exists_const, Bool.not_true, Bool.not_false, Bool.false_eq_true, if_true, if_false, reduceIte, decide_eq_true_eq, bne_iff_ne, exists_eq_left', exists_eq', exists_and_left, Bool.not_eq_true', decide_eq_false_iff_not, Nat.reduceSub, Nat.reduceAdd, reduceCtorEq, false_and, or_false, false_or, exists_false, tGenx]
  refine ⟨ht.tg tP hP, ?_⟩
  refine turns_str (fun i ys H' => Ex [] TL GT H H' ∧ ys = ((nums z).take i).map V.int ∧ ∀ c ∈ z.cps.toList.take i, ¬ badL ⟨#[c]⟩) ⟨Ex.refl, rfl, by simp⟩ ?_ ?_
  · rintro i c ys H' hc ⟨e, rfl, hk⟩
    have hc' : z.cps.toList[i]? = some c := by rw [Array.getElem?_toList]; exact hc
    have hm : c ∈ z.cps.toList := List.mem_of_getElem? hc'
    have hi : i < z.cps.size := by
      rcases Nat.lt_or_ge i z.cps.size with q | q
      · exact q
      · rw [Array.getElem?_eq_none q] at hc; cases hc
    simp only [cx_K, gcx_K, lcx_K, LenV, rLenU, tTruU, kTup, tTupL, ex2eq, not_true_eq_false, not_false_eq_true, LamX.tLam, LamX.TTold, tSeq, tNext, tRet, tRetN, tIfS, tTest, tB, tNot, tAnd, tOr, tChain, tOp, tUn, tC, tVar, tCons, tNil, tTup, tLst, tAsg, gName, gTup, gCons, gNil, gSub, tDrop, tCallS, tCB, tM1, tM0, tBM, tBM0, tSl, tPar, tFor_eq, tLc_eq, intU_int, intU_bl, iList, iTup, iRng1, iRng2, iStr, tThen, tNever, L2.start, tRaiseFile, tMkFile, tYes, tPart, tNoPart, addU_int, addU_str, addU_ref, subU_int, mulU_int, mulU_ref, fdvU_int, modU_int, powU_int, ltU_int, leU_int, gtU_int, geU_int, eqU_int, eqU_str, eqU_bl, neU_int, neU_str, neU_bl, WE, TruV, List.map, List.length_cons, List.length_nil, List.replicate, List.append, List.getElem?_cons_zero, List.getElem?_cons_succ, List.set_cons_zero, List.set_cons_succ, List.cons_append, List.nil_append, Option.some.injEq, V.int.injEq, V.str.injEq, V.bl.injEq, V.ref.injEq, List.cons.injEq, exists_eq_left, exists_eq_right, and_true, true_and, and_self, exists_eq, exists_const, Bool.not_true, Bool.not_false, Bool.false_eq_true, if_true, if_false, reduceIte, decide_eq_true_eq, bne_iff_ne, exists_eq_left', exists_eq', exists_and_left, Bool.not_eq_true', decide_eq_false_iff_not, Nat.reduceSub, Nat.reduceAdd, reduceCtorEq, false_and, or_false, false_or, exists_false, wipe]
    refine ⟨_, rfl, fun q d H1 e1 => ⟨rfl, hb ⟨c, hm, q⟩ d H1 (e.trans e1)⟩, fun q => ⟨?_, e, ?_, ?_⟩⟩
    · rw [List.length_map, List.length_take]
      exact Nat.lt_of_le_of_lt (Nat.min_le_left _ _) (by rw [sizeLine_eq]; omega)
    · have hn : (nums z)[i]? = some (num c) := by unfold nums; rw [List.getElem?_map, hc']; rfl
      rw [take_more hn, List.map_append]
      rfl
    · rw [take_more hc']
      intro c' hc2
      rcases List.mem_append.mp hc2 with w | w
      · exact hk c' w
      · obtain rfl : c' = c := by simpa using w
        exact q
  · rintro ys H' ⟨e, rfl, hk⟩
    have hz2 : (nums z).take z.cps.size = nums z := List.take_of_length_le (by unfold nums; simp)
    have hz3 : z.cps.toList.take z.cps.size = z.cps.toList := List.take_of_length_le (by simp)
    rw [hz3] at hk
    rw [hz2]
    exact fun p hp => hg hk p _ (e.trans (Ex.new hp)) upd_same
theorem sum_ones {α : Type} : ∀ l : List α, (l.map fun _ => 1).sum = l.length
  | [] => rfl
  | _ :: l => by rw [List.map_cons, List.sum_cons, sum_ones l, List.length_cons]; omega
def spTO (K : PySem.W.Frag) (TL : List (Addr × Str)) (GT : List Addr) : Sp := fun vs H Q E => ∃ (p : Addr) (ns : List Int), vs = [.ref p] ∧ SqT K H p (ns.map V.int) ∧ ns.length ≤ 1000 ∧ (∀ n ∈ ns, 0 ≤ n ∧ n < 95) ∧
  ∀ H', Ex [] TL GT H H' → Q (.str (Txt.join (Str.ofString "") (ns.map lat))) H'
theorem c_text_of (T : KA.Txt P w K mg base TL GT C fI) : Cal P w K mg base 5 "text_of" (spTO K TL GT) := by
  have c_letter_at := c_letter_at T
  obtain ⟨f, fd, c, D⟩ := T.d_text_of
  refine D.ok (N := ["numbers", "number"]) (ps := ["numbers"]) ⟨rfl, rfl, rfl, by decide +kernel, rfl, by decide +kernel, by decide +kernel⟩ (fun vs H Q E h => by first | (obtain ⟨_, rfl, _⟩ := h; rfl) | (obtain ⟨_, _, rfl, _⟩ := h; rfl) | (obtain ⟨_, _, _, rfl, _⟩ := h; rfl) | (obtain ⟨_, _, _, _, rfl, _⟩ := h; rfl) | (obtain ⟨_, _, _, _, _, rfl, _⟩ := h; rfl) | (obtain ⟨rfl, _⟩ := h; rfl)) (fun _ _ _ _ _ _ us hl => match us, hl with | [_], _ => rfl) (fun A outer s H vs Q E hr h => ?_)
  have nd : (["numbers", "number"] : List Str).Nodup := by decide
  refine mk_ex (pss_one (ps_ret (pe_m1 F.slot_str_join F.type_str_join mt_join pe_str (pe_lc rfl nd (pi_tup (pv 0)) (show BlkOk ["numbers", "number"] (defScope (top 8)) _ [("number", 1)] from blkOk_by (by decide +kernel)) (fun s H C cl fp => (pg_name (i := 1) nd rfl (Or.inl rfl))) (fun s H C cl fp => pts_nil) (fun s H C cl fp => (GX.pe_call c_letter_at (hr.mono (by decide)) takes0 (by exact (pa_cons (pv 1) pa_nil)))))))) ?_
  obtain ⟨p, ns, rfl, hs, hl, hn, h⟩ := h
  simp only [cx_K, gcx_K, lcx_K, LenV, rLenU, tTruU, kTup, tTupL, ex2eq, not_true_eq_false, not_false_eq_true, LamX.tLam, LamX.TTold, tSeq, tNext, tRet, tRetN, tIfS, tTest, tB, tNot, tAnd, tOr, tChain, tOp, tUn, tC, tVar, tCons, tNil, tTup, tLst, tAsg, gName, gTup, gCons, gNil, gSub, tDrop, tCallS, tCB, tM1, tM0, tBM, tBM0, tSl, tPar, tFor_eq, tLc_eq, intU_int, intU_bl, iList, iTup, iRng1, iRng2, iStr, tThen, tNever, L2.start, tRaiseFile, tMkFile, tYes, tPart, tNoPart, addU_int, addU_str, addU_ref, subU_int, mulU_int, mulU_ref, fdvU_int, modU_int, powU_int, ltU_int, leU_int, gtU_int, geU_int, eqU_int, eqU_str, eqU_bl, neU_int, neU_str, neU_bl, WE, TruV, List.map, List.length_cons, List.length_nil, List.replicate, List.append, List.getElem?_cons_zero, List.getElem?_cons_succ, List.set_cons_zero, List.set_cons_succ, List.cons_append, List.nil_append, Option.some.injEq, V.int.injEq, V.str.injEq, V.bl.injEq, V.ref.injEq, List.cons.injEq, exists_eq_left, exists_eq_right, and_true, true_and, and_self, exists_eq, exists_const, Bool.not_true, Bool.not_false, Bool.false_eq_true, if_true, if_false, reduceIte, decide_eq_true_eq, bne_iff_ne, exists_eq_left', exists_eq', exists_and_left, Bool.not_eq_true', decide_eq_false_iff_not, Nat.reduceSub, Nat.reduceAdd, reduceCtorEq, false_and, or_false, false_or, exists_false]
  refine ⟨⟨_, hs⟩, fun D hD => ?_⟩
  refine lcl_tup (xs := ns.map V.int) (fun i H' => Ex [] TL GT H H' ∧ H' D = some (.lst ((ns.take i).map fun n => V.str (lat n)))) ⟨Ex.new hD, upd_same⟩ (fun i H' _ e => e.1.sqt (by simp) hs) ?_ ?_
  · rintro i x H' hx ⟨e, hl'⟩
    obtain ⟨n, hn', rfl⟩ := map_at hx
    simp only [cx_K, gcx_K, lcx_K, LenV, rLenU, tTruU, kTup, tTupL, ex2eq, not_true_eq_false, not_false_eq_true, LamX.tLam, LamX.TTold, tSeq, tNext, tRet, tRetN, tIfS, tTest, tB, tNot, tAnd, tOr, tChain, tOp, tUn, tC, tVar, tCons, tNil, tTup, tLst, tAsg, gName, gTup, gCons, gNil, gSub, tDrop, tCallS, tCB, tM1, tM0, tBM, tBM0, tSl, tPar, tFor_eq, tLc_eq, intU_int, intU_bl, iList, iTup, iRng1, iRng2, iStr, tThen, tNever, L2.start, tRaiseFile, tMkFile, tYes, tPart, tNoPart, addU_int, addU_str, addU_ref, subU_int, mulU_int, mulU_ref, fdvU_int, modU_int, powU_int, ltU_int, leU_int, gtU_int, geU_int, eqU_int, eqU_str, eqU_bl, neU_int, neU_str, neU_bl, WE, TruV, List.map, List.length_cons, List.length_nil, List.replicate, List.append, List.getElem?_cons_zero, List.getElem?_cons_succ, List.set_cons_zero, List.set_cons_succ, List.cons_append, List.nil_append, Option.some.injEq, V.int.injEq, V.str.injEq, V.bl.injEq, V.ref.injEq, List.cons.injEq, exists_eq_left, exists_eq_right, and_true, true_and, and_self, exists_eq, exists_const, Bool.not_true, Bool.not_false, Bool.false_eq_true, if_true, if_false, reduceIte, decide_eq_true_eq, bne_iff_ne, exists_eq_left', exists_eq', exists_and_left, Bool.not_eq_true', decide_eq_false_iff_not, Nat.reduceSub, Nat.reduceAdd, reduceCtorEq, false_and, or_false, false_or, exists_false, wipe]
    have hr := hn n (List.mem_of_getElem? hn')
    refine ⟨n, rfl, fun q => absurd hr q, fun _ => ⟨_, hl', ?_, e.overL hD hl', ?_⟩⟩
    · have : (ns.take i).length ≤ 1000 := Nat.le_trans (by rw [List.length_take]; omega) hl
      rw [List.length_map]
      exact Nat.lt_of_le_of_lt this (by rw [sizeLine_eq]; decide)
    · rw [upd_same, take_more hn', List.map_append]
      rfl
  · rintro H' ⟨e, hl'⟩
    have z : ns.take (ns.map V.int).length = ns := by rw [List.length_map]; exact List.take_length
    rw [z] at hl'
    refine ⟨ns.map lat, .inl (lst_at (by rw [hl', List.map_map]; rfl)), ?_, h H' e⟩
    have e1 : ((ns.map lat).map fun x => x.length).sum = ns.length := by
      rw [List.map_map]
      exact sum_ones ns
    rw [e1]
    show ns.length + (ns.map lat).length * 0 ≤ _
    omega
def spCT (TL : List (Addr × Str)) (GT : List Addr) (C : Addr) : Sp := fun vs H Q E => ∃ z : Str, vs = [.str z] ∧ Tb TL GT H ∧ z.cps.size ≤ 1000 ∧ ((∃ c ∈ z.cps.toList, badL ⟨#[c]⟩) → Out TL GT C H E) ∧
  ((∀ c ∈ z.cps.toList, ¬ badL ⟨#[c]⟩) → ∀ H', Ex [] TL GT H H' → Q (.str z) H')
theorem c_check_text (T : KA.Txt P w K mg base TL GT C fI) : Cal P w K mg base 14 "check_text" (spCT TL GT C) := by
  have c_numbers_of := c_numbers_of T
  obtain ⟨f, fd, c, D⟩ := T.d_check_text
  refine D.ok (N := ["text"]) (ps := ["text"]) ⟨rfl, rfl, rfl, by decide +kernel, rfl, by decide +kernel, by decide +kernel⟩ (fun vs H Q E h => by first | (obtain ⟨_, rfl, _⟩ := h; rfl) | (obtain ⟨_, _, rfl, _⟩ := h; rfl) | (obtain ⟨_, _, _, rfl, _⟩ := h; rfl) | (obtain ⟨_, _, _, _, rfl, _⟩ := h; rfl) | (obtain ⟨_, _, _, _, _, rfl, _⟩ := h; rfl) | (obtain ⟨rfl, _⟩ := h; rfl)) (fun _ _ _ _ _ _ us hl => match us, hl with | [_], _ => rfl) (fun A outer s H vs Q E hr h => ?_)
  have nd : (["text"] : List Str).Nodup := by decide
  refine mk_ex (pss_cons (ps_expr (GX.pe_call c_numbers_of (hr.mono (by decide)) (takes_of rfl rfl rfl rfl) (by exact (pa_cons (pv 0) pa_nil))))
    (pss_one (ps_ret (pv 0)))) ?_
  obtain ⟨z, rfl, ht, hz, hb, hg⟩ := h
  simp only [cx_K, gcx_K, lcx_K, LenV, rLenU, tTruU, kTup, tTupL, ex2eq, not_true_eq_false, not_false_eq_true, LamX.tLam, LamX.TTold, tSeq, tNext, tRet, tRetN, tIfS, tTest, tB, tNot, tAnd, tOr, tChain, tOp, tUn, tC, tVar, tCons, tNil, tTup, tLst, tAsg, gName, gTup, gCons, gNil, gSub, tDrop, tCallS, tCB, tM1, tM0, tBM, tBM0, tSl, tPar, tFor_eq, tLc_eq, intU_int, intU_bl, iList, iTup, iRng1, iRng2, iStr, tThen, tNever, L2.start, tRaiseFile, tMkFile, tYes, tPart, tNoPart, addU_int, addU_str, addU_ref, subU_int, mulU_int, mulU_ref, fdvU_int, modU_int, powU_int, ltU_int, leU_int, gtU_int, geU_int, eqU_int, eqU_str, eqU_bl, neU_int, neU_str, neU_bl, WE, TruV, List.map, List.length_cons, List.length_nil, List.replicate, List.append, List.getElem?_cons_zero, List.getElem?_cons_succ, List.set_cons_zero, List.set_cons_succ, List.cons_append, List.nil_append, Option.some.injEq, V.int.injEq, V.str.injEq, V.bl.injEq, V.ref.injEq, List.cons.injEq, exists_eq_left, exists_eq_right, and_true, true_and, and_self, exists_eq, exists_const, Bool.not_true, Bool.not_false, Bool.false_eq_true, if_true, if_false, reduceIte, decide_eq_true_eq, bne_iff_ne, exists_eq_left', exists_eq', exists_and_left, Bool.not_eq_true', decide_eq_false_iff_not, Nat.reduceSub, Nat.reduceAdd, reduceCtorEq, false_and, or_false, false_or, exists_false]
  exact ⟨z, rfl, ht, hz, hb, fun k q H' e _ => hg k H' e⟩
def spLet : Sp := fun vs H Q E => vs = [] ∧ Q (.str lits) H
theorem c_law_letters (T : KA.Txt P w K mg base TL GT C fI) : Cal P w K mg base 3 "_law_letters" spLet := by
  obtain ⟨f, fd, c, D⟩ := T.d_law_letters
  refine D.ok (N := []) (ps := []) ⟨rfl, rfl, rfl, by decide +kernel, rfl, by decide +kernel, by decide +kernel⟩ (fun vs H Q E h => by first | (obtain ⟨_, rfl, _⟩ := h; rfl) | (obtain ⟨_, _, rfl, _⟩ := h; rfl) | (obtain ⟨_, _, _, rfl, _⟩ := h; rfl) | (obtain ⟨_, _, _, _, rfl, _⟩ := h; rfl) | (obtain ⟨_, _, _, _, _, rfl, _⟩ := h; rfl) | (obtain ⟨rfl, _⟩ := h; rfl)) (fun _ _ _ _ _ _ us hl => match us, hl with | [], _ => rfl) (fun A outer s H vs Q E hr h => ?_)
  have nd : ([] : List Str).Nodup := by decide
  refine mk_ex (pss_one (ps_ret pe_str)) ?_
  obtain ⟨rfl, h⟩ := h
  simp only [cx_K, gcx_K, lcx_K, LenV, rLenU, tTruU, kTup, tTupL, ex2eq, not_true_eq_false, not_false_eq_true, LamX.tLam, LamX.TTold, tSeq, tNext, tRet, tRetN, tIfS, tTest, tB, tNot, tAnd, tOr, tChain, tOp, tUn, tC, tVar, tCons, tNil, tTup, tLst, tAsg, gName, gTup, gCons, gNil, gSub, tDrop, tCallS, tCB, tM1, tM0, tBM, tBM0, tSl, tPar, tFor_eq, tLc_eq, intU_int, intU_bl, iList, iTup, iRng1, iRng2, iStr, tThen, tNever, L2.start, tRaiseFile, tMkFile, tYes, tPart, tNoPart, addU_int, addU_str, addU_ref, subU_int, mulU_int, mulU_ref, fdvU_int, modU_int, powU_int, ltU_int, leU_int, gtU_int, geU_int, eqU_int, eqU_str, eqU_bl, neU_int, neU_str, neU_bl, WE, TruV, List.map, List.length_cons, List.length_nil, List.replicate, List.append, List.getElem?_cons_zero, List.getElem?_cons_succ, List.set_cons_zero, List.set_cons_succ, List.cons_append, List.nil_append, Option.some.injEq, V.int.injEq, V.str.injEq, V.bl.injEq, V.ref.injEq, List.cons.injEq, exists_eq_left, exists_eq_right, and_true, true_and, and_self, exists_eq, exists_const, Bool.not_true, Bool.not_false, Bool.false_eq_true, if_true, if_false, reduceIte, decide_eq_true_eq, bne_iff_ne, exists_eq_left', exists_eq', exists_and_left, Bool.not_eq_true', decide_eq_false_iff_not, Nat.reduceSub, Nat.reduceAdd, reduceCtorEq, false_and, or_false, false_or, exists_false]
  exact h
def spRounds (K : PySem.W.Frag) (TL : List (Addr × Str)) (GT : List Addr) : Sp := fun vs H Q E => ∃ (p : Addr) (ns : List Int), vs = [.ref p, .int 1] ∧ SqL K H p (ns.map V.int) ∧
  ∀ q r x y z H', Ex [] TL GT H H' → H' q = some (.lst [.ref r]) → H' r = some (.lst [.int x, .int y, .int z]) → Q (.ref q) H'
theorem c_law_rounds (T : KA.Txt P w K mg base TL GT C fI) : Cal P w K mg base 5 "_law_rounds" (spRounds K TL GT) := by
  have c_law_dice := c_law_dice T
  obtain ⟨f, fd, c, D⟩ := T.d_law_rounds
  refine D.ok (N := ["script", "most", "cells", "cell"]) (ps := ["script", "most"]) ⟨rfl, rfl, rfl, by decide +kernel, rfl, by decide +kernel, by decide +kernel⟩ (fun vs H Q E h => by first | (obtain ⟨_, rfl, _⟩ := h; rfl) | (obtain ⟨_, _, rfl, _⟩ := h; rfl) | (obtain ⟨_, _, _, rfl, _⟩ := h; rfl) | (obtain ⟨_, _, _, _, rfl, _⟩ := h; rfl) | (obtain ⟨_, _, _, _, _, rfl, _⟩ := h; rfl) | (obtain ⟨rfl, _⟩ := h; rfl)) (fun _ _ _ _ _ _ us hl => match us, hl with | [_, _], _ => rfl) (fun A outer s H vs Q E hr h => ?_)
  have nd : (["script", "most", "cells", "cell"] : List Str).Nodup := by decide
  refine mk_ex (pss_cons (ps_set (i := 2) nd rfl (Or.inl rfl) (pe_slice (slK (K := K) (r := rSlL) sl_list rfl) (pv 0) po_none (po_some (pv 1))))
    (pss_cons (ps_if (pt_cmpR (opK (K := K) (r := rEqU) (opU_eq (roomEq hr)) rfl) (pv 2) (pe_lst pa_nil) (nomark _)) (pss_one (ps_set (i := 2) nd rfl (Or.inl rfl) (pe_lst (pa_cons pe_int pa_nil)))) pss_nil)
    (pss_one (ps_ret (pe_lc rfl nd (pi_list (pv 2)) (show BlkOk ["script", "most", "cells", "cell"] (defScope (top 16)) _ [("cell", 3)] from blkOk_by (by decide +kernel)) (fun s H C cl fp => (pg_name (i := 3) nd rfl (Or.inl rfl))) (fun s H C cl fp => pts_nil) (fun s H C cl fp => (GX.pe_call c_law_dice (hr.mono (by decide)) takes0 (by exact (pa_cons (pv 3) pa_nil))))))))) ?_
  obtain ⟨p, ns, rfl, hs, h⟩ := h
  simp only [cx_K, gcx_K, lcx_K, LenV, rLenU, tTruU, kTup, tTupL, ex2eq, not_true_eq_false, not_false_eq_true, LamX.tLam, LamX.TTold, tSeq, tNext, tRet, tRetN, tIfS, tTest, tB, tNot, tAnd, tOr, tChain, tOp, tUn, tC, tVar, tCons, tNil, tTup, tLst, tAsg, gName, gTup, gCons, gNil, gSub, tDrop, tCallS, tCB, tM1, tM0, tBM, tBM0, tSl, tPar, tFor_eq, tLc_eq, intU_int, intU_bl, iList, iTup, iRng1, iRng2, iStr, tThen, tNever, L2.start, tRaiseFile, tMkFile, tYes, tPart, tNoPart, addU_int, addU_str, addU_ref, subU_int, mulU_int, mulU_ref, fdvU_int, modU_int, powU_int, ltU_int, leU_int, gtU_int, geU_int, eqU_int, eqU_str, eqU_bl, neU_int, neU_str, neU_bl, WE, TruV, List.map, List.length_cons, List.length_nil, List.replicate, List.append, List.getElem?_cons_zero, List.getElem?_cons_succ, List.set_cons_zero, List.set_cons_succ, List.cons_append, List.nil_append, Option.some.injEq, V.int.injEq, V.str.injEq, V.bl.injEq, V.ref.injEq, List.cons.injEq, exists_eq_left, exists_eq_right, and_true, true_and, and_self, exists_eq, exists_const, Bool.not_true, Bool.not_false, Bool.false_eq_true, if_true, if_false, reduceIte, decide_eq_true_eq, bne_iff_ne, exists_eq_left', exists_eq', exists_and_left, Bool.not_eq_true', decide_eq_false_iff_not, Nat.reduceSub, Nat.reduceAdd, reduceCtorEq, false_and, or_false, false_or, exists_false]
  have hL : ∀ (H0 : Hp) (a D : Addr) (n : Int) (σ : L2.St), Ex [] TL GT H H0 → SqL K H0 a [V.int n] → H0 D = none → (∃ v0 v1 v2 v3, σ = [v0, v1, v2, v3]) →
      LcLoop (gName 3) tYes (tCallS (spDice TL GT) (WE fun _ _ _ _ => False) (tCons (tVar 3) tNil)) [3] (Itl K a) σ H0 D (Q (.ref D)) := by
    rintro H0 a D n σ e0 ha hD ⟨v0, v1, v2, v3, rfl⟩
    refine lcl_list (xs := [V.int n]) (fun i H' => Ex [] TL GT H0 H' ∧ (i = 0 → H' D = some (.lst [])) ∧ (i = 1 → ∃ r x y z, H' D = some (.lst [.ref r]) ∧ H' r = some (.lst [.int x, .int y, .int z]))) ⟨Ex.new hD, fun _ => upd_same, by simp⟩ (fun i H' _ e => e.1.sql (by simp) ha) ?_ ?_
    · rintro i x H' hx ⟨e, k0, k1⟩
      match i, hx with
      | 0, hx =>
        obtain rfl : V.int n = x := Option.some.inj hx
        simp only [cx_K, gcx_K, lcx_K, LenV, rLenU, tTruU, kTup, tTupL, ex2eq, not_true_eq_false, not_false_eq_true, LamX.tLam, LamX.TTold, tSeq, tNext, tRet, tRetN, tIfS, tTest, tB, tNot, tAnd, tOr, tChain, tOp, tUn, tC, tVar, tCons, tNil, tTup, tLst, tAsg, gName, gTup, gCons, gNil, gSub, tDrop, tCallS, tCB, tM1, tM0, tBM, tBM0, tSl, tPar, tFor_eq, tLc_eq, intU_int, intU_bl, iList, iTup, iRng1, iRng2, iStr, tThen, tNever, L2.start, tRaiseFile, tMkFile, tYes, tPart, tNoPart, addU_int, addU_str, addU_ref, subU_int, mulU_int, mulU_ref, fdvU_int, modU_int, powU_int, ltU_int, leU_int, gtU_int, geU_int, eqU_int, eqU_str, eqU_bl, neU_int, neU_str, neU_bl, WE, TruV, List.map, List.length_cons, List.length_nil, List.replicate, List.append, List.getElem?_cons_zero, List.getElem?_cons_succ, List.set_cons_zero, List.set_cons_succ, List.cons_append, List.nil_append, Option.some.injEq, V.int.injEq, V.str.injEq, V.bl.injEq, V.ref.injEq, List.cons.injEq, exists_eq_left, exists_eq_right, and_true, true_and, and_self, exists_eq, exists_const, Bool.not_true, Bool.not_false, Bool.false_eq_true, if_true, if_false, reduceIte, decide_eq_true_eq, bne_iff_ne, exists_eq_left', exists_eq', exists_and_left, Bool.not_eq_true', decide_eq_false_iff_not, Nat.reduceSub, Nat.reduceAdd, reduceCtorEq, false_and, or_false, false_or, exists_false, wipe]
        refine ⟨n, rfl, fun q x y z H2 e2 h2 => ⟨_, e2.lst (by simp) (k0 rfl), by rw [sizeLine_eq]; decide, (e.trans e2).overL hD (e2.lst (by simp) (k0 rfl)), by simp, fun _ => ⟨q, upd_same, x, y, z, ?_⟩⟩⟩
        have nd : q ≠ D := fun z => by
          have w := e2.lst (by simp) (k0 rfl)
          rw [← z, h2] at w
          cases w
        rw [upd_ne nd]
        exact h2
    · rintro H' ⟨e, k0, k1⟩
      obtain ⟨r, x, y, z, h1, h2⟩ := k1 rfl
      exact h D r x y z H' (e0.trans e) h1 h2
  match ns, hs with
  | [], hs =>
    refine ⟨p, [], rfl, hs, fun q hq => ?_⟩
    have eq1 : Ex [] TL GT H (upd H q (.lst [])) := Ex.new hq
    refine ⟨sz 0, fun q2 hq2 => ?_⟩
    rw [eqU_ref]
    refine ⟨.list [], .list [], .lst ((Ex.new (A := []) (TL := TL) (GT := GT) hq2).sql (by simp) (lst_at upd_same)) .nil, .lst (lst_at upd_same) .nil, rfl, rfl, true, rfl, ?_⟩
    refine ⟨sz 1, fun q3 hq3 => ⟨⟨_, lst_at upd_same⟩, fun D hD => hL _ _ _ 0 _ ((eq1.trans (Ex.new hq2)).trans (Ex.new hq3)) (lst_at upd_same) hD ⟨_, _, _, _, rfl⟩⟩⟩
  | n :: ns, hs =>
    refine ⟨p, _, rfl, hs, fun q hq => ?_⟩
    have ec : cutV (List.map V.int (n :: ns)) none (some 1) = [V.int n] := by
      have e0 : (List.map V.int (n :: ns)).length = ns.length + 1 := by simp
      unfold cutV
      rw [e0]
      show List.take (min (1 : Int).toNat (ns.length + 1) - 0) (List.drop 0 (V.int n :: ns.map V.int)) = _
      rw [show min (1 : Int).toNat (ns.length + 1) - 0 = 1 by show min 1 (ns.length + 1) - 0 = 1; omega]
      rfl
    rw [ec]
    have eq1 : Ex [] TL GT H (upd H q (.lst [V.int n])) := Ex.new hq
    refine ⟨sz 0, fun q2 hq2 => ?_⟩
    have hq' := (Ex.new (A := []) (TL := TL) (GT := GT) (o := .lst []) hq2).sql (K := K) (p := q) (by simp) (lst_at upd_same)
    rw [eqU_ref]
    refine ⟨.list [.int n], .list [], .lst hq' (.cons (.int n) .nil), .lst (lst_at upd_same) .nil, rfl, rfl, false, rfl, ?_⟩
    refine ⟨q, rfl, ⟨_, hq'⟩, fun D hD => hL _ _ _ n _ (eq1.trans (Ex.new hq2)) hq' hD ⟨_, _, _, _, rfl⟩⟩
end
end KA
set_option Elab.async false
set_option linter.all false
set_option maxRecDepth 100000
set_option maxHeartbeats 2000000
namespace KA
open PySem PySem.Spec PyProof.Rows L2 GX
theorem canLay_ints : ∀ ns : List Int, PyData.canLayAll0 (ns.map PyData.int) = true
  | [] => rfl
  | _ :: ns => by
    show (PyData.canLay0 (.int _) && PyData.canLayAll0 (ns.map PyData.int)) = true
    rw [canLay_ints ns]; rfl
theorem depth_ints : ∀ ns : List Int, PyData.depthAll (ns.map PyData.int) = 0
  | [] => rfl
  | _ :: ns => by
    show max 0 (PyData.depthAll (ns.map PyData.int)) = 0
    rw [depth_ints ns]; rfl
theorem shaped_tupI (ns : List Int) : SeqAt.shaped (.tuple (ns.map PyData.int)) = true := by
  unfold SeqAt.shaped
  rw [show PyData.canLay0 (.tuple (ns.map PyData.int)) = true from canLay_ints ns, show PyData.depth (.tuple (ns.map PyData.int)) = 0 + 1 by show PyData.depthAll _ + 1 = _; rw [depth_ints]]
  rfl
theorem eqv_tupI (ns : List Int) : PyData.eqv (.tuple (ns.map PyData.int)) (.tuple (ns.map PyData.int)) = true := SeqAt.eqv_refl _ (canLay_ints ns)
section
variable {K : PySem.W.Frag} {TL : List (Addr × Str)} {GT : List Addr} {H H' : Hp} {r p q : Addr} {Q : VK} {E : XK}
theorem dp_ints : ∀ ns : List Int, DpAll K H (ns.map V.int) (ns.map PyData.int)
  | [] => .nil
  | n :: ns => .cons (.int n) (dp_ints ns)
theorem ne_tupI {ns : List Int} (hp : SqT K H p (ns.map V.int)) (hq : SqT K H q (ns.map V.int)) (h : Q (.bl false) H) : rNeU K (.ref p) (.ref q) H Q := by
  refine ⟨.tuple (ns.map .int), .tuple (ns.map .int), .tup hp (dp_ints ns), .tup hq (dp_ints ns), shaped_tupI ns, shaped_tupI ns, ?_⟩
  rw [eqv_tupI]
  exact h
theorem ne_strS {a : Str} (h : Q (.bl false) H) : rNeU K (.str a) (.str a) H Q := by
  rw [neU_str]
  simpa using h
theorem ne_intS {a : Int} (h : Q (.bl false) H) : rNeU K (.int a) (.int a) H Q := by
  rw [neU_int]
  simpa using h
structure SD (TL : List (Addr × Str)) (GT : List Addr) (r q : Addr) (H : Hp) : Prop where
  tb : Tb TL GT H
  di : ∃ x y z, H r = some (.lst [.int x, .int y, .int z])
  li : H q = some (.lst [.ref r])
theorem SD.qr (s : SD TL GT r q H) : q ≠ r := by
  obtain ⟨t, ⟨x, y, z, h⟩, l⟩ := s
  intro e
  rw [e, h] at l
  cases l
theorem SD.ex (s : SD TL GT r q H) (e : Ex [] TL GT H H') : SD TL GT r q H' := by
  obtain ⟨t, ⟨x, y, z, h⟩, l⟩ := s
  exact ⟨e.tb t, ⟨x, y, z, e.lst (by simp) h⟩, e.lst (by simp) l⟩
theorem SD.put {D : Addr} {l l' : List V} (s : SD TL GT r q H) (hd : D ≠ r ∧ D ≠ q) (e : H D = some (.lst l)) : SD TL GT r q (upd H D (.lst l')) := by
  obtain ⟨t, ⟨x, y, z, h⟩, li⟩ := s
  exact ⟨(Ex.put (A := [D]) (by simp) e (fun _ q => by cases q) (fun _ q => by cases q)).tb t, ⟨x, y, z, by rw [upd_ne (Ne.symm hd.1)]; exact h⟩, by rw [upd_ne (Ne.symm hd.2)]; exact li⟩
theorem SD.ne {D : Addr} (s : SD TL GT r q H) (hd : H D = none) : D ≠ r ∧ D ≠ q := by
  obtain ⟨t, ⟨x, y, z, h⟩, li⟩ := s
  exact ⟨(fun e => by rw [e, h] at hd; cases hd), (fun e => by rw [e, li] at hd; cases hd)⟩
theorem SD.lam (s : SD TL GT r q H) (x : LamX.ExtN H H') (t : LamX.Tabs TL H') : SD TL GT r q H' := s.ex (ExtN.ex x t)
theorem roll_ok {m : Int} {R : VK} (s : SD TL GT r q H) (h1 : 0 < m) (h2 : m ≤ 100000000) (k : ∀ n H', 0 ≤ n → n < m → Ex [r] TL GT H H' → SD TL GT r q H' → R (.int n) H') : spRoll TL GT [.ref r, .int m] H R E := by
  have qr := s.qr
  obtain ⟨t, ⟨x, y, z, h⟩, li⟩ := s
  exact ⟨r, x, y, z, m, rfl, h, h1, h2, fun n x' y' z' H' a b e hh => k n H' a b e ⟨e.tb t, ⟨x', y', z', hh⟩, e.lst (by simpa using qr) li⟩⟩
end
theorem wstep_bound (s : Int × Int) (n : Int) : (0 ≤ (wstep s n).1 ∧ (wstep s n).1 < 65521) ∧ (0 ≤ (wstep s n).2 ∧ (wstep s n).2 < 65521) := by
  unfold wstep
  omega
theorem wsum_bound (ns : List Int) : (0 ≤ (wsum ns).1 ∧ (wsum ns).1 < 65521) ∧ (0 ≤ (wsum ns).2 ∧ (wsum ns).2 < 65521) := by
  unfold wsum
  have : ∀ (l : List Int) (s : Int × Int), ((0 ≤ s.1 ∧ s.1 < 65521) ∧ (0 ≤ s.2 ∧ s.2 < 65521)) → ((0 ≤ (l.foldl wstep s).1 ∧ (l.foldl wstep s).1 < 65521) ∧ (0 ≤ (l.foldl wstep s).2 ∧ (l.foldl wstep s).2 < 65521)) := by
    intro l
    induction l with
    | nil => intro s h; exact h
    | cons a l ih => intro s _; exact ih _ (wstep_bound s a)
  exact this ns (1, 0) (by decide)
/-! ### letters -/
theorem lat_ok : ∀ k : Fin 95, Txt.find lits (lat (k.val : Nat)) = (k.val : Nat) ∧ Builtin.Str.occurrences lits (lat (k.val : Nat)) 0 lits.length 1 = [k.val] := by decide +kernel
theorem lat_find {n : Int} (h : 0 ≤ n ∧ n < 95) : Txt.find lits (lat n) = n := by
  have q := (lat_ok ⟨n.toNat, by omega⟩).1
  have e : ((n.toNat : Nat) : Int) = n := by omega
  simp only [e] at q
  exact q
theorem lat_occ {n : Int} (h : 0 ≤ n ∧ n < 95) : Builtin.Str.occurrences lits (lat n) 0 lits.length 1 = [n.toNat] := by
  have q := (lat_ok ⟨n.toNat, by omega⟩).2
  have e : ((n.toNat : Nat) : Int) = n := by omega
  simp only [e] at q
  exact q
theorem lat_good {n : Int} (h : 0 ≤ n ∧ n < 95) : ¬ badL (lat n) := by
  rintro (q | q)
  · rw [lat_find h] at q; omega
  · cases q
theorem tab_bad : badL ⟨#[9]⟩ := .inl (by decide +kernel)
theorem empty_bad : badL (Str.ofString "") := .inr rfl
def latc (n : Int) : Nat := lits.cps.getD n.toNat 0
def textOf (ks : List Int) : Str := Txt.join (Str.ofString "") (ks.map lat)
theorem glued_join (y : Str) (parts : List Str) : Txt.join y parts = Str.join y parts := StrLaws.glued_eq_join y parts
theorem text_cps : ∀ ks : List Int, (textOf ks).cps.toList = ks.map latc
  | [] => rfl
  | [k] => rfl
  | k :: k2 :: ks => by
    have ih := text_cps (k2 :: ks)
    have e : textOf (k :: k2 :: ks) = lat k ++ Str.ofString "" ++ textOf (k2 :: ks) := by
      unfold textOf
      rw [glued_join, glued_join]
      rfl
    rw [e]
    show ((lat k).cps ++ (Str.ofString "").cps ++ (textOf (k2 :: ks)).cps).toList = _
    rw [Array.toList_append, Array.toList_append, ih]
    rfl
theorem text_size (ks : List Int) : (textOf ks).cps.size = ks.length := by
  have e := congrArg List.length (text_cps ks)
  simpa using e
theorem nums_text {ks : List Int} (h : ∀ k ∈ ks, 0 ≤ k ∧ k < 95) : nums (textOf ks) = ks := by
  unfold nums
  rw [text_cps, List.map_map]
  have : ∀ l : List Int, (∀ k ∈ l, 0 ≤ k ∧ k < 95) → l.map (num ∘ latc) = l := by
    intro l hl
    induction l with
    | nil => rfl
    | cons a l ih =>
      rw [List.map_cons, ih (fun k hk => hl k (List.mem_cons_of_mem _ hk))]
      have q := lat_find (hl a (List.mem_cons_self ..))
      have e : (num ∘ latc) a = Txt.find lits (lat a) := rfl
      rw [e, q]
  exact this ks h
theorem text_good {ks : List Int} (h : ∀ k ∈ ks, 0 ≤ k ∧ k < 95) : ∀ c ∈ (textOf ks).cps.toList, ¬ badL ⟨#[c]⟩ := by
  rw [text_cps]
  intro c hc
  obtain ⟨k, hk, rfl⟩ := List.mem_map.mp hc
  exact lat_good (h k hk)
theorem text_tab (ks : List Int) : ∃ c ∈ (textOf ks ++ Str.ofString "\t").cps.toList, badL ⟨#[c]⟩ := by
  refine ⟨9, ?_, tab_bad⟩
  show 9 ∈ ((textOf ks).cps ++ (Str.ofString "\t").cps).toList
  rw [Array.toList_append]
  exact List.mem_append_right _ (by decide)
theorem textTab_size (ks : List Int) : (textOf ks ++ Str.ofString "\t").cps.size = ks.length + 1 := by
  show ((textOf ks).cps ++ (Str.ofString "\t").cps).size = _
  rw [Array.size_append, text_size]
  rfl
end KA
set_option Elab.async false
set_option linter.all false
set_option maxRecDepth 100000
set_option maxHeartbeats 2000000
namespace KA
open PySem PySem.Spec PyProof.Rows L2 GX
section
variable {P : Program} {w : World} {K : PySem.W.Frag} {mg : Str → Option Value} {base : Heap} {GT : List Addr} {C fI PL : Addr}
def lamq : Str := (("law" : Str) ++ ".<locals>.") ++ "<lambda>"
abbrev TLaw (PL : Addr) : List (Addr × Str) := [(PL, lamq)]
def spLaw (K : PySem.W.Frag) (TL : List (Addr × Str)) (GT : List Addr) : Sp := fun vs H Q E => ∃ (p : Addr) (ns : List Int), vs = [.ref p] ∧ SqL K H p (ns.map V.int) ∧ Tb TL GT H ∧ ∀ H', (∀ P ∈ GT, H' P = some (TblE P)) → Q (.bl true) H'
theorem c_law (T : KA.Txt P w K mg base (TLaw PL) GT C fI) (told : Told K mg "_law_told" "what" "FileError" "FileError" C) {f c : Addr} {fd : FuncData} (D : Def K mg "law" (top 20) f fd c) (tbL : LamX.TabB base mg c PL) :
    FnOk P w K mg base (L2.CX P w) 21 f fd ["script"] (spLaw K (TLaw PL) GT) ∧ (∀ us : List Value, us.length = 1 → bindArgs fd ⟨us, []⟩ = pure ((["script"] : List Str).zip us)) := by
  have c_law_rounds := c_law_rounds T
  have c_law_roll := c_law_roll T
  have c_law_sum := c_law_sum T
  have c_law_letters := c_law_letters T
  have c_numbers_of := c_numbers_of T
  have c_text_of := c_text_of T
  have c_check_text := c_check_text T
  have c_pair := c_pair T
  have c_number_of_pair := c_number_of_pair T
  have c_letter_at := c_letter_at T
  have c_letter_number := c_letter_number T
  have c_word_sum := c_word_sum T
  have hmT : (PL, lamq) ∈ TLaw PL := List.mem_singleton.mpr rfl
  have hu : ∀ p ∈ TLaw PL, p.1 = PL → p.2 = lamq := fun p hp _ => by rw [List.mem_singleton.mp hp]
  refine D.okF (N := ["script", "letters", "numbers", "number", "place", "drawn", "dice", "text", "k", "sign"]) (ps := ["script"]) ⟨rfl, rfl, rfl, by decide +kernel, rfl, by decide +kernel, by decide +kernel⟩ (fun vs H Q E h => by first | (obtain ⟨_, rfl, _⟩ := h; rfl) | (obtain ⟨_, _, rfl, _⟩ := h; rfl) | (obtain ⟨_, _, _, rfl, _⟩ := h; rfl) | (obtain ⟨_, _, _, _, rfl, _⟩ := h; rfl) | (obtain ⟨_, _, _, _, _, rfl, _⟩ := h; rfl) | (obtain ⟨rfl, _⟩ := h; rfl)) (fun _ _ _ _ _ _ us hl => match us, hl with | [_], _ => rfl) (fun A outer s H vs Q E hr h => ?_)
  have nd : (["script", "letters", "numbers", "number", "place", "drawn", "dice", "text", "k", "sign"] : List Str).Nodup := by decide
  refine mk_ex (pss_cons (ps_set (i := 1) nd rfl (Or.inr rfl) (GX.pe_call0 c_law_letters (hr.mono (by decide)) (takes_of rfl rfl rfl rfl)))
    (pss_cons (ps_for (passes_of rfl) rfl (pi_list (GX.pe_call c_law_rounds (hr.mono (by decide)) (takes_of rfl rfl rfl rfl) (by exact (pa_cons (pv 0) (pa_cons pe_int pa_nil))))) (pg_name (i := 6) nd rfl (Or.inr rfl)) (pss_cons (ps_set (i := 7) nd rfl (Or.inr rfl) (pe_m1 F.slot_str_join F.type_str_join mt_join pe_str (pe_lc rfl nd (pi_range1 rfl T.n_range (pa_cons (GX.pe_call c_law_roll (hr.mono (by decide)) (takes_of rfl rfl rfl rfl) (by exact (pa_cons (pv 6) (pa_cons pe_int pa_nil)))) pa_nil)) (show BlkOk ["script", "letters", "numbers", "number", "place", "drawn", "dice", "text", "k", "sign"] (defScope (top 20)) _ [("k", 8)] from blkOk_by (by decide +kernel)) (fun s H C cl fp => (pg_name (i := 8) nd rfl (Or.inl rfl))) (fun s H C cl fp => pts_nil) (fun s H C cl fp => (pe_ix (ixK (K := K) (r := rIx) ix_seq rfl) (pv 1) (GX.pe_call c_law_roll (hr.mono (by decide)) takes0 (by exact (pa_cons (pv 6) (pa_cons pe_int pa_nil)))) (fun _ _ => rfl))))))
    (pss_cons (ps_set (i := 2) nd rfl (Or.inl rfl) (pe_tupL (K := K) rfl rfl T.n_tuple (pe_lc rfl nd (pi_str (pv 7)) (show BlkOk ["script", "letters", "numbers", "number", "place", "drawn", "dice", "text", "k", "sign"] (defScope (top 20)) _ [("sign", 9)] from blkOk_by (by decide +kernel)) (fun s H C cl fp => (pg_name (i := 9) nd rfl (Or.inl rfl))) (fun s H C cl fp => pts_nil) (fun s H C cl fp => (pe_m1 F.slot_str_index F.type_str_index mt_sindex (pv 1) (pv 9))))))
    (pss_cons (ps_if (PW.pt (pw_or (pt_cmpR (opK (K := K) (r := rNeU) (opU_ne (roomEq hr)) rfl) (GX.pe_call c_numbers_of (hr.mono (by decide)) (takes_of rfl rfl rfl rfl) (by exact (pa_cons (pv 7) pa_nil))) (pv 2) (nomark _)) (pw_or (pt_cmpR (opK (K := K) (r := rNeU) (opU_ne (roomEq hr)) rfl) (GX.pe_call c_text_of (hr.mono (by decide)) (takes_of rfl rfl rfl rfl) (by exact (pa_cons (pv 2) pa_nil))) (pv 7) (nomark _)) (pw_or1 (pt_cmpR (opK (K := K) (r := rNeU) (opU_ne (roomEq hr)) rfl) (GX.pe_call c_check_text (hr.mono (by decide)) (takes_of rfl rfl rfl rfl) (by exact (pa_cons (pv 7) pa_nil))) (pv 7) (nomark _)))))) (pss_one (ps_ret pe_bl)) pss_nil)
    (pss_cons (ps_par (i := 3) (j := 4) rfl nd rfl rfl (by decide) rfl rfl (by exact (pa_cons (GX.pe_call c_law_roll (hr.mono (by decide)) (takes_of rfl rfl rfl rfl) (by exact (pa_cons (pv 6) (pa_cons pe_int pa_nil)))) (pa_cons (GX.pe_call c_law_roll (hr.mono (by decide)) (takes_of rfl rfl rfl rfl) (by exact (pa_cons (pv 6) (pa_cons pe_int pa_nil)))) pa_nil))) rfl)
    (pss_cons (ps_if (PW.pt (pw_or (pt_cmpR (opK (K := K) (r := rNeU) (opU_ne (roomEq hr)) rfl) (GX.pe_call c_pair (hr.mono (by decide)) (takes_of rfl rfl rfl rfl) (by exact (pa_cons (pv 3) pa_nil))) (pe_tup (pa_cons (pe_op opU_fdv (pv 3) pe_int) (pa_cons (pe_op opU_mod (pv 3) pe_int) pa_nil))) (nomark _)) (pw_or1 (pt_cmpR (opK (K := K) (r := rNeU) (opU_ne (roomEq hr)) rfl) (GX.pe_call c_number_of_pair (hr.mono (by decide)) (takes_of rfl rfl rfl rfl) (by exact (pa_cons (pe_op (opK (K := K) (r := rAddU) opU_add rfl) (pe_tup (pa_cons pe_int pa_nil)) (GX.pe_call c_pair (hr.mono (by decide)) (takes_of rfl rfl rfl rfl) (by exact (pa_cons (pv 3) pa_nil)))) (pa_cons pe_int pa_nil)))) (pv 3) (nomark _))))) (pss_one (ps_ret pe_bl)) pss_nil)
    (pss_cons (ps_if (PW.pt (pw_or (pt_cmpR (opK (K := K) (r := rNeU) (opU_ne (roomEq hr)) rfl) (GX.pe_call c_letter_at (hr.mono (by decide)) (takes_of rfl rfl rfl rfl) (by exact (pa_cons (pv 4) pa_nil))) (pe_ix (ixK (K := K) (r := rIx) ix_seq rfl) (pv 1) (pv 4) (fun _ _ => rfl)) (nomark _)) (pw_or1 (pt_cmpR (opK (K := K) (r := rNeU) (opU_ne (roomEq hr)) rfl) (GX.pe_call c_letter_number (hr.mono (by decide)) (takes_of rfl rfl rfl rfl) (by exact (pa_cons (pe_ix (ixK (K := K) (r := rIx) ix_seq rfl) (pv 1) (pv 4) (fun _ _ => rfl)) pa_nil))) (pv 4) (nomark _))))) (pss_one (ps_ret pe_bl)) pss_nil)
    (pss_cons (ps_if (PW.pt (pw_or (pt_cmpR (opK (K := K) (r := rNeU) (opU_ne (roomEq hr)) rfl) (pe_told (k := 14) told rfl tbL rfl hmT hu (hr.mono (by decide)) (show LamX.LamS (defScope (top 20)) _ from LamX.lamS_by (by decide +kernel)) rfl (fun _ _ _ _ _ => rfl) (fun A outer s H E f c' hr1 => (GX.pe_call c_letter_at (hr1.mono (by decide)) takes_lam (by exact (pa_cons (pe_op (opK (K := K) (r := rAddU) opU_add rfl) pe_int (GX.pe_call c_law_roll (hr1.mono (by decide)) takes_lam (by exact (pa_cons (pv 6) (pa_cons pe_int pa_nil))))) pa_nil))))) pe_str (nomark _)) (pw_or1 (pt_cmpR (opK (K := K) (r := rNeU) (opU_ne (roomEq hr)) rfl) (pe_told (k := 14) told rfl tbL rfl hmT hu (hr.mono (by decide)) (show LamX.LamS (defScope (top 20)) _ from LamX.lamS_by (by decide +kernel)) rfl (fun _ _ _ _ _ => rfl) (fun A outer s H E f c' hr1 => (GX.pe_call c_letter_at (hr1.mono (by decide)) takes_lam (by exact (pa_cons (pe_op opU_sub pe_int pe_int) pa_nil))))) pe_str (nomark _))))) (pss_one (ps_ret pe_bl)) pss_nil)
    (pss_cons (ps_set (i := 5) nd rfl (Or.inl rfl) (pe_tupL (K := K) rfl rfl T.n_tuple (pe_lc rfl nd (pi_range1 rfl T.n_range (pa_cons (GX.pe_call c_law_roll (hr.mono (by decide)) (takes_of rfl rfl rfl rfl) (by exact (pa_cons (pv 6) (pa_cons pe_int pa_nil)))) pa_nil)) (show BlkOk ["script", "letters", "numbers", "number", "place", "drawn", "dice", "text", "k", "sign"] (defScope (top 20)) _ [("k", 8)] from blkOk_by (by decide +kernel)) (fun s H C cl fp => (pg_name (i := 8) nd rfl (Or.inl rfl))) (fun s H C cl fp => pts_nil) (fun s H C cl fp => (GX.pe_call c_law_roll (hr.mono (by decide)) takes0 (by exact (pa_cons (pv 6) (pa_cons pe_int pa_nil))))))))
    (pss_cons (ps_if (pt_cmpR (opK (K := K) (r := rNeU) (opU_ne (roomEq hr)) rfl) (GX.pe_call c_word_sum (hr.mono (by decide)) (takes_of rfl rfl rfl rfl) (by exact (pa_cons (pv 5) pa_nil))) (GX.pe_call c_law_sum (hr.mono (by decide)) (takes_of rfl rfl rfl rfl) (by exact (pa_cons (pv 5) pa_nil))) (nomark _)) (pss_one (ps_ret pe_bl)) pss_nil)
    (pss_one (ps_if (PW.pt (pw_or (pt_cmpR (opK (K := K) (r := rNeU) (opU_ne (roomEq hr)) rfl) (pe_told (k := 14) told rfl tbL rfl hmT hu (hr.mono (by decide)) (show LamX.LamS (defScope (top 20)) _ from LamX.lamS_by (by decide +kernel)) rfl (fun _ _ _ _ _ => rfl) (fun A outer s H E f c' hr1 => (GX.pe_call c_check_text (hr1.mono (by decide)) takes_lam (by exact (pa_cons (pe_op (opK (K := K) (r := rAddU) opU_add rfl) (pv 7) pe_str) pa_nil))))) pe_str (nomark _)) (pw_or1 (pt_cmpR (opK (K := K) (r := rNeU) (opU_ne (roomEq hr)) rfl) (pe_told (k := 14) told rfl tbL rfl hmT hu (hr.mono (by decide)) (show LamX.LamS (defScope (top 20)) _ from LamX.lamS_by (by decide +kernel)) rfl (fun _ _ _ _ _ => rfl) (fun A outer s H E f c' hr1 => (GX.pe_call c_letter_number (hr1.mono (by decide)) takes_lam (by exact (pa_cons pe_str pa_nil))))) pe_str (nomark _))))) (pss_one (ps_ret pe_bl)) pss_nil))))))))))))
    (pss_one (ps_ret (pe_cmpR (opK (K := K) (r := rEqU) (opU_eq (roomEq hr)) rfl) (pe_callB (call_lenU (K := K) rfl) rfl T.n_len rfl (by exact (pa_cons (pv 1) pa_nil))) pe_int (nomark _)))))) ?_
  obtain ⟨p, ns, rfl, hs, ht, h⟩ := h
  simp only [cx_K, gcx_K, lcx_K, LenV, rLenU, tTruU, kTup, tTupL, ex2eq, not_true_eq_false, not_false_eq_true, LamX.tLam, LamX.TTold, tSeq, tNext, tRet, tRetN, tIfS, tTest, tB, tNot, tAnd, tOr, tChain, tOp, tUn, tC, tVar, tCons, tNil, tTup, tLst, tAsg, gName, gTup, gCons, gNil, gSub, tDrop, tCallS, tCB, tM1, tM0, tBM, tBM0, tSl, tPar, tFor_eq, tLc_eq, intU_int, intU_bl, iList, iTup, iRng1, iRng2, iStr, tThen, tNever, L2.start, tRaiseFile, tMkFile, tYes, tPart, tNoPart, addU_int, addU_str, addU_ref, subU_int, mulU_int, mulU_ref, fdvU_int, modU_int, powU_int, ltU_int, leU_int, gtU_int, geU_int, eqU_int, eqU_str, eqU_bl, neU_int, neU_str, neU_bl, WE, TruV, List.map, List.length_cons, List.length_nil, List.replicate, List.append, List.getElem?_cons_zero, List.getElem?_cons_succ, List.set_cons_zero, List.set_cons_succ, List.cons_append, List.nil_append, Option.some.injEq, V.int.injEq, V.str.injEq, V.bl.injEq, V.ref.injEq, List.cons.injEq, exists_eq_left, exists_eq_right, and_true, true_and, and_self, exists_eq, exists_const, Bool.not_true, Bool.not_false, Bool.false_eq_true, if_true, if_false, reduceIte, decide_eq_true_eq, bne_iff_ne, exists_eq_left', exists_eq', exists_and_left, Bool.not_eq_true', decide_eq_false_iff_not, Nat.reduceSub, Nat.reduceAdd, reduceCtorEq, false_and, or_false, false_or, exists_false]
  refine ⟨rfl, p, ns, rfl, hs, fun q r x y z H1 e1 hq hr0 => ⟨q, rfl, ⟨_, lst_at hq⟩, ?_⟩⟩
  have s1 : SD (TLaw PL) GT r q H1 := ⟨e1.tb ht, ⟨x, y, z, hr0⟩, hq⟩
  refine loop_list (xs := [V.ref r]) (fun i σ H' => (i = 0 → σ = [some (.ref p), some (.str lits), none, none, none, none, none, none, none, none] ∧ H' = H1) ∧ (i = 1 → ∃ v2 v3 v4 v5 v6 v7 v8 v9, σ = [some (.ref p), some (.str lits), v2, v3, v4, v5, v6, v7, v8, v9])  ∧ SD (TLaw PL) GT r q H')
    ⟨fun _ => ⟨rfl, rfl⟩, by simp, s1⟩ (fun i σ H' hi e => lst_at e.2.2.li) ?_ ?_
  · rintro i v σ H' hx ⟨e0, _, _⟩
    match i, hx with
    | 0, hx =>
      obtain rfl : V.ref r = v := Option.some.inj hx
      obtain ⟨rfl, rfl⟩ := e0 rfl
      simp only [cx_K, gcx_K, lcx_K, LenV, rLenU, tTruU, kTup, tTupL, ex2eq, not_true_eq_false, not_false_eq_true, LamX.tLam, LamX.TTold, tSeq, tNext, tRet, tRetN, tIfS, tTest, tB, tNot, tAnd, tOr, tChain, tOp, tUn, tC, tVar, tCons, tNil, tTup, tLst, tAsg, gName, gTup, gCons, gNil, gSub, tDrop, tCallS, tCB, tM1, tM0, tBM, tBM0, tSl, tPar, tFor_eq, tLc_eq, intU_int, intU_bl, iList, iTup, iRng1, iRng2, iStr, tThen, tNever, L2.start, tRaiseFile, tMkFile, tYes, tPart, tNoPart, addU_int, addU_str, addU_ref, subU_int, mulU_int, mulU_ref, fdvU_int, modU_int, powU_int, ltU_int, leU_int, gtU_int, geU_int, eqU_int, eqU_str, eqU_bl, neU_int, neU_str, neU_bl, WE, TruV, List.map, List.length_cons, List.length_nil, List.replicate, List.append, List.getElem?_cons_zero, List.getElem?_cons_succ, List.set_cons_zero, List.set_cons_succ, List.cons_append, List.nil_append, Option.some.injEq, V.int.injEq, V.str.injEq, V.bl.injEq, V.ref.injEq, List.cons.injEq, exists_eq_left, exists_eq_right, and_true, true_and, and_self, exists_eq, exists_const, Bool.not_true, Bool.not_false, Bool.false_eq_true, if_true, if_false, reduceIte, decide_eq_true_eq, bne_iff_ne, exists_eq_left', exists_eq', exists_and_left, Bool.not_eq_true', decide_eq_false_iff_not, Nat.reduceSub, Nat.reduceAdd, reduceCtorEq, false_and, or_false, false_or, exists_false]
      refine roll_ok s1 (by decide) (by decide) fun j H2 j0 j1 e2 s2 => ⟨j, rfl, by omega, by omega, fun D hD => ?_⟩
      have hDr := s2.ne hD
      refine lcl_range (fun i H' => ∃ ks : List Int, ks.length = i ∧ (∀ k ∈ ks, 0 ≤ k ∧ k < 95) ∧ H' D = some (.lst (ks.map fun k => V.str (lat k))) ∧ SD (TLaw PL) GT r q H') ⟨[], rfl, by simp, upd_same, s2.ex (Ex.new hD)⟩ ?_ ?_
      · rintro i H3 hi ⟨ks, hl, hk, hD3, s3⟩
        simp only [cx_K, gcx_K, lcx_K, LenV, rLenU, tTruU, kTup, tTupL, ex2eq, not_true_eq_false, not_false_eq_true, LamX.tLam, LamX.TTold, tSeq, tNext, tRet, tRetN, tIfS, tTest, tB, tNot, tAnd, tOr, tChain, tOp, tUn, tC, tVar, tCons, tNil, tTup, tLst, tAsg, gName, gTup, gCons, gNil, gSub, tDrop, tCallS, tCB, tM1, tM0, tBM, tBM0, tSl, tPar, tFor_eq, tLc_eq, intU_int, intU_bl, iList, iTup, iRng1, iRng2, iStr, tThen, tNever, L2.start, tRaiseFile, tMkFile, tYes, tPart, tNoPart, addU_int, addU_str, addU_ref, subU_int, mulU_int, mulU_ref, fdvU_int, modU_int, powU_int, ltU_int, leU_int, gtU_int, geU_int, eqU_int, eqU_str, eqU_bl, neU_int, neU_str, neU_bl, WE, TruV, List.map, List.length_cons, List.length_nil, List.replicate, List.append, List.getElem?_cons_zero, List.getElem?_cons_succ, List.set_cons_zero, List.set_cons_succ, List.cons_append, List.nil_append, Option.some.injEq, V.int.injEq, V.str.injEq, V.bl.injEq, V.ref.injEq, List.cons.injEq, exists_eq_left, exists_eq_right, and_true, true_and, and_self, exists_eq, exists_const, Bool.not_true, Bool.not_false, Bool.false_eq_true, if_true, if_false, reduceIte, decide_eq_true_eq, bne_iff_ne, exists_eq_left', exists_eq', exists_and_left, Bool.not_eq_true', decide_eq_false_iff_not, Nat.reduceSub, Nat.reduceAdd, reduceCtorEq, false_and, or_false, false_or, exists_false, wipe]
        refine roll_ok s3 (by decide) (by decide) fun k H4 k0 k1 e4 s4 => rIx_lits ⟨k0, k1⟩ ?_
        have hD4 := e4.lst (by simpa using hDr.1) hD3
        refine ⟨_, hD4, ?_, ks ++ [k], by simp [hl], ?_, ?_, s4.put hDr hD4⟩
        · rw [List.length_map, hl, sizeLine_eq]; omega
        · intro k' hk'
          rcases List.mem_append.mp hk' with w | w
          · exact hk k' w
          · obtain rfl : k' = k := by simpa using w
            exact ⟨k0, k1⟩
        · rw [upd_same, List.map_append]; rfl
      · rintro H3 ⟨ks, hl, hk, hD3, s3⟩
        have hl21 : ks.length ≤ 21 := by omega
        refine ⟨ks.map lat, .inl (lst_at (by rw [hD3, List.map_map]; rfl)), ?_, fun D2 hD2 => ?_⟩
        · have e1 : ((ks.map lat).map fun x => x.length).sum = ks.length := by
            rw [List.map_map]
            exact sum_ones ks
          rw [e1]
          show ks.length + (ks.map lat).length * 0 ≤ _
          omega
        have hDr2 := s3.ne hD2
        have htx : Txt.join (Str.ofString "") (ks.map lat) = textOf ks := rfl
        rw [htx]
        refine lcl_str (z := textOf ks) (fun i H' => H' D2 = some (.lst ((ks.take i).map V.int)) ∧ SD (TLaw PL) GT r q H') ⟨upd_same, s3.ex (Ex.new hD2)⟩ ?_ ?_
        · rintro i c H4 hc ⟨hD4, s4⟩
          have hc2 : ((textOf ks).cps.toList)[i]? = some c := by rw [Array.getElem?_toList]; exact hc
          rw [text_cps] at hc2
          obtain ⟨k, hk2, rfl⟩ := map_at hc2
          have hkr := hk k (List.mem_of_getElem? hk2)
          simp only [cx_K, gcx_K, lcx_K, LenV, rLenU, tTruU, kTup, tTupL, ex2eq, not_true_eq_false, not_false_eq_true, LamX.tLam, LamX.TTold, tSeq, tNext, tRet, tRetN, tIfS, tTest, tB, tNot, tAnd, tOr, tChain, tOp, tUn, tC, tVar, tCons, tNil, tTup, tLst, tAsg, gName, gTup, gCons, gNil, gSub, tDrop, tCallS, tCB, tM1, tM0, tBM, tBM0, tSl, tPar, tFor_eq, tLc_eq, intU_int, intU_bl, iList, iTup, iRng1, iRng2, iStr, tThen, tNever, L2.start, tRaiseFile, tMkFile, tYes, tPart, tNoPart, addU_int, addU_str, addU_ref, subU_int, mulU_int, mulU_ref, fdvU_int, modU_int, powU_int, ltU_int, leU_int, gtU_int, geU_int, eqU_int, eqU_str, eqU_bl, neU_int, neU_str, neU_bl, WE, TruV, List.map, List.length_cons, List.length_nil, List.replicate, List.append, List.getElem?_cons_zero, List.getElem?_cons_succ, List.set_cons_zero, List.set_cons_succ, List.cons_append, List.nil_append, Option.some.injEq, V.int.injEq, V.str.injEq, V.bl.injEq, V.ref.injEq, List.cons.injEq, exists_eq_left, exists_eq_right, and_true, true_and, and_self, exists_eq, exists_const, Bool.not_true, Bool.not_false, Bool.false_eq_true, if_true, if_false, reduceIte, decide_eq_true_eq, bne_iff_ne, exists_eq_left', exists_eq', exists_and_left, Bool.not_eq_true', decide_eq_false_iff_not, Nat.reduceSub, Nat.reduceAdd, reduceCtorEq, false_and, or_false, false_or, exists_false, wipe]
          refine ⟨lits, lat k, k.toNat, [], rfl, rfl, lat_occ hkr, _, hD4, ?_, ?_, s4.put hDr2 hD4⟩
          · rw [List.length_map, List.length_take, sizeLine_eq]; omega
          · rw [upd_same, take_more hk2, List.map_append]
            have : ((k.toNat : Nat) : Int) = k := by omega
            rw [this]; rfl
        · rintro H4 ⟨hD4, s4⟩
          rw [text_size, List.take_length] at hD4
          refine ⟨_, lst_at hD4, fun q1 hq1 => ?_⟩
          have s5 := s4.ex (Ex.new (o := .tup (ks.map V.int)) hq1)
          have tq1 : upd H4 q1 (.tup (ks.map V.int)) q1 = some (.tup (ks.map V.int)) := upd_same
          generalize upd H4 q1 (.tup (ks.map V.int)) = H5 at s5 tq1
          have tsz : (textOf ks).cps.size ≤ 1000 := by rw [text_size]; omega
          refine ⟨textOf ks, rfl, s5.tb, tsz, fun ⟨c, hc, hb⟩ => absurd hb (text_good hk c hc), fun _ q2 H6 e6 h6 => ?_⟩
          rw [nums_text hk] at h6
          refine ne_tupI (tup_at h6) (tup_at (e6.tup (by simp) tq1)) ?_
          simp only [cx_K, gcx_K, lcx_K, LenV, rLenU, tTruU, kTup, tTupL, ex2eq, not_true_eq_false, not_false_eq_true, LamX.tLam, LamX.TTold, tSeq, tNext, tRet, tRetN, tIfS, tTest, tB, tNot, tAnd, tOr, tChain, tOp, tUn, tC, tVar, tCons, tNil, tTup, tLst, tAsg, gName, gTup, gCons, gNil, gSub, tDrop, tCallS, tCB, tM1, tM0, tBM, tBM0, tSl, tPar, tFor_eq, tLc_eq, intU_int, intU_bl, iList, iTup, iRng1, iRng2, iStr, tThen, tNever, L2.start, tRaiseFile, tMkFile, tYes, tPart, tNoPart, addU_int, addU_str, addU_ref, subU_int, mulU_int, mulU_ref, fdvU_int, modU_int, powU_int, ltU_int, leU_int, gtU_int, geU_int, eqU_int, eqU_str, eqU_bl, neU_int, neU_str, neU_bl, WE, TruV, List.map, List.length_cons, List.length_nil, List.replicate, List.append, List.getElem?_cons_zero, List.getElem?_cons_succ, List.set_cons_zero, List.set_cons_succ, List.cons_append, List.nil_append, Option.some.injEq, V.int.injEq, V.str.injEq, V.bl.injEq, V.ref.injEq, List.cons.injEq, exists_eq_left, exists_eq_right, and_true, true_and, and_self, exists_eq, exists_const, Bool.not_true, Bool.not_false, Bool.false_eq_true, if_true, if_false, reduceIte, decide_eq_true_eq, bne_iff_ne, exists_eq_left', exists_eq', exists_and_left, Bool.not_eq_true', decide_eq_false_iff_not, Nat.reduceSub, Nat.reduceAdd, reduceCtorEq, false_and, or_false, false_or, exists_false]
          have s6 := s5.ex e6
          refine ⟨q1, ks, rfl, tup_at (e6.tup (by simp) tq1), by omega, hk, fun H7 e7 => ?_⟩
          rw [htx]
          refine ne_strS ?_
          simp only [cx_K, gcx_K, lcx_K, LenV, rLenU, tTruU, kTup, tTupL, ex2eq, not_true_eq_false, not_false_eq_true, LamX.tLam, LamX.TTold, tSeq, tNext, tRet, tRetN, tIfS, tTest, tB, tNot, tAnd, tOr, tChain, tOp, tUn, tC, tVar, tCons, tNil, tTup, tLst, tAsg, gName, gTup, gCons, gNil, gSub, tDrop, tCallS, tCB, tM1, tM0, tBM, tBM0, tSl, tPar, tFor_eq, tLc_eq, intU_int, intU_bl, iList, iTup, iRng1, iRng2, iStr, tThen, tNever, L2.start, tRaiseFile, tMkFile, tYes, tPart, tNoPart, addU_int, addU_str, addU_ref, subU_int, mulU_int, mulU_ref, fdvU_int, modU_int, powU_int, ltU_int, leU_int, gtU_int, geU_int, eqU_int, eqU_str, eqU_bl, neU_int, neU_str, neU_bl, WE, TruV, List.map, List.length_cons, List.length_nil, List.replicate, List.append, List.getElem?_cons_zero, List.getElem?_cons_succ, List.set_cons_zero, List.set_cons_succ, List.cons_append, List.nil_append, Option.some.injEq, V.int.injEq, V.str.injEq, V.bl.injEq, V.ref.injEq, List.cons.injEq, exists_eq_left, exists_eq_right, and_true, true_and, and_self, exists_eq, exists_const, Bool.not_true, Bool.not_false, Bool.false_eq_true, if_true, if_false, reduceIte, decide_eq_true_eq, bne_iff_ne, exists_eq_left', exists_eq', exists_and_left, Bool.not_eq_true', decide_eq_false_iff_not, Nat.reduceSub, Nat.reduceAdd, reduceCtorEq, false_and, or_false, false_or, exists_false]
          have s7 := s6.ex e7
          refine ⟨textOf ks, rfl, s7.tb, tsz, fun ⟨c, hc, hb⟩ => absurd hb (text_good hk c hc), fun _ H8 e8 => ne_strS ?_⟩
          simp only [cx_K, gcx_K, lcx_K, LenV, rLenU, tTruU, kTup, tTupL, ex2eq, not_true_eq_false, not_false_eq_true, LamX.tLam, LamX.TTold, tSeq, tNext, tRet, tRetN, tIfS, tTest, tB, tNot, tAnd, tOr, tChain, tOp, tUn, tC, tVar, tCons, tNil, tTup, tLst, tAsg, gName, gTup, gCons, gNil, gSub, tDrop, tCallS, tCB, tM1, tM0, tBM, tBM0, tSl, tPar, tFor_eq, tLc_eq, intU_int, intU_bl, iList, iTup, iRng1, iRng2, iStr, tThen, tNever, L2.start, tRaiseFile, tMkFile, tYes, tPart, tNoPart, addU_int, addU_str, addU_ref, subU_int, mulU_int, mulU_ref, fdvU_int, modU_int, powU_int, ltU_int, leU_int, gtU_int, geU_int, eqU_int, eqU_str, eqU_bl, neU_int, neU_str, neU_bl, WE, TruV, List.map, List.length_cons, List.length_nil, List.replicate, List.append, List.getElem?_cons_zero, List.getElem?_cons_succ, List.set_cons_zero, List.set_cons_succ, List.cons_append, List.nil_append, Option.some.injEq, V.int.injEq, V.str.injEq, V.bl.injEq, V.ref.injEq, List.cons.injEq, exists_eq_left, exists_eq_right, and_true, true_and, and_self, exists_eq, exists_const, Bool.not_true, Bool.not_false, Bool.false_eq_true, if_true, if_false, reduceIte, decide_eq_true_eq, bne_iff_ne, exists_eq_left', exists_eq', exists_and_left, Bool.not_eq_true', decide_eq_false_iff_not, Nat.reduceSub, Nat.reduceAdd, reduceCtorEq, false_and, or_false, false_or, exists_false]
          have s8 := s7.ex e8
          refine roll_ok s8 (by decide) (by decide) fun n H9 n0 n1 e9 s9 => roll_ok s9 (by decide) (by decide) fun pl H10 l0 l1 e10 s10 => ?_
          have hn : n / 256 % 256 = n / 256 := by omega
          refine ⟨n, rfl, fun q3 H11 e11 h11 => ?_⟩
          rw [hn] at h11
          have s11 := s10.ex e11
          simp only [cx_K, gcx_K, lcx_K, LenV, rLenU, tTruU, kTup, tTupL, ex2eq, not_true_eq_false, not_false_eq_true, LamX.tLam, LamX.TTold, tSeq, tNext, tRet, tRetN, tIfS, tTest, tB, tNot, tAnd, tOr, tChain, tOp, tUn, tC, tVar, tCons, tNil, tTup, tLst, tAsg, gName, gTup, gCons, gNil, gSub, tDrop, tCallS, tCB, tM1, tM0, tBM, tBM0, tSl, tPar, tFor_eq, tLc_eq, intU_int, intU_bl, iList, iTup, iRng1, iRng2, iStr, tThen, tNever, L2.start, tRaiseFile, tMkFile, tYes, tPart, tNoPart, addU_int, addU_str, addU_ref, subU_int, mulU_int, mulU_ref, fdvU_int, modU_int, powU_int, ltU_int, leU_int, gtU_int, geU_int, eqU_int, eqU_str, eqU_bl, neU_int, neU_str, neU_bl, WE, TruV, List.map, List.length_cons, List.length_nil, List.replicate, List.append, List.getElem?_cons_zero, List.getElem?_cons_succ, List.set_cons_zero, List.set_cons_succ, List.cons_append, List.nil_append, Option.some.injEq, V.int.injEq, V.str.injEq, V.bl.injEq, V.ref.injEq, List.cons.injEq, exists_eq_left, exists_eq_right, and_true, true_and, and_self, exists_eq, exists_const, Bool.not_true, Bool.not_false, Bool.false_eq_true, if_true, if_false, reduceIte, decide_eq_true_eq, bne_iff_ne, exists_eq_left', exists_eq', exists_and_left, Bool.not_eq_true', decide_eq_false_iff_not, Nat.reduceSub, Nat.reduceAdd, reduceCtorEq, false_and, or_false, false_or, exists_false]
          refine ⟨⟨by decide, by decide⟩, by decide, sz 2, fun q4 hq4 => ?_⟩
          have e12 := Ex.new (A := []) (TL := TLaw PL) (GT := GT) (o := .tup [.int (n / 256), .int (n % 256)]) hq4
          have s12 := s11.ex e12
          refine ne_tupI (ns := [n / 256, n % 256]) (tup_at (e12.tup (by simp) h11)) (tup_at upd_same) ?_
          simp only [cx_K, gcx_K, lcx_K, LenV, rLenU, tTruU, kTup, tTupL, ex2eq, not_true_eq_false, not_false_eq_true, LamX.tLam, LamX.TTold, tSeq, tNext, tRet, tRetN, tIfS, tTest, tB, tNot, tAnd, tOr, tChain, tOp, tUn, tC, tVar, tCons, tNil, tTup, tLst, tAsg, gName, gTup, gCons, gNil, gSub, tDrop, tCallS, tCB, tM1, tM0, tBM, tBM0, tSl, tPar, tFor_eq, tLc_eq, intU_int, intU_bl, iList, iTup, iRng1, iRng2, iStr, tThen, tNever, L2.start, tRaiseFile, tMkFile, tYes, tPart, tNoPart, addU_int, addU_str, addU_ref, subU_int, mulU_int, mulU_ref, fdvU_int, modU_int, powU_int, ltU_int, leU_int, gtU_int, geU_int, eqU_int, eqU_str, eqU_bl, neU_int, neU_str, neU_bl, WE, TruV, List.map, List.length_cons, List.length_nil, List.replicate, List.append, List.getElem?_cons_zero, List.getElem?_cons_succ, List.set_cons_zero, List.set_cons_succ, List.cons_append, List.nil_append, Option.some.injEq, V.int.injEq, V.str.injEq, V.bl.injEq, V.ref.injEq, List.cons.injEq, exists_eq_left, exists_eq_right, and_true, true_and, and_self, exists_eq, exists_const, Bool.not_true, Bool.not_false, Bool.false_eq_true, if_true, if_false, reduceIte, decide_eq_true_eq, bne_iff_ne, exists_eq_left', exists_eq', exists_and_left, Bool.not_eq_true', decide_eq_false_iff_not, Nat.reduceSub, Nat.reduceAdd, reduceCtorEq, false_and, or_false, false_or, exists_false]
          generalize upd H11 q4 (.tup [.int (n / 256), .int (n % 256)]) = H12 at s12
          refine ⟨sz 1, fun q5 hq5 => ?_⟩
          have s13 := s12.ex (Ex.new (o := .tup [V.int 7]) hq5)
          have t5 : upd H12 q5 (.tup [V.int 7]) q5 = some (.tup [V.int 7]) := upd_same
          generalize upd H12 q5 (.tup [V.int 7]) = H13 at s13 t5
          refine ⟨n, rfl, fun q6 H14 e14 h14 => ?_⟩
          rw [hn] at h14
          have s14 := s13.ex e14
          simp only [cx_K, gcx_K, lcx_K, LenV, rLenU, tTruU, kTup, tTupL, ex2eq, not_true_eq_false, not_false_eq_true, LamX.tLam, LamX.TTold, tSeq, tNext, tRet, tRetN, tIfS, tTest, tB, tNot, tAnd, tOr, tChain, tOp, tUn, tC, tVar, tCons, tNil, tTup, tLst, tAsg, gName, gTup, gCons, gNil, gSub, tDrop, tCallS, tCB, tM1, tM0, tBM, tBM0, tSl, tPar, tFor_eq, tLc_eq, intU_int, intU_bl, iList, iTup, iRng1, iRng2, iStr, tThen, tNever, L2.start, tRaiseFile, tMkFile, tYes, tPart, tNoPart, addU_int, addU_str, addU_ref, subU_int, mulU_int, mulU_ref, fdvU_int, modU_int, powU_int, ltU_int, leU_int, gtU_int, geU_int, eqU_int, eqU_str, eqU_bl, neU_int, neU_str, neU_bl, WE, TruV, List.map, List.length_cons, List.length_nil, List.replicate, List.append, List.getElem?_cons_zero, List.getElem?_cons_succ, List.set_cons_zero, List.set_cons_succ, List.cons_append, List.nil_append, Option.some.injEq, V.int.injEq, V.str.injEq, V.bl.injEq, V.ref.injEq, List.cons.injEq, exists_eq_left, exists_eq_right, and_true, true_and, and_self, exists_eq, exists_const, Bool.not_true, Bool.not_false, Bool.false_eq_true, if_true, if_false, reduceIte, decide_eq_true_eq, bne_iff_ne, exists_eq_left', exists_eq', exists_and_left, Bool.not_eq_true', decide_eq_false_iff_not, Nat.reduceSub, Nat.reduceAdd, reduceCtorEq, false_and, or_false, false_or, exists_false]
          refine .inl ⟨q5, q6, _, _, rfl, rfl, tup_at (e14.tup (by simp) t5), tup_at h14, by simp, sz 3, (fun z => by simp at z), fun _ q7 hq7 => ?_⟩
          have s15 := s14.ex (Ex.new (o := .tup [V.int 7, .int (n / 256), .int (n % 256)]) hq7)
          refine ⟨q7, 1, _, n / 256, n % 256, rfl, tup_at upd_same, rfl, rfl, ?_⟩
          rw [show n / 256 * 256 + n % 256 = n by omega]
          refine ne_intS ?_
          simp only [cx_K, gcx_K, lcx_K, LenV, rLenU, tTruU, kTup, tTupL, ex2eq, not_true_eq_false, not_false_eq_true, LamX.tLam, LamX.TTold, tSeq, tNext, tRet, tRetN, tIfS, tTest, tB, tNot, tAnd, tOr, tChain, tOp, tUn, tC, tVar, tCons, tNil, tTup, tLst, tAsg, gName, gTup, gCons, gNil, gSub, tDrop, tCallS, tCB, tM1, tM0, tBM, tBM0, tSl, tPar, tFor_eq, tLc_eq, intU_int, intU_bl, iList, iTup, iRng1, iRng2, iStr, tThen, tNever, L2.start, tRaiseFile, tMkFile, tYes, tPart, tNoPart, addU_int, addU_str, addU_ref, subU_int, mulU_int, mulU_ref, fdvU_int, modU_int, powU_int, ltU_int, leU_int, gtU_int, geU_int, eqU_int, eqU_str, eqU_bl, neU_int, neU_str, neU_bl, WE, TruV, List.map, List.length_cons, List.length_nil, List.replicate, List.append, List.getElem?_cons_zero, List.getElem?_cons_succ, List.set_cons_zero, List.set_cons_succ, List.cons_append, List.nil_append, Option.some.injEq, V.int.injEq, V.str.injEq, V.bl.injEq, V.ref.injEq, List.cons.injEq, exists_eq_left, exists_eq_right, and_true, true_and, and_self, exists_eq, exists_const, Bool.not_true, Bool.not_false, Bool.false_eq_true, if_true, if_false, reduceIte, decide_eq_true_eq, bne_iff_ne, exists_eq_left', exists_eq', exists_and_left, Bool.not_eq_true', decide_eq_false_iff_not, Nat.reduceSub, Nat.reduceAdd, reduceCtorEq, false_and, or_false, false_or, exists_false]
          generalize upd H14 q7 (.tup [V.int 7, .int (n / 256), .int (n % 256)]) = H15 at s15
          have hpl : 0 ≤ pl ∧ pl < 95 := ⟨l0, l1⟩
          refine ⟨pl, rfl, fun z => absurd hpl z, fun _ => rIx_lits hpl (ne_strS ?_)⟩
          simp only [cx_K, gcx_K, lcx_K, LenV, rLenU, tTruU, kTup, tTupL, ex2eq, not_true_eq_false, not_false_eq_true, LamX.tLam, LamX.TTold, tSeq, tNext, tRet, tRetN, tIfS, tTest, tB, tNot, tAnd, tOr, tChain, tOp, tUn, tC, tVar, tCons, tNil, tTup, tLst, tAsg, gName, gTup, gCons, gNil, gSub, tDrop, tCallS, tCB, tM1, tM0, tBM, tBM0, tSl, tPar, tFor_eq, tLc_eq, intU_int, intU_bl, iList, iTup, iRng1, iRng2, iStr, tThen, tNever, L2.start, tRaiseFile, tMkFile, tYes, tPart, tNoPart, addU_int, addU_str, addU_ref, subU_int, mulU_int, mulU_ref, fdvU_int, modU_int, powU_int, ltU_int, leU_int, gtU_int, geU_int, eqU_int, eqU_str, eqU_bl, neU_int, neU_str, neU_bl, WE, TruV, List.map, List.length_cons, List.length_nil, List.replicate, List.append, List.getElem?_cons_zero, List.getElem?_cons_succ, List.set_cons_zero, List.set_cons_succ, List.cons_append, List.nil_append, Option.some.injEq, V.int.injEq, V.str.injEq, V.bl.injEq, V.ref.injEq, List.cons.injEq, exists_eq_left, exists_eq_right, and_true, true_and, and_self, exists_eq, exists_const, Bool.not_true, Bool.not_false, Bool.false_eq_true, if_true, if_false, reduceIte, decide_eq_true_eq, bne_iff_ne, exists_eq_left', exists_eq', exists_and_left, Bool.not_eq_true', decide_eq_false_iff_not, Nat.reduceSub, Nat.reduceAdd, reduceCtorEq, false_and, or_false, false_or, exists_false]
          refine rIx_lits hpl ⟨lat pl, rfl, fun z => absurd z (lat_good hpl), fun _ => ?_⟩
          rw [lat_find hpl]
          refine ne_intS ?_
          simp only [cx_K, gcx_K, lcx_K, LenV, rLenU, tTruU, kTup, tTupL, ex2eq, not_true_eq_false, not_false_eq_true, LamX.tLam, LamX.TTold, tSeq, tNext, tRet, tRetN, tIfS, tTest, tB, tNot, tAnd, tOr, tChain, tOp, tUn, tC, tVar, tCons, tNil, tTup, tLst, tAsg, gName, gTup, gCons, gNil, gSub, tDrop, tCallS, tCB, tM1, tM0, tBM, tBM0, tSl, tPar, tFor_eq, tLc_eq, intU_int, intU_bl, iList, iTup, iRng1, iRng2, iStr, tThen, tNever, L2.start, tRaiseFile, tMkFile, tYes, tPart, tNoPart, addU_int, addU_str, addU_ref, subU_int, mulU_int, mulU_ref, fdvU_int, modU_int, powU_int, ltU_int, leU_int, gtU_int, geU_int, eqU_int, eqU_str, eqU_bl, neU_int, neU_str, neU_bl, WE, TruV, List.map, List.length_cons, List.length_nil, List.replicate, List.append, List.getElem?_cons_zero, List.getElem?_cons_succ, List.set_cons_zero, List.set_cons_succ, List.cons_append, List.nil_append, Option.some.injEq, V.int.injEq, V.str.injEq, V.bl.injEq, V.ref.injEq, List.cons.injEq, exists_eq_left, exists_eq_right, and_true, true_and, and_self, exists_eq, exists_const, Bool.not_true, Bool.not_false, Bool.false_eq_true, if_true, if_false, reduceIte, decide_eq_true_eq, bne_iff_ne, exists_eq_left', exists_eq', exists_and_left, Bool.not_eq_true', decide_eq_false_iff_not, Nat.reduceSub, Nat.reduceAdd, reduceCtorEq, false_and, or_false, false_or, exists_false]
          refine ⟨s15.tb.tl, fun H16 x16 t16 => ?_⟩
          have s16 := s15.lam x16 t16
          refine roll_ok s16 (by decide) (by decide) fun n2 H17 a0 a1 e17 s17 => ?_
          simp only [cx_K, gcx_K, lcx_K, LenV, rLenU, tTruU, kTup, tTupL, ex2eq, not_true_eq_false, not_false_eq_true, LamX.tLam, LamX.TTold, tSeq, tNext, tRet, tRetN, tIfS, tTest, tB, tNot, tAnd, tOr, tChain, tOp, tUn, tC, tVar, tCons, tNil, tTup, tLst, tAsg, gName, gTup, gCons, gNil, gSub, tDrop, tCallS, tCB, tM1, tM0, tBM, tBM0, tSl, tPar, tFor_eq, tLc_eq, intU_int, intU_bl, iList, iTup, iRng1, iRng2, iStr, tThen, tNever, L2.start, tRaiseFile, tMkFile, tYes, tPart, tNoPart, addU_int, addU_str, addU_ref, subU_int, mulU_int, mulU_ref, fdvU_int, modU_int, powU_int, ltU_int, leU_int, gtU_int, geU_int, eqU_int, eqU_str, eqU_bl, neU_int, neU_str, neU_bl, WE, TruV, List.map, List.length_cons, List.length_nil, List.replicate, List.append, List.getElem?_cons_zero, List.getElem?_cons_succ, List.set_cons_zero, List.set_cons_succ, List.cons_append, List.nil_append, Option.some.injEq, V.int.injEq, V.str.injEq, V.bl.injEq, V.ref.injEq, List.cons.injEq, exists_eq_left, exists_eq_right, and_true, true_and, and_self, exists_eq, exists_const, Bool.not_true, Bool.not_false, Bool.false_eq_true, if_true, if_false, reduceIte, decide_eq_true_eq, bne_iff_ne, exists_eq_left', exists_eq', exists_and_left, Bool.not_eq_true', decide_eq_false_iff_not, Nat.reduceSub, Nat.reduceAdd, reduceCtorEq, false_and, or_false, false_or, exists_false]
          refine ⟨95 + n2, rfl, fun _ d H18 e18 => ⟨true, T.te, fun _ => ?_, fun z => by cases z⟩, fun z => absurd z (by omega)⟩
          try simp only [cx_K, gcx_K, lcx_K, LenV, rLenU, tTruU, kTup, tTupL, ex2eq, not_true_eq_false, not_false_eq_true, LamX.tLam, LamX.TTold, tSeq, tNext, tRet, tRetN, tIfS, tTest, tB, tNot, tAnd, tOr, tChain, tOp, tUn, tC, tVar, tCons, tNil, tTup, tLst, tAsg, gName, gTup, gCons, gNil, gSub, tDrop, tCallS, tCB, tM1, tM0, tBM, tBM0, tSl, tPar, tFor_eq, tLc_eq, intU_int, intU_bl, iList, iTup, iRng1, iRng2, iStr, tThen, tNever, L2.start, tRaiseFile, tMkFile, tYes, tPart, tNoPart, addU_int, addU_str, addU_ref, subU_int, mulU_int, mulU_ref, fdvU_int, modU_int, powU_int, ltU_int, leU_int, gtU_int, geU_int, eqU_int, eqU_str, eqU_bl, neU_int, neU_str, neU_bl, WE, TruV, List.map, List.length_cons, List.length_nil, List.replicate, List.append, List.getElem?_cons_zero, List.getElem?_cons_succ, List.set_cons_zero, List.set_cons_succ, List.cons_append, List.nil_append, Option.some.injEq, V.int.injEq, V.str.injEq, V.bl.injEq, V.ref.injEq, List.cons.injEq, exists_eq_left, exists_eq_right, and_true, true_and, and_self, exists_eq, exists_const, Bool.not_true, Bool.not_false, Bool.false_eq_true, if_true, if_false, reduceIte, decide_eq_true_eq, bne_iff_ne, exists_eq_left', exists_eq', exists_and_left, Bool.not_eq_true', decide_eq_false_iff_not, Nat.reduceSub, Nat.reduceAdd, reduceCtorEq, false_and, or_false, false_or, exists_false]
          have s18 := s17.ex e18
          refine ⟨s18.tb.tl, fun H19 x19 t19 => ?_⟩
          have s19 := s18.lam x19 t19
          refine ⟨0 - 1, rfl, fun _ d H20 e20 => ⟨true, T.te, fun _ => ?_, fun z => by cases z⟩, fun z => absurd z (by omega)⟩
          try simp only [cx_K, gcx_K, lcx_K, LenV, rLenU, tTruU, kTup, tTupL, ex2eq, not_true_eq_false, not_false_eq_true, LamX.tLam, LamX.TTold, tSeq, tNext, tRet, tRetN, tIfS, tTest, tB, tNot, tAnd, tOr, tChain, tOp, tUn, tC, tVar, tCons, tNil, tTup, tLst, tAsg, gName, gTup, gCons, gNil, gSub, tDrop, tCallS, tCB, tM1, tM0, tBM, tBM0, tSl, tPar, tFor_eq, tLc_eq, intU_int, intU_bl, iList, iTup, iRng1, iRng2, iStr, tThen, tNever, L2.start, tRaiseFile, tMkFile, tYes, tPart, tNoPart, addU_int, addU_str, addU_ref, subU_int, mulU_int, mulU_ref, fdvU_int, modU_int, powU_int, ltU_int, leU_int, gtU_int, geU_int, eqU_int, eqU_str, eqU_bl, neU_int, neU_str, neU_bl, WE, TruV, List.map, List.length_cons, List.length_nil, List.replicate, List.append, List.getElem?_cons_zero, List.getElem?_cons_succ, List.set_cons_zero, List.set_cons_succ, List.cons_append, List.nil_append, Option.some.injEq, V.int.injEq, V.str.injEq, V.bl.injEq, V.ref.injEq, List.cons.injEq, exists_eq_left, exists_eq_right, and_true, true_and, and_self, exists_eq, exists_const, Bool.not_true, Bool.not_false, Bool.false_eq_true, if_true, if_false, reduceIte, decide_eq_true_eq, bne_iff_ne, exists_eq_left', exists_eq', exists_and_left, Bool.not_eq_true', decide_eq_false_iff_not, Nat.reduceSub, Nat.reduceAdd, reduceCtorEq, false_and, or_false, false_or, exists_false]
          have s20 := s19.ex e20
          refine roll_ok s20 (by decide) (by decide) fun m H21 m0 m1 e21 s21 => ⟨m, rfl, by omega, by omega, fun D3 hD3 => ?_⟩
          have hDr3 := s21.ne hD3
          refine lcl_range (fun i H' => ∃ bs : List Int, bs.length = i ∧ H' D3 = some (.lst (bs.map V.int)) ∧ SD (TLaw PL) GT r q H') ⟨[], rfl, upd_same, s21.ex (Ex.new hD3)⟩ ?_ ?_
          · rintro i H3 hi ⟨bs, hl, hD3, s3⟩
            simp only [cx_K, gcx_K, lcx_K, LenV, rLenU, tTruU, kTup, tTupL, ex2eq, not_true_eq_false, not_false_eq_true, LamX.tLam, LamX.TTold, tSeq, tNext, tRet, tRetN, tIfS, tTest, tB, tNot, tAnd, tOr, tChain, tOp, tUn, tC, tVar, tCons, tNil, tTup, tLst, tAsg, gName, gTup, gCons, gNil, gSub, tDrop, tCallS, tCB, tM1, tM0, tBM, tBM0, tSl, tPar, tFor_eq, tLc_eq, intU_int, intU_bl, iList, iTup, iRng1, iRng2, iStr, tThen, tNever, L2.start, tRaiseFile, tMkFile, tYes, tPart, tNoPart, addU_int, addU_str, addU_ref, subU_int, mulU_int, mulU_ref, fdvU_int, modU_int, powU_int, ltU_int, leU_int, gtU_int, geU_int, eqU_int, eqU_str, eqU_bl, neU_int, neU_str, neU_bl, WE, TruV, List.map, List.length_cons, List.length_nil, List.replicate, List.append, List.getElem?_cons_zero, List.getElem?_cons_succ, List.set_cons_zero, List.set_cons_succ, List.cons_append, List.nil_append, Option.some.injEq, V.int.injEq, V.str.injEq, V.bl.injEq, V.ref.injEq, List.cons.injEq, exists_eq_left, exists_eq_right, and_true, true_and, and_self, exists_eq, exists_const, Bool.not_true, Bool.not_false, Bool.false_eq_true, if_true, if_false, reduceIte, decide_eq_true_eq, bne_iff_ne, exists_eq_left', exists_eq', exists_and_left, Bool.not_eq_true', decide_eq_false_iff_not, Nat.reduceSub, Nat.reduceAdd, reduceCtorEq, false_and, or_false, false_or, exists_false, wipe]
            refine roll_ok s3 (by decide) (by decide) fun k H4 k0 k1 e4 s4 => ?_
            have hD4 := e4.lst (by simpa using hDr3.1) hD3
            refine ⟨_, hD4, ?_, bs ++ [k], by simp [hl], ?_, s4.put hDr3 hD4⟩
            · rw [List.length_map, hl, sizeLine_eq]; omega
            · rw [upd_same, List.map_append]; rfl
          · rintro H22 ⟨bs, hbl, hD22, s22⟩
            refine ⟨_, lst_at hD22, fun q8 hq8 => ?_⟩
            have s23 := s22.ex (Ex.new (o := .tup (bs.map V.int)) hq8)
            have t8 : upd H22 q8 (.tup (bs.map V.int)) q8 = some (.tup (bs.map V.int)) := upd_same
            generalize upd H22 q8 (.tup (bs.map V.int)) = H23 at s23 t8
            refine ⟨q8, bs, rfl, tup_at t8, fun q9 H24 e24 h24 => ⟨q8, bs, rfl, tup_at (e24.tup (by simp) t8), fun q10 H25 e25 h25 => ?_⟩⟩
            have s25 := (s23.ex e24).ex e25
            have hw : (wsum bs).1 / 256 % 256 = (wsum bs).1 / 256 ∧ (wsum bs).2 / 256 % 256 = (wsum bs).2 / 256 := by
              have b := wsum_bound bs
              omega
            rw [hw.1, hw.2] at h24
            refine ne_tupI (ns := [(wsum bs).2 / 256, (wsum bs).2 % 256, (wsum bs).1 / 256, (wsum bs).1 % 256]) (tup_at (e25.tup (by simp) h24)) (tup_at h25) ?_
            simp only [cx_K, gcx_K, lcx_K, LenV, rLenU, tTruU, kTup, tTupL, ex2eq, not_true_eq_false, not_false_eq_true, LamX.tLam, LamX.TTold, tSeq, tNext, tRet, tRetN, tIfS, tTest, tB, tNot, tAnd, tOr, tChain, tOp, tUn, tC, tVar, tCons, tNil, tTup, tLst, tAsg, gName, gTup, gCons, gNil, gSub, tDrop, tCallS, tCB, tM1, tM0, tBM, tBM0, tSl, tPar, tFor_eq, tLc_eq, intU_int, intU_bl, iList, iTup, iRng1, iRng2, iStr, tThen, tNever, L2.start, tRaiseFile, tMkFile, tYes, tPart, tNoPart, addU_int, addU_str, addU_ref, subU_int, mulU_int, mulU_ref, fdvU_int, modU_int, powU_int, ltU_int, leU_int, gtU_int, geU_int, eqU_int, eqU_str, eqU_bl, neU_int, neU_str, neU_bl, WE, TruV, List.map, List.length_cons, List.length_nil, List.replicate, List.append, List.getElem?_cons_zero, List.getElem?_cons_succ, List.set_cons_zero, List.set_cons_succ, List.cons_append, List.nil_append, Option.some.injEq, V.int.injEq, V.str.injEq, V.bl.injEq, V.ref.injEq, List.cons.injEq, exists_eq_left, exists_eq_right, and_true, true_and, and_self, exists_eq, exists_const, Bool.not_true, Bool.not_false, Bool.false_eq_true, if_true, if_false, reduceIte, decide_eq_true_eq, bne_iff_ne, exists_eq_left', exists_eq', exists_and_left, Bool.not_eq_true', decide_eq_false_iff_not, Nat.reduceSub, Nat.reduceAdd, reduceCtorEq, false_and, or_false, false_or, exists_false]
            refine ⟨s25.tb.tl, fun H26 x26 t26 => ?_⟩
            have s26 := s25.lam x26 t26
            have hlt : (textOf ks).length = ks.length := text_size ks
            refine ⟨?_, ?_⟩
            · rw [hlt, sizeLine_eq]
              show ks.length + 1 ≤ _
              omega
            refine ⟨textOf ks ++ Str.ofString "\t", rfl, s26.tb, by rw [textTab_size]; omega, fun _ d H27 e27 => ⟨true, T.te, fun _ => ?_, fun z => by cases z⟩, fun z => absurd (text_tab ks) (fun ⟨c, hc, hb⟩ => z c hc hb)⟩
            try simp only [cx_K, gcx_K, lcx_K, LenV, rLenU, tTruU, kTup, tTupL, ex2eq, not_true_eq_false, not_false_eq_true, LamX.tLam, LamX.TTold, tSeq, tNext, tRet, tRetN, tIfS, tTest, tB, tNot, tAnd, tOr, tChain, tOp, tUn, tC, tVar, tCons, tNil, tTup, tLst, tAsg, gName, gTup, gCons, gNil, gSub, tDrop, tCallS, tCB, tM1, tM0, tBM, tBM0, tSl, tPar, tFor_eq, tLc_eq, intU_int, intU_bl, iList, iTup, iRng1, iRng2, iStr, tThen, tNever, L2.start, tRaiseFile, tMkFile, tYes, tPart, tNoPart, addU_int, addU_str, addU_ref, subU_int, mulU_int, mulU_ref, fdvU_int, modU_int, powU_int, ltU_int, leU_int, gtU_int, geU_int, eqU_int, eqU_str, eqU_bl, neU_int, neU_str, neU_bl, WE, TruV, List.map, List.length_cons, List.length_nil, List.replicate, List.append, List.getElem?_cons_zero, List.getElem?_cons_succ, List.set_cons_zero, List.set_cons_succ, List.cons_append, List.nil_append, Option.some.injEq, V.int.injEq, V.str.injEq, V.bl.injEq, V.ref.injEq, List.cons.injEq, exists_eq_left, exists_eq_right, and_true, true_and, and_self, exists_eq, exists_const, Bool.not_true, Bool.not_false, Bool.false_eq_true, if_true, if_false, reduceIte, decide_eq_true_eq, bne_iff_ne, exists_eq_left', exists_eq', exists_and_left, Bool.not_eq_true', decide_eq_false_iff_not, Nat.reduceSub, Nat.reduceAdd, reduceCtorEq, false_and, or_false, false_or, exists_false]
            have s27 := s26.ex e27
            refine ⟨s27.tb.tl, fun H28 x28 t28 => ?_⟩
            refine ⟨Str.ofString "", rfl, fun _ d H29 e29 => ⟨true, T.te, fun _ => ?_, fun z => by cases z⟩, fun z => absurd empty_bad z⟩
            try simp only [cx_K, gcx_K, lcx_K, LenV, rLenU, tTruU, kTup, tTupL, ex2eq, not_true_eq_false, not_false_eq_true, LamX.tLam, LamX.TTold, tSeq, tNext, tRet, tRetN, tIfS, tTest, tB, tNot, tAnd, tOr, tChain, tOp, tUn, tC, tVar, tCons, tNil, tTup, tLst, tAsg, gName, gTup, gCons, gNil, gSub, tDrop, tCallS, tCB, tM1, tM0, tBM, tBM0, tSl, tPar, tFor_eq, tLc_eq, intU_int, intU_bl, iList, iTup, iRng1, iRng2, iStr, tThen, tNever, L2.start, tRaiseFile, tMkFile, tYes, tPart, tNoPart, addU_int, addU_str, addU_ref, subU_int, mulU_int, mulU_ref, fdvU_int, modU_int, powU_int, ltU_int, leU_int, gtU_int, geU_int, eqU_int, eqU_str, eqU_bl, neU_int, neU_str, neU_bl, WE, TruV, List.map, List.length_cons, List.length_nil, List.replicate, List.append, List.getElem?_cons_zero, List.getElem?_cons_succ, List.set_cons_zero, List.set_cons_succ, List.cons_append, List.nil_append, Option.some.injEq, V.int.injEq, V.str.injEq, V.bl.injEq, V.ref.injEq, List.cons.injEq, exists_eq_left, exists_eq_right, and_true, true_and, and_self, exists_eq, exists_const, Bool.not_true, Bool.not_false, Bool.false_eq_true, if_true, if_false, reduceIte, decide_eq_true_eq, bne_iff_ne, exists_eq_left', exists_eq', exists_and_left, Bool.not_eq_true', decide_eq_false_iff_not, Nat.reduceSub, Nat.reduceAdd, reduceCtorEq, false_and, or_false, false_or, exists_false]
            first
              | exact (s27.lam x28 t28).ex e29
              | exact ⟨trivial, (s27.lam x28 t28).ex e29⟩
              | exact ⟨fun z => absurd z (by simp), fun _ => ⟨_, _, _, _, _, _, _, _, rfl⟩, (s27.lam x28 t28).ex e29⟩
              | (refine ⟨by simp, by simp, ?_⟩; exact (s27.lam x28 t28).ex e29)
              | (refine ⟨by simp, ?_⟩; exact (s27.lam x28 t28).ex e29)
  · rintro σ H' ⟨_, e1, sd⟩
    obtain ⟨v2, v3, v4, v5, v6, v7, v8, v9, rfl⟩ := e1 rfl
    simp only [cx_K, gcx_K, lcx_K, LenV, rLenU, tTruU, kTup, tTupL, ex2eq, not_true_eq_false, not_false_eq_true, LamX.tLam, LamX.TTold, tSeq, tNext, tRet, tRetN, tIfS, tTest, tB, tNot, tAnd, tOr, tChain, tOp, tUn, tC, tVar, tCons, tNil, tTup, tLst, tAsg, gName, gTup, gCons, gNil, gSub, tDrop, tCallS, tCB, tM1, tM0, tBM, tBM0, tSl, tPar, tFor_eq, tLc_eq, intU_int, intU_bl, iList, iTup, iRng1, iRng2, iStr, tThen, tNever, L2.start, tRaiseFile, tMkFile, tYes, tPart, tNoPart, addU_int, addU_str, addU_ref, subU_int, mulU_int, mulU_ref, fdvU_int, modU_int, powU_int, ltU_int, leU_int, gtU_int, geU_int, eqU_int, eqU_str, eqU_bl, neU_int, neU_str, neU_bl, WE, TruV, List.map, List.length_cons, List.length_nil, List.replicate, List.append, List.getElem?_cons_zero, List.getElem?_cons_succ, List.set_cons_zero, List.set_cons_succ, List.cons_append, List.nil_append, Option.some.injEq, V.int.injEq, V.str.injEq, V.bl.injEq, V.ref.injEq, List.cons.injEq, exists_eq_left, exists_eq_right, and_true, true_and, and_self, exists_eq, exists_const, Bool.not_true, Bool.not_false, Bool.false_eq_true, if_true, if_false, reduceIte, decide_eq_true_eq, bne_iff_ne, exists_eq_left', exists_eq', exists_and_left, Bool.not_eq_true', decide_eq_false_iff_not, Nat.reduceSub, Nat.reduceAdd, reduceCtorEq, false_and, or_false, false_or, exists_false]
    exact ⟨95, ⟨by rw [lits_len]; exact sz 95, lits_len.symm⟩, by simpa using h H' sd.tb.tg⟩
end
end KA
set_option Elab.async false
set_option linter.all false
set_option maxRecDepth 100000
set_option maxHeartbeats 0
namespace KA
open PySem PySem.Spec PyProof.Rows L2 GX
/-! ### the head -/
def names : List (Str × Nat) := [("letter_number", 5), ("letter_at", 6), ("numbers_of", 7), ("text_of", 8), ("check_text", 9), ("pair", 10), ("number_of_pair", 11), ("word_sum", 12), ("_law_dice", 14), ("_law_roll", 15), ("_law_rounds", 16), ("_law_told", 17), ("_law_letters", 18), ("_law_sum", 19), ("law", 20)]
def fn : List He.DefD := names.map fun p => dd p.1 (top p.2)
def fa : List He.Fa := (names.map fun p => He.Fa.glo p.1) ++ [.glo "FileError", .str "LETTERS" lits, .free "super", .free "len", .free "tuple", .free "range", .free "abs", .free "int"]
def tf : List He.Defn := [("numbers_of", none), ("law", none)]
abbrev R : PySem.W.OpenRow := PySem.W.OpenLaw.row PySem.Challenge.rw_hoststack_k01_texts_as_numbers
def ini : Stmt := inClass (top 2) 0
abbrev exF : PySem.W.Frag → Bool := fun K => fileB R.prog.main.file K && decide ((He.cT K ("numbers_of", none)).2 ≠ (He.cT K ("law", none)).2)
abbrev hk : PySem.W.Hook := hookF 6 fa fn tf exF (iniV ini)
def ob (s : PySem.W.SharedT) : AlF := obsF 6 fa fn tf exF (HandSHeadRun.getT s)
theorem ob_eq (s : PySem.W.SharedT) : ob s = hk.obs s.abs := obsF_eq (HandSHeadRun.getT_eq s)
def loose : List Str := ["HostError", "FileError", "LETTERS", "letter_number", "letter_at", "numbers_of", "text_of", "check_text", "pair", "number_of_pair", "word_sum", "_law_dice", "_law_roll", "_law_rounds", "_law_told", "_law_letters", "_law_sum"]
theorem run (w : World) : HandSHeadRun.RunEq R (PySem.W.view R.prog [20]) hk ob 3000 loose w := by
  intro os
  kernel_rfl
end KA
set_option Elab.async false
set_option linter.all false
set_option maxRecDepth 100000
set_option maxHeartbeats 0
namespace KA
open PySem PySem.Spec PyProof.Rows L2 GX
section
variable {P : Program} {w : World} {K : PySem.W.Frag} {h : Heap} {mg : Str → Option Value}
theorem mem_fn {x : Str} {i : Nat} (hm : (x, i) ∈ names) : dd x (top i) ∈ fn := List.mem_map.mpr ⟨(x, i), hm, rfl⟩
theorem mem_fa {x : Str} {i : Nat} (hm : (x, i) ∈ names) : He.Fa.glo x ∈ fa := List.mem_append_left _ (List.mem_map.mpr ⟨(x, i), hm, rfl⟩)
theorem mem_fb {f : He.Fa} (hm : f ∈ ([.glo "FileError", .str "LETTERS" lits, .free "super", .free "len", .free "tuple", .free "range", .free "abs", .free "int"] : List He.Fa)) : f ∈ fa := List.mem_append_right _ hm
theorem sql_toE {GT : List Addr} {H : Hp} {a : Addr} {xs : List V} (hT : ∀ p ∈ GT, ∃ ps, H p = some (.tbl ps)) (h : SqL K H a xs) : SqL K (toE GT H) a xs := by
  rcases h with (h | ⟨o, h⟩) | h
  · have na : a ∉ GT := fun z => by obtain ⟨ps, q⟩ := hT a z; rw [h] at q; cases q
    exact .inl (.inl (by rw [toE_out na]; exact h))
  · have na : a ∉ GT := fun z => by obtain ⟨ps, q⟩ := hT a z; rw [h] at q; cases q
    exact .inl (.inr ⟨o, by rw [toE_out na]; exact h⟩)
  · exact .inr h
theorem law_at (X : K.In h) (G : h.Ns mainGlobals mg) (c : SaysF fa fn tf exF (iniV ini) w h K) {f : Addr} (hfa : mg ("law" : Str) = some (.ref f)) :
    LamX.LawAtS PySem.Challenge.rw_hoststack_k01_texts_as_numbers w K (L2.CX R.prog w) 21 63 "script" mg f h := by
  have D : ∀ {x : Str} {i : Nat}, (x, i) ∈ names → ∃ fd cd, Def K mg x (top i) (He.ga K x) fd cd ∧ cd = (He.cT K (x, none)).1 := fun hm => says_def c X G (mem_fn hm) (mem_fa hm)
  have Fr : ∀ {x : Str}, He.Fa.free x ∈ ([.glo "FileError", .str "LETTERS" lits, .free "super", .free "len", .free "tuple", .free "range", .free "abs", .free "int"] : List He.Fa) → mg x = none := fun hm => He.free_ok X G (c.x.t.d.facts (mem_fb hm))
  have gC : mg "FileError" = some (.ref (iniC K)) := He.glo_ok X G (c.x.t.d.facts (mem_fb (f := .glo "FileError") (by simp)))
  obtain ⟨F, ns, te⟩ := file_ok (P := R.prog) (st := ini) (p1 := ⟨6, 17, 6, 21⟩) (p2 := ⟨6, 23, 6, 27⟩) (q0 := ⟨7, 8, 7, 13⟩) (q1 := ⟨7, 8, 7, 15⟩) (q2 := ⟨7, 8, 7, 24⟩) (q3 := ⟨7, 25, 7, 29⟩) (q4 := ⟨7, 8, 7, 30⟩) (q5 := ⟨7, 8, 7, 30⟩) (q6 := ⟨8, 8, 8, 12⟩) (q7 := ⟨8, 8, 8, 17⟩) (q8 := ⟨8, 20, 8, 24⟩) (q9 := ⟨8, 8, 8, 24⟩)
    (He.ba c.x.more).1 c.i gC (Fr (x := "super") (by simp)) (by decide +kernel) (by rfl) (by rfl) (by rfl) rfl
  have Dx : ∀ {x : Str} {i : Nat}, (x, i) ∈ names → ∃ f fd cd, Def K mg x (top i) f fd cd := fun hm => let ⟨fd, cd, d, _⟩ := D hm; ⟨_, fd, cd, d⟩
  obtain ⟨fdL, cdL, DL, eL⟩ := D (x := "law") (i := 20) (by simp [names])
  obtain ⟨fdN, cdN, DN, eN⟩ := D (x := "numbers_of") (i := 7) (by simp [names])
  have efa := hfa.symm.trans DL.gm
  cases efa
  obtain ⟨cO, hbind⟩ : True ∧ ∀ us : List Value, us.length = 1 → bindArgs fdL ⟨us, []⟩ = pure ((["script"] : List Str).zip us) := by
    obtain ⟨oc, od, kV, doc, pm, an, ct, osl, rfl, lk, hcd⟩ := DL.ex
    exact ⟨trivial, fun us hl => match us, hl with | [_], _ => rfl⟩
  obtain ⟨tt, et⟩ : ∃ ts : List (Addr × Addr), ts = tf.map (He.cT K) := ⟨_, rfl⟩
  have hme : ∀ p ∈ tt, ∃ q ∈ tf, p = He.cT K q := fun p hp => by
    rw [et] at hp
    obtain ⟨q, hq, e⟩ := List.mem_map.mp hp
    exact ⟨q, hq, e.symm⟩
  refine ⟨fdL, tt, spTabs [(He.cT K ("numbers_of", none)).2] (spLaw K (TLaw (He.cT K ("law", none)).2) [(He.cT K ("numbers_of", none)).2]), fun p hp => ?_, fun p hp => ?_, fun p hp => ?_, fun s u => .of_eq (hbind [u] rfl), ?_, ?_⟩
  · obtain ⟨q, hq, rfl⟩ := hme p hp
    exact c.x.empty q hq
  · obtain ⟨q, hq, rfl⟩ := hme p hp
    exact c.x.out q hq
  · obtain ⟨q, hq, rfl⟩ := hme p hp
    exact PySem.W.codeHd_of_K X (c.x.hd q hq)
  · intro H a zs hl hb hT hS
    have hN : H (He.cT K ("numbers_of", none)).2 = some (.tbl #[]) := hT (He.cT K ("numbers_of", none)) (by rw [et]; exact List.mem_map.mpr ⟨_, by simp [tf], rfl⟩)
    have hL : H (He.cT K ("law", none)).2 = some (.tbl #[]) := hT (He.cT K ("law", none)) (by rw [et]; exact List.mem_map.mpr ⟨_, by simp [tf], rfl⟩)
    have hne : (He.cT K ("numbers_of", none)).2 ≠ (He.cT K ("law", none)).2 := of_decide_eq_true (He.ba c.x.more).2
    refine ⟨fun p hp => by rw [List.mem_singleton.mp hp]; exact hN, fun v => v = .bl true, fun v H' h => h, a, zs, rfl, ?_, ⟨?_, fun p hp => toE_in hp⟩, fun H' h => ⟨rfl, h⟩⟩
    · exact sql_toE (fun p hp => ⟨#[], by rw [List.mem_singleton.mp hp]; exact hN⟩) hS
    · refine tabs_empty fun p hp => ?_
      rw [List.mem_singleton.mp hp]
      show toE _ H (He.cT K ("law", none)).2 = _
      rw [toE_out (by simpa using Ne.symm hne)]
      exact hL
  · intro base hK hG hTB
    have tN := hTB (He.cT K ("numbers_of", none)) (by rw [et]; exact List.mem_map.mpr ⟨_, by simp [tf], rfl⟩)
    have tL := hTB (He.cT K ("law", none)) (by rw [et]; exact List.mem_map.mpr ⟨_, by simp [tf], rfl⟩)
    rw [← eN] at tN
    rw [← eL] at tL
    have T : KA.Txt R.prog w K mg base (TLaw (He.cT K ("law", none)).2) [(He.cT K ("numbers_of", none)).2] (iniC K) (iniF K) :=
      { file := F, te := te, nostop := ns, g_LETTERS := by
          obtain ⟨t, q⟩ := He.str_ok X G (c.x.t.d.facts (mem_fb (f := .str "LETTERS" lits) (by simp)))
          exact ⟨_, q, ⟨t, rfl⟩⟩
        n_len := Fr (by simp), n_tuple := Fr (by simp), n_range := Fr (by simp), n_abs := Fr (by simp), n_int := Fr (by simp)
        d_letter_number := Dx (by simp [names]), d_letter_at := Dx (by simp [names])
        d_numbers_of := ⟨_, fdN, cdN, _, DN, ⟨tN.code, tN.bm, tN.gP⟩, by simp⟩
        d_text_of := Dx (by simp [names]), d_check_text := Dx (by simp [names]), d_pair := Dx (by simp [names]), d_number_of_pair := Dx (by simp [names]), d_word_sum := Dx (by simp [names])
        d_law_dice := Dx (by simp [names]), d_law_roll := Dx (by simp [names]), d_law_rounds := Dx (by simp [names]), d_law_letters := Dx (by simp [names]), d_law_sum := Dx (by simp [names]) }
    obtain ⟨fT, fdT, cT, DT⟩ := Dx (x := "_law_told") (i := 17) (by simp [names])
    have told : Told K mg "_law_told" "what" "FileError" "FileError" (iniC K) :=
      { ex := ⟨fT, cT, fdT, top 17, ["what"], _, _, _, _, _, _, _, _, DT, rfl, ⟨rfl, rfl, rfl, by decide +kernel, rfl, by decide +kernel, by decide +kernel⟩, rfl, Or.inl rfl, rfl, fun _ => rfl, fun _ _ _ _ _ _ us hl => match us, hl with | [_], _ => rfl⟩
        me := gC, de := rfl, da := rfl, dx := rfl, dc := rfl }
    exact fn_tabs (c_law T told DL tL).1
end
end KA
open PySem PySem.W PySem.Calls PyProof.Rows
theorem PySem.Challenge.cw_hoststack_k01_texts_as_numbers_holds : PySem.Challenge.rw_hoststack_k01_texts_as_numbers.Holds := by
  w_on; o_law
  refine HandSHeadRun.head_any (r := OpenLaw.row PySem.Challenge.rw_hoststack_k01_texts_as_numbers) (q := view (OpenLaw.row PySem.Challenge.rw_hoststack_k01_texts_as_numbers).prog [20]) (H := KA.hk) (ob := KA.ob) (M := 3000) (loose := KA.loose) (d := HandSHeadRun.topDef (OpenLaw.row PySem.Challenge.rw_hoststack_k01_texts_as_numbers).prog 20) (kwd := []) KA.ob_eq
    (by kernel_rfl) (fun s => by kernel_rfl) KA.run (by kernel_rfl) (by kernel_rfl) (by kernel_rfl) (by rfl) (by first | assumption | decide +kernel) (by decide +kernel) ⟨rfl, rfl, rfl, rfl, rfl, by decide +kernel⟩ ?hw ?hc
  case hw => w_witness2
  case hc =>
    refine LamX.walk_ofTsE (l := PySem.Challenge.rw_hoststack_k01_texts_as_numbers) (n := 63) (k := 21) (x := "script") (CX := fun w => L2.CX KA.R.prog w) rfl (by decide) (by kernel_rfl) ⟨rfl, by decide, by decide⟩ ?F (fun w H s e s' z => by obtain ⟨_, _, _, _, _, _, _, _, _, _, _, _, z⟩ := z; exact z)
    intro w mg fa h Y G hmg0
    obtain ⟨K, KX, c⟩ := Y
    have hmg : mg ("law" : PySem.Str) = some (.ref fa) := by
      have e : (HandSHeadRun.topDef (OpenLaw.row PySem.Challenge.rw_hoststack_k01_texts_as_numbers).prog 20).name = ("law" : PySem.Str) := by kernel_rfl
      rw [← e]
      exact hmg0
    exact ⟨K, KX, KA.law_at KX G c hmg⟩
