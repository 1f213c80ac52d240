import PyProof.Rows.All
import Wide.All
import OpenK.AllK
import Wide.FinOn
import HandS.ForMost
import HandS.GenList
import HandS.AnyAll
import PyProof.TupleOfGen
import PyProof.WalkInts
import HandS.Wide
import HandS.Flt
import HandS.Walk
import HandS.WordsExc
import HandS.Defaults
import HandS.HeadHook4
import HandS.Lambda
import HandS.ExcOwn
import HandS.TupAny
import PyProof.NeKinds
import HandS.Iter
import PyProof.EqKinds
import HandS.More
import KE.DataMinMax
import KE.KStateDown
import Lean
import HandS.Base
import HandS.Call
import HandS.Ends
import HandS.Words
import HandS.EndTab
import HandS.Head0
import HandS.Head1
import HandS.Head2
import HandS.HeadEnd
import HandS.HeadHook1
import HandS.HeadHook2
import HandS.HeadHook3
import HandS.HeadWalk
import KE.KNestM
import PySem.Challenge.RW_kilnstack_k01_clays_that_shrink
set_option Elab.async false
set_option linter.all false
set_option maxRecDepth 100000
set_option maxHeartbeats 4000000
/-! A generator expression handed to any, sum, max, min, tuple, sorted: its elements are walked by the layer's own rules, in the generator's frame. -/
namespace GX
open PySem PySem.Spec PyProof.Rows L2 GenW

/-! ### 1. the generator's names and its context -/
/-- own: the targets with their places in N; all other names are captured or global -/
structure GSc (N : List Str) (sc scope : Scope) (own : List (Str × Nat)) : Prop where
  kind : scope.kind = .function
  co : scope.isCoroutine = false
  dot : scope.names.lookup (".0" : Str) = some NameKind.local
  cell : ∀ y ∈ scope.names, y.2 ≠ .cell
  uniq : ∀ y ∈ scope.names, scope.names.lookup y.1 = some y.2
  ix : ∀ p ∈ own, N[p.2]? = some p.1
  free : ∀ y ∈ scope.names, y.2 = .free → sc.names.lookup y.1 = some .cell ∨ sc.names.lookup y.1 = some .free
  own : ∀ y ∈ scope.names, y.2 = .local → y.1 ∈ own.map (·.1) ∨ y.1 ∉ N
def gscB (N : List Str) (sc scope : Scope) (own : List (Str × Nat)) : Bool :=
  decide (scope.kind = .function) && !scope.isCoroutine && decide (scope.names.lookup (".0" : Str) = some NameKind.local) && (scope.names.all fun y => decide (y.2 ≠ .cell) && decide (scope.names.lookup y.1 = some y.2)
    && (!decide (y.2 = .free) || decide (sc.names.lookup y.1 = some .cell) || decide (sc.names.lookup y.1 = some .free)) && (!decide (y.2 = .local) || decide (y.1 ∈ own.map (·.1)) || decide (y.1 ∉ N))) && (own.all fun p => decide (N[p.2]? = some p.1))
theorem gsc_by {N : List Str} {sc scope : Scope} {own : List (Str × Nat)} (h : gscB N sc scope own = true) : GSc N sc scope own := by
  unfold gscB at h
  simp only [Bool.and_eq_true, Bool.or_eq_true, Bool.not_eq_true', decide_eq_true_eq, decide_eq_false_iff_not, List.all_eq_true] at h
  obtain ⟨⟨⟨⟨h1, h2⟩, h3⟩, h4⟩, h5⟩ := h
  refine ⟨h1, h2, h3, fun y hy => (h4 y hy).1.1.1, fun y hy => (h4 y hy).1.1.2, h5, fun y hy e => ?_, fun y hy e => ?_⟩
  · rcases (h4 y hy).1.2 with (z | z) | z
    · exact absurd e z
    · exact .inl z
    · exact .inr z
  · rcases (h4 y hy).2 with (z | z) | z
    · exact absurd e z
    · exact .inl z
    · exact .inr z
abbrev gEnv (X : Cx) (scope : Scope) (C : Addr) (code : Value) : Env := genEnv scope (cloFrom X.env.cells scope.names []) C code builtinsNs X.env
/-- the context of the generator's frame, woken under A; s, H: the state ahead of the frame -/
abbrev gctx (X : Cx) (A : Around) (s : Shared) (H : Hp) (cenv : Env) (fp : List Addr) (pn : List (Addr × Obj)) : Cx :=
  { X with A := A.deeper cenv, s_0 := s, H_0 := H, env := cenv, outer := X.stack, stack := cenv :: X.stack, ex := fp, fn := fun _ => false, calm := true, pn := pn, xe := fun _ _ => False }

theorem free_has {X : Cx} {scope : Scope} {own : List (Str × Nat)} (G : GSc X.N X.env.scope scope own) (ok : X.Ok) : ∀ y ∈ scope.names, y.2 = .free → ∃ c, X.env.cells.lookup y.1 = some c := fun y hy e => by
  rcases G.free y hy e with k | k
  · exact ok.has _ (.inl k)
  · exact ok.has _ (.inr k)

theorem gen_start {X : Cx} {pins ip pn : List (Addr × Obj)} {σ : L2.St} {H : Hp} {s s2 : Shared} {scope : Scope} {own : List (Str × Nat)} {fp : List Addr} {code it : Value} {A : Around}
    (I : Inv X pins σ H s) (G : GSc X.N X.env.scope scope own) (hN : X.N.Nodup) (hfp : ∀ b ∈ fp, FpOk X pins H b ∧ b < s.heap.objs.size) (hd : A.handled = none) (hfr : A.frames = some X.stack)
    (hos : s2.os = s.os) (hb : AllBare s2.gens) (kp : ∀ b o, s.heap.get? b = some o → s2.heap.get? b = some o) (hns : s2.heap.Ns s.heap.objs.size fun y => if y = ".0" then some it else none)
    (hp : ∀ p ∈ pn ++ ip, s2.heap.get? p.1 = some p.2 ∧ s.heap.objs.size < p.1 ∧ ∀ v, p.2.data ≠ .cell v) :
    Inv (gctx X A s H (gEnv X scope s.heap.objs.size code) fp pn) ip (wipe σ (own.map (·.2))) H s2 := by
  have hfree := free_has G I.ok
  have cm : ∀ {y c}, (cloFrom X.env.cells scope.names []).lookup y = some c → X.env.cells.lookup y = some c := fun {y c} e => by
    rcases cloFrom_mem (PySem.mem_of_lookup e) with hm | ⟨h1, h2⟩
    · cases hm
    · obtain ⟨c1, hc⟩ := hfree _ h1 rfl
      have hc : X.env.cells.lookup y = some c1 := hc
      have e2 : c = c1 := by
        rw [h2, hc] <;> rfl
      rw [e2]
      exact hc
  have look : ∀ {y}, scope.names.lookup y = some .free → ∃ c, (cloFrom X.env.cells scope.names []).lookup y = some c := fun {y} hl =>
    mem_lookup (cloFrom_has (cells := X.env.cells) (acc := []) (PySem.mem_of_lookup hl))
  have stk : ∀ b ∈ fp, b ∉ frs X.stack := fun b hb z => by
    rcases List.mem_cons.mp (I.stkSub b z) with z | z
    · exact (hfp b hb).1.2.1 z
    · exact (hfp b hb).1.2.2.1 z
  have okG : (gctx X A s H (gEnv X scope s.heap.objs.size code) fp pn).Ok := by
    refine ⟨I.ok.mod, G.kind, I.ok.glob, rfl, Nat.le_refl _, fun y z c e1 e2 => I.ok.inj y z c (cm e1) (cm e2), fun y hy => ?_, fun y c z _ => ?_, fun _ => hd, Around.frames_deeper hfr, .inr ⟨rfl, rfl⟩,
      fun b hb => ⟨Nat.ne_of_lt (hfp b hb).2, fun y c e => (hfp b hb).1.2.2.2.2.1 y c (cm e)⟩, I.bs, Nat.le_trans I.ok.bsz I.sz, fun b o e hb => ?_, stk, I.stack, I.stkFree⟩
    · have hy : scope.names.lookup y = some .cell ∨ scope.names.lookup y = some .free := hy
      rcases hy with hy | hy
      · exact absurd rfl (G.cell _ (PySem.mem_of_lookup hy))
      · exact look hy
    · have z : false = true := z
      cases z
    · rcases (hfp b hb).1.2.2.2.1 with z | z
      · exact I.ok.noex b o e z
      · exact absurd (Nat.lt_of_lt_of_le (Heap.lt_size e) (Nat.le_trans I.ok.bsz z)) (Nat.lt_irrefl _)
  refine ⟨okG, hos, hb, Un.kept kp, ⟨_, hns, fun i y av e1 e2 e3 => ?_⟩, fun y c e => ?_, I.hok.fresh (Nat.le_refl _), fun y c e => I.freeC y c (cm e), fun p hq => ?_, I.hok.kept kp, by rw [wipe_length]; exact I.len⟩
  · obtain ⟨e2, hne⟩ := wipe_some e2
    have e1 : X.N[i]? = some y := e1
    have e3 : Vis scope y := e3
    rcases e3 with k | k | k
    · rcases G.own _ (PySem.mem_of_lookup k) rfl with e' | e'
      · obtain ⟨p, hp', hpy⟩ := List.mem_map.mp e'
        have e4 := G.ix p hp'
        have : p.1 = y := hpy
        rw [this] at e4
        exact absurd (List.mem_map.mpr ⟨p, hp', nodup_ix hN e4 e1⟩) hne
      · exact absurd (List.mem_of_getElem? e1) e'
    · exact absurd rfl (G.cell _ (PySem.mem_of_lookup k))
    · obtain ⟨m, hn, hl⟩ := I.loc
      have hvis : Vis X.env.scope y := (G.free _ (PySem.mem_of_lookup k) rfl).elim (fun k => .inr (.inl k)) (fun k => .inr (.inr k))
      obtain ⟨u, r, q⟩ := hl i y av e1 e2 hvis
      obtain ⟨c2, h2⟩ := look k
      refine ⟨u, r, .inr ⟨.inr k, c2, h2, ?_⟩⟩
      have c1 := cm h2
      rcases q with ⟨k', _⟩ | ⟨_, c3, e', z⟩
      · have k' : X.env.scope.names.lookup y = some .local := k'
        rcases G.free _ (PySem.mem_of_lookup k) rfl with k2 | k2 <;> rw [show X.env.scope.names.lookup y = _ from k2] at k' <;> cases k'
      · rw [c1] at e'
        cases e'
        exact z.keeps kp
  · obtain ⟨u, z⟩ := I.cell y c (cm e)
    exact ⟨u, z.keeps kp⟩
  · obtain ⟨h1, h2, h3⟩ := hp p hq
    exact ⟨h1, I.hok.fresh (Nat.le_of_lt h2), Nat.ne_of_gt h2, fun z => I.nofs (Nat.le_of_lt h2) (by
      rcases List.mem_cons.mp (I.stkSub p.1 z) with e | e
      · have h4 := I.lt
        rw [← e] at h4
        exact absurd (Nat.lt_trans h4 h2) (Nat.lt_irrefl _)
      · exact e), h3⟩

/-! ### 2. while it sleeps -/
/-- the consumer's own object at S is written, so that Φ holds of it; all else is kept -/
structure Sl (S : Addr) (Φ : Obj → Prop) (s s' : Shared) : Prop where
  os : s'.os = s.os
  bare : AllBare s'.gens
  keep : ∀ b o, b ≠ S → s.heap.get? b = some o → s'.heap.get? b = some o
  own : ∃ o, s'.heap.get? S = some o ∧ Φ o ∧ ∀ v, o.data ≠ .cell v
theorem inv_slept {X : Cx} {S : Addr} {o : Obj} {ip : List (Addr × Obj)} {σ : L2.St} {H : Hp} {s s' : Shared} {Φ : Obj → Prop} (I : Inv X ((S, o) :: ip) σ H s) (hA : X.s_0.heap.objs.size ≤ S) (hc : ∀ x c, X.env.cells.lookup x = some c → c ≠ S)
    (hip : ∀ p ∈ ip, p.1 ≠ S) (hpn : (∀ p ∈ X.pn, p.1 ≠ S) ∨ ∀ o', Φ o' → o' = o) (z : Sl S Φ s s') : ∃ o', Φ o' ∧ Inv X ((S, o') :: ip) σ H s' := by
  obtain ⟨o', e', hΦ, hcell⟩ := z.own
  refine ⟨o', hΦ, ?_⟩
  obtain ⟨eS, hS0, hSL, hSf, _⟩ := I.pin (S, o) (List.mem_append_right _ List.mem_cons_self)
  have nt : ∀ b u, H b = some u → b ≠ S := fun b u q hb => by rw [hb, hS0] at q; cases q
  rcases hpn with hpn | hpn
  · have I0 : Inv X ip σ H s := I.pins_of fun p hp => I.pin p (List.mem_append_right _ (List.mem_cons_of_mem _ hp))
    have nc : ∀ b, b ∉ [S] → b ≠ S := fun b hb e => hb (by rw [e]; exact List.mem_singleton.mpr rfl)
    have hok : HOk X.prog X.w H s'.heap := fun b u q => (I0.hok b u q).stay (fun c v hc y => z.keep c v (by
      rcases hc with y | y
      · rw [y]; exact nt b u q
      · exact nt c _ y) y) (fun _ y => y) fun _ _ y => y
    have J : Inv X ip σ H s' := by
      refine I0.call' (ch := [S]) z.os ⟨fun b ob q n _ hx => z.keep b ob (nc b hx) q, fun b ob q n _ hx => ⟨ob.slots, z.keep b ob (nc b hx) q⟩, fun _ _ _ n _ => n, fun b ob q hx => ⟨ob, z.keep b ob (nc b hx) q⟩, fun _ _ q => q, fun _ _ _ q => q, fun _ ps q => ⟨#[], by rw [q]; simp⟩⟩ hok z.bare fun b hb => ?_
      rw [List.mem_singleton.mp hb]
      refine ⟨.inr hA, hSL, hc, fun p hp => ?_⟩
      rcases List.mem_append.mp hp with hp | hp
      · exact hpn p hp
      · exact hip p hp
    refine J.pins_of fun p hp => ?_
    rcases List.mem_cons.mp hp with hp | hp
    · rw [hp]
      exact ⟨e', hS0, hSL, hSf, hcell⟩
    · exact J.pin p (List.mem_append_right _ hp)
  · have eo := hpn o' hΦ
    have kp : ∀ b u, s.heap.get? b = some u → s'.heap.get? b = some u := fun b u q => by
      by_cases hb : b = S
      · rw [hb] at q ⊢
        rw [eS] at q
        cases q
        rw [e', eo]
      · exact z.keep b u hb q
    rw [eo]
    exact I.call' (ch := []) z.os (Un.kept kp) (I.hok.kept kp) z.bare fun b hb => by simp at hb

/-! ### 3. the protocol -/
section
variable (P : Program) (w : World) (fs fp : List Addr) (H : Hp) (s₄ : Shared) (S a : Addr) (g : Nat) (Lk : List V → Obj → Prop)
/-- an item is handed out: ys were out before, x is this one -/
def YG (mid : List V → V → Hp → Prop) : Protocol := fun n s₀ v s1 kap =>
  ∃ ys x H' o, s₀.heap.get? S = some o ∧ n + 1 + ys.length = sizeLine ∧ s1.os = s₄.os ∧ AllBare s1.gens ∧ s1.heap.NoLimit ∧ s1.heap.IsGen a g ∧ Un fs fp H H' s₄.heap s1.heap ∧ HOk P w H' s1.heap ∧ H' S = none ∧ s1.heap.get? S = some o ∧ Lk ys o ∧ RelV x v ∧ mid ys x H' ∧
    ∀ s', Sl S (Lk (ys ++ [x])) s1 s' → kap (.send .none) s'
/-- the end -/
def FG (fin : List V → Hp → Prop) (s₀ s1 : Shared) : Prop :=
  ∃ ys H' o, s₀.heap.get? S = some o ∧ ys.length ≤ sizeLine ∧ s1.os = s₄.os ∧ AllBare s1.gens ∧ s1.heap.IsGen a g ∧ Un fs fp H H' s₄.heap s1.heap ∧ HOk P w H' s1.heap ∧ H' S = none ∧ s1.heap.get? S = some o ∧ Lk ys o ∧ fin ys H'
def RG (fin : List V → Hp → Prop) : GenEnd := fun _ s₀ r s1 =>
  ((r = .ok (.ret .none) ∨ r = .ok .next) ∧ FG P w fs fp H s₄ S a g Lk fin s₀ s1) ∨ ∃ e, r = .error e ∧ False
end
/-- the generator's own object -/
structure GenO (go : Obj) (g : Nat) : Prop where
  cls : go.cls = .type "generator"
  data : ∃ nm qn, go.data = .fields #[.int g 0, nm, qn]
  slots : go.slots = #[]
theorem GenO.is {go : Obj} {g : Nat} (h : GenO go g) {a : Addr} {hp : Heap} (e : hp.get? a = some go) : hp.IsGen a g := by
  obtain ⟨nm, qn, q⟩ := h.data
  exact ⟨go, nm, qn, e, h.cls, q, h.slots⟩
theorem GenO.cell {go : Obj} {g : Nat} (h : GenO go g) : ∀ v, go.data ≠ .cell v := fun v q => by
  obtain ⟨nm, qn, e⟩ := h.data
  rw [e] at q
  cases q
theorem over_loop {A : Around} {elt target iter : Expr} {ifs : List Expr} {scope : Scope} {pos : Pos} {it acc : Value} {env : Env} :
    A.over (.compLoop (.GeneratorExp elt [⟨target, iter, ifs, 0⟩] scope pos) 0 it acc env) [] = A.deeper env := by
  first
    | rfl
    | (obtain ⟨hd, d, fr, gs, u⟩ := A; simp [Around.over, Around.deeper, marksOver, frameCount, unitsOf, envsOf, guardsOf, pushEnvs, pushGuards, Code.envs, Code.env?, Code.isFrame, Code.guards, Code.isGuard, Code.weight, Code.frames, Code.isCreation, Code.isCaller, Code.cUnits])
theorem over_start {A : Around} {elt target iter : Expr} {ifs : List Expr} {scope : Scope} {pos : Pos} {it acc : Value} {env : Env} :
    A.over (.compStart (.GeneratorExp elt [⟨target, iter, ifs, 0⟩] scope pos) 0 it acc env) [] = A.deeper env := by
  first
    | rfl
    | (obtain ⟨hd, d, fr, gs, u⟩ := A; simp [Around.over, Around.deeper, marksOver, frameCount, unitsOf, envsOf, guardsOf, pushEnvs, pushGuards, Code.envs, Code.env?, Code.isFrame, Code.guards, Code.isGuard, Code.weight, Code.frames, Code.isCreation, Code.isCaller, Code.cUnits])
end GX

set_option Elab.async false
set_option linter.all false
set_option maxRecDepth 100000
set_option maxHeartbeats 4000000
namespace GX
open PySem PySem.Spec PyProof.Rows L2 GenW

/-- the turns of a generator expression: W by the turn, a measure, what is out, the heap; mid is asked at each item that goes out, fin at the end -/
def tTurns (J : It) (g : TG) (tt : TT) (te : TE) (vs : List Nat) (σ : L2.St) (mid : List V → V → Hp → Prop) (fin : List V → Hp → Prop) (W : Nat → Nat → List V → Hp → Prop) : Prop := ∀ i m ys H, W i m ys H →
  (J.stop i H ∧ fin ys H) ∨ (J.go i H ∧ ∃ Nx : List V → Hp → Prop, (∀ ys' H', Nx ys' H' → ∃ m', m' < m ∧ W (i + 1) m' ys' H') ∧ ∀ x H', J.yld i H x H' → g x (wipe σ vs) H' fun σ2 H2 => wipe σ2 vs = wipe σ vs ∧ tt σ2 H2 fun b H3 =>
    if b = true then te σ2 H3 fun y H4 => ys.length < sizeLine ∧ mid ys y H4 ∧ Nx (ys ++ [y]) H4 else Nx ys H3)

section
variable {Z : Cx} {A : Around} {S a : Addr} {gi : Nat} {go : Obj} {Lk : List V → Obj → Prop} {mid : List V → V → Hp → Prop} {fin : List V → Hp → Prop} {J : It} {it : Addr} {tn : Nat → Heap → Prop} {W : Nat → Nat → List V → Hp → Prop}
  {elt tg iter : Expr} {ifs : List Expr} {scope : Scope} {pos : Pos} {g : TG} {tt : TT} {te : TE} {vs : List Nat} {σ : L2.St}

theorem stat {pins : List (Addr × Obj)} {σ' : L2.St} {H' : Hp} {s' : Shared} (hp : ∀ p ∈ Z.pn ++ pins, ∀ b ∈ Z.ex, p.1 ≠ b) (I : Inv Z pins σ' H' s') (hn : ∀ b ∈ Z.ex, H' b = none) : ∀ b ∈ Z.ex, FpOk Z pins H' b := fun b hb =>
  ⟨hn b hb, (I.ok.exf b hb).1, I.ok.exfs b hb, .inl hb, fun x c e => (I.ok.exf b hb).2 x c e, fun p q => hp p q b hb⟩

theorem seg_gloop (hA : Z.A = A.deeper Z.env) (hx : ∀ e s, ¬ Z.xe e s) (hc : Z.calm = true) (hpn : Z.pn = [(a, go)]) (hgo : GenO go gi) (hco : Z.env.scope.isCoroutine = false)
    (hS : Z.s_0.heap.objs.size ≤ S) (hcS : ∀ x c, Z.env.cells.lookup x = some c → c ≠ S) (hfS : ∀ b ∈ Z.ex, b ≠ S) (hfa : ∀ b ∈ Z.ex, b ≠ a) (hLa : S = a → ∀ ys o, Lk ys o → o = go)
    (T : Turn Z.prog Z.w Z.K tg J Z.ex it tn) (pg : PG Z tg g) (pt : PTs Z ifs tt) (pe : PE Z elt te) (turn : tTurns J g tt te vs σ mid fin W) :
    ∀ (m i : Nat) (ys : List V) (H' : Hp) (n : Nat) (s₀ s : Shared) (o : Obj), s₀.heap.get? S = some o → W i m ys H' → n + ys.length = sizeLine → Inv Z [(S, o)] (wipe σ vs) H' s → Lk ys o → tn i s.heap → (∀ b ∈ Z.ex, H' b = none) →
      Seg (model Z.prog Z.w) A (RG Z.prog Z.w Z.fs Z.ex Z.H_0 Z.s_0 S a gi Lk fin) (YG Z.prog Z.w Z.fs Z.ex Z.H_0 Z.s_0 S a gi Lk mid) n s₀
        (.compLoop (.GeneratorExp elt [⟨tg, iter, ifs, 0⟩] scope pos) 0 (.ref it) .none Z.env) ((model Z.prog Z.w).den (.compLoop (.GeneratorExp elt [⟨tg, iter, ifs, 0⟩] scope pos) 0 (.ref it) .none Z.env)) [] s := by
  have ov : A.over (.compLoop (.GeneratorExp elt [⟨tg, iter, ifs, 0⟩] scope pos) 0 (.ref it) .none Z.env) [] = Z.A := over_loop.trans hA.symm
  have pins : ∀ (o : Obj), ∀ p ∈ Z.pn ++ [(S, o)], ∀ b ∈ Z.ex, p.1 ≠ b := fun o p hp b hb => by
    rcases List.mem_append.mp hp with hp | hp
    · rw [hpn] at hp
      rw [List.mem_singleton.mp hp]
      exact Ne.symm (hfa b hb)
    · rw [List.mem_singleton.mp hp]
      exact Ne.symm (hfS b hb)
  have isg : ∀ {ip : List (Addr × Obj)} {σ' : L2.St} {H' : Hp} {s' : Shared}, Inv Z ip σ' H' s' → s'.heap.IsGen a gi := fun {ip σ' H' s'} I => hgo.is (I.pin (a, go) (List.mem_append_left _ (by rw [hpn]; exact List.mem_singleton.mpr rfl))).1
  have nox : ∀ {n : Nat} {s₀ : Shared} {t : Value → Sem PySem.Fin} {c : Code}, ∀ (x : Value) (s' : Shared), Z.xe x s' → Seg (model Z.prog Z.w) A (RG Z.prog Z.w Z.fs Z.ex Z.H_0 Z.s_0 S a gi Lk fin) (YG Z.prog Z.w Z.fs Z.ex Z.H_0 Z.s_0 S a gi Lk mid) n s₀ c (t x) [] s' := fun x s' h => absurd h (hx x s')
  intro m
  induction m using Nat.strongRecOn with
  | ind m ih =>
    intro i ys H5 n s₀ s5 o e0 w5 hn I5 hL st5 n5
    show Seg _ A _ _ n s₀ _ ((compTurn (.GeneratorExp elt [⟨tg, iter, ifs, 0⟩] scope pos) 0 (.ref it) .none Z.env).onRaise (leaving Z.env)) [] s5
    rw [compTurn_gen, Sem.onRaise_eq_wrap]
    refine seg_bind_wrap (wpAny_standAt ?_)
    rcases turn i m ys H5 w5 with ⟨stop, qq⟩ | ⟨go', Nx, hNx, step⟩
    · have td := T.done Z rfl rfl rfl hc i [(S, o)] s5 _ H5 (fun _ _ => False) I5 (stat (pins o) I5 n5) st5 stop
      refine seg_bind_wrap ?_
      rw [ov]
      refine thnF td fun r s6 ⟨hr, I6⟩ => ?_
      subst hr
      obtain ⟨eS, hS0, _⟩ := I6.pin (S, o) (List.mem_append_right _ (List.mem_singleton.mpr rfl))
      exact seg_end (.ok .next) (.inl ⟨.inr rfl, ys, H5, o, e0, by omega, I6.os, I6.bare, isg I6, I6.base, I6.hok, hS0, eS, hL, qq⟩)
    · have ti := T.item Z rfl rfl rfl hc i [(S, o)] s5 _ H5 (fun _ _ => False) I5 (stat (pins o) I5 n5) st5 go'
      refine seg_bind_wrap ?_
      rw [ov]
      refine thnF ti fun r s6 ⟨u, hr, h6⟩ => ?_
      subst hr
      refine seg_bind_wrap ?_
      rw [ov]
      refine thnF h6 fun _ s7 ⟨x, H7, I7, r7, y7, st7, n7⟩ => ?_
      have I7' := I7.pinned (stat (pins o) I7 n7) (T.obj _ _ st7)
      refine seg_bind_wrap ?_
      rw [ov]
      refine wpAny_mono (pg.run _ s7 _ H7 x u _ I7' r7 (step x H7 y7)) (fun _ s8 ⟨σ8, H8, I8, hw8, q8⟩ => ?_) (fun e s' he => absurd he (hx e s'))
      refine seg_bind_wrap ?_
      rw [ov]
      refine wpAny_mono (pt.run _ s8 σ8 H8 _ I8 q8) (fun b s9 ⟨H9, I9, q9⟩ => ?_) (fun e s' he => absurd he (hx e s'))
      have hl : (wipe σ vs).length = σ8.length := by rw [← hw8, wipe_length]
      have fin : ∀ {s' : Shared} {H' : Hp} {o' : Obj} {ys' : List V} {n' : Nat} {s₀' : Shared}, s₀'.heap.get? S = some o' → Inv Z ((S, o') :: pinsAt Z.ex s7.heap) σ8 H' s' → Lk ys' o' → n' + ys'.length = sizeLine → Nx ys' H' →
          Seg (model Z.prog Z.w) A (RG Z.prog Z.w Z.fs Z.ex Z.H_0 Z.s_0 S a gi Lk fin) (YG Z.prog Z.w Z.fs Z.ex Z.H_0 Z.s_0 S a gi Lk mid) n' s₀' (.compLoop (.GeneratorExp elt [⟨tg, iter, ifs, 0⟩] scope pos) 0 (.ref it) .none Z.env)
            (.pure (.again (.compLoop (.GeneratorExp elt [⟨tg, iter, ifs, 0⟩] scope pos) 0 (.ref it) .none Z.env))) [] s' := fun {s' H' o' ys' n' s₀'} e0' I' hL' hn' nx => by
        obtain ⟨m', hm, w'⟩ := hNx ys' H' nx
        have pin' : ∀ b ∈ Z.ex, ∀ o, s7.heap.get? b = some o → s'.heap.get? b = some o ∧ H' b = none := fun b hb o e =>
          let z := I'.pin (b, o) (List.mem_append_right _ (List.mem_cons_of_mem _ (mem_pinsAt hb e)))
          ⟨z.1, z.2.1⟩
        have I2 : Inv Z [(S, o')] σ8 H' s' := I'.pins_of fun p hp => I'.pin p (List.mem_append_right _ (by rw [List.mem_singleton.mp hp]; exact List.mem_cons_self))
        refine seg_again rfl (ih m' hm (i + 1) ys' H' n' s₀' s' o' e0' w' hn' (I2.weak hl fun j v e => ?_) hL' (T.keep _ _ _ st7 fun b hb o e => (pin' b hb o e).1) fun b hb => ?_)
        · rw [← hw8] at e
          exact (wipe_some e).1
        · obtain ⟨o, e, _⟩ := T.obj _ _ st7 b hb
          exact (pin' b hb o e).2
      cases b with
      | false =>
        simp only [Bool.false_eq_true, if_false] at q9 ⊢
        exact fin e0 I9 hL hn q9
      | true =>
        simp only [if_true] at q9 ⊢
        have hy : ∀ v, yieldOut Z.env v = yieldValue v := fun v => by simp only [yieldOut, hco, Bool.false_eq_true, if_false]
        simp only [hy]
        rw [Sem.bind_eq_wrap', Sem.bind_eq_wrap', Sem.wrap_wrap, Sem.wrap_wrap]
        refine seg_wrap ?_
        rw [ov]
        refine wpAny_mono (pe.run _ s9 σ8 H9 _ I9 q9) (fun z s10 ⟨yv, H10, I10, r10, hlt, hmid, nx⟩ => ?_) (fun e s' he => absurd he (hx e s'))
        obtain ⟨n, rfl⟩ : ∃ k, n = k + 1 := ⟨n - 1, by omega⟩
        obtain ⟨eS, hS0, _⟩ := I10.pin (S, o) (List.mem_append_right _ List.mem_cons_self)
        refine seg_at (seg_yield rfl rfl rfl ⟨ys, yv, H10, o, e0, by omega, I10.os, I10.bare, I10.nolimit, isg I10, I10.base, I10.hok, hS0, eS, hL, r10, hmid, fun s'' hz => ?_⟩)
        obtain ⟨o', hL', I11⟩ := inv_slept (ip := pinsAt Z.ex s7.heap) I10 hS hcS (fun p hp => hfS _ (of_pinsAt hp).1) (by
          by_cases e : S = a
          · exact .inr fun o' h' => by rw [hLa e _ _ h', hLa e _ _ hL]
          · refine .inl fun p hp => ?_
            rw [hpn] at hp
            rw [List.mem_singleton.mp hp]
            exact fun q => e q.symm) hz
        exact fin (I11.pin (S, o') (List.mem_append_right _ List.mem_cons_self)).1 I11 hL' (by rw [List.length_append, List.length_singleton]; omega) nx
end
end GX

set_option Elab.async false
set_option linter.all false
set_option maxRecDepth 100000
set_option maxHeartbeats 4000000
namespace GX
open PySem PySem.Spec PyProof.Rows L2 GenW
open GxR (TabB TabG Tabbed inv_tab)

/-- what the making of a generator leaves: it has not begun; woken by a consumer whose own object stands at S, it hands out what the turns say -/
def Made (X : Cx) (H : Hp) (s : Shared) (fp : List Addr) (k : Nat) (mid : List V → V → Hp → Prop) (fin : List V → Hp → Prop) (u : Value) (s' : Shared) : Prop :=
  ∃ (a : Addr) (gi : Nat) (go : Obj) (c : Code), u = .ref a ∧ s.heap.objs.size < a ∧ a < s'.heap.objs.size ∧ GenO go gi ∧ s'.heap.get? a = some go ∧ s'.gens[gi]? = some (.fresh c) ∧ s'.os = s.os ∧ AllBare s'.gens ∧ s'.heap.NoLimit ∧
    (∀ b o, s.heap.get? b = some o → s'.heap.get? b = some o) ∧
    ∀ (A : Around) (S : Addr) (Lk : List V → Obj → Prop) (s2 : Shared) (o : Obj), Room (k + 1) A → A.frames = some X.stack → s.heap.objs.size < S → (S = a → ∀ ys o, Lk ys o → o = go) → (∀ b o, b ≠ S → s'.heap.get? b = some o → s2.heap.get? b = some o) →
      s2.heap.get? S = some o → Lk [] o → (∀ v, o.data ≠ .cell v) → s2.os = s.os → AllBare s2.gens →
      Seg (model X.prog X.w) A (RG X.prog X.w (frs X.stack) fp H s S a gi Lk fin) (YG X.prog X.w (frs X.stack) fp H s S a gi Lk mid) sizeLine s2 c ((model X.prog X.w).den c) [] s2

/-- the reading of a generator expression: mid of each item, fin of the end -/
def tGen (P : Addr) (wi : TI) (g : TG) (tt : TT) (te : TE) (vs : List Nat) (mid : List V → V → Hp → Prop) (fin : List V → Hp → Prop) : L2.St → Hp → Prop := fun σ H => wi σ H fun J H1 => TabG H1 P ∧ ∀ H2, Tabbed P H1 H2 →
  ∃ W : Nat → Nat → List V → Hp → Prop, (∃ m, W 0 m [] H2) ∧ tTurns J g tt te vs σ mid fin W

section
variable {X : Cx} {pins : List (Addr × Obj)} {σ : L2.St} {H : Hp} {s : Shared}
theorem gen_made {c P : Addr} {elt tg iter : Expr} {ifs : List Expr} {scope : Scope} {gpos : Pos} {own : List (Str × Nat)} {wi : TI} {g : TG} {tt : TT} {te : TE} {k : Nat} {mid : List V → V → Hp → Prop} {fin : List V → Hp → Prop} {Q' : Value → Shared → Prop}
    (hr : Room (k + 1) X.A) (hN : X.N.Nodup) (TB : TabB X.base X.mg c P) (hcode : X.env.code = .ref c) (G : GSc X.N X.env.scope scope own) (hi : PI X tg iter wi)
    (hg : ∀ (A : Around) (s : Shared) (H : Hp) (code : Value) (fp : List Addr) (pn : List (Addr × Obj)), PG (gctx X A s H (gEnv X scope s.heap.objs.size code) fp pn) tg g)
    (ht : ∀ (A : Around) (s : Shared) (H : Hp) (code : Value) (fp : List Addr) (pn : List (Addr × Obj)), Room k (A.deeper (gEnv X scope s.heap.objs.size code)) → PTs (gctx X A s H (gEnv X scope s.heap.objs.size code) fp pn) ifs tt)
    (he : ∀ (A : Around) (s : Shared) (H : Hp) (code : Value) (fp : List Addr) (pn : List (Addr × Obj)), Room k (A.deeper (gEnv X scope s.heap.objs.size code)) → PE (gctx X A s H (gEnv X scope s.heap.objs.size code) fp pn) elt te)
    (hs : ∀ v, genFold iter X.env v = pure v) (I : Inv X pins σ H s) (h : tGen P wi g tt te (own.map (·.2)) mid fin σ H)
    (hQ : ∀ H2 s4 fp u s', Inv X pins σ H2 s4 → (∀ b ∈ fp, FpOk X pins H2 b) → Made X H2 s4 fp k mid fin u s' → Q' u s') :
    wpAny (model X.prog X.w) X.A (eval (.GeneratorExp elt [⟨tg, iter, ifs, 0⟩] scope gpos) X.env) Q' X.xe s := by
  refine wpAny_GeneratorExp_make G.co (closure_ok (free_has G I.ok)) G.cell G.dot G.kind hr.depth ?_ hs
  refine thn (hi.run pins s σ H _ I h) fun xv s1 hx => thn hx fun itv s2 h2 => ?_
  obtain ⟨it, fp, tn, J, H1, e, I1, T, st1, f1, ⟨ps, hP, htr⟩, q⟩ := h2
  subst e
  have nP : ∀ b ∈ fp, b ≠ P := fun b hb z => by
    have q := (f1 b hb).1
    rw [z, hP] at q
    cases q
  have cd : PySem.W.CodeHd s2.heap c P := TB.code.keeps I1.bk
  have hPs : s2.heap.get? P = some { cls := .none, data := .fields ps } := I1.hok P _ hP
  -- behind the code object's making
  have cont : ∀ (code : Value) (s3 : Shared) (H3 : Hp), Inv X pins σ H3 s3 → Tabbed P H1 H3 → (∀ b o, b ≠ P → s2.heap.get? b = some o → s3.heap.get? b = some o) →
      wpAny (model X.prog X.w) X.A (builtinsFor X.env.globals X.env.builtins) (fun bi s₄ => ∀ h', h'.Ns s₄.heap.objs.size (fun y => if y = ".0" then some (.ref it) else none) → Heap.SameBut s₄.heap.objs.size (s₄.heap.push { cls := .type "frame", data := .dict #[] }) h' →
          Q' (.ref h'.objs.size) { s₄ with
            gens := s₄.gens.push (.fresh (.compStart (.GeneratorExp elt [⟨tg, iter, ifs, 0⟩] scope gpos) 0 (.ref it) .none (genEnv scope (cloFrom X.env.cells scope.names []) s₄.heap.objs.size code bi X.env))),
            toks := s₄.toks + 1 + 1 + 1,
            heap := h'.push { cls := .type "generator", data := .fields #[.int s₄.gens.size 0, .str "<genexpr>" (s₄.toks + 1), .str (X.env.qual ++ "<genexpr>") (s₄.toks + 1 + 1)] } }) X.xe s3 := by
    intro code s3 H3 I3 hT kp3
    obtain ⟨bm, ob, e1, e2, e3, e4, e5, e6, e7, e8⟩ := TB.bm
    refine wpAny_builtinsFor (m := X.mg) (by rw [I3.ok.glob]; exact I3.mod.glob.keeps I3.bk) e1 e2 (I3.bk _ _ e5) e6 e7 e8 ?_
    intro h' hn' hs'
    have hsz : h'.objs.size = s3.heap.objs.size + 1 := by rw [hs'.1, Heap.size_push]
    have kp' : ∀ b o, s3.heap.get? b = some o → h'.get? b = some o := fun b o e => hs'.extBut b o (Nat.ne_of_lt (Heap.lt_size e)) (Heap.get?_push_of_some _ e)
    have f3 : ∀ b ∈ fp, FpOk X pins H3 b := fun b hb => ⟨by rw [hT.2 b (nP b hb)]; exact (f1 b hb).1, (f1 b hb).2⟩
    have st3 : tn 0 s3.heap := T.keep _ _ _ st1 fun b hb o e => kp3 b o (nP b hb) e
    have flt : ∀ b ∈ fp, b < s3.heap.objs.size := fun b hb => by
      obtain ⟨o, e, _⟩ := T.obj _ _ st3 b hb
      exact Heap.lt_size e
    refine hQ H3 s3 fp _ _ I3 f3 ⟨h'.objs.size, s3.gens.size, _, _, rfl, by omega, by rw [Heap.size_push]; exact Nat.lt_succ_self _, ⟨rfl, ⟨_, _, rfl⟩, rfl⟩, Heap.get?_push_size _ rfl, Array.getElem?_push_size .., rfl, I3.bare.push rfl, (I3.nolimit.keeps kp').push _, fun b o e => Heap.get?_push_of_some _ (kp' b o e), ?_⟩
    intro A S Lk s5 o hrA hfr hS hLa hk5 hSo hL0 hSc hos hba
    have k5 : ∀ b o, s3.heap.get? b = some o → s5.heap.get? b = some o := fun b o e => hk5 b o (Nat.ne_of_lt (Nat.lt_trans (Heap.lt_size e) hS)) (Heap.get?_push_of_some _ (kp' b o e))
    have hn5 : s5.heap.Ns s3.heap.objs.size fun y => if y = ".0" then some (.ref it) else none := by
      refine (hn'.push _).at' fun o e => hk5 _ o (Nat.ne_of_lt hS) e
    have ha5 : ∃ go : Obj, s5.heap.get? h'.objs.size = some go ∧ go = { cls := .type "generator", data := .fields #[.int s3.gens.size 0, .str "<genexpr>" (s3.toks + 1), .str (X.env.qual ++ "<genexpr>") (s3.toks + 1 + 1)] } := by
      by_cases z : S = h'.objs.size
      · exact ⟨o, by rw [← z]; exact hSo, hLa z _ _ hL0⟩
      · exact ⟨_, hk5 _ _ (Ne.symm z) (Heap.get?_push_size _ rfl), rfl⟩
    obtain ⟨go, hgo5, ego⟩ := ha5
    have hgoO : GenO go s3.gens.size := by rw [ego]; exact ⟨rfl, ⟨_, _, rfl⟩, rfl⟩
    have IZ := gen_start (pn := [(h'.objs.size, go)]) (ip := [(S, o)]) (code := code) I3 G hN (fun b hb => ⟨f3 b hb, flt b hb⟩) hrA.hd hfr hos hba k5 hn5 fun p hp => by
      rcases List.mem_append.mp hp with hp | hp
      · rw [List.mem_singleton.mp hp]
        exact ⟨hgo5, by show s3.heap.objs.size < h'.objs.size; omega, hgoO.cell⟩
      · rw [List.mem_singleton.mp hp]
        exact ⟨hSo, hS, hSc⟩
    obtain ⟨W, ⟨m0, w0⟩, turn⟩ := q H3 hT
    have hcS : ∀ x c, (gEnv X scope s3.heap.objs.size code).cells.lookup x = some c → c ≠ S := fun x c e z => by
      obtain ⟨v, ob, ho, _⟩ := IZ.cell x c e
      rcases cloFrom_mem (PySem.mem_of_lookup e) with hm | ⟨h1, h2⟩
      · cases hm
      · obtain ⟨c1, hc⟩ := free_has G I3.ok _ h1 rfl
        have hc : X.env.cells.lookup x = some c1 := hc
        have e2 : c = c1 := by
          rw [h2, hc] <;> rfl
        obtain ⟨v1, z1⟩ := I3.cell x c1 hc
        rw [← e2, z] at z1
        exact absurd (Nat.lt_trans z1.lt hS) (Nat.lt_irrefl _)
    have loop := seg_gloop (Z := gctx X A s3 H3 (gEnv X scope s3.heap.objs.size code) fp [(h'.objs.size, go)]) (A := A) (S := S) (a := h'.objs.size) (gi := s3.gens.size) (go := go) (Lk := Lk) (mid := mid) (fin := fin) (iter := iter) (scope := scope) (pos := gpos)
      rfl (fun _ _ z => z) rfl rfl hgoO G.co (Nat.le_of_lt hS) hcS (fun b hb => Nat.ne_of_lt (Nat.lt_trans (flt b hb) hS)) (fun b hb => Nat.ne_of_lt (by rw [hsz]; exact Nat.lt_succ_of_lt (flt b hb)))
      (fun z ys o' hl => by rw [ego]; exact hLa z ys o' hl) T (hg A s3 H3 code fp _) (ht A s3 H3 code fp _ (hrA.deeper _)) (he A s3 H3 code fp _ (hrA.deeper _)) turn m0 0 [] H3 sizeLine s5 s5 o hSo w0 (Nat.add_zero _) IZ hL0 (T.keep _ _ _ st3 fun b _ o e => k5 b o e) fun b hb => (f3 b hb).1
    have ov : A.over (.compStart (.GeneratorExp elt [⟨tg, iter, ifs, 0⟩] scope gpos) 0 (.ref it) .none (gEnv X scope s3.heap.objs.size code)) [] = A.deeper (gEnv X scope s3.heap.objs.size code) := over_start
    show Seg _ A _ _ _ s5 _ ((compStart (.GeneratorExp elt [⟨tg, iter, ifs, 0⟩] scope gpos) 0 (.ref it) .none (gEnv X scope s3.heap.objs.size code)).onRaise (leaving (gEnv X scope s3.heap.objs.size code))) [] s5
    unfold compStart
    rw [Sem.onRaise_eq_wrap]
    show Seg _ A _ _ _ s5 _ ((ask >>= _).wrap _ _ _ _) [] s5
    refine seg_bind_wrap (wpAny_askSetting ?_)
    have st5 : tn 0 s5.heap := T.keep _ _ _ st3 fun b _ o e => k5 b o e
    split
    · exact seg_again rfl loop
    · first
        | exact seg_bind_wrap (wpAny_rule (seg_bind_wrap (wpAny_standAt (seg_bind_wrap (T.self _ 0 s5 _ _ st5 (seg_again rfl loop))))))
        | (refine seg_bind_wrap (wpAny_rule ?_); show Seg _ A _ _ _ s5 _ ((standAt iter.pos >>= _).wrap _ _ _ _) [] s5; exact seg_bind_wrap (wpAny_standAt (seg_bind_wrap (T.self _ 0 s5 _ _ st5 (seg_again rfl loop)))))
  refine ⟨I1.nolimit, ?_⟩
  cases hf : codeAmong gpos ps.toList with
  | none =>
    refine wpAny_genexprCodeX hcode (cd.code hPs htr) (cd.tab hPs) hf fun c' h' tk hx hge hlt hco' _ htab' _ => ?_
    obtain ⟨o1, vs, f1', tf, fl, tg', inF, tx, tt', op, _, _, _, _, _, _, _, _, _, htr', _⟩ := hco'
    have J1 := inv_tab (g' := s2.gens) (d' := s2.drawn) (t' := tk) I1 hP (fun b o hb e => hx b o hb e) htab'.2 I1.bare
    exact cont _ _ _ J1 ⟨⟨_, upd_same, htr'⟩, fun b hb => upd_ne hb⟩ fun b o hb e => hx b o hb e
  | some cv =>
    refine wpAny_genexprCode_hit hcode (cd.code hPs htr) hf ?_
    exact cont cv s2 H1 I1 ⟨⟨ps, hP, htr⟩, fun _ _ => rfl⟩ fun b o _ e => e
end
end GX

set_option Elab.async false
set_option linter.all false
set_option maxRecDepth 100000
set_option maxHeartbeats 4000000
namespace GX
open PySem PySem.Spec PyProof.Rows L2 GenW
open GxR (TabB TabG Tabbed inv_tab)

section
variable {P : Program} {w : World} {fs fp : List Addr} {H : Hp} {s₄ : Shared} {S a : Addr} {gi : Nat} {Lk : List V → Obj → Prop} {mid : List V → V → Hp → Prop} {fin : List V → Hp → Prop}
/-- ready to be woken, n items at most are still to come -/
structure Live (P : Program) (w : World) (fs fp : List Addr) (H : Hp) (s₄ : Shared) (S a : Addr) (gi : Nat) (Lk : List V → Obj → Prop) (mid : List V → V → Hp → Prop) (fin : List V → Hp → Prop) (A : Around) (n : Nat) (s : Shared) : Prop where
  gen : s.heap.IsGen a gi
  lim : s.heap.NoLimit
  go : ∃ gs, s.gens[gi]? = some gs ∧ gs.Goes (model P w) A (RG P w fs fp H s₄ S a gi Lk fin) (YG P w fs fp H s₄ S a gi Lk mid) n (.send .none) (s.setGen gi .running)
/-- the state is as it was, H' is held -/
structure Bk (P : Program) (w : World) (fs fp : List Addr) (H : Hp) (s₄ : Shared) (H' : Hp) (s' : Shared) : Prop where
  os : s'.os = s₄.os
  bare : AllBare s'.gens
  un : Un fs fp H H' s₄.heap s'.heap
  ok : HOk P w H' s'.heap
theorem Bk.kept {H' : Hp} {s' s'' : Shared} (b : Bk P w fs fp H s₄ H' s') (ho : s''.os = s'.os) (hb : AllBare s''.gens) (k : ∀ b o, s'.heap.get? b = some o → s''.heap.get? b = some o) : Bk P w fs fp H s₄ H' s'' :=
  ⟨ho.trans b.os, hb, b.un.trans (Un.kept k), b.ok.kept k⟩
/-- .. the object at S written, which H' does not know -/
theorem Bk.sl {H' : Hp} {s' s'' : Shared} (b : Bk P w fs fp H s₄ H' s') (hS : s₄.heap.objs.size ≤ S) (hn : H' S = none) (ho : s''.os = s'.os) (hb : AllBare s''.gens) (k : ∀ b o, b ≠ S → s'.heap.get? b = some o → s''.heap.get? b = some o) (hs : ∃ o, s''.heap.get? S = some o) : Bk P w fs fp H s₄ H' s'' := by
  have lt : ∀ c o, s₄.heap.get? c = some o → c ≠ S := fun c o e => Nat.ne_of_lt (Nat.lt_of_lt_of_le (Heap.lt_size e) hS)
  have nt : ∀ c u, H' c = some u → c ≠ S := fun c u e z => by rw [z, hn] at e; cases e
  refine ⟨ho.trans b.os, hb, ⟨fun c o e n h1 h2 => k c o (lt c o e) (b.un.keep c o e n h1 h2), fun c o e n h1 h2 => ?_, b.un.free, fun c o e h1 => ?_, b.un.tups, b.un.frzs, b.un.tbls⟩, fun c u e => ?_⟩
  · obtain ⟨sl, q⟩ := b.un.slot c o e n h1 h2
    exact ⟨sl, k c _ (lt c o e) q⟩
  · obtain ⟨o', q⟩ := b.un.there c o e h1
    exact ⟨o', k c _ (lt c o e) q⟩
  · refine (b.ok c u e).stay (fun d v hd q => k d v ?_ q) (fun _ q => q) fun _ _ q => q
    rcases hd with z | z
    · rw [z]; exact nt c u e
    · exact nt d _ z

theorem live_next {A : Around} {n : Nat} {s : Shared} {Q : Option Value → Shared → Prop} {E : Value → Shared → Prop} (L : Live P w fs fp H s₄ S a gi Lk mid fin A.in1 n s) (hh : A.handled = none) (hd : A.depth < recursionLimit)
    (hitem : ∀ v s1 ys x H' o, ys.length < sizeLine → s.heap.get? S = some o → Bk P w fs fp H s₄ H' s1 → H' S = none → s1.heap.get? S = some o → Lk ys o → RelV x v → mid ys x H' →
      (∀ s2 : Shared, s2.os = s1.os → s2.gens = s1.gens → (∀ b o, b ≠ S → s1.heap.get? b = some o → s2.heap.get? b = some o) → (∃ o, s2.heap.get? S = some o ∧ Lk (ys ++ [x]) o ∧ ∀ v, o.data ≠ .cell v) → s2.heap.IsGen a gi → s2.heap.NoLimit →
        ∃ m, n = m + 1 ∧ Live P w fs fp H s₄ S a gi Lk mid fin A.in1 m s2) → s1.heap.IsGen a gi → s1.heap.NoLimit → Q (some v) s1)
    (hend : ∀ s1 ys H' o, s.heap.get? S = some o → Bk P w fs fp H s₄ H' s1 → H' S = none → s1.heap.get? S = some o → Lk ys o → fin ys H' → ys.length ≤ sizeLine → Q none s1) : wpAny (model P w) A (pyNext (.ref a)) Q E s := by
  obtain ⟨hg, hl, gs, hgs, hgo⟩ := L
  have hgl : gi < s.gens.size := (Array.getElem?_eq_some_iff.mp hgs).1
  refine wpAny_gsz (n := gi + 1) hgl (next_genG (F := fun _ s₀ s1 => FG P w fs fp H s₄ S a gi Lk fin s₀ s1) (Er := fun _ _ => False) hh hl hd hg hgs hgo (fun v s₁ gs' hbare hv => ?_) (fun s₁ hp h' hk => ?_) fun e s₁ he => he.elim)
  · intro hsz
    obtain ⟨ys, x, H', o, e0, hn, os1, hb1, hl1, hg1, un, hok, hS0, eS, hL, rv, hm, kap⟩ := hv
    have hsz1 : gi < s₁.gens.size := by
      have q : (s₁.setGen gi gs').gens.size = s₁.gens.size := setGen_size _ _ _
      have hsz' : gi + 1 ≤ (s₁.setGen gi gs').gens.size := hsz
      omega
    have hb2 : AllBare (s₁.setGen gi gs').gens := allBare_setGen hb1 hbare
    refine hitem v (s₁.setGen gi gs') ys x H' o (by omega) e0 ⟨os1, hb2, un, hok⟩ hS0 eS hL rv hm (fun s2 o2 g2 k2 w2 ig2 nl2 => ?_) hg1 hl1
    have hg2 : s2.gens[gi]? = some gs' := by rw [g2]; exact setGen_at hsz1
    have z := kap (s2.setGen gi .running) ⟨o2, allBare_setGen (s := s2) (by rw [g2]; exact hb2) rfl, k2, w2⟩
    cases n with
    | zero => exact z.elim
    | succ m => exact ⟨m, rfl, ig2, nl2, gs', hg2, z⟩
  · intro hsz
    obtain ⟨ys, H', o, e0, hle, os1, hb1, hg1, un, hok, hS0, eS, hL, hf⟩ := hp
    exact hend _ ys H' o e0 ⟨os1, allBare_setGen hb1 rfl, un.trans (Un.kept hk), hok.kept hk⟩ hS0 (hk _ _ eS) hL hf hle

/-! ### any -/
def LkAny (go : Obj) : List V → Obj → Prop := fun ys o => o = go ∧ ∀ y ∈ ys, y = V.bl false
theorem loop_any {go : Obj} {A : Around} {R : Result → Shared → Prop} {K : Bool → Hp → Prop} (hh : A.handled = none) (hd : A.depth + 1 < recursionLimit) (hgo : GenO go gi)
    (hmid : ∀ ys x H', (∀ y ∈ ys, y = V.bl false) → mid ys x H' → ∃ b, x = .bl b ∧ (b = true → K true H')) (hfin : ∀ ys H', (∀ y ∈ ys, y = V.bl false) → fin ys H' → K false H')
    (hR : ∀ b H' s', Bk P w fs fp H s₄ H' s' → K b H' → R (.ok (.ret (.bool b))) s') :
    ∀ (n : Nat) (s : Shared), Live P w fs fp H s₄ a a gi (LkAny go) mid fin A.in1.in1 n s → codeAny (model P w) A (.builtin "any.loop" ⟨[.ref a], []⟩) R s := by
  intro n
  induction n using Nat.strongRecOn with
  | ind n ih =>
    intro s L
    refine codeAny_builtin F.entry_any_loop ?_
    rw [Around.under_plainId F.plain_any_loop _]
    show wpAny _ A.in1 (pyNext (.ref a) >>= _) _ _ s
    refine wpAny_bind (live_next (A := A.in1) L hh (by show A.depth < _; omega) (fun v s1 ys x H' o hlt e0 bk hS0 eS hL rv hm next ig nl => ?_) fun s1 ys H' o e0 bk hS0 eS hL hf hle => ?_)
    · obtain ⟨b, rfl, hb⟩ := hmid ys x H' hL.2 hm
      obtain rfl : v = Value.bool b := rv
      refine wpAny_bind (wpAny_holding (wpAny_truthy_bool ?_))
      refine wpAny_bind (wpAny_letGo ?_)
      cases b with
      | false =>
        simp only [Bool.false_eq_true, if_false]
        obtain ⟨m, e, L'⟩ := next s1 rfl rfl (fun _ _ _ e => e) ⟨o, eS, ⟨hL.1, fun y hy => by
          rcases List.mem_append.mp hy with hy | hy
          · exact hL.2 y hy
          · exact List.mem_singleton.mp hy⟩, by rw [hL.1]; exact hgo.cell⟩ ig nl
        exact wpAny_pure ⟨plainId_quiet F.plain_any_loop _, ih m (by omega) s1 L'⟩
      | true =>
        simp only [if_true]
        exact wpAny_bind (wpAny_rule (wpAny_pure (hR true H' s1 bk (hb rfl))))
    · exact wpAny_bind (wpAny_rule (wpAny_pure (hR false H' s1 bk (hfin ys H' hL.2 hf))))

/-! ### sum -/
abbrev seqO (xs : Array Value) (c : Nat) : Obj := { cls := .type "list", dict := none, data := .seq xs c, slots := #[] }
def LkSum : List V → Obj → Prop := fun ys o => ∃ (ns : List Int) (t : Tok) (c : Nat), ys = ns.map V.int ∧ o = seqO #[.int ns.sum t] c
theorem loop_sum {A : Around} {R : Result → Shared → Prop} {K : Int → Hp → Prop} (hh : A.handled = none) (hd : A.depth + 1 < recursionLimit) (hS : s₄.heap.objs.size ≤ S) (hSa : S ≠ a) (hSc : S ≠ cStatics)
    (hmid : ∀ (ns : List Int) x H', mid (ns.map V.int) x H' → ∃ i, x = .int i ∧ InLong i ∧ InLong (ns.sum + i)) (hfin : ∀ (ns : List Int) H', fin (ns.map V.int) H' → K ns.sum H')
    (hR : ∀ i t H' s', Bk P w fs fp H s₄ H' s' → K i H' → R (.ok (.ret (.int i t))) s') :
    ∀ (n : Nat) (s : Shared), Live P w fs fp H s₄ S a gi LkSum mid fin A.in1.in1 n s → (∃ (ns : List Int) (t : Tok) (c : Nat), s.heap.get? S = some (seqO #[.int ns.sum t] c)) → codeAny (model P w) A (.builtin "sum.loop" ⟨[.ref a, .ref S, rawInt 0, rawInt 0], []⟩) R s := by
  intro n
  induction n using Nat.strongRecOn with
  | ind n ih =>
    intro s L hSo
    obtain ⟨ns0, t0, c0, eS0⟩ := hSo
    refine codeAny_builtin F.entry_sum_loop ?_
    rw [Around.under_plainId F.plain_sum_loop _]
    show wpAny _ A.in1 (seqItems? (.ref S) >>= _) _ _ s
    refine wpAny_bind (wpAny_seqItems eS0 rfl ?_)
    show wpAny _ A.in1 (tryCatch (pyNext (.ref a)) _ >>= _) _ _ s
    refine wpAny_bind (wpAny_tryCatch (live_next (A := A.in1) L hh (by show A.depth < _; omega) (fun v s1 ys x H' o hlt e0 bk hS0 eS hL rv hm next ig nl => ?_) fun s1 ys H' o e0 bk hS0 eS hL hf hle => ?_))
    · rw [eS0] at e0
      cases e0
      obtain ⟨ns, t, c, rfl, eo⟩ := hL
      have e1 : ns0.sum = ns.sum := by
        have q : Data.seq #[Value.int ns0.sum t0] c0 = Data.seq #[Value.int ns.sum t] c := congrArg Obj.data eo
        injection q with q1 q2
        have q3 := congrArg Array.toList q1
        injection q3 with q4 q5
        injection q4
      obtain ⟨i, rfl, ⟨f1, f2⟩, f3, f4⟩ := hmid ns x H' hm
      obtain ⟨t', rfl⟩ := id rv
      rw [← e1] at f3 f4
      have hc : ((decide (-(2 ^ 63) ≤ i) && decide (i < 2 ^ 63)) && (decide (-(2 ^ 63) ≤ ns0.sum + i) && decide (ns0.sum + i < 2 ^ 63))) = true := by
        simp only [Bool.and_eq_true, decide_eq_true_eq]
        exact ⟨⟨f1, f2⟩, f3, f4⟩
      show wpAny _ A.in1 (if (_ : Bool) = true then (mkInt (ns0.sum + i) >>= _) else _) _ _ _
      split
      · refine wpAny_bind (wpAny_mkInt ?_)
        show wpAny _ A.in1 (updateSeq S (fun _ => #[.int (ns0.sum + i) s1.toks]) >>= _) _ _ _
        refine wpAny_bind ?_
        have eS' : ({ s1 with toks := s1.toks + 1 } : Shared).heap.get? S = some (seqO #[.int ns0.sum t0] c0) := eS
        refine wpAny_updateSeq eS' rfl (wpAny_pure ?_)
        have es : ns0.sum + i = (ns ++ [i]).sum := by rw [e1, List.sum_append]; simp
        have hS2 := Heap.get?_update_self (Obj.mapSeq (fun _ => #[Value.int (ns0.sum + i) s1.toks])) eS' rfl
        have kS : ∀ b o, b ≠ S → s1.heap.get? b = some o → (s1.heap.update S (Obj.mapSeq (fun _ => #[Value.int (ns0.sum + i) s1.toks]))).get? b = some o := fun b o hb e => (Heap.get?_update_other _ _ (Ne.symm hb)).trans e
        obtain ⟨m, e, L'⟩ := next { s1 with heap := s1.heap.update S (Obj.mapSeq (fun _ => #[Value.int (ns0.sum + i) s1.toks])), toks := s1.toks + 1 } rfl rfl kS
          ⟨_, hS2, ⟨ns ++ [i], s1.toks, _, by rw [List.map_append]; rfl, by rw [← es]; rfl⟩, fun v q => by cases q⟩ (let ⟨o, nm, qn, ho, r⟩ := ig; ⟨o, nm, qn, kS a o (Ne.symm hSa) ho, r⟩) (let ⟨mc, hns, hnn⟩ := nl; ⟨mc, hns.at' fun o e => kS _ o (Ne.symm hSc) e, hnn⟩)
        exact ⟨plainId_quiet F.plain_sum_loop _, ih m (by omega) _ L' ⟨ns ++ [i], s1.toks, _, by rw [← es]; exact hS2⟩⟩
      · rename_i hneg
        exact absurd hc hneg
    · rw [eS0] at e0
      cases e0
      obtain ⟨ns, t, c, rfl, eo⟩ := hL
      have e1 : ns0.sum = ns.sum := by
        have q : Data.seq #[Value.int ns0.sum t0] c0 = Data.seq #[Value.int ns.sum t] c := congrArg Obj.data eo
        injection q with q1 q2
        have q3 := congrArg Array.toList q1
        injection q3 with q4 q5
        injection q4
      refine wpAny_pure (hR _ t0 H' s1 bk ?_)
      rw [e1]
      exact hfin ns H' hf
end
end GX

set_option Elab.async false
set_option linter.all false
set_option maxRecDepth 100000
set_option maxHeartbeats 4000000
namespace GX
open PySem PySem.Spec PyProof.Rows L2 GenW
open GxR (TabB TabG Tabbed inv_tab)

/-- the best so far: a later one only where it is better -/
def bestF (better : Int → Int → Bool) : Option Int → Int → Option Int
  | none, x => some x
  | some m, x => some (if better x m = true then x else m)
def best (better : Int → Int → Bool) (ns : List Int) : Option Int := ns.foldl (bestF better) none
theorem best_snoc (better : Int → Int → Bool) (ns : List Int) (x : Int) : best better (ns ++ [x]) = bestF better (best better ns) x := by
  unfold best
  rw [List.foldl_append]
  rfl
theorem best_none {better : Int → Int → Bool} : ∀ {ns : List Int}, best better ns = none → ns = [] := fun {ns} h => by
  cases hns : ns.reverse with
  | nil => simpa using hns
  | cons x r =>
    have e : ns = r.reverse ++ [x] := by rw [← List.reverse_reverse ns, hns, List.reverse_cons]
    rw [e, best_snoc] at h
    cases hb : best better r.reverse <;> rw [hb] at h <;> cases h
section
variable {P : Program} {w : World} {fs fp : List Addr} {H : Hp} {s₄ : Shared} {S a : Addr} {gi : Nat} {mid : List V → V → Hp → Prop} {fin : List V → Hp → Prop}
def LkMM (better : Int → Int → Bool) : List V → Obj → Prop := fun ys o => ∃ (ns : List Int) (c : Nat), ys = ns.map V.int ∧ ((best better ns = none ∧ o = seqO #[] c) ∨ ∃ m t, best better ns = some m ∧ o = seqO #[.int m t, .int m t] c)
theorem seqO_nil {m : Int} {t : Tok} {c c' : Nat} : seqO #[] c ≠ seqO #[Value.int m t, Value.int m t] c' := fun e => by
  have q : Data.seq #[] c = Data.seq #[Value.int m t, Value.int m t] c' := congrArg Obj.data e
  injection q with q1 q2
  have q3 := congrArg Array.size q1
  simp at q3
theorem seqO_inj {m m' : Int} {t t' : Tok} {c c' : Nat} (e : seqO #[Value.int m t, Value.int m t] c = seqO #[Value.int m' t', Value.int m' t'] c') : m = m' := by
  have q : Data.seq #[Value.int m t, Value.int m t] c = Data.seq #[Value.int m' t', Value.int m' t'] c' := congrArg Obj.data e
  injection q with q1 q2
  have q3 := congrArg Array.toList q1
  injection q3 with q4 q5
  injection q4

def betmax : Int → Int → Bool := fun x m => decide (x > m)
theorem loop_max {A : Around} {R : Result → Shared → Prop} {K : Int → Hp → Prop} (hh : A.handled = none) (hd : A.depth + 1 < recursionLimit) (hS : s₄.heap.objs.size ≤ S) (hSa : S ≠ a) (hSc : S ≠ cStatics)
    (hmid : ∀ (ns : List Int) x H', mid (ns.map V.int) x H' → ∃ i, x = .int i) (hfin : ∀ (ns : List Int) H', fin (ns.map V.int) H' → ∃ m, best betmax ns = some m ∧ K m H')
    (hR : ∀ i t H' s', Bk P w fs fp H s₄ H' s' → K i H' → R (.ok (.ret (.int i t))) s') :
    ∀ (n : Nat) (s : Shared), Live P w fs fp H s₄ S a gi (LkMM betmax) mid fin A.in1.in1 n s → (∃ c, s.heap.get? S = some (seqO #[] c) ∨ ∃ m t, s.heap.get? S = some (seqO #[.int m t, .int m t] c)) → codeAny (model P w) A (.builtin "max.loop" ⟨[.ref a, .none, .ref S], []⟩) R s := by
  have hname : (toString "max" ++ toString ".loop" : String) = "max.loop" := by decide
  intro n
  induction n using Nat.strongRecOn with
  | ind n ih =>
    intro s L hSo
    obtain ⟨c0, eS0 | ⟨m0, t0, eS0⟩⟩ := hSo
    · refine codeAny_builtin F.entry_max_loop ?_
      rw [Around.under_plainId F.plain_max_loop _]
      show wpAny _ A.in1 (seqItems? (.ref S) >>= _) _ _ s
      refine wpAny_bind (wpAny_seqItems eS0 rfl ?_)
      show wpAny _ A.in1 (tryCatch (pyNext (.ref a)) _ >>= _) _ _ s
      refine wpAny_bind (wpAny_tryCatch (live_next (A := A.in1) L hh (by show A.depth < _; omega) (fun v s1 ys x H' o hlt e0 bk hS0 eS hL rv hm next ig nl => ?_) fun s1 ys H' o e0 bk hS0 eS hL hf hle => ?_))
      · rw [eS0] at e0
        cases e0
        obtain ⟨ns, c, rfl, ⟨hb, eo⟩ | ⟨m, t, hb, eo⟩⟩ := hL
        · obtain ⟨i, rfl⟩ := hmid ns x H' hm
          obtain ⟨t', rfl⟩ := id rv
          show wpAny _ A.in1 (updateSeq S (fun _ => #[.int i t', .int i t']) >>= _) _ _ _
          refine wpAny_bind ?_
          refine wpAny_updateSeq eS rfl ?_
          rw [hname]
          have hS2 := Heap.get?_update_self (Obj.mapSeq (fun _ => #[Value.int i t', Value.int i t'])) eS rfl
          have kS : ∀ b o, b ≠ S → s1.heap.get? b = some o → (s1.heap.update S (Obj.mapSeq (fun _ => #[Value.int i t', Value.int i t']))).get? b = some o := fun b o hb e => (Heap.get?_update_other _ _ (Ne.symm hb)).trans e
          have eb : best betmax (ns ++ [i]) = some i := by rw [best_snoc, hb]; rfl
          obtain ⟨m, e, L'⟩ := next { s1 with heap := s1.heap.update S (Obj.mapSeq (fun _ => #[Value.int i t', Value.int i t'])) } rfl rfl kS
            ⟨_, hS2, ⟨ns ++ [i], _, by rw [List.map_append]; rfl, .inr ⟨i, t', eb, rfl⟩⟩, fun v q => by cases q⟩ (let ⟨o, nm, qn, ho, r⟩ := ig; ⟨o, nm, qn, kS a o (Ne.symm hSa) ho, r⟩) (let ⟨mc, hns, hnn⟩ := nl; ⟨mc, hns.at' fun o e => kS _ o (Ne.symm hSc) e, hnn⟩)
          exact wpAny_pure ⟨plainId_quiet F.plain_max_loop _, ih m (by omega) _ L' ⟨_, .inr ⟨i, t', hS2⟩⟩⟩
        · exact absurd eo seqO_nil
      · rw [eS0] at e0
        cases e0
        obtain ⟨ns, c, rfl, ⟨hb, eo⟩ | ⟨m, t, hb, eo⟩⟩ := hL
        · obtain ⟨m, hb', _⟩ := hfin ns H' hf
          rw [hb] at hb'
          cases hb'
        · exact absurd eo seqO_nil
    · refine codeAny_builtin F.entry_max_loop ?_
      rw [Around.under_plainId F.plain_max_loop _]
      show wpAny _ A.in1 (seqItems? (.ref S) >>= _) _ _ s
      refine wpAny_bind (wpAny_seqItems eS0 rfl ?_)
      show wpAny _ A.in1 (tryCatch (pyNext (.ref a)) _ >>= _) _ _ s
      refine wpAny_bind (wpAny_tryCatch (live_next (A := A.in1) L hh (by show A.depth < _; omega) (fun v s1 ys x H' o hlt e0 bk hS0 eS hL rv hm next ig nl => ?_) fun s1 ys H' o e0 bk hS0 eS hL hf hle => ?_))
      · rw [eS0] at e0
        cases e0
        obtain ⟨ns, c, rfl, ⟨hb, eo⟩ | ⟨m, t, hb, eo⟩⟩ := hL
        · exact absurd eo.symm seqO_nil
        · obtain rfl := seqO_inj eo
          obtain ⟨i, rfl⟩ := hmid ns x H' hm
          obtain ⟨t', rfl⟩ := id rv
          have hcmp := CmpOf.ints_gt (prog := P) (w := w) (A := A.in1) (P := fun (k : Nat) v => (k = 0 ∧ v = Value.int m0 t0) ∨ (k ≠ 0 ∧ v = Value.int i t')) (fun k => if k = 0 then m0 else i) (fun k v h => by
            rcases h with ⟨h1, h2⟩ | ⟨h1, h2⟩
            · exact ⟨t0, by rw [if_pos h1]; exact h2⟩
            · exact ⟨t', by rw [if_neg h1]; exact h2⟩)
          show wpAny _ A.in1 (tryCatch (holding [.int i t', .int i t'] (richCompare .Gt (.int i t') (.int m0 t0) >>= _)) _ >>= _) _ _ _
          refine wpAny_bind (wpAny_tryCatch (wpAny_holding (wpAny_bind (hcmp 1 0 _ _ _ _ _ (.inr ⟨by decide, rfl⟩) (.inl ⟨rfl, rfl⟩) ?_))))
          refine wpAny_bind (wpAny_holding (wpAny_truthy_bool ?_))
          refine wpAny_bind (wpAny_letGo (wpAny_pure ?_))
          rw [show ((fun i_1 j : Nat => decide ((if i_1 = 0 then m0 else i) > if j = 0 then m0 else i)) 1 0) = decide (i > m0) from rfl]
          by_cases hx : i > m0
          · rw [if_pos (decide_eq_true hx)]
            refine wpAny_bind ?_
            refine wpAny_updateSeq eS rfl (wpAny_bind (wpAny_letGo ?_))
            rw [hname]
            have hS2 := Heap.get?_update_self (Obj.mapSeq (fun _ => #[Value.int i t', Value.int i t'])) eS rfl
            have kS : ∀ b o, b ≠ S → s1.heap.get? b = some o → (s1.heap.update S (Obj.mapSeq (fun _ => #[Value.int i t', Value.int i t']))).get? b = some o := fun b o hb e => (Heap.get?_update_other _ _ (Ne.symm hb)).trans e
            have eb : best betmax (ns ++ [i]) = some i := by rw [best_snoc, hb]; show some (if decide (i > m0) = true then i else m0) = _; rw [if_pos (decide_eq_true hx)]
            obtain ⟨m, e, L'⟩ := next { s1 with heap := s1.heap.update S (Obj.mapSeq (fun _ => #[Value.int i t', Value.int i t'])) } rfl rfl kS
              ⟨_, hS2, ⟨ns ++ [i], _, by rw [List.map_append]; rfl, .inr ⟨i, t', eb, rfl⟩⟩, fun v q => by cases q⟩ (let ⟨o, nm, qn, ho, r⟩ := ig; ⟨o, nm, qn, kS a o (Ne.symm hSa) ho, r⟩) (let ⟨mc, hns, hnn⟩ := nl; ⟨mc, hns.at' fun o e => kS _ o (Ne.symm hSc) e, hnn⟩)
            exact wpAny_pure ⟨plainId_quiet F.plain_max_loop _, ih m (by omega) _ L' ⟨_, .inr ⟨i, t', hS2⟩⟩⟩
          · rw [if_neg (by simpa using hx)]
            refine wpAny_bind (wpAny_letGo ?_)
            rw [hname]
            have eb : best betmax (ns ++ [i]) = some m0 := by rw [best_snoc, hb]; show some (if decide (i > m0) = true then i else m0) = _; rw [if_neg (by simpa using hx)]
            obtain ⟨m, e, L'⟩ := next s1 rfl rfl (fun _ _ _ e => e) ⟨_, eS, ⟨ns ++ [i], _, by rw [List.map_append]; rfl, .inr ⟨m0, t0, eb, rfl⟩⟩, fun v q => by cases q⟩ ig nl
            exact wpAny_pure ⟨plainId_quiet F.plain_max_loop _, ih m (by omega) _ L' ⟨_, .inr ⟨m0, t0, eS⟩⟩⟩
      · rw [eS0] at e0
        cases e0
        obtain ⟨ns, c, rfl, ⟨hb, eo⟩ | ⟨m, t, hb, eo⟩⟩ := hL
        · exact absurd eo.symm seqO_nil
        · obtain rfl := seqO_inj eo
          obtain ⟨m, hb', hK⟩ := hfin ns H' hf
          rw [hb] at hb'
          cases hb'
          show wpAny _ A.in1 (updateSeq S (fun _ => #[]) >>= _) _ _ _
          refine wpAny_bind ?_
          refine wpAny_updateSeq eS rfl (wpAny_bind (wpAny_letGo (wpAny_pure ?_)))
          exact hR m0 t0 H' _ (bk.sl hS hS0 rfl bk.bare (fun b o hb e => (Heap.get?_update_other _ _ (Ne.symm hb)).trans e) ⟨_, Heap.get?_update_self _ eS rfl⟩) hK

def betmin : Int → Int → Bool := fun x m => decide (x < m)
theorem loop_min {A : Around} {R : Result → Shared → Prop} {K : Int → Hp → Prop} (hh : A.handled = none) (hd : A.depth + 1 < recursionLimit) (hS : s₄.heap.objs.size ≤ S) (hSa : S ≠ a) (hSc : S ≠ cStatics)
    (hmid : ∀ (ns : List Int) x H', mid (ns.map V.int) x H' → ∃ i, x = .int i) (hfin : ∀ (ns : List Int) H', fin (ns.map V.int) H' → ∃ m, best betmin ns = some m ∧ K m H')
    (hR : ∀ i t H' s', Bk P w fs fp H s₄ H' s' → K i H' → R (.ok (.ret (.int i t))) s') :
    ∀ (n : Nat) (s : Shared), Live P w fs fp H s₄ S a gi (LkMM betmin) mid fin A.in1.in1 n s → (∃ c, s.heap.get? S = some (seqO #[] c) ∨ ∃ m t, s.heap.get? S = some (seqO #[.int m t, .int m t] c)) → codeAny (model P w) A (.builtin "min.loop" ⟨[.ref a, .none, .ref S], []⟩) R s := by
  have hname : (toString "min" ++ toString ".loop" : String) = "min.loop" := by decide
  intro n
  induction n using Nat.strongRecOn with
  | ind n ih =>
    intro s L hSo
    obtain ⟨c0, eS0 | ⟨m0, t0, eS0⟩⟩ := hSo
    · refine codeAny_builtin F.entry_min_loop ?_
      rw [Around.under_plainId F.plain_min_loop _]
      show wpAny _ A.in1 (seqItems? (.ref S) >>= _) _ _ s
      refine wpAny_bind (wpAny_seqItems eS0 rfl ?_)
      show wpAny _ A.in1 (tryCatch (pyNext (.ref a)) _ >>= _) _ _ s
      refine wpAny_bind (wpAny_tryCatch (live_next (A := A.in1) L hh (by show A.depth < _; omega) (fun v s1 ys x H' o hlt e0 bk hS0 eS hL rv hm next ig nl => ?_) fun s1 ys H' o e0 bk hS0 eS hL hf hle => ?_))
      · rw [eS0] at e0
        cases e0
        obtain ⟨ns, c, rfl, ⟨hb, eo⟩ | ⟨m, t, hb, eo⟩⟩ := hL
        · obtain ⟨i, rfl⟩ := hmid ns x H' hm
          obtain ⟨t', rfl⟩ := id rv
          show wpAny _ A.in1 (updateSeq S (fun _ => #[.int i t', .int i t']) >>= _) _ _ _
          refine wpAny_bind ?_
          refine wpAny_updateSeq eS rfl ?_
          rw [hname]
          have hS2 := Heap.get?_update_self (Obj.mapSeq (fun _ => #[Value.int i t', Value.int i t'])) eS rfl
          have kS : ∀ b o, b ≠ S → s1.heap.get? b = some o → (s1.heap.update S (Obj.mapSeq (fun _ => #[Value.int i t', Value.int i t']))).get? b = some o := fun b o hb e => (Heap.get?_update_other _ _ (Ne.symm hb)).trans e
          have eb : best betmin (ns ++ [i]) = some i := by rw [best_snoc, hb]; rfl
          obtain ⟨m, e, L'⟩ := next { s1 with heap := s1.heap.update S (Obj.mapSeq (fun _ => #[Value.int i t', Value.int i t'])) } rfl rfl kS
            ⟨_, hS2, ⟨ns ++ [i], _, by rw [List.map_append]; rfl, .inr ⟨i, t', eb, rfl⟩⟩, fun v q => by cases q⟩ (let ⟨o, nm, qn, ho, r⟩ := ig; ⟨o, nm, qn, kS a o (Ne.symm hSa) ho, r⟩) (let ⟨mc, hns, hnn⟩ := nl; ⟨mc, hns.at' fun o e => kS _ o (Ne.symm hSc) e, hnn⟩)
          exact wpAny_pure ⟨plainId_quiet F.plain_min_loop _, ih m (by omega) _ L' ⟨_, .inr ⟨i, t', hS2⟩⟩⟩
        · exact absurd eo seqO_nil
      · rw [eS0] at e0
        cases e0
        obtain ⟨ns, c, rfl, ⟨hb, eo⟩ | ⟨m, t, hb, eo⟩⟩ := hL
        · obtain ⟨m, hb', _⟩ := hfin ns H' hf
          rw [hb] at hb'
          cases hb'
        · exact absurd eo seqO_nil
    · refine codeAny_builtin F.entry_min_loop ?_
      rw [Around.under_plainId F.plain_min_loop _]
      show wpAny _ A.in1 (seqItems? (.ref S) >>= _) _ _ s
      refine wpAny_bind (wpAny_seqItems eS0 rfl ?_)
      show wpAny _ A.in1 (tryCatch (pyNext (.ref a)) _ >>= _) _ _ s
      refine wpAny_bind (wpAny_tryCatch (live_next (A := A.in1) L hh (by show A.depth < _; omega) (fun v s1 ys x H' o hlt e0 bk hS0 eS hL rv hm next ig nl => ?_) fun s1 ys H' o e0 bk hS0 eS hL hf hle => ?_))
      · rw [eS0] at e0
        cases e0
        obtain ⟨ns, c, rfl, ⟨hb, eo⟩ | ⟨m, t, hb, eo⟩⟩ := hL
        · exact absurd eo.symm seqO_nil
        · obtain rfl := seqO_inj eo
          obtain ⟨i, rfl⟩ := hmid ns x H' hm
          obtain ⟨t', rfl⟩ := id rv
          have hcmp := CmpOf.ints_lt (prog := P) (w := w) (A := A.in1) (P := fun (k : Nat) v => (k = 0 ∧ v = Value.int m0 t0) ∨ (k ≠ 0 ∧ v = Value.int i t')) (fun k => if k = 0 then m0 else i) (fun k v h => by
            rcases h with ⟨h1, h2⟩ | ⟨h1, h2⟩
            · exact ⟨t0, by rw [if_pos h1]; exact h2⟩
            · exact ⟨t', by rw [if_neg h1]; exact h2⟩)
          show wpAny _ A.in1 (tryCatch (holding [.int i t', .int i t'] (richCompare .Lt (.int i t') (.int m0 t0) >>= _)) _ >>= _) _ _ _
          refine wpAny_bind (wpAny_tryCatch (wpAny_holding (wpAny_bind (hcmp 1 0 _ _ _ _ _ (.inr ⟨by decide, rfl⟩) (.inl ⟨rfl, rfl⟩) ?_))))
          refine wpAny_bind (wpAny_holding (wpAny_truthy_bool ?_))
          refine wpAny_bind (wpAny_letGo (wpAny_pure ?_))
          rw [show ((fun i_1 j : Nat => decide ((if i_1 = 0 then m0 else i) < if j = 0 then m0 else i)) 1 0) = decide (i < m0) from rfl]
          by_cases hx : i < m0
          · rw [if_pos (decide_eq_true hx)]
            refine wpAny_bind ?_
            refine wpAny_updateSeq eS rfl (wpAny_bind (wpAny_letGo ?_))
            rw [hname]
            have hS2 := Heap.get?_update_self (Obj.mapSeq (fun _ => #[Value.int i t', Value.int i t'])) eS rfl
            have kS : ∀ b o, b ≠ S → s1.heap.get? b = some o → (s1.heap.update S (Obj.mapSeq (fun _ => #[Value.int i t', Value.int i t']))).get? b = some o := fun b o hb e => (Heap.get?_update_other _ _ (Ne.symm hb)).trans e
            have eb : best betmin (ns ++ [i]) = some i := by rw [best_snoc, hb]; show some (if decide (i < m0) = true then i else m0) = _; rw [if_pos (decide_eq_true hx)]
            obtain ⟨m, e, L'⟩ := next { s1 with heap := s1.heap.update S (Obj.mapSeq (fun _ => #[Value.int i t', Value.int i t'])) } rfl rfl kS
              ⟨_, hS2, ⟨ns ++ [i], _, by rw [List.map_append]; rfl, .inr ⟨i, t', eb, rfl⟩⟩, fun v q => by cases q⟩ (let ⟨o, nm, qn, ho, r⟩ := ig; ⟨o, nm, qn, kS a o (Ne.symm hSa) ho, r⟩) (let ⟨mc, hns, hnn⟩ := nl; ⟨mc, hns.at' fun o e => kS _ o (Ne.symm hSc) e, hnn⟩)
            exact wpAny_pure ⟨plainId_quiet F.plain_min_loop _, ih m (by omega) _ L' ⟨_, .inr ⟨i, t', hS2⟩⟩⟩
          · rw [if_neg (by simpa using hx)]
            refine wpAny_bind (wpAny_letGo ?_)
            rw [hname]
            have eb : best betmin (ns ++ [i]) = some m0 := by rw [best_snoc, hb]; show some (if decide (i < m0) = true then i else m0) = _; rw [if_neg (by simpa using hx)]
            obtain ⟨m, e, L'⟩ := next s1 rfl rfl (fun _ _ _ e => e) ⟨_, eS, ⟨ns ++ [i], _, by rw [List.map_append]; rfl, .inr ⟨m0, t0, eb, rfl⟩⟩, fun v q => by cases q⟩ ig nl
            exact wpAny_pure ⟨plainId_quiet F.plain_min_loop _, ih m (by omega) _ L' ⟨_, .inr ⟨m0, t0, eS⟩⟩⟩
      · rw [eS0] at e0
        cases e0
        obtain ⟨ns, c, rfl, ⟨hb, eo⟩ | ⟨m, t, hb, eo⟩⟩ := hL
        · exact absurd eo.symm seqO_nil
        · obtain rfl := seqO_inj eo
          obtain ⟨m, hb', hK⟩ := hfin ns H' hf
          rw [hb] at hb'
          cases hb'
          show wpAny _ A.in1 (updateSeq S (fun _ => #[]) >>= _) _ _ _
          refine wpAny_bind ?_
          refine wpAny_updateSeq eS rfl (wpAny_bind (wpAny_letGo (wpAny_pure ?_)))
          exact hR m0 t0 H' _ (bk.sl hS hS0 rfl bk.bare (fun b o hb e => (Heap.get?_update_other _ _ (Ne.symm hb)).trans e) ⟨_, Heap.get?_update_self _ eS rfl⟩) hK

/-! ### a list that is filled -/
def LkExt : List V → Obj → Prop := fun ys o => ∃ (acc : Array Value) (c : Nat), o = seqO acc c ∧ Vals ys acc.toList
theorem loop_ext {A : Around} {R : Result → Shared → Prop} {res : Value} (hh : A.handled = none) (hd : A.depth + 1 < recursionLimit) (hS : s₄.heap.objs.size ≤ S) (hSa : S ≠ a) (hSc : S ≠ cStatics)
    (hR : ∀ ys acc c H' s', Bk P w fs fp H s₄ H' s' → H' S = none → s'.heap.get? S = some (seqO acc c) → Vals ys acc.toList → ys.length ≤ sizeLine → fin ys H' → R (.ok (.ret res)) s') :
    ∀ (n : Nat) (s : Shared), Live P w fs fp H s₄ S a gi LkExt mid fin A.in1.in1 n s → codeAny (model P w) A (.builtin "list.extend.loop" ⟨[.ref S, .ref a, res], []⟩) R s := by
  intro n
  induction n using Nat.strongRecOn with
  | ind n ih =>
    intro s L
    refine codeAny_builtin F.entry_extend_loop ?_
    rw [Around.under_plainId F.plain_extend_loop _]
    show wpAny _ A.in1 (pyNext (.ref a) >>= _) _ _ s
    refine wpAny_bind (live_next (A := A.in1) L hh (by show A.depth < _; omega) (fun v s1 ys x H' o hlt e0 bk hS0 eS hL rv hm next ig nl => ?_) fun s1 ys H' o e0 bk hS0 eS hL hf hle => ?_)
    · obtain ⟨acc, c, rfl, r⟩ := hL
      have hsz : acc.size = ys.length := by
        have e1 := r.length
        have e2 : acc.toList.length = acc.size := by simp
        omega
      have hasz' : acc.size < sizeLine := by omega
      show wpAny _ A.in1 (updateSeq S (·.push v) >>= _) _ _ _
      refine wpAny_bind ?_
      have hS2 := Heap.get?_update_self (Obj.mapSeq (·.push v)) eS rfl
      have kS : ∀ b o, b ≠ S → s1.heap.get? b = some o → (s1.heap.update S (Obj.mapSeq (·.push v))).get? b = some o := fun b o hb e => (Heap.get?_update_other _ _ (Ne.symm hb)).trans e
      obtain ⟨m, e, L'⟩ := next { s1 with heap := s1.heap.update S (Obj.mapSeq (·.push v)) } rfl rfl kS
        ⟨_, hS2, ⟨acc.push v, _, rfl, by rw [Array.toList_push]; exact r.append (.cons rv .nil)⟩, fun v q => by cases q⟩ (let ⟨o, nm, qn, ho, r⟩ := ig; ⟨o, nm, qn, kS a o (Ne.symm hSa) ho, r⟩) (let ⟨mc, hns, hnn⟩ := nl; ⟨mc, hns.at' fun o e => kS _ o (Ne.symm hSc) e, hnn⟩)
      refine wpAny_updateSeq eS rfl (wpAny_pure ⟨plainId_quiet F.plain_extend_loop _, ih m (by omega) _ L'⟩) (Nat.le_of_lt hasz') (by show (acc.push v).size ≤ sizeLine + 1; rw [Array.size_push]; omega)
    · obtain ⟨acc, c, rfl, r⟩ := hL
      exact wpAny_pure (hR ys acc c H' s1 bk hS0 eS r hle hf)
end
end GX

set_option Elab.async false
set_option linter.all false
set_option maxRecDepth 100000
set_option maxHeartbeats 4000000
namespace GX
open PySem PySem.Spec PyProof.Rows L2 GenW
open GxR (TabB TabG Tabbed inv_tab)

theorem map_int_inj : ∀ {a b : List Int}, a.map V.int = b.map V.int → a = b
  | [], [], _ => rfl
  | [], _ :: _, h => by cases h
  | _ :: _, [], h => by cases h
  | x :: xs, y :: ys, h => by
    injection h with h1 h2
    injection h1 with h3
    rw [h3, map_int_inj h2]

/-- ready to be woken by a consumer whose object stands at S -/
theorem made_live {X : Cx} {pins : List (Addr × Obj)} {σ : L2.St} {H : Hp} {s4 s' : Shared} {fp : List Addr} {k : Nat} {mid : List V → V → Hp → Prop} {fin : List V → Hp → Prop} {u : Value} (I : Inv X pins σ H s4) (M : Made X H s4 fp k mid fin u s') :
    ∃ (a : Addr) (gi : Nat) (go : Obj), u = .ref a ∧ s4.heap.objs.size < a ∧ a < s'.heap.objs.size ∧ GenO go gi ∧ s'.heap.get? a = some go ∧ s'.os = s4.os ∧ AllBare s'.gens ∧ (∀ b o, s4.heap.get? b = some o → s'.heap.get? b = some o) ∧ s'.heap.IsGen a gi ∧ cStatics < s4.heap.objs.size ∧
      ∀ (A : Around) (S : Addr) (Lk : List V → Obj → Prop) (s2 : Shared) (o : Obj), Room (k + 1) A → A.frames = some X.stack → s4.heap.objs.size < S → (S = a → ∀ ys o, Lk ys o → o = go) → (∀ b o, b ≠ S → s'.heap.get? b = some o → s2.heap.get? b = some o) →
        s2.heap.get? S = some o → Lk [] o → (∀ v, o.data ≠ .cell v) → s2.os = s'.os → s2.gens = s'.gens → Live X.prog X.w (frs X.stack) fp H s4 S a gi Lk mid fin A sizeLine s2 := by
  obtain ⟨a, gi, go, c, hu, ha, ha', hgo, ego, hgs, hos, hb, hl, kp, wake⟩ := M
  have hcl : cStatics < s4.heap.objs.size := let ⟨_, hn, _⟩ := I.nolimit; hn.lt
  refine ⟨a, gi, go, hu, ha, ha', hgo, ego, hos, hb, kp, hgo.is ego, hcl, fun A S Lk s2 o hr hfr hS hLa k2 hSo hL0 hSc os2 g2 => ?_⟩
  have ea : s2.heap.get? a = some go := by
    by_cases z : S = a
    · rw [← hLa z _ _ hL0, ← z]
      exact hSo
    · exact k2 a go (Ne.symm z) ego
  refine ⟨hgo.is ea, I.nolimit.keeps fun b o e => k2 b o (Nat.ne_of_lt (Nat.lt_trans (Heap.lt_size e) hS)) (kp b o e), .fresh c, by rw [g2]; exact hgs, rfl, ?_⟩
  exact wake A S Lk (s2.setGen gi .running) o hr hfr hS hLa k2 hSo hL0 hSc (os2.trans hos) (allBare_setGen (s := s2) (by rw [g2]; exact hb) rfl)

section
variable {X : Cx} {pins : List (Addr × Obj)} {σ : L2.St} {H : Hp}
theorem inv_back {s4 s' : Shared} {fp : List Addr} {H2 H' : Hp} (I : Inv X pins σ H2 s4) (f : ∀ b ∈ fp, FpOk X pins H2 b) (b : Bk X.prog X.w (frs X.stack) fp H2 s4 H' s') : Inv X pins σ H' s' :=
  I.call' (ch := fp) b.os b.un b.ok b.bare fun c hc => ⟨(f c hc).2.2.2.1, (f c hc).2.1, (f c hc).2.2.2.2.1, (f c hc).2.2.2.2.2⟩

/-! ### the readings -/
def tAnyG (P : Addr) (wi : TI) (g : TG) (tt : TT) (te : TE) (vs : List Nat) : TE := fun σ H Q => tGen P wi g tt te vs (fun _ y H' => ∃ b, y = .bl b ∧ (b = true → Q (.bl true) H')) (fun ys H' => (∀ y ∈ ys, y = V.bl false) → Q (.bl false) H') σ H
def tSumG (P : Addr) (wi : TI) (g : TG) (tt : TT) (te : TE) (vs : List Nat) : TE := fun σ H Q => tGen P wi g tt te vs (fun ys y _ => ∃ (ns : List Int) (i : Int), ys = ns.map V.int ∧ y = .int i ∧ InLong i ∧ InLong (ns.sum + i)) (fun ys H' => ∃ ns : List Int, ys = ns.map V.int ∧ Q (.int ns.sum) H') σ H
def tMMG (better : Int → Int → Bool) (P : Addr) (wi : TI) (g : TG) (tt : TT) (te : TE) (vs : List Nat) : TE := fun σ H Q => tGen P wi g tt te vs (fun _ y _ => ∃ i : Int, y = .int i) (fun ys H' => ∃ (ns : List Int) (m : Int), ys = ns.map V.int ∧ best better ns = some m ∧ Q (.int m) H') σ H
def tTupG (P : Addr) (wi : TI) (g : TG) (tt : TT) (te : TE) (vs : List Nat) : TE := fun σ H Q => tGen P wi g tt te vs (fun _ _ _ => True) (fun ys H' => ∀ p, H' p = none → Q (.ref p) (upd H' p (.tup ys))) σ H

variable {c P : Addr} {elt tg iter : Expr} {ifs : List Expr} {scope : Scope} {gpos p pos : Pos} {own : List (Str × Nat)} {wi : TI} {g : TG} {tt : TT} {te : TE} {k : Nat}
/-- the parts of a generator expression, walked -/
structure GenE (X : Cx) (c P : Addr) (elt tg iter : Expr) (ifs : List Expr) (scope : Scope) (own : List (Str × Nat)) (wi : TI) (g : TG) (tt : TT) (te : TE) (k : Nat) : Prop where
  room : Room (k + 8) X.A
  nd : X.N.Nodup
  tab : TabB X.base X.mg c P
  code : X.env.code = .ref c
  sc : GSc X.N X.env.scope scope own
  it : PI X tg iter wi
  tg : ∀ (A : Around) (s : Shared) (H : Hp) (code : Value) (fp : List Addr) (pn : List (Addr × Obj)), PG (gctx X A s H (gEnv X scope s.heap.objs.size code) fp pn) tg g
  ts : ∀ (A : Around) (s : Shared) (H : Hp) (code : Value) (fp : List Addr) (pn : List (Addr × Obj)), Room k (A.deeper (gEnv X scope s.heap.objs.size code)) → PTs (gctx X A s H (gEnv X scope s.heap.objs.size code) fp pn) ifs tt
  el : ∀ (A : Around) (s : Shared) (H : Hp) (code : Value) (fp : List Addr) (pn : List (Addr × Obj)), Room k (A.deeper (gEnv X scope s.heap.objs.size code)) → PE (gctx X A s H (gEnv X scope s.heap.objs.size code) fp pn) elt te
  fold : ∀ v, genFold iter X.env v = pure v
theorem GenE.made {mid : List V → V → Hp → Prop} {fin : List V → Hp → Prop} {Q' : Value → Shared → Prop} {s : Shared} (G : GenE X c P elt tg iter ifs scope own wi g tt te k) (I : Inv X pins σ H s) (h : tGen P wi g tt te (own.map (·.2)) mid fin σ H)
    (hQ : ∀ H2 s4 fp u s', Inv X pins σ H2 s4 → (∀ b ∈ fp, FpOk X pins H2 b) → Made X H2 s4 fp k mid fin u s' → Q' u s') :
    wpAny (model X.prog X.w) X.A (eval (.GeneratorExp elt [⟨tg, iter, ifs, 0⟩] scope gpos) X.env) Q' X.xe s :=
  gen_made (G.room.mono (by omega)) G.nd G.tab G.code G.sc G.it G.tg G.ts G.el G.fold I h hQ

theorem pe_anyG (G : GenE X c P elt tg iter ifs scope own wi g tt te k) (hg : Gl X "any") (hm : X.mg "any" = none)
    (he : starEach [.GeneratorExp elt [⟨tg, iter, ifs, 0⟩] scope gpos] X.env = (false, eval (.GeneratorExp elt [⟨tg, iter, ifs, 0⟩] scope gpos) X.env) :: starEach [] X.env := by rfl) :
    PE X (.Call (.Name "any" p) [.GeneratorExp elt [⟨tg, iter, ifs, 0⟩] scope gpos] [] pos) (tAnyG P wi g tt te (own.map (·.2))) := by
  refine ⟨fun pins s σ H Q I h => ?_⟩
  refine wpAny_Call_Name_kw (ld_blt I hg hm boot_any ?_)
  refine PyProof.Rows.callWith_builtin1 ?_ he (by rfl)
  rw [he]
  show wpAny _ _ (spliced ((false, eval (.GeneratorExp elt [⟨tg, iter, ifs, 0⟩] scope gpos) X.env) :: backTo pos (starEach [] X.env))) _ _ s
  refine Calls.spliced_cons (G.made I h fun H2 s4 fp u s' I4 f4 M => ?_)
  obtain ⟨a, gi, go, rfl, ha, ha', hgo, ego, hos, hb, kp, ig, hcl, live⟩ := made_live I4 M
  refine Calls.spliced_nil ?_
  refine call_function_tree F.kind_any F.plain_any F.entry_any (F.args_any1 _) ?_
  unfold Builtin.«any»
  refine wpAny_bind (m := oneArg "any" _) (wpAny_pure ?_)
  refine wpAny_bind (wpAny_pyIter_gen ig ?_)
  refine wpAny_pure ⟨plainId_quiet F.plain_any_loop _, loop_any (K := fun b H' => Q (.bl b) H') G.room.hd (by have := G.room.dp; omega) hgo (fun ys x H' _ hm => hm) (fun ys H' hz hf => hf hz) (fun b H' s2 bk hK => ?_) sizeLine s'
    (live _ a _ s' go ((G.room.mono (show k + 3 ≤ k + 8 by omega)).in1.in1) I4.ok.frames ha (fun _ ys o h => h.1) (fun _ _ _ e => e) ego ⟨rfl, fun y hy => by simp at hy⟩ hgo.cell rfl rfl)⟩
  exact ⟨.bl b, H', inv_back I4 f4 bk, rfl, hK⟩

theorem pe_sumG (G : GenE X c P elt tg iter ifs scope own wi g tt te k) (hg : Gl X "sum") (hm : X.mg "sum" = none) (hv : bootBuiltins "sum" = some (.builtin "sum") := by decide +kernel)
    (he : starEach [.GeneratorExp elt [⟨tg, iter, ifs, 0⟩] scope gpos] X.env = (false, eval (.GeneratorExp elt [⟨tg, iter, ifs, 0⟩] scope gpos) X.env) :: starEach [] X.env := by rfl) :
    PE X (.Call (.Name "sum" p) [.GeneratorExp elt [⟨tg, iter, ifs, 0⟩] scope gpos] [] pos) (tSumG P wi g tt te (own.map (·.2))) := by
  refine ⟨fun pins s σ H Q I h => ?_⟩
  refine wpAny_Call_Name_kw (ld_blt I hg hm hv ?_)
  refine PyProof.Rows.callWith_builtin1 ?_ he (by rfl)
  rw [he]
  show wpAny _ _ (spliced ((false, eval (.GeneratorExp elt [⟨tg, iter, ifs, 0⟩] scope gpos) X.env) :: backTo pos (starEach [] X.env))) _ _ s
  refine Calls.spliced_cons (G.made I h fun H2 s4 fp u s' I4 f4 M => ?_)
  obtain ⟨a, gi, go, rfl, ha, ha', hgo, ego, hos, hb, kp, ig, hcl, live⟩ := made_live I4 M
  refine Calls.spliced_nil ?_
  refine call_function_tree F.kind_sum F.plain_sum F.entry_sum (F.args_sum1 _) ?_
  unfold Builtin.«sum»
  simp only [List.length_cons, List.length_nil]
  rw [if_neg (by decide)]
  refine wpAny_bind (wpAny_of_eq (show Builtin.Builtins.bindParams "sum" ["start"] 0 { } = pure [none] from rfl) ?_)
  refine wpAny_bind (wpAny_pyIter_gen ig ?_)
  refine wpAny_bind (wpAny_mkInt ?_)
  refine wpAny_bind (wpAny_pure ?_)
  simp only [List.forIn_cons, List.forIn_nil]
  refine wpAny_bind (wpAny_bind (wpAny_bind (wpAny_isInstance (T := "int") (b := false) (typeIs_int _ _ _) PySem.sub_int_str ?_)))
  simp only [Bool.false_eq_true, if_false]
  refine wpAny_pure (wpAny_bind (wpAny_bind (wpAny_isInstance (T := "int") (b := false) (typeIs_int _ _ _) PySem.sub_int_bytes ?_)))
  simp only [Bool.false_eq_true, if_false]
  refine wpAny_pure (wpAny_bind (wpAny_bind (wpAny_isInstance (T := "int") (b := false) (typeIs_int _ _ _) PySem.sub_int_bytearray ?_)))
  simp only [Bool.false_eq_true, if_false]
  refine wpAny_pure (wpAny_pure ?_)
  refine wpAny_bind (wpAny_newObj_type ?_)
  have hSa : s'.heap.objs.size ≠ a := Nat.ne_of_gt ha'
  have h4 : s4.heap.objs.size < s'.heap.objs.size := Nat.lt_trans ha ha'
  have hSn : ∀ {o : Obj} {b : Addr} {u : Obj}, s'.heap.get? b = some u → (s'.heap.push o).get? b = some u := fun e => Heap.get?_push_of_some _ e
  refine wpAny_pure ⟨plainId_quiet F.plain_sum_loop _, loop_sum (K := fun i H' => Q (.int i) H') (S := s'.heap.objs.size) G.room.hd (by have := G.room.dp; omega) (Nat.le_of_lt h4) hSa (Nat.ne_of_gt (Nat.lt_trans hcl h4)) (fun ns x H' hm => ?_) (fun ns H' hf => ?_) (fun i t H' s2 bk hK => ?_) sizeLine _
    (live _ s'.heap.objs.size LkSum _ _ ((G.room.mono (show k + 3 ≤ k + 8 by omega)).in1.in1) I4.ok.frames h4 (fun z => absurd z hSa) (fun b o _ e => hSn e) (Heap.get?_push_size _ rfl) ⟨[], s'.toks, 0, rfl, rfl⟩ (fun v q => by cases q) rfl rfl) ⟨[], s'.toks, 0, Heap.get?_push_size _ rfl⟩⟩
  · obtain ⟨ns', i, e1, e2, e3⟩ := hm
    rw [map_int_inj e1]
    exact ⟨i, e2, e3⟩
  · obtain ⟨ns', e1, e2⟩ := hf
    rw [map_int_inj e1]
    exact e2
  · exact ⟨.int i, H', inv_back I4 f4 bk, ⟨t, rfl⟩, hK⟩

theorem pe_maxG (G : GenE X c P elt tg iter ifs scope own wi g tt te k) (hg : Gl X "max") (hm : X.mg "max" = none) (hv : bootBuiltins "max" = some (.builtin "max") := by decide +kernel)
    (he : starEach [.GeneratorExp elt [⟨tg, iter, ifs, 0⟩] scope gpos] X.env = (false, eval (.GeneratorExp elt [⟨tg, iter, ifs, 0⟩] scope gpos) X.env) :: starEach [] X.env := by rfl) :
    PE X (.Call (.Name "max" p) [.GeneratorExp elt [⟨tg, iter, ifs, 0⟩] scope gpos] [] pos) (tMMG betmax P wi g tt te (own.map (·.2))) := by
  refine ⟨fun pins s σ H Q I h => ?_⟩
  refine wpAny_Call_Name_kw (ld_blt I hg hm hv ?_)
  refine PyProof.Rows.callWith_builtin1 ?_ he (by rfl)
  rw [he]
  show wpAny _ _ (spliced ((false, eval (.GeneratorExp elt [⟨tg, iter, ifs, 0⟩] scope gpos) X.env) :: backTo pos (starEach [] X.env))) _ _ s
  refine Calls.spliced_cons (G.made I h fun H2 s4 fp u s' I4 f4 M => ?_)
  obtain ⟨a, gi, go, rfl, ha, ha', hgo, ego, hos, hb, kp, ig, hcl, live⟩ := made_live I4 M
  refine Calls.spliced_nil ?_
  have hname : (toString "max" ++ toString ".loop" : String) = "max.loop" := by decide
  refine call_function_tree F.kind_max F.plain_max F.entry_max (F.args_max1 _) ?_
  show wpAny _ X.A.in1 (Builtin.Builtins.bindParams "max" ["key", "default"] 0 ⟨[], []⟩ >>= _) _ _ s'
  refine wpAny_bind (wpAny_of_eq (show Builtin.Builtins.bindParams "max" ["key", "default"] 0 ⟨[], []⟩ = pure [none, none] from rfl) ?_)
  refine wpAny_bind (wpAny_pure ?_)
  refine wpAny_bind (wpAny_pyIter_gen ig ?_)
  refine wpAny_bind (wpAny_newObj_type ?_)
  rw [hname]
  have hSa : s'.heap.objs.size ≠ a := Nat.ne_of_gt ha'
  have h4 : s4.heap.objs.size < s'.heap.objs.size := Nat.lt_trans ha ha'
  have hSn : ∀ {o : Obj} {b : Addr} {u : Obj}, s'.heap.get? b = some u → (s'.heap.push o).get? b = some u := fun e => Heap.get?_push_of_some _ e
  refine wpAny_pure ⟨plainId_quiet F.plain_max_loop _, loop_max (K := fun i H' => Q (.int i) H') (S := s'.heap.objs.size) G.room.hd (by have := G.room.dp; omega) (Nat.le_of_lt h4) hSa (Nat.ne_of_gt (Nat.lt_trans hcl h4)) (fun ns x H' hm => hm) (fun ns H' hf => ?_) (fun i t H' s2 bk hK => ?_) sizeLine _
    (live _ s'.heap.objs.size (LkMM betmax) _ _ ((G.room.mono (show k + 3 ≤ k + 8 by omega)).in1.in1) I4.ok.frames h4 (fun z => absurd z hSa) (fun b o _ e => hSn e) (Heap.get?_push_size _ rfl) ⟨[], 0, rfl, .inl ⟨rfl, rfl⟩⟩ (fun v q => by cases q) rfl rfl) ⟨0, .inl (Heap.get?_push_size _ rfl)⟩⟩
  · obtain ⟨ns', m, e1, e2, e3⟩ := hf
    rw [map_int_inj e1]
    exact ⟨m, e2, e3⟩
  · exact ⟨.int i, H', inv_back I4 f4 bk, ⟨t, rfl⟩, hK⟩

theorem pe_minG (G : GenE X c P elt tg iter ifs scope own wi g tt te k) (hg : Gl X "min") (hm : X.mg "min" = none) (hv : bootBuiltins "min" = some (.builtin "min") := by decide +kernel)
    (he : starEach [.GeneratorExp elt [⟨tg, iter, ifs, 0⟩] scope gpos] X.env = (false, eval (.GeneratorExp elt [⟨tg, iter, ifs, 0⟩] scope gpos) X.env) :: starEach [] X.env := by rfl) :
    PE X (.Call (.Name "min" p) [.GeneratorExp elt [⟨tg, iter, ifs, 0⟩] scope gpos] [] pos) (tMMG betmin P wi g tt te (own.map (·.2))) := by
  refine ⟨fun pins s σ H Q I h => ?_⟩
  refine wpAny_Call_Name_kw (ld_blt I hg hm hv ?_)
  refine PyProof.Rows.callWith_builtin1 ?_ he (by rfl)
  rw [he]
  show wpAny _ _ (spliced ((false, eval (.GeneratorExp elt [⟨tg, iter, ifs, 0⟩] scope gpos) X.env) :: backTo pos (starEach [] X.env))) _ _ s
  refine Calls.spliced_cons (G.made I h fun H2 s4 fp u s' I4 f4 M => ?_)
  obtain ⟨a, gi, go, rfl, ha, ha', hgo, ego, hos, hb, kp, ig, hcl, live⟩ := made_live I4 M
  refine Calls.spliced_nil ?_
  have hname : (toString "min" ++ toString ".loop" : String) = "min.loop" := by decide
  refine call_function_tree F.kind_min F.plain_min F.entry_min (F.args_min1 _) ?_
  show wpAny _ X.A.in1 (Builtin.Builtins.bindParams "min" ["key", "default"] 0 ⟨[], []⟩ >>= _) _ _ s'
  refine wpAny_bind (wpAny_of_eq (show Builtin.Builtins.bindParams "min" ["key", "default"] 0 ⟨[], []⟩ = pure [none, none] from rfl) ?_)
  refine wpAny_bind (wpAny_pure ?_)
  refine wpAny_bind (wpAny_pyIter_gen ig ?_)
  refine wpAny_bind (wpAny_newObj_type ?_)
  rw [hname]
  have hSa : s'.heap.objs.size ≠ a := Nat.ne_of_gt ha'
  have h4 : s4.heap.objs.size < s'.heap.objs.size := Nat.lt_trans ha ha'
  have hSn : ∀ {o : Obj} {b : Addr} {u : Obj}, s'.heap.get? b = some u → (s'.heap.push o).get? b = some u := fun e => Heap.get?_push_of_some _ e
  refine wpAny_pure ⟨plainId_quiet F.plain_min_loop _, loop_min (K := fun i H' => Q (.int i) H') (S := s'.heap.objs.size) G.room.hd (by have := G.room.dp; omega) (Nat.le_of_lt h4) hSa (Nat.ne_of_gt (Nat.lt_trans hcl h4)) (fun ns x H' hm => hm) (fun ns H' hf => ?_) (fun i t H' s2 bk hK => ?_) sizeLine _
    (live _ s'.heap.objs.size (LkMM betmin) _ _ ((G.room.mono (show k + 3 ≤ k + 8 by omega)).in1.in1) I4.ok.frames h4 (fun z => absurd z hSa) (fun b o _ e => hSn e) (Heap.get?_push_size _ rfl) ⟨[], 0, rfl, .inl ⟨rfl, rfl⟩⟩ (fun v q => by cases q) rfl rfl) ⟨0, .inl (Heap.get?_push_size _ rfl)⟩⟩
  · obtain ⟨ns', m, e1, e2, e3⟩ := hf
    rw [map_int_inj e1]
    exact ⟨m, e2, e3⟩
  · exact ⟨.int i, H', inv_back I4 f4 bk, ⟨t, rfl⟩, hK⟩
end
end GX

set_option Elab.async false
set_option linter.all false
set_option maxRecDepth 100000
set_option maxHeartbeats 4000000
namespace GX
open PySem PySem.Spec PyProof.Rows L2 GenW
open GxR (TabB TabG Tabbed inv_tab)
open AutoSeq1 (wpAny_loadPart')

section
variable {P : Program} {w : World} {fs fp : List Addr} {H : Hp} {s₄ : Shared} {a : Addr} {gi : Nat} {mid : List V → V → Hp → Prop} {fin : List V → Hp → Prop}
theorem collect_live {A : Around} {E : Value → Shared → Prop} {s : Shared} {Q : List Value → Shared → Prop} (hh : A.handled = none) (hd : A.depth + 1 < recursionLimit) (ig : s.heap.IsGen a gi) (ha : a < s.heap.objs.size) (h4 : s₄.heap.objs.size < s.heap.objs.size) (hcl : cStatics < s.heap.objs.size)
    (live : ∀ (Lk : List V → Obj → Prop) (s2 : Shared) (o : Obj), (∀ b o, b ≠ s.heap.objs.size → s.heap.get? b = some o → s2.heap.get? b = some o) → s2.heap.get? s.heap.objs.size = some o → Lk [] o → (∀ v, o.data ≠ .cell v) → s2.os = s.os → s2.gens = s.gens →
      Live P w fs fp H s₄ s.heap.objs.size a gi Lk mid fin A.in1.in1 sizeLine s2)
    (hQ : ∀ (acc : Array Value) ys H' s', Bk P w fs fp H s₄ H' s' → Vals ys acc.toList → ys.length ≤ sizeLine → fin ys H' → H' s.heap.objs.size = none → Q acc.toList s') : wpAny (model P w) A (collect (.ref a)) Q E s := by
  have hSa : s.heap.objs.size ≠ a := Nat.ne_of_gt ha
  unfold collect
  refine wpAny_bind (wpAny_runValue (codeAny_builtin F.entry_proto_collect ?_))
  rw [Around.under_plainId F.plain_proto_collect _]
  show wpAny _ A.in1 (newList [] >>= fun l => again (.builtin "list.__iadd__" ⟨[l, .ref a], []⟩)) _ _ s
  refine wpAny_bind (wpAny_newObj_type ?_)
  refine wpAny_pure ⟨plainId_quiet F.plain_list_iadd _, codeAny_builtin F.entry_list_iadd ?_⟩
  rw [Around.under_plainId F.plain_list_iadd _]
  have ig1 : (s.heap.push (seqO #[] 0)).IsGen a gi := ig.keeps fun b o e => Heap.get?_push_of_some _ e
  show wpAny _ A.in1 (Builtin.List.listExtendWith (.ref s.heap.objs.size) (.ref a) (.ref s.heap.objs.size)) _ _ _
  unfold Builtin.List.listExtendWith
  refine wpAny_bind (wpAny_typeOf (Heap.IsGen.typeIs (s := { s with heap := s.heap.push (seqO #[] 0) }) ig1) ?_)
  have h1 : Builtin.List.listSameRef (.ref s.heap.objs.size) (.ref a) = false := by simp [Builtin.List.listSameRef, hSa]
  have h2 : (Value.type "generator" == Value.type "list") = false := by decide
  have h3 : (Value.type "generator" == Value.type "tuple") = false := by decide
  simp only [h1, h2, h3, Bool.or_false, Bool.false_eq_true, if_false]
  refine wpAny_bind (wpAny_pyIter_gen (s := { s with heap := s.heap.push (seqO #[] 0) }) ig1 ?_)
  refine wpAny_bind (wpAny_holding ?_)
  unfold Builtin.List.listLengthHint
  refine wpAny_bind (wpAny_specialOf (Heap.IsGen.typeIs (s := { s with heap := s.heap.push (seqO #[] 0) }) ig1) F.gen_no_len ?_)
  show wpAny _ A.in1 (specialOf (Value.ref a) (Str.ofString "__length_hint__") >>= _) _ _ _
  refine wpAny_bind (wpAny_specialOf (Heap.IsGen.typeIs (s := { s with heap := s.heap.push (seqO #[] 0) }) ig1) F.gen_no_hint ?_)
  refine wpAny_pure ?_
  show wpAny _ A.in1 (rule "list.extend.makes-room" >>= fun _ => Builtin.List.listTouch (.ref s.heap.objs.size) >>= fun _ =>
    again (.builtin "list.extend.loop" ⟨[.ref s.heap.objs.size, .ref a, .ref s.heap.objs.size], []⟩)) _ _ _
  refine wpAny_bind (wpAny_rule ?_)
  have hS1 : (s.heap.push (seqO #[] 0)).get? s.heap.objs.size = some (seqO #[] 0) := Heap.get?_push_size _ rfl
  refine wpAny_bind ?_
  show wpAny _ A.in1 (updateSeq s.heap.objs.size (·.push .none) >>= fun _ => updateSeq s.heap.objs.size (·.pop)) _ _ _
  refine wpAny_bind (wpAny_updateSeq hS1 rfl ?_)
  have hS2 := Heap.get?_update_self (Obj.mapSeq (·.push Value.none)) hS1 rfl
  refine wpAny_updateSeq hS2 rfl ?_
  have hS3 := Heap.get?_update_self (Obj.mapSeq (·.pop)) hS2 rfl
  have oth : ∀ b o, b ≠ s.heap.objs.size → s.heap.get? b = some o → (((s.heap.push (seqO #[] 0)).update s.heap.objs.size (Obj.mapSeq (·.push Value.none))).update s.heap.objs.size (Obj.mapSeq (·.pop))).get? b = some o :=
    fun b o hb e => (Heap.get?_update_other _ _ (Ne.symm hb)).trans ((Heap.get?_update_other _ _ (Ne.symm hb)).trans (Heap.get?_push_of_some _ e))
  refine wpAny_pure ⟨plainId_quiet F.plain_extend_loop _, loop_ext (A := A) hh hd (Nat.le_of_lt h4) hSa (Nat.ne_of_gt hcl) (fun ys acc c H' s' bk hS0 eS r hle hf => ?_) sizeLine _ (live LkExt _ _ oth hS3 ⟨#[], _, rfl, .nil⟩ (fun v q => by cases q) rfl rfl)⟩
  show wpAny _ A (load s.heap.objs.size >>= _) _ _ s'
  refine wpAny_bind (wpAny_load eS ?_)
  exact wpAny_pure (hQ acc ys H' s' bk r hle hf hS0)
end

section
variable {X : Cx} {c P : Addr} {elt tg iter : Expr} {ifs : List Expr} {scope : Scope} {gpos p pos : Pos} {own : List (Str × Nat)} {wi : TI} {g : TG} {tt : TT} {te : TE} {k : Nat}
theorem pe_tupG (G : GenE X c P elt tg iter ifs scope own wi g tt te k) (hg : Gl X "tuple") (hm : X.mg "tuple" = none) (hv : bootBuiltins "tuple" = some (.type "tuple") := by decide +kernel)
    (he : starEach [.GeneratorExp elt [⟨tg, iter, ifs, 0⟩] scope gpos] X.env = (false, eval (.GeneratorExp elt [⟨tg, iter, ifs, 0⟩] scope gpos) X.env) :: starEach [] X.env := by rfl) :
    PE X (.Call (.Name "tuple" p) [.GeneratorExp elt [⟨tg, iter, ifs, 0⟩] scope gpos] [] pos) (tTupG P wi g tt te (own.map (·.2))) := by
  refine ⟨fun pins s σ H Q I h => ?_⟩
  refine wpAny_Call_Name_kw (ld_blt I hg hm hv ?_)
  refine PyProof.Rows.callWith_type1 ?_ he (by rfl)
  rw [he]
  show wpAny _ _ (spliced ((false, eval (.GeneratorExp elt [⟨tg, iter, ifs, 0⟩] scope gpos) X.env) :: backTo pos (starEach [] X.env))) _ _ s
  refine Calls.spliced_cons (G.made I h fun H2 s4 fp u s' I4 f4 M => ?_)
  obtain ⟨a, gi, go, rfl, ha, ha', hgo, ego, hos, hb, kp, ig, hcl, live⟩ := made_live I4 M
  refine Calls.spliced_nil ?_
  have h4 : s4.heap.objs.size < s'.heap.objs.size := Nat.lt_trans ha ha'
  have hSa : s'.heap.objs.size ≠ a := Nat.ne_of_gt ha'
  refine callType_codes (Q₁ := fun obj s₁ => s₁.TypeIs obj "tuple" ∧ EP X pins σ Q obj s₁) F.called_tuple (F.typeCall_tuple_1 _) F.entry_object_init ?_
    fun obj s₁ h₁ => ⟨h₁.1, F.args_object_init_2 obj _, object_init_meets F.called_tuple.init.lookup F.called_tuple.made (by decide) X.prog X.w X.A.in1 _ s₁ ⟨h₁.1, rfl, h₁.2⟩⟩
  refine codeAny_of_tree ?_
  show wpAny _ X.A.in1.in1 (do checkBuiltinCall "tuple.__new__" ⟨[.type "tuple", .ref a], []⟩; again (.builtin "tuple.__new__" ⟨[.type "tuple", .ref a], []⟩)) _ _ s'
  refine wpAny_bind (wpAny_of_eq (F.newCall_tuple_1 _) (wpAny_pure ⟨plainId_quiet F.plain_tuple_new _, codeAny_builtin F.entry_tuple_new ?_⟩))
  rw [Around.under_plainId F.plain_tuple_new _]
  have hsub := sub_tuple_self
  have hinit := init_tuple_lookup
  have hmh := madeHere_tuple
  have hTI := Heap.IsGen.typeIs (s := s') ig
  have hcol : ∀ {E : Value → Shared → Prop} {Q2 : List Value → Shared → Prop}, (∀ (acc : Array Value) ys H' s2, Bk X.prog X.w (frs X.stack) fp H2 s4 H' s2 → Vals ys acc.toList → ys.length ≤ sizeLine → (∀ p, H' p = none → Q (.ref p) (upd H' p (.tup ys))) → H' s'.heap.objs.size = none → Q2 acc.toList s2) →
      wpAny (model X.prog X.w) X.A.in1.in1 (collect (.ref a)) Q2 E s' := fun {E Q2} hQ => by
    refine collect_live (P := X.prog) (w := X.w) (fs := frs X.stack) (fp := fp) (H := H2) (s₄ := s4) (mid := fun _ _ _ => True) (fin := fun ys H' => ∀ p, H' p = none → Q (.ref p) (upd H' p (.tup ys))) G.room.hd ?_ ig ha' h4 (Nat.lt_trans hcl h4) (fun Lk s2 o k2 hSo hL0 hSc os2 g2 => ?_) hQ
    · have := G.room.dp
      show X.A.depth + 1 < recursionLimit
      omega
    · exact live _ s'.heap.objs.size Lk s2 o ((G.room.mono (show k + 5 ≤ k + 8 by omega)).in1.in1.in1.in1) I4.ok.frames h4 (fun z => absurd z hSa) k2 hSo hL0 hSc os2 g2
  wp_walk using wpAny_typeOf hTI, hcol
  intro acc ys H' s2 bk r hle hf hS0
  show wpAny _ _ (Builtin.Tuple.tupleExact acc.toList.toArray >>= fun v => ret v) _ _ _
  unfold Builtin.Tuple.tupleExact
  have hsz : acc.size = ys.length := by
    have e1 := r.length
    have e2 : acc.toList.length = acc.size := by simp
    omega
  have e : acc.toList.toArray = acc := by simp
  rw [e]
  refine wpAny_bind (wpAny_newObj_type ?_ (by show acc.size ≤ sizeLine; omega))
  refine wpAny_pure ?_
  have J := inv_back I4 f4 bk
  refine ⟨⟨_, Heap.get?_push_size _ rfl, rfl⟩, .ref s2.heap.objs.size, upd H' s2.heap.objs.size (.tup ys), ?_, rfl, hf _ (J.hok.fresh (Nat.le_refl _))⟩
  exact J.laid (t' := s2.toks) (fun b o e => Heap.get?_push_of_some _ e) (Nat.le_refl _) ⟨hle, acc.toList, r, _, Heap.get?_push_size _ rfl, by simp⟩
end
end GX

set_option Elab.async false
set_option linter.all false
set_option maxRecDepth 100000
set_option maxHeartbeats 4000000
/-! Values by what they tell: a typed reading over the layer's readings. -/
namespace TP
open PySem PySem.Spec PyProof.Rows L2

/-! ### 1. relations -/
def Sub (H H' : Hp) : Prop := ∀ b o, H b = some o → H' b = some o
theorem Sub.refl (H : Hp) : Sub H H := fun _ _ e => e
theorem Sub.trans {H H1 H2 : Hp} (a : Sub H H1) (b : Sub H1 H2) : Sub H H2 := fun c o e => b c o (a c o e)
/-- what a value tells, over objects that stand -/
structure Rp (α : Type) where
  rep : Hp → V → α → Prop
  mono : ∀ {H H' : Hp} {v : V} {a : α}, Sub H H' → rep H v a → rep H' v a
def rInt : Rp Int := ⟨fun _ v a => v = .int a, fun _ h => h⟩
def rStr : Rp Str := ⟨fun _ v a => v = .str a, fun _ h => h⟩
def rBool : Rp Bool := ⟨fun _ v a => v = .bl a, fun _ h => h⟩
def rNon : Rp Unit := ⟨fun _ v _ => v = .non, fun _ h => h⟩
/-- the very value -/
def rV : Rp V := ⟨fun _ v a => v = a, fun _ h => h⟩
universe u v
inductive All2 {α : Type u} {β : Type v} (F : α → β → Prop) : List α → List β → Prop
  | nil : All2 F [] []
  | cons {a : α} {b : β} {as : List α} {bs : List β} : F a b → All2 F as bs → All2 F (a :: as) (b :: bs)
theorem All2.imp {α : Type u} {β : Type v} {F G : α → β → Prop} (h : ∀ a b, F a b → G a b) : ∀ {as : List α} {bs : List β}, All2 F as bs → All2 G as bs
  | _, _, .nil => .nil
  | _, _, .cons a r => .cons (h _ _ a) (All2.imp h r)
theorem All2.length {α : Type u} {β : Type v} {F : α → β → Prop} : ∀ {as : List α} {bs : List β}, All2 F as bs → as.length = bs.length
  | _, _, .nil => rfl
  | _, _, .cons _ r => congrArg (· + 1) r.length
theorem All2.append {α : Type u} {β : Type v} {F : α → β → Prop} : ∀ {as cs : List α} {bs ds : List β}, All2 F as bs → All2 F cs ds → All2 F (as ++ cs) (bs ++ ds)
  | _, _, _, _, .nil, h => h
  | _, _, _, _, .cons a r, h => .cons a (All2.append r h)
theorem All2.get {α : Type u} {β : Type v} {F : α → β → Prop} : ∀ {as : List α} {bs : List β} {i : Nat} {b : β}, All2 F as bs → bs[i]? = some b → ∃ a, as[i]? = some a ∧ F a b
  | _, _, _, _, .nil, e => by simp at e
  | _, _, 0, _, .cons a _, e => by simp at e; subst e; exact ⟨_, rfl, a⟩
  | _, _, i + 1, b, .cons _ r, e => by
    obtain ⟨x, h1, h2⟩ := All2.get (i := i) (b := b) r (by simpa using e)
    exact ⟨x, by simpa using h1, h2⟩
theorem All2.getL {α : Type u} {β : Type v} {F : α → β → Prop} : ∀ {as : List α} {bs : List β} {i : Nat} {a : α}, All2 F as bs → as[i]? = some a → ∃ b, bs[i]? = some b ∧ F a b
  | _, _, _, _, .nil, e => by simp at e
  | _, _, 0, _, .cons a _, e => by simp at e; subst e; exact ⟨_, rfl, a⟩
  | _, _, i + 1, b, .cons _ r, e => by
    obtain ⟨x, h1, h2⟩ := All2.getL (i := i) r (by simpa using e)
    exact ⟨x, by simpa using h1, h2⟩
/-- a list, a tuple of any length, of things of one kind -/
def rList {α : Type} (R : Rp α) : Rp (List α) := ⟨fun H v xs => ∃ p vs, v = .ref p ∧ H p = some (.lst vs) ∧ All2 (R.rep H) vs xs, fun k ⟨p, vs, e, h, r⟩ => ⟨p, vs, e, k _ _ h, r.imp fun _ _ => R.mono k⟩⟩
def rTup {α : Type} (R : Rp α) : Rp (List α) := ⟨fun H v xs => ∃ p vs, v = .ref p ∧ H p = some (.tup vs) ∧ All2 (R.rep H) vs xs, fun k ⟨p, vs, e, h, r⟩ => ⟨p, vs, e, k _ _ h, r.imp fun _ _ => R.mono k⟩⟩
/-- tuples of two, three, four places -/
def rT2 {α β : Type} (R : Rp α) (S : Rp β) : Rp (α × β) := ⟨fun H v x => ∃ p a b, v = .ref p ∧ H p = some (.tup [a, b]) ∧ R.rep H a x.1 ∧ S.rep H b x.2, fun k ⟨p, a, b, e, h, r, s⟩ => ⟨p, a, b, e, k _ _ h, R.mono k r, S.mono k s⟩⟩
def rT3 {α β γ : Type} (R : Rp α) (S : Rp β) (T : Rp γ) : Rp (α × β × γ) :=
  ⟨fun H v x => ∃ p a b c, v = .ref p ∧ H p = some (.tup [a, b, c]) ∧ R.rep H a x.1 ∧ S.rep H b x.2.1 ∧ T.rep H c x.2.2, fun k ⟨p, a, b, c, e, h, r, s, t⟩ => ⟨p, a, b, c, e, k _ _ h, R.mono k r, S.mono k s, T.mono k t⟩⟩
def rT4 {α β γ δ : Type} (R : Rp α) (S : Rp β) (T : Rp γ) (U : Rp δ) : Rp (α × β × γ × δ) :=
  ⟨fun H v x => ∃ p a b c d, v = .ref p ∧ H p = some (.tup [a, b, c, d]) ∧ R.rep H a x.1 ∧ S.rep H b x.2.1 ∧ T.rep H c x.2.2.1 ∧ U.rep H d x.2.2.2, fun k ⟨p, a, b, c, d, e, h, r, s, t, u⟩ => ⟨p, a, b, c, d, e, k _ _ h, R.mono k r, S.mono k s, T.mono k t, U.mono k u⟩⟩
/-- None or that -/
def rOpt {α : Type} (R : Rp α) : Rp (Option α) := ⟨fun H v x => match x with
  | none => v = .non
  | some a => R.rep H v a, fun {H H' v a} k h => by
    cases a with
    | none => exact h
    | some a => exact R.mono k h⟩
/-- this or that -/
def rSum {α β : Type} (R : Rp α) (S : Rp β) : Rp (Sum α β) := ⟨fun H v x => match x with
  | .inl a => R.rep H v a
  | .inr b => S.rep H v b, fun {H H' v a} k h => by
    cases a with
    | inl a => exact R.mono k h
    | inr b => exact S.mono k h⟩
/-- a dict with texts as keys, in order -/
def keyS (q : Str) : Key := Sum.inr q
def rDict {α : Type} (R : Rp α) : Rp (List (Str × α)) := ⟨fun H v xs => ∃ p kvs, v = .ref p ∧ H p = some (.dK kvs) ∧ All2 (fun q x => q.1 = keyS x.1 ∧ R.rep H q.2 x.2) kvs xs,
  fun k ⟨p, vs, e, h, r⟩ => ⟨p, vs, e, k _ _ h, r.imp fun _ _ z => ⟨z.1, R.mono k z.2⟩⟩⟩
/-- told through a function -/
def rMap {α β : Type} (f : β → α) (R : Rp α) : Rp β := ⟨fun H v b => R.rep H v (f b), fun k h => R.mono k h⟩

/-! ### 2. what is hidden, what is kept -/
/-- the heap without what may change -/
def hid (M : List Addr) (H : Hp) : Hp := fun b => if b ∈ M then none else H b
theorem hid_some {M : List Addr} {H : Hp} {b : Addr} {o : HO} (h : hid M H b = some o) : b ∉ M ∧ H b = some o := by
  unfold hid at h
  by_cases hb : b ∈ M
  · rw [if_pos hb] at h; cases h
  · rw [if_neg hb] at h; exact ⟨hb, h⟩
theorem hid_of {M : List Addr} {H : Hp} {b : Addr} {o : HO} (hb : b ∉ M) (h : H b = some o) : hid M H b = some o := by
  unfold hid
  rw [if_neg hb]; exact h
theorem hid_sub {M : List Addr} {H : Hp} : Sub (hid M H) H := fun b o e => (hid_some e).2
theorem hid_less {M M' : List Addr} {H : Hp} (h : ∀ b ∈ M', b ∈ M) : Sub (hid M H) (hid M' H) := fun b o e => hid_of (fun z => (hid_some e).1 (h b z)) (hid_some e).2
/-- kept but for what is in N -/
def Ex (N : List Addr) (H H' : Hp) : Prop := ∀ b o, b ∉ N → H b = some o → H' b = some o
theorem Ex.refl {N : List Addr} {H : Hp} : Ex N H H := fun _ _ _ e => e
theorem Ex.trans {N : List Addr} {H H1 H2 : Hp} (a : Ex N H H1) (b : Ex N H1 H2) : Ex N H H2 := fun c o n e => b c o n (a c o n e)
theorem Ex.more {N N' : List Addr} {H H' : Hp} (a : Ex N H H') (h : ∀ b ∈ N, b ∈ N') : Ex N' H H' := fun c o n e => a c o (fun z => n (h c z)) e
theorem Ex.hid {N M : List Addr} {H H' : Hp} (a : Ex N H H') (h : ∀ b ∈ N, b ∈ M) : Sub (hid M H) (hid M H') := fun b o e => hid_of (hid_some e).1 (a b o (fun z => (hid_some e).1 (h b z)) (hid_some e).2)
theorem Ex.new {N : List Addr} {H : Hp} {p : Addr} {o : HO} (h : H p = none) : Ex N H (upd H p o) := fun b u _ e => by
  rw [upd_ne (ne_of_none e h)]; exact e
theorem Ex.at {N : List Addr} {H H' : Hp} {p : Addr} {o : HO} (a : Ex N H H') (h : p ∈ N) : Ex N H (upd H' p o) := fun b u n e => by
  rw [upd_ne (fun z => n (by rw [z]; exact h))]; exact a b u n e
/-- the tables of code objects stand -/
def WF (G : List Addr) (H : Hp) : Prop := ∀ P ∈ G, GxR.TabG H P
structure Ok (G M : List Addr) (H : Hp) : Prop where
  sub : ∀ P ∈ G, P ∈ M
  al : ∀ m ∈ M, H m ≠ none
  wf : WF G H
theorem Ok.fresh {G M : List Addr} {H : Hp} {p : Addr} (k : Ok G M H) (h : H p = none) : p ∉ M := fun z => k.al p z h
theorem WF.new {G : List Addr} {H : Hp} {p : Addr} {o : HO} (w : WF G H) (h : H p = none) : WF G (upd H p o) := fun P hP => by
  obtain ⟨ps, e, t⟩ := w P hP
  exact ⟨ps, by rw [upd_ne (ne_of_none e h)]; exact e, t⟩
theorem Ok.new {G M : List Addr} {H : Hp} {p : Addr} {o : HO} (k : Ok G M H) (h : H p = none) : Ok G M (upd H p o) := ⟨k.sub, fun m hm z => by
  by_cases e : m = p
  · rw [e, upd_same] at z; cases z
  · rw [upd_ne e] at z; exact k.al m hm z, k.wf.new h⟩
theorem hid_new {M : List Addr} {H : Hp} {p : Addr} {o : HO} (hp : p ∉ M) (h : H p = none) : Sub (hid M H) (hid M (upd H p o)) := (Ex.new (N := []) h).hid (by simp)

/-! ### 3. slots -/
/-- an owned thing: what is hidden, the whole heap, its own addresses in order, its value -/
structure Ow where
  own : Hp → Hp → List Addr → V → Prop
  mono : ∀ {h h' H H' : Hp} {ps : List Addr} {v : V}, Sub h h' → (∀ p ∈ ps, H' p = H p) → own h H ps v → own h' H' ps v
inductive Sl where
  | no
  | val {α : Type} (R : Rp α) (a : α)
  | own (O : Ow)
/-- an owned list, its address known by c -/
def oLstP {α : Type} (c : Addr → Prop) (R : Rp α) (xs : List α) : Ow := ⟨fun h H ps v => ∃ p vs, c p ∧ v = .ref p ∧ ps = [p] ∧ H p = some (.lst vs) ∧ All2 (R.rep h) vs xs, fun k e ⟨p, vs, hc, e1, e2, e3, r⟩ =>
  ⟨p, vs, hc, e1, e2, by rw [e p (by rw [e2]; exact List.mem_singleton.mpr rfl)]; exact e3, r.imp fun _ _ => R.mono k⟩⟩
abbrev oLst {α : Type} (R : Rp α) (xs : List α) : Ow := oLstP (fun _ => True) R xs
/-- an owned dict with texts as keys -/
def oDct {α : Type} (R : Rp α) (xs : List (Str × α)) : Ow := ⟨fun h H ps v => ∃ p kvs, v = .ref p ∧ ps = [p] ∧ H p = some (.dK kvs) ∧ All2 (fun q x => q.1 = keyS x.1 ∧ R.rep h q.2 x.2) kvs xs, fun k e ⟨p, vs, e1, e2, e3, r⟩ =>
  ⟨p, vs, e1, e2, by rw [e p (by rw [e2]; exact List.mem_singleton.mpr rfl)]; exact e3, r.imp fun _ _ z => ⟨z.1, R.mono k z.2⟩⟩⟩
abbrev Ctx := List Sl
def EnvR (h H : Hp) : L2.St → Ctx → List Addr → Prop
  | [], [], ps => ps = []
  | _ :: σ, .no :: Γ, ps => EnvR h H σ Γ ps
  | ov :: σ, .val R a :: Γ, ps => (∃ v, ov = some v ∧ R.rep h v a) ∧ EnvR h H σ Γ ps
  | ov :: σ, .own O :: Γ, ps => ∃ v p1 p2, ov = some v ∧ ps = p1 ++ p2 ∧ O.own h H p1 v ∧ EnvR h H σ Γ p2
  | _, _, _ => False
structure Env (G M : List Addr) (H : Hp) (own : List Addr) (σ : L2.St) (Γ : Ctx) : Prop where
  nd : own.Nodup
  sub : ∀ p ∈ own, p ∈ M
  out : ∀ p ∈ own, p ∉ G
  env : EnvR (hid M H) H σ Γ own
theorem EnvR.mono {h h' H H' : Hp} (k : Sub h h') : ∀ {σ : L2.St} {Γ : Ctx} {ps : List Addr}, (∀ p ∈ ps, H' p = H p) → EnvR h H σ Γ ps → EnvR h' H' σ Γ ps
  | [], [], _, _, x => x
  | _ :: σ, .no :: Γ, ps, e, x => EnvR.mono (σ := σ) (Γ := Γ) k e x
  | ov :: σ, .val R a :: Γ, ps, e, ⟨⟨v, e1, r⟩, x⟩ => ⟨⟨v, e1, R.mono k r⟩, EnvR.mono (σ := σ) (Γ := Γ) k e x⟩
  | ov :: σ, .own O :: Γ, ps, e, ⟨v, p1, p2, e1, e2, r, x⟩ => ⟨v, p1, p2, e1, e2, O.mono k (fun p hp => e p (by rw [e2]; exact List.mem_append_left _ hp)) r, EnvR.mono (σ := σ) (Γ := Γ) k (fun p hp => e p (by rw [e2]; exact List.mem_append_right _ hp)) x⟩
  | [], .no :: _, _, _, x => x.elim
  | [], .val _ _ :: _, _, _, x => x.elim
  | [], .own _ :: _, _, _, x => x.elim
  | _ :: _, [], _, _, x => x.elim
theorem EnvR.length {h H : Hp} : ∀ {σ : L2.St} {Γ : Ctx} {ps : List Addr}, EnvR h H σ Γ ps → σ.length = Γ.length
  | [], [], _, _ => rfl
  | _ :: σ, .no :: Γ, ps, x => congrArg (· + 1) (EnvR.length (σ := σ) (Γ := Γ) x)
  | ov :: σ, .val R a :: Γ, ps, ⟨_, x⟩ => congrArg (· + 1) (EnvR.length (σ := σ) (Γ := Γ) x)
  | ov :: σ, .own O :: Γ, ps, ⟨v, p1, p2, e1, e2, r, x⟩ => congrArg (· + 1) (EnvR.length (σ := σ) (Γ := Γ) x)
  | [], .no :: _, _, x => x.elim
  | [], .val _ _ :: _, _, x => x.elim
  | [], .own _ :: _, _, x => x.elim
  | _ :: _, [], _, x => x.elim
theorem EnvR.get {h H : Hp} {α : Type} {R : Rp α} {a : α} : ∀ {σ : L2.St} {Γ : Ctx} {ps : List Addr} {i : Nat}, EnvR h H σ Γ ps → Γ[i]? = some (.val R a) → ∃ v, σ[i]? = some (some v) ∧ R.rep h v a
  | [], [], _, _, _, e => by simp at e
  | _ :: σ, .no :: Γ, ps, 0, x, e => by simp at e
  | _ :: σ, .no :: Γ, ps, i + 1, x, e => by
    obtain ⟨v, h1, h2⟩ := EnvR.get (σ := σ) (Γ := Γ) (i := i) x (by simpa using e)
    exact ⟨v, by simpa using h1, h2⟩
  | ov :: σ, .val R' a' :: Γ, ps, 0, ⟨⟨v, e1, r⟩, x⟩, e => by
    simp at e
    obtain ⟨e2, e3, e4⟩ := e
    subst e2
    cases e3
    cases e4
    exact ⟨v, by simp [e1], r⟩
  | ov :: σ, .val R' a' :: Γ, ps, i + 1, ⟨_, x⟩, e => by
    obtain ⟨v, h1, h2⟩ := EnvR.get (σ := σ) (Γ := Γ) (i := i) x (by simpa using e)
    exact ⟨v, by simpa using h1, h2⟩
  | ov :: σ, .own O :: Γ, ps, 0, x, e => by simp at e
  | ov :: σ, .own O :: Γ, ps, i + 1, ⟨v, p1, p2, e1, e2, r, x⟩, e => by
    obtain ⟨v, h1, h2⟩ := EnvR.get (σ := σ) (Γ := Γ) (i := i) x (by simpa using e)
    exact ⟨v, by simpa using h1, h2⟩
  | [], .no :: _, _, _, x, _ => x.elim
  | [], .val _ _ :: _, _, _, x, _ => x.elim
  | [], .own _ :: _, _, _, x, _ => x.elim
  | _ :: _, [], _, _, x, _ => x.elim
/-- a slot is stored that holds nothing of one's own -/
def Plain : Sl → Prop
  | .own _ => False
  | _ => True
theorem EnvR.set {h H : Hp} {α : Type} {R : Rp α} {a : α} {v : V} (r : R.rep h v a) : ∀ {σ : L2.St} {Γ : Ctx} {ps : List Addr} {i : Nat}, EnvR h H σ Γ ps → (∀ s, Γ[i]? = some s → Plain s) → EnvR h H (σ.set i (some v)) (Γ.set i (.val R a)) ps
  | [], [], _, _, x, _ => x
  | _ :: σ, .no :: Γ, ps, 0, x, e => ⟨⟨v, rfl, r⟩, x⟩
  | _ :: σ, .no :: Γ, ps, i + 1, x, e => EnvR.set r (σ := σ) (Γ := Γ) (i := i) x fun s z => e s (by simpa using z)
  | ov :: σ, .val R' a' :: Γ, ps, 0, ⟨_, x⟩, e => ⟨⟨v, rfl, r⟩, x⟩
  | ov :: σ, .val R' a' :: Γ, ps, i + 1, ⟨y, x⟩, e => ⟨y, EnvR.set r (σ := σ) (Γ := Γ) (i := i) x fun s z => e s (by simpa using z)⟩
  | ov :: σ, .own O :: Γ, ps, 0, x, e => (e (.own O) (by simp)).elim
  | ov :: σ, .own O :: Γ, ps, i + 1, ⟨w, p1, p2, e1, e2, y, x⟩, e => ⟨w, p1, p2, e1, e2, y, EnvR.set r (σ := σ) (Γ := Γ) (i := i) x fun s z => e s (by simpa using z)⟩
  | [], .no :: _, _, _, x, _ => x.elim
  | [], .val _ _ :: _, _, _, x, _ => x.elim
  | [], .own _ :: _, _, _, x, _ => x.elim
  | _ :: _, [], _, _, x, _ => x.elim
/-- forgetting a slot -/
inductive Le : Ctx → Ctx → Prop
  | nil : Le [] []
  | no {s : Sl} {Γ Γ' : Ctx} : Plain s → Le Γ Γ' → Le (s :: Γ) (.no :: Γ')
  | same {s : Sl} {Γ Γ' : Ctx} : Le Γ Γ' → Le (s :: Γ) (s :: Γ')
theorem Le.refl : ∀ Γ : Ctx, Le Γ Γ
  | [] => .nil
  | _ :: Γ => .same (Le.refl Γ)
theorem EnvR.le {h H : Hp} {Γ Γ' : Ctx} (l : Le Γ Γ') : ∀ {σ : L2.St} {ps : List Addr}, EnvR h H σ Γ ps → EnvR h H σ Γ' ps := by
  induction l with
  | nil => intro σ ps x; exact x
  | @no s Γ Γ' p _ ih =>
    intro σ ps x
    cases σ with
    | nil => cases s <;> exact x.elim
    | cons ov σ =>
      cases s with
      | no => exact ih (σ := σ) x
      | val R a => exact ih (σ := σ) x.2
      | own O => exact p.elim
  | @same s Γ Γ' _ ih =>
    intro σ ps x
    cases σ with
    | nil => cases s <;> exact x.elim
    | cons ov σ =>
      cases s with
      | no => exact ih (σ := σ) x
      | val R a => exact ⟨x.1, ih (σ := σ) x.2⟩
      | own O =>
        obtain ⟨v, p1, p2, e1, e2, r, x⟩ := x
        exact ⟨v, p1, p2, e1, e2, r, ih (σ := σ) x⟩
end TP

set_option Elab.async false
set_option linter.all false
set_option maxRecDepth 100000
set_option maxHeartbeats 4000000
namespace TP
open PySem PySem.Spec PyProof.Rows L2

section
variable {G M own : List Addr} {H H' : Hp} {σ : L2.St} {Γ Γ' Γ1 Γ2 Γ3 Γ4 : Ctx}
theorem Env.al (k : Ok G M H) (e : Env G M H own σ Γ) {p : Addr} (hp : p ∈ own) : ∃ o, H p = some o := by
  cases h : H p with
  | none => exact (k.al p (e.sub p hp) h).elim
  | some o => exact ⟨o, rfl⟩
theorem Env.allSub (k : Ok G M H) (e : Env G M H own σ Γ) : ∀ b ∈ G ++ own, b ∈ M := fun b hb => (List.mem_append.mp hb).elim (k.sub b) (e.sub b)
/-- behind what changes none of one's own -/
theorem Env.ext (k : Ok G M H) (e : Env G M H own σ Γ) (x : Ex G H H') : Env G M H' own σ Γ :=
  ⟨e.nd, e.sub, e.out, e.env.mono (x.hid k.sub) fun p hp => by
    obtain ⟨o, h⟩ := e.al k hp
    rw [h, x p o (e.out p hp) h]⟩
theorem Ok.ext (k : Ok G M H) (x : Ex G H H') (w : WF G H') : Ok G M H' := by
  refine ⟨k.sub, fun m hm z => ?_, w⟩
  by_cases hG : m ∈ G
  · obtain ⟨ps, e, _⟩ := w m hG
    rw [e] at z; cases z
  · cases h : H m with
    | none => exact k.al m hm h
    | some o => rw [x m o hG h] at z; cases z

/-! ### the judgements -/
/-- te gives what tells a by R; the slots' things are then those of Γ' -/
def E (G : List Addr) (Γ : Ctx) (te : TE) (Γ' : Ctx) {α : Type} (R : Rp α) (a : α) : Prop :=
  ∀ M own σ H, Ok G M H → Env G M H own σ Γ → ∀ Q : VK, (∀ v H', Ex (G ++ own) H H' → Ok G M H' → Env G M H' own σ Γ' → R.rep (hid M H') v a → Q v H') → te σ H Q
def ET (G : List Addr) (Γ : Ctx) (tt : TT) (Γ' : Ctx) (b : Bool) : Prop :=
  ∀ M own σ H, Ok G M H → Env G M H own σ Γ → ∀ Q : Bool → Hp → Prop, (∀ H', Ex (G ++ own) H H' → Ok G M H' → Env G M H' own σ Γ' → Q b H') → tt σ H Q
structure Dy where
  {α : Type}
  R : Rp α
  a : α
def EA (G : List Addr) (Γ : Ctx) (ta : TA) (Γ' : Ctx) (ds : List Dy) : Prop :=
  ∀ M own σ H, Ok G M H → Env G M H own σ Γ → ∀ Q : List V → Hp → Prop, (∀ vs H', Ex (G ++ own) H H' → Ok G M H' → Env G M H' own σ Γ' → All2 (fun v (d : Dy) => d.R.rep (hid M H') v d.a) vs ds → Q vs H') → ta σ H Q
/-- two operands by their values -/
def Op2 (G : List Addr) (r : R2) {α β γ : Type} (R : Rp α) (x : α) (S : Rp β) (y : β) (T : Rp γ) (z : γ) : Prop :=
  ∀ M H v u (Q : VK), Ok G M H → R.rep (hid M H) v x → S.rep (hid M H) u y → (∀ w H', Ex G H H' → Ok G M H' → T.rep (hid M H') w z → Q w H') → r v u H Q
def Cl (G : List Addr) (r : List V → Hp → VK → Prop) (ds : List Dy) {γ : Type} (T : Rp γ) (z : γ) : Prop :=
  ∀ M H vs (Q : VK), Ok G M H → All2 (fun v (d : Dy) => d.R.rep (hid M H) v d.a) vs ds → (∀ w H', Ex G H H' → Ok G M H' → T.rep (hid M H') w z → Q w H') → r vs H Q

variable {α β γ δ : Type} {R : Rp α} {S : Rp β} {T : Rp γ} {U : Rp δ} {x : α} {y : β} {z : γ} {ta tb tc te : TE} {tt tu : TT} {r : R2}
theorem e_is {x' : α} (h : E G Γ te Γ' R x) (e : x = x') : E G Γ te Γ' R x' := e ▸ h
theorem e_var {i : Nat} (h : Γ[i]? = some (.val R x)) : E G Γ (tVar i) Γ R x := fun M own σ H k e Q q => by
  obtain ⟨v, h1, h2⟩ := e.env.get h
  exact ⟨v, h1, q v H Ex.refl k e h2⟩
theorem e_int {i : Int} : E G Γ (tC (.int i)) Γ rInt i := fun M own σ H k e Q q => q _ H Ex.refl k e rfl
theorem e_str {i : Str} : E G Γ (tC (.str i)) Γ rStr i := fun M own σ H k e Q q => q _ H Ex.refl k e rfl
theorem e_bl {i : Bool} : E G Γ (tC (.bl i)) Γ rBool i := fun M own σ H k e Q q => q _ H Ex.refl k e rfl
theorem e_non : E G Γ (tC .non) Γ rNon () := fun M own σ H k e Q q => q _ H Ex.refl k e rfl
theorem e_v {v : V} : E G Γ (tC v) Γ rV v := fun M own σ H k e Q q => q _ H Ex.refl k e rfl
theorem e_op (ha : E G Γ ta Γ1 R x) (hb : E G Γ1 tb Γ2 S y) (hr : Op2 G r R x S y T z) : E G Γ (tOp r ta tb) Γ2 T z := fun M own σ H k e Q q =>
  ha M own σ H k e _ fun v H1 x1 k1 e1 r1 => hb M own σ H1 k1 e1 _ fun u H2 x2 k2 e2 r2 => hr M H2 v u Q k2 (R.mono (x2.hid (e1.allSub k1)) r1) r2 fun w H3 x3 k3 r3 =>
    q w H3 ((x1.trans x2).trans (x3.more fun b hb => List.mem_append_left _ hb)) k3 (e2.ext k2 x3) r3
theorem op_I0 {g : Int → Int → V} {f : Int → Int → γ} {i j : Int} (h : ∀ H, T.rep H (g i j) (f i j)) : Op2 G (rI0 g) rInt i rInt j T (f i j) := fun M H v u Q k rv ru q => by
  subst rv ru
  exact ⟨i, j, rfl, rfl, q _ H Ex.refl k (h _)⟩
theorem op_I {C : Int → Int → Prop} {g : Int → Int → V} {f : Int → Int → γ} {i j : Int} (hc : C i j) (h : ∀ H, T.rep H (g i j) (f i j)) : Op2 G (rI C g) rInt i rInt j T (f i j) := fun M H v u Q k rv ru q => by
  subst rv ru
  exact ⟨i, j, rfl, rfl, hc, q _ H Ex.refl k (h _)⟩
section
variable {i j : Int}
theorem e_add (ha : E G Γ ta Γ1 rInt i) (hb : E G Γ1 tb Γ2 rInt j) : E G Γ (tOp (rI0 fun i j => .int (i + j)) ta tb) Γ2 rInt (i + j) := e_op ha hb (op_I0 (f := fun i j => i + j) fun _ => rfl)
theorem e_sub (ha : E G Γ ta Γ1 rInt i) (hb : E G Γ1 tb Γ2 rInt j) : E G Γ (tOp (rI0 fun i j => .int (i - j)) ta tb) Γ2 rInt (i - j) := e_op ha hb (op_I0 (f := fun i j => i - j) fun _ => rfl)
theorem e_mul (ha : E G Γ ta Γ1 rInt i) (hb : E G Γ1 tb Γ2 rInt j) (hc : CMul i j) : E G Γ (tOp (rI CMul fun i j => .int (i * j)) ta tb) Γ2 rInt (i * j) := e_op ha hb (op_I (f := fun i j => i * j) hc fun _ => rfl)
theorem e_mulW (ha : E G Γ ta Γ1 rInt i) (hb : E G Γ1 tb Γ2 rInt j) (hc : CMulW i j) : E G Γ (tOp (rI CMulW fun i j => .int (i * j)) ta tb) Γ2 rInt (i * j) := e_op ha hb (op_I (f := fun i j => i * j) hc fun _ => rfl)
theorem e_fdiv (ha : E G Γ ta Γ1 rInt i) (hb : E G Γ1 tb Γ2 rInt j) (hc : CDiv i j) : E G Γ (tOp (rI CDiv fun i j => .int (i / j)) ta tb) Γ2 rInt (i / j) := e_op ha hb (op_I (f := fun i j => i / j) hc fun _ => rfl)
theorem e_fdivW (ha : E G Γ ta Γ1 rInt i) (hb : E G Γ1 tb Γ2 rInt j) (hc : CDivW i j) : E G Γ (tOp (rI CDivW fun i j => .int (i / j)) ta tb) Γ2 rInt (i / j) := e_op ha hb (op_I (f := fun i j => i / j) hc fun _ => rfl)
theorem e_mod (ha : E G Γ ta Γ1 rInt i) (hb : E G Γ1 tb Γ2 rInt j) (hc : 0 < j) : E G Γ (tOp (rI (fun _ j => 0 < j) fun i j => .int (i % j)) ta tb) Γ2 rInt (i % j) := e_op ha hb (op_I (f := fun i j => i % j) hc fun _ => rfl)
theorem e_neg (ha : E G Γ ta Γ1 rInt i) : E G Γ (tUn (rU fun i => .int (-i)) ta) Γ1 rInt (-i) := fun M own σ H k e Q q =>
  ha M own σ H k e _ fun v H1 x1 k1 e1 r1 => ⟨i, r1, q _ H1 x1 k1 e1 rfl⟩
theorem e_lt (ha : E G Γ ta Γ1 rInt i) (hb : E G Γ1 tb Γ2 rInt j) : E G Γ (tOp (rI0 fun i j => .bl (decide (i < j))) ta tb) Γ2 rBool (decide (i < j)) := e_op ha hb (op_I0 (f := fun i j => decide (i < j)) fun _ => rfl)
theorem e_le (ha : E G Γ ta Γ1 rInt i) (hb : E G Γ1 tb Γ2 rInt j) : E G Γ (tOp (rI0 fun i j => .bl (decide (i ≤ j))) ta tb) Γ2 rBool (decide (i ≤ j)) := e_op ha hb (op_I0 (f := fun i j => decide (i ≤ j)) fun _ => rfl)
theorem e_gt (ha : E G Γ ta Γ1 rInt i) (hb : E G Γ1 tb Γ2 rInt j) : E G Γ (tOp (rI0 fun i j => .bl (decide (j < i))) ta tb) Γ2 rBool (decide (j < i)) := e_op ha hb (op_I0 (f := fun i j => decide (j < i)) fun _ => rfl)
theorem e_ge (ha : E G Γ ta Γ1 rInt i) (hb : E G Γ1 tb Γ2 rInt j) : E G Γ (tOp (rI0 fun i j => .bl (decide (j ≤ i))) ta tb) Γ2 rBool (decide (j ≤ i)) := e_op ha hb (op_I0 (f := fun i j => decide (j ≤ i)) fun _ => rfl)
theorem e_eqI (ha : E G Γ ta Γ1 rInt i) (hb : E G Γ1 tb Γ2 rInt j) : E G Γ (tOp rEq ta tb) Γ2 rBool (decide (i = j)) := e_op ha hb fun M H v u Q k rv ru q => by
  subst rv ru
  exact ⟨rfl, q _ H Ex.refl k (by show V.bl _ = V.bl _; simp)⟩
theorem e_neI (ha : E G Γ ta Γ1 rInt i) (hb : E G Γ1 tb Γ2 rInt j) : E G Γ (tOp rNe ta tb) Γ2 rBool (!decide (i = j)) := e_op ha hb fun M H v u Q k rv ru q => by
  subst rv ru
  exact ⟨rfl, q _ H Ex.refl k (by show V.bl _ = V.bl _; simp)⟩
theorem e_abs {tr : TA} (ha : EA G Γ tr Γ1 [⟨rInt, i⟩]) : E G Γ (tCB (fun xs H Q => ∃ i, xs = [.int i] ∧ Q (.int (if i < 0 then -i else i)) H) tr) Γ1 rInt (if i < 0 then -i else i) := fun M own σ H k e Q q =>
  ha M own σ H k e _ fun vs H1 x1 k1 e1 r1 => by
    cases r1 with
    | cons h r => cases r; cases h; exact ⟨i, rfl, q _ H1 x1 k1 e1 rfl⟩
end
section
variable {i j : Str}
theorem e_eqS (ha : E G Γ ta Γ1 rStr i) (hb : E G Γ1 tb Γ2 rStr j) : E G Γ (tOp rEq ta tb) Γ2 rBool (decide (i = j)) := e_op ha hb fun M H v u Q k rv ru q => by
  subst rv ru
  exact ⟨rfl, q _ H Ex.refl k (by show V.bl _ = V.bl _; simp)⟩
theorem e_neS (ha : E G Γ ta Γ1 rStr i) (hb : E G Γ1 tb Γ2 rStr j) : E G Γ (tOp rNe ta tb) Γ2 rBool (!decide (i = j)) := e_op ha hb fun M H v u Q k rv ru q => by
  subst rv ru
  exact ⟨rfl, q _ H Ex.refl k (by show V.bl _ = V.bl _; simp)⟩
theorem e_cat (ha : E G Γ ta Γ1 rStr i) (hb : E G Γ1 tb Γ2 rStr j) (hl : i.length + j.length ≤ sizeLine) : E G Γ (tOp (fun x y H Q => ∃ i j, x = .str i ∧ y = .str j ∧ i.length + j.length ≤ sizeLine ∧ Q (.str (i ++ j)) H) ta tb) Γ2 rStr (i ++ j) := e_op ha hb fun M H v u Q k rv ru q => by
  subst rv ru
  exact ⟨i, j, rfl, rfl, hl, q _ H Ex.refl k rfl⟩
end
/-! ### truth -/
section
variable {b c d : Bool}
theorem t_of (h : E G Γ te Γ' rBool b) : ET G Γ (tTest te) Γ' b := fun M own σ H k e Q q => h M own σ H k e _ fun v H1 x1 k1 e1 r1 => ⟨b, r1, q H1 x1 k1 e1⟩
theorem t_B (h : E G Γ te Γ' rBool b) : ET G Γ (tB te) Γ' b := fun M own σ H k e Q q => h M own σ H k e _ fun v H1 x1 k1 e1 r1 => ⟨b, r1, q H1 x1 k1 e1⟩
theorem t_is {b' : Bool} (h : ET G Γ tt Γ' b) (e : b = b') : ET G Γ tt Γ' b' := e ▸ h
theorem t_not (h : ET G Γ tt Γ' b) : ET G Γ (tNot tt) Γ' (!b) := fun M own σ H k e Q q => h M own σ H k e _ q
theorem t_and (h : ET G Γ tt Γ b) (h2 : b = true → ET G Γ tu Γ c) : ET G Γ (tAnd tt tu) Γ (b && c) := fun M own σ H k e Q q => h M own σ H k e _ fun H1 x1 k1 e1 => by
  cases b with
  | true => exact h2 rfl M own σ H1 k1 e1 _ fun H2 x2 k2 e2 => q H2 (x1.trans x2) k2 e2
  | false => exact q H1 x1 k1 e1
theorem t_or (h : ET G Γ tt Γ b) (h2 : b = false → ET G Γ tu Γ c) : ET G Γ (tOr tt tu) Γ (b || c) := fun M own σ H k e Q q => h M own σ H k e _ fun H1 x1 k1 e1 => by
  cases b with
  | true => exact q H1 x1 k1 e1
  | false => exact h2 rfl M own σ H1 k1 e1 _ fun H2 x2 k2 e2 => q H2 (x1.trans x2) k2 e2
theorem t_yes : ET G Γ tYes Γ true := fun M own σ H k e Q q => q H Ex.refl k e
theorem e_and (h : E G Γ ta Γ rBool b) (h2 : b = true → E G Γ tb Γ rBool c) : E G Γ (tAndV ta tb) Γ rBool (b && c) := fun M own σ H k e Q q => h M own σ H k e _ fun v H1 x1 k1 e1 r1 => ⟨b, r1, by
  cases b with
  | true => exact h2 rfl M own σ H1 k1 e1 _ fun w H2 x2 k2 e2 r2 => q w H2 (x1.trans x2) k2 e2 r2
  | false => exact q _ H1 x1 k1 e1 rfl⟩
theorem e_or (h : E G Γ ta Γ rBool b) (h2 : b = false → E G Γ tb Γ rBool c) : E G Γ (tOrV ta tb) Γ rBool (b || c) := fun M own σ H k e Q q => h M own σ H k e _ fun v H1 x1 k1 e1 r1 => ⟨b, r1, by
  cases b with
  | true => exact q _ H1 x1 k1 e1 rfl
  | false => exact h2 rfl M own σ H1 k1 e1 _ fun w H2 x2 k2 e2 r2 => q w H2 (x1.trans x2) k2 e2 r2⟩
theorem e_not (h : E G Γ ta Γ' rBool b) : E G Γ (tNotV ta) Γ' rBool (!b) := fun M own σ H k e Q q => h M own σ H k e _ fun v H1 x1 k1 e1 r1 => ⟨b, r1, q _ H1 x1 k1 e1 rfl⟩
theorem e_if (h : ET G Γ tt Γ b) (h1 : b = true → E G Γ ta Γ' R x) (h2 : b = false → E G Γ tb Γ' R x) : E G Γ (tIf tt ta tb) Γ' R x := fun M own σ H k e Q q => h M own σ H k e _ fun H1 x1 k1 e1 => by
  cases b with
  | true => exact h1 rfl M own σ H1 k1 e1 _ fun w H2 x2 k2 e2 r2 => q w H2 (x1.trans x2) k2 e2 r2
  | false => exact h2 rfl M own σ H1 k1 e1 _ fun w H2 x2 k2 e2 r2 => q w H2 (x1.trans x2) k2 e2 r2
/-- .. both ways told at once -/
theorem e_ite {x y : α} (h : ET G Γ tt Γ b) (h1 : b = true → E G Γ ta Γ' R x) (h2 : b = false → E G Γ tb Γ' R y) : E G Γ (tIf tt ta tb) Γ' R (if b = true then x else y) :=
  e_if h (fun e => by rw [if_pos e]; exact h1 e) (fun e => by rw [if_neg (by rw [e]; exact Bool.false_ne_true)]; exact h2 e)
/-- a < b < c -/
theorem e_chain {r r' : R2} {z : γ} (ha : E G Γ ta Γ R x) (hb : E G Γ tb Γ S y) (hr : Op2 G r R x S y rBool b) (hc : b = true → E G Γ tc Γ T z) (hr' : Op2 G r' S y T z rBool c) : E G Γ (tChain r r' ta tb tc) Γ rBool (b && c) := fun M own σ H k e Q q =>
  ha M own σ H k e _ fun v H1 x1 k1 e1 r1 => hb M own σ H1 k1 e1 _ fun u H2 x2 k2 e2 r2 => hr M H2 v u _ k2 (R.mono (x2.hid (e1.allSub k1)) r1) r2 fun w H3 x3 k3 r3 => ⟨b, r3, by
    have x3' := x3.more (N' := G ++ own) fun b hb => List.mem_append_left _ hb
    have e3 := e2.ext k2 x3
    cases b with
    | true =>
      refine hc rfl M own σ H3 k3 e3 _ fun t H4 x4 k4 e4 r4 => hr' M H4 u t Q k4 (S.mono ((x3'.trans x4).hid (e2.allSub k2)) r2) r4 fun w5 H5 x5 k5 r5 => ?_
      exact q w5 H5 ((((x1.trans x2).trans x3').trans x4).trans (x5.more fun b hb => List.mem_append_left _ hb)) k5 (e4.ext k4 x5) r5
    | false => exact q _ H3 ((x1.trans x2).trans x3') k3 e3 rfl⟩
end
/-! ### arguments, displays -/
theorem a_nil : EA G Γ tNil Γ [] := fun M own σ H k e Q q => q [] H Ex.refl k e .nil
theorem a_cons {tr : TA} {ds : List Dy} (h : E G Γ te Γ1 R x) (hr : EA G Γ1 tr Γ2 ds) : EA G Γ (tCons te tr) Γ2 (⟨R, x⟩ :: ds) := fun M own σ H k e Q q =>
  h M own σ H k e _ fun v H1 x1 k1 e1 r1 => hr M own σ H1 k1 e1 _ fun vs H2 x2 k2 e2 r2 => q (v :: vs) H2 (x1.trans x2) k2 e2 (.cons (R.mono (x2.hid (e1.allSub k1)) r1) r2)
theorem small_len {n : Nat} (h : n ≤ 100000) : n ≤ sizeLine := Nat.le_trans h (by decide)
theorem e_t2 {tr : TA} (h : EA G Γ tr Γ' [⟨R, x⟩, ⟨S, y⟩]) : E G Γ (tTup tr) Γ' (rT2 R S) (x, y) := fun M own σ H k e Q q =>
  h M own σ H k e _ fun vs H1 x1 k1 e1 r1 => by
    cases r1 with
    | cons ha r => cases r with
      | cons hb r =>
        cases r
        refine ⟨small_len (by simp), fun p hp => ?_⟩
        have hM := k1.fresh hp
        have s : ∀ o, Sub (hid M H1) (hid M (upd H1 p o)) := fun o => hid_new hM hp
        exact q _ _ (x1.trans (Ex.new hp)) (k1.new hp) (e1.ext k1 (Ex.new hp)) ⟨p, _, _, rfl, hid_of hM upd_same, R.mono (s _) ha, S.mono (s _) hb⟩
theorem e_t3 {tr : TA} (h : EA G Γ tr Γ' [⟨R, x⟩, ⟨S, y⟩, ⟨T, z⟩]) : E G Γ (tTup tr) Γ' (rT3 R S T) (x, y, z) := fun M own σ H k e Q q =>
  h M own σ H k e _ fun vs H1 x1 k1 e1 r1 => by
    cases r1 with
    | cons ha r => cases r with
      | cons hb r => cases r with
        | cons hc r =>
          cases r
          refine ⟨small_len (by simp), fun p hp => ?_⟩
          have hM := k1.fresh hp
          have s : ∀ o, Sub (hid M H1) (hid M (upd H1 p o)) := fun o => hid_new hM hp
          exact q _ _ (x1.trans (Ex.new hp)) (k1.new hp) (e1.ext k1 (Ex.new hp)) ⟨p, _, _, _, rfl, hid_of hM upd_same, R.mono (s _) ha, S.mono (s _) hb, T.mono (s _) hc⟩
theorem e_t4 {tr : TA} {w : δ} (h : EA G Γ tr Γ' [⟨R, x⟩, ⟨S, y⟩, ⟨T, z⟩, ⟨U, w⟩]) : E G Γ (tTup tr) Γ' (rT4 R S T U) (x, y, z, w) := fun M own σ H k e Q q =>
  h M own σ H k e _ fun vs H1 x1 k1 e1 r1 => by
    cases r1 with
    | cons ha r => cases r with
      | cons hb r => cases r with
        | cons hc r => cases r with
          | cons hd r =>
            cases r
            refine ⟨small_len (by simp), fun p hp => ?_⟩
            have hM := k1.fresh hp
            have s : ∀ o, Sub (hid M H1) (hid M (upd H1 p o)) := fun o => hid_new hM hp
            exact q _ _ (x1.trans (Ex.new hp)) (k1.new hp) (e1.ext k1 (Ex.new hp)) ⟨p, _, _, _, _, rfl, hid_of hM upd_same, R.mono (s _) ha, S.mono (s _) hb, T.mono (s _) hc, U.mono (s _) hd⟩
/-- all of one kind -/
theorem alike {h : Hp} : ∀ {xs : List α} {vs : List V}, All2 (fun v (d : Dy) => d.R.rep h v d.a) vs (xs.map fun x => (⟨R, x⟩ : Dy)) → All2 (R.rep h) vs xs
  | [], _, .nil => .nil
  | _ :: _, _, .cons a r => .cons a (alike r)
theorem e_lst {tr : TA} {xs : List α} (h : EA G Γ tr Γ' (xs.map fun x => (⟨R, x⟩ : Dy))) (hl : xs.length ≤ 100000) : E G Γ (tLst tr) Γ' (rList R) xs := fun M own σ H k e Q q =>
  h M own σ H k e _ fun vs H1 x1 k1 e1 r1 => by
    have r2 := alike r1
    refine ⟨small_len (by rw [r2.length]; exact hl), fun p hp => ?_⟩
    have hM := k1.fresh hp
    have s := hid_new (o := .lst vs) hM hp
    exact q _ _ (x1.trans (Ex.new hp)) (k1.new hp) (e1.ext k1 (Ex.new hp)) ⟨p, vs, rfl, hid_of hM upd_same, r2.imp fun _ _ => R.mono s⟩
theorem e_tup {tr : TA} {xs : List α} (h : EA G Γ tr Γ' (xs.map fun x => (⟨R, x⟩ : Dy))) (hl : xs.length ≤ 100000) : E G Γ (tTup tr) Γ' (rTup R) xs := fun M own σ H k e Q q =>
  h M own σ H k e _ fun vs H1 x1 k1 e1 r1 => by
    have r2 := alike r1
    refine ⟨small_len (by rw [r2.length]; exact hl), fun p hp => ?_⟩
    have hM := k1.fresh hp
    have s := hid_new (o := .tup vs) hM hp
    exact q _ _ (x1.trans (Ex.new hp)) (k1.new hp) (e1.ext k1 (Ex.new hp)) ⟨p, vs, rfl, hid_of hM upd_same, r2.imp fun _ _ => R.mono s⟩
/-! ### items, lengths -/
theorem atI_get {β : Type} {xs : List β} {i : Int} {n : Nat} {v : β} (hi : i = n) (h : xs[n]? = some v) : atI xs i = some v := by
  have hn : n < xs.length := (List.getElem?_eq_some_iff.mp h).1
  subst hi
  unfold atI ixN
  rw [if_pos (by omega), if_pos (by omega)]
  simpa using h
theorem op_ixL {K : PySem.W.Frag} {xs : List α} {i : Int} {v : α} (h : atI xs i = some v) : Op2 G (rIxL K) (rList R) xs rInt i R v := fun M H a u Q k ra ru q => by
  obtain ⟨p, vs, rfl, hp, r⟩ := ra
  subst ru
  have hl := r.length
  obtain ⟨j, hj, hg⟩ : ∃ j, ixN xs.length i = some j ∧ xs[j]? = some v := by
    unfold atI at h
    cases e : ixN xs.length i with
    | none => rw [e] at h; cases h
    | some j => rw [e] at h; exact ⟨j, rfl, h⟩
  obtain ⟨w, hw, rw'⟩ := r.get hg
  exact ⟨p, vs, i, w, rfl, rfl, SqL.of (hid_some hp).2, by unfold atI; rw [hl, hj]; exact hw, q w H Ex.refl k rw'⟩
theorem e_ixL {K : PySem.W.Frag} {xs : List α} {i : Int} {v : α} (ha : E G Γ ta Γ1 (rList R) xs) (hb : E G Γ1 tb Γ2 rInt i) (h : atI xs i = some v) : E G Γ (tOp (rIxL K) ta tb) Γ2 R v := e_op ha hb (op_ixL h)
theorem op_ixT {K : PySem.W.Frag} {xs : List α} {i : Int} {v : α} (h : atI xs i = some v) : Op2 G (rIxT K) (rTup R) xs rInt i R v := fun M H a u Q k ra ru q => by
  obtain ⟨p, vs, rfl, hp, r⟩ := ra
  subst ru
  have hl := r.length
  obtain ⟨j, hj, hg⟩ : ∃ j, ixN xs.length i = some j ∧ xs[j]? = some v := by
    unfold atI at h
    cases e : ixN xs.length i with
    | none => rw [e] at h; cases h
    | some j => rw [e] at h; exact ⟨j, rfl, h⟩
  obtain ⟨w, hw, rw'⟩ := r.get hg
  exact ⟨p, vs, i, w, rfl, rfl, SqT.of (hid_some hp).2, by unfold atI; rw [hl, hj]; exact hw, q w H Ex.refl k rw'⟩
theorem e_ixT {K : PySem.W.Frag} {xs : List α} {i : Int} {v : α} (ha : E G Γ ta Γ1 (rTup R) xs) (hb : E G Γ1 tb Γ2 rInt i) (h : atI xs i = some v) : E G Γ (tOp (rIxT K) ta tb) Γ2 R v := e_op ha hb (op_ixT h)
theorem e_20 {K : PySem.W.Frag} {x : α × β} (ha : E G Γ ta Γ1 (rT2 R S) x) : E G Γ (tOp (rIxT K) ta (tC (.int 0))) Γ1 R x.1 := e_op ha e_int fun M H a u Q k ra ru q => by
  obtain ⟨p, v, w, rfl, hp, r, s⟩ := ra
  subst ru
  exact ⟨p, _, 0, v, rfl, rfl, SqT.of (hid_some hp).2, rfl, q v H Ex.refl k r⟩
theorem e_21 {K : PySem.W.Frag} {x : α × β} (ha : E G Γ ta Γ1 (rT2 R S) x) : E G Γ (tOp (rIxT K) ta (tC (.int 1))) Γ1 S x.2 := e_op ha e_int fun M H a u Q k ra ru q => by
  obtain ⟨p, v, w, rfl, hp, r, s⟩ := ra
  subst ru
  exact ⟨p, _, 1, w, rfl, rfl, SqT.of (hid_some hp).2, rfl, q w H Ex.refl k s⟩
theorem e_len {K : PySem.W.Frag} {tr : TA} {xs : List α} (h : EA G Γ tr Γ' [⟨rList R, xs⟩]) : E G Γ (tCB (fun xs H Q => ∃ p ys, xs = [.ref p] ∧ (SqL K H p ys ∨ SqT K H p ys) ∧ Q (.int ys.length) H) tr) Γ' rInt (xs.length : Int) := fun M own σ H k e Q q =>
  h M own σ H k e _ fun vs H1 x1 k1 e1 r1 => by
    cases r1 with
    | cons ha r =>
      cases r
      obtain ⟨p, ws, e', hp, r⟩ := ha
      have e' : _ = V.ref p := e'
      subst e'
      exact ⟨p, ws, rfl, .inl (SqL.of (hid_some hp).2), q _ H1 x1 k1 e1 (by show V.int _ = V.int _; rw [r.length])⟩
theorem e_lenT {K : PySem.W.Frag} {tr : TA} {xs : List α} (h : EA G Γ tr Γ' [⟨rTup R, xs⟩]) : E G Γ (tCB (fun xs H Q => ∃ p ys, xs = [.ref p] ∧ (SqL K H p ys ∨ SqT K H p ys) ∧ Q (.int ys.length) H) tr) Γ' rInt (xs.length : Int) := fun M own σ H k e Q q =>
  h M own σ H k e _ fun vs H1 x1 k1 e1 r1 => by
    cases r1 with
    | cons ha r =>
      cases r
      obtain ⟨p, ws, e', hp, r⟩ := ha
      have e' : _ = V.ref p := e'
      subst e'
      exact ⟨p, ws, rfl, .inr (SqT.of (hid_some hp).2), q _ H1 x1 k1 e1 (by show V.int _ = V.int _; rw [r.length])⟩
end
end TP

set_option Elab.async false
set_option linter.all false
set_option maxRecDepth 100000
set_option maxHeartbeats 4000000
namespace TP
open PySem PySem.Spec PyProof.Rows L2

/-! ### targets -/
/-- the target's slots hold the item; ws: which slots -/
def Tg (G : List Addr) (g : TG) {α : Type} (R : Rp α) (a : α) (Γ Γ' : Ctx) (ws : List Nat) : Prop :=
  ∀ M own σ H v (Q : L2.St → Hp → Prop), Ok G M H → Env G M H own σ Γ → R.rep (hid M H) v a → (∀ σ', (∀ vs : List Nat, (∀ i ∈ ws, i ∈ vs) → wipe σ' vs = wipe σ vs) → Env G M H own σ' Γ' → Q σ' H) → g v σ H Q
theorem wipe_get {σ : L2.St} {vs : List Nat} {i : Nat} : (wipe σ vs)[i]? = if i ∈ vs then (if i < σ.length then some none else none) else σ[i]? := by
  induction vs with
  | nil => simp [wipe]
  | cons v vs ih =>
    unfold wipe
    rw [List.getElem?_set]
    by_cases h : v = i
    · subst h
      rw [if_pos rfl, wipe_length]
      simp
    · rw [if_neg h, ih]
      have : (i ∈ v :: vs) = (i ∈ vs) := by simp [Ne.symm h]
      simp only [this]
theorem wipe_set {σ : L2.St} {i : Nat} {v : Option V} {vs : List Nat} (h : i ∈ vs) : wipe (σ.set i v) vs = wipe σ vs := by
  apply List.ext_getElem?
  intro j
  rw [wipe_get, wipe_get, List.length_set, List.getElem?_set]
  by_cases hj : j ∈ vs
  · rw [if_pos hj, if_pos hj]
  · rw [if_neg hj, if_neg hj, if_neg (fun e : i = j => hj (by rw [← e]; exact h))]
theorem wipe_wipe {σ : L2.St} {vs : List Nat} : wipe (wipe σ vs) vs = wipe σ vs := by
  apply List.ext_getElem?
  intro j
  rw [wipe_get, wipe_length, wipe_get]
  by_cases hj : j ∈ vs
  · rw [if_pos hj, if_pos hj]
  · rw [if_neg hj, if_neg hj]
def PlainAt (Γ : Ctx) (i : Nat) : Prop := ∀ s, Γ[i]? = some s → Plain s
section
variable {G M own : List Addr} {H H' : Hp} {σ : L2.St} {Γ Γ' Γ1 Γ2 Γ3 : Ctx} {α β γ : Type} {R : Rp α} {S : Rp β} {T : Rp γ} {a : α} {b : β} {c : γ}
theorem tg_name {i : Nat} (h : PlainAt Γ i) : Tg G (gName i) R a Γ (Γ.set i (.val R a)) [i] := fun M own σ H v Q k e r q =>
  q _ (fun vs hi => wipe_set (hi i (by simp))) ⟨e.nd, e.sub, e.out, e.env.set r h⟩
theorem tg_t2 {K : PySem.W.Frag} {g1 g2 : TG} {w1 w2 : List Nat} (h1 : Tg G g1 R a Γ Γ1 w1) (h2 : Tg G g2 S b Γ1 Γ2 w2) : Tg G (gTup K 2 (gCons g1 (gCons g2 gNil))) (rT2 R S) (a, b) Γ Γ2 (w1 ++ w2) := fun M own σ H v Q k e r q => by
  obtain ⟨p, x, y, rfl, hp, ra, rb⟩ := r
  refine ⟨p, [x, y], rfl, SqT.of (hid_some hp).2, rfl, x, [y], rfl, h1 M own σ H x _ k e ra fun σ1 s1 e1 => ?_⟩
  exact ⟨y, [], rfl, h2 M own σ1 H y _ k e1 rb fun σ2 s2 e2 => ⟨rfl, q σ2 (fun vs hv => (s2 vs fun i hi => hv i (List.mem_append_right _ hi)).trans (s1 vs fun i hi => hv i (List.mem_append_left _ hi))) e2⟩⟩
theorem tg_t3 {K : PySem.W.Frag} {g1 g2 g3 : TG} {w1 w2 w3 : List Nat} (h1 : Tg G g1 R a Γ Γ1 w1) (h2 : Tg G g2 S b Γ1 Γ2 w2) (h3 : Tg G g3 T c Γ2 Γ3 w3) : Tg G (gTup K 3 (gCons g1 (gCons g2 (gCons g3 gNil)))) (rT3 R S T) (a, b, c) Γ Γ3 (w1 ++ (w2 ++ w3)) := fun M own σ H v Q k e r q => by
  obtain ⟨p, x, y, z, rfl, hp, ra, rb, rc⟩ := r
  refine ⟨p, [x, y, z], rfl, SqT.of (hid_some hp).2, rfl, x, [y, z], rfl, h1 M own σ H x _ k e ra fun σ1 s1 e1 => ?_⟩
  refine ⟨y, [z], rfl, h2 M own σ1 H y _ k e1 rb fun σ2 s2 e2 => ?_⟩
  exact ⟨z, [], rfl, h3 M own σ2 H z _ k e2 rc fun σ3 s3 e3 => ⟨rfl, q σ3 (fun vs hv => ((s3 vs fun i hi => hv i (by simp [hi])).trans (s2 vs fun i hi => hv i (by simp [hi]))).trans (s1 vs fun i hi => hv i (by simp [hi]))) e3⟩⟩
/-- slots forgotten -/
def wipeC (Γ : Ctx) : List Nat → Ctx
  | [] => Γ
  | v :: vs => (wipeC Γ vs).set v .no
theorem EnvR.unset {h H : Hp} : ∀ {σ : L2.St} {Γ : Ctx} {ps : List Addr} {i : Nat} {v : Option V}, EnvR h H σ Γ ps → PlainAt Γ i → EnvR h H (σ.set i v) (Γ.set i .no) ps
  | [], [], _, _, _, x, _ => x
  | _ :: σ, .no :: Γ, ps, 0, _, x, e => x
  | _ :: σ, .no :: Γ, ps, i + 1, _, x, e => EnvR.unset (σ := σ) (Γ := Γ) (i := i) x fun s z => e s (by simpa using z)
  | ov :: σ, .val R' a' :: Γ, ps, 0, _, ⟨_, x⟩, e => x
  | ov :: σ, .val R' a' :: Γ, ps, i + 1, _, ⟨y, x⟩, e => ⟨y, EnvR.unset (σ := σ) (Γ := Γ) (i := i) x fun s z => e s (by simpa using z)⟩
  | ov :: σ, .own O :: Γ, ps, 0, _, x, e => (e (.own O) (by simp)).elim
  | ov :: σ, .own O :: Γ, ps, i + 1, _, ⟨w, p1, p2, e1, e2, y, x⟩, e => ⟨w, p1, p2, e1, e2, y, EnvR.unset (σ := σ) (Γ := Γ) (i := i) x fun s z => e s (by simpa using z)⟩
  | [], .no :: _, _, _, _, x, _ => x.elim
  | [], .val _ _ :: _, _, _, _, x, _ => x.elim
  | [], .own _ :: _, _, _, _, x, _ => x.elim
  | _ :: _, [], _, _, _, x, _ => x.elim
theorem wipeC_plain {Γ : Ctx} : ∀ {vs : List Nat} {i : Nat}, PlainAt Γ i → PlainAt (wipeC Γ vs) i
  | [], _, h => h
  | v :: vs, i, h => fun s e => by
    unfold wipeC at e
    rw [List.getElem?_set] at e
    by_cases hv : v = i
    · rw [if_pos hv] at e
      by_cases hl : v < (wipeC Γ vs).length
      · rw [if_pos hl] at e
        cases e
        exact True.intro
      · rw [if_neg hl] at e
        cases e
    · rw [if_neg hv] at e
      exact wipeC_plain h s e
theorem Env.wipe (e : Env G M H own σ Γ) : ∀ {vs : List Nat}, (∀ i ∈ vs, PlainAt Γ i) → Env G M H own (wipe σ vs) (wipeC Γ vs)
  | [], _ => e
  | v :: vs, h => by
    have e' := Env.wipe e (vs := vs) fun i hi => h i (List.mem_cons_of_mem _ hi)
    exact ⟨e'.nd, e'.sub, e'.out, e'.env.unset (wipeC_plain (h v List.mem_cons_self))⟩
/-- more may change -/
theorem Env.grow {p : Addr} {o : HO} (k : Ok G M H) (e : Env G M H own σ Γ) (hp : H p = none) : Env G (p :: M) (upd H p o) own σ Γ := by
  have hn := k.fresh hp
  refine ⟨e.nd, fun q hq => List.mem_cons_of_mem _ (e.sub q hq), e.out, e.env.mono (fun b u hb => ?_) fun q hq => ?_⟩
  · obtain ⟨h1, h2⟩ := hid_some hb
    have hne : b ≠ p := ne_of_none h2 hp
    refine hid_of (fun z => ?_) (by rw [upd_ne hne]; exact h2)
    rcases List.mem_cons.mp z with z | z
    · exact hne z
    · exact h1 z
  · rw [upd_ne (fun z => hn (by rw [← z]; exact e.sub q hq))]
theorem Ok.grow {p : Addr} {o : HO} (k : Ok G M H) (hp : H p = none) : Ok G (p :: M) (upd H p o) := ⟨fun P hP => List.mem_cons_of_mem _ (k.sub P hP), fun m hm z => by
  by_cases h : m = p
  · rw [h, upd_same] at z; cases z
  · rw [upd_ne h] at z
    rcases List.mem_cons.mp hm with e | hm
    · exact h e
    · exact k.al m hm z, k.wf.new hp⟩
theorem hid_grow {p : Addr} {o : HO} (hp : H p = none) : Sub (hid M H) (hid (p :: M) (upd H p o)) := fun b u hb => by
  obtain ⟨h1, h2⟩ := hid_some hb
  have hne : b ≠ p := ne_of_none h2 hp
  refine hid_of (fun z => ?_) (by rw [upd_ne hne]; exact h2)
  rcases List.mem_cons.mp z with z | z
  · exact hne z
  · exact h1 z
end

/-! ### what stands meanwhile -/
structure Gp where
  p : Hp → Prop
  mono : ∀ {h h' : Hp}, Sub h h' → p h → p h'
def gT : Gp := ⟨fun _ => True, fun _ h => h⟩
def gAnd (a b : Gp) : Gp := ⟨fun h => a.p h ∧ b.p h, fun k h => ⟨a.mono k h.1, b.mono k h.2⟩⟩
/-- an iterator that gives xs, while g stands -/
structure Wk (G : List Addr) (J : It) {α : Type} (R : Rp α) (xs : List α) (g : Gp) : Prop where
  ex : ∃ (Gd : Hp → Prop) (Y : Nat → Hp → V → Hp → Prop), Walk J xs.length Gd Y ∧ (∀ h H, Sub h H → g.p h → Gd H) ∧
    ∀ i x M H H', i < xs.length → Ok G M H → g.p (hid M H) → Y i H x H' → Ex G H H' ∧ Ok G M H' ∧ ∃ a, xs[i]? = some a ∧ R.rep (hid M H') x a
def ES (G : List Addr) (Γ : Ctx) (wi : TI) (Γ' : Ctx) {α : Type} (R : Rp α) (xs : List α) : Prop :=
  ∀ M own σ H, Ok G M H → Env G M H own σ Γ → ∀ Q : It → Hp → Prop, (∀ J H' g, Ex (G ++ own) H H' → Ok G M H' → Env G M H' own σ Γ' → Wk G J R xs g → g.p (hid M H') → Q J H') → wi σ H Q
section
variable {G : List Addr} {Γ Γ' Γ1 Γ2 : Ctx} {α β γ : Type} {R : Rp α} {S : Rp β} {xs : List α} {ys : List β} {te : TE} {ta : TA} {K : PySem.W.Frag}
theorem wk_list {a : Addr} {vs : List V} : Wk G (Itl K a) R xs ⟨fun h => h a = some (.lst vs) ∧ All2 (R.rep h) vs xs, fun k z => ⟨k _ _ z.1, z.2.imp fun _ _ => R.mono k⟩⟩ ∨ vs.length ≠ xs.length := by
  by_cases hl : vs.length = xs.length
  · refine .inl ⟨_, _, hl ▸ walk_list (K := K) (a := a) (xs := vs), fun h H s z => SqL.of (s _ _ z.1), fun i x M H H' hi k z y => ?_⟩
    obtain ⟨rfl, hx⟩ := y
    obtain ⟨b, h1, h2⟩ := z.2.getL hx
    exact ⟨Ex.refl, k, b, h1, h2⟩
  · exact .inr hl
theorem wk_tup {a : Addr} {vs : List V} : Wk G (Itt K a) R xs ⟨fun h => h a = some (.tup vs) ∧ All2 (R.rep h) vs xs, fun k z => ⟨k _ _ z.1, z.2.imp fun _ _ => R.mono k⟩⟩ ∨ vs.length ≠ xs.length := by
  by_cases hl : vs.length = xs.length
  · refine .inl ⟨_, _, hl ▸ walk_tup (K := K) (a := a) (xs := vs), fun h H s z => SqT.of (s _ _ z.1), fun i x M H H' hi k z y => ?_⟩
    obtain ⟨rfl, hx⟩ := y
    obtain ⟨b, h1, h2⟩ := z.2.getL hx
    exact ⟨Ex.refl, k, b, h1, h2⟩
  · exact .inr hl
theorem src_list (h : E G Γ te Γ' (rList R) xs) : ES G Γ (iList K te) Γ' R xs := fun M own σ H k e Q q => h M own σ H k e _ fun v H1 x1 k1 e1 r1 => by
  obtain ⟨p, vs, rfl, hp, r⟩ := r1
  rcases wk_list (G := G) (K := K) (R := R) (xs := xs) (a := p) (vs := vs) with w | w
  · exact ⟨p, rfl, ⟨vs, SqL.of (hid_some hp).2⟩, q _ H1 _ x1 k1 e1 w ⟨hp, r⟩⟩
  · exact absurd r.length w
theorem src_tup (h : E G Γ te Γ' (rTup R) xs) : ES G Γ (iTup K te) Γ' R xs := fun M own σ H k e Q q => h M own σ H k e _ fun v H1 x1 k1 e1 r1 => by
  obtain ⟨p, vs, rfl, hp, r⟩ := r1
  rcases wk_tup (G := G) (K := K) (R := R) (xs := xs) (a := p) (vs := vs) with w | w
  · exact ⟨p, rfl, ⟨vs, SqT.of (hid_some hp).2⟩, q _ H1 _ x1 k1 e1 w ⟨hp, r⟩⟩
  · exact absurd r.length w
/-- lo, lo + 1, .. -/
def upFrom (lo : Int) (n : Nat) : List Int := (List.range n).map fun i => lo + (i : Nat)
theorem wk_range {lo : Int} {n : Nat} : Wk G (Itr lo n) rInt (upFrom lo n) gT := by
  have hl : (upFrom lo n).length = n := by simp [upFrom]
  refine ⟨_, _, (by rw [hl]; exact walk_range (lo := lo) (n := n)), fun _ _ _ _ => trivial, fun i x M H H' hi k z y => ?_⟩
  obtain ⟨rfl, rfl⟩ := y
  rw [hl] at hi
  exact ⟨Ex.refl, k, lo + i, by simp [upFrom, hi], rfl⟩
theorem src_rng1 {n : Int} (h : EA G Γ ta Γ' [⟨rInt, n⟩]) (h1 : -(2 ^ 62) ≤ n) (h2 : n < 2 ^ 62) : ES G Γ (iRng1 ta) Γ' rInt (upFrom 0 n.toNat) := fun M own σ H k e Q q => h M own σ H k e _ fun vs H1 x1 k1 e1 r1 => by
  cases r1 with
  | cons a r => cases r; cases a; exact ⟨n, rfl, h1, h2, q _ H1 gT x1 k1 e1 wk_range trivial⟩
theorem src_rng2 {m n : Int} (h : EA G Γ ta Γ' [⟨rInt, m⟩, ⟨rInt, n⟩]) (h0 : -(2 ^ 62) ≤ m ∧ m < 2 ^ 62 ∧ -(2 ^ 62) ≤ n ∧ n < 2 ^ 62) : ES G Γ (iRng2 ta) Γ' rInt (upFrom m (n - m).toNat) := fun M own σ H k e Q q => h M own σ H k e _ fun vs H1 x1 k1 e1 r1 => by
  cases r1 with
  | cons a r => cases r with
    | cons b r => cases r; cases a; cases b; exact ⟨m, n, rfl, h0, q _ H1 gT x1 k1 e1 wk_range trivial⟩
/-- pairs (i, x) -/
def enumL (xs : List α) : List (Int × α) := xs.zipIdx.map fun p => ((p.2 : Nat), p.1)
theorem enumL_length : (enumL xs).length = xs.length := by simp [enumL]
theorem enumL_get {i : Nat} : (enumL xs)[i]? = xs[i]?.map fun x => ((i : Int), x) := by
  simp [enumL]
  cases xs[i]? <;> simp
theorem pair_new {M : List Addr} {H : Hp} {p : Addr} {v w : V} {a : α} {b : β} (k : Ok G M H) (hp : H p = none) (ra : R.rep (hid M H) v a) (rb : S.rep (hid M H) w b) : Ex G H (upd H p (.tup [v, w])) ∧ Ok G M (upd H p (.tup [v, w])) ∧ (rT2 R S).rep (hid M (upd H p (.tup [v, w]))) (.ref p) (a, b) :=
  ⟨Ex.new hp, k.new hp, p, v, w, rfl, hid_of (k.fresh hp) upd_same, R.mono (hid_new (k.fresh hp) hp) ra, S.mono (hid_new (k.fresh hp) hp) rb⟩
theorem src_enum (h : EA G Γ ta Γ' [⟨rList R, xs⟩]) : ES G Γ (iEnum K ta) Γ' (rT2 rInt R) (enumL xs) := fun M own σ H k e Q q => h M own σ H k e _ fun vs H1 x1 k1 e1 r1 => by
  cases r1 with
  | cons a r =>
    cases r
    obtain ⟨p, ws, e', hp, r⟩ := a
    have e' : _ = V.ref p := e'
    subst e'
    have hl : (enumL xs).length = ws.length := by rw [enumL_length, r.length]
    refine ⟨p, ws, rfl, SqL.of (hid_some hp).2, q _ H1 ⟨fun h => h p = some (.lst ws) ∧ All2 (R.rep h) ws xs, fun k z => ⟨k _ _ z.1, z.2.imp fun _ _ => R.mono k⟩⟩ x1 k1 e1 ⟨_, _, hl.symm ▸ walk_enum (K := K) (a := p) (xs := ws), fun h H s z => SqL.of (s _ _ z.1), fun i x M H H' hi k z y => ?_⟩ ⟨hp, r⟩⟩
    obtain ⟨T, x', y', rfl, hT, rfl, h1, h2⟩ := y
    cases h1
    obtain ⟨b, h3, h4⟩ := z.2.getL h2
    obtain ⟨p1, p2, p3⟩ := pair_new (R := rInt) (S := R) (a := (i : Int)) k hT rfl h4
    exact ⟨p1, p2, ((i : Int), b), by rw [enumL_get, h3]; rfl, p3⟩
theorem src_zip (h : EA G Γ ta Γ' [⟨rList R, xs⟩, ⟨rList S, ys⟩]) : ES G Γ (iZip K ta) Γ' (rT2 R S) (xs.zip ys) := fun M own σ H k e Q q => h M own σ H k e _ fun vs H1 x1 k1 e1 r1 => by
  cases r1 with
  | cons a r => cases r with
    | cons b r =>
      cases r
      obtain ⟨p, ws, e', hp, r⟩ := a
      obtain ⟨p', ws', e'', hp', r'⟩ := b
      have e' : _ = V.ref p := e'
      subst e'
      have e'' : _ = V.ref p' := e''
      subst e''
      have hl : (xs.zip ys).length = min ws.length ws'.length := by rw [List.length_zip, r.length, r'.length]
      refine ⟨p, p', ws, ws', rfl, SqL.of (hid_some hp).2, SqL.of (hid_some hp').2, q _ H1 ⟨fun h => (h p = some (.lst ws) ∧ All2 (R.rep h) ws xs) ∧ (h p' = some (.lst ws') ∧ All2 (S.rep h) ws' ys), fun k z => ⟨⟨k _ _ z.1.1, z.1.2.imp fun _ _ => R.mono k⟩, ⟨k _ _ z.2.1, z.2.2.imp fun _ _ => S.mono k⟩⟩⟩ x1 k1 e1
        ⟨_, _, hl.symm ▸ walk_zip (K := K) (a := p) (b := p') (xs := ws) (ys := ws') rfl, fun h H s z => ⟨SqL.of (s _ _ z.1.1), SqL.of (s _ _ z.2.1)⟩, fun i x M H H' hi k z y => ?_⟩ ⟨⟨hp, r⟩, ⟨hp', r'⟩⟩⟩
      obtain ⟨T, x', y', rfl, hT, rfl, h1, h2⟩ := y
      obtain ⟨b, h3, h4⟩ := z.1.2.getL h1
      obtain ⟨c, h5, h6⟩ := z.2.2.getL h2
      obtain ⟨p1, p2, p3⟩ := pair_new (R := R) (S := S) k hT h4 h6
      exact ⟨p1, p2, (b, c), by rw [List.getElem?_zip_eq_some]; exact ⟨h3, h5⟩, p3⟩
end
end TP

set_option Elab.async false
set_option linter.all false
set_option maxRecDepth 100000
set_option maxHeartbeats 4000000
namespace TP
open PySem PySem.Spec PyProof.Rows L2

/-! ### a comprehension's turns -/
/-- from a state through the items: the last state, what came out -/
def runS {Dt α β : Type} (step : Dt → α → Dt × Option β) : Dt → List α → Dt × List β
  | d, [] => (d, [])
  | d, x :: r => ((runS step (step d x).1 r).1, (step d x).2.toList ++ (runS step (step d x).1 r).2)
theorem runS_snoc {Dt α β : Type} {step : Dt → α → Dt × Option β} : ∀ {d : Dt} {xs : List α} {x : α}, runS step d (xs ++ [x]) = ((step (runS step d xs).1 x).1, (runS step d xs).2 ++ (step (runS step d xs).1 x).2.toList)
  | d, [], x => by simp [runS]
  | d, y :: r, x => by
    have ih := @runS_snoc _ _ _ step (step d y).1 r x
    show ((runS step (step d y).1 (r ++ [x])).1, (step d y).2.toList ++ (runS step (step d y).1 (r ++ [x])).2) = _
    rw [ih]
    simp [runS, List.append_assoc]
theorem take_succ_of {α : Type} {xs : List α} {i : Nat} {x : α} (h : xs[i]? = some x) : xs.take (i + 1) = xs.take i ++ [x] := by
  rw [List.take_add_one, h]; rfl
theorem runS_len {Dt α β : Type} {step : Dt → α → Dt × Option β} : ∀ {d : Dt} {xs : List α}, (runS step d xs).2.length ≤ xs.length
  | d, [] => by simp [runS]
  | d, x :: r => by
    have ih := @runS_len _ _ _ step (step d x).1 r
    show ((step d x).2.toList ++ (runS step (step d x).1 r).2).length ≤ r.length + 1
    rw [List.length_append]
    have : (step d x).2.toList.length ≤ 1 := by cases (step d x).2 <;> simp
    omega
def pureStep {α β : Type} (p : α → Bool) (f : α → β) : Unit → α → Unit × Option β := fun _ x => ((), if p x = true then some (f x) else none)
theorem runS_pure {α β : Type} {p : α → Bool} {f : α → β} : ∀ {xs : List α}, (runS (pureStep p f) () xs).2 = (xs.filter p).map f
  | [] => rfl
  | x :: r => by
    show (pureStep p f () x).2.toList ++ (runS (pureStep p f) () r).2 = _
    rw [runS_pure (xs := r)]
    unfold pureStep
    by_cases h : p x = true
    · simp [h]
    · simp [h]
/-- one turn: the item x; o: what comes out, none where a test leaves it out -/
def Tu (G : List Addr) (Γ Γ1 : Ctx) (g : TG) (tt : TT) (te : TE) (vs : List Nat) {α β : Type} (R : Rp α) (S : Rp β) (x : α) (o : Option β) : Prop :=
  ∃ Γx ws, Tg G g R x (wipeC Γ vs) Γx ws ∧ (∀ i ∈ ws, i ∈ vs) ∧ (∀ i ∈ vs, PlainAt Γx i) ∧ match o with
    | none => ET G Γx tt Γx false ∧ wipeC Γx vs = wipeC Γ1 vs
    | some y => ET G Γx tt Γx true ∧ ∃ Γy, E G Γx te Γy S y ∧ (∀ i ∈ vs, PlainAt Γy i) ∧ wipeC Γy vs = wipeC Γ1 vs
theorem tu_pure {G : List Addr} {Γ Γx : Ctx} {g : TG} {tt : TT} {te : TE} {vs ws : List Nat} {α β : Type} {R : Rp α} {S : Rp β} {x : α} {p : Bool} {y : β} (hg : Tg G g R x (wipeC Γ vs) Γx ws) (hw : ∀ i ∈ ws, i ∈ vs) (hp : ∀ i ∈ vs, PlainAt Γx i)
    (hwp : wipeC Γx vs = wipeC Γ vs) (ht : ET G Γx tt Γx p) (he : p = true → E G Γx te Γx S y) : Tu G Γ Γ g tt te vs R S x (if p = true then some y else none) := by
  refine ⟨Γx, ws, hg, hw, hp, ?_⟩
  cases p with
  | true => exact ⟨ht, Γx, he rfl, hp, hwp⟩
  | false => exact ⟨ht, hwp⟩

section
variable {G : List Addr} {α β γ Dt : Type} {R : Rp α} {S : Rp β} {xs : List α} {te : TE} {ta : TA} {tt : TT} {g : TG} {wi : TI} {vs : List Nat}
/-- a list comprehension whose turns may change one's own things -/
theorem e_lcS {Γs : Dt → Ctx} {Γ : Ctx} {d0 : Dt} {step : Dt → α → Dt × Option β} (I : Dt → Prop) (hs : ES G Γ wi (Γs d0) R xs) (hl : xs.length ≤ 100000) (h0 : I d0) (hp : ∀ d, ∀ i ∈ vs, PlainAt (Γs d) i)
    (turn : ∀ d x, I d → x ∈ xs → I (step d x).1 ∧ Tu G (Γs d) (Γs (step d x).1) g tt te vs R S x (step d x).2) {Γ' : Ctx} (hΓ : ∀ M H own σ, Env G M H own σ (Γs d0) → ∀ H', Env G M H' own (wipe σ vs) (wipeC (Γs (runS step d0 xs).1) vs) → Env G M H' own σ Γ') :
    E G Γ (tLc wi g tt te vs) Γ' (rList S) (runS step d0 xs).2 := fun M own σ H k e Q q => hs M own σ H k e _ fun J H1 gp x1 k1 e1 w1 g1 D hD => by
  obtain ⟨Gd, Y, wk, hG, hY⟩ := w1.ex
  have hM := k1.fresh hD
  have hDo : D ∉ G ++ own := fun z => (List.mem_append.mp z).elim (fun z => by
    obtain ⟨ps, e', _⟩ := k1.wf D z
    rw [hD] at e'; cases e') fun z => hM (e1.sub D z)
  have ew := (e1.grow (o := .lst []) k1 hD).wipe (vs := vs) (hp d0)
  refine lc_it wk (fun i H => I (runS step d0 (xs.take i)).1 ∧ ∃ acc, H D = some (.lst acc) ∧ All2 (S.rep (hid (D :: M) H)) acc (runS step d0 (xs.take i)).2 ∧ Ok G (D :: M) H ∧ Env G (D :: M) H own (wipe σ vs) (wipeC (Γs (runS step d0 (xs.take i)).1) vs) ∧ gp.p (hid (D :: M) H) ∧ Ex (G ++ own) H1 H)
    ⟨h0, [], upd_same, .nil, k1.grow hD, ew, gp.mono (hid_grow hD) g1, Ex.new hD⟩ (fun i H _ ⟨_, acc, _, _, _, _, gg, _⟩ => hG _ _ hid_sub gg) ?_ ?_
  · rintro i x H2 H3 hi ⟨hI, acc, hacc, hr, k2, e2, g2, x2⟩ hy
    obtain ⟨x3, k3, a, ha, ra⟩ := hY i x (D :: M) H2 H3 hi k2 g2 hy
    have e3 := e2.ext k2 x3
    obtain ⟨hI', Γx, ws, tg, hw, hpx, ho⟩ := turn _ a hI (List.mem_of_getElem? ha)
    refine tg (D :: M) own _ H3 x _ k3 e3 ra fun σ4 s4 e4 => ⟨(s4 vs hw).trans wipe_wipe, ?_⟩
    have hst : runS step d0 (xs.take (i + 1)) = ((step (runS step d0 (xs.take i)).1 a).1, (runS step d0 (xs.take i)).2 ++ (step (runS step d0 (xs.take i)).1 a).2.toList) := by rw [take_succ_of ha, runS_snoc]
    have hw4 : wipe σ4 vs = wipe σ vs := (s4 vs hw).trans wipe_wipe
    have gn : ∀ {N : List Addr} {H' : Hp}, Ex N H2 H' → (∀ b ∈ N, b ∈ D :: M) → gp.p (hid (D :: M) H') := fun xx hh => gp.mono (xx.hid hh) g2
    cases hstep : (step (runS step d0 (xs.take i)).1 a).2 with
    | none =>
      rw [hstep] at ho
      obtain ⟨ht, hwp⟩ := ho
      refine ht (D :: M) own σ4 H3 k3 e4 _ fun H5 x5 k5 e5 => ?_
      rw [if_neg Bool.false_ne_true]
      have xx : Ex (G ++ own) H2 H5 := (x3.more fun b hb => List.mem_append_left _ hb).trans x5
      rw [hst, hstep]
      refine ⟨hI', acc, xx D _ hDo hacc, ?_, k5, ?_, gn xx (e2.allSub k2), x2.trans xx⟩
      · rw [Option.toList_none, List.append_nil]
        exact hr.imp fun _ _ => S.mono (xx.hid (e2.allSub k2))
      · have := e5.wipe hpx
        rw [hwp, hw4] at this
        exact this
    | some y =>
      rw [hstep] at ho
      obtain ⟨ht, Γy, hel, hpy, hwp⟩ := ho
      refine ht (D :: M) own σ4 H3 k3 e4 _ fun H5 x5 k5 e5 => ?_
      rw [if_pos rfl]
      refine hel (D :: M) own σ4 H5 k5 e5 _ fun v H6 x6 k6 e6 r6 => ?_
      have xx : Ex (G ++ own) H2 H6 := ((x3.more fun b hb => List.mem_append_left _ hb).trans x5).trans x6
      have hacc6 := xx D _ hDo hacc
      have hlen : acc.length < sizeLine := by
        have h1 := hr.length
        have h2 := @runS_len _ _ _ step d0 (xs.take i)
        have h3 : (xs.take i).length ≤ xs.length := by rw [List.length_take]; omega
        have h4 : (100000 : Nat) < sizeLine := by decide
        omega
      refine ⟨acc, hacc6, hlen, ?_⟩
      have hD6 : hid (D :: M) (upd H6 D (.lst (acc ++ [v]))) = hid (D :: M) H6 := by
        funext b
        unfold hid
        by_cases hb : b ∈ D :: M
        · rw [if_pos hb, if_pos hb]
        · rw [if_neg hb, if_neg hb, upd_ne (fun z => hb (by rw [z]; exact List.mem_cons_self))]
      have hH : ∀ b, b ≠ D → upd H6 D (.lst (acc ++ [v])) b = H6 b := fun b hb => upd_ne hb
      rw [hst, hstep]
      refine ⟨hI', acc ++ [v], upd_same, ?_, ⟨k6.sub, fun m hm z => ?_, fun P hP => ?_⟩, ?_, ?_, ?_⟩
      · rw [hD6]
        exact (hr.imp fun _ _ => S.mono (xx.hid (e2.allSub k2))).append (.cons r6 .nil)
      · by_cases hb : m = D
        · rw [hb, upd_same] at z; cases z
        · rw [hH m hb] at z; exact k6.al m hm z
      · obtain ⟨ps, e', t⟩ := k6.wf P hP
        exact ⟨ps, by rw [hH P (fun z => hDo (by rw [← z]; exact List.mem_append_left _ hP))]; exact e', t⟩
      · have ee := e6.wipe hpy
        rw [hwp, hw4] at ee
        exact ⟨ee.nd, ee.sub, ee.out, by rw [hD6]; exact ee.env.mono (Sub.refl _) fun p hp => hH p fun z => hDo (by rw [← z]; exact List.mem_append_right _ hp)⟩
      · rw [hD6]; exact gn xx (e2.allSub k2)
      · exact fun b o hb e' => by
          rw [hH b (ne_of_none e' hD)]
          exact (x2.trans xx) b o hb e'
  · rintro H2 ⟨hI, acc, hacc, hr, k2, e2, g2, x2⟩
    rw [List.take_length] at hr e2
    have sub : Sub (hid (D :: M) H2) (hid M H2) := hid_less fun b hb => List.mem_cons_of_mem _ hb
    have e2' : Env G M H2 own (wipe σ vs) (wipeC (Γs (runS step d0 xs).1) vs) := ⟨e2.nd, fun p hp => (List.mem_cons.mp (e2.sub p hp)).elim (fun z => (hDo (by rw [← z]; exact List.mem_append_right _ hp)).elim) id, e2.out, e2.env.mono sub fun _ _ => rfl⟩
    refine q _ H2 (x1.trans x2) ⟨k1.sub, fun m hm => k2.al m (List.mem_cons_of_mem _ hm), k2.wf⟩ (hΓ M H1 own σ e1 H2 e2') ⟨D, acc, rfl, hid_of hM hacc, hr.imp fun _ _ => S.mono sub⟩
end
end TP

set_option Elab.async false
set_option linter.all false
set_option maxRecDepth 100000
set_option maxHeartbeats 4000000
namespace TP
open PySem PySem.Spec PyProof.Rows L2

def NoAt (Γ : Ctx) (i : Nat) : Prop := ∀ s, Γ[i]? = some s → s = .no
theorem NoAt.plain {Γ : Ctx} {i : Nat} (h : NoAt Γ i) : PlainAt Γ i := fun s e => by rw [h s e]; exact True.intro
theorem set_no {Γ : Ctx} {i : Nat} (h : NoAt Γ i) : Γ.set i .no = Γ := by
  apply List.ext_getElem?
  intro j
  rw [List.getElem?_set]
  by_cases hj : i = j
  · subst hj
    rw [if_pos rfl]
    cases e : Γ[i]? with
    | none =>
      have := List.getElem?_eq_none_iff.mp e
      rw [if_neg (by omega)]
    | some s =>
      have := (List.getElem?_eq_some_iff.mp e).1
      rw [if_pos this, h s e]
  · rw [if_neg hj]
theorem wipeC_no {Γ : Ctx} : ∀ {vs : List Nat}, (∀ i ∈ vs, NoAt Γ i) → wipeC Γ vs = Γ
  | [], _ => rfl
  | v :: vs, h => by
    show (wipeC Γ vs).set v .no = Γ
    rw [wipeC_no fun i hi => h i (List.mem_cons_of_mem _ hi)]
    exact set_no (h v List.mem_cons_self)
theorem EnvR.reset {h H : Hp} : ∀ {σ : L2.St} {Γ : Ctx} {ps : List Addr} {i : Nat} {v : Option V}, EnvR h H (σ.set i v) Γ ps → NoAt Γ i → EnvR h H σ Γ ps
  | [], _, _, _, _, x, _ => by simpa using x
  | _ :: σ, .no :: Γ, ps, 0, _, x, e => x
  | _ :: σ, .no :: Γ, ps, i + 1, _, x, e => EnvR.reset (σ := σ) (Γ := Γ) (i := i) x fun s z => e s (by simpa using z)
  | ov :: σ, .val R' a' :: Γ, ps, 0, _, x, e => (by have := e (.val R' a') (by simp); cases this)
  | ov :: σ, .val R' a' :: Γ, ps, i + 1, _, ⟨y, x⟩, e => ⟨y, EnvR.reset (σ := σ) (Γ := Γ) (i := i) x fun s z => e s (by simpa using z)⟩
  | ov :: σ, .own O :: Γ, ps, 0, _, x, e => (by have := e (.own O) (by simp); cases this)
  | ov :: σ, .own O :: Γ, ps, i + 1, _, ⟨w, p1, p2, e1, e2, y, x⟩, e => ⟨w, p1, p2, e1, e2, y, EnvR.reset (σ := σ) (Γ := Γ) (i := i) x fun s z => e s (by simpa using z)⟩
  | _ :: _, [], _, 0, _, x, _ => x.elim
  | _ :: _, [], _, _ + 1, _, x, _ => x.elim
theorem EnvR.unwipe {h H : Hp} {σ : L2.St} {Γ : Ctx} {ps : List Addr} : ∀ {vs : List Nat}, EnvR h H (wipe σ vs) Γ ps → (∀ i ∈ vs, NoAt Γ i) → EnvR h H σ Γ ps
  | [], x, _ => x
  | v :: vs, x, hn => by
    have x : EnvR h H ((wipe σ vs).set v none) Γ ps := x
    exact EnvR.unwipe (x.reset (hn v List.mem_cons_self)) fun i hi => hn i (List.mem_cons_of_mem _ hi)
theorem Env.unwipe {G M own : List Addr} {H : Hp} {σ : L2.St} {Γ : Ctx} {vs : List Nat} (e : Env G M H own (L2.wipe σ vs) Γ) (hn : ∀ i ∈ vs, NoAt Γ i) : Env G M H own σ Γ := ⟨e.nd, e.sub, e.out, e.env.unwipe hn⟩
/-- forgetting what the target stored -/
def Back (Γx Γ : Ctx) (vs : List Nat) : Prop := (∀ i ∈ vs, PlainAt Γx i) ∧ wipeC Γx vs = Γ
/-- one turn over names that hold nothing before -/
def TuN (G : List Addr) (Γ Γ1 : Ctx) (g : TG) (tt : TT) (te : TE) (vs : List Nat) {α β : Type} (R : Rp α) (S : Rp β) (x : α) (o : Option β) : Prop :=
  ∃ Γx ws, Tg G g R x Γ Γx ws ∧ (∀ i ∈ ws, i ∈ vs) ∧ (∀ i ∈ vs, PlainAt Γx i) ∧ match o with
    | none => ET G Γx tt Γx false ∧ wipeC Γx vs = Γ1
    | some y => ET G Γx tt Γx true ∧ ∃ Γy, E G Γx te Γy S y ∧ Back Γy Γ1 vs
theorem TuN.tu {G : List Addr} {Γ Γ1 : Ctx} {g : TG} {tt : TT} {te : TE} {vs : List Nat} {α β : Type} {R : Rp α} {S : Rp β} {x : α} {o : Option β} (hn : ∀ i ∈ vs, NoAt Γ i) (hn1 : ∀ i ∈ vs, NoAt Γ1 i) (h : TuN G Γ Γ1 g tt te vs R S x o) : Tu G Γ Γ1 g tt te vs R S x o := by
  obtain ⟨Γx, ws, h1, h2, h3, h4⟩ := h
  refine ⟨Γx, ws, by rw [wipeC_no hn]; exact h1, h2, h3, ?_⟩
  rw [wipeC_no hn1]
  cases o with
  | none => exact h4
  | some y =>
    obtain ⟨h5, Γy, h6, h7, h8⟩ := h4
    exact ⟨h5, Γy, h6, h7, h8⟩
theorem tun_pure {G : List Addr} {Γ Γx : Ctx} {g : TG} {tt : TT} {te : TE} {vs ws : List Nat} {α β : Type} {R : Rp α} {S : Rp β} {x : α} {p : Bool} {y : β} (hg : Tg G g R x Γ Γx ws) (hw : ∀ i ∈ ws, i ∈ vs) (hb : Back Γx Γ vs)
    (ht : ET G Γx tt Γx p) (he : p = true → E G Γx te Γx S y) : TuN G Γ Γ g tt te vs R S x (if p = true then some y else none) := by
  refine ⟨Γx, ws, hg, hw, hb.1, ?_⟩
  cases p with
  | true => exact ⟨ht, Γx, he rfl, hb⟩
  | false => exact ⟨ht, hb.2⟩
section
variable {G : List Addr} {Γ Γ' Γ0 : Ctx} {α β γ Dt : Type} {R : Rp α} {S : Rp β} {xs : List α} {te : TE} {ta : TA} {tt : TT} {g : TG} {wi : TI} {vs : List Nat}
theorem e_lcD {Γs : Dt → Ctx} {d0 : Dt} {step : Dt → α → Dt × Option β} (I : Dt → Prop) (hs : ES G Γ0 wi (Γs d0) R xs) (hl : xs.length ≤ 100000) (h0 : I d0) (hn : ∀ d, ∀ i ∈ vs, NoAt (Γs d) i)
    (turn : ∀ d x, I d → x ∈ xs → I (step d x).1 ∧ TuN G (Γs d) (Γs (step d x).1) g tt te vs R S x (step d x).2) :
    E G Γ0 (tLc wi g tt te vs) (Γs (runS step d0 xs).1) (rList S) (runS step d0 xs).2 :=
  e_lcS I hs hl h0 (fun d i hi => (hn d i hi).plain) (fun d x hI hx => ⟨(turn d x hI hx).1, (turn d x hI hx).2.tu (hn d) (hn _)⟩) fun M H own σ e H' e' => by
    rw [wipeC_no (hn _)] at e'
    exact e'.unwipe (hn _)
/-- a pure one -/
theorem e_lc {p : α → Bool} {f : α → β} (hs : ES G Γ0 wi Γ R xs) (hl : xs.length ≤ 100000) (hn : ∀ i ∈ vs, NoAt Γ i)
    (turn : ∀ x, x ∈ xs → TuN G Γ Γ g tt te vs R S x (if p x = true then some (f x) else none)) : E G Γ0 (tLc wi g tt te vs) Γ (rList S) ((xs.filter p).map f) := by
  have h := e_lcD (Dt := Unit) (Γs := fun _ => Γ) (d0 := ()) (step := pureStep p f) (fun _ => True) hs hl trivial (fun _ => hn) (fun d x _ hx => ⟨trivial, turn x hx⟩)
  rw [runS_pure] at h
  exact h
theorem filter_true {α : Type} {xs : List α} : xs.filter (fun _ => true) = xs := by simp
/-- .. without a test -/
theorem e_lc0 {f : α → β} (hs : ES G Γ0 wi Γ R xs) (hl : xs.length ≤ 100000) (hn : ∀ i ∈ vs, NoAt Γ i)
    (turn : ∀ x, x ∈ xs → TuN G Γ Γ g tt te vs R S x (some (f x))) : E G Γ0 (tLc wi g tt te vs) Γ (rList S) (xs.map f) := by
  have h := e_lc (p := fun _ => true) hs hl hn turn
  rw [filter_true] at h
  exact h

/-! ### generator expressions -/
theorem gen_pure {P : Addr} {p : α → Bool} {f : α → β} (hP : P ∈ G) (hs : ES G Γ0 wi Γ R xs) (hl : xs.length ≤ 100000) (hn : ∀ i ∈ vs, NoAt Γ i)
    (turn : ∀ x, x ∈ xs → TuN G Γ Γ g tt te vs R S x (if p x = true then some (f x) else none)) {M own : List Addr} {σ : L2.St} {H : Hp} (k : Ok G M H) (e : Env G M H own σ Γ0) {mid : List V → V → Hp → Prop} {fin : List V → Hp → Prop}
    (hmid : ∀ us y H' h pre z, Ex (G ++ own) H H' → Ok G M H' → Env G M H' own σ Γ → h = hid M H' → All2 (S.rep h) us pre → S.rep h y z → (∃ post, (xs.filter p).map f = pre ++ z :: post) → mid us y H')
    (hfin : ∀ us H', Ex (G ++ own) H H' → Ok G M H' → Env G M H' own σ Γ → All2 (S.rep (hid M H')) us ((xs.filter p).map f) → fin us H') : GX.tGen P wi g tt te vs mid fin σ H := hs M own σ H k e _ fun J H1 gp x1 k1 e1 w1 g1 => by
  obtain ⟨Gd, Y, wk, hG, hY⟩ := w1.ex
  refine ⟨k1.wf P hP, fun H2 hT => ?_⟩
  have x2 : Ex G H1 H2 := fun b o hb eb => by rw [hT.2 b (fun z => hb (by rw [z]; exact hP))]; exact eb
  have wf2 : WF G H2 := fun P' hP' => by
    by_cases z : P' = P
    · rw [z]; exact hT.1
    · obtain ⟨ps, a, t⟩ := k1.wf P' hP'
      exact ⟨ps, by rw [hT.2 P' z]; exact a, t⟩
  have k2 := k1.ext x2 wf2
  have e2 := e1.ext k1 x2
  have x12 : Ex (G ++ own) H H2 := x1.trans (x2.more fun b hb => List.mem_append_left _ hb)
  have pre_of : ∀ i, (runS (pureStep p f) () (xs.take i)).2 = ((xs.take i).filter p).map f := fun i => runS_pure
  refine ⟨fun i m us H' => m = xs.length - i ∧ i ≤ xs.length ∧ Ok G M H' ∧ Env G M H' own (L2.wipe σ vs) Γ ∧ gp.p (hid M H') ∧ Ex (G ++ own) H H' ∧ All2 (S.rep (hid M H')) us (((xs.take i).filter p).map f),
    ⟨xs.length, by simp, Nat.zero_le _, k2, by have := e2.wipe (vs := vs) fun i hi => (hn i hi).plain; rw [wipeC_no hn] at this; exact this, gp.mono (x2.hid k1.sub) g1, x12, .nil⟩, ?_⟩
  rintro i m us H3 ⟨rfl, hi, k3, e3, g3, x3, r3⟩
  have q3 := hG _ _ hid_sub g3
  by_cases hlt : i < xs.length
  · refine .inr ⟨wk.goes i H3 hlt q3, fun us' H' => Ok G M H' ∧ Env G M H' own (L2.wipe σ vs) Γ ∧ gp.p (hid M H') ∧ Ex (G ++ own) H H' ∧ All2 (S.rep (hid M H')) us' (((xs.take (i + 1)).filter p).map f), fun us' H' ⟨a1, a2, a3, a4, a5⟩ => ⟨xs.length - (i + 1), by omega, rfl, hlt, a1, a2, a3, a4, a5⟩, fun x H4 y4 => ?_⟩
    obtain ⟨x4, k4, a, ha, ra⟩ := hY i x M H3 H4 hlt k3 g3 (wk.yields i H3 x H4 hlt q3 y4)
    have e4 := e3.ext k3 x4
    obtain ⟨Γx, ws, tg, hw, hpx, ho⟩ := turn a (List.mem_of_getElem? ha)
    have htk : xs.take (i + 1) = xs.take i ++ [a] := take_succ_of ha
    refine tg M own _ H4 x _ k4 e4 ra fun σ5 s5 e5 => ⟨(s5 vs hw).trans wipe_wipe, ?_⟩
    have hw5 : L2.wipe σ5 vs = L2.wipe σ vs := (s5 vs hw).trans wipe_wipe
    by_cases hp : p a = true
    · rw [if_pos hp] at ho
      obtain ⟨ht, Γy, hel, hpy, hwp⟩ := ho
      refine ht M own σ5 H4 k4 e5 _ fun H6 x6 k6 e6 => ?_
      rw [if_pos rfl]
      refine hel M own σ5 H6 k6 e6 _ fun v H7 x7 k7 e7 r7 => ?_
      have xx : Ex (G ++ own) H3 H7 := ((x4.more fun b hb => List.mem_append_left _ hb).trans x6).trans x7
      have ee := e7.wipe hpy
      rw [hwp, hw5] at ee
      have r7' : All2 (S.rep (hid M H7)) us (((xs.take i).filter p).map f) := r3.imp fun _ _ => S.mono (xx.hid (e3.allSub k3))
      have hlen : us.length < sizeLine := by
        have h1 := r3.length
        have h2 : (((xs.take i).filter p).map f).length ≤ xs.length := by
          rw [List.length_map]
          exact Nat.le_trans (List.length_filter_le _ _) (by rw [List.length_take]; omega)
        have h4 : (100000 : Nat) < sizeLine := by decide
        omega
      refine ⟨hlen, hmid us v H7 _ _ (f a) (x3.trans xx) k7 (ee.unwipe hn) rfl r7' r7 ?_, k7, ee, gp.mono (xx.hid (e3.allSub k3)) g3, x3.trans xx, ?_⟩
      · refine ⟨((xs.drop (i + 1)).filter p).map f, ?_⟩
        have : xs = xs.take i ++ a :: xs.drop (i + 1) := by
          rw [← List.singleton_append, ← List.append_assoc, ← htk, List.take_append_drop]
        conv => lhs; rw [this]
        rw [List.filter_append, List.map_append, List.filter_cons_of_pos hp, List.map_cons]
      · rw [htk, List.filter_append, List.map_append, List.filter_cons_of_pos hp]
        exact r7'.append (.cons r7 .nil)
    · rw [if_neg hp] at ho
      obtain ⟨ht, hwp⟩ := ho
      refine ht M own σ5 H4 k4 e5 _ fun H6 x6 k6 e6 => ?_
      rw [if_neg Bool.false_ne_true]
      have xx : Ex (G ++ own) H3 H6 := (x4.more fun b hb => List.mem_append_left _ hb).trans x6
      have ee := e6.wipe hpx
      rw [hwp, hw5] at ee
      refine ⟨k6, ee, gp.mono (xx.hid (e3.allSub k3)) g3, x3.trans xx, ?_⟩
      rw [htk, List.filter_append, List.map_append, List.filter_cons_of_neg hp, List.filter_nil, List.map_nil, List.append_nil]
      exact r3.imp fun _ _ => S.mono (xx.hid (e3.allSub k3))
  · have ei : i = xs.length := by omega
    subst ei
    rw [List.take_length] at r3
    exact .inl ⟨wk.stops H3 q3, hfin us H3 x3 k3 (e3.unwipe hn) r3⟩
theorem e_anyG {P : Addr} {p f : α → Bool} (hP : P ∈ G) (hs : ES G Γ0 wi Γ R xs) (hl : xs.length ≤ 100000) (hn : ∀ i ∈ vs, NoAt Γ i)
    (turn : ∀ x, x ∈ xs → TuN G Γ Γ g tt te vs R rBool x (if p x = true then some (f x) else none)) : E G Γ0 (GX.tAnyG P wi g tt te vs) Γ rBool (((xs.filter p).map f).any id) := fun M own σ H k e Q q => by
  refine gen_pure (mid := fun us y H' => ∃ b, y = .bl b ∧ (b = true → Q (.bl true) H')) hP hs hl hn turn k e (fun us y H' h pre z x' k' e' _ _ r ⟨post, hpo⟩ => ⟨z, r, fun hz => ?_⟩) fun us H' x' k' e' r hz => ?_
  · have ha : ((xs.filter p).map f).any id = true := by rw [hpo, List.any_append, List.any_cons, hz]; simp
    rw [ha] at q
    exact q _ H' x' k' e' rfl
  · have ha : ((xs.filter p).map f).any id = false := by
      rw [List.any_eq_false]
      intro b hb ht
      obtain ⟨i, hi, eb⟩ := List.mem_iff_getElem.mp hb
      obtain ⟨u, h1, h2⟩ := r.get (i := i) (b := b) (by rw [List.getElem?_eq_getElem hi, eb])
      have h3 := hz u (List.mem_of_getElem? h1)
      have h2 : u = V.bl b := h2
      rw [h2] at h3
      injection h3 with h4
      rw [h4] at ht
      cases ht
    rw [ha] at q
    exact q _ H' x' k' e' rfl
theorem all2_ints {h : Hp} : ∀ {us : List V} {ns : List Int}, All2 (rInt.rep h) us ns → us = ns.map V.int
  | _, _, .nil => rfl
  | _, _, .cons a r => by
    rw [List.map_cons, ← all2_ints r]
    exact congrArg (· :: _) a
theorem e_sumG {P : Addr} {p : α → Bool} {f : α → Int} (hP : P ∈ G) (hs : ES G Γ0 wi Γ R xs) (hl : xs.length ≤ 100000) (hn : ∀ i ∈ vs, NoAt Γ i)
    (turn : ∀ x, x ∈ xs → TuN G Γ Γ g tt te vs R rInt x (if p x = true then some (f x) else none))
    (hb : ∀ pre z post, (xs.filter p).map f = pre ++ z :: post → InLong z ∧ InLong (pre.sum + z)) : E G Γ0 (GX.tSumG P wi g tt te vs) Γ rInt ((xs.filter p).map f).sum := fun M own σ H k e Q q => by
  refine gen_pure (mid := fun ys y _ => ∃ (ns : List Int) (i : Int), ys = ns.map V.int ∧ y = .int i ∧ InLong i ∧ InLong (ns.sum + i)) hP hs hl hn turn k e (fun us y H' h pre z x' k' e' _ r1 r ⟨post, hpo⟩ => ?_) fun us H' x' k' e' r => ?_
  · exact ⟨pre, z, all2_ints r1, r, (hb pre z post hpo).1, (hb pre z post hpo).2⟩
  · exact ⟨_, all2_ints r, q _ H' x' k' e' rfl⟩
theorem e_mmG {P : Addr} {better : Int → Int → Bool} {p : α → Bool} {f : α → Int} {m : Int} (hP : P ∈ G) (hs : ES G Γ0 wi Γ R xs) (hl : xs.length ≤ 100000) (hn : ∀ i ∈ vs, NoAt Γ i)
    (turn : ∀ x, x ∈ xs → TuN G Γ Γ g tt te vs R rInt x (if p x = true then some (f x) else none))
    (hm : GX.best better ((xs.filter p).map f) = some m) : E G Γ0 (GX.tMMG better P wi g tt te vs) Γ rInt m := fun M own σ H k e Q q => by
  refine gen_pure (mid := fun _ y _ => ∃ i : Int, y = .int i) hP hs hl hn turn k e (fun us y H' h pre z x' k' e' _ r1 r _ => ⟨z, r⟩) fun us H' x' k' e' r => ?_
  exact ⟨_, m, all2_ints r, hm, q _ H' x' k' e' rfl⟩
theorem e_tupG {P : Addr} {p : α → Bool} {f : α → β} (hP : P ∈ G) (hs : ES G Γ0 wi Γ R xs) (hl : xs.length ≤ 100000) (hn : ∀ i ∈ vs, NoAt Γ i)
    (turn : ∀ x, x ∈ xs → TuN G Γ Γ g tt te vs R S x (if p x = true then some (f x) else none)) : E G Γ0 (GX.tTupG P wi g tt te vs) Γ (rTup S) ((xs.filter p).map f) := fun M own σ H k e Q q => by
  refine gen_pure (mid := fun _ _ _ => True) hP hs hl hn turn k e (fun _ _ _ _ _ _ _ _ _ _ _ _ _ => trivial) fun us H' x' k' e' r pp hp => ?_
  have hM := k'.fresh hp
  exact q _ _ (x'.trans (Ex.new hp)) (k'.new hp) (e'.ext k' (Ex.new hp)) ⟨pp, us, rfl, hid_of hM upd_same, r.imp fun _ _ => S.mono (hid_new hM hp)⟩
end

/-! ### promises -/
/-- a def that changes nothing that stands: arguments by ds, an answer by S, or an error of the class at c -/
def spF (G : List Addr) {ι γ : Type} (pre : ι → Prop) (ds : ι → List Dy) (S : Rp γ) (f : ι → Except Addr γ) : Sp := fun vs H Q E => ∃ M x, Ok G M H ∧ pre x ∧ All2 (fun v (d : Dy) => d.R.rep (hid M H) v d.a) vs (ds x) ∧
  (∀ r, f x = .ok r → ∀ w H', Ex G H H' → Ok G M H' → S.rep (hid M H') w r → Q w H') ∧ ∀ c, f x = .error c → ∀ H', Ex G H H' → Ok G M H' → E (.ref c) none H'
/-- an __init__: the object stands at the first argument -/
def spI (G : List Addr) (C : Addr) {ι γ : Type} (pre : ι → Prop) (ds : ι → List Dy) (S : Rp γ) (f : ι → Except Addr γ) : Sp := fun vs H Q E => ∃ M x p dx rest, vs = .ref p :: rest ∧ H p = some (.ins C dx []) ∧ p ∉ M ∧ Ok G M H ∧ pre x ∧ All2 (fun v (d : Dy) => d.R.rep (hid (p :: M) H) v d.a) rest (ds x) ∧
  (∀ r, f x = .ok r → ∀ H', Ex (G ++ [p]) H H' → Ok G M H' → S.rep (hid M H') (.ref p) r → Q .non H') ∧ ∀ c, f x = .error c → ∀ H', Ex (G ++ [p]) H H' → Ok G M H' → E (.ref c) none H'
/-- an expression that ends in an error of the class at c -/
def EX (G : List Addr) (Γ : Ctx) (te : TE) (Γ' : Ctx) (W : XK) (c : Addr) : Prop :=
  ∀ M own σ H, Ok G M H → Env G M H own σ Γ → ∀ Q : VK, (∀ H', Ex (G ++ own) H H' → Ok G M H' → Env G M H' own σ Γ' → W (.ref c) none H') → te σ H Q
section
variable {G : List Addr} {Γ Γ' Γ1 Γ2 : Ctx} {ι α γ : Type} {pre : ι → Prop} {ds : ι → List Dy} {S : Rp γ} {R : Rp α} {f : ι → Except Addr γ} {x : ι} {r : γ} {c : Addr} {W : XK} {ta t : TA} {te : TE} {o : α}
theorem e_call (h : EA G Γ ta Γ' (ds x)) (hp : pre x) (hf : f x = .ok r) : E G Γ (tCall (spF G pre ds S f) [] W ta) Γ' S r := fun M own σ H k e Q q => h M own σ H k e _ fun vs H1 x1 k1 e1 r1 => by
  show spF G pre ds S f (vs ++ []) H1 Q W
  rw [List.append_nil]
  refine ⟨M, x, k1, hp, r1, fun r' hr w H2 x2 k2 rw' => ?_, fun c' hc => by rw [hf] at hc; cases hc⟩
  rw [hf] at hr
  cases hr
  exact q w H2 (x1.trans (x2.more fun b hb => List.mem_append_left _ hb)) k2 (e1.ext k1 x2) rw'
theorem e_callX (h : EA G Γ ta Γ' (ds x)) (hp : pre x) (hf : f x = .error c) : EX G Γ (tCall (spF G pre ds S f) [] W ta) Γ' W c := fun M own σ H k e Q q => h M own σ H k e _ fun vs H1 x1 k1 e1 r1 => by
  show spF G pre ds S f (vs ++ []) H1 Q W
  rw [List.append_nil]
  refine ⟨M, x, k1, hp, r1, fun r' hr => (by rw [hf] at hr; cases hr), fun c' hc H2 x2 k2 => ?_⟩
  rw [hf] at hc
  cases hc
  exact q H2 (x1.trans (x2.more fun b hb => List.mem_append_left _ hb)) k2 (e1.ext k1 x2)
/-- what a method call asks of the object's kind -/
def IsObj (R : Rp α) (C : Addr) (m : Str) : Prop := ∀ h v o, R.rep h v o → ∃ a dx fs, v = .ref a ∧ h a = some (.ins C dx fs) ∧ fs.lookup m = none
theorem e_meth {C : Addr} {m : Str} {tail : List Dy} (ho : E G Γ te Γ1 R o) (hi : IsObj R C m) (h : EA G Γ1 t Γ2 tail) (hds : ds x = ⟨R, o⟩ :: tail) (hp : pre x) (hf : f x = .ok r) : E G Γ (tMeth C m (spF G pre ds S f) [] W te t) Γ2 S r := fun M own σ H k e Q q =>
  ho M own σ H k e _ fun v H1 x1 k1 e1 r1 => by
    obtain ⟨a, dx, fs, rfl, ha, hm⟩ := hi _ _ _ r1
    refine ⟨a, dx, fs, rfl, (hid_some ha).2, hm, h M own σ H1 k1 e1 _ fun vs H2 x2 k2 e2 r2 => ?_⟩
    show spF G pre ds S f (.ref a :: (vs ++ [])) H2 Q W
    rw [List.append_nil]
    refine ⟨M, x, k2, hp, by rw [hds]; exact .cons (R.mono (x2.hid (e1.allSub k1)) r1) r2, fun r' hr w H3 x3 k3 rw' => ?_, fun c' hc => by rw [hf] at hc; cases hc⟩
    rw [hf] at hr
    cases hr
    exact q w H3 ((x1.trans x2).trans (x3.more fun b hb => List.mem_append_left _ hb)) k3 (e2.ext k2 x3) rw'
theorem e_methX {C : Addr} {m : Str} {tail : List Dy} (ho : E G Γ te Γ1 R o) (hi : IsObj R C m) (h : EA G Γ1 t Γ2 tail) (hds : ds x = ⟨R, o⟩ :: tail) (hp : pre x) (hf : f x = .error c) : EX G Γ (tMeth C m (spF G pre ds S f) [] W te t) Γ2 W c := fun M own σ H k e Q q =>
  ho M own σ H k e _ fun v H1 x1 k1 e1 r1 => by
    obtain ⟨a, dx, fs, rfl, ha, hm⟩ := hi _ _ _ r1
    refine ⟨a, dx, fs, rfl, (hid_some ha).2, hm, h M own σ H1 k1 e1 _ fun vs H2 x2 k2 e2 r2 => ?_⟩
    show spF G pre ds S f (.ref a :: (vs ++ [])) H2 Q W
    rw [List.append_nil]
    refine ⟨M, x, k2, hp, by rw [hds]; exact .cons (R.mono (x2.hid (e1.allSub k1)) r1) r2, fun r' hr => (by rw [hf] at hr; cases hr), fun c' hc H3 x3 k3 => ?_⟩
    rw [hf] at hc
    cases hc
    exact q H3 ((x1.trans x2).trans (x3.more fun b hb => List.mem_append_left _ hb)) k3 (e2.ext k2 x3)
theorem make_pre {M : List Addr} {H : Hp} {C y dx : Addr} (k : Ok G M H) (hy : H y = none) (hd : H dx = none) (hn : dx ≠ y) : Ok G M (upd (upd H dx (.own y)) y (.ins C dx [])) ∧ Ex G H (upd (upd H dx (.own y)) y (.ins C dx [])) ∧ Sub (hid M H) (hid (y :: M) (upd (upd H dx (.own y)) y (.ins C dx []))) := by
  have hy' : upd H dx (.own y) y = none := by rw [upd_ne hn.symm]; exact hy
  have k1 : Ok G M (upd H dx (.own y)) := k.new hd
  exact ⟨k1.new hy', (Ex.new hd).trans (Ex.new hy'), (hid_new (k.fresh hd) hd).trans (hid_grow hy')⟩
theorem e_make {C : Addr} (h : EA G Γ t Γ' (ds x)) (hp : pre x) (hf : f x = .ok r) : E G Γ (tMake C (spI G C pre ds S f) [] W t) Γ' S r := fun M own σ H k e Q q => h M own σ H k e _ fun vs H1 x1 k1 e1 r1 y dx hy hd hn => by
  obtain ⟨kk, xx, ss⟩ := make_pre (C := C) k1 hy hd hn
  show spI G C pre ds S f (.ref y :: (vs ++ [])) _ _ W
  rw [List.append_nil]
  refine ⟨M, x, y, dx, vs, rfl, upd_same, k1.fresh hy, kk, hp, r1.imp fun v d => d.R.mono ss, fun r' hr H2 x2 k2 rw' => ⟨rfl, ?_⟩, fun c' hc => by rw [hf] at hc; cases hc⟩
  rw [hf] at hr
  cases hr
  have x3 : Ex G H1 H2 := fun b o hb eb => x2 b o (fun z => (List.mem_append.mp z).elim hb fun z => by
    rw [List.mem_singleton.mp z, hy] at eb; cases eb) (xx b o hb eb)
  exact q _ H2 (x1.trans (x3.more fun b hb => List.mem_append_left _ hb)) k2 (e1.ext k1 x3) rw'
theorem e_makeX {C : Addr} (h : EA G Γ t Γ' (ds x)) (hp : pre x) (hf : f x = .error c) : EX G Γ (tMake C (spI G C pre ds S f) [] W t) Γ' W c := fun M own σ H k e Q q => h M own σ H k e _ fun vs H1 x1 k1 e1 r1 y dx hy hd hn => by
  obtain ⟨kk, xx, ss⟩ := make_pre (C := C) k1 hy hd hn
  show spI G C pre ds S f (.ref y :: (vs ++ [])) _ _ W
  rw [List.append_nil]
  refine ⟨M, x, y, dx, vs, rfl, upd_same, k1.fresh hy, kk, hp, r1.imp fun v d => d.R.mono ss, fun r' hr => (by rw [hf] at hr; cases hr), fun c' hc H2 x2 k2 => ?_⟩
  rw [hf] at hc
  cases hc
  have x3 : Ex G H1 H2 := fun b o hb eb => x2 b o (fun z => (List.mem_append.mp z).elim hb fun z => by
    rw [List.mem_singleton.mp z, hy] at eb; cases eb) (xx b o hb eb)
  exact q H2 (x1.trans (x3.more fun b hb => List.mem_append_left _ hb)) k2 (e1.ext k1 x3)
end
end TP

set_option Elab.async false
set_option linter.all false
set_option maxRecDepth 100000
set_option maxHeartbeats 4000000
namespace TP
open PySem PySem.Spec PyProof.Rows L2

/-! ### statements -/
/-- the frame of a def: tables, what was handed in to be changed, what was hidden at its entry, the heap then -/
structure Fm where
  G : List Addr
  own0 : List Addr
  Mc : List Addr
  H0 : Hp
  sub : ∀ P ∈ G, P ∈ Mc
  al : ∀ m ∈ Mc, H0 m ≠ none
structure Stt (F : Fm) (M own : List Addr) (H : Hp) : Prop where
  ok : Ok F.G M H
  ex : Ex (F.G ++ F.own0) F.H0 H
  mc : ∀ m ∈ F.Mc, m ∈ M
  own : ∀ p ∈ own, p ∈ F.own0 ∨ F.H0 p = none
def KT (F : Fm) (g : Gp) (Γ : Ctx) (P : L2.St → Hp → Prop) : Prop := ∀ M own σ H, Stt F M own H → Env F.G M H own σ Γ → g.p (hid M H) → P σ H
section
variable {F : Fm} {g : Gp} {Γ Γ' Γ1 Γ2 : Ctx} {M own : List Addr} {H H' : Hp} {σ : L2.St} {α β γ : Type} {R : Rp α} {S : Rp β} {a : α} {b : β} {te : TE} {tt : TT} {ta : TA} {gt : TG} {D : Ends}
theorem Stt.step (s : Stt F M own H) (x : Ex (F.G ++ own) H H') (k : Ok F.G M H') : Stt F M own H' :=
  ⟨k, fun c o hc e => x c o (fun z => (List.mem_append.mp z).elim (fun z => hc (List.mem_append_left _ z)) fun z => (s.own c z).elim (fun z => hc (List.mem_append_right _ z)) fun z => by rw [z] at e; cases e) (s.ex c o hc e), s.mc, s.own⟩
theorem gp_step (s : Stt F M own H) (e : Env F.G M H own σ Γ) (x : Ex (F.G ++ own) H H') (h : g.p (hid M H)) : g.p (hid M H') := g.mono (x.hid (e.allSub s.ok)) h
/-- an answer -/
def Ret (F : Fm) (R : Rp α) (a : α) (rt : VK) : Prop := ∀ v H', Ex (F.G ++ F.own0) F.H0 H' → Ok F.G F.Mc H' → R.rep (hid F.Mc H') v a → rt v H'
/-- an error of the class at c -/
def Rai (F : Fm) (c : Addr) (W : XK) : Prop := ∀ H', Ex (F.G ++ F.own0) F.H0 H' → Ok F.G F.Mc H' → W (.ref c) none H'
theorem Stt.back (s : Stt F M own H) : Ok F.G F.Mc H := ⟨F.sub, fun m hm => s.ok.al m (s.mc m hm), s.ok.wf⟩
theorem s_asg {ws : List Nat} (h : E F.G Γ te Γ1 R a) (t : Tg F.G gt R a Γ1 Γ2 ws) (k : KT F g Γ2 D.nx) : KT F g Γ (tAsg te gt D) := fun M own σ H s e gg => h M own σ H s.ok e _ fun v H1 x1 k1 e1 r1 =>
  t M own σ H1 v _ k1 e1 r1 fun σ' _ e2 => k M own σ' H1 (s.step x1 k1) e2 (gp_step s e x1 gg)
theorem s_set {i : Nat} (h : E F.G Γ te Γ1 R a) (hp : PlainAt Γ1 i) (k : KT F g (Γ1.set i (.val R a)) D.nx) : KT F g Γ (tAsg te (gName i) D) := s_asg h (tg_name hp) k
theorem s_drop (h : E F.G Γ te Γ1 R a) (k : KT F g Γ1 D.nx) : KT F g Γ (tDrop te D) := fun M own σ H s e gg => h M own σ H s.ok e _ fun v H1 x1 k1 e1 r1 => k M own σ H1 (s.step x1 k1) e1 (gp_step s e x1 gg)
theorem s_if {c : Bool} {t u : TS} (h : ET F.G Γ tt Γ1 c) (h1 : c = true → KT F g Γ1 (t D)) (h2 : c = false → KT F g Γ1 (u D)) : KT F g Γ (tIfS tt t u D) := fun M own σ H s e gg => h M own σ H s.ok e _ fun H1 x1 k1 e1 => by
  cases c with
  | true => exact h1 rfl M own σ H1 (s.step x1 k1) e1 (gp_step s e x1 gg)
  | false => exact h2 rfl M own σ H1 (s.step x1 k1) e1 (gp_step s e x1 gg)
theorem s_seq {t u : TS} (h : KT F g Γ (t { D with nx := u D })) : KT F g Γ (tSeq t u D) := h
theorem s_next (h : KT F g Γ D.nx) : KT F g Γ (tNext D) := h
theorem s_ret (h : E F.G Γ te Γ1 R a) (r : Ret F R a D.rt) : KT F g Γ (tRet te D) := fun M own σ H s e gg => h M own σ H s.ok e _ fun v H1 x1 k1 e1 r1 =>
  r v H1 (s.step x1 k1).ex (s.step x1 k1).back (R.mono (hid_less s.mc) r1)
theorem s_end {rt : VK} (r : Ret F rNon () rt) : KT F g Γ (fun _ H' => rt .non H') := fun M own σ H s e gg => r .non H s.ex s.back rfl
theorem s_raise {c : Addr} {W : XK} (r : Rai F c W) : KT F g Γ (fun _ H' => W (.ref c) none H') := fun M own σ H s e gg => r H s.ex s.back
theorem s_asgX {c : Addr} {W : XK} (h : EX F.G Γ te Γ1 W c) (r : Rai F c W) : KT F g Γ (tAsg te gt D) := fun M own σ H s e gg => h M own σ H s.ok e _ fun H1 x1 k1 e1 => r H1 (s.step x1 k1).ex (s.step x1 k1).back
theorem s_dropX {c : Addr} {W : XK} (h : EX F.G Γ te Γ1 W c) (r : Rai F c W) : KT F g Γ (tDrop te D) := fun M own σ H s e gg => h M own σ H s.ok e _ fun H1 x1 k1 e1 => r H1 (s.step x1 k1).ex (s.step x1 k1).back
theorem s_retX {c : Addr} {W : XK} (h : EX F.G Γ te Γ1 W c) (r : Rai F c W) : KT F g Γ (tRet te D) := fun M own σ H s e gg => h M own σ H s.ok e _ fun H1 x1 k1 e1 => r H1 (s.step x1 k1).ex (s.step x1 k1).back
theorem s_le (l : Le Γ Γ') {P : L2.St → Hp → Prop} (k : KT F g Γ' P) : KT F g Γ P := fun M own σ H s e gg => k M own σ H s ⟨e.nd, e.sub, e.out, e.env.le l⟩ gg
theorem s_gp {g' : Gp} (h : ∀ h, g'.p h → g.p h) {P : L2.St → Hp → Prop} (k : KT F g Γ P) : KT F g' Γ P := fun M own σ H s e gg => k M own σ H s e (h _ gg)
theorem s_augI {i : Nat} {n m : Int} {f : Int → Int → Int} (hx : Γ[i]? = some (.val rInt n)) (h : E F.G Γ te Γ rInt m) (k : KT F g (Γ.set i (.val rInt (f n m))) D.nx) : KT F g Γ (tAug i te (ipI f) D) := fun M own σ H s e gg => by
  obtain ⟨v, h1, h2⟩ := e.env.get hx
  have h2 : v = V.int n := h2
  subst h2
  refine ⟨_, h1, h M own σ H s.ok e _ fun w H1 x1 k1 e1 r1 => ?_⟩
  have r1 : w = V.int m := r1
  subst r1
  refine ⟨n, m, rfl, rfl, k M own _ H1 (s.step x1 k1) ⟨e1.nd, e1.sub, e1.out, e1.env.set (R := rInt) rfl fun s hs => ?_⟩ (gp_step s e x1 gg)⟩
  rw [hx] at hs
  cases hs
  exact True.intro
/-- a for -/
theorem s_for {Sx : Type} {wi : TI} {tb : TS} {xs : List α} (Γs : Sx → Ctx) (I : Nat → Sx → Prop) {s0 : Sx} (hs : ES F.G Γ wi (Γs s0) R xs) (h0 : I 0 s0)
    (turn : ∀ i x s, xs[i]? = some x → I i s → ∃ Γx ws, Tg F.G gt R x (Γs s) Γx ws ∧ ∀ g' N, (∀ s', I (i + 1) s' → KT F g' (Γs s') N) → (∀ Γ', KT F g Γ' D.nx → KT F g' Γ' D.nx) → KT F g' Γx (tb { D with nx := N, ct := N, bk := D.nx }))
    (done : ∀ s, I xs.length s → KT F g (Γs s) D.nx) : KT F g Γ (tFor wi gt tb D) := fun M own σ H s e gg => hs M own σ H s.ok e _ fun J H1 gj x1 k1 e1 w1 g1 => by
  obtain ⟨Gd, Y, wk, hG, hY⟩ := w1.ex
  have gg1 : (gAnd g gj).p (hid M H1) := ⟨gp_step s e x1 gg, g1⟩
  refine for_it wk (fun i σ H => ∃ s M own, I i s ∧ Stt F M own H ∧ Env F.G M H own σ (Γs s) ∧ (gAnd g gj).p (hid M H)) ⟨s0, M, own, h0, s.step x1 k1, e1, gg1⟩ (fun i σ H _ ⟨_, M, _, _, _, _, gx⟩ => hG _ _ hid_sub gx.2) ?_ ?_
  · rintro i x σ2 H2 H3 hi ⟨s2, M2, own2, i2, st2, e2, g2⟩ hy
    obtain ⟨x3, k3, y, hy1, ry⟩ := hY i x M2 H2 H3 hi st2.ok g2.2 hy
    have x3' := x3.more (N' := F.G ++ own2) fun b hb => List.mem_append_left _ hb
    have e3 := e2.ext st2.ok x3
    obtain ⟨Γx, ws, tg, body⟩ := turn i y s2 hy1 i2
    refine tg M2 own2 σ2 H3 x _ k3 e3 ry fun σ4 _ e4 => ?_
    refine body (gAnd g gj) _ (fun s' i' M own σ H st e gx => ⟨s', M, own, i', st, e, gx⟩) (fun Γ' kk => s_gp (g' := gAnd g gj) (fun h z => (show g.p h ∧ gj.p h from z).1) kk) M2 own2 σ4 H3 (st2.step x3' k3) e4 (gp_step st2 e2 x3' g2)
  · rintro σ2 H2 ⟨s2, M2, own2, i2, st2, e2, g2⟩
    exact done s2 i2 M2 own2 σ2 H2 st2 e2 g2.1
/-- a while -/
theorem s_while {Sx : Type} {tb : TS} (Γs : Sx → Ctx) (I : Sx → Prop) (μ : Sx → Nat) {s0 : Sx} (h0 : I s0)
    (turn : ∀ s, I s → ∃ c, ET F.G (Γs s) tt (Γs s) c ∧ (c = true → ∀ N, (∀ s', I s' → μ s' < μ s → KT F g (Γs s') N) → KT F g (Γs s) (tb { D with nx := N, ct := N, bk := D.nx })) ∧ (c = false → KT F g (Γs s) D.nx)) :
    KT F g (Γs s0) (tWhile tt tb D) := fun M own σ H s e gg => by
  refine ⟨fun m σ H => ∃ s M own, μ s = m ∧ I s ∧ Stt F M own H ∧ Env F.G M H own σ (Γs s) ∧ g.p (hid M H), ⟨_, s0, M, own, rfl, h0, s, e, gg⟩, ?_⟩
  rintro m σ2 H2 ⟨s2, M2, own2, rfl, i2, st2, e2, g2⟩
  obtain ⟨c, ht, h1, h2⟩ := turn s2 i2
  refine ht M2 own2 σ2 H2 st2.ok e2 _ fun H3 x3 k3 e3 => ?_
  cases c with
  | true => exact ⟨fun σ H => ∃ s M own, μ s < μ s2 ∧ I s ∧ Stt F M own H ∧ Env F.G M H own σ (Γs s) ∧ g.p (hid M H), fun σ' H' ⟨s', M', own', a1, a2, a3, a4, a5⟩ => ⟨μ s', a1, s', M', own', rfl, a2, a3, a4, a5⟩,
      h1 rfl _ (fun s' i' l M own σ H st e gx => ⟨s', M, own, l, i', st, e, gx⟩) M2 own2 σ2 H3 (st2.step x3 k3) e3 (gp_step st2 e2 x3 g2)⟩
  | false => exact h2 rfl M2 own2 σ2 H3 (st2.step x3 k3) e3 (gp_step st2 e2 x3 g2)

/-! ### a def's entry -/
def ctx0 (ds : List Dy) (n : Nat) : Ctx := ds.map (fun d => .val d.R d.a) ++ List.replicate n .no
theorem env_none {h H : Hp} : ∀ {n : Nat}, EnvR h H (List.replicate n none) (List.replicate n .no) []
  | 0 => rfl
  | n + 1 => by
    show EnvR h H (none :: List.replicate n none) (.no :: List.replicate n .no) []
    exact env_none (n := n)
theorem env_args {h H : Hp} {n : Nat} : ∀ {vs : List V} {ds : List Dy}, All2 (fun v (d : Dy) => d.R.rep h v d.a) vs ds → EnvR h H (vs.map some ++ List.replicate n none) (ctx0 ds n) []
  | _, _, .nil => env_none
  | _, _, .cons a r => ⟨⟨_, rfl, a⟩, env_args r⟩
end
end TP

set_option Elab.async false
set_option linter.all false
set_option maxRecDepth 100000
set_option maxHeartbeats 4000000
namespace TP
open PySem PySem.Spec PyProof.Rows L2

/-! ### a def by its datum, its code object named -/
def fdOf (K : PySem.W.Frag) (p : He.Defn) : FuncData := match K.lookup (He.fAd K p) with
  | some ⟨_, _, .func fd, _⟩ => fd
  | _ => PySem.W.fnOf "" "" ⟨[], [], none, [], [], none, []⟩ [] ⟨.function, [], false, false, []⟩ .none .none .none .none none .none .none
structure FnC (K : PySem.W.Frag) (d : He.DefD) : Prop where
  ex : ∃ (oc : Value) (od : Option Addr) (kV doc pm : Value) (an : Option Addr) (ct : Value) (osl : Array (Option Value)),
    fdOf K d.at_ = PySem.W.fnOf d.name d.qual d.params d.body d.scope .none kV doc pm an (.ref (He.codeOf K d.at_)) ct ∧ K.lookup (He.fAd K d.at_) = some ⟨oc, od, .func (fdOf K d.at_), osl⟩ ∧ PySem.W.codeIn K (.ref (He.codeOf K d.at_)) d.qual = true
  kp : PySem.W.keepIn K (.ref (He.fAd K d.at_)) = true
theorem fnC_of {fa : List He.Fa} {fn : List He.DefD} {K : PySem.W.Frag} {d : He.DefD} (c : He.SaysD fa fn K) (h : d ∈ fn) (hd : d.dfl = []) : FnC K d := by
  obtain ⟨fd, ⟨oc, od, dV, kV, doc, pm, an, cdv, ct, osl, e, lk, hcd, hD, _⟩, kp⟩ := c.defs h
  have ef : fdOf K d.at_ = fd := by unfold fdOf; rw [lk]
  obtain ⟨cc, rfl⟩ := He.codeIn_ref hcd
  have ec : He.codeOf K d.at_ = cc := He.codeOf_eq lk (by rw [e] <;> rfl)
  have eD : dV = .none := by
    rcases hD with ⟨_, z⟩ | ⟨z, _⟩
    · exact z
    · exact absurd (by unfold He.DefD.dvs; rw [hd] <;> rfl) z
  subst eD
  exact ⟨⟨oc, od, kV, doc, pm, an, ct, osl, by rw [ef, e, ec], by rw [ef]; exact lk, by rw [ec]; exact hcd⟩, kp⟩
section
variable {P : Program} {w : World} {K : PySem.W.Frag} {mg : Str → Option Value} {base : Heap} {d : He.DefD}
/-- a def's context -/
abbrev cxD (P : Program) (w : World) (K : PySem.W.Frag) (mg : Str → Option Value) (base : Heap) (N : List Str) (d : He.DefD) (A : Around) (outer : List PySem.Env) (s : Shared) (H : Hp) (E : XK) : Cx :=
  cxOf (L2.CX P w) P w K mg base N d.qual d.scope (He.fAd K d.at_) (.ref (He.codeOf K d.at_)) A outer s H E
/-- what a def keeps -/
abbrev Kp (P : Program) (w : World) (K : PySem.W.Frag) (mg : Str → Option Value) (base : Heap) (k : Nat) (d : He.DefD) (ps : List Str) (sp : Sp) : Prop := FnOk P w K mg base (L2.CX P w) k (He.fAd K d.at_) (fdOf K d.at_) ps sp
theorem FnC.ok {N ps : List Str} {k : Nat} {sp : Sp} (F : FnC K d) (S : FnScope N ps d.scope) (len : ∀ vs H Q E, sp vs H Q E → vs.length = ps.length)
    (hbody : ∀ (A : Around) (outer : List PySem.Env) (s : Shared) (H : Hp) (vs : List V) (Q : VK) (E : XK), Room k (cxD P w K mg base N d A outer s H E).A → sp vs H Q E →
      ∃ t, PSs (cxD P w K mg base N d A outer s H E) d.body t ∧ t { nx := fun _ H' => Q .non H', rt := Q } (start N vs) H) : Kp P w K mg base (k + 1) d ps sp := by
  obtain ⟨oc, od, kV, doc, pm, an, ct, osl, e, lk, hcd⟩ := F.ex
  show FnOk P w K mg base (L2.CX P w) (k + 1) (He.fAd K d.at_) (fdOf K d.at_) ps sp
  rw [e] at lk ⊢
  exact fn_of lk hcd S len fun A outer s H vs Q E hr hsp => hbody A outer s H vs Q E hr hsp
theorem FnC.binds {ps : List Str} (F : FnC K d)
    (h : ∀ (kV doc pm : Value) (an : Option Addr) (cdv ct : Value) (us : List Value), us.length = ps.length → bindArgs (PySem.W.fnOf d.name d.qual d.params d.body d.scope .none kV doc pm an cdv ct) ⟨us, []⟩ = pure (ps.zip us)) : Binds K (fdOf K d.at_) ps [] := by
  obtain ⟨oc, od, kV, doc, pm, an, ct, osl, e, lk, hcd⟩ := F.ex
  rw [e]
  exact .all (h kV doc pm an _ ct)
end

/-! ### a promise kept -/
/-- the frame at a def's entry -/
def fm0 {G M : List Addr} (own0 : List Addr) {H : Hp} (k : Ok G M H) : Fm := ⟨G, own0, M, H, k.sub, k.al⟩
theorem start_eq {N : List Str} {vs : List V} {n : Nat} (h : N.length - vs.length = n) : start N vs = vs.map some ++ List.replicate n none := by
  rw [← h]; rfl
/-- the body's law: from spF to KT -/
theorem spF_in {G : List Addr} {ι γ : Type} {pre : ι → Prop} {ds : ι → List Dy} {S : Rp γ} {f : ι → Except Addr γ} {N : List Str} {vs : List V} {H : Hp} {Q : VK} {E : XK} {n : Nat} {t : TS} (h : spF G pre ds S f vs H Q E) (hn : N.length - vs.length = n)
    (body : ∀ (F : Fm) (x : ι), F.G = G → F.own0 = [] → pre x → (∀ r, f x = .ok r → Ret F S r Q) → (∀ c, f x = .error c → Rai F c E) → KT F gT (ctx0 (ds x) n) (t { nx := fun _ H' => Q .non H', rt := Q })) :
    t { nx := fun _ H' => Q .non H', rt := Q } (start N vs) H := by
  obtain ⟨M, x, k, hp, ha, hok, her⟩ := h
  rw [start_eq hn]
  refine body (fm0 [] k) x rfl rfl hp (fun r hr v H' x' k' rv => hok r hr v H' (by simpa [fm0] using x') k' rv) (fun c hc H' x' k' => her c hc H' (by simpa [fm0] using x') k') M [] _ H ⟨k, Ex.refl, fun m hm => hm, fun p hp => by simp at hp⟩ ⟨List.nodup_nil, fun p hp => by simp at hp, fun p hp => by simp at hp, env_args ha⟩ trivial
theorem spF_len {G : List Addr} {ι γ : Type} {pre : ι → Prop} {ds : ι → List Dy} {S : Rp γ} {f : ι → Except Addr γ} {n : Nat} (hd : ∀ x, (ds x).length = n) : ∀ vs H Q E, spF G pre ds S f vs H Q E → vs.length = n := fun vs H Q E ⟨M, x, k, hp, ha, _⟩ => by
  rw [ha.length, hd]
end TP

set_option Elab.async false
set_option linter.all false
set_option maxRecDepth 100000
set_option maxHeartbeats 4000000
namespace TP
open PySem PySem.Spec PyProof.Rows L2

/-! ### one owned slot -/
structure Foc (h H : Hp) (σ : L2.St) (Γ : Ctx) (ps : List Addr) (i : Nat) (O : Ow) (v : V) (p1 pi p2 : List Addr) : Prop where
  at_ : σ[i]? = some (some v)
  seg : ps = p1 ++ (pi ++ p2)
  own : O.own h H pi v
  put : ∀ (h' H' : Hp) (O' : Ow), Sub h h' → (∀ p ∈ p1 ++ p2, H' p = H p) → O'.own h' H' pi v → EnvR h' H' σ (Γ.set i (.own O')) ps
  out : ∀ (h' H' : Hp) (s : Sl), Sub h h' → (∀ p ∈ p1 ++ p2, H' p = H p) → (match s with | .no => True | .val R a => R.rep h' v a | .own _ => False) → EnvR h' H' σ (Γ.set i s) (p1 ++ p2)
theorem EnvR.focus {h H : Hp} {O : Ow} : ∀ {σ : L2.St} {Γ : Ctx} {ps : List Addr} {i : Nat}, EnvR h H σ Γ ps → Γ[i]? = some (.own O) → ∃ v p1 pi p2, Foc h H σ Γ ps i O v p1 pi p2
  | [], [], _, _, _, e => by simp at e
  | _ :: σ, .no :: Γ, ps, 0, x, e => by simp at e
  | ov :: σ, .no :: Γ, ps, i + 1, x, e => by
    obtain ⟨v, p1, pi, p2, f⟩ := EnvR.focus (σ := σ) (Γ := Γ) (i := i) x (by simpa using e)
    exact ⟨v, p1, pi, p2, by simpa using f.at_, f.seg, f.own, fun h' H' O' s a o => f.put h' H' O' s a o, fun h' H' s' s a o => f.out h' H' s' s a o⟩
  | ov :: σ, .val R' a' :: Γ, ps, 0, _, e => by simp at e
  | ov :: σ, .val R' a' :: Γ, ps, i + 1, ⟨⟨w, e1, r⟩, x⟩, e => by
    obtain ⟨v, p1, pi, p2, f⟩ := EnvR.focus (σ := σ) (Γ := Γ) (i := i) x (by simpa using e)
    exact ⟨v, p1, pi, p2, by simpa using f.at_, f.seg, f.own, fun h' H' O' s a o => ⟨⟨w, e1, R'.mono s r⟩, f.put h' H' O' s a o⟩, fun h' H' s' s a o => ⟨⟨w, e1, R'.mono s r⟩, f.out h' H' s' s a o⟩⟩
  | ov :: σ, .own O' :: Γ, ps, 0, ⟨v, p1, p2, e1, e2, r, x⟩, e => by
    simp at e
    subst e
    refine ⟨v, [], p1, p2, by simp [e1], by simpa using e2, r, fun h' H' O' s a o => ⟨v, p1, p2, e1, e2, o, x.mono s fun p hp => a p (by simpa using hp)⟩, fun h' H' s' s a o => ?_⟩
    have x' : EnvR h' H' σ Γ p2 := x.mono s fun p hp => a p (by simpa using hp)
    cases s' with
    | no => exact x'
    | val R a => exact ⟨⟨v, e1, o⟩, x'⟩
    | own _ => exact o.elim
  | ov :: σ, .own O' :: Γ, ps, i + 1, ⟨w, q1, q2, e1, e2, r, x⟩, e => by
    obtain ⟨v, p1, pi, p2, f⟩ := EnvR.focus (σ := σ) (Γ := Γ) (i := i) x (by simpa using e)
    refine ⟨v, q1 ++ p1, pi, p2, by simpa using f.at_, by rw [e2, f.seg, List.append_assoc], f.own, fun h' H' O2 s a o => ?_, fun h' H' s' s a o => ?_⟩
    · exact ⟨w, q1, q2, e1, e2, O'.mono s (fun p hp => a p (by simp [hp])) r, f.put h' H' O2 s (fun p hp => a p (by rw [List.append_assoc]; exact List.mem_append_right _ hp)) o⟩
    · exact ⟨w, q1, p1 ++ p2, e1, by rw [List.append_assoc], O'.mono s (fun p hp => a p (by simp [hp])) r, f.out h' H' s' s (fun p hp => a p (by rw [List.append_assoc]; exact List.mem_append_right _ hp)) o⟩
  | [], .no :: _, _, _, x, _ => x.elim
  | [], .val _ _ :: _, _, _, x, _ => x.elim
  | [], .own _ :: _, _, _, x, _ => x.elim
  | _ :: _, [], _, _, x, _ => x.elim
/-- a new owned thing in a slot -/
theorem EnvR.newOwn {h H : Hp} {O : Ow} {v : V} {pi : List Addr} (o : O.own h H pi v) : ∀ {σ : L2.St} {Γ : Ctx} {ps : List Addr} {i : Nat}, EnvR h H σ Γ ps → PlainAt Γ i → i < Γ.length → ∃ p1 p2, ps = p1 ++ p2 ∧ EnvR h H (σ.set i (some v)) (Γ.set i (.own O)) (p1 ++ (pi ++ p2))
  | [], [], _, _, _, _, l => by simp at l
  | _ :: σ, .no :: Γ, ps, 0, x, e, _ => ⟨[], ps, rfl, v, pi, ps, rfl, rfl, o, x⟩
  | _ :: σ, .no :: Γ, ps, i + 1, x, e, l => EnvR.newOwn o (σ := σ) (Γ := Γ) (i := i) x (fun s z => e s (by simpa using z)) (by simpa using l)
  | _ :: σ, .val R a :: Γ, ps, 0, ⟨_, x⟩, e, _ => ⟨[], ps, rfl, v, pi, ps, rfl, rfl, o, x⟩
  | _ :: σ, .val R a :: Γ, ps, i + 1, ⟨y, x⟩, e, l => by
    obtain ⟨p1, p2, e1, x'⟩ := EnvR.newOwn o (σ := σ) (Γ := Γ) (i := i) x (fun s z => e s (by simpa using z)) (by simpa using l)
    exact ⟨p1, p2, e1, y, x'⟩
  | _ :: σ, .own O' :: Γ, ps, 0, _, e, _ => (e (.own O') (by simp)).elim
  | _ :: σ, .own O' :: Γ, ps, i + 1, ⟨w, q1, q2, e1, e2, r, x⟩, e, l => by
    obtain ⟨p1, p2, e3, x'⟩ := EnvR.newOwn o (σ := σ) (Γ := Γ) (i := i) x (fun s z => e s (by simpa using z)) (by simpa using l)
    exact ⟨q1 ++ p1, p2, by rw [e2, e3, List.append_assoc], w, q1, p1 ++ (pi ++ p2), e1, by rw [List.append_assoc], r, x'⟩
  | [], .no :: _, _, _, x, _, _ => x.elim
  | [], .val _ _ :: _, _, _, x, _, _ => x.elim
  | [], .own _ :: _, _, _, x, _, _ => x.elim
  | _ :: _, [], _, _, x, _, _ => x.elim
theorem hid_upd {M : List Addr} {H : Hp} {p : Addr} {o : HO} (hp : p ∈ M) : hid M (upd H p o) = hid M H := by
  funext b
  unfold hid
  by_cases hb : b ∈ M
  · rw [if_pos hb, if_pos hb]
  · rw [if_neg hb, if_neg hb, upd_ne (fun z => hb (by rw [z]; exact hp))]
theorem Ok.upd {G M : List Addr} {H : Hp} {p : Addr} {o : HO} (k : Ok G M H) (hG : p ∉ G) : Ok G M (L2.upd H p o) := ⟨k.sub, fun m hm z => by
  by_cases e : m = p
  · rw [e, upd_same] at z; cases z
  · rw [upd_ne e] at z; exact k.al m hm z, fun P hP => by
    obtain ⟨ps, e, t⟩ := k.wf P hP
    exact ⟨ps, by rw [upd_ne (fun z => hG (by rw [← z]; exact hP))]; exact e, t⟩⟩

section
variable {F : Fm} {g : Gp} {Γ Γ' Γ1 Γ2 : Ctx} {G M own : List Addr} {H H' : Hp} {σ : L2.St} {α β γ : Type} {R : Rp α} {S : Rp β} {a : α} {b : β} {te : TE} {tt : TT} {ta : TA} {gt : TG} {D : Ends} {K : PySem.W.Frag}
/-- read an owned list -/
theorem e_ixO {i : Nat} {c : Addr → Prop} {xs : List α} {n : Int} (hx : Γ1[i]? = some (.own (oLstP c R xs))) (h : E G Γ1 te Γ1 rInt n) (ha : atI xs n = some a) : E G Γ1 (tOp (rIxL K) (tVar i) te) Γ1 R a := fun M own σ H k e Q q => by
  obtain ⟨v, p1, pi, p2, f⟩ := e.env.focus hx
  obtain ⟨p, vs, _, rfl, rfl, hp, r⟩ := f.own
  refine ⟨.ref p, f.at_, h M own σ H k e _ fun w H1 x1 k1 e1 r1 => ?_⟩
  obtain ⟨v', p1', pi', p2', f'⟩ := e1.env.focus hx
  obtain ⟨p', vs', _, rfl, rfl, hp', r'⟩ := f'.own
  have ep : V.ref p = V.ref p' := by
    have := f.at_.symm.trans f'.at_
    injection this with this
    injection this with this
  injection ep with ep
  subst ep
  have r1 : w = V.int n := r1
  subst r1
  obtain ⟨x, h1, h2⟩ : ∃ x, atI vs' n = some x ∧ R.rep (hid M H1) x a := by
    unfold atI at ha ⊢
    rw [r'.length]
    cases hs : ixN xs.length n with
    | none => rw [hs] at ha; cases ha
    | some j =>
      rw [hs] at ha
      obtain ⟨x, h1, h2⟩ := r'.get (i := j) (b := a) ha
      exact ⟨x, h1, h2⟩
  exact ⟨p, vs', n, x, rfl, rfl, SqL.of hp', h1, q x H1 x1 k1 e1 h2⟩
/-- an owned slot given away: from now on a value -/
theorem KT.out {i : Nat} {O : Ow} {s : Sl} {P : L2.St → Hp → Prop} (hO : F.own0 = []) (hx : Γ[i]? = some (.own O)) (hc : ∀ h H ps v, O.own h H ps v → (∀ p ∈ ps, h p = H p) → match s with | .no => True | .val R a => R.rep h v a | .own _ => False) (k : KT F g (Γ.set i s) P) : KT F g Γ P := fun M own σ H st e gg => by
  obtain ⟨v, p1, pi, p2, f⟩ := e.env.focus hx
  -- pi is hidden no more
  have hpi : ∀ p ∈ pi, p ∈ own := fun p hp => by rw [f.seg]; simp [hp]
  have nd := e.nd
  rw [f.seg] at nd
  have nd' : (p1 ++ p2).Nodup := by
    rw [List.nodup_append] at nd ⊢
    obtain ⟨n1, n2, n3⟩ := nd
    rw [List.nodup_append] at n2
    exact ⟨n1, n2.2.1, fun a ha b hb => n3 a ha b (List.mem_append_right _ hb)⟩
  have dj : ∀ p ∈ p1 ++ p2, p ∉ pi := fun p hp hq => by
    rw [List.nodup_append] at nd
    obtain ⟨n1, n2, n3⟩ := nd
    rcases List.mem_append.mp hp with z | z
    · exact n3 p z p (List.mem_append_left _ hq) rfl
    · rw [List.nodup_append] at n2
      exact n2.2.2 p hq p z rfl
  have hmc : ∀ p ∈ pi, p ∉ F.Mc := fun p hp hm => (st.own p (hpi p hp)).elim (fun z => by rw [hO] at z; cases z) fun z => F.al p hm z
  · have s2 : Sub (hid M H) (hid (M.filter fun p => decide (p ∉ pi)) H) := hid_less fun b hb => (List.mem_filter.mp hb).1
    refine k (M.filter fun p => decide (p ∉ pi)) (p1 ++ p2) σ H ⟨⟨fun P hP => ?_, fun m hm => st.ok.al m (List.mem_filter.mp hm).1, st.ok.wf⟩, st.ex, fun m hm => ?_, fun p hp => st.own p (by rw [f.seg]; rcases List.mem_append.mp hp with z | z <;> simp [z])⟩ ⟨nd', fun p hp => ?_, fun p hp => e.out p (by rw [f.seg]; rcases List.mem_append.mp hp with z | z <;> simp [z]), ?_⟩ (g.mono s2 gg)
    · exact List.mem_filter.mpr ⟨st.ok.sub P hP, decide_eq_true fun z => e.out P (hpi P z) hP⟩
    · exact List.mem_filter.mpr ⟨st.mc m hm, decide_eq_true fun z => hmc m z hm⟩
    · exact List.mem_filter.mpr ⟨e.sub p (by rw [f.seg]; rcases List.mem_append.mp hp with z | z <;> simp [z]), decide_eq_true (dj p hp)⟩
    · refine f.out _ H s s2 (fun _ _ => rfl) ?_
      refine hc _ H pi v (O.mono s2 (fun _ _ => rfl) f.own) fun p hp => ?_
      unfold hid
      rw [if_neg fun z => (of_decide_eq_true (List.mem_filter.mp z).2) hp]
end
end TP

set_option Elab.async false
set_option linter.all false
set_option maxRecDepth 100000
set_option maxHeartbeats 4000000
namespace TP
open PySem PySem.Spec PyProof.Rows L2
section
variable {F : Fm} {g : Gp} {Γ Γ' Γ1 Γ2 : Ctx} {G M own : List Addr} {H H' : Hp} {σ : L2.St} {α β γ : Type} {R : Rp α} {S : Rp β} {a : α} {b : β} {te : TE} {tt : TT} {ta : TA} {gt : TG} {D : Ends} {K : PySem.W.Frag}
theorem all2_dys {h : Hp} : ∀ {vs : List V} {xs : List α}, All2 (fun v (d : Dy) => d.R.rep h v d.a) vs (xs.map fun x => ⟨R, x⟩) → All2 (R.rep h) vs xs
  | _, [], .nil => .nil
  | _, _ :: _, .cons a r => .cons a (all2_dys r)
/-- name = [..], from now on one's own -/
theorem s_newL {i : Nat} {xs : List α} (h : EA F.G Γ ta Γ1 (xs.map fun x => ⟨R, x⟩)) (hp : PlainAt Γ1 i) (hi : i < Γ1.length) (hl : xs.length ≤ 100000) (k : KT F g (Γ1.set i (.own (oLst R xs))) D.nx) : KT F g Γ (tAsg (tLst ta) (gName i) D) := fun M own σ H s e gg => h M own σ H s.ok e _ fun vs H1 x1 k1 e1 r1 => by
  have s1 := s.step x1 k1
  have r1 := all2_dys r1
  refine ⟨by rw [r1.length]; exact small_len hl, fun p hn => ?_⟩
  have hM := k1.fresh hn
  have e2 : Env F.G (p :: M) (upd H1 p (.lst vs)) own σ Γ1 := e1.grow k1 hn
  have sg : Sub (hid M H1) (hid (p :: M) (upd H1 p (.lst vs))) := hid_grow hn
  obtain ⟨p1, p2, eo, env⟩ := EnvR.newOwn (O := oLst R xs) (v := .ref p) (pi := [p]) ⟨p, vs, trivial, rfl, rfl, upd_same, r1.imp fun _ _ => R.mono sg⟩ e2.env hp hi
  have nd := e2.nd
  have hpo : p ∉ own := fun z => hM (e1.sub p z)
  refine k (p :: M) (p1 ++ ([p] ++ p2)) _ _ ⟨k1.grow hn, fun c o hc ec => ?_, fun m hm => List.mem_cons_of_mem _ (s1.mc m hm), fun q hq => ?_⟩ ⟨?_, fun q hq => ?_, fun q hq => ?_, env⟩ (g.mono sg (gp_step s e x1 gg))
  · have := s1.ex c o hc ec
    rw [upd_ne (ne_of_none this hn)]; exact this
  · rcases List.mem_append.mp hq with z | z
    · exact s1.own q (by rw [eo]; simp [z])
    · rcases List.mem_append.mp z with z | z
      · rw [List.mem_singleton.mp z]
        by_cases hz : F.H0 p = none
        · exact .inr hz
        · cases e0 : F.H0 p with
          | none => exact absurd e0 hz
          | some o =>
            by_cases hG : p ∈ F.G ++ F.own0
            · rcases List.mem_append.mp hG with z | z
              · exact (hM (k1.sub p z)).elim
              · exact .inl z
            · have := s1.ex p o hG e0
              rw [hn] at this; cases this
      · exact s1.own q (by rw [eo]; simp [z])
  · rw [eo] at nd hpo
    have hp1 : p ∉ p1 := fun z => hpo (by simp [z])
    have hp2 : p ∉ p2 := fun z => hpo (by simp [z])
    rw [List.nodup_append] at nd ⊢
    refine ⟨nd.1, List.nodup_cons.mpr ⟨hp2, nd.2.1⟩, fun x hx y hy => ?_⟩
    rcases List.mem_cons.mp hy with z | z
    · rw [z]; exact fun w => hp1 (by rw [← w]; exact hx)
    · exact nd.2.2 x hx y z
  · rcases List.mem_append.mp hq with z | z
    · exact e2.sub q (by rw [eo]; simp [z])
    · rcases List.mem_append.mp z with z | z
      · rw [List.mem_singleton.mp z]; exact List.mem_cons_self
      · exact e2.sub q (by rw [eo]; simp [z])
  · rcases List.mem_append.mp hq with z | z
    · exact e2.out q (by rw [eo]; simp [z])
    · rcases List.mem_append.mp z with z | z
      · rw [List.mem_singleton.mp z]; exact fun w => hM (k1.sub p w)
      · exact e2.out q (by rw [eo]; simp [z])
/-- the same value in both looks -/
theorem Foc.same {h h' : Hp} {Γ Γ' : Ctx} {ps ps' : List Addr} {i : Nat} {O O' : Ow} {v v' : V} {p1 pi p2 p1' pi' p2' : List Addr} (f : Foc h H σ Γ ps i O v p1 pi p2) (f' : Foc h' H' σ Γ' ps' i O' v' p1' pi' p2') : v = v' := by
  have := f.at_.symm.trans f'.at_
  injection this with this
  injection this with this
theorem Foc.apart {h : Hp} {ps : List Addr} {i : Nat} {O : Ow} {v : V} {p1 pi p2 : List Addr} (f : Foc h H σ Γ ps i O v p1 pi p2) (nd : ps.Nodup) : ∀ p ∈ p1 ++ p2, p ∉ pi := by
  rw [f.seg] at nd
  intro p hp hq
  rw [List.nodup_append] at nd
  obtain ⟨n1, n2, n3⟩ := nd
  rcases List.mem_append.mp hp with z | z
  · exact n3 p z p (List.mem_append_left _ hq) rfl
  · rw [List.nodup_append] at n2
    exact n2.2.2 p hq p z rfl
theorem Foc.inn {h : Hp} {ps : List Addr} {i : Nat} {O : Ow} {v : V} {p1 pi p2 : List Addr} (f : Foc h H σ Γ ps i O v p1 pi p2) : (∀ p ∈ pi, p ∈ ps) ∧ (∀ p ∈ p1 ++ p2, p ∈ ps) := by
  rw [f.seg]
  refine ⟨fun p hp => by simp [hp], fun p hp => ?_⟩
  rcases List.mem_append.mp hp with z | z <;> simp [z]
theorem Foc.pi_nodup {h : Hp} {ps : List Addr} {i : Nat} {O : Ow} {v : V} {p1 pi p2 : List Addr} (f : Foc h H σ Γ ps i O v p1 pi p2) (nd : ps.Nodup) : pi.Nodup := by
  rw [f.seg, List.nodup_append, List.nodup_append] at nd
  exact nd.2.1.1
/-- an owned object is written in place -/
theorem Env.write {i : Nat} {O O' : Ow} {v : V} {p1 pi p2 : List Addr} {p : Addr} {o : HO} (k : Ok G M H) (e : Env G M H own σ Γ) (f : Foc (hid M H) H σ Γ own i O v p1 pi p2) (hp : p ∈ pi) (ho : O'.own (hid M H) (upd H p o) pi v) :
    Ex (G ++ own) H (upd H p o) ∧ Ok G M (upd H p o) ∧ Env G M (upd H p o) own σ (Γ.set i (.own O')) := by
  have hpo := f.inn.1 p hp
  have hM := e.sub p hpo
  refine ⟨Ex.at Ex.refl (List.mem_append_right _ hpo), k.upd (e.out p hpo), e.nd, e.sub, e.out, ?_⟩
  rw [hid_upd hM]
  exact f.put _ _ O' (Sub.refl _) (fun q hq => upd_ne fun z => f.apart e.nd q hq (by rw [z]; exact hp)) ho
/-- own.append(e) -/
theorem s_append {i : Nat} {c : Addr → Prop} {xs : List α} (hx0 : Γ[i]? = some (.own (oLstP c R xs))) (hx : Γ1[i]? = some (.own (oLstP c R xs))) (h : E F.G Γ te Γ1 R a) (hl : xs.length < 100000) (k : KT F g (Γ1.set i (.own (oLstP c R (xs ++ [a])))) D.nx) :
    KT F g Γ (tDrop (tBM K "list" rAppend (tVar i) (tCons te tNil)) D) := fun M own σ H s e gg => by
  obtain ⟨v, p1, pi, p2, f⟩ := e.env.focus hx0
  obtain ⟨p, vs, hc, rfl, rfl, hp, r⟩ := f.own
  refine ⟨.ref p, f.at_, .inl ⟨rfl, vs, SqL.of hp⟩, h M own σ H s.ok e _ fun w H1 x1 k1 e1 r1 => ?_⟩
  obtain ⟨v', p1', pi', p2', f'⟩ := e1.env.focus hx
  have es := f.same f'
  obtain ⟨p', vs', hc', rfl, rfl, hp', r'⟩ := f'.own
  injection es with es
  subst es
  have hn : vs'.length < sizeLine := Nat.lt_of_lt_of_le (by rw [r'.length]; exact hl) (by decide)
  refine ⟨p, vs', w, rfl, rfl, hp', hn, ?_⟩
  obtain ⟨x2, k2, e2⟩ := e1.write (O' := oLstP c R (xs ++ [a])) k1 f' (List.mem_singleton.mpr rfl) ⟨p, vs' ++ [w], hc', rfl, rfl, upd_same, r'.append (.cons r1 .nil)⟩
  exact k M own σ _ ((s.step x1 k1).step x2 k2) e2 (by rw [hid_upd (e1.sub p (f'.inn.1 p (List.mem_singleton.mpr rfl)))]; exact gp_step s e x1 gg)
/-- len of one's own -/
theorem e_lenO {i : Nat} {c : Addr → Prop} {xs : List α} (hx : Γ[i]? = some (.own (oLstP c R xs))) : E G Γ (tCB (fun xs H Q => ∃ p ys, xs = [.ref p] ∧ (SqL K H p ys ∨ SqT K H p ys) ∧ Q (.int ys.length) H) (tCons (tVar i) tNil)) Γ rInt (xs.length : Int) := fun M own σ H k e Q q => by
  obtain ⟨v, p1, pi, p2, f⟩ := e.env.focus hx
  obtain ⟨p, vs, hc, rfl, rfl, hp, r⟩ := f.own
  exact ⟨.ref p, f.at_, p, vs, rfl, .inl (SqL.of hp), q _ H Ex.refl k e (by show V.int _ = V.int _; rw [r.length])⟩
/-- own[k] = e -/
theorem s_setI {i : Nat} {n : Nat} {c : Addr → Prop} {xs : List α} {tset : TSet} (hx0 : Γ[i]? = some (.own (oLstP c R xs))) (hx : Γ1[i]? = some (.own (oLstP c R xs))) (h : E F.G Γ te Γ1 R a) (hn : n < xs.length)
    (hset : ∀ (H : Hp) (p : Addr) (vs : List V) (w : V) (N : Hp → Prop), H p = some (.lst vs) → vs.length = xs.length → N (upd H p (.lst (vs.set n w))) → tset (.ref p) (.int n) w H N)
    (k : KT F g (Γ1.set i (.own (oLstP c R (xs.set n a)))) D.nx) :
    KT F g Γ (tAsg te (gSub (tVar i) (tC (.int n)) tset) D) := fun M own σ H s e gg => h M own σ H s.ok e _ fun w H1 x1 k1 e1 r1 => by
  obtain ⟨v', p1', pi', p2', f'⟩ := e1.env.focus hx
  obtain ⟨p, vs', hc', rfl, rfl, hp', r'⟩ := f'.own
  refine ⟨.ref p, f'.at_, ?_⟩
  refine hset H1 p vs' w _ hp' r'.length ?_
  have hw : All2 (R.rep (hid M H1)) (vs'.set n w) (xs.set n a) := by
    have key : ∀ {us : List V} {ys : List α} {j : Nat}, All2 (R.rep (hid M H1)) us ys → All2 (R.rep (hid M H1)) (us.set j w) (ys.set j a) := by
      intro us ys j hh
      induction hh generalizing j with
      | nil => exact .nil
      | cons x r ih => cases j with
        | zero => exact .cons r1 r
        | succ j => exact .cons x ih
    exact key r'
  obtain ⟨x2, k2, e2⟩ := e1.write (O' := oLstP c R (xs.set n a)) k1 f' (List.mem_singleton.mpr rfl) ⟨p, vs'.set n w, hc', rfl, rfl, upd_same, hw⟩
  exact k M own σ _ ((s.step x1 k1).step x2 k2) e2 (by rw [hid_upd (e1.sub p (f'.inn.1 p (List.mem_singleton.mpr rfl)))]; exact gp_step s e x1 gg)
end
end TP

set_option Elab.async false
set_option linter.all false
set_option maxRecDepth 100000
set_option maxHeartbeats 4000000
namespace TP
open PySem PySem.Spec PyProof.Rows L2
section
variable {F : Fm} {g : Gp} {Γ Γ' Γ1 Γ2 : Ctx} {G M own : List Addr} {H H' : Hp} {σ : L2.St} {α β γ : Type} {R : Rp α} {S : Rp β} {a : α} {b : β} {te : TE} {tt : TT} {ta : TA} {gt : TG} {D : Ends} {K : PySem.W.Frag} {W : XK}
/-- own[k] = e, the list's own store -/
theorem s_setL {i : Nat} {n : Nat} {c : Addr → Prop} {xs : List α} (hx : Γ1[i]? = some (.own (oLstP c R xs))) (h : E F.G Γ te Γ1 R a) (hn : n < xs.length) (k : KT F g (Γ1.set i (.own (oLstP c R (xs.set n a)))) D.nx) :
    KT F g Γ (tAsg te (gSub (tVar i) (tC (.int n)) rSetL) D) := fun M own σ H s e gg => h M own σ H s.ok e _ fun w H1 x1 k1 e1 r1 => by
  obtain ⟨v', p1', pi', p2', f'⟩ := e1.env.focus hx
  obtain ⟨p, vs', hc', rfl, rfl, hp', r'⟩ := f'.own
  refine ⟨.ref p, f'.at_, p, vs', n, n, rfl, rfl, hp', ?_, ?_⟩
  · have := r'.length
    unfold ixN
    rw [if_pos (by omega : (0 : Int) ≤ n)]
    rw [if_pos (by omega)]
    simp
  · have hw : All2 (R.rep (hid M H1)) (vs'.set n w) (xs.set n a) := by
      have key : ∀ {us : List V} {ys : List α} {j : Nat}, All2 (R.rep (hid M H1)) us ys → All2 (R.rep (hid M H1)) (us.set j w) (ys.set j a) := by
        intro us ys j hh
        induction hh generalizing j with
        | nil => exact .nil
        | cons x r ih => cases j with
          | zero => exact .cons r1 r
          | succ j => exact .cons x ih
      exact key r'
    obtain ⟨x2, k2, e2⟩ := e1.write (O' := oLstP c R (xs.set n a)) k1 f' (List.mem_singleton.mpr rfl) ⟨p, vs'.set n w, hc', rfl, rfl, upd_same, hw⟩
    exact k M own σ _ ((s.step x1 k1).step x2 k2) e2 (by rw [hid_upd (e1.sub p (f'.inn.1 p (List.mem_singleton.mpr rfl)))]; exact gp_step s e x1 gg)

/-! ### an object that is being made -/
/-- the object at p, its attributes so far -/
def oInsP (p C : Addr) (fs : List (Str × Dy)) : Ow := ⟨fun h H ps v => v = .ref p ∧ ps = [p] ∧ ∃ dx vs, H p = some (.ins C dx vs) ∧ All2 (fun (q : Str × V) (x : Str × Dy) => q.1 = x.1 ∧ x.2.R.rep h q.2 x.2.a) vs fs, fun k e ⟨e1, e2, dx, vs, e3, r⟩ =>
  ⟨e1, e2, dx, vs, by rw [e p (by rw [e2]; exact List.mem_singleton.mpr rfl)]; exact e3, r.imp fun _ x z => ⟨z.1, x.2.R.mono k z.2⟩⟩⟩
theorem putF_new {f : Str} {v : V} : ∀ {fs : List (Str × V)}, f ∉ fs.map (·.1) → putF f v fs = fs ++ [(f, v)]
  | [], _ => rfl
  | (g, x) :: r, h => by
    have hg : ¬ g = f := fun z => h (by simp [z])
    show (if g = f then (g, v) :: r else (g, x) :: putF f v r) = _
    rw [if_neg hg, putF_new (fs := r) fun z => h (by simp at z ⊢; exact .inr z)]
    rfl
theorem keys_all2 {h : Hp} : ∀ {vs : List (Str × V)} {fs : List (Str × Dy)}, All2 (fun (q : Str × V) (x : Str × Dy) => q.1 = x.1 ∧ x.2.R.rep h q.2 x.2.a) vs fs → vs.map (·.1) = fs.map (·.1)
  | _, _, .nil => rfl
  | _, _, .cons a r => by rw [List.map_cons, List.map_cons, a.1, keys_all2 r]
/-- self.f = e -/
theorem s_fld {i : Nat} {p C : Addr} {fs : List (Str × Dy)} {f : Str} (hc : Cls K C) (hn : NoAttr K C f) (hx : Γ1[i]? = some (.own (oInsP p C fs))) (h : E F.G Γ te Γ1 R a) (hf : f ∉ fs.map (·.1)) (hl : fs.length < 1000)
    (k : KT F g (Γ1.set i (.own (oInsP p C (fs ++ [(f, ⟨R, a⟩)])))) D.nx) : KT F g Γ (sFld K (tVar i) te f D) := fun M own σ H s e gg => h M own σ H s.ok e _ fun w H1 x1 k1 e1 r1 => by
  obtain ⟨v', p1', pi', p2', f'⟩ := e1.env.focus hx
  obtain ⟨rfl, rfl, dx, vs, hp, r⟩ := f'.own
  have hk := keys_all2 r
  refine ⟨.ref p, f'.at_, p, C, dx, vs, rfl, hp, hc, hn, by rw [r.length]; exact hl, ?_⟩
  rw [putF_new (by rw [hk]; exact hf)]
  obtain ⟨x2, k2, e2⟩ := e1.write (O' := oInsP p C (fs ++ [(f, ⟨R, a⟩)])) k1 f' (List.mem_singleton.mpr rfl) ⟨rfl, rfl, dx, vs ++ [(f, w)], upd_same, r.append (.cons ⟨rfl, r1⟩ .nil)⟩
  exact k M own σ _ ((s.step x1 k1).step x2 k2) e2 (by rw [hid_upd (e1.sub p (f'.inn.1 p (List.mem_singleton.mpr rfl)))]; exact gp_step s e x1 gg)
/-- an __init__'s answer -/
def RetI (F : Fm) (S : Rp γ) (p : Addr) (r : γ) (rt : VK) : Prop := ∀ H', Ex F.G F.H0 H' → Ok F.G F.Mc H' → S.rep (hid F.Mc H') (.ref p) r → rt .non H'
theorem s_initEnd {i : Nat} {p C : Addr} {fs : List (Str × Dy)} {T : Rp γ} {r : γ} {rt : VK} (hO : F.own0 = []) (hx : Γ[i]? = some (.own (oInsP p C fs)))
    (conv : ∀ h dx vs, h p = some (.ins C dx vs) → All2 (fun (q : Str × V) (x : Str × Dy) => q.1 = x.1 ∧ x.2.R.rep h q.2 x.2.a) vs fs → T.rep h (.ref p) r) (ret : RetI F T p r rt) : KT F g Γ (fun _ H' => rt .non H') := by
  refine KT.out (s := .val ⟨fun H v a => v = .ref p ∧ T.rep H v a, fun k h => ⟨h.1, T.mono k h.2⟩⟩ r) hO hx (fun h H ps v o hh => ?_) fun M own σ H s e gg => ?_
  · obtain ⟨rfl, rfl, dx, vs, hp, a⟩ := o
    exact ⟨rfl, conv h dx vs (by rw [hh p (List.mem_singleton.mpr rfl)]; exact hp) a⟩
  · have hi : i < Γ.length := (List.getElem?_eq_some_iff.mp hx).1
    obtain ⟨v, h1, h2, h3⟩ := e.env.get (i := i) (by rw [List.getElem?_set_self hi])
    have h2 : v = .ref p := h2
    subst h2
    exact ret H (by have := s.ex; rw [hO, List.append_nil] at this; exact this) s.back (T.mono (hid_less s.mc) h3)
theorem spI_in {ι : Type} {C : Addr} {pre : ι → Prop} {ds : ι → List Dy} {S : Rp γ} {f : ι → Except Addr γ} {N : List Str} {vs : List V} {Q : VK} {E : XK} {n : Nat} {t : TS} (h : spI G C pre ds S f vs H Q E) (hn : N.length - vs.length = n)
    (body : ∀ (F : Fm) (x : ι) (p : Addr), F.G = G → F.own0 = [] → pre x → (∀ r, f x = .ok r → RetI F S p r Q) → (∀ c, f x = .error c → Rai F c E) → KT F gT (.own (oInsP p C []) :: ctx0 (ds x) n) (t { nx := fun _ H' => Q .non H', rt := Q })) :
    t { nx := fun _ H' => Q .non H', rt := Q } (start N vs) H := by
  obtain ⟨M, x, p, dx, rest, rfl, hp, hpM, k, hpre, ha, hok, her⟩ := h
  rw [start_eq hn]
  have hpG : p ∉ G := fun z => by
    obtain ⟨ps, e, _⟩ := k.wf p z
    rw [hp] at e; cases e
  have al : ∀ m ∈ M, (fun b => if b = p then none else H b) m ≠ none := fun m hm => by
    show (if m = p then none else H m) ≠ none
    rw [if_neg fun z => hpM (by rw [← z]; exact hm)]
    exact k.al m hm
  have back : ∀ {H' : Hp}, Ex G (fun b => if b = p then none else H b) H' → Ex (G ++ [p]) H H' := fun x b o hb e => x b o (fun z => hb (List.mem_append_left _ z)) (by
    show (if b = p then none else H b) = some o
    rw [if_neg fun z => hb (by rw [z]; simp)]; exact e)
  refine body ⟨G, [], M, fun b => if b = p then none else H b, k.sub, al⟩ x p rfl rfl hpre (fun r hr H' x' k' rv => hok r hr H' (back x') k' rv) (fun c hc H' x' k' => her c hc H' (back (by simpa using x')) k')
    (p :: M) [p] _ H ⟨⟨fun P hP => List.mem_cons_of_mem _ (k.sub P hP), fun m hm => ?_, k.wf⟩, fun b o hb e => ?_, fun m hm => List.mem_cons_of_mem _ hm, fun q hq => .inr ?_⟩ ⟨by simp, fun q hq => ?_, fun q hq => ?_, ?_⟩ trivial
  · rcases List.mem_cons.mp hm with z | z
    · rw [z, hp]; simp
    · exact k.al m z
  · have e : (if b = p then none else H b) = some o := e
    by_cases hb : b = p
    · rw [if_pos hb] at e; cases e
    · rw [if_neg hb] at e; exact e
  · show (if q = p then none else H q) = none
    rw [if_pos (List.mem_singleton.mp hq)]
  · rw [List.mem_singleton.mp hq]; exact List.mem_cons_self
  · rw [List.mem_singleton.mp hq]; exact hpG
  · exact ⟨.ref p, [p], [], rfl, rfl, ⟨rfl, rfl, dx, [], hp, .nil⟩, env_args ha⟩
theorem spI_len {ι : Type} {C : Addr} {pre : ι → Prop} {ds : ι → List Dy} {S : Rp γ} {f : ι → Except Addr γ} {n : Nat} (hd : ∀ x, (ds x).length = n) : ∀ vs H Q E, spI G C pre ds S f vs H Q E → vs.length = n + 1 := fun vs H Q E ⟨M, x, p, dx, rest, e, _, _, _, _, ha, _⟩ => by
  rw [e, List.length_cons, ha.length, hd]

/-! ### a promise about something of the caller's -/
/-- a def that changes what its first argument owns -/
def spO (G : List Addr) {ι γ : Type} (pre : ι → Prop) (O O' : ι → Ow) (ds : ι → List Dy) (S : Rp γ) (f : ι → Except Addr γ) : Sp := fun vs H Q E => ∃ M x v rest ps, vs = v :: rest ∧ Ok G M H ∧ ps.Nodup ∧ (∀ p ∈ ps, p ∈ M) ∧ (∀ p ∈ ps, p ∉ G) ∧ (O x).own (hid M H) H ps v ∧ pre x ∧ All2 (fun v (d : Dy) => d.R.rep (hid M H) v d.a) rest (ds x) ∧
  (∀ r, f x = .ok r → ∀ w H', Ex (G ++ ps) H H' → Ok G M H' → (O' x).own (hid M H') H' ps v → S.rep (hid M H') w r → Q w H') ∧ ∀ c, f x = .error c → ∀ H', Ex (G ++ ps) H H' → Ok G M H' → (O' x).own (hid M H') H' ps v → E (.ref c) none H'
theorem Env.after {O O' : Ow} {i : Nat} {v : V} {p1 pi p2 : List Addr} (k : Ok G M H) (e : Env G M H own σ Γ) (f : Foc (hid M H) H σ Γ own i O v p1 pi p2) (x : Ex (G ++ pi) H H') (o : O'.own (hid M H') H' pi v) : Ex (G ++ own) H H' ∧ Env G M H' own σ (Γ.set i (.own O')) := by
  refine ⟨x.more fun b hb => (List.mem_append.mp hb).elim (List.mem_append_left _) fun z => List.mem_append_right _ (f.inn.1 b z), e.nd, e.sub, e.out, ?_⟩
  refine f.put _ _ O' (x.hid fun b hb => (List.mem_append.mp hb).elim (k.sub b) fun z => e.sub b (f.inn.1 b z)) (fun q hq => ?_) o
  have hq' := f.inn.2 q hq
  obtain ⟨u, hu⟩ := e.al k hq'
  rw [hu]
  exact x q u (fun z => (List.mem_append.mp z).elim (e.out q hq') (f.apart e.nd q hq)) hu
theorem e_callO {ι : Type} {i : Nat} {pre : ι → Prop} {O O' : ι → Ow} {ds : ι → List Dy} {S : Rp γ} {f : ι → Except Addr γ} {x : ι} {r : γ} (h : EA G Γ ta Γ1 (ds x)) (hx0 : Γ[i]? = some (.own (O x))) (hx : Γ1[i]? = some (.own (O x))) (hp : pre x) (hf : f x = .ok r) :
    E G Γ (tCall (spO G pre O O' ds S f) [] W (tCons (tVar i) ta)) (Γ1.set i (.own (O' x))) S r := fun M own σ H k e Q q => by
  obtain ⟨v, p1, pi, p2, fo⟩ := e.env.focus hx0
  refine ⟨v, fo.at_, h M own σ H k e _ fun vs H1 x1 k1 e1 r1 => ?_⟩
  obtain ⟨v', p1', pi', p2', f'⟩ := e1.env.focus hx
  have es := fo.same f'
  subst es
  show spO G pre O O' ds S f (v :: (vs ++ [])) H1 Q W
  rw [List.append_nil]
  refine ⟨M, x, v, vs, pi', rfl, k1, f'.pi_nodup e1.nd, fun p hp => e1.sub p (f'.inn.1 p hp), fun p hp => e1.out p (f'.inn.1 p hp), f'.own, hp, r1, fun r' hr w H2 x2 k2 o2 rw' => ?_, fun c' hc => by rw [hf] at hc; cases hc⟩
  rw [hf] at hr
  cases hr
  obtain ⟨x3, e3⟩ := e1.after (O' := O' x) k1 f' x2 o2
  exact q w H2 (x1.trans x3) k2 e3 rw'
/-- entry of such a def -/
structure RetO (F : Fm) (O' : Ow) (S : Rp γ) (v : V) (ps : List Addr) (r : γ) (rt : VK) : Prop where
  ret : ∀ w H', Ex (F.G ++ F.own0) F.H0 H' → Ok F.G F.Mc H' → O'.own (hid F.Mc H') H' ps v → S.rep (hid F.Mc H') w r → rt w H'
theorem s_retO {i : Nat} {O O' : Ow} {T : Rp γ} {r : γ} {v : V} {ps : List Addr} {rt : VK} (h : E F.G Γ te Γ1 T r) (hx : Γ1[i]? = some (.own O)) (hc : ∀ h H qs u, O.own h H qs u → u = v ∧ qs = ps ∧ O'.own h H ps v) (hr : D.rt = rt) (ret : RetO F O' T v ps r rt) : KT F g Γ (tRet te D) := fun M own σ H s e gg => h M own σ H s.ok e _ fun w H1 x1 k1 e1 r1 => by
  obtain ⟨u, p1, pi, p2, f⟩ := e1.env.focus hx
  obtain ⟨rfl, rfl, o⟩ := hc _ _ _ _ f.own
  have s1 := s.step x1 k1
  rw [hr]
  exact ret.ret w H1 s1.ex s1.back (O'.mono (hid_less s1.mc) (fun _ _ => rfl) o) (T.mono (hid_less s1.mc) r1)
theorem spO_in {ι : Type} {pre : ι → Prop} {O O' : ι → Ow} {ds : ι → List Dy} {S : Rp γ} {f : ι → Except Addr γ} {N : List Str} {vs : List V} {Q : VK} {E : XK} {n : Nat} {t : TS} {Oi : ι → V → List Addr → Ow} (h : spO G pre O O' ds S f vs H Q E) (hn : N.length - vs.length = n)
    (hc : ∀ x h H ps v, (O x).own h H ps v → (Oi x v ps).own h H ps v)
    (body : ∀ (F : Fm) (x : ι) (v : V) (ps : List Addr), F.G = G → F.own0 = ps → pre x → (∀ r, f x = .ok r → RetO F (O' x) S v ps r Q) → KT F gT (.own (Oi x v ps) :: ctx0 (ds x) n) (t { nx := fun _ H' => Q .non H', rt := Q })) :
    t { nx := fun _ H' => Q .non H', rt := Q } (start N vs) H := by
  obtain ⟨M, x, v, rest, ps, rfl, k, hnd, hsub, hout, ho, hpre, ha, hok, her⟩ := h
  rw [start_eq hn]
  refine body ⟨G, ps, M, H, k.sub, k.al⟩ x v ps rfl rfl hpre (fun r hr => ⟨fun w H' x' k' o' rv => hok r hr w H' x' k' o' rv⟩) M ps _ H ⟨k, Ex.refl, fun m hm => hm, fun p hp => .inl hp⟩ ⟨hnd, hsub, hout, v, ps, [], rfl, by simp, hc _ _ _ _ _ ho, env_args ha⟩ trivial
theorem spO_len {ι : Type} {pre : ι → Prop} {O O' : ι → Ow} {ds : ι → List Dy} {S : Rp γ} {f : ι → Except Addr γ} {n : Nat} (hd : ∀ x, (ds x).length = n) : ∀ vs H Q E, spO G pre O O' ds S f vs H Q E → vs.length = n + 1 := fun vs H Q E ⟨M, x, v, rest, ps, e, _, _, _, _, _, _, ha, _⟩ => by
  rw [e, List.length_cons, ha.length, hd]
end
end TP

set_option Elab.async false
set_option linter.all false
set_option maxRecDepth 100000
set_option maxHeartbeats 4000000
namespace TP
open PySem PySem.Spec PyProof.Rows L2
/-- raise C('..') -/
theorem ps_own {X : Cx} {W : WX} {C : Addr} {x m : Str} {j : Nat} {p p2 pos pos' : Pos} (h : PySem.W.excIn X.K C He.veBase "ValueError.__new__" = true ∧ PySem.W.keepIn X.K (.ref C) = true ∧ PySem.W.subIn X.K (.ref C) (.type "BaseException") = some true ∧ PySem.W.typeIn X.K (.ref C) = some (.type "type"))
    (g : X.mg x = some (.ref C)) (tk : Takes X W) (hg : Gl X x) (hc : X.calm = true := by rfl) (hdb : (x == ("__debug__" : Str)) = false := by decide) :
    PS X (.Raise (some (.Call (.Name x p) [.Constant (.str m) j p2] [] pos)) none pos') (fun _ σ H => W (.ref C) none σ H) :=
  ps_raise hc tk (pmk_own PySem.F.excBase_ValueError h.1 g h.2.1 (raises_own h.2.2.1 h.2.2.2) hg hdb)
section
variable {F : Fm} {g : Gp} {G M own : List Addr} {H H' : Hp} {σ : L2.St} {Γ Γ' Γ1 Γ2 Γ3 : Ctx} {α β γ : Type} {R : Rp α} {S : Rp β} {a : α} {b : β} {te ta tb : TE} {D : Ends} {K : PySem.W.Frag}
/-- an attribute -/
def HasF (R : Rp α) (C : Addr) (f : Str) (S : Rp β) (g : α → β) : Prop := ∀ h v o, R.rep h v o → ∃ p dx fs w, v = .ref p ∧ h p = some (.ins C dx fs) ∧ fs.lookup f = some w ∧ S.rep h w (g o)
theorem e_fld {C : Addr} {f : Str} {g : α → β} (hc : Cls K C) (hn : NoAttr K C f) (hf : HasF R C f S g) (h : E G Γ te Γ1 R a) : E G Γ (tFld K te f) Γ1 S (g a) := fun M own σ H k e Q q => h M own σ H k e _ fun v H1 x1 k1 e1 r1 => by
  obtain ⟨p, dx, fs, w, rfl, hp, hl, hs⟩ := hf _ _ _ r1
  exact ⟨p, C, dx, fs, w, rfl, (hid_some hp).2, hc, hn, hl, q w H1 x1 k1 e1 hs⟩
/-! ### calls of what is built in -/
variable {r : List V → Hp → VK → Prop} {tr : TA}
theorem e_cb {ds : List Dy} {z : β} (h : EA G Γ tr Γ1 ds) (hc : Cl G r ds S z) : E G Γ (tCB r tr) Γ1 S z := fun M own σ H k e Q q => h M own σ H k e _ fun vs H1 x1 k1 e1 r1 => hc M H1 vs Q k1 r1 fun w H2 x2 k2 r2 => q w H2 (x1.trans (x2.more fun b hb => List.mem_append_left _ hb)) k2 (e1.ext k1 x2) r2
theorem nuMin2_int (i j : Int) : nuMin2 (.int i) (.int j) = some (.int (min i j)) := by
  show some (if decide (j < i) = true then V.int j else V.int i) = _
  by_cases c : j < i
  · rw [if_pos (decide_eq_true c)]; congr 2; omega
  · rw [if_neg (by simpa using c)]; congr 2; omega
theorem nuMax2_int (i j : Int) : nuMax2 (.int i) (.int j) = some (.int (max i j)) := by
  show some (if decide (i < j) = true then V.int j else V.int i) = _
  by_cases c : i < j
  · rw [if_pos (decide_eq_true c)]; congr 2; omega
  · rw [if_neg (by simpa using c)]; congr 2; omega
theorem e_min3 {i j k : Int} (h : EA G Γ tr Γ1 [⟨rInt, i⟩, ⟨rInt, j⟩, ⟨rInt, k⟩]) : E G Γ (tCB (rNuC3 nuMin3) tr) Γ1 rInt (min (min i j) k) := e_cb h fun M H vs Q kk r q => by
  cases r with
  | cons h1 r => cases r with
    | cons h2 r => cases r with
      | cons h3 r =>
        cases r; cases h1; cases h2; cases h3
        exact ⟨.int i, .int j, .int k, .int (min (min i j) k), rfl, by unfold nuMin3; rw [nuMin2_int]; exact nuMin2_int _ _, q _ H Ex.refl kk rfl⟩
theorem e_max3 {i j k : Int} (h : EA G Γ tr Γ1 [⟨rInt, i⟩, ⟨rInt, j⟩, ⟨rInt, k⟩]) : E G Γ (tCB (rNuC3 nuMax3) tr) Γ1 rInt (max (max i j) k) := e_cb h fun M H vs Q kk r q => by
  cases r with
  | cons h1 r => cases r with
    | cons h2 r => cases r with
      | cons h3 r =>
        cases r; cases h1; cases h2; cases h3
        exact ⟨.int i, .int j, .int k, .int (max (max i j) k), rfl, by unfold nuMax3; rw [nuMax2_int]; exact nuMax2_int _ _, q _ H Ex.refl kk rfl⟩
theorem e_intI {i : Int} (h : EA G Γ tr Γ1 [⟨rInt, i⟩]) : E G Γ (tCB (fun xs H Q => (∃ i, xs = [.int i] ∧ Q (.int i) H) ∨ ∃ k, xs = [.bl k] ∧ Q (.int (if k then 1 else 0)) H) tr) Γ1 rInt i := e_cb h fun M H vs Q kk r q => by
  cases r with
  | cons h1 r => cases r; cases h1; exact .inl ⟨i, rfl, q _ H Ex.refl kk rfl⟩
theorem e_intB {b : Bool} (h : EA G Γ tr Γ1 [⟨rBool, b⟩]) : E G Γ (tCB (fun xs H Q => (∃ i, xs = [.int i] ∧ Q (.int i) H) ∨ ∃ k, xs = [.bl k] ∧ Q (.int (if k then 1 else 0)) H) tr) Γ1 rInt (if b then 1 else 0) := e_cb h fun M H vs Q kk r q => by
  cases r with
  | cons h1 r => cases r; cases h1; exact .inr ⟨b, rfl, q _ H Ex.refl kk rfl⟩
theorem e_strI {i : Int} (h : EA G Γ tr Γ1 [⟨rInt, i⟩]) (hi : i.natAbs.log2 < 1920) : E G Γ (tCB (fun xs H Q => ∃ i, xs = [.int i] ∧ i.natAbs.log2 < 1920 ∧ Q (.str (toString i)) H) tr) Γ1 rStr (Str.ofString (toString i)) := e_cb h fun M H vs Q kk r q => by
  cases r with
  | cons h1 r => cases r; cases h1; exact ⟨i, rfl, hi, q _ H Ex.refl kk rfl⟩
theorem e_sumL {ns : List Int} (h : EA G Γ tr Γ1 [⟨rList rInt, ns⟩]) : E G Γ (tCB (L2.rSum K) tr) Γ1 rInt ns.sum := e_cb h fun M H vs Q kk r q => by
  cases r with
  | cons h1 r =>
    cases r
    obtain ⟨p, ws, e, hp, rr⟩ := h1
    have e : _ = V.ref p := e
    subst e
    exact ⟨p, ns, rfl, by rw [← all2_ints rr]; exact SqL.of (hid_some hp).2, q _ H Ex.refl kk rfl⟩
/-- tuple(a list) -/
theorem e_tupL {xs : List α} (h : EA G Γ tr Γ1 [⟨rList R, xs⟩]) : E G Γ (tCB (fun xs H Q => ∃ p ys, xs = [.ref p] ∧ ((SqL K H p ys ∧ ∀ l, H l = none → Q (.ref l) (upd H l (.tup ys))) ∨ (SqT K H p ys ∧ Q (.ref p) H))) tr) Γ1 (rTup R) xs := e_cb h fun M H vs Q kk r q => by
  cases r with
  | cons h1 r =>
    cases r
    obtain ⟨p, ws, e, hp, rr⟩ := h1
    have e : _ = V.ref p := e
    subst e
    refine ⟨p, ws, rfl, .inl ⟨SqL.of (hid_some hp).2, fun l hl => ?_⟩⟩
    have hM := kk.fresh hl
    exact q _ _ (Ex.new hl) (kk.new hl) ⟨l, ws, rfl, hid_of hM upd_same, rr.imp fun _ _ => R.mono (hid_new hM hl)⟩
/-! ### == of data -/
/-- data of a kind: what == looks at; ok: may be compared, n: how deep -/
structure Dat (R : Rp α) [DecidableEq α] where
  d : α → PyData
  ok : α → Prop
  n : Nat
  dp : ∀ (K : PySem.W.Frag) (h H : Hp) v a, R.rep h v a → Sub h H → Dp K H v (d a)
  eq : ∀ a b, PyData.eqv (d a) (d b) = decide (a = b)
  lay : ∀ a, ok a → (d a).canLay0 = true ∧ (d a).depth ≤ n
def datInt : Dat rInt := ⟨fun i => .int i, fun _ => True, 0, fun K h H v a r _ => by cases r; exact .int a, fun a b => by show (a == b) = _; rw [Bool.eq_iff_iff]; simp, fun _ _ => ⟨rfl, Nat.le_refl _⟩⟩
def datStr : Dat rStr := ⟨fun i => .str i, fun i => PyData.canLay0 (.str i) = true, 0, fun K h H v a r _ => by cases r; exact .str a, fun a b => by show (a == b) = _; rw [Bool.eq_iff_iff]; simp, fun _ h => ⟨h, Nat.le_refl _⟩⟩
def datBool : Dat rBool := ⟨fun i => .bool i, fun _ => True, 0, fun K h H v a r _ => by cases r; exact .bl a, fun a b => by show (a == b) = _; rw [Bool.eq_iff_iff]; simp, fun _ _ => ⟨rfl, Nat.le_refl _⟩⟩
theorem dpAll_of [DecidableEq α] (D : Dat R) {h H : Hp} (s : Sub h H) : ∀ {vs : List V} {xs : List α}, All2 (R.rep h) vs xs → DpAll K H vs (xs.map D.d)
  | _, _, .nil => .nil
  | _, _, .cons a r => .cons (D.dp K _ _ _ _ a s) (dpAll_of D s r)
theorem eqvAll_map [DecidableEq α] (D : Dat R) : ∀ xs ys : List α, PyData.eqvAll (xs.map D.d) (ys.map D.d) = decide (xs = ys)
  | [], [] => by simp [PyData.eqvAll]
  | [], _ :: _ => by simp [PyData.eqvAll]
  | _ :: _, [] => by simp [PyData.eqvAll]
  | x :: xs, y :: ys => by
    show (PyData.eqv (D.d x) (D.d y) && PyData.eqvAll (xs.map D.d) (ys.map D.d)) = _
    rw [D.eq, eqvAll_map D xs ys, Bool.eq_iff_iff]
    simp
theorem layAll_map [DecidableEq α] (D : Dat R) : ∀ xs : List α, (∀ x ∈ xs, D.ok x) → PyData.canLayAll0 (xs.map D.d) = true ∧ PyData.depthAll (xs.map D.d) ≤ D.n
  | [], _ => ⟨rfl, Nat.zero_le _⟩
  | x :: xs, h => by
    obtain ⟨h1, h2⟩ := D.lay x (h x List.mem_cons_self)
    obtain ⟨h3, h4⟩ := layAll_map D xs fun y hy => h y (List.mem_cons_of_mem _ hy)
    exact ⟨by show ((D.d x).canLay0 && PyData.canLayAll0 (xs.map D.d)) = true; rw [h1, h3]; rfl, Nat.max_le.mpr ⟨h2, h4⟩⟩
def datList [DecidableEq α] (D : Dat R) : Dat (rList R) := ⟨fun xs => .list (xs.map D.d), fun xs => ∀ x ∈ xs, D.ok x, D.n + 1, fun K h H v xs ⟨p, vs, e, hp, r⟩ s => by subst e; exact .lst (SqL.of (s _ _ hp)) (dpAll_of D s r), fun a b => eqvAll_map D a b, fun xs h => ⟨(layAll_map D xs h).1, Nat.succ_le_succ (layAll_map D xs h).2⟩⟩
def datTup [DecidableEq α] (D : Dat R) : Dat (rTup R) := ⟨fun xs => .tuple (xs.map D.d), fun xs => ∀ x ∈ xs, D.ok x, D.n + 1, fun K h H v xs ⟨p, vs, e, hp, r⟩ s => by subst e; exact .tup (SqT.of (s _ _ hp)) (dpAll_of D s r), fun a b => eqvAll_map D a b, fun xs h => ⟨(layAll_map D xs h).1, Nat.succ_le_succ (layAll_map D xs h).2⟩⟩
def datT2 [DecidableEq α] [DecidableEq β] (D : Dat R) (D' : Dat S) : Dat (rT2 R S) := ⟨fun x => .tuple [D.d x.1, D'.d x.2], fun x => D.ok x.1 ∧ D'.ok x.2, max D.n D'.n + 1, fun K h H v x ⟨p, a, b, e, hp, ra, rb⟩ s => by subst e; exact .tup (SqT.of (s _ _ hp)) (.cons (D.dp K _ _ _ _ ra s) (.cons (D'.dp K _ _ _ _ rb s) .nil)), fun a b => by
  show (PyData.eqv _ _ && (PyData.eqv _ _ && true)) = _
  obtain ⟨a1, a2⟩ := a
  obtain ⟨b1, b2⟩ := b
  rw [D.eq, D'.eq, Bool.eq_iff_iff]; simp, fun x h => by
  obtain ⟨h1, h2⟩ := D.lay _ h.1
  obtain ⟨h3, h4⟩ := D'.lay _ h.2
  refine ⟨by show (_ && (_ && true)) = true; rw [h1, h3]; rfl, ?_⟩
  show max _ (max _ 0) + 1 ≤ _
  omega⟩
def datT3 {T : Rp γ} [DecidableEq α] [DecidableEq β] [DecidableEq γ] (D : Dat R) (D' : Dat S) (D'' : Dat T) : Dat (rT3 R S T) := ⟨fun x => .tuple [D.d x.1, D'.d x.2.1, D''.d x.2.2], fun x => D.ok x.1 ∧ D'.ok x.2.1 ∧ D''.ok x.2.2, max D.n (max D'.n D''.n) + 1, fun K h H v x ⟨p, a, b, c, e, hp, ra, rb, rc⟩ s => by subst e; exact .tup (SqT.of (s _ _ hp)) (.cons (D.dp K _ _ _ _ ra s) (.cons (D'.dp K _ _ _ _ rb s) (.cons (D''.dp K _ _ _ _ rc s) .nil))), fun a b => by
  show (PyData.eqv _ _ && (PyData.eqv _ _ && (PyData.eqv _ _ && true))) = _
  obtain ⟨a1, a2, a3⟩ := a
  obtain ⟨b1, b2, b3⟩ := b
  rw [D.eq, D'.eq, D''.eq, Bool.eq_iff_iff]; simp, fun x h => by
  obtain ⟨h1, h2⟩ := D.lay _ h.1
  obtain ⟨h3, h4⟩ := D'.lay _ h.2.1
  obtain ⟨h5, h6⟩ := D''.lay _ h.2.2
  refine ⟨by show (_ && (_ && (_ && true))) = true; rw [h1, h3, h5]; rfl, ?_⟩
  show max _ (max _ (max _ 0)) + 1 ≤ _
  omega⟩
theorem Dat.shaped [DecidableEq α] (D : Dat R) {x : α} (h : D.ok x) (hn : D.n ≤ 64) : SeqAt.shaped (D.d x) = true := by
  obtain ⟨h1, h2⟩ := D.lay x h
  unfold SeqAt.shaped
  rw [h1, decide_eq_true (Nat.le_trans h2 hn)]; rfl
theorem e_eqD [DecidableEq α] (D : Dat R) {x y : α} (ha : E G Γ ta Γ1 R x) (hb : E G Γ1 tb Γ2 R y) (sx : D.ok x) (sy : D.ok y) (hn : D.n ≤ 64 := by decide) : E G Γ (tOp (rEqD K) ta tb) Γ2 rBool (decide (x = y)) := e_op ha hb fun M H v u Q k rv ru q =>
  ⟨D.d x, D.d y, D.dp K _ _ _ _ rv hid_sub, D.dp K _ _ _ _ ru hid_sub, D.shaped sx hn, D.shaped sy hn, q _ H Ex.refl k (by rw [D.eq] <;> rfl)⟩
theorem e_neD [DecidableEq α] (D : Dat R) {x y : α} (ha : E G Γ ta Γ1 R x) (hb : E G Γ1 tb Γ2 R y) (sx : D.ok x) (sy : D.ok y) (hn : D.n ≤ 64 := by decide) : E G Γ (tOp (rNeD K) ta tb) Γ2 rBool (!decide (x = y)) := e_op ha hb fun M H v u Q k rv ru q =>
  ⟨D.d x, D.d y, D.dp K _ _ _ _ rv hid_sub, D.dp K _ _ _ _ ru hid_sub, D.shaped sx hn, D.shaped sy hn, q _ H Ex.refl k (by rw [D.eq] <;> rfl)⟩
/-! ### None -/
theorem e_isN {x : Option α} (ha : E G Γ ta Γ1 (rOpt R) x) (hb : E G Γ1 tb Γ2 rNon ()) (hR : ∀ h v a, R.rep h v a → v ≠ .non) : E G Γ (tOp (fun x y H Q => y = .non ∧ Q (.bl (decide (x = .non))) H) ta tb) Γ2 rBool (x.isNone) := e_op ha hb fun M H v u Q k rv ru q => by
  cases ru
  refine ⟨rfl, q _ H Ex.refl k ?_⟩
  show V.bl _ = V.bl _
  cases x with
  | none =>
    have rv : v = .non := rv
    rw [rv]; rfl
  | some a =>
    have := hR _ _ _ rv
    simp [this]
end
end TP

set_option Elab.async false
set_option linter.all false
set_option maxRecDepth 100000
set_option maxHeartbeats 4000000
namespace TP
open PySem PySem.Spec PyProof.Rows L2
/-- what a def answers: r, but the class at c where bad -/
structure Ans (ι γ : Type) where
  pre : ι → Prop
  bad : ι → Bool
  c : ι → Addr
  r : ι → γ
def Ans.f {ι γ : Type} (A : Ans ι γ) (x : ι) : Except Addr γ := if A.bad x = true then .error (A.c x) else .ok (A.r x)
section
variable {F : Fm} {g : Gp} {G M own : List Addr} {H H' : Hp} {σ : L2.St} {Γ Γ' Γ1 Γ2 Γ3 : Ctx} {ι α β γ : Type} {R : Rp α} {S : Rp γ} {a : α} {b : β} {te ta tb : TE} {t tr : TA} {D : Ends} {K : PySem.W.Frag} {A : Ans ι γ} {ds : ι → List Dy} {x : ι} {W : XK} {C : Addr} {m : Str} {o : α} {tail : List Dy}
theorem Ans.ok (h : A.bad x = false) : A.f x = .ok (A.r x) := if_neg (by rw [h]; exact Bool.false_ne_true)
theorem Ans.er (h : A.bad x = true) : A.f x = .error (A.c x) := if_pos h
abbrev spB (G : List Addr) (A : Ans ι γ) (ds : ι → List Dy) (S : Rp γ) : Sp := spF G A.pre ds S A.f
abbrev spBI (G : List Addr) (C : Addr) (A : Ans ι γ) (ds : ι → List Dy) (S : Rp γ) : Sp := spI G C A.pre ds S A.f
abbrev spBO (G : List Addr) (A : Ans ι γ) (O O' : ι → Ow) (ds : ι → List Dy) (S : Rp γ) : Sp := spO G A.pre O O' ds S A.f
theorem e_callB (x : ι) (h : EA G Γ t Γ' (ds x)) (hp : A.pre x) (hb : A.bad x = false) : E G Γ (tCall (spB G A ds S) [] W t) Γ' S (A.r x) := e_call h hp (Ans.ok hb)
theorem e_callBX (x : ι) (h : EA G Γ t Γ' (ds x)) (hp : A.pre x) (hb : A.bad x = true) : EX G Γ (tCall (spB G A ds S) [] W t) Γ' W (A.c x) := e_callX h hp (Ans.er hb)
theorem e_methB (x : ι) (hi : IsObj R C m) (ho : E G Γ te Γ1 R o) (h : EA G Γ1 t Γ2 tail) (hds : ds x = ⟨R, o⟩ :: tail) (hp : A.pre x) (hb : A.bad x = false) : E G Γ (tMeth C m (spB G A ds S) [] W te t) Γ2 S (A.r x) := e_meth ho hi h hds hp (Ans.ok hb)
theorem e_methBX (x : ι) (hi : IsObj R C m) (ho : E G Γ te Γ1 R o) (h : EA G Γ1 t Γ2 tail) (hds : ds x = ⟨R, o⟩ :: tail) (hp : A.pre x) (hb : A.bad x = true) : EX G Γ (tMeth C m (spB G A ds S) [] W te t) Γ2 W (A.c x) := e_methX ho hi h hds hp (Ans.er hb)
theorem e_makeB (x : ι) (h : EA G Γ t Γ' (ds x)) (hp : A.pre x) (hb : A.bad x = false) : E G Γ (tMake C (spBI G C A ds S) [] W t) Γ' S (A.r x) := e_make h hp (Ans.ok hb)
theorem e_makeBX (x : ι) (h : EA G Γ t Γ' (ds x)) (hp : A.pre x) (hb : A.bad x = true) : EX G Γ (tMake C (spBI G C A ds S) [] W t) Γ' W (A.c x) := e_makeX h hp (Ans.er hb)
theorem e_callBO {i : Nat} {O O' : ι → Ow} (x : ι) (h : EA G Γ t Γ1 (ds x)) (hx0 : Γ[i]? = some (.own (O x))) (hx : Γ1[i]? = some (.own (O x))) (hp : A.pre x) (hb : A.bad x = false) : E G Γ (tCall (spBO G A O O' ds S) [] W (tCons (tVar i) t)) (Γ1.set i (.own (O' x))) S (A.r x) := e_callO h hx0 hx hp (Ans.ok hb)
/-! the bodies' laws -/
theorem inB {N : List Str} {vs : List V} {Q : VK} {E : XK} {n k : Nat} {tb : TS} (h : spB G A ds S vs H Q E) (hk : ∀ x, (ds x).length = k) (hn : N.length - k = n)
    (body : ∀ (F : Fm) (x : ι), F.G = G → F.own0 = [] → A.pre x → (A.bad x = false → Ret F S (A.r x) Q) → (A.bad x = true → Rai F (A.c x) E) → KT F gT (ctx0 (ds x) n) (tb { nx := fun _ H' => Q .non H', rt := Q })) :
    tb { nx := fun _ H' => Q .non H', rt := Q } (start N vs) H :=
  spF_in h (by rw [spF_len hk _ _ _ _ h]; exact hn) fun F x hG hO hp hok her => body F x hG hO hp (fun hb => hok _ (Ans.ok hb)) fun hb => her _ (Ans.er hb)
theorem inBI {N : List Str} {vs : List V} {Q : VK} {E : XK} {n k : Nat} {tb : TS} (h : spBI G C A ds S vs H Q E) (hk : ∀ x, (ds x).length = k) (hn : N.length - (k + 1) = n)
    (body : ∀ (F : Fm) (x : ι) (p : Addr), F.G = G → F.own0 = [] → A.pre x → (A.bad x = false → RetI F S p (A.r x) Q) → (A.bad x = true → Rai F (A.c x) E) → KT F gT (.own (oInsP p C []) :: ctx0 (ds x) n) (tb { nx := fun _ H' => Q .non H', rt := Q })) :
    tb { nx := fun _ H' => Q .non H', rt := Q } (start N vs) H :=
  spI_in h (by rw [spI_len hk _ _ _ _ h]; exact hn) fun F x p hG hO hp hok her => body F x p hG hO hp (fun hb => hok _ (Ans.ok hb)) fun hb => her _ (Ans.er hb)
theorem inBO {N : List Str} {vs : List V} {Q : VK} {E : XK} {n k : Nat} {tb : TS} {O O' : ι → Ow} {Oi : ι → V → List Addr → Ow} (h : spBO G A O O' ds S vs H Q E) (hk : ∀ x, (ds x).length = k) (hn : N.length - (k + 1) = n)
    (hc : ∀ x h H ps v, (O x).own h H ps v → (Oi x v ps).own h H ps v)
    (body : ∀ (F : Fm) (x : ι) (v : V) (ps : List Addr), F.G = G → F.own0 = ps → A.pre x → (A.bad x = false → RetO F (O' x) S v ps (A.r x) Q) → KT F gT (.own (Oi x v ps) :: ctx0 (ds x) n) (tb { nx := fun _ H' => Q .non H', rt := Q })) :
    tb { nx := fun _ H' => Q .non H', rt := Q } (start N vs) H :=
  spO_in h (by rw [spO_len hk _ _ _ _ h]; exact hn) hc fun F x v ps hG hO hp hok => body F x v ps hG hO hp fun hb => hok _ (Ans.ok hb)
end
end TP

set_option Elab.async false
set_option linter.all false
set_option maxRecDepth 100000
set_option maxHeartbeats 4000000
namespace TP
open PySem PySem.Spec PyProof.Rows L2
def plB (Γ : Ctx) (vs : List Nat) : Bool := vs.all fun i => match Γ[i]? with
  | some (.own _) => false
  | _ => true
def noB (Γ : Ctx) (vs : List Nat) : Bool := vs.all fun i => match Γ[i]? with
  | some (.own _) => false
  | some (.val _ _) => false
  | _ => true
theorem plAll_of {Γ : Ctx} {vs : List Nat} (h : plB Γ vs = true) : ∀ i ∈ vs, PlainAt Γ i := fun i hi s e => by
  have := List.all_eq_true.mp h i hi
  rw [e] at this
  cases s with
  | own O => cases this
  | no => trivial
  | val R a => trivial
theorem noAll_of {Γ : Ctx} {vs : List Nat} (h : noB Γ vs = true) : ∀ i ∈ vs, NoAt Γ i := fun i hi s e => by
  have := List.all_eq_true.mp h i hi
  rw [e] at this
  cases s with
  | own O => cases this
  | no => rfl
  | val R a => cases this
theorem plain1 {Γ : Ctx} {i : Nat} (h : plB Γ [i] = true) : PlainAt Γ i := plAll_of h i (List.mem_singleton.mpr rfl)
section
variable {F : Fm} {gp : Gp} {G M own : List Addr} {H H' : Hp} {σ : L2.St} {Γ Γ' Γ0 Γ1 Γ2 Γ3 : Ctx} {ι α β γ : Type} {R : Rp α} {S : Rp β} {a : α} {b : β} {te ta tb : TE} {tt : TT} {t tr : TA} {D : Ends} {K : PySem.W.Frag} {g : TG} {wi : TI} {vs ws : List Nat} {xs : List α}
theorem e_ixLd {i : Int} {d : α} (ha : E G Γ ta Γ1 (rList R) xs) (hb : E G Γ1 tb Γ2 rInt i) (h : 0 ≤ i ∧ i < xs.length) : E G Γ (tOp (rIxL K) ta tb) Γ2 R (xs.getD i.toNat d) := e_ixL ha hb (atI_get (n := i.toNat) (by omega) (by
  have : i.toNat < xs.length := by omega
  rw [List.getD_eq_getElem?_getD, List.getElem?_eq_getElem this]; rfl))
theorem e_ixTd {i : Int} {d : α} (ha : E G Γ ta Γ1 (rTup R) xs) (hb : E G Γ1 tb Γ2 rInt i) (h : 0 ≤ i ∧ i < xs.length) : E G Γ (tOp (rIxT K) ta tb) Γ2 R (xs.getD i.toNat d) := e_ixT ha hb (atI_get (n := i.toNat) (by omega) (by
  have : i.toNat < xs.length := by omega
  rw [List.getD_eq_getElem?_getD, List.getElem?_eq_getElem this]; rfl))
theorem e_ixOd {i : Nat} {c : Addr → Prop} {n : Int} {d : α} (hx : Γ1[i]? = some (.own (oLstP c R xs))) (h : E G Γ1 te Γ1 rInt n) (hn : 0 ≤ n ∧ n < xs.length) : E G Γ1 (tOp (rIxL K) (tVar i) te) Γ1 R (xs.getD n.toNat d) := e_ixO hx h (atI_get (n := n.toNat) (by omega) (by
  have : n.toNat < xs.length := by omega
  rw [List.getD_eq_getElem?_getD, List.getElem?_eq_getElem this]; rfl))
section
variable {p : α → Bool} {f : α → β} {Γx : α → Ctx}
theorem turn_of (tg : ∀ x, x ∈ xs → Tg G g R x Γ (Γx x) ws) (hw : ∀ i ∈ ws, i ∈ vs) (hb : ∀ x, Back (Γx x) Γ vs) (ht : ∀ x, x ∈ xs → ET G (Γx x) tt (Γx x) (p x)) (he : ∀ x, x ∈ xs → p x = true → E G (Γx x) te (Γx x) S (f x)) :
    ∀ x, x ∈ xs → TuN G Γ Γ g tt te vs R S x (if p x = true then some (f x) else none) := fun x hx => tun_pure (tg x hx) hw (hb x) (ht x hx) (he x hx)
theorem e_lcT (hs : ES G Γ0 wi Γ R xs) (hl : xs.length ≤ 100000) (hn : ∀ i ∈ vs, NoAt Γ i) (tg : ∀ x, x ∈ xs → Tg G g R x Γ (Γx x) ws) (hw : ∀ i ∈ ws, i ∈ vs) (hb : ∀ x, Back (Γx x) Γ vs) (ht : ∀ x, x ∈ xs → ET G (Γx x) tt (Γx x) (p x)) (he : ∀ x, x ∈ xs → p x = true → E G (Γx x) te (Γx x) S (f x)) :
    E G Γ0 (tLc wi g tt te vs) Γ (rList S) ((xs.filter p).map f) := e_lc hs hl hn (turn_of tg hw hb ht he)
theorem e_lcT0 (hs : ES G Γ0 wi Γ R xs) (hl : xs.length ≤ 100000) (hn : ∀ i ∈ vs, NoAt Γ i) (tg : ∀ x, x ∈ xs → Tg G g R x Γ (Γx x) ws) (hw : ∀ i ∈ ws, i ∈ vs) (hb : ∀ x, Back (Γx x) Γ vs) (he : ∀ x, x ∈ xs → E G (Γx x) te (Γx x) S (f x)) :
    E G Γ0 (tLc wi g tYes te vs) Γ (rList S) (xs.map f) := e_lc0 hs hl hn fun x hx => tun_pure (p := true) (tg x hx) hw (hb x) t_yes fun _ => he x hx
variable {P : Addr} {f' : α → Int} {q : α → Bool}
theorem filter_yes : xs.filter (fun _ => true) = xs := by simp
theorem e_anyT0 (hP : P ∈ G) (hs : ES G Γ0 wi Γ R xs) (hl : xs.length ≤ 100000) (hn : ∀ i ∈ vs, NoAt Γ i) (tg : ∀ x, x ∈ xs → Tg G g R x Γ (Γx x) ws) (hw : ∀ i ∈ ws, i ∈ vs) (hb : ∀ x, Back (Γx x) Γ vs) (he : ∀ x, x ∈ xs → E G (Γx x) te (Γx x) rBool (q x)) :
    E G Γ0 (GX.tAnyG P wi g tYes te vs) Γ rBool (xs.any q) := by
  have := e_anyG (p := fun _ => true) (f := q) hP hs hl hn (turn_of (p := fun _ => true) tg hw hb (fun x _ => t_yes) fun x hx _ => he x hx)
  rw [filter_yes, List.any_map] at this
  exact this
theorem e_sumT0 (hP : P ∈ G) (hs : ES G Γ0 wi Γ R xs) (hl : xs.length ≤ 100000) (hn : ∀ i ∈ vs, NoAt Γ i) (tg : ∀ x, x ∈ xs → Tg G g R x Γ (Γx x) ws) (hw : ∀ i ∈ ws, i ∈ vs) (hb : ∀ x, Back (Γx x) Γ vs) (he : ∀ x, x ∈ xs → E G (Γx x) te (Γx x) rInt (f' x))
    (hc : ∀ pre z post, xs.map f' = pre ++ z :: post → InLong z ∧ InLong (pre.sum + z)) : E G Γ0 (GX.tSumG P wi g tYes te vs) Γ rInt (xs.map f').sum := by
  have := e_sumG (p := fun _ => true) (f := f') hP hs hl hn (turn_of (p := fun _ => true) tg hw hb (fun x _ => t_yes) fun x hx _ => he x hx) (by rw [filter_yes]; exact hc)
  rw [filter_yes] at this
  exact this
end
/-- sums of few small ones -/
theorem sum_long {ns : List Int} {B : Int} (h : ∀ n ∈ ns, -B ≤ n ∧ n ≤ B) (hB : 0 ≤ B) (hl : (ns.length : Int) * B < 2 ^ 62) : ∀ pre z post, ns = pre ++ z :: post → InLong z ∧ InLong (pre.sum + z) := by
  have key : ∀ ms : List Int, (∀ n ∈ ms, -B ≤ n ∧ n ≤ B) → -((ms.length : Int) * B) ≤ ms.sum ∧ ms.sum ≤ (ms.length : Int) * B := by
    intro ms
    induction ms with
    | nil => intro _; simp
    | cons m ms ih =>
      intro hm
      have h1 := ih fun n hn => hm n (List.mem_cons_of_mem _ hn)
      have h2 := hm m List.mem_cons_self
      rw [List.sum_cons, List.length_cons]
      have e : ((ms.length + 1 : Nat) : Int) * B = (ms.length : Int) * B + B := by rw [Int.natCast_add, Int.add_mul]; simp
      rw [e]
      omega
  intro pre z post e
  have hz := h z (by rw [e]; simp)
  have hp := key (pre ++ [z]) fun n hn => h n (by
    rw [e]; simp at hn ⊢; rcases hn with hn | hn
    · exact .inl hn
    · exact .inr (.inl hn))
  rw [List.sum_append, List.sum_singleton] at hp
  have hle : ((pre ++ [z]).length : Int) * B ≤ (ns.length : Int) * B := by
    apply Int.mul_le_mul_of_nonneg_right _ hB
    rw [e]; simp; omega
  have h1 : (1 : Int) * B ≤ (ns.length : Int) * B := by
    apply Int.mul_le_mul_of_nonneg_right _ hB
    rw [e]; simp; omega
  unfold InLong
  refine ⟨?_, ?_⟩ <;> omega
end
end TP

set_option Elab.async false
set_option linter.all false
set_option maxRecDepth 100000
set_option maxHeartbeats 4000000
namespace TP
open PySem PySem.Spec PyProof.Rows L2
/-! ### xs == [] -/
def rEqE (K : PySem.W.Frag) : R2 := fun x y H Q => ∃ p q xs, x = .ref p ∧ y = .ref q ∧ SqL K H p xs ∧ SqL K H q [] ∧ Q (.bl xs.isEmpty) H
def rNeE (K : PySem.W.Frag) : R2 := fun x y H Q => ∃ p q xs, x = .ref p ∧ y = .ref q ∧ SqL K H p xs ∧ SqL K H q [] ∧ Q (.bl (!xs.isEmpty)) H
theorem op_eqE {X : Cx} (hu : X.A.units < cLine) : OpR X (compareOp .Eq) (rEqE X.K) := by
  intro pins s σ H x y v u Q I rx ry h
  obtain ⟨p, q, xs, rfl, rfl, hp, hq, hQ⟩ := h
  cases rx
  cases ry
  obtain ⟨its, r1, l1, _⟩ := I.list hp
  obtain ⟨its2, r2, l2, _⟩ := I.list hq
  cases r2
  cases xs with
  | nil =>
    cases r1
    exact SeqAt.eq_listAt (e := fun _ => true) l1.isList l2.isList rfl hu (fun j h1 h2 => absurd h1 (by simp)) ⟨.bl true, H, I, rfl, hQ⟩
  | cons a r =>
    cases r1 with
    | cons b c => exact SeqAt.eq_list_lengthsAt l1.isList l2.isList (by simp) hu ⟨.bl false, H, I, rfl, hQ⟩
theorem op_neE {X : Cx} (hu : X.A.units < cLine) : OpR X (compareOp .NotEq) (rNeE X.K) := by
  intro pins s σ H x y v u Q I rx ry h
  obtain ⟨p, q, xs, rfl, rfl, hp, hq, hQ⟩ := h
  cases rx
  cases ry
  obtain ⟨its, r1, l1, _⟩ := I.list hp
  obtain ⟨its2, r2, l2, _⟩ := I.list hq
  cases r2
  cases xs with
  | nil =>
    cases r1
    exact SeqAt.RcNeAt.lists (e := fun _ => true) l1.isList l2.isList rfl hu (fun j h1 h2 => absurd h1 (by simp)) X.prog X.w _ _ ⟨.bl false, H, I, rfl, hQ⟩
  | cons a r =>
    cases r1 with
    | cons b c => exact SeqAt.RcNeAt.lists_lengths l1.isList l2.isList (by simp) hu X.prog X.w _ _ ⟨.bl true, H, I, rfl, hQ⟩
section
variable {G : List Addr} {Γ Γ1 : Ctx} {α : Type} {R : Rp α} {xs : List α} {ta : TE} {K : PySem.W.Frag}
theorem e_emp {R' : Rp α} : E G Γ (tLst tNil) Γ (rList R') [] := e_lst (xs := []) a_nil (by simp)
theorem emp_iff {h : Hp} {vs : List V} (r : All2 (R.rep h) vs xs) : vs.isEmpty = xs.isEmpty := by
  cases r <;> rfl
theorem e_eqE (ha : E G Γ ta Γ1 (rList R) xs) : E G Γ (tOp (rEqE K) ta (tLst tNil)) Γ1 rBool xs.isEmpty := e_op ha (e_emp (R' := R)) fun M H v u Q k rv ru q => by
  obtain ⟨p, vs, rfl, hp, r⟩ := rv
  obtain ⟨p', vs', rfl, hp', r'⟩ := ru
  cases r'
  exact ⟨p, p', vs, rfl, rfl, SqL.of (hid_some hp).2, SqL.of (hid_some hp').2, q _ H Ex.refl k (by show V.bl _ = V.bl _; rw [emp_iff r])⟩
theorem e_neE (ha : E G Γ ta Γ1 (rList R) xs) : E G Γ (tOp (rNeE K) ta (tLst tNil)) Γ1 rBool (!xs.isEmpty) := e_op ha (e_emp (R' := R)) fun M H v u Q k rv ru q => by
  obtain ⟨p, vs, rfl, hp, r⟩ := rv
  obtain ⟨p', vs', rfl, hp', r'⟩ := ru
  cases r'
  exact ⟨p, p', vs, rfl, rfl, SqL.of (hid_some hp).2, SqL.of (hid_some hp').2, q _ H Ex.refl k (by show V.bl _ = V.bl _; rw [emp_iff r])⟩
/-! ### == of bools -/
theorem e_eqB {a b : Bool} {tb : TE} {Γ2 : Ctx} (ha : E G Γ ta Γ1 rBool a) (hb : E G Γ1 tb Γ2 rBool b) : E G Γ (tOp rEq ta tb) Γ2 rBool (decide (a = b)) := e_op ha hb fun M H v u Q k rv ru q => by
  subst rv ru
  exact ⟨rfl, q _ H Ex.refl k (by show V.bl _ = V.bl _; simp)⟩
theorem e_neB {a b : Bool} {tb : TE} {Γ2 : Ctx} (ha : E G Γ ta Γ1 rBool a) (hb : E G Γ1 tb Γ2 rBool b) : E G Γ (tOp rNe ta tb) Γ2 rBool (!decide (a = b)) := e_op ha hb fun M H v u Q k rv ru q => by
  subst rv ru
  exact ⟨rfl, q _ H Ex.refl k (by show V.bl _ = V.bl _; simp)⟩
/-! ### t < u -/
theorem e_ltT3 {x y : Int × Int × Int} {tb : TE} {Γ2 : Ctx} (ha : E G Γ ta Γ1 (rT3 rInt rInt rInt) x) (hb : E G Γ1 tb Γ2 (rT3 rInt rInt rInt) y) : E G Γ (tOp (rLtT K) ta tb) Γ2 rBool (HT.lexLt [x.1, x.2.1, x.2.2] [y.1, y.2.1, y.2.2]) := e_op ha hb fun M H v u Q k rv ru q => by
  obtain ⟨p, a, b, c, rfl, hp, ra, rb, rc⟩ := rv
  obtain ⟨p', a', b', c', rfl, hp', ra', rb', rc'⟩ := ru
  cases ra; cases rb; cases rc; cases ra'; cases rb'; cases rc'
  exact ⟨p, p', [_, _, _], [_, _, _], rfl, rfl, SqT.of (hid_some hp).2, SqT.of (hid_some hp').2, q _ H Ex.refl k rfl⟩
end
end TP

set_option Elab.async false
set_option linter.all false
set_option maxRecDepth 100000
set_option maxHeartbeats 4000000
namespace TP
open PySem PySem.Spec PyProof.Rows L2
section
variable {F : Fm} {gp : Gp} {G M own : List Addr} {H H' : Hp} {σ : L2.St} {Γ Γ' Γ0 Γ1 Γ2 Γ3 : Ctx} {ι α β γ : Type} {R : Rp α} {S : Rp β} {a : α} {b : β} {te ta tb : TE} {tt : TT} {t tr : TA} {D : Ends} {K : PySem.W.Frag} {g : TG} {wi : TI} {ws : List Nat} {xs : List α}
theorem e_some (h : E G Γ te Γ' R a) : E G Γ te Γ' (rOpt R) (some a) := h
theorem e_unsome (h : E G Γ te Γ' (rOpt R) (some a)) : E G Γ te Γ' R a := h
theorem e_none (h : E G Γ te Γ' rNon ()) : E G Γ te Γ' (rOpt R) none := h
theorem upFrom_length {lo : Int} {n : Nat} : (upFrom lo n).length = n := by simp [upFrom]
theorem upFrom_mem {lo x : Int} {n : Nat} : x ∈ upFrom lo n ↔ lo ≤ x ∧ x < lo + n := by
  unfold upFrom
  rw [List.mem_map]
  constructor
  · rintro ⟨i, hi, rfl⟩
    have := List.mem_range.mp hi
    omega
  · intro h
    exact ⟨(x - lo).toNat, List.mem_range.mpr (by omega), by omega⟩
theorem foldl_take {α β : Type} {f : β → α → β} {xs : List α} {i : Nat} {x : α} {s : β} (h : xs[i]? = some x) : (xs.take (i + 1)).foldl f s = f ((xs.take i).foldl f s) x := by
  rw [take_succ_of h, List.foldl_append]; rfl
/-- a for that folds -/
theorem s_forN {Sx : Type} {tbd : TS} (Γs : Sx → Ctx) (step : Sx → α → Sx) (Iv : Nat → Sx → Prop) {s0 : Sx} (h0 : Iv 0 s0) (hv : ∀ i s x, Iv i s → xs[i]? = some x → Iv (i + 1) (step s x)) (hs : ES F.G Γ wi (Γs s0) R xs)
    (turn : ∀ i s x, Iv i s → xs[i]? = some x → ∃ Γx ws, Tg F.G g R x (Γs s) Γx ws ∧ ∀ g' N, KT F g' (Γs (step s x)) N → (∀ Γ', KT F gp Γ' D.nx → KT F g' Γ' D.nx) → KT F g' Γx (tbd { D with nx := N, ct := N, bk := D.nx }))
    (done : Iv xs.length (xs.foldl step s0) → KT F gp (Γs (xs.foldl step s0)) D.nx) : KT F gp Γ (tFor wi g tbd D) := by
  have hI : ∀ i, i ≤ xs.length → Iv i ((xs.take i).foldl step s0) := by
    intro i
    induction i with
    | zero => exact fun _ => h0
    | succ i ih =>
      intro hi
      have e : xs[i]? = some xs[i] := List.getElem?_eq_getElem hi
      rw [foldl_take e]
      exact hv _ _ _ (ih (by omega)) e
  refine s_for Γs (fun i s => s = (xs.take i).foldl step s0) hs rfl (fun i x s hx hi => ?_) (fun s hi => ?_)
  · subst hi
    obtain ⟨Γx, ws, tg, body⟩ := turn i _ x (hI i (Nat.le_of_lt (List.getElem?_eq_some_iff.mp hx).1)) hx
    exact ⟨Γx, ws, tg, fun g' N hN hB => body g' N (hN _ (by rw [foldl_take hx])) hB⟩
  · subst hi
    rw [List.take_length]
    have := hI xs.length (Nat.le_refl _)
    rw [List.take_length] at this
    exact done this
theorem s_forF {Sx : Type} {tbd : TS} (Γs : Sx → Ctx) (step : Sx → α → Sx) (Iv : Sx → Prop) {s0 : Sx} (h0 : Iv s0) (hv : ∀ s x, Iv s → x ∈ xs → Iv (step s x)) (hs : ES F.G Γ wi (Γs s0) R xs)
    (turn : ∀ s x, Iv s → x ∈ xs → ∃ Γx ws, Tg F.G g R x (Γs s) Γx ws ∧ ∀ g' N, KT F g' (Γs (step s x)) N → (∀ Γ', KT F gp Γ' D.nx → KT F g' Γ' D.nx) → KT F g' Γx (tbd { D with nx := N, ct := N, bk := D.nx }))
    (done : Iv (xs.foldl step s0) → KT F gp (Γs (xs.foldl step s0)) D.nx) : KT F gp Γ (tFor wi g tbd D) :=
  s_forN Γs step (fun _ => Iv) h0 (fun _ s x h hx => hv s x h (List.mem_of_getElem? hx)) hs (fun _ s x h hx => turn s x h (List.mem_of_getElem? hx)) done
theorem sum_bounds {a b : Int} : ∀ {ns : List Int}, (∀ n ∈ ns, a ≤ n ∧ n ≤ b) → (ns.length : Int) * a ≤ ns.sum ∧ ns.sum ≤ (ns.length : Int) * b
  | [], _ => by simp
  | n :: ns, h => by
    have h1 := sum_bounds (ns := ns) fun m hm => h m (List.mem_cons_of_mem _ hm)
    have h2 := h n List.mem_cons_self
    rw [List.sum_cons, List.length_cons]
    have e : ∀ c : Int, ((ns.length + 1 : Nat) : Int) * c = (ns.length : Int) * c + c := fun c => by rw [Int.natCast_add, Int.add_mul]; simp
    rw [e, e]
    omega
end
end TP

set_option Elab.async false
set_option linter.all false
set_option maxRecDepth 100000
set_option maxHeartbeats 4000000
/-! the rules whose readings name what is known, that named apart -/
namespace TP
open PySem PySem.Spec PyProof.Rows L2
section
variable {X : Cx} {K : PySem.W.Frag} {e a b e2 o : Expr} {es : List Expr} {te ta tb td to : TE} {t : TA} {f : Str} {pos p tpos apos cpos : Pos} {k : Nat}
theorem pg_tupK {tg : TGs} {n : Nat} (hK : X.K = K) (hc : X.calm = true) (h : PGs X es tg)
    (hn : (assignEach es X.env).length = n := by rfl) (hst : (assignEach es X.env).findIdx? (·.1) = none := by rfl) : PG X (.Tuple es k pos) (gTup K n tg) := by
  subst hK; exact pg_tup hc h hn hst
theorem pe_fldK (hK : X.K = K) (he : PE X e ta) (hb : attributeBase e f X.env (eval e X.env) = eval e X.env) : PE X (.Attribute e f pos) (tFld K ta f) := by subst hK; exact pe_fld he hb
theorem pi_listK {tg : Expr} (hK : X.K = K) (h : PE X e ta) : PI X tg e (iList K ta) := by subst hK; exact pi_list h
theorem pi_tupK {tg : Expr} (hK : X.K = K) (h : PE X e ta) : PI X tg e (iTup K ta) := by subst hK; exact pi_tup h
theorem pi_enumK {elts : List Expr} {kk : Nat} (hK : X.K = K) (hg : Gl X "enumerate") (hm : X.mg "enumerate" = none) (ha : PA X [e] t) (hs : starEach [e] X.env = [(false, eval e X.env)] := by rfl) :
    PI X (.Tuple elts kk tpos) (.Call (.Name "enumerate" p) [e] [] pos) (iEnum K t) := by subst hK; exact pi_enum hg hm ha hs
theorem pi_zipK {elts : List Expr} {kk : Nat} (hK : X.K = K) (hg : Gl X "zip") (hm : X.mg "zip" = none) (ha : PA X [e, e2] t) (hs : starEach [e, e2] X.env = (false, eval e X.env) :: starEach [e2] X.env := by rfl)
    (hpl : (backTo pos (starEach [e2] X.env)).any (·.1) = false := by rfl) : PI X (.Tuple elts kk tpos) (.Call (.Name "zip" p) [e, e2] [] pos) (iZip K t) := by subst hK; exact pi_zip hg hm ha hs hpl
theorem ix_listK (hK : X.K = K) : IxR X (rIxL K) := by subst hK; exact ix_list
theorem ix_tupK (hK : X.K = K) : IxR X (rIxT K) := by subst hK; exact ix_tup
theorem op_eqDK (hK : X.K = K) (hu : X.A.units + 64 < cLine) : OpR X (compareOp .Eq) (rEqD K) := by subst hK; exact op_eqD hu
theorem op_neDK (hK : X.K = K) (hu : X.A.units + 64 < cLine) : OpR X (compareOp .NotEq) (rNeD K) := by subst hK; exact op_neD hu
theorem op_eqEK (hK : X.K = K) (hu : X.A.units < cLine) : OpR X (compareOp .Eq) (rEqE K) := by subst hK; exact op_eqE hu
theorem op_neEK (hK : X.K = K) (hu : X.A.units < cLine) : OpR X (compareOp .NotEq) (rNeE K) := by subst hK; exact op_neE hu
theorem op_ltTK (hK : X.K = K) (hu : X.A.units < cLine) : OpR X (compareOp .Lt) (rLtT K) := by subst hK; exact op_ltT hu
theorem op_catTK (hK : X.K = K) : OpR X (binaryOp .Add) (rCatT K) := by subst hK; exact op_catT
theorem call_len_seqK (hK : X.K = K) : CallR X (.builtin "len") (fun xs H Q => ∃ p ys, xs = [.ref p] ∧ (SqL K H p ys ∨ SqT K H p ys) ∧ Q (.int ys.length) H) := by subst hK; exact call_len_seq
theorem call_tuple_ofK (hK : X.K = K) : CallR X (.type "tuple") (fun xs H Q => ∃ p ys, xs = [.ref p] ∧ ((SqL K H p ys ∧ ∀ l, H l = none → Q (.ref l) (upd H l (.tup ys))) ∨ (SqT K H p ys ∧ Q (.ref p) H))) := by subst hK; exact call_tuple_of
theorem call_list_ofK (hK : X.K = K) : CallR X (.type "list") (fun xs H Q => ∃ p ys, xs = [.ref p] ∧ (SqL K H p ys ∨ SqT K H p ys) ∧ ∀ l, H l = none → Q (.ref l) (upd H l (.lst ys))) := by subst hK; exact call_list_of
theorem cr_sumK (hK : X.K = K) (hc : X.calm = true) : CallR X (.builtin "sum") (L2.rSum K) := by subst hK; exact cr_sum hc
theorem cr_minK (hK : X.K = K) (hc : X.calm = true) : CallR X (.builtin "min") (L2.rMin K) := by subst hK; exact cr_min hc
theorem cr_maxK (hK : X.K = K) (hc : X.calm = true) : CallR X (.builtin "max") (L2.rMax K) := by subst hK; exact cr_max hc
theorem sl_listK (hK : X.K = K) : SlR X (rSlL K) := by subst hK; exact sl_list
theorem sl_tupK (hK : X.K = K) : SlR X (rSlT K) := by subst hK; exact sl_tup
theorem pe_bmK {T id : String} {name : Str} {r : V → List V → Hp → VK → Prop} (hK : X.K = K) (pa : PlainAttrs T) (slot : Slot T name id) (hty : typeOf (.builtin id) = pure (.type "method_descriptor")) (hm : MtR X id r) (ho : PE X o to) (ha : PA X (e :: es) t) (hbase : attributeBase o name X.env (eval o X.env) = eval o X.env := by rfl) (hfew : ((backTo cpos (starEach (e :: es) X.env)).all (fun x => !x.1) && (backToKw cpos (keywordEach [] X.env)).all (fun x => x.1.isSome) && decide ((e :: es).length + ([] : List Keyword).length + (if ([] : List Keyword).isEmpty then 0 else 1) < 30)) = true := by rfl)
    (hline : (apos.endLine == cpos.line) = true := by rfl) (hs : starEach (e :: es) X.env = (false, eval e X.env) :: starEach es X.env := by rfl) (hplain : (backTo cpos (starEach es X.env)).any (·.1) = false := by rfl) : PE X (.Call (.Attribute o name apos) (e :: es) [] cpos) (tBM K T r to t) := by
  subst hK; exact pe_bm pa slot hty hm ho ha hbase hfew hline hs hplain
end
end TP

set_option Elab.async false
set_option linter.all false
set_option maxRecDepth 100000
set_option maxHeartbeats 4000000
/-! Lambdas as values: kept in a list, called later. -/
namespace LM
open PySem PySem.Spec PyProof.Rows L2
open LamX (CodeO TabS TabB LamS)

/-- a lambda's object -/
def FnO (f : Addr) (q : Str) (ps : Arguments) (b : Expr) (sc : Scope) (clo : List (Str × Addr)) (c' : Addr) : HO :=
  .ext fun h => ∃ pm ctv, h.get? f = some (PySem.W.kla_obj "<lambda>" q ps b sc clo pm c' ctv)
/-- nothing but the table at P is other than it was -/
def ButP (P : Addr) (H H1 : Hp) : Prop := ∀ b o, b ≠ P → H b = some o → H1 b = some o
/-- what the table at P tells afterwards: the codes of before, or c', which is new or one of them -/
def Next (P c' : Addr) (H H1 : Hp) : Prop := ∃ ps ps' : Array Value, H P = some (.tbl ps) ∧ H1 P = some (.tbl ps') ∧ TriplesOk ps'.toList ∧ (∀ pos cv, codeAmong pos ps'.toList = some cv → (∃ p', codeAmong p' ps.toList = some cv) ∨ cv = .ref c') ∧ (H c' = none ∨ ∃ p', codeAmong p' ps.toList = some (.ref c'))
section
variable {X : Cx} {pins : List (Addr × Obj)} {σ : L2.St} {H : Hp} {s : Shared}
theorem fn_laid {P c' : Addr} {q : Str} {params : Arguments} {body : Expr} {scope : Scope} {clo : List (Str × Addr)} {pm ctv : Value} {h' : Heap} {tk : Nat} (I : Inv X pins σ H s) (hk : ∀ b o, s.heap.get? b = some o → h'.get? b = some o) (hz : s.heap.objs.size ≤ h'.objs.size) :
    Inv X pins σ (upd H h'.objs.size (FnO h'.objs.size q params body scope clo c')) { s with heap := h'.push (PySem.W.kla_obj "<lambda>" q params body scope clo pm c' ctv), toks := tk } := by
  refine I.laid (fun b o e => Heap.get?_push_of_some _ (hk b o e)) hz ?_
  have e : (h'.push (PySem.W.kla_obj "<lambda>" q params body scope clo pm c' ctv)).get? h'.objs.size = some (PySem.W.kla_obj "<lambda>" q params body scope clo pm c' ctv) := Heap.get?_push_size _ rfl
  exact ⟨⟨pm, ctv, e⟩, ⟨_, e⟩, fun h1 h2 ⟨a, b, x⟩ st => ⟨a, b, st _ x⟩⟩
theorem tabS_upd {P : Addr} {q : Str} {a : Addr} {o : HO} (t : TabS H P q) (ha : H a = none) : TabS (upd H a o) P q := t.ext fun b u e => by
  rw [upd_ne (ne_of_none e ha)]; exact e
/-- its making -/
theorem lam_value {c P : Addr} {params : Arguments} {body : Expr} {scope : Scope} {pos : Pos} {E : Value → Shared → Prop} {Q : Value → Shared → Prop} (I : Inv X pins σ H s) (TB : TabB X.base X.mg c P) (hcode : X.env.code = .ref c)
    (hT : TabS H P (X.env.qual ++ "<lambda>")) (hdef : defaultsOf params X.env = ([], [])) (hfree : ∀ y ∈ scope.names, y.2 = .free → ∃ c, X.env.cells.lookup y.1 = some c)
    (h : ∀ (f c' : Addr) (H1 : Hp) (s' : Shared), Inv X pins σ (upd H1 f (FnO f (X.env.qual ++ "<lambda>") params body scope (cloFrom X.env.cells scope.names []) c')) s' → ButP P H H1 → Next P c' H H1 → H1 f = none → H1 c' = some (CodeO c' (X.env.qual ++ "<lambda>")) → Q (.ref f) s') :
    wpAny (model X.prog X.w) X.A (eval (.Lambda params body scope pos) X.env) Q E s := by
  obtain ⟨ps, hP, ht, ha⟩ := hT
  have hB := TB.bm.keeps I.bk
  have eP : s.heap.get? P = some { cls := .none, data := .fields ps } := I.hok P _ hP
  have hC := TB.code.keeps I.bk
  have hG := I.mod.glob.keeps I.bk
  refine PySem.W.kla_eval hdef ?_
  cases hc : codeAmong pos ps.toList with
  | some cv =>
    obtain ⟨c', rfl, hco⟩ := ha pos cv hc
    refine PySem.W.kla_makeFunctionHit (mg := X.mg) (closure_ok hfree) I.ok.glob hG hcode hC eP ht hc hB fun ctv h' tk hx hz => ?_
    exact h h'.objs.size c' H _ (fn_laid (tk := tk) (P := P) I hx hz) (fun _ _ _ e => e) ⟨ps, ps, hP, hP, ht, fun p' cv z => .inl ⟨p', z⟩, .inr ⟨pos, hc⟩⟩ (I.hok.fresh hz) hco
  | none =>
    refine PySem.W.kla_makeFunction (mg := X.mg) (closure_ok hfree) I.ok.glob hG hcode hC eP ht hc TB.gP hB fun c' ctv h' tk hx hge hlt hrec htb => ?_
    obtain ⟨c2, oc, vs, t, e2, hoc, hd, hv⟩ := hrec
    cases e2
    have nC : H c' = none := I.hok.fresh hge
    have nPc : P ≠ c' := ne_of_none hP nC
    have I1 := LamX.inv_table (t' := tk) (more := #[rawInt pos.line, rawInt pos.col, .ref c']) (h' := h') I hP (fun b o hb e => hx b o hb e) htb hge ⟨oc, vs, t, hoc, hd, hv⟩
    have I2 := fn_laid (P := P) (q := X.env.qual ++ "<lambda>") (params := params) (body := body) (scope := scope) (clo := cloFrom X.env.cells scope.names []) (pm := (X.mg "__name__").getD .none) (ctv := ctv) (c' := c') (tk := tk) (h' := h') I1 (fun b o e => e) (Nat.le_refl _)
    have hBut : ButP P H (upd (upd H P (.tbl (ps ++ #[rawInt pos.line, rawInt pos.col, .ref c']))) c' (CodeO c' (X.env.qual ++ "<lambda>"))) := fun b o hb e => by
      rw [upd_ne (ne_of_none e nC), upd_ne hb]; exact e
    have eL : (ps ++ #[rawInt pos.line, rawInt pos.col, .ref c']).toList = ps.toList ++ [rawInt pos.line, rawInt pos.col, .ref c'] := by simp
    refine h h'.objs.size c' _ _ I2 hBut ⟨ps, _, hP, by rw [upd_ne nPc, upd_same], by rw [eL]; exact PySem.TriplesOk_snoc _ _ _ _ ht, fun p' cv hcv => ?_, .inl nC⟩ ?_ upd_same
    · rw [eL] at hcv
      exact (LamX.among_app _ ht hcv).imp (fun z => ⟨p', z⟩) id
    · have n1 : h'.objs.size ≠ c' := Nat.ne_of_gt hlt
      have n2 : h'.objs.size ≠ P := Nat.ne_of_gt (Nat.lt_of_lt_of_le (Heap.lt_size eP) (Nat.le_trans hge (Nat.le_of_lt hlt)))
      rw [upd_ne n1, upd_ne n2]
      exact I.hok.fresh (Nat.le_trans hge (Nat.le_of_lt hlt))
end
/-- the reading -/
def tLamV (P : Addr) (q : Str) (params : Arguments) (body : Expr) (scope : Scope) (clo : List (Str × Addr)) : TE := fun _ H Q => TabS H P q ∧ ∀ H1 f c', ButP P H H1 → Next P c' H H1 → H1 f = none → H1 c' = some (CodeO c' q) → Q (.ref f) (upd H1 f (FnO f q params body scope clo c'))
theorem pe_lamV {X : Cx} {c P : Addr} {params : Arguments} {body : Expr} {scope : Scope} {pos : Pos} (TB : TabB X.base X.mg c P) (hcode : X.env.code = .ref c) (L : LamS X.env.scope scope) (hdef : defaultsOf params X.env = ([], [])) :
    PE X (.Lambda params body scope pos) (tLamV P (X.env.qual ++ "<lambda>") params body scope (cloFrom X.env.cells scope.names [])) := by
  refine ⟨fun pins s σ H Q I h => ?_⟩
  exact lam_value I TB hcode h.1 hdef (L.has I.ok) fun f c' H1 s' I1 hb hT hf hc => ⟨.ref f, _, I1, rfl, h.2 H1 f c' hb hT hf hc⟩
end LM

set_option Elab.async false
set_option linter.all false
set_option maxRecDepth 100000
set_option maxHeartbeats 4000000
namespace LM
open PySem PySem.Spec PyProof.Rows L2
open LamX (CodeO TabS TabB LamS lamEnv lamCx)

/-- what is known of a def's cells -/
structure Cells (X : Cx) (σ : L2.St) (h : Heap) (H : Hp) : Prop where
  ok : X.Ok
  len : σ.length = X.N.length
  cell : ∀ y c, X.env.cells.lookup y = some c → (∃ v, h.IsCell c v) ∧ H c = none
  val : ∀ (i : Nat) (y : Str) (v : V), X.N[i]? = some y → σ[i]? = some (some v) → (X.env.scope.names.lookup y = some .cell ∨ X.env.scope.names.lookup y = some .free) → ∃ u c, RelV v u ∧ X.env.cells.lookup y = some c ∧ h.IsCell c (some u)
section
variable {X : Cx} {pins : List (Addr × Obj)} {σ : L2.St} {H H' : Hp} {s : Shared} {h h' : Heap}
theorem Cells.of (I : Inv X pins σ H s) : Cells X σ s.heap H := by
  refine ⟨I.ok, I.len, fun y c e => ⟨I.cell y c e, I.freeC y c e⟩, fun i y v e1 e2 e3 => ?_⟩
  obtain ⟨m, _, hl⟩ := I.loc
  obtain ⟨u, r, q⟩ := hl i y v e1 e2 (e3.elim (fun k => .inr (.inl k)) fun k => .inr (.inr k))
  rcases q with ⟨k, _⟩ | ⟨_, c, e, z⟩
  · have k : X.env.scope.names.lookup y = some .local := k
    rcases e3 with e3 | e3 <;> rw [e3] at k <;> cases k
  · exact ⟨u, c, r, e, z⟩
theorem Cells.un {fs ex : List Addr} (C : Cells X σ h H) (u : Un fs ex H H' h h') (hx : ∀ y c, X.env.cells.lookup y = some c → c ∉ ex) : Cells X σ h' H' := by
  have key : ∀ {y c v}, X.env.cells.lookup y = some c → h.IsCell c v → h'.IsCell c v := fun {y c v} e z => by
    obtain ⟨o, ho, hd⟩ := z
    obtain ⟨sl, q⟩ := u.any ho (C.cell y c e).2 (hx y c e)
    exact ⟨_, q, hd⟩
  refine ⟨C.ok, C.len, fun y c e => ?_, fun i y v e1 e2 e3 => ?_⟩
  · obtain ⟨⟨v, z⟩, n⟩ := C.cell y c e
    refine ⟨⟨v, key e z⟩, ?_⟩
    obtain ⟨o, ho, _⟩ := z
    exact u.free c o ho n (hx y c e)
  · obtain ⟨w, c, r, e, z⟩ := C.val i y v e1 e2 e3
    exact ⟨w, c, r, e, key e z⟩
theorem Cells.keeps (C : Cells X σ h H) (k : ∀ b o, h.get? b = some o → h'.get? b = some o) : Cells X σ h' H := by
  refine ⟨C.ok, C.len, fun y c e => ?_, fun i y v e1 e2 e3 => ?_⟩
  · obtain ⟨⟨v, z⟩, n⟩ := C.cell y c e
    exact ⟨⟨v, z.keeps k⟩, n⟩
  · obtain ⟨w, c, r, e, z⟩ := C.val i y v e1 e2 e3
    exact ⟨w, c, r, e, z.keeps k⟩
/-- the lambda's body is entered -/
theorem lam_enter {s1 : Shared} {A : Around} {outer : List PySem.Env} {E : XK} {scope : Scope} {f c' : Addr} {h₁ : Heap} {tk : Nat} (C : Cells X σ s1.heap H) (L : LamS X.env.scope scope) (e0 : Env0 X.prog X.w X.K X.mg X.base A outer s1 H) (hd : A.handled = none)
    (hns : h₁.Ns s1.heap.objs.size fun y => ([] : List (Str × Value)).reverse.lookup y) (kp : ∀ b o, s1.heap.get? b = some o → h₁.get? b = some o) :
    Inv (lamCx X A outer s1 H E scope f c') [] σ H { s1 with heap := h₁, toks := tk } := by
  have hfree := L.has C.ok
  have C1 := C.keeps kp
  have back : ∀ {y c}, (cloFrom X.env.cells scope.names []).lookup y = some c → X.env.cells.lookup y = some c := fun {y c} e => by
    rcases cloFrom_mem (PySem.mem_of_lookup e) with hm | ⟨h1, h2⟩
    · cases hm
    · obtain ⟨c1, hc⟩ := hfree _ h1 rfl
      have hc : X.env.cells.lookup y = some c1 := hc
      rw [h2, hc]; rfl
  have forth : ∀ {y}, scope.names.lookup y = some .free → ∃ c, (cloFrom X.env.cells scope.names []).lookup y = some c := fun {y} hl =>
    mem_lookup (cloFrom_has (cells := X.env.cells) (acc := []) (show (y, NameKind.free) ∈ scope.names from PySem.mem_of_lookup hl))
  have no : ∀ b : Addr, b ∉ (lamCx X A outer s1 H E scope f c').ex := fun b z => absurd (show b ∈ ([] : List Addr) from z) (by simp)
  refine ⟨⟨e0.mod, L.kind, rfl, rfl, Nat.le_refl _, fun y z c e1 e2 => C.ok.inj y z c (back e1) (back e2), fun y hy => ?_, fun y c z _ => ?_, fun _ => hd, Around.frames_deeper e0.frames, .inr ⟨rfl, rfl⟩, fun b z => absurd z (no b), e0.bs, e0.bsz, fun b _ _ => no b,
      fun b z => absurd z (no b), e0.funs, e0.frf⟩,
    rfl, e0.bare, Un.kept kp, ⟨_, hns, fun i y v e1 e2 e3 => ?_⟩, fun y c e => (C1.cell y c (back e)).1, e0.hok.fresh (Nat.le_refl _), fun y c e => (C1.cell y c (back e)).2, fun q hq => absurd (show q ∈ ([] : List (Addr × Obj)) ++ [] from hq) (by simp), e0.hok.kept kp, C.len⟩
  · have hy : scope.names.lookup y = some .cell ∨ scope.names.lookup y = some .free := hy
    rcases hy with hy | hy
    · exact absurd rfl (L.own _ (PySem.mem_of_lookup hy)).2
    · exact forth hy
  · have z : false = true := z
    cases z
  · have e3 : Vis scope y := e3
    rcases e3 with k | k | k
    · exact absurd rfl (L.own _ (PySem.mem_of_lookup k)).1
    · exact absurd rfl (L.own _ (PySem.mem_of_lookup k)).2
    · obtain ⟨u, c, r, e, z⟩ := C1.val i y v e1 e2 (L.free _ (PySem.mem_of_lookup k) rfl)
      obtain ⟨c2, h2⟩ := forth k
      have ec : c2 = c := Option.some.inj ((back h2).symm.trans e)
      exact ⟨u, r, .inr ⟨.inr k, c2, h2, by rw [ec]; exact z⟩⟩
end
/-- the context of a def that is handed a lambda, within a try, called at t with what stands then -/
abbrev inTry (X : Cx) (CXg : CXT) (Ng : List Str) (qg : Str) (sg : Scope) (g : Addr) (cdg : Value) (t : Shared) (H : Hp) (Eg : XK) (pn : List (Addr × Obj)) (xe : Value → Shared → Prop) : Cx :=
  (cxOf CXg X.prog X.w X.K X.mg X.base Ng qg sg g cdg X.A X.stack t H Eg).tr pn xe
/-- what() in it: the maker's cells are known at t -/
theorem pe_what {X : Cx} {σ : L2.St} {H : Hp} {t : Shared} {CXg : CXT} {Eg : XK} {Ng : List Str} {qg : Str} {sg : Scope} {g f c' : Addr} {cdg : Value} {params : Arguments} {body : Expr} {scope : Scope} {k i : Nat} {a q : Str} {pn : List (Addr × Obj)} {xe : Value → Shared → Prop} {W : WX} {E : XK} {tb : TE} {p1 p2 : Pos}
    (C : Cells X σ t.heap H) (L : LamS X.env.scope scope) (hq : q = X.env.qual ++ "<lambda>")
    (hbind : ∀ (pm ctv : Value), bindArgs (PySem.W.kla_fn "<lambda>" q params body scope (cloFrom X.env.cells scope.names []) pm (.ref c') ctv) ⟨[], []⟩ = pure [])
    (tk : Takes (inTry X CXg Ng qg sg g cdg t H Eg pn xe) W) (hW : ∀ cls d σ' H', E cls d H' → W cls d σ' H') (room : Room (k + 1) (X.A.deeper (envOfC qg sg t.heap.objs.size g cdg)))
    (hbody : ∀ (A : Around) (outer : List PySem.Env) (s : Shared) (H : Hp), Room k (A.deeper (lamEnv X scope s.heap.objs.size f c')) → PE (lamCx X A outer s H E scope f c') body tb)
    (hN : Ng[i]? = some a) (hv : Vis sg a) (hd : (a == ("__debug__" : Str)) = false) (hcd : (a == ("__classdict__" : Str)) = false) :
    PE (inTry X CXg Ng qg sg g cdg t H Eg pn xe) (.Call (.Name a p1) [] [] p2) (fun σZ HZ Q => σZ[i]? = some (some (.ref f)) ∧ HZ f = some (FnO f q params body scope (cloFrom X.env.cells scope.names []) c') ∧ HZ c' = some (CodeO c' q) ∧ tb σ HZ Q) := by
  subst hq
  have passes : Passes (L2.CX X.prog X.w) (inTry X CXg Ng qg sg g cdg t H Eg pn xe) E := passes_call tk hW
  refine ⟨fun pinsZ sZ σZ HZ Q IZ hh => ?_⟩
  obtain ⟨hs, hf, hc, ht⟩ := hh
  refine wpAny_Call_Name_kw (thn ((pe_var (pos := p1) (i := i) hN hv hd hcd).run pinsZ sZ σZ HZ (fun v H1 => v = .ref f ∧ H1 = HZ) IZ ⟨.ref f, hs, rfl, rfl⟩) fun u s1 ⟨v, H1, J, r1, e1, e2⟩ => ?_)
  subst e1 e2
  obtain rfl : Value.ref f = u := r1.symm
  obtain ⟨⟨pm, ctv, fo⟩, _, _⟩ := J.hok f _ hf
  obtain ⟨⟨oc, cvs, tq, co, cd, cv⟩, _, _⟩ := J.hok c' _ hc
  have C1 : Cells X σ s1.heap H1 := C.un (fs := frs X.stack) (ex := []) J.base fun _ _ _ z => by simp at z
  refine PySem.W.callWith_F0 ⟨_, _, _, _, fo⟩ (wpAny_call (codeAny_mono (R := CR (L2.CX X.prog X.w) (envOfC qg sg t.heap.objs.size g cdg :: X.stack) X.prog X.w H1 s1 Q E) (PySem.W.kla_callFunE room.depth fo rfl L.co L.gen rfl ⟨c', oc, cvs, tq, rfl, co, cd, cv⟩ ?_) fun r s' ho => ?_))
  · refine wpAny_of_eq (hbind pm ctv) (wpAny_newFunctionEnv (fun y hy => (L.own y hy).2) (fun y hy => by simp at hy) (fun hp hns hsb => ⟨J.nolimit.fresh _ hsb, ?_⟩) L.kind)
    have kp : ∀ b o, s1.heap.get? b = some o → hp.get? b = some o := fun b o e => hsb.extBut b o (Nat.ne_of_lt (Heap.lt_size e)) (Heap.get?_push_of_some _ e)
    have Jb := lam_enter (E := E) (scope := scope) (f := f) (c' := c') (tk := s1.toks + ([] : List (Str × Value)).length) C1 L J.env0 room.hd hns kp
    refine PySem.W.kla_codeExpr (wpAny_mono ((hbody _ _ s1 H1 (room.deeper _)).run [] _ _ H1 Q Jb ht) (fun v s' z => ?_) fun _ _ z => z)
    obtain ⟨vv, H', J', rv, z⟩ := z
    exact ⟨vv, H', J'.os, J'.bare, J'.base, J'.hok, rv, z⟩
  · cases r with
    | error e => exact passes pinsZ σZ H1 s1 e s' J ho
    | ok fl =>
      cases fl with
      | ret u => exact J.after ho
      | next | brk | cont => exact False.elim ho
end LM

set_option Elab.async false
set_option linter.all false
set_option maxRecDepth 100000
set_option maxHeartbeats 4000000
namespace LM
open PySem PySem.Spec PyProof.Rows L2
open LamX (CodeO TabS TabB LamS lamEnv lamCx)
/-- a lambda of the text, and what its body reads as -/
structure LamD where
  ps : Arguments
  b : Expr
  sc : Scope
  t : XK → TE
/-- what catches -/
def Ech (K : PySem.W.Frag) (CS : Addr) (ret : Str) (Q : VK) : XK := fun cls _ H' => ∃ b, PySem.W.exmOne K cls (.ref CS) = some b ∧ (b = true → Q (.str ret) H') ∧ (b = false → False)
/-- told(a lambda): σ0 the slots of the lambda's def -/
def tTold (K : PySem.W.Frag) (CS : Addr) (ret q : Str) (cells : List (Str × Addr)) (Ls : List LamD) (σ0 : L2.St) (te : TE) : TE := fun σ H Q => tCons te tNil σ H fun vs H1 => ∃ f c' ld, ld ∈ Ls ∧ vs = [.ref f] ∧ H1 f = some (FnO f q ld.ps ld.b ld.sc (cloFrom cells ld.sc.names []) c') ∧ H1 c' = some (CodeO c' q) ∧ ld.t (Ech K CS ret Q) σ0 H1 Q
/-- what is asked of each lambda -/
structure LamOk (X : Cx) (k : Nat) (ld : LamD) : Prop where
  ls : LamS X.env.scope ld.sc
  bind : ∀ (q : Str) (cl : List (Str × Addr)) (pm cv ctv : Value), bindArgs (PySem.W.kla_fn "<lambda>" q ld.ps ld.b ld.sc cl pm cv ctv) ⟨[], []⟩ = pure []
  body : ∀ (A : Around) (outer : List PySem.Env) (s : Shared) (H : Hp) (E : XK) (f c' : Addr), Room k (A.deeper (lamEnv X ld.sc s.heap.objs.size f c')) → PE (lamCx X A outer s H E ld.sc f c') ld.b (ld.t E)
/-- the def told, as it stands: try: return what() / except C: return ret -/
structure ToldOk (X : Cx) (x a e ret : Str) (g CS : Addr) (Ng : List Str) (sg : Scope) (cdv : Value) : Prop where
  mgx : X.mg x = some (.ref g)
  kp : PySem.W.keepIn X.K (.ref g) = true
  run : ∃ (pg : Arguments) (bg : List Stmt) (dV kV doc pm ct oc : Value) (an od : Option Addr) (osl : Array (Option Value)) (j : Nat) (p1 p2 p3 p4 p5 p6 p7 p8 : Pos),
    X.K.lookup g = some ⟨oc, od, .func (PySem.W.fnOf x x pg bg sg dV kV doc pm an cdv ct), osl⟩ ∧ L2.Binds X.K (PySem.W.fnOf x x pg bg sg dV kV doc pm an cdv ct) [a] [] ∧
    bg = [.Try [.Return (some (.Call (.Name a p1) [] [] p2)) p3] [.ExceptHandler (some (.Name e p4)) none [.Return (some (.Constant (.str ret) j p5)) p6] p7] [] [] p8]
  code : PySem.W.codeIn X.K cdv x = true
  sc : FnScope Ng [a] sg
  n0 : Ng[0]? = some a
  vis : Vis sg a
  eg : sg.names.lookup e = some .globalImplicit
  em : X.mg e = some (.ref CS)
  st : ∀ f : Addr, (L2.start Ng [V.ref f])[0]? = some (some (V.ref f))
  de : (e == ("__debug__" : Str)) = false
  da : (a == ("__debug__" : Str)) = false
  ca : (a == ("__classdict__" : Str)) = false
/-- the call at a state: X the lambdas' def, Y the context that calls (X itself, or a block of it) -/
theorem told_run {X Y : Cx} {x a e ret : Str} {g CS : Addr} {Ng : List Str} {sg : Scope} {cdv : Value} {k : Nat} {Ls : List LamD} {σ0 : L2.St} (hY : Y.prog = X.prog ∧ Y.w = X.w ∧ Y.K = X.K ∧ Y.mg = X.mg ∧ Y.base = X.base ∧ Y.A = X.A ∧ Y.stack = X.stack)
    (T : ToldOk X x a e ret g CS Ng sg cdv) (hr : Room (k + 2) X.A) (hL : ∀ ld ∈ Ls, LamOk X k ld) {pins : List (Addr × Obj)} {σ : L2.St} {H : Hp} {s : Shared} {us : List Value} {Q : VK} (I : Inv Y pins σ H s) (C : Cells X σ0 s.heap H) {f c' : Addr} {ld : LamD} (hld : ld ∈ Ls) (hus : us = [.ref f])
    (hf : H f = some (FnO f (X.env.qual ++ "<lambda>") ld.ps ld.b ld.sc (cloFrom X.env.cells ld.sc.names []) c')) (hc : H c' = some (CodeO c' (X.env.qual ++ "<lambda>"))) (ht : ld.t (Ech X.K CS ret Q) σ0 H Q) :
    wpAny (model Y.prog Y.w) Y.A (call (.ref g) us) (EP Y pins σ Q) Y.xe s := by
  obtain ⟨y1, y2, y3, y4, y5, y6, y7⟩ := hY
  obtain ⟨pg, bg, dV, kV, doc, pm, ct, oc, an, od, osl, j, p1, p2, p3, p4, p5, p6, p7, p8, lk, hb, rfl⟩ := T.run
  subst hus
  have e0 : Env0 X.prog X.w X.K X.mg X.base X.A X.stack s H := by
    have := I.env0
    rw [y1, y2, y3, y4, y5, y6, y7] at this
    exact this
  have kin : X.K.In s.heap := by rw [← y3]; exact I.kIn
  have O := hL ld hld
  have rc : codeAny (model X.prog X.w) X.A (.call (.ref g) ⟨[.ref f], []⟩) (CR C8.CX0 X.stack X.prog X.w H s Q C8.E0) s := by
    refine LamX.run_ofS (N := Ng) (ps := [a]) (us := [.ref f]) (vs := [.ref f]) lk T.code T.sc hr e0 (hb s [.ref f] kin rfl) (.cons rfl .nil) rfl fun hr' => ?_
    obtain ⟨t', h1, h2⟩ := LamX.told_gives (X := X) (x := x) (sg := sg) (g := g) (cdg := cdv) (q := X.env.qual ++ "<lambda>") (j := j) (p3 := p3) (p5 := p5) (p6 := p6) (p7 := p7) (p8 := p8) T.eg T.em T.de T.st f c' s H Q (fun E HZ Q => HZ f = some (FnO f (X.env.qual ++ "<lambda>") ld.ps ld.b ld.sc (cloFrom X.env.cells ld.sc.names []) c') ∧ ld.t E σ0 HZ Q)
      (fun W pn xe E q1 q2 tk hW => by
        have := pe_what (i := 0) (p1 := q1) (p2 := q2) C O.ls rfl (fun pm ctv => O.bind _ _ _ _ _) tk hW hr' (fun A outer s H hr2 => O.body A outer s H E f c' hr2) T.n0 T.vis T.da T.ca
        exact ⟨fun pinsZ sZ σZ HZ QZ IZ hh => this.run pinsZ sZ σZ HZ QZ IZ ⟨hh.1, hh.2.2.1, hh.2.1, hh.2.2.2⟩⟩) hc ⟨hf, ht⟩
    exact ⟨t', h1.nox, h2⟩
  rw [y1, y2, y6]
  refine wpAny_call (codeAny_mono rc fun r s2 hq => ?_)
  cases r with
  | error e => exact (show False from hq).elim
  | ok fl =>
    cases fl with
    | ret u =>
      have hq' : CE X.stack X.prog X.w H s Q u s2 := hq
      rw [← y1, ← y2, ← y7] at hq'
      exact I.after hq'
    | next | brk | cont => exact False.elim hq
/-- told(e) -/
theorem pe_told {X Y : Cx} {x a e ret : Str} {g CS : Addr} {Ng : List Str} {sg : Scope} {cdv : Value} {k : Nat} {Ls : List LamD} {σ0 : L2.St → L2.St} {e0 : Expr} {te : TE} {p pos : Pos} (hY : Y.prog = X.prog ∧ Y.w = X.w ∧ Y.K = X.K ∧ Y.mg = X.mg ∧ Y.base = X.base ∧ Y.A = X.A ∧ Y.stack = X.stack)
    (T : ToldOk X x a e ret g CS Ng sg cdv) (hr : Room (k + 2) X.A) (hL : ∀ ld ∈ Ls, LamOk X k ld) (hC : ∀ pins σ H s, Inv Y pins σ H s → Cells X (σ0 σ) s.heap H) (hg : Gl Y x) (he : PE Y e0 te) (hdb : (x == ("__debug__" : Str)) = false := by decide)
    (hs : starEach [e0] Y.env = (false, eval e0 Y.env) :: starEach [] Y.env := by rfl) : PE Y (.Call (.Name x p) [e0] [] pos) (fun σ H Q => tTold X.K CS ret (X.env.qual ++ "<lambda>") X.env.cells Ls (σ0 σ) te σ H Q) := by
  refine ⟨fun pins s σ H Q I h => ?_⟩
  refine wpAny_Call_Name_kw (ld_glob I hg (by rw [hY.2.2.2.1]; exact T.mgx) ?_ hdb)
  refine PySem.W.callWith_K (h₀ := Y.base) I.ok.mod.kin (by rw [hY.2.2.1]; exact T.kp) (thn ((pa_cons he pa_nil hs).run pos pins s σ H _ I h) fun us s1 ⟨vs, H1, I1, r, q⟩ => ⟨I1.kIn, ?_⟩) hs (by rfl)
  obtain ⟨f, c', ld, hld, hv, hf, hc, ht⟩ := q
  subst hv
  cases r with
  | cons r1 r2 =>
    cases r2
    obtain rfl := r1
    exact told_run hY T hr hL I1 (hC _ _ _ _ I1) hld rfl hf hc ht
end LM

set_option Elab.async false
set_option linter.all false
set_option maxRecDepth 100000
set_option maxHeartbeats 4000000
namespace LM
open PySem PySem.Spec PyProof.Rows L2
/-- a block of X that starts at t with what its def knew there -/
structure Blk (X : Cx) (σ0 : L2.St) (t : Shared) (H : Hp) (fp : List Addr) : Prop where
  ex : ∃ pins, Inv X pins σ0 H t ∧ ∀ b ∈ fp, FpOk X pins H b
/-- in a block the def's cells are known -/
theorem Blk.cells {X : Cx} {σ0 σ : L2.St} {t s : Shared} {H H' : Hp} {fp : List Addr} {scope : Scope} {ce : PySem.Env} {pins : List (Addr × Obj)} (B : Blk X σ0 t H fp) (I : Inv (X.blk t H scope ce fp) pins σ H' s) : Cells X σ0 s.heap H' := by
  obtain ⟨ps, I0, hf⟩ := B.ex
  refine (Cells.of I0).un (fs := frs X.stack) (ex := fp) I.base fun y c e hc => ?_
  exact (hf c hc).2.2.2.2.1 y c e rfl
section
variable {X : Cx} {pins : List (Addr × Obj)} {σ : L2.St} {Q : VK} {elt tg iter : Expr} {ifs : List Expr} {scope : Scope} {vs : List Nat} {pos : Pos} {g : TG} {tt : TT} {te : TE} {Qf : Value → Shared → Prop} {H3 : Hp} {t3 t4 : Shared} {ce : PySem.Env} {fp : List Addr} {tn : Nat → Heap → Prop} {J : It} {it D : Addr} {W : Nat → Nat → Hp → Prop} {m0 : Nat}
/-- the block's loop -/
theorem lc_loop (hc : X.calm = true) (I3 : Inv X pins σ H3 t3) (f3 : ∀ b ∈ fp, FpOk X pins H3 b) (T : Turn X.prog X.w X.K tg J fp it tn) (I4 : Inv (X.blk t3 H3 scope ce fp) [] (wipe σ vs) H3 t4) (st4 : tn 0 t4.heap) (cL : ce.locals = t3.heap.objs.size)
    (pg : PG (X.blk t3 H3 scope ce fp) tg g) (pt : PTs (X.blk t3 H3 scope ce fp) ifs tt) (pe : PE (X.blk t3 H3 scope ce fp) elt te) (w0 : W 0 m0 H3)
    (turn : ∀ i m H, W i m H → (J.stop i H ∧ Q (.ref D) H) ∨ (J.go i H ∧ ∃ Nx : Hp → Prop, (∀ H', Nx H' → ∃ m', m' < m ∧ W (i + 1) m' H') ∧ ∀ x H', J.yld i H x H' → g x (wipe σ vs) H' fun σ2 H2 => wipe σ2 vs = wipe σ vs ∧ tt σ2 H2 fun b H3 =>
      if b = true then te σ2 H3 fun y H4 => ∃ acc, H4 D = some (.lst acc) ∧ acc.length < sizeLine ∧ Nx (upd H4 D (.lst (acc ++ [y]))) else Nx H3))
    (fin : ∀ C s' m H', Inv X pins σ H' s' → Q (.ref D) H' → s'.heap.Ns C m → FpOk X pins H' C → C = t3.heap.objs.size → compPost (model X.prog X.w) X.A X.xe none Qf (.ref D) C (.ok .next) s') :
    codeAny (model X.prog X.w) X.A (.compLoop (.ListComp elt [⟨tg, iter, ifs, 0⟩] scope pos) 0 (.ref it) (.ref D) ce) (compPost (model X.prog X.w) X.A X.xe none Qf (.ref D) t3.heap.objs.size) t4 := by
  obtain ⟨Y, hY⟩ : ∃ Y, Y = X.blk t3 H3 scope ce fp := ⟨_, rfl⟩
  have own : ∀ {σ' : L2.St} {H' : Hp} {s' : Shared}, Inv (X.blk t3 H3 scope ce fp) [] σ' H' s' → (∀ b ∈ fp, H' b = none) → ∀ b ∈ fp, FpOk (X.blk t3 H3 scope ce fp) [] H' b := fun {σ' H' s'} K n b hb => by
    have e := K.ok.exf b hb
    exact ⟨n b hb, e.1, K.ok.exfs b hb, .inl hb, fun x c z => e.2 x c z, fun p hp => by cases hp⟩
  refine compLoop_any (fun n s' => ∃ i H', Inv (X.blk t3 H3 scope ce fp) [] (wipe σ vs) H' s' ∧ tn i s'.heap ∧ (∀ b ∈ fp, H' b = none) ∧ W i n H') (fun n s5 hh => ?_) m0 ⟨0, H3, I4, st4, fun b hb => (f3 b hb).1, w0⟩
  obtain ⟨i, H5, I5, st5, n5, w5⟩ := hh
  rcases turn i n H5 w5 with ⟨stop, qq⟩ | ⟨go, Nx, hNx, step⟩
  · refine thnF (T.done (X.blk t3 H3 scope ce fp) rfl rfl rfl hc i [] s5 _ H5 (fun _ _ => False) I5 (own I5 n5) st5 stop) fun r s6 hr => ?_
    obtain ⟨rfl, I6⟩ := hr
    have back : Inv X pins σ H5 s6 := I3.call' (ch := fp) I6.os I6.base I6.hok I6.bare fun b hb => by
      obtain ⟨_, a2, _, a4, a5, a6⟩ := f3 b hb
      exact ⟨a4, a2, a5, a6⟩
    obtain ⟨m, hn, _⟩ := I6.loc
    have hn : s6.heap.Ns ce.locals m := hn
    have nC : H5 ce.locals = none := I6.free
    rw [cL] at hn nC
    exact fin _ s6 m H5 back qq hn (I3.fpOk (Nat.le_refl _) nC) rfl
  · refine thnF (T.item (X.blk t3 H3 scope ce fp) rfl rfl rfl hc i [] s5 _ H5 (fun _ _ => False) I5 (own I5 n5) st5 go) fun r s6 hr => ?_
    obtain ⟨u, rfl, h6⟩ := hr
    refine thnF h6 fun _ s7 h7 => ?_
    obtain ⟨x, H7, I7, r7, y7, st7, n7⟩ := h7
    refine thnF (pg.run _ s7 _ H7 x u _ (I7.pinned (own I7 n7) (T.obj _ _ st7)) r7 (step x H7 y7)) fun _ s8 h8 => ?_
    obtain ⟨σ8, H8, I8, hw, q8⟩ := h8
    have len : (wipe σ vs).length = σ8.length := by rw [← hw, wipe_length]
    -- a turn's end
    have next : ∀ {s' : Shared} {H' : Hp}, Inv (X.blk t3 H3 scope ce fp) ([] ++ pinsAt fp s7.heap) σ8 H' s' → Nx H' → ∃ m, m < n ∧ ∃ i H', Inv (X.blk t3 H3 scope ce fp) [] (wipe σ vs) H' s' ∧ tn i s'.heap ∧ (∀ b ∈ fp, H' b = none) ∧ W i m H' := fun {s' H'} K nx => by
      obtain ⟨m', lt, w'⟩ := hNx H' nx
      have stay : ∀ b ∈ fp, ∀ o, s7.heap.get? b = some o → s'.heap.get? b = some o ∧ H' b = none := fun b hb o e => by
        have z := K.pin (b, o) (by simp only [List.mem_append]; exact .inr (.inr (mem_pinsAt hb e)))
        exact ⟨z.1, z.2.1⟩
      refine ⟨m', lt, i + 1, H', (K.unpinned (pins := [])).weak len fun j v e => ?_, T.keep _ _ _ st7 fun b hb o e => (stay b hb o e).1, fun b hb => ?_, w'⟩
      · rw [← hw] at e
        exact (wipe_some e).1
      · obtain ⟨o, e, _⟩ := T.obj _ _ st7 b hb
        exact (stay b hb o e).2
    refine thnF (pt.run _ s8 σ8 H8 _ I8 q8) fun b s9 h9 => ?_
    obtain ⟨H9, I9, q9⟩ := h9
    cases b with
    | false => exact next I9 q9
    | true =>
      refine thnF (pe.run _ s9 σ8 H9 _ I9 q9) fun z s10 h10 => ?_
      obtain ⟨yv, H10, I10, r10, acc, hD, hz, nx⟩ := h10
      exact app_ok (X := X.blk t3 H3 scope ce fp) I10 hD hz r10 fun s11 I11 => next I11 nx
end
/-- a list comprehension whose turns may lean on what the def knew at its start -/
theorem pe_lcK {X : Cx} {elt tg iter : Expr} {ifs : List Expr} {scope : Scope} {own : List (Str × Nat)} {pos : Pos} {wi : TI} {g : TG} {tt : L2.St → TT} {te : L2.St → TE} (hc : X.calm = true) (hN : X.N.Nodup) (hi : PI X tg iter wi) (ok : BlkOk X.N X.env.scope scope own)
    (hg : ∀ (t : Shared) (H : Hp) (C : Addr) (cl : List (Str × Addr)) (fp : List Addr), PG (X.blk t H scope (compEnvC scope cl C X.env) fp) tg g)
    (ht : ∀ (σ : L2.St) (t : Shared) (H : Hp) (C : Addr) (cl : List (Str × Addr)) (fp : List Addr), Blk X σ t H fp → PTs (X.blk t H scope (compEnvC scope cl C X.env) fp) ifs (tt σ))
    (he : ∀ (σ : L2.St) (t : Shared) (H : Hp) (C : Addr) (cl : List (Str × Addr)) (fp : List Addr), Blk X σ t H fp → PE (X.blk t H scope (compEnvC scope cl C X.env) fp) elt (te σ)) (hs : ∀ x, foldedSetIterable iter X.env x = pure x := by intro _; rfl) :
    PE X (.ListComp elt [⟨tg, iter, ifs, 0⟩] scope pos) (fun σ H Q => tLc wi g (tt σ) (te σ) (own.map (·.2)) σ H Q) := by
  refine ⟨fun pins s σ H Q I h => ?_⟩
  rw [eval_ListComp]
  have has : ∀ y ∈ scope.names, y.2 = .free → ∃ c, X.env.cells.lookup y.1 = some c := fun y hy e => (ok.free y hy e).elim (fun k => I.ok.has _ (.inl k)) fun k => I.ok.has _ (.inr k)
  refine wpAny_comprehension_free (use := none) rfl hs (closure_ok has) ok.kind (fun y hy e => by rw [ok.uniq y hy, e]) (thn (hi.run pins s σ H _ I h) fun _ _ a => thn a fun _ s2 b => ?_)
  obtain ⟨it, fp, tn, J, H2, rfl, I2, T, st2, f2, q⟩ := b
  refine wpAny_newObj_type (newEnv_comp ?_) (Nat.zero_le _)
  have nD : H2 s2.heap.objs.size = none := I2.hok.fresh (Nat.le_refl _)
  obtain ⟨W, ⟨m0, w0⟩, turn⟩ := q _ nD
  have I3 : Inv X pins σ (upd H2 s2.heap.objs.size (.lst [])) { s2 with heap := s2.heap.push { cls := .type "list", data := .seq ([] : List Value).toArray } } :=
    I2.laid (t' := s2.toks) (fun b o e => Heap.get?_push_of_some _ e) (Nat.le_refl _) ⟨Nat.zero_le _, [], 0, .nil, Heap.get?_push_size _ rfl⟩
  have small : ∀ b ∈ fp, b < s2.heap.objs.size := fun b hb => let ⟨o, e, _⟩ := T.obj _ _ st2 b hb; Heap.lt_size e
  have f3 : ∀ b ∈ fp, FpOk X pins (upd H2 s2.heap.objs.size (.lst [])) b := fun b hb => ⟨by rw [upd_ne (Nat.ne_of_lt (small b hb))]; exact (f2 b hb).1, (f2 b hb).2⟩
  have z3 : ∀ b ∈ fp, b < (s2.heap.push { cls := .type "list", data := .seq ([] : List Value).toArray }).objs.size := fun b hb => by
    rw [Heap.size_push]
    exact Nat.lt_succ_of_lt (small b hb)
  have B : Blk X σ _ _ fp := ⟨pins, I3, f3⟩
  have st4 : tn 0 (pushCells ((s2.heap.push { cls := .type "list", data := .seq ([] : List Value).toArray }).push { cls := .type "dict", data := .dict #[] }) scope.names) :=
    T.keep _ _ _ st2 fun b _ o e => pushCells_keeps _ _ _ _ (Heap.get?_push_of_some _ (Heap.get?_push_of_some _ e))
  have loop := lc_loop (iter := iter) (Q := Q) (it := it) (D := s2.heap.objs.size) (pos := pos) (Qf := EP X pins σ Q) hc I3 f3 T (block_start I3 ok hN fun b hb => ⟨f3 b hb, z3 b hb⟩) st4 rfl (hg _ _ _ _ fp) (ht σ _ _ _ _ fp B) (he σ _ _ _ _ fp B) w0 turn fun C s' m H' I' q hn f _ => ⟨m, hn, fun h'' sb => by
    obtain ⟨f0, f1, f2, f3, f4, f5⟩ := f
    exact ⟨.ref s2.heap.objs.size, H', I'.turned (t' := s'.toks) (fun b o hb e => (sb.2 b hb).trans e) f0 f1 f3 f4 f5, rfl, q⟩⟩
  exact codeAny_compStart_list loop (T.self X.A 0 _ _ _ st4 loop)
end LM

set_option Elab.async false
set_option linter.all false
set_option maxRecDepth 100000
set_option maxHeartbeats 4000000
namespace LM
open PySem PySem.Spec PyProof.Rows L2 TP
open LamX (CodeO TabS TabB LamS lamEnv lamCx)
/-! ### the text by places -/
def stAt (ss : List Stmt) (i : Nat) : Stmt := ss.getD i (.Pass ⟨0, 0, 0, 0⟩)
def forBody : Stmt → List Stmt
  | .For _ _ b _ _ => b
  | _ => []
def ifBody : Stmt → List Stmt
  | .If _ b _ _ => b
  | _ => []
def valOf : Stmt → Expr
  | .Assign _ e _ => e
  | .Return (some e) _ => e
  | .Expr e _ => e
  | .If c _ _ _ => c
  | _ => .Constant .none 0 ⟨0, 0, 0, 0⟩
def eltAt : Expr → Nat → Expr
  | .List es _, i => es.getD i (.Constant .none 0 ⟨0, 0, 0, 0⟩)
  | .Call _ es _ _, i => es.getD i (.Constant .none 0 ⟨0, 0, 0, 0⟩)
  | .Compare a _ bs _, i => (a :: bs).getD i (.Constant .none 0 ⟨0, 0, 0, 0⟩)
  | .BoolOp _ es _, i => es.getD i (.Constant .none 0 ⟨0, 0, 0, 0⟩)
  | _, _ => .Constant .none 0 ⟨0, 0, 0, 0⟩
def lamD (e : Expr) (t : XK → TE) : LamD := match e with
  | .Lambda ps b sc _ => ⟨ps, b, sc, t⟩
  | _ => ⟨⟨[], [], none, [], [], none, []⟩, .Constant .none 0 ⟨0, 0, 0, 0⟩, ⟨.function, [], false, false, []⟩, t⟩
/-! ### what stands -/
/-- the table of the lambdas' codes, one's own, beside a value -/
def oTab (P : Addr) (q : Str) (v : V) : Ow := ⟨fun h H ps u => u = v ∧ ps = [P] ∧ ∃ tb : Array Value, H P = some (.tbl tb) ∧ TriplesOk tb.toList ∧ ∀ pos cv, codeAmong pos tb.toList = some cv → ∃ c, cv = .ref c ∧ h c = some (CodeO c q), fun k e ⟨e1, e2, tb, e3, e4, e5⟩ =>
  ⟨e1, e2, tb, by rw [e P (by rw [e2]; exact List.mem_singleton.mpr rfl)]; exact e3, e4, fun pos cv z => by
    obtain ⟨c, a, b⟩ := e5 pos cv z
    exact ⟨c, a, k _ _ b⟩⟩⟩
/-- the n-th of these lambdas -/
def rFn (q : Str) (cells : List (Str × Addr)) (Ls : List LamD) : Rp Nat := ⟨fun h v n => ∃ ld f c', Ls[n]? = some ld ∧ v = .ref f ∧ h f = some (FnO f q ld.ps ld.b ld.sc (cloFrom cells ld.sc.names []) c') ∧ h c' = some (CodeO c' q), fun k ⟨ld, f, c', a, b, c, d⟩ => ⟨ld, f, c', a, b, k _ _ c, k _ _ d⟩⟩
section
variable {G M own : List Addr} {H H' : Hp} {σ : L2.St} {Γ Γ' Γ1 Γ2 : TP.Ctx} {α : Type} {R : Rp α} {a : α} {K : PySem.W.Frag} {q ret : Str} {cells : List (Str × Addr)} {Ls : List LamD} {P CS : Addr} {te : TE} {n : Nat} {ld : LamD}
theorem e_lamV {i : Nat} {v : V} {ps : Arguments} {bd : Expr} {sc : Scope} {t : XK → TE} (hx : Γ[i]? = some (.own (oTab P q v))) (hn : Ls[n]? = some ⟨ps, bd, sc, t⟩) : TP.E G Γ (tLamV P q ps bd sc (cloFrom cells sc.names [])) Γ (rFn q cells Ls) n := fun M own σ H k e Q hQ => by
  obtain ⟨u, p1, pi, p2, f⟩ := e.env.focus hx
  obtain ⟨rfl, rfl, tb, hP, ht, hco⟩ := f.own
  have hPo : P ∈ own := f.inn.1 P (List.mem_singleton.mpr rfl)
  have hPM := e.sub P hPo
  have hPG := e.out P hPo
  refine ⟨⟨tb, hP, ht, fun pos cv z => ?_⟩, fun H1 fa c' hbut hnext hf hc => ?_⟩
  · obtain ⟨c, a, b⟩ := hco pos cv z
    exact ⟨c, a, (hid_some b).2⟩
  obtain ⟨tb0, tb1, t1, t2, t3, t4, t5⟩ := hnext
  rw [hP] at t1
  cases t1
  obtain ⟨H2, hH2⟩ : ∃ H2, H2 = upd H1 fa (FnO fa q ps bd sc (cloFrom cells sc.names []) c') := ⟨_, rfl⟩
  rw [← hH2]
  have keep : ∀ b o, b ≠ P → H b = some o → H2 b = some o := fun b o hb e => by
    rw [hH2, upd_ne (ne_of_none (hbut b o hb e) hf)]; exact hbut b o hb e
  have hfP : P ≠ fa := ne_of_none t2 hf
  have atP : H2 P = some (.tbl tb1) := by rw [hH2, upd_ne hfP]; exact t2
  have hfM : fa ∉ M := fun z => by
    by_cases w : fa = P
    · exact hfP w.symm
    · cases e : H fa with
      | none => exact k.al fa z e
      | some o => rw [hbut fa o w e] at hf; cases hf
  have hcM : c' ∉ M := fun z => by
    rcases t5 with w | ⟨p', w⟩
    · exact k.al c' z w
    · obtain ⟨c, a, b⟩ := hco p' _ w
      cases a
      exact (hid_some b).1 z
  have hcf : c' ≠ fa := fun z => by rw [z, hf] at hc; cases hc
  have atc : H2 c' = some (CodeO c' q) := by rw [hH2, upd_ne hcf]; exact hc
  have sub : Sub (hid M H) (hid M H2) := fun b o hb => by
    obtain ⟨w1, w2⟩ := hid_some hb
    exact hid_of w1 (keep b o (fun z => w1 (by rw [z]; exact hPM)) w2)
  have ok : Ok G M H2 := by
    refine ⟨k.sub, fun m hm z => ?_, fun P' hP' => ?_⟩
    · by_cases w : m = P
      · rw [w, atP] at z; cases z
      · cases e : H m with
        | none => exact k.al m hm e
        | some o => rw [keep m o w e] at z; cases z
    · obtain ⟨ps', a, b⟩ := k.wf P' hP'
      exact ⟨ps', keep P' _ (fun z => hPG (by rw [← z]; exact hP')) a, b⟩
  refine hQ _ H2 (fun b o hb eb => keep b o (fun z => hb (by rw [z]; exact List.mem_append_right _ hPo)) eb) ok ⟨e.nd, e.sub, e.out, ?_⟩ ⟨_, fa, c', hn, rfl, hid_of hfM (by rw [hH2, upd_same]), hid_of hcM atc⟩
  have hi : i < Γ.length := (List.getElem?_eq_some_iff.mp hx).1
  have put := f.put (hid M H2) H2 (oTab P q u) sub (fun p hp => by
    have hpo := f.inn.2 p hp
    obtain ⟨o, ho⟩ := e.al k hpo
    rw [ho]
    exact keep p o (fun z => f.apart e.nd p hp (by rw [z]; exact List.mem_singleton.mpr rfl)) ho) ⟨rfl, rfl, tb1, atP, t3, fun pos cv z => by
      rcases t4 pos cv z with ⟨p', w⟩ | w
      · obtain ⟨c, a, b⟩ := hco p' cv w
        exact ⟨c, a, sub _ _ b⟩
      · exact ⟨c', w, hid_of hcM atc⟩⟩
  have eΓ : Γ.set i (.own (oTab P q u)) = Γ := by
    apply List.ext_getElem?
    intro j
    rw [List.getElem?_set]
    by_cases hj : i = j
    · subst hj; rw [if_pos rfl, if_pos hi, hx]
    · rw [if_neg hj]
  rw [eΓ] at put
  exact put
/-- told(a lambda) that answers -/
theorem e_toldOk (h : TP.E G Γ te Γ1 (rFn q cells Ls) n) (hn : Ls[n]? = some ld) (hb : ∀ W, TP.E G Γ1 (ld.t W) Γ2 R a) : TP.E G Γ (fun σ H Q => tTold K CS ret q cells Ls σ te σ H Q) Γ2 (TP.rSum R rStr) (.inl a) := fun M own σ H k e Q hQ => h M own σ H k e _ fun v H1 x1 k1 e1 r1 => by
  obtain ⟨ld', f, c', h1, rfl, h3, h4⟩ := r1
  rw [hn] at h1
  cases h1
  exact ⟨f, c', ld, List.mem_of_getElem? hn, rfl, (hid_some h3).2, (hid_some h4).2, hb _ M own σ H1 k1 e1 _ fun w H2 x2 k2 e2 r2 => hQ w H2 (x1.trans x2) k2 e2 r2⟩
/-- .. that raises -/
theorem e_toldEr {c : Addr} (h : TP.E G Γ te Γ1 (rFn q cells Ls) n) (hn : Ls[n]? = some ld) (hb : ∀ W, EX G Γ1 (ld.t W) Γ2 W c) (hm : PySem.W.exmOne K (.ref c) (.ref CS) = some true) : TP.E G Γ (fun σ H Q => tTold K CS ret q cells Ls σ te σ H Q) Γ2 (TP.rSum R rStr) (.inr ret) := fun M own σ H k e Q hQ => h M own σ H k e _ fun v H1 x1 k1 e1 r1 => by
  obtain ⟨ld', f, c', h1, rfl, h3, h4⟩ := r1
  rw [hn] at h1
  cases h1
  exact ⟨f, c', ld, List.mem_of_getElem? hn, rfl, (hid_some h3).2, (hid_some h4).2, hb _ M own σ H1 k1 e1 _ fun H2 x2 k2 e2 => ⟨true, hm, fun _ => hQ _ H2 (x1.trans x2) k2 e2 rfl, fun z => by cases z⟩⟩
/-- [1 for f in bad if told(f) != ret], each of them raises -/
theorem e_bads {i j : Nat} {ns : List Nat} (hi : Γ[i]? = some (.val (TP.rList (rFn q cells Ls)) ns)) (hj : NoAt Γ j) (hjl : j < Γ.length) (hl : ns.length ≤ 100000) (hall : ∀ n ∈ ns, ∃ ld c, Ls[n]? = some ld ∧ (∀ W, EX G Γ (ld.t W) Γ W c) ∧ PySem.W.exmOne K (.ref c) (.ref CS) = some true) :
    TP.E G Γ (fun σ H Q => tLc (iList K (tVar i)) (gName j) (tTest (tOp rNe (fun σ2 H Q => tTold K CS ret q cells Ls σ (tVar j) σ2 H Q) (tC (.str ret)))) (tC (.int 1)) [j] σ H Q) Γ (TP.rList rInt) [] := fun M own σ H k e Q hQ => by
  have ES := src_list (K := K) (e_var (G := G) hi)
  refine ES M own σ H k e _ fun J H1 gp x1 k1 e1 w1 g1 D hD => ?_
  obtain ⟨Gd, Y, wk, hG, hY⟩ := w1.ex
  have hM := k1.fresh hD
  have hDG : D ∉ G := fun z => by
    obtain ⟨ps, e', _⟩ := k1.wf D z
    rw [hD] at e'; cases e'
  have hDo : D ∉ G ++ own := fun z => (List.mem_append.mp z).elim hDG fun z => hM (e1.sub D z)
  refine lc_it wk (fun _ H => H D = some (.lst []) ∧ Ok G (D :: M) H ∧ TP.Env G (D :: M) H own σ Γ ∧ gp.p (hid (D :: M) H) ∧ Ex (G ++ own) H1 H) ⟨upd_same, k1.grow hD, e1.grow k1 hD, gp.mono (hid_grow hD) g1, Ex.new hD⟩ (fun _ H _ ⟨_, _, _, g, _⟩ => hG _ _ hid_sub g) ?_ ?_
  · rintro m x H2 H3 hm ⟨hacc, k2, e2, g2, x2⟩ hy
    obtain ⟨x3, k3, n, hn, rx⟩ := hY m x (D :: M) H2 H3 hm k2 g2 hy
    have e3 := e2.ext k2 x3
    obtain ⟨ld, c, h1, h2, h3⟩ := hall n (List.mem_of_getElem? hn)
    obtain ⟨ld', f, c', h1', rfl, hf, hc⟩ := rx
    rw [h1] at h1'
    cases h1'
    refine ⟨?_, ?_⟩
    · show wipe ((wipe σ [j]).set j (some (.ref f))) [j] = wipe σ [j]
      simp [wipe]
    · show tTest _ ((wipe σ [j]).set j (some (.ref f))) H3 _
      have hlen := e3.env.length
      have hjl : j < σ.length := by rw [hlen]; exact hjl
      have at_ : ((wipe σ [j]).set j (some (V.ref f)))[j]? = some (some (.ref f)) := by
        simp [wipe, hjl]
      refine ⟨.ref f, at_, f, c', ld, List.mem_of_getElem? h1, rfl, (hid_some hf).2, (hid_some hc).2, ?_⟩
      refine h2 _ (D :: M) own σ H3 k3 e3 _ fun H4 x4 k4 e4 => ⟨true, h3, fun _ => ?_, fun z => by cases z⟩
      refine ⟨rfl, false, by simp, ?_⟩
      show H4 D = some (.lst []) ∧ Ok G (D :: M) H4 ∧ TP.Env G (D :: M) H4 own σ Γ ∧ gp.p (hid (D :: M) H4) ∧ Ex (G ++ own) H1 H4
      have xx : Ex (G ++ own) H2 H4 := (x3.more fun b hb => List.mem_append_left _ hb).trans x4
      exact ⟨xx D _ hDo hacc, k4, e4, gp.mono (xx.hid (e2.allSub k2)) g2, x2.trans xx⟩
  · rintro H2 ⟨hacc, k2, e2, g2, x2⟩
    have sub : Sub (hid (D :: M) H2) (hid M H2) := hid_less fun b hb => List.mem_cons_of_mem _ hb
    have e2' : TP.Env G M H2 own σ Γ := ⟨e2.nd, fun p hp => (List.mem_cons.mp (e2.sub p hp)).elim (fun z => (hDo (by rw [← z]; exact List.mem_append_right _ hp)).elim) id, e2.out, e2.env.mono sub fun _ _ => rfl⟩
    exact hQ _ H2 (x1.trans x2) ⟨k1.sub, fun m hm => k2.al m (List.mem_cons_of_mem _ hm), k2.wf⟩ e2' ⟨D, [], rfl, hid_of hM hacc, .nil⟩
end
end LM

set_option Elab.async false
set_option linter.all false
set_option maxRecDepth 100000
set_option maxHeartbeats 4000000
namespace TP
open PySem PySem.Spec PyProof.Rows L2
section
variable {F : Fm} {gp : Gp} {G M own : List Addr} {H H' : Hp} {σ : L2.St} {Γ Γ' Γ0 Γ1 Γ2 Γ3 : Ctx} {ι α β γ : Type} {R : Rp α} {S : Rp β} {a : α} {b : β} {te ta tb : TE} {tt : TT} {t tr : TA} {D : Ends} {K : PySem.W.Frag} {g : TG} {wi : TI} {ws : List Nat} {xs : List α}
theorem e_pow {i j : Int} (ha : E G Γ ta Γ1 rInt i) (hb : E G Γ1 tb Γ2 rInt j) (hc : CPow i j) : E G Γ (tOp (rI CPow fun i j => .int (i ^ j.toNat)) ta tb) Γ2 rInt (i ^ j.toNat) := e_op ha hb (op_I (f := fun i j => i ^ j.toNat) hc fun _ => rfl)
/-- a list that may also be known, or frozen -/
def rSeq (K : PySem.W.Frag) (R : Rp α) : Rp (List α) := ⟨fun H v xs => ∃ p vs, v = .ref p ∧ SqL K H p vs ∧ All2 (R.rep H) vs xs, fun k ⟨p, vs, e, h, r⟩ => ⟨p, vs, e, by
  rcases h with (h | ⟨o, h⟩) | h
  · exact .inl (.inl (k _ _ h))
  · exact .inl (.inr ⟨o, k _ _ h⟩)
  · exact .inr h, r.imp fun _ _ => R.mono k⟩⟩
theorem sqL_sub {H H' : Hp} {p : Addr} {vs : List V} (k : Sub H H') (h : SqL K H p vs) : SqL K H' p vs := by
  rcases h with (h | ⟨o, h⟩) | h
  · exact .inl (.inl (k _ _ h))
  · exact .inl (.inr ⟨o, k _ _ h⟩)
  · exact .inr h
theorem All2.drop {F : α → β → Prop} : ∀ {as : List α} {bs : List β} (n : Nat), All2 F as bs → All2 F (as.drop n) (bs.drop n)
  | _, _, 0, h => h
  | _, _, n + 1, .nil => .nil
  | _, _, n + 1, .cons _ r => All2.drop n r
theorem All2.take {F : α → β → Prop} : ∀ {as : List α} {bs : List β} (n : Nat), All2 F as bs → All2 F (as.take n) (bs.take n)
  | _, _, 0, _ => .nil
  | _, _, n + 1, .nil => .nil
  | _, _, n + 1, .cons a r => .cons a (All2.take n r)
/-- xs[:n], 0 ≤ n -/
theorem e_take {n : Int} (ha : E G Γ ta Γ1 (rSeq K R) xs) (hb : E G Γ1 tb Γ2 rInt n) (hn : 0 ≤ n) : E G Γ (tSl (rSlL K) ta tNoPart (tPart tb)) Γ2 (rList R) (xs.take n.toNat) := fun M own σ H k e Q q => ha M own σ H k e _ fun v H1 x1 k1 e1 r1 => hb M own σ H1 k1 e1 _ fun u H2 x2 k2 e2 r2 => by
  have r1 := (rSeq K R).mono (x2.hid (e1.allSub k1)) r1
  obtain ⟨p, vs, rfl, hq, r⟩ := r1
  have r2 : u = V.int n := r2
  subst r2
  refine ⟨n, rfl, p, vs, rfl, sqL_sub hid_sub hq, fun l hl => ?_⟩
  have hM := k2.fresh hl
  have e3 : cutV vs none (some n) = vs.take n.toNat := by
    unfold cutV
    have h1 : HT.sIx vs.length 0 none = 0 := rfl
    have h2 : HT.sIx vs.length vs.length (some n) = min n.toNat vs.length := by
      unfold HT.sIx
      dsimp only
      split <;> omega
    rw [h1, h2, List.drop_zero, Nat.sub_zero]
    by_cases hle : n.toNat ≤ vs.length
    · rw [Nat.min_eq_left hle]
    · rw [Nat.min_eq_right (by omega), List.take_length, List.take_of_length_le (by omega)]
  rw [e3]
  exact q _ _ ((x1.trans x2).trans (Ex.new hl)) (k2.new hl) (e2.ext k2 (Ex.new hl)) ⟨l, _, rfl, hid_of hM upd_same, (r.take _).imp fun _ _ => R.mono (hid_new hM hl)⟩
end
end TP

set_option Elab.async false
set_option linter.all false
set_option maxRecDepth 100000
set_option maxHeartbeats 4000000
namespace TP
open PySem PySem.Spec PyProof.Rows L2
section
variable {F : Fm} {gp : Gp} {G M own : List Addr} {H H' : Hp} {σ : L2.St} {Γ Γ' Γ0 Γ1 Γ2 Γ3 : Ctx} {ι α β γ δ Dt : Type} {R : Rp α} {S : Rp β} {a : α} {b : β} {te ta tb : TE} {tt : TT} {t tr : TA} {D : Ends} {K : PySem.W.Frag} {g : TG} {wi : TI} {vs ws : List Nat} {xs : List α}
/-- a, b = .. -/
theorem s_par {i j : Nat} (h : EA F.G Γ t Γ1 [⟨R, a⟩, ⟨S, b⟩]) (hi : PlainAt Γ1 i) (hj : PlainAt (Γ1.set i (.val R a)) j) (k : KT F gp ((Γ1.set i (.val R a)).set j (.val S b)) D.nx) : KT F gp Γ (tPar i j t D) := fun M own σ H s e gg => h M own σ H s.ok e _ fun vs H1 x1 k1 e1 r1 => by
  cases r1 with
  | cons ha r => cases r with
    | cons hb r =>
      cases r
      refine ⟨_, _, rfl, k M own _ H1 (s.step x1 k1) ⟨e1.nd, e1.sub, e1.out, ?_⟩ (gp_step s e x1 gg)⟩
      exact (e1.env.set (R := R) ha hi).set (R := S) hb hj
/-- (x,) + three ints -/
theorem e_cat1 {ys : List Int} (ha : EA G Γ t Γ1 [⟨R, a⟩]) (hb : E G Γ1 tb Γ2 (rTup rInt) ys) (hl : ys.length = 3) : E G Γ (tOp (rCatT K) (tTup t) tb) Γ2 (rT4 R rInt rInt rInt) (a, ys.getD 0 0, ys.getD 1 0, ys.getD 2 0) := fun M own σ H k e Q q => ha M own σ H k e _ fun us H1 x1 k1 e1 r1 => by
  cases r1 with
  | @cons u _ _ _ r1 r =>
    cases r
    refine ⟨small_len (by simp), fun p hp => ?_⟩
    have hM := k1.fresh hp
    have x2 : Ex (G ++ own) H1 (upd H1 p (.tup [u])) := Ex.new hp
    refine hb M own σ _ (k1.new hp) (e1.ext k1 (Ex.new hp)) _ fun w H3 x3 k3 e3 r3 => ?_
    obtain ⟨p', vs, rfl, hv, rr⟩ := r3
    match ys, hl, vs, rr with
    | [y0, y1, y2], _, _, .cons r0 (.cons r1' (.cons r2 .nil)) =>
      have e2 := e1.ext k1 (Ex.new (N := G) (o := .tup [u]) hp)
      have k2 := k1.new (o := .tup [u]) hp
      have hp3 := x3.hid (e2.allSub k2) _ _ (hid_of hM upd_same)
      refine ⟨p, p', _, _, rfl, rfl, SqT.of (hid_some hp3).2, SqT.of (hid_some hv).2, by simp, small_len (by simp), (fun z => by simp at z), fun _ l hl => ?_⟩
      have hM3 := k3.fresh hl
      refine q _ _ (((x1.trans x2).trans x3).trans (Ex.new hl)) (k3.new hl) (e3.ext k3 (Ex.new hl)) ⟨l, _, _, _, _, rfl, hid_of hM3 upd_same, ?_, ?_, ?_, ?_⟩
      · exact R.mono (((hid_new hM hp).trans (x3.hid (e2.allSub k2))).trans (hid_new hM3 hl)) r1
      · exact r0
      · exact r1'
      · exact r2
def datT4 {T : Rp γ} {U : Rp δ} [DecidableEq α] [DecidableEq β] [DecidableEq γ] [DecidableEq δ] (D1 : Dat R) (D2 : Dat S) (D3 : Dat T) (D4 : Dat U) : Dat (rT4 R S T U) := ⟨fun x => .tuple [D1.d x.1, D2.d x.2.1, D3.d x.2.2.1, D4.d x.2.2.2], fun x => D1.ok x.1 ∧ D2.ok x.2.1 ∧ D3.ok x.2.2.1 ∧ D4.ok x.2.2.2, max D1.n (max D2.n (max D3.n D4.n)) + 1, fun K h H v x ⟨p, a, b, c, d, e, hp, ra, rb, rc, rd⟩ s => by subst e; exact .tup (SqT.of (s _ _ hp)) (.cons (D1.dp K _ _ _ _ ra s) (.cons (D2.dp K _ _ _ _ rb s) (.cons (D3.dp K _ _ _ _ rc s) (.cons (D4.dp K _ _ _ _ rd s) .nil)))), fun a b => by
  show (PyData.eqv _ _ && (PyData.eqv _ _ && (PyData.eqv _ _ && (PyData.eqv _ _ && true)))) = _
  obtain ⟨a1, a2, a3, a4⟩ := a
  obtain ⟨b1, b2, b3, b4⟩ := b
  rw [D1.eq, D2.eq, D3.eq, D4.eq, Bool.eq_iff_iff]; simp, fun x h => by
  obtain ⟨h1, h2⟩ := D1.lay _ h.1
  obtain ⟨h3, h4⟩ := D2.lay _ h.2.1
  obtain ⟨h5, h6⟩ := D3.lay _ h.2.2.1
  obtain ⟨h7, h8⟩ := D4.lay _ h.2.2.2
  refine ⟨by show (_ && (_ && (_ && (_ && true)))) = true; rw [h1, h3, h5, h7]; rfl, ?_⟩
  show max _ (max _ (max _ (max _ 0))) + 1 ≤ _
  omega⟩
/-- what a comprehension's turns answer, a step after a step -/
def seqV (st : Dt → α → Dt) (v : Dt → α → β) : Dt → List α → List β
  | _, [] => []
  | d, x :: r => v d x :: seqV st v (st d x) r
theorem runS_seq {st : Dt → α → Dt} {v : Dt → α → β} : ∀ {d : Dt} {xs : List α}, runS (fun d x => (st d x, some (v d x))) d xs = (xs.foldl st d, seqV st v d xs)
  | _, [] => rfl
  | d, x :: r => by
    show ((runS _ (st d x) r).1, [v d x] ++ (runS _ (st d x) r).2) = _
    rw [runS_seq]
    rfl
theorem seqV_len {st : Dt → α → Dt} {v : Dt → α → β} : ∀ {d : Dt} {xs : List α}, (seqV st v d xs).length = xs.length
  | _, [] => rfl
  | d, x :: r => congrArg (· + 1) (seqV_len (d := st d x) (xs := r))
theorem e_lcR {Γs : Dt → Ctx} {d0 : Dt} {st : Dt → α → Dt} {v : Dt → α → β} {Γx Γy : Dt → α → Ctx} (I : Dt → Prop) (hs : ES G Γ0 wi (Γs d0) R xs) (hl : xs.length ≤ 100000) (h0 : I d0) (hI : ∀ d x, I d → x ∈ xs → I (st d x)) (hn : ∀ d, ∀ i ∈ vs, NoAt (Γs d) i)
    (tg : ∀ d x, I d → x ∈ xs → Tg G g R x (Γs d) (Γx d x) ws) (hw : ∀ i ∈ ws, i ∈ vs) (hp : ∀ d x, ∀ i ∈ vs, PlainAt (Γx d x) i) (he : ∀ d x, I d → x ∈ xs → E G (Γx d x) te (Γy d x) S (v d x)) (hb : ∀ d x, Back (Γy d x) (Γs (st d x)) vs) :
    E G Γ0 (tLc wi g tYes te vs) (Γs (xs.foldl st d0)) (rList S) (seqV st v d0 xs) := by
  have h := e_lcD (tt := tYes) (Γs := Γs) (d0 := d0) (step := fun d x => (st d x, some (v d x))) I hs hl h0 hn fun d x hd hx => ⟨hI d x hd hx, Γx d x, ws, tg d x hd hx, hw, hp d x, t_yes, Γy d x, he d x hd hx, hb d x⟩
  rw [runS_seq] at h
  exact h
end
end TP

set_option Elab.async false
set_option linter.all false
set_option maxRecDepth 100000
set_option maxHeartbeats 4000000
namespace TQ
open PySem PySem.Spec PyProof.Rows PySem.SeqAt
section
variable {M : Model} {prog : Program} {w : World} {A : Around} {E : Value → Shared → Prop} {s : Shared} {K : PySem.W.Frag} {x C dx : Addr} {ox : Obj} {od : Option Obj} {j : Str} {t : Tok}
theorem same_str {R : Bool → Shared → Prop} (h : R false s) : wpAny M A (isSame (.ref x) (.str j t)) R E s := wpAny_of_eq (rfl : isSame (.ref x) (.str j t) = pure false) h
theorem entry_str {Q : Fin → Shared → Prop} (hq : Q (.done (.ret .notImplemented)) s) : wpAny M A (Builtin.«object.__eq__» ⟨[.ref x, .str j t], []⟩) Q E s := by
  unfold Builtin.«object.__eq__»
  repeat (first | with_reducible refine same_str ?_ | wp_step)
  exact hq
theorem objEq_str {Q : Value → Shared → Prop} (X : K.In s.heap) (I : PySem.W.InstAt s.heap x ox C od) (hm : PySem.W.mroIn K C (.type "object") = some true) (hq : Q .notImplemented s) :
    wpAny (model prog w) A (call (.builtin "object.__eq__") [.ref x, .str j t]) Q E s :=
  wpAny_call (codeAny_call_builtin F.cmp_object.eq.plain F.cmpEntry_eq (PySem.W.check_slot F.cmpKind_eq F.cmpSplit_eq (I.type.andThen (PySem.W.looks_mroIn X hm)) (F.cmpArgs_eq _ _) (entry_str hq)))
theorem str_ref (l : Addr) (c : Value) (dd : Option Addr) (sl : Array (Option Value)) :
    Meets (Builtin.«str.__eq__» ⟨[.str j t, .ref l], []⟩) (fun _ R s => s.heap.get? l = some { cls := c, dict := dd, data := .plain, slots := sl } ∧ R (.ok (.ret .notImplemented)) s) :=
  .of_wp fun prog w A R s h => by obtain ⟨hp, g, d, tk, os⟩ := s; obtain ⟨hl, h⟩ := h; wp_walk using wpAny_loadPart' hl, wpAny_load hl; exact ⟨_, rfl, h⟩
theorem sub_str : PySem.W.subIn K (.type "str") (.ref C) = some false := by
  have e : fastBuiltinMro "str" = some [.type "str", .type "object"] := by decide +kernel
  show (fastBuiltinMro "str").map (·.contains (.ref C)) = some false
  rw [e]
  first
    | rfl
    | simp
theorem rc_str (hu : A.units < cLine) (X : K.In s.heap) (I : PySem.W.InstAt s.heap x (PySem.W.instObj C dx) C od) (hm : PySem.W.mroIn K C (.type "object") = some true) (hs : PySem.W.findIn K (.ref C) "__eq__" = some (some (.builtin "object.__eq__"))) :
    RcAt A s (.ref x) (.str j t) false := fun prog w E Q h => by
  have one : wpAny (model prog w) A (tryCompare (.ref x) "__eq__" (.str j t)) (fun r s' => r = none ∧ s' = s) E s := by
    unfold tryCompare
    exact wpAny_bind (HN.ifBound_objEq X I hs (objEq_str X I hm (wpAny_pure ⟨rfl, rfl⟩)))
  have two : wpAny (model prog w) A (tryCompare (.str j t) "__eq__" (.ref x)) (fun r s' => r = none ∧ s' = s) E s :=
    wpAny_tryCompare_declines (typeIs_str s j t) F.slot_str_eq_refl (call_meets F.slot_str_eq_refl (typeIs_str s j t) F.entry_str_eq (F.args_str_eq_2 _ _) (str_ref x _ _ _) ⟨I.at_, rfl, rfl, rfl⟩)
  simp only [richCompare, cmpInfo_Eq, oneThing_ref]
  refine wpAny_holding (wpAny_bind (wpAny_cRoomFor hu ?_))
  refine wpAny_bind (I.type.here ?_)
  refine wpAny_bind (wpAny_typeOf (typeIs_str s j t) ?_)
  split
  · refine wpAny_bind ((PySem.W.looks_subIn X sub_str).here ?_)
    simp only [Bool.false_eq_true, if_false, Bool.not_false, if_true]
    refine wpAny_bind (m := tryCompare (.ref x) _ (.str j t)) (wpAny_mono one (fun r s1 z => ?_) fun _ _ e => e)
    obtain ⟨z1, z2⟩ := z
    subst z1
    subst z2
    refine wpAny_bind (m := tryCompare (.str j t) _ (.ref x)) (wpAny_mono two (fun r s2 z => ?_) fun _ _ e => e)
    obtain ⟨z1, z2⟩ := z
    subst z1
    subst z2
    exact wpAny_bind (wpAny_rule (wpAny_bind (wpAny_of_eq (rfl : isSame (.ref x) (.str j t) = pure false) (wpAny_pure h))))
  · rename_i q
    exact absurd (by simp) q
end
end TQ
namespace TP
open PySem PySem.Spec PyProof.Rows L2
/-! ### this, or a text, == a text -/
def rEqU (K : PySem.W.Frag) : R2 := fun x y H Q => (∃ i j, x = .str i ∧ y = .str j ∧ Q (.bl (decide (i = j))) H) ∨ ∃ a j C dx fs, x = .ref a ∧ y = .str j ∧ H a = some (.ins C dx fs) ∧ PySem.W.mroIn K C (.type "object") = some true ∧ PySem.W.findIn K (.ref C) "__eq__" = some (some (.builtin "object.__eq__")) ∧ Q (.bl false) H
theorem op_eqU {X : Cx} {K : PySem.W.Frag} (hK : X.K = K) (hu : X.A.units < cLine) : OpR X (compareOp .Eq) (rEqU K) := by
  subst hK
  intro pins s σ H x y v u Q I rx ry h
  rcases h with ⟨i, j, rfl, rfl, q⟩ | ⟨a, j, C, dx, fs, rfl, rfl, ha, hm, hs, q⟩
  · exact op_eq pins s σ H _ _ v u Q I rx ry ⟨rfl, by rw [show decide (V.str i = V.str j) = decide (i = j) by simp]; exact q⟩
  · cases rx
    obtain ⟨t, rfl⟩ := ry
    obtain ⟨mA, O, _⟩ := ins_get I.hok ha
    obtain ⟨od, J, _⟩ := O.look
    exact TQ.rc_str hu I.kIn J hm hs X.prog X.w _ _ ⟨.bl false, H, I, rfl, q⟩
section
variable {G M own : List Addr} {H H' : Hp} {σ : L2.St} {Γ Γ' Γ0 Γ1 Γ2 Γ3 : Ctx} {α β : Type} {R : Rp α} {a : α} {te ta tb : TE} {K : PySem.W.Frag}
/-- is it the text -/
def isTxt (j : Str) : Sum α Str → Bool
  | .inl _ => false
  | .inr i => decide (i = j)
theorem e_eqU {x : Sum α Str} {j : Str} {C : Addr} (hR : ∀ h v a, R.rep h v a → ∃ p dx fs, v = .ref p ∧ h p = some (.ins C dx fs)) (hm : PySem.W.mroIn K C (.type "object") = some true) (hs : PySem.W.findIn K (.ref C) "__eq__" = some (some (.builtin "object.__eq__")))
    (ha : E G Γ ta Γ1 (rSum R rStr) x) (hb : E G Γ1 tb Γ2 rStr j) : E G Γ (tOp (rEqU K) ta tb) Γ2 rBool (isTxt j x) := e_op ha hb fun M H v u Q k rv ru q => by
  have ru : u = V.str j := ru
  subst ru
  cases x with
  | inl a =>
    obtain ⟨p, dx, fs, rfl, hp⟩ := hR _ _ _ (show R.rep _ v a from rv)
    exact .inr ⟨p, j, C, dx, fs, rfl, rfl, (hid_some hp).2, hm, hs, q _ H Ex.refl k rfl⟩
  | inr i =>
    have rv : v = V.str i := rv
    subst rv
    exact .inl ⟨i, j, rfl, rfl, q _ H Ex.refl k rfl⟩
theorem e_inl {x : Sum α Str} {y : α} (h : E G Γ te Γ' (rSum R rStr) x) (e : x = .inl y) : E G Γ te Γ' R y := by subst e; exact h
end
end TP

set_option Elab.async false
set_option linter.all false
set_option maxRecDepth 100000
set_option maxHeartbeats 4000000
namespace TP
open PySem PySem.Spec PyProof.Rows L2
theorem vals_back : ∀ {xs : List V} {us : List Value} {i : Nat} {u : Value}, Vals xs us → us[i]? = some u → ∃ x, xs[i]? = some x ∧ RelV x u
  | _, _, _, _, .nil, e => by simp at e
  | _, _, 0, _, .cons a _, e => by simp at e; subst e; exact ⟨_, rfl, a⟩
  | _, _, i + 1, u, .cons _ r, e => by
    obtain ⟨x, h1, h2⟩ := vals_back (i := i) r (by simpa using e)
    exact ⟨x, by simpa using h1, h2⟩
/-! ### min of a list of int tuples -/
def RowsAre (K : PySem.W.Frag) (H : Hp) (vs : List V) (rows : List (List Int)) : Prop := All2 (fun v ns => ∃ a, v = .ref a ∧ SqT K H a (ns.map V.int)) vs rows
def leastT (r : List Int) (rs : List (List Int)) : List Int := rs.foldl (fun a y => if HT.lexLt y a = true then y else a) r
def rMinT (K : PySem.W.Frag) : List V → Hp → VK → Prop := fun vs H Q => ∃ (p : Addr) (xs : List V) (r : List Int) (rs : List (List Int)), vs = [.ref p] ∧ SqL K H p xs ∧ RowsAre K H xs (r :: rs) ∧ ∀ (i : Nat) (v : V), xs[i]? = some v → (r :: rs)[i]? = some (leastT r rs) → Q v H
theorem cr_minT {X : Cx} {K : PySem.W.Frag} (hK : X.K = K) (hc : X.calm = true) (hu : X.A.units + 64 < cLine) : CallR X (.builtin "min") (rMinT K) := by
  subst hK
  intro pins s σ H vs us Q I rv h
  obtain ⟨p, xs, r, rs, rfl, hs, hr, q⟩ := h
  obtain ⟨its, rl, hl, _⟩ := I.list hs
  rw [Vals.ref1 rv]
  have hlen : its.length = rs.length + 1 := by
    have a1 := hr.length
    have a2 := rl.length
    rw [List.length_cons] at a1
    omega
  have key : ∀ i v, its.toArray[i]? = some v → i < rs.length + 1 ∧ ∃ a its2, v = .ref a ∧ IsTup s.heap a its2 ∧ IntsAre its2.toList ((r :: rs).getD i []) := fun i v hv => by
    have hv : its[i]? = some v := by simpa using hv
    have hi : i < its.length := (List.getElem?_eq_some_iff.mp hv).1
    have hi2 : i < (r :: rs).length := by rw [List.length_cons]; omega
    obtain ⟨x, hx, a, e, ha⟩ := hr.get (i := i) (b := (r :: rs)[i]) (List.getElem?_eq_getElem hi2)
    obtain ⟨u, hu2, ru⟩ := rl.get hx
    rw [hv] at hu2
    cases hu2
    subst e
    obtain rfl : Value.ref a = v := ru.symm
    obtain ⟨its2, r2, p2, _⟩ := I.tuple ha
    refine ⟨by omega, a, its2.toArray, rfl, p2, ?_⟩
    have := intsAre_of r2
    rw [List.getD_eq_getElem?_getD, List.getElem?_eq_getElem hi2]
    exact this
  refine PySem.call_min_walkH (PySem.W.iter_listW (A := X.A.in1) (I.ok.hd hc) hl.isList fun s₂ e W st hfp hw hk => ?_)
  refine ⟨_, _, _, _, _, _, _, s.heap, fun i j => HT.lexLt ((r :: rs).getD i []) ((r :: rs).getD j []), rfl, W, st, hfp, by simp; omega, hw, hk, fun i j vi vj s' Q' E' hk' hi hj hq => ?_, fun v s' hP m => ?_⟩
  · obtain ⟨_, a, i1, rfl, t1, n1⟩ := key i vi hi
    obtain ⟨_, b, i2, rfl, t2, n2⟩ := key j vj hj
    exact HT.lt_tupInts (IsTup.keeps t1 hk') (IsTup.keeps t2 hk') n1 n2 (by show X.A.units + 1 < cLine; omega) hq
  · obtain ⟨h', tk, rfl, hk'⟩ := PySem.W.moved_old e rfl m
    have hsz : its.toArray.size - 1 = rs.length := by simp [hlen]
    rw [hsz] at hP
    have hb := PySem.W.argBest_fold HT.lexLt [] r rs rs.length (Nat.le_refl _)
    rw [List.take_length] at hb
    obtain ⟨k, hk2⟩ : ∃ k, k = argBest (fun i j => HT.lexLt ((r :: rs).getD i []) ((r :: rs).getD j [])) rs.length := ⟨_, rfl⟩
    rw [← hk2] at hP hb
    have hP : its[k]? = some v := by simpa using hP
    have hkl : k < (r :: rs).length := by rw [List.length_cons]; omega
    obtain ⟨x, hx, rx⟩ := vals_back rl hP
    refine ⟨x, H, I.kept hk', rx, q k x hx ?_⟩
    rw [List.getElem?_eq_getElem hkl]
    have e2 := hb.2
    rw [List.getD_eq_getElem?_getD, List.getElem?_eq_getElem hkl] at e2
    exact congrArg some e2
def l3 (x : Int × Int × Int) : List Int := [x.1, x.2.1, x.2.2]
theorem l3_inj {x y : Int × Int × Int} (h : l3 x = l3 y) : x = y := by
  obtain ⟨a, b, c⟩ := x
  obtain ⟨d, e, f⟩ := y
  unfold l3 at h
  simp at h
  obtain ⟨rfl, rfl, rfl⟩ := h
  rfl
def minT3 (x : Int × Int × Int) (xs : List (Int × Int × Int)) : Int × Int × Int := xs.foldl (fun a y => if HT.lexLt (l3 y) (l3 a) = true then y else a) x
theorem least_l3 : ∀ (xs : List (Int × Int × Int)) (x : Int × Int × Int), leastT (l3 x) (xs.map l3) = l3 (minT3 x xs)
  | [], _ => rfl
  | y :: ys, x => by
    show (ys.map l3).foldl _ (if HT.lexLt (l3 y) (l3 x) = true then l3 y else l3 x) = l3 (minT3 (if HT.lexLt (l3 y) (l3 x) = true then y else x) ys)
    rw [← least_l3 ys]
    unfold leastT
    congr 1
    split <;> rfl
theorem rows_of {K : PySem.W.Frag} {h H : Hp} (s : Sub h H) : ∀ {vs : List V} {xs : List (Int × Int × Int)}, All2 ((rT3 rInt rInt rInt).rep h) vs xs → RowsAre K H vs (xs.map l3)
  | _, _, .nil => .nil
  | _, _, .cons a r => .cons (by
    obtain ⟨p, u, v, w, e, hp, e1, e2, e3⟩ := a
    have e1 : u = _ := e1
    have e2 : v = _ := e2
    have e3 : w = _ := e3
    subst e1 e2 e3
    exact ⟨p, e, SqT.of (s _ _ hp)⟩) (rows_of s r)
theorem e_minT {G : List Addr} {Γ Γ' : Ctx} {t : TA} {K : PySem.W.Frag} {x : Int × Int × Int} {xs : List (Int × Int × Int)} (h : EA G Γ t Γ' [⟨rList (rT3 rInt rInt rInt), x :: xs⟩]) : E G Γ (tCB (rMinT K) t) Γ' (rT3 rInt rInt rInt) (minT3 x xs) := fun M own σ H k e Q q =>
  h M own σ H k e _ fun us H1 x1 k1 e1 r1 => by
    cases r1 with
    | cons ha r =>
      cases r
      obtain ⟨p, ws, e', hp, r⟩ := ha
      have e' : _ = V.ref p := e'
      subst e'
      refine ⟨p, ws, l3 x, xs.map l3, rfl, SqL.of (hid_some hp).2, rows_of (xs := x :: xs) hid_sub r, fun i v hv hm => ?_⟩
      obtain ⟨y, hy, ry⟩ := r.getL hv
      rw [least_l3] at hm
      have e3 : ((x :: xs).map l3)[i]? = some (l3 y) := by rw [List.getElem?_map, hy]; rfl
      have e4 : ((x :: xs).map l3)[i]? = some (l3 (minT3 x xs)) := hm
      rw [e3] at e4
      have := l3_inj (Option.some.inj e4)
      subst this
      exact q v H1 x1 k1 e1 ry
end TP

set_option Elab.async false
set_option linter.all false
set_option maxRecDepth 100000
set_option maxHeartbeats 4000000
namespace TP
open PySem PySem.Spec PyProof.Rows L2 LM
open LamX (CodeO TabS)
/-- the table of the lambdas' codes, one's own, beside a value that tells a -/
def oTabR (P : Addr) (q : Str) {α : Type} (R : Rp α) (a : α) : Ow := ⟨fun h H ps u => R.rep h u a ∧ (oTab P q u).own h H ps u, fun {h h' H H' ps v} k e ⟨e1, e2⟩ => ⟨R.mono k e1, (oTab P q v).mono k e e2⟩⟩
section
variable {F : Fm} {G M own : List Addr} {H H' : Hp} {σ : L2.St} {Γ Γ' Γ1 Γ2 : Ctx} {α β : Type} {R : Rp α} {a : α} {te : TE} {K : PySem.W.Frag} {D : Ends} {P : Addr} {q : Str}
theorem e_varTab {i : Nat} (hx : Γ[i]? = some (.own (oTabR P q R a))) : E G Γ (tVar i) Γ R a := fun M own σ H k e Q hQ => by
  obtain ⟨v, p1, pi, p2, f⟩ := e.env.focus hx
  exact ⟨v, f.at_, hQ v H Ex.refl k e f.own.1⟩
theorem env_no {h H : Hp} : ∀ {n : Nat} {σ : L2.St} {ps : List Addr}, EnvR h H σ (List.replicate n .no) ps → ps = [] ∧ σ.length = n
  | 0, [], _, e => ⟨e, rfl⟩
  | 0, _ :: _, _, e => e.elim
  | n + 1, [], _, e => (show False from e).elim
  | n + 1, _ :: σ, ps, e => by
    have := env_no (n := n) (σ := σ) (ps := ps) e
    exact ⟨this.1, congrArg (· + 1) this.2⟩
theorem env_no' {h H : Hp} : ∀ {n : Nat} {σ : L2.St}, σ.length = n → EnvR h H σ (List.replicate n .no) []
  | 0, [], _ => rfl
  | n + 1, _ :: σ, e => env_no' (n := n) (σ := σ) (by simpa using e)
/-- the law's own loop over its one die -/
theorem s_one {n : Nat} {R0 : Rp α} {a0 : α} {x : List Int} {tb : TS} (hO : F.own0 = []) (hF : ∀ p, p ∉ F.G → F.H0 p = none)
    (h : E F.G (.own (oTabR P q R0 a0) :: List.replicate (n + 1) .no) te (.own (oTabR P q R0 a0) :: List.replicate (n + 1) .no) (rList (rList rInt)) [x])
    (body : ∀ v gA N, (∀ Γ', KT F gT Γ' D.nx → KT F gA Γ' N) → KT F gA (.own (oTab P q v) :: .own (oLst rInt x) :: List.replicate n .no) (tb { D with nx := N, ct := N, bk := D.nx })) :
    KT F gT (.own (oTabR P q R0 a0) :: List.replicate (n + 1) .no) (tFor (iList K te) (gName 1) tb D) := fun M own σ H s e gg => h M own σ H s.ok e _ fun w H1 x1 k1 e1 r1 => by
  obtain ⟨a, vs, rfl, ha, rr⟩ := r1
  cases rr with
  | cons r0 rr =>
    cases rr
    obtain ⟨p, ys, rfl, hp, ry⟩ := r0
    have st1 := s.step x1 k1
    obtain ⟨gA, hgA⟩ : ∃ gA : Gp, gA = ⟨fun h => h a = some (.lst [.ref p]), fun k z => k _ _ z⟩ := ⟨_, rfl⟩
    refine ⟨a, rfl, ⟨_, SqL.of (hid_some ha).2⟩, ?_⟩
    refine for_it (walk_list (K := K) (a := a) (xs := [.ref p])) (fun i σ' H' => (i = 0 ∧ σ' = σ ∧ H' = H1) ∨ (1 ≤ i ∧ H' a = some (.lst [.ref p]) ∧ ∃ Γ' M' own', Stt F M' own' H' ∧ Env F.G M' H' own' σ' Γ' ∧ KT F gT Γ' D.nx)) (.inl ⟨rfl, rfl, rfl⟩) (fun i σ' H' _ z => ?_) ?_ ?_
    · rcases z with ⟨_, _, rfl⟩ | ⟨_, z, _⟩
      · exact SqL.of (hid_some ha).2
      · exact SqL.of z
    · rintro i y σ2 H2 H3 hi z hy
      rcases z with ⟨rfl, rfl, rfl⟩ | ⟨z, _⟩
      · obtain ⟨rfl, hy⟩ := hy
        have hy : V.ref p = y := by simpa using hy
        subst hy
        obtain ⟨hpM, hpH⟩ := hid_some hp
        obtain ⟨haM, haH⟩ := hid_some ha
        have hpG : p ∉ F.G := fun z => hpM (k1.sub p z)
        have hap : a ≠ p := fun z => by
          rw [z, hpH] at haH
          have e : ys = [V.ref p] := by injection haH with haH; injection haH
          subst e
          cases ry with
          | cons r _ => cases r
        cases σ2 with
        | nil => exact (show False from e1.env).elim
        | cons o0 σ2 =>
          cases σ2 with
          | nil => obtain ⟨_, _, _, _, _, _, z⟩ := e1.env; exact (show False from z).elim
          | cons o1 σ2 =>
            obtain ⟨v, p1, p2, rfl, hown, ⟨_, hu, rfl, tbl, hP, ht, hco⟩, hrest⟩ := e1.env
            obtain ⟨rfl, hlen⟩ := env_no (n := n + 1) (σ := o1 :: σ2) hrest
            have hown : own = [P] := by simpa using hown
            subst hown
            have hPM : P ∈ M := e1.sub P (List.mem_singleton.mpr rfl)
            have hPp : P ≠ p := fun z => hpM (by rw [← z]; exact hPM)
            show tb _ (some v :: some (V.ref p) :: σ2) H3
            refine body v gA _ (fun Γ' kk M' own' σ' H' st' e' g' => .inr ⟨Nat.le_refl _, ?_, Γ', M', own', st', e', kk⟩) (p :: M) [P, p] (some v :: some (V.ref p) :: σ2) H3 ?_ ?_ ?_
            · refine ⟨⟨fun P hP => List.mem_cons_of_mem _ (k1.sub P hP), fun m hm => ?_, k1.wf⟩, st1.ex, fun m hm => List.mem_cons_of_mem _ (st1.mc m hm), fun o ho => ?_⟩
              · rcases List.mem_cons.mp hm with rfl | hm
                · rw [hpH]; exact Option.some_ne_none _
                · exact k1.al m hm
              · rcases List.mem_cons.mp ho with rfl | ho
                · exact st1.own _ (List.mem_singleton.mpr rfl)
                · rw [List.mem_singleton.mp ho]; exact .inr (hF p hpG)
            · refine ⟨by simp [hPp], fun o ho => ?_, fun o ho => ?_, ?_⟩
              · rcases List.mem_cons.mp ho with rfl | ho
                · exact List.mem_cons_of_mem _ hPM
                · rw [List.mem_singleton.mp ho]; exact List.mem_cons_self
              · rcases List.mem_cons.mp ho with rfl | ho
                · exact e1.out _ (List.mem_singleton.mpr rfl)
                · rw [List.mem_singleton.mp ho]; exact hpG
              · refine ⟨v, [P], [p], rfl, rfl, ⟨rfl, rfl, tbl, hP, ht, fun pos cv z => ?_⟩, .ref p, [p], [], rfl, rfl, ⟨p, ys, trivial, rfl, rfl, hpH, ?_⟩, env_no' (by simpa using hlen)⟩
                · obtain ⟨c, e2, hc⟩ := hco pos cv z
                  refine ⟨c, e2, hid_of (fun z => ?_) (hid_some hc).2⟩
                  rcases List.mem_cons.mp z with z | z
                  · subst z
                    have := (hid_some hc).2
                    rw [hpH] at this
                    cases this
                  · exact (hid_some hc).1 z
                · exact ry.imp fun _ _ h => h
            · rw [hgA]
              exact hid_of (fun z => (List.mem_cons.mp z).elim hap haM) haH
            · rw [hgA] at g'
              exact (hid_some g').2
      · simp at hi
        omega
    · rintro σ2 H2 z
      rcases z with ⟨z, _⟩ | ⟨_, _, Γ', M', own', st', e', kk⟩
      · simp at z
      · exact kk M' own' σ2 H2 st' e' trivial
end
end TP

set_option Elab.async false
set_option linter.all false
set_option maxRecDepth 100000
set_option maxHeartbeats 4000000
namespace LM
open PySem PySem.Spec PyProof.Rows L2 TP
/-- told(lambda: ..), made where it is told, that answers r, or raises where bd -/
theorem e_toldK {G : List Addr} {Γ : TP.Ctx} {Pt : Addr} {q ret : Str} {K : PySem.W.Frag} {CS c : Addr} {cells : List (Str × Addr)} {Ls : List LamD} {n i : Nat} {v : V} {e bd : Expr} {ps : Arguments} {sc : Scope} {pos : Pos} {t : XK → TE} {α : Type} {R : Rp α} {r : α} {bad : Bool}
    (he : e = .Lambda ps bd sc pos) (hn : Ls[n]? = some (lamD e t)) (hx : Γ[i]? = some (.own (oTab Pt q v))) (h0 : bad = false → ∀ W, TP.E G Γ (t W) Γ R r) (h1 : bad = true → ∀ W, EX G Γ (t W) Γ W c) (hm : PySem.W.exmOne K (.ref c) (.ref CS) = some true) :
    TP.E G Γ (fun σ H Q => tTold K CS ret q cells Ls σ (tLamV Pt q ps bd sc (cloFrom cells sc.names [])) σ H Q) Γ (rSum R rStr) (if bad = true then .inr ret else .inl r) := by
  subst he
  cases bad with
  | false => exact e_toldOk (n := n) (e_lamV hx hn) hn (fun W => h0 rfl W)
  | true => exact e_toldEr (n := n) (e_lamV hx hn) hn (fun W => h1 rfl W) hm
end LM

set_option Elab.async false
set_option linter.all false
set_option maxRecDepth 100000
set_option maxHeartbeats 0
namespace KH
open PySem PySem.Spec PyProof.Rows L2
def top (i : Nat) : Stmt := PySem.Challenge.pw_kilnstack_k01_clays_that_shrink.main.body.getD i (.Pass ⟨0, 0, 0, 0⟩)
abbrev s_Clay_init : Stmt := (inClass (top 4) 0)
def d_Clay_init : He.DefD := ⟨("Clay", some "__init__"), "__init__", "Clay.__init__", defArgs s_Clay_init, defBody s_Clay_init, defScope s_Clay_init, [], []⟩
abbrev s_Clay_dry : Stmt := (inClass (top 4) 1)
def d_Clay_dry : He.DefD := ⟨("Clay", some "dry"), "dry", "Clay.dry", defArgs s_Clay_dry, defBody s_Clay_dry, defScope s_Clay_dry, [], []⟩
abbrev s_Clay_fired : Stmt := (inClass (top 4) 2)
def d_Clay_fired : He.DefD := ⟨("Clay", some "fired"), "fired", "Clay.fired", defArgs s_Clay_fired, defBody s_Clay_fired, defScope s_Clay_fired, [], []⟩
abbrev s_Clay_wet_for : Stmt := (inClass (top 4) 3)
def d_Clay_wet_for : He.DefD := ⟨("Clay", some "wet_for"), "wet_for", "Clay.wet_for", defArgs s_Clay_wet_for, defBody s_Clay_wet_for, defScope s_Clay_wet_for, [], []⟩
abbrev s_Clay_lost : Stmt := (inClass (top 4) 4)
def d_Clay_lost : He.DefD := ⟨("Clay", some "lost"), "lost", "Clay.lost", defArgs s_Clay_lost, defBody s_Clay_lost, defScope s_Clay_lost, [], []⟩
abbrev s_mixed : Stmt := (top 5)
def d_mixed : He.DefD := ⟨("mixed", none), "mixed", "mixed", defArgs s_mixed, defBody s_mixed, defScope s_mixed, [], []⟩
abbrev s_fits_body : Stmt := (top 6)
def d_fits_body : He.DefD := ⟨("fits_body", none), "fits_body", "fits_body", defArgs s_fits_body, defBody s_fits_body, defScope s_fits_body, [], []⟩
abbrev s_best_mix : Stmt := (top 7)
def d_best_mix : He.DefD := ⟨("best_mix", none), "best_mix", "best_mix", defArgs s_best_mix, defBody s_best_mix, defScope s_best_mix, [], []⟩
abbrev s_law_dice : Stmt := (top 9)
def d_law_dice : He.DefD := ⟨("_law_dice", none), "_law_dice", "_law_dice", defArgs s_law_dice, defBody s_law_dice, defScope s_law_dice, [], []⟩
abbrev s_law_roll : Stmt := (top 10)
def d_law_roll : He.DefD := ⟨("_law_roll", none), "_law_roll", "_law_roll", defArgs s_law_roll, defBody s_law_roll, defScope s_law_roll, [], []⟩
abbrev s_law_rounds : Stmt := (top 11)
def d_law_rounds : He.DefD := ⟨("_law_rounds", none), "_law_rounds", "_law_rounds", defArgs s_law_rounds, defBody s_law_rounds, defScope s_law_rounds, [], []⟩
abbrev s_law_told : Stmt := (top 12)
def d_law_told : He.DefD := ⟨("_law_told", none), "_law_told", "_law_told", defArgs s_law_told, defBody s_law_told, defScope s_law_told, [], []⟩
abbrev s_law_round : Stmt := (top 13)
def d_law_round : He.DefD := ⟨("_law_round", none), "_law_round", "_law_round", defArgs s_law_round, defBody s_law_round, defScope s_law_round, [], []⟩
abbrev s_law_lost : Stmt := (top 14)
def d_law_lost : He.DefD := ⟨("_law_lost", none), "_law_lost", "_law_lost", defArgs s_law_lost, defBody s_law_lost, defScope s_law_lost, [], []⟩
abbrev s_law_mix : Stmt := (top 15)
def d_law_mix : He.DefD := ⟨("_law_mix", none), "_law_mix", "_law_mix", defArgs s_law_mix, defBody s_law_mix, defScope s_law_mix, [], []⟩
abbrev s_law : Stmt := (top 16)
def d_law : He.DefD := ⟨("law", none), "law", "law", defArgs s_law, defBody s_law, defScope s_law, [], []⟩
def fn : List He.DefD := [d_Clay_init, d_Clay_dry, d_Clay_fired, d_Clay_wet_for, d_Clay_lost, d_mixed, d_fits_body, d_best_mix, d_law_dice, d_law_roll, d_law_rounds, d_law_told, d_law_round, d_law_lost, d_law_mix, d_law]
def fa : List He.Fa := [.glo "KilnError", .glo "ClayError", .glo "Clay", .glo "mixed", .glo "fits_body", .glo "best_mix", .glo "_law_dice", .glo "_law_roll", .glo "_law_rounds", .glo "_law_told", .glo "_law_round", .glo "_law_lost", .glo "_law_mix", .glo "law", .free "len", .free "any", .free "sum", .free "range", .free "min", .free "max", .free "abs", .free "int", .free "tuple", .free "enumerate", .free "zip", .free "str", .free "ValueError", .exc "KilnError", .exc "ClayError", .cls "Clay", .mkr "Clay", .noat "Clay" "name", .noat "Clay" "dries", .noat "Clay" "fires", .noat "Clay" "takes", .meth "Clay" "dry", .meth "Clay" "fired", .meth "Clay" "wet_for", .meth "Clay" "lost", .exm "KilnError" "KilnError" true, .exm "KilnError" "ClayError" false, .exm "ClayError" "KilnError" true, .exm "ClayError" "ClayError" true]
def tf : List He.Defn := [("mixed", none), ("law", none)]
abbrev R : PySem.W.OpenRow := PySem.W.OpenLaw.row PySem.Challenge.rw_kilnstack_k01_clays_that_shrink
def isObjEq : Option (Option Value) → Bool
  | some (some (.builtin x)) => x == "object.__eq__"
  | _ => false
abbrev ecl : List Str := ["Clay"]
abbrev tabsOf (K : PySem.W.Frag) : List Addr := tf.map fun p => (He.cT K p).2
abbrev ex (K : PySem.W.Frag) : Bool := (ecl.all fun C => isObjEq (PySem.W.findIn K (.ref (He.ga K C)) "__eq__")) && decide (tabsOf K).Nodup
abbrev hk : PySem.W.Hook := He.hookX 7 fa fn [] tf ex
def ob (s : PySem.W.SharedT) : He.AlX := He.obsX 7 fa fn [] tf ex (HandSHeadRun.getT s)
theorem ob_eq (s : PySem.W.SharedT) : ob s = hk.obs s.abs := He.obsX_eq (HandSHeadRun.getT_eq s)
theorem run (w : World) : HandSHeadRun.RunEq R (PySem.W.view R.prog [16]) hk ob 4000 ["__name__", "KilnError", "ClayError", "Clay", "mixed", "fits_body", "best_mix", "_law_dice", "_law_roll", "_law_rounds", "_law_told", "_law_round", "_law_lost", "_law_mix"] w := by
  intro os
  kernel_rfl
end KH

set_option Elab.async false
set_option linter.all false
set_option maxRecDepth 100000
set_option maxHeartbeats 0
namespace KH
open PySem PySem.Spec PyProof.Rows L2
def KeepsLaw : Prop := ∀ (w : World) (mg : Str → Option Value) (fa' : Addr) (h : Heap) (K : PySem.W.Frag), K.In h → He.SaysX fa fn [] tf ex w h K → h.Ns mainGlobals mg → mg "law" = some (.ref fa') →
  LamX.LawAtS PySem.Challenge.rw_kilnstack_k01_clays_that_shrink w K (L2.CX PySem.Challenge.rw_kilnstack_k01_clays_that_shrink.prog w) 40 63 "script" mg fa' h
end KH
open PySem PySem.W PySem.Calls PyProof.Rows
theorem holds_of (kl : KH.KeepsLaw) : PySem.Challenge.rw_kilnstack_k01_clays_that_shrink.Holds := by
  w_on; o_law
  refine HandSHeadRun.head_any (r := OpenLaw.row PySem.Challenge.rw_kilnstack_k01_clays_that_shrink) (q := view (OpenLaw.row PySem.Challenge.rw_kilnstack_k01_clays_that_shrink).prog [16]) (H := KH.hk) (ob := KH.ob) (M := 4000) (d := HandSHeadRun.topDef (OpenLaw.row PySem.Challenge.rw_kilnstack_k01_clays_that_shrink).prog 16) (kwd := []) KH.ob_eq
    (by kernel_rfl) (fun s => by kernel_rfl) KH.run (by kernel_rfl) (by kernel_rfl) (by kernel_rfl) (by rfl) (by first | assumption | decide +kernel) (by decide +kernel) ⟨rfl, rfl, rfl, rfl, rfl, by decide +kernel⟩ ?hw ?hc
  case hw => w_witness2
  case hc =>
    refine LamX.walk_ofTsE (l := PySem.Challenge.rw_kilnstack_k01_clays_that_shrink) (n := 63) (k := 40) (x := "script") (CX := fun w => L2.CX PySem.Challenge.rw_kilnstack_k01_clays_that_shrink.prog w) rfl (by decide) (by kernel_rfl) ⟨rfl, by decide, by decide⟩ ?F ?C
    · intro w mg fa h Y G hmg0
      obtain ⟨K, KX, c⟩ := Y
      have hmg : mg ("law" : PySem.Str) = some (.ref fa) := by
        have e : (HandSHeadRun.topDef (OpenLaw.row PySem.Challenge.rw_kilnstack_k01_clays_that_shrink).prog 16).name = ("law" : PySem.Str) := by kernel_rfl
        rw [← e]
        exact hmg0
      exact ⟨K, KX, kl w mg fa h K KX c G hmg⟩
    · intro w H s e s' z
      obtain ⟨_, _, _, _, _, _, _, _, _, _, _, _, z⟩ := z
      exact z

set_option Elab.async false
set_option linter.all false
set_option maxRecDepth 100000
set_option maxHeartbeats 0
namespace KH
open PySem PySem.Spec PyProof.Rows L2 TP
def Top (w : World) (K : PySem.W.Frag) (mg : Str → Option Value) : Prop := ∃ h : Heap, K.In h ∧ h.Ns mainGlobals mg ∧ He.SaysX fa fn [] tf ex w h K
section
variable {w : World} {K : PySem.W.Frag} {mg : Str → Option Value} (T : Top w K mg)
include T
theorem g_KilnError : mg "KilnError" = some (.ref (He.ga K "KilnError")) := by
  obtain ⟨h, KX, G, c⟩ := T
  exact He.glo_ok KX G (c.t.d.fact 0 (f := .glo "KilnError") rfl)
theorem g_ClayError : mg "ClayError" = some (.ref (He.ga K "ClayError")) := by
  obtain ⟨h, KX, G, c⟩ := T
  exact He.glo_ok KX G (c.t.d.fact 1 (f := .glo "ClayError") rfl)
theorem g_Clay : mg "Clay" = some (.ref (He.ga K "Clay")) := by
  obtain ⟨h, KX, G, c⟩ := T
  exact He.glo_ok KX G (c.t.d.fact 2 (f := .glo "Clay") rfl)
theorem g_mixed : mg "mixed" = some (.ref (He.ga K "mixed")) := by
  obtain ⟨h, KX, G, c⟩ := T
  exact He.glo_ok KX G (c.t.d.fact 3 (f := .glo "mixed") rfl)
theorem g_fits_body : mg "fits_body" = some (.ref (He.ga K "fits_body")) := by
  obtain ⟨h, KX, G, c⟩ := T
  exact He.glo_ok KX G (c.t.d.fact 4 (f := .glo "fits_body") rfl)
theorem g_best_mix : mg "best_mix" = some (.ref (He.ga K "best_mix")) := by
  obtain ⟨h, KX, G, c⟩ := T
  exact He.glo_ok KX G (c.t.d.fact 5 (f := .glo "best_mix") rfl)
theorem g_law_dice : mg "_law_dice" = some (.ref (He.ga K "_law_dice")) := by
  obtain ⟨h, KX, G, c⟩ := T
  exact He.glo_ok KX G (c.t.d.fact 6 (f := .glo "_law_dice") rfl)
theorem g_law_roll : mg "_law_roll" = some (.ref (He.ga K "_law_roll")) := by
  obtain ⟨h, KX, G, c⟩ := T
  exact He.glo_ok KX G (c.t.d.fact 7 (f := .glo "_law_roll") rfl)
theorem g_law_rounds : mg "_law_rounds" = some (.ref (He.ga K "_law_rounds")) := by
  obtain ⟨h, KX, G, c⟩ := T
  exact He.glo_ok KX G (c.t.d.fact 8 (f := .glo "_law_rounds") rfl)
theorem g_law_told : mg "_law_told" = some (.ref (He.ga K "_law_told")) := by
  obtain ⟨h, KX, G, c⟩ := T
  exact He.glo_ok KX G (c.t.d.fact 9 (f := .glo "_law_told") rfl)
theorem g_law_round : mg "_law_round" = some (.ref (He.ga K "_law_round")) := by
  obtain ⟨h, KX, G, c⟩ := T
  exact He.glo_ok KX G (c.t.d.fact 10 (f := .glo "_law_round") rfl)
theorem g_law_lost : mg "_law_lost" = some (.ref (He.ga K "_law_lost")) := by
  obtain ⟨h, KX, G, c⟩ := T
  exact He.glo_ok KX G (c.t.d.fact 11 (f := .glo "_law_lost") rfl)
theorem g_law_mix : mg "_law_mix" = some (.ref (He.ga K "_law_mix")) := by
  obtain ⟨h, KX, G, c⟩ := T
  exact He.glo_ok KX G (c.t.d.fact 12 (f := .glo "_law_mix") rfl)
theorem g_law : mg "law" = some (.ref (He.ga K "law")) := by
  obtain ⟨h, KX, G, c⟩ := T
  exact He.glo_ok KX G (c.t.d.fact 13 (f := .glo "law") rfl)
theorem f_len : mg "len" = none := by
  obtain ⟨h, KX, G, c⟩ := T
  exact He.free_ok KX G (c.t.d.fact 14 (f := .free "len") rfl)
theorem f_any : mg "any" = none := by
  obtain ⟨h, KX, G, c⟩ := T
  exact He.free_ok KX G (c.t.d.fact 15 (f := .free "any") rfl)
theorem f_sum : mg "sum" = none := by
  obtain ⟨h, KX, G, c⟩ := T
  exact He.free_ok KX G (c.t.d.fact 16 (f := .free "sum") rfl)
theorem f_range : mg "range" = none := by
  obtain ⟨h, KX, G, c⟩ := T
  exact He.free_ok KX G (c.t.d.fact 17 (f := .free "range") rfl)
theorem f_min : mg "min" = none := by
  obtain ⟨h, KX, G, c⟩ := T
  exact He.free_ok KX G (c.t.d.fact 18 (f := .free "min") rfl)
theorem f_max : mg "max" = none := by
  obtain ⟨h, KX, G, c⟩ := T
  exact He.free_ok KX G (c.t.d.fact 19 (f := .free "max") rfl)
theorem f_abs : mg "abs" = none := by
  obtain ⟨h, KX, G, c⟩ := T
  exact He.free_ok KX G (c.t.d.fact 20 (f := .free "abs") rfl)
theorem f_int : mg "int" = none := by
  obtain ⟨h, KX, G, c⟩ := T
  exact He.free_ok KX G (c.t.d.fact 21 (f := .free "int") rfl)
theorem f_tuple : mg "tuple" = none := by
  obtain ⟨h, KX, G, c⟩ := T
  exact He.free_ok KX G (c.t.d.fact 22 (f := .free "tuple") rfl)
theorem f_enumerate : mg "enumerate" = none := by
  obtain ⟨h, KX, G, c⟩ := T
  exact He.free_ok KX G (c.t.d.fact 23 (f := .free "enumerate") rfl)
theorem f_zip : mg "zip" = none := by
  obtain ⟨h, KX, G, c⟩ := T
  exact He.free_ok KX G (c.t.d.fact 24 (f := .free "zip") rfl)
theorem f_str : mg "str" = none := by
  obtain ⟨h, KX, G, c⟩ := T
  exact He.free_ok KX G (c.t.d.fact 25 (f := .free "str") rfl)
theorem f_ValueError : mg "ValueError" = none := by
  obtain ⟨h, KX, G, c⟩ := T
  exact He.free_ok KX G (c.t.d.fact 26 (f := .free "ValueError") rfl)
theorem e_KilnError : PySem.W.excIn K (He.ga K "KilnError") He.veBase "ValueError.__new__" = true ∧ PySem.W.keepIn K (.ref (He.ga K "KilnError")) = true ∧ PySem.W.subIn K (.ref (He.ga K "KilnError")) (.type "BaseException") = some true ∧ PySem.W.typeIn K (.ref (He.ga K "KilnError")) = some (.type "type") := by
  obtain ⟨h, KX, G, c⟩ := T
  exact He.exc_ok (c.t.d.fact 27 (f := .exc "KilnError") rfl)
theorem e_ClayError : PySem.W.excIn K (He.ga K "ClayError") He.veBase "ValueError.__new__" = true ∧ PySem.W.keepIn K (.ref (He.ga K "ClayError")) = true ∧ PySem.W.subIn K (.ref (He.ga K "ClayError")) (.type "BaseException") = some true ∧ PySem.W.typeIn K (.ref (He.ga K "ClayError")) = some (.type "type") := by
  obtain ⟨h, KX, G, c⟩ := T
  exact He.exc_ok (c.t.d.fact 28 (f := .exc "ClayError") rfl)
theorem c_Clay : Cls K (He.ga K "Clay") := by
  obtain ⟨h, KX, G, c⟩ := T
  exact He.cls_ok (c.t.d.fact 29 (f := .cls "Clay") rfl)
theorem k_Clay : Mk K (He.ga K "Clay") (He.ma K (He.ga K "Clay") "__init__") := by
  obtain ⟨h, KX, G, c⟩ := T
  exact He.mkr_ok (c.t.d.fact 30 (f := .mkr "Clay") rfl)
theorem n_Clay_name : NoAttr K (He.ga K "Clay") "name" := by
  obtain ⟨h, KX, G, c⟩ := T
  exact He.noat_ok (c.t.d.fact 31 (f := .noat "Clay" "name") rfl)
theorem n_Clay_dries : NoAttr K (He.ga K "Clay") "dries" := by
  obtain ⟨h, KX, G, c⟩ := T
  exact He.noat_ok (c.t.d.fact 32 (f := .noat "Clay" "dries") rfl)
theorem n_Clay_fires : NoAttr K (He.ga K "Clay") "fires" := by
  obtain ⟨h, KX, G, c⟩ := T
  exact He.noat_ok (c.t.d.fact 33 (f := .noat "Clay" "fires") rfl)
theorem n_Clay_takes : NoAttr K (He.ga K "Clay") "takes" := by
  obtain ⟨h, KX, G, c⟩ := T
  exact He.noat_ok (c.t.d.fact 34 (f := .noat "Clay" "takes") rfl)
theorem m_Clay_dry : Meth K (He.ga K "Clay") "dry" (He.ma K (He.ga K "Clay") "dry") := by
  obtain ⟨h, KX, G, c⟩ := T
  exact He.meth_ok (c.t.d.fact 35 (f := .meth "Clay" "dry") rfl)
theorem m_Clay_fired : Meth K (He.ga K "Clay") "fired" (He.ma K (He.ga K "Clay") "fired") := by
  obtain ⟨h, KX, G, c⟩ := T
  exact He.meth_ok (c.t.d.fact 36 (f := .meth "Clay" "fired") rfl)
theorem m_Clay_wet_for : Meth K (He.ga K "Clay") "wet_for" (He.ma K (He.ga K "Clay") "wet_for") := by
  obtain ⟨h, KX, G, c⟩ := T
  exact He.meth_ok (c.t.d.fact 37 (f := .meth "Clay" "wet_for") rfl)
theorem m_Clay_lost : Meth K (He.ga K "Clay") "lost" (He.ma K (He.ga K "Clay") "lost") := by
  obtain ⟨h, KX, G, c⟩ := T
  exact He.meth_ok (c.t.d.fact 38 (f := .meth "Clay" "lost") rfl)
theorem x_KilnError_KilnError : PySem.W.exmOne K (.ref (He.ga K "KilnError")) (.ref (He.ga K "KilnError")) = some true := by
  obtain ⟨h, KX, G, c⟩ := T
  exact He.exm_ok (c.t.d.fact 39 (f := .exm "KilnError" "KilnError" true) rfl)
theorem x_KilnError_ClayError : PySem.W.exmOne K (.ref (He.ga K "KilnError")) (.ref (He.ga K "ClayError")) = some false := by
  obtain ⟨h, KX, G, c⟩ := T
  exact He.exm_ok (c.t.d.fact 40 (f := .exm "KilnError" "ClayError" false) rfl)
theorem x_ClayError_KilnError : PySem.W.exmOne K (.ref (He.ga K "ClayError")) (.ref (He.ga K "KilnError")) = some true := by
  obtain ⟨h, KX, G, c⟩ := T
  exact He.exm_ok (c.t.d.fact 41 (f := .exm "ClayError" "KilnError" true) rfl)
theorem x_ClayError_ClayError : PySem.W.exmOne K (.ref (He.ga K "ClayError")) (.ref (He.ga K "ClayError")) = some true := by
  obtain ⟨h, KX, G, c⟩ := T
  exact He.exm_ok (c.t.d.fact 42 (f := .exm "ClayError" "ClayError" true) rfl)
theorem ex_ok : ex K = true := by
  obtain ⟨h, KX, G, c⟩ := T
  exact c.more
theorem tabs_nd : (tabsOf K).Nodup := of_decide_eq_true (Bool.and_eq_true_iff.mp (ex_ok T)).2
theorem eq_of {C : Str} (hC : C ∈ ecl) : PySem.W.findIn K (.ref (He.ga K C)) "__eq__" = some (some (.builtin "object.__eq__")) := by
  have := List.all_eq_true.mp (Bool.and_eq_true_iff.mp (ex_ok T)).1 C hC
  unfold isObjEq at this
  split at this
  · rename_i x e
    rw [e, eq_of_beq this]
  · cases this
theorem eq_Clay : PySem.W.findIn K (.ref (He.ga K "Clay")) "__eq__" = some (some (.builtin "object.__eq__")) := eq_of T (by simp [ecl])
theorem D_Clay_init : FnC K d_Clay_init := by
  obtain ⟨h, KX, G, c⟩ := T
  exact fnC_of c.t.d (List.mem_of_getElem? (i := 0) rfl) rfl
theorem D_Clay_dry : FnC K d_Clay_dry := by
  obtain ⟨h, KX, G, c⟩ := T
  exact fnC_of c.t.d (List.mem_of_getElem? (i := 1) rfl) rfl
theorem D_Clay_fired : FnC K d_Clay_fired := by
  obtain ⟨h, KX, G, c⟩ := T
  exact fnC_of c.t.d (List.mem_of_getElem? (i := 2) rfl) rfl
theorem D_Clay_wet_for : FnC K d_Clay_wet_for := by
  obtain ⟨h, KX, G, c⟩ := T
  exact fnC_of c.t.d (List.mem_of_getElem? (i := 3) rfl) rfl
theorem D_Clay_lost : FnC K d_Clay_lost := by
  obtain ⟨h, KX, G, c⟩ := T
  exact fnC_of c.t.d (List.mem_of_getElem? (i := 4) rfl) rfl
theorem D_mixed : FnC K d_mixed := by
  obtain ⟨h, KX, G, c⟩ := T
  exact fnC_of c.t.d (List.mem_of_getElem? (i := 5) rfl) rfl
theorem D_fits_body : FnC K d_fits_body := by
  obtain ⟨h, KX, G, c⟩ := T
  exact fnC_of c.t.d (List.mem_of_getElem? (i := 6) rfl) rfl
theorem D_best_mix : FnC K d_best_mix := by
  obtain ⟨h, KX, G, c⟩ := T
  exact fnC_of c.t.d (List.mem_of_getElem? (i := 7) rfl) rfl
theorem D_law_dice : FnC K d_law_dice := by
  obtain ⟨h, KX, G, c⟩ := T
  exact fnC_of c.t.d (List.mem_of_getElem? (i := 8) rfl) rfl
theorem D_law_roll : FnC K d_law_roll := by
  obtain ⟨h, KX, G, c⟩ := T
  exact fnC_of c.t.d (List.mem_of_getElem? (i := 9) rfl) rfl
theorem D_law_rounds : FnC K d_law_rounds := by
  obtain ⟨h, KX, G, c⟩ := T
  exact fnC_of c.t.d (List.mem_of_getElem? (i := 10) rfl) rfl
theorem D_law_told : FnC K d_law_told := by
  obtain ⟨h, KX, G, c⟩ := T
  exact fnC_of c.t.d (List.mem_of_getElem? (i := 11) rfl) rfl
theorem D_law_round : FnC K d_law_round := by
  obtain ⟨h, KX, G, c⟩ := T
  exact fnC_of c.t.d (List.mem_of_getElem? (i := 12) rfl) rfl
theorem D_law_lost : FnC K d_law_lost := by
  obtain ⟨h, KX, G, c⟩ := T
  exact fnC_of c.t.d (List.mem_of_getElem? (i := 13) rfl) rfl
theorem D_law_mix : FnC K d_law_mix := by
  obtain ⟨h, KX, G, c⟩ := T
  exact fnC_of c.t.d (List.mem_of_getElem? (i := 14) rfl) rfl
theorem D_law : FnC K d_law := by
  obtain ⟨h, KX, G, c⟩ := T
  exact fnC_of c.t.d (List.mem_of_getElem? (i := 15) rfl) rfl
end
end KH

set_option Elab.async false
set_option linter.all false
set_option maxRecDepth 100000
set_option maxHeartbeats 1000000
namespace KH
open PySem PySem.Spec PyProof.Rows L2 TP
/-! ### a clay -/
structure ClayV where
  name : Str
  dries : Int
  fires : Int
  takes : Int
abbrev aClay (K : PySem.W.Frag) : Addr := He.ga K "Clay"
abbrev aErr (K : PySem.W.Frag) : Addr := He.ga K "ClayError"
def rClay (K : PySem.W.Frag) : Rp ClayV := ⟨fun H v c => ∃ p dx, v = .ref p ∧ H p = some (.ins (aClay K) dx [("name", .str c.name), ("dries", .int c.dries), ("fires", .int c.fires), ("takes", .int c.takes)]), fun k ⟨p, dx, e, h⟩ => ⟨p, dx, e, k _ _ h⟩⟩
theorem h_Clay_name {K} : HasF (rClay K) (aClay K) "name" rStr ClayV.name := fun _ _ _ ⟨p, dx, e, h⟩ => ⟨p, dx, _, _, e, h, rfl, rfl⟩
theorem h_Clay_dries {K} : HasF (rClay K) (aClay K) "dries" rInt ClayV.dries := fun _ _ _ ⟨p, dx, e, h⟩ => ⟨p, dx, _, _, e, h, rfl, rfl⟩
theorem h_Clay_fires {K} : HasF (rClay K) (aClay K) "fires" rInt ClayV.fires := fun _ _ _ ⟨p, dx, e, h⟩ => ⟨p, dx, _, _, e, h, rfl, rfl⟩
theorem h_Clay_takes {K} : HasF (rClay K) (aClay K) "takes" rInt ClayV.takes := fun _ _ _ ⟨p, dx, e, h⟩ => ⟨p, dx, _, _, e, h, rfl, rfl⟩
theorem clay_obj {K} {m : Str} (h : ∀ a b c d : V, ([("name", a), ("dries", b), ("fires", c), ("takes", d)] : List (Str × V)).lookup m = none) : IsObj (rClay K) (aClay K) m := fun _ _ c ⟨p, dx, e, hp⟩ => ⟨p, dx, _, e, hp, h _ _ _ _⟩
theorem o_Clay_dry {K} : IsObj (rClay K) (aClay K) "dry" := clay_obj fun _ _ _ _ => rfl
theorem o_Clay_fired {K} : IsObj (rClay K) (aClay K) "fired" := clay_obj fun _ _ _ _ => rfl
theorem o_Clay_wet_for {K} : IsObj (rClay K) (aClay K) "wet_for" := clay_obj fun _ _ _ _ => rfl
theorem o_Clay_lost {K} : IsObj (rClay K) (aClay K) "lost" := clay_obj fun _ _ _ _ => rfl
section
variable {P : Program} {w : World} {K : PySem.W.Frag} {mg : Str → Option Value} {base : Heap} {G : List Addr}
/-! ### Clay(..) -/
abbrev InI := Str × Int × Int × Int
def badN (d f t : Int) : Bool := decide (min (min d f) t < 0) || decide (500 < max (max d f) t)
def A_init (K : PySem.W.Frag) : Ans InI ClayV := ⟨fun _ => True, fun x => badN x.2.1 x.2.2.1 x.2.2.2, fun _ => aErr K, fun x => ⟨x.1, x.2.1, x.2.2.1, x.2.2.2⟩⟩
abbrev ds_init (x : InI) : List Dy := [⟨rStr, x.1⟩, ⟨rInt, x.2.1⟩, ⟨rInt, x.2.2.1⟩, ⟨rInt, x.2.2.2⟩]
theorem sc_Clay_init : FnScope ["self", "name", "dries", "fires", "takes"] ["self", "name", "dries", "fires", "takes"] d_Clay_init.scope := C8.fnScope_by (by decide +kernel)
theorem b_Clay_init {w : World} {K : PySem.W.Frag} {mg : Str → Option Value} (T : Top w K mg) : Binds K (fdOf K d_Clay_init.at_) ["self", "name", "dries", "fires", "takes"] [] := (D_Clay_init T).binds (fun _ _ _ _ _ _ us hl => match us, hl with | [_, _, _, _, _], _ => rfl)
theorem ok_Clay_init (T : Top w K mg) : Kp P w K mg base 1 d_Clay_init ["self", "name", "dries", "fires", "takes"] (spBI G (aClay K) (A_init K) ds_init (rClay K)) := by
  refine (D_Clay_init T).ok sc_Clay_init (spI_len fun _ => rfl) fun A outer s H vs Q E hr hsp => ⟨_, (pss_cons (ps_if (PW.pt (pw_or (pt_cmpR op_lt (pe_callB (call_min3Nu rfl) rfl (f_min T) (by decide +kernel) (pa_cons (pv 2) (pa_cons (pv 3) (pa_cons (pv 4) pa_nil)))) pe_int (nomark _)) (pw_or1 (pt_cmpR op_gt (pe_callB (call_max3Nu rfl) rfl (f_max T) (by decide +kernel) (pa_cons (pv 2) (pa_cons (pv 3) (pa_cons (pv 4) pa_nil)))) pe_int (nomark _))))) (pss_one (ps_own (e_ClayError T) (g_ClayError T) (takes_of rfl rfl rfl rfl) rfl)) pss_nil) (pss_cons (ps_fld (pv 0) (pv 1) rfl) (pss_cons (ps_fld (pv 0) (pv 2) rfl) (pss_cons (ps_fld (pv 0) (pv 3) rfl) (pss_one (ps_fld (pv 0) (pv 4) rfl)))))), ?_⟩
  refine inBI (n := 0) (k := 4) hsp (fun _ => rfl) rfl fun F x p hG hO hp hok her => ?_
  obtain ⟨nm, d, f, t⟩ := x
  refine s_seq (s_if (t_or (t_of (e_lt (e_min3 (a_cons (e_var rfl) (a_cons (e_var rfl) (a_cons (e_var rfl) a_nil)))) e_int)) (fun _ => (t_of (e_gt (e_max3 (a_cons (e_var rfl) (a_cons (e_var rfl) (a_cons (e_var rfl) a_nil)))) e_int)))) (fun h => s_raise (her h)) (fun h => s_next ?_))
  refine s_seq (s_fld (c_Clay T) (n_Clay_name T) rfl (e_var rfl) (by simp) (by simp) ?_)
  refine s_seq (s_fld (c_Clay T) (n_Clay_dries T) rfl (e_var rfl) (by simp <;> decide) (by simp) ?_)
  refine s_seq (s_fld (c_Clay T) (n_Clay_fires T) rfl (e_var rfl) (by simp <;> decide) (by simp) ?_)
  refine s_fld (c_Clay T) (n_Clay_takes T) rfl (e_var rfl) (by simp <;> decide) (by simp) ?_
  refine s_initEnd (i := 0) hO rfl (fun h dx vs hp a => ?_) (hok h)
  cases a with
  | cons a1 a => cases a with
    | cons a2 a => cases a with
      | cons a3 a => cases a with
        | cons a4 a =>
          cases a
          rename_i q1 q2 q3 q4
          obtain ⟨n1, v1⟩ := q1
          obtain ⟨n2, v2⟩ := q2
          obtain ⟨n3, v3⟩ := q3
          obtain ⟨n4, v4⟩ := q4
          obtain ⟨e1, r1⟩ := a1
          obtain ⟨e2, r2⟩ := a2
          obtain ⟨e3, r3⟩ := a3
          obtain ⟨e4, r4⟩ := a4
          have e1 : n1 = "name" := e1
          have e2 : n2 = "dries" := e2
          have e3 : n3 = "fires" := e3
          have e4 : n4 = "takes" := e4
          have r1 : v1 = V.str nm := r1
          have r2 : v2 = V.int d := r2
          have r3 : v3 = V.int f := r3
          have r4 : v4 = V.int t := r4
          subst e1 e2 e3 e4 r1 r2 r3 r4
          exact ⟨p, dx, rfl, hp⟩
/-! ### dry, fired, wet_for, lost -/
def goodC (c : ClayV) : Prop := 0 ≤ c.dries ∧ c.dries ≤ 500 ∧ 0 ≤ c.fires ∧ c.fires ≤ 500 ∧ 0 ≤ c.takes ∧ c.takes ≤ 500
abbrev ds_CI (K : PySem.W.Frag) (x : ClayV × Int) : List Dy := [⟨rClay K, x.1⟩, ⟨rInt, x.2⟩]
def mDry (c : ClayV) (l : Int) : Int := (2 * l * (1000 - c.dries) + 1000) / 2000
def A_dry (K : PySem.W.Frag) : Ans (ClayV × Int) Int := ⟨fun x => goodC x.1, fun x => decide (x.2 < 0), fun _ => aErr K, fun x => mDry x.1 x.2⟩
theorem sc_Clay_dry : FnScope ["self", "length"] ["self", "length"] d_Clay_dry.scope := C8.fnScope_by (by decide +kernel)
theorem b_Clay_dry {w : World} {K : PySem.W.Frag} {mg : Str → Option Value} (T : Top w K mg) : Binds K (fdOf K d_Clay_dry.at_) ["self", "length"] [] := (D_Clay_dry T).binds (fun _ _ _ _ _ _ us hl => match us, hl with | [_, _], _ => rfl)
theorem ok_Clay_dry (T : Top w K mg) : Kp P w K mg base 1 d_Clay_dry ["self", "length"] (spB G (A_dry K) (ds_CI K) rInt) := by
  refine (D_Clay_dry T).ok sc_Clay_dry (spF_len fun _ => rfl) fun A outer s H vs Q E hr hsp => ⟨_, (pss_cons (ps_if (pt_cmpR op_lt (pv 1) pe_int (nomark _)) (pss_one (ps_own (e_ClayError T) (g_ClayError T) (takes_of rfl rfl rfl rfl) rfl)) pss_nil) (pss_one (ps_ret (pe_op op_fdiv (pe_op op_add (pe_op op_mul (pe_op op_mul pe_int (pv 1)) (pe_op op_sub pe_int (pe_fldK (K := K) rfl (pv 0) rfl))) pe_int) pe_int)))), ?_⟩
  refine inB (n := 0) (k := 2) hsp (fun _ => rfl) rfl fun F x hG hO hp hok her => ?_
  obtain ⟨c, l⟩ := x
  obtain ⟨h1, h2, h3, h4, h5, h6⟩ := (show goodC c from hp)
  refine s_seq (s_if (t_of (e_lt (e_var rfl) e_int)) (fun h => s_raise (her h)) (fun h => s_next (s_ret (e_fdiv (e_add (e_mul (e_mul e_int (e_var rfl) ?_) (e_sub e_int (e_fld (c_Clay T) (n_Clay_dries T) h_Clay_dries (e_var rfl))) ?_) e_int) e_int ?_) (hok h))))
  all_goals (first | (unfold CMul; (try dsimp only); first | (left; constructor <;> omega) | (right; constructor <;> omega)) | (unfold CDiv; (try dsimp only); constructor <;> omega))
def mFired (c : ClayV) (l : Int) : Int := (2 * l * (1000 - c.dries) * (1000 - c.fires) + 1000000) / 2000000
def A_fired (K : PySem.W.Frag) : Ans (ClayV × Int) Int := ⟨fun x => goodC x.1, fun x => decide (x.2 < 0), fun _ => aErr K, fun x => mFired x.1 x.2⟩
theorem sc_Clay_fired : FnScope ["self", "length"] ["self", "length"] d_Clay_fired.scope := C8.fnScope_by (by decide +kernel)
theorem b_Clay_fired {w : World} {K : PySem.W.Frag} {mg : Str → Option Value} (T : Top w K mg) : Binds K (fdOf K d_Clay_fired.at_) ["self", "length"] [] := (D_Clay_fired T).binds (fun _ _ _ _ _ _ us hl => match us, hl with | [_, _], _ => rfl)
theorem ok_Clay_fired (T : Top w K mg) : Kp P w K mg base 1 d_Clay_fired ["self", "length"] (spB G (A_fired K) (ds_CI K) rInt) := by
  refine (D_Clay_fired T).ok sc_Clay_fired (spF_len fun _ => rfl) fun A outer s H vs Q E hr hsp => ⟨_, (pss_cons (ps_if (pt_cmpR op_lt (pv 1) pe_int (nomark _)) (pss_one (ps_own (e_ClayError T) (g_ClayError T) (takes_of rfl rfl rfl rfl) rfl)) pss_nil) (pss_one (ps_ret (pe_op op_fdiv (pe_op op_add (pe_op op_mul (pe_op op_mul (pe_op op_mul pe_int (pv 1)) (pe_op op_sub pe_int (pe_fldK (K := K) rfl (pv 0) rfl))) (pe_op op_sub pe_int (pe_fldK (K := K) rfl (pv 0) rfl))) pe_int) pe_int)))), ?_⟩
  refine inB (n := 0) (k := 2) hsp (fun _ => rfl) rfl fun F x hG hO hp hok her => ?_
  obtain ⟨c, l⟩ := x
  obtain ⟨h1, h2, h3, h4, h5, h6⟩ := (show goodC c from hp)
  refine s_seq (s_if (t_of (e_lt (e_var rfl) e_int)) (fun h => s_raise (her h)) (fun h => s_next (s_ret (e_fdiv (e_add (e_mul (e_mul (e_mul e_int (e_var rfl) ?_) (e_sub e_int (e_fld (c_Clay T) (n_Clay_dries T) h_Clay_dries (e_var rfl))) ?_) (e_sub e_int (e_fld (c_Clay T) (n_Clay_fires T) h_Clay_fires (e_var rfl))) ?_) e_int) e_int ?_) (hok h))))
  all_goals (first | (unfold CMul; (try dsimp only); first | (left; constructor <;> omega) | (right; constructor <;> omega)) | (unfold CDiv; (try dsimp only); constructor <;> omega))
def mLost (c : ClayV) : Int := 1000 - (0 - (0 - (1000 - c.dries) * (1000 - c.fires)) / 1000)
def A_lost (K : PySem.W.Frag) : Ans ClayV Int := ⟨goodC, fun _ => false, fun _ => aErr K, mLost⟩
theorem sc_Clay_lost : FnScope ["self"] ["self"] d_Clay_lost.scope := C8.fnScope_by (by decide +kernel)
theorem b_Clay_lost {w : World} {K : PySem.W.Frag} {mg : Str → Option Value} (T : Top w K mg) : Binds K (fdOf K d_Clay_lost.at_) ["self"] [] := (D_Clay_lost T).binds (fun _ _ _ _ _ _ us hl => match us, hl with | [_], _ => rfl)
theorem ok_Clay_lost (T : Top w K mg) : Kp P w K mg base 1 d_Clay_lost ["self"] (spB G (A_lost K) (fun c => [⟨rClay K, c⟩]) rInt) := by
  refine (D_Clay_lost T).ok sc_Clay_lost (spF_len fun _ => rfl) fun A outer s H vs Q E hr hsp => ⟨_, (pss_one (ps_ret (pe_op op_sub pe_int (pe_op op_sub pe_int (pe_op op_fdiv (pe_op op_sub pe_int (pe_op op_mul (pe_op op_sub pe_int (pe_fldK (K := K) rfl (pv 0) rfl)) (pe_op op_sub pe_int (pe_fldK (K := K) rfl (pv 0) rfl)))) pe_int))))), ?_⟩
  refine inB (n := 0) (k := 1) hsp (fun _ => rfl) rfl fun F c hG hO hp hok her => ?_
  obtain ⟨h1, h2, h3, h4, h5, h6⟩ := (show goodC c from hp)
  refine s_ret (e_sub e_int (e_sub e_int (e_fdiv (e_sub e_int (e_mul (e_sub e_int (e_fld (c_Clay T) (n_Clay_dries T) h_Clay_dries (e_var rfl))) (e_sub e_int (e_fld (c_Clay T) (n_Clay_fires T) h_Clay_fires (e_var rfl))) ?_)) e_int ?_))) (hok rfl)
  all_goals (first | (unfold CMul; (try dsimp only); first | (left; constructor <;> omega) | (right; constructor <;> omega)) | (unfold CDiv; (try dsimp only); constructor <;> omega))
/-- from w on, at most n further -/
def wetF (c : ClayV) (l : Int) : Nat → Int → Int
  | 0, w => w
  | n + 1, w => if mFired c w < l then wetF c l n (w + 1) else w
def mWet (c : ClayV) (l : Int) : Int := wetF c l (3 * l + 4).toNat l
theorem fired_big {c : ClayV} {l : Int} (h : goodC c) (hl : 0 ≤ l) : l ≤ mFired c (4 * l + 4) := by
  obtain ⟨h1, h2, h3, h4, h5, h6⟩ := h
  unfold mFired
  have e1 : 500 * (4 * l + 4) ≤ (4 * l + 4) * (1000 - c.dries) := by
    rw [Int.mul_comm]
    exact Int.mul_le_mul_of_nonneg_left (by omega) (by omega)
  have e2 : 500 * (4 * l + 4) * 500 ≤ (4 * l + 4) * (1000 - c.dries) * (1000 - c.fires) := Int.mul_le_mul e1 (by omega) (by omega) (by omega)
  have e3 : 2 * (4 * l + 4) * (1000 - c.dries) * (1000 - c.fires) = 2 * ((4 * l + 4) * (1000 - c.dries) * (1000 - c.fires)) := by
    rw [Int.mul_assoc 2, Int.mul_assoc 2]
  rw [e3]
  generalize (4 * l + 4) * (1000 - c.dries) * (1000 - c.fires) = z at *
  omega
def A_wet (K : PySem.W.Frag) : Ans (ClayV × Int) Int := ⟨fun x => goodC x.1, fun x => decide (x.2 < 0), fun _ => aErr K, fun x => mWet x.1 x.2⟩
theorem sc_Clay_wet_for : FnScope ["self", "length", "found"] ["self", "length"] d_Clay_wet_for.scope := C8.fnScope_by (by decide +kernel)
theorem b_Clay_wet_for {w : World} {K : PySem.W.Frag} {mg : Str → Option Value} (T : Top w K mg) : Binds K (fdOf K d_Clay_wet_for.at_) ["self", "length"] [] := (D_Clay_wet_for T).binds (fun _ _ _ _ _ _ us hl => match us, hl with | [_, _], _ => rfl)
theorem ok_Clay_wet_for (T : Top w K mg) : Kp P w K mg base 2 d_Clay_wet_for ["self", "length"] (spB G (A_wet K) (ds_CI K) rInt) := by
  refine (D_Clay_wet_for T).ok sc_Clay_wet_for (spF_len fun _ => rfl) fun A outer s H vs Q E hr hsp => ⟨_, (pss_cons (ps_if (pt_cmpR op_lt (pv 1) pe_int (nomark _)) (pss_one (ps_own (e_ClayError T) (g_ClayError T) (takes_of rfl rfl rfl rfl) rfl)) pss_nil) (pss_cons (ps_set (i := 2) sc_Clay_wet_for.nd rfl (by first | exact Or.inl rfl | exact Or.inr rfl) (pv 1)) (pss_cons (ps_while (passes_of rfl) (pt_cmpR op_lt (pe_meth (pv 0) (c_Clay T) (m_Clay_fired T) (ok_Clay_fired (G := G) T) (hr.mono (show 1 ≤ 1 by decide)) (b_Clay_fired T) .nil (passes_call (takes_of rfl rfl rfl rfl) (fun _ _ _ _ h => h)) (pa_cons (pv 2) pa_nil)) (pv 1) (nomark _)) (pss_one (ps_aug (i := 2) sc_Clay_wet_for.nd rfl (by first | exact Or.inl rfl | exact Or.inr rfl) pe_int iop_add))) (pss_one (ps_ret (pv 2)))))), ?_⟩
  refine inB (n := 1) (k := 2) hsp (fun _ => rfl) rfl fun F x hG hO hp hok her => ?_
  obtain ⟨c, l⟩ := x
  subst hG
  refine s_seq (s_if (t_of (e_lt (e_var rfl) e_int)) (fun h => s_raise (her h)) (fun h => s_next ?_))
  have hl : 0 ≤ l := by have : ¬ l < 0 := of_decide_eq_false h; omega
  refine s_seq (s_set (e_var rfl) (plain1 rfl) ?_)
  refine s_seq (s_while (Sx := Nat × Int) (Γs := fun z => [.val (rClay K) c, .val rInt l, .val rInt z.2]) (I := fun z => l ≤ z.2 ∧ wetF c l z.1 z.2 = mWet c l ∧ l ≤ mFired c (z.2 + z.1)) (μ := fun z => z.1) (s0 := ((3 * l + 4).toNat, l)) ⟨Int.le_refl _, rfl, ?_⟩ ?_)
  · have e : l + ((3 * l + 4).toNat : Int) = 4 * l + 4 := by omega
    show l ≤ mFired c (l + ((3 * l + 4).toNat : Int))
    rw [e]
    exact fired_big hp hl
  · rintro ⟨n, v⟩ ⟨i1, i2, i3⟩
    refine ⟨_, (t_of (e_lt (e_methB (_, _) (o_Clay_fired) (e_var rfl) (a_cons (e_var rfl) a_nil) rfl ?_ ?_) (e_var rfl))), fun hc N hN => ?_, fun hc => ?_⟩
    · exact hp
    · exact decide_eq_false (by show ¬ v < 0; have : l ≤ v := i1; omega)
    · have hc : mFired c v < l := of_decide_eq_true hc
      have hn : n ≠ 0 := fun z => by
        have i3 : l ≤ mFired c (v + (n : Int)) := i3
        rw [z] at i3
        simp at i3
        omega
      obtain ⟨m, rfl⟩ : ∃ m, n = m + 1 := ⟨n - 1, by omega⟩
      refine s_augI rfl e_int (hN (m, v + 1) ⟨?_, ?_, ?_⟩ (Nat.lt_succ_self m))
      · have : l ≤ v := i1
        show l ≤ v + 1
        omega
      · have i2 : (if mFired c v < l then wetF c l m (v + 1) else v) = mWet c l := i2
        rw [if_pos hc] at i2
        exact i2
      · have e : v + 1 + (m : Int) = v + ((m + 1 : Nat) : Int) := by omega
        show l ≤ mFired c (v + 1 + (m : Int))
        rw [e]
        exact i3
    · have hc : ¬ mFired c v < l := of_decide_eq_false hc
      refine s_ret (a := v) (e_var rfl) ?_
      have e : v = mWet c l := by
        rw [← i2]
        show v = wetF c l n v
        cases n with
        | zero => rfl
        | succ m =>
          show v = if mFired c v < l then wetF c l m (v + 1) else v
          rw [if_neg hc]
      rw [e]
      exact hok h
/-! ### fits_body -/
def ab (i : Int) : Int := if i < 0 then -i else i
def A_fits (K : PySem.W.Frag) : Ans (ClayV × ClayV × Int) Bool := ⟨fun _ => True, fun x => decide (x.2.2 < 0), fun _ => aErr K, fun x => decide (ab (x.1.dries - x.2.1.dries) ≤ x.2.2) && decide (ab (x.1.fires - x.2.1.fires) ≤ x.2.2)⟩
abbrev ds_fits (K : PySem.W.Frag) (x : ClayV × ClayV × Int) : List Dy := [⟨rClay K, x.1⟩, ⟨rClay K, x.2.1⟩, ⟨rInt, x.2.2⟩]
theorem sc_fits_body : FnScope ["one", "other", "far"] ["one", "other", "far"] d_fits_body.scope := C8.fnScope_by (by decide +kernel)
theorem b_fits_body {w : World} {K : PySem.W.Frag} {mg : Str → Option Value} (T : Top w K mg) : Binds K (fdOf K d_fits_body.at_) ["one", "other", "far"] [] := (D_fits_body T).binds (fun _ _ _ _ _ _ us hl => match us, hl with | [_, _, _], _ => rfl)
theorem ok_fits_body (T : Top w K mg) : Kp P w K mg base 1 d_fits_body ["one", "other", "far"] (spB G (A_fits K) (ds_fits K) rBool) := by
  refine (D_fits_body T).ok sc_fits_body (spF_len fun _ => rfl) fun A outer s H vs Q E hr hsp => ⟨_, (pss_cons (ps_if (pt_cmpR op_lt (pv 2) pe_int (nomark _)) (pss_one (ps_own (e_ClayError T) (g_ClayError T) (takes_of rfl rfl rfl rfl) rfl)) pss_nil) (pss_one (ps_ret (pe_and (pe_cmpR op_le (pe_callB call_abs rfl (f_abs T) (by decide +kernel) (pa_cons (pe_op op_sub (pe_fldK (K := K) rfl (pv 0) rfl) (pe_fldK (K := K) rfl (pv 1) rfl)) pa_nil)) (pv 2) (nomark _)) (pe_one (pe_cmpR op_le (pe_callB call_abs rfl (f_abs T) (by decide +kernel) (pa_cons (pe_op op_sub (pe_fldK (K := K) rfl (pv 0) rfl) (pe_fldK (K := K) rfl (pv 1) rfl)) pa_nil)) (pv 2) (nomark _))))))), ?_⟩
  refine inB (n := 0) (k := 3) hsp (fun _ => rfl) rfl fun F x hG hO hp hok her => ?_
  obtain ⟨c, c', f⟩ := x
  exact s_seq (s_if (t_of (e_lt (e_var rfl) e_int)) (fun h => s_raise (her h)) (fun h => s_next (s_ret (e_and (e_le (e_abs (a_cons (e_sub (e_fld (c_Clay T) (n_Clay_dries T) h_Clay_dries (e_var rfl)) (e_fld (c_Clay T) (n_Clay_dries T) h_Clay_dries (e_var rfl))) a_nil)) (e_var rfl)) (fun _ => (e_le (e_abs (a_cons (e_sub (e_fld (c_Clay T) (n_Clay_fires T) h_Clay_fires (e_var rfl)) (e_fld (c_Clay T) (n_Clay_fires T) h_Clay_fires (e_var rfl))) a_nil)) (e_var rfl)))) (hok h))))
end
end KH


set_option Elab.async false
set_option linter.all false
set_option maxRecDepth 100000
set_option maxHeartbeats 1000000
namespace KH
open PySem PySem.Spec PyProof.Rows L2 TP
abbrev cMixed (K : PySem.W.Frag) : Addr := (He.cT K ("mixed", none)).1
abbrev pMixed (K : PySem.W.Frag) : Addr := (He.cT K ("mixed", none)).2
section
variable {P : Program} {w : World} {K : PySem.W.Frag} {mg : Str → Option Value} {base : Heap} {G : List Addr}
/-! ### mixed -/
abbrev Parts := List (ClayV × Int)
def goodP (ps : Parts) : Prop := ps.length ≤ 1000 ∧ ∀ x ∈ ps, goodC x.1 ∧ -1000 ≤ x.2 ∧ x.2 ≤ 1000
def mean (ps : Parts) (k : Int) : Int := (ps.map fun x => List.getD [x.1.dries, x.1.fires, x.1.takes] k.toNat 0 * x.2).sum / (ps.map fun x => x.2).sum
def A_mixed (K : PySem.W.Frag) : Ans (Str × Parts) ClayV := ⟨fun x => goodP x.2, fun x => decide ((x.2.length : Int) = 0) || x.2.any (fun x => decide (x.2 < 1)), fun _ => aErr K, fun x => ⟨x.1, mean x.2 0, mean x.2 1, mean x.2 2⟩⟩
abbrev rPart (K : PySem.W.Frag) : Rp (ClayV × Int) := rT2 (rClay K) rInt
abbrev ds_mixed (K : PySem.W.Frag) (x : Str × Parts) : List Dy := [⟨rStr, x.1⟩, ⟨rList (rPart K), x.2⟩]
theorem bad_mixed {K} {n : Str} {ps : Parts} (h : (A_mixed K).bad (n, ps) = false) : ps ≠ [] ∧ ∀ x ∈ ps, 1 ≤ x.2 := by
  have h : (decide ((ps.length : Int) = 0) || ps.any (fun x => decide (x.2 < 1))) = false := h
  rw [Bool.or_eq_false_iff] at h
  refine ⟨fun z => ?_, fun x hx => ?_⟩
  · have h1 := of_decide_eq_false h.1
    rw [z] at h1
    simp at h1
  · have h2 := List.any_eq_false.mp h.2 x hx
    have : ¬ x.2 < 1 := fun z => h2 (decide_eq_true z)
    omega
theorem whole_pos {ps : Parts} (hg : goodP ps) (h : ps ≠ [] ∧ ∀ x ∈ ps, 1 ≤ x.2) : 0 < (ps.map fun x => x.2).sum ∧ (ps.map fun x => x.2).sum ≤ 1000000 := by
  have hb := sum_bounds (a := 1) (b := 1000) (ns := ps.map fun x => x.2) fun n hn => by
    obtain ⟨x, hx, rfl⟩ := List.mem_map.mp hn
    exact ⟨h.2 x hx, (hg.2 x hx).2.2⟩
  rw [List.length_map] at hb
  have h1 : 0 < ps.length := List.length_pos_iff.mpr h.1
  have h2 := hg.1
  omega
theorem mean_good {ps : Parts} (hg : goodP ps) (h : ps ≠ [] ∧ ∀ x ∈ ps, 1 ≤ x.2) {k : Int} (hk : 0 ≤ k ∧ k < 3) : 0 ≤ mean ps k ∧ mean ps k ≤ 500 := by
  obtain ⟨hw, _⟩ := whole_pos hg h
  have key : ∀ qs : Parts, (∀ x ∈ qs, goodC x.1 ∧ 1 ≤ x.2) → 0 ≤ (qs.map fun x => List.getD [x.1.dries, x.1.fires, x.1.takes] k.toNat 0 * x.2).sum ∧ (qs.map fun x => List.getD [x.1.dries, x.1.fires, x.1.takes] k.toNat 0 * x.2).sum ≤ 500 * (qs.map fun x => x.2).sum := by
    intro qs
    induction qs with
    | nil => intro _; simp
    | cons x qs ih =>
      intro hq
      have h1 := ih fun y hy => hq y (List.mem_cons_of_mem _ hy)
      obtain ⟨⟨g1, g2, g3, g4, g5, g6⟩, g7⟩ := hq x List.mem_cons_self
      have hv : 0 ≤ List.getD [x.1.dries, x.1.fires, x.1.takes] k.toNat 0 ∧ List.getD [x.1.dries, x.1.fires, x.1.takes] k.toNat 0 ≤ 500 := by
        have : k = 0 ∨ k = 1 ∨ k = 2 := by omega
        rcases this with e | e | e <;> subst e <;> simp <;> omega
      rw [List.map_cons, List.sum_cons, List.map_cons, List.sum_cons]
      have h2 : 0 ≤ List.getD [x.1.dries, x.1.fires, x.1.takes] k.toNat 0 * x.2 := Int.mul_nonneg hv.1 (by omega)
      have h3 : List.getD [x.1.dries, x.1.fires, x.1.takes] k.toNat 0 * x.2 ≤ 500 * x.2 := Int.mul_le_mul_of_nonneg_right hv.2 (by omega)
      omega
  obtain ⟨k1, k2⟩ := key ps fun x hx => ⟨(hg.2 x hx).1, h.2 x hx⟩
  unfold mean
  refine ⟨Int.ediv_nonneg k1 (by omega), ?_⟩
  have := Int.ediv_le_ediv hw k2
  rw [Int.mul_ediv_cancel _ (by omega)] at this
  exact this
theorem sc_mixed : FnScope ["name", "parts", "whole", "rows", "place", "clay", "pounds"] ["name", "parts"] d_mixed.scope := C8.fnScope_by (by decide +kernel)
theorem b_mixed {w : World} {K : PySem.W.Frag} {mg : Str → Option Value} (T : Top w K mg) : Binds K (fdOf K d_mixed.at_) ["name", "parts"] [] := (D_mixed T).binds (fun _ _ _ _ _ _ us hl => match us, hl with | [_, _], _ => rfl)
theorem ok_mixed (T : Top w K mg) (TB : GxR.TabB base mg (cMixed K) (pMixed K)) (hPG : pMixed K ∈ G) : Kp P w K mg base 10 d_mixed ["name", "parts"] (spB G (A_mixed K) (ds_mixed K) (rClay K)) := by
  refine (D_mixed T).ok sc_mixed (spF_len fun _ => rfl) fun A outer s H vs Q E hr hsp => ⟨_, (pss_cons (ps_if (PW.pt (pw_or (pt_cmpR op_eq (pe_callB (call_len_seqK (K := K) rfl) rfl (f_len T) (by decide +kernel) (pa_cons (pv 1) pa_nil)) pe_int (nomark _)) (pw_or1 (pt_val (GX.pe_anyG (own := [("clay", 5), ("pounds", 6)]) ⟨hr.mono (show 1 + 8 ≤ 9 by decide), sc_mixed.nd, TB, rfl, GX.gsc_by (by kernel_rfl), (pi_listK (K := K) rfl (pv 1)), fun _ _ _ _ _ _ => (pg_tupK (K := K) (n := 2) rfl rfl (pgs_cons (pg_name (i := 5) sc_mixed.nd rfl (by first | exact Or.inl rfl | exact Or.inr rfl)) (pgs_cons (pg_name (i := 6) sc_mixed.nd rfl (by first | exact Or.inl rfl | exact Or.inr rfl)) pgs_nil))), fun _ _ _ _ _ _ hg1 => pts_nil, fun _ _ _ _ _ _ hg1 => (pe_cmpR op_lt (pv 6) pe_int (nomark _)), fun _ => rfl⟩ rfl (f_any T)))))) (pss_one (ps_own (e_ClayError T) (g_ClayError T) (takes_of rfl rfl rfl rfl) rfl)) pss_nil) (pss_cons (ps_set (i := 2) sc_mixed.nd rfl (by first | exact Or.inl rfl | exact Or.inr rfl) (GX.pe_sumG (own := [("clay", 5), ("pounds", 6)]) ⟨hr.mono (show 1 + 8 ≤ 9 by decide), sc_mixed.nd, TB, rfl, GX.gsc_by (by kernel_rfl), (pi_listK (K := K) rfl (pv 1)), fun _ _ _ _ _ _ => (pg_tupK (K := K) (n := 2) rfl rfl (pgs_cons (pg_name (i := 5) sc_mixed.nd rfl (by first | exact Or.inl rfl | exact Or.inr rfl)) (pgs_cons (pg_name (i := 6) sc_mixed.nd rfl (by first | exact Or.inl rfl | exact Or.inr rfl)) pgs_nil))), fun _ _ _ _ _ _ hg2 => pts_nil, fun _ _ _ _ _ _ hg2 => (pv 6), fun _ => rfl⟩ rfl (f_sum T))) (pss_cons (ps_set (i := 3) sc_mixed.nd rfl (by first | exact Or.inl rfl | exact Or.inr rfl) (pe_lst pa_nil)) (pss_cons (ps_for (passes_of rfl) rfl (pi_range1 rfl (f_range T) (pa_cons pe_int pa_nil)) (pg_name (i := 4) sc_mixed.nd rfl (by first | exact Or.inl rfl | exact Or.inr rfl)) (pss_one (ps_expr (pe_bmK (K := K) rfl PySem.F.plainAttrs_list PySem.F.slot_list_append PySem.F.type_list_append mt_append (pv 3) (pa_cons (pe_op op_fdiv (GX.pe_sumG (own := [("clay", 5), ("pounds", 6)]) ⟨hr.mono (show 1 + 8 ≤ 9 by decide), sc_mixed.nd, TB, rfl, GX.gsc_by (by kernel_rfl), (pi_listK (K := K) rfl (pv 1)), fun _ _ _ _ _ _ => (pg_tupK (K := K) (n := 2) rfl rfl (pgs_cons (pg_name (i := 5) sc_mixed.nd rfl (by first | exact Or.inl rfl | exact Or.inr rfl)) (pgs_cons (pg_name (i := 6) sc_mixed.nd rfl (by first | exact Or.inl rfl | exact Or.inr rfl)) pgs_nil))), fun _ _ _ _ _ _ hg3 => pts_nil, fun _ _ _ _ _ _ hg3 => (pe_op op_mul (pe_ix (ix_tupK (K := K) rfl) (pe_tup (pa_cons (pe_fldK (K := K) rfl (pv 5) rfl) (pa_cons (pe_fldK (K := K) rfl (pv 5) rfl) (pa_cons (pe_fldK (K := K) rfl (pv 5) rfl) pa_nil)))) (pv 4) (fun _ _ => rfl)) (pv 6)), fun _ => rfl⟩ rfl (f_sum T)) (pv 2)) pa_nil))))) (pss_one (ps_ret (pe_make (k_Clay T) (ok_Clay_init (G := G) T) (hr.mono (show 1 + 1 ≤ 9 by decide)) rfl (g_Clay T) (b_Clay_init T) .nil (passes_call (takes_of rfl rfl rfl rfl) (fun _ _ _ _ h => h)) (pa_cons (pv 0) (pa_cons (pe_ix (ix_listK (K := K) rfl) (pv 3) pe_int (fun _ _ => rfl)) (pa_cons (pe_ix (ix_listK (K := K) rfl) (pv 3) pe_int (fun _ _ => rfl)) (pa_cons (pe_ix (ix_listK (K := K) rfl) (pv 3) pe_int (fun _ _ => rfl)) pa_nil))))))))))), ?_⟩
  refine inB (n := 5) (k := 2) hsp (fun _ => rfl) rfl fun F x hG hO hp hok her => ?_
  obtain ⟨nm, ps⟩ := x
  subst hG
  have hP : pMixed K ∈ F.G := hPG
  obtain ⟨hlen, hgood⟩ := (show goodP ps from hp)
  refine s_seq (s_if (t_or (t_of (e_eqI (e_len (a_cons (e_var rfl) a_nil)) e_int)) (fun _ => (t_B (e_anyT0 hP (src_list (e_var rfl)) ?_ (noAll_of rfl) (fun x1 hx1 => (tg_t2 (tg_name (plain1 rfl)) (tg_name (plain1 rfl)))) (by decide) (fun x1 => ⟨plAll_of rfl, rfl⟩) (fun x1 hx1 => (e_lt (e_var rfl) e_int)))))) (fun h => s_raise (her h)) (fun h => s_next ?_))
  · show ps.length ≤ 100000
    omega
  have hp' : goodP ps := hp
  have hb : ps ≠ [] ∧ ∀ x ∈ ps, 1 ≤ x.2 := bad_mixed (K := K) (n := nm) h
  obtain ⟨hne, hpos⟩ := hb
  have hw : 0 < (ps.map fun x => x.2).sum ∧ (ps.map fun x => x.2).sum ≤ 1000000 := whole_pos hp' ⟨hne, hpos⟩
  obtain ⟨hw1, hw2⟩ := hw
  refine s_seq (s_set (e_sumT0 hP (src_list (e_var rfl)) ?_ (noAll_of rfl) (fun x2 hx2 => (tg_t2 (tg_name (plain1 rfl)) (tg_name (plain1 rfl)))) (by decide) (fun x2 => ⟨plAll_of rfl, rfl⟩) (fun x2 hx2 => (e_var rfl)) ?_) (plain1 rfl) ?_)
  · show ps.length ≤ 100000
    omega
  · refine sum_long (B := 1000) (fun n hn => ?_) (by decide) ?_
    · obtain ⟨x, hx, rfl⟩ := List.mem_map.mp hn
      exact ⟨(hgood x hx).2.1, (hgood x hx).2.2⟩
    · rw [List.length_map]; show (ps.length : Int) * 1000 < 2 ^ 62; omega
  refine s_seq (s_newL (xs := ([] : List Int)) (R := rInt) a_nil (plain1 rfl) (show 3 < 7 by decide) (by decide) ?_)
  try dsimp only
  refine s_seq (s_forN (fun rs => [.val rStr nm, .val (rList (rPart K)) ps, .val rInt (ps.map fun x => x.2).sum, .own (oLst rInt rs), .no, .no, .no]) (fun rs k => rs ++ [mean ps k]) (fun i rs => rs.length = i) (s0 := []) (xs := upFrom 0 3) rfl (fun i rs k hi _ => by rw [List.length_append, hi]; rfl) (src_rng1 (a_cons e_int a_nil) ?_ ?_) (fun i rs k hrs hki => ⟨_, _, (tg_name (plain1 rfl)), fun g' N hN hB => ?_⟩) (fun _ => ?_))
  · decide
  · decide
  · have hk' := upFrom_mem.mp (List.mem_of_getElem? hki)
    have hi3 : i < 3 := (List.getElem?_eq_some_iff.mp hki).1
    have hk3 : 0 ≤ k ∧ k < 3 := ⟨hk'.1, by have := hk'.2; omega⟩
    refine s_append rfl rfl (e_fdiv (e_sumT0 hP (src_list (e_var rfl)) ?_ (noAll_of rfl) (fun x3 hx3 => (tg_t2 (tg_name (plain1 rfl)) (tg_name (plain1 rfl)))) (by decide) (fun x3 => ⟨plAll_of rfl, rfl⟩) (fun x3 hx3 => (e_mul (e_ixTd (d := 0) (e_tup (xs := [_, _, _]) (a_cons (e_fld (c_Clay T) (n_Clay_dries T) h_Clay_dries (e_var rfl)) (a_cons (e_fld (c_Clay T) (n_Clay_fires T) h_Clay_fires (e_var rfl)) (a_cons (e_fld (c_Clay T) (n_Clay_takes T) h_Clay_takes (e_var rfl)) a_nil))) (by simp)) (e_var rfl) ?_) (e_var rfl) ?_)) ?_) (e_var rfl) ?_) (by omega) (s_le (by repeat' (first | exact Le.nil | apply Le.same | refine Le.no trivial ?_)) hN)
    · show ps.length ≤ 100000
      omega
    · exact ⟨hk3.1, hk3.2⟩
    · obtain ⟨_, g1, g2⟩ := hgood x3 hx3
      exact Or.inr ⟨by show -(2 ^ 64) < x3.2; omega, by show x3.2 < 2 ^ 64; omega⟩
    · refine sum_long (B := 500000) (fun n hn => ?_) (by decide) ?_
      · obtain ⟨x, hx, rfl⟩ := List.mem_map.mp hn
        obtain ⟨⟨c1, c2, c3, c4, c5, c6⟩, g1, g2⟩ := hgood x hx
        have hv : 0 ≤ List.getD [x.1.dries, x.1.fires, x.1.takes] k.toNat 0 ∧ List.getD [x.1.dries, x.1.fires, x.1.takes] k.toNat 0 ≤ 500 := by
          have : k = 0 ∨ k = 1 ∨ k = 2 := by omega
          rcases this with e | e | e <;> subst e <;> simp <;> omega
        have h1 : List.getD [x.1.dries, x.1.fires, x.1.takes] k.toNat 0 * x.2 ≤ 500 * 1000 := by
          have := Int.mul_le_mul_of_nonneg_left g2 hv.1
          have h3 := Int.mul_le_mul_of_nonneg_right hv.2 (show (0 : Int) ≤ 1000 by decide)
          omega
        have h2 : 500 * (-1000) ≤ List.getD [x.1.dries, x.1.fires, x.1.takes] k.toNat 0 * x.2 := by
          have := Int.mul_le_mul_of_nonneg_left g1 hv.1
          have h3 := Int.mul_le_mul_of_nonpos_right hv.2 (show (-1000 : Int) ≤ 0 by decide)
          omega
        exact ⟨by show -500000 ≤ _; omega, by show _ ≤ 500000; omega⟩
      · rw [List.length_map]; show (ps.length : Int) * 500000 < 2 ^ 62; omega
    · exact ⟨hw1, by show (ps.map fun x => x.2).sum < 1073741824; have := hw2; omega⟩
  · have e3 : (upFrom 0 3).foldl (fun rs k => rs ++ [mean ps k]) [] = [mean ps 0, mean ps 1, mean ps 2] := rfl
    rw [e3]
    try dsimp only
    refine s_ret (R := rClay K) (a := (A_mixed K).r (nm, ps)) (e_is (e_makeB (_, _, _, _) (a_cons (e_var rfl) (a_cons (e_ixOd (d := 0) rfl e_int ?_) (a_cons (e_ixOd (d := 0) rfl e_int ?_) (a_cons (e_ixOd (d := 0) rfl e_int ?_) a_nil)))) ?_ ?_) ?_) (hok h)
    · exact ⟨by decide, by show (0 : Int) < 3; decide⟩
    · exact ⟨by decide, by show (1 : Int) < 3; decide⟩
    · exact ⟨by decide, by show (2 : Int) < 3; decide⟩
    · trivial
    · obtain ⟨a1, a2⟩ := mean_good hp' ⟨hne, hpos⟩ (k := 0) (by decide)
      obtain ⟨b1, b2⟩ := mean_good hp' ⟨hne, hpos⟩ (k := 1) (by decide)
      obtain ⟨c1, c2⟩ := mean_good hp' ⟨hne, hpos⟩ (k := 2) (by decide)
      show badN (mean ps 0) (mean ps 1) (mean ps 2) = false
      unfold badN
      rw [Bool.or_eq_false_iff]
      exact ⟨decide_eq_false (by omega), decide_eq_false (by omega)⟩
    · rfl
/-! ### best_mix -/
abbrev T3 := Int × Int × Int
def twoOf (one other : ClayV) (a b : Int) : Parts := ([(one, a), (other, b)].filter fun x => decide (0 < x.2)).map fun x => (x.1, x.2)
def rowOf (one other : ClayV) (wish a b : Int) : T3 := (ab (mLost ⟨"mix", mean (twoOf one other a b) 0, mean (twoOf one other a b) 1, mean (twoOf one other a b) 2⟩ - wish), a, b)
def ltT3 (x y : T3) : Bool := HT.lexLt [x.1, x.2.1, x.2.2] [y.1, y.2.1, y.2.2]
def better (b : Option T3) (row : T3) : Option T3 := match b with
  | none => some row
  | some v => some (if ltT3 row v = true then row else v)
def bmS (one other : ClayV) (wish : Int) (best : Option T3) (a b : Int) : Option T3 := if (twoOf one other a b).isEmpty = true then best else better best (rowOf one other wish a b)
def mBest (one other : ClayV) (wish most : Int) : Option T3 := (upFrom 0 (most + 1).toNat).foldl (fun b x => (upFrom 0 (most + 1).toNat).foldl (fun b y => bmS one other wish b x y) b) none
abbrev InB := ClayV × ClayV × Int × Int
def A_best (K : PySem.W.Frag) : Ans InB T3 := ⟨fun x => goodC x.1 ∧ goodC x.2.1 ∧ x.2.2.2 ≤ 100, fun x => decide (x.2.2.2 < 1), fun _ => aErr K, fun x => (mBest x.1 x.2.1 x.2.2.1 x.2.2.2).getD (0, 0, 0)⟩
abbrev ds_best (K : PySem.W.Frag) (x : InB) : List Dy := [⟨rClay K, x.1⟩, ⟨rClay K, x.2.1⟩, ⟨rInt, x.2.2.1⟩, ⟨rInt, x.2.2.2⟩]
abbrev rT3i : Rp T3 := rT3 rInt rInt rInt
theorem two_mem {one other : ClayV} {a b : Int} {x : ClayV × Int} (h : x ∈ twoOf one other a b) : (x = (one, a) ∨ x = (other, b)) ∧ 0 < x.2 := by
  unfold twoOf at h
  obtain ⟨y, hy, rfl⟩ := List.mem_map.mp h
  obtain ⟨h1, h2⟩ := List.mem_filter.mp hy
  exact ⟨by rcases List.mem_cons.mp h1 with e | h1; exact .inl e; exact .inr (List.mem_singleton.mp h1), of_decide_eq_true h2⟩
theorem two_good {one other : ClayV} {a b : Int} (h1 : goodC one) (h2 : goodC other) (ha : 0 ≤ a ∧ a ≤ 1000) (hb : 0 ≤ b ∧ b ≤ 1000) : goodP (twoOf one other a b) := by
  refine ⟨?_, fun x hx => ?_⟩
  · unfold twoOf
    rw [List.length_map]
    exact Nat.le_trans (List.length_filter_le _ _) (show 2 ≤ 1000 by decide)
  · obtain ⟨e | e, h⟩ := two_mem hx
    · subst e; exact ⟨h1, by show -1000 ≤ a; omega, ha.2⟩
    · subst e; exact ⟨h2, by show -1000 ≤ b; omega, hb.2⟩
theorem two_ok {K} {one other : ClayV} {a b : Int} {n : Str} (h : (twoOf one other a b).isEmpty = false) : (A_mixed K).bad (n, twoOf one other a b) = false := by
  show (decide (((twoOf one other a b).length : Int) = 0) || (twoOf one other a b).any (fun x => decide (x.2 < 1))) = false
  rw [Bool.or_eq_false_iff]
  refine ⟨decide_eq_false fun z => ?_, List.any_eq_false.mpr fun x hx => ?_⟩
  · have : (twoOf one other a b).length = 0 := by omega
    rw [List.length_eq_zero_iff.mp this] at h
    cases h
  · have := (two_mem hx).2
    simp; omega
theorem better_some {b : Option T3} {r : T3} : (better b r).isSome = true := by cases b <;> rfl
theorem bmS_some {one other : ClayV} {wish : Int} {b : Option T3} {x y : Int} (h : b.isSome = true) : (bmS one other wish b x y).isSome = true := by
  unfold bmS
  split
  · exact h
  · exact better_some
theorem fold_some {α : Type} {f : Option T3 → α → Option T3} (h : ∀ b x, b.isSome = true → (f b x).isSome = true) : ∀ {xs : List α} {b : Option T3}, b.isSome = true → (xs.foldl f b).isSome = true
  | [], _, hb => hb
  | x :: xs, b, hb => fold_some h (xs := xs) (h b x hb)
theorem mBest_some {one other : ClayV} {wish most : Int} (hm : 1 ≤ most) : (mBest one other wish most).isSome = true := by
  unfold mBest
  obtain ⟨n, hn⟩ : ∃ n, (most + 1).toNat = n + 2 := ⟨(most - 1).toNat, by omega⟩
  have e : upFrom 0 (n + 2) = 0 :: 1 :: (upFrom 0 (n + 2)).drop 2 := by
    unfold upFrom
    rw [List.range_succ_eq_map, List.range_succ_eq_map]
    rfl
  rw [hn, e, List.foldl_cons]
  refine fold_some (fun b x hb => fold_some (fun b y hb => bmS_some hb) hb) ?_
  rw [List.foldl_cons, List.foldl_cons]
  refine fold_some (fun b y hb => bmS_some hb) ?_
  rw [bmS, if_neg (by simp [twoOf])]
  exact better_some
theorem sc_best_mix : FnScope ["one", "other", "wish", "most", "best", "first", "second", "parts", "row", "clay", "pounds"] ["one", "other", "wish", "most"] d_best_mix.scope := C8.fnScope_by (by decide +kernel)
theorem b_best_mix {w : World} {K : PySem.W.Frag} {mg : Str → Option Value} (T : Top w K mg) : Binds K (fdOf K d_best_mix.at_) ["one", "other", "wish", "most"] [] := (D_best_mix T).binds (fun _ _ _ _ _ _ us hl => match us, hl with | [_, _, _, _], _ => rfl)
theorem ok_best_mix (T : Top w K mg) (TB : GxR.TabB base mg (cMixed K) (pMixed K)) (hPG : pMixed K ∈ G) : Kp P w K mg base 11 d_best_mix ["one", "other", "wish", "most"] (spB G (A_best K) (ds_best K) rT3i) := by
  refine (D_best_mix T).ok sc_best_mix (spF_len fun _ => rfl) fun A outer s H vs Q E hr hsp => ⟨_, (pss_cons (ps_if (pt_cmpR op_lt (pv 3) pe_int (nomark _)) (pss_one (ps_own (e_ClayError T) (g_ClayError T) (takes_of rfl rfl rfl rfl) rfl)) pss_nil) (pss_cons (ps_set (i := 4) sc_best_mix.nd rfl (by first | exact Or.inl rfl | exact Or.inr rfl) pe_non) (pss_cons (ps_for (passes_of rfl) rfl (pi_range1 rfl (f_range T) (pa_cons (pe_op op_add (pv 3) pe_int) pa_nil)) (pg_name (i := 5) sc_best_mix.nd rfl (by first | exact Or.inl rfl | exact Or.inr rfl)) (pss_one (ps_for (passes_of rfl) rfl (pi_range1 rfl (f_range T) (pa_cons (pe_op op_add (pv 3) pe_int) pa_nil)) (pg_name (i := 6) sc_best_mix.nd rfl (by first | exact Or.inl rfl | exact Or.inr rfl)) (pss_cons (ps_setLc (i := 7) rfl sc_best_mix.nd rfl rfl (sw_true rfl rfl rfl rfl) (own := [("clay", 9), ("pounds", 10)]) (pi_tupK (K := K) rfl (pe_tup (pa_cons (pe_tup (pa_cons (pv 0) (pa_cons (pv 5) pa_nil))) (pa_cons (pe_tup (pa_cons (pv 1) (pa_cons (pv 6) pa_nil))) pa_nil)))) (blkOk_by (by kernel_rfl)) (fun _ _ _ _ _ => (pg_tupK (K := K) (n := 2) rfl rfl (pgs_cons (pg_name (i := 9) sc_best_mix.nd rfl (by first | exact Or.inl rfl | exact Or.inr rfl)) (pgs_cons (pg_name (i := 10) sc_best_mix.nd rfl (by first | exact Or.inl rfl | exact Or.inr rfl)) pgs_nil)))) (fun _ _ _ _ _ => (pts_one (pt_cmpR op_gt (pv 10) pe_int (nomark _)))) (fun _ _ _ _ _ => (pe_tup (pa_cons (pv 9) (pa_cons (pv 10) pa_nil))))) (pss_one (ps_if (pt_cmpR (op_neEK (K := K) rfl hr.units0) (pv 7) (pe_lst pa_nil) (nomark _)) (pss_cons (ps_set (i := 8) sc_best_mix.nd rfl (by first | exact Or.inl rfl | exact Or.inr rfl) (pe_tup (pa_cons (pe_callB call_abs rfl (f_abs T) (by decide +kernel) (pa_cons (pe_op op_sub (pe_meth0 (pe_call (ok_mixed (G := G) T TB hPG) (hr.mono (show 10 ≤ 10 by decide)) rfl (g_mixed T) (D_mixed T).kp (b_mixed T) .nil (passes_call (takes_of rfl rfl rfl rfl) (fun _ _ _ _ h => h)) (pa_cons pe_str (pa_cons (pv 7) pa_nil))) (c_Clay T) (m_Clay_lost T) (ok_Clay_lost (G := G) T) (hr.mono (show 1 ≤ 10 by decide)) (b_Clay_lost T) .nil (passes_call (takes_of rfl rfl rfl rfl) (fun _ _ _ _ h => h))) (pv 2)) pa_nil)) (pa_cons (pv 5) (pa_cons (pv 6) pa_nil))))) (pss_one (ps_set (i := 4) sc_best_mix.nd rfl (by first | exact Or.inl rfl | exact Or.inr rfl) (pe_ifExp (PW.pt (pw_or (pt_cmpR op_isN (pv 4) pe_non (nomark _)) (pw_or1 (pt_cmpR (op_ltTK (K := K) rfl hr.units0) (pv 8) (pv 4) (nomark _))))) (pv 8) (pv 4))))) pss_nil)))))) (pss_one (ps_ret (pv 4)))))), ?_⟩
  refine inB (n := 7) (k := 4) hsp (fun _ => rfl) rfl fun F x hG hO hp hok her => ?_
  obtain ⟨one, other, wish, most⟩ := x
  subst hG
  have hp' : goodC one ∧ goodC other ∧ most ≤ 100 := hp
  obtain ⟨g1, g2, g3⟩ := hp'
  refine s_seq (s_if (t_of (e_lt (e_var rfl) e_int)) (fun h => s_raise (her h)) (fun h => s_next ?_))
  have hm : 1 ≤ most := by have : ¬ most < 1 := of_decide_eq_false h; omega
  try dsimp only
  refine s_seq (s_set (R := rOpt rT3i) (a := none) (e_none e_non) (plain1 rfl) ?_)
  try dsimp only
  refine s_seq (s_forF (Γs := fun b => [.val (rClay K) one, .val (rClay K) other, .val rInt wish, .val rInt most, .val (rOpt rT3i) b, .no, .no, .no, .no, .no, .no]) (fun b x => (upFrom 0 (most + 1).toNat).foldl (fun b y => bmS one other wish b x y) b) (fun _ => True) (s0 := none) (xs := upFrom 0 (most + 1).toNat) trivial (fun _ _ _ _ => trivial) (src_rng1 (a_cons (e_add (e_var rfl) e_int) a_nil) ?_ ?_) (fun b x _ hx => ⟨_, _, (tg_name (plain1 rfl)), fun g' N hN hB => ?_⟩) (fun _ => ?_))
  · show -(2 ^ 62) ≤ most + 1
    omega
  · show most + 1 < 2 ^ 62
    omega
  · have hx' := upFrom_mem.mp hx
    refine s_forF (Γs := fun b => [.val (rClay K) one, .val (rClay K) other, .val rInt wish, .val rInt most, .val (rOpt rT3i) b, .val rInt x, .no, .no, .no, .no, .no]) (fun b y => bmS one other wish b x y) (fun _ => True) (s0 := b) (xs := upFrom 0 (most + 1).toNat) trivial (fun _ _ _ _ => trivial) (src_rng1 (a_cons (e_add (e_var rfl) e_int) a_nil) ?_ ?_) (fun b y _ hy => ⟨_, _, (tg_name (plain1 rfl)), fun g2' N2 hN2 hB2 => ?_⟩) (fun _ => s_le (by repeat' (first | exact Le.nil | apply Le.same | refine Le.no trivial ?_)) hN)
    · show -(2 ^ 62) ≤ most + 1
      omega
    · show most + 1 < 2 ^ 62
      omega
    have hy' := upFrom_mem.mp hy
    refine s_seq (s_set (e_lcT  (src_tup (e_tup (xs := [_, _]) (a_cons (e_t2 (a_cons (e_var rfl) (a_cons (e_var rfl) a_nil))) (a_cons (e_t2 (a_cons (e_var rfl) (a_cons (e_var rfl) a_nil))) a_nil)) (by simp))) ?_ (noAll_of rfl) (fun x1 hx1 => (tg_t2 (tg_name (plain1 rfl)) (tg_name (plain1 rfl)))) (by decide) (fun x1 => ⟨plAll_of rfl, rfl⟩) (fun x1 hx1 => (t_of (e_gt (e_var rfl) e_int))) (fun x1 hx1 hx1t => (e_t2 (a_cons (e_var rfl) (a_cons (e_var rfl) a_nil))))) (plain1 rfl) ?_)
    · simp
    try dsimp only
    refine s_if (t_of (e_neE (e_var rfl))) (fun hc => ?_) (fun hc => s_next ?_)
    · have hc : (!(twoOf one other x y).isEmpty) = true := hc
      have hne : (twoOf one other x y).isEmpty = false := by simpa using hc
      try dsimp only
      have gp : goodP (twoOf one other x y) := two_good g1 g2 ⟨hx'.1, by omega⟩ ⟨hy'.1, by omega⟩
      have hmn := whole_pos gp
      refine s_seq (s_set (R := rT3i) (a := rowOf one other wish x y) (e_t3 (a_cons (e_abs (a_cons (e_sub (e_methB _ (o_Clay_lost) (e_callB (_, _) (a_cons e_str (a_cons (e_var rfl) a_nil)) ?_ ?_) a_nil rfl ?_ ?_) (e_var rfl)) a_nil)) (a_cons (e_var rfl) (a_cons (e_var rfl) a_nil)))) (plain1 rfl) ?_)
      · exact gp
      · exact two_ok hne
      · have mg0 := fun k hk => mean_good gp (bad_mixed (K := K) (n := "mix") (two_ok hne)) (k := k) hk
        exact ⟨(mg0 0 (by decide)).1, (mg0 0 (by decide)).2, (mg0 1 (by decide)).1, (mg0 1 (by decide)).2, (mg0 2 (by decide)).1, (mg0 2 (by decide)).2⟩
      · rfl
      try dsimp only
      have hb : bmS one other wish b x y = better b (rowOf one other wish x y) := by unfold bmS; rw [if_neg (by rw [hne]; exact Bool.false_ne_true)]
      rw [hb] at hN2
      cases b with
      | none => exact s_set (R := rOpt rT3i) (a := some (rowOf one other wish x y)) (e_if (b := true) (t_or (c := true) (t_of (e_isN (R := rT3i) (x := none) (e_var rfl) e_non (fun h v a hr => by obtain ⟨p, _, _, _, e, _⟩ := hr; rw [e]; exact V.noConfusion))) (fun h => nomatch h)) (fun _ => e_some (e_var rfl)) (fun h => nomatch h)) (plain1 rfl) (s_le (by repeat' (first | exact Le.nil | apply Le.same | refine Le.no trivial ?_)) hN2)
      | some v => exact s_set (R := rOpt rT3i) (a := some (if ltT3 (rowOf one other wish x y) v = true then rowOf one other wish x y else v)) (e_some (e_ite (t_or (t_of (e_isN (R := rT3i) (x := some v) (e_var rfl) e_non (fun h v a hr => by obtain ⟨p, _, _, _, e, _⟩ := hr; rw [e]; exact V.noConfusion))) (fun _ => t_of (e_ltT3 (e_var rfl) (e_unsome (e_var rfl))))) (fun _ => e_var rfl) (fun _ => e_unsome (e_var rfl)))) (plain1 rfl) (s_le (by repeat' (first | exact Le.nil | apply Le.same | refine Le.no trivial ?_)) hN2)
    · have hc : (!(twoOf one other x y).isEmpty) = false := hc
      have hb : bmS one other wish b x y = b := by unfold bmS; rw [if_pos (by simpa using hc)]
      rw [hb] at hN2
      exact s_le (by repeat' (first | exact Le.nil | apply Le.same | refine Le.no trivial ?_)) hN2
  · try dsimp only
    obtain ⟨v, hv⟩ := Option.isSome_iff_exists.mp (mBest_some (one := one) (other := other) (wish := wish) hm)
    refine s_ret (R := rT3i) (a := (A_best K).r (one, other, wish, most)) (e_unsome (e_is (e_var rfl) ?_)) (hok h)
    show mBest one other wish most = some ((mBest one other wish most).getD (0, 0, 0))
    rw [hv]; rfl
end
end KH


set_option Elab.async false
set_option linter.all false
set_option maxRecDepth 100000
set_option maxHeartbeats 1000000
namespace KH
open PySem PySem.Spec PyProof.Rows L2 TP
section
variable {P : Program} {w : World} {K : PySem.W.Frag} {mg : Str → Option Value} {base : Heap} {G : List Addr}
/-! ### dice -/
abbrev Dice := Int × Int × Int
def dl (d : Dice) : List Int := [d.1, d.2.1, d.2.2]
def absI (i : Int) : Int := if i < 0 then -i else i
def rDice (c : Int) : List Int := if (decide (-10 < c) && decide (c < 10)) = true then [absI c, 0, 2] else [c, 1 + c % 1009, if decide (10 ^ 18 ≤ c) then 1 else 0]
def A_dice (K : PySem.W.Frag) : Ans Int (List Int) := ⟨fun _ => True, fun _ => false, fun _ => 0, rDice⟩
theorem sc_law_dice : FnScope ["cell"] ["cell"] d_law_dice.scope := C8.fnScope_by (by decide +kernel)
theorem b_law_dice {w : World} {K : PySem.W.Frag} {mg : Str → Option Value} (T : Top w K mg) : Binds K (fdOf K d_law_dice.at_) ["cell"] [] := (D_law_dice T).binds (fun _ _ _ _ _ _ us hl => match us, hl with | [_], _ => rfl)
theorem ok_law_dice (T : Top w K mg) : Kp P w K mg base 1 d_law_dice ["cell"] (spB G (A_dice K) (fun c => [⟨rInt, c⟩]) (rList rInt)) := by
  refine (D_law_dice T).ok sc_law_dice (spF_len fun _ => rfl) fun A outer s H vs Q E hr hsp => ⟨_, (pss_cons (ps_if (pt_chain op_lt op_lt (pe_op op_sub pe_int pe_int) (pv 0) pe_int) (pss_one (ps_ret (pe_lst (pa_cons (pe_callB call_abs rfl (f_abs T) (by decide +kernel) (pa_cons (pv 0) pa_nil)) (pa_cons pe_int (pa_cons pe_int pa_nil)))))) pss_nil) (pss_one (ps_ret (pe_lst (pa_cons (pv 0) (pa_cons (pe_op op_add pe_int (pe_op op_mod (pe_callTy call_int1 rfl (f_int T) (by decide +kernel) (pa_cons (pv 0) pa_nil)) pe_int)) (pa_cons (pe_callTy call_int1 rfl (f_int T) (by decide +kernel) (pa_cons (pe_cmpR op_ge (pv 0) (pe_op op_pow pe_int pe_int) (nomark _)) pa_nil)) pa_nil))))))), ?_⟩
  refine inB (n := 0) (k := 1) hsp (fun _ => rfl) rfl fun F c hG hO hp hok her => ?_
  refine s_seq (s_if (t_of (e_chain (e_sub e_int e_int) (e_var rfl) (op_I0 (f := fun i j => decide (i < j)) fun _ => rfl) (fun _ => e_int) (op_I0 (f := fun i j => decide (i < j)) fun _ => rfl))) (fun h => ?_) (fun h => s_next ?_))
  · refine s_ret (R := rList rInt) (a := rDice c) (e_is (e_lst (xs := [_, _, _]) (a_cons (e_abs (a_cons (e_var rfl) a_nil)) (a_cons e_int (a_cons e_int a_nil))) (by simp)) ?_) (hok rfl)
    have h : (decide (-10 < c) && decide (c < 10)) = true := h
    unfold rDice
    rw [if_pos h]; rfl
  · try dsimp only
    refine s_ret (R := rList rInt) (a := rDice c) (e_is (e_lst (xs := [_, _, _]) (a_cons (e_var rfl) (a_cons (e_add e_int (e_mod (e_intI (a_cons (e_var rfl) a_nil)) e_int ?_)) (a_cons (e_intB (a_cons (e_ge (e_var rfl) (e_pow e_int e_int ?_)) a_nil)) a_nil))) (by simp)) ?_) (hok rfl)
    · decide
    · exact ⟨by decide, by decide, by decide⟩
    have h : (decide (-10 < c) && decide (c < 10)) = false := h
    show _ = rDice c
    unfold rDice
    rw [h]; rfl
/-! ### roll -/
def big (d : Dice) : Bool := decide (d.2.2 = 2) || (decide (d.2.2 = 1) && decide (0 < d.1))
def nxt (d : Dice) : Int := (d.1 * 48271 + d.2.1 * 69621 + 11) % 2147483647
def rollD (d : Dice) (many : Int) : Dice := if big d = true then (d.1 / many, d.2.1, d.2.2) else (nxt d, d.2.1 + 1, 0)
def rollV (d : Dice) (many : Int) : Int := if big d = true then d.1 % many else (nxt d / 7) % many
def A_roll (K : PySem.W.Frag) : Ans (Dice × Int) Int := ⟨fun x => 1 ≤ x.2 ∧ x.2 ≤ 100000000, fun _ => false, fun _ => 0, fun x => rollV x.1 x.2⟩
abbrev O_roll (x : Dice × Int) : Ow := oLst rInt (dl x.1)
abbrev O_roll' (x : Dice × Int) : Ow := oLst rInt (dl (rollD x.1 x.2))
abbrev pinL (v : V) (ps : List Addr) (p : Addr) : Prop := v = .ref p ∧ ps = [p]
theorem pin_out {xs : List Int} {v : V} {ps : List Addr} : ∀ h H qs u, (oLstP (pinL v ps) rInt xs).own h H qs u → u = v ∧ qs = ps ∧ (oLst rInt xs).own h H ps v := fun h H qs u ⟨p, vs, ⟨c1, c2⟩, e1, e2, e3, r⟩ => by
  subst c1 c2
  exact ⟨e1, e2, p, vs, trivial, rfl, rfl, e3, r⟩
theorem sc_law_roll : FnScope ["dice", "many", "found"] ["dice", "many"] d_law_roll.scope := C8.fnScope_by (by decide +kernel)
theorem b_law_roll {w : World} {K : PySem.W.Frag} {mg : Str → Option Value} (T : Top w K mg) : Binds K (fdOf K d_law_roll.at_) ["dice", "many"] [] := (D_law_roll T).binds (fun _ _ _ _ _ _ us hl => match us, hl with | [_, _], _ => rfl)
theorem ok_law_roll (T : Top w K mg) : Kp P w K mg base 1 d_law_roll ["dice", "many"] (spBO G (A_roll K) O_roll O_roll' (fun x => [⟨rInt, x.2⟩]) rInt) := by
  refine (D_law_roll T).ok sc_law_roll (spO_len fun _ => rfl) fun A outer s H vs Q E hr hsp => ⟨_, (pss_cons (ps_if (PW.pt (pw_or (pt_cmpR op_eq (pe_ix (ix_listK (K := K) rfl) (pv 0) pe_int (fun _ _ => rfl)) pe_int (nomark _)) (pw_or1 (PW.pt (pw_and (pt_cmpR op_eq (pe_ix (ix_listK (K := K) rfl) (pv 0) pe_int (fun _ _ => rfl)) pe_int (nomark _)) (pw_and1 (pt_cmpR op_gt (pe_ix (ix_listK (K := K) rfl) (pv 0) pe_int (fun _ _ => rfl)) pe_int (nomark _)))))))) (pss_cons (ps_set (i := 2) sc_law_roll.nd rfl (by first | exact Or.inl rfl | exact Or.inr rfl) (pe_op op_mod (pe_callTy call_int1 rfl (f_int T) (by decide +kernel) (pa_cons (pe_ix (ix_listK (K := K) rfl) (pv 0) pe_int (fun _ _ => rfl)) pa_nil)) (pv 1))) (pss_cons (ps_asg (pe_op op_fdiv (pe_ix (ix_listK (K := K) rfl) (pv 0) pe_int (fun _ _ => rfl)) (pv 1)) (pg_sub (pv 0) pe_int set_list)) (pss_one (ps_ret (pv 2))))) pss_nil) (pss_cons (ps_asg pe_int (pg_sub (pv 0) pe_int set_list)) (pss_cons (ps_if (pt_cmpR op_gt (pv 1) pe_int (nomark _)) pss_never pss_nil) (pss_cons (ps_asg (pe_op op_mod (pe_callTy call_int1 rfl (f_int T) (by decide +kernel) (pa_cons (pe_op op_add (pe_op op_add (pe_op op_mul (pe_ix (ix_listK (K := K) rfl) (pv 0) pe_int (fun _ _ => rfl)) pe_int) (pe_op op_mul (pe_ix (ix_listK (K := K) rfl) (pv 0) pe_int (fun _ _ => rfl)) pe_int)) pe_int) pa_nil)) pe_int) (pg_sub (pv 0) pe_int set_list)) (pss_cons (ps_asg (pe_op op_add (pe_ix (ix_listK (K := K) rfl) (pv 0) pe_int (fun _ _ => rfl)) pe_int) (pg_sub (pv 0) pe_int set_list)) (pss_one (ps_ret (pe_op op_mod (pe_callTy call_int1 rfl (f_int T) (by decide +kernel) (pa_cons (pe_op op_fdiv (pe_ix (ix_listK (K := K) rfl) (pv 0) pe_int (fun _ _ => rfl)) pe_int) pa_nil)) (pv 1))))))))), ?_⟩
  refine inBO (n := 1) (k := 1) (Oi := fun x v ps => oLstP (pinL v ps) rInt (dl x.1)) hsp (fun _ => rfl) rfl (fun x h H ps v ⟨p, vs, _, e1, e2, e3, r⟩ => ⟨p, vs, ⟨e1, e2⟩, e1, e2, e3, r⟩) fun F x v ps hG hO hp hok => ?_
  obtain ⟨⟨a, b, c⟩, many⟩ := x
  obtain ⟨m1, m2⟩ := (show 1 ≤ many ∧ many ≤ 100000000 from hp)
  refine s_seq (s_if (t_or (t_of (e_eqI (e_ixOd (d := 0) rfl e_int ?_) e_int)) (fun _ => (t_and (t_of (e_eqI (e_ixOd (d := 0) rfl e_int ?_) e_int)) (fun _ => (t_of (e_gt (e_ixOd (d := 0) rfl e_int ?_) e_int)))))) (fun h => ?_) (fun h => s_next ?_))
  · exact ⟨by decide, by show _ < (3 : Int); decide⟩
  · exact ⟨by decide, by show _ < (3 : Int); decide⟩
  · exact ⟨by decide, by show _ < (3 : Int); decide⟩
  · have h : big (a, b, c) = true := h
    have e1 : rollD (a, b, c) many = (a / many, b, c) := if_pos h
    have e2 : rollV (a, b, c) many = a % many := if_pos h
    try dsimp only
    refine s_seq (s_set (e_mod (e_intI (a_cons (e_ixOd (d := 0) rfl e_int ?_) a_nil)) (e_var rfl) ?_) (plain1 rfl) ?_)
    · exact ⟨by decide, by show _ < (3 : Int); decide⟩
    · show 0 < many
      omega
    try dsimp only
    refine s_seq (s_setL (n := 0) rfl (e_fdiv (e_ixOd (d := 0) rfl e_int ?_) (e_var rfl) ?_) (by exact (show 0 < 3 by decide)) ?_)
    · exact ⟨by decide, by show _ < (3 : Int); decide⟩
    · exact ⟨by show 0 < many; omega, by show many < 1073741824; omega⟩
    try dsimp only
    refine s_retO (i := 0) (O := oLstP (pinL v ps) rInt [a / many, b, c]) (T := rInt) (r := a % many) (v := v) (ps := ps) (e_var rfl) (by rfl) (O' := oLst rInt [a / many, b, c]) pin_out rfl ?_
    have := hok rfl
    have e3 : (A_roll K).r ((a, b, c), many) = a % many := e2
    have e4 : O_roll' ((a, b, c), many) = oLst rInt [a / many, b, c] := by show oLst rInt (dl (rollD (a, b, c) many)) = _; rw [e1]; rfl
    rw [e3, e4] at this
    exact this
  · have h : big (a, b, c) = false := h
    have e1 : rollD (a, b, c) many = (nxt (a, b, c), b + 1, 0) := if_neg (by rw [h]; exact Bool.false_ne_true)
    have e2 : rollV (a, b, c) many = (nxt (a, b, c) / 7) % many := if_neg (by rw [h]; exact Bool.false_ne_true)
    try dsimp only
    refine s_seq (s_setL (n := 2) rfl e_int (by exact (show 2 < 3 by decide)) ?_)
    try dsimp only
    refine s_seq (s_if (t_of (e_gt (e_var rfl) e_int)) (fun z => ?_) (fun _ => s_next ?_))
    · have z : 100000000 < many := of_decide_eq_true z
      omega
    try dsimp only
    refine s_seq (s_setL (n := 0) rfl (e_mod (e_intI (a_cons (e_add (e_add (e_mul (e_ixOd (d := 0) rfl e_int ?_) e_int ?_) (e_mul (e_ixOd (d := 0) rfl e_int ?_) e_int ?_)) e_int) a_nil)) e_int ?_) (by exact (show 0 < 3 by decide)) ?_)
    · exact ⟨by decide, by show _ < (3 : Int); decide⟩
    · right; exact ⟨by decide, by decide⟩
    · exact ⟨by decide, by show _ < (3 : Int); decide⟩
    · right; exact ⟨by decide, by decide⟩
    · decide
    try dsimp only
    refine s_seq (s_setL (n := 1) rfl (e_add (e_ixOd (d := 0) rfl e_int ?_) e_int) (by exact (show 1 < 3 by decide)) ?_)
    · exact ⟨by decide, by show _ < (3 : Int); decide⟩
    try dsimp only
    refine s_retO (i := 0) (O := oLstP (pinL v ps) rInt [nxt (a, b, c), b + 1, 0]) (T := rInt) (r := (nxt (a, b, c) / 7) % many) (v := v) (ps := ps) (e_is (e_mod (e_intI (a_cons (e_fdiv (e_ixOd (d := 0) rfl e_int ?_) e_int ?_) a_nil)) (e_var rfl) ?_) ?_) (by rfl) (O' := oLst rInt [nxt (a, b, c), b + 1, 0]) pin_out rfl ?_
    · exact ⟨by decide, by show _ < (3 : Int); decide⟩
    · exact ⟨by decide, by decide⟩
    · show 0 < many
      omega
    · rfl
    have := hok rfl
    have e3 : (A_roll K).r ((a, b, c), many) = (nxt (a, b, c) / 7) % many := e2
    have e4 : O_roll' ((a, b, c), many) = oLst rInt [nxt (a, b, c), b + 1, 0] := by show oLst rInt (dl (rollD (a, b, c) many)) = _; rw [e1]; rfl
    rw [e3, e4] at this
    exact this
/-! ### rounds -/
def rRounds (ns : List Int) : List (List Int) := (if (ns.take 1).isEmpty = true then [0] else ns.take 1).map rDice
def A_rounds (K : PySem.W.Frag) : Ans (List Int) (List (List Int)) := ⟨fun _ => True, fun _ => false, fun _ => 0, rRounds⟩
theorem sc_law_rounds : FnScope ["script", "most", "cells", "cell"] ["script", "most"] d_law_rounds.scope := C8.fnScope_by (by decide +kernel)
theorem b_law_rounds {w : World} {K : PySem.W.Frag} {mg : Str → Option Value} (T : Top w K mg) : Binds K (fdOf K d_law_rounds.at_) ["script", "most"] [] := (D_law_rounds T).binds (fun _ _ _ _ _ _ us hl => match us, hl with | [_, _], _ => rfl)
theorem ok_law_rounds (T : Top w K mg) : Kp P w K mg base 2 d_law_rounds ["script", "most"] (spB G (A_rounds K) (fun ns => [⟨rSeq K rInt, ns⟩, ⟨rInt, 1⟩]) (rList (rList rInt))) := by
  refine (D_law_rounds T).ok sc_law_rounds (spF_len fun _ => rfl) fun A outer s H vs Q E hr hsp => ⟨_, (pss_cons (ps_set (i := 2) sc_law_rounds.nd rfl (by first | exact Or.inl rfl | exact Or.inr rfl) (pe_slice (sl_listK (K := K) rfl) (pv 0) po_none (po_some (pv 1)))) (pss_cons (ps_if (pt_cmpR (op_eqEK (K := K) rfl hr.units0) (pv 2) (pe_lst pa_nil) (nomark _)) (pss_one (ps_set (i := 2) sc_law_rounds.nd rfl (by first | exact Or.inl rfl | exact Or.inr rfl) (pe_lst (pa_cons pe_int pa_nil)))) pss_nil) (pss_one (ps_ret (pe_lc rfl sc_law_rounds.nd (own := [("cell", 3)]) (pi_listK (K := K) rfl (pv 2)) (blkOk_by (by kernel_rfl)) (fun _ _ _ _ _ => (pg_name (i := 3) sc_law_rounds.nd rfl (by first | exact Or.inl rfl | exact Or.inr rfl))) (fun _ _ _ _ _ => pts_nil) (fun _ _ _ _ _ => (pe_call (ok_law_dice (G := G) T) (hr.mono (show 1 ≤ 1 by decide)) rfl (g_law_dice T) (D_law_dice T).kp (b_law_dice T) .nil passL (pa_cons (pv 3) pa_nil)))))))), ?_⟩
  refine inB (n := 2) (k := 2) hsp (fun _ => rfl) rfl fun F ns hG hO hp hok her => ?_
  subst hG
  refine s_seq (s_set (R := rList rInt) (a := ns.take 1) (e_take (n := (1 : Int)) (e_var rfl) (e_var rfl) (by decide)) (plain1 rfl) ?_)
  try dsimp only
  have fin : ∀ cs : List Int, cs.length ≤ 1 → cs.map rDice = rRounds ns → KT F gT [.val (rSeq K rInt) ns, .val rInt 1, .val (rList rInt) cs, .no] (tRet (tLc (iList K (tVar 2)) (gName 3) tYes (tCall (spB F.G (A_dice K) (fun c => [⟨rInt, c⟩]) (rList rInt)) [] E0 (tCons (tVar 3) tNil)) [3]) { nx := fun x H' => Q V.non H', rt := Q }) := fun cs hl e => by
    refine s_ret (R := rList (rList rInt)) (a := rRounds ns) (e_is (e_lcT0  (src_list (e_var rfl)) ?_ (noAll_of rfl) (fun x1 hx1 => (tg_name (plain1 rfl))) (by decide) (fun x1 => ⟨plAll_of rfl, rfl⟩) (fun x1 hx1 => (e_callB _ (a_cons (e_var rfl) a_nil) ?_ ?_))) ?_) (hok rfl)
    · omega
    · trivial
    · rfl
    · exact e
  refine s_seq (s_if (t_of (e_eqE (e_var rfl))) (fun h => ?_) (fun h => s_next ?_))
  · have h : (ns.take 1).isEmpty = true := h
    try dsimp only
    refine s_set (R := rList rInt) (a := [0]) (e_lst (xs := [_]) (a_cons e_int a_nil) (by simp)) (plain1 rfl) (fin [0] (by decide) ?_)
    unfold rRounds
    rw [if_pos h]
  · have h : (ns.take 1).isEmpty = false := h
    refine fin (ns.take 1) (by rw [List.length_take]; omega) ?_
    unfold rRounds
    rw [if_neg (by rw [h]; exact Bool.false_ne_true)]
/-! ### round, lost, mix -/
def rRound (p wh : Int) : Int := p / wh + (if decide (wh ≤ 2 * (p - p / wh * wh)) = true then 1 else 0)
def A_round (K : PySem.W.Frag) : Ans (Int × Int) Int := ⟨fun x => 0 < x.2 ∧ x.2 < 1073741824, fun _ => false, fun _ => 0, fun x => rRound x.1 x.2⟩
theorem sc_law_round : FnScope ["part", "whole", "low"] ["part", "whole"] d_law_round.scope := C8.fnScope_by (by decide +kernel)
theorem b_law_round {w : World} {K : PySem.W.Frag} {mg : Str → Option Value} (T : Top w K mg) : Binds K (fdOf K d_law_round.at_) ["part", "whole"] [] := (D_law_round T).binds (fun _ _ _ _ _ _ us hl => match us, hl with | [_, _], _ => rfl)
theorem ok_law_round (T : Top w K mg) : Kp P w K mg base 1 d_law_round ["part", "whole"] (spB G (A_round K) (fun x => [⟨rInt, x.1⟩, ⟨rInt, x.2⟩]) rInt) := by
  refine (D_law_round T).ok sc_law_round (spF_len fun _ => rfl) fun A outer s H vs Q E hr hsp => ⟨_, (pss_cons (ps_set (i := 2) sc_law_round.nd rfl (by first | exact Or.inl rfl | exact Or.inr rfl) (pe_op op_fdiv (pv 0) (pv 1))) (pss_one (ps_ret (pe_op op_add (pv 2) (pe_callTy call_int1 rfl (f_int T) (by decide +kernel) (pa_cons (pe_cmpR op_ge (pe_op op_mul pe_int (pe_op op_sub (pv 0) (pe_op op_mul (pv 2) (pv 1)))) (pv 1) (nomark _)) pa_nil)))))), ?_⟩
  refine inB (n := 1) (k := 2) hsp (fun _ => rfl) rfl fun F x hG hO hp hok her => ?_
  obtain ⟨p, wh⟩ := x
  obtain ⟨h1, h2⟩ := (show 0 < wh ∧ wh < 1073741824 from hp)
  refine s_seq (s_set (e_fdiv (e_var rfl) (e_var rfl) ?_) (plain1 rfl) (s_ret (e_add (e_var rfl) (e_intB (a_cons (e_ge (e_mul e_int (e_sub (e_var rfl) (e_mul (e_var rfl) (e_var rfl) ?_)) ?_) (e_var rfl)) a_nil))) (hok rfl)))
  · exact ⟨h1, h2⟩
  · right; exact ⟨by show -(2 ^ 64) < wh; omega, by show wh < 2 ^ 64; omega⟩
  · left; exact ⟨by decide, by decide⟩
abbrev rRow : Rp (List Int) := rTup rInt
def goodR (r : List Int) : Prop := r.length = 3 ∧ ∀ x ∈ r, 0 ≤ x ∧ x ≤ 500
def rLost (r : List Int) : Int := (1000000 - (1000 - r.getD 0 0) * (1000 - r.getD 1 0)) / 1000
def A_llost (K : PySem.W.Frag) : Ans (List Int) Int := ⟨goodR, fun _ => false, fun _ => 0, rLost⟩
theorem goodR_at {r : List Int} (h : goodR r) {i : Nat} (hi : i < 3) : 0 ≤ r.getD i 0 ∧ r.getD i 0 ≤ 500 := by
  have hi' : i < r.length := by rw [h.1]; exact hi
  rw [List.getD_eq_getElem?_getD, List.getElem?_eq_getElem hi']
  exact h.2 _ (List.getElem_mem hi')
theorem sc_law_lost : FnScope ["row"] ["row"] d_law_lost.scope := C8.fnScope_by (by decide +kernel)
theorem b_law_lost {w : World} {K : PySem.W.Frag} {mg : Str → Option Value} (T : Top w K mg) : Binds K (fdOf K d_law_lost.at_) ["row"] [] := (D_law_lost T).binds (fun _ _ _ _ _ _ us hl => match us, hl with | [_], _ => rfl)
theorem ok_law_lost (T : Top w K mg) : Kp P w K mg base 1 d_law_lost ["row"] (spB G (A_llost K) (fun r => [⟨rRow, r⟩]) rInt) := by
  refine (D_law_lost T).ok sc_law_lost (spF_len fun _ => rfl) fun A outer s H vs Q E hr hsp => ⟨_, (pss_one (ps_ret (pe_op op_fdiv (pe_op op_sub pe_int (pe_op op_mul (pe_op op_sub pe_int (pe_ix (ix_tupK (K := K) rfl) (pv 0) pe_int (fun _ _ => rfl))) (pe_op op_sub pe_int (pe_ix (ix_tupK (K := K) rfl) (pv 0) pe_int (fun _ _ => rfl))))) pe_int))), ?_⟩
  refine inB (n := 0) (k := 1) hsp (fun _ => rfl) rfl fun F r hG hO hp hok her => ?_
  have hg : goodR r := hp
  have hl := hg.1
  refine s_ret (e_fdiv (e_sub e_int (e_mul (e_sub e_int (e_ixTd (d := 0) (e_var rfl) e_int ?_)) (e_sub e_int (e_ixTd (d := 0) (e_var rfl) e_int ?_)) ?_)) e_int ?_) (hok rfl)
  · exact ⟨by decide, by show (0 : Int) < r.length; rw [hl]; decide⟩
  · exact ⟨by decide, by show (1 : Int) < r.length; rw [hl]; decide⟩
  · have := goodR_at hg (i := 0) (by decide)
    left; exact ⟨by show -(2 ^ 64) < 1000 - r.getD 0 0; omega, by show 1000 - r.getD 0 0 < 2 ^ 64; omega⟩
  · exact ⟨by decide, by decide⟩
abbrev RParts := List (List Int × Int)
def goodRP (ps : RParts) : Prop := ps.length ≤ 1000 ∧ ∀ x ∈ ps, goodR x.1 ∧ -1000 ≤ x.2 ∧ x.2 ≤ 1000
def rMix (ps : RParts) : List Int := (upFrom 0 3).map fun k => (ps.map fun x => x.1.getD k.toNat 0 * x.2).sum / (ps.map fun x => x.2).sum
def A_lmix (K : PySem.W.Frag) : Ans RParts (List Int) := ⟨fun ps => goodRP ps ∧ 0 < (ps.map fun x => x.2).sum, fun _ => false, fun _ => 0, rMix⟩
theorem sc_law_mix : FnScope ["rows", "whole", "row", "pounds", "k"] ["rows"] d_law_mix.scope := C8.fnScope_by (by decide +kernel)
theorem b_law_mix {w : World} {K : PySem.W.Frag} {mg : Str → Option Value} (T : Top w K mg) : Binds K (fdOf K d_law_mix.at_) ["rows"] [] := (D_law_mix T).binds (fun _ _ _ _ _ _ us hl => match us, hl with | [_], _ => rfl)
theorem ok_law_mix (T : Top w K mg) : Kp P w K mg base 1 d_law_mix ["rows"] (spB G (A_lmix K) (fun ps => [⟨rList (rT2 rRow rInt), ps⟩]) rRow) := by
  refine (D_law_mix T).ok sc_law_mix (spF_len fun _ => rfl) fun A outer s H vs Q E hr hsp => ⟨_, (pss_cons (ps_set (i := 1) sc_law_mix.nd rfl (by first | exact Or.inl rfl | exact Or.inr rfl) (pe_callB (cr_sumK (K := K) rfl rfl) rfl (f_sum T) (by decide +kernel) (pa_cons (pe_lc rfl sc_law_mix.nd (own := [("row", 2), ("pounds", 3)]) (pi_listK (K := K) rfl (pv 0)) (blkOk_by (by kernel_rfl)) (fun _ _ _ _ _ => (pg_tupK (K := K) (n := 2) rfl rfl (pgs_cons (pg_name (i := 2) sc_law_mix.nd rfl (by first | exact Or.inl rfl | exact Or.inr rfl)) (pgs_cons (pg_name (i := 3) sc_law_mix.nd rfl (by first | exact Or.inl rfl | exact Or.inr rfl)) pgs_nil)))) (fun _ _ _ _ _ => pts_nil) (fun _ _ _ _ _ => (pv 3))) pa_nil))) (pss_one (ps_ret (pe_callTy (call_tuple_ofK (K := K) rfl) rfl (f_tuple T) (by decide +kernel) (pa_cons (pe_lc rfl sc_law_mix.nd (own := [("k", 4)]) (pi_range1 rfl (f_range T) (pa_cons pe_int pa_nil)) (blkOk_by (by kernel_rfl)) (fun _ _ _ _ _ => (pg_name (i := 4) sc_law_mix.nd rfl (by first | exact Or.inl rfl | exact Or.inr rfl))) (fun _ _ _ _ _ => pts_nil) (fun _ _ _ _ _ => (pe_op op_fdiv (pe_callB (cr_sumK (K := K) rfl rfl) rfl (f_sum T) (by decide +kernel) (pa_cons (pe_lc rfl sc_law_mix.nd (own := [("row", 2), ("pounds", 3)]) (pi_listK (K := K) rfl (pv 0)) (blkOk_by (by kernel_rfl)) (fun _ _ _ _ _ => (pg_tupK (K := K) (n := 2) rfl rfl (pgs_cons (pg_name (i := 2) sc_law_mix.nd rfl (by first | exact Or.inl rfl | exact Or.inr rfl)) (pgs_cons (pg_name (i := 3) sc_law_mix.nd rfl (by first | exact Or.inl rfl | exact Or.inr rfl)) pgs_nil)))) (fun _ _ _ _ _ => pts_nil) (fun _ _ _ _ _ => (pe_op op_mul (pe_ix (ix_tupK (K := K) rfl) (pv 2) (pv 4) (fun _ _ => rfl)) (pv 3)))) pa_nil)) (pv 1)))) pa_nil))))), ?_⟩
  refine inB (n := 4) (k := 1) hsp (fun _ => rfl) rfl fun F ps hG hO hp hok her => ?_
  obtain ⟨⟨hl, hg⟩, hw⟩ := (show goodRP ps ∧ 0 < (ps.map fun x => x.2).sum from hp)
  refine s_seq (s_set (e_sumL (a_cons (e_lcT0  (src_list (e_var rfl)) ?_ (noAll_of rfl) (fun x1 hx1 => (tg_t2 (tg_name (plain1 rfl)) (tg_name (plain1 rfl)))) (by decide) (fun x1 => ⟨plAll_of rfl, rfl⟩) (fun x1 hx1 => (e_var rfl))) a_nil)) (plain1 rfl) (s_ret (R := rRow) (a := rMix ps) (e_is (e_tupL (a_cons (e_lcT0  (src_rng1 (a_cons e_int a_nil) ?_ ?_) ?_ (noAll_of rfl) (fun x3 hx3 => (tg_name (plain1 rfl))) (by decide) (fun x3 => ⟨plAll_of rfl, rfl⟩) (fun x3 hx3 => (e_fdiv (e_sumL (a_cons (e_lcT0  (src_list (e_var rfl)) ?_ (noAll_of rfl) (fun x2 hx2 => (tg_t2 (tg_name (plain1 rfl)) (tg_name (plain1 rfl)))) (by decide) (fun x2 => ⟨plAll_of rfl, rfl⟩) (fun x2 hx2 => (e_mul (e_ixTd (d := 0) (e_var rfl) (e_var rfl) ?_) (e_var rfl) ?_))) a_nil)) (e_var rfl) ?_))) a_nil)) ?_) (hok rfl)))
  all_goals try dsimp only
  · omega
  · decide
  · decide
  · decide
  · omega
  · have hk := upFrom_mem.mp hx3
    have := (hg x2 hx2).1.1
    exact ⟨hk.1, by rw [this]; have := hk.2; omega⟩
  · right; have := (hg x2 hx2).2
    exact ⟨by show -(2 ^ 64) < x2.2; omega, by show x2.2 < 2 ^ 64; omega⟩
  · have h2 := sum_bounds (a := -1000) (b := 1000) (ns := ps.map fun x => x.2) fun n hn => by
      obtain ⟨x, hx, rfl⟩ := List.mem_map.mp hn
      exact (hg x hx).2
    rw [List.length_map] at h2
    exact ⟨hw, by show (ps.map fun x => x.2).sum < 1073741824; omega⟩
  · rfl
end
end KH


set_option Elab.async false
set_option linter.all false
set_option maxRecDepth 100000
set_option maxHeartbeats 1000000
namespace KH
open PySem PySem.Spec PyProof.Rows L2 TP LM
section
variable {P : Program} {w : World} {K : PySem.W.Frag} {mg : Str → Option Value} {base : Heap} {G : List Addr}
theorem clay_ins {K : PySem.W.Frag} : ∀ h v a, (rClay K).rep h v a → ∃ p dx fs, v = .ref p ∧ h p = some (.ins (aClay K) dx fs) := fun h v a ⟨p, dx, e, hp⟩ => ⟨p, dx, _, e, hp⟩
theorem mro_Clay (T : Top w K mg) : PySem.W.mroIn K (aClay K) (.type "object") = some true := L2.mro_obj (k_Clay T).makes
theorem told_ok (T : Top w K mg) {X : Cx} (hK : X.K = K) (hm : X.mg = mg) : LM.ToldOk X "_law_told" "what" "ClayError" "ClayError" (He.ga K "_law_told") (aErr K) ["what"] d_law_told.scope (.ref (He.codeOf K d_law_told.at_)) := by
  subst hK hm
  obtain ⟨oc, od, kV, doc, pm, an, ct, osl, e, lk, hcd⟩ := (D_law_told T).ex
  refine ⟨g_law_told T, (D_law_told T).kp, ⟨d_law_told.params, d_law_told.body, .none, kV, doc, pm, ct, oc, an, od, osl, _, _, _, _, _, _, _, _, _, ?_, ?_, rfl⟩, hcd, C8.fnScope_by (by decide +kernel), rfl, Or.inl rfl, rfl, g_ClayError T, fun _ => rfl, by decide, by decide, by decide⟩
  · rw [e] at lk
    exact lk
  · exact .all fun us hl => match us, hl with | [_], _ => rfl
abbrev lawN : List Str := ["script", "dice", "one", "bad", "rows", "clays", "length", "wish", "clay", "row", "parts", "good", "was", "far", "most", "mixes", "first", "due", "wet", "second", "heap", "j", "k", "f", "pounds"]
theorem sc_law : FnScope lawN ["script"] d_law.scope := C8.fnScope_by (by decide +kernel)
end
end KH


set_option Elab.async false
set_option linter.all false
set_option maxRecDepth 100000
set_option maxHeartbeats 1000000
namespace KH
open PySem PySem.Spec PyProof.Rows L2 TP LM
theorem lamOk_of {X : Cx} {k : Nat} {e b : Expr} {ps : Arguments} {sc : Scope} {pos : Pos} {t : XK → TE} (h : e = .Lambda ps b sc pos) (ls : LamX.LamS X.env.scope sc) (bind : ∀ (q : Str) (cl : List (Str × Addr)) (pm cv ctv : Value), bindArgs (PySem.W.kla_fn "<lambda>" q ps b sc cl pm cv ctv) ⟨[], []⟩ = pure [])
    (body : ∀ (A : Around) (outer : List PySem.Env) (s : Shared) (H : Hp) (E : XK) (f c' : Addr), Room k (A.deeper (LamX.lamEnv X sc s.heap.objs.size f c')) → PE (LamX.lamCx X A outer s H E sc f c') b (t E)) : LamOk X k (lamD e t) := by
  subst h
  exact ⟨ls, bind, body⟩
section
variable {P : Program} {w : World} {K : PySem.W.Frag} {mg : Str → Option Value} {base : Heap} {G : List Addr} {A : Around} {outer : List PySem.Env} {s : Shared} {H : Hp} {E : XK}
abbrev XL (P : Program) (w : World) (K : PySem.W.Frag) (mg : Str → Option Value) (base : Heap) (A : Around) (outer : List PySem.Env) (s : Shared) (H : Hp) (E : XK) : Cx := cxD P w K mg base lawN d_law A outer s H E
theorem lam_1 (T : Top w K mg) (TB : GxR.TabB base mg (cMixed K) (pMixed K)) (hPG : pMixed K ∈ G) : ∃ t, LamOk (XL P w K mg base A outer s H E) 12 (lamD (eltAt (valOf (stAt d_law.body 2)) 0) t) ∧ ∀ (Γ : TP.Ctx) one W, goodC one → Γ[2]? = some (.val (rClay K) one) → EX G Γ (t W) Γ W (aErr K) := by
  refine ⟨_, lamOk_of rfl (LamX.lamS_by (by kernel_rfl)) (fun _ _ _ _ _ => rfl) (fun A outer s H E f c' hlr => (pe_make (k_Clay T) (ok_Clay_init (G := G) T) (hlr.mono (show 1 + 1 ≤ 12 by decide)) rfl (g_Clay T) (b_Clay_init T) .nil (passes_call (takes_of rfl rfl rfl rfl) (fun _ _ _ _ h => h)) (pa_cons pe_str (pa_cons (pe_un un_neg pe_int) (pa_cons pe_int (pa_cons pe_int pa_nil)))))), fun Γ one W hone h2 => ?_⟩
  have h2 : Γ[2]? = some (.val (rClay K) one) := h2
  refine (e_makeBX (_, _, _, _) (a_cons e_str (a_cons (e_neg e_int) (a_cons e_int (a_cons e_int a_nil)))) ?_ ?_)
  all_goals first | trivial | rfl | exact hone | exact ⟨hone, hone, show (0 : Int) ≤ 100 by decide⟩ | exact ⟨by simp, fun x hx => absurd hx List.not_mem_nil⟩ | exact ⟨by simp, fun x hx => by rw [List.mem_singleton.mp hx]; exact ⟨hone, show (-1000 : Int) ≤ 0 by decide, show (0 : Int) ≤ 1000 by decide⟩⟩ | skip
theorem lam_2 (T : Top w K mg) (TB : GxR.TabB base mg (cMixed K) (pMixed K)) (hPG : pMixed K ∈ G) : ∃ t, LamOk (XL P w K mg base A outer s H E) 12 (lamD (eltAt (valOf (stAt d_law.body 2)) 1) t) ∧ ∀ (Γ : TP.Ctx) one W, goodC one → Γ[2]? = some (.val (rClay K) one) → EX G Γ (t W) Γ W (aErr K) := by
  refine ⟨_, lamOk_of rfl (LamX.lamS_by (by kernel_rfl)) (fun _ _ _ _ _ => rfl) (fun A outer s H E f c' hlr => (pe_make (k_Clay T) (ok_Clay_init (G := G) T) (hlr.mono (show 1 + 1 ≤ 12 by decide)) rfl (g_Clay T) (b_Clay_init T) .nil (passes_call (takes_of rfl rfl rfl rfl) (fun _ _ _ _ h => h)) (pa_cons pe_str (pa_cons pe_int (pa_cons pe_int (pa_cons pe_int pa_nil)))))), fun Γ one W hone h2 => ?_⟩
  have h2 : Γ[2]? = some (.val (rClay K) one) := h2
  refine (e_makeBX (_, _, _, _) (a_cons e_str (a_cons e_int (a_cons e_int (a_cons e_int a_nil)))) ?_ ?_)
  all_goals first | trivial | rfl | exact hone | exact ⟨hone, hone, show (0 : Int) ≤ 100 by decide⟩ | exact ⟨by simp, fun x hx => absurd hx List.not_mem_nil⟩ | exact ⟨by simp, fun x hx => by rw [List.mem_singleton.mp hx]; exact ⟨hone, show (-1000 : Int) ≤ 0 by decide, show (0 : Int) ≤ 1000 by decide⟩⟩ | skip
theorem lam_3 (T : Top w K mg) (TB : GxR.TabB base mg (cMixed K) (pMixed K)) (hPG : pMixed K ∈ G) : ∃ t, LamOk (XL P w K mg base A outer s H E) 12 (lamD (eltAt (valOf (stAt d_law.body 2)) 2) t) ∧ ∀ (Γ : TP.Ctx) one W, goodC one → Γ[2]? = some (.val (rClay K) one) → EX G Γ (t W) Γ W (aErr K) := by
  refine ⟨_, lamOk_of rfl (LamX.lamS_by (by kernel_rfl)) (fun _ _ _ _ _ => rfl) (fun A outer s H E f c' hlr => (pe_make (k_Clay T) (ok_Clay_init (G := G) T) (hlr.mono (show 1 + 1 ≤ 12 by decide)) rfl (g_Clay T) (b_Clay_init T) .nil (passes_call (takes_of rfl rfl rfl rfl) (fun _ _ _ _ h => h)) (pa_cons pe_str (pa_cons pe_int (pa_cons pe_int (pa_cons pe_int pa_nil)))))), fun Γ one W hone h2 => ?_⟩
  have h2 : Γ[2]? = some (.val (rClay K) one) := h2
  refine (e_makeBX (_, _, _, _) (a_cons e_str (a_cons e_int (a_cons e_int (a_cons e_int a_nil)))) ?_ ?_)
  all_goals first | trivial | rfl | exact hone | exact ⟨hone, hone, show (0 : Int) ≤ 100 by decide⟩ | exact ⟨by simp, fun x hx => absurd hx List.not_mem_nil⟩ | exact ⟨by simp, fun x hx => by rw [List.mem_singleton.mp hx]; exact ⟨hone, show (-1000 : Int) ≤ 0 by decide, show (0 : Int) ≤ 1000 by decide⟩⟩ | skip
theorem lam_4 (T : Top w K mg) (TB : GxR.TabB base mg (cMixed K) (pMixed K)) (hPG : pMixed K ∈ G) : ∃ t, LamOk (XL P w K mg base A outer s H E) 12 (lamD (eltAt (valOf (stAt d_law.body 2)) 3) t) ∧ ∀ (Γ : TP.Ctx) one W, goodC one → Γ[2]? = some (.val (rClay K) one) → EX G Γ (t W) Γ W (aErr K) := by
  refine ⟨_, lamOk_of rfl (LamX.lamS_by (by kernel_rfl)) (fun _ _ _ _ _ => rfl) (fun A outer s H E f c' hlr => (pe_meth (pv 2) (c_Clay T) (m_Clay_dry T) (ok_Clay_dry (G := G) T) (hlr.mono (show 1 ≤ 12 by decide)) (b_Clay_dry T) .nil (passes_call (takes_of rfl rfl rfl rfl) (fun _ _ _ _ h => h)) (pa_cons (pe_un un_neg pe_int) pa_nil))), fun Γ one W hone h2 => ?_⟩
  have h2 : Γ[2]? = some (.val (rClay K) one) := h2
  refine (e_methBX (_, _) (o_Clay_dry) (e_var h2) (a_cons (e_neg e_int) a_nil) rfl ?_ ?_)
  all_goals first | trivial | rfl | exact hone | exact ⟨hone, hone, show (0 : Int) ≤ 100 by decide⟩ | exact ⟨by simp, fun x hx => absurd hx List.not_mem_nil⟩ | exact ⟨by simp, fun x hx => by rw [List.mem_singleton.mp hx]; exact ⟨hone, show (-1000 : Int) ≤ 0 by decide, show (0 : Int) ≤ 1000 by decide⟩⟩ | skip
theorem lam_5 (T : Top w K mg) (TB : GxR.TabB base mg (cMixed K) (pMixed K)) (hPG : pMixed K ∈ G) : ∃ t, LamOk (XL P w K mg base A outer s H E) 12 (lamD (eltAt (valOf (stAt d_law.body 2)) 4) t) ∧ ∀ (Γ : TP.Ctx) one W, goodC one → Γ[2]? = some (.val (rClay K) one) → EX G Γ (t W) Γ W (aErr K) := by
  refine ⟨_, lamOk_of rfl (LamX.lamS_by (by kernel_rfl)) (fun _ _ _ _ _ => rfl) (fun A outer s H E f c' hlr => (pe_meth (pv 2) (c_Clay T) (m_Clay_fired T) (ok_Clay_fired (G := G) T) (hlr.mono (show 1 ≤ 12 by decide)) (b_Clay_fired T) .nil (passes_call (takes_of rfl rfl rfl rfl) (fun _ _ _ _ h => h)) (pa_cons (pe_un un_neg pe_int) pa_nil))), fun Γ one W hone h2 => ?_⟩
  have h2 : Γ[2]? = some (.val (rClay K) one) := h2
  refine (e_methBX (_, _) (o_Clay_fired) (e_var h2) (a_cons (e_neg e_int) a_nil) rfl ?_ ?_)
  all_goals first | trivial | rfl | exact hone | exact ⟨hone, hone, show (0 : Int) ≤ 100 by decide⟩ | exact ⟨by simp, fun x hx => absurd hx List.not_mem_nil⟩ | exact ⟨by simp, fun x hx => by rw [List.mem_singleton.mp hx]; exact ⟨hone, show (-1000 : Int) ≤ 0 by decide, show (0 : Int) ≤ 1000 by decide⟩⟩ | skip
theorem lam_6 (T : Top w K mg) (TB : GxR.TabB base mg (cMixed K) (pMixed K)) (hPG : pMixed K ∈ G) : ∃ t, LamOk (XL P w K mg base A outer s H E) 12 (lamD (eltAt (valOf (stAt d_law.body 2)) 5) t) ∧ ∀ (Γ : TP.Ctx) one W, goodC one → Γ[2]? = some (.val (rClay K) one) → EX G Γ (t W) Γ W (aErr K) := by
  refine ⟨_, lamOk_of rfl (LamX.lamS_by (by kernel_rfl)) (fun _ _ _ _ _ => rfl) (fun A outer s H E f c' hlr => (pe_meth (pv 2) (c_Clay T) (m_Clay_wet_for T) (ok_Clay_wet_for (G := G) T) (hlr.mono (show 2 ≤ 12 by decide)) (b_Clay_wet_for T) .nil (passes_call (takes_of rfl rfl rfl rfl) (fun _ _ _ _ h => h)) (pa_cons (pe_un un_neg pe_int) pa_nil))), fun Γ one W hone h2 => ?_⟩
  have h2 : Γ[2]? = some (.val (rClay K) one) := h2
  refine (e_methBX (_, _) (o_Clay_wet_for) (e_var h2) (a_cons (e_neg e_int) a_nil) rfl ?_ ?_)
  all_goals first | trivial | rfl | exact hone | exact ⟨hone, hone, show (0 : Int) ≤ 100 by decide⟩ | exact ⟨by simp, fun x hx => absurd hx List.not_mem_nil⟩ | exact ⟨by simp, fun x hx => by rw [List.mem_singleton.mp hx]; exact ⟨hone, show (-1000 : Int) ≤ 0 by decide, show (0 : Int) ≤ 1000 by decide⟩⟩ | skip
theorem lam_7 (T : Top w K mg) (TB : GxR.TabB base mg (cMixed K) (pMixed K)) (hPG : pMixed K ∈ G) : ∃ t, LamOk (XL P w K mg base A outer s H E) 12 (lamD (eltAt (valOf (stAt d_law.body 2)) 6) t) ∧ ∀ (Γ : TP.Ctx) one W, goodC one → Γ[2]? = some (.val (rClay K) one) → EX G Γ (t W) Γ W (aErr K) := by
  refine ⟨_, lamOk_of rfl (LamX.lamS_by (by kernel_rfl)) (fun _ _ _ _ _ => rfl) (fun A outer s H E f c' hlr => (pe_call (ok_mixed (G := G) T TB hPG) (hlr.mono (show 10 ≤ 12 by decide)) rfl (g_mixed T) (D_mixed T).kp (b_mixed T) .nil (passes_call (takes_of rfl rfl rfl rfl) (fun _ _ _ _ h => h)) (pa_cons pe_str (pa_cons (pe_lst pa_nil) pa_nil)))), fun Γ one W hone h2 => ?_⟩
  have h2 : Γ[2]? = some (.val (rClay K) one) := h2
  refine (e_callBX (_, _) (a_cons e_str (a_cons (e_lst (xs := []) a_nil (by simp)) a_nil)) ?_ ?_)
  all_goals first | trivial | rfl | exact hone | exact ⟨hone, hone, show (0 : Int) ≤ 100 by decide⟩ | exact ⟨by simp, fun x hx => absurd hx List.not_mem_nil⟩ | exact ⟨by simp, fun x hx => by rw [List.mem_singleton.mp hx]; exact ⟨hone, show (-1000 : Int) ≤ 0 by decide, show (0 : Int) ≤ 1000 by decide⟩⟩ | skip
theorem lam_8 (T : Top w K mg) (TB : GxR.TabB base mg (cMixed K) (pMixed K)) (hPG : pMixed K ∈ G) : ∃ t, LamOk (XL P w K mg base A outer s H E) 12 (lamD (eltAt (valOf (stAt d_law.body 2)) 7) t) ∧ ∀ (Γ : TP.Ctx) one W, goodC one → Γ[2]? = some (.val (rClay K) one) → EX G Γ (t W) Γ W (aErr K) := by
  refine ⟨_, lamOk_of rfl (LamX.lamS_by (by kernel_rfl)) (fun _ _ _ _ _ => rfl) (fun A outer s H E f c' hlr => (pe_call (ok_mixed (G := G) T TB hPG) (hlr.mono (show 10 ≤ 12 by decide)) rfl (g_mixed T) (D_mixed T).kp (b_mixed T) .nil (passes_call (takes_of rfl rfl rfl rfl) (fun _ _ _ _ h => h)) (pa_cons pe_str (pa_cons (pe_lst (pa_cons (pe_tup (pa_cons (pv 2) (pa_cons pe_int pa_nil))) pa_nil)) pa_nil)))), fun Γ one W hone h2 => ?_⟩
  have h2 : Γ[2]? = some (.val (rClay K) one) := h2
  refine (e_callBX (_, _) (a_cons e_str (a_cons (e_lst (xs := [_]) (a_cons (e_t2 (a_cons (e_var h2) (a_cons e_int a_nil))) a_nil) (by simp)) a_nil)) ?_ ?_)
  all_goals first | trivial | rfl | exact hone | exact ⟨hone, hone, show (0 : Int) ≤ 100 by decide⟩ | exact ⟨by simp, fun x hx => absurd hx List.not_mem_nil⟩ | exact ⟨by simp, fun x hx => by rw [List.mem_singleton.mp hx]; exact ⟨hone, show (-1000 : Int) ≤ 0 by decide, show (0 : Int) ≤ 1000 by decide⟩⟩ | skip
theorem lam_9 (T : Top w K mg) (TB : GxR.TabB base mg (cMixed K) (pMixed K)) (hPG : pMixed K ∈ G) : ∃ t, LamOk (XL P w K mg base A outer s H E) 12 (lamD (eltAt (valOf (stAt d_law.body 2)) 8) t) ∧ ∀ (Γ : TP.Ctx) one W, goodC one → Γ[2]? = some (.val (rClay K) one) → EX G Γ (t W) Γ W (aErr K) := by
  refine ⟨_, lamOk_of rfl (LamX.lamS_by (by kernel_rfl)) (fun _ _ _ _ _ => rfl) (fun A outer s H E f c' hlr => (pe_call (ok_fits_body (G := G) T) (hlr.mono (show 1 ≤ 12 by decide)) rfl (g_fits_body T) (D_fits_body T).kp (b_fits_body T) .nil (passes_call (takes_of rfl rfl rfl rfl) (fun _ _ _ _ h => h)) (pa_cons (pv 2) (pa_cons (pv 2) (pa_cons (pe_un un_neg pe_int) pa_nil))))), fun Γ one W hone h2 => ?_⟩
  have h2 : Γ[2]? = some (.val (rClay K) one) := h2
  refine (e_callBX (_, _, _) (a_cons (e_var h2) (a_cons (e_var h2) (a_cons (e_neg e_int) a_nil))) ?_ ?_)
  all_goals first | trivial | rfl | exact hone | exact ⟨hone, hone, show (0 : Int) ≤ 100 by decide⟩ | exact ⟨by simp, fun x hx => absurd hx List.not_mem_nil⟩ | exact ⟨by simp, fun x hx => by rw [List.mem_singleton.mp hx]; exact ⟨hone, show (-1000 : Int) ≤ 0 by decide, show (0 : Int) ≤ 1000 by decide⟩⟩ | skip
theorem lam_10 (T : Top w K mg) (TB : GxR.TabB base mg (cMixed K) (pMixed K)) (hPG : pMixed K ∈ G) : ∃ t, LamOk (XL P w K mg base A outer s H E) 12 (lamD (eltAt (valOf (stAt d_law.body 2)) 9) t) ∧ ∀ (Γ : TP.Ctx) one W, goodC one → Γ[2]? = some (.val (rClay K) one) → EX G Γ (t W) Γ W (aErr K) := by
  refine ⟨_, lamOk_of rfl (LamX.lamS_by (by kernel_rfl)) (fun _ _ _ _ _ => rfl) (fun A outer s H E f c' hlr => (pe_call (ok_best_mix (G := G) T TB hPG) (hlr.mono (show 11 ≤ 12 by decide)) rfl (g_best_mix T) (D_best_mix T).kp (b_best_mix T) .nil (passes_call (takes_of rfl rfl rfl rfl) (fun _ _ _ _ h => h)) (pa_cons (pv 2) (pa_cons (pv 2) (pa_cons pe_int (pa_cons pe_int pa_nil)))))), fun Γ one W hone h2 => ?_⟩
  have h2 : Γ[2]? = some (.val (rClay K) one) := h2
  refine (e_callBX (_, _, _, _) (a_cons (e_var h2) (a_cons (e_var h2) (a_cons e_int (a_cons e_int a_nil)))) ?_ ?_)
  all_goals first | trivial | rfl | exact hone | exact ⟨hone, hone, show (0 : Int) ≤ 100 by decide⟩ | exact ⟨by simp, fun x hx => absurd hx List.not_mem_nil⟩ | exact ⟨by simp, fun x hx => by rw [List.mem_singleton.mp hx]; exact ⟨hone, show (-1000 : Int) ≤ 0 by decide, show (0 : Int) ≤ 1000 by decide⟩⟩ | skip
end
end KH


set_option Elab.async false
set_option linter.all false
set_option maxRecDepth 100000
set_option maxHeartbeats 1000000
namespace KH
open PySem PySem.Spec PyProof.Rows L2 TP LM
section
variable {P : Program} {w : World} {K : PySem.W.Frag} {mg : Str → Option Value} {base : Heap} {G : List Addr} {A : Around} {outer : List PySem.Env} {s : Shared} {H : Hp} {E : XK}
def d0C : ClayV := ⟨"", 0, 0, 0⟩
def dR : List Int := []
abbrev Sc := List (Int × Int)
/-- the parts, by the clays of their places -/
def pickC (cl : List ClayV) (ps : Sc) : Parts := ps.map fun x => (cl.getD x.1.toNat d0C, x.2)
def pickR (rs : List (List Int)) (ps : Sc) : RParts := ps.map fun x => (rs.getD x.1.toNat dR, x.2)
def goodS (ps : Sc) : Prop := ps.length ≤ 4 ∧ ∀ x ∈ ps, 0 ≤ x.1 ∧ x.1 < 2 ∧ 0 ≤ x.2 ∧ x.2 < 9
theorem pickC_good {cl : List ClayV} {ps : Sc} (hl : cl.length = 2) (hc : ∀ c ∈ cl, goodC c) (hp : goodS ps) : goodP (pickC cl ps) := by
  refine ⟨by unfold pickC; rw [List.length_map]; have := hp.1; omega, fun x hx => ?_⟩
  obtain ⟨y, hy, rfl⟩ := List.mem_map.mp hx
  obtain ⟨h1, h2, h3, h4⟩ := hp.2 y hy
  refine ⟨?_, by show -1000 ≤ y.2; omega, by show y.2 ≤ 1000; omega⟩
  have hi : y.1.toNat < cl.length := by rw [hl]; omega
  show goodC (cl.getD y.1.toNat d0C)
  rw [List.getD_eq_getElem?_getD, List.getElem?_eq_getElem hi]
  exact hc _ (List.getElem_mem hi)
abbrev CtxWas (K : PySem.W.Frag) (cl : List ClayV) (ps : Sc) (s0 s1 s2 s3 s4 s6 s7 s8 s9 s11 s12 s13 s14 s15 s16 s17 s18 s19 s20 : Sl) : TP.Ctx := [s0, s1, s2, s3, s4, .val (rList (rClay K)) cl, s6, s7, s8, s9, .val (rList (rT2 rInt rInt)) ps, s11, s12, s13, s14, s15, s16, s17, s18, s19, s20, .no, .no, .no, .no]
theorem lam_0 (T : Top w K mg) (TB : GxR.TabB base mg (cMixed K) (pMixed K)) (hPG : pMixed K ∈ G) : ∃ t, LamOk (XL P w K mg base A outer s H E) 12 (lamD (eltAt (valOf (stAt (forBody (stAt d_law.body 0)) 6)) 0) t) ∧
    ∀ cl ps s0 s1 s2 s3 s4 s6 s7 s8 s9 s11 s12 s13 s14 s15 s16 s17 s18 s19 s20, cl.length = 2 → (∀ c ∈ cl, goodC c) → goodS ps →
      ((A_mixed K).bad ("m", pickC cl ps) = false → ∀ W, TP.E G (CtxWas K cl ps s0 s1 s2 s3 s4 s6 s7 s8 s9 s11 s12 s13 s14 s15 s16 s17 s18 s19 s20) (t W) (CtxWas K cl ps s0 s1 s2 s3 s4 s6 s7 s8 s9 s11 s12 s13 s14 s15 s16 s17 s18 s19 s20) (rClay K) ((A_mixed K).r ("m", pickC cl ps))) ∧
      ((A_mixed K).bad ("m", pickC cl ps) = true → ∀ W, EX G (CtxWas K cl ps s0 s1 s2 s3 s4 s6 s7 s8 s9 s11 s12 s13 s14 s15 s16 s17 s18 s19 s20) (t W) (CtxWas K cl ps s0 s1 s2 s3 s4 s6 s7 s8 s9 s11 s12 s13 s14 s15 s16 s17 s18 s19 s20) W (aErr K)) := by
  refine ⟨_, lamOk_of rfl (LamX.lamS_by (by kernel_rfl)) (fun _ _ _ _ _ => rfl) (fun A outer s H E f c' hlr => (pe_call (ok_mixed (G := G) T TB hPG) (hlr.mono (show 10 ≤ 12 by decide)) rfl (g_mixed T) (D_mixed T).kp (b_mixed T) .nil (passes_call (takes_of rfl rfl rfl rfl) (fun _ _ _ _ h => h)) (pa_cons pe_str (pa_cons (pe_lc rfl sc_law.nd (own := [("k", 22), ("pounds", 24)]) (pi_listK (K := K) rfl (pv 10)) (blkOk_by (by kernel_rfl)) (fun _ _ _ _ _ => (pg_tupK (K := K) (n := 2) rfl rfl (pgs_cons (pg_name (i := 22) sc_law.nd rfl (by first | exact Or.inl rfl | exact Or.inr rfl)) (pgs_cons (pg_name (i := 24) sc_law.nd rfl (by first | exact Or.inl rfl | exact Or.inr rfl)) pgs_nil)))) (fun _ _ _ _ _ => pts_nil) (fun _ _ _ _ _ => (pe_tup (pa_cons (pe_ix (ix_listK (K := K) rfl) (pv 5) (pv 22) (fun _ _ => rfl)) (pa_cons (pv 24) pa_nil))))) pa_nil)))), fun cl ps s0 s1 s2 s3 s4 s6 s7 s8 s9 s11 s12 s13 s14 s15 s16 s17 s18 s19 s20 hcl hgc hps => ⟨fun hb W => ?_, fun hb W => ?_⟩⟩
  · refine (e_callB (_, _) (a_cons e_str (a_cons (e_lcT0  (src_list (e_var rfl)) ?_ (noAll_of rfl) (fun x7 hx7 => (tg_t2 (tg_name (plain1 rfl)) (tg_name (plain1 rfl)))) (by decide) (fun x7 => ⟨plAll_of rfl, rfl⟩) (fun x7 hx7 => (e_t2 (a_cons (e_ixLd (d := d0C) (e_var rfl) (e_var rfl) ?_) (a_cons (e_var rfl) a_nil))))) a_nil)) ?_ ?_)
    · have := hps.1; omega
    · have := hps.2 _ hx7
      exact ⟨this.1, by rw [hcl]; exact this.2.1⟩
    · exact pickC_good hcl hgc hps
    · exact hb
  · refine (e_callBX (_, _) (a_cons e_str (a_cons (e_lcT0  (src_list (e_var rfl)) ?_ (noAll_of rfl) (fun x7 hx7 => (tg_t2 (tg_name (plain1 rfl)) (tg_name (plain1 rfl)))) (by decide) (fun x7 => ⟨plAll_of rfl, rfl⟩) (fun x7 hx7 => (e_t2 (a_cons (e_ixLd (d := d0C) (e_var rfl) (e_var rfl) ?_) (a_cons (e_var rfl) a_nil))))) a_nil)) ?_ ?_)
    · have := hps.1; omega
    · have := hps.2 _ hx7
      exact ⟨this.1, by rw [hcl]; exact this.2.1⟩
    · exact pickC_good hcl hgc hps
    · exact hb
end
end KH


set_option Elab.async false
set_option linter.all false
set_option maxRecDepth 100000
set_option maxHeartbeats 1000000
namespace KH
open PySem TP
def clayOf (n : Str) (r : List Int) : ClayV := ⟨n, r.getD 0 0, r.getD 1 0, r.getD 2 0⟩
def n0 : Str := "c" ++ Str.ofString (toString (0 : Int))
def n1 : Str := "c" ++ Str.ofString (toString (1 : Int))
theorem clayOf_good {n : Str} {r : List Int} (h : goodR r) : goodC (clayOf n r) := by
  have h0 := goodR_at h (i := 0) (by decide)
  have h1 := goodR_at h (i := 1) (by decide)
  have h2 := goodR_at h (i := 2) (by decide)
  exact ⟨h0.1, h0.2, h1.1, h1.2, h2.1, h2.2⟩
theorem rRound_eq {p wh : Int} (h : 0 < wh) : rRound p wh = (2 * p + wh) / (2 * wh) := by
  unfold rRound
  have h1 := Int.emod_add_mul_ediv p wh
  have h2 := Int.emod_nonneg p (show wh ≠ 0 by omega)
  have h3 := Int.emod_lt_of_pos p h
  obtain ⟨q, hq⟩ : ∃ q, q = p / wh := ⟨_, rfl⟩
  obtain ⟨r, hr⟩ : ∃ r, r = p % wh := ⟨_, rfl⟩
  rw [← hq] at h1 ⊢
  rw [← hr] at h1 h2 h3
  have e : p = q * wh + r := by rw [Int.mul_comm q wh]; omega
  have e2 : p - q * wh = r := by omega
  rw [e2]
  have e3 : 2 * p + wh = (2 * r + wh) + q * (2 * wh) := by
    rw [e]
    have : q * (2 * wh) = 2 * (q * wh) := by rw [Int.mul_left_comm]
    omega
  rw [e3, Int.add_mul_ediv_right _ _ (by omega)]
  have e4 : (2 * r + wh) / (2 * wh) = if decide (wh ≤ 2 * r) = true then 1 else 0 := by
    by_cases hc : wh ≤ 2 * r
    · rw [if_pos (decide_eq_true hc)]
      refine Int.le_antisymm ?_ ?_
      · exact Int.le_of_lt_add_one ((Int.ediv_lt_iff_lt_mul (by omega)).mpr (by omega))
      · exact (Int.le_ediv_iff_mul_le (by omega)).mpr (by omega)
    · rw [if_neg (by simpa using hc)]
      exact Int.ediv_eq_zero_of_lt (by omega) (by omega)
  rw [e4]
  omega
theorem dry_eq (n : Str) (r : List Int) (l : Int) : mDry (clayOf n r) l = rRound (l * (1000 - r.getD 0 0)) 1000 := by
  rw [rRound_eq (by decide)]
  show (2 * l * (1000 - r.getD 0 0) + 1000) / 2000 = _
  rw [Int.mul_assoc]; rfl
theorem fired_eq (n : Str) (r : List Int) (l : Int) : mFired (clayOf n r) l = rRound (l * (1000 - r.getD 0 0) * (1000 - r.getD 1 0)) 1000000 := by
  rw [rRound_eq (by decide)]
  show (2 * l * (1000 - r.getD 0 0) * (1000 - r.getD 1 0) + 1000000) / 2000000 = _
  rw [Int.mul_assoc 2 l, Int.mul_assoc 2]; rfl
theorem lost_eq (n : Str) (r : List Int) : mLost (clayOf n r) = rLost r := by
  show 1000 - (0 - (0 - (1000 - r.getD 0 0) * (1000 - r.getD 1 0)) / 1000) = (1000000 - (1000 - r.getD 0 0) * (1000 - r.getD 1 0)) / 1000
  generalize (1000 - r.getD 0 0) * (1000 - r.getD 1 0) = x
  omega
theorem wetF_spec {c : ClayV} {l : Int} : ∀ (n : Nat) (w : Int), l ≤ mFired c (w + n) → w ≤ wetF c l n w ∧ wetF c l n w ≤ w + n ∧ l ≤ mFired c (wetF c l n w) ∧ ∀ k, w ≤ k → k < wetF c l n w → mFired c k < l
  | 0, w, h => by
    have h : l ≤ mFired c w := by simpa using h
    exact ⟨Int.le_refl _, by show w ≤ w + 0; omega, h, fun k h1 h2 => by have h2 : k < w := h2; omega⟩
  | n + 1, w, h => by
    show w ≤ (if mFired c w < l then wetF c l n (w + 1) else w) ∧ _ ≤ _ ∧ _ ∧ _
    have e : wetF c l (n + 1) w = if mFired c w < l then wetF c l n (w + 1) else w := rfl
    rw [e]
    by_cases hc : mFired c w < l
    · rw [if_pos hc]
      have ih := wetF_spec n (w + 1) (by rw [show w + 1 + (n : Int) = w + ((n + 1 : Nat) : Int) by omega]; exact h)
      refine ⟨by omega, by omega, ih.2.2.1, fun k h1 h2 => ?_⟩
      by_cases hk : k = w
      · subst hk; exact hc
      · exact ih.2.2.2 k (by omega) h2
    · rw [if_neg hc]
      exact ⟨Int.le_refl _, by omega, by omega, fun k h1 h2 => by omega⟩
theorem fired_le {c : ClayV} (h : goodC c) {k : Int} (hk : 0 ≤ k) : mFired c k ≤ k := by
  unfold mFired
  have h1 : (1000 - c.dries) * (1000 - c.fires) ≤ 1000 * 1000 := Int.mul_le_mul (by have := h.1; omega) (by have := h.2.2.1; omega) (by have := h.2.2.2.1; omega) (by decide)
  have h2 : 2 * k * (1000 - c.dries) * (1000 - c.fires) ≤ 2 * k * (1000 * 1000) := by
    rw [Int.mul_assoc (2 * k)]
    exact Int.mul_le_mul_of_nonneg_left h1 (by omega)
  omega
theorem fired_ge {c : ClayV} (h : goodC c) {k : Int} (hk : 0 ≤ k) : k ≤ 4 * mFired c k + 4 := by
  unfold mFired
  have h1 : 500 * 500 ≤ (1000 - c.dries) * (1000 - c.fires) := Int.mul_le_mul (by have := h.2.1; omega) (by have := h.2.2.2.1; omega) (by decide) (by have := h.2.1; omega)
  have h2 : 2 * k * (500 * 500) ≤ 2 * k * (1000 - c.dries) * (1000 - c.fires) := by
    rw [Int.mul_assoc (2 * k)]
    exact Int.mul_le_mul_of_nonneg_left h1 (by omega)
  omega
theorem filter_first {p : Int → Bool} : ∀ (n : Nat) (a w : Int), a ≤ w → w < a + n → p w = true → (∀ k, a ≤ k → k < w → p k = false) → ∃ r, (upFrom a n).filter p = w :: r
  | 0, a, w, h1, h2, _, _ => by omega
  | n + 1, a, w, h1, h2, h3, h4 => by
    have e : upFrom a (n + 1) = a :: upFrom (a + 1) n := by
      unfold upFrom
      rw [List.range_succ_eq_map, List.map_cons, List.map_map]
      congr 1
      · simp
      · apply List.map_congr_left
        intro i _
        simp
        omega
    rw [e]
    by_cases hw : a = w
    · subst hw
      exact ⟨_, List.filter_cons_of_pos h3⟩
    · rw [List.filter_cons_of_neg (by rw [h4 a (Int.le_refl _) (by omega)]; exact Bool.false_ne_true)]
      exact filter_first n (a + 1) w (by omega) (by omega) h3 fun k q1 q2 => h4 k (by omega) q2
theorem wet_eq {n : Str} {r : List Int} (h : goodR r) {l : Int} (h1 : 0 ≤ l) (h2 : l < 60) : ∃ t, (upFrom 0 500).filter (fun k => decide (l ≤ rRound (k * (1000 - r.getD 0 0) * (1000 - r.getD 1 0)) 1000000)) = mWet (clayOf n r) l :: t := by
  have hc := clayOf_good (n := n) h
  have hs := wetF_spec (c := clayOf n r) (l := l) (3 * l + 4).toNat l (by
    have := fired_ge hc (k := l + ((3 * l + 4).toNat : Int)) (by omega)
    omega)
  obtain ⟨s1, s2, s3, s4⟩ := hs
  refine filter_first 500 0 (mWet (clayOf n r) l) (by show 0 ≤ wetF _ _ _ _; omega) (by show wetF _ _ _ _ < _; omega) ?_ fun k q1 q2 => ?_
  · rw [← fired_eq n]
    exact decide_eq_true s3
  · rw [← fired_eq n]
    refine decide_eq_false ?_
    by_cases hk : l ≤ k
    · have := s4 k hk q2
      omega
    · have := fired_le hc q1
      omega
end KH

set_option Elab.async false
set_option linter.all false
set_option maxRecDepth 100000
set_option maxHeartbeats 1000000
namespace KH
open PySem TP L2
abbrev NRow := Str × List Int × Int
def mkC (L : List NRow) : Parts := L.map fun x => (clayOf x.1 x.2.1, x.2.2)
def mkR (L : List NRow) : RParts := L.map fun x => (x.2.1, x.2.2)
theorem up3 : upFrom 0 3 = [0, 1, 2] := by decide
theorem mix_mean (L : List NRow) {k : Nat} (hk : k < 3) : mean (mkC L) (k : Int) = (rMix (mkR L)).getD k 0 := by
  have key : ∀ r : List Int, List.getD [r.getD 0 0, r.getD 1 0, r.getD 2 0] k 0 = r.getD k 0 := fun r => by
    match k, hk with
    | 0, _ => rfl
    | 1, _ => rfl
    | 2, _ => rfl
  have e1 : mean (mkC L) (k : Int) = (L.map fun x => x.2.1.getD k 0 * x.2.2).sum / (L.map fun x => x.2.2).sum := by
    unfold mean mkC
    rw [List.map_map, List.map_map]
    congr 2
    apply List.map_congr_left
    intro x _
    show List.getD [x.2.1.getD 0 0, x.2.1.getD 1 0, x.2.1.getD 2 0] ((k : Int).toNat) 0 * x.2.2 = _
    rw [Int.toNat_natCast, key]
  have e2 : ∀ j : Int, ((mkR L).map fun x => x.1.getD j.toNat 0 * x.2).sum / ((mkR L).map fun x => x.2).sum = (L.map fun x => x.2.1.getD j.toNat 0 * x.2.2).sum / (L.map fun x => x.2.2).sum := fun j => by
    unfold mkR
    rw [List.map_map, List.map_map]
    rfl
  rw [e1]
  unfold rMix
  rw [up3]
  match k, hk with
  | 0, _ => exact (e2 0).symm
  | 1, _ => exact (e2 1).symm
  | 2, _ => exact (e2 2).symm
theorem rMix_len (ps : RParts) : (rMix ps).length = 3 := by
  unfold rMix
  rw [List.length_map, up3]; rfl
def nm2 (ra rb : List Int) (x : Int × Int) : NRow := if x.1 = 0 then (n0, ra, x.2) else (n1, rb, x.2)
theorem pick_mk {ra rb : List Int} {ps : Sc} (h : goodS ps) : pickC [clayOf n0 ra, clayOf n1 rb] ps = mkC (ps.map (nm2 ra rb)) ∧ pickR [ra, rb] ps = mkR (ps.map (nm2 ra rb)) := by
  have key : ∀ x ∈ ps, x.1 = 0 ∨ x.1 = 1 := fun x hx => by
    have := h.2 x hx
    omega
  unfold pickC pickR mkC mkR
  rw [List.map_map, List.map_map]
  constructor
  · apply List.map_congr_left
    intro x hx
    obtain ⟨a, b⟩ := x
    rcases key _ hx with e | e
    · have e : a = 0 := e
      subst e; rfl
    · have e : a = 1 := e
      subst e; rfl
  · apply List.map_congr_left
    intro x hx
    obtain ⟨a, b⟩ := x
    rcases key _ hx with e | e
    · have e : a = 0 := e
      subst e; rfl
    · have e : a = 1 := e
      subst e; rfl
theorem was_eq {K : W.Frag} {ra rb : List Int} {ps : Sc} (h : goodS ps) : (((A_mixed K).r ("m", pickC [clayOf n0 ra, clayOf n1 rb] ps)).name, ((A_mixed K).r ("m", pickC [clayOf n0 ra, clayOf n1 rb] ps)).dries, ((A_mixed K).r ("m", pickC [clayOf n0 ra, clayOf n1 rb] ps)).fires, ((A_mixed K).r ("m", pickC [clayOf n0 ra, clayOf n1 rb] ps)).takes)
    = (("m" : Str), (rMix (pickR [ra, rb] ps)).getD 0 0, (rMix (pickR [ra, rb] ps)).getD 1 0, (rMix (pickR [ra, rb] ps)).getD 2 0) := by
  obtain ⟨h1, h2⟩ := pick_mk (ra := ra) (rb := rb) h
  rw [h1, h2]
  have a0 := mix_mean (ps.map (nm2 ra rb)) (k := 0) (by decide)
  have a1 := mix_mean (ps.map (nm2 ra rb)) (k := 1) (by decide)
  have a2 := mix_mean (ps.map (nm2 ra rb)) (k := 2) (by decide)
  show (("m" : Str), mean _ ((0 : Nat) : Int), mean _ ((1 : Nat) : Int), mean _ ((2 : Nat) : Int)) = _
  rw [a0, a1, a2]
def wasV (K : PySem.W.Frag) (bd : Bool) (ps : Parts) : Sum ClayV Str := if bd = true then .inr "ClayError" else .inl ((A_mixed K).r ("m", ps))
theorem isTxt_was {K : W.Frag} {bd : Bool} {ps : Parts} : isTxt "ClayError" (wasV K bd ps) = bd := by
  unfold wasV
  cases bd with
  | true => rfl
  | false => rfl
theorem was_inl {K : W.Frag} {bd : Bool} {ps : Parts} (h : (!bd) = true) : wasV K bd ps = .inl ((A_mixed K).r ("m", ps)) := by
  cases bd with
  | true => cases h
  | false => rfl
theorem sum_pos {α : Type} {f : α → Int} : ∀ {xs : List α}, xs ≠ [] → (∀ x ∈ xs, 1 ≤ f x) → 0 < (xs.map f).sum
  | [], h, _ => absurd rfl h
  | [x], _, h => by
    have := h x List.mem_cons_self
    simp
    omega
  | x :: y :: r, _, h => by
    have h1 := h x List.mem_cons_self
    have h2 := sum_pos (xs := y :: r) (by simp) fun z hz => h z (List.mem_cons_of_mem _ hz)
    rw [List.map_cons, List.sum_cons]
    omega
theorem pickR_good {ra rb : List Int} {ps : Sc} (ga : goodR ra) (gb : goodR rb) (h : goodS ps) : goodRP (pickR [ra, rb] ps) := by
  refine ⟨by unfold pickR; rw [List.length_map]; have := h.1; omega, fun x hx => ?_⟩
  obtain ⟨y, hy, rfl⟩ := List.mem_map.mp hx
  obtain ⟨h1, h2, h3, h4⟩ := h.2 y hy
  refine ⟨?_, by show -1000 ≤ y.2; omega, by show y.2 ≤ 1000; omega⟩
  obtain ⟨a, b⟩ := y
  have h1 : 0 ≤ a := h1
  have h2 : a < 2 := h2
  have : a = 0 ∨ a = 1 := by omega
  rcases this with rfl | rfl
  · exact ga
  · exact gb
theorem not_bad {K : W.Frag} {cl : List ClayV} {ps : Sc} (h : (A_mixed K).bad ("m", pickC cl ps) = false) : ps ≠ [] ∧ ∀ x ∈ ps, 1 ≤ x.2 := by
  have h : (decide (((pickC cl ps).length : Int) = 0) || (pickC cl ps).any fun x => decide (x.2 < 1)) = false := h
  rw [Bool.or_eq_false_iff] at h
  obtain ⟨h1, h2⟩ := h
  refine ⟨fun z => ?_, fun x hx => ?_⟩
  · subst z
    simp [pickC] at h1
  · have := (List.any_eq_false.mp h2) (cl.getD x.1.toNat d0C, x.2) (List.mem_map.mpr ⟨x, hx, rfl⟩)
    have := of_decide_eq_false (Bool.eq_false_iff.mpr this)
    have : ¬ x.2 < 1 := this
    omega
theorem pickR_sum {ra rb : List Int} {ps : Sc} (h1 : ps ≠ []) (h2 : ∀ x ∈ ps, 1 ≤ x.2) : 0 < ((pickR [ra, rb] ps).map fun x => x.2).sum := by
  refine sum_pos (f := fun x : List Int × Int => x.2) (fun z => h1 ?_) fun x hx => ?_
  · unfold pickR at z
    exact List.map_eq_nil_iff.mp z
  · obtain ⟨y, hy, rfl⟩ := List.mem_map.mp hx
    exact h2 y hy
/-! ### the best of all -/
def heapOf (ra rb : List Int) (a b : Int) : RParts := ([(ra, a), (rb, b)].filter fun x => decide (0 < x.2)).map fun x => (x.1, x.2)
def hpL (ra rb : List Int) (a b : Int) : List NRow := [(n0, ra, a), (n1, rb, b)].filter fun x => decide (0 < x.2.2)
theorem heap_mk (ra rb : List Int) (a b : Int) : heapOf ra rb a b = mkR (hpL ra rb a b) ∧ twoOf (clayOf n0 ra) (clayOf n1 rb) a b = mkC (hpL ra rb a b) := by
  unfold heapOf twoOf mkR mkC hpL
  by_cases ha : 0 < a <;> by_cases hb : 0 < b <;> simp [ha, hb]
def mxG (ra rb : List Int) (wish : Int) (a b : Int) : List T3 := if (heapOf ra rb a b).isEmpty = true then [] else [(ab (rLost (rMix (heapOf ra rb a b)) - wish), a, b)]
def mxS (ra rb : List Int) (wish : Int) (L : List T3) (a b : Int) : List T3 := if (heapOf ra rb a b).isEmpty = true then L else L ++ [(ab (rLost (rMix (heapOf ra rb a b)) - wish), a, b)]
theorem mxS_eq (ra rb : List Int) (wish : Int) (L : List T3) (a b : Int) : mxS ra rb wish L a b = L ++ mxG ra rb wish a b := by
  unfold mxS mxG
  split
  · rw [List.append_nil]
  · rfl
def mxI (ra rb : List Int) (wish : Int) (n : Nat) (L : List T3) (a : Int) : List T3 := (upFrom 0 n).foldl (fun L y => mxS ra rb wish L a y) L
def mixesF (ra rb : List Int) (wish : Int) (n : Nat) : List T3 := (upFrom 0 n).foldl (fun L x => mxI ra rb wish n L x) []
theorem foldl_app {α β : Type} {g : α → List β} : ∀ {xs : List α} {L : List β}, xs.foldl (fun L y => L ++ g y) L = L ++ xs.flatMap g
  | [], L => by simp
  | x :: r, L => by
    rw [List.foldl_cons, foldl_app, List.flatMap_cons, List.append_assoc]
theorem flatMap_len {α β : Type} {g : α → List β} (h : ∀ x, (g x).length ≤ 1) : ∀ {xs : List α}, (xs.flatMap g).length ≤ xs.length
  | [] => by simp
  | x :: r => by
    have := flatMap_len h (xs := r)
    have := h x
    rw [List.flatMap_cons, List.length_append, List.length_cons]
    omega
theorem mxI_eq (ra rb : List Int) (wish : Int) (n : Nat) (L : List T3) (a : Int) : mxI ra rb wish n L a = L ++ (upFrom 0 n).flatMap fun y => mxG ra rb wish a y := by
  unfold mxI
  rw [show (fun L y => mxS ra rb wish L a y) = fun L y => L ++ mxG ra rb wish a y from funext fun L => funext fun y => mxS_eq ..]
  exact foldl_app
theorem mixesF_eq (ra rb : List Int) (wish : Int) (n : Nat) : mixesF ra rb wish n = (upFrom 0 n).flatMap fun x => (upFrom 0 n).flatMap fun y => mxG ra rb wish x y := by
  unfold mixesF
  rw [show (fun L x => mxI ra rb wish n L x) = fun L x => L ++ (upFrom 0 n).flatMap fun y => mxG ra rb wish x y from funext fun L => funext fun y => mxI_eq ..]
  rw [foldl_app, List.nil_append]
theorem mixes_ne {ra rb : List Int} {wish : Int} {n : Nat} (hn : 2 ≤ n) : ∃ x xs, mixesF ra rb wish n = x :: xs := by
  have : (ab (rLost (rMix (heapOf ra rb 0 1)) - wish), (0 : Int), (1 : Int)) ∈ mixesF ra rb wish n := by
    rw [mixesF_eq]
    refine List.mem_flatMap.mpr ⟨0, upFrom_mem.mpr ⟨by decide, by omega⟩, List.mem_flatMap.mpr ⟨1, upFrom_mem.mpr ⟨by decide, by omega⟩, ?_⟩⟩
    have : (heapOf ra rb 0 1).isEmpty = false := by unfold heapOf; simp
    unfold mxG
    rw [if_neg (by rw [this]; exact Bool.false_ne_true)]
    exact List.mem_singleton.mpr rfl
  cases h : mixesF ra rb wish n with
  | nil => rw [h] at this; cases this
  | cons x xs => exact ⟨x, xs, rfl⟩
def bestOf (L : List T3) : Option T3 := L.foldl better none
theorem bestOf_cons (x : T3) (xs : List T3) : bestOf (x :: xs) = some (minT3 x xs) := by
  unfold bestOf
  rw [List.foldl_cons]
  show xs.foldl better (some x) = _
  induction xs generalizing x with
  | nil => rfl
  | cons y r ih =>
    rw [List.foldl_cons]
    show r.foldl better (some (if ltT3 y x = true then y else x)) = _
    rw [ih]
    rfl
theorem row_eq (ra rb : List Int) (wish a b : Int) : rowOf (clayOf n0 ra) (clayOf n1 rb) wish a b = (ab (rLost (rMix (heapOf ra rb a b)) - wish), a, b) := by
  obtain ⟨h1, h2⟩ := heap_mk ra rb a b
  unfold rowOf
  rw [h1, h2]
  have a0 := mix_mean (hpL ra rb a b) (k := 0) (by decide)
  have a1 := mix_mean (hpL ra rb a b) (k := 1) (by decide)
  have e : mLost ⟨"mix", mean (mkC (hpL ra rb a b)) 0, mean (mkC (hpL ra rb a b)) 1, mean (mkC (hpL ra rb a b)) 2⟩ = rLost (rMix (mkR (hpL ra rb a b))) := by
    show 1000 - (0 - (0 - (1000 - mean _ ((0 : Nat) : Int)) * (1000 - mean _ ((1 : Nat) : Int))) / 1000) = (1000000 - (1000 - _) * (1000 - _)) / 1000
    rw [a0, a1]
    generalize (1000 - (rMix (mkR (hpL ra rb a b))).getD 0 0) * (1000 - (rMix (mkR (hpL ra rb a b))).getD 1 0) = x
    omega
  rw [e]
theorem best_eq (ra rb : List Int) (wish : Int) (most : Int) : mBest (clayOf n0 ra) (clayOf n1 rb) wish most = bestOf (mixesF ra rb wish (most + 1).toNat) := by
  have h1 : ∀ (b : Option T3) (x y : Int), bmS (clayOf n0 ra) (clayOf n1 rb) wish b x y = (mxG ra rb wish x y).foldl better b := fun b x y => by
    unfold bmS mxG
    rw [row_eq]
    obtain ⟨h1, h2⟩ := heap_mk ra rb x y
    have e : (twoOf (clayOf n0 ra) (clayOf n1 rb) x y).isEmpty = (heapOf ra rb x y).isEmpty := by
      rw [h1, h2]
      unfold mkC mkR
      rw [List.isEmpty_map, List.isEmpty_map]
    rw [e]
    split <;> rfl
  have h2 : ∀ (g : Int → List T3) (xs : List Int) (b : Option T3), xs.foldl (fun b y => (g y).foldl better b) b = (xs.flatMap g).foldl better b := fun g xs => by
    induction xs with
    | nil => intro b; rfl
    | cons x r ih =>
      intro b
      rw [List.foldl_cons, ih, List.flatMap_cons, List.foldl_append]
  unfold mBest bestOf
  rw [mixesF_eq]
  rw [← h2]
  congr 1
  funext b x
  rw [← h2]
  congr 1
  funext b y
  exact h1 b x y
theorem heap_mem {ra rb : List Int} {a b : Int} {x : List Int × Int} (h : x ∈ heapOf ra rb a b) : (x = (ra, a) ∨ x = (rb, b)) ∧ 0 < x.2 := by
  unfold heapOf at h
  obtain ⟨y, hy, rfl⟩ := List.mem_map.mp h
  obtain ⟨h1, h2⟩ := List.mem_filter.mp hy
  exact ⟨by rcases List.mem_cons.mp h1 with e | h1; exact .inl e; exact .inr (List.mem_singleton.mp h1), of_decide_eq_true h2⟩
theorem heap_len {ra rb : List Int} {a b : Int} : (heapOf ra rb a b).length ≤ 2 := by
  unfold heapOf
  rw [List.length_map]
  exact List.length_filter_le _ _
theorem heap_good {ra rb : List Int} {a b : Int} (ga : goodR ra) (gb : goodR rb) (ha : -1000 ≤ a ∧ a ≤ 1000) (hb : -1000 ≤ b ∧ b ≤ 1000) : goodRP (heapOf ra rb a b) := by
  refine ⟨Nat.le_trans heap_len (by decide), fun x hx => ?_⟩
  rcases (heap_mem hx).1 with rfl | rfl
  · exact ⟨ga, ha⟩
  · exact ⟨gb, hb⟩
theorem heap_sum {ra rb : List Int} {a b : Int} (h : (heapOf ra rb a b).isEmpty = false) : 0 < ((heapOf ra rb a b).map fun x => x.2).sum := by
  refine sum_pos (f := fun x : List Int × Int => x.2) (fun z => ?_) fun x hx => (heap_mem hx).2
  rw [z] at h
  cases h
/-- the mixture's row is good -/
theorem rMix_good {ps : RParts} (h : goodRP ps) (hp : ∀ x ∈ ps, 0 < x.2) (hne : 0 < (ps.map fun x => x.2).sum) : goodR (rMix ps) := by
  refine ⟨rMix_len ps, fun x hx => ?_⟩
  unfold rMix at hx
  obtain ⟨k, hk, rfl⟩ := List.mem_map.mp hx
  have hk3 := upFrom_mem.mp hk
  have bd : ∀ qs : RParts, (∀ x ∈ qs, goodR x.1 ∧ 0 < x.2) → 0 ≤ (qs.map fun x => x.1.getD k.toNat 0 * x.2).sum ∧ (qs.map fun x => x.1.getD k.toNat 0 * x.2).sum ≤ 500 * (qs.map fun x => x.2).sum := fun qs => by
    induction qs with
    | nil => intro _; simp
    | cons q r ih =>
      intro hq
      obtain ⟨i1, i2⟩ := ih fun x hx => hq x (List.mem_cons_of_mem _ hx)
      obtain ⟨q1, q2⟩ := hq q List.mem_cons_self
      have g := goodR_at q1 (i := k.toNat) (by omega)
      rw [List.map_cons, List.sum_cons, List.map_cons, List.sum_cons]
      have m1 : 0 ≤ q.1.getD k.toNat 0 * q.2 := Int.mul_nonneg g.1 (by omega)
      have m2 : q.1.getD k.toNat 0 * q.2 ≤ 500 * q.2 := Int.mul_le_mul_of_nonneg_right g.2 (by omega)
      omega
  obtain ⟨b1, b2⟩ := bd ps fun x hx => ⟨(h.2 x hx).1, hp x hx⟩
  refine ⟨Int.ediv_nonneg b1 (by omega), ?_⟩
  exact Int.ediv_le_of_le_mul hne b2
end KH

set_option Elab.async false
set_option linter.all false
set_option maxRecDepth 100000
set_option maxHeartbeats 1000000
set_option pp.maxSteps 700
set_option pp.deepTerms false
namespace KH
open PySem PySem.Spec PyProof.Rows L2 TP LM
section
variable {P : Program} {w : World} {K : PySem.W.Frag} {mg : Str → Option Value} {base : Heap} {G : List Addr}
def spLaw (K : PySem.W.Frag) (Pl : Addr) : Sp := fun vs H Q E => ∃ (a : Addr) (ns : List Int), vs = [.ref a] ∧ SqL K H a (ns.map V.int) ∧ H (pMixed K) = some (.tbl #[]) ∧ H Pl = some (.tbl #[]) ∧ ∀ v H', v = V.bl true → Q v H'
def fmLaw (G : List Addr) (H : Hp) (h : ∀ m ∈ G, H m ≠ none) : Fm := ⟨G, [], G, fun b => if b ∈ G then H b else none, fun _ h => h, fun m hm => by rw [if_pos hm]; exact h m hm⟩
theorem sqL_hid {M : List Addr} {H : Hp} {p : Addr} {vs : List V} (h : SqL K H p vs) (hM : ∀ m ∈ M, H m = some (.tbl #[])) : SqL K (hid M H) p vs := by
  have key : ∀ {o : HO}, H p = some o → o ≠ .tbl #[] → hid M H p = some o := fun {o} e n => hid_of (fun z => n (by rw [hM p z] at e; exact (Option.some.inj e).symm)) e
  rcases h with (h | ⟨o, h⟩) | h
  · exact .inl (.inl (key h (by intro z; cases z)))
  · exact .inl (.inr ⟨o, key h (by intro z; cases z)⟩)
  · exact .inr h
theorem ints_rep {h : Hp} : ∀ ns : List Int, All2 (rInt.rep h) (ns.map V.int) ns
  | [] => .nil
  | _ :: ns => .cons rfl (ints_rep ns)
abbrev CtxZ0 (K : PySem.W.Frag) (Pl : Addr) (q : Str) (ns : List Int) : TP.Ctx := .own (oTabR Pl q (rSeq K rInt) ns) :: List.replicate (23 + 1) .no
/-- the law is entered -/
theorem law_in {Pl : Addr} {q : Str} {a : Addr} {ns : List Int} {H : Hp} {PP : L2.St → Hp → Prop} (hne : Pl ≠ pMixed K) (hs : SqL K H a (ns.map V.int)) (h1 : H (pMixed K) = some (.tbl #[])) (h2 : H Pl = some (.tbl #[]))
    (k : ∀ F : Fm, F.G = [pMixed K] → F.own0 = [] → (∀ p, p ∉ F.G → F.H0 p = none) → KT F gT (CtxZ0 K Pl q ns) PP) : PP (start lawN [.ref a]) H := by
  have hm : ∀ m ∈ [pMixed K], H m ≠ none := fun m hm => by rw [List.mem_singleton.mp hm, h1]; exact Option.some_ne_none _
  have hM : ∀ m ∈ [pMixed K, Pl], H m = some (.tbl #[]) := fun m hm => by
    rcases List.mem_cons.mp hm with rfl | hm
    · exact h1
    · rw [List.mem_singleton.mp hm]; exact h2
  refine k (fmLaw [pMixed K] H hm) rfl rfl (fun p hp => if_neg hp) [pMixed K, Pl] [Pl] _ H ⟨⟨fun P hP => List.mem_cons.mpr (.inl (List.mem_singleton.mp hP)), fun m hm => by rw [hM m hm]; exact Option.some_ne_none _, fun P hP => ⟨#[], by rw [List.mem_singleton.mp hP]; exact h1, trivial⟩⟩, fun b o _ e => ?_, fun m hm => List.mem_cons.mpr (.inl (List.mem_singleton.mp hm)), fun p hp => .inr (if_neg fun z => ?_)⟩ ⟨by simp, fun p hp => List.mem_cons.mpr (.inr hp), fun p hp z => ?_, ?_⟩ trivial
  · have e : (if b ∈ [pMixed K] then H b else none) = some o := e
    split at e
    · exact e
    · cases e
  · exact hne (by rw [← List.mem_singleton.mp hp]; exact List.mem_singleton.mp z)
  · exact hne (by rw [← List.mem_singleton.mp hp]; exact List.mem_singleton.mp z)
  · exact ⟨.ref a, [Pl], [], rfl, rfl, ⟨⟨a, _, rfl, sqL_hid hs hM, ints_rep ns⟩, rfl, rfl, #[], h2, trivial, fun pos cv z => by cases z⟩, env_no' rfl⟩
abbrev CtxRd (o : Sl) (d : Dice) : TP.Ctx := [o, .own (oLst rInt (dl d)), .no, .no, .no, .no, .no, .no, .no, .no, .no, .no, .no, .no, .no, .no, .no, .no, .no, .no, .no, .no, .no, .no, .no]
abbrev r501D (d : Dice) (_ : Int) : Dice := rollD d 501
abbrev r501V (d : Dice) (_ : Int) : Int := rollV d 501
abbrev stJ (d : Dice) (_ : Int) : Dice := (upFrom 0 3).foldl r501D d
abbrev vJ (d : Dice) (_ : Int) : List Int := seqV r501D r501V d (upFrom 0 3)
theorem rollV_in {d : Dice} {m : Int} (h : 0 < m) : 0 ≤ rollV d m ∧ rollV d m < m := by
  unfold rollV
  split
  · exact ⟨Int.emod_nonneg _ (by omega), Int.emod_lt_of_pos _ h⟩
  · exact ⟨Int.emod_nonneg _ (by omega), Int.emod_lt_of_pos _ h⟩
theorem seqV_mem {α β Dt : Type} {Pr : β → Prop} {st : Dt → α → Dt} {v : Dt → α → β} (h : ∀ d x, Pr (v d x)) : ∀ {d : Dt} {xs : List α}, ∀ y ∈ seqV st v d xs, Pr y
  | _, [], y, hy => by cases hy
  | d, x :: r, y, hy => by
    rcases List.mem_cons.mp hy with rfl | hy
    · exact h d x
    · exact seqV_mem h y hy
theorem rDice_dl (c : Int) : ∃ d : Dice, rDice c = dl d := by
  unfold rDice
  split
  · exact ⟨(absI c, 0, 2), rfl⟩
  · exact ⟨(c, 1 + c % 1009, if decide (10 ^ 18 ≤ c) then 1 else 0), rfl⟩
theorem vJ_good (d : Dice) (x : Int) : goodR (vJ d x) := by
  refine ⟨by unfold vJ; rw [seqV_len, upFrom_length], seqV_mem fun d x => ?_⟩
  have := rollV_in (d := d) (m := 501) (by decide)
  exact ⟨this.1, by show rollV d 501 ≤ 500; omega⟩
theorem e_roll {Γ Γ1 Γ' : TP.Ctx} {t : TA} {W : XK} {d : Dice} {m : Int} (hm : 1 ≤ m ∧ m ≤ 100000000) (h : EA G Γ t Γ1 [⟨rInt, m⟩]) (h0 : Γ[1]? = some (.own (oLst rInt (dl d)))) (h1 : Γ1[1]? = some (.own (oLst rInt (dl d)))) (hΓ : Γ1.set 1 (.own (oLst rInt (dl (rollD d m)))) = Γ') :
    TP.E G Γ (tCall (spBO G (A_roll K) O_roll O_roll' (fun x => [⟨rInt, x.2⟩]) rInt) [] W (tCons (tVar 1) t)) Γ' rInt (rollV d m) := by
  subst hΓ
  exact e_callBO (A := A_roll K) (O := O_roll) (O' := O_roll') (d, m) h h0 h1 hm rfl
theorem bad_no {K : PySem.W.Frag} {n : Str} {r : List Int} (h : goodR r) : (A_init K).bad (n, r.getD 0 0, r.getD 1 0, r.getD 2 0) = false := by
  have h0 := goodR_at h (i := 0) (by decide)
  have h1 := goodR_at h (i := 1) (by decide)
  have h2 := goodR_at h (i := 2) (by decide)
  show (decide (min (min (r.getD 0 0) (r.getD 1 0)) (r.getD 2 0) < 0) || decide (500 < max (max (r.getD 0 0) (r.getD 1 0)) (r.getD 2 0))) = false
  rw [Bool.or_eq_false_iff]
  exact ⟨decide_eq_false (by omega), decide_eq_false (by omega)⟩
theorem en2 {ra rb : List Int} {x : Int × List Int} (h : x ∈ enumL [ra, rb]) : x = (0, ra) ∨ x = (1, rb) := by
  have e : enumL [ra, rb] = [(0, ra), (1, rb)] := rfl
  rw [e] at h
  simpa using h
abbrev rPD (d : Dice) (_ : Int) : Dice := rollD (rollD d 2) 9
abbrev rPV (d : Dice) (_ : Int) : Int × Int := (rollV d 2, rollV (rollD d 2) 9)
theorem parts_good {d : Dice} {n : Int} (h : n < 5) : goodS (seqV rPD rPV d (upFrom 0 n.toNat)) := by
  refine ⟨by rw [seqV_len, upFrom_length]; omega, seqV_mem fun d x => ?_⟩
  have h1 := rollV_in (d := d) (m := 2) (by decide)
  have h2 := rollV_in (d := rollD d 2) (m := 9) (by decide)
  exact ⟨h1.1, h1.2, h2.1, h2.2⟩
theorem good_eq {K : PySem.W.Frag} {cl : List ClayV} {ps : Sc} : (!ps.isEmpty && (List.map (fun _ => (1 : Int)) (List.filter (fun x => decide (x.2 < 1)) ps)).isEmpty) = !(A_mixed K).bad ("m", pickC cl ps) := by
  show _ = !(decide (((pickC cl ps).length : Int) = 0) || (pickC cl ps).any fun x => decide (x.2 < 1))
  unfold pickC
  rw [List.length_map, List.any_map, Bool.not_or]
  congr 1
  · cases ps with
    | nil => rfl
    | cons x r =>
      rw [List.length_cons]
      show true = !decide (((r.length + 1 : Nat) : Int) = 0)
      rw [decide_eq_false (by omega)]; rfl
  · rw [List.isEmpty_map]
    induction ps with
    | nil => rfl
    | cons x r ih =>
      rw [List.any_cons]
      by_cases hx : x.2 < 1
      · rw [List.filter_cons_of_pos (by simpa using hx)]
        show false = !(decide (x.2 < 1) || _)
        rw [decide_eq_true hx]; rfl
      · rw [List.filter_cons_of_neg (by simpa using hx), ih]
        show _ = !(decide (x.2 < 1) || _)
        rw [decide_eq_false hx]; rfl
theorem e_lamK {G : List Addr} {Γ : TP.Ctx} {Pt : Addr} {q : Str} {cells : List (Str × Addr)} {Ls : List LamD} {n i : Nat} {v : V} {e bd : Expr} {ps : Arguments} {sc : Scope} {pos : Pos} {t : XK → TE} (hx : Γ[i]? = some (.own (oTab Pt q v))) (hn : Ls[n]? = some (lamD e t)) (he : e = .Lambda ps bd sc pos) :
    TP.E G Γ (tLamV Pt q ps bd sc (cloFrom cells sc.names [])) Γ (rFn q cells Ls) n := by
  subst he
  exact LM.e_lamV hx hn
theorem ok_law (T : Top w K mg) (TB : GxR.TabB base mg (cMixed K) (pMixed K)) {Pl : Addr} (hne : Pl ≠ pMixed K) (TBL : LamX.TabB base mg (He.codeOf K d_law.at_) Pl) : Kp P w K mg base 20 d_law ["script"] (spLaw K Pl) := by
  refine (D_law T).ok sc_law (fun vs H Q E ⟨a, ns, e, _⟩ => by rw [e]; rfl) fun A outer s H vs Q E hr hsp => ?_
  obtain ⟨G, hG⟩ : ∃ G, G = [pMixed K] := ⟨_, rfl⟩
  have hPG : pMixed K ∈ G := by rw [hG]; exact List.mem_singleton.mpr rfl
  have hrT : Room (12 + 2) (XL P w K mg base A outer s H E).A := hr.mono (show 14 ≤ 19 by decide)
  obtain ⟨t0, ok0, ty0⟩ := lam_0 (P := P) (A := A) (outer := outer) (s := s) (H := H) (E := E) T TB hPG
  obtain ⟨t1, ok1, ty1⟩ := lam_1 (P := P) (A := A) (outer := outer) (s := s) (H := H) (E := E) T TB hPG
  obtain ⟨t2, ok2, ty2⟩ := lam_2 (P := P) (A := A) (outer := outer) (s := s) (H := H) (E := E) T TB hPG
  obtain ⟨t3, ok3, ty3⟩ := lam_3 (P := P) (A := A) (outer := outer) (s := s) (H := H) (E := E) T TB hPG
  obtain ⟨t4, ok4, ty4⟩ := lam_4 (P := P) (A := A) (outer := outer) (s := s) (H := H) (E := E) T TB hPG
  obtain ⟨t5, ok5, ty5⟩ := lam_5 (P := P) (A := A) (outer := outer) (s := s) (H := H) (E := E) T TB hPG
  obtain ⟨t6, ok6, ty6⟩ := lam_6 (P := P) (A := A) (outer := outer) (s := s) (H := H) (E := E) T TB hPG
  obtain ⟨t7, ok7, ty7⟩ := lam_7 (P := P) (A := A) (outer := outer) (s := s) (H := H) (E := E) T TB hPG
  obtain ⟨t8, ok8, ty8⟩ := lam_8 (P := P) (A := A) (outer := outer) (s := s) (H := H) (E := E) T TB hPG
  obtain ⟨t9, ok9, ty9⟩ := lam_9 (P := P) (A := A) (outer := outer) (s := s) (H := H) (E := E) T TB hPG
  obtain ⟨t10, ok10, ty10⟩ := lam_10 (P := P) (A := A) (outer := outer) (s := s) (H := H) (E := E) T TB hPG
  obtain ⟨Ls, hLd⟩ : ∃ Ls, Ls = [lamD (eltAt (valOf (stAt (forBody (stAt d_law.body 0)) 6)) 0) t0, lamD (eltAt (valOf (stAt d_law.body 2)) 0) t1, lamD (eltAt (valOf (stAt d_law.body 2)) 1) t2, lamD (eltAt (valOf (stAt d_law.body 2)) 2) t3, lamD (eltAt (valOf (stAt d_law.body 2)) 3) t4, lamD (eltAt (valOf (stAt d_law.body 2)) 4) t5, lamD (eltAt (valOf (stAt d_law.body 2)) 5) t6, lamD (eltAt (valOf (stAt d_law.body 2)) 6) t7, lamD (eltAt (valOf (stAt d_law.body 2)) 7) t8, lamD (eltAt (valOf (stAt d_law.body 2)) 8) t9, lamD (eltAt (valOf (stAt d_law.body 2)) 9) t10]  := ⟨_, rfl⟩
  have hLs : ∀ ld ∈ Ls, LamOk (XL P w K mg base A outer s H E) 12 ld := by
    rw [hLd]
    intro ld h
    simp only [List.mem_cons, List.not_mem_nil, or_false] at h
    rcases h with rfl | rfl | rfl | rfl | rfl | rfl | rfl | rfl | rfl | rfl | rfl <;> assumption
  have TO := told_ok T (X := XL P w K mg base A outer s H E) rfl rfl
  refine ⟨_, (pss_cons (ps_for (passes_of rfl) rfl (pi_listK (K := K) rfl (pe_call (ok_law_rounds (G := G) T) (hr.mono (show 2 ≤ 19 by decide)) rfl (g_law_rounds T) (D_law_rounds T).kp (b_law_rounds T) .nil (passes_call (takes_of rfl rfl rfl rfl) (fun _ _ _ _ h => h)) (pa_cons (pv 0) (pa_cons pe_int pa_nil)))) (pg_name (i := 1) sc_law.nd rfl (by first | exact Or.inl rfl | exact Or.inr rfl)) (pss_cons (ps_set (i := 4) sc_law.nd rfl (by first | exact Or.inl rfl | exact Or.inr rfl) (pe_lc rfl sc_law.nd (own := [("j", 21)]) (pi_range1 rfl (f_range T) (pa_cons pe_int pa_nil)) (blkOk_by (by kernel_rfl)) (fun _ _ _ _ _ => (pg_name (i := 21) sc_law.nd rfl (by first | exact Or.inl rfl | exact Or.inr rfl))) (fun _ _ _ _ _ => pts_nil) (fun _ _ _ _ _ => (pe_callTy (call_tuple_ofK (K := K) rfl) rfl (f_tuple T) (by decide +kernel) (pa_cons (pe_lc rfl sc_law.nd (own := [("k", 22)]) (pi_range1 rfl (f_range T) (pa_cons pe_int pa_nil)) (blkOk_by (by kernel_rfl)) (fun _ _ _ _ _ => (pg_name (i := 22) sc_law.nd rfl (by first | exact Or.inl rfl | exact Or.inr rfl))) (fun _ _ _ _ _ => pts_nil) (fun _ _ _ _ _ => (pe_call (ok_law_roll (G := G) T) (hr.mono (show 1 ≤ 19 by decide)) rfl (g_law_roll T) (D_law_roll T).kp (b_law_roll T) .nil passL (pa_cons (pv 1) (pa_cons pe_int pa_nil))))) pa_nil))))) (pss_cons (ps_set (i := 5) sc_law.nd rfl (by first | exact Or.inl rfl | exact Or.inr rfl) (pe_lc rfl sc_law.nd (own := [("k", 22), ("row", 9)]) (pi_enumK (K := K) rfl rfl (f_enumerate T) (pa_cons (pv 4) pa_nil)) (blkOk_by (by kernel_rfl)) (fun _ _ _ _ _ => (pg_tupK (K := K) (n := 2) rfl rfl (pgs_cons (pg_name (i := 22) sc_law.nd rfl (by first | exact Or.inl rfl | exact Or.inr rfl)) (pgs_cons (pg_name (i := 9) sc_law.nd rfl (by first | exact Or.inl rfl | exact Or.inr rfl)) pgs_nil)))) (fun _ _ _ _ _ => pts_nil) (fun _ _ _ _ _ => (pe_make (k_Clay T) (ok_Clay_init (G := G) T) (hr.mono (show 1 + 1 ≤ 19 by decide)) rfl (g_Clay T) (b_Clay_init T) .nil passL (pa_cons (pe_op op_add_str pe_str (pe_callTy call_str_int rfl (f_str T) (by decide +kernel) (pa_cons (pv 22) pa_nil))) (pa_cons (pe_ix (ix_tupK (K := K) rfl) (pv 9) pe_int (fun _ _ => rfl)) (pa_cons (pe_ix (ix_tupK (K := K) rfl) (pv 9) pe_int (fun _ _ => rfl)) (pa_cons (pe_ix (ix_tupK (K := K) rfl) (pv 9) pe_int (fun _ _ => rfl)) pa_nil)))))))) (pss_cons (ps_asg (pe_tup (pa_cons (pe_call (ok_law_roll (G := G) T) (hr.mono (show 1 ≤ 19 by decide)) rfl (g_law_roll T) (D_law_roll T).kp (b_law_roll T) .nil (passes_call (takes_of rfl rfl rfl rfl) (fun _ _ _ _ h => h)) (pa_cons (pv 1) (pa_cons pe_int pa_nil))) (pa_cons (pe_call (ok_law_roll (G := G) T) (hr.mono (show 1 ≤ 19 by decide)) rfl (g_law_roll T) (D_law_roll T).kp (b_law_roll T) .nil (passes_call (takes_of rfl rfl rfl rfl) (fun _ _ _ _ h => h)) (pa_cons (pv 1) (pa_cons pe_int pa_nil))) pa_nil))) (pg_tupK (K := K) (n := 2) rfl rfl (pgs_cons (pg_name (i := 6) sc_law.nd rfl (by first | exact Or.inl rfl | exact Or.inr rfl)) (pgs_cons (pg_name (i := 7) sc_law.nd rfl (by first | exact Or.inl rfl | exact Or.inr rfl)) pgs_nil)))) (pss_cons (ps_for (passes_of rfl) rfl (pi_zipK (K := K) rfl rfl (f_zip T) (pa_cons (pv 5) (pa_cons (pv 4) pa_nil))) (pg_tupK (K := K) (n := 2) rfl rfl (pgs_cons (pg_name (i := 8) sc_law.nd rfl (by first | exact Or.inl rfl | exact Or.inr rfl)) (pgs_cons (pg_name (i := 9) sc_law.nd rfl (by first | exact Or.inl rfl | exact Or.inr rfl)) pgs_nil))) (pss_cons (ps_set (i := 17) sc_law.nd rfl (by first | exact Or.inl rfl | exact Or.inr rfl) (pe_call (ok_law_round (G := G) T) (hr.mono (show 1 ≤ 19 by decide)) rfl (g_law_round T) (D_law_round T).kp (b_law_round T) .nil (passes_call (takes_of rfl rfl rfl rfl) (fun _ _ _ _ h => h)) (pa_cons (pe_op op_mul (pe_op op_mul (pv 6) (pe_op op_sub pe_int (pe_ix (ix_tupK (K := K) rfl) (pv 9) pe_int (fun _ _ => rfl)))) (pe_op op_sub pe_int (pe_ix (ix_tupK (K := K) rfl) (pv 9) pe_int (fun _ _ => rfl)))) (pa_cons pe_int pa_nil)))) (pss_cons (ps_if (PW.pt (pw_or (pt_cmpR op_ne (pe_meth (pv 8) (c_Clay T) (m_Clay_dry T) (ok_Clay_dry (G := G) T) (hr.mono (show 1 ≤ 19 by decide)) (b_Clay_dry T) .nil (passes_call (takes_of rfl rfl rfl rfl) (fun _ _ _ _ h => h)) (pa_cons (pv 6) pa_nil)) (pe_call (ok_law_round (G := G) T) (hr.mono (show 1 ≤ 19 by decide)) rfl (g_law_round T) (D_law_round T).kp (b_law_round T) .nil (passes_call (takes_of rfl rfl rfl rfl) (fun _ _ _ _ h => h)) (pa_cons (pe_op op_mul (pv 6) (pe_op op_sub pe_int (pe_ix (ix_tupK (K := K) rfl) (pv 9) pe_int (fun _ _ => rfl)))) (pa_cons pe_int pa_nil))) (nomark _)) (pw_or (pt_cmpR op_ne (pe_meth (pv 8) (c_Clay T) (m_Clay_fired T) (ok_Clay_fired (G := G) T) (hr.mono (show 1 ≤ 19 by decide)) (b_Clay_fired T) .nil (passes_call (takes_of rfl rfl rfl rfl) (fun _ _ _ _ h => h)) (pa_cons (pv 6) pa_nil)) (pv 17) (nomark _)) (pw_or1 (pt_cmpR op_ne (pe_meth0 (pv 8) (c_Clay T) (m_Clay_lost T) (ok_Clay_lost (G := G) T) (hr.mono (show 1 ≤ 19 by decide)) (b_Clay_lost T) .nil (passes_call (takes_of rfl rfl rfl rfl) (fun _ _ _ _ h => h))) (pe_call (ok_law_lost (G := G) T) (hr.mono (show 1 ≤ 19 by decide)) rfl (g_law_lost T) (D_law_lost T).kp (b_law_lost T) .nil (passes_call (takes_of rfl rfl rfl rfl) (fun _ _ _ _ h => h)) (pa_cons (pv 9) pa_nil)) (nomark _)))))) (pss_one (ps_ret pe_bl)) pss_nil) (pss_cons (ps_setLc (i := 18) rfl sc_law.nd rfl rfl (sw_true rfl rfl rfl rfl) (own := [("k", 22)]) (pi_range1 rfl (f_range T) (pa_cons pe_int pa_nil)) (blkOk_by (by kernel_rfl)) (fun _ _ _ _ _ => (pg_name (i := 22) sc_law.nd rfl (by first | exact Or.inl rfl | exact Or.inr rfl))) (fun _ _ _ _ _ => (pts_one (pt_cmpR op_ge (pe_call (ok_law_round (G := G) T) (hr.mono (show 1 ≤ 19 by decide)) rfl (g_law_round T) (D_law_round T).kp (b_law_round T) .nil passL (pa_cons (pe_op op_mul (pe_op op_mul (pv 22) (pe_op op_sub pe_int (pe_ix (ix_tupK (K := K) rfl) (pv 9) pe_int (fun _ _ => rfl)))) (pe_op op_sub pe_int (pe_ix (ix_tupK (K := K) rfl) (pv 9) pe_int (fun _ _ => rfl)))) (pa_cons pe_int pa_nil))) (pv 7) (nomark _)))) (fun _ _ _ _ _ => (pv 22))) (pss_one (ps_if (pt_cmpR op_ne (pe_meth (pv 8) (c_Clay T) (m_Clay_wet_for T) (ok_Clay_wet_for (G := G) T) (hr.mono (show 2 ≤ 19 by decide)) (b_Clay_wet_for T) .nil (passes_call (takes_of rfl rfl rfl rfl) (fun _ _ _ _ h => h)) (pa_cons (pv 7) pa_nil)) (pe_ix (ix_listK (K := K) rfl) (pv 18) pe_int (fun _ _ => rfl)) (nomark _)) (pss_one (ps_ret pe_bl)) pss_nil)))))) (pss_cons (ps_set (i := 10) sc_law.nd rfl (by first | exact Or.inl rfl | exact Or.inr rfl) (pe_lc rfl sc_law.nd (own := [("k", 22)]) (pi_range1 rfl (f_range T) (pa_cons (pe_call (ok_law_roll (G := G) T) (hr.mono (show 1 ≤ 19 by decide)) rfl (g_law_roll T) (D_law_roll T).kp (b_law_roll T) .nil (passes_call (takes_of rfl rfl rfl rfl) (fun _ _ _ _ h => h)) (pa_cons (pv 1) (pa_cons pe_int pa_nil))) pa_nil)) (blkOk_by (by kernel_rfl)) (fun _ _ _ _ _ => (pg_name (i := 22) sc_law.nd rfl (by first | exact Or.inl rfl | exact Or.inr rfl))) (fun _ _ _ _ _ => pts_nil) (fun _ _ _ _ _ => (pe_tup (pa_cons (pe_call (ok_law_roll (G := G) T) (hr.mono (show 1 ≤ 19 by decide)) rfl (g_law_roll T) (D_law_roll T).kp (b_law_roll T) .nil passL (pa_cons (pv 1) (pa_cons pe_int pa_nil))) (pa_cons (pe_call (ok_law_roll (G := G) T) (hr.mono (show 1 ≤ 19 by decide)) rfl (g_law_roll T) (D_law_roll T).kp (b_law_roll T) .nil passL (pa_cons (pv 1) (pa_cons pe_int pa_nil))) pa_nil)))))) (pss_cons (ps_set (i := 11) sc_law.nd rfl (by first | exact Or.inl rfl | exact Or.inr rfl) (pe_and (pe_cmpR (op_neEK (K := K) rfl hr.units0) (pv 10) (pe_lst pa_nil) (nomark _)) (pe_one (pe_cmpR (op_eqEK (K := K) rfl hr.units0) (pe_lc rfl sc_law.nd (own := [("k", 22), ("pounds", 24)]) (pi_listK (K := K) rfl (pv 10)) (blkOk_by (by kernel_rfl)) (fun _ _ _ _ _ => (pg_tupK (K := K) (n := 2) rfl rfl (pgs_cons (pg_name (i := 22) sc_law.nd rfl (by first | exact Or.inl rfl | exact Or.inr rfl)) (pgs_cons (pg_name (i := 24) sc_law.nd rfl (by first | exact Or.inl rfl | exact Or.inr rfl)) pgs_nil)))) (fun _ _ _ _ _ => (pts_one (pt_cmpR op_lt (pv 24) pe_int (nomark _)))) (fun _ _ _ _ _ => pe_int)) (pe_lst pa_nil) (nomark _))))) (pss_cons (ps_set (i := 12) sc_law.nd rfl (by first | exact Or.inl rfl | exact Or.inr rfl) (LM.pe_told (X := XL P w K mg base A outer s H E) ⟨rfl, rfl, rfl, rfl, rfl, rfl, rfl⟩ TO hrT hLs (fun _ _ _ _ I => LM.Cells.of I) rfl (LM.pe_lamV TBL rfl ok0.ls rfl))) (pss_cons (ps_if (PW.pt (pw_or (pt_cmpR op_eq (pe_cmpR (op_eqU (K := K) rfl hr.units0) (pv 12) pe_str (nomark _)) (pv 11) (nomark _)) (pw_or1 (PW.pt (pw_and (pt_val (pv 11)) (pw_and1 (pt_cmpR (op_neDK (K := K) rfl hr.units) (pe_tup (pa_cons (pe_fldK (K := K) rfl (pv 12) rfl) (pa_cons (pe_fldK (K := K) rfl (pv 12) rfl) (pa_cons (pe_fldK (K := K) rfl (pv 12) rfl) (pa_cons (pe_fldK (K := K) rfl (pv 12) rfl) pa_nil))))) (pe_op (op_catTK (K := K) rfl) (pe_tup (pa_cons pe_str pa_nil)) (pe_call (ok_law_mix (G := G) T) (hr.mono (show 1 ≤ 19 by decide)) rfl (g_law_mix T) (D_law_mix T).kp (b_law_mix T) .nil (passes_call (takes_of rfl rfl rfl rfl) (fun _ _ _ _ h => h)) (pa_cons (pe_lc rfl sc_law.nd (own := [("k", 22), ("pounds", 24)]) (pi_listK (K := K) rfl (pv 10)) (blkOk_by (by kernel_rfl)) (fun _ _ _ _ _ => (pg_tupK (K := K) (n := 2) rfl rfl (pgs_cons (pg_name (i := 22) sc_law.nd rfl (by first | exact Or.inl rfl | exact Or.inr rfl)) (pgs_cons (pg_name (i := 24) sc_law.nd rfl (by first | exact Or.inl rfl | exact Or.inr rfl)) pgs_nil)))) (fun _ _ _ _ _ => pts_nil) (fun _ _ _ _ _ => (pe_tup (pa_cons (pe_ix (ix_listK (K := K) rfl) (pv 4) (pv 22) (fun _ _ => rfl)) (pa_cons (pv 24) pa_nil))))) pa_nil))) (nomark _)))))))) (pss_one (ps_ret pe_bl)) pss_nil) (pss_cons (ps_par (i := 13) (j := 14) rfl sc_law.nd rfl rfl (by decide) rfl rfl (pa_cons (pe_call (ok_law_roll (G := G) T) (hr.mono (show 1 ≤ 19 by decide)) rfl (g_law_roll T) (D_law_roll T).kp (b_law_roll T) .nil (passes_call (takes_of rfl rfl rfl rfl) (fun _ _ _ _ h => h)) (pa_cons (pv 1) (pa_cons pe_int pa_nil))) (pa_cons (pe_op op_add pe_int (pe_call (ok_law_roll (G := G) T) (hr.mono (show 1 ≤ 19 by decide)) rfl (g_law_roll T) (D_law_roll T).kp (b_law_roll T) .nil (passes_call (takes_of rfl rfl rfl rfl) (fun _ _ _ _ h => h)) (pa_cons (pv 1) (pa_cons pe_int pa_nil)))) pa_nil)) rfl) (pss_cons (ps_if (pt_cmpR op_ne (pe_call (ok_fits_body (G := G) T) (hr.mono (show 1 ≤ 19 by decide)) rfl (g_fits_body T) (D_fits_body T).kp (b_fits_body T) .nil (passes_call (takes_of rfl rfl rfl rfl) (fun _ _ _ _ h => h)) (pa_cons (pe_ix (ix_listK (K := K) rfl) (pv 5) pe_int (fun _ _ => rfl)) (pa_cons (pe_ix (ix_listK (K := K) rfl) (pv 5) pe_int (fun _ _ => rfl)) (pa_cons (pv 13) pa_nil)))) (pe_and (pe_cmpR op_le (pe_callB call_abs rfl (f_abs T) (by decide +kernel) (pa_cons (pe_op op_sub (pe_ix (ix_tupK (K := K) rfl) (pe_ix (ix_listK (K := K) rfl) (pv 4) pe_int (fun _ _ => rfl)) pe_int (fun _ _ => rfl)) (pe_ix (ix_tupK (K := K) rfl) (pe_ix (ix_listK (K := K) rfl) (pv 4) pe_int (fun _ _ => rfl)) pe_int (fun _ _ => rfl))) pa_nil)) (pv 13) (nomark _)) (pe_one (pe_cmpR op_le (pe_callB call_abs rfl (f_abs T) (by decide +kernel) (pa_cons (pe_op op_sub (pe_ix (ix_tupK (K := K) rfl) (pe_ix (ix_listK (K := K) rfl) (pv 4) pe_int (fun _ _ => rfl)) pe_int (fun _ _ => rfl)) (pe_ix (ix_tupK (K := K) rfl) (pe_ix (ix_listK (K := K) rfl) (pv 4) pe_int (fun _ _ => rfl)) pe_int (fun _ _ => rfl))) pa_nil)) (pv 13) (nomark _)))) (nomark _)) (pss_one (ps_ret pe_bl)) pss_nil) (pss_cons (ps_set (i := 15) sc_law.nd rfl (by first | exact Or.inl rfl | exact Or.inr rfl) (pe_lst pa_nil)) (pss_cons (ps_for (passes_of rfl) rfl (pi_range1 rfl (f_range T) (pa_cons (pe_op op_add (pv 14) pe_int) pa_nil)) (pg_name (i := 16) sc_law.nd rfl (by first | exact Or.inl rfl | exact Or.inr rfl)) (pss_one (ps_for (passes_of rfl) rfl (pi_range1 rfl (f_range T) (pa_cons (pe_op op_add (pv 14) pe_int) pa_nil)) (pg_name (i := 19) sc_law.nd rfl (by first | exact Or.inl rfl | exact Or.inr rfl)) (pss_cons (ps_setLc (i := 20) rfl sc_law.nd rfl rfl (sw_true rfl rfl rfl rfl) (own := [("row", 9), ("pounds", 24)]) (pi_listK (K := K) rfl (pe_lst (pa_cons (pe_tup (pa_cons (pe_ix (ix_listK (K := K) rfl) (pv 4) pe_int (fun _ _ => rfl)) (pa_cons (pv 16) pa_nil))) (pa_cons (pe_tup (pa_cons (pe_ix (ix_listK (K := K) rfl) (pv 4) pe_int (fun _ _ => rfl)) (pa_cons (pv 19) pa_nil))) pa_nil)))) (blkOk_by (by kernel_rfl)) (fun _ _ _ _ _ => (pg_tupK (K := K) (n := 2) rfl rfl (pgs_cons (pg_name (i := 9) sc_law.nd rfl (by first | exact Or.inl rfl | exact Or.inr rfl)) (pgs_cons (pg_name (i := 24) sc_law.nd rfl (by first | exact Or.inl rfl | exact Or.inr rfl)) pgs_nil)))) (fun _ _ _ _ _ => (pts_one (pt_cmpR op_gt (pv 24) pe_int (nomark _)))) (fun _ _ _ _ _ => (pe_tup (pa_cons (pv 9) (pa_cons (pv 24) pa_nil))))) (pss_one (ps_if (pt_cmpR (op_neEK (K := K) rfl hr.units0) (pv 20) (pe_lst pa_nil) (nomark _)) (pss_one (ps_expr (pe_bmK (K := K) rfl PySem.F.plainAttrs_list PySem.F.slot_list_append PySem.F.type_list_append mt_append (pv 15) (pa_cons (pe_tup (pa_cons (pe_callB call_abs rfl (f_abs T) (by decide +kernel) (pa_cons (pe_op op_sub (pe_call (ok_law_lost (G := G) T) (hr.mono (show 1 ≤ 19 by decide)) rfl (g_law_lost T) (D_law_lost T).kp (b_law_lost T) .nil (passes_call (takes_of rfl rfl rfl rfl) (fun _ _ _ _ h => h)) (pa_cons (pe_call (ok_law_mix (G := G) T) (hr.mono (show 1 ≤ 19 by decide)) rfl (g_law_mix T) (D_law_mix T).kp (b_law_mix T) .nil (passes_call (takes_of rfl rfl rfl rfl) (fun _ _ _ _ h => h)) (pa_cons (pv 20) pa_nil)) pa_nil)) (pe_op op_mul (pv 7) pe_int)) pa_nil)) (pa_cons (pv 16) (pa_cons (pv 19) pa_nil)))) pa_nil)))) pss_nil)))))) (pss_one (ps_if (pt_cmpR (op_neDK (K := K) rfl hr.units) (pe_call (ok_best_mix (G := G) T TB hPG) (hr.mono (show 11 ≤ 19 by decide)) rfl (g_best_mix T) (D_best_mix T).kp (b_best_mix T) .nil (passes_call (takes_of rfl rfl rfl rfl) (fun _ _ _ _ h => h)) (pa_cons (pe_ix (ix_listK (K := K) rfl) (pv 5) pe_int (fun _ _ => rfl)) (pa_cons (pe_ix (ix_listK (K := K) rfl) (pv 5) pe_int (fun _ _ => rfl)) (pa_cons (pe_op op_mul (pv 7) pe_int) (pa_cons (pv 14) pa_nil))))) (pe_callB (cr_minT (K := K) rfl rfl hr.units) rfl (f_min T) (by decide +kernel) (pa_cons (pv 15) pa_nil)) (nomark _)) (pss_one (ps_ret pe_bl)) pss_nil))))))))))))))) (pss_cons (ps_set (i := 2) sc_law.nd rfl (by first | exact Or.inl rfl | exact Or.inr rfl) (pe_make (k_Clay T) (ok_Clay_init (G := G) T) (hr.mono (show 1 + 1 ≤ 19 by decide)) rfl (g_Clay T) (b_Clay_init T) .nil (passes_call (takes_of rfl rfl rfl rfl) (fun _ _ _ _ h => h)) (pa_cons pe_str (pa_cons pe_int (pa_cons pe_int (pa_cons pe_int pa_nil)))))) (pss_cons (ps_set (i := 3) sc_law.nd rfl (by first | exact Or.inl rfl | exact Or.inr rfl) (pe_lst (pa_cons (LM.pe_lamV TBL rfl ok1.ls rfl) (pa_cons (LM.pe_lamV TBL rfl ok2.ls rfl) (pa_cons (LM.pe_lamV TBL rfl ok3.ls rfl) (pa_cons (LM.pe_lamV TBL rfl ok4.ls rfl) (pa_cons (LM.pe_lamV TBL rfl ok5.ls rfl) (pa_cons (LM.pe_lamV TBL rfl ok6.ls rfl) (pa_cons (LM.pe_lamV TBL rfl ok7.ls rfl) (pa_cons (LM.pe_lamV TBL rfl ok8.ls rfl) (pa_cons (LM.pe_lamV TBL rfl ok9.ls rfl) (pa_cons (LM.pe_lamV TBL rfl ok10.ls rfl) pa_nil)))))))))))) (pss_one (ps_ret (pe_and (pe_cmpR (op_eqEK (K := K) rfl hr.units0) (LM.pe_lcK rfl sc_law.nd (own := [("f", 23)]) (pi_listK (K := K) rfl (pv 3)) (blkOk_by (by kernel_rfl)) (fun _ _ _ _ _ => (pg_name (i := 23) sc_law.nd rfl (by first | exact Or.inl rfl | exact Or.inr rfl))) (fun _ _ _ _ _ _ B => (pts_one (pt_cmpR op_ne (LM.pe_told (X := XL P w K mg base A outer s H E) ⟨rfl, rfl, rfl, rfl, rfl, rfl, rfl⟩ TO hrT hLs (fun _ _ _ _ I => B.cells I) rfl (pv 23)) pe_str (nomark _)))) (fun _ _ _ _ _ _ B => pe_int)) (pe_lst pa_nil) (nomark _)) (pe_and (pe_cmpR (op_eqDK (K := K) rfl hr.units) (pe_lst (pa_cons (pe_meth (pv 2) (c_Clay T) (m_Clay_dry T) (ok_Clay_dry (G := G) T) (hr.mono (show 1 ≤ 19 by decide)) (b_Clay_dry T) .nil (passes_call (takes_of rfl rfl rfl rfl) (fun _ _ _ _ h => h)) (pa_cons pe_int pa_nil)) (pa_cons (pe_meth (pv 2) (c_Clay T) (m_Clay_fired T) (ok_Clay_fired (G := G) T) (hr.mono (show 1 ≤ 19 by decide)) (b_Clay_fired T) .nil (passes_call (takes_of rfl rfl rfl rfl) (fun _ _ _ _ h => h)) (pa_cons pe_int pa_nil)) (pa_cons (pe_meth (pv 2) (c_Clay T) (m_Clay_wet_for T) (ok_Clay_wet_for (G := G) T) (hr.mono (show 2 ≤ 19 by decide)) (b_Clay_wet_for T) .nil (passes_call (takes_of rfl rfl rfl rfl) (fun _ _ _ _ h => h)) (pa_cons pe_int pa_nil)) (pa_cons (pe_meth0 (pv 2) (c_Clay T) (m_Clay_lost T) (ok_Clay_lost (G := G) T) (hr.mono (show 1 ≤ 19 by decide)) (b_Clay_lost T) .nil (passes_call (takes_of rfl rfl rfl rfl) (fun _ _ _ _ h => h))) pa_nil))))) (pe_lst (pa_cons pe_int (pa_cons pe_int (pa_cons pe_int (pa_cons pe_int pa_nil))))) (nomark _)) (pe_one (pe_cmpR op_eq (pe_meth (pv 2) (c_Clay T) (m_Clay_wet_for T) (ok_Clay_wet_for (G := G) T) (hr.mono (show 2 ≤ 19 by decide)) (b_Clay_wet_for T) .nil (passes_call (takes_of rfl rfl rfl rfl) (fun _ _ _ _ h => h)) (pa_cons pe_int pa_nil)) pe_int (nomark _)))))))))), ?_⟩
  obtain ⟨a, ns, rfl, hs, h1, h2, hq⟩ := hsp
  refine law_in (q := (XL P w K mg base A outer s H E).env.qual ++ "<lambda>") hne hs h1 h2 fun F hFG hFO hF0 => ?_
  rw [← hG] at hFG
  subst hFG
  obtain ⟨c, hc⟩ : ∃ c, rRounds ns = [rDice c] := by
    unfold rRounds
    cases ns with
    | nil => exact ⟨0, rfl⟩
    | cons n ns => exact ⟨n, rfl⟩
  refine s_seq (s_one (P := Pl) (x := rDice c) hFO hF0 (e_is (e_callB (A := A_rounds K) ns (a_cons (e_varTab rfl) (a_cons e_int a_nil)) trivial rfl) hc) fun v gA N hN => ?_)
  obtain ⟨d0, hd0⟩ := rDice_dl c
  rw [hd0]
  generalize hO : Sl.own (oTab Pl ((XL P w K mg base A outer s H E).env.qual ++ "<lambda>") v) = o
  show KT F gA (CtxRd o d0) _
  refine s_seq (s_set (R := rList (rTup rInt)) (e_lcR (Dt := Dice) (Γs := CtxRd o) (d0 := d0) (st := stJ) (v := vJ) (Γx := fun d x => (CtxRd o d).set 21 (.val rInt x)) (Γy := fun d x => (CtxRd o (stJ d x)).set 21 (.val rInt x)) (fun _ => True)
    (src_rng1 (a_cons e_int a_nil) (by decide) (by decide)) (by decide) trivial (fun _ _ _ _ => trivial) (fun _ => noAll_of rfl) (fun d x _ _ => tg_name (plain1 rfl)) (by decide) (fun d x => plAll_of rfl)
    (fun d x _ _ => e_tupL (a_cons (e_lcR (Dt := Dice) (Γs := fun d => (CtxRd o d).set 21 (.val rInt x)) (d0 := d) (st := r501D) (v := r501V) (Γx := fun d y => ((CtxRd o d).set 21 (.val rInt x)).set 22 (.val rInt y)) (Γy := fun d y => ((CtxRd o (r501D d y)).set 21 (.val rInt x)).set 22 (.val rInt y)) (fun _ => True)
      (src_rng1 (a_cons e_int a_nil) (by decide) (by decide)) (by decide) trivial (fun _ _ _ _ => trivial) (fun _ => noAll_of rfl) (fun d x _ _ => tg_name (plain1 rfl)) (by decide) (fun d x => plAll_of rfl)
      (fun d y _ _ => e_roll (d := d) (m := 501) (by decide) (a_cons e_int a_nil) rfl rfl rfl) (fun d y => ⟨plAll_of rfl, rfl⟩)) a_nil))
    (fun d x => ⟨plAll_of rfl, rfl⟩)) (plain1 rfl) ?_)
  have hrl : (seqV stJ vJ d0 (upFrom 0 2)).length = 2 := by rw [seqV_len, upFrom_length]
  have hrg : ∀ r ∈ seqV stJ vJ d0 (upFrom 0 2), goodR r := seqV_mem fun d x => vJ_good d x
  show KT F gA ((CtxRd o ((upFrom 0 2).foldl stJ d0)).set 4 (.val (rList rRow) (seqV stJ vJ d0 (upFrom 0 2)))) _
  generalize seqV stJ vJ d0 (upFrom 0 2) = rs at hrl hrg ⊢
  generalize (upFrom 0 2).foldl stJ d0 = d1
  obtain ⟨ra, rb, rfl⟩ : ∃ ra rb, rs = [ra, rb] := match rs, hrl with | [ra, rb], _ => ⟨ra, rb, rfl⟩
  have ga : goodR ra := hrg ra (by simp)
  have gb : goodR rb := hrg rb (by simp)
  show KT F gA [o, .own (oLst rInt (dl d1)), .no, .no, .val (rList rRow) [ra, rb], .no, .no, .no, .no, .no, .no, .no, .no, .no, .no, .no, .no, .no, .no, .no, .no, .no, .no, .no, .no] _
  refine s_seq (s_set (R := rList (rClay K)) (a := [clayOf n0 ra, clayOf n1 rb]) (e_is (e_lcT0  (src_enum (a_cons (e_var rfl) a_nil)) ?_ (noAll_of rfl) (fun x3 hx3 => (tg_t2 (tg_name (plain1 rfl)) (tg_name (plain1 rfl)))) (by decide) (fun x3 => ⟨plAll_of rfl, rfl⟩) (fun x3 hx3 => (e_makeB (_, _, _, _) (a_cons (e_cat e_str (e_strI (a_cons (e_var rfl) a_nil) ?_) ?_) (a_cons (e_ixTd (d := 0) (e_var rfl) e_int ?_) (a_cons (e_ixTd (d := 0) (e_var rfl) e_int ?_) (a_cons (e_ixTd (d := 0) (e_var rfl) e_int ?_) a_nil)))) ?_ ?_))) ?_) (plain1 rfl) ?_)
  · exact (by decide : (2 : Nat) ≤ 100000)
  · rcases en2 hx3 with rfl | rfl
    · exact (by decide : (0 : Int).natAbs.log2 < 1920)
    · exact (by decide : (1 : Int).natAbs.log2 < 1920)
  · rcases en2 hx3 with rfl | rfl
    · exact small_len (by decide : ("c" : Str).length + (Str.ofString (toString (0 : Int))).length ≤ 100000)
    · exact small_len (by decide : ("c" : Str).length + (Str.ofString (toString (1 : Int))).length ≤ 100000)
  · rcases en2 hx3 with rfl | rfl
    · exact ⟨by decide, by show (0 : Int) < ra.length; rw [ga.1]; decide⟩
    · exact ⟨by decide, by show (0 : Int) < rb.length; rw [gb.1]; decide⟩
  · rcases en2 hx3 with rfl | rfl
    · exact ⟨by decide, by show (1 : Int) < ra.length; rw [ga.1]; decide⟩
    · exact ⟨by decide, by show (1 : Int) < rb.length; rw [gb.1]; decide⟩
  · rcases en2 hx3 with rfl | rfl
    · exact ⟨by decide, by show (2 : Int) < ra.length; rw [ga.1]; decide⟩
    · exact ⟨by decide, by show (2 : Int) < rb.length; rw [gb.1]; decide⟩
  · trivial
  · rcases en2 hx3 with rfl | rfl
    · exact bad_no ga
    · exact bad_no gb
  · rfl
  show KT F gA [o, .own (oLst rInt (dl d1)), .no, .no, .val (rList rRow) [ra, rb], .val (rList (rClay K)) [clayOf n0 ra, clayOf n1 rb], .no, .no, .no, .no, .no, .no, .no, .no, .no, .no, .no, .no, .no, .no, .no, .no, .no, .no, .no] _
  refine s_seq (s_asg (R := rT2 rInt rInt) (a := (rollV d1 2000, rollV (rollD d1 2000) 60)) (e_t2 (a_cons (e_roll (d := d1) (m := 2000) (Γ' := [o, .own (oLst rInt (dl (rollD d1 2000))), .no, .no, .val (rList rRow) [ra, rb], .val (rList (rClay K)) [clayOf n0 ra, clayOf n1 rb], .no, .no, .no, .no, .no, .no, .no, .no, .no, .no, .no, .no, .no, .no, .no, .no, .no, .no, .no]) (by decide) (a_cons e_int a_nil) rfl rfl rfl) (a_cons (e_roll (d := rollD d1 2000) (m := 60) (Γ' := [o, .own (oLst rInt (dl (rollD (rollD d1 2000) 60))), .no, .no, .val (rList rRow) [ra, rb], .val (rList (rClay K)) [clayOf n0 ra, clayOf n1 rb], .no, .no, .no, .no, .no, .no, .no, .no, .no, .no, .no, .no, .no, .no, .no, .no, .no, .no, .no]) (by decide) (a_cons e_int a_nil) rfl rfl rfl) a_nil))) (tg_t2 (tg_name (plain1 rfl)) (tg_name (plain1 rfl))) ?_)
  show KT F gA [o, .own (oLst rInt (dl (rollD (rollD d1 2000) 60))), .no, .no, .val (rList rRow) [ra, rb], .val (rList (rClay K)) [clayOf n0 ra, clayOf n1 rb], .val rInt (rollV d1 2000), .val rInt (rollV (rollD d1 2000) 60), .no, .no, .no, .no, .no, .no, .no, .no, .no, .no, .no, .no, .no, .no, .no, .no, .no] _
  have hlen := rollV_in (d := d1) (m := 2000) (by decide)
  have hwish := rollV_in (d := rollD d1 2000) (m := 60) (by decide)
  generalize rollV d1 2000 = len at hlen ⊢
  generalize rollV (rollD d1 2000) 60 = wish at hwish ⊢
  generalize rollD (rollD d1 2000) 60 = d2
  refine s_seq (s_forF (Sx := Unit) (s0 := ()) (Γs := fun _ => [o, .own (oLst rInt (dl (d2))), .no, .no, .val (rList rRow) [ra, rb], .val (rList (rClay K)) [clayOf n0 ra, clayOf n1 rb], .val rInt len, .val rInt wish, .no, .no, .no, .no, .no, .no, .no, .no, .no, .no, .no, .no, .no, .no, .no, .no, .no]) (fun _ _ => ()) (fun _ => True) trivial (fun _ _ _ _ => trivial) (src_zip (a_cons (e_var rfl) (a_cons (e_var rfl) a_nil))) (fun _ x _ hx => ⟨_, _, (tg_t2 (tg_name (plain1 rfl)) (tg_name (plain1 rfl))), fun g' N hN2 hB => ?_⟩) (fun _ => ?_))
  · obtain ⟨n, r, hr, rfl⟩ : ∃ n r, goodR r ∧ x = (clayOf n r, r) := by
      have hx : x ∈ [(clayOf n0 ra, ra), (clayOf n1 rb, rb)] := hx
      simp only [List.mem_cons, List.not_mem_nil, or_false] at hx
      rcases hx with rfl | rfl
      · exact ⟨n0, ra, ga, rfl⟩
      · exact ⟨n1, rb, gb, rfl⟩
    have hl := hr.1
    have h0 := goodR_at hr (i := 0) (by decide)
    have h1 := goodR_at hr (i := 1) (by decide)
    show KT F g' [o, .own (oLst rInt (dl (d2))), .no, .no, .val (rList rRow) [ra, rb], .val (rList (rClay K)) [clayOf n0 ra, clayOf n1 rb], .val rInt len, .val rInt wish, .val (rClay K) (clayOf n r), .val rRow r, .no, .no, .no, .no, .no, .no, .no, .no, .no, .no, .no, .no, .no, .no, .no] _
    refine s_seq (s_set (R := rInt) (a := rRound (len * (1000 - r.getD 0 0) * (1000 - r.getD 1 0)) 1000000) (e_callB (_, _) (a_cons (e_mul (e_mul (e_var rfl) (e_sub e_int (e_ixTd (d := 0) (e_var rfl) e_int ?_)) ?_) (e_sub e_int (e_ixTd (d := 0) (e_var rfl) e_int ?_)) ?_) (a_cons e_int a_nil)) ?_ ?_) (plain1 rfl) ?_)
    · exact ⟨by decide, by show (0 : Int) < r.length; rw [hl]; decide⟩
    · right; exact ⟨by show -(2 ^ 64) < 1000 - r.getD 0 0; omega, by show 1000 - r.getD 0 0 < 2 ^ 64; omega⟩
    · exact ⟨by decide, by show (1 : Int) < r.length; rw [hl]; decide⟩
    · right; exact ⟨by show -(2 ^ 64) < 1000 - r.getD 1 0; omega, by show 1000 - r.getD 1 0 < 2 ^ 64; omega⟩
    · exact ⟨show (0 : Int) < 1000000 by decide, show (1000000 : Int) < 1073741824 by decide⟩
    · rfl
    show KT F g' [o, .own (oLst rInt (dl (d2))), .no, .no, .val (rList rRow) [ra, rb], .val (rList (rClay K)) [clayOf n0 ra, clayOf n1 rb], .val rInt len, .val rInt wish, .val (rClay K) (clayOf n r), .val rRow r, .no, .no, .no, .no, .no, .no, .no, .val rInt (rRound (len * (1000 - r.getD 0 0) * (1000 - r.getD 1 0)) 1000000), .no, .no, .no, .no, .no, .no, .no] _
    refine s_seq (s_if (t_or (t_of (e_neI (e_methB (_, _) (o_Clay_dry) (e_var rfl) (a_cons (e_var rfl) a_nil) rfl ?_ ?_) (e_callB (_, _) (a_cons (e_mul (e_var rfl) (e_sub e_int (e_ixTd (d := 0) (e_var rfl) e_int ?_)) ?_) (a_cons e_int a_nil)) ?_ ?_))) (fun _ => (t_or (t_of (e_neI (e_methB (_, _) (o_Clay_fired) (e_var rfl) (a_cons (e_var rfl) a_nil) rfl ?_ ?_) (e_var rfl))) (fun _ => (t_of (e_neI (e_methB _ (o_Clay_lost) (e_var rfl) a_nil rfl ?_ ?_) (e_callB _ (a_cons (e_var rfl) a_nil) ?_ ?_))))))) (fun hb => ?_) (fun _ => s_next ?_))
    all_goals try (first | exact clayOf_good hr | exact hr | exact decide_eq_false (show ¬ len < 0 by omega) | exact decide_eq_false (show ¬ wish < 0 by omega) | exact ⟨by decide, by show (0 : Int) < r.length; rw [hl]; decide⟩ | exact ⟨by decide, by show (1 : Int) < r.length; rw [hl]; decide⟩ | (right; exact ⟨by show -(2 ^ 64) < 1000 - r.getD 0 0; omega, by show 1000 - r.getD 0 0 < 2 ^ 64; omega⟩) | (right; exact ⟨by show -(2 ^ 64) < 1000 - r.getD 1 0; omega, by show 1000 - r.getD 1 0 < 2 ^ 64; omega⟩) | exact ⟨show (0 : Int) < 1000000 by decide, show (1000000 : Int) < 1073741824 by decide⟩ | exact ⟨show (0 : Int) < 1000 by decide, show (1000 : Int) < 1073741824 by decide⟩ | exact ⟨by decide, by decide⟩ | exact (by decide : (500 : Nat) ≤ 100000) | exact (by decide : -(2 : Int) ^ 62 ≤ 500) | exact (by decide : (500 : Int) < 2 ^ 62) | exact List.map_id' _ | rfl)
    · exfalso
      have hb : ((!decide (mDry (clayOf n r) len = rRound (len * (1000 - r.getD 0 0)) 1000)) || ((!decide (mFired (clayOf n r) len = rRound (len * (1000 - r.getD 0 0) * (1000 - r.getD 1 0)) 1000000)) || (!decide (mLost (clayOf n r) = rLost r)))) = true := hb
      rw [dry_eq, fired_eq, lost_eq] at hb
      simp at hb
    try dsimp only
    refine s_seq (s_set (R := rList rInt) (a := ((upFrom 0 500).filter (fun k => decide (wish ≤ rRound (k * (1000 - r.getD 0 0) * (1000 - r.getD 1 0)) 1000000)))) (e_is (e_lcT  (src_rng1 (a_cons e_int a_nil) ?_ ?_) ?_ (noAll_of rfl) (fun x4 hx4 => (tg_name (plain1 rfl))) (by decide) (fun x4 => ⟨plAll_of rfl, rfl⟩) (fun x4 hx4 => (t_of (e_ge (e_callB (_, _) (a_cons (e_mul (e_mul (e_var rfl) (e_sub e_int (e_ixTd (d := 0) (e_var rfl) e_int ?_)) ?_) (e_sub e_int (e_ixTd (d := 0) (e_var rfl) e_int ?_)) ?_) (a_cons e_int a_nil)) ?_ ?_) (e_var rfl)))) (fun x4 hx4 hx4t => (e_var rfl))) ?_) (plain1 rfl) ?_)
    all_goals try (first | exact clayOf_good hr | exact hr | exact decide_eq_false (show ¬ len < 0 by omega) | exact decide_eq_false (show ¬ wish < 0 by omega) | exact ⟨by decide, by show (0 : Int) < r.length; rw [hl]; decide⟩ | exact ⟨by decide, by show (1 : Int) < r.length; rw [hl]; decide⟩ | (right; exact ⟨by show -(2 ^ 64) < 1000 - r.getD 0 0; omega, by show 1000 - r.getD 0 0 < 2 ^ 64; omega⟩) | (right; exact ⟨by show -(2 ^ 64) < 1000 - r.getD 1 0; omega, by show 1000 - r.getD 1 0 < 2 ^ 64; omega⟩) | exact ⟨show (0 : Int) < 1000000 by decide, show (1000000 : Int) < 1073741824 by decide⟩ | exact ⟨show (0 : Int) < 1000 by decide, show (1000 : Int) < 1073741824 by decide⟩ | exact ⟨by decide, by decide⟩ | exact (by decide : (500 : Nat) ≤ 100000) | exact (by decide : -(2 : Int) ^ 62 ≤ 500) | exact (by decide : (500 : Int) < 2 ^ 62) | exact List.map_id' _ | rfl)
    obtain ⟨tl, ht⟩ := wet_eq (n := n) hr hwish.1 hwish.2
    rw [ht]
    show KT F g' [o, .own (oLst rInt (dl (d2))), .no, .no, .val (rList rRow) [ra, rb], .val (rList (rClay K)) [clayOf n0 ra, clayOf n1 rb], .val rInt len, .val rInt wish, .val (rClay K) (clayOf n r), .val rRow r, .no, .no, .no, .no, .no, .no, .no, .val rInt (rRound (len * (1000 - r.getD 0 0) * (1000 - r.getD 1 0)) 1000000), .val (rList rInt) (mWet (clayOf n r) wish :: tl), .no, .no, .no, .no, .no, .no] _
    refine s_if (t_of (e_neI (e_methB (_, _) (o_Clay_wet_for) (e_var rfl) (a_cons (e_var rfl) a_nil) rfl ?_ ?_) (e_ixLd (d := 0) (e_var rfl) e_int ?_))) (fun hb => ?_) (fun _ => s_next ?_)
    all_goals try (first | exact clayOf_good hr | exact hr | exact decide_eq_false (show ¬ len < 0 by omega) | exact decide_eq_false (show ¬ wish < 0 by omega) | exact ⟨by decide, by show (0 : Int) < r.length; rw [hl]; decide⟩ | exact ⟨by decide, by show (1 : Int) < r.length; rw [hl]; decide⟩ | (right; exact ⟨by show -(2 ^ 64) < 1000 - r.getD 0 0; omega, by show 1000 - r.getD 0 0 < 2 ^ 64; omega⟩) | (right; exact ⟨by show -(2 ^ 64) < 1000 - r.getD 1 0; omega, by show 1000 - r.getD 1 0 < 2 ^ 64; omega⟩) | exact ⟨show (0 : Int) < 1000000 by decide, show (1000000 : Int) < 1073741824 by decide⟩ | exact ⟨show (0 : Int) < 1000 by decide, show (1000 : Int) < 1073741824 by decide⟩ | exact ⟨by decide, by decide⟩ | exact (by decide : (500 : Nat) ≤ 100000) | exact (by decide : -(2 : Int) ^ 62 ≤ 500) | exact (by decide : (500 : Int) < 2 ^ 62) | exact List.map_id' _ | rfl)
    · exact ⟨by decide, by show (0 : Int) < ((mWet (clayOf n r) wish :: tl).length : Int); rw [List.length_cons]; omega⟩
    · exfalso
      have hb : (!decide (mWet (clayOf n r) wish = (mWet (clayOf n r) wish :: tl).getD 0 0)) = true := hb
      simp at hb
    · exact s_le (by repeat' (first | exact Le.nil | apply Le.same | refine Le.no trivial ?_)) hN2
  have hr5 := rollV_in (d := d2) (m := 5) (by decide)
  refine s_seq (s_set (R := rList (rT2 rInt rInt)) (e_lcR (Dt := Dice) (Γs := fun d => [o, .own (oLst rInt (dl (d))), .no, .no, .val (rList rRow) [ra, rb], .val (rList (rClay K)) [clayOf n0 ra, clayOf n1 rb], .val rInt len, .val rInt wish, .no, .no, .no, .no, .no, .no, .no, .no, .no, .no, .no, .no, .no, .no, .no, .no, .no]) (d0 := rollD d2 5) (st := rPD) (v := rPV) (Γx := fun d x => [o, .own (oLst rInt (dl (d))), .no, .no, .val (rList rRow) [ra, rb], .val (rList (rClay K)) [clayOf n0 ra, clayOf n1 rb], .val rInt len, .val rInt wish, .no, .no, .no, .no, .no, .no, .no, .no, .no, .no, .no, .no, .no, .no, .no, .no, .no].set 22 (.val rInt x)) (Γy := fun d x => [o, .own (oLst rInt (dl (rPD d x))), .no, .no, .val (rList rRow) [ra, rb], .val (rList (rClay K)) [clayOf n0 ra, clayOf n1 rb], .val rInt len, .val rInt wish, .no, .no, .no, .no, .no, .no, .no, .no, .no, .no, .no, .no, .no, .no, .no, .no, .no].set 22 (.val rInt x)) (fun _ => True)
    (src_rng1 (a_cons (e_roll (d := d2) (m := 5) (Γ' := [o, .own (oLst rInt (dl (rollD d2 5))), .no, .no, .val (rList rRow) [ra, rb], .val (rList (rClay K)) [clayOf n0 ra, clayOf n1 rb], .val rInt len, .val rInt wish, .no, .no, .no, .no, .no, .no, .no, .no, .no, .no, .no, .no, .no, .no, .no, .no, .no]) (by decide) (a_cons e_int a_nil) rfl rfl rfl) a_nil) (by omega) (by omega)) (by rw [upFrom_length]; omega) trivial (fun _ _ _ _ => trivial) (fun _ => noAll_of rfl) (fun d x _ _ => tg_name (plain1 rfl)) (by decide) (fun d x => plAll_of rfl)
    (fun d x _ _ => e_t2 (a_cons (e_roll (d := d) (m := 2) (Γ' := [o, .own (oLst rInt (dl (rollD d 2))), .no, .no, .val (rList rRow) [ra, rb], .val (rList (rClay K)) [clayOf n0 ra, clayOf n1 rb], .val rInt len, .val rInt wish, .no, .no, .no, .no, .no, .no, .no, .no, .no, .no, .no, .no, .no, .no, .no, .no, .no].set 22 (.val rInt x)) (by decide) (a_cons e_int a_nil) rfl rfl rfl) (a_cons (e_roll (d := rollD d 2) (m := 9) (Γ' := [o, .own (oLst rInt (dl (rPD d x))), .no, .no, .val (rList rRow) [ra, rb], .val (rList (rClay K)) [clayOf n0 ra, clayOf n1 rb], .val rInt len, .val rInt wish, .no, .no, .no, .no, .no, .no, .no, .no, .no, .no, .no, .no, .no, .no, .no, .no, .no].set 22 (.val rInt x)) (by decide) (a_cons e_int a_nil) rfl rfl rfl) a_nil)))
    (fun d x => ⟨plAll_of rfl, rfl⟩)) (plain1 rfl) ?_)
  obtain ⟨ps, hps⟩ : ∃ ps, ps = seqV rPD rPV (rollD d2 5) (upFrom 0 (rollV d2 5).toNat) := ⟨_, rfl⟩
  have hgs : goodS ps := by
    rw [hps]
    exact parts_good hr5.2
  obtain ⟨d3, hd3⟩ : ∃ d3, d3 = (upFrom 0 (rollV d2 5).toNat).foldl rPD (rollD d2 5) := ⟨_, rfl⟩
  rw [← hps, ← hd3]
  clear hps hd3
  show KT F gA [o, .own (oLst rInt (dl (d3))), .no, .no, .val (rList rRow) [ra, rb], .val (rList (rClay K)) [clayOf n0 ra, clayOf n1 rb], .val rInt len, .val rInt wish, .no, .no, .val (rList (rT2 rInt rInt)) ps, .no, .no, .no, .no, .no, .no, .no, .no, .no, .no, .no, .no, .no, .no] _
  refine s_seq (s_set (R := rBool) (e_and (e_neE (e_var rfl)) (fun _ => (e_eqE (e_lcT  (src_list (e_var rfl)) ?_ (noAll_of rfl) (fun x6 hx6 => (tg_t2 (tg_name (plain1 rfl)) (tg_name (plain1 rfl)))) (by decide) (fun x6 => ⟨plAll_of rfl, rfl⟩) (fun x6 hx6 => (t_of (e_lt (e_var rfl) e_int))) (fun x6 hx6 hx6t => e_int))))) (plain1 rfl) ?_)
  · have := hgs.1; omega
  rw [good_eq (K := K) (cl := [clayOf n0 ra, clayOf n1 rb])]
  obtain ⟨bd, hbd⟩ : ∃ bd, bd = (A_mixed K).bad ("m", pickC [clayOf n0 ra, clayOf n1 rb] ps) := ⟨_, rfl⟩
  rw [← hbd]
  refine s_le (Le.refl _) ?_
  dsimp only
  show KT F gA [o, .own (oLst rInt (dl (d3))), .no, .no, .val (rList rRow) [ra, rb], .val (rList (rClay K)) [clayOf n0 ra, clayOf n1 rb], .val rInt len, .val rInt wish, .no, .no, .val (rList (rT2 rInt rInt)) ps, .val rBool (!bd), .no, .no, .no, .no, .no, .no, .no, .no, .no, .no, .no, .no, .no] _
  refine s_seq (s_set (Γ1 := [o, .own (oLst rInt (dl (d3))), .no, .no, .val (rList rRow) [ra, rb], .val (rList (rClay K)) [clayOf n0 ra, clayOf n1 rb], .val rInt len, .val rInt wish, .no, .no, .val (rList (rT2 rInt rInt)) ps, .val rBool (!bd), .no, .no, .no, .no, .no, .no, .no, .no, .no, .no, .no, .no, .no]) (R := rSum (rClay K) rStr) (a := wasV K bd (pickC [clayOf n0 ra, clayOf n1 rb] ps)) ?_ (plain1 rfl) ?_)
  · have hcg : ∀ c ∈ [clayOf n0 ra, clayOf n1 rb], goodC c := fun c hc => by
      simp only [List.mem_cons, List.not_mem_nil, or_false] at hc
      rcases hc with rfl | rfl
      · exact clayOf_good ga
      · exact clayOf_good gb
    have tyw := ty0 [clayOf n0 ra, clayOf n1 rb] ps o (.own (oLst rInt (dl d3))) .no .no (.val (rList rRow) [ra, rb]) (.val rInt len) (.val rInt wish) .no .no (.val rBool (!bd)) .no .no .no .no .no .no .no .no .no rfl hcg hgs
    have hn0 : Ls[0]? = some (lamD (eltAt (valOf (stAt (forBody (stAt d_law.body 0)) 6)) 0) t0) := by rw [hLd]; rfl
    exact LM.e_toldK (i := 0) (c := aErr K) (v := v) rfl hn0 (show some o = _ by rw [← hO]) (fun z W => tyw.1 (by rw [← hbd, z]) W) (fun z W => tyw.2 (by rw [← hbd, z]) W) (x_ClayError_ClayError T)
  show KT F gA [o, .own (oLst rInt (dl (d3))), .no, .no, .val (rList rRow) [ra, rb], .val (rList (rClay K)) [clayOf n0 ra, clayOf n1 rb], .val rInt len, .val rInt wish, .no, .no, .val (rList (rT2 rInt rInt)) ps, .val rBool (!bd), .val (rSum (rClay K) rStr) (wasV K bd (pickC [clayOf n0 ra, clayOf n1 rb] ps)), .no, .no, .no, .no, .no, .no, .no, .no, .no, .no, .no, .no] _
  have hbd' : (!bd) = true → ps ≠ [] ∧ ∀ x ∈ ps, 1 ≤ x.2 := fun z => not_bad (K := K) (cl := [clayOf n0 ra, clayOf n1 rb]) (by rw [← hbd]; simpa using z)
  refine s_seq (s_if (t_or (t_of (e_eqB (e_eqU clay_ins (mro_Clay T) (eq_Clay T) (e_var rfl) e_str) (e_var rfl))) (fun _ => (t_and (t_B (e_var rfl)) (fun _ => (t_of (e_neD (datT4 datStr datInt datInt datInt) (e_t4 (a_cons (e_fld (c_Clay T) (n_Clay_name T) h_Clay_name (e_inl (y := (A_mixed K).r ("m", pickC [clayOf n0 ra, clayOf n1 rb] ps)) (e_var rfl) ?_)) (a_cons (e_fld (c_Clay T) (n_Clay_dries T) h_Clay_dries (e_inl (y := (A_mixed K).r ("m", pickC [clayOf n0 ra, clayOf n1 rb] ps)) (e_var rfl) ?_)) (a_cons (e_fld (c_Clay T) (n_Clay_fires T) h_Clay_fires (e_inl (y := (A_mixed K).r ("m", pickC [clayOf n0 ra, clayOf n1 rb] ps)) (e_var rfl) ?_)) (a_cons (e_fld (c_Clay T) (n_Clay_takes T) h_Clay_takes (e_inl (y := (A_mixed K).r ("m", pickC [clayOf n0 ra, clayOf n1 rb] ps)) (e_var rfl) ?_)) a_nil))))) (e_cat1 (a_cons e_str a_nil) (e_callB _ (a_cons (e_lcT0  (src_list (e_var rfl)) ?_ (noAll_of rfl) (fun x8 hx8 => (tg_t2 (tg_name (plain1 rfl)) (tg_name (plain1 rfl)))) (by decide) (fun x8 => ⟨plAll_of rfl, rfl⟩) (fun x8 hx8 => (e_t2 (a_cons (e_ixLd (d := dR) (e_var rfl) (e_var rfl) ?_) (a_cons (e_var rfl) a_nil))))) a_nil) ?_ ?_) ?_) ?_ ?_)))))) (fun hb => ?_) (fun _ => s_next ?_))
  · exact was_inl (by assumption)
  · exact was_inl (by assumption)
  · exact was_inl (by assumption)
  · exact was_inl (by assumption)
  · have := hgs.1; omega
  · have := hgs.2 _ hx8
    exact ⟨this.1, this.2.1⟩
  · rename_i hgd
    have := hbd' hgd
    exact ⟨pickR_good ga gb hgs, pickR_sum this.1 this.2⟩
  · rfl
  · exact rMix_len _
  · exact ⟨show PyData.canLay0 (.str "m") = true by decide +kernel, trivial, trivial, trivial⟩
  · exact ⟨show PyData.canLay0 (.str "m") = true by decide +kernel, trivial, trivial, trivial⟩
  · exfalso
    have hb : (decide (isTxt "ClayError" (wasV K bd (pickC [clayOf n0 ra, clayOf n1 rb] ps)) = !bd) || (!bd && !decide ((((A_mixed K).r ("m", pickC [clayOf n0 ra, clayOf n1 rb] ps)).name, ((A_mixed K).r ("m", pickC [clayOf n0 ra, clayOf n1 rb] ps)).dries, ((A_mixed K).r ("m", pickC [clayOf n0 ra, clayOf n1 rb] ps)).fires, ((A_mixed K).r ("m", pickC [clayOf n0 ra, clayOf n1 rb] ps)).takes)
    = (("m" : Str), (rMix (pickR [ra, rb] ps)).getD 0 0, (rMix (pickR [ra, rb] ps)).getD 1 0, (rMix (pickR [ra, rb] ps)).getD 2 0)))) = true := hb
    rw [isTxt_was, was_eq hgs] at hb
    cases bd <;> simp at hb
  refine s_le (Le.refl _) ?_
  dsimp only
  refine s_seq (s_par (R := rInt) (S := rInt) (a := rollV d3 300) (b := 1 + rollV (rollD d3 300) 6) (Γ1 := [o, .own (oLst rInt (dl (rollD (rollD d3 300) 6))), .no, .no, .val (rList rRow) [ra, rb], .val (rList (rClay K)) [clayOf n0 ra, clayOf n1 rb], .val rInt len, .val rInt wish, .no, .no, .val (rList (rT2 rInt rInt)) ps, .val rBool (!bd), .val (rSum (rClay K) rStr) (wasV K bd (pickC [clayOf n0 ra, clayOf n1 rb] ps)), .no, .no, .no, .no, .no, .no, .no, .no, .no, .no, .no, .no]) (a_cons (e_roll (d := d3) (m := 300) (Γ' := [o, .own (oLst rInt (dl (rollD d3 300))), .no, .no, .val (rList rRow) [ra, rb], .val (rList (rClay K)) [clayOf n0 ra, clayOf n1 rb], .val rInt len, .val rInt wish, .no, .no, .val (rList (rT2 rInt rInt)) ps, .val rBool (!bd), .val (rSum (rClay K) rStr) (wasV K bd (pickC [clayOf n0 ra, clayOf n1 rb] ps)), .no, .no, .no, .no, .no, .no, .no, .no, .no, .no, .no, .no]) (by decide) (a_cons e_int a_nil) rfl rfl rfl) (a_cons (e_add e_int (e_roll (d := rollD d3 300) (m := 6) (Γ' := [o, .own (oLst rInt (dl (rollD (rollD d3 300) 6))), .no, .no, .val (rList rRow) [ra, rb], .val (rList (rClay K)) [clayOf n0 ra, clayOf n1 rb], .val rInt len, .val rInt wish, .no, .no, .val (rList (rT2 rInt rInt)) ps, .val rBool (!bd), .val (rSum (rClay K) rStr) (wasV K bd (pickC [clayOf n0 ra, clayOf n1 rb] ps)), .no, .no, .no, .no, .no, .no, .no, .no, .no, .no, .no, .no]) (by decide) (a_cons e_int a_nil) rfl rfl rfl)) a_nil)) (plain1 rfl) (plain1 rfl) ?_)
  have hfar := rollV_in (d := d3) (m := 300) (by decide)
  have hmost := rollV_in (d := rollD d3 300) (m := 6) (by decide)
  obtain ⟨far, hfar'⟩ : ∃ far, far = rollV d3 300 := ⟨_, rfl⟩
  obtain ⟨most, hmost'⟩ : ∃ most, most = 1 + rollV (rollD d3 300) 6 := ⟨_, rfl⟩
  obtain ⟨d4, hd4⟩ : ∃ d4, d4 = rollD (rollD d3 300) 6 := ⟨_, rfl⟩
  have hm1 : 1 ≤ most := by omega
  have hm2 : most ≤ 6 := by omega
  rw [← hfar', ← hmost', ← hd4]
  rw [← hfar'] at hfar
  clear hmost hfar' hmost' hd4
  refine s_le (Le.refl _) ?_
  dsimp only
  show KT F gA [o, .own (oLst rInt (dl (d4))), .no, .no, .val (rList rRow) [ra, rb], .val (rList (rClay K)) [clayOf n0 ra, clayOf n1 rb], .val rInt len, .val rInt wish, .no, .no, .val (rList (rT2 rInt rInt)) ps, .val rBool (!bd), .val (rSum (rClay K) rStr) (wasV K bd (pickC [clayOf n0 ra, clayOf n1 rb] ps)), .val rInt far, .val rInt most, .no, .no, .no, .no, .no, .no, .no, .no, .no, .no] _
  refine s_seq (s_if (t_of (e_neB (e_callB (_, _, _) (a_cons (e_ixLd (d := d0C) (e_var rfl) e_int ?_) (a_cons (e_ixLd (d := d0C) (e_var rfl) e_int ?_) (a_cons (e_var rfl) a_nil))) ?_ ?_) (e_and (e_le (e_abs (a_cons (e_sub (e_ixTd (d := 0) (e_ixLd (d := dR) (e_var rfl) e_int ?_) e_int ?_) (e_ixTd (d := 0) (e_ixLd (d := dR) (e_var rfl) e_int ?_) e_int ?_)) a_nil)) (e_var rfl)) (fun _ => (e_le (e_abs (a_cons (e_sub (e_ixTd (d := 0) (e_ixLd (d := dR) (e_var rfl) e_int ?_) e_int ?_) (e_ixTd (d := 0) (e_ixLd (d := dR) (e_var rfl) e_int ?_) e_int ?_)) a_nil)) (e_var rfl)))))) (fun hb => ?_) (fun _ => s_next ?_))
  all_goals try (first | exact ga | exact gb | exact (⟨trivial, trivial, trivial⟩ : (datT3 datInt datInt datInt).ok _) | exact clayOf_good ga | exact clayOf_good gb | exact ⟨by decide, show (0 : Int) < 2 by decide⟩ | exact ⟨by decide, show (1 : Int) < 2 by decide⟩ | exact ⟨by decide, by show (0 : Int) < ra.length; rw [ga.1]; decide⟩ | exact ⟨by decide, by show (1 : Int) < ra.length; rw [ga.1]; decide⟩ | exact ⟨by decide, by show (0 : Int) < rb.length; rw [gb.1]; decide⟩ | exact ⟨by decide, by show (1 : Int) < rb.length; rw [gb.1]; decide⟩ | trivial | rfl | (show -(2 ^ 62) ≤ most + 1; omega) | (show most + 1 < 2 ^ 62; omega))
  · exact decide_eq_false (show ¬ far < 0 by omega)
  · exfalso
    have hb : (!decide ((decide (ab (ra.getD 0 0 - rb.getD 0 0) ≤ far) && decide (ab (ra.getD 1 0 - rb.getD 1 0) ≤ far)) = (decide (ab (ra.getD 0 0 - rb.getD 0 0) ≤ far) && decide (ab (ra.getD 1 0 - rb.getD 1 0) ≤ far)))) = true := hb
    simp at hb
  refine s_le (Le.refl _) ?_
  dsimp only
  refine s_seq (s_newL (xs := ([] : List T3)) (R := rT3i) a_nil (plain1 rfl) (show 15 < 25 by decide) (by decide) ?_)
  show KT F gA [o, .own (oLst rInt (dl (d4))), .no, .no, .val (rList rRow) [ra, rb], .val (rList (rClay K)) [clayOf n0 ra, clayOf n1 rb], .val rInt len, .val rInt wish, .no, .no, .val (rList (rT2 rInt rInt)) ps, .val rBool (!bd), .val (rSum (rClay K) rStr) (wasV K bd (pickC [clayOf n0 ra, clayOf n1 rb] ps)), .val rInt far, .val rInt most, .own (oLst rT3i []), .no, .no, .no, .no, .no, .no, .no, .no, .no] _
  have hN0 : (most + 1).toNat = (most + 1).toNat := rfl
  obtain ⟨nn, hnn⟩ : ∃ nn, nn = (most + 1).toNat := ⟨_, rfl⟩
  have hn7 : nn ≤ 7 := by omega
  refine s_seq (s_forN (fun L => [o, .own (oLst rInt (dl (d4))), .no, .no, .val (rList rRow) [ra, rb], .val (rList (rClay K)) [clayOf n0 ra, clayOf n1 rb], .val rInt len, .val rInt wish, .no, .no, .val (rList (rT2 rInt rInt)) ps, .val rBool (!bd), .val (rSum (rClay K) rStr) (wasV K bd (pickC [clayOf n0 ra, clayOf n1 rb] ps)), .val rInt far, .val rInt most, .own (oLst rT3i L), .no, .no, .no, .no, .no, .no, .no, .no, .no]) (fun L x => mxI ra rb (wish * 10) (most + 1).toNat L x) (fun i L => L.length ≤ i * 7) (s0 := []) (xs := upFrom 0 (most + 1).toNat) (Nat.le_refl _) (fun i L x hi _ => ?_) (src_rng1 (a_cons (e_add (e_var rfl) e_int) a_nil) ?_ ?_) (fun i L x hL hx => ⟨_, _, (tg_name (plain1 rfl)), fun g' N hN1 hB => ?_⟩) (fun _ => ?_))
  all_goals try (first | exact ga | exact gb | exact (⟨trivial, trivial, trivial⟩ : (datT3 datInt datInt datInt).ok _) | exact clayOf_good ga | exact clayOf_good gb | exact ⟨by decide, show (0 : Int) < 2 by decide⟩ | exact ⟨by decide, show (1 : Int) < 2 by decide⟩ | exact ⟨by decide, by show (0 : Int) < ra.length; rw [ga.1]; decide⟩ | exact ⟨by decide, by show (1 : Int) < ra.length; rw [ga.1]; decide⟩ | exact ⟨by decide, by show (0 : Int) < rb.length; rw [gb.1]; decide⟩ | exact ⟨by decide, by show (1 : Int) < rb.length; rw [gb.1]; decide⟩ | trivial | rfl | (show -(2 ^ 62) ≤ most + 1; omega) | (show most + 1 < 2 ^ 62; omega))
  · rw [mxI_eq, List.length_append]
    have : ((upFrom 0 (most + 1).toNat).flatMap fun y => mxG ra rb (wish * 10) x y).length ≤ (upFrom 0 (most + 1).toNat).length := flatMap_len fun y => by unfold mxG; split <;> simp
    rw [upFrom_length] at this
    omega
  · have hx' := upFrom_mem.mp (List.mem_of_getElem? hx)
    have hi7 := (List.getElem?_eq_some_iff.mp hx).1
    rw [upFrom_length] at hi7
    refine s_forN (fun L => [o, .own (oLst rInt (dl (d4))), .no, .no, .val (rList rRow) [ra, rb], .val (rList (rClay K)) [clayOf n0 ra, clayOf n1 rb], .val rInt len, .val rInt wish, .no, .no, .val (rList (rT2 rInt rInt)) ps, .val rBool (!bd), .val (rSum (rClay K) rStr) (wasV K bd (pickC [clayOf n0 ra, clayOf n1 rb] ps)), .val rInt far, .val rInt most, .own (oLst rT3i L), .val rInt x, .no, .no, .no, .no, .no, .no, .no, .no]) (fun L y => mxS ra rb (wish * 10) L x y) (fun j L => L.length ≤ 49 + j) (s0 := L) (xs := upFrom 0 (most + 1).toNat) (by omega) (fun j L y hj _ => ?_) (src_rng1 (a_cons (e_add (e_var rfl) e_int) a_nil) ?_ ?_) (fun j L y hL hy => ⟨_, _, (tg_name (plain1 rfl)), fun g2' N2 hN2 hB2 => ?_⟩) (fun _ => s_le (by repeat' (first | exact Le.nil | apply Le.same | refine Le.no trivial ?_)) hN1)
    all_goals try (first | exact ga | exact gb | exact (⟨trivial, trivial, trivial⟩ : (datT3 datInt datInt datInt).ok _) | exact clayOf_good ga | exact clayOf_good gb | exact ⟨by decide, show (0 : Int) < 2 by decide⟩ | exact ⟨by decide, show (1 : Int) < 2 by decide⟩ | exact ⟨by decide, by show (0 : Int) < ra.length; rw [ga.1]; decide⟩ | exact ⟨by decide, by show (1 : Int) < ra.length; rw [ga.1]; decide⟩ | exact ⟨by decide, by show (0 : Int) < rb.length; rw [gb.1]; decide⟩ | exact ⟨by decide, by show (1 : Int) < rb.length; rw [gb.1]; decide⟩ | trivial | rfl | (show -(2 ^ 62) ≤ most + 1; omega) | (show most + 1 < 2 ^ 62; omega))
    · rw [mxS_eq, List.length_append]
      have : (mxG ra rb (wish * 10) x y).length ≤ 1 := by unfold mxG; split <;> simp
      omega
    have hy' := upFrom_mem.mp (List.mem_of_getElem? hy)
    have hj7 := (List.getElem?_eq_some_iff.mp hy).1
    rw [upFrom_length] at hj7
    refine s_seq (s_set (Γ1 := [o, .own (oLst rInt (dl (d4))), .no, .no, .val (rList rRow) [ra, rb], .val (rList (rClay K)) [clayOf n0 ra, clayOf n1 rb], .val rInt len, .val rInt wish, .no, .no, .val (rList (rT2 rInt rInt)) ps, .val rBool (!bd), .val (rSum (rClay K) rStr) (wasV K bd (pickC [clayOf n0 ra, clayOf n1 rb] ps)), .val rInt far, .val rInt most, .own (oLst rT3i L), .val rInt x, .no, .no, .val rInt y, .no, .no, .no, .no, .no]) (R := rList (rT2 rRow rInt)) (a := heapOf ra rb x y) (e_is (e_lcT  (src_list (e_lst (xs := [_, _]) (a_cons (e_t2 (a_cons (e_ixLd (d := dR) (e_var rfl) e_int ?_) (a_cons (e_var rfl) a_nil))) (a_cons (e_t2 (a_cons (e_ixLd (d := dR) (e_var rfl) e_int ?_) (a_cons (e_var rfl) a_nil))) a_nil)) (by simp))) ?_ (noAll_of rfl) (fun x9 hx9 => (tg_t2 (tg_name (plain1 rfl)) (tg_name (plain1 rfl)))) (by decide) (fun x9 => ⟨plAll_of rfl, rfl⟩) (fun x9 hx9 => (t_of (e_gt (e_var rfl) e_int))) (fun x9 hx9 hx9t => (e_t2 (a_cons (e_var rfl) (a_cons (e_var rfl) a_nil))))) ?_) (plain1 rfl) ?_)
    all_goals try (first | exact ga | exact gb | exact (⟨trivial, trivial, trivial⟩ : (datT3 datInt datInt datInt).ok _) | exact clayOf_good ga | exact clayOf_good gb | exact ⟨by decide, show (0 : Int) < 2 by decide⟩ | exact ⟨by decide, show (1 : Int) < 2 by decide⟩ | exact ⟨by decide, by show (0 : Int) < ra.length; rw [ga.1]; decide⟩ | exact ⟨by decide, by show (1 : Int) < ra.length; rw [ga.1]; decide⟩ | exact ⟨by decide, by show (0 : Int) < rb.length; rw [gb.1]; decide⟩ | exact ⟨by decide, by show (1 : Int) < rb.length; rw [gb.1]; decide⟩ | trivial | rfl | (show -(2 ^ 62) ≤ most + 1; omega) | (show most + 1 < 2 ^ 62; omega))
    · simp
    show KT F g2' [o, .own (oLst rInt (dl (d4))), .no, .no, .val (rList rRow) [ra, rb], .val (rList (rClay K)) [clayOf n0 ra, clayOf n1 rb], .val rInt len, .val rInt wish, .no, .no, .val (rList (rT2 rInt rInt)) ps, .val rBool (!bd), .val (rSum (rClay K) rStr) (wasV K bd (pickC [clayOf n0 ra, clayOf n1 rb] ps)), .val rInt far, .val rInt most, .own (oLst rT3i L), .val rInt x, .no, .no, .val rInt y, .val (rList (rT2 rRow rInt)) (heapOf ra rb x y), .no, .no, .no, .no] _
    have gh : goodRP (heapOf ra rb x y) := heap_good ga gb ⟨by omega, by omega⟩ ⟨by omega, by omega⟩
    refine s_if (t_of (e_neE (e_var rfl))) (fun hc => ?_) (fun hc => s_next ?_)
    · have hc : (!(heapOf ra rb x y).isEmpty) = true := hc
      have hne : (heapOf ra rb x y).isEmpty = false := by simpa using hc
      have hb : mxS ra rb (wish * 10) L x y = L ++ [(ab (rLost (rMix (heapOf ra rb x y)) - wish * 10), x, y)] := by unfold mxS; rw [if_neg (by rw [hne]; exact Bool.false_ne_true)]
      rw [hb] at hN2
      refine s_append rfl rfl (e_t3 (a_cons (e_abs (a_cons (e_sub (e_callB _ (a_cons (e_callB _ (a_cons (e_var rfl) a_nil) ?_ ?_) a_nil) ?_ ?_) (e_mul (e_var rfl) e_int ?_)) a_nil)) (a_cons (e_var rfl) (a_cons (e_var rfl) a_nil)))) (by omega) (s_le (by repeat' (first | exact Le.nil | apply Le.same | refine Le.no trivial ?_)) hN2)
      · exact ⟨gh, heap_sum hne⟩
      · rfl
      · exact rMix_good gh (fun x hx => (heap_mem hx).2) (heap_sum hne)
      · rfl
      · left; exact ⟨by show -(2 ^ 64) < wish; omega, by show wish < 2 ^ 64; omega⟩
    · have hc : (!(heapOf ra rb x y).isEmpty) = false := hc
      have hb : mxS ra rb (wish * 10) L x y = L := by unfold mxS; rw [if_pos (by simpa using hc)]
      rw [hb] at hN2
      exact s_le (by repeat' (first | exact Le.nil | apply Le.same | refine Le.no trivial ?_)) hN2
  show KT F gA [o, .own (oLst rInt (dl (d4))), .no, .no, .val (rList rRow) [ra, rb], .val (rList (rClay K)) [clayOf n0 ra, clayOf n1 rb], .val rInt len, .val rInt wish, .no, .no, .val (rList (rT2 rInt rInt)) ps, .val rBool (!bd), .val (rSum (rClay K) rStr) (wasV K bd (pickC [clayOf n0 ra, clayOf n1 rb] ps)), .val rInt far, .val rInt most, .own (oLst rT3i (mixesF ra rb (wish * 10) (most + 1).toNat)), .no, .no, .no, .no, .no, .no, .no, .no, .no] _
  clear hN0
  obtain ⟨x0, xs0, hmx⟩ : ∃ x xs, mixesF ra rb (wish * 10) (most + 1).toNat = x :: xs := mixes_ne (by omega)
  have hbest : (A_best K).r (clayOf n0 ra, clayOf n1 rb, wish * 10, most) = minT3 x0 xs0 := by
    show (mBest _ _ _ _).getD (0, 0, 0) = _
    rw [best_eq, hmx, bestOf_cons]; rfl
  rw [hmx]
  refine KT.out (i := 15) (s := .val (rList rT3i) (x0 :: xs0)) hFO rfl (fun h H ps v ⟨p, vs, _, e1, e2, e3, r⟩ hp => ⟨p, vs, e1, by rw [hp p (by rw [e2]; exact List.mem_singleton.mpr rfl)]; exact e3, r⟩) ?_
  refine s_le (Le.refl _) ?_
  dsimp only
  show KT F gA [o, .own (oLst rInt (dl (d4))), .no, .no, .val (rList rRow) [ra, rb], .val (rList (rClay K)) [clayOf n0 ra, clayOf n1 rb], .val rInt len, .val rInt wish, .no, .no, .val (rList (rT2 rInt rInt)) ps, .val rBool (!bd), .val (rSum (rClay K) rStr) (wasV K bd (pickC [clayOf n0 ra, clayOf n1 rb] ps)), .val rInt far, .val rInt most, .val (rList rT3i) (x0 :: xs0), .no, .no, .no, .no, .no, .no, .no, .no, .no] _
  refine s_if (t_of (e_neD (datT3 datInt datInt datInt) (e_callB (_, _, _, _) (a_cons (e_ixLd (d := d0C) (e_var rfl) e_int ?_) (a_cons (e_ixLd (d := d0C) (e_var rfl) e_int ?_) (a_cons (e_mul (e_var rfl) e_int ?_) (a_cons (e_var rfl) a_nil)))) ?_ ?_) (e_minT (a_cons (e_var rfl) a_nil)) ?_ ?_)) (fun hb => ?_) (fun _ => s_next ?_)
  all_goals try (first | exact ga | exact gb | exact (⟨trivial, trivial, trivial⟩ : (datT3 datInt datInt datInt).ok _) | exact clayOf_good ga | exact clayOf_good gb | exact ⟨by decide, show (0 : Int) < 2 by decide⟩ | exact ⟨by decide, show (1 : Int) < 2 by decide⟩ | exact ⟨by decide, by show (0 : Int) < ra.length; rw [ga.1]; decide⟩ | exact ⟨by decide, by show (1 : Int) < ra.length; rw [ga.1]; decide⟩ | exact ⟨by decide, by show (0 : Int) < rb.length; rw [gb.1]; decide⟩ | exact ⟨by decide, by show (1 : Int) < rb.length; rw [gb.1]; decide⟩ | trivial | rfl | (show -(2 ^ 62) ≤ most + 1; omega) | (show most + 1 < 2 ^ 62; omega))
  · left; exact ⟨by show -(2 ^ 64) < wish; omega, by show wish < 2 ^ 64; omega⟩
  · exact ⟨clayOf_good ga, clayOf_good gb, show most ≤ 100 by omega⟩
  · exact decide_eq_false (show ¬ most < 1 by omega)
  · exfalso
    have hb : (!decide ((A_best K).r (clayOf n0 ra, clayOf n1 rb, wish * 10, most) = minT3 x0 xs0)) = true := hb
    rw [hbest] at hb
    simp at hb
  refine hN _ ?_
  refine s_le (Le.refl _) ?_
  dsimp only
  refine s_seq (s_set (Γ1 := [o, .own (oLst rInt (dl (d4))), .no, .no, .val (rList rRow) [ra, rb], .val (rList (rClay K)) [clayOf n0 ra, clayOf n1 rb], .val rInt len, .val rInt wish, .no, .no, .val (rList (rT2 rInt rInt)) ps, .val rBool (!bd), .val (rSum (rClay K) rStr) (wasV K bd (pickC [clayOf n0 ra, clayOf n1 rb] ps)), .val rInt far, .val rInt most, .val (rList rT3i) (x0 :: xs0), .no, .no, .no, .no, .no, .no, .no, .no, .no]) (R := rClay K) (a := ⟨"a", 60, 40, 0⟩) (e_makeB (_, _, _, _) (a_cons e_str (a_cons e_int (a_cons e_int (a_cons e_int a_nil)))) ?_ ?_) (plain1 rfl) ?_)
  · trivial
  · rfl
  show KT F gT [o, .own (oLst rInt (dl (d4))), .val (rClay K) ⟨"a", 60, 40, 0⟩, .no, .val (rList rRow) [ra, rb], .val (rList (rClay K)) [clayOf n0 ra, clayOf n1 rb], .val rInt len, .val rInt wish, .no, .no, .val (rList (rT2 rInt rInt)) ps, .val rBool (!bd), .val (rSum (rClay K) rStr) (wasV K bd (pickC [clayOf n0 ra, clayOf n1 rb] ps)), .val rInt far, .val rInt most, .val (rList rT3i) (x0 :: xs0), .no, .no, .no, .no, .no, .no, .no, .no, .no] _
  have hn1 : Ls[1]? = some (lamD (eltAt (valOf (stAt d_law.body 2)) 0) t1) := by rw [hLd]; rfl
  have hn2 : Ls[2]? = some (lamD (eltAt (valOf (stAt d_law.body 2)) 1) t2) := by rw [hLd]; rfl
  have hn3 : Ls[3]? = some (lamD (eltAt (valOf (stAt d_law.body 2)) 2) t3) := by rw [hLd]; rfl
  have hn4 : Ls[4]? = some (lamD (eltAt (valOf (stAt d_law.body 2)) 3) t4) := by rw [hLd]; rfl
  have hn5 : Ls[5]? = some (lamD (eltAt (valOf (stAt d_law.body 2)) 4) t5) := by rw [hLd]; rfl
  have hn6 : Ls[6]? = some (lamD (eltAt (valOf (stAt d_law.body 2)) 5) t6) := by rw [hLd]; rfl
  have hn7 : Ls[7]? = some (lamD (eltAt (valOf (stAt d_law.body 2)) 6) t7) := by rw [hLd]; rfl
  have hn8 : Ls[8]? = some (lamD (eltAt (valOf (stAt d_law.body 2)) 7) t8) := by rw [hLd]; rfl
  have hn9 : Ls[9]? = some (lamD (eltAt (valOf (stAt d_law.body 2)) 8) t9) := by rw [hLd]; rfl
  have hn10 : Ls[10]? = some (lamD (eltAt (valOf (stAt d_law.body 2)) 9) t10) := by rw [hLd]; rfl
  have hT : (some o : Option Sl) = some (.own (oTab Pl ((XL P w K mg base A outer s H E).env.qual ++ "<lambda>") v)) := by rw [← hO]
  refine s_seq (s_set (Γ1 := [o, .own (oLst rInt (dl (d4))), .val (rClay K) ⟨"a", 60, 40, 0⟩, .no, .val (rList rRow) [ra, rb], .val (rList (rClay K)) [clayOf n0 ra, clayOf n1 rb], .val rInt len, .val rInt wish, .no, .no, .val (rList (rT2 rInt rInt)) ps, .val rBool (!bd), .val (rSum (rClay K) rStr) (wasV K bd (pickC [clayOf n0 ra, clayOf n1 rb] ps)), .val rInt far, .val rInt most, .val (rList rT3i) (x0 :: xs0), .no, .no, .no, .no, .no, .no, .no, .no, .no]) (R := rList (rFn ((XL P w K mg base A outer s H E).env.qual ++ "<lambda>") (XL P w K mg base A outer s H E).env.cells Ls)) (a := [1, 2, 3, 4, 5, 6, 7, 8, 9, 10]) (e_lst (xs := [1, 2, 3, 4, 5, 6, 7, 8, 9, 10]) (a_cons (e_lamK (i := 0) (v := v) hT hn1 rfl) (a_cons (e_lamK (i := 0) (v := v) hT hn2 rfl) (a_cons (e_lamK (i := 0) (v := v) hT hn3 rfl) (a_cons (e_lamK (i := 0) (v := v) hT hn4 rfl) (a_cons (e_lamK (i := 0) (v := v) hT hn5 rfl) (a_cons (e_lamK (i := 0) (v := v) hT hn6 rfl) (a_cons (e_lamK (i := 0) (v := v) hT hn7 rfl) (a_cons (e_lamK (i := 0) (v := v) hT hn8 rfl) (a_cons (e_lamK (i := 0) (v := v) hT hn9 rfl) (a_cons (e_lamK (i := 0) (v := v) hT hn10 rfl) a_nil)))))))))) (by decide)) (plain1 rfl) ?_)
  show KT F gT [o, .own (oLst rInt (dl (d4))), .val (rClay K) ⟨"a", 60, 40, 0⟩, .val (rList (rFn ((XL P w K mg base A outer s H E).env.qual ++ "<lambda>") (XL P w K mg base A outer s H E).env.cells Ls)) [1, 2, 3, 4, 5, 6, 7, 8, 9, 10], .val (rList rRow) [ra, rb], .val (rList (rClay K)) [clayOf n0 ra, clayOf n1 rb], .val rInt len, .val rInt wish, .no, .no, .val (rList (rT2 rInt rInt)) ps, .val rBool (!bd), .val (rSum (rClay K) rStr) (wasV K bd (pickC [clayOf n0 ra, clayOf n1 rb] ps)), .val rInt far, .val rInt most, .val (rList rT3i) (x0 :: xs0), .no, .no, .no, .no, .no, .no, .no, .no, .no] _
  have gone : goodC ⟨"a", 60, 40, 0⟩ := ⟨by decide, by decide, by decide, by decide, by decide, by decide⟩
  obtain ⟨Γe, hΓe⟩ : ∃ Γe : TP.Ctx, Γe = [o, .own (oLst rInt (dl (d4))), .val (rClay K) ⟨"a", 60, 40, 0⟩, .val (rList (rFn ((XL P w K mg base A outer s H E).env.qual ++ "<lambda>") (XL P w K mg base A outer s H E).env.cells Ls)) [1, 2, 3, 4, 5, 6, 7, 8, 9, 10], .val (rList rRow) [ra, rb], .val (rList (rClay K)) [clayOf n0 ra, clayOf n1 rb], .val rInt len, .val rInt wish, .no, .no, .val (rList (rT2 rInt rInt)) ps, .val rBool (!bd), .val (rSum (rClay K) rStr) (wasV K bd (pickC [clayOf n0 ra, clayOf n1 rb] ps)), .val rInt far, .val rInt most, .val (rList rT3i) (x0 :: xs0), .no, .no, .no, .no, .no, .no, .no, .no, .no] := ⟨_, rfl⟩
  have h2' : Γe[2]? = some (.val (rClay K) ⟨"a", 60, 40, 0⟩) := by rw [hΓe]; rfl
  have h3' : Γe[3]? = some (.val (rList (rFn ((XL P w K mg base A outer s H E).env.qual ++ "<lambda>") (XL P w K mg base A outer s H E).env.cells Ls)) [1, 2, 3, 4, 5, 6, 7, 8, 9, 10]) := by rw [hΓe]; rfl
  have hj : NoAt Γe 23 := by rw [hΓe]; exact fun s e => by simpa using e.symm
  have hjl : 23 < Γe.length := by rw [hΓe]; exact (show (23 : Nat) < 25 by decide)
  rw [← hΓe]
  have hall : ∀ n ∈ [1, 2, 3, 4, 5, 6, 7, 8, 9, 10], ∃ ld c, Ls[n]? = some ld ∧ (∀ W, EX F.G Γe (ld.t W) Γe W c) ∧ PySem.W.exmOne K (.ref c) (.ref (aErr K)) = some true := by
    intro n hn
    simp only [List.mem_cons, List.not_mem_nil, or_false] at hn
    rcases hn with rfl | rfl | rfl | rfl | rfl | rfl | rfl | rfl | rfl | rfl
    · exact ⟨_, aErr K, hn1, fun W => ty1 _ _ W gone h2', x_ClayError_ClayError T⟩
    · exact ⟨_, aErr K, hn2, fun W => ty2 _ _ W gone h2', x_ClayError_ClayError T⟩
    · exact ⟨_, aErr K, hn3, fun W => ty3 _ _ W gone h2', x_ClayError_ClayError T⟩
    · exact ⟨_, aErr K, hn4, fun W => ty4 _ _ W gone h2', x_ClayError_ClayError T⟩
    · exact ⟨_, aErr K, hn5, fun W => ty5 _ _ W gone h2', x_ClayError_ClayError T⟩
    · exact ⟨_, aErr K, hn6, fun W => ty6 _ _ W gone h2', x_ClayError_ClayError T⟩
    · exact ⟨_, aErr K, hn7, fun W => ty7 _ _ W gone h2', x_ClayError_ClayError T⟩
    · exact ⟨_, aErr K, hn8, fun W => ty8 _ _ W gone h2', x_ClayError_ClayError T⟩
    · exact ⟨_, aErr K, hn9, fun W => ty9 _ _ W gone h2', x_ClayError_ClayError T⟩
    · exact ⟨_, aErr K, hn10, fun W => ty10 _ _ W gone h2', x_ClayError_ClayError T⟩
  have hb := LM.e_bads (ret := "ClayError") (CS := aErr K) (K := K) (i := 3) (j := 23) h3' hj hjl (by decide) hall
  refine s_ret (R := rBool) (a := true) (e_is (e_and (e_eqE hb) (fun _ => (e_and (e_eqD (datList datInt) (e_lst (xs := [_, _, _, _]) (a_cons (e_methB (_, _) (o_Clay_dry) (e_var h2') (a_cons e_int a_nil) rfl ?_ ?_) (a_cons (e_methB (_, _) (o_Clay_fired) (e_var h2') (a_cons e_int a_nil) rfl ?_ ?_) (a_cons (e_methB (_, _) (o_Clay_wet_for) (e_var h2') (a_cons e_int a_nil) rfl ?_ ?_) (a_cons (e_methB _ (o_Clay_lost) (e_var h2') a_nil rfl ?_ ?_) a_nil)))) (by simp)) (e_lst (xs := [_, _, _, _]) (a_cons e_int (a_cons e_int (a_cons e_int (a_cons e_int a_nil)))) (by simp)) ?_ ?_) (fun _ => (e_eqI (e_methB (_, _) (o_Clay_wet_for) (e_var h2') (a_cons e_int a_nil) rfl ?_ ?_) e_int))))) ?_) (fun v H' _ _ hv => hq v H' hv)
  all_goals try (first | exact gone | rfl | (intro x hx; trivial))
end
end KH


set_option Elab.async false
set_option linter.all false
set_option maxRecDepth 100000
set_option maxHeartbeats 1000000
namespace KH
open PySem PySem.Spec PyProof.Rows L2 TP LM
theorem keeps : KeepsLaw := fun w mg fa' h K KX c G hmg => by
  have T : Top w K mg := ⟨h, KX, G, c⟩
  have e : fa' = He.ga K "law" := by
    have e := g_law T
    rw [hmg] at e
    injection e with e
    injection e
  subst e
  have nd := tabs_nd T
  have hne : (He.cT K ("law", none)).2 ≠ pMixed K := fun z => by
    have nd : ([(He.cT K ("mixed", none)).2, (He.cT K ("law", none)).2] : List Addr).Nodup := nd
    rw [List.nodup_cons] at nd
    exact nd.1 (List.mem_singleton.mpr z.symm)
  have i1 : He.cT K ("mixed", none) ∈ tf.map (He.cT K) := List.mem_map.mpr ⟨_, by unfold tf; simp, rfl⟩
  have i2 : He.cT K ("law", none) ∈ tf.map (He.cT K) := List.mem_map.mpr ⟨_, by unfold tf; simp, rfl⟩
  refine ⟨fdOf K d_law.at_, tf.map (He.cT K), spLaw K (He.cT K ("law", none)).2, fun p hp => ?_, fun p hp => ?_, fun p hp => ?_, fun s u => ?_, fun H a ns h1 h2 h3 h4 => ?_, fun base hb hg ht => ?_⟩
  · obtain ⟨q, hq, rfl⟩ := List.mem_map.mp hp
    exact c.empty q hq
  · obtain ⟨q, hq, rfl⟩ := List.mem_map.mp hp
    exact c.out q hq
  · obtain ⟨q, hq, rfl⟩ := List.mem_map.mp hp
    exact PySem.W.codeHd_of_K KX (c.hd q hq)
  · obtain ⟨oc, od, kV, doc, pm, an, ct, osl, e, _⟩ := (D_law T).ex
    rw [e]
    exact BindsTo.of_eq rfl
  · exact ⟨a, ns, rfl, h4, h3 _ i1, h3 _ i2, fun v H' z => z⟩
  · have t1 := ht _ i1
    have t2 := ht _ i2
    exact (ok_law T ⟨t1.code, t1.bm, t1.gP⟩ hne t2).mono (by decide)
end KH
theorem PySem.Challenge.cw_kilnstack_k01_clays_that_shrink_holds : PySem.Challenge.rw_kilnstack_k01_clays_that_shrink.Holds :=
  holds_of KH.keeps
