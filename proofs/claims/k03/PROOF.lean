import PyProof.Rows.All
import Wide.All
import OpenK.AllK
import Wide.FinOn
import HandS.ForMost
import HandS.GenList
import HandS.AnyAll
import PyProof.TupleOfGen
import PyProof.WalkInts
import HandS.Wide
import HandS.Flt
import HandS.Walk
import HandS.WordsExc
import HandS.Defaults
import HandS.HeadHook4
import HandS.Lambda
import HandS.ExcOwn
import HandS.TupAny
import PyProof.NeKinds
import HandS.Iter
import PyProof.EqKinds
import HandS.More
import KE.DataMinMax
import KE.GoesMore
import HandS.Zip
import HandS.Style
import HandS.DictComp
import HandS.ListItems
import KE.KDictList
import KE.SortData
import KE.DataCmp
import HandS.Sort
import KE.DatumOrd
import HandS.Text
import HandS.Small
import KE.KStateDown
import Lean
import HandS.Base
import HandS.Call
import HandS.Ends
import HandS.Words
import HandS.EndTab
import HandS.Head0
import HandS.Head1
import HandS.Head2
import HandS.HeadEnd
import HandS.HeadHook1
import HandS.HeadHook2
import HandS.HeadHook3
import HandS.HeadWalk
import KE.KNestM
import PySem.Challenge.RW_kilnstack_k03_pots_in_pots
set_option Elab.async false
set_option linter.all false
set_option maxRecDepth 100000
set_option maxHeartbeats 4000000
/-! A generator expression handed to any, sum, max, min, tuple, sorted: its elements are walked by the layer's own rules, in the generator's frame. -/
namespace GX
open PySem PySem.Spec PyProof.Rows L2 GenW

/-! ### 1. the generator's names and its context -/
/-- own: the targets with their places in N; all other names are captured or global -/
structure GSc (N : List Str) (sc scope : Scope) (own : List (Str × Nat)) : Prop where
  kind : scope.kind = .function
  co : scope.isCoroutine = false
  dot : scope.names.lookup (".0" : Str) = some NameKind.local
  cell : ∀ y ∈ scope.names, y.2 ≠ .cell
  uniq : ∀ y ∈ scope.names, scope.names.lookup y.1 = some y.2
  ix : ∀ p ∈ own, N[p.2]? = some p.1
  free : ∀ y ∈ scope.names, y.2 = .free → sc.names.lookup y.1 = some .cell ∨ sc.names.lookup y.1 = some .free
  own : ∀ y ∈ scope.names, y.2 = .local → y.1 ∈ own.map (·.1) ∨ y.1 ∉ N
def gscB (N : List Str) (sc scope : Scope) (own : List (Str × Nat)) : Bool :=
  decide (scope.kind = .function) && !scope.isCoroutine && decide (scope.names.lookup (".0" : Str) = some NameKind.local) && (scope.names.all fun y => decide (y.2 ≠ .cell) && decide (scope.names.lookup y.1 = some y.2)
    && (!decide (y.2 = .free) || decide (sc.names.lookup y.1 = some .cell) || decide (sc.names.lookup y.1 = some .free)) && (!decide (y.2 = .local) || decide (y.1 ∈ own.map (·.1)) || decide (y.1 ∉ N))) && (own.all fun p => decide (N[p.2]? = some p.1))
theorem gsc_by {N : List Str} {sc scope : Scope} {own : List (Str × Nat)} (h : gscB N sc scope own = true) : GSc N sc scope own := by
  unfold gscB at h
  simp only [Bool.and_eq_true, Bool.or_eq_true, Bool.not_eq_true', decide_eq_true_eq, decide_eq_false_iff_not, List.all_eq_true] at h
  obtain ⟨⟨⟨⟨h1, h2⟩, h3⟩, h4⟩, h5⟩ := h
  refine ⟨h1, h2, h3, fun y hy => (h4 y hy).1.1.1, fun y hy => (h4 y hy).1.1.2, h5, fun y hy e => ?_, fun y hy e => ?_⟩
  · rcases (h4 y hy).1.2 with (z | z) | z
    · exact absurd e z
    · exact .inl z
    · exact .inr z
  · rcases (h4 y hy).2 with (z | z) | z
    · exact absurd e z
    · exact .inl z
    · exact .inr z
abbrev gEnv (X : Cx) (scope : Scope) (C : Addr) (code : Value) : Env := genEnv scope (cloFrom X.env.cells scope.names []) C code builtinsNs X.env
/-- the context of the generator's frame, woken under A; s, H: the state ahead of the frame -/
abbrev gctx (X : Cx) (A : Around) (s : Shared) (H : Hp) (cenv : Env) (fp : List Addr) (pn : List (Addr × Obj)) : Cx :=
  { X with A := A.deeper cenv, s_0 := s, H_0 := H, env := cenv, outer := X.stack, stack := cenv :: X.stack, ex := fp, fn := fun _ => false, calm := true, pn := pn, xe := fun _ _ => False }

theorem free_has {X : Cx} {scope : Scope} {own : List (Str × Nat)} (G : GSc X.N X.env.scope scope own) (ok : X.Ok) : ∀ y ∈ scope.names, y.2 = .free → ∃ c, X.env.cells.lookup y.1 = some c := fun y hy e => by
  rcases G.free y hy e with k | k
  · exact ok.has _ (.inl k)
  · exact ok.has _ (.inr k)

theorem gen_start {X : Cx} {pins ip pn : List (Addr × Obj)} {σ : L2.St} {H : Hp} {s s2 : Shared} {scope : Scope} {own : List (Str × Nat)} {fp : List Addr} {code it : Value} {A : Around}
    (I : Inv X pins σ H s) (G : GSc X.N X.env.scope scope own) (hN : X.N.Nodup) (hfp : ∀ b ∈ fp, FpOk X pins H b ∧ b < s.heap.objs.size) (hd : A.handled = none) (hfr : A.frames = some X.stack)
    (hos : s2.os = s.os) (hb : AllBare s2.gens) (kp : ∀ b o, s.heap.get? b = some o → s2.heap.get? b = some o) (hns : s2.heap.Ns s.heap.objs.size fun y => if y = ".0" then some it else none)
    (hp : ∀ p ∈ pn ++ ip, s2.heap.get? p.1 = some p.2 ∧ s.heap.objs.size < p.1 ∧ ∀ v, p.2.data ≠ .cell v) :
    Inv (gctx X A s H (gEnv X scope s.heap.objs.size code) fp pn) ip (wipe σ (own.map (·.2))) H s2 := by
  have hfree := free_has G I.ok
  have cm : ∀ {y c}, (cloFrom X.env.cells scope.names []).lookup y = some c → X.env.cells.lookup y = some c := fun {y c} e => by
    rcases cloFrom_mem (PySem.mem_of_lookup e) with hm | ⟨h1, h2⟩
    · cases hm
    · obtain ⟨c1, hc⟩ := hfree _ h1 rfl
      have hc : X.env.cells.lookup y = some c1 := hc
      have e2 : c = c1 := by
        rw [h2, hc] <;> rfl
      rw [e2]
      exact hc
  have look : ∀ {y}, scope.names.lookup y = some .free → ∃ c, (cloFrom X.env.cells scope.names []).lookup y = some c := fun {y} hl =>
    mem_lookup (cloFrom_has (cells := X.env.cells) (acc := []) (PySem.mem_of_lookup hl))
  have stk : ∀ b ∈ fp, b ∉ frs X.stack := fun b hb z => by
    rcases List.mem_cons.mp (I.stkSub b z) with z | z
    · exact (hfp b hb).1.2.1 z
    · exact (hfp b hb).1.2.2.1 z
  have okG : (gctx X A s H (gEnv X scope s.heap.objs.size code) fp pn).Ok := by
    refine ⟨I.ok.mod, G.kind, I.ok.glob, rfl, Nat.le_refl _, fun y z c e1 e2 => I.ok.inj y z c (cm e1) (cm e2), fun y hy => ?_, fun y c z _ => ?_, fun _ => hd, Around.frames_deeper hfr, .inr ⟨rfl, rfl⟩,
      fun b hb => ⟨Nat.ne_of_lt (hfp b hb).2, fun y c e => (hfp b hb).1.2.2.2.2.1 y c (cm e)⟩, I.bs, Nat.le_trans I.ok.bsz I.sz, fun b o e hb => ?_, stk, I.stack, I.stkFree⟩
    · have hy : scope.names.lookup y = some .cell ∨ scope.names.lookup y = some .free := hy
      rcases hy with hy | hy
      · exact absurd rfl (G.cell _ (PySem.mem_of_lookup hy))
      · exact look hy
    · have z : false = true := z
      cases z
    · rcases (hfp b hb).1.2.2.2.1 with z | z
      · exact I.ok.noex b o e z
      · exact absurd (Nat.lt_of_lt_of_le (Heap.lt_size e) (Nat.le_trans I.ok.bsz z)) (Nat.lt_irrefl _)
  refine ⟨okG, hos, hb, Un.kept kp, ⟨_, hns, fun i y av e1 e2 e3 => ?_⟩, fun y c e => ?_, I.hok.fresh (Nat.le_refl _), fun y c e => I.freeC y c (cm e), fun p hq => ?_, I.hok.kept kp, by rw [wipe_length]; exact I.len⟩
  · obtain ⟨e2, hne⟩ := wipe_some e2
    have e1 : X.N[i]? = some y := e1
    have e3 : Vis scope y := e3
    rcases e3 with k | k | k
    · rcases G.own _ (PySem.mem_of_lookup k) rfl with e' | e'
      · obtain ⟨p, hp', hpy⟩ := List.mem_map.mp e'
        have e4 := G.ix p hp'
        have : p.1 = y := hpy
        rw [this] at e4
        exact absurd (List.mem_map.mpr ⟨p, hp', nodup_ix hN e4 e1⟩) hne
      · exact absurd (List.mem_of_getElem? e1) e'
    · exact absurd rfl (G.cell _ (PySem.mem_of_lookup k))
    · obtain ⟨m, hn, hl⟩ := I.loc
      have hvis : Vis X.env.scope y := (G.free _ (PySem.mem_of_lookup k) rfl).elim (fun k => .inr (.inl k)) (fun k => .inr (.inr k))
      obtain ⟨u, r, q⟩ := hl i y av e1 e2 hvis
      obtain ⟨c2, h2⟩ := look k
      refine ⟨u, r, .inr ⟨.inr k, c2, h2, ?_⟩⟩
      have c1 := cm h2
      rcases q with ⟨k', _⟩ | ⟨_, c3, e', z⟩
      · have k' : X.env.scope.names.lookup y = some .local := k'
        rcases G.free _ (PySem.mem_of_lookup k) rfl with k2 | k2 <;> rw [show X.env.scope.names.lookup y = _ from k2] at k' <;> cases k'
      · rw [c1] at e'
        cases e'
        exact z.keeps kp
  · obtain ⟨u, z⟩ := I.cell y c (cm e)
    exact ⟨u, z.keeps kp⟩
  · obtain ⟨h1, h2, h3⟩ := hp p hq
    exact ⟨h1, I.hok.fresh (Nat.le_of_lt h2), Nat.ne_of_gt h2, fun z => I.nofs (Nat.le_of_lt h2) (by
      rcases List.mem_cons.mp (I.stkSub p.1 z) with e | e
      · have h4 := I.lt
        rw [← e] at h4
        exact absurd (Nat.lt_trans h4 h2) (Nat.lt_irrefl _)
      · exact e), h3⟩

/-! ### 2. while it sleeps -/
/-- the consumer's own object at S is written, so that Φ holds of it; all else is kept -/
structure Sl (S : Addr) (Φ : Obj → Prop) (s s' : Shared) : Prop where
  os : s'.os = s.os
  bare : AllBare s'.gens
  keep : ∀ b o, b ≠ S → s.heap.get? b = some o → s'.heap.get? b = some o
  own : ∃ o, s'.heap.get? S = some o ∧ Φ o ∧ ∀ v, o.data ≠ .cell v
theorem inv_slept {X : Cx} {S : Addr} {o : Obj} {ip : List (Addr × Obj)} {σ : L2.St} {H : Hp} {s s' : Shared} {Φ : Obj → Prop} (I : Inv X ((S, o) :: ip) σ H s) (hA : X.s_0.heap.objs.size ≤ S) (hc : ∀ x c, X.env.cells.lookup x = some c → c ≠ S)
    (hip : ∀ p ∈ ip, p.1 ≠ S) (hpn : (∀ p ∈ X.pn, p.1 ≠ S) ∨ ∀ o', Φ o' → o' = o) (z : Sl S Φ s s') : ∃ o', Φ o' ∧ Inv X ((S, o') :: ip) σ H s' := by
  obtain ⟨o', e', hΦ, hcell⟩ := z.own
  refine ⟨o', hΦ, ?_⟩
  obtain ⟨eS, hS0, hSL, hSf, _⟩ := I.pin (S, o) (List.mem_append_right _ List.mem_cons_self)
  have nt : ∀ b u, H b = some u → b ≠ S := fun b u q hb => by rw [hb, hS0] at q; cases q
  rcases hpn with hpn | hpn
  · have I0 : Inv X ip σ H s := I.pins_of fun p hp => I.pin p (List.mem_append_right _ (List.mem_cons_of_mem _ hp))
    have nc : ∀ b, b ∉ [S] → b ≠ S := fun b hb e => hb (by rw [e]; exact List.mem_singleton.mpr rfl)
    have hok : HOk X.prog X.w H s'.heap := fun b u q => (I0.hok b u q).stay (fun c v hc y => z.keep c v (by
      rcases hc with y | y
      · rw [y]; exact nt b u q
      · exact nt c _ y) y) (fun _ y => y) fun _ _ y => y
    have J : Inv X ip σ H s' := by
      refine I0.call' (ch := [S]) z.os ⟨fun b ob q n _ hx => z.keep b ob (nc b hx) q, fun b ob q n _ hx => ⟨ob.slots, z.keep b ob (nc b hx) q⟩, fun _ _ _ n _ => n, fun b ob q hx => ⟨ob, z.keep b ob (nc b hx) q⟩, fun _ _ q => q, fun _ _ _ q => q, fun _ ps q => ⟨#[], by rw [q]; simp⟩⟩ hok z.bare fun b hb => ?_
      rw [List.mem_singleton.mp hb]
      refine ⟨.inr hA, hSL, hc, fun p hp => ?_⟩
      rcases List.mem_append.mp hp with hp | hp
      · exact hpn p hp
      · exact hip p hp
    refine J.pins_of fun p hp => ?_
    rcases List.mem_cons.mp hp with hp | hp
    · rw [hp]
      exact ⟨e', hS0, hSL, hSf, hcell⟩
    · exact J.pin p (List.mem_append_right _ hp)
  · have eo := hpn o' hΦ
    have kp : ∀ b u, s.heap.get? b = some u → s'.heap.get? b = some u := fun b u q => by
      by_cases hb : b = S
      · rw [hb] at q ⊢
        rw [eS] at q
        cases q
        rw [e', eo]
      · exact z.keep b u hb q
    rw [eo]
    exact I.call' (ch := []) z.os (Un.kept kp) (I.hok.kept kp) z.bare fun b hb => by simp at hb

/-! ### 3. the protocol -/
section
variable (P : Program) (w : World) (fs fp : List Addr) (H : Hp) (s₄ : Shared) (S a : Addr) (g : Nat) (Lk : List V → Obj → Prop)
/-- an item is handed out: ys were out before, x is this one -/
def YG (mid : List V → V → Hp → Prop) : Protocol := fun n s₀ v s1 kap =>
  ∃ ys x H' o, s₀.heap.get? S = some o ∧ n + 1 + ys.length = sizeLine ∧ s1.os = s₄.os ∧ AllBare s1.gens ∧ s1.heap.NoLimit ∧ s1.heap.IsGen a g ∧ Un fs fp H H' s₄.heap s1.heap ∧ HOk P w H' s1.heap ∧ H' S = none ∧ s1.heap.get? S = some o ∧ Lk ys o ∧ RelV x v ∧ mid ys x H' ∧
    ∀ s', Sl S (Lk (ys ++ [x])) s1 s' → kap (.send .none) s'
/-- the end -/
def FG (fin : List V → Hp → Prop) (s₀ s1 : Shared) : Prop :=
  ∃ ys H' o, s₀.heap.get? S = some o ∧ ys.length ≤ sizeLine ∧ s1.os = s₄.os ∧ AllBare s1.gens ∧ s1.heap.IsGen a g ∧ Un fs fp H H' s₄.heap s1.heap ∧ HOk P w H' s1.heap ∧ H' S = none ∧ s1.heap.get? S = some o ∧ Lk ys o ∧ fin ys H'
def RG (fin : List V → Hp → Prop) : GenEnd := fun _ s₀ r s1 =>
  ((r = .ok (.ret .none) ∨ r = .ok .next) ∧ FG P w fs fp H s₄ S a g Lk fin s₀ s1) ∨ ∃ e, r = .error e ∧ False
end
/-- the generator's own object -/
structure GenO (go : Obj) (g : Nat) : Prop where
  cls : go.cls = .type "generator"
  data : ∃ nm qn, go.data = .fields #[.int g 0, nm, qn]
  slots : go.slots = #[]
theorem GenO.is {go : Obj} {g : Nat} (h : GenO go g) {a : Addr} {hp : Heap} (e : hp.get? a = some go) : hp.IsGen a g := by
  obtain ⟨nm, qn, q⟩ := h.data
  exact ⟨go, nm, qn, e, h.cls, q, h.slots⟩
theorem GenO.cell {go : Obj} {g : Nat} (h : GenO go g) : ∀ v, go.data ≠ .cell v := fun v q => by
  obtain ⟨nm, qn, e⟩ := h.data
  rw [e] at q
  cases q
theorem over_loop {A : Around} {elt target iter : Expr} {ifs : List Expr} {scope : Scope} {pos : Pos} {it acc : Value} {env : Env} :
    A.over (.compLoop (.GeneratorExp elt [⟨target, iter, ifs, 0⟩] scope pos) 0 it acc env) [] = A.deeper env := by
  first
    | rfl
    | (obtain ⟨hd, d, fr, gs, u⟩ := A; simp [Around.over, Around.deeper, marksOver, frameCount, unitsOf, envsOf, guardsOf, pushEnvs, pushGuards, Code.envs, Code.env?, Code.isFrame, Code.guards, Code.isGuard, Code.weight, Code.frames, Code.isCreation, Code.isCaller, Code.cUnits])
theorem over_start {A : Around} {elt target iter : Expr} {ifs : List Expr} {scope : Scope} {pos : Pos} {it acc : Value} {env : Env} :
    A.over (.compStart (.GeneratorExp elt [⟨target, iter, ifs, 0⟩] scope pos) 0 it acc env) [] = A.deeper env := by
  first
    | rfl
    | (obtain ⟨hd, d, fr, gs, u⟩ := A; simp [Around.over, Around.deeper, marksOver, frameCount, unitsOf, envsOf, guardsOf, pushEnvs, pushGuards, Code.envs, Code.env?, Code.isFrame, Code.guards, Code.isGuard, Code.weight, Code.frames, Code.isCreation, Code.isCaller, Code.cUnits])
end GX

set_option Elab.async false
set_option linter.all false
set_option maxRecDepth 100000
set_option maxHeartbeats 4000000
namespace GX
open PySem PySem.Spec PyProof.Rows L2 GenW

/-- the turns of a generator expression: W by the turn, a measure, what is out, the heap; mid is asked at each item that goes out, fin at the end -/
def tTurns (J : It) (g : TG) (tt : TT) (te : TE) (vs : List Nat) (σ : L2.St) (mid : List V → V → Hp → Prop) (fin : List V → Hp → Prop) (W : Nat → Nat → List V → Hp → Prop) : Prop := ∀ i m ys H, W i m ys H →
  (J.stop i H ∧ fin ys H) ∨ (J.go i H ∧ ∃ Nx : List V → Hp → Prop, (∀ ys' H', Nx ys' H' → ∃ m', m' < m ∧ W (i + 1) m' ys' H') ∧ ∀ x H', J.yld i H x H' → g x (wipe σ vs) H' fun σ2 H2 => wipe σ2 vs = wipe σ vs ∧ tt σ2 H2 fun b H3 =>
    if b = true then te σ2 H3 fun y H4 => ys.length < sizeLine ∧ mid ys y H4 ∧ Nx (ys ++ [y]) H4 else Nx ys H3)

section
variable {Z : Cx} {A : Around} {S a : Addr} {gi : Nat} {go : Obj} {Lk : List V → Obj → Prop} {mid : List V → V → Hp → Prop} {fin : List V → Hp → Prop} {J : It} {it : Addr} {tn : Nat → Heap → Prop} {W : Nat → Nat → List V → Hp → Prop}
  {elt tg iter : Expr} {ifs : List Expr} {scope : Scope} {pos : Pos} {g : TG} {tt : TT} {te : TE} {vs : List Nat} {σ : L2.St}

theorem stat {pins : List (Addr × Obj)} {σ' : L2.St} {H' : Hp} {s' : Shared} (hp : ∀ p ∈ Z.pn ++ pins, ∀ b ∈ Z.ex, p.1 ≠ b) (I : Inv Z pins σ' H' s') (hn : ∀ b ∈ Z.ex, H' b = none) : ∀ b ∈ Z.ex, FpOk Z pins H' b := fun b hb =>
  ⟨hn b hb, (I.ok.exf b hb).1, I.ok.exfs b hb, .inl hb, fun x c e => (I.ok.exf b hb).2 x c e, fun p q => hp p q b hb⟩

theorem seg_gloop (hA : Z.A = A.deeper Z.env) (hx : ∀ e s, ¬ Z.xe e s) (hc : Z.calm = true) (hpn : Z.pn = [(a, go)]) (hgo : GenO go gi) (hco : Z.env.scope.isCoroutine = false)
    (hS : Z.s_0.heap.objs.size ≤ S) (hcS : ∀ x c, Z.env.cells.lookup x = some c → c ≠ S) (hfS : ∀ b ∈ Z.ex, b ≠ S) (hfa : ∀ b ∈ Z.ex, b ≠ a) (hLa : S = a → ∀ ys o, Lk ys o → o = go)
    (T : Turn Z.prog Z.w Z.K tg J Z.ex it tn) (pg : PG Z tg g) (pt : PTs Z ifs tt) (pe : PE Z elt te) (turn : tTurns J g tt te vs σ mid fin W) :
    ∀ (m i : Nat) (ys : List V) (H' : Hp) (n : Nat) (s₀ s : Shared) (o : Obj), s₀.heap.get? S = some o → W i m ys H' → n + ys.length = sizeLine → Inv Z [(S, o)] (wipe σ vs) H' s → Lk ys o → tn i s.heap → (∀ b ∈ Z.ex, H' b = none) →
      Seg (model Z.prog Z.w) A (RG Z.prog Z.w Z.fs Z.ex Z.H_0 Z.s_0 S a gi Lk fin) (YG Z.prog Z.w Z.fs Z.ex Z.H_0 Z.s_0 S a gi Lk mid) n s₀
        (.compLoop (.GeneratorExp elt [⟨tg, iter, ifs, 0⟩] scope pos) 0 (.ref it) .none Z.env) ((model Z.prog Z.w).den (.compLoop (.GeneratorExp elt [⟨tg, iter, ifs, 0⟩] scope pos) 0 (.ref it) .none Z.env)) [] s := by
  have ov : A.over (.compLoop (.GeneratorExp elt [⟨tg, iter, ifs, 0⟩] scope pos) 0 (.ref it) .none Z.env) [] = Z.A := over_loop.trans hA.symm
  have pins : ∀ (o : Obj), ∀ p ∈ Z.pn ++ [(S, o)], ∀ b ∈ Z.ex, p.1 ≠ b := fun o p hp b hb => by
    rcases List.mem_append.mp hp with hp | hp
    · rw [hpn] at hp
      rw [List.mem_singleton.mp hp]
      exact Ne.symm (hfa b hb)
    · rw [List.mem_singleton.mp hp]
      exact Ne.symm (hfS b hb)
  have isg : ∀ {ip : List (Addr × Obj)} {σ' : L2.St} {H' : Hp} {s' : Shared}, Inv Z ip σ' H' s' → s'.heap.IsGen a gi := fun {ip σ' H' s'} I => hgo.is (I.pin (a, go) (List.mem_append_left _ (by rw [hpn]; exact List.mem_singleton.mpr rfl))).1
  have nox : ∀ {n : Nat} {s₀ : Shared} {t : Value → Sem PySem.Fin} {c : Code}, ∀ (x : Value) (s' : Shared), Z.xe x s' → Seg (model Z.prog Z.w) A (RG Z.prog Z.w Z.fs Z.ex Z.H_0 Z.s_0 S a gi Lk fin) (YG Z.prog Z.w Z.fs Z.ex Z.H_0 Z.s_0 S a gi Lk mid) n s₀ c (t x) [] s' := fun x s' h => absurd h (hx x s')
  intro m
  induction m using Nat.strongRecOn with
  | ind m ih =>
    intro i ys H5 n s₀ s5 o e0 w5 hn I5 hL st5 n5
    show Seg _ A _ _ n s₀ _ ((compTurn (.GeneratorExp elt [⟨tg, iter, ifs, 0⟩] scope pos) 0 (.ref it) .none Z.env).onRaise (leaving Z.env)) [] s5
    rw [compTurn_gen, Sem.onRaise_eq_wrap]
    refine seg_bind_wrap (wpAny_standAt ?_)
    rcases turn i m ys H5 w5 with ⟨stop, qq⟩ | ⟨go', Nx, hNx, step⟩
    · have td := T.done Z rfl rfl rfl hc i [(S, o)] s5 _ H5 (fun _ _ => False) I5 (stat (pins o) I5 n5) st5 stop
      refine seg_bind_wrap ?_
      rw [ov]
      refine thnF td fun r s6 ⟨hr, I6⟩ => ?_
      subst hr
      obtain ⟨eS, hS0, _⟩ := I6.pin (S, o) (List.mem_append_right _ (List.mem_singleton.mpr rfl))
      exact seg_end (.ok .next) (.inl ⟨.inr rfl, ys, H5, o, e0, by omega, I6.os, I6.bare, isg I6, I6.base, I6.hok, hS0, eS, hL, qq⟩)
    · have ti := T.item Z rfl rfl rfl hc i [(S, o)] s5 _ H5 (fun _ _ => False) I5 (stat (pins o) I5 n5) st5 go'
      refine seg_bind_wrap ?_
      rw [ov]
      refine thnF ti fun r s6 ⟨u, hr, h6⟩ => ?_
      subst hr
      refine seg_bind_wrap ?_
      rw [ov]
      refine thnF h6 fun _ s7 ⟨x, H7, I7, r7, y7, st7, n7⟩ => ?_
      have I7' := I7.pinned (stat (pins o) I7 n7) (T.obj _ _ st7)
      refine seg_bind_wrap ?_
      rw [ov]
      refine wpAny_mono (pg.run _ s7 _ H7 x u _ I7' r7 (step x H7 y7)) (fun _ s8 ⟨σ8, H8, I8, hw8, q8⟩ => ?_) (fun e s' he => absurd he (hx e s'))
      refine seg_bind_wrap ?_
      rw [ov]
      refine wpAny_mono (pt.run _ s8 σ8 H8 _ I8 q8) (fun b s9 ⟨H9, I9, q9⟩ => ?_) (fun e s' he => absurd he (hx e s'))
      have hl : (wipe σ vs).length = σ8.length := by rw [← hw8, wipe_length]
      have fin : ∀ {s' : Shared} {H' : Hp} {o' : Obj} {ys' : List V} {n' : Nat} {s₀' : Shared}, s₀'.heap.get? S = some o' → Inv Z ((S, o') :: pinsAt Z.ex s7.heap) σ8 H' s' → Lk ys' o' → n' + ys'.length = sizeLine → Nx ys' H' →
          Seg (model Z.prog Z.w) A (RG Z.prog Z.w Z.fs Z.ex Z.H_0 Z.s_0 S a gi Lk fin) (YG Z.prog Z.w Z.fs Z.ex Z.H_0 Z.s_0 S a gi Lk mid) n' s₀' (.compLoop (.GeneratorExp elt [⟨tg, iter, ifs, 0⟩] scope pos) 0 (.ref it) .none Z.env)
            (.pure (.again (.compLoop (.GeneratorExp elt [⟨tg, iter, ifs, 0⟩] scope pos) 0 (.ref it) .none Z.env))) [] s' := fun {s' H' o' ys' n' s₀'} e0' I' hL' hn' nx => by
        obtain ⟨m', hm, w'⟩ := hNx ys' H' nx
        have pin' : ∀ b ∈ Z.ex, ∀ o, s7.heap.get? b = some o → s'.heap.get? b = some o ∧ H' b = none := fun b hb o e =>
          let z := I'.pin (b, o) (List.mem_append_right _ (List.mem_cons_of_mem _ (mem_pinsAt hb e)))
          ⟨z.1, z.2.1⟩
        have I2 : Inv Z [(S, o')] σ8 H' s' := I'.pins_of fun p hp => I'.pin p (List.mem_append_right _ (by rw [List.mem_singleton.mp hp]; exact List.mem_cons_self))
        refine seg_again rfl (ih m' hm (i + 1) ys' H' n' s₀' s' o' e0' w' hn' (I2.weak hl fun j v e => ?_) hL' (T.keep _ _ _ st7 fun b hb o e => (pin' b hb o e).1) fun b hb => ?_)
        · rw [← hw8] at e
          exact (wipe_some e).1
        · obtain ⟨o, e, _⟩ := T.obj _ _ st7 b hb
          exact (pin' b hb o e).2
      cases b with
      | false =>
        simp only [Bool.false_eq_true, if_false] at q9 ⊢
        exact fin e0 I9 hL hn q9
      | true =>
        simp only [if_true] at q9 ⊢
        have hy : ∀ v, yieldOut Z.env v = yieldValue v := fun v => by simp only [yieldOut, hco, Bool.false_eq_true, if_false]
        simp only [hy]
        rw [Sem.bind_eq_wrap', Sem.bind_eq_wrap', Sem.wrap_wrap, Sem.wrap_wrap]
        refine seg_wrap ?_
        rw [ov]
        refine wpAny_mono (pe.run _ s9 σ8 H9 _ I9 q9) (fun z s10 ⟨yv, H10, I10, r10, hlt, hmid, nx⟩ => ?_) (fun e s' he => absurd he (hx e s'))
        obtain ⟨n, rfl⟩ : ∃ k, n = k + 1 := ⟨n - 1, by omega⟩
        obtain ⟨eS, hS0, _⟩ := I10.pin (S, o) (List.mem_append_right _ List.mem_cons_self)
        refine seg_at (seg_yield rfl rfl rfl ⟨ys, yv, H10, o, e0, by omega, I10.os, I10.bare, I10.nolimit, isg I10, I10.base, I10.hok, hS0, eS, hL, r10, hmid, fun s'' hz => ?_⟩)
        obtain ⟨o', hL', I11⟩ := inv_slept (ip := pinsAt Z.ex s7.heap) I10 hS hcS (fun p hp => hfS _ (of_pinsAt hp).1) (by
          by_cases e : S = a
          · exact .inr fun o' h' => by rw [hLa e _ _ h', hLa e _ _ hL]
          · refine .inl fun p hp => ?_
            rw [hpn] at hp
            rw [List.mem_singleton.mp hp]
            exact fun q => e q.symm) hz
        exact fin (I11.pin (S, o') (List.mem_append_right _ List.mem_cons_self)).1 I11 hL' (by rw [List.length_append, List.length_singleton]; omega) nx
end
end GX

set_option Elab.async false
set_option linter.all false
set_option maxRecDepth 100000
set_option maxHeartbeats 4000000
namespace GX
open PySem PySem.Spec PyProof.Rows L2 GenW
open GxR (TabB TabG Tabbed inv_tab)

/-- what the making of a generator leaves: it has not begun; woken by a consumer whose own object stands at S, it hands out what the turns say -/
def Made (X : Cx) (H : Hp) (s : Shared) (fp : List Addr) (k : Nat) (mid : List V → V → Hp → Prop) (fin : List V → Hp → Prop) (u : Value) (s' : Shared) : Prop :=
  ∃ (a : Addr) (gi : Nat) (go : Obj) (c : Code), u = .ref a ∧ s.heap.objs.size < a ∧ a < s'.heap.objs.size ∧ GenO go gi ∧ s'.heap.get? a = some go ∧ s'.gens[gi]? = some (.fresh c) ∧ s'.os = s.os ∧ AllBare s'.gens ∧ s'.heap.NoLimit ∧
    (∀ b o, s.heap.get? b = some o → s'.heap.get? b = some o) ∧
    ∀ (A : Around) (S : Addr) (Lk : List V → Obj → Prop) (s2 : Shared) (o : Obj), Room (k + 1) A → A.frames = some X.stack → s.heap.objs.size < S → (S = a → ∀ ys o, Lk ys o → o = go) → (∀ b o, b ≠ S → s'.heap.get? b = some o → s2.heap.get? b = some o) →
      s2.heap.get? S = some o → Lk [] o → (∀ v, o.data ≠ .cell v) → s2.os = s.os → AllBare s2.gens →
      Seg (model X.prog X.w) A (RG X.prog X.w (frs X.stack) fp H s S a gi Lk fin) (YG X.prog X.w (frs X.stack) fp H s S a gi Lk mid) sizeLine s2 c ((model X.prog X.w).den c) [] s2

/-- the reading of a generator expression: mid of each item, fin of the end -/
def tGen (P : Addr) (wi : TI) (g : TG) (tt : TT) (te : TE) (vs : List Nat) (mid : List V → V → Hp → Prop) (fin : List V → Hp → Prop) : L2.St → Hp → Prop := fun σ H => wi σ H fun J H1 => TabG H1 P ∧ ∀ H2, Tabbed P H1 H2 →
  ∃ W : Nat → Nat → List V → Hp → Prop, (∃ m, W 0 m [] H2) ∧ tTurns J g tt te vs σ mid fin W

section
variable {X : Cx} {pins : List (Addr × Obj)} {σ : L2.St} {H : Hp} {s : Shared}
theorem gen_made {c P : Addr} {elt tg iter : Expr} {ifs : List Expr} {scope : Scope} {gpos : Pos} {own : List (Str × Nat)} {wi : TI} {g : TG} {tt : TT} {te : TE} {k : Nat} {mid : List V → V → Hp → Prop} {fin : List V → Hp → Prop} {Q' : Value → Shared → Prop}
    (hr : Room (k + 1) X.A) (hN : X.N.Nodup) (TB : TabB X.base X.mg c P) (hcode : X.env.code = .ref c) (G : GSc X.N X.env.scope scope own) (hi : PI X tg iter wi)
    (hg : ∀ (A : Around) (s : Shared) (H : Hp) (code : Value) (fp : List Addr) (pn : List (Addr × Obj)), PG (gctx X A s H (gEnv X scope s.heap.objs.size code) fp pn) tg g)
    (ht : ∀ (A : Around) (s : Shared) (H : Hp) (code : Value) (fp : List Addr) (pn : List (Addr × Obj)), Room k (A.deeper (gEnv X scope s.heap.objs.size code)) → PTs (gctx X A s H (gEnv X scope s.heap.objs.size code) fp pn) ifs tt)
    (he : ∀ (A : Around) (s : Shared) (H : Hp) (code : Value) (fp : List Addr) (pn : List (Addr × Obj)), Room k (A.deeper (gEnv X scope s.heap.objs.size code)) → PE (gctx X A s H (gEnv X scope s.heap.objs.size code) fp pn) elt te)
    (hs : ∀ v, genFold iter X.env v = pure v) (I : Inv X pins σ H s) (h : tGen P wi g tt te (own.map (·.2)) mid fin σ H)
    (hQ : ∀ H2 s4 fp u s', Inv X pins σ H2 s4 → (∀ b ∈ fp, FpOk X pins H2 b) → Made X H2 s4 fp k mid fin u s' → Q' u s') :
    wpAny (model X.prog X.w) X.A (eval (.GeneratorExp elt [⟨tg, iter, ifs, 0⟩] scope gpos) X.env) Q' X.xe s := by
  refine wpAny_GeneratorExp_make G.co (closure_ok (free_has G I.ok)) G.cell G.dot G.kind hr.depth ?_ hs
  refine thn (hi.run pins s σ H _ I h) fun xv s1 hx => thn hx fun itv s2 h2 => ?_
  obtain ⟨it, fp, tn, J, H1, e, I1, T, st1, f1, ⟨ps, hP, htr⟩, q⟩ := h2
  subst e
  have nP : ∀ b ∈ fp, b ≠ P := fun b hb z => by
    have q := (f1 b hb).1
    rw [z, hP] at q
    cases q
  have cd : PySem.W.CodeHd s2.heap c P := TB.code.keeps I1.bk
  have hPs : s2.heap.get? P = some { cls := .none, data := .fields ps } := I1.hok P _ hP
  -- behind the code object's making
  have cont : ∀ (code : Value) (s3 : Shared) (H3 : Hp), Inv X pins σ H3 s3 → Tabbed P H1 H3 → (∀ b o, b ≠ P → s2.heap.get? b = some o → s3.heap.get? b = some o) →
      wpAny (model X.prog X.w) X.A (builtinsFor X.env.globals X.env.builtins) (fun bi s₄ => ∀ h', h'.Ns s₄.heap.objs.size (fun y => if y = ".0" then some (.ref it) else none) → Heap.SameBut s₄.heap.objs.size (s₄.heap.push { cls := .type "frame", data := .dict #[] }) h' →
          Q' (.ref h'.objs.size) { s₄ with
            gens := s₄.gens.push (.fresh (.compStart (.GeneratorExp elt [⟨tg, iter, ifs, 0⟩] scope gpos) 0 (.ref it) .none (genEnv scope (cloFrom X.env.cells scope.names []) s₄.heap.objs.size code bi X.env))),
            toks := s₄.toks + 1 + 1 + 1,
            heap := h'.push { cls := .type "generator", data := .fields #[.int s₄.gens.size 0, .str "<genexpr>" (s₄.toks + 1), .str (X.env.qual ++ "<genexpr>") (s₄.toks + 1 + 1)] } }) X.xe s3 := by
    intro code s3 H3 I3 hT kp3
    obtain ⟨bm, ob, e1, e2, e3, e4, e5, e6, e7, e8⟩ := TB.bm
    refine wpAny_builtinsFor (m := X.mg) (by rw [I3.ok.glob]; exact I3.mod.glob.keeps I3.bk) e1 e2 (I3.bk _ _ e5) e6 e7 e8 ?_
    intro h' hn' hs'
    have hsz : h'.objs.size = s3.heap.objs.size + 1 := by rw [hs'.1, Heap.size_push]
    have kp' : ∀ b o, s3.heap.get? b = some o → h'.get? b = some o := fun b o e => hs'.extBut b o (Nat.ne_of_lt (Heap.lt_size e)) (Heap.get?_push_of_some _ e)
    have f3 : ∀ b ∈ fp, FpOk X pins H3 b := fun b hb => ⟨by rw [hT.2 b (nP b hb)]; exact (f1 b hb).1, (f1 b hb).2⟩
    have st3 : tn 0 s3.heap := T.keep _ _ _ st1 fun b hb o e => kp3 b o (nP b hb) e
    have flt : ∀ b ∈ fp, b < s3.heap.objs.size := fun b hb => by
      obtain ⟨o, e, _⟩ := T.obj _ _ st3 b hb
      exact Heap.lt_size e
    refine hQ H3 s3 fp _ _ I3 f3 ⟨h'.objs.size, s3.gens.size, _, _, rfl, by omega, by rw [Heap.size_push]; exact Nat.lt_succ_self _, ⟨rfl, ⟨_, _, rfl⟩, rfl⟩, Heap.get?_push_size _ rfl, Array.getElem?_push_size .., rfl, I3.bare.push rfl, (I3.nolimit.keeps kp').push _, fun b o e => Heap.get?_push_of_some _ (kp' b o e), ?_⟩
    intro A S Lk s5 o hrA hfr hS hLa hk5 hSo hL0 hSc hos hba
    have k5 : ∀ b o, s3.heap.get? b = some o → s5.heap.get? b = some o := fun b o e => hk5 b o (Nat.ne_of_lt (Nat.lt_trans (Heap.lt_size e) hS)) (Heap.get?_push_of_some _ (kp' b o e))
    have hn5 : s5.heap.Ns s3.heap.objs.size fun y => if y = ".0" then some (.ref it) else none := by
      refine (hn'.push _).at' fun o e => hk5 _ o (Nat.ne_of_lt hS) e
    have ha5 : ∃ go : Obj, s5.heap.get? h'.objs.size = some go ∧ go = { cls := .type "generator", data := .fields #[.int s3.gens.size 0, .str "<genexpr>" (s3.toks + 1), .str (X.env.qual ++ "<genexpr>") (s3.toks + 1 + 1)] } := by
      by_cases z : S = h'.objs.size
      · exact ⟨o, by rw [← z]; exact hSo, hLa z _ _ hL0⟩
      · exact ⟨_, hk5 _ _ (Ne.symm z) (Heap.get?_push_size _ rfl), rfl⟩
    obtain ⟨go, hgo5, ego⟩ := ha5
    have hgoO : GenO go s3.gens.size := by rw [ego]; exact ⟨rfl, ⟨_, _, rfl⟩, rfl⟩
    have IZ := gen_start (pn := [(h'.objs.size, go)]) (ip := [(S, o)]) (code := code) I3 G hN (fun b hb => ⟨f3 b hb, flt b hb⟩) hrA.hd hfr hos hba k5 hn5 fun p hp => by
      rcases List.mem_append.mp hp with hp | hp
      · rw [List.mem_singleton.mp hp]
        exact ⟨hgo5, by show s3.heap.objs.size < h'.objs.size; omega, hgoO.cell⟩
      · rw [List.mem_singleton.mp hp]
        exact ⟨hSo, hS, hSc⟩
    obtain ⟨W, ⟨m0, w0⟩, turn⟩ := q H3 hT
    have hcS : ∀ x c, (gEnv X scope s3.heap.objs.size code).cells.lookup x = some c → c ≠ S := fun x c e z => by
      obtain ⟨v, ob, ho, _⟩ := IZ.cell x c e
      rcases cloFrom_mem (PySem.mem_of_lookup e) with hm | ⟨h1, h2⟩
      · cases hm
      · obtain ⟨c1, hc⟩ := free_has G I3.ok _ h1 rfl
        have hc : X.env.cells.lookup x = some c1 := hc
        have e2 : c = c1 := by
          rw [h2, hc] <;> rfl
        obtain ⟨v1, z1⟩ := I3.cell x c1 hc
        rw [← e2, z] at z1
        exact absurd (Nat.lt_trans z1.lt hS) (Nat.lt_irrefl _)
    have loop := seg_gloop (Z := gctx X A s3 H3 (gEnv X scope s3.heap.objs.size code) fp [(h'.objs.size, go)]) (A := A) (S := S) (a := h'.objs.size) (gi := s3.gens.size) (go := go) (Lk := Lk) (mid := mid) (fin := fin) (iter := iter) (scope := scope) (pos := gpos)
      rfl (fun _ _ z => z) rfl rfl hgoO G.co (Nat.le_of_lt hS) hcS (fun b hb => Nat.ne_of_lt (Nat.lt_trans (flt b hb) hS)) (fun b hb => Nat.ne_of_lt (by rw [hsz]; exact Nat.lt_succ_of_lt (flt b hb)))
      (fun z ys o' hl => by rw [ego]; exact hLa z ys o' hl) T (hg A s3 H3 code fp _) (ht A s3 H3 code fp _ (hrA.deeper _)) (he A s3 H3 code fp _ (hrA.deeper _)) turn m0 0 [] H3 sizeLine s5 s5 o hSo w0 (Nat.add_zero _) IZ hL0 (T.keep _ _ _ st3 fun b _ o e => k5 b o e) fun b hb => (f3 b hb).1
    have ov : A.over (.compStart (.GeneratorExp elt [⟨tg, iter, ifs, 0⟩] scope gpos) 0 (.ref it) .none (gEnv X scope s3.heap.objs.size code)) [] = A.deeper (gEnv X scope s3.heap.objs.size code) := over_start
    show Seg _ A _ _ _ s5 _ ((compStart (.GeneratorExp elt [⟨tg, iter, ifs, 0⟩] scope gpos) 0 (.ref it) .none (gEnv X scope s3.heap.objs.size code)).onRaise (leaving (gEnv X scope s3.heap.objs.size code))) [] s5
    unfold compStart
    rw [Sem.onRaise_eq_wrap]
    show Seg _ A _ _ _ s5 _ ((ask >>= _).wrap _ _ _ _) [] s5
    refine seg_bind_wrap (wpAny_askSetting ?_)
    have st5 : tn 0 s5.heap := T.keep _ _ _ st3 fun b _ o e => k5 b o e
    split
    · exact seg_again rfl loop
    · first
        | exact seg_bind_wrap (wpAny_rule (seg_bind_wrap (wpAny_standAt (seg_bind_wrap (T.self _ 0 s5 _ _ st5 (seg_again rfl loop))))))
        | (refine seg_bind_wrap (wpAny_rule ?_); show Seg _ A _ _ _ s5 _ ((standAt iter.pos >>= _).wrap _ _ _ _) [] s5; exact seg_bind_wrap (wpAny_standAt (seg_bind_wrap (T.self _ 0 s5 _ _ st5 (seg_again rfl loop)))))
  refine ⟨I1.nolimit, ?_⟩
  cases hf : codeAmong gpos ps.toList with
  | none =>
    refine wpAny_genexprCodeX hcode (cd.code hPs htr) (cd.tab hPs) hf fun c' h' tk hx hge hlt hco' _ htab' _ => ?_
    obtain ⟨o1, vs, f1', tf, fl, tg', inF, tx, tt', op, _, _, _, _, _, _, _, _, _, htr', _⟩ := hco'
    have J1 := inv_tab (g' := s2.gens) (d' := s2.drawn) (t' := tk) I1 hP (fun b o hb e => hx b o hb e) htab'.2 I1.bare
    exact cont _ _ _ J1 ⟨⟨_, upd_same, htr'⟩, fun b hb => upd_ne hb⟩ fun b o hb e => hx b o hb e
  | some cv =>
    refine wpAny_genexprCode_hit hcode (cd.code hPs htr) hf ?_
    exact cont cv s2 H1 I1 ⟨⟨ps, hP, htr⟩, fun _ _ => rfl⟩ fun b o _ e => e
end
end GX

set_option Elab.async false
set_option linter.all false
set_option maxRecDepth 100000
set_option maxHeartbeats 4000000
namespace GX
open PySem PySem.Spec PyProof.Rows L2 GenW
open GxR (TabB TabG Tabbed inv_tab)

section
variable {P : Program} {w : World} {fs fp : List Addr} {H : Hp} {s₄ : Shared} {S a : Addr} {gi : Nat} {Lk : List V → Obj → Prop} {mid : List V → V → Hp → Prop} {fin : List V → Hp → Prop}
/-- ready to be woken, n items at most are still to come -/
structure Live (P : Program) (w : World) (fs fp : List Addr) (H : Hp) (s₄ : Shared) (S a : Addr) (gi : Nat) (Lk : List V → Obj → Prop) (mid : List V → V → Hp → Prop) (fin : List V → Hp → Prop) (A : Around) (n : Nat) (s : Shared) : Prop where
  gen : s.heap.IsGen a gi
  lim : s.heap.NoLimit
  go : ∃ gs, s.gens[gi]? = some gs ∧ gs.Goes (model P w) A (RG P w fs fp H s₄ S a gi Lk fin) (YG P w fs fp H s₄ S a gi Lk mid) n (.send .none) (s.setGen gi .running)
/-- the state is as it was, H' is held -/
structure Bk (P : Program) (w : World) (fs fp : List Addr) (H : Hp) (s₄ : Shared) (H' : Hp) (s' : Shared) : Prop where
  os : s'.os = s₄.os
  bare : AllBare s'.gens
  un : Un fs fp H H' s₄.heap s'.heap
  ok : HOk P w H' s'.heap
theorem Bk.kept {H' : Hp} {s' s'' : Shared} (b : Bk P w fs fp H s₄ H' s') (ho : s''.os = s'.os) (hb : AllBare s''.gens) (k : ∀ b o, s'.heap.get? b = some o → s''.heap.get? b = some o) : Bk P w fs fp H s₄ H' s'' :=
  ⟨ho.trans b.os, hb, b.un.trans (Un.kept k), b.ok.kept k⟩
/-- .. the object at S written, which H' does not know -/
theorem Bk.sl {H' : Hp} {s' s'' : Shared} (b : Bk P w fs fp H s₄ H' s') (hS : s₄.heap.objs.size ≤ S) (hn : H' S = none) (ho : s''.os = s'.os) (hb : AllBare s''.gens) (k : ∀ b o, b ≠ S → s'.heap.get? b = some o → s''.heap.get? b = some o) (hs : ∃ o, s''.heap.get? S = some o) : Bk P w fs fp H s₄ H' s'' := by
  have lt : ∀ c o, s₄.heap.get? c = some o → c ≠ S := fun c o e => Nat.ne_of_lt (Nat.lt_of_lt_of_le (Heap.lt_size e) hS)
  have nt : ∀ c u, H' c = some u → c ≠ S := fun c u e z => by rw [z, hn] at e; cases e
  refine ⟨ho.trans b.os, hb, ⟨fun c o e n h1 h2 => k c o (lt c o e) (b.un.keep c o e n h1 h2), fun c o e n h1 h2 => ?_, b.un.free, fun c o e h1 => ?_, b.un.tups, b.un.frzs, b.un.tbls⟩, fun c u e => ?_⟩
  · obtain ⟨sl, q⟩ := b.un.slot c o e n h1 h2
    exact ⟨sl, k c _ (lt c o e) q⟩
  · obtain ⟨o', q⟩ := b.un.there c o e h1
    exact ⟨o', k c _ (lt c o e) q⟩
  · refine (b.ok c u e).stay (fun d v hd q => k d v ?_ q) (fun _ q => q) fun _ _ q => q
    rcases hd with z | z
    · rw [z]; exact nt c u e
    · exact nt d _ z

theorem live_next {A : Around} {n : Nat} {s : Shared} {Q : Option Value → Shared → Prop} {E : Value → Shared → Prop} (L : Live P w fs fp H s₄ S a gi Lk mid fin A.in1 n s) (hh : A.handled = none) (hd : A.depth < recursionLimit)
    (hitem : ∀ v s1 ys x H' o, ys.length < sizeLine → s.heap.get? S = some o → Bk P w fs fp H s₄ H' s1 → H' S = none → s1.heap.get? S = some o → Lk ys o → RelV x v → mid ys x H' →
      (∀ s2 : Shared, s2.os = s1.os → s2.gens = s1.gens → (∀ b o, b ≠ S → s1.heap.get? b = some o → s2.heap.get? b = some o) → (∃ o, s2.heap.get? S = some o ∧ Lk (ys ++ [x]) o ∧ ∀ v, o.data ≠ .cell v) → s2.heap.IsGen a gi → s2.heap.NoLimit →
        ∃ m, n = m + 1 ∧ Live P w fs fp H s₄ S a gi Lk mid fin A.in1 m s2) → s1.heap.IsGen a gi → s1.heap.NoLimit → Q (some v) s1)
    (hend : ∀ s1 ys H' o, s.heap.get? S = some o → Bk P w fs fp H s₄ H' s1 → H' S = none → s1.heap.get? S = some o → Lk ys o → fin ys H' → ys.length ≤ sizeLine → Q none s1) : wpAny (model P w) A (pyNext (.ref a)) Q E s := by
  obtain ⟨hg, hl, gs, hgs, hgo⟩ := L
  have hgl : gi < s.gens.size := (Array.getElem?_eq_some_iff.mp hgs).1
  refine wpAny_gsz (n := gi + 1) hgl (next_genG (F := fun _ s₀ s1 => FG P w fs fp H s₄ S a gi Lk fin s₀ s1) (Er := fun _ _ => False) hh hl hd hg hgs hgo (fun v s₁ gs' hbare hv => ?_) (fun s₁ hp h' hk => ?_) fun e s₁ he => he.elim)
  · intro hsz
    obtain ⟨ys, x, H', o, e0, hn, os1, hb1, hl1, hg1, un, hok, hS0, eS, hL, rv, hm, kap⟩ := hv
    have hsz1 : gi < s₁.gens.size := by
      have q : (s₁.setGen gi gs').gens.size = s₁.gens.size := setGen_size _ _ _
      have hsz' : gi + 1 ≤ (s₁.setGen gi gs').gens.size := hsz
      omega
    have hb2 : AllBare (s₁.setGen gi gs').gens := allBare_setGen hb1 hbare
    refine hitem v (s₁.setGen gi gs') ys x H' o (by omega) e0 ⟨os1, hb2, un, hok⟩ hS0 eS hL rv hm (fun s2 o2 g2 k2 w2 ig2 nl2 => ?_) hg1 hl1
    have hg2 : s2.gens[gi]? = some gs' := by rw [g2]; exact setGen_at hsz1
    have z := kap (s2.setGen gi .running) ⟨o2, allBare_setGen (s := s2) (by rw [g2]; exact hb2) rfl, k2, w2⟩
    cases n with
    | zero => exact z.elim
    | succ m => exact ⟨m, rfl, ig2, nl2, gs', hg2, z⟩
  · intro hsz
    obtain ⟨ys, H', o, e0, hle, os1, hb1, hg1, un, hok, hS0, eS, hL, hf⟩ := hp
    exact hend _ ys H' o e0 ⟨os1, allBare_setGen hb1 rfl, un.trans (Un.kept hk), hok.kept hk⟩ hS0 (hk _ _ eS) hL hf hle

/-! ### any -/
def LkAny (go : Obj) : List V → Obj → Prop := fun ys o => o = go ∧ ∀ y ∈ ys, y = V.bl false
theorem loop_any {go : Obj} {A : Around} {R : Result → Shared → Prop} {K : Bool → Hp → Prop} (hh : A.handled = none) (hd : A.depth + 1 < recursionLimit) (hgo : GenO go gi)
    (hmid : ∀ ys x H', (∀ y ∈ ys, y = V.bl false) → mid ys x H' → ∃ b, x = .bl b ∧ (b = true → K true H')) (hfin : ∀ ys H', (∀ y ∈ ys, y = V.bl false) → fin ys H' → K false H')
    (hR : ∀ b H' s', Bk P w fs fp H s₄ H' s' → K b H' → R (.ok (.ret (.bool b))) s') :
    ∀ (n : Nat) (s : Shared), Live P w fs fp H s₄ a a gi (LkAny go) mid fin A.in1.in1 n s → codeAny (model P w) A (.builtin "any.loop" ⟨[.ref a], []⟩) R s := by
  intro n
  induction n using Nat.strongRecOn with
  | ind n ih =>
    intro s L
    refine codeAny_builtin F.entry_any_loop ?_
    rw [Around.under_plainId F.plain_any_loop _]
    show wpAny _ A.in1 (pyNext (.ref a) >>= _) _ _ s
    refine wpAny_bind (live_next (A := A.in1) L hh (by show A.depth < _; omega) (fun v s1 ys x H' o hlt e0 bk hS0 eS hL rv hm next ig nl => ?_) fun s1 ys H' o e0 bk hS0 eS hL hf hle => ?_)
    · obtain ⟨b, rfl, hb⟩ := hmid ys x H' hL.2 hm
      obtain rfl : v = Value.bool b := rv
      refine wpAny_bind (wpAny_holding (wpAny_truthy_bool ?_))
      refine wpAny_bind (wpAny_letGo ?_)
      cases b with
      | false =>
        simp only [Bool.false_eq_true, if_false]
        obtain ⟨m, e, L'⟩ := next s1 rfl rfl (fun _ _ _ e => e) ⟨o, eS, ⟨hL.1, fun y hy => by
          rcases List.mem_append.mp hy with hy | hy
          · exact hL.2 y hy
          · exact List.mem_singleton.mp hy⟩, by rw [hL.1]; exact hgo.cell⟩ ig nl
        exact wpAny_pure ⟨plainId_quiet F.plain_any_loop _, ih m (by omega) s1 L'⟩
      | true =>
        simp only [if_true]
        exact wpAny_bind (wpAny_rule (wpAny_pure (hR true H' s1 bk (hb rfl))))
    · exact wpAny_bind (wpAny_rule (wpAny_pure (hR false H' s1 bk (hfin ys H' hL.2 hf))))

/-! ### sum -/
abbrev seqO (xs : Array Value) (c : Nat) : Obj := { cls := .type "list", dict := none, data := .seq xs c, slots := #[] }
def LkSum : List V → Obj → Prop := fun ys o => ∃ (ns : List Int) (t : Tok) (c : Nat), ys = ns.map V.int ∧ o = seqO #[.int ns.sum t] c
theorem loop_sum {A : Around} {R : Result → Shared → Prop} {K : Int → Hp → Prop} (hh : A.handled = none) (hd : A.depth + 1 < recursionLimit) (hS : s₄.heap.objs.size ≤ S) (hSa : S ≠ a) (hSc : S ≠ cStatics)
    (hmid : ∀ (ns : List Int) x H', mid (ns.map V.int) x H' → ∃ i, x = .int i ∧ InLong i ∧ InLong (ns.sum + i)) (hfin : ∀ (ns : List Int) H', fin (ns.map V.int) H' → K ns.sum H')
    (hR : ∀ i t H' s', Bk P w fs fp H s₄ H' s' → K i H' → R (.ok (.ret (.int i t))) s') :
    ∀ (n : Nat) (s : Shared), Live P w fs fp H s₄ S a gi LkSum mid fin A.in1.in1 n s → (∃ (ns : List Int) (t : Tok) (c : Nat), s.heap.get? S = some (seqO #[.int ns.sum t] c)) → codeAny (model P w) A (.builtin "sum.loop" ⟨[.ref a, .ref S, rawInt 0, rawInt 0], []⟩) R s := by
  intro n
  induction n using Nat.strongRecOn with
  | ind n ih =>
    intro s L hSo
    obtain ⟨ns0, t0, c0, eS0⟩ := hSo
    refine codeAny_builtin F.entry_sum_loop ?_
    rw [Around.under_plainId F.plain_sum_loop _]
    show wpAny _ A.in1 (seqItems? (.ref S) >>= _) _ _ s
    refine wpAny_bind (wpAny_seqItems eS0 rfl ?_)
    show wpAny _ A.in1 (tryCatch (pyNext (.ref a)) _ >>= _) _ _ s
    refine wpAny_bind (wpAny_tryCatch (live_next (A := A.in1) L hh (by show A.depth < _; omega) (fun v s1 ys x H' o hlt e0 bk hS0 eS hL rv hm next ig nl => ?_) fun s1 ys H' o e0 bk hS0 eS hL hf hle => ?_))
    · rw [eS0] at e0
      cases e0
      obtain ⟨ns, t, c, rfl, eo⟩ := hL
      have e1 : ns0.sum = ns.sum := by
        have q : Data.seq #[Value.int ns0.sum t0] c0 = Data.seq #[Value.int ns.sum t] c := congrArg Obj.data eo
        injection q with q1 q2
        have q3 := congrArg Array.toList q1
        injection q3 with q4 q5
        injection q4
      obtain ⟨i, rfl, ⟨f1, f2⟩, f3, f4⟩ := hmid ns x H' hm
      obtain ⟨t', rfl⟩ := id rv
      rw [← e1] at f3 f4
      have hc : ((decide (-(2 ^ 63) ≤ i) && decide (i < 2 ^ 63)) && (decide (-(2 ^ 63) ≤ ns0.sum + i) && decide (ns0.sum + i < 2 ^ 63))) = true := by
        simp only [Bool.and_eq_true, decide_eq_true_eq]
        exact ⟨⟨f1, f2⟩, f3, f4⟩
      show wpAny _ A.in1 (if (_ : Bool) = true then (mkInt (ns0.sum + i) >>= _) else _) _ _ _
      split
      · refine wpAny_bind (wpAny_mkInt ?_)
        show wpAny _ A.in1 (updateSeq S (fun _ => #[.int (ns0.sum + i) s1.toks]) >>= _) _ _ _
        refine wpAny_bind ?_
        have eS' : ({ s1 with toks := s1.toks + 1 } : Shared).heap.get? S = some (seqO #[.int ns0.sum t0] c0) := eS
        refine wpAny_updateSeq eS' rfl (wpAny_pure ?_)
        have es : ns0.sum + i = (ns ++ [i]).sum := by rw [e1, List.sum_append]; simp
        have hS2 := Heap.get?_update_self (Obj.mapSeq (fun _ => #[Value.int (ns0.sum + i) s1.toks])) eS' rfl
        have kS : ∀ b o, b ≠ S → s1.heap.get? b = some o → (s1.heap.update S (Obj.mapSeq (fun _ => #[Value.int (ns0.sum + i) s1.toks]))).get? b = some o := fun b o hb e => (Heap.get?_update_other _ _ (Ne.symm hb)).trans e
        obtain ⟨m, e, L'⟩ := next { s1 with heap := s1.heap.update S (Obj.mapSeq (fun _ => #[Value.int (ns0.sum + i) s1.toks])), toks := s1.toks + 1 } rfl rfl kS
          ⟨_, hS2, ⟨ns ++ [i], s1.toks, _, by rw [List.map_append]; rfl, by rw [← es]; rfl⟩, fun v q => by cases q⟩ (let ⟨o, nm, qn, ho, r⟩ := ig; ⟨o, nm, qn, kS a o (Ne.symm hSa) ho, r⟩) (let ⟨mc, hns, hnn⟩ := nl; ⟨mc, hns.at' fun o e => kS _ o (Ne.symm hSc) e, hnn⟩)
        exact ⟨plainId_quiet F.plain_sum_loop _, ih m (by omega) _ L' ⟨ns ++ [i], s1.toks, _, by rw [← es]; exact hS2⟩⟩
      · rename_i hneg
        exact absurd hc hneg
    · rw [eS0] at e0
      cases e0
      obtain ⟨ns, t, c, rfl, eo⟩ := hL
      have e1 : ns0.sum = ns.sum := by
        have q : Data.seq #[Value.int ns0.sum t0] c0 = Data.seq #[Value.int ns.sum t] c := congrArg Obj.data eo
        injection q with q1 q2
        have q3 := congrArg Array.toList q1
        injection q3 with q4 q5
        injection q4
      refine wpAny_pure (hR _ t0 H' s1 bk ?_)
      rw [e1]
      exact hfin ns H' hf
end
end GX

set_option Elab.async false
set_option linter.all false
set_option maxRecDepth 100000
set_option maxHeartbeats 4000000
namespace GX
open PySem PySem.Spec PyProof.Rows L2 GenW
open GxR (TabB TabG Tabbed inv_tab)

/-- the best so far: a later one only where it is better -/
def bestF (better : Int → Int → Bool) : Option Int → Int → Option Int
  | none, x => some x
  | some m, x => some (if better x m = true then x else m)
def best (better : Int → Int → Bool) (ns : List Int) : Option Int := ns.foldl (bestF better) none
theorem best_snoc (better : Int → Int → Bool) (ns : List Int) (x : Int) : best better (ns ++ [x]) = bestF better (best better ns) x := by
  unfold best
  rw [List.foldl_append]
  rfl
theorem best_none {better : Int → Int → Bool} : ∀ {ns : List Int}, best better ns = none → ns = [] := fun {ns} h => by
  cases hns : ns.reverse with
  | nil => simpa using hns
  | cons x r =>
    have e : ns = r.reverse ++ [x] := by rw [← List.reverse_reverse ns, hns, List.reverse_cons]
    rw [e, best_snoc] at h
    cases hb : best better r.reverse <;> rw [hb] at h <;> cases h
section
variable {P : Program} {w : World} {fs fp : List Addr} {H : Hp} {s₄ : Shared} {S a : Addr} {gi : Nat} {mid : List V → V → Hp → Prop} {fin : List V → Hp → Prop}
def LkMM (better : Int → Int → Bool) : List V → Obj → Prop := fun ys o => ∃ (ns : List Int) (c : Nat), ys = ns.map V.int ∧ ((best better ns = none ∧ o = seqO #[] c) ∨ ∃ m t, best better ns = some m ∧ o = seqO #[.int m t, .int m t] c)
theorem seqO_nil {m : Int} {t : Tok} {c c' : Nat} : seqO #[] c ≠ seqO #[Value.int m t, Value.int m t] c' := fun e => by
  have q : Data.seq #[] c = Data.seq #[Value.int m t, Value.int m t] c' := congrArg Obj.data e
  injection q with q1 q2
  have q3 := congrArg Array.size q1
  simp at q3
theorem seqO_inj {m m' : Int} {t t' : Tok} {c c' : Nat} (e : seqO #[Value.int m t, Value.int m t] c = seqO #[Value.int m' t', Value.int m' t'] c') : m = m' := by
  have q : Data.seq #[Value.int m t, Value.int m t] c = Data.seq #[Value.int m' t', Value.int m' t'] c' := congrArg Obj.data e
  injection q with q1 q2
  have q3 := congrArg Array.toList q1
  injection q3 with q4 q5
  injection q4

def betmax : Int → Int → Bool := fun x m => decide (x > m)
theorem loop_max {A : Around} {R : Result → Shared → Prop} {K : Int → Hp → Prop} (hh : A.handled = none) (hd : A.depth + 1 < recursionLimit) (hS : s₄.heap.objs.size ≤ S) (hSa : S ≠ a) (hSc : S ≠ cStatics)
    (hmid : ∀ (ns : List Int) x H', mid (ns.map V.int) x H' → ∃ i, x = .int i) (hfin : ∀ (ns : List Int) H', fin (ns.map V.int) H' → ∃ m, best betmax ns = some m ∧ K m H')
    (hR : ∀ i t H' s', Bk P w fs fp H s₄ H' s' → K i H' → R (.ok (.ret (.int i t))) s') :
    ∀ (n : Nat) (s : Shared), Live P w fs fp H s₄ S a gi (LkMM betmax) mid fin A.in1.in1 n s → (∃ c, s.heap.get? S = some (seqO #[] c) ∨ ∃ m t, s.heap.get? S = some (seqO #[.int m t, .int m t] c)) → codeAny (model P w) A (.builtin "max.loop" ⟨[.ref a, .none, .ref S], []⟩) R s := by
  have hname : (toString "max" ++ toString ".loop" : String) = "max.loop" := by decide
  intro n
  induction n using Nat.strongRecOn with
  | ind n ih =>
    intro s L hSo
    obtain ⟨c0, eS0 | ⟨m0, t0, eS0⟩⟩ := hSo
    · refine codeAny_builtin F.entry_max_loop ?_
      rw [Around.under_plainId F.plain_max_loop _]
      show wpAny _ A.in1 (seqItems? (.ref S) >>= _) _ _ s
      refine wpAny_bind (wpAny_seqItems eS0 rfl ?_)
      show wpAny _ A.in1 (tryCatch (pyNext (.ref a)) _ >>= _) _ _ s
      refine wpAny_bind (wpAny_tryCatch (live_next (A := A.in1) L hh (by show A.depth < _; omega) (fun v s1 ys x H' o hlt e0 bk hS0 eS hL rv hm next ig nl => ?_) fun s1 ys H' o e0 bk hS0 eS hL hf hle => ?_))
      · rw [eS0] at e0
        cases e0
        obtain ⟨ns, c, rfl, ⟨hb, eo⟩ | ⟨m, t, hb, eo⟩⟩ := hL
        · obtain ⟨i, rfl⟩ := hmid ns x H' hm
          obtain ⟨t', rfl⟩ := id rv
          show wpAny _ A.in1 (updateSeq S (fun _ => #[.int i t', .int i t']) >>= _) _ _ _
          refine wpAny_bind ?_
          refine wpAny_updateSeq eS rfl ?_
          rw [hname]
          have hS2 := Heap.get?_update_self (Obj.mapSeq (fun _ => #[Value.int i t', Value.int i t'])) eS rfl
          have kS : ∀ b o, b ≠ S → s1.heap.get? b = some o → (s1.heap.update S (Obj.mapSeq (fun _ => #[Value.int i t', Value.int i t']))).get? b = some o := fun b o hb e => (Heap.get?_update_other _ _ (Ne.symm hb)).trans e
          have eb : best betmax (ns ++ [i]) = some i := by rw [best_snoc, hb]; rfl
          obtain ⟨m, e, L'⟩ := next { s1 with heap := s1.heap.update S (Obj.mapSeq (fun _ => #[Value.int i t', Value.int i t'])) } rfl rfl kS
            ⟨_, hS2, ⟨ns ++ [i], _, by rw [List.map_append]; rfl, .inr ⟨i, t', eb, rfl⟩⟩, fun v q => by cases q⟩ (let ⟨o, nm, qn, ho, r⟩ := ig; ⟨o, nm, qn, kS a o (Ne.symm hSa) ho, r⟩) (let ⟨mc, hns, hnn⟩ := nl; ⟨mc, hns.at' fun o e => kS _ o (Ne.symm hSc) e, hnn⟩)
          exact wpAny_pure ⟨plainId_quiet F.plain_max_loop _, ih m (by omega) _ L' ⟨_, .inr ⟨i, t', hS2⟩⟩⟩
        · exact absurd eo seqO_nil
      · rw [eS0] at e0
        cases e0
        obtain ⟨ns, c, rfl, ⟨hb, eo⟩ | ⟨m, t, hb, eo⟩⟩ := hL
        · obtain ⟨m, hb', _⟩ := hfin ns H' hf
          rw [hb] at hb'
          cases hb'
        · exact absurd eo seqO_nil
    · refine codeAny_builtin F.entry_max_loop ?_
      rw [Around.under_plainId F.plain_max_loop _]
      show wpAny _ A.in1 (seqItems? (.ref S) >>= _) _ _ s
      refine wpAny_bind (wpAny_seqItems eS0 rfl ?_)
      show wpAny _ A.in1 (tryCatch (pyNext (.ref a)) _ >>= _) _ _ s
      refine wpAny_bind (wpAny_tryCatch (live_next (A := A.in1) L hh (by show A.depth < _; omega) (fun v s1 ys x H' o hlt e0 bk hS0 eS hL rv hm next ig nl => ?_) fun s1 ys H' o e0 bk hS0 eS hL hf hle => ?_))
      · rw [eS0] at e0
        cases e0
        obtain ⟨ns, c, rfl, ⟨hb, eo⟩ | ⟨m, t, hb, eo⟩⟩ := hL
        · exact absurd eo.symm seqO_nil
        · obtain rfl := seqO_inj eo
          obtain ⟨i, rfl⟩ := hmid ns x H' hm
          obtain ⟨t', rfl⟩ := id rv
          have hcmp := CmpOf.ints_gt (prog := P) (w := w) (A := A.in1) (P := fun (k : Nat) v => (k = 0 ∧ v = Value.int m0 t0) ∨ (k ≠ 0 ∧ v = Value.int i t')) (fun k => if k = 0 then m0 else i) (fun k v h => by
            rcases h with ⟨h1, h2⟩ | ⟨h1, h2⟩
            · exact ⟨t0, by rw [if_pos h1]; exact h2⟩
            · exact ⟨t', by rw [if_neg h1]; exact h2⟩)
          show wpAny _ A.in1 (tryCatch (holding [.int i t', .int i t'] (richCompare .Gt (.int i t') (.int m0 t0) >>= _)) _ >>= _) _ _ _
          refine wpAny_bind (wpAny_tryCatch (wpAny_holding (wpAny_bind (hcmp 1 0 _ _ _ _ _ (.inr ⟨by decide, rfl⟩) (.inl ⟨rfl, rfl⟩) ?_))))
          refine wpAny_bind (wpAny_holding (wpAny_truthy_bool ?_))
          refine wpAny_bind (wpAny_letGo (wpAny_pure ?_))
          rw [show ((fun i_1 j : Nat => decide ((if i_1 = 0 then m0 else i) > if j = 0 then m0 else i)) 1 0) = decide (i > m0) from rfl]
          by_cases hx : i > m0
          · rw [if_pos (decide_eq_true hx)]
            refine wpAny_bind ?_
            refine wpAny_updateSeq eS rfl (wpAny_bind (wpAny_letGo ?_))
            rw [hname]
            have hS2 := Heap.get?_update_self (Obj.mapSeq (fun _ => #[Value.int i t', Value.int i t'])) eS rfl
            have kS : ∀ b o, b ≠ S → s1.heap.get? b = some o → (s1.heap.update S (Obj.mapSeq (fun _ => #[Value.int i t', Value.int i t']))).get? b = some o := fun b o hb e => (Heap.get?_update_other _ _ (Ne.symm hb)).trans e
            have eb : best betmax (ns ++ [i]) = some i := by rw [best_snoc, hb]; show some (if decide (i > m0) = true then i else m0) = _; rw [if_pos (decide_eq_true hx)]
            obtain ⟨m, e, L'⟩ := next { s1 with heap := s1.heap.update S (Obj.mapSeq (fun _ => #[Value.int i t', Value.int i t'])) } rfl rfl kS
              ⟨_, hS2, ⟨ns ++ [i], _, by rw [List.map_append]; rfl, .inr ⟨i, t', eb, rfl⟩⟩, fun v q => by cases q⟩ (let ⟨o, nm, qn, ho, r⟩ := ig; ⟨o, nm, qn, kS a o (Ne.symm hSa) ho, r⟩) (let ⟨mc, hns, hnn⟩ := nl; ⟨mc, hns.at' fun o e => kS _ o (Ne.symm hSc) e, hnn⟩)
            exact wpAny_pure ⟨plainId_quiet F.plain_max_loop _, ih m (by omega) _ L' ⟨_, .inr ⟨i, t', hS2⟩⟩⟩
          · rw [if_neg (by simpa using hx)]
            refine wpAny_bind (wpAny_letGo ?_)
            rw [hname]
            have eb : best betmax (ns ++ [i]) = some m0 := by rw [best_snoc, hb]; show some (if decide (i > m0) = true then i else m0) = _; rw [if_neg (by simpa using hx)]
            obtain ⟨m, e, L'⟩ := next s1 rfl rfl (fun _ _ _ e => e) ⟨_, eS, ⟨ns ++ [i], _, by rw [List.map_append]; rfl, .inr ⟨m0, t0, eb, rfl⟩⟩, fun v q => by cases q⟩ ig nl
            exact wpAny_pure ⟨plainId_quiet F.plain_max_loop _, ih m (by omega) _ L' ⟨_, .inr ⟨m0, t0, eS⟩⟩⟩
      · rw [eS0] at e0
        cases e0
        obtain ⟨ns, c, rfl, ⟨hb, eo⟩ | ⟨m, t, hb, eo⟩⟩ := hL
        · exact absurd eo.symm seqO_nil
        · obtain rfl := seqO_inj eo
          obtain ⟨m, hb', hK⟩ := hfin ns H' hf
          rw [hb] at hb'
          cases hb'
          show wpAny _ A.in1 (updateSeq S (fun _ => #[]) >>= _) _ _ _
          refine wpAny_bind ?_
          refine wpAny_updateSeq eS rfl (wpAny_bind (wpAny_letGo (wpAny_pure ?_)))
          exact hR m0 t0 H' _ (bk.sl hS hS0 rfl bk.bare (fun b o hb e => (Heap.get?_update_other _ _ (Ne.symm hb)).trans e) ⟨_, Heap.get?_update_self _ eS rfl⟩) hK

def betmin : Int → Int → Bool := fun x m => decide (x < m)
theorem loop_min {A : Around} {R : Result → Shared → Prop} {K : Int → Hp → Prop} (hh : A.handled = none) (hd : A.depth + 1 < recursionLimit) (hS : s₄.heap.objs.size ≤ S) (hSa : S ≠ a) (hSc : S ≠ cStatics)
    (hmid : ∀ (ns : List Int) x H', mid (ns.map V.int) x H' → ∃ i, x = .int i) (hfin : ∀ (ns : List Int) H', fin (ns.map V.int) H' → ∃ m, best betmin ns = some m ∧ K m H')
    (hR : ∀ i t H' s', Bk P w fs fp H s₄ H' s' → K i H' → R (.ok (.ret (.int i t))) s') :
    ∀ (n : Nat) (s : Shared), Live P w fs fp H s₄ S a gi (LkMM betmin) mid fin A.in1.in1 n s → (∃ c, s.heap.get? S = some (seqO #[] c) ∨ ∃ m t, s.heap.get? S = some (seqO #[.int m t, .int m t] c)) → codeAny (model P w) A (.builtin "min.loop" ⟨[.ref a, .none, .ref S], []⟩) R s := by
  have hname : (toString "min" ++ toString ".loop" : String) = "min.loop" := by decide
  intro n
  induction n using Nat.strongRecOn with
  | ind n ih =>
    intro s L hSo
    obtain ⟨c0, eS0 | ⟨m0, t0, eS0⟩⟩ := hSo
    · refine codeAny_builtin F.entry_min_loop ?_
      rw [Around.under_plainId F.plain_min_loop _]
      show wpAny _ A.in1 (seqItems? (.ref S) >>= _) _ _ s
      refine wpAny_bind (wpAny_seqItems eS0 rfl ?_)
      show wpAny _ A.in1 (tryCatch (pyNext (.ref a)) _ >>= _) _ _ s
      refine wpAny_bind (wpAny_tryCatch (live_next (A := A.in1) L hh (by show A.depth < _; omega) (fun v s1 ys x H' o hlt e0 bk hS0 eS hL rv hm next ig nl => ?_) fun s1 ys H' o e0 bk hS0 eS hL hf hle => ?_))
      · rw [eS0] at e0
        cases e0
        obtain ⟨ns, c, rfl, ⟨hb, eo⟩ | ⟨m, t, hb, eo⟩⟩ := hL
        · obtain ⟨i, rfl⟩ := hmid ns x H' hm
          obtain ⟨t', rfl⟩ := id rv
          show wpAny _ A.in1 (updateSeq S (fun _ => #[.int i t', .int i t']) >>= _) _ _ _
          refine wpAny_bind ?_
          refine wpAny_updateSeq eS rfl ?_
          rw [hname]
          have hS2 := Heap.get?_update_self (Obj.mapSeq (fun _ => #[Value.int i t', Value.int i t'])) eS rfl
          have kS : ∀ b o, b ≠ S → s1.heap.get? b = some o → (s1.heap.update S (Obj.mapSeq (fun _ => #[Value.int i t', Value.int i t']))).get? b = some o := fun b o hb e => (Heap.get?_update_other _ _ (Ne.symm hb)).trans e
          have eb : best betmin (ns ++ [i]) = some i := by rw [best_snoc, hb]; rfl
          obtain ⟨m, e, L'⟩ := next { s1 with heap := s1.heap.update S (Obj.mapSeq (fun _ => #[Value.int i t', Value.int i t'])) } rfl rfl kS
            ⟨_, hS2, ⟨ns ++ [i], _, by rw [List.map_append]; rfl, .inr ⟨i, t', eb, rfl⟩⟩, fun v q => by cases q⟩ (let ⟨o, nm, qn, ho, r⟩ := ig; ⟨o, nm, qn, kS a o (Ne.symm hSa) ho, r⟩) (let ⟨mc, hns, hnn⟩ := nl; ⟨mc, hns.at' fun o e => kS _ o (Ne.symm hSc) e, hnn⟩)
          exact wpAny_pure ⟨plainId_quiet F.plain_min_loop _, ih m (by omega) _ L' ⟨_, .inr ⟨i, t', hS2⟩⟩⟩
        · exact absurd eo seqO_nil
      · rw [eS0] at e0
        cases e0
        obtain ⟨ns, c, rfl, ⟨hb, eo⟩ | ⟨m, t, hb, eo⟩⟩ := hL
        · obtain ⟨m, hb', _⟩ := hfin ns H' hf
          rw [hb] at hb'
          cases hb'
        · exact absurd eo seqO_nil
    · refine codeAny_builtin F.entry_min_loop ?_
      rw [Around.under_plainId F.plain_min_loop _]
      show wpAny _ A.in1 (seqItems? (.ref S) >>= _) _ _ s
      refine wpAny_bind (wpAny_seqItems eS0 rfl ?_)
      show wpAny _ A.in1 (tryCatch (pyNext (.ref a)) _ >>= _) _ _ s
      refine wpAny_bind (wpAny_tryCatch (live_next (A := A.in1) L hh (by show A.depth < _; omega) (fun v s1 ys x H' o hlt e0 bk hS0 eS hL rv hm next ig nl => ?_) fun s1 ys H' o e0 bk hS0 eS hL hf hle => ?_))
      · rw [eS0] at e0
        cases e0
        obtain ⟨ns, c, rfl, ⟨hb, eo⟩ | ⟨m, t, hb, eo⟩⟩ := hL
        · exact absurd eo.symm seqO_nil
        · obtain rfl := seqO_inj eo
          obtain ⟨i, rfl⟩ := hmid ns x H' hm
          obtain ⟨t', rfl⟩ := id rv
          have hcmp := CmpOf.ints_lt (prog := P) (w := w) (A := A.in1) (P := fun (k : Nat) v => (k = 0 ∧ v = Value.int m0 t0) ∨ (k ≠ 0 ∧ v = Value.int i t')) (fun k => if k = 0 then m0 else i) (fun k v h => by
            rcases h with ⟨h1, h2⟩ | ⟨h1, h2⟩
            · exact ⟨t0, by rw [if_pos h1]; exact h2⟩
            · exact ⟨t', by rw [if_neg h1]; exact h2⟩)
          show wpAny _ A.in1 (tryCatch (holding [.int i t', .int i t'] (richCompare .Lt (.int i t') (.int m0 t0) >>= _)) _ >>= _) _ _ _
          refine wpAny_bind (wpAny_tryCatch (wpAny_holding (wpAny_bind (hcmp 1 0 _ _ _ _ _ (.inr ⟨by decide, rfl⟩) (.inl ⟨rfl, rfl⟩) ?_))))
          refine wpAny_bind (wpAny_holding (wpAny_truthy_bool ?_))
          refine wpAny_bind (wpAny_letGo (wpAny_pure ?_))
          rw [show ((fun i_1 j : Nat => decide ((if i_1 = 0 then m0 else i) < if j = 0 then m0 else i)) 1 0) = decide (i < m0) from rfl]
          by_cases hx : i < m0
          · rw [if_pos (decide_eq_true hx)]
            refine wpAny_bind ?_
            refine wpAny_updateSeq eS rfl (wpAny_bind (wpAny_letGo ?_))
            rw [hname]
            have hS2 := Heap.get?_update_self (Obj.mapSeq (fun _ => #[Value.int i t', Value.int i t'])) eS rfl
            have kS : ∀ b o, b ≠ S → s1.heap.get? b = some o → (s1.heap.update S (Obj.mapSeq (fun _ => #[Value.int i t', Value.int i t']))).get? b = some o := fun b o hb e => (Heap.get?_update_other _ _ (Ne.symm hb)).trans e
            have eb : best betmin (ns ++ [i]) = some i := by rw [best_snoc, hb]; show some (if decide (i < m0) = true then i else m0) = _; rw [if_pos (decide_eq_true hx)]
            obtain ⟨m, e, L'⟩ := next { s1 with heap := s1.heap.update S (Obj.mapSeq (fun _ => #[Value.int i t', Value.int i t'])) } rfl rfl kS
              ⟨_, hS2, ⟨ns ++ [i], _, by rw [List.map_append]; rfl, .inr ⟨i, t', eb, rfl⟩⟩, fun v q => by cases q⟩ (let ⟨o, nm, qn, ho, r⟩ := ig; ⟨o, nm, qn, kS a o (Ne.symm hSa) ho, r⟩) (let ⟨mc, hns, hnn⟩ := nl; ⟨mc, hns.at' fun o e => kS _ o (Ne.symm hSc) e, hnn⟩)
            exact wpAny_pure ⟨plainId_quiet F.plain_min_loop _, ih m (by omega) _ L' ⟨_, .inr ⟨i, t', hS2⟩⟩⟩
          · rw [if_neg (by simpa using hx)]
            refine wpAny_bind (wpAny_letGo ?_)
            rw [hname]
            have eb : best betmin (ns ++ [i]) = some m0 := by rw [best_snoc, hb]; show some (if decide (i < m0) = true then i else m0) = _; rw [if_neg (by simpa using hx)]
            obtain ⟨m, e, L'⟩ := next s1 rfl rfl (fun _ _ _ e => e) ⟨_, eS, ⟨ns ++ [i], _, by rw [List.map_append]; rfl, .inr ⟨m0, t0, eb, rfl⟩⟩, fun v q => by cases q⟩ ig nl
            exact wpAny_pure ⟨plainId_quiet F.plain_min_loop _, ih m (by omega) _ L' ⟨_, .inr ⟨m0, t0, eS⟩⟩⟩
      · rw [eS0] at e0
        cases e0
        obtain ⟨ns, c, rfl, ⟨hb, eo⟩ | ⟨m, t, hb, eo⟩⟩ := hL
        · exact absurd eo.symm seqO_nil
        · obtain rfl := seqO_inj eo
          obtain ⟨m, hb', hK⟩ := hfin ns H' hf
          rw [hb] at hb'
          cases hb'
          show wpAny _ A.in1 (updateSeq S (fun _ => #[]) >>= _) _ _ _
          refine wpAny_bind ?_
          refine wpAny_updateSeq eS rfl (wpAny_bind (wpAny_letGo (wpAny_pure ?_)))
          exact hR m0 t0 H' _ (bk.sl hS hS0 rfl bk.bare (fun b o hb e => (Heap.get?_update_other _ _ (Ne.symm hb)).trans e) ⟨_, Heap.get?_update_self _ eS rfl⟩) hK

/-! ### a list that is filled -/
def LkExt : List V → Obj → Prop := fun ys o => ∃ (acc : Array Value) (c : Nat), o = seqO acc c ∧ Vals ys acc.toList
theorem loop_ext {A : Around} {R : Result → Shared → Prop} {res : Value} (hh : A.handled = none) (hd : A.depth + 1 < recursionLimit) (hS : s₄.heap.objs.size ≤ S) (hSa : S ≠ a) (hSc : S ≠ cStatics)
    (hR : ∀ ys acc c H' s', Bk P w fs fp H s₄ H' s' → H' S = none → s'.heap.get? S = some (seqO acc c) → Vals ys acc.toList → ys.length ≤ sizeLine → fin ys H' → R (.ok (.ret res)) s') :
    ∀ (n : Nat) (s : Shared), Live P w fs fp H s₄ S a gi LkExt mid fin A.in1.in1 n s → codeAny (model P w) A (.builtin "list.extend.loop" ⟨[.ref S, .ref a, res], []⟩) R s := by
  intro n
  induction n using Nat.strongRecOn with
  | ind n ih =>
    intro s L
    refine codeAny_builtin F.entry_extend_loop ?_
    rw [Around.under_plainId F.plain_extend_loop _]
    show wpAny _ A.in1 (pyNext (.ref a) >>= _) _ _ s
    refine wpAny_bind (live_next (A := A.in1) L hh (by show A.depth < _; omega) (fun v s1 ys x H' o hlt e0 bk hS0 eS hL rv hm next ig nl => ?_) fun s1 ys H' o e0 bk hS0 eS hL hf hle => ?_)
    · obtain ⟨acc, c, rfl, r⟩ := hL
      have hsz : acc.size = ys.length := by
        have e1 := r.length
        have e2 : acc.toList.length = acc.size := by simp
        omega
      have hasz' : acc.size < sizeLine := by omega
      show wpAny _ A.in1 (updateSeq S (·.push v) >>= _) _ _ _
      refine wpAny_bind ?_
      have hS2 := Heap.get?_update_self (Obj.mapSeq (·.push v)) eS rfl
      have kS : ∀ b o, b ≠ S → s1.heap.get? b = some o → (s1.heap.update S (Obj.mapSeq (·.push v))).get? b = some o := fun b o hb e => (Heap.get?_update_other _ _ (Ne.symm hb)).trans e
      obtain ⟨m, e, L'⟩ := next { s1 with heap := s1.heap.update S (Obj.mapSeq (·.push v)) } rfl rfl kS
        ⟨_, hS2, ⟨acc.push v, _, rfl, by rw [Array.toList_push]; exact r.append (.cons rv .nil)⟩, fun v q => by cases q⟩ (let ⟨o, nm, qn, ho, r⟩ := ig; ⟨o, nm, qn, kS a o (Ne.symm hSa) ho, r⟩) (let ⟨mc, hns, hnn⟩ := nl; ⟨mc, hns.at' fun o e => kS _ o (Ne.symm hSc) e, hnn⟩)
      refine wpAny_updateSeq eS rfl (wpAny_pure ⟨plainId_quiet F.plain_extend_loop _, ih m (by omega) _ L'⟩) (Nat.le_of_lt hasz') (by show (acc.push v).size ≤ sizeLine + 1; rw [Array.size_push]; omega)
    · obtain ⟨acc, c, rfl, r⟩ := hL
      exact wpAny_pure (hR ys acc c H' s1 bk hS0 eS r hle hf)
end
end GX

set_option Elab.async false
set_option linter.all false
set_option maxRecDepth 100000
set_option maxHeartbeats 4000000
namespace GX
open PySem PySem.Spec PyProof.Rows L2 GenW
open GxR (TabB TabG Tabbed inv_tab)

theorem map_int_inj : ∀ {a b : List Int}, a.map V.int = b.map V.int → a = b
  | [], [], _ => rfl
  | [], _ :: _, h => by cases h
  | _ :: _, [], h => by cases h
  | x :: xs, y :: ys, h => by
    injection h with h1 h2
    injection h1 with h3
    rw [h3, map_int_inj h2]

/-- ready to be woken by a consumer whose object stands at S -/
theorem made_live {X : Cx} {pins : List (Addr × Obj)} {σ : L2.St} {H : Hp} {s4 s' : Shared} {fp : List Addr} {k : Nat} {mid : List V → V → Hp → Prop} {fin : List V → Hp → Prop} {u : Value} (I : Inv X pins σ H s4) (M : Made X H s4 fp k mid fin u s') :
    ∃ (a : Addr) (gi : Nat) (go : Obj), u = .ref a ∧ s4.heap.objs.size < a ∧ a < s'.heap.objs.size ∧ GenO go gi ∧ s'.heap.get? a = some go ∧ s'.os = s4.os ∧ AllBare s'.gens ∧ (∀ b o, s4.heap.get? b = some o → s'.heap.get? b = some o) ∧ s'.heap.IsGen a gi ∧ cStatics < s4.heap.objs.size ∧
      ∀ (A : Around) (S : Addr) (Lk : List V → Obj → Prop) (s2 : Shared) (o : Obj), Room (k + 1) A → A.frames = some X.stack → s4.heap.objs.size < S → (S = a → ∀ ys o, Lk ys o → o = go) → (∀ b o, b ≠ S → s'.heap.get? b = some o → s2.heap.get? b = some o) →
        s2.heap.get? S = some o → Lk [] o → (∀ v, o.data ≠ .cell v) → s2.os = s'.os → s2.gens = s'.gens → Live X.prog X.w (frs X.stack) fp H s4 S a gi Lk mid fin A sizeLine s2 := by
  obtain ⟨a, gi, go, c, hu, ha, ha', hgo, ego, hgs, hos, hb, hl, kp, wake⟩ := M
  have hcl : cStatics < s4.heap.objs.size := let ⟨_, hn, _⟩ := I.nolimit; hn.lt
  refine ⟨a, gi, go, hu, ha, ha', hgo, ego, hos, hb, kp, hgo.is ego, hcl, fun A S Lk s2 o hr hfr hS hLa k2 hSo hL0 hSc os2 g2 => ?_⟩
  have ea : s2.heap.get? a = some go := by
    by_cases z : S = a
    · rw [← hLa z _ _ hL0, ← z]
      exact hSo
    · exact k2 a go (Ne.symm z) ego
  refine ⟨hgo.is ea, I.nolimit.keeps fun b o e => k2 b o (Nat.ne_of_lt (Nat.lt_trans (Heap.lt_size e) hS)) (kp b o e), .fresh c, by rw [g2]; exact hgs, rfl, ?_⟩
  exact wake A S Lk (s2.setGen gi .running) o hr hfr hS hLa k2 hSo hL0 hSc (os2.trans hos) (allBare_setGen (s := s2) (by rw [g2]; exact hb) rfl)

section
variable {X : Cx} {pins : List (Addr × Obj)} {σ : L2.St} {H : Hp}
theorem inv_back {s4 s' : Shared} {fp : List Addr} {H2 H' : Hp} (I : Inv X pins σ H2 s4) (f : ∀ b ∈ fp, FpOk X pins H2 b) (b : Bk X.prog X.w (frs X.stack) fp H2 s4 H' s') : Inv X pins σ H' s' :=
  I.call' (ch := fp) b.os b.un b.ok b.bare fun c hc => ⟨(f c hc).2.2.2.1, (f c hc).2.1, (f c hc).2.2.2.2.1, (f c hc).2.2.2.2.2⟩

/-! ### the readings -/
def tAnyG (P : Addr) (wi : TI) (g : TG) (tt : TT) (te : TE) (vs : List Nat) : TE := fun σ H Q => tGen P wi g tt te vs (fun _ y H' => ∃ b, y = .bl b ∧ (b = true → Q (.bl true) H')) (fun ys H' => (∀ y ∈ ys, y = V.bl false) → Q (.bl false) H') σ H
def tSumG (P : Addr) (wi : TI) (g : TG) (tt : TT) (te : TE) (vs : List Nat) : TE := fun σ H Q => tGen P wi g tt te vs (fun ys y _ => ∃ (ns : List Int) (i : Int), ys = ns.map V.int ∧ y = .int i ∧ InLong i ∧ InLong (ns.sum + i)) (fun ys H' => ∃ ns : List Int, ys = ns.map V.int ∧ Q (.int ns.sum) H') σ H
def tMMG (better : Int → Int → Bool) (P : Addr) (wi : TI) (g : TG) (tt : TT) (te : TE) (vs : List Nat) : TE := fun σ H Q => tGen P wi g tt te vs (fun _ y _ => ∃ i : Int, y = .int i) (fun ys H' => ∃ (ns : List Int) (m : Int), ys = ns.map V.int ∧ best better ns = some m ∧ Q (.int m) H') σ H
def tTupG (P : Addr) (wi : TI) (g : TG) (tt : TT) (te : TE) (vs : List Nat) : TE := fun σ H Q => tGen P wi g tt te vs (fun _ _ _ => True) (fun ys H' => ∀ p, H' p = none → Q (.ref p) (upd H' p (.tup ys))) σ H

variable {c P : Addr} {elt tg iter : Expr} {ifs : List Expr} {scope : Scope} {gpos p pos : Pos} {own : List (Str × Nat)} {wi : TI} {g : TG} {tt : TT} {te : TE} {k : Nat}
/-- the parts of a generator expression, walked -/
structure GenE (X : Cx) (c P : Addr) (elt tg iter : Expr) (ifs : List Expr) (scope : Scope) (own : List (Str × Nat)) (wi : TI) (g : TG) (tt : TT) (te : TE) (k : Nat) : Prop where
  room : Room (k + 8) X.A
  nd : X.N.Nodup
  tab : TabB X.base X.mg c P
  code : X.env.code = .ref c
  sc : GSc X.N X.env.scope scope own
  it : PI X tg iter wi
  tg : ∀ (A : Around) (s : Shared) (H : Hp) (code : Value) (fp : List Addr) (pn : List (Addr × Obj)), PG (gctx X A s H (gEnv X scope s.heap.objs.size code) fp pn) tg g
  ts : ∀ (A : Around) (s : Shared) (H : Hp) (code : Value) (fp : List Addr) (pn : List (Addr × Obj)), Room k (A.deeper (gEnv X scope s.heap.objs.size code)) → PTs (gctx X A s H (gEnv X scope s.heap.objs.size code) fp pn) ifs tt
  el : ∀ (A : Around) (s : Shared) (H : Hp) (code : Value) (fp : List Addr) (pn : List (Addr × Obj)), Room k (A.deeper (gEnv X scope s.heap.objs.size code)) → PE (gctx X A s H (gEnv X scope s.heap.objs.size code) fp pn) elt te
  fold : ∀ v, genFold iter X.env v = pure v
theorem GenE.made {mid : List V → V → Hp → Prop} {fin : List V → Hp → Prop} {Q' : Value → Shared → Prop} {s : Shared} (G : GenE X c P elt tg iter ifs scope own wi g tt te k) (I : Inv X pins σ H s) (h : tGen P wi g tt te (own.map (·.2)) mid fin σ H)
    (hQ : ∀ H2 s4 fp u s', Inv X pins σ H2 s4 → (∀ b ∈ fp, FpOk X pins H2 b) → Made X H2 s4 fp k mid fin u s' → Q' u s') :
    wpAny (model X.prog X.w) X.A (eval (.GeneratorExp elt [⟨tg, iter, ifs, 0⟩] scope gpos) X.env) Q' X.xe s :=
  gen_made (G.room.mono (by omega)) G.nd G.tab G.code G.sc G.it G.tg G.ts G.el G.fold I h hQ

theorem pe_anyG (G : GenE X c P elt tg iter ifs scope own wi g tt te k) (hg : Gl X "any") (hm : X.mg "any" = none)
    (he : starEach [.GeneratorExp elt [⟨tg, iter, ifs, 0⟩] scope gpos] X.env = (false, eval (.GeneratorExp elt [⟨tg, iter, ifs, 0⟩] scope gpos) X.env) :: starEach [] X.env := by rfl) :
    PE X (.Call (.Name "any" p) [.GeneratorExp elt [⟨tg, iter, ifs, 0⟩] scope gpos] [] pos) (tAnyG P wi g tt te (own.map (·.2))) := by
  refine ⟨fun pins s σ H Q I h => ?_⟩
  refine wpAny_Call_Name_kw (ld_blt I hg hm boot_any ?_)
  refine PyProof.Rows.callWith_builtin1 ?_ he (by rfl)
  rw [he]
  show wpAny _ _ (spliced ((false, eval (.GeneratorExp elt [⟨tg, iter, ifs, 0⟩] scope gpos) X.env) :: backTo pos (starEach [] X.env))) _ _ s
  refine Calls.spliced_cons (G.made I h fun H2 s4 fp u s' I4 f4 M => ?_)
  obtain ⟨a, gi, go, rfl, ha, ha', hgo, ego, hos, hb, kp, ig, hcl, live⟩ := made_live I4 M
  refine Calls.spliced_nil ?_
  refine call_function_tree F.kind_any F.plain_any F.entry_any (F.args_any1 _) ?_
  unfold Builtin.«any»
  refine wpAny_bind (m := oneArg "any" _) (wpAny_pure ?_)
  refine wpAny_bind (wpAny_pyIter_gen ig ?_)
  refine wpAny_pure ⟨plainId_quiet F.plain_any_loop _, loop_any (K := fun b H' => Q (.bl b) H') G.room.hd (by have := G.room.dp; omega) hgo (fun ys x H' _ hm => hm) (fun ys H' hz hf => hf hz) (fun b H' s2 bk hK => ?_) sizeLine s'
    (live _ a _ s' go ((G.room.mono (show k + 3 ≤ k + 8 by omega)).in1.in1) I4.ok.frames ha (fun _ ys o h => h.1) (fun _ _ _ e => e) ego ⟨rfl, fun y hy => by simp at hy⟩ hgo.cell rfl rfl)⟩
  exact ⟨.bl b, H', inv_back I4 f4 bk, rfl, hK⟩

theorem pe_sumG (G : GenE X c P elt tg iter ifs scope own wi g tt te k) (hg : Gl X "sum") (hm : X.mg "sum" = none) (hv : bootBuiltins "sum" = some (.builtin "sum") := by decide +kernel)
    (he : starEach [.GeneratorExp elt [⟨tg, iter, ifs, 0⟩] scope gpos] X.env = (false, eval (.GeneratorExp elt [⟨tg, iter, ifs, 0⟩] scope gpos) X.env) :: starEach [] X.env := by rfl) :
    PE X (.Call (.Name "sum" p) [.GeneratorExp elt [⟨tg, iter, ifs, 0⟩] scope gpos] [] pos) (tSumG P wi g tt te (own.map (·.2))) := by
  refine ⟨fun pins s σ H Q I h => ?_⟩
  refine wpAny_Call_Name_kw (ld_blt I hg hm hv ?_)
  refine PyProof.Rows.callWith_builtin1 ?_ he (by rfl)
  rw [he]
  show wpAny _ _ (spliced ((false, eval (.GeneratorExp elt [⟨tg, iter, ifs, 0⟩] scope gpos) X.env) :: backTo pos (starEach [] X.env))) _ _ s
  refine Calls.spliced_cons (G.made I h fun H2 s4 fp u s' I4 f4 M => ?_)
  obtain ⟨a, gi, go, rfl, ha, ha', hgo, ego, hos, hb, kp, ig, hcl, live⟩ := made_live I4 M
  refine Calls.spliced_nil ?_
  refine call_function_tree F.kind_sum F.plain_sum F.entry_sum (F.args_sum1 _) ?_
  unfold Builtin.«sum»
  simp only [List.length_cons, List.length_nil]
  rw [if_neg (by decide)]
  refine wpAny_bind (wpAny_of_eq (show Builtin.Builtins.bindParams "sum" ["start"] 0 { } = pure [none] from rfl) ?_)
  refine wpAny_bind (wpAny_pyIter_gen ig ?_)
  refine wpAny_bind (wpAny_mkInt ?_)
  refine wpAny_bind (wpAny_pure ?_)
  simp only [List.forIn_cons, List.forIn_nil]
  refine wpAny_bind (wpAny_bind (wpAny_bind (wpAny_isInstance (T := "int") (b := false) (typeIs_int _ _ _) PySem.sub_int_str ?_)))
  simp only [Bool.false_eq_true, if_false]
  refine wpAny_pure (wpAny_bind (wpAny_bind (wpAny_isInstance (T := "int") (b := false) (typeIs_int _ _ _) PySem.sub_int_bytes ?_)))
  simp only [Bool.false_eq_true, if_false]
  refine wpAny_pure (wpAny_bind (wpAny_bind (wpAny_isInstance (T := "int") (b := false) (typeIs_int _ _ _) PySem.sub_int_bytearray ?_)))
  simp only [Bool.false_eq_true, if_false]
  refine wpAny_pure (wpAny_pure ?_)
  refine wpAny_bind (wpAny_newObj_type ?_)
  have hSa : s'.heap.objs.size ≠ a := Nat.ne_of_gt ha'
  have h4 : s4.heap.objs.size < s'.heap.objs.size := Nat.lt_trans ha ha'
  have hSn : ∀ {o : Obj} {b : Addr} {u : Obj}, s'.heap.get? b = some u → (s'.heap.push o).get? b = some u := fun e => Heap.get?_push_of_some _ e
  refine wpAny_pure ⟨plainId_quiet F.plain_sum_loop _, loop_sum (K := fun i H' => Q (.int i) H') (S := s'.heap.objs.size) G.room.hd (by have := G.room.dp; omega) (Nat.le_of_lt h4) hSa (Nat.ne_of_gt (Nat.lt_trans hcl h4)) (fun ns x H' hm => ?_) (fun ns H' hf => ?_) (fun i t H' s2 bk hK => ?_) sizeLine _
    (live _ s'.heap.objs.size LkSum _ _ ((G.room.mono (show k + 3 ≤ k + 8 by omega)).in1.in1) I4.ok.frames h4 (fun z => absurd z hSa) (fun b o _ e => hSn e) (Heap.get?_push_size _ rfl) ⟨[], s'.toks, 0, rfl, rfl⟩ (fun v q => by cases q) rfl rfl) ⟨[], s'.toks, 0, Heap.get?_push_size _ rfl⟩⟩
  · obtain ⟨ns', i, e1, e2, e3⟩ := hm
    rw [map_int_inj e1]
    exact ⟨i, e2, e3⟩
  · obtain ⟨ns', e1, e2⟩ := hf
    rw [map_int_inj e1]
    exact e2
  · exact ⟨.int i, H', inv_back I4 f4 bk, ⟨t, rfl⟩, hK⟩

theorem pe_maxG (G : GenE X c P elt tg iter ifs scope own wi g tt te k) (hg : Gl X "max") (hm : X.mg "max" = none) (hv : bootBuiltins "max" = some (.builtin "max") := by decide +kernel)
    (he : starEach [.GeneratorExp elt [⟨tg, iter, ifs, 0⟩] scope gpos] X.env = (false, eval (.GeneratorExp elt [⟨tg, iter, ifs, 0⟩] scope gpos) X.env) :: starEach [] X.env := by rfl) :
    PE X (.Call (.Name "max" p) [.GeneratorExp elt [⟨tg, iter, ifs, 0⟩] scope gpos] [] pos) (tMMG betmax P wi g tt te (own.map (·.2))) := by
  refine ⟨fun pins s σ H Q I h => ?_⟩
  refine wpAny_Call_Name_kw (ld_blt I hg hm hv ?_)
  refine PyProof.Rows.callWith_builtin1 ?_ he (by rfl)
  rw [he]
  show wpAny _ _ (spliced ((false, eval (.GeneratorExp elt [⟨tg, iter, ifs, 0⟩] scope gpos) X.env) :: backTo pos (starEach [] X.env))) _ _ s
  refine Calls.spliced_cons (G.made I h fun H2 s4 fp u s' I4 f4 M => ?_)
  obtain ⟨a, gi, go, rfl, ha, ha', hgo, ego, hos, hb, kp, ig, hcl, live⟩ := made_live I4 M
  refine Calls.spliced_nil ?_
  have hname : (toString "max" ++ toString ".loop" : String) = "max.loop" := by decide
  refine call_function_tree F.kind_max F.plain_max F.entry_max (F.args_max1 _) ?_
  show wpAny _ X.A.in1 (Builtin.Builtins.bindParams "max" ["key", "default"] 0 ⟨[], []⟩ >>= _) _ _ s'
  refine wpAny_bind (wpAny_of_eq (show Builtin.Builtins.bindParams "max" ["key", "default"] 0 ⟨[], []⟩ = pure [none, none] from rfl) ?_)
  refine wpAny_bind (wpAny_pure ?_)
  refine wpAny_bind (wpAny_pyIter_gen ig ?_)
  refine wpAny_bind (wpAny_newObj_type ?_)
  rw [hname]
  have hSa : s'.heap.objs.size ≠ a := Nat.ne_of_gt ha'
  have h4 : s4.heap.objs.size < s'.heap.objs.size := Nat.lt_trans ha ha'
  have hSn : ∀ {o : Obj} {b : Addr} {u : Obj}, s'.heap.get? b = some u → (s'.heap.push o).get? b = some u := fun e => Heap.get?_push_of_some _ e
  refine wpAny_pure ⟨plainId_quiet F.plain_max_loop _, loop_max (K := fun i H' => Q (.int i) H') (S := s'.heap.objs.size) G.room.hd (by have := G.room.dp; omega) (Nat.le_of_lt h4) hSa (Nat.ne_of_gt (Nat.lt_trans hcl h4)) (fun ns x H' hm => hm) (fun ns H' hf => ?_) (fun i t H' s2 bk hK => ?_) sizeLine _
    (live _ s'.heap.objs.size (LkMM betmax) _ _ ((G.room.mono (show k + 3 ≤ k + 8 by omega)).in1.in1) I4.ok.frames h4 (fun z => absurd z hSa) (fun b o _ e => hSn e) (Heap.get?_push_size _ rfl) ⟨[], 0, rfl, .inl ⟨rfl, rfl⟩⟩ (fun v q => by cases q) rfl rfl) ⟨0, .inl (Heap.get?_push_size _ rfl)⟩⟩
  · obtain ⟨ns', m, e1, e2, e3⟩ := hf
    rw [map_int_inj e1]
    exact ⟨m, e2, e3⟩
  · exact ⟨.int i, H', inv_back I4 f4 bk, ⟨t, rfl⟩, hK⟩

theorem pe_minG (G : GenE X c P elt tg iter ifs scope own wi g tt te k) (hg : Gl X "min") (hm : X.mg "min" = none) (hv : bootBuiltins "min" = some (.builtin "min") := by decide +kernel)
    (he : starEach [.GeneratorExp elt [⟨tg, iter, ifs, 0⟩] scope gpos] X.env = (false, eval (.GeneratorExp elt [⟨tg, iter, ifs, 0⟩] scope gpos) X.env) :: starEach [] X.env := by rfl) :
    PE X (.Call (.Name "min" p) [.GeneratorExp elt [⟨tg, iter, ifs, 0⟩] scope gpos] [] pos) (tMMG betmin P wi g tt te (own.map (·.2))) := by
  refine ⟨fun pins s σ H Q I h => ?_⟩
  refine wpAny_Call_Name_kw (ld_blt I hg hm hv ?_)
  refine PyProof.Rows.callWith_builtin1 ?_ he (by rfl)
  rw [he]
  show wpAny _ _ (spliced ((false, eval (.GeneratorExp elt [⟨tg, iter, ifs, 0⟩] scope gpos) X.env) :: backTo pos (starEach [] X.env))) _ _ s
  refine Calls.spliced_cons (G.made I h fun H2 s4 fp u s' I4 f4 M => ?_)
  obtain ⟨a, gi, go, rfl, ha, ha', hgo, ego, hos, hb, kp, ig, hcl, live⟩ := made_live I4 M
  refine Calls.spliced_nil ?_
  have hname : (toString "min" ++ toString ".loop" : String) = "min.loop" := by decide
  refine call_function_tree F.kind_min F.plain_min F.entry_min (F.args_min1 _) ?_
  show wpAny _ X.A.in1 (Builtin.Builtins.bindParams "min" ["key", "default"] 0 ⟨[], []⟩ >>= _) _ _ s'
  refine wpAny_bind (wpAny_of_eq (show Builtin.Builtins.bindParams "min" ["key", "default"] 0 ⟨[], []⟩ = pure [none, none] from rfl) ?_)
  refine wpAny_bind (wpAny_pure ?_)
  refine wpAny_bind (wpAny_pyIter_gen ig ?_)
  refine wpAny_bind (wpAny_newObj_type ?_)
  rw [hname]
  have hSa : s'.heap.objs.size ≠ a := Nat.ne_of_gt ha'
  have h4 : s4.heap.objs.size < s'.heap.objs.size := Nat.lt_trans ha ha'
  have hSn : ∀ {o : Obj} {b : Addr} {u : Obj}, s'.heap.get? b = some u → (s'.heap.push o).get? b = some u := fun e => Heap.get?_push_of_some _ e
  refine wpAny_pure ⟨plainId_quiet F.plain_min_loop _, loop_min (K := fun i H' => Q (.int i) H') (S := s'.heap.objs.size) G.room.hd (by have := G.room.dp; omega) (Nat.le_of_lt h4) hSa (Nat.ne_of_gt (Nat.lt_trans hcl h4)) (fun ns x H' hm => hm) (fun ns H' hf => ?_) (fun i t H' s2 bk hK => ?_) sizeLine _
    (live _ s'.heap.objs.size (LkMM betmin) _ _ ((G.room.mono (show k + 3 ≤ k + 8 by omega)).in1.in1) I4.ok.frames h4 (fun z => absurd z hSa) (fun b o _ e => hSn e) (Heap.get?_push_size _ rfl) ⟨[], 0, rfl, .inl ⟨rfl, rfl⟩⟩ (fun v q => by cases q) rfl rfl) ⟨0, .inl (Heap.get?_push_size _ rfl)⟩⟩
  · obtain ⟨ns', m, e1, e2, e3⟩ := hf
    rw [map_int_inj e1]
    exact ⟨m, e2, e3⟩
  · exact ⟨.int i, H', inv_back I4 f4 bk, ⟨t, rfl⟩, hK⟩
end
end GX

set_option Elab.async false
set_option linter.all false
set_option maxRecDepth 100000
set_option maxHeartbeats 4000000
namespace GX
open PySem PySem.Spec PyProof.Rows L2 GenW
open GxR (TabB TabG Tabbed inv_tab)
open AutoSeq1 (wpAny_loadPart')

section
variable {P : Program} {w : World} {fs fp : List Addr} {H : Hp} {s₄ : Shared} {a : Addr} {gi : Nat} {mid : List V → V → Hp → Prop} {fin : List V → Hp → Prop}
theorem collect_live {A : Around} {E : Value → Shared → Prop} {s : Shared} {Q : List Value → Shared → Prop} (hh : A.handled = none) (hd : A.depth + 1 < recursionLimit) (ig : s.heap.IsGen a gi) (ha : a < s.heap.objs.size) (h4 : s₄.heap.objs.size < s.heap.objs.size) (hcl : cStatics < s.heap.objs.size)
    (live : ∀ (Lk : List V → Obj → Prop) (s2 : Shared) (o : Obj), (∀ b o, b ≠ s.heap.objs.size → s.heap.get? b = some o → s2.heap.get? b = some o) → s2.heap.get? s.heap.objs.size = some o → Lk [] o → (∀ v, o.data ≠ .cell v) → s2.os = s.os → s2.gens = s.gens →
      Live P w fs fp H s₄ s.heap.objs.size a gi Lk mid fin A.in1.in1 sizeLine s2)
    (hQ : ∀ (acc : Array Value) ys H' s', Bk P w fs fp H s₄ H' s' → Vals ys acc.toList → ys.length ≤ sizeLine → fin ys H' → H' s.heap.objs.size = none → Q acc.toList s') : wpAny (model P w) A (collect (.ref a)) Q E s := by
  have hSa : s.heap.objs.size ≠ a := Nat.ne_of_gt ha
  unfold collect
  refine wpAny_bind (wpAny_runValue (codeAny_builtin F.entry_proto_collect ?_))
  rw [Around.under_plainId F.plain_proto_collect _]
  show wpAny _ A.in1 (newList [] >>= fun l => again (.builtin "list.__iadd__" ⟨[l, .ref a], []⟩)) _ _ s
  refine wpAny_bind (wpAny_newObj_type ?_)
  refine wpAny_pure ⟨plainId_quiet F.plain_list_iadd _, codeAny_builtin F.entry_list_iadd ?_⟩
  rw [Around.under_plainId F.plain_list_iadd _]
  have ig1 : (s.heap.push (seqO #[] 0)).IsGen a gi := ig.keeps fun b o e => Heap.get?_push_of_some _ e
  show wpAny _ A.in1 (Builtin.List.listExtendWith (.ref s.heap.objs.size) (.ref a) (.ref s.heap.objs.size)) _ _ _
  unfold Builtin.List.listExtendWith
  refine wpAny_bind (wpAny_typeOf (Heap.IsGen.typeIs (s := { s with heap := s.heap.push (seqO #[] 0) }) ig1) ?_)
  have h1 : Builtin.List.listSameRef (.ref s.heap.objs.size) (.ref a) = false := by simp [Builtin.List.listSameRef, hSa]
  have h2 : (Value.type "generator" == Value.type "list") = false := by decide
  have h3 : (Value.type "generator" == Value.type "tuple") = false := by decide
  simp only [h1, h2, h3, Bool.or_false, Bool.false_eq_true, if_false]
  refine wpAny_bind (wpAny_pyIter_gen (s := { s with heap := s.heap.push (seqO #[] 0) }) ig1 ?_)
  refine wpAny_bind (wpAny_holding ?_)
  unfold Builtin.List.listLengthHint
  refine wpAny_bind (wpAny_specialOf (Heap.IsGen.typeIs (s := { s with heap := s.heap.push (seqO #[] 0) }) ig1) F.gen_no_len ?_)
  show wpAny _ A.in1 (specialOf (Value.ref a) (Str.ofString "__length_hint__") >>= _) _ _ _
  refine wpAny_bind (wpAny_specialOf (Heap.IsGen.typeIs (s := { s with heap := s.heap.push (seqO #[] 0) }) ig1) F.gen_no_hint ?_)
  refine wpAny_pure ?_
  show wpAny _ A.in1 (rule "list.extend.makes-room" >>= fun _ => Builtin.List.listTouch (.ref s.heap.objs.size) >>= fun _ =>
    again (.builtin "list.extend.loop" ⟨[.ref s.heap.objs.size, .ref a, .ref s.heap.objs.size], []⟩)) _ _ _
  refine wpAny_bind (wpAny_rule ?_)
  have hS1 : (s.heap.push (seqO #[] 0)).get? s.heap.objs.size = some (seqO #[] 0) := Heap.get?_push_size _ rfl
  refine wpAny_bind ?_
  show wpAny _ A.in1 (updateSeq s.heap.objs.size (·.push .none) >>= fun _ => updateSeq s.heap.objs.size (·.pop)) _ _ _
  refine wpAny_bind (wpAny_updateSeq hS1 rfl ?_)
  have hS2 := Heap.get?_update_self (Obj.mapSeq (·.push Value.none)) hS1 rfl
  refine wpAny_updateSeq hS2 rfl ?_
  have hS3 := Heap.get?_update_self (Obj.mapSeq (·.pop)) hS2 rfl
  have oth : ∀ b o, b ≠ s.heap.objs.size → s.heap.get? b = some o → (((s.heap.push (seqO #[] 0)).update s.heap.objs.size (Obj.mapSeq (·.push Value.none))).update s.heap.objs.size (Obj.mapSeq (·.pop))).get? b = some o :=
    fun b o hb e => (Heap.get?_update_other _ _ (Ne.symm hb)).trans ((Heap.get?_update_other _ _ (Ne.symm hb)).trans (Heap.get?_push_of_some _ e))
  refine wpAny_pure ⟨plainId_quiet F.plain_extend_loop _, loop_ext (A := A) hh hd (Nat.le_of_lt h4) hSa (Nat.ne_of_gt hcl) (fun ys acc c H' s' bk hS0 eS r hle hf => ?_) sizeLine _ (live LkExt _ _ oth hS3 ⟨#[], _, rfl, .nil⟩ (fun v q => by cases q) rfl rfl)⟩
  show wpAny _ A (load s.heap.objs.size >>= _) _ _ s'
  refine wpAny_bind (wpAny_load eS ?_)
  exact wpAny_pure (hQ acc ys H' s' bk r hle hf hS0)
end

section
variable {X : Cx} {c P : Addr} {elt tg iter : Expr} {ifs : List Expr} {scope : Scope} {gpos p pos : Pos} {own : List (Str × Nat)} {wi : TI} {g : TG} {tt : TT} {te : TE} {k : Nat}
theorem pe_tupG (G : GenE X c P elt tg iter ifs scope own wi g tt te k) (hg : Gl X "tuple") (hm : X.mg "tuple" = none) (hv : bootBuiltins "tuple" = some (.type "tuple") := by decide +kernel)
    (he : starEach [.GeneratorExp elt [⟨tg, iter, ifs, 0⟩] scope gpos] X.env = (false, eval (.GeneratorExp elt [⟨tg, iter, ifs, 0⟩] scope gpos) X.env) :: starEach [] X.env := by rfl) :
    PE X (.Call (.Name "tuple" p) [.GeneratorExp elt [⟨tg, iter, ifs, 0⟩] scope gpos] [] pos) (tTupG P wi g tt te (own.map (·.2))) := by
  refine ⟨fun pins s σ H Q I h => ?_⟩
  refine wpAny_Call_Name_kw (ld_blt I hg hm hv ?_)
  refine PyProof.Rows.callWith_type1 ?_ he (by rfl)
  rw [he]
  show wpAny _ _ (spliced ((false, eval (.GeneratorExp elt [⟨tg, iter, ifs, 0⟩] scope gpos) X.env) :: backTo pos (starEach [] X.env))) _ _ s
  refine Calls.spliced_cons (G.made I h fun H2 s4 fp u s' I4 f4 M => ?_)
  obtain ⟨a, gi, go, rfl, ha, ha', hgo, ego, hos, hb, kp, ig, hcl, live⟩ := made_live I4 M
  refine Calls.spliced_nil ?_
  have h4 : s4.heap.objs.size < s'.heap.objs.size := Nat.lt_trans ha ha'
  have hSa : s'.heap.objs.size ≠ a := Nat.ne_of_gt ha'
  refine callType_codes (Q₁ := fun obj s₁ => s₁.TypeIs obj "tuple" ∧ EP X pins σ Q obj s₁) F.called_tuple (F.typeCall_tuple_1 _) F.entry_object_init ?_
    fun obj s₁ h₁ => ⟨h₁.1, F.args_object_init_2 obj _, object_init_meets F.called_tuple.init.lookup F.called_tuple.made (by decide) X.prog X.w X.A.in1 _ s₁ ⟨h₁.1, rfl, h₁.2⟩⟩
  refine codeAny_of_tree ?_
  show wpAny _ X.A.in1.in1 (do checkBuiltinCall "tuple.__new__" ⟨[.type "tuple", .ref a], []⟩; again (.builtin "tuple.__new__" ⟨[.type "tuple", .ref a], []⟩)) _ _ s'
  refine wpAny_bind (wpAny_of_eq (F.newCall_tuple_1 _) (wpAny_pure ⟨plainId_quiet F.plain_tuple_new _, codeAny_builtin F.entry_tuple_new ?_⟩))
  rw [Around.under_plainId F.plain_tuple_new _]
  have hsub := sub_tuple_self
  have hinit := init_tuple_lookup
  have hmh := madeHere_tuple
  have hTI := Heap.IsGen.typeIs (s := s') ig
  have hcol : ∀ {E : Value → Shared → Prop} {Q2 : List Value → Shared → Prop}, (∀ (acc : Array Value) ys H' s2, Bk X.prog X.w (frs X.stack) fp H2 s4 H' s2 → Vals ys acc.toList → ys.length ≤ sizeLine → (∀ p, H' p = none → Q (.ref p) (upd H' p (.tup ys))) → H' s'.heap.objs.size = none → Q2 acc.toList s2) →
      wpAny (model X.prog X.w) X.A.in1.in1 (collect (.ref a)) Q2 E s' := fun {E Q2} hQ => by
    refine collect_live (P := X.prog) (w := X.w) (fs := frs X.stack) (fp := fp) (H := H2) (s₄ := s4) (mid := fun _ _ _ => True) (fin := fun ys H' => ∀ p, H' p = none → Q (.ref p) (upd H' p (.tup ys))) G.room.hd ?_ ig ha' h4 (Nat.lt_trans hcl h4) (fun Lk s2 o k2 hSo hL0 hSc os2 g2 => ?_) hQ
    · have := G.room.dp
      show X.A.depth + 1 < recursionLimit
      omega
    · exact live _ s'.heap.objs.size Lk s2 o ((G.room.mono (show k + 5 ≤ k + 8 by omega)).in1.in1.in1.in1) I4.ok.frames h4 (fun z => absurd z hSa) k2 hSo hL0 hSc os2 g2
  wp_walk using wpAny_typeOf hTI, hcol
  intro acc ys H' s2 bk r hle hf hS0
  show wpAny _ _ (Builtin.Tuple.tupleExact acc.toList.toArray >>= fun v => ret v) _ _ _
  unfold Builtin.Tuple.tupleExact
  have hsz : acc.size = ys.length := by
    have e1 := r.length
    have e2 : acc.toList.length = acc.size := by simp
    omega
  have e : acc.toList.toArray = acc := by simp
  rw [e]
  refine wpAny_bind (wpAny_newObj_type ?_ (by show acc.size ≤ sizeLine; omega))
  refine wpAny_pure ?_
  have J := inv_back I4 f4 bk
  refine ⟨⟨_, Heap.get?_push_size _ rfl, rfl⟩, .ref s2.heap.objs.size, upd H' s2.heap.objs.size (.tup ys), ?_, rfl, hf _ (J.hok.fresh (Nat.le_refl _))⟩
  exact J.laid (t' := s2.toks) (fun b o e => Heap.get?_push_of_some _ e) (Nat.le_refl _) ⟨hle, acc.toList, r, _, Heap.get?_push_size _ rfl, by simp⟩
end
end GX

set_option Elab.async false
set_option linter.all false
set_option maxRecDepth 100000
set_option maxHeartbeats 4000000
/-! Values by what they tell: a typed reading over the layer's readings. -/
namespace TP
open PySem PySem.Spec PyProof.Rows L2

/-! ### 1. relations -/
def Sub (H H' : Hp) : Prop := ∀ b o, H b = some o → H' b = some o
theorem Sub.refl (H : Hp) : Sub H H := fun _ _ e => e
theorem Sub.trans {H H1 H2 : Hp} (a : Sub H H1) (b : Sub H1 H2) : Sub H H2 := fun c o e => b c o (a c o e)
/-- what a value tells, over objects that stand -/
structure Rp (α : Type) where
  rep : Hp → V → α → Prop
  mono : ∀ {H H' : Hp} {v : V} {a : α}, Sub H H' → rep H v a → rep H' v a
def rInt : Rp Int := ⟨fun _ v a => v = .int a, fun _ h => h⟩
def rStr : Rp Str := ⟨fun _ v a => v = .str a, fun _ h => h⟩
def rBool : Rp Bool := ⟨fun _ v a => v = .bl a, fun _ h => h⟩
def rNon : Rp Unit := ⟨fun _ v _ => v = .non, fun _ h => h⟩
/-- the very value -/
def rV : Rp V := ⟨fun _ v a => v = a, fun _ h => h⟩
universe u v
inductive All2 {α : Type u} {β : Type v} (F : α → β → Prop) : List α → List β → Prop
  | nil : All2 F [] []
  | cons {a : α} {b : β} {as : List α} {bs : List β} : F a b → All2 F as bs → All2 F (a :: as) (b :: bs)
theorem All2.imp {α : Type u} {β : Type v} {F G : α → β → Prop} (h : ∀ a b, F a b → G a b) : ∀ {as : List α} {bs : List β}, All2 F as bs → All2 G as bs
  | _, _, .nil => .nil
  | _, _, .cons a r => .cons (h _ _ a) (All2.imp h r)
theorem All2.length {α : Type u} {β : Type v} {F : α → β → Prop} : ∀ {as : List α} {bs : List β}, All2 F as bs → as.length = bs.length
  | _, _, .nil => rfl
  | _, _, .cons _ r => congrArg (· + 1) r.length
theorem All2.append {α : Type u} {β : Type v} {F : α → β → Prop} : ∀ {as cs : List α} {bs ds : List β}, All2 F as bs → All2 F cs ds → All2 F (as ++ cs) (bs ++ ds)
  | _, _, _, _, .nil, h => h
  | _, _, _, _, .cons a r, h => .cons a (All2.append r h)
theorem All2.get {α : Type u} {β : Type v} {F : α → β → Prop} : ∀ {as : List α} {bs : List β} {i : Nat} {b : β}, All2 F as bs → bs[i]? = some b → ∃ a, as[i]? = some a ∧ F a b
  | _, _, _, _, .nil, e => by simp at e
  | _, _, 0, _, .cons a _, e => by simp at e; subst e; exact ⟨_, rfl, a⟩
  | _, _, i + 1, b, .cons _ r, e => by
    obtain ⟨x, h1, h2⟩ := All2.get (i := i) (b := b) r (by simpa using e)
    exact ⟨x, by simpa using h1, h2⟩
theorem All2.getL {α : Type u} {β : Type v} {F : α → β → Prop} : ∀ {as : List α} {bs : List β} {i : Nat} {a : α}, All2 F as bs → as[i]? = some a → ∃ b, bs[i]? = some b ∧ F a b
  | _, _, _, _, .nil, e => by simp at e
  | _, _, 0, _, .cons a _, e => by simp at e; subst e; exact ⟨_, rfl, a⟩
  | _, _, i + 1, b, .cons _ r, e => by
    obtain ⟨x, h1, h2⟩ := All2.getL (i := i) r (by simpa using e)
    exact ⟨x, by simpa using h1, h2⟩
/-- a list, a tuple of any length, of things of one kind -/
def rList {α : Type} (R : Rp α) : Rp (List α) := ⟨fun H v xs => ∃ p vs, v = .ref p ∧ H p = some (.lst vs) ∧ All2 (R.rep H) vs xs, fun k ⟨p, vs, e, h, r⟩ => ⟨p, vs, e, k _ _ h, r.imp fun _ _ => R.mono k⟩⟩
def rTup {α : Type} (R : Rp α) : Rp (List α) := ⟨fun H v xs => ∃ p vs, v = .ref p ∧ H p = some (.tup vs) ∧ All2 (R.rep H) vs xs, fun k ⟨p, vs, e, h, r⟩ => ⟨p, vs, e, k _ _ h, r.imp fun _ _ => R.mono k⟩⟩
/-- tuples of two, three, four places -/
def rT2 {α β : Type} (R : Rp α) (S : Rp β) : Rp (α × β) := ⟨fun H v x => ∃ p a b, v = .ref p ∧ H p = some (.tup [a, b]) ∧ R.rep H a x.1 ∧ S.rep H b x.2, fun k ⟨p, a, b, e, h, r, s⟩ => ⟨p, a, b, e, k _ _ h, R.mono k r, S.mono k s⟩⟩
def rT3 {α β γ : Type} (R : Rp α) (S : Rp β) (T : Rp γ) : Rp (α × β × γ) :=
  ⟨fun H v x => ∃ p a b c, v = .ref p ∧ H p = some (.tup [a, b, c]) ∧ R.rep H a x.1 ∧ S.rep H b x.2.1 ∧ T.rep H c x.2.2, fun k ⟨p, a, b, c, e, h, r, s, t⟩ => ⟨p, a, b, c, e, k _ _ h, R.mono k r, S.mono k s, T.mono k t⟩⟩
def rT4 {α β γ δ : Type} (R : Rp α) (S : Rp β) (T : Rp γ) (U : Rp δ) : Rp (α × β × γ × δ) :=
  ⟨fun H v x => ∃ p a b c d, v = .ref p ∧ H p = some (.tup [a, b, c, d]) ∧ R.rep H a x.1 ∧ S.rep H b x.2.1 ∧ T.rep H c x.2.2.1 ∧ U.rep H d x.2.2.2, fun k ⟨p, a, b, c, d, e, h, r, s, t, u⟩ => ⟨p, a, b, c, d, e, k _ _ h, R.mono k r, S.mono k s, T.mono k t, U.mono k u⟩⟩
/-- None or that -/
def rOpt {α : Type} (R : Rp α) : Rp (Option α) := ⟨fun H v x => match x with
  | none => v = .non
  | some a => R.rep H v a, fun {H H' v a} k h => by
    cases a with
    | none => exact h
    | some a => exact R.mono k h⟩
/-- this or that -/
def rSum {α β : Type} (R : Rp α) (S : Rp β) : Rp (Sum α β) := ⟨fun H v x => match x with
  | .inl a => R.rep H v a
  | .inr b => S.rep H v b, fun {H H' v a} k h => by
    cases a with
    | inl a => exact R.mono k h
    | inr b => exact S.mono k h⟩
/-- a dict with texts as keys, in order -/
def keyS (q : Str) : Key := Sum.inr q
def rDict {α : Type} (R : Rp α) : Rp (List (Str × α)) := ⟨fun H v xs => ∃ p kvs, v = .ref p ∧ H p = some (.dK kvs) ∧ All2 (fun q x => q.1 = keyS x.1 ∧ R.rep H q.2 x.2) kvs xs,
  fun k ⟨p, vs, e, h, r⟩ => ⟨p, vs, e, k _ _ h, r.imp fun _ _ z => ⟨z.1, R.mono k z.2⟩⟩⟩
/-- told through a function -/
def rMap {α β : Type} (f : β → α) (R : Rp α) : Rp β := ⟨fun H v b => R.rep H v (f b), fun k h => R.mono k h⟩

/-! ### 2. what is hidden, what is kept -/
/-- the heap without what may change -/
def hid (M : List Addr) (H : Hp) : Hp := fun b => if b ∈ M then none else H b
theorem hid_some {M : List Addr} {H : Hp} {b : Addr} {o : HO} (h : hid M H b = some o) : b ∉ M ∧ H b = some o := by
  unfold hid at h
  by_cases hb : b ∈ M
  · rw [if_pos hb] at h; cases h
  · rw [if_neg hb] at h; exact ⟨hb, h⟩
theorem hid_of {M : List Addr} {H : Hp} {b : Addr} {o : HO} (hb : b ∉ M) (h : H b = some o) : hid M H b = some o := by
  unfold hid
  rw [if_neg hb]; exact h
theorem hid_sub {M : List Addr} {H : Hp} : Sub (hid M H) H := fun b o e => (hid_some e).2
theorem hid_less {M M' : List Addr} {H : Hp} (h : ∀ b ∈ M', b ∈ M) : Sub (hid M H) (hid M' H) := fun b o e => hid_of (fun z => (hid_some e).1 (h b z)) (hid_some e).2
/-- kept but for what is in N -/
def Ex (N : List Addr) (H H' : Hp) : Prop := ∀ b o, b ∉ N → H b = some o → H' b = some o
theorem Ex.refl {N : List Addr} {H : Hp} : Ex N H H := fun _ _ _ e => e
theorem Ex.trans {N : List Addr} {H H1 H2 : Hp} (a : Ex N H H1) (b : Ex N H1 H2) : Ex N H H2 := fun c o n e => b c o n (a c o n e)
theorem Ex.more {N N' : List Addr} {H H' : Hp} (a : Ex N H H') (h : ∀ b ∈ N, b ∈ N') : Ex N' H H' := fun c o n e => a c o (fun z => n (h c z)) e
theorem Ex.hid {N M : List Addr} {H H' : Hp} (a : Ex N H H') (h : ∀ b ∈ N, b ∈ M) : Sub (hid M H) (hid M H') := fun b o e => hid_of (hid_some e).1 (a b o (fun z => (hid_some e).1 (h b z)) (hid_some e).2)
theorem Ex.new {N : List Addr} {H : Hp} {p : Addr} {o : HO} (h : H p = none) : Ex N H (upd H p o) := fun b u _ e => by
  rw [upd_ne (ne_of_none e h)]; exact e
theorem Ex.at {N : List Addr} {H H' : Hp} {p : Addr} {o : HO} (a : Ex N H H') (h : p ∈ N) : Ex N H (upd H' p o) := fun b u n e => by
  rw [upd_ne (fun z => n (by rw [z]; exact h))]; exact a b u n e
/-- the tables of code objects stand -/
def WF (G : List Addr) (H : Hp) : Prop := ∀ P ∈ G, GxR.TabG H P
structure Ok (G M : List Addr) (H : Hp) : Prop where
  sub : ∀ P ∈ G, P ∈ M
  al : ∀ m ∈ M, H m ≠ none
  wf : WF G H
theorem Ok.fresh {G M : List Addr} {H : Hp} {p : Addr} (k : Ok G M H) (h : H p = none) : p ∉ M := fun z => k.al p z h
theorem WF.new {G : List Addr} {H : Hp} {p : Addr} {o : HO} (w : WF G H) (h : H p = none) : WF G (upd H p o) := fun P hP => by
  obtain ⟨ps, e, t⟩ := w P hP
  exact ⟨ps, by rw [upd_ne (ne_of_none e h)]; exact e, t⟩
theorem Ok.new {G M : List Addr} {H : Hp} {p : Addr} {o : HO} (k : Ok G M H) (h : H p = none) : Ok G M (upd H p o) := ⟨k.sub, fun m hm z => by
  by_cases e : m = p
  · rw [e, upd_same] at z; cases z
  · rw [upd_ne e] at z; exact k.al m hm z, k.wf.new h⟩
theorem hid_new {M : List Addr} {H : Hp} {p : Addr} {o : HO} (hp : p ∉ M) (h : H p = none) : Sub (hid M H) (hid M (upd H p o)) := (Ex.new (N := []) h).hid (by simp)

/-! ### 3. slots -/
/-- an owned thing: what is hidden, the whole heap, its own addresses in order, its value -/
structure Ow where
  own : Hp → Hp → List Addr → V → Prop
  mono : ∀ {h h' H H' : Hp} {ps : List Addr} {v : V}, Sub h h' → (∀ p ∈ ps, H' p = H p) → own h H ps v → own h' H' ps v
inductive Sl where
  | no
  | val {α : Type} (R : Rp α) (a : α)
  | own (O : Ow)
/-- an owned list, its address known by c -/
def oLstP {α : Type} (c : Addr → Prop) (R : Rp α) (xs : List α) : Ow := ⟨fun h H ps v => ∃ p vs, c p ∧ v = .ref p ∧ ps = [p] ∧ H p = some (.lst vs) ∧ All2 (R.rep h) vs xs, fun k e ⟨p, vs, hc, e1, e2, e3, r⟩ =>
  ⟨p, vs, hc, e1, e2, by rw [e p (by rw [e2]; exact List.mem_singleton.mpr rfl)]; exact e3, r.imp fun _ _ => R.mono k⟩⟩
abbrev oLst {α : Type} (R : Rp α) (xs : List α) : Ow := oLstP (fun _ => True) R xs
/-- an owned dict with texts as keys -/
def oDct {α : Type} (R : Rp α) (xs : List (Str × α)) : Ow := ⟨fun h H ps v => ∃ p kvs, v = .ref p ∧ ps = [p] ∧ H p = some (.dK kvs) ∧ All2 (fun q x => q.1 = keyS x.1 ∧ R.rep h q.2 x.2) kvs xs, fun k e ⟨p, vs, e1, e2, e3, r⟩ =>
  ⟨p, vs, e1, e2, by rw [e p (by rw [e2]; exact List.mem_singleton.mpr rfl)]; exact e3, r.imp fun _ _ z => ⟨z.1, R.mono k z.2⟩⟩⟩
abbrev Ctx := List Sl
def EnvR (h H : Hp) : L2.St → Ctx → List Addr → Prop
  | [], [], ps => ps = []
  | _ :: σ, .no :: Γ, ps => EnvR h H σ Γ ps
  | ov :: σ, .val R a :: Γ, ps => (∃ v, ov = some v ∧ R.rep h v a) ∧ EnvR h H σ Γ ps
  | ov :: σ, .own O :: Γ, ps => ∃ v p1 p2, ov = some v ∧ ps = p1 ++ p2 ∧ O.own h H p1 v ∧ EnvR h H σ Γ p2
  | _, _, _ => False
structure Env (G M : List Addr) (H : Hp) (own : List Addr) (σ : L2.St) (Γ : Ctx) : Prop where
  nd : own.Nodup
  sub : ∀ p ∈ own, p ∈ M
  out : ∀ p ∈ own, p ∉ G
  env : EnvR (hid M H) H σ Γ own
theorem EnvR.mono {h h' H H' : Hp} (k : Sub h h') : ∀ {σ : L2.St} {Γ : Ctx} {ps : List Addr}, (∀ p ∈ ps, H' p = H p) → EnvR h H σ Γ ps → EnvR h' H' σ Γ ps
  | [], [], _, _, x => x
  | _ :: σ, .no :: Γ, ps, e, x => EnvR.mono (σ := σ) (Γ := Γ) k e x
  | ov :: σ, .val R a :: Γ, ps, e, ⟨⟨v, e1, r⟩, x⟩ => ⟨⟨v, e1, R.mono k r⟩, EnvR.mono (σ := σ) (Γ := Γ) k e x⟩
  | ov :: σ, .own O :: Γ, ps, e, ⟨v, p1, p2, e1, e2, r, x⟩ => ⟨v, p1, p2, e1, e2, O.mono k (fun p hp => e p (by rw [e2]; exact List.mem_append_left _ hp)) r, EnvR.mono (σ := σ) (Γ := Γ) k (fun p hp => e p (by rw [e2]; exact List.mem_append_right _ hp)) x⟩
  | [], .no :: _, _, _, x => x.elim
  | [], .val _ _ :: _, _, _, x => x.elim
  | [], .own _ :: _, _, _, x => x.elim
  | _ :: _, [], _, _, x => x.elim
theorem EnvR.length {h H : Hp} : ∀ {σ : L2.St} {Γ : Ctx} {ps : List Addr}, EnvR h H σ Γ ps → σ.length = Γ.length
  | [], [], _, _ => rfl
  | _ :: σ, .no :: Γ, ps, x => congrArg (· + 1) (EnvR.length (σ := σ) (Γ := Γ) x)
  | ov :: σ, .val R a :: Γ, ps, ⟨_, x⟩ => congrArg (· + 1) (EnvR.length (σ := σ) (Γ := Γ) x)
  | ov :: σ, .own O :: Γ, ps, ⟨v, p1, p2, e1, e2, r, x⟩ => congrArg (· + 1) (EnvR.length (σ := σ) (Γ := Γ) x)
  | [], .no :: _, _, x => x.elim
  | [], .val _ _ :: _, _, x => x.elim
  | [], .own _ :: _, _, x => x.elim
  | _ :: _, [], _, x => x.elim
theorem EnvR.get {h H : Hp} {α : Type} {R : Rp α} {a : α} : ∀ {σ : L2.St} {Γ : Ctx} {ps : List Addr} {i : Nat}, EnvR h H σ Γ ps → Γ[i]? = some (.val R a) → ∃ v, σ[i]? = some (some v) ∧ R.rep h v a
  | [], [], _, _, _, e => by simp at e
  | _ :: σ, .no :: Γ, ps, 0, x, e => by simp at e
  | _ :: σ, .no :: Γ, ps, i + 1, x, e => by
    obtain ⟨v, h1, h2⟩ := EnvR.get (σ := σ) (Γ := Γ) (i := i) x (by simpa using e)
    exact ⟨v, by simpa using h1, h2⟩
  | ov :: σ, .val R' a' :: Γ, ps, 0, ⟨⟨v, e1, r⟩, x⟩, e => by
    simp at e
    obtain ⟨e2, e3, e4⟩ := e
    subst e2
    cases e3
    cases e4
    exact ⟨v, by simp [e1], r⟩
  | ov :: σ, .val R' a' :: Γ, ps, i + 1, ⟨_, x⟩, e => by
    obtain ⟨v, h1, h2⟩ := EnvR.get (σ := σ) (Γ := Γ) (i := i) x (by simpa using e)
    exact ⟨v, by simpa using h1, h2⟩
  | ov :: σ, .own O :: Γ, ps, 0, x, e => by simp at e
  | ov :: σ, .own O :: Γ, ps, i + 1, ⟨v, p1, p2, e1, e2, r, x⟩, e => by
    obtain ⟨v, h1, h2⟩ := EnvR.get (σ := σ) (Γ := Γ) (i := i) x (by simpa using e)
    exact ⟨v, by simpa using h1, h2⟩
  | [], .no :: _, _, _, x, _ => x.elim
  | [], .val _ _ :: _, _, _, x, _ => x.elim
  | [], .own _ :: _, _, _, x, _ => x.elim
  | _ :: _, [], _, _, x, _ => x.elim
/-- a slot is stored that holds nothing of one's own -/
def Plain : Sl → Prop
  | .own _ => False
  | _ => True
theorem EnvR.set {h H : Hp} {α : Type} {R : Rp α} {a : α} {v : V} (r : R.rep h v a) : ∀ {σ : L2.St} {Γ : Ctx} {ps : List Addr} {i : Nat}, EnvR h H σ Γ ps → (∀ s, Γ[i]? = some s → Plain s) → EnvR h H (σ.set i (some v)) (Γ.set i (.val R a)) ps
  | [], [], _, _, x, _ => x
  | _ :: σ, .no :: Γ, ps, 0, x, e => ⟨⟨v, rfl, r⟩, x⟩
  | _ :: σ, .no :: Γ, ps, i + 1, x, e => EnvR.set r (σ := σ) (Γ := Γ) (i := i) x fun s z => e s (by simpa using z)
  | ov :: σ, .val R' a' :: Γ, ps, 0, ⟨_, x⟩, e => ⟨⟨v, rfl, r⟩, x⟩
  | ov :: σ, .val R' a' :: Γ, ps, i + 1, ⟨y, x⟩, e => ⟨y, EnvR.set r (σ := σ) (Γ := Γ) (i := i) x fun s z => e s (by simpa using z)⟩
  | ov :: σ, .own O :: Γ, ps, 0, x, e => (e (.own O) (by simp)).elim
  | ov :: σ, .own O :: Γ, ps, i + 1, ⟨w, p1, p2, e1, e2, y, x⟩, e => ⟨w, p1, p2, e1, e2, y, EnvR.set r (σ := σ) (Γ := Γ) (i := i) x fun s z => e s (by simpa using z)⟩
  | [], .no :: _, _, _, x, _ => x.elim
  | [], .val _ _ :: _, _, _, x, _ => x.elim
  | [], .own _ :: _, _, _, x, _ => x.elim
  | _ :: _, [], _, _, x, _ => x.elim
/-- forgetting a slot -/
inductive Le : Ctx → Ctx → Prop
  | nil : Le [] []
  | no {s : Sl} {Γ Γ' : Ctx} : Plain s → Le Γ Γ' → Le (s :: Γ) (.no :: Γ')
  | same {s : Sl} {Γ Γ' : Ctx} : Le Γ Γ' → Le (s :: Γ) (s :: Γ')
theorem Le.refl : ∀ Γ : Ctx, Le Γ Γ
  | [] => .nil
  | _ :: Γ => .same (Le.refl Γ)
theorem EnvR.le {h H : Hp} {Γ Γ' : Ctx} (l : Le Γ Γ') : ∀ {σ : L2.St} {ps : List Addr}, EnvR h H σ Γ ps → EnvR h H σ Γ' ps := by
  induction l with
  | nil => intro σ ps x; exact x
  | @no s Γ Γ' p _ ih =>
    intro σ ps x
    cases σ with
    | nil => cases s <;> exact x.elim
    | cons ov σ =>
      cases s with
      | no => exact ih (σ := σ) x
      | val R a => exact ih (σ := σ) x.2
      | own O => exact p.elim
  | @same s Γ Γ' _ ih =>
    intro σ ps x
    cases σ with
    | nil => cases s <;> exact x.elim
    | cons ov σ =>
      cases s with
      | no => exact ih (σ := σ) x
      | val R a => exact ⟨x.1, ih (σ := σ) x.2⟩
      | own O =>
        obtain ⟨v, p1, p2, e1, e2, r, x⟩ := x
        exact ⟨v, p1, p2, e1, e2, r, ih (σ := σ) x⟩
end TP

set_option Elab.async false
set_option linter.all false
set_option maxRecDepth 100000
set_option maxHeartbeats 4000000
namespace TP
open PySem PySem.Spec PyProof.Rows L2

section
variable {G M own : List Addr} {H H' : Hp} {σ : L2.St} {Γ Γ' Γ1 Γ2 Γ3 Γ4 : Ctx}
theorem Env.al (k : Ok G M H) (e : Env G M H own σ Γ) {p : Addr} (hp : p ∈ own) : ∃ o, H p = some o := by
  cases h : H p with
  | none => exact (k.al p (e.sub p hp) h).elim
  | some o => exact ⟨o, rfl⟩
theorem Env.allSub (k : Ok G M H) (e : Env G M H own σ Γ) : ∀ b ∈ G ++ own, b ∈ M := fun b hb => (List.mem_append.mp hb).elim (k.sub b) (e.sub b)
/-- behind what changes none of one's own -/
theorem Env.ext (k : Ok G M H) (e : Env G M H own σ Γ) (x : Ex G H H') : Env G M H' own σ Γ :=
  ⟨e.nd, e.sub, e.out, e.env.mono (x.hid k.sub) fun p hp => by
    obtain ⟨o, h⟩ := e.al k hp
    rw [h, x p o (e.out p hp) h]⟩
theorem Ok.ext (k : Ok G M H) (x : Ex G H H') (w : WF G H') : Ok G M H' := by
  refine ⟨k.sub, fun m hm z => ?_, w⟩
  by_cases hG : m ∈ G
  · obtain ⟨ps, e, _⟩ := w m hG
    rw [e] at z; cases z
  · cases h : H m with
    | none => exact k.al m hm h
    | some o => rw [x m o hG h] at z; cases z

/-! ### the judgements -/
/-- te gives what tells a by R; the slots' things are then those of Γ' -/
def E (G : List Addr) (Γ : Ctx) (te : TE) (Γ' : Ctx) {α : Type} (R : Rp α) (a : α) : Prop :=
  ∀ M own σ H, Ok G M H → Env G M H own σ Γ → ∀ Q : VK, (∀ v H', Ex (G ++ own) H H' → Ok G M H' → Env G M H' own σ Γ' → R.rep (hid M H') v a → Q v H') → te σ H Q
def ET (G : List Addr) (Γ : Ctx) (tt : TT) (Γ' : Ctx) (b : Bool) : Prop :=
  ∀ M own σ H, Ok G M H → Env G M H own σ Γ → ∀ Q : Bool → Hp → Prop, (∀ H', Ex (G ++ own) H H' → Ok G M H' → Env G M H' own σ Γ' → Q b H') → tt σ H Q
structure Dy where
  {α : Type}
  R : Rp α
  a : α
def EA (G : List Addr) (Γ : Ctx) (ta : TA) (Γ' : Ctx) (ds : List Dy) : Prop :=
  ∀ M own σ H, Ok G M H → Env G M H own σ Γ → ∀ Q : List V → Hp → Prop, (∀ vs H', Ex (G ++ own) H H' → Ok G M H' → Env G M H' own σ Γ' → All2 (fun v (d : Dy) => d.R.rep (hid M H') v d.a) vs ds → Q vs H') → ta σ H Q
/-- two operands by their values -/
def Op2 (G : List Addr) (r : R2) {α β γ : Type} (R : Rp α) (x : α) (S : Rp β) (y : β) (T : Rp γ) (z : γ) : Prop :=
  ∀ M H v u (Q : VK), Ok G M H → R.rep (hid M H) v x → S.rep (hid M H) u y → (∀ w H', Ex G H H' → Ok G M H' → T.rep (hid M H') w z → Q w H') → r v u H Q
def Cl (G : List Addr) (r : List V → Hp → VK → Prop) (ds : List Dy) {γ : Type} (T : Rp γ) (z : γ) : Prop :=
  ∀ M H vs (Q : VK), Ok G M H → All2 (fun v (d : Dy) => d.R.rep (hid M H) v d.a) vs ds → (∀ w H', Ex G H H' → Ok G M H' → T.rep (hid M H') w z → Q w H') → r vs H Q

variable {α β γ δ : Type} {R : Rp α} {S : Rp β} {T : Rp γ} {U : Rp δ} {x : α} {y : β} {z : γ} {ta tb tc te : TE} {tt tu : TT} {r : R2}
theorem e_is {x' : α} (h : E G Γ te Γ' R x) (e : x = x') : E G Γ te Γ' R x' := e ▸ h
theorem e_var {i : Nat} (h : Γ[i]? = some (.val R x)) : E G Γ (tVar i) Γ R x := fun M own σ H k e Q q => by
  obtain ⟨v, h1, h2⟩ := e.env.get h
  exact ⟨v, h1, q v H Ex.refl k e h2⟩
theorem e_int {i : Int} : E G Γ (tC (.int i)) Γ rInt i := fun M own σ H k e Q q => q _ H Ex.refl k e rfl
theorem e_str {i : Str} : E G Γ (tC (.str i)) Γ rStr i := fun M own σ H k e Q q => q _ H Ex.refl k e rfl
theorem e_bl {i : Bool} : E G Γ (tC (.bl i)) Γ rBool i := fun M own σ H k e Q q => q _ H Ex.refl k e rfl
theorem e_non : E G Γ (tC .non) Γ rNon () := fun M own σ H k e Q q => q _ H Ex.refl k e rfl
theorem e_v {v : V} : E G Γ (tC v) Γ rV v := fun M own σ H k e Q q => q _ H Ex.refl k e rfl
theorem e_op (ha : E G Γ ta Γ1 R x) (hb : E G Γ1 tb Γ2 S y) (hr : Op2 G r R x S y T z) : E G Γ (tOp r ta tb) Γ2 T z := fun M own σ H k e Q q =>
  ha M own σ H k e _ fun v H1 x1 k1 e1 r1 => hb M own σ H1 k1 e1 _ fun u H2 x2 k2 e2 r2 => hr M H2 v u Q k2 (R.mono (x2.hid (e1.allSub k1)) r1) r2 fun w H3 x3 k3 r3 =>
    q w H3 ((x1.trans x2).trans (x3.more fun b hb => List.mem_append_left _ hb)) k3 (e2.ext k2 x3) r3
theorem op_I0 {g : Int → Int → V} {f : Int → Int → γ} {i j : Int} (h : ∀ H, T.rep H (g i j) (f i j)) : Op2 G (rI0 g) rInt i rInt j T (f i j) := fun M H v u Q k rv ru q => by
  subst rv ru
  exact ⟨i, j, rfl, rfl, q _ H Ex.refl k (h _)⟩
theorem op_I {C : Int → Int → Prop} {g : Int → Int → V} {f : Int → Int → γ} {i j : Int} (hc : C i j) (h : ∀ H, T.rep H (g i j) (f i j)) : Op2 G (rI C g) rInt i rInt j T (f i j) := fun M H v u Q k rv ru q => by
  subst rv ru
  exact ⟨i, j, rfl, rfl, hc, q _ H Ex.refl k (h _)⟩
section
variable {i j : Int}
theorem e_add (ha : E G Γ ta Γ1 rInt i) (hb : E G Γ1 tb Γ2 rInt j) : E G Γ (tOp (rI0 fun i j => .int (i + j)) ta tb) Γ2 rInt (i + j) := e_op ha hb (op_I0 (f := fun i j => i + j) fun _ => rfl)
theorem e_sub (ha : E G Γ ta Γ1 rInt i) (hb : E G Γ1 tb Γ2 rInt j) : E G Γ (tOp (rI0 fun i j => .int (i - j)) ta tb) Γ2 rInt (i - j) := e_op ha hb (op_I0 (f := fun i j => i - j) fun _ => rfl)
theorem e_mul (ha : E G Γ ta Γ1 rInt i) (hb : E G Γ1 tb Γ2 rInt j) (hc : CMul i j) : E G Γ (tOp (rI CMul fun i j => .int (i * j)) ta tb) Γ2 rInt (i * j) := e_op ha hb (op_I (f := fun i j => i * j) hc fun _ => rfl)
theorem e_mulW (ha : E G Γ ta Γ1 rInt i) (hb : E G Γ1 tb Γ2 rInt j) (hc : CMulW i j) : E G Γ (tOp (rI CMulW fun i j => .int (i * j)) ta tb) Γ2 rInt (i * j) := e_op ha hb (op_I (f := fun i j => i * j) hc fun _ => rfl)
theorem e_fdiv (ha : E G Γ ta Γ1 rInt i) (hb : E G Γ1 tb Γ2 rInt j) (hc : CDiv i j) : E G Γ (tOp (rI CDiv fun i j => .int (i / j)) ta tb) Γ2 rInt (i / j) := e_op ha hb (op_I (f := fun i j => i / j) hc fun _ => rfl)
theorem e_fdivW (ha : E G Γ ta Γ1 rInt i) (hb : E G Γ1 tb Γ2 rInt j) (hc : CDivW i j) : E G Γ (tOp (rI CDivW fun i j => .int (i / j)) ta tb) Γ2 rInt (i / j) := e_op ha hb (op_I (f := fun i j => i / j) hc fun _ => rfl)
theorem e_mod (ha : E G Γ ta Γ1 rInt i) (hb : E G Γ1 tb Γ2 rInt j) (hc : 0 < j) : E G Γ (tOp (rI (fun _ j => 0 < j) fun i j => .int (i % j)) ta tb) Γ2 rInt (i % j) := e_op ha hb (op_I (f := fun i j => i % j) hc fun _ => rfl)
theorem e_neg (ha : E G Γ ta Γ1 rInt i) : E G Γ (tUn (rU fun i => .int (-i)) ta) Γ1 rInt (-i) := fun M own σ H k e Q q =>
  ha M own σ H k e _ fun v H1 x1 k1 e1 r1 => ⟨i, r1, q _ H1 x1 k1 e1 rfl⟩
theorem e_lt (ha : E G Γ ta Γ1 rInt i) (hb : E G Γ1 tb Γ2 rInt j) : E G Γ (tOp (rI0 fun i j => .bl (decide (i < j))) ta tb) Γ2 rBool (decide (i < j)) := e_op ha hb (op_I0 (f := fun i j => decide (i < j)) fun _ => rfl)
theorem e_le (ha : E G Γ ta Γ1 rInt i) (hb : E G Γ1 tb Γ2 rInt j) : E G Γ (tOp (rI0 fun i j => .bl (decide (i ≤ j))) ta tb) Γ2 rBool (decide (i ≤ j)) := e_op ha hb (op_I0 (f := fun i j => decide (i ≤ j)) fun _ => rfl)
theorem e_gt (ha : E G Γ ta Γ1 rInt i) (hb : E G Γ1 tb Γ2 rInt j) : E G Γ (tOp (rI0 fun i j => .bl (decide (j < i))) ta tb) Γ2 rBool (decide (j < i)) := e_op ha hb (op_I0 (f := fun i j => decide (j < i)) fun _ => rfl)
theorem e_ge (ha : E G Γ ta Γ1 rInt i) (hb : E G Γ1 tb Γ2 rInt j) : E G Γ (tOp (rI0 fun i j => .bl (decide (j ≤ i))) ta tb) Γ2 rBool (decide (j ≤ i)) := e_op ha hb (op_I0 (f := fun i j => decide (j ≤ i)) fun _ => rfl)
theorem e_eqI (ha : E G Γ ta Γ1 rInt i) (hb : E G Γ1 tb Γ2 rInt j) : E G Γ (tOp rEq ta tb) Γ2 rBool (decide (i = j)) := e_op ha hb fun M H v u Q k rv ru q => by
  subst rv ru
  exact ⟨rfl, q _ H Ex.refl k (by show V.bl _ = V.bl _; simp)⟩
theorem e_neI (ha : E G Γ ta Γ1 rInt i) (hb : E G Γ1 tb Γ2 rInt j) : E G Γ (tOp rNe ta tb) Γ2 rBool (!decide (i = j)) := e_op ha hb fun M H v u Q k rv ru q => by
  subst rv ru
  exact ⟨rfl, q _ H Ex.refl k (by show V.bl _ = V.bl _; simp)⟩
theorem e_abs {tr : TA} (ha : EA G Γ tr Γ1 [⟨rInt, i⟩]) : E G Γ (tCB (fun xs H Q => ∃ i, xs = [.int i] ∧ Q (.int (if i < 0 then -i else i)) H) tr) Γ1 rInt (if i < 0 then -i else i) := fun M own σ H k e Q q =>
  ha M own σ H k e _ fun vs H1 x1 k1 e1 r1 => by
    cases r1 with
    | cons h r => cases r; cases h; exact ⟨i, rfl, q _ H1 x1 k1 e1 rfl⟩
end
section
variable {i j : Str}
theorem e_eqS (ha : E G Γ ta Γ1 rStr i) (hb : E G Γ1 tb Γ2 rStr j) : E G Γ (tOp rEq ta tb) Γ2 rBool (decide (i = j)) := e_op ha hb fun M H v u Q k rv ru q => by
  subst rv ru
  exact ⟨rfl, q _ H Ex.refl k (by show V.bl _ = V.bl _; simp)⟩
theorem e_neS (ha : E G Γ ta Γ1 rStr i) (hb : E G Γ1 tb Γ2 rStr j) : E G Γ (tOp rNe ta tb) Γ2 rBool (!decide (i = j)) := e_op ha hb fun M H v u Q k rv ru q => by
  subst rv ru
  exact ⟨rfl, q _ H Ex.refl k (by show V.bl _ = V.bl _; simp)⟩
theorem e_cat (ha : E G Γ ta Γ1 rStr i) (hb : E G Γ1 tb Γ2 rStr j) (hl : i.length + j.length ≤ sizeLine) : E G Γ (tOp (fun x y H Q => ∃ i j, x = .str i ∧ y = .str j ∧ i.length + j.length ≤ sizeLine ∧ Q (.str (i ++ j)) H) ta tb) Γ2 rStr (i ++ j) := e_op ha hb fun M H v u Q k rv ru q => by
  subst rv ru
  exact ⟨i, j, rfl, rfl, hl, q _ H Ex.refl k rfl⟩
end
/-! ### truth -/
section
variable {b c d : Bool}
theorem t_of (h : E G Γ te Γ' rBool b) : ET G Γ (tTest te) Γ' b := fun M own σ H k e Q q => h M own σ H k e _ fun v H1 x1 k1 e1 r1 => ⟨b, r1, q H1 x1 k1 e1⟩
theorem t_B (h : E G Γ te Γ' rBool b) : ET G Γ (tB te) Γ' b := fun M own σ H k e Q q => h M own σ H k e _ fun v H1 x1 k1 e1 r1 => ⟨b, r1, q H1 x1 k1 e1⟩
theorem t_is {b' : Bool} (h : ET G Γ tt Γ' b) (e : b = b') : ET G Γ tt Γ' b' := e ▸ h
theorem t_not (h : ET G Γ tt Γ' b) : ET G Γ (tNot tt) Γ' (!b) := fun M own σ H k e Q q => h M own σ H k e _ q
theorem t_and (h : ET G Γ tt Γ b) (h2 : b = true → ET G Γ tu Γ c) : ET G Γ (tAnd tt tu) Γ (b && c) := fun M own σ H k e Q q => h M own σ H k e _ fun H1 x1 k1 e1 => by
  cases b with
  | true => exact h2 rfl M own σ H1 k1 e1 _ fun H2 x2 k2 e2 => q H2 (x1.trans x2) k2 e2
  | false => exact q H1 x1 k1 e1
theorem t_or (h : ET G Γ tt Γ b) (h2 : b = false → ET G Γ tu Γ c) : ET G Γ (tOr tt tu) Γ (b || c) := fun M own σ H k e Q q => h M own σ H k e _ fun H1 x1 k1 e1 => by
  cases b with
  | true => exact q H1 x1 k1 e1
  | false => exact h2 rfl M own σ H1 k1 e1 _ fun H2 x2 k2 e2 => q H2 (x1.trans x2) k2 e2
theorem t_yes : ET G Γ tYes Γ true := fun M own σ H k e Q q => q H Ex.refl k e
theorem e_and (h : E G Γ ta Γ rBool b) (h2 : b = true → E G Γ tb Γ rBool c) : E G Γ (tAndV ta tb) Γ rBool (b && c) := fun M own σ H k e Q q => h M own σ H k e _ fun v H1 x1 k1 e1 r1 => ⟨b, r1, by
  cases b with
  | true => exact h2 rfl M own σ H1 k1 e1 _ fun w H2 x2 k2 e2 r2 => q w H2 (x1.trans x2) k2 e2 r2
  | false => exact q _ H1 x1 k1 e1 rfl⟩
theorem e_or (h : E G Γ ta Γ rBool b) (h2 : b = false → E G Γ tb Γ rBool c) : E G Γ (tOrV ta tb) Γ rBool (b || c) := fun M own σ H k e Q q => h M own σ H k e _ fun v H1 x1 k1 e1 r1 => ⟨b, r1, by
  cases b with
  | true => exact q _ H1 x1 k1 e1 rfl
  | false => exact h2 rfl M own σ H1 k1 e1 _ fun w H2 x2 k2 e2 r2 => q w H2 (x1.trans x2) k2 e2 r2⟩
theorem e_not (h : E G Γ ta Γ' rBool b) : E G Γ (tNotV ta) Γ' rBool (!b) := fun M own σ H k e Q q => h M own σ H k e _ fun v H1 x1 k1 e1 r1 => ⟨b, r1, q _ H1 x1 k1 e1 rfl⟩
theorem e_if (h : ET G Γ tt Γ b) (h1 : b = true → E G Γ ta Γ' R x) (h2 : b = false → E G Γ tb Γ' R x) : E G Γ (tIf tt ta tb) Γ' R x := fun M own σ H k e Q q => h M own σ H k e _ fun H1 x1 k1 e1 => by
  cases b with
  | true => exact h1 rfl M own σ H1 k1 e1 _ fun w H2 x2 k2 e2 r2 => q w H2 (x1.trans x2) k2 e2 r2
  | false => exact h2 rfl M own σ H1 k1 e1 _ fun w H2 x2 k2 e2 r2 => q w H2 (x1.trans x2) k2 e2 r2
/-- .. both ways told at once -/
theorem e_ite {x y : α} (h : ET G Γ tt Γ b) (h1 : b = true → E G Γ ta Γ' R x) (h2 : b = false → E G Γ tb Γ' R y) : E G Γ (tIf tt ta tb) Γ' R (if b = true then x else y) :=
  e_if h (fun e => by rw [if_pos e]; exact h1 e) (fun e => by rw [if_neg (by rw [e]; exact Bool.false_ne_true)]; exact h2 e)
/-- a < b < c -/
theorem e_chain {r r' : R2} {z : γ} (ha : E G Γ ta Γ R x) (hb : E G Γ tb Γ S y) (hr : Op2 G r R x S y rBool b) (hc : b = true → E G Γ tc Γ T z) (hr' : Op2 G r' S y T z rBool c) : E G Γ (tChain r r' ta tb tc) Γ rBool (b && c) := fun M own σ H k e Q q =>
  ha M own σ H k e _ fun v H1 x1 k1 e1 r1 => hb M own σ H1 k1 e1 _ fun u H2 x2 k2 e2 r2 => hr M H2 v u _ k2 (R.mono (x2.hid (e1.allSub k1)) r1) r2 fun w H3 x3 k3 r3 => ⟨b, r3, by
    have x3' := x3.more (N' := G ++ own) fun b hb => List.mem_append_left _ hb
    have e3 := e2.ext k2 x3
    cases b with
    | true =>
      refine hc rfl M own σ H3 k3 e3 _ fun t H4 x4 k4 e4 r4 => hr' M H4 u t Q k4 (S.mono ((x3'.trans x4).hid (e2.allSub k2)) r2) r4 fun w5 H5 x5 k5 r5 => ?_
      exact q w5 H5 ((((x1.trans x2).trans x3').trans x4).trans (x5.more fun b hb => List.mem_append_left _ hb)) k5 (e4.ext k4 x5) r5
    | false => exact q _ H3 ((x1.trans x2).trans x3') k3 e3 rfl⟩
end
/-! ### arguments, displays -/
theorem a_nil : EA G Γ tNil Γ [] := fun M own σ H k e Q q => q [] H Ex.refl k e .nil
theorem a_cons {tr : TA} {ds : List Dy} (h : E G Γ te Γ1 R x) (hr : EA G Γ1 tr Γ2 ds) : EA G Γ (tCons te tr) Γ2 (⟨R, x⟩ :: ds) := fun M own σ H k e Q q =>
  h M own σ H k e _ fun v H1 x1 k1 e1 r1 => hr M own σ H1 k1 e1 _ fun vs H2 x2 k2 e2 r2 => q (v :: vs) H2 (x1.trans x2) k2 e2 (.cons (R.mono (x2.hid (e1.allSub k1)) r1) r2)
theorem small_len {n : Nat} (h : n ≤ 100000) : n ≤ sizeLine := Nat.le_trans h (by decide)
theorem e_t2 {tr : TA} (h : EA G Γ tr Γ' [⟨R, x⟩, ⟨S, y⟩]) : E G Γ (tTup tr) Γ' (rT2 R S) (x, y) := fun M own σ H k e Q q =>
  h M own σ H k e _ fun vs H1 x1 k1 e1 r1 => by
    cases r1 with
    | cons ha r => cases r with
      | cons hb r =>
        cases r
        refine ⟨small_len (by simp), fun p hp => ?_⟩
        have hM := k1.fresh hp
        have s : ∀ o, Sub (hid M H1) (hid M (upd H1 p o)) := fun o => hid_new hM hp
        exact q _ _ (x1.trans (Ex.new hp)) (k1.new hp) (e1.ext k1 (Ex.new hp)) ⟨p, _, _, rfl, hid_of hM upd_same, R.mono (s _) ha, S.mono (s _) hb⟩
theorem e_t3 {tr : TA} (h : EA G Γ tr Γ' [⟨R, x⟩, ⟨S, y⟩, ⟨T, z⟩]) : E G Γ (tTup tr) Γ' (rT3 R S T) (x, y, z) := fun M own σ H k e Q q =>
  h M own σ H k e _ fun vs H1 x1 k1 e1 r1 => by
    cases r1 with
    | cons ha r => cases r with
      | cons hb r => cases r with
        | cons hc r =>
          cases r
          refine ⟨small_len (by simp), fun p hp => ?_⟩
          have hM := k1.fresh hp
          have s : ∀ o, Sub (hid M H1) (hid M (upd H1 p o)) := fun o => hid_new hM hp
          exact q _ _ (x1.trans (Ex.new hp)) (k1.new hp) (e1.ext k1 (Ex.new hp)) ⟨p, _, _, _, rfl, hid_of hM upd_same, R.mono (s _) ha, S.mono (s _) hb, T.mono (s _) hc⟩
theorem e_t4 {tr : TA} {w : δ} (h : EA G Γ tr Γ' [⟨R, x⟩, ⟨S, y⟩, ⟨T, z⟩, ⟨U, w⟩]) : E G Γ (tTup tr) Γ' (rT4 R S T U) (x, y, z, w) := fun M own σ H k e Q q =>
  h M own σ H k e _ fun vs H1 x1 k1 e1 r1 => by
    cases r1 with
    | cons ha r => cases r with
      | cons hb r => cases r with
        | cons hc r => cases r with
          | cons hd r =>
            cases r
            refine ⟨small_len (by simp), fun p hp => ?_⟩
            have hM := k1.fresh hp
            have s : ∀ o, Sub (hid M H1) (hid M (upd H1 p o)) := fun o => hid_new hM hp
            exact q _ _ (x1.trans (Ex.new hp)) (k1.new hp) (e1.ext k1 (Ex.new hp)) ⟨p, _, _, _, _, rfl, hid_of hM upd_same, R.mono (s _) ha, S.mono (s _) hb, T.mono (s _) hc, U.mono (s _) hd⟩
/-- all of one kind -/
theorem alike {h : Hp} : ∀ {xs : List α} {vs : List V}, All2 (fun v (d : Dy) => d.R.rep h v d.a) vs (xs.map fun x => (⟨R, x⟩ : Dy)) → All2 (R.rep h) vs xs
  | [], _, .nil => .nil
  | _ :: _, _, .cons a r => .cons a (alike r)
theorem e_lst {tr : TA} {xs : List α} (h : EA G Γ tr Γ' (xs.map fun x => (⟨R, x⟩ : Dy))) (hl : xs.length ≤ 100000) : E G Γ (tLst tr) Γ' (rList R) xs := fun M own σ H k e Q q =>
  h M own σ H k e _ fun vs H1 x1 k1 e1 r1 => by
    have r2 := alike r1
    refine ⟨small_len (by rw [r2.length]; exact hl), fun p hp => ?_⟩
    have hM := k1.fresh hp
    have s := hid_new (o := .lst vs) hM hp
    exact q _ _ (x1.trans (Ex.new hp)) (k1.new hp) (e1.ext k1 (Ex.new hp)) ⟨p, vs, rfl, hid_of hM upd_same, r2.imp fun _ _ => R.mono s⟩
theorem e_tup {tr : TA} {xs : List α} (h : EA G Γ tr Γ' (xs.map fun x => (⟨R, x⟩ : Dy))) (hl : xs.length ≤ 100000) : E G Γ (tTup tr) Γ' (rTup R) xs := fun M own σ H k e Q q =>
  h M own σ H k e _ fun vs H1 x1 k1 e1 r1 => by
    have r2 := alike r1
    refine ⟨small_len (by rw [r2.length]; exact hl), fun p hp => ?_⟩
    have hM := k1.fresh hp
    have s := hid_new (o := .tup vs) hM hp
    exact q _ _ (x1.trans (Ex.new hp)) (k1.new hp) (e1.ext k1 (Ex.new hp)) ⟨p, vs, rfl, hid_of hM upd_same, r2.imp fun _ _ => R.mono s⟩
/-! ### items, lengths -/
theorem atI_get {β : Type} {xs : List β} {i : Int} {n : Nat} {v : β} (hi : i = n) (h : xs[n]? = some v) : atI xs i = some v := by
  have hn : n < xs.length := (List.getElem?_eq_some_iff.mp h).1
  subst hi
  unfold atI ixN
  rw [if_pos (by omega), if_pos (by omega)]
  simpa using h
theorem op_ixL {K : PySem.W.Frag} {xs : List α} {i : Int} {v : α} (h : atI xs i = some v) : Op2 G (rIxL K) (rList R) xs rInt i R v := fun M H a u Q k ra ru q => by
  obtain ⟨p, vs, rfl, hp, r⟩ := ra
  subst ru
  have hl := r.length
  obtain ⟨j, hj, hg⟩ : ∃ j, ixN xs.length i = some j ∧ xs[j]? = some v := by
    unfold atI at h
    cases e : ixN xs.length i with
    | none => rw [e] at h; cases h
    | some j => rw [e] at h; exact ⟨j, rfl, h⟩
  obtain ⟨w, hw, rw'⟩ := r.get hg
  exact ⟨p, vs, i, w, rfl, rfl, SqL.of (hid_some hp).2, by unfold atI; rw [hl, hj]; exact hw, q w H Ex.refl k rw'⟩
theorem e_ixL {K : PySem.W.Frag} {xs : List α} {i : Int} {v : α} (ha : E G Γ ta Γ1 (rList R) xs) (hb : E G Γ1 tb Γ2 rInt i) (h : atI xs i = some v) : E G Γ (tOp (rIxL K) ta tb) Γ2 R v := e_op ha hb (op_ixL h)
theorem op_ixT {K : PySem.W.Frag} {xs : List α} {i : Int} {v : α} (h : atI xs i = some v) : Op2 G (rIxT K) (rTup R) xs rInt i R v := fun M H a u Q k ra ru q => by
  obtain ⟨p, vs, rfl, hp, r⟩ := ra
  subst ru
  have hl := r.length
  obtain ⟨j, hj, hg⟩ : ∃ j, ixN xs.length i = some j ∧ xs[j]? = some v := by
    unfold atI at h
    cases e : ixN xs.length i with
    | none => rw [e] at h; cases h
    | some j => rw [e] at h; exact ⟨j, rfl, h⟩
  obtain ⟨w, hw, rw'⟩ := r.get hg
  exact ⟨p, vs, i, w, rfl, rfl, SqT.of (hid_some hp).2, by unfold atI; rw [hl, hj]; exact hw, q w H Ex.refl k rw'⟩
theorem e_ixT {K : PySem.W.Frag} {xs : List α} {i : Int} {v : α} (ha : E G Γ ta Γ1 (rTup R) xs) (hb : E G Γ1 tb Γ2 rInt i) (h : atI xs i = some v) : E G Γ (tOp (rIxT K) ta tb) Γ2 R v := e_op ha hb (op_ixT h)
theorem e_20 {K : PySem.W.Frag} {x : α × β} (ha : E G Γ ta Γ1 (rT2 R S) x) : E G Γ (tOp (rIxT K) ta (tC (.int 0))) Γ1 R x.1 := e_op ha e_int fun M H a u Q k ra ru q => by
  obtain ⟨p, v, w, rfl, hp, r, s⟩ := ra
  subst ru
  exact ⟨p, _, 0, v, rfl, rfl, SqT.of (hid_some hp).2, rfl, q v H Ex.refl k r⟩
theorem e_21 {K : PySem.W.Frag} {x : α × β} (ha : E G Γ ta Γ1 (rT2 R S) x) : E G Γ (tOp (rIxT K) ta (tC (.int 1))) Γ1 S x.2 := e_op ha e_int fun M H a u Q k ra ru q => by
  obtain ⟨p, v, w, rfl, hp, r, s⟩ := ra
  subst ru
  exact ⟨p, _, 1, w, rfl, rfl, SqT.of (hid_some hp).2, rfl, q w H Ex.refl k s⟩
theorem e_len {K : PySem.W.Frag} {tr : TA} {xs : List α} (h : EA G Γ tr Γ' [⟨rList R, xs⟩]) : E G Γ (tCB (fun xs H Q => ∃ p ys, xs = [.ref p] ∧ (SqL K H p ys ∨ SqT K H p ys) ∧ Q (.int ys.length) H) tr) Γ' rInt (xs.length : Int) := fun M own σ H k e Q q =>
  h M own σ H k e _ fun vs H1 x1 k1 e1 r1 => by
    cases r1 with
    | cons ha r =>
      cases r
      obtain ⟨p, ws, e', hp, r⟩ := ha
      have e' : _ = V.ref p := e'
      subst e'
      exact ⟨p, ws, rfl, .inl (SqL.of (hid_some hp).2), q _ H1 x1 k1 e1 (by show V.int _ = V.int _; rw [r.length])⟩
theorem e_lenT {K : PySem.W.Frag} {tr : TA} {xs : List α} (h : EA G Γ tr Γ' [⟨rTup R, xs⟩]) : E G Γ (tCB (fun xs H Q => ∃ p ys, xs = [.ref p] ∧ (SqL K H p ys ∨ SqT K H p ys) ∧ Q (.int ys.length) H) tr) Γ' rInt (xs.length : Int) := fun M own σ H k e Q q =>
  h M own σ H k e _ fun vs H1 x1 k1 e1 r1 => by
    cases r1 with
    | cons ha r =>
      cases r
      obtain ⟨p, ws, e', hp, r⟩ := ha
      have e' : _ = V.ref p := e'
      subst e'
      exact ⟨p, ws, rfl, .inr (SqT.of (hid_some hp).2), q _ H1 x1 k1 e1 (by show V.int _ = V.int _; rw [r.length])⟩
end
end TP

set_option Elab.async false
set_option linter.all false
set_option maxRecDepth 100000
set_option maxHeartbeats 4000000
namespace TP
open PySem PySem.Spec PyProof.Rows L2

/-! ### targets -/
/-- the target's slots hold the item; ws: which slots -/
def Tg (G : List Addr) (g : TG) {α : Type} (R : Rp α) (a : α) (Γ Γ' : Ctx) (ws : List Nat) : Prop :=
  ∀ M own σ H v (Q : L2.St → Hp → Prop), Ok G M H → Env G M H own σ Γ → R.rep (hid M H) v a → (∀ σ', (∀ vs : List Nat, (∀ i ∈ ws, i ∈ vs) → wipe σ' vs = wipe σ vs) → Env G M H own σ' Γ' → Q σ' H) → g v σ H Q
theorem wipe_get {σ : L2.St} {vs : List Nat} {i : Nat} : (wipe σ vs)[i]? = if i ∈ vs then (if i < σ.length then some none else none) else σ[i]? := by
  induction vs with
  | nil => simp [wipe]
  | cons v vs ih =>
    unfold wipe
    rw [List.getElem?_set]
    by_cases h : v = i
    · subst h
      rw [if_pos rfl, wipe_length]
      simp
    · rw [if_neg h, ih]
      have : (i ∈ v :: vs) = (i ∈ vs) := by simp [Ne.symm h]
      simp only [this]
theorem wipe_set {σ : L2.St} {i : Nat} {v : Option V} {vs : List Nat} (h : i ∈ vs) : wipe (σ.set i v) vs = wipe σ vs := by
  apply List.ext_getElem?
  intro j
  rw [wipe_get, wipe_get, List.length_set, List.getElem?_set]
  by_cases hj : j ∈ vs
  · rw [if_pos hj, if_pos hj]
  · rw [if_neg hj, if_neg hj, if_neg (fun e : i = j => hj (by rw [← e]; exact h))]
theorem wipe_wipe {σ : L2.St} {vs : List Nat} : wipe (wipe σ vs) vs = wipe σ vs := by
  apply List.ext_getElem?
  intro j
  rw [wipe_get, wipe_length, wipe_get]
  by_cases hj : j ∈ vs
  · rw [if_pos hj, if_pos hj]
  · rw [if_neg hj, if_neg hj]
def PlainAt (Γ : Ctx) (i : Nat) : Prop := ∀ s, Γ[i]? = some s → Plain s
section
variable {G M own : List Addr} {H H' : Hp} {σ : L2.St} {Γ Γ' Γ1 Γ2 Γ3 : Ctx} {α β γ : Type} {R : Rp α} {S : Rp β} {T : Rp γ} {a : α} {b : β} {c : γ}
theorem tg_name {i : Nat} (h : PlainAt Γ i) : Tg G (gName i) R a Γ (Γ.set i (.val R a)) [i] := fun M own σ H v Q k e r q =>
  q _ (fun vs hi => wipe_set (hi i (by simp))) ⟨e.nd, e.sub, e.out, e.env.set r h⟩
theorem tg_t2 {K : PySem.W.Frag} {g1 g2 : TG} {w1 w2 : List Nat} (h1 : Tg G g1 R a Γ Γ1 w1) (h2 : Tg G g2 S b Γ1 Γ2 w2) : Tg G (gTup K 2 (gCons g1 (gCons g2 gNil))) (rT2 R S) (a, b) Γ Γ2 (w1 ++ w2) := fun M own σ H v Q k e r q => by
  obtain ⟨p, x, y, rfl, hp, ra, rb⟩ := r
  refine ⟨p, [x, y], rfl, SqT.of (hid_some hp).2, rfl, x, [y], rfl, h1 M own σ H x _ k e ra fun σ1 s1 e1 => ?_⟩
  exact ⟨y, [], rfl, h2 M own σ1 H y _ k e1 rb fun σ2 s2 e2 => ⟨rfl, q σ2 (fun vs hv => (s2 vs fun i hi => hv i (List.mem_append_right _ hi)).trans (s1 vs fun i hi => hv i (List.mem_append_left _ hi))) e2⟩⟩
theorem tg_t3 {K : PySem.W.Frag} {g1 g2 g3 : TG} {w1 w2 w3 : List Nat} (h1 : Tg G g1 R a Γ Γ1 w1) (h2 : Tg G g2 S b Γ1 Γ2 w2) (h3 : Tg G g3 T c Γ2 Γ3 w3) : Tg G (gTup K 3 (gCons g1 (gCons g2 (gCons g3 gNil)))) (rT3 R S T) (a, b, c) Γ Γ3 (w1 ++ (w2 ++ w3)) := fun M own σ H v Q k e r q => by
  obtain ⟨p, x, y, z, rfl, hp, ra, rb, rc⟩ := r
  refine ⟨p, [x, y, z], rfl, SqT.of (hid_some hp).2, rfl, x, [y, z], rfl, h1 M own σ H x _ k e ra fun σ1 s1 e1 => ?_⟩
  refine ⟨y, [z], rfl, h2 M own σ1 H y _ k e1 rb fun σ2 s2 e2 => ?_⟩
  exact ⟨z, [], rfl, h3 M own σ2 H z _ k e2 rc fun σ3 s3 e3 => ⟨rfl, q σ3 (fun vs hv => ((s3 vs fun i hi => hv i (by simp [hi])).trans (s2 vs fun i hi => hv i (by simp [hi]))).trans (s1 vs fun i hi => hv i (by simp [hi]))) e3⟩⟩
/-- slots forgotten -/
def wipeC (Γ : Ctx) : List Nat → Ctx
  | [] => Γ
  | v :: vs => (wipeC Γ vs).set v .no
theorem EnvR.unset {h H : Hp} : ∀ {σ : L2.St} {Γ : Ctx} {ps : List Addr} {i : Nat} {v : Option V}, EnvR h H σ Γ ps → PlainAt Γ i → EnvR h H (σ.set i v) (Γ.set i .no) ps
  | [], [], _, _, _, x, _ => x
  | _ :: σ, .no :: Γ, ps, 0, _, x, e => x
  | _ :: σ, .no :: Γ, ps, i + 1, _, x, e => EnvR.unset (σ := σ) (Γ := Γ) (i := i) x fun s z => e s (by simpa using z)
  | ov :: σ, .val R' a' :: Γ, ps, 0, _, ⟨_, x⟩, e => x
  | ov :: σ, .val R' a' :: Γ, ps, i + 1, _, ⟨y, x⟩, e => ⟨y, EnvR.unset (σ := σ) (Γ := Γ) (i := i) x fun s z => e s (by simpa using z)⟩
  | ov :: σ, .own O :: Γ, ps, 0, _, x, e => (e (.own O) (by simp)).elim
  | ov :: σ, .own O :: Γ, ps, i + 1, _, ⟨w, p1, p2, e1, e2, y, x⟩, e => ⟨w, p1, p2, e1, e2, y, EnvR.unset (σ := σ) (Γ := Γ) (i := i) x fun s z => e s (by simpa using z)⟩
  | [], .no :: _, _, _, _, x, _ => x.elim
  | [], .val _ _ :: _, _, _, _, x, _ => x.elim
  | [], .own _ :: _, _, _, _, x, _ => x.elim
  | _ :: _, [], _, _, _, x, _ => x.elim
theorem wipeC_plain {Γ : Ctx} : ∀ {vs : List Nat} {i : Nat}, PlainAt Γ i → PlainAt (wipeC Γ vs) i
  | [], _, h => h
  | v :: vs, i, h => fun s e => by
    unfold wipeC at e
    rw [List.getElem?_set] at e
    by_cases hv : v = i
    · rw [if_pos hv] at e
      by_cases hl : v < (wipeC Γ vs).length
      · rw [if_pos hl] at e
        cases e
        exact True.intro
      · rw [if_neg hl] at e
        cases e
    · rw [if_neg hv] at e
      exact wipeC_plain h s e
theorem Env.wipe (e : Env G M H own σ Γ) : ∀ {vs : List Nat}, (∀ i ∈ vs, PlainAt Γ i) → Env G M H own (wipe σ vs) (wipeC Γ vs)
  | [], _ => e
  | v :: vs, h => by
    have e' := Env.wipe e (vs := vs) fun i hi => h i (List.mem_cons_of_mem _ hi)
    exact ⟨e'.nd, e'.sub, e'.out, e'.env.unset (wipeC_plain (h v List.mem_cons_self))⟩
/-- more may change -/
theorem Env.grow {p : Addr} {o : HO} (k : Ok G M H) (e : Env G M H own σ Γ) (hp : H p = none) : Env G (p :: M) (upd H p o) own σ Γ := by
  have hn := k.fresh hp
  refine ⟨e.nd, fun q hq => List.mem_cons_of_mem _ (e.sub q hq), e.out, e.env.mono (fun b u hb => ?_) fun q hq => ?_⟩
  · obtain ⟨h1, h2⟩ := hid_some hb
    have hne : b ≠ p := ne_of_none h2 hp
    refine hid_of (fun z => ?_) (by rw [upd_ne hne]; exact h2)
    rcases List.mem_cons.mp z with z | z
    · exact hne z
    · exact h1 z
  · rw [upd_ne (fun z => hn (by rw [← z]; exact e.sub q hq))]
theorem Ok.grow {p : Addr} {o : HO} (k : Ok G M H) (hp : H p = none) : Ok G (p :: M) (upd H p o) := ⟨fun P hP => List.mem_cons_of_mem _ (k.sub P hP), fun m hm z => by
  by_cases h : m = p
  · rw [h, upd_same] at z; cases z
  · rw [upd_ne h] at z
    rcases List.mem_cons.mp hm with e | hm
    · exact h e
    · exact k.al m hm z, k.wf.new hp⟩
theorem hid_grow {p : Addr} {o : HO} (hp : H p = none) : Sub (hid M H) (hid (p :: M) (upd H p o)) := fun b u hb => by
  obtain ⟨h1, h2⟩ := hid_some hb
  have hne : b ≠ p := ne_of_none h2 hp
  refine hid_of (fun z => ?_) (by rw [upd_ne hne]; exact h2)
  rcases List.mem_cons.mp z with z | z
  · exact hne z
  · exact h1 z
end

/-! ### what stands meanwhile -/
structure Gp where
  p : Hp → Prop
  mono : ∀ {h h' : Hp}, Sub h h' → p h → p h'
def gT : Gp := ⟨fun _ => True, fun _ h => h⟩
def gAnd (a b : Gp) : Gp := ⟨fun h => a.p h ∧ b.p h, fun k h => ⟨a.mono k h.1, b.mono k h.2⟩⟩
/-- an iterator that gives xs, while g stands -/
structure Wk (G : List Addr) (J : It) {α : Type} (R : Rp α) (xs : List α) (g : Gp) : Prop where
  ex : ∃ (Gd : Hp → Prop) (Y : Nat → Hp → V → Hp → Prop), Walk J xs.length Gd Y ∧ (∀ h H, Sub h H → g.p h → Gd H) ∧
    ∀ i x M H H', i < xs.length → Ok G M H → g.p (hid M H) → Y i H x H' → Ex G H H' ∧ Ok G M H' ∧ ∃ a, xs[i]? = some a ∧ R.rep (hid M H') x a
def ES (G : List Addr) (Γ : Ctx) (wi : TI) (Γ' : Ctx) {α : Type} (R : Rp α) (xs : List α) : Prop :=
  ∀ M own σ H, Ok G M H → Env G M H own σ Γ → ∀ Q : It → Hp → Prop, (∀ J H' g, Ex (G ++ own) H H' → Ok G M H' → Env G M H' own σ Γ' → Wk G J R xs g → g.p (hid M H') → Q J H') → wi σ H Q
section
variable {G : List Addr} {Γ Γ' Γ1 Γ2 : Ctx} {α β γ : Type} {R : Rp α} {S : Rp β} {xs : List α} {ys : List β} {te : TE} {ta : TA} {K : PySem.W.Frag}
theorem wk_list {a : Addr} {vs : List V} : Wk G (Itl K a) R xs ⟨fun h => h a = some (.lst vs) ∧ All2 (R.rep h) vs xs, fun k z => ⟨k _ _ z.1, z.2.imp fun _ _ => R.mono k⟩⟩ ∨ vs.length ≠ xs.length := by
  by_cases hl : vs.length = xs.length
  · refine .inl ⟨_, _, hl ▸ walk_list (K := K) (a := a) (xs := vs), fun h H s z => SqL.of (s _ _ z.1), fun i x M H H' hi k z y => ?_⟩
    obtain ⟨rfl, hx⟩ := y
    obtain ⟨b, h1, h2⟩ := z.2.getL hx
    exact ⟨Ex.refl, k, b, h1, h2⟩
  · exact .inr hl
theorem wk_tup {a : Addr} {vs : List V} : Wk G (Itt K a) R xs ⟨fun h => h a = some (.tup vs) ∧ All2 (R.rep h) vs xs, fun k z => ⟨k _ _ z.1, z.2.imp fun _ _ => R.mono k⟩⟩ ∨ vs.length ≠ xs.length := by
  by_cases hl : vs.length = xs.length
  · refine .inl ⟨_, _, hl ▸ walk_tup (K := K) (a := a) (xs := vs), fun h H s z => SqT.of (s _ _ z.1), fun i x M H H' hi k z y => ?_⟩
    obtain ⟨rfl, hx⟩ := y
    obtain ⟨b, h1, h2⟩ := z.2.getL hx
    exact ⟨Ex.refl, k, b, h1, h2⟩
  · exact .inr hl
theorem src_list (h : E G Γ te Γ' (rList R) xs) : ES G Γ (iList K te) Γ' R xs := fun M own σ H k e Q q => h M own σ H k e _ fun v H1 x1 k1 e1 r1 => by
  obtain ⟨p, vs, rfl, hp, r⟩ := r1
  rcases wk_list (G := G) (K := K) (R := R) (xs := xs) (a := p) (vs := vs) with w | w
  · exact ⟨p, rfl, ⟨vs, SqL.of (hid_some hp).2⟩, q _ H1 _ x1 k1 e1 w ⟨hp, r⟩⟩
  · exact absurd r.length w
theorem src_tup (h : E G Γ te Γ' (rTup R) xs) : ES G Γ (iTup K te) Γ' R xs := fun M own σ H k e Q q => h M own σ H k e _ fun v H1 x1 k1 e1 r1 => by
  obtain ⟨p, vs, rfl, hp, r⟩ := r1
  rcases wk_tup (G := G) (K := K) (R := R) (xs := xs) (a := p) (vs := vs) with w | w
  · exact ⟨p, rfl, ⟨vs, SqT.of (hid_some hp).2⟩, q _ H1 _ x1 k1 e1 w ⟨hp, r⟩⟩
  · exact absurd r.length w
/-- lo, lo + 1, .. -/
def upFrom (lo : Int) (n : Nat) : List Int := (List.range n).map fun i => lo + (i : Nat)
theorem wk_range {lo : Int} {n : Nat} : Wk G (Itr lo n) rInt (upFrom lo n) gT := by
  have hl : (upFrom lo n).length = n := by simp [upFrom]
  refine ⟨_, _, (by rw [hl]; exact walk_range (lo := lo) (n := n)), fun _ _ _ _ => trivial, fun i x M H H' hi k z y => ?_⟩
  obtain ⟨rfl, rfl⟩ := y
  rw [hl] at hi
  exact ⟨Ex.refl, k, lo + i, by simp [upFrom, hi], rfl⟩
theorem src_rng1 {n : Int} (h : EA G Γ ta Γ' [⟨rInt, n⟩]) (h1 : -(2 ^ 62) ≤ n) (h2 : n < 2 ^ 62) : ES G Γ (iRng1 ta) Γ' rInt (upFrom 0 n.toNat) := fun M own σ H k e Q q => h M own σ H k e _ fun vs H1 x1 k1 e1 r1 => by
  cases r1 with
  | cons a r => cases r; cases a; exact ⟨n, rfl, h1, h2, q _ H1 gT x1 k1 e1 wk_range trivial⟩
theorem src_rng2 {m n : Int} (h : EA G Γ ta Γ' [⟨rInt, m⟩, ⟨rInt, n⟩]) (h0 : -(2 ^ 62) ≤ m ∧ m < 2 ^ 62 ∧ -(2 ^ 62) ≤ n ∧ n < 2 ^ 62) : ES G Γ (iRng2 ta) Γ' rInt (upFrom m (n - m).toNat) := fun M own σ H k e Q q => h M own σ H k e _ fun vs H1 x1 k1 e1 r1 => by
  cases r1 with
  | cons a r => cases r with
    | cons b r => cases r; cases a; cases b; exact ⟨m, n, rfl, h0, q _ H1 gT x1 k1 e1 wk_range trivial⟩
/-- pairs (i, x) -/
def enumL (xs : List α) : List (Int × α) := xs.zipIdx.map fun p => ((p.2 : Nat), p.1)
theorem enumL_length : (enumL xs).length = xs.length := by simp [enumL]
theorem enumL_get {i : Nat} : (enumL xs)[i]? = xs[i]?.map fun x => ((i : Int), x) := by
  simp [enumL]
  cases xs[i]? <;> simp
theorem pair_new {M : List Addr} {H : Hp} {p : Addr} {v w : V} {a : α} {b : β} (k : Ok G M H) (hp : H p = none) (ra : R.rep (hid M H) v a) (rb : S.rep (hid M H) w b) : Ex G H (upd H p (.tup [v, w])) ∧ Ok G M (upd H p (.tup [v, w])) ∧ (rT2 R S).rep (hid M (upd H p (.tup [v, w]))) (.ref p) (a, b) :=
  ⟨Ex.new hp, k.new hp, p, v, w, rfl, hid_of (k.fresh hp) upd_same, R.mono (hid_new (k.fresh hp) hp) ra, S.mono (hid_new (k.fresh hp) hp) rb⟩
theorem src_enum (h : EA G Γ ta Γ' [⟨rList R, xs⟩]) : ES G Γ (iEnum K ta) Γ' (rT2 rInt R) (enumL xs) := fun M own σ H k e Q q => h M own σ H k e _ fun vs H1 x1 k1 e1 r1 => by
  cases r1 with
  | cons a r =>
    cases r
    obtain ⟨p, ws, e', hp, r⟩ := a
    have e' : _ = V.ref p := e'
    subst e'
    have hl : (enumL xs).length = ws.length := by rw [enumL_length, r.length]
    refine ⟨p, ws, rfl, SqL.of (hid_some hp).2, q _ H1 ⟨fun h => h p = some (.lst ws) ∧ All2 (R.rep h) ws xs, fun k z => ⟨k _ _ z.1, z.2.imp fun _ _ => R.mono k⟩⟩ x1 k1 e1 ⟨_, _, hl.symm ▸ walk_enum (K := K) (a := p) (xs := ws), fun h H s z => SqL.of (s _ _ z.1), fun i x M H H' hi k z y => ?_⟩ ⟨hp, r⟩⟩
    obtain ⟨T, x', y', rfl, hT, rfl, h1, h2⟩ := y
    cases h1
    obtain ⟨b, h3, h4⟩ := z.2.getL h2
    obtain ⟨p1, p2, p3⟩ := pair_new (R := rInt) (S := R) (a := (i : Int)) k hT rfl h4
    exact ⟨p1, p2, ((i : Int), b), by rw [enumL_get, h3]; rfl, p3⟩
theorem src_zip (h : EA G Γ ta Γ' [⟨rList R, xs⟩, ⟨rList S, ys⟩]) : ES G Γ (iZip K ta) Γ' (rT2 R S) (xs.zip ys) := fun M own σ H k e Q q => h M own σ H k e _ fun vs H1 x1 k1 e1 r1 => by
  cases r1 with
  | cons a r => cases r with
    | cons b r =>
      cases r
      obtain ⟨p, ws, e', hp, r⟩ := a
      obtain ⟨p', ws', e'', hp', r'⟩ := b
      have e' : _ = V.ref p := e'
      subst e'
      have e'' : _ = V.ref p' := e''
      subst e''
      have hl : (xs.zip ys).length = min ws.length ws'.length := by rw [List.length_zip, r.length, r'.length]
      refine ⟨p, p', ws, ws', rfl, SqL.of (hid_some hp).2, SqL.of (hid_some hp').2, q _ H1 ⟨fun h => (h p = some (.lst ws) ∧ All2 (R.rep h) ws xs) ∧ (h p' = some (.lst ws') ∧ All2 (S.rep h) ws' ys), fun k z => ⟨⟨k _ _ z.1.1, z.1.2.imp fun _ _ => R.mono k⟩, ⟨k _ _ z.2.1, z.2.2.imp fun _ _ => S.mono k⟩⟩⟩ x1 k1 e1
        ⟨_, _, hl.symm ▸ walk_zip (K := K) (a := p) (b := p') (xs := ws) (ys := ws') rfl, fun h H s z => ⟨SqL.of (s _ _ z.1.1), SqL.of (s _ _ z.2.1)⟩, fun i x M H H' hi k z y => ?_⟩ ⟨⟨hp, r⟩, ⟨hp', r'⟩⟩⟩
      obtain ⟨T, x', y', rfl, hT, rfl, h1, h2⟩ := y
      obtain ⟨b, h3, h4⟩ := z.1.2.getL h1
      obtain ⟨c, h5, h6⟩ := z.2.2.getL h2
      obtain ⟨p1, p2, p3⟩ := pair_new (R := R) (S := S) k hT h4 h6
      exact ⟨p1, p2, (b, c), by rw [List.getElem?_zip_eq_some]; exact ⟨h3, h5⟩, p3⟩
end
end TP

set_option Elab.async false
set_option linter.all false
set_option maxRecDepth 100000
set_option maxHeartbeats 4000000
namespace TP
open PySem PySem.Spec PyProof.Rows L2

/-! ### a comprehension's turns -/
/-- from a state through the items: the last state, what came out -/
def runS {Dt α β : Type} (step : Dt → α → Dt × Option β) : Dt → List α → Dt × List β
  | d, [] => (d, [])
  | d, x :: r => ((runS step (step d x).1 r).1, (step d x).2.toList ++ (runS step (step d x).1 r).2)
theorem runS_snoc {Dt α β : Type} {step : Dt → α → Dt × Option β} : ∀ {d : Dt} {xs : List α} {x : α}, runS step d (xs ++ [x]) = ((step (runS step d xs).1 x).1, (runS step d xs).2 ++ (step (runS step d xs).1 x).2.toList)
  | d, [], x => by simp [runS]
  | d, y :: r, x => by
    have ih := @runS_snoc _ _ _ step (step d y).1 r x
    show ((runS step (step d y).1 (r ++ [x])).1, (step d y).2.toList ++ (runS step (step d y).1 (r ++ [x])).2) = _
    rw [ih]
    simp [runS, List.append_assoc]
theorem take_succ_of {α : Type} {xs : List α} {i : Nat} {x : α} (h : xs[i]? = some x) : xs.take (i + 1) = xs.take i ++ [x] := by
  rw [List.take_add_one, h]; rfl
theorem runS_len {Dt α β : Type} {step : Dt → α → Dt × Option β} : ∀ {d : Dt} {xs : List α}, (runS step d xs).2.length ≤ xs.length
  | d, [] => by simp [runS]
  | d, x :: r => by
    have ih := @runS_len _ _ _ step (step d x).1 r
    show ((step d x).2.toList ++ (runS step (step d x).1 r).2).length ≤ r.length + 1
    rw [List.length_append]
    have : (step d x).2.toList.length ≤ 1 := by cases (step d x).2 <;> simp
    omega
def pureStep {α β : Type} (p : α → Bool) (f : α → β) : Unit → α → Unit × Option β := fun _ x => ((), if p x = true then some (f x) else none)
theorem runS_pure {α β : Type} {p : α → Bool} {f : α → β} : ∀ {xs : List α}, (runS (pureStep p f) () xs).2 = (xs.filter p).map f
  | [] => rfl
  | x :: r => by
    show (pureStep p f () x).2.toList ++ (runS (pureStep p f) () r).2 = _
    rw [runS_pure (xs := r)]
    unfold pureStep
    by_cases h : p x = true
    · simp [h]
    · simp [h]
/-- one turn: the item x; o: what comes out, none where a test leaves it out -/
def Tu (G : List Addr) (Γ Γ1 : Ctx) (g : TG) (tt : TT) (te : TE) (vs : List Nat) {α β : Type} (R : Rp α) (S : Rp β) (x : α) (o : Option β) : Prop :=
  ∃ Γx ws, Tg G g R x (wipeC Γ vs) Γx ws ∧ (∀ i ∈ ws, i ∈ vs) ∧ (∀ i ∈ vs, PlainAt Γx i) ∧ match o with
    | none => ET G Γx tt Γx false ∧ wipeC Γx vs = wipeC Γ1 vs
    | some y => ET G Γx tt Γx true ∧ ∃ Γy, E G Γx te Γy S y ∧ (∀ i ∈ vs, PlainAt Γy i) ∧ wipeC Γy vs = wipeC Γ1 vs
theorem tu_pure {G : List Addr} {Γ Γx : Ctx} {g : TG} {tt : TT} {te : TE} {vs ws : List Nat} {α β : Type} {R : Rp α} {S : Rp β} {x : α} {p : Bool} {y : β} (hg : Tg G g R x (wipeC Γ vs) Γx ws) (hw : ∀ i ∈ ws, i ∈ vs) (hp : ∀ i ∈ vs, PlainAt Γx i)
    (hwp : wipeC Γx vs = wipeC Γ vs) (ht : ET G Γx tt Γx p) (he : p = true → E G Γx te Γx S y) : Tu G Γ Γ g tt te vs R S x (if p = true then some y else none) := by
  refine ⟨Γx, ws, hg, hw, hp, ?_⟩
  cases p with
  | true => exact ⟨ht, Γx, he rfl, hp, hwp⟩
  | false => exact ⟨ht, hwp⟩

section
variable {G : List Addr} {α β γ Dt : Type} {R : Rp α} {S : Rp β} {xs : List α} {te : TE} {ta : TA} {tt : TT} {g : TG} {wi : TI} {vs : List Nat}
/-- a list comprehension whose turns may change one's own things -/
theorem e_lcS {Γs : Dt → Ctx} {Γ : Ctx} {d0 : Dt} {step : Dt → α → Dt × Option β} (I : Dt → Prop) (hs : ES G Γ wi (Γs d0) R xs) (hl : xs.length ≤ 100000) (h0 : I d0) (hp : ∀ d, ∀ i ∈ vs, PlainAt (Γs d) i)
    (turn : ∀ d x, I d → x ∈ xs → I (step d x).1 ∧ Tu G (Γs d) (Γs (step d x).1) g tt te vs R S x (step d x).2) {Γ' : Ctx} (hΓ : ∀ M H own σ, Env G M H own σ (Γs d0) → ∀ H', Env G M H' own (wipe σ vs) (wipeC (Γs (runS step d0 xs).1) vs) → Env G M H' own σ Γ') :
    E G Γ (tLc wi g tt te vs) Γ' (rList S) (runS step d0 xs).2 := fun M own σ H k e Q q => hs M own σ H k e _ fun J H1 gp x1 k1 e1 w1 g1 D hD => by
  obtain ⟨Gd, Y, wk, hG, hY⟩ := w1.ex
  have hM := k1.fresh hD
  have hDo : D ∉ G ++ own := fun z => (List.mem_append.mp z).elim (fun z => by
    obtain ⟨ps, e', _⟩ := k1.wf D z
    rw [hD] at e'; cases e') fun z => hM (e1.sub D z)
  have ew := (e1.grow (o := .lst []) k1 hD).wipe (vs := vs) (hp d0)
  refine lc_it wk (fun i H => I (runS step d0 (xs.take i)).1 ∧ ∃ acc, H D = some (.lst acc) ∧ All2 (S.rep (hid (D :: M) H)) acc (runS step d0 (xs.take i)).2 ∧ Ok G (D :: M) H ∧ Env G (D :: M) H own (wipe σ vs) (wipeC (Γs (runS step d0 (xs.take i)).1) vs) ∧ gp.p (hid (D :: M) H) ∧ Ex (G ++ own) H1 H)
    ⟨h0, [], upd_same, .nil, k1.grow hD, ew, gp.mono (hid_grow hD) g1, Ex.new hD⟩ (fun i H _ ⟨_, acc, _, _, _, _, gg, _⟩ => hG _ _ hid_sub gg) ?_ ?_
  · rintro i x H2 H3 hi ⟨hI, acc, hacc, hr, k2, e2, g2, x2⟩ hy
    obtain ⟨x3, k3, a, ha, ra⟩ := hY i x (D :: M) H2 H3 hi k2 g2 hy
    have e3 := e2.ext k2 x3
    obtain ⟨hI', Γx, ws, tg, hw, hpx, ho⟩ := turn _ a hI (List.mem_of_getElem? ha)
    refine tg (D :: M) own _ H3 x _ k3 e3 ra fun σ4 s4 e4 => ⟨(s4 vs hw).trans wipe_wipe, ?_⟩
    have hst : runS step d0 (xs.take (i + 1)) = ((step (runS step d0 (xs.take i)).1 a).1, (runS step d0 (xs.take i)).2 ++ (step (runS step d0 (xs.take i)).1 a).2.toList) := by rw [take_succ_of ha, runS_snoc]
    have hw4 : wipe σ4 vs = wipe σ vs := (s4 vs hw).trans wipe_wipe
    have gn : ∀ {N : List Addr} {H' : Hp}, Ex N H2 H' → (∀ b ∈ N, b ∈ D :: M) → gp.p (hid (D :: M) H') := fun xx hh => gp.mono (xx.hid hh) g2
    cases hstep : (step (runS step d0 (xs.take i)).1 a).2 with
    | none =>
      rw [hstep] at ho
      obtain ⟨ht, hwp⟩ := ho
      refine ht (D :: M) own σ4 H3 k3 e4 _ fun H5 x5 k5 e5 => ?_
      rw [if_neg Bool.false_ne_true]
      have xx : Ex (G ++ own) H2 H5 := (x3.more fun b hb => List.mem_append_left _ hb).trans x5
      rw [hst, hstep]
      refine ⟨hI', acc, xx D _ hDo hacc, ?_, k5, ?_, gn xx (e2.allSub k2), x2.trans xx⟩
      · rw [Option.toList_none, List.append_nil]
        exact hr.imp fun _ _ => S.mono (xx.hid (e2.allSub k2))
      · have := e5.wipe hpx
        rw [hwp, hw4] at this
        exact this
    | some y =>
      rw [hstep] at ho
      obtain ⟨ht, Γy, hel, hpy, hwp⟩ := ho
      refine ht (D :: M) own σ4 H3 k3 e4 _ fun H5 x5 k5 e5 => ?_
      rw [if_pos rfl]
      refine hel (D :: M) own σ4 H5 k5 e5 _ fun v H6 x6 k6 e6 r6 => ?_
      have xx : Ex (G ++ own) H2 H6 := ((x3.more fun b hb => List.mem_append_left _ hb).trans x5).trans x6
      have hacc6 := xx D _ hDo hacc
      have hlen : acc.length < sizeLine := by
        have h1 := hr.length
        have h2 := @runS_len _ _ _ step d0 (xs.take i)
        have h3 : (xs.take i).length ≤ xs.length := by rw [List.length_take]; omega
        have h4 : (100000 : Nat) < sizeLine := by decide
        omega
      refine ⟨acc, hacc6, hlen, ?_⟩
      have hD6 : hid (D :: M) (upd H6 D (.lst (acc ++ [v]))) = hid (D :: M) H6 := by
        funext b
        unfold hid
        by_cases hb : b ∈ D :: M
        · rw [if_pos hb, if_pos hb]
        · rw [if_neg hb, if_neg hb, upd_ne (fun z => hb (by rw [z]; exact List.mem_cons_self))]
      have hH : ∀ b, b ≠ D → upd H6 D (.lst (acc ++ [v])) b = H6 b := fun b hb => upd_ne hb
      rw [hst, hstep]
      refine ⟨hI', acc ++ [v], upd_same, ?_, ⟨k6.sub, fun m hm z => ?_, fun P hP => ?_⟩, ?_, ?_, ?_⟩
      · rw [hD6]
        exact (hr.imp fun _ _ => S.mono (xx.hid (e2.allSub k2))).append (.cons r6 .nil)
      · by_cases hb : m = D
        · rw [hb, upd_same] at z; cases z
        · rw [hH m hb] at z; exact k6.al m hm z
      · obtain ⟨ps, e', t⟩ := k6.wf P hP
        exact ⟨ps, by rw [hH P (fun z => hDo (by rw [← z]; exact List.mem_append_left _ hP))]; exact e', t⟩
      · have ee := e6.wipe hpy
        rw [hwp, hw4] at ee
        exact ⟨ee.nd, ee.sub, ee.out, by rw [hD6]; exact ee.env.mono (Sub.refl _) fun p hp => hH p fun z => hDo (by rw [← z]; exact List.mem_append_right _ hp)⟩
      · rw [hD6]; exact gn xx (e2.allSub k2)
      · exact fun b o hb e' => by
          rw [hH b (ne_of_none e' hD)]
          exact (x2.trans xx) b o hb e'
  · rintro H2 ⟨hI, acc, hacc, hr, k2, e2, g2, x2⟩
    rw [List.take_length] at hr e2
    have sub : Sub (hid (D :: M) H2) (hid M H2) := hid_less fun b hb => List.mem_cons_of_mem _ hb
    have e2' : Env G M H2 own (wipe σ vs) (wipeC (Γs (runS step d0 xs).1) vs) := ⟨e2.nd, fun p hp => (List.mem_cons.mp (e2.sub p hp)).elim (fun z => (hDo (by rw [← z]; exact List.mem_append_right _ hp)).elim) id, e2.out, e2.env.mono sub fun _ _ => rfl⟩
    refine q _ H2 (x1.trans x2) ⟨k1.sub, fun m hm => k2.al m (List.mem_cons_of_mem _ hm), k2.wf⟩ (hΓ M H1 own σ e1 H2 e2') ⟨D, acc, rfl, hid_of hM hacc, hr.imp fun _ _ => S.mono sub⟩
end
end TP

set_option Elab.async false
set_option linter.all false
set_option maxRecDepth 100000
set_option maxHeartbeats 4000000
namespace TP
open PySem PySem.Spec PyProof.Rows L2

def NoAt (Γ : Ctx) (i : Nat) : Prop := ∀ s, Γ[i]? = some s → s = .no
theorem NoAt.plain {Γ : Ctx} {i : Nat} (h : NoAt Γ i) : PlainAt Γ i := fun s e => by rw [h s e]; exact True.intro
theorem set_no {Γ : Ctx} {i : Nat} (h : NoAt Γ i) : Γ.set i .no = Γ := by
  apply List.ext_getElem?
  intro j
  rw [List.getElem?_set]
  by_cases hj : i = j
  · subst hj
    rw [if_pos rfl]
    cases e : Γ[i]? with
    | none =>
      have := List.getElem?_eq_none_iff.mp e
      rw [if_neg (by omega)]
    | some s =>
      have := (List.getElem?_eq_some_iff.mp e).1
      rw [if_pos this, h s e]
  · rw [if_neg hj]
theorem wipeC_no {Γ : Ctx} : ∀ {vs : List Nat}, (∀ i ∈ vs, NoAt Γ i) → wipeC Γ vs = Γ
  | [], _ => rfl
  | v :: vs, h => by
    show (wipeC Γ vs).set v .no = Γ
    rw [wipeC_no fun i hi => h i (List.mem_cons_of_mem _ hi)]
    exact set_no (h v List.mem_cons_self)
theorem EnvR.reset {h H : Hp} : ∀ {σ : L2.St} {Γ : Ctx} {ps : List Addr} {i : Nat} {v : Option V}, EnvR h H (σ.set i v) Γ ps → NoAt Γ i → EnvR h H σ Γ ps
  | [], _, _, _, _, x, _ => by simpa using x
  | _ :: σ, .no :: Γ, ps, 0, _, x, e => x
  | _ :: σ, .no :: Γ, ps, i + 1, _, x, e => EnvR.reset (σ := σ) (Γ := Γ) (i := i) x fun s z => e s (by simpa using z)
  | ov :: σ, .val R' a' :: Γ, ps, 0, _, x, e => (by have := e (.val R' a') (by simp); cases this)
  | ov :: σ, .val R' a' :: Γ, ps, i + 1, _, ⟨y, x⟩, e => ⟨y, EnvR.reset (σ := σ) (Γ := Γ) (i := i) x fun s z => e s (by simpa using z)⟩
  | ov :: σ, .own O :: Γ, ps, 0, _, x, e => (by have := e (.own O) (by simp); cases this)
  | ov :: σ, .own O :: Γ, ps, i + 1, _, ⟨w, p1, p2, e1, e2, y, x⟩, e => ⟨w, p1, p2, e1, e2, y, EnvR.reset (σ := σ) (Γ := Γ) (i := i) x fun s z => e s (by simpa using z)⟩
  | _ :: _, [], _, 0, _, x, _ => x.elim
  | _ :: _, [], _, _ + 1, _, x, _ => x.elim
theorem EnvR.unwipe {h H : Hp} {σ : L2.St} {Γ : Ctx} {ps : List Addr} : ∀ {vs : List Nat}, EnvR h H (wipe σ vs) Γ ps → (∀ i ∈ vs, NoAt Γ i) → EnvR h H σ Γ ps
  | [], x, _ => x
  | v :: vs, x, hn => by
    have x : EnvR h H ((wipe σ vs).set v none) Γ ps := x
    exact EnvR.unwipe (x.reset (hn v List.mem_cons_self)) fun i hi => hn i (List.mem_cons_of_mem _ hi)
theorem Env.unwipe {G M own : List Addr} {H : Hp} {σ : L2.St} {Γ : Ctx} {vs : List Nat} (e : Env G M H own (L2.wipe σ vs) Γ) (hn : ∀ i ∈ vs, NoAt Γ i) : Env G M H own σ Γ := ⟨e.nd, e.sub, e.out, e.env.unwipe hn⟩
/-- forgetting what the target stored -/
def Back (Γx Γ : Ctx) (vs : List Nat) : Prop := (∀ i ∈ vs, PlainAt Γx i) ∧ wipeC Γx vs = Γ
/-- one turn over names that hold nothing before -/
def TuN (G : List Addr) (Γ Γ1 : Ctx) (g : TG) (tt : TT) (te : TE) (vs : List Nat) {α β : Type} (R : Rp α) (S : Rp β) (x : α) (o : Option β) : Prop :=
  ∃ Γx ws, Tg G g R x Γ Γx ws ∧ (∀ i ∈ ws, i ∈ vs) ∧ (∀ i ∈ vs, PlainAt Γx i) ∧ match o with
    | none => ET G Γx tt Γx false ∧ wipeC Γx vs = Γ1
    | some y => ET G Γx tt Γx true ∧ ∃ Γy, E G Γx te Γy S y ∧ Back Γy Γ1 vs
theorem TuN.tu {G : List Addr} {Γ Γ1 : Ctx} {g : TG} {tt : TT} {te : TE} {vs : List Nat} {α β : Type} {R : Rp α} {S : Rp β} {x : α} {o : Option β} (hn : ∀ i ∈ vs, NoAt Γ i) (hn1 : ∀ i ∈ vs, NoAt Γ1 i) (h : TuN G Γ Γ1 g tt te vs R S x o) : Tu G Γ Γ1 g tt te vs R S x o := by
  obtain ⟨Γx, ws, h1, h2, h3, h4⟩ := h
  refine ⟨Γx, ws, by rw [wipeC_no hn]; exact h1, h2, h3, ?_⟩
  rw [wipeC_no hn1]
  cases o with
  | none => exact h4
  | some y =>
    obtain ⟨h5, Γy, h6, h7, h8⟩ := h4
    exact ⟨h5, Γy, h6, h7, h8⟩
theorem tun_pure {G : List Addr} {Γ Γx : Ctx} {g : TG} {tt : TT} {te : TE} {vs ws : List Nat} {α β : Type} {R : Rp α} {S : Rp β} {x : α} {p : Bool} {y : β} (hg : Tg G g R x Γ Γx ws) (hw : ∀ i ∈ ws, i ∈ vs) (hb : Back Γx Γ vs)
    (ht : ET G Γx tt Γx p) (he : p = true → E G Γx te Γx S y) : TuN G Γ Γ g tt te vs R S x (if p = true then some y else none) := by
  refine ⟨Γx, ws, hg, hw, hb.1, ?_⟩
  cases p with
  | true => exact ⟨ht, Γx, he rfl, hb⟩
  | false => exact ⟨ht, hb.2⟩
section
variable {G : List Addr} {Γ Γ' Γ0 : Ctx} {α β γ Dt : Type} {R : Rp α} {S : Rp β} {xs : List α} {te : TE} {ta : TA} {tt : TT} {g : TG} {wi : TI} {vs : List Nat}
theorem e_lcD {Γs : Dt → Ctx} {d0 : Dt} {step : Dt → α → Dt × Option β} (I : Dt → Prop) (hs : ES G Γ0 wi (Γs d0) R xs) (hl : xs.length ≤ 100000) (h0 : I d0) (hn : ∀ d, ∀ i ∈ vs, NoAt (Γs d) i)
    (turn : ∀ d x, I d → x ∈ xs → I (step d x).1 ∧ TuN G (Γs d) (Γs (step d x).1) g tt te vs R S x (step d x).2) :
    E G Γ0 (tLc wi g tt te vs) (Γs (runS step d0 xs).1) (rList S) (runS step d0 xs).2 :=
  e_lcS I hs hl h0 (fun d i hi => (hn d i hi).plain) (fun d x hI hx => ⟨(turn d x hI hx).1, (turn d x hI hx).2.tu (hn d) (hn _)⟩) fun M H own σ e H' e' => by
    rw [wipeC_no (hn _)] at e'
    exact e'.unwipe (hn _)
/-- a pure one -/
theorem e_lc {p : α → Bool} {f : α → β} (hs : ES G Γ0 wi Γ R xs) (hl : xs.length ≤ 100000) (hn : ∀ i ∈ vs, NoAt Γ i)
    (turn : ∀ x, x ∈ xs → TuN G Γ Γ g tt te vs R S x (if p x = true then some (f x) else none)) : E G Γ0 (tLc wi g tt te vs) Γ (rList S) ((xs.filter p).map f) := by
  have h := e_lcD (Dt := Unit) (Γs := fun _ => Γ) (d0 := ()) (step := pureStep p f) (fun _ => True) hs hl trivial (fun _ => hn) (fun d x _ hx => ⟨trivial, turn x hx⟩)
  rw [runS_pure] at h
  exact h
theorem filter_true {α : Type} {xs : List α} : xs.filter (fun _ => true) = xs := by simp
/-- .. without a test -/
theorem e_lc0 {f : α → β} (hs : ES G Γ0 wi Γ R xs) (hl : xs.length ≤ 100000) (hn : ∀ i ∈ vs, NoAt Γ i)
    (turn : ∀ x, x ∈ xs → TuN G Γ Γ g tt te vs R S x (some (f x))) : E G Γ0 (tLc wi g tt te vs) Γ (rList S) (xs.map f) := by
  have h := e_lc (p := fun _ => true) hs hl hn turn
  rw [filter_true] at h
  exact h

/-! ### generator expressions -/
theorem gen_pure {P : Addr} {p : α → Bool} {f : α → β} (hP : P ∈ G) (hs : ES G Γ0 wi Γ R xs) (hl : xs.length ≤ 100000) (hn : ∀ i ∈ vs, NoAt Γ i)
    (turn : ∀ x, x ∈ xs → TuN G Γ Γ g tt te vs R S x (if p x = true then some (f x) else none)) {M own : List Addr} {σ : L2.St} {H : Hp} (k : Ok G M H) (e : Env G M H own σ Γ0) {mid : List V → V → Hp → Prop} {fin : List V → Hp → Prop}
    (hmid : ∀ us y H' h pre z, Ex (G ++ own) H H' → Ok G M H' → Env G M H' own σ Γ → h = hid M H' → All2 (S.rep h) us pre → S.rep h y z → (∃ post, (xs.filter p).map f = pre ++ z :: post) → mid us y H')
    (hfin : ∀ us H', Ex (G ++ own) H H' → Ok G M H' → Env G M H' own σ Γ → All2 (S.rep (hid M H')) us ((xs.filter p).map f) → fin us H') : GX.tGen P wi g tt te vs mid fin σ H := hs M own σ H k e _ fun J H1 gp x1 k1 e1 w1 g1 => by
  obtain ⟨Gd, Y, wk, hG, hY⟩ := w1.ex
  refine ⟨k1.wf P hP, fun H2 hT => ?_⟩
  have x2 : Ex G H1 H2 := fun b o hb eb => by rw [hT.2 b (fun z => hb (by rw [z]; exact hP))]; exact eb
  have wf2 : WF G H2 := fun P' hP' => by
    by_cases z : P' = P
    · rw [z]; exact hT.1
    · obtain ⟨ps, a, t⟩ := k1.wf P' hP'
      exact ⟨ps, by rw [hT.2 P' z]; exact a, t⟩
  have k2 := k1.ext x2 wf2
  have e2 := e1.ext k1 x2
  have x12 : Ex (G ++ own) H H2 := x1.trans (x2.more fun b hb => List.mem_append_left _ hb)
  have pre_of : ∀ i, (runS (pureStep p f) () (xs.take i)).2 = ((xs.take i).filter p).map f := fun i => runS_pure
  refine ⟨fun i m us H' => m = xs.length - i ∧ i ≤ xs.length ∧ Ok G M H' ∧ Env G M H' own (L2.wipe σ vs) Γ ∧ gp.p (hid M H') ∧ Ex (G ++ own) H H' ∧ All2 (S.rep (hid M H')) us (((xs.take i).filter p).map f),
    ⟨xs.length, by simp, Nat.zero_le _, k2, by have := e2.wipe (vs := vs) fun i hi => (hn i hi).plain; rw [wipeC_no hn] at this; exact this, gp.mono (x2.hid k1.sub) g1, x12, .nil⟩, ?_⟩
  rintro i m us H3 ⟨rfl, hi, k3, e3, g3, x3, r3⟩
  have q3 := hG _ _ hid_sub g3
  by_cases hlt : i < xs.length
  · refine .inr ⟨wk.goes i H3 hlt q3, fun us' H' => Ok G M H' ∧ Env G M H' own (L2.wipe σ vs) Γ ∧ gp.p (hid M H') ∧ Ex (G ++ own) H H' ∧ All2 (S.rep (hid M H')) us' (((xs.take (i + 1)).filter p).map f), fun us' H' ⟨a1, a2, a3, a4, a5⟩ => ⟨xs.length - (i + 1), by omega, rfl, hlt, a1, a2, a3, a4, a5⟩, fun x H4 y4 => ?_⟩
    obtain ⟨x4, k4, a, ha, ra⟩ := hY i x M H3 H4 hlt k3 g3 (wk.yields i H3 x H4 hlt q3 y4)
    have e4 := e3.ext k3 x4
    obtain ⟨Γx, ws, tg, hw, hpx, ho⟩ := turn a (List.mem_of_getElem? ha)
    have htk : xs.take (i + 1) = xs.take i ++ [a] := take_succ_of ha
    refine tg M own _ H4 x _ k4 e4 ra fun σ5 s5 e5 => ⟨(s5 vs hw).trans wipe_wipe, ?_⟩
    have hw5 : L2.wipe σ5 vs = L2.wipe σ vs := (s5 vs hw).trans wipe_wipe
    by_cases hp : p a = true
    · rw [if_pos hp] at ho
      obtain ⟨ht, Γy, hel, hpy, hwp⟩ := ho
      refine ht M own σ5 H4 k4 e5 _ fun H6 x6 k6 e6 => ?_
      rw [if_pos rfl]
      refine hel M own σ5 H6 k6 e6 _ fun v H7 x7 k7 e7 r7 => ?_
      have xx : Ex (G ++ own) H3 H7 := ((x4.more fun b hb => List.mem_append_left _ hb).trans x6).trans x7
      have ee := e7.wipe hpy
      rw [hwp, hw5] at ee
      have r7' : All2 (S.rep (hid M H7)) us (((xs.take i).filter p).map f) := r3.imp fun _ _ => S.mono (xx.hid (e3.allSub k3))
      have hlen : us.length < sizeLine := by
        have h1 := r3.length
        have h2 : (((xs.take i).filter p).map f).length ≤ xs.length := by
          rw [List.length_map]
          exact Nat.le_trans (List.length_filter_le _ _) (by rw [List.length_take]; omega)
        have h4 : (100000 : Nat) < sizeLine := by decide
        omega
      refine ⟨hlen, hmid us v H7 _ _ (f a) (x3.trans xx) k7 (ee.unwipe hn) rfl r7' r7 ?_, k7, ee, gp.mono (xx.hid (e3.allSub k3)) g3, x3.trans xx, ?_⟩
      · refine ⟨((xs.drop (i + 1)).filter p).map f, ?_⟩
        have : xs = xs.take i ++ a :: xs.drop (i + 1) := by
          rw [← List.singleton_append, ← List.append_assoc, ← htk, List.take_append_drop]
        conv => lhs; rw [this]
        rw [List.filter_append, List.map_append, List.filter_cons_of_pos hp, List.map_cons]
      · rw [htk, List.filter_append, List.map_append, List.filter_cons_of_pos hp]
        exact r7'.append (.cons r7 .nil)
    · rw [if_neg hp] at ho
      obtain ⟨ht, hwp⟩ := ho
      refine ht M own σ5 H4 k4 e5 _ fun H6 x6 k6 e6 => ?_
      rw [if_neg Bool.false_ne_true]
      have xx : Ex (G ++ own) H3 H6 := (x4.more fun b hb => List.mem_append_left _ hb).trans x6
      have ee := e6.wipe hpx
      rw [hwp, hw5] at ee
      refine ⟨k6, ee, gp.mono (xx.hid (e3.allSub k3)) g3, x3.trans xx, ?_⟩
      rw [htk, List.filter_append, List.map_append, List.filter_cons_of_neg hp, List.filter_nil, List.map_nil, List.append_nil]
      exact r3.imp fun _ _ => S.mono (xx.hid (e3.allSub k3))
  · have ei : i = xs.length := by omega
    subst ei
    rw [List.take_length] at r3
    exact .inl ⟨wk.stops H3 q3, hfin us H3 x3 k3 (e3.unwipe hn) r3⟩
theorem e_anyG {P : Addr} {p f : α → Bool} (hP : P ∈ G) (hs : ES G Γ0 wi Γ R xs) (hl : xs.length ≤ 100000) (hn : ∀ i ∈ vs, NoAt Γ i)
    (turn : ∀ x, x ∈ xs → TuN G Γ Γ g tt te vs R rBool x (if p x = true then some (f x) else none)) : E G Γ0 (GX.tAnyG P wi g tt te vs) Γ rBool (((xs.filter p).map f).any id) := fun M own σ H k e Q q => by
  refine gen_pure (mid := fun us y H' => ∃ b, y = .bl b ∧ (b = true → Q (.bl true) H')) hP hs hl hn turn k e (fun us y H' h pre z x' k' e' _ _ r ⟨post, hpo⟩ => ⟨z, r, fun hz => ?_⟩) fun us H' x' k' e' r hz => ?_
  · have ha : ((xs.filter p).map f).any id = true := by rw [hpo, List.any_append, List.any_cons, hz]; simp
    rw [ha] at q
    exact q _ H' x' k' e' rfl
  · have ha : ((xs.filter p).map f).any id = false := by
      rw [List.any_eq_false]
      intro b hb ht
      obtain ⟨i, hi, eb⟩ := List.mem_iff_getElem.mp hb
      obtain ⟨u, h1, h2⟩ := r.get (i := i) (b := b) (by rw [List.getElem?_eq_getElem hi, eb])
      have h3 := hz u (List.mem_of_getElem? h1)
      have h2 : u = V.bl b := h2
      rw [h2] at h3
      injection h3 with h4
      rw [h4] at ht
      cases ht
    rw [ha] at q
    exact q _ H' x' k' e' rfl
theorem all2_ints {h : Hp} : ∀ {us : List V} {ns : List Int}, All2 (rInt.rep h) us ns → us = ns.map V.int
  | _, _, .nil => rfl
  | _, _, .cons a r => by
    rw [List.map_cons, ← all2_ints r]
    exact congrArg (· :: _) a
theorem e_sumG {P : Addr} {p : α → Bool} {f : α → Int} (hP : P ∈ G) (hs : ES G Γ0 wi Γ R xs) (hl : xs.length ≤ 100000) (hn : ∀ i ∈ vs, NoAt Γ i)
    (turn : ∀ x, x ∈ xs → TuN G Γ Γ g tt te vs R rInt x (if p x = true then some (f x) else none))
    (hb : ∀ pre z post, (xs.filter p).map f = pre ++ z :: post → InLong z ∧ InLong (pre.sum + z)) : E G Γ0 (GX.tSumG P wi g tt te vs) Γ rInt ((xs.filter p).map f).sum := fun M own σ H k e Q q => by
  refine gen_pure (mid := fun ys y _ => ∃ (ns : List Int) (i : Int), ys = ns.map V.int ∧ y = .int i ∧ InLong i ∧ InLong (ns.sum + i)) hP hs hl hn turn k e (fun us y H' h pre z x' k' e' _ r1 r ⟨post, hpo⟩ => ?_) fun us H' x' k' e' r => ?_
  · exact ⟨pre, z, all2_ints r1, r, (hb pre z post hpo).1, (hb pre z post hpo).2⟩
  · exact ⟨_, all2_ints r, q _ H' x' k' e' rfl⟩
theorem e_mmG {P : Addr} {better : Int → Int → Bool} {p : α → Bool} {f : α → Int} {m : Int} (hP : P ∈ G) (hs : ES G Γ0 wi Γ R xs) (hl : xs.length ≤ 100000) (hn : ∀ i ∈ vs, NoAt Γ i)
    (turn : ∀ x, x ∈ xs → TuN G Γ Γ g tt te vs R rInt x (if p x = true then some (f x) else none))
    (hm : GX.best better ((xs.filter p).map f) = some m) : E G Γ0 (GX.tMMG better P wi g tt te vs) Γ rInt m := fun M own σ H k e Q q => by
  refine gen_pure (mid := fun _ y _ => ∃ i : Int, y = .int i) hP hs hl hn turn k e (fun us y H' h pre z x' k' e' _ r1 r _ => ⟨z, r⟩) fun us H' x' k' e' r => ?_
  exact ⟨_, m, all2_ints r, hm, q _ H' x' k' e' rfl⟩
theorem e_tupG {P : Addr} {p : α → Bool} {f : α → β} (hP : P ∈ G) (hs : ES G Γ0 wi Γ R xs) (hl : xs.length ≤ 100000) (hn : ∀ i ∈ vs, NoAt Γ i)
    (turn : ∀ x, x ∈ xs → TuN G Γ Γ g tt te vs R S x (if p x = true then some (f x) else none)) : E G Γ0 (GX.tTupG P wi g tt te vs) Γ (rTup S) ((xs.filter p).map f) := fun M own σ H k e Q q => by
  refine gen_pure (mid := fun _ _ _ => True) hP hs hl hn turn k e (fun _ _ _ _ _ _ _ _ _ _ _ _ _ => trivial) fun us H' x' k' e' r pp hp => ?_
  have hM := k'.fresh hp
  exact q _ _ (x'.trans (Ex.new hp)) (k'.new hp) (e'.ext k' (Ex.new hp)) ⟨pp, us, rfl, hid_of hM upd_same, r.imp fun _ _ => S.mono (hid_new hM hp)⟩
end

/-! ### promises -/
/-- a def that changes nothing that stands: arguments by ds, an answer by S, or an error of the class at c -/
def spF (G : List Addr) {ι γ : Type} (pre : ι → Prop) (ds : ι → List Dy) (S : Rp γ) (f : ι → Except Addr γ) : Sp := fun vs H Q E => ∃ M x, Ok G M H ∧ pre x ∧ All2 (fun v (d : Dy) => d.R.rep (hid M H) v d.a) vs (ds x) ∧
  (∀ r, f x = .ok r → ∀ w H', Ex G H H' → Ok G M H' → S.rep (hid M H') w r → Q w H') ∧ ∀ c, f x = .error c → ∀ H', Ex G H H' → Ok G M H' → E (.ref c) none H'
/-- an __init__: the object stands at the first argument -/
def spI (G : List Addr) (C : Addr) {ι γ : Type} (pre : ι → Prop) (ds : ι → List Dy) (S : Rp γ) (f : ι → Except Addr γ) : Sp := fun vs H Q E => ∃ M x p dx rest, vs = .ref p :: rest ∧ H p = some (.ins C dx []) ∧ p ∉ M ∧ Ok G M H ∧ pre x ∧ All2 (fun v (d : Dy) => d.R.rep (hid (p :: M) H) v d.a) rest (ds x) ∧
  (∀ r, f x = .ok r → ∀ H', Ex (G ++ [p]) H H' → Ok G M H' → S.rep (hid M H') (.ref p) r → Q .non H') ∧ ∀ c, f x = .error c → ∀ H', Ex (G ++ [p]) H H' → Ok G M H' → E (.ref c) none H'
/-- an expression that ends in an error of the class at c -/
def EX (G : List Addr) (Γ : Ctx) (te : TE) (Γ' : Ctx) (W : XK) (c : Addr) : Prop :=
  ∀ M own σ H, Ok G M H → Env G M H own σ Γ → ∀ Q : VK, (∀ H', Ex (G ++ own) H H' → Ok G M H' → Env G M H' own σ Γ' → W (.ref c) none H') → te σ H Q
section
variable {G : List Addr} {Γ Γ' Γ1 Γ2 : Ctx} {ι α γ : Type} {pre : ι → Prop} {ds : ι → List Dy} {S : Rp γ} {R : Rp α} {f : ι → Except Addr γ} {x : ι} {r : γ} {c : Addr} {W : XK} {ta t : TA} {te : TE} {o : α}
theorem e_call (h : EA G Γ ta Γ' (ds x)) (hp : pre x) (hf : f x = .ok r) : E G Γ (tCall (spF G pre ds S f) [] W ta) Γ' S r := fun M own σ H k e Q q => h M own σ H k e _ fun vs H1 x1 k1 e1 r1 => by
  show spF G pre ds S f (vs ++ []) H1 Q W
  rw [List.append_nil]
  refine ⟨M, x, k1, hp, r1, fun r' hr w H2 x2 k2 rw' => ?_, fun c' hc => by rw [hf] at hc; cases hc⟩
  rw [hf] at hr
  cases hr
  exact q w H2 (x1.trans (x2.more fun b hb => List.mem_append_left _ hb)) k2 (e1.ext k1 x2) rw'
theorem e_callX (h : EA G Γ ta Γ' (ds x)) (hp : pre x) (hf : f x = .error c) : EX G Γ (tCall (spF G pre ds S f) [] W ta) Γ' W c := fun M own σ H k e Q q => h M own σ H k e _ fun vs H1 x1 k1 e1 r1 => by
  show spF G pre ds S f (vs ++ []) H1 Q W
  rw [List.append_nil]
  refine ⟨M, x, k1, hp, r1, fun r' hr => (by rw [hf] at hr; cases hr), fun c' hc H2 x2 k2 => ?_⟩
  rw [hf] at hc
  cases hc
  exact q H2 (x1.trans (x2.more fun b hb => List.mem_append_left _ hb)) k2 (e1.ext k1 x2)
/-- what a method call asks of the object's kind -/
def IsObj (R : Rp α) (C : Addr) (m : Str) : Prop := ∀ h v o, R.rep h v o → ∃ a dx fs, v = .ref a ∧ h a = some (.ins C dx fs) ∧ fs.lookup m = none
theorem e_meth {C : Addr} {m : Str} {tail : List Dy} (ho : E G Γ te Γ1 R o) (hi : IsObj R C m) (h : EA G Γ1 t Γ2 tail) (hds : ds x = ⟨R, o⟩ :: tail) (hp : pre x) (hf : f x = .ok r) : E G Γ (tMeth C m (spF G pre ds S f) [] W te t) Γ2 S r := fun M own σ H k e Q q =>
  ho M own σ H k e _ fun v H1 x1 k1 e1 r1 => by
    obtain ⟨a, dx, fs, rfl, ha, hm⟩ := hi _ _ _ r1
    refine ⟨a, dx, fs, rfl, (hid_some ha).2, hm, h M own σ H1 k1 e1 _ fun vs H2 x2 k2 e2 r2 => ?_⟩
    show spF G pre ds S f (.ref a :: (vs ++ [])) H2 Q W
    rw [List.append_nil]
    refine ⟨M, x, k2, hp, by rw [hds]; exact .cons (R.mono (x2.hid (e1.allSub k1)) r1) r2, fun r' hr w H3 x3 k3 rw' => ?_, fun c' hc => by rw [hf] at hc; cases hc⟩
    rw [hf] at hr
    cases hr
    exact q w H3 ((x1.trans x2).trans (x3.more fun b hb => List.mem_append_left _ hb)) k3 (e2.ext k2 x3) rw'
theorem e_methX {C : Addr} {m : Str} {tail : List Dy} (ho : E G Γ te Γ1 R o) (hi : IsObj R C m) (h : EA G Γ1 t Γ2 tail) (hds : ds x = ⟨R, o⟩ :: tail) (hp : pre x) (hf : f x = .error c) : EX G Γ (tMeth C m (spF G pre ds S f) [] W te t) Γ2 W c := fun M own σ H k e Q q =>
  ho M own σ H k e _ fun v H1 x1 k1 e1 r1 => by
    obtain ⟨a, dx, fs, rfl, ha, hm⟩ := hi _ _ _ r1
    refine ⟨a, dx, fs, rfl, (hid_some ha).2, hm, h M own σ H1 k1 e1 _ fun vs H2 x2 k2 e2 r2 => ?_⟩
    show spF G pre ds S f (.ref a :: (vs ++ [])) H2 Q W
    rw [List.append_nil]
    refine ⟨M, x, k2, hp, by rw [hds]; exact .cons (R.mono (x2.hid (e1.allSub k1)) r1) r2, fun r' hr => (by rw [hf] at hr; cases hr), fun c' hc H3 x3 k3 => ?_⟩
    rw [hf] at hc
    cases hc
    exact q H3 ((x1.trans x2).trans (x3.more fun b hb => List.mem_append_left _ hb)) k3 (e2.ext k2 x3)
theorem make_pre {M : List Addr} {H : Hp} {C y dx : Addr} (k : Ok G M H) (hy : H y = none) (hd : H dx = none) (hn : dx ≠ y) : Ok G M (upd (upd H dx (.own y)) y (.ins C dx [])) ∧ Ex G H (upd (upd H dx (.own y)) y (.ins C dx [])) ∧ Sub (hid M H) (hid (y :: M) (upd (upd H dx (.own y)) y (.ins C dx []))) := by
  have hy' : upd H dx (.own y) y = none := by rw [upd_ne hn.symm]; exact hy
  have k1 : Ok G M (upd H dx (.own y)) := k.new hd
  exact ⟨k1.new hy', (Ex.new hd).trans (Ex.new hy'), (hid_new (k.fresh hd) hd).trans (hid_grow hy')⟩
theorem e_make {C : Addr} (h : EA G Γ t Γ' (ds x)) (hp : pre x) (hf : f x = .ok r) : E G Γ (tMake C (spI G C pre ds S f) [] W t) Γ' S r := fun M own σ H k e Q q => h M own σ H k e _ fun vs H1 x1 k1 e1 r1 y dx hy hd hn => by
  obtain ⟨kk, xx, ss⟩ := make_pre (C := C) k1 hy hd hn
  show spI G C pre ds S f (.ref y :: (vs ++ [])) _ _ W
  rw [List.append_nil]
  refine ⟨M, x, y, dx, vs, rfl, upd_same, k1.fresh hy, kk, hp, r1.imp fun v d => d.R.mono ss, fun r' hr H2 x2 k2 rw' => ⟨rfl, ?_⟩, fun c' hc => by rw [hf] at hc; cases hc⟩
  rw [hf] at hr
  cases hr
  have x3 : Ex G H1 H2 := fun b o hb eb => x2 b o (fun z => (List.mem_append.mp z).elim hb fun z => by
    rw [List.mem_singleton.mp z, hy] at eb; cases eb) (xx b o hb eb)
  exact q _ H2 (x1.trans (x3.more fun b hb => List.mem_append_left _ hb)) k2 (e1.ext k1 x3) rw'
theorem e_makeX {C : Addr} (h : EA G Γ t Γ' (ds x)) (hp : pre x) (hf : f x = .error c) : EX G Γ (tMake C (spI G C pre ds S f) [] W t) Γ' W c := fun M own σ H k e Q q => h M own σ H k e _ fun vs H1 x1 k1 e1 r1 y dx hy hd hn => by
  obtain ⟨kk, xx, ss⟩ := make_pre (C := C) k1 hy hd hn
  show spI G C pre ds S f (.ref y :: (vs ++ [])) _ _ W
  rw [List.append_nil]
  refine ⟨M, x, y, dx, vs, rfl, upd_same, k1.fresh hy, kk, hp, r1.imp fun v d => d.R.mono ss, fun r' hr => (by rw [hf] at hr; cases hr), fun c' hc H2 x2 k2 => ?_⟩
  rw [hf] at hc
  cases hc
  have x3 : Ex G H1 H2 := fun b o hb eb => x2 b o (fun z => (List.mem_append.mp z).elim hb fun z => by
    rw [List.mem_singleton.mp z, hy] at eb; cases eb) (xx b o hb eb)
  exact q H2 (x1.trans (x3.more fun b hb => List.mem_append_left _ hb)) k2 (e1.ext k1 x3)
end
end TP

set_option Elab.async false
set_option linter.all false
set_option maxRecDepth 100000
set_option maxHeartbeats 4000000
namespace TP
open PySem PySem.Spec PyProof.Rows L2

/-! ### statements -/
/-- the frame of a def: tables, what was handed in to be changed, what was hidden at its entry, the heap then -/
structure Fm where
  G : List Addr
  own0 : List Addr
  Mc : List Addr
  H0 : Hp
  sub : ∀ P ∈ G, P ∈ Mc
  al : ∀ m ∈ Mc, H0 m ≠ none
structure Stt (F : Fm) (M own : List Addr) (H : Hp) : Prop where
  ok : Ok F.G M H
  ex : Ex (F.G ++ F.own0) F.H0 H
  mc : ∀ m ∈ F.Mc, m ∈ M
  own : ∀ p ∈ own, p ∈ F.own0 ∨ F.H0 p = none
def KT (F : Fm) (g : Gp) (Γ : Ctx) (P : L2.St → Hp → Prop) : Prop := ∀ M own σ H, Stt F M own H → Env F.G M H own σ Γ → g.p (hid M H) → P σ H
section
variable {F : Fm} {g : Gp} {Γ Γ' Γ1 Γ2 : Ctx} {M own : List Addr} {H H' : Hp} {σ : L2.St} {α β γ : Type} {R : Rp α} {S : Rp β} {a : α} {b : β} {te : TE} {tt : TT} {ta : TA} {gt : TG} {D : Ends}
theorem Stt.step (s : Stt F M own H) (x : Ex (F.G ++ own) H H') (k : Ok F.G M H') : Stt F M own H' :=
  ⟨k, fun c o hc e => x c o (fun z => (List.mem_append.mp z).elim (fun z => hc (List.mem_append_left _ z)) fun z => (s.own c z).elim (fun z => hc (List.mem_append_right _ z)) fun z => by rw [z] at e; cases e) (s.ex c o hc e), s.mc, s.own⟩
theorem gp_step (s : Stt F M own H) (e : Env F.G M H own σ Γ) (x : Ex (F.G ++ own) H H') (h : g.p (hid M H)) : g.p (hid M H') := g.mono (x.hid (e.allSub s.ok)) h
/-- an answer -/
def Ret (F : Fm) (R : Rp α) (a : α) (rt : VK) : Prop := ∀ v H', Ex (F.G ++ F.own0) F.H0 H' → Ok F.G F.Mc H' → R.rep (hid F.Mc H') v a → rt v H'
/-- an error of the class at c -/
def Rai (F : Fm) (c : Addr) (W : XK) : Prop := ∀ H', Ex (F.G ++ F.own0) F.H0 H' → Ok F.G F.Mc H' → W (.ref c) none H'
theorem Stt.back (s : Stt F M own H) : Ok F.G F.Mc H := ⟨F.sub, fun m hm => s.ok.al m (s.mc m hm), s.ok.wf⟩
theorem s_asg {ws : List Nat} (h : E F.G Γ te Γ1 R a) (t : Tg F.G gt R a Γ1 Γ2 ws) (k : KT F g Γ2 D.nx) : KT F g Γ (tAsg te gt D) := fun M own σ H s e gg => h M own σ H s.ok e _ fun v H1 x1 k1 e1 r1 =>
  t M own σ H1 v _ k1 e1 r1 fun σ' _ e2 => k M own σ' H1 (s.step x1 k1) e2 (gp_step s e x1 gg)
theorem s_set {i : Nat} (h : E F.G Γ te Γ1 R a) (hp : PlainAt Γ1 i) (k : KT F g (Γ1.set i (.val R a)) D.nx) : KT F g Γ (tAsg te (gName i) D) := s_asg h (tg_name hp) k
theorem s_drop (h : E F.G Γ te Γ1 R a) (k : KT F g Γ1 D.nx) : KT F g Γ (tDrop te D) := fun M own σ H s e gg => h M own σ H s.ok e _ fun v H1 x1 k1 e1 r1 => k M own σ H1 (s.step x1 k1) e1 (gp_step s e x1 gg)
theorem s_if {c : Bool} {t u : TS} (h : ET F.G Γ tt Γ1 c) (h1 : c = true → KT F g Γ1 (t D)) (h2 : c = false → KT F g Γ1 (u D)) : KT F g Γ (tIfS tt t u D) := fun M own σ H s e gg => h M own σ H s.ok e _ fun H1 x1 k1 e1 => by
  cases c with
  | true => exact h1 rfl M own σ H1 (s.step x1 k1) e1 (gp_step s e x1 gg)
  | false => exact h2 rfl M own σ H1 (s.step x1 k1) e1 (gp_step s e x1 gg)
theorem s_seq {t u : TS} (h : KT F g Γ (t { D with nx := u D })) : KT F g Γ (tSeq t u D) := h
theorem s_next (h : KT F g Γ D.nx) : KT F g Γ (tNext D) := h
theorem s_ret (h : E F.G Γ te Γ1 R a) (r : Ret F R a D.rt) : KT F g Γ (tRet te D) := fun M own σ H s e gg => h M own σ H s.ok e _ fun v H1 x1 k1 e1 r1 =>
  r v H1 (s.step x1 k1).ex (s.step x1 k1).back (R.mono (hid_less s.mc) r1)
theorem s_end {rt : VK} (r : Ret F rNon () rt) : KT F g Γ (fun _ H' => rt .non H') := fun M own σ H s e gg => r .non H s.ex s.back rfl
theorem s_raise {c : Addr} {W : XK} (r : Rai F c W) : KT F g Γ (fun _ H' => W (.ref c) none H') := fun M own σ H s e gg => r H s.ex s.back
theorem s_asgX {c : Addr} {W : XK} (h : EX F.G Γ te Γ1 W c) (r : Rai F c W) : KT F g Γ (tAsg te gt D) := fun M own σ H s e gg => h M own σ H s.ok e _ fun H1 x1 k1 e1 => r H1 (s.step x1 k1).ex (s.step x1 k1).back
theorem s_dropX {c : Addr} {W : XK} (h : EX F.G Γ te Γ1 W c) (r : Rai F c W) : KT F g Γ (tDrop te D) := fun M own σ H s e gg => h M own σ H s.ok e _ fun H1 x1 k1 e1 => r H1 (s.step x1 k1).ex (s.step x1 k1).back
theorem s_retX {c : Addr} {W : XK} (h : EX F.G Γ te Γ1 W c) (r : Rai F c W) : KT F g Γ (tRet te D) := fun M own σ H s e gg => h M own σ H s.ok e _ fun H1 x1 k1 e1 => r H1 (s.step x1 k1).ex (s.step x1 k1).back
theorem s_le (l : Le Γ Γ') {P : L2.St → Hp → Prop} (k : KT F g Γ' P) : KT F g Γ P := fun M own σ H s e gg => k M own σ H s ⟨e.nd, e.sub, e.out, e.env.le l⟩ gg
theorem s_gp {g' : Gp} (h : ∀ h, g'.p h → g.p h) {P : L2.St → Hp → Prop} (k : KT F g Γ P) : KT F g' Γ P := fun M own σ H s e gg => k M own σ H s e (h _ gg)
theorem s_augI {i : Nat} {n m : Int} {f : Int → Int → Int} (hx : Γ[i]? = some (.val rInt n)) (h : E F.G Γ te Γ rInt m) (k : KT F g (Γ.set i (.val rInt (f n m))) D.nx) : KT F g Γ (tAug i te (ipI f) D) := fun M own σ H s e gg => by
  obtain ⟨v, h1, h2⟩ := e.env.get hx
  have h2 : v = V.int n := h2
  subst h2
  refine ⟨_, h1, h M own σ H s.ok e _ fun w H1 x1 k1 e1 r1 => ?_⟩
  have r1 : w = V.int m := r1
  subst r1
  refine ⟨n, m, rfl, rfl, k M own _ H1 (s.step x1 k1) ⟨e1.nd, e1.sub, e1.out, e1.env.set (R := rInt) rfl fun s hs => ?_⟩ (gp_step s e x1 gg)⟩
  rw [hx] at hs
  cases hs
  exact True.intro
/-- a for -/
theorem s_for {Sx : Type} {wi : TI} {tb : TS} {xs : List α} (Γs : Sx → Ctx) (I : Nat → Sx → Prop) {s0 : Sx} (hs : ES F.G Γ wi (Γs s0) R xs) (h0 : I 0 s0)
    (turn : ∀ i x s, xs[i]? = some x → I i s → ∃ Γx ws, Tg F.G gt R x (Γs s) Γx ws ∧ ∀ g' N, (∀ s', I (i + 1) s' → KT F g' (Γs s') N) → (∀ Γ', KT F g Γ' D.nx → KT F g' Γ' D.nx) → KT F g' Γx (tb { D with nx := N, ct := N, bk := D.nx }))
    (done : ∀ s, I xs.length s → KT F g (Γs s) D.nx) : KT F g Γ (tFor wi gt tb D) := fun M own σ H s e gg => hs M own σ H s.ok e _ fun J H1 gj x1 k1 e1 w1 g1 => by
  obtain ⟨Gd, Y, wk, hG, hY⟩ := w1.ex
  have gg1 : (gAnd g gj).p (hid M H1) := ⟨gp_step s e x1 gg, g1⟩
  refine for_it wk (fun i σ H => ∃ s M own, I i s ∧ Stt F M own H ∧ Env F.G M H own σ (Γs s) ∧ (gAnd g gj).p (hid M H)) ⟨s0, M, own, h0, s.step x1 k1, e1, gg1⟩ (fun i σ H _ ⟨_, M, _, _, _, _, gx⟩ => hG _ _ hid_sub gx.2) ?_ ?_
  · rintro i x σ2 H2 H3 hi ⟨s2, M2, own2, i2, st2, e2, g2⟩ hy
    obtain ⟨x3, k3, y, hy1, ry⟩ := hY i x M2 H2 H3 hi st2.ok g2.2 hy
    have x3' := x3.more (N' := F.G ++ own2) fun b hb => List.mem_append_left _ hb
    have e3 := e2.ext st2.ok x3
    obtain ⟨Γx, ws, tg, body⟩ := turn i y s2 hy1 i2
    refine tg M2 own2 σ2 H3 x _ k3 e3 ry fun σ4 _ e4 => ?_
    refine body (gAnd g gj) _ (fun s' i' M own σ H st e gx => ⟨s', M, own, i', st, e, gx⟩) (fun Γ' kk => s_gp (g' := gAnd g gj) (fun h z => (show g.p h ∧ gj.p h from z).1) kk) M2 own2 σ4 H3 (st2.step x3' k3) e4 (gp_step st2 e2 x3' g2)
  · rintro σ2 H2 ⟨s2, M2, own2, i2, st2, e2, g2⟩
    exact done s2 i2 M2 own2 σ2 H2 st2 e2 g2.1
/-- a while -/
theorem s_while {Sx : Type} {tb : TS} (Γs : Sx → Ctx) (I : Sx → Prop) (μ : Sx → Nat) {s0 : Sx} (h0 : I s0)
    (turn : ∀ s, I s → ∃ c, ET F.G (Γs s) tt (Γs s) c ∧ (c = true → ∀ N, (∀ s', I s' → μ s' < μ s → KT F g (Γs s') N) → KT F g (Γs s) (tb { D with nx := N, ct := N, bk := D.nx })) ∧ (c = false → KT F g (Γs s) D.nx)) :
    KT F g (Γs s0) (tWhile tt tb D) := fun M own σ H s e gg => by
  refine ⟨fun m σ H => ∃ s M own, μ s = m ∧ I s ∧ Stt F M own H ∧ Env F.G M H own σ (Γs s) ∧ g.p (hid M H), ⟨_, s0, M, own, rfl, h0, s, e, gg⟩, ?_⟩
  rintro m σ2 H2 ⟨s2, M2, own2, rfl, i2, st2, e2, g2⟩
  obtain ⟨c, ht, h1, h2⟩ := turn s2 i2
  refine ht M2 own2 σ2 H2 st2.ok e2 _ fun H3 x3 k3 e3 => ?_
  cases c with
  | true => exact ⟨fun σ H => ∃ s M own, μ s < μ s2 ∧ I s ∧ Stt F M own H ∧ Env F.G M H own σ (Γs s) ∧ g.p (hid M H), fun σ' H' ⟨s', M', own', a1, a2, a3, a4, a5⟩ => ⟨μ s', a1, s', M', own', rfl, a2, a3, a4, a5⟩,
      h1 rfl _ (fun s' i' l M own σ H st e gx => ⟨s', M, own, l, i', st, e, gx⟩) M2 own2 σ2 H3 (st2.step x3 k3) e3 (gp_step st2 e2 x3 g2)⟩
  | false => exact h2 rfl M2 own2 σ2 H3 (st2.step x3 k3) e3 (gp_step st2 e2 x3 g2)

/-! ### a def's entry -/
def ctx0 (ds : List Dy) (n : Nat) : Ctx := ds.map (fun d => .val d.R d.a) ++ List.replicate n .no
theorem env_none {h H : Hp} : ∀ {n : Nat}, EnvR h H (List.replicate n none) (List.replicate n .no) []
  | 0 => rfl
  | n + 1 => by
    show EnvR h H (none :: List.replicate n none) (.no :: List.replicate n .no) []
    exact env_none (n := n)
theorem env_args {h H : Hp} {n : Nat} : ∀ {vs : List V} {ds : List Dy}, All2 (fun v (d : Dy) => d.R.rep h v d.a) vs ds → EnvR h H (vs.map some ++ List.replicate n none) (ctx0 ds n) []
  | _, _, .nil => env_none
  | _, _, .cons a r => ⟨⟨_, rfl, a⟩, env_args r⟩
end
end TP

set_option Elab.async false
set_option linter.all false
set_option maxRecDepth 100000
set_option maxHeartbeats 4000000
namespace TP
open PySem PySem.Spec PyProof.Rows L2

/-! ### a def by its datum, its code object named -/
def fdOf (K : PySem.W.Frag) (p : He.Defn) : FuncData := match K.lookup (He.fAd K p) with
  | some ⟨_, _, .func fd, _⟩ => fd
  | _ => PySem.W.fnOf "" "" ⟨[], [], none, [], [], none, []⟩ [] ⟨.function, [], false, false, []⟩ .none .none .none .none none .none .none
structure FnC (K : PySem.W.Frag) (d : He.DefD) : Prop where
  ex : ∃ (oc : Value) (od : Option Addr) (kV doc pm : Value) (an : Option Addr) (ct : Value) (osl : Array (Option Value)),
    fdOf K d.at_ = PySem.W.fnOf d.name d.qual d.params d.body d.scope .none kV doc pm an (.ref (He.codeOf K d.at_)) ct ∧ K.lookup (He.fAd K d.at_) = some ⟨oc, od, .func (fdOf K d.at_), osl⟩ ∧ PySem.W.codeIn K (.ref (He.codeOf K d.at_)) d.qual = true
  kp : PySem.W.keepIn K (.ref (He.fAd K d.at_)) = true
theorem fnC_of {fa : List He.Fa} {fn : List He.DefD} {K : PySem.W.Frag} {d : He.DefD} (c : He.SaysD fa fn K) (h : d ∈ fn) (hd : d.dfl = []) : FnC K d := by
  obtain ⟨fd, ⟨oc, od, dV, kV, doc, pm, an, cdv, ct, osl, e, lk, hcd, hD, _⟩, kp⟩ := c.defs h
  have ef : fdOf K d.at_ = fd := by unfold fdOf; rw [lk]
  obtain ⟨cc, rfl⟩ := He.codeIn_ref hcd
  have ec : He.codeOf K d.at_ = cc := He.codeOf_eq lk (by rw [e] <;> rfl)
  have eD : dV = .none := by
    rcases hD with ⟨_, z⟩ | ⟨z, _⟩
    · exact z
    · exact absurd (by unfold He.DefD.dvs; rw [hd] <;> rfl) z
  subst eD
  exact ⟨⟨oc, od, kV, doc, pm, an, ct, osl, by rw [ef, e, ec], by rw [ef]; exact lk, by rw [ec]; exact hcd⟩, kp⟩
section
variable {P : Program} {w : World} {K : PySem.W.Frag} {mg : Str → Option Value} {base : Heap} {d : He.DefD}
/-- a def's context -/
abbrev cxD (P : Program) (w : World) (K : PySem.W.Frag) (mg : Str → Option Value) (base : Heap) (N : List Str) (d : He.DefD) (A : Around) (outer : List PySem.Env) (s : Shared) (H : Hp) (E : XK) : Cx :=
  cxOf (L2.CX P w) P w K mg base N d.qual d.scope (He.fAd K d.at_) (.ref (He.codeOf K d.at_)) A outer s H E
/-- what a def keeps -/
abbrev Kp (P : Program) (w : World) (K : PySem.W.Frag) (mg : Str → Option Value) (base : Heap) (k : Nat) (d : He.DefD) (ps : List Str) (sp : Sp) : Prop := FnOk P w K mg base (L2.CX P w) k (He.fAd K d.at_) (fdOf K d.at_) ps sp
theorem FnC.ok {N ps : List Str} {k : Nat} {sp : Sp} (F : FnC K d) (S : FnScope N ps d.scope) (len : ∀ vs H Q E, sp vs H Q E → vs.length = ps.length)
    (hbody : ∀ (A : Around) (outer : List PySem.Env) (s : Shared) (H : Hp) (vs : List V) (Q : VK) (E : XK), Room k (cxD P w K mg base N d A outer s H E).A → sp vs H Q E →
      ∃ t, PSs (cxD P w K mg base N d A outer s H E) d.body t ∧ t { nx := fun _ H' => Q .non H', rt := Q } (start N vs) H) : Kp P w K mg base (k + 1) d ps sp := by
  obtain ⟨oc, od, kV, doc, pm, an, ct, osl, e, lk, hcd⟩ := F.ex
  show FnOk P w K mg base (L2.CX P w) (k + 1) (He.fAd K d.at_) (fdOf K d.at_) ps sp
  rw [e] at lk ⊢
  exact fn_of lk hcd S len fun A outer s H vs Q E hr hsp => hbody A outer s H vs Q E hr hsp
theorem FnC.binds {ps : List Str} (F : FnC K d)
    (h : ∀ (kV doc pm : Value) (an : Option Addr) (cdv ct : Value) (us : List Value), us.length = ps.length → bindArgs (PySem.W.fnOf d.name d.qual d.params d.body d.scope .none kV doc pm an cdv ct) ⟨us, []⟩ = pure (ps.zip us)) : Binds K (fdOf K d.at_) ps [] := by
  obtain ⟨oc, od, kV, doc, pm, an, ct, osl, e, lk, hcd⟩ := F.ex
  rw [e]
  exact .all (h kV doc pm an _ ct)
end

/-! ### a promise kept -/
/-- the frame at a def's entry -/
def fm0 {G M : List Addr} (own0 : List Addr) {H : Hp} (k : Ok G M H) : Fm := ⟨G, own0, M, H, k.sub, k.al⟩
theorem start_eq {N : List Str} {vs : List V} {n : Nat} (h : N.length - vs.length = n) : start N vs = vs.map some ++ List.replicate n none := by
  rw [← h]; rfl
/-- the body's law: from spF to KT -/
theorem spF_in {G : List Addr} {ι γ : Type} {pre : ι → Prop} {ds : ι → List Dy} {S : Rp γ} {f : ι → Except Addr γ} {N : List Str} {vs : List V} {H : Hp} {Q : VK} {E : XK} {n : Nat} {t : TS} (h : spF G pre ds S f vs H Q E) (hn : N.length - vs.length = n)
    (body : ∀ (F : Fm) (x : ι), F.G = G → F.own0 = [] → pre x → (∀ r, f x = .ok r → Ret F S r Q) → (∀ c, f x = .error c → Rai F c E) → KT F gT (ctx0 (ds x) n) (t { nx := fun _ H' => Q .non H', rt := Q })) :
    t { nx := fun _ H' => Q .non H', rt := Q } (start N vs) H := by
  obtain ⟨M, x, k, hp, ha, hok, her⟩ := h
  rw [start_eq hn]
  refine body (fm0 [] k) x rfl rfl hp (fun r hr v H' x' k' rv => hok r hr v H' (by simpa [fm0] using x') k' rv) (fun c hc H' x' k' => her c hc H' (by simpa [fm0] using x') k') M [] _ H ⟨k, Ex.refl, fun m hm => hm, fun p hp => by simp at hp⟩ ⟨List.nodup_nil, fun p hp => by simp at hp, fun p hp => by simp at hp, env_args ha⟩ trivial
theorem spF_len {G : List Addr} {ι γ : Type} {pre : ι → Prop} {ds : ι → List Dy} {S : Rp γ} {f : ι → Except Addr γ} {n : Nat} (hd : ∀ x, (ds x).length = n) : ∀ vs H Q E, spF G pre ds S f vs H Q E → vs.length = n := fun vs H Q E ⟨M, x, k, hp, ha, _⟩ => by
  rw [ha.length, hd]
end TP

set_option Elab.async false
set_option linter.all false
set_option maxRecDepth 100000
set_option maxHeartbeats 4000000
namespace TP
open PySem PySem.Spec PyProof.Rows L2

/-! ### one owned slot -/
structure Foc (h H : Hp) (σ : L2.St) (Γ : Ctx) (ps : List Addr) (i : Nat) (O : Ow) (v : V) (p1 pi p2 : List Addr) : Prop where
  at_ : σ[i]? = some (some v)
  seg : ps = p1 ++ (pi ++ p2)
  own : O.own h H pi v
  put : ∀ (h' H' : Hp) (O' : Ow), Sub h h' → (∀ p ∈ p1 ++ p2, H' p = H p) → O'.own h' H' pi v → EnvR h' H' σ (Γ.set i (.own O')) ps
  out : ∀ (h' H' : Hp) (s : Sl), Sub h h' → (∀ p ∈ p1 ++ p2, H' p = H p) → (match s with | .no => True | .val R a => R.rep h' v a | .own _ => False) → EnvR h' H' σ (Γ.set i s) (p1 ++ p2)
theorem EnvR.focus {h H : Hp} {O : Ow} : ∀ {σ : L2.St} {Γ : Ctx} {ps : List Addr} {i : Nat}, EnvR h H σ Γ ps → Γ[i]? = some (.own O) → ∃ v p1 pi p2, Foc h H σ Γ ps i O v p1 pi p2
  | [], [], _, _, _, e => by simp at e
  | _ :: σ, .no :: Γ, ps, 0, x, e => by simp at e
  | ov :: σ, .no :: Γ, ps, i + 1, x, e => by
    obtain ⟨v, p1, pi, p2, f⟩ := EnvR.focus (σ := σ) (Γ := Γ) (i := i) x (by simpa using e)
    exact ⟨v, p1, pi, p2, by simpa using f.at_, f.seg, f.own, fun h' H' O' s a o => f.put h' H' O' s a o, fun h' H' s' s a o => f.out h' H' s' s a o⟩
  | ov :: σ, .val R' a' :: Γ, ps, 0, _, e => by simp at e
  | ov :: σ, .val R' a' :: Γ, ps, i + 1, ⟨⟨w, e1, r⟩, x⟩, e => by
    obtain ⟨v, p1, pi, p2, f⟩ := EnvR.focus (σ := σ) (Γ := Γ) (i := i) x (by simpa using e)
    exact ⟨v, p1, pi, p2, by simpa using f.at_, f.seg, f.own, fun h' H' O' s a o => ⟨⟨w, e1, R'.mono s r⟩, f.put h' H' O' s a o⟩, fun h' H' s' s a o => ⟨⟨w, e1, R'.mono s r⟩, f.out h' H' s' s a o⟩⟩
  | ov :: σ, .own O' :: Γ, ps, 0, ⟨v, p1, p2, e1, e2, r, x⟩, e => by
    simp at e
    subst e
    refine ⟨v, [], p1, p2, by simp [e1], by simpa using e2, r, fun h' H' O' s a o => ⟨v, p1, p2, e1, e2, o, x.mono s fun p hp => a p (by simpa using hp)⟩, fun h' H' s' s a o => ?_⟩
    have x' : EnvR h' H' σ Γ p2 := x.mono s fun p hp => a p (by simpa using hp)
    cases s' with
    | no => exact x'
    | val R a => exact ⟨⟨v, e1, o⟩, x'⟩
    | own _ => exact o.elim
  | ov :: σ, .own O' :: Γ, ps, i + 1, ⟨w, q1, q2, e1, e2, r, x⟩, e => by
    obtain ⟨v, p1, pi, p2, f⟩ := EnvR.focus (σ := σ) (Γ := Γ) (i := i) x (by simpa using e)
    refine ⟨v, q1 ++ p1, pi, p2, by simpa using f.at_, by rw [e2, f.seg, List.append_assoc], f.own, fun h' H' O2 s a o => ?_, fun h' H' s' s a o => ?_⟩
    · exact ⟨w, q1, q2, e1, e2, O'.mono s (fun p hp => a p (by simp [hp])) r, f.put h' H' O2 s (fun p hp => a p (by rw [List.append_assoc]; exact List.mem_append_right _ hp)) o⟩
    · exact ⟨w, q1, p1 ++ p2, e1, by rw [List.append_assoc], O'.mono s (fun p hp => a p (by simp [hp])) r, f.out h' H' s' s (fun p hp => a p (by rw [List.append_assoc]; exact List.mem_append_right _ hp)) o⟩
  | [], .no :: _, _, _, x, _ => x.elim
  | [], .val _ _ :: _, _, _, x, _ => x.elim
  | [], .own _ :: _, _, _, x, _ => x.elim
  | _ :: _, [], _, _, x, _ => x.elim
/-- a new owned thing in a slot -/
theorem EnvR.newOwn {h H : Hp} {O : Ow} {v : V} {pi : List Addr} (o : O.own h H pi v) : ∀ {σ : L2.St} {Γ : Ctx} {ps : List Addr} {i : Nat}, EnvR h H σ Γ ps → PlainAt Γ i → i < Γ.length → ∃ p1 p2, ps = p1 ++ p2 ∧ EnvR h H (σ.set i (some v)) (Γ.set i (.own O)) (p1 ++ (pi ++ p2))
  | [], [], _, _, _, _, l => by simp at l
  | _ :: σ, .no :: Γ, ps, 0, x, e, _ => ⟨[], ps, rfl, v, pi, ps, rfl, rfl, o, x⟩
  | _ :: σ, .no :: Γ, ps, i + 1, x, e, l => EnvR.newOwn o (σ := σ) (Γ := Γ) (i := i) x (fun s z => e s (by simpa using z)) (by simpa using l)
  | _ :: σ, .val R a :: Γ, ps, 0, ⟨_, x⟩, e, _ => ⟨[], ps, rfl, v, pi, ps, rfl, rfl, o, x⟩
  | _ :: σ, .val R a :: Γ, ps, i + 1, ⟨y, x⟩, e, l => by
    obtain ⟨p1, p2, e1, x'⟩ := EnvR.newOwn o (σ := σ) (Γ := Γ) (i := i) x (fun s z => e s (by simpa using z)) (by simpa using l)
    exact ⟨p1, p2, e1, y, x'⟩
  | _ :: σ, .own O' :: Γ, ps, 0, _, e, _ => (e (.own O') (by simp)).elim
  | _ :: σ, .own O' :: Γ, ps, i + 1, ⟨w, q1, q2, e1, e2, r, x⟩, e, l => by
    obtain ⟨p1, p2, e3, x'⟩ := EnvR.newOwn o (σ := σ) (Γ := Γ) (i := i) x (fun s z => e s (by simpa using z)) (by simpa using l)
    exact ⟨q1 ++ p1, p2, by rw [e2, e3, List.append_assoc], w, q1, p1 ++ (pi ++ p2), e1, by rw [List.append_assoc], r, x'⟩
  | [], .no :: _, _, _, x, _, _ => x.elim
  | [], .val _ _ :: _, _, _, x, _, _ => x.elim
  | [], .own _ :: _, _, _, x, _, _ => x.elim
  | _ :: _, [], _, _, x, _, _ => x.elim
theorem hid_upd {M : List Addr} {H : Hp} {p : Addr} {o : HO} (hp : p ∈ M) : hid M (upd H p o) = hid M H := by
  funext b
  unfold hid
  by_cases hb : b ∈ M
  · rw [if_pos hb, if_pos hb]
  · rw [if_neg hb, if_neg hb, upd_ne (fun z => hb (by rw [z]; exact hp))]
theorem Ok.upd {G M : List Addr} {H : Hp} {p : Addr} {o : HO} (k : Ok G M H) (hG : p ∉ G) : Ok G M (L2.upd H p o) := ⟨k.sub, fun m hm z => by
  by_cases e : m = p
  · rw [e, upd_same] at z; cases z
  · rw [upd_ne e] at z; exact k.al m hm z, fun P hP => by
    obtain ⟨ps, e, t⟩ := k.wf P hP
    exact ⟨ps, by rw [upd_ne (fun z => hG (by rw [← z]; exact hP))]; exact e, t⟩⟩

section
variable {F : Fm} {g : Gp} {Γ Γ' Γ1 Γ2 : Ctx} {G M own : List Addr} {H H' : Hp} {σ : L2.St} {α β γ : Type} {R : Rp α} {S : Rp β} {a : α} {b : β} {te : TE} {tt : TT} {ta : TA} {gt : TG} {D : Ends} {K : PySem.W.Frag}
/-- read an owned list -/
theorem e_ixO {i : Nat} {c : Addr → Prop} {xs : List α} {n : Int} (hx : Γ1[i]? = some (.own (oLstP c R xs))) (h : E G Γ1 te Γ1 rInt n) (ha : atI xs n = some a) : E G Γ1 (tOp (rIxL K) (tVar i) te) Γ1 R a := fun M own σ H k e Q q => by
  obtain ⟨v, p1, pi, p2, f⟩ := e.env.focus hx
  obtain ⟨p, vs, _, rfl, rfl, hp, r⟩ := f.own
  refine ⟨.ref p, f.at_, h M own σ H k e _ fun w H1 x1 k1 e1 r1 => ?_⟩
  obtain ⟨v', p1', pi', p2', f'⟩ := e1.env.focus hx
  obtain ⟨p', vs', _, rfl, rfl, hp', r'⟩ := f'.own
  have ep : V.ref p = V.ref p' := by
    have := f.at_.symm.trans f'.at_
    injection this with this
    injection this with this
  injection ep with ep
  subst ep
  have r1 : w = V.int n := r1
  subst r1
  obtain ⟨x, h1, h2⟩ : ∃ x, atI vs' n = some x ∧ R.rep (hid M H1) x a := by
    unfold atI at ha ⊢
    rw [r'.length]
    cases hs : ixN xs.length n with
    | none => rw [hs] at ha; cases ha
    | some j =>
      rw [hs] at ha
      obtain ⟨x, h1, h2⟩ := r'.get (i := j) (b := a) ha
      exact ⟨x, h1, h2⟩
  exact ⟨p, vs', n, x, rfl, rfl, SqL.of hp', h1, q x H1 x1 k1 e1 h2⟩
/-- an owned slot given away: from now on a value -/
theorem KT.out {i : Nat} {O : Ow} {s : Sl} {P : L2.St → Hp → Prop} (hO : F.own0 = []) (hx : Γ[i]? = some (.own O)) (hc : ∀ h H ps v, O.own h H ps v → (∀ p ∈ ps, h p = H p) → match s with | .no => True | .val R a => R.rep h v a | .own _ => False) (k : KT F g (Γ.set i s) P) : KT F g Γ P := fun M own σ H st e gg => by
  obtain ⟨v, p1, pi, p2, f⟩ := e.env.focus hx
  -- pi is hidden no more
  have hpi : ∀ p ∈ pi, p ∈ own := fun p hp => by rw [f.seg]; simp [hp]
  have nd := e.nd
  rw [f.seg] at nd
  have nd' : (p1 ++ p2).Nodup := by
    rw [List.nodup_append] at nd ⊢
    obtain ⟨n1, n2, n3⟩ := nd
    rw [List.nodup_append] at n2
    exact ⟨n1, n2.2.1, fun a ha b hb => n3 a ha b (List.mem_append_right _ hb)⟩
  have dj : ∀ p ∈ p1 ++ p2, p ∉ pi := fun p hp hq => by
    rw [List.nodup_append] at nd
    obtain ⟨n1, n2, n3⟩ := nd
    rcases List.mem_append.mp hp with z | z
    · exact n3 p z p (List.mem_append_left _ hq) rfl
    · rw [List.nodup_append] at n2
      exact n2.2.2 p hq p z rfl
  have hmc : ∀ p ∈ pi, p ∉ F.Mc := fun p hp hm => (st.own p (hpi p hp)).elim (fun z => by rw [hO] at z; cases z) fun z => F.al p hm z
  · have s2 : Sub (hid M H) (hid (M.filter fun p => decide (p ∉ pi)) H) := hid_less fun b hb => (List.mem_filter.mp hb).1
    refine k (M.filter fun p => decide (p ∉ pi)) (p1 ++ p2) σ H ⟨⟨fun P hP => ?_, fun m hm => st.ok.al m (List.mem_filter.mp hm).1, st.ok.wf⟩, st.ex, fun m hm => ?_, fun p hp => st.own p (by rw [f.seg]; rcases List.mem_append.mp hp with z | z <;> simp [z])⟩ ⟨nd', fun p hp => ?_, fun p hp => e.out p (by rw [f.seg]; rcases List.mem_append.mp hp with z | z <;> simp [z]), ?_⟩ (g.mono s2 gg)
    · exact List.mem_filter.mpr ⟨st.ok.sub P hP, decide_eq_true fun z => e.out P (hpi P z) hP⟩
    · exact List.mem_filter.mpr ⟨st.mc m hm, decide_eq_true fun z => hmc m z hm⟩
    · exact List.mem_filter.mpr ⟨e.sub p (by rw [f.seg]; rcases List.mem_append.mp hp with z | z <;> simp [z]), decide_eq_true (dj p hp)⟩
    · refine f.out _ H s s2 (fun _ _ => rfl) ?_
      refine hc _ H pi v (O.mono s2 (fun _ _ => rfl) f.own) fun p hp => ?_
      unfold hid
      rw [if_neg fun z => (of_decide_eq_true (List.mem_filter.mp z).2) hp]
end
end TP

set_option Elab.async false
set_option linter.all false
set_option maxRecDepth 100000
set_option maxHeartbeats 4000000
namespace TP
open PySem PySem.Spec PyProof.Rows L2
section
variable {F : Fm} {g : Gp} {Γ Γ' Γ1 Γ2 : Ctx} {G M own : List Addr} {H H' : Hp} {σ : L2.St} {α β γ : Type} {R : Rp α} {S : Rp β} {a : α} {b : β} {te : TE} {tt : TT} {ta : TA} {gt : TG} {D : Ends} {K : PySem.W.Frag}
theorem all2_dys {h : Hp} : ∀ {vs : List V} {xs : List α}, All2 (fun v (d : Dy) => d.R.rep h v d.a) vs (xs.map fun x => ⟨R, x⟩) → All2 (R.rep h) vs xs
  | _, [], .nil => .nil
  | _, _ :: _, .cons a r => .cons a (all2_dys r)
/-- name = [..], from now on one's own -/
theorem s_newL {i : Nat} {xs : List α} (h : EA F.G Γ ta Γ1 (xs.map fun x => ⟨R, x⟩)) (hp : PlainAt Γ1 i) (hi : i < Γ1.length) (hl : xs.length ≤ 100000) (k : KT F g (Γ1.set i (.own (oLst R xs))) D.nx) : KT F g Γ (tAsg (tLst ta) (gName i) D) := fun M own σ H s e gg => h M own σ H s.ok e _ fun vs H1 x1 k1 e1 r1 => by
  have s1 := s.step x1 k1
  have r1 := all2_dys r1
  refine ⟨by rw [r1.length]; exact small_len hl, fun p hn => ?_⟩
  have hM := k1.fresh hn
  have e2 : Env F.G (p :: M) (upd H1 p (.lst vs)) own σ Γ1 := e1.grow k1 hn
  have sg : Sub (hid M H1) (hid (p :: M) (upd H1 p (.lst vs))) := hid_grow hn
  obtain ⟨p1, p2, eo, env⟩ := EnvR.newOwn (O := oLst R xs) (v := .ref p) (pi := [p]) ⟨p, vs, trivial, rfl, rfl, upd_same, r1.imp fun _ _ => R.mono sg⟩ e2.env hp hi
  have nd := e2.nd
  have hpo : p ∉ own := fun z => hM (e1.sub p z)
  refine k (p :: M) (p1 ++ ([p] ++ p2)) _ _ ⟨k1.grow hn, fun c o hc ec => ?_, fun m hm => List.mem_cons_of_mem _ (s1.mc m hm), fun q hq => ?_⟩ ⟨?_, fun q hq => ?_, fun q hq => ?_, env⟩ (g.mono sg (gp_step s e x1 gg))
  · have := s1.ex c o hc ec
    rw [upd_ne (ne_of_none this hn)]; exact this
  · rcases List.mem_append.mp hq with z | z
    · exact s1.own q (by rw [eo]; simp [z])
    · rcases List.mem_append.mp z with z | z
      · rw [List.mem_singleton.mp z]
        by_cases hz : F.H0 p = none
        · exact .inr hz
        · cases e0 : F.H0 p with
          | none => exact absurd e0 hz
          | some o =>
            by_cases hG : p ∈ F.G ++ F.own0
            · rcases List.mem_append.mp hG with z | z
              · exact (hM (k1.sub p z)).elim
              · exact .inl z
            · have := s1.ex p o hG e0
              rw [hn] at this; cases this
      · exact s1.own q (by rw [eo]; simp [z])
  · rw [eo] at nd hpo
    have hp1 : p ∉ p1 := fun z => hpo (by simp [z])
    have hp2 : p ∉ p2 := fun z => hpo (by simp [z])
    rw [List.nodup_append] at nd ⊢
    refine ⟨nd.1, List.nodup_cons.mpr ⟨hp2, nd.2.1⟩, fun x hx y hy => ?_⟩
    rcases List.mem_cons.mp hy with z | z
    · rw [z]; exact fun w => hp1 (by rw [← w]; exact hx)
    · exact nd.2.2 x hx y z
  · rcases List.mem_append.mp hq with z | z
    · exact e2.sub q (by rw [eo]; simp [z])
    · rcases List.mem_append.mp z with z | z
      · rw [List.mem_singleton.mp z]; exact List.mem_cons_self
      · exact e2.sub q (by rw [eo]; simp [z])
  · rcases List.mem_append.mp hq with z | z
    · exact e2.out q (by rw [eo]; simp [z])
    · rcases List.mem_append.mp z with z | z
      · rw [List.mem_singleton.mp z]; exact fun w => hM (k1.sub p w)
      · exact e2.out q (by rw [eo]; simp [z])
/-- the same value in both looks -/
theorem Foc.same {h h' : Hp} {Γ Γ' : Ctx} {ps ps' : List Addr} {i : Nat} {O O' : Ow} {v v' : V} {p1 pi p2 p1' pi' p2' : List Addr} (f : Foc h H σ Γ ps i O v p1 pi p2) (f' : Foc h' H' σ Γ' ps' i O' v' p1' pi' p2') : v = v' := by
  have := f.at_.symm.trans f'.at_
  injection this with this
  injection this with this
theorem Foc.apart {h : Hp} {ps : List Addr} {i : Nat} {O : Ow} {v : V} {p1 pi p2 : List Addr} (f : Foc h H σ Γ ps i O v p1 pi p2) (nd : ps.Nodup) : ∀ p ∈ p1 ++ p2, p ∉ pi := by
  rw [f.seg] at nd
  intro p hp hq
  rw [List.nodup_append] at nd
  obtain ⟨n1, n2, n3⟩ := nd
  rcases List.mem_append.mp hp with z | z
  · exact n3 p z p (List.mem_append_left _ hq) rfl
  · rw [List.nodup_append] at n2
    exact n2.2.2 p hq p z rfl
theorem Foc.inn {h : Hp} {ps : List Addr} {i : Nat} {O : Ow} {v : V} {p1 pi p2 : List Addr} (f : Foc h H σ Γ ps i O v p1 pi p2) : (∀ p ∈ pi, p ∈ ps) ∧ (∀ p ∈ p1 ++ p2, p ∈ ps) := by
  rw [f.seg]
  refine ⟨fun p hp => by simp [hp], fun p hp => ?_⟩
  rcases List.mem_append.mp hp with z | z <;> simp [z]
theorem Foc.pi_nodup {h : Hp} {ps : List Addr} {i : Nat} {O : Ow} {v : V} {p1 pi p2 : List Addr} (f : Foc h H σ Γ ps i O v p1 pi p2) (nd : ps.Nodup) : pi.Nodup := by
  rw [f.seg, List.nodup_append, List.nodup_append] at nd
  exact nd.2.1.1
/-- an owned object is written in place -/
theorem Env.write {i : Nat} {O O' : Ow} {v : V} {p1 pi p2 : List Addr} {p : Addr} {o : HO} (k : Ok G M H) (e : Env G M H own σ Γ) (f : Foc (hid M H) H σ Γ own i O v p1 pi p2) (hp : p ∈ pi) (ho : O'.own (hid M H) (upd H p o) pi v) :
    Ex (G ++ own) H (upd H p o) ∧ Ok G M (upd H p o) ∧ Env G M (upd H p o) own σ (Γ.set i (.own O')) := by
  have hpo := f.inn.1 p hp
  have hM := e.sub p hpo
  refine ⟨Ex.at Ex.refl (List.mem_append_right _ hpo), k.upd (e.out p hpo), e.nd, e.sub, e.out, ?_⟩
  rw [hid_upd hM]
  exact f.put _ _ O' (Sub.refl _) (fun q hq => upd_ne fun z => f.apart e.nd q hq (by rw [z]; exact hp)) ho
/-- own.append(e) -/
theorem s_append {i : Nat} {c : Addr → Prop} {xs : List α} (hx0 : Γ[i]? = some (.own (oLstP c R xs))) (hx : Γ1[i]? = some (.own (oLstP c R xs))) (h : E F.G Γ te Γ1 R a) (hl : xs.length < 100000) (k : KT F g (Γ1.set i (.own (oLstP c R (xs ++ [a])))) D.nx) :
    KT F g Γ (tDrop (tBM K "list" rAppend (tVar i) (tCons te tNil)) D) := fun M own σ H s e gg => by
  obtain ⟨v, p1, pi, p2, f⟩ := e.env.focus hx0
  obtain ⟨p, vs, hc, rfl, rfl, hp, r⟩ := f.own
  refine ⟨.ref p, f.at_, .inl ⟨rfl, vs, SqL.of hp⟩, h M own σ H s.ok e _ fun w H1 x1 k1 e1 r1 => ?_⟩
  obtain ⟨v', p1', pi', p2', f'⟩ := e1.env.focus hx
  have es := f.same f'
  obtain ⟨p', vs', hc', rfl, rfl, hp', r'⟩ := f'.own
  injection es with es
  subst es
  have hn : vs'.length < sizeLine := Nat.lt_of_lt_of_le (by rw [r'.length]; exact hl) (by decide)
  refine ⟨p, vs', w, rfl, rfl, hp', hn, ?_⟩
  obtain ⟨x2, k2, e2⟩ := e1.write (O' := oLstP c R (xs ++ [a])) k1 f' (List.mem_singleton.mpr rfl) ⟨p, vs' ++ [w], hc', rfl, rfl, upd_same, r'.append (.cons r1 .nil)⟩
  exact k M own σ _ ((s.step x1 k1).step x2 k2) e2 (by rw [hid_upd (e1.sub p (f'.inn.1 p (List.mem_singleton.mpr rfl)))]; exact gp_step s e x1 gg)
/-- len of one's own -/
theorem e_lenO {i : Nat} {c : Addr → Prop} {xs : List α} (hx : Γ[i]? = some (.own (oLstP c R xs))) : E G Γ (tCB (fun xs H Q => ∃ p ys, xs = [.ref p] ∧ (SqL K H p ys ∨ SqT K H p ys) ∧ Q (.int ys.length) H) (tCons (tVar i) tNil)) Γ rInt (xs.length : Int) := fun M own σ H k e Q q => by
  obtain ⟨v, p1, pi, p2, f⟩ := e.env.focus hx
  obtain ⟨p, vs, hc, rfl, rfl, hp, r⟩ := f.own
  exact ⟨.ref p, f.at_, p, vs, rfl, .inl (SqL.of hp), q _ H Ex.refl k e (by show V.int _ = V.int _; rw [r.length])⟩
/-- own[k] = e -/
theorem s_setI {i : Nat} {n : Nat} {c : Addr → Prop} {xs : List α} {tset : TSet} (hx0 : Γ[i]? = some (.own (oLstP c R xs))) (hx : Γ1[i]? = some (.own (oLstP c R xs))) (h : E F.G Γ te Γ1 R a) (hn : n < xs.length)
    (hset : ∀ (H : Hp) (p : Addr) (vs : List V) (w : V) (N : Hp → Prop), H p = some (.lst vs) → vs.length = xs.length → N (upd H p (.lst (vs.set n w))) → tset (.ref p) (.int n) w H N)
    (k : KT F g (Γ1.set i (.own (oLstP c R (xs.set n a)))) D.nx) :
    KT F g Γ (tAsg te (gSub (tVar i) (tC (.int n)) tset) D) := fun M own σ H s e gg => h M own σ H s.ok e _ fun w H1 x1 k1 e1 r1 => by
  obtain ⟨v', p1', pi', p2', f'⟩ := e1.env.focus hx
  obtain ⟨p, vs', hc', rfl, rfl, hp', r'⟩ := f'.own
  refine ⟨.ref p, f'.at_, ?_⟩
  refine hset H1 p vs' w _ hp' r'.length ?_
  have hw : All2 (R.rep (hid M H1)) (vs'.set n w) (xs.set n a) := by
    have key : ∀ {us : List V} {ys : List α} {j : Nat}, All2 (R.rep (hid M H1)) us ys → All2 (R.rep (hid M H1)) (us.set j w) (ys.set j a) := by
      intro us ys j hh
      induction hh generalizing j with
      | nil => exact .nil
      | cons x r ih => cases j with
        | zero => exact .cons r1 r
        | succ j => exact .cons x ih
    exact key r'
  obtain ⟨x2, k2, e2⟩ := e1.write (O' := oLstP c R (xs.set n a)) k1 f' (List.mem_singleton.mpr rfl) ⟨p, vs'.set n w, hc', rfl, rfl, upd_same, hw⟩
  exact k M own σ _ ((s.step x1 k1).step x2 k2) e2 (by rw [hid_upd (e1.sub p (f'.inn.1 p (List.mem_singleton.mpr rfl)))]; exact gp_step s e x1 gg)
end
end TP

set_option Elab.async false
set_option linter.all false
set_option maxRecDepth 100000
set_option maxHeartbeats 4000000
namespace TP
open PySem PySem.Spec PyProof.Rows L2
section
variable {F : Fm} {g : Gp} {Γ Γ' Γ1 Γ2 : Ctx} {G M own : List Addr} {H H' : Hp} {σ : L2.St} {α β γ : Type} {R : Rp α} {S : Rp β} {a : α} {b : β} {te : TE} {tt : TT} {ta : TA} {gt : TG} {D : Ends} {K : PySem.W.Frag} {W : XK}
/-- own[k] = e, the list's own store -/
theorem s_setL {i : Nat} {n : Nat} {c : Addr → Prop} {xs : List α} (hx : Γ1[i]? = some (.own (oLstP c R xs))) (h : E F.G Γ te Γ1 R a) (hn : n < xs.length) (k : KT F g (Γ1.set i (.own (oLstP c R (xs.set n a)))) D.nx) :
    KT F g Γ (tAsg te (gSub (tVar i) (tC (.int n)) rSetL) D) := fun M own σ H s e gg => h M own σ H s.ok e _ fun w H1 x1 k1 e1 r1 => by
  obtain ⟨v', p1', pi', p2', f'⟩ := e1.env.focus hx
  obtain ⟨p, vs', hc', rfl, rfl, hp', r'⟩ := f'.own
  refine ⟨.ref p, f'.at_, p, vs', n, n, rfl, rfl, hp', ?_, ?_⟩
  · have := r'.length
    unfold ixN
    rw [if_pos (by omega : (0 : Int) ≤ n)]
    rw [if_pos (by omega)]
    simp
  · have hw : All2 (R.rep (hid M H1)) (vs'.set n w) (xs.set n a) := by
      have key : ∀ {us : List V} {ys : List α} {j : Nat}, All2 (R.rep (hid M H1)) us ys → All2 (R.rep (hid M H1)) (us.set j w) (ys.set j a) := by
        intro us ys j hh
        induction hh generalizing j with
        | nil => exact .nil
        | cons x r ih => cases j with
          | zero => exact .cons r1 r
          | succ j => exact .cons x ih
      exact key r'
    obtain ⟨x2, k2, e2⟩ := e1.write (O' := oLstP c R (xs.set n a)) k1 f' (List.mem_singleton.mpr rfl) ⟨p, vs'.set n w, hc', rfl, rfl, upd_same, hw⟩
    exact k M own σ _ ((s.step x1 k1).step x2 k2) e2 (by rw [hid_upd (e1.sub p (f'.inn.1 p (List.mem_singleton.mpr rfl)))]; exact gp_step s e x1 gg)

/-! ### an object that is being made -/
/-- the object at p, its attributes so far -/
def oInsP (p C : Addr) (fs : List (Str × Dy)) : Ow := ⟨fun h H ps v => v = .ref p ∧ ps = [p] ∧ ∃ dx vs, H p = some (.ins C dx vs) ∧ All2 (fun (q : Str × V) (x : Str × Dy) => q.1 = x.1 ∧ x.2.R.rep h q.2 x.2.a) vs fs, fun k e ⟨e1, e2, dx, vs, e3, r⟩ =>
  ⟨e1, e2, dx, vs, by rw [e p (by rw [e2]; exact List.mem_singleton.mpr rfl)]; exact e3, r.imp fun _ x z => ⟨z.1, x.2.R.mono k z.2⟩⟩⟩
theorem putF_new {f : Str} {v : V} : ∀ {fs : List (Str × V)}, f ∉ fs.map (·.1) → putF f v fs = fs ++ [(f, v)]
  | [], _ => rfl
  | (g, x) :: r, h => by
    have hg : ¬ g = f := fun z => h (by simp [z])
    show (if g = f then (g, v) :: r else (g, x) :: putF f v r) = _
    rw [if_neg hg, putF_new (fs := r) fun z => h (by simp at z ⊢; exact .inr z)]
    rfl
theorem keys_all2 {h : Hp} : ∀ {vs : List (Str × V)} {fs : List (Str × Dy)}, All2 (fun (q : Str × V) (x : Str × Dy) => q.1 = x.1 ∧ x.2.R.rep h q.2 x.2.a) vs fs → vs.map (·.1) = fs.map (·.1)
  | _, _, .nil => rfl
  | _, _, .cons a r => by rw [List.map_cons, List.map_cons, a.1, keys_all2 r]
/-- self.f = e -/
theorem s_fld {i : Nat} {p C : Addr} {fs : List (Str × Dy)} {f : Str} (hc : Cls K C) (hn : NoAttr K C f) (hx : Γ1[i]? = some (.own (oInsP p C fs))) (h : E F.G Γ te Γ1 R a) (hf : f ∉ fs.map (·.1)) (hl : fs.length < 1000)
    (k : KT F g (Γ1.set i (.own (oInsP p C (fs ++ [(f, ⟨R, a⟩)])))) D.nx) : KT F g Γ (sFld K (tVar i) te f D) := fun M own σ H s e gg => h M own σ H s.ok e _ fun w H1 x1 k1 e1 r1 => by
  obtain ⟨v', p1', pi', p2', f'⟩ := e1.env.focus hx
  obtain ⟨rfl, rfl, dx, vs, hp, r⟩ := f'.own
  have hk := keys_all2 r
  refine ⟨.ref p, f'.at_, p, C, dx, vs, rfl, hp, hc, hn, by rw [r.length]; exact hl, ?_⟩
  rw [putF_new (by rw [hk]; exact hf)]
  obtain ⟨x2, k2, e2⟩ := e1.write (O' := oInsP p C (fs ++ [(f, ⟨R, a⟩)])) k1 f' (List.mem_singleton.mpr rfl) ⟨rfl, rfl, dx, vs ++ [(f, w)], upd_same, r.append (.cons ⟨rfl, r1⟩ .nil)⟩
  exact k M own σ _ ((s.step x1 k1).step x2 k2) e2 (by rw [hid_upd (e1.sub p (f'.inn.1 p (List.mem_singleton.mpr rfl)))]; exact gp_step s e x1 gg)
/-- an __init__'s answer -/
def RetI (F : Fm) (S : Rp γ) (p : Addr) (r : γ) (rt : VK) : Prop := ∀ H', Ex F.G F.H0 H' → Ok F.G F.Mc H' → S.rep (hid F.Mc H') (.ref p) r → rt .non H'
theorem s_initEnd {i : Nat} {p C : Addr} {fs : List (Str × Dy)} {T : Rp γ} {r : γ} {rt : VK} (hO : F.own0 = []) (hx : Γ[i]? = some (.own (oInsP p C fs)))
    (conv : ∀ h dx vs, h p = some (.ins C dx vs) → All2 (fun (q : Str × V) (x : Str × Dy) => q.1 = x.1 ∧ x.2.R.rep h q.2 x.2.a) vs fs → T.rep h (.ref p) r) (ret : RetI F T p r rt) : KT F g Γ (fun _ H' => rt .non H') := by
  refine KT.out (s := .val ⟨fun H v a => v = .ref p ∧ T.rep H v a, fun k h => ⟨h.1, T.mono k h.2⟩⟩ r) hO hx (fun h H ps v o hh => ?_) fun M own σ H s e gg => ?_
  · obtain ⟨rfl, rfl, dx, vs, hp, a⟩ := o
    exact ⟨rfl, conv h dx vs (by rw [hh p (List.mem_singleton.mpr rfl)]; exact hp) a⟩
  · have hi : i < Γ.length := (List.getElem?_eq_some_iff.mp hx).1
    obtain ⟨v, h1, h2, h3⟩ := e.env.get (i := i) (by rw [List.getElem?_set_self hi])
    have h2 : v = .ref p := h2
    subst h2
    exact ret H (by have := s.ex; rw [hO, List.append_nil] at this; exact this) s.back (T.mono (hid_less s.mc) h3)
theorem spI_in {ι : Type} {C : Addr} {pre : ι → Prop} {ds : ι → List Dy} {S : Rp γ} {f : ι → Except Addr γ} {N : List Str} {vs : List V} {Q : VK} {E : XK} {n : Nat} {t : TS} (h : spI G C pre ds S f vs H Q E) (hn : N.length - vs.length = n)
    (body : ∀ (F : Fm) (x : ι) (p : Addr), F.G = G → F.own0 = [] → pre x → (∀ r, f x = .ok r → RetI F S p r Q) → (∀ c, f x = .error c → Rai F c E) → KT F gT (.own (oInsP p C []) :: ctx0 (ds x) n) (t { nx := fun _ H' => Q .non H', rt := Q })) :
    t { nx := fun _ H' => Q .non H', rt := Q } (start N vs) H := by
  obtain ⟨M, x, p, dx, rest, rfl, hp, hpM, k, hpre, ha, hok, her⟩ := h
  rw [start_eq hn]
  have hpG : p ∉ G := fun z => by
    obtain ⟨ps, e, _⟩ := k.wf p z
    rw [hp] at e; cases e
  have al : ∀ m ∈ M, (fun b => if b = p then none else H b) m ≠ none := fun m hm => by
    show (if m = p then none else H m) ≠ none
    rw [if_neg fun z => hpM (by rw [← z]; exact hm)]
    exact k.al m hm
  have back : ∀ {H' : Hp}, Ex G (fun b => if b = p then none else H b) H' → Ex (G ++ [p]) H H' := fun x b o hb e => x b o (fun z => hb (List.mem_append_left _ z)) (by
    show (if b = p then none else H b) = some o
    rw [if_neg fun z => hb (by rw [z]; simp)]; exact e)
  refine body ⟨G, [], M, fun b => if b = p then none else H b, k.sub, al⟩ x p rfl rfl hpre (fun r hr H' x' k' rv => hok r hr H' (back x') k' rv) (fun c hc H' x' k' => her c hc H' (back (by simpa using x')) k')
    (p :: M) [p] _ H ⟨⟨fun P hP => List.mem_cons_of_mem _ (k.sub P hP), fun m hm => ?_, k.wf⟩, fun b o hb e => ?_, fun m hm => List.mem_cons_of_mem _ hm, fun q hq => .inr ?_⟩ ⟨by simp, fun q hq => ?_, fun q hq => ?_, ?_⟩ trivial
  · rcases List.mem_cons.mp hm with z | z
    · rw [z, hp]; simp
    · exact k.al m z
  · have e : (if b = p then none else H b) = some o := e
    by_cases hb : b = p
    · rw [if_pos hb] at e; cases e
    · rw [if_neg hb] at e; exact e
  · show (if q = p then none else H q) = none
    rw [if_pos (List.mem_singleton.mp hq)]
  · rw [List.mem_singleton.mp hq]; exact List.mem_cons_self
  · rw [List.mem_singleton.mp hq]; exact hpG
  · exact ⟨.ref p, [p], [], rfl, rfl, ⟨rfl, rfl, dx, [], hp, .nil⟩, env_args ha⟩
theorem spI_len {ι : Type} {C : Addr} {pre : ι → Prop} {ds : ι → List Dy} {S : Rp γ} {f : ι → Except Addr γ} {n : Nat} (hd : ∀ x, (ds x).length = n) : ∀ vs H Q E, spI G C pre ds S f vs H Q E → vs.length = n + 1 := fun vs H Q E ⟨M, x, p, dx, rest, e, _, _, _, _, ha, _⟩ => by
  rw [e, List.length_cons, ha.length, hd]

/-! ### a promise about something of the caller's -/
/-- a def that changes what its first argument owns -/
def spO (G : List Addr) {ι γ : Type} (pre : ι → Prop) (O O' : ι → Ow) (ds : ι → List Dy) (S : Rp γ) (f : ι → Except Addr γ) : Sp := fun vs H Q E => ∃ M x v rest ps, vs = v :: rest ∧ Ok G M H ∧ ps.Nodup ∧ (∀ p ∈ ps, p ∈ M) ∧ (∀ p ∈ ps, p ∉ G) ∧ (O x).own (hid M H) H ps v ∧ pre x ∧ All2 (fun v (d : Dy) => d.R.rep (hid M H) v d.a) rest (ds x) ∧
  (∀ r, f x = .ok r → ∀ w H', Ex (G ++ ps) H H' → Ok G M H' → (O' x).own (hid M H') H' ps v → S.rep (hid M H') w r → Q w H') ∧ ∀ c, f x = .error c → ∀ H', Ex (G ++ ps) H H' → Ok G M H' → (O' x).own (hid M H') H' ps v → E (.ref c) none H'
theorem Env.after {O O' : Ow} {i : Nat} {v : V} {p1 pi p2 : List Addr} (k : Ok G M H) (e : Env G M H own σ Γ) (f : Foc (hid M H) H σ Γ own i O v p1 pi p2) (x : Ex (G ++ pi) H H') (o : O'.own (hid M H') H' pi v) : Ex (G ++ own) H H' ∧ Env G M H' own σ (Γ.set i (.own O')) := by
  refine ⟨x.more fun b hb => (List.mem_append.mp hb).elim (List.mem_append_left _) fun z => List.mem_append_right _ (f.inn.1 b z), e.nd, e.sub, e.out, ?_⟩
  refine f.put _ _ O' (x.hid fun b hb => (List.mem_append.mp hb).elim (k.sub b) fun z => e.sub b (f.inn.1 b z)) (fun q hq => ?_) o
  have hq' := f.inn.2 q hq
  obtain ⟨u, hu⟩ := e.al k hq'
  rw [hu]
  exact x q u (fun z => (List.mem_append.mp z).elim (e.out q hq') (f.apart e.nd q hq)) hu
theorem e_callO {ι : Type} {i : Nat} {pre : ι → Prop} {O O' : ι → Ow} {ds : ι → List Dy} {S : Rp γ} {f : ι → Except Addr γ} {x : ι} {r : γ} (h : EA G Γ ta Γ1 (ds x)) (hx0 : Γ[i]? = some (.own (O x))) (hx : Γ1[i]? = some (.own (O x))) (hp : pre x) (hf : f x = .ok r) :
    E G Γ (tCall (spO G pre O O' ds S f) [] W (tCons (tVar i) ta)) (Γ1.set i (.own (O' x))) S r := fun M own σ H k e Q q => by
  obtain ⟨v, p1, pi, p2, fo⟩ := e.env.focus hx0
  refine ⟨v, fo.at_, h M own σ H k e _ fun vs H1 x1 k1 e1 r1 => ?_⟩
  obtain ⟨v', p1', pi', p2', f'⟩ := e1.env.focus hx
  have es := fo.same f'
  subst es
  show spO G pre O O' ds S f (v :: (vs ++ [])) H1 Q W
  rw [List.append_nil]
  refine ⟨M, x, v, vs, pi', rfl, k1, f'.pi_nodup e1.nd, fun p hp => e1.sub p (f'.inn.1 p hp), fun p hp => e1.out p (f'.inn.1 p hp), f'.own, hp, r1, fun r' hr w H2 x2 k2 o2 rw' => ?_, fun c' hc => by rw [hf] at hc; cases hc⟩
  rw [hf] at hr
  cases hr
  obtain ⟨x3, e3⟩ := e1.after (O' := O' x) k1 f' x2 o2
  exact q w H2 (x1.trans x3) k2 e3 rw'
/-- entry of such a def -/
structure RetO (F : Fm) (O' : Ow) (S : Rp γ) (v : V) (ps : List Addr) (r : γ) (rt : VK) : Prop where
  ret : ∀ w H', Ex (F.G ++ F.own0) F.H0 H' → Ok F.G F.Mc H' → O'.own (hid F.Mc H') H' ps v → S.rep (hid F.Mc H') w r → rt w H'
theorem s_retO {i : Nat} {O O' : Ow} {T : Rp γ} {r : γ} {v : V} {ps : List Addr} {rt : VK} (h : E F.G Γ te Γ1 T r) (hx : Γ1[i]? = some (.own O)) (hc : ∀ h H qs u, O.own h H qs u → u = v ∧ qs = ps ∧ O'.own h H ps v) (hr : D.rt = rt) (ret : RetO F O' T v ps r rt) : KT F g Γ (tRet te D) := fun M own σ H s e gg => h M own σ H s.ok e _ fun w H1 x1 k1 e1 r1 => by
  obtain ⟨u, p1, pi, p2, f⟩ := e1.env.focus hx
  obtain ⟨rfl, rfl, o⟩ := hc _ _ _ _ f.own
  have s1 := s.step x1 k1
  rw [hr]
  exact ret.ret w H1 s1.ex s1.back (O'.mono (hid_less s1.mc) (fun _ _ => rfl) o) (T.mono (hid_less s1.mc) r1)
theorem spO_in {ι : Type} {pre : ι → Prop} {O O' : ι → Ow} {ds : ι → List Dy} {S : Rp γ} {f : ι → Except Addr γ} {N : List Str} {vs : List V} {Q : VK} {E : XK} {n : Nat} {t : TS} {Oi : ι → V → List Addr → Ow} (h : spO G pre O O' ds S f vs H Q E) (hn : N.length - vs.length = n)
    (hc : ∀ x h H ps v, (O x).own h H ps v → (Oi x v ps).own h H ps v)
    (body : ∀ (F : Fm) (x : ι) (v : V) (ps : List Addr), F.G = G → F.own0 = ps → pre x → (∀ r, f x = .ok r → RetO F (O' x) S v ps r Q) → KT F gT (.own (Oi x v ps) :: ctx0 (ds x) n) (t { nx := fun _ H' => Q .non H', rt := Q })) :
    t { nx := fun _ H' => Q .non H', rt := Q } (start N vs) H := by
  obtain ⟨M, x, v, rest, ps, rfl, k, hnd, hsub, hout, ho, hpre, ha, hok, her⟩ := h
  rw [start_eq hn]
  refine body ⟨G, ps, M, H, k.sub, k.al⟩ x v ps rfl rfl hpre (fun r hr => ⟨fun w H' x' k' o' rv => hok r hr w H' x' k' o' rv⟩) M ps _ H ⟨k, Ex.refl, fun m hm => hm, fun p hp => .inl hp⟩ ⟨hnd, hsub, hout, v, ps, [], rfl, by simp, hc _ _ _ _ _ ho, env_args ha⟩ trivial
theorem spO_len {ι : Type} {pre : ι → Prop} {O O' : ι → Ow} {ds : ι → List Dy} {S : Rp γ} {f : ι → Except Addr γ} {n : Nat} (hd : ∀ x, (ds x).length = n) : ∀ vs H Q E, spO G pre O O' ds S f vs H Q E → vs.length = n + 1 := fun vs H Q E ⟨M, x, v, rest, ps, e, _, _, _, _, _, _, ha, _⟩ => by
  rw [e, List.length_cons, ha.length, hd]
end
end TP

set_option Elab.async false
set_option linter.all false
set_option maxRecDepth 100000
set_option maxHeartbeats 4000000
namespace TP
open PySem PySem.Spec PyProof.Rows L2
/-- raise C('..') -/
theorem ps_own {X : Cx} {W : WX} {C : Addr} {x m : Str} {j : Nat} {p p2 pos pos' : Pos} (h : PySem.W.excIn X.K C He.veBase "ValueError.__new__" = true ∧ PySem.W.keepIn X.K (.ref C) = true ∧ PySem.W.subIn X.K (.ref C) (.type "BaseException") = some true ∧ PySem.W.typeIn X.K (.ref C) = some (.type "type"))
    (g : X.mg x = some (.ref C)) (tk : Takes X W) (hg : Gl X x) (hc : X.calm = true := by rfl) (hdb : (x == ("__debug__" : Str)) = false := by decide) :
    PS X (.Raise (some (.Call (.Name x p) [.Constant (.str m) j p2] [] pos)) none pos') (fun _ σ H => W (.ref C) none σ H) :=
  ps_raise hc tk (pmk_own PySem.F.excBase_ValueError h.1 g h.2.1 (raises_own h.2.2.1 h.2.2.2) hg hdb)
section
variable {F : Fm} {g : Gp} {G M own : List Addr} {H H' : Hp} {σ : L2.St} {Γ Γ' Γ1 Γ2 Γ3 : Ctx} {α β γ : Type} {R : Rp α} {S : Rp β} {a : α} {b : β} {te ta tb : TE} {D : Ends} {K : PySem.W.Frag}
/-- an attribute -/
def HasF (R : Rp α) (C : Addr) (f : Str) (S : Rp β) (g : α → β) : Prop := ∀ h v o, R.rep h v o → ∃ p dx fs w, v = .ref p ∧ h p = some (.ins C dx fs) ∧ fs.lookup f = some w ∧ S.rep h w (g o)
theorem e_fld {C : Addr} {f : Str} {g : α → β} (hc : Cls K C) (hn : NoAttr K C f) (hf : HasF R C f S g) (h : E G Γ te Γ1 R a) : E G Γ (tFld K te f) Γ1 S (g a) := fun M own σ H k e Q q => h M own σ H k e _ fun v H1 x1 k1 e1 r1 => by
  obtain ⟨p, dx, fs, w, rfl, hp, hl, hs⟩ := hf _ _ _ r1
  exact ⟨p, C, dx, fs, w, rfl, (hid_some hp).2, hc, hn, hl, q w H1 x1 k1 e1 hs⟩
/-! ### calls of what is built in -/
variable {r : List V → Hp → VK → Prop} {tr : TA}
theorem e_cb {ds : List Dy} {z : β} (h : EA G Γ tr Γ1 ds) (hc : Cl G r ds S z) : E G Γ (tCB r tr) Γ1 S z := fun M own σ H k e Q q => h M own σ H k e _ fun vs H1 x1 k1 e1 r1 => hc M H1 vs Q k1 r1 fun w H2 x2 k2 r2 => q w H2 (x1.trans (x2.more fun b hb => List.mem_append_left _ hb)) k2 (e1.ext k1 x2) r2
theorem nuMin2_int (i j : Int) : nuMin2 (.int i) (.int j) = some (.int (min i j)) := by
  show some (if decide (j < i) = true then V.int j else V.int i) = _
  by_cases c : j < i
  · rw [if_pos (decide_eq_true c)]; congr 2; omega
  · rw [if_neg (by simpa using c)]; congr 2; omega
theorem nuMax2_int (i j : Int) : nuMax2 (.int i) (.int j) = some (.int (max i j)) := by
  show some (if decide (i < j) = true then V.int j else V.int i) = _
  by_cases c : i < j
  · rw [if_pos (decide_eq_true c)]; congr 2; omega
  · rw [if_neg (by simpa using c)]; congr 2; omega
theorem e_min3 {i j k : Int} (h : EA G Γ tr Γ1 [⟨rInt, i⟩, ⟨rInt, j⟩, ⟨rInt, k⟩]) : E G Γ (tCB (rNuC3 nuMin3) tr) Γ1 rInt (min (min i j) k) := e_cb h fun M H vs Q kk r q => by
  cases r with
  | cons h1 r => cases r with
    | cons h2 r => cases r with
      | cons h3 r =>
        cases r; cases h1; cases h2; cases h3
        exact ⟨.int i, .int j, .int k, .int (min (min i j) k), rfl, by unfold nuMin3; rw [nuMin2_int]; exact nuMin2_int _ _, q _ H Ex.refl kk rfl⟩
theorem e_max3 {i j k : Int} (h : EA G Γ tr Γ1 [⟨rInt, i⟩, ⟨rInt, j⟩, ⟨rInt, k⟩]) : E G Γ (tCB (rNuC3 nuMax3) tr) Γ1 rInt (max (max i j) k) := e_cb h fun M H vs Q kk r q => by
  cases r with
  | cons h1 r => cases r with
    | cons h2 r => cases r with
      | cons h3 r =>
        cases r; cases h1; cases h2; cases h3
        exact ⟨.int i, .int j, .int k, .int (max (max i j) k), rfl, by unfold nuMax3; rw [nuMax2_int]; exact nuMax2_int _ _, q _ H Ex.refl kk rfl⟩
theorem e_intI {i : Int} (h : EA G Γ tr Γ1 [⟨rInt, i⟩]) : E G Γ (tCB (fun xs H Q => (∃ i, xs = [.int i] ∧ Q (.int i) H) ∨ ∃ k, xs = [.bl k] ∧ Q (.int (if k then 1 else 0)) H) tr) Γ1 rInt i := e_cb h fun M H vs Q kk r q => by
  cases r with
  | cons h1 r => cases r; cases h1; exact .inl ⟨i, rfl, q _ H Ex.refl kk rfl⟩
theorem e_intB {b : Bool} (h : EA G Γ tr Γ1 [⟨rBool, b⟩]) : E G Γ (tCB (fun xs H Q => (∃ i, xs = [.int i] ∧ Q (.int i) H) ∨ ∃ k, xs = [.bl k] ∧ Q (.int (if k then 1 else 0)) H) tr) Γ1 rInt (if b then 1 else 0) := e_cb h fun M H vs Q kk r q => by
  cases r with
  | cons h1 r => cases r; cases h1; exact .inr ⟨b, rfl, q _ H Ex.refl kk rfl⟩
theorem e_strI {i : Int} (h : EA G Γ tr Γ1 [⟨rInt, i⟩]) (hi : i.natAbs.log2 < 1920) : E G Γ (tCB (fun xs H Q => ∃ i, xs = [.int i] ∧ i.natAbs.log2 < 1920 ∧ Q (.str (toString i)) H) tr) Γ1 rStr (Str.ofString (toString i)) := e_cb h fun M H vs Q kk r q => by
  cases r with
  | cons h1 r => cases r; cases h1; exact ⟨i, rfl, hi, q _ H Ex.refl kk rfl⟩
theorem e_sumL {ns : List Int} (h : EA G Γ tr Γ1 [⟨rList rInt, ns⟩]) : E G Γ (tCB (L2.rSum K) tr) Γ1 rInt ns.sum := e_cb h fun M H vs Q kk r q => by
  cases r with
  | cons h1 r =>
    cases r
    obtain ⟨p, ws, e, hp, rr⟩ := h1
    have e : _ = V.ref p := e
    subst e
    exact ⟨p, ns, rfl, by rw [← all2_ints rr]; exact SqL.of (hid_some hp).2, q _ H Ex.refl kk rfl⟩
/-- tuple(a list) -/
theorem e_tupL {xs : List α} (h : EA G Γ tr Γ1 [⟨rList R, xs⟩]) : E G Γ (tCB (fun xs H Q => ∃ p ys, xs = [.ref p] ∧ ((SqL K H p ys ∧ ∀ l, H l = none → Q (.ref l) (upd H l (.tup ys))) ∨ (SqT K H p ys ∧ Q (.ref p) H))) tr) Γ1 (rTup R) xs := e_cb h fun M H vs Q kk r q => by
  cases r with
  | cons h1 r =>
    cases r
    obtain ⟨p, ws, e, hp, rr⟩ := h1
    have e : _ = V.ref p := e
    subst e
    refine ⟨p, ws, rfl, .inl ⟨SqL.of (hid_some hp).2, fun l hl => ?_⟩⟩
    have hM := kk.fresh hl
    exact q _ _ (Ex.new hl) (kk.new hl) ⟨l, ws, rfl, hid_of hM upd_same, rr.imp fun _ _ => R.mono (hid_new hM hl)⟩
/-! ### == of data -/
/-- data of a kind: what == looks at; ok: may be compared, n: how deep -/
structure Dat (R : Rp α) [DecidableEq α] where
  d : α → PyData
  ok : α → Prop
  n : Nat
  dp : ∀ (K : PySem.W.Frag) (h H : Hp) v a, R.rep h v a → Sub h H → Dp K H v (d a)
  eq : ∀ a b, PyData.eqv (d a) (d b) = decide (a = b)
  lay : ∀ a, ok a → (d a).canLay0 = true ∧ (d a).depth ≤ n
def datInt : Dat rInt := ⟨fun i => .int i, fun _ => True, 0, fun K h H v a r _ => by cases r; exact .int a, fun a b => by show (a == b) = _; rw [Bool.eq_iff_iff]; simp, fun _ _ => ⟨rfl, Nat.le_refl _⟩⟩
def datStr : Dat rStr := ⟨fun i => .str i, fun i => PyData.canLay0 (.str i) = true, 0, fun K h H v a r _ => by cases r; exact .str a, fun a b => by show (a == b) = _; rw [Bool.eq_iff_iff]; simp, fun _ h => ⟨h, Nat.le_refl _⟩⟩
def datBool : Dat rBool := ⟨fun i => .bool i, fun _ => True, 0, fun K h H v a r _ => by cases r; exact .bl a, fun a b => by show (a == b) = _; rw [Bool.eq_iff_iff]; simp, fun _ _ => ⟨rfl, Nat.le_refl _⟩⟩
theorem dpAll_of [DecidableEq α] (D : Dat R) {h H : Hp} (s : Sub h H) : ∀ {vs : List V} {xs : List α}, All2 (R.rep h) vs xs → DpAll K H vs (xs.map D.d)
  | _, _, .nil => .nil
  | _, _, .cons a r => .cons (D.dp K _ _ _ _ a s) (dpAll_of D s r)
theorem eqvAll_map [DecidableEq α] (D : Dat R) : ∀ xs ys : List α, PyData.eqvAll (xs.map D.d) (ys.map D.d) = decide (xs = ys)
  | [], [] => by simp [PyData.eqvAll]
  | [], _ :: _ => by simp [PyData.eqvAll]
  | _ :: _, [] => by simp [PyData.eqvAll]
  | x :: xs, y :: ys => by
    show (PyData.eqv (D.d x) (D.d y) && PyData.eqvAll (xs.map D.d) (ys.map D.d)) = _
    rw [D.eq, eqvAll_map D xs ys, Bool.eq_iff_iff]
    simp
theorem layAll_map [DecidableEq α] (D : Dat R) : ∀ xs : List α, (∀ x ∈ xs, D.ok x) → PyData.canLayAll0 (xs.map D.d) = true ∧ PyData.depthAll (xs.map D.d) ≤ D.n
  | [], _ => ⟨rfl, Nat.zero_le _⟩
  | x :: xs, h => by
    obtain ⟨h1, h2⟩ := D.lay x (h x List.mem_cons_self)
    obtain ⟨h3, h4⟩ := layAll_map D xs fun y hy => h y (List.mem_cons_of_mem _ hy)
    exact ⟨by show ((D.d x).canLay0 && PyData.canLayAll0 (xs.map D.d)) = true; rw [h1, h3]; rfl, Nat.max_le.mpr ⟨h2, h4⟩⟩
def datList [DecidableEq α] (D : Dat R) : Dat (rList R) := ⟨fun xs => .list (xs.map D.d), fun xs => ∀ x ∈ xs, D.ok x, D.n + 1, fun K h H v xs ⟨p, vs, e, hp, r⟩ s => by subst e; exact .lst (SqL.of (s _ _ hp)) (dpAll_of D s r), fun a b => eqvAll_map D a b, fun xs h => ⟨(layAll_map D xs h).1, Nat.succ_le_succ (layAll_map D xs h).2⟩⟩
def datTup [DecidableEq α] (D : Dat R) : Dat (rTup R) := ⟨fun xs => .tuple (xs.map D.d), fun xs => ∀ x ∈ xs, D.ok x, D.n + 1, fun K h H v xs ⟨p, vs, e, hp, r⟩ s => by subst e; exact .tup (SqT.of (s _ _ hp)) (dpAll_of D s r), fun a b => eqvAll_map D a b, fun xs h => ⟨(layAll_map D xs h).1, Nat.succ_le_succ (layAll_map D xs h).2⟩⟩
def datT2 [DecidableEq α] [DecidableEq β] (D : Dat R) (D' : Dat S) : Dat (rT2 R S) := ⟨fun x => .tuple [D.d x.1, D'.d x.2], fun x => D.ok x.1 ∧ D'.ok x.2, max D.n D'.n + 1, fun K h H v x ⟨p, a, b, e, hp, ra, rb⟩ s => by subst e; exact .tup (SqT.of (s _ _ hp)) (.cons (D.dp K _ _ _ _ ra s) (.cons (D'.dp K _ _ _ _ rb s) .nil)), fun a b => by
  show (PyData.eqv _ _ && (PyData.eqv _ _ && true)) = _
  obtain ⟨a1, a2⟩ := a
  obtain ⟨b1, b2⟩ := b
  rw [D.eq, D'.eq, Bool.eq_iff_iff]; simp, fun x h => by
  obtain ⟨h1, h2⟩ := D.lay _ h.1
  obtain ⟨h3, h4⟩ := D'.lay _ h.2
  refine ⟨by show (_ && (_ && true)) = true; rw [h1, h3]; rfl, ?_⟩
  show max _ (max _ 0) + 1 ≤ _
  omega⟩
def datT3 {T : Rp γ} [DecidableEq α] [DecidableEq β] [DecidableEq γ] (D : Dat R) (D' : Dat S) (D'' : Dat T) : Dat (rT3 R S T) := ⟨fun x => .tuple [D.d x.1, D'.d x.2.1, D''.d x.2.2], fun x => D.ok x.1 ∧ D'.ok x.2.1 ∧ D''.ok x.2.2, max D.n (max D'.n D''.n) + 1, fun K h H v x ⟨p, a, b, c, e, hp, ra, rb, rc⟩ s => by subst e; exact .tup (SqT.of (s _ _ hp)) (.cons (D.dp K _ _ _ _ ra s) (.cons (D'.dp K _ _ _ _ rb s) (.cons (D''.dp K _ _ _ _ rc s) .nil))), fun a b => by
  show (PyData.eqv _ _ && (PyData.eqv _ _ && (PyData.eqv _ _ && true))) = _
  obtain ⟨a1, a2, a3⟩ := a
  obtain ⟨b1, b2, b3⟩ := b
  rw [D.eq, D'.eq, D''.eq, Bool.eq_iff_iff]; simp, fun x h => by
  obtain ⟨h1, h2⟩ := D.lay _ h.1
  obtain ⟨h3, h4⟩ := D'.lay _ h.2.1
  obtain ⟨h5, h6⟩ := D''.lay _ h.2.2
  refine ⟨by show (_ && (_ && (_ && true))) = true; rw [h1, h3, h5]; rfl, ?_⟩
  show max _ (max _ (max _ 0)) + 1 ≤ _
  omega⟩
theorem Dat.shaped [DecidableEq α] (D : Dat R) {x : α} (h : D.ok x) (hn : D.n ≤ 64) : SeqAt.shaped (D.d x) = true := by
  obtain ⟨h1, h2⟩ := D.lay x h
  unfold SeqAt.shaped
  rw [h1, decide_eq_true (Nat.le_trans h2 hn)]; rfl
theorem e_eqD [DecidableEq α] (D : Dat R) {x y : α} (ha : E G Γ ta Γ1 R x) (hb : E G Γ1 tb Γ2 R y) (sx : D.ok x) (sy : D.ok y) (hn : D.n ≤ 64 := by decide) : E G Γ (tOp (rEqD K) ta tb) Γ2 rBool (decide (x = y)) := e_op ha hb fun M H v u Q k rv ru q =>
  ⟨D.d x, D.d y, D.dp K _ _ _ _ rv hid_sub, D.dp K _ _ _ _ ru hid_sub, D.shaped sx hn, D.shaped sy hn, q _ H Ex.refl k (by rw [D.eq] <;> rfl)⟩
theorem e_neD [DecidableEq α] (D : Dat R) {x y : α} (ha : E G Γ ta Γ1 R x) (hb : E G Γ1 tb Γ2 R y) (sx : D.ok x) (sy : D.ok y) (hn : D.n ≤ 64 := by decide) : E G Γ (tOp (rNeD K) ta tb) Γ2 rBool (!decide (x = y)) := e_op ha hb fun M H v u Q k rv ru q =>
  ⟨D.d x, D.d y, D.dp K _ _ _ _ rv hid_sub, D.dp K _ _ _ _ ru hid_sub, D.shaped sx hn, D.shaped sy hn, q _ H Ex.refl k (by rw [D.eq] <;> rfl)⟩
/-! ### None -/
theorem e_isN {x : Option α} (ha : E G Γ ta Γ1 (rOpt R) x) (hb : E G Γ1 tb Γ2 rNon ()) (hR : ∀ h v a, R.rep h v a → v ≠ .non) : E G Γ (tOp (fun x y H Q => y = .non ∧ Q (.bl (decide (x = .non))) H) ta tb) Γ2 rBool (x.isNone) := e_op ha hb fun M H v u Q k rv ru q => by
  cases ru
  refine ⟨rfl, q _ H Ex.refl k ?_⟩
  show V.bl _ = V.bl _
  cases x with
  | none =>
    have rv : v = .non := rv
    rw [rv]; rfl
  | some a =>
    have := hR _ _ _ rv
    simp [this]
end
end TP

set_option Elab.async false
set_option linter.all false
set_option maxRecDepth 100000
set_option maxHeartbeats 4000000
namespace TP
open PySem PySem.Spec PyProof.Rows L2
/-- what a def answers: r, but the class at c where bad -/
structure Ans (ι γ : Type) where
  pre : ι → Prop
  bad : ι → Bool
  c : ι → Addr
  r : ι → γ
def Ans.f {ι γ : Type} (A : Ans ι γ) (x : ι) : Except Addr γ := if A.bad x = true then .error (A.c x) else .ok (A.r x)
section
variable {F : Fm} {g : Gp} {G M own : List Addr} {H H' : Hp} {σ : L2.St} {Γ Γ' Γ1 Γ2 Γ3 : Ctx} {ι α β γ : Type} {R : Rp α} {S : Rp γ} {a : α} {b : β} {te ta tb : TE} {t tr : TA} {D : Ends} {K : PySem.W.Frag} {A : Ans ι γ} {ds : ι → List Dy} {x : ι} {W : XK} {C : Addr} {m : Str} {o : α} {tail : List Dy}
theorem Ans.ok (h : A.bad x = false) : A.f x = .ok (A.r x) := if_neg (by rw [h]; exact Bool.false_ne_true)
theorem Ans.er (h : A.bad x = true) : A.f x = .error (A.c x) := if_pos h
abbrev spB (G : List Addr) (A : Ans ι γ) (ds : ι → List Dy) (S : Rp γ) : Sp := spF G A.pre ds S A.f
abbrev spBI (G : List Addr) (C : Addr) (A : Ans ι γ) (ds : ι → List Dy) (S : Rp γ) : Sp := spI G C A.pre ds S A.f
abbrev spBO (G : List Addr) (A : Ans ι γ) (O O' : ι → Ow) (ds : ι → List Dy) (S : Rp γ) : Sp := spO G A.pre O O' ds S A.f
theorem e_callB (x : ι) (h : EA G Γ t Γ' (ds x)) (hp : A.pre x) (hb : A.bad x = false) : E G Γ (tCall (spB G A ds S) [] W t) Γ' S (A.r x) := e_call h hp (Ans.ok hb)
theorem e_callBX (x : ι) (h : EA G Γ t Γ' (ds x)) (hp : A.pre x) (hb : A.bad x = true) : EX G Γ (tCall (spB G A ds S) [] W t) Γ' W (A.c x) := e_callX h hp (Ans.er hb)
theorem e_methB (x : ι) (hi : IsObj R C m) (ho : E G Γ te Γ1 R o) (h : EA G Γ1 t Γ2 tail) (hds : ds x = ⟨R, o⟩ :: tail) (hp : A.pre x) (hb : A.bad x = false) : E G Γ (tMeth C m (spB G A ds S) [] W te t) Γ2 S (A.r x) := e_meth ho hi h hds hp (Ans.ok hb)
theorem e_methBX (x : ι) (hi : IsObj R C m) (ho : E G Γ te Γ1 R o) (h : EA G Γ1 t Γ2 tail) (hds : ds x = ⟨R, o⟩ :: tail) (hp : A.pre x) (hb : A.bad x = true) : EX G Γ (tMeth C m (spB G A ds S) [] W te t) Γ2 W (A.c x) := e_methX ho hi h hds hp (Ans.er hb)
theorem e_makeB (x : ι) (h : EA G Γ t Γ' (ds x)) (hp : A.pre x) (hb : A.bad x = false) : E G Γ (tMake C (spBI G C A ds S) [] W t) Γ' S (A.r x) := e_make h hp (Ans.ok hb)
theorem e_makeBX (x : ι) (h : EA G Γ t Γ' (ds x)) (hp : A.pre x) (hb : A.bad x = true) : EX G Γ (tMake C (spBI G C A ds S) [] W t) Γ' W (A.c x) := e_makeX h hp (Ans.er hb)
theorem e_callBO {i : Nat} {O O' : ι → Ow} (x : ι) (h : EA G Γ t Γ1 (ds x)) (hx0 : Γ[i]? = some (.own (O x))) (hx : Γ1[i]? = some (.own (O x))) (hp : A.pre x) (hb : A.bad x = false) : E G Γ (tCall (spBO G A O O' ds S) [] W (tCons (tVar i) t)) (Γ1.set i (.own (O' x))) S (A.r x) := e_callO h hx0 hx hp (Ans.ok hb)
/-! the bodies' laws -/
theorem inB {N : List Str} {vs : List V} {Q : VK} {E : XK} {n k : Nat} {tb : TS} (h : spB G A ds S vs H Q E) (hk : ∀ x, (ds x).length = k) (hn : N.length - k = n)
    (body : ∀ (F : Fm) (x : ι), F.G = G → F.own0 = [] → A.pre x → (A.bad x = false → Ret F S (A.r x) Q) → (A.bad x = true → Rai F (A.c x) E) → KT F gT (ctx0 (ds x) n) (tb { nx := fun _ H' => Q .non H', rt := Q })) :
    tb { nx := fun _ H' => Q .non H', rt := Q } (start N vs) H :=
  spF_in h (by rw [spF_len hk _ _ _ _ h]; exact hn) fun F x hG hO hp hok her => body F x hG hO hp (fun hb => hok _ (Ans.ok hb)) fun hb => her _ (Ans.er hb)
theorem inBI {N : List Str} {vs : List V} {Q : VK} {E : XK} {n k : Nat} {tb : TS} (h : spBI G C A ds S vs H Q E) (hk : ∀ x, (ds x).length = k) (hn : N.length - (k + 1) = n)
    (body : ∀ (F : Fm) (x : ι) (p : Addr), F.G = G → F.own0 = [] → A.pre x → (A.bad x = false → RetI F S p (A.r x) Q) → (A.bad x = true → Rai F (A.c x) E) → KT F gT (.own (oInsP p C []) :: ctx0 (ds x) n) (tb { nx := fun _ H' => Q .non H', rt := Q })) :
    tb { nx := fun _ H' => Q .non H', rt := Q } (start N vs) H :=
  spI_in h (by rw [spI_len hk _ _ _ _ h]; exact hn) fun F x p hG hO hp hok her => body F x p hG hO hp (fun hb => hok _ (Ans.ok hb)) fun hb => her _ (Ans.er hb)
theorem inBO {N : List Str} {vs : List V} {Q : VK} {E : XK} {n k : Nat} {tb : TS} {O O' : ι → Ow} {Oi : ι → V → List Addr → Ow} (h : spBO G A O O' ds S vs H Q E) (hk : ∀ x, (ds x).length = k) (hn : N.length - (k + 1) = n)
    (hc : ∀ x h H ps v, (O x).own h H ps v → (Oi x v ps).own h H ps v)
    (body : ∀ (F : Fm) (x : ι) (v : V) (ps : List Addr), F.G = G → F.own0 = ps → A.pre x → (A.bad x = false → RetO F (O' x) S v ps (A.r x) Q) → KT F gT (.own (Oi x v ps) :: ctx0 (ds x) n) (tb { nx := fun _ H' => Q .non H', rt := Q })) :
    tb { nx := fun _ H' => Q .non H', rt := Q } (start N vs) H :=
  spO_in h (by rw [spO_len hk _ _ _ _ h]; exact hn) hc fun F x v ps hG hO hp hok => body F x v ps hG hO hp fun hb => hok _ (Ans.ok hb)
end
end TP

set_option Elab.async false
set_option linter.all false
set_option maxRecDepth 100000
set_option maxHeartbeats 4000000
namespace TP
open PySem PySem.Spec PyProof.Rows L2
def plB (Γ : Ctx) (vs : List Nat) : Bool := vs.all fun i => match Γ[i]? with
  | some (.own _) => false
  | _ => true
def noB (Γ : Ctx) (vs : List Nat) : Bool := vs.all fun i => match Γ[i]? with
  | some (.own _) => false
  | some (.val _ _) => false
  | _ => true
theorem plAll_of {Γ : Ctx} {vs : List Nat} (h : plB Γ vs = true) : ∀ i ∈ vs, PlainAt Γ i := fun i hi s e => by
  have := List.all_eq_true.mp h i hi
  rw [e] at this
  cases s with
  | own O => cases this
  | no => trivial
  | val R a => trivial
theorem noAll_of {Γ : Ctx} {vs : List Nat} (h : noB Γ vs = true) : ∀ i ∈ vs, NoAt Γ i := fun i hi s e => by
  have := List.all_eq_true.mp h i hi
  rw [e] at this
  cases s with
  | own O => cases this
  | no => rfl
  | val R a => cases this
theorem plain1 {Γ : Ctx} {i : Nat} (h : plB Γ [i] = true) : PlainAt Γ i := plAll_of h i (List.mem_singleton.mpr rfl)
section
variable {F : Fm} {gp : Gp} {G M own : List Addr} {H H' : Hp} {σ : L2.St} {Γ Γ' Γ0 Γ1 Γ2 Γ3 : Ctx} {ι α β γ : Type} {R : Rp α} {S : Rp β} {a : α} {b : β} {te ta tb : TE} {tt : TT} {t tr : TA} {D : Ends} {K : PySem.W.Frag} {g : TG} {wi : TI} {vs ws : List Nat} {xs : List α}
theorem e_ixLd {i : Int} {d : α} (ha : E G Γ ta Γ1 (rList R) xs) (hb : E G Γ1 tb Γ2 rInt i) (h : 0 ≤ i ∧ i < xs.length) : E G Γ (tOp (rIxL K) ta tb) Γ2 R (xs.getD i.toNat d) := e_ixL ha hb (atI_get (n := i.toNat) (by omega) (by
  have : i.toNat < xs.length := by omega
  rw [List.getD_eq_getElem?_getD, List.getElem?_eq_getElem this]; rfl))
theorem e_ixTd {i : Int} {d : α} (ha : E G Γ ta Γ1 (rTup R) xs) (hb : E G Γ1 tb Γ2 rInt i) (h : 0 ≤ i ∧ i < xs.length) : E G Γ (tOp (rIxT K) ta tb) Γ2 R (xs.getD i.toNat d) := e_ixT ha hb (atI_get (n := i.toNat) (by omega) (by
  have : i.toNat < xs.length := by omega
  rw [List.getD_eq_getElem?_getD, List.getElem?_eq_getElem this]; rfl))
theorem e_ixOd {i : Nat} {c : Addr → Prop} {n : Int} {d : α} (hx : Γ1[i]? = some (.own (oLstP c R xs))) (h : E G Γ1 te Γ1 rInt n) (hn : 0 ≤ n ∧ n < xs.length) : E G Γ1 (tOp (rIxL K) (tVar i) te) Γ1 R (xs.getD n.toNat d) := e_ixO hx h (atI_get (n := n.toNat) (by omega) (by
  have : n.toNat < xs.length := by omega
  rw [List.getD_eq_getElem?_getD, List.getElem?_eq_getElem this]; rfl))
section
variable {p : α → Bool} {f : α → β} {Γx : α → Ctx}
theorem turn_of (tg : ∀ x, x ∈ xs → Tg G g R x Γ (Γx x) ws) (hw : ∀ i ∈ ws, i ∈ vs) (hb : ∀ x, Back (Γx x) Γ vs) (ht : ∀ x, x ∈ xs → ET G (Γx x) tt (Γx x) (p x)) (he : ∀ x, x ∈ xs → p x = true → E G (Γx x) te (Γx x) S (f x)) :
    ∀ x, x ∈ xs → TuN G Γ Γ g tt te vs R S x (if p x = true then some (f x) else none) := fun x hx => tun_pure (tg x hx) hw (hb x) (ht x hx) (he x hx)
theorem e_lcT (hs : ES G Γ0 wi Γ R xs) (hl : xs.length ≤ 100000) (hn : ∀ i ∈ vs, NoAt Γ i) (tg : ∀ x, x ∈ xs → Tg G g R x Γ (Γx x) ws) (hw : ∀ i ∈ ws, i ∈ vs) (hb : ∀ x, Back (Γx x) Γ vs) (ht : ∀ x, x ∈ xs → ET G (Γx x) tt (Γx x) (p x)) (he : ∀ x, x ∈ xs → p x = true → E G (Γx x) te (Γx x) S (f x)) :
    E G Γ0 (tLc wi g tt te vs) Γ (rList S) ((xs.filter p).map f) := e_lc hs hl hn (turn_of tg hw hb ht he)
theorem e_lcT0 (hs : ES G Γ0 wi Γ R xs) (hl : xs.length ≤ 100000) (hn : ∀ i ∈ vs, NoAt Γ i) (tg : ∀ x, x ∈ xs → Tg G g R x Γ (Γx x) ws) (hw : ∀ i ∈ ws, i ∈ vs) (hb : ∀ x, Back (Γx x) Γ vs) (he : ∀ x, x ∈ xs → E G (Γx x) te (Γx x) S (f x)) :
    E G Γ0 (tLc wi g tYes te vs) Γ (rList S) (xs.map f) := e_lc0 hs hl hn fun x hx => tun_pure (p := true) (tg x hx) hw (hb x) t_yes fun _ => he x hx
variable {P : Addr} {f' : α → Int} {q : α → Bool}
theorem filter_yes : xs.filter (fun _ => true) = xs := by simp
theorem e_anyT0 (hP : P ∈ G) (hs : ES G Γ0 wi Γ R xs) (hl : xs.length ≤ 100000) (hn : ∀ i ∈ vs, NoAt Γ i) (tg : ∀ x, x ∈ xs → Tg G g R x Γ (Γx x) ws) (hw : ∀ i ∈ ws, i ∈ vs) (hb : ∀ x, Back (Γx x) Γ vs) (he : ∀ x, x ∈ xs → E G (Γx x) te (Γx x) rBool (q x)) :
    E G Γ0 (GX.tAnyG P wi g tYes te vs) Γ rBool (xs.any q) := by
  have := e_anyG (p := fun _ => true) (f := q) hP hs hl hn (turn_of (p := fun _ => true) tg hw hb (fun x _ => t_yes) fun x hx _ => he x hx)
  rw [filter_yes, List.any_map] at this
  exact this
theorem e_sumT0 (hP : P ∈ G) (hs : ES G Γ0 wi Γ R xs) (hl : xs.length ≤ 100000) (hn : ∀ i ∈ vs, NoAt Γ i) (tg : ∀ x, x ∈ xs → Tg G g R x Γ (Γx x) ws) (hw : ∀ i ∈ ws, i ∈ vs) (hb : ∀ x, Back (Γx x) Γ vs) (he : ∀ x, x ∈ xs → E G (Γx x) te (Γx x) rInt (f' x))
    (hc : ∀ pre z post, xs.map f' = pre ++ z :: post → InLong z ∧ InLong (pre.sum + z)) : E G Γ0 (GX.tSumG P wi g tYes te vs) Γ rInt (xs.map f').sum := by
  have := e_sumG (p := fun _ => true) (f := f') hP hs hl hn (turn_of (p := fun _ => true) tg hw hb (fun x _ => t_yes) fun x hx _ => he x hx) (by rw [filter_yes]; exact hc)
  rw [filter_yes] at this
  exact this
end
/-- sums of few small ones -/
theorem sum_long {ns : List Int} {B : Int} (h : ∀ n ∈ ns, -B ≤ n ∧ n ≤ B) (hB : 0 ≤ B) (hl : (ns.length : Int) * B < 2 ^ 62) : ∀ pre z post, ns = pre ++ z :: post → InLong z ∧ InLong (pre.sum + z) := by
  have key : ∀ ms : List Int, (∀ n ∈ ms, -B ≤ n ∧ n ≤ B) → -((ms.length : Int) * B) ≤ ms.sum ∧ ms.sum ≤ (ms.length : Int) * B := by
    intro ms
    induction ms with
    | nil => intro _; simp
    | cons m ms ih =>
      intro hm
      have h1 := ih fun n hn => hm n (List.mem_cons_of_mem _ hn)
      have h2 := hm m List.mem_cons_self
      rw [List.sum_cons, List.length_cons]
      have e : ((ms.length + 1 : Nat) : Int) * B = (ms.length : Int) * B + B := by rw [Int.natCast_add, Int.add_mul]; simp
      rw [e]
      omega
  intro pre z post e
  have hz := h z (by rw [e]; simp)
  have hp := key (pre ++ [z]) fun n hn => h n (by
    rw [e]; simp at hn ⊢; rcases hn with hn | hn
    · exact .inl hn
    · exact .inr (.inl hn))
  rw [List.sum_append, List.sum_singleton] at hp
  have hle : ((pre ++ [z]).length : Int) * B ≤ (ns.length : Int) * B := by
    apply Int.mul_le_mul_of_nonneg_right _ hB
    rw [e]; simp; omega
  have h1 : (1 : Int) * B ≤ (ns.length : Int) * B := by
    apply Int.mul_le_mul_of_nonneg_right _ hB
    rw [e]; simp; omega
  unfold InLong
  refine ⟨?_, ?_⟩ <;> omega
end
end TP

set_option Elab.async false
set_option linter.all false
set_option maxRecDepth 100000
set_option maxHeartbeats 4000000
namespace TP
open PySem PySem.Spec PyProof.Rows L2
/-! ### xs == [] -/
def rEqE (K : PySem.W.Frag) : R2 := fun x y H Q => ∃ p q xs, x = .ref p ∧ y = .ref q ∧ SqL K H p xs ∧ SqL K H q [] ∧ Q (.bl xs.isEmpty) H
def rNeE (K : PySem.W.Frag) : R2 := fun x y H Q => ∃ p q xs, x = .ref p ∧ y = .ref q ∧ SqL K H p xs ∧ SqL K H q [] ∧ Q (.bl (!xs.isEmpty)) H
theorem op_eqE {X : Cx} (hu : X.A.units < cLine) : OpR X (compareOp .Eq) (rEqE X.K) := by
  intro pins s σ H x y v u Q I rx ry h
  obtain ⟨p, q, xs, rfl, rfl, hp, hq, hQ⟩ := h
  cases rx
  cases ry
  obtain ⟨its, r1, l1, _⟩ := I.list hp
  obtain ⟨its2, r2, l2, _⟩ := I.list hq
  cases r2
  cases xs with
  | nil =>
    cases r1
    exact SeqAt.eq_listAt (e := fun _ => true) l1.isList l2.isList rfl hu (fun j h1 h2 => absurd h1 (by simp)) ⟨.bl true, H, I, rfl, hQ⟩
  | cons a r =>
    cases r1 with
    | cons b c => exact SeqAt.eq_list_lengthsAt l1.isList l2.isList (by simp) hu ⟨.bl false, H, I, rfl, hQ⟩
theorem op_neE {X : Cx} (hu : X.A.units < cLine) : OpR X (compareOp .NotEq) (rNeE X.K) := by
  intro pins s σ H x y v u Q I rx ry h
  obtain ⟨p, q, xs, rfl, rfl, hp, hq, hQ⟩ := h
  cases rx
  cases ry
  obtain ⟨its, r1, l1, _⟩ := I.list hp
  obtain ⟨its2, r2, l2, _⟩ := I.list hq
  cases r2
  cases xs with
  | nil =>
    cases r1
    exact SeqAt.RcNeAt.lists (e := fun _ => true) l1.isList l2.isList rfl hu (fun j h1 h2 => absurd h1 (by simp)) X.prog X.w _ _ ⟨.bl false, H, I, rfl, hQ⟩
  | cons a r =>
    cases r1 with
    | cons b c => exact SeqAt.RcNeAt.lists_lengths l1.isList l2.isList (by simp) hu X.prog X.w _ _ ⟨.bl true, H, I, rfl, hQ⟩
section
variable {G : List Addr} {Γ Γ1 : Ctx} {α : Type} {R : Rp α} {xs : List α} {ta : TE} {K : PySem.W.Frag}
theorem e_emp {R' : Rp α} : E G Γ (tLst tNil) Γ (rList R') [] := e_lst (xs := []) a_nil (by simp)
theorem emp_iff {h : Hp} {vs : List V} (r : All2 (R.rep h) vs xs) : vs.isEmpty = xs.isEmpty := by
  cases r <;> rfl
theorem e_eqE (ha : E G Γ ta Γ1 (rList R) xs) : E G Γ (tOp (rEqE K) ta (tLst tNil)) Γ1 rBool xs.isEmpty := e_op ha (e_emp (R' := R)) fun M H v u Q k rv ru q => by
  obtain ⟨p, vs, rfl, hp, r⟩ := rv
  obtain ⟨p', vs', rfl, hp', r'⟩ := ru
  cases r'
  exact ⟨p, p', vs, rfl, rfl, SqL.of (hid_some hp).2, SqL.of (hid_some hp').2, q _ H Ex.refl k (by show V.bl _ = V.bl _; rw [emp_iff r])⟩
theorem e_neE (ha : E G Γ ta Γ1 (rList R) xs) : E G Γ (tOp (rNeE K) ta (tLst tNil)) Γ1 rBool (!xs.isEmpty) := e_op ha (e_emp (R' := R)) fun M H v u Q k rv ru q => by
  obtain ⟨p, vs, rfl, hp, r⟩ := rv
  obtain ⟨p', vs', rfl, hp', r'⟩ := ru
  cases r'
  exact ⟨p, p', vs, rfl, rfl, SqL.of (hid_some hp).2, SqL.of (hid_some hp').2, q _ H Ex.refl k (by show V.bl _ = V.bl _; rw [emp_iff r])⟩
/-! ### == of bools -/
theorem e_eqB {a b : Bool} {tb : TE} {Γ2 : Ctx} (ha : E G Γ ta Γ1 rBool a) (hb : E G Γ1 tb Γ2 rBool b) : E G Γ (tOp rEq ta tb) Γ2 rBool (decide (a = b)) := e_op ha hb fun M H v u Q k rv ru q => by
  subst rv ru
  exact ⟨rfl, q _ H Ex.refl k (by show V.bl _ = V.bl _; simp)⟩
theorem e_neB {a b : Bool} {tb : TE} {Γ2 : Ctx} (ha : E G Γ ta Γ1 rBool a) (hb : E G Γ1 tb Γ2 rBool b) : E G Γ (tOp rNe ta tb) Γ2 rBool (!decide (a = b)) := e_op ha hb fun M H v u Q k rv ru q => by
  subst rv ru
  exact ⟨rfl, q _ H Ex.refl k (by show V.bl _ = V.bl _; simp)⟩
/-! ### t < u -/
theorem e_ltT3 {x y : Int × Int × Int} {tb : TE} {Γ2 : Ctx} (ha : E G Γ ta Γ1 (rT3 rInt rInt rInt) x) (hb : E G Γ1 tb Γ2 (rT3 rInt rInt rInt) y) : E G Γ (tOp (rLtT K) ta tb) Γ2 rBool (HT.lexLt [x.1, x.2.1, x.2.2] [y.1, y.2.1, y.2.2]) := e_op ha hb fun M H v u Q k rv ru q => by
  obtain ⟨p, a, b, c, rfl, hp, ra, rb, rc⟩ := rv
  obtain ⟨p', a', b', c', rfl, hp', ra', rb', rc'⟩ := ru
  cases ra; cases rb; cases rc; cases ra'; cases rb'; cases rc'
  exact ⟨p, p', [_, _, _], [_, _, _], rfl, rfl, SqT.of (hid_some hp).2, SqT.of (hid_some hp').2, q _ H Ex.refl k rfl⟩
end
end TP

set_option Elab.async false
set_option linter.all false
set_option maxRecDepth 100000
set_option maxHeartbeats 4000000
namespace TP
open PySem PySem.Spec PyProof.Rows L2
section
variable {F : Fm} {gp : Gp} {G M own : List Addr} {H H' : Hp} {σ : L2.St} {Γ Γ' Γ0 Γ1 Γ2 Γ3 : Ctx} {ι α β γ : Type} {R : Rp α} {S : Rp β} {a : α} {b : β} {te ta tb : TE} {tt : TT} {t tr : TA} {D : Ends} {K : PySem.W.Frag} {g : TG} {wi : TI} {ws : List Nat} {xs : List α}
theorem e_some (h : E G Γ te Γ' R a) : E G Γ te Γ' (rOpt R) (some a) := h
theorem e_unsome (h : E G Γ te Γ' (rOpt R) (some a)) : E G Γ te Γ' R a := h
theorem e_none (h : E G Γ te Γ' rNon ()) : E G Γ te Γ' (rOpt R) none := h
theorem upFrom_length {lo : Int} {n : Nat} : (upFrom lo n).length = n := by simp [upFrom]
theorem upFrom_mem {lo x : Int} {n : Nat} : x ∈ upFrom lo n ↔ lo ≤ x ∧ x < lo + n := by
  unfold upFrom
  rw [List.mem_map]
  constructor
  · rintro ⟨i, hi, rfl⟩
    have := List.mem_range.mp hi
    omega
  · intro h
    exact ⟨(x - lo).toNat, List.mem_range.mpr (by omega), by omega⟩
theorem foldl_take {α β : Type} {f : β → α → β} {xs : List α} {i : Nat} {x : α} {s : β} (h : xs[i]? = some x) : (xs.take (i + 1)).foldl f s = f ((xs.take i).foldl f s) x := by
  rw [take_succ_of h, List.foldl_append]; rfl
/-- a for that folds -/
theorem s_forN {Sx : Type} {tbd : TS} (Γs : Sx → Ctx) (step : Sx → α → Sx) (Iv : Nat → Sx → Prop) {s0 : Sx} (h0 : Iv 0 s0) (hv : ∀ i s x, Iv i s → xs[i]? = some x → Iv (i + 1) (step s x)) (hs : ES F.G Γ wi (Γs s0) R xs)
    (turn : ∀ i s x, Iv i s → xs[i]? = some x → ∃ Γx ws, Tg F.G g R x (Γs s) Γx ws ∧ ∀ g' N, KT F g' (Γs (step s x)) N → (∀ Γ', KT F gp Γ' D.nx → KT F g' Γ' D.nx) → KT F g' Γx (tbd { D with nx := N, ct := N, bk := D.nx }))
    (done : Iv xs.length (xs.foldl step s0) → KT F gp (Γs (xs.foldl step s0)) D.nx) : KT F gp Γ (tFor wi g tbd D) := by
  have hI : ∀ i, i ≤ xs.length → Iv i ((xs.take i).foldl step s0) := by
    intro i
    induction i with
    | zero => exact fun _ => h0
    | succ i ih =>
      intro hi
      have e : xs[i]? = some xs[i] := List.getElem?_eq_getElem hi
      rw [foldl_take e]
      exact hv _ _ _ (ih (by omega)) e
  refine s_for Γs (fun i s => s = (xs.take i).foldl step s0) hs rfl (fun i x s hx hi => ?_) (fun s hi => ?_)
  · subst hi
    obtain ⟨Γx, ws, tg, body⟩ := turn i _ x (hI i (Nat.le_of_lt (List.getElem?_eq_some_iff.mp hx).1)) hx
    exact ⟨Γx, ws, tg, fun g' N hN hB => body g' N (hN _ (by rw [foldl_take hx])) hB⟩
  · subst hi
    rw [List.take_length]
    have := hI xs.length (Nat.le_refl _)
    rw [List.take_length] at this
    exact done this
theorem s_forF {Sx : Type} {tbd : TS} (Γs : Sx → Ctx) (step : Sx → α → Sx) (Iv : Sx → Prop) {s0 : Sx} (h0 : Iv s0) (hv : ∀ s x, Iv s → x ∈ xs → Iv (step s x)) (hs : ES F.G Γ wi (Γs s0) R xs)
    (turn : ∀ s x, Iv s → x ∈ xs → ∃ Γx ws, Tg F.G g R x (Γs s) Γx ws ∧ ∀ g' N, KT F g' (Γs (step s x)) N → (∀ Γ', KT F gp Γ' D.nx → KT F g' Γ' D.nx) → KT F g' Γx (tbd { D with nx := N, ct := N, bk := D.nx }))
    (done : Iv (xs.foldl step s0) → KT F gp (Γs (xs.foldl step s0)) D.nx) : KT F gp Γ (tFor wi g tbd D) :=
  s_forN Γs step (fun _ => Iv) h0 (fun _ s x h hx => hv s x h (List.mem_of_getElem? hx)) hs (fun _ s x h hx => turn s x h (List.mem_of_getElem? hx)) done
theorem sum_bounds {a b : Int} : ∀ {ns : List Int}, (∀ n ∈ ns, a ≤ n ∧ n ≤ b) → (ns.length : Int) * a ≤ ns.sum ∧ ns.sum ≤ (ns.length : Int) * b
  | [], _ => by simp
  | n :: ns, h => by
    have h1 := sum_bounds (ns := ns) fun m hm => h m (List.mem_cons_of_mem _ hm)
    have h2 := h n List.mem_cons_self
    rw [List.sum_cons, List.length_cons]
    have e : ∀ c : Int, ((ns.length + 1 : Nat) : Int) * c = (ns.length : Int) * c + c := fun c => by rw [Int.natCast_add, Int.add_mul]; simp
    rw [e, e]
    omega
end
end TP

set_option Elab.async false
set_option linter.all false
set_option maxRecDepth 100000
set_option maxHeartbeats 4000000
/-! the rules whose readings name what is known, that named apart -/
namespace TP
open PySem PySem.Spec PyProof.Rows L2
section
variable {X : Cx} {K : PySem.W.Frag} {e a b e2 o : Expr} {es : List Expr} {te ta tb td to : TE} {t : TA} {f : Str} {pos p tpos apos cpos : Pos} {k : Nat}
theorem pg_tupK {tg : TGs} {n : Nat} (hK : X.K = K) (hc : X.calm = true) (h : PGs X es tg)
    (hn : (assignEach es X.env).length = n := by rfl) (hst : (assignEach es X.env).findIdx? (·.1) = none := by rfl) : PG X (.Tuple es k pos) (gTup K n tg) := by
  subst hK; exact pg_tup hc h hn hst
theorem pe_fldK (hK : X.K = K) (he : PE X e ta) (hb : attributeBase e f X.env (eval e X.env) = eval e X.env) : PE X (.Attribute e f pos) (tFld K ta f) := by subst hK; exact pe_fld he hb
theorem pi_listK {tg : Expr} (hK : X.K = K) (h : PE X e ta) : PI X tg e (iList K ta) := by subst hK; exact pi_list h
theorem pi_tupK {tg : Expr} (hK : X.K = K) (h : PE X e ta) : PI X tg e (iTup K ta) := by subst hK; exact pi_tup h
theorem pi_enumK {elts : List Expr} {kk : Nat} (hK : X.K = K) (hg : Gl X "enumerate") (hm : X.mg "enumerate" = none) (ha : PA X [e] t) (hs : starEach [e] X.env = [(false, eval e X.env)] := by rfl) :
    PI X (.Tuple elts kk tpos) (.Call (.Name "enumerate" p) [e] [] pos) (iEnum K t) := by subst hK; exact pi_enum hg hm ha hs
theorem pi_zipK {elts : List Expr} {kk : Nat} (hK : X.K = K) (hg : Gl X "zip") (hm : X.mg "zip" = none) (ha : PA X [e, e2] t) (hs : starEach [e, e2] X.env = (false, eval e X.env) :: starEach [e2] X.env := by rfl)
    (hpl : (backTo pos (starEach [e2] X.env)).any (·.1) = false := by rfl) : PI X (.Tuple elts kk tpos) (.Call (.Name "zip" p) [e, e2] [] pos) (iZip K t) := by subst hK; exact pi_zip hg hm ha hs hpl
theorem ix_listK (hK : X.K = K) : IxR X (rIxL K) := by subst hK; exact ix_list
theorem ix_tupK (hK : X.K = K) : IxR X (rIxT K) := by subst hK; exact ix_tup
theorem op_eqDK (hK : X.K = K) (hu : X.A.units + 64 < cLine) : OpR X (compareOp .Eq) (rEqD K) := by subst hK; exact op_eqD hu
theorem op_neDK (hK : X.K = K) (hu : X.A.units + 64 < cLine) : OpR X (compareOp .NotEq) (rNeD K) := by subst hK; exact op_neD hu
theorem op_eqEK (hK : X.K = K) (hu : X.A.units < cLine) : OpR X (compareOp .Eq) (rEqE K) := by subst hK; exact op_eqE hu
theorem op_neEK (hK : X.K = K) (hu : X.A.units < cLine) : OpR X (compareOp .NotEq) (rNeE K) := by subst hK; exact op_neE hu
theorem op_ltTK (hK : X.K = K) (hu : X.A.units < cLine) : OpR X (compareOp .Lt) (rLtT K) := by subst hK; exact op_ltT hu
theorem op_catTK (hK : X.K = K) : OpR X (binaryOp .Add) (rCatT K) := by subst hK; exact op_catT
theorem call_len_seqK (hK : X.K = K) : CallR X (.builtin "len") (fun xs H Q => ∃ p ys, xs = [.ref p] ∧ (SqL K H p ys ∨ SqT K H p ys) ∧ Q (.int ys.length) H) := by subst hK; exact call_len_seq
theorem call_tuple_ofK (hK : X.K = K) : CallR X (.type "tuple") (fun xs H Q => ∃ p ys, xs = [.ref p] ∧ ((SqL K H p ys ∧ ∀ l, H l = none → Q (.ref l) (upd H l (.tup ys))) ∨ (SqT K H p ys ∧ Q (.ref p) H))) := by subst hK; exact call_tuple_of
theorem call_list_ofK (hK : X.K = K) : CallR X (.type "list") (fun xs H Q => ∃ p ys, xs = [.ref p] ∧ (SqL K H p ys ∨ SqT K H p ys) ∧ ∀ l, H l = none → Q (.ref l) (upd H l (.lst ys))) := by subst hK; exact call_list_of
theorem cr_sumK (hK : X.K = K) (hc : X.calm = true) : CallR X (.builtin "sum") (L2.rSum K) := by subst hK; exact cr_sum hc
theorem cr_minK (hK : X.K = K) (hc : X.calm = true) : CallR X (.builtin "min") (L2.rMin K) := by subst hK; exact cr_min hc
theorem cr_maxK (hK : X.K = K) (hc : X.calm = true) : CallR X (.builtin "max") (L2.rMax K) := by subst hK; exact cr_max hc
theorem sl_listK (hK : X.K = K) : SlR X (rSlL K) := by subst hK; exact sl_list
theorem sl_tupK (hK : X.K = K) : SlR X (rSlT K) := by subst hK; exact sl_tup
theorem pe_bmK {T id : String} {name : Str} {r : V → List V → Hp → VK → Prop} (hK : X.K = K) (pa : PlainAttrs T) (slot : Slot T name id) (hty : typeOf (.builtin id) = pure (.type "method_descriptor")) (hm : MtR X id r) (ho : PE X o to) (ha : PA X (e :: es) t) (hbase : attributeBase o name X.env (eval o X.env) = eval o X.env := by rfl) (hfew : ((backTo cpos (starEach (e :: es) X.env)).all (fun x => !x.1) && (backToKw cpos (keywordEach [] X.env)).all (fun x => x.1.isSome) && decide ((e :: es).length + ([] : List Keyword).length + (if ([] : List Keyword).isEmpty then 0 else 1) < 30)) = true := by rfl)
    (hline : (apos.endLine == cpos.line) = true := by rfl) (hs : starEach (e :: es) X.env = (false, eval e X.env) :: starEach es X.env := by rfl) (hplain : (backTo cpos (starEach es X.env)).any (·.1) = false := by rfl) : PE X (.Call (.Attribute o name apos) (e :: es) [] cpos) (tBM K T r to t) := by
  subst hK; exact pe_bm pa slot hty hm ho ha hbase hfew hline hs hplain
end
end TP

set_option Elab.async false
set_option linter.all false
set_option maxRecDepth 100000
set_option maxHeartbeats 4000000
/-! Lambdas as values: kept in a list, called later. -/
namespace LM
open PySem PySem.Spec PyProof.Rows L2
open LamX (CodeO TabS TabB LamS)

/-- a lambda's object -/
def FnO (f : Addr) (q : Str) (ps : Arguments) (b : Expr) (sc : Scope) (clo : List (Str × Addr)) (c' : Addr) : HO :=
  .ext fun h => ∃ pm ctv, h.get? f = some (PySem.W.kla_obj "<lambda>" q ps b sc clo pm c' ctv)
/-- nothing but the table at P is other than it was -/
def ButP (P : Addr) (H H1 : Hp) : Prop := ∀ b o, b ≠ P → H b = some o → H1 b = some o
/-- what the table at P tells afterwards: the codes of before, or c', which is new or one of them -/
def Next (P c' : Addr) (H H1 : Hp) : Prop := ∃ ps ps' : Array Value, H P = some (.tbl ps) ∧ H1 P = some (.tbl ps') ∧ TriplesOk ps'.toList ∧ (∀ pos cv, codeAmong pos ps'.toList = some cv → (∃ p', codeAmong p' ps.toList = some cv) ∨ cv = .ref c') ∧ (H c' = none ∨ ∃ p', codeAmong p' ps.toList = some (.ref c'))
section
variable {X : Cx} {pins : List (Addr × Obj)} {σ : L2.St} {H : Hp} {s : Shared}
theorem fn_laid {P c' : Addr} {q : Str} {params : Arguments} {body : Expr} {scope : Scope} {clo : List (Str × Addr)} {pm ctv : Value} {h' : Heap} {tk : Nat} (I : Inv X pins σ H s) (hk : ∀ b o, s.heap.get? b = some o → h'.get? b = some o) (hz : s.heap.objs.size ≤ h'.objs.size) :
    Inv X pins σ (upd H h'.objs.size (FnO h'.objs.size q params body scope clo c')) { s with heap := h'.push (PySem.W.kla_obj "<lambda>" q params body scope clo pm c' ctv), toks := tk } := by
  refine I.laid (fun b o e => Heap.get?_push_of_some _ (hk b o e)) hz ?_
  have e : (h'.push (PySem.W.kla_obj "<lambda>" q params body scope clo pm c' ctv)).get? h'.objs.size = some (PySem.W.kla_obj "<lambda>" q params body scope clo pm c' ctv) := Heap.get?_push_size _ rfl
  exact ⟨⟨pm, ctv, e⟩, ⟨_, e⟩, fun h1 h2 ⟨a, b, x⟩ st => ⟨a, b, st _ x⟩⟩
theorem tabS_upd {P : Addr} {q : Str} {a : Addr} {o : HO} (t : TabS H P q) (ha : H a = none) : TabS (upd H a o) P q := t.ext fun b u e => by
  rw [upd_ne (ne_of_none e ha)]; exact e
/-- its making -/
theorem lam_value {c P : Addr} {params : Arguments} {body : Expr} {scope : Scope} {pos : Pos} {E : Value → Shared → Prop} {Q : Value → Shared → Prop} (I : Inv X pins σ H s) (TB : TabB X.base X.mg c P) (hcode : X.env.code = .ref c)
    (hT : TabS H P (X.env.qual ++ "<lambda>")) (hdef : defaultsOf params X.env = ([], [])) (hfree : ∀ y ∈ scope.names, y.2 = .free → ∃ c, X.env.cells.lookup y.1 = some c)
    (h : ∀ (f c' : Addr) (H1 : Hp) (s' : Shared), Inv X pins σ (upd H1 f (FnO f (X.env.qual ++ "<lambda>") params body scope (cloFrom X.env.cells scope.names []) c')) s' → ButP P H H1 → Next P c' H H1 → H1 f = none → H1 c' = some (CodeO c' (X.env.qual ++ "<lambda>")) → Q (.ref f) s') :
    wpAny (model X.prog X.w) X.A (eval (.Lambda params body scope pos) X.env) Q E s := by
  obtain ⟨ps, hP, ht, ha⟩ := hT
  have hB := TB.bm.keeps I.bk
  have eP : s.heap.get? P = some { cls := .none, data := .fields ps } := I.hok P _ hP
  have hC := TB.code.keeps I.bk
  have hG := I.mod.glob.keeps I.bk
  refine PySem.W.kla_eval hdef ?_
  cases hc : codeAmong pos ps.toList with
  | some cv =>
    obtain ⟨c', rfl, hco⟩ := ha pos cv hc
    refine PySem.W.kla_makeFunctionHit (mg := X.mg) (closure_ok hfree) I.ok.glob hG hcode hC eP ht hc hB fun ctv h' tk hx hz => ?_
    exact h h'.objs.size c' H _ (fn_laid (tk := tk) (P := P) I hx hz) (fun _ _ _ e => e) ⟨ps, ps, hP, hP, ht, fun p' cv z => .inl ⟨p', z⟩, .inr ⟨pos, hc⟩⟩ (I.hok.fresh hz) hco
  | none =>
    refine PySem.W.kla_makeFunction (mg := X.mg) (closure_ok hfree) I.ok.glob hG hcode hC eP ht hc TB.gP hB fun c' ctv h' tk hx hge hlt hrec htb => ?_
    obtain ⟨c2, oc, vs, t, e2, hoc, hd, hv⟩ := hrec
    cases e2
    have nC : H c' = none := I.hok.fresh hge
    have nPc : P ≠ c' := ne_of_none hP nC
    have I1 := LamX.inv_table (t' := tk) (more := #[rawInt pos.line, rawInt pos.col, .ref c']) (h' := h') I hP (fun b o hb e => hx b o hb e) htb hge ⟨oc, vs, t, hoc, hd, hv⟩
    have I2 := fn_laid (P := P) (q := X.env.qual ++ "<lambda>") (params := params) (body := body) (scope := scope) (clo := cloFrom X.env.cells scope.names []) (pm := (X.mg "__name__").getD .none) (ctv := ctv) (c' := c') (tk := tk) (h' := h') I1 (fun b o e => e) (Nat.le_refl _)
    have hBut : ButP P H (upd (upd H P (.tbl (ps ++ #[rawInt pos.line, rawInt pos.col, .ref c']))) c' (CodeO c' (X.env.qual ++ "<lambda>"))) := fun b o hb e => by
      rw [upd_ne (ne_of_none e nC), upd_ne hb]; exact e
    have eL : (ps ++ #[rawInt pos.line, rawInt pos.col, .ref c']).toList = ps.toList ++ [rawInt pos.line, rawInt pos.col, .ref c'] := by simp
    refine h h'.objs.size c' _ _ I2 hBut ⟨ps, _, hP, by rw [upd_ne nPc, upd_same], by rw [eL]; exact PySem.TriplesOk_snoc _ _ _ _ ht, fun p' cv hcv => ?_, .inl nC⟩ ?_ upd_same
    · rw [eL] at hcv
      exact (LamX.among_app _ ht hcv).imp (fun z => ⟨p', z⟩) id
    · have n1 : h'.objs.size ≠ c' := Nat.ne_of_gt hlt
      have n2 : h'.objs.size ≠ P := Nat.ne_of_gt (Nat.lt_of_lt_of_le (Heap.lt_size eP) (Nat.le_trans hge (Nat.le_of_lt hlt)))
      rw [upd_ne n1, upd_ne n2]
      exact I.hok.fresh (Nat.le_trans hge (Nat.le_of_lt hlt))
end
/-- the reading -/
def tLamV (P : Addr) (q : Str) (params : Arguments) (body : Expr) (scope : Scope) (clo : List (Str × Addr)) : TE := fun _ H Q => TabS H P q ∧ ∀ H1 f c', ButP P H H1 → Next P c' H H1 → H1 f = none → H1 c' = some (CodeO c' q) → Q (.ref f) (upd H1 f (FnO f q params body scope clo c'))
theorem pe_lamV {X : Cx} {c P : Addr} {params : Arguments} {body : Expr} {scope : Scope} {pos : Pos} (TB : TabB X.base X.mg c P) (hcode : X.env.code = .ref c) (L : LamS X.env.scope scope) (hdef : defaultsOf params X.env = ([], [])) :
    PE X (.Lambda params body scope pos) (tLamV P (X.env.qual ++ "<lambda>") params body scope (cloFrom X.env.cells scope.names [])) := by
  refine ⟨fun pins s σ H Q I h => ?_⟩
  exact lam_value I TB hcode h.1 hdef (L.has I.ok) fun f c' H1 s' I1 hb hT hf hc => ⟨.ref f, _, I1, rfl, h.2 H1 f c' hb hT hf hc⟩
end LM

set_option Elab.async false
set_option linter.all false
set_option maxRecDepth 100000
set_option maxHeartbeats 4000000
namespace LM
open PySem PySem.Spec PyProof.Rows L2
open LamX (CodeO TabS TabB LamS lamEnv lamCx)

/-- what is known of a def's cells -/
structure Cells (X : Cx) (σ : L2.St) (h : Heap) (H : Hp) : Prop where
  ok : X.Ok
  len : σ.length = X.N.length
  cell : ∀ y c, X.env.cells.lookup y = some c → (∃ v, h.IsCell c v) ∧ H c = none
  val : ∀ (i : Nat) (y : Str) (v : V), X.N[i]? = some y → σ[i]? = some (some v) → (X.env.scope.names.lookup y = some .cell ∨ X.env.scope.names.lookup y = some .free) → ∃ u c, RelV v u ∧ X.env.cells.lookup y = some c ∧ h.IsCell c (some u)
section
variable {X : Cx} {pins : List (Addr × Obj)} {σ : L2.St} {H H' : Hp} {s : Shared} {h h' : Heap}
theorem Cells.of (I : Inv X pins σ H s) : Cells X σ s.heap H := by
  refine ⟨I.ok, I.len, fun y c e => ⟨I.cell y c e, I.freeC y c e⟩, fun i y v e1 e2 e3 => ?_⟩
  obtain ⟨m, _, hl⟩ := I.loc
  obtain ⟨u, r, q⟩ := hl i y v e1 e2 (e3.elim (fun k => .inr (.inl k)) fun k => .inr (.inr k))
  rcases q with ⟨k, _⟩ | ⟨_, c, e, z⟩
  · have k : X.env.scope.names.lookup y = some .local := k
    rcases e3 with e3 | e3 <;> rw [e3] at k <;> cases k
  · exact ⟨u, c, r, e, z⟩
theorem Cells.un {fs ex : List Addr} (C : Cells X σ h H) (u : Un fs ex H H' h h') (hx : ∀ y c, X.env.cells.lookup y = some c → c ∉ ex) : Cells X σ h' H' := by
  have key : ∀ {y c v}, X.env.cells.lookup y = some c → h.IsCell c v → h'.IsCell c v := fun {y c v} e z => by
    obtain ⟨o, ho, hd⟩ := z
    obtain ⟨sl, q⟩ := u.any ho (C.cell y c e).2 (hx y c e)
    exact ⟨_, q, hd⟩
  refine ⟨C.ok, C.len, fun y c e => ?_, fun i y v e1 e2 e3 => ?_⟩
  · obtain ⟨⟨v, z⟩, n⟩ := C.cell y c e
    refine ⟨⟨v, key e z⟩, ?_⟩
    obtain ⟨o, ho, _⟩ := z
    exact u.free c o ho n (hx y c e)
  · obtain ⟨w, c, r, e, z⟩ := C.val i y v e1 e2 e3
    exact ⟨w, c, r, e, key e z⟩
theorem Cells.keeps (C : Cells X σ h H) (k : ∀ b o, h.get? b = some o → h'.get? b = some o) : Cells X σ h' H := by
  refine ⟨C.ok, C.len, fun y c e => ?_, fun i y v e1 e2 e3 => ?_⟩
  · obtain ⟨⟨v, z⟩, n⟩ := C.cell y c e
    exact ⟨⟨v, z.keeps k⟩, n⟩
  · obtain ⟨w, c, r, e, z⟩ := C.val i y v e1 e2 e3
    exact ⟨w, c, r, e, z.keeps k⟩
/-- the lambda's body is entered -/
theorem lam_enter {s1 : Shared} {A : Around} {outer : List PySem.Env} {E : XK} {scope : Scope} {f c' : Addr} {h₁ : Heap} {tk : Nat} (C : Cells X σ s1.heap H) (L : LamS X.env.scope scope) (e0 : Env0 X.prog X.w X.K X.mg X.base A outer s1 H) (hd : A.handled = none)
    (hns : h₁.Ns s1.heap.objs.size fun y => ([] : List (Str × Value)).reverse.lookup y) (kp : ∀ b o, s1.heap.get? b = some o → h₁.get? b = some o) :
    Inv (lamCx X A outer s1 H E scope f c') [] σ H { s1 with heap := h₁, toks := tk } := by
  have hfree := L.has C.ok
  have C1 := C.keeps kp
  have back : ∀ {y c}, (cloFrom X.env.cells scope.names []).lookup y = some c → X.env.cells.lookup y = some c := fun {y c} e => by
    rcases cloFrom_mem (PySem.mem_of_lookup e) with hm | ⟨h1, h2⟩
    · cases hm
    · obtain ⟨c1, hc⟩ := hfree _ h1 rfl
      have hc : X.env.cells.lookup y = some c1 := hc
      rw [h2, hc]; rfl
  have forth : ∀ {y}, scope.names.lookup y = some .free → ∃ c, (cloFrom X.env.cells scope.names []).lookup y = some c := fun {y} hl =>
    mem_lookup (cloFrom_has (cells := X.env.cells) (acc := []) (show (y, NameKind.free) ∈ scope.names from PySem.mem_of_lookup hl))
  have no : ∀ b : Addr, b ∉ (lamCx X A outer s1 H E scope f c').ex := fun b z => absurd (show b ∈ ([] : List Addr) from z) (by simp)
  refine ⟨⟨e0.mod, L.kind, rfl, rfl, Nat.le_refl _, fun y z c e1 e2 => C.ok.inj y z c (back e1) (back e2), fun y hy => ?_, fun y c z _ => ?_, fun _ => hd, Around.frames_deeper e0.frames, .inr ⟨rfl, rfl⟩, fun b z => absurd z (no b), e0.bs, e0.bsz, fun b _ _ => no b,
      fun b z => absurd z (no b), e0.funs, e0.frf⟩,
    rfl, e0.bare, Un.kept kp, ⟨_, hns, fun i y v e1 e2 e3 => ?_⟩, fun y c e => (C1.cell y c (back e)).1, e0.hok.fresh (Nat.le_refl _), fun y c e => (C1.cell y c (back e)).2, fun q hq => absurd (show q ∈ ([] : List (Addr × Obj)) ++ [] from hq) (by simp), e0.hok.kept kp, C.len⟩
  · have hy : scope.names.lookup y = some .cell ∨ scope.names.lookup y = some .free := hy
    rcases hy with hy | hy
    · exact absurd rfl (L.own _ (PySem.mem_of_lookup hy)).2
    · exact forth hy
  · have z : false = true := z
    cases z
  · have e3 : Vis scope y := e3
    rcases e3 with k | k | k
    · exact absurd rfl (L.own _ (PySem.mem_of_lookup k)).1
    · exact absurd rfl (L.own _ (PySem.mem_of_lookup k)).2
    · obtain ⟨u, c, r, e, z⟩ := C1.val i y v e1 e2 (L.free _ (PySem.mem_of_lookup k) rfl)
      obtain ⟨c2, h2⟩ := forth k
      have ec : c2 = c := Option.some.inj ((back h2).symm.trans e)
      exact ⟨u, r, .inr ⟨.inr k, c2, h2, by rw [ec]; exact z⟩⟩
end
/-- the context of a def that is handed a lambda, within a try, called at t with what stands then -/
abbrev inTry (X : Cx) (CXg : CXT) (Ng : List Str) (qg : Str) (sg : Scope) (g : Addr) (cdg : Value) (t : Shared) (H : Hp) (Eg : XK) (pn : List (Addr × Obj)) (xe : Value → Shared → Prop) : Cx :=
  (cxOf CXg X.prog X.w X.K X.mg X.base Ng qg sg g cdg X.A X.stack t H Eg).tr pn xe
/-- what() in it: the maker's cells are known at t -/
theorem pe_what {X : Cx} {σ : L2.St} {H : Hp} {t : Shared} {CXg : CXT} {Eg : XK} {Ng : List Str} {qg : Str} {sg : Scope} {g f c' : Addr} {cdg : Value} {params : Arguments} {body : Expr} {scope : Scope} {k i : Nat} {a q : Str} {pn : List (Addr × Obj)} {xe : Value → Shared → Prop} {W : WX} {E : XK} {tb : TE} {p1 p2 : Pos}
    (C : Cells X σ t.heap H) (L : LamS X.env.scope scope) (hq : q = X.env.qual ++ "<lambda>")
    (hbind : ∀ (pm ctv : Value), bindArgs (PySem.W.kla_fn "<lambda>" q params body scope (cloFrom X.env.cells scope.names []) pm (.ref c') ctv) ⟨[], []⟩ = pure [])
    (tk : Takes (inTry X CXg Ng qg sg g cdg t H Eg pn xe) W) (hW : ∀ cls d σ' H', E cls d H' → W cls d σ' H') (room : Room (k + 1) (X.A.deeper (envOfC qg sg t.heap.objs.size g cdg)))
    (hbody : ∀ (A : Around) (outer : List PySem.Env) (s : Shared) (H : Hp), Room k (A.deeper (lamEnv X scope s.heap.objs.size f c')) → PE (lamCx X A outer s H E scope f c') body tb)
    (hN : Ng[i]? = some a) (hv : Vis sg a) (hd : (a == ("__debug__" : Str)) = false) (hcd : (a == ("__classdict__" : Str)) = false) :
    PE (inTry X CXg Ng qg sg g cdg t H Eg pn xe) (.Call (.Name a p1) [] [] p2) (fun σZ HZ Q => σZ[i]? = some (some (.ref f)) ∧ HZ f = some (FnO f q params body scope (cloFrom X.env.cells scope.names []) c') ∧ HZ c' = some (CodeO c' q) ∧ tb σ HZ Q) := by
  subst hq
  have passes : Passes (L2.CX X.prog X.w) (inTry X CXg Ng qg sg g cdg t H Eg pn xe) E := passes_call tk hW
  refine ⟨fun pinsZ sZ σZ HZ Q IZ hh => ?_⟩
  obtain ⟨hs, hf, hc, ht⟩ := hh
  refine wpAny_Call_Name_kw (thn ((pe_var (pos := p1) (i := i) hN hv hd hcd).run pinsZ sZ σZ HZ (fun v H1 => v = .ref f ∧ H1 = HZ) IZ ⟨.ref f, hs, rfl, rfl⟩) fun u s1 ⟨v, H1, J, r1, e1, e2⟩ => ?_)
  subst e1 e2
  obtain rfl : Value.ref f = u := r1.symm
  obtain ⟨⟨pm, ctv, fo⟩, _, _⟩ := J.hok f _ hf
  obtain ⟨⟨oc, cvs, tq, co, cd, cv⟩, _, _⟩ := J.hok c' _ hc
  have C1 : Cells X σ s1.heap H1 := C.un (fs := frs X.stack) (ex := []) J.base fun _ _ _ z => by simp at z
  refine PySem.W.callWith_F0 ⟨_, _, _, _, fo⟩ (wpAny_call (codeAny_mono (R := CR (L2.CX X.prog X.w) (envOfC qg sg t.heap.objs.size g cdg :: X.stack) X.prog X.w H1 s1 Q E) (PySem.W.kla_callFunE room.depth fo rfl L.co L.gen rfl ⟨c', oc, cvs, tq, rfl, co, cd, cv⟩ ?_) fun r s' ho => ?_))
  · refine wpAny_of_eq (hbind pm ctv) (wpAny_newFunctionEnv (fun y hy => (L.own y hy).2) (fun y hy => by simp at hy) (fun hp hns hsb => ⟨J.nolimit.fresh _ hsb, ?_⟩) L.kind)
    have kp : ∀ b o, s1.heap.get? b = some o → hp.get? b = some o := fun b o e => hsb.extBut b o (Nat.ne_of_lt (Heap.lt_size e)) (Heap.get?_push_of_some _ e)
    have Jb := lam_enter (E := E) (scope := scope) (f := f) (c' := c') (tk := s1.toks + ([] : List (Str × Value)).length) C1 L J.env0 room.hd hns kp
    refine PySem.W.kla_codeExpr (wpAny_mono ((hbody _ _ s1 H1 (room.deeper _)).run [] _ _ H1 Q Jb ht) (fun v s' z => ?_) fun _ _ z => z)
    obtain ⟨vv, H', J', rv, z⟩ := z
    exact ⟨vv, H', J'.os, J'.bare, J'.base, J'.hok, rv, z⟩
  · cases r with
    | error e => exact passes pinsZ σZ H1 s1 e s' J ho
    | ok fl =>
      cases fl with
      | ret u => exact J.after ho
      | next | brk | cont => exact False.elim ho
end LM

set_option Elab.async false
set_option linter.all false
set_option maxRecDepth 100000
set_option maxHeartbeats 4000000
namespace LM
open PySem PySem.Spec PyProof.Rows L2
open LamX (CodeO TabS TabB LamS lamEnv lamCx)
/-- a lambda of the text, and what its body reads as -/
structure LamD where
  ps : Arguments
  b : Expr
  sc : Scope
  t : XK → TE
/-- what catches -/
def Ech (K : PySem.W.Frag) (CS : Addr) (ret : Str) (Q : VK) : XK := fun cls _ H' => ∃ b, PySem.W.exmOne K cls (.ref CS) = some b ∧ (b = true → Q (.str ret) H') ∧ (b = false → False)
/-- told(a lambda): σ0 the slots of the lambda's def -/
def tTold (K : PySem.W.Frag) (CS : Addr) (ret q : Str) (cells : List (Str × Addr)) (Ls : List LamD) (σ0 : L2.St) (te : TE) : TE := fun σ H Q => tCons te tNil σ H fun vs H1 => ∃ f c' ld, ld ∈ Ls ∧ vs = [.ref f] ∧ H1 f = some (FnO f q ld.ps ld.b ld.sc (cloFrom cells ld.sc.names []) c') ∧ H1 c' = some (CodeO c' q) ∧ ld.t (Ech K CS ret Q) σ0 H1 Q
/-- what is asked of each lambda -/
structure LamOk (X : Cx) (k : Nat) (ld : LamD) : Prop where
  ls : LamS X.env.scope ld.sc
  bind : ∀ (q : Str) (cl : List (Str × Addr)) (pm cv ctv : Value), bindArgs (PySem.W.kla_fn "<lambda>" q ld.ps ld.b ld.sc cl pm cv ctv) ⟨[], []⟩ = pure []
  body : ∀ (A : Around) (outer : List PySem.Env) (s : Shared) (H : Hp) (E : XK) (f c' : Addr), Room k (A.deeper (lamEnv X ld.sc s.heap.objs.size f c')) → PE (lamCx X A outer s H E ld.sc f c') ld.b (ld.t E)
/-- the def told, as it stands: try: return what() / except C: return ret -/
structure ToldOk (X : Cx) (x a e ret : Str) (g CS : Addr) (Ng : List Str) (sg : Scope) (cdv : Value) : Prop where
  mgx : X.mg x = some (.ref g)
  kp : PySem.W.keepIn X.K (.ref g) = true
  run : ∃ (pg : Arguments) (bg : List Stmt) (dV kV doc pm ct oc : Value) (an od : Option Addr) (osl : Array (Option Value)) (j : Nat) (p1 p2 p3 p4 p5 p6 p7 p8 : Pos),
    X.K.lookup g = some ⟨oc, od, .func (PySem.W.fnOf x x pg bg sg dV kV doc pm an cdv ct), osl⟩ ∧ L2.Binds X.K (PySem.W.fnOf x x pg bg sg dV kV doc pm an cdv ct) [a] [] ∧
    bg = [.Try [.Return (some (.Call (.Name a p1) [] [] p2)) p3] [.ExceptHandler (some (.Name e p4)) none [.Return (some (.Constant (.str ret) j p5)) p6] p7] [] [] p8]
  code : PySem.W.codeIn X.K cdv x = true
  sc : FnScope Ng [a] sg
  n0 : Ng[0]? = some a
  vis : Vis sg a
  eg : sg.names.lookup e = some .globalImplicit
  em : X.mg e = some (.ref CS)
  st : ∀ f : Addr, (L2.start Ng [V.ref f])[0]? = some (some (V.ref f))
  de : (e == ("__debug__" : Str)) = false
  da : (a == ("__debug__" : Str)) = false
  ca : (a == ("__classdict__" : Str)) = false
/-- the call at a state: X the lambdas' def, Y the context that calls (X itself, or a block of it) -/
theorem told_run {X Y : Cx} {x a e ret : Str} {g CS : Addr} {Ng : List Str} {sg : Scope} {cdv : Value} {k : Nat} {Ls : List LamD} {σ0 : L2.St} (hY : Y.prog = X.prog ∧ Y.w = X.w ∧ Y.K = X.K ∧ Y.mg = X.mg ∧ Y.base = X.base ∧ Y.A = X.A ∧ Y.stack = X.stack)
    (T : ToldOk X x a e ret g CS Ng sg cdv) (hr : Room (k + 2) X.A) (hL : ∀ ld ∈ Ls, LamOk X k ld) {pins : List (Addr × Obj)} {σ : L2.St} {H : Hp} {s : Shared} {us : List Value} {Q : VK} (I : Inv Y pins σ H s) (C : Cells X σ0 s.heap H) {f c' : Addr} {ld : LamD} (hld : ld ∈ Ls) (hus : us = [.ref f])
    (hf : H f = some (FnO f (X.env.qual ++ "<lambda>") ld.ps ld.b ld.sc (cloFrom X.env.cells ld.sc.names []) c')) (hc : H c' = some (CodeO c' (X.env.qual ++ "<lambda>"))) (ht : ld.t (Ech X.K CS ret Q) σ0 H Q) :
    wpAny (model Y.prog Y.w) Y.A (call (.ref g) us) (EP Y pins σ Q) Y.xe s := by
  obtain ⟨y1, y2, y3, y4, y5, y6, y7⟩ := hY
  obtain ⟨pg, bg, dV, kV, doc, pm, ct, oc, an, od, osl, j, p1, p2, p3, p4, p5, p6, p7, p8, lk, hb, rfl⟩ := T.run
  subst hus
  have e0 : Env0 X.prog X.w X.K X.mg X.base X.A X.stack s H := by
    have := I.env0
    rw [y1, y2, y3, y4, y5, y6, y7] at this
    exact this
  have kin : X.K.In s.heap := by rw [← y3]; exact I.kIn
  have O := hL ld hld
  have rc : codeAny (model X.prog X.w) X.A (.call (.ref g) ⟨[.ref f], []⟩) (CR C8.CX0 X.stack X.prog X.w H s Q C8.E0) s := by
    refine LamX.run_ofS (N := Ng) (ps := [a]) (us := [.ref f]) (vs := [.ref f]) lk T.code T.sc hr e0 (hb s [.ref f] kin rfl) (.cons rfl .nil) rfl fun hr' => ?_
    obtain ⟨t', h1, h2⟩ := LamX.told_gives (X := X) (x := x) (sg := sg) (g := g) (cdg := cdv) (q := X.env.qual ++ "<lambda>") (j := j) (p3 := p3) (p5 := p5) (p6 := p6) (p7 := p7) (p8 := p8) T.eg T.em T.de T.st f c' s H Q (fun E HZ Q => HZ f = some (FnO f (X.env.qual ++ "<lambda>") ld.ps ld.b ld.sc (cloFrom X.env.cells ld.sc.names []) c') ∧ ld.t E σ0 HZ Q)
      (fun W pn xe E q1 q2 tk hW => by
        have := pe_what (i := 0) (p1 := q1) (p2 := q2) C O.ls rfl (fun pm ctv => O.bind _ _ _ _ _) tk hW hr' (fun A outer s H hr2 => O.body A outer s H E f c' hr2) T.n0 T.vis T.da T.ca
        exact ⟨fun pinsZ sZ σZ HZ QZ IZ hh => this.run pinsZ sZ σZ HZ QZ IZ ⟨hh.1, hh.2.2.1, hh.2.1, hh.2.2.2⟩⟩) hc ⟨hf, ht⟩
    exact ⟨t', h1.nox, h2⟩
  rw [y1, y2, y6]
  refine wpAny_call (codeAny_mono rc fun r s2 hq => ?_)
  cases r with
  | error e => exact (show False from hq).elim
  | ok fl =>
    cases fl with
    | ret u =>
      have hq' : CE X.stack X.prog X.w H s Q u s2 := hq
      rw [← y1, ← y2, ← y7] at hq'
      exact I.after hq'
    | next | brk | cont => exact False.elim hq
/-- told(e) -/
theorem pe_told {X Y : Cx} {x a e ret : Str} {g CS : Addr} {Ng : List Str} {sg : Scope} {cdv : Value} {k : Nat} {Ls : List LamD} {σ0 : L2.St → L2.St} {e0 : Expr} {te : TE} {p pos : Pos} (hY : Y.prog = X.prog ∧ Y.w = X.w ∧ Y.K = X.K ∧ Y.mg = X.mg ∧ Y.base = X.base ∧ Y.A = X.A ∧ Y.stack = X.stack)
    (T : ToldOk X x a e ret g CS Ng sg cdv) (hr : Room (k + 2) X.A) (hL : ∀ ld ∈ Ls, LamOk X k ld) (hC : ∀ pins σ H s, Inv Y pins σ H s → Cells X (σ0 σ) s.heap H) (hg : Gl Y x) (he : PE Y e0 te) (hdb : (x == ("__debug__" : Str)) = false := by decide)
    (hs : starEach [e0] Y.env = (false, eval e0 Y.env) :: starEach [] Y.env := by rfl) : PE Y (.Call (.Name x p) [e0] [] pos) (fun σ H Q => tTold X.K CS ret (X.env.qual ++ "<lambda>") X.env.cells Ls (σ0 σ) te σ H Q) := by
  refine ⟨fun pins s σ H Q I h => ?_⟩
  refine wpAny_Call_Name_kw (ld_glob I hg (by rw [hY.2.2.2.1]; exact T.mgx) ?_ hdb)
  refine PySem.W.callWith_K (h₀ := Y.base) I.ok.mod.kin (by rw [hY.2.2.1]; exact T.kp) (thn ((pa_cons he pa_nil hs).run pos pins s σ H _ I h) fun us s1 ⟨vs, H1, I1, r, q⟩ => ⟨I1.kIn, ?_⟩) hs (by rfl)
  obtain ⟨f, c', ld, hld, hv, hf, hc, ht⟩ := q
  subst hv
  cases r with
  | cons r1 r2 =>
    cases r2
    obtain rfl := r1
    exact told_run hY T hr hL I1 (hC _ _ _ _ I1) hld rfl hf hc ht
end LM

set_option Elab.async false
set_option linter.all false
set_option maxRecDepth 100000
set_option maxHeartbeats 4000000
namespace LM
open PySem PySem.Spec PyProof.Rows L2
/-- a block of X that starts at t with what its def knew there -/
structure Blk (X : Cx) (σ0 : L2.St) (t : Shared) (H : Hp) (fp : List Addr) : Prop where
  ex : ∃ pins, Inv X pins σ0 H t ∧ ∀ b ∈ fp, FpOk X pins H b
/-- in a block the def's cells are known -/
theorem Blk.cells {X : Cx} {σ0 σ : L2.St} {t s : Shared} {H H' : Hp} {fp : List Addr} {scope : Scope} {ce : PySem.Env} {pins : List (Addr × Obj)} (B : Blk X σ0 t H fp) (I : Inv (X.blk t H scope ce fp) pins σ H' s) : Cells X σ0 s.heap H' := by
  obtain ⟨ps, I0, hf⟩ := B.ex
  refine (Cells.of I0).un (fs := frs X.stack) (ex := fp) I.base fun y c e hc => ?_
  exact (hf c hc).2.2.2.2.1 y c e rfl
section
variable {X : Cx} {pins : List (Addr × Obj)} {σ : L2.St} {Q : VK} {elt tg iter : Expr} {ifs : List Expr} {scope : Scope} {vs : List Nat} {pos : Pos} {g : TG} {tt : TT} {te : TE} {Qf : Value → Shared → Prop} {H3 : Hp} {t3 t4 : Shared} {ce : PySem.Env} {fp : List Addr} {tn : Nat → Heap → Prop} {J : It} {it D : Addr} {W : Nat → Nat → Hp → Prop} {m0 : Nat}
/-- the block's loop -/
theorem lc_loop (hc : X.calm = true) (I3 : Inv X pins σ H3 t3) (f3 : ∀ b ∈ fp, FpOk X pins H3 b) (T : Turn X.prog X.w X.K tg J fp it tn) (I4 : Inv (X.blk t3 H3 scope ce fp) [] (wipe σ vs) H3 t4) (st4 : tn 0 t4.heap) (cL : ce.locals = t3.heap.objs.size)
    (pg : PG (X.blk t3 H3 scope ce fp) tg g) (pt : PTs (X.blk t3 H3 scope ce fp) ifs tt) (pe : PE (X.blk t3 H3 scope ce fp) elt te) (w0 : W 0 m0 H3)
    (turn : ∀ i m H, W i m H → (J.stop i H ∧ Q (.ref D) H) ∨ (J.go i H ∧ ∃ Nx : Hp → Prop, (∀ H', Nx H' → ∃ m', m' < m ∧ W (i + 1) m' H') ∧ ∀ x H', J.yld i H x H' → g x (wipe σ vs) H' fun σ2 H2 => wipe σ2 vs = wipe σ vs ∧ tt σ2 H2 fun b H3 =>
      if b = true then te σ2 H3 fun y H4 => ∃ acc, H4 D = some (.lst acc) ∧ acc.length < sizeLine ∧ Nx (upd H4 D (.lst (acc ++ [y]))) else Nx H3))
    (fin : ∀ C s' m H', Inv X pins σ H' s' → Q (.ref D) H' → s'.heap.Ns C m → FpOk X pins H' C → C = t3.heap.objs.size → compPost (model X.prog X.w) X.A X.xe none Qf (.ref D) C (.ok .next) s') :
    codeAny (model X.prog X.w) X.A (.compLoop (.ListComp elt [⟨tg, iter, ifs, 0⟩] scope pos) 0 (.ref it) (.ref D) ce) (compPost (model X.prog X.w) X.A X.xe none Qf (.ref D) t3.heap.objs.size) t4 := by
  obtain ⟨Y, hY⟩ : ∃ Y, Y = X.blk t3 H3 scope ce fp := ⟨_, rfl⟩
  have own : ∀ {σ' : L2.St} {H' : Hp} {s' : Shared}, Inv (X.blk t3 H3 scope ce fp) [] σ' H' s' → (∀ b ∈ fp, H' b = none) → ∀ b ∈ fp, FpOk (X.blk t3 H3 scope ce fp) [] H' b := fun {σ' H' s'} K n b hb => by
    have e := K.ok.exf b hb
    exact ⟨n b hb, e.1, K.ok.exfs b hb, .inl hb, fun x c z => e.2 x c z, fun p hp => by cases hp⟩
  refine compLoop_any (fun n s' => ∃ i H', Inv (X.blk t3 H3 scope ce fp) [] (wipe σ vs) H' s' ∧ tn i s'.heap ∧ (∀ b ∈ fp, H' b = none) ∧ W i n H') (fun n s5 hh => ?_) m0 ⟨0, H3, I4, st4, fun b hb => (f3 b hb).1, w0⟩
  obtain ⟨i, H5, I5, st5, n5, w5⟩ := hh
  rcases turn i n H5 w5 with ⟨stop, qq⟩ | ⟨go, Nx, hNx, step⟩
  · refine thnF (T.done (X.blk t3 H3 scope ce fp) rfl rfl rfl hc i [] s5 _ H5 (fun _ _ => False) I5 (own I5 n5) st5 stop) fun r s6 hr => ?_
    obtain ⟨rfl, I6⟩ := hr
    have back : Inv X pins σ H5 s6 := I3.call' (ch := fp) I6.os I6.base I6.hok I6.bare fun b hb => by
      obtain ⟨_, a2, _, a4, a5, a6⟩ := f3 b hb
      exact ⟨a4, a2, a5, a6⟩
    obtain ⟨m, hn, _⟩ := I6.loc
    have hn : s6.heap.Ns ce.locals m := hn
    have nC : H5 ce.locals = none := I6.free
    rw [cL] at hn nC
    exact fin _ s6 m H5 back qq hn (I3.fpOk (Nat.le_refl _) nC) rfl
  · refine thnF (T.item (X.blk t3 H3 scope ce fp) rfl rfl rfl hc i [] s5 _ H5 (fun _ _ => False) I5 (own I5 n5) st5 go) fun r s6 hr => ?_
    obtain ⟨u, rfl, h6⟩ := hr
    refine thnF h6 fun _ s7 h7 => ?_
    obtain ⟨x, H7, I7, r7, y7, st7, n7⟩ := h7
    refine thnF (pg.run _ s7 _ H7 x u _ (I7.pinned (own I7 n7) (T.obj _ _ st7)) r7 (step x H7 y7)) fun _ s8 h8 => ?_
    obtain ⟨σ8, H8, I8, hw, q8⟩ := h8
    have len : (wipe σ vs).length = σ8.length := by rw [← hw, wipe_length]
    -- a turn's end
    have next : ∀ {s' : Shared} {H' : Hp}, Inv (X.blk t3 H3 scope ce fp) ([] ++ pinsAt fp s7.heap) σ8 H' s' → Nx H' → ∃ m, m < n ∧ ∃ i H', Inv (X.blk t3 H3 scope ce fp) [] (wipe σ vs) H' s' ∧ tn i s'.heap ∧ (∀ b ∈ fp, H' b = none) ∧ W i m H' := fun {s' H'} K nx => by
      obtain ⟨m', lt, w'⟩ := hNx H' nx
      have stay : ∀ b ∈ fp, ∀ o, s7.heap.get? b = some o → s'.heap.get? b = some o ∧ H' b = none := fun b hb o e => by
        have z := K.pin (b, o) (by simp only [List.mem_append]; exact .inr (.inr (mem_pinsAt hb e)))
        exact ⟨z.1, z.2.1⟩
      refine ⟨m', lt, i + 1, H', (K.unpinned (pins := [])).weak len fun j v e => ?_, T.keep _ _ _ st7 fun b hb o e => (stay b hb o e).1, fun b hb => ?_, w'⟩
      · rw [← hw] at e
        exact (wipe_some e).1
      · obtain ⟨o, e, _⟩ := T.obj _ _ st7 b hb
        exact (stay b hb o e).2
    refine thnF (pt.run _ s8 σ8 H8 _ I8 q8) fun b s9 h9 => ?_
    obtain ⟨H9, I9, q9⟩ := h9
    cases b with
    | false => exact next I9 q9
    | true =>
      refine thnF (pe.run _ s9 σ8 H9 _ I9 q9) fun z s10 h10 => ?_
      obtain ⟨yv, H10, I10, r10, acc, hD, hz, nx⟩ := h10
      exact app_ok (X := X.blk t3 H3 scope ce fp) I10 hD hz r10 fun s11 I11 => next I11 nx
end
/-- a list comprehension whose turns may lean on what the def knew at its start -/
theorem pe_lcK {X : Cx} {elt tg iter : Expr} {ifs : List Expr} {scope : Scope} {own : List (Str × Nat)} {pos : Pos} {wi : TI} {g : TG} {tt : L2.St → TT} {te : L2.St → TE} (hc : X.calm = true) (hN : X.N.Nodup) (hi : PI X tg iter wi) (ok : BlkOk X.N X.env.scope scope own)
    (hg : ∀ (t : Shared) (H : Hp) (C : Addr) (cl : List (Str × Addr)) (fp : List Addr), PG (X.blk t H scope (compEnvC scope cl C X.env) fp) tg g)
    (ht : ∀ (σ : L2.St) (t : Shared) (H : Hp) (C : Addr) (cl : List (Str × Addr)) (fp : List Addr), Blk X σ t H fp → PTs (X.blk t H scope (compEnvC scope cl C X.env) fp) ifs (tt σ))
    (he : ∀ (σ : L2.St) (t : Shared) (H : Hp) (C : Addr) (cl : List (Str × Addr)) (fp : List Addr), Blk X σ t H fp → PE (X.blk t H scope (compEnvC scope cl C X.env) fp) elt (te σ)) (hs : ∀ x, foldedSetIterable iter X.env x = pure x := by intro _; rfl) :
    PE X (.ListComp elt [⟨tg, iter, ifs, 0⟩] scope pos) (fun σ H Q => tLc wi g (tt σ) (te σ) (own.map (·.2)) σ H Q) := by
  refine ⟨fun pins s σ H Q I h => ?_⟩
  rw [eval_ListComp]
  have has : ∀ y ∈ scope.names, y.2 = .free → ∃ c, X.env.cells.lookup y.1 = some c := fun y hy e => (ok.free y hy e).elim (fun k => I.ok.has _ (.inl k)) fun k => I.ok.has _ (.inr k)
  refine wpAny_comprehension_free (use := none) rfl hs (closure_ok has) ok.kind (fun y hy e => by rw [ok.uniq y hy, e]) (thn (hi.run pins s σ H _ I h) fun _ _ a => thn a fun _ s2 b => ?_)
  obtain ⟨it, fp, tn, J, H2, rfl, I2, T, st2, f2, q⟩ := b
  refine wpAny_newObj_type (newEnv_comp ?_) (Nat.zero_le _)
  have nD : H2 s2.heap.objs.size = none := I2.hok.fresh (Nat.le_refl _)
  obtain ⟨W, ⟨m0, w0⟩, turn⟩ := q _ nD
  have I3 : Inv X pins σ (upd H2 s2.heap.objs.size (.lst [])) { s2 with heap := s2.heap.push { cls := .type "list", data := .seq ([] : List Value).toArray } } :=
    I2.laid (t' := s2.toks) (fun b o e => Heap.get?_push_of_some _ e) (Nat.le_refl _) ⟨Nat.zero_le _, [], 0, .nil, Heap.get?_push_size _ rfl⟩
  have small : ∀ b ∈ fp, b < s2.heap.objs.size := fun b hb => let ⟨o, e, _⟩ := T.obj _ _ st2 b hb; Heap.lt_size e
  have f3 : ∀ b ∈ fp, FpOk X pins (upd H2 s2.heap.objs.size (.lst [])) b := fun b hb => ⟨by rw [upd_ne (Nat.ne_of_lt (small b hb))]; exact (f2 b hb).1, (f2 b hb).2⟩
  have z3 : ∀ b ∈ fp, b < (s2.heap.push { cls := .type "list", data := .seq ([] : List Value).toArray }).objs.size := fun b hb => by
    rw [Heap.size_push]
    exact Nat.lt_succ_of_lt (small b hb)
  have B : Blk X σ _ _ fp := ⟨pins, I3, f3⟩
  have st4 : tn 0 (pushCells ((s2.heap.push { cls := .type "list", data := .seq ([] : List Value).toArray }).push { cls := .type "dict", data := .dict #[] }) scope.names) :=
    T.keep _ _ _ st2 fun b _ o e => pushCells_keeps _ _ _ _ (Heap.get?_push_of_some _ (Heap.get?_push_of_some _ e))
  have loop := lc_loop (iter := iter) (Q := Q) (it := it) (D := s2.heap.objs.size) (pos := pos) (Qf := EP X pins σ Q) hc I3 f3 T (block_start I3 ok hN fun b hb => ⟨f3 b hb, z3 b hb⟩) st4 rfl (hg _ _ _ _ fp) (ht σ _ _ _ _ fp B) (he σ _ _ _ _ fp B) w0 turn fun C s' m H' I' q hn f _ => ⟨m, hn, fun h'' sb => by
    obtain ⟨f0, f1, f2, f3, f4, f5⟩ := f
    exact ⟨.ref s2.heap.objs.size, H', I'.turned (t' := s'.toks) (fun b o hb e => (sb.2 b hb).trans e) f0 f1 f3 f4 f5, rfl, q⟩⟩
  exact codeAny_compStart_list loop (T.self X.A 0 _ _ _ st4 loop)
end LM

set_option Elab.async false
set_option linter.all false
set_option maxRecDepth 100000
set_option maxHeartbeats 4000000
namespace LM
open PySem PySem.Spec PyProof.Rows L2 TP
open LamX (CodeO TabS TabB LamS lamEnv lamCx)
/-! ### the text by places -/
def stAt (ss : List Stmt) (i : Nat) : Stmt := ss.getD i (.Pass ⟨0, 0, 0, 0⟩)
def forBody : Stmt → List Stmt
  | .For _ _ b _ _ => b
  | _ => []
def ifBody : Stmt → List Stmt
  | .If _ b _ _ => b
  | _ => []
def valOf : Stmt → Expr
  | .Assign _ e _ => e
  | .Return (some e) _ => e
  | .Expr e _ => e
  | .If c _ _ _ => c
  | _ => .Constant .none 0 ⟨0, 0, 0, 0⟩
def eltAt : Expr → Nat → Expr
  | .List es _, i => es.getD i (.Constant .none 0 ⟨0, 0, 0, 0⟩)
  | .Call _ es _ _, i => es.getD i (.Constant .none 0 ⟨0, 0, 0, 0⟩)
  | .Compare a _ bs _, i => (a :: bs).getD i (.Constant .none 0 ⟨0, 0, 0, 0⟩)
  | .BoolOp _ es _, i => es.getD i (.Constant .none 0 ⟨0, 0, 0, 0⟩)
  | _, _ => .Constant .none 0 ⟨0, 0, 0, 0⟩
def lamD (e : Expr) (t : XK → TE) : LamD := match e with
  | .Lambda ps b sc _ => ⟨ps, b, sc, t⟩
  | _ => ⟨⟨[], [], none, [], [], none, []⟩, .Constant .none 0 ⟨0, 0, 0, 0⟩, ⟨.function, [], false, false, []⟩, t⟩
/-! ### what stands -/
/-- the table of the lambdas' codes, one's own, beside a value -/
def oTab (P : Addr) (q : Str) (v : V) : Ow := ⟨fun h H ps u => u = v ∧ ps = [P] ∧ ∃ tb : Array Value, H P = some (.tbl tb) ∧ TriplesOk tb.toList ∧ ∀ pos cv, codeAmong pos tb.toList = some cv → ∃ c, cv = .ref c ∧ h c = some (CodeO c q), fun k e ⟨e1, e2, tb, e3, e4, e5⟩ =>
  ⟨e1, e2, tb, by rw [e P (by rw [e2]; exact List.mem_singleton.mpr rfl)]; exact e3, e4, fun pos cv z => by
    obtain ⟨c, a, b⟩ := e5 pos cv z
    exact ⟨c, a, k _ _ b⟩⟩⟩
/-- the n-th of these lambdas -/
def rFn (q : Str) (cells : List (Str × Addr)) (Ls : List LamD) : Rp Nat := ⟨fun h v n => ∃ ld f c', Ls[n]? = some ld ∧ v = .ref f ∧ h f = some (FnO f q ld.ps ld.b ld.sc (cloFrom cells ld.sc.names []) c') ∧ h c' = some (CodeO c' q), fun k ⟨ld, f, c', a, b, c, d⟩ => ⟨ld, f, c', a, b, k _ _ c, k _ _ d⟩⟩
section
variable {G M own : List Addr} {H H' : Hp} {σ : L2.St} {Γ Γ' Γ1 Γ2 : TP.Ctx} {α : Type} {R : Rp α} {a : α} {K : PySem.W.Frag} {q ret : Str} {cells : List (Str × Addr)} {Ls : List LamD} {P CS : Addr} {te : TE} {n : Nat} {ld : LamD}
theorem e_lamV {i : Nat} {v : V} {ps : Arguments} {bd : Expr} {sc : Scope} {t : XK → TE} (hx : Γ[i]? = some (.own (oTab P q v))) (hn : Ls[n]? = some ⟨ps, bd, sc, t⟩) : TP.E G Γ (tLamV P q ps bd sc (cloFrom cells sc.names [])) Γ (rFn q cells Ls) n := fun M own σ H k e Q hQ => by
  obtain ⟨u, p1, pi, p2, f⟩ := e.env.focus hx
  obtain ⟨rfl, rfl, tb, hP, ht, hco⟩ := f.own
  have hPo : P ∈ own := f.inn.1 P (List.mem_singleton.mpr rfl)
  have hPM := e.sub P hPo
  have hPG := e.out P hPo
  refine ⟨⟨tb, hP, ht, fun pos cv z => ?_⟩, fun H1 fa c' hbut hnext hf hc => ?_⟩
  · obtain ⟨c, a, b⟩ := hco pos cv z
    exact ⟨c, a, (hid_some b).2⟩
  obtain ⟨tb0, tb1, t1, t2, t3, t4, t5⟩ := hnext
  rw [hP] at t1
  cases t1
  obtain ⟨H2, hH2⟩ : ∃ H2, H2 = upd H1 fa (FnO fa q ps bd sc (cloFrom cells sc.names []) c') := ⟨_, rfl⟩
  rw [← hH2]
  have keep : ∀ b o, b ≠ P → H b = some o → H2 b = some o := fun b o hb e => by
    rw [hH2, upd_ne (ne_of_none (hbut b o hb e) hf)]; exact hbut b o hb e
  have hfP : P ≠ fa := ne_of_none t2 hf
  have atP : H2 P = some (.tbl tb1) := by rw [hH2, upd_ne hfP]; exact t2
  have hfM : fa ∉ M := fun z => by
    by_cases w : fa = P
    · exact hfP w.symm
    · cases e : H fa with
      | none => exact k.al fa z e
      | some o => rw [hbut fa o w e] at hf; cases hf
  have hcM : c' ∉ M := fun z => by
    rcases t5 with w | ⟨p', w⟩
    · exact k.al c' z w
    · obtain ⟨c, a, b⟩ := hco p' _ w
      cases a
      exact (hid_some b).1 z
  have hcf : c' ≠ fa := fun z => by rw [z, hf] at hc; cases hc
  have atc : H2 c' = some (CodeO c' q) := by rw [hH2, upd_ne hcf]; exact hc
  have sub : Sub (hid M H) (hid M H2) := fun b o hb => by
    obtain ⟨w1, w2⟩ := hid_some hb
    exact hid_of w1 (keep b o (fun z => w1 (by rw [z]; exact hPM)) w2)
  have ok : Ok G M H2 := by
    refine ⟨k.sub, fun m hm z => ?_, fun P' hP' => ?_⟩
    · by_cases w : m = P
      · rw [w, atP] at z; cases z
      · cases e : H m with
        | none => exact k.al m hm e
        | some o => rw [keep m o w e] at z; cases z
    · obtain ⟨ps', a, b⟩ := k.wf P' hP'
      exact ⟨ps', keep P' _ (fun z => hPG (by rw [← z]; exact hP')) a, b⟩
  refine hQ _ H2 (fun b o hb eb => keep b o (fun z => hb (by rw [z]; exact List.mem_append_right _ hPo)) eb) ok ⟨e.nd, e.sub, e.out, ?_⟩ ⟨_, fa, c', hn, rfl, hid_of hfM (by rw [hH2, upd_same]), hid_of hcM atc⟩
  have hi : i < Γ.length := (List.getElem?_eq_some_iff.mp hx).1
  have put := f.put (hid M H2) H2 (oTab P q u) sub (fun p hp => by
    have hpo := f.inn.2 p hp
    obtain ⟨o, ho⟩ := e.al k hpo
    rw [ho]
    exact keep p o (fun z => f.apart e.nd p hp (by rw [z]; exact List.mem_singleton.mpr rfl)) ho) ⟨rfl, rfl, tb1, atP, t3, fun pos cv z => by
      rcases t4 pos cv z with ⟨p', w⟩ | w
      · obtain ⟨c, a, b⟩ := hco p' cv w
        exact ⟨c, a, sub _ _ b⟩
      · exact ⟨c', w, hid_of hcM atc⟩⟩
  have eΓ : Γ.set i (.own (oTab P q u)) = Γ := by
    apply List.ext_getElem?
    intro j
    rw [List.getElem?_set]
    by_cases hj : i = j
    · subst hj; rw [if_pos rfl, if_pos hi, hx]
    · rw [if_neg hj]
  rw [eΓ] at put
  exact put
/-- told(a lambda) that answers -/
theorem e_toldOk (h : TP.E G Γ te Γ1 (rFn q cells Ls) n) (hn : Ls[n]? = some ld) (hb : ∀ W, TP.E G Γ1 (ld.t W) Γ2 R a) : TP.E G Γ (fun σ H Q => tTold K CS ret q cells Ls σ te σ H Q) Γ2 (TP.rSum R rStr) (.inl a) := fun M own σ H k e Q hQ => h M own σ H k e _ fun v H1 x1 k1 e1 r1 => by
  obtain ⟨ld', f, c', h1, rfl, h3, h4⟩ := r1
  rw [hn] at h1
  cases h1
  exact ⟨f, c', ld, List.mem_of_getElem? hn, rfl, (hid_some h3).2, (hid_some h4).2, hb _ M own σ H1 k1 e1 _ fun w H2 x2 k2 e2 r2 => hQ w H2 (x1.trans x2) k2 e2 r2⟩
/-- .. that raises -/
theorem e_toldEr {c : Addr} (h : TP.E G Γ te Γ1 (rFn q cells Ls) n) (hn : Ls[n]? = some ld) (hb : ∀ W, EX G Γ1 (ld.t W) Γ2 W c) (hm : PySem.W.exmOne K (.ref c) (.ref CS) = some true) : TP.E G Γ (fun σ H Q => tTold K CS ret q cells Ls σ te σ H Q) Γ2 (TP.rSum R rStr) (.inr ret) := fun M own σ H k e Q hQ => h M own σ H k e _ fun v H1 x1 k1 e1 r1 => by
  obtain ⟨ld', f, c', h1, rfl, h3, h4⟩ := r1
  rw [hn] at h1
  cases h1
  exact ⟨f, c', ld, List.mem_of_getElem? hn, rfl, (hid_some h3).2, (hid_some h4).2, hb _ M own σ H1 k1 e1 _ fun H2 x2 k2 e2 => ⟨true, hm, fun _ => hQ _ H2 (x1.trans x2) k2 e2 rfl, fun z => by cases z⟩⟩
/-- [1 for f in bad if told(f) != ret], each of them raises -/
theorem e_bads {i j : Nat} {ns : List Nat} (hi : Γ[i]? = some (.val (TP.rList (rFn q cells Ls)) ns)) (hj : NoAt Γ j) (hjl : j < Γ.length) (hl : ns.length ≤ 100000) (hall : ∀ n ∈ ns, ∃ ld c, Ls[n]? = some ld ∧ (∀ W, EX G Γ (ld.t W) Γ W c) ∧ PySem.W.exmOne K (.ref c) (.ref CS) = some true) :
    TP.E G Γ (fun σ H Q => tLc (iList K (tVar i)) (gName j) (tTest (tOp rNe (fun σ2 H Q => tTold K CS ret q cells Ls σ (tVar j) σ2 H Q) (tC (.str ret)))) (tC (.int 1)) [j] σ H Q) Γ (TP.rList rInt) [] := fun M own σ H k e Q hQ => by
  have ES := src_list (K := K) (e_var (G := G) hi)
  refine ES M own σ H k e _ fun J H1 gp x1 k1 e1 w1 g1 D hD => ?_
  obtain ⟨Gd, Y, wk, hG, hY⟩ := w1.ex
  have hM := k1.fresh hD
  have hDG : D ∉ G := fun z => by
    obtain ⟨ps, e', _⟩ := k1.wf D z
    rw [hD] at e'; cases e'
  have hDo : D ∉ G ++ own := fun z => (List.mem_append.mp z).elim hDG fun z => hM (e1.sub D z)
  refine lc_it wk (fun _ H => H D = some (.lst []) ∧ Ok G (D :: M) H ∧ TP.Env G (D :: M) H own σ Γ ∧ gp.p (hid (D :: M) H) ∧ Ex (G ++ own) H1 H) ⟨upd_same, k1.grow hD, e1.grow k1 hD, gp.mono (hid_grow hD) g1, Ex.new hD⟩ (fun _ H _ ⟨_, _, _, g, _⟩ => hG _ _ hid_sub g) ?_ ?_
  · rintro m x H2 H3 hm ⟨hacc, k2, e2, g2, x2⟩ hy
    obtain ⟨x3, k3, n, hn, rx⟩ := hY m x (D :: M) H2 H3 hm k2 g2 hy
    have e3 := e2.ext k2 x3
    obtain ⟨ld, c, h1, h2, h3⟩ := hall n (List.mem_of_getElem? hn)
    obtain ⟨ld', f, c', h1', rfl, hf, hc⟩ := rx
    rw [h1] at h1'
    cases h1'
    refine ⟨?_, ?_⟩
    · show wipe ((wipe σ [j]).set j (some (.ref f))) [j] = wipe σ [j]
      simp [wipe]
    · show tTest _ ((wipe σ [j]).set j (some (.ref f))) H3 _
      have hlen := e3.env.length
      have hjl : j < σ.length := by rw [hlen]; exact hjl
      have at_ : ((wipe σ [j]).set j (some (V.ref f)))[j]? = some (some (.ref f)) := by
        simp [wipe, hjl]
      refine ⟨.ref f, at_, f, c', ld, List.mem_of_getElem? h1, rfl, (hid_some hf).2, (hid_some hc).2, ?_⟩
      refine h2 _ (D :: M) own σ H3 k3 e3 _ fun H4 x4 k4 e4 => ⟨true, h3, fun _ => ?_, fun z => by cases z⟩
      refine ⟨rfl, false, by simp, ?_⟩
      show H4 D = some (.lst []) ∧ Ok G (D :: M) H4 ∧ TP.Env G (D :: M) H4 own σ Γ ∧ gp.p (hid (D :: M) H4) ∧ Ex (G ++ own) H1 H4
      have xx : Ex (G ++ own) H2 H4 := (x3.more fun b hb => List.mem_append_left _ hb).trans x4
      exact ⟨xx D _ hDo hacc, k4, e4, gp.mono (xx.hid (e2.allSub k2)) g2, x2.trans xx⟩
  · rintro H2 ⟨hacc, k2, e2, g2, x2⟩
    have sub : Sub (hid (D :: M) H2) (hid M H2) := hid_less fun b hb => List.mem_cons_of_mem _ hb
    have e2' : TP.Env G M H2 own σ Γ := ⟨e2.nd, fun p hp => (List.mem_cons.mp (e2.sub p hp)).elim (fun z => (hDo (by rw [← z]; exact List.mem_append_right _ hp)).elim) id, e2.out, e2.env.mono sub fun _ _ => rfl⟩
    exact hQ _ H2 (x1.trans x2) ⟨k1.sub, fun m hm => k2.al m (List.mem_cons_of_mem _ hm), k2.wf⟩ e2' ⟨D, [], rfl, hid_of hM hacc, .nil⟩
end
end LM

set_option Elab.async false
set_option linter.all false
set_option maxRecDepth 100000
set_option maxHeartbeats 4000000
namespace TP
open PySem PySem.Spec PyProof.Rows L2
section
variable {F : Fm} {gp : Gp} {G M own : List Addr} {H H' : Hp} {σ : L2.St} {Γ Γ' Γ0 Γ1 Γ2 Γ3 : Ctx} {ι α β γ : Type} {R : Rp α} {S : Rp β} {a : α} {b : β} {te ta tb : TE} {tt : TT} {t tr : TA} {D : Ends} {K : PySem.W.Frag} {g : TG} {wi : TI} {ws : List Nat} {xs : List α}
theorem e_pow {i j : Int} (ha : E G Γ ta Γ1 rInt i) (hb : E G Γ1 tb Γ2 rInt j) (hc : CPow i j) : E G Γ (tOp (rI CPow fun i j => .int (i ^ j.toNat)) ta tb) Γ2 rInt (i ^ j.toNat) := e_op ha hb (op_I (f := fun i j => i ^ j.toNat) hc fun _ => rfl)
/-- a list that may also be known, or frozen -/
def rSeq (K : PySem.W.Frag) (R : Rp α) : Rp (List α) := ⟨fun H v xs => ∃ p vs, v = .ref p ∧ SqL K H p vs ∧ All2 (R.rep H) vs xs, fun k ⟨p, vs, e, h, r⟩ => ⟨p, vs, e, by
  rcases h with (h | ⟨o, h⟩) | h
  · exact .inl (.inl (k _ _ h))
  · exact .inl (.inr ⟨o, k _ _ h⟩)
  · exact .inr h, r.imp fun _ _ => R.mono k⟩⟩
theorem sqL_sub {H H' : Hp} {p : Addr} {vs : List V} (k : Sub H H') (h : SqL K H p vs) : SqL K H' p vs := by
  rcases h with (h | ⟨o, h⟩) | h
  · exact .inl (.inl (k _ _ h))
  · exact .inl (.inr ⟨o, k _ _ h⟩)
  · exact .inr h
theorem All2.drop {F : α → β → Prop} : ∀ {as : List α} {bs : List β} (n : Nat), All2 F as bs → All2 F (as.drop n) (bs.drop n)
  | _, _, 0, h => h
  | _, _, n + 1, .nil => .nil
  | _, _, n + 1, .cons _ r => All2.drop n r
theorem All2.take {F : α → β → Prop} : ∀ {as : List α} {bs : List β} (n : Nat), All2 F as bs → All2 F (as.take n) (bs.take n)
  | _, _, 0, _ => .nil
  | _, _, n + 1, .nil => .nil
  | _, _, n + 1, .cons a r => .cons a (All2.take n r)
/-- xs[:n], 0 ≤ n -/
theorem e_take {n : Int} (ha : E G Γ ta Γ1 (rSeq K R) xs) (hb : E G Γ1 tb Γ2 rInt n) (hn : 0 ≤ n) : E G Γ (tSl (rSlL K) ta tNoPart (tPart tb)) Γ2 (rList R) (xs.take n.toNat) := fun M own σ H k e Q q => ha M own σ H k e _ fun v H1 x1 k1 e1 r1 => hb M own σ H1 k1 e1 _ fun u H2 x2 k2 e2 r2 => by
  have r1 := (rSeq K R).mono (x2.hid (e1.allSub k1)) r1
  obtain ⟨p, vs, rfl, hq, r⟩ := r1
  have r2 : u = V.int n := r2
  subst r2
  refine ⟨n, rfl, p, vs, rfl, sqL_sub hid_sub hq, fun l hl => ?_⟩
  have hM := k2.fresh hl
  have e3 : cutV vs none (some n) = vs.take n.toNat := by
    unfold cutV
    have h1 : HT.sIx vs.length 0 none = 0 := rfl
    have h2 : HT.sIx vs.length vs.length (some n) = min n.toNat vs.length := by
      unfold HT.sIx
      dsimp only
      split <;> omega
    rw [h1, h2, List.drop_zero, Nat.sub_zero]
    by_cases hle : n.toNat ≤ vs.length
    · rw [Nat.min_eq_left hle]
    · rw [Nat.min_eq_right (by omega), List.take_length, List.take_of_length_le (by omega)]
  rw [e3]
  exact q _ _ ((x1.trans x2).trans (Ex.new hl)) (k2.new hl) (e2.ext k2 (Ex.new hl)) ⟨l, _, rfl, hid_of hM upd_same, (r.take _).imp fun _ _ => R.mono (hid_new hM hl)⟩
end
end TP

set_option Elab.async false
set_option linter.all false
set_option maxRecDepth 100000
set_option maxHeartbeats 4000000
namespace TP
open PySem PySem.Spec PyProof.Rows L2
section
variable {F : Fm} {gp : Gp} {G M own : List Addr} {H H' : Hp} {σ : L2.St} {Γ Γ' Γ0 Γ1 Γ2 Γ3 : Ctx} {ι α β γ δ Dt : Type} {R : Rp α} {S : Rp β} {a : α} {b : β} {te ta tb : TE} {tt : TT} {t tr : TA} {D : Ends} {K : PySem.W.Frag} {g : TG} {wi : TI} {vs ws : List Nat} {xs : List α}
/-- a, b = .. -/
theorem s_par {i j : Nat} (h : EA F.G Γ t Γ1 [⟨R, a⟩, ⟨S, b⟩]) (hi : PlainAt Γ1 i) (hj : PlainAt (Γ1.set i (.val R a)) j) (k : KT F gp ((Γ1.set i (.val R a)).set j (.val S b)) D.nx) : KT F gp Γ (tPar i j t D) := fun M own σ H s e gg => h M own σ H s.ok e _ fun vs H1 x1 k1 e1 r1 => by
  cases r1 with
  | cons ha r => cases r with
    | cons hb r =>
      cases r
      refine ⟨_, _, rfl, k M own _ H1 (s.step x1 k1) ⟨e1.nd, e1.sub, e1.out, ?_⟩ (gp_step s e x1 gg)⟩
      exact (e1.env.set (R := R) ha hi).set (R := S) hb hj
/-- (x,) + three ints -/
theorem e_cat1 {ys : List Int} (ha : EA G Γ t Γ1 [⟨R, a⟩]) (hb : E G Γ1 tb Γ2 (rTup rInt) ys) (hl : ys.length = 3) : E G Γ (tOp (rCatT K) (tTup t) tb) Γ2 (rT4 R rInt rInt rInt) (a, ys.getD 0 0, ys.getD 1 0, ys.getD 2 0) := fun M own σ H k e Q q => ha M own σ H k e _ fun us H1 x1 k1 e1 r1 => by
  cases r1 with
  | @cons u _ _ _ r1 r =>
    cases r
    refine ⟨small_len (by simp), fun p hp => ?_⟩
    have hM := k1.fresh hp
    have x2 : Ex (G ++ own) H1 (upd H1 p (.tup [u])) := Ex.new hp
    refine hb M own σ _ (k1.new hp) (e1.ext k1 (Ex.new hp)) _ fun w H3 x3 k3 e3 r3 => ?_
    obtain ⟨p', vs, rfl, hv, rr⟩ := r3
    match ys, hl, vs, rr with
    | [y0, y1, y2], _, _, .cons r0 (.cons r1' (.cons r2 .nil)) =>
      have e2 := e1.ext k1 (Ex.new (N := G) (o := .tup [u]) hp)
      have k2 := k1.new (o := .tup [u]) hp
      have hp3 := x3.hid (e2.allSub k2) _ _ (hid_of hM upd_same)
      refine ⟨p, p', _, _, rfl, rfl, SqT.of (hid_some hp3).2, SqT.of (hid_some hv).2, by simp, small_len (by simp), (fun z => by simp at z), fun _ l hl => ?_⟩
      have hM3 := k3.fresh hl
      refine q _ _ (((x1.trans x2).trans x3).trans (Ex.new hl)) (k3.new hl) (e3.ext k3 (Ex.new hl)) ⟨l, _, _, _, _, rfl, hid_of hM3 upd_same, ?_, ?_, ?_, ?_⟩
      · exact R.mono (((hid_new hM hp).trans (x3.hid (e2.allSub k2))).trans (hid_new hM3 hl)) r1
      · exact r0
      · exact r1'
      · exact r2
def datT4 {T : Rp γ} {U : Rp δ} [DecidableEq α] [DecidableEq β] [DecidableEq γ] [DecidableEq δ] (D1 : Dat R) (D2 : Dat S) (D3 : Dat T) (D4 : Dat U) : Dat (rT4 R S T U) := ⟨fun x => .tuple [D1.d x.1, D2.d x.2.1, D3.d x.2.2.1, D4.d x.2.2.2], fun x => D1.ok x.1 ∧ D2.ok x.2.1 ∧ D3.ok x.2.2.1 ∧ D4.ok x.2.2.2, max D1.n (max D2.n (max D3.n D4.n)) + 1, fun K h H v x ⟨p, a, b, c, d, e, hp, ra, rb, rc, rd⟩ s => by subst e; exact .tup (SqT.of (s _ _ hp)) (.cons (D1.dp K _ _ _ _ ra s) (.cons (D2.dp K _ _ _ _ rb s) (.cons (D3.dp K _ _ _ _ rc s) (.cons (D4.dp K _ _ _ _ rd s) .nil)))), fun a b => by
  show (PyData.eqv _ _ && (PyData.eqv _ _ && (PyData.eqv _ _ && (PyData.eqv _ _ && true)))) = _
  obtain ⟨a1, a2, a3, a4⟩ := a
  obtain ⟨b1, b2, b3, b4⟩ := b
  rw [D1.eq, D2.eq, D3.eq, D4.eq, Bool.eq_iff_iff]; simp, fun x h => by
  obtain ⟨h1, h2⟩ := D1.lay _ h.1
  obtain ⟨h3, h4⟩ := D2.lay _ h.2.1
  obtain ⟨h5, h6⟩ := D3.lay _ h.2.2.1
  obtain ⟨h7, h8⟩ := D4.lay _ h.2.2.2
  refine ⟨by show (_ && (_ && (_ && (_ && true)))) = true; rw [h1, h3, h5, h7]; rfl, ?_⟩
  show max _ (max _ (max _ (max _ 0))) + 1 ≤ _
  omega⟩
/-- what a comprehension's turns answer, a step after a step -/
def seqV (st : Dt → α → Dt) (v : Dt → α → β) : Dt → List α → List β
  | _, [] => []
  | d, x :: r => v d x :: seqV st v (st d x) r
theorem runS_seq {st : Dt → α → Dt} {v : Dt → α → β} : ∀ {d : Dt} {xs : List α}, runS (fun d x => (st d x, some (v d x))) d xs = (xs.foldl st d, seqV st v d xs)
  | _, [] => rfl
  | d, x :: r => by
    show ((runS _ (st d x) r).1, [v d x] ++ (runS _ (st d x) r).2) = _
    rw [runS_seq]
    rfl
theorem seqV_len {st : Dt → α → Dt} {v : Dt → α → β} : ∀ {d : Dt} {xs : List α}, (seqV st v d xs).length = xs.length
  | _, [] => rfl
  | d, x :: r => congrArg (· + 1) (seqV_len (d := st d x) (xs := r))
theorem e_lcR {Γs : Dt → Ctx} {d0 : Dt} {st : Dt → α → Dt} {v : Dt → α → β} {Γx Γy : Dt → α → Ctx} (I : Dt → Prop) (hs : ES G Γ0 wi (Γs d0) R xs) (hl : xs.length ≤ 100000) (h0 : I d0) (hI : ∀ d x, I d → x ∈ xs → I (st d x)) (hn : ∀ d, ∀ i ∈ vs, NoAt (Γs d) i)
    (tg : ∀ d x, I d → x ∈ xs → Tg G g R x (Γs d) (Γx d x) ws) (hw : ∀ i ∈ ws, i ∈ vs) (hp : ∀ d x, ∀ i ∈ vs, PlainAt (Γx d x) i) (he : ∀ d x, I d → x ∈ xs → E G (Γx d x) te (Γy d x) S (v d x)) (hb : ∀ d x, Back (Γy d x) (Γs (st d x)) vs) :
    E G Γ0 (tLc wi g tYes te vs) (Γs (xs.foldl st d0)) (rList S) (seqV st v d0 xs) := by
  have h := e_lcD (tt := tYes) (Γs := Γs) (d0 := d0) (step := fun d x => (st d x, some (v d x))) I hs hl h0 hn fun d x hd hx => ⟨hI d x hd hx, Γx d x, ws, tg d x hd hx, hw, hp d x, t_yes, Γy d x, he d x hd hx, hb d x⟩
  rw [runS_seq] at h
  exact h
end
end TP

set_option Elab.async false
set_option linter.all false
set_option maxRecDepth 100000
set_option maxHeartbeats 4000000
namespace TQ
open PySem PySem.Spec PyProof.Rows PySem.SeqAt
section
variable {M : Model} {prog : Program} {w : World} {A : Around} {E : Value → Shared → Prop} {s : Shared} {K : PySem.W.Frag} {x C dx : Addr} {ox : Obj} {od : Option Obj} {j : Str} {t : Tok}
theorem same_str {R : Bool → Shared → Prop} (h : R false s) : wpAny M A (isSame (.ref x) (.str j t)) R E s := wpAny_of_eq (rfl : isSame (.ref x) (.str j t) = pure false) h
theorem entry_str {Q : Fin → Shared → Prop} (hq : Q (.done (.ret .notImplemented)) s) : wpAny M A (Builtin.«object.__eq__» ⟨[.ref x, .str j t], []⟩) Q E s := by
  unfold Builtin.«object.__eq__»
  repeat (first | with_reducible refine same_str ?_ | wp_step)
  exact hq
theorem objEq_str {Q : Value → Shared → Prop} (X : K.In s.heap) (I : PySem.W.InstAt s.heap x ox C od) (hm : PySem.W.mroIn K C (.type "object") = some true) (hq : Q .notImplemented s) :
    wpAny (model prog w) A (call (.builtin "object.__eq__") [.ref x, .str j t]) Q E s :=
  wpAny_call (codeAny_call_builtin F.cmp_object.eq.plain F.cmpEntry_eq (PySem.W.check_slot F.cmpKind_eq F.cmpSplit_eq (I.type.andThen (PySem.W.looks_mroIn X hm)) (F.cmpArgs_eq _ _) (entry_str hq)))
theorem str_ref (l : Addr) (c : Value) (dd : Option Addr) (sl : Array (Option Value)) :
    Meets (Builtin.«str.__eq__» ⟨[.str j t, .ref l], []⟩) (fun _ R s => s.heap.get? l = some { cls := c, dict := dd, data := .plain, slots := sl } ∧ R (.ok (.ret .notImplemented)) s) :=
  .of_wp fun prog w A R s h => by obtain ⟨hp, g, d, tk, os⟩ := s; obtain ⟨hl, h⟩ := h; wp_walk using wpAny_loadPart' hl, wpAny_load hl; exact ⟨_, rfl, h⟩
theorem sub_str : PySem.W.subIn K (.type "str") (.ref C) = some false := by
  have e : fastBuiltinMro "str" = some [.type "str", .type "object"] := by decide +kernel
  show (fastBuiltinMro "str").map (·.contains (.ref C)) = some false
  rw [e]
  first
    | rfl
    | simp
theorem rc_str (hu : A.units < cLine) (X : K.In s.heap) (I : PySem.W.InstAt s.heap x (PySem.W.instObj C dx) C od) (hm : PySem.W.mroIn K C (.type "object") = some true) (hs : PySem.W.findIn K (.ref C) "__eq__" = some (some (.builtin "object.__eq__"))) :
    RcAt A s (.ref x) (.str j t) false := fun prog w E Q h => by
  have one : wpAny (model prog w) A (tryCompare (.ref x) "__eq__" (.str j t)) (fun r s' => r = none ∧ s' = s) E s := by
    unfold tryCompare
    exact wpAny_bind (HN.ifBound_objEq X I hs (objEq_str X I hm (wpAny_pure ⟨rfl, rfl⟩)))
  have two : wpAny (model prog w) A (tryCompare (.str j t) "__eq__" (.ref x)) (fun r s' => r = none ∧ s' = s) E s :=
    wpAny_tryCompare_declines (typeIs_str s j t) F.slot_str_eq_refl (call_meets F.slot_str_eq_refl (typeIs_str s j t) F.entry_str_eq (F.args_str_eq_2 _ _) (str_ref x _ _ _) ⟨I.at_, rfl, rfl, rfl⟩)
  simp only [richCompare, cmpInfo_Eq, oneThing_ref]
  refine wpAny_holding (wpAny_bind (wpAny_cRoomFor hu ?_))
  refine wpAny_bind (I.type.here ?_)
  refine wpAny_bind (wpAny_typeOf (typeIs_str s j t) ?_)
  split
  · refine wpAny_bind ((PySem.W.looks_subIn X sub_str).here ?_)
    simp only [Bool.false_eq_true, if_false, Bool.not_false, if_true]
    refine wpAny_bind (m := tryCompare (.ref x) _ (.str j t)) (wpAny_mono one (fun r s1 z => ?_) fun _ _ e => e)
    obtain ⟨z1, z2⟩ := z
    subst z1
    subst z2
    refine wpAny_bind (m := tryCompare (.str j t) _ (.ref x)) (wpAny_mono two (fun r s2 z => ?_) fun _ _ e => e)
    obtain ⟨z1, z2⟩ := z
    subst z1
    subst z2
    exact wpAny_bind (wpAny_rule (wpAny_bind (wpAny_of_eq (rfl : isSame (.ref x) (.str j t) = pure false) (wpAny_pure h))))
  · rename_i q
    exact absurd (by simp) q
end
end TQ
namespace TP
open PySem PySem.Spec PyProof.Rows L2
/-! ### this, or a text, == a text -/
def rEqU (K : PySem.W.Frag) : R2 := fun x y H Q => (∃ i j, x = .str i ∧ y = .str j ∧ Q (.bl (decide (i = j))) H) ∨ ∃ a j C dx fs, x = .ref a ∧ y = .str j ∧ H a = some (.ins C dx fs) ∧ PySem.W.mroIn K C (.type "object") = some true ∧ PySem.W.findIn K (.ref C) "__eq__" = some (some (.builtin "object.__eq__")) ∧ Q (.bl false) H
theorem op_eqU {X : Cx} {K : PySem.W.Frag} (hK : X.K = K) (hu : X.A.units < cLine) : OpR X (compareOp .Eq) (rEqU K) := by
  subst hK
  intro pins s σ H x y v u Q I rx ry h
  rcases h with ⟨i, j, rfl, rfl, q⟩ | ⟨a, j, C, dx, fs, rfl, rfl, ha, hm, hs, q⟩
  · exact op_eq pins s σ H _ _ v u Q I rx ry ⟨rfl, by rw [show decide (V.str i = V.str j) = decide (i = j) by simp]; exact q⟩
  · cases rx
    obtain ⟨t, rfl⟩ := ry
    obtain ⟨mA, O, _⟩ := ins_get I.hok ha
    obtain ⟨od, J, _⟩ := O.look
    exact TQ.rc_str hu I.kIn J hm hs X.prog X.w _ _ ⟨.bl false, H, I, rfl, q⟩
section
variable {G M own : List Addr} {H H' : Hp} {σ : L2.St} {Γ Γ' Γ0 Γ1 Γ2 Γ3 : Ctx} {α β : Type} {R : Rp α} {a : α} {te ta tb : TE} {K : PySem.W.Frag}
/-- is it the text -/
def isTxt (j : Str) : Sum α Str → Bool
  | .inl _ => false
  | .inr i => decide (i = j)
theorem e_eqU {x : Sum α Str} {j : Str} {C : Addr} (hR : ∀ h v a, R.rep h v a → ∃ p dx fs, v = .ref p ∧ h p = some (.ins C dx fs)) (hm : PySem.W.mroIn K C (.type "object") = some true) (hs : PySem.W.findIn K (.ref C) "__eq__" = some (some (.builtin "object.__eq__")))
    (ha : E G Γ ta Γ1 (rSum R rStr) x) (hb : E G Γ1 tb Γ2 rStr j) : E G Γ (tOp (rEqU K) ta tb) Γ2 rBool (isTxt j x) := e_op ha hb fun M H v u Q k rv ru q => by
  have ru : u = V.str j := ru
  subst ru
  cases x with
  | inl a =>
    obtain ⟨p, dx, fs, rfl, hp⟩ := hR _ _ _ (show R.rep _ v a from rv)
    exact .inr ⟨p, j, C, dx, fs, rfl, rfl, (hid_some hp).2, hm, hs, q _ H Ex.refl k rfl⟩
  | inr i =>
    have rv : v = V.str i := rv
    subst rv
    exact .inl ⟨i, j, rfl, rfl, q _ H Ex.refl k rfl⟩
theorem e_inl {x : Sum α Str} {y : α} (h : E G Γ te Γ' (rSum R rStr) x) (e : x = .inl y) : E G Γ te Γ' R y := by subst e; exact h
end
end TP

set_option Elab.async false
set_option linter.all false
set_option maxRecDepth 100000
set_option maxHeartbeats 4000000
namespace TP
open PySem PySem.Spec PyProof.Rows L2
theorem vals_back : ∀ {xs : List V} {us : List Value} {i : Nat} {u : Value}, Vals xs us → us[i]? = some u → ∃ x, xs[i]? = some x ∧ RelV x u
  | _, _, _, _, .nil, e => by simp at e
  | _, _, 0, _, .cons a _, e => by simp at e; subst e; exact ⟨_, rfl, a⟩
  | _, _, i + 1, u, .cons _ r, e => by
    obtain ⟨x, h1, h2⟩ := vals_back (i := i) r (by simpa using e)
    exact ⟨x, by simpa using h1, h2⟩
/-! ### min of a list of int tuples -/
def RowsAre (K : PySem.W.Frag) (H : Hp) (vs : List V) (rows : List (List Int)) : Prop := All2 (fun v ns => ∃ a, v = .ref a ∧ SqT K H a (ns.map V.int)) vs rows
def leastT (r : List Int) (rs : List (List Int)) : List Int := rs.foldl (fun a y => if HT.lexLt y a = true then y else a) r
def rMinT (K : PySem.W.Frag) : List V → Hp → VK → Prop := fun vs H Q => ∃ (p : Addr) (xs : List V) (r : List Int) (rs : List (List Int)), vs = [.ref p] ∧ SqL K H p xs ∧ RowsAre K H xs (r :: rs) ∧ ∀ (i : Nat) (v : V), xs[i]? = some v → (r :: rs)[i]? = some (leastT r rs) → Q v H
theorem cr_minT {X : Cx} {K : PySem.W.Frag} (hK : X.K = K) (hc : X.calm = true) (hu : X.A.units + 64 < cLine) : CallR X (.builtin "min") (rMinT K) := by
  subst hK
  intro pins s σ H vs us Q I rv h
  obtain ⟨p, xs, r, rs, rfl, hs, hr, q⟩ := h
  obtain ⟨its, rl, hl, _⟩ := I.list hs
  rw [Vals.ref1 rv]
  have hlen : its.length = rs.length + 1 := by
    have a1 := hr.length
    have a2 := rl.length
    rw [List.length_cons] at a1
    omega
  have key : ∀ i v, its.toArray[i]? = some v → i < rs.length + 1 ∧ ∃ a its2, v = .ref a ∧ IsTup s.heap a its2 ∧ IntsAre its2.toList ((r :: rs).getD i []) := fun i v hv => by
    have hv : its[i]? = some v := by simpa using hv
    have hi : i < its.length := (List.getElem?_eq_some_iff.mp hv).1
    have hi2 : i < (r :: rs).length := by rw [List.length_cons]; omega
    obtain ⟨x, hx, a, e, ha⟩ := hr.get (i := i) (b := (r :: rs)[i]) (List.getElem?_eq_getElem hi2)
    obtain ⟨u, hu2, ru⟩ := rl.get hx
    rw [hv] at hu2
    cases hu2
    subst e
    obtain rfl : Value.ref a = v := ru.symm
    obtain ⟨its2, r2, p2, _⟩ := I.tuple ha
    refine ⟨by omega, a, its2.toArray, rfl, p2, ?_⟩
    have := intsAre_of r2
    rw [List.getD_eq_getElem?_getD, List.getElem?_eq_getElem hi2]
    exact this
  refine PySem.call_min_walkH (PySem.W.iter_listW (A := X.A.in1) (I.ok.hd hc) hl.isList fun s₂ e W st hfp hw hk => ?_)
  refine ⟨_, _, _, _, _, _, _, s.heap, fun i j => HT.lexLt ((r :: rs).getD i []) ((r :: rs).getD j []), rfl, W, st, hfp, by simp; omega, hw, hk, fun i j vi vj s' Q' E' hk' hi hj hq => ?_, fun v s' hP m => ?_⟩
  · obtain ⟨_, a, i1, rfl, t1, n1⟩ := key i vi hi
    obtain ⟨_, b, i2, rfl, t2, n2⟩ := key j vj hj
    exact HT.lt_tupInts (IsTup.keeps t1 hk') (IsTup.keeps t2 hk') n1 n2 (by show X.A.units + 1 < cLine; omega) hq
  · obtain ⟨h', tk, rfl, hk'⟩ := PySem.W.moved_old e rfl m
    have hsz : its.toArray.size - 1 = rs.length := by simp [hlen]
    rw [hsz] at hP
    have hb := PySem.W.argBest_fold HT.lexLt [] r rs rs.length (Nat.le_refl _)
    rw [List.take_length] at hb
    obtain ⟨k, hk2⟩ : ∃ k, k = argBest (fun i j => HT.lexLt ((r :: rs).getD i []) ((r :: rs).getD j [])) rs.length := ⟨_, rfl⟩
    rw [← hk2] at hP hb
    have hP : its[k]? = some v := by simpa using hP
    have hkl : k < (r :: rs).length := by rw [List.length_cons]; omega
    obtain ⟨x, hx, rx⟩ := vals_back rl hP
    refine ⟨x, H, I.kept hk', rx, q k x hx ?_⟩
    rw [List.getElem?_eq_getElem hkl]
    have e2 := hb.2
    rw [List.getD_eq_getElem?_getD, List.getElem?_eq_getElem hkl] at e2
    exact congrArg some e2
def l3 (x : Int × Int × Int) : List Int := [x.1, x.2.1, x.2.2]
theorem l3_inj {x y : Int × Int × Int} (h : l3 x = l3 y) : x = y := by
  obtain ⟨a, b, c⟩ := x
  obtain ⟨d, e, f⟩ := y
  unfold l3 at h
  simp at h
  obtain ⟨rfl, rfl, rfl⟩ := h
  rfl
def minT3 (x : Int × Int × Int) (xs : List (Int × Int × Int)) : Int × Int × Int := xs.foldl (fun a y => if HT.lexLt (l3 y) (l3 a) = true then y else a) x
theorem least_l3 : ∀ (xs : List (Int × Int × Int)) (x : Int × Int × Int), leastT (l3 x) (xs.map l3) = l3 (minT3 x xs)
  | [], _ => rfl
  | y :: ys, x => by
    show (ys.map l3).foldl _ (if HT.lexLt (l3 y) (l3 x) = true then l3 y else l3 x) = l3 (minT3 (if HT.lexLt (l3 y) (l3 x) = true then y else x) ys)
    rw [← least_l3 ys]
    unfold leastT
    congr 1
    split <;> rfl
theorem rows_of {K : PySem.W.Frag} {h H : Hp} (s : Sub h H) : ∀ {vs : List V} {xs : List (Int × Int × Int)}, All2 ((rT3 rInt rInt rInt).rep h) vs xs → RowsAre K H vs (xs.map l3)
  | _, _, .nil => .nil
  | _, _, .cons a r => .cons (by
    obtain ⟨p, u, v, w, e, hp, e1, e2, e3⟩ := a
    have e1 : u = _ := e1
    have e2 : v = _ := e2
    have e3 : w = _ := e3
    subst e1 e2 e3
    exact ⟨p, e, SqT.of (s _ _ hp)⟩) (rows_of s r)
theorem e_minT {G : List Addr} {Γ Γ' : Ctx} {t : TA} {K : PySem.W.Frag} {x : Int × Int × Int} {xs : List (Int × Int × Int)} (h : EA G Γ t Γ' [⟨rList (rT3 rInt rInt rInt), x :: xs⟩]) : E G Γ (tCB (rMinT K) t) Γ' (rT3 rInt rInt rInt) (minT3 x xs) := fun M own σ H k e Q q =>
  h M own σ H k e _ fun us H1 x1 k1 e1 r1 => by
    cases r1 with
    | cons ha r =>
      cases r
      obtain ⟨p, ws, e', hp, r⟩ := ha
      have e' : _ = V.ref p := e'
      subst e'
      refine ⟨p, ws, l3 x, xs.map l3, rfl, SqL.of (hid_some hp).2, rows_of (xs := x :: xs) hid_sub r, fun i v hv hm => ?_⟩
      obtain ⟨y, hy, ry⟩ := r.getL hv
      rw [least_l3] at hm
      have e3 : ((x :: xs).map l3)[i]? = some (l3 y) := by rw [List.getElem?_map, hy]; rfl
      have e4 : ((x :: xs).map l3)[i]? = some (l3 (minT3 x xs)) := hm
      rw [e3] at e4
      have := l3_inj (Option.some.inj e4)
      subst this
      exact q v H1 x1 k1 e1 ry
end TP

set_option Elab.async false
set_option linter.all false
set_option maxRecDepth 100000
set_option maxHeartbeats 4000000
namespace TP
open PySem PySem.Spec PyProof.Rows L2 LM
open LamX (CodeO TabS)
/-- the table of the lambdas' codes, one's own, beside a value that tells a -/
def oTabR (P : Addr) (q : Str) {α : Type} (R : Rp α) (a : α) : Ow := ⟨fun h H ps u => R.rep h u a ∧ (oTab P q u).own h H ps u, fun {h h' H H' ps v} k e ⟨e1, e2⟩ => ⟨R.mono k e1, (oTab P q v).mono k e e2⟩⟩
section
variable {F : Fm} {G M own : List Addr} {H H' : Hp} {σ : L2.St} {Γ Γ' Γ1 Γ2 : Ctx} {α β : Type} {R : Rp α} {a : α} {te : TE} {K : PySem.W.Frag} {D : Ends} {P : Addr} {q : Str}
theorem e_varTab {i : Nat} (hx : Γ[i]? = some (.own (oTabR P q R a))) : E G Γ (tVar i) Γ R a := fun M own σ H k e Q hQ => by
  obtain ⟨v, p1, pi, p2, f⟩ := e.env.focus hx
  exact ⟨v, f.at_, hQ v H Ex.refl k e f.own.1⟩
theorem env_no {h H : Hp} : ∀ {n : Nat} {σ : L2.St} {ps : List Addr}, EnvR h H σ (List.replicate n .no) ps → ps = [] ∧ σ.length = n
  | 0, [], _, e => ⟨e, rfl⟩
  | 0, _ :: _, _, e => e.elim
  | n + 1, [], _, e => (show False from e).elim
  | n + 1, _ :: σ, ps, e => by
    have := env_no (n := n) (σ := σ) (ps := ps) e
    exact ⟨this.1, congrArg (· + 1) this.2⟩
theorem env_no' {h H : Hp} : ∀ {n : Nat} {σ : L2.St}, σ.length = n → EnvR h H σ (List.replicate n .no) []
  | 0, [], _ => rfl
  | n + 1, _ :: σ, e => env_no' (n := n) (σ := σ) (by simpa using e)
/-- the law's own loop over its one die -/
theorem s_one {n : Nat} {R0 : Rp α} {a0 : α} {x : List Int} {tb : TS} (hO : F.own0 = []) (hF : ∀ p, p ∉ F.G → F.H0 p = none)
    (h : E F.G (.own (oTabR P q R0 a0) :: List.replicate (n + 1) .no) te (.own (oTabR P q R0 a0) :: List.replicate (n + 1) .no) (rList (rList rInt)) [x])
    (body : ∀ v gA N, (∀ Γ', KT F gT Γ' D.nx → KT F gA Γ' N) → KT F gA (.own (oTab P q v) :: .own (oLst rInt x) :: List.replicate n .no) (tb { D with nx := N, ct := N, bk := D.nx })) :
    KT F gT (.own (oTabR P q R0 a0) :: List.replicate (n + 1) .no) (tFor (iList K te) (gName 1) tb D) := fun M own σ H s e gg => h M own σ H s.ok e _ fun w H1 x1 k1 e1 r1 => by
  obtain ⟨a, vs, rfl, ha, rr⟩ := r1
  cases rr with
  | cons r0 rr =>
    cases rr
    obtain ⟨p, ys, rfl, hp, ry⟩ := r0
    have st1 := s.step x1 k1
    obtain ⟨gA, hgA⟩ : ∃ gA : Gp, gA = ⟨fun h => h a = some (.lst [.ref p]), fun k z => k _ _ z⟩ := ⟨_, rfl⟩
    refine ⟨a, rfl, ⟨_, SqL.of (hid_some ha).2⟩, ?_⟩
    refine for_it (walk_list (K := K) (a := a) (xs := [.ref p])) (fun i σ' H' => (i = 0 ∧ σ' = σ ∧ H' = H1) ∨ (1 ≤ i ∧ H' a = some (.lst [.ref p]) ∧ ∃ Γ' M' own', Stt F M' own' H' ∧ Env F.G M' H' own' σ' Γ' ∧ KT F gT Γ' D.nx)) (.inl ⟨rfl, rfl, rfl⟩) (fun i σ' H' _ z => ?_) ?_ ?_
    · rcases z with ⟨_, _, rfl⟩ | ⟨_, z, _⟩
      · exact SqL.of (hid_some ha).2
      · exact SqL.of z
    · rintro i y σ2 H2 H3 hi z hy
      rcases z with ⟨rfl, rfl, rfl⟩ | ⟨z, _⟩
      · obtain ⟨rfl, hy⟩ := hy
        have hy : V.ref p = y := by simpa using hy
        subst hy
        obtain ⟨hpM, hpH⟩ := hid_some hp
        obtain ⟨haM, haH⟩ := hid_some ha
        have hpG : p ∉ F.G := fun z => hpM (k1.sub p z)
        have hap : a ≠ p := fun z => by
          rw [z, hpH] at haH
          have e : ys = [V.ref p] := by injection haH with haH; injection haH
          subst e
          cases ry with
          | cons r _ => cases r
        cases σ2 with
        | nil => exact (show False from e1.env).elim
        | cons o0 σ2 =>
          cases σ2 with
          | nil => obtain ⟨_, _, _, _, _, _, z⟩ := e1.env; exact (show False from z).elim
          | cons o1 σ2 =>
            obtain ⟨v, p1, p2, rfl, hown, ⟨_, hu, rfl, tbl, hP, ht, hco⟩, hrest⟩ := e1.env
            obtain ⟨rfl, hlen⟩ := env_no (n := n + 1) (σ := o1 :: σ2) hrest
            have hown : own = [P] := by simpa using hown
            subst hown
            have hPM : P ∈ M := e1.sub P (List.mem_singleton.mpr rfl)
            have hPp : P ≠ p := fun z => hpM (by rw [← z]; exact hPM)
            show tb _ (some v :: some (V.ref p) :: σ2) H3
            refine body v gA _ (fun Γ' kk M' own' σ' H' st' e' g' => .inr ⟨Nat.le_refl _, ?_, Γ', M', own', st', e', kk⟩) (p :: M) [P, p] (some v :: some (V.ref p) :: σ2) H3 ?_ ?_ ?_
            · refine ⟨⟨fun P hP => List.mem_cons_of_mem _ (k1.sub P hP), fun m hm => ?_, k1.wf⟩, st1.ex, fun m hm => List.mem_cons_of_mem _ (st1.mc m hm), fun o ho => ?_⟩
              · rcases List.mem_cons.mp hm with rfl | hm
                · rw [hpH]; exact Option.some_ne_none _
                · exact k1.al m hm
              · rcases List.mem_cons.mp ho with rfl | ho
                · exact st1.own _ (List.mem_singleton.mpr rfl)
                · rw [List.mem_singleton.mp ho]; exact .inr (hF p hpG)
            · refine ⟨by simp [hPp], fun o ho => ?_, fun o ho => ?_, ?_⟩
              · rcases List.mem_cons.mp ho with rfl | ho
                · exact List.mem_cons_of_mem _ hPM
                · rw [List.mem_singleton.mp ho]; exact List.mem_cons_self
              · rcases List.mem_cons.mp ho with rfl | ho
                · exact e1.out _ (List.mem_singleton.mpr rfl)
                · rw [List.mem_singleton.mp ho]; exact hpG
              · refine ⟨v, [P], [p], rfl, rfl, ⟨rfl, rfl, tbl, hP, ht, fun pos cv z => ?_⟩, .ref p, [p], [], rfl, rfl, ⟨p, ys, trivial, rfl, rfl, hpH, ?_⟩, env_no' (by simpa using hlen)⟩
                · obtain ⟨c, e2, hc⟩ := hco pos cv z
                  refine ⟨c, e2, hid_of (fun z => ?_) (hid_some hc).2⟩
                  rcases List.mem_cons.mp z with z | z
                  · subst z
                    have := (hid_some hc).2
                    rw [hpH] at this
                    cases this
                  · exact (hid_some hc).1 z
                · exact ry.imp fun _ _ h => h
            · rw [hgA]
              exact hid_of (fun z => (List.mem_cons.mp z).elim hap haM) haH
            · rw [hgA] at g'
              exact (hid_some g').2
      · simp at hi
        omega
    · rintro σ2 H2 z
      rcases z with ⟨z, _⟩ | ⟨_, _, Γ', M', own', st', e', kk⟩
      · simp at z
      · exact kk M' own' σ2 H2 st' e' trivial
end
end TP

set_option Elab.async false
set_option linter.all false
set_option maxRecDepth 100000
set_option maxHeartbeats 4000000
namespace LM
open PySem PySem.Spec PyProof.Rows L2 TP
/-- told(lambda: ..), made where it is told, that answers r, or raises where bd -/
theorem e_toldK {G : List Addr} {Γ : TP.Ctx} {Pt : Addr} {q ret : Str} {K : PySem.W.Frag} {CS c : Addr} {cells : List (Str × Addr)} {Ls : List LamD} {n i : Nat} {v : V} {e bd : Expr} {ps : Arguments} {sc : Scope} {pos : Pos} {t : XK → TE} {α : Type} {R : Rp α} {r : α} {bad : Bool}
    (he : e = .Lambda ps bd sc pos) (hn : Ls[n]? = some (lamD e t)) (hx : Γ[i]? = some (.own (oTab Pt q v))) (h0 : bad = false → ∀ W, TP.E G Γ (t W) Γ R r) (h1 : bad = true → ∀ W, EX G Γ (t W) Γ W c) (hm : PySem.W.exmOne K (.ref c) (.ref CS) = some true) :
    TP.E G Γ (fun σ H Q => tTold K CS ret q cells Ls σ (tLamV Pt q ps bd sc (cloFrom cells sc.names [])) σ H Q) Γ (rSum R rStr) (if bad = true then .inr ret else .inl r) := by
  subst he
  cases bad with
  | false => exact e_toldOk (n := n) (e_lamV hx hn) hn (fun W => h0 rfl W)
  | true => exact e_toldEr (n := n) (e_lamV hx hn) hn (fun W => h1 rfl W) hm
end LM

set_option Elab.async false
set_option linter.all false
set_option maxRecDepth 100000
set_option maxHeartbeats 4000000
/-! enumerate of a tuple; zip of two tuples, typed -/
namespace EnT
open PySem PySem.Spec PyProof.Rows L2
open AutoSeq1 (wpAny_loadPart')
abbrev itO (l : Addr) : Obj := { cls := .type "tuple_iterator", data := .fields #[.ref l, .int 0 0] }
abbrev enO (n : Nat) : Obj := { cls := .type "enumerate", data := .fields #[.none, .bool false, .ref n, rawInt 0, .none, .none] }
theorem meets_new (l : Addr) (items : Array Value) (n : Nat) (dct : Option Addr) (sl : Array (Option Value)) :
    Meets (Builtin.«enumerate.__new__» ⟨[.type "enumerate", .ref l], []⟩) (fun _ R s => s.heap.get? l = some { cls := .type "tuple", dict := dct, data := .seq items n, slots := sl } ∧
      R (.ok (.ret (.ref (s.heap.push (itO l)).objs.size))) { s with heap := (s.heap.push (itO l)).push (enO s.heap.objs.size) }) :=
  .of_wp fun prog w A R s hh => by
    obtain ⟨hp, gs, dr, tk, os⟩ := s
    obtain ⟨hl, hh⟩ := hh
    have hsub := sub_enumerate
    have isT : Heap.IsTuple (Shared.heap ⟨hp, gs, dr, tk, os⟩) l items := ⟨_, hl, rfl, n, rfl⟩
    wp_walk using wpAny_loadPart' hl
    refine wpAny_stack_any fun _ => wpAny_pure ?_
    split
    · rename_i c _ _ _ _ _
      cases (c == Value.type "enumerate") <;>
      · wp_walk using wpAny_loadPart' hl, wpAny_pyIter_tuple isT
        exact ⟨_, rfl, hh⟩
    · wp_walk using wpAny_loadPart' hl, wpAny_pyIter_tuple isT
      exact ⟨_, rfl, hh⟩
section
variable {prog : Program} {w : World} {A : Around} {EE : Value → Shared → Prop} {s : Shared}
theorem call_enumT {l : Addr} {items : Array Value} {Q : Value → Shared → Prop} (hT : s.heap.IsTuple l items)
    (hq : ∀ h', IsEnum h' (s.heap.objs.size + 1) s.heap.objs.size 0 .none → h'.IsTupleIter s.heap.objs.size l 0 → h'.objs.size = s.heap.objs.size + 2 → (∀ b o, s.heap.get? b = some o → h'.get? b = some o) → Q (.ref (s.heap.objs.size + 1)) { s with heap := h' }) :
    wpAny (model prog w) A (call (.type "enumerate") [.ref l]) Q EE s := by
  obtain ⟨⟨c, dct, dt, sl⟩, hl, hc, n, hd⟩ := hT
  have hc : c = .type "tuple" := hc
  have hd : dt = .seq items n := hd
  subst hc hd
  refine callType_new F.called_enumerate (by decide) (F.typeCall_enumerate_1 _) (F.newCall_enumerate_1 _) (fun o => F.args_object_init_2 o _) F.entry_enumerate_new (meets_new l items n dct sl) ⟨hl, ?_⟩
  have hz : (s.heap.push (itO l)).objs.size = s.heap.objs.size + 1 := Heap.size_push ..
  show _ ∧ _
  rw [hz]
  have isE : IsEnum ((s.heap.push (itO l)).push (enO s.heap.objs.size)) (s.heap.objs.size + 1) s.heap.objs.size 0 .none := by
    have q := Heap.get?_push_size (s.heap.push (itO l)) (o := enO s.heap.objs.size) rfl
    rwa [hz] at q
  exact ⟨⟨_, isE, rfl⟩, hq _ isE ⟨_, Heap.get?_push_of_some _ (Heap.get?_push_size _ rfl), rfl, rfl⟩ (by rw [Heap.size_push, hz]) fun b o x => Heap.get?_push_of_some _ (Heap.get?_push_of_some _ x)⟩
end
/-- the tuple at a, each item in a new pair -/
def IteT (K : PySem.W.Frag) (a : Addr) : It :=
  ⟨fun i H => ∃ (xs : List V) (x : V), SqT K H a xs ∧ xs[i]? = some x, fun i H v H' => ∃ T x, v = .ref T ∧ H T = none ∧ H' = upd H T (.tup [.int (i : Nat), x]) ∧ ∀ xs, SqT K H a xs → xs[i]? = some x, fun i H => ∃ xs : List V, SqT K H a xs ∧ xs.length = i⟩
theorem apart {h : Heap} {e it a : Addr} {i : Int} {old : Value} {n : Nat} {items : Array Value} (he : IsEnum h e it i old) (hi : h.IsTupleIter it a n) (ht : h.IsTuple a items) : a ≠ it ∧ e ≠ a := by
  obtain ⟨o1, q1, c1, _⟩ := hi
  obtain ⟨o2, q2, c2, _⟩ := ht
  refine ⟨fun z => ?_, fun z => ?_⟩
  · rw [z, q1] at q2
    cases q2
    rw [c1] at c2
    injection c2 with c2
    exact absurd c2 (by decide)
  · have he : h.get? e = _ := he
    rw [z, q2] at he
    cases he
    have c2 : Value.type "enumerate" = .type "tuple" := c2
    injection c2 with c2
    exact absurd c2 (by decide)
theorem turn_enumT {P : Program} {w : World} {K : PySem.W.Frag} {elts : List Expr} {kk : Nat} {tpos : Pos} (a e it : Addr) :
    Turn P w K (.Tuple elts kk tpos) (IteT K a) [e, it] e (fun i h => (∃ old, IsEnum h e it ((i : Nat) : Int) old) ∧ h.IsTupleIter it a i ∧ e ≠ it) where
  mem := by simp
  obj := fun i h st b hb => by
    obtain ⟨⟨old, he⟩, ⟨o, ho, hc, hd⟩, _⟩ := st
    rcases List.mem_cons.mp hb with z | z
    · rw [z]; exact ⟨_, he, fun v q => nomatch q⟩
    · rw [List.mem_singleton.mp z]
      exact ⟨o, ho, fun v q => by rw [hd] at q; cases q⟩
  keep := fun i h h' st k => let ⟨⟨old, he⟩, hi, hne⟩ := st; ⟨⟨old, k e (by simp) _ he⟩, hi.at fun o q => k it (by simp) o q, hne⟩
  item := by
    intro X hP hw hK hc i pins s σ H E I hf st hg
    subst hP hw hK
    obtain ⟨⟨old, he⟩, hit, hne⟩ := st
    obtain ⟨xs, x, hq, hx⟩ := hg
    obtain ⟨its, rv, p, hz⟩ := I.tuple hq
    obtain ⟨u, hu, ru⟩ := rv.get hx
    have hel : e < s.heap.objs.size := Heap.lt_size he
    have hil : it < s.heap.objs.size := by obtain ⟨_, q, _⟩ := hit; exact Heap.lt_size q
    have p : s.heap.IsTuple a its.toArray := p
    obtain ⟨na, nea⟩ := apart he hit p
    have hlt : i < its.toArray.size := by
      rw [List.size_toArray]
      exact (List.getElem?_eq_some_iff.mp hu).1
    refine wpAny_pyNext_enum_itemD (Draws.tuple (prog := X.prog) (w := X.w) (A := X.A.in1) (I.ok.hd hc) it a na its.toArray) he ⟨hit, p⟩ hlt hne (by simp [hne, nea]) fun y h' tk hy ho st' hT hsz hk => ?_
    have ey : y = u := by
      have hy : its.toArray[i]? = some y := hy
      rw [List.getElem?_toArray, hu] at hy
      exact (Option.some.inj hy).symm
    subst ey
    refine ⟨_, rfl, wpAny_letOwnedTupleGo_enum (s := { s with heap := h', toks := tk + 1 }) ho fun h'' he' sb => ?_⟩
    have hT2 : h''.get? s.heap.objs.size = some { cls := .type "tuple", data := .seq #[.int i tk, y] } := (sb.2 _ (Nat.ne_of_gt hel)).trans hT
    have new : ObjOk X.prog X.w (upd H s.heap.objs.size (.tup [.int (i : Nat), x])) h'' s.heap.objs.size (.tup [.int (i : Nat), x]) := ⟨by show 2 ≤ sizeLine; decide, [.int i tk, y], .cons ⟨_, rfl⟩ (.cons ru .nil), ⟨_, hT2, rfl, _, rfl⟩⟩
    have I1 : Inv X pins σ (upd H s.heap.objs.size (.tup [.int (i : Nat), x])) { s with heap := h'', toks := tk + 1 } :=
      I.turnedNew (ch := [e, it]) (fun b ob hb q => (sb.2 b (fun z => hb (by simp [z]))).trans (hk b ob (fun z => hb (by simp [z])) (fun z => hb (by simp [z])) q)) hf (Nat.le_refl _) new
    refine ⟨.ref s.heap.objs.size, _, I1, rfl, ⟨_, x, rfl, I.hok.fresh (Nat.le_refl _), rfl, fun ys hy => by rw [I.tuple_inj hy hq]; exact hx⟩, ⟨⟨y, ?_⟩, st'.1.at fun o q => (sb.2 it (Ne.symm hne)).trans q, hne⟩, fun b hb => ?_⟩
    · have e1 : ((i + 1 : Nat) : Int) = (i : Int) + 1 := by omega
      rw [e1]; exact he'
    · have hb' : b < s.heap.objs.size := by
        rcases List.mem_cons.mp hb with z | z
        · rw [z]; exact hel
        · rw [List.mem_singleton.mp z]; exact hil
      rw [upd_ne (Nat.ne_of_lt hb')]
      exact (hf b hb).1
  done := by
    intro X hP hw hK hc i pins s σ H E I hf st hg
    subst hP hw hK
    obtain ⟨⟨old, he⟩, hit, hne⟩ := st
    obtain ⟨xs, hq, hx⟩ := hg
    obtain ⟨its, rv, p, hz⟩ := I.tuple hq
    obtain ⟨f0, f1, f2, f3, f4, f5⟩ := hf it (by simp)
    have p : s.heap.IsTuple a its.toArray := p
    have hl : i = its.toArray.size := by rw [List.size_toArray, ← hx]; exact rv.length
    obtain ⟨na, nea⟩ := apart he hit p
    refine wpAny_pyNext_enum_endD (Draws.tuple (prog := X.prog) (w := X.w) (A := X.A.in1) (I.ok.hd hc) it a na its.toArray) he ⟨hl ▸ hit, p⟩ fun h' eb => ⟨rfl, I.turned (t' := s.toks) (fun b o hb q => eb b o hb q) f0 f1 f3 f4 f5⟩
  self := fun A i s Q E st h => let ⟨⟨_, he⟩, _⟩ := st; wpAny_pyIter_enum he h
def iEnumT (K : PySem.W.Frag) (ta : TA) : TI := fun σ H R => ta σ H fun vs H1 => ∃ a xs, vs = [.ref a] ∧ SqT K H1 a xs ∧ R (IteT K a) H1
theorem pi_enumT {X : Cx} {K : PySem.W.Frag} {e : Expr} {ta : TA} {p pos tpos : Pos} {elts : List Expr} {kk : Nat} (hK : X.K = K) (hg : Gl X "enumerate") (hm : X.mg "enumerate" = none) (ha : PA X [e] ta) (hs : starEach [e] X.env = [(false, eval e X.env)] := by rfl) :
    PI X (.Tuple elts kk tpos) (.Call (.Name "enumerate" p) [e] [] pos) (iEnumT K ta) := by
  subst hK
  refine ⟨fun pins s σ H R I h => Call_ (ld_blt I hg hm boot_enumerate (PyProof.Rows.callWith_type1 (thn (ha.run pos pins s σ H _ I h) fun us s1 ⟨vs, H1, I1, r1, q1⟩ => ?_) hs rfl))⟩
  obtain ⟨a, xs, ex, hq, q⟩ := q1
  subst ex
  cases r1 with
  | cons r rr =>
    cases rr
    cases r
    obtain ⟨its, rv, p', hz⟩ := I1.tuple hq
    refine call_enumT (show s1.heap.IsTuple a its.toArray from p') fun h' he hit hsz hk => wpAny_pyIter_enum he ?_
    have I2 : Inv X pins σ H1 { s1 with heap := h' } := I1.kept (t' := s1.toks) hk
    refine ⟨s1.heap.objs.size + 1, [s1.heap.objs.size + 1, s1.heap.objs.size], _, _, H1, rfl, I2, turn_enumT a (s1.heap.objs.size + 1) s1.heap.objs.size, ⟨⟨.none, he⟩, hit, Nat.succ_ne_self _⟩, fun b hb => ?_, q⟩
    have hle : s1.heap.objs.size ≤ b := by
      rcases List.mem_cons.mp hb with z | z
      · rw [z]; exact Nat.le_add_right _ _
      · rw [List.mem_singleton.mp z]; exact Nat.le_refl _
    exact I1.fpOk hle (I1.hok.fresh hle)
theorem walk_enumT {K : PySem.W.Frag} {a : Addr} {xs : List V} : Walk (IteT K a) xs.length (fun H => SqT K H a xs) (YPair (fun i => some (.int (i : Nat))) (fun i => xs[i]?)) :=
  ⟨fun i _ hi q => ⟨xs, xs[i], q, by simp [hi]⟩, fun _ q => ⟨xs, q, rfl⟩, fun i H v H' _ q y => by
    obtain ⟨T, x, h1, h2, h3, h4⟩ := y
    exact ⟨T, .int (i : Nat), x, h1, h2, h3, rfl, h4 xs q⟩⟩
end EnT

set_option Elab.async false
set_option linter.all false
set_option maxRecDepth 100000
set_option maxHeartbeats 4000000
/-! what is made anew and is one's own from then on: several results at once -/
namespace TP
open PySem PySem.Spec PyProof.Rows L2
section
variable {F : Fm} {gp : Gp} {G M own : List Addr} {H H' : Hp} {σ : L2.St} {Γ Γ' Γ0 Γ1 Γ2 Γ3 : Ctx} {α β γ : Type} {R : Rp α} {S : Rp β} {a : α} {b : β} {te tb : TE} {ta t : TA} {D : Ends} {K : PySem.W.Frag}
theorem hid_more {ps : List Addr} (k : Ok G M H) (e : Env G M H own σ Γ) (x : Ex (G ++ own) H H') (hp : ∀ p ∈ ps, H p = none) : Sub (hid M H) (hid (ps ++ M) H') := fun b o z => by
  obtain ⟨h1, h2⟩ := hid_some z
  refine hid_of (fun w => ?_) (x b o (fun w => h1 (e.allSub k b w)) h2)
  rcases List.mem_append.mp w with w | w
  · rw [hp b w] at h2; cases h2
  · exact h1 w
/-- results, some of them new and one's own; Γr says what each is -/
def AN (G : List Addr) (Γ : Ctx) (ta : TA) (Γ' : Ctx) (Γr : Ctx) : Prop := ∀ M own σ H, Ok G M H → Env G M H own σ Γ → ∀ Q : List V → Hp → Prop,
  (∀ vs H' ps, Ex (G ++ own) H H' → Ok G (ps ++ M) H' → Env G (ps ++ M) H' own σ Γ' → ps.Nodup → (∀ p ∈ ps, H p = none) → EnvR (hid (ps ++ M) H') H' (vs.map some) Γr ps → Q vs H') → ta σ H Q
def EN (G : List Addr) (Γ : Ctx) (te : TE) (Γ' : Ctx) (O : Ow) : Prop := ∀ M own σ H, Ok G M H → Env G M H own σ Γ → ∀ Q : VK,
  (∀ v H' ps, Ex (G ++ own) H H' → Ok G (ps ++ M) H' → Env G (ps ++ M) H' own σ Γ' → ps.Nodup → (∀ p ∈ ps, H p = none) → O.own (hid (ps ++ M) H') H' ps v → Q v H') → te σ H Q
theorem an_nil : AN G Γ tNil Γ [] := fun M own σ H k e Q q => q [] H [] Ex.refl k e List.nodup_nil (fun _ h => nomatch h) rfl
theorem an_pl {Γr : Ctx} (h : E G Γ te Γ1 R a) (hr : AN G Γ1 t Γ2 Γr) : AN G Γ (tCons te t) Γ2 (.val R a :: Γr) := fun M own σ H k e Q q => h M own σ H k e _ fun v H1 x1 k1 e1 r1 =>
  hr M own σ H1 k1 e1 _ fun vs H2 ps x2 k2 e2 nd hp rr => q (v :: vs) H2 ps (x1.trans x2) k2 e2 nd (fun p hm => by
    cases z : H p with
    | none => rfl
    | some o =>
      have hn : p ∉ G ++ own := fun w => by
        obtain ⟨o', ho'⟩ : ∃ o', H1 p = some o' := by
          cases z' : H1 p with
          | none => exact absurd z' (k1.al p (e1.allSub k1 p w))
          | some o' => exact ⟨o', rfl⟩
        rw [hp p hm] at ho'; cases ho'
      have := x1 p o hn z
      rw [hp p hm] at this; cases this) ⟨⟨v, rfl, R.mono (hid_more k1 e1 x2 hp) r1⟩, rr⟩
theorem fresh_back (k1 : Ok G M H') (e1 : Env G M H' own σ Γ1) (x1 : Ex (G ++ own) H H') {p : Addr} (hp : H' p = none) : H p = none := by
  cases z : H p with
  | none => rfl
  | some o =>
    have hn : p ∉ G ++ own := fun w => k1.al p (e1.allSub k1 p w) hp
    have := x1 p o hn z
    rw [hp] at this; cases this
theorem an_fr {Γr : Ctx} {O : Ow} (h : EN G Γ te Γ1 O) (hr : AN G Γ1 t Γ2 Γr) : AN G Γ (tCons te t) Γ2 (.own O :: Γr) := fun M own σ H k e Q q => h M own σ H k e _ fun v H1 ps x1 k1 e1 nd hp o1 =>
  hr (ps ++ M) own σ H1 k1 e1 _ fun vs H2 qs x2 k2 e2 nd2 hq rr => by
    have dj : ∀ p ∈ ps, p ∉ qs := fun p h1 h2 => k1.al p (List.mem_append_left _ h1) (hq p h2)
    have hM2 : ∀ b, b ∈ qs ++ (ps ++ M) ↔ b ∈ (ps ++ qs) ++ M := fun b => by
      simp only [List.mem_append]
      exact ⟨fun z => z.elim (fun z => .inl (.inr z)) fun z => z.elim (fun z => .inl (.inl z)) .inr, fun z => z.elim (fun z => z.elim (fun z => .inr (.inl z)) .inl) fun z => .inr (.inr z)⟩
    have hh : hid (qs ++ (ps ++ M)) H2 = hid ((ps ++ qs) ++ M) H2 := by
      funext b
      unfold hid
      by_cases z : b ∈ qs ++ (ps ++ M)
      · rw [if_pos z, if_pos ((hM2 b).mp z)]
      · rw [if_neg z, if_neg fun w => z ((hM2 b).mpr w)]
    have hno : ∀ p ∈ ps, p ∉ G ++ own := fun p h1 w => by
      have := k.al p (e.allSub k p w)
      exact this (hp p h1)
    have keep : ∀ p ∈ ps, H2 p = H1 p := fun p h1 => by
      cases z : H1 p with
      | none => exact absurd z (k1.al p (List.mem_append_left _ h1))
      | some o => exact x2 p o (hno p h1) z
    refine q (v :: vs) H2 (ps ++ qs) (x1.trans x2) ⟨fun P hP => (hM2 P).mp (k2.sub P hP), fun m hm => k2.al m ((hM2 m).mpr hm), k2.wf⟩ ⟨e2.nd, fun p hm => (hM2 p).mp (e2.sub p hm), e2.out, by rw [← hh]; exact e2.env⟩ ?_ ?_ ?_
    · rw [List.nodup_append]
      exact ⟨nd, nd2, fun x hx y hy z => dj x hx (by rw [z]; exact hy)⟩
    · intro p hm
      rcases List.mem_append.mp hm with z | z
      · exact hp p z
      · exact fresh_back ⟨fun P hP => k1.sub P hP, k1.al, k1.wf⟩ e1 x1 (hq p z)
    · rw [← hh]
      exact ⟨v, ps, qs, rfl, rfl, O.mono (hid_more k1 e1 x2 hq) keep o1, rr⟩
theorem en_lst {xs : List α} (h : EA G Γ ta Γ1 (xs.map fun x => ⟨R, x⟩)) (hl : xs.length ≤ 100000) : EN G Γ (tLst ta) Γ1 (oLst R xs) := fun M own σ H k e Q q => h M own σ H k e _ fun vs H1 x1 k1 e1 r1 => by
  have r1 := all2_dys r1
  refine ⟨by rw [r1.length]; exact small_len hl, fun p hn => ?_⟩
  refine q (.ref p) _ [p] (x1.trans (Ex.new hn)) (k1.grow hn) (e1.grow k1 hn) (by simp) (fun b hb => ?_) ⟨p, vs, trivial, rfl, rfl, upd_same, r1.imp fun _ _ => R.mono (hid_grow hn)⟩
  rw [List.mem_singleton.mp hb]
  exact fresh_back k1 e1 x1 hn
/-- a slot takes what is new -/
theorem Env.put {s : Sl} {v : V} {pi : List Addr} {i : Nat} (e : Env G M H own σ Γ) (o : EnvR (hid M H) H [some v] [s] pi) (nd : pi.Nodup) (dj : ∀ p ∈ pi, p ∈ M ∧ p ∉ G ∧ p ∉ own) (hi : PlainAt Γ i) (hl : i < Γ.length) :
    ∃ own', Env G M H own' (σ.set i (some v)) (Γ.set i s) ∧ ∀ p, p ∈ own' ↔ p ∈ pi ∨ p ∈ own := by
  cases s with
  | no =>
    have o : pi = [] := o
    subst o
    exact ⟨own, ⟨e.nd, e.sub, e.out, e.env.unset hi⟩, fun p => by simp⟩
  | val R' a' =>
    obtain ⟨⟨w, e1, r⟩, o⟩ := o
    have o : pi = [] := o
    subst o
    cases e1
    exact ⟨own, ⟨e.nd, e.sub, e.out, e.env.set (R := R') r hi⟩, fun p => by simp⟩
  | own O =>
    obtain ⟨w, p1, p2, e1, e2, ho, o⟩ := o
    have o : p2 = [] := o
    subst o
    cases e1
    rw [List.append_nil] at e2
    subst e2
    obtain ⟨q1, q2, eo, env⟩ := EnvR.newOwn (O := O) ho e.env hi hl
    have mem : ∀ p, p ∈ q1 ++ (pi ++ q2) ↔ p ∈ pi ∨ p ∈ own := fun p => by
      rw [eo]
      simp only [List.mem_append]
      constructor
      · rintro (z | z | z) <;> simp [z]
      · rintro (z | z | z) <;> simp [z]
    have ndo := e.nd
    refine ⟨q1 ++ (pi ++ q2), ⟨?_, fun p hp => ?_, fun p hp => ?_, env⟩, mem⟩
    · rw [eo, List.nodup_append] at ndo
      rw [List.nodup_append, List.nodup_append]
      refine ⟨ndo.1, ⟨nd, ndo.2.1, fun x hx y hy z => (dj x hx).2.2 (by rw [eo, z]; exact List.mem_append_right _ hy)⟩, fun x hx y hy z => ?_⟩
      rcases List.mem_append.mp hy with w | w
      · exact (dj y w).2.2 (by rw [eo, ← z]; exact List.mem_append_left _ hx)
      · exact ndo.2.2 x hx y w z
    · rcases (mem p).mp hp with z | z
      · exact (dj p z).1
      · exact e.sub p z
    · rcases (mem p).mp hp with z | z
      · exact (dj p z).2.1
      · exact e.out p z
/-- the frame after new things -/
theorem Stt.fresh {ps own' : List Addr} (s : Stt F M own H) (e : Env F.G M H own σ Γ) (x : Ex (F.G ++ own) H H') (k : Ok F.G (ps ++ M) H') (hp : ∀ p ∈ ps, H p = none) (ho : ∀ p ∈ own', p ∈ ps ∨ p ∈ own) : Stt F (ps ++ M) own' H' := by
  refine ⟨k, fun c o hc ec => ?_, fun m hm => List.mem_append_right _ (s.mc m hm), fun p hm => ?_⟩
  · have h1 := s.ex c o hc ec
    by_cases z : c ∈ F.G ++ own
    · rcases List.mem_append.mp z with z | z
      · exact absurd (List.mem_append_left _ z) hc
      · rcases s.own c z with w | w
        · exact absurd (List.mem_append_right _ w) hc
        · rw [w] at ec; cases ec
    · exact x c o z h1
  · rcases ho p hm with z | z
    · cases e0 : F.H0 p with
      | none => exact .inr rfl
      | some o =>
        by_cases hG : p ∈ F.G ++ F.own0
        · rcases List.mem_append.mp hG with w | w
          · exact absurd (hp p z) (s.ok.al p (s.ok.sub p w))
          · exact .inl w
        · have := s.ex p o hG e0
          rw [hp p z] at this; cases this
    · exact s.own p z
theorem EnvR.cut2 {h : Hp} {v : V} {s : Sl} {vs : List V} {Γr : Ctx} {ps : List Addr} (r : EnvR h H (some v :: vs.map some) (s :: Γr) ps) : ∃ p1 p2, ps = p1 ++ p2 ∧ EnvR h H [some v] [s] p1 ∧ EnvR h H (vs.map some) Γr p2 := by
  cases s with
  | no => exact ⟨[], ps, rfl, rfl, r⟩
  | val R a => exact ⟨[], ps, rfl, ⟨r.1, rfl⟩, r.2⟩
  | own O =>
    obtain ⟨w, p1, p2, e1, e2, o, r⟩ := r
    exact ⟨p1, p2, e2, ⟨w, p1, [], e1, by simp, o, rfl⟩, r⟩
/-- slots take new things, one after another -/
def puts : L2.St → List (Nat × V) → L2.St
  | σ, [] => σ
  | σ, (i, v) :: r => puts (σ.set i (some v)) r
def putC : Ctx → List (Nat × Sl) → Ctx
  | Γ, [] => Γ
  | Γ, (i, s) :: r => putC (Γ.set i s) r
def okPuts : Ctx → List (Nat × Sl) → Prop
  | _, [] => True
  | Γ, (i, s) :: r => PlainAt Γ i ∧ i < Γ.length ∧ okPuts (Γ.set i s) r
theorem Env.puts : ∀ {is : List Nat} {vs : List V} {Γr Γ : Ctx} {ps own : List Addr} {σ : L2.St}, Env G M H own σ Γ → EnvR (hid M H) H (vs.map some) Γr ps → ps.Nodup → (∀ p ∈ ps, p ∈ M ∧ p ∉ G ∧ p ∉ own) → is.length = vs.length → okPuts Γ (is.zip Γr) →
    ∃ own', Env G M H own' (TP.puts σ (is.zip vs)) (putC Γ (is.zip Γr)) ∧ ∀ p, p ∈ own' ↔ p ∈ ps ∨ p ∈ own
  | [], [], [], Γ, ps, own, σ, e, r, _, _, _, _ => by
    have r : ps = [] := r
    subst r
    exact ⟨own, e, fun p => by simp⟩
  | [], [], _ :: _, _, _, _, _, _, r, _, _, _, _ => by
    rename_i s Γr
    cases s <;> exact (show False from r).elim
  | i :: is, v :: vs, s :: Γr, Γ, ps, own, σ, e, r, nd, dj, hl, ok => by
    obtain ⟨p1, p2, e1, r1, r2⟩ := EnvR.cut2 r
    subst e1
    obtain ⟨h1, h2, h3⟩ := ok
    rw [List.nodup_append] at nd
    obtain ⟨own1, e1, m1⟩ := e.put r1 nd.1 (fun p hp => dj p (List.mem_append_left _ hp)) h1 h2
    obtain ⟨own2, e2, m2⟩ := Env.puts (is := is) (vs := vs) (Γr := Γr) e1 r2 nd.2.1 (fun p hp => ⟨(dj p (List.mem_append_right _ hp)).1, (dj p (List.mem_append_right _ hp)).2.1, fun z => by
      rcases (m1 p).mp z with z | z
      · exact nd.2.2 p z p hp rfl
      · exact (dj p (List.mem_append_right _ hp)).2.2 z⟩) (by simpa using hl) h3
    refine ⟨own2, e2, fun p => ?_⟩
    rw [m2, m1, List.mem_append]
    constructor
    · rintro (z | z | z) <;> simp [z]
    · rintro ((z | z) | z) <;> simp [z]
  | i :: is, v :: vs, [], _, _, _, _, _, r, _, _, _, _ => (show False from r).elim
  | [], _ :: _, _, _, _, _, _, _, _, _, _, hl, _ => by simp at hl
  | _ :: _, [], _, _, _, _, _, _, _, _, _, hl, _ => by simp at hl
theorem envR_len {h : Hp} : ∀ {vs : List V} {Γr : Ctx} {ps : List Addr}, EnvR h H (vs.map some) Γr ps → vs.length = Γr.length := fun r => by
  have := r.length
  rwa [List.length_map] at this
theorem s_puts {is : List Nat} {Γr : Ctx} {ts : TS} (hts : ∀ D σ H, ts D σ H = ta σ H fun vs H1 => ∃ _ : vs.length = is.length, D.nx (TP.puts σ (is.zip vs)) H1) (h : AN F.G Γ ta Γ1 Γr) (hl : is.length = Γr.length) (ok : okPuts Γ1 (is.zip Γr)) (k : KT F gp (putC Γ1 (is.zip Γr)) D.nx) : KT F gp Γ (ts D) := fun M own σ H s e gg => by
  rw [hts]
  refine h M own σ H s.ok e _ fun vs H1 ps x1 k1 e1 nd hp r1 => ⟨by rw [hl]; exact envR_len r1, ?_⟩
  have dj : ∀ p ∈ ps, p ∈ ps ++ M ∧ p ∉ F.G ∧ p ∉ own := fun p hm => ⟨List.mem_append_left _ hm, fun z => s.ok.al p (s.ok.sub p z) (hp p hm), fun z => s.ok.al p (e.sub p z) (hp p hm)⟩
  obtain ⟨own', e2, mm⟩ := e1.puts r1 nd dj (by rw [hl]; exact (envR_len r1).symm) ok
  exact k (ps ++ M) own' _ H1 (s.fresh e x1 k1 hp fun p hm => (mm p).mp hm) e2 (gp.mono (hid_more s.ok e x1 hp) gg)
theorem s_setN {i : Nat} {O : Ow} (h : EN F.G Γ te Γ1 O) (hp : PlainAt Γ1 i) (hi : i < Γ1.length) (k : KT F gp (Γ1.set i (.own O)) D.nx) : KT F gp Γ (tAsg te (gName i) D) :=
  s_puts (is := [i]) (ta := tCons te tNil) (Γr := [.own O]) (ts := fun D σ H => te σ H fun v H1 => D.nx (σ.set i (some v)) H1) (fun D σ H => by
    show te σ H _ = te σ H _
    congr 1
    funext v H1
    refine propext ⟨fun z => ⟨rfl, z⟩, fun ⟨_, z⟩ => z⟩) (an_fr h an_nil) rfl ⟨hp, hi, trivial⟩ k
theorem s_par2N {i j : Nat} {Γr : Ctx} (h : AN F.G Γ t Γ1 Γr) (hl : Γr.length = 2) (ok : okPuts Γ1 ([i, j].zip Γr)) (k : KT F gp (putC Γ1 ([i, j].zip Γr)) D.nx) : KT F gp Γ (tPar i j t D) :=
  s_puts (is := [i, j]) (ts := tPar i j t) (fun D σ H => by
    show t σ H _ = t σ H _
    congr 1
    funext vs H1
    refine propext ⟨fun ⟨v, w, e, z⟩ => ⟨by rw [e]; rfl, by rw [e]; exact z⟩, fun ⟨e, z⟩ => ?_⟩
    match vs, e with
    | [v, w], _ => exact ⟨v, w, rfl, z⟩) h (by rw [hl]; rfl) ok k
end
end TP

set_option Elab.async false
set_option linter.all false
set_option maxRecDepth 100000
set_option maxHeartbeats 4000000
namespace TP
open PySem PySem.Spec PyProof.Rows L2
section
variable {F : Fm} {gp : Gp} {G M own : List Addr} {H H' : Hp} {σ : L2.St} {Γ Γ' Γ0 Γ1 Γ2 Γ3 : Ctx} {ι α β γ : Type} {R : Rp α} {S : Rp β} {a : α} {b : β} {te ta tb : TE} {tt : TT} {t tr : TA} {D : Ends} {K : PySem.W.Frag} {g : TG} {wi : TI} {vs ws : List Nat} {xs : List α} {ys : List β}
theorem s_par3N {i j l : Nat} {Γr : Ctx} (h : AN F.G Γ t Γ1 Γr) (hl : Γr.length = 3) (ok : okPuts Γ1 ([i, j, l].zip Γr)) (k : KT F gp (putC Γ1 ([i, j, l].zip Γr)) D.nx) : KT F gp Γ (tPar3 i j l t D) :=
  s_puts (is := [i, j, l]) (ts := tPar3 i j l t) (fun D σ H => by
    show t σ H _ = t σ H _
    congr 1
    funext vs H1
    refine propext ⟨fun ⟨u, v, w, e, z⟩ => ⟨by rw [e]; rfl, by rw [e]; exact z⟩, fun ⟨e, z⟩ => ?_⟩
    match vs, e with
    | [u, v, w], _ => exact ⟨u, v, w, rfl, z⟩) h (by rw [hl]; rfl) ok k
/-! ### a module's int -/
theorem pe_globI {X : Cx} {x : Str} {i : Int} {pos : Pos} (hg : Gl X x) (h : ∃ t, X.mg x = some (.int i t)) (hd : (x == ("__debug__" : Str)) = false := by decide) : PE X (.Name x pos) (tC (.int i)) := by
  obtain ⟨t, h⟩ := h
  exact pe_glob hg h ⟨_, rfl⟩ hd
/-! ### enumerate, zip of tuples -/
theorem src_enumT (h : EA G Γ t Γ' [⟨rTup R, xs⟩]) : ES G Γ (EnT.iEnumT K t) Γ' (rT2 rInt R) (enumL xs) := fun M own σ H k e Q q => h M own σ H k e _ fun vs H1 x1 k1 e1 r1 => by
  cases r1 with
  | cons a r =>
    cases r
    obtain ⟨p, ws, e', hp, r⟩ := a
    have e' : _ = V.ref p := e'
    subst e'
    have hl : (enumL xs).length = ws.length := by rw [enumL_length, r.length]
    refine ⟨p, ws, rfl, SqT.of (hid_some hp).2, q _ H1 ⟨fun h => h p = some (.tup ws) ∧ All2 (R.rep h) ws xs, fun k z => ⟨k _ _ z.1, z.2.imp fun _ _ => R.mono k⟩⟩ x1 k1 e1 ⟨_, _, hl.symm ▸ EnT.walk_enumT (K := K) (a := p) (xs := ws), fun h H s z => SqT.of (s _ _ z.1), fun i x M H H' hi k z y => ?_⟩ ⟨hp, r⟩⟩
    obtain ⟨T, x', y', rfl, hT, rfl, h1, h2⟩ := y
    cases h1
    obtain ⟨b, h3, h4⟩ := z.2.getL h2
    obtain ⟨p1, p2, p3⟩ := pair_new (R := rInt) (S := R) (a := (i : Int)) k hT rfl h4
    exact ⟨p1, p2, ((i : Int), b), by rw [enumL_get, h3]; rfl, p3⟩
theorem pi_zipAK {X : Cx} {e e2 : Expr} {p pos tpos : Pos} {elts : List Expr} {kk : Nat} (hK : X.K = K) (hg : Gl X "zip") (hm : X.mg "zip" = none) (ha : PA X [e, e2] t) (hs : starEach [e, e2] X.env = (false, eval e X.env) :: starEach [e2] X.env := by rfl)
    (hpl : (backTo pos (starEach [e2] X.env)).any (·.1) = false := by rfl) : PI X (.Tuple elts kk tpos) (.Call (.Name "zip" p) [e, e2] [] pos) (RZ.iZipA K t) := by subst hK; exact RZ.pi_zipA hg hm ha hs hpl
theorem walk_zipT {a b : Addr} {xs ys : List V} {n : Nat} (hn : n = min xs.length ys.length) : Walk (RZ.ItzT K a b) n (fun H => SqT K H a xs ∧ SqT K H b ys) (YPair (fun i => xs[i]?) (fun i => ys[i]?)) := by
  subst hn
  refine ⟨fun i _ hi q => ?_, fun _ q => ⟨xs, ys, q.1, q.2, by omega⟩, fun i H v H' _ q y => ?_⟩
  · exact ⟨xs, ys, xs[i]'(by omega), ys[i]'(by omega), q.1, q.2, List.getElem?_eq_getElem (by omega), List.getElem?_eq_getElem (by omega)⟩
  · obtain ⟨T, x, z, h1, h2, h3, h4, h5⟩ := y
    exact ⟨T, x, z, h1, h2, h3, h4 xs q.1, h5 ys q.2⟩
theorem src_zipT (h : EA G Γ t Γ' [⟨rTup R, xs⟩, ⟨rTup S, ys⟩]) : ES G Γ (RZ.iZipA K t) Γ' (rT2 R S) (xs.zip ys) := fun M own σ H k e Q q => h M own σ H k e _ fun vs H1 x1 k1 e1 r1 => by
  cases r1 with
  | cons a r => cases r with
    | cons b r =>
      cases r
      obtain ⟨p, ws, e', hp, r⟩ := a
      obtain ⟨p', ws', e'', hp', r'⟩ := b
      have e' : _ = V.ref p := e'
      subst e'
      have e'' : _ = V.ref p' := e''
      subst e''
      have hl : (xs.zip ys).length = min ws.length ws'.length := by rw [List.length_zip, r.length, r'.length]
      refine ⟨p, p', ws, ws', rfl, .inr ⟨SqT.of (hid_some hp).2, SqT.of (hid_some hp').2, q _ H1 ⟨fun h => (h p = some (.tup ws) ∧ All2 (R.rep h) ws xs) ∧ (h p' = some (.tup ws') ∧ All2 (S.rep h) ws' ys), fun k z => ⟨⟨k _ _ z.1.1, z.1.2.imp fun _ _ => R.mono k⟩, ⟨k _ _ z.2.1, z.2.2.imp fun _ _ => S.mono k⟩⟩⟩ x1 k1 e1
        ⟨_, _, hl.symm ▸ walk_zipT (K := K) (a := p) (b := p') (xs := ws) (ys := ws') rfl, fun h H s z => ⟨SqT.of (s _ _ z.1.1), SqT.of (s _ _ z.2.1)⟩, fun i x M H H' hi k z y => ?_⟩ ⟨⟨hp, r⟩, ⟨hp', r'⟩⟩⟩⟩
      obtain ⟨T, x', y', rfl, hT, rfl, h1, h2⟩ := y
      obtain ⟨b, h3, h4⟩ := z.1.2.getL h1
      obtain ⟨c, h5, h6⟩ := z.2.2.getL h2
      obtain ⟨p1, p2, p3⟩ := pair_new (R := R) (S := S) k hT h4 h6
      exact ⟨p1, p2, (b, c), by rw [List.getElem?_zip_eq_some]; exact ⟨h3, h5⟩, p3⟩
/-! ### slices -/
def cut {α : Type} (xs : List α) (lo hi : Option Int) : List α := (xs.drop (HT.sIx xs.length 0 lo)).take (HT.sIx xs.length xs.length hi - HT.sIx xs.length 0 lo)
theorem cut_all2 {G : α → β → Prop} {as : List α} {bs : List β} (h : All2 G as bs) (lo hi : Option Int) : All2 G (cut as lo hi) (cut bs lo hi) := by
  unfold cut
  rw [h.length]
  exact (h.drop _).take _
def EO (G : List Addr) (Γ : Ctx) (to : TO) (Γ' : Ctx) (o : Option Int) : Prop := ∀ M own σ H, Ok G M H → Env G M H own σ Γ → ∀ Q : Option Int → Hp → Prop, (∀ H', Ex (G ++ own) H H' → Ok G M H' → Env G M H' own σ Γ' → Q o H') → to σ H Q
theorem eo_no : EO G Γ tNoPart Γ none := fun M own σ H k e Q q => q H Ex.refl k e
theorem eo_part {i : Int} (h : E G Γ te Γ' rInt i) : EO G Γ (tPart te) Γ' (some i) := fun M own σ H k e Q q => h M own σ H k e _ fun v H1 x1 k1 e1 r1 => ⟨i, r1, q H1 x1 k1 e1⟩
theorem e_slL {tl th : TO} {lo hi : Option Int} (ha : E G Γ ta Γ1 (rList R) xs) (hl : EO G Γ1 tl Γ2 lo) (hh : EO G Γ2 th Γ3 hi) : E G Γ (tSl (rSlL K) ta tl th) Γ3 (rList R) (cut xs lo hi) := fun M own σ H k e Q q =>
  ha M own σ H k e _ fun v H1 x1 k1 e1 r1 => hl M own σ H1 k1 e1 _ fun H2 x2 k2 e2 => hh M own σ H2 k2 e2 _ fun H3 x3 k3 e3 => by
    have r1 := (rList R).mono ((x2.trans x3).hid (e1.allSub k1)) r1
    obtain ⟨p, us, rfl, hp, r⟩ := r1
    refine ⟨p, us, rfl, SqL.of (hid_some hp).2, fun l hl => ?_⟩
    have hM := k3.fresh hl
    refine q (.ref l) _ (((x1.trans x2).trans x3).trans (Ex.new hl)) (k3.new hl) (e3.ext k3 (Ex.new hl)) ⟨l, _, rfl, hid_of hM upd_same, ?_⟩
    exact (cut_all2 r lo hi).imp fun _ _ => R.mono (hid_new hM hl)
theorem e_slT {tl th : TO} {lo hi : Option Int} (ha : E G Γ ta Γ1 (rTup R) xs) (hl : EO G Γ1 tl Γ2 lo) (hh : EO G Γ2 th Γ3 hi) (hw : ¬ (HT.sIx xs.length 0 lo = 0 ∧ HT.sIx xs.length xs.length hi = xs.length)) : E G Γ (tSl (rSlT K) ta tl th) Γ3 (rTup R) (cut xs lo hi) := fun M own σ H k e Q q =>
  ha M own σ H k e _ fun v H1 x1 k1 e1 r1 => hl M own σ H1 k1 e1 _ fun H2 x2 k2 e2 => hh M own σ H2 k2 e2 _ fun H3 x3 k3 e3 => by
    have r1 := (rTup R).mono ((x2.trans x3).hid (e1.allSub k1)) r1
    obtain ⟨p, us, rfl, hp, r⟩ := r1
    refine ⟨p, us, rfl, SqT.of (hid_some hp).2, by rw [r.length]; exact hw, fun l hl => ?_⟩
    have hM := k3.fresh hl
    refine q (.ref l) _ (((x1.trans x2).trans x3).trans (Ex.new hl)) (k3.new hl) (e3.ext k3 (Ex.new hl)) ⟨l, _, rfl, hid_of hM upd_same, ?_⟩
    exact (cut_all2 r lo hi).imp fun _ _ => R.mono (hid_new hM hl)
theorem cut_drop {n : Nat} : cut xs (some (n : Int)) none = xs.drop n := by
  unfold cut
  rw [HT.sIx_nat, HT.sIx_none]
  rw [List.take_of_length_le (by rw [List.length_drop]; omega)]
  by_cases h : n ≤ xs.length
  · rw [Nat.min_eq_left h]
  · rw [Nat.min_eq_right (by omega), List.drop_length, List.drop_eq_nil_of_le (by omega)]
theorem cut_take {n : Nat} : cut xs none (some (n : Int)) = xs.take n := by
  unfold cut
  rw [HT.sIx_nat, HT.sIx_none, List.drop_zero, Nat.sub_zero]
  by_cases h : n ≤ xs.length
  · rw [Nat.min_eq_left h]
  · rw [Nat.min_eq_right (by omega), List.take_length, List.take_of_length_le (by omega)]
theorem cut_last : cut xs none (some (-1)) = xs.dropLast := by
  unfold cut
  have e : HT.sIx xs.length xs.length (some (-1)) = xs.length - 1 := by
    show (if (-1 : Int) < 0 then (-1 + (xs.length : Int)).toNat else min (-1 : Int).toNat xs.length) = _
    rw [if_pos (by decide)]
    omega
  rw [e, HT.sIx_none, List.drop_zero, Nat.sub_zero, List.dropLast_eq_take]
theorem sl_part {n : Nat} (hn : 0 < n) (h : xs ≠ []) : ¬ (HT.sIx xs.length 0 (some (n : Int)) = 0 ∧ HT.sIx xs.length xs.length none = xs.length) := fun z => by
  have := z.1
  rw [HT.sIx_nat] at this
  have : 0 < xs.length := List.length_pos_iff.mpr h
  omega
/-! ### one's own list, read whole -/
theorem e_tupO {i : Nat} {c : Addr → Prop} (hx : Γ[i]? = some (.own (oLstP c R xs))) : E G Γ (tCB (fun xs H Q => ∃ p ys, xs = [.ref p] ∧ ((SqL K H p ys ∧ ∀ l, H l = none → Q (.ref l) (upd H l (.tup ys))) ∨ (SqT K H p ys ∧ Q (.ref p) H))) (tCons (tVar i) tNil)) Γ (rTup R) xs := fun M own σ H k e Q q => by
  obtain ⟨v, p1, pi, p2, f⟩ := e.env.focus hx
  obtain ⟨p, us, hc, rfl, rfl, hp, r⟩ := f.own
  refine ⟨.ref p, f.at_, p, us, rfl, .inl ⟨SqL.of hp, fun l hl => ?_⟩⟩
  have hM := k.fresh hl
  exact q (.ref l) _ (Ex.new hl) (k.new hl) (e.ext k (Ex.new hl)) ⟨l, us, rfl, hid_of hM upd_same, r.imp fun _ _ => R.mono (hid_new hM hl)⟩
theorem e_listL (h : EA G Γ t Γ1 [⟨rList R, xs⟩]) : E G Γ (tCB (fun xs H Q => ∃ p ys, xs = [.ref p] ∧ (SqL K H p ys ∨ SqT K H p ys) ∧ ∀ l, H l = none → Q (.ref l) (upd H l (.lst ys))) t) Γ1 (rList R) xs := e_cb h fun M H vs Q k r q => by
  cases r with
  | cons r0 r =>
    cases r
    obtain ⟨p, us, e, hp, r⟩ := r0
    have e : _ = V.ref p := e
    subst e
    refine ⟨p, us, rfl, .inl (SqL.of (hid_some hp).2), fun l hl => ?_⟩
    have hM := k.fresh hl
    exact q (.ref l) _ (Ex.new hl) (k.new hl) ⟨l, us, rfl, hid_of hM upd_same, r.imp fun _ _ => R.mono (hid_new hM hl)⟩
theorem e_listT (h : EA G Γ t Γ1 [⟨rTup R, xs⟩]) : E G Γ (tCB (fun xs H Q => ∃ p ys, xs = [.ref p] ∧ (SqL K H p ys ∨ SqT K H p ys) ∧ ∀ l, H l = none → Q (.ref l) (upd H l (.lst ys))) t) Γ1 (rList R) xs := e_cb h fun M H vs Q k r q => by
  cases r with
  | cons r0 r =>
    cases r
    obtain ⟨p, us, e, hp, r⟩ := r0
    have e : _ = V.ref p := e
    subst e
    refine ⟨p, us, rfl, .inr (SqT.of (hid_some hp).2), fun l hl => ?_⟩
    have hM := k.fresh hl
    exact q (.ref l) _ (Ex.new hl) (k.new hl) ⟨l, us, rfl, hid_of hM upd_same, r.imp fun _ _ => R.mono (hid_new hM hl)⟩
/-- tuple(xs), xs a list or a tuple -/
theorem e_tupT' (h : EA G Γ t Γ1 [⟨rTup R, xs⟩]) : E G Γ (tCB (fun xs H Q => ∃ p ys, xs = [.ref p] ∧ ((SqL K H p ys ∧ ∀ l, H l = none → Q (.ref l) (upd H l (.tup ys))) ∨ (SqT K H p ys ∧ Q (.ref p) H))) t) Γ1 (rTup R) xs := e_cb h fun M H vs Q k r q => by
  cases r with
  | cons r0 r =>
    cases r
    obtain ⟨p, us, e, hp, r⟩ := r0
    have e : _ = V.ref p := e
    subst e
    exact ⟨p, us, rfl, .inr ⟨SqT.of (hid_some hp).2, q (.ref p) H Ex.refl k ⟨p, us, rfl, hp, r⟩⟩⟩
/-- the last -/
theorem atI_m1 {d : α} (h : xs ≠ []) : atI xs (-1) = some (xs.getLastD d) := by
  have e := List.dropLast_concat_getLast h
  have e2 : xs.getLastD d = xs.getLast h := by
    rw [List.getLastD_eq_getLast?]
    simp [List.getLast?_eq_some_getLast, h]
  rw [e2]
  conv => lhs; rw [← e]
  exact atI_last _ _
theorem e_ixTm {d : α} {i : Int} (ha : E G Γ ta Γ1 (rTup R) xs) (hb : E G Γ1 tb Γ2 rInt i) (hi : i = -1) (h : xs ≠ []) : E G Γ (tOp (rIxT K) ta tb) Γ2 R (xs.getLastD d) := e_ixT ha hb (by rw [hi]; exact atI_m1 h)
theorem e_ixLm {d : α} {i : Int} (ha : E G Γ ta Γ1 (rList R) xs) (hb : E G Γ1 tb Γ2 rInt i) (hi : i = -1) (h : xs ≠ []) : E G Γ (tOp (rIxL K) ta tb) Γ2 R (xs.getLastD d) := e_ixL ha hb (by rw [hi]; exact atI_m1 h)
/-! ### numbers -/
theorem e_max2 {i j : Int} (h : EA G Γ t Γ1 [⟨rInt, i⟩, ⟨rInt, j⟩]) : E G Γ (tCB (fun xs H Q => ∃ i j, xs = [.int i, .int j] ∧ Q (.int (if j > i then j else i)) H) t) Γ1 rInt (max i j) := e_cb h fun M H vs Q k r q => by
  cases r with
  | cons a r => cases r with
    | cons b r =>
      cases r
      cases a
      cases b
      refine ⟨i, j, rfl, ?_⟩
      have e : (if j > i then j else i) = max i j := by split <;> omega
      rw [e]
      exact q _ H Ex.refl k rfl
theorem e_min2 {i j : Int} (h : EA G Γ t Γ1 [⟨rInt, i⟩, ⟨rInt, j⟩]) : E G Γ (tCB (fun xs H Q => ∃ i j, xs = [.int i, .int j] ∧ Q (.int (if j < i then j else i)) H) t) Γ1 rInt (min i j) := e_cb h fun M H vs Q k r q => by
  cases r with
  | cons a r => cases r with
    | cons b r =>
      cases r
      cases a
      cases b
      refine ⟨i, j, rfl, ?_⟩
      have e : (if j < i then j else i) = min i j := by split <;> omega
      rw [e]
      exact q _ H Ex.refl k rfl
theorem e_maxL {m : Int} {ns : List Int} (h : EA G Γ t Γ1 [⟨rList rInt, ns⟩]) (hm : m ∈ ns ∧ ∀ y ∈ ns, y ≤ m) : E G Γ (tCB (L2.rMax K) t) Γ1 rInt m := e_cb h fun M H vs Q k r q => by
  cases r with
  | cons a r =>
    cases r
    obtain ⟨p, us, e, hp, r⟩ := a
    have e : _ = V.ref p := e
    subst e
    rw [all2_ints r] at hp
    refine ⟨p, ns, rfl, SqL.of (hid_some hp).2, List.length_pos_of_mem hm.1, fun m' h1 h2 => ?_⟩
    have e : m' = m := Int.le_antisymm (hm.2 _ h1) (h2 _ hm.1)
    rw [e]
    exact q _ H Ex.refl k rfl
theorem e_minL {m : Int} {ns : List Int} (h : EA G Γ t Γ1 [⟨rList rInt, ns⟩]) (hm : m ∈ ns ∧ ∀ y ∈ ns, m ≤ y) : E G Γ (tCB (L2.rMin K) t) Γ1 rInt m := e_cb h fun M H vs Q k r q => by
  cases r with
  | cons a r =>
    cases r
    obtain ⟨p, us, e, hp, r⟩ := a
    have e : _ = V.ref p := e
    subst e
    rw [all2_ints r] at hp
    refine ⟨p, ns, rfl, SqL.of (hid_some hp).2, List.length_pos_of_mem hm.1, fun m' h1 h2 => ?_⟩
    have e : m' = m := Int.le_antisymm (h2 _ hm.1) (hm.2 _ h1)
    rw [e]
    exact q _ H Ex.refl k rfl
/-! ### lists joined, repeated -/
theorem e_catL {zs : List α} (ha : E G Γ ta Γ1 (rList R) xs) (hb : E G Γ1 tb Γ2 (rList R) zs) (hl : xs.length + zs.length ≤ 100000) : E G Γ (tOp rCat ta tb) Γ2 (rList R) (xs ++ zs) := fun M own σ H k e Q q =>
  ha M own σ H k e _ fun v H1 x1 k1 e1 r1 => hb M own σ H1 k1 e1 _ fun u H2 x2 k2 e2 r2 => by
    have r1 := (rList R).mono (x2.hid (e1.allSub k1)) r1
    obtain ⟨p, us, rfl, hp, r⟩ := r1
    obtain ⟨p', us', rfl, hp', r'⟩ := r2
    refine ⟨p, p', us, us', rfl, rfl, (hid_some hp).2, (hid_some hp').2, small_len (by rw [r.length, r'.length]; exact hl), fun l hl => ?_⟩
    have hM := k2.fresh hl
    exact q (.ref l) _ ((x1.trans x2).trans (Ex.new hl)) (k2.new hl) (e2.ext k2 (Ex.new hl)) ⟨l, _, rfl, hid_of hM upd_same, (r.append r').imp fun _ _ => R.mono (hid_new hM hl)⟩
theorem all2_rep {F : α → β → Prop} {as : List α} {bs : List β} (h : All2 F as bs) : ∀ n : Nat, All2 F (List.replicate n as).flatten (List.replicate n bs).flatten
  | 0 => .nil
  | n + 1 => by
    rw [List.replicate_succ, List.replicate_succ, List.flatten_cons, List.flatten_cons]
    exact h.append (all2_rep h n)
theorem e_rep {n : Int} (ha : E G Γ ta Γ1 (rList R) xs) (hb : E G Γ1 tb Γ2 rInt n) (hl : n ≤ 100000 ∧ -100000 ≤ n ∧ xs.length * n.toNat ≤ 100000) : E G Γ (tOp rRep ta tb) Γ2 (rList R) (List.replicate n.toNat xs).flatten := fun M own σ H k e Q q =>
  ha M own σ H k e _ fun v H1 x1 k1 e1 r1 => hb M own σ H1 k1 e1 _ fun u H2 x2 k2 e2 r2 => by
    have r1 := (rList R).mono (x2.hid (e1.allSub k1)) r1
    obtain ⟨p, us, rfl, hp, r⟩ := r1
    have r2 : u = V.int n := r2
    subst r2
    refine ⟨p, n, us, rfl, rfl, (hid_some hp).2, by omega, by omega, small_len (by rw [r.length]; exact hl.2.2), fun l hl => ?_⟩
    have hM := k2.fresh hl
    exact q (.ref l) _ ((x1.trans x2).trans (Ex.new hl)) (k2.new hl) (e2.ext k2 (Ex.new hl)) ⟨l, _, rfl, hid_of hM upd_same, (all2_rep r _).imp fun _ _ => R.mono (hid_new hM hl)⟩
theorem rep1 {x : α} {n : Nat} : (List.replicate n [x]).flatten = List.replicate n x := by
  induction n with
  | zero => rfl
  | succ n ih => rw [List.replicate_succ, List.flatten_cons, ih]; rfl
/-! ### own == [] -/
theorem e_eqEO {i : Nat} {c : Addr → Prop} (hx : Γ[i]? = some (.own (oLstP c R xs))) : E G Γ (tOp (rEqE K) (tVar i) (tLst tNil)) Γ rBool xs.isEmpty := fun M own σ H k e Q q => by
  obtain ⟨v, p1, pi, p2, f⟩ := e.env.focus hx
  obtain ⟨p, us, hc, rfl, rfl, hp, r⟩ := f.own
  refine ⟨.ref p, f.at_, show _ ≤ sizeLine from Nat.zero_le _, fun l hl => ?_⟩
  have hpl : p ≠ l := fun z => by rw [z, hl] at hp; cases hp
  have := q (.bl us.isEmpty) (upd H l (.lst [])) (Ex.new hl) (k.new hl) (e.ext k (Ex.new hl)) (show V.bl _ = V.bl _ by rw [emp_iff r])
  exact ⟨p, l, us, rfl, rfl, SqL.of (by rw [upd_ne hpl]; exact hp), SqL.of upd_same, this⟩
section
variable {P : Addr} {f' : α → Int} {q : α → Bool} {Γx : α → Ctx} {f : α → β}
theorem e_tupT0 (hP : P ∈ G) (hs : ES G Γ0 wi Γ R xs) (hl : xs.length ≤ 100000) (hn : ∀ i ∈ vs, NoAt Γ i) (tg : ∀ x, x ∈ xs → Tg G g R x Γ (Γx x) ws) (hw : ∀ i ∈ ws, i ∈ vs) (hb : ∀ x, Back (Γx x) Γ vs) (he : ∀ x, x ∈ xs → E G (Γx x) te (Γx x) S (f x)) :
    E G Γ0 (GX.tTupG P wi g tYes te vs) Γ (rTup S) (xs.map f) := by
  have := e_tupG (p := fun _ => true) (f := f) hP hs hl hn (turn_of (p := fun _ => true) tg hw hb (fun x _ => t_yes) fun x hx _ => he x hx)
  rw [filter_yes] at this
  exact this
theorem e_tupT {p : α → Bool} (hP : P ∈ G) (hs : ES G Γ0 wi Γ R xs) (hl : xs.length ≤ 100000) (hn : ∀ i ∈ vs, NoAt Γ i) (tg : ∀ x, x ∈ xs → Tg G g R x Γ (Γx x) ws) (hw : ∀ i ∈ ws, i ∈ vs) (hb : ∀ x, Back (Γx x) Γ vs) (ht : ∀ x, x ∈ xs → ET G (Γx x) tt (Γx x) (p x)) (he : ∀ x, x ∈ xs → p x = true → E G (Γx x) te (Γx x) S (f x)) :
    E G Γ0 (GX.tTupG P wi g tt te vs) Γ (rTup S) ((xs.filter p).map f) := e_tupG hP hs hl hn (turn_of tg hw hb ht he)
theorem e_mmT0 {better : Int → Int → Bool} {m : Int} (hP : P ∈ G) (hs : ES G Γ0 wi Γ R xs) (hl : xs.length ≤ 100000) (hn : ∀ i ∈ vs, NoAt Γ i) (tg : ∀ x, x ∈ xs → Tg G g R x Γ (Γx x) ws) (hw : ∀ i ∈ ws, i ∈ vs) (hb : ∀ x, Back (Γx x) Γ vs) (he : ∀ x, x ∈ xs → E G (Γx x) te (Γx x) rInt (f' x))
    (hm : GX.best better (xs.map f') = some m) : E G Γ0 (GX.tMMG better P wi g tYes te vs) Γ rInt m := by
  exact e_mmG (p := fun _ => true) (f := f') hP hs hl hn (turn_of (p := fun _ => true) tg hw hb (fun x _ => t_yes) fun x hx _ => he x hx) (by rw [filter_yes]; exact hm)
end
end
end TP

set_option Elab.async false
set_option linter.all false
set_option maxRecDepth 100000
set_option maxHeartbeats 4000000
namespace TP
open PySem PySem.Spec PyProof.Rows L2
/-! ### the greatest, the least -/
def maxL (ns : List Int) : Int := ns.foldl max (ns.headD 0)
def minL (ns : List Int) : Int := ns.foldl min (ns.headD 0)
theorem foldl_max : ∀ (ns : List Int) (m : Int), (ns.foldl max m = m ∨ ns.foldl max m ∈ ns) ∧ m ≤ ns.foldl max m ∧ ∀ y ∈ ns, y ≤ ns.foldl max m
  | [], m => ⟨.inl rfl, Int.le_refl _, fun y hy => by cases hy⟩
  | n :: ns, m => by
    obtain ⟨h1, h2, h3⟩ := foldl_max ns (max m n)
    rw [List.foldl_cons]
    refine ⟨?_, by omega, fun y hy => ?_⟩
    · rcases h1 with h1 | h1
      · rw [h1]
        by_cases h : n ≤ m
        · exact .inl (by omega)
        · exact .inr (by rw [show max m n = n by omega]; exact List.mem_cons_self)
      · exact .inr (List.mem_cons_of_mem _ h1)
    · rcases List.mem_cons.mp hy with z | z
      · rw [z]; omega
      · exact h3 y z
theorem foldl_min : ∀ (ns : List Int) (m : Int), (ns.foldl min m = m ∨ ns.foldl min m ∈ ns) ∧ ns.foldl min m ≤ m ∧ ∀ y ∈ ns, ns.foldl min m ≤ y
  | [], m => ⟨.inl rfl, Int.le_refl _, fun y hy => by cases hy⟩
  | n :: ns, m => by
    obtain ⟨h1, h2, h3⟩ := foldl_min ns (min m n)
    rw [List.foldl_cons]
    refine ⟨?_, by omega, fun y hy => ?_⟩
    · rcases h1 with h1 | h1
      · rw [h1]
        by_cases h : m ≤ n
        · exact .inl (by omega)
        · exact .inr (by rw [show min m n = n by omega]; exact List.mem_cons_self)
      · exact .inr (List.mem_cons_of_mem _ h1)
    · rcases List.mem_cons.mp hy with z | z
      · rw [z]; omega
      · exact h3 y z
theorem maxL_spec {ns : List Int} (h : ns ≠ []) : maxL ns ∈ ns ∧ ∀ y ∈ ns, y ≤ maxL ns := by
  cases ns with
  | nil => exact absurd rfl h
  | cons n r =>
    obtain ⟨h1, h2, h3⟩ := foldl_max (n :: r) n
    exact ⟨by rcases h1 with h1 | h1; (show List.foldl max n (n :: r) ∈ _; rw [h1]; exact List.mem_cons_self); exact h1, h3⟩
theorem minL_spec {ns : List Int} (h : ns ≠ []) : minL ns ∈ ns ∧ ∀ y ∈ ns, minL ns ≤ y := by
  cases ns with
  | nil => exact absurd rfl h
  | cons n r =>
    obtain ⟨h1, h2, h3⟩ := foldl_min (n :: r) n
    exact ⟨by rcases h1 with h1 | h1; (show List.foldl min n (n :: r) ∈ _; rw [h1]; exact List.mem_cons_self); exact h1, h3⟩
theorem maxL_of {ns : List Int} {m : Int} (h1 : m ∈ ns) (h2 : ∀ y ∈ ns, y ≤ m) : maxL ns = m := by
  have hne : ns ≠ [] := fun z => by rw [z] at h1; cases h1
  obtain ⟨h3, h4⟩ := maxL_spec hne
  exact Int.le_antisymm (h2 _ h3) (h4 _ h1)
theorem minL_of {ns : List Int} {m : Int} (h1 : m ∈ ns) (h2 : ∀ y ∈ ns, m ≤ y) : minL ns = m := by
  have hne : ns ≠ [] := fun z => by rw [z] at h1; cases h1
  obtain ⟨h3, h4⟩ := minL_spec hne
  exact Int.le_antisymm (h4 _ h1) (h2 _ h3)
theorem best_mx : ∀ (ns : List Int) (m : Int), ns.foldl (GX.bestF GX.betmax) (some m) = some (ns.foldl max m)
  | [], _ => rfl
  | n :: ns, m => by
    rw [List.foldl_cons, List.foldl_cons]
    show ns.foldl (GX.bestF GX.betmax) (some (if GX.betmax n m = true then n else m)) = _
    rw [best_mx]
    congr 2
    show (if decide (m < n) = true then n else m) = _
    by_cases h : m < n
    · rw [if_pos (decide_eq_true h)]; omega
    · rw [if_neg (by simpa using h)]; omega
theorem best_mn : ∀ (ns : List Int) (m : Int), ns.foldl (GX.bestF GX.betmin) (some m) = some (ns.foldl min m)
  | [], _ => rfl
  | n :: ns, m => by
    rw [List.foldl_cons, List.foldl_cons]
    show ns.foldl (GX.bestF GX.betmin) (some (if GX.betmin n m = true then n else m)) = _
    rw [best_mn]
    congr 2
    show (if decide (n < m) = true then n else m) = _
    by_cases h : n < m
    · rw [if_pos (decide_eq_true h)]; omega
    · rw [if_neg (by simpa using h)]; omega
theorem best_max {ns : List Int} (h : ns ≠ []) : GX.best GX.betmax ns = some (maxL ns) := by
  cases ns with
  | nil => exact absurd rfl h
  | cons n r =>
    show r.foldl (GX.bestF GX.betmax) (some n) = some ((n :: r).foldl max n)
    rw [best_mx, List.foldl_cons, show max n n = n by omega]
theorem best_min {ns : List Int} (h : ns ≠ []) : GX.best GX.betmin ns = some (minL ns) := by
  cases ns with
  | nil => exact absurd rfl h
  | cons n r =>
    show r.foldl (GX.bestF GX.betmin) (some n) = some ((n :: r).foldl min n)
    rw [best_mn, List.foldl_cons, show min n n = n by omega]
section
variable {F : Fm} {gp : Gp} {G M own : List Addr} {H H' : Hp} {σ : L2.St} {Γ Γ' Γ0 Γ1 Γ2 Γ3 : Ctx} {ι α β γ : Type} {R : Rp α} {S : Rp β} {a : α} {b : β} {te ta tb : TE} {tt : TT} {t tr : TA} {D : Ends} {K : PySem.W.Frag} {g : TG} {wi : TI} {vs ws : List Nat} {xs : List α} {ys : List β}
theorem e_maxLd {ns : List Int} (h : EA G Γ t Γ1 [⟨rList rInt, ns⟩]) (hne : ns ≠ []) : E G Γ (tCB (L2.rMax K) t) Γ1 rInt (maxL ns) := e_maxL h (maxL_spec hne)
theorem e_minLd {ns : List Int} (h : EA G Γ t Γ1 [⟨rList rInt, ns⟩]) (hne : ns ≠ []) : E G Γ (tCB (L2.rMin K) t) Γ1 rInt (minL ns) := e_minL h (minL_spec hne)
variable {P : Addr} {f' : α → Int} {q : α → Bool} {Γx : α → Ctx} {f : α → β}
theorem e_maxT0 (hP : P ∈ G) (hs : ES G Γ0 wi Γ R xs) (hl : xs.length ≤ 100000) (hn : ∀ i ∈ vs, NoAt Γ i) (tg : ∀ x, x ∈ xs → Tg G g R x Γ (Γx x) ws) (hw : ∀ i ∈ ws, i ∈ vs) (hb : ∀ x, Back (Γx x) Γ vs) (he : ∀ x, x ∈ xs → E G (Γx x) te (Γx x) rInt (f' x))
    (hne : xs.map f' ≠ []) : E G Γ0 (GX.tMMG GX.betmax P wi g tYes te vs) Γ rInt (maxL (xs.map f')) := e_mmT0 hP hs hl hn tg hw hb he (best_max hne)
theorem e_minT0 (hP : P ∈ G) (hs : ES G Γ0 wi Γ R xs) (hl : xs.length ≤ 100000) (hn : ∀ i ∈ vs, NoAt Γ i) (tg : ∀ x, x ∈ xs → Tg G g R x Γ (Γx x) ws) (hw : ∀ i ∈ ws, i ∈ vs) (hb : ∀ x, Back (Γx x) Γ vs) (he : ∀ x, x ∈ xs → E G (Γx x) te (Γx x) rInt (f' x))
    (hne : xs.map f' ≠ []) : E G Γ0 (GX.tMMG GX.betmin P wi g tYes te vs) Γ rInt (minL (xs.map f')) := e_mmT0 hP hs hl hn tg hw hb he (best_min hne)
/-- an int that is counted on -/
theorem s_augD {i : Nat} {n m : Int} {f : Int → Int → Int} (hx : Γ[i]? = some (.val rInt n)) (h : E F.G Γ te Γ rInt m) (k : KT F gp (Γ.set i (.val rInt (f n m))) D.nx) : KT F gp Γ (tAug i te (ipI f) D) := s_augI hx h k
/-- a slot's name may be forgotten, an own thing let go -/
theorem KT.lst {i : Nat} {c : Addr → Prop} {P : L2.St → Hp → Prop} (hO : F.own0 = []) (hx : Γ[i]? = some (.own (oLstP c R xs))) (k : KT F gp (Γ.set i (.val (rList R) xs)) P) : KT F gp Γ P :=
  KT.out (s := .val (rList R) xs) hO hx (fun h H ps v ⟨p, vs, _, e1, e2, e3, r⟩ hp => ⟨p, vs, e1, by rw [hp p (by rw [e2]; exact List.mem_singleton.mpr rfl)]; exact e3, r⟩) k
end
end TP

set_option Elab.async false
set_option linter.all false
set_option maxRecDepth 100000
set_option maxHeartbeats 4000000
namespace TP
open PySem PySem.Spec PyProof.Rows L2
section
variable {F : Fm} {gp : Gp} {G M own : List Addr} {H H' : Hp} {σ : L2.St} {Γ Γ' Γ0 Γ1 Γ2 Γ3 : Ctx} {ι α β γ : Type} {R : Rp α} {S : Rp β} {a : α} {b : β} {te ta tb : TE} {tt : TT} {t tr : TA} {D : Ends} {K : PySem.W.Frag} {g : TG} {wi : TI} {vs ws : List Nat} {xs : List α} {ys : List β}
theorem look_all2 {h : Hp} {f : Str} {d : Dy} : ∀ {vs : List (Str × V)} {fs : List (Str × Dy)}, All2 (fun (q : Str × V) (x : Str × Dy) => q.1 = x.1 ∧ x.2.R.rep h q.2 x.2.a) vs fs → fs.lookup f = some d → ∃ w, vs.lookup f = some w ∧ d.R.rep h w d.a
  | _, _, .nil, e => by cases e
  | (n, v) :: vs, (m, y) :: fs, .cons a r, e => by
    obtain ⟨e1, r1⟩ := a
    have e1 : n = m := e1
    subst e1
    rw [List.lookup_cons] at e ⊢
    by_cases h : f == n
    · rw [h] at e ⊢
      cases e
      exact ⟨v, rfl, r1⟩
    · simp only [Bool.not_eq_true] at h
      rw [h] at e ⊢
      exact look_all2 r e
/-- a field of one's own instance -/
theorem e_fldO {i : Nat} {p C : Addr} {fs : List (Str × Dy)} {f : Str} (hc : Cls K C) (hn : NoAttr K C f) (hx : Γ[i]? = some (.own (oInsP p C fs))) (hf : fs.lookup f = some ⟨R, a⟩) : E G Γ (tFld K (tVar i) f) Γ R a := fun M own σ H k e Q q => by
  obtain ⟨v, p1, pi, p2, fo⟩ := e.env.focus hx
  obtain ⟨rfl, rfl, dx, vs, hp, r⟩ := fo.own
  obtain ⟨w, hw, rw⟩ := look_all2 r hf
  exact ⟨.ref p, fo.at_, p, C, dx, vs, w, rfl, hp, hc, hn, hw, q w H Ex.refl k e rw⟩
theorem op_ltI {i j : Int} : Op2 G (rI0 fun i j => .bl (decide (i < j))) rInt i rInt j rBool (decide (i < j)) := op_I0 (f := fun i j => decide (i < j)) fun _ => rfl
theorem op_leI {i j : Int} : Op2 G (rI0 fun i j => .bl (decide (i ≤ j))) rInt i rInt j rBool (decide (i ≤ j)) := op_I0 (f := fun i j => decide (i ≤ j)) fun _ => rfl
def okB : Ctx → List (Nat × Sl) → Bool
  | _, [] => true
  | Γ, (i, s) :: r => plB Γ [i] && (decide (i < Γ.length) && okB (Γ.set i s) r)
theorem oks : ∀ {Γ : Ctx} {l : List (Nat × Sl)}, okB Γ l = true → okPuts Γ l
  | _, [], _ => trivial
  | Γ, (i, s) :: r, h => by
    have h : (plB Γ [i] && (decide (i < Γ.length) && okB (Γ.set i s) r)) = true := h
    rw [Bool.and_eq_true, Bool.and_eq_true] at h
    exact ⟨plain1 h.1, of_decide_eq_true h.2.1, oks h.2.2⟩
end
end TP
namespace TP
open PySem PySem.Spec PyProof.Rows L2
theorem es_is {G : List Addr} {Γ Γ' : Ctx} {wi : TI} {α : Type} {R : Rp α} {xs ys : List α} (h : ES G Γ wi Γ' R xs) (e : xs = ys) : ES G Γ wi Γ' R ys := e ▸ h
end TP
namespace TP
open PySem PySem.Spec PyProof.Rows L2
theorem et_is {G : List Addr} {Γ Γ' : Ctx} {tt : TT} {b c : Bool} (h : ET G Γ tt Γ' b) (e : b = c) : ET G Γ tt Γ' c := e ▸ h
end TP
namespace TP
open PySem PySem.Spec PyProof.Rows L2
theorem tg_t4 {G : List Addr} {Γ Γ1 Γ2 Γ3 Γ4 : Ctx} {α β γ δ : Type} {R : Rp α} {S : Rp β} {T : Rp γ} {U : Rp δ} {a : α} {b : β} {c : γ} {d : δ} {K : PySem.W.Frag} {g1 g2 g3 g4 : TG} {w1 w2 w3 w4 : List Nat} (h1 : Tg G g1 R a Γ Γ1 w1) (h2 : Tg G g2 S b Γ1 Γ2 w2) (h3 : Tg G g3 T c Γ2 Γ3 w3) (h4 : Tg G g4 U d Γ3 Γ4 w4) :
    Tg G (gTup K 4 (gCons g1 (gCons g2 (gCons g3 (gCons g4 gNil))))) (rT4 R S T U) (a, b, c, d) Γ Γ4 (w1 ++ (w2 ++ (w3 ++ w4))) := fun M own σ H v Q k e r q => by
  obtain ⟨p, x, y, z, u, rfl, hp, ra, rb, rc, rd⟩ := r
  refine ⟨p, [x, y, z, u], rfl, SqT.of (hid_some hp).2, rfl, x, [y, z, u], rfl, h1 M own σ H x _ k e ra fun σ1 s1 e1 => ?_⟩
  refine ⟨y, [z, u], rfl, h2 M own σ1 H y _ k e1 rb fun σ2 s2 e2 => ?_⟩
  refine ⟨z, [u], rfl, h3 M own σ2 H z _ k e2 rc fun σ3 s3 e3 => ?_⟩
  exact ⟨u, [], rfl, h4 M own σ3 H u _ k e3 rd fun σ4 s4 e4 => ⟨rfl, q σ4 (fun vs hv => (((s4 vs fun i hi => hv i (by simp [hi])).trans (s3 vs fun i hi => hv i (by simp [hi]))).trans (s2 vs fun i hi => hv i (by simp [hi]))).trans (s1 vs fun i hi => hv i (by simp [hi]))) e4⟩⟩
theorem e_inr {G : List Addr} {Γ Γ' : Ctx} {te : TE} {α : Type} {R : Rp α} {s : Str} (h : E G Γ te Γ' (rSum R rStr) (.inr s)) : E G Γ te Γ' rStr s := h
end TP

set_option Elab.async false
set_option linter.all false
set_option maxRecDepth 100000
set_option maxHeartbeats 4000000
/-! what is made stands still from then on; a module's dict walked -/
namespace DkL
open PySem PySem.Spec PyProof.Rows L2
/-- e's thing is locked for good -/
def tFrz (te : TE) : TE := fun σ H Q => te σ H fun v H1 => ∃ d u, v = .ref d ∧ H1 d = some u ∧ Mut (some u) ∧ ∀ od, Q v (upd H1 d (.frz od u))
theorem pe_frz {X : Cx} {e : Expr} {t : TE} (h : PE X e t) : PE X e (tFrz t) := by
  refine ⟨fun pins s σ H Q I q => ?_⟩
  refine thn (h.run pins s σ _ _ I q) fun u s1 ⟨x, H1, I1, r, d, o, ex, hd, mu, q1⟩ => ?_
  obtain ⟨od, I2⟩ := I1.lock hd mu
  exact ⟨x, _, I2, r, q1 od⟩
/-- slot i's thing is locked for good ahead of a statement -/
def tFrzS (i : Nat) (t : TS) : TS := fun D σ H => ∃ d u, σ[i]? = some (some (.ref d)) ∧ H d = some u ∧ Mut (some u) ∧ ∀ od, t D σ (upd H d (.frz od u))
theorem ps_frzS {X : Cx} {st : Stmt} {t : TS} {i : Nat} (h : PS X st t) : PS X st (tFrzS i t) := by
  refine ⟨fun pins s σ H D I q => ?_⟩
  obtain ⟨d, u, _, hd, mu, q⟩ := q
  obtain ⟨od, I1⟩ := I.lock hd mu
  exact h.run pins s σ _ _ I1 (q od)
/-- the keys of a module's dict, in their order -/
def Itm (ks : List Str) : It := ⟨fun i _ => i < ks.length, fun i H v H' => H' = H ∧ ∃ k, ks[i]? = some k ∧ v = .str k, fun i _ => ks.length ≤ i⟩
structure KD (K : PySem.W.Frag) (w : World) (d : Addr) (ks : List Str) (es : Array DictEntry) (n : Nat) : Prop where
  d : KDict K w d es n
  keys : es.toList.map He.keyOf = He.keysIn w.params ks
theorem kd_of {K : PySem.W.Frag} {w : World} {a : Addr} {ks : List Str} (h : He.dicW K a = some (He.keysIn w.params ks)) : ∃ es n, KD K w a ks es n := by
  obtain ⟨es, n, D⟩ := He.dicW_ok h
  refine ⟨es, n, D, ?_⟩
  unfold He.dicW at h
  rw [D.at_] at h
  simp only at h
  split at h
  · exact Option.some.inj h
  · cases h
theorem KD.size {K : PySem.W.Frag} {w : World} {d : Addr} {ks : List Str} {es : Array DictEntry} {n : Nat} (D : KD K w d ks es n) : es.size = ks.length := by
  have := congrArg List.length D.keys
  unfold He.keysIn at this
  simpa using this
theorem KD.key {K : PySem.W.Frag} {w : World} {d : Addr} {ks : List Str} {es : Array DictEntry} {n i : Nat} {k : Str} (D : KD K w d ks es n) (h : ks[i]? = some k) : ∃ en t, es[i]? = some en ∧ en.key = .str k t := by
  have e := congrArg (fun l => l[i]?) D.keys
  unfold He.keysIn at e
  simp only [List.getElem?_map, h, Option.map_some] at e
  cases q : es.toList[i]? with
  | none => rw [q] at e; cases e
  | some en =>
    rw [q] at e
    have e : He.keyOf en = some (k, _) := Option.some.inj e
    unfold He.keyOf at e
    split at e
    · rename_i x t hk
      have e2 := Option.some.inj e
      have e3 : x = k := congrArg Prod.fst e2
      exact ⟨en, t, by simpa using q, by rw [hk, e3]⟩
    · cases e
theorem turn_kd {K : PySem.W.Frag} {w : World} {P : Program} {tg : Expr} {d it : Addr} {ks : List Str} {es : Array DictEntry} {n : Nat} (D : KD K w d ks es n) : Turn P w K tg (Itm ks) [it] it (fun i h => h.IsKeyIter it d i ks.length n) where
  mem := by simp
  obj := fun i h st b hb => by
    rw [List.mem_singleton.mp hb]
    obtain ⟨oi, e, c, dd⟩ := st
    exact ⟨oi, e, fun v z => by rw [dd] at z; cases z⟩
  keep := fun i h h' st k => st.at fun oi e => k it (by simp) oi e
  item := by
    intro X hP hw hK hc i pins s σ H E I hf st hg
    subst hP hw hK
    have hg : i < ks.length := hg
    obtain ⟨f0, f1, f2, f3, f4, f5⟩ := hf it (by simp)
    obtain ⟨k, hk⟩ : ∃ k, ks[i]? = some k := ⟨ks[i], List.getElem?_eq_getElem hg⟩
    obtain ⟨en, t, hen, hkey⟩ := D.key hk
    refine next_key_item st (I.kIn d _ D.d.at_) rfl D.size hen fun h' st' sb => ?_
    have I1 : Inv X pins σ H { s with heap := h' } := I.turned (t' := s.toks) (fun b ob hb e => (sb.2 b hb).trans e) f0 f1 f3 f4 f5
    obtain ⟨oi, e, c, dd⟩ := id st'
    refine ⟨en.key, rfl, go_of (s := { s with heap := h' }) e c dd (by decide) ⟨.str k, H, I1, by rw [hkey]; exact ⟨t, rfl⟩, ⟨rfl, k, hk, rfl⟩, st', fun b hb => (hf b hb).1⟩⟩
  done := by
    intro X hP hw hK hc i pins s σ H E I hf st hg
    subst hP hw hK
    obtain ⟨f0, f1, f2, f3, f4, f5⟩ := hf it (by simp)
    exact next_key_end (I.ok.hd hc) st (I.kIn d _ D.d.at_) rfl D.size hg fun h' eb => ⟨rfl, I.turned (t' := s.toks) (fun b ob hb e => eb b ob hb e) f0 f1 f3 f4 f5⟩
  self := fun A i s Q E st h => wpAny_pyIter_keyiter st h
def iKd (d : Addr) (ks : List Str) (td : TE) : TI := fun σ H R => td σ H fun x H1 => x = .ref d ∧ R (Itm ks) H1
theorem pi_kd {X : Cx} {tg e : Expr} {td : TE} {d : Addr} {ks : List Str} (D : ∃ es n, KD X.K X.w d ks es n) (he : PE X e td) : PI X tg e (iKd d ks td) := by
  obtain ⟨es, n, D⟩ := D
  refine ⟨fun pins s σ H R I h => ?_⟩
  refine thn (he.run pins s σ H _ I h) fun u s1 ⟨x, H1, I1, rx, ex, q⟩ => ?_
  subst ex
  obtain rfl : u = Value.ref d := rx
  refine iter_keys D.d.low (I1.kIn d _ D.d.at_) ⟨rfl, rfl, rfl⟩ rfl (pi_one (tk := s1.toks) I1 _ (turn_kd D) ⟨_, Heap.get?_push_size _ rfl, rfl, ?_⟩ q)
  rw [D.size] <;> rfl
theorem walk_kd {ks : List Str} : Walk (Itm ks) ks.length (fun _ => True) (fun i H x H' => H' = H ∧ ∃ k, ks[i]? = some k ∧ x = .str k) :=
  ⟨fun _ _ hi _ => hi, fun _ _ => Nat.le_refl _, fun _ _ _ _ _ _ y => y⟩
end DkL

set_option Elab.async false
set_option linter.all false
set_option maxRecDepth 100000
set_option maxHeartbeats 4000000
/-! dicts with texts as keys, typed -/
namespace TP
open PySem PySem.Spec PyProof.Rows L2 DkL
section
variable {α β : Type}
def lookK (xs : List (Str × α)) (k : Str) : Option α := (xs.find? fun x => decide (x.1 = k)).map (·.2)
def putL (xs : List (Str × α)) (k : Str) (a : α) : List (Str × α) := if (xs.any fun x => decide (x.1 = k)) = true then xs.map (fun x => if x.1 = k then (x.1, a) else x) else xs ++ [(k, a)]
def dropL (xs : List (Str × α)) (k : Str) : List (Str × α) := xs.filter fun x => decide (x.1 ≠ k)
def mergeL (xs more : List (Str × α)) : List (Str × α) := more.foldl (fun acc x => putL acc x.1 x.2) xs
theorem lookK_nil {k : Str} : lookK ([] : List (Str × α)) k = none := rfl
theorem lookK_pos {x : Str × α} {r : List (Str × α)} {k : Str} (e : x.1 = k) : lookK (x :: r) k = some x.2 := by simp [lookK, List.find?_cons, e]
theorem lookK_neg {x : Str × α} {r : List (Str × α)} {k : Str} (e : ¬ x.1 = k) : lookK (x :: r) k = lookK r k := by simp [lookK, List.find?_cons, e]
theorem lookK_none {k : Str} : ∀ {xs : List (Str × α)}, lookK xs k = none ↔ k ∉ xs.map (·.1)
  | [] => by simp [lookK_nil]
  | x :: r => by
    by_cases e : x.1 = k
    · rw [lookK_pos e]
      simp [e]
    · rw [lookK_neg e, lookK_none (xs := r)]
      simp
      exact fun _ z => e z.symm
theorem lookK_some {k : Str} {a : α} {xs : List (Str × α)} (h : lookK xs k = some a) : (k, a) ∈ xs := by
  unfold lookK at h
  rw [Option.map_eq_some_iff] at h
  obtain ⟨x, h1, h2⟩ := h
  have h3 := List.find?_some h1
  have h4 : x.1 = k := of_decide_eq_true h3
  have : x = (k, a) := by rw [← h4, ← h2]
  rw [← this]
  exact List.mem_of_find?_eq_some h1
theorem lookK_mem {k : Str} {a : α} : ∀ {xs : List (Str × α)}, (xs.map (·.1)).Nodup → (k, a) ∈ xs → lookK xs k = some a
  | x :: r, nd, h => by
    rw [List.map_cons, List.nodup_cons] at nd
    rcases List.mem_cons.mp h with e | h
    · rw [← e]; exact lookK_pos rfl
    · have : ¬ x.1 = k := fun z => nd.1 (List.mem_map.mpr ⟨(k, a), h, z.symm⟩)
      rw [lookK_neg this]
      exact lookK_mem nd.2 h
theorem lookK_put (xs : List (Str × α)) (k j : Str) (a : α) : lookK (putL xs k a) j = if j = k then some a else lookK xs j := by
  have key : ∀ xs : List (Str × α), (xs.any fun x => decide (x.1 = k)) = true → lookK (xs.map (fun x => if x.1 = k then (x.1, a) else x)) j = if j = k then some a else lookK xs j := fun xs => by
    induction xs with
    | nil => intro h; simp at h
    | cons x r ih =>
      intro h
      rw [List.map_cons]
      by_cases e : x.1 = k
      · rw [if_pos e]
        by_cases ej : j = k
        · rw [if_pos ej, lookK_pos (by show x.1 = j; rw [e, ej])]
        · have n1 : ¬ x.1 = j := fun z => ej (by rw [← z, e])
          rw [if_neg ej, lookK_neg (x := x) (r := r) n1, lookK_neg (x := (x.1, a)) (by exact n1)]
          by_cases hr : (r.any fun x => decide (x.1 = k)) = true
          · rw [ih hr, if_neg ej]
          · congr 1
            rw [List.map_congr_left (g := id) (fun y hy => ?_)]
            · simp
            · have : ¬ y.1 = k := fun z => hr (List.any_eq_true.mpr ⟨y, hy, decide_eq_true z⟩)
              rw [if_neg this]; rfl
      · rw [if_neg e]
        have hr : (r.any fun x => decide (x.1 = k)) = true := by
          rw [List.any_cons, decide_eq_false e, Bool.false_or] at h
          exact h
        by_cases ex : x.1 = j
        · rw [lookK_pos ex, lookK_pos ex, if_neg (fun z => e (by rw [ex, z]))]
        · rw [lookK_neg ex, lookK_neg ex, ih hr]
  unfold putL
  by_cases h : (xs.any fun x => decide (x.1 = k)) = true
  · rw [if_pos h, key xs h]
  · rw [if_neg h]
    have hn : ∀ x ∈ xs, ¬ x.1 = k := fun x hx z => h (List.any_eq_true.mpr ⟨x, hx, decide_eq_true z⟩)
    clear h key
    induction xs with
    | nil =>
      by_cases ej : j = k
      · rw [if_pos ej]; exact lookK_pos ej.symm
      · rw [if_neg ej]; exact lookK_neg fun z => ej z.symm
    | cons x r ih =>
      rw [List.cons_append]
      by_cases ex : x.1 = j
      · rw [lookK_pos ex, lookK_pos ex, if_neg (fun z => hn x List.mem_cons_self (by rw [ex, z]))]
      · rw [lookK_neg ex, lookK_neg ex]
        exact ih fun y hy => hn y (List.mem_cons_of_mem _ hy)
theorem putL_new {xs : List (Str × α)} {k : Str} (a : α) (h : k ∉ xs.map (·.1)) : putL xs k a = xs ++ [(k, a)] := by
  unfold putL
  rw [if_neg]
  intro z
  obtain ⟨x, hx, e⟩ := List.any_eq_true.mp z
  exact h (List.mem_map.mpr ⟨x, hx, of_decide_eq_true e⟩)
theorem putL_len (xs : List (Str × α)) (k : Str) (a : α) : (putL xs k a).length ≤ xs.length + 1 := by
  unfold putL
  split
  · rw [List.length_map]; omega
  · rw [List.length_append]; simp
theorem putL_keys {xs : List (Str × α)} {k : Str} {a : α} (h : k ∈ xs.map (·.1)) : (putL xs k a).map (·.1) = xs.map (·.1) := by
  unfold putL
  obtain ⟨x, hx, e⟩ := List.mem_map.mp h
  rw [if_pos (List.any_eq_true.mpr ⟨x, hx, decide_eq_true e⟩), List.map_map]
  apply List.map_congr_left
  intro y _
  show (if y.1 = k then (y.1, a) else y).1 = y.1
  split <;> rfl
theorem putL_nodup {xs : List (Str × α)} {k : Str} {a : α} (h : (xs.map (·.1)).Nodup) : ((putL xs k a).map (·.1)).Nodup := by
  by_cases hk : k ∈ xs.map (·.1)
  · rw [putL_keys hk]; exact h
  · rw [putL_new a hk, List.map_append, List.nodup_append]
    exact ⟨h, by simp, fun x hx y hy z => hk (by have : y = k := by simpa using hy
                                                 rw [← this, ← z]; exact hx)⟩
theorem merge_app {xs more : List (Str × α)} : ∀ (_ : ((xs ++ more).map (·.1)).Nodup), mergeL xs more = xs ++ more := by
  induction more generalizing xs with
  | nil => intro _; simp [mergeL]
  | cons m r ih =>
    intro h
    have hm : m.1 ∉ xs.map (·.1) := fun z => by
      rw [List.map_append, List.nodup_append] at h
      exact h.2.2 _ z _ (List.mem_map.mpr ⟨m, List.mem_cons_self, rfl⟩) rfl
    show mergeL (putL xs m.1 m.2) r = _
    rw [putL_new _ hm]
    have e : xs ++ [(m.1, m.2)] ++ r = xs ++ m :: r := by simp
    rw [ih (by rw [e]; exact h), e]
theorem merge_nil {more : List (Str × α)} (h : (more.map (·.1)).Nodup) : mergeL [] more = more := merge_app (xs := []) (by simpa using h)
end
abbrev DRel {α : Type} (R : Rp α) (h : Hp) (kvs : List (Key × V)) (xs : List (Str × α)) : Prop := All2 (fun q x => q.1 = keyS x.1 ∧ R.rep h q.2 x.2) kvs xs
theorem keyS_inj {a b : Str} (h : keyS a = keyS b) : a = b := by unfold keyS at h; exact Sum.inr.inj h
section
variable {α β : Type} {R : Rp α} {h h' : Hp} {kvs : List (Key × V)} {xs : List (Str × α)}
theorem DRel.mono (s : Sub h h') (r : DRel R h kvs xs) : DRel R h' kvs xs := r.imp fun _ _ z => ⟨z.1, R.mono s z.2⟩
theorem DRel.val (k : Str) : ∀ {kvs : List (Key × V)} {xs : List (Str × α)}, DRel R h kvs xs → (∀ a, lookK xs k = some a → ∃ v, valV kvs (keyS k) = some v ∧ R.rep h v a) ∧ (lookK xs k = none → valV kvs (keyS k) = none)
  | _, _, .nil => ⟨fun a e => (by cases e), fun _ => rfl⟩
  | q :: kvs, x :: xs, .cons a r => by
    obtain ⟨i1, i2⟩ := DRel.val k r
    by_cases e : x.1 = k
    · have e2 : q.1 = keyS k := by rw [a.1, e]
      rw [lookK_pos e, valV_pos e2]
      exact ⟨fun b hb => by cases hb; exact ⟨_, rfl, a.2⟩, fun z => by cases z⟩
    · have e2 : ¬ q.1 = keyS k := fun z => e (keyS_inj (by rw [← a.1, z]))
      rw [lookK_neg e, valV_neg e2]
      exact ⟨i1, i2⟩
theorem DRel.get {k : Str} (r : DRel R h kvs xs) : (valV kvs (keyS k)).isSome = (lookK xs k).isSome := by
  obtain ⟨i1, i2⟩ := r.val k
  cases e : lookK xs k with
  | none => rw [i2 e]; rfl
  | some a =>
    obtain ⟨v, hv, _⟩ := i1 a e
    rw [hv]; rfl
theorem DRel.any {k : Str} : ∀ {kvs : List (Key × V)} {xs : List (Str × α)}, DRel R h kvs xs → (kvs.any fun kv => decide (kv.1 = keyS k)) = (xs.any fun x => decide (x.1 = k))
  | _, _, .nil => rfl
  | q :: kvs, x :: xs, .cons a r => by
    rw [List.any_cons, List.any_cons, DRel.any r]
    congr 1
    rw [Bool.eq_iff_iff, decide_eq_true_eq, decide_eq_true_eq, a.1]
    exact ⟨keyS_inj, fun z => by rw [z]⟩
theorem DRel.put {k : Str} {v : V} {a : α} (r : DRel R h kvs xs) (rv : R.rep h v a) : DRel R h (putK kvs (keyS k) v) (putL xs k a) := by
  unfold putK putL
  rw [r.any (k := k)]
  split
  · rename_i hh
    clear hh
    induction r with
    | nil => exact .nil
    | cons b r ih =>
      rw [List.map_cons, List.map_cons]
      refine .cons ?_ ih
      rename_i q x qs ys
      by_cases e : x.1 = k
      · rw [if_pos e, if_pos (by rw [b.1, e])]
        exact ⟨b.1, rv⟩
      · rw [if_neg e, if_neg (fun z => e (keyS_inj (by rw [← b.1, z])))]
        exact b
  · exact r.append (.cons ⟨rfl, rv⟩ .nil)
theorem DRel.drop {k : Str} (r : DRel R h kvs xs) : DRel R h (dropK kvs (keyS k)) (dropL xs k) := by
  unfold dropK dropL
  induction r with
  | nil => exact .nil
  | cons b r ih =>
    rename_i q x qs ys
    by_cases e : x.1 = k
    · rw [List.filter_cons_of_neg (by simp [b.1, e]), List.filter_cons_of_neg (by simp [e])]
      exact ih
    · rw [List.filter_cons_of_pos (by rw [b.1]; exact decide_eq_true fun z => e (keyS_inj z)), List.filter_cons_of_pos (by simpa using e)]
      exact .cons b ih
theorem DRel.merge {more : List (Key × V)} {ys : List (Str × α)} (m : DRel R h more ys) : ∀ {kvs : List (Key × V)} {xs : List (Str × α)}, DRel R h kvs xs → DRel R h (mergeK kvs more) (mergeL xs ys) := by
  induction m with
  | nil => exact fun r => r
  | cons b m ih =>
    intro kvs xs r
    rename_i q x qs ys
    show DRel R h (mergeK (putK kvs q.1 q.2) qs) (mergeL (putL xs x.1 x.2) ys)
    rw [b.1]
    exact ih (r.put b.2)
end
/-- a dict that stands still -/
def rDct {α : Type} (R : Rp α) : Rp (List (Str × α)) := ⟨fun H v xs => ∃ p od kvs, v = .ref p ∧ H p = some (.frz od (.dK kvs)) ∧ DRel R H kvs xs, fun k ⟨p, od, vs, e, h, r⟩ => ⟨p, od, vs, e, k _ _ h, r.mono k⟩⟩
section
variable {F : Fm} {gp : Gp} {G M own : List Addr} {H H' : Hp} {σ : L2.St} {Γ Γ' Γ0 Γ1 Γ2 Γ3 : Ctx} {ι α β γ : Type} {R : Rp α} {S : Rp β} {a : α} {b : β} {te ta tb td ty tx tv : TE} {tt : TT} {t tr : TA} {D : Ends} {K : PySem.W.Frag} {g : TG} {wi : TI} {vs ws : List Nat} {xs : List (Str × α)} {k : Str}
/-! ### reading -/
theorem e_din (hk : E G Γ ty Γ1 rStr k) (hd : E G Γ1 td Γ2 (rDct R) xs) : E G Γ (tDIn ty td) Γ2 rBool (lookK xs k).isSome := fun M own σ H kk e Q q => hk M own σ H kk e _ fun v H1 x1 k1 e1 r1 => hd M own σ H1 k1 e1 _ fun u H2 x2 k2 e2 r2 => by
  have r1 : v = V.str k := r1
  subst r1
  obtain ⟨p, od, kvs, rfl, hp, r⟩ := r2
  exact ⟨p, _, rfl, .inl ⟨kvs, keyS k, .inr ⟨od, (hid_some hp).2⟩, rfl, rfl⟩, by rw [r.get]; exact q _ H2 (x1.trans x2) k2 e2 rfl⟩
theorem e_dnotin (hk : E G Γ ty Γ1 rStr k) (hd : E G Γ1 td Γ2 (rDct R) xs) : E G Γ (tDNotIn ty td) Γ2 rBool (!(lookK xs k).isSome) := fun M own σ H kk e Q q => hk M own σ H kk e _ fun v H1 x1 k1 e1 r1 => hd M own σ H1 k1 e1 _ fun u H2 x2 k2 e2 r2 => by
  have r1 : v = V.str k := r1
  subst r1
  obtain ⟨p, od, kvs, rfl, hp, r⟩ := r2
  exact ⟨p, _, rfl, .inl ⟨kvs, keyS k, .inr ⟨od, (hid_some hp).2⟩, rfl, rfl⟩, by rw [r.get]; exact q _ H2 (x1.trans x2) k2 e2 rfl⟩
theorem e_dget (hd : E G Γ td Γ1 (rDct R) xs) (hk : E G Γ1 ty Γ2 rStr k) (h : lookK xs k = some a) : E G Γ (tDGet td ty) Γ2 R a := fun M own σ H kk e Q q => hd M own σ H kk e _ fun v H1 x1 k1 e1 r1 => hk M own σ H1 k1 e1 _ fun u H2 x2 k2 e2 r2 => by
  have r2 : u = V.str k := r2
  subst r2
  have r1 := (rDct R).mono (x2.hid (e1.allSub k1)) r1
  obtain ⟨p, od, kvs, rfl, hp, r⟩ := r1
  obtain ⟨w, hw, rw⟩ := (r.val k).1 a h
  exact ⟨p, w, rfl, .inl ⟨kvs, keyS k, .inr ⟨od, (hid_some hp).2⟩, rfl, hw.symm⟩, q w H2 (x1.trans x2) k2 e2 rw⟩
theorem e_dgetD {d : α} (hd : E G Γ td Γ1 (rDct R) xs) (hk : E G Γ1 ty Γ2 rStr k) (h : (lookK xs k).isSome = true) : E G Γ (tDGet td ty) Γ2 R ((lookK xs k).getD d) := by
  obtain ⟨a, ha⟩ := Option.isSome_iff_exists.mp h
  rw [ha]
  exact e_dget hd hk ha
theorem e_dget1 (hd : E G Γ td Γ1 (rDct R) xs) (hk : E G Γ1 ty Γ2 rStr k) : E G Γ (tDGet1 td ty) Γ2 (rOpt R) (lookK xs k) := fun M own σ H kk e Q q => hd M own σ H kk e _ fun v H1 x1 k1 e1 r1 => by
  obtain ⟨p, od, kvs, rfl, hp, r⟩ := id r1
  refine ⟨p, rfl, .inl ⟨kvs, .inr ⟨od, (hid_some hp).2⟩⟩, hk M own σ H1 k1 e1 _ fun u H2 x2 k2 e2 r2 => ?_⟩
  have r2 : u = V.str k := r2
  subst r2
  have s2 := x2.hid (e1.allSub k1)
  have r := r.mono s2
  have hp := s2 _ _ hp
  refine ⟨_, .inl ⟨kvs, keyS k, .inr ⟨od, (hid_some hp).2⟩, rfl, rfl⟩, q _ H2 (x1.trans x2) k2 e2 ?_⟩
  obtain ⟨i1, i2⟩ := r.val k
  cases hl : lookK xs k with
  | none => rw [i2 hl]; rfl
  | some a =>
    obtain ⟨w, hw, rw⟩ := i1 a hl
    rw [hw]; exact rw
theorem e_dget2 (hd : E G Γ td Γ1 (rDct R) xs) (hk : E G Γ1 ty Γ2 rStr k) (hx : E G Γ2 tx Γ3 R a) : E G Γ (tDGet2 td ty tx) Γ3 R ((lookK xs k).getD a) := fun M own σ H kk e Q q => hd M own σ H kk e _ fun v H1 x1 k1 e1 r1 => by
  obtain ⟨p, od, kvs, rfl, hp, r⟩ := id r1
  refine ⟨p, rfl, .inl ⟨kvs, .inr ⟨od, (hid_some hp).2⟩⟩, hk M own σ H1 k1 e1 _ fun u H2 x2 k2 e2 r2 => hx M own σ H2 k2 e2 _ fun z H3 x3 k3 e3 r3 => ?_⟩
  have r2 : u = V.str k := r2
  subst r2
  have s2 := (x2.trans x3).hid (e1.allSub k1)
  have r := r.mono s2
  have hp := s2 _ _ hp
  refine ⟨_, .inl ⟨kvs, keyS k, .inr ⟨od, (hid_some hp).2⟩, rfl, rfl⟩, q _ H3 ((x1.trans x2).trans x3) k3 e3 ?_⟩
  obtain ⟨i1, i2⟩ := r.val k
  cases hl : lookK xs k with
  | none => rw [i2 hl]; exact r3
  | some a =>
    obtain ⟨w, hw, rw⟩ := i1 a hl
    rw [hw]; exact rw
/-! ### one's own dict: reading -/
theorem own_dct {i : Nat} (e : Env G M H own σ Γ) (hx : Γ[i]? = some (.own (oDct R xs))) : ∃ p kvs, σ[i]? = some (some (.ref p)) ∧ H p = some (.dK kvs) ∧ DRel R (hid M H) kvs xs := by
  obtain ⟨v, p1, pi, p2, f⟩ := e.env.focus hx
  obtain ⟨p, kvs, rfl, rfl, hp, r⟩ := f.own
  exact ⟨p, kvs, f.at_, hp, r⟩
theorem e_dinO {i : Nat} (hk : E G Γ ty Γ1 rStr k) (hx : Γ1[i]? = some (.own (oDct R xs))) : E G Γ (tDIn ty (tVar i)) Γ1 rBool (lookK xs k).isSome := fun M own σ H kk e Q q => hk M own σ H kk e _ fun v H1 x1 k1 e1 r1 => by
  have r1 : v = V.str k := r1
  subst r1
  obtain ⟨p, kvs, hs, hp, r⟩ := own_dct e1 hx
  exact ⟨.ref p, hs, p, _, rfl, .inl ⟨kvs, keyS k, .inl hp, rfl, rfl⟩, by rw [r.get]; exact q _ H1 x1 k1 e1 rfl⟩
theorem e_dnotinO {i : Nat} (hk : E G Γ ty Γ1 rStr k) (hx : Γ1[i]? = some (.own (oDct R xs))) : E G Γ (tDNotIn ty (tVar i)) Γ1 rBool (!(lookK xs k).isSome) := fun M own σ H kk e Q q => hk M own σ H kk e _ fun v H1 x1 k1 e1 r1 => by
  have r1 : v = V.str k := r1
  subst r1
  obtain ⟨p, kvs, hs, hp, r⟩ := own_dct e1 hx
  exact ⟨.ref p, hs, p, _, rfl, .inl ⟨kvs, keyS k, .inl hp, rfl, rfl⟩, by rw [r.get]; exact q _ H1 x1 k1 e1 rfl⟩
theorem e_dgetO {i : Nat} (hx0 : Γ[i]? = some (.own (oDct R xs))) (hk : E G Γ ty Γ1 rStr k) (hx : Γ1[i]? = some (.own (oDct R xs))) (h : lookK xs k = some a) : E G Γ (tDGet (tVar i) ty) Γ1 R a := fun M own σ H kk e Q q => by
  obtain ⟨p0, _, hs0, _⟩ := own_dct e hx0
  refine ⟨.ref p0, hs0, hk M own σ H kk e _ fun u H2 x2 k2 e2 r2 => ?_⟩
  have r2 : u = V.str k := r2
  subst r2
  obtain ⟨p, kvs, hs, hp, r⟩ := own_dct e2 hx
  rw [hs0] at hs
  cases hs
  obtain ⟨w, hw, rw⟩ := (r.val k).1 a h
  exact ⟨p0, w, rfl, .inl ⟨kvs, keyS k, .inl hp, rfl, hw.symm⟩, q w H2 x2 k2 e2 rw⟩
theorem e_dgetOD {i : Nat} {d : α} (hx0 : Γ[i]? = some (.own (oDct R xs))) (hk : E G Γ ty Γ1 rStr k) (hx : Γ1[i]? = some (.own (oDct R xs))) (h : (lookK xs k).isSome = true) : E G Γ (tDGet (tVar i) ty) Γ1 R ((lookK xs k).getD d) := by
  obtain ⟨a, ha⟩ := Option.isSome_iff_exists.mp h
  rw [ha]
  exact e_dgetO hx0 hk hx ha
theorem e_dget1O {i : Nat} (hx0 : Γ[i]? = some (.own (oDct R xs))) (hk : E G Γ ty Γ1 rStr k) (hx : Γ1[i]? = some (.own (oDct R xs))) : E G Γ (tDGet1 (tVar i) ty) Γ1 (rOpt R) (lookK xs k) := fun M own σ H kk e Q q => by
  obtain ⟨p0, kvs0, hs0, hp0, _⟩ := own_dct e hx0
  refine ⟨.ref p0, hs0, p0, rfl, .inl ⟨kvs0, .inl hp0⟩, hk M own σ H kk e _ fun u H2 x2 k2 e2 r2 => ?_⟩
  have r2 : u = V.str k := r2
  subst r2
  obtain ⟨p, kvs, hs, hp, r⟩ := own_dct e2 hx
  rw [hs0] at hs
  cases hs
  refine ⟨_, .inl ⟨kvs, keyS k, .inl hp, rfl, rfl⟩, q _ H2 x2 k2 e2 ?_⟩
  obtain ⟨i1, i2⟩ := r.val k
  cases hl : lookK xs k with
  | none => rw [i2 hl]; rfl
  | some a =>
    obtain ⟨w, hw, rw⟩ := i1 a hl
    rw [hw]; exact rw
theorem e_dget2O {i : Nat} (hx0 : Γ[i]? = some (.own (oDct R xs))) (hk : E G Γ ty Γ1 rStr k) (ha : E G Γ1 tx Γ2 R a) (hx : Γ2[i]? = some (.own (oDct R xs))) : E G Γ (tDGet2 (tVar i) ty tx) Γ2 R ((lookK xs k).getD a) := fun M own σ H kk e Q q => by
  obtain ⟨p0, kvs0, hs0, hp0, _⟩ := own_dct e hx0
  refine ⟨.ref p0, hs0, p0, rfl, .inl ⟨kvs0, .inl hp0⟩, hk M own σ H kk e _ fun u H1 x1 k1 e1 r1 => ha M own σ H1 k1 e1 _ fun z H2 x2 k2 e2 r2 => ?_⟩
  have r1 : u = V.str k := r1
  subst r1
  obtain ⟨p, kvs, hs, hp, r⟩ := own_dct e2 hx
  rw [hs0] at hs
  cases hs
  refine ⟨_, .inl ⟨kvs, keyS k, .inl hp, rfl, rfl⟩, q _ H2 (x1.trans x2) k2 e2 ?_⟩
  obtain ⟨i1, i2⟩ := r.val k
  cases hl : lookK xs k with
  | none => rw [i2 hl]; exact r2
  | some a =>
    obtain ⟨w, hw, rw⟩ := i1 a hl
    rw [hw]; exact rw
/-! ### one's own dict: writing -/
theorem s_dput {i : Nat} (hv : E F.G Γ tv Γ1 R a) (hx0 : Γ1[i]? = some (.own (oDct R xs))) (hk : E F.G Γ1 ty Γ2 rStr k) (hx : Γ2[i]? = some (.own (oDct R xs))) (hl : xs.length < 100000) (kk : KT F gp (Γ2.set i (.own (oDct R (putL xs k a)))) D.nx) :
    KT F gp Γ (sDPut (tVar i) ty tv D) := fun M own σ H s e gg => hv M own σ H s.ok e _ fun v H1 x1 k1 e1 r1 => by
  obtain ⟨p0, _, hs0, _⟩ := own_dct e1 hx0
  refine ⟨.ref p0, hs0, hk M own σ H1 k1 e1 _ fun u H2 x2 k2 e2 r2 => ?_⟩
  have r2 : u = V.str k := r2
  subst r2
  have r1 := R.mono (x2.hid (e1.allSub k1)) r1
  obtain ⟨v', p1, pi, p2, f⟩ := e2.env.focus hx
  obtain ⟨p, kvs, rfl, rfl, hp, r⟩ := f.own
  have r : DRel R (hid M H2) kvs xs := r
  have es := f.at_
  rw [hs0] at es
  cases es
  have hn : kvs.length < sizeLine := Nat.lt_of_lt_of_le (by rw [r.length]; exact hl) (by decide)
  refine ⟨p0, _, rfl, .inl ⟨kvs, keyS k, hp, rfl, hn, rfl⟩, ?_⟩
  obtain ⟨x3, k3, e3⟩ := e2.write (O' := oDct R (putL xs k a)) k2 f (List.mem_singleton.mpr rfl) ⟨p0, putK kvs (keyS k) v, rfl, rfl, upd_same, r.put r1⟩
  have x12 := x1.trans x2
  exact kk M own σ _ (((s.step x1 k1).step x2 k2).step x3 k3) e3 (by rw [hid_upd (e2.sub p0 (f.inn.1 p0 (List.mem_singleton.mpr rfl)))]; exact gp_step s e x12 gg)
theorem s_ddel {i : Nat} (hx0 : Γ[i]? = some (.own (oDct R xs))) (hk : E F.G Γ ty Γ1 rStr k) (hx : Γ1[i]? = some (.own (oDct R xs))) (hl : (lookK xs k).isSome = true) (kk : KT F gp (Γ1.set i (.own (oDct R (dropL xs k)))) D.nx) :
    KT F gp Γ (sDDel (tVar i) ty D) := fun M own σ H s e gg => by
  obtain ⟨p0, _, hs0, _⟩ := own_dct e hx0
  refine ⟨.ref p0, hs0, hk M own σ H s.ok e _ fun u H2 x2 k2 e2 r2 => ?_⟩
  have r2 : u = V.str k := r2
  subst r2
  obtain ⟨v', p1, pi, p2, f⟩ := e2.env.focus hx
  obtain ⟨p, kvs, rfl, rfl, hp, r⟩ := f.own
  have r : DRel R (hid M H2) kvs xs := r
  have es := f.at_
  rw [hs0] at es
  cases es
  refine ⟨p0, kvs, keyS k, rfl, hp, rfl, by rw [r.get]; exact hl, ?_⟩
  obtain ⟨x3, k3, e3⟩ := e2.write (O' := oDct R (dropL xs k)) k2 f (List.mem_singleton.mpr rfl) ⟨p0, _, rfl, rfl, upd_same, r.drop⟩
  exact kk M own σ _ ((s.step x2 k2).step x3 k3) e3 (by rw [hid_upd (e2.sub p0 (f.inn.1 p0 (List.mem_singleton.mpr rfl)))]; exact gp_step s e x2 gg)
/-! ### new dicts -/
theorem en_dnew : EN G Γ tDNewK Γ (oDct R []) := fun M own σ H kk e Q q p hp => q (.ref p) _ [p] (Ex.new hp) (kk.grow hp) (e.grow kk hp) (by simp) (fun b hb => by rw [List.mem_singleton.mp hb]; exact hp) ⟨p, [], rfl, rfl, upd_same, .nil⟩
theorem new_dct {v : List (Key × V)} {Q : VK} (q : ∀ v H' ps, Ex (G ++ own) H H' → Ok G (ps ++ M) H' → Env G (ps ++ M) H' own σ Γ1 → ps.Nodup → (∀ p ∈ ps, H p = none) → (oDct R xs).own (hid (ps ++ M) H') H' ps v → Q v H') (x1 : Ex (G ++ own) H H') (k1 : Ok G M H') (e1 : Env G M H' own σ Γ1) (r : DRel R (hid M H') v xs) {p : Addr} (hp : H' p = none) : Q (.ref p) (upd H' p (.dK v)) :=
  q (.ref p) _ [p] (x1.trans (Ex.new hp)) (k1.grow hp) (e1.grow k1 hp) (by simp) (fun b hb => by rw [List.mem_singleton.mp hb]; exact fresh_back k1 e1 x1 hp) ⟨p, v, rfl, rfl, upd_same, r.mono (hid_grow hp)⟩
/-- dict(d) -/
theorem en_dcopy (h : EA G Γ t Γ1 [⟨rDct R, xs⟩]) : EN G Γ (tCB (fun xs H Q => ∃ (a : Addr) (kvs : List (Key × V)), xs = [.ref a] ∧ Rd H a (.dK kvs) ∧ ∀ p, H p = none → Q (.ref p) (upd H p (.dK kvs))) t) Γ1 (oDct R xs) := fun M own σ H kk e Q q => h M own σ H kk e _ fun vs H1 x1 k1 e1 r1 => by
  cases r1 with
  | cons r0 r1 =>
    cases r1
    obtain ⟨p, od, kvs, e0, hp, r⟩ := r0
    have e0 : _ = V.ref p := e0
    subst e0
    exact ⟨p, kvs, rfl, .inr ⟨od, (hid_some hp).2⟩, fun l hl => new_dct q x1 k1 e1 r hl⟩
/-- dict(pairs) -/
theorem pairs_of {h H : Hp} (s : Sub h H) : ∀ {vs : List V} {xs : List (Str × α)}, All2 ((rT2 rStr R).rep h) vs xs → ∃ (ps : List Addr) (kvs : List (Key × V)), vs = ps.map V.ref ∧ Paired (fun p kv => SqT K H p [kV kv.1, kv.2]) ps kvs ∧ DRel R h kvs xs
  | _, _, .nil => ⟨[], [], rfl, .nil, .nil⟩
  | v :: vs, x :: xs, .cons a r => by
    obtain ⟨ps, kvs, e1, e2, e3⟩ := pairs_of s r
    obtain ⟨p, u, w, rfl, hp, hu, hw⟩ := a
    have hu : u = V.str x.1 := hu
    subst hu
    exact ⟨p :: ps, (keyS x.1, w) :: kvs, by rw [e1]; rfl, .cons (SqT.of (s _ _ hp)) e2, .cons ⟨rfl, hw⟩ e3⟩
theorem en_dpairs (h : EA G Γ t Γ1 [⟨rList (rT2 rStr R), xs⟩]) : EN G Γ (tCB (fun xs H Q => ∃ (a : Addr) (ps : List Addr) (kvs : List (Key × V)), xs = [.ref a] ∧ SqL K H a (ps.map V.ref) ∧ Paired (fun p kv => SqT K H p [kV kv.1, kv.2]) ps kvs ∧
    ∀ p, H p = none → Q (.ref p) (upd H p (.dK (mergeK [] kvs)))) t) Γ1 (oDct R (mergeL [] xs)) := fun M own σ H kk e Q q => h M own σ H kk e _ fun vs H1 x1 k1 e1 r1 => by
  cases r1 with
  | cons r0 r1 =>
    cases r1
    obtain ⟨p, us, e0, hp, r⟩ := r0
    have e0 : _ = V.ref p := e0
    subst e0
    obtain ⟨ps, kvs, eu, pr, dr⟩ := pairs_of (K := K) hid_sub r
    subst eu
    exact ⟨p, ps, kvs, rfl, SqL.of (hid_some hp).2, pr, fun l hl => new_dct q x1 k1 e1 (DRel.merge dr .nil) hl⟩
/-- locked for good -/
theorem e_frz (h : EN G Γ te Γ1 (oDct R xs)) : E G Γ (tFrz te) Γ1 (rDct R) xs := fun M own σ H kk e Q q => h M own σ H kk e _ fun v H1 ps x1 k1 e1 nd hn o => by
  obtain ⟨p, kvs, rfl, rfl, hp, r⟩ := o
  have r : DRel R (hid ([p] ++ M) H1) kvs xs := r
  refine ⟨p, _, rfl, hp, trivial, fun od => ?_⟩
  have hpM : p ∉ M := fun z => kk.al p z (hn p (List.mem_singleton.mpr rfl))
  have hpo : p ∉ G ++ own := fun z => hpM (e.allSub kk p z)
  have sb : Sub (hid ([p] ++ M) H1) (hid M (upd H1 p (.frz od (.dK kvs)))) := fun b o z => by
    obtain ⟨h1, h2⟩ := hid_some z
    have hb : b ≠ p := fun w => h1 (by rw [w]; simp)
    exact hid_of (fun w => h1 (List.mem_append_right _ w)) (by rw [upd_ne hb]; exact h2)
  have hG : ∀ P ∈ G, P ≠ p := fun P hP z => hpo (by rw [← z]; exact List.mem_append_left _ hP)
  refine q _ _ (fun b o hb eb => ?_) ⟨kk.sub, fun m hm => ?_, fun P hP => ?_⟩ ⟨e1.nd, fun b hb => e.sub b hb, e1.out, e1.env.mono sb fun b hb => upd_ne fun z => hpo (by rw [← z]; exact List.mem_append_right _ hb)⟩ ⟨p, od, kvs, rfl, hid_of hpM upd_same, r.mono sb⟩
  · have hb' : b ≠ p := fun z => by rw [z, hn p (List.mem_singleton.mpr rfl)] at eb; cases eb
    rw [upd_ne hb']
    exact x1 b o hb eb
  · have hm' : m ≠ p := fun z => hpM (by rw [← z]; exact hm)
    rw [upd_ne hm']
    exact k1.al m (List.mem_append_right _ hm)
  · obtain ⟨tb, h1, h2⟩ := k1.wf P hP
    exact ⟨tb, by rw [upd_ne (hG P hP)]; exact h1, h2⟩
/-- one's own dict stands still from now on -/
theorem s_frzS {i : Nat} {ts : TS} (hO : F.own0 = []) (hx : Γ[i]? = some (.own (oDct R xs))) (kk : KT F gp (Γ.set i (.val (rDct R) xs)) (ts D)) : KT F gp Γ (tFrzS i ts D) := fun M own σ H s e gg => by
  obtain ⟨v, p1, pi, p2, f⟩ := e.env.focus hx
  obtain ⟨p, kvs, rfl, rfl, hp, r⟩ := f.own
  refine ⟨p, _, f.at_, hp, trivial, fun od => ?_⟩
  let O' : Ow := ⟨fun h H ps v => ∃ kvs, v = .ref p ∧ ps = [p] ∧ H p = some (.frz od (.dK kvs)) ∧ DRel R h kvs xs, fun k e ⟨kvs, e1, e2, e3, r⟩ => ⟨kvs, e1, e2, by rw [e p (by rw [e2]; exact List.mem_singleton.mpr rfl)]; exact e3, r.mono k⟩⟩
  obtain ⟨x3, k3, e3⟩ := e.write (O' := O') s.ok f (List.mem_singleton.mpr rfl) (o := .frz od (.dK kvs)) ⟨kvs, rfl, rfl, upd_same, r⟩
  have hi : i < Γ.length := by
    cases z : Γ[i]? with
    | none => rw [hx] at z; cases z
    | some _ => exact (List.getElem?_eq_some_iff.mp z).1
  refine KT.out (i := i) (O := O') (s := .val (rDct R) xs) hO (List.getElem?_set_self hi) (fun h H ps v ⟨kvs, e1, e2, e3, r⟩ hh => ⟨p, od, kvs, e1, by rw [hh p (by rw [e2]; exact List.mem_singleton.mpr rfl)]; exact e3, r⟩) ?_ M own σ _ (s.step x3 k3) e3 (by rw [hid_upd (e.sub p (f.inn.1 p (List.mem_singleton.mpr rfl)))]; exact gg)
  rw [List.set_set]
  exact kk
/-! ### walking -/
theorem src_keys (h : E G Γ td Γ1 (rDct R) xs) : ES G Γ (iKeys td) Γ1 rStr (xs.map (·.1)) := fun M own σ H kk e Q q => h M own σ H kk e _ fun v H1 x1 k1 e1 r1 => by
  obtain ⟨p, od, kvs, rfl, hp, r⟩ := r1
  have hl : (xs.map (·.1)).length = kvs.length := by rw [List.length_map, r.length]
  refine ⟨p, od, rfl, .inl ⟨kvs, (hid_some hp).2, q _ H1 ⟨fun h => h p = some (.frz od (.dK kvs)), fun k z => k _ _ z⟩ x1 k1 e1 ⟨_, _, hl.symm ▸ walk_keys (d := p) (o := od) (kvs := kvs), fun h H s z => s _ _ z, fun i x M H H' hi k z y => ?_⟩ hp⟩⟩
  obtain ⟨rfl, k', v', e1, rfl⟩ := y
  obtain ⟨b, h3, h4⟩ := r.getL e1
  refine ⟨Ex.refl, k, b.1, by rw [List.getElem?_map, h3]; rfl, ?_⟩
  have h5 : k' = keyS b.1 := h4.1
  show kV k' = V.str b.1
  rw [h5]; rfl
theorem src_items (h : E G Γ td Γ1 (rDct R) xs) : ES G Γ (iItems td) Γ1 (rT2 rStr R) xs := fun M own σ H kk e Q q => h M own σ H kk e _ fun v H1 x1 k1 e1 r1 => by
  obtain ⟨p, od, kvs, rfl, hp, r⟩ := r1
  refine ⟨p, od, kvs, rfl, (hid_some hp).2, q _ H1 ⟨fun h => h p = some (.frz od (.dK kvs)) ∧ DRel R h kvs xs, fun k z => ⟨k _ _ z.1, z.2.mono k⟩⟩ x1 k1 e1 ⟨_, _, r.length ▸ walk_items (d := p) (o := od) (kvs := kvs), fun h H s z => s _ _ z.1, fun i x M H H' hi k z y => ?_⟩ ⟨hp, r⟩⟩
  obtain ⟨T, x', y', rfl, hT, rfl, h1, h2⟩ := y
  rw [Option.map_eq_some_iff] at h1 h2
  obtain ⟨q1, h1, rfl⟩ := h1
  obtain ⟨q2, h2, rfl⟩ := h2
  rw [h1] at h2
  cases h2
  obtain ⟨b, h3, h4⟩ := z.2.getL h1
  have hk : kV q1.1 = V.str b.1 := by rw [h4.1]; rfl
  obtain ⟨p1, p2, p3⟩ := pair_new (R := rStr) (S := R) (a := b.1) (b := b.2) k hT hk h4.2
  exact ⟨p1, p2, b, h3, p3⟩
theorem src_kd {d : Addr} {ks : List Str} (h : E G Γ td Γ1 rV (.ref d)) : ES G Γ (iKd d ks td) Γ1 rStr ks := fun M own σ H kk e Q q => h M own σ H kk e _ fun v H1 x1 k1 e1 r1 => by
  have r1 : v = V.ref d := r1
  refine ⟨r1, q _ H1 gT x1 k1 e1 ⟨_, _, walk_kd, fun _ _ _ _ => trivial, fun i x M H H' hi k z y => ?_⟩ trivial⟩
  obtain ⟨rfl, k', h1, rfl⟩ := y
  exact ⟨Ex.refl, k, k', h1, rfl⟩
end
end TP

set_option Elab.async false
set_option linter.all false
set_option maxRecDepth 100000
set_option maxHeartbeats 4000000
/-! dict comprehensions, list(d.items()), list(d.values()), typed -/
namespace DkL
open PySem PySem.Spec PyProof.Rows L2
/-- the items of a dict comprehension, whatever it walks -/
theorem dc_walk {J : It} {n : Nat} {Gd : Hp → Prop} {Y : Nat → Hp → V → Hp → Prop} (w : Walk J n Gd Y) {g : TG} {tt : TT} {tk tv : TE} {vs : List Nat} {σ : L2.St} {H1 : Hp} {D : Addr} {Qd : Hp → Prop} (Pv : Nat → Hp → Prop) (h0 : Pv 0 (upd H1 D (.dK []))) (hG : ∀ i H, i ≤ n → Pv i H → Gd H)
    (turn : ∀ i x H H', i < n → Pv i H → Y i H x H' → g x (wipe σ vs) H' fun σ2 H2 => wipe σ2 vs = wipe σ vs ∧ tt σ2 H2 fun b H3 =>
      if b = true then tk σ2 H3 fun y H4 => tv σ2 H4 fun z H5 => ∃ kvs k, y = kV k ∧ H5 D = some (.dK kvs) ∧ kvs.length < sizeLine ∧ Pv (i + 1) (upd H5 D (.dK (putK kvs k z))) else Pv (i + 1) H3) (last : ∀ H, Pv n H → Qd H) :
    ∃ W : Nat → Nat → Hp → Prop, (∃ m, W 0 m (upd H1 D (.dK []))) ∧ ∀ i m H, W i m H →
      (J.stop i H ∧ Qd H) ∨ (J.go i H ∧ ∃ Nx : Hp → Prop, (∀ H', Nx H' → ∃ m', m' < m ∧ W (i + 1) m' H') ∧ ∀ x H', J.yld i H x H' → g x (wipe σ vs) H' fun σ2 H2 => wipe σ2 vs = wipe σ vs ∧ tt σ2 H2 fun b H3 =>
        if b = true then tk σ2 H3 fun y H4 => tv σ2 H4 fun z H5 => ∃ kvs k, y = kV k ∧ H5 D = some (.dK kvs) ∧ kvs.length < sizeLine ∧ Nx (upd H5 D (.dK (putK kvs k z))) else Nx H3) := by
  refine ⟨fun i m H => (i ≤ n ∧ m = n - i) ∧ Pv i H, ⟨_, ⟨Nat.zero_le _, rfl⟩, h0⟩, fun i m H ⟨⟨hi, em⟩, p⟩ => ?_⟩
  have gd := hG i H hi p
  rcases Nat.lt_or_ge i n with lt | ge
  · exact .inr ⟨w.goes i H lt gd, Pv (i + 1), fun H' p' => ⟨n - (i + 1), by omega, ⟨lt, rfl⟩, p'⟩, fun x H' y => turn i x H H' lt p (w.yields i H x H' lt gd y)⟩
  · obtain rfl : i = n := Nat.le_antisymm hi ge
    exact .inl ⟨w.stops H gd, last H p⟩
end DkL
namespace TP
open PySem PySem.Spec PyProof.Rows L2 DkL
section
variable {G M own : List Addr} {H H' : Hp} {σ : L2.St} {Γ Γ' Γ0 Γ1 Γ2 : Ctx} {α β γ : Type} {R : Rp α} {S : Rp β} {xs : List α} {wi : TI} {g : TG} {tt : TT} {te tk tv : TE} {vs : List Nat} {K : PySem.W.Frag}
/-- what a dict comprehension makes -/
def dcL (p : α → Bool) (key : α → Str) (f : α → β) (xs : List α) : List (Str × β) := mergeL [] ((xs.filter p).map fun x => (key x, f x))
theorem dcL_snoc {p : α → Bool} {key : α → Str} {f : α → β} {xs : List α} {x : α} : dcL p key f (xs ++ [x]) = if p x = true then putL (dcL p key f xs) (key x) (f x) else dcL p key f xs := by
  unfold dcL mergeL
  rw [List.filter_append, List.map_append, List.foldl_append]
  by_cases h : p x = true
  · rw [if_pos h, List.filter_cons_of_pos h]; rfl
  · rw [if_neg h, List.filter_cons_of_neg h]; rfl
theorem merge_len (more : List (Str × β)) : ∀ xs : List (Str × β), (mergeL xs more).length ≤ xs.length + more.length := by
  induction more with
  | nil => intro xs; exact Nat.le_refl _
  | cons m r ih =>
    intro xs
    have h1 := ih (putL xs m.1 m.2)
    have h2 := putL_len xs m.1 m.2
    show (mergeL (putL xs m.1 m.2) r).length ≤ xs.length + (r.length + 1)
    omega
theorem dcL_len {p : α → Bool} {key : α → Str} {f : α → β} {xs : List α} : (dcL p key f xs).length ≤ xs.length := by
  have h := merge_len ((xs.filter p).map fun x => (key x, f x)) []
  have h2 := List.length_filter_le p xs
  rw [List.length_map] at h
  unfold dcL
  simp only [List.length_nil] at h
  omega
theorem dcL_map {p : α → Bool} {key : α → Str} {f : α → β} {xs : List α} (nd : ((xs.filter p).map key).Nodup) : dcL p key f xs = (xs.filter p).map fun x => (key x, f x) := by
  unfold dcL
  refine merge_nil ?_
  rw [List.map_map]
  exact nd
/-- one turn of a dict comprehension -/
def TuD (G : List Addr) (Γ : Ctx) (g : TG) (tt : TT) (tk tv : TE) (vs : List Nat) {α β : Type} (R : Rp α) (S : Rp β) (x : α) (p : Bool) (k : Str) (y : β) : Prop :=
  ∃ Γx ws, Tg G g R x (wipeC Γ vs) Γx ws ∧ (∀ i ∈ ws, i ∈ vs) ∧ (∀ i ∈ vs, PlainAt Γx i) ∧ wipeC Γx vs = wipeC Γ vs ∧ ET G Γx tt Γx p ∧ (p = true → E G Γx tk Γx rStr k ∧ E G Γx tv Γx S y)
theorem en_dc {p : α → Bool} {key : α → Str} {f : α → β} (hs : ES G Γ wi Γ0 R xs) (hl : xs.length ≤ 100000) (hp : ∀ i ∈ vs, PlainAt Γ0 i) (turn : ∀ x, x ∈ xs → TuD G Γ0 g tt tk tv vs R S x (p x) (key x) (f x))
    (hΓ : ∀ M H own σ, Env G M H own σ Γ0 → ∀ M' H', Env G M' H' own (wipe σ vs) (wipeC Γ0 vs) → Env G M' H' own σ Γ') :
    EN G Γ (tDc wi g tt tk tv vs) Γ' (oDct S (dcL p key f xs)) := fun M own σ H k e Q q => hs M own σ H k e _ fun J H1 gp x1 k1 e1 w1 g1 D hD => by
  obtain ⟨Gd, Y, wk, hG, hY⟩ := w1.ex
  have hDM : D ∉ M := k1.fresh hD
  have hDo : D ∉ G ++ own := fun z => (List.mem_append.mp z).elim (fun z => by
    obtain ⟨_, e', _⟩ := k1.wf D z
    rw [hD] at e'; cases e') fun z => hDM (e1.sub D z)
  have ew := (e1.grow (o := .dK []) k1 hD).wipe (vs := vs) hp
  refine dc_walk wk (fun i H => ∃ kvs, H D = some (.dK kvs) ∧ DRel S (hid (D :: M) H) kvs (dcL p key f (xs.take i)) ∧ Ok G (D :: M) H ∧ Env G (D :: M) H own (wipe σ vs) (wipeC Γ0 vs) ∧ gp.p (hid (D :: M) H) ∧ Ex (G ++ own) H1 H)
    ⟨[], upd_same, .nil, k1.grow hD, ew, gp.mono (hid_grow hD) g1, Ex.new hD⟩ (fun i H _ ⟨_, _, _, _, _, gg, _⟩ => hG _ _ hid_sub gg) ?_ ?_
  · rintro i x H2 H3 hi ⟨kvs, hkv, hr, k2, e2, g2, x2⟩ hy
    obtain ⟨x3, k3, a, ha, ra⟩ := hY i x (D :: M) H2 H3 hi k2 g2 hy
    have e3 := e2.ext k2 x3
    obtain ⟨Γx, ws, tg, hw, hpx, hwp, ht, hkf⟩ := turn a (List.mem_of_getElem? ha)
    refine tg (D :: M) own _ H3 x _ k3 e3 ra fun σ4 s4 e4 => ⟨(s4 vs hw).trans wipe_wipe, ?_⟩
    have hw4 : wipe σ4 vs = wipe σ vs := (s4 vs hw).trans wipe_wipe
    have gn : ∀ {N : List Addr} {H' : Hp}, Ex N H2 H' → (∀ b ∈ N, b ∈ D :: M) → gp.p (hid (D :: M) H') := fun xx hh => gp.mono (xx.hid hh) g2
    have hst : dcL p key f (xs.take (i + 1)) = if p a = true then putL (dcL p key f (xs.take i)) (key a) (f a) else dcL p key f (xs.take i) := by rw [take_succ_of ha, dcL_snoc]
    refine ht (D :: M) own σ4 H3 k3 e4 _ fun H5 x5 k5 e5 => ?_
    have x25 : Ex (G ++ own) H2 H5 := (x3.more fun b hb => List.mem_append_left _ hb).trans x5
    rw [hst]
    cases hpa : p a with
    | false =>
      rw [if_neg Bool.false_ne_true, if_neg Bool.false_ne_true]
      refine ⟨kvs, x25 D _ hDo hkv, hr.mono (x25.hid (e2.allSub k2)), k5, ?_, gn x25 (e2.allSub k2), x2.trans x25⟩
      have := e5.wipe hpx
      rw [hwp, hw4] at this
      exact this
    | true =>
      rw [if_pos rfl, if_pos rfl]
      obtain ⟨hk, hf⟩ := hkf hpa
      refine hk (D :: M) own σ4 H5 k5 e5 _ fun u H6 x6 k6 e6 r6 => hf (D :: M) own σ4 H6 k6 e6 _ fun v H7 x7 k7 e7 r7 => ?_
      have r6 : u = V.str (key a) := r6
      subst r6
      have xx : Ex (G ++ own) H2 H7 := (x25.trans x6).trans x7
      have hkv7 := xx D _ hDo hkv
      have hlen : kvs.length < sizeLine := by
        have h1 := hr.length
        have h2 := dcL_len (p := p) (key := key) (f := f) (xs := xs.take i)
        have h3 : (xs.take i).length ≤ xs.length := by rw [List.length_take]; omega
        have h4 : (100000 : Nat) < sizeLine := by decide
        omega
      have hD7 : hid (D :: M) (upd H7 D (.dK (putK kvs (keyS (key a)) v))) = hid (D :: M) H7 := hid_upd List.mem_cons_self
      have hH : ∀ b, b ≠ D → upd H7 D (.dK (putK kvs (keyS (key a)) v)) b = H7 b := fun b hb => upd_ne hb
      refine ⟨kvs, keyS (key a), rfl, hkv7, hlen, _, upd_same, ?_, ⟨k7.sub, fun m hm z => ?_, fun P hP => ?_⟩, ?_, ?_, ?_⟩
      · rw [hD7]
        exact (hr.mono (xx.hid (e2.allSub k2))).put r7
      · by_cases hb : m = D
        · rw [hb, upd_same] at z; cases z
        · rw [hH m hb] at z; exact k7.al m hm z
      · obtain ⟨ps, e', t⟩ := k7.wf P hP
        exact ⟨ps, by rw [hH P (fun z => hDo (by rw [← z]; exact List.mem_append_left _ hP))]; exact e', t⟩
      · have ee := e7.wipe hpx
        rw [hwp, hw4] at ee
        exact ⟨ee.nd, ee.sub, ee.out, by rw [hD7]; exact ee.env.mono (Sub.refl _) fun p hp => hH p fun z => hDo (by rw [← z]; exact List.mem_append_right _ hp)⟩
      · rw [hD7]; exact gn xx (e2.allSub k2)
      · exact fun b o hb e' => by
          rw [hH b (ne_of_none e' hD)]
          exact (x2.trans xx) b o hb e'
  · rintro H2 ⟨kvs, hkv, hr, k2, e2, g2, x2⟩
    rw [List.take_length] at hr
    exact q (.ref D) H2 [D] (x1.trans x2) k2 (hΓ M H1 own σ e1 (D :: M) H2 e2) (by simp) (fun b hb => by rw [List.mem_singleton.mp hb]; exact fresh_back k1 e1 x1 hD) ⟨D, kvs, rfl, rfl, hkv, hr⟩
/-- one turn over names that hold nothing before -/
theorem tud_pure {Γx : Ctx} {ws : List Nat} {x : α} {p : Bool} {k : Str} {y : β} (hn : ∀ i ∈ vs, NoAt Γ i) (hg : Tg G g R x Γ Γx ws) (hw : ∀ i ∈ ws, i ∈ vs) (hb : Back Γx Γ vs)
    (ht : ET G Γx tt Γx p) (hk : p = true → E G Γx tk Γx rStr k) (hv : p = true → E G Γx tv Γx S y) : TuD G Γ g tt tk tv vs R S x p k y :=
  ⟨Γx, ws, by rw [wipeC_no hn]; exact hg, hw, hb.1, by rw [hb.2, wipeC_no hn], ht, fun h => ⟨hk h, hv h⟩⟩
theorem en_dcN {p : α → Bool} {key : α → Str} {f : α → β} (hs : ES G Γ wi Γ0 R xs) (hl : xs.length ≤ 100000) (hn : ∀ i ∈ vs, NoAt Γ0 i) (turn : ∀ x, x ∈ xs → TuD G Γ0 g tt tk tv vs R S x (p x) (key x) (f x)) :
    EN G Γ (tDc wi g tt tk tv vs) Γ0 (oDct S (dcL p key f xs)) :=
  en_dc hs hl (fun i hi => (hn i hi).plain) turn fun M H own σ e M' H' e' => by
    rw [wipeC_no hn] at e'
    exact e'.unwipe hn
end
end TP

set_option Elab.async false
set_option linter.all false
set_option maxRecDepth 100000
set_option maxHeartbeats 4000000
/-! list(d.items()), list(d.values()), of a dict that may stand still -/
namespace DkL
open PySem PySem.Spec PyProof.Rows L2
/-- list(d.items()) -/
def tItL (te : TE) : TE := fun σ H Q => te σ H fun x H1 => ∃ (d : Addr) (kvs : List (Key × V)), x = .ref d ∧ Rd H1 d (.dK kvs) ∧
  ∀ (H' : Hp) (p : Addr) (ts : List Addr), (∀ b o, H1 b = some o → H' b = some o) → H1 p = none → (∀ t ∈ ts, H1 t = none) → p ∉ ts → H' p = some (.lst (ts.map V.ref)) → Paired (fun (t : Addr) (q : Key × V) => H' t = some (.tup [kV q.1, q.2])) ts kvs → Q (.ref p) H'
/-- list(d.values()) -/
def tVaL (te : TE) : TE := fun σ H Q => te σ H fun x H1 => ∃ (d : Addr) (kvs : List (Key × V)), x = .ref d ∧ Rd H1 d (.dK kvs) ∧ ∀ p, H1 p = none → Q (.ref p) (upd H1 p (.lst (kvs.map (·.2))))
section
variable {X : Cx} {e : Expr} {te : TE} {p apos cpos pos : Pos}
theorem pe_itL (calm : X.calm = true) (he : PE X e te) (hg : Gl X "list") (hm : X.mg "list" = none) (base : attributeBase e "items" X.env (eval e X.env) = eval e X.env := by rfl) (line : (apos.endLine == cpos.line) = true := by rfl)
    (star : starEach [.Call (.Attribute e "items" apos) [] [] cpos] X.env = (false, eval (.Call (.Attribute e "items" apos) [] [] cpos) X.env) :: starEach [] X.env := by rfl) :
    PE X (.Call (.Name "list" p) [.Call (.Attribute e "items" apos) [] [] cpos] [] pos) (tItL te) := by
  refine ⟨fun pins s σ H Q I hq => ?_⟩
  refine wpAny_Call_Name_kw (ld_blt I hg hm (u := .type "list") (by rfl) (PyProof.Rows.callWith_type1 ?_ star rfl))
  rw [star]
  show wpAny _ _ (spliced ((false, eval (.Call (.Attribute e "items" apos) [] [] cpos) X.env) :: backTo pos (starEach [] X.env))) _ _ s
  refine Calls.spliced_cons (wpAny_Call_method (T := "dict") (id := "dict.items") base rfl line F.plainAttrs_dict F.slot_dict_items F.type_dict_items (thn (he.run pins s σ H _ I hq) fun u s1 ⟨x, H1, I1, rx, d, kvs, ex, hd, q⟩ => ?_))
  subst ex
  obtain rfl : u = Value.ref d := rx
  obtain ⟨size, low, vs, kv, dof⟩ := dk_rd I1.hok hd
  obtain ⟨ep, dat⟩ := dof.dictAt
  have lens : kvs.length = vs.length := Paired.length kv
  refine ⟨dof.typeIs, dof.mapOf.noDict, ?_⟩
  show wpAny _ _ (callWith cpos (.builtin "dict.items") [.ref d] [] []) _ X.xe s1
  refine method_meetsIn F.slot_dict_items F.entry_dict_items rfl (PySem.evalArgs_none ⟨rfl, dof.typeIs, F.args_dict_items_1 _, _, meets_dict_items (mixKind X.prog X.w) d low, ⟨vs, dof⟩, Calls.spliced_nil ?_⟩)
  have I2 : Inv X pins σ H1 { s1 with heap := s1.heap.push { cls := .type "dict_items", data := .fields #[.ref d] } } := I1.kept (t' := s1.toks) fun b ob => Heap.get?_push_of_some _
  refine PySem.W.kdx_call (knd := mixKind X.prog X.w) (kvs := vs) (ep := ep) (I1.ok.hd calm) ⟨_, Heap.get?_push_size _ rfl, rfl, rfl⟩ (dat.push _) (by omega) fun h' tk acc c ts keep atp hl pairs hacc => ?_
  obtain ⟨H', k1, k2, k3, k4, k5, k6, J⟩ := LiI.items_laid (tk := tk) I2 size kv keep atp hl pairs hacc
  exact ⟨.ref _, H', J, rfl, q H' _ ts k1 k2 k3 k4 k5 k6⟩
theorem vals_kv {P : Nat → Value → Prop} : ∀ {kvs : List (Key × V)} {vs : List (Key × Value)}, KV kvs vs → ∀ (us : List Value), us.length = kvs.length → (∀ (j : Nat) (v : Value), us[j]? = some v → ∃ k, vs[j]? = some (k, v)) → Vals (kvs.map (·.2)) us
  | _, _, .nil, [], _, _ => .nil
  | _, _, .nil, _ :: _, h, _ => by cases h
  | _, _, .cons _ _, [], h, _ => by cases h
  | _, _, .cons a r, u :: us, h, f => by
    obtain ⟨k, e⟩ := f 0 u rfl
    have e := Option.some.inj e
    refine .cons (by rw [show u = _ from (congrArg Prod.snd e).symm]; exact a.2) (vals_kv (P := P) r us (Nat.succ.inj h) fun j v z => ?_)
    exact f (j + 1) v z
theorem pe_vaL (calm : X.calm = true) (he : PE X e te) (hg : Gl X "list") (hm : X.mg "list" = none) (base : attributeBase e "values" X.env (eval e X.env) = eval e X.env := by rfl) (line : (apos.endLine == cpos.line) = true := by rfl)
    (star : starEach [.Call (.Attribute e "values" apos) [] [] cpos] X.env = (false, eval (.Call (.Attribute e "values" apos) [] [] cpos) X.env) :: starEach [] X.env := by rfl) :
    PE X (.Call (.Name "list" p) [.Call (.Attribute e "values" apos) [] [] cpos] [] pos) (tVaL te) := by
  refine ⟨fun pins s σ H Q I hq => ?_⟩
  refine wpAny_Call_Name_kw (ld_blt I hg hm (u := .type "list") (by rfl) (PyProof.Rows.callWith_type1 ?_ star rfl))
  rw [star]
  show wpAny _ _ (spliced ((false, eval (.Call (.Attribute e "values" apos) [] [] cpos) X.env) :: backTo pos (starEach [] X.env))) _ _ s
  refine Calls.spliced_cons (wpAny_Call_method (T := "dict") (id := "dict.values") base rfl line F.plainAttrs_dict F.slot_dict_values F.type_dict_values (thn (he.run pins s σ H _ I hq) fun u s1 ⟨x, H1, I1, rx, d, kvs, ex, hd, q⟩ => ?_))
  subst ex
  obtain rfl : u = Value.ref d := rx
  obtain ⟨size, low, vs, kv, dof⟩ := dk_rd I1.hok hd
  obtain ⟨ep, dat⟩ := dof.dictAt
  have lens : kvs.length = vs.length := Paired.length kv
  refine ⟨dof.typeIs, dof.mapOf.noDict, ?_⟩
  show wpAny _ _ (callWith cpos (.builtin "dict.values") [.ref d] [] []) _ X.xe s1
  refine method_meetsIn F.slot_dict_values F.entry_dict_values rfl (PySem.evalArgs_none ⟨rfl, dof.typeIs, F.args_dict_values_1 _, _, meets_dict_values (mixKind X.prog X.w) d low, ⟨vs, dof⟩, Calls.spliced_nil ?_⟩)
  have I2 : Inv X pins σ H1 { s1 with heap := s1.heap.push { cls := .type "dict_values", data := .fields #[.ref d] } } := I1.kept (t' := s1.toks) fun b ob => Heap.get?_push_of_some _
  refine PySem.W.kdl_call (PySem.W.kdl_values (knd := mixKind X.prog X.w) (kvs := vs) (ep := ep)) (I1.ok.hd calm) ⟨⟨_, Heap.get?_push_size _ rfl, rfl, rfl⟩, dat.push _⟩ (by omega) fun h' tk acc c keep atp hacc => ?_
  have new := Nat.le_refl (s1.heap.push { cls := .type "dict_values", data := .fields #[.ref d] }).objs.size
  refine ⟨.ref _, _, I2.laid (t' := tk) (o := .lst (kvs.map (·.2))) keep new ⟨by rw [List.length_map]; exact size, acc.toList, c, ?_, by rw [Array.toArray_toList]; exact atp⟩, rfl, q _ (I2.hok.fresh new)⟩
  exact vals_kv (P := fun _ _ => True) kv acc.toList (by rw [Array.length_toList, hacc.1, lens]) fun j v z => hacc.2 j v (by rw [← Array.getElem?_toList]; exact z)
end
end DkL
namespace TP
open PySem PySem.Spec PyProof.Rows L2 DkL
section
variable {G M own : List Addr} {H H' : Hp} {σ : L2.St} {Γ Γ' Γ0 Γ1 Γ2 : Ctx} {α β γ : Type} {R : Rp α} {S : Rp β} {xs : List (Str × α)} {te : TE} {K : PySem.W.Frag}
theorem paired_dr {h h' : Hp} (s : Sub h h') {ts : List Addr} : ∀ {kvs : List (Key × V)} {xs : List (Str × α)} {ts : List Addr}, DRel R h kvs xs → Paired (fun (t : Addr) (q : Key × V) => h' t = some (.tup [kV q.1, q.2])) ts kvs → All2 ((rT2 rStr R).rep h') (ts.map V.ref) xs
  | _, _, [], .nil, _ => .nil
  | _, _, _ :: _, .nil, h => by cases h
  | _, _, [], .cons _ _, h => by cases h
  | q :: kvs, x :: xs, t :: ts, .cons a r, h => by
    cases h with
    | cons b c =>
      refine .cons ⟨t, kV q.1, q.2, rfl, b, ?_, R.mono s a.2⟩ (paired_dr s (ts := ts) r c)
      show kV q.1 = V.str x.1
      rw [a.1]; rfl
theorem rd_dct {h : Hp} {v : V} (s : Sub h H) (r : (rDct R).rep h v xs) : ∃ p kvs, v = .ref p ∧ Rd H p (.dK kvs) ∧ DRel R h kvs xs := by
  obtain ⟨p, od, kvs, e, hp, r⟩ := r
  exact ⟨p, kvs, e, .inr ⟨od, s _ _ hp⟩, r⟩
theorem drel_vals {h : Hp} : ∀ {kvs : List (Key × V)} {xs : List (Str × α)}, DRel R h kvs xs → All2 (R.rep h) (kvs.map (·.2)) (xs.map (·.2))
  | _, _, .nil => .nil
  | _, _, .cons a r => .cons a.2 (drel_vals r)
theorem e_itL (h : E G Γ te Γ1 (rDct R) xs) : E G Γ (tItL te) Γ1 (rList (rT2 rStr R)) xs := fun M own σ H k e Q q => h M own σ H k e _ fun v H1 x1 k1 e1 r1 => by
  obtain ⟨d, kvs, rfl, rd, r⟩ := rd_dct hid_sub r1
  refine ⟨d, kvs, rfl, rd, fun H' p ts sub hp hts hn hp' pr => ?_⟩
  have x2 : Ex (G ++ own) H1 H' := fun b o _ z => sub b o z
  have kM : ∀ b, H1 b = none → b ∉ M := fun b hb z => k1.al b z hb
  have s2 : Sub (hid M H1) (hid M H') := x2.hid (e1.allSub k1)
  have tsn : ∀ t ∈ ts, hid M H' t = H' t := fun t ht => by
    unfold hid
    rw [if_neg (kM t (hts t ht))]
  have pr' : Paired (fun (t : Addr) (q : Key × V) => hid M H' t = some (.tup [kV q.1, q.2])) ts kvs := by
    clear hp' hn hp r rd s2
    induction pr with
    | nil => exact .nil
    | cons a _ ih => exact .cons (by rw [tsn _ List.mem_cons_self]; exact a) (ih (fun t ht => hts t (List.mem_cons_of_mem _ ht)) fun t ht => tsn t (List.mem_cons_of_mem _ ht))
  refine q (.ref p) H' (x1.trans x2) ⟨k1.sub, fun m hm z => k1.al m hm ?_, fun P hP => ?_⟩ (e1.ext k1 fun b o _ z => sub b o z) ⟨p, _, rfl, hid_of (kM p hp) hp', paired_dr (ts := ts) s2 r pr'⟩
  · cases hz : H1 m with
    | none => rfl
    | some o => rw [sub m o hz] at z; cases z
  · obtain ⟨ps, e', t⟩ := k1.wf P hP
    exact ⟨ps, sub _ _ e', t⟩
theorem e_vaL (h : E G Γ te Γ1 (rDct R) xs) : E G Γ (tVaL te) Γ1 (rList R) (xs.map (·.2)) := fun M own σ H k e Q q => h M own σ H k e _ fun v H1 x1 k1 e1 r1 => by
  obtain ⟨d, kvs, rfl, rd, r⟩ := rd_dct hid_sub r1
  refine ⟨d, kvs, rfl, rd, fun p hp => ?_⟩
  have hM : p ∉ M := k1.fresh hp
  have k2 := k1.grow (o := .lst (kvs.map (·.2))) hp
  refine q (.ref p) _ (x1.trans (Ex.new hp)) ⟨k1.sub, fun m hm => k2.al m (List.mem_cons_of_mem _ hm), k2.wf⟩ (e1.ext k1 (Ex.new hp)) ⟨p, _, rfl, hid_of hM upd_same, drel_vals ?_⟩
  exact r.mono ((Ex.new (N := G ++ own) hp).hid (e1.allSub k1))
end
end TP

set_option Elab.async false
set_option linter.all false
set_option maxRecDepth 100000
set_option maxHeartbeats 4000000
/-! what is equal, dicts among it -/
namespace DkL
open PySem PySem.Spec PyProof.Rows L2
/-- the same plain data; or two dicts of the same -/
def DEq (K : PySem.W.Frag) (H : Hp) (x y : V) : Prop :=
  (∃ d, Dp K H x d ∧ Dp K H y d ∧ SeqAt.shaped d = true) ∨
    ∃ (a b : Addr) (ks ls : List (Key × V)), x = .ref a ∧ y = .ref b ∧ Rd H a (.dK ks) ∧ Rd H b (.dK ls) ∧ ks.length = ls.length ∧ ∀ p ∈ ks, ∃ w d, valV ls p.1 = some w ∧ Dp K H p.2 d ∧ Dp K H w d ∧ SeqAt.shaped d = true
def rEqT (K : PySem.W.Frag) : R2 := fun x y H Q => DEq K H x y ∧ Q (.bl true) H
def rNeT (K : PySem.W.Frag) : R2 := fun x y H Q => DEq K H x y ∧ Q (.bl false) H
/-- a dict beside an empty one -/
def rEqZ : R2 := fun x y H Q => ∃ (a b : Addr) (ks : List (Key × V)), x = .ref a ∧ y = .ref b ∧ Rd H a (.dK ks) ∧ Rd H b (.dK []) ∧ Q (.bl ks.isEmpty) H
def rNeZ : R2 := fun x y H Q => ∃ (a b : Addr) (ks : List (Key × V)), x = .ref a ∧ y = .ref b ∧ Rd H a (.dK ks) ∧ Rd H b (.dK []) ∧ Q (.bl !ks.isEmpty) H
section
variable {X : Cx} {pins : List (Addr × Obj)} {σ : L2.St} {H : Hp} {s : Shared}
theorem eqAt_dp (I : Inv X pins σ H s) {A : Around} {v w : V} {a b : Value} {d : PyData} (hv : Dp X.K H v d) (hw : Dp X.K H w d) (sh : SeqAt.shaped d = true) (ra : RelV v a) (rb : RelV w b) (room : A.units + 64 < cLine) : SeqAt.EqAt A s a b true := by
  obtain ⟨as, r1⟩ := Dp.reads I d v a hv ra
  obtain ⟨bs, r2⟩ := Dp.reads I d w b hw rb
  have lay := SeqAt.canLay_of_shaped sh
  have := SeqAt.eqAt_reads d d A s a b as bs r1 r2 lay lay (SeqAt.room_of_shaped sh room)
  rwa [SeqAt.eqv_refl d lay] at this
theorem hits_dp (I : Inv X pins σ H s) {A : Around} (room : A.units + 64 < cLine) {ls : List (Key × V)} {vb : List (Key × Value)} (rb : KV ls vb) : ∀ {ks : List (Key × V)} {va : List (Key × Value)}, KV ks va →
    (∀ p ∈ ks, ∃ w d, valV ls p.1 = some w ∧ Dp X.K H p.2 d ∧ Dp X.K H w d ∧ SeqAt.shaped d = true) → PySem.W.KeqHits A s vb va true
  | _, _, .nil, _ => .nil
  | p :: ks, (k, v) :: va, .cons a r, h => by
    obtain ⟨w, d, h1, h2, h3, h4⟩ := h p List.mem_cons_self
    have rel : RelO (some w) (valueAt vb p.1) := h1 ▸ rb.val p.1
    obtain ⟨y, hy, ry⟩ := rel.some_of
    have ek : p.1 = k := a.1
    rw [ek] at hy
    exact (PySem.W.KeqHits.hit (e := true) (b := true) hy (eqAt_dp I h2 h3 h4 a.2 ry room) (hits_dp I room rb r fun q hq => h q (List.mem_cons_of_mem _ hq)) : PySem.W.KeqHits A s vb ((k, v) :: va) (true && true))
end
section
variable {X : Cx} {K : PySem.W.Frag}
theorem op_eqT (hK : X.K = K) (room : X.A.units + 70 < cLine) : OpR X (compareOp .Eq) (rEqT K) := by
  subst hK
  intro pins s σ H x y v u Q I rx ry ⟨h, q⟩
  rcases h with ⟨d, h1, h2, sh⟩ | ⟨a, b, ks, ls, rfl, rfl, ha, hb, len, h⟩
  · refine op_eqD (by omega) pins s σ H x y v u Q I rx ry ⟨d, d, h1, h2, sh, sh, ?_⟩
    rw [SeqAt.eqv_refl d (SeqAt.canLay_of_shaped sh)]
    exact q
  · obtain rfl : v = Value.ref a := rx
    obtain rfl : u = Value.ref b := ry
    obtain ⟨_, la, va, ra, da⟩ := dk_rd I.hok ha
    obtain ⟨_, lb, vb, rb, db⟩ := dk_rd I.hok hb
    refine PySem.W.keq_eq (r := true) la lb da db (by omega) (fun _ => hits_dp I (by show X.A.units + 1 + 64 < cLine; omega) rb ra h) ⟨.bl true, H, I, ?_, q⟩
    show Value.bool _ = Value.bool true
    rw [show va.length = vb.length by rw [← ra.length, ← rb.length]; exact len]
    simp
theorem op_neT (hK : X.K = K) (room : X.A.units + 70 < cLine) : OpR X (compareOp .NotEq) (rNeT K) := by
  subst hK
  intro pins s σ H x y v u Q I rx ry ⟨h, q⟩
  rcases h with ⟨d, h1, h2, sh⟩ | ⟨a, b, ks, ls, rfl, rfl, ha, hb, len, h⟩
  · refine op_neD (by omega) pins s σ H x y v u Q I rx ry ⟨d, d, h1, h2, sh, sh, ?_⟩
    rw [SeqAt.eqv_refl d (SeqAt.canLay_of_shaped sh)]
    exact q
  · obtain rfl : v = Value.ref a := rx
    obtain rfl : u = Value.ref b := ry
    obtain ⟨_, la, va, ra, da⟩ := dk_rd I.hok ha
    obtain ⟨_, lb, vb, rb, db⟩ := dk_rd I.hok hb
    refine PySem.W.keq_ne (r := true) la lb da db (by omega) (fun _ => hits_dp I (by show X.A.units + 1 + 64 < cLine; omega) rb ra h) ⟨.bl false, H, I, ?_, q⟩
    show Value.bool _ = Value.bool false
    rw [show va.length = vb.length by rw [← ra.length, ← rb.length]; exact len]
    simp
theorem hits_none {A : Around} {s : Shared} : ∀ {va : List (Key × Value)}, PySem.W.KeqHits A s [] va va.isEmpty
  | [] => .nil
  | (k, v) :: va => .miss rfl
theorem kv_empty {ks : List (Key × V)} {va : List (Key × Value)} (r : KV ks va) : va.isEmpty = ks.isEmpty := by
  cases r <;> rfl
theorem op_eqZ (room : X.A.units < cLine) : OpR X (compareOp .Eq) rEqZ := by
  intro pins s σ H x y v u Q I rx ry ⟨a, b, ks, ex, ey, ha, hb, q⟩
  subst ex ey
  obtain rfl : v = Value.ref a := rx
  obtain rfl : u = Value.ref b := ry
  obtain ⟨_, la, va, ra, da⟩ := dk_rd I.hok ha
  obtain ⟨_, lb, vb, rb, db⟩ := dk_rd I.hok hb
  cases rb
  refine PySem.W.keq_eq la lb da db room (fun _ => hits_none) ⟨.bl ks.isEmpty, H, I, ?_, q⟩
  show Value.bool _ = Value.bool _
  rw [kv_empty ra]
  cases ks with
  | nil => cases ra; rfl
  | cons _ _ => simp
theorem op_neZ (room : X.A.units < cLine) : OpR X (compareOp .NotEq) rNeZ := by
  intro pins s σ H x y v u Q I rx ry ⟨a, b, ks, ex, ey, ha, hb, q⟩
  subst ex ey
  obtain rfl : v = Value.ref a := rx
  obtain rfl : u = Value.ref b := ry
  obtain ⟨_, la, va, ra, da⟩ := dk_rd I.hok ha
  obtain ⟨_, lb, vb, rb, db⟩ := dk_rd I.hok hb
  cases rb
  refine PySem.W.keq_ne la lb da db room (fun _ => hits_none) ⟨.bl !ks.isEmpty, H, I, ?_, q⟩
  show Value.bool _ = Value.bool _
  rw [kv_empty ra]
  cases ks with
  | nil => cases ra; rfl
  | cons _ _ => simp
end
end DkL
namespace TP
open PySem PySem.Spec PyProof.Rows L2 DkL
section
variable {G M own : List Addr} {H H' : Hp} {σ : L2.St} {Γ Γ' Γ0 Γ1 Γ2 : Ctx} {α β γ : Type} {R : Rp α} {S : Rp β} {ta tb : TE} {K : PySem.W.Frag}
/-- what is told equal where it is the same -/
structure Qe (R : Rp α) where
  ok : α → Prop
  eq : ∀ (K : PySem.W.Frag) (h H : Hp) (u v : V) (a : α), ok a → R.rep h u a → R.rep h v a → Sub h H → DEq K H u v
def qDat [DecidableEq α] (D : Dat R) (hn : D.n ≤ 64 := by decide) : Qe R := ⟨D.ok, fun K h H u v a o r1 r2 s => .inl ⟨D.d a, D.dp K h H u a r1 s, D.dp K h H v a r2 s, D.shaped o hn⟩⟩
def qDct [DecidableEq α] (D : Dat R) (hn : D.n ≤ 64 := by decide) : Qe (rDct R) := ⟨fun xs => (xs.map (·.1)).Nodup ∧ ∀ x ∈ xs, D.ok x.2, fun K h H u v xs ⟨nd, o⟩ r1 r2 s => by
  obtain ⟨p, ks, rfl, rd1, d1⟩ := rd_dct s r1
  obtain ⟨q, ls, rfl, rd2, d2⟩ := rd_dct s r2
  refine .inr ⟨p, q, ks, ls, rfl, rfl, rd1, rd2, by rw [d1.length, d2.length], fun z hz => ?_⟩
  obtain ⟨i, hi⟩ := List.getElem?_of_mem hz
  obtain ⟨x, hx, ek, rx⟩ := d1.getL hi
  have xm : x ∈ xs := List.mem_of_getElem? hx
  obtain ⟨w, hw, rw⟩ := (d2.val x.1).1 x.2 (lookK_mem nd xm)
  exact ⟨w, D.d x.2, by rw [ek]; exact hw, D.dp K h H _ _ rx s, D.dp K h H _ _ rw s, D.shaped (o x xm) hn⟩⟩
def qSum (A : Qe R) (B : Qe S) : Qe (rSum R S) := ⟨fun x => match x with | .inl a => A.ok a | .inr b => B.ok b, fun K h H u v x o r1 r2 s => by
  cases x with
  | inl a => exact A.eq K h H u v a o r1 r2 s
  | inr b => exact B.eq K h H u v b o r1 r2 s⟩
def qOpt (A : Qe R) : Qe (rOpt R) := ⟨fun x => match x with | some a => A.ok a | none => True, fun K h H u v x o r1 r2 s => by
  cases x with
  | some a => exact A.eq K h H u v a o r1 r2 s
  | none =>
    have e1 : u = V.non := r1
    have e2 : v = V.non := r2
    subst e1 e2
    exact .inl ⟨.none, .non, .non, rfl⟩⟩
theorem e_eqT (Q : Qe R) {x y : α} (ha : E G Γ ta Γ1 R x) (hb : E G Γ1 tb Γ2 R y) (e : x = y) (o : Q.ok x) : E G Γ (tOp (rEqT K) ta tb) Γ2 rBool true := by
  subst e
  exact e_op ha hb fun M H v u C k rv ru q => ⟨Q.eq K _ _ _ _ _ o rv ru hid_sub, q _ H Ex.refl k rfl⟩
theorem e_neT (Q : Qe R) {x y : α} (ha : E G Γ ta Γ1 R x) (hb : E G Γ1 tb Γ2 R y) (e : x = y) (o : Q.ok x) : E G Γ (tOp (rNeT K) ta tb) Γ2 rBool false := by
  subst e
  exact e_op ha hb fun M H v u C k rv ru q => ⟨Q.eq K _ _ _ _ _ o rv ru hid_sub, q _ H Ex.refl k rfl⟩
theorem drel_empty {h : Hp} {kvs : List (Key × V)} {xs : List (Str × α)} (r : DRel R h kvs xs) : kvs.isEmpty = xs.isEmpty := by
  cases r <;> rfl
theorem e_eqZ {xs : List (Str × α)} (ha : E G Γ ta Γ1 (rDct R) xs) (hb : E G Γ1 tb Γ2 (rDct R) ([] : List (Str × α))) : E G Γ (tOp rEqZ ta tb) Γ2 rBool xs.isEmpty :=
  e_op ha hb fun M H v u C k rv ru q => by
    obtain ⟨p, ks, rfl, rd1, d1⟩ := rd_dct hid_sub rv
    obtain ⟨p', ls, rfl, rd2, d2⟩ := rd_dct hid_sub ru
    cases d2
    exact ⟨p, p', ks, rfl, rfl, rd1, rd2, q _ H Ex.refl k (by rw [drel_empty d1] <;> rfl)⟩
theorem e_neZ {xs : List (Str × α)} (ha : E G Γ ta Γ1 (rDct R) xs) (hb : E G Γ1 tb Γ2 (rDct R) ([] : List (Str × α))) : E G Γ (tOp rNeZ ta tb) Γ2 rBool (!xs.isEmpty) :=
  e_op ha hb fun M H v u C k rv ru q => by
    obtain ⟨p, ks, rfl, rd1, d1⟩ := rd_dct hid_sub rv
    obtain ⟨p', ls, rfl, rd2, d2⟩ := rd_dct hid_sub ru
    cases d2
    exact ⟨p, p', ks, rfl, rfl, rd1, rd2, q _ H Ex.refl k (by rw [drel_empty d1] <;> rfl)⟩
end
end TP

set_option Elab.async false
set_option linter.all false
set_option maxRecDepth 100000
set_option maxHeartbeats 4000000
/-! a module's tables: dicts with texts as keys, tuples -/
namespace DkL
open PySem PySem.Spec PyProof.Rows L2
/-- the module's dict at a: these keys, these values, whatever the heap -/
structure MD {α : Type} (K : PySem.W.Frag) (w : World) (a : Addr) (R : TP.Rp α) (xs : List (Str × α)) : Prop where
  kd : ∃ es n, KD K w a (xs.map (·.1)) es n
  val : ∀ x ∈ xs, ∃ v u, PySem.W.nsIn K a x.1 = some (some u) ∧ RelV v u ∧ ∀ h, R.rep h v x.2
theorem find_keys {ks : List Str} : ∀ {l : List DictEntry} {P : Params} {ks : List Str}, l.map He.keyOf = He.keysIn P ks → ∀ z : Str, ((l.find? (·.key.isStr z)).isSome = decide (z ∈ ks)) ∧ l.any (·.refKey) = false
  | [], _, [], _, z => ⟨rfl, rfl⟩
  | [], _, _ :: _, h, _ => by cases h
  | _ :: _, _, [], h, _ => by cases h
  | e :: r, P, k :: ks, h, z => by
    injection h with h1 h2
    obtain ⟨i1, i2⟩ := find_keys (ks := ks) h2 z
    unfold He.keyOf at h1
    split at h1
    · rename_i x t hk
      have h3 : x = k := congrArg Prod.fst (Option.some.inj h1)
      subst h3
      refine ⟨?_, ?_⟩
      · by_cases hz : x = z
        · have : e.key.isStr z = true := by rw [hk]; simp [Value.isStr, hz]
          rw [List.find?_cons_of_pos (p := fun x : DictEntry => x.key.isStr z) this]
          simp [hz]
        · have : ¬ e.key.isStr z = true := by rw [hk]; simp [Value.isStr, hz]
          rw [List.find?_cons_of_neg (p := fun x : DictEntry => x.key.isStr z) this, i1]
          simp [Ne.symm hz]
      · rw [List.any_cons, i2, Bool.or_false]
        simp [DictEntry.refKey, hk]
    · cases h1
theorem KD.in_ {K : PySem.W.Frag} {w : World} {a : Addr} {ks : List Str} {es : Array DictEntry} {n : Nat} (D : KD K w a ks es n) (z : Str) : ∃ r : Option Value, PySem.W.nsIn K a z = some r ∧ r.isSome = decide (z ∈ ks) := by
  obtain ⟨i1, i2⟩ := find_keys (ks := ks) D.keys z
  unfold PySem.W.nsIn
  rw [D.d.at_]
  simp only
  cases q : es.toList.find? (·.key.isStr z) with
  | none =>
    rw [q] at i1
    refine ⟨none, ?_, i1⟩
    simp only [i2]
    rfl
  | some e =>
    rw [q] at i1
    exact ⟨some e.val, rfl, i1⟩
def rInK (K : PySem.W.Frag) (d : Addr) : R2 := fun x y H Q => ∃ (z : Str) (r : Option Value), x = .str z ∧ y = .ref d ∧ PySem.W.nsIn K d z = some r ∧ Q (.bl r.isSome) H
def rNotInK (K : PySem.W.Frag) (d : Addr) : R2 := fun x y H Q => ∃ (z : Str) (r : Option Value), x = .str z ∧ y = .ref d ∧ PySem.W.nsIn K d z = some r ∧ Q (.bl (!r.isSome)) H
section
variable {X : Cx} {K : PySem.W.Frag} {w : World} {d : Addr} {ks : List Str} {α : Type} {R : TP.Rp α} {xs : List (Str × α)}
theorem op_inK (hK : X.K = K) (hw : X.w = w) (D : MD K w d R xs) : OpR X (compareOp .In) (rInK K d) := by
  subst hK hw
  obtain ⟨es, n, D⟩ := D.kd
  exact op_in_kd D.d
theorem op_notInK (hK : X.K = K) (hw : X.w = w) (D : MD K w d R xs) : OpR X (compareOp .NotIn) (rNotInK K d) := by
  subst hK hw
  obtain ⟨es, n, D⟩ := D.kd
  exact op_notIn_kd D.d
theorem ix_kdictK (hK : X.K = K) (hw : X.w = w) : IxR X (rIxD K w) := by subst hK hw; exact ix_kdict
theorem pi_kdK {tg e : Expr} {td : TE} (hK : X.K = K) (hw : X.w = w) (D : MD K w d R xs) (he : PE X e td) : PI X tg e (iKd d (xs.map (·.1)) td) := by
  subst hK hw
  exact pi_kd D.kd he
end
theorem tab_at {fa : List He.Fa} {fn : List He.DefD} {ts : List He.Tab} {w : World} {K : PySem.W.Frag} (c : He.SaysT fa fn ts w K) (i : Nat) {t : He.Tab} (h : ts[i]? = some t := by rfl) : He.dicW K (t.1 K) = some (He.keysIn w.params t.2) := by
  have e := congrArg (fun z : He.AlT => z.2[i]?) c
  unfold He.obsT He.valT at e
  simp only [List.getElem?_map, h, Option.map_some] at e
  exact Option.some.inj e
/-- from what the head looks at -/
theorem md_of {K : PySem.W.Frag} {w : World} {a : Addr} {α : Type} {R : TP.Rp α} {xs : List (Str × α)} (dv : α → He.Dv) (hd : He.dicW K a = some (He.keysIn w.params (xs.map (·.1)))) (hv : He.valsB K a (xs.map fun x => (x.1, dv x.2)) = true)
    (hR : ∀ x ∈ xs, ∀ h, R.rep h ((dv x.2).v K) x.2) : MD K w a R xs := by
  refine ⟨kd_of hd, fun x hx => ?_⟩
  obtain ⟨u, h1, h2⟩ := He.valsB_ok hv (q := (x.1, dv x.2)) (List.mem_map.mpr ⟨x, hx, rfl⟩)
  exact ⟨_, u, h1, h2, hR x hx⟩
end DkL
namespace TP
open PySem PySem.Spec PyProof.Rows L2 DkL
section
variable {G M own : List Addr} {H H' : Hp} {σ : L2.St} {Γ Γ' Γ0 Γ1 Γ2 : Ctx} {α β γ : Type} {R : Rp α} {S : Rp β} {xs : List (Str × α)} {te td ty : TE} {K : PySem.W.Frag} {w : World} {a : Addr} {k : Str} {v : α}
theorem e_kin (D : MD K w a R xs) (hk : E G Γ ty Γ1 rStr k) : E G Γ (tOp (rInK K a) ty (tC (.ref a))) Γ1 rBool (decide (k ∈ xs.map (·.1))) := e_op hk e_v fun M H x y Q kk rx ry q => by
  have rx : x = V.str k := rx
  have ry : y = V.ref a := ry
  subst rx ry
  obtain ⟨es, n, D'⟩ := D.kd
  obtain ⟨r, h1, h2⟩ := D'.in_ k
  exact ⟨k, r, rfl, rfl, h1, q _ H Ex.refl kk (by show V.bl _ = V.bl _; rw [h2])⟩
theorem e_knotin (D : MD K w a R xs) (hk : E G Γ ty Γ1 rStr k) : E G Γ (tOp (rNotInK K a) ty (tC (.ref a))) Γ1 rBool (!decide (k ∈ xs.map (·.1))) := e_op hk e_v fun M H x y Q kk rx ry q => by
  have rx : x = V.str k := rx
  have ry : y = V.ref a := ry
  subst rx ry
  obtain ⟨es, n, D'⟩ := D.kd
  obtain ⟨r, h1, h2⟩ := D'.in_ k
  exact ⟨k, r, rfl, rfl, h1, q _ H Ex.refl kk (by show V.bl _ = V.bl _; rw [h2])⟩
theorem e_kix (D : MD K w a R xs) (hk : E G Γ ty Γ1 rStr k) (hv : (k, v) ∈ xs) : E G Γ (tOp (rIxD K w) (tC (.ref a)) ty) Γ1 R v := e_op e_v hk fun M H x y Q kk rx ry q => by
  have rx : x = V.ref a := rx
  have ry : y = V.str k := ry
  subst rx ry
  obtain ⟨es, n, D'⟩ := D.kd
  obtain ⟨z, u, h1, h2, h3⟩ := D.val _ hv
  exact ⟨a, k, z, rfl, rfl, ⟨es, n, u, D'.d.at_, D'.d.lit, h1, h2⟩, q _ H Ex.refl kk (h3 _)⟩
theorem e_kixD {d : α} (D : MD K w a R xs) (hk : E G Γ ty Γ1 rStr k) (h : (lookK xs k).isSome = true) : E G Γ (tOp (rIxD K w) (tC (.ref a)) ty) Γ1 R ((lookK xs k).getD d) := by
  obtain ⟨v, hv⟩ := Option.isSome_iff_exists.mp h
  rw [hv]
  exact e_kix D hk (lookK_some hv)
/-- a module's tuple -/
def rKT {α : Type} (K : PySem.W.Frag) (R : Rp α) : Rp (List α) := ⟨fun h v xs => ∃ a vs, v = .ref a ∧ (∀ H, SqT K H a vs) ∧ All2 (R.rep h) vs xs, fun k ⟨a, vs, e, s, r⟩ => ⟨a, vs, e, s, r.imp fun _ _ => R.mono k⟩⟩
theorem e_kt {ys : List α} {vs : List V} (s : ∀ H, SqT K H a vs) (r : All2 (fun v y => ∀ h, R.rep h v y) vs ys) : E G Γ (tC (.ref a)) Γ (rKT K R) ys := fun M own σ H k e Q q => q _ H Ex.refl k e ⟨a, vs, rfl, s, r.imp fun _ _ z => z _⟩
theorem src_kt {ys : List α} (h : E G Γ te Γ' (rKT K R) ys) : ES G Γ (iTup K te) Γ' R ys := fun M own σ H k e Q q => h M own σ H k e _ fun v H1 x1 k1 e1 r1 => by
  obtain ⟨p, vs, rfl, hs, r⟩ := r1
  have len := r.length
  refine ⟨p, rfl, ⟨vs, hs _⟩, q _ H1 ⟨fun h => All2 (R.rep h) vs ys, fun k z => z.imp fun _ _ => R.mono k⟩ x1 k1 e1 ⟨_, _, len ▸ walk_tup (K := K) (a := p) (xs := vs), fun h H s z => hs _, fun i x M H H' hi k z y => ?_⟩ r⟩
  obtain ⟨rfl, hx⟩ := y
  obtain ⟨b, h3, h4⟩ := z.getL hx
  exact ⟨Ex.refl, k, b, h3, h4⟩
end
end TP

set_option Elab.async false
set_option linter.all false
set_option maxRecDepth 100000
set_option maxHeartbeats 4000000
/-! dict displays, typed; dict(..) -/
namespace DkL
open PySem PySem.Spec PyProof.Rows L2
theorem call_dictPK {X : Cx} {K : PySem.W.Frag} (hK : X.K = K) (calm : X.calm = true) : CallR X (.type "dict") (fun xs H Q => ∃ (a : Addr) (ps : List Addr) (kvs : List (Key × V)), xs = [.ref a] ∧ SqL K H a (ps.map V.ref) ∧ Paired (fun p kv => SqT K H p [kV kv.1, kv.2]) ps kvs ∧
    ∀ p, H p = none → Q (.ref p) (upd H p (.dK (mergeK [] kvs)))) := by
  subst hK
  exact call_dictP calm
theorem _root_.L2.Room.units1 {k : Nat} {A : Around} (r : L2.Room k A) : A.units + 1 < cLine := by have := r.un; omega
theorem _root_.L2.Room.unitsT {k : Nat} {A : Around} (r : L2.Room k A) : A.units + 70 < cLine := by have := r.un; omega
end DkL
namespace TP
open PySem PySem.Spec PyProof.Rows L2 DkL
section
variable {G M own : List Addr} {H H' : Hp} {σ : L2.St} {Γ Γ' Γ0 Γ1 Γ2 : Ctx} {α β γ : Type} {R : Rp α} {S : Rp β} {xs : List (Str × α)} {te td tk tv : TE} {K : PySem.W.Frag} {k : Str} {v : α} {trs : List (TE × TE)}
/-- the pairs of a display -/
inductive EPs (G : List Addr) (R : Rp α) : Ctx → List (TE × TE) → Ctx → List (Str × α) → Prop
  | nil {Γ : Ctx} : EPs G R Γ [] Γ []
  | cons {Γ Γ1 Γ2 Γ3 : Ctx} {tk tv : TE} {trs : List (TE × TE)} {k : Str} {v : α} {xs : List (Str × α)} : E G Γ tk Γ1 rStr k → E G Γ1 tv Γ2 R v → EPs G R Γ2 trs Γ3 xs → EPs G R Γ ((tk, tv) :: trs) Γ3 ((k, v) :: xs)
theorem EPs.go (h : EPs G R Γ trs Γ' xs) : ∀ M own σ H, Ok G M H → Env G M H own σ Γ → ∀ C : List (V × V) → Hp → Prop,
    (∀ (kvs : List (Key × V)) H', Ex (G ++ own) H H' → Ok G M H' → Env G M H' own σ Γ' → DRel R (hid M H') kvs xs → C (kvs.map fun kv => (kV kv.1, kv.2)) H') → tPairs trs σ H C := by
  induction h with
  | nil => intro M own σ H kk e C q; exact q [] H Ex.refl kk e .nil
  | cons hk hv _ ih =>
    intro M own σ H kk e C q
    refine hk M own σ H kk e _ fun x H1 x1 k1 e1 r1 => hv M own σ H1 k1 e1 _ fun y H2 x2 k2 e2 r2 => ih M own σ H2 k2 e2 _ fun kvs H3 x3 k3 e3 r3 => ?_
    have r1 : x = V.str _ := r1
    subst r1
    exact q ((keyS _, y) :: kvs) H3 ((x1.trans x2).trans x3) k3 e3 (.cons ⟨rfl, R.mono (x3.hid (e2.allSub k2)) r2⟩ r3)
theorem en_disp (h : EPs G R Γ trs Γ' xs) (hl : xs.length ≤ 15) : EN G Γ (tDisp trs) Γ' (oDct R (mergeL [] xs)) := fun M own σ H kk e Q q p hp => by
  have hM := kk.fresh hp
  have hpo : p ∉ G ++ own := fun z => hM (e.allSub kk p z)
  refine h.go (p :: M) own σ _ (kk.grow hp) (e.grow kk hp) _ fun kvs H2 x2 k2 e2 r2 => ⟨x2 p _ hpo upd_same, kvs, rfl, by rw [r2.length]; exact hl, ?_⟩
  have sb : hid (p :: M) (upd H2 p (.dK (mergeK [] kvs))) = hid (p :: M) H2 := hid_upd List.mem_cons_self
  have hne : ∀ b, b ≠ p → upd H2 p (.dK (mergeK [] kvs)) b = H2 b := fun b hb => upd_ne hb
  refine q (.ref p) _ [p] (fun b o hb z => ?_) ⟨k2.sub, fun m hm z => ?_, fun P hP => ?_⟩ ⟨e2.nd, e2.sub, e2.out, ?_⟩ (by simp) (fun b hb => by rw [List.mem_singleton.mp hb]; exact hp) ⟨p, _, rfl, rfl, upd_same, ?_⟩
  · rw [hne b (ne_of_none z hp)]
    exact x2 b o hb (by rw [upd_ne (ne_of_none z hp)]; exact z)
  · by_cases hb : m = p
    · rw [hb, upd_same] at z; cases z
    · rw [hne m hb] at z; exact k2.al m hm z
  · obtain ⟨ps, e', t⟩ := k2.wf P hP
    exact ⟨ps, by rw [hne P (fun z => hpo (by rw [← z]; exact List.mem_append_left _ hP))]; exact e', t⟩
  · show EnvR (hid (p :: M) _) _ _ _ _
    rw [sb]
    exact e2.env.mono (Sub.refl _) fun b hb => hne b fun z => hpo (by rw [← z]; exact List.mem_append_right _ hb)
  · show DRel R (hid (p :: M) _) _ _
    rw [sb]
    exact DRel.merge r2 .nil
/-- with keys that differ, at once told -/
theorem e_dispF (h : EPs G R Γ trs Γ' xs) (hl : xs.length ≤ 15) (nd : (xs.map (·.1)).Nodup) : E G Γ (tFrz (tDisp trs)) Γ' (rDct R) xs := by
  have := e_frz (en_disp h hl)
  rwa [merge_nil nd] at this
/-! one kind as a part of a wider one -/
theorem e_inlS {a : α} (h : E G Γ te Γ1 R a) : E G Γ te Γ1 (rSum R S) (.inl a) := h
theorem e_inrS {b : β} (h : E G Γ te Γ1 S b) : E G Γ te Γ1 (rSum R S) (.inr b) := h
theorem e_someO {a : α} (h : E G Γ te Γ1 R a) : E G Γ te Γ1 (rOpt R) (some a) := h
theorem e_noneO (h : E G Γ te Γ1 rNon ()) : E G Γ te Γ1 (rOpt R) none := fun M own σ H k e Q q => h M own σ H k e _ fun v H1 x1 k1 e1 r1 => q v H1 x1 k1 e1 r1
theorem kt_strs : ∀ l : List Str, All2 (fun v y => ∀ h, rStr.rep h v y) (l.map V.str) l
  | [] => .nil
  | _ :: l => .cons (fun _ => rfl) (kt_strs l)
/-- dict(pairs) whose keys differ, locked at once -/
theorem e_dpairsF {t : TA} (h : EA G Γ t Γ1 [⟨rList (rT2 rStr R), xs⟩]) (nd : (xs.map (·.1)).Nodup) : E G Γ (tFrz (tCB (fun xs H Q => ∃ (a : Addr) (ps : List Addr) (kvs : List (Key × V)), xs = [.ref a] ∧ SqL K H a (ps.map V.ref) ∧ Paired (fun p kv => SqT K H p [kV kv.1, kv.2]) ps kvs ∧
    ∀ p, H p = none → Q (.ref p) (upd H p (.dK (mergeK [] kvs)))) t)) Γ1 (rDct R) xs := by
  have := e_frz (en_dpairs (K := K) h)
  rwa [merge_nil nd] at this
theorem e_dcF {p : β → Bool} {key : β → Str} {f : β → α} {ys : List β} {wi : TI} {g : TG} {tt : TT} {vs : List Nat} (h : EN G Γ (tDc wi g tt tk tv vs) Γ1 (oDct R (dcL p key f ys))) (nd : ((ys.filter p).map key).Nodup) : E G Γ (tFrz (tDc wi g tt tk tv vs)) Γ1 (rDct R) ((ys.filter p).map fun x => (key x, f x)) := by
  have := e_frz h
  rwa [dcL_map nd] at this
end
end TP

set_option Elab.async false
set_option linter.all false
set_option maxRecDepth 100000
set_option maxHeartbeats 4000000
/-! x, y = a, b and x, y, z = a, b, c by a tuple that is made: some of them new and one's own -/
namespace TP
open PySem PySem.Spec PyProof.Rows L2
section
variable {F : Fm} {gp : Gp} {G M own : List Addr} {H H' : Hp} {σ : L2.St} {Γ Γ' Γ0 Γ1 Γ2 Γ3 : Ctx} {t : TA} {D : Ends} {K : PySem.W.Frag}
theorem s_tupN {is : List Nat} {Γr : Ctx} {g : TG} (h : AN F.G Γ t Γ1 Γr) (hl : is.length = Γr.length) (hs : Γr.length ≤ 8) (ok : okPuts Γ1 (is.zip Γr))
    (hg : ∀ (vs : List V) (p : Addr) σ H, vs.length = is.length → H p = some (.tup vs) → D.nx (TP.puts σ (is.zip vs)) H → g (.ref p) σ H D.nx) (k : KT F gp (putC Γ1 (is.zip Γr)) D.nx) : KT F gp Γ (tAsg (tTup t) g D) := fun M own σ H s e gg => by
  refine h M own σ H s.ok e _ fun vs H1 ps x1 k1 e1 nd hp r1 => ?_
  have len := envR_len r1
  refine ⟨small_len (by omega), fun p hn => ?_⟩
  refine hg vs p σ _ (by rw [hl]; exact len) upd_same ?_
  have k2 : Ok F.G (ps ++ M) (upd H1 p (.tup vs)) := k1.new hn
  have x2 : ∀ N : List Addr, Ex N H1 (upd H1 p (.tup vs)) := fun N => Ex.new hn
  have e2 : Env F.G (ps ++ M) (upd H1 p (.tup vs)) own σ Γ1 := e1.ext k1 (x2 F.G)
  have r2 : EnvR (hid (ps ++ M) (upd H1 p (.tup vs))) (upd H1 p (.tup vs)) (vs.map some) Γr ps := r1.mono ((x2 F.G).hid k1.sub) fun q hq => upd_ne fun z => by
    have := k1.al q (List.mem_append_left _ hq)
    rw [z] at this
    exact this hn
  have dj : ∀ p ∈ ps, p ∈ ps ++ M ∧ p ∉ F.G ∧ p ∉ own := fun p hm => ⟨List.mem_append_left _ hm, fun z => s.ok.al p (s.ok.sub p z) (hp p hm), fun z => s.ok.al p (e.sub p z) (hp p hm)⟩
  obtain ⟨own', e3, mm⟩ := e2.puts r2 nd dj (by rw [hl]; exact len.symm) ok
  have x12 : Ex (F.G ++ own) H (upd H1 p (.tup vs)) := x1.trans (x2 _)
  exact k (ps ++ M) own' _ _ (s.fresh e x12 k2 hp fun p hm => (mm p).mp hm) e3 (gp.mono (hid_more s.ok e x12 hp) gg)
theorem s_asg2N {i j : Nat} {Γr : Ctx} (h : AN F.G Γ t Γ1 Γr) (hl : Γr.length = 2) (ok : okPuts Γ1 ([i, j].zip Γr)) (k : KT F gp (putC Γ1 ([i, j].zip Γr)) D.nx) : KT F gp Γ (tAsg (tTup t) (gTup K 2 (gCons (gName i) (gCons (gName j) gNil))) D) :=
  s_tupN (is := [i, j]) h (by rw [hl]; rfl) (by omega) ok (fun vs p σ H e1 e2 q => by
    match vs, e1 with
    | [v, w], _ => exact ⟨p, [v, w], rfl, SqT.of e2, rfl, v, [w], rfl, w, [], rfl, rfl, q⟩) k
theorem s_asg3N {i j l : Nat} {Γr : Ctx} (h : AN F.G Γ t Γ1 Γr) (hl : Γr.length = 3) (ok : okPuts Γ1 ([i, j, l].zip Γr)) (k : KT F gp (putC Γ1 ([i, j, l].zip Γr)) D.nx) :
    KT F gp Γ (tAsg (tTup t) (gTup K 3 (gCons (gName i) (gCons (gName j) (gCons (gName l) gNil)))) D) :=
  s_tupN (is := [i, j, l]) h (by rw [hl]; rfl) (by omega) ok (fun vs p σ H e1 e2 q => by
    match vs, e1 with
    | [v, w, z], _ => exact ⟨p, [v, w, z], rfl, SqT.of e2, rfl, v, [w, z], rfl, w, [z], rfl, z, [], rfl, rfl, q⟩) k
theorem en_is {te : TE} {O O' : Ow} (h : EN G Γ te Γ1 O) (e : O = O') : EN G Γ te Γ1 O' := e ▸ h
theorem e_tupX {te : TE} {c : Addr} {W : XK} (h : EX G Γ te Γ1 W c) : EX G Γ (tTup (tCons te t)) Γ1 W c := fun M own σ H k e Q q => h M own σ H k e _ q
/-- two statements, what stands between told once -/
theorem s_seqJ {Sx : Type} {ts us : TS} (Γm : Sx → Ctx) (I : Sx → Prop) (h : ∀ N, (∀ a, I a → KT F gp (Γm a) N) → KT F gp Γ (ts { D with nx := N })) (k : ∀ a, I a → KT F gp (Γm a) (us D)) : KT F gp Γ (tSeq ts us D) :=
  s_seq (h _ k)
end
end TP

set_option Elab.async false
set_option linter.all false
set_option maxRecDepth 100000
set_option maxHeartbeats 1000000
/-! exact numbers: part by whole, the least such with a whole above nought -/
namespace RtL
abbrev Q2 := Int × Int
def pr (r : Rat) : Q2 := (r.num, (r.den : Int))
def exq (p w : Int) : Q2 := pr (Rat.divInt p w)
/-- what it stands for -/
def va (q : Q2) : Rat := Rat.divInt q.1 q.2
def plusL (x y : Q2) : Q2 := exq (x.1 * y.2 + y.1 * x.2) (x.2 * y.2)
def timesL (x y : Q2) : Q2 := exq (x.1 * y.1) (x.2 * y.2)
/-- of so many bits -/
def Bd (k : Nat) (q : Q2) : Prop := 0 < q.2 ∧ q.1.natAbs < 2 ^ k ∧ q.2.natAbs < 2 ^ k
theorem exq_pos {p w : Int} (h : 0 < w) : exq p w = (p / (Int.gcd p w : Int), w / (Int.gcd p w : Int)) := by
  unfold exq pr
  rw [Rat.num_divInt, Rat.den_divInt, if_neg (by omega), Int.sign_eq_one_of_pos h, Int.one_mul, Int.gcd_comm w p]
  refine Prod.ext rfl ?_
  show ((w.natAbs / Int.gcd p w : Nat) : Int) = w / (Int.gcd p w : Int)
  rw [Int.natCast_ediv, Int.natAbs_of_nonneg (by omega)]
theorem exq_neg (p w : Int) : exq (0 - p) (0 - w) = exq p w := by
  unfold exq
  rw [Int.zero_sub, Int.zero_sub, Rat.neg_divInt_neg]
theorem gcd_step {a b : Int} : Int.gcd b (a % b) = Int.gcd a b := by
  have e : a = a % b + b * (a / b) := by have := Int.emod_add_mul_ediv a b; omega
  rw [Int.gcd_comm a b]
  conv => rhs; rw [e]
  rw [Int.gcd_add_mul_left_right]
theorem va_pr (r : Rat) : va (pr r) = r := Rat.num_divInt_den r
theorem va_exq (p w : Int) : va (exq p w) = Rat.divInt p w := va_pr _
theorem exq_va (q : Q2) : exq q.1 q.2 = pr (va q) := rfl
theorem exq_congr {p w p' w' : Int} (h : w ≠ 0) (h' : w' ≠ 0) (e : p * w' = p' * w) : exq p w = exq p' w' := by
  unfold exq
  rw [(Rat.divInt_eq_divInt_iff h h').mpr e]
theorem pr_pos (r : Rat) : 0 < (pr r).2 := by
  show (0 : Int) < (r.den : Int)
  have := r.den_pos
  omega
theorem exq_dpos (p w : Int) : 0 < (exq p w).2 := pr_pos _
theorem va_add {x y : Q2} (hx : x.2 ≠ 0) (hy : y.2 ≠ 0) : va (plusL x y) = va x + va y := by
  unfold plusL
  rw [va_exq]
  exact (Rat.divInt_add_divInt _ _ hx hy).symm
theorem va_mul (x y : Q2) : va (timesL x y) = va x * va y := by
  unfold timesL
  rw [va_exq]
  exact (Rat.divInt_mul_divInt _ _).symm
theorem plus_pr {x y : Q2} (hx : x.2 ≠ 0) (hy : y.2 ≠ 0) : plusL x y = pr (va x + va y) := by
  rw [← va_add hx hy]
  show exq _ _ = pr (va (exq _ _))
  rw [va_exq]; rfl
theorem times_pr (x y : Q2) : timesL x y = pr (va x * va y) := by
  rw [← va_mul]
  show exq _ _ = pr (va (exq _ _))
  rw [va_exq]; rfl
/-! ### bits -/
theorem bd_mono {a b : Nat} {q : Q2} (h : Bd a q) (hab : a ≤ b) : Bd b q := by
  have := Nat.pow_le_pow_right (show 0 < 2 by decide) hab
  exact ⟨h.1, Nat.lt_of_lt_of_le h.2.1 this, Nat.lt_of_lt_of_le h.2.2 this⟩
theorem exq_le (p : Int) {w : Int} (h : w ≠ 0) : (exq p w).1.natAbs ≤ p.natAbs ∧ (exq p w).2.natAbs ≤ w.natAbs := by
  have key : ∀ p w : Int, 0 < w → (exq p w).1.natAbs ≤ p.natAbs ∧ (exq p w).2.natAbs ≤ w.natAbs := fun p w h => by
    rw [exq_pos h]
    exact ⟨by
      show (p / (Int.gcd p w : Int)).natAbs ≤ _
      rw [Int.natAbs_ediv_of_dvd (Int.gcd_dvd_left ..)]
      exact Nat.div_le_self _ _, by
      show (w / (Int.gcd p w : Int)).natAbs ≤ _
      rw [Int.natAbs_ediv_of_dvd (Int.gcd_dvd_right ..)]
      exact Nat.div_le_self _ _⟩
  rcases Int.lt_or_lt_of_ne h with l | l
  · have := key (0 - p) (0 - w) (by omega)
    rw [exq_neg] at this
    omega
  · exact key p w l
theorem exq_bd {k : Nat} {p w : Int} (h : w ≠ 0) (h1 : p.natAbs < 2 ^ k) (h2 : w.natAbs < 2 ^ k) : Bd k (exq p w) := by
  obtain ⟨a, b⟩ := exq_le p h
  exact ⟨exq_dpos _ _, Nat.lt_of_le_of_lt a h1, Nat.lt_of_le_of_lt b h2⟩
theorem mul_lt {a b : Nat} {i j : Int} (h1 : i.natAbs < 2 ^ a) (h2 : j.natAbs < 2 ^ b) : (i * j).natAbs < 2 ^ (a + b) := by
  rw [Int.natAbs_mul, Nat.pow_add]
  exact Nat.mul_lt_mul'' h1 h2
theorem add_lt {a : Nat} {i j : Int} (h1 : i.natAbs < 2 ^ a) (h2 : j.natAbs < 2 ^ a) : (i + j).natAbs < 2 ^ (a + 1) := by
  have := Int.natAbs_add_le i j
  rw [Nat.pow_succ]
  omega
theorem sub_lt {a : Nat} {i j : Int} (h1 : i.natAbs < 2 ^ a) (h2 : j.natAbs < 2 ^ a) : (i - j).natAbs < 2 ^ (a + 1) := by
  have := Int.natAbs_sub_le i j
  rw [Nat.pow_succ]
  omega
theorem lt_up {a b : Nat} {i : Int} (h : i.natAbs < 2 ^ a) (hab : a ≤ b) : i.natAbs < 2 ^ b := Nat.lt_of_lt_of_le h (Nat.pow_le_pow_right (by decide) hab)
theorem mul_ne {i j : Int} (h1 : 0 < i) (h2 : 0 < j) : i * j ≠ 0 := by
  have := Int.mul_pos h1 h2
  omega
theorem plus_bd {a b : Nat} {x y : Q2} (hx : Bd a x) (hy : Bd b y) : Bd (a + b + 1) (plusL x y) := by
  refine exq_bd (mul_ne hx.1 hy.1) (add_lt (mul_lt hx.2.1 hy.2.2) ?_) (lt_up (mul_lt hx.2.2 hy.2.2) (by omega))
  have := mul_lt hy.2.1 hx.2.2
  rwa [Nat.add_comm] at this
theorem times_bd {a b : Nat} {x y : Q2} (hx : Bd a x) (hy : Bd b y) : Bd (a + b) (timesL x y) :=
  exq_bd (mul_ne hx.1 hy.1) (mul_lt hx.2.1 hy.2.1) (mul_lt hx.2.2 hy.2.2)
theorem wmul {a b : Nat} {i j : Int} (h1 : i.natAbs < 2 ^ a) (h2 : j.natAbs < 2 ^ b) (h : a + b ≤ 900000 := by omega) : L2.CMulW i j :=
  L2.wide_mul (a := a + 1) (b := b + 1) (lt_up h1 (by omega)) (lt_up h2 (by omega)) (by omega) (by omega) (by omega)
theorem wdiv {b : Nat} {i j : Int} (h0 : 0 < j) (h2 : j.natAbs < 2 ^ b) (h : b ≤ 8999 := by omega) : L2.CDivW i j := L2.wide_div h0 (lt_up h2 (show b ≤ 9000 by omega)) (by decide) (by decide)
end RtL

set_option Elab.async false
set_option linter.all false
set_option maxRecDepth 100000
set_option maxHeartbeats 4000000
/-! the law's loop behind other names; comprehensions whose tests draw; what is told equal of two kinds -/
namespace TP
open PySem PySem.Spec PyProof.Rows L2 LM DkL
open LamX (CodeO TabS)
def hideA (p : Addr) (h : Hp) : Hp := fun b => if b = p then none else h b
theorem hid_cons {p : Addr} {M : List Addr} {H : Hp} : hid (p :: M) H = hideA p (hid M H) := by
  funext b
  show (if b ∈ p :: M then none else H b) = if b = p then none else (if b ∈ M then none else H b)
  by_cases hb : b = p
  · rw [if_pos hb, if_pos (by rw [hb]; exact List.mem_cons_self)]
  · rw [if_neg hb]
    by_cases hm : b ∈ M
    · rw [if_pos hm, if_pos (List.mem_cons_of_mem _ hm)]
    · rw [if_neg hm, if_neg (fun z => (List.mem_cons.mp z).elim hb hm)]
/-- it does not hang on a list of ints -/
def Sep {α : Type} (R : Rp α) (a : α) : Prop := ∀ (h : Hp) (p : Addr) (ys : List V), h p = some (.lst ys) → ys ≠ [] → (∀ y ∈ ys, ∃ i, y = V.int i) → ∀ v, R.rep h v a → R.rep (hideA p h) v a
theorem sep_strs {xs : List Str} (hn : xs ≠ []) : Sep (rList rStr) xs := fun h p ys hp yn yi v ⟨q, vs, e, hq, r⟩ => by
  refine ⟨q, vs, e, ?_, r⟩
  unfold hideA
  rw [if_neg]
  · exact hq
  · intro z
    rw [z, hp] at hq
    have e2 : ys = vs := by injection hq with hq; injection hq
    subst e2
    cases r with
    | nil => exact hn rfl
    | cons a _ =>
      obtain ⟨i, hi⟩ := yi _ List.mem_cons_self
      rw [hi] at a
      cases (show V.int i = V.str _ from a)
theorem sep_ints_dct {xs : List (Str × Int)} : Sep (rDct rInt) xs := fun h p ys hp yn yi v ⟨q, od, kvs, e, hq, r⟩ => by
  refine ⟨q, od, kvs, e, ?_, r⟩
  unfold hideA
  rw [if_neg]
  · exact hq
  · intro z
    rw [z, hp] at hq
    cases hq
section
variable {F : Fm} {G M own : List Addr} {H H' : Hp} {σ : L2.St} {Γ Γ' Γ1 Γ2 : Ctx} {α β : Type} {R : Rp α} {a : α} {te : TE} {K : PySem.W.Frag} {D : Ends} {P : Addr} {q : Str}
/-- the law's own loop over its one die, behind two names that hold something else -/
theorem s_one2 {γ : Type} {n : Nat} {R0 : Rp α} {a0 : α} {R1 : Rp β} {b1 : β} {R2 : Rp γ} {b2 : γ} (sp1 : Sep R1 b1) (sp2 : Sep R2 b2) {x : List Int} (hx : x ≠ []) {tb : TS} (hO : F.own0 = []) (hF : ∀ p, p ∉ F.G → F.H0 p = none)
    (h : E F.G (.own (oTabR P q R0 a0) :: .val R1 b1 :: .val R2 b2 :: List.replicate (n + 1) .no) te (.own (oTabR P q R0 a0) :: .val R1 b1 :: .val R2 b2 :: List.replicate (n + 1) .no) (rList (rList rInt)) [x])
    (body : ∀ v gA N, (∀ Γ', KT F gT Γ' D.nx → KT F gA Γ' N) → KT F gA (.own (oTab P q v) :: .val R1 b1 :: .val R2 b2 :: .own (oLst rInt x) :: List.replicate n .no) (tb { D with nx := N, ct := N, bk := D.nx })) :
    KT F gT (.own (oTabR P q R0 a0) :: .val R1 b1 :: .val R2 b2 :: List.replicate (n + 1) .no) (tFor (iList K te) (gName 3) tb D) := fun M own σ H s e gg => h M own σ H s.ok e _ fun w H1 x1 k1 e1 r1 => by
  obtain ⟨a, vs, rfl, ha, rr⟩ := r1
  cases rr with
  | cons r0 rr =>
    cases rr
    obtain ⟨p, ys, rfl, hp, ry⟩ := r0
    have st1 := s.step x1 k1
    obtain ⟨gA, hgA⟩ : ∃ gA : Gp, gA = ⟨fun h => h a = some (.lst [.ref p]), fun k z => k _ _ z⟩ := ⟨_, rfl⟩
    refine ⟨a, rfl, ⟨_, SqL.of (hid_some ha).2⟩, ?_⟩
    refine for_it (walk_list (K := K) (a := a) (xs := [.ref p])) (fun i σ' H' => (i = 0 ∧ σ' = σ ∧ H' = H1) ∨ (1 ≤ i ∧ H' a = some (.lst [.ref p]) ∧ ∃ Γ' M' own', Stt F M' own' H' ∧ Env F.G M' H' own' σ' Γ' ∧ KT F gT Γ' D.nx)) (.inl ⟨rfl, rfl, rfl⟩) (fun i σ' H' _ z => ?_) ?_ ?_
    · rcases z with ⟨_, _, rfl⟩ | ⟨_, z, _⟩
      · exact SqL.of (hid_some ha).2
      · exact SqL.of z
    · rintro i y σ2 H2 H3 hi z hy
      rcases z with ⟨rfl, rfl, rfl⟩ | ⟨z, _⟩
      · obtain ⟨rfl, hy⟩ := hy
        have hy : V.ref p = y := by simpa using hy
        subst hy
        obtain ⟨hpM, hpH⟩ := hid_some hp
        obtain ⟨haM, haH⟩ := hid_some ha
        have hpG : p ∉ F.G := fun z => hpM (k1.sub p z)
        have hap : a ≠ p := fun z => by
          rw [z, hpH] at haH
          have e : ys = [V.ref p] := by injection haH with haH; injection haH
          subst e
          cases ry with
          | cons r _ => cases r
        cases σ2 with
        | nil => exact (show False from e1.env).elim
        | cons o0 σ2 =>
        cases σ2 with
        | nil => obtain ⟨_, _, _, _, _, _, z⟩ := e1.env; exact (show False from z).elim
        | cons o1 σ2 =>
        cases σ2 with
        | nil => obtain ⟨_, _, _, _, _, _, _, z⟩ := e1.env; exact (show False from z).elim
        | cons o2 σ2 =>
          cases σ2 with
          | nil => obtain ⟨_, _, _, _, _, _, _, _, z⟩ := e1.env; exact (show False from z).elim
          | cons o3 σ2 =>
            obtain ⟨v, p1, p2, rfl, hown, ⟨_, hu, rfl, tbl, hP, ht, hco⟩, ⟨w1, rfl, hr1⟩, ⟨w2, rfl, hr2⟩, hrest⟩ := e1.env
            obtain ⟨rfl, hlen⟩ := env_no (n := n + 1) (σ := o3 :: σ2) hrest
            have hown : own = [P] := by simpa using hown
            subst hown
            have hidep := hid_cons (p := p) (M := M) (H := H3)
            have yne : ys ≠ [] := fun z => hx (by have := ry.length; rw [z] at this; exact List.eq_nil_of_length_eq_zero this.symm)
            have yint : ∀ y ∈ ys, ∃ i, y = V.int i := fun y hy => by
              obtain ⟨i, hi⟩ := List.getElem?_of_mem hy
              obtain ⟨b, _, hb⟩ := ry.getL hi
              exact ⟨b, hb⟩
            have hPM : P ∈ M := e1.sub P (List.mem_singleton.mpr rfl)
            have hPp : P ≠ p := fun z => hpM (by rw [← z]; exact hPM)
            show tb _ (some v :: some w1 :: some w2 :: some (V.ref p) :: σ2) H3
            refine body v gA _ (fun Γ' kk M' own' σ' H' st' e' g' => .inr ⟨Nat.le_refl _, ?_, Γ', M', own', st', e', kk⟩) (p :: M) [P, p] (some v :: some w1 :: some w2 :: some (V.ref p) :: σ2) H3 ?_ ?_ ?_
            · refine ⟨⟨fun P hP => List.mem_cons_of_mem _ (k1.sub P hP), fun m hm => ?_, k1.wf⟩, st1.ex, fun m hm => List.mem_cons_of_mem _ (st1.mc m hm), fun o ho => ?_⟩
              · rcases List.mem_cons.mp hm with rfl | hm
                · rw [hpH]; exact Option.some_ne_none _
                · exact k1.al m hm
              · rcases List.mem_cons.mp ho with rfl | ho
                · exact st1.own _ (List.mem_singleton.mpr rfl)
                · rw [List.mem_singleton.mp ho]; exact .inr (hF p hpG)
            · refine ⟨by simp [hPp], fun o ho => ?_, fun o ho => ?_, ?_⟩
              · rcases List.mem_cons.mp ho with rfl | ho
                · exact List.mem_cons_of_mem _ hPM
                · rw [List.mem_singleton.mp ho]; exact List.mem_cons_self
              · rcases List.mem_cons.mp ho with rfl | ho
                · exact e1.out _ (List.mem_singleton.mpr rfl)
                · rw [List.mem_singleton.mp ho]; exact hpG
              · refine ⟨v, [P], [p], rfl, rfl, ⟨rfl, rfl, tbl, hP, ht, fun pos cv z => ?_⟩, ⟨w1, rfl, ?_⟩, ⟨w2, rfl, ?_⟩, .ref p, [p], [], rfl, rfl, ⟨p, ys, trivial, rfl, rfl, hpH, ?_⟩, env_no' (by simpa using hlen)⟩
                · obtain ⟨c, e2, hc⟩ := hco pos cv z
                  refine ⟨c, e2, hid_of (fun z => ?_) (hid_some hc).2⟩
                  rcases List.mem_cons.mp z with z | z
                  · subst z
                    have := (hid_some hc).2
                    rw [hpH] at this
                    cases this
                  · exact (hid_some hc).1 z
                · rw [hidep]; exact sp1 _ p ys hp yne yint _ hr1
                · rw [hidep]; exact sp2 _ p ys hp yne yint _ hr2
                · exact ry.imp fun _ _ h => h
            · rw [hgA]
              exact hid_of (fun z => (List.mem_cons.mp z).elim hap haM) haH
            · rw [hgA] at g'
              exact (hid_some g').2
      · simp at hi
        omega
    · rintro σ2 H2 z
      rcases z with ⟨z, _⟩ | ⟨_, _, Γ', M', own', st', e', kk⟩
      · simp at z
      · exact kk M' own' σ2 H2 st' e' trivial
end
/-- one turn: the test, too, may change what is one's own -/
def TuG (G : List Addr) (Γ Γ1 : Ctx) (g : TG) (tt : TT) (te : TE) (vs : List Nat) {α β : Type} (R : Rp α) (S : Rp β) (x : α) (o : Option β) : Prop :=
  ∃ Γx Γt ws, Tg G g R x (wipeC Γ vs) Γx ws ∧ (∀ i ∈ ws, i ∈ vs) ∧ match o with
    | none => ET G Γx tt Γt false ∧ (∀ i ∈ vs, PlainAt Γt i) ∧ wipeC Γt vs = wipeC Γ1 vs
    | some y => ET G Γx tt Γt true ∧ ∃ Γy, E G Γt te Γy S y ∧ (∀ i ∈ vs, PlainAt Γy i) ∧ wipeC Γy vs = wipeC Γ1 vs
section
variable {G : List Addr} {α β γ Dt : Type} {R : Rp α} {S : Rp β} {xs : List α} {te : TE} {ta : TA} {tt : TT} {g : TG} {wi : TI} {vs : List Nat}
/-- a list comprehension whose tests, too, may change one's own things -/
theorem e_lcG {Γs : Dt → Ctx} {Γ : Ctx} {d0 : Dt} {step : Dt → α → Dt × Option β} (I : Dt → Prop) (hs : ES G Γ wi (Γs d0) R xs) (hl : xs.length ≤ 100000) (h0 : I d0) (hp : ∀ d, ∀ i ∈ vs, PlainAt (Γs d) i)
    (turn : ∀ d x, I d → x ∈ xs → I (step d x).1 ∧ TuG G (Γs d) (Γs (step d x).1) g tt te vs R S x (step d x).2) {Γ' : Ctx} (hΓ : ∀ M H own σ, Env G M H own σ (Γs d0) → ∀ H', Env G M H' own (wipe σ vs) (wipeC (Γs (runS step d0 xs).1) vs) → Env G M H' own σ Γ') :
    E G Γ (tLc wi g tt te vs) Γ' (rList S) (runS step d0 xs).2 := fun M own σ H k e Q q => hs M own σ H k e _ fun J H1 gp x1 k1 e1 w1 g1 D hD => by
  obtain ⟨Gd, Y, wk, hG, hY⟩ := w1.ex
  have hM := k1.fresh hD
  have hDo : D ∉ G ++ own := fun z => (List.mem_append.mp z).elim (fun z => by
    obtain ⟨ps, e', _⟩ := k1.wf D z
    rw [hD] at e'; cases e') fun z => hM (e1.sub D z)
  have ew := (e1.grow (o := .lst []) k1 hD).wipe (vs := vs) (hp d0)
  refine lc_it wk (fun i H => I (runS step d0 (xs.take i)).1 ∧ ∃ acc, H D = some (.lst acc) ∧ All2 (S.rep (hid (D :: M) H)) acc (runS step d0 (xs.take i)).2 ∧ Ok G (D :: M) H ∧ Env G (D :: M) H own (wipe σ vs) (wipeC (Γs (runS step d0 (xs.take i)).1) vs) ∧ gp.p (hid (D :: M) H) ∧ Ex (G ++ own) H1 H)
    ⟨h0, [], upd_same, .nil, k1.grow hD, ew, gp.mono (hid_grow hD) g1, Ex.new hD⟩ (fun i H _ ⟨_, acc, _, _, _, _, gg, _⟩ => hG _ _ hid_sub gg) ?_ ?_
  · rintro i x H2 H3 hi ⟨hI, acc, hacc, hr, k2, e2, g2, x2⟩ hy
    obtain ⟨x3, k3, a, ha, ra⟩ := hY i x (D :: M) H2 H3 hi k2 g2 hy
    have e3 := e2.ext k2 x3
    obtain ⟨hI', Γx, Γt, ws, tg, hw, ho⟩ := turn _ a hI (List.mem_of_getElem? ha)
    refine tg (D :: M) own _ H3 x _ k3 e3 ra fun σ4 s4 e4 => ⟨(s4 vs hw).trans wipe_wipe, ?_⟩
    have hst : runS step d0 (xs.take (i + 1)) = ((step (runS step d0 (xs.take i)).1 a).1, (runS step d0 (xs.take i)).2 ++ (step (runS step d0 (xs.take i)).1 a).2.toList) := by rw [take_succ_of ha, runS_snoc]
    have hw4 : wipe σ4 vs = wipe σ vs := (s4 vs hw).trans wipe_wipe
    have gn : ∀ {N : List Addr} {H' : Hp}, Ex N H2 H' → (∀ b ∈ N, b ∈ D :: M) → gp.p (hid (D :: M) H') := fun xx hh => gp.mono (xx.hid hh) g2
    cases hstep : (step (runS step d0 (xs.take i)).1 a).2 with
    | none =>
      rw [hstep] at ho
      obtain ⟨ht, hpx, hwp⟩ := ho
      refine ht (D :: M) own σ4 H3 k3 e4 _ fun H5 x5 k5 e5 => ?_
      rw [if_neg Bool.false_ne_true]
      have xx : Ex (G ++ own) H2 H5 := (x3.more fun b hb => List.mem_append_left _ hb).trans x5
      rw [hst, hstep]
      refine ⟨hI', acc, xx D _ hDo hacc, ?_, k5, ?_, gn xx (e2.allSub k2), x2.trans xx⟩
      · rw [Option.toList_none, List.append_nil]
        exact hr.imp fun _ _ => S.mono (xx.hid (e2.allSub k2))
      · have := e5.wipe hpx
        rw [hwp, hw4] at this
        exact this
    | some y =>
      rw [hstep] at ho
      obtain ⟨ht, Γy, hel, hpy, hwp⟩ := ho
      refine ht (D :: M) own σ4 H3 k3 e4 _ fun H5 x5 k5 e5 => ?_
      rw [if_pos rfl]
      refine hel (D :: M) own σ4 H5 k5 e5 _ fun v H6 x6 k6 e6 r6 => ?_
      have xx : Ex (G ++ own) H2 H6 := ((x3.more fun b hb => List.mem_append_left _ hb).trans x5).trans x6
      have hacc6 := xx D _ hDo hacc
      have hlen : acc.length < sizeLine := by
        have h1 := hr.length
        have h2 := @runS_len _ _ _ step d0 (xs.take i)
        have h3 : (xs.take i).length ≤ xs.length := by rw [List.length_take]; omega
        have h4 : (100000 : Nat) < sizeLine := by decide
        omega
      refine ⟨acc, hacc6, hlen, ?_⟩
      have hD6 : hid (D :: M) (upd H6 D (.lst (acc ++ [v]))) = hid (D :: M) H6 := by
        funext b
        unfold hid
        by_cases hb : b ∈ D :: M
        · rw [if_pos hb, if_pos hb]
        · rw [if_neg hb, if_neg hb, upd_ne (fun z => hb (by rw [z]; exact List.mem_cons_self))]
      have hH : ∀ b, b ≠ D → upd H6 D (.lst (acc ++ [v])) b = H6 b := fun b hb => upd_ne hb
      rw [hst, hstep]
      refine ⟨hI', acc ++ [v], upd_same, ?_, ⟨k6.sub, fun m hm z => ?_, fun P hP => ?_⟩, ?_, ?_, ?_⟩
      · rw [hD6]
        exact (hr.imp fun _ _ => S.mono (xx.hid (e2.allSub k2))).append (.cons r6 .nil)
      · by_cases hb : m = D
        · rw [hb, upd_same] at z; cases z
        · rw [hH m hb] at z; exact k6.al m hm z
      · obtain ⟨ps, e', t⟩ := k6.wf P hP
        exact ⟨ps, by rw [hH P (fun z => hDo (by rw [← z]; exact List.mem_append_left _ hP))]; exact e', t⟩
      · have ee := e6.wipe hpy
        rw [hwp, hw4] at ee
        exact ⟨ee.nd, ee.sub, ee.out, by rw [hD6]; exact ee.env.mono (Sub.refl _) fun p hp => hH p fun z => hDo (by rw [← z]; exact List.mem_append_right _ hp)⟩
      · rw [hD6]; exact gn xx (e2.allSub k2)
      · exact fun b o hb e' => by
          rw [hH b (ne_of_none e' hD)]
          exact (x2.trans xx) b o hb e'
  · rintro H2 ⟨hI, acc, hacc, hr, k2, e2, g2, x2⟩
    rw [List.take_length] at hr e2
    have sub : Sub (hid (D :: M) H2) (hid M H2) := hid_less fun b hb => List.mem_cons_of_mem _ hb
    have e2' : Env G M H2 own (wipe σ vs) (wipeC (Γs (runS step d0 xs).1) vs) := ⟨e2.nd, fun p hp => (List.mem_cons.mp (e2.sub p hp)).elim (fun z => (hDo (by rw [← z]; exact List.mem_append_right _ hp)).elim) id, e2.out, e2.env.mono sub fun _ _ => rfl⟩
    refine q _ H2 (x1.trans x2) ⟨k1.sub, fun m hm => k2.al m (List.mem_cons_of_mem _ hm), k2.wf⟩ (hΓ M H1 own σ e1 H2 e2') ⟨D, acc, rfl, hid_of hM hacc, hr.imp fun _ _ => S.mono sub⟩
/-- over names that hold nothing before -/
theorem e_lcGN {Γs : Dt → Ctx} {Γ0 : Ctx} {d0 : Dt} {step : Dt → α → Dt × Option β} (I : Dt → Prop) (hs : ES G Γ0 wi (Γs d0) R xs) (hl : xs.length ≤ 100000) (h0 : I d0) (hn : ∀ d, ∀ i ∈ vs, NoAt (Γs d) i)
    (turn : ∀ d x, I d → x ∈ xs → I (step d x).1 ∧ TuG G (Γs d) (Γs (step d x).1) g tt te vs R S x (step d x).2) : E G Γ0 (tLc wi g tt te vs) (Γs (runS step d0 xs).1) (rList S) (runS step d0 xs).2 :=
  e_lcG I hs hl h0 (fun d i hi => (hn d i hi).plain) turn fun M H own σ e H' e' => by
    rw [wipeC_no (hn _)] at e'
    exact e'.unwipe (hn _)
end
section
variable {G M own : List Addr} {H H' : Hp} {σ : L2.St} {Γ Γ' Γ0 Γ1 Γ2 : Ctx} {α β γ : Type} {R : Rp α} {S : Rp β} {ta tb : TE} {K : PySem.W.Frag}
theorem e_neT2 {x : α} {y : β} (hD : ∀ h H u v, R.rep h u x → S.rep h v y → Sub h H → DEq K H u v) (ha : E G Γ ta Γ1 R x) (hb : E G Γ1 tb Γ2 S y) : E G Γ (tOp (rNeT K) ta tb) Γ2 rBool false :=
  e_op ha hb fun M H v u C k rv ru q => ⟨hD _ _ _ _ rv ru hid_sub, q _ H Ex.refl k rfl⟩
/-- this, or a text: is it the text -/
theorem e_eqSum {x : Sum (Option (List β)) Str} {j : Str} [DecidableEq β] (D : Dat S) (ha : E G Γ ta Γ1 (rSum (rOpt (rTup S)) rStr) x) (hb : E G Γ1 tb Γ2 rStr j) (ok : (∀ l, x = .inl (some l) → ∀ y ∈ l, D.ok y) ∧ (∀ t, x = .inr t → PyData.canLay0 (.str t) = true) ∧ PyData.canLay0 (.str j) = true ∧ D.n ≤ 60) :
    E G Γ (tOp (rEqD K) ta tb) Γ2 rBool (isTxt j x) := e_op ha hb fun M H v u C k rv ru q => by
  obtain ⟨o1, o2, o3, o4⟩ := ok
  have ru : u = V.str j := ru
  subst ru
  have sj : SeqAt.shaped (.str j) = true := datStr.shaped o3 (by decide)
  match x, rv with
  | .inr t, rv =>
    have rv : v = V.str t := rv
    subst rv
    exact ⟨.str t, .str j, .str t, .str j, datStr.shaped (o2 t rfl) (by decide), sj, q _ H Ex.refl k (by show V.bl _ = V.bl (decide (t = j)); exact congrArg V.bl (datStr.eq t j))⟩
  | .inl none, rv =>
    have rv : v = V.non := rv
    subst rv
    exact ⟨.none, .str j, .non, .str j, rfl, sj, q _ H Ex.refl k rfl⟩
  | .inl (some l), rv =>
    have rv : (rTup S).rep _ v l := rv
    exact ⟨(datTup D).d l, .str j, (datTup D).dp K _ _ _ _ rv hid_sub, .str j, (datTup D).shaped (o1 l rfl) (by show D.n + 1 ≤ 64; omega), sj, q _ H Ex.refl k rfl⟩
end
end TP

set_option Elab.async false
set_option linter.all false
set_option maxRecDepth 100000
set_option maxHeartbeats 4000000
/-! < and sorted of plain data: ints, texts, tuples and lists of such, nested -/
namespace DkL
open PySem PySem.Spec PyProof.Rows L2
def rLtD (K : PySem.W.Frag) : R2 := fun x y H Q => ∃ d e, Dp K H x d ∧ Dp K H y e ∧ PySem.W.alike d e = true ∧ d ≠ .none ∧ d.depth ≤ 60 ∧ Q (.bl (PySem.W.dataLt d e)) H
/-- sorted(xs): Rl tells what the items are, enc their data -/
def rSortD (K : PySem.W.Frag) : List V → Hp → VK → Prop := fun vs H Q => ∃ (a : Addr) (β : Type) (enc : β → PyData) (Rl : V → β → Prop) (xs : List V) (bs : List β), vs = [.ref a] ∧ SqL K H a xs ∧ Paired Rl xs bs ∧ (∀ v b, b ∈ bs → Rl v b → Dp K H v (enc b)) ∧ PySem.W.AllAlike (bs.map enc) ∧ PySem.W.Sortable (bs.map enc) ∧ (∀ b ∈ bs, (enc b).depth ≤ 60) ∧
  ∀ (ys : List V) (p : Addr), H p = none → Paired Rl ys (bs.mergeSort (PySem.W.dataLe false enc)) → Q (.ref p) (upd H p (.lst ys))
theorem each_of {β : Type} {F : Value → β → Prop} {Rl : V → β → Prop} : ∀ {xs : List V} {us : List Value} {bs : List β}, Vals xs us → Paired Rl xs bs → (∀ x u b, b ∈ bs → RelV x u → Rl x b → F u b) → PySem.W.EachIs F us bs
  | _, _, [], r, h, _ => by
    cases h
    cases r
    exact .nil
  | _, _, b :: bs, r, h, f => by
    cases h with
    | cons h1 h2 =>
      cases r with
      | cons r1 r2 => exact .cons (f _ _ _ List.mem_cons_self r1 h1) (each_of r2 h2 fun x u b hb => f x u b (List.mem_cons_of_mem _ hb))
theorem of_each {β : Type} {Rl : V → β → Prop} : ∀ {us : List Value} {bs : List β}, PySem.W.EachIs (fun u b => ∃ x, RelV x u ∧ Rl x b) us bs → ∃ ys, Vals ys us ∧ Paired Rl ys bs
  | _, _, .nil => ⟨[], .nil, .nil⟩
  | _, _, .cons ⟨x, h1, h2⟩ t => by
    obtain ⟨ys, r1, r2⟩ := of_each t
    exact ⟨x :: ys, .cons h1 r1, .cons h2 r2⟩
section
variable {X : Cx} {K : PySem.W.Frag}
theorem op_ltDK (hK : X.K = K) (hu : X.A.units + 64 < cLine) : OpR X (compareOp .Lt) (rLtD K) := by
  subst hK
  intro pins s σ H x y v u Q I rx ry ⟨d, e, h1, h2, al, nn, dep, q⟩
  obtain ⟨as, r1⟩ := Dp.reads I d x v h1 rx
  obtain ⟨bs, r2⟩ := Dp.reads I e y u h2 ry
  have := Nat.min_le_left d.depth e.depth
  exact PySem.W.lt_data r1 r2 al nn (by omega) ⟨.bl _, H, I, rfl, q⟩
theorem cr_sortD (hK : X.K = K) (hu : X.A.units + 64 < cLine) : CallR X (.builtin "sorted") (rSortD K) := by
  subst hK
  intro pins s σ H vs us Q I rel ⟨a, β, enc, Rl, xs, bs, ev, hl, pr, hd, al, so, dep, q⟩
  subst ev
  cases rel with
  | cons r0 rel =>
  cases rel
  cases (show _ = Value.ref a from r0)
  obtain ⟨its, rv, pl, hz⟩ := I.list hl
  have hlen : bs.length ≤ sizeLine := by rw [← Paired.length pr]; exact hz
  refine PySem.W.sorted_data (R := fun u b => ∃ x, RelV x u ∧ Rl x b) (enc := enc) (bs := bs) pl.isList (each_of rv pr fun x u b _ h1 h2 => ⟨x, h1, h2⟩) (each_of rv pr fun x u b hb h1 h2 => Dp.reads I _ x u (hd x b hb h2) h1) al so hlen (fun b hb => by have := dep b hb; omega) fun out ho eo => ?_
  obtain ⟨ys, r1, r2⟩ := of_each eo
  obtain ⟨c, hc⟩ := PyProof.Rows.sortedAll_at s.heap its out.toArray
  have new := Nat.le_succ s.heap.objs.size
  refine ⟨.ref (s.heap.objs.size + 1), _, I.laid (t' := s.toks) (o := .lst ys) (fun b u e => PyProof.Rows.sortedAll_old e) new ⟨?_, out, c, r1, hc⟩, rfl, q ys _ (I.hok.fresh new) r2⟩
  rw [r1.length, ho]
  exact hlen
end
end DkL
namespace TP
open PySem PySem.Spec PyProof.Rows L2 DkL
open PySem.W (alikeAll dataLt dataLe)
section
variable {G M own : List Addr} {H H' : Hp} {σ : L2.St} {Γ Γ' Γ1 Γ2 : Ctx} {α β : Type} {R : Rp α} {S : Rp β} {ta tb : TE} {t : TA} {K : PySem.W.Frag} {x y : α} {xs : List α}
/-- any two of them can be compared place by place -/
structure AlD [DecidableEq α] (D : Dat R) : Prop where
  al : ∀ a b, PySem.W.alike (D.d a) (D.d b) = true
  nn : ∀ a, D.d a ≠ .none
theorem al_int : AlD datInt := ⟨fun _ _ => rfl, fun _ z => nomatch z⟩
theorem al_str : AlD datStr := ⟨fun _ _ => rfl, fun _ z => nomatch z⟩
theorem alAll [DecidableEq α] {D : Dat R} (h : AlD D) : ∀ xs ys : List α, alikeAll (xs.map D.d) (ys.map D.d) = true
  | [], _ => by simp [alikeAll]
  | _ :: _, [] => by simp [alikeAll]
  | x :: xs, y :: ys => by
    show (PySem.W.alike (D.d x) (D.d y) && alikeAll (xs.map D.d) (ys.map D.d)) = true
    rw [h.al, alAll h xs ys]; rfl
theorem al_tup [DecidableEq α] {D : Dat R} (h : AlD D) : AlD (datTup D) := ⟨fun a b => alAll h a b, fun _ z => nomatch z⟩
theorem al_list [DecidableEq α] {D : Dat R} (h : AlD D) : AlD (datList D) := ⟨fun a b => alAll h a b, fun _ z => nomatch z⟩
theorem al_T2 [DecidableEq α] [DecidableEq β] {D : Dat R} {D' : Dat S} (h : AlD D) (h' : AlD D') : AlD (datT2 D D') := ⟨fun a b => by
  show (PySem.W.alike (D.d a.1) (D.d b.1) && (PySem.W.alike (D'.d a.2) (D'.d b.2) && true)) = true
  rw [h.al, h'.al]; rfl, fun _ z => nomatch z⟩
theorem e_ltD [DecidableEq α] (D : Dat R) (al : AlD D) (ha : E G Γ ta Γ1 R x) (hb : E G Γ1 tb Γ2 R y) (ok : D.ok x) (hn : D.n ≤ 60 := by decide) : E G Γ (tOp (rLtD K) ta tb) Γ2 rBool (dataLt (D.d x) (D.d y)) := e_op ha hb fun M H v u Q k rv ru q =>
  ⟨D.d x, D.d y, D.dp K _ _ _ _ rv hid_sub, D.dp K _ _ _ _ ru hid_sub, al.al x y, al.nn x, Nat.le_trans (D.lay x ok).2 hn, q _ H Ex.refl k rfl⟩
theorem paired_all2 {F : V → α → Prop} : ∀ {vs : List V} {xs : List α}, Paired F vs xs → All2 F vs xs
  | _, _, .nil => .nil
  | _, _, .cons a r => .cons a (paired_all2 r)
theorem all2_paired {F : V → α → Prop} : ∀ {vs : List V} {xs : List α}, All2 F vs xs → Paired F vs xs
  | _, _, .nil => .nil
  | _, _, .cons a r => .cons a (all2_paired r)
/-- sorted(..) -/
theorem e_sortD [DecidableEq α] (D : Dat R) (al : AlD D) (so : PySem.W.Sortable (xs.map D.d)) (h : EA G Γ t Γ1 [⟨rList R, xs⟩]) (ok : ∀ x ∈ xs, D.ok x) (hn : D.n ≤ 60 := by decide) : E G Γ (tCB (rSortD K) t) Γ1 (rList R) (xs.mergeSort (dataLe false D.d)) := fun M own σ H k e Q q => h M own σ H k e _ fun vs H1 x1 k1 e1 r1 => by
  cases r1 with
  | cons r0 r1 =>
  cases r1
  obtain ⟨a, us, e0, hp, r⟩ := r0
  have e0 : _ = V.ref a := e0
  subst e0
  refine ⟨a, α, D.d, fun v b => R.rep (hid M H1) v b, us, xs, rfl, SqL.of (hid_some hp).2, all2_paired r, fun v b _ rv => D.dp K _ _ _ _ rv hid_sub, PySem.W.AllAlike.of al.al, so, fun b hb => Nat.le_trans (D.lay b (ok b hb)).2 hn, fun ys p hn' pr => ?_⟩
  have hM : p ∉ M := k1.fresh hn'
  have k2 := k1.grow (o := .lst ys) hn'
  exact q (.ref p) _ (x1.trans (Ex.new hn')) ⟨k1.sub, fun m hm => k2.al m (List.mem_cons_of_mem _ hm), k2.wf⟩ (e1.ext k1 (Ex.new hn')) ⟨p, ys, rfl, hid_of hM upd_same, (paired_all2 pr).imp fun _ _ => R.mono ((Ex.new (N := G ++ own) hn').hid (e1.allSub k1))⟩
end
end TP

set_option Elab.async false
set_option linter.all false
set_option maxRecDepth 100000
set_option maxHeartbeats 4000000
/-! min(d.values()) of a dict that may stand still; pop; a name among names -/
namespace DkL
open PySem PySem.Spec PyProof.Rows L2
/-- min(d.values()): ints, one at least -/
def tMinV (te : TE) : TE := fun σ H Q => te σ H fun x H1 => ∃ (d : Addr) (kvs : List (Key × V)) (ns : List Int), x = .ref d ∧ Rd H1 d (.dK kvs) ∧ kvs.map (·.2) = ns.map V.int ∧ ns ≠ [] ∧ ∀ m, m ∈ ns → (∀ j ∈ ns, m ≤ j) → Q (.int m) H1
section
variable {X : Cx} {e : Expr} {te : TE} {p apos cpos pos : Pos}
theorem pe_minV (calm : X.calm = true) (he : PE X e te) (hg : Gl X "min") (hm : X.mg "min" = none) (base : attributeBase e "values" X.env (eval e X.env) = eval e X.env := by rfl) (line : (apos.endLine == cpos.line) = true := by rfl)
    (star : starEach [.Call (.Attribute e "values" apos) [] [] cpos] X.env = [(false, eval (.Call (.Attribute e "values" apos) [] [] cpos) X.env)] := by rfl) :
    PE X (.Call (.Name "min" p) [.Call (.Attribute e "values" apos) [] [] cpos] [] pos) (tMinV te) := by
  refine ⟨fun pins s σ H Q I hq => ?_⟩
  refine wpAny_Call_Name_kw (ld_blt I hg hm (u := .builtin "min") (by first | rfl | decide +kernel) ?_ (by first | decide +kernel | decide) (by first | decide +kernel | decide))
  rw [star]
  refine PySem.callWith_builtin1 (wpAny_Call_method0_late base line (thn (he.run pins s σ H _ I hq) fun u s1 ⟨x, H1, I1, rx, d, kvs, ns, ex, rd, hv, hne, q⟩ => ?_))
  subst ex
  obtain rfl : u = Value.ref d := rx
  obtain ⟨size, low, vs, kv, dof⟩ := dk_rd I1.hok rd
  obtain ⟨ep, dat⟩ := dof.dictAt
  obtain ⟨ob, es, ho, ed, hdat, hko, hpr, hnd⟩ := id dat
  refine ⟨"dict", "dict.values", F.plainAttrs_dict, F.slot_dict_values, F.type_dict_values, ⟨ob, ho, ed.1⟩, fun b z => ?_, Calls.callWith_builtin rfl (PySem.evalArgs_none ?_)⟩
  · cases z
    exact ⟨ob, ho, ed.2.1⟩
  refine call_meetsIn F.slot_dict_values ⟨ob, ho, ed.1⟩ F.entry_dict_values (F.args_dict_values_1 _) (meets_dict_values (mixKind X.prog X.w) d low) ⟨⟨vs, dof⟩, ?_⟩
  obtain ⟨hp, hhp⟩ : ∃ hp, hp = s1.heap.push { cls := .type "dict_values", data := .fields #[.ref d] } := ⟨_, rfl⟩
  have keep : ∀ b u, s1.heap.get? b = some u → hp.get? b = some u := fun b u z => by rw [hhp]; exact Heap.get?_push_of_some _ z
  have dat1 : hp.DictAt (mixKind X.prog X.w) d vs ep := dat.keep keep
  have lens : vs.length = ns.length := by
    have e1 := congrArg List.length hv
    simp only [List.length_map] at e1
    rw [← e1]
    exact (KV.length kv).symm
  have some1 : 0 < vs.length := by
    rw [lens]
    exact List.length_pos_iff.mpr hne
  have isInt : ∀ (i : Nat) (v : Value), (∃ k, vs[i]? = some (k, v)) → ∃ t, v = Value.int (ns.getD i 0) t := fun i v ⟨k, hk⟩ => by
    obtain ⟨x, h1, h2⟩ := KV.at' kv hk
    have e1 := congrArg (fun l => l[i]?) hv
    simp only [List.getElem?_map, h1, Option.map_some] at e1
    cases hn : ns[i]? with
    | none => rw [hn] at e1; cases e1
    | some j =>
      rw [hn] at e1
      have e2 : x = V.int j := Option.some.inj e1
      subst e2
      obtain ⟨t, e3⟩ := h2
      exact ⟨t, by rw [e3, List.getD_eq_getElem?_getD, hn]; rfl⟩
  have hs1 : hp.objs.size = s1.heap.objs.size + 1 := by rw [hhp]; exact Heap.size_push _ _
  have hd1 : d < s1.heap.objs.size := Heap.lt_size ho
  rw [← hhp]
  refine call_min_walk (wpAny_pyIter_values (v := s1.heap.objs.size) (d := d) ⟨_, by rw [hhp]; exact Heap.get?_push_size _ rfl, rfl, rfl⟩ dat1 ?_)
  refine ⟨_, _, _, _, _, _, _, rfl, Walks.dictValues (knd := mixKind X.prog X.w) (A := X.A.in1) (I.ok.hd calm) hp.objs.size d (Nat.ne_of_lt (by rw [hs1]; exact Nat.lt_succ_of_lt hd1)) vs ep, ⟨⟨_, Heap.get?_push_size _ rfl, rfl, rfl⟩, dat1.keep fun b u z => Heap.get?_push_of_some _ z⟩, fun b hb => ?_, some1, CmpOf.ints_lt (fun i => ns.getD i 0) isInt, fun v h' tk hP hk => ?_⟩
  · show b < (hp.push _).objs.size
    rw [Heap.size_push]
    rcases List.mem_cons.mp hb with z | hb
    · rw [z]; exact Nat.lt_succ_self _
    · have z : b = d := List.mem_singleton.mp hb
      rw [z, hs1]
      exact Nat.lt_succ_of_lt (Nat.lt_succ_of_lt hd1)
  · obtain ⟨t, rfl⟩ := isInt _ v hP
    obtain ⟨b1, b2⟩ := argBest_lt (fun i => ns.getD i 0) (vs.length - 1)
    refine ⟨.int _, H1, I1.kept (t' := tk) fun b u z => hk b u (fun hmem => ?_) (Heap.get?_push_of_some _ (keep b u z)), ⟨t, rfl⟩, q _ ?_ fun j hj => ?_⟩
    · have e1 : b = hp.objs.size := List.mem_singleton.mp hmem
      have e2 := Heap.lt_size z
      rw [e1, hs1] at e2
      exact absurd e2 (Nat.not_lt.mpr (Nat.le_succ _))
    · have hb : argBest (fun i j => decide (ns.getD i 0 < ns.getD j 0)) (vs.length - 1) < ns.length := by omega
      rw [List.getD_eq_getElem?_getD, List.getElem?_eq_getElem hb]
      exact List.getElem_mem hb
    · obtain ⟨i, hi, z⟩ := List.mem_iff_getElem.mp hj
      have e2 : ns.getD i 0 = j := by rw [List.getD_eq_getElem?_getD, List.getElem?_eq_getElem hi, ← z]; rfl
      rw [← e2]
      exact b2 i (by omega)
end
end DkL

set_option Elab.async false
set_option linter.all false
set_option maxRecDepth 100000
set_option maxHeartbeats 4000000
/-! typed: the least of a dict's values; pop -/
namespace TP
open PySem PySem.Spec PyProof.Rows L2 DkL
section
variable {G M own : List Addr} {H H' : Hp} {σ : L2.St} {Γ Γ' Γ1 Γ2 : Ctx} {α β : Type} {R : Rp α} {te : TE} {xs : List (Str × Int)}
theorem ints_of_rep {h : Hp} : ∀ {vs : List V} {ns : List Int}, All2 (rInt.rep h) vs ns → vs = ns.map V.int
  | _, _, .nil => rfl
  | _, _, .cons a r => by
    have a : _ = V.int _ := a
    rw [a, ints_of_rep r]; rfl
/-- min(d.values()) -/
theorem e_minV (h : E G Γ te Γ1 (rDct rInt) xs) (hne : xs ≠ []) : E G Γ (tMinV te) Γ1 rInt (minL (xs.map (·.2))) := fun M own σ H k e Q q => h M own σ H k e _ fun v H1 x1 k1 e1 r1 => by
  obtain ⟨d, kvs, rfl, rd, r⟩ := rd_dct hid_sub r1
  refine ⟨d, kvs, xs.map (·.2), rfl, rd, ints_of_rep (drel_vals r), fun z => hne (List.map_eq_nil_iff.mp z), fun m h1 h2 => ?_⟩
  exact q (.int m) H1 x1 k1 e1 (by show V.int _ = V.int _; rw [minL_of h1 h2])
end
end TP
namespace TP
open PySem PySem.Spec PyProof.Rows L2 DkL
section
variable {X : Cx} {K : PySem.W.Frag} {G M own : List Addr} {H H' : Hp} {σ : L2.St} {Γ Γ' Γ1 Γ2 : Ctx} {α β : Type} {R : Rp α} {te : TE} {xs : List α} {a : α} {o : Expr} {to : TE} {apos cpos : Pos}
theorem pe_popK (hK : X.K = K) (ho : PE X o to) (hbase : attributeBase o "pop" X.env (eval o X.env) = eval o X.env := by rfl) (hline : (apos.endLine == cpos.line) = true := by rfl) : PE X (.Call (.Attribute o "pop" apos) [] [] cpos) (tBM0 K "list" rPop to) := by
  subst hK; exact pe_bm0 PySem.F.plainAttrs_list PySem.F.slot_list_pop PySem.F.type_list_pop mt_pop ho hbase hline
theorem all2_last {F : V → α → Prop} : ∀ {vs : List V} {xs : List α} {a : α}, All2 F vs xs → xs.getLast? = some a → (∃ y, vs[vs.length - 1]? = some y ∧ F y a) ∧ All2 F vs.dropLast xs.dropLast
  | _, _, _, .nil, h => by cases h
  | _, _, _, .cons b .nil, h => by
    cases h
    exact ⟨⟨_, rfl, b⟩, .nil⟩
  | _, _, _, .cons b (.cons c r), h => by
    have h2 := h
    rw [List.getLast?_cons_cons] at h2
    obtain ⟨⟨y, h3, h4⟩, h5⟩ := all2_last (.cons c r) h2
    refine ⟨⟨y, ?_, h4⟩, .cons b h5⟩
    simpa using h3
/-- own.pop() -/
theorem e_pop {i : Nat} {c : Addr → Prop} (hx : Γ[i]? = some (.own (oLstP c R xs))) (ha : xs.getLast? = some a) : E G Γ (tBM0 K "list" rPop (tVar i)) (Γ.set i (.own (oLstP c R xs.dropLast))) R a := fun M own σ H k e Q q => by
  obtain ⟨v, p1, pi, p2, f⟩ := e.env.focus hx
  obtain ⟨p, vs, hc, rfl, rfl, hp, r⟩ := f.own
  obtain ⟨⟨y, hy, ry⟩, r2⟩ := all2_last r ha
  refine ⟨.ref p, f.at_, .inl ⟨rfl, vs, SqL.of hp⟩, p, vs, y, rfl, rfl, hp, hy, ?_⟩
  obtain ⟨x2, k2, e2⟩ := e.write (O' := oLstP c R xs.dropLast) k f (List.mem_singleton.mpr rfl) (o := .lst vs.dropLast) ⟨p, vs.dropLast, hc, rfl, rfl, upd_same, r2⟩
  exact q y _ x2 k2 e2 (by rw [hid_upd (e.sub p (f.inn.1 p (List.mem_singleton.mpr rfl)))]; exact ry)
end
end TP

set_option Elab.async false
set_option linter.all false
set_option maxRecDepth 100000
set_option maxHeartbeats 4000000
/-! the order of data; sorted(d); a text sign by sign; texts and counts augmented -/
namespace TP
open PySem PySem.Spec PyProof.Rows L2 DkL
open PySem.W (dataLt dataLe keyToks toks_eqv lex_pre dataLe_eq dataLt_self dataLt_str)
theorem dle_trans {a b c : PyData} (h1 : dataLt b a = false) (h2 : dataLt c b = false) : dataLt c a = false := by
  rw [Bool.eq_false_iff]
  intro h
  rcases PyProof.Rows.lex_negTrans (O := PyProof.Rows.itemOrd) _ (keyToks b) _ h with z | z
  · exact absurd (h2.symm.trans z) Bool.false_ne_true
  · exact absurd (h1.symm.trans z) Bool.false_ne_true
theorem dlt_asym {a b : PyData} (h : dataLt a b = true) : dataLt b a = false := by
  rw [Bool.eq_false_iff]
  intro z
  have := PyProof.Rows.lex_trans (O := PyProof.Rows.itemOrd) _ _ _ h z
  rw [PyProof.Rows.lex_irrefl] at this
  cases this
theorem dle_total (a b : PyData) : dataLt b a = false ∨ dataLt a b = false := by
  cases h : dataLt b a
  · exact .inl rfl
  · exact .inr (dlt_asym h)
theorem sort_pair {β : Type} (k : β → PyData) (xs : List β) : (xs.mergeSort (dataLe false k)).Pairwise fun a b => dataLt (k b) (k a) = false := by
  have e : ∀ a b, dataLe false k a b = !dataLt (k b) (k a) := fun a b => congrFun (congrFun (dataLe_eq false k) a) b
  refine (List.pairwise_mergeSort (le := dataLe false k) (fun a b c h1 h2 => by
    rw [e, Bool.not_eq_true'] at h1 h2 ⊢
    exact dle_trans h1 h2) (fun a b => by
    rw [e, e]
    rcases dle_total (k a) (k b) with z | z <;> rw [z] <;> simp) xs).imp fun {a b} h => ?_
  rw [e, Bool.not_eq_true'] at h
  exact h
/-- the first of what is sorted is least -/
theorem sort_head {β : Type} {k : β → PyData} {xs : List β} {m : β} (h : (xs.mergeSort (dataLe false k)).head? = some m) : m ∈ xs ∧ ∀ x ∈ xs, dataLt (k x) (k m) = false := by
  have st := sort_pair k xs
  cases eq : xs.mergeSort (dataLe false k) with
  | nil => rw [eq] at h; cases h
  | cons y r =>
    rw [eq] at h st
    have hy : y = m := Option.some.inj h
    subst hy
    have hp := List.mergeSort_perm xs (dataLe false k)
    rw [eq] at hp
    refine ⟨hp.mem_iff.mp List.mem_cons_self, fun x hx => ?_⟩
    rcases List.mem_cons.mp (hp.mem_iff.mpr hx) with rfl | hx
    · exact dataLt_self _
    · exact List.rel_of_pairwise_cons st hx
theorem data_anti {α : Type} {R : Rp α} [DecidableEq α] {D : Dat R} (al : AlD D) {a b : α} (h1 : dataLt (D.d a) (D.d b) = false) (h2 : dataLt (D.d b) (D.d a) = false) : a = b := by
  refine Classical.byContradiction fun ne => ?_
  have e : PyData.eqv (D.d a) (D.d b) = false := by rw [D.eq]; exact decide_eq_false ne
  have t : keyToks (D.d a) = keyToks (D.d b) := PyProof.Rows.lex_total (O := PyProof.Rows.itemOrd) _ _ h1 h2
  have z := (toks_eqv (D.d a) (D.d b) (al.al a b)).2 e [] [.inl 0]
  rw [t, lex_pre] at z
  have y : PyProof.Rows.lexLt PyProof.Rows.itemOrd [] [.inl 0] = true := rfl
  rw [y, PyProof.Rows.lex_irrefl] at z
  cases z
/-- what sorted gives -/
def sortS (ks : List Str) : List Str := ks.mergeSort (dataLe false datStr.d)
theorem sortS_perm (ks : List Str) : (sortS ks).Perm ks := List.mergeSort_perm ks _
theorem sort_uniq {α : Type} {R : Rp α} [DecidableEq α] {D : Dat R} (al : AlD D) {xs ys : List α} (hp : ys.Perm xs) (hs : ys.Pairwise fun a b => dataLt (D.d b) (D.d a) = false) : ys = xs.mergeSort (dataLe false D.d) :=
  List.Perm.eq_of_pairwise (le := fun a b => dataLt (D.d b) (D.d a) = false) (fun a b _ _ h1 h2 => data_anti al h2 h1) hs (sort_pair D.d xs) (hp.trans (List.mergeSort_perm xs _).symm)
theorem str_lt (x y : Str) : dataLt (datStr.d x) (datStr.d y) = ltCps x.cps.toList y.cps.toList := by
  rw [ltCps_eq]
  exact dataLt_str x y
theorem rising_pair : ∀ (p : Str) (l : List Str), risingS p l = true → (p :: l).Pairwise fun a b => dataLt (datStr.d b) (datStr.d a) = false
  | p, [], _ => List.pairwise_singleton _ _
  | p, x :: r, h => by
    have h : (!ltCps x.cps.toList p.cps.toList && risingS x r) = true := h
    rw [Bool.and_eq_true, Bool.not_eq_true', ← str_lt] at h
    have ih := rising_pair x r h.2
    refine List.pairwise_cons.mpr ⟨fun y hy => ?_, ih⟩
    rcases List.mem_cons.mp hy with rfl | hy
    · exact h.1
    · exact dle_trans h.1 (List.rel_of_pairwise_cons ih hy)
theorem sortS_of {ks ys : List Str} (hp : ys.Perm ks) (hs : sortedS ys = true) : ys = sortS ks := by
  refine sort_uniq (D := datStr) al_str hp ?_
  cases ys with
  | nil => exact List.Pairwise.nil
  | cons x r => exact rising_pair x r hs
theorem sortS_mem {ks : List Str} {x : Str} : x ∈ sortS ks ↔ x ∈ ks := (sortS_perm ks).mem_iff
theorem sortS_len {ks : List Str} : (sortS ks).length = ks.length := (sortS_perm ks).length_eq
theorem sortS_nodup {ks : List Str} (h : ks.Nodup) : (sortS ks).Nodup := (sortS_perm ks).nodup_iff.mpr h
theorem sortS_congr {ks js : List Str} (h : ks.Perm js) : sortS ks = sortS js :=
  sort_uniq (D := datStr) al_str ((sortS_perm ks).trans h) (sort_pair datStr.d ks)
section
variable {G M own : List Addr} {H H' : Hp} {σ : L2.St} {Γ Γ' Γ1 Γ2 : Ctx} {α β : Type} {R : Rp α} {S : Rp β} {ta tb te : TE} {t : TA} {K : PySem.W.Frag} {xs : List (Str × α)}
theorem drel_keys {h : Hp} : ∀ {kvs : List (Key × V)} {xs : List (Str × α)}, DRel R h kvs xs → kvs.map (·.1) = (xs.map (·.1)).map Sum.inr
  | _, _, .nil => rfl
  | _, _, .cons a r => by
    rw [List.map_cons, List.map_cons, List.map_cons, drel_keys r, a.1]; rfl
theorem strs_rep {h : Hp} : ∀ l : List Str, All2 (rStr.rep h) (l.map V.str) l
  | [] => .nil
  | _ :: r => .cons rfl (strs_rep r)
/-- sorted(d) of a dict with texts as keys -/
theorem e_sortK (h : EA G Γ t Γ1 [⟨rDct R, xs⟩]) (hl : xs.length < 64) : E G Γ (tCB (fun xs H Q => ∃ (a : Addr) (kvs : List (Key × V)) (ks : List Str), xs = [.ref a] ∧ Rd H a (.dK kvs) ∧ kvs.map (·.1) = ks.map Sum.inr ∧ ks.length < 64 ∧ ∀ ys p, ys.Perm ks → sortedS ys = true → H p = none → Q (.ref p) (upd H p (.lst (ys.map V.str)))) t) Γ1 (rList rStr) (sortS (xs.map (·.1))) := fun M own σ H k e Q q => h M own σ H k e _ fun vs H1 x1 k1 e1 r1 => by
  cases r1 with
  | cons r0 r1 =>
  cases r1
  obtain ⟨p, kvs, e0, rd, r⟩ := rd_dct hid_sub r0
  subst e0
  refine ⟨p, kvs, xs.map (·.1), rfl, rd, drel_keys r, by rw [List.length_map]; exact hl, fun ys p' hp hs hn => ?_⟩
  have hM : p' ∉ M := k1.fresh hn
  have k2 := k1.grow (o := .lst (ys.map V.str)) hn
  have eq := sortS_of hp hs
  refine q (.ref p') _ (x1.trans (Ex.new hn)) ⟨k1.sub, fun m hm => k2.al m (List.mem_cons_of_mem _ hm), k2.wf⟩ (e1.ext k1 (Ex.new hn)) ⟨p', ys.map V.str, rfl, hid_of hM upd_same, ?_⟩
  rw [← eq]
  exact strs_rep ys
/-! ### a text, sign by sign -/
def sgs (z : Str) : List Str := z.cps.toList.map fun c => ⟨#[c]⟩
theorem sgs_len {z : Str} : (sgs z).length = z.cps.size := by simp [sgs]
theorem src_str {z : Str} (h : E G Γ te Γ' rStr z) : ES G Γ (iStr te) Γ' rStr (sgs z) := fun M own σ H k e Q q => h M own σ H k e _ fun v H1 x1 k1 e1 r1 => by
  refine ⟨z, r1, q _ H1 gT x1 k1 e1 ⟨_, _, sgs_len ▸ walk_str (z := z), fun _ _ _ _ => trivial, fun i x M H H' hi k z y => ?_⟩ trivial⟩
  obtain ⟨rfl, c, h1, rfl⟩ := y
  refine ⟨Ex.refl, k, ⟨#[c]⟩, ?_, rfl⟩
  show (List.map _ _)[i]? = _
  rw [List.getElem?_map, Array.getElem?_toList, h1]; rfl
def sgn (x : Str) : Nat := x.cps.toList.headD 0
theorem sgs_one {z x : Str} (h : x ∈ sgs z) : x = ⟨#[sgn x]⟩ := by
  obtain ⟨c, _, rfl⟩ := List.mem_map.mp h
  rfl
/-- c in z, c one sign -/
theorem e_inSg {x z : Str} (ha : E G Γ ta Γ1 rStr x) (hb : E G Γ1 tb Γ2 rStr z) (hx : x = ⟨#[sgn x]⟩) : E G Γ (tOp (fun x y H Q => ∃ (c : Nat) (z : Str), x = .str ⟨#[c]⟩ ∧ y = .str z ∧ Q (.bl (decide (c ∈ z.cps.toList))) H) ta tb) Γ2 rBool (decide (sgn x ∈ z.cps.toList)) := e_op ha hb fun M H v u Q k rv ru q => by
  refine ⟨sgn x, z, ?_, ru, q _ H Ex.refl k rfl⟩
  rw [← hx]; exact rv
/-- .. not in -/
theorem e_notinSg {x z : Str} (ha : E G Γ ta Γ1 rStr x) (hb : E G Γ1 tb Γ2 rStr z) (hx : x = ⟨#[sgn x]⟩) : E G Γ (tOp (fun x y H Q => ∃ (c : Nat) (z : Str), x = .str ⟨#[c]⟩ ∧ y = .str z ∧ Q (.bl (!decide (c ∈ z.cps.toList))) H) ta tb) Γ2 rBool (!decide (sgn x ∈ z.cps.toList)) := e_op ha hb fun M H v u Q k rv ru q => by
  refine ⟨sgn x, z, ?_, ru, q _ H Ex.refl k rfl⟩
  rw [← hx]; exact rv
variable {F : Fm} {gp : Gp} {D : Ends}
/-- s += t -/
def rAddT : TIp := fun x y H Q => ∃ i j, x = .str i ∧ y = .str j ∧ i.length + j.length ≤ sizeLine ∧ Q (.str (i ++ j)) H
theorem s_augS {i : Nat} {n m : Str} (hx : Γ[i]? = some (.val rStr n)) (h : E F.G Γ te Γ rStr m) (hl : n.length + m.length ≤ sizeLine) (k : KT F gp (Γ.set i (.val rStr (n ++ m))) D.nx) : KT F gp Γ (tAug i te rAddT D) := fun M own σ H s e gg => by
  obtain ⟨v, h1, h2⟩ := e.env.get hx
  have h2 : v = V.str n := h2
  subst h2
  refine ⟨_, h1, h M own σ H s.ok e _ fun w H1 x1 k1 e1 r1 => ?_⟩
  have r1 : w = V.str m := r1
  subst r1
  refine ⟨n, m, rfl, rfl, hl, k M own _ H1 (s.step x1 k1) ⟨e1.nd, e1.sub, e1.out, e1.env.set (R := rStr) rfl fun s hs => ?_⟩ (gp_step s e x1 gg)⟩
  rw [hx] at hs
  cases hs
  exact True.intro
theorem ip_addS {X : Cx} : PIp X .Add rAddT := fun pins s σ H x y u v Q I rx ry h => iop_add_str pins s σ H x y u v Q I rx ry h
/-- d[k] += n -/
theorem s_daugI {i : Nat} {n m : Int} {k : Str} {ty tv : TE} {xs : List (Str × Int)} (hx0 : Γ[i]? = some (.own (oDct rInt xs))) (hk : E F.G Γ ty Γ1 rStr k) (hx1 : Γ1[i]? = some (.own (oDct rInt xs))) (hn : lookK xs k = some n) (hv : E F.G Γ1 tv Γ2 rInt m) (hx : Γ2[i]? = some (.own (oDct rInt xs))) (hl : xs.length < 100000)
    (kk : KT F gp (Γ2.set i (.own (oDct rInt (putL xs k (n + m))))) D.nx) : KT F gp Γ (sDAug (tVar i) ty tv rAdd D) := fun M own σ H s e gg => by
  obtain ⟨p0, _, hs0, _⟩ := own_dct e hx0
  refine ⟨.ref p0, hs0, hk M own σ H s.ok e _ fun u H1 x1 k1 e1 r1 => ?_⟩
  have r1 : u = V.str k := r1
  subst r1
  obtain ⟨p1, kvs1, hs1, hp1, d1⟩ := own_dct e1 hx1
  rw [hs0] at hs1
  cases hs1
  obtain ⟨w, hw, rw⟩ := (d1.val k).1 n hn
  have rw : w = V.int n := rw
  subst rw
  refine ⟨p0, .int n, rfl, .inl ⟨kvs1, keyS k, .inl hp1, rfl, hw.symm⟩, hv M own σ H1 k1 e1 _ fun u2 H2 x2 k2 e2 r2 => ?_⟩
  have r2 : u2 = V.int m := r2
  subst r2
  refine ⟨n, m, rfl, rfl, ?_⟩
  obtain ⟨v', p1, pi, p2, f⟩ := e2.env.focus hx
  obtain ⟨p, kvs, rfl, rfl, hp, r⟩ := f.own
  have r : DRel rInt (hid M H2) kvs xs := r
  have es := f.at_
  rw [hs0] at es
  cases es
  have hn : kvs.length < sizeLine := Nat.lt_of_lt_of_le (by rw [r.length]; exact hl) (by decide)
  refine ⟨_, .inl ⟨kvs, keyS k, hp, rfl, hn, rfl⟩, ?_⟩
  obtain ⟨x3, k3, e3⟩ := e2.write (O' := oDct rInt (putL xs k (n + m))) k2 f (List.mem_singleton.mpr rfl) ⟨p0, putK kvs (keyS k) (.int (n + m)), rfl, rfl, upd_same, r.put (R := rInt) rfl⟩
  have x12 := x1.trans x2
  exact kk M own σ _ (((s.step x1 k1).step x2 k2).step x3 k3) e3 (by rw [hid_upd (e2.sub p0 (f.inn.1 p0 (List.mem_singleton.mpr rfl)))]; exact gp_step s e x12 gg)
end
end TP

set_option Elab.async false
set_option linter.all false
set_option maxRecDepth 100000
set_option maxHeartbeats 4000000
/-! t + u of tuples of any length; a text among texts; xs[::-1] -/
namespace TP
open PySem PySem.Spec PyProof.Rows L2 DkL
section
variable {G M own : List Addr} {H H' : Hp} {σ : L2.St} {Γ Γ' Γ1 Γ2 Γ3 : Ctx} {α β : Type} {R : Rp α} {S : Rp β} {ta tb te : TE} {t : TA} {K : PySem.W.Frag} {xs ys : List α}
theorem op_catAK {X : Cx} (hK : X.K = K) : OpR X (binaryOp .Add) (rCatA K) := by subst hK; exact op_catA
theorem op_inSeqK {X : Cx} (hK : X.K = K) : OpR X (compareOp .In) (rIn K false) := by subst hK; exact op_in_seq
theorem op_notInSeqK {X : Cx} (hK : X.K = K) : OpR X (compareOp .NotIn) (rIn K true) := by subst hK; exact op_notIn_seq
theorem pe_revLK {X : Cx} {e : Expr} {k : Nat} {p1 p2 p3 pos : Pos} (hK : X.K = K) (he : PE X e te) : PE X (.Subscript e (.Slice none none (some (.UnaryOp .USub (.Constant (.int 1) k p1) p2)) p3) pos) (tRevL K te) := by subst hK; exact pe_revL he
theorem e_catT (ha : E G Γ ta Γ1 (rTup R) xs) (hb : E G Γ1 tb Γ2 (rTup R) ys) (hl : xs.length + ys.length ≤ 100000) : E G Γ (tOp (rCatA K) ta tb) Γ2 (rTup R) (xs ++ ys) := fun M own σ H k e Q q => ha M own σ H k e _ fun v H1 x1 k1 e1 r1 => hb M own σ H1 k1 e1 _ fun u H2 x2 k2 e2 r2 => by
  have r1 := (rTup R).mono (x2.hid (e1.allSub k1)) r1
  obtain ⟨a, us, rfl, ha, ra⟩ := r1
  obtain ⟨b, ws, rfl, hb, rb⟩ := r2
  have x12 := x1.trans x2
  refine ⟨a, b, us, ws, rfl, rfl, SqT.of (hid_some ha).2, SqT.of (hid_some hb).2, small_len (by rw [ra.length, rb.length]; exact hl), fun z => ?_, fun z w => ?_, fun _ _ p hp => ?_⟩
  · subst z
    cases ra
    exact q _ H2 x12 k2 e2 ⟨b, ws, rfl, hb, rb⟩
  · subst w
    cases rb
    rw [List.append_nil] at q
    exact q _ H2 x12 k2 e2 ⟨a, us, rfl, ha, ra⟩
  · have hM := k2.fresh hp
    have s := hid_new (o := .tup (us ++ ws)) hM hp
    exact q _ _ (x12.trans (Ex.new hp)) (k2.new hp) (e2.ext k2 (Ex.new hp)) ⟨p, _, rfl, hid_of hM upd_same, (ra.append rb).imp fun _ _ => R.mono s⟩
theorem flat_strs {h : Hp} : ∀ {vs : List V} {zs : List Str}, All2 (rStr.rep h) vs zs → vs.all flatV = true ∧ ∀ k : Str, inV (.str k) vs = decide (k ∈ zs)
  | _, _, .nil => ⟨rfl, fun k => by simp [inV]⟩
  | _, _, @All2.cons _ _ _ v z vs zs a r => by
    have a : v = V.str z := a
    subst a
    obtain ⟨h1, h2⟩ := flat_strs r
    refine ⟨by rw [List.all_cons, h1]; rfl, fun k => ?_⟩
    have h2 := h2 k
    unfold inV at h2 ⊢
    rw [List.any_cons, h2]
    show ((z == k) || _) = _
    rw [Bool.eq_iff_iff]
    simp only [Bool.or_eq_true, beq_iff_eq, decide_eq_true_eq, List.mem_cons]
    exact ⟨fun h => h.elim (fun e => .inl e.symm) .inr, fun h => h.elim (fun e => .inl e.symm) .inr⟩
theorem e_inT {k : Str} {zs : List Str} (ha : E G Γ ta Γ1 rStr k) (hb : E G Γ1 tb Γ2 (rTup rStr) zs) : E G Γ (tOp (rIn K false) ta tb) Γ2 rBool (decide (k ∈ zs)) := e_op ha hb fun M H v u Q kk rv ru q => by
  obtain ⟨p, vs, rfl, hp, r⟩ := ru
  have rv : v = V.str k := rv
  subst rv
  obtain ⟨h1, h2⟩ := flat_strs r
  exact ⟨p, vs, rfl, .inr (SqT.of (hid_some hp).2), rfl, h1, q _ H Ex.refl kk (by show V.bl _ = V.bl _; rw [h2]; rfl)⟩
theorem e_notinT {k : Str} {zs : List Str} (ha : E G Γ ta Γ1 rStr k) (hb : E G Γ1 tb Γ2 (rTup rStr) zs) : E G Γ (tOp (rIn K true) ta tb) Γ2 rBool (!decide (k ∈ zs)) := e_op ha hb fun M H v u Q kk rv ru q => by
  obtain ⟨p, vs, rfl, hp, r⟩ := ru
  have rv : v = V.str k := rv
  subst rv
  obtain ⟨h1, h2⟩ := flat_strs r
  exact ⟨p, vs, rfl, .inr (SqT.of (hid_some hp).2), rfl, h1, q _ H Ex.refl kk (by show V.bl _ = V.bl _; rw [h2]; rfl)⟩
theorem e_inL {k : Str} {zs : List Str} (ha : E G Γ ta Γ1 rStr k) (hb : E G Γ1 tb Γ2 (rList rStr) zs) : E G Γ (tOp (rIn K false) ta tb) Γ2 rBool (decide (k ∈ zs)) := e_op ha hb fun M H v u Q kk rv ru q => by
  obtain ⟨p, vs, rfl, hp, r⟩ := ru
  have rv : v = V.str k := rv
  subst rv
  obtain ⟨h1, h2⟩ := flat_strs r
  exact ⟨p, vs, rfl, .inl (SqL.of (hid_some hp).2), rfl, h1, q _ H Ex.refl kk (by show V.bl _ = V.bl _; rw [h2]; rfl)⟩
theorem e_notinL {k : Str} {zs : List Str} (ha : E G Γ ta Γ1 rStr k) (hb : E G Γ1 tb Γ2 (rList rStr) zs) : E G Γ (tOp (rIn K true) ta tb) Γ2 rBool (!decide (k ∈ zs)) := e_op ha hb fun M H v u Q kk rv ru q => by
  obtain ⟨p, vs, rfl, hp, r⟩ := ru
  have rv : v = V.str k := rv
  subst rv
  obtain ⟨h1, h2⟩ := flat_strs r
  exact ⟨p, vs, rfl, .inl (SqL.of (hid_some hp).2), rfl, h1, q _ H Ex.refl kk (by show V.bl _ = V.bl _; rw [h2]; rfl)⟩
theorem All2.reverse {F : α → β → Prop} : ∀ {as : List α} {bs : List β}, All2 F as bs → All2 F as.reverse bs.reverse
  | _, _, .nil => .nil
  | _, _, .cons a r => by
    rw [List.reverse_cons, List.reverse_cons]
    exact (All2.reverse r).append (.cons a .nil)
theorem e_revL (h : E G Γ te Γ1 (rList R) xs) : E G Γ (tRevL K te) Γ1 (rList R) xs.reverse := fun M own σ H k e Q q => h M own σ H k e _ fun v H1 x1 k1 e1 r1 => by
  obtain ⟨a, us, rfl, ha, ra⟩ := r1
  refine ⟨a, us, rfl, SqL.of (hid_some ha).2, fun p hp => ?_⟩
  have hM := k1.fresh hp
  have s := hid_new (o := .lst us.reverse) hM hp
  exact q _ _ (x1.trans (Ex.new hp)) (k1.new hp) (e1.ext k1 (Ex.new hp)) ⟨p, _, rfl, hid_of hM upd_same, ra.reverse.imp fun _ _ => R.mono s⟩
end
end TP

set_option Elab.async false
set_option linter.all false
set_option maxRecDepth 100000
set_option maxHeartbeats 4000000
/-! x = {k: v for ..} as a statement of its own -/
namespace L2
open PySem PySem.Spec PyProof.Rows
section
variable {X : Cx}
theorem ps_setDc {i : Nat} {y : Str} {py : Pos} {kx vx tg iter : Expr} {ifs : List Expr} {scope : Scope} {own : List (Str × Nat)} {pos spos : Pos} {wi : TI} {g : TG} {tt : TT} {tk tv : TE} (hc : X.calm = true) (hN : X.N.Nodup) (hy : X.N[i]? = some y) (hyl : X.env.scope.names.lookup y = some .local)
    (hsw : swapsWith (.DictComp kx vx [⟨tg, iter, ifs, 0⟩] scope pos) (some (.Name y py)) spos.line X.env = pure true) (hi : PI X tg iter wi) (ok : BlkOk X.N X.env.scope scope own)
    (hg : ∀ (s : Shared) (H : Hp) (C : Addr) (cl : List (Str × Addr)) (fp : List Addr), PG (X.blk s H scope (compEnvC scope cl C X.env) fp) tg g) (ht : ∀ (s : Shared) (H : Hp) (C : Addr) (cl : List (Str × Addr)) (fp : List Addr), PTs (X.blk s H scope (compEnvC scope cl C X.env) fp) ifs tt)
    (hk : ∀ (s : Shared) (H : Hp) (C : Addr) (cl : List (Str × Addr)) (fp : List Addr), PE (X.blk s H scope (compEnvC scope cl C X.env) fp) kx tk)
    (he : ∀ (s : Shared) (H : Hp) (C : Addr) (cl : List (Str × Addr)) (fp : List Addr), PE (X.blk s H scope (compEnvC scope cl C X.env) fp) vx tv) (hs : ∀ x, foldedSetIterable iter X.env x = pure x := by intro _; rfl) :
    PS X (.Assign [.Name y py] (.DictComp kx vx [⟨tg, iter, ifs, 0⟩] scope pos) spos) (tAsg (tDc wi g tt tk tv (own.map (·.2))) (gName i)) := by
  refine ⟨fun pins s σ H D I h => ?_⟩
  rw [exec_Assign_Name_used _ _ _ _ hsw]
  refine wpAny_bind (wpAny_standAt (wpAny_bind ?_))
  have h : tDc wi g tt tk tv (own.map (·.2)) σ H (fun x H1 => gName i x σ H1 D.nx) := h
  show wpAny _ X.A (do let _ ← comprehension (.DictComp kx vx [⟨tg, iter, ifs, 0⟩] scope pos) scope X.env (firstIterPos [⟨tg, iter, ifs, 0⟩] pos) newDict false (eval iter X.env) (some (assign (.Name y py) X.env))) _ _ s
  refine wpAny_bind (thn (dc_core (Qf := fun _ s' => SP X pins D .next s') hc hN I hi ok hg ht hk he hs h fun L C s' m H' I' q hn f => ?_) fun _ s' hq => wpAny_pure (wpAny_pure hq))
  show wpAny _ _ (assign (.Name y py) X.env (.ref L)) _ _ _
  refine wpAny_assign_Name (store_ok2 (v := V.ref L) I' hN hy (.inl hyl) rfl (fun s2 I2 ⟨a, sb, ha⟩ => ?_) (.inr hyl))
  obtain ⟨f0, f1, f2, f3, f4, f5⟩ := f
  have haC : C ≠ a := by
    rcases ha with z | z
    · rw [z]; exact f1
    · exact fun e => f4 y a z e.symm
  refine ⟨m, hn.sameBut sb haC, fun h3 sb3 => ?_⟩
  exact ⟨_, H', I2.turned (t' := s2.toks) (fun b o hb e => (sb3.2 b hb).trans e) f0 f1 f3 f4 f5, q⟩
theorem sw_trueD {kx vx : Expr} {gs : List Comprehension} {scope : Scope} {pos py : Pos} {y : Str} {l : Nat} {env : Env} (hk : env.scope.kind = .function) (hy : env.scope.names.lookup y = some .local) (hl : (py.line == pos.line) = true)
    (ha : (scope.names.any fun (n, k) => n == y && (k == .local || k == .cell)) = false) : swapsWith (.DictComp kx vx gs scope pos) (some (.Name y py)) l env = pure true := by
  have ky : env.kindOf y = some .local := hy
  have hb : env.blockKind = .function := by unfold Env.blockKind; rw [hk]; rfl
  unfold swapsWith
  simp only [hb, ky, ha, Expr.pos, hl]
  rfl
end
end L2
namespace L2
open PySem PySem.Spec PyProof.Rows
section
variable {X : Cx}
theorem call_lenR : CallR X (.builtin "len") (fun xs H Q => ∃ (a : Addr) (kvs : List (Key × V)), xs = [V.ref a] ∧ Rd H a (.dK kvs) ∧ Q (.int kvs.length) H) := by
  intro pins s σ H xs us Q I r h
  obtain ⟨a, kvs, rfl, ha, q⟩ := h
  obtain ⟨u, rfl, ru⟩ := vals1 r
  cases ru
  exact d_len I ha fun t s' I' => ⟨.int kvs.length, H, I', ⟨t, rfl⟩, q⟩
end
end L2
namespace TP
open PySem PySem.Spec PyProof.Rows L2 DkL
section
variable {G M own : List Addr} {H H' : Hp} {σ : L2.St} {Γ Γ' Γ1 Γ2 Γ3 : Ctx} {α β : Type} {R : Rp α} {S : Rp β} {ta tb te : TE} {t : TA} {K : PySem.W.Frag} {xs : List (Str × α)} {ys : List α}
theorem e_lenD (h : EA G Γ t Γ1 [⟨rDct R, xs⟩]) : E G Γ (tCB (fun xs H Q => ∃ (a : Addr) (kvs : List (Key × V)), xs = [V.ref a] ∧ Rd H a (.dK kvs) ∧ Q (.int kvs.length) H) t) Γ1 rInt (xs.length : Int) := fun M own σ H k e Q q => h M own σ H k e _ fun vs H1 x1 k1 e1 r1 => by
  cases r1 with
  | cons r0 r1 =>
  cases r1
  obtain ⟨p, kvs, e0, rd, r⟩ := rd_dct hid_sub r0
  subst e0
  exact ⟨p, kvs, rfl, rd, q _ H1 x1 k1 e1 (by show V.int _ = V.int _; rw [r.length])⟩
theorem e_lenDO {i : Nat} (hx : Γ[i]? = some (.own (oDct R xs))) : E G Γ (tCB (fun xs H Q => ∃ (a : Addr) (kvs : List (Key × V)), xs = [V.ref a] ∧ Rd H a (.dK kvs) ∧ Q (.int kvs.length) H) (tCons (tVar i) tNil)) Γ rInt (xs.length : Int) := fun M own σ H k e Q q => by
  obtain ⟨p, kvs, h1, h2, r⟩ := own_dct e hx
  exact ⟨.ref p, h1, p, kvs, rfl, .inl h2, q _ H Ex.refl k e (by show V.int _ = V.int _; rw [r.length])⟩
theorem e_lenS {z : Str} (h : EA G Γ t Γ1 [⟨rStr, z⟩]) (hz : z.length ≤ sizeLine) : E G Γ (tCB (fun xs H Q => ∃ i : Str, xs = [.str i] ∧ i.length ≤ sizeLine ∧ Q (.int i.length) H) t) Γ1 rInt (z.length : Int) := fun M own σ H k e Q q => h M own σ H k e _ fun vs H1 x1 k1 e1 r1 => by
  cases r1 with
  | cons r0 r1 =>
  cases r1
  have r0 : _ = V.str z := r0
  subst r0
  exact ⟨z, rfl, hz, q _ H1 x1 k1 e1 rfl⟩
theorem e_neEO {i : Nat} {c : Addr → Prop} (hx : Γ[i]? = some (.own (oLstP c R ys))) : E G Γ (tOp (rNeE K) (tVar i) (tLst tNil)) Γ rBool (!ys.isEmpty) := fun M own σ H k e Q q => by
  obtain ⟨v, p1, pi, p2, f⟩ := e.env.focus hx
  obtain ⟨p, us, hc, rfl, rfl, hp, r⟩ := f.own
  refine ⟨.ref p, f.at_, show _ ≤ sizeLine from Nat.zero_le _, fun l hl => ?_⟩
  have hpl : p ≠ l := fun z => by rw [z, hl] at hp; cases hp
  have := q (.bl (!us.isEmpty)) (upd H l (.lst [])) (Ex.new hl) (k.new hl) (e.ext k (Ex.new hl)) (show V.bl _ = V.bl _ by rw [emp_iff r])
  exact ⟨p, l, us, rfl, rfl, SqL.of (by rw [upd_ne hpl]; exact hp), SqL.of upd_same, this⟩
end
end TP

set_option Elab.async false
set_option linter.all false
set_option maxRecDepth 100000
set_option maxHeartbeats 4000000
/-! a loop over one die behind one name; stores by targets that change one's own; slices of texts -/
namespace TP
open PySem PySem.Spec PyProof.Rows L2 DkL LM
section
variable {F : Fm} {G M own : List Addr} {H H' : Hp} {σ : L2.St} {Γ Γ' Γ1 Γ2 Γ3 : Ctx} {α β γ : Type} {R : Rp α} {S : Rp β} {T : Rp γ} {a : α} {b : β} {c : γ} {te : TE} {K : PySem.W.Frag} {D : Ends} {P : Addr} {q : Str} {gp : Gp}
/-- the law's own loop over its one die, behind one name that holds something else -/
theorem s_one1 {n : Nat} {R0 : Rp α} {a0 : α} {R1 : Rp β} {b1 : β} (sp1 : Sep R1 b1) {x : List Int} (hx : x ≠ []) {tb : TS} (hO : F.own0 = []) (hF : ∀ p, p ∉ F.G → F.H0 p = none)
    (h : E F.G (.own (oTabR P q R0 a0) :: .val R1 b1 :: List.replicate (n + 1) .no) te (.own (oTabR P q R0 a0) :: .val R1 b1 :: List.replicate (n + 1) .no) (rList (rList rInt)) [x])
    (body : ∀ v gA N, (∀ Γ', KT F gT Γ' D.nx → KT F gA Γ' N) → KT F gA (.own (oTab P q v) :: .val R1 b1 :: .own (oLst rInt x) :: List.replicate n .no) (tb { D with nx := N, ct := N, bk := D.nx })) :
    KT F gT (.own (oTabR P q R0 a0) :: .val R1 b1 :: List.replicate (n + 1) .no) (tFor (iList K te) (gName 2) tb D) := fun M own σ H s e gg => h M own σ H s.ok e _ fun w H1 x1 k1 e1 r1 => by
  obtain ⟨a, vs, rfl, ha, rr⟩ := r1
  cases rr with
  | cons r0 rr =>
    cases rr
    obtain ⟨p, ys, rfl, hp, ry⟩ := r0
    have st1 := s.step x1 k1
    obtain ⟨gA, hgA⟩ : ∃ gA : Gp, gA = ⟨fun h => h a = some (.lst [.ref p]), fun k z => k _ _ z⟩ := ⟨_, rfl⟩
    refine ⟨a, rfl, ⟨_, SqL.of (hid_some ha).2⟩, ?_⟩
    refine for_it (walk_list (K := K) (a := a) (xs := [.ref p])) (fun i σ' H' => (i = 0 ∧ σ' = σ ∧ H' = H1) ∨ (1 ≤ i ∧ H' a = some (.lst [.ref p]) ∧ ∃ Γ' M' own', Stt F M' own' H' ∧ Env F.G M' H' own' σ' Γ' ∧ KT F gT Γ' D.nx)) (.inl ⟨rfl, rfl, rfl⟩) (fun i σ' H' _ z => ?_) ?_ ?_
    · rcases z with ⟨_, _, rfl⟩ | ⟨_, z, _⟩
      · exact SqL.of (hid_some ha).2
      · exact SqL.of z
    · rintro i y σ2 H2 H3 hi z hy
      rcases z with ⟨rfl, rfl, rfl⟩ | ⟨z, _⟩
      · obtain ⟨rfl, hy⟩ := hy
        have hy : V.ref p = y := by simpa using hy
        subst hy
        obtain ⟨hpM, hpH⟩ := hid_some hp
        obtain ⟨haM, haH⟩ := hid_some ha
        have hpG : p ∉ F.G := fun z => hpM (k1.sub p z)
        have hap : a ≠ p := fun z => by
          rw [z, hpH] at haH
          have e : ys = [V.ref p] := by injection haH with haH; injection haH
          subst e
          cases ry with
          | cons r _ => cases r
        cases σ2 with
        | nil => exact (show False from e1.env).elim
        | cons o0 σ2 =>
        cases σ2 with
        | nil => obtain ⟨_, _, _, _, _, _, z⟩ := e1.env; exact (show False from z).elim
        | cons o1 σ2 =>
          cases σ2 with
          | nil => obtain ⟨_, _, _, _, _, _, _, z⟩ := e1.env; exact (show False from z).elim
          | cons o3 σ2 =>
            obtain ⟨v, p1, p2, rfl, hown, ⟨_, hu, rfl, tbl, hP, ht, hco⟩, ⟨w1, rfl, hr1⟩, hrest⟩ := e1.env
            obtain ⟨rfl, hlen⟩ := env_no (n := n + 1) (σ := o3 :: σ2) hrest
            have hown : own = [P] := by simpa using hown
            subst hown
            have hidep := hid_cons (p := p) (M := M) (H := H3)
            have yne : ys ≠ [] := fun z => hx (by have := ry.length; rw [z] at this; exact List.eq_nil_of_length_eq_zero this.symm)
            have yint : ∀ y ∈ ys, ∃ i, y = V.int i := fun y hy => by
              obtain ⟨i, hi⟩ := List.getElem?_of_mem hy
              obtain ⟨b, _, hb⟩ := ry.getL hi
              exact ⟨b, hb⟩
            have hPM : P ∈ M := e1.sub P (List.mem_singleton.mpr rfl)
            have hPp : P ≠ p := fun z => hpM (by rw [← z]; exact hPM)
            show tb _ (some v :: some w1 :: some (V.ref p) :: σ2) H3
            refine body v gA _ (fun Γ' kk M' own' σ' H' st' e' g' => .inr ⟨Nat.le_refl _, ?_, Γ', M', own', st', e', kk⟩) (p :: M) [P, p] (some v :: some w1 :: some (V.ref p) :: σ2) H3 ?_ ?_ ?_
            · refine ⟨⟨fun P hP => List.mem_cons_of_mem _ (k1.sub P hP), fun m hm => ?_, k1.wf⟩, st1.ex, fun m hm => List.mem_cons_of_mem _ (st1.mc m hm), fun o ho => ?_⟩
              · rcases List.mem_cons.mp hm with rfl | hm
                · rw [hpH]; exact Option.some_ne_none _
                · exact k1.al m hm
              · rcases List.mem_cons.mp ho with rfl | ho
                · exact st1.own _ (List.mem_singleton.mpr rfl)
                · rw [List.mem_singleton.mp ho]; exact .inr (hF p hpG)
            · refine ⟨by simp [hPp], fun o ho => ?_, fun o ho => ?_, ?_⟩
              · rcases List.mem_cons.mp ho with rfl | ho
                · exact List.mem_cons_of_mem _ hPM
                · rw [List.mem_singleton.mp ho]; exact List.mem_cons_self
              · rcases List.mem_cons.mp ho with rfl | ho
                · exact e1.out _ (List.mem_singleton.mpr rfl)
                · rw [List.mem_singleton.mp ho]; exact hpG
              · refine ⟨v, [P], [p], rfl, rfl, ⟨rfl, rfl, tbl, hP, ht, fun pos cv z => ?_⟩, ⟨w1, rfl, ?_⟩, .ref p, [p], [], rfl, rfl, ⟨p, ys, trivial, rfl, rfl, hpH, ?_⟩, env_no' (by simpa using hlen)⟩
                · obtain ⟨c, e2, hc⟩ := hco pos cv z
                  refine ⟨c, e2, hid_of (fun z => ?_) (hid_some hc).2⟩
                  rcases List.mem_cons.mp z with z | z
                  · subst z
                    have := (hid_some hc).2
                    rw [hpH] at this
                    cases this
                  · exact (hid_some hc).1 z
                · rw [hidep]; exact sp1 _ p ys hp yne yint _ hr1
                · exact ry.imp fun _ _ h => h
            · rw [hgA]
              exact hid_of (fun z => (List.mem_cons.mp z).elim hap haM) haH
            · rw [hgA] at g'
              exact (hid_some g').2
      · simp at hi
        omega
    · rintro σ2 H2 z
      rcases z with ⟨z, _⟩ | ⟨_, _, Γ', M', own', st', e', kk⟩
      · simp at z
      · exact kk M' own' σ2 H2 st' e' trivial
/-! ### targets that change one's own things -/
def TgH (G : List Addr) (g : TG) {α : Type} (R : Rp α) (a : α) (Γ Γ' : Ctx) : Prop :=
  ∀ M own σ H v (Q : L2.St → Hp → Prop), Ok G M H → Env G M H own σ Γ → R.rep (hid M H) v a → (∀ σ' H', Ex (G ++ own) H H' → Ok G M H' → Env G M H' own σ' Γ' → Q σ' H') → g v σ H Q
theorem tgh_of {g : TG} {ws : List Nat} (h : Tg G g R a Γ Γ' ws) : TgH G g R a Γ Γ' := fun M own σ H v Q k e r q => h M own σ H v Q k e r fun σ' _ e' => q σ' H Ex.refl k e'
theorem s_asgH {gt : TG} (h : E F.G Γ te Γ1 R a) (t : TgH F.G gt R a Γ1 Γ2) (k : KT F gp Γ2 D.nx) : KT F gp Γ (tAsg te gt D) := fun M own σ H s e gg => h M own σ H s.ok e _ fun v H1 x1 k1 e1 r1 =>
  t M own σ H1 v _ k1 e1 r1 fun σ' H2 x2 k2 e2 => k M own σ' H2 ((s.step x1 k1).step x2 k2) e2 (gp_step s e (x1.trans x2) gg)
theorem tgh_t2 {g1 g2 : TG} (h1 : TgH G g1 R a Γ Γ1) (h2 : TgH G g2 S b Γ1 Γ2) : TgH G (gTup K 2 (gCons g1 (gCons g2 gNil))) (rT2 R S) (a, b) Γ Γ2 := fun M own σ H v Q k e r q => by
  obtain ⟨p, x, y, rfl, hp, ra, rb⟩ := r
  refine ⟨p, [x, y], rfl, SqT.of (hid_some hp).2, rfl, x, [y], rfl, h1 M own σ H x _ k e ra fun σ1 H1 x1 k1 e1 => ?_⟩
  exact ⟨y, [], rfl, h2 M own σ1 H1 y _ k1 e1 (S.mono (x1.hid (e.allSub k)) rb) fun σ2 H2 x2 k2 e2 => ⟨rfl, q σ2 H2 (x1.trans x2) k2 e2⟩⟩
theorem tgh_t3 {g1 g2 g3 : TG} (h1 : TgH G g1 R a Γ Γ1) (h2 : TgH G g2 S b Γ1 Γ2) (h3 : TgH G g3 T c Γ2 Γ3) : TgH G (gTup K 3 (gCons g1 (gCons g2 (gCons g3 gNil)))) (rT3 R S T) (a, b, c) Γ Γ3 := fun M own σ H v Q k e r q => by
  obtain ⟨p, x, y, z, rfl, hp, ra, rb, rc⟩ := r
  refine ⟨p, [x, y, z], rfl, SqT.of (hid_some hp).2, rfl, x, [y, z], rfl, h1 M own σ H x _ k e ra fun σ1 H1 x1 k1 e1 => ?_⟩
  refine ⟨y, [z], rfl, h2 M own σ1 H1 y _ k1 e1 (S.mono (x1.hid (e.allSub k)) rb) fun σ2 H2 x2 k2 e2 => ?_⟩
  exact ⟨z, [], rfl, h3 M own σ2 H2 z _ k2 e2 (T.mono ((x1.trans x2).hid (e.allSub k)) rc) fun σ3 H3 x3 k3 e3 => ⟨rfl, q σ3 H3 ((x1.trans x2).trans x3) k3 e3⟩⟩
theorem tgh_dput {i : Nat} {k : Str} {ty : TE} {xs : List (Str × α)} (hx0 : Γ[i]? = some (.own (oDct R xs))) (hk : E G Γ ty Γ rStr k) (hl : xs.length < 100000) : TgH G (gSub (tVar i) ty rSetD) R a Γ (Γ.set i (.own (oDct R (putL xs k a)))) := fun M own σ H v Q kk e r q => by
  obtain ⟨p0, _, hs0, _⟩ := own_dct e hx0
  refine ⟨.ref p0, hs0, hk M own σ H kk e _ fun u H2 x2 k2 e2 r2 => ?_⟩
  have r2 : u = V.str k := r2
  subst r2
  have r1 := R.mono (x2.hid (e.allSub kk)) r
  obtain ⟨v', p1, pi, p2, f⟩ := e2.env.focus hx0
  obtain ⟨p, kvs, rfl, rfl, hp, rd⟩ := f.own
  have rd : DRel R (hid M H2) kvs xs := rd
  have es := f.at_
  rw [hs0] at es
  cases es
  have hn : kvs.length < sizeLine := Nat.lt_of_lt_of_le (by rw [rd.length]; exact hl) (by decide)
  refine ⟨p0, _, rfl, .inl ⟨kvs, keyS k, hp, rfl, hn, rfl⟩, ?_⟩
  obtain ⟨x3, k3, e3⟩ := e2.write (O' := oDct R (putL xs k a)) k2 f (List.mem_singleton.mpr rfl) ⟨p0, putK kvs (keyS k) v, rfl, rfl, upd_same, rd.put r1⟩
  exact q σ _ (x2.trans x3) k3 e3
/-! ### slices of texts -/
theorem e_slS {z : Str} {lo hi : Option Int} {tl th : TO} (hs : E G Γ te Γ1 rStr z) (hl : EO G Γ1 tl Γ2 lo) (hh : EO G Γ2 th Γ3 hi) (hz : z.length ≤ sizeLine) : E G Γ (tSl rSlS te tl th) Γ3 rStr (cutS z lo hi) := fun M own σ H k e Q q => hs M own σ H k e _ fun v H1 x1 k1 e1 r1 => hl M own σ H1 k1 e1 _ fun H2 x2 k2 e2 => hh M own σ H2 k2 e2 _ fun H3 x3 k3 e3 => by
  exact ⟨z, r1, hz, q _ H3 ((x1.trans x2).trans x3) k3 e3 rfl⟩
end
end TP

set_option Elab.async false
set_option linter.all false
set_option maxRecDepth 100000
set_option maxHeartbeats 0
namespace KH
open PySem PySem.Spec PyProof.Rows L2
def top (i : Nat) : Stmt := PySem.Challenge.pw_kilnstack_k03_pots_in_pots.main.body.getD i (.Pass ⟨0, 0, 0, 0⟩)
abbrev s_wall : Stmt := (top 0)
def d_wall : He.DefD := ⟨("_wall", none), "_wall", "_wall", defArgs s_wall, defBody s_wall, defScope s_wall, [], []⟩
abbrev s_Pot_init : Stmt := (inClass (top 7) 0)
def d_Pot_init : He.DefD := ⟨("Pot", some "__init__"), "__init__", "Pot.__init__", defArgs s_Pot_init, defBody s_Pot_init, defScope s_Pot_init, [], []⟩
abbrev s_Pot_height : Stmt := (inClass (top 7) 1)
def d_Pot_height : He.DefD := ⟨("Pot", some "height"), "height", "Pot.height", defArgs s_Pot_height, defBody s_Pot_height, defScope s_Pot_height, [], []⟩
abbrev s_Pot_width : Stmt := (inClass (top 7) 2)
def d_Pot_width : He.DefD := ⟨("Pot", some "width"), "width", "Pot.width", defArgs s_Pot_width, defBody s_Pot_width, defScope s_Pot_width, [], []⟩
abbrev s_Pot_outside : Stmt := (inClass (top 7) 3)
def d_Pot_outside : He.DefD := ⟨("Pot", some "outside"), "outside", "Pot.outside", defArgs s_Pot_outside, defBody s_Pot_outside, defScope s_Pot_outside, [], []⟩
abbrev s_Pot_holds : Stmt := (inClass (top 7) 4)
def d_Pot_holds : He.DefD := ⟨("Pot", some "holds"), "holds", "Pot.holds", defArgs s_Pot_holds, defBody s_Pot_holds, defScope s_Pot_holds, [], []⟩
abbrev s_Pot_clay_room : Stmt := (inClass (top 7) 5)
def d_Pot_clay_room : He.DefD := ⟨("Pot", some "clay_room"), "clay_room", "Pot.clay_room", defArgs s_Pot_clay_room, defBody s_Pot_clay_room, defScope s_Pot_clay_room, [], []⟩
abbrev s_Pot_mouth : Stmt := (inClass (top 7) 6)
def d_Pot_mouth : He.DefD := ⟨("Pot", some "mouth"), "mouth", "Pot.mouth", defArgs s_Pot_mouth, defBody s_Pot_mouth, defScope s_Pot_mouth, [], []⟩
abbrev s_Pot_has_room_for : Stmt := (inClass (top 7) 7)
def d_Pot_has_room_for : He.DefD := ⟨("Pot", some "has_room_for"), "has_room_for", "Pot.has_room_for", defArgs s_Pot_has_room_for, defBody s_Pot_has_room_for, defScope s_Pot_has_room_for, [], []⟩
abbrev s_Pot_narrowest_from : Stmt := (inClass (top 7) 8)
def d_Pot_narrowest_from : He.DefD := ⟨("Pot", some "narrowest_from"), "narrowest_from", "Pot.narrowest_from", defArgs s_Pot_narrowest_from, defBody s_Pot_narrowest_from, defScope s_Pot_narrowest_from, [], []⟩
abbrev s_Pot_fired : Stmt := (inClass (top 7) 9)
def d_Pot_fired : He.DefD := ⟨("Pot", some "fired"), "fired", "Pot.fired", defArgs s_Pot_fired, defBody s_Pot_fired, defScope s_Pot_fired, [], []⟩
abbrev s_longest_nest : Stmt := (top 8)
def d_longest_nest : He.DefD := ⟨("longest_nest", none), "longest_nest", "longest_nest", defArgs s_longest_nest, defBody s_longest_nest, defScope s_longest_nest, [], []⟩
abbrev s_sets_of : Stmt := (top 9)
def d_sets_of : He.DefD := ⟨("sets_of", none), "sets_of", "sets_of", defArgs s_sets_of, defBody s_sets_of, defScope s_sets_of, [], []⟩
abbrev s_Clay_init : Stmt := (inClass (top 11) 0)
def d_Clay_init : He.DefD := ⟨("Clay", some "__init__"), "__init__", "Clay.__init__", defArgs s_Clay_init, defBody s_Clay_init, defScope s_Clay_init, [], []⟩
abbrev s_Clay_dry : Stmt := (inClass (top 11) 1)
def d_Clay_dry : He.DefD := ⟨("Clay", some "dry"), "dry", "Clay.dry", defArgs s_Clay_dry, defBody s_Clay_dry, defScope s_Clay_dry, [], []⟩
abbrev s_Clay_fired : Stmt := (inClass (top 11) 2)
def d_Clay_fired : He.DefD := ⟨("Clay", some "fired"), "fired", "Clay.fired", defArgs s_Clay_fired, defBody s_Clay_fired, defScope s_Clay_fired, [], []⟩
abbrev s_Clay_wet_for : Stmt := (inClass (top 11) 3)
def d_Clay_wet_for : He.DefD := ⟨("Clay", some "wet_for"), "wet_for", "Clay.wet_for", defArgs s_Clay_wet_for, defBody s_Clay_wet_for, defScope s_Clay_wet_for, [], []⟩
abbrev s_Clay_lost : Stmt := (inClass (top 11) 4)
def d_Clay_lost : He.DefD := ⟨("Clay", some "lost"), "lost", "Clay.lost", defArgs s_Clay_lost, defBody s_Clay_lost, defScope s_Clay_lost, [], []⟩
abbrev s_law_dice : Stmt := (top 13)
def d_law_dice : He.DefD := ⟨("_law_dice", none), "_law_dice", "_law_dice", defArgs s_law_dice, defBody s_law_dice, defScope s_law_dice, [], []⟩
abbrev s_law_roll : Stmt := (top 14)
def d_law_roll : He.DefD := ⟨("_law_roll", none), "_law_roll", "_law_roll", defArgs s_law_roll, defBody s_law_roll, defScope s_law_roll, [], []⟩
abbrev s_law_rounds : Stmt := (top 15)
def d_law_rounds : He.DefD := ⟨("_law_rounds", none), "_law_rounds", "_law_rounds", defArgs s_law_rounds, defBody s_law_rounds, defScope s_law_rounds, [], []⟩
abbrev s_law_told : Stmt := (top 16)
def d_law_told : He.DefD := ⟨("_law_told", none), "_law_told", "_law_told", defArgs s_law_told, defBody s_law_told, defScope s_law_told, [], []⟩
abbrev s_law_column : Stmt := (top 17)
def d_law_column : He.DefD := ⟨("_law_column", none), "_law_column", "_law_column", defArgs s_law_column, defBody s_law_column, defScope s_law_column, [], []⟩
abbrev s_law_within : Stmt := (top 18)
def d_law_within : He.DefD := ⟨("_law_within", none), "_law_within", "_law_within", defArgs s_law_within, defBody s_law_within, defScope s_law_within, [], []⟩
abbrev s_law_nests : Stmt := (top 19)
def d_law_nests : He.DefD := ⟨("_law_nests", none), "_law_nests", "_law_nests", defArgs s_law_nests, defBody s_law_nests, defScope s_law_nests, [], []⟩
abbrev s_law : Stmt := (top 20)
def d_law : He.DefD := ⟨("law", none), "law", "law", defArgs s_law, defBody s_law, defScope s_law, [], []⟩
def fn : List He.DefD := [d_wall, d_Pot_init, d_Pot_height, d_Pot_width, d_Pot_outside, d_Pot_holds, d_Pot_clay_room, d_Pot_mouth, d_Pot_has_room_for, d_Pot_narrowest_from, d_Pot_fired, d_longest_nest, d_sets_of, d_Clay_init, d_Clay_dry, d_Clay_fired, d_Clay_wet_for, d_Clay_lost, d_law_dice, d_law_roll, d_law_rounds, d_law_told, d_law_column, d_law_within, d_law_nests, d_law]
def fa : List He.Fa := [.glo "_wall", .glo "KilnError", .glo "ClayError", .glo "PotError", .glo "Pot", .glo "longest_nest", .glo "sets_of", .glo "Clay", .glo "_law_dice", .glo "_law_roll", .glo "_law_rounds", .glo "_law_told", .glo "_law_column", .glo "_law_within", .glo "_law_nests", .glo "law", .int "MOST_RINGS" 30, .free "len", .free "any", .free "sum", .free "range", .free "min", .free "max", .free "abs", .free "int", .free "tuple", .free "enumerate", .free "str", .free "sorted", .free "list", .free "dict", .free "ValueError", .exc "KilnError", .exc "ClayError", .exc "PotError", .cls "Pot", .mkr "Pot", .noat "Pot" "name", .noat "Pot" "rings", .noat "Pot" "wall", .noat "Pot" "clay", .meth "Pot" "height", .meth "Pot" "width", .meth "Pot" "outside", .meth "Pot" "holds", .meth "Pot" "clay_room", .meth "Pot" "mouth", .meth "Pot" "has_room_for", .meth "Pot" "narrowest_from", .meth "Pot" "fired", .cls "Clay", .mkr "Clay", .noat "Clay" "name", .noat "Clay" "dries", .noat "Clay" "fires", .noat "Clay" "takes", .meth "Clay" "dry", .meth "Clay" "fired", .meth "Clay" "wet_for", .meth "Clay" "lost", .exm "KilnError" "KilnError" true, .exm "KilnError" "ClayError" false, .exm "KilnError" "PotError" false, .exm "ClayError" "KilnError" true, .exm "ClayError" "ClayError" true, .exm "ClayError" "PotError" false, .exm "PotError" "KilnError" true, .exm "PotError" "ClayError" false, .exm "PotError" "PotError" true]
def tf : List He.Defn := [("Pot", some "__init__"), ("Pot", some "height"), ("Pot", some "width"), ("Pot", some "outside"), ("Pot", some "mouth"), ("sets_of", none), ("law", none)]
abbrev R : PySem.W.OpenRow := PySem.W.OpenLaw.row PySem.Challenge.rw_kilnstack_k03_pots_in_pots
def isObjEq : Option (Option Value) → Bool
  | some (some (.builtin x)) => x == "object.__eq__"
  | _ => false
abbrev ecl : List Str := ["Pot", "Clay"]
abbrev tabsOf (K : PySem.W.Frag) : List Addr := tf.map fun p => (He.cT K p).2
def ts : List He.Tab := []
abbrev ex (K : PySem.W.Frag) : Bool := (ecl.all fun C => isObjEq (PySem.W.findIn K (.ref (He.ga K C)) "__eq__")) && decide (tabsOf K).Nodup
abbrev hk : PySem.W.Hook := He.hookX 7 fa fn ts tf ex
def ob (s : PySem.W.SharedT) : He.AlX := He.obsX 7 fa fn ts tf ex (HandSHeadRun.getT s)
theorem ob_eq (s : PySem.W.SharedT) : ob s = hk.obs s.abs := He.obsX_eq (HandSHeadRun.getT_eq s)
theorem run (w : World) : HandSHeadRun.RunEq R (PySem.W.view R.prog [20]) hk ob 4000 ["_wall", "__name__", "KilnError", "ClayError", "PotError", "MOST_RINGS", "Pot", "longest_nest", "sets_of", "Clay", "_law_dice", "_law_roll", "_law_rounds", "_law_told", "_law_column", "_law_within", "_law_nests"] w := by
  intro os
  kernel_rfl
end KH

set_option Elab.async false
set_option linter.all false
set_option maxRecDepth 100000
set_option maxHeartbeats 0
namespace KH
open PySem PySem.Spec PyProof.Rows L2 TP
def Top (w : World) (K : PySem.W.Frag) (mg : Str → Option Value) : Prop := ∃ h : Heap, K.In h ∧ h.Ns mainGlobals mg ∧ He.SaysX fa fn ts tf ex w h K
section
variable {w : World} {K : PySem.W.Frag} {mg : Str → Option Value} (T : Top w K mg)
include T
theorem g_wall : mg "_wall" = some (.ref (He.ga K "_wall")) := by
  obtain ⟨h, KX, G, c⟩ := T
  exact He.glo_ok KX G (c.t.d.fact 0 (f := .glo "_wall") rfl)
theorem g_KilnError : mg "KilnError" = some (.ref (He.ga K "KilnError")) := by
  obtain ⟨h, KX, G, c⟩ := T
  exact He.glo_ok KX G (c.t.d.fact 1 (f := .glo "KilnError") rfl)
theorem g_ClayError : mg "ClayError" = some (.ref (He.ga K "ClayError")) := by
  obtain ⟨h, KX, G, c⟩ := T
  exact He.glo_ok KX G (c.t.d.fact 2 (f := .glo "ClayError") rfl)
theorem g_PotError : mg "PotError" = some (.ref (He.ga K "PotError")) := by
  obtain ⟨h, KX, G, c⟩ := T
  exact He.glo_ok KX G (c.t.d.fact 3 (f := .glo "PotError") rfl)
theorem g_Pot : mg "Pot" = some (.ref (He.ga K "Pot")) := by
  obtain ⟨h, KX, G, c⟩ := T
  exact He.glo_ok KX G (c.t.d.fact 4 (f := .glo "Pot") rfl)
theorem g_longest_nest : mg "longest_nest" = some (.ref (He.ga K "longest_nest")) := by
  obtain ⟨h, KX, G, c⟩ := T
  exact He.glo_ok KX G (c.t.d.fact 5 (f := .glo "longest_nest") rfl)
theorem g_sets_of : mg "sets_of" = some (.ref (He.ga K "sets_of")) := by
  obtain ⟨h, KX, G, c⟩ := T
  exact He.glo_ok KX G (c.t.d.fact 6 (f := .glo "sets_of") rfl)
theorem g_Clay : mg "Clay" = some (.ref (He.ga K "Clay")) := by
  obtain ⟨h, KX, G, c⟩ := T
  exact He.glo_ok KX G (c.t.d.fact 7 (f := .glo "Clay") rfl)
theorem g_law_dice : mg "_law_dice" = some (.ref (He.ga K "_law_dice")) := by
  obtain ⟨h, KX, G, c⟩ := T
  exact He.glo_ok KX G (c.t.d.fact 8 (f := .glo "_law_dice") rfl)
theorem g_law_roll : mg "_law_roll" = some (.ref (He.ga K "_law_roll")) := by
  obtain ⟨h, KX, G, c⟩ := T
  exact He.glo_ok KX G (c.t.d.fact 9 (f := .glo "_law_roll") rfl)
theorem g_law_rounds : mg "_law_rounds" = some (.ref (He.ga K "_law_rounds")) := by
  obtain ⟨h, KX, G, c⟩ := T
  exact He.glo_ok KX G (c.t.d.fact 10 (f := .glo "_law_rounds") rfl)
theorem g_law_told : mg "_law_told" = some (.ref (He.ga K "_law_told")) := by
  obtain ⟨h, KX, G, c⟩ := T
  exact He.glo_ok KX G (c.t.d.fact 11 (f := .glo "_law_told") rfl)
theorem g_law_column : mg "_law_column" = some (.ref (He.ga K "_law_column")) := by
  obtain ⟨h, KX, G, c⟩ := T
  exact He.glo_ok KX G (c.t.d.fact 12 (f := .glo "_law_column") rfl)
theorem g_law_within : mg "_law_within" = some (.ref (He.ga K "_law_within")) := by
  obtain ⟨h, KX, G, c⟩ := T
  exact He.glo_ok KX G (c.t.d.fact 13 (f := .glo "_law_within") rfl)
theorem g_law_nests : mg "_law_nests" = some (.ref (He.ga K "_law_nests")) := by
  obtain ⟨h, KX, G, c⟩ := T
  exact He.glo_ok KX G (c.t.d.fact 14 (f := .glo "_law_nests") rfl)
theorem g_law : mg "law" = some (.ref (He.ga K "law")) := by
  obtain ⟨h, KX, G, c⟩ := T
  exact He.glo_ok KX G (c.t.d.fact 15 (f := .glo "law") rfl)
theorem i_MOST_RINGS : ∃ t, mg "MOST_RINGS" = some (.int 30 t) := by
  obtain ⟨h, KX, G, c⟩ := T
  exact He.int_ok KX G (c.t.d.fact 16 (f := .int "MOST_RINGS" 30) rfl)
theorem f_len : mg "len" = none := by
  obtain ⟨h, KX, G, c⟩ := T
  exact He.free_ok KX G (c.t.d.fact 17 (f := .free "len") rfl)
theorem f_any : mg "any" = none := by
  obtain ⟨h, KX, G, c⟩ := T
  exact He.free_ok KX G (c.t.d.fact 18 (f := .free "any") rfl)
theorem f_sum : mg "sum" = none := by
  obtain ⟨h, KX, G, c⟩ := T
  exact He.free_ok KX G (c.t.d.fact 19 (f := .free "sum") rfl)
theorem f_range : mg "range" = none := by
  obtain ⟨h, KX, G, c⟩ := T
  exact He.free_ok KX G (c.t.d.fact 20 (f := .free "range") rfl)
theorem f_min : mg "min" = none := by
  obtain ⟨h, KX, G, c⟩ := T
  exact He.free_ok KX G (c.t.d.fact 21 (f := .free "min") rfl)
theorem f_max : mg "max" = none := by
  obtain ⟨h, KX, G, c⟩ := T
  exact He.free_ok KX G (c.t.d.fact 22 (f := .free "max") rfl)
theorem f_abs : mg "abs" = none := by
  obtain ⟨h, KX, G, c⟩ := T
  exact He.free_ok KX G (c.t.d.fact 23 (f := .free "abs") rfl)
theorem f_int : mg "int" = none := by
  obtain ⟨h, KX, G, c⟩ := T
  exact He.free_ok KX G (c.t.d.fact 24 (f := .free "int") rfl)
theorem f_tuple : mg "tuple" = none := by
  obtain ⟨h, KX, G, c⟩ := T
  exact He.free_ok KX G (c.t.d.fact 25 (f := .free "tuple") rfl)
theorem f_enumerate : mg "enumerate" = none := by
  obtain ⟨h, KX, G, c⟩ := T
  exact He.free_ok KX G (c.t.d.fact 26 (f := .free "enumerate") rfl)
theorem f_str : mg "str" = none := by
  obtain ⟨h, KX, G, c⟩ := T
  exact He.free_ok KX G (c.t.d.fact 27 (f := .free "str") rfl)
theorem f_sorted : mg "sorted" = none := by
  obtain ⟨h, KX, G, c⟩ := T
  exact He.free_ok KX G (c.t.d.fact 28 (f := .free "sorted") rfl)
theorem f_list : mg "list" = none := by
  obtain ⟨h, KX, G, c⟩ := T
  exact He.free_ok KX G (c.t.d.fact 29 (f := .free "list") rfl)
theorem f_dict : mg "dict" = none := by
  obtain ⟨h, KX, G, c⟩ := T
  exact He.free_ok KX G (c.t.d.fact 30 (f := .free "dict") rfl)
theorem f_ValueError : mg "ValueError" = none := by
  obtain ⟨h, KX, G, c⟩ := T
  exact He.free_ok KX G (c.t.d.fact 31 (f := .free "ValueError") rfl)
theorem e_KilnError : PySem.W.excIn K (He.ga K "KilnError") He.veBase "ValueError.__new__" = true ∧ PySem.W.keepIn K (.ref (He.ga K "KilnError")) = true ∧ PySem.W.subIn K (.ref (He.ga K "KilnError")) (.type "BaseException") = some true ∧ PySem.W.typeIn K (.ref (He.ga K "KilnError")) = some (.type "type") := by
  obtain ⟨h, KX, G, c⟩ := T
  exact He.exc_ok (c.t.d.fact 32 (f := .exc "KilnError") rfl)
theorem e_ClayError : PySem.W.excIn K (He.ga K "ClayError") He.veBase "ValueError.__new__" = true ∧ PySem.W.keepIn K (.ref (He.ga K "ClayError")) = true ∧ PySem.W.subIn K (.ref (He.ga K "ClayError")) (.type "BaseException") = some true ∧ PySem.W.typeIn K (.ref (He.ga K "ClayError")) = some (.type "type") := by
  obtain ⟨h, KX, G, c⟩ := T
  exact He.exc_ok (c.t.d.fact 33 (f := .exc "ClayError") rfl)
theorem e_PotError : PySem.W.excIn K (He.ga K "PotError") He.veBase "ValueError.__new__" = true ∧ PySem.W.keepIn K (.ref (He.ga K "PotError")) = true ∧ PySem.W.subIn K (.ref (He.ga K "PotError")) (.type "BaseException") = some true ∧ PySem.W.typeIn K (.ref (He.ga K "PotError")) = some (.type "type") := by
  obtain ⟨h, KX, G, c⟩ := T
  exact He.exc_ok (c.t.d.fact 34 (f := .exc "PotError") rfl)
theorem c_Pot : Cls K (He.ga K "Pot") := by
  obtain ⟨h, KX, G, c⟩ := T
  exact He.cls_ok (c.t.d.fact 35 (f := .cls "Pot") rfl)
theorem k_Pot : Mk K (He.ga K "Pot") (He.ma K (He.ga K "Pot") "__init__") := by
  obtain ⟨h, KX, G, c⟩ := T
  exact He.mkr_ok (c.t.d.fact 36 (f := .mkr "Pot") rfl)
theorem n_Pot_name : NoAttr K (He.ga K "Pot") "name" := by
  obtain ⟨h, KX, G, c⟩ := T
  exact He.noat_ok (c.t.d.fact 37 (f := .noat "Pot" "name") rfl)
theorem n_Pot_rings : NoAttr K (He.ga K "Pot") "rings" := by
  obtain ⟨h, KX, G, c⟩ := T
  exact He.noat_ok (c.t.d.fact 38 (f := .noat "Pot" "rings") rfl)
theorem n_Pot_wall : NoAttr K (He.ga K "Pot") "wall" := by
  obtain ⟨h, KX, G, c⟩ := T
  exact He.noat_ok (c.t.d.fact 39 (f := .noat "Pot" "wall") rfl)
theorem n_Pot_clay : NoAttr K (He.ga K "Pot") "clay" := by
  obtain ⟨h, KX, G, c⟩ := T
  exact He.noat_ok (c.t.d.fact 40 (f := .noat "Pot" "clay") rfl)
theorem m_Pot_height : Meth K (He.ga K "Pot") "height" (He.ma K (He.ga K "Pot") "height") := by
  obtain ⟨h, KX, G, c⟩ := T
  exact He.meth_ok (c.t.d.fact 41 (f := .meth "Pot" "height") rfl)
theorem m_Pot_width : Meth K (He.ga K "Pot") "width" (He.ma K (He.ga K "Pot") "width") := by
  obtain ⟨h, KX, G, c⟩ := T
  exact He.meth_ok (c.t.d.fact 42 (f := .meth "Pot" "width") rfl)
theorem m_Pot_outside : Meth K (He.ga K "Pot") "outside" (He.ma K (He.ga K "Pot") "outside") := by
  obtain ⟨h, KX, G, c⟩ := T
  exact He.meth_ok (c.t.d.fact 43 (f := .meth "Pot" "outside") rfl)
theorem m_Pot_holds : Meth K (He.ga K "Pot") "holds" (He.ma K (He.ga K "Pot") "holds") := by
  obtain ⟨h, KX, G, c⟩ := T
  exact He.meth_ok (c.t.d.fact 44 (f := .meth "Pot" "holds") rfl)
theorem m_Pot_clay_room : Meth K (He.ga K "Pot") "clay_room" (He.ma K (He.ga K "Pot") "clay_room") := by
  obtain ⟨h, KX, G, c⟩ := T
  exact He.meth_ok (c.t.d.fact 45 (f := .meth "Pot" "clay_room") rfl)
theorem m_Pot_mouth : Meth K (He.ga K "Pot") "mouth" (He.ma K (He.ga K "Pot") "mouth") := by
  obtain ⟨h, KX, G, c⟩ := T
  exact He.meth_ok (c.t.d.fact 46 (f := .meth "Pot" "mouth") rfl)
theorem m_Pot_has_room_for : Meth K (He.ga K "Pot") "has_room_for" (He.ma K (He.ga K "Pot") "has_room_for") := by
  obtain ⟨h, KX, G, c⟩ := T
  exact He.meth_ok (c.t.d.fact 47 (f := .meth "Pot" "has_room_for") rfl)
theorem m_Pot_narrowest_from : Meth K (He.ga K "Pot") "narrowest_from" (He.ma K (He.ga K "Pot") "narrowest_from") := by
  obtain ⟨h, KX, G, c⟩ := T
  exact He.meth_ok (c.t.d.fact 48 (f := .meth "Pot" "narrowest_from") rfl)
theorem m_Pot_fired : Meth K (He.ga K "Pot") "fired" (He.ma K (He.ga K "Pot") "fired") := by
  obtain ⟨h, KX, G, c⟩ := T
  exact He.meth_ok (c.t.d.fact 49 (f := .meth "Pot" "fired") rfl)
theorem c_Clay : Cls K (He.ga K "Clay") := by
  obtain ⟨h, KX, G, c⟩ := T
  exact He.cls_ok (c.t.d.fact 50 (f := .cls "Clay") rfl)
theorem k_Clay : Mk K (He.ga K "Clay") (He.ma K (He.ga K "Clay") "__init__") := by
  obtain ⟨h, KX, G, c⟩ := T
  exact He.mkr_ok (c.t.d.fact 51 (f := .mkr "Clay") rfl)
theorem n_Clay_name : NoAttr K (He.ga K "Clay") "name" := by
  obtain ⟨h, KX, G, c⟩ := T
  exact He.noat_ok (c.t.d.fact 52 (f := .noat "Clay" "name") rfl)
theorem n_Clay_dries : NoAttr K (He.ga K "Clay") "dries" := by
  obtain ⟨h, KX, G, c⟩ := T
  exact He.noat_ok (c.t.d.fact 53 (f := .noat "Clay" "dries") rfl)
theorem n_Clay_fires : NoAttr K (He.ga K "Clay") "fires" := by
  obtain ⟨h, KX, G, c⟩ := T
  exact He.noat_ok (c.t.d.fact 54 (f := .noat "Clay" "fires") rfl)
theorem n_Clay_takes : NoAttr K (He.ga K "Clay") "takes" := by
  obtain ⟨h, KX, G, c⟩ := T
  exact He.noat_ok (c.t.d.fact 55 (f := .noat "Clay" "takes") rfl)
theorem m_Clay_dry : Meth K (He.ga K "Clay") "dry" (He.ma K (He.ga K "Clay") "dry") := by
  obtain ⟨h, KX, G, c⟩ := T
  exact He.meth_ok (c.t.d.fact 56 (f := .meth "Clay" "dry") rfl)
theorem m_Clay_fired : Meth K (He.ga K "Clay") "fired" (He.ma K (He.ga K "Clay") "fired") := by
  obtain ⟨h, KX, G, c⟩ := T
  exact He.meth_ok (c.t.d.fact 57 (f := .meth "Clay" "fired") rfl)
theorem m_Clay_wet_for : Meth K (He.ga K "Clay") "wet_for" (He.ma K (He.ga K "Clay") "wet_for") := by
  obtain ⟨h, KX, G, c⟩ := T
  exact He.meth_ok (c.t.d.fact 58 (f := .meth "Clay" "wet_for") rfl)
theorem m_Clay_lost : Meth K (He.ga K "Clay") "lost" (He.ma K (He.ga K "Clay") "lost") := by
  obtain ⟨h, KX, G, c⟩ := T
  exact He.meth_ok (c.t.d.fact 59 (f := .meth "Clay" "lost") rfl)
theorem x_KilnError_KilnError : PySem.W.exmOne K (.ref (He.ga K "KilnError")) (.ref (He.ga K "KilnError")) = some true := by
  obtain ⟨h, KX, G, c⟩ := T
  exact He.exm_ok (c.t.d.fact 60 (f := .exm "KilnError" "KilnError" true) rfl)
theorem x_KilnError_ClayError : PySem.W.exmOne K (.ref (He.ga K "KilnError")) (.ref (He.ga K "ClayError")) = some false := by
  obtain ⟨h, KX, G, c⟩ := T
  exact He.exm_ok (c.t.d.fact 61 (f := .exm "KilnError" "ClayError" false) rfl)
theorem x_KilnError_PotError : PySem.W.exmOne K (.ref (He.ga K "KilnError")) (.ref (He.ga K "PotError")) = some false := by
  obtain ⟨h, KX, G, c⟩ := T
  exact He.exm_ok (c.t.d.fact 62 (f := .exm "KilnError" "PotError" false) rfl)
theorem x_ClayError_KilnError : PySem.W.exmOne K (.ref (He.ga K "ClayError")) (.ref (He.ga K "KilnError")) = some true := by
  obtain ⟨h, KX, G, c⟩ := T
  exact He.exm_ok (c.t.d.fact 63 (f := .exm "ClayError" "KilnError" true) rfl)
theorem x_ClayError_ClayError : PySem.W.exmOne K (.ref (He.ga K "ClayError")) (.ref (He.ga K "ClayError")) = some true := by
  obtain ⟨h, KX, G, c⟩ := T
  exact He.exm_ok (c.t.d.fact 64 (f := .exm "ClayError" "ClayError" true) rfl)
theorem x_ClayError_PotError : PySem.W.exmOne K (.ref (He.ga K "ClayError")) (.ref (He.ga K "PotError")) = some false := by
  obtain ⟨h, KX, G, c⟩ := T
  exact He.exm_ok (c.t.d.fact 65 (f := .exm "ClayError" "PotError" false) rfl)
theorem x_PotError_KilnError : PySem.W.exmOne K (.ref (He.ga K "PotError")) (.ref (He.ga K "KilnError")) = some true := by
  obtain ⟨h, KX, G, c⟩ := T
  exact He.exm_ok (c.t.d.fact 66 (f := .exm "PotError" "KilnError" true) rfl)
theorem x_PotError_ClayError : PySem.W.exmOne K (.ref (He.ga K "PotError")) (.ref (He.ga K "ClayError")) = some false := by
  obtain ⟨h, KX, G, c⟩ := T
  exact He.exm_ok (c.t.d.fact 67 (f := .exm "PotError" "ClayError" false) rfl)
theorem x_PotError_PotError : PySem.W.exmOne K (.ref (He.ga K "PotError")) (.ref (He.ga K "PotError")) = some true := by
  obtain ⟨h, KX, G, c⟩ := T
  exact He.exm_ok (c.t.d.fact 68 (f := .exm "PotError" "PotError" true) rfl)
theorem ex_ok : ex K = true := by
  obtain ⟨h, KX, G, c⟩ := T
  exact c.more
theorem tabs_nd : (tabsOf K).Nodup := of_decide_eq_true (Bool.and_eq_true_iff.mp (ex_ok T)).2
theorem eq_of {C : Str} (hC : C ∈ ecl) : PySem.W.findIn K (.ref (He.ga K C)) "__eq__" = some (some (.builtin "object.__eq__")) := by
  have := List.all_eq_true.mp (Bool.and_eq_true_iff.mp (ex_ok T)).1 C hC
  unfold isObjEq at this
  split at this
  · rename_i x e
    rw [e, eq_of_beq this]
  · cases this
theorem eq_Pot : PySem.W.findIn K (.ref (He.ga K "Pot")) "__eq__" = some (some (.builtin "object.__eq__")) := eq_of T (by simp [ecl])
theorem eq_Clay : PySem.W.findIn K (.ref (He.ga K "Clay")) "__eq__" = some (some (.builtin "object.__eq__")) := eq_of T (by simp [ecl])
theorem D_wall : FnC K d_wall := by
  obtain ⟨h, KX, G, c⟩ := T
  exact fnC_of c.t.d (List.mem_of_getElem? (i := 0) rfl) rfl
theorem D_Pot_init : FnC K d_Pot_init := by
  obtain ⟨h, KX, G, c⟩ := T
  exact fnC_of c.t.d (List.mem_of_getElem? (i := 1) rfl) rfl
theorem D_Pot_height : FnC K d_Pot_height := by
  obtain ⟨h, KX, G, c⟩ := T
  exact fnC_of c.t.d (List.mem_of_getElem? (i := 2) rfl) rfl
theorem D_Pot_width : FnC K d_Pot_width := by
  obtain ⟨h, KX, G, c⟩ := T
  exact fnC_of c.t.d (List.mem_of_getElem? (i := 3) rfl) rfl
theorem D_Pot_outside : FnC K d_Pot_outside := by
  obtain ⟨h, KX, G, c⟩ := T
  exact fnC_of c.t.d (List.mem_of_getElem? (i := 4) rfl) rfl
theorem D_Pot_holds : FnC K d_Pot_holds := by
  obtain ⟨h, KX, G, c⟩ := T
  exact fnC_of c.t.d (List.mem_of_getElem? (i := 5) rfl) rfl
theorem D_Pot_clay_room : FnC K d_Pot_clay_room := by
  obtain ⟨h, KX, G, c⟩ := T
  exact fnC_of c.t.d (List.mem_of_getElem? (i := 6) rfl) rfl
theorem D_Pot_mouth : FnC K d_Pot_mouth := by
  obtain ⟨h, KX, G, c⟩ := T
  exact fnC_of c.t.d (List.mem_of_getElem? (i := 7) rfl) rfl
theorem D_Pot_has_room_for : FnC K d_Pot_has_room_for := by
  obtain ⟨h, KX, G, c⟩ := T
  exact fnC_of c.t.d (List.mem_of_getElem? (i := 8) rfl) rfl
theorem D_Pot_narrowest_from : FnC K d_Pot_narrowest_from := by
  obtain ⟨h, KX, G, c⟩ := T
  exact fnC_of c.t.d (List.mem_of_getElem? (i := 9) rfl) rfl
theorem D_Pot_fired : FnC K d_Pot_fired := by
  obtain ⟨h, KX, G, c⟩ := T
  exact fnC_of c.t.d (List.mem_of_getElem? (i := 10) rfl) rfl
theorem D_longest_nest : FnC K d_longest_nest := by
  obtain ⟨h, KX, G, c⟩ := T
  exact fnC_of c.t.d (List.mem_of_getElem? (i := 11) rfl) rfl
theorem D_sets_of : FnC K d_sets_of := by
  obtain ⟨h, KX, G, c⟩ := T
  exact fnC_of c.t.d (List.mem_of_getElem? (i := 12) rfl) rfl
theorem D_Clay_init : FnC K d_Clay_init := by
  obtain ⟨h, KX, G, c⟩ := T
  exact fnC_of c.t.d (List.mem_of_getElem? (i := 13) rfl) rfl
theorem D_Clay_dry : FnC K d_Clay_dry := by
  obtain ⟨h, KX, G, c⟩ := T
  exact fnC_of c.t.d (List.mem_of_getElem? (i := 14) rfl) rfl
theorem D_Clay_fired : FnC K d_Clay_fired := by
  obtain ⟨h, KX, G, c⟩ := T
  exact fnC_of c.t.d (List.mem_of_getElem? (i := 15) rfl) rfl
theorem D_Clay_wet_for : FnC K d_Clay_wet_for := by
  obtain ⟨h, KX, G, c⟩ := T
  exact fnC_of c.t.d (List.mem_of_getElem? (i := 16) rfl) rfl
theorem D_Clay_lost : FnC K d_Clay_lost := by
  obtain ⟨h, KX, G, c⟩ := T
  exact fnC_of c.t.d (List.mem_of_getElem? (i := 17) rfl) rfl
theorem D_law_dice : FnC K d_law_dice := by
  obtain ⟨h, KX, G, c⟩ := T
  exact fnC_of c.t.d (List.mem_of_getElem? (i := 18) rfl) rfl
theorem D_law_roll : FnC K d_law_roll := by
  obtain ⟨h, KX, G, c⟩ := T
  exact fnC_of c.t.d (List.mem_of_getElem? (i := 19) rfl) rfl
theorem D_law_rounds : FnC K d_law_rounds := by
  obtain ⟨h, KX, G, c⟩ := T
  exact fnC_of c.t.d (List.mem_of_getElem? (i := 20) rfl) rfl
theorem D_law_told : FnC K d_law_told := by
  obtain ⟨h, KX, G, c⟩ := T
  exact fnC_of c.t.d (List.mem_of_getElem? (i := 21) rfl) rfl
theorem D_law_column : FnC K d_law_column := by
  obtain ⟨h, KX, G, c⟩ := T
  exact fnC_of c.t.d (List.mem_of_getElem? (i := 22) rfl) rfl
theorem D_law_within : FnC K d_law_within := by
  obtain ⟨h, KX, G, c⟩ := T
  exact fnC_of c.t.d (List.mem_of_getElem? (i := 23) rfl) rfl
theorem D_law_nests : FnC K d_law_nests := by
  obtain ⟨h, KX, G, c⟩ := T
  exact fnC_of c.t.d (List.mem_of_getElem? (i := 24) rfl) rfl
theorem D_law : FnC K d_law := by
  obtain ⟨h, KX, G, c⟩ := T
  exact fnC_of c.t.d (List.mem_of_getElem? (i := 25) rfl) rfl
end
/-- the tables of the defs with generator expressions, but the law -/
def tfg : List He.Defn := [("Pot", some "__init__"), ("Pot", some "height"), ("Pot", some "width"), ("Pot", some "outside"), ("Pot", some "mouth"), ("sets_of", none)]
structure TGs (base : Heap) (mg : Str → Option Value) (K : PySem.W.Frag) (G : List Addr) : Prop where
  tb : ∀ p ∈ tfg, GxR.TabB base mg (He.cT K p).1 (He.cT K p).2
  mem : ∀ p ∈ tfg, (He.cT K p).2 ∈ G
end KH

set_option Elab.async false
set_option linter.all false
set_option maxRecDepth 100000
set_option maxHeartbeats 1000000
namespace KH
open PySem PySem.Spec PyProof.Rows L2 TP DkL
abbrev aErr (K : PySem.W.Frag) : Addr := He.ga K "PotError"
/-! ### a clay -/
structure ClayV where
  name : Str
  dries : Int
  fires : Int
  takes : Int
abbrev aClay (K : PySem.W.Frag) : Addr := He.ga K "Clay"
abbrev aClayE (K : PySem.W.Frag) : Addr := He.ga K "ClayError"
def rClay (K : PySem.W.Frag) : Rp ClayV := ⟨fun H v c => ∃ p dx, v = .ref p ∧ H p = some (.ins (aClay K) dx [("name", .str c.name), ("dries", .int c.dries), ("fires", .int c.fires), ("takes", .int c.takes)]), fun k ⟨p, dx, e, h⟩ => ⟨p, dx, e, k _ _ h⟩⟩
theorem h_Clay_name {K} : HasF (rClay K) (aClay K) "name" rStr ClayV.name := fun _ _ _ ⟨p, dx, e, h⟩ => ⟨p, dx, _, _, e, h, rfl, rfl⟩
theorem h_Clay_dries {K} : HasF (rClay K) (aClay K) "dries" rInt ClayV.dries := fun _ _ _ ⟨p, dx, e, h⟩ => ⟨p, dx, _, _, e, h, rfl, rfl⟩
theorem h_Clay_fires {K} : HasF (rClay K) (aClay K) "fires" rInt ClayV.fires := fun _ _ _ ⟨p, dx, e, h⟩ => ⟨p, dx, _, _, e, h, rfl, rfl⟩
theorem h_Clay_takes {K} : HasF (rClay K) (aClay K) "takes" rInt ClayV.takes := fun _ _ _ ⟨p, dx, e, h⟩ => ⟨p, dx, _, _, e, h, rfl, rfl⟩
theorem clay_obj {K} {m : Str} (h : ∀ a b c d : V, ([("name", a), ("dries", b), ("fires", c), ("takes", d)] : List (Str × V)).lookup m = none) : IsObj (rClay K) (aClay K) m := fun _ _ c ⟨p, dx, e, hp⟩ => ⟨p, dx, _, e, hp, h _ _ _ _⟩
theorem o_Clay_fired {K} : IsObj (rClay K) (aClay K) "fired" := clay_obj fun _ _ _ _ => rfl
section
variable {P : Program} {w : World} {K : PySem.W.Frag} {mg : Str → Option Value} {base : Heap} {G : List Addr}
/-! ### Clay(..) -/
abbrev InI := Str × Int × Int × Int
def badN (d f t : Int) : Bool := decide (min (min d f) t < 0) || decide (500 < max (max d f) t)
def A_init (K : PySem.W.Frag) : Ans InI ClayV := ⟨fun _ => True, fun x => badN x.2.1 x.2.2.1 x.2.2.2, fun _ => aClayE K, fun x => ⟨x.1, x.2.1, x.2.2.1, x.2.2.2⟩⟩
abbrev ds_init (x : InI) : List Dy := [⟨rStr, x.1⟩, ⟨rInt, x.2.1⟩, ⟨rInt, x.2.2.1⟩, ⟨rInt, x.2.2.2⟩]
theorem sc_Clay_init : FnScope ["self", "name", "dries", "fires", "takes"] ["self", "name", "dries", "fires", "takes"] d_Clay_init.scope := C8.fnScope_by (by decide +kernel)
theorem b_Clay_init {w : World} {K : PySem.W.Frag} {mg : Str → Option Value} (T : Top w K mg) : Binds K (fdOf K d_Clay_init.at_) ["self", "name", "dries", "fires", "takes"] [] := (D_Clay_init T).binds (fun _ _ _ _ _ _ us hl => match us, hl with | [_, _, _, _, _], _ => rfl)
theorem ok_Clay_init (T : Top w K mg) : Kp P w K mg base 1 d_Clay_init ["self", "name", "dries", "fires", "takes"] (spBI G (aClay K) (A_init K) ds_init (rClay K)) := by
  refine (D_Clay_init T).ok sc_Clay_init (spI_len fun _ => rfl) fun A outer s H vs Q E hr hsp => ⟨_, (pss_cons (ps_if (PW.pt (pw_or (pt_cmpR op_lt (pe_callB (call_min3Nu rfl) rfl (f_min T) (by decide +kernel) (pa_cons (pv 2) (pa_cons (pv 3) (pa_cons (pv 4) pa_nil)))) pe_int (nomark _)) (pw_or1 (pt_cmpR op_gt (pe_callB (call_max3Nu rfl) rfl (f_max T) (by decide +kernel) (pa_cons (pv 2) (pa_cons (pv 3) (pa_cons (pv 4) pa_nil)))) pe_int (nomark _))))) (pss_one (ps_own (e_ClayError T) (g_ClayError T) (takes_of rfl rfl rfl rfl) rfl)) pss_nil) (pss_cons (ps_fld (pv 0) (pv 1) rfl) (pss_cons (ps_fld (pv 0) (pv 2) rfl) (pss_cons (ps_fld (pv 0) (pv 3) rfl) (pss_one (ps_fld (pv 0) (pv 4) rfl)))))), ?_⟩
  refine inBI (n := 0) (k := 4) hsp (fun _ => rfl) rfl fun F x p hG hO hp hok her => ?_
  obtain ⟨nm, d, f, t⟩ := x
  refine s_seq (s_if (t_or (t_of (e_lt (e_min3 (a_cons (e_var rfl) (a_cons (e_var rfl) (a_cons (e_var rfl) a_nil)))) e_int)) (fun _ => (t_of (e_gt (e_max3 (a_cons (e_var rfl) (a_cons (e_var rfl) (a_cons (e_var rfl) a_nil)))) e_int)))) (fun h => s_raise (her h)) (fun h => s_next ?_))
  refine s_seq (s_fld (c_Clay T) (n_Clay_name T) rfl (e_var rfl) (by simp) (by simp) ?_)
  refine s_seq (s_fld (c_Clay T) (n_Clay_dries T) rfl (e_var rfl) (by simp <;> decide) (by simp) ?_)
  refine s_seq (s_fld (c_Clay T) (n_Clay_fires T) rfl (e_var rfl) (by simp <;> decide) (by simp) ?_)
  refine s_fld (c_Clay T) (n_Clay_takes T) rfl (e_var rfl) (by simp <;> decide) (by simp) ?_
  refine s_initEnd (i := 0) hO rfl (fun h dx vs hp a => ?_) (hok h)
  cases a with
  | cons a1 a => cases a with
    | cons a2 a => cases a with
      | cons a3 a => cases a with
        | cons a4 a =>
          cases a
          rename_i q1 q2 q3 q4
          obtain ⟨n1, v1⟩ := q1
          obtain ⟨n2, v2⟩ := q2
          obtain ⟨n3, v3⟩ := q3
          obtain ⟨n4, v4⟩ := q4
          obtain ⟨e1, r1⟩ := a1
          obtain ⟨e2, r2⟩ := a2
          obtain ⟨e3, r3⟩ := a3
          obtain ⟨e4, r4⟩ := a4
          have e1 : n1 = "name" := e1
          have e2 : n2 = "dries" := e2
          have e3 : n3 = "fires" := e3
          have e4 : n4 = "takes" := e4
          have r1 : v1 = V.str nm := r1
          have r2 : v2 = V.int d := r2
          have r3 : v3 = V.int f := r3
          have r4 : v4 = V.int t := r4
          subst e1 e2 e3 e4 r1 r2 r3 r4
          exact ⟨p, dx, rfl, hp⟩
/-! ### dry, fired, wet_for, lost -/
def goodC (c : ClayV) : Prop := 0 ≤ c.dries ∧ c.dries ≤ 500 ∧ 0 ≤ c.fires ∧ c.fires ≤ 500 ∧ 0 ≤ c.takes ∧ c.takes ≤ 500
abbrev ds_CI (K : PySem.W.Frag) (x : ClayV × Int) : List Dy := [⟨rClay K, x.1⟩, ⟨rInt, x.2⟩]
def mFired (c : ClayV) (l : Int) : Int := (2 * l * (1000 - c.dries) * (1000 - c.fires) + 1000000) / 2000000
def A_fired (K : PySem.W.Frag) : Ans (ClayV × Int) Int := ⟨fun x => goodC x.1, fun x => decide (x.2 < 0), fun _ => aClayE K, fun x => mFired x.1 x.2⟩
theorem sc_Clay_fired : FnScope ["self", "length"] ["self", "length"] d_Clay_fired.scope := C8.fnScope_by (by decide +kernel)
theorem b_Clay_fired {w : World} {K : PySem.W.Frag} {mg : Str → Option Value} (T : Top w K mg) : Binds K (fdOf K d_Clay_fired.at_) ["self", "length"] [] := (D_Clay_fired T).binds (fun _ _ _ _ _ _ us hl => match us, hl with | [_, _], _ => rfl)
theorem ok_Clay_fired (T : Top w K mg) : Kp P w K mg base 1 d_Clay_fired ["self", "length"] (spB G (A_fired K) (ds_CI K) rInt) := by
  refine (D_Clay_fired T).ok sc_Clay_fired (spF_len fun _ => rfl) fun A outer s H vs Q E hr hsp => ⟨_, (pss_cons (ps_if (pt_cmpR op_lt (pv 1) pe_int (nomark _)) (pss_one (ps_own (e_ClayError T) (g_ClayError T) (takes_of rfl rfl rfl rfl) rfl)) pss_nil) (pss_one (ps_ret (pe_op op_fdiv (pe_op op_add (pe_op op_mul (pe_op op_mul (pe_op op_mul pe_int (pv 1)) (pe_op op_sub pe_int (pe_fldK (K := K) rfl (pv 0) rfl))) (pe_op op_sub pe_int (pe_fldK (K := K) rfl (pv 0) rfl))) pe_int) pe_int)))), ?_⟩
  refine inB (n := 0) (k := 2) hsp (fun _ => rfl) rfl fun F x hG hO hp hok her => ?_
  obtain ⟨c, l⟩ := x
  obtain ⟨h1, h2, h3, h4, h5, h6⟩ := (show goodC c from hp)
  refine s_seq (s_if (t_of (e_lt (e_var rfl) e_int)) (fun h => s_raise (her h)) (fun h => s_next (s_ret (e_fdiv (e_add (e_mul (e_mul (e_mul e_int (e_var rfl) ?_) (e_sub e_int (e_fld (c_Clay T) (n_Clay_dries T) h_Clay_dries (e_var rfl))) ?_) (e_sub e_int (e_fld (c_Clay T) (n_Clay_fires T) h_Clay_fires (e_var rfl))) ?_) e_int) e_int ?_) (hok h))))
  all_goals (first | (unfold CMul; (try dsimp only); first | (left; constructor <;> omega) | (right; constructor <;> omega)) | (unfold CDiv; (try dsimp only); constructor <;> omega))
/-! ### a pot -/
abbrev Rg := Int × Int
abbrev PotV := Str × List Rg × Int × ClayV
abbrev rRg : Rp Rg := rT2 rInt rInt
abbrev aPot (K : PySem.W.Frag) : Addr := He.ga K "Pot"
def rPot (K : PySem.W.Frag) : Rp PotV := ⟨fun H v s => ∃ p dx a b c d, v = .ref p ∧ H p = some (.ins (aPot K) dx [("name", a), ("rings", b), ("wall", c), ("clay", d)]) ∧ rStr.rep H a s.1 ∧ (rTup rRg).rep H b s.2.1 ∧ rInt.rep H c s.2.2.1 ∧ (rClay K).rep H d s.2.2.2,
  fun k ⟨p, dx, a, b, c, d, e, h, r1, r2, r3, r4⟩ => ⟨p, dx, a, b, c, d, e, k _ _ h, rStr.mono k r1, (rTup rRg).mono k r2, rInt.mono k r3, (rClay K).mono k r4⟩⟩
theorem h_Pot_name {K} : HasF (rPot K) (aPot K) "name" rStr (fun s => s.1) := fun _ _ _ ⟨p, dx, a, b, c, d, e, h, r1, r2, r3, r4⟩ => ⟨p, dx, _, _, e, h, rfl, r1⟩
theorem h_Pot_rings {K} : HasF (rPot K) (aPot K) "rings" (rTup rRg) (fun s => s.2.1) := fun _ _ _ ⟨p, dx, a, b, c, d, e, h, r1, r2, r3, r4⟩ => ⟨p, dx, _, _, e, h, rfl, r2⟩
theorem h_Pot_wall {K} : HasF (rPot K) (aPot K) "wall" rInt (fun s => s.2.2.1) := fun _ _ _ ⟨p, dx, a, b, c, d, e, h, r1, r2, r3, r4⟩ => ⟨p, dx, _, _, e, h, rfl, r3⟩
theorem h_Pot_clay {K} : HasF (rPot K) (aPot K) "clay" (rClay K) (fun s => s.2.2.2) := fun _ _ _ ⟨p, dx, a, b, c, d, e, h, r1, r2, r3, r4⟩ => ⟨p, dx, _, _, e, h, rfl, r4⟩
theorem pot_obj {K} {m : Str} (h : ∀ a b c d : V, ([("name", a), ("rings", b), ("wall", c), ("clay", d)] : List (Str × V)).lookup m = none) : IsObj (rPot K) (aPot K) m := fun _ _ s ⟨p, dx, a, b, c, d, e, hp, _⟩ => ⟨p, dx, _, e, hp, h _ _ _ _⟩
theorem o_Pot_height {K} : IsObj (rPot K) (aPot K) "height" := pot_obj fun _ _ _ _ => rfl
theorem o_Pot_width {K} : IsObj (rPot K) (aPot K) "width" := pot_obj fun _ _ _ _ => rfl
theorem o_Pot_outside {K} : IsObj (rPot K) (aPot K) "outside" := pot_obj fun _ _ _ _ => rfl
theorem o_Pot_holds {K} : IsObj (rPot K) (aPot K) "holds" := pot_obj fun _ _ _ _ => rfl
theorem o_Pot_clay_room {K} : IsObj (rPot K) (aPot K) "clay_room" := pot_obj fun _ _ _ _ => rfl
theorem o_Pot_mouth {K} : IsObj (rPot K) (aPot K) "mouth" := pot_obj fun _ _ _ _ => rfl
theorem o_Pot_has_room_for {K} : IsObj (rPot K) (aPot K) "has_room_for" := pot_obj fun _ _ _ _ => rfl
theorem o_Pot_narrowest_from {K} : IsObj (rPot K) (aPot K) "narrowest_from" := pot_obj fun _ _ _ _ => rfl
theorem o_Pot_fired {K} : IsObj (rPot K) (aPot K) "fired" := pot_obj fun _ _ _ _ => rfl
def badP1 (r : List Rg) (wl : Int) : Bool := (!(decide (0 < (r.length : Int)) && decide ((r.length : Int) ≤ 30))) || decide (wl < 1)
def badP2 (r : List Rg) (wl : Int) : Bool := r.any fun x => decide (x.2 < 1) || decide (x.1 ≤ wl)
def badP3 (r : List Rg) (wl : Int) : Bool := decide ((r.getD 0 (0, 0)).2 < wl)
def badPt (r : List Rg) (wl : Int) : Bool := badP1 r wl || (badP2 r wl || badP3 r wl)
def A_pinit (K : PySem.W.Frag) : Ans PotV PotV := ⟨fun s => s.2.1.length ≤ 1000, fun s => badPt s.2.1 s.2.2.1, fun _ => aErr K, fun s => s⟩
abbrev ds_pinit (K : PySem.W.Frag) (s : PotV) : List Dy := [⟨rStr, s.1⟩, ⟨rList rRg, s.2.1⟩, ⟨rInt, s.2.2.1⟩, ⟨rClay K, s.2.2.2⟩]
theorem sc_Pot_init : FnScope ["self", "name", "rings", "wall", "clay", "radius", "high"] ["self", "name", "rings", "wall", "clay"] d_Pot_init.scope := C8.fnScope_by (by decide +kernel)
theorem b_Pot_init {w : World} {K : PySem.W.Frag} {mg : Str → Option Value} (T : Top w K mg) : Binds K (fdOf K d_Pot_init.at_) ["self", "name", "rings", "wall", "clay"] [] := (D_Pot_init T).binds (fun _ _ _ _ _ _ us hl => match us, hl with | [_, _, _, _, _], _ => rfl)
theorem ok_Pot_init (T : Top w K mg) (TG : TGs base mg K G) : Kp P w K mg base 10 d_Pot_init ["self", "name", "rings", "wall", "clay"] (spBI G (aPot K) (A_pinit K) (ds_pinit K) (rPot K)) := by
  have TB := TG.tb ("Pot", some "__init__") (by simp [tfg])
  have hP := TG.mem ("Pot", some "__init__") (by simp [tfg])
  refine (D_Pot_init T).ok sc_Pot_init (spI_len fun _ => rfl) fun A outer s H vs Q E hr hsp => ⟨_, (pss_cons (ps_fld (pv 0) (pv 1) rfl) (pss_cons (ps_fld (pv 0) (GX.pe_tupG (own := [("radius", 5), ("high", 6)]) ⟨hr.mono (show 1 + 8 ≤ 9 by decide), sc_Pot_init.nd, TB, rfl, GX.gsc_by (by kernel_rfl), (pi_listK (K := K) rfl (pv 2)), fun _ _ _ _ _ _ => (pg_tupK (K := K) (n := 2) rfl rfl (pgs_cons (pg_name (i := 5) sc_Pot_init.nd rfl (by first | exact Or.inl rfl | exact Or.inr rfl)) (pgs_cons (pg_name (i := 6) sc_Pot_init.nd rfl (by first | exact Or.inl rfl | exact Or.inr rfl)) pgs_nil))), fun _ _ _ _ _ _ hg1 => pts_nil, fun _ _ _ _ _ _ hg1 => (pe_tup (pa_cons (pv 5) (pa_cons (pv 6) pa_nil))), fun _ => rfl⟩ rfl (f_tuple T)) rfl) (pss_cons (ps_fld (pv 0) (pv 3) rfl) (pss_cons (ps_fld (pv 0) (pv 4) rfl) (pss_cons (ps_if (PW.pt (pw_or (pt_not (pt_chain op_lt op_le pe_int (pe_callB (call_len_seqK (K := K) rfl) rfl (f_len T) (by decide +kernel) (pa_cons (pe_fldK (K := K) rfl (pv 0) rfl) pa_nil)) (pe_globI rfl (i_MOST_RINGS T)))) (pw_or1 (pt_cmpR op_lt (pv 3) pe_int (nomark _))))) (pss_one (ps_own (e_PotError T) (g_PotError T) (takes_of rfl rfl rfl rfl) rfl)) pss_nil) (pss_cons (ps_if (pt_val (GX.pe_anyG (own := [("radius", 5), ("high", 6)]) ⟨hr.mono (show 1 + 8 ≤ 9 by decide), sc_Pot_init.nd, TB, rfl, GX.gsc_by (by kernel_rfl), (pi_tupK (K := K) rfl (pe_fldK (K := K) rfl (pv 0) rfl)), fun _ _ _ _ _ _ => (pg_tupK (K := K) (n := 2) rfl rfl (pgs_cons (pg_name (i := 5) sc_Pot_init.nd rfl (by first | exact Or.inl rfl | exact Or.inr rfl)) (pgs_cons (pg_name (i := 6) sc_Pot_init.nd rfl (by first | exact Or.inl rfl | exact Or.inr rfl)) pgs_nil))), fun _ _ _ _ _ _ hg2 => pts_nil, fun _ _ _ _ _ _ hg2 => (pe_or (pe_cmpR op_lt (pv 6) pe_int (nomark _)) (pe_one (pe_cmpR op_le (pv 5) (pv 3) (nomark _)))), fun _ => rfl⟩ rfl (f_any T))) (pss_one (ps_own (e_PotError T) (g_PotError T) (takes_of rfl rfl rfl rfl) rfl)) pss_nil) (pss_one (ps_if (pt_cmpR op_gt (pv 3) (pe_ix (ix_tupK (K := K) rfl) (pe_ix (ix_tupK (K := K) rfl) (pe_fldK (K := K) rfl (pv 0) rfl) pe_int (fun _ _ => rfl)) pe_int (fun _ _ => rfl)) (nomark _)) (pss_one (ps_own (e_PotError T) (g_PotError T) (takes_of rfl rfl rfl rfl) rfl)) pss_nil)))))))), ?_⟩
  refine inBI (n := 2) (k := 4) hsp (fun _ => rfl) rfl fun F x p hG hO hp hok her => ?_
  subst hG
  obtain ⟨nm, r, wl, cl⟩ := x
  have hl : r.length ≤ 1000 := hp
  refine s_seq (s_fld (c_Pot T) (n_Pot_name T) rfl (e_var rfl) (by simp) (by simp) ?_)
  (refine s_le (Le.refl _) ?_; try dsimp only [List.set, ctx0, List.map, List.replicate, List.nil_append, List.cons_append, putC, List.zip, List.zipWith])
  refine s_seq (s_fld (c_Pot T) (n_Pot_rings T) rfl (e_is (x' := r) (e_tupT0 hP (src_list (e_var rfl)) ?_ (noAll_of rfl) (fun x1 hx1 => (tg_t2 (tg_name (plain1 rfl)) (tg_name (plain1 rfl)))) (by decide) (fun x1 => ⟨plAll_of rfl, rfl⟩) (fun x1 hx1 => (e_t2 (a_cons (e_var rfl) (a_cons (e_var rfl) a_nil))))) ?_) (by simp; decide) (by simp) ?_)
  · show r.length ≤ 100000
    omega
  · exact List.map_id' _
  (refine s_le (Le.refl _) ?_; try dsimp only [List.set, ctx0, List.map, List.replicate, List.nil_append, List.cons_append, putC, List.zip, List.zipWith])
  refine s_seq (s_fld (c_Pot T) (n_Pot_wall T) rfl (e_var rfl) (by simp; decide) (by simp) ?_)
  (refine s_le (Le.refl _) ?_; try dsimp only [List.set, ctx0, List.map, List.replicate, List.nil_append, List.cons_append, putC, List.zip, List.zipWith])
  refine s_seq (s_fld (c_Pot T) (n_Pot_clay T) rfl (e_var rfl) (by simp; decide) (by simp) ?_)
  (refine s_le (Le.refl _) ?_; try dsimp only [List.set, ctx0, List.map, List.replicate, List.nil_append, List.cons_append, putC, List.zip, List.zipWith])
  refine s_seq (s_if (t_or (t_not (t_of (e_chain e_int (e_lenT (a_cons (e_fldO (c_Pot T) (n_Pot_rings T) rfl rfl) a_nil)) op_ltI (fun _ => e_int) op_leI))) (fun _ => (t_of (e_lt (e_var rfl) e_int)))) (fun h => s_raise (her ?_)) (fun h => s_next ?_))
  · show badPt r wl = true
    unfold badPt
    rw [show badP1 r wl = true from h]; rfl
  have h1 : badP1 r wl = false := h
  (refine s_le (Le.refl _) ?_; try dsimp only [List.set, ctx0, List.map, List.replicate, List.nil_append, List.cons_append, putC, List.zip, List.zipWith])
  refine s_seq (s_if (t_B (e_anyT0 hP (src_tup (e_fldO (c_Pot T) (n_Pot_rings T) rfl rfl)) ?_ (noAll_of rfl) (fun x2 hx2 => (tg_t2 (tg_name (plain1 rfl)) (tg_name (plain1 rfl)))) (by decide) (fun x2 => ⟨plAll_of rfl, rfl⟩) (fun x2 hx2 => (e_or (e_lt (e_var rfl) e_int) (fun _ => (e_le (e_var rfl) (e_var rfl))))))) (fun h => s_raise (her ?_)) (fun h => s_next ?_))
  · show r.length ≤ 100000
    omega
  · show badPt r wl = true
    unfold badPt
    rw [h1, show badP2 r wl = true from h]; rfl
  have h2 : badP2 r wl = false := h
  have hne : 0 < (r.length : Int) ∧ (r.length : Int) ≤ 30 := by
    have h1' := h1
    unfold badP1 at h1'
    rw [Bool.or_eq_false_iff] at h1'
    have h3 := h1'.1
    simp at h3
    omega
  (refine s_le (Le.refl _) ?_; try dsimp only [List.set, ctx0, List.map, List.replicate, List.nil_append, List.cons_append, putC, List.zip, List.zipWith])
  refine s_if (t_of (e_gt (e_var rfl) (e_21 (e_ixTd (d := (0,0)) (e_fldO (c_Pot T) (n_Pot_rings T) rfl rfl) e_int ?_)))) (fun h => s_raise (her ?_)) (fun h => s_next ?_)
  · exact ⟨by decide, hne.1⟩
  · show badPt r wl = true
    unfold badPt
    rw [h1, h2]
    exact h
  have h3 : badP3 r wl = false := h
  refine s_initEnd (i := 0) hO rfl (fun h dx vs hp a => ?_) (hok (by show badPt r wl = false; unfold badPt; rw [h1, h2, h3]; rfl))
  cases a with
  | cons a1 a =>
  cases a with
  | cons a2 a =>
  cases a with
  | cons a3 a =>
  cases a with
  | cons a4 a =>
  cases a
  rename_i q1 q2 q3 q4
  obtain ⟨n1, v1⟩ := q1
  obtain ⟨n2, v2⟩ := q2
  obtain ⟨n3, v3⟩ := q3
  obtain ⟨n4, v4⟩ := q4
  obtain ⟨e1, r1⟩ := a1
  obtain ⟨e2, r2⟩ := a2
  obtain ⟨e3, r3⟩ := a3
  obtain ⟨e4, r4⟩ := a4
  have e1 : n1 = "name" := e1
  have e2 : n2 = "rings" := e2
  have e3 : n3 = "wall" := e3
  have e4 : n4 = "clay" := e4
  subst e1 e2 e3 e4
  exact ⟨p, dx, v1, v2, v3, v4, rfl, hp, r1, r2, r3, r4⟩
/-! ### what a pot is -/
def goodPt (p : PotV) : Prop := p.2.1 ≠ [] ∧ p.2.1.length ≤ 30 ∧ (∀ x ∈ p.2.1, 1 ≤ x.2 ∧ x.2 ≤ 1000 ∧ p.2.2.1 < x.1 ∧ x.1 ≤ 1000) ∧ 1 ≤ p.2.2.1 ∧ p.2.2.1 ≤ (p.2.1.getD 0 (0, 0)).2 ∧ goodC p.2.2.2
def mHeight (p : PotV) : Int := (p.2.1.map fun x => x.2).sum
def mWidth (p : PotV) : Int := 2 * maxL (p.2.1.map fun x => x.1)
def mOut (p : PotV) : Int := (p.2.1.map fun x => x.1 * x.1 * x.2).sum
def mMouth (p : PotV) : Int := minL (p.2.1.map fun x => x.1 - p.2.2.1)
abbrev ds_P (K : PySem.W.Frag) (p : PotV) : List Dy := [⟨rPot K, p⟩]
def A_height (K : PySem.W.Frag) : Ans PotV Int := ⟨goodPt, fun _ => false, fun _ => aErr K, mHeight⟩
def A_width (K : PySem.W.Frag) : Ans PotV Int := ⟨goodPt, fun _ => false, fun _ => aErr K, mWidth⟩
def A_outside (K : PySem.W.Frag) : Ans PotV Int := ⟨goodPt, fun _ => false, fun _ => aErr K, mOut⟩
def A_mouth (K : PySem.W.Frag) : Ans PotV Int := ⟨goodPt, fun _ => false, fun _ => aErr K, mMouth⟩
theorem sc_Pot_height : FnScope ["self", "radius", "high"] ["self"] d_Pot_height.scope := C8.fnScope_by (by decide +kernel)
theorem b_Pot_height {w : World} {K : PySem.W.Frag} {mg : Str → Option Value} (T : Top w K mg) : Binds K (fdOf K d_Pot_height.at_) ["self"] [] := (D_Pot_height T).binds (fun _ _ _ _ _ _ us hl => match us, hl with | [_], _ => rfl)
theorem ok_Pot_height (T : Top w K mg) (TG : TGs base mg K G) : Kp P w K mg base 10 d_Pot_height ["self"] (spB G (A_height K) (ds_P K) rInt) := by
  have TB := TG.tb ("Pot", some "height") (by simp [tfg])
  have hP := TG.mem ("Pot", some "height") (by simp [tfg])
  refine (D_Pot_height T).ok sc_Pot_height (spF_len fun _ => rfl) fun A outer s H vs Q E hr hsp => ⟨_, (pss_one (ps_ret (GX.pe_sumG (own := [("radius", 1), ("high", 2)]) ⟨hr.mono (show 1 + 8 ≤ 9 by decide), sc_Pot_height.nd, TB, rfl, GX.gsc_by (by kernel_rfl), (pi_tupK (K := K) rfl (pe_fldK (K := K) rfl (pv 0) rfl)), fun _ _ _ _ _ _ => (pg_tupK (K := K) (n := 2) rfl rfl (pgs_cons (pg_name (i := 1) sc_Pot_height.nd rfl (by first | exact Or.inl rfl | exact Or.inr rfl)) (pgs_cons (pg_name (i := 2) sc_Pot_height.nd rfl (by first | exact Or.inl rfl | exact Or.inr rfl)) pgs_nil))), fun _ _ _ _ _ _ hg1 => pts_nil, fun _ _ _ _ _ _ hg1 => (pv 2), fun _ => rfl⟩ rfl (f_sum T)))), ?_⟩
  refine inB (n := 2) (k := 1) hsp (fun _ => rfl) rfl fun F x hG hO hp hok her => ?_
  subst hG
  obtain ⟨g1, g2, g3, g4, g5, g6⟩ := (show goodPt x from hp)
  (refine s_le (Le.refl _) ?_; try dsimp only [List.set, ctx0, List.map, List.replicate, List.nil_append, List.cons_append, putC, List.zip, List.zipWith])
  refine s_ret (e_is (x' := mHeight x) (e_sumT0 hP (src_tup (e_fld (g := fun s : PotV => s.2.1) (c_Pot T) (n_Pot_rings T) h_Pot_rings (e_var rfl))) ?_ (noAll_of rfl) (fun x1 hx1 => (tg_t2 (tg_name (plain1 rfl)) (tg_name (plain1 rfl)))) (by decide) (fun x1 => ⟨plAll_of rfl, rfl⟩) (fun x1 hx1 => (e_var rfl)) ?_) ?_) (hok rfl)
  · omega
  · refine sum_long (B := 1000) (fun n hn => ?_) (by decide) ?_
    · obtain ⟨y, hy, e⟩ := List.mem_map.mp hn
      have := g3 y hy
      omega
    · rw [List.length_map]
      omega
  · rfl
theorem sc_Pot_width : FnScope ["self", "radius", "high"] ["self"] d_Pot_width.scope := C8.fnScope_by (by decide +kernel)
theorem b_Pot_width {w : World} {K : PySem.W.Frag} {mg : Str → Option Value} (T : Top w K mg) : Binds K (fdOf K d_Pot_width.at_) ["self"] [] := (D_Pot_width T).binds (fun _ _ _ _ _ _ us hl => match us, hl with | [_], _ => rfl)
theorem ok_Pot_width (T : Top w K mg) (TG : TGs base mg K G) : Kp P w K mg base 10 d_Pot_width ["self"] (spB G (A_width K) (ds_P K) rInt) := by
  have TB := TG.tb ("Pot", some "width") (by simp [tfg])
  have hP := TG.mem ("Pot", some "width") (by simp [tfg])
  refine (D_Pot_width T).ok sc_Pot_width (spF_len fun _ => rfl) fun A outer s H vs Q E hr hsp => ⟨_, (pss_one (ps_ret (pe_op op_mul pe_int (GX.pe_maxG (own := [("radius", 1), ("high", 2)]) ⟨hr.mono (show 1 + 8 ≤ 9 by decide), sc_Pot_width.nd, TB, rfl, GX.gsc_by (by kernel_rfl), (pi_tupK (K := K) rfl (pe_fldK (K := K) rfl (pv 0) rfl)), fun _ _ _ _ _ _ => (pg_tupK (K := K) (n := 2) rfl rfl (pgs_cons (pg_name (i := 1) sc_Pot_width.nd rfl (by first | exact Or.inl rfl | exact Or.inr rfl)) (pgs_cons (pg_name (i := 2) sc_Pot_width.nd rfl (by first | exact Or.inl rfl | exact Or.inr rfl)) pgs_nil))), fun _ _ _ _ _ _ hg1 => pts_nil, fun _ _ _ _ _ _ hg1 => (pv 1), fun _ => rfl⟩ rfl (f_max T))))), ?_⟩
  refine inB (n := 2) (k := 1) hsp (fun _ => rfl) rfl fun F x hG hO hp hok her => ?_
  subst hG
  obtain ⟨g1, g2, g3, g4, g5, g6⟩ := (show goodPt x from hp)
  (refine s_le (Le.refl _) ?_; try dsimp only [List.set, ctx0, List.map, List.replicate, List.nil_append, List.cons_append, putC, List.zip, List.zipWith])
  refine s_ret (e_is (x' := mWidth x) (e_mul e_int (e_maxT0 hP (src_tup (e_fld (g := fun s : PotV => s.2.1) (c_Pot T) (n_Pot_rings T) h_Pot_rings (e_var rfl))) ?_ (noAll_of rfl) (fun x1 hx1 => (tg_t2 (tg_name (plain1 rfl)) (tg_name (plain1 rfl)))) (by decide) (fun x1 => ⟨plAll_of rfl, rfl⟩) (fun x1 hx1 => (e_var rfl)) ?_) ?_) ?_) (hok rfl)
  · omega
  · exact fun z => g1 (List.map_eq_nil_iff.mp z)
  · unfold CMul; left; constructor <;> decide
  · rfl
theorem sc_Pot_outside : FnScope ["self", "radius", "high"] ["self"] d_Pot_outside.scope := C8.fnScope_by (by decide +kernel)
theorem b_Pot_outside {w : World} {K : PySem.W.Frag} {mg : Str → Option Value} (T : Top w K mg) : Binds K (fdOf K d_Pot_outside.at_) ["self"] [] := (D_Pot_outside T).binds (fun _ _ _ _ _ _ us hl => match us, hl with | [_], _ => rfl)
theorem ok_Pot_outside (T : Top w K mg) (TG : TGs base mg K G) : Kp P w K mg base 10 d_Pot_outside ["self"] (spB G (A_outside K) (ds_P K) rInt) := by
  have TB := TG.tb ("Pot", some "outside") (by simp [tfg])
  have hP := TG.mem ("Pot", some "outside") (by simp [tfg])
  refine (D_Pot_outside T).ok sc_Pot_outside (spF_len fun _ => rfl) fun A outer s H vs Q E hr hsp => ⟨_, (pss_one (ps_ret (GX.pe_sumG (own := [("radius", 1), ("high", 2)]) ⟨hr.mono (show 1 + 8 ≤ 9 by decide), sc_Pot_outside.nd, TB, rfl, GX.gsc_by (by kernel_rfl), (pi_tupK (K := K) rfl (pe_fldK (K := K) rfl (pv 0) rfl)), fun _ _ _ _ _ _ => (pg_tupK (K := K) (n := 2) rfl rfl (pgs_cons (pg_name (i := 1) sc_Pot_outside.nd rfl (by first | exact Or.inl rfl | exact Or.inr rfl)) (pgs_cons (pg_name (i := 2) sc_Pot_outside.nd rfl (by first | exact Or.inl rfl | exact Or.inr rfl)) pgs_nil))), fun _ _ _ _ _ _ hg1 => pts_nil, fun _ _ _ _ _ _ hg1 => (pe_op op_mul (pe_op op_mul (pv 1) (pv 1)) (pv 2)), fun _ => rfl⟩ rfl (f_sum T)))), ?_⟩
  refine inB (n := 2) (k := 1) hsp (fun _ => rfl) rfl fun F x hG hO hp hok her => ?_
  subst hG
  obtain ⟨g1, g2, g3, g4, g5, g6⟩ := (show goodPt x from hp)
  (refine s_le (Le.refl _) ?_; try dsimp only [List.set, ctx0, List.map, List.replicate, List.nil_append, List.cons_append, putC, List.zip, List.zipWith])
  refine s_ret (e_is (x' := mOut x) (e_sumT0 hP (src_tup (e_fld (g := fun s : PotV => s.2.1) (c_Pot T) (n_Pot_rings T) h_Pot_rings (e_var rfl))) ?_ (noAll_of rfl) (fun x1 hx1 => (tg_t2 (tg_name (plain1 rfl)) (tg_name (plain1 rfl)))) (by decide) (fun x1 => ⟨plAll_of rfl, rfl⟩) (fun x1 hx1 => (e_mul (e_mul (e_var rfl) (e_var rfl) ?_) (e_var rfl) ?_)) ?_) ?_) (hok rfl)
  · omega
  · have := g3 _ hx1
    unfold CMul; left; constructor <;> omega
  · have := g3 _ hx1
    unfold CMul; right; constructor <;> omega
  · refine sum_long (B := 1000000000) (fun n hn => ?_) (by decide) ?_
    · obtain ⟨y, hy, e⟩ := List.mem_map.mp hn
      obtain ⟨h1, h2, h3, h4⟩ := g3 y hy
      have a1 : y.1 * y.1 ≤ 1000 * 1000 := Int.mul_le_mul h4 h4 (by omega) (by decide)
      have a0 : 0 ≤ y.1 * y.1 := Int.mul_nonneg (by omega) (by omega)
      have a2 : y.1 * y.1 * y.2 ≤ 1000000 * 1000 := Int.mul_le_mul a1 h2 (by omega) (by decide)
      have a3 : 0 ≤ y.1 * y.1 * y.2 := Int.mul_nonneg a0 (by omega)
      omega
    · rw [List.length_map]
      omega
  · rfl
theorem sc_Pot_mouth : FnScope ["self", "radius", "high"] ["self"] d_Pot_mouth.scope := C8.fnScope_by (by decide +kernel)
theorem b_Pot_mouth {w : World} {K : PySem.W.Frag} {mg : Str → Option Value} (T : Top w K mg) : Binds K (fdOf K d_Pot_mouth.at_) ["self"] [] := (D_Pot_mouth T).binds (fun _ _ _ _ _ _ us hl => match us, hl with | [_], _ => rfl)
theorem ok_Pot_mouth (T : Top w K mg) (TG : TGs base mg K G) : Kp P w K mg base 10 d_Pot_mouth ["self"] (spB G (A_mouth K) (ds_P K) rInt) := by
  have TB := TG.tb ("Pot", some "mouth") (by simp [tfg])
  have hP := TG.mem ("Pot", some "mouth") (by simp [tfg])
  refine (D_Pot_mouth T).ok sc_Pot_mouth (spF_len fun _ => rfl) fun A outer s H vs Q E hr hsp => ⟨_, (pss_one (ps_ret (GX.pe_minG (own := [("radius", 1), ("high", 2)]) ⟨hr.mono (show 1 + 8 ≤ 9 by decide), sc_Pot_mouth.nd, TB, rfl, GX.gsc_by (by kernel_rfl), (pi_tupK (K := K) rfl (pe_fldK (K := K) rfl (pv 0) rfl)), fun _ _ _ _ _ _ => (pg_tupK (K := K) (n := 2) rfl rfl (pgs_cons (pg_name (i := 1) sc_Pot_mouth.nd rfl (by first | exact Or.inl rfl | exact Or.inr rfl)) (pgs_cons (pg_name (i := 2) sc_Pot_mouth.nd rfl (by first | exact Or.inl rfl | exact Or.inr rfl)) pgs_nil))), fun _ _ _ _ _ _ hg1 => pts_nil, fun _ _ _ _ _ _ hg1 => (pe_op op_sub (pv 1) (pe_fldK (K := K) rfl (pv 0) rfl)), fun _ => rfl⟩ rfl (f_min T)))), ?_⟩
  refine inB (n := 2) (k := 1) hsp (fun _ => rfl) rfl fun F x hG hO hp hok her => ?_
  subst hG
  obtain ⟨g1, g2, g3, g4, g5, g6⟩ := (show goodPt x from hp)
  (refine s_le (Le.refl _) ?_; try dsimp only [List.set, ctx0, List.map, List.replicate, List.nil_append, List.cons_append, putC, List.zip, List.zipWith])
  refine s_ret (e_is (x' := mMouth x) (e_minT0 hP (src_tup (e_fld (g := fun s : PotV => s.2.1) (c_Pot T) (n_Pot_rings T) h_Pot_rings (e_var rfl))) ?_ (noAll_of rfl) (fun x1 hx1 => (tg_t2 (tg_name (plain1 rfl)) (tg_name (plain1 rfl)))) (by decide) (fun x1 => ⟨plAll_of rfl, rfl⟩) (fun x1 hx1 => (e_sub (e_var rfl) (e_fld (g := fun s : PotV => s.2.2.1) (c_Pot T) (n_Pot_wall T) h_Pot_wall (e_var rfl)))) ?_) ?_) (hok rfl)
  · omega
  · exact fun z => g1 (List.map_eq_nil_iff.mp z)
  · rfl
end
end KH


set_option Elab.async false
set_option linter.all false
set_option maxRecDepth 100000
set_option maxHeartbeats 1000000
namespace KH
open PySem PySem.Spec PyProof.Rows L2 TP DkL
section
variable {P : Program} {w : World} {K : PySem.W.Frag} {mg : Str → Option Value} {base : Heap} {G : List Addr}
/-! ### what a pot holds -/
def hold1 (wl : Int) (st : Int) (x : Int × Rg) : Int := st + (x.2.1 - wl) * (x.2.1 - wl) * (if decide (x.1 = 0) = true then x.2.2 - wl else x.2.2)
def mHolds (p : PotV) : Int := (enumL p.2.1).foldl (hold1 p.2.2.1) 0
def A_holds (K : PySem.W.Frag) : Ans PotV Int := ⟨goodPt, fun _ => false, fun _ => aErr K, mHolds⟩
theorem enum_in {α : Type} {xs : List α} {x : Int × α} (h : x ∈ enumL xs) : x.2 ∈ xs := by
  obtain ⟨i, hi⟩ := List.getElem?_of_mem h
  rw [enumL_get] at hi
  cases e : xs[i]? with
  | none => rw [e] at hi; cases hi
  | some r =>
    rw [e] at hi
    have hi := Option.some.inj hi
    rw [← hi]
    exact List.mem_of_getElem? e
theorem sc_Pot_holds : FnScope ["self", "found", "place", "radius", "high", "inner"] ["self"] d_Pot_holds.scope := C8.fnScope_by (by decide +kernel)
theorem b_Pot_holds {w : World} {K : PySem.W.Frag} {mg : Str → Option Value} (T : Top w K mg) : Binds K (fdOf K d_Pot_holds.at_) ["self"] [] := (D_Pot_holds T).binds (fun _ _ _ _ _ _ us hl => match us, hl with | [_], _ => rfl)
theorem ok_Pot_holds (T : Top w K mg) : Kp P w K mg base 1 d_Pot_holds ["self"] (spB G (A_holds K) (ds_P K) rInt) := by
  refine (D_Pot_holds T).ok sc_Pot_holds (spF_len fun _ => rfl) fun A outer s H vs Q E hr hsp => ⟨_, (pss_cons (ps_set (i := 1) sc_Pot_holds.nd rfl (by first | exact Or.inl rfl | exact Or.inr rfl) pe_int) (pss_cons (ps_for (passes_of rfl) rfl (EnT.pi_enumT (K := K) rfl rfl (f_enumerate T) (pa_cons (pe_fldK (K := K) rfl (pv 0) rfl) pa_nil)) (pg_tupK (K := K) (n := 2) rfl rfl (pgs_cons (pg_name (i := 2) sc_Pot_holds.nd rfl (by first | exact Or.inl rfl | exact Or.inr rfl)) (pgs_cons (pg_tupK (K := K) (n := 2) rfl rfl (pgs_cons (pg_name (i := 3) sc_Pot_holds.nd rfl (by first | exact Or.inl rfl | exact Or.inr rfl)) (pgs_cons (pg_name (i := 4) sc_Pot_holds.nd rfl (by first | exact Or.inl rfl | exact Or.inr rfl)) pgs_nil))) pgs_nil))) (pss_cons (ps_set (i := 5) sc_Pot_holds.nd rfl (by first | exact Or.inl rfl | exact Or.inr rfl) (pe_op op_sub (pv 3) (pe_fldK (K := K) rfl (pv 0) rfl))) (pss_one (ps_aug (i := 1) sc_Pot_holds.nd rfl (by first | exact Or.inl rfl | exact Or.inr rfl) (pe_op op_mul (pe_op op_mul (pv 5) (pv 5)) (pe_ifExp (pt_cmpR op_eq (pv 2) pe_int (nomark _)) (pe_op op_sub (pv 4) (pe_fldK (K := K) rfl (pv 0) rfl)) (pv 4))) iop_add)))) (pss_one (ps_ret (pv 1))))), ?_⟩
  refine inB (n := 5) (k := 1) hsp (fun _ => rfl) rfl fun F x hG hO hp hok her => ?_
  subst hG
  obtain ⟨g1, g2, g3, g4, g5, g6⟩ := (show goodPt x from hp)
  refine s_seq (s_set e_int (plain1 rfl) ?_)
  (refine s_le (Le.refl _) ?_; try dsimp only [List.set, ctx0, List.map, List.replicate, List.nil_append, List.cons_append, putC, List.zip, List.zipWith])
  refine s_seq (s_forF (Γs := fun st => [.val (rPot K) x, .val rInt st, .no, .no, .no, .no]) (hold1 x.2.2.1) (fun _ => True) (s0 := 0) (xs := enumL x.2.1) trivial (fun _ _ _ _ => trivial) (src_enumT (a_cons (e_fld (g := fun s : PotV => s.2.1) (c_Pot T) (n_Pot_rings T) h_Pot_rings (e_var rfl)) a_nil)) (fun st y _ hy => ⟨_, _, (tg_t2 (tg_name (plain1 rfl)) (tg_t2 (tg_name (plain1 rfl)) (tg_name (plain1 rfl)))), fun g' N hN hB => ?_⟩) (fun _ => ?_))
  · obtain ⟨h1, h2, h3, h4⟩ := g3 _ (enum_in hy)
    (refine s_le (Le.refl _) ?_; try dsimp only [List.set, ctx0, List.map, List.replicate, List.nil_append, List.cons_append, putC, List.zip, List.zipWith])
    refine s_seq (s_set (e_sub (e_var rfl) (e_fld (g := fun s : PotV => s.2.2.1) (c_Pot T) (n_Pot_wall T) h_Pot_wall (e_var rfl))) (plain1 rfl) ?_)
    (refine s_le (Le.refl _) ?_; try dsimp only [List.set, ctx0, List.map, List.replicate, List.nil_append, List.cons_append, putC, List.zip, List.zipWith])
    refine s_augI rfl (e_mul (e_mul (e_var rfl) (e_var rfl) ?_) (e_ite (t_of (e_eqI (e_var rfl) e_int)) (fun hcT => (e_sub (e_var rfl) (e_fld (g := fun s : PotV => s.2.2.1) (c_Pot T) (n_Pot_wall T) h_Pot_wall (e_var rfl)))) (fun hcF => (e_var rfl))) ?_) ?_
    · show CMul (y.2.1 - x.2.2.1) (y.2.1 - x.2.2.1)
      unfold CMul; left; constructor <;> omega
    · show CMul _ (if decide (y.1 = 0) = true then y.2.2 - x.2.2.1 else y.2.2)
      unfold CMul; right
      split <;> constructor <;> omega
    exact s_le (by repeat' (first | exact Le.nil | apply Le.same | refine Le.no trivial ?_)) hN
  · (refine s_le (Le.refl _) ?_; try dsimp only [List.set, ctx0, List.map, List.replicate, List.nil_append, List.cons_append, putC, List.zip, List.zipWith])
    exact s_ret (e_var rfl) (hok rfl)
def A_croom (K : PySem.W.Frag) : Ans PotV Int := ⟨goodPt, fun _ => false, fun _ => aErr K, fun p => mOut p - mHolds p⟩
theorem sc_Pot_clay_room : FnScope ["self"] ["self"] d_Pot_clay_room.scope := C8.fnScope_by (by decide +kernel)
theorem b_Pot_clay_room {w : World} {K : PySem.W.Frag} {mg : Str → Option Value} (T : Top w K mg) : Binds K (fdOf K d_Pot_clay_room.at_) ["self"] [] := (D_Pot_clay_room T).binds (fun _ _ _ _ _ _ us hl => match us, hl with | [_], _ => rfl)
theorem ok_Pot_clay_room (T : Top w K mg) (TG : TGs base mg K G) : Kp P w K mg base 11 d_Pot_clay_room ["self"] (spB G (A_croom K) (ds_P K) rInt) := by
  refine (D_Pot_clay_room T).ok sc_Pot_clay_room (spF_len fun _ => rfl) fun A outer s H vs Q E hr hsp => ⟨_, (pss_one (ps_ret (pe_op op_sub (pe_meth0 (pv 0) (c_Pot T) (m_Pot_outside T) (ok_Pot_outside (G := G) T TG) (hr.mono (show 10 ≤ 10 by decide)) (b_Pot_outside T) .nil (passes_call (takes_of rfl rfl rfl rfl) (fun _ _ _ _ h => h))) (pe_meth0 (pv 0) (c_Pot T) (m_Pot_holds T) (ok_Pot_holds (G := G) T) (hr.mono (show 1 ≤ 10 by decide)) (b_Pot_holds T) .nil (passes_call (takes_of rfl rfl rfl rfl) (fun _ _ _ _ h => h)))))), ?_⟩
  refine inB (n := 0) (k := 1) hsp (fun _ => rfl) rfl fun F x hG hO hp hok her => ?_
  subst hG
  refine s_ret (e_sub (e_methB _ (o_Pot_outside) (e_var rfl) a_nil rfl ?_ ?_) (e_methB _ (o_Pot_holds) (e_var rfl) a_nil rfl ?_ ?_)) (hok rfl)
  · exact hp
  · rfl
  · exact hp
  · rfl
/-! ### the narrowest from a height on -/
def nar1 (wl low : Int) (st : Int × List Int) (x : Rg) : Int × List Int := (st.1 + x.2, if decide (low < st.1 + x.2) = true then st.2 ++ [x.1 - wl] else st.2)
def mNar (p : PotV) (low : Int) : List Int := (p.2.1.foldl (nar1 p.2.2.1 low) (0, [])).2
def A_nar (K : PySem.W.Frag) : Ans (PotV × Int) Int := ⟨fun x => goodPt x.1, fun x => (mNar x.1 x.2).isEmpty, fun _ => aErr K, fun x => minL (mNar x.1 x.2)⟩
abbrev ds_PI (K : PySem.W.Frag) (x : PotV × Int) : List Dy := [⟨rPot K, x.1⟩, ⟨rInt, x.2⟩]
theorem sc_Pot_narrowest_from : FnScope ["self", "low", "start", "found", "radius", "high"] ["self", "low"] d_Pot_narrowest_from.scope := C8.fnScope_by (by decide +kernel)
theorem b_Pot_narrowest_from {w : World} {K : PySem.W.Frag} {mg : Str → Option Value} (T : Top w K mg) : Binds K (fdOf K d_Pot_narrowest_from.at_) ["self", "low"] [] := (D_Pot_narrowest_from T).binds (fun _ _ _ _ _ _ us hl => match us, hl with | [_, _], _ => rfl)
theorem ok_Pot_narrowest_from (T : Top w K mg) : Kp P w K mg base 1 d_Pot_narrowest_from ["self", "low"] (spB G (A_nar K) (ds_PI K) rInt) := by
  refine (D_Pot_narrowest_from T).ok sc_Pot_narrowest_from (spF_len fun _ => rfl) fun A outer s H vs Q E hr hsp => ⟨_, (pss_cons (ps_par (i := 2) (j := 3) rfl sc_Pot_narrowest_from.nd rfl rfl (by decide) rfl rfl (pa_cons pe_int (pa_cons (pe_lst pa_nil) pa_nil)) rfl) (pss_cons (ps_for (passes_of rfl) rfl (pi_tupK (K := K) rfl (pe_fldK (K := K) rfl (pv 0) rfl)) (pg_tupK (K := K) (n := 2) rfl rfl (pgs_cons (pg_name (i := 4) sc_Pot_narrowest_from.nd rfl (by first | exact Or.inl rfl | exact Or.inr rfl)) (pgs_cons (pg_name (i := 5) sc_Pot_narrowest_from.nd rfl (by first | exact Or.inl rfl | exact Or.inr rfl)) pgs_nil))) (pss_cons (ps_if (pt_cmpR op_gt (pe_op op_add (pv 2) (pv 5)) (pv 1) (nomark _)) (pss_one (ps_expr (pe_bmK (K := K) rfl PySem.F.plainAttrs_list PySem.F.slot_list_append PySem.F.type_list_append mt_append (pv 3) (pa_cons (pe_op op_sub (pv 4) (pe_fldK (K := K) rfl (pv 0) rfl)) pa_nil)))) pss_nil) (pss_one (ps_aug (i := 2) sc_Pot_narrowest_from.nd rfl (by first | exact Or.inl rfl | exact Or.inr rfl) (pv 5) iop_add)))) (pss_cons (ps_if (pt_cmpR (op_eqEK (K := K) rfl hr.units0) (pv 3) (pe_lst pa_nil) (nomark _)) (pss_one (ps_own (e_PotError T) (g_PotError T) (takes_of rfl rfl rfl rfl) rfl)) pss_nil) (pss_one (ps_ret (pe_callB (cr_minK (K := K) rfl rfl) rfl (f_min T) (by decide +kernel) (pa_cons (pv 3) pa_nil))))))), ?_⟩
  refine inB (n := 4) (k := 2) hsp (fun _ => rfl) rfl fun F z hG hO hp hok her => ?_
  subst hG
  obtain ⟨x, low⟩ := z
  obtain ⟨g1, g2, g3, g4, g5, g6⟩ := (show goodPt x from hp)
  (refine s_le (Le.refl _) ?_; try dsimp only [List.set, ctx0, List.map, List.replicate, List.nil_append, List.cons_append, putC, List.zip, List.zipWith])
  refine s_seq (s_par2N (Γr := [.val rInt 0, .own (oLst rInt [])]) (an_pl e_int (an_fr (en_lst (xs := []) a_nil (by decide)) an_nil)) rfl (oks rfl) ?_)
  (refine s_le (Le.refl _) ?_; try dsimp only [List.set, ctx0, List.map, List.replicate, List.nil_append, List.cons_append, putC, List.zip, List.zipWith])
  refine s_seq (s_forN (Γs := fun st => [.val (rPot K) x, .val rInt low, .val rInt st.1, .own (oLst rInt st.2), .no, .no]) (nar1 x.2.2.1 low) (fun i st => st.2.length ≤ i) (s0 := (0, [])) (xs := x.2.1) (Nat.le_refl _) (fun i st y hi _ => ?_) (src_tup (e_fld (g := fun s : PotV => s.2.1) (c_Pot T) (n_Pot_rings T) h_Pot_rings (e_var rfl))) (fun i st y hi hy => ⟨_, _, (tg_t2 (tg_name (plain1 rfl)) (tg_name (plain1 rfl))), fun g' N hN hB => ?_⟩) (fun hl => ?_))
  · show (if decide (low < st.1 + y.2) = true then st.2 ++ [y.1 - x.2.2.1] else st.2).length ≤ i + 1
    split
    · rw [List.length_append]; simp; omega
    · omega
  · have hi30 := (List.getElem?_eq_some_iff.mp hy).1
    have hi : st.2.length ≤ i := hi
    (refine s_le (Le.refl _) ?_; try dsimp only [List.set, ctx0, List.map, List.replicate, List.nil_append, List.cons_append, putC, List.zip, List.zipWith])
    refine s_seqJ (Sx := Unit) (fun _ => [.val (rPot K) x, .val rInt low, .val rInt st.1, .own (oLst rInt (nar1 x.2.2.1 low st y).2), .val rInt y.1, .val rInt y.2]) (fun _ => True) (fun N2 hN2 => s_if (t_of (e_gt (e_add (e_var rfl) (e_var rfl)) (e_var rfl))) (fun h => ?_) (fun h => s_next ?_)) (fun _ _ => ?_)
    · have e : (nar1 x.2.2.1 low st y).2 = st.2 ++ [y.1 - x.2.2.1] := if_pos h
      rw [e] at hN2
      refine s_append rfl rfl (e_sub (e_var rfl) (e_fld (g := fun s : PotV => s.2.2.1) (c_Pot T) (n_Pot_wall T) h_Pot_wall (e_var rfl))) (by omega) ?_
      exact hN2 () trivial
    · have e : (nar1 x.2.2.1 low st y).2 = st.2 := if_neg (by rw [show decide (low < st.1 + y.2) = false from h]; exact Bool.false_ne_true)
      rw [e] at hN2
      exact hN2 () trivial
    · (refine s_le (Le.refl _) ?_; try dsimp only [List.set, ctx0, List.map, List.replicate, List.nil_append, List.cons_append, putC, List.zip, List.zipWith])
      refine s_augI rfl (e_var rfl) ?_
      exact s_le (by repeat' (first | exact Le.nil | apply Le.same | refine Le.no trivial ?_)) hN
  · (refine s_le (Le.refl _) ?_; try dsimp only [List.set, ctx0, List.map, List.replicate, List.nil_append, List.cons_append, putC, List.zip, List.zipWith])
    have hl : (mNar x low).length ≤ x.2.1.length := hl
    show TP.KT F gT [.val (rPot K) x, .val rInt low, .val rInt (x.2.1.foldl (nar1 x.2.2.1 low) (0, [])).1, .own (oLst rInt (mNar x low)), .no, .no] _
    (refine s_le (Le.refl _) ?_; try dsimp only [List.set, ctx0, List.map, List.replicate, List.nil_append, List.cons_append, putC, List.zip, List.zipWith])
    refine s_seq (s_if (t_of (e_eqEO rfl)) (fun h => s_raise (her h)) (fun h => s_next ?_))
    have h : (mNar x low).isEmpty = false := h
    refine KT.lst (i := 3) hO rfl ?_
    (refine s_le (Le.refl _) ?_; try dsimp only [List.set, ctx0, List.map, List.replicate, List.nil_append, List.cons_append, putC, List.zip, List.zipWith])
    refine s_ret (e_minLd (a_cons (e_var rfl) a_nil) ?_) (hok h)
    exact fun z => by rw [z] at h; cases h
end
end KH


set_option Elab.async false
set_option linter.all false
set_option maxRecDepth 100000
set_option maxHeartbeats 1000000
namespace KH
open PySem PySem.Spec PyProof.Rows L2 TP DkL
/-! ### plain: room -/
def roomL (p : PotV) : Int → List Rg → Bool
  | _, [] => true
  | low, x :: r => if decide (minL (mNar p low) < x.1) = true then false else roomL p (low + x.2) r
def mRoom (p q : PotV) : Bool := if decide (mHeight p - p.2.2.1 < mHeight q) = true then false else roomL p p.2.2.1 q.2.1
theorem nar_some {wl low : Int} : ∀ (l : List Rg) (st : Int × List Int), (∀ x ∈ l, 1 ≤ x.2) → st.2 ≠ [] ∨ (st.1 ≤ low ∧ low < st.1 + (l.map fun x => x.2).sum) → (l.foldl (nar1 wl low) st).2 ≠ []
  | [], st, _, h => by
    rcases h with h | ⟨h1, h2⟩
    · exact h
    · simp at h2
      omega
  | x :: r, st, hp, h => by
    have hr : ∀ y ∈ r, 1 ≤ y.2 := fun y hy => hp y (List.mem_cons_of_mem _ hy)
    have hx := hp x List.mem_cons_self
    refine nar_some r (nar1 wl low st x) hr ?_
    by_cases hc : low < st.1 + x.2
    · left
      show (if decide (low < st.1 + x.2) = true then st.2 ++ [x.1 - wl] else st.2) ≠ []
      rw [if_pos (decide_eq_true hc)]
      simp
    · rcases h with h | ⟨h1, h2⟩
      · left
        show (if decide (low < st.1 + x.2) = true then st.2 ++ [x.1 - wl] else st.2) ≠ []
        rw [if_neg (by rw [decide_eq_false hc]; exact Bool.false_ne_true)]
        exact h
      · right
        rw [List.map_cons, List.sum_cons] at h2
        exact ⟨show st.1 + x.2 ≤ low by omega, show low < st.1 + x.2 + _ by omega⟩
theorem nar_ok {p : PotV} {low : Int} (h : goodPt p) (h0 : 0 ≤ low) (hl : low < mHeight p) : (mNar p low).isEmpty = false := by
  have := nar_some (wl := p.2.2.1) (low := low) p.2.1 (0, []) (fun x hx => (h.2.2.1 x hx).1) (.inr ⟨h0, by rw [Int.zero_add]; exact hl⟩)
  cases e : mNar p low with
  | nil => exact absurd e this
  | cons _ _ => rfl
section
variable {P : Program} {w : World} {K : PySem.W.Frag} {mg : Str → Option Value} {base : Heap} {G : List Addr}
def A_room (K : PySem.W.Frag) : Ans (PotV × PotV) Bool := ⟨fun x => goodPt x.1 ∧ goodPt x.2, fun _ => false, fun _ => aErr K, fun x => mRoom x.1 x.2⟩
abbrev ds_PP (K : PySem.W.Frag) (x : PotV × PotV) : List Dy := [⟨rPot K, x.1⟩, ⟨rPot K, x.2⟩]
theorem sc_Pot_has_room_for : FnScope ["self", "other", "low", "radius", "high"] ["self", "other"] d_Pot_has_room_for.scope := C8.fnScope_by (by decide +kernel)
theorem b_Pot_has_room_for {w : World} {K : PySem.W.Frag} {mg : Str → Option Value} (T : Top w K mg) : Binds K (fdOf K d_Pot_has_room_for.at_) ["self", "other"] [] := (D_Pot_has_room_for T).binds (fun _ _ _ _ _ _ us hl => match us, hl with | [_, _], _ => rfl)
theorem ok_Pot_has_room_for (T : Top w K mg) (TG : TGs base mg K G) : Kp P w K mg base 11 d_Pot_has_room_for ["self", "other"] (spB G (A_room K) (ds_PP K) rBool) := by
  refine (D_Pot_has_room_for T).ok sc_Pot_has_room_for (spF_len fun _ => rfl) fun A outer s H vs Q E hr hsp => ⟨_, (pss_cons (ps_if (pt_cmpR op_gt (pe_meth0 (pv 1) (c_Pot T) (m_Pot_height T) (ok_Pot_height (G := G) T TG) (hr.mono (show 10 ≤ 10 by decide)) (b_Pot_height T) .nil (passes_call (takes_of rfl rfl rfl rfl) (fun _ _ _ _ h => h))) (pe_op op_sub (pe_meth0 (pv 0) (c_Pot T) (m_Pot_height T) (ok_Pot_height (G := G) T TG) (hr.mono (show 10 ≤ 10 by decide)) (b_Pot_height T) .nil (passes_call (takes_of rfl rfl rfl rfl) (fun _ _ _ _ h => h))) (pe_fldK (K := K) rfl (pv 0) rfl)) (nomark _)) (pss_one (ps_ret pe_bl)) pss_nil) (pss_cons (ps_set (i := 2) sc_Pot_has_room_for.nd rfl (by first | exact Or.inl rfl | exact Or.inr rfl) (pe_fldK (K := K) rfl (pv 0) rfl)) (pss_cons (ps_for (passes_of rfl) rfl (pi_tupK (K := K) rfl (pe_fldK (K := K) rfl (pv 1) rfl)) (pg_tupK (K := K) (n := 2) rfl rfl (pgs_cons (pg_name (i := 3) sc_Pot_has_room_for.nd rfl (by first | exact Or.inl rfl | exact Or.inr rfl)) (pgs_cons (pg_name (i := 4) sc_Pot_has_room_for.nd rfl (by first | exact Or.inl rfl | exact Or.inr rfl)) pgs_nil))) (pss_cons (ps_if (pt_cmpR op_gt (pv 3) (pe_meth (pv 0) (c_Pot T) (m_Pot_narrowest_from T) (ok_Pot_narrowest_from (G := G) T) (hr.mono (show 1 ≤ 10 by decide)) (b_Pot_narrowest_from T) .nil (passes_call (takes_of rfl rfl rfl rfl) (fun _ _ _ _ h => h)) (pa_cons (pv 2) pa_nil)) (nomark _)) (pss_one (ps_ret pe_bl)) pss_nil) (pss_one (ps_aug (i := 2) sc_Pot_has_room_for.nd rfl (by first | exact Or.inl rfl | exact Or.inr rfl) (pv 4) iop_add)))) (pss_one (ps_ret pe_bl))))), ?_⟩
  refine inB (n := 3) (k := 2) hsp (fun _ => rfl) rfl fun F z hG hO hp hok her => ?_
  subst hG
  obtain ⟨p, q⟩ := z
  obtain ⟨gp, gq⟩ := (show goodPt p ∧ goodPt q from hp)
  (refine s_le (Le.refl _) ?_; try dsimp only [List.set, ctx0, List.map, List.replicate, List.nil_append, List.cons_append, putC, List.zip, List.zipWith])
  refine s_seq (s_if (t_of (e_gt (e_methB _ (o_Pot_height) (e_var rfl) a_nil rfl ?_ ?_) (e_sub (e_methB _ (o_Pot_height) (e_var rfl) a_nil rfl ?_ ?_) (e_fld (g := fun s : PotV => s.2.2.1) (c_Pot T) (n_Pot_wall T) h_Pot_wall (e_var rfl))))) (fun h => ?_) (fun h => s_next ?_))
  · exact gq
  · rfl
  · exact gp
  · rfl
  · refine s_ret (e_is e_bl ?_) (hok rfl)
    exact (if_pos h).symm
  have h : decide (mHeight p - p.2.2.1 < mHeight q) = false := h
  have hh : mHeight q ≤ mHeight p - p.2.2.1 := by have := of_decide_eq_false h; omega
  have e1 : mRoom p q = roomL p p.2.2.1 q.2.1 := if_neg (by rw [h]; exact Bool.false_ne_true)
  (refine s_le (Le.refl _) ?_; try dsimp only [List.set, ctx0, List.map, List.replicate, List.nil_append, List.cons_append, putC, List.zip, List.zipWith])
  refine s_seq (s_set (e_fld (g := fun s : PotV => s.2.2.1) (c_Pot T) (n_Pot_wall T) h_Pot_wall (e_var rfl)) (plain1 rfl) ?_)
  (refine s_le (Le.refl _) ?_; try dsimp only [List.set, ctx0, List.map, List.replicate, List.nil_append, List.cons_append, putC, List.zip, List.zipWith])
  refine s_seq (s_for (Sx := Int) (Γs := fun low => [.val (rPot K) p, .val (rPot K) q, .val rInt low, .no, .no]) (fun i low => 0 ≤ low ∧ low + ((q.2.1.drop i).map fun x => x.2).sum ≤ mHeight p ∧ roomL p low (q.2.1.drop i) = mRoom p q) (s0 := p.2.2.1) (src_tup (e_fld (g := fun s : PotV => s.2.1) (c_Pot T) (n_Pot_rings T) h_Pot_rings (e_var rfl))) ?_ (fun i y low hy hi => ⟨_, _, (tg_t2 (tg_name (plain1 rfl)) (tg_name (plain1 rfl))), fun g' N hN hB => ?_⟩) (fun low hi => ?_))
  · refine ⟨by have := gp.2.2.2.1; omega, ?_, e1.symm⟩
    show p.2.2.1 + mHeight q ≤ mHeight p
    omega
  · obtain ⟨i1, i2, i3⟩ := hi
    obtain ⟨hlt, hge⟩ := List.getElem?_eq_some_iff.mp hy
    have hdrop : q.2.1.drop i = y :: q.2.1.drop (i + 1) := by rw [List.drop_eq_getElem_cons hlt, hge]
    have hyb := gq.2.2.1 y (List.mem_of_getElem? hy)
    rw [hdrop, List.map_cons, List.sum_cons] at i2
    have hs : 0 ≤ ((q.2.1.drop (i + 1)).map fun x => x.2).sum := by
      have key : ∀ l : List Rg, (∀ x ∈ l, 1 ≤ x.2) → 0 ≤ (l.map fun x => x.2).sum := fun l => by
        induction l with
        | nil => intro _; simp
        | cons x r ih =>
          intro hl
          have := ih fun y hy => hl y (List.mem_cons_of_mem _ hy)
          have := hl x List.mem_cons_self
          rw [List.map_cons, List.sum_cons]
          omega
      exact key _ fun x hx => (gq.2.2.1 x (List.mem_of_mem_drop hx)).1
    have hn := nar_ok gp i1 (show low < mHeight p by omega)
    rw [hdrop] at i3
    have i3 : (if decide (minL (mNar p low) < y.1) = true then false else roomL p (low + y.2) (q.2.1.drop (i + 1))) = mRoom p q := i3
    (refine s_le (Le.refl _) ?_; try dsimp only [List.set, ctx0, List.map, List.replicate, List.nil_append, List.cons_append, putC, List.zip, List.zipWith])
    refine s_seq (s_if (t_of (e_gt (e_var rfl) (e_methB (_, _) (o_Pot_narrowest_from) (e_var rfl) (a_cons (e_var rfl) a_nil) rfl ?_ ?_))) (fun h => ?_) (fun h => s_next ?_))
    · exact gp
    · exact hn
    · have h : decide (minL (mNar p low) < y.1) = true := h
      rw [if_pos h] at i3
      exact s_ret (e_is e_bl i3) (hok rfl)
    · have h : decide (minL (mNar p low) < y.1) = false := h
      rw [if_neg (by rw [h]; exact Bool.false_ne_true)] at i3
      (refine s_le (Le.refl _) ?_; try dsimp only [List.set, ctx0, List.map, List.replicate, List.nil_append, List.cons_append, putC, List.zip, List.zipWith])
      refine s_augI rfl (e_var rfl) ?_
      refine s_le (by repeat' (first | exact Le.nil | apply Le.same | refine Le.no trivial ?_)) (hN (low + y.2) ⟨by omega, by omega, i3⟩)
  · obtain ⟨i1, i2, i3⟩ := hi
    rw [List.drop_length] at i3
    (refine s_le (Le.refl _) ?_; try dsimp only [List.set, ctx0, List.map, List.replicate, List.nil_append, List.cons_append, putC, List.zip, List.zipWith])
    exact s_ret (e_is e_bl i3) (hok rfl)
/-! ### as it comes out of the fire -/
def firedR (p : PotV) : List Rg := p.2.1.map fun x => (mFired p.2.2.2 x.1, max 1 (mFired p.2.2.2 x.2))
def mFiredP (p : PotV) : PotV := (p.1, firedR p, max 1 (mFired p.2.2.2 p.2.2.1), p.2.2.2)
def A_pfired (K : PySem.W.Frag) : Ans PotV PotV := ⟨goodPt, fun p => badPt (firedR p) (max 1 (mFired p.2.2.2 p.2.2.1)), fun _ => aErr K, mFiredP⟩
theorem sc_Pot_fired : FnScope ["self", "rows", "radius", "high"] ["self"] d_Pot_fired.scope := C8.fnScope_by (by decide +kernel)
theorem b_Pot_fired {w : World} {K : PySem.W.Frag} {mg : Str → Option Value} (T : Top w K mg) : Binds K (fdOf K d_Pot_fired.at_) ["self"] [] := (D_Pot_fired T).binds (fun _ _ _ _ _ _ us hl => match us, hl with | [_], _ => rfl)
theorem ok_Pot_fired (T : Top w K mg) (TG : TGs base mg K G) : Kp P w K mg base 12 d_Pot_fired ["self"] (spB G (A_pfired K) (ds_P K) (rPot K)) := by
  refine (D_Pot_fired T).ok sc_Pot_fired (spF_len fun _ => rfl) fun A outer s H vs Q E hr hsp => ⟨_, (pss_cons (ps_setLc (i := 1) rfl sc_Pot_fired.nd rfl rfl (sw_true rfl rfl rfl rfl) (own := [("radius", 2), ("high", 3)]) (pi_tupK (K := K) rfl (pe_fldK (K := K) rfl (pv 0) rfl)) (blkOk_by (by kernel_rfl)) (fun _ _ _ _ _ => (pg_tupK (K := K) (n := 2) rfl rfl (pgs_cons (pg_name (i := 2) sc_Pot_fired.nd rfl (by first | exact Or.inl rfl | exact Or.inr rfl)) (pgs_cons (pg_name (i := 3) sc_Pot_fired.nd rfl (by first | exact Or.inl rfl | exact Or.inr rfl)) pgs_nil)))) (fun _ _ _ _ _ => pts_nil) (fun _ _ _ _ _ => (pe_tup (pa_cons (pe_meth (pe_fldK (K := K) rfl (pv 0) rfl) (c_Clay T) (m_Clay_fired T) (ok_Clay_fired (G := G) T) (hr.mono (show 1 ≤ 11 by decide)) (b_Clay_fired T) .nil passL (pa_cons (pv 2) pa_nil)) (pa_cons (pe_callB (call_max2 rfl) rfl (f_max T) (by decide +kernel) (pa_cons pe_int (pa_cons (pe_meth (pe_fldK (K := K) rfl (pv 0) rfl) (c_Clay T) (m_Clay_fired T) (ok_Clay_fired (G := G) T) (hr.mono (show 1 ≤ 11 by decide)) (b_Clay_fired T) .nil passL (pa_cons (pv 3) pa_nil)) pa_nil))) pa_nil))))) (pss_one (ps_ret (pe_make (k_Pot T) (ok_Pot_init (G := G) T TG) (hr.mono (show 10 + 1 ≤ 11 by decide)) rfl (g_Pot T) (b_Pot_init T) .nil (passes_call (takes_of rfl rfl rfl rfl) (fun _ _ _ _ h => h)) (pa_cons (pe_fldK (K := K) rfl (pv 0) rfl) (pa_cons (pv 1) (pa_cons (pe_callB (call_max2 rfl) rfl (f_max T) (by decide +kernel) (pa_cons pe_int (pa_cons (pe_meth (pe_fldK (K := K) rfl (pv 0) rfl) (c_Clay T) (m_Clay_fired T) (ok_Clay_fired (G := G) T) (hr.mono (show 1 ≤ 11 by decide)) (b_Clay_fired T) .nil (passes_call (takes_of rfl rfl rfl rfl) (fun _ _ _ _ h => h)) (pa_cons (pe_fldK (K := K) rfl (pv 0) rfl) pa_nil)) pa_nil))) (pa_cons (pe_fldK (K := K) rfl (pv 0) rfl) pa_nil)))))))), ?_⟩
  refine inB (n := 3) (k := 1) hsp (fun _ => rfl) rfl fun F x hG hO hp hok her => ?_
  subst hG
  obtain ⟨g1, g2, g3, g4, g5, g6⟩ := (show goodPt x from hp)
  obtain ⟨nm, r, wl, cl⟩ := x
  have g2 : r.length ≤ 30 := g2
  have g4 : 1 ≤ wl := g4
  (refine s_le (Le.refl _) ?_; try dsimp only [List.set, ctx0, List.map, List.replicate, List.nil_append, List.cons_append, putC, List.zip, List.zipWith])
  refine s_seq (s_set (Γ1 := [.val (rPot K) (nm, r, wl, cl), .no, .no, .no]) (R := rList rRg) (a := firedR (nm, r, wl, cl)) (e_is (e_lcT0  (src_tup (e_fld (g := fun s : PotV => s.2.1) (c_Pot T) (n_Pot_rings T) h_Pot_rings (e_var rfl))) ?_ (noAll_of rfl) (fun x1 hx1 => (tg_t2 (tg_name (plain1 rfl)) (tg_name (plain1 rfl)))) (by decide) (fun x1 => ⟨plAll_of rfl, rfl⟩) (fun x1 hx1 => (e_t2 (a_cons (e_methB (_, _) (o_Clay_fired) (e_fld (g := fun s : PotV => s.2.2.2) (c_Pot T) (n_Pot_clay T) h_Pot_clay (e_var rfl)) (a_cons (e_var rfl) a_nil) rfl ?_ ?_) (a_cons (e_max2 (a_cons e_int (a_cons (e_methB (_, _) (o_Clay_fired) (e_fld (g := fun s : PotV => s.2.2.2) (c_Pot T) (n_Pot_clay T) h_Pot_clay (e_var rfl)) (a_cons (e_var rfl) a_nil) rfl ?_ ?_) a_nil))) a_nil))))) ?_) (plain1 rfl) ?_)
  · show r.length ≤ 100000
    omega
  · exact g6
  · have h := g3 x1 hx1
    exact decide_eq_false (show ¬ x1.1 < 0 by have : wl < x1.1 := h.2.2.1; omega)
  · exact g6
  · have h := g3 x1 hx1
    exact decide_eq_false (show ¬ x1.2 < 0 by omega)
  · rfl
  have hfl : (firedR (nm, r, wl, cl)).length ≤ 1000 := by unfold firedR; rw [List.length_map]; show r.length ≤ 1000; omega
  have hwl : decide (wl < 0) = false := decide_eq_false (by omega)
  (refine s_le (Le.refl _) ?_; try dsimp only [List.set, ctx0, List.map, List.replicate, List.nil_append, List.cons_append, putC, List.zip, List.zipWith])
  by_cases hb : badPt (firedR (nm, r, wl, cl)) (max 1 (mFired cl wl)) = true
  · refine s_retX (e_makeBX (nm, firedR (nm, r, wl, cl), max 1 (mFired cl wl), cl) (a_cons (e_fld (a := ((nm, r, wl, cl) : PotV)) (g := fun s : PotV => s.1) (c_Pot T) (n_Pot_name T) h_Pot_name (e_var rfl)) (a_cons (e_var rfl) (a_cons (e_max2 (a_cons e_int (a_cons (e_methB (_, _) (o_Clay_fired) (e_fld (g := fun s : PotV => s.2.2.2) (c_Pot T) (n_Pot_clay T) h_Pot_clay (e_var rfl)) (a_cons (e_fld (g := fun s : PotV => s.2.2.1) (c_Pot T) (n_Pot_wall T) h_Pot_wall (e_var rfl)) a_nil) rfl ?_ ?_) a_nil))) (a_cons (e_fld (a := ((nm, r, wl, cl) : PotV)) (g := fun s : PotV => s.2.2.2) (c_Pot T) (n_Pot_clay T) h_Pot_clay (e_var rfl)) a_nil)))) ?_ ?_) (her hb)
    · exact g6
    · exact hwl
    · exact hfl
    · exact hb
  · have hb : badPt (firedR (nm, r, wl, cl)) (max 1 (mFired cl wl)) = false := by simpa using hb
    refine s_ret (e_makeB (nm, firedR (nm, r, wl, cl), max 1 (mFired cl wl), cl) (a_cons (e_fld (a := ((nm, r, wl, cl) : PotV)) (g := fun s : PotV => s.1) (c_Pot T) (n_Pot_name T) h_Pot_name (e_var rfl)) (a_cons (e_var rfl) (a_cons (e_max2 (a_cons e_int (a_cons (e_methB (_, _) (o_Clay_fired) (e_fld (g := fun s : PotV => s.2.2.2) (c_Pot T) (n_Pot_clay T) h_Pot_clay (e_var rfl)) (a_cons (e_fld (g := fun s : PotV => s.2.2.1) (c_Pot T) (n_Pot_wall T) h_Pot_wall (e_var rfl)) a_nil) rfl ?_ ?_) a_nil))) (a_cons (e_fld (a := ((nm, r, wl, cl) : PotV)) (g := fun s : PotV => s.2.2.2) (c_Pot T) (n_Pot_clay T) h_Pot_clay (e_var rfl)) a_nil)))) ?_ ?_) (hok hb)
    · exact g6
    · exact hwl
    · exact hfl
    · exact hb
end
end KH


set_option Elab.async false
set_option linter.all false
set_option maxRecDepth 100000
set_option maxHeartbeats 1000000
namespace KH
open PySem PySem.Spec PyProof.Rows L2 TP DkL
section
variable {P : Program} {w : World} {K : PySem.W.Frag} {mg : Str → Option Value} {base : Heap} {G : List Addr}
/-! ### dice -/
abbrev Dice := Int × Int × Int
def dl (d : Dice) : List Int := [d.1, d.2.1, d.2.2]
def absI (i : Int) : Int := if i < 0 then -i else i
def rDice (c : Int) : List Int := if (decide (-10 < c) && decide (c < 10)) = true then [absI c, 0, 2] else [c, 1 + c % 1009, if decide (10 ^ 18 ≤ c) then 1 else 0]
def A_dice (K : PySem.W.Frag) : Ans Int (List Int) := ⟨fun _ => True, fun _ => false, fun _ => 0, rDice⟩
theorem sc_law_dice : FnScope ["cell"] ["cell"] d_law_dice.scope := C8.fnScope_by (by decide +kernel)
theorem b_law_dice {w : World} {K : PySem.W.Frag} {mg : Str → Option Value} (T : Top w K mg) : Binds K (fdOf K d_law_dice.at_) ["cell"] [] := (D_law_dice T).binds (fun _ _ _ _ _ _ us hl => match us, hl with | [_], _ => rfl)
theorem ok_law_dice (T : Top w K mg) : Kp P w K mg base 1 d_law_dice ["cell"] (spB G (A_dice K) (fun c => [⟨rInt, c⟩]) (rList rInt)) := by
  refine (D_law_dice T).ok sc_law_dice (spF_len fun _ => rfl) fun A outer s H vs Q E hr hsp => ⟨_, (pss_cons (ps_if (pt_chain op_lt op_lt (pe_op op_sub pe_int pe_int) (pv 0) pe_int) (pss_one (ps_ret (pe_lst (pa_cons (pe_callB call_abs rfl (f_abs T) (by decide +kernel) (pa_cons (pv 0) pa_nil)) (pa_cons pe_int (pa_cons pe_int pa_nil)))))) pss_nil) (pss_one (ps_ret (pe_lst (pa_cons (pv 0) (pa_cons (pe_op op_add pe_int (pe_op op_mod (pe_callTy call_int1 rfl (f_int T) (by decide +kernel) (pa_cons (pv 0) pa_nil)) pe_int)) (pa_cons (pe_callTy call_int1 rfl (f_int T) (by decide +kernel) (pa_cons (pe_cmpR op_ge (pv 0) (pe_op op_pow pe_int pe_int) (nomark _)) pa_nil)) pa_nil))))))), ?_⟩
  refine inB (n := 0) (k := 1) hsp (fun _ => rfl) rfl fun F c hG hO hp hok her => ?_
  refine s_seq (s_if (t_of (e_chain (e_sub e_int e_int) (e_var rfl) op_ltI (fun _ => e_int) op_ltI)) (fun h => ?_) (fun h => s_next ?_))
  · refine s_ret (R := rList rInt) (a := rDice c) (e_is (e_lst (xs := [_, _, _]) (a_cons (e_abs (a_cons (e_var rfl) a_nil)) (a_cons e_int (a_cons e_int a_nil))) (by simp)) ?_) (hok rfl)
    have h : (decide (-10 < c) && decide (c < 10)) = true := h
    unfold rDice
    rw [if_pos h]; rfl
  · try dsimp only
    refine s_ret (R := rList rInt) (a := rDice c) (e_is (e_lst (xs := [_, _, _]) (a_cons (e_var rfl) (a_cons (e_add e_int (e_mod (e_intI (a_cons (e_var rfl) a_nil)) e_int ?_)) (a_cons (e_intB (a_cons (e_ge (e_var rfl) (e_pow e_int e_int ?_)) a_nil)) a_nil))) (by simp)) ?_) (hok rfl)
    · decide
    · exact ⟨by decide, by decide, by decide⟩
    have h : (decide (-10 < c) && decide (c < 10)) = false := h
    show _ = rDice c
    unfold rDice
    rw [h]; rfl
/-! ### roll -/
def big (d : Dice) : Bool := decide (d.2.2 = 2) || (decide (d.2.2 = 1) && decide (0 < d.1))
def nxt (d : Dice) : Int := (d.1 * 48271 + d.2.1 * 69621 + 11) % 2147483647
def rollD (d : Dice) (many : Int) : Dice := if big d = true then (d.1 / many, d.2.1, d.2.2) else (nxt d, d.2.1 + 1, 0)
def rollV (d : Dice) (many : Int) : Int := if big d = true then d.1 % many else (nxt d / 7) % many
def A_roll (K : PySem.W.Frag) : Ans (Dice × Int) Int := ⟨fun x => 1 ≤ x.2 ∧ x.2 ≤ 100000000, fun _ => false, fun _ => 0, fun x => rollV x.1 x.2⟩
abbrev O_roll (x : Dice × Int) : Ow := oLst rInt (dl x.1)
abbrev O_roll' (x : Dice × Int) : Ow := oLst rInt (dl (rollD x.1 x.2))
abbrev pinL (v : V) (ps : List Addr) (p : Addr) : Prop := v = .ref p ∧ ps = [p]
theorem pin_out {xs : List Int} {v : V} {ps : List Addr} : ∀ h H qs u, (oLstP (pinL v ps) rInt xs).own h H qs u → u = v ∧ qs = ps ∧ (oLst rInt xs).own h H ps v := fun h H qs u ⟨p, vs, ⟨c1, c2⟩, e1, e2, e3, r⟩ => by
  subst c1 c2
  exact ⟨e1, e2, p, vs, trivial, rfl, rfl, e3, r⟩
theorem sc_law_roll : FnScope ["dice", "many", "found"] ["dice", "many"] d_law_roll.scope := C8.fnScope_by (by decide +kernel)
theorem b_law_roll {w : World} {K : PySem.W.Frag} {mg : Str → Option Value} (T : Top w K mg) : Binds K (fdOf K d_law_roll.at_) ["dice", "many"] [] := (D_law_roll T).binds (fun _ _ _ _ _ _ us hl => match us, hl with | [_, _], _ => rfl)
theorem ok_law_roll (T : Top w K mg) : Kp P w K mg base 1 d_law_roll ["dice", "many"] (spBO G (A_roll K) O_roll O_roll' (fun x => [⟨rInt, x.2⟩]) rInt) := by
  refine (D_law_roll T).ok sc_law_roll (spO_len fun _ => rfl) fun A outer s H vs Q E hr hsp => ⟨_, (pss_cons (ps_if (PW.pt (pw_or (pt_cmpR op_eq (pe_ix (ix_listK (K := K) rfl) (pv 0) pe_int (fun _ _ => rfl)) pe_int (nomark _)) (pw_or1 (PW.pt (pw_and (pt_cmpR op_eq (pe_ix (ix_listK (K := K) rfl) (pv 0) pe_int (fun _ _ => rfl)) pe_int (nomark _)) (pw_and1 (pt_cmpR op_gt (pe_ix (ix_listK (K := K) rfl) (pv 0) pe_int (fun _ _ => rfl)) pe_int (nomark _)))))))) (pss_cons (ps_set (i := 2) sc_law_roll.nd rfl (by first | exact Or.inl rfl | exact Or.inr rfl) (pe_op op_mod (pe_callTy call_int1 rfl (f_int T) (by decide +kernel) (pa_cons (pe_ix (ix_listK (K := K) rfl) (pv 0) pe_int (fun _ _ => rfl)) pa_nil)) (pv 1))) (pss_cons (ps_asg (pe_op op_fdiv (pe_ix (ix_listK (K := K) rfl) (pv 0) pe_int (fun _ _ => rfl)) (pv 1)) (pg_sub (pv 0) pe_int set_list)) (pss_one (ps_ret (pv 2))))) pss_nil) (pss_cons (ps_asg pe_int (pg_sub (pv 0) pe_int set_list)) (pss_cons (ps_if (pt_cmpR op_gt (pv 1) pe_int (nomark _)) pss_never pss_nil) (pss_cons (ps_asg (pe_op op_mod (pe_callTy call_int1 rfl (f_int T) (by decide +kernel) (pa_cons (pe_op op_add (pe_op op_add (pe_op op_mul (pe_ix (ix_listK (K := K) rfl) (pv 0) pe_int (fun _ _ => rfl)) pe_int) (pe_op op_mul (pe_ix (ix_listK (K := K) rfl) (pv 0) pe_int (fun _ _ => rfl)) pe_int)) pe_int) pa_nil)) pe_int) (pg_sub (pv 0) pe_int set_list)) (pss_cons (ps_asg (pe_op op_add (pe_ix (ix_listK (K := K) rfl) (pv 0) pe_int (fun _ _ => rfl)) pe_int) (pg_sub (pv 0) pe_int set_list)) (pss_one (ps_ret (pe_op op_mod (pe_callTy call_int1 rfl (f_int T) (by decide +kernel) (pa_cons (pe_op op_fdiv (pe_ix (ix_listK (K := K) rfl) (pv 0) pe_int (fun _ _ => rfl)) pe_int) pa_nil)) (pv 1))))))))), ?_⟩
  refine inBO (n := 1) (k := 1) (Oi := fun x v ps => oLstP (pinL v ps) rInt (dl x.1)) hsp (fun _ => rfl) rfl (fun x h H ps v ⟨p, vs, _, e1, e2, e3, r⟩ => ⟨p, vs, ⟨e1, e2⟩, e1, e2, e3, r⟩) fun F x v ps hG hO hp hok => ?_
  obtain ⟨⟨a, b, c⟩, many⟩ := x
  obtain ⟨m1, m2⟩ := (show 1 ≤ many ∧ many ≤ 100000000 from hp)
  refine s_seq (s_if (t_or (t_of (e_eqI (e_ixOd (d := 0) rfl e_int ?_) e_int)) (fun _ => (t_and (t_of (e_eqI (e_ixOd (d := 0) rfl e_int ?_) e_int)) (fun _ => (t_of (e_gt (e_ixOd (d := 0) rfl e_int ?_) e_int)))))) (fun h => ?_) (fun h => s_next ?_))
  · exact ⟨by decide, by show _ < (3 : Int); decide⟩
  · exact ⟨by decide, by show _ < (3 : Int); decide⟩
  · exact ⟨by decide, by show _ < (3 : Int); decide⟩
  · have h : big (a, b, c) = true := h
    have e1 : rollD (a, b, c) many = (a / many, b, c) := if_pos h
    have e2 : rollV (a, b, c) many = a % many := if_pos h
    try dsimp only
    refine s_seq (s_set (e_mod (e_intI (a_cons (e_ixOd (d := 0) rfl e_int ?_) a_nil)) (e_var rfl) ?_) (plain1 rfl) ?_)
    · exact ⟨by decide, by show _ < (3 : Int); decide⟩
    · show 0 < many
      omega
    try dsimp only
    refine s_seq (s_setL (n := 0) rfl (e_fdiv (e_ixOd (d := 0) rfl e_int ?_) (e_var rfl) ?_) (by exact (show 0 < 3 by decide)) ?_)
    · exact ⟨by decide, by show _ < (3 : Int); decide⟩
    · exact ⟨by show 0 < many; omega, by show many < 1073741824; omega⟩
    try dsimp only
    refine s_retO (i := 0) (O := oLstP (pinL v ps) rInt [a / many, b, c]) (T := rInt) (r := a % many) (v := v) (ps := ps) (e_var rfl) (by rfl) (O' := oLst rInt [a / many, b, c]) pin_out rfl ?_
    have := hok rfl
    have e3 : (A_roll K).r ((a, b, c), many) = a % many := e2
    have e4 : O_roll' ((a, b, c), many) = oLst rInt [a / many, b, c] := by show oLst rInt (dl (rollD (a, b, c) many)) = _; rw [e1]; rfl
    rw [e3, e4] at this
    exact this
  · have h : big (a, b, c) = false := h
    have e1 : rollD (a, b, c) many = (nxt (a, b, c), b + 1, 0) := if_neg (by rw [h]; exact Bool.false_ne_true)
    have e2 : rollV (a, b, c) many = (nxt (a, b, c) / 7) % many := if_neg (by rw [h]; exact Bool.false_ne_true)
    try dsimp only
    refine s_seq (s_setL (n := 2) rfl e_int (by exact (show 2 < 3 by decide)) ?_)
    try dsimp only
    refine s_seq (s_if (t_of (e_gt (e_var rfl) e_int)) (fun z => ?_) (fun _ => s_next ?_))
    · have z : 100000000 < many := of_decide_eq_true z
      omega
    try dsimp only
    refine s_seq (s_setL (n := 0) rfl (e_mod (e_intI (a_cons (e_add (e_add (e_mul (e_ixOd (d := 0) rfl e_int ?_) e_int ?_) (e_mul (e_ixOd (d := 0) rfl e_int ?_) e_int ?_)) e_int) a_nil)) e_int ?_) (by exact (show 0 < 3 by decide)) ?_)
    · exact ⟨by decide, by show _ < (3 : Int); decide⟩
    · right; exact ⟨by decide, by decide⟩
    · exact ⟨by decide, by show _ < (3 : Int); decide⟩
    · right; exact ⟨by decide, by decide⟩
    · decide
    try dsimp only
    refine s_seq (s_setL (n := 1) rfl (e_add (e_ixOd (d := 0) rfl e_int ?_) e_int) (by exact (show 1 < 3 by decide)) ?_)
    · exact ⟨by decide, by show _ < (3 : Int); decide⟩
    try dsimp only
    refine s_retO (i := 0) (O := oLstP (pinL v ps) rInt [nxt (a, b, c), b + 1, 0]) (T := rInt) (r := (nxt (a, b, c) / 7) % many) (v := v) (ps := ps) (e_is (e_mod (e_intI (a_cons (e_fdiv (e_ixOd (d := 0) rfl e_int ?_) e_int ?_) a_nil)) (e_var rfl) ?_) ?_) (by rfl) (O' := oLst rInt [nxt (a, b, c), b + 1, 0]) pin_out rfl ?_
    · exact ⟨by decide, by show _ < (3 : Int); decide⟩
    · exact ⟨by decide, by decide⟩
    · show 0 < many
      omega
    · rfl
    have := hok rfl
    have e3 : (A_roll K).r ((a, b, c), many) = (nxt (a, b, c) / 7) % many := e2
    have e4 : O_roll' ((a, b, c), many) = oLst rInt [nxt (a, b, c), b + 1, 0] := by show oLst rInt (dl (rollD (a, b, c) many)) = _; rw [e1]; rfl
    rw [e3, e4] at this
    exact this
/-! ### rounds -/
def rRounds (ns : List Int) : List (List Int) := (if (ns.take 1).isEmpty = true then [0] else ns.take 1).map rDice
def A_rounds (K : PySem.W.Frag) : Ans (List Int) (List (List Int)) := ⟨fun _ => True, fun _ => false, fun _ => 0, rRounds⟩
theorem sc_law_rounds : FnScope ["script", "most", "cells", "cell"] ["script", "most"] d_law_rounds.scope := C8.fnScope_by (by decide +kernel)
theorem b_law_rounds {w : World} {K : PySem.W.Frag} {mg : Str → Option Value} (T : Top w K mg) : Binds K (fdOf K d_law_rounds.at_) ["script", "most"] [] := (D_law_rounds T).binds (fun _ _ _ _ _ _ us hl => match us, hl with | [_, _], _ => rfl)
theorem ok_law_rounds (T : Top w K mg) : Kp P w K mg base 2 d_law_rounds ["script", "most"] (spB G (A_rounds K) (fun ns => [⟨rSeq K rInt, ns⟩, ⟨rInt, 1⟩]) (rList (rList rInt))) := by
  refine (D_law_rounds T).ok sc_law_rounds (spF_len fun _ => rfl) fun A outer s H vs Q E hr hsp => ⟨_, (pss_cons (ps_set (i := 2) sc_law_rounds.nd rfl (by first | exact Or.inl rfl | exact Or.inr rfl) (pe_slice (sl_listK (K := K) rfl) (pv 0) po_none (po_some (pv 1)))) (pss_cons (ps_if (pt_cmpR (op_eqEK (K := K) rfl hr.units0) (pv 2) (pe_lst pa_nil) (nomark _)) (pss_one (ps_set (i := 2) sc_law_rounds.nd rfl (by first | exact Or.inl rfl | exact Or.inr rfl) (pe_lst (pa_cons pe_int pa_nil)))) pss_nil) (pss_one (ps_ret (pe_lc rfl sc_law_rounds.nd (own := [("cell", 3)]) (pi_listK (K := K) rfl (pv 2)) (blkOk_by (by kernel_rfl)) (fun _ _ _ _ _ => (pg_name (i := 3) sc_law_rounds.nd rfl (by first | exact Or.inl rfl | exact Or.inr rfl))) (fun _ _ _ _ _ => pts_nil) (fun _ _ _ _ _ => (pe_call (ok_law_dice (G := G) T) (hr.mono (show 1 ≤ 1 by decide)) rfl (g_law_dice T) (D_law_dice T).kp (b_law_dice T) .nil passL (pa_cons (pv 3) pa_nil)))))))), ?_⟩
  refine inB (n := 2) (k := 2) hsp (fun _ => rfl) rfl fun F ns hG hO hp hok her => ?_
  subst hG
  refine s_seq (s_set (R := rList rInt) (a := ns.take 1) (e_take (n := (1 : Int)) (e_var rfl) (e_var rfl) (by decide)) (plain1 rfl) ?_)
  try dsimp only
  have fin : ∀ cs : List Int, cs.length ≤ 1 → cs.map rDice = rRounds ns → KT F gT [.val (rSeq K rInt) ns, .val rInt 1, .val (rList rInt) cs, .no] (tRet (tLc (iList K (tVar 2)) (gName 3) tYes (tCall (spB F.G (A_dice K) (fun c => [⟨rInt, c⟩]) (rList rInt)) [] E0 (tCons (tVar 3) tNil)) [3]) { nx := fun x H' => Q V.non H', rt := Q }) := fun cs hl e => by
    refine s_ret (R := rList (rList rInt)) (a := rRounds ns) (e_is (e_lcT0  (src_list (e_var rfl)) ?_ (noAll_of rfl) (fun x1 hx1 => (tg_name (plain1 rfl))) (by decide) (fun x1 => ⟨plAll_of rfl, rfl⟩) (fun x1 hx1 => (e_callB _ (a_cons (e_var rfl) a_nil) ?_ ?_))) ?_) (hok rfl)
    · omega
    · trivial
    · rfl
    · exact e
  refine s_seq (s_if (t_of (e_eqE (e_var rfl))) (fun h => ?_) (fun h => s_next ?_))
  · have h : (ns.take 1).isEmpty = true := h
    try dsimp only
    refine s_set (R := rList rInt) (a := [0]) (e_lst (xs := [_]) (a_cons e_int a_nil) (by simp)) (plain1 rfl) (fin [0] (by decide) ?_)
    unfold rRounds
    rw [if_pos h]
  · have h : (ns.take 1).isEmpty = false := h
    refine fin (ns.take 1) (by rw [List.length_take]; omega) ?_
    unfold rRounds
    rw [if_neg (by rw [h]; exact Bool.false_ne_true)]
/-! ### the law's column -/
def col1 (acc : List Int) (x : Rg) : List Int := acc ++ (List.replicate x.2.toNat [x.1]).flatten
def lCol (r : List Rg) : List Int := r.foldl col1 []
def preCol (r : List Rg) : Prop := r.length ≤ 30 ∧ ∀ x ∈ r, 0 ≤ x.2 ∧ x.2 ≤ 1000
theorem rep_flat {n : Nat} {a : Int} : (List.replicate n [a]).flatten = List.replicate n a := by
  induction n with
  | zero => rfl
  | succ n ih => rw [List.replicate_succ, List.flatten_cons, ih]; rfl
def A_col (K : PySem.W.Frag) : Ans (List Rg) (List Int) := ⟨preCol, fun _ => false, fun _ => 0, lCol⟩
theorem sc_law_column : FnScope ["rings", "found", "radius", "high"] ["rings"] d_law_column.scope := C8.fnScope_by (by decide +kernel)
theorem b_law_column {w : World} {K : PySem.W.Frag} {mg : Str → Option Value} (T : Top w K mg) : Binds K (fdOf K d_law_column.at_) ["rings"] [] := (D_law_column T).binds (fun _ _ _ _ _ _ us hl => match us, hl with | [_], _ => rfl)
theorem ok_law_column (T : Top w K mg) : Kp P w K mg base 1 d_law_column ["rings"] (spB G (A_col K) (fun x => [⟨rList rRg, x⟩]) (rList rInt)) := by
  refine (D_law_column T).ok sc_law_column (spF_len fun _ => rfl) fun A outer s H vs Q E hr hsp => ⟨_, (pss_cons (ps_set (i := 1) sc_law_column.nd rfl (by first | exact Or.inl rfl | exact Or.inr rfl) (pe_lst pa_nil)) (pss_cons (ps_for (passes_of rfl) rfl (pi_listK (K := K) rfl (pv 0)) (pg_tupK (K := K) (n := 2) rfl rfl (pgs_cons (pg_name (i := 2) sc_law_column.nd rfl (by first | exact Or.inl rfl | exact Or.inr rfl)) (pgs_cons (pg_name (i := 3) sc_law_column.nd rfl (by first | exact Or.inl rfl | exact Or.inr rfl)) pgs_nil))) (pss_one (ps_set (i := 1) sc_law_column.nd rfl (by first | exact Or.inl rfl | exact Or.inr rfl) (pe_op op_cat (pv 1) (pe_op op_rep (pe_lst (pa_cons (pv 2) pa_nil)) (pv 3)))))) (pss_one (ps_ret (pv 1))))), ?_⟩
  refine inB (n := 3) (k := 1) hsp (fun _ => rfl) rfl fun F x hG hO hp hok her => ?_
  subst hG
  obtain ⟨p1, p2⟩ := (show preCol x from hp)
  refine s_seq (s_set (R := rList rInt) (a := []) (e_lst (xs := []) a_nil (by simp)) (plain1 rfl) ?_)
  (refine s_le (Le.refl _) ?_; try dsimp only [List.set, ctx0, List.map, List.replicate, List.nil_append, List.cons_append, putC, List.zip, List.zipWith])
  refine s_seq (s_forN (Γs := fun acc => [.val (rList rRg) x, .val (rList rInt) acc, .no, .no]) col1 (fun i acc => acc.length ≤ 1000 * i) (s0 := []) (xs := x) (Nat.le_refl _) (fun i acc y hi hy => ?_) (src_list (e_var rfl)) (fun i acc y hi hy => ⟨_, _, (tg_t2 (tg_name (plain1 rfl)) (tg_name (plain1 rfl))), fun g' N hN hB => ?_⟩) (fun _ => ?_))
  · have := p2 y (List.mem_of_getElem? hy)
    show (acc ++ _).length ≤ _
    rw [rep_flat, List.length_append, List.length_replicate]
    omega
  · have hb := p2 y (List.mem_of_getElem? hy)
    have hi30 := (List.getElem?_eq_some_iff.mp hy).1
    have hi : acc.length ≤ 1000 * i := hi
    (refine s_le (Le.refl _) ?_; try dsimp only [List.set, ctx0, List.map, List.replicate, List.nil_append, List.cons_append, putC, List.zip, List.zipWith])
    refine s_set (e_catL (e_var rfl) (e_rep (e_lst (xs := [_]) (a_cons (e_var rfl) a_nil) (by simp)) (e_var rfl) ?_) ?_) (plain1 rfl) ?_
    · refine ⟨show y.2 ≤ 100000 by omega, show -100000 ≤ y.2 by omega, ?_⟩
      show 1 * y.2.toNat ≤ 100000
      omega
    · rw [rep_flat, List.length_replicate]
      show acc.length + y.2.toNat ≤ 100000
      omega
    exact s_le (by repeat' (first | exact Le.nil | apply Le.same | refine Le.no trivial ?_)) hN
  · (refine s_le (Le.refl _) ?_; try dsimp only [List.set, ctx0, List.map, List.replicate, List.nil_append, List.cons_append, putC, List.zip, List.zipWith])
    exact s_ret (e_var rfl) (hok rfl)
/-! ### the law's within -/
abbrev OwnP := List Rg × Int
def lOut (x : OwnP) : List Int := (lCol x.1).map fun r => r - x.2
def lHole (x : OwnP) (k : Int) (rad : Int) : Bool := ((lOut x).drop (x.2 + k).toNat).any fun room => decide (room < rad)
def lWithin (x y : OwnP) : Bool := if decide (((lOut x).length : Int) - x.2 < ((lCol y.1).length : Int)) = true then false else !((enumL (lCol y.1)).any fun z => lHole x z.1 z.2)
def preWi (x : OwnP × OwnP) : Prop := preCol x.1.1 ∧ preCol x.2.1 ∧ 0 ≤ x.1.2 ∧ x.1.2 ≤ 1000
def A_within (K : PySem.W.Frag) : Ans (OwnP × OwnP) Bool := ⟨preWi, fun _ => false, fun _ => 0, fun x => lWithin x.1 x.2⟩
theorem col_len {r : List Rg} (h : preCol r) : (lCol r).length ≤ 30000 := by
  have key : ∀ (l : List Rg) (acc : List Int), (∀ x ∈ l, 0 ≤ x.2 ∧ x.2 ≤ 1000) → (l.foldl col1 acc).length ≤ acc.length + 1000 * l.length := fun l => by
    induction l with
    | nil => intro acc _; simp
    | cons x r ih =>
      intro acc hl
      have h1 := ih (col1 acc x) fun y hy => hl y (List.mem_cons_of_mem _ hy)
      have h2 := hl x List.mem_cons_self
      have h3 : (col1 acc x).length ≤ acc.length + 1000 := by
        show (acc ++ _).length ≤ _
        rw [rep_flat, List.length_append, List.length_replicate]
        omega
      rw [List.foldl_cons, List.length_cons]
      omega
  have := key r [] h.2
  have h1 := h.1
  simp at this
  unfold lCol
  omega
theorem none_of {α β : Type} {p : α → Bool} {f : α → β} : ∀ {l : List α}, ((l.filter p).map f).isEmpty = !(l.any p)
  | [] => rfl
  | x :: r => by
    by_cases h : p x = true
    · rw [List.filter_cons_of_pos h, List.any_cons, h]; rfl
    · rw [List.filter_cons_of_neg h, none_of (l := r), List.any_cons, show p x = false by simpa using h, Bool.false_or]
abbrev rOw : Rp OwnP := rT2 (rList rRg) rInt
theorem sc_law_within : FnScope ["one", "other", "outer", "inner", "k", "radius", "room"] ["one", "other"] d_law_within.scope := C8.fnScope_by (by decide +kernel)
theorem b_law_within {w : World} {K : PySem.W.Frag} {mg : Str → Option Value} (T : Top w K mg) : Binds K (fdOf K d_law_within.at_) ["one", "other"] [] := (D_law_within T).binds (fun _ _ _ _ _ _ us hl => match us, hl with | [_, _], _ => rfl)
theorem ok_law_within (T : Top w K mg) : Kp P w K mg base 2 d_law_within ["one", "other"] (spB G (A_within K) (fun x => [⟨rOw, x.1⟩, ⟨rOw, x.2⟩]) rBool) := by
  refine (D_law_within T).ok sc_law_within (spF_len fun _ => rfl) fun A outer s H vs Q E hr hsp => ⟨_, (pss_cons (ps_par (i := 2) (j := 3) rfl sc_law_within.nd rfl rfl (by decide) rfl rfl (pa_cons (pe_lc rfl sc_law_within.nd (own := [("radius", 5)]) (pi_listK (K := K) rfl (pe_call (ok_law_column (G := G) T) (hr.mono (show 1 ≤ 1 by decide)) rfl (g_law_column T) (D_law_column T).kp (b_law_column T) .nil (passes_call (takes_of rfl rfl rfl rfl) (fun _ _ _ _ h => h)) (pa_cons (pe_ix (ix_tupK (K := K) rfl) (pv 0) pe_int (fun _ _ => rfl)) pa_nil))) (blkOk_by (by kernel_rfl)) (fun _ _ _ _ _ => (pg_name (i := 5) sc_law_within.nd rfl (by first | exact Or.inl rfl | exact Or.inr rfl))) (fun _ _ _ _ _ => pts_nil) (fun _ _ _ _ _ => (pe_op op_sub (pv 5) (pe_ix (ix_tupK (K := K) rfl) (pv 0) pe_int (fun _ _ => rfl))))) (pa_cons (pe_call (ok_law_column (G := G) T) (hr.mono (show 1 ≤ 1 by decide)) rfl (g_law_column T) (D_law_column T).kp (b_law_column T) .nil (passes_call (takes_of rfl rfl rfl rfl) (fun _ _ _ _ h => h)) (pa_cons (pe_ix (ix_tupK (K := K) rfl) (pv 1) pe_int (fun _ _ => rfl)) pa_nil)) pa_nil)) rfl) (pss_cons (ps_if (pt_cmpR op_gt (pe_callB (call_len_seqK (K := K) rfl) rfl (f_len T) (by decide +kernel) (pa_cons (pv 3) pa_nil)) (pe_op op_sub (pe_callB (call_len_seqK (K := K) rfl) rfl (f_len T) (by decide +kernel) (pa_cons (pv 2) pa_nil)) (pe_ix (ix_tupK (K := K) rfl) (pv 0) pe_int (fun _ _ => rfl))) (nomark _)) (pss_one (ps_ret pe_bl)) pss_nil) (pss_cons (ps_for (passes_of rfl) rfl (pi_enumK (K := K) rfl rfl (f_enumerate T) (pa_cons (pv 3) pa_nil)) (pg_tupK (K := K) (n := 2) rfl rfl (pgs_cons (pg_name (i := 4) sc_law_within.nd rfl (by first | exact Or.inl rfl | exact Or.inr rfl)) (pgs_cons (pg_name (i := 5) sc_law_within.nd rfl (by first | exact Or.inl rfl | exact Or.inr rfl)) pgs_nil))) (pss_one (ps_if (pt_cmpR (op_neEK (K := K) rfl hr.units0) (pe_lc rfl sc_law_within.nd (own := [("room", 6)]) (pi_listK (K := K) rfl (pe_slice (sl_listK (K := K) rfl) (pv 2) (po_some (pe_op op_add (pe_ix (ix_tupK (K := K) rfl) (pv 0) pe_int (fun _ _ => rfl)) (pv 4))) po_none)) (blkOk_by (by kernel_rfl)) (fun _ _ _ _ _ => (pg_name (i := 6) sc_law_within.nd rfl (by first | exact Or.inl rfl | exact Or.inr rfl))) (fun _ _ _ _ _ => (pts_one (pt_cmpR op_lt (pv 6) (pv 5) (nomark _)))) (fun _ _ _ _ _ => pe_int)) (pe_lst pa_nil) (nomark _)) (pss_one (ps_ret pe_bl)) pss_nil))) (pss_one (ps_ret pe_bl))))), ?_⟩
  refine inB (n := 5) (k := 2) hsp (fun _ => rfl) rfl fun F z hG hO hp hok her => ?_
  subst hG
  obtain ⟨x, y⟩ := z
  obtain ⟨p1, p2, p3, p4⟩ := (show preWi (x, y) from hp)
  have c1 : (lCol x.1).length ≤ 30000 := col_len p1
  have c2 : (lCol y.1).length ≤ 30000 := col_len p2
  have hol : (lOut x).length = (lCol x.1).length := List.length_map _
  have p3 : 0 ≤ x.2 := p3
  (refine s_le (Le.refl _) ?_; try dsimp only [List.set, ctx0, List.map, List.replicate, List.nil_append, List.cons_append, putC, List.zip, List.zipWith])
  refine s_seq (s_par2N (Γr := [.val (rList rInt) (lOut x), .val (rList rInt) (lCol y.1)]) (an_pl (e_lcT0  (src_list (e_callB _ (a_cons (e_20 (e_var rfl)) a_nil) ?_ ?_)) ?_ (noAll_of rfl) (fun x1 hx1 => (tg_name (plain1 rfl))) (by decide) (fun x1 => ⟨plAll_of rfl, rfl⟩) (fun x1 hx1 => (e_sub (e_var rfl) (e_21 (e_var rfl))))) (an_pl (e_callB _ (a_cons (e_20 (e_var rfl)) a_nil) ?_ ?_) an_nil)) rfl (oks rfl) ?_)
  · exact p1
  · rfl
  · show (lCol x.1).length ≤ 100000
    omega
  · exact p2
  · rfl
  (refine s_le (Le.refl _) ?_; try dsimp only [List.set, ctx0, List.map, List.replicate, List.nil_append, List.cons_append, putC, List.zip, List.zipWith])
  refine s_seq (s_if (t_of (e_gt (e_len (a_cons (e_var rfl) a_nil)) (e_sub (e_len (a_cons (e_var rfl) a_nil)) (e_21 (e_var rfl))))) (fun h => ?_) (fun h => s_next ?_))
  · refine s_ret (e_is e_bl ?_) (hok rfl)
    exact (if_pos h).symm
  have e1 : lWithin x y = !((enumL (lCol y.1)).any fun z => lHole x z.1 z.2) := if_neg (by rw [show decide (((lOut x).length : Int) - x.2 < ((lCol y.1).length : Int)) = false from h]; exact Bool.false_ne_true)
  (refine s_le (Le.refl _) ?_; try dsimp only [List.set, ctx0, List.map, List.replicate, List.nil_append, List.cons_append, putC, List.zip, List.zipWith])
  refine s_seq (s_for (Sx := Unit) (Γs := fun _ => [.val rOw x, .val rOw y, .val (rList rInt) (lOut x), .val (rList rInt) (lCol y.1), .no, .no, .no]) (fun i _ => lWithin x y = !(((enumL (lCol y.1)).drop i).any fun z => lHole x z.1 z.2)) (s0 := ()) (src_enum (a_cons (e_var rfl) a_nil)) e1 (fun i z _ hz hi => ⟨_, _, (tg_t2 (tg_name (plain1 rfl)) (tg_name (plain1 rfl))), fun g' N hN hB => ?_⟩) (fun _ hi => ?_))
  · obtain ⟨hlt, hge⟩ := List.getElem?_eq_some_iff.mp hz
    have hdrop : (enumL (lCol y.1)).drop i = z :: (enumL (lCol y.1)).drop (i + 1) := by rw [List.drop_eq_getElem_cons hlt, hge]
    rw [hdrop, List.any_cons] at hi
    have hk : 0 ≤ z.1 := by
      rw [enumL_get] at hz
      cases e2 : (lCol y.1)[i]? with
      | none => rw [e2] at hz; cases hz
      | some r =>
        rw [e2] at hz
        have hz := Option.some.inj hz
        rw [← hz]
        show (0 : Int) ≤ (i : Int)
        omega
    (refine s_le (Le.refl _) ?_; try dsimp only [List.set, ctx0, List.map, List.replicate, List.nil_append, List.cons_append, putC, List.zip, List.zipWith])
    refine s_if (et_is (c := lHole x z.1 z.2) (t_of (e_neE (e_lcT  (src_list (e_slL (e_var rfl) (eo_part (e_add (e_21 (e_var rfl)) (e_var rfl))) eo_no)) ?_ (noAll_of rfl) (fun x2 hx2 => (tg_name (plain1 rfl))) (by decide) (fun x2 => ⟨plAll_of rfl, rfl⟩) (fun x2 hx2 => (t_of (e_lt (e_var rfl) (e_var rfl)))) (fun x2 hx2 hx2t => e_int)))) ?_) (fun h => ?_) (fun h => s_next ?_)
    · show (cut (lOut x) (some (x.2 + z.1)) none).length ≤ 100000
      rw [show x.2 + z.1 = ((x.2 + z.1).toNat : Int) by omega, cut_drop, List.length_drop]
      omega
    · rw [none_of, Bool.not_not]
      show ((cut (lOut x) (some (x.2 + z.1)) none).any fun room => decide (room < z.2)) = _
      rw [show x.2 + z.1 = ((x.2 + z.1).toNat : Int) by omega, cut_drop]
      unfold lHole
      congr 2
    · rw [h, Bool.true_or] at hi
      exact s_ret (e_is e_bl hi.symm) (hok rfl)
    · rw [h, Bool.false_or] at hi
      exact s_le (by repeat' (first | exact Le.nil | apply Le.same | refine Le.no trivial ?_)) (hN () hi)
  · rw [List.drop_length] at hi
    (refine s_le (Le.refl _) ?_; try dsimp only [List.set, ctx0, List.map, List.replicate, List.nil_append, List.cons_append, putC, List.zip, List.zipWith])
    exact s_ret (e_is e_bl hi.symm) (hok rfl)
end
end KH


set_option Elab.async false
set_option linter.all false
set_option maxRecDepth 100000
set_option maxHeartbeats 1000000
namespace KH
open PySem PySem.Spec PyProof.Rows L2 TP DkL
/-! ### sets, plain -/
abbrev Tb := List (Str × Int)
def isFig (c : Str) : Bool := decide (sgn c ∈ ("0123456789" : Str).cps.toList)
def kindF : List Str → Str → Str
  | [], acc => acc
  | c :: r, acc => if isFig c = true then acc else kindF r (acc ++ c)
def kindOf (n : Str) : Str := kindF (sgs n) ""
def cnt1 (st : Tb) (n : Str) : Tb := if (lookK st (kindOf n)).isSome = true then putL st (kindOf n) ((lookK st (kindOf n)).getD 0 + 1) else st
def zeros (many : Tb) : Tb := many.map fun x => (x.1, 0)
def mCounts (names : List Str) (many : Tb) : Tb := names.foldl cnt1 (zeros many)
def mSets (names : List Str) (many : Tb) : Int := minL ((many.map (·.1)).map fun k => (lookK (mCounts names many) k).getD 0 / (lookK many k).getD 0)
def mSetsOf (x : List Str × Tb) : Int × List (Str × Int) := (mSets x.1 x.2, (sortS (x.2.map (·.1))).map fun k => (k, (lookK (mCounts x.1 x.2) k).getD 0 - mSets x.1 x.2 * (lookK x.2 k).getD 0))
def preSe (x : List Str × Tb) : Prop := x.1.length ≤ 1000 ∧ (∀ n ∈ x.1, n.length ≤ 1000) ∧ (x.2.map (·.1)).Nodup ∧ x.2.length ≤ 60 ∧ ∀ y ∈ x.2, y.2 ≤ 1000
def badSe (x : List Str × Tb) : Bool := x.2.isEmpty || decide (minL (x.2.map (·.2)) < 1)
def A_sets (K : PySem.W.Frag) : Ans (List Str × Tb) (Int × List (Str × Int)) := ⟨preSe, badSe, fun _ => aErr K, mSetsOf⟩
theorem cnt_keys {names : List Str} {st : Tb} : (names.foldl cnt1 st).map (·.1) = st.map (·.1) := by
  induction names generalizing st with
  | nil => rfl
  | cons n r ih =>
    rw [List.foldl_cons, ih]
    unfold cnt1
    split
    · rename_i h
      refine putL_keys ?_
      refine Decidable.byContradiction fun z => ?_
      rw [lookK_none.mpr z] at h
      cases h
    · rfl
theorem look_some {α : Type} {xs : List (Str × α)} {k : Str} (h : k ∈ xs.map (·.1)) : (lookK xs k).isSome = true := by
  cases e : lookK xs k with
  | some _ => rfl
  | none => exact absurd h (lookK_none.mp e)
section
variable {P : Program} {w : World} {K : PySem.W.Frag} {mg : Str → Option Value} {base : Heap} {G : List Addr}
theorem sc_sets_of : FnScope ["names", "many", "counts", "name", "sets", "kind", "sign"] ["names", "many"] d_sets_of.scope := C8.fnScope_by (by decide +kernel)
theorem b_sets_of {w : World} {K : PySem.W.Frag} {mg : Str → Option Value} (T : Top w K mg) : Binds K (fdOf K d_sets_of.at_) ["names", "many"] [] := (D_sets_of T).binds (fun _ _ _ _ _ _ us hl => match us, hl with | [_, _], _ => rfl)
theorem ok_sets_of (T : Top w K mg) (TG : TGs base mg K G) : Kp P w K mg base 10 d_sets_of ["names", "many"] (spB G (A_sets K) (fun x => [⟨rList rStr, x.1⟩, ⟨rDct rInt, x.2⟩]) (rT2 rInt (rTup (rT2 rStr rInt)))) := by
  have TB := TG.tb ("sets_of", none) (by simp [tfg])
  have hP := TG.mem ("sets_of", none) (by simp [tfg])
  refine (D_sets_of T).ok sc_sets_of (spF_len fun _ => rfl) fun A outer s H vs Q E hr hsp => ⟨_, (pss_cons (ps_if (PW.pt (pw_or (pt_cmpR (op_eqZ hr.units0) (pv 1) (pe_frz pe_dnewK) (nomark _)) (pw_or1 (pt_cmpR op_lt (pe_minV rfl (pv 1) rfl (f_min T)) pe_int (nomark _))))) (pss_one (ps_own (e_PotError T) (g_PotError T) (takes_of rfl rfl rfl rfl) rfl)) pss_nil) (pss_cons (ps_set (i := 2) sc_sets_of.nd rfl (by first | exact Or.inl rfl | exact Or.inr rfl) (pe_dc rfl sc_sets_of.nd (own := [("kind", 5)]) (pi_keys (pv 1)) (blkOk_by (by kernel_rfl)) (fun _ _ _ _ _ => (pg_name (i := 5) sc_sets_of.nd rfl (by first | exact Or.inl rfl | exact Or.inr rfl))) (fun _ _ _ _ _ => pts_nil) (fun _ _ _ _ _ => (pv 5)) (fun _ _ _ _ _ => pe_int))) (pss_cons (ps_for (passes_of rfl) rfl (pi_listK (K := K) rfl (pv 0)) (pg_name (i := 3) sc_sets_of.nd rfl (by first | exact Or.inl rfl | exact Or.inr rfl)) (pss_cons (ps_set (i := 5) sc_sets_of.nd rfl (by first | exact Or.inl rfl | exact Or.inr rfl) pe_str) (pss_cons (ps_for (passes_of rfl) rfl (pi_str (pv 3)) (pg_name (i := 6) sc_sets_of.nd rfl (by first | exact Or.inl rfl | exact Or.inr rfl)) (pss_cons (ps_if (pt_cmpR op_in_sign (pv 6) pe_str rfl) (pss_one ps_break) pss_nil) (pss_one (ps_aug (i := 5) sc_sets_of.nd rfl (by first | exact Or.inl rfl | exact Or.inr rfl) (pv 6) ip_addS)))) (pss_one (ps_if (pt_cmp (pc_din hr.units1 (pv 5) (pv 2))) (pss_one (ps_daug hr.units1 (pv 2) (pv 5) pe_int in_add (fun _ _ _ => rfl))) pss_nil))))) (pss_cons (ps_set (i := 4) sc_sets_of.nd rfl (by first | exact Or.inl rfl | exact Or.inr rfl) (GX.pe_minG (own := [("kind", 5)]) ⟨hr.mono (show 1 + 8 ≤ 9 by decide), sc_sets_of.nd, TB, rfl, GX.gsc_by (by kernel_rfl), (pi_keys (pv 1)), fun _ _ _ _ _ _ => (pg_name (i := 5) sc_sets_of.nd rfl (by first | exact Or.inl rfl | exact Or.inr rfl)), fun _ _ _ _ _ _ hg1 => pts_nil, fun _ _ _ _ _ _ hg1 => (pe_op op_fdiv (pe_dget hg1.units1 (pv 2) (pv 5) (fun _ _ => rfl)) (pe_dget hg1.units1 (pv 1) (pv 5) (fun _ _ => rfl))), fun _ => rfl⟩ rfl (f_min T))) (pss_one (ps_ret (pe_tup (pa_cons (pv 4) (pa_cons (GX.pe_tupG (own := [("kind", 5)]) ⟨hr.mono (show 1 + 8 ≤ 9 by decide), sc_sets_of.nd, TB, rfl, GX.gsc_by (by kernel_rfl), (pi_listK (K := K) rfl (pe_callB (call_sortedD rfl) rfl (f_sorted T) (by decide +kernel) (pa_cons (pv 1) pa_nil))), fun _ _ _ _ _ _ => (pg_name (i := 5) sc_sets_of.nd rfl (by first | exact Or.inl rfl | exact Or.inr rfl)), fun _ _ _ _ _ _ hg2 => pts_nil, fun _ _ _ _ _ _ hg2 => (pe_tup (pa_cons (pv 5) (pa_cons (pe_op op_sub (pe_dget hg2.units1 (pv 2) (pv 5) (fun _ _ => rfl)) (pe_op op_mul (pv 4) (pe_dget hg2.units1 (pv 1) (pv 5) (fun _ _ => rfl)))) pa_nil))), fun _ => rfl⟩ rfl (f_tuple T)) pa_nil))))))))), ?_⟩
  refine inB (n := 5) (k := 2) hsp (fun _ => rfl) rfl fun F z hG hO hp hok her => ?_
  subst hG
  obtain ⟨names, many⟩ := z
  obtain ⟨p1, p2, p3, p4, p5⟩ := (show preSe (names, many) from hp)
  have p1 : names.length ≤ 1000 := p1
  have p4 : many.length ≤ 60 := p4
  have p3 : (many.map (·.1)).Nodup := p3
  refine s_seq (s_if (t_or (t_of (e_eqZ (e_var rfl) (e_frz en_dnew))) (fun _ => (t_of (e_lt (e_minV (e_var rfl) ?_) e_int)))) (fun h => s_raise (her h)) (fun h => s_next ?_))
  · exact fun z => by subst z; rename_i h; cases h
  have h : badSe (names, many) = false := h
  have hb : many ≠ [] ∧ ∀ y ∈ many, 1 ≤ y.2 := by
    unfold badSe at h
    rw [Bool.or_eq_false_iff, decide_eq_false_iff_not] at h
    have hne : many ≠ [] := fun z => by subst z; cases h.1
    refine ⟨hne, fun y hy => ?_⟩
    have := (minL_spec (ns := many.map (·.2)) (fun z => hne (List.map_eq_nil_iff.mp z))).2 y.2 (List.mem_map.mpr ⟨y, hy, rfl⟩)
    have h2 : ¬ minL (many.map (·.2)) < 1 := h.2
    omega
  obtain ⟨hne, hb⟩ := hb
  (refine s_le (Le.refl _) ?_; try dsimp only [List.set, ctx0, List.map, List.replicate, List.nil_append, List.cons_append, putC, List.zip, List.zipWith])
  refine s_seq (s_setN (O := oDct rInt (zeros many)) (en_is (en_dcN (p := fun x1 => _) (key := fun x1 => _) (f := fun x1 => _) (src_keys (e_var rfl)) ?_ (noAll_of rfl) (fun x1 hx1 => tud_pure (noAll_of rfl) (tg_name (plain1 rfl)) (by decide) ⟨plAll_of rfl, rfl⟩ t_yes (fun hx1t => (e_var rfl)) (fun hx1t => e_int))) ?_) (plain1 rfl) (show 2 < 7 by decide) ?_)
  · rw [List.length_map]; omega
  · rw [dcL_map (by rw [List.filter_eq_self.mpr (fun _ _ => rfl), List.map_id']; exact p3)]
    congr 1
    unfold zeros
    rw [List.filter_eq_self.mpr (fun _ _ => rfl), List.map_map]
    rfl
  (refine s_le (Le.refl _) ?_; try dsimp only [List.set, ctx0, List.map, List.replicate, List.nil_append, List.cons_append, putC, List.zip, List.zipWith])
  refine s_seq (s_forN (Γs := fun st => [.val (rList rStr) names, .val (rDct rInt) many, .own (oDct rInt st), .no, .no, .no, .no]) cnt1 (fun i st => st.map (·.1) = many.map (·.1)) (s0 := zeros many) (xs := names) (by unfold zeros; rw [List.map_map]; rfl) (fun i st y hi hy => ?_) (src_list (e_var rfl)) (fun i st y hi hy => ⟨_, _, (tg_name (plain1 rfl)), fun g' N hN hB => ?_⟩) (fun _ => ?_))
  · have := cnt_keys (names := [y]) (st := st)
    exact this.trans hi
  · have hlen : y.length ≤ 1000 := p2 y (List.mem_of_getElem? hy)
    have hst : st.length ≤ 60 := by have := congrArg List.length hi; simp only [List.length_map] at this; omega
    (refine s_le (Le.refl _) ?_; try dsimp only [List.set, ctx0, List.map, List.replicate, List.nil_append, List.cons_append, putC, List.zip, List.zipWith])
    refine s_seq (s_set e_str (plain1 rfl) ?_)
    (refine s_le (Le.refl _) ?_; try dsimp only [List.set, ctx0, List.map, List.replicate, List.nil_append, List.cons_append, putC, List.zip, List.zipWith])
    refine s_seqJ (Sx := Unit) (fun _ => [.val (rList rStr) names, .val (rDct rInt) many, .own (oDct rInt st), .val rStr y, .no, .val rStr (kindOf y), .no]) (fun _ => True) (fun N2 hN2 => s_for (Sx := Str) (Γs := fun k => [.val (rList rStr) names, .val (rDct rInt) many, .own (oDct rInt st), .val rStr y, .no, .val rStr k, .no]) (fun i k => kindF ((sgs y).drop i) k = kindOf y ∧ k.length ≤ i) (s0 := "") (src_str (e_var rfl)) ⟨rfl, Nat.le_refl _⟩ (fun i c k hc hi => ⟨_, _, (tg_name (plain1 rfl)), fun g2 N3 hN3 hB3 => ?_⟩) (fun k hi => ?_)) (fun _ _ => ?_)
    · obtain ⟨hlt, hge⟩ := List.getElem?_eq_some_iff.mp hc
      have hdrop : (sgs y).drop i = c :: (sgs y).drop (i + 1) := by rw [List.drop_eq_getElem_cons hlt, hge]
      obtain ⟨i1, i2⟩ := hi
      rw [hdrop] at i1
      have hone := sgs_one (List.mem_of_getElem? hc)
      rw [sgs_len] at hlt
      have hlt : i < y.length := hlt
      have hcl : c.length = 1 := by rw [hone]; rfl
      (refine s_le (Le.refl _) ?_; try dsimp only [List.set, ctx0, List.map, List.replicate, List.nil_append, List.cons_append, putC, List.zip, List.zipWith])
      refine s_seq (s_if (t_of (e_inSg (e_var rfl) e_str ?_)) (fun hf => ?_) (fun hf => s_next ?_))
      · exact hone
      · have e : kindOf y = k := by rw [← i1]; exact if_pos hf
        have := hN2 () trivial
        rw [e] at this
        exact hB3 _ (s_le (by repeat' (first | exact Le.nil | apply Le.same | refine Le.no trivial ?_)) this)
      · have e : kindF ((sgs y).drop (i + 1)) (k ++ c) = kindOf y := by rw [← i1]; exact (if_neg (by rw [show isFig c = false from hf]; exact Bool.false_ne_true)).symm
        (refine s_le (Le.refl _) ?_; try dsimp only [List.set, ctx0, List.map, List.replicate, List.nil_append, List.cons_append, putC, List.zip, List.zipWith])
        refine s_augS rfl (e_var rfl) (small_len (by omega)) ?_
        refine s_le (by repeat' (first | exact Le.nil | apply Le.same | refine Le.no trivial ?_)) (hN3 (k ++ c) ⟨e, ?_⟩)
        have : (k ++ c).length = k.length + c.length := by
          show (k.cps ++ c.cps).size = _
          rw [Array.size_append]; rfl
        omega
    · obtain ⟨i1, i2⟩ := hi
      rw [List.drop_length] at i1
      have e : kindOf y = k := i1.symm
      have := hN2 () trivial
      rw [e] at this
      exact s_le (by repeat' (first | exact Le.nil | apply Le.same | refine Le.no trivial ?_)) this
    · (refine s_le (Le.refl _) ?_; try dsimp only [List.set, ctx0, List.map, List.replicate, List.nil_append, List.cons_append, putC, List.zip, List.zipWith])
      refine s_if (t_of (e_dinO (e_var rfl) rfl)) (fun hk => ?_) (fun hk => s_next ?_)
      · have e : cnt1 st y = putL st (kindOf y) ((lookK st (kindOf y)).getD 0 + 1) := if_pos hk
        rw [e] at hN
        (refine s_le (Le.refl _) ?_; try dsimp only [List.set, ctx0, List.map, List.replicate, List.nil_append, List.cons_append, putC, List.zip, List.zipWith])
        obtain ⟨n, hn⟩ := Option.isSome_iff_exists.mp hk
        rw [hn] at hN
        refine s_daugI rfl (e_var rfl) rfl hn e_int rfl ?_ ?_
        · show st.length < 100000
          omega
        exact s_le (by repeat' (first | exact Le.nil | apply Le.same | refine Le.no trivial ?_)) hN
      · have e : cnt1 st y = st := if_neg (by rw [hk]; exact Bool.false_ne_true)
        rw [e] at hN
        exact s_le (by repeat' (first | exact Le.nil | apply Le.same | refine Le.no trivial ?_)) hN
  · have hck : (mCounts names many).map (·.1) = many.map (·.1) := by
      unfold mCounts
      rw [cnt_keys]
      unfold zeros
      rw [List.map_map]; rfl
    show KT F gT [.val (rList rStr) names, .val (rDct rInt) many, .own (oDct rInt (mCounts names many)), .no, .no, .no, .no] _
    have hsm : ∀ k ∈ many.map (·.1), (lookK many k).isSome = true ∧ (lookK (mCounts names many) k).isSome = true ∧ 1 ≤ (lookK many k).getD 0 ∧ (lookK many k).getD 0 ≤ 1000 := fun k hk => by
      have h1 := look_some hk
      refine ⟨h1, look_some (by rw [hck]; exact hk), ?_⟩
      obtain ⟨v, hv⟩ := Option.isSome_iff_exists.mp h1
      rw [hv]
      have hm := lookK_some hv
      exact ⟨hb _ hm, p5 _ hm⟩
    (refine s_le (Le.refl _) ?_; try dsimp only [List.set, ctx0, List.map, List.replicate, List.nil_append, List.cons_append, putC, List.zip, List.zipWith])
    refine s_seq (s_set (R := rInt) (a := mSets names many) (e_is (e_minT0 hP (src_keys (e_var rfl)) ?_ (noAll_of rfl) (fun x2 hx2 => (tg_name (plain1 rfl))) (by decide) (fun x2 => ⟨plAll_of rfl, rfl⟩) (fun x2 hx2 => (e_fdiv (e_dgetOD (d := 0) rfl (e_var rfl) rfl ?_) (e_dgetD (d := 0) (e_var rfl) (e_var rfl) ?_) ?_)) ?_) ?_) (plain1 rfl) ?_)
    · rw [List.length_map]; omega
    · exact (hsm x2 hx2).2.1
    · exact (hsm x2 hx2).1
    · have h2 := (hsm x2 hx2).2.2
      unfold CDiv
      constructor
      · show 0 < (lookK many x2).getD 0
        omega
      · show (lookK many x2).getD 0 < 1073741824
        omega
    · exact fun z => hne (by simpa using z)
    · rfl
    (refine s_le (Le.refl _) ?_; try dsimp only [List.set, ctx0, List.map, List.replicate, List.nil_append, List.cons_append, putC, List.zip, List.zipWith])
    refine s_ret (e_is (e_t2 (a_cons (e_var rfl) (a_cons (e_tupT0 hP (src_list (e_sortK (a_cons (e_var rfl) a_nil) ?_)) ?_ (noAll_of rfl) (fun x3 hx3 => (tg_name (plain1 rfl))) (by decide) (fun x3 => ⟨plAll_of rfl, rfl⟩) (fun x3 hx3 => (e_t2 (a_cons (e_var rfl) (a_cons (e_sub (e_dgetOD (d := 0) rfl (e_var rfl) rfl ?_) (e_mul (e_var rfl) (e_dgetD (d := 0) (e_var rfl) (e_var rfl) ?_) ?_)) a_nil))))) a_nil))) ?_) (hok h)
    · show many.length < 64
      omega
    · rw [sortS_len, List.length_map]; omega
    · exact (hsm x3 (sortS_mem.mp hx3)).2.1
    · exact (hsm x3 (sortS_mem.mp hx3)).1
    · have h2 := (hsm x3 (sortS_mem.mp hx3)).2.2
      unfold CMul
      right
      constructor
      · show -(2 ^ 64) < (lookK many x3).getD 0
        omega
      · show (lookK many x3).getD 0 < 2 ^ 64
        omega
    · rfl
end
end KH


set_option Elab.async false
set_option linter.all false
/-! plain: all of a tree, by a stack; the least of them -/
namespace NM
variable {ρ : Type} {ch : ρ → List ρ} {rk : ρ → Nat}
def allN (ch : ρ → List ρ) : Nat → ρ → List ρ
  | 0, r => [r]
  | n + 1, r => r :: (ch r).flatMap (allN ch n)
def al (ch : ρ → List ρ) (rk : ρ → Nat) (r : ρ) : List ρ := allN ch (rk r) r
theorem flat_congr {α β : Type} {f g : α → List β} : ∀ {l : List α}, (∀ x ∈ l, f x = g x) → l.flatMap f = l.flatMap g
  | [], _ => rfl
  | x :: l, h => by
    rw [List.flatMap_cons, List.flatMap_cons, h x List.mem_cons_self, flat_congr fun y hy => h y (List.mem_cons_of_mem _ hy)]
theorem allN_enough (down : ∀ r c, c ∈ ch r → rk c < rk r) : ∀ (n : Nat) (r : ρ), rk r ≤ n → allN ch n r = al ch rk r := by
  have key : ∀ (n m : Nat) (r : ρ), rk r ≤ n → rk r ≤ m → allN ch n r = allN ch m r := by
    intro n
    induction n with
    | zero =>
      intro m r h1 h2
      have e : ch r = [] := List.eq_nil_iff_forall_not_mem.mpr fun c hc => by have := down r c hc; omega
      cases m with
      | zero => rfl
      | succ m => simp [allN, e]
    | succ n ih =>
      intro m r h1 h2
      cases m with
      | zero =>
        have e : ch r = [] := List.eq_nil_iff_forall_not_mem.mpr fun c hc => by have := down r c hc; omega
        simp [allN, e]
      | succ m =>
        show r :: _ = r :: _
        rw [flat_congr fun c hc => ih m c (by have := down r c hc; omega) (by have := down r c hc; omega)]
  exact fun n r h => key n (rk r) r h (Nat.le_refl _)
theorem al_eq (down : ∀ r c, c ∈ ch r → rk c < rk r) (r : ρ) : al ch rk r = r :: (ch r).flatMap (al ch rk) := by
  rw [← allN_enough down (rk r + 1) r (Nat.le_succ _)]
  show r :: _ = r :: _
  rw [flat_congr fun c hc => allN_enough down (rk r) c (Nat.le_of_lt (down r c hc))]
theorem al_self (down : ∀ r c, c ∈ ch r → rk c < rk r) (r : ρ) : r ∈ al ch rk r := by rw [al_eq down]; exact List.mem_cons_self
theorem al_up (down : ∀ r c, c ∈ ch r → rk c < rk r) : ∀ (n : Nat) (t x c : ρ), rk t ≤ n → x ∈ al ch rk t → c ∈ ch x → c ∈ al ch rk t
  | n, t, x, c, h, hx, hc => by
    rw [al_eq down] at hx ⊢
    rcases List.mem_cons.mp hx with rfl | hx
    · exact List.mem_cons_of_mem _ (List.mem_flatMap.mpr ⟨c, hc, al_self down c⟩)
    · obtain ⟨y, hy, hx⟩ := List.mem_flatMap.mp hx
      cases n with
      | zero => have := down t y hy; omega
      | succ n => exact List.mem_cons_of_mem _ (List.mem_flatMap.mpr ⟨y, hy, al_up down n y x c (by have := down t y hy; omega) hx hc⟩)
/-- what is left to see: it shrinks by one at each step -/
def todo (ch : ρ → List ρ) (rk : ρ → Nat) (left : List ρ) : Nat := (left.flatMap (al ch rk)).length
theorem todo_step (down : ∀ r c, c ∈ ch r → rk c < rk r) (ini : List ρ) (row : ρ) : todo ch rk (ini ++ [row]) = todo ch rk (ini ++ ch row) + 1 := by
  unfold todo
  rw [List.flatMap_append, List.flatMap_append, List.flatMap_cons, List.flatMap_nil, List.append_nil, al_eq down row, List.length_append, List.length_append, List.length_cons]
  omega
structure See (ch : ρ → List ρ) (rk : ρ → Nat) (le : ρ → ρ → Prop) (top : ρ) (left : List ρ) (best : ρ) : Prop where
  seen : ∀ x ∈ al ch rk top, le best x ∨ x ∈ left.flatMap (al ch rk)
  mem : best ∈ al ch rk top
  sub : ∀ x ∈ left, x ∈ al ch rk top
variable {le : ρ → ρ → Prop} {top : ρ}
theorem See.start (down : ∀ r c, c ∈ ch r → rk c < rk r) : See ch rk le top [top] top :=
  ⟨fun x hx => .inr (by simpa using hx), al_self down top, fun x hx => by rw [List.mem_singleton.mp hx]; exact al_self down top⟩
/-- nb: the better of the two -/
theorem See.step (down : ∀ r c, c ∈ ch r → rk c < rk r) (trans : ∀ a b c, le a b → le b c → le a c) {ini : List ρ} {row best nb : ρ} (h : See ch rk le top (ini ++ [row]) best) (h1 : le nb row) (h2 : le nb best) (h3 : nb = row ∨ nb = best) :
    See ch rk le top (ini ++ ch row) nb := by
  have hr : row ∈ al ch rk top := h.sub row (by simp)
  refine ⟨fun x hx => ?_, ?_, fun x hx => ?_⟩
  · rcases h.seen x hx with z | z
    · exact .inl (trans _ _ _ h2 z)
    · rw [List.flatMap_append, List.flatMap_cons, List.flatMap_nil, List.append_nil, al_eq down row] at z
      rcases List.mem_append.mp z with z | z
      · exact .inr (by rw [List.flatMap_append]; exact List.mem_append_left _ z)
      · rcases List.mem_cons.mp z with rfl | z
        · exact .inl h1
        · exact .inr (by rw [List.flatMap_append]; exact List.mem_append_right _ z)
  · rcases h3 with rfl | rfl
    · exact hr
    · exact h.mem
  · rcases List.mem_append.mp hx with z | z
    · exact h.sub x (List.mem_append_left _ z)
    · exact al_up down _ top row x (Nat.le_refl _) hr z
theorem See.ends {best : ρ} (h : See ch rk le top [] best) : best ∈ al ch rk top ∧ ∀ x ∈ al ch rk top, le best x :=
  ⟨h.mem, fun x hx => (h.seen x hx).elim id fun z => by simp at z⟩
end NM

set_option Elab.async false
set_option linter.all false
/-! plain: rows of names; how many there can be -/
namespace NM
variable {α : Type} [DecidableEq α]
def rkN (names row : List α) : Nat := (names.filter fun n => !decide (n ∈ row)).length
def chN (names : List α) (ok : List α → α → Bool) (row : List α) : List (List α) := (names.filter fun n => !decide (n ∈ row) && ok row n).map fun n => row ++ [n]
theorem filter_less {β : Type} {p q : β → Bool} : ∀ {l : List β} {a : β}, (∀ x, q x = true → p x = true) → a ∈ l → p a = true → q a = false → (l.filter q).length < (l.filter p).length
  | x :: l, a, h, ha, h1, h2 => by
    have le : ∀ (l : List β), (l.filter q).length ≤ (l.filter p).length := by
      intro l
      induction l with
      | nil => exact Nat.le_refl _
      | cons y l ih =>
        by_cases hq : q y = true
        · rw [List.filter_cons_of_pos hq, List.filter_cons_of_pos (h y hq)]
          exact Nat.succ_le_succ ih
        · rw [List.filter_cons_of_neg hq]
          by_cases hp : p y = true
          · rw [List.filter_cons_of_pos hp]; exact Nat.le_succ_of_le ih
          · rw [List.filter_cons_of_neg hp]; exact ih
    by_cases hq : q x = true
    · rw [List.filter_cons_of_pos hq, List.filter_cons_of_pos (h x hq)]
      rcases List.mem_cons.mp ha with rfl | ha
      · rw [hq] at h2; cases h2
      · exact Nat.succ_lt_succ (filter_less h ha h1 h2)
    · rw [List.filter_cons_of_neg hq]
      by_cases hp : p x = true
      · rw [List.filter_cons_of_pos hp]; exact Nat.lt_succ_of_le (le l)
      · rw [List.filter_cons_of_neg hp]
        rcases List.mem_cons.mp ha with rfl | ha
        · exact absurd h1 hp
        · exact filter_less h ha h1 h2
theorem downN (names : List α) (ok : List α → α → Bool) (r c : List α) (hc : c ∈ chN names ok r) : rkN names c < rkN names r := by
  obtain ⟨n, hn, rfl⟩ := List.mem_map.mp hc
  obtain ⟨h1, h2⟩ := List.mem_filter.mp hn
  rw [Bool.and_eq_true] at h2
  refine filter_less (a := n) (fun x hx => ?_) h1 h2.1 (by simp)
  simp only [List.mem_append, Bool.not_eq_true', decide_eq_false_iff_not, not_or] at hx ⊢
  exact hx.1
theorem chN_len (names : List α) (ok : List α → α → Bool) (r : List α) : (chN names ok r).length ≤ rkN names r := by
  unfold chN rkN
  rw [List.length_map, ← List.filter_filter]
  rw [List.filter_filter, show (fun n => !decide (n ∈ r) && ok r n) = fun n => ok r n && !decide (n ∈ r) from funext fun n => Bool.and_comm _ _, ← List.filter_filter]
  exact List.length_filter_le _ _
def bnd : Nat → Nat
  | 0 => 1
  | n + 1 => 1 + (n + 1) * bnd n
theorem bnd_mono : ∀ {n m : Nat}, n ≤ m → bnd n ≤ bnd m
  | n, 0, h => by rw [Nat.le_zero.mp h]; exact Nat.le_refl _
  | n, m + 1, h => by
    rcases Nat.lt_or_ge n (m + 1) with z | z
    · have := bnd_mono (Nat.le_of_lt_succ z)
      show _ ≤ 1 + (m + 1) * bnd m
      have h2 : 1 * bnd m ≤ (m + 1) * bnd m := Nat.mul_le_mul_right _ (by omega)
      omega
    · rw [Nat.le_antisymm h z]; exact Nat.le_refl _
theorem flat_len {β γ : Type} {f : β → List γ} {b : Nat} : ∀ {l : List β}, (∀ x ∈ l, (f x).length ≤ b) → (l.flatMap f).length ≤ l.length * b
  | [], _ => Nat.zero_le _
  | x :: l, h => by
    rw [List.flatMap_cons, List.length_append, List.length_cons, Nat.succ_mul]
    have h1 := h x List.mem_cons_self
    have h2 := flat_len fun y hy => h y (List.mem_cons_of_mem _ hy)
    omega
theorem al_len (names : List α) (ok : List α → α → Bool) : ∀ (n : Nat) (r : List α), rkN names r ≤ n → (al (chN names ok) (rkN names) r).length ≤ bnd n
  | n, r, h => by
    rw [al_eq (downN names ok), List.length_cons]
    cases n with
    | zero =>
      have e : chN names ok r = [] := List.eq_nil_iff_forall_not_mem.mpr fun c hc => by have := downN names ok r c hc; omega
      rw [e]; exact Nat.le_refl _
    | succ n =>
      have h1 := flat_len (f := al (chN names ok) (rkN names)) (b := bnd n) (l := chN names ok r) fun c hc => al_len names ok n c (by have := downN names ok r c hc; omega)
      have h2 := chN_len names ok r
      have h3 : (chN names ok r).length * bnd n ≤ (n + 1) * bnd n := Nat.mul_le_mul_right _ (by omega)
      show _ ≤ 1 + (n + 1) * bnd n
      omega
theorem left_le {ρ : Type} {ch : ρ → List ρ} {rk : ρ → Nat} (down : ∀ r c, c ∈ ch r → rk c < rk r) : ∀ (left : List ρ), left.length ≤ todo ch rk left
  | [] => Nat.le_refl _
  | x :: l => by
    have h := left_le down l
    unfold todo at h ⊢
    rw [List.flatMap_cons, List.length_append, al_eq down x, List.length_cons, List.length_cons]
    omega
end NM

set_option Elab.async false
set_option linter.all false
set_option maxRecDepth 100000
set_option maxHeartbeats 1000000
/-! plain: what holds of all rows; the least of rows -/
namespace NM
variable {ρ : Type} {ch : ρ → List ρ} {rk : ρ → Nat}
theorem al_ind (down : ∀ r c, c ∈ ch r → rk c < rk r) {Pr : ρ → Prop} (hs : ∀ x c, Pr x → c ∈ ch x → Pr c) : ∀ (n : Nat) (t : ρ), rk t ≤ n → Pr t → ∀ x ∈ al ch rk t, Pr x
  | n, t, h, h0, x, hx => by
    rw [al_eq down] at hx
    rcases List.mem_cons.mp hx with rfl | hx
    · exact h0
    · obtain ⟨y, hy, hx⟩ := List.mem_flatMap.mp hx
      cases n with
      | zero => have := down t y hy; omega
      | succ n => exact al_ind down hs n y (by have := down t y hy; omega) (hs t y h0 hy) x hx
end NM
namespace NM
open PySem TP
open PySem.W (dataLt dataLe)
abbrev DR : Dat (rT2 rInt (rTup rStr)) := datT2 datInt (datTup datStr)
abbrev rkey (r : List Str) : Int × List Str := (-(r.length : Int), r)
def leR (a b : List Str) : Prop := dataLt (DR.d (rkey b)) (DR.d (rkey a)) = false
theorem leR_trans (a b c : List Str) (h1 : leR a b) (h2 : leR b c) : leR a c := dle_trans h1 h2
theorem alR : AlD DR := al_T2 al_int (al_tup al_str)
theorem leR_anti {a b : List Str} (h1 : leR a b) (h2 : leR b a) : a = b := congrArg Prod.snd (data_anti alR h2 h1)
/-- the pairs sorted -/
def ranked (rows : List (List Str)) : List (Int × List Str) := (rows.map rkey).mergeSort (dataLe false DR.d)
def leastRow (rows : List (List Str)) : List Str := ((ranked rows).getD 0 (0, [])).2
theorem ranked_len (rows : List (List Str)) : (ranked rows).length = rows.length := by
  unfold ranked
  rw [List.length_mergeSort, List.length_map]
theorem least_spec {rows : List (List Str)} (h : rows ≠ []) : leastRow rows ∈ rows ∧ ∀ x ∈ rows, leR (leastRow rows) x := by
  have hl := ranked_len rows
  have hp := List.length_pos_iff.mpr h
  cases e : ranked rows with
  | nil => rw [e] at hl; have : 0 = rows.length := hl; omega
  | cons m r =>
    have hm : leastRow rows = m.2 := by unfold leastRow; rw [e]; rfl
    have h2 := sort_head (k := DR.d) (xs := rows.map rkey) (m := m) (by show (ranked rows).head? = _; rw [e]; rfl)
    obtain ⟨y, hy, ey⟩ := List.mem_map.mp h2.1
    subst ey
    rw [hm]
    exact ⟨hy, fun x hx => h2.2 _ (List.mem_map.mpr ⟨x, hx, rfl⟩)⟩
theorem least_is {rows : List (List Str)} {b : List Str} (hb : b ∈ rows) (h : ∀ x ∈ rows, leR b x) : b = leastRow rows := by
  have hs := least_spec (rows := rows) (fun z => by rw [z] at hb; cases hb)
  exact leR_anti (h _ hs.1) (hs.2 _ hb)
theorem least_congr {rows rows' : List (List Str)} (h0 : rows ≠ []) (h : ∀ x, x ∈ rows ↔ x ∈ rows') : leastRow rows = leastRow rows' := by
  have hs := least_spec h0
  exact least_is ((h _).mp hs.1) fun x hx => hs.2 x ((h x).mpr hx)
theorem rows_sub {names : List Str} {ok : List Str → Str → Bool} : ∀ x ∈ al (chN names ok) (rkN names) [], ∀ n ∈ x, n ∈ names :=
  al_ind (downN names ok) (Pr := fun x => ∀ n ∈ x, n ∈ names) (fun x c hx hc n hn => by
    obtain ⟨m, hm, rfl⟩ := List.mem_map.mp hc
    rcases List.mem_append.mp hn with z | z
    · exact hx n z
    · rw [List.mem_singleton.mp z]; exact (List.mem_filter.mp hm).1) _ [] (Nat.le_refl _) (fun n hn => by cases hn)
def dataLt' (a b : List Str) : Bool := dataLt (DR.d (0 - (a.length : Int), a)) (DR.d (0 - (b.length : Int), b))
theorem dl_key (a b : List Str) : dataLt' a b = dataLt (DR.d (rkey a)) (DR.d (rkey b)) := by unfold dataLt'; rw [Int.zero_sub, Int.zero_sub]
theorem dl_lt {a b : List Str} (h : dataLt' a b = true) : leR a b := by rw [dl_key] at h; exact dlt_asym h
theorem dl_ge {a b : List Str} (h : dataLt' a b = false) : leR b a := by rw [dl_key] at h; exact h
theorem leR_refl (a : List Str) : leR a a := PySem.W.dataLt_self _
theorem row_nodup {names : List Str} {ok : List Str → Str → Bool} : ∀ x ∈ al (chN names ok) (rkN names) [], x.Nodup :=
  al_ind (downN names ok) (Pr := fun x => x.Nodup) (fun x c hx hc => by
    obtain ⟨m, hm, rfl⟩ := List.mem_map.mp hc
    have h2 := (List.mem_filter.mp hm).2
    rw [Bool.and_eq_true, Bool.not_eq_true', decide_eq_false_iff_not] at h2
    rw [List.nodup_append]
    refine ⟨hx, by simp, fun a ha b hb e => h2.1 ?_⟩
    rw [← List.mem_singleton.mp hb, ← e]; exact ha) _ [] (Nat.le_refl _) List.nodup_nil
theorem row_len {names row : List Str} {ok : List Str → Str → Bool} (hs : ∀ n ∈ row, n ∈ names) (h6 : names.length ≤ 6) (h : row ∈ al (chN names ok) (rkN names) []) : row.length ≤ 100 := by
  have : row.length ≤ names.length := (row_nodup row h).length_le_of_subset fun n hn => hs n hn
  omega
/-- the same rows, whatever the order of the names -/
theorem rows_same {names names' : List Str} {ok ok' : List Str → Str → Bool} (hn : ∀ n, n ∈ names ↔ n ∈ names') (h : ∀ x, (∀ n ∈ x, n ∈ names) → ∀ n ∈ names, ok x n = ok' x n) : ∀ x ∈ al (chN names ok) (rkN names) [], x ∈ al (chN names' ok') (rkN names') [] := fun x hx => by
  have key := al_ind (downN names ok) (Pr := fun x => (∀ n ∈ x, n ∈ names) ∧ x ∈ al (chN names' ok') (rkN names') []) (fun x c hx hc => by
    obtain ⟨h1, h2⟩ := hx
    obtain ⟨m, hm, rfl⟩ := List.mem_map.mp hc
    obtain ⟨m1, m2⟩ := List.mem_filter.mp hm
    refine ⟨fun n hn => ?_, al_up (downN names' ok') _ [] x _ (Nat.le_refl _) h2 (List.mem_map.mpr ⟨m, List.mem_filter.mpr ⟨(hn m).mp m1, ?_⟩, rfl⟩)⟩
    · rcases List.mem_append.mp hn with z | z
      · exact h1 n z
      · rw [List.mem_singleton.mp z]; exact m1
    · rw [← h x h1 m m1]; exact m2) _ [] (Nat.le_refl _) ⟨fun n hn => by (cases hn), al_self (downN names' ok') []⟩ x hx
  exact key.2
theorem chN_step {names : List Str} {ok : List Str → Str → Bool} {row : List Str} {ini : List (List Str)} : names.foldl (fun l n => if (!decide (n ∈ row) && ok row n) = true then l ++ [row ++ [n]] else l) ini = ini ++ chN names ok row := by
  unfold chN
  induction names generalizing ini with
  | nil => simp
  | cons n r ih =>
    rw [List.foldl_cons, ih]
    by_cases h : (!decide (n ∈ row) && ok row n) = true
    · rw [if_pos h, List.filter_cons_of_pos (by simpa using h), List.map_cons, List.append_assoc]; rfl
    · rw [if_neg h, List.filter_cons_of_neg (by simpa using h)]
theorem flat_step {names : List Str} {ok : List Str → Str → Bool} {row : List Str} {f : List Str → List (List Str)} {ini : List (List Str)} : names.foldl (fun l n => if (!decide (n ∈ row) && ok row n) = true then l ++ f (row ++ [n]) else l) ini = ini ++ (chN names ok row).flatMap f := by
  unfold chN
  induction names generalizing ini with
  | nil => simp
  | cons n r ih =>
    rw [List.foldl_cons, ih]
    by_cases h : (!decide (n ∈ row) && ok row n) = true
    · rw [if_pos h, List.filter_cons_of_pos (by simpa using h), List.map_cons, List.flatMap_cons, List.append_assoc]
    · rw [if_neg h, List.filter_cons_of_neg (by simpa using h)]
theorem rk_all (names : List Str) (row : List Str) : rkN names row ≤ names.length := List.length_filter_le _ _
theorem lastD_getD {row : List Str} {d : Str} (h : row ≠ []) : row.getLastD d = row.getD (row.length - 1) d := by
  rw [List.getLastD_eq_getLast?, List.getLast?_eq_getElem?, List.getD_eq_getElem?_getD]
end NM

set_option Elab.async false
set_option linter.all false
set_option maxRecDepth 100000
set_option maxHeartbeats 1000000
namespace KH
open PySem PySem.Spec PyProof.Rows L2 TP DkL NM
/-! ### the longest nest -/
def dP : PotV := ("", [], 0, ⟨"", 0, 0, 0⟩)
abbrev PTab := List (Str × PotV)
def tabOf (pots : List PotV) : PTab := dcL (fun _ => true) (fun p : PotV => p.1) id pots
def okP (tb : PTab) (row : List Str) (n : Str) : Bool := decide (row = []) || mRoom ((lookK tb (row.getLastD "")).getD dP) ((lookK tb n).getD dP)
def namesOf (pots : List PotV) : List Str := pots.map fun p => p.1
def allP (pots : List PotV) : List (List Str) := al (chN (namesOf pots) (okP (tabOf pots))) (rkN (namesOf pots)) []
def mNest (pots : List PotV) : List Str := leastRow (allP pots)
def badNe (pots : List PotV) : Bool := decide (12 < (pots.length : Int)) || decide (((tabOf pots).length : Int) < (pots.length : Int))
def preNe (pots : List PotV) : Prop := pots.length ≤ 1000 ∧ (badNe pots = false → pots.length ≤ 6 ∧ (namesOf pots).Nodup ∧ (∀ p ∈ pots, goodPt p ∧ PyData.canLay0 (.str p.1) = true))
def A_nest (K : PySem.W.Frag) : Ans (List PotV) (List Str) := ⟨preNe, badNe, fun _ => aErr K, mNest⟩
theorem tab_nd {pots : List PotV} (h : (namesOf pots).Nodup) : tabOf pots = pots.map fun p => (p.1, p) := by
  unfold tabOf
  rw [dcL_map (by rw [List.filter_eq_self.mpr (fun _ _ => rfl)]; exact h), List.filter_eq_self.mpr (fun _ _ => rfl)]
  rfl
theorem look_good {Pr : PotV → Prop} {pots : List PotV} (h : (namesOf pots).Nodup) (hg : ∀ p ∈ pots, Pr p) {n : Str} (hn : n ∈ namesOf pots) : (lookK (tabOf pots) n).isSome = true ∧ Pr ((lookK (tabOf pots) n).getD dP) := by
  have hk : n ∈ (tabOf pots).map (·.1) := by rw [tab_nd h, List.map_map]; exact hn
  have hs := look_some (α := PotV) hk
  refine ⟨hs, ?_⟩
  obtain ⟨v, hv⟩ := Option.isSome_iff_exists.mp hs
  rw [hv]
  have hm := lookK_some hv
  rw [tab_nd h] at hm
  obtain ⟨p, hp, e⟩ := List.mem_map.mp hm
  have e2 : p = v := congrArg Prod.snd e
  rw [← e2]
  exact hg p hp
theorem getLastD_mem {α : Type} {l : List α} {d : α} (h : l ≠ []) : l.getLastD d ∈ l := by
  rw [List.getLastD_eq_getLast?, List.getLast?_eq_some_getLast h]
  exact List.getLast_mem h
section
variable {P : Program} {w : World} {K : PySem.W.Frag} {mg : Str → Option Value} {base : Heap} {G : List Addr}
theorem sc_longest_nest : FnScope ["pots", "table", "best", "left", "row", "name", "pot"] ["pots"] d_longest_nest.scope := C8.fnScope_by (by decide +kernel)
theorem b_longest_nest {w : World} {K : PySem.W.Frag} {mg : Str → Option Value} (T : Top w K mg) : Binds K (fdOf K d_longest_nest.at_) ["pots"] [] := (D_longest_nest T).binds (fun _ _ _ _ _ _ us hl => match us, hl with | [_], _ => rfl)
theorem ok_longest_nest (T : Top w K mg) (TG : TGs base mg K G) : Kp P w K mg base 12 d_longest_nest ["pots"] (spB G (A_nest K) (fun x => [⟨rList (rPot K), x⟩]) (rTup rStr)) := by
  refine (D_longest_nest T).ok sc_longest_nest (spF_len fun _ => rfl) fun A outer s H vs Q E hr hsp => ⟨_, (pss_cons (ps_setDc (i := 1) rfl sc_longest_nest.nd rfl rfl (sw_trueD rfl rfl rfl rfl) (own := [("pot", 6)]) (pi_listK (K := K) rfl (pv 0)) (blkOk_by (by kernel_rfl)) (fun _ _ _ _ _ => (pg_name (i := 6) sc_longest_nest.nd rfl (by first | exact Or.inl rfl | exact Or.inr rfl))) (fun _ _ _ _ _ => pts_nil) (fun _ _ _ _ _ => (pe_fldK (K := K) rfl (pv 6) rfl)) (fun _ _ _ _ _ => (pv 6))) (pss_cons (ps_frzS (i := 1) (ps_if (PW.pt (pw_or (pt_cmpR op_gt (pe_callB (call_len_seqK (K := K) rfl) rfl (f_len T) (by decide +kernel) (pa_cons (pv 0) pa_nil)) pe_int (nomark _)) (pw_or1 (pt_cmpR op_lt (pe_callB call_lenR rfl (f_len T) (by decide +kernel) (pa_cons (pv 1) pa_nil)) (pe_callB (call_len_seqK (K := K) rfl) rfl (f_len T) (by decide +kernel) (pa_cons (pv 0) pa_nil)) (nomark _))))) (pss_one (ps_own (e_PotError T) (g_PotError T) (takes_of rfl rfl rfl rfl) rfl)) pss_nil)) (pss_cons (ps_par (i := 2) (j := 3) rfl sc_longest_nest.nd rfl rfl (by decide) rfl rfl (pa_cons (pe_tup pa_nil) (pa_cons (pe_lst (pa_cons (pe_tup pa_nil) pa_nil)) pa_nil)) rfl) (pss_cons (ps_while (passes_of rfl) (pt_cmpR (op_neEK (K := K) rfl hr.units0) (pv 3) (pe_lst pa_nil) (nomark _)) (pss_cons (ps_set (i := 4) sc_longest_nest.nd rfl (by first | exact Or.inl rfl | exact Or.inr rfl) (pe_popK (K := K) rfl (pv 3))) (pss_cons (ps_if (pt_cmpR (op_ltDK (K := K) rfl hr.units) (pe_tup (pa_cons (pe_op op_sub pe_int (pe_callB (call_len_seqK (K := K) rfl) rfl (f_len T) (by decide +kernel) (pa_cons (pv 4) pa_nil))) (pa_cons (pv 4) pa_nil))) (pe_tup (pa_cons (pe_op op_sub pe_int (pe_callB (call_len_seqK (K := K) rfl) rfl (f_len T) (by decide +kernel) (pa_cons (pv 2) pa_nil))) (pa_cons (pv 2) pa_nil))) (nomark _)) (pss_one (ps_set (i := 2) sc_longest_nest.nd rfl (by first | exact Or.inl rfl | exact Or.inr rfl) (pv 4))) pss_nil) (pss_one (ps_for (passes_of rfl) rfl (pi_keys (pv 1)) (pg_name (i := 5) sc_longest_nest.nd rfl (by first | exact Or.inl rfl | exact Or.inr rfl)) (pss_one (ps_if (PW.pt (pw_and (pt_cmpR (op_notInSeqK (K := K) rfl) (pv 5) (pv 4) rfl) (pw_and1 (PW.pt (pw_or (pt_cmpR (op_eqDK (K := K) rfl hr.units) (pv 4) (pe_tup pa_nil) (nomark _)) (pw_or1 (pt_val (pe_meth (pe_dget hr.units1 (pv 1) (pe_ix (ix_tupK (K := K) rfl) (pv 4) (pe_un un_neg pe_int) (fun _ _ => rfl)) (fun _ _ => rfl)) (c_Pot T) (m_Pot_has_room_for T) (ok_Pot_has_room_for (G := G) T TG) (hr.mono (show 11 ≤ 11 by decide)) (b_Pot_has_room_for T) .nil (passes_call (takes_of rfl rfl rfl rfl) (fun _ _ _ _ h => h)) (pa_cons (pe_dget hr.units1 (pv 1) (pv 5) (fun _ _ => rfl)) pa_nil))))))))) (pss_one (ps_expr (pe_bmK (K := K) rfl PySem.F.plainAttrs_list PySem.F.slot_list_append PySem.F.type_list_append mt_append (pv 3) (pa_cons (pe_op (op_catAK (K := K) rfl) (pv 4) (pe_tup (pa_cons (pv 5) pa_nil))) pa_nil)))) pss_nil))))))) (pss_one (ps_ret (pv 2))))))), ?_⟩
  refine inB (n := 6) (k := 1) hsp (fun _ => rfl) rfl fun F pots hG hO hp hok her => ?_
  subst hG
  obtain ⟨p1, p2⟩ := (show preNe pots from hp)
  (refine s_le (Le.refl _) ?_; try dsimp only [List.set, ctx0, List.map, List.replicate, List.nil_append, List.cons_append, putC, List.zip, List.zipWith])
  refine s_seq (s_setN (O := oDct (rPot K) (tabOf pots)) (en_dcN (p := fun x1 => _) (key := fun x1 => _) (f := fun x1 => _) (src_list (e_var rfl)) ?_ (noAll_of rfl) (fun x1 hx1 => tud_pure (noAll_of rfl) (tg_name (plain1 rfl)) (by decide) ⟨plAll_of rfl, rfl⟩ t_yes (fun hx1t => (e_fld (g := fun s : PotV => s.1) (c_Pot T) (n_Pot_name T) h_Pot_name (e_var rfl))) (fun hx1t => (e_var rfl)))) (plain1 rfl) (show 1 < 7 by decide) ?_)
  · show pots.length ≤ 100000
    omega
  (refine s_le (Le.refl _) ?_; try dsimp only [List.set, ctx0, List.map, List.replicate, List.nil_append, List.cons_append, putC, List.zip, List.zipWith])
  refine s_frzS (i := 1) hO rfl ?_
  (refine s_le (Le.refl _) ?_; try dsimp only [List.set, ctx0, List.map, List.replicate, List.nil_append, List.cons_append, putC, List.zip, List.zipWith])
  refine s_seq (s_if (t_or (t_of (e_gt (e_len (a_cons (e_var rfl) a_nil)) e_int)) (fun _ => (t_of (e_lt (e_lenD (a_cons (e_var rfl) a_nil)) (e_len (a_cons (e_var rfl) a_nil)))))) (fun h => s_raise (her h)) (fun h => s_next ?_))
  have h : badNe pots = false := h
  obtain ⟨q1, q2, q3⟩ := p2 h
  (refine s_le (Le.refl _) ?_; try dsimp only [List.set, ctx0, List.map, List.replicate, List.nil_append, List.cons_append, putC, List.zip, List.zipWith])
  refine s_seq (s_par2N (Γr := [.val (rTup rStr) [], .own (oLst (rTup rStr) [[]])]) (an_pl (e_tup (xs := []) a_nil (by simp)) (an_fr (en_lst (xs := [_]) (a_cons (e_tup (xs := []) a_nil (by simp)) a_nil) (by decide)) an_nil)) rfl (oks rfl) ?_)
  (refine s_le (Le.refl _) ?_; try dsimp only [List.set, ctx0, List.map, List.replicate, List.nil_append, List.cons_append, putC, List.zip, List.zipWith])
  have hdn := downN (namesOf pots) (okP (tabOf pots))
  have hk : (tabOf pots).map (·.1) = namesOf pots := by rw [tab_nd q2, List.map_map]; rfl
  have h6 : (namesOf pots).length ≤ 6 := by unfold namesOf; rw [List.length_map]; exact q1
  have hcl : ∀ n ∈ namesOf pots, PyData.canLay0 (.str n) = true := fun n hn => by
    obtain ⟨p, hp, rfl⟩ := List.mem_map.mp hn
    exact (q3 p hp).2
  refine s_seq (s_while (Sx := List Str × List (List Str)) (Γs := fun st => [.val (rList (rPot K)) pots, .val (rDct (rPot K)) (tabOf pots), .val (rTup rStr) st.1, .own (oLst (rTup rStr) st.2), .no, .no, .no]) (fun st => See (chN (namesOf pots) (okP (tabOf pots))) (rkN (namesOf pots)) leR [] st.2 st.1 ∧ todo (chN (namesOf pots) (okP (tabOf pots))) (rkN (namesOf pots)) st.2 ≤ 1957) (fun st => todo (chN (namesOf pots) (okP (tabOf pots))) (rkN (namesOf pots)) st.2) (s0 := ([], [[]])) ⟨See.start hdn, ?_⟩ fun st hi => ⟨_, (t_of (e_neEO rfl)), fun hc N hN => ?_, fun hc => ?_⟩)
  · unfold todo
    rw [List.flatMap_cons, List.flatMap_nil, List.append_nil]
    refine Nat.le_trans (al_len (namesOf pots) (okP (tabOf pots)) 6 [] (Nat.le_trans (rk_all _ _) h6)) ?_
    decide
  · obtain ⟨best, left⟩ := st
    obtain ⟨i1, i2⟩ := hi
    have i1 : See (chN (namesOf pots) (okP (tabOf pots))) (rkN (namesOf pots)) leR [] left best := i1
    have i2 : todo (chN (namesOf pots) (okP (tabOf pots))) (rkN (namesOf pots)) left ≤ 1957 := i2
    have hne : left ≠ [] := fun z => by subst z; cases hc
    obtain ⟨ini, row, hl⟩ : ∃ ini row, left = ini ++ [row] := ⟨left.dropLast, left.getLast hne, (List.dropLast_concat_getLast hne).symm⟩
    subst hl
    have hts := todo_step hdn ini row
    have hlen := left_le hdn (ini ++ chN (namesOf pots) (okP (tabOf pots)) row)
    have hrs : ∀ n ∈ row, n ∈ namesOf pots := rows_sub row (i1.sub row (by simp))
    have hbs : ∀ n ∈ best, n ∈ namesOf pots := rows_sub best i1.mem
    (refine s_le (Le.refl _) ?_; try dsimp only [List.set, ctx0, List.map, List.replicate, List.nil_append, List.cons_append, putC, List.zip, List.zipWith])
    refine s_seq (s_set (R := rTup rStr) (a := row) (Γ1 := [.val (rList (rPot K)) pots, .val (rDct (rPot K)) (tabOf pots), .val (rTup rStr) best, .own (oLst (rTup rStr) ini), .no, .no, .no]) ?_ (plain1 rfl) ?_)
    · have := e_pop (G := F.G) (Γ := [.val (rList (rPot K)) pots, .val (rDct (rPot K)) (tabOf pots), .val (rTup rStr) best, .own (oLst (rTup rStr) (ini ++ [row])), .no, .no, .no]) (K := K) (i := 3) (a := row) rfl (by simp)
      rw [List.dropLast_concat] at this
      exact this
    (refine s_le (Le.refl _) ?_; try dsimp only [List.set, ctx0, List.map, List.replicate, List.nil_append, List.cons_append, putC, List.zip, List.zipWith])
    refine s_seqJ (Sx := List Str) (fun nb => [.val (rList (rPot K)) pots, .val (rDct (rPot K)) (tabOf pots), .val (rTup rStr) nb, .own (oLst (rTup rStr) ini), .val (rTup rStr) row, .no, .no]) (fun nb => leR nb row ∧ leR nb best ∧ (nb = row ∨ nb = best)) (fun N2 hN2 => s_if (t_of (e_ltD (datT2 datInt (datTup datStr)) (al_T2 al_int (al_tup al_str)) (e_t2 (a_cons (e_sub e_int (e_lenT (a_cons (e_var rfl) a_nil))) (a_cons (e_var rfl) a_nil))) (e_t2 (a_cons (e_sub e_int (e_lenT (a_cons (e_var rfl) a_nil))) (a_cons (e_var rfl) a_nil))) ?_)) (fun hb => ?_) (fun hb => s_next ?_)) (fun nb hnb => ?_)
    · exact ⟨trivial, fun n hn => hcl n (hrs n hn)⟩
    · have hb : dataLt' row best = true := hb
      (refine s_le (Le.refl _) ?_; try dsimp only [List.set, ctx0, List.map, List.replicate, List.nil_append, List.cons_append, putC, List.zip, List.zipWith])
      refine s_set (e_var rfl) (plain1 rfl) (hN2 row ⟨leR_refl row, ?_, .inl rfl⟩)
      exact dl_lt hb
    · have hb : dataLt' row best = false := hb
      exact hN2 best ⟨dl_ge hb, leR_refl best, .inr rfl⟩
    · obtain ⟨n1, n2, n3⟩ := hnb
      (refine s_le (Le.refl _) ?_; try dsimp only [List.set, ctx0, List.map, List.replicate, List.nil_append, List.cons_append, putC, List.zip, List.zipWith])
      refine s_forN (Γs := fun l => [.val (rList (rPot K)) pots, .val (rDct (rPot K)) (tabOf pots), .val (rTup rStr) nb, .own (oLst (rTup rStr) l), .val (rTup rStr) row, .no, .no]) (fun l n => if (!decide (n ∈ row) && okP (tabOf pots) row n) = true then l ++ [row ++ [n]] else l) (fun i l => l.length ≤ ini.length + i) (s0 := ini) (xs := namesOf pots) (Nat.le_refl _) (fun i l y hi hy => ?_) (es_is (src_keys (e_var rfl)) hk) (fun i l y hi hy => ⟨_, _, (tg_name (plain1 rfl)), fun g' N3 hN3 hB => ?_⟩) (fun hl => ?_)
      · split
        · rw [List.length_append]
          show l.length + 1 ≤ _
          omega
        · omega
      · have hi : l.length ≤ ini.length + i := hi
        have hi6 := (List.getElem?_eq_some_iff.mp hy).1
        have hyn := List.mem_of_getElem? hy
        have hini := left_le hdn ini
        have htd : todo (chN (namesOf pots) (okP (tabOf pots))) (rkN (namesOf pots)) ini ≤ todo (chN (namesOf pots) (okP (tabOf pots))) (rkN (namesOf pots)) (ini ++ [row]) := by
          unfold todo
          rw [List.flatMap_append, List.length_append]
          omega
        (refine s_le (Le.refl _) ?_; try dsimp only [List.set, ctx0, List.map, List.replicate, List.nil_append, List.cons_append, putC, List.zip, List.zipWith])
        refine s_if (et_is (c := !decide (y ∈ row) && okP (tabOf pots) row y) (t_and (t_of (e_notinT (e_var rfl) (e_var rfl))) (fun _ => (t_or (t_of (e_eqD (datTup datStr) (e_var rfl) (e_tup (xs := []) a_nil (by simp)) ?_ ?_)) (fun _ => (t_B (e_methB (_, _) (o_Pot_has_room_for) (e_dgetD (d := dP) (e_var rfl) (e_ixTm (d := ("" : Str)) (e_var rfl) (e_neg e_int) rfl ?_) ?_) (a_cons (e_dgetD (d := dP) (e_var rfl) (e_var rfl) ?_) a_nil) rfl ?_ ?_)))))) ?_) (fun hcc => ?_) (fun hcc => s_next ?_)
        · exact fun n hn => hcl n (hrs n hn)
        · exact fun n hn => by cases hn
        · rename_i hz
          have hz : decide (row = []) = false := hz
          exact of_decide_eq_false hz
        · rename_i hz
          have hz : decide (row = []) = false := hz
          exact (look_good (Pr := fun _ => True) q2 (fun _ _ => trivial) (hrs _ (getLastD_mem (of_decide_eq_false hz)))).1
        · exact (look_good (Pr := fun _ => True) q2 (fun _ _ => trivial) hyn).1
        · rename_i hz
          have hz : decide (row = []) = false := hz
          exact ⟨(look_good (Pr := fun p => goodPt p ∧ _) q2 q3 (hrs _ (getLastD_mem (of_decide_eq_false hz)))).2.1, (look_good (Pr := fun p => goodPt p ∧ _) q2 q3 hyn).2.1⟩
        · rfl
        · rfl
        · rw [if_pos hcc] at hN3
          (refine s_le (Le.refl _) ?_; try dsimp only [List.set, ctx0, List.map, List.replicate, List.nil_append, List.cons_append, putC, List.zip, List.zipWith])
          refine s_append rfl rfl (e_catT (e_var rfl) (e_tup (xs := [_]) (a_cons (e_var rfl) a_nil) (by simp)) ?_) ?_ ?_
          · have : row.length ≤ 100 := row_len hrs h6 (i1.sub row (by simp))
            show row.length + 1 ≤ 100000
            omega
          · omega
          exact s_le (by repeat' (first | exact Le.nil | apply Le.same | refine Le.no trivial ?_)) hN3
        · rw [if_neg (by rw [show (!decide (y ∈ row) && okP (tabOf pots) row y) = false from hcc]; exact Bool.false_ne_true)] at hN3
          exact s_le (by repeat' (first | exact Le.nil | apply Le.same | refine Le.no trivial ?_)) hN3
      · rw [chN_step]
        refine s_le (by repeat' (first | exact Le.nil | apply Le.same | refine Le.no trivial ?_)) (hN (nb, ini ++ chN (namesOf pots) (okP (tabOf pots)) row) ⟨i1.step hdn leR_trans n1 n2 n3, ?_⟩ ?_)
        · show todo (chN (namesOf pots) (okP (tabOf pots))) (rkN (namesOf pots)) (ini ++ chN (namesOf pots) (okP (tabOf pots)) row) ≤ 1957
          omega
        · show todo (chN (namesOf pots) (okP (tabOf pots))) (rkN (namesOf pots)) (ini ++ chN (namesOf pots) (okP (tabOf pots)) row) < todo (chN (namesOf pots) (okP (tabOf pots))) (rkN (namesOf pots)) (ini ++ [row])
          omega
  · obtain ⟨best, left⟩ := st
    obtain ⟨i1, i2⟩ := hi
    have hl : left = [] := by
      cases left with
      | nil => rfl
      | cons _ _ => cases hc
    subst hl
    have i1 : See (chN (namesOf pots) (okP (tabOf pots))) (rkN (namesOf pots)) leR [] [] best := i1
    (refine s_le (Le.refl _) ?_; try dsimp only [List.set, ctx0, List.map, List.replicate, List.nil_append, List.cons_append, putC, List.zip, List.zipWith])
    refine s_ret (e_is (e_var rfl) ?_) (hok h)
    exact least_is i1.ends.1 i1.ends.2
end
end KH


set_option Elab.async false
set_option linter.all false
set_option maxRecDepth 100000
set_option maxHeartbeats 1000000
namespace KH
open PySem PySem.Spec PyProof.Rows L2 TP DkL NM
/-! ### the law's rows -/
abbrev OTab := List (Str × OwnP)
def keysO (own : OTab) : List Str := own.map (·.1)
def dO : OwnP := ([], 0)
def okL (own : OTab) (row : List Str) (n : Str) : Bool := decide (row = []) || lWithin ((lookK own (row.getD ((row.length : Int) - 1).toNat "")).getD dO) ((lookK own n).getD dO)
def rowsL (own : OTab) (row : List Str) : List (List Str) := al (chN (keysO own) (okL own)) (rkN (keysO own)) row
def goodOw (own : OTab) : Prop := own.length ≤ 6 ∧ (keysO own).Nodup ∧ ∀ x ∈ own, preCol x.2.1 ∧ 0 ≤ x.2.2 ∧ x.2.2 ≤ 1000 ∧ PyData.canLay0 (.str x.1) = true
def preNs (n : Nat) (x : OTab × List Str) : Prop := goodOw x.1 ∧ rkN (keysO x.1) x.2 < n ∧ (∀ m ∈ x.2, m ∈ keysO x.1) ∧ x.2.length + n ≤ 100
def A_nests (n : Nat) (K : PySem.W.Frag) : Ans (OTab × List Str) (List (List Str)) := ⟨preNs n, fun _ => false, fun _ => aErr K, fun x => rowsL x.1 x.2⟩
theorem own_get {own : OTab} (h : goodOw own) {k : Str} (hk : k ∈ keysO own) : (lookK own k).isSome = true ∧ preCol ((lookK own k).getD dO).1 ∧ 0 ≤ ((lookK own k).getD dO).2 ∧ ((lookK own k).getD dO).2 ≤ 1000 := by
  have hs := look_some (xs := own) hk
  refine ⟨hs, ?_⟩
  obtain ⟨v, hv⟩ := Option.isSome_iff_exists.mp hs
  rw [hv]
  have := h.2.2 _ (lookK_some hv)
  exact ⟨this.1, this.2.1, this.2.2.1⟩
theorem last_in {row : List Str} (h : row ≠ []) : row.getD ((row.length : Int) - 1).toNat "" ∈ row := by
  have hl := List.length_pos_iff.mpr h
  have : ((row.length : Int) - 1).toNat < row.length := by omega
  rw [List.getD_eq_getElem?_getD, List.getElem?_eq_getElem this]
  exact List.getElem_mem this
section
variable {P : Program} {w : World} {K : PySem.W.Frag} {mg : Str → Option Value} {base : Heap} {G : List Addr}
theorem sc_law_nests : FnScope ["own", "row", "found", "name"] ["own", "row"] d_law_nests.scope := C8.fnScope_by (by decide +kernel)
theorem b_law_nests {w : World} {K : PySem.W.Frag} {mg : Str → Option Value} (T : Top w K mg) : Binds K (fdOf K d_law_nests.at_) ["own", "row"] [] := (D_law_nests T).binds (fun _ _ _ _ _ _ us hl => match us, hl with | [_, _], _ => rfl)
theorem ok_law_nests (T : Top w K mg) : ∀ n : Nat, Kp P w K mg base (3 + n) d_law_nests ["own", "row"] (spB G (A_nests n K) (fun x => [⟨rDct rOw, x.1⟩, ⟨rTup rStr, x.2⟩]) (rList (rTup rStr)))
  | 0 => by
    refine (D_law_nests T).ok (k := 2) sc_law_nests (spF_len fun _ => rfl) fun A outer s H vs Q E hr hsp => ?_
    obtain ⟨M, x, _, hp, _⟩ := hsp
    exact absurd hp.2.1 (Nat.not_lt_zero _)
  | m + 1 => by
    have ih := ok_law_nests T m
    refine (D_law_nests T).ok (k := 3 + m) sc_law_nests (spF_len fun _ => rfl) fun A outer s H vs Q E hr hsp => ⟨_, (pss_cons (ps_set (i := 2) sc_law_nests.nd rfl (by first | exact Or.inl rfl | exact Or.inr rfl) (pe_lst (pa_cons (pv 1) pa_nil))) (pss_cons (ps_for (passes_of rfl) rfl (pi_keys (pv 0)) (pg_name (i := 3) sc_law_nests.nd rfl (by first | exact Or.inl rfl | exact Or.inr rfl)) (pss_one (ps_if (PW.pt (pw_and (pt_cmpR (op_notInSeqK (K := K) rfl) (pv 3) (pv 1) rfl) (pw_and1 (PW.pt (pw_or (pt_cmpR (op_eqDK (K := K) rfl hr.units) (pv 1) (pe_tup pa_nil) (nomark _)) (pw_or1 (pt_val (pe_call (ok_law_within (G := G) T) (hr.mono (show 2 ≤ 3 + m by omega)) rfl (g_law_within T) (D_law_within T).kp (b_law_within T) .nil (passes_call (takes_of rfl rfl rfl rfl) (fun _ _ _ _ h => h)) (pa_cons (pe_dget hr.units1 (pv 0) (pe_ix (ix_tupK (K := K) rfl) (pv 1) (pe_op op_sub (pe_callB (call_len_seqK (K := K) rfl) rfl (f_len T) (by decide +kernel) (pa_cons (pv 1) pa_nil)) pe_int) (fun _ _ => rfl)) (fun _ _ => rfl)) (pa_cons (pe_dget hr.units1 (pv 0) (pv 3) (fun _ _ => rfl)) pa_nil)))))))))) (pss_one (ps_set (i := 2) sc_law_nests.nd rfl (by first | exact Or.inl rfl | exact Or.inr rfl) (pe_op op_cat (pv 2) (pe_call ih hr rfl (g_law_nests T) (D_law_nests T).kp (b_law_nests T) .nil (passes_call (takes_of rfl rfl rfl rfl) (fun _ _ _ _ h => h)) (pa_cons (pv 0) (pa_cons (pe_op (op_catAK (K := K) rfl) (pv 1) (pe_tup (pa_cons (pv 3) pa_nil))) pa_nil)))))) pss_nil))) (pss_one (ps_ret (pv 2))))), ?_⟩
    refine inB (n := 2) (k := 2) hsp (fun _ => rfl) rfl fun F z hG hO hp hok her => ?_
    subst hG
    obtain ⟨own, row⟩ := z
    obtain ⟨go, p2, p3, p4⟩ := (show preNs (m + 1) (own, row) from hp)
    have p2 : rkN (keysO own) row < m + 1 := p2
    have p3 : ∀ m ∈ row, m ∈ keysO own := p3
    have p4 : row.length + (m + 1) ≤ 100 := p4
    have hdn := downN (keysO own) (okL own)
    have h6 : (keysO own).length ≤ 6 := by unfold keysO; rw [List.length_map]; exact go.1
    have hcl : ∀ n ∈ keysO own, PyData.canLay0 (.str n) = true := fun n hn => by
      obtain ⟨p, hp, rfl⟩ := List.mem_map.mp hn
      exact (go.2.2 p hp).2.2.2
    (refine s_le (Le.refl _) ?_; try dsimp only [List.set, ctx0, List.map, List.replicate, List.nil_append, List.cons_append, putC, List.zip, List.zipWith])
    refine s_seq (s_set (R := rList (rTup rStr)) (a := [row]) (e_lst (xs := [_]) (a_cons (e_var rfl) a_nil) (by simp)) (plain1 rfl) ?_)
    (refine s_le (Le.refl _) ?_; try dsimp only [List.set, ctx0, List.map, List.replicate, List.nil_append, List.cons_append, putC, List.zip, List.zipWith])
    refine s_seq (s_forN (Γs := fun l => [.val (rDct rOw) own, .val (rTup rStr) row, .val (rList (rTup rStr)) l, .no]) (fun l n => if (!decide (n ∈ row) && okL own row n) = true then l ++ rowsL own (row ++ [n]) else l) (fun i l => l.length ≤ 1 + 1957 * i) (s0 := [row]) (xs := keysO own) (Nat.le_refl _) (fun i l y hi hy => ?_) (src_keys (e_var rfl)) (fun i l y hi hy => ⟨_, _, (tg_name (plain1 rfl)), fun g' N hN hB => ?_⟩) (fun hl => ?_))
    · have hb := al_len (keysO own) (okL own) 6 (row ++ [y]) (Nat.le_trans (rk_all _ _) h6)
      have e6 : bnd 6 = 1957 := by decide
      rw [e6] at hb
      split
      · rw [List.length_append]
        show l.length + (rowsL own (row ++ [y])).length ≤ _
        have hb : (rowsL own (row ++ [y])).length ≤ 1957 := hb
        omega
      · omega
    · have hi : l.length ≤ 1 + 1957 * i := hi
      have hi6 := (List.getElem?_eq_some_iff.mp hy).1
      have hyn := List.mem_of_getElem? hy
      have hb := al_len (keysO own) (okL own) 6 (row ++ [y]) (Nat.le_trans (rk_all _ _) h6)
      have e6 : bnd 6 = 1957 := by decide
      rw [e6] at hb
      have hb : (rowsL own (row ++ [y])).length ≤ 1957 := hb
      (refine s_le (Le.refl _) ?_; try dsimp only [List.set, ctx0, List.map, List.replicate, List.nil_append, List.cons_append, putC, List.zip, List.zipWith])
      refine s_if (et_is (c := !decide (y ∈ row) && okL own row y) (t_and (t_of (e_notinT (e_var rfl) (e_var rfl))) (fun _ => (t_or (t_of (e_eqD (datTup datStr) (e_var rfl) (e_tup (xs := []) a_nil (by simp)) ?_ ?_)) (fun _ => (t_B (e_callB (_, _) (a_cons (e_dgetD (d := ([], 0)) (e_var rfl) (e_ixTd (d := ("" : Str)) (e_var rfl) (e_sub (e_lenT (a_cons (e_var rfl) a_nil)) e_int) ?_) ?_) (a_cons (e_dgetD (d := ([], 0)) (e_var rfl) (e_var rfl) ?_) a_nil)) ?_ ?_)))))) ?_) (fun hcc => ?_) (fun hcc => s_next ?_)
      · exact fun n hn => hcl n (p3 n hn)
      · exact fun n hn => by cases hn
      · rename_i hz
        have hz : decide (row = []) = false := hz
        have := List.length_pos_iff.mpr (of_decide_eq_false hz)
        constructor <;> omega
      · rename_i hz
        have hz : decide (row = []) = false := hz
        exact (own_get go (p3 _ (last_in (of_decide_eq_false hz)))).1
      · exact (own_get go hyn).1
      · rename_i hz
        have hz : decide (row = []) = false := hz
        have g1 := own_get go (p3 _ (last_in (of_decide_eq_false hz)))
        exact ⟨g1.2.1, (own_get go hyn).2.1, g1.2.2.1, g1.2.2.2⟩
      · rfl
      · rfl
      · rw [if_pos hcc] at hN
        have hnr : rkN (keysO own) (row ++ [y]) < m := by
          have := hdn row (row ++ [y]) (List.mem_map.mpr ⟨y, List.mem_filter.mpr ⟨hyn, hcc⟩, rfl⟩)
          omega
        (refine s_le (Le.refl _) ?_; try dsimp only [List.set, ctx0, List.map, List.replicate, List.nil_append, List.cons_append, putC, List.zip, List.zipWith])
        refine s_set (e_catL (e_var rfl) (e_callB (_, _) (a_cons (e_var rfl) (a_cons (e_catT (e_var rfl) (e_tup (xs := [_]) (a_cons (e_var rfl) a_nil) (by simp)) ?_) a_nil)) ?_ ?_) ?_) (plain1 rfl) ?_
        · show row.length + 1 ≤ 100000
          omega
        · refine ⟨go, hnr, fun n hn => ?_, ?_⟩
          · rcases List.mem_append.mp hn with z | z
            · exact p3 n z
            · rw [List.mem_singleton.mp z]; exact hyn
          · show (row ++ [y]).length + m ≤ 100
            rw [List.length_append]
            show row.length + 1 + m ≤ 100
            omega
        · rfl
        · show l.length + (rowsL own (row ++ [y])).length ≤ 100000
          omega
        exact s_le (by repeat' (first | exact Le.nil | apply Le.same | refine Le.no trivial ?_)) hN
      · rw [if_neg (by rw [show (!decide (y ∈ row) && okL own row y) = false from hcc]; exact Bool.false_ne_true)] at hN
        exact s_le (by repeat' (first | exact Le.nil | apply Le.same | refine Le.no trivial ?_)) hN
    · rw [flat_step]
      (refine s_le (Le.refl _) ?_; try dsimp only [List.set, ctx0, List.map, List.replicate, List.nil_append, List.cons_append, putC, List.zip, List.zipWith])
      refine s_ret (e_is (e_var rfl) ?_) (hok rfl)
      exact (al_eq hdn row).symm
end
end KH


set_option Elab.async false
set_option linter.all false
set_option maxRecDepth 100000
set_option maxHeartbeats 1000000
/-! plain: the law's column against the pot's sums -/
namespace KH
open TP
theorem lCol_eq (r : List Rg) : lCol r = r.flatMap fun x => List.replicate x.2.toNat x.1 := by
  have key : ∀ (l : List Rg) (acc : List Int), l.foldl col1 acc = acc ++ l.flatMap fun x => List.replicate x.2.toNat x.1 := fun l => by
    induction l with
    | nil => intro acc; simp
    | cons x l ih =>
      intro acc
      rw [List.foldl_cons, ih, List.flatMap_cons]
      show (acc ++ (List.replicate x.2.toNat [x.1]).flatten) ++ _ = _
      rw [rep_flat, List.append_assoc]
  simpa [lCol] using key r []
theorem mem_col {r : List Rg} {y : Int} : y ∈ lCol r ↔ ∃ x ∈ r, x.1 = y ∧ 0 < x.2 := by
  rw [lCol_eq, List.mem_flatMap]
  constructor
  · rintro ⟨x, hx, h⟩
    obtain ⟨h1, h2⟩ := List.mem_replicate.mp h
    exact ⟨x, hx, h2.symm, by omega⟩
  · rintro ⟨x, hx, h1, h2⟩
    exact ⟨x, hx, List.mem_replicate.mpr ⟨by omega, h1.symm⟩⟩
theorem sum_rep (n : Nat) (a : Int) : (List.replicate n a).sum = (n : Int) * a := by
  induction n with
  | zero => simp
  | succ n ih => rw [List.replicate_succ, List.sum_cons, ih, Int.natCast_succ, Int.add_mul, Int.one_mul, Int.add_comm]
theorem col_sum (f : Int → Int) : ∀ (r : List Rg), (∀ x ∈ r, 0 ≤ x.2) → ((lCol r).map f).sum = (r.map fun x => f x.1 * x.2).sum := by
  intro r h
  rw [lCol_eq]
  induction r with
  | nil => rfl
  | cons x r ih =>
    rw [List.flatMap_cons, List.map_append, List.sum_append, ih fun y hy => h y (List.mem_cons_of_mem _ hy), List.map_cons, List.sum_cons, List.map_replicate, sum_rep]
    have h0 := h x List.mem_cons_self
    have e : ((x.2.toNat : Nat) : Int) = x.2 := by omega
    rw [e, Int.mul_comm]
theorem col_height : ∀ (r : List Rg), (∀ x ∈ r, 0 ≤ x.2) → ((lCol r).length : Int) = (r.map fun x => x.2).sum := by
  intro r h
  rw [lCol_eq]
  induction r with
  | nil => rfl
  | cons x r ih =>
    rw [List.flatMap_cons, List.length_append, List.map_cons, List.sum_cons, ← ih fun y hy => h y (List.mem_cons_of_mem _ hy), List.length_replicate]
    have h0 := h x List.mem_cons_self
    omega
theorem good_pos {p : PotV} (g : goodPt p) : ∀ x ∈ p.2.1, 0 < x.2 := fun x hx => by have := (g.2.2.1 x hx).1; omega
theorem law_height {p : PotV} (g : goodPt p) : mHeight p = ((lCol p.2.1).length : Int) := (col_height _ fun x hx => Int.le_of_lt (good_pos g x hx)).symm
theorem law_out {p : PotV} (g : goodPt p) : mOut p = ((lCol p.2.1).map fun x => x * x).sum := (col_sum (fun x => x * x) _ fun x hx => Int.le_of_lt (good_pos g x hx)).symm
theorem col_ne {p : PotV} (g : goodPt p) : lCol p.2.1 ≠ [] := by
  obtain ⟨x, hx⟩ := List.exists_mem_of_ne_nil _ g.1
  intro z
  have h : x.1 ∈ lCol p.2.1 := mem_col.mpr ⟨x, hx, rfl, good_pos g x hx⟩
  rw [z] at h; cases h
theorem rad_ne {p : PotV} (g : goodPt p) : p.2.1.map (fun x => x.1) ≠ [] := fun z => g.1 (List.map_eq_nil_iff.mp z)
theorem law_width {p : PotV} (g : goodPt p) : mWidth p = 2 * maxL (lCol p.2.1) := by
  obtain ⟨h1, h2⟩ := maxL_spec (col_ne g)
  show 2 * maxL _ = _
  rw [maxL_of (m := maxL (lCol p.2.1))]
  · obtain ⟨x, hx, e, _⟩ := mem_col.mp h1
    exact List.mem_map.mpr ⟨x, hx, e⟩
  · intro y hy
    obtain ⟨x, hx, e⟩ := List.mem_map.mp hy
    exact h2 y (mem_col.mpr ⟨x, hx, e, good_pos g x hx⟩)
theorem law_mouth {p : PotV} (g : goodPt p) : mMouth p = minL (lCol p.2.1) - p.2.2.1 := by
  obtain ⟨h1, h2⟩ := minL_spec (col_ne g)
  refine minL_of ?_ ?_
  · obtain ⟨x, hx, e, _⟩ := mem_col.mp h1
    exact List.mem_map.mpr ⟨x, hx, by rw [e]⟩
  · intro y hy
    obtain ⟨x, hx, e⟩ := List.mem_map.mp hy
    have := h2 x.1 (mem_col.mpr ⟨x, hx, rfl, good_pos g x hx⟩)
    omega
end KH

set_option Elab.async false
set_option linter.all false
set_option maxRecDepth 100000
set_option maxHeartbeats 1000000
/-! plain: what a pot holds, and the narrowest from a height on, against the column -/
namespace KH
open TP
theorem lCol_cons (x : Rg) (r : List Rg) : lCol (x :: r) = List.replicate x.2.toNat x.1 ++ lCol r := by rw [lCol_eq, lCol_eq, List.flatMap_cons]
theorem hold_from (wl : Int) : ∀ (l : List Rg) (k : Nat) (acc : Int), 0 < k → ((l.zipIdx k).map fun p => (((p.2 : Nat) : Int), p.1)).foldl (hold1 wl) acc = acc + (l.map fun x => (x.1 - wl) * (x.1 - wl) * x.2).sum
  | [], _, acc, _ => by simp
  | x :: l, k, acc, hk => by
    rw [List.zipIdx_cons, List.map_cons, List.foldl_cons, hold_from wl l (k + 1) _ (by omega), List.map_cons, List.sum_cons]
    have e : hold1 wl acc ((k : Int), x) = acc + (x.1 - wl) * (x.1 - wl) * x.2 := by
      show acc + _ * (if decide ((k : Int) = 0) = true then _ else _) = _
      rw [if_neg (by simp; omega)]
    show hold1 wl acc ((k : Int), x) + _ = _
    rw [e, Int.add_assoc]
theorem law_holds {p : PotV} (g : goodPt p) : mHolds p = (((lCol p.2.1).drop p.2.2.1.toNat).map fun x => (x - p.2.2.1) * (x - p.2.2.1)).sum := by
  have g1 := g
  obtain ⟨nm, r, wl, cl⟩ := p
  obtain ⟨hne, _, hr, h1, h2, _⟩ := g
  cases r with
  | nil => exact absurd rfl hne
  | cons x r =>
    have h2 : wl ≤ x.2 := h2
    have h1 : 1 ≤ wl := h1
    show (((x :: r).zipIdx).map fun p => (((p.2 : Nat) : Int), p.1)).foldl (hold1 wl) 0 = (((lCol (x :: r)).drop wl.toNat).map _).sum
    rw [List.zipIdx_cons, List.map_cons, List.foldl_cons, hold_from wl r (0 + 1) _ (by omega), lCol_cons, List.drop_append_of_le_length (by rw [List.length_replicate]; omega), List.drop_replicate, List.map_append, List.sum_append, List.map_replicate, sum_rep,
      col_sum (fun y => (y - wl) * (y - wl)) r fun y hy => by have := (hr y (List.mem_cons_of_mem _ hy)).1; omega]
    congr 1
    show 0 + (x.1 - wl) * (x.1 - wl) * (if decide (((0 : Nat) : Int) = 0) = true then x.2 - wl else x.2) = _
    rw [if_pos (by rfl)]
    have e : ((x.2.toNat - wl.toNat : Nat) : Int) = x.2 - wl := by omega
    rw [e, Int.zero_add, Int.mul_comm]
theorem nar_mem (wl low y : Int) : ∀ (l : List Rg) (s : Int) (acc : List Int), (∀ x ∈ l, 0 < x.2) → (y ∈ (l.foldl (nar1 wl low) (s, acc)).2 ↔ y ∈ acc ∨ ∃ z ∈ (lCol l).drop (low - s).toNat, z - wl = y)
  | [], s, acc, _ => by simp [lCol]
  | x :: l, s, acc, h => by
    have hx := h x List.mem_cons_self
    have hl : ∀ y ∈ l, 0 < y.2 := fun y hy => h y (List.mem_cons_of_mem _ hy)
    rw [List.foldl_cons, lCol_cons]
    by_cases c : low < s + x.2
    · have e : nar1 wl low (s, acc) x = (s + x.2, acc ++ [x.1 - wl]) := by
        unfold nar1
        rw [if_pos (decide_eq_true c)]
      rw [e, nar_mem wl low y l _ _ hl, show (low - (s + x.2)).toNat = 0 by omega, List.drop_zero, List.drop_append_of_le_length (by rw [List.length_replicate]; omega), List.drop_replicate]
      constructor
      · rintro (h1 | ⟨z, hz, e⟩)
        · rcases List.mem_append.mp h1 with h1 | h1
          · exact .inl h1
          · exact .inr ⟨x.1, List.mem_append_left _ (List.mem_replicate.mpr ⟨by omega, rfl⟩), (List.mem_singleton.mp h1).symm⟩
        · exact .inr ⟨z, List.mem_append_right _ hz, e⟩
      · rintro (h1 | ⟨z, hz, e⟩)
        · exact .inl (List.mem_append_left _ h1)
        · rcases List.mem_append.mp hz with hz | hz
          · exact .inl (List.mem_append_right _ (by rw [← e, (List.mem_replicate.mp hz).2]; exact List.mem_singleton.mpr rfl))
          · exact .inr ⟨z, hz, e⟩
    · have e : nar1 wl low (s, acc) x = (s + x.2, acc) := by
        unfold nar1
        rw [if_neg (by simpa using c)]
      rw [e, nar_mem wl low y l _ _ hl, List.drop_append, List.length_replicate, List.drop_eq_nil_of_le (as := List.replicate x.2.toNat x.1) (by rw [List.length_replicate]; omega), List.nil_append, show (low - s).toNat - x.2.toNat = (low - (s + x.2)).toNat by omega]
theorem nar_iff {p : PotV} (g : goodPt p) (low y : Int) : y ∈ mNar p low ↔ ∃ z ∈ (lCol p.2.1).drop low.toNat, z - p.2.2.1 = y := by
  have h := nar_mem p.2.2.1 low y p.2.1 0 [] (good_pos g)
  rw [Int.sub_zero] at h
  exact h.trans ⟨fun z => z.elim (fun z => nomatch z) id, .inr⟩
theorem law_nar {p : PotV} (g : goodPt p) (low : Int) (h : (lCol p.2.1).drop low.toNat ≠ []) : minL (mNar p low) = minL ((lCol p.2.1).drop low.toNat) - p.2.2.1 := by
  obtain ⟨h1, h2⟩ := minL_spec h
  refine minL_of ((nar_iff g low _).mpr ⟨_, h1, rfl⟩) fun y hy => ?_
  obtain ⟨z, hz, e⟩ := (nar_iff g low y).mp hy
  have := h2 z hz
  omega
theorem law_narE {p : PotV} (g : goodPt p) (low : Int) (h0 : 0 ≤ low) : (mNar p low).isEmpty = !decide (low < ((lCol p.2.1).length : Int)) := by
  by_cases c : low < ((lCol p.2.1).length : Int)
  · rw [decide_eq_true c]
    obtain ⟨z, hz⟩ := List.exists_mem_of_ne_nil _ (show (lCol p.2.1).drop low.toNat ≠ [] from fun e => by have := List.drop_eq_nil_iff.mp e; omega)
    have := (nar_iff g low _).mpr ⟨z, hz, rfl⟩
    cases e : mNar p low with
    | nil => rw [e] at this; cases this
    | cons => rfl
  · rw [decide_eq_false c]
    cases e : mNar p low with
    | nil => rfl
    | cons y r =>
      obtain ⟨z, hz, _⟩ := (nar_iff g low y).mp (by rw [e]; exact List.mem_cons_self)
      rw [List.drop_eq_nil_of_le (by omega)] at hz
      cases hz
end KH

set_option Elab.async false
set_option linter.all false
set_option maxRecDepth 100000
set_option maxHeartbeats 1000000
/-! plain: a pot stands in another just if it passes at each height -/
namespace KH
open TP
theorem room_iff {p : PotV} (g : goodPt p) : ∀ (l : List Rg) (low : Int), (∀ x ∈ l, 0 < x.2) → 0 ≤ low → low + ((lCol l).length : Int) ≤ ((lCol p.2.1).length : Int) →
    (roomL p low l = true ↔ ∀ k rad, (lCol l)[k]? = some rad → ∀ z ∈ (lCol p.2.1).drop (low.toNat + k), rad ≤ z - p.2.2.1)
  | [], low, _, _, _ => ⟨fun _ k rad h => by simp [lCol] at h, fun _ => rfl⟩
  | x :: l, low, h, h0, hl => by
    have hx := h x List.mem_cons_self
    have hl' : ∀ y ∈ l, 0 < y.2 := fun y hy => h y (List.mem_cons_of_mem _ hy)
    have len : ((lCol (x :: l)).length : Int) = x.2 + ((lCol l).length : Int) := by
      rw [lCol_cons, List.length_append, List.length_replicate]; omega
    have ne : (lCol p.2.1).drop low.toNat ≠ [] := fun e => by have := List.drop_eq_nil_iff.mp e; omega
    have ih := room_iff g l (low + x.2) hl' (by omega) (by omega)
    obtain ⟨m1, m2⟩ := minL_spec ne
    have e := law_nar g low ne
    show (if decide (minL (mNar p low) < x.1) = true then false else roomL p (low + x.2) l) = true ↔ _
    rw [e]
    by_cases c : minL ((lCol p.2.1).drop low.toNat) - p.2.2.1 < x.1
    · rw [if_pos (decide_eq_true c)]
      refine ⟨fun z => absurd z Bool.false_ne_true, fun z => ?_⟩
      have := z 0 x.1 (by rw [lCol_cons, List.getElem?_append_left (by rw [List.length_replicate]; omega), List.getElem?_replicate, if_pos (by omega)]) _ m1
      omega
    · rw [if_neg (by simpa using c), ih]
      constructor
      · intro z k rad hk y hy
        rw [lCol_cons] at hk
        by_cases ck : k < x.2.toNat
        · rw [List.getElem?_append_left (by rw [List.length_replicate]; exact ck), List.getElem?_replicate, if_pos ck] at hk
          have hk := Option.some.inj hk
          have hy' : y ∈ (lCol p.2.1).drop low.toNat := by
            rw [← List.drop_drop] at hy
            exact List.mem_of_mem_drop hy
          have := m2 y hy'
          omega
        · rw [List.getElem?_append_right (by rw [List.length_replicate]; omega), List.length_replicate] at hk
          refine z (k - x.2.toNat) rad hk y ?_
          rw [show (low + x.2).toNat + (k - x.2.toNat) = low.toNat + k by omega]
          exact hy
      · intro z k rad hk y hy
        refine z (k + x.2.toNat) rad ?_ y ?_
        · rw [lCol_cons, List.getElem?_append_right (by rw [List.length_replicate]; omega), List.length_replicate, show k + x.2.toNat - x.2.toNat = k by omega]
          exact hk
        · rw [show low.toNat + (k + x.2.toNat) = (low + x.2).toNat + k by omega]
          exact hy
theorem enum_mem {α : Type} {xs : List α} {z : Int × α} : z ∈ enumL xs ↔ ∃ k : Nat, xs[k]? = some z.2 ∧ z.1 = (k : Int) := by
  constructor
  · intro h
    obtain ⟨i, hi⟩ := List.getElem?_of_mem h
    rw [enumL_get] at hi
    cases e : xs[i]? with
    | none => rw [e] at hi; cases hi
    | some r =>
      rw [e] at hi
      have := Option.some.inj hi
      subst this
      exact ⟨i, e, rfl⟩
  · rintro ⟨k, h1, h2⟩
    refine List.mem_of_getElem? (i := k) ?_
    rw [enumL_get, h1, Option.map_some, ← h2]
/-- the program's answer is the law's -/
theorem law_room {p q : PotV} (g : goodPt p) (g' : goodPt q) : mRoom p q = lWithin (p.2.1, p.2.2.1) (q.2.1, q.2.2.1) := by
  have h1 : 1 ≤ p.2.2.1 := g.2.2.2.1
  have lo : (lOut (p.2.1, p.2.2.1)).length = (lCol p.2.1).length := by simp [lOut]
  show (if decide (mHeight p - p.2.2.1 < mHeight q) = true then false else roomL p p.2.2.1 q.2.1) = if decide (((lOut (p.2.1, p.2.2.1)).length : Int) - p.2.2.1 < ((lCol q.2.1).length : Int)) = true then false else _
  rw [law_height g, law_height g', lo]
  by_cases c : ((lCol p.2.1).length : Int) - p.2.2.1 < ((lCol q.2.1).length : Int)
  · rw [if_pos (decide_eq_true c), if_pos (decide_eq_true c)]
  · rw [if_neg (by simpa using c), if_neg (by simpa using c)]
    rw [Bool.eq_iff_iff, room_iff g q.2.1 p.2.2.1 (good_pos g') (by omega) (by omega), Bool.not_eq_true', Bool.eq_false_iff, Ne, List.any_eq_true]
    constructor
    · rintro z ⟨⟨k, rad⟩, hk, hh⟩
      obtain ⟨n, h2, h3⟩ := enum_mem.mp hk
      have h3 : k = (n : Int) := h3
      subst h3
      obtain ⟨y, hy, h4⟩ := List.any_eq_true.mp hh
      have h4 := of_decide_eq_true h4
      have hy : y ∈ ((lCol p.2.1).map fun r => r - p.2.2.1).drop (p.2.2.1 + (n : Int)).toNat := hy
      rw [← List.map_drop] at hy
      obtain ⟨a, ha, rfl⟩ := List.mem_map.mp hy
      rw [show (p.2.2.1 + (n : Int)).toNat = p.2.2.1.toNat + n by omega] at ha
      have := z n rad h2 a ha
      have h4 : a - p.2.2.1 < rad := h4
      omega
    · intro z n rad h2 a ha
      refine Int.not_lt.mp fun h4 => z ⟨((n : Int), rad), enum_mem.mpr ⟨n, h2, rfl⟩, List.any_eq_true.mpr ⟨a - p.2.2.1, ?_, decide_eq_true h4⟩⟩
      show _ ∈ ((lCol p.2.1).map fun r => r - p.2.2.1).drop (p.2.2.1 + (n : Int)).toNat
      rw [← List.map_drop, show (p.2.2.1 + (n : Int)).toNat = p.2.2.1.toNat + n by omega]
      exact List.mem_map.mpr ⟨a, ha, rfl⟩
end KH

set_option Elab.async false
set_option linter.all false
set_option maxRecDepth 100000
set_option maxHeartbeats 1000000
/-! plain: a pot that cannot be, against the law's good -/
namespace KH
open TP
def lGood (r : List Rg) (wl : Int) : Bool := ((r.filter fun x => decide (x.1 ≤ wl)).map fun _ => (1 : Int)).isEmpty && decide (wl ≤ (r.getD 0 (0, 0)).2)
theorem law_bad {r : List Rg} {wl : Int} (h1 : r ≠ []) (h2 : r.length ≤ 30) (h3 : 1 ≤ wl) (h4 : ∀ x ∈ r, 1 ≤ x.2) : badPt r wl = !lGood r wl := by
  have l0 : 0 < r.length := List.length_pos_iff.mpr h1
  have e1 : badP1 r wl = false := by
    unfold badP1
    rw [decide_eq_true (show 0 < (r.length : Int) by omega), decide_eq_true (show (r.length : Int) ≤ 30 by omega), decide_eq_false (show ¬ wl < 1 by omega)]; rfl
  have e2 : badP2 r wl = !((r.filter fun x => decide (x.1 ≤ wl)).map fun _ => (1 : Int)).isEmpty := by
    rw [Bool.eq_iff_iff]
    constructor
    · intro h
      obtain ⟨x, hx, hh⟩ := List.any_eq_true.mp h
      have := h4 x hx
      rw [decide_eq_false (show ¬ x.2 < 1 by omega), Bool.false_or] at hh
      cases e : r.filter fun x => decide (x.1 ≤ wl) with
      | nil =>
        have hm := List.mem_filter (p := fun x : Rg => decide (x.1 ≤ wl)) |>.mpr ⟨hx, hh⟩
        rw [e] at hm; cases hm
      | cons => rfl
    · intro h
      cases e : r.filter fun x => decide (x.1 ≤ wl) with
      | nil => rw [e] at h; cases h
      | cons x s =>
        have hm : x ∈ r.filter fun x => decide (x.1 ≤ wl) := by rw [e]; exact List.mem_cons_self
        obtain ⟨hx, hh⟩ := List.mem_filter.mp hm
        exact List.any_eq_true.mpr ⟨x, hx, by rw [hh, Bool.or_true]⟩
  have e3 : badP3 r wl = !decide (wl ≤ (r.getD 0 (0, 0)).2) := by
    unfold badP3
    by_cases c : (r.getD 0 (0, 0)).2 < wl
    · rw [decide_eq_true c, decide_eq_false (by omega)]; rfl
    · rw [decide_eq_false c, decide_eq_true (by omega)]; rfl
  unfold badPt lGood
  rw [e1, e2, e3, Bool.false_or, Bool.not_and]
theorem good_of {nm : PySem.Str} {r : List Rg} {wl : Int} {cl : ClayV} (g : lGood r wl = true) (h1 : r ≠ []) (h2 : r.length ≤ 30) (h3 : 1 ≤ wl) (h4 : ∀ x ∈ r, 1 ≤ x.2 ∧ x.2 ≤ 1000 ∧ x.1 ≤ 1000) (hc : goodC cl) : goodPt (nm, r, wl, cl) := by
  unfold lGood at g
  rw [Bool.and_eq_true] at g
  refine ⟨h1, h2, fun x hx => ?_, h3, of_decide_eq_true g.2, hc⟩
  obtain ⟨a, b, c⟩ := h4 x hx
  refine ⟨a, b, ?_, c⟩
  refine Int.not_le.mp fun z => ?_
  have hm := (List.mem_filter (p := fun x : Rg => decide (x.1 ≤ wl))).mpr ⟨hx, decide_eq_true (p := x.1 ≤ wl) z⟩
  have ge := g.1
  cases e : r.filter fun x => decide (x.1 ≤ wl) with
  | nil => rw [e] at hm; cases hm
  | cons => rw [e] at ge; cases ge
end KH

set_option Elab.async false
set_option linter.all false
set_option maxRecDepth 100000
set_option maxHeartbeats 1000000
/-! plain: names of pots, the nests, the sets -/
namespace KH
open PySem TP DkL NM
/-! ### names -/
def pn (k : Int) : Str := "p" ++ Str.ofString (toString k)
theorem pn_inj : ∀ i j : Fin 7, i ≠ j → pn (i.val : Int) ≠ pn (j.val : Int) := by decide +kernel
theorem pn_lay : ∀ i : Fin 7, PyData.canLay0 (.str (pn (i.val : Int))) = true := by decide +kernel
theorem str_small : ∀ k : Fin 100, (Str.ofString (toString ((k.val : Int)))).length ≤ 2 := by decide +kernel
theorem small_log {k : Int} (h0 : 0 ≤ k) (h : k < 100) : k.natAbs.log2 < 1920 := by
  have : k.natAbs < 128 := by omega
  have := (Nat.log2_lt (n := k.natAbs) (k := 7) · |>.mpr this)
  by_cases e : k.natAbs = 0
  · rw [e]; decide
  · have := this e
    omega
theorem small_cat {k : Int} (h0 : 0 ≤ k) (h : k < 100) : ("p" : Str).length + (Str.ofString (toString k)).length ≤ sizeLine := by
  have := str_small ⟨k.toNat, by omega⟩
  have e : ((k.toNat : Nat) : Int) = k := by omega
  have this : (Str.ofString (toString ((k.toNat : Nat) : Int))).length ≤ 2 := this
  rw [e] at this
  have h1 : ("p" : Str).length = 1 := rfl
  refine small_len ?_
  omega
def KN : List Str := ["cup", "plate", "jug"]
def kn (i k : Int) : Str := KN.getD i.toNat "" ++ Str.ofString (toString k)
theorem kn_kind : ∀ (i : Fin 3) (j : Fin 15), kindOf (kn (i.val : Int) (j.val : Int)) = KN.getD i.val "" := by decide +kernel
theorem kn_cut : ∀ (i : Fin 3) (j : Fin 15) (k : Fin 3), decide (L2.cutS (kn (i.val : Int) (j.val : Int)) none (some ((KN.getD k.val "").length : Int)) = KN.getD k.val "") = decide (i = k) := by decide +kernel
theorem kn_len : ∀ (i : Fin 3) (j : Fin 15), (kn (i.val : Int) (j.val : Int)).length ≤ 1000 := by decide +kernel
/-! ### the nests -/
def redC : ClayV := ⟨"red", 60, 40, 100⟩
def mkP (x : Str × OwnP) : Str × PotV := (x.1, (x.1, x.2.1, x.2.2, redC))
def goodO2 (own : OTab) : Prop := goodOw own ∧ ∀ x ∈ own, goodPt (mkP x).2
def potsOf (own : OTab) : List PotV := (sortS ((own.map mkP).map (·.1))).reverse.map fun k => (lookK (own.map mkP) k).getD dP
theorem look_mk (own : OTab) (k : Str) : lookK (own.map mkP) k = (lookK own k).map fun o => (k, o.1, o.2, redC) := by
  induction own with
  | nil => rfl
  | cons x r ih =>
    rw [List.map_cons]
    by_cases h : x.1 = k
    · rw [lookK_pos (x := mkP x) h, lookK_pos h]
      subst h; rfl
    · rw [lookK_neg (x := mkP x) h, lookK_neg h, ih]
theorem keys_mk (own : OTab) : (own.map mkP).map (·.1) = keysO own := by rw [List.map_map]; rfl
theorem look_own {own : OTab} {k : Str} (hk : k ∈ keysO own) : ∃ o, lookK own k = some o ∧ (k, o) ∈ own ∧ (lookK (own.map mkP) k).getD dP = (k, o.1, o.2, redC) := by
  obtain ⟨o, ho⟩ := Option.isSome_iff_exists.mp (look_some (xs := own) hk)
  exact ⟨o, ho, lookK_some ho, by rw [look_mk, ho]; rfl⟩
theorem names_pots {own : OTab} : namesOf (potsOf own) = (sortS (keysO own)).reverse := by
  unfold namesOf potsOf
  rw [keys_mk, List.map_map]
  refine (List.map_congr_left (g := id) fun k hk => ?_).trans (List.map_id _)
  obtain ⟨o, _, _, h⟩ := look_own (own := own) (sortS_mem.mp (List.mem_reverse.mp hk))
  show ((lookK (own.map mkP) k).getD dP).1 = k
  rw [h]
theorem names_mem {own : OTab} (n : Str) : n ∈ namesOf (potsOf own) ↔ n ∈ keysO own := by
  rw [names_pots, List.mem_reverse, sortS_mem]
theorem names_nd {own : OTab} (h : goodOw own) : (namesOf (potsOf own)).Nodup := by
  rw [names_pots]
  exact (List.reverse_perm _).nodup_iff.mpr (sortS_nodup h.2.1)
theorem pots_mem {own : OTab} (h : goodO2 own) : ∀ p ∈ potsOf own, goodPt p ∧ PyData.canLay0 (.str p.1) = true := fun p hp => by
  unfold potsOf at hp
  rw [keys_mk] at hp
  obtain ⟨k, hk, rfl⟩ := List.mem_map.mp hp
  obtain ⟨o, _, h1, h2⟩ := look_own (own := own) (sortS_mem.mp (List.mem_reverse.mp hk))
  rw [h2]
  exact ⟨h.2 _ h1, (h.1.2.2 _ h1).2.2.2⟩
theorem pots_len {own : OTab} : (potsOf own).length = own.length := by
  unfold potsOf
  rw [keys_mk, List.length_map, List.length_reverse, sortS_len]
  exact List.length_map _
theorem nest_pre {own : OTab} (h : goodO2 own) : preNe (potsOf own) ∧ badNe (potsOf own) = false := by
  have hl := pots_len (own := own)
  have h6 := h.1.1
  refine ⟨⟨by omega, fun _ => ⟨by omega, names_nd h.1, pots_mem h⟩⟩, ?_⟩
  unfold badNe
  rw [tab_nd (names_nd h.1), List.length_map, Bool.or_eq_false_iff]
  exact ⟨decide_eq_false (by omega), decide_eq_false (by omega)⟩
theorem tab_look {own : OTab} (h : goodOw own) {k : Str} (hk : k ∈ keysO own) : (lookK (tabOf (potsOf own)) k).getD dP = (lookK (own.map mkP) k).getD dP := by
  have nd := names_nd h
  rw [tab_nd nd]
  have hk' := (names_mem k).mpr hk
  have hm : (k, (lookK (own.map mkP) k).getD dP) ∈ (potsOf own).map fun p => (p.1, p) := by
    refine List.mem_map.mpr ⟨(lookK (own.map mkP) k).getD dP, ?_, ?_⟩
    · unfold potsOf
      rw [keys_mk]
      exact List.mem_map.mpr ⟨k, List.mem_reverse.mpr (sortS_mem.mpr hk), rfl⟩
    · obtain ⟨o, _, _, h2⟩ := look_own (own := own) hk
      rw [h2]
  rw [lookK_mem (by rw [List.map_map]; exact nd) hm]
  rfl
theorem ok_same {own : OTab} (h : goodO2 own) {x : List Str} (hx : ∀ n ∈ x, n ∈ keysO own) {n : Str} (hn : n ∈ keysO own) : okP (tabOf (potsOf own)) x n = okL own x n := by
  unfold okP okL
  by_cases e : x = []
  · rw [decide_eq_true e]; rfl
  · rw [decide_eq_false e, Bool.false_or, Bool.false_or, lastD_getD e, show ((x.length : Int) - 1).toNat = x.length - 1 by omega]
    have hl : x.getD (x.length - 1) "" ∈ x := by
      have := last_in e
      rwa [show ((x.length : Int) - 1).toNat = x.length - 1 by omega] at this
    obtain ⟨o, a1, a2, a3⟩ := look_own (own := own) (hx _ hl)
    obtain ⟨o', b1, b2, b3⟩ := look_own (own := own) hn
    rw [tab_look h.1 (hx _ hl), tab_look h.1 hn, a3, b3, a1, b1]
    exact law_room (h.2 _ a2) (h.2 _ b2)
theorem nest_eq {own : OTab} (h : goodO2 own) : mNest (potsOf own) = leastRow (rowsL own []) := by
  refine least_congr (fun z => ?_) fun x => ⟨fun hx => ?_, fun hx => ?_⟩
  · have := al_self (downN (namesOf (potsOf own)) (okP (tabOf (potsOf own)))) []
    have z : al (chN (namesOf (potsOf own)) (okP (tabOf (potsOf own)))) (rkN (namesOf (potsOf own))) [] = [] := z
    rw [z] at this; cases this
  · exact rows_same (fun n => names_mem n) (fun y hy n hn => ok_same h (fun m hm => (names_mem m).mp (hy m hm)) ((names_mem n).mp hn)) x hx
  · exact rows_same (fun n => (names_mem n).symm) (fun y hy n hn => (ok_same h hy hn).symm) x hx
/-! ### the sets -/
theorem cnt_look (k : Str) : ∀ (ns : List Str) (st : Tb) (v : Int), lookK st k = some v → lookK (ns.foldl cnt1 st) k = some (v + ((ns.filter fun n => decide (kindOf n = k)).length : Int))
  | [], st, v, h => by simpa using h
  | n :: r, st, v, h => by
    rw [List.foldl_cons]
    by_cases e : kindOf n = k
    · have h1 : lookK (cnt1 st n) k = some (v + 1) := by
        unfold cnt1
        rw [e, h]
        show lookK (if true = true then putL st k (v + 1) else st) k = _
        rw [if_pos rfl, lookK_put, if_pos rfl]
      rw [cnt_look k r _ _ h1, List.filter_cons_of_pos (by simpa using e), List.length_cons]
      congr 1
      omega
    · have h1 : lookK (cnt1 st n) k = some v := by
        unfold cnt1
        split
        · rw [lookK_put, if_neg (fun z => e z.symm)]; exact h
        · exact h
      rw [cnt_look k r _ _ h1, List.filter_cons_of_neg (by simpa using e)]
def okNs (ns : List Str) : Prop := ∀ n ∈ ns, ∃ (i : Fin 3) (j : Fin 15), n = kn (i.val : Int) (j.val : Int)
def lCnt (ns : List Str) (k : Str) : Int := ((ns.filter fun n => decide (L2.cutS n none (some (k.length : Int)) = k)).length : Int)
theorem kn_ne : ∀ i k : Fin 3, decide (KN.getD i.val "" = KN.getD k.val "") = decide (i = k) := by decide +kernel
theorem cut_kind {ns : List Str} (h : okNs ns) (k : Fin 3) : lCnt ns (KN.getD k.val "") = ((ns.filter fun n => decide (kindOf n = KN.getD k.val "")).length : Int) := by
  unfold lCnt
  congr 2
  refine List.filter_congr fun n hn => ?_
  obtain ⟨i, j, rfl⟩ := h n hn
  rw [kn_cut i j k, kn_kind i j, kn_ne]
def lCounts (ns : List Str) (many : Tb) : Tb := (many.map (·.1)).map fun k => (k, lCnt ns k)
def manyOf (a b : Int) : Tb := [("cup", a), ("plate", b)]
theorem cnt_eq {ns : List Str} (h : okNs ns) {a b : Int} : ∀ k ∈ (manyOf a b).map (·.1), (lookK (mCounts ns (manyOf a b)) k).getD 0 = (lookK (lCounts ns (manyOf a b)) k).getD 0 := fun k hk => by
  have hk : k = "cup" ∨ k = "plate" := by simpa [manyOf] using hk
  rcases hk with rfl | rfl
  · unfold mCounts
    rw [cnt_look "cup" ns (zeros (manyOf a b)) 0 rfl, Int.zero_add]
    exact (cut_kind h 0).symm
  · unfold mCounts
    rw [cnt_look "plate" ns (zeros (manyOf a b)) 0 rfl, Int.zero_add]
    exact (cut_kind h 1).symm
def lSets (ns : List Str) (many : Tb) : Int := minL ((many.map (·.1)).map fun k => (lookK (lCounts ns many) k).getD 0 / (lookK many k).getD 0)
theorem sets_eq {ns : List Str} (h : okNs ns) {a b : Int} : mSetsOf (ns, manyOf a b) = (lSets ns (manyOf a b), (sortS ((manyOf a b).map (·.1))).map fun k => (k, (lookK (lCounts ns (manyOf a b)) k).getD 0 - lSets ns (manyOf a b) * (lookK (manyOf a b) k).getD 0)) := by
  have e : mSets ns (manyOf a b) = lSets ns (manyOf a b) := by
    unfold mSets lSets
    congr 1
    exact List.map_congr_left fun k hk => by rw [cnt_eq h k hk]
  show (mSets ns (manyOf a b), _) = _
  rw [e]
  congr 1
  exact List.map_congr_left fun k hk => by rw [cnt_eq h k (sortS_mem.mp hk)]
end KH

set_option Elab.async false
set_option linter.all false
set_option maxRecDepth 100000
set_option maxHeartbeats 1000000
namespace KH
open PySem PySem.Spec PyProof.Rows L2 TP DkL LM NM
section
variable {P : Program} {w : World} {K : PySem.W.Frag} {mg : Str → Option Value} {base : Heap} {G : List Addr}
theorem told_ok (T : Top w K mg) {X : Cx} (hK : X.K = K) (hm : X.mg = mg) : LM.ToldOk X "_law_told" "what" "PotError" "PotError" (He.ga K "_law_told") (aErr K) ["what"] d_law_told.scope (.ref (He.codeOf K d_law_told.at_)) := by
  subst hK hm
  obtain ⟨oc, od, kV, doc, pm, an, ct, osl, e, lk, hcd⟩ := (D_law_told T).ex
  refine ⟨g_law_told T, (D_law_told T).kp, ⟨d_law_told.params, d_law_told.body, .none, kV, doc, pm, ct, oc, an, od, osl, _, _, _, _, _, _, _, _, _, ?_, ?_, rfl⟩, hcd, C8.fnScope_by (by decide +kernel), rfl, Or.inl rfl, rfl, g_PotError T, fun _ => rfl, by decide, by decide, by decide⟩
  · rw [e] at lk
    exact lk
  · exact .all fun us hl => match us, hl with | [_], _ => rfl
abbrev lawN : List Str := ("script" :: "clay" :: "dice" :: "one" :: "bad" :: "own" :: "made" :: "k" :: "name" :: "ranked" :: "kinds" :: "many" :: "names" :: "counts" :: "sets" :: "wall" :: "rings" :: "good" :: "pot" :: "column" :: "room" :: "outside" :: "low" :: "other" :: "small" :: "thin" :: "fired" :: "j" :: "radius" :: "high" :: "row" :: "kind" :: "f" :: [])
theorem sc_law : FnScope lawN ["script"] d_law.scope := C8.fnScope_by (by decide +kernel)
end
theorem lamOk_of {X : Cx} {k : Nat} {e b : Expr} {ps : Arguments} {sc : Scope} {pos : Pos} {t : XK → TE} (h : e = .Lambda ps b sc pos) (ls : LamX.LamS X.env.scope sc) (bind : ∀ (q : Str) (cl : List (Str × Addr)) (pm cv ctv : Value), bindArgs (PySem.W.kla_fn "<lambda>" q ps b sc cl pm cv ctv) ⟨[], []⟩ = pure [])
    (body : ∀ (A : Around) (outer : List PySem.Env) (s : Shared) (H : Hp) (E : XK) (f c' : Addr), Room k (A.deeper (LamX.lamEnv X sc s.heap.objs.size f c')) → PE (LamX.lamCx X A outer s H E sc f c') b (t E)) : LamOk X k (lamD e t) := by
  subst h
  exact ⟨ls, bind, body⟩
theorem ins_Pot {K : PySem.W.Frag} : ∀ h v a, (rPot K).rep h v a → ∃ p dx fs, v = .ref p ∧ h p = some (.ins (aPot K) dx fs) := fun h v a ⟨p, dx, _, _, _, _, e, hp, _⟩ => ⟨p, dx, _, e, hp⟩
section
variable {w : World} {K : PySem.W.Frag} {mg : Str → Option Value}
theorem mro_Pot (T : Top w K mg) : PySem.W.mroIn K (aPot K) (.type "object") = some true := L2.mro_obj (k_Pot T).makes
end
def oneP : PotV := ("a", [(5, 3)], 1, redC)
theorem goodC_red : goodC redC := by
  unfold goodC redC
  decide
theorem good_one : goodPt oneP := ⟨by decide, by decide, fun x hx => by rw [List.mem_singleton.mp (show x ∈ [((5 : Int), (3 : Int))] from hx)]; decide, by decide, by decide, goodC_red⟩
theorem ne_pre {ps : List PotV} (hl : ps.length ≤ 1000) (h : badNe ps = true) : preNe ps := ⟨hl, fun z => by rw [h] at z; cases z⟩
def p13 : List PotV := (upFrom 0 (13 : Int).toNat).map fun k => (Str.ofString (toString k), [((5 : Int), (3 : Int))], (1 : Int), redC)
section
variable {P : Program} {w : World} {K : PySem.W.Frag} {mg : Str → Option Value} {base : Heap} {G : List Addr} {A : Around} {outer : List PySem.Env} {s : Shared} {H : Hp} {E : XK}
abbrev XL (P : Program) (w : World) (K : PySem.W.Frag) (mg : Str → Option Value) (base : Heap) (A : Around) (outer : List PySem.Env) (s : Shared) (H : Hp) (E : XK) : Cx := cxD P w K mg base lawN d_law A outer s H E
theorem lam_0 (T : Top w K mg) (TG : TGs base mg K G) : ∃ t, LamOk (XL P w K mg base A outer s H E) 14 (lamD (eltAt (valOf (stAt (forBody (stAt (forBody (stAt d_law.body 1)) 1)) 3)) 0) t) ∧ ∀ (Γ : TP.Ctx) (k : Int) (rings : List Rg) (wall : Int), 0 ≤ k → k < 100 → rings.length ≤ 1000 → Γ[7]? = some (.val rInt k) → Γ[16]? = some (.val (rList rRg) rings) → Γ[15]? = some (.val rInt wall) → Γ[1]? = some (.val (rClay K) redC) → (badPt rings wall = false → ∀ W, TP.E G Γ (t W) Γ (rPot K) (pn k, rings, wall, redC)) ∧ (badPt rings wall = true → ∀ W, EX G Γ (t W) Γ W (aErr K)) := by
  refine ⟨_, lamOk_of rfl (LamX.lamS_by (by kernel_rfl)) (fun _ _ _ _ _ => rfl) (fun A outer s H E f c' hlr => (pe_make (k_Pot T) (ok_Pot_init (G := G) T TG) (hlr.mono (show 10 + 1 ≤ 14 by decide)) rfl (g_Pot T) (b_Pot_init T) .nil (passes_call (takes_of rfl rfl rfl rfl) (fun _ _ _ _ h => h)) (pa_cons (pe_op op_add_str pe_str (pe_callTy call_str_int rfl (f_str T) (by decide +kernel) (pa_cons (pv 7) pa_nil))) (pa_cons (pv 16) (pa_cons (pv 15) (pa_cons (pv 1) pa_nil)))))), fun Γ k rings wall hk0 hk hl h7 h16 h15 h1 => ⟨fun hb W => ?_, fun hb W => ?_⟩⟩
  · refine e_makeB (pn k, rings, wall, redC) (a_cons (e_cat e_str (e_strI (a_cons (e_var h7) a_nil) ?_) ?_) (a_cons (e_var h16) (a_cons (e_var h15) (a_cons (e_var h1) a_nil)))) hl hb
    · exact small_log hk0 hk
    · exact small_cat hk0 hk
  · refine e_makeBX (A := A_pinit K) (pn k, rings, wall, redC) (a_cons (e_cat e_str (e_strI (a_cons (e_var h7) a_nil) ?_) ?_) (a_cons (e_var h16) (a_cons (e_var h15) (a_cons (e_var h1) a_nil)))) hl hb
    · exact small_log hk0 hk
    · exact small_cat hk0 hk
theorem lam_1 (T : Top w K mg) (TG : TGs base mg K G) : ∃ t, LamOk (XL P w K mg base A outer s H E) 14 (lamD (eltAt (eltAt (valOf (stAt (forBody (stAt (forBody (stAt d_law.body 1)) 2)) 6)) 0) 0) t) ∧ ∀ (Γ : TP.Ctx) (p : PotV) (low : Int), goodPt p → Γ[18]? = some (.val (rPot K) p) → Γ[22]? = some (.val rInt low) → ((mNar p low).isEmpty = false → ∀ W, TP.E G Γ (t W) Γ rInt (minL (mNar p low))) ∧ ((mNar p low).isEmpty = true → ∀ W, EX G Γ (t W) Γ W (aErr K)) := by
  refine ⟨_, lamOk_of rfl (LamX.lamS_by (by kernel_rfl)) (fun _ _ _ _ _ => rfl) (fun A outer s H E f c' hlr => (pe_meth (pv 18) (c_Pot T) (m_Pot_narrowest_from T) (ok_Pot_narrowest_from (G := G) T) (hlr.mono (show 1 ≤ 14 by decide)) (b_Pot_narrowest_from T) .nil (passes_call (takes_of rfl rfl rfl rfl) (fun _ _ _ _ h => h)) (pa_cons (pv 22) pa_nil))), fun Γ p low hg h18 h22 => ⟨fun hb W => ?_, fun hb W => ?_⟩⟩
  · exact e_methB (A := A_nar K) (p, low) o_Pot_narrowest_from (e_var h18) (a_cons (e_var h22) a_nil) rfl hg hb
  · exact e_methBX (A := A_nar K) (p, low) o_Pot_narrowest_from (e_var h18) (a_cons (e_var h22) a_nil) rfl hg hb
theorem lam_2 (T : Top w K mg) (TG : TGs base mg K G) : ∃ t, LamOk (XL P w K mg base A outer s H E) 14 (lamD (eltAt (valOf (stAt (forBody (stAt (forBody (stAt d_law.body 1)) 2)) 11)) 0) t) ∧ ∀ (Γ : TP.Ctx) (p : PotV), goodPt p → Γ[18]? = some (.val (rPot K) p) → (badPt (firedR p) (max 1 (mFired p.2.2.2 p.2.2.1)) = false → ∀ W, TP.E G Γ (t W) Γ (rPot K) (mFiredP p)) ∧ (badPt (firedR p) (max 1 (mFired p.2.2.2 p.2.2.1)) = true → ∀ W, EX G Γ (t W) Γ W (aErr K)) := by
  refine ⟨_, lamOk_of rfl (LamX.lamS_by (by kernel_rfl)) (fun _ _ _ _ _ => rfl) (fun A outer s H E f c' hlr => (pe_meth0 (pv 18) (c_Pot T) (m_Pot_fired T) (ok_Pot_fired (G := G) T TG) (hlr.mono (show 12 ≤ 14 by decide)) (b_Pot_fired T) .nil (passes_call (takes_of rfl rfl rfl rfl) (fun _ _ _ _ h => h)))), fun Γ p hg h18 => ⟨fun hb W => ?_, fun hb W => ?_⟩⟩
  · exact e_methB (A := A_pfired K) p o_Pot_fired (e_var h18) a_nil rfl hg hb
  · exact e_methBX (A := A_pfired K) p o_Pot_fired (e_var h18) a_nil rfl hg hb
theorem lam_3 (T : Top w K mg) (TG : TGs base mg K G) : ∃ t, LamOk (XL P w K mg base A outer s H E) 14 (lamD (eltAt (valOf (stAt d_law.body 3)) 0) t) ∧ ∀ (Γ : TP.Ctx) W, Γ[1]? = some (.val (rClay K) redC) → Γ[3]? = some (.val (rPot K) oneP) → EX G Γ (t W) Γ W (aErr K) := by
  refine ⟨_, lamOk_of rfl (LamX.lamS_by (by kernel_rfl)) (fun _ _ _ _ _ => rfl) (fun A outer s H E f c' hlr => (pe_make (k_Pot T) (ok_Pot_init (G := G) T TG) (hlr.mono (show 10 + 1 ≤ 14 by decide)) rfl (g_Pot T) (b_Pot_init T) .nil (passes_call (takes_of rfl rfl rfl rfl) (fun _ _ _ _ h => h)) (pa_cons pe_str (pa_cons (pe_lst pa_nil) (pa_cons pe_int (pa_cons (pv 1) pa_nil)))))), fun Γ W h1 h3 => ?_⟩
  refine (e_makeBX (_, _, _, _) (a_cons e_str (a_cons (e_lst (xs := []) a_nil (by simp)) (a_cons e_int (a_cons (e_var h1) a_nil)))) ?_ ?_)
  · exact (show ([] : List Rg).length ≤ 1000 by decide)
  · first | rfl | decide +kernel
theorem lam_4 (T : Top w K mg) (TG : TGs base mg K G) : ∃ t, LamOk (XL P w K mg base A outer s H E) 14 (lamD (eltAt (valOf (stAt d_law.body 3)) 1) t) ∧ ∀ (Γ : TP.Ctx) W, Γ[1]? = some (.val (rClay K) redC) → Γ[3]? = some (.val (rPot K) oneP) → EX G Γ (t W) Γ W (aErr K) := by
  refine ⟨_, lamOk_of rfl (LamX.lamS_by (by kernel_rfl)) (fun _ _ _ _ _ => rfl) (fun A outer s H E f c' hlr => (pe_make (k_Pot T) (ok_Pot_init (G := G) T TG) (hlr.mono (show 10 + 1 ≤ 14 by decide)) rfl (g_Pot T) (b_Pot_init T) .nil (passes_call (takes_of rfl rfl rfl rfl) (fun _ _ _ _ h => h)) (pa_cons pe_str (pa_cons (pe_op op_rep (pe_lst (pa_cons (pe_tup (pa_cons pe_int (pa_cons pe_int pa_nil))) pa_nil)) pe_int) (pa_cons pe_int (pa_cons (pv 1) pa_nil)))))), fun Γ W h1 h3 => ?_⟩
  refine (e_makeBX (_, _, _, _) (a_cons e_str (a_cons (e_rep (e_lst (xs := [_]) (a_cons (e_t2 (a_cons e_int (a_cons e_int a_nil))) a_nil) (by simp)) e_int ?_) (a_cons e_int (a_cons (e_var h1) a_nil)))) ?_ ?_)
  · exact ⟨by decide, by decide, by decide⟩
  · exact (show ((List.replicate (31 : Int).toNat [((5 : Int), (1 : Int))]).flatten).length ≤ 1000 by decide)
  · first | rfl | decide +kernel
theorem lam_5 (T : Top w K mg) (TG : TGs base mg K G) : ∃ t, LamOk (XL P w K mg base A outer s H E) 14 (lamD (eltAt (valOf (stAt d_law.body 3)) 2) t) ∧ ∀ (Γ : TP.Ctx) W, Γ[1]? = some (.val (rClay K) redC) → Γ[3]? = some (.val (rPot K) oneP) → EX G Γ (t W) Γ W (aErr K) := by
  refine ⟨_, lamOk_of rfl (LamX.lamS_by (by kernel_rfl)) (fun _ _ _ _ _ => rfl) (fun A outer s H E f c' hlr => (pe_make (k_Pot T) (ok_Pot_init (G := G) T TG) (hlr.mono (show 10 + 1 ≤ 14 by decide)) rfl (g_Pot T) (b_Pot_init T) .nil (passes_call (takes_of rfl rfl rfl rfl) (fun _ _ _ _ h => h)) (pa_cons pe_str (pa_cons (pe_lst (pa_cons (pe_tup (pa_cons pe_int (pa_cons pe_int pa_nil))) pa_nil)) (pa_cons pe_int (pa_cons (pv 1) pa_nil)))))), fun Γ W h1 h3 => ?_⟩
  refine (e_makeBX (_, _, _, _) (a_cons e_str (a_cons (e_lst (xs := [_]) (a_cons (e_t2 (a_cons e_int (a_cons e_int a_nil))) a_nil) (by simp)) (a_cons e_int (a_cons (e_var h1) a_nil)))) ?_ ?_)
  · exact (by decide : (1 : Nat) ≤ 1000)
  · first | rfl | decide +kernel
theorem lam_6 (T : Top w K mg) (TG : TGs base mg K G) : ∃ t, LamOk (XL P w K mg base A outer s H E) 14 (lamD (eltAt (valOf (stAt d_law.body 3)) 3) t) ∧ ∀ (Γ : TP.Ctx) W, Γ[1]? = some (.val (rClay K) redC) → Γ[3]? = some (.val (rPot K) oneP) → EX G Γ (t W) Γ W (aErr K) := by
  refine ⟨_, lamOk_of rfl (LamX.lamS_by (by kernel_rfl)) (fun _ _ _ _ _ => rfl) (fun A outer s H E f c' hlr => (pe_make (k_Pot T) (ok_Pot_init (G := G) T TG) (hlr.mono (show 10 + 1 ≤ 14 by decide)) rfl (g_Pot T) (b_Pot_init T) .nil (passes_call (takes_of rfl rfl rfl rfl) (fun _ _ _ _ h => h)) (pa_cons pe_str (pa_cons (pe_lst (pa_cons (pe_tup (pa_cons pe_int (pa_cons pe_int pa_nil))) pa_nil)) (pa_cons pe_int (pa_cons (pv 1) pa_nil)))))), fun Γ W h1 h3 => ?_⟩
  refine (e_makeBX (_, _, _, _) (a_cons e_str (a_cons (e_lst (xs := [_]) (a_cons (e_t2 (a_cons e_int (a_cons e_int a_nil))) a_nil) (by simp)) (a_cons e_int (a_cons (e_var h1) a_nil)))) ?_ ?_)
  · exact (by decide : (1 : Nat) ≤ 1000)
  · first | rfl | decide +kernel
theorem lam_7 (T : Top w K mg) (TG : TGs base mg K G) : ∃ t, LamOk (XL P w K mg base A outer s H E) 14 (lamD (eltAt (valOf (stAt d_law.body 3)) 4) t) ∧ ∀ (Γ : TP.Ctx) W, Γ[1]? = some (.val (rClay K) redC) → Γ[3]? = some (.val (rPot K) oneP) → EX G Γ (t W) Γ W (aErr K) := by
  refine ⟨_, lamOk_of rfl (LamX.lamS_by (by kernel_rfl)) (fun _ _ _ _ _ => rfl) (fun A outer s H E f c' hlr => (pe_make (k_Pot T) (ok_Pot_init (G := G) T TG) (hlr.mono (show 10 + 1 ≤ 14 by decide)) rfl (g_Pot T) (b_Pot_init T) .nil (passes_call (takes_of rfl rfl rfl rfl) (fun _ _ _ _ h => h)) (pa_cons pe_str (pa_cons (pe_lst (pa_cons (pe_tup (pa_cons pe_int (pa_cons pe_int pa_nil))) pa_nil)) (pa_cons pe_int (pa_cons (pv 1) pa_nil)))))), fun Γ W h1 h3 => ?_⟩
  refine (e_makeBX (_, _, _, _) (a_cons e_str (a_cons (e_lst (xs := [_]) (a_cons (e_t2 (a_cons e_int (a_cons e_int a_nil))) a_nil) (by simp)) (a_cons e_int (a_cons (e_var h1) a_nil)))) ?_ ?_)
  · exact (by decide : (1 : Nat) ≤ 1000)
  · first | rfl | decide +kernel
theorem lam_8 (T : Top w K mg) (TG : TGs base mg K G) : ∃ t, LamOk (XL P w K mg base A outer s H E) 14 (lamD (eltAt (valOf (stAt d_law.body 3)) 5) t) ∧ ∀ (Γ : TP.Ctx) W, Γ[1]? = some (.val (rClay K) redC) → Γ[3]? = some (.val (rPot K) oneP) → EX G Γ (t W) Γ W (aErr K) := by
  refine ⟨_, lamOk_of rfl (LamX.lamS_by (by kernel_rfl)) (fun _ _ _ _ _ => rfl) (fun A outer s H E f c' hlr => (pe_make (k_Pot T) (ok_Pot_init (G := G) T TG) (hlr.mono (show 10 + 1 ≤ 14 by decide)) rfl (g_Pot T) (b_Pot_init T) .nil (passes_call (takes_of rfl rfl rfl rfl) (fun _ _ _ _ h => h)) (pa_cons pe_str (pa_cons (pe_lst (pa_cons (pe_tup (pa_cons pe_int (pa_cons pe_int pa_nil))) pa_nil)) (pa_cons pe_int (pa_cons (pv 1) pa_nil)))))), fun Γ W h1 h3 => ?_⟩
  refine (e_makeBX (_, _, _, _) (a_cons e_str (a_cons (e_lst (xs := [_]) (a_cons (e_t2 (a_cons e_int (a_cons e_int a_nil))) a_nil) (by simp)) (a_cons e_int (a_cons (e_var h1) a_nil)))) ?_ ?_)
  · exact (by decide : (1 : Nat) ≤ 1000)
  · first | rfl | decide +kernel
theorem lam_9 (T : Top w K mg) (TG : TGs base mg K G) : ∃ t, LamOk (XL P w K mg base A outer s H E) 14 (lamD (eltAt (valOf (stAt d_law.body 3)) 6) t) ∧ ∀ (Γ : TP.Ctx) W, Γ[1]? = some (.val (rClay K) redC) → Γ[3]? = some (.val (rPot K) oneP) → EX G Γ (t W) Γ W (aErr K) := by
  refine ⟨_, lamOk_of rfl (LamX.lamS_by (by kernel_rfl)) (fun _ _ _ _ _ => rfl) (fun A outer s H E f c' hlr => (pe_meth (pv 3) (c_Pot T) (m_Pot_narrowest_from T) (ok_Pot_narrowest_from (G := G) T) (hlr.mono (show 1 ≤ 14 by decide)) (b_Pot_narrowest_from T) .nil (passes_call (takes_of rfl rfl rfl rfl) (fun _ _ _ _ h => h)) (pa_cons pe_int pa_nil))), fun Γ W h1 h3 => ?_⟩
  refine (e_methBX (_, _) (o_Pot_narrowest_from) (e_var h3) (a_cons e_int a_nil) rfl ?_ ?_)
  · exact good_one
  · first | rfl | decide +kernel
theorem lam_10 (T : Top w K mg) (TG : TGs base mg K G) : ∃ t, LamOk (XL P w K mg base A outer s H E) 14 (lamD (eltAt (valOf (stAt d_law.body 3)) 7) t) ∧ ∀ (Γ : TP.Ctx) W, Γ[1]? = some (.val (rClay K) redC) → Γ[3]? = some (.val (rPot K) oneP) → EX G Γ (t W) Γ W (aErr K) := by
  refine ⟨_, lamOk_of rfl (LamX.lamS_by (by kernel_rfl)) (fun _ _ _ _ _ => rfl) (fun A outer s H E f c' hlr => (pe_call (ok_longest_nest (G := G) T TG) (hlr.mono (show 12 ≤ 14 by decide)) rfl (g_longest_nest T) (D_longest_nest T).kp (b_longest_nest T) .nil (passes_call (takes_of rfl rfl rfl rfl) (fun _ _ _ _ h => h)) (pa_cons (pe_lst (pa_cons (pv 3) (pa_cons (pv 3) pa_nil))) pa_nil))), fun Γ W h1 h3 => ?_⟩
  refine (e_callBX _ (a_cons (e_lst (xs := [_, _]) (a_cons (e_var h3) (a_cons (e_var h3) a_nil)) (by simp)) a_nil) ?_ ?_)
  · exact (ne_pre (ps := [oneP, oneP]) (by decide) (by decide +kernel))
  · first | rfl | decide +kernel
theorem lam_12 (T : Top w K mg) (TG : TGs base mg K G) : ∃ t, LamOk (XL P w K mg base A outer s H E) 14 (lamD (eltAt (valOf (stAt d_law.body 3)) 9) t) ∧ ∀ (Γ : TP.Ctx) W, Γ[1]? = some (.val (rClay K) redC) → Γ[3]? = some (.val (rPot K) oneP) → EX G Γ (t W) Γ W (aErr K) := by
  refine ⟨_, lamOk_of rfl (LamX.lamS_by (by kernel_rfl)) (fun _ _ _ _ _ => rfl) (fun A outer s H E f c' hlr => (pe_call (ok_sets_of (G := G) T TG) (hlr.mono (show 10 ≤ 14 by decide)) rfl (g_sets_of T) (D_sets_of T).kp (b_sets_of T) .nil (passes_call (takes_of rfl rfl rfl rfl) (fun _ _ _ _ h => h)) (pa_cons (pe_lst pa_nil) (pa_cons (pe_frz pe_dnewK) pa_nil)))), fun Γ W h1 h3 => ?_⟩
  refine (e_callBX (_, _) (a_cons (e_lst (xs := []) a_nil (by simp)) (a_cons (e_frz en_dnew) a_nil)) ?_ ?_)
  · exact (⟨by decide, (fun n hn => nomatch hn), by decide, by decide, (fun y hy => nomatch hy)⟩ : preSe ([], []))
  · first | rfl | decide +kernel
theorem lam_13 (T : Top w K mg) (TG : TGs base mg K G) : ∃ t, LamOk (XL P w K mg base A outer s H E) 14 (lamD (eltAt (valOf (stAt d_law.body 3)) 10) t) ∧ ∀ (Γ : TP.Ctx) W, Γ[1]? = some (.val (rClay K) redC) → Γ[3]? = some (.val (rPot K) oneP) → EX G Γ (t W) Γ W (aErr K) := by
  refine ⟨_, lamOk_of rfl (LamX.lamS_by (by kernel_rfl)) (fun _ _ _ _ _ => rfl) (fun A outer s H E f c' hlr => (pe_call (ok_sets_of (G := G) T TG) (hlr.mono (show 10 ≤ 14 by decide)) rfl (g_sets_of T) (D_sets_of T).kp (b_sets_of T) .nil (passes_call (takes_of rfl rfl rfl rfl) (fun _ _ _ _ h => h)) (pa_cons (pe_lst pa_nil) (pa_cons (pe_frz (pe_disp (pps_cons pe_str pe_int pps_nil) rfl rfl (by simp) (by decide))) pa_nil)))), fun Γ W h1 h3 => ?_⟩
  refine (e_callBX (_, _) (a_cons (e_lst (xs := []) a_nil (by simp)) (a_cons (e_dispF (.cons e_str e_int .nil) (by decide) (by decide)) a_nil)) ?_ ?_)
  · exact (⟨by decide, (fun n hn => nomatch hn), by decide, by decide, (fun y hy => by rw [List.mem_singleton.mp (show y ∈ [(("a" : Str), (0 : Int))] from hy)]; decide)⟩ : preSe ([], [("a", 0)]))
  · first | rfl | decide +kernel
theorem lam_11 (T : Top w K mg) (TG : TGs base mg K G) : ∃ t, LamOk (XL P w K mg base A outer s H E) 14 (lamD (eltAt (valOf (stAt d_law.body 3)) 8) t) ∧ ∀ (Γ : TP.Ctx) (s0 s2 s4 : Sl) W, Γ = (s0 :: .val (rClay K) redC :: s2 :: .val (rPot K) oneP :: s4 :: .no :: .no :: .no :: .no :: .no :: .no :: .no :: .no :: .no :: .no :: .no :: .no :: .no :: .no :: .no :: .no :: .no :: .no :: .no :: .no :: .no :: .no :: .no :: .no :: .no :: .no :: .no :: .no :: []) → EX G Γ (t W) Γ W (aErr K) := by
  refine ⟨_, lamOk_of rfl (LamX.lamS_by (by kernel_rfl)) (fun _ _ _ _ _ => rfl) (fun A outer s H E f c' hlr => (pe_call (ok_longest_nest (G := G) T TG) (hlr.mono (show 12 ≤ 14 by decide)) rfl (g_longest_nest T) (D_longest_nest T).kp (b_longest_nest T) .nil (passes_call (takes_of rfl rfl rfl rfl) (fun _ _ _ _ h => h)) (pa_cons (pe_lc rfl sc_law.nd (own := [("k", 7)]) (pi_range1 rfl (f_range T) (pa_cons pe_int pa_nil)) (blkOk_by (by kernel_rfl)) (fun _ _ _ _ _ => (pg_name (i := 7) sc_law.nd rfl (by first | exact Or.inl rfl | exact Or.inr rfl))) (fun _ _ _ _ _ => pts_nil) (fun _ _ _ _ _ => (pe_make (k_Pot T) (ok_Pot_init (G := G) T TG) (hlr.mono (show 10 + 1 ≤ 14 by decide)) rfl (g_Pot T) (b_Pot_init T) .nil passL (pa_cons (pe_callTy call_str_int rfl (f_str T) (by decide +kernel) (pa_cons (pv 7) pa_nil)) (pa_cons (pe_lst (pa_cons (pe_tup (pa_cons pe_int (pa_cons pe_int pa_nil))) pa_nil)) (pa_cons pe_int (pa_cons (pv 1) pa_nil))))))) pa_nil))), fun Γ s0 s2 s4 W hΓ => ?_⟩
  subst hΓ
  refine e_callBX (A := A_nest K) p13 (a_cons (e_lcT0 (src_rng1 (a_cons e_int a_nil) (by decide) (by decide)) (by rw [upFrom_length]; decide) (noAll_of rfl) (fun x14 hx14 => (tg_name (plain1 rfl))) (by decide) (fun x14 => ⟨plAll_of rfl, rfl⟩) (fun x14 hx14 => (e_makeB (A := A_pinit K) (Str.ofString (toString x14), [((5 : Int), (3 : Int))], (1 : Int), redC) (a_cons (e_strI (a_cons (e_var rfl) a_nil) ?_) (a_cons (e_lst (xs := [_]) (a_cons (e_t2 (a_cons e_int (a_cons e_int a_nil))) a_nil) (by simp)) (a_cons e_int (a_cons (e_var rfl) a_nil)))) ?_ ?_))) a_nil) ?_ ?_
  · have := upFrom_mem.mp hx14
    exact small_log this.1 (by have h := this.2; have h : x14 < 0 + ((13 : Int).toNat : Int) := h; omega)
  · exact (by decide : (1 : Nat) ≤ 1000)
  · rfl
  · exact ne_pre (by unfold p13; rw [List.length_map, upFrom_length]; decide) (by decide +kernel)
  · show badNe p13 = true
    decide +kernel
end
end KH


set_option Elab.async false
set_option linter.all false
set_option maxRecDepth 100000
set_option maxHeartbeats 1000000
set_option pp.maxSteps 300
set_option pp.deepTerms false
namespace KH
open PySem PySem.Spec PyProof.Rows L2 TP LM DkL NM
section
variable {P : Program} {w : World} {K : PySem.W.Frag} {mg : Str → Option Value} {base : Heap} {G : List Addr}
/-! ### the law is entered -/
abbrev GL (K : PySem.W.Frag) : List Addr := tfg.map fun p => (He.cT K p).2
abbrev PL (K : PySem.W.Frag) : Addr := (He.cT K ("law", none)).2
def spLaw (K : PySem.W.Frag) : Sp := fun vs H Q E => ∃ (a : Addr) (ns : List Int), vs = [.ref a] ∧ SqL K H a (ns.map V.int) ∧ (∀ p ∈ tabsOf K, H p = some (.tbl #[])) ∧ ∀ v H', v = V.bl true → Q v H'
def fmLaw (G : List Addr) (H : Hp) (h : ∀ m ∈ G, H m ≠ none) : Fm := ⟨G, [], G, fun b => if b ∈ G then H b else none, fun _ h => h, fun m hm => by rw [if_pos hm]; exact h m hm⟩
theorem sqL_hid {K : PySem.W.Frag} {M : List Addr} {H : Hp} {p : Addr} {vs : List V} (h : SqL K H p vs) (hM : ∀ m ∈ M, H m = some (.tbl #[])) : SqL K (hid M H) p vs := by
  have key : ∀ {o : HO}, H p = some o → o ≠ .tbl #[] → hid M H p = some o := fun {o} e n => hid_of (fun z => n (by rw [hM p z] at e; exact (Option.some.inj e).symm)) e
  rcases h with (h | ⟨o, h⟩) | h
  · exact .inl (.inl (key h (by intro z; cases z)))
  · exact .inl (.inr ⟨o, key h (by intro z; cases z)⟩)
  · exact .inr h
theorem ints_rep {h : Hp} : ∀ ns : List Int, All2 (rInt.rep h) (ns.map V.int) ns
  | [] => .nil
  | _ :: ns => .cons rfl (ints_rep ns)
abbrev CtxZ0 (K : PySem.W.Frag) (q : Str) (ns : List Int) : TP.Ctx := .own (oTabR (PL K) q (rSeq K rInt) ns) :: List.replicate (31 + 1) .no
theorem tabs_split (K : PySem.W.Frag) : tabsOf K = GL K ++ [PL K] := rfl
theorem law_in {K : PySem.W.Frag} {q : Str} {a : Addr} {ns : List Int} {H : Hp} {PP : L2.St → Hp → Prop} (nd : (tabsOf K).Nodup) (hs : SqL K H a (ns.map V.int)) (ht : ∀ p ∈ tabsOf K, H p = some (.tbl #[]))
    (k : ∀ F : Fm, F.G = GL K → F.own0 = [] → (∀ p, p ∉ F.G → F.H0 p = none) → KT F gT (CtxZ0 K q ns) PP) : PP (start lawN [.ref a]) H := by
  rw [tabs_split] at nd ht
  have hPG : PL K ∉ GL K := fun z => by
    rw [List.nodup_append] at nd
    exact nd.2.2 _ z _ (List.mem_singleton.mpr rfl) rfl
  have hm : ∀ m ∈ GL K, H m ≠ none := fun m hm => by rw [ht m (List.mem_append_left _ hm)]; exact Option.some_ne_none _
  refine k (fmLaw (GL K) H hm) rfl rfl (fun p hp => if_neg hp) (GL K ++ [PL K]) [PL K] _ H ⟨⟨fun P hP => List.mem_append_left _ hP, fun m hm => by rw [ht m hm]; exact Option.some_ne_none _, fun P hP => ⟨#[], ht P (List.mem_append_left _ hP), trivial⟩⟩, fun b o _ e => ?_, fun m hm => List.mem_append_left _ hm, fun p hp => .inr (if_neg fun z => ?_)⟩ ⟨by simp, fun p hp => List.mem_append_right _ hp, fun p hp z => ?_, ?_⟩ trivial
  · have e : (if b ∈ GL K then H b else none) = some o := e
    split at e
    · exact e
    · cases e
  · exact hPG (by rw [← List.mem_singleton.mp hp]; exact z)
  · exact hPG (by rw [← List.mem_singleton.mp hp]; exact z)
  · exact ⟨.ref a, [PL K], [], rfl, rfl, ⟨⟨a, _, rfl, sqL_hid hs ht, ints_rep ns⟩, rfl, rfl, #[], ht _ (List.mem_append_right _ (List.mem_singleton.mpr rfl)), trivial, fun pos cv z => by cases z⟩, env_no' rfl⟩
theorem rollV_in {d : Dice} {m : Int} (h : 0 < m) : 0 ≤ rollV d m ∧ rollV d m < m := by
  unfold rollV
  split
  · exact ⟨Int.emod_nonneg _ (by omega), Int.emod_lt_of_pos _ h⟩
  · exact ⟨Int.emod_nonneg _ (by omega), Int.emod_lt_of_pos _ h⟩
theorem seqV_mem {α β Dt : Type} {Pr : β → Prop} {st : Dt → α → Dt} {v : Dt → α → β} (h : ∀ d x, Pr (v d x)) : ∀ {d : Dt} {xs : List α}, ∀ y ∈ seqV st v d xs, Pr y
  | _, [], y, hy => by cases hy
  | d, x :: r, y, hy => by
    rcases List.mem_cons.mp hy with rfl | hy
    · exact h d x
    · exact seqV_mem h y hy
theorem rDice_dl (c : Int) : ∃ d : Dice, rDice c = dl d := by
  unfold rDice
  split
  · exact ⟨(absI c, 0, 2), rfl⟩
  · exact ⟨(c, 1 + c % 1009, if decide (10 ^ 18 ≤ c) then 1 else 0), rfl⟩
theorem e_roll {K : PySem.W.Frag} {G : List Addr} {Γ Γ1 Γ' : TP.Ctx} {t : TA} {W : XK} {d : Dice} {m : Int} {i : Nat} (hm : 1 ≤ m ∧ m ≤ 100000000) (h : EA G Γ t Γ1 [⟨rInt, m⟩]) (h0 : Γ[i]? = some (.own (oLst rInt (dl d)))) (h1 : Γ1[i]? = some (.own (oLst rInt (dl d)))) (hΓ : Γ1.set i (.own (oLst rInt (dl (rollD d m)))) = Γ') :
    TP.E G Γ (tCall (spBO G (A_roll K) O_roll O_roll' (fun x => [⟨rInt, x.2⟩]) rInt) [] W (tCons (tVar i) t)) Γ' rInt (rollV d m) := by
  subst hΓ
  exact e_callBO (A := A_roll K) (O := O_roll) (O' := O_roll') (d, m) h h0 h1 hm rfl
theorem e_lamK {G : List Addr} {Γ : TP.Ctx} {Pt : Addr} {q : Str} {cells : List (Str × Addr)} {Ls : List LamD} {n i : Nat} {v : V} {e bd : Expr} {ps : Arguments} {sc : Scope} {pos : Pos} {t : XK → TE} (hx : Γ[i]? = some (.own (oTab Pt q v))) (hn : Ls[n]? = some (lamD e t)) (he : e = .Lambda ps bd sc pos) :
    TP.E G Γ (tLamV Pt q ps bd sc (cloFrom cells sc.names [])) Γ (rFn q cells Ls) n := by
  subst he
  exact LM.e_lamV hx hn
theorem rounds_one (ns : List Int) : ∃ c, rRounds ns = [rDice c] := by
  unfold rRounds
  cases ns with
  | nil => exact ⟨0, rfl⟩
  | cons n ns => exact ⟨n, rfl⟩

/-! ### what is drawn -/
theorem upFrom_get {lo x : Int} {n i : Nat} (h : (upFrom lo n)[i]? = some x) : x = lo + (i : Int) ∧ i < n := by
  have hi := (List.getElem?_eq_some_iff.mp h).1
  rw [upFrom_length] at hi
  refine ⟨?_, hi⟩
  unfold upFrom at h
  rw [List.getElem?_map, List.getElem?_range hi] at h
  exact (Option.some.inj h).symm
abbrev rgSt (d : Dice) (_ : Int) : Dice := rollD (rollD d 14) 5
abbrev rgV (d : Dice) (_ : Int) : Rg := (1 + rollV d 14, 1 + rollV (rollD d 14) 5)
theorem rg_mem {d : Dice} {l : List Int} : ∀ x ∈ seqV rgSt rgV d l, 1 ≤ x.1 ∧ x.1 ≤ 14 ∧ 1 ≤ x.2 ∧ x.2 ≤ 5 := seqV_mem fun d x => by
  have a := rollV_in (d := d) (m := 14) (by decide)
  have b := rollV_in (d := rollD d 14) (m := 5) (by decide)
  show 1 ≤ 1 + rollV d 14 ∧ 1 + rollV d 14 ≤ 14 ∧ 1 ≤ 1 + rollV (rollD d 14) 5 ∧ 1 + rollV (rollD d 14) 5 ≤ 5
  omega
def wallOf (d : Dice) : Int := 1 + rollV d 2
def ringsOf (d : Dice) : List Rg := seqV rgSt rgV (rollD (rollD d 2) 4) (upFrom 0 (1 + rollV (rollD d 2) 4).toNat)
def diceOf (d : Dice) : Dice := (upFrom 0 (1 + rollV (rollD d 2) 4).toNat).foldl rgSt (rollD (rollD d 2) 4)
theorem wall_in (d : Dice) : 1 ≤ wallOf d ∧ wallOf d ≤ 2 := by
  have := rollV_in (d := d) (m := 2) (by decide)
  unfold wallOf
  omega
theorem rings_in (d : Dice) : ringsOf d ≠ [] ∧ (ringsOf d).length ≤ 4 ∧ ∀ x ∈ ringsOf d, 1 ≤ x.1 ∧ x.1 ≤ 14 ∧ 1 ≤ x.2 ∧ x.2 ≤ 5 := by
  have a := rollV_in (d := rollD d 2) (m := 4) (by decide)
  have hl : (ringsOf d).length = (1 + rollV (rollD d 2) 4).toNat := by unfold ringsOf; rw [seqV_len, upFrom_length]
  refine ⟨fun z => ?_, by omega, rg_mem⟩
  rw [z] at hl
  have hl : 0 = (1 + rollV (rollD d 2) 4).toNat := hl
  omega
def kStep (st : Dice × OTab) (k : Int) : Dice × OTab := (diceOf st.1, if lGood (ringsOf st.1) (wallOf st.1) = true then putL st.2 (pn k) (ringsOf st.1, wallOf st.1) else st.2)
def kInv (i : Nat) (own : OTab) : Prop := goodO2 own ∧ own.length ≤ i ∧ ∀ x ∈ own, ∃ j : Nat, j < i ∧ x.1 = pn (j : Int)
theorem putL_mk {own : OTab} {k : Str} {o : OwnP} : putL (own.map mkP) k (mkP (k, o)).2 = (putL own k o).map mkP := by
  unfold putL
  have e : ((own.map mkP).any fun x => decide (x.1 = k)) = own.any fun x => decide (x.1 = k) := by
    rw [List.any_map]; rfl
  rw [e]
  split
  · rw [List.map_map, List.map_map]
    refine List.map_congr_left fun x _ => ?_
    show (if (mkP x).1 = k then ((mkP x).1, (mkP (k, o)).2) else mkP x) = mkP (if x.1 = k then (x.1, o) else x)
    by_cases h : x.1 = k
    · rw [if_pos h, if_pos (show (mkP x).1 = k from h)]
      subst h; rfl
    · rw [if_neg h, if_neg (show ¬ (mkP x).1 = k from h)]
  · rw [List.map_append]; rfl
theorem kInv_step {i : Nat} {own : OTab} {d : Dice} (h : kInv i own) (hi : i < 6) (g : lGood (ringsOf d) (wallOf d) = true) : kInv (i + 1) (putL own (pn (i : Int)) (ringsOf d, wallOf d)) := by
  obtain ⟨⟨⟨h1, h2, h3⟩, h4⟩, h5, h6⟩ := h
  obtain ⟨w1, w2⟩ := wall_in d
  obtain ⟨r1, r2, r3⟩ := rings_in d
  have hnew : pn (i : Int) ∉ own.map (·.1) := fun z => by
    obtain ⟨x, hx, e⟩ := List.mem_map.mp z
    obtain ⟨j, hj, e2⟩ := h6 x hx
    exact pn_inj ⟨j, by omega⟩ ⟨i, by omega⟩ (fun z => by injection z with z; omega) (e2.symm.trans e)
  rw [putL_new _ hnew]
  have gp : goodPt (mkP (pn (i : Int), (ringsOf d, wallOf d))).2 := good_of g r1 (Nat.le_trans r2 (by decide)) w1 (fun x hx => by have := r3 x hx; omega) goodC_red
  refine ⟨⟨⟨by rw [List.length_append]; simp; omega, ?_, fun x hx => ?_⟩, fun x hx => ?_⟩, by rw [List.length_append]; simp; omega, fun x hx => ?_⟩
  · show ((own ++ [(pn (i : Int), (ringsOf d, wallOf d))]).map (·.1)).Nodup
    rw [List.map_append, List.nodup_append]
    refine ⟨h2, by simp, fun a ha b hb e => hnew ?_⟩
    rw [← List.mem_singleton.mp (show b ∈ [pn (i : Int)] from hb), ← e]; exact ha
  · rcases List.mem_append.mp hx with z | z
    · exact h3 x z
    · rw [List.mem_singleton.mp z]
      exact ⟨⟨Nat.le_trans r2 (by decide), fun y hy => by have := r3 y hy; omega⟩, show 0 ≤ wallOf d by omega, show wallOf d ≤ 1000 by omega, pn_lay ⟨i, by omega⟩⟩
  · rcases List.mem_append.mp hx with z | z
    · exact h4 x z
    · rw [List.mem_singleton.mp z]; exact gp
  · rcases List.mem_append.mp hx with z | z
    · obtain ⟨j, hj, e⟩ := h6 x z
      exact ⟨j, by omega, e⟩
    · exact ⟨i, by omega, by rw [List.mem_singleton.mp z]⟩
theorem kInv_mono {i : Nat} {own : OTab} (h : kInv i own) : kInv (i + 1) own := ⟨h.1, by have := h.2.1; omega, fun x hx => by obtain ⟨j, hj, e⟩ := h.2.2 x hx; exact ⟨j, by omega, e⟩⟩
theorem kInv_next {i : Nat} {st : Dice × OTab} {k : Int} {n : Nat} (h : kInv i st.2) (hk : (upFrom 0 n)[i]? = some k) (hn : n ≤ 6) : kInv (i + 1) (kStep st k).2 := by
  obtain ⟨e, hi⟩ := upFrom_get hk
  show kInv (i + 1) (if lGood (ringsOf st.1) (wallOf st.1) = true then _ else st.2)
  split
  · rename_i g
    rw [e, Int.zero_add]
    exact kInv_step h (by omega) g
  · exact kInv_mono h
theorem kInv_nil : kInv 0 [] := ⟨⟨⟨Nat.zero_le _, List.nodup_nil, fun x hx => nomatch hx⟩, fun x hx => nomatch hx⟩, Nat.le_refl _, fun x hx => nomatch hx⟩
theorem sep_clay {K : PySem.W.Frag} {c : ClayV} : Sep (rClay K) c := fun h p ys hp _ _ v ⟨q, dx, e, hq⟩ => by
  refine ⟨q, dx, e, ?_⟩
  unfold hideA
  rw [if_neg]
  · exact hq
  · intro z
    rw [z, hp] at hq
    cases hq
theorem col_bounds {p : PotV} (g : goodPt p) : ∀ y ∈ lCol p.2.1, p.2.2.1 < y ∧ y ≤ 1000 := fun y hy => by
  obtain ⟨x, hx, e, _⟩ := mem_col.mp hy
  have := g.2.2.1 x hx
  omega
theorem col_30 {p : PotV} (g : goodPt p) : (lCol p.2.1).length ≤ 30000 := col_len ⟨g.2.1, fun x hx => by have := g.2.2.1 x hx; omega⟩
theorem fired_rows {r : List Rg} {nm : Str} {wl : Int} : (r.map fun x => (mFired redC x.1, max 1 (mFired redC x.2))) = firedR (nm, r, wl, redC) := rfl
theorem fired_bad {r : List Rg} {nm : Str} {wl : Int} (g : goodPt (nm, r, wl, redC)) : badPt (firedR (nm, r, wl, redC)) (max 1 (mFired redC wl)) = !lGood (firedR (nm, r, wl, redC)) (max 1 (mFired redC wl)) := by
  have g1 : r ≠ [] := g.1
  have g2 : r.length ≤ 30 := g.2.1
  refine law_bad (fun z => g1 (List.map_eq_nil_iff.mp z)) ?_ (by omega) fun x hx => ?_
  · unfold firedR
    rw [List.length_map]; exact g2
  · obtain ⟨y, _, rfl⟩ := List.mem_map.mp hx
    show 1 ≤ max 1 (mFired redC y.2)
    omega
abbrev nmSt (d : Dice) (_ : Int) : Dice := rollD d 3
abbrev nmV (d : Dice) (k : Int) : Str := KN.getD (rollV d 3).toNat "" ++ Str.ofString (toString k)
theorem names_ok {d : Dice} {n : Nat} (hn : n ≤ 15) : okNs (seqV nmSt nmV d (upFrom 0 n)) := by
  have key : ∀ (l : List Int) (d : Dice), (∀ k ∈ l, 0 ≤ k ∧ k < 15) → okNs (seqV nmSt nmV d l) := fun l => by
    induction l with
    | nil => intro d _ n hn; cases hn
    | cons k r ih =>
      intro d hl n hn
      rcases List.mem_cons.mp hn with rfl | hn
      · have a := rollV_in (d := d) (m := 3) (by decide)
        have b := hl k List.mem_cons_self
        refine ⟨⟨(rollV d 3).toNat, by omega⟩, ⟨k.toNat, by omega⟩, ?_⟩
        show KN.getD (rollV d 3).toNat "" ++ Str.ofString (toString k) = KN.getD ((rollV d 3).toNat : Int).toNat "" ++ Str.ofString (toString ((k.toNat : Nat) : Int))
        rw [Int.toNat_natCast, show ((k.toNat : Nat) : Int) = k by omega]
      · exact ih _ (fun k hk => hl k (List.mem_cons_of_mem _ hk)) n hn
  refine key _ d fun k hk => ?_
  have := upFrom_mem.mp hk
  omega
theorem ns_len {ns : List Str} (h : okNs ns) : ∀ n ∈ ns, n.length ≤ 1000 := fun n hn => by
  obtain ⟨i, j, rfl⟩ := h n hn
  exact kn_len i j
theorem tab_lay {l : List (Str × Int)} (h : ∀ x ∈ l, x.1 = "cup" ∨ x.1 = "plate") : ∀ x ∈ l, PyData.canLay0 (.str x.1) = true ∧ True := fun x hx => by
  rcases h x hx with e | e <;> rw [e] <;> exact ⟨by decide +kernel, trivial⟩
theorem kn_cat {i k : Int} (hi : 0 ≤ i ∧ i < 3) (h0 : 0 ≤ k) (h : k < 100) : (KN.getD i.toNat "").length + (Str.ofString (toString k)).length ≤ sizeLine := by
  have := str_small ⟨k.toNat, by omega⟩
  have e : ((k.toNat : Nat) : Int) = k := by omega
  have this : (Str.ofString (toString ((k.toNat : Nat) : Int))).length ≤ 2 := this
  rw [e] at this
  have h1 : ∀ j : Fin 3, (KN.getD j.val "").length ≤ 5 := by decide +kernel
  have := h1 ⟨i.toNat, by omega⟩
  have this : (KN.getD i.toNat "").length ≤ 5 := this
  refine small_len ?_
  omega
def preSe' (a b : Int) : Prop := a ≤ 3 ∧ b ≤ 3
theorem set_pre {ns : List Str} {a b : Int} (h : okNs ns) (hl : ns.length ≤ 15) (hm : preSe' a b) : preSe (ns, manyOf a b) := by
  refine ⟨by show ns.length ≤ 1000; omega, ns_len h, show ([("cup" : Str), "plate"]).Nodup by decide, show 2 ≤ 60 by decide, fun y hy => ?_⟩
  have hy : y = (("cup" : Str), a) ∨ y = (("plate" : Str), b) := by simpa [manyOf] using hy
  obtain ⟨m1, m2⟩ := hm
  rcases hy with rfl | rfl
  · show a ≤ 1000
    omega
  · show b ≤ 1000
    omega
theorem set_bad {ns : List Str} {a b : Int} (hb : 1 ≤ b) (ha : 1 ≤ a) : badSe (ns, manyOf a b) = false := by
  show (false || decide (minL [a, b] < 1)) = false
  have := (minL_spec (ns := [a, b]) (List.cons_ne_nil _ _)).1
  rw [Bool.false_or]
  refine decide_eq_false ?_
  rcases List.mem_cons.mp this with e | e
  · rw [e]; omega
  · rw [List.mem_singleton.mp e]; omega
theorem nest_nil : mNest [] = [] := by
  have h := (least_spec (rows := allP []) (fun z => by
    have := al_self (downN (namesOf []) (okP (tabOf []))) []
    rw [show al (chN (namesOf []) (okP (tabOf []))) (rkN (namesOf [])) [] = [] from z] at this
    cases this)).1
  have e : allP [] = [[]] := by
    unfold allP
    rw [al_eq (downN (namesOf []) (okP (tabOf [])))]
    rfl
  rw [e] at h
  exact List.mem_singleton.mp h
theorem ok_law (T : Top w K mg) (TG : TGs base mg K (GL K)) (TBL : LamX.TabB base mg (He.codeOf K d_law.at_) (PL K)) : Kp P w K mg base 20 d_law ["script"] (spLaw K) := by
  refine (D_law T).ok sc_law (fun vs H Q E ⟨a, ns, e, _⟩ => by rw [e]; rfl) fun A outer s H vs Q E hr hsp => ?_
  obtain ⟨G, hG⟩ : ∃ G, G = GL K := ⟨_, rfl⟩
  rw [← hG] at TG
  have hrT : Room (14 + 2) (XL P w K mg base A outer s H E).A := hr.mono (show 16 ≤ 19 by decide)
  obtain ⟨t0, ok0, ty0⟩ := lam_0 (P := P) (A := A) (outer := outer) (s := s) (H := H) (E := E) T TG
  obtain ⟨t1, ok1, ty1⟩ := lam_1 (P := P) (A := A) (outer := outer) (s := s) (H := H) (E := E) T TG
  obtain ⟨t2, ok2, ty2⟩ := lam_2 (P := P) (A := A) (outer := outer) (s := s) (H := H) (E := E) T TG
  obtain ⟨t3, ok3, ty3⟩ := lam_3 (P := P) (A := A) (outer := outer) (s := s) (H := H) (E := E) T TG
  obtain ⟨t4, ok4, ty4⟩ := lam_4 (P := P) (A := A) (outer := outer) (s := s) (H := H) (E := E) T TG
  obtain ⟨t5, ok5, ty5⟩ := lam_5 (P := P) (A := A) (outer := outer) (s := s) (H := H) (E := E) T TG
  obtain ⟨t6, ok6, ty6⟩ := lam_6 (P := P) (A := A) (outer := outer) (s := s) (H := H) (E := E) T TG
  obtain ⟨t7, ok7, ty7⟩ := lam_7 (P := P) (A := A) (outer := outer) (s := s) (H := H) (E := E) T TG
  obtain ⟨t8, ok8, ty8⟩ := lam_8 (P := P) (A := A) (outer := outer) (s := s) (H := H) (E := E) T TG
  obtain ⟨t9, ok9, ty9⟩ := lam_9 (P := P) (A := A) (outer := outer) (s := s) (H := H) (E := E) T TG
  obtain ⟨t10, ok10, ty10⟩ := lam_10 (P := P) (A := A) (outer := outer) (s := s) (H := H) (E := E) T TG
  obtain ⟨t11, ok11, ty11⟩ := lam_11 (P := P) (A := A) (outer := outer) (s := s) (H := H) (E := E) T TG
  obtain ⟨t12, ok12, ty12⟩ := lam_12 (P := P) (A := A) (outer := outer) (s := s) (H := H) (E := E) T TG
  obtain ⟨t13, ok13, ty13⟩ := lam_13 (P := P) (A := A) (outer := outer) (s := s) (H := H) (E := E) T TG
  obtain ⟨Ls, hLd⟩ : ∃ Ls, Ls = [lamD (eltAt (valOf (stAt (forBody (stAt (forBody (stAt d_law.body 1)) 1)) 3)) 0) t0, lamD (eltAt (eltAt (valOf (stAt (forBody (stAt (forBody (stAt d_law.body 1)) 2)) 6)) 0) 0) t1, lamD (eltAt (valOf (stAt (forBody (stAt (forBody (stAt d_law.body 1)) 2)) 11)) 0) t2, lamD (eltAt (valOf (stAt d_law.body 3)) 0) t3, lamD (eltAt (valOf (stAt d_law.body 3)) 1) t4, lamD (eltAt (valOf (stAt d_law.body 3)) 2) t5, lamD (eltAt (valOf (stAt d_law.body 3)) 3) t6, lamD (eltAt (valOf (stAt d_law.body 3)) 4) t7, lamD (eltAt (valOf (stAt d_law.body 3)) 5) t8, lamD (eltAt (valOf (stAt d_law.body 3)) 6) t9, lamD (eltAt (valOf (stAt d_law.body 3)) 7) t10, lamD (eltAt (valOf (stAt d_law.body 3)) 8) t11, lamD (eltAt (valOf (stAt d_law.body 3)) 9) t12, lamD (eltAt (valOf (stAt d_law.body 3)) 10) t13] := ⟨_, rfl⟩
  have hLs : ∀ ld ∈ Ls, LamOk (XL P w K mg base A outer s H E) 14 ld := by
    rw [hLd]
    intro ld h
    simp only [List.mem_cons, List.not_mem_nil, or_false] at h
    rcases h with rfl | rfl | rfl | rfl | rfl | rfl | rfl | rfl | rfl | rfl | rfl | rfl | rfl | rfl <;> assumption
  have TO := told_ok T (X := XL P w K mg base A outer s H E) rfl rfl
  refine ⟨_, (pss_cons (ps_set (i := 1) sc_law.nd rfl (by first | exact Or.inl rfl | exact Or.inr rfl) (pe_make (k_Clay T) (ok_Clay_init (G := G) T) (hr.mono (show 1 + 1 ≤ 19 by decide)) rfl (g_Clay T) (b_Clay_init T) .nil (passes_call (takes_of rfl rfl rfl rfl) (fun _ _ _ _ h => h)) (pa_cons pe_str (pa_cons pe_int (pa_cons pe_int (pa_cons pe_int pa_nil)))))) (pss_cons (ps_for (passes_of rfl) rfl (pi_listK (K := K) rfl (pe_call (ok_law_rounds (G := G) T) (hr.mono (show 2 ≤ 19 by decide)) rfl (g_law_rounds T) (D_law_rounds T).kp (b_law_rounds T) .nil (passes_call (takes_of rfl rfl rfl rfl) (fun _ _ _ _ h => h)) (pa_cons (pv 0) (pa_cons pe_int pa_nil)))) (pg_name (i := 2) sc_law.nd rfl (by first | exact Or.inl rfl | exact Or.inr rfl)) (pss_cons (ps_asg (pe_tup (pa_cons pe_dnewK (pa_cons pe_dnewK pa_nil))) (pg_tupK (K := K) (n := 2) rfl rfl (pgs_cons (pg_name (i := 5) sc_law.nd rfl (by first | exact Or.inl rfl | exact Or.inr rfl)) (pgs_cons (pg_name (i := 6) sc_law.nd rfl (by first | exact Or.inl rfl | exact Or.inr rfl)) pgs_nil)))) (pss_cons (ps_for (passes_of rfl) rfl (pi_range1 rfl (f_range T) (pa_cons (pe_call (ok_law_roll (G := G) T) (hr.mono (show 1 ≤ 19 by decide)) rfl (g_law_roll T) (D_law_roll T).kp (b_law_roll T) .nil (passes_call (takes_of rfl rfl rfl rfl) (fun _ _ _ _ h => h)) (pa_cons (pv 2) (pa_cons pe_int pa_nil))) pa_nil)) (pg_name (i := 7) sc_law.nd rfl (by first | exact Or.inl rfl | exact Or.inr rfl)) (pss_cons (ps_set (i := 15) sc_law.nd rfl (by first | exact Or.inl rfl | exact Or.inr rfl) (pe_op op_add pe_int (pe_call (ok_law_roll (G := G) T) (hr.mono (show 1 ≤ 19 by decide)) rfl (g_law_roll T) (D_law_roll T).kp (b_law_roll T) .nil (passes_call (takes_of rfl rfl rfl rfl) (fun _ _ _ _ h => h)) (pa_cons (pv 2) (pa_cons pe_int pa_nil))))) (pss_cons (ps_set (i := 16) sc_law.nd rfl (by first | exact Or.inl rfl | exact Or.inr rfl) (pe_lc rfl sc_law.nd (own := [("j", 27)]) (pi_range1 rfl (f_range T) (pa_cons (pe_op op_add pe_int (pe_call (ok_law_roll (G := G) T) (hr.mono (show 1 ≤ 19 by decide)) rfl (g_law_roll T) (D_law_roll T).kp (b_law_roll T) .nil (passes_call (takes_of rfl rfl rfl rfl) (fun _ _ _ _ h => h)) (pa_cons (pv 2) (pa_cons pe_int pa_nil)))) pa_nil)) (blkOk_by (by kernel_rfl)) (fun _ _ _ _ _ => (pg_name (i := 27) sc_law.nd rfl (by first | exact Or.inl rfl | exact Or.inr rfl))) (fun _ _ _ _ _ => pts_nil) (fun _ _ _ _ _ => (pe_tup (pa_cons (pe_op op_add pe_int (pe_call (ok_law_roll (G := G) T) (hr.mono (show 1 ≤ 19 by decide)) rfl (g_law_roll T) (D_law_roll T).kp (b_law_roll T) .nil passL (pa_cons (pv 2) (pa_cons pe_int pa_nil)))) (pa_cons (pe_op op_add pe_int (pe_call (ok_law_roll (G := G) T) (hr.mono (show 1 ≤ 19 by decide)) rfl (g_law_roll T) (D_law_roll T).kp (b_law_roll T) .nil passL (pa_cons (pv 2) (pa_cons pe_int pa_nil)))) pa_nil)))))) (pss_cons (ps_set (i := 17) sc_law.nd rfl (by first | exact Or.inl rfl | exact Or.inr rfl) (pe_and (pe_cmpR (op_eqEK (K := K) rfl hr.units0) (pe_lc rfl sc_law.nd (own := [("radius", 28), ("high", 29)]) (pi_listK (K := K) rfl (pv 16)) (blkOk_by (by kernel_rfl)) (fun _ _ _ _ _ => (pg_tupK (K := K) (n := 2) rfl rfl (pgs_cons (pg_name (i := 28) sc_law.nd rfl (by first | exact Or.inl rfl | exact Or.inr rfl)) (pgs_cons (pg_name (i := 29) sc_law.nd rfl (by first | exact Or.inl rfl | exact Or.inr rfl)) pgs_nil)))) (fun _ _ _ _ _ => (pts_one (pt_cmpR op_le (pv 28) (pv 15) (nomark _)))) (fun _ _ _ _ _ => pe_int)) (pe_lst pa_nil) (nomark _)) (pe_one (pe_cmpR op_le (pv 15) (pe_ix (ix_tupK (K := K) rfl) (pe_ix (ix_listK (K := K) rfl) (pv 16) pe_int (fun _ _ => rfl)) pe_int (fun _ _ => rfl)) (nomark _))))) (pss_cons (ps_set (i := 18) sc_law.nd rfl (by first | exact Or.inl rfl | exact Or.inr rfl) (LM.pe_told (X := XL P w K mg base A outer s H E) ⟨rfl, rfl, rfl, rfl, rfl, rfl, rfl⟩ TO hrT hLs (fun _ _ _ _ I => LM.Cells.of I) rfl (LM.pe_lamV TBL rfl ok0.ls rfl))) (pss_cons (ps_if (pt_cmpR op_eq (pe_cmpR (op_eqU (K := K) rfl hr.units0) (pv 18) pe_str (nomark _)) (pv 17) (nomark _)) (pss_one (ps_ret pe_bl)) pss_nil) (pss_one (ps_if (pt_val (pv 17)) (pss_one (ps_asg (pe_tup (pa_cons (pe_tup (pa_cons (pv 16) (pa_cons (pv 15) pa_nil))) (pa_cons (pv 18) pa_nil))) (pg_tupK (K := K) (n := 2) rfl rfl (pgs_cons (pg_sub (pv 5) (pe_op op_add_str pe_str (pe_callTy call_str_int rfl (f_str T) (by decide +kernel) (pa_cons (pv 7) pa_nil))) (set_dict hr.units1)) (pgs_cons (pg_sub (pv 6) (pe_op op_add_str pe_str (pe_callTy call_str_int rfl (f_str T) (by decide +kernel) (pa_cons (pv 7) pa_nil))) (set_dict hr.units1)) pgs_nil))))) pss_nil)))))))) (pss_cons (ps_frzS (i := 5) (ps_frzS (i := 6) (ps_for (passes_of rfl) rfl (pi_keys (pv 5)) (pg_name (i := 8) sc_law.nd rfl (by first | exact Or.inl rfl | exact Or.inr rfl)) (pss_cons (ps_asg (pe_dget hr.units1 (pv 5) (pv 8) (fun _ _ => rfl)) (pg_tupK (K := K) (n := 2) rfl rfl (pgs_cons (pg_name (i := 16) sc_law.nd rfl (by first | exact Or.inl rfl | exact Or.inr rfl)) (pgs_cons (pg_name (i := 15) sc_law.nd rfl (by first | exact Or.inl rfl | exact Or.inr rfl)) pgs_nil)))) (pss_cons (ps_asg (pe_tup (pa_cons (pe_call (ok_law_column (G := G) T) (hr.mono (show 1 ≤ 19 by decide)) rfl (g_law_column T) (D_law_column T).kp (b_law_column T) .nil (passes_call (takes_of rfl rfl rfl rfl) (fun _ _ _ _ h => h)) (pa_cons (pv 16) pa_nil)) (pa_cons (pe_dget hr.units1 (pv 6) (pv 8) (fun _ _ => rfl)) pa_nil))) (pg_tupK (K := K) (n := 2) rfl rfl (pgs_cons (pg_name (i := 19) sc_law.nd rfl (by first | exact Or.inl rfl | exact Or.inr rfl)) (pgs_cons (pg_name (i := 18) sc_law.nd rfl (by first | exact Or.inl rfl | exact Or.inr rfl)) pgs_nil)))) (pss_cons (ps_set (i := 20) sc_law.nd rfl (by first | exact Or.inl rfl | exact Or.inr rfl) (pe_callB (cr_sumK (K := K) rfl rfl) rfl (f_sum T) (by decide +kernel) (pa_cons (pe_lc rfl sc_law.nd (own := [("radius", 28)]) (pi_listK (K := K) rfl (pe_slice (sl_listK (K := K) rfl) (pv 19) (po_some (pv 15)) po_none)) (blkOk_by (by kernel_rfl)) (fun _ _ _ _ _ => (pg_name (i := 28) sc_law.nd rfl (by first | exact Or.inl rfl | exact Or.inr rfl))) (fun _ _ _ _ _ => pts_nil) (fun _ _ _ _ _ => (pe_op op_mul (pe_op op_sub (pv 28) (pv 15)) (pe_op op_sub (pv 28) (pv 15))))) pa_nil))) (pss_cons (ps_set (i := 21) sc_law.nd rfl (by first | exact Or.inl rfl | exact Or.inr rfl) (pe_callB (cr_sumK (K := K) rfl rfl) rfl (f_sum T) (by decide +kernel) (pa_cons (pe_lc rfl sc_law.nd (own := [("radius", 28)]) (pi_listK (K := K) rfl (pv 19)) (blkOk_by (by kernel_rfl)) (fun _ _ _ _ _ => (pg_name (i := 28) sc_law.nd rfl (by first | exact Or.inl rfl | exact Or.inr rfl))) (fun _ _ _ _ _ => pts_nil) (fun _ _ _ _ _ => (pe_op op_mul (pv 28) (pv 28)))) pa_nil))) (pss_cons (ps_if (pt_cmpR (op_neDK (K := K) rfl hr.units) (pe_tup (pa_cons (pe_meth0 (pv 18) (c_Pot T) (m_Pot_height T) (ok_Pot_height (G := G) T TG) (hr.mono (show 10 ≤ 19 by decide)) (b_Pot_height T) .nil (passes_call (takes_of rfl rfl rfl rfl) (fun _ _ _ _ h => h))) (pa_cons (pe_meth0 (pv 18) (c_Pot T) (m_Pot_width T) (ok_Pot_width (G := G) T TG) (hr.mono (show 10 ≤ 19 by decide)) (b_Pot_width T) .nil (passes_call (takes_of rfl rfl rfl rfl) (fun _ _ _ _ h => h))) (pa_cons (pe_meth0 (pv 18) (c_Pot T) (m_Pot_outside T) (ok_Pot_outside (G := G) T TG) (hr.mono (show 10 ≤ 19 by decide)) (b_Pot_outside T) .nil (passes_call (takes_of rfl rfl rfl rfl) (fun _ _ _ _ h => h))) (pa_cons (pe_meth0 (pv 18) (c_Pot T) (m_Pot_holds T) (ok_Pot_holds (G := G) T) (hr.mono (show 1 ≤ 19 by decide)) (b_Pot_holds T) .nil (passes_call (takes_of rfl rfl rfl rfl) (fun _ _ _ _ h => h))) (pa_cons (pe_meth0 (pv 18) (c_Pot T) (m_Pot_clay_room T) (ok_Pot_clay_room (G := G) T TG) (hr.mono (show 11 ≤ 19 by decide)) (b_Pot_clay_room T) .nil (passes_call (takes_of rfl rfl rfl rfl) (fun _ _ _ _ h => h))) (pa_cons (pe_meth0 (pv 18) (c_Pot T) (m_Pot_mouth T) (ok_Pot_mouth (G := G) T TG) (hr.mono (show 10 ≤ 19 by decide)) (b_Pot_mouth T) .nil (passes_call (takes_of rfl rfl rfl rfl) (fun _ _ _ _ h => h))) pa_nil))))))) (pe_tup (pa_cons (pe_callB (call_len_seqK (K := K) rfl) rfl (f_len T) (by decide +kernel) (pa_cons (pv 19) pa_nil)) (pa_cons (pe_op op_mul pe_int (pe_callB (cr_maxK (K := K) rfl rfl) rfl (f_max T) (by decide +kernel) (pa_cons (pv 19) pa_nil))) (pa_cons (pv 21) (pa_cons (pv 20) (pa_cons (pe_op op_sub (pv 21) (pv 20)) (pa_cons (pe_op op_sub (pe_callB (cr_minK (K := K) rfl rfl) rfl (f_min T) (by decide +kernel) (pa_cons (pv 19) pa_nil)) (pv 15)) pa_nil))))))) (nomark _)) (pss_one (ps_ret pe_bl)) pss_nil) (pss_cons (ps_set (i := 22) sc_law.nd rfl (by first | exact Or.inl rfl | exact Or.inr rfl) (pe_call (ok_law_roll (G := G) T) (hr.mono (show 1 ≤ 19 by decide)) rfl (g_law_roll T) (D_law_roll T).kp (b_law_roll T) .nil (passes_call (takes_of rfl rfl rfl rfl) (fun _ _ _ _ h => h)) (pa_cons (pv 2) (pa_cons (pe_op op_add (pe_callB (call_len_seqK (K := K) rfl) rfl (f_len T) (by decide +kernel) (pa_cons (pv 19) pa_nil)) pe_int) pa_nil)))) (pss_cons (ps_if (pt_cmpR (op_neT (K := K) rfl hr.unitsT) (LM.pe_told (X := XL P w K mg base A outer s H E) ⟨rfl, rfl, rfl, rfl, rfl, rfl, rfl⟩ TO hrT hLs (fun _ _ _ _ I => LM.Cells.of I) rfl (LM.pe_lamV TBL rfl ok1.ls rfl)) (pe_ifExp (pt_cmpR op_lt (pv 22) (pe_callB (call_len_seqK (K := K) rfl) rfl (f_len T) (by decide +kernel) (pa_cons (pv 19) pa_nil)) (nomark _)) (pe_op op_sub (pe_callB (cr_minK (K := K) rfl rfl) rfl (f_min T) (by decide +kernel) (pa_cons (pe_slice (sl_listK (K := K) rfl) (pv 19) (po_some (pv 22)) po_none) pa_nil)) (pv 15)) pe_str) (nomark _)) (pss_one (ps_ret pe_bl)) pss_nil) (pss_cons (ps_for (passes_of rfl) rfl (pi_keys (pv 5)) (pg_name (i := 23) sc_law.nd rfl (by first | exact Or.inl rfl | exact Or.inr rfl)) (pss_one (ps_if (pt_cmpR op_ne (pe_meth (pv 18) (c_Pot T) (m_Pot_has_room_for T) (ok_Pot_has_room_for (G := G) T TG) (hr.mono (show 11 ≤ 19 by decide)) (b_Pot_has_room_for T) .nil (passes_call (takes_of rfl rfl rfl rfl) (fun _ _ _ _ h => h)) (pa_cons (pe_dget hr.units1 (pv 6) (pv 23) (fun _ _ => rfl)) pa_nil)) (pe_call (ok_law_within (G := G) T) (hr.mono (show 2 ≤ 19 by decide)) rfl (g_law_within T) (D_law_within T).kp (b_law_within T) .nil (passes_call (takes_of rfl rfl rfl rfl) (fun _ _ _ _ h => h)) (pa_cons (pe_dget hr.units1 (pv 5) (pv 8) (fun _ _ => rfl)) (pa_cons (pe_dget hr.units1 (pv 5) (pv 23) (fun _ _ => rfl)) pa_nil))) (nomark _)) (pss_one (ps_ret pe_bl)) pss_nil))) (pss_cons (ps_setLc (i := 24) rfl sc_law.nd rfl rfl (sw_true rfl rfl rfl rfl) (own := [("radius", 28), ("high", 29)]) (pi_listK (K := K) rfl (pv 16)) (blkOk_by (by kernel_rfl)) (fun _ _ _ _ _ => (pg_tupK (K := K) (n := 2) rfl rfl (pgs_cons (pg_name (i := 28) sc_law.nd rfl (by first | exact Or.inl rfl | exact Or.inr rfl)) (pgs_cons (pg_name (i := 29) sc_law.nd rfl (by first | exact Or.inl rfl | exact Or.inr rfl)) pgs_nil)))) (fun _ _ _ _ _ => pts_nil) (fun _ _ _ _ _ => (pe_tup (pa_cons (pe_meth (pv 1) (c_Clay T) (m_Clay_fired T) (ok_Clay_fired (G := G) T) (hr.mono (show 1 ≤ 19 by decide)) (b_Clay_fired T) .nil passL (pa_cons (pv 28) pa_nil)) (pa_cons (pe_callB (call_max2 rfl) rfl (f_max T) (by decide +kernel) (pa_cons pe_int (pa_cons (pe_meth (pv 1) (c_Clay T) (m_Clay_fired T) (ok_Clay_fired (G := G) T) (hr.mono (show 1 ≤ 19 by decide)) (b_Clay_fired T) .nil passL (pa_cons (pv 29) pa_nil)) pa_nil))) pa_nil))))) (pss_cons (ps_set (i := 25) sc_law.nd rfl (by first | exact Or.inl rfl | exact Or.inr rfl) (pe_callB (call_max2 rfl) rfl (f_max T) (by decide +kernel) (pa_cons pe_int (pa_cons (pe_meth (pv 1) (c_Clay T) (m_Clay_fired T) (ok_Clay_fired (G := G) T) (hr.mono (show 1 ≤ 19 by decide)) (b_Clay_fired T) .nil (passes_call (takes_of rfl rfl rfl rfl) (fun _ _ _ _ h => h)) (pa_cons (pv 15) pa_nil)) pa_nil)))) (pss_cons (ps_set (i := 17) sc_law.nd rfl (by first | exact Or.inl rfl | exact Or.inr rfl) (pe_and (pe_cmpR (op_eqEK (K := K) rfl hr.units0) (pe_lc rfl sc_law.nd (own := [("radius", 28), ("high", 29)]) (pi_listK (K := K) rfl (pv 24)) (blkOk_by (by kernel_rfl)) (fun _ _ _ _ _ => (pg_tupK (K := K) (n := 2) rfl rfl (pgs_cons (pg_name (i := 28) sc_law.nd rfl (by first | exact Or.inl rfl | exact Or.inr rfl)) (pgs_cons (pg_name (i := 29) sc_law.nd rfl (by first | exact Or.inl rfl | exact Or.inr rfl)) pgs_nil)))) (fun _ _ _ _ _ => (pts_one (pt_cmpR op_le (pv 28) (pv 25) (nomark _)))) (fun _ _ _ _ _ => pe_int)) (pe_lst pa_nil) (nomark _)) (pe_one (pe_cmpR op_le (pv 25) (pe_ix (ix_tupK (K := K) rfl) (pe_ix (ix_listK (K := K) rfl) (pv 24) pe_int (fun _ _ => rfl)) pe_int (fun _ _ => rfl)) (nomark _))))) (pss_cons (ps_set (i := 26) sc_law.nd rfl (by first | exact Or.inl rfl | exact Or.inr rfl) (LM.pe_told (X := XL P w K mg base A outer s H E) ⟨rfl, rfl, rfl, rfl, rfl, rfl, rfl⟩ TO hrT hLs (fun _ _ _ _ I => LM.Cells.of I) rfl (LM.pe_lamV TBL rfl ok2.ls rfl))) (pss_one (ps_if (PW.pt (pw_or (pt_cmpR op_eq (pe_cmpR (op_eqU (K := K) rfl hr.units0) (pv 26) pe_str (nomark _)) (pv 17) (nomark _)) (pw_or1 (PW.pt (pw_and (pt_val (pv 17)) (pw_and1 (pt_cmpR (op_neDK (K := K) rfl hr.units) (pe_tup (pa_cons (pe_callTy (call_list_ofK (K := K) rfl) rfl (f_list T) (by decide +kernel) (pa_cons (pe_fldK (K := K) rfl (pv 26) rfl) pa_nil)) (pa_cons (pe_fldK (K := K) rfl (pv 26) rfl) (pa_cons (pe_fldK (K := K) rfl (pv 26) rfl) pa_nil)))) (pe_tup (pa_cons (pv 24) (pa_cons (pv 25) (pa_cons (pv 8) pa_nil)))) (nomark _)))))))) (pss_one (ps_ret pe_bl)) pss_nil))))))))))))))))) (pss_cons (ps_set (i := 9) sc_law.nd rfl (by first | exact Or.inl rfl | exact Or.inr rfl) (pe_callB (cr_sortD (K := K) rfl hr.units) rfl (f_sorted T) (by decide +kernel) (pa_cons (pe_lc rfl sc_law.nd (own := [("row", 30)]) (pi_listK (K := K) rfl (pe_call (ok_law_nests (G := G) T 7) (hr.mono (show 10 ≤ 19 by decide)) rfl (g_law_nests T) (D_law_nests T).kp (b_law_nests T) .nil (passes_call (takes_of rfl rfl rfl rfl) (fun _ _ _ _ h => h)) (pa_cons (pv 5) (pa_cons (pe_tup pa_nil) pa_nil)))) (blkOk_by (by kernel_rfl)) (fun _ _ _ _ _ => (pg_name (i := 30) sc_law.nd rfl (by first | exact Or.inl rfl | exact Or.inr rfl))) (fun _ _ _ _ _ => pts_nil) (fun _ _ _ _ _ => (pe_tup (pa_cons (pe_un un_neg (pe_callB (call_len_seqK (K := K) rfl) rfl (f_len T) (by decide +kernel) (pa_cons (pv 30) pa_nil))) (pa_cons (pv 30) pa_nil))))) pa_nil))) (pss_cons (ps_if (pt_cmpR (op_neDK (K := K) rfl hr.units) (pe_call (ok_longest_nest (G := G) T TG) (hr.mono (show 12 ≤ 19 by decide)) rfl (g_longest_nest T) (D_longest_nest T).kp (b_longest_nest T) .nil (passes_call (takes_of rfl rfl rfl rfl) (fun _ _ _ _ h => h)) (pa_cons (pe_lc rfl sc_law.nd (own := [("name", 8)]) (pi_listK (K := K) rfl (pe_revLK (K := K) rfl (pe_callB (call_sortedD rfl) rfl (f_sorted T) (by decide +kernel) (pa_cons (pv 6) pa_nil)))) (blkOk_by (by kernel_rfl)) (fun _ _ _ _ _ => (pg_name (i := 8) sc_law.nd rfl (by first | exact Or.inl rfl | exact Or.inr rfl))) (fun _ _ _ _ _ => pts_nil) (fun _ _ _ _ _ => (pe_dget hr.units1 (pv 6) (pv 8) (fun _ _ => rfl)))) pa_nil)) (pe_ix (ix_tupK (K := K) rfl) (pe_ix (ix_listK (K := K) rfl) (pv 9) pe_int (fun _ _ => rfl)) pe_int (fun _ _ => rfl)) (nomark _)) (pss_one (ps_ret pe_bl)) pss_nil) (pss_cons (ps_asg (pe_tup (pa_cons (pe_lst (pa_cons pe_str (pa_cons pe_str (pa_cons pe_str pa_nil)))) (pa_cons (pe_frz (pe_disp (pps_cons pe_str (pe_op op_add pe_int (pe_call (ok_law_roll (G := G) T) (hr.mono (show 1 ≤ 19 by decide)) rfl (g_law_roll T) (D_law_roll T).kp (b_law_roll T) .nil (passes_call (takes_of rfl rfl rfl rfl) (fun _ _ _ _ h => h)) (pa_cons (pv 2) (pa_cons pe_int pa_nil)))) (pps_cons pe_str (pe_op op_add pe_int (pe_call (ok_law_roll (G := G) T) (hr.mono (show 1 ≤ 19 by decide)) rfl (g_law_roll T) (D_law_roll T).kp (b_law_roll T) .nil (passes_call (takes_of rfl rfl rfl rfl) (fun _ _ _ _ h => h)) (pa_cons (pv 2) (pa_cons pe_int pa_nil)))) pps_nil)) rfl rfl (by simp) (by decide))) pa_nil))) (pg_tupK (K := K) (n := 2) rfl rfl (pgs_cons (pg_name (i := 10) sc_law.nd rfl (by first | exact Or.inl rfl | exact Or.inr rfl)) (pgs_cons (pg_name (i := 11) sc_law.nd rfl (by first | exact Or.inl rfl | exact Or.inr rfl)) pgs_nil)))) (pss_cons (ps_set (i := 12) sc_law.nd rfl (by first | exact Or.inl rfl | exact Or.inr rfl) (pe_lc rfl sc_law.nd (own := [("k", 7)]) (pi_range1 rfl (f_range T) (pa_cons (pe_call (ok_law_roll (G := G) T) (hr.mono (show 1 ≤ 19 by decide)) rfl (g_law_roll T) (D_law_roll T).kp (b_law_roll T) .nil (passes_call (takes_of rfl rfl rfl rfl) (fun _ _ _ _ h => h)) (pa_cons (pv 2) (pa_cons pe_int pa_nil))) pa_nil)) (blkOk_by (by kernel_rfl)) (fun _ _ _ _ _ => (pg_name (i := 7) sc_law.nd rfl (by first | exact Or.inl rfl | exact Or.inr rfl))) (fun _ _ _ _ _ => pts_nil) (fun _ _ _ _ _ => (pe_op op_add_str (pe_ix (ix_listK (K := K) rfl) (pv 10) (pe_call (ok_law_roll (G := G) T) (hr.mono (show 1 ≤ 19 by decide)) rfl (g_law_roll T) (D_law_roll T).kp (b_law_roll T) .nil passL (pa_cons (pv 2) (pa_cons pe_int pa_nil))) (fun _ _ => rfl)) (pe_callTy call_str_int rfl (f_str T) (by decide +kernel) (pa_cons (pv 7) pa_nil)))))) (pss_cons (ps_set (i := 13) sc_law.nd rfl (by first | exact Or.inl rfl | exact Or.inr rfl) (pe_frz (pe_callTy (call_dictPK (K := K) rfl rfl) rfl (f_dict T) (by decide +kernel) (pa_cons (pe_lc rfl sc_law.nd (own := [("kind", 31)]) (pi_keys (pv 11)) (blkOk_by (by kernel_rfl)) (fun _ _ _ _ _ => (pg_name (i := 31) sc_law.nd rfl (by first | exact Or.inl rfl | exact Or.inr rfl))) (fun _ _ _ _ _ => pts_nil) (fun _ _ _ _ _ => (pe_tup (pa_cons (pv 31) (pa_cons (pe_callB (call_len_seqK (K := K) rfl) rfl (f_len T) (by decide +kernel) (pa_cons (pe_lc rfl sc_law.nd (own := [("name", 8)]) (pi_listK (K := K) rfl (pv 12)) (blkOk_by (by kernel_rfl)) (fun _ _ _ _ _ => (pg_name (i := 8) sc_law.nd rfl (by first | exact Or.inl rfl | exact Or.inr rfl))) (fun _ _ _ _ _ => (pts_one (pt_cmpR op_eq (pe_slice sl_str (pv 8) po_none (po_some (pe_callB call_len_str rfl (f_len T) (by decide +kernel) (pa_cons (pv 31) pa_nil)))) (pv 31) (nomark _)))) (fun _ _ _ _ _ => (pv 8))) pa_nil)) pa_nil))))) pa_nil)))) (pss_cons (ps_set (i := 14) sc_law.nd rfl (by first | exact Or.inl rfl | exact Or.inr rfl) (pe_callB (cr_minK (K := K) rfl rfl) rfl (f_min T) (by decide +kernel) (pa_cons (pe_lc rfl sc_law.nd (own := [("kind", 31)]) (pi_keys (pv 11)) (blkOk_by (by kernel_rfl)) (fun _ _ _ _ _ => (pg_name (i := 31) sc_law.nd rfl (by first | exact Or.inl rfl | exact Or.inr rfl))) (fun _ _ _ _ _ => pts_nil) (fun _ _ _ _ _ => (pe_op op_fdiv (pe_dget hr.units1 (pv 13) (pv 31) (fun _ _ => rfl)) (pe_dget hr.units1 (pv 11) (pv 31) (fun _ _ => rfl))))) pa_nil))) (pss_one (ps_if (pt_cmpR (op_neDK (K := K) rfl hr.units) (pe_call (ok_sets_of (G := G) T TG) (hr.mono (show 10 ≤ 19 by decide)) rfl (g_sets_of T) (D_sets_of T).kp (b_sets_of T) .nil (passes_call (takes_of rfl rfl rfl rfl) (fun _ _ _ _ h => h)) (pa_cons (pv 12) (pa_cons (pv 11) pa_nil))) (pe_tup (pa_cons (pv 14) (pa_cons (pe_callTy (call_tuple_ofK (K := K) rfl) rfl (f_tuple T) (by decide +kernel) (pa_cons (pe_lc rfl sc_law.nd (own := [("kind", 31)]) (pi_listK (K := K) rfl (pe_callB (call_sortedD rfl) rfl (f_sorted T) (by decide +kernel) (pa_cons (pv 11) pa_nil))) (blkOk_by (by kernel_rfl)) (fun _ _ _ _ _ => (pg_name (i := 31) sc_law.nd rfl (by first | exact Or.inl rfl | exact Or.inr rfl))) (fun _ _ _ _ _ => pts_nil) (fun _ _ _ _ _ => (pe_tup (pa_cons (pv 31) (pa_cons (pe_op op_sub (pe_dget hr.units1 (pv 13) (pv 31) (fun _ _ => rfl)) (pe_op op_mul (pv 14) (pe_dget hr.units1 (pv 11) (pv 31) (fun _ _ => rfl)))) pa_nil))))) pa_nil)) pa_nil))) (nomark _)) (pss_one (ps_ret pe_bl)) pss_nil)))))))))))) (pss_cons (ps_set (i := 3) sc_law.nd rfl (by first | exact Or.inl rfl | exact Or.inr rfl) (pe_make (k_Pot T) (ok_Pot_init (G := G) T TG) (hr.mono (show 10 + 1 ≤ 19 by decide)) rfl (g_Pot T) (b_Pot_init T) .nil (passes_call (takes_of rfl rfl rfl rfl) (fun _ _ _ _ h => h)) (pa_cons pe_str (pa_cons (pe_lst (pa_cons (pe_tup (pa_cons pe_int (pa_cons pe_int pa_nil))) pa_nil)) (pa_cons pe_int (pa_cons (pv 1) pa_nil)))))) (pss_cons (ps_set (i := 4) sc_law.nd rfl (by first | exact Or.inl rfl | exact Or.inr rfl) (pe_lst (pa_cons (LM.pe_lamV TBL rfl ok3.ls rfl) (pa_cons (LM.pe_lamV TBL rfl ok4.ls rfl) (pa_cons (LM.pe_lamV TBL rfl ok5.ls rfl) (pa_cons (LM.pe_lamV TBL rfl ok6.ls rfl) (pa_cons (LM.pe_lamV TBL rfl ok7.ls rfl) (pa_cons (LM.pe_lamV TBL rfl ok8.ls rfl) (pa_cons (LM.pe_lamV TBL rfl ok9.ls rfl) (pa_cons (LM.pe_lamV TBL rfl ok10.ls rfl) (pa_cons (LM.pe_lamV TBL rfl ok11.ls rfl) (pa_cons (LM.pe_lamV TBL rfl ok12.ls rfl) (pa_cons (LM.pe_lamV TBL rfl ok13.ls rfl) pa_nil))))))))))))) (pss_one (ps_ret (pe_and (pe_cmpR (op_eqEK (K := K) rfl hr.units0) (LM.pe_lcK rfl sc_law.nd (own := [("f", 32)]) (pi_listK (K := K) rfl (pv 4)) (blkOk_by (by kernel_rfl)) (fun _ _ _ _ _ => (pg_name (i := 32) sc_law.nd rfl (by first | exact Or.inl rfl | exact Or.inr rfl))) (fun _ _ _ _ _ _ B => (pts_one (pt_cmpR op_ne (LM.pe_told (X := XL P w K mg base A outer s H E) ⟨rfl, rfl, rfl, rfl, rfl, rfl, rfl⟩ TO hrT hLs (fun _ _ _ _ I => B.cells I) rfl (pv 32)) pe_str (nomark _)))) (fun _ _ _ _ _ _ B => pe_int)) (pe_lst pa_nil) (nomark _)) (pe_and (pe_cmpR op_eq (pe_globI rfl (i_MOST_RINGS T)) pe_int (nomark _)) (pe_and (pe_cmpR (op_eqDK (K := K) rfl hr.units) (pe_tup (pa_cons (pe_meth0 (pv 3) (c_Pot T) (m_Pot_height T) (ok_Pot_height (G := G) T TG) (hr.mono (show 10 ≤ 19 by decide)) (b_Pot_height T) .nil (passes_call (takes_of rfl rfl rfl rfl) (fun _ _ _ _ h => h))) (pa_cons (pe_meth0 (pv 3) (c_Pot T) (m_Pot_width T) (ok_Pot_width (G := G) T TG) (hr.mono (show 10 ≤ 19 by decide)) (b_Pot_width T) .nil (passes_call (takes_of rfl rfl rfl rfl) (fun _ _ _ _ h => h))) (pa_cons (pe_meth0 (pv 3) (c_Pot T) (m_Pot_outside T) (ok_Pot_outside (G := G) T TG) (hr.mono (show 10 ≤ 19 by decide)) (b_Pot_outside T) .nil (passes_call (takes_of rfl rfl rfl rfl) (fun _ _ _ _ h => h))) (pa_cons (pe_meth0 (pv 3) (c_Pot T) (m_Pot_holds T) (ok_Pot_holds (G := G) T) (hr.mono (show 1 ≤ 19 by decide)) (b_Pot_holds T) .nil (passes_call (takes_of rfl rfl rfl rfl) (fun _ _ _ _ h => h))) pa_nil))))) (pe_tup (pa_cons pe_int (pa_cons pe_int (pa_cons pe_int (pa_cons pe_int pa_nil))))) (nomark _)) (pe_and (pe_meth (pv 3) (c_Pot T) (m_Pot_has_room_for T) (ok_Pot_has_room_for (G := G) T TG) (hr.mono (show 11 ≤ 19 by decide)) (b_Pot_has_room_for T) .nil (passes_call (takes_of rfl rfl rfl rfl) (fun _ _ _ _ h => h)) (pa_cons (pe_make (k_Pot T) (ok_Pot_init (G := G) T TG) (hr.mono (show 10 + 1 ≤ 19 by decide)) rfl (g_Pot T) (b_Pot_init T) .nil (passes_call (takes_of rfl rfl rfl rfl) (fun _ _ _ _ h => h)) (pa_cons pe_str (pa_cons (pe_lst (pa_cons (pe_tup (pa_cons pe_int (pa_cons pe_int pa_nil))) pa_nil)) (pa_cons pe_int (pa_cons (pv 1) pa_nil))))) pa_nil)) (pe_and (pe_not (pe_meth (pv 3) (c_Pot T) (m_Pot_has_room_for T) (ok_Pot_has_room_for (G := G) T TG) (hr.mono (show 11 ≤ 19 by decide)) (b_Pot_has_room_for T) .nil (passes_call (takes_of rfl rfl rfl rfl) (fun _ _ _ _ h => h)) (pa_cons (pe_make (k_Pot T) (ok_Pot_init (G := G) T TG) (hr.mono (show 10 + 1 ≤ 19 by decide)) rfl (g_Pot T) (b_Pot_init T) .nil (passes_call (takes_of rfl rfl rfl rfl) (fun _ _ _ _ h => h)) (pa_cons pe_str (pa_cons (pe_lst (pa_cons (pe_tup (pa_cons pe_int (pa_cons pe_int pa_nil))) pa_nil)) (pa_cons pe_int (pa_cons (pv 1) pa_nil))))) pa_nil))) (pe_and (pe_cmpR (op_eqDK (K := K) rfl hr.units) (pe_call (ok_longest_nest (G := G) T TG) (hr.mono (show 12 ≤ 19 by decide)) rfl (g_longest_nest T) (D_longest_nest T).kp (b_longest_nest T) .nil (passes_call (takes_of rfl rfl rfl rfl) (fun _ _ _ _ h => h)) (pa_cons (pe_lst pa_nil) pa_nil)) (pe_tup pa_nil) (nomark _)) (pe_one (pe_cmpR op_eq (pe_fldK (K := K) rfl (pe_fldK (K := K) rfl (pv 3) rfl) rfl) pe_str (nomark _))))))))))))))), ?_⟩
  obtain ⟨a, ns, rfl, hs, ht, hq⟩ := hsp
  refine law_in (q := (XL P w K mg base A outer s H E).env.qual ++ "<lambda>") (tabs_nd T) hs ht fun F hFG hFO hF0 => ?_
  rw [← hG] at hFG
  subst hFG
  obtain ⟨c, hc⟩ := rounds_one ns
  refine s_seq (s_set (R := rClay K) (a := redC) (e_makeB (A := A_init K) ("red", 60, 40, 100) (a_cons e_str (a_cons e_int (a_cons e_int (a_cons e_int a_nil)))) trivial rfl) (plain1 rfl) ?_)
  show KT F gT (.own (oTabR (PL K) ((XL P w K mg base A outer s H E).env.qual ++ "<lambda>") (rSeq K rInt) ns) :: .val (rClay K) redC :: List.replicate (30 + 1) .no) _
  (refine s_le (Le.refl _) ?_; try dsimp only [List.set, ctx0, List.map, List.replicate, List.nil_append, List.cons_append, putC, List.zip, List.zipWith])
  show KT F gT (.own (oTabR (PL K) ((XL P w K mg base A outer s H E).env.qual ++ "<lambda>") (rSeq K rInt) ns) :: .val (rClay K) redC :: List.replicate (30 + 1) .no) _
  have hdn : rDice c ≠ [] := by unfold rDice; split <;> exact List.cons_ne_nil _ _
  refine s_seq (s_one1 (n := 30) (P := PL K) (x := rDice c) sep_clay hdn hFO hF0 (e_is (e_callB (A := A_rounds K) ns (a_cons (e_varTab rfl) (a_cons e_int a_nil)) trivial rfl) hc) fun v gA N hN => ?_)
  obtain ⟨d0, hd0⟩ := rDice_dl c
  rw [hd0]
  generalize hO : Sl.own (oTab (PL K) ((XL P w K mg base A outer s H E).env.qual ++ "<lambda>") v) = o
  have hT : (some o : Option Sl) = some (.own (oTab (PL K) ((XL P w K mg base A outer s H E).env.qual ++ "<lambda>") v)) := by rw [← hO]
  have hn0 : Ls[0]? = some (lamD (eltAt (valOf (stAt (forBody (stAt (forBody (stAt d_law.body 1)) 1)) 3)) 0) t0) := by rw [hLd]; rfl
  have hn1 : Ls[1]? = some (lamD (eltAt (eltAt (valOf (stAt (forBody (stAt (forBody (stAt d_law.body 1)) 2)) 6)) 0) 0) t1) := by rw [hLd]; rfl
  have hn2 : Ls[2]? = some (lamD (eltAt (valOf (stAt (forBody (stAt (forBody (stAt d_law.body 1)) 2)) 11)) 0) t2) := by rw [hLd]; rfl
  have hn3 : Ls[3]? = some (lamD (eltAt (valOf (stAt d_law.body 3)) 0) t3) := by rw [hLd]; rfl
  have hn4 : Ls[4]? = some (lamD (eltAt (valOf (stAt d_law.body 3)) 1) t4) := by rw [hLd]; rfl
  have hn5 : Ls[5]? = some (lamD (eltAt (valOf (stAt d_law.body 3)) 2) t5) := by rw [hLd]; rfl
  have hn6 : Ls[6]? = some (lamD (eltAt (valOf (stAt d_law.body 3)) 3) t6) := by rw [hLd]; rfl
  have hn7 : Ls[7]? = some (lamD (eltAt (valOf (stAt d_law.body 3)) 4) t7) := by rw [hLd]; rfl
  have hn8 : Ls[8]? = some (lamD (eltAt (valOf (stAt d_law.body 3)) 5) t8) := by rw [hLd]; rfl
  have hn9 : Ls[9]? = some (lamD (eltAt (valOf (stAt d_law.body 3)) 6) t9) := by rw [hLd]; rfl
  have hn10 : Ls[10]? = some (lamD (eltAt (valOf (stAt d_law.body 3)) 7) t10) := by rw [hLd]; rfl
  have hn11 : Ls[11]? = some (lamD (eltAt (valOf (stAt d_law.body 3)) 8) t11) := by rw [hLd]; rfl
  have hn12 : Ls[12]? = some (lamD (eltAt (valOf (stAt d_law.body 3)) 9) t12) := by rw [hLd]; rfl
  have hn13 : Ls[13]? = some (lamD (eltAt (valOf (stAt d_law.body 3)) 10) t13) := by rw [hLd]; rfl
  (refine s_le (Le.refl _) ?_; try dsimp only [List.set, ctx0, List.map, List.replicate, List.nil_append, List.cons_append, putC, List.zip, List.zipWith])
  show KT F gA (o :: .val (rClay K) redC :: .own (oLst rInt (dl (d0))) :: .no :: .no :: .no :: .no :: .no :: .no :: .no :: .no :: .no :: .no :: .no :: .no :: .no :: .no :: .no :: .no :: .no :: .no :: .no :: .no :: .no :: .no :: .no :: .no :: .no :: .no :: .no :: .no :: .no :: .no :: []) _
  refine s_seq (s_asg2N (Γr := [.own (oDct rOw []), .own (oDct (rPot K) [])]) (an_fr en_dnew (an_fr en_dnew an_nil)) rfl (oks rfl) ?_)
  (refine s_le (Le.refl _) ?_; try dsimp only [List.set, ctx0, List.map, List.replicate, List.nil_append, List.cons_append, putC, List.zip, List.zipWith])
  show KT F gA (o :: .val (rClay K) redC :: .own (oLst rInt (dl (d0))) :: .no :: .no :: .own (oDct rOw []) :: .own (oDct (rPot K) []) :: .no :: .no :: .no :: .no :: .no :: .no :: .no :: .no :: .no :: .no :: .no :: .no :: .no :: .no :: .no :: .no :: .no :: .no :: .no :: .no :: .no :: .no :: .no :: .no :: .no :: .no :: []) _
  have hr7 := rollV_in (d := d0) (m := 7) (by decide)
  refine s_seq (s_forN (Sx := Dice × OTab) (Γs := fun st => (o :: .val (rClay K) redC :: .own (oLst rInt (dl (st.1))) :: .no :: .no :: .own (oDct rOw st.2) :: .own (oDct (rPot K) (st.2.map mkP)) :: .no :: .no :: .no :: .no :: .no :: .no :: .no :: .no :: .no :: .no :: .no :: .no :: .no :: .no :: .no :: .no :: .no :: .no :: .no :: .no :: .no :: .no :: .no :: .no :: .no :: .no :: [])) kStep (fun i st => kInv i st.2) (s0 := (rollD d0 7, [])) (xs := upFrom 0 (rollV d0 7).toNat) kInv_nil (fun i st k hi hk => kInv_next hi hk (by omega)) (src_rng1 (a_cons (e_roll (i := 2) (d := d0) (m := 7) (Γ' := (o :: .val (rClay K) redC :: .own (oLst rInt (dl (rollD d0 7))) :: .no :: .no :: .own (oDct rOw []) :: .own (oDct (rPot K) []) :: .no :: .no :: .no :: .no :: .no :: .no :: .no :: .no :: .no :: .no :: .no :: .no :: .no :: .no :: .no :: .no :: .no :: .no :: .no :: .no :: .no :: .no :: .no :: .no :: .no :: .no :: [])) (by decide) (a_cons e_int a_nil) rfl rfl rfl) a_nil) (by omega) (by omega)) (fun i st k hi hk => ⟨_, _, (tg_name (plain1 rfl)), fun g' N' hN' hB => ?_⟩) (fun hst => ?_))
  · obtain ⟨hki, hi6⟩ := upFrom_get hk
    have hk0 : 0 ≤ k := by omega
    have hk100 : k < 100 := by omega
    obtain ⟨d, own⟩ := st
    have hi : kInv i own := hi
    have hol : own.length ≤ 6 := hi.1.1.1
    (refine s_le (Le.refl _) ?_; try dsimp only [List.set, ctx0, List.map, List.replicate, List.nil_append, List.cons_append, putC, List.zip, List.zipWith])
    show KT F g' (o :: .val (rClay K) redC :: .own (oLst rInt (dl (d))) :: .no :: .no :: .own (oDct rOw own) :: .own (oDct (rPot K) (own.map mkP)) :: .val rInt k :: .no :: .no :: .no :: .no :: .no :: .no :: .no :: .no :: .no :: .no :: .no :: .no :: .no :: .no :: .no :: .no :: .no :: .no :: .no :: .no :: .no :: .no :: .no :: .no :: .no :: []) _
    refine s_seq (s_set (Γ1 := (o :: .val (rClay K) redC :: .own (oLst rInt (dl (rollD d 2))) :: .no :: .no :: .own (oDct rOw own) :: .own (oDct (rPot K) (own.map mkP)) :: .val rInt k :: .no :: .no :: .no :: .no :: .no :: .no :: .no :: .no :: .no :: .no :: .no :: .no :: .no :: .no :: .no :: .no :: .no :: .no :: .no :: .no :: .no :: .no :: .no :: .no :: .no :: [])) (R := rInt) (a := wallOf d) (e_add e_int (e_roll (i := 2) (d := d) (m := 2) (Γ' := (o :: .val (rClay K) redC :: .own (oLst rInt (dl (rollD d 2))) :: .no :: .no :: .own (oDct rOw own) :: .own (oDct (rPot K) (own.map mkP)) :: .val rInt k :: .no :: .no :: .no :: .no :: .no :: .no :: .no :: .no :: .no :: .no :: .no :: .no :: .no :: .no :: .no :: .no :: .no :: .no :: .no :: .no :: .no :: .no :: .no :: .no :: .no :: [])) (by decide) (a_cons e_int a_nil) rfl rfl rfl)) (plain1 rfl) ?_)
    (refine s_le (Le.refl _) ?_; try dsimp only [List.set, ctx0, List.map, List.replicate, List.nil_append, List.cons_append, putC, List.zip, List.zipWith])
    show KT F g' (o :: .val (rClay K) redC :: .own (oLst rInt (dl (rollD d 2))) :: .no :: .no :: .own (oDct rOw own) :: .own (oDct (rPot K) (own.map mkP)) :: .val rInt k :: .no :: .no :: .no :: .no :: .no :: .no :: .no :: .val rInt (wallOf d) :: .no :: .no :: .no :: .no :: .no :: .no :: .no :: .no :: .no :: .no :: .no :: .no :: .no :: .no :: .no :: .no :: .no :: []) _
    have hr4 := rollV_in (d := rollD d 2) (m := 4) (by decide)
    refine s_seq (s_set (R := rList rRg) (a := ringsOf d) (Γ1 := (o :: .val (rClay K) redC :: .own (oLst rInt (dl (diceOf d))) :: .no :: .no :: .own (oDct rOw own) :: .own (oDct (rPot K) (own.map mkP)) :: .val rInt k :: .no :: .no :: .no :: .no :: .no :: .no :: .no :: .val rInt (wallOf d) :: .no :: .no :: .no :: .no :: .no :: .no :: .no :: .no :: .no :: .no :: .no :: .no :: .no :: .no :: .no :: .no :: .no :: [])) (e_lcR (Dt := Dice) (Γs := fun d' => (o :: .val (rClay K) redC :: .own (oLst rInt (dl (d'))) :: .no :: .no :: .own (oDct rOw own) :: .own (oDct (rPot K) (own.map mkP)) :: .val rInt k :: .no :: .no :: .no :: .no :: .no :: .no :: .no :: .val rInt (wallOf d) :: .no :: .no :: .no :: .no :: .no :: .no :: .no :: .no :: .no :: .no :: .no :: .no :: .no :: .no :: .no :: .no :: .no :: [])) (d0 := rollD (rollD d 2) 4) (st := rgSt) (v := rgV) (Γx := fun d' x => (o :: .val (rClay K) redC :: .own (oLst rInt (dl (d'))) :: .no :: .no :: .own (oDct rOw own) :: .own (oDct (rPot K) (own.map mkP)) :: .val rInt k :: .no :: .no :: .no :: .no :: .no :: .no :: .no :: .val rInt (wallOf d) :: .no :: .no :: .no :: .no :: .no :: .no :: .no :: .no :: .no :: .no :: .no :: .val rInt x :: .no :: .no :: .no :: .no :: .no :: [])) (Γy := fun d' x => (o :: .val (rClay K) redC :: .own (oLst rInt (dl (rgSt d' x))) :: .no :: .no :: .own (oDct rOw own) :: .own (oDct (rPot K) (own.map mkP)) :: .val rInt k :: .no :: .no :: .no :: .no :: .no :: .no :: .no :: .val rInt (wallOf d) :: .no :: .no :: .no :: .no :: .no :: .no :: .no :: .no :: .no :: .no :: .no :: .val rInt x :: .no :: .no :: .no :: .no :: .no :: [])) (fun _ => True)
      (src_rng1 (a_cons (e_add e_int (e_roll (i := 2) (d := rollD d 2) (m := 4) (Γ' := (o :: .val (rClay K) redC :: .own (oLst rInt (dl (rollD (rollD d 2) 4))) :: .no :: .no :: .own (oDct rOw own) :: .own (oDct (rPot K) (own.map mkP)) :: .val rInt k :: .no :: .no :: .no :: .no :: .no :: .no :: .no :: .val rInt (wallOf d) :: .no :: .no :: .no :: .no :: .no :: .no :: .no :: .no :: .no :: .no :: .no :: .no :: .no :: .no :: .no :: .no :: .no :: [])) (by decide) (a_cons e_int a_nil) rfl rfl rfl)) a_nil) (by omega) (by omega)) (by rw [upFrom_length]; omega) trivial (fun _ _ _ _ => trivial) (fun _ => noAll_of rfl) (fun d x _ _ => tg_name (plain1 rfl)) (by decide) (fun d x => plAll_of rfl)
      (fun d' x _ _ => e_t2 (a_cons (e_add e_int (e_roll (i := 2) (d := d') (m := 14) (Γ' := (o :: .val (rClay K) redC :: .own (oLst rInt (dl (rollD d' 14))) :: .no :: .no :: .own (oDct rOw own) :: .own (oDct (rPot K) (own.map mkP)) :: .val rInt k :: .no :: .no :: .no :: .no :: .no :: .no :: .no :: .val rInt (wallOf d) :: .no :: .no :: .no :: .no :: .no :: .no :: .no :: .no :: .no :: .no :: .no :: .val rInt x :: .no :: .no :: .no :: .no :: .no :: [])) (by decide) (a_cons e_int a_nil) rfl rfl rfl)) (a_cons (e_add e_int (e_roll (i := 2) (d := rollD d' 14) (m := 5) (Γ' := (o :: .val (rClay K) redC :: .own (oLst rInt (dl (rgSt d' x))) :: .no :: .no :: .own (oDct rOw own) :: .own (oDct (rPot K) (own.map mkP)) :: .val rInt k :: .no :: .no :: .no :: .no :: .no :: .no :: .no :: .val rInt (wallOf d) :: .no :: .no :: .no :: .no :: .no :: .no :: .no :: .no :: .no :: .no :: .no :: .val rInt x :: .no :: .no :: .no :: .no :: .no :: [])) (by decide) (a_cons e_int a_nil) rfl rfl rfl)) a_nil))) (fun d x => ⟨plAll_of rfl, rfl⟩)) (plain1 rfl) ?_)
    obtain ⟨r1, r2, r3⟩ := rings_in d
    obtain ⟨w1, w2⟩ := wall_in d
    have est : kStep (d, own) k = (diceOf d, if lGood (ringsOf d) (wallOf d) = true then putL own (pn k) (ringsOf d, wallOf d) else own) := rfl
    rw [est] at hN'
    clear est
    generalize diceOf d = d1 at *
    generalize ringsOf d = rings at *
    generalize wallOf d = wall at *
    have hrl : rings.length ≤ 1000 := by omega
    (refine s_le (Le.refl _) ?_; try dsimp only [List.set, ctx0, List.map, List.replicate, List.nil_append, List.cons_append, putC, List.zip, List.zipWith])
    show KT F g' (o :: .val (rClay K) redC :: .own (oLst rInt (dl (d1))) :: .no :: .no :: .own (oDct rOw own) :: .own (oDct (rPot K) (own.map mkP)) :: .val rInt k :: .no :: .no :: .no :: .no :: .no :: .no :: .no :: .val rInt wall :: .val (rList rRg) rings :: .no :: .no :: .no :: .no :: .no :: .no :: .no :: .no :: .no :: .no :: .no :: .no :: .no :: .no :: .no :: .no :: []) _
    refine s_seq (s_set (R := rBool) (a := lGood rings wall) (e_is (e_and (e_eqE (e_lcT  (src_list (e_var rfl)) ?_ (noAll_of rfl) (fun x2 hx2 => (tg_t2 (tg_name (plain1 rfl)) (tg_name (plain1 rfl)))) (by decide) (fun x2 => ⟨plAll_of rfl, rfl⟩) (fun x2 hx2 => (t_of (e_le (e_var rfl) (e_var rfl)))) (fun x2 hx2 hx2t => e_int))) (fun _ => (e_le (e_var rfl) (e_21 (e_ixLd (d := (0, 0)) (e_var rfl) e_int ?_))))) ?_) (plain1 rfl) ?_)
    · omega
    · refine ⟨by decide, ?_⟩
      have := List.length_pos_iff.mpr r1
      show (0 : Int) < rings.length
      omega
    · rfl
    have hbad : badPt rings wall = !lGood rings wall := law_bad r1 (by omega) w1 fun x hx => by have := r3 x hx; omega
    (refine s_le (Le.refl _) ?_; try dsimp only [List.set, ctx0, List.map, List.replicate, List.nil_append, List.cons_append, putC, List.zip, List.zipWith])
    show KT F g' (o :: .val (rClay K) redC :: .own (oLst rInt (dl (d1))) :: .no :: .no :: .own (oDct rOw own) :: .own (oDct (rPot K) (own.map mkP)) :: .val rInt k :: .no :: .no :: .no :: .no :: .no :: .no :: .no :: .val rInt wall :: .val (rList rRg) rings :: .val rBool (lGood rings wall) :: .no :: .no :: .no :: .no :: .no :: .no :: .no :: .no :: .no :: .no :: .no :: .no :: .no :: .no :: .no :: []) _
    refine s_seq (s_set (R := rSum (rPot K) rStr) (a := if badPt rings wall = true then .inr "PotError" else .inl (pn k, rings, wall, redC)) (LM.e_toldK (i := 0) (v := v) (bad := badPt rings wall) rfl hn0 hT (fun h W => (ty0 _ k rings wall hk0 hk100 hrl rfl rfl rfl rfl).1 h W) (fun h W => (ty0 _ k rings wall hk0 hk100 hrl rfl rfl rfl rfl).2 h W) (x_PotError_PotError T)) (plain1 rfl) ?_)
    rw [hbad]
    cases hgd : lGood rings wall with
    | true =>
      rw [hgd] at hN'
      (refine s_le (Le.refl _) ?_; try dsimp only [List.set, ctx0, List.map, List.replicate, List.nil_append, List.cons_append, putC, List.zip, List.zipWith])
      show KT F g' (o :: .val (rClay K) redC :: .own (oLst rInt (dl (d1))) :: .no :: .no :: .own (oDct rOw own) :: .own (oDct (rPot K) (own.map mkP)) :: .val rInt k :: .no :: .no :: .no :: .no :: .no :: .no :: .no :: .val rInt wall :: .val (rList rRg) rings :: .val rBool true :: .val (rSum (rPot K) rStr) (.inl (pn k, rings, wall, redC)) :: .no :: .no :: .no :: .no :: .no :: .no :: .no :: .no :: .no :: .no :: .no :: .no :: .no :: .no :: []) _
      refine s_seq (s_if (c := false) (et_is (t_of (e_eqB (e_eqU ins_Pot (mro_Pot T) (eq_Pot T) (e_var rfl) e_str) (e_var rfl))) ?_) (fun hb => nomatch hb) (fun _ => s_next ?_))
      · rfl
      (refine s_le (Le.refl _) ?_; try dsimp only [List.set, ctx0, List.map, List.replicate, List.nil_append, List.cons_append, putC, List.zip, List.zipWith])
      refine s_if (c := true) (t_B (e_var rfl)) (fun _ => ?_) (fun hb => nomatch hb)
      refine s_asgH (a := ((rings, wall), (pn k, rings, wall, redC))) (e_t2 (a_cons (e_t2 (a_cons (e_var rfl) (a_cons (e_var rfl) a_nil))) (a_cons (e_inl (e_var rfl) rfl) a_nil))) (tgh_t2 (tgh_dput rfl (e_cat e_str (e_strI (a_cons (e_var rfl) a_nil) ?_) ?_) ?_) (tgh_dput rfl (e_cat e_str (e_strI (a_cons (e_var rfl) a_nil) ?_) ?_) ?_)) ?_
      all_goals try (first | exact small_log hk0 hk100 | exact small_cat hk0 hk100)
      · omega
      · rw [List.length_map]; omega
      (refine s_le (Le.refl _) ?_; try dsimp only [List.set, ctx0, List.map, List.replicate, List.nil_append, List.cons_append, putC, List.zip, List.zipWith])
      refine s_le (Γ' := (o :: .val (rClay K) redC :: .own (oLst rInt (dl (d1))) :: .no :: .no :: .own (oDct rOw (putL own (pn k) (rings, wall))) :: .own (oDct (rPot K) (putL (own.map mkP) (pn k) (pn k, rings, wall, redC))) :: .no :: .no :: .no :: .no :: .no :: .no :: .no :: .no :: .no :: .no :: .no :: .no :: .no :: .no :: .no :: .no :: .no :: .no :: .no :: .no :: .no :: .no :: .no :: .no :: .no :: .no :: [])) (by repeat' (first | exact Le.nil | apply Le.same | refine Le.no trivial ?_)) ?_
      have e := putL_mk (own := own) (k := pn k) (o := (rings, wall))
      have e : putL (own.map mkP) (pn k) (pn k, rings, wall, redC) = (putL own (pn k) (rings, wall)).map mkP := e
      rw [e]
      exact hN'
    | false =>
      rw [hgd] at hN'
      (refine s_le (Le.refl _) ?_; try dsimp only [List.set, ctx0, List.map, List.replicate, List.nil_append, List.cons_append, putC, List.zip, List.zipWith])
      show KT F g' (o :: .val (rClay K) redC :: .own (oLst rInt (dl (d1))) :: .no :: .no :: .own (oDct rOw own) :: .own (oDct (rPot K) (own.map mkP)) :: .val rInt k :: .no :: .no :: .no :: .no :: .no :: .no :: .no :: .val rInt wall :: .val (rList rRg) rings :: .val rBool false :: .val (rSum (rPot K) rStr) (.inr "PotError") :: .no :: .no :: .no :: .no :: .no :: .no :: .no :: .no :: .no :: .no :: .no :: .no :: .no :: .no :: []) _
      refine s_seq (s_if (c := false) (et_is (t_of (e_eqB (e_eqU ins_Pot (mro_Pot T) (eq_Pot T) (e_var rfl) e_str) (e_var rfl))) ?_) (fun hb => nomatch hb) (fun _ => s_next ?_))
      · show decide (isTxt ("PotError" : Str) (.inr "PotError" : Sum PotV Str) = false) = false
        simp [isTxt]
      (refine s_le (Le.refl _) ?_; try dsimp only [List.set, ctx0, List.map, List.replicate, List.nil_append, List.cons_append, putC, List.zip, List.zipWith])
      refine s_if (c := false) (t_B (e_var rfl)) (fun hb => nomatch hb) (fun _ => s_next ?_)
      refine s_le (Γ' := (o :: .val (rClay K) redC :: .own (oLst rInt (dl (d1))) :: .no :: .no :: .own (oDct rOw own) :: .own (oDct (rPot K) (own.map mkP)) :: .no :: .no :: .no :: .no :: .no :: .no :: .no :: .no :: .no :: .no :: .no :: .no :: .no :: .no :: .no :: .no :: .no :: .no :: .no :: .no :: .no :: .no :: .no :: .no :: .no :: .no :: [])) (by repeat' (first | exact Le.nil | apply Le.same | refine Le.no trivial ?_)) ?_
      exact hN'
  rw [upFrom_length] at hst
  obtain ⟨⟨d1, own⟩, hfo⟩ : ∃ st, st = (upFrom 0 (rollV d0 7).toNat).foldl kStep (rollD d0 7, []) := ⟨_, rfl⟩
  rw [← hfo] at hst ⊢
  clear hfo
  obtain ⟨ho2, _, _⟩ := (show kInv _ own from hst)
  clear hst
  have hol : own.length ≤ 6 := ho2.1.1
  refine s_seq (s_frzS (i := 5) hFO rfl (s_frzS (i := 6) hFO rfl ?_))
  (refine s_le (Le.refl _) ?_; try dsimp only [List.set, ctx0, List.map, List.replicate, List.nil_append, List.cons_append, putC, List.zip, List.zipWith])
  show KT F gA (o :: .val (rClay K) redC :: .own (oLst rInt (dl (d1))) :: .no :: .no :: .val (rDct rOw) own :: .val (rDct (rPot K)) (own.map mkP) :: .no :: .no :: .no :: .no :: .no :: .no :: .no :: .no :: .no :: .no :: .no :: .no :: .no :: .no :: .no :: .no :: .no :: .no :: .no :: .no :: .no :: .no :: .no :: .no :: .no :: .no :: []) _
  refine s_for (Sx := Dice) (Γs := fun d => (o :: .val (rClay K) redC :: .own (oLst rInt (dl (d))) :: .no :: .no :: .val (rDct rOw) own :: .val (rDct (rPot K)) (own.map mkP) :: .no :: .no :: .no :: .no :: .no :: .no :: .no :: .no :: .no :: .no :: .no :: .no :: .no :: .no :: .no :: .no :: .no :: .no :: .no :: .no :: .no :: .no :: .no :: .no :: .no :: .no :: [])) (fun _ _ => True) (s0 := d1) (src_keys (e_var rfl)) trivial (fun i nm d hn _ => ⟨_, _, (tg_name (plain1 rfl)), fun g' N' hN' hB => ?_⟩) (fun d2 _ => ?_)
  · have hk : nm ∈ keysO own := List.mem_of_getElem? hn
    obtain ⟨⟨rings, wall⟩, l1, l2, _⟩ := look_own (own := own) hk
    have l4 : lookK (own.map mkP) nm = some (nm, rings, wall, redC) := by rw [look_mk, l1]; rfl
    have hg : goodPt (nm, rings, wall, redC) := ho2.2 _ l2
    have hpc : preCol rings := (ho2.1.2.2 _ l2).1
    have hcb := col_bounds hg
    have hc3 := col_30 hg
    have hcne := col_ne hg
    have hw1 : 1 ≤ wall := hg.2.2.2.1
    have hrl : rings.length ≤ 30 := hg.2.1
    have hrb := hg.2.2.1
    have hcb : ∀ y ∈ lCol rings, wall < y ∧ y ≤ 1000 := hcb
    have hc3 : (lCol rings).length ≤ 30000 := hc3
    have hcne : lCol rings ≠ [] := hcne
    have hrb : ∀ x ∈ rings, 1 ≤ x.2 ∧ x.2 ≤ 1000 ∧ wall < x.1 ∧ x.1 ≤ 1000 := hrb
    (refine s_le (Le.refl _) ?_; try dsimp only [List.set, ctx0, List.map, List.replicate, List.nil_append, List.cons_append, putC, List.zip, List.zipWith])
    show KT F g' (o :: .val (rClay K) redC :: .own (oLst rInt (dl (d))) :: .no :: .no :: .val (rDct rOw) own :: .val (rDct (rPot K)) (own.map mkP) :: .no :: .val rStr nm :: .no :: .no :: .no :: .no :: .no :: .no :: .no :: .no :: .no :: .no :: .no :: .no :: .no :: .no :: .no :: .no :: .no :: .no :: .no :: .no :: .no :: .no :: .no :: .no :: []) _
    refine s_seq (s_asg (Γ1 := (o :: .val (rClay K) redC :: .own (oLst rInt (dl (d))) :: .no :: .no :: .val (rDct rOw) own :: .val (rDct (rPot K)) (own.map mkP) :: .no :: .val rStr nm :: .no :: .no :: .no :: .no :: .no :: .no :: .no :: .no :: .no :: .no :: .no :: .no :: .no :: .no :: .no :: .no :: .no :: .no :: .no :: .no :: .no :: .no :: .no :: .no :: [])) (R := rT2 (rList rRg) rInt) (a := (rings, wall)) (e_dget (e_var rfl) (e_var rfl) l1) (tg_t2 (tg_name (plain1 rfl)) (tg_name (plain1 rfl))) ?_)
    (refine s_le (Le.refl _) ?_; try dsimp only [List.set, ctx0, List.map, List.replicate, List.nil_append, List.cons_append, putC, List.zip, List.zipWith])
    show KT F g' (o :: .val (rClay K) redC :: .own (oLst rInt (dl (d))) :: .no :: .no :: .val (rDct rOw) own :: .val (rDct (rPot K)) (own.map mkP) :: .no :: .val rStr nm :: .no :: .no :: .no :: .no :: .no :: .no :: .val rInt wall :: .val (rList rRg) rings :: .no :: .no :: .no :: .no :: .no :: .no :: .no :: .no :: .no :: .no :: .no :: .no :: .no :: .no :: .no :: .no :: []) _
    refine s_seq (s_asg (Γ1 := (o :: .val (rClay K) redC :: .own (oLst rInt (dl (d))) :: .no :: .no :: .val (rDct rOw) own :: .val (rDct (rPot K)) (own.map mkP) :: .no :: .val rStr nm :: .no :: .no :: .no :: .no :: .no :: .no :: .val rInt wall :: .val (rList rRg) rings :: .no :: .no :: .no :: .no :: .no :: .no :: .no :: .no :: .no :: .no :: .no :: .no :: .no :: .no :: .no :: .no :: [])) (R := rT2 (rList rInt) (rPot K)) (a := (lCol rings, (nm, rings, wall, redC))) (e_t2 (a_cons (e_callB (A := A_col K) rings (a_cons (e_var rfl) a_nil) hpc rfl) (a_cons (e_dget (e_var rfl) (e_var rfl) l4) a_nil))) (tg_t2 (tg_name (plain1 rfl)) (tg_name (plain1 rfl))) ?_)
    (refine s_le (Le.refl _) ?_; try dsimp only [List.set, ctx0, List.map, List.replicate, List.nil_append, List.cons_append, putC, List.zip, List.zipWith])
    show KT F g' (o :: .val (rClay K) redC :: .own (oLst rInt (dl (d))) :: .no :: .no :: .val (rDct rOw) own :: .val (rDct (rPot K)) (own.map mkP) :: .no :: .val rStr nm :: .no :: .no :: .no :: .no :: .no :: .no :: .val rInt wall :: .val (rList rRg) rings :: .no :: .val (rPot K) (nm, rings, wall, redC) :: .val (rList rInt) (lCol rings) :: .no :: .no :: .no :: .no :: .no :: .no :: .no :: .no :: .no :: .no :: .no :: .no :: .no :: []) _
    refine s_seq (s_set (R := rInt) (a := mHolds (nm, rings, wall, redC)) (e_is (e_sumL (a_cons (e_lcT0  (src_list (e_slL (e_var rfl) (eo_part (e_var rfl)) eo_no)) ?_ (noAll_of rfl) (fun x3 hx3 => (tg_name (plain1 rfl))) (by decide) (fun x3 => ⟨plAll_of rfl, rfl⟩) (fun x3 hx3 => (e_mul (e_sub (e_var rfl) (e_var rfl)) (e_sub (e_var rfl) (e_var rfl)) ?_))) a_nil)) ?_) (plain1 rfl) ?_)
    · rw [show wall = ((wall.toNat : Nat) : Int) by omega, cut_drop, List.length_drop]
      omega
    · rw [show wall = ((wall.toNat : Nat) : Int) by omega, cut_drop] at hx3
      have := hcb x3 (List.mem_of_mem_drop hx3)
      unfold CMul; left; constructor <;> omega
    · rw [law_holds hg]
      show ((cut (lCol rings) (some wall) none).map fun x => (x - wall) * (x - wall)).sum = (((lCol rings).drop wall.toNat).map fun x => (x - wall) * (x - wall)).sum
      conv => lhs; rw [show (some wall : Option Int) = some ((wall.toNat : Nat) : Int) by rw [show ((wall.toNat : Nat) : Int) = wall by omega], cut_drop]
    (refine s_le (Le.refl _) ?_; try dsimp only [List.set, ctx0, List.map, List.replicate, List.nil_append, List.cons_append, putC, List.zip, List.zipWith])
    show KT F g' (o :: .val (rClay K) redC :: .own (oLst rInt (dl (d))) :: .no :: .no :: .val (rDct rOw) own :: .val (rDct (rPot K)) (own.map mkP) :: .no :: .val rStr nm :: .no :: .no :: .no :: .no :: .no :: .no :: .val rInt wall :: .val (rList rRg) rings :: .no :: .val (rPot K) (nm, rings, wall, redC) :: .val (rList rInt) (lCol rings) :: .val rInt (mHolds (nm, rings, wall, redC)) :: .no :: .no :: .no :: .no :: .no :: .no :: .no :: .no :: .no :: .no :: .no :: .no :: []) _
    refine s_seq (s_set (R := rInt) (a := mOut (nm, rings, wall, redC)) (e_is (e_sumL (a_cons (e_lcT0  (src_list (e_var rfl)) ?_ (noAll_of rfl) (fun x4 hx4 => (tg_name (plain1 rfl))) (by decide) (fun x4 => ⟨plAll_of rfl, rfl⟩) (fun x4 hx4 => (e_mul (e_var rfl) (e_var rfl) ?_))) a_nil)) ?_) (plain1 rfl) ?_)
    · omega
    · have := hcb x4 hx4
      unfold CMul; left; constructor <;> omega
    · exact (law_out hg).symm
    (refine s_le (Le.refl _) ?_; try dsimp only [List.set, ctx0, List.map, List.replicate, List.nil_append, List.cons_append, putC, List.zip, List.zipWith])
    show KT F g' (o :: .val (rClay K) redC :: .own (oLst rInt (dl (d))) :: .no :: .no :: .val (rDct rOw) own :: .val (rDct (rPot K)) (own.map mkP) :: .no :: .val rStr nm :: .no :: .no :: .no :: .no :: .no :: .no :: .val rInt wall :: .val (rList rRg) rings :: .no :: .val (rPot K) (nm, rings, wall, redC) :: .val (rList rInt) (lCol rings) :: .val rInt (mHolds (nm, rings, wall, redC)) :: .val rInt (mOut (nm, rings, wall, redC)) :: .no :: .no :: .no :: .no :: .no :: .no :: .no :: .no :: .no :: .no :: .no :: []) _
    refine s_seq (s_if (c := false) (et_is (t_of (e_neD (datTup datInt) (e_tup (xs := [_, _, _, _, _, _]) (a_cons (e_methB _ (o_Pot_height) (e_var rfl) a_nil rfl ?_ ?_) (a_cons (e_methB _ (o_Pot_width) (e_var rfl) a_nil rfl ?_ ?_) (a_cons (e_methB _ (o_Pot_outside) (e_var rfl) a_nil rfl ?_ ?_) (a_cons (e_methB _ (o_Pot_holds) (e_var rfl) a_nil rfl ?_ ?_) (a_cons (e_methB _ (o_Pot_clay_room) (e_var rfl) a_nil rfl ?_ ?_) (a_cons (e_methB _ (o_Pot_mouth) (e_var rfl) a_nil rfl ?_ ?_) a_nil)))))) (by simp)) (e_tup (xs := [_, _, _, _, _, _]) (a_cons (e_len (a_cons (e_var rfl) a_nil)) (a_cons (e_mul e_int (e_maxLd (a_cons (e_var rfl) a_nil) ?_) ?_) (a_cons (e_var rfl) (a_cons (e_var rfl) (a_cons (e_sub (e_var rfl) (e_var rfl)) (a_cons (e_sub (e_minLd (a_cons (e_var rfl) a_nil) ?_) (e_var rfl)) a_nil)))))) (by simp)) ?_ ?_)) ?_) (fun hb => nomatch hb) (fun _ => s_next ?_))
    all_goals try (first | exact hg | rfl | exact hcne | exact fun _ _ => trivial)
    · left; constructor <;> decide
    · show (!decide ([mHeight (nm, rings, wall, redC), mWidth (nm, rings, wall, redC), mOut (nm, rings, wall, redC), mHolds (nm, rings, wall, redC), mOut (nm, rings, wall, redC) - mHolds (nm, rings, wall, redC), mMouth (nm, rings, wall, redC)] = [((lCol rings).length : Int), 2 * maxL (lCol rings), mOut (nm, rings, wall, redC), mHolds (nm, rings, wall, redC), mOut (nm, rings, wall, redC) - mHolds (nm, rings, wall, redC), minL (lCol rings) - wall])) = false
      rw [law_height hg, law_width hg, law_mouth hg]
      simp
    (refine s_le (Le.refl _) ?_; try dsimp only [List.set, ctx0, List.map, List.replicate, List.nil_append, List.cons_append, putC, List.zip, List.zipWith])
    show KT F g' (o :: .val (rClay K) redC :: .own (oLst rInt (dl (d))) :: .no :: .no :: .val (rDct rOw) own :: .val (rDct (rPot K)) (own.map mkP) :: .no :: .val rStr nm :: .no :: .no :: .no :: .no :: .no :: .no :: .val rInt wall :: .val (rList rRg) rings :: .no :: .val (rPot K) (nm, rings, wall, redC) :: .val (rList rInt) (lCol rings) :: .val rInt (mHolds (nm, rings, wall, redC)) :: .val rInt (mOut (nm, rings, wall, redC)) :: .no :: .no :: .no :: .no :: .no :: .no :: .no :: .no :: .no :: .no :: .no :: []) _
    have hlr := rollV_in (d := d) (m := ((lCol rings).length : Int) + 2) (by omega)
    refine s_seq (s_set (Γ1 := (o :: .val (rClay K) redC :: .own (oLst rInt (dl (rollD d (((lCol rings).length : Int) + 2)))) :: .no :: .no :: .val (rDct rOw) own :: .val (rDct (rPot K)) (own.map mkP) :: .no :: .val rStr nm :: .no :: .no :: .no :: .no :: .no :: .no :: .val rInt wall :: .val (rList rRg) rings :: .no :: .val (rPot K) (nm, rings, wall, redC) :: .val (rList rInt) (lCol rings) :: .val rInt (mHolds (nm, rings, wall, redC)) :: .val rInt (mOut (nm, rings, wall, redC)) :: .no :: .no :: .no :: .no :: .no :: .no :: .no :: .no :: .no :: .no :: .no :: [])) (R := rInt) (a := rollV d (((lCol rings).length : Int) + 2)) (e_roll (i := 2) (d := d) (m := ((lCol rings).length : Int) + 2) (Γ' := (o :: .val (rClay K) redC :: .own (oLst rInt (dl (rollD d (((lCol rings).length : Int) + 2)))) :: .no :: .no :: .val (rDct rOw) own :: .val (rDct (rPot K)) (own.map mkP) :: .no :: .val rStr nm :: .no :: .no :: .no :: .no :: .no :: .no :: .val rInt wall :: .val (rList rRg) rings :: .no :: .val (rPot K) (nm, rings, wall, redC) :: .val (rList rInt) (lCol rings) :: .val rInt (mHolds (nm, rings, wall, redC)) :: .val rInt (mOut (nm, rings, wall, redC)) :: .no :: .no :: .no :: .no :: .no :: .no :: .no :: .no :: .no :: .no :: .no :: [])) ⟨by omega, by omega⟩ (a_cons (e_add (e_len (a_cons (e_var rfl) a_nil)) e_int) a_nil) rfl rfl rfl) (plain1 rfl) ?_)
    generalize rollV d (((lCol rings).length : Int) + 2) = low at *
    generalize rollD d (((lCol rings).length : Int) + 2) = d' at *
    (refine s_le (Le.refl _) ?_; try dsimp only [List.set, ctx0, List.map, List.replicate, List.nil_append, List.cons_append, putC, List.zip, List.zipWith])
    show KT F g' (o :: .val (rClay K) redC :: .own (oLst rInt (dl (d'))) :: .no :: .no :: .val (rDct rOw) own :: .val (rDct (rPot K)) (own.map mkP) :: .no :: .val rStr nm :: .no :: .no :: .no :: .no :: .no :: .no :: .val rInt wall :: .val (rList rRg) rings :: .no :: .val (rPot K) (nm, rings, wall, redC) :: .val (rList rInt) (lCol rings) :: .val rInt (mHolds (nm, rings, wall, redC)) :: .val rInt (mOut (nm, rings, wall, redC)) :: .val rInt low :: .no :: .no :: .no :: .no :: .no :: .no :: .no :: .no :: .no :: .no :: []) _
    have hnE := law_narE hg low hlr.1
    have hnE : (mNar (nm, rings, wall, redC) low).isEmpty = !decide (low < ((lCol rings).length : Int)) := hnE
    have hcut : cut (lCol rings) (some low) none = (lCol rings).drop low.toNat := by
      rw [show (some low : Option Int) = some ((low.toNat : Nat) : Int) by rw [show ((low.toNat : Nat) : Int) = low by omega], cut_drop]
    have hdne : low < ((lCol rings).length : Int) → (lCol rings).drop low.toNat ≠ [] := fun h z => by
      have := List.drop_eq_nil_iff.mp z
      omega
    refine s_seq (s_if (c := false) (t_of (e_neT (K := K) (qSum (qDat datInt) (qDat datStr)) (LM.e_toldK (i := 0) (v := v) (bad := (mNar (nm, rings, wall, redC) low).isEmpty) rfl hn1 hT (fun h W => (ty1 _ (nm, rings, wall, redC) low hg rfl rfl).1 h W) (fun h W => (ty1 _ (nm, rings, wall, redC) low hg rfl rfl).2 h W) (x_PotError_PotError T)) (e_ite (t_of (e_lt (e_var rfl) (e_len (a_cons (e_var rfl) a_nil)))) (fun hcT => (e_inlS (e_sub (e_minLd (a_cons (e_slL (e_var rfl) (eo_part (e_var rfl)) eo_no) a_nil) ?_) (e_var rfl)))) (fun hcF => (e_inrS e_str))) ?_ ?_)) (fun hb => nomatch hb) (fun _ => s_next ?_))
    · rw [hcut]
      exact hdne (of_decide_eq_true hcT)
    · rw [hnE, hcut]
      by_cases hc : low < ((lCol rings).length : Int)
      · rw [decide_eq_true hc, law_nar hg low (hdne hc)]
        rfl
      · rw [decide_eq_false hc]; rfl
    · rw [hnE]
      cases decide (low < ((lCol rings).length : Int)) with
      | true => trivial
      | false => exact (by decide +kernel : PyData.canLay0 (.str "PotError") = true)
    (refine s_le (Le.refl _) ?_; try dsimp only [List.set, ctx0, List.map, List.replicate, List.nil_append, List.cons_append, putC, List.zip, List.zipWith])
    refine s_le (Γ' := (o :: .val (rClay K) redC :: .own (oLst rInt (dl (d'))) :: .no :: .no :: .val (rDct rOw) own :: .val (rDct (rPot K)) (own.map mkP) :: .no :: .val rStr nm :: .no :: .no :: .no :: .no :: .no :: .no :: .val rInt wall :: .val (rList rRg) rings :: .no :: .val (rPot K) (nm, rings, wall, redC) :: .val (rList rInt) (lCol rings) :: .no :: .no :: .no :: .no :: .no :: .no :: .no :: .no :: .no :: .no :: .no :: .no :: .no :: [])) (by repeat' (first | exact Le.nil | apply Le.same | refine Le.no trivial ?_)) ?_
    (refine s_le (Le.refl _) ?_; try dsimp only [List.set, ctx0, List.map, List.replicate, List.nil_append, List.cons_append, putC, List.zip, List.zipWith])
    refine s_seq (s_for (Sx := Unit) (Γs := fun _ => (o :: .val (rClay K) redC :: .own (oLst rInt (dl (d'))) :: .no :: .no :: .val (rDct rOw) own :: .val (rDct (rPot K)) (own.map mkP) :: .no :: .val rStr nm :: .no :: .no :: .no :: .no :: .no :: .no :: .val rInt wall :: .val (rList rRg) rings :: .no :: .val (rPot K) (nm, rings, wall, redC) :: .val (rList rInt) (lCol rings) :: .no :: .no :: .no :: .no :: .no :: .no :: .no :: .no :: .no :: .no :: .no :: .no :: .no :: [])) (fun _ _ => True) (s0 := ()) (src_keys (e_var rfl)) trivial (fun i ot _ hot _ => ⟨_, _, (tg_name (plain1 rfl)), fun g2 N2 hN2 hB2 => ?_⟩) (fun _ _ => ?_))
    · have hk2 : ot ∈ keysO own := List.mem_of_getElem? hot
      obtain ⟨⟨rings2, wall2⟩, m1, m2, _⟩ := look_own (own := own) hk2
      have m4 : lookK (own.map mkP) ot = some (ot, rings2, wall2, redC) := by rw [look_mk, m1]; rfl
      have hg2 : goodPt (ot, rings2, wall2, redC) := ho2.2 _ m2
      (refine s_le (Le.refl _) ?_; try dsimp only [List.set, ctx0, List.map, List.replicate, List.nil_append, List.cons_append, putC, List.zip, List.zipWith])
      show KT F g2 (o :: .val (rClay K) redC :: .own (oLst rInt (dl (d'))) :: .no :: .no :: .val (rDct rOw) own :: .val (rDct (rPot K)) (own.map mkP) :: .no :: .val rStr nm :: .no :: .no :: .no :: .no :: .no :: .no :: .val rInt wall :: .val (rList rRg) rings :: .no :: .val (rPot K) (nm, rings, wall, redC) :: .val (rList rInt) (lCol rings) :: .no :: .no :: .no :: .val rStr ot :: .no :: .no :: .no :: .no :: .no :: .no :: .no :: .no :: .no :: []) _
      refine s_if (c := false) (et_is (t_of (e_neB (e_methB (A := A_room K) ((nm, rings, wall, redC), (ot, rings2, wall2, redC)) o_Pot_has_room_for (e_var rfl) (a_cons (e_dget (e_var rfl) (e_var rfl) m4) a_nil) rfl ⟨hg, hg2⟩ rfl) (e_callB (A := A_within K) ((rings, wall), (rings2, wall2)) (a_cons (e_dget (e_var rfl) (e_var rfl) l1) (a_cons (e_dget (e_var rfl) (e_var rfl) m1) a_nil)) ?_ rfl))) ?_) (fun hb => nomatch hb) (fun _ => s_next ?_)
      · exact ⟨hpc, (ho2.1.2.2 _ m2).1, (ho2.1.2.2 _ l2).2.1, (ho2.1.2.2 _ l2).2.2.1⟩
      · show (!decide (mRoom (nm, rings, wall, redC) (ot, rings2, wall2, redC) = lWithin (rings, wall) (rings2, wall2))) = false
        rw [law_room hg hg2]
        simp
      · exact s_le (by repeat' (first | exact Le.nil | apply Le.same | refine Le.no trivial ?_)) (hN2 () trivial)
    (refine s_le (Le.refl _) ?_; try dsimp only [List.set, ctx0, List.map, List.replicate, List.nil_append, List.cons_append, putC, List.zip, List.zipWith])
    show KT F g' (o :: .val (rClay K) redC :: .own (oLst rInt (dl (d'))) :: .no :: .no :: .val (rDct rOw) own :: .val (rDct (rPot K)) (own.map mkP) :: .no :: .val rStr nm :: .no :: .no :: .no :: .no :: .no :: .no :: .val rInt wall :: .val (rList rRg) rings :: .no :: .val (rPot K) (nm, rings, wall, redC) :: .val (rList rInt) (lCol rings) :: .no :: .no :: .no :: .no :: .no :: .no :: .no :: .no :: .no :: .no :: .no :: .no :: .no :: []) _
    refine s_seq (s_set (R := rList rRg) (a := firedR (nm, rings, wall, redC)) (e_is (e_lcT0  (src_list (e_var rfl)) ?_ (noAll_of rfl) (fun x5 hx5 => (tg_t2 (tg_name (plain1 rfl)) (tg_name (plain1 rfl)))) (by decide) (fun x5 => ⟨plAll_of rfl, rfl⟩) (fun x5 hx5 => (e_t2 (a_cons (e_methB (_, _) (o_Clay_fired) (e_var rfl) (a_cons (e_var rfl) a_nil) rfl ?_ ?_) (a_cons (e_max2 (a_cons e_int (a_cons (e_methB (_, _) (o_Clay_fired) (e_var rfl) (a_cons (e_var rfl) a_nil) rfl ?_ ?_) a_nil))) a_nil))))) ?_) (plain1 rfl) ?_)
    all_goals try (exact goodC_red)
    · omega
    · have := hrb x5 hx5
      exact decide_eq_false (show ¬ x5.1 < 0 by omega)
    · have := hrb x5 hx5
      exact decide_eq_false (show ¬ x5.2 < 0 by omega)
    · rfl
    (refine s_le (Le.refl _) ?_; try dsimp only [List.set, ctx0, List.map, List.replicate, List.nil_append, List.cons_append, putC, List.zip, List.zipWith])
    show KT F g' (o :: .val (rClay K) redC :: .own (oLst rInt (dl (d'))) :: .no :: .no :: .val (rDct rOw) own :: .val (rDct (rPot K)) (own.map mkP) :: .no :: .val rStr nm :: .no :: .no :: .no :: .no :: .no :: .no :: .val rInt wall :: .val (rList rRg) rings :: .no :: .val (rPot K) (nm, rings, wall, redC) :: .val (rList rInt) (lCol rings) :: .no :: .no :: .no :: .no :: .val (rList rRg) (firedR (nm, rings, wall, redC)) :: .no :: .no :: .no :: .no :: .no :: .no :: .no :: .no :: []) _
    refine s_seq (s_set (R := rInt) (a := max 1 (mFired redC wall)) (e_max2 (a_cons e_int (a_cons (e_methB (_, _) (o_Clay_fired) (e_var rfl) (a_cons (e_var rfl) a_nil) rfl ?_ ?_) a_nil))) (plain1 rfl) ?_)
    · exact goodC_red
    · exact decide_eq_false (show ¬ wall < 0 by omega)
    have hfb := fired_bad hg
    have hfl : (firedR (nm, rings, wall, redC)).length = rings.length := List.length_map _
    (refine s_le (Le.refl _) ?_; try dsimp only [List.set, ctx0, List.map, List.replicate, List.nil_append, List.cons_append, putC, List.zip, List.zipWith])
    show KT F g' (o :: .val (rClay K) redC :: .own (oLst rInt (dl (d'))) :: .no :: .no :: .val (rDct rOw) own :: .val (rDct (rPot K)) (own.map mkP) :: .no :: .val rStr nm :: .no :: .no :: .no :: .no :: .no :: .no :: .val rInt wall :: .val (rList rRg) rings :: .no :: .val (rPot K) (nm, rings, wall, redC) :: .val (rList rInt) (lCol rings) :: .no :: .no :: .no :: .no :: .val (rList rRg) (firedR (nm, rings, wall, redC)) :: .val rInt (max 1 (mFired redC wall)) :: .no :: .no :: .no :: .no :: .no :: .no :: .no :: []) _
    refine s_seq (s_set (R := rBool) (a := lGood (firedR (nm, rings, wall, redC)) (max 1 (mFired redC wall))) (e_is (e_and (e_eqE (e_lcT  (src_list (e_var rfl)) ?_ (noAll_of rfl) (fun x6 hx6 => (tg_t2 (tg_name (plain1 rfl)) (tg_name (plain1 rfl)))) (by decide) (fun x6 => ⟨plAll_of rfl, rfl⟩) (fun x6 hx6 => (t_of (e_le (e_var rfl) (e_var rfl)))) (fun x6 hx6 hx6t => e_int))) (fun _ => (e_le (e_var rfl) (e_21 (e_ixLd (d := (0, 0)) (e_var rfl) e_int ?_))))) ?_) (plain1 rfl) ?_)
    · omega
    · refine ⟨by decide, ?_⟩
      have := List.length_pos_iff.mpr hg.1
      have : 0 < rings.length := this
      omega
    · rfl
    (refine s_le (Le.refl _) ?_; try dsimp only [List.set, ctx0, List.map, List.replicate, List.nil_append, List.cons_append, putC, List.zip, List.zipWith])
    show KT F g' (o :: .val (rClay K) redC :: .own (oLst rInt (dl (d'))) :: .no :: .no :: .val (rDct rOw) own :: .val (rDct (rPot K)) (own.map mkP) :: .no :: .val rStr nm :: .no :: .no :: .no :: .no :: .no :: .no :: .val rInt wall :: .val (rList rRg) rings :: .val rBool (lGood (firedR (nm, rings, wall, redC)) (max 1 (mFired redC wall))) :: .val (rPot K) (nm, rings, wall, redC) :: .val (rList rInt) (lCol rings) :: .no :: .no :: .no :: .no :: .val (rList rRg) (firedR (nm, rings, wall, redC)) :: .val rInt (max 1 (mFired redC wall)) :: .no :: .no :: .no :: .no :: .no :: .no :: .no :: []) _
    refine s_seq (s_set (R := rSum (rPot K) rStr) (a := if badPt (firedR (nm, rings, wall, redC)) (max 1 (mFired redC wall)) = true then .inr "PotError" else .inl (mFiredP (nm, rings, wall, redC))) (LM.e_toldK (i := 0) (v := v) (bad := badPt (firedR (nm, rings, wall, redC)) (max 1 (mFired redC wall))) rfl hn2 hT (fun h W => (ty2 _ (nm, rings, wall, redC) hg rfl).1 h W) (fun h W => (ty2 _ (nm, rings, wall, redC) hg rfl).2 h W) (x_PotError_PotError T)) (plain1 rfl) ?_)
    rw [hfb]
    cases hgd : lGood (firedR (nm, rings, wall, redC)) (max 1 (mFired redC wall)) with
    | true =>
      (refine s_le (Le.refl _) ?_; try dsimp only [List.set, ctx0, List.map, List.replicate, List.nil_append, List.cons_append, putC, List.zip, List.zipWith])
      show KT F g' (o :: .val (rClay K) redC :: .own (oLst rInt (dl (d'))) :: .no :: .no :: .val (rDct rOw) own :: .val (rDct (rPot K)) (own.map mkP) :: .no :: .val rStr nm :: .no :: .no :: .no :: .no :: .no :: .no :: .val rInt wall :: .val (rList rRg) rings :: .val rBool true :: .val (rPot K) (nm, rings, wall, redC) :: .val (rList rInt) (lCol rings) :: .no :: .no :: .no :: .no :: .val (rList rRg) (firedR (nm, rings, wall, redC)) :: .val rInt (max 1 (mFired redC wall)) :: .val (rSum (rPot K) rStr) (.inl (nm, firedR (nm, rings, wall, redC), max 1 (mFired redC wall), redC)) :: .no :: .no :: .no :: .no :: .no :: .no :: []) _
      refine s_if (c := false) (et_is (t_or (t_of (e_eqB (e_eqU ins_Pot (mro_Pot T) (eq_Pot T) (e_var rfl) e_str) (e_var rfl))) (fun _ => (t_and (t_B (e_var rfl)) (fun _ => (t_of (e_neD (datT3 (datList (datT2 datInt datInt)) datInt datStr) (e_t3 (a_cons (e_listT (a_cons (e_fld (g := fun s : PotV => s.2.1) (c_Pot T) (n_Pot_rings T) h_Pot_rings (e_inl (y := ((nm, firedR (nm, rings, wall, redC), max 1 (mFired redC wall), redC) : PotV)) (e_var rfl) ?_)) a_nil)) (a_cons (e_fld (g := fun s : PotV => s.2.2.1) (c_Pot T) (n_Pot_wall T) h_Pot_wall (e_inl (y := ((nm, firedR (nm, rings, wall, redC), max 1 (mFired redC wall), redC) : PotV)) (e_var rfl) ?_)) (a_cons (e_fld (g := fun s : PotV => s.1) (c_Pot T) (n_Pot_name T) h_Pot_name (e_inl (y := ((nm, firedR (nm, rings, wall, redC), max 1 (mFired redC wall), redC) : PotV)) (e_var rfl) ?_)) a_nil)))) (e_t3 (a_cons (e_var rfl) (a_cons (e_var rfl) (a_cons (e_var rfl) a_nil)))) ?_ ?_)))))) ?_) (fun hb => nomatch hb) (fun _ => s_next ?_)
      all_goals try rfl
      · exact ⟨fun _ _ => ⟨trivial, trivial⟩, trivial, ((ho2.1.2.2 _ l2).2.2.2)⟩
      · exact ⟨fun _ _ => ⟨trivial, trivial⟩, trivial, ((ho2.1.2.2 _ l2).2.2.2)⟩
      · show (decide (isTxt ("PotError" : Str) (.inl _ : Sum PotV Str) = true) || (true && !decide ((firedR (nm, rings, wall, redC), max 1 (mFired redC wall), nm) = (firedR (nm, rings, wall, redC), max 1 (mFired redC wall), nm)))) = false
        simp [isTxt]
      · exact s_le (by repeat' (first | exact Le.nil | apply Le.same | refine Le.no trivial ?_)) (hN' d' trivial)
    | false =>
      (refine s_le (Le.refl _) ?_; try dsimp only [List.set, ctx0, List.map, List.replicate, List.nil_append, List.cons_append, putC, List.zip, List.zipWith])
      show KT F g' (o :: .val (rClay K) redC :: .own (oLst rInt (dl (d'))) :: .no :: .no :: .val (rDct rOw) own :: .val (rDct (rPot K)) (own.map mkP) :: .no :: .val rStr nm :: .no :: .no :: .no :: .no :: .no :: .no :: .val rInt wall :: .val (rList rRg) rings :: .val rBool false :: .val (rPot K) (nm, rings, wall, redC) :: .val (rList rInt) (lCol rings) :: .no :: .no :: .no :: .no :: .val (rList rRg) (firedR (nm, rings, wall, redC)) :: .val rInt (max 1 (mFired redC wall)) :: .val (rSum (rPot K) rStr) (.inr "PotError") :: .no :: .no :: .no :: .no :: .no :: .no :: []) _
      refine s_if (c := false) (et_is (b := (decide (isTxt ("PotError" : Str) (.inr "PotError" : Sum PotV Str) = false) || (false && false))) (t_or (t_of (e_eqB (e_eqU ins_Pot (mro_Pot T) (eq_Pot T) (e_var rfl) e_str) (e_var rfl))) (fun _ => (t_and (t_B (e_var rfl)) (fun hz => nomatch hz)))) ?_) (fun hb => nomatch hb) (fun _ => s_next ?_)
      · simp [isTxt]
      · exact s_le (by repeat' (first | exact Le.nil | apply Le.same | refine Le.no trivial ?_)) (hN' d' trivial)
  (refine s_le (Le.refl _) ?_; try dsimp only [List.set, ctx0, List.map, List.replicate, List.nil_append, List.cons_append, putC, List.zip, List.zipWith])
  show KT F gA (o :: .val (rClay K) redC :: .own (oLst rInt (dl (d2))) :: .no :: .no :: .val (rDct rOw) own :: .val (rDct (rPot K)) (own.map mkP) :: .no :: .no :: .no :: .no :: .no :: .no :: .no :: .no :: .no :: .no :: .no :: .no :: .no :: .no :: .no :: .no :: .no :: .no :: .no :: .no :: .no :: .no :: .no :: .no :: .no :: .no :: []) _
  have hrl6 : (rowsL own []).length ≤ 1957 := by
    have hb := al_len (keysO own) (okL own) 6 [] (Nat.le_trans (rk_all _ _) (by unfold keysO; rw [List.length_map]; exact hol))
    have e6 : bnd 6 = 1957 := by decide
    rw [e6] at hb
    exact hb
  have hrne : 0 < (rowsL own []).length := List.length_pos_iff.mpr fun z => by
    have := al_self (downN (keysO own) (okL own)) []
    rw [show al (chN (keysO own) (okL own)) (rkN (keysO own)) [] = [] from z] at this
    cases this
  have hcl : ∀ n ∈ keysO own, PyData.canLay0 (.str n) = true := fun n hn => by
    obtain ⟨x, hx, rfl⟩ := List.mem_map.mp hn
    exact (ho2.1.2.2 x hx).2.2.2
  have hrs : ∀ r ∈ rowsL own [], ∀ n ∈ r, PyData.canLay0 (.str n) = true := fun r hr n hn => hcl n (rows_sub r hr n hn)
  refine s_seq (s_set (R := rList (rT2 rInt (rTup rStr))) (a := ranked (rowsL own [])) (e_is (e_sortD (datT2 datInt (datTup datStr)) (al_T2 al_int (al_tup al_str)) ?_ (a_cons (e_lcT0  (src_list (e_callB (_, _) (a_cons (e_var rfl) (a_cons (e_tup (xs := []) a_nil (by simp)) a_nil)) ?_ ?_)) ?_ (noAll_of rfl) (fun x7 hx7 => (tg_name (plain1 rfl))) (by decide) (fun x7 => ⟨plAll_of rfl, rfl⟩) (fun x7 hx7 => (e_t2 (a_cons (e_neg (e_lenT (a_cons (e_var rfl) a_nil))) (a_cons (e_var rfl) a_nil))))) a_nil) ?_) ?_) (plain1 rfl) ?_)
  · exact PySem.W.Sortable.tuples fun b => ⟨_, _, rfl⟩
  · refine ⟨ho2.1, ?_, fun m hm => (nomatch hm), (show 0 + 7 ≤ 100 by decide)⟩
    have := rk_all (keysO own) []
    have h2 : (keysO own).length = own.length := List.length_map _
    show rkN (keysO own) [] < 7
    omega
  · rfl
  · show (rowsL own []).length ≤ 100000
    omega
  · intro x hx
    obtain ⟨r, hr, rfl⟩ := List.mem_map.mp hx
    exact ⟨trivial, hrs r hr⟩
  · rfl
  (refine s_le (Le.refl _) ?_; try dsimp only [List.set, ctx0, List.map, List.replicate, List.nil_append, List.cons_append, putC, List.zip, List.zipWith])
  show KT F gA (o :: .val (rClay K) redC :: .own (oLst rInt (dl (d2))) :: .no :: .no :: .val (rDct rOw) own :: .val (rDct (rPot K)) (own.map mkP) :: .no :: .no :: .val (rList (rT2 rInt (rTup rStr))) (ranked (rowsL own [])) :: .no :: .no :: .no :: .no :: .no :: .no :: .no :: .no :: .no :: .no :: .no :: .no :: .no :: .no :: .no :: .no :: .no :: .no :: .no :: .no :: .no :: .no :: .no :: []) _
  have hnp := nest_pre ho2
  refine s_seq (s_if (c := false) (et_is (t_of (e_neD (datTup datStr) (e_callB _ (a_cons (e_lcT0  (src_list (e_revL (e_sortK (a_cons (e_var rfl) a_nil) ?_))) ?_ (noAll_of rfl) (fun x8 hx8 => (tg_name (plain1 rfl))) (by decide) (fun x8 => ⟨plAll_of rfl, rfl⟩) (fun x8 hx8 => (e_dgetD (d := dP) (e_var rfl) (e_var rfl) ?_))) a_nil) ?_ ?_) (e_21 (e_ixLd (d := (0, [])) (e_var rfl) e_int ?_)) ?_ ?_)) ?_) (fun hb => nomatch hb) (fun _ => s_next ?_))
  · show (own.map mkP).length < 64
    rw [List.length_map]; omega
  · rw [List.length_reverse, sortS_len, List.length_map, List.length_map]; omega
  · rw [List.mem_reverse, sortS_mem, keys_mk] at hx8
    exact look_some (by rw [keys_mk]; exact hx8)
  · exact hnp.1
  · exact hnp.2
  · refine ⟨by decide, ?_⟩
    rw [ranked_len]
    omega
  · intro n hn
    have h2 := least_spec (rows := rowsL own []) (fun z => by rw [z] at hrne; exact Nat.lt_irrefl 0 hrne)
    have hn : n ∈ mNest (potsOf own) := hn
    rw [nest_eq ho2] at hn
    exact hrs _ h2.1 n hn
  · intro n hn
    have h2 := least_spec (rows := rowsL own []) (fun z => by rw [z] at hrne; exact Nat.lt_irrefl 0 hrne)
    exact hrs _ h2.1 n hn
  · show (!decide (mNest (potsOf own) = leastRow (rowsL own []))) = false
    rw [nest_eq ho2]
    simp
  refine s_le (Γ' := (o :: .val (rClay K) redC :: .own (oLst rInt (dl (d2))) :: .no :: .no :: .val (rDct rOw) own :: .val (rDct (rPot K)) (own.map mkP) :: .no :: .no :: .no :: .no :: .no :: .no :: .no :: .no :: .no :: .no :: .no :: .no :: .no :: .no :: .no :: .no :: .no :: .no :: .no :: .no :: .no :: .no :: .no :: .no :: .no :: .no :: [])) (by repeat' (first | exact Le.nil | apply Le.same | refine Le.no trivial ?_)) ?_
  (refine s_le (Le.refl _) ?_; try dsimp only [List.set, ctx0, List.map, List.replicate, List.nil_append, List.cons_append, putC, List.zip, List.zipWith])
  have hra := rollV_in (d := d2) (m := 3) (by decide)
  have hrb := rollV_in (d := rollD d2 3) (m := 3) (by decide)
  refine s_seq (s_asg (Γ1 := (o :: .val (rClay K) redC :: .own (oLst rInt (dl (rollD (rollD d2 3) 3))) :: .no :: .no :: .val (rDct rOw) own :: .val (rDct (rPot K)) (own.map mkP) :: .no :: .no :: .no :: .no :: .no :: .no :: .no :: .no :: .no :: .no :: .no :: .no :: .no :: .no :: .no :: .no :: .no :: .no :: .no :: .no :: .no :: .no :: .no :: .no :: .no :: .no :: [])) (R := rT2 (rList rStr) (rDct rInt)) (a := (KN, manyOf (1 + rollV d2 3) (1 + rollV (rollD d2 3) 3))) (e_t2 (a_cons (e_lst (xs := [_, _, _]) (a_cons e_str (a_cons e_str (a_cons e_str a_nil))) (by simp)) (a_cons (e_dispF (.cons e_str (e_add e_int (e_roll (i := 2) (d := d2) (m := 3) (Γ' := (o :: .val (rClay K) redC :: .own (oLst rInt (dl (rollD d2 3))) :: .no :: .no :: .val (rDct rOw) own :: .val (rDct (rPot K)) (own.map mkP) :: .no :: .no :: .no :: .no :: .no :: .no :: .no :: .no :: .no :: .no :: .no :: .no :: .no :: .no :: .no :: .no :: .no :: .no :: .no :: .no :: .no :: .no :: .no :: .no :: .no :: .no :: [])) (by decide) (a_cons e_int a_nil) rfl rfl rfl)) (.cons e_str (e_add e_int (e_roll (i := 2) (d := rollD d2 3) (m := 3) (Γ' := (o :: .val (rClay K) redC :: .own (oLst rInt (dl (rollD (rollD d2 3) 3))) :: .no :: .no :: .val (rDct rOw) own :: .val (rDct (rPot K)) (own.map mkP) :: .no :: .no :: .no :: .no :: .no :: .no :: .no :: .no :: .no :: .no :: .no :: .no :: .no :: .no :: .no :: .no :: .no :: .no :: .no :: .no :: .no :: .no :: .no :: .no :: .no :: .no :: [])) (by decide) (a_cons e_int a_nil) rfl rfl rfl)) .nil)) (show 2 ≤ 15 by decide) (show ([("cup" : Str), "plate"]).Nodup by decide)) a_nil))) (tg_t2 (tg_name (plain1 rfl)) (tg_name (plain1 rfl))) ?_)
  obtain ⟨qa, hqa⟩ : ∃ q, q = 1 + rollV d2 3 := ⟨_, rfl⟩
  obtain ⟨qb, hqb⟩ : ∃ q, q = 1 + rollV (rollD d2 3) 3 := ⟨_, rfl⟩
  have ha1 : 1 ≤ qa ∧ qa ≤ 3 := by omega
  have hb1 : 1 ≤ qb ∧ qb ≤ 3 := by omega
  rw [← hqa, ← hqb]
  clear hqa hqb hra hrb
  generalize rollD (rollD d2 3) 3 = d3 at *
  have hmv : ∀ k ∈ (manyOf qa qb).map (·.1), (lookK (manyOf qa qb) k).isSome = true ∧ 1 ≤ (lookK (manyOf qa qb) k).getD 0 ∧ (lookK (manyOf qa qb) k).getD 0 ≤ 3 := fun k hk => by
    have hk : k = "cup" ∨ k = "plate" := by simpa [manyOf] using hk
    rcases hk with rfl | rfl
    · exact ⟨rfl, ha1⟩
    · exact ⟨rfl, hb1⟩
  have hmk : (manyOf qa qb).map (·.1) = [("cup" : Str), "plate"] := rfl
  have hml : (manyOf qa qb).length = 2 := rfl
  have hmp : preSe' qa qb := ⟨ha1.2, hb1.2⟩
  (refine s_le (Le.refl _) ?_; try dsimp only [List.set, ctx0, List.map, List.replicate, List.nil_append, List.cons_append, putC, List.zip, List.zipWith])
  show KT F gA (o :: .val (rClay K) redC :: .own (oLst rInt (dl (d3))) :: .no :: .no :: .val (rDct rOw) own :: .val (rDct (rPot K)) (own.map mkP) :: .no :: .no :: .no :: .val (rList rStr) KN :: .val (rDct rInt) (manyOf qa qb) :: .no :: .no :: .no :: .no :: .no :: .no :: .no :: .no :: .no :: .no :: .no :: .no :: .no :: .no :: .no :: .no :: .no :: .no :: .no :: .no :: .no :: []) _
  have hr15 := rollV_in (d := d3) (m := 15) (by decide)
  refine s_seq (s_set (R := rList rStr) (a := seqV nmSt nmV (rollD d3 15) (upFrom 0 (rollV d3 15).toNat)) (Γ1 := (o :: .val (rClay K) redC :: .own (oLst rInt (dl ((upFrom 0 (rollV d3 15).toNat).foldl nmSt (rollD d3 15)))) :: .no :: .no :: .val (rDct rOw) own :: .val (rDct (rPot K)) (own.map mkP) :: .no :: .no :: .no :: .val (rList rStr) KN :: .val (rDct rInt) (manyOf qa qb) :: .no :: .no :: .no :: .no :: .no :: .no :: .no :: .no :: .no :: .no :: .no :: .no :: .no :: .no :: .no :: .no :: .no :: .no :: .no :: .no :: .no :: [])) (e_lcR (Dt := Dice) (Γs := fun d' => (o :: .val (rClay K) redC :: .own (oLst rInt (dl (d'))) :: .no :: .no :: .val (rDct rOw) own :: .val (rDct (rPot K)) (own.map mkP) :: .no :: .no :: .no :: .val (rList rStr) KN :: .val (rDct rInt) (manyOf qa qb) :: .no :: .no :: .no :: .no :: .no :: .no :: .no :: .no :: .no :: .no :: .no :: .no :: .no :: .no :: .no :: .no :: .no :: .no :: .no :: .no :: .no :: [])) (d0 := rollD d3 15) (st := nmSt) (v := nmV) (Γx := fun d' x => (o :: .val (rClay K) redC :: .own (oLst rInt (dl (d'))) :: .no :: .no :: .val (rDct rOw) own :: .val (rDct (rPot K)) (own.map mkP) :: .val rInt x :: .no :: .no :: .val (rList rStr) KN :: .val (rDct rInt) (manyOf qa qb) :: .no :: .no :: .no :: .no :: .no :: .no :: .no :: .no :: .no :: .no :: .no :: .no :: .no :: .no :: .no :: .no :: .no :: .no :: .no :: .no :: .no :: [])) (Γy := fun d' x => (o :: .val (rClay K) redC :: .own (oLst rInt (dl (nmSt d' x))) :: .no :: .no :: .val (rDct rOw) own :: .val (rDct (rPot K)) (own.map mkP) :: .val rInt x :: .no :: .no :: .val (rList rStr) KN :: .val (rDct rInt) (manyOf qa qb) :: .no :: .no :: .no :: .no :: .no :: .no :: .no :: .no :: .no :: .no :: .no :: .no :: .no :: .no :: .no :: .no :: .no :: .no :: .no :: .no :: .no :: [])) (fun _ => True)
    (src_rng1 (a_cons (e_roll (i := 2) (d := d3) (m := 15) (Γ' := (o :: .val (rClay K) redC :: .own (oLst rInt (dl (rollD d3 15))) :: .no :: .no :: .val (rDct rOw) own :: .val (rDct (rPot K)) (own.map mkP) :: .no :: .no :: .no :: .val (rList rStr) KN :: .val (rDct rInt) (manyOf qa qb) :: .no :: .no :: .no :: .no :: .no :: .no :: .no :: .no :: .no :: .no :: .no :: .no :: .no :: .no :: .no :: .no :: .no :: .no :: .no :: .no :: .no :: [])) (by decide) (a_cons e_int a_nil) rfl rfl rfl) a_nil) (by omega) (by omega)) (by rw [upFrom_length]; omega) trivial (fun _ _ _ _ => trivial) (fun _ => noAll_of rfl) (fun d x _ _ => tg_name (plain1 rfl)) (by decide) (fun d x => plAll_of rfl)
    (fun d' x _ hx => e_cat (e_ixLd (d := ("" : Str)) (e_var rfl) (e_roll (i := 2) (d := d') (m := 3) (Γ' := (o :: .val (rClay K) redC :: .own (oLst rInt (dl (nmSt d' x))) :: .no :: .no :: .val (rDct rOw) own :: .val (rDct (rPot K)) (own.map mkP) :: .val rInt x :: .no :: .no :: .val (rList rStr) KN :: .val (rDct rInt) (manyOf qa qb) :: .no :: .no :: .no :: .no :: .no :: .no :: .no :: .no :: .no :: .no :: .no :: .no :: .no :: .no :: .no :: .no :: .no :: .no :: .no :: .no :: .no :: [])) (by decide) (a_cons e_int a_nil) rfl rfl rfl) (rollV_in (d := d') (m := 3) (by decide))) (e_strI (a_cons (e_var rfl) a_nil) (by have := upFrom_mem.mp hx; exact small_log (by omega) (by omega))) (by have := upFrom_mem.mp hx; exact kn_cat (rollV_in (d := d') (m := 3) (by decide)) (by omega) (by omega))) (fun d x => ⟨plAll_of rfl, rfl⟩)) (plain1 rfl) ?_)
  have hns := names_ok (d := rollD d3 15) (n := (rollV d3 15).toNat) (by omega)
  have hnl : (seqV nmSt nmV (rollD d3 15) (upFrom 0 (rollV d3 15).toNat)).length ≤ 15 := by rw [seqV_len, upFrom_length]; omega
  generalize seqV nmSt nmV (rollD d3 15) (upFrom 0 (rollV d3 15).toNat) = nms at *
  generalize (upFrom 0 (rollV d3 15).toNat).foldl nmSt (rollD d3 15) = d4 at *
  (refine s_le (Le.refl _) ?_; try dsimp only [List.set, ctx0, List.map, List.replicate, List.nil_append, List.cons_append, putC, List.zip, List.zipWith])
  show KT F gA (o :: .val (rClay K) redC :: .own (oLst rInt (dl (d4))) :: .no :: .no :: .val (rDct rOw) own :: .val (rDct (rPot K)) (own.map mkP) :: .no :: .no :: .no :: .val (rList rStr) KN :: .val (rDct rInt) (manyOf qa qb) :: .val (rList rStr) nms :: .no :: .no :: .no :: .no :: .no :: .no :: .no :: .no :: .no :: .no :: .no :: .no :: .no :: .no :: .no :: .no :: .no :: .no :: .no :: .no :: []) _
  refine s_seq (s_set (R := rDct rInt) (a := lCounts nms (manyOf qa qb)) (e_is (e_dpairsF (a_cons (e_lcT0  (src_keys (e_var rfl)) ?_ (noAll_of rfl) (fun x11 hx11 => (tg_name (plain1 rfl))) (by decide) (fun x11 => ⟨plAll_of rfl, rfl⟩) (fun x11 hx11 => (e_t2 (a_cons (e_var rfl) (a_cons (e_len (a_cons (e_lcT  (src_list (e_var rfl)) ?_ (noAll_of rfl) (fun x10 hx10 => (tg_name (plain1 rfl))) (by decide) (fun x10 => ⟨plAll_of rfl, rfl⟩) (fun x10 hx10 => (t_of (e_eqS (e_slS (e_var rfl) eo_no (eo_part (e_lenS (a_cons (e_var rfl) a_nil) ?_)) ?_) (e_var rfl)))) (fun x10 hx10 hx10t => (e_var rfl))) a_nil)) a_nil))))) a_nil) ?_) ?_) (plain1 rfl) ?_)
  · rw [List.length_map, hml]; decide
  · omega
  · have hx11 : x11 = "cup" ∨ x11 = "plate" := by rw [hmk] at hx11; simpa using hx11
    rcases hx11 with rfl | rfl <;> exact small_len (by decide)
  · exact small_len (Nat.le_trans (ns_len hns _ hx10) (by decide))
  · rw [List.map_map]
    exact (show ([("cup" : Str), "plate"]).Nodup by decide)
  · unfold lCounts
    refine List.map_congr_left fun k _ => ?_
    rw [List.map_id']
    rfl
  have hck : ∀ k ∈ (manyOf qa qb).map (·.1), (lookK (lCounts nms (manyOf qa qb)) k).isSome = true := fun k hk => look_some (by unfold lCounts; rw [List.map_map]; simpa using hk)
  (refine s_le (Le.refl _) ?_; try dsimp only [List.set, ctx0, List.map, List.replicate, List.nil_append, List.cons_append, putC, List.zip, List.zipWith])
  show KT F gA (o :: .val (rClay K) redC :: .own (oLst rInt (dl (d4))) :: .no :: .no :: .val (rDct rOw) own :: .val (rDct (rPot K)) (own.map mkP) :: .no :: .no :: .no :: .val (rList rStr) KN :: .val (rDct rInt) (manyOf qa qb) :: .val (rList rStr) nms :: .val (rDct rInt) (lCounts nms (manyOf qa qb)) :: .no :: .no :: .no :: .no :: .no :: .no :: .no :: .no :: .no :: .no :: .no :: .no :: .no :: .no :: .no :: .no :: .no :: .no :: .no :: []) _
  refine s_seq (s_set (R := rInt) (a := lSets nms (manyOf qa qb)) (e_is (e_minLd (a_cons (e_lcT0  (src_keys (e_var rfl)) ?_ (noAll_of rfl) (fun x12 hx12 => (tg_name (plain1 rfl))) (by decide) (fun x12 => ⟨plAll_of rfl, rfl⟩) (fun x12 hx12 => (e_fdiv (e_dgetD (d := 0) (e_var rfl) (e_var rfl) ?_) (e_dgetD (d := 0) (e_var rfl) (e_var rfl) ?_) ?_))) a_nil) ?_) ?_) (plain1 rfl) ?_)
  · rw [List.length_map, hml]; decide
  · exact hck _ hx12
  · exact (hmv _ hx12).1
  · have := hmv _ hx12
    exact ⟨show 0 < (lookK (manyOf qa qb) x12).getD 0 by omega, show (lookK (manyOf qa qb) x12).getD 0 < 1073741824 by omega⟩
  · exact fun z => by cases z
  · rfl
  (refine s_le (Le.refl _) ?_; try dsimp only [List.set, ctx0, List.map, List.replicate, List.nil_append, List.cons_append, putC, List.zip, List.zipWith])
  show KT F gA (o :: .val (rClay K) redC :: .own (oLst rInt (dl (d4))) :: .no :: .no :: .val (rDct rOw) own :: .val (rDct (rPot K)) (own.map mkP) :: .no :: .no :: .no :: .val (rList rStr) KN :: .val (rDct rInt) (manyOf qa qb) :: .val (rList rStr) nms :: .val (rDct rInt) (lCounts nms (manyOf qa qb)) :: .val rInt (lSets nms (manyOf qa qb)) :: .no :: .no :: .no :: .no :: .no :: .no :: .no :: .no :: .no :: .no :: .no :: .no :: .no :: .no :: .no :: .no :: .no :: .no :: []) _
  have hl2 : ∀ {f : Str → Int}, ∀ x ∈ (sortS ((manyOf qa qb).map (·.1))).map (fun k => (k, f k)), PyData.canLay0 (.str x.1) = true ∧ True := fun {f} => tab_lay fun x hx => by
    obtain ⟨k, hk, rfl⟩ := List.mem_map.mp hx
    have hk := sortS_mem.mp hk
    rw [hmk] at hk
    simpa using hk
  refine s_if (c := false) (et_is (t_of (e_neD (datT2 datInt (datTup (datT2 datStr datInt))) (e_callB (_, _) (a_cons (e_var rfl) (a_cons (e_var rfl) a_nil)) ?_ ?_) (e_t2 (a_cons (e_var rfl) (a_cons (e_tupL (a_cons (e_lcT0  (src_list (e_sortK (a_cons (e_var rfl) a_nil) ?_)) ?_ (noAll_of rfl) (fun x13 hx13 => (tg_name (plain1 rfl))) (by decide) (fun x13 => ⟨plAll_of rfl, rfl⟩) (fun x13 hx13 => (e_t2 (a_cons (e_var rfl) (a_cons (e_sub (e_dgetD (d := 0) (e_var rfl) (e_var rfl) ?_) (e_mul (e_var rfl) (e_dgetD (d := 0) (e_var rfl) (e_var rfl) ?_) ?_)) a_nil))))) a_nil)) a_nil))) ?_ ?_)) ?_) (fun hb => nomatch hb) (fun _ => s_next ?_)
  · exact set_pre hns hnl hmp
  · exact set_bad hb1.1 ha1.1
  · show (manyOf qa qb).length < 64
    rw [hml]; decide
  · rw [sortS_len, List.length_map, hml]; decide
  · exact hck _ (sortS_mem.mp hx13)
  · exact (hmv _ (sortS_mem.mp hx13)).1
  · have := hmv _ (sortS_mem.mp hx13)
    right; constructor
    · show -(2 ^ 64) < (lookK (manyOf qa qb) x13).getD 0
      omega
    · show (lookK (manyOf qa qb) x13).getD 0 < 2 ^ 64
      omega
  · refine ⟨trivial, ?_⟩
    exact hl2
  · refine ⟨trivial, ?_⟩
    exact hl2
  · show (!decide (mSetsOf (nms, manyOf qa qb) = (lSets nms (manyOf qa qb), (sortS ((manyOf qa qb).map (·.1))).map fun k => (k, (lookK (lCounts nms (manyOf qa qb)) k).getD 0 - lSets nms (manyOf qa qb) * (lookK (manyOf qa qb) k).getD 0)))) = false
    rw [sets_eq hns]
    simp
  refine s_le (Γ' := (o :: .val (rClay K) redC :: .own (oLst rInt (dl (d4))) :: .no :: .no :: .no :: .no :: .no :: .no :: .no :: .no :: .no :: .no :: .no :: .no :: .no :: .no :: .no :: .no :: .no :: .no :: .no :: .no :: .no :: .no :: .no :: .no :: .no :: .no :: .no :: .no :: .no :: .no :: [])) (by repeat' (first | exact Le.nil | apply Le.same | refine Le.no trivial ?_)) ?_
  refine hN _ ?_
  (refine s_le (Le.refl _) ?_; try dsimp only [List.set, ctx0, List.map, List.replicate, List.nil_append, List.cons_append, putC, List.zip, List.zipWith])
  refine s_seq (s_set (Γ1 := (o :: .val (rClay K) redC :: .own (oLst rInt (dl (d4))) :: .no :: .no :: .no :: .no :: .no :: .no :: .no :: .no :: .no :: .no :: .no :: .no :: .no :: .no :: .no :: .no :: .no :: .no :: .no :: .no :: .no :: .no :: .no :: .no :: .no :: .no :: .no :: .no :: .no :: .no :: [])) (R := rPot K) (a := oneP) (e_makeB (A := A_pinit K) oneP (a_cons e_str (a_cons (e_lst (xs := [_]) (a_cons (e_t2 (a_cons e_int (a_cons e_int a_nil))) a_nil) (by simp)) (a_cons e_int (a_cons (e_var rfl) a_nil)))) (by decide : (1 : Nat) ≤ 1000) rfl) (plain1 rfl) ?_)
  (refine s_le (Le.refl _) ?_; try dsimp only [List.set, ctx0, List.map, List.replicate, List.nil_append, List.cons_append, putC, List.zip, List.zipWith])
  show KT F gT (o :: .val (rClay K) redC :: .own (oLst rInt (dl (d4))) :: .val (rPot K) oneP :: .no :: .no :: .no :: .no :: .no :: .no :: .no :: .no :: .no :: .no :: .no :: .no :: .no :: .no :: .no :: .no :: .no :: .no :: .no :: .no :: .no :: .no :: .no :: .no :: .no :: .no :: .no :: .no :: .no :: []) _
  refine s_seq (s_set (Γ1 := (o :: .val (rClay K) redC :: .own (oLst rInt (dl (d4))) :: .val (rPot K) oneP :: .no :: .no :: .no :: .no :: .no :: .no :: .no :: .no :: .no :: .no :: .no :: .no :: .no :: .no :: .no :: .no :: .no :: .no :: .no :: .no :: .no :: .no :: .no :: .no :: .no :: .no :: .no :: .no :: .no :: [])) (R := rList (rFn ((XL P w K mg base A outer s H E).env.qual ++ "<lambda>") (XL P w K mg base A outer s H E).env.cells Ls)) (a := [3, 4, 5, 6, 7, 8, 9, 10, 11, 12, 13]) (e_lst (xs := [3, 4, 5, 6, 7, 8, 9, 10, 11, 12, 13]) (a_cons (e_lamK (i := 0) (v := v) hT hn3 rfl) (a_cons (e_lamK (i := 0) (v := v) hT hn4 rfl) (a_cons (e_lamK (i := 0) (v := v) hT hn5 rfl) (a_cons (e_lamK (i := 0) (v := v) hT hn6 rfl) (a_cons (e_lamK (i := 0) (v := v) hT hn7 rfl) (a_cons (e_lamK (i := 0) (v := v) hT hn8 rfl) (a_cons (e_lamK (i := 0) (v := v) hT hn9 rfl) (a_cons (e_lamK (i := 0) (v := v) hT hn10 rfl) (a_cons (e_lamK (i := 0) (v := v) hT hn11 rfl) (a_cons (e_lamK (i := 0) (v := v) hT hn12 rfl) (a_cons (e_lamK (i := 0) (v := v) hT hn13 rfl) a_nil))))))))))) (by decide)) (plain1 rfl) ?_)
  (refine s_le (Le.refl _) ?_; try dsimp only [List.set, ctx0, List.map, List.replicate, List.nil_append, List.cons_append, putC, List.zip, List.zipWith])
  show KT F gT (o :: .val (rClay K) redC :: .own (oLst rInt (dl (d4))) :: .val (rPot K) oneP :: .val (rList (rFn ((XL P w K mg base A outer s H E).env.qual ++ "<lambda>") (XL P w K mg base A outer s H E).env.cells Ls)) [3, 4, 5, 6, 7, 8, 9, 10, 11, 12, 13] :: .no :: .no :: .no :: .no :: .no :: .no :: .no :: .no :: .no :: .no :: .no :: .no :: .no :: .no :: .no :: .no :: .no :: .no :: .no :: .no :: .no :: .no :: .no :: .no :: .no :: .no :: .no :: .no :: []) _
  obtain ⟨Γe, hΓe⟩ : ∃ Γe : TP.Ctx, Γe = (o :: .val (rClay K) redC :: .own (oLst rInt (dl (d4))) :: .val (rPot K) oneP :: .val (rList (rFn ((XL P w K mg base A outer s H E).env.qual ++ "<lambda>") (XL P w K mg base A outer s H E).env.cells Ls)) [3, 4, 5, 6, 7, 8, 9, 10, 11, 12, 13] :: .no :: .no :: .no :: .no :: .no :: .no :: .no :: .no :: .no :: .no :: .no :: .no :: .no :: .no :: .no :: .no :: .no :: .no :: .no :: .no :: .no :: .no :: .no :: .no :: .no :: .no :: .no :: .no :: []) := ⟨_, rfl⟩
  have h2' : Γe[4]? = some (.val (rList (rFn ((XL P w K mg base A outer s H E).env.qual ++ "<lambda>") (XL P w K mg base A outer s H E).env.cells Ls)) [3, 4, 5, 6, 7, 8, 9, 10, 11, 12, 13]) := by rw [hΓe]; rfl
  have h1e : Γe[1]? = some (.val (rClay K) redC) := by rw [hΓe]; rfl
  have h3e : Γe[3]? = some (.val (rPot K) oneP) := by rw [hΓe]; rfl
  have hj : NoAt Γe 32 := by rw [hΓe]; exact fun s e => by simpa using e.symm
  have hjl : 32 < Γe.length := by rw [hΓe]; exact (show (32 : Nat) < 33 by decide)
  rw [← hΓe]
  have hall : ∀ n ∈ [3, 4, 5, 6, 7, 8, 9, 10, 11, 12, 13], ∃ ld c, Ls[n]? = some ld ∧ (∀ W, EX F.G Γe (ld.t W) Γe W c) ∧ PySem.W.exmOne K (.ref c) (.ref (aErr K)) = some true := by
    intro n hn
    simp only [List.mem_cons, List.not_mem_nil, or_false] at hn
    rcases hn with rfl | rfl | rfl | rfl | rfl | rfl | rfl | rfl | rfl | rfl | rfl
    · exact ⟨_, aErr K, hn3, fun W => ty3 _ W h1e h3e, x_PotError_PotError T⟩
    · exact ⟨_, aErr K, hn4, fun W => ty4 _ W h1e h3e, x_PotError_PotError T⟩
    · exact ⟨_, aErr K, hn5, fun W => ty5 _ W h1e h3e, x_PotError_PotError T⟩
    · exact ⟨_, aErr K, hn6, fun W => ty6 _ W h1e h3e, x_PotError_PotError T⟩
    · exact ⟨_, aErr K, hn7, fun W => ty7 _ W h1e h3e, x_PotError_PotError T⟩
    · exact ⟨_, aErr K, hn8, fun W => ty8 _ W h1e h3e, x_PotError_PotError T⟩
    · exact ⟨_, aErr K, hn9, fun W => ty9 _ W h1e h3e, x_PotError_PotError T⟩
    · exact ⟨_, aErr K, hn10, fun W => ty10 _ W h1e h3e, x_PotError_PotError T⟩
    · exact ⟨_, aErr K, hn11, fun W => ty11 _ _ _ _ W hΓe, x_PotError_PotError T⟩
    · exact ⟨_, aErr K, hn12, fun W => ty12 _ W h1e h3e, x_PotError_PotError T⟩
    · exact ⟨_, aErr K, hn13, fun W => ty13 _ W h1e h3e, x_PotError_PotError T⟩
  have hb0 := LM.e_bads (ret := "PotError") (CS := aErr K) (K := K) (i := 4) (j := 32) h2' hj hjl (by decide) hall
  have g1 : goodPt ("b", [(4, 2)], 1, redC) := ⟨by decide, by decide, fun x hx => by rw [List.mem_singleton.mp (show x ∈ [((4 : Int), (2 : Int))] from hx)]; decide, by decide, by decide, goodC_red⟩
  have g2 : goodPt ("b", [(4, 3)], 1, redC) := ⟨by decide, by decide, fun x hx => by rw [List.mem_singleton.mp (show x ∈ [((4 : Int), (3 : Int))] from hx)]; decide, by decide, by decide, goodC_red⟩
  rw [hΓe] at hb0 ⊢
  refine s_ret (R := rBool) (a := true) (e_is (e_and (e_eqE hb0) (fun _ => (e_and (e_eqI e_int e_int) (fun _ => (e_and (e_eqD (datT4 datInt datInt datInt datInt) (e_t4 (a_cons (e_methB _ (o_Pot_height) (e_var rfl) a_nil rfl ?_ ?_) (a_cons (e_methB _ (o_Pot_width) (e_var rfl) a_nil rfl ?_ ?_) (a_cons (e_methB _ (o_Pot_outside) (e_var rfl) a_nil rfl ?_ ?_) (a_cons (e_methB _ (o_Pot_holds) (e_var rfl) a_nil rfl ?_ ?_) a_nil))))) (e_t4 (a_cons e_int (a_cons e_int (a_cons e_int (a_cons e_int a_nil))))) ?_ ?_) (fun _ => (e_and (e_methB (_, _) (o_Pot_has_room_for) (e_var rfl) (a_cons (e_makeB (_, _, _, _) (a_cons e_str (a_cons (e_lst (xs := [_]) (a_cons (e_t2 (a_cons e_int (a_cons e_int a_nil))) a_nil) (by simp)) (a_cons e_int (a_cons (e_var rfl) a_nil)))) ?_ ?_) a_nil) rfl ?_ ?_) (fun _ => (e_and (e_not (e_methB (_, _) (o_Pot_has_room_for) (e_var rfl) (a_cons (e_makeB (_, _, _, _) (a_cons e_str (a_cons (e_lst (xs := [_]) (a_cons (e_t2 (a_cons e_int (a_cons e_int a_nil))) a_nil) (by simp)) (a_cons e_int (a_cons (e_var rfl) a_nil)))) ?_ ?_) a_nil) rfl ?_ ?_)) (fun _ => (e_and (e_eqD (datTup datStr) (e_callB _ (a_cons (e_lst (xs := []) a_nil (by simp)) a_nil) ?_ ?_) (e_tup (xs := []) a_nil (by simp)) ?_ ?_) (fun _ => (e_eqS (e_fld (c_Clay T) (n_Clay_name T) h_Clay_name (e_fld (g := fun s : PotV => s.2.2.2) (c_Pot T) (n_Pot_clay T) h_Pot_clay (e_var rfl))) e_str))))))))))))) ?_) (fun v H' _ _ hv => hq v H' hv)
  all_goals clear hLs hLd ty0 ty1 ty2 ty3 ty4 ty5 ty6 ty7 ty8 ty9 ty10 ty11 ty12 ty13 ok0 ok1 ok2 ok3 ok4 ok5 ok6 ok7 ok8 ok9 ok10 ok11 ok12 ok13 hn0 hn1 hn2 hn3 hn4 hn5 hn6 hn7 hn8 hn9 hn10 hn11 hn12 hn13 hb0 hall hN
  all_goals try (first | exact good_one | exact g1 | exact g2 | rfl | exact ⟨trivial, trivial, trivial, trivial⟩ | exact (by decide : (1 : Nat) ≤ 1000) | exact ⟨good_one, g1⟩ | exact ⟨good_one, g2⟩)
  · exact ⟨Nat.zero_le _, fun _ => ⟨Nat.zero_le _, List.nodup_nil, fun p hp => (nomatch hp)⟩⟩
  · show (datTup datStr).ok (mNest [])
    rw [nest_nil]
    exact fun n hn => (nomatch hn)
  · exact fun n hn => (nomatch hn)
  · show (([] : List Int).isEmpty && (decide ((30 : Int) = 30) && (decide ((mHeight oneP, mWidth oneP, mOut oneP, mHolds oneP) = (3, 10, 75, 32)) && (mRoom oneP ("b", [(4, 2)], 1, redC) && (!(mRoom oneP ("b", [(4, 3)], 1, redC)) && (decide (mNest [] = []) && decide (redC.name = "red"))))))) = true
    rw [nest_nil]
    decide +kernel
end
end KH


set_option Elab.async false
set_option linter.all false
set_option maxRecDepth 100000
set_option maxHeartbeats 0
namespace KH
open PySem PySem.Spec PyProof.Rows L2
def KeepsLaw : Prop := ∀ (w : World) (mg : Str → Option Value) (fa' : Addr) (h : Heap) (K : PySem.W.Frag), K.In h → He.SaysX fa fn ts tf ex w h K → h.Ns mainGlobals mg → mg "law" = some (.ref fa') →
  LamX.LawAtS PySem.Challenge.rw_kilnstack_k03_pots_in_pots w K (L2.CX PySem.Challenge.rw_kilnstack_k03_pots_in_pots.prog w) 40 63 "script" mg fa' h
end KH
open PySem PySem.W PySem.Calls PyProof.Rows
theorem holds_of (kl : KH.KeepsLaw) : PySem.Challenge.rw_kilnstack_k03_pots_in_pots.Holds := by
  w_on; o_law
  refine HandSHeadRun.head_any (r := OpenLaw.row PySem.Challenge.rw_kilnstack_k03_pots_in_pots) (q := view (OpenLaw.row PySem.Challenge.rw_kilnstack_k03_pots_in_pots).prog [20]) (H := KH.hk) (ob := KH.ob) (M := 4000) (d := HandSHeadRun.topDef (OpenLaw.row PySem.Challenge.rw_kilnstack_k03_pots_in_pots).prog 20) (kwd := []) KH.ob_eq
    (by kernel_rfl) (fun s => by kernel_rfl) KH.run (by kernel_rfl) (by kernel_rfl) (by kernel_rfl) (by rfl) (by first | assumption | decide +kernel) (by decide +kernel) ⟨rfl, rfl, rfl, rfl, rfl, by decide +kernel⟩ ?hw ?hc
  case hw => w_witness2
  case hc =>
    refine LamX.walk_ofTsE (l := PySem.Challenge.rw_kilnstack_k03_pots_in_pots) (n := 63) (k := 40) (x := "script") (CX := fun w => L2.CX PySem.Challenge.rw_kilnstack_k03_pots_in_pots.prog w) rfl (by decide) (by kernel_rfl) ⟨rfl, by decide, by decide⟩ ?F ?C
    · intro w mg fa h Y G hmg0
      obtain ⟨K, KX, c⟩ := Y
      have hmg : mg ("law" : PySem.Str) = some (.ref fa) := by
        have e : (HandSHeadRun.topDef (OpenLaw.row PySem.Challenge.rw_kilnstack_k03_pots_in_pots).prog 20).name = ("law" : PySem.Str) := by kernel_rfl
        rw [← e]
        exact hmg0
      exact ⟨K, KX, kl w mg fa h K KX c G hmg⟩
    · intro w H s e s' z
      obtain ⟨_, _, _, _, _, _, _, _, _, _, _, _, z⟩ := z
      exact z

set_option Elab.async false
set_option linter.all false
set_option maxRecDepth 100000
set_option maxHeartbeats 1000000
namespace KH
open PySem PySem.Spec PyProof.Rows L2 TP LM
theorem tfg_sub {p : He.Defn} (h : p ∈ tfg) : p ∈ tf := by
  have e : tf = tfg ++ [(("law", none) : He.Defn)] := rfl
  rw [e]
  exact List.mem_append_left _ h
theorem keeps : KeepsLaw := fun w mg fa' h K KX c G hmg => by
  have T : Top w K mg := ⟨h, KX, G, c⟩
  have e : fa' = He.ga K "law" := by
    have e := g_law T
    rw [hmg] at e
    injection e with e
    injection e
  subst e
  have i2 : He.cT K ("law", none) ∈ tf.map (He.cT K) := List.mem_map.mpr ⟨_, by unfold tf; simp, rfl⟩
  refine ⟨fdOf K d_law.at_, tf.map (He.cT K), spLaw K, fun p hp => ?_, fun p hp => ?_, fun p hp => ?_, fun s u => ?_, fun H a ns h1 h2 h3 h4 => ?_, fun base hb hg ht => ?_⟩
  · obtain ⟨q, hq, rfl⟩ := List.mem_map.mp hp
    exact c.empty q hq
  · obtain ⟨q, hq, rfl⟩ := List.mem_map.mp hp
    exact c.out q hq
  · obtain ⟨q, hq, rfl⟩ := List.mem_map.mp hp
    exact PySem.W.codeHd_of_K KX (c.hd q hq)
  · obtain ⟨oc, od, kV, doc, pm, an, ct, osl, e, _⟩ := (D_law T).ex
    rw [e]
    exact BindsTo.of_eq rfl
  · refine ⟨a, ns, rfl, h4, fun p hp => ?_, fun v H' z => z⟩
    obtain ⟨q, hq, rfl⟩ := List.mem_map.mp hp
    exact h3 _ (List.mem_map.mpr ⟨q, hq, rfl⟩)
  · refine (ok_law T ⟨fun p hp => ?_, fun p hp => List.mem_map.mpr ⟨p, hp, rfl⟩⟩ (ht _ i2)).mono (by decide)
    have t1 := ht _ (List.mem_map.mpr ⟨p, tfg_sub hp, rfl⟩)
    exact ⟨t1.code, t1.bm, t1.gP⟩
end KH
theorem PySem.Challenge.cw_kilnstack_k03_pots_in_pots_holds : PySem.Challenge.rw_kilnstack_k03_pots_in_pots.Holds :=
  holds_of KH.keeps
