import PyProof.Rows.All
import Wide.All
import OpenK.AllK
import Wide.FinOn
import HandS.ForMost
import HandS.Exc
import HandS.GenList
import HandS.Lambda
import PyProof.GenQ
import KE.KNest
import HandS.AnyAll
import PyProof.TupleOfGen
import HandS.ForExc
import HandS.Walk
import HandS.Zip
import HandS.TupAny
import HandS.Wide
import HandS.Deep
import HandS.Style
import HandS.More
import HandS.ListItems
import KE.SortData
import PyProof.ConsumeS
import PyProof.SumWalkG
import PyProof.Transfer
import HandS.EndTab
import HandS.DictComp
import HandS.MapJoin
import HandS.Strs
import HandS.Text
import KE.DataMinMax
import HandS.Defaults
import KE.KNestM
import PySem.Challenge.RW_tonguesmith_k08_numbers_as_words
import PyProof.P3Eq
section
set_option Elab.async false
set_option linter.all false
set_option maxRecDepth 100000
set_option maxHeartbeats 2000000
/-! G1: exceptions in flight over blocks and generators; the turns of a generator expression. -/
namespace GX
open PySem PySem.Spec PyProof.Rows L2 GenW

/-- as UB, the records at ex may have turned -/
structure UBx (fs ex : List Addr) (H H' : Hp) (h B h' : Heap) : Prop where
  keep : ∀ b o, h.get? b = some o → H b = none → b ∉ fs → b ∉ ex → B.get? b = some o
  slot : ∀ b o, h.get? b = some o → b ∈ fs → ∃ sl, h'.get? b = some { o with slots := sl }
  free : ∀ b o, h.get? b = some o → H b = none → b ∉ ex → H' b = none
  there : ∀ b o, h.get? b = some o → b ∉ fs → b ∉ ex → ∃ o', B.get? b = some o'
  tups : ∀ b xs, H b = some (.tup xs) → H' b = some (.tup xs)
  frzs : ∀ b o xs, H b = some (.frz o xs) → H' b = some (.frz o xs)
  tbls : ∀ b ps, H b = some (.tbl ps) → ∃ more, H' b = some (.tbl (ps ++ more))
/-- an exception has left a frame that was entered at s -/
def CXx (P : Program) (w : World) (outer : List Env) (ex : List Addr) (H : Hp) (s : Shared) (E : XK) (u : Value) (s' : Shared) : Prop :=
  ∃ (a : Addr) (B : Heap) (H' : Hp) (cls : Value) (d : Option Addr), u = .ref a ∧ HandSPX.FlyingZ B outer a (Zc cls d) s'.heap ∧ HOk P w H' B ∧ UBx (frs outer) ex H H' s.heap B s'.heap ∧ H' a = none ∧ s'.os = s.os ∧ AllBare s'.gens ∧ E cls d H'
theorem CXx.of {P : Program} {w : World} {outer : List Env} {H : Hp} {s : Shared} {E : XK} {u : Value} {s' : Shared} (c : CX P w outer H s E u s') : CXx P w outer [] H s E u s' := by
  obtain ⟨a, B, H', cls, d, e, fl, ok, ub, r⟩ := c
  exact ⟨a, B, H', cls, d, e, fl, ok, ⟨fun b o e n hb _ => ub.keep b o e n hb, ub.slot, fun b o e n _ => ub.free b o e n, fun b o e hb _ => ub.there b o e hb, ub.tups, ub.frzs, ub.tbls⟩, r⟩

/-- in flight over the frames of X -/
def XF (X : Cx) (E : XK) (u : Value) (s' : Shared) : Prop :=
  ∃ (a : Addr) (B : Heap) (sI : Shared) (pins : List (Addr × Obj)) (σ : L2.St) (H : Hp) (cls : Value) (d : Option Addr),
    u = .ref a ∧ Inv X pins σ H sI ∧ (∀ b o, sI.heap.get? b = some o → b ∉ frs X.stack → B.get? b = some o) ∧ sI.heap.UpToSlots s'.heap ∧
      HandSPX.FlyingZ B X.stack a (Zc cls d) s'.heap ∧ H a = none ∧ s'.os = sI.os ∧ AllBare s'.gens ∧ E cls d H
def TakesF (X : Cx) (E : XK) : Prop := ∀ u s', XF X E u s' → X.xe u s'
theorem TakesF.of {X : Cx} {E : XK} (t : Takes X (fun cls d _ H => E cls d H)) : TakesF X E := fun u s' ⟨a, B, sI, pins, σ, H, cls, d, e, I, nb, up, fl, na, os, ag, w⟩ =>
  t u s' ⟨a, B, sI, pins, σ, H, cls, d, e, I, nb, up, .inr (.inl fl), na, os, ag, w⟩
theorem TakesF.imp {X : Cx} {E E' : XK} (t : TakesF X E) (h : ∀ c d H, E' c d H → E c d H) : TakesF X E' := fun u s' ⟨a, B, sI, pins, σ, H, cls, d, e, I, nb, up, fl, na, os, ag, w⟩ =>
  t u s' ⟨a, B, sI, pins, σ, H, cls, d, e, I, nb, up, fl, na, os, ag, h _ _ _ w⟩
theorem takesF0 {X : Cx} : TakesF X (fun _ _ _ => False) := fun _ _ x => by
  obtain ⟨_, _, _, _, _, _, _, _, _, _, _, _, _, _, _, _, z⟩ := x
  exact z.elim
/-- these may turn amid a run that X began -/
def ExOk (X : Cx) (pins : List (Addr × Obj)) (ex : List Addr) : Prop := ∀ b ∈ ex, (b ∈ X.ex ∨ X.s_0.heap.objs.size ≤ b) ∧ b ≠ X.env.locals ∧ (∀ x c, X.env.cells.lookup x = some c → c ≠ b) ∧ ∀ p ∈ X.pn ++ pins, p.1 ≠ b
section
variable {X : Cx} {pins : List (Addr × Obj)} {σ : L2.St} {H : Hp} {sI s s' : Shared} {E : XK}
/-- a call's exception is in our air -/
theorem XF.of_call {ex : List Addr} (hex : ExOk X pins ex) (I : Inv X pins σ H s) {u : Value} (c : CXx X.prog X.w X.stack ex H s E u s') : XF X E u s' := by
  obtain ⟨a, B, H', cls, d, rfl, fl, hok, ub, na, os, ag, hE⟩ := c
  obtain ⟨G, g1, g2⟩ := restrict s'.heap fun b => (B.get? b).isSome || decide (b ∈ frs X.stack)
  have st : B.StaysIn s'.heap := fl.1
  have gB : ∀ b o, B.get? b = some o → G.get? b = some o := fun b o e => by
    rw [g1 b (by simp [e])]
    exact st b o e
  have gF : ∀ b, b ∈ frs X.stack → G.get? b = s'.heap.get? b := fun b hb => g1 b (by simp [hb])
  have og : ∀ b o, G.get? b = some o → s'.heap.get? b = some o ∧ ((B.get? b).isSome = true ∨ b ∈ frs X.stack) := fun b o e => by
    cases q : ((B.get? b).isSome || decide (b ∈ frs X.stack)) with
    | false => rw [g2 b q] at e; cases e
    | true =>
      rw [g1 b q] at e
      exact ⟨e, by simpa [Bool.or_eq_true] using q⟩
  refine ⟨a, B, { s with heap := G, gens := s'.gens, drawn := s'.drawn, toks := s'.toks }, pins, σ, H', cls, d, rfl, ?_, fun b o e hb => ?_, Heap.UpToSlots.of_keeps fun b o e => (og b o e).1, fl, na, os, ag, hE⟩
  · refine I.call (ch := ex) ⟨fun b o e n hb hx => gB b o (ub.keep b o e n hb hx), fun b o e n hb hx => ?_, fun b o e n hx => ub.free b o e n hx, fun b o e hx => ?_, ub.tups, ub.frzs, ub.tbls⟩ (hok.kept gB) ag hex
    · obtain ⟨sl, q⟩ := ub.slot b o e hb
      exact ⟨sl, by rw [gF b hb]; exact q⟩
    · by_cases hb : b ∈ frs X.stack
      · obtain ⟨sl, q⟩ := ub.slot b o e hb
        exact ⟨_, by rw [gF b hb]; exact q⟩
      · obtain ⟨o', q⟩ := ub.there b o e hb hx
        exact ⟨o', gB b o' q⟩
  · obtain ⟨e', h⟩ := og b o e
    rcases h with h | h
    · obtain ⟨o', q⟩ := Option.isSome_iff_exists.mp h
      have z := st b o' q
      rw [e'] at z; cases z
      exact q
    · exact absurd h hb
theorem ExOk.nil : ExOk X pins [] := fun b hb => by simp at hb
/-- 04's Passes, by flight -/
theorem passes_F (tk : TakesF X E) : Passes (L2.CX X.prog X.w) X E :=
  fun pins σ H s e s' I c => tk e s' (XF.of_call ExOk.nil I (CXx.of c))
/-- it leaves a generator's frame -/
theorem XF.leave (hs : X.stack = X.env :: X.outer) (hf : X.env.frame = some X.env.locals) {E₁ : Value → Shared → Prop} {u : Value} (x : XF X E u s') :
    wpAny (model X.prog X.w) X.A (leaving X.env u) (fun _ s'' => CXx X.prog X.w X.outer X.ex X.H_0 X.s_0 E u s'' ∧ ∀ p ∈ X.pn, s''.heap.get? p.1 = some p.2) E₁ s' := by
  obtain ⟨a, B, sI, pins, σ, H, cls, d, rfl, I, nb, up, fl, na, os, ag, w⟩ := x
  have hfr : X.A.frames = some (X.env :: X.outer) := by rw [I.ok.frames, hs]
  have nst : ∀ b o, X.s_0.heap.get? b = some o → b ∉ X.fs → b ∉ frs X.stack := fun b o e hb hm => by
    rcases List.mem_cons.mp (I.stkSub b hm) with z | z
    · have h1 := Heap.lt_size e
      have h2 := I.ok.above
      rw [z] at h1
      exact absurd (Nat.lt_of_lt_of_le h1 h2) (Nat.lt_irrefl _)
    · exact hb z
  have hokB := I.inGround nb
  have pinB : ∀ p ∈ X.pn, B.get? p.1 = some p.2 := fun p hp => by
    obtain ⟨h1, _, h3, h4, _⟩ := I.pin p (List.mem_append_left _ hp)
    refine nb p.1 p.2 h1 fun hm => ?_
    rcases List.mem_cons.mp (I.stkSub p.1 hm) with z | z
    · exact h3 z
    · exact h4 z
  rw [hs] at fl
  refine HandSPX.leaves_onZ Zc.steady hfr hf fl fun h' fl' up' => ?_
  refine ⟨⟨a, B, H, cls, d, rfl, fl', hokB, ⟨fun b o e n hb hx => nb b o (I.base.keep b o e n hb hx) (nst b o e hb), fun b o e hb => ?_, fun b o e n hx => I.base.free b o e n hx, fun b o e hb hx => ?_, I.base.tups, I.base.frzs, I.base.tbls⟩,
    na, os.trans I.os, ag, w⟩, fun p hp => fl'.1 p.1 p.2 (pinB p hp)⟩
  · obtain ⟨_, o₀, e₀, hnf⟩ := I.ok.funs.mem hb
    rw [e] at e₀; cases e₀
    obtain ⟨sl, e1⟩ := I.base.slot b o e (I.ok.frf b hb) hb fun z => I.ok.exfs b z hb
    obtain ⟨sl2, e2⟩ := up b _ e1 hnf
    obtain ⟨sl3, e3⟩ := up' b _ e2 hnf
    exact ⟨sl3, e3⟩
  · obtain ⟨o', e1⟩ := I.base.there b o e hx
    exact ⟨o', nb b o' e1 (nst b o e hb)⟩
end
end GX
end

section
set_option Elab.async false
set_option linter.all false
set_option maxRecDepth 100000
set_option maxHeartbeats 2000000
/-! G2: the context of a generator expression's frame, its start, its turns. -/
namespace GX
open PySem PySem.Spec PyProof.Rows L2 GenW

theorem over_gen {A : Around} {elt : Expr} {gs : List Comprehension} {scope : Scope} {pos : Pos} {it acc : Value} {env : Env} :
    A.over (.compLoop (.GeneratorExp elt gs scope pos) 0 it acc env) [] = A.deeper env := by
  first
    | rfl
    | (obtain ⟨hd, d, fr, gs, u⟩ := A; simp [Around.over, Around.deeper, marksOver, frameCount, unitsOf, envsOf, guardsOf, pushEnvs, pushGuards, Code.envs, Code.env?, Code.isFrame, Code.guards, Code.isGuard, Code.weight, Code.frames, Code.isCreation, Code.isCaller, Code.cUnits])
theorem over_genS {A : Around} {elt : Expr} {gs : List Comprehension} {scope : Scope} {pos : Pos} {it acc : Value} {env : Env} :
    A.over (.compStart (.GeneratorExp elt gs scope pos) 0 it acc env) [] = A.deeper env := by
  first
    | rfl
    | (obtain ⟨hd, d, fr, gs, u⟩ := A; simp [Around.over, Around.deeper, marksOver, frameCount, unitsOf, envsOf, guardsOf, pushEnvs, pushGuards, Code.envs, Code.env?, Code.isFrame, Code.guards, Code.isGuard, Code.weight, Code.frames, Code.isCreation, Code.isCaller, Code.cUnits])

abbrev gxEnv (X : Cx) (s : Shared) (scope : Scope) (code : Value) : Env := genEnv scope (cloFrom X.env.cells scope.names []) s.heap.objs.size code builtinsNs X.env
/-- the context of the generator's frame: made in X at s, woken in A; fp: the objects of the iterator that it walks; pn: its own object -/
def gxCx (X : Cx) (A : Around) (s : Shared) (H : Hp) (E : XK) (scope : Scope) (code : Value) (fp : List Addr) (pn : List (Addr × Obj)) : Cx where
  prog := X.prog
  w := X.w
  K := X.K
  mg := X.mg
  base := X.base
  A := A.deeper (gxEnv X s scope code)
  N := X.N
  s_0 := s
  H_0 := H
  env := gxEnv X s scope code
  outer := X.stack
  stack := gxEnv X s scope code :: X.stack
  ex := fp
  fn := fun _ => false
  calm := true
  pn := pn
  xe := fun e s' => wpAny (model X.prog X.w) (A.deeper (gxEnv X s scope code)) (leaving (gxEnv X s scope code) e) (fun _ s'' => CXx X.prog X.w X.stack fp H s E e s'' ∧ ∀ p ∈ pn, s''.heap.get? p.1 = some p.2) (fun _ _ => False) s'
theorem takes_gx {X : Cx} {A : Around} {s : Shared} {H : Hp} {E : XK} {scope : Scope} {code : Value} {fp : List Addr} {pn : List (Addr × Obj)} : TakesF (gxCx X A s H E scope code fp pn) E := fun u s' x =>
  XF.leave (X := gxCx X A s H E scope code fp pn) rfl rfl x

/-- the generator's scope: no cell of its own, the walked thing at «.0» -/
structure GOk (N : List Str) (sc scope : Scope) (own : List (Str × Nat)) : Prop extends BlkOk N sc scope own where
  co : scope.isCoroutine = false
  cell : ∀ y ∈ scope.names, y.2 ≠ .cell
  dot : scope.names.lookup (".0" : Str) = some NameKind.local
section
variable {X : Cx} {pins : List (Addr × Obj)} {σ : L2.St} {H : Hp} {s s2 : Shared}
/-- what is young stands apart from X -/
theorem Inv.young (I : Inv X pins σ H s) {b : Addr} (h : s.heap.objs.size ≤ b) : H b = none ∧ b ≠ X.env.locals ∧ b ∉ X.fs ∧ b ∉ frs X.stack ∧ X.s_0.heap.objs.size ≤ b ∧ ∀ x c, X.env.cells.lookup x = some c → c ≠ b := by
  have h1 : b ≠ X.env.locals := Nat.ne_of_gt (Nat.lt_of_lt_of_le I.lt h)
  refine ⟨I.hok.fresh h, h1, I.nofs h, fun z => ?_, Nat.le_trans I.sz h, fun x c e z => ?_⟩
  · rcases List.mem_cons.mp (I.stkSub b z) with z | z
    · exact h1 z
    · exact I.nofs h z
  · obtain ⟨v, q⟩ := I.cell x c e
    exact absurd (Nat.lt_of_lt_of_le q.lt (by rw [z]; exact h)) (Nat.lt_irrefl _)
theorem gx_start {A : Around} {E : XK} {scope : Scope} {own : List (Str × Nat)} {code it : Value} {fp : List Addr} {pn pS : List (Addr × Obj)} {h' : Heap} (I : Inv X pins σ H s) (ok : GOk X.N X.env.scope scope own) (hN : X.N.Nodup)
    (hd : A.handled = none) (hfr : A.frames = some X.stack) (hfp : ∀ b ∈ fp, FpOk X pins H b ∧ b < s.heap.objs.size)
    (hns : h'.Ns s.heap.objs.size (fun y => if y = ".0" then some it else none)) (hsb : Heap.SameBut s.heap.objs.size (s.heap.push { cls := .type "frame", data := .dict #[] }) h')
    (hos : s2.os = s.os) (hba : AllBare s2.gens) (hk2 : ∀ b o, h'.get? b = some o → s2.heap.get? b = some o) (hpn : ∀ p ∈ pn ++ pS, s2.heap.get? p.1 = some p.2 ∧ s.heap.objs.size < p.1 ∧ ∀ v, p.2.data ≠ .cell v) :
    Inv (gxCx X A s H E scope code fp pn) pS (wipe σ (own.map (·.2))) H s2 := by
  have kp' : ∀ b o, s.heap.get? b = some o → h'.get? b = some o := fun b o e => hsb.extBut b o (Nat.ne_of_lt (Heap.lt_size e)) (Heap.get?_push_of_some _ e)
  have kp : ∀ b o, s.heap.get? b = some o → s2.heap.get? b = some o := fun b o e => hk2 b o (kp' b o e)
  have hfree : ∀ y ∈ scope.names, y.2 = .free → ∃ c, X.env.cells.lookup y.1 = some c := fun y hy e => by
    rcases ok.free y hy e with k | k
    · exact I.ok.has _ (.inl k)
    · exact I.ok.has _ (.inr k)
  have cm : ∀ {y c}, (cloFrom X.env.cells scope.names []).lookup y = some c → X.env.cells.lookup y = some c := fun {y c} e => by
    rcases cloFrom_mem (PySem.mem_of_lookup e) with hm | ⟨h1, h2⟩
    · cases hm
    · obtain ⟨c1, hc⟩ := hfree _ h1 rfl
      have hc : X.env.cells.lookup y = some c1 := hc
      have e2 : c = c1 := by
        rw [h2, hc] <;> rfl
      rw [e2]
      exact hc
  have look : ∀ {y}, scope.names.lookup y = some .free → ∃ c, (cloFrom X.env.cells scope.names []).lookup y = some c := fun {y} hl => by
    have hy : (y, NameKind.free) ∈ scope.names := PySem.mem_of_lookup hl
    exact mem_lookup (cloFrom_has (cells := X.env.cells) (acc := []) hy)
  refine ⟨⟨I.ok.mod, ok.kind, I.ok.glob, rfl, Nat.le_refl _, fun y z c e1 e2 => I.ok.inj y z c (cm e1) (cm e2), fun y hy => ?_, fun y c z _ => ?_, fun _ => hd, Around.frames_deeper hfr, .inr ⟨rfl, rfl⟩, fun b hb => ⟨Nat.ne_of_lt (hfp b hb).2, fun y c e z => ?_⟩,
      I.bs, Nat.le_trans I.ok.bsz I.sz, fun b o e hb => ?_, fun b hb z => ?_, I.stack, I.stkFree⟩,
    hos, hba, Un.kept kp, ⟨_, hns.keeps hk2, fun i y v e1 e2 e3 => ?_⟩, fun y c e => ?_, I.hok.fresh (Nat.le_refl _), fun y c e => I.freeC y c (cm e), fun q hq => ?_, I.hok.kept kp, by rw [wipe_length]; exact I.len⟩
  · have hy : scope.names.lookup y = some .cell ∨ scope.names.lookup y = some .free := hy
    rcases hy with hy | hy
    · exact absurd rfl (ok.cell _ (PySem.mem_of_lookup hy))
    · exact look hy
  · have z : false = true := z
    cases z
  · exact (hfp b hb).1.2.2.2.2.1 y c (cm e) z
  · rcases (hfp b hb).1.2.2.2.1 with z | z
    · exact I.ok.noex b o e z
    · exact absurd (Nat.lt_of_lt_of_le (Heap.lt_size e) (Nat.le_trans I.ok.bsz z)) (Nat.lt_irrefl _)
  · rcases List.mem_cons.mp (I.stkSub b z) with z | z
    · exact (hfp b hb).1.2.1 z
    · exact (hfp b hb).1.2.2.1 z
  · obtain ⟨e2, hne⟩ := wipe_some e2
    have no : ∀ k, scope.names.lookup y = some k → ¬ (k = .local ∨ k = .cell) := fun k hk hh => by
      rcases ok.own _ (PySem.mem_of_lookup hk) hh with e' | e'
      · obtain ⟨p, hp, hpy⟩ := List.mem_map.mp e'
        have e4 := ok.ix p hp
        have : p.1 = y := hpy
        rw [this] at e4
        exact hne (List.mem_map.mpr ⟨p, hp, nodup_ix hN e4 e1⟩)
      · exact e' (List.mem_of_getElem? e1)
    have e3 : Vis scope y := e3
    rcases e3 with k | k | k
    · exact absurd (.inl rfl) (no _ k)
    · exact absurd (.inr rfl) (no _ k)
    · obtain ⟨m, hn, hl⟩ := I.loc
      have hvis : Vis X.env.scope y := (ok.free _ (PySem.mem_of_lookup k) rfl).elim (fun k => .inr (.inl k)) (fun k => .inr (.inr k))
      obtain ⟨w', r, q⟩ := hl i y v e1 e2 hvis
      obtain ⟨c2, h2⟩ := look k
      refine ⟨w', r, .inr ⟨.inr k, c2, h2, ?_⟩⟩
      have c1 := cm h2
      rcases q with ⟨k', _⟩ | ⟨_, c3, e', z⟩
      · have k' : X.env.scope.names.lookup y = some .local := k'
        rcases ok.free _ (PySem.mem_of_lookup k) rfl with k2 | k2 <;> rw [show X.env.scope.names.lookup y = _ from k2] at k' <;> cases k'
      · rw [c1] at e'
        cases e'
        exact z.keeps kp
  · obtain ⟨w', z⟩ := I.cell y c (cm e)
    exact ⟨w', z.keeps kp⟩
  · obtain ⟨q1, q2, q3⟩ := hpn q hq
    obtain ⟨y1, _, _, y4, _, _⟩ := Inv.young I (Nat.le_of_lt q2)
    exact ⟨q1, y1, Nat.ne_of_gt q2, y4, q3⟩
end

/-! ### the turns -/
/-- the consumer may turn the objects at Ss while the generator sleeps -/
structure Slp (Ss : List Addr) (s s' : Shared) : Prop where
  os : s'.os = s.os
  bare : AllBare s'.gens
  keep : ∀ b o, b ∉ Ss → s.heap.get? b = some o → s'.heap.get? b = some o
  own : ∀ b ∈ Ss, ∃ o, s'.heap.get? b = some o ∧ ∀ v, o.data ≠ .cell v
/-- the consumer's objects stand apart from the generator's frame -/
def ApartS (X : Cx) (Ss : List Addr) : Prop := ∀ S ∈ Ss, X.s_0.heap.objs.size ≤ S ∧ S ≠ X.env.locals ∧ S ∉ X.fs ∧ S ∉ X.ex ∧ (∀ x c, X.env.cells.lookup x = some c → c ≠ S) ∧ ∀ p ∈ X.pn, p.1 ≠ S
/-- the state of the generator's frame between two turns, the consumer's objects pinned as they stand -/
def GSt (X : Cx) (Ss : List Addr) (σ : L2.St) (H : Hp) (s : Shared) : Prop := Inv X (pinsAt Ss s.heap) σ H s ∧ ∀ S ∈ Ss, (∃ o, s.heap.get? S = some o ∧ ∀ v, o.data ≠ .cell v) ∧ H S = none
theorem GSt.woken {X : Cx} {Ss : List Addr} {σ : L2.St} {H : Hp} {s s' : Shared} (hA : ApartS X Ss) (g : GSt X Ss σ H s) (z : Slp Ss s s') : GSt X Ss σ H s' := by
  obtain ⟨I, g2⟩ := g
  obtain ⟨z1, z2, z3, z4⟩ := z
  have I0 : Inv X [] σ H s := I.pins_of fun p hp => absurd hp (by simp)
  have nt : ∀ b u, H b = some u → b ∉ Ss := fun b u q hb => by rw [(g2 b hb).2] at q; cases q
  obtain ⟨hh, gg, d, t, o⟩ := s'
  have ho : o = s.os := z1
  subst ho
  have J : Inv X [] σ H { s with heap := hh, gens := gg, drawn := d, toks := t } := by
    refine I0.step (g' := gg) (t' := t) (d' := d) (ch := Ss) (fun b hb => ?_) (fun b ob _ _ hc q _ => z3 b ob hc q) (fun b ob _ _ hc q _ => ⟨ob.slots, z3 b ob hc q⟩) (fun _ _ _ _ n => n) (fun b ob hc q => ⟨ob, z3 b ob hc q⟩)
      (fun _ _ q => q) (fun _ _ _ q => q) (fun b ps q => ⟨#[], by rw [q]; simp⟩) (fun m hm => ?_) (fun b u q => ?_) z2
    · obtain ⟨a1, a2, a3, a4, a5, a6⟩ := hA b hb
      exact ⟨.inr a1, a2, a5, fun p hp => a6 p (by rw [List.append_nil] at hp; exact hp)⟩
    · obtain ⟨ob, es, ep, ho, r⟩ := hm
      exact ⟨ob, es, ep, z3 _ ob (fun hb => (hA _ hb).2.1 rfl) ho, r⟩
    · refine (I0.hok b u q).stay (fun c v hc y => z3 c v ?_ y) (fun _ y => y) fun _ _ y => y
      rcases hc with y | y
      · rw [y]; exact nt b u q
      · exact nt c _ y
  refine ⟨J.pins_of fun p hp => ?_, fun S hS => ⟨z4 S hS, (g2 S hS).2⟩⟩
  obtain ⟨hb, e⟩ := of_pinsAt hp
  obtain ⟨o, e', nd⟩ := z4 p.1 hb
  have ee : p.2 = o := by
    have := e.symm.trans e'
    exact Option.some.inj this
  exact ⟨e, (g2 p.1 hb).2, (hA p.1 hb).2.1, (hA p.1 hb).2.2.1, by rw [ee]; exact nd⟩

/-- what is wanted of the walk: W by what is out, the turn and a measure; Fin at the end; Yd at each item that is handed out -/
def GWalk (J : It) (σ0 : L2.St) (vs : List Nat) (g : TG) (tt : TT) (te : TE) (Fin : List V → Hp → Prop) (Yd : List V → V → Hp → Prop → Prop) (W : List V → Nat → Nat → Hp → Prop) : Prop :=
  ∀ ys i m H, W ys i m H → (J.stop i H ∧ Fin ys H) ∨ (J.go i H ∧ ∃ Nx : List V → Hp → Prop, (∀ ys' H', Nx ys' H' → ∃ m', m' < m ∧ W ys' (i + 1) m' H') ∧ ∀ x H', J.yld i H x H' → g x σ0 H' fun σ2 H2 => wipe σ2 vs = wipe σ0 vs ∧ tt σ2 H2 fun b H3 =>
    if b = true then te σ2 H3 fun y H4 => Yd ys y H4 (Nx (ys ++ [y]) H4) else Nx ys H3)
/-- the end of the generator's run -/
def GRend (X : Cx) (Ss : List Addr) (Tie : List V → Heap → Prop) (E : XK) (Fin : List V → Hp → Prop) : GenEnd := fun n s₀ r s =>
  ((r = .ok (.ret .none) ∨ r = .ok .next) ∧ ∃ ys σ H, GSt X Ss σ H s ∧ Tie ys s.heap ∧ (∀ S ∈ Ss, s.heap.get? S = s₀.heap.get? S) ∧ Fin ys H) ∨ ∃ e, r = .error e ∧ CXx X.prog X.w X.outer X.ex X.H_0 X.s_0 E e s ∧ ∀ p ∈ X.pn, s.heap.get? p.1 = some p.2
/-- an item is handed out -/
def GYld (X : Cx) (Ss : List Addr) (Tie : List V → Heap → Prop) (Yd : List V → V → Hp → Prop → Prop) : Protocol := fun n s₀ v s kap =>
  ∃ ys y σ H, RelV y v ∧ GSt X Ss σ H s ∧ Tie ys s.heap ∧ (∀ S ∈ Ss, s.heap.get? S = s₀.heap.get? S) ∧ Yd ys y H (∀ s', Slp Ss s s' → Tie (ys ++ [y]) s'.heap → kap (.send .none) s')
section
variable {X : Cx} {E : XK} {Ss : List Addr} {Tie : List V → Heap → Prop} {A : Around} {J : It} {σ0 : L2.St} {own : List (Str × Nat)} {g : TG} {tt : TT} {te : TE} {Fin : List V → Hp → Prop} {Yd : List V → V → Hp → Prop → Prop} {W : List V → Nat → Nat → Hp → Prop}
variable {elt tg iter : Expr} {ifs : List Expr} {scope : Scope} {pos : Pos} {it : Addr} {fp : List Addr} {tn : Nat → Heap → Prop}
theorem gx_loop (hA : A.over (.compLoop (.GeneratorExp elt [⟨tg, iter, ifs, 0⟩] scope pos) 0 (.ref it) .none X.env) [] = X.A) (T : Turn X.prog X.w X.K tg J fp it tn) (hc : X.calm = true) (hex : X.ex = fp) (hAp : ApartS X Ss)
    (hxe : X.xe = fun e s' => wpAny (model X.prog X.w) X.A (leaving X.env e) (fun _ s'' => CXx X.prog X.w X.outer X.ex X.H_0 X.s_0 E e s'' ∧ ∀ p ∈ X.pn, s''.heap.get? p.1 = some p.2) (fun _ _ => False) s')
    (hpn : ∀ p ∈ X.pn, p.1 ∉ fp) (hco : X.env.scope.isCoroutine = false) (pg : PG X tg g) (pt : PTs X ifs tt) (pe : PE X elt te) (hYd : ∀ ys y H (P Q : Prop), (P → Q) → Yd ys y H P → Yd ys y H Q) (hTie : ∀ ys h h', (∀ S ∈ Ss, h'.get? S = h.get? S) → Tie ys h → Tie ys h')
    (turn : GWalk J (wipe σ0 (own.map (·.2))) (own.map (·.2)) g tt te Fin Yd W) :
    ∀ (m n i : Nat) (ys : List V) (s₀ s : Shared) (H : Hp), m < n → W ys i m H → GSt X Ss (wipe σ0 (own.map (·.2))) H s → Tie ys s₀.heap → (∀ S ∈ Ss, s.heap.get? S = s₀.heap.get? S) → tn i s.heap → (∀ b ∈ fp, H b = none) →
      Seg (model X.prog X.w) A (GRend X Ss Tie E Fin) (GYld X Ss Tie Yd) n s₀ (.compLoop (.GeneratorExp elt [⟨tg, iter, ifs, 0⟩] scope pos) 0 (.ref it) .none X.env)
        ((model X.prog X.w).den (.compLoop (.GeneratorExp elt [⟨tg, iter, ifs, 0⟩] scope pos) 0 (.ref it) .none X.env)) [] s := by
  have leave : ∀ {n : Nat} {s₀ s' : Shared} {x : Value}, X.xe x s' → Seg (model X.prog X.w) A (GRend X Ss Tie E Fin) (GYld X Ss Tie Yd) n s₀ (.compLoop (.GeneratorExp elt [⟨tg, iter, ifs, 0⟩] scope pos) 0 (.ref it) .none X.env)
      ((leaving X.env x).wrap (fun _ => .raise x) .raise id id) [] s' := fun {n s₀ s' x} hx => by
    refine seg_wrap ?_
    rw [hA]
    rw [hxe] at hx
    refine wpAny_mono hx (fun _ s'' q => ?_) fun _ s'' q => q.elim
    exact seg_end (.error x) (.inr ⟨x, rfl, q.1, q.2⟩)
  have leaveB : ∀ {n : Nat} {s₀ s' : Shared} {x : Value}, X.xe x s' → Seg (model X.prog X.w) A (GRend X Ss Tie E Fin) (GYld X Ss Tie Yd) n s₀ (.compLoop (.GeneratorExp elt [⟨tg, iter, ifs, 0⟩] scope pos) 0 (.ref it) .none X.env)
      ((leaving X.env x).bind (fun _ => .raise x)) [] s' := fun {n s₀ s' x} hx => by
    rw [Sem.bind_eq_wrap]
    exact leave hx
  intro m
  induction m using Nat.strongRecOn with
  | _ m ih =>
  intro n i ys s₀ s H hmn w hG ht0 hSs st hn
  obtain ⟨I, hS⟩ := hG
  have stat : ∀ {pins : List (Addr × Obj)} {σ' : L2.St} {H' : Hp} {s' : Shared}, Inv X pins σ' H' s' → (∀ p ∈ pins, p.1 ∈ Ss) → (∀ b ∈ fp, H' b = none) → ∀ b ∈ fp, FpOk X pins H' b := fun {pins σ' H' s'} I' hp hn b hb =>
    ⟨hn b hb, (I'.ok.exf b (by rw [hex]; exact hb)).1, I'.ok.exfs b (by rw [hex]; exact hb), .inl (by rw [hex]; exact hb), fun x c e => (I'.ok.exf b (by rw [hex]; exact hb)).2 x c e, fun p hpp => by
      rcases List.mem_append.mp hpp with z | z
      · exact fun e => hpn p z (by rw [e]; exact hb)
      · exact fun e => (hAp p.1 (hp p z)).2.2.2.1 (by rw [hex, e]; exact hb)⟩
  have inS : ∀ (h : Heap), ∀ p ∈ pinsAt Ss h, p.1 ∈ Ss := fun h p hp => (of_pinsAt hp).1
  show Seg _ A _ _ _ s₀ _ ((compTurn (.GeneratorExp elt [⟨tg, iter, ifs, 0⟩] scope pos) 0 (.ref it) .none X.env).onRaise (leaving X.env)) [] s
  rw [compTurn_gen, Sem.onRaise_eq_wrap]
  refine seg_bind_wrap (wpAny_standAt ?_)
  refine seg_bind_wrap ?_
  rw [hA]
  rcases turn ys i m H w with ⟨stop, fin⟩ | ⟨go, Nx, hNx, step⟩
  · refine wpAny_mono (T.done X rfl rfl rfl hc i _ s _ H (fun _ _ => False) I (stat I (inS _) hn) st stop) (fun r s6 ⟨hr, I6⟩ => ?_) fun _ _ z => z.elim
    subst hr
    have G6 : GSt X Ss (wipe σ0 (own.map (·.2))) H s6 := by
      refine ⟨I6.pins_of fun p hp => ?_, fun S hS' => ?_⟩
      · obtain ⟨hb, e⟩ := of_pinsAt hp
        obtain ⟨o, e0, nd⟩ := (hS p.1 hb).1
        obtain ⟨q1, q2, q3, q4, q5⟩ := I6.pin (p.1, o) (List.mem_append_right _ (mem_pinsAt hb e0))
        have q1 : s6.heap.get? p.1 = some o := q1
        have ee : p.2 = o := Option.some.inj (e.symm.trans q1)
        exact ⟨e, q2, q3, q4, by rw [ee]; exact nd⟩
      · obtain ⟨o, e0, nd⟩ := (hS S hS').1
        obtain ⟨q1, q2, _⟩ := I6.pin (S, o) (List.mem_append_right _ (mem_pinsAt hS' e0))
        exact ⟨⟨o, q1, nd⟩, q2⟩
    have same6 : ∀ S ∈ Ss, s6.heap.get? S = s₀.heap.get? S := fun S hS' => by
      obtain ⟨o, e0, nd⟩ := (hS S hS').1
      rw [← hSs S hS', e0]
      exact (I6.pin (S, o) (List.mem_append_right _ (mem_pinsAt hS' e0))).1
    exact seg_end (.ok .next) (.inl ⟨.inr rfl, ys, _, _, G6, hTie _ _ _ same6 ht0, same6, fin⟩)
  · refine wpAny_mono (T.item X rfl rfl rfl hc i _ s _ H (fun _ _ => False) I (stat I (inS _) hn) st go) (fun r s6 ⟨u, hr, h6⟩ => ?_) fun _ _ z => z.elim
    subst hr
    refine seg_bind_wrap ?_
    rw [hA]
    refine wpAny_mono h6 (fun _ s7 ⟨x, H7, I7, r7, y7, st7, n7⟩ => ?_) fun _ _ z => z.elim
    have I7' := I7.pinned (stat I7 (inS _) n7) (T.obj _ _ st7)
    refine seg_bind_wrap ?_
    rw [hA]
    refine wpAny_mono (pg.run _ s7 _ H7 x u _ I7' r7 (step x H7 y7)) (fun _ s8 ⟨σ8, H8, I8, hw8, q8⟩ => ?_) fun x s' hx => by first | exact leave hx | exact leaveB hx
    refine seg_bind_wrap ?_
    rw [hA]
    refine wpAny_mono (pt.run _ s8 σ8 H8 _ I8 q8) (fun b s9 ⟨H9, I9, q9⟩ => ?_) fun x s' hx => by first | exact leave hx | exact leaveB hx
    -- the generator's state at a turn's end
    have hw8' : wipe σ8 (own.map (·.2)) = wipe σ0 (own.map (·.2)) := by
      rw [hw8]
      have wi : ∀ (vs : List Nat) (σ : L2.St), wipe (wipe σ vs) vs = wipe σ vs := fun vs σ => by
        apply List.ext_getElem?
        intro j
        have key : ∀ (us : List Nat) (τ : L2.St) (j : Nat), (wipe τ us)[j]? = if j ∈ us then (τ[j]?).map (fun _ => none) else τ[j]? := fun us => by
          induction us with
          | nil => intro τ j; simp [wipe]
          | cons v us ih =>
            intro τ j
            show ((wipe τ us).set v none)[j]? = _
            rw [List.getElem?_set]
            by_cases e : v = j
            · subst e
              rw [if_pos rfl, if_pos List.mem_cons_self]
              rw [wipe_length]
              by_cases hl : v < τ.length
              · rw [if_pos hl, List.getElem?_eq_getElem hl]
                rfl
              · rw [if_neg hl, List.getElem?_eq_none (by omega)]
                rfl
            · rw [if_neg e, ih τ j]
              have : (j ∈ v :: us) ↔ j ∈ us := by
                constructor
                · intro h
                  rcases List.mem_cons.mp h with z | z
                  · exact absurd z.symm e
                  · exact z
                · exact List.mem_cons_of_mem _
              by_cases hj : j ∈ us
              · rw [if_pos hj, if_pos (this.mpr hj)]
              · rw [if_neg hj, if_neg fun z => hj (this.mp z)]
        rw [key, key]
        by_cases hj : j ∈ vs
        · rw [if_pos hj, if_pos hj]
          cases σ[j]? <;> rfl
        · rw [if_neg hj]
      exact wi _ _
    have hl8 : (wipe σ0 (own.map (·.2))).length = σ8.length := by rw [← hw8', wipe_length]
    have hk8 : ∀ (j : Nat) v, (wipe σ0 (own.map (·.2)))[j]? = some (some v) → σ8[j]? = some (some v) := fun j v e => by
      rw [← hw8'] at e
      exact (wipe_some e).1
    have fin : ∀ {s' : Shared} {H' : Hp}, Inv X (pinsAt Ss s.heap ++ pinsAt fp s7.heap) σ8 H' s' → GSt X Ss (wipe σ0 (own.map (·.2))) H' s' ∧ tn (i + 1) s'.heap ∧ (∀ b ∈ fp, H' b = none) ∧ ∀ S ∈ Ss, s'.heap.get? S = s₀.heap.get? S := fun {s' H'} I' => by
      have pin' : ∀ b ∈ fp, ∀ o, s7.heap.get? b = some o → s'.heap.get? b = some o ∧ H' b = none := fun b hb o e =>
        let z := I'.pin (b, o) (List.mem_append_right _ (List.mem_append_right _ (mem_pinsAt hb e)))
        ⟨z.1, z.2.1⟩
      have pinS : ∀ S ∈ Ss, ∃ o, s'.heap.get? S = some o ∧ (∀ v, o.data ≠ .cell v) ∧ H' S = none ∧ S ≠ X.env.locals ∧ S ∉ X.fs := fun S hS' => by
        obtain ⟨o, e0, nd⟩ := (hS S hS').1
        obtain ⟨q1, q2, q3, q4, q5⟩ := I'.pin (S, o) (List.mem_append_right _ (List.mem_append_left _ (mem_pinsAt hS' e0)))
        exact ⟨o, q1, nd, q2, q3, q4⟩
      refine ⟨⟨Inv.weak (Inv.pins_of I' fun p hp => ?_) hl8 hk8, fun S hS' => ?_⟩, T.keep _ _ _ st7 fun b hb o e => (pin' b hb o e).1, fun b hb => ?_, fun S hS' => ?_⟩
      · obtain ⟨hb, e⟩ := of_pinsAt hp
        obtain ⟨o, q1, nd, q2, q3, q4⟩ := pinS p.1 hb
        have ee : p.2 = o := Option.some.inj (e.symm.trans q1)
        exact ⟨e, q2, q3, q4, by rw [ee]; exact nd⟩
      · obtain ⟨o, q1, nd, q2, _⟩ := pinS S hS'
        exact ⟨⟨o, q1, nd⟩, q2⟩
      · obtain ⟨o, e, _⟩ := T.obj _ _ st7 b hb
        exact (pin' b hb o e).2
      · obtain ⟨o, e0, nd⟩ := (hS S hS').1
        rw [← hSs S hS', e0]
        exact (I'.pin (S, o) (List.mem_append_right _ (List.mem_append_left _ (mem_pinsAt hS' e0)))).1
    cases b with
    | false =>
      simp only [Bool.false_eq_true, if_false] at q9 ⊢
      obtain ⟨f1, f2, f3, f4⟩ := fin I9
      obtain ⟨m', hm, w'⟩ := hNx ys H9 q9
      exact seg_again rfl (ih m' hm n (i + 1) ys s₀ _ H9 (by omega) w' f1 ht0 f4 f2 f3)
    | true =>
      simp only [if_true] at q9 ⊢
      have hy : ∀ v, yieldOut X.env v = yieldValue v := fun v => by simp only [yieldOut, hco, Bool.false_eq_true, if_false]
      simp only [hy]
      rw [Sem.bind_eq_wrap', Sem.bind_eq_wrap', Sem.wrap_wrap, Sem.wrap_wrap]
      refine seg_wrap ?_
      rw [hA]
      refine wpAny_mono (pe.run _ s9 σ8 H9 _ I9 q9) (fun z s10 ⟨yv, H10, I10, r10, q10⟩ => ?_) fun x s' hx => by first | exact leave hx | exact leaveB hx
      obtain ⟨n, rfl⟩ : ∃ k, n = k + 1 := ⟨n - 1, by omega⟩
      obtain ⟨f1, f2, f3, f4⟩ := fin I10
      refine seg_at (seg_yield rfl rfl rfl ⟨ys, yv, _, H10, r10, f1, hTie _ _ _ f4 ht0, f4, hYd _ _ _ _ _ (fun nx s'' hal ht => ?_) q10⟩)
      obtain ⟨m', hm, w'⟩ := hNx _ _ nx
      refine seg_again rfl (ih m' hm n (i + 1) _ s'' s'' H10 (by omega) w' (f1.woken hAp hal) ht (fun _ _ => rfl) ?_ f3)
      exact T.keep _ _ _ f2 fun b hb o e => hal.keep b o (fun hS' => (hAp b hS').2.2.2.1 (by rw [hex]; exact hb)) e
/-- from the start -/
theorem gx_begin (hA : A.over (.compLoop (.GeneratorExp elt [⟨tg, iter, ifs, 0⟩] scope pos) 0 (.ref it) .none X.env) [] = X.A) (hA2 : A.over (.compStart (.GeneratorExp elt [⟨tg, iter, ifs, 0⟩] scope pos) 0 (.ref it) .none X.env) [] = X.A) (T : Turn X.prog X.w X.K tg J fp it tn) (hc : X.calm = true) (hex : X.ex = fp) (hAp : ApartS X Ss)
    (hxe : X.xe = fun e s' => wpAny (model X.prog X.w) X.A (leaving X.env e) (fun _ s'' => CXx X.prog X.w X.outer X.ex X.H_0 X.s_0 E e s'' ∧ ∀ p ∈ X.pn, s''.heap.get? p.1 = some p.2) (fun _ _ => False) s')
    (hpn : ∀ p ∈ X.pn, p.1 ∉ fp) (hco : X.env.scope.isCoroutine = false) (pg : PG X tg g) (pt : PTs X ifs tt) (pe : PE X elt te) (hYd : ∀ ys y H (P Q : Prop), (P → Q) → Yd ys y H P → Yd ys y H Q) (hTie : ∀ ys h h', (∀ S ∈ Ss, h'.get? S = h.get? S) → Tie ys h → Tie ys h')
    (turn : GWalk J (wipe σ0 (own.map (·.2))) (own.map (·.2)) g tt te Fin Yd W) {m n : Nat} {s : Shared} {H : Hp} (hmn : m < n) (w : W [] 0 m H) (hG : GSt X Ss (wipe σ0 (own.map (·.2))) H s) (ht0 : Tie [] s.heap) (st : tn 0 s.heap) (hn : ∀ b ∈ fp, H b = none) :
    Seg (model X.prog X.w) A (GRend X Ss Tie E Fin) (GYld X Ss Tie Yd) n s (.compStart (.GeneratorExp elt [⟨tg, iter, ifs, 0⟩] scope pos) 0 (.ref it) .none X.env)
        ((model X.prog X.w).den (.compStart (.GeneratorExp elt [⟨tg, iter, ifs, 0⟩] scope pos) 0 (.ref it) .none X.env)) [] s := by
  have loop := gx_loop hA T hc hex hAp hxe hpn hco pg pt pe hYd hTie turn m n 0 [] s s H hmn w hG ht0 (fun _ _ => rfl) st hn
  show Seg _ A _ _ _ s _ ((compStart (.GeneratorExp elt [⟨tg, iter, ifs, 0⟩] scope pos) 0 (.ref it) .none X.env).onRaise (leaving X.env)) [] s
  unfold compStart
  rw [Sem.onRaise_eq_wrap]
  show Seg _ A _ _ _ s _ ((ask >>= _).wrap _ _ _ _) [] s
  refine seg_bind_wrap (wpAny_askSetting ?_)
  split
  · exact seg_again rfl loop
  · first
      | exact seg_bind_wrap (wpAny_rule (seg_bind_wrap (wpAny_standAt (seg_bind_wrap (by rw [hA2]; exact T.self _ 0 s _ _ st (seg_again rfl loop))))))
      | (refine seg_bind_wrap (wpAny_rule ?_); show Seg _ A _ _ _ s _ ((standAt iter.pos >>= _).wrap _ _ _ _) [] s; exact seg_bind_wrap (wpAny_standAt (seg_bind_wrap (by rw [hA2]; exact T.self _ 0 s _ _ st (seg_again rfl loop)))))
end
end GX
end

section
set_option Elab.async false
set_option linter.all false
set_option maxRecDepth 100000
set_option maxHeartbeats 2000000
/-! G3: the code object of a generator expression; the generator made; one pull. -/
namespace GX
open PySem PySem.Spec PyProof.Rows L2 GenW

/-- the code object at c, its table at P -/
def CodeX (c P : Addr) : HO := .ext fun h => PySem.W.CodeHd h c P
theorem codeX_ne {c P : Addr} (ps : Array Value) : CodeX c P ≠ .tbl ps := fun z => by
  unfold CodeX at z
  cases z
/-- S: tables of code objects, each entry of which is a code object whose table is in S -/
def TabsS (S : Addr → Prop) (H : Hp) : Prop := ∀ P, S P → ∃ ps : Array Value, H P = some (.tbl ps) ∧ TriplesOk ps.toList ∧ ∀ (pos : Pos) (cv : Value), codeAmong pos ps.toList = some cv → ∃ c P', cv = .ref c ∧ H c = some (CodeX c P') ∧ S P'
/-- the tables have grown, nothing else has changed -/
structure TabExt (S : Addr → Prop) (H H' : Hp) (S' : Addr → Prop) : Prop where
  sub : ∀ b, S b → S' b
  keep : ∀ b, ¬ S b → H b ≠ none → H' b = H b
  tabs : TabsS S' H'
  new : ∀ b, S' b → ¬ S b → H b = none
  dom : ∀ b, H b ≠ none → H' b ≠ none
theorem TabExt.refl {S : Addr → Prop} {H : Hp} (t : TabsS S H) : TabExt S H H S := ⟨fun _ h => h, fun _ _ _ => rfl, t, fun _ h n => absurd h n, fun _ h => h⟩

section
variable {X : Cx} {pins : List (Addr × Obj)} {σ : L2.St} {H : Hp} {s : Shared}
/-- the table is written, the code object and its table are new and known from now on; all else is kept -/
theorem inv_code {P c P2 : Addr} {ps more : Array Value} {h' : Heap} {t' : Nat} (I : Inv X pins σ H s) (hP : H P = some (.tbl ps)) (k : ∀ b o, b ≠ P → s.heap.get? b = some o → h'.get? b = some o)
    (hm : h'.get? P = some { cls := .none, data := .fields (ps ++ more) }) (hc : s.heap.objs.size ≤ c) (hc2 : s.heap.objs.size ≤ P2) (ncp : c ≠ P2) (ho : PySem.W.CodeHd h' c P2) (h2 : h'.get? P2 = some { cls := .none, data := .fields #[] }) :
    Inv X pins σ (upd (upd (upd H P (.tbl (ps ++ more))) c (CodeX c P2)) P2 (.tbl #[])) { s with heap := h', toks := t' } := by
  have nC : H c = none := I.hok.fresh hc
  have nC2 : H P2 = none := I.hok.fresh hc2
  have nPc : P ≠ c := ne_of_none hP nC
  have nPc2 : P ≠ P2 := ne_of_none hP nC2
  have at_ : ∀ b, b ≠ P → b ≠ c → b ≠ P2 → upd (upd (upd H P (.tbl (ps ++ more))) c (CodeX c P2)) P2 (.tbl #[]) b = H b := fun b h1 h2 h3 => by rw [upd_ne h3, upd_ne h2, upd_ne h1]
  have atP : upd (upd (upd H P (.tbl (ps ++ more))) c (CodeX c P2)) P2 (.tbl #[]) P = some (.tbl (ps ++ more)) := by rw [upd_ne nPc2, upd_ne nPc, upd_same]
  have nP : ∀ b u, H b = some u → (∀ q, u ≠ .tbl q) → b ≠ P := fun b u e q z => by
    rw [z, hP] at e
    exact q ps (Option.some.inj e).symm
  have nN : ∀ b, H b = none → b ≠ P := fun b e z => by
    rw [z, hP] at e
    cases e
  have lt' : ∀ b o, s.heap.get? b = some o → b ≠ c ∧ b ≠ P2 := fun b o e => ⟨fun z => by
    rw [z] at e
    exact Nat.lt_irrefl _ (Nat.lt_of_lt_of_le (Heap.lt_size e) hc), fun z => by
    rw [z] at e
    exact Nat.lt_irrefl _ (Nat.lt_of_lt_of_le (Heap.lt_size e) hc2)⟩
  have sm : ∀ b u, H b = some u → b ≠ c ∧ b ≠ P2 := fun b u e => ⟨ne_of_none e nC, ne_of_none e nC2⟩
  refine I.step (g' := s.gens) (d' := s.drawn) (ch := []) (fun b hb => absurd hb (by simp)) (fun b o _ _ _ e n => k b o (nN b n) e) (fun b o _ _ _ e n => ⟨o.slots, k b o (nN b n) e⟩)
    (fun b o _ e n => by rw [at_ b (nN b n) (lt' b o e).1 (lt' b o e).2]; exact n) (fun b o _ e => ?_) (fun b xs e => by rw [at_ b (nP b _ e (fun q z => by cases z)) (sm b _ e).1 (sm b _ e).2]; exact e)
    (fun b o u e => by rw [at_ b (nP b _ e (fun q z => by cases z)) (sm b _ e).1 (sm b _ e).2]; exact e) (fun b qs e => ?_) (fun m hn => ?_) (fun b u e => ?_) I.bare
  · by_cases hb : b = P
    · rw [hb]
      exact ⟨_, hm⟩
    · exact ⟨o, k b o hb e⟩
  · by_cases hb : b = P
    · rw [hb, hP] at e
      cases e
      rw [hb, atP]
      exact ⟨more, rfl⟩
    · rw [at_ b hb (sm b _ e).1 (sm b _ e).2, e]
      exact ⟨#[], by simp⟩
  · obtain ⟨ob, es, ep, ho, r⟩ := hn
    exact ⟨ob, es, ep, k _ ob (nN _ I.free) ho, r⟩
  · by_cases hb3 : b = P2
    · rw [hb3, upd_same] at e
      cases e
      rw [hb3]
      exact h2
    · rw [upd_ne hb3] at e
      by_cases hb : b = c
      · rw [hb, upd_same] at e
        cases e
        rw [hb]
        obtain ⟨o, vs, file, tf, flags, tg, inF, text, tt, e1, r⟩ := ho
        refine ⟨⟨o, vs, file, tf, flags, tg, inF, text, tt, e1, r⟩, ⟨o, e1⟩, fun h1 h2 q st => ?_⟩
        obtain ⟨o, vs, file, tf, flags, tg, inF, text, tt, e1, r⟩ := q
        exact ⟨o, vs, file, tf, flags, tg, inF, text, tt, st _ e1, r⟩
      · by_cases hb2 : b = P
        · rw [upd_ne hb, hb2, upd_same] at e
          cases e
          rw [hb2]
          exact hm
        · rw [upd_ne hb, upd_ne hb2] at e
          refine (I.hok b u e).stay (fun d v hd q => k d v ?_ q) (fun d q => by rw [at_ d (nP d _ q (fun q z => by cases z)) (sm d _ q).1 (sm d _ q).2]; exact q) fun d xs q => by rw [at_ d (nP d _ q (fun q z => by cases z)) (sm d _ q).1 (sm d _ q).2]; exact q
          rcases hd with z | z
          · rw [z]
            exact hb2
          · exact nP d _ z (fun q z => by cases z)
/-- the code object that runs, its table -/
def RunC (X : Cx) (c P : Addr) (H : Hp) : Prop := X.env.code = .ref c ∧ (PySem.W.CodeHd X.base c P ∨ H c = some (CodeX c P))
theorem code_step {c P : Addr} {S : Addr → Prop} {pos : Pos} {qn : Str} {scope : Scope} {E : Value → Shared → Prop} {Q : Value → Shared → Prop} (I : Inv X pins σ H s) (hc : RunC X c P H) (SP : S P) (T : TabsS S H)
    (h : ∀ (cv : Value) (H' : Hp) (s' : Shared) (S' : Addr → Prop), Inv X pins σ H' s' → TabExt S H H' S' → (∃ c' P', cv = .ref c' ∧ H' c' = some (CodeX c' P') ∧ S' P') →
      (∀ b o, H b = none → s.heap.get? b = some o → s'.heap.get? b = some o ∧ H' b = none) → s.heap.objs.size ≤ s'.heap.objs.size → Q cv s') :
    wpAny (model X.prog X.w) X.A (genexprCode X.env pos qn scope) Q E s := by
  obtain ⟨hcode, hc⟩ := hc
  obtain ⟨ps, hP, ht, hall⟩ := T P SP
  have hPs : s.heap.get? P = some { cls := .none, data := .fields ps } := I.hok P _ hP
  have hd : PySem.W.CodeHd s.heap c P := by
    rcases hc with hc | hc
    · exact hc.keeps fun b o e => I.bk b o e
    · obtain ⟨q, _⟩ := I.hok c _ hc
      exact q
  have hlt : P < s.heap.objs.size := Heap.lt_size hPs
  cases hf : codeAmong pos ps.toList with
  | some cv =>
    refine wpAny_genexprCode_hit hcode (hd.code hPs ht) hf ?_
    obtain ⟨c', P', e1, e2, e3⟩ := hall pos cv hf
    exact h cv H s S I (TabExt.refl T) ⟨c', P', e1, e2, e3⟩ (fun b o n e => ⟨e, n⟩) (Nat.le_refl _)
  | none =>
    refine wpAny_genexprCodeX hcode (hd.code hPs ht) (hd.tab hPs) hf fun c' h' tk hx hge hlt' hco' _ htab' hP2 => ?_
    obtain ⟨P2, g2, hco2, htab2⟩ := hP2
    obtain ⟨o1, vs, f1, tf, fl, tg, inF, tx, tt, op, _, _, _, _, _, _, _, _, _, htr, _⟩ := hco'
    have hC2 : PySem.W.CodeHd h' c' P2 := PySem.W.CodeHd.of hco2 htab2
    have ncp : c' ≠ P2 := by
      obtain ⟨o, vs, file, tf, flags, tg, inF, text, tt, _, _, _, _, _, _, _, _, _, ne⟩ := hC2
      exact ne
    have nC : H c' = none := I.hok.fresh hge
    have nC2 : H P2 = none := I.hok.fresh g2
    have nPc : P ≠ c' := ne_of_none hP nC
    have nPc2 : P ≠ P2 := ne_of_none hP nC2
    have J := inv_code (t' := tk) (more := #[rawInt pos.line, rawInt pos.col, .ref c']) I hP (fun b o hb e => hx b o hb e) htab'.2 hge g2 ncp hC2 htab2.2
    have eL : (ps ++ #[rawInt pos.line, rawInt pos.col, Value.ref c']).toList = ps.toList ++ [rawInt pos.line, rawInt pos.col, .ref c'] := by simp
    have oth : ∀ b, b ≠ P → b ≠ c' → b ≠ P2 → upd (upd (upd H P (.tbl (ps ++ #[rawInt pos.line, rawInt pos.col, .ref c']))) c' (CodeX c' P2)) P2 (.tbl #[]) b = H b := fun b h1 h2 h3 => by rw [upd_ne h3, upd_ne h2, upd_ne h1]
    have atC : upd (upd (upd H P (.tbl (ps ++ #[rawInt pos.line, rawInt pos.col, .ref c']))) c' (CodeX c' P2)) P2 (.tbl #[]) c' = some (CodeX c' P2) := by rw [upd_ne ncp, upd_same]
    have ext : ∀ b o, H b = some o → (∀ ps, o ≠ .tbl ps) → upd (upd (upd H P (.tbl (ps ++ #[rawInt pos.line, rawInt pos.col, .ref c']))) c' (CodeX c' P2)) P2 (.tbl #[]) b = some o := fun b o e n => by
      rw [oth b (fun z => by rw [z, hP] at e; exact n ps (Option.some.inj e).symm) (ne_of_none e nC) (ne_of_none e nC2)]
      exact e
    refine h (.ref c') _ { s with heap := h', toks := tk } (fun b => S b ∨ b = P2) J ⟨fun b hb => .inl hb, fun b nb ne => ?_, fun b hb => ?_, fun b hb nb => ?_, fun b ne => ?_⟩ ⟨c', P2, rfl, atC, .inr rfl⟩ (fun b o n e => ⟨hx b o (fun z => by rw [z, hP] at n; cases n) e, ?_⟩) (Nat.le_trans hge (Nat.le_of_lt hlt'))
    · refine oth b (fun z => nb (by rw [z]; exact SP)) (fun z => ne (by rw [z]; exact nC)) fun z => ne (by rw [z]; exact nC2)
    · rcases hb with hb | hb
      · by_cases z : b = P
        · refine ⟨ps ++ #[rawInt pos.line, rawInt pos.col, .ref c'], by rw [z, upd_ne nPc2, upd_ne nPc, upd_same], htr, fun p' cv hcv => ?_⟩
          rw [eL] at hcv
          rcases LamX.among_app _ ht hcv with q | q
          · obtain ⟨c0, P0, e1, e2, e3⟩ := hall p' cv q
            exact ⟨c0, P0, e1, ext _ _ e2 codeX_ne, .inl e3⟩
          · exact ⟨c', P2, q, atC, .inr rfl⟩
        · obtain ⟨ps0, q1, q2, q3⟩ := T b hb
          refine ⟨ps0, by rw [oth b z (ne_of_none q1 nC) (ne_of_none q1 nC2)]; exact q1, q2, fun p' cv hcv => ?_⟩
          obtain ⟨c0, P0, e1, e2, e3⟩ := q3 p' cv hcv
          exact ⟨c0, P0, e1, ext _ _ e2 codeX_ne, .inl e3⟩
      · subst hb
        refine ⟨#[], upd_same, True.intro, fun p' cv hcv => ?_⟩
        have z : codeAmong p' [] = some cv := hcv
        simp [codeAmong] at z
    · rcases hb with hb | hb
      · exact absurd hb nb
      · rw [hb]; exact nC2
    · by_cases z3 : b = P2
      · rw [z3, upd_same]; exact fun z => by cases z
      · by_cases z2 : b = c'
        · rw [z2, atC]; exact fun z => by cases z
        · by_cases z1 : b = P
          · rw [z1, upd_ne nPc2, upd_ne nPc, upd_same]; exact fun z => by cases z
          · rw [oth b z1 z2 z3]; exact ne
    · rw [oth b (fun z => by rw [z, hP] at n; cases n) (lt_ne e hge) (lt_ne e g2)]
      exact n
where
  lt_ne {b c : Addr} {o : Obj} {h : Heap} (e : h.get? b = some o) (hc : h.objs.size ≤ c) : b ≠ c := fun z => by
    rw [z] at e
    exact Nat.lt_irrefl _ (Nat.lt_of_lt_of_le (Heap.lt_size e) hc)
end
end GX
end

section
set_option Elab.async false
set_option linter.all false
set_option maxRecDepth 100000
set_option maxHeartbeats 2000000
/-! G4: a generator expression made; one pull of it. -/
namespace GX
open PySem PySem.Spec PyProof.Rows L2 GenW

/-- the built-in names' module, as the base has it -/
def BMod (base : Heap) (mg : Str → Option Value) : Prop :=
  ∃ bm o, mg "__builtins__" = some (.ref bm) ∧ bm ≠ builtinsNs ∧ base.get? bm = some o ∧ o.cls = .type "module" ∧ o.dict = some builtinsNs ∧ o.data = .plain

/-- a generator that has not begun, over elt for tg in (the iterator J) if ifs -/
structure GReady (X : Cx) (pins : List (Addr × Obj)) (σ : L2.St) (H : Hp) (elt tg iter : Expr) (ifs : List Expr) (scope : Scope) (pos : Pos) (J : It) (code : Value) (a : Addr) (s : Shared) (it : Addr) (fp : List Addr) (tn : Nat → Heap → Prop) (s4 : Shared) (g : Nat) (go : Obj) (h' : Heap) : Prop where
  inv : Inv X pins σ H s4
  turn : Turn X.prog X.w X.K tg J fp it tn
  tn0 : tn 0 s4.heap
  fpk : ∀ b ∈ fp, FpOk X pins H b ∧ b < s4.heap.objs.size
  obj : s.heap.get? a = some go
  gen : ∀ h : Heap, h.get? a = some go → h.IsGen a g
  nocell : ∀ v, go.data ≠ .cell v
  gs : s.gens[g]? = some (.fresh (.compStart (.GeneratorExp elt [⟨tg, iter, ifs, 0⟩] scope pos) 0 (.ref it) .none (gxEnv X s4 scope code)))
  os : s.os = s4.os
  bare : AllBare s.gens
  lim : s.heap.NoLimit
  above : s4.heap.objs.size < a
  lt : a < s.heap.objs.size
  ns : h'.Ns s4.heap.objs.size (fun y => if y = ".0" then some (.ref it) else none)
  sb : Heap.SameBut s4.heap.objs.size (s4.heap.push { cls := .type "frame", data := .dict #[] }) h'
  kp : ∀ b o, h'.get? b = some o → s.heap.get? b = some o
section
variable {X : Cx} {pins : List (Addr × Obj)} {σ : L2.St} {H : Hp} {s : Shared}
theorem gx_make {elt tg iter : Expr} {ifs : List Expr} {scope : Scope} {own : List (Str × Nat)} {pos : Pos} {wi : TI} {c : Addr} {R : It → Value → Hp → Prop} {Q' : Value → Shared → Prop} {k : Nat} (hr : Room k X.A) (BM : BMod X.base X.mg) (ok : GOk X.N X.env.scope scope own)
    (hi : PI X tg iter wi) (hs : ∀ v, genFold iter X.env v = pure v) (I : Inv X pins σ H s)
    (h : wi σ H fun J H2 => ∃ (S : Addr → Prop) (P : Addr), RunC X c P H2 ∧ S P ∧ TabsS S H2 ∧ ∀ (code : Value) (H4 : Hp) (S' : Addr → Prop), TabExt S H2 H4 S' → (∃ c' P', code = .ref c' ∧ H4 c' = some (CodeX c' P') ∧ S' P') → R J code H4)
    (hQ : ∀ J code H4 a s5 it fp tn s4 g go h', R J code H4 → GReady X pins σ H4 elt tg iter ifs scope pos J code a s5 it fp tn s4 g go h' → Q' (.ref a) s5) :
    wpAny (model X.prog X.w) X.A (eval (.GeneratorExp elt [⟨tg, iter, ifs, 0⟩] scope pos) X.env) Q' X.xe s := by
  have hfree : ∀ y ∈ scope.names, y.2 = .free → ∃ c, X.env.cells.lookup y.1 = some c := fun y hy e => by
    rcases ok.free y hy e with k | k
    · exact I.ok.has _ (.inl k)
    · exact I.ok.has _ (.inr k)
  refine wpAny_GeneratorExp_make ok.co (closure_ok hfree) ok.cell ok.dot ok.kind (by have := hr.dp; omega) (thn (hi.run pins s σ H _ I h) fun xv s1 hx => thn hx fun itv s2 h2 => ?_) hs
  obtain ⟨it, fp, tn, J, H2, e, I2, T, st2, f2, S, P, hc, SP, TS, hR⟩ := h2
  subst e
  refine ⟨I2.nolimit, ?_⟩
  have sz2 : ∀ b ∈ fp, b < s2.heap.objs.size := fun b hb => by
    obtain ⟨o, e, _⟩ := T.obj _ _ st2 b hb
    exact Heap.lt_size e
  refine code_step I2 hc SP TS fun cv H4 s4 S' I4 TE hcv hk4 hsz4 => ?_
  obtain ⟨bm, ob, e1, e2, e5, e6, e7, e8⟩ := BM
  refine wpAny_builtinsFor (m := X.mg) (by rw [I4.ok.glob]; exact I4.mod.glob.keeps I4.bk) e1 e2 (I4.bk _ _ e5) e6 e7 e8 ?_
  intro h' hn' hs'
  have hsz : h'.objs.size = s4.heap.objs.size + 1 := by rw [hs'.1, Heap.size_push]
  have keep' : ∀ b o, s4.heap.get? b = some o → h'.get? b = some o := fun b o e => hs'.extBut b o (Nat.ne_of_lt (Heap.lt_size e)) (Heap.get?_push_of_some _ e)
  have f4 : ∀ b ∈ fp, FpOk X pins H4 b ∧ b < s4.heap.objs.size := fun b hb => by
    obtain ⟨q0, q1, q2, q3, q4, q5⟩ := f2 b hb
    obtain ⟨o, e, _⟩ := T.obj _ _ st2 b hb
    exact ⟨⟨(hk4 b o q0 e).2, q1, q2, q3, q4, q5⟩, Nat.lt_of_lt_of_le (sz2 b hb) hsz4⟩
  have st4 : tn 0 s4.heap := T.keep _ _ _ st2 fun b hb o e => (hk4 b o (f2 b hb).1 e).1
  refine hQ J cv H4 h'.objs.size _ it fp tn s4 s4.gens.size _ h' (hR cv H4 S' TE hcv) ⟨I4, T, st4, f4, Heap.get?_push_size _ rfl, fun h e => ⟨_, _, _, e, rfl, rfl, rfl⟩, fun v z => (by cases z), Array.getElem?_push_size .., rfl, I4.bare.push rfl, ?_, ?_, ?_, hn', hs', fun b o e => Heap.get?_push_of_some _ e⟩
  · exact I4.nolimit.keeps fun b o e => Heap.get?_push_of_some _ (keep' b o e)
  · show s4.heap.objs.size < h'.objs.size
    omega
  · show h'.objs.size < (h'.push _).objs.size
    rw [Heap.size_push]
    exact Nat.lt_succ_self _
/-- out of the generator's frame -/
theorem gx_out {A : Around} {E : XK} {scope : Scope} {code : Value} {fp : List Addr} {pn pins' : List (Addr × Obj)} {σ' : L2.St} {H' : Hp} {s1 s' : Shared} (I : Inv X pins σ H s) (hfp : ∀ b ∈ fp, FpOk X pins H b ∧ b < s.heap.objs.size) (J : Inv (gxCx X A s H E scope code fp pn) pins' σ' H' s1)
    (os : s'.os = s1.os) (ba : AllBare s'.gens) (kp : ∀ b o, s1.heap.get? b = some o → s'.heap.get? b = some o) : Inv X pins σ H' s' :=
  I.call' (ch := fp) (os.trans J.os) (J.base.trans (Un.kept kp)) (J.hok.kept kp) ba fun b hb => ⟨(hfp b hb).1.2.2.2.1, (hfp b hb).1.2.1, (hfp b hb).1.2.2.2.2.1, (hfp b hb).1.2.2.2.2.2⟩
theorem exOk_fp {fp : List Addr} (hfp : ∀ b ∈ fp, FpOk X pins H b ∧ b < s.heap.objs.size) : ExOk X pins fp := fun b hb => ⟨(hfp b hb).1.2.2.2.1, (hfp b hb).1.2.1, (hfp b hb).1.2.2.2.2.1, (hfp b hb).1.2.2.2.2.2⟩
theorem CXx.gens {P : Program} {w : World} {outer : List Env} {ex : List Addr} {H : Hp} {s : Shared} {E : XK} {u : Value} {s' s'' : Shared} (c : CXx P w outer ex H s E u s') (hh : s''.heap = s'.heap) (os : s''.os = s'.os) (ba : AllBare s''.gens) : CXx P w outer ex H s E u s'' := by
  obtain ⟨a, B, H', cls, d, e, fl, ok, ub, na, os1, _, r⟩ := c
  exact ⟨a, B, H', cls, d, e, by rw [hh]; exact fl, ok, by rw [hh]; exact ub, na, os.trans os1, ba, r⟩
theorem notStop_x {E : XK} {ex : List Addr} {e : Value} {s' : Shared} (hE : NoStop X.K E) (kin : X.K.In s'.heap) (c : CXx X.prog X.w X.stack ex H s E e s') : NotStop (model X.prog X.w) e s'.heap := by
  obtain ⟨a, B, H', cls, d, rfl, fl, _, _, _, _, _, hW⟩ := c
  obtain ⟨oe, vs, he, hz, hd⟩ := fl.there
  have L := PySem.W.looks_subIn (M := model X.prog X.w) kin (hE cls d H' hW)
  intro A Q E' s2 hs hq
  simp only [isInstance]
  refine wpAny_bind (wpAny_typeOf_ref (o := oe) (by rw [hs]; exact he) ?_)
  rw [hz.1]
  exact L A Q E' s2 (fun b o z => by rw [hs]; exact z) hq
theorem kin_x {E : XK} {ex : List Addr} {e : Value} {s' : Shared} (I : Inv X pins σ H s) (hex : ∀ b ∈ ex, FpOk X pins H b ∧ b < s.heap.objs.size) (c : CXx X.prog X.w X.stack ex H s E e s') : X.K.In s'.heap := by
  obtain ⟨a, B, H', cls, d, _, fl, _, ub, _⟩ := id c
  refine I.ok.mod.kin.keeps fun b o eb => fl.1 b o (ub.keep b o (I.bs b o eb).1 (I.bs b o eb).2 (fun hm => ?_) fun hx => ?_)
  · rcases List.mem_cons.mp (I.stkSub b hm) with z | z
    · have h1 := Heap.lt_size eb
      have h2 := Nat.le_trans I.ok.bsz I.ok.above
      rw [z] at h1
      exact absurd (Nat.lt_of_lt_of_le h1 h2) (Nat.lt_irrefl _)
    · exact I.ok.nofr eb z
  · rcases (hex b hx).1.2.2.2.1 with z | z
    · exact I.ok.noex b o eb z
    · exact absurd (Nat.lt_of_lt_of_le (Heap.lt_size eb) (Nat.le_trans I.ok.bsz z)) (Nat.lt_irrefl _)

/-! ### one pull -/
/-- a generator that may be pulled in A (n: a bound of the turns left); Ss: the consumer's own objects -/
def GRun (X : Cx) (pins : List (Addr × Obj)) (σ : L2.St) (E : XK) (Fin : List V → Hp → Prop) (Yd : List V → V → Hp → Prop → Prop) (Ss : List Addr) (Tie : List V → Heap → Prop) (A : Around) (a : Addr) (n : Nat) (s : Shared) : Prop :=
  ∃ (s4 : Shared) (H4 : Hp) (scope : Scope) (code : Value) (fp : List Addr) (g : Nat) (go : Obj), Inv X pins σ H4 s4 ∧ (∀ b ∈ fp, FpOk X pins H4 b ∧ b < s4.heap.objs.size) ∧ (∀ S ∈ Ss, s4.heap.objs.size < S) ∧ a ∉ Ss ∧ (∀ h : Heap, h.get? a = some go → h.IsGen a g) ∧ s.heap.get? a = some go ∧ s.heap.NoLimit ∧
    ∃ gs, s.gens[g]? = some gs ∧ gs.Goes (model X.prog X.w) A.in1 (GRend (gxCx X A.in1 s4 H4 E scope code fp [(a, go)]) Ss Tie E Fin) (GYld (gxCx X A.in1 s4 H4 E scope code fp [(a, go)]) Ss Tie Yd) n (.send .none) (s.setGen g .running)
theorem slp_set {Ss : List Addr} {s1 s2 : Shared} {g : Nat} (hb : AllBare s2.gens) (os : s2.os = s1.os) (kp : ∀ b o, b ∉ Ss → s1.heap.get? b = some o → s2.heap.get? b = some o) (own : ∀ b ∈ Ss, ∃ o, s2.heap.get? b = some o ∧ ∀ v, o.data ≠ .cell v) : Slp Ss s1 (s2.setGen g .running) :=
  ⟨os, allBare_setGen hb rfl, kp, own⟩
theorem GRun.nextX {E : XK} {Fin : List V → Hp → Prop} {Yd : List V → V → Hp → Prop → Prop} {Ss : List Addr} {Tie : List V → Heap → Prop} {A : Around} {a : Addr} {n : Nat} {Q : Option Value → Shared → Prop} {Ex : Value → Shared → Prop} (hh : A.handled = none) (hd : A.depth < recursionLimit) (hns : NoStop X.K E)
    (hYd : ∀ ys y H (P Q : Prop), (P → Q) → Yd ys y H P → Yd ys y H Q) (hTie : ∀ ys h h', (∀ S ∈ Ss, h'.get? S = h.get? S) → Tie ys h → Tie ys h') (G : GRun X pins σ E Fin Yd Ss Tie A a n s) (hE : ∀ e s', XF X E e s' → Ex e s')
    (hy : ∀ v s' ys y H', RelV y v → Inv X pins σ H' s' → Tie ys s'.heap → (∀ S ∈ Ss, s'.heap.get? S = s.heap.get? S ∧ H' S = none) → s.heap.get? a = s'.heap.get? a →
      Yd ys y H' (∀ s'', s''.os = s'.os → AllBare s''.gens → s''.gens = s'.gens → (∀ b o, b ∉ Ss → s'.heap.get? b = some o → s''.heap.get? b = some o) → (∀ b ∈ Ss, ∃ o, s''.heap.get? b = some o ∧ ∀ v, o.data ≠ .cell v) → Tie (ys ++ [y]) s''.heap → ∃ m, m < n ∧ GRun X pins σ E Fin Yd Ss Tie A a m s'') → Q (some v) s')
    (he : ∀ s' ys H', Inv X pins σ H' s' → Tie ys s'.heap → (∀ S ∈ Ss, s'.heap.get? S = s.heap.get? S ∧ H' S = none) → Fin ys H' → Q none s') :
    wpAny (model X.prog X.w) A (pyNext (.ref a)) Q Ex s := by
  obtain ⟨s4, H4, scope, code, fp, g, go, I4, f4, hSs, ga, hgen, hgo, hl, gs, hgs, hgg⟩ := G
  have hgl : g < s.gens.size := (Array.getElem?_eq_some_iff.mp hgs).1
  have goes : ∀ {gs : GenState} {B : Around} {n : Nat} {r : Resume} {s : Shared}, gs.Goes (model X.prog X.w) B (GRend (gxCx X A.in1 s4 H4 E scope code fp [(a, go)]) Ss Tie E Fin) (GYld (gxCx X A.in1 s4 H4 E scope code fp [(a, go)]) Ss Tie Yd) n r s →
      gs.Goes (model X.prog X.w) B (fun n s₀ r s1 => ((r = .ok (.ret .none) ∨ r = .ok .next) ∧ (∃ ys σ' H', GSt (gxCx X A.in1 s4 H4 E scope code fp [(a, go)]) Ss σ' H' s1 ∧ Tie ys s1.heap ∧ (∀ S ∈ Ss, s1.heap.get? S = s₀.heap.get? S) ∧ Fin ys H')) ∨
        ∃ e, r = .error e ∧ (CXx X.prog X.w X.stack fp H4 s4 E e s1 ∧ ∀ p ∈ [(a, go)], s1.heap.get? p.1 = some p.2)) (GYld (gxCx X A.in1 s4 H4 E scope code fp [(a, go)]) Ss Tie Yd) n r s := fun h => h
  refine wpAny_gsz (n := g + 1) hgl (next_genG hh hl hd (hgen _ hgo) hgs (goes hgg) (fun v s₁ gs' hbare hv hsz => ?_) (fun s₁ hp h' hk _ => ?_) fun e s₁ hq => ?_)
  · obtain ⟨ys, y, σ', H', rv, ⟨J, hS⟩, htie, hsame, hyd⟩ := hv
    have ba : AllBare (s₁.setGen g gs').gens := allBare_setGen J.bare hbare
    have pa : s₁.heap.get? a = some go := (J.pin (a, go) (List.mem_append_left _ (List.mem_singleton.mpr rfl))).1
    refine hy v _ ys y H' rv (gx_out I4 f4 J rfl ba fun b o e => e) htie (fun S hS' => ⟨hsame S hS', (hS S hS').2⟩) (hgo.trans pa.symm) (hYd _ _ _ _ _ (fun k s'' os'' ba'' gens'' kp'' own'' tie'' => ?_) hyd)
    have kk := k (s''.setGen g .running) (slp_set ba'' os'' (fun b o hb e => kp'' b o hb e) own'') tie''
    cases n with
    | zero => exact kk.elim
    | succ m =>
      refine ⟨m, Nat.lt_succ_self m, s4, H4, scope, code, fp, g, go, I4, f4, hSs, ga, hgen, kp'' a go ga pa, ?_, gs', ?_, kk⟩
      · have lim1 := J.nolimit
        obtain ⟨mm, hns', hnn⟩ := lim1
        refine ⟨mm, ?_, hnn⟩
        obtain ⟨o', es, ep, ho, hd'⟩ := hns'
        exact ⟨o', es, ep, kp'' _ _ (fun z => by
          have q := hSs _ z
          obtain ⟨_, hns0, _⟩ := I4.nolimit
          exact absurd (Nat.lt_trans hns0.lt q) (Nat.lt_irrefl _)) ho, hd'⟩
      · rw [gens'']
        refine setGen_at ?_
        have q : (s₁.setGen g gs').gens.size = s₁.gens.size := setGen_size _ _ _
        omega
  · obtain ⟨ys, σ', H', ⟨J, hS⟩, htie, hsame, hf⟩ := hp
    have ba : AllBare (s₁.setGen g .finished).gens := allBare_setGen J.bare rfl
    refine he _ ys H' (gx_out I4 f4 J rfl ba hk) (hTie _ _ _ (fun S hS' => ?_) htie) (fun S hS' => ?_) hf
    · obtain ⟨⟨o, e, _⟩, q⟩ := hS S hS'
      exact (hk S o e).trans e.symm
    obtain ⟨⟨o, e, _⟩, q⟩ := hS S hS'
    refine ⟨?_, q⟩
    have e2 := hk S o e
    show h'.get? S = s.heap.get? S
    rw [e2, ← e]
    exact hsame S hS'
  · obtain ⟨hc, hp⟩ := hq
    refine ⟨hgen _ (hp (a, go) (List.mem_singleton.mpr rfl)), notStop_x hns (kin_x I4 f4 hc) hc, fun _ => hE _ _ ((XF.of_call (exOk_fp f4) I4 (hc.gens rfl rfl (allBare_setGen ?_ rfl))))⟩
    obtain ⟨_, _, _, _, _, _, _, _, _, _, _, ba, _⟩ := hc
    exact ba
theorem GRun.next {E : XK} {Fin : List V → Hp → Prop} {Yd : List V → V → Hp → Prop → Prop} {Ss : List Addr} {Tie : List V → Heap → Prop} {A : Around} {a : Addr} {n : Nat} {Q : Option Value → Shared → Prop} {Ex : Value → Shared → Prop} (hh : A.handled = none) (hd : A.depth < recursionLimit) (hns : NoStop X.K E) (tk : TakesF X E)
    (hYd : ∀ ys y H (P Q : Prop), (P → Q) → Yd ys y H P → Yd ys y H Q) (hTie : ∀ ys h h', (∀ S ∈ Ss, h'.get? S = h.get? S) → Tie ys h → Tie ys h') (G : GRun X pins σ E Fin Yd Ss Tie A a n s) (hE : ∀ e s', X.xe e s' → Ex e s')
    (hy : ∀ v s' ys y H', RelV y v → Inv X pins σ H' s' → Tie ys s'.heap → (∀ S ∈ Ss, s'.heap.get? S = s.heap.get? S ∧ H' S = none) → s.heap.get? a = s'.heap.get? a →
      Yd ys y H' (∀ s'', s''.os = s'.os → AllBare s''.gens → s''.gens = s'.gens → (∀ b o, b ∉ Ss → s'.heap.get? b = some o → s''.heap.get? b = some o) → (∀ b ∈ Ss, ∃ o, s''.heap.get? b = some o ∧ ∀ v, o.data ≠ .cell v) → Tie (ys ++ [y]) s''.heap → ∃ m, m < n ∧ GRun X pins σ E Fin Yd Ss Tie A a m s'') → Q (some v) s')
    (he : ∀ s' ys H', Inv X pins σ H' s' → Tie ys s'.heap → (∀ S ∈ Ss, s'.heap.get? S = s.heap.get? S ∧ H' S = none) → Fin ys H' → Q none s') :
    wpAny (model X.prog X.w) A (pyNext (.ref a)) Q Ex s :=
  G.nextX hh hd hns hYd hTie (fun e s' x => hE e s' (tk e s' x)) hy he
end
end GX
end

section
set_option Elab.async false
set_option linter.all false
set_option maxRecDepth 100000
set_option maxHeartbeats 2000000
/-! G5: a generator ready to be pulled; what collects it: a list, a tuple. -/
namespace GX
open PySem PySem.Spec PyProof.Rows L2 GenW
open AutoSeq1 (wpAny_loadPart')

section
variable {X : Cx} {pins : List (Addr × Obj)} {σ : L2.St} {H : Hp} {s s5 : Shared} {E : XK} {Fin : List V → Hp → Prop} {Yd : List V → V → Hp → Prop → Prop} {W : List V → Nat → Nat → Hp → Prop} {Ss : List Addr} {Tie : List V → Heap → Prop} {A : Around} {a : Addr}
theorem GReady.run {elt tg iter : Expr} {ifs : List Expr} {scope : Scope} {own : List (Str × Nat)} {pos : Pos} {J : It} {code : Value} {it : Addr} {fp : List Addr} {tn : Nat → Heap → Prop} {s4 : Shared} {g : Nat} {go : Obj} {h' : Heap} {gt : TG} {tt : TT} {te : TE} {m : Nat}
    (G : GReady X pins σ H elt tg iter ifs scope pos J code a s5 it fp tn s4 g go h') (ok : GOk X.N X.env.scope scope own) (hN : X.N.Nodup) (hh : A.handled = none) (hfr : A.frames = some X.stack)
    (pg : PG (gxCx X A.in1 s4 H E scope code fp [(a, go)]) tg gt) (pt : PTs (gxCx X A.in1 s4 H E scope code fp [(a, go)]) ifs tt) (pe : PE (gxCx X A.in1 s4 H E scope code fp [(a, go)]) elt te)
    (hYd : ∀ ys y H (P Q : Prop), (P → Q) → Yd ys y H P → Yd ys y H Q) (hTie : ∀ ys h h', (∀ S ∈ Ss, h'.get? S = h.get? S) → Tie ys h → Tie ys h')
    (turn : GWalk J (wipe σ (own.map (·.2))) (own.map (·.2)) gt tt te Fin Yd W) (w : W [] 0 m H)
    (os : s.os = s5.os) (ba : AllBare s.gens) (gens : s.gens = s5.gens) (kp : ∀ b o, s5.heap.get? b = some o → s.heap.get? b = some o) (hSs : ∀ S ∈ Ss, s5.heap.objs.size ≤ S ∧ ∃ o, s.heap.get? S = some o ∧ ∀ v, o.data ≠ .cell v) (ht : Tie [] s.heap) :
    GRun X pins σ E Fin Yd Ss Tie A a (m + 1) s := by
  have hgl : g < s.gens.size := by rw [gens]; exact (Array.getElem?_eq_some_iff.mp G.gs).1
  have ga : a ∉ Ss := fun z => absurd (Nat.lt_of_lt_of_le G.lt (hSs a z).1) (Nat.lt_irrefl _)
  have hSa : ∀ S ∈ Ss, s4.heap.objs.size < S := fun S hS => Nat.lt_trans G.above (Nat.lt_of_lt_of_le G.lt (hSs S hS).1)
  have lim : s.heap.NoLimit := G.lim.keeps kp
  refine ⟨s4, H, scope, code, fp, g, go, G.inv, G.fpk, hSa, ga, G.gen, kp _ _ G.obj, lim, .fresh (.compStart (.GeneratorExp elt [⟨tg, iter, ifs, 0⟩] scope pos) 0 (.ref it) .none (gxEnv X s4 scope code)), by rw [gens]; exact G.gs, rfl, ?_⟩
  have hs4 : s4.heap.objs.size < s5.heap.objs.size := Nat.lt_trans G.above G.lt
  -- the frame's start
  have I0 : Inv (gxCx X A.in1 s4 H E scope code fp [(a, go)]) (pinsAt Ss s.heap) (wipe σ (own.map (·.2))) H (s.setGen g .running) := by
    refine gx_start (s2 := s.setGen g .running) (h' := h') (it := .ref it) (pS := pinsAt Ss s.heap) G.inv ok hN hh hfr G.fpk G.ns G.sb (os.trans G.os) (allBare_setGen ba rfl) (fun b o e => kp b o (G.kp b o e)) fun p hp => ?_
    rcases List.mem_append.mp hp with z | z
    · rw [List.mem_singleton.mp z]
      exact ⟨kp _ _ G.obj, G.above, G.nocell⟩
    · obtain ⟨hb, e⟩ := of_pinsAt z
      obtain ⟨o, e', nd⟩ := (hSs p.1 hb).2
      have ee : p.2 = o := Option.some.inj (e.symm.trans e')
      exact ⟨e, hSa p.1 hb, by rw [ee]; exact nd⟩
  have hAp : ApartS (gxCx X A.in1 s4 H E scope code fp [(a, go)]) Ss := fun S hS => by
    obtain ⟨y1, y2, y3, y4, y5, y6⟩ := Inv.young G.inv (Nat.le_of_lt (hSa S hS))
    refine ⟨Nat.le_of_lt (hSa S hS), Nat.ne_of_gt (hSa S hS), y4, fun z => ?_, fun x c e => ?_, fun p hp => ?_⟩
    · exact absurd (Nat.lt_trans (G.fpk S z).2 (hSa S hS)) (Nat.lt_irrefl _)
    · intro z
      obtain ⟨v, q⟩ := I0.cell x c e
      have hfree : ∀ y ∈ scope.names, y.2 = .free → ∃ c, X.env.cells.lookup y.1 = some c := fun y hy e => by
        rcases ok.free y hy e with k | k
        · exact G.inv.ok.has _ (.inl k)
        · exact G.inv.ok.has _ (.inr k)
      have e' : (cloFrom X.env.cells scope.names []).lookup x = some c := e
      rcases cloFrom_mem (PySem.mem_of_lookup e') with hm | ⟨h1, h2⟩
      · cases hm
      · obtain ⟨c1, hc⟩ := hfree _ h1 rfl
        have hc : X.env.cells.lookup x = some c1 := hc
        have e2 : c = c1 := by rw [h2, hc] <;> rfl
        exact y6 x c1 hc (e2.symm.trans z)
    · rw [List.mem_singleton.mp hp]
      exact fun z => ga (by rw [show a = S from z]; exact hS)
  refine gx_begin (X := gxCx X A.in1 s4 H E scope code fp [(a, go)]) over_gen over_genS G.turn rfl rfl hAp rfl (fun p hp => ?_) ok.co pg pt pe hYd hTie turn (Nat.lt_succ_self m) w ⟨I0, fun S hS => ?_⟩ ht ?_ fun b hb => (G.fpk b hb).1.1
  · rw [List.mem_singleton.mp hp]
    exact fun z => absurd (Nat.lt_trans (G.fpk a z).2 G.above) (Nat.lt_irrefl _)
  · exact ⟨(hSs S hS).2, (Inv.young G.inv (Nat.le_of_lt (hSa S hS))).1⟩
  · refine G.turn.keep _ _ _ G.tn0 fun b hb o e => kp b o (G.kp b o ?_)
    exact G.sb.extBut b o (Nat.ne_of_lt (Heap.lt_size e)) (Heap.get?_push_of_some _ e)

/-! ### collected into a list -/
def YdL : List V → V → Hp → Prop → Prop := fun ys _ _ k => ys.length < sizeLine ∧ k
theorem ydL_mono : ∀ ys y H (P Q : Prop), (P → Q) → YdL ys y H P → YdL ys y H Q := fun _ _ _ _ _ f h => ⟨h.1, f h.2⟩
def TieL (S : Addr) : List V → Heap → Prop := fun ys h => ∃ (acc : Array Value) (c : Nat), h.get? S = some (lstObj acc c) ∧ Vals ys acc.toList
theorem tieL {S : Addr} : ∀ ys h h', (∀ b ∈ [S], Heap.get? h' b = Heap.get? h b) → TieL S ys h → TieL S ys h' := fun ys h h' e ⟨acc, c, a, b⟩ => ⟨acc, c, (e S (List.mem_singleton.mpr rfl)).trans a, b⟩
theorem extend_gx {S : Addr} {res : Value} {R : Result → Shared → Prop} (hh : A.handled = none) (hd : A.depth < recursionLimit) (hns : NoStop X.K E) (tk : TakesF X E)
    (hend : ∀ s' ys H' acc c, Inv X pins σ H' s' → s'.heap.get? S = some (lstObj acc c) → Vals ys acc.toList → ys.length ≤ sizeLine → H' S = none → Fin ys H' → R (.ok (.ret res)) s') (hexc : ∀ e s', X.xe e s' → R (.error e) s') :
    ∀ (n : Nat) (s : Shared), GRun X pins σ E (fun ys H => ys.length ≤ sizeLine ∧ Fin ys H) YdL [S] (TieL S) A.in1 a n s → codeAny (model X.prog X.w) A (.builtin "list.extend.loop" ⟨[.ref S, .ref a, res], []⟩) R s := by
  intro n
  induction n using Nat.strongRecOn with
  | _ n ih =>
  intro s hG
  refine codeAny_builtin F.entry_extend_loop ?_
  rw [Around.under_plainId F.plain_extend_loop _]
  show wpAny _ A.in1 (pyNext (.ref a) >>= _) _ _ s
  refine wpAny_bind (hG.next (A := A.in1) hh hd hns tk ydL_mono tieL (fun e s' hx => hexc e s' hx) (fun v s' ys y H' rv J htie hS _ hy => ?_) fun s' ys H' J htie hS hf => ?_)
  · obtain ⟨hlt, hk⟩ := hy
    obtain ⟨acc, c, hS1, rs⟩ := htie
    have hsz : acc.size = ys.length := by
      have e1 := rs.length
      have e2 : acc.toList.length = acc.size := by simp
      omega
    show wpAny _ A.in1 (updateSeq S (·.push v) >>= _) _ _ _
    refine wpAny_bind ?_
    have hup := Heap.get?_update_self (Obj.mapSeq (·.push v)) hS1 rfl
    obtain ⟨m, hm, hG'⟩ := hk { s' with heap := s'.heap.update S (Obj.mapSeq (·.push v)) } rfl J.bare rfl (fun b o hb e => (Heap.get?_update_other _ _ (fun z => hb (List.mem_singleton.mpr z.symm))).trans e)
      (fun b hb => by
        rw [List.mem_singleton.mp hb]
        exact ⟨_, hup, fun v z => by cases z⟩) ⟨acc.push v, _, hup, by rw [Array.toList_push]; exact rs.append (.cons rv .nil)⟩
    refine wpAny_updateSeq hS1 rfl (wpAny_pure ⟨plainId_quiet F.plain_extend_loop _, ih m hm _ hG'⟩) (by omega) (by show (acc.push v).size ≤ sizeLine + 1; rw [Array.size_push]; omega)
  · obtain ⟨acc, c, hS1, rs⟩ := htie
    exact wpAny_pure (hend s' ys H' acc c J hS1 rs hf.1 (hS S (List.mem_singleton.mpr rfl)).2 hf.2)
/-- what every consumer is handed: a generator that has not begun, at s5 -/
def GStart (X : Cx) (pins : List (Addr × Obj)) (σ : L2.St) (E : XK) (Fin : List V → Hp → Prop) (Yd : List V → V → Hp → Prop → Prop) (a : Addr) (n : Nat) (ok : Around → Prop) (s5 : Shared) : Prop :=
  (∃ g, s5.heap.IsGen a g) ∧ a < s5.heap.objs.size ∧ AllBare s5.gens ∧ s5.heap.NoLimit ∧ ∀ (A : Around) (Ss : List Addr) (Tie : List V → Heap → Prop) (s : Shared), ok A → (∀ ys h h', (∀ S ∈ Ss, Heap.get? h' S = Heap.get? h S) → Tie ys h → Tie ys h') → s.os = s5.os → s.gens = s5.gens → (∀ b o, s5.heap.get? b = some o → s.heap.get? b = some o) →
    (∀ S ∈ Ss, s5.heap.objs.size ≤ S ∧ ∃ o, s.heap.get? S = some o ∧ ∀ v, o.data ≠ .cell v) → Tie [] s.heap → GRun X pins σ E Fin Yd Ss Tie A a n s
theorem collect_gx {n : Nat} {okA : Around → Prop} {Q : List Value → Shared → Prop} {Ex : Value → Shared → Prop} (hh : A.handled = none) (hd : A.depth < recursionLimit) (hns : NoStop X.K E) (tk : TakesF X E) (hok : okA A.in1)
    (hG : GStart X pins σ E (fun ys H => ys.length ≤ sizeLine ∧ Fin ys H) YdL a n okA s) (hQ : ∀ s' ys vs H', Inv X pins σ H' s' → Vals ys vs → ys.length ≤ sizeLine → Fin ys H' → Q vs s') (hE : ∀ e s', X.xe e s' → Ex e s') :
    wpAny (model X.prog X.w) A (collect (.ref a)) Q Ex s := by
  obtain ⟨⟨g, hg⟩, hlt, hb, hl, start⟩ := hG
  have hSI : s.heap.objs.size ≠ a := Nat.ne_of_gt hlt
  unfold collect
  refine wpAny_bind (wpAny_runValue (codeAny_builtin F.entry_proto_collect ?_))
  rw [Around.under_plainId F.plain_proto_collect _]
  show wpAny _ A.in1 (newList [] >>= fun l => again (.builtin "list.__iadd__" ⟨[l, .ref a], []⟩)) _ _ s
  refine wpAny_bind (wpAny_newObj_type ?_)
  refine wpAny_pure ⟨plainId_quiet F.plain_list_iadd _, codeAny_builtin F.entry_list_iadd ?_⟩
  rw [Around.under_plainId F.plain_list_iadd _]
  have k1 : ∀ b o, s.heap.get? b = some o → (s.heap.push { cls := .type "list", data := .seq ([] : List Value).toArray }).get? b = some o := fun b o e => Heap.get?_push_of_some _ e
  have hg1 := hg.keeps k1
  show wpAny _ A.in1 (Builtin.List.listExtendWith (.ref s.heap.objs.size) (.ref a) (.ref s.heap.objs.size)) _ _ _
  unfold Builtin.List.listExtendWith
  refine wpAny_bind (wpAny_typeOf (Heap.IsGen.typeIs (s := { s with heap := _ }) hg1) ?_)
  have h1 : Builtin.List.listSameRef (.ref s.heap.objs.size) (.ref a) = false := by simp [Builtin.List.listSameRef, hSI]
  have h2 : (Value.type "generator" == Value.type "list") = false := by decide
  have h3 : (Value.type "generator" == Value.type "tuple") = false := by decide
  simp only [h1, h2, h3, Bool.or_false, Bool.false_eq_true, if_false]
  refine wpAny_bind (wpAny_pyIter_gen (s := { s with heap := _ }) hg1 ?_)
  refine wpAny_bind (wpAny_holding ?_)
  unfold Builtin.List.listLengthHint
  refine wpAny_bind (wpAny_specialOf (Heap.IsGen.typeIs (s := { s with heap := _ }) hg1) F.gen_no_len ?_)
  show wpAny _ A.in1 (specialOf (Value.ref a) (Str.ofString "__length_hint__") >>= _) _ _ _
  refine wpAny_bind (wpAny_specialOf (Heap.IsGen.typeIs (s := { s with heap := _ }) hg1) F.gen_no_hint ?_)
  refine wpAny_pure ?_
  show wpAny _ A.in1 (rule "list.extend.makes-room" >>= fun _ => Builtin.List.listTouch (.ref s.heap.objs.size) >>= fun _ =>
    again (.builtin "list.extend.loop" ⟨[.ref s.heap.objs.size, .ref a, .ref s.heap.objs.size], []⟩)) _ _ _
  refine wpAny_bind (wpAny_rule ?_)
  have hS₁ : (s.heap.push { cls := .type "list", data := .seq ([] : List Value).toArray }).get? s.heap.objs.size = some { cls := .type "list", data := .seq ([] : List Value).toArray } := Heap.get?_push_size _ rfl
  refine wpAny_bind ?_
  show wpAny _ A.in1 (updateSeq s.heap.objs.size (·.push .none) >>= fun _ => updateSeq s.heap.objs.size (·.pop)) _ _ _
  refine wpAny_bind (wpAny_updateSeq hS₁ rfl ?_)
  have hS₂ := Heap.get?_update_self (Obj.mapSeq (·.push Value.none)) hS₁ rfl
  refine wpAny_updateSeq (hz := by seq_fits) hS₂ rfl ?_
  have hS₃ := Heap.get?_update_self (Obj.mapSeq (·.pop)) hS₂ rfl
  have oth : ∀ b o, s.heap.get? b = some o →
      (((s.heap.push { cls := .type "list", data := .seq ([] : List Value).toArray }).update s.heap.objs.size (Obj.mapSeq (·.push Value.none))).update s.heap.objs.size (Obj.mapSeq (·.pop))).get? b = some o :=
    fun b o e => by
      have hb : s.heap.objs.size ≠ b := Nat.ne_of_gt (Heap.lt_size e)
      exact (Heap.get?_update_other _ _ hb).trans ((Heap.get?_update_other _ _ hb).trans (k1 b o e))
  refine wpAny_pure ⟨plainId_quiet F.plain_extend_loop _, extend_gx (S := s.heap.objs.size) hh hd hns tk (fun s' ys H' acc c J hS' rs hle hn hf => ?_) (fun e s' hx => hE e s' hx) n _
    (start A.in1 [s.heap.objs.size] (TieL s.heap.objs.size) _ hok tieL rfl rfl oth (fun S hS => by
      rw [List.mem_singleton.mp hS]
      exact ⟨Nat.le_refl _, _, hS₃, fun v z => by cases z⟩) ⟨_, _, hS₃, .nil⟩)⟩
  show wpAny _ A (load s.heap.objs.size >>= _) _ _ s'
  exact wpAny_bind (wpAny_load hS' (wpAny_pure (hQ s' ys acc.toList H' J rs hle hf)))
/-! ### tuple(..) -/
theorem code_tuple_gx {n : Nat} {okA : Around → Prop} {Q₁ : Value → Shared → Prop} {Ex : Value → Shared → Prop} (hh : A.handled = none) (hd : A.depth < recursionLimit) (hns : NoStop X.K E) (tk : TakesF X E) (hok : okA A.in1.in1)
    (hG : GStart X pins σ E (fun ys H => ys.length ≤ sizeLine ∧ Fin ys H) YdL a n okA s) (hQ : ∀ s' ys vs H', Inv X pins σ H' s' → Vals ys vs → ys.length ≤ sizeLine → Fin ys H' → Q₁ (.ref s'.heap.objs.size) { s' with heap := s'.heap.push { cls := .type "tuple", data := .seq vs.toArray } }) (hE : ∀ e s', X.xe e s' → Ex e s') :
    codeAny (model X.prog X.w) A (.call (.builtin "tuple.__new__") ⟨[.type "tuple", .ref a], []⟩) (wants Q₁ Ex) s := by
  refine codeAny_of_tree ?_
  show wpAny _ A.in1 (do checkBuiltinCall "tuple.__new__" ⟨[.type "tuple", .ref a], []⟩; again (.builtin "tuple.__new__" ⟨[.type "tuple", .ref a], []⟩)) _ _ s
  refine wpAny_bind (wpAny_of_eq (F.newCall_tuple_1 _) (wpAny_pure ⟨plainId_quiet F.plain_tuple_new _, codeAny_builtin F.entry_tuple_new ?_⟩))
  rw [Around.under_plainId F.plain_tuple_new _]
  have hsub := sub_tuple_self
  have hinit := init_tuple_lookup
  have hmh := madeHere_tuple
  have hTI : s.TypeIs (.ref a) "generator" := let ⟨g, hg⟩ := hG.1; Heap.IsGen.typeIs hg
  wp_walk using wpAny_typeOf hTI, collect_gx (A := A.in1) hh hd hns tk hok hG
  · intro s' ys vs H' J rs hle hf
    show wpAny _ _ (Builtin.Tuple.tupleExact vs.toArray >>= fun v => ret v) _ _ _
    unfold Builtin.Tuple.tupleExact
    refine wpAny_bind (wpAny_newObj_type ?_ (by show vs.toArray.size ≤ sizeLine; have := rs.length; simp only [List.size_toArray]; omega))
    exact wpAny_pure (hQ s' ys vs H' J rs hle hf)
  · exact hE
theorem call_tuple_gx {n : Nat} {okA : Around → Prop} {Q : Value → Shared → Prop} {Ex : Value → Shared → Prop} (hh : A.handled = none) (hd : A.depth < recursionLimit) (hns : NoStop X.K E) (tk : TakesF X E) (hok : okA A.in1.in1.in1)
    (hG : GStart X pins σ E (fun ys H => ys.length ≤ sizeLine ∧ Fin ys H) YdL a n okA s) (hQ : ∀ s' ys vs H', Inv X pins σ H' s' → Vals ys vs → ys.length ≤ sizeLine → Fin ys H' → Q (.ref s'.heap.objs.size) { s' with heap := s'.heap.push { cls := .type "tuple", data := .seq vs.toArray } }) (hE : ∀ e s', X.xe e s' → Ex e s') :
    wpAny (model X.prog X.w) A (call (.type "tuple") [.ref a]) Q Ex s := by
  refine callType_codes (Q₁ := fun obj s₁ => s₁.TypeIs obj "tuple" ∧ Q obj s₁) F.called_tuple (F.typeCall_tuple_1 _) F.entry_object_init
    (code_tuple_gx (A := A.in1) hh hd hns tk hok hG (fun s' ys vs H' J rs hle hf => ⟨⟨_, Heap.get?_push_size _ rfl, rfl⟩, hQ s' ys vs H' J rs hle hf⟩) hE) fun obj s₁ h₁ => ?_
  exact ⟨h₁.1, F.args_object_init_2 obj _, object_init_meets F.called_tuple.init.lookup F.called_tuple.made (by decide) _ _ A.in1 _ s₁ ⟨h₁.1, rfl, h₁.2⟩⟩
end
end GX
end

section
set_option Elab.async false
set_option linter.all false
set_option maxRecDepth 100000
set_option maxHeartbeats 2000000
/-! D1: data by value, over the abstract heap; owned parts. -/
namespace DL
open PySem PySem.Spec PyProof.Rows L2

/-- a datum; the flag: the object is the owner's alone (it may be written) -/
inductive D where
  | non | bl (b : Bool) | int (i : Int) | str (s : Str)
  | tup (ds : List D) | lst (o : Bool) (ds : List D)
  | dk (o : Bool) (ks : List Key) (ds : List D) | dt (o : Bool) (ks : List (List Key)) (ds : List D)
  | ins (o : Bool) (c : Nat) (fs : List Str) (ds : List D)
  /-- the script -/
  | scr (ns : List Int)
  /-- a function object, by its number -/
  | fn (i : Nat)
  /-- a tuple whose object is known: it has no dict -/
  | ptup (ds : List D)
  deriving Inhabited

abbrev AS := Addr → Prop
abbrev A0 : AS := fun _ => False
/-- the classes' addresses; the written part -/
structure CN where
  c : Nat → Addr
  K : PySem.W.Frag
  /-- the function objects: number, address, code object; the code objects' name -/
  L : Nat → Addr → Addr → Heap → Prop
  q : Str

/-- owned: a node's address stands in F and in O; not owned: it is not in O -/
def At (O : AS) (F : AS) (o : Bool) (a : Addr) : Prop := if o = true then O a ∧ F a else ¬ O a
/-- what the parts of a node may own -/
def Sub (F : AS) (o : Bool) (a : Addr) (G : AS) : Prop := if o = true then (∀ b, G b → F b) ∧ ¬ G a else ∀ b, ¬ G b
/-- read (not owned) or written (owned) -/
def RdO (H : Hp) (o : Bool) (a : Addr) (u : HO) : Prop := if o = true then H a = some u else Rd H a u

mutual
def Ow (C : CN) (O : AS) (H : Hp) (F : AS) : D → V → Prop
  | .non, v => v = .non
  | .bl b, v => v = .bl b
  | .int i, v => v = .int i
  | .str x, v => v = .str x
  | .fn i, v => ∃ a c', v = .ref a ∧ H a = some (.ext (C.L i a c')) ∧ H c' = some (LamX.CodeO c' C.q) ∧ ¬ O a ∧ ¬ O c'
  | .scr ns, v => ∃ a, v = .ref a ∧ ((Rd H a (.lst (ns.map V.int)) ∧ ¬ O a) ∨ SqL C.K (fun _ => none) a (ns.map V.int))
  | .tup ds, v => ∃ a vs, v = .ref a ∧ H a = some (.tup vs) ∧ ¬ O a ∧ OwL C O H A0 ds vs
  | .ptup ds, v => ∃ a vs ob, v = .ref a ∧ H a = some (.frz ob (.tup vs)) ∧ ob.dict = none ∧ ¬ O a ∧ OwL C O H A0 ds vs
  | .lst o ds, v => ∃ a vs G, v = .ref a ∧ H a = some (.lst vs) ∧ At O F o a ∧ Sub F o a G ∧ OwL C O H G ds vs
  | .dk o ks ds, v => ∃ a kvs G, v = .ref a ∧ RdO H o a (.dK kvs) ∧ At O F o a ∧ Sub F o a G ∧ kvs.map (·.1) = ks ∧ OwL C O H G ds (kvs.map (·.2))
  | .dt o ks ds, v => ∃ a kvs G, v = .ref a ∧ RdO H o a (.dT kvs) ∧ At O F o a ∧ Sub F o a G ∧ kvs.map (·.1) = ks ∧ OwL C O H G ds (kvs.map (·.2))
  | .ins o c ns ds, v => ∃ a dx fs G, v = .ref a ∧ H a = some (.ins (C.c c) dx fs) ∧ At O F o a ∧ Sub F o a G ∧ fs.map (·.1) = ns ∧ OwL C O H G ds (fs.map (·.2))
def OwL (C : CN) (O : AS) (H : Hp) (F : AS) : List D → List V → Prop
  | [], vs => vs = []
  | d :: ds, vs => ∃ v r F1 F2, vs = v :: r ∧ (∀ b, F1 b → F b ∧ ¬ F2 b) ∧ (∀ b, F2 b → F b) ∧ Ow C O H F1 d v ∧ OwL C O H F2 ds r
end
/-- not owned anywhere -/
abbrev Fz (C : CN) (O : AS) (H : Hp) (d : D) (v : V) : Prop := Ow C O H A0 d v
abbrev FzL (C : CN) (O : AS) (H : Hp) (ds : List D) (vs : List V) : Prop := OwL C O H A0 ds vs

theorem OwL.length {C O H} : ∀ {F : AS} {ds : List D} {vs : List V}, OwL C O H F ds vs → vs.length = ds.length
  | _, [], vs, h => by unfold OwL at h; simp [h]
  | _, d :: ds, vs, h => by
    unfold OwL at h
    obtain ⟨v, r, F1, F2, rfl, _, _, _, h⟩ := h
    simp [OwL.length h]

/-! ### more may be owned -/
theorem Sub.mono {F F' G : AS} {o a} (h : Sub F o a G) (hf : ∀ b, F b → F' b) : Sub F' o a G := by
  unfold Sub at *
  split
  · rename_i e; rw [if_pos e] at h; exact ⟨fun b hb => hf _ (h.1 _ hb), h.2⟩
  · rename_i e; rw [if_neg e] at h; exact h
theorem At.mono {O F F' : AS} {o a} (h : At O F o a) (hf : ∀ b, F b → F' b) : At O F' o a := by
  unfold At at *
  split
  · rename_i e; rw [if_pos e] at h; exact ⟨h.1, hf _ h.2⟩
  · rename_i e; rw [if_neg e] at h; exact h
theorem Ow.mono {C O H} {F F' : AS} (hf : ∀ b, F b → F' b) {d : D} {v : V} (h : Ow C O H F d v) : Ow C O H F' d v := by
  cases d with
  | non => exact h
  | bl b => exact h
  | int b => exact h
  | str b => exact h
  | fn a => exact h
  | scr ds => exact h
  | tup ds => exact h
  | ptup ds => exact h
  | lst o ds => unfold Ow at *; obtain ⟨a, vs, G, h1, h2, h3, h4, h5⟩ := h; exact ⟨a, vs, G, h1, h2, h3.mono hf, h4.mono hf, h5⟩
  | dk o ks ds => unfold Ow at *; obtain ⟨a, vs, G, h1, h2, h3, h4, h5⟩ := h; exact ⟨a, vs, G, h1, h2, h3.mono hf, h4.mono hf, h5⟩
  | dt o ks ds => unfold Ow at *; obtain ⟨a, vs, G, h1, h2, h3, h4, h5⟩ := h; exact ⟨a, vs, G, h1, h2, h3.mono hf, h4.mono hf, h5⟩
  | ins o c ns ds => unfold Ow at *; obtain ⟨a, dx, fs, G, h1, h2, h3, h4, h5⟩ := h; exact ⟨a, dx, fs, G, h1, h2, h3.mono hf, h4.mono hf, h5⟩
theorem OwL.mono {C O H} {F F' : AS} (hf : ∀ b, F b → F' b) {ds : List D} {vs : List V} (h : OwL C O H F ds vs) : OwL C O H F' ds vs := by
  cases ds with
  | nil => exact h
  | cons d ds =>
    unfold OwL at *
    obtain ⟨v, r, F1, F2, e, h1, h2, h3, h4⟩ := h
    exact ⟨v, r, F1, F2, e, fun b hb => ⟨hf _ (h1 b hb).1, (h1 b hb).2⟩, fun b hb => hf _ (h2 b hb), h3, h4⟩

/-- something other than a tuple -/

def nT : HO → Prop
  | .tup _ => False
  | .frz _ (.tup _) => False
  | .tbl _ => False
  | .ext _ => False
  | _ => True
def Ob (H : Hp) (a : Addr) : Prop := ∃ u, H a = some u ∧ nT u
theorem Ob.ne {H : Hp} {a : Addr} (h : Ob H a) : H a ≠ none := by
  obtain ⟨u, e, _⟩ := h
  rw [e]; simp
/-! ### what stays -/
def isD : HO → Prop
  | .dK _ => True
  | .dT _ => True
  | _ => False
def isT : HO → Prop
  | .tbl _ => True
  | _ => False
/-- the object u stays (a dict may be locked) -/
def Kp (u : HO) (o : Option HO) : Prop := o = some u ∨ (isD u ∧ ∃ ob, o = some (.frz ob u))
/-- what is not in W stays (tables aside) -/
def Keep (W : AS) (H H' : Hp) : Prop := ∀ a u, H a = some u → ¬ W a → ¬ isT u → Kp u (H' a)
theorem Keep.refl {W : AS} {H : Hp} : Keep W H H := fun _ _ h _ _ => .inl h
theorem Kp.trans {u : HO} {H1 H2 : Hp} {a : Addr} (h : Kp u (H1 a)) (k : ∀ u', H1 a = some u' → ¬ isT u' → Kp u' (H2 a)) (nt : ¬ isT u) : Kp u (H2 a) := by
  rcases h with h | ⟨hd, ob, h⟩
  · exact k _ h nt
  · rcases k _ h (fun z => z) with z | ⟨z, _⟩
    · exact .inr ⟨hd, ob, z⟩
    · exact z.elim
theorem Keep.trans {W W' : AS} {H H1 H2 : Hp} (a : Keep W H H1) (b : Keep W' H1 H2) (hw : ∀ c, W' c → W c ∨ H c = none) : Keep W H H2 := fun c u h nw nt => by
  have nw' : ¬ W' c := fun z => by
    rcases hw c z with z | z
    · exact nw z
    · rw [z] at h; cases h
  exact (a c u h nw nt).trans (fun u' h' nt' => b c u' h' nw' nt') nt
theorem Keep.rd {W : AS} {H H' : Hp} (k : Keep W H H') {a : Addr} {u : HO} (h : Rd H a u) (nw : ¬ W a) (nt : ¬ isT u) : Rd H' a u := by
  rcases h with h | ⟨ob, h⟩
  · rcases k a u h nw nt with z | ⟨_, ob, z⟩
    · exact .inl z
    · exact .inr ⟨ob, z⟩
  · rcases k a _ h nw (fun z => z) with z | ⟨z, _⟩
    · exact .inr ⟨ob, z⟩
    · exact z.elim
theorem Keep.ins {W : AS} {H H' : Hp} (k : Keep W H H') {a : Addr} {C dx fs} (h : H a = some (.ins C dx fs)) (nw : ¬ W a) : H' a = some (.ins C dx fs) := by
  rcases k a _ h nw (fun z => z) with z | ⟨z, _⟩
  · exact z
  · exact z.elim
theorem rd_dom {H : Hp} {a u} (h : Rd H a u) : H a ≠ none := by
  rcases h with h | ⟨o, h⟩ <;> rw [h] <;> simp

/-- O has grown by new addresses, W is what may change -/
structure Stay (C : CN) (O O' W F : AS) (H H' : Hp) : Prop where
  keep : Keep W H H'
  own : ∀ a, F a → H' a = H a
  wo : ∀ a, W a → O a
  gro : ∀ a, O' a → O a ∨ H a = none
  inn : ∀ a, F a → O' a
theorem Stay.sub {C O O' W F G H H'} (h : Stay C O O' W F H H') (hf : ∀ b, G b → F b) : Stay C O O' W G H H' := ⟨h.keep, fun a ha => h.own a (hf a ha), h.wo, h.gro, fun a ha => h.inn a (hf a ha)⟩

theorem RdO.stay {C O O' W F H H'} (s : Stay C O O' W F H H') {o : Bool} {a : Addr} {u : HO} (h : RdO H o a u) (t : At O F o a) (nt : ¬ isT u) : RdO H' o a u ∧ At O' F o a := by
  unfold RdO At at *
  split
  · rename_i e
    rw [if_pos e] at h t
    exact ⟨(s.own a t.2).trans h, s.inn a t.2, t.2⟩
  · rename_i e
    rw [if_neg e] at h t
    refine ⟨s.keep.rd h (fun z => t (s.wo a z)) nt, fun z => ?_⟩
    rcases s.gro a z with z | z
    · exact t z
    · exact rd_dom h z
theorem ex_stay {C O O' W F H H'} (s : Stay C O O' W F H H') {o : Bool} {a : Addr} {u : HO} (h : H a = some u) (t : At O F o a) (nt : ¬ isT u) (nd : ¬ isD u) : H' a = some u ∧ At O' F o a := by
  have h2 : RdO H o a u := by unfold RdO; split; exact h; exact .inl h
  obtain ⟨k1, k2⟩ := h2.stay s t nt
  refine ⟨?_, k2⟩
  unfold RdO At at *
  split at k1
  · exact k1
  · rename_i e
    rw [if_neg e] at t
    rcases s.keep a u h (fun z => t (s.wo a z)) nt with z | ⟨z, _⟩
    · exact z
    · exact absurd z nd
theorem Sub.stay {C O O' W F H H'} (s : Stay C O O' W F H H') {o : Bool} {a : Addr} {G : AS} (h : Sub F o a G) : Stay C O O' W G H H' := by
  unfold Sub at h
  split at h
  · exact s.sub h.1
  · exact s.sub fun b hb => absurd hb (h b)
mutual
theorem Ow.stay {C O O' W F H H'} (s : Stay C O O' W F H H') : ∀ (d : D) (v : V), Ow C O H F d v → Ow C O' H' F d v
  | .non, v, h => h
  | .bl _, v, h => h
  | .int _, v, h => h
  | .str _, v, h => h
  | .fn i, v, h => by
    unfold Ow at *
    obtain ⟨a, c', h1, h2, h3, h4, h5⟩ := h
    have st : ∀ {b : Addr} {u : HO}, H b = some u → ¬ O b → ¬ isT u → ¬ isD u → H' b = some u ∧ ¬ O' b := fun {b u} e n t d => by
      refine ⟨?_, fun z => ?_⟩
      · rcases s.keep b u e (fun z => n (s.wo b z)) t with z | ⟨z, _⟩
        · exact z
        · exact absurd z d
      · rcases s.gro b z with z | z
        · exact n z
        · rw [e] at z; cases z
    obtain ⟨k1, k2⟩ := st h2 h4 (fun z => z) (fun z => z)
    obtain ⟨k3, k4⟩ := st h3 h5 (fun z => z) (fun z => z)
    exact ⟨a, c', h1, k1, k3, k2, k4⟩
  | .scr ns, v, h => by
    unfold Ow at *
    obtain ⟨a, h1, h2⟩ := h
    refine ⟨a, h1, ?_⟩
    rcases h2 with ⟨h2, h3⟩ | h2
    · refine .inl ⟨s.keep.rd h2 (fun z => h3 (s.wo a z)) (fun z => z), fun z => ?_⟩
      rcases s.gro a z with z | z
      · exact h3 z
      · exact rd_dom h2 z
    · exact .inr h2
  | .tup ds, v, h => by
    unfold Ow at *
    obtain ⟨a, vs, h1, h2, h3, h4⟩ := h
    obtain ⟨k1, k2⟩ := ex_stay s (o := false) h2 h3 (fun z => z) (fun z => z)
    exact ⟨a, vs, h1, k1, k2, OwL.stay (s.sub fun b hb => hb.elim) ds vs h4⟩
  | .ptup ds, v, h => by
    unfold Ow at *
    obtain ⟨a, vs, ob, h1, h2, h5, h3, h4⟩ := h
    obtain ⟨k1, k2⟩ := ex_stay s (o := false) h2 h3 (fun z => z) (fun z => z)
    exact ⟨a, vs, ob, h1, k1, h5, k2, OwL.stay (s.sub fun b hb => hb.elim) ds vs h4⟩
  | .lst o ds, v, h => by
    unfold Ow at *
    obtain ⟨a, vs, G, h1, h2, h3, h4, h5⟩ := h
    obtain ⟨k1, k2⟩ := ex_stay s h2 h3 (fun z => z) (fun z => z)
    exact ⟨a, vs, G, h1, k1, k2, h4, OwL.stay (h4.stay s) ds vs h5⟩
  | .dk o ks ds, v, h => by
    unfold Ow at *
    obtain ⟨a, vs, G, h1, h2, h3, h4, h5, h6⟩ := h
    obtain ⟨k1, k2⟩ := h2.stay s h3 (fun z => z)
    exact ⟨a, vs, G, h1, k1, k2, h4, h5, OwL.stay (h4.stay s) ds _ h6⟩
  | .dt o ks ds, v, h => by
    unfold Ow at *
    obtain ⟨a, vs, G, h1, h2, h3, h4, h5, h6⟩ := h
    obtain ⟨k1, k2⟩ := h2.stay s h3 (fun z => z)
    exact ⟨a, vs, G, h1, k1, k2, h4, h5, OwL.stay (h4.stay s) ds _ h6⟩
  | .ins o c ns ds, v, h => by
    unfold Ow at *
    obtain ⟨a, dx, fs, G, h1, h2, h3, h4, h5, h6⟩ := h
    obtain ⟨k1, k2⟩ := ex_stay s h2 h3 (fun z => z) (fun z => z)
    exact ⟨a, dx, fs, G, h1, k1, k2, h4, h5, OwL.stay (h4.stay s) ds _ h6⟩
theorem OwL.stay {C O O' W F H H'} (s : Stay C O O' W F H H') : ∀ (ds : List D) (vs : List V), OwL C O H F ds vs → OwL C O' H' F ds vs
  | [], vs, h => h
  | d :: ds, vs, h => by
    unfold OwL at *
    obtain ⟨v, r, F1, F2, h1, h2, h3, h4, h5⟩ := h
    exact ⟨v, r, F1, F2, h1, h2, h3, Ow.stay (s.sub fun b hb => (h2 b hb).1) d v h4, OwL.stay (s.sub h3) ds r h5⟩
end

/-! ### no longer owned -/
mutual
def fz : D → D
  | .non => .non
  | .bl b => .bl b
  | .int i => .int i
  | .str x => .str x
  | .tup ds => .tup ds
  | .ptup ds => .ptup ds
  | .fn a => .fn a
  | .scr ns => .scr ns
  | .lst _ ds => .lst false (fzL ds)
  | .dk _ ks ds => .dk false ks (fzL ds)
  | .dt _ ks ds => .dt false ks (fzL ds)
  | .ins _ c ns ds => .ins false c ns (fzL ds)
def fzL : List D → List D
  | [] => []
  | d :: ds => fz d :: fzL ds
end
theorem fzL_map : ∀ ds : List D, fzL ds = ds.map fz
  | [] => by simp [fzL]
  | d :: ds => by simp [fzL, fzL_map ds]
theorem OwL.shr {C O O' H} (ho : ∀ a, O' a → O a) : ∀ (ds : List D) (vs : List V), OwL C O H A0 ds vs → OwL C O' H A0 ds vs :=
  OwL.stay (W := A0) ⟨.refl, fun _ z => z.elim, fun _ z => z.elim, fun a z => .inl (ho a z), fun _ z => z.elim⟩
theorem Ow.shr {C O O' H} (ho : ∀ a, O' a → O a) : ∀ (d : D) (v : V), Ow C O H A0 d v → Ow C O' H A0 d v :=
  Ow.stay (W := A0) ⟨.refl, fun _ z => z.elim, fun _ z => z.elim, fun a z => .inl (ho a z), fun _ z => z.elim⟩
theorem rdF {H o a u} (h : RdO H o a u) : RdO H false a u := by
  unfold RdO at *
  split at h
  · exact .inl h
  · exact h
theorem nat {O O' F : AS} {o a} (ho : ∀ a, O' a → O a ∧ ¬ F a) (h : At O F o a) : At O' A0 false a := by
  unfold At at *
  split at h
  · exact fun z => (ho a z).2 h.2
  · exact fun z => h (ho a z).1
theorem sub_ok {O O' F G : AS} {o a} (ho : ∀ a, O' a → O a ∧ ¬ F a) (h : Sub F o a G) : ∀ a, O' a → O a ∧ ¬ G a := fun b hb => ⟨(ho b hb).1, fun z => by
  unfold Sub at h
  split at h
  · exact (ho b hb).2 (h.1 b z)
  · exact h b z⟩
mutual
theorem Ow.fz {C O O' H} {F : AS} (ho : ∀ a, O' a → O a ∧ ¬ F a) : ∀ (d : D) (v : V), Ow C O H F d v → Ow C O' H A0 (fz d) v
  | .non, v, h => h
  | .bl _, v, h => h
  | .int _, v, h => h
  | .str _, v, h => h
  | .fn i, v, h => by
    unfold Ow at *
    unfold DL.fz
    obtain ⟨a, c', h1, h2, h3, h4, h5⟩ := h
    exact ⟨a, c', h1, h2, h3, fun z => h4 (ho a z).1, fun z => h5 (ho c' z).1⟩
  | .scr ns, v, h => by
    unfold Ow at *
    unfold DL.fz
    obtain ⟨a, h1, h2⟩ := h
    refine ⟨a, h1, ?_⟩
    rcases h2 with ⟨h2, h3⟩ | h2
    · exact .inl ⟨h2, fun z => h3 (ho a z).1⟩
    · exact .inr h2
  | .tup ds, v, h => by
    unfold Ow at *
    unfold DL.fz
    obtain ⟨a, vs, h1, h2, h3, h4⟩ := h
    refine ⟨a, vs, h1, h2, fun z => h3 (ho a z).1, OwL.shr (fun b hb => (ho b hb).1) ds vs h4⟩
  | .ptup ds, v, h => by
    unfold Ow at *
    unfold DL.fz
    obtain ⟨a, vs, ob, h1, h2, h5, h3, h4⟩ := h
    refine ⟨a, vs, ob, h1, h2, h5, fun z => h3 (ho a z).1, OwL.shr (fun b hb => (ho b hb).1) ds vs h4⟩
  | .lst o ds, v, h => by
    unfold Ow at h
    unfold DL.fz Ow
    obtain ⟨a, vs, G, h1, h2, h3, h4, h5⟩ := h
    exact ⟨a, vs, A0, h1, h2, nat ho h3, by simp [Sub], OwL.fz (sub_ok ho h4) ds vs h5⟩
  | .dk o ks ds, v, h => by
    unfold Ow at h
    unfold DL.fz Ow
    obtain ⟨a, vs, G, h1, h2, h3, h4, h5, h6⟩ := h
    exact ⟨a, vs, A0, h1, rdF h2, nat ho h3, by simp [Sub], h5, OwL.fz (sub_ok ho h4) ds _ h6⟩
  | .dt o ks ds, v, h => by
    unfold Ow at h
    unfold DL.fz Ow
    obtain ⟨a, vs, G, h1, h2, h3, h4, h5, h6⟩ := h
    exact ⟨a, vs, A0, h1, rdF h2, nat ho h3, by simp [Sub], h5, OwL.fz (sub_ok ho h4) ds _ h6⟩
  | .ins o c ns ds, v, h => by
    unfold Ow at h
    unfold DL.fz Ow
    obtain ⟨a, dx, fs, G, h1, h2, h3, h4, h5, h6⟩ := h
    exact ⟨a, dx, fs, A0, h1, h2, nat ho h3, by simp [Sub], h5, OwL.fz (sub_ok ho h4) ds _ h6⟩
theorem OwL.fz {C O O' H} {F : AS} (ho : ∀ a, O' a → O a ∧ ¬ F a) : ∀ (ds : List D) (vs : List V), OwL C O H F ds vs → OwL C O' H A0 (fzL ds) vs
  | [], vs, h => h
  | d :: ds, vs, h => by
    unfold OwL at h
    unfold fzL OwL
    obtain ⟨v, r, F1, F2, h1, h2, h3, h4, h5⟩ := h
    exact ⟨v, r, A0, A0, h1, fun b hb => hb.elim, fun b hb => hb.elim, Ow.fz (fun a ha => ⟨(ho a ha).1, fun z => (ho a ha).2 (h2 a z).1⟩) d v h4, OwL.fz (fun a ha => ⟨(ho a ha).1, fun z => (ho a ha).2 (h3 a z)⟩) ds r h5⟩
end
end DL
end

section
set_option Elab.async false
set_option linter.all false
set_option maxRecDepth 100000
set_option maxHeartbeats 2000000
/-! D2: the pure monad; where one stands; the readings of pure programs. -/
namespace DL
open PySem PySem.Spec PyProof.Rows L2

abbrev Rho := List (Option D)
inductive Out (α : Type) where
  | ok (a : α) (ρ : Rho) | exc (c : Nat) (ρ : Rho) | bad
abbrev M (α : Type) := Rho → Out α
def M.pure {α} (a : α) : M α := fun ρ => .ok a ρ
def M.bind {α β} (m : M α) (f : α → M β) : M β := fun ρ => match m ρ with
  | .ok a ρ' => f a ρ'
  | .exc c ρ' => .exc c ρ'
  | .bad => .bad
def M.bad {α} : M α := fun _ => .bad
def M.exc {α} (c : Nat) : M α := fun ρ => .exc c ρ
def M.get : M Rho := fun ρ => .ok ρ ρ
def M.opt {α} : Option α → M α
  | some a => M.pure a
  | none => M.bad
/-- if c then a, else nothing that is known -/
def M.req (c : Bool) : M Unit := if c = true then M.pure () else M.bad

def Fx : HO → Prop
  | .tbl _ => True
  | .ext _ => True
  | _ => False
/-- what is known of the tables -/
structure Tb where
  p : Hp → Prop
  st : ∀ {H H' : Hp}, p H → (∀ a u, H a = some u → Fx u → H' a = some u) → p H'
/-- the classes' addresses, the exceptions', the tables, the slots that stay -/
structure Dx where
  C : CN
  X : Nat → Addr
  T : Tb
  pn : List (Nat × V)
def OO (B : AS) (Fs : Nat → AS) : AS := fun a => B a ∨ ∃ i, Fs i a
def U (B F : AS) : AS := fun a => B a ∨ F a

structure Rel (W : Dx) (B : AS) (Fs : Nat → AS) (σ : L2.St) (H : Hp) (ρ : Rho) : Prop where
  bd : ∀ a, B a → Ob H a
  fd : ∀ i a, Fs i a → Ob H a ∧ ¬ B a
  dj : ∀ i j a, Fs i a → Fs j a → i = j
  sl : ∀ i d, ρ[i]? = some (some d) → ∃ v, σ[i]? = some (some v) ∧ Ow W.C (OO B Fs) H (Fs i) d v
  pin : ∀ p ∈ W.pn, σ[p.1]? = some (some p.2)
  len : ρ.length = σ.length
  tb : W.T.p H
structure Stp (B : AS) (Fs Fs' : Nat → AS) (H H' : Hp) : Prop where
  keep : Keep (fun a => ∃ i, Fs i a) H H'
  kb : ∀ a, B a → H' a = H a
  old : ∀ i a, Fs' i a → Fs i a ∨ H a = none
  dom : ∀ a, H a ≠ none → H' a ≠ none
theorem Stp.refl {B Fs H} : Stp B Fs Fs H H := ⟨.refl, fun _ _ => rfl, fun _ _ h => .inl h, fun _ h => h⟩
theorem Stp.weak {B B1 Fs Fs' H H'} (s : Stp B1 Fs Fs' H H') (h : ∀ a, B a → B1 a) : Stp B Fs Fs' H H' := ⟨s.keep, fun a z => s.kb a (h a z), s.old, s.dom⟩
theorem Stp.trans {B Fs Fs1 Fs2 H H1 H2} (a : Stp B Fs Fs1 H H1) (b : Stp B Fs1 Fs2 H1 H2) : Stp B Fs Fs2 H H2 := by
  have fr : ∀ c, H1 c = none → H c = none := fun c e => by
    cases q : H c with
    | none => rfl
    | some u => exact absurd e (a.dom c (by rw [q]; simp))
  refine ⟨a.keep.trans b.keep fun c ⟨i, hi⟩ => ?_, fun c z => (b.kb c z).trans (a.kb c z), fun i c h => ?_, fun c h => b.dom c (a.dom c h)⟩
  · rcases a.old i c hi with z | z
    · exact .inl ⟨i, z⟩
    · exact .inr z
  · rcases b.old i c h with z | z
    · exact a.old i c z
    · exact .inr (fr c z)
theorem Stp.fresh {B Fs Fs' H H'} (a : Stp B Fs Fs' H H') {c} (e : H' c = none) : H c = none := by
  cases q : H c with
  | none => rfl
  | some u => exact absurd e (a.dom c (by rw [q]; simp))
/-- fresh -/
def Fr (F : AS) (H : Hp) : Prop := ∀ a, F a → H a = none
theorem Rel.weak {W B B' Fs σ H ρ} (h : Rel W B' Fs σ H ρ) (hb : ∀ a, B a → B' a) : Rel W B Fs σ H ρ := by
  refine ⟨fun a ha => h.bd a (hb a ha), fun i a ha => ⟨(h.fd i a ha).1, fun z => (h.fd i a ha).2 (hb a z)⟩, h.dj, fun i d e => ?_, h.pin, h.len, h.tb⟩
  obtain ⟨v, e1, e2⟩ := h.sl i d e
  refine ⟨v, e1, Ow.stay (W := A0) ⟨.refl, fun _ _ => rfl, fun _ z => z.elim, fun a z => .inl ?_, fun a z => .inr ⟨i, z⟩⟩ d v e2⟩
  rcases z with z | z
  · exact .inl (hb a z)
  · exact .inr z

/-- what is read: the result's relation -/
abbrev RR (α β : Type) := α → AS → Hp → L2.St → AS → β → Prop
section
variable {α β γ δ : Type} (W : Dx) (E : XK)
def Post (R : RR α β) (B : AS) (Fs : Nat → AS) (σ : L2.St) (H : Hp) (o : Out α) (Q : β → Hp → Prop) : Prop :=
  match o with
  | .ok a ρ' => ∀ x H' Fs' F, Rel W (U B F) Fs' σ H' ρ' → R a (OO (U B F) Fs') H' σ F x → Stp B Fs Fs' H H' → Fr F H → Q x H'
  | .exc c ρ' => ∀ H' Fs', Rel W B Fs' σ H' ρ' → Stp B Fs Fs' H H' → E (.ref (W.X c)) none H'
  | .bad => False
def dT (R : RR α β) (m : M α) : L2.St → Hp → (β → Hp → Prop) → Prop := fun σ H Q => ∃ B Fs ρ, Rel W B Fs σ H ρ ∧ Post W E R B Fs σ H (m ρ) Q
variable {W E}
theorem Post.step {R : RR α β} {R' : RR γ δ} {B B1 : AS} {Fs Fs1 : Nat → AS} {σ : L2.St} {H H1 : Hp} {m : M α} {f : α → M γ} {ρ1 : Rho} {Q : δ → Hp → Prop} (hB : ∀ a, B a → B1 a) (st : Stp B Fs Fs1 H H1)
    (h : Post W E R' B Fs σ H (M.bind m f ρ1) Q) : Post W E R B1 Fs1 σ H1 (m ρ1) fun x H2 => ∃ Fs2 F2 a ρ2, m ρ1 = .ok a ρ2 ∧ Rel W (U B1 F2) Fs2 σ H2 ρ2 ∧ R a (OO (U B1 F2) Fs2) H2 σ F2 x ∧ Stp B1 Fs1 Fs2 H1 H2 ∧ Fr F2 H1 ∧ Post W E R' B Fs σ H (f a ρ2) Q := by
  unfold M.bind at h
  cases hm : m ρ1 with
  | ok a ρ2 =>
    rw [hm] at h
    exact fun x H2 Fs2 F2 r hr s fr => ⟨Fs2, F2, a, ρ2, rfl, r, hr, s, fr, h⟩
  | exc c ρ2 =>
    rw [hm] at h
    exact fun H2 Fs2 r s => (show Post W E R' B Fs σ H (.exc c ρ2) Q from h) H2 Fs2 (r.weak hB) (st.trans (s.weak hB))
  | bad =>
    rw [hm] at h
    exact h.elim
theorem Post.mono {R : RR α β} {B Fs σ H} {o : Out α} {Q Q' : β → Hp → Prop} (h : Post W E R B Fs σ H o Q) (hq : ∀ x H', Q x H' → Q' x H') : Post W E R B Fs σ H o Q' := by
  unfold Post at *
  cases o with
  | ok a ρ' => exact fun x H' Fs' F r hr s fr => hq _ _ (h x H' Fs' F r hr s fr)
  | exc c ρ' => exact h
  | bad => exact h
/-- the end -/
theorem Post.fin {R : RR α β} {B Fs σ H} {a : α} {ρ' : Rho} {Q : β → Hp → Prop} (h : Post W E R B Fs σ H (M.pure a ρ') Q) {x H' Fs' F} (r : Rel W (U B F) Fs' σ H' ρ') (hr : R a (OO (U B F) Fs') H' σ F x) (s : Stp B Fs Fs' H H') (fr : Fr F H) : Q x H' :=
  h x H' Fs' F r hr s fr
end

/-! ### operands -/
inductive Tk where
  | v (d : D) | s (i : Nat)
def kids : D → List D
  | .tup ds => ds
  | .ptup ds => ds
  | .lst _ ds => ds
  | .dk _ _ ds => ds
  | .dt _ _ ds => ds
  | .ins _ _ _ ds => ds
  | _ => []
mutual
/-- nothing in it is owned -/
def isFz : D → Bool
  | .lst o ds => !o && isFzL ds
  | .dk o _ ds => !o && isFzL ds
  | .dt o _ ds => !o && isFzL ds
  | .ins o _ _ ds => !o && isFzL ds
  | _ => true
def isFzL : List D → Bool
  | [] => true
  | d :: ds => isFz d && isFzL ds
end
def Tk.get (ρ : Rho) : Tk → Option D
  | .v d => if isFzL (kids d) then some d else none
  | .s i => match ρ[i]? with
    | some (some d) => if isFzL (kids d) then some d else none
    | _ => none
mutual
theorem Ow.isFz {C O H} {F : AS} : ∀ (d : D) (v : V), DL.isFz d = true → Ow C O H F d v → Ow C O H A0 d v
  | .non, v, _, h => h
  | .bl _, v, _, h => h
  | .int _, v, _, h => h
  | .str _, v, _, h => h
  | .fn _, v, _, h => h
  | .scr _, v, _, h => h
  | .tup _, v, _, h => h
  | .ptup _, v, _, h => h
  | .lst o ds, v, e, h => by
    simp [DL.isFz] at e
    obtain ⟨rfl, e⟩ := e
    unfold Ow at *
    obtain ⟨a, vs, G, h1, h2, h3, h4, h5⟩ := h
    exact ⟨a, vs, A0, h1, h2, h3, fun b z => z, OwL.isFz ds vs e h5⟩
  | .dk o ks ds, v, e, h => by
    simp [DL.isFz] at e
    obtain ⟨rfl, e⟩ := e
    unfold Ow at *
    obtain ⟨a, vs, G, h1, h2, h3, h4, h5, h6⟩ := h
    exact ⟨a, vs, A0, h1, h2, h3, fun b z => z, h5, OwL.isFz ds _ e h6⟩
  | .dt o ks ds, v, e, h => by
    simp [DL.isFz] at e
    obtain ⟨rfl, e⟩ := e
    unfold Ow at *
    obtain ⟨a, vs, G, h1, h2, h3, h4, h5, h6⟩ := h
    exact ⟨a, vs, A0, h1, h2, h3, fun b z => z, h5, OwL.isFz ds _ e h6⟩
  | .ins o c ns ds, v, e, h => by
    simp [DL.isFz] at e
    obtain ⟨rfl, e⟩ := e
    unfold Ow at *
    obtain ⟨a, dx, vs, G, h1, h2, h3, h4, h5, h6⟩ := h
    exact ⟨a, dx, vs, A0, h1, h2, h3, fun b z => z, h5, OwL.isFz ds _ e h6⟩
theorem OwL.isFz {C O H} {F : AS} : ∀ (ds : List D) (vs : List V), isFzL ds = true → OwL C O H F ds vs → OwL C O H A0 ds vs
  | [], vs, _, h => h
  | d :: ds, vs, e, h => by
    simp [isFzL] at e
    unfold OwL at *
    obtain ⟨v, r, F1, F2, h1, h2, h3, h4, h5⟩ := h
    exact ⟨v, r, A0, A0, h1, fun b hb => hb.elim, fun b hb => hb.elim, Ow.isFz d v e.1 h4, OwL.isFz ds r e.2 h5⟩
end
/-- to be read: the root may be owned, its parts are not -/
def Vw (C : CN) (O : AS) (H : Hp) : D → V → Prop
  | .non, v => v = .non
  | .bl b, v => v = .bl b
  | .int i, v => v = .int i
  | .str x, v => v = .str x
  | .fn i, v => ∃ a c', v = .ref a ∧ H a = some (.ext (C.L i a c')) ∧ H c' = some (LamX.CodeO c' C.q)
  | .scr ns, v => ∃ a, v = .ref a ∧ SqL C.K H a (ns.map V.int)
  | .tup ds, v => ∃ a vs, v = .ref a ∧ H a = some (.tup vs) ∧ FzL C O H ds vs
  | .ptup ds, v => ∃ a vs ob, v = .ref a ∧ H a = some (.frz ob (.tup vs)) ∧ ob.dict = none ∧ FzL C O H ds vs
  | .lst _ ds, v => ∃ a vs, v = .ref a ∧ H a = some (.lst vs) ∧ FzL C O H ds vs
  | .dk _ ks ds, v => ∃ a kvs, v = .ref a ∧ Rd H a (.dK kvs) ∧ kvs.map (·.1) = ks ∧ FzL C O H ds (kvs.map (·.2))
  | .dt _ ks ds, v => ∃ a kvs, v = .ref a ∧ Rd H a (.dT kvs) ∧ kvs.map (·.1) = ks ∧ FzL C O H ds (kvs.map (·.2))
  | .ins _ c ns ds, v => ∃ a dx fs, v = .ref a ∧ H a = some (.ins (C.c c) dx fs) ∧ fs.map (·.1) = ns ∧ FzL C O H ds (fs.map (·.2))
theorem rdO_rd {H o a u} (h : RdO H o a u) : Rd H a u := rdF h
theorem Vw.of {C O H F} {d : D} {v : V} (h : Ow C O H F d v) (k : isFzL (kids d) = true) : Vw C O H d v := by
  cases d with
  | non => exact h
  | bl b => exact h
  | int b => exact h
  | str b => exact h
  | fn i => unfold Ow at h; obtain ⟨a, c', h1, h2, h3, _⟩ := h; exact ⟨a, c', h1, h2, h3⟩
  | scr ns =>
    unfold Ow at h
    obtain ⟨a, h1, h2⟩ := h
    refine ⟨a, h1, ?_⟩
    rcases h2 with ⟨h2, _⟩ | h2
    · exact .inl h2
    · rcases h2 with (h2 | ⟨_, h2⟩) | h2
      · cases h2
      · cases h2
      · exact .inr h2
  | tup ds => unfold Ow at h; obtain ⟨a, vs, h1, h2, h3, h4⟩ := h; exact ⟨a, vs, h1, h2, h4⟩
  | ptup ds => unfold Ow at h; obtain ⟨a, vs, ob, h1, h2, h5, h3, h4⟩ := h; exact ⟨a, vs, ob, h1, h2, h5, h4⟩
  | lst o ds => unfold Ow at h; obtain ⟨a, vs, G, h1, h2, h3, h4, h5⟩ := h; exact ⟨a, vs, h1, h2, OwL.isFz _ _ k h5⟩
  | dk o ks ds => unfold Ow at h; obtain ⟨a, vs, G, h1, h2, h3, h4, h5, h6⟩ := h; exact ⟨a, vs, h1, rdO_rd h2, h5, OwL.isFz _ _ k h6⟩
  | dt o ks ds => unfold Ow at h; obtain ⟨a, vs, G, h1, h2, h3, h4, h5, h6⟩ := h; exact ⟨a, vs, h1, rdO_rd h2, h5, OwL.isFz _ _ k h6⟩
  | ins o c ns ds => unfold Ow at h; obtain ⟨a, dx, fs, G, h1, h2, h3, h4, h5, h6⟩ := h; exact ⟨a, dx, fs, h1, h2, h5, OwL.isFz _ _ k h6⟩
/-- an operand's value -/
def TkR (W : Dx) : RR Tk V := fun t O H σ F v => (∀ a, ¬ F a) ∧ match t with
  | .v d => Fz W.C O H d v
  | .s i => σ[i]? = some (some v)
def DR (W : Dx) : RR D V := fun d O H _ F v => Ow W.C O H F d v
/-- an expression gives the datum m; the operand m -/
def DE (W : Dx) (E : XK) (X : Cx) (e : Expr) (m : M D) : Prop := PE X e (dT W E (DR W) m)
def DK (W : Dx) (E : XK) (X : Cx) (e : Expr) (m : M Tk) : Prop := PE X e (dT W E (TkR W) m)
/-- an operand through a later step -/
theorem TkR.stay {W : Dx} {B B' Bs Fs Fs' σ H H' F} {t : Tk} {v : V} (h : TkR W t (OO B Fs) H σ F v) (s : Stp Bs Fs Fs' H H') (hb : ∀ a, B' a → B a ∨ H a = none) : TkR W t (OO B' Fs') H' σ A0 v := by
  refine ⟨fun _ z => z, ?_⟩
  cases t with
  | s i => exact h.2
  | v d =>
    refine Ow.stay (W := fun a => ∃ i, Fs i a) ⟨s.keep, fun _ z => z.elim, fun a z => .inr z, fun a z => ?_, fun a z => z.elim⟩ d v h.2
    rcases z with z | ⟨i, z⟩
    · rcases hb a z with z | z
      · exact .inl (.inl z)
      · exact .inr z
    · rcases s.old i a z with z | z
      · exact .inl (.inr ⟨i, z⟩)
      · exact .inr z
/-- an operand's value at the end -/
theorem TkR.get {W : Dx} {B Fs σ H ρ F} {t : Tk} {v : V} {d : D} (h : TkR W t (OO B Fs) H σ F v) (r : Rel W B Fs σ H ρ) (g : t.get ρ = some d) : Vw W.C (OO B Fs) H d v := by
  cases t with
  | v e =>
    have g' : (if isFzL (kids e) = true then some e else none) = some d := g
    split at g'
    · cases g'
      exact Vw.of h.2 (by assumption)
    · cases g'
  | s i =>
    have h2 : σ[i]? = some (some v) := h.2
    cases he : ρ[i]? with
    | none => simp [Tk.get, he] at g
    | some o =>
      cases o with
      | none => simp [Tk.get, he] at g
      | some e =>
        simp only [Tk.get, he] at g
        split at g
        · cases g
          obtain ⟨v', e1, e2⟩ := r.sl i _ he
          rw [h2] at e1
          cases e1
          exact Vw.of e2 (by assumption)
        · cases g
end DL
end

section
set_option Elab.async false
set_option linter.all false
set_option maxRecDepth 100000
set_option maxHeartbeats 2000000
/-! D3: constants, names, operators by values, calls of built-ins, tests. -/
namespace DL
open PySem PySem.Spec PyProof.Rows L2

theorem mnE {X : Cx} {e : Expr} {t t' : TE} (h : PE X e t) (hm : ∀ σ H Q, t' σ H Q → t σ H Q) : PE X e t' := ⟨fun pins s σ H Q I q => h.run pins s σ H Q I (hm _ _ _ q)⟩
theorem mnT {X : Cx} {e : Expr} {t t' : TT} (h : PT X e t) (hm : ∀ σ H Q, t' σ H Q → t σ H Q) : PT X e t' := ⟨fun pins s σ H Q I q => h.run pins s σ H Q I (hm _ _ _ q)⟩
theorem mnA {X : Cx} {e : List Expr} {t t' : TA} (h : PA X e t) (hm : ∀ σ H Q, t' σ H Q → t σ H Q) : PA X e t' := ⟨fun pos pins s σ H Q I q => h.run pos pins s σ H Q I (hm _ _ _ q)⟩
theorem mnS {X : Cx} {e : Stmt} {t t' : TS} (h : PS X e t) (hm : ∀ D σ H, t' D σ H → t D σ H) : PS X e t' := ⟨fun pins s σ H D I q => h.run pins s σ H D I (hm _ _ _ q)⟩
theorem mnSs {X : Cx} {e : List Stmt} {t t' : TS} (h : PSs X e t) (hm : ∀ D σ H, t' D σ H → t D σ H) : PSs X e t' := ⟨fun pins s σ H D I q => h.run pins s σ H D I (hm _ _ _ q)⟩

/-! ### new objects -/
def Alc (H H' : Hp) : Prop := ∀ a u, H a = some u → H' a = some u
theorem Alc.refl {H : Hp} : Alc H H := fun _ _ h => h
theorem Alc.trans {H H1 H2 : Hp} (a : Alc H H1) (b : Alc H1 H2) : Alc H H2 := fun c u h => b c u (a c u h)
theorem Alc.dom {H H' : Hp} (a : Alc H H') {b} (h : H b ≠ none) : H' b ≠ none := by
  cases q : H b with
  | none => exact absurd q h
  | some u => rw [a b u q]; simp
theorem Alc.ob {H H' : Hp} (a : Alc H H') {b} (h : Ob H b) : Ob H' b := by
  obtain ⟨u, e, n⟩ := h
  exact ⟨u, a b u e, n⟩
theorem Alc.stp {B Fs H H'} (a : Alc H H') (hB : ∀ b, B b → Ob H b) : Stp B Fs Fs H H' := ⟨fun b u h _ _ => .inl (a b u h), fun b z => by
    obtain ⟨u, e, _⟩ := hB b z
    rw [e]; exact a b u e, fun _ _ h => .inl h, fun _ h => a.dom h⟩
theorem alc_new {H : Hp} {p : Addr} {u : HO} (hp : H p = none) : Alc H (upd H p u) := fun b v h => by
  rw [upd_ne (ne_of_none h hp)]; exact h
theorem Rel.res {W B Fs σ H H' ρ F} (r : Rel W B Fs σ H ρ) (a : Alc H H') (f : Fr F H) (fd : ∀ b, F b → Ob H' b) : Rel W (U B F) Fs σ H' ρ := by
  refine ⟨fun b hb => ?_, fun i b hb => ⟨a.ob (r.fd i b hb).1, fun z => ?_⟩, r.dj, fun i d e => ?_, r.pin, r.len, W.T.st r.tb fun b u h _ => a b u h⟩
  · rcases hb with hb | hb
    · exact a.ob (r.bd b hb)
    · exact fd b hb
  · rcases z with z | z
    · exact (r.fd i b hb).2 z
    · exact (r.fd i b hb).1.ne (f b z)
  · obtain ⟨v, e1, e2⟩ := r.sl i d e
    refine ⟨v, e1, Ow.stay (W := A0) ⟨fun b u h _ _ => .inl (a b u h), fun b hb => ?_, fun _ z => z.elim, fun b z => ?_, fun b z => .inr ⟨i, z⟩⟩ d v e2⟩
    · cases q : H b with
      | none => exact absurd q (r.fd i b hb).1.ne
      | some u => exact a b u q
    · rcases z with (z | z) | z
      · exact .inl (.inl z)
      · exact .inr (f b z)
      · exact .inl (.inr z)
/-- what an operation by values gives: a datum of its own -/
def Res (C : CN) (O : AS) (H : Hp) (d : D) (v : V) (H' : Hp) : Prop := Alc H H' ∧ ∃ F, Fr F H ∧ (∀ a, F a → Ob H' a) ∧ Ow C (U O F) H' F d v
theorem ow_congr {C O O' H F} {d : D} {v : V} (h : Ow C O H F d v) (e : ∀ a, O a ↔ O' a) : Ow C O' H F d v := by
  have : O = O' := funext fun a => propext (e a)
  rw [← this]; exact h
theorem uoo {B F : AS} {Fs : Nat → AS} : U (OO B Fs) F = OO (U B F) Fs := by
  funext a
  apply propext
  constructor
  · rintro ((h | h) | h)
    · exact .inl (.inl h)
    · exact .inr h
    · exact .inl (.inr h)
  · rintro ((h | h) | h)
    · exact .inl (.inl h)
    · exact .inr h
    · exact .inl (.inr h)
theorem u0 {B F : AS} (h : ∀ a, ¬ F a) : U B F = B := by
  funext a
  exact propext ⟨fun z => z.elim id fun z => absurd z (h a), .inl⟩
/-- not owned, not new -/
theorem Res.same {C O H} {d : D} {v : V} (h : Fz C O H d v) : Res C O H d v H :=
  ⟨.refl, A0, fun _ z => z.elim, fun _ z => z.elim, ow_congr h fun a => ⟨.inl, fun z => z.elim id fun z => z.elim⟩⟩
theorem fzU {C O H H' F} {ds : List D} {vs : List V} (h : FzL C O H ds vs) (a : Alc H H') (f : Fr F H) : FzL C (U O F) H' ds vs :=
  OwL.stay (W := A0) ⟨fun b u h _ _ => .inl (a b u h), fun _ z => z.elim, fun _ z => z.elim, fun b z => z.elim .inl fun z => .inr (f b z), fun _ z => z.elim⟩ ds vs h
theorem fzU1 {C O H H' F} {d : D} {v : V} (h : Fz C O H d v) (a : Alc H H') (f : Fr F H) : Fz C (U O F) H' d v :=
  Ow.stay (W := A0) ⟨fun b u h _ _ => .inl (a b u h), fun _ z => z.elim, fun _ z => z.elim, fun b z => z.elim .inl fun z => .inr (f b z), fun _ z => z.elim⟩ d v h
theorem owL_mono0 {C O H} {F : AS} {ds : List D} {vs : List V} (h : FzL C O H ds vs) : OwL C O H F ds vs := h.mono fun _ z => z.elim
/-- a new list -/
theorem Res.lst {C O H} {p : Addr} {ds : List D} {vs : List V} (hp : H p = none) (h : FzL C O H ds vs) : Res C O H (.lst true ds) (.ref p) (upd H p (.lst vs)) := by
  refine ⟨alc_new hp, fun a => a = p, fun a z => by rw [z]; exact hp, fun a z => ⟨.lst vs, by rw [show a = p from z, upd_same], True.intro⟩, ?_⟩
  unfold Ow
  exact ⟨p, vs, A0, rfl, upd_same, ⟨.inr rfl, rfl⟩, ⟨fun _ z => z.elim, fun z => z⟩, fzU h (alc_new hp) fun a z => by rw [z]; exact hp⟩
/-- a new tuple -/
theorem Res.tup {C O H} {p : Addr} {ds : List D} {vs : List V} (hp : H p = none) (h : FzL C O H ds vs) (hO : ¬ O p) : Res C O H (.tup ds) (.ref p) (upd H p (.tup vs)) := by
  refine ⟨alc_new hp, A0, fun a z => z.elim, fun a z => z.elim, ?_⟩
  unfold Ow
  exact ⟨p, vs, rfl, upd_same, fun z => z.elim hO id, fzU h (alc_new hp) fun a z => z.elim⟩
theorem Res.dk {C O H} {p : Addr} {ks : List Key} {ds : List D} {kvs : List (Key × V)} (hp : H p = none) (hk : kvs.map (·.1) = ks) (h : FzL C O H ds (kvs.map (·.2))) : Res C O H (.dk true ks ds) (.ref p) (upd H p (.dK kvs)) := by
  refine ⟨alc_new hp, fun a => a = p, fun a z => by rw [z]; exact hp, fun a z => ⟨.dK kvs, by rw [show a = p from z, upd_same], True.intro⟩, ?_⟩
  unfold Ow
  exact ⟨p, kvs, A0, rfl, upd_same, ⟨.inr rfl, rfl⟩, ⟨fun _ z => z.elim, fun z => z⟩, hk, fzU h (alc_new hp) fun a z => by rw [z]; exact hp⟩

/-- what an operation may ask of what is owned: it is tracked -/
def OT (O : AS) (H : Hp) : Prop := ∀ a, O a → Ob H a
theorem Rel.ot {W B Fs σ H ρ} (r : Rel W B Fs σ H ρ) : OT (OO B Fs) H := fun a z => z.elim (r.bd a) fun ⟨i, z⟩ => (r.fd i a z).1
theorem OT.new {O H p} (h : OT O H) (hp : H p = none) : ¬ O p := fun z => (h p z).ne hp

section
variable {W : Dx} {E : XK} {X : Cx}
/-! ### constants, names -/
theorem Rel.u0 {B Fs σ H ρ F} (r : Rel W B Fs σ H ρ) (h : ∀ a, ¬ F a) : Rel W (U B F) Fs σ H ρ := by rw [DL.u0 h]; exact r
theorem Post.pure {α β : Type} {R : RR α β} {B Fs σ H ρ} {a : α} {x : β} {Q : β → Hp → Prop} (r : Rel W B Fs σ H ρ) (hr : R a (OO B Fs) H σ A0 x) (h : Post W E R B Fs σ H (M.pure a ρ) Q) : Q x H :=
  h x H Fs A0 (r.u0 fun _ z => z) (by rw [DL.u0 (F := A0) fun _ z => z]; exact hr) .refl fun _ z => z.elim
theorem de_const {e : Expr} {d : D} {v : V} (h : PE X e (tC v)) (hd : ∀ C O H, Fz C O H d v) : DE W E X e (M.pure d) := mnE h fun σ H Q ⟨B, Fs, ρ, r, p⟩ => Post.pure r (hd _ _ _) p
theorem de_int {i j pos} : DE W E X (.Constant (.int i) j pos) (M.pure (.int i)) := de_const pe_int fun _ _ _ => by unfold Ow; rfl
theorem de_bl {i j pos} : DE W E X (.Constant (.bool i) j pos) (M.pure (.bl i)) := de_const pe_bl fun _ _ _ => by unfold Ow; rfl
theorem de_str {i j pos} : DE W E X (.Constant (.str i) j pos) (M.pure (.str i)) := de_const pe_str fun _ _ _ => by unfold Ow; rfl
theorem de_non {j pos} : DE W E X (.Constant .none j pos) (M.pure .non) := de_const pe_non fun _ _ _ => by unfold Ow; rfl
/-- a name as an operand -/
def nameK (i : Nat) : M Tk := fun ρ => match ρ[i]? with
  | some (some _) => .ok (.s i) ρ
  | _ => .bad
theorem dk_var {e : Expr} {i : Nat} (h : PE X e (tVar i)) : DK W E X e (nameK i) := mnE h fun σ H Q ⟨B, Fs, ρ, r, p⟩ => by
  unfold nameK at p
  cases he : ρ[i]? with
  | none => rw [he] at p; exact p.elim
  | some o =>
    cases o with
    | none => rw [he] at p; exact p.elim
    | some d =>
      rw [he] at p
      obtain ⟨v, e1, e2⟩ := r.sl i d he
      exact ⟨v, e1, Post.pure (R := TkR W) r ⟨fun _ z => z, e1⟩ p⟩
/-- a name as a value: no longer owned -/
def nameE (i : Nat) : M D := fun ρ => match ρ[i]? with
  | some (some d) => if isFz d = true then .ok d ρ else .ok (fz d) (ρ.set i (some (fz d)))
  | _ => .bad
theorem isFz_fz_aux : True := trivial
mutual
theorem isFz_fz : ∀ d : D, isFz (fz d) = true
  | .non => by simp [fz, isFz]
  | .bl _ => by simp [fz, isFz]
  | .int _ => by simp [fz, isFz]
  | .str _ => by simp [fz, isFz]
  | .tup _ => by simp [fz, isFz]
  | .ptup _ => by simp [fz, isFz]
  | .fn _ => by simp [fz, isFz]
  | .scr _ => by simp [fz, isFz]
  | .lst _ ds => by simp [fz, isFz, isFzL_fz ds]
  | .dk _ _ ds => by simp [fz, isFz, isFzL_fz ds]
  | .dt _ _ ds => by simp [fz, isFz, isFzL_fz ds]
  | .ins _ _ _ ds => by simp [fz, isFz, isFzL_fz ds]
theorem isFzL_fz : ∀ ds : List D, isFzL (fzL ds) = true
  | [] => by simp [fzL, isFzL]
  | d :: ds => by simp [fzL, isFzL, isFz_fz d, isFzL_fz ds]
end
/-- a slot is no longer owned -/
theorem Rel.unown {B Fs σ H ρ i d} (r : Rel W B Fs σ H ρ) (e : ρ[i]? = some (some d)) :
    ∃ Fs', Rel W B Fs' σ H (ρ.set i (some (fz d))) ∧ Stp B Fs Fs' H H ∧ ∃ v, σ[i]? = some (some v) ∧ Fz W.C (OO B Fs') H (fz d) v := by
  let Fs' : Nat → AS := fun j => if j = i then A0 else Fs j
  have sub : ∀ j a, Fs' j a → j ≠ i ∧ Fs j a := fun j a h => by
    by_cases hj : j = i
    · have h' : (if j = i then A0 else Fs j) a := h
      rw [if_pos hj] at h'
      exact h'.elim
    · have h' : (if j = i then A0 else Fs j) a := h
      rw [if_neg hj] at h'
      exact ⟨hj, h'⟩
  have shr : ∀ a, OO B Fs' a → OO B Fs a ∧ ¬ Fs i a := fun a z => by
    rcases z with z | ⟨j, z⟩
    · exact ⟨.inl z, fun q => (r.fd i a q).2 z⟩
    · exact ⟨.inr ⟨j, (sub j a z).2⟩, fun q => (sub j a z).1 (r.dj _ _ a (sub j a z).2 q)⟩
  obtain ⟨v, e1, e2⟩ := r.sl i d e
  have hf := Ow.fz shr d v e2
  refine ⟨Fs', ⟨r.bd, fun j a h => r.fd j a (sub j a h).2, fun j k a h1 h2 => r.dj j k a (sub j a h1).2 (sub k a h2).2, fun j d' h => ?_, r.pin, by rw [List.length_set]; exact r.len, r.tb⟩, ⟨.refl, fun _ _ => rfl, fun j a h => .inl (sub j a h).2, fun _ h => h⟩, v, e1, hf⟩
  by_cases hj : j = i
  · subst hj
    have hl : j < ρ.length := (List.getElem?_eq_some_iff.mp e).1
    rw [List.getElem?_set_self hl] at h
    cases h
    exact ⟨v, e1, hf.mono fun _ z => z.elim⟩
  · rw [List.getElem?_set_ne (Ne.symm hj)] at h
    obtain ⟨v', q1, q2⟩ := r.sl j d' h
    refine ⟨v', q1, ?_⟩
    have hFj : Fs' j = Fs j := by show (if j = i then A0 else Fs j) = Fs j; rw [if_neg hj]
    rw [hFj]
    exact Ow.stay (W := A0) ⟨.refl, fun _ _ => rfl, fun _ z => z.elim, fun a z => .inl (shr a z).1, fun a z => .inr ⟨j, by rw [hFj]; exact z⟩⟩ d' v' q2
theorem de_var {e : Expr} {i : Nat} (h : PE X e (tVar i)) : DE W E X e (nameE i) := mnE h fun σ H Q ⟨B, Fs, ρ, r, p⟩ => by
  unfold nameE at p
  cases he : ρ[i]? with
  | none => rw [he] at p; exact p.elim
  | some o =>
    cases o with
    | none => rw [he] at p; exact p.elim
    | some d =>
      simp only [he] at p
      split at p
      · rename_i hz
        obtain ⟨v, e1, e2⟩ := r.sl i d he
        exact ⟨v, e1, Post.pure (R := DR W) r (Ow.isFz d v hz e2) p⟩
      · obtain ⟨Fs', r', st, v, e1, hf⟩ := r.unown he
        exact ⟨v, e1, p v H Fs' A0 (r'.u0 fun _ z => z) (by rw [DL.u0 (F := A0) fun _ z => z]; exact hf) st fun _ z => z.elim⟩
/-- a value as an operand -/
def toK (m : M D) : M Tk := M.bind m fun d => M.pure (.v (fz d))
theorem Rel.drop {B F Fs σ H ρ} (r : Rel W (U B F) Fs σ H ρ) : Rel W B Fs σ H ρ := r.weak fun _ z => .inl z
theorem dk_of {e : Expr} {m : M D} (h : DE W E X e m) : DK W E X e (toK m) := mnE h fun σ H Q ⟨B, Fs, ρ, r, p⟩ =>
  ⟨B, Fs, ρ, r, (Post.step (fun _ z => z) .refl p).mono fun x H' ⟨Fs2, F2, d, ρ2, _, r2, hd, s2, f2, p2⟩ => by
    have r3 := r2.drop
    refine p2 x H' Fs2 A0 (r3.u0 fun _ z => z) ?_ s2 fun _ z => z.elim
    rw [DL.u0 (F := A0) fun _ z => z]
    refine ⟨fun _ z => z, Ow.fz (fun a z => ?_) d x hd⟩
    rcases z with z | ⟨i, z⟩
    · exact ⟨.inl (.inl z), fun q => (r.bd a z).ne (f2 a q)⟩
    · exact ⟨.inr ⟨i, z⟩, fun q => (r2.fd i a z).2 (.inr q)⟩⟩
end
end DL
end

section
set_option Elab.async false
set_option linter.all false
set_option maxRecDepth 100000
set_option maxHeartbeats 2000000
/-! D4: operators, calls by values; tests; and, or, not, if. -/
namespace DL
open PySem PySem.Spec PyProof.Rows L2

section
variable {W : Dx} {E : XK} {X : Cx}
/-- an operation's reading r, and what it computes -/
def Sp2 (C : CN) (r : R2) (g : D → D → Option D) : Prop := ∀ (O : AS) (H : Hp) (x y : D) (a b : V) (d : D) (Q : VK), OT O H → Vw C O H x a → Vw C O H y b → g x y = some d → (∀ v H', Res C O H d v H' → Q v H') → r a b H Q
def op2 (g : D → D → Option D) (ma mb : M Tk) : M D := M.bind ma fun t => M.bind mb fun u => fun ρ => match t.get ρ, u.get ρ with
  | some x, some y => M.opt (g x y) ρ
  | _, _ => .bad
/-- the end of an operation by values -/
theorem Post.res {B B1 Fs Fs1 σ H H1 H' ρ1 d v} {Q : VK} (hB : ∀ a, B a → B1 a) (st : Stp B Fs Fs1 H H1) (r : Rel W B1 Fs1 σ H1 ρ1) (rs : Res W.C (OO B1 Fs1) H1 d v H') (p : Post W E (DR W) B Fs σ H (M.pure d ρ1) Q) : Q v H' := by
  obtain ⟨al, F, f, fd, ow⟩ := rs
  have r1 := (r.res al f fd).weak (B := U B F) fun a z => z.elim (fun z => .inl (hB a z)) .inr
  refine p v H' Fs1 F r1 ?_ (st.trans (al.stp fun a z => r.bd a (hB a z))) fun a z => st.fresh (f a z)
  refine Ow.stay (W := A0) ⟨.refl, fun _ _ => rfl, fun _ z => z.elim, fun a z => .inl ?_, fun a z => .inl (.inr z)⟩ d v ow
  rcases z with (z | z) | z
  · exact .inl (.inl (hB a z))
  · exact .inr z
  · exact .inl (.inr z)
theorem bin_rd {r : R2} {g : D → D → Option D} (hr : Sp2 W.C r g) {ma mb : M Tk} {σ : L2.St} {H : Hp} {Q : VK} (h : dT W E (DR W) (op2 g ma mb) σ H Q) :
    dT W E (TkR W) ma σ H fun x H1 => dT W E (TkR W) mb σ H1 fun y H2 => r x y H2 Q := by
  obtain ⟨B, Fs, ρ, r0, p⟩ := h
  refine ⟨B, Fs, ρ, r0, (Post.step (fun _ z => z) .refl p).mono fun x H1 ⟨Fs1, F1, t, ρ1, _, r1, ht, s1, f1, p1⟩ => ?_⟩
  refine ⟨U B F1, Fs1, ρ1, r1, (Post.step (fun _ z => .inl z) s1 p1).mono fun y H2 ⟨Fs2, F2, u, ρ2, _, r2, hu, s2, f2, p2⟩ => ?_⟩
  have ht2 : TkR W t (OO (U (U B F1) F2) Fs2) H2 σ A0 x := ht.stay s2 fun a z => z.elim .inl fun z => .inr (f2 a z)
  cases gx : t.get ρ2 with
  | none =>
    rw [show (match t.get ρ2, u.get ρ2 with | some x, some y => M.opt (g x y) ρ2 | _, _ => Out.bad) = Out.bad by rw [gx]] at p2
    exact p2.elim
  | some dx =>
    cases gy : u.get ρ2 with
    | none =>
      rw [show (match t.get ρ2, u.get ρ2 with | some x, some y => M.opt (g x y) ρ2 | _, _ => Out.bad) = Out.bad by rw [gx, gy]] at p2
      exact p2.elim
    | some dy =>
      rw [show (match t.get ρ2, u.get ρ2 with | some x, some y => M.opt (g x y) ρ2 | _, _ => Out.bad) = M.opt (g dx dy) ρ2 by rw [gx, gy]] at p2
      cases gd : g dx dy with
      | none => rw [gd] at p2; exact p2.elim
      | some d =>
        rw [gd] at p2
        exact hr _ H2 dx dy x y d Q r2.ot (ht2.get r2 gx) (hu.get r2 gy) gd fun v H' rs => Post.res (fun a z => .inl (.inl z)) (s1.trans (s2.weak fun a z => .inl z)) r2 rs p2
theorem de_bin {op : Operator} {r : R2} {g : D → D → Option D} {a b : Expr} {ma mb : M Tk} {pos : Pos} (ho : OpR X (binaryOp op) r) (hr : Sp2 W.C r g) (ha : DK W E X a ma) (hb : DK W E X b mb) : DE W E X (.BinOp a op b pos) (op2 g ma mb) :=
  mnE (pe_op ho ha hb) fun σ H Q h => bin_rd hr h
theorem de_cmp {op : CmpOp} {r : R2} {g : D → D → Option D} {a b : Expr} {ma mb : M Tk} {pos : Pos} (ho : OpR X (compareOp op) r) (hr : Sp2 W.C r g) (hm : behindInMarks op b = false) (ha : DK W E X a ma) (hb : DK W E X b mb) : DE W E X (.Compare a [op] [b] pos) (op2 g ma mb) :=
  mnE (pe_cmpR ho ha hb hm) fun σ H Q h => bin_rd hr h
theorem de_ix {r : R2} {g : D → D → Option D} {a b : Expr} {ma mb : M Tk} {pos : Pos} (ho : IxR X r) (hr : Sp2 W.C r g) (hs : PlainIx b) (ha : DK W E X a ma) (hb : DK W E X b mb) : DE W E X (.Subscript a b pos) (op2 g ma mb) :=
  mnE (pe_ix ho ha hb hs) fun σ H Q h => bin_rd hr h
/-- several operands -/
def TksR (W : Dx) : RR (List Tk) (List V) := fun ts O H σ F vs => (∀ a, ¬ F a) ∧ Paired (fun t v => TkR W t O H σ A0 v) ts vs
def DA (W : Dx) (E : XK) (X : Cx) (es : List Expr) (m : M (List Tk)) : Prop := PA X es (dT W E (TksR W) m)
def argK0 : M (List Tk) := M.pure []
def argK (m : M Tk) (r : M (List Tk)) : M (List Tk) := M.bind m fun t => M.bind r fun ts => M.pure (t :: ts)
theorem paired_stay {B B' Bs Fs Fs' σ H H'} {ts : List Tk} {vs : List V} (h : Paired (fun t v => TkR W t (OO B Fs) H σ A0 v) ts vs) (s : Stp Bs Fs Fs' H H') (hb : ∀ a, B' a → B a ∨ H a = none) : Paired (fun t v => TkR W t (OO B' Fs') H' σ A0 v) ts vs := by
  induction h with
  | nil => exact .nil
  | cons h t ih => exact .cons (h.stay s hb) ih
theorem da_nil : DA W E X [] argK0 := mnA pa_nil fun σ H Q ⟨B, Fs, ρ, r, p⟩ => Post.pure (R := TksR W) r ⟨fun _ z => z, .nil⟩ p
theorem da_cons {e : Expr} {es : List Expr} {m : M Tk} {ms : M (List Tk)} (h : DK W E X e m) (hs : DA W E X es ms) (hst : starEach (e :: es) X.env = (false, eval e X.env) :: starEach es X.env := by rfl) : DA W E X (e :: es) (argK m ms) :=
  mnA (pa_cons h hs hst) fun σ H Q ⟨B, Fs, ρ, r0, p⟩ => ⟨B, Fs, ρ, r0, (Post.step (fun _ z => z) .refl p).mono fun x H1 ⟨Fs1, F1, t, ρ1, _, r1, ht, s1, f1, p1⟩ =>
    ⟨U B F1, Fs1, ρ1, r1, (Post.step (fun _ z => .inl z) s1 p1).mono fun ys H2 ⟨Fs2, F2, ts, ρ2, _, r2, hts, s2, f2, p2⟩ => by
      have e1 : U B F1 = B := u0 ht.1
      have e2 : U B F2 = B := u0 hts.1
      rw [e1] at r1 ht
      rw [e1, e2] at r2 hts
      rw [e1] at s2
      refine p2 (x :: ys) H2 Fs2 A0 (r2.u0 fun _ z => z) ?_ (s1.trans s2) fun _ z => z.elim
      rw [u0 (F := A0) fun _ z => z]
      exact ⟨fun _ z => z, .cons (ht.stay s2 fun a z => .inl z) hts.2⟩⟩⟩
def getL (ρ : Rho) : List Tk → Option (List D)
  | [] => some []
  | t :: ts => match t.get ρ, getL ρ ts with
    | some d, some ds => some (d :: ds)
    | _, _ => none
theorem paired_get {B Fs σ H ρ} (r : Rel W B Fs σ H ρ) : ∀ {ts : List Tk} {vs : List V} {ds : List D}, Paired (fun t v => TkR W t (OO B Fs) H σ A0 v) ts vs → getL ρ ts = some ds → Paired (fun d v => Vw W.C (OO B Fs) H d v) ds vs
  | _, _, _, .nil, e => by simp [getL] at e; subst e; exact .nil
  | t :: ts, _, ds, .cons h q, e => by
    unfold getL at e
    cases e1 : t.get ρ with
    | none => simp [e1] at e
    | some d =>
      cases e2 : getL ρ ts with
      | none => simp [e1, e2] at e
      | some ds' =>
        simp only [e1, e2, Option.some.injEq] at e
        subst e
        exact .cons (h.get r e1) (paired_get r q e2)
def SpN (C : CN) (r : List V → Hp → VK → Prop) (g : List D → Option D) : Prop := ∀ (O : AS) (H : Hp) (ds : List D) (vs : List V) (d : D) (Q : VK), OT O H → Paired (fun d v => Vw C O H d v) ds vs → g ds = some d → (∀ v H', Res C O H d v H' → Q v H') → r vs H Q
def opN (g : List D → Option D) (m : M (List Tk)) : M D := M.bind m fun ts => fun ρ => match getL ρ ts with
  | some ds => M.opt (g ds) ρ
  | none => .bad
theorem opN_rd {r : List V → Hp → VK → Prop} {g : List D → Option D} (hr : SpN W.C r g) {m : M (List Tk)} {σ : L2.St} {H : Hp} {Q : VK} (h : dT W E (DR W) (opN g m) σ H Q) : dT W E (TksR W) m σ H fun vs H1 => r vs H1 Q := by
  obtain ⟨B, Fs, ρ, r0, p⟩ := h
  refine ⟨B, Fs, ρ, r0, (Post.step (fun _ z => z) .refl p).mono fun x H1 ⟨Fs1, F1, ts, ρ1, _, r1, ht, s1, f1, p1⟩ => ?_⟩
  cases gx : getL ρ1 ts with
  | none => simp only [gx] at p1; exact p1.elim
  | some ds =>
    simp only [gx] at p1
    cases gd : g ds with
    | none => rw [gd] at p1; exact p1.elim
    | some d =>
      rw [gd] at p1
      exact hr _ H1 ds x d Q r1.ot (paired_get r1 ht.2 gx) gd fun v H' rs => Post.res (fun a z => .inl z) s1 r1 rs p1
/-- f(e, ..), f a built-in function -/
theorem de_callB {id : String} {r : List V → Hp → VK → Prop} {g : List D → Option D} {x : Str} {p pos : Pos} {e : Expr} {es : List Expr} {m : M (List Tk)} (hc : CallR X (.builtin id) r) (hr : SpN W.C r g) (hg : Gl X x) (hm : X.mg x = none) (hv : bootBuiltins x = some (.builtin id)) (ha : DA W E X (e :: es) m)
    (hn : x ≠ "__name__" := by decide) (hdb : (x == ("__debug__" : Str)) = false := by decide) (he : starEach (e :: es) X.env = (false, eval e X.env) :: starEach es X.env := by rfl) (hpl : (backTo pos (starEach es X.env)).any (·.1) = false := by rfl) :
    DE W E X (.Call (.Name x p) (e :: es) [] pos) (opN g m) := mnE (pe_callB hc hg hm hv ha hn hdb he hpl) fun σ H Q h => opN_rd hr h
theorem de_callTy {T : String} {r : List V → Hp → VK → Prop} {g : List D → Option D} {x : Str} {p pos : Pos} {e : Expr} {es : List Expr} {m : M (List Tk)} (hc : CallR X (.type T) r) (hr : SpN W.C r g) (hg : Gl X x) (hm : X.mg x = none) (hv : bootBuiltins x = some (.type T)) (ha : DA W E X (e :: es) m)
    (hn : x ≠ "__name__" := by decide) (hdb : (x == ("__debug__" : Str)) = false := by decide) (he : starEach (e :: es) X.env = (false, eval e X.env) :: starEach es X.env := by rfl) (hpl : (backTo pos (starEach es X.env)).any (·.1) = false := by rfl) :
    DE W E X (.Call (.Name x p) (e :: es) [] pos) (opN g m) := mnE (pe_callTy hc hg hm hv ha hn hdb he hpl) fun σ H Q h => opN_rd hr h
/-- o.m(e, ..), a method of a built-in type that writes nothing: its type is told at the receiver -/
def TyD (T : String) : D → Bool
  | .str _ => T == "str"
  | .lst _ _ => T == "list"
  | _ => false
def opM (T : String) (g : D → List D → Option D) (mo : M Tk) (m : M (List Tk)) : M D := M.bind mo fun t => M.bind (fun ρ => match t.get ρ with
    | some d => if TyD T d = true then .ok () ρ else .bad
    | none => .bad) fun _ => M.bind m fun ts => fun ρ => match t.get ρ, getL ρ ts with
  | some d, some ds => M.opt (g d ds) ρ
  | _, _ => .bad
def SpM (C : CN) (r : V → List V → Hp → VK → Prop) (g : D → List D → Option D) : Prop := ∀ (O : AS) (H : Hp) (x : D) (a : V) (ds : List D) (vs : List V) (d : D) (Q : VK), OT O H → Vw C O H x a → Paired (fun d v => Vw C O H d v) ds vs → g x ds = some d → (∀ v H', Res C O H d v H' → Q v H') → r a vs H Q
theorem tyD_ok {K : PySem.W.Frag} {C O H} {T : String} {d : D} {v : V} (h : Vw C O H d v) (t : TyD T d = true) : tyV K T v H := by
  cases d with
  | str x =>
    have h' : v = .str x := h
    subst h'
    have ht : T = "str" := by simpa [TyD] using t
    subst ht
    rfl
  | lst o ds =>
    obtain ⟨a, vs, rfl, h2, _⟩ := h
    have ht : T = "list" := by simpa [TyD] using t
    subst ht
    exact .inl ⟨rfl, vs, .inl (.inl h2)⟩
  | _ => cases t
theorem opM_rd {T : String} {r : V → List V → Hp → VK → Prop} {g : D → List D → Option D} (hr : SpM W.C r g) {mo : M Tk} {m : M (List Tk)} {σ : L2.St} {H : Hp} {Q : VK} (h : dT W E (DR W) (opM T g mo m) σ H Q) :
    dT W E (TkR W) mo σ H fun x H1 => tyV X.K T x H1 ∧ dT W E (TksR W) m σ H1 fun vs H2 => r x vs H2 Q := by
  obtain ⟨B, Fs, ρ, r0, p⟩ := h
  refine ⟨B, Fs, ρ, r0, (Post.step (fun _ z => z) .refl p).mono fun x H1 ⟨Fs1, F1, t, ρ1, _, r1, ht, s1, f1, p1⟩ => ?_⟩
  have e1 : U B F1 = B := u0 ht.1
  rw [e1] at r1 ht
  cases gx : t.get ρ1 with
  | none => simp only [M.bind, gx] at p1; exact p1.elim
  | some d =>
    by_cases hT : TyD T d = true
    · refine ⟨tyD_ok (ht.get r1 gx) hT, B, Fs1, ρ1, r1, ?_⟩
      simp only [M.bind, gx, hT, if_true] at p1
      refine (Post.step (f := fun ts ρ => match t.get ρ, getL ρ ts with | some d, some ds => M.opt (g d ds) ρ | _, _ => .bad) (fun _ z => z) s1 p1).mono fun vs H2 ⟨Fs2, F2, ts, ρ2, _, r2, hts, s2, f2, p2⟩ => ?_
      have e2 : U B F2 = B := u0 hts.1
      rw [e2] at r2 hts
      have ht2 : TkR W t (OO B Fs2) H2 σ A0 x := ht.stay s2 fun a z => .inl z
      cases gx2 : t.get ρ2 with
      | none => simp only [gx2] at p2; exact p2.elim
      | some dx =>
        cases gy : getL ρ2 ts with
        | none => simp only [gx2, gy] at p2; exact p2.elim
        | some ds =>
          simp only [gx2, gy] at p2
          cases gd : g dx ds with
          | none => rw [gd] at p2; exact p2.elim
          | some dr =>
            rw [gd] at p2
            exact hr _ H2 dx x ds vs dr Q r2.ot (ht2.get r2 gx2) (paired_get r2 hts.2 gy) gd fun v H' rs => Post.res (fun a z => z) (s1.trans s2) r2 rs p2
    · simp only [M.bind, gx, hT, if_false] at p1
      exact p1.elim
theorem de_bm {T id : String} {name : Str} {r : V → List V → Hp → VK → Prop} {g : D → List D → Option D} {o e : Expr} {es : List Expr} {mo : M Tk} {m : M (List Tk)} {apos cpos : Pos} (pa : PlainAttrs T) (slot : Slot T name id) (hty : typeOf (.builtin id) = pure (.type "method_descriptor")) (hm : MtR X id r) (hr : SpM W.C r g)
    (ho : DK W E X o mo) (ha : DA W E X (e :: es) m)
    (hbase : attributeBase o name X.env (eval o X.env) = eval o X.env := by rfl)
    (hfew : ((backTo cpos (starEach (e :: es) X.env)).all (fun x => !x.1) && (backToKw cpos (keywordEach [] X.env)).all (fun x => x.1.isSome)
      && decide ((e :: es).length + ([] : List Keyword).length + (if ([] : List Keyword).isEmpty then 0 else 1) < 30)) = true := by rfl)
    (hline : (apos.endLine == cpos.line) = true := by rfl) (hs : starEach (e :: es) X.env = (false, eval e X.env) :: starEach es X.env := by rfl) (hplain : (backTo cpos (starEach es X.env)).any (·.1) = false := by rfl) :
    DE W E X (.Call (.Attribute o name apos) (e :: es) [] cpos) (opM T g mo m) := mnE (pe_bm pa slot hty hm ho ha hbase hfew hline hs hplain) fun σ H Q h => opM_rd hr h
theorem de_bm0 {T id : String} {name : Str} {r : V → List V → Hp → VK → Prop} {g : D → List D → Option D} {o : Expr} {mo : M Tk} {apos cpos : Pos} (pa : PlainAttrs T) (slot : Slot T name id) (hty : typeOf (.builtin id) = pure (.type "method_descriptor")) (hm : MtR X id r) (hr : SpM W.C r g)
    (ho : DK W E X o mo) (hbase : attributeBase o name X.env (eval o X.env) = eval o X.env := by rfl) (hline : (apos.endLine == cpos.line) = true := by rfl) :
    DE W E X (.Call (.Attribute o name apos) [] [] cpos) (opM T g mo argK0) := mnE (pe_bm0 pa slot hty hm ho hbase hline) fun σ H Q h => by
  obtain ⟨B, Fs, ρ, r0, p⟩ := opM_rd (X := X) hr h
  exact ⟨B, Fs, ρ, r0, p.mono fun x H1 ⟨h1, B1, Fs1, ρ1, r1, p1⟩ => ⟨h1, Post.pure (R := TksR W) r1 ⟨fun _ z => z, .nil⟩ p1⟩⟩

/-! ### tests -/
def BR : RR Bool Bool := fun b _ _ _ F c => (∀ a, ¬ F a) ∧ b = c
def DT (W : Dx) (E : XK) (X : Cx) (e : Expr) (m : M Bool) : Prop := PT X e (dT W E BR m)
def DW (W : Dx) (E : XK) (X : Cx) (e : Expr) (m : M Bool) : Prop := PW X e (dT W E BR m)
def toB (m : M D) : M Bool := M.bind m fun d => match d with
  | .bl b => M.pure b
  | _ => M.bad
theorem toB_rd {m : M D} {σ : L2.St} {H : Hp} {Q : Bool → Hp → Prop} (h : dT W E BR (toB m) σ H Q) : dT W E (DR W) m σ H fun x H' => ∃ c, x = .bl c ∧ Q c H' := by
  obtain ⟨B, Fs, ρ, r0, p⟩ := h
  refine ⟨B, Fs, ρ, r0, (Post.step (fun _ z => z) .refl p).mono fun x H1 ⟨Fs1, F1, d, ρ1, _, r1, ht, s1, f1, p1⟩ => ?_⟩
  cases d with
  | bl b =>
    have hx : x = .bl b := by unfold DR Ow at ht; exact ht
    refine ⟨b, hx, p1 b H1 Fs1 A0 (r1.drop.u0 fun _ z => z) ⟨fun _ z => z, rfl⟩ s1 fun _ z => z.elim⟩
  | _ => exact (show False from p1).elim
/-- a comparison, a test of a value that is a bool -/
theorem dt_cmp {op : CmpOp} {r : R2} {g : D → D → Option D} {a b : Expr} {ma mb : M Tk} {pos : Pos} (ho : OpR X (compareOp op) r) (hr : Sp2 W.C r g) (hm : behindInMarks op b = false) (ha : DK W E X a ma) (hb : DK W E X b mb) : DT W E X (.Compare a [op] [b] pos) (toB (op2 g ma mb)) :=
  mnT (pt_cmpR ho ha hb hm) fun σ H Q h => bin_rd hr (toB_rd h)
theorem dt_val {e : Expr} {m : M D} (h : DE W E X e m) (he : ∀ whole, isTrue e X.env whole = (do let v ← whole; standAt e.pos; holding [v] (truthy v)) := by intro _; rfl) : DT W E X e (toB m) :=
  mnT (pt_val h he) fun σ H Q h => toB_rd h
def andB (a b : M Bool) : M Bool := M.bind a fun c => if c = true then b else M.pure false
def orB (a b : M Bool) : M Bool := M.bind a fun c => if c = true then M.pure true else b
def notB (a : M Bool) : M Bool := M.bind a fun c => M.pure (!c)
/-- behind a test: the rest -/
theorem bool_rd {α β : Type} {R : RR α β} {m : M Bool} {f : Bool → M α} {σ : L2.St} {H : Hp} {Q : β → Hp → Prop} (h : dT W E R (M.bind m f) σ H Q) : dT W E BR m σ H fun c H1 => dT W E R (f c) σ H1 Q := by
  obtain ⟨B, Fs, ρ, r0, p⟩ := h
  refine ⟨B, Fs, ρ, r0, (Post.step (fun _ z => z) .refl p).mono fun c H1 ⟨Fs1, F1, b, ρ1, _, r1, hb, s1, f1, p1⟩ => ?_⟩
  obtain ⟨hF, e⟩ := hb
  subst e
  rw [u0 hF] at r1
  refine ⟨B, Fs1, ρ1, r1, ?_⟩
  unfold Post at *
  cases ho : f b ρ1 with
  | ok a ρ2 =>
    rw [ho] at p1
    exact fun x H' Fs' F r hr st fr => p1 x H' Fs' F r hr (s1.trans st) fun a z => s1.fresh (fr a z)
  | exc c ρ2 =>
    rw [ho] at p1
    exact fun H' Fs' r st => p1 H' Fs' r (s1.trans st)
  | bad => rw [ho] at p1; exact p1
variable {a b : Expr} {rest : List Expr} {ma mb : M Bool} {pos : Pos}
theorem dw_and1 (ha : DT W E X a ma) : DW W E X (.BoolOp .And [a] pos) ma := pw_and1 ha
theorem dw_or1 (ha : DT W E X a ma) : DW W E X (.BoolOp .Or [a] pos) ma := pw_or1 ha
theorem mnW {X : Cx} {e : Expr} {t t' : TT} (h : PW X e t) (hm : ∀ σ H Q, t' σ H Q → t σ H Q) : PW X e t' := ⟨fun wh pins s σ H Q I q => h.run wh pins s σ H Q I (hm _ _ _ q)⟩
theorem dT_pure_rd {α β : Type} {R : RR α β} {a : α} {x : β} {σ : L2.St} {H : Hp} {Q : β → Hp → Prop} (h : dT W E R (M.pure a) σ H Q) (hr : ∀ O, R a O H σ A0 x) : Q x H := by
  obtain ⟨B, Fs, ρ, r, p⟩ := h
  exact Post.pure r (hr _) p
theorem dw_and (ha : DT W E X a ma) (hb : DW W E X (.BoolOp .And (b :: rest) pos) mb) : DW W E X (.BoolOp .And (a :: b :: rest) pos) (andB ma mb) :=
  mnW (pw_and ha hb) fun σ H Q h => by
    obtain ⟨B, Fs, ρ, r, p⟩ := bool_rd h
    refine ⟨B, Fs, ρ, r, p.mono fun c H1 q => ?_⟩
    cases c with
    | true => exact q
    | false => exact dT_pure_rd q fun _ => ⟨fun _ z => z, rfl⟩
theorem dw_or (ha : DT W E X a ma) (hb : DW W E X (.BoolOp .Or (b :: rest) pos) mb) : DW W E X (.BoolOp .Or (a :: b :: rest) pos) (orB ma mb) :=
  mnW (pw_or ha hb) fun σ H Q h => by
    obtain ⟨B, Fs, ρ, r, p⟩ := bool_rd h
    refine ⟨B, Fs, ρ, r, p.mono fun c H1 q => ?_⟩
    cases c with
    | false => exact q
    | true => exact dT_pure_rd q fun _ => ⟨fun _ z => z, rfl⟩
theorem dt_w {e : Expr} {m : M Bool} (h : DW W E X e m) : DT W E X e m := PW.pt h
theorem dt_not (ha : DT W E X a ma) : DT W E X (.UnaryOp .Not a pos) (notB ma) :=
  mnT (pt_not ha) fun σ H Q h => by
    obtain ⟨B, Fs, ρ, r, p⟩ := bool_rd h
    exact ⟨B, Fs, ρ, r, p.mono fun c H1 q => dT_pure_rd q fun _ => ⟨fun _ z => z, rfl⟩⟩
/-! ### and, or, not, if as values -/
def andV (a b : M D) : M D := M.bind (toB a) fun c => if c = true then b else M.pure (.bl false)
def orV (a b : M D) : M D := M.bind (toB a) fun c => if c = true then M.pure (.bl true) else b
def notV (a : M D) : M D := M.bind (toB a) fun c => M.pure (.bl (!c))
def ifV (c : M Bool) (a b : M D) : M D := M.bind c fun c => if c = true then a else b
variable {da db : M D}
theorem de_one {op} (h : DE W E X a da) : DE W E X (.BoolOp op [a] pos) da := pe_one h
theorem bl_rd {b : Bool} {O H σ} : DR W (.bl b) O H σ A0 (.bl b) := by unfold DR Ow; rfl
theorem de_and (ha : DE W E X a da) (hb : DE W E X (.BoolOp .And (b :: rest) pos) db) : DE W E X (.BoolOp .And (a :: b :: rest) pos) (andV da db) :=
  mnE (pe_and ha hb) fun σ H Q h => by
    obtain ⟨B, Fs, ρ, r, p⟩ := toB_rd (bool_rd h)
    refine ⟨B, Fs, ρ, r, p.mono fun x H1 ⟨c, e, q⟩ => ⟨c, e, ?_⟩⟩
    cases c with
    | true => exact q
    | false => exact dT_pure_rd q fun _ => bl_rd
theorem de_or (ha : DE W E X a da) (hb : DE W E X (.BoolOp .Or (b :: rest) pos) db) : DE W E X (.BoolOp .Or (a :: b :: rest) pos) (orV da db) :=
  mnE (pe_or ha hb) fun σ H Q h => by
    obtain ⟨B, Fs, ρ, r, p⟩ := toB_rd (bool_rd h)
    refine ⟨B, Fs, ρ, r, p.mono fun x H1 ⟨c, e, q⟩ => ⟨c, e, ?_⟩⟩
    cases c with
    | false => exact q
    | true => exact dT_pure_rd q fun _ => bl_rd
theorem de_not (ha : DE W E X a da) : DE W E X (.UnaryOp .Not a pos) (notV da) :=
  mnE (pe_not ha) fun σ H Q h => by
    obtain ⟨B, Fs, ρ, r, p⟩ := toB_rd (bool_rd h)
    exact ⟨B, Fs, ρ, r, p.mono fun x H1 ⟨c, e, q⟩ => ⟨c, e, dT_pure_rd q fun _ => bl_rd⟩⟩
theorem de_if {c : Expr} {mc : M Bool} (hc : DT W E X c mc) (ha : DE W E X a da) (hb : DE W E X b db) : DE W E X (.IfExp c a b pos) (ifV mc da db) :=
  mnE (pe_ifExp hc ha hb) fun σ H Q h => by
    obtain ⟨B, Fs, ρ, r, p⟩ := bool_rd h
    refine ⟨B, Fs, ρ, r, p.mono fun c H1 q => ?_⟩
    cases c with
    | true => exact q
    | false => exact q
end
end DL
end

section
set_option Elab.async false
set_option linter.all false
set_option maxRecDepth 100000
set_option maxHeartbeats 2000000
/-! D5: statements. -/
namespace DL
open PySem PySem.Spec PyProof.Rows L2

inductive Fl where
  | nx | rt (d : D) | bk | ct
section
variable {W : Dx} {E : XK} {X : Cx}
/-- a statement's end -/
def PostS (W : Dx) (E : XK) (B : AS) (Fs : Nat → AS) (H : Hp) (o : Out Fl) (D : Ends) : Prop :=
  match o with
  | .ok .nx ρ' => ∀ σ' H' Fs', Rel W B Fs' σ' H' ρ' → Stp B Fs Fs' H H' → D.nx σ' H'
  | .ok .bk ρ' => ∀ σ' H' Fs', Rel W B Fs' σ' H' ρ' → Stp B Fs Fs' H H' → D.bk σ' H'
  | .ok .ct ρ' => ∀ σ' H' Fs', Rel W B Fs' σ' H' ρ' → Stp B Fs Fs' H H' → D.ct σ' H'
  | .ok (.rt d) ρ' => ∀ v σ' H' Fs' F, Rel W (U B F) Fs' σ' H' ρ' → Ow W.C (OO (U B F) Fs') H' F d v → Stp B Fs Fs' H H' → Fr F H → D.rt v H'
  | .exc c ρ' => ∀ H' Fs' σ', Rel W B Fs' σ' H' ρ' → Stp B Fs Fs' H H' → E (.ref (W.X c)) none H'
  | .bad => False
def dS (W : Dx) (E : XK) (m : M Fl) : TS := fun D σ H => ∃ B Fs ρ, Rel W B Fs σ H ρ ∧ PostS W E B Fs H (m ρ) D
def DS (W : Dx) (E : XK) (X : Cx) (s : Stmt) (m : M Fl) : Prop := PS X s (dS W E m)
def DB (W : Dx) (E : XK) (X : Cx) (s : List Stmt) (m : M Fl) : Prop := PSs X s (dS W E m)
/-- seen from an earlier state -/
theorem PostS.later {B Fs Fs1 H H1 o D} (s : Stp B Fs Fs1 H H1) (h : PostS W E B Fs H o D) : PostS W E B Fs1 H1 o D := by
  unfold PostS at *
  cases o with
  | ok fl ρ' =>
    cases fl with
    | nx => exact fun σ' H' Fs' r st => h σ' H' Fs' r (s.trans st)
    | bk => exact fun σ' H' Fs' r st => h σ' H' Fs' r (s.trans st)
    | ct => exact fun σ' H' Fs' r st => h σ' H' Fs' r (s.trans st)
    | rt d => exact fun v σ' H' Fs' F r ow st fr => h v σ' H' Fs' F r ow (s.trans st) fun a z => s.fresh (fr a z)
  | exc c ρ' => exact fun H' Fs' σ' r st => h H' Fs' σ' r (s.trans st)
  | bad => exact h
/-- behind an expression's evaluation: the rest f -/
theorem expr_rd {α β : Type} {R : RR α β} {m : M α} {f : α → M Fl} {D : Ends} {σ : L2.St} {H : Hp} (h : dS W E (M.bind m f) D σ H) :
    dT W E R m σ H fun x H1 => ∃ B Fs Fs1 F1 a ρ1, Rel W (U B F1) Fs1 σ H1 ρ1 ∧ R a (OO (U B F1) Fs1) H1 σ F1 x ∧ PostS W E B Fs1 H1 (f a ρ1) D ∧ Stp B Fs Fs1 H H1 ∧ Fr F1 H ∧ PostS W E B Fs H (f a ρ1) D := by
  obtain ⟨B, Fs, ρ, r, p⟩ := h
  refine ⟨B, Fs, ρ, r, ?_⟩
  unfold M.bind at p
  cases hm : m ρ with
  | ok a ρ2 =>
    rw [hm] at p
    exact fun x H2 Fs2 F2 r2 hr s fr => ⟨B, Fs, Fs2, F2, a, ρ2, r2, hr, p.later s, s, fr, p⟩
  | exc c ρ2 =>
    rw [hm] at p
    exact fun H2 Fs2 r2 s => (show PostS W E B Fs H (.exc c ρ2) D from p) H2 Fs2 _ r2 s
  | bad =>
    rw [hm] at p
    exact p.elim
/-! ### blocks -/
def skip : M Fl := M.pure .nx
def seq (a b : M Fl) : M Fl := M.bind a fun fl => match fl with
  | .nx => b
  | fl => M.pure fl
theorem seq_rd {a b : M Fl} {D : Ends} {σ : L2.St} {H : Hp} (h : dS W E (seq a b) D σ H) : dS W E a { D with nx := dS W E b D } σ H := by
  obtain ⟨B, Fs, ρ, r, p⟩ := h
  refine ⟨B, Fs, ρ, r, ?_⟩
  unfold seq M.bind at p
  cases hm : a ρ with
  | ok fl ρ2 =>
    rw [hm] at p
    cases fl with
    | nx => exact fun σ' H' Fs' r' s => ⟨B, Fs', ρ2, r', p.later s⟩
    | bk => exact p
    | ct => exact p
    | rt d => exact p
  | exc c ρ2 => rw [hm] at p; exact p
  | bad => rw [hm] at p; exact p
theorem db_nil : DB W E X [] skip := mnSs pss_nil fun D σ H ⟨B, Fs, ρ, r, p⟩ => p σ H Fs r .refl
theorem db_cons {s : Stmt} {ss : List Stmt} {a b : M Fl} (ha : DS W E X s a) (hb : DB W E X ss b) : DB W E X (s :: ss) (seq a b) := mnSs (pss_cons ha hb) fun D σ H h => seq_rd h
theorem db_one {s : Stmt} {a : M Fl} (ha : DS W E X s a) : DB W E X [s] a := pss_one ha
variable {pos pos' : Pos} {e c : Expr} {m : M D}
/-! ### small statements -/
theorem ds_pass : DS W E X (.Pass pos) skip := mnS ps_pass fun D σ H ⟨B, Fs, ρ, r, p⟩ => p σ H Fs r .refl
theorem ds_break : DS W E X (.Break pos) (M.pure .bk) := mnS ps_break fun D σ H ⟨B, Fs, ρ, r, p⟩ => p σ H Fs r .refl
theorem ds_continue : DS W E X (.Continue pos) (M.pure .ct) := mnS ps_continue fun D σ H ⟨B, Fs, ρ, r, p⟩ => p σ H Fs r .refl
def dropS (m : M D) : M Fl := M.bind m fun _ => skip
theorem ds_expr (h : DE W E X e m) (hs : swapsWith e none pos.line X.env = Pure.pure false := by rfl) : DS W E X (.Expr e pos) (dropS m) :=
  mnS (ps_expr h hs) fun D σ H h => by
    obtain ⟨B, Fs, ρ, r, p⟩ := expr_rd (R := DR W) h
    exact ⟨B, Fs, ρ, r, p.mono fun x H1 ⟨B, Fs, Fs1, F1, a, ρ1, r1, ow, p1, _⟩ => p1 σ H1 Fs1 r1.drop .refl⟩
def retS (m : M D) : M Fl := M.bind m fun d => M.pure (.rt d)
theorem ds_ret (h : DE W E X e m) : DS W E X (.Return (some e) pos) (retS m) :=
  mnS (ps_ret h) fun D σ H h => by
    obtain ⟨B, Fs, ρ, r, p⟩ := expr_rd (R := DR W) h
    exact ⟨B, Fs, ρ, r, p.mono fun x H1 ⟨B, Fs, Fs1, F1, a, ρ1, r1, ow, p1, s1, fr, p2⟩ => p2 x σ H1 Fs1 F1 r1 ow s1 fr⟩
def ifS (c : M Bool) (a b : M Fl) : M Fl := M.bind c fun c => if c = true then a else b
theorem ds_if {mc : M Bool} {a b : List Stmt} {ma mb : M Fl} (hc : DT W E X c mc) (ha : DB W E X a ma) (hb : DB W E X b mb) : DS W E X (.If c a b pos) (ifS mc ma mb) :=
  mnS (ps_if hc ha hb) fun D σ H h => by
    obtain ⟨B, Fs, ρ, r, p⟩ := expr_rd (R := BR) h
    refine ⟨B, Fs, ρ, r, p.mono fun x H1 ⟨B, Fs, Fs1, F1, a, ρ1, r1, hb, p1, _⟩ => ?_⟩
    obtain ⟨hF, e⟩ := hb
    subst e
    rw [u0 hF] at r1
    cases a with
    | true => exact ⟨B, Fs1, ρ1, r1, p1⟩
    | false => exact ⟨B, Fs1, ρ1, r1, p1⟩
/-! ### names stored -/
/-- slot i may be stored -/
def free (W : Dx) (i : Nat) : Prop := ∀ p ∈ W.pn, p.1 ≠ i
def putS (i : Nat) (d : D) : M Fl := fun ρ => if i < ρ.length then .ok .nx (ρ.set i (some d)) else .bad
theorem Rel.set {B F Fs σ H ρ i d v} (r : Rel W (U B F) Fs σ H ρ) (ow : Ow W.C (OO (U B F) Fs) H F d v) (hF : ∀ a, F a → ¬ B a) (hi : i < ρ.length) (hp : free W i) :
    Rel W B (fun j => if j = i then F else Fs j) (σ.set i (some v)) H (ρ.set i (some d)) := by
  have hO : ∀ a, OO B (fun j => if j = i then F else Fs j) a → OO (U B F) Fs a := fun a z => by
    rcases z with z | ⟨j, z⟩
    · exact .inl (.inl z)
    · have z : (if j = i then F else Fs j) a := z
      split at z
      · exact .inl (.inr z)
      · exact .inr ⟨j, z⟩
  refine ⟨fun a ha => r.bd a (.inl ha), fun j a ha => ?_, fun j k a h1 h2 => ?_, fun j d' e => ?_, fun p hp' => ?_, by rw [List.length_set, List.length_set]; exact r.len, r.tb⟩
  · have ha : (if j = i then F else Fs j) a := ha
    split at ha
    · exact ⟨r.bd a (.inr ha), hF a ha⟩
    · exact ⟨(r.fd j a ha).1, fun z => (r.fd j a ha).2 (.inl z)⟩
  · have h1 : (if j = i then F else Fs j) a := h1
    have h2 : (if k = i then F else Fs k) a := h2
    by_cases hj : j = i
    · by_cases hk : k = i
      · rw [hj, hk]
      · rw [if_pos hj] at h1
        rw [if_neg hk] at h2
        exact absurd (.inr h1) (r.fd k a h2).2
    · by_cases hk : k = i
      · rw [if_neg hj] at h1
        rw [if_pos hk] at h2
        exact absurd (.inr h2) (r.fd j a h1).2
      · rw [if_neg hj] at h1
        rw [if_neg hk] at h2
        exact r.dj j k a h1 h2
  · by_cases hj : j = i
    · rw [hj] at e ⊢
      rw [List.getElem?_set_self hi] at e
      cases e
      refine ⟨v, by rw [List.getElem?_set_self (by rw [← r.len]; exact hi)], ?_⟩
      rw [if_pos rfl]
      exact Ow.stay (W := A0) ⟨.refl, fun _ _ => rfl, fun _ z => z.elim, fun a z => .inl (hO a z), fun a z => .inr ⟨i, by show (if i = i then F else Fs i) a; rw [if_pos rfl]; exact z⟩⟩ d v ow
    · rw [List.getElem?_set_ne (Ne.symm hj)] at e
      obtain ⟨v', q1, q2⟩ := r.sl j d' e
      refine ⟨v', by rw [List.getElem?_set_ne (Ne.symm hj)]; exact q1, ?_⟩
      rw [if_neg hj]
      exact Ow.stay (W := A0) ⟨.refl, fun _ _ => rfl, fun _ z => z.elim, fun a z => .inl (hO a z), fun a z => .inr ⟨j, by show (if j = i then F else Fs j) a; rw [if_neg hj]; exact z⟩⟩ d' v' q2
  · rw [List.getElem?_set_ne (Ne.symm (hp p hp'))]
    exact r.pin p hp'
theorem Stp.set {B Fs Fs1 F H H1 i} (s : Stp B Fs Fs1 H H1) (f : Fr F H) : Stp B Fs (fun j => if j = i then F else Fs1 j) H H1 := by
  refine ⟨s.keep, s.kb, fun j a h => ?_, s.dom⟩
  have h : (if j = i then F else Fs1 j) a := h
  split at h
  · exact .inr (f a h)
  · exact s.old j a h
def setS (i : Nat) (m : M D) : M Fl := M.bind m fun d => putS i d
/-- a value is stored in a slot -/
theorem put_rd {B Fs Fs1 F1 σ H H1 ρ1 i d v D} (r : Rel W (U B F1) Fs1 σ H1 ρ1) (ow : Ow W.C (OO (U B F1) Fs1) H1 F1 d v) (hB : ∀ a, F1 a → ¬ B a) (hp : free W i) (s : Stp B Fs Fs1 H H1) (fr : Fr F1 H) (p : PostS W E B Fs H (putS i d ρ1) D) :
    D.nx (σ.set i (some v)) H1 := by
  unfold putS at p
  split at p
  · rename_i hi
    exact p _ H1 _ (r.set ow hB hi hp) (s.set fr)
  · exact p.elim
theorem set_rd {i : Nat} {m : M D} {D' : Ends} {σ : L2.St} {H : Hp} (hp : free W i) (h : dS W E (setS i m) D' σ H) : dT W E (DR W) m σ H fun x H1 => gName i x σ H1 D'.nx := by
  obtain ⟨B, Fs, ρ, r, p⟩ := h
  refine ⟨B, Fs, ρ, r, ?_⟩
  unfold setS M.bind at p
  cases hm : m ρ with
  | ok a ρ2 =>
    rw [hm] at p
    exact fun v H2 Fs2 F2 r2 ow s fr => put_rd r2 ow (fun a ha z => (r.bd a z).ne (fr a ha)) hp s fr p
  | exc c ρ2 =>
    rw [hm] at p
    exact fun H2 Fs2 r2 s => (show PostS W E B Fs H (.exc c ρ2) D' from p) H2 Fs2 _ r2 s
  | bad => rw [hm] at p; exact p.elim
theorem ds_set {i : Nat} {x : Str} (hN : X.N.Nodup) (hi : X.N[i]? = some x) (hx : Loc X.env.scope x) (hp : free W i) (h : DE W E X e m) (hs : swapsWith e (some (.Name x pos')) pos.line X.env = Pure.pure false := by rfl) (hf : X.fn x = true ∨ X.env.scope.names.lookup x = some .local := by first | exact .inl rfl | exact .inr rfl | assumption) :
    DS W E X (.Assign [.Name x pos'] e pos) (setS i m) :=
  mnS (ps_set hN hi hx h hs hf) fun D σ H h => set_rd hp h
/-! ### while -/
def whileF (c : M Bool) (b : M Fl) : Nat → M Fl
  | 0 => M.bad
  | n + 1 => M.bind c fun k => if k = true then M.bind b fun fl => match fl with
    | .nx => whileF c b n
    | .ct => whileF c b n
    | .bk => skip
    | .rt d => M.pure (.rt d)
    else skip
def fuel : Nat := 2 ^ 40
def whileS (c : M Bool) (b : M Fl) : M Fl := whileF c b fuel
theorem loop_rd {b : M Fl} {n : M Fl} {D : Ends} {σ : L2.St} {H : Hp} (h : dS W E (M.bind b fun fl => match fl with
    | .nx => n
    | .ct => n
    | .bk => skip
    | .rt d => M.pure (.rt d)) D σ H) : dS W E b { D with nx := dS W E n D, ct := dS W E n D, bk := D.nx } σ H := by
  obtain ⟨B, Fs, ρ, r, p⟩ := h
  refine ⟨B, Fs, ρ, r, ?_⟩
  unfold M.bind at p
  cases hm : b ρ with
  | ok fl ρ2 =>
    rw [hm] at p
    cases fl with
    | nx => exact fun σ' H' Fs' r' s => ⟨B, Fs', ρ2, r', p.later s⟩
    | ct => exact fun σ' H' Fs' r' s => ⟨B, Fs', ρ2, r', p.later s⟩
    | bk => exact p
    | rt d => exact p
  | exc c ρ2 => rw [hm] at p; exact p
  | bad => rw [hm] at p; exact p
theorem ds_while {mc : M Bool} {body : List Stmt} {mb : M Fl} (hp : PassesOwn (model X.prog X.w) X.A X.env X.xe) (hc : DT W E X c mc) (hb : DB W E X body mb) : DS W E X (.While c body [] pos) (whileS mc mb) :=
  mnS (ps_while hp hc hb) fun D σ H h => by
    refine ⟨fun n σ H => dS W E (whileF mc mb n) D σ H, ⟨fuel, h⟩, fun n σ H h => ?_⟩
    cases n with
    | zero => obtain ⟨B, Fs, ρ, r, p⟩ := h; exact p.elim
    | succ n =>
      obtain ⟨B, Fs, ρ, r, p⟩ := expr_rd (R := BR) (show dS W E (M.bind mc _) D σ H from h)
      refine ⟨B, Fs, ρ, r, p.mono fun x H1 ⟨B, Fs, Fs1, F1, a, ρ1, r1, hb, p1, _⟩ => ?_⟩
      obtain ⟨hF, e⟩ := hb
      subst e
      rw [u0 hF] at r1
      cases a with
      | true =>
        refine ⟨fun σ' H' => dS W E (whileF mc mb n) D σ' H', fun σ' H' h => ⟨n, Nat.lt_succ_self n, h⟩, ?_⟩
        exact loop_rd ⟨B, Fs1, ρ1, r1, p1⟩
      | false => exact p1 σ H1 Fs1 r1 .refl
end
end DL
end

section
set_option Elab.async false
set_option linter.all false
set_option maxRecDepth 100000
set_option maxHeartbeats 2000000
/-! D6: what is walked. -/
namespace DL
open PySem PySem.Spec PyProof.Rows L2

section
variable {X : Cx} {tg e : Expr}
/-- a value of any kind is walked: a list, a tuple, a text, a dict by its keys (known from then on) -/
def iAny (K : PySem.W.Frag) (te : TE) : TI := fun σ H R => te σ H fun x H1 =>
  (∃ a, x = .ref a ∧ (∃ xs, SqL K H1 a xs) ∧ R (Itl K a) H1) ∨ (∃ a, x = .ref a ∧ (∃ xs, SqT K H1 a xs) ∧ R (Itt K a) H1) ∨ (∃ z, x = .str z ∧ R (Its z) H1) ∨
    (∃ d kvs, x = .ref d ∧ ((H1 d = some (.dK kvs) ∧ ∀ o, R (Itk d o kvs) (upd H1 d (.frz o (.dK kvs)))) ∨ ∃ o, H1 d = some (.frz o (.dK kvs)) ∧ R (Itk d o kvs) H1)) ∨
    (∃ d kvs, x = .ref d ∧ ((H1 d = some (.dT kvs) ∧ ∀ o, R (Itkt d o kvs) (upd H1 d (.frz o (.dT kvs)))) ∨ ∃ o, H1 d = some (.frz o (.dT kvs)) ∧ R (Itkt d o kvs) H1))
theorem pi_any {te : TE} (he : PE X e te) : PI X tg e (iAny X.K te) := by
  refine ⟨fun pins s σ H R I h => ?_⟩
  refine thn (he.run pins s σ H _ I h) fun v s1 ⟨x, H1, I1, r1, q1⟩ => ?_
  have keysK : ∀ {H1 : Hp} {d o kvs}, Inv X pins σ H1 s1 → H1 d = some (.frz o (.dK kvs)) → R (Itk d o kvs) H1 → wpAny (model X.prog X.w) X.A (pyIter (.ref d)) (PIE X pins σ tg R) X.xe s1 := fun {H1 d o kvs} I1 hd q => by
    obtain ⟨hs, hgd, hx, es, ep, vs, hdt, hsz, kv, hm⟩ := I1.frzK hd
    refine iter_keys hs hgd hx hdt (pi_one (tk := s1.toks) I1 _ (turn_keys _ hdt) ⟨_, Heap.get?_push_size _ rfl, rfl, ?_⟩ q)
    rw [hsz] <;> rfl
  have keysT : ∀ {H1 : Hp} {d o kvs}, Inv X pins σ H1 s1 → H1 d = some (.frz o (.dT kvs)) → R (Itkt d o kvs) H1 → wpAny (model X.prog X.w) X.A (pyIter (.ref d)) (PIE X pins σ tg R) X.xe s1 := fun {H1 d o kvs} I1 hd q => by
    obtain ⟨hs, hgd, hx, es, ep, hdt, hsz, ent⟩ := I1.frzT hd
    refine iter_keys hs hgd hx hdt (pi_one (tk := s1.toks) I1 _ (turn_keysT _ hdt) ⟨_, Heap.get?_push_size _ rfl, rfl, ?_⟩ q)
    rw [hsz] <;> rfl
  have one : ∀ b ∈ [s1.heap.objs.size], FpOk X pins H1 b := fun b hb => by
    have e : b = s1.heap.objs.size := by simpa using hb
    subst e
    exact I1.fpOk (Nat.le_refl _) (I1.hok.fresh (Nat.le_refl _))
  rcases q1 with ⟨a, e, ⟨xs, hq⟩, q⟩ | ⟨a, e, ⟨xs, hq⟩, q⟩ | ⟨z, e, q⟩ | ⟨d, kvs, e, q⟩ | ⟨d, kvs, e, q⟩
  · subst e
    cases r1
    obtain ⟨its, rv, p, hz⟩ := I1.list hq
    refine wpAny_pyIter_list p.isList ?_
    exact ⟨s1.heap.objs.size, [s1.heap.objs.size], _, _, H1, rfl, I1.kept (t' := s1.toks) fun b o e => Heap.get?_push_of_some _ e, turn_list a _, ⟨_, Heap.get?_push_size _ rfl, rfl, rfl⟩, one, q⟩
  · subst e
    cases r1
    obtain ⟨its, rv, p, hz⟩ := I1.tuple hq
    refine wpAny_pyIter_tuple (show s1.heap.IsTuple a its.toArray from p) ?_
    exact ⟨s1.heap.objs.size, [s1.heap.objs.size], _, _, H1, rfl, I1.kept (t' := s1.toks) fun b o e => Heap.get?_push_of_some _ e, turn_tuple a _, ⟨_, Heap.get?_push_size _ rfl, rfl, rfl⟩, one, q⟩
  · subst e
    obtain ⟨t, rfl⟩ := r1
    cases ha : z.cps.all (· < 128)
    · exact wpAny_pyIter_wide ha (pi_one (tk := s1.toks) I1 _ (turn_str _ z t "str_iterator" (.inr rfl)) ⟨_, Heap.get?_push_size _ rfl, rfl, rfl⟩ q)
    · exact wpAny_pyIter_ascii ha (pi_one (tk := s1.toks) I1 _ (turn_str _ z t "str_ascii_iterator" (.inl rfl)) ⟨_, Heap.get?_push_size _ rfl, rfl, rfl⟩ q)
  · subst e
    cases r1
    rcases q with ⟨hd, q⟩ | ⟨o, hd, q⟩
    · obtain ⟨od, I2⟩ := I1.lock hd trivial
      exact keysK I2 upd_same (q od)
    · exact keysK I1 hd q
  · subst e
    cases r1
    rcases q with ⟨hd, q⟩ | ⟨o, hd, q⟩
    · obtain ⟨od, I2⟩ := I1.lock hd trivial
      exact keysT I2 upd_same (q od)
    · exact keysT I1 hd q
/-- a dict known from now on -/
def tKnow (te : TE) : TE := fun σ H Q => te σ H fun x H1 => ∃ d kvs, x = .ref d ∧ ((H1 d = some (.dK kvs) ∧ ∀ o, Q x (upd H1 d (.frz o (.dK kvs)))) ∨ ∃ o, H1 d = some (.frz o (.dK kvs)) ∧ Q x H1)
theorem pe_know {te : TE} (he : PE X e te) : PE X e (tKnow te) := by
  refine ⟨fun pins s σ H Q I h => ?_⟩
  refine thn (he.run pins s σ H _ I h) fun v s1 ⟨x, H1, I1, r1, d, kvs, e, q⟩ => ?_
  rcases q with ⟨hd, q⟩ | ⟨o, hd, q⟩
  · obtain ⟨od, I2⟩ := I1.lock hd trivial
    exact ⟨x, _, I2, r1, q od⟩
  · exact ⟨x, H1, I1, r1, q⟩
end

/-! ### what is walked, by data -/
def ItOk (C : CN) (O : AS) (H : Hp) (J : It) (ds : List D) : Prop :=
  ∃ G Y, Walk J ds.length G Y ∧ (∀ H', Keep O H H' → G H') ∧ ∀ i H' x H'' d, ds[i]? = some d → Keep O H H' → Y i H' x H'' → Alc H' H'' ∧ ∀ O', (∀ a, O' a → O a ∨ H a = none) → OT O' H' → Fz C O' H'' d x
theorem fzL_get {C O H} : ∀ {ds : List D} {vs : List V} {i : Nat} {d : D} {x : V}, FzL C O H ds vs → ds[i]? = some d → vs[i]? = some x → Fz C O H d x
  | [], vs, i, d, x, h, e1, e2 => by simp at e1
  | d0 :: ds, vs, i, d, x, h, e1, e2 => by
    unfold OwL at h
    obtain ⟨v, r, F1, F2, rfl, h1, h2, h3, h4⟩ := h
    cases i with
    | zero =>
      simp only [List.getElem?_cons_zero, Option.some.injEq] at e1 e2
      subst e1
      subst e2
      exact Ow.mono (fun b hb => (h1 b hb).1) h3
    | succ i =>
      simp only [List.getElem?_cons_succ] at e1 e2
      exact fzL_get (i := i) (OwL.mono h2 h4) e1 e2
theorem fz_keep {C O O' H H'} (k : Keep O H H') (g : ∀ a, O' a → O a ∨ H a = none) {d : D} {v : V} (h : Fz C O H d v) : Fz C O' H' d v :=
  Ow.stay (W := O) ⟨k, fun _ z => z.elim, fun a z => z, g, fun _ z => z.elim⟩ d v h
theorem fzL_keep {C O O' H H'} (k : Keep O H H') (g : ∀ a, O' a → O a ∨ H a = none) {ds : List D} {vs : List V} (h : FzL C O H ds vs) : FzL C O' H' ds vs :=
  OwL.stay (W := O) ⟨k, fun _ z => z.elim, fun a z => z, g, fun _ z => z.elim⟩ ds vs h
theorem itOk_at {C : CN} {O : AS} {H : Hp} {ds : List D} {vs : List V} {J : It} {G : Hp → Prop} (hw : Walk J vs.length G (YAt vs)) (hG : ∀ H', Keep O H H' → G H') (h : FzL C O H ds vs) : ItOk C O H J ds :=
  ⟨G, YAt vs, by rw [← h.length]; exact hw, hG, fun i H' x H'' d e k y => by
    obtain ⟨rfl, y⟩ := y
    exact ⟨.refl, fun O' g _ => fz_keep k g (fzL_get h e y)⟩⟩
def kD : Key → D
  | .inl i => .int i
  | .inr s => .str s
def elems : D → Option (List D)
  | .lst _ ds => some ds
  | .tup ds => some ds
  | .ptup ds => some ds
  | .str z => some (z.cps.toList.map fun c => .str ⟨#[c]⟩)
  | .dk _ ks _ => some (ks.map kD)
  | .dt _ ks _ => some (ks.map fun k => .tup (k.map kD))
  | _ => none
theorem kD_fz {C O H F} (k : Key) : Ow C O H F (kD k) (kV k) := by
  cases k <;> (unfold kD kV Ow; rfl)
theorem kDs_fz {C O H} : ∀ (k : List Key), FzL C O H (k.map kD) (k.map kV)
  | [] => by unfold OwL; rfl
  | k :: ks => by
    show OwL C O H A0 (kD k :: ks.map kD) _
    unfold OwL
    exact ⟨kV k, ks.map kV, A0, A0, rfl, fun _ z => z.elim, fun _ z => z.elim, kD_fz k, kDs_fz ks⟩
theorem itOk_str {C O H} {z : Str} : ItOk C O H (Its z) (z.cps.toList.map fun c => .str ⟨#[c]⟩) := by
  refine ⟨_, _, by rw [List.length_map, Array.length_toList]; exact walk_str, fun _ _ => trivial, fun i H' x H'' d e k y => ?_⟩
  obtain ⟨rfl, c, ec, rfl⟩ := y
  refine ⟨.refl, fun O' g _ => ?_⟩
  rw [List.getElem?_map, Array.getElem?_toList, ec] at e
  cases e
  unfold Ow
  rfl
theorem itOk_keys {C O H d o ks} {kvs : List (Key × V)} (hd : H d = some (.frz o (.dK kvs))) (hO : ¬ O d) (hk : kvs.map (·.1) = ks) : ItOk C O H (Itk d o kvs) (ks.map kD) := by
  refine ⟨_, _, by rw [List.length_map, ← hk, List.length_map]; exact walk_keys, fun H' k => ?_, fun i H' x H'' dd e k y => ?_⟩
  · rcases k d _ hd hO (fun z => z) with z | ⟨z, _⟩
    · exact z
    · exact z.elim
  · obtain ⟨rfl, key, v, e1, rfl⟩ := y
    refine ⟨.refl, fun O' g _ => ?_⟩
    rw [← hk, List.getElem?_map, List.getElem?_map, e1] at e
    cases e
    exact kD_fz key
theorem itOk_keysT {C O H d o ks} {kvs : List (List Key × V)} (hd : H d = some (.frz o (.dT kvs))) (hO : ¬ O d) (hk : kvs.map (·.1) = ks) : ItOk C O H (Itkt d o kvs) (ks.map fun k => .tup (k.map kD)) := by
  refine ⟨_, _, by rw [List.length_map, ← hk, List.length_map]; exact walk_keysT, fun H' k => ?_, fun i H' x H'' dd e k y => ?_⟩
  · rcases k d _ hd hO (fun z => z) with z | ⟨z, _⟩
    · exact z
    · exact z.elim
  · obtain ⟨rfl, key, v, q, e1, rfl, e2⟩ := y
    refine ⟨.refl, fun O' g ot => ?_⟩
    rw [← hk, List.getElem?_map, List.getElem?_map, e1] at e
    cases e
    have nq : ¬ O' q := fun z => by
      obtain ⟨u, e3, n⟩ := ot q z
      rw [e2] at e3
      rw [← Option.some.inj e3] at n
      exact n
    unfold Ow
    exact ⟨q, key.map kV, rfl, e2, nq, kDs_fz key⟩
section
variable {W : Dx} {E : XK} {X : Cx}
def PostI (W : Dx) (E : XK) (B : AS) (Fs : Nat → AS) (σ : L2.St) (H : Hp) (o : Out (List D)) (R : It → Hp → Prop) : Prop :=
  match o with
  | .ok ds ρ' => ∀ J H' Fs', Rel W B Fs' σ H' ρ' → ItOk W.C (OO B Fs') H' J ds → Stp B Fs Fs' H H' → R J H'
  | .exc c ρ' => ∀ H' Fs', Rel W B Fs' σ H' ρ' → Stp B Fs Fs' H H' → E (.ref (W.X c)) none H'
  | .bad => False
def dI (W : Dx) (E : XK) (m : M (List D)) : TI := fun σ H R => ∃ B Fs ρ, Rel W B Fs σ H ρ ∧ PostI W E B Fs σ H (m ρ) R
def DI (W : Dx) (E : XK) (X : Cx) (tg e : Expr) (m : M (List D)) : Prop := PI X tg e (dI W E m)
/-- a dict that is not owned is known -/
theorem Rel.know {B Fs σ H ρ d u o} (r : Rel W B Fs σ H ρ) (h : H d = some u) (hu : isD u) (hO : ¬ OO B Fs d) : Rel W B Fs σ (upd H d (.frz o u)) ρ ∧ Stp B Fs Fs H (upd H d (.frz o u)) := by
  have kp : Keep A0 H (upd H d (.frz o u)) := fun a v e _ _ => by
    by_cases ha : a = d
    · subst ha
      rw [h] at e
      cases e
      exact .inr ⟨hu, o, upd_same⟩
    · exact .inl (by rw [upd_ne ha]; exact e)
  have dm : ∀ a, H a ≠ none → upd H d (.frz o u) a ≠ none := fun a ha => by
    by_cases e : a = d
    · rw [e, upd_same]; simp
    · rw [upd_ne e]; exact ha
  have ob : ∀ a, Ob H a → Ob (upd H d (.frz o u)) a := fun a ⟨v, e, n⟩ => by
    by_cases ha : a = d
    · rw [ha]
      exact ⟨_, upd_same, by cases u <;> first | exact hu.elim | trivial⟩
    · exact ⟨v, by rw [upd_ne ha]; exact e, n⟩
  refine ⟨⟨fun a ha => ob a (r.bd a ha), fun i a ha => ⟨ob a (r.fd i a ha).1, (r.fd i a ha).2⟩, r.dj, fun i dd e => ?_, r.pin, r.len, W.T.st r.tb fun a v e f => ?_⟩, ⟨fun a v e _ n => kp a v e (fun z => z) n, fun a z => upd_ne fun q => hO (.inl (by rw [← q]; exact z)), fun _ _ z => .inl z, dm⟩⟩
  · obtain ⟨v, e1, e2⟩ := r.sl i dd e
    refine ⟨v, e1, Ow.stay (W := A0) ⟨kp, fun a ha => ?_, fun _ z => z.elim, fun a z => .inl z, fun a z => .inr ⟨i, z⟩⟩ dd v e2⟩
    exact upd_ne fun z => hO (.inr ⟨i, by rw [← z]; exact ha⟩)
  · rw [upd_ne fun z => ?_]
    · exact e
    · rw [z, h] at e
      have e' := Option.some.inj e
      rw [← e'] at f
      cases u <;> first | exact hu.elim | exact f.elim
def iterM (m : M D) : M (List D) := M.bind m fun d => M.opt (elems (fz d))
/-- no longer owned: a temporary -/
theorem tmp_fz {B F Fs σ H ρ d v} (r : Rel W (U B F) Fs σ H ρ) (ow : Ow W.C (OO (U B F) Fs) H F d v) (hB : ∀ a, F a → ¬ B a) : Fz W.C (OO B Fs) H (fz d) v :=
  Ow.fz (fun a z => by
    rcases z with z | ⟨i, z⟩
    · exact ⟨.inl (.inl z), fun q => hB a q z⟩
    · exact ⟨.inr ⟨i, z⟩, fun q => (r.fd i a z).2 (.inr q)⟩) d v ow
theorem di_any {tg e : Expr} {m : M D} (hK : W.C.K = X.K) (h : DE W E X e m) : DI W E X tg e (iterM m) := by
  refine ⟨fun pins s σ H R I hh => (pi_any h).run pins s σ H R I ?_⟩
  obtain ⟨B, Fs, ρ, r, p⟩ := hh
  refine ⟨B, Fs, ρ, r, ?_⟩
  unfold iterM M.bind at p
  cases hm : m ρ with
  | bad => rw [hm] at p; exact p.elim
  | exc c ρ2 => rw [hm] at p; exact p
  | ok d ρ2 =>
    rw [hm] at p
    intro v H1 Fs1 F1 r1 ow s1 fr
    have hz := tmp_fz r1 ow fun a ha z => (r.bd a z).ne (fr a ha)
    have rB := r1.drop
    cases hd : fz d with
    | lst o ds =>
      simp only [hd, elems] at p hz
      have ho : o = false := by cases d <;> simp [fz] at hd <;> exact hd.1
      subst ho
      unfold Ow at hz
      obtain ⟨a, vs, G, e1, e2, e3, e4, e5⟩ := hz
      have e5' : FzL W.C (OO B Fs1) H1 ds vs := e5.mono fun b hb => e4 b hb
      refine .inl ⟨a, e1, ⟨vs, SqL.of e2⟩, p _ _ _ rB (itOk_at walk_list (fun H' k => ?_) e5') s1⟩
      rcases k a _ e2 e3 (fun z => z) with z | ⟨z, _⟩
      · exact SqL.of z
      · exact z.elim
    | tup ds =>
      simp only [hd, elems] at p hz
      unfold Ow at hz
      obtain ⟨a, vs, e1, e2, e3, e5⟩ := hz
      refine .inr (.inl ⟨a, e1, ⟨vs, SqT.of e2⟩, p _ _ _ rB (itOk_at walk_tup (fun H' k => ?_) e5) s1⟩)
      rcases k a _ e2 e3 (fun z => z) with z | ⟨z, _⟩
      · exact SqT.of z
      · exact z.elim
    | ptup ds =>
      simp only [hd, elems] at p hz
      unfold Ow at hz
      obtain ⟨a, vs, ob, e1, e2, _, e3, e5⟩ := hz
      refine .inr (.inl ⟨a, e1, ⟨vs, .inl (.inr ⟨ob, e2⟩)⟩, p _ _ _ rB (itOk_at walk_tup (fun H' k => ?_) e5) s1⟩)
      rcases k a _ e2 e3 (fun z => z) with z | ⟨z, _⟩
      · exact .inl (.inr ⟨ob, z⟩)
      · exact z.elim
    | str z =>
      simp only [hd, elems] at p hz
      unfold Ow at hz
      exact .inr (.inr (.inl ⟨z, hz, p _ _ _ rB itOk_str s1⟩))
    | dk o ks ds =>
      simp only [hd, elems] at p hz
      have ho : o = false := by cases d <;> simp [fz] at hd <;> exact hd.1
      subst ho
      unfold Ow at hz
      obtain ⟨a, kvs, G, e1, e2, e3, e4, e5, e6⟩ := hz
      refine .inr (.inr (.inr (.inl ⟨a, kvs, e1, ?_⟩)))
      rcases (show Rd H1 a (.dK kvs) from e2) with e2 | ⟨o, e2⟩
      · refine .inl ⟨e2, fun o => ?_⟩
        obtain ⟨r2, s2⟩ := rB.know (o := o) e2 trivial e3
        exact p _ _ _ r2 (itOk_keys upd_same e3 e5) (s1.trans s2)
      · exact .inr ⟨o, e2, p _ _ _ rB (itOk_keys e2 e3 e5) s1⟩
    | dt o ks ds =>
      simp only [hd, elems] at p hz
      have ho : o = false := by cases d <;> simp [fz] at hd <;> exact hd.1
      subst ho
      unfold Ow at hz
      obtain ⟨a, kvs, G, e1, e2, e3, e4, e5, e6⟩ := hz
      refine .inr (.inr (.inr (.inr ⟨a, kvs, e1, ?_⟩)))
      rcases (show Rd H1 a (.dT kvs) from e2) with e2 | ⟨o, e2⟩
      · refine .inl ⟨e2, fun o => ?_⟩
        obtain ⟨r2, s2⟩ := rB.know (o := o) e2 trivial e3
        exact p _ _ _ r2 (itOk_keysT upd_same e3 e5) (s1.trans s2)
      · exact .inr ⟨o, e2, p _ _ _ rB (itOk_keysT e2 e3 e5) s1⟩
    | _ => simp only [hd, elems] at p; exact p.elim
end
end DL
end

section
set_option Elab.async false
set_option linter.all false
set_option maxRecDepth 100000
set_option maxHeartbeats 2000000
/-! D7: targets, for. -/
namespace DL
open PySem PySem.Spec PyProof.Rows L2

/-- the slots but is agree -/
def Ag (is : List Nat) (σ σ' : L2.St) : Prop := σ'.length = σ.length ∧ ∀ j, j ∉ is → σ'[j]? = σ[j]?
theorem Ag.refl {is σ} : Ag is σ σ := ⟨rfl, fun _ _ => rfl⟩
theorem Ag.trans {is js σ σ1 σ2} (a : Ag is σ σ1) (b : Ag js σ1 σ2) : Ag (is ++ js) σ σ2 := ⟨b.1.trans a.1, fun j hj => by
  rw [List.mem_append, not_or] at hj
  exact (b.2 j hj.2).trans (a.2 j hj.1)⟩
section
variable {W : Dx} {E : XK} {X : Cx}
def PostG (W : Dx) (is : List Nat) (B : AS) (Fs : Nat → AS) (σ : L2.St) (H : Hp) (o : Out Unit) (Q : L2.St → Hp → Prop) : Prop :=
  match o with
  | .ok _ ρ' => ∀ σ' H' Fs', Rel W B Fs' σ' H' ρ' → Stp B Fs Fs' H H' → Ag is σ σ' → Q σ' H'
  | _ => False
def dG (W : Dx) (is : List Nat) (g : D → M Unit) : TG := fun v σ H Q => ∃ B Fs ρ d, Rel W B Fs σ H ρ ∧ Fz W.C (OO B Fs) H d v ∧ PostG W is B Fs σ H (g d ρ) Q
def dGs (W : Dx) (is : List Nat) (g : List D → M Unit) : TGs := fun vs σ H Q => ∃ B Fs ρ ds, Rel W B Fs σ H ρ ∧ FzL W.C (OO B Fs) H ds vs ∧ PostG W is B Fs σ H (g ds ρ) Q
def DG (W : Dx) (X : Cx) (tg : Expr) (is : List Nat) (g : D → M Unit) : Prop := PG X tg (dG W is g)
def DGs (W : Dx) (X : Cx) (tgs : List Expr) (is : List Nat) (g : List D → M Unit) : Prop := PGs X tgs (dGs W is g)
theorem mnG {X : Cx} {e : Expr} {t t' : TG} (h : PG X e t) (hm : ∀ v σ H Q, t' v σ H Q → t v σ H Q) : PG X e t' := ⟨fun pins s σ H v u Q I r q => h.run pins s σ H v u Q I r (hm _ _ _ _ q)⟩
theorem mnGs {X : Cx} {e : List Expr} {t t' : TGs} (h : PGs X e t) (hm : ∀ v σ H Q, t' v σ H Q → t v σ H Q) : PGs X e t' := ⟨fun pins s σ H v u Q I r q => h.run pins s σ H v u Q I r (hm _ _ _ _ q)⟩
def gN (i : Nat) : D → M Unit := fun d ρ => if i < ρ.length then .ok () (ρ.set i (some d)) else .bad
def gs0 : List D → M Unit
  | [] => M.pure ()
  | _ => M.bad
def gsC (g : D → M Unit) (gs : List D → M Unit) : List D → M Unit
  | d :: ds => M.bind (g d) fun _ => gs ds
  | [] => M.bad
def gT (gs : List D → M Unit) : D → M Unit
  | .tup ds => gs ds
  | _ => M.bad
theorem dg_name {i : Nat} {x : Str} {pos : Pos} (hN : X.N.Nodup) (hi : X.N[i]? = some x) (hx : Loc X.env.scope x) (hp : free W i) (hf : X.fn x = true ∨ X.env.scope.names.lookup x = some .local := by first | exact .inl rfl | exact .inr rfl | assumption) : DG W X (.Name x pos) [i] (gN i) :=
  mnG (pg_name hN hi hx hf) fun v σ H Q ⟨B, Fs, ρ, d, r, hz, p⟩ => by
    unfold gN at p
    by_cases hl : i < ρ.length
    · rw [if_pos hl] at p
      have e0 : U B A0 = B := u0 fun _ z => z
      refine p _ H _ (Rel.set (F := A0) (by rw [e0]; exact r) (by rw [e0]; exact hz) (fun _ z => z.elim) hl hp) (Stp.refl.set fun _ z => z.elim) ⟨List.length_set .., fun j hj => ?_⟩
      exact List.getElem?_set_ne fun z => hj (by rw [z]; exact List.mem_singleton.mpr rfl)
    · rw [if_neg hl] at p
      exact p.elim
theorem fzL_stp {C : CN} {B Bs Fs Fs' H H'} (s : Stp Bs Fs Fs' H H') {ds : List D} {vs : List V} (h : FzL C (OO B Fs) H ds vs) : FzL C (OO B Fs') H' ds vs :=
  OwL.stay (W := fun a => ∃ i, Fs i a) ⟨s.keep, fun _ z => z.elim, fun a z => .inr z, fun a z => by
    rcases z with z | ⟨i, z⟩
    · exact .inl (.inl z)
    · rcases s.old i a z with z | z
      · exact .inl (.inr ⟨i, z⟩)
      · exact .inr z, fun _ z => z.elim⟩ ds vs h
theorem fz_stp {C : CN} {B Bs Fs Fs' H H'} (s : Stp Bs Fs Fs' H H') {d : D} {v : V} (h : Fz C (OO B Fs) H d v) : Fz C (OO B Fs') H' d v :=
  Ow.stay (W := fun a => ∃ i, Fs i a) ⟨s.keep, fun _ z => z.elim, fun a z => .inr z, fun a z => by
    rcases z with z | ⟨i, z⟩
    · exact .inl (.inl z)
    · rcases s.old i a z with z | z
      · exact .inl (.inr ⟨i, z⟩)
      · exact .inr z, fun _ z => z.elim⟩ d v h
theorem dgs_nil : DGs W X [] [] gs0 := mnGs pgs_nil fun vs σ H Q ⟨B, Fs, ρ, ds, r, hz, p⟩ => by
  cases ds with
  | nil => exact ⟨by unfold OwL at hz; exact hz, p σ H Fs r .refl .refl⟩
  | cons d ds => exact p.elim
theorem dgs_cons {e : Expr} {es : List Expr} {is js : List Nat} {g : D → M Unit} {gs : List D → M Unit} (h : DG W X e is g) (hs : DGs W X es js gs) (hst : (assignEach (e :: es) X.env).map (·.2) = assign e X.env :: (assignEach es X.env).map (·.2) := by rfl) : DGs W X (e :: es) (is ++ js) (gsC g gs) :=
  mnGs (pgs_cons h hs hst) fun vs σ H Q ⟨B, Fs, ρ, ds, r, hz, p⟩ => by
    cases ds with
    | nil => exact p.elim
    | cons d ds =>
      unfold OwL at hz
      obtain ⟨v, rr, F1, F2, e1, h1, h2, h3, h4⟩ := hz
      refine ⟨v, rr, e1, B, Fs, ρ, d, r, h3.mono fun b hb => (h1 b hb).1, ?_⟩
      have p : PostG W (is ++ js) B Fs σ H (M.bind (g d) (fun _ => gs ds) ρ) Q := p
      unfold M.bind at p
      cases hm : g d ρ with
      | ok u ρ1 =>
        rw [hm] at p
        refine fun σ1 H1 Fs1 r1 s1 a1 => ⟨B, Fs1, ρ1, ds, r1, fzL_stp s1 (h4.mono h2), ?_⟩
        have p : PostG W (is ++ js) B Fs σ H (gs ds ρ1) Q := p
        unfold PostG at p ⊢
        cases hg : gs ds ρ1 with
        | ok u ρ2 =>
          rw [hg] at p
          exact fun σ2 H2 Fs2 r2 s2 a2 => p σ2 H2 Fs2 r2 (s1.trans s2) (a1.trans a2)
        | exc c ρ2 => rw [hg] at p; exact p
        | bad => rw [hg] at p; exact p
      | exc c ρ1 => rw [hm] at p; exact p.elim
      | bad => rw [hm] at p; exact p.elim
theorem dg_tup {es : List Expr} {k : Nat} {pos : Pos} {is : List Nat} {gs : List D → M Unit} {n : Nat} (hK : W.C.K = X.K) (hc : X.calm = true) (h : DGs W X es is gs) (hl : ∀ ds : List D, ∀ ρ, (∃ ρ', gs ds ρ = .ok () ρ') → ds.length = n)
    (hn : (assignEach es X.env).length = n := by rfl) (hst : (assignEach es X.env).findIdx? (·.1) = none := by rfl) : DG W X (.Tuple es k pos) is (gT gs) :=
  mnG (pg_tup hc h hn hst) fun v σ H Q ⟨B, Fs, ρ, d, r, hz, p⟩ => by
    cases d with
    | tup ds =>
      unfold Ow at hz
      obtain ⟨a, vs, e1, e2, e3, e4⟩ := hz
      refine ⟨a, vs, e1, SqT.of e2, ?_, B, Fs, ρ, ds, r, e4, p⟩
      rw [e4.length]
      have p : PostG W is B Fs σ H (gs ds ρ) Q := p
      cases hg : gs ds ρ with
      | ok u ρ2 => exact hl ds ρ ⟨ρ2, by rw [hg]⟩
      | exc c ρ2 => rw [hg] at p; exact p.elim
      | bad => rw [hg] at p; exact p.elim
    | _ => exact p.elim
/-- the length that a list of targets takes -/
theorem gs0_len (ds : List D) (ρ : Rho) (h : ∃ ρ', gs0 ds ρ = .ok () ρ') : ds.length = 0 := by
  cases ds with
  | nil => rfl
  | cons d ds => obtain ⟨_, h⟩ := h; cases h
theorem gsC_len {g : D → M Unit} {gs : List D → M Unit} {n : Nat} (hl : ∀ ds : List D, ∀ ρ, (∃ ρ', gs ds ρ = .ok () ρ') → ds.length = n) (ds : List D) (ρ : Rho) (h : ∃ ρ', gsC g gs ds ρ = .ok () ρ') : ds.length = n + 1 := by
  cases ds with
  | nil => obtain ⟨_, h⟩ := h; cases h
  | cons d ds =>
    obtain ⟨ρ', h⟩ := h
    have h : M.bind (g d) (fun _ => gs ds) ρ = .ok () ρ' := h
    unfold M.bind at h
    cases hm : g d ρ with
    | ok u ρ1 => rw [hm] at h; rw [List.length_cons, hl ds ρ1 ⟨ρ', h⟩]
    | exc c ρ1 => rw [hm] at h; cases h
    | bad => rw [hm] at h; cases h

/-! ### target = value -/
def asgS (m : M D) (g : D → M Unit) : M Fl := M.bind m fun d => M.bind (g (fz d)) fun _ => skip
/-- targets do not raise -/
def NoX (g : D → M Unit) : Prop := ∀ d ρ c ρ', g d ρ ≠ .exc c ρ'
def NoXs (g : List D → M Unit) : Prop := ∀ d ρ c ρ', g d ρ ≠ .exc c ρ'
theorem nox_n {i} : NoX (gN i) := fun d ρ c ρ' e => by unfold gN at e; split at e <;> cases e
theorem nox_0 : NoXs gs0 := fun d ρ c ρ' e => by cases d <;> cases e
theorem nox_c {g gs} (h : NoX g) (hs : NoXs gs) : NoXs (gsC g gs) := fun d ρ c ρ' e => by
  cases d with
  | nil => cases e
  | cons d ds =>
    have e : M.bind (g d) (fun _ => gs ds) ρ = .exc c ρ' := e
    unfold M.bind at e
    cases hm : g d ρ with
    | ok u ρ1 => rw [hm] at e; exact hs _ _ _ _ e
    | exc c ρ1 => exact h _ _ _ _ hm
    | bad => rw [hm] at e; cases e
theorem nox_t {gs} (hs : NoXs gs) : NoX (gT gs) := fun d ρ c ρ' e => by
  cases d with
  | tup ds => exact hs _ _ _ _ e
  | _ => cases e
theorem ds_asg {tg e : Expr} {m : M D} {is : List Nat} {g : D → M Unit} {pos : Pos} (h : DE W E X e m) (hg : DG W X tg is g) (nx : NoX g) (hs : swapsWithSole [tg] e pos.line X.env = Pure.pure false := by rfl) (hw : swappedStores [tg] e X.env = Pure.pure none := by rfl)
    (h1 : (assignEach [tg] X.env).map (·.2) = [assign tg X.env] := by rfl) : DS W E X (.Assign [tg] e pos) (asgS m g) :=
  mnS (ps_asg h hg hs hw h1) fun D σ H h => by
    obtain ⟨B, Fs, ρ, r, p⟩ := h
    refine ⟨B, Fs, ρ, r, ?_⟩
    unfold asgS M.bind at p
    cases hm : m ρ with
    | ok a ρ2 =>
      rw [hm] at p
      refine fun v H2 Fs2 F2 r2 ow s fr => ⟨B, Fs2, ρ2, fz a, r2.drop, tmp_fz r2 ow fun b hb z => (r.bd b z).ne (fr b hb), ?_⟩
      simp only at p
      cases hg : g (fz a) ρ2 with
      | ok u ρ3 =>
        rw [hg] at p
        exact fun σ' H' Fs' r' s' _ => p σ' H' Fs' r' (s.trans s')
      | exc c ρ3 => exact absurd hg (nx _ _ _ _)
      | bad => rw [hg] at p; exact p.elim
    | exc c ρ2 =>
      rw [hm] at p
      exact fun H2 Fs2 r2 s => (show PostS W E B Fs H (.exc c ρ2) D from p) H2 Fs2 _ r2 s
    | bad => rw [hm] at p; exact p.elim

/-! ### for -/
def forF (g : D → M Unit) (b : M Fl) : List D → M Fl
  | [] => skip
  | d :: ds => M.bind (g d) fun _ => M.bind b fun fl => match fl with
    | .nx => forF g b ds
    | .ct => forF g b ds
    | .bk => skip
    | .rt d => M.pure (.rt d)
def forS (it : M (List D)) (g : D → M Unit) (b : M Fl) : M Fl := M.bind it (forF g b)
theorem loop_post {b n : M Fl} {B Fs H ρ D} {N : L2.St → Hp → Prop} (p : PostS W E B Fs H (M.bind b (fun fl => match fl with
    | .nx => n
    | .ct => n
    | .bk => skip
    | .rt d => M.pure (.rt d)) ρ) D) (hN : ∀ ρ' σ' H' Fs', Rel W B Fs' σ' H' ρ' → Stp B Fs Fs' H H' → PostS W E B Fs' H' (n ρ') D → N σ' H') : PostS W E B Fs H (b ρ) { D with nx := N, ct := N, bk := D.nx } := by
  unfold M.bind at p
  cases hm : b ρ with
  | ok fl ρ2 =>
    rw [hm] at p
    cases fl with
    | nx => exact fun σ' H' Fs' r' s => hN ρ2 σ' H' Fs' r' s (p.later s)
    | ct => exact fun σ' H' Fs' r' s => hN ρ2 σ' H' Fs' r' s (p.later s)
    | bk => exact p
    | rt d => exact p
  | exc c ρ2 => rw [hm] at p; exact p
  | bad => rw [hm] at p; exact p
theorem Rel.alc {B Fs σ H H' ρ} (r : Rel W B Fs σ H ρ) (a : Alc H H') : Rel W B Fs σ H' ρ := (r.res a (F := A0) (fun _ z => z.elim) fun _ z => z.elim).drop
theorem keepO {B Bs Fs Fs' H H'} (s : Stp Bs Fs Fs' H H') : Keep (OO B Fs) H H' := fun a u e n t => s.keep a u e (fun z => n (.inr z)) t
theorem groO {B Bs Fs Fs' H H'} (s : Stp Bs Fs Fs' H H') : ∀ a, OO B Fs' a → OO B Fs a ∨ H a = none := fun a z => by
  rcases z with z | ⟨i, z⟩
  · exact .inl (.inl z)
  · rcases s.old i a z with z | z
    · exact .inl (.inr ⟨i, z⟩)
    · exact .inr z
theorem drop_get {α : Type} {l : List α} {i : Nat} (h : i < l.length) : l.drop i = l[i] :: l.drop (i + 1) := List.drop_eq_getElem_cons h
theorem ds_for {tg iter : Expr} {body : List Stmt} {it : M (List D)} {is : List Nat} {g : D → M Unit} {b : M Fl} {pos : Pos} (hp : PassesOwn (model X.prog X.w) X.A X.env X.xe) (hc : X.calm = true) (hi : DI W E X tg iter it) (hg : DG W X tg is g) (nx : NoX g) (hb : DB W E X body b)
    (hs : ∀ x, foldedSetIterable iter X.env x = Pure.pure x := by intro _; rfl) : DS W E X (.For tg iter body [] pos) (forS it g b) :=
  mnS (ps_for hp hc hi hg hb hs) fun D σ H h => by
    obtain ⟨B, Fs, ρ, r, p⟩ := h
    refine ⟨B, Fs, ρ, r, ?_⟩
    unfold forS M.bind at p
    cases hm : it ρ with
    | exc c ρ2 => rw [hm] at p; exact fun H2 Fs2 r2 s => (show PostS W E B Fs H (.exc c ρ2) D from p) H2 Fs2 _ r2 s
    | bad => rw [hm] at p; exact p
    | ok ds ρ1 =>
      rw [hm] at p
      intro J H1 Fs1 r1 ik s1
      obtain ⟨G, Y, hw, hG, hY⟩ := ik
      refine ⟨fun i m σ' H' => m = ds.length - i ∧ i ≤ ds.length ∧ ∃ Fs' ρ', Rel W B Fs' σ' H' ρ' ∧ Stp B Fs1 Fs' H1 H' ∧ PostS W E B Fs' H' (forF g b (ds.drop i) ρ') D, ⟨ds.length, by simp, Nat.zero_le _, Fs1, ρ1, r1, .refl, p.later s1⟩, ?_⟩
      rintro i m σ' H' ⟨rfl, hi, Fs', ρ', r', s', p'⟩
      have hk := keepO (B := B) s'
      by_cases hlt : i < ds.length
      · refine .inr ⟨hw.goes i H' hlt (hG H' hk), fun σ'' H'' => ∃ Fs'' ρ'', Rel W B Fs'' σ'' H'' ρ'' ∧ Stp B Fs1 Fs'' H1 H'' ∧ PostS W E B Fs'' H'' (forF g b (ds.drop (i + 1)) ρ'') D, fun σ'' H'' hN => ⟨ds.length - (i + 1), by omega, rfl, hlt, hN⟩, fun x H2 y => ?_⟩
        obtain ⟨al, fz2⟩ := hY i H' x H2 ds[i] (by simp [hlt]) hk (hw.yields i H' x H2 hlt (hG H' hk) y)
        have r2 := r'.alc al
        have s2 := s'.trans (al.stp (Fs := Fs') r'.bd)
        refine ⟨B, Fs', ρ', ds[i], r2, ?_, ?_⟩
        · have z := fz2 (OO B Fs') (groO s') r'.ot
          exact z
        rw [drop_get hlt] at p'
        have p' : PostS W E B Fs' H' (M.bind (g ds[i]) (fun _ => M.bind b fun fl => match fl with
          | .nx => forF g b (ds.drop (i + 1))
          | .ct => forF g b (ds.drop (i + 1))
          | .bk => skip
          | .rt d => M.pure (.rt d)) ρ') D := p'
        have p' := p'.later (al.stp (Fs := Fs') r'.bd)
        unfold M.bind at p'
        cases hm2 : g ds[i] ρ' with
        | bad => rw [hm2] at p'; exact p'.elim
        | exc c ρ2 => exact absurd hm2 (nx _ _ _ _)
        | ok u ρ2 =>
          rw [hm2] at p'
          intro σ3 H3 Fs3 r3 s3 _
          refine ⟨B, Fs3, ρ2, r3, loop_post (p'.later s3) fun ρ4 σ4 H4 Fs4 r4 s4 p4 => ⟨Fs4, ρ4, r4, (s2.trans s3).trans s4, p4⟩⟩
      · have e : i = ds.length := by omega
        subst e
        refine .inl ⟨hw.stops H' (hG H' hk), ?_⟩
        rw [List.drop_length] at p'
        exact p' σ' H' Fs' r' .refl
end
end DL
end

section
set_option Elab.async false
set_option linter.all false
set_option maxRecDepth 100000
set_option maxHeartbeats 2000000
/-! D8: list comprehensions (no exception leaves them). -/
namespace DL
open PySem PySem.Spec PyProof.Rows L2

def E0 : XK := fun _ _ _ => False
/-- slots forgotten; slots put back -/
def wipeR (ρ : Rho) : List Nat → Rho
  | [] => ρ
  | v :: vs => (wipeR ρ vs).set v none
def backR (ρ0 ρ : Rho) : List Nat → Rho
  | [] => ρ
  | v :: vs => (backR ρ0 ρ vs).set v (ρ0[v]?.join)
def compF (own : List Nat) (g : D → M Unit) (t : M Bool) (el : M D) : List D → List D → M (List D)
  | [], acc => M.pure acc
  | d :: ds, acc => M.bind (g d) fun _ => M.bind t fun b => if b = true then M.bind el fun x => (if acc.length < 2 ^ 24 then fun ρ => compF own g t el ds (acc ++ [x]) (wipeR ρ own) else M.bad) else fun ρ => compF own g t el ds acc (wipeR ρ own)
def compE (own : List Nat) (it : M (List D)) (g : D → M Unit) (t : M Bool) (el : M D) : M D := M.bind it fun ds => fun ρ1 => match compF own g t el ds [] (wipeR ρ1 own) with
  | .ok xs ρ2 => .ok (.lst true xs) (backR ρ1 ρ2 own)
  | _ => .bad
theorem wipeR_len (ρ : Rho) : ∀ vs, (wipeR ρ vs).length = ρ.length
  | [] => rfl
  | v :: vs => by unfold wipeR; rw [List.length_set, wipeR_len ρ vs]
theorem backR_len (ρ0 ρ : Rho) : ∀ vs, (backR ρ0 ρ vs).length = ρ.length
  | [] => rfl
  | v :: vs => by unfold backR; rw [List.length_set, backR_len ρ0 ρ vs]
theorem wipeR_get {ρ : Rho} {i : Nat} {d : D} : ∀ {vs : List Nat}, (wipeR ρ vs)[i]? = some (some d) → ρ[i]? = some (some d) ∧ i ∉ vs
  | [], h => ⟨h, by simp⟩
  | v :: vs, h => by
    unfold wipeR at h
    by_cases hi : v = i
    · subst hi
      rw [List.getElem?_set] at h
      simp only [if_true] at h
      split at h <;> cases h
    · rw [List.getElem?_set_ne hi] at h
      obtain ⟨h1, h2⟩ := wipeR_get h
      exact ⟨h1, by simp only [List.mem_cons, not_or]; exact ⟨fun e => hi e.symm, h2⟩⟩
theorem backR_get {ρ0 ρ : Rho} {i : Nat} {d : D} : ∀ {vs : List Nat}, (backR ρ0 ρ vs)[i]? = some (some d) → (i ∈ vs ∧ ρ0[i]? = some (some d)) ∨ (i ∉ vs ∧ ρ[i]? = some (some d))
  | [], h => .inr ⟨by simp, h⟩
  | v :: vs, h => by
    unfold backR at h
    by_cases hi : v = i
    · subst hi
      rw [List.getElem?_set] at h
      simp only [if_true] at h
      split at h
      · simp only [Option.some.injEq] at h
        refine .inl ⟨List.mem_cons_self, ?_⟩
        cases e : ρ0[v]? with
        | none => rw [e] at h; cases h
        | some o => rw [e] at h; exact congrArg some h
      · cases h
    · rw [List.getElem?_set_ne hi] at h
      rcases backR_get h with ⟨h1, h2⟩ | ⟨h1, h2⟩
      · exact .inl ⟨List.mem_cons_of_mem _ h1, h2⟩
      · exact .inr ⟨by simp only [List.mem_cons, not_or]; exact ⟨fun e => hi e.symm, h1⟩, h2⟩
theorem wipe_at {σ : L2.St} {j : Nat} : ∀ {vs : List Nat}, j ∉ vs → (wipe σ vs)[j]? = σ[j]?
  | [], _ => rfl
  | v :: vs, h => by
    unfold wipe
    simp only [List.mem_cons, not_or] at h
    rw [List.getElem?_set_ne (Ne.symm h.1)]
    exact wipe_at h.2
theorem wipe_in {σ : L2.St} {j : Nat} : ∀ {vs : List Nat}, j ∈ vs → (wipe σ vs)[j]? = if j < σ.length then some none else none
  | v :: vs, h => by
    unfold wipe
    rw [List.getElem?_set, wipe_length]
    by_cases e : v = j
    · subst e; rw [if_pos rfl]
    · rw [if_neg e]
      rcases List.mem_cons.mp h with z | z
      · exact absurd z.symm e
      · exact wipe_in z
theorem wipe_ag {σ σ' : L2.St} {vs : List Nat} (a : Ag vs (wipe σ vs) σ') : wipe σ' vs = wipe σ vs := by
  apply List.ext_getElem?
  intro j
  have hl : σ'.length = σ.length := by rw [a.1, wipe_length]
  by_cases h : j ∈ vs
  · rw [wipe_in h, wipe_in h, hl]
  · rw [wipe_at h, a.2 j h]

theorem bind_ok {α β : Type} {m : M α} {f : α → M β} {ρ ρ' : Rho} {b : β} (h : M.bind m f ρ = .ok b ρ') : ∃ a ρ1, m ρ = .ok a ρ1 ∧ f a ρ1 = .ok b ρ' := by
  unfold M.bind at h
  cases hm : m ρ with
  | ok a ρ1 => rw [hm] at h; exact ⟨a, ρ1, rfl, h⟩
  | exc c ρ1 => rw [hm] at h; cases h
  | bad => rw [hm] at h; cases h
theorem Stp.upd_new {B Fs Fs' H H' L o} (s : Stp B Fs Fs' H H') (hL : H L = none) (hB : ¬ B L) : Stp B Fs Fs' H (upd H' L o) := by
  have ne : ∀ a u, H a = some u → a ≠ L := fun a u e => ne_of_none e hL
  refine ⟨fun a u e n t => ?_, fun a z => ?_, s.old, fun a z => ?_⟩
  · rw [upd_ne (ne a u e)]; exact s.keep a u e n t
  · rw [upd_ne fun e => hB (by rw [← e]; exact z)]; exact s.kb a z
  · by_cases e : a = L
    · rw [e, upd_same]; simp
    · rw [upd_ne e]; exact s.dom a z
section
variable {W : Dx} {E : XK} {X : Cx}
/-- an object that nobody reads here is written -/
theorem Rel.wr {B Fs σ H ρ a u o} (r : Rel W B Fs σ H ρ) (hB : B a) (h : H a = some u) (hf : ¬ Fx u) (ht : nT o) : Rel W B Fs σ (upd H a o) ρ := by
  have ob : ∀ b, Ob H b → Ob (upd H a o) b := fun b ⟨v, e, n⟩ => by
    by_cases hb : b = a
    · rw [hb]; exact ⟨o, upd_same, ht⟩
    · exact ⟨v, by rw [upd_ne hb]; exact e, n⟩
  refine ⟨fun b hb => ob b (r.bd b hb), fun i b hb => ⟨ob b (r.fd i b hb).1, (r.fd i b hb).2⟩, r.dj, fun i d e => ?_, r.pin, r.len, W.T.st r.tb fun b v e f => ?_⟩
  · obtain ⟨v, e1, e2⟩ := r.sl i d e
    refine ⟨v, e1, Ow.stay (W := fun b => b = a) ⟨fun b v e n _ => .inl (by rw [upd_ne n]; exact e), fun b hb => upd_ne fun z => (r.fd i b hb).2 (by rw [z]; exact hB), fun b z => by rw [show b = a from z]; exact .inl hB, fun b z => .inl z, fun b z => .inr ⟨i, z⟩⟩ d v e2⟩
  · rw [upd_ne fun z => hf (by rw [z, h] at e; rw [Option.some.inj e]; exact f)]
    exact e
theorem owL_snoc {C O H} {F1 F2 G : AS} : ∀ {ds : List D} {vs : List V} {d : D} {v : V}, OwL C O H F1 ds vs → Ow C O H F2 d v → (∀ b, F1 b → ¬ F2 b) → (∀ b, F1 b → G b) → (∀ b, F2 b → G b) → OwL C O H G (ds ++ [d]) (vs ++ [v])
  | [], vs, d, v, h, h2, dj, s1, s2 => by
    unfold OwL at h
    subst h
    show OwL C O H G [d] [v]
    unfold OwL
    exact ⟨v, [], F2, A0, rfl, fun b hb => ⟨s2 b hb, fun z => z⟩, fun b z => z.elim, h2, by unfold OwL; rfl⟩
  | d0 :: ds, vs, d, v, h, h2, dj, s1, s2 => by
    unfold OwL at h
    obtain ⟨v0, r, Fa, Fb, rfl, k1, k2, k3, k4⟩ := h
    show OwL C O H G (d0 :: (ds ++ [d])) (v0 :: (r ++ [v]))
    unfold OwL
    refine ⟨v0, r ++ [v], Fa, U Fb F2, rfl, fun b hb => ⟨s1 b (k1 b hb).1, fun z => z.elim (k1 b hb).2 (dj b (k1 b hb).1)⟩, fun b z => z.elim (fun z => s1 b (k2 b z)) (s2 b), k3, ?_⟩
    exact owL_snoc k4 h2 (fun b hb => dj b (k2 b hb)) (fun b z => .inl z) (fun b z => .inr z)
theorem Rel.wipe {B Fs σ H ρ} {vs : List Nat} (r : Rel W B Fs σ H ρ) (hf : ∀ j ∈ vs, free W j) : Rel W B (fun j => if j ∈ vs then A0 else Fs j) (wipe σ vs) H (wipeR ρ vs) := by
  have hFb : ∀ j a, (if j ∈ vs then A0 else Fs j) a → j ∉ vs ∧ Fs j a := fun j a z => by
    split at z
    · exact z.elim
    · exact ⟨by assumption, z⟩
  refine ⟨r.bd, fun i a ha => r.fd i a (hFb i a ha).2, fun i j a h1 h2 => r.dj i j a (hFb i a h1).2 (hFb j a h2).2, fun i d e => ?_, fun q hq => ?_, by rw [wipeR_len, wipe_length]; exact r.len, r.tb⟩
  · obtain ⟨e1, hi'⟩ := wipeR_get e
    obtain ⟨v, q1, q2⟩ := r.sl i d e1
    refine ⟨v, by rw [wipe_at hi']; exact q1, ?_⟩
    rw [if_neg hi']
    exact Ow.stay (W := A0) ⟨.refl, fun _ _ => rfl, fun _ z => z.elim, fun a z => .inl (z.elim .inl fun ⟨j, z⟩ => .inr ⟨j, (hFb j a z).2⟩), fun a z => .inr ⟨i, by show (if i ∈ vs then A0 else Fs i) a; rw [if_neg hi']; exact z⟩⟩ d v q2
  · rw [wipe_at fun z => hf q.1 z q hq rfl]
    exact r.pin q hq
theorem stp_wipe {B Fs H} {vs : List Nat} : Stp B Fs (fun j => if j ∈ vs then A0 else Fs j) H H := ⟨.refl, fun _ _ => rfl, fun j a z => .inl (by
    have z : (if j ∈ vs then A0 else Fs j) a := z
    split at z
    · exact z.elim
    · exact z), fun _ h => h⟩
theorem uassoc {A B C : AS} : U (U A B) C = U A (U B C) := by
  funext a
  exact propext ⟨fun z => z.elim (fun z => z.elim .inl fun z => .inr (.inl z)) fun z => .inr (.inr z), fun z => z.elim (fun z => .inl (.inl z)) fun z => z.elim (fun z => .inl (.inr z)) .inr⟩
/-- the clause's tests -/
def DTs (W : Dx) (E : XK) (X : Cx) (ifs : List Expr) (m : M Bool) : Prop := PTs X ifs (dT W E BR m)
theorem dts_nil : DTs W E X [] (M.pure true) := ⟨fun pins s σ H Q I h => pts_nil.run pins s σ H Q I (dT_pure_rd (R := BR) h fun _ => ⟨fun _ z => z, rfl⟩)⟩
theorem dts_one {c : Expr} {m : M Bool} (h : DT W E X c m) : DTs W E X [c] m := pts_one h
/-- the state amid a comprehension: D the new list, what is made so far -/
theorem dT_of {α β : Type} {R : RR α β} {m : M α} {B Fs σ H ρ} {Q : β → Hp → Prop} (r : Rel W B Fs σ H ρ) (h : Post W E R B Fs σ H (m ρ) Q) : dT W E R m σ H Q := ⟨B, Fs, ρ, r, h⟩
theorem lc_rd {own : List (Str × Nat)} {it : M (List D)} {is : List Nat} {g : D → M Unit} {t : M Bool} {el : M D} {σ : L2.St} {H : Hp} {Q : VK} (his : ∀ j ∈ is, j ∈ own.map (·.2)) (hfree : ∀ j ∈ own.map (·.2), free W j) (nx : NoX g) (h : dT W E (DR W) (compE (own.map (·.2)) it g t el) σ H Q) :
    tLc (dI W E it) (dG W is g) (dT W E0 BR t) (dT W E0 (DR W) el) (own.map (·.2)) σ H Q := by
  obtain ⟨B, Fs, ρ, r, p⟩ := h
  generalize hvs : own.map (·.2) = vs at *
  refine ⟨B, Fs, ρ, r, ?_⟩
  unfold compE M.bind at p
  cases hm : it ρ with
  | exc c ρ2 => rw [hm] at p; exact p
  | bad => rw [hm] at p; exact p
  | ok ds ρ1 =>
    rw [hm] at p
    simp only at p
    intro J H1 Fs1 r1 ik s1 L hL
    obtain ⟨G, Y, hw, hG, hY⟩ := ik
    cases hcF : compF vs g t el ds [] (wipeR ρ1 vs) with
    | exc c ρ2 => rw [hcF] at p; exact p.elim
    | bad => rw [hcF] at p; exact p.elim
    | ok xs ρ2 =>
    rw [hcF] at p
    -- the block's slots
    let Own : AS := fun a => ∃ j, j ∈ vs ∧ Fs1 j a
    let Fb : Nat → AS := fun j => if j ∈ vs then A0 else Fs1 j
    have hFb : ∀ j a, Fb j a → j ∉ vs ∧ Fs1 j a := fun j a z => by
      have z : (if j ∈ vs then A0 else Fs1 j) a := z
      split at z
      · exact z.elim
      · exact ⟨by assumption, z⟩
    let Bb : AS := U B Own
    have oB : ∀ a, OO Bb Fb a → OO B Fs1 a := fun a z => by
      rcases z with (z | ⟨j, _, z⟩) | ⟨j, z⟩
      · exact .inl z
      · exact .inr ⟨j, z⟩
      · exact .inr ⟨j, (hFb j a z).2⟩
    have rb : Rel W Bb Fb (wipe σ vs) H1 (wipeR ρ1 vs) := by
      refine ⟨fun a ha => ?_, fun i a ha => ⟨(r1.fd i a (hFb i a ha).2).1, fun z => ?_⟩, fun i j a h1 h2 => r1.dj i j a (hFb i a h1).2 (hFb j a h2).2, fun i d e => ?_, fun q hq => ?_, by rw [wipeR_len, wipe_length]; exact r1.len, r1.tb⟩
      · rcases ha with ha | ⟨j, _, ha⟩
        · exact r1.bd a ha
        · exact (r1.fd j a ha).1
      · rcases z with z | ⟨j, hj, z⟩
        · exact (r1.fd i a (hFb i a ha).2).2 z
        · have := r1.dj i j a (hFb i a ha).2 z
          exact (hFb i a ha).1 (by rw [this]; exact hj)
      · obtain ⟨e1, hi'⟩ := wipeR_get e
        obtain ⟨v, q1, q2⟩ := r1.sl i d e1
        refine ⟨v, by rw [wipe_at hi']; exact q1, ?_⟩
        have hF : Fb i = Fs1 i := by show (if i ∈ vs then A0 else Fs1 i) = Fs1 i; rw [if_neg hi']
        rw [hF]
        exact Ow.stay (W := A0) ⟨.refl, fun _ _ => rfl, fun _ z => z.elim, fun a z => .inl (oB a z), fun a z => .inr ⟨i, by rw [hF]; exact z⟩⟩ d v q2
      · rw [wipe_at fun z => hfree q.1 z q hq rfl]
        exact r1.pin q hq
    -- amid the run: what is made so far, acc, with Fa
    let St : Nat → L2.St → Hp → Prop := fun i σ' H' => ∃ (Fa : AS) (Fs' : Nat → AS) (ρ' : Rho) (acc : List D) (avs : List V), σ' = wipe σ vs ∧ Rel W (U (U Bb fun a => a = L) Fa) Fs' σ' H' ρ' ∧ Stp Bb Fb Fs' H1 H' ∧ Fr Fa H1 ∧ ¬ Fa L ∧ H' L = some (.lst avs) ∧
      OwL W.C (OO (U (U Bb fun a => a = L) Fa) Fs') H' Fa acc avs ∧ compF vs g t el (ds.drop i) acc ρ' = .ok xs ρ2
    have start : St 0 (wipe σ vs) (upd H1 L (.lst [])) := by
      have al := alc_new (u := .lst []) hL
      refine ⟨A0, Fb, wipeR ρ1 vs, [], [], rfl, ?_, al.stp rb.bd, fun _ z => z.elim, fun z => z, upd_same, by unfold OwL; rfl, by rw [List.drop_zero]; exact hcF⟩
      exact (rb.res al (F := fun a => a = L) (fun a z => by rw [show a = L from z]; exact hL) fun a z => ⟨.lst [], by rw [show a = L from z, upd_same], True.intro⟩).u0 fun _ z => z
    have keepJ : ∀ {i σ' H'}, St i σ' H' → Keep (OO B Fs1) H1 H' := fun {i σ' H'} ⟨Fa, Fs', ρ', acc, avs, _, _, st, _⟩ => fun a u e n t => st.keep a u e (fun ⟨j, z⟩ => n (.inr ⟨j, (hFb j a z).2⟩)) t
    have fin : ∀ H', St ds.length (wipe σ vs) H' → Q (.ref L) H' := by
      rintro H' ⟨Fa, Fs', ρ', acc, avs, _, r', st, fr, nL, hLl, ow, hcf⟩
      rw [List.drop_length] at hcf
      obtain ⟨rfl, rfl⟩ : acc = xs ∧ ρ' = ρ2 := by
        have := Out.ok.inj (show Out.ok acc ρ' = Out.ok xs ρ2 from hcf)
        exact this
      -- back: the own slots' parts
      let Fe : Nat → AS := fun j => if j ∈ vs then Fs1 j else Fs' j
      let FL : AS := U (fun a => a = L) Fa
      have hFe : ∀ j a, Fe j a → (j ∈ vs ∧ Fs1 j a) ∨ (j ∉ vs ∧ Fs' j a) := fun j a z => by
        have z : (if j ∈ vs then Fs1 j else Fs' j) a := z
        split at z
        · exact .inl ⟨by assumption, z⟩
        · exact .inr ⟨by assumption, z⟩
      have oE : ∀ a, OO (U B FL) Fe a → OO (U (U Bb fun a => a = L) Fa) Fs' a := fun a z => by
        rcases z with (z | z | z) | ⟨j, z⟩
        · exact .inl (.inl (.inl (.inl z)))
        · exact .inl (.inl (.inr z))
        · exact .inl (.inr z)
        · rcases hFe j a z with ⟨h1, h2⟩ | ⟨_, h2⟩
          · exact .inl (.inl (.inl (.inr ⟨j, h1, h2⟩)))
          · exact .inr ⟨j, h2⟩
      have nb : ∀ a, Fs1 = Fs1 → (∃ j, Fs1 j a) → H1 a ≠ none := fun a _ ⟨j, z⟩ => (r1.fd j a z).1.ne
      have re : Rel W (U B FL) Fe σ H' (backR ρ1 ρ' vs) := by
        refine ⟨fun a ha => ?_, fun i a ha => ?_, fun i j a h1 h2 => ?_, fun i d e => ?_, r1.pin, by rw [backR_len, r'.len, wipe_length], r'.tb⟩
        · rcases ha with ha | ha | ha
          · exact r'.bd a (.inl (.inl (.inl ha)))
          · exact r'.bd a (.inl (.inr ha))
          · exact r'.bd a (.inr ha)
        · rcases hFe i a ha with ⟨h1, h2⟩ | ⟨h1, h2⟩
          · refine ⟨r'.bd a (.inl (.inl (.inr ⟨i, h1, h2⟩))), fun z => ?_⟩
            rcases z with z | z | z
            · exact (r1.fd i a h2).2 z
            · rw [show a = L from z] at h2
              exact (r1.fd i L h2).1.ne hL
            · exact (r1.fd i a h2).1.ne (fr a z)
          · refine ⟨(r'.fd i a h2).1, fun z => (r'.fd i a h2).2 ?_⟩
            rcases z with z | z | z
            · exact .inl (.inl (.inl z))
            · exact .inl (.inr z)
            · exact .inr z
        · rcases hFe i a h1 with ⟨h1, h3⟩ | ⟨h1, h3⟩ <;> rcases hFe j a h2 with ⟨h2, h4⟩ | ⟨h2, h4⟩
          · exact r1.dj i j a h3 h4
          · exact absurd (.inl (.inl (.inr ⟨i, h1, h3⟩))) (r'.fd j a h4).2
          · exact absurd (.inl (.inl (.inr ⟨j, h2, h4⟩))) (r'.fd i a h3).2
          · exact r'.dj i j a h3 h4
        · rcases backR_get e with ⟨h1, h2⟩ | ⟨h1, h2⟩
          · obtain ⟨v, q1, q2⟩ := r1.sl i d h2
            refine ⟨v, q1, ?_⟩
            have hF : Fe i = Fs1 i := by show (if i ∈ vs then Fs1 i else Fs' i) = Fs1 i; rw [if_pos h1]
            rw [hF]
            refine Ow.stay (W := fun a => ∃ i, Fb i a) ⟨st.keep, fun a ha => ?_, fun a ⟨j, z⟩ => .inr ⟨j, (hFb j a z).2⟩, fun a z => ?_, fun a z => .inr ⟨i, by rw [hF]; exact z⟩⟩ d v q2
            · exact st.kb a (.inr ⟨i, h1, ha⟩)
            · rcases z with (z | z | z) | ⟨j, z⟩
              · exact .inl (.inl z)
              · exact .inr (by rw [show a = L from z]; exact hL)
              · exact .inr (fr a z)
              · rcases hFe j a z with ⟨_, z⟩ | ⟨_, z⟩
                · exact .inl (.inr ⟨j, z⟩)
                · rcases st.old j a z with z | z
                  · exact .inl (.inr ⟨j, (hFb j a z).2⟩)
                  · exact .inr z
          · obtain ⟨v, q1, q2⟩ := r'.sl i d h2
            refine ⟨v, by rw [wipe_at h1] at q1; exact q1, ?_⟩
            have hF : Fe i = Fs' i := by show (if i ∈ vs then Fs1 i else Fs' i) = Fs' i; rw [if_neg h1]
            rw [hF]
            exact Ow.stay (W := A0) ⟨.refl, fun _ _ => rfl, fun _ z => z.elim, fun a z => .inl (oE a z), fun a z => .inr ⟨i, by rw [hF]; exact z⟩⟩ d v q2
      refine p (.ref L) H' Fe FL re ?_ (s1.trans ⟨fun a u e n t => st.keep a u e (fun ⟨j, z⟩ => n ⟨j, (hFb j a z).2⟩) t, fun a z => st.kb a (.inl z), fun j a z => ?_, st.dom⟩) fun a z => ?_
      · show Ow W.C _ H' FL (.lst true acc) (.ref L)
        unfold Ow
        refine ⟨L, avs, Fa, rfl, hLl, ⟨.inl (.inr (.inl rfl)), .inl rfl⟩, ⟨fun b z => .inr z, nL⟩, ?_⟩
        exact OwL.stay (W := A0) ⟨.refl, fun _ _ => rfl, fun _ z => z.elim, fun a z => .inl (oE a z), fun a z => .inl (.inr (.inr z))⟩ acc avs ow
      · rcases hFe j a z with ⟨_, z⟩ | ⟨_, z⟩
        · exact .inl z
        · rcases st.old j a z with z | z
          · exact .inl (hFb j a z).2
          · exact .inr z
      · rcases z with z | z
        · rw [show a = L from z]; exact s1.fresh hL
        · exact s1.fresh (fr a z)
    -- the turns
    refine ⟨fun i m H' => m = ds.length - i ∧ i ≤ ds.length ∧ St i (wipe σ vs) H', ⟨ds.length, by simp, Nat.zero_le _, start⟩, ?_⟩
    rintro i m H' ⟨rfl, hi', st'⟩
    have hk := keepJ st'
    by_cases hlt : i < ds.length
    case neg =>
      have e : i = ds.length := by omega
      subst e
      exact .inl ⟨hw.stops H' (hG H' hk), fin H' st'⟩
    refine .inr ⟨hw.goes i H' hlt (hG H' hk), fun H'' => St (i + 1) (wipe σ vs) H'', fun H'' hN => ⟨ds.length - (i + 1), by omega, rfl, hlt, hN⟩, fun x H2 y => ?_⟩
    obtain ⟨Fa, Fs', ρ', acc, avs, _, r', st, fr, nL, hLl, ow, hcf⟩ := st'
    obtain ⟨al, fz2⟩ := hY i H' x H2 ds[i] (by simp [hlt]) hk (hw.yields i H' x H2 hlt (hG H' hk) y)
    have r2 := r'.alc al
    rw [drop_get hlt] at hcf
    have hcf : M.bind (g ds[i]) (fun _ => M.bind t fun b => if b = true then M.bind el fun x => (if acc.length < 2 ^ 24 then fun ρ => compF vs g t el (ds.drop (i + 1)) (acc ++ [x]) (wipeR ρ vs) else M.bad) else fun ρ => compF vs g t el (ds.drop (i + 1)) acc (wipeR ρ vs)) ρ' = .ok xs ρ2 := hcf
    let B1 : AS := U (U Bb fun a => a = L) Fa
    refine ⟨B1, Fs', ρ', ds[i], r2, fz2 (OO B1 Fs') (fun a z => ?_) r'.ot, ?_⟩
    · rcases z with ((z | z) | z) | ⟨j, z⟩
      · exact .inl (oB a (.inl z))
      · exact .inr (by rw [show a = L from z]; exact hL)
      · exact .inr (fr a z)
      · rcases st.old j a z with z | z
        · exact .inl (oB a (.inr ⟨j, z⟩))
        · exact .inr z
    obtain ⟨u, ρ3, h3, hcf⟩ := bind_ok hcf
    obtain ⟨b, ρ4, h4, hcf⟩ := bind_ok hcf
    rw [h3]
    intro σ3 H3 Fs3 r3 s3 a3
    have a3' : Ag vs (wipe σ vs) σ3 := ⟨a3.1, fun j hj => a3.2 j fun z => hj (his j z)⟩
    have hw3 := wipe_ag a3'
    refine ⟨hw3, B1, Fs3, ρ3, r3, ?_⟩
    rw [h4]
    intro x' H4 Fs4 F4 r4 hb s4 fr4
    obtain ⟨hF4, eb⟩ := hb
    subst eb
    rw [u0 hF4] at r4
    have sAll : Stp Bb Fb Fs4 H1 H4 := ((st.trans (al.stp fun a z => r'.bd a (.inl (.inl z)))).trans (s3.weak fun a z => .inl (.inl z))).trans (s4.weak fun a z => .inl (.inl z))
    have L4 : H4 L = some (.lst avs) := by
      rw [s4.kb L (.inl (.inr rfl)), s3.kb L (.inl (.inr rfl))]
      exact al L _ hLl
    have hst1 : Stp B1 Fs' Fs4 H' H4 := ((al.stp r'.bd).trans s3).trans s4
    have ow4 : OwL W.C (OO B1 Fs4) H4 Fa acc avs := OwL.stay (W := fun a => ∃ i, Fs' i a) ⟨hst1.keep, fun a z => hst1.kb a (.inr z), fun a z => .inr z, groO hst1, fun a z => .inl (.inr z)⟩ acc avs ow
    cases b with
    | false =>
      rw [if_neg Bool.false_ne_true] at hcf ⊢
      refine ⟨Fa, _, _, acc, avs, rfl, by have q := r4.wipe hfree; rw [hw3] at q; exact q, sAll.trans stp_wipe, fr, nL, L4, ?_, hcf⟩
      exact OwL.stay (W := A0) ⟨.refl, fun _ _ => rfl, fun _ z => z.elim, groO (stp_wipe (B := B1) (H := H4)), fun a z => .inl (.inr z)⟩ acc avs ow4
    | true =>
      rw [if_pos rfl] at hcf ⊢
      obtain ⟨xd, ρ5, h5, hcf⟩ := bind_ok hcf
      refine ⟨B1, Fs4, ρ4, r4, ?_⟩
      rw [h5]
      intro yv H5 Fs5 F5 r5 ow5 s5 fr5
      have L5 : H5 L = some (.lst avs) := (s5.kb L (.inl (.inr rfl))).trans L4
      by_cases hsz : acc.length < 2 ^ 24
      case neg => rw [if_neg hsz] at hcf; cases hcf
      rw [if_pos hsz] at hcf
      refine ⟨avs, L5, by rw [ow.length, sizeLine_eq]; exact hsz, ?_⟩
      have r6 : Rel W (U (U Bb fun a => a = L) (U Fa F5)) (fun j => if j ∈ vs then A0 else Fs5 j) (wipe σ vs) H5 (wipeR ρ5 vs) := by
        have q := r5.wipe hfree
        rw [hw3] at q
        rw [← uassoc]
        exact q
      have nF5 : ¬ F5 L := fun z => by
        have := fr5 L z
        rw [L4] at this
        cases this
      have frU : Fr (U Fa F5) H1 := fun a z => z.elim (fr a) fun z => sAll.fresh (fr5 a z)
      refine ⟨U Fa F5, _, _, acc ++ [xd], avs ++ [yv], rfl, r6.wr (.inl (.inr rfl)) L5 (fun z => z) True.intro, ?_, frU, fun z => z.elim nL nF5, upd_same, ?_, hcf⟩
      · exact ((sAll.trans (s5.weak fun a z => .inl (.inl z))).trans stp_wipe).upd_new hL fun z => (rb.bd L z).ne hL
      · have hO : ∀ a, OO (U (U Bb fun a => a = L) (U Fa F5)) (fun j => if j ∈ vs then A0 else Fs5 j) a → OO (U B1 F5) Fs5 a := fun a z => by
          rw [← uassoc] at z
          exact (groO (stp_wipe (B := U B1 F5) (H := H5)) a z).elim id fun q => by
            rcases z with z | ⟨j, z⟩
            · exact .inl z
            · have z : (if j ∈ vs then A0 else Fs5 j) a := z
              split at z
              · exact z.elim
              · exact .inr ⟨j, z⟩
        have sw : ∀ {F : AS}, (∀ a, F a → U Fa F5 a) → Stay W.C (OO (U B1 F5) Fs5) (OO (U (U Bb fun a => a = L) (U Fa F5)) (fun j => if j ∈ vs then A0 else Fs5 j)) (fun a => a = L) F H5 (upd H5 L (.lst (avs ++ [yv]))) := fun {F} hF =>
          ⟨fun a u e n _ => .inl (by rw [upd_ne n]; exact e), fun a z => upd_ne fun e => (by rw [e] at z; exact (hF L z).elim nL nF5), fun a z => by rw [show a = L from z]; exact .inl (.inl (.inl (.inr rfl))), fun a z => .inl (hO a z), fun a z => .inl (.inr (hF a z))⟩
        have ow5a : OwL W.C (OO (U B1 F5) Fs5) H5 Fa acc avs := OwL.stay (W := fun a => ∃ i, Fs4 i a) ⟨s5.keep, fun a z => s5.kb a (.inr z), fun a z => .inr z, fun a z => by
          rcases z with (z | z) | ⟨j, z⟩
          · exact .inl (.inl z)
          · exact .inr (fr5 a z)
          · rcases s5.old j a z with z | z
            · exact .inl (.inr ⟨j, z⟩)
            · exact .inr z, fun a z => .inl (.inl (.inr z))⟩ acc avs ow4
        refine owL_snoc (F1 := Fa) (F2 := F5) (OwL.stay (sw fun a z => .inl z) acc avs ow5a) (Ow.stay (sw fun a z => .inr z) xd yv ow5) (fun a z q => ?_) (fun a z => .inl z) (fun a z => .inr z)
        exact (r4.bd a (.inr z)).ne (fr5 a q)
theorem de_lc {elt tg iter : Expr} {ifs : List Expr} {scope : Scope} {own : List (Str × Nat)} {pos : Pos} {it : M (List D)} {is : List Nat} {g : D → M Unit} {t : M Bool} {el : M D} (hc : X.calm = true) (hN : X.N.Nodup) (hi : DI W E X tg iter it) (ok : BlkOk X.N X.env.scope scope own) (his : ∀ j ∈ is, j ∈ own.map (·.2)) (hfree : ∀ j ∈ own.map (·.2), free W j)
    (hg : ∀ (s : Shared) (H : Hp) (C : Addr) (cl : List (Str × Addr)) (fp : List Addr), DG W (X.blk s H scope (compEnvC scope cl C X.env) fp) tg is g) (nx : NoX g)
    (ht : ∀ (s : Shared) (H : Hp) (C : Addr) (cl : List (Str × Addr)) (fp : List Addr), DTs W E0 (X.blk s H scope (compEnvC scope cl C X.env) fp) ifs t)
    (he : ∀ (s : Shared) (H : Hp) (C : Addr) (cl : List (Str × Addr)) (fp : List Addr), DE W E0 (X.blk s H scope (compEnvC scope cl C X.env) fp) elt el) (hs : ∀ x, foldedSetIterable iter X.env x = Pure.pure x := by intro _; rfl) :
    DE W E X (.ListComp elt [⟨tg, iter, ifs, 0⟩] scope pos) (compE (own.map (·.2)) it g t el) :=
  mnE (pe_lc hc hN hi ok hg ht he hs) fun σ H Q h => lc_rd his hfree nx h
/-- name = [..] on one line, the name a local -/
theorem ds_setLc {i : Nat} {y : Str} {py : Pos} {elt tg iter : Expr} {ifs : List Expr} {scope : Scope} {own : List (Str × Nat)} {pos spos : Pos} {it : M (List D)} {is : List Nat} {g : D → M Unit} {t : M Bool} {el : M D} (hc : X.calm = true) (hN : X.N.Nodup) (hy : X.N[i]? = some y) (hyl : X.env.scope.names.lookup y = some .local) (hp : free W i)
    (hsw : swapsWith (.ListComp elt [⟨tg, iter, ifs, 0⟩] scope pos) (some (.Name y py)) spos.line X.env = Pure.pure true) (hi : DI W E X tg iter it) (ok : BlkOk X.N X.env.scope scope own) (his : ∀ j ∈ is, j ∈ own.map (·.2)) (hfree : ∀ j ∈ own.map (·.2), free W j)
    (hg : ∀ (s : Shared) (H : Hp) (C : Addr) (cl : List (Str × Addr)) (fp : List Addr), DG W (X.blk s H scope (compEnvC scope cl C X.env) fp) tg is g) (nx : NoX g)
    (ht : ∀ (s : Shared) (H : Hp) (C : Addr) (cl : List (Str × Addr)) (fp : List Addr), DTs W E0 (X.blk s H scope (compEnvC scope cl C X.env) fp) ifs t)
    (he : ∀ (s : Shared) (H : Hp) (C : Addr) (cl : List (Str × Addr)) (fp : List Addr), DE W E0 (X.blk s H scope (compEnvC scope cl C X.env) fp) elt el) (hs : ∀ x, foldedSetIterable iter X.env x = Pure.pure x := by intro _; rfl) :
    DS W E X (.Assign [.Name y py] (.ListComp elt [⟨tg, iter, ifs, 0⟩] scope pos) spos) (setS i (compE (own.map (·.2)) it g t el)) :=
  mnS (ps_setLc hc hN hy hyl hsw hi ok hg ht he hs) fun D σ H h => lc_rd his hfree nx (set_rd hp h)
end
end DL
end

section
set_option Elab.async false
set_option linter.all false
set_option maxRecDepth 100000
set_option maxHeartbeats 2000000
/-! D9: defs: what they promise, how they are called. -/
namespace DL
open PySem PySem.Spec PyProof.Rows L2

inductive FO where
  | ok (d : D) (ps : List D) | exc (c : Nat) (ps : List D) | bad
/-- without slots that stay -/
def Dx.bare (W : Dx) : Dx := { W with pn := [] }
/-- an argument's datum behind the call: what is written (io) comes from the callee -/
def mix : List Bool → List D → List D → List D
  | true :: io, _ :: ds, p :: ps => p :: mix io ds ps
  | false :: io, d :: ds, _ :: ps => d :: mix io ds ps
  | _, ds, _ => ds
/-- only what is written is owned -/
def OnlyIo (io : List Bool) (Fs : Nat → AS) : Prop := ∀ j a, Fs j a → io[j]? = some true
def PostF (W : Dx) (io : List Bool) (vs : List V) (ds : List D) (B : AS) (Fs : Nat → AS) (H : Hp) (o : FO) (Q : VK) (E : XK) : Prop :=
  match o with
  | .ok d ps => ∀ v H' Fs' F, ps.length = ds.length → Rel W.bare (U B F) Fs' (vs.map some) H' ((mix io ds ps).map some) → Ow W.C (OO (U B F) Fs') H' F d v → Stp B Fs Fs' H H' → Fr F H → OnlyIo io Fs' → Q v H'
  | .exc c ps => ∀ H' Fs', ps.length = ds.length → Rel W.bare B Fs' (vs.map some) H' ((mix io ds ps).map some) → Stp B Fs Fs' H H' → OnlyIo io Fs' → E (.ref (W.X c)) none H'
  | .bad => False
/-- what is not written is not owned -/
def FzIo : List Bool → List D → Prop
  | [], [] => True
  | true :: io, _ :: ds => FzIo io ds
  | false :: io, d :: ds => isFz d = true ∧ FzIo io ds
  | _, _ => False
def spD (W : Dx) (io : List Bool) (F : List D → FO) : Sp := fun vs H Q E => vs.length = io.length ∧ ∃ B Fs ds, FzIo io ds ∧ Rel W.bare B Fs (vs.map some) H (ds.map some) ∧ PostF W io vs ds B Fs H (F ds) Q E

/-- the call's arguments -/
def prep : List Bool → List Tk → Rho → Option (List D)
  | [], [], _ => some []
  | true :: io, .s i :: ts, ρ => match ρ[i]?, prep io ts ρ with
    | some (some d), some ds => some (d :: ds)
    | _, _ => none
  | false :: io, .v d :: ts, ρ => if isFz d = true then (prep io ts ρ).map (d :: ·) else none
  | _, _, _ => none
/-- the slots that are written -/
def ios : List Bool → List Tk → List Nat
  | true :: io, .s i :: ts => i :: ios io ts
  | _ :: io, _ :: ts => ios io ts
  | _, _ => []
def backIo : List Bool → List Tk → List D → Rho → Rho
  | true :: io, .s i :: ts, p :: ps, ρ => (backIo io ts ps ρ).set i (some p)
  | _ :: io, _ :: ts, _ :: ps, ρ => backIo io ts ps ρ
  | _, _, _, ρ => ρ
/-- the call -/
def callD (io : List Bool) (F : List D → FO) (ts : List Tk) : M D := fun ρ => match prep io ts ρ with
  | some ds => if (ios io ts).Nodup then match F ds with
    | .ok d ps => .ok d (backIo io ts ps ρ)
    | .exc c ps => .exc c (backIo io ts ps ρ)
    | .bad => .bad
    else .bad
  | none => .bad
/-- parameter j is slot i, written -/
def Pj (io : List Bool) (ts : List Tk) (j i : Nat) : Prop := io[j]? = some true ∧ ts[j]? = some (.s i)
theorem prep_len : ∀ {io : List Bool} {ts : List Tk} {ρ : Rho} {ds : List D}, prep io ts ρ = some ds → io.length = ds.length ∧ ts.length = ds.length
  | [], [], ρ, ds, h => by simp [prep] at h; subst h; exact ⟨rfl, rfl⟩
  | true :: io, .s i :: ts, ρ, ds, h => by
    simp only [prep] at h
    split at h
    · rename_i d ds' h1 h2
      cases h
      obtain ⟨e1, e2⟩ := prep_len h2
      exact ⟨by simp [e1], by simp [e2]⟩
    · cases h
  | false :: io, .v d :: ts, ρ, ds, h => by
    simp only [prep] at h
    split at h
    · cases h2 : prep io ts ρ with
      | none => rw [h2] at h; cases h
      | some ds' =>
        rw [h2] at h
        cases h
        obtain ⟨e1, e2⟩ := prep_len h2
        exact ⟨by simp [e1], by simp [e2]⟩
    · cases h
  | [], _ :: _, _, _, h => by simp [prep] at h
  | true :: io, [], _, _, h => by simp [prep] at h
  | false :: io, [], _, _, h => by simp [prep] at h
  | true :: io, .v _ :: _, _, _, h => by simp [prep] at h
  | false :: io, .s _ :: _, _, _, h => by simp [prep] at h
theorem prep_get : ∀ {io : List Bool} {ts : List Tk} {ρ : Rho} {ds : List D} {j : Nat} {d : D}, prep io ts ρ = some ds → ds[j]? = some d →
    (∃ i, Pj io ts j i ∧ ρ[i]? = some (some d)) ∨ (io[j]? = some false ∧ ts[j]? = some (.v d) ∧ isFz d = true)
  | [], [], ρ, ds, j, d, h, e => by simp [prep] at h; subst h; simp at e
  | true :: io, .s i :: ts, ρ, ds, j, d, h, e => by
    simp only [prep] at h
    split at h
    · rename_i d' ds' h1 h2
      cases h
      cases j with
      | zero => simp at e; subst e; exact .inl ⟨i, ⟨rfl, rfl⟩, h1⟩
      | succ j => exact prep_get (j := j) h2 (by simpa using e)
    · cases h
  | false :: io, .v d0 :: ts, ρ, ds, j, d, h, e => by
    simp only [prep] at h
    split at h
    · rename_i hz
      cases h2 : prep io ts ρ with
      | none => rw [h2] at h; cases h
      | some ds' =>
        rw [h2] at h
        cases h
        cases j with
        | zero => simp at e; subst e; exact .inr ⟨rfl, rfl, hz⟩
        | succ j => exact prep_get (j := j) h2 (by simpa using e)
    · cases h
  | [], _ :: _, _, _, _, _, h, _ => by simp [prep] at h
  | true :: io, [], _, _, _, _, h, _ => by simp [prep] at h
  | false :: io, [], _, _, _, _, h, _ => by simp [prep] at h
  | true :: io, .v _ :: _, _, _, _, _, h, _ => by simp [prep] at h
  | false :: io, .s _ :: _, _, _, _, _, h, _ => by simp [prep] at h
theorem prep_fz : ∀ {io : List Bool} {ts : List Tk} {ρ : Rho} {ds : List D}, prep io ts ρ = some ds → FzIo io ds
  | [], [], ρ, ds, h => by simp [prep] at h; subst h; trivial
  | true :: io, .s i :: ts, ρ, ds, h => by
    simp only [prep] at h
    split at h
    · rename_i d ds' h1 h2
      cases h
      simp only [FzIo]
      exact prep_fz h2
    · cases h
  | false :: io, .v d :: ts, ρ, ds, h => by
    simp only [prep] at h
    split at h
    · rename_i hz
      cases h2 : prep io ts ρ with
      | none => rw [h2] at h; cases h
      | some ds' =>
        rw [h2] at h
        cases h
        simp only [FzIo]
        exact ⟨hz, prep_fz h2⟩
    · cases h
  | [], _ :: _, _, _, h => by simp [prep] at h
  | true :: io, [], _, _, h => by simp [prep] at h
  | false :: io, [], _, _, h => by simp [prep] at h
  | true :: io, .v _ :: _, _, _, h => by simp [prep] at h
  | false :: io, .s _ :: _, _, _, h => by simp [prep] at h
theorem ios_mem : ∀ {io : List Bool} {ts : List Tk} {j i : Nat}, Pj io ts j i → i ∈ ios io ts
  | [], _, j, i, h => by obtain ⟨h, _⟩ := h; simp at h
  | b :: io, [], j, i, h => by obtain ⟨_, h⟩ := h; simp at h
  | b :: io, t :: ts, 0, i, h => by
    obtain ⟨h1, h2⟩ := h
    simp at h1 h2
    subst h1; subst h2
    simp [ios]
  | b :: io, t :: ts, j + 1, i, h => by
    have h' : Pj io ts j i := ⟨by simpa using h.1, by simpa using h.2⟩
    have := ios_mem h'
    cases b <;> cases t <;> simp [ios, this]
theorem ios_inj : ∀ {io : List Bool} {ts : List Tk} {j k i : Nat}, (ios io ts).Nodup → Pj io ts j i → Pj io ts k i → j = k
  | [], _, j, k, i, _, h, _ => by obtain ⟨h, _⟩ := h; simp at h
  | b :: io, [], j, k, i, _, h, _ => by obtain ⟨_, h⟩ := h; simp at h
  | b :: io, t :: ts, j, k, i, nd, h1, h2 => by
    have tl : ∀ {j}, Pj (b :: io) (t :: ts) (j + 1) i → Pj io ts j i := fun {j} h => ⟨by simpa using h.1, by simpa using h.2⟩
    have ndt : (ios io ts).Nodup := by
      cases b <;> cases t <;> first | exact nd | exact (List.nodup_cons.mp nd).2
    have hd : Pj (b :: io) (t :: ts) 0 i → i ∉ ios io ts := fun h => by
      obtain ⟨q1, q2⟩ := h
      simp at q1 q2
      rw [q1, q2] at nd
      exact (List.nodup_cons.mp nd).1
    cases j with
    | zero =>
      cases k with
      | zero => rfl
      | succ k => exact absurd (ios_mem (tl h2)) (hd h1)
    | succ j =>
      cases k with
      | zero => exact absurd (ios_mem (tl h1)) (hd h2)
      | succ k => rw [ios_inj ndt (tl h1) (tl h2)]
theorem mix_get : ∀ {io : List Bool} {ds ps : List D} {j : Nat}, io.length = ds.length → ps.length = ds.length → (mix io ds ps)[j]? = (if io[j]? = some true then ps[j]? else ds[j]?)
  | [], [], ps, j, _, h => by cases ps with | nil => simp [mix] | cons p ps => cases h
  | b :: io, d :: ds, p :: ps, j, h1, h2 => by
    have h1' : io.length = ds.length := by simpa using h1
    have h2' : ps.length = ds.length := by simpa using h2
    cases j with
    | zero => cases b <;> simp [mix]
    | succ j => cases b <;> simpa [mix] using mix_get (j := j) h1' h2'
  | [], d :: ds, _, _, h, _ => by cases h
  | b :: io, [], _, _, h, _ => by cases h
  | b :: io, d :: ds, [], _, _, h => by cases h
theorem mix_len : ∀ {io : List Bool} {ds ps : List D}, (mix io ds ps).length = ds.length
  | [], ds, ps => by simp [mix]
  | true :: io, [], ps => by simp [mix]
  | false :: io, [], ps => by simp [mix]
  | true :: io, d :: ds, [] => by simp [mix]
  | false :: io, d :: ds, [] => by simp [mix]
  | true :: io, d :: ds, p :: ps => by simp [mix, mix_len (io := io)]
  | false :: io, d :: ds, p :: ps => by simp [mix, mix_len (io := io)]
theorem backIo_len : ∀ {io : List Bool} {ts : List Tk} {ps : List D} {ρ : Rho}, (backIo io ts ps ρ).length = ρ.length
  | [], _, _, _ => by simp [backIo]
  | b :: io, [], _, _ => by cases b <;> simp [backIo]
  | b :: io, t :: ts, [], _ => by cases b <;> cases t <;> simp [backIo]
  | b :: io, t :: ts, p :: ps, ρ => by cases b <;> cases t <;> simp [backIo, backIo_len (io := io)]
theorem backIo_get : ∀ {io : List Bool} {ts : List Tk} {ps : List D} {ρ : Rho} {i : Nat} {o : Option D}, io.length = ps.length → ts.length = ps.length → (ios io ts).Nodup → (backIo io ts ps ρ)[i]? = some o →
    (∃ j d, Pj io ts j i ∧ ps[j]? = some d ∧ o = some d) ∨ ((∀ j, ¬ Pj io ts j i) ∧ ρ[i]? = some o)
  | [], [], [], ρ, i, o, _, _, _, h => .inr ⟨fun j z => by obtain ⟨z, _⟩ := z; simp at z, by simpa [backIo] using h⟩
  | b :: io, t :: ts, p :: ps, ρ, i, o, h1, h2, nd, h => by
    have h1' : io.length = ps.length := by simpa using h1
    have h2' : ts.length = ps.length := by simpa using h2
    have ndt : (ios io ts).Nodup := by
      cases b <;> cases t <;> first | exact nd | exact (List.nodup_cons.mp nd).2
    have up : ∀ {o}, (∃ j d, Pj io ts j i ∧ ps[j]? = some d ∧ o = some d) → ∃ j d, Pj (b :: io) (t :: ts) j i ∧ (p :: ps)[j]? = some d ∧ o = some d := fun {o} ⟨j, d, z, e1, e2⟩ => ⟨j + 1, d, ⟨by simpa using z.1, by simpa using z.2⟩, by simpa using e1, e2⟩
    have no : (∀ j, ¬ Pj io ts j i) → ¬ Pj (b :: io) (t :: ts) 0 i → ∀ j, ¬ Pj (b :: io) (t :: ts) j i := fun h h0 j z => by
      cases j with
      | zero => exact h0 z
      | succ j => exact h j ⟨by simpa using z.1, by simpa using z.2⟩
    have other : (backIo io ts ps ρ)[i]? = some o → ¬ Pj (b :: io) (t :: ts) 0 i → (∃ j d, Pj (b :: io) (t :: ts) j i ∧ (p :: ps)[j]? = some d ∧ o = some d) ∨ ((∀ j, ¬ Pj (b :: io) (t :: ts) j i) ∧ ρ[i]? = some o) := fun h h0 => by
      rcases backIo_get h1' h2' ndt h with z | ⟨z1, z2⟩
      · exact .inl (up z)
      · exact .inr ⟨no z1 h0, z2⟩
    cases b with
    | false =>
      have h' : (backIo io ts ps ρ)[i]? = some o := by cases t <;> simpa [backIo] using h
      exact other h' fun z => by obtain ⟨z, _⟩ := z; simp at z
    | true =>
      cases t with
      | v d => exact other (by simpa [backIo] using h) fun z => by obtain ⟨_, z⟩ := z; simp at z
      | s k =>
        have h' : ((backIo io ts ps ρ).set k (some p))[i]? = some o := by simpa [backIo] using h
        by_cases e : k = i
        · subst e
          rw [List.getElem?_set] at h'
          simp only [if_true] at h'
          split at h'
          · exact .inl ⟨0, p, ⟨rfl, rfl⟩, rfl, (Option.some.inj h').symm⟩
          · cases h'
        · rw [List.getElem?_set_ne e] at h'
          exact other h' fun z => by obtain ⟨_, z⟩ := z; simp at z; exact e z
  | [], _ :: _, [], _, _, _, _, h, _, _ => by cases h
  | _ :: _, _, [], _, _, _, h, _, _, _ => by cases h
  | [], _, _ :: _, _, _, _, h, _, _, _ => by cases h
  | _ :: _, [], _ :: _, _, _, _, _, h, _, _ => by cases h
theorem Paired.getP {α β : Type} {R : α → β → Prop} : ∀ {as : List α} {bs : List β} {i : Nat} {a : α}, Paired R as bs → as[i]? = some a → ∃ b, bs[i]? = some b ∧ R a b
  | _, _, _, _, .nil, e => by simp at e
  | _, _, 0, _, .cons r _, e => by simp at e; subst e; exact ⟨_, rfl, r⟩
  | _, _, i + 1, a, .cons _ t, e => by
    obtain ⟨b, h1, h2⟩ := Paired.getP (i := i) t (by simpa using e)
    exact ⟨b, by simpa using h1, h2⟩
theorem Paired.lenP {α β : Type} {R : α → β → Prop} : ∀ {as : List α} {bs : List β}, Paired R as bs → as.length = bs.length
  | _, _, .nil => rfl
  | _, _, .cons _ t => by simp [Paired.lenP t]
section
variable {W : Dx} {E : XK}
/-- the promise's premise, from the caller's state; what comes back -/
theorem call_lift {io : List Bool} {F : List D → FO} {ts : List Tk} {vs : List V} {B B0 Fs Fs0 σ H H0 ρ Q} (hB : ∀ a, B0 a → B a) (st0 : Stp B0 Fs0 Fs H0 H) (r : Rel W B Fs σ H ρ) (ht : Paired (fun t v => TkR W t (OO B Fs) H σ A0 v) ts vs)
    (p : Post W E (DR W) B0 Fs0 σ H0 (callD io F ts ρ) Q) : spD W io F vs H Q E := by
  unfold callD at p
  cases hp : prep io ts ρ with
  | none => rw [hp] at p; exact p.elim
  | some ds =>
  rw [hp] at p
  simp only at p
  by_cases nd : (ios io ts).Nodup
  case neg => rw [if_neg nd] at p; exact p.elim
  rw [if_pos nd] at p
  obtain ⟨l1, l2⟩ := prep_len hp
  have l3 : vs.length = ds.length := by rw [← Paired.lenP ht, l2]
  let Bc : AS := fun a => B a ∨ ∃ i, (∀ j, ¬ Pj io ts j i) ∧ Fs i a
  let Fc : Nat → AS := fun j a => ∃ i, Pj io ts j i ∧ Fs i a
  have pfun : ∀ {j i k}, Pj io ts j i → Pj io ts j k → i = k := fun {j i k} h1 h2 => by
    have := h1.2.symm.trans h2.2
    simpa using this
  have cases_ : ∀ i, (∃ j, Pj io ts j i) ∨ ∀ j, ¬ Pj io ts j i := fun i => by
    by_cases h : ∃ j, Pj io ts j i
    · exact .inl h
    · exact .inr fun j z => h ⟨j, z⟩
  have oo : ∀ a, OO Bc Fc a ↔ OO B Fs a := fun a => by
    constructor
    · rintro ((z | ⟨i, _, z⟩) | ⟨j, i, _, z⟩)
      · exact .inl z
      · exact .inr ⟨i, z⟩
      · exact .inr ⟨i, z⟩
    · rintro (z | ⟨i, z⟩)
      · exact .inl (.inl z)
      · rcases cases_ i with ⟨j, h⟩ | h
        · exact .inr ⟨j, i, h, z⟩
        · exact .inl (.inr ⟨i, h, z⟩)
  have vsl : ∀ {j i}, Pj io ts j i → ∃ v, vs[j]? = some v ∧ σ[i]? = some (some v) := fun {j i} h => by
    obtain ⟨v, h1, h2⟩ := Paired.getP ht h.2
    exact ⟨v, h1, h2.2⟩
  have rc : Rel W.bare Bc Fc (vs.map some) H (ds.map some) := by
    refine ⟨fun a z => ?_, fun j a ⟨i, h1, h2⟩ => ⟨(r.fd i a h2).1, fun z => ?_⟩, fun j k a ⟨i, h1, h2⟩ ⟨i', h3, h4⟩ => ?_, fun j d e => ?_, fun q hq => absurd (show q ∈ ([] : List (Nat × V)) from hq) (by simp), by simp [l3], r.tb⟩
    · rcases z with z | ⟨i, _, z⟩
      · exact r.bd a z
      · exact (r.fd i a z).1
    · rcases z with z | ⟨i', h3, h4⟩
      · exact (r.fd i a h2).2 z
      · exact h3 j (by rw [← r.dj i i' a h2 h4]; exact h1)
    · have e := r.dj i i' a h2 h4
      rw [← e] at h3
      exact ios_inj nd h1 h3
    · have e' : ds[j]? = some d := by
        rw [List.getElem?_map] at e
        cases h : ds[j]? with
        | none => rw [h] at e; cases e
        | some d' => rw [h] at e; simp only [Option.map_some, Option.some.injEq] at e; rw [e]
      rcases prep_get hp e' with ⟨i, h1, h2⟩ | ⟨h1, h2, h3⟩
      · obtain ⟨v, e1, e2⟩ := r.sl i d h2
        obtain ⟨v', e3, e4⟩ := vsl h1
        rw [e1] at e4
        cases e4
        refine ⟨v, by rw [List.getElem?_map, e3]; rfl, ow_congr (e2.mono fun b hb => ?_) fun a => (oo a).symm⟩
        exact ⟨i, h1, hb⟩
      · obtain ⟨v, e3, e4⟩ := Paired.getP ht h2
        exact ⟨v, by rw [List.getElem?_map, e3]; rfl, ow_congr (Ow.mono (fun b hb => hb.elim) e4.2) fun a => (oo a).symm⟩
  refine ⟨by rw [l3, l1], Bc, Fc, ds, prep_fz hp, rc, ?_⟩
  -- what comes back
  have back : ∀ {ps : List D} {H' : Hp} {Fc' : Nat → AS} {G : AS}, ps.length = ds.length → Rel W.bare (U Bc G) Fc' (vs.map some) H' ((mix io ds ps).map some) → Stp Bc Fc Fc' H H' → Fr G H → OnlyIo io Fc' →
      ∃ Fs2, Rel W (U B G) Fs2 σ H' (backIo io ts ps ρ) ∧ Stp B Fs Fs2 H H' ∧ ∀ a, OO (U B G) Fs2 a ↔ OO (U Bc G) Fc' a := fun {ps H' Fc' G} hl r' s' fr oi => by
    let Fs2 : Nat → AS := fun i a => (∃ j, Pj io ts j i ∧ Fc' j a) ∨ ((∀ j, ¬ Pj io ts j i) ∧ Fs i a)
    have hFc' : ∀ {j a}, Fc' j a → (∃ i, Pj io ts j i) := fun {j a} z => by
      have hj := oi j a z
      have hlt : j < ds.length := by rw [← l1]; exact (List.getElem?_eq_some_iff.mp hj).1
      rcases prep_get hp (List.getElem?_eq_getElem hlt) with ⟨i, h, _⟩ | ⟨h, _⟩
      · exact ⟨i, h⟩
      · rw [hj] at h; cases h
    have oo2 : ∀ a, OO (U B G) Fs2 a ↔ OO (U Bc G) Fc' a := fun a => by
      constructor
      · rintro ((z | z) | ⟨i, ⟨j, _, z⟩ | ⟨h, z⟩⟩)
        · exact .inl (.inl (.inl z))
        · exact .inl (.inr z)
        · exact .inr ⟨j, z⟩
        · exact .inl (.inl (.inr ⟨i, h, z⟩))
      · rintro (((z | ⟨i, h, z⟩) | z) | ⟨j, z⟩)
        · exact .inl (.inl z)
        · exact .inr ⟨i, .inr ⟨h, z⟩⟩
        · exact .inl (.inr z)
        · obtain ⟨i, h⟩ := hFc' z
          exact .inr ⟨i, .inl ⟨j, h, z⟩⟩
    have inB : ∀ {a}, U B G a → U Bc G a := fun z => z.elim (fun z => .inl (.inl z)) .inr
    refine ⟨Fs2, ⟨fun a z => r'.bd a (inB z), fun i a z => ?_, fun i k a z1 z2 => ?_, fun i d e => ?_, r.pin, by rw [backIo_len]; exact r.len, r'.tb⟩, ⟨fun a u e n t => s'.keep a u e (fun ⟨j, i, _, z⟩ => n ⟨i, z⟩) t, fun a z => s'.kb a (.inl z), fun i a z => ?_, s'.dom⟩, oo2⟩
    · rcases z with ⟨j, _, z⟩ | ⟨h, z⟩
      · exact ⟨(r'.fd j a z).1, fun q => (r'.fd j a z).2 (inB q)⟩
      · refine ⟨r'.bd a (.inl (.inr ⟨i, h, z⟩)), fun q => ?_⟩
        rcases q with q | q
        · exact (r.fd i a z).2 q
        · exact (r.fd i a z).1.ne (fr a q)
    · rcases z1 with ⟨j, h1, z1⟩ | ⟨h1, z1⟩ <;> rcases z2 with ⟨j', h2, z2⟩ | ⟨h2, z2⟩
      · rw [← r'.dj j j' a z1 z2] at h2
        exact pfun h1 h2
      · exact absurd (.inl (.inr ⟨k, h2, z2⟩)) (r'.fd j a z1).2
      · exact absurd (.inl (.inr ⟨i, h1, z1⟩)) (r'.fd j' a z2).2
      · exact r.dj i k a z1 z2
    · rcases backIo_get (by rw [hl, l1]) (by rw [hl, l2]) nd e with ⟨j, d', h, e1, e2⟩ | ⟨h, e1⟩
      · cases e2
        have hm : (mix io ds ps)[j]? = some d := by rw [mix_get l1 hl, if_pos h.1]; exact e1
        obtain ⟨v', q1, q2⟩ := r'.sl j d (by rw [List.getElem?_map, hm]; rfl)
        obtain ⟨v2, e3, e4⟩ := vsl h
        rw [List.getElem?_map, e3] at q1
        simp only [Option.map_some, Option.some.injEq] at q1
        refine ⟨v2, e4, ow_congr (Ow.mono (fun b hb => .inl ⟨j, h, hb⟩) ?_) fun a => (oo2 a).symm⟩
        rw [q1]
        exact q2
      · obtain ⟨v, q1, q2⟩ := r.sl i d e1
        refine ⟨v, q1, ow_congr ?_ fun a => (oo2 a).symm⟩
        refine Ow.mono (F := Fs i) (fun b hb => .inr ⟨h, hb⟩) ?_
        refine Ow.stay (W := fun a => ∃ j, Fc j a) ⟨s'.keep, fun a z => s'.kb a (.inr ⟨i, h, z⟩), fun a ⟨j, i', _, z⟩ => .inr ⟨i', z⟩, fun a z => ?_, fun a z => .inl (.inl (.inr ⟨i, h, z⟩))⟩ d v q2
        rcases z with (z | z) | ⟨j, z⟩
        · exact .inl ((oo a).mp (.inl z))
        · exact .inr (fr a z)
        · rcases s'.old j a z with z | z
          · exact .inl ((oo a).mp (.inr ⟨j, z⟩))
          · exact .inr z
    · rcases z with ⟨j, h, z⟩ | ⟨h, z⟩
      · rcases s'.old j a z with ⟨i', h', z⟩ | z
        · rw [pfun h h']; exact .inl z
        · exact .inr z
      · exact .inl z
  unfold PostF
  cases hF : F ds with
  | bad => rw [hF] at p; exact p.elim
  | ok d ps =>
    rw [hF] at p
    intro v H' Fc' G hl r' ow s' fr oi
    obtain ⟨Fs2, r2, s2, oo2⟩ := back hl r' s' fr oi
    exact p v H' Fs2 G (r2.weak fun a z => z.elim (fun z => .inl (hB a z)) .inr) (Ow.stay (W := A0) ⟨.refl, fun _ _ => rfl, fun _ z => z.elim, fun a z => .inl ((oo2 a).mp (by
        rcases z with (z | z) | z
        · exact .inl (.inl (hB a z))
        · exact .inl (.inr z)
        · exact .inr z)), fun a z => .inl (.inr z)⟩ d v ow) (st0.trans (s2.weak hB)) fun a z => st0.fresh (fr a z)
  | exc c ps =>
    rw [hF] at p
    intro H' Fc' hl r' s' oi
    have e0 : U Bc A0 = Bc := u0 fun _ z => z
    obtain ⟨Fs2, r2, s2, oo2⟩ := back (G := A0) hl (by rw [e0]; exact r') s' (fun _ z => z.elim) oi
    exact p H' Fs2 (r2.weak fun a z => .inl (hB a z)) (st0.trans (s2.weak hB))
/-- the defaults -/
def dflt (m : M (List Tk)) (ds : List D) : M (List Tk) := M.bind m fun ts => M.pure (ts ++ ds.map .v)
def DfOk (W : Dx) (ds : List D) (dvs : List V) : Prop := ∀ O H, Paired (fun d v => Fz W.C O H d v) ds dvs
theorem paired_app {α β : Type} {R : α → β → Prop} : ∀ {as : List α} {bs : List β} {as' : List α} {bs' : List β}, Paired R as bs → Paired R as' bs' → Paired R (as ++ as') (bs ++ bs')
  | _, _, _, _, .nil, h => h
  | _, _, _, _, .cons r t, h => .cons r (paired_app t h)
theorem paired_map {α α' β : Type} {R : α → β → Prop} {R' : α' → β → Prop} {f : α → α'} (hf : ∀ a b, R a b → R' (f a) b) : ∀ {as : List α} {bs : List β}, Paired R as bs → Paired R' (as.map f) bs
  | _, _, .nil => .nil
  | _, _, .cons r t => .cons (hf _ _ r) (paired_map hf t)
def callM (io : List Bool) (F : List D → FO) (dd : List D) (m : M (List Tk)) : M D := M.bind m fun ts => callD io F (ts ++ dd.map .v)
theorem tks_app {O H σ} {ts : List Tk} {vs : List V} {dd : List D} {dvs : List V} (h : Paired (fun t v => TkR W t O H σ A0 v) ts vs) (hd : DfOk W dd dvs) : Paired (fun t v => TkR W t O H σ A0 v) (ts ++ dd.map .v) (vs ++ dvs) :=
  paired_app h (paired_map (fun d v q => ⟨fun _ z => z, q⟩) (hd O H))
theorem callM_rd {io : List Bool} {F : List D → FO} {dd : List D} {dvs : List V} (hd : DfOk W dd dvs) {m : M (List Tk)} {σ : L2.St} {H : Hp} {Q : VK} (h : dT W E (DR W) (callM io F dd m) σ H Q) : dT W E (TksR W) m σ H fun vs H1 => spD W io F (vs ++ dvs) H1 Q E := by
  obtain ⟨B, Fs, ρ, r0, p⟩ := h
  refine ⟨B, Fs, ρ, r0, (Post.step (fun _ z => z) .refl p).mono fun vs H1 ⟨Fs1, F1, ts, ρ1, _, r1, ht, s1, f1, p1⟩ => ?_⟩
  have e1 : U B F1 = B := u0 ht.1
  rw [e1] at r1 ht
  exact call_lift (fun _ z => z) s1 r1 (tks_app ht.2 hd) p1
variable {X : Cx} {k : Nat} {f C : Addr} {fd : FuncData} {ps : List Str} {io : List Bool} {F : List D → FO} {dvs : List V} {dd : List D} {dus : List Value} {x m : Str} {p pos apos : Pos} {e o : Expr} {es : List Expr} {ma : M (List Tk)} {mo : M Tk}
/-- f(..), a def of the module -/
theorem de_call (Fn : FnOk X.prog X.w X.K X.mg X.base (L2.CX X.prog X.w) k f fd ps (spD W io F)) (hr : Room k X.A) (tk : GX.TakesF X E) (hg : Gl X x) (hm : X.mg x = some (.ref f)) (hk : PySem.W.keepIn X.K (.ref f) = true) (hb : Binds X.K fd ps dus) (hd : Vals dvs dus) (hdd : DfOk W dd dvs) (ha : DA W E X (e :: es) ma)
    (hdb : (x == ("__debug__" : Str)) = false := by decide) (he : starEach (e :: es) X.env = (false, eval e X.env) :: starEach es X.env := by rfl) (hpl : (backTo pos (starEach es X.env)).any (·.1) = false := by rfl) :
    DE W E X (.Call (.Name x p) (e :: es) [] pos) (callM io F dd ma) :=
  mnE (pe_call Fn hr hg hm hk hb hd (GX.passes_F tk) ha hdb he hpl) fun σ H Q h => callM_rd hdd h
theorem de_call0 (Fn : FnOk X.prog X.w X.K X.mg X.base (L2.CX X.prog X.w) k f fd ps (spD W io F)) (hr : Room k X.A) (tk : GX.TakesF X E) (hg : Gl X x) (hm : X.mg x = some (.ref f)) (hk : PySem.W.keepIn X.K (.ref f) = true) (hb : Binds X.K fd ps dus) (hd : Vals dvs dus) (hdd : DfOk W dd dvs)
    (hdb : (x == ("__debug__" : Str)) = false := by decide) : DE W E X (.Call (.Name x p) [] [] pos) (callM io F dd argK0) :=
  mnE (pe_call0 Fn hr hg hm hk hb hd (GX.passes_F tk) hdb) fun σ H Q h => by
    obtain ⟨B, Fs, ρ, r, p⟩ := callM_rd hdd h
    exact Post.pure (R := TksR W) r ⟨fun _ z => z, .nil⟩ p
/-- o.m(..), an instance of the class c -/
def isIns (c : Nat) (m : Str) : D → Bool
  | .ins _ c' ns _ => c' == c && !(ns.contains m)
  | _ => false
def insOf (c : Nat) (m : Str) (t : Tk) : M Unit := fun ρ => match t with
  | .v d => if isIns c m d = true then .ok () ρ else .bad
  | .s i => match ρ[i]? with
    | some (some d) => if isIns c m d = true then .ok () ρ else .bad
    | _ => .bad
def methM (c : Nat) (m : Str) (io : List Bool) (F : List D → FO) (dd : List D) (mo : M Tk) (ma : M (List Tk)) : M D := M.bind mo fun t => M.bind (insOf c m t) fun _ => M.bind ma fun ts => callD io F (t :: (ts ++ dd.map .v))
theorem lookup_none {β : Type} {m : Str} : ∀ {fs : List (Str × β)}, (fs.map (·.1)).contains m = false → fs.lookup m = none
  | [], _ => rfl
  | (k, v) :: r, h => by
    simp only [List.map_cons, List.contains_cons, Bool.or_eq_false_iff] at h
    rw [List.lookup_cons, h.1]
    exact lookup_none h.2
theorem ins_tk {c : Nat} {m : Str} {O : AS} {H : Hp} {F : AS} {d : D} {v : V} (h : Ow W.C O H F d v) (hi : isIns c m d = true) : ∃ a dx fs, v = .ref a ∧ H a = some (.ins (W.C.c c) dx fs) ∧ fs.lookup m = none := by
  cases d with
  | ins o c' ns ds =>
    simp only [isIns, Bool.and_eq_true, beq_iff_eq, Bool.not_eq_true'] at hi
    obtain ⟨rfl, hn⟩ := hi
    unfold Ow at h
    obtain ⟨a, dx, fs, G, e1, e2, e3, e4, e5, e6⟩ := h
    exact ⟨a, dx, fs, e1, e2, lookup_none (by rw [e5]; exact hn)⟩
  | _ => cases hi
theorem meth_rd {c : Nat} (hC : C = W.C.c c) (hdd : DfOk W dd dvs) {σ : L2.St} {H : Hp} {Q : VK} (h : dT W E (DR W) (methM c m io F dd mo ma) σ H Q) :
    dT W E (TkR W) mo σ H fun x H1 => ∃ a dx fs, x = .ref a ∧ H1 a = some (.ins C dx fs) ∧ fs.lookup m = none ∧ dT W E (TksR W) ma σ H1 fun vs H2 => spD W io F (x :: (vs ++ dvs)) H2 Q E := by
  obtain ⟨B, Fs, ρ, r0, p⟩ := h
  refine ⟨B, Fs, ρ, r0, (Post.step (fun _ z => z) .refl p).mono fun x H1 ⟨Fs1, F1, t, ρ1, _, r1, ht, s1, f1, p1⟩ => ?_⟩
  have e1 : U B F1 = B := u0 ht.1
  rw [e1] at r1 ht
  unfold M.bind at p1
  cases hi : insOf c m t ρ1 with
  | bad => rw [hi] at p1; exact p1.elim
  | exc c' ρ2 =>
    exfalso
    cases t with
    | v d => simp only [insOf] at hi; split at hi <;> cases hi
    | s i =>
      simp only [insOf] at hi
      split at hi
      · split at hi <;> cases hi
      · cases hi
  | ok u ρ2 =>
    rw [hi] at p1
    have hh : ρ2 = ρ1 ∧ ∃ d G, isIns c m d = true ∧ Ow W.C (OO B Fs1) H1 G d x := by
      cases t with
      | v d =>
        simp only [insOf] at hi
        split at hi
        · cases hi
          exact ⟨rfl, d, A0, by assumption, ht.2⟩
        · cases hi
      | s i =>
        simp only [insOf] at hi
        split at hi
        · rename_i d hd
          split at hi
          · cases hi
            obtain ⟨v, q1, q2⟩ := r1.sl i d hd
            have hx : σ[i]? = some (some x) := ht.2
            rw [hx] at q1
            cases q1
            exact ⟨rfl, d, _, by assumption, q2⟩
          · cases hi
        · cases hi
    obtain ⟨rfl, d, G, hi', ow⟩ := hh
    obtain ⟨a, dx, fs, q1, q2, q3⟩ := ins_tk ow hi'
    rw [hC]
    refine ⟨a, dx, fs, q1, q2, q3, B, Fs1, ρ2, r1, ?_⟩
    have p1 : Post W E (DR W) B Fs σ H (M.bind ma (fun ts => callD io F (t :: (ts ++ dd.map .v))) ρ2) Q := p1
    refine (Post.step (fun _ z => z) s1 p1).mono fun vs H2 ⟨Fs2, F2, ts, ρ3, _, r2, hts, s2, f2, p2⟩ => ?_
    have e2 : U B F2 = B := u0 hts.1
    rw [e2] at r2 hts
    exact call_lift (fun _ z => z) (s1.trans s2) r2 (.cons (ht.stay s2 fun a z => .inl z) (tks_app hts.2 hdd)) p2
theorem de_meth {pl : Sem Bool} {c : Nat} (hC : C = W.C.c c) (ho : DK W E X o mo) (hc : Cls X.K C) (hm : Meth X.K C m f) (Fn : FnOk X.prog X.w X.K X.mg X.base (L2.CX X.prog X.w) k f fd ps (spD W io F)) (hr : Room k X.A) (tk : GX.TakesF X E) (hb : Binds X.K fd ps dus) (hd : Vals dvs dus) (hdd : DfOk W dd dvs) (ha : DA W E X (e :: es) ma)
    (hst : starEach (e :: es) X.env = (false, eval e X.env) :: starEach es X.env := by rfl) (hpl : (backTo pos (starEach es X.env)).any (·.1) = false := by rfl)
    (ht : eval (.Call (.Attribute o m apos) (e :: es) [] pos) X.env = (do
      let ov ← eval o X.env
      standAt apos.atName
      let (f, first) ← holding [ov] (getMethod ov m pl)
      callWith pos f first (backTo pos (starEach (e :: es) X.env)) (backToKw pos (keywordEach [] X.env))) := by rfl) :
    DE W E X (.Call (.Attribute o m apos) (e :: es) [] pos) (methM c m io F dd mo ma) :=
  mnE (pe_meth ho hc hm Fn hr hb hd (GX.passes_F tk) ha hst hpl ht) fun σ H Q h => meth_rd hC hdd h
theorem de_meth0 {pl : Sem Bool} {c : Nat} (hC : C = W.C.c c) (ho : DK W E X o mo) (hc : Cls X.K C) (hm : Meth X.K C m f) (Fn : FnOk X.prog X.w X.K X.mg X.base (L2.CX X.prog X.w) k f fd ps (spD W io F)) (hr : Room k X.A) (tk : GX.TakesF X E) (hb : Binds X.K fd ps dus) (hd : Vals dvs dus) (hdd : DfOk W dd dvs)
    (ht : eval (.Call (.Attribute o m apos) [] [] pos) X.env = (do
      let ov ← eval o X.env
      standAt apos.atName
      let (f, first) ← holding [ov] (getMethod ov m pl)
      callWith pos f first (backTo pos (starEach [] X.env)) (backToKw pos (keywordEach [] X.env))) := by rfl) :
    DE W E X (.Call (.Attribute o m apos) [] [] pos) (methM c m io F dd mo argK0) :=
  mnE (pe_meth0 ho hc hm Fn hr hb hd (GX.passes_F tk) ht) fun σ H Q h => by
    obtain ⟨B, Fs, ρ, r, p⟩ := meth_rd (m := m) hC hdd h
    refine ⟨B, Fs, ρ, r, p.mono fun x H1 ⟨a, dx, fs, q1, q2, q3, q⟩ => ⟨a, dx, fs, q1, q2, q3, ?_⟩⟩
    obtain ⟨B, Fs, ρ, r, p⟩ := q
    exact Post.pure (R := TksR W) r ⟨fun _ z => z, .nil⟩ p
end
end DL
end

section
set_option Elab.async false
set_option linter.all false
set_option maxRecDepth 100000
set_option maxHeartbeats 2000000
/-! D10: objects made; a def's body keeps its promise; raise. -/
namespace DL
open PySem PySem.Spec PyProof.Rows L2

section
variable {W : Dx} {E : XK} {X : Cx} {k : Nat} {f C : Addr} {fd : FuncData} {ps : List Str} {F : List D → FO} {dvs : List V} {dd : List D} {dus : List Value} {x m : Str} {p pos apos : Pos} {e o : Expr} {es : List Expr} {ma : M (List Tk)} {mo : M Tk}
def vals : List Tk → Option (List D)
  | [] => some []
  | .v d :: ts => if isFz d = true then (vals ts).map (d :: ·) else none
  | .s _ :: _ => none
theorem vals_get : ∀ {ts : List Tk} {ds : List D} {j : Nat} {d : D}, vals ts = some ds → ds[j]? = some d → ts[j]? = some (.v d)
  | [], ds, j, d, h, e => by simp [vals] at h; subst h; simp at e
  | .s _ :: _, _, _, _, h, _ => by simp [vals] at h
  | .v d0 :: ts, ds, j, d, h, e => by
    simp only [vals] at h
    split at h
    · cases h2 : vals ts with
      | none => rw [h2] at h; cases h
      | some ds' =>
        rw [h2] at h
        cases h
        cases j with
        | zero => simp at e; subst e; rfl
        | succ j => exact vals_get (j := j) h2 (by simpa using e)
    · cases h
theorem vals_len : ∀ {ts : List Tk} {ds : List D}, vals ts = some ds → ts.length = ds.length
  | [], ds, h => by simp [vals] at h; subst h; rfl
  | .s _ :: _, _, h => by simp [vals] at h
  | .v d0 :: ts, ds, h => by
    simp only [vals] at h
    split at h
    · cases h2 : vals ts with
      | none => rw [h2] at h; cases h
      | some ds' => rw [h2] at h; cases h; simp [vals_len h2]
    · cases h
theorem vals_fz : ∀ {ts : List Tk} {ds : List D}, vals ts = some ds → FzIo (ds.map fun _ => false) ds
  | [], ds, h => by simp [vals] at h; subst h; simp [FzIo]
  | .s _ :: _, _, h => by simp [vals] at h
  | .v d0 :: ts, ds, h => by
    simp only [vals] at h
    split at h
    · rename_i hz
      cases h2 : vals ts with
      | none => rw [h2] at h; cases h
      | some ds' =>
        rw [h2] at h
        cases h
        simp only [List.map_cons, FzIo]
        exact ⟨hz, vals_fz h2⟩
    · cases h
/-- C(..) -/
def makeD (c : Nat) (F : List D → FO) (ts : List Tk) : M D := fun ρ => match vals ts with
  | some ds => match F (.ins true c [] [] :: ds) with
    | .ok .non (d :: _) => .ok d ρ
    | .ok _ _ => .bad
    | .exc c _ => .exc c ρ
    | .bad => .bad
  | none => .bad
def makeM (c : Nat) (F : List D → FO) (dd : List D) (ma : M (List Tk)) : M D := M.bind ma fun ts => makeD c F (ts ++ dd.map .v)
theorem make_lift {c : Nat} {ts : List Tk} {vs : List V} {io : List Bool} {B B0 Fs Fs0 σ H H0 ρ Q x dx} (hio : io = true :: vs.map fun _ => false) (hB : ∀ a, B0 a → B a) (st0 : Stp B0 Fs0 Fs H0 H) (r : Rel W B Fs σ H ρ) (ht : Paired (fun t v => TkR W t (OO B Fs) H σ A0 v) ts vs)
    (p : Post W E (DR W) B0 Fs0 σ H0 (makeD c F ts ρ) Q) (hx : H x = none) (hdx : H dx = none) (hne : dx ≠ x) :
    spD W io F (.ref x :: vs) (upd (upd H dx (.own x)) x (.ins (W.C.c c) dx [])) (fun v H2 => v = .non ∧ Q (.ref x) H2) E := by
  unfold makeD at p
  cases hp : vals ts with
  | none => rw [hp] at p; exact p.elim
  | some ds =>
  rw [hp] at p
  simp only at p
  have l2 := vals_len hp
  have l3 : vs.length = ds.length := by rw [← Paired.lenP ht, l2]
  generalize hH2 : upd (upd H dx (.own x)) x (.ins (W.C.c c) dx []) = H2
  have al : Alc H H2 := fun a u e => by
    rw [← hH2, upd_ne (ne_of_none e hx), upd_ne (ne_of_none e hdx)]; exact e
  have hxi : H2 x = some (.ins (W.C.c c) dx []) := by rw [← hH2, upd_same]
  let Bc : AS := OO B Fs
  let Fc : Nat → AS := fun j a => j = 0 ∧ a = x
  have nBx : ¬ Bc x := r.ot.new hx
  have noH : ∀ a, H2 a = none → H a = none := fun a e => by
    cases q : H a with
    | none => rfl
    | some u => rw [al a u q] at e; cases e
  have rc : Rel W.bare Bc Fc ((V.ref x :: vs).map some) H2 ((D.ins true c [] [] :: ds).map some) := by
    refine ⟨fun a z => al.ob (r.ot a z), fun j a ⟨h1, h2⟩ => ?_, fun j k a ⟨h1, _⟩ ⟨h2, _⟩ => by rw [h1, h2], fun j d e => ?_, fun q hq => absurd (show q ∈ ([] : List (Nat × V)) from hq) (by simp), by simp [l3], W.T.st r.tb fun a u h _ => al a u h⟩
    · rw [h2]
      exact ⟨⟨_, hxi, True.intro⟩, nBx⟩
    · cases j with
      | zero =>
        simp at e
        subst e
        refine ⟨.ref x, rfl, ?_⟩
        unfold Ow
        exact ⟨x, dx, [], A0, rfl, hxi, ⟨.inr ⟨0, rfl, rfl⟩, rfl, rfl⟩, ⟨fun _ z => z.elim, fun z => z⟩, rfl, by unfold OwL; rfl⟩
      | succ j =>
        have e' : ds[j]? = some d := by
          simp only [List.map_cons, List.getElem?_cons_succ, List.getElem?_map] at e
          cases h : ds[j]? with
          | none => rw [h] at e; cases e
          | some d' => rw [h] at e; simp only [Option.map_some, Option.some.injEq] at e; rw [e]
        obtain ⟨v, e3, e4⟩ := Paired.getP ht (vals_get hp e')
        refine ⟨v, by simp only [List.map_cons, List.getElem?_cons_succ, List.getElem?_map, e3]; rfl, Ow.mono (F := A0) (fun b hb => hb.elim) ?_⟩
        refine Ow.stay (W := A0) ⟨fun a u h _ _ => .inl (al a u h), fun _ z => z.elim, fun _ z => z.elim, fun a z => ?_, fun _ z => z.elim⟩ d v e4.2
        rcases z with z | ⟨_, _, z⟩
        · exact .inl z
        · rw [z]; exact .inr hx
  -- back
  have back : ∀ {H' : Hp} {Fc' : Nat → AS} {G : AS} {d : D} {rest : List D}, Rel W.bare (U Bc G) Fc' ((V.ref x :: vs).map some) H' ((d :: rest).map some) → Stp Bc Fc Fc' H2 H' → Fr G H2 →
      Rel W (U B (Fc' 0)) Fs σ H' ρ ∧ Stp B Fs Fs H H' ∧ Fr (Fc' 0) H ∧ Ow W.C (OO (U B (Fc' 0)) Fs) H' (Fc' 0) d (.ref x) := fun {H' Fc' G d rest} r' s' fr => by
    have frc : Fr (Fc' 0) H := fun a z => by
      rcases s'.old 0 a z with ⟨_, z⟩ | z
      · rw [z]; exact hx
      · exact noH a z
    have keep : Keep A0 H H' := fun a u e _ n => s'.keep a u (al a u e) (fun ⟨j, _, z⟩ => by rw [z, hx] at e; cases e) n
    have kb : ∀ a, OO B Fs a → H' a = H a := fun a z => by
      rw [s'.kb a z]
      obtain ⟨u, e, _⟩ := r.ot a z
      rw [e]
      exact al a u e
    refine ⟨⟨fun a z => ?_, fun i a z => ⟨r'.bd a (.inl (.inr ⟨i, z⟩)), fun q => ?_⟩, r.dj, fun i d' e => ?_, r.pin, r.len, r'.tb⟩, ⟨fun a u e n t => keep a u e (fun z => z) t, fun a z => kb a (.inl z), fun i a z => .inl z, fun a z => ?_⟩, frc, ?_⟩
    · rcases z with z | z
      · exact r'.bd a (.inl (.inl z))
      · exact (r'.fd 0 a z).1
    · rcases q with q | q
      · exact (r.fd i a z).2 q
      · exact (r.fd i a z).1.ne (frc a q)
    · obtain ⟨v, q1, q2⟩ := r.sl i d' e
      refine ⟨v, q1, Ow.stay (W := A0) ⟨keep, fun a z => kb a (.inr ⟨i, z⟩), fun _ z => z.elim, fun a z => ?_, fun a z => .inr ⟨i, z⟩⟩ d' v q2⟩
      rcases z with (z | z) | z
      · exact .inl (.inl z)
      · exact .inr (frc a z)
      · exact .inl (.inr z)
    · exact s'.dom a (al.dom z)
    · obtain ⟨v, q1, q2⟩ := r'.sl 0 d rfl
      cases q1
      refine Ow.stay (W := A0) ⟨.refl, fun _ _ => rfl, fun _ z => z.elim, fun a z => .inl ?_, fun a z => .inl (.inr z)⟩ d _ q2
      rcases z with (z | z) | z
      · exact .inl (.inl (.inl z))
      · exact .inr ⟨0, z⟩
      · exact .inl (.inl (.inr z))
  refine ⟨by rw [hio]; simp, Bc, Fc, _, ?_, rc, ?_⟩
  · rw [hio]
    have : (vs.map fun _ => false) = ds.map fun _ => false := by
      apply List.ext_getElem
      · simp [l3]
      · intro i h1 h2; simp
    rw [this]
    simp only [FzIo]
    exact vals_fz hp
  unfold PostF
  have fin : ∀ {d : D} {Fc' : Nat → AS} {H' : Hp}, Rel W (U B (Fc' 0)) Fs σ H' ρ → Stp B Fs Fs H H' → Fr (Fc' 0) H → Ow W.C (OO (U B (Fc' 0)) Fs) H' (Fc' 0) d (.ref x) → Post W E (DR W) B0 Fs0 σ H0 (.ok d ρ) Q → Q (.ref x) H' := fun {d Fc' H'} r2 s2 fr2 ow p => by
    refine p (.ref x) H' Fs (Fc' 0) (r2.weak fun a z => z.elim (fun z => .inl (hB a z)) .inr) ?_ (st0.trans (s2.weak hB)) fun a z => st0.fresh (fr2 a z)
    exact Ow.stay (W := A0) ⟨.refl, fun _ _ => rfl, fun _ z => z.elim, fun a z => .inl (by
      rcases z with (z | z) | z
      · exact .inl (.inl (hB a z))
      · exact .inl (.inr z)
      · exact .inr z), fun a z => .inl (.inr z)⟩ d _ ow
  cases hF : F (.ins true c [] [] :: ds) with
  | bad => rw [hF] at p; exact p.elim
  | ok d ps =>
    rw [hF] at p
    intro v H' Fc' G hl r' ow s' fr oi
    cases ps with
    | nil => cases hl
    | cons d' ps =>
      cases d with
      | non =>
        have hv : v = .non := by unfold Ow at ow; exact ow
        subst hv
        have hm : mix io (.ins true c [] [] :: ds) (d' :: ps) = d' :: mix (vs.map fun _ => false) ds ps := by rw [hio]; rfl
        rw [hm] at r'
        obtain ⟨r2, s2, fr2, ow2⟩ := back r' s' fr
        exact ⟨rfl, fin r2 s2 fr2 ow2 p⟩
      | _ => exact p.elim
  | exc c' ps =>
    rw [hF] at p
    intro H' Fc' hl r' s' oi
    cases ps with
    | nil => cases hl
    | cons d' ps =>
      have hm : mix io (.ins true c [] [] :: ds) (d' :: ps) = d' :: mix (vs.map fun _ => false) ds ps := by rw [hio]; rfl
      rw [hm] at r'
      have e0 : U Bc A0 = Bc := u0 fun _ z => z
      obtain ⟨r2, s2, fr2, ow2⟩ := back (G := A0) (by rw [e0]; exact r') s' fun _ z => z.elim
      exact p H' Fs (r2.weak fun a z => .inl (hB a z)) (st0.trans (s2.weak hB))
theorem makeM_rd {c : Nat} {io : List Bool} (hdd : DfOk W dd dvs) (hlen : ∀ vs : List V, spD W io F (.ref 0 :: (vs ++ dvs)) (fun _ => none) (fun _ _ => True) E → True) {n : Nat} (hio : io = true :: List.replicate n false) (hn : ∀ ts ρ ρ', ma ρ = .ok ts ρ' → ts.length + dd.length = n) {σ : L2.St} {H : Hp} {Q : VK} (h : dT W E (DR W) (makeM c F dd ma) σ H Q) :
    dT W E (TksR W) ma σ H fun vs H1 => ∀ x dx, H1 x = none → H1 dx = none → dx ≠ x → spD W io F (.ref x :: (vs ++ dvs)) (upd (upd H1 dx (.own x)) x (.ins (W.C.c c) dx [])) (fun v H2 => v = .non ∧ Q (.ref x) H2) E := by
  obtain ⟨B, Fs, ρ, r0, p⟩ := h
  refine ⟨B, Fs, ρ, r0, (Post.step (fun _ z => z) .refl p).mono fun vs H1 ⟨Fs1, F1, ts, ρ1, em, r1, ht, s1, f1, p1⟩ x dx hx hdx hne => ?_⟩
  have e1 : U B F1 = B := u0 ht.1
  rw [e1] at r1 ht
  have hts := tks_app ht.2 hdd
  refine make_lift ?_ (fun _ z => z) s1 r1 hts p1 hx hdx hne
  have hl : (vs ++ dvs).length = n := by
    rw [← Paired.lenP hts, List.length_append, List.length_map]
    exact hn _ _ _ em
  rw [hio, ← hl, List.map_const']
/-- the arguments' number -/
theorem argK0_len (ts ρ ρ') (h : argK0 ρ = .ok ts ρ') : ts.length = 0 := by cases h; rfl
theorem argK_len {m : M Tk} {ms : M (List Tk)} {n : Nat} (hn : ∀ ts ρ ρ', ms ρ = .ok ts ρ' → ts.length = n) (ts : List Tk) (ρ ρ' : Rho) (h : argK m ms ρ = .ok ts ρ') : ts.length = n + 1 := by
  obtain ⟨t, ρ1, h1, h⟩ := bind_ok h
  obtain ⟨ts', ρ2, h2, h⟩ := bind_ok h
  cases h
  simp [hn _ _ _ h2]
theorem de_make {c n : Nat} {io : List Bool} (hC : C = W.C.c c) (Mk' : Mk X.K C f) (Fn : FnOk X.prog X.w X.K X.mg X.base (L2.CX X.prog X.w) k f fd ps (spD W io F)) (hr : Room (k + 1) X.A) (tk : GX.TakesF X E) (hg : Gl X x) (hm : X.mg x = some (.ref C)) (hb : Binds X.K fd ps dus) (hd : Vals dvs dus) (hdd : DfOk W dd dvs) (hio : io = true :: List.replicate n false) (hn : ∀ ts ρ ρ', ma ρ = .ok ts ρ' → ts.length + dd.length = n) (ha : DA W E X (e :: es) ma)
    (hdb : (x == ("__debug__" : Str)) = false := by decide) (he : starEach (e :: es) X.env = (false, eval e X.env) :: starEach es X.env := by rfl) (hpl : (backTo pos (starEach es X.env)).any (·.1) = false := by rfl) :
    DE W E X (.Call (.Name x p) (e :: es) [] pos) (makeM c F dd ma) :=
  mnE (pe_make Mk' Fn hr hg hm hb hd (GX.passes_F tk) ha hdb he hpl) fun σ H Q h => by
    subst hC
    exact makeM_rd hdd (fun _ _ => trivial) hio hn h
theorem de_make0 {c n : Nat} {io : List Bool} (hC : C = W.C.c c) (Mk' : Mk X.K C f) (Fn : FnOk X.prog X.w X.K X.mg X.base (L2.CX X.prog X.w) k f fd ps (spD W io F)) (hr : Room (k + 1) X.A) (tk : GX.TakesF X E) (hg : Gl X x) (hm : X.mg x = some (.ref C)) (hb : Binds X.K fd ps dus) (hd : Vals dvs dus) (hdd : DfOk W dd dvs) (hio : io = true :: List.replicate n false) (hn : dd.length = n)
    (hdb : (x == ("__debug__" : Str)) = false := by decide) : DE W E X (.Call (.Name x p) [] [] pos) (makeM c F dd argK0) :=
  mnE (pe_make0 Mk' Fn hr hg hm hb hd (GX.passes_F tk) hdb) fun σ H Q h => by
    subst hC
    obtain ⟨B, Fs, ρ, r, p⟩ := makeM_rd (ma := argK0) hdd (fun _ _ => trivial) hio (fun ts ρ ρ' h => by rw [argK0_len ts ρ ρ' h, hn, Nat.zero_add]) h
    exact Post.pure (R := TksR W) r ⟨fun _ z => z, .nil⟩ p
end

/-! ### a def's body -/
/-- the parameters' data at the end -/
def outs : List Bool → List D → Rho → Option (List D)
  | [], [], _ => some []
  | true :: io, _ :: ds, some d :: ρ => (outs io ds ρ).map (d :: ·)
  | false :: io, d :: ds, _ :: ρ => (outs io ds ρ).map (d :: ·)
  | _, _, _ => none
def runF (io : List Bool) (n : Nat) (body : M Fl) : List D → FO := fun ds => match body (ds.map some ++ List.replicate (n - ds.length) none) with
  | .ok (.rt d) ρ => match outs io ds ρ with
    | some ps => .ok d ps
    | none => .bad
  | .ok .nx ρ => match outs io ds ρ with
    | some ps => .ok .non ps
    | none => .bad
  | .exc c ρ => match outs io ds ρ with
    | some ps => .exc c ps
    | none => .bad
  | _ => .bad
def pinsOf : Nat → List Bool → List V → List (Nat × V)
  | j, true :: io, v :: vs => (j, v) :: pinsOf (j + 1) io vs
  | j, _ :: io, _ :: vs => pinsOf (j + 1) io vs
  | _, _, _ => []
theorem pins_mem : ∀ {j : Nat} {io : List Bool} {vs : List V} {q : Nat × V}, q ∈ pinsOf j io vs → ∃ i, q.1 = j + i ∧ io[i]? = some true ∧ vs[i]? = some q.2
  | j, [], _, q, h => by simp [pinsOf] at h
  | j, b :: io, [], q, h => by cases b <;> simp [pinsOf] at h
  | j, b :: io, v :: vs, q, h => by
    have tl : q ∈ pinsOf (j + 1) io vs → ∃ i, q.1 = j + i ∧ (b :: io)[i]? = some true ∧ (v :: vs)[i]? = some q.2 := fun h => by
      obtain ⟨i, h1, h2, h3⟩ := pins_mem h
      exact ⟨i + 1, by omega, by simpa using h2, by simpa using h3⟩
    cases b with
    | false => exact tl (by simpa [pinsOf] using h)
    | true =>
      simp only [pinsOf, List.mem_cons] at h
      rcases h with h | h
      · exact ⟨0, by rw [h]; rfl, rfl, by rw [h]; rfl⟩
      · exact tl h
theorem pins_of : ∀ {io : List Bool} {vs : List V} {i j : Nat} {v : V}, io[i]? = some true → vs[i]? = some v → (j + i, v) ∈ pinsOf j io vs
  | [], _, i, j, v, h, _ => by simp at h
  | b :: io, [], i, j, v, _, h => by simp at h
  | b :: io, w :: vs, 0, j, v, h1, h2 => by
    simp at h1 h2
    subst h1; subst h2
    simp [pinsOf]
  | b :: io, w :: vs, i + 1, j, v, h1, h2 => by
    have := pins_of (j := j + 1) (i := i) (by simpa using h1 : io[i]? = some true) (by simpa using h2 : vs[i]? = some v)
    have e : j + 1 + i = j + (i + 1) := by omega
    rw [e] at this
    cases b <;> simp [pinsOf, this]
def Dx.at (W : Dx) (io : List Bool) (vs : List V) : Dx := { W with pn := pinsOf 0 io vs }
theorem free_of {W : Dx} {io : List Bool} {vs : List V} {i : Nat} (h : io[i]? ≠ some true) : free (W.at io vs) i := fun q hq e => by
  obtain ⟨k, h1, h2, _⟩ := pins_mem hq
  rw [e] at h1
  exact h (by rw [h1, Nat.zero_add]; exact h2)
theorem outs_len : ∀ {io : List Bool} {ds : List D} {ρ : Rho} {ps : List D}, outs io ds ρ = some ps → ps.length = ds.length ∧ io.length = ds.length
  | [], [], _, ps, h => by simp [outs] at h; subst h; exact ⟨rfl, rfl⟩
  | true :: io, _ :: ds, some d :: ρ, ps, h => by
    simp only [outs] at h
    cases h2 : outs io ds ρ with
    | none => rw [h2] at h; cases h
    | some ps' => rw [h2] at h; cases h; simp [outs_len h2]
  | false :: io, d :: ds, _ :: ρ, ps, h => by
    simp only [outs] at h
    cases h2 : outs io ds ρ with
    | none => rw [h2] at h; cases h
    | some ps' => rw [h2] at h; cases h; simp [outs_len h2]
  | [], _ :: _, _, _, h => by simp [outs] at h
  | true :: _, [], _, _, h => by simp [outs] at h
  | false :: _, [], _, _, h => by simp [outs] at h
  | true :: _, _ :: _, [], _, h => by simp [outs] at h
  | true :: _, _ :: _, none :: _, _, h => by simp [outs] at h
  | false :: _, _ :: _, [], _, h => by simp [outs] at h
theorem outs_get : ∀ {io : List Bool} {ds : List D} {ρ : Rho} {ps : List D} {j : Nat} {d : D}, outs io ds ρ = some ps → ps[j]? = some d → (io[j]? = some true ∧ ρ[j]? = some (some d)) ∨ (io[j]? = some false ∧ ds[j]? = some d)
  | [], [], _, ps, j, d, h, e => by simp [outs] at h; subst h; simp at e
  | true :: io, _ :: ds, some d0 :: ρ, ps, j, d, h, e => by
    simp only [outs] at h
    cases h2 : outs io ds ρ with
    | none => rw [h2] at h; cases h
    | some ps' =>
      rw [h2] at h
      cases h
      cases j with
      | zero => simp at e; subst e; exact .inl ⟨rfl, rfl⟩
      | succ j => simpa using outs_get h2 (by simpa using e : ps'[j]? = some d)
  | false :: io, d0 :: ds, o :: ρ, ps, j, d, h, e => by
    simp only [outs] at h
    cases h2 : outs io ds ρ with
    | none => rw [h2] at h; cases h
    | some ps' =>
      rw [h2] at h
      cases h
      cases j with
      | zero => simp at e; subst e; exact .inr ⟨rfl, rfl⟩
      | succ j => simpa using outs_get h2 (by simpa using e : ps'[j]? = some d)
  | [], _ :: _, _, _, _, _, h, _ => by simp [outs] at h
  | true :: _, [], _, _, _, _, h, _ => by simp [outs] at h
  | false :: _, [], _, _, _, _, h, _ => by simp [outs] at h
  | true :: _, _ :: _, [], _, _, _, h, _ => by simp [outs] at h
  | true :: _, _ :: _, none :: _, _, _, _, h, _ => by simp [outs] at h
  | false :: _, _ :: _, [], _, _, _, h, _ => by simp [outs] at h
theorem mix_outs : ∀ {io : List Bool} {ds : List D} {ρ : Rho} {ps : List D}, outs io ds ρ = some ps → mix io ds ps = ps
  | [], [], _, ps, h => by simp [outs] at h; subst h; rfl
  | true :: io, _ :: ds, some d :: ρ, ps, h => by
    simp only [outs] at h
    cases h2 : outs io ds ρ with
    | none => rw [h2] at h; cases h
    | some ps' => rw [h2] at h; cases h; simp [mix, mix_outs h2]
  | false :: io, d :: ds, _ :: ρ, ps, h => by
    simp only [outs] at h
    cases h2 : outs io ds ρ with
    | none => rw [h2] at h; cases h
    | some ps' => rw [h2] at h; cases h; simp [mix, mix_outs h2]
  | [], _ :: _, _, _, h => by simp [outs] at h
  | true :: _, [], _, _, h => by simp [outs] at h
  | false :: _, [], _, _, h => by simp [outs] at h
  | true :: _, _ :: _, [], _, h => by simp [outs] at h
  | true :: _, _ :: _, none :: _, _, h => by simp [outs] at h
  | false :: _, _ :: _, [], _, h => by simp [outs] at h
theorem some_map {α : Type} {l : List α} {j : Nat} {d : α} (h : (l.map some)[j]? = some (some d)) : l[j]? = some d := by
  rw [List.getElem?_map] at h
  cases e : l[j]? with
  | none => rw [e] at h; cases h
  | some x => rw [e] at h; simp only [Option.map_some, Option.some.injEq] at h; rw [h]
section
variable {W : Dx} {E : XK}
/-- the body runs: what it reads, from the promise's premise -/
theorem body_rd {io : List Bool} {N : List Str} {body : M Fl} {vs : List V} {H : Hp} {Q : VK} (hlen : vs.length ≤ N.length) (h : spD W io (runF io N.length body) vs H Q E) : dS (W.at io vs) E body { nx := fun _ H' => Q .non H', rt := Q } (L2.start N vs) H := by
  obtain ⟨hl, B, Fs, ds, hz, r, p⟩ := h
  have hld : vs.length = ds.length := by have := r.len; simpa using this.symm
  have hgetR : ∀ {i : Nat} {d : D}, (ds.map some ++ List.replicate (N.length - ds.length) none)[i]? = some (some d) → ds[i]? = some d := fun {i d} e => by
    by_cases hi : i < ds.length
    · rw [List.getElem?_append_left (by simpa using hi)] at e
      exact some_map e
    · rw [List.getElem?_append_right (by simpa using hi), List.getElem?_replicate] at e
      split at e <;> cases e
  have hgetS : ∀ {i : Nat} {v : V}, vs[i]? = some v → (L2.start N vs)[i]? = some (some v) := fun {i v} e => by
    have hi : i < vs.length := (List.getElem?_eq_some_iff.mp e).1
    unfold L2.start
    rw [List.getElem?_append_left (by simpa using hi), List.getElem?_map, e]
    rfl
  have r0 : Rel (W.at io vs) B Fs (L2.start N vs) H (ds.map some ++ List.replicate (N.length - ds.length) none) := by
    refine ⟨r.bd, r.fd, r.dj, fun i d e => ?_, fun q hq => ?_, ?_, r.tb⟩
    · have e' := hgetR e
      obtain ⟨v, q1, q2⟩ := r.sl i d (by rw [List.getElem?_map, e']; rfl)
      exact ⟨v, hgetS (some_map q1), q2⟩
    · obtain ⟨i, h1, h2, h3⟩ := pins_mem hq
      rw [h1, Nat.zero_add]
      exact hgetS h3
    · unfold L2.start
      simp only [List.length_append, List.length_map, List.length_replicate, hld]
  refine ⟨B, Fs, _, r0, ?_⟩
  -- what is told at an end
  have done : ∀ {G : AS} {Fs' : Nat → AS} {σ' : L2.St} {H' : Hp} {ρ' : Rho} {ps : List D}, outs io ds ρ' = some ps → Rel (W.at io vs) (U B G) Fs' σ' H' ρ' → Stp B Fs Fs' H H' → Fr G H →
      ∃ Fs2, Rel W.bare (U B G) Fs2 (vs.map some) H' ((mix io ds ps).map some) ∧ Stp B Fs Fs2 H H' ∧ OnlyIo io Fs2 ∧ ∀ a, OO (U B G) Fs2 a → OO (U B G) Fs' a := fun {G Fs' σ' H' ρ' ps} ho r' s' fr => by
    let Fs2 : Nat → AS := fun j a => io[j]? = some true ∧ Fs' j a
    have sub : ∀ a, OO (U B G) Fs2 a → OO (U B G) Fs' a := fun a z => z.elim .inl fun ⟨j, _, z⟩ => .inr ⟨j, z⟩
    refine ⟨Fs2, ⟨r'.bd, fun j a z => r'.fd j a z.2, fun j k a z1 z2 => r'.dj j k a z1.2 z2.2, fun j d e => ?_, fun q hq => absurd (show q ∈ ([] : List (Nat × V)) from hq) (by simp), ?_, r'.tb⟩, ⟨s'.keep, s'.kb, fun j a z => s'.old j a z.2, s'.dom⟩, fun j a z => z.1, sub⟩
    · rw [mix_outs ho] at e
      have e' := some_map e
      have hj : j < vs.length := by rw [hld, ← (outs_len ho).1]; exact (List.getElem?_eq_some_iff.mp e').1
      have hv : vs[j]? = some vs[j] := List.getElem?_eq_getElem hj
      refine ⟨vs[j], by rw [List.getElem?_map, hv]; rfl, ?_⟩
      rcases outs_get ho e' with ⟨h1, h2⟩ | ⟨h1, h2⟩
      · obtain ⟨v, q1, q2⟩ := r'.sl j d h2
        have hp := r'.pin (0 + j, vs[j]) (pins_of h1 hv)
        simp only [Nat.zero_add] at hp
        rw [q1] at hp
        cases hp
        exact Ow.stay (W := A0) (F := Fs2 j) ⟨.refl, fun _ _ => rfl, fun _ z => z.elim, fun a z => .inl (sub a z), fun a z => .inr ⟨j, z⟩⟩ d _ (q2.mono fun b hb => ⟨h1, hb⟩)
      · obtain ⟨v, q1, q2⟩ := r.sl j d (by rw [List.getElem?_map, h2]; rfl)
        have q1' := some_map q1
        rw [hv] at q1'
        cases q1'
        have hz' : isFz d = true := by
          have fzio : ∀ {io : List Bool} {ds : List D} {j : Nat}, FzIo io ds → io[j]? = some false → ds[j]? = some d → isFz d = true := fun {io} => by
            induction io with
            | nil => intro ds j h e; simp at e
            | cons b io ih =>
              intro ds j h e1 e2
              cases ds with
              | nil => simp at e2
              | cons d0 ds =>
                cases j with
                | zero =>
                  simp at e1 e2
                  subst e1; subst e2
                  simp only [FzIo] at h
                  exact h.1
                | succ j =>
                  cases b with
                  | true => simp only [FzIo] at h; exact ih h (by simpa using e1) (by simpa using e2)
                  | false => simp only [FzIo] at h; exact ih h.2 (by simpa using e1) (by simpa using e2)
          exact fzio hz h1 h2
        refine Ow.mono (F := A0) (fun b hb => hb.elim) ?_
        refine Ow.stay (W := fun a => ∃ i, Fs i a) ⟨s'.keep, fun _ z => z.elim, fun a z => .inr z, fun a z => ?_, fun _ z => z.elim⟩ d _ (Ow.isFz d _ hz' q2)
        rcases sub a z with (z | z) | ⟨i, z⟩
        · exact .inl (.inl z)
        · exact .inr (fr a z)
        · rcases s'.old i a z with z | z
          · exact .inl (.inr ⟨i, z⟩)
          · exact .inr z
    · rw [mix_outs ho]
      simp [(outs_len ho).1, hld]
  have e0 : U B A0 = B := u0 fun _ z => z
  unfold runF PostF at p
  unfold PostS
  cases hb : body (ds.map some ++ List.replicate (N.length - ds.length) none) with
  | bad => rw [hb] at p; exact p.elim
  | exc c ρ' =>
    rw [hb] at p
    simp only at p
    cases ho : outs io ds ρ' with
    | none => rw [ho] at p; exact p.elim
    | some ps =>
      rw [ho] at p
      intro H' Fs' σ' r' s'
      obtain ⟨Fs2, r2, s2, oi, _⟩ := done (G := A0) ho (by rw [e0]; exact r') s' fun _ z => z.elim
      rw [e0] at r2
      exact p H' Fs2 (outs_len ho).1 r2 s2 oi
  | ok fl ρ' =>
    rw [hb] at p
    cases fl with
    | bk => exact p.elim
    | ct => exact p.elim
    | nx =>
      simp only at p
      cases ho : outs io ds ρ' with
      | none => rw [ho] at p; exact p.elim
      | some ps =>
        rw [ho] at p
        intro σ' H' Fs' r' s'
        obtain ⟨Fs2, r2, s2, oi, _⟩ := done (G := A0) ho (by rw [e0]; exact r') s' fun _ z => z.elim
        exact p .non H' Fs2 A0 (outs_len ho).1 r2 (by unfold Ow; rfl) s2 (fun _ z => z.elim) oi
    | rt d =>
      simp only at p
      cases ho : outs io ds ρ' with
      | none => rw [ho] at p; exact p.elim
      | some ps =>
        rw [ho] at p
        intro v σ' H' Fs' G r' ow s' fr
        obtain ⟨Fs2, r2, s2, oi, sub⟩ := done ho r' s' fr
        exact p v H' Fs2 G (outs_len ho).1 r2 (Ow.stay (W := A0) ⟨.refl, fun _ _ => rfl, fun _ z => z.elim, fun a z => .inl (sub a z), fun a z => .inl (.inr z)⟩ d v ow) s2 fr oi
/-- THE RULE for a def -/
theorem fn_D {P : Program} {w : World} {K : PySem.W.Frag} {mg : Str → Option Value} {base : Heap} {x qual : Str} {st : Stmt} {f : Addr} {fd : FuncData} {N ps : List Str} {k : Nat} {io : List Bool} {body : M Fl} (Fn : Fun K x qual st f fd) (S : FnScope N ps (defScope st)) (hps : ps.length = io.length) (hN : ps.length ≤ N.length)
    (hbody : ∀ (cdv : Value) (A : Around) (outer : List Env) (s : Shared) (H : Hp) (vs : List V) (E : XK), Room k (A.deeper (envOfC qual (defScope st) s.heap.objs.size f cdv)) → GX.TakesF (cxOf (L2.CX P w) P w K mg base N qual (defScope st) f cdv A outer s H E) E →
      DB (W.at io vs) E (cxOf (L2.CX P w) P w K mg base N qual (defScope st) f cdv A outer s H E) (defBody st) body) : FnOk P w K mg base (L2.CX P w) (k + 1) f fd ps (spD W io (runF io N.length body)) := by
  refine Fn.okX S (fun vs H Q E h => by rw [h.1, hps]) fun cdv A outer s H vs Q E hr hsp => ?_
  refine ⟨_, hbody cdv A outer s H vs E hr (GX.TakesF.of (takes_of rfl rfl rfl rfl)), body_rd (by rw [hsp.1, ← hps]; exact hN) hsp⟩
/-- raise X('..') -/
theorem ds_raise {X : Cx} {x : Str} {c : Nat} {e : Expr} {pos : Pos} (hc : X.calm = true) (tk : Takes X fun cls d _ H => E cls d H) (hm : PMk X e fun σ H q => q (.ref (W.X c)) none H) : DS W E X (.Raise (some e) none pos) (M.exc c) :=
  mnS (ps_raise hc tk hm) fun D σ H ⟨B, Fs, ρ, r, p⟩ => p H Fs σ r .refl
end
end DL
end

section
set_option Elab.async false
set_option linter.all false
set_option maxRecDepth 100000
set_option maxHeartbeats 2000000
/-! D11: operators by data. -/
namespace DL
open PySem PySem.Spec PyProof.Rows L2

theorem sz24 : sizeLine = 2 ^ 24 := by rw [sizeLine_eq]
section
variable {C : CN} {O : AS} {H : Hp}
theorem Res.int {i : Int} : Res C O H (.int i) (.int i) H := Res.same (by unfold Ow; rfl)
theorem Res.bl {i : Bool} : Res C O H (.bl i) (.bl i) H := Res.same (by unfold Ow; rfl)
theorem Res.str {i : Str} : Res C O H (.str i) (.str i) H := Res.same (by unfold Ow; rfl)
theorem Res.non : Res C O H .non .non H := Res.same (by unfold Ow; rfl)
theorem fzL_app : ∀ {ds es : List D} {vs ws : List V}, FzL C O H ds vs → FzL C O H es ws → FzL C O H (ds ++ es) (vs ++ ws)
  | [], es, vs, ws, h, h2 => by unfold OwL at h; subst h; exact h2
  | d :: ds, es, vs, ws, h, h2 => by
    unfold OwL at h
    obtain ⟨v, r, F1, F2, rfl, k1, k2, k3, k4⟩ := h
    show OwL C O H A0 (d :: (ds ++ es)) (v :: (r ++ ws))
    unfold OwL
    exact ⟨v, r ++ ws, A0, A0, rfl, fun _ z => z.elim, fun _ z => z.elim, k3.mono fun b hb => (k1 b hb).1, fzL_app (k4.mono k2) h2⟩
theorem fzL_nil : FzL C O H [] [] := by unfold OwL; rfl
theorem fzL_cons {d : D} {ds : List D} {v : V} {vs : List V} (h : Fz C O H d v) (h2 : FzL C O H ds vs) : FzL C O H (d :: ds) (v :: vs) := by
  unfold OwL; exact ⟨v, vs, A0, A0, rfl, fun _ z => z.elim, fun _ z => z.elim, h, h2⟩
theorem fzL_inv {d : D} {ds : List D} {vs : List V} (h : FzL C O H (d :: ds) vs) : ∃ v r, vs = v :: r ∧ Fz C O H d v ∧ FzL C O H ds r := by
  unfold OwL at h
  obtain ⟨v, r, F1, F2, rfl, k1, k2, k3, k4⟩ := h
  exact ⟨v, r, rfl, k3.mono fun b hb => (k1 b hb).1, k4.mono k2⟩
theorem fzL_take : ∀ {ds : List D} {vs : List V} (n : Nat), FzL C O H ds vs → FzL C O H (ds.take n) (vs.take n)
  | ds, vs, 0, h => by simp; exact fzL_nil
  | [], vs, n + 1, h => by unfold OwL at h; subst h; simp; exact fzL_nil
  | d :: ds, vs, n + 1, h => by
    obtain ⟨v, r, rfl, h1, h2⟩ := fzL_inv h
    exact fzL_cons h1 (fzL_take n h2)
theorem fzL_drop : ∀ {ds : List D} {vs : List V} (n : Nat), FzL C O H ds vs → FzL C O H (ds.drop n) (vs.drop n)
  | ds, vs, 0, h => h
  | [], vs, n + 1, h => by unfold OwL at h; subst h; simp; exact fzL_nil
  | d :: ds, vs, n + 1, h => by
    obtain ⟨v, r, rfl, h1, h2⟩ := fzL_inv h
    exact fzL_drop n h2
theorem fzL_rep {ds : List D} {vs : List V} (h : FzL C O H ds vs) : ∀ k : Nat, FzL C O H (List.replicate k ds).flatten (List.replicate k vs).flatten
  | 0 => fzL_nil
  | k + 1 => by
    rw [List.replicate_succ, List.flatten_cons, List.replicate_succ, List.flatten_cons]
    exact fzL_app h (fzL_rep h k)
theorem fzL_rev : ∀ {ds : List D} {vs : List V}, FzL C O H ds vs → FzL C O H ds.reverse vs.reverse
  | [], vs, h => by unfold OwL at h; subst h; simp; exact fzL_nil
  | d :: ds, vs, h => by
    obtain ⟨v, r, rfl, h1, h2⟩ := fzL_inv h
    rw [List.reverse_cons, List.reverse_cons]
    exact fzL_app (fzL_rev h2) (fzL_cons h1 fzL_nil)
theorem fzL_kids_get {ds : List D} {vs : List V} {i : Nat} {d : D} (h : FzL C O H ds vs) (e : ds[i]? = some d) : ∃ v, vs[i]? = some v ∧ Fz C O H d v := by
  have hl : i < vs.length := by rw [h.length]; exact (List.getElem?_eq_some_iff.mp e).1
  exact ⟨vs[i], List.getElem?_eq_getElem hl, fzL_get h e (List.getElem?_eq_getElem hl)⟩
end
section
variable {C : CN} {X : Cx}
theorem Sp2.or {r r' : R2} {g g' : D → D → Option D} (h : Sp2 C r g) (h' : Sp2 C r' g') : Sp2 C (fun x y H Q => r x y H Q ∨ r' x y H Q) (fun x y => match g x y with
    | some d => some d
    | none => g' x y) := fun O H x y a b d Q ot hx hy e q => by
  cases hg : g x y with
  | some d' => simp only [hg] at e; cases e; exact .inl (h O H x y a b d Q ot hx hy hg q)
  | none => simp only [hg] at e; exact .inr (h' O H x y a b d Q ot hx hy e q)
theorem vw_tup {O : AS} {H : Hp} (ot : OT O H) {ds : List D} {v : V} (h : Vw C O H (.tup ds) v) : Fz C O H (.tup ds) v := by
  obtain ⟨a, vs, rfl, h1, h2⟩ := h
  unfold Ow
  refine ⟨a, vs, rfl, h1, fun z => ?_, h2⟩
  obtain ⟨u, e, n⟩ := ot a z
  rw [h1] at e
  rw [← Option.some.inj e] at n
  exact n
theorem fzL_nil_of {O : AS} {H : Hp} {ds : List D} (h : FzL C O H ds []) : ds = [] := by have := h.length; cases ds with | nil => rfl | cons x xs => simp at this
/-- tuples of both kinds -/
def tlD : D → Option (List D)
  | .tup ds => some ds
  | .ptup ds => some ds
  | _ => none
theorem tl_at {O : AS} {H : Hp} {K : PySem.W.Frag} {x : D} {ds : List D} {v : V} (h : Vw C O H x v) (e : tlD x = some ds) : ∃ a vs, v = .ref a ∧ SqT K H a vs ∧ FzL C O H ds vs := by
  cases x with
  | tup es => cases e; obtain ⟨a, vs, rfl, h1, h2⟩ := h; exact ⟨a, vs, rfl, SqT.of h1, h2⟩
  | ptup es => cases e; obtain ⟨a, vs, ob, rfl, h1, _, h2⟩ := h; exact ⟨a, vs, rfl, .inl (.inr ⟨ob, h1⟩), h2⟩
  | _ => cases e
theorem tl_fz {O : AS} {H : Hp} {x : D} {ds : List D} {v : V} (ot : OT O H) (h : Vw C O H x v) (e : tlD x = some ds) : Fz C O H x v := by
  cases x with
  | tup es => exact vw_tup ot h
  | ptup es =>
    obtain ⟨a, vs, ob, rfl, h1, h2, h3⟩ := h
    unfold Ow
    refine ⟨a, vs, ob, rfl, h1, h2, fun z => ?_, h3⟩
    obtain ⟨u, e, n⟩ := ot a z
    rw [h1] at e
    rw [← Option.some.inj e] at n
    exact n
  | _ => cases e
def catP (x y : D) : List D → List D → D
  | [], _ => y
  | _ :: _, [] => x
  | a :: xs, b :: ys => .tup (a :: xs ++ b :: ys)
/-! ### + -/
def dAdd : D → D → Option D
  | .int i, .int j => some (.int (i + j))
  | .str a, .str b => if a.length + b.length ≤ 2 ^ 24 then some (.str (a ++ b)) else none
  | .lst _ xs, .lst _ ys => if xs.length + ys.length ≤ 2 ^ 24 then some (.lst true (xs ++ ys)) else none
  | .tup xs, .tup ys => if xs.length + ys.length ≤ 2 ^ 24 then some (.tup (xs ++ ys)) else none
  | .ptup xs, .tup ys => if xs.length + ys.length ≤ 2 ^ 24 then some (catP (.ptup xs) (.tup ys) xs ys) else none
  | .tup xs, .ptup ys => if xs.length + ys.length ≤ 2 ^ 24 then some (catP (.tup xs) (.ptup ys) xs ys) else none
  | .ptup xs, .ptup ys => if xs.length + ys.length ≤ 2 ^ 24 then some (catP (.ptup xs) (.ptup ys) xs ys) else none
  | _, _ => none
theorem cat_ok {O : AS} {H : Hp} {K : PySem.W.Frag} {x y : D} {xs ys : List D} {a b : V} {Q : VK} (ot : OT O H) (hx : Vw C O H x a) (hy : Vw C O H y b) (ex : tlD x = some xs) (ey : tlD y = some ys) (hl : xs.length + ys.length ≤ 2 ^ 24) (q : ∀ v H', Res C O H (catP x y xs ys) v H' → Q v H') : rCatA K a b H Q := by
  have fx := tl_fz ot hx ex
  have fy := tl_fz ot hy ey
  obtain ⟨p, vs, rfl, h1, h2⟩ := tl_at (K := K) hx ex
  obtain ⟨p2, ws, rfl, h3, h4⟩ := tl_at (K := K) hy ey
  refine ⟨p, p2, vs, ws, rfl, rfl, h1, h3, by rw [h2.length, h4.length, sz24]; exact hl, fun hv => ?_, fun hv hw => ?_, fun hv hw p hp => q _ _ ?_⟩
  · subst hv
    have := fzL_nil_of h2
    subst this
    exact q _ _ (Res.same fy)
  · subst hw
    have := fzL_nil_of h4
    subst this
    cases xs with
    | nil => unfold OwL at h2; exact absurd h2 hv
    | cons => exact q _ _ (Res.same fx)
  · cases xs with
    | nil => unfold OwL at h2; exact absurd h2 hv
    | cons =>
      cases ys with
      | nil => unfold OwL at h4; exact absurd h4 hw
      | cons => exact Res.tup hp (fzL_app h2 h4) (ot.new hp)
def rAddA (K : PySem.W.Frag) : R2 := fun x y H Q => (((rI0 fun i j => .int (i + j)) x y H Q ∨ (fun x y H Q => ∃ i j, x = .str i ∧ y = .str j ∧ i.length + j.length ≤ sizeLine ∧ Q (.str (i ++ j)) H) x y H Q) ∨ rCat x y H Q) ∨ rCatA K x y H Q
theorem op_addA : OpR X (binaryOp .Add) (rAddA X.K) := ((op_add.or op_add_str).or op_cat).or op_catA
theorem sp_add {K : PySem.W.Frag} : Sp2 C (rAddA K) dAdd := fun O H x y a b d Q ot hx hy e q => by
  cases x <;> cases y <;> simp only [dAdd] at e <;> try (cases e; done)
  all_goals try (split at e <;> first | (cases e; done) | (cases e; exact .inr (cat_ok ot hx hy rfl rfl (by assumption) q)))
  · rename_i i j
    cases e
    exact .inl (.inl (.inl ⟨i, j, hx, hy, q _ _ Res.int⟩))
  · rename_i i j
    split at e
    · cases e
      exact .inl (.inl (.inr ⟨i, j, hx, hy, by rw [sz24]; assumption, q _ _ Res.str⟩))
    · cases e
  · rename_i xs ys
    split at e
    · cases e
      obtain ⟨p, vs, rfl, h1, h2⟩ := hx
      obtain ⟨p2, ws, rfl, h3, h4⟩ := hy
      refine .inr ⟨p, p2, vs, ws, rfl, rfl, SqT.of h1, SqT.of h3, by rw [h2.length, h4.length, sz24]; assumption, fun hv => ?_, fun hv hw => ?_, fun hv hw p hp => q _ _ (Res.tup hp (fzL_app h2 h4) (ot.new hp))⟩
      · subst hv
        have := fzL_nil_of h2
        subst this
        exact q _ _ (Res.same (vw_tup ot ⟨p2, ws, rfl, h3, h4⟩))
      · subst hw
        have := fzL_nil_of h4
        subst this
        exact q _ _ (Res.same (by rw [List.append_nil]; exact vw_tup ot ⟨p, vs, rfl, h1, h2⟩))
    · cases e
  · rename_i o xs o' ys
    split at e
    · cases e
      obtain ⟨p, vs, rfl, h1, h2⟩ := hx
      obtain ⟨p2, ws, rfl, h3, h4⟩ := hy
      exact .inl (.inr ⟨p, p2, vs, ws, rfl, rfl, h1, h3, by rw [h2.length, h4.length, sz24]; assumption, fun p hp => q _ _ (Res.lst hp (fzL_app h2 h4))⟩)
    · cases e
/-! ### other arithmetic -/
def dSub : D → D → Option D
  | .int i, .int j => some (.int (i - j))
  | _, _ => none
theorem sp_sub : Sp2 C (rI0 fun i j => .int (i - j)) dSub := fun O H x y a b d Q ot hx hy e q => by
  cases x <;> cases y <;> simp only [dSub] at e <;> try (cases e; done)
  cases e
  exact ⟨_, _, hx, hy, q _ _ Res.int⟩
def small (i : Int) : Bool := decide (-(2 ^ 64) < i) && decide (i < 2 ^ 64)
def dMul : D → D → Option D
  | .int i, .int j => if small i || small j then some (.int (i * j)) else none
  | .lst _ xs, .int k => if -(2 ^ 63) ≤ k ∧ k < 2 ^ 63 ∧ xs.length * k.toNat ≤ 2 ^ 24 then some (.lst true (List.replicate k.toNat xs).flatten) else none
  | _, _ => none
theorem op_mulA : OpR X (binaryOp .Mult) (fun x y H Q => rI CMul (fun i j => .int (i * j)) x y H Q ∨ rRep x y H Q) := op_mul.or op_rep
theorem sp_mul : Sp2 C (fun x y H Q => rI CMul (fun i j => .int (i * j)) x y H Q ∨ rRep x y H Q) dMul := fun O H x y a b d Q ot hx hy e q => by
  cases x <;> cases y <;> simp only [dMul] at e <;> try (cases e; done)
  · rename_i i j
    split at e
    · rename_i hs
      cases e
      refine .inl ⟨_, _, hx, hy, ?_, q _ _ Res.int⟩
      simp only [small, Bool.or_eq_true, Bool.and_eq_true, decide_eq_true_eq] at hs
      exact hs
    · cases e
  · rename_i o xs k
    split at e
    · rename_i hs
      cases e
      obtain ⟨p, vs, rfl, h1, h2⟩ := hx
      exact .inr ⟨p, k, vs, rfl, hy, h1, hs.1, hs.2.1, by rw [h2.length, sz24]; exact hs.2.2, fun p hp => q _ _ (Res.lst hp (fzL_rep h2 _))⟩
    · cases e
def dMod : D → D → Option D
  | .int i, .int j => if 0 < j then some (.int (i % j)) else none
  | _, _ => none
theorem sp_mod : Sp2 C (rI (fun _ j => 0 < j) fun i j => .int (i % j)) dMod := fun O H x y a b d Q ot hx hy e q => by
  cases x <;> cases y <;> simp only [dMod] at e <;> try (cases e; done)
  split at e
  · cases e
    exact ⟨_, _, hx, hy, by assumption, q _ _ Res.int⟩
  · cases e
def dDiv : D → D → Option D
  | .int i, .int j => if 0 < j ∧ j < 1073741824 then some (.int (i / j)) else none
  | _, _ => none
theorem sp_div : Sp2 C (rI CDiv fun i j => .int (i / j)) dDiv := fun O H x y a b d Q ot hx hy e q => by
  cases x <;> cases y <;> simp only [dDiv] at e <;> try (cases e; done)
  split at e
  · cases e
    exact ⟨_, _, hx, hy, by assumption, q _ _ Res.int⟩
  · cases e
def dPow : D → D → Option D
  | .int i, .int j => if 0 ≤ j ∧ j ≤ 1000000 ∧ i.natAbs < 2 ^ 64 then some (.int (i ^ j.toNat)) else none
  | _, _ => none
theorem sp_pow : Sp2 C (rI CPow fun i j => .int (i ^ j.toNat)) dPow := fun O H x y a b d Q ot hx hy e q => by
  cases x <;> cases y <;> simp only [dPow] at e <;> try (cases e; done)
  split at e
  · cases e
    exact ⟨_, _, hx, hy, by assumption, q _ _ Res.int⟩
  · cases e
/-! ### order of ints -/
def dCmp (f : Int → Int → Bool) : D → D → Option D
  | .int i, .int j => some (.bl (f i j))
  | _, _ => none
theorem sp_cmp {f : Int → Int → Bool} : Sp2 C (rI0 fun i j => .bl (f i j)) (dCmp f) := fun O H x y a b d Q ot hx hy e q => by
  cases x <;> cases y <;> simp only [dCmp] at e <;> try (cases e; done)
  cases e
  exact ⟨_, _, hx, hy, q _ _ Res.bl⟩
abbrev dLt := dCmp fun i j => decide (i < j)
abbrev dLe := dCmp fun i j => decide (i ≤ j)
abbrev dGt := dCmp fun i j => decide (j < i)
abbrev dGe := dCmp fun i j => decide (j ≤ i)
/-! ### is None -/
def isNon : D → Bool
  | .non => true
  | _ => false
def dIsN : D → D → Option D
  | x, .non => some (.bl (isNon x))
  | _, _ => none
def dIsntN : D → D → Option D
  | x, .non => some (.bl (!isNon x))
  | _, _ => none
theorem vw_non {O : AS} {H : Hp} {x : D} {v : V} (h : Vw C O H x v) : decide (v = .non) = isNon x := by
  cases x <;> first
    | (have h' : v = _ := h; subst h'; rfl)
    | (obtain ⟨a, h1, _⟩ := h; subst h1; rfl)
    | (obtain ⟨a, _, h1, _⟩ := h; subst h1; rfl)
    | (obtain ⟨a, _, _, h1, _⟩ := h; subst h1; rfl)
theorem sp_isN : Sp2 C (fun x y H Q => y = .non ∧ Q (.bl (decide (x = .non))) H) dIsN := fun O H x y a b d Q ot hx hy e q => by
  cases y <;> simp only [dIsN] at e <;> try (cases e; done)
  cases e
  refine ⟨hy, ?_⟩
  rw [vw_non hx]
  exact q _ _ Res.bl
theorem sp_isntN : Sp2 C (fun x y H Q => y = .non ∧ Q (.bl (!decide (x = .non))) H) dIsntN := fun O H x y a b d Q ot hx hy e q => by
  cases y <;> simp only [dIsntN] at e <;> try (cases e; done)
  cases e
  refine ⟨hy, ?_⟩
  rw [vw_non hx]
  exact q _ _ Res.bl
/-! ### equality of data -/
mutual
def toP : D → Option PyData
  | .non => some .none
  | .bl b => some (.bool b)
  | .int i => some (.int i)
  | .str x => some (.str x)
  | .tup ds => (toPs ds).map .tuple
  | .ptup ds => (toPs ds).map .tuple
  | .lst _ ds => (toPs ds).map .list
  | _ => none
def toPs : List D → Option (List PyData)
  | [] => some []
  | d :: ds => match toP d, toPs ds with
    | some p, some ps => some (p :: ps)
    | _, _ => none
end
mutual
theorem toP_dp {O : AS} {H : Hp} {K : PySem.W.Frag} : ∀ (d : D) (v : V) (p : PyData), Fz C O H d v → toP d = some p → Dp K H v p
  | .non, v, p, h, e => by unfold Ow at h; simp only [toP] at e; cases e; subst h; exact .non
  | .bl b, v, p, h, e => by unfold Ow at h; simp only [toP] at e; cases e; subst h; exact .bl b
  | .int b, v, p, h, e => by unfold Ow at h; simp only [toP] at e; cases e; subst h; exact .int b
  | .str b, v, p, h, e => by unfold Ow at h; simp only [toP] at e; cases e; subst h; exact .str b
  | .tup ds, v, p, h, e => by
    unfold Ow at h
    obtain ⟨a, vs, rfl, h1, _, h2⟩ := h
    simp only [toP] at e
    cases he : toPs ds with
    | none => rw [he] at e; cases e
    | some ps => rw [he] at e; cases e; exact .tup (SqT.of h1) (toPs_dp ds vs ps h2 he)
  | .ptup ds, v, p, h, e => by
    unfold Ow at h
    obtain ⟨a, vs, ob, rfl, h1, _, _, h2⟩ := h
    simp only [toP] at e
    cases he : toPs ds with
    | none => rw [he] at e; cases e
    | some ps => rw [he] at e; cases e; exact .tup (.inl (.inr ⟨ob, h1⟩)) (toPs_dp ds vs ps h2 he)
  | .lst o ds, v, p, h, e => by
    unfold Ow at h
    obtain ⟨a, vs, G, rfl, h1, h3, h4, h2⟩ := h
    simp only [toP] at e
    have h2' : FzL C O H ds vs := h2.mono fun b hb => by
      unfold Sub at h4
      split at h4
      · exact h4.1 b hb
      · exact (h4 b hb).elim
    cases he : toPs ds with
    | none => rw [he] at e; cases e
    | some ps => rw [he] at e; cases e; exact .lst (SqL.of h1) (toPs_dp ds vs ps h2' he)
  | .dk _ _ _, v, p, h, e => by simp only [toP] at e; cases e
  | .dt _ _ _, v, p, h, e => by simp only [toP] at e; cases e
  | .ins _ _ _ _, v, p, h, e => by simp only [toP] at e; cases e
  | .fn _, v, p, h, e => by simp only [toP] at e; cases e
  | .scr _, v, p, h, e => by simp only [toP] at e; cases e
theorem toPs_dp {O : AS} {H : Hp} {K : PySem.W.Frag} : ∀ (ds : List D) (vs : List V) (ps : List PyData), FzL C O H ds vs → toPs ds = some ps → DpAll K H vs ps
  | [], vs, ps, h, e => by unfold OwL at h; subst h; simp only [toPs] at e; cases e; exact .nil
  | d :: ds, vs, ps, h, e => by
    unfold OwL at h
    obtain ⟨v, r, F1, F2, rfl, k1, k2, k3, k4⟩ := h
    simp only [toPs] at e
    cases h1 : toP d with
    | none => rw [h1] at e; cases e
    | some p =>
      cases h2 : toPs ds with
      | none => rw [h1, h2] at e; cases e
      | some ps' =>
        rw [h1, h2] at e
        cases e
        exact .cons (toP_dp d v p (k3.mono fun b hb => (k1 b hb).1) h1) (toPs_dp ds r ps' (k4.mono k2) h2)
end
theorem vw_dp {O : AS} {H : Hp} {K : PySem.W.Frag} {d : D} {v : V} {p : PyData} (ot : OT O H) (h : Vw C O H d v) (e : toP d = some p) : Dp K H v p := by
  cases d with
  | non => exact toP_dp _ _ _ (show Fz C O H .non v by unfold Ow; exact h) e
  | bl b => exact toP_dp _ _ _ (show Fz C O H (.bl b) v by unfold Ow; exact h) e
  | int b => exact toP_dp _ _ _ (show Fz C O H (.int b) v by unfold Ow; exact h) e
  | str b => exact toP_dp _ _ _ (show Fz C O H (.str b) v by unfold Ow; exact h) e
  | tup ds => exact toP_dp _ _ _ (vw_tup ot h) e
  | ptup ds =>
    obtain ⟨a, vs, ob, rfl, h1, _, h2⟩ := h
    simp only [toP] at e
    cases he : toPs ds with
    | none => rw [he] at e; cases e
    | some ps => rw [he] at e; cases e; exact .tup (.inl (.inr ⟨ob, h1⟩)) (toPs_dp ds vs ps h2 he)
  | lst o ds =>
    obtain ⟨a, vs, rfl, h1, h2⟩ := h
    simp only [toP] at e
    cases he : toPs ds with
    | none => rw [he] at e; cases e
    | some ps => rw [he] at e; cases e; exact .lst (SqL.of h1) (toPs_dp ds vs ps h2 he)
  | _ => simp only [toP] at e; cases e
/-- the two are data, and equal or not -/
def eqDat (x y : D) : Option Bool := match toP x, toP y with
  | some p, some q => if SeqAt.shaped p && SeqAt.shaped q then some (PyData.eqv p q) else none
  | _, _ => none
def dEq (x y : D) : Option D := (eqDat x y).map .bl
def dNe (x y : D) : Option D := (eqDat x y).map fun b => .bl (!b)
theorem eqDat_inv {x y : D} {c : Bool} (h : eqDat x y = some c) : ∃ p q, toP x = some p ∧ toP y = some q ∧ SeqAt.shaped p = true ∧ SeqAt.shaped q = true ∧ PyData.eqv p q = c := by
  unfold eqDat at h
  cases h1 : toP x with
  | none => rw [h1] at h; cases h
  | some p =>
    cases h2 : toP y with
    | none => rw [h1, h2] at h; cases h
    | some q =>
      rw [h1, h2] at h
      simp only at h
      split at h
      · rename_i hs
        rw [Bool.and_eq_true] at hs
        exact ⟨p, q, rfl, rfl, hs.1, hs.2, Option.some.inj h⟩
      · cases h
theorem sp_eq {K : PySem.W.Frag} : Sp2 C (rEqD K) dEq := fun O H x y a b d Q ot hx hy e q => by
  unfold dEq at e
  cases h : eqDat x y with
  | none => rw [h] at e; cases e
  | some c =>
    rw [h] at e
    cases e
    obtain ⟨p, p2, e1, e2, s1, s2, e3⟩ := eqDat_inv h
    refine ⟨p, p2, vw_dp ot hx e1, vw_dp ot hy e2, s1, s2, ?_⟩
    rw [e3]
    exact q _ _ Res.bl
theorem sp_ne {K : PySem.W.Frag} : Sp2 C (rNeD K) dNe := fun O H x y a b d Q ot hx hy e q => by
  unfold dNe at e
  cases h : eqDat x y with
  | none => rw [h] at e; cases e
  | some c =>
    rw [h] at e
    cases e
    obtain ⟨p, p2, e1, e2, s1, s2, e3⟩ := eqDat_inv h
    refine ⟨p, p2, vw_dp ot hx e1, vw_dp ot hy e2, s1, s2, ?_⟩
    rw [e3]
    exact q _ _ Res.bl
/-! ### in -/
/-- x stands in y: a text in a text, a datum in a list -/
def inDat (x y : D) : Option Bool := match x, y with
  | .str a, .str b => some (!(Builtin.Str.occurrences b a 0 b.length 1).isEmpty)
  | x, .lst o ys => match toP x, toPs ys with
    | some p, some ps => if SeqAt.shaped p && SeqAt.shaped (.list ps) then some (ps.any fun z => PyData.eqv z p) else none
    | _, _ => none
  | _, _ => none
def dIn (x y : D) : Option D := (inDat x y).map .bl
def dNin (x y : D) : Option D := (inDat x y).map fun b => .bl (!b)
def rInA (K : PySem.W.Frag) : R2 := fun x y H Q => (∃ i j, x = .str i ∧ y = .str j ∧ Q (.bl (!(Builtin.Str.occurrences j i 0 j.length 1).isEmpty)) H) ∨ rInD K x y H Q
def rNinA (K : PySem.W.Frag) : R2 := fun x y H Q => (∃ i j, x = .str i ∧ y = .str j ∧ Q (.bl (!(!(Builtin.Str.occurrences j i 0 j.length 1).isEmpty))) H) ∨ rNotInD K x y H Q
theorem op_inA (hu : X.A.units + 65 < cLine) : OpR X (compareOp .In) (rInA X.K) := op_in_str.or (op_inD hu)
theorem op_ninA (hu : X.A.units + 65 < cLine) : OpR X (compareOp .NotIn) (rNinA X.K) := op_notIn_str.or (op_notInD hu)
theorem inDat_inv {x y : D} {c : Bool} (h : inDat x y = some c) : (∃ a b, x = .str a ∧ y = .str b ∧ c = (!(Builtin.Str.occurrences b a 0 b.length 1).isEmpty)) ∨
    ∃ o ys p ps, y = .lst o ys ∧ toP x = some p ∧ toPs ys = some ps ∧ SeqAt.shaped p = true ∧ SeqAt.shaped (.list ps) = true ∧ c = ps.any fun z => PyData.eqv z p := by
  unfold inDat at h
  split at h
  · cases h
    exact .inl ⟨_, _, rfl, rfl, rfl⟩
  · rename_i o ys
    cases h1 : toP x with
    | none => rw [h1] at h; cases h
    | some p =>
      cases h2 : toPs ys with
      | none => rw [h1, h2] at h; cases h
      | some ps =>
        rw [h1, h2] at h
        simp only at h
        split at h
        · rename_i hs
          rw [Bool.and_eq_true] at hs
          exact .inr ⟨_, _, p, ps, rfl, rfl, h2, hs.1, hs.2, (Option.some.inj h).symm⟩
        · cases h
  · cases h
theorem sp_in {K : PySem.W.Frag} : Sp2 C (rInA K) dIn := fun O H x y a b d Q ot hx hy e q => by
  unfold dIn at e
  cases h : inDat x y with
  | none => rw [h] at e; cases e
  | some c =>
    rw [h] at e
    cases e
    rcases inDat_inv h with ⟨s, t, rfl, rfl, rfl⟩ | ⟨o, ys, p, ps, rfl, e1, e2, s1, s2, rfl⟩
    · exact .inl ⟨s, t, hx, hy, q _ _ Res.bl⟩
    · exact .inr ⟨p, ps, vw_dp ot hx e1, vw_dp ot hy (by simp only [toP, e2]; rfl), s1, s2, q _ _ Res.bl⟩
theorem sp_nin {K : PySem.W.Frag} : Sp2 C (rNinA K) dNin := fun O H x y a b d Q ot hx hy e q => by
  unfold dNin at e
  cases h : inDat x y with
  | none => rw [h] at e; cases e
  | some c =>
    rw [h] at e
    cases e
    rcases inDat_inv h with ⟨s, t, rfl, rfl, rfl⟩ | ⟨o, ys, p, ps, rfl, e1, e2, s1, s2, rfl⟩
    · exact .inl ⟨s, t, hx, hy, q _ _ Res.bl⟩
    · exact .inr ⟨p, ps, vw_dp ot hx e1, vw_dp ot hy (by simp only [toP, e2]; rfl), s1, s2, q _ _ Res.bl⟩
/-! ### subscripts -/
def dIx : D → D → Option D
  | .lst _ ds, .int i => atI ds i
  | .tup ds, .int i => atI ds i
  | .ptup ds, .int i => atI ds i
  | .str z, .int i => if z.length ≤ 2 ^ 24 then (atI z.cps.toList i).map fun c => .str ⟨#[c]⟩ else none
  | _, _ => none
theorem atI_fz {O : AS} {H : Hp} {ds : List D} {vs : List V} {i : Int} {d : D} (h : FzL C O H ds vs) (e : atI ds i = some d) : ∃ v, atI vs i = some v ∧ Fz C O H d v := by
  unfold atI at *
  rw [← h.length] at e
  cases hj : ixN vs.length i with
  | none => rw [hj] at e; cases e
  | some j =>
    rw [hj] at e
    exact fzL_kids_get h e
theorem sp_ix {K : PySem.W.Frag} : Sp2 C (rIx K) dIx := fun O H x y a b d Q ot hx hy e q => by
  cases x <;> cases y <;> simp only [dIx] at e <;> try (cases e; done)
  · rename_i z i
    split at e
    · cases hc : atI z.cps.toList i with
      | none => rw [hc] at e; cases e
      | some c =>
        rw [hc] at e
        cases e
        exact .inr (.inr ⟨z, i, c, hx, hy, by rw [sz24]; assumption, hc, q _ _ Res.str⟩)
    · cases e
  · rename_i ds i
    obtain ⟨p, vs, rfl, h1, h2⟩ := hx
    obtain ⟨v, e1, e2⟩ := atI_fz h2 e
    exact .inr (.inl ⟨p, vs, i, v, rfl, hy, SqT.of h1, e1, q _ _ (Res.same e2)⟩)
  · rename_i o ds i
    obtain ⟨p, vs, rfl, h1, h2⟩ := hx
    obtain ⟨v, e1, e2⟩ := atI_fz h2 e
    exact .inl ⟨p, vs, i, v, rfl, hy, SqL.of h1, e1, q _ _ (Res.same e2)⟩
  · rename_i ds i
    obtain ⟨p, vs, ob, rfl, h1, _, h2⟩ := hx
    obtain ⟨v, e1, e2⟩ := atI_fz h2 e
    exact .inr (.inl ⟨p, vs, i, v, rfl, hy, .inl (.inr ⟨ob, h1⟩), e1, q _ _ (Res.same e2)⟩)
end
end DL
end

section
set_option Elab.async false
set_option linter.all false
set_option maxRecDepth 100000
set_option maxHeartbeats 2000000
/-! D12: dicts read; subscripts and in, of any kind; attributes. -/
namespace DL
open PySem PySem.Spec PyProof.Rows L2

/-! ### keys -/
def toKey : D → Option Key
  | .int i => some (.inl i)
  | .str x => some (.inr x)
  | _ => none
def toKeys : List D → Option (List Key)
  | [] => some []
  | d :: ds => match toKey d, toKeys ds with
    | some k, some ks => some (k :: ks)
    | _, _ => none
def look {κ : Type} [DecidableEq κ] : List κ → List D → κ → Option D
  | k :: ks, d :: ds, j => if k = j then some d else look ks ds j
  | _, _, _ => none
def put {κ : Type} [DecidableEq κ] : List κ → List D → κ → D → List κ × List D
  | k :: ks, d :: ds, j, e => if k = j then (k :: ks, e :: ds) else ((k :: (put ks ds j e).1), (d :: (put ks ds j e).2))
  | _, _, j, e => ([j], [e])
section
variable {C : CN} {O : AS} {H : Hp}
theorem toKey_v {d : D} {v : V} {k : Key} (h : Vw C O H d v) (e : toKey d = some k) : v = kV k := by
  cases d <;> simp only [toKey] at e <;> try (cases e; done)
  · cases e; exact h
  · cases e; exact h
theorem fz_key {d : D} {v : V} {k : Key} (h : Fz C O H d v) (e : toKey d = some k) : v = kV k := by
  cases d <;> simp only [toKey] at e <;> try (cases e; done)
  · cases e; unfold Ow at h; exact h
  · cases e; unfold Ow at h; exact h
theorem toKeys_v : ∀ {ds : List D} {vs : List V} {ks : List Key}, FzL C O H ds vs → toKeys ds = some ks → vs = ks.map kV
  | [], vs, ks, h, e => by unfold OwL at h; subst h; simp only [toKeys] at e; cases e; rfl
  | d :: ds, vs, ks, h, e => by
    obtain ⟨v, r, rfl, h1, h2⟩ := fzL_inv h
    simp only [toKeys] at e
    cases e1 : toKey d with
    | none => rw [e1] at e; cases e
    | some k =>
      cases e2 : toKeys ds with
      | none => rw [e1, e2] at e; cases e
      | some ks' =>
        rw [e1, e2] at e
        cases e
        rw [fz_key h1 e1, toKeys_v h2 e2]
        rfl
theorem look_val {κ : Type} [DecidableEq κ] {ks : List κ} : ∀ {kvs : List (κ × V)} {ds : List D} (j : κ), kvs.map (·.1) = ks → FzL C O H ds (kvs.map (·.2)) → (look ks ds j = none ∧ valV kvs j = none) ∨ ∃ d v, look ks ds j = some d ∧ valV kvs j = some v ∧ Fz C O H d v := by
  induction ks with
  | nil =>
    intro kvs ds j hk h
    cases kvs with
    | nil => exact .inl ⟨by cases ds <;> rfl, rfl⟩
    | cons p r => cases hk
  | cons k ks ih =>
    intro kvs ds j hk h
    cases kvs with
    | nil => cases hk
    | cons p r =>
      simp only [List.map_cons, List.cons.injEq] at hk
      cases ds with
      | nil => unfold OwL at h; cases h
      | cons d ds =>
        obtain ⟨v, r', e, h1, h2⟩ := fzL_inv h
        simp only [List.map_cons, List.cons.injEq] at e
        obtain ⟨e1, e2⟩ := e
        by_cases hj : k = j
        · refine .inr ⟨d, v, by simp [look, hj], ?_, h1⟩
          rw [valV_pos (by rw [hk.1, hj]), e1]
        · have hn : ¬ p.1 = j := by rw [hk.1]; exact hj
          rw [show look (k :: ks) (d :: ds) j = look ks ds j by simp [look, hj], valV_neg hn]
          exact ih j hk.2 (by rw [e2]; exact h2)
/-- the key of a dict, by data -/
def dLook (x y : D) : Option (Option D) := match x with
  | .dk _ ks ds => (toKey y).map (look ks ds)
  | .dt _ ks ds => match y with
    | .tup es => (toKeys es).map (look ks ds)
    | _ => none
  | _ => none
theorem dLook_get {x y : D} {a b : V} {o : Option D} (hx : Vw C O H x a) (hy : Vw C O H y b) (e : dLook x y = some o) : ∃ p, a = .ref p ∧ ((o = none ∧ DGet H p b none) ∨ ∃ d v, o = some d ∧ DGet H p b (some v) ∧ Fz C O H d v) := by
  cases x <;> simp only [dLook] at e <;> try (cases e; done)
  · rename_i o' ks ds
    obtain ⟨p, kvs, rfl, h1, h2, h3⟩ := hx
    cases hk : toKey y with
    | none => rw [hk] at e; cases e
    | some k =>
      rw [hk] at e
      cases e
      have hb := toKey_v hy hk
      refine ⟨p, rfl, ?_⟩
      rcases look_val k h2 h3 with ⟨e1, e2⟩ | ⟨d, v, e1, e2, e3⟩
      · exact .inl ⟨e1, .inl ⟨kvs, k, h1, hb, e2.symm⟩⟩
      · exact .inr ⟨d, v, e1, .inl ⟨kvs, k, h1, hb, e2.symm⟩, e3⟩
  · rename_i o' ks ds
    cases y <;> simp only at e <;> try (cases e; done)
    rename_i es
    obtain ⟨p, kvs, rfl, h1, h2, h3⟩ := hx
    cases hk : toKeys es with
    | none => rw [hk] at e; cases e
    | some k =>
      rw [hk] at e
      cases e
      obtain ⟨q, vs, rfl, h4, h5⟩ := hy
      have hv := toKeys_v h5 hk
      refine ⟨p, rfl, ?_⟩
      rcases look_val k h2 h3 with ⟨e1, e2⟩ | ⟨d, v, e1, e2, e3⟩
      · exact .inl ⟨e1, .inr ⟨kvs, k, q, h1, rfl, by rw [h4, hv], e2.symm⟩⟩
      · exact .inr ⟨d, v, e1, .inr ⟨kvs, k, q, h1, rfl, by rw [h4, hv], e2.symm⟩, e3⟩
end
section
variable {C : CN} {X : Cx}
def rDG : R2 := fun x y H Q => ∃ a v, x = .ref a ∧ DGet H a y (some v) ∧ Q v H
theorem ix_dict (hu : X.A.units + 1 < cLine) : IxR X rDG := by
  intro value slice pins s σ H x y v u Q I rx ry h hs
  obtain ⟨a, w, rfl, g, q⟩ := h
  cases rx
  have hT := dict_typeIs I g
  unfold subscriptTail
  refine wpAny_bind ?_
  rw [getitemInPython_of_ne hT.not_modules]
  refine wpAny_bind (wpAny_specialOf hT PySem.F.slot_dict_getitem.lookup ?_)
  have h2 : wpAny (model X.prog X.w) X.A (getItem (.ref a) u) (EP X pins σ Q) X.xe s := d_getItem hu I g ry fun w' s3 I3 rw' => ⟨w, H, I3, rw', q⟩
  have fin : wpAny (model X.prog X.w) X.A (subscripted slice false (.ref a) u) (fun r s₃ => wpAny (model X.prog X.w) X.A (letTemporaryGo value (.ref a) r >>= fun _ => pure r) (EP X pins σ Q) X.xe s₃) X.xe s := by
    rw [hs]
    exact wpAny_operating (wpAny_mono h2 (fun r s₃ h₃ => wpAny_bind (wpAny_letTemporaryGo (wpAny_pure h₃))) fun _ _ x => x)
  first
    | exact wpAny_pure (wpAny_bind fin)
    | exact wpAny_bind (wpAny_pure (wpAny_bind fin))
    | exact wpAny_bind fin
/-- a[b] -/
def dSub1 (x y : D) : Option D := match x with
  | .dk _ _ _ => (dLook x y).join
  | .dt _ _ _ => (dLook x y).join
  | _ => dIx x y
theorem op_ixA (hu : X.A.units + 1 < cLine) : IxR X (fun x y H Q => rIx X.K x y H Q ∨ rDG x y H Q) := ix_seq.or (ix_dict hu)
theorem sp_ixA {K : PySem.W.Frag} : Sp2 C (fun x y H Q => rIx K x y H Q ∨ rDG x y H Q) dSub1 := fun O H x y a b d Q ot hx hy e q => by
  have dk : ∀ e' : (dLook x y).join = some d, rIx K a b H Q ∨ rDG a b H Q := fun e' => by
    cases hl : dLook x y with
    | none => rw [hl] at e'; cases e'
    | some o =>
      rw [hl] at e'
      obtain ⟨p, rfl, hp⟩ := dLook_get hx hy hl
      rcases hp with ⟨rfl, _⟩ | ⟨d', v, rfl, g, fz⟩
      · cases e'
      · cases e'
        exact .inr ⟨p, v, rfl, g, q _ _ (Res.same fz)⟩
  cases x with
  | dk o ks ds => exact dk e
  | dt o ks ds => exact dk e
  | _ => exact .inl (sp_ix O H _ y a b d Q ot hx hy e q)
/-! ### in, of any kind -/
def rDIn : R2 := fun x y H Q => ∃ a o, y = .ref a ∧ DGet H a x o ∧ Q (.bl o.isSome) H
def rDNin : R2 := fun x y H Q => ∃ a o, y = .ref a ∧ DGet H a x o ∧ Q (.bl (!o.isSome)) H
theorem op_dIn (hu : X.A.units + 1 < cLine) : OpR X (compareOp .In) rDIn := by
  intro pins s σ H x y v u Q I rx ry h
  obtain ⟨a, o, rfl, g, q⟩ := h
  cases ry
  exact d_in hu I g rx fun s3 I3 => ⟨.bl o.isSome, H, I3, rfl, q⟩
theorem op_dNin (hu : X.A.units + 1 < cLine) : OpR X (compareOp .NotIn) rDNin := by
  intro pins s σ H x y v u Q I rx ry h
  obtain ⟨a, o, rfl, g, q⟩ := h
  cases ry
  exact d_notIn hu I g rx fun s3 I3 => ⟨.bl (!o.isSome), H, I3, rfl, q⟩
/-- a flat datum -/
def toV : D → Option V
  | .non => some .non
  | .bl b => some (.bl b)
  | .int i => some (.int i)
  | .str x => some (.str x)
  | _ => none
def toVs : List D → Option (List V)
  | [] => some []
  | d :: ds => match toV d, toVs ds with
    | some v, some vs => some (v :: vs)
    | _, _ => none
theorem toV_vw {O : AS} {H : Hp} {d : D} {v w : V} (h : Vw C O H d v) (e : toV d = some w) : v = w := by
  cases d <;> simp only [toV] at e <;> (cases e; try exact h)
theorem toV_fz {O : AS} {H : Hp} {d : D} {v w : V} (h : Fz C O H d v) (e : toV d = some w) : v = w := by
  cases d <;> simp only [toV] at e <;> (cases e; try (unfold Ow at h; exact h))
theorem toVs_fz {O : AS} {H : Hp} : ∀ {ds : List D} {vs ws : List V}, FzL C O H ds vs → toVs ds = some ws → vs = ws
  | [], vs, ws, h, e => by unfold OwL at h; subst h; simp only [toVs] at e; cases e; rfl
  | d :: ds, vs, ws, h, e => by
    obtain ⟨v, r, rfl, h1, h2⟩ := fzL_inv h
    simp only [toVs] at e
    cases e1 : toV d with
    | none => rw [e1] at e; cases e
    | some w =>
      cases e2 : toVs ds with
      | none => rw [e1, e2] at e; cases e
      | some ws' => rw [e1, e2] at e; cases e; rw [toV_fz h1 e1, toVs_fz h2 e2]
theorem toV_flat {d : D} {w : V} (e : toV d = some w) : flatV w = true := by
  cases d <;> simp only [toV] at e <;> (cases e; try rfl)
theorem toVs_flat : ∀ {ds : List D} {ws : List V}, toVs ds = some ws → ws.all flatV = true
  | [], ws, e => by simp only [toVs] at e; cases e; rfl
  | d :: ds, ws, e => by
    simp only [toVs] at e
    cases e1 : toV d with
    | none => rw [e1] at e; cases e
    | some w =>
      cases e2 : toVs ds with
      | none => rw [e1, e2] at e; cases e
      | some ws' => rw [e1, e2] at e; cases e; rw [List.all_cons, toV_flat e1, toVs_flat e2]; rfl
def inDatA (x y : D) : Option Bool := match y with
  | .tup ds => match toV x, toVs ds with
    | some v, some vs => some (inV v vs)
    | _, _ => none
  | .ptup ds => match toV x, toVs ds with
    | some v, some vs => some (inV v vs)
    | _, _ => none
  | .dk _ _ _ => (dLook y x).map (·.isSome)
  | .dt _ _ _ => (dLook y x).map (·.isSome)
  | _ => inDat x y
def dInA (x y : D) : Option D := (inDatA x y).map .bl
def dNinA (x y : D) : Option D := (inDatA x y).map fun b => .bl (!b)
def rInAll (K : PySem.W.Frag) : R2 := fun x y H Q => (rInA K x y H Q ∨ rDIn x y H Q) ∨ rIn K false x y H Q
def rNinAll (K : PySem.W.Frag) : R2 := fun x y H Q => (rNinA K x y H Q ∨ rDNin x y H Q) ∨ rIn K true x y H Q
theorem op_inAll (hu : X.A.units + 65 < cLine) : OpR X (compareOp .In) (rInAll X.K) := ((op_inA hu).or (op_dIn (by omega))).or op_in_seq
theorem op_ninAll (hu : X.A.units + 65 < cLine) : OpR X (compareOp .NotIn) (rNinAll X.K) := ((op_ninA hu).or (op_dNin (by omega))).or op_notIn_seq
theorem sp_inA {K : PySem.W.Frag} : Sp2 C (rInAll K) dInA := fun O H x y a b d Q ot hx hy e q => by
  unfold dInA at e
  cases h : inDatA x y with
  | none => rw [h] at e; cases e
  | some c =>
  rw [h] at e
  cases e
  have dk : ∀ h' : (dLook y x).map (·.isSome) = some c, rInAll K a b H Q := fun h' => by
    cases hl : dLook y x with
    | none => rw [hl] at h'; cases h'
    | some o =>
      rw [hl] at h'
      cases h'
      obtain ⟨p, rfl, hp⟩ := dLook_get hy hx hl
      rcases hp with ⟨rfl, g⟩ | ⟨d', v, rfl, g, _⟩
      · exact .inl (.inr ⟨p, none, rfl, g, q _ _ Res.bl⟩)
      · exact .inl (.inr ⟨p, some v, rfl, g, q _ _ Res.bl⟩)
  cases y with
  | dk o ks ds => exact dk h
  | dt o ks ds => exact dk h
  | tup ds =>
    simp only [inDatA] at h
    cases h1 : toV x with
    | none => rw [h1] at h; cases h
    | some v =>
      cases h2 : toVs ds with
      | none => rw [h1, h2] at h; cases h
      | some vs =>
        rw [h1, h2] at h
        cases h
        obtain ⟨p, ws, rfl, h3, h4⟩ := hy
        have e1 := toV_vw hx h1
        have e2 := toVs_fz h4 h2
        subst e1
        subst e2
        exact .inr ⟨p, ws, rfl, .inr (SqT.of h3), toV_flat h1, toVs_flat h2, q _ _ Res.bl⟩
  | ptup ds =>
    simp only [inDatA] at h
    cases h1 : toV x with
    | none => rw [h1] at h; cases h
    | some v =>
      cases h2 : toVs ds with
      | none => rw [h1, h2] at h; cases h
      | some vs =>
        rw [h1, h2] at h
        cases h
        obtain ⟨p, ws, ob, rfl, h3, _, h4⟩ := hy
        have e1 := toV_vw hx h1
        have e2 := toVs_fz h4 h2
        subst e1
        subst e2
        exact .inr ⟨p, ws, rfl, .inr (.inl (.inr ⟨ob, h3⟩)), toV_flat h1, toVs_flat h2, q _ _ Res.bl⟩
  | _ => exact .inl (.inl (sp_in O H x _ a b (.bl c) Q ot hx hy (by show Option.map D.bl (inDat x _) = _; rw [show inDat x _ = some c from h]; rfl) q))
theorem sp_ninA {K : PySem.W.Frag} : Sp2 C (rNinAll K) dNinA := fun O H x y a b d Q ot hx hy e q => by
  unfold dNinA at e
  cases h : inDatA x y with
  | none => rw [h] at e; cases e
  | some c =>
  rw [h] at e
  cases e
  have dk : ∀ h' : (dLook y x).map (·.isSome) = some c, rNinAll K a b H Q := fun h' => by
    cases hl : dLook y x with
    | none => rw [hl] at h'; cases h'
    | some o =>
      rw [hl] at h'
      cases h'
      obtain ⟨p, rfl, hp⟩ := dLook_get hy hx hl
      rcases hp with ⟨rfl, g⟩ | ⟨d', v, rfl, g, _⟩
      · exact .inl (.inr ⟨p, none, rfl, g, q _ _ Res.bl⟩)
      · exact .inl (.inr ⟨p, some v, rfl, g, q _ _ Res.bl⟩)
  cases y with
  | dk o ks ds => exact dk h
  | dt o ks ds => exact dk h
  | tup ds =>
    simp only [inDatA] at h
    cases h1 : toV x with
    | none => rw [h1] at h; cases h
    | some v =>
      cases h2 : toVs ds with
      | none => rw [h1, h2] at h; cases h
      | some vs =>
        rw [h1, h2] at h
        cases h
        obtain ⟨p, ws, rfl, h3, h4⟩ := hy
        have e1 := toV_vw hx h1
        have e2 := toVs_fz h4 h2
        subst e1
        subst e2
        exact .inr ⟨p, ws, rfl, .inr (SqT.of h3), toV_flat h1, toVs_flat h2, q _ _ Res.bl⟩
  | ptup ds =>
    simp only [inDatA] at h
    cases h1 : toV x with
    | none => rw [h1] at h; cases h
    | some v =>
      cases h2 : toVs ds with
      | none => rw [h1, h2] at h; cases h
      | some vs =>
        rw [h1, h2] at h
        cases h
        obtain ⟨p, ws, ob, rfl, h3, _, h4⟩ := hy
        have e1 := toV_vw hx h1
        have e2 := toVs_fz h4 h2
        subst e1
        subst e2
        exact .inr ⟨p, ws, rfl, .inr (.inl (.inr ⟨ob, h3⟩)), toV_flat h1, toVs_flat h2, q _ _ Res.bl⟩
  | _ => exact .inl (.inl (sp_nin O H x _ a b (.bl (!c)) Q ot hx hy (by show (inDat x _).map (fun b => D.bl (!b)) = _; rw [show inDat x _ = some c from h]; rfl) q))
end

/-! ### displays -/
section
variable {W : Dx} {E : XK} {X : Cx} {es : List Expr} {ms : M (List Tk)} {pos : Pos}
/-- what operands hold, not owned -/
def tkVals : List Tk → Option (List D)
  | [] => some []
  | .v d :: ts => if isFz d = true then (tkVals ts).map (d :: ·) else none
  | .s _ :: _ => none
theorem tk_fzL {O H σ} : ∀ {ts : List Tk} {vs : List V} {ds : List D}, Paired (fun t v => TkR W t O H σ A0 v) ts vs → tkVals ts = some ds → FzL W.C O H ds vs
  | _, _, ds, .nil, e => by simp [tkVals] at e; subst e; exact fzL_nil
  | .v d :: ts, _, ds, .cons h q, e => by
    simp only [tkVals] at e
    split at e
    · cases h2 : tkVals ts with
      | none => rw [h2] at e; cases e
      | some ds' => rw [h2] at e; cases e; exact fzL_cons h.2 (tk_fzL q h2)
    · cases e
  | .s _ :: ts, _, ds, .cons h q, e => by simp [tkVals] at e
def dispM (g : List D → D) (ms : M (List Tk)) : M D := M.bind ms fun ts => fun ρ => match tkVals ts with
  | some ds => if ds.length ≤ 2 ^ 24 then .ok (g ds) ρ else .bad
  | none => .bad
theorem disp_rd {g : List D → D} {r : List V → HO} {R : VK → List V → Hp → Prop} (hR : ∀ Q vs H1, R Q vs H1 ↔ vs.length ≤ sizeLine ∧ ∀ p, H1 p = none → Q (.ref p) (upd H1 p (r vs)))
    (hg : ∀ O H p ds vs, OT O H → H p = none → FzL W.C O H ds vs → Res W.C O H (g ds) (.ref p) (upd H p (r vs))) {σ : L2.St} {H : Hp} {Q : VK} (h : dT W E (DR W) (dispM g ms) σ H Q) : dT W E (TksR W) ms σ H fun vs H1 => R Q vs H1 := by
  obtain ⟨B, Fs, ρ, r0, p⟩ := h
  refine ⟨B, Fs, ρ, r0, (Post.step (fun _ z => z) .refl p).mono fun vs H1 ⟨Fs1, F1, ts, ρ1, _, r1, ht, s1, f1, p1⟩ => ?_⟩
  cases gx : tkVals ts with
  | none => simp only [gx] at p1; exact p1.elim
  | some ds =>
    simp only [gx] at p1
    split at p1
    · have fz := tk_fzL ht.2 gx
      refine (hR Q vs H1).mpr ⟨by rw [fz.length, sz24]; assumption, fun q hq => ?_⟩
      exact Post.res (fun a z => .inl z) s1 r1 (hg _ H1 q ds vs r1.ot hq fz) p1
    · exact p1.elim
theorem de_tup {k : Nat} (h : DA W E X es ms) : DE W E X (.Tuple es k pos) (dispM .tup ms) :=
  mnE (pe_tup h) fun σ H Q q => disp_rd (r := .tup) (R := fun Q xs H1 => xs.length ≤ sizeLine ∧ ∀ p, H1 p = none → Q (.ref p) (upd H1 p (.tup xs))) (fun _ _ _ => Iff.rfl) (fun O H p ds vs ot hp fz => Res.tup hp fz (ot.new hp)) q
theorem de_lst (h : DA W E X es ms) : DE W E X (.List es pos) (dispM (.lst true) ms) :=
  mnE (pe_lst h) fun σ H Q q => disp_rd (r := .lst) (R := fun Q xs H1 => xs.length ≤ sizeLine ∧ ∀ p, H1 p = none → Q (.ref p) (upd H1 p (.lst xs))) (fun _ _ _ => Iff.rfl) (fun O H p ds vs ot hp fz => Res.lst hp fz) q
theorem de_dictK : DE W E X (.Dict [] [] pos) (M.pure (.dk true [] [])) := mnE pe_dnewK fun σ H Q ⟨B, Fs, ρ, r, p⟩ => fun q hq =>
  Post.res (fun a z => z) .refl r (Res.dk (kvs := []) hq rfl fzL_nil) p
/-! ### attributes read -/
def getF : List Str → List D → Str → Option D
  | n :: ns, d :: ds, f => if (f == n) = true then some d else getF ns ds f
  | _, _, _ => none
theorem getF_lookup {C : CN} {O : AS} {H : Hp} {f : Str} : ∀ {G : AS} {fs : List (Str × V)} {ns : List Str} {ds : List D} {d : D}, fs.map (·.1) = ns → OwL C O H G ds (fs.map (·.2)) → getF ns ds f = some d → ∃ v, fs.lookup f = some v ∧ ∃ G', (∀ b, G' b → G b) ∧ Ow C O H G' d v
  | G, [], ns, ds, d, h1, h2, e => by
    subst h1
    simp [getF] at e
  | G, p :: r, ns, ds, d, h1, h2, e => by
    subst h1
    cases ds with
    | nil => simp [getF] at e
    | cons d0 ds =>
      unfold OwL at h2
      obtain ⟨v, r', F1, F2, e1, k1, k2, k3, k4⟩ := h2
      simp only [List.map_cons, List.cons.injEq] at e1
      obtain ⟨e1, e2⟩ := e1
      simp only [List.map_cons, getF] at e
      obtain ⟨n, w⟩ := p
      rw [List.lookup_cons]
      split at e
      · rename_i hf
        have hf' : (f == n) = true := hf
        cases e
        rw [hf']
        exact ⟨w, rfl, F1, fun b hb => (k1 b hb).1, by rw [show w = v from e1]; exact k3⟩
      · rename_i hf
        have hf' : (f == n) = false := by simpa using hf
        rw [hf']
        obtain ⟨v', h3, G', h4, h5⟩ := getF_lookup (fs := r) rfl (by rw [e2]; exact k4) e
        exact ⟨v', h3, G', fun b hb => k2 b (h4 b hb), h5⟩
/-- an operand, whatever it owns -/
def Tk.raw (ρ : Rho) : Tk → Option D
  | .v d => some d
  | .s i => (ρ[i]?).join
def fldD (c : Nat) (f : Str) : D → Option D
  | .ins _ c' ns ds => if c' = c then match getF ns ds f with
    | some d => if isFz d = true then some d else none
    | none => none
    else none
  | _ => none
def fldM (c : Nat) (f : Str) (mo : M Tk) : M D := M.bind mo fun t => fun ρ => match t.raw ρ with
  | some d => M.opt (fldD c f d) ρ
  | none => .bad
theorem raw_ow {B Fs σ H ρ F} {t : Tk} {v : V} {d : D} (h : TkR W t (OO B Fs) H σ F v) (r : Rel W B Fs σ H ρ) (e : t.raw ρ = some d) : ∃ G, Ow W.C (OO B Fs) H G d v := by
  cases t with
  | v d' => cases e; exact ⟨A0, h.2⟩
  | s i =>
    have h2 : σ[i]? = some (some v) := h.2
    cases he : ρ[i]? with
    | none => simp [Tk.raw, he] at e
    | some o =>
      simp only [Tk.raw, he, Option.join_some] at e
      subst e
      obtain ⟨v', e1, e2⟩ := r.sl i _ he
      rw [h2] at e1
      cases e1
      exact ⟨_, e2⟩
theorem de_fld {c : Nat} {f : Str} {e : Expr} {mo : M Tk} (ho : DK W E X e mo) (hc : Cls X.K (W.C.c c)) (hn : NoAttr X.K (W.C.c c) f) (hb : attributeBase e f X.env (eval e X.env) = eval e X.env := by rfl) : DE W E X (.Attribute e f pos) (fldM c f mo) :=
  mnE (pe_fld ho hb) fun σ H Q h => by
    obtain ⟨B, Fs, ρ, r0, p⟩ := h
    refine ⟨B, Fs, ρ, r0, (Post.step (fun _ z => z) .refl p).mono fun x H1 ⟨Fs1, F1, t, ρ1, _, r1, ht, s1, f1, p1⟩ => ?_⟩
    cases gx : t.raw ρ1 with
    | none => simp only [gx] at p1; exact p1.elim
    | some d =>
      simp only [gx] at p1
      cases hd : fldD c f d with
      | none => rw [hd] at p1; exact p1.elim
      | some d' =>
        rw [hd] at p1
        obtain ⟨G, ow⟩ := raw_ow ht r1 gx
        cases d <;> simp only [fldD] at hd <;> try (cases hd; done)
        rename_i o c' ns ds
        split at hd
        · rename_i hcc
          subst hcc
          unfold Ow at ow
          obtain ⟨a, dx, fs, G1, q1, q2, q3, q4, q5, q6⟩ := ow
          cases hg : getF ns ds f with
          | none => rw [hg] at hd; cases hd
          | some d2 =>
            rw [hg] at hd
            simp only at hd
            split at hd
            · cases hd
              obtain ⟨v, h1, G', _, h2⟩ := getF_lookup q5 q6 hg
              exact ⟨a, _, dx, fs, v, q1, q2, hc, hn, h1, Post.res (fun a z => .inl z) s1 r1 (Res.same (Ow.isFz _ _ (by assumption) h2)) p1⟩
            · cases hd
        · cases hd
end
end DL
end

section
set_option Elab.async false
set_option linter.all false
set_option maxRecDepth 100000
set_option maxHeartbeats 2000000
/-! D13: what is owned is written. -/
namespace DL
open PySem PySem.Spec PyProof.Rows L2

def putD {κ : Type} [DecidableEq κ] (ks : List κ) (ds : List D) (k : κ) (e : D) : List κ × List D :=
  if ks.any (fun j => decide (j = k)) = true then (ks, List.zipWith (fun j d => if j = k then e else d) ks ds) else (ks ++ [k], ds ++ [e])
section
variable {C : CN} {O : AS} {H : Hp}
theorem fzL_put {κ : Type} [DecidableEq κ] {ks : List κ} {kvs : List (κ × V)} {ds : List D} {k : κ} {e : D} {v : V} (hk : kvs.map (·.1) = ks) (h : FzL C O H ds (kvs.map (·.2))) (he : Fz C O H e v) :
    (putK kvs k v).map (·.1) = (putD ks ds k e).1 ∧ FzL C O H (putD ks ds k e).2 ((putK kvs k v).map (·.2)) := by
  have ha : (kvs.any fun kv => decide (kv.1 = k)) = ks.any fun j => decide (j = k) := by rw [← hk, List.any_map]; rfl
  unfold putK putD
  rw [← ha]
  by_cases hb : (kvs.any fun kv => decide (kv.1 = k)) = true
  · rw [if_pos hb, if_pos hb]
    have key : ∀ {kvs : List (κ × V)} {ks : List κ} {ds : List D}, kvs.map (·.1) = ks → FzL C O H ds (kvs.map (·.2)) → (kvs.map fun kv => if kv.1 = k then (kv.1, v) else kv).map (·.1) = ks ∧ FzL C O H (List.zipWith (fun j d => if j = k then e else d) ks ds) ((kvs.map fun kv => if kv.1 = k then (kv.1, v) else kv).map (·.2)) := fun {kvs} => by
      induction kvs with
      | nil => intro ks ds h1 h2; subst h1; exact ⟨rfl, by simp; exact fzL_nil⟩
      | cons p r ih =>
        intro ks ds h1 h2
        subst h1
        cases ds with
        | nil => unfold OwL at h2; cases h2
        | cons d ds =>
          obtain ⟨w, r', e1, h3, h4⟩ := fzL_inv h2
          simp only [List.map_cons, List.cons.injEq] at e1
          obtain ⟨i1, i2⟩ := ih (ks := r.map (·.1)) (ds := ds) rfl (by rw [e1.2]; exact h4)
          refine ⟨?_, ?_⟩
          · simp only [List.map_cons]
            rw [i1]
            congr 1
            split <;> rfl
          · simp only [List.map_cons, List.zipWith_cons_cons]
            refine fzL_cons ?_ i2
            by_cases hp : p.1 = k
            · rw [if_pos hp, if_pos hp]; exact he
            · rw [if_neg hp, if_neg hp, e1.1]; exact h3
    exact key hk h
  · rw [if_neg hb, if_neg hb]
    exact ⟨by simp [hk], by rw [List.map_append]; exact fzL_app h (fzL_cons he fzL_nil)⟩
end
/-- x[k] = e, by data (x is owned) -/
def dPut (x k e : D) : Option D := match x with
  | .lst true ds => match k with
    | .int i => if isFzL ds = true then (ixN ds.length i).map fun j => .lst true (ds.set j e) else none
    | _ => none
  | .dk true ks ds => if isFzL ds = true ∧ ks.length < 2 ^ 24 then (toKey k).map fun k => .dk true (putD ks ds k e).1 (putD ks ds k e).2 else none
  | .dt true ks ds => match k with
    | .tup es => if isFzL ds = true ∧ ks.length < 2 ^ 24 then (toKeys es).map fun k => .dt true (putD ks ds k e).1 (putD ks ds k e).2 else none
    | _ => none
  | _ => none
def rSetA : V → V → V → Hp → (Hp → Prop) → Prop := fun o i v H Q => rSetL o i v H Q ∨ ∃ a H', o = .ref a ∧ DPut H a i v H' ∧ Q H'
section
variable {C : CN} {X : Cx}
theorem set_all (hu : X.A.units + 1 < cLine) : PSet X rSetA := by
  intro pins s σ H o i v ov iv u Q I ro ri rv h
  rcases h with h | ⟨a, H', rfl, g, q⟩
  · exact set_list pins s σ H o i v ov iv u Q I ro ri rv h
  · cases ro
    exact d_setItem hu I g ri rv fun s4 I4 => ⟨H', I4, q⟩
/-- new content of an owned node at a -/
def NewAt (C : CN) (O : AS) (H : Hp) (a : Addr) (d : D) (o : HO) : Prop := nT o ∧ (∃ u, H a = some u ∧ ¬ Fx u) ∧ ∀ F : AS, F a → (∀ b, F b → O b) → Ow C O (upd H a o) F d (.ref a)
theorem fzL_upd {O : AS} {H : Hp} {a : Addr} {o : HO} {ds : List D} {vs : List V} (ha : O a) (h : FzL C O H ds vs) : FzL C O (upd H a o) ds vs :=
  OwL.stay (W := fun b => b = a) ⟨fun b u e n _ => .inl (by rw [upd_ne n]; exact e), fun _ z => z.elim, fun b z => by rw [show b = a from z]; exact ha, fun b z => .inl z, fun _ z => z.elim⟩ ds vs h
theorem setFz : ∀ {O : AS} {H : Hp} {ds : List D} {vs : List V} {j : Nat} {e : D} {v : V}, FzL C O H ds vs → Fz C O H e v → FzL C O H (ds.set j e) (vs.set j v)
  | O, H, [], vs, j, e, v, h, he => by unfold OwL at h; subst h; simp; exact fzL_nil
  | O, H, d :: ds, vs, j, e, v, h, he => by
    obtain ⟨w, r, rfl, h1, h2⟩ := fzL_inv h
    cases j with
    | zero => exact fzL_cons he h2
    | succ j => exact fzL_cons h1 (setFz h2 he)
/-- the store to an owned node, by values -/
theorem put_at {O : AS} {H : Hp} {F : AS} {x k e x' : D} {a v : V} {y : V} {Q : Hp → Prop} (hx : Ow C O H F x a) (hF : ∀ b, F b → O b) (hk : Vw C O H k y) (he : Fz C O H e v) (h : dPut x k e = some x') (q : ∀ p o, a = .ref p → F p → NewAt C O H p x' o → Q (upd H p o)) : rSetA a y v H Q := by
  cases x with
  | lst o ds =>
    cases o with
    | false => cases h
    | true =>
      simp only [dPut] at h
      cases k <;> simp only at h <;> try (cases h; done)
      rename_i i
      split at h
      · rename_i hz
        cases hj : ixN ds.length i with
        | none => rw [hj] at h; cases h
        | some j =>
          rw [hj] at h
          cases h
          unfold Ow at hx
          obtain ⟨p, vs, G, rfl, h1, h2, h3, h4⟩ := hx
          have fk := OwL.isFz _ _ hz h4
          refine .inl ⟨p, vs, i, j, rfl, hk, h1, by rw [fk.length]; exact hj, q p _ rfl h2.2 ⟨True.intro, ⟨_, h1, fun z => z⟩, fun F' ha hO => ?_⟩⟩
          unfold Ow
          exact ⟨p, vs.set j v, A0, rfl, upd_same, ⟨hO p ha, ha⟩, ⟨fun _ z => z.elim, fun z => z⟩, fzL_upd (hO p ha) (setFz fk he)⟩
      · cases h
  | dk o ks ds =>
    cases o with
    | false => cases h
    | true =>
      simp only [dPut] at h
      split at h
      · rename_i hz
        cases hj : toKey k with
        | none => rw [hj] at h; cases h
        | some key =>
          rw [hj] at h
          cases h
          unfold Ow at hx
          obtain ⟨p, kvs, G, rfl, h1, h2, h3, h4, h5⟩ := hx
          have fk := OwL.isFz _ _ hz.1 h5
          have h1' : H p = some (.dK kvs) := h1
          obtain ⟨n1, n2⟩ := fzL_put (k := key) (v := v) h4 fk he
          refine .inr ⟨p, _, rfl, .inl ⟨kvs, key, h1', toKey_v hk hj, by rw [← List.length_map (f := (·.1)), h4, sz24]; exact hz.2, rfl⟩, q p _ rfl h2.2 ⟨True.intro, ⟨_, h1', fun z => z⟩, fun F' ha hO => ?_⟩⟩
          unfold Ow
          exact ⟨p, putK kvs key v, A0, rfl, upd_same, ⟨hO p ha, ha⟩, ⟨fun _ z => z.elim, fun z => z⟩, n1, fzL_upd (hO p ha) n2⟩
      · cases h
  | dt o ks ds =>
    cases o with
    | false => cases h
    | true =>
      simp only [dPut] at h
      cases k <;> simp only at h <;> try (cases h; done)
      rename_i es
      split at h
      · rename_i hz
        cases hj : toKeys es with
        | none => rw [hj] at h; cases h
        | some key =>
          rw [hj] at h
          cases h
          unfold Ow at hx
          obtain ⟨p, kvs, G, rfl, h1, h2, h3, h4, h5⟩ := hx
          have fk := OwL.isFz _ _ hz.1 h5
          have h1' : H p = some (.dT kvs) := h1
          obtain ⟨n1, n2⟩ := fzL_put (k := key) (v := v) h4 fk he
          obtain ⟨q', vs, rfl, h6, h7⟩ := hk
          refine .inr ⟨p, _, rfl, .inr ⟨kvs, key, q', h1', rfl, by rw [h6, toKeys_v h7 hj], by rw [← List.length_map (f := (·.1)), h4, sz24]; exact hz.2, rfl⟩, q p _ rfl h2.2 ⟨True.intro, ⟨_, h1', fun z => z⟩, fun F' ha hO => ?_⟩⟩
          unfold Ow
          exact ⟨p, putK kvs key v, A0, rfl, upd_same, ⟨hO p ha, ha⟩, ⟨fun _ z => z.elim, fun z => z⟩, n1, fzL_upd (hO p ha) n2⟩
      · cases h
  | _ => cases h
end
section
variable {W : Dx} {E : XK} {X : Cx}
/-- a slot's node is written -/
theorem Rel.updS {B Fs σ H ρ i d' a o} (r : Rel W B Fs σ H ρ) (hs : σ[i]? = some (some (.ref a))) (hi : i < ρ.length) (ha : Fs i a) (n : NewAt W.C (OO B Fs) H a d' o) : Rel W B Fs σ (upd H a o) (ρ.set i (some d')) ∧ Stp B Fs Fs H (upd H a o) := by
  obtain ⟨ht, ⟨u, hu, hf⟩, hn⟩ := n
  have ob : ∀ b, Ob H b → Ob (upd H a o) b := fun b ⟨v, e, n⟩ => by
    by_cases hb : b = a
    · rw [hb]; exact ⟨o, upd_same, ht⟩
    · exact ⟨v, by rw [upd_ne hb]; exact e, n⟩
  refine ⟨⟨fun b hb => ob b (r.bd b hb), fun j b hb => ⟨ob b (r.fd j b hb).1, (r.fd j b hb).2⟩, r.dj, fun j d e => ?_, r.pin, by rw [List.length_set]; exact r.len, W.T.st r.tb fun b v e f => ?_⟩, ⟨fun b v e n _ => .inl ?_, fun b hb => upd_ne fun z => (r.fd i a ha).2 (by rw [← z]; exact hb), fun _ _ z => .inl z, fun b hb => ?_⟩⟩
  · by_cases hj : j = i
    · subst hj
      rw [List.getElem?_set_self hi] at e
      cases e
      exact ⟨.ref a, hs, hn (Fs j) ha fun b hb => .inr ⟨j, hb⟩⟩
    · rw [List.getElem?_set_ne (Ne.symm hj)] at e
      obtain ⟨v, e1, e2⟩ := r.sl j d e
      refine ⟨v, e1, Ow.stay (W := fun b => b = a) ⟨fun b v e n _ => .inl (by rw [upd_ne n]; exact e), fun b hb => upd_ne fun z => hj (r.dj j i a (by rw [← z]; exact hb) ha), fun b z => by rw [show b = a from z]; exact .inr ⟨i, ha⟩, fun b z => .inl z, fun b z => .inr ⟨j, z⟩⟩ d v e2⟩
  · rw [upd_ne fun z => hf (by rw [z, hu] at e; rw [Option.some.inj e]; exact f)]
    exact e
  · rw [upd_ne fun z => n ⟨i, by rw [z]; exact ha⟩]; exact e
  · by_cases z : b = a
    · rw [z, upd_same]; simp
    · rw [upd_ne z]; exact hb
def putIx (mo mk : M Tk) (mv : M D) : M Fl := M.bind mv fun d => M.bind mo fun t => M.bind mk fun tk => fun ρ => match t with
  | .s i => match ρ[i]?, tk.get ρ with
    | some (some x), some k => match dPut x k (fz d) with
      | some x' => .ok .nx (ρ.set i (some x'))
      | none => .bad
    | _, _ => .bad
  | .v _ => .bad
/-- a statement's rest behind one more evaluation -/
theorem PostS.step {α β : Type} {R : RR α β} {B B1 : AS} {Fs Fs1 : Nat → AS} {σ : L2.St} {H H1 : Hp} {m : M α} {f : α → M Fl} {ρ1 : Rho} {D : Ends} (hB : ∀ a, B a → B1 a) (st : Stp B Fs Fs1 H H1) (h : PostS W E B Fs H (M.bind m f ρ1) D) :
    Post W E R B1 Fs1 σ H1 (m ρ1) fun x H2 => ∃ Fs2 F2 a ρ2, m ρ1 = .ok a ρ2 ∧ Rel W (U B1 F2) Fs2 σ H2 ρ2 ∧ R a (OO (U B1 F2) Fs2) H2 σ F2 x ∧ Stp B1 Fs1 Fs2 H1 H2 ∧ Fr F2 H1 ∧ PostS W E B Fs H (f a ρ2) D := by
  unfold M.bind at h
  cases hm : m ρ1 with
  | ok a ρ2 => rw [hm] at h; exact fun x H2 Fs2 F2 r hr s fr => ⟨Fs2, F2, a, ρ2, rfl, r, hr, s, fr, h⟩
  | exc c ρ2 => rw [hm] at h; exact fun H2 Fs2 r s => (show PostS W E B Fs H (.exc c ρ2) D from h) H2 Fs2 _ (r.weak hB) (st.trans (s.weak hB))
  | bad => rw [hm] at h; exact h.elim
theorem ds_put {o i e : Expr} {mo mk : M Tk} {mv : M D} {pos pos' : Pos} (hu : X.A.units + 1 < cLine) (ho : DK W E X o mo) (hi : DK W E X i mk) (he : DE W E X e mv)
    (ha : ∀ v, assign (.Subscript o i pos') X.env v = (do
      let ov ← holding [v] (eval o X.env)
      let iv ← holding [v, ov] (eval i X.env)
      standAt pos'
      holding [v, ov, iv] (setItem ov iv v)
      release [v, ov, iv] []) := by intro _; rfl)
    (hs : swapsWithSole [.Subscript o i pos'] e pos.line X.env = Pure.pure false := by rfl) (hw : swappedStores [.Subscript o i pos'] e X.env = Pure.pure none := by rfl)
    (h1 : (assignEach [.Subscript o i pos'] X.env).map (·.2) = [assign (.Subscript o i pos') X.env] := by rfl) : DS W E X (.Assign [.Subscript o i pos'] e pos) (putIx mo mk mv) :=
  mnS (ps_asg he (pg_sub ho hi (set_all hu) ha) hs hw h1) fun D σ H h => by
    obtain ⟨B, Fs, ρ, r, p⟩ := h
    refine ⟨B, Fs, ρ, r, (PostS.step (R := DR W) (fun _ z => z) .refl p).mono fun v H1 ⟨Fs1, F1, d, ρ1, _, r1, ow, s1, f1, p1⟩ => ?_⟩
    have r1' := r1.drop
    have hz := tmp_fz r1 ow fun b hb z => (r.bd b z).ne (f1 b hb)
    refine ⟨B, Fs1, ρ1, r1', (PostS.step (R := TkR W) (fun _ z => z) s1 p1).mono fun ov H2 ⟨Fs2, F2, t, ρ2, _, r2, ht, s2, f2, p2⟩ => ?_⟩
    have e2 : U B F2 = B := u0 ht.1
    rw [e2] at r2 ht
    refine ⟨B, Fs2, ρ2, r2, (PostS.step (R := TkR W) (fun _ z => z) (s1.trans s2) p2).mono fun iv H3 ⟨Fs3, F3, tk, ρ3, _, r3, hk, s3, f3, p3⟩ => ?_⟩
    have e3 : U B F3 = B := u0 hk.1
    rw [e3] at r3 hk
    cases t with
    | v _ => exact p3.elim
    | s i' =>
      simp only at p3
      cases hx : ρ3[i']? with
      | none => simp only [hx] at p3; exact p3.elim
      | some ox =>
        cases ox with
        | none => simp only [hx] at p3; exact p3.elim
        | some x =>
          cases hkk : tk.get ρ3 with
          | none => simp only [hx, hkk] at p3; exact p3.elim
          | some k =>
            simp only [hx, hkk] at p3
            cases hp : dPut x k (fz d) with
            | none => simp only [hp] at p3; exact p3.elim
            | some x' =>
              simp only [hp] at p3
              obtain ⟨v', q1, q2⟩ := r3.sl i' x hx
              have hov : σ[i']? = some (some ov) := ht.2
              rw [hov] at q1
              cases q1
              have hil : i' < ρ3.length := (List.getElem?_eq_some_iff.mp hx).1
              have hz3 : Fz W.C (OO B Fs3) H3 (fz d) v := fz_stp s3 (fz_stp s2 hz)
              refine put_at q2 (fun b hb => .inr ⟨i', hb⟩) (hk.get r3 hkk) hz3 hp fun a o ea hF nw => ?_
              subst ea
              obtain ⟨r4, s4⟩ := r3.updS hov hil hF nw
              exact p3 σ _ Fs3 r4 (((s1.trans s2).trans s3).trans s4)
end
end DL
end

section
set_option Elab.async false
set_option linter.all false
set_option maxRecDepth 100000
set_option maxHeartbeats 2000000
/-! D14: methods that write, += and the attributes of an object in the making. -/
namespace DL
open PySem PySem.Spec PyProof.Rows L2

section
variable {W : Dx} {E : XK} {X : Cx}
def SpW (C : CN) (r : V → List V → Hp → VK → Prop) (g : D → List D → Option (D × D)) : Prop := ∀ (O : AS) (H : Hp) (F : AS) (x : D) (a : V) (ds : List D) (vs : List V) (x' d : D) (Q : VK), Ow C O H F x a → (∀ b, F b → O b) → OT O H → FzL C O H ds vs → g x ds = some (x', d) →
  (∀ p o v, a = .ref p → F p → NewAt C O H p x' o → Fz C O (upd H p o) d v → Q v (upd H p o)) → r a vs H Q
def tyRaw (T : String) (t : Tk) : M Unit := fun ρ => match t.raw ρ with
  | some d => if TyD T d = true then .ok () ρ else .bad
  | none => .bad
def mutM (T : String) (g : D → List D → Option (D × D)) (mo : M Tk) (m : M (List Tk)) : M D := M.bind mo fun t => M.bind (tyRaw T t) fun _ => M.bind m fun ts => fun ρ => match t, tkVals ts with
  | .s i, some ds => match ρ[i]? with
    | some (some x) => match g x ds with
      | some (x', d) => .ok d (ρ.set i (some x'))
      | none => .bad
    | _ => .bad
  | _, _ => .bad
theorem tyD_ow {K : PySem.W.Frag} {C O H F} {T : String} {d : D} {v : V} (h : Ow C O H F d v) (t : TyD T d = true) : tyV K T v H := by
  cases d with
  | str x =>
    unfold Ow at h
    subst h
    have ht : T = "str" := by simpa [TyD] using t
    subst ht
    rfl
  | lst o ds =>
    unfold Ow at h
    obtain ⟨a, vs, G, rfl, h2, _⟩ := h
    have ht : T = "list" := by simpa [TyD] using t
    subst ht
    exact .inl ⟨rfl, vs, .inl (.inl h2)⟩
  | _ => cases t
theorem mutM_rd {T : String} {r : V → List V → Hp → VK → Prop} {g : D → List D → Option (D × D)} (hr : SpW W.C r g) {mo : M Tk} {m : M (List Tk)} {σ : L2.St} {H : Hp} {Q : VK} (h : dT W E (DR W) (mutM T g mo m) σ H Q) :
    dT W E (TkR W) mo σ H fun x H1 => tyV X.K T x H1 ∧ dT W E (TksR W) m σ H1 fun vs H2 => r x vs H2 Q := by
  obtain ⟨B, Fs, ρ, r0, p⟩ := h
  refine ⟨B, Fs, ρ, r0, (Post.step (fun _ z => z) .refl p).mono fun x H1 ⟨Fs1, F1, t, ρ1, _, r1, ht, s1, f1, p1⟩ => ?_⟩
  have e1 : U B F1 = B := u0 ht.1
  rw [e1] at r1 ht
  cases gx : t.raw ρ1 with
  | none => simp only [M.bind, tyRaw, gx] at p1; exact p1.elim
  | some d0 =>
    by_cases hT : TyD T d0 = true
    · obtain ⟨G0, ow0⟩ := raw_ow ht r1 gx
      refine ⟨tyD_ow ow0 hT, B, Fs1, ρ1, r1, ?_⟩
      simp only [M.bind, tyRaw, gx, hT, if_true] at p1
      refine (Post.step (f := fun ts ρ => match t, tkVals ts with
        | .s i, some ds => match ρ[i]? with
          | some (some x) => match g x ds with
            | some (x', d) => .ok d (ρ.set i (some x'))
            | none => .bad
          | _ => .bad
        | _, _ => .bad) (fun _ z => z) s1 p1).mono fun vs H2 ⟨Fs2, F2, ts, ρ2, _, r2, hts, s2, f2, p2⟩ => ?_
      have e2 : U B F2 = B := u0 hts.1
      rw [e2] at r2 hts
      cases t with
      | v _ => exact p2.elim
      | s i =>
        cases hv : tkVals ts with
        | none => simp only [hv] at p2; exact p2.elim
        | some ds =>
          cases hx : ρ2[i]? with
          | none => simp only [hv, hx] at p2; exact p2.elim
          | some ox =>
            cases ox with
            | none => simp only [hv, hx] at p2; exact p2.elim
            | some xd =>
              simp only [hv, hx] at p2
              cases hg : g xd ds with
              | none => simp only [hg] at p2; exact p2.elim
              | some q =>
                obtain ⟨x', d⟩ := q
                simp only [hg] at p2
                obtain ⟨v', q1, q2⟩ := r2.sl i xd hx
                have hov : σ[i]? = some (some x) := ht.2
                rw [hov] at q1
                cases q1
                have hil : i < ρ2.length := (List.getElem?_eq_some_iff.mp hx).1
                refine hr _ H2 _ xd x ds vs x' d Q q2 (fun b hb => .inr ⟨i, hb⟩) r2.ot (tk_fzL hts.2 hv) hg fun a o v ea hF nw fz => ?_
                subst ea
                obtain ⟨r4, s4⟩ := r2.updS hov hil hF nw
                exact p2 v _ Fs2 A0 (r4.u0 fun _ z => z) (by rw [u0 (F := A0) fun _ z => z]; exact fz) ((s1.trans s2).trans s4) fun _ z => z.elim
    · simp only [M.bind, tyRaw, gx, hT, if_false] at p1
      exact p1.elim
theorem de_mut {T id : String} {name : Str} {r : V → List V → Hp → VK → Prop} {g : D → List D → Option (D × D)} {o e : Expr} {es : List Expr} {mo : M Tk} {m : M (List Tk)} {apos cpos : Pos} (pa : PlainAttrs T) (slot : Slot T name id) (hty : typeOf (.builtin id) = pure (.type "method_descriptor")) (hm : MtR X id r) (hr : SpW W.C r g)
    (ho : DK W E X o mo) (ha : DA W E X (e :: es) m)
    (hbase : attributeBase o name X.env (eval o X.env) = eval o X.env := by rfl)
    (hfew : ((backTo cpos (starEach (e :: es) X.env)).all (fun x => !x.1) && (backToKw cpos (keywordEach [] X.env)).all (fun x => x.1.isSome)
      && decide ((e :: es).length + ([] : List Keyword).length + (if ([] : List Keyword).isEmpty then 0 else 1) < 30)) = true := by rfl)
    (hline : (apos.endLine == cpos.line) = true := by rfl) (hs : starEach (e :: es) X.env = (false, eval e X.env) :: starEach es X.env := by rfl) (hplain : (backTo cpos (starEach es X.env)).any (·.1) = false := by rfl) :
    DE W E X (.Call (.Attribute o name apos) (e :: es) [] cpos) (mutM T g mo m) := mnE (pe_bm pa slot hty hm ho ha hbase hfew hline hs hplain) fun σ H Q h => mutM_rd hr h
theorem de_mut0 {T id : String} {name : Str} {r : V → List V → Hp → VK → Prop} {g : D → List D → Option (D × D)} {o : Expr} {mo : M Tk} {apos cpos : Pos} (pa : PlainAttrs T) (slot : Slot T name id) (hty : typeOf (.builtin id) = pure (.type "method_descriptor")) (hm : MtR X id r) (hr : SpW W.C r g)
    (ho : DK W E X o mo) (hbase : attributeBase o name X.env (eval o X.env) = eval o X.env := by rfl) (hline : (apos.endLine == cpos.line) = true := by rfl) :
    DE W E X (.Call (.Attribute o name apos) [] [] cpos) (mutM T g mo argK0) := mnE (pe_bm0 pa slot hty hm ho hbase hline) fun σ H Q h => by
  obtain ⟨B, Fs, ρ, r0, p⟩ := mutM_rd (X := X) hr h
  exact ⟨B, Fs, ρ, r0, p.mono fun x H1 ⟨h1, B1, Fs1, ρ1, r1, p1⟩ => ⟨h1, Post.pure (R := TksR W) r1 ⟨fun _ z => z, .nil⟩ p1⟩⟩
def gApp : D → List D → Option (D × D)
  | .lst true xs, [e] => if isFzL xs = true ∧ xs.length < 2 ^ 24 then some (.lst true (xs ++ [e]), .non) else none
  | _, _ => none
theorem sp_app {C : CN} : SpW C rAppend gApp := fun O H F x a ds vs x' d Q hx hF ot hd hg q => by
  cases x with
  | lst o xs =>
    cases o with
    | false => cases hg
    | true =>
      cases ds with
      | nil => cases hg
      | cons e ds =>
        cases ds with
        | cons _ _ => cases hg
        | nil =>
          simp only [gApp] at hg
          split at hg
          · rename_i hz
            cases hg
            unfold Ow at hx
            obtain ⟨p, ws, G, rfl, h1, h2, h3, h4⟩ := hx
            have fk := OwL.isFz _ _ hz.1 h4
            obtain ⟨v, r, rfl, h5, h6⟩ := fzL_inv hd
            have : r = [] := by unfold OwL at h6; exact h6
            subst this
            refine ⟨p, ws, v, rfl, rfl, h1, by rw [fk.length, sz24]; exact hz.2, q p _ _ rfl h2.2 ⟨True.intro, ⟨_, h1, fun z => z⟩, fun F' ha hO => ?_⟩ (by unfold Ow; rfl)⟩
            unfold Ow
            exact ⟨p, ws ++ [v], A0, rfl, upd_same, ⟨hO p ha, ha⟩, ⟨fun _ z => z.elim, fun z => z⟩, fzL_upd (hO p ha) (fzL_app fk (fzL_cons h5 fzL_nil))⟩
          · cases hg
  | _ => cases hg
def gPop : D → List D → Option (D × D)
  | .lst true xs, [] => if isFzL xs = true then (xs[xs.length - 1]?).map fun e => (.lst true xs.dropLast, e) else none
  | _, _ => none
theorem fzL_dropLast {C : CN} {O : AS} {H : Hp} {ds : List D} {vs : List V} (h : FzL C O H ds vs) : FzL C O H ds.dropLast vs.dropLast := by
  rw [List.dropLast_eq_take, List.dropLast_eq_take, h.length]
  exact fzL_take _ h
theorem fz_upd {C : CN} {O : AS} {H : Hp} {a : Addr} {o : HO} {d : D} {v : V} (ha : O a) (h : Fz C O H d v) : Fz C O (upd H a o) d v :=
  Ow.stay (W := fun b => b = a) ⟨fun b u e n _ => .inl (by rw [upd_ne n]; exact e), fun _ z => z.elim, fun b z => by rw [show b = a from z]; exact ha, fun b z => .inl z, fun _ z => z.elim⟩ d v h
theorem sp_pop {C : CN} : SpW C rPop gPop := fun O H F x a ds vs x' d Q hx hF ot hd hg q => by
  cases x with
  | lst o xs =>
    cases o with
    | false => cases hg
    | true =>
      cases ds with
      | cons _ _ => cases hg
      | nil =>
        simp only [gPop] at hg
        split at hg
        · rename_i hz
          cases he : xs[xs.length - 1]? with
          | none => rw [he] at hg; cases hg
          | some e =>
            rw [he] at hg
            cases hg
            unfold Ow at hx
            obtain ⟨p, ws, G, rfl, h1, h2, h3, h4⟩ := hx
            have fk := OwL.isFz _ _ hz h4
            obtain ⟨v, e1, e2⟩ := fzL_kids_get fk he
            have : vs = [] := by unfold OwL at hd; exact hd
            subst this
            refine ⟨p, ws, v, rfl, rfl, h1, by rw [fk.length]; exact e1, q p _ _ rfl h2.2 ⟨True.intro, ⟨_, h1, fun z => z⟩, fun F' ha hO => ?_⟩ (fz_upd (hF p h2.2) e2)⟩
            unfold Ow
            exact ⟨p, ws.dropLast, A0, rfl, upd_same, ⟨hO p ha, ha⟩, ⟨fun _ z => z.elim, fun z => z⟩, fzL_upd (hO p ha) (fzL_dropLast fk)⟩
        · cases hg
  | _ => cases hg
/-! ### += -/
/-- name += e: a number, a text; a list in its place -/
def augS (i : Nat) (mo : M Tk) : M Fl := M.bind (nameK i) fun _ => M.bind mo fun t => fun ρ => match ρ[i]?, t.get ρ with
  | some (some (.lst true xs)), some (.lst _ ys) => if isFzL xs = true ∧ xs.length + ys.length ≤ 2 ^ 24 then .ok .nx (ρ.set i (some (.lst true (xs ++ ys)))) else .bad
  | some (some (.int a)), some (.int b) => .ok .nx (ρ.set i (some (.int (a + b))))
  | some (some (.str a)), some (.str b) => if a.length + b.length ≤ 2 ^ 24 then .ok .nx (ρ.set i (some (.str (a ++ b)))) else .bad
  | _, _ => .bad
def rAug : R2 := fun x y H Q => ((rI0 fun i j => .int (i + j)) x y H Q ∨ (fun x y H Q => ∃ i j, x = .str i ∧ y = .str j ∧ i.length + j.length ≤ sizeLine ∧ Q (.str (i ++ j)) H) x y H Q) ∨ rExt2 x y H Q
theorem iop_all : OpR X (inplaceOp .Add) rAug := (iop_add.or iop_add_str).or iop_ext
theorem Rel.setV {B Fs σ H ρ i d v} (r : Rel W B Fs σ H ρ) (fz : Fz W.C (OO B Fs) H d v) (hi : i < ρ.length) (hp : free W i) : ∃ Fs', Rel W B Fs' (σ.set i (some v)) H (ρ.set i (some d)) ∧ Stp B Fs Fs' H H := by
  have e0 : U B A0 = B := DL.u0 fun _ z => z
  exact ⟨_, Rel.set (F := A0) (by rw [e0]; exact r) (by rw [e0]; exact fz) (fun _ z => z.elim) hi hp, Stp.refl.set fun _ z => z.elim⟩
theorem set_same {α : Type} {l : List α} {i : Nat} {x : α} (h : l[i]? = some x) : l.set i x = l := by
  apply List.ext_getElem?
  intro j
  by_cases e : i = j
  · subst e; rw [List.getElem?_set_self (List.getElem?_eq_some_iff.mp h).1, h]
  · rw [List.getElem?_set_ne e]
theorem ds_aug {i : Nat} {x : Str} {e : Expr} {mo : M Tk} {pos pos' : Pos} (hN : X.N.Nodup) (hi : X.N[i]? = some x) (hx : Loc X.env.scope x) (hp : free W i) (he : DK W E X e mo) (hf : X.fn x = true ∨ X.env.scope.names.lookup x = some .local := by first | exact .inl rfl | exact .inr rfl | assumption) :
    DS W E X (.AugAssign (.Name x pos') .Add e pos) (augS i mo) :=
  mnS (ps_aug hN hi hx he iop_all hf) fun D σ H h => by
    obtain ⟨B, Fs, ρ, r, p⟩ := h
    obtain ⟨v0, hv0, p⟩ : ∃ v0, σ[i]? = some (some v0) ∧ PostS W E B Fs H (M.bind mo (fun t => fun ρ => match ρ[i]?, t.get ρ with
        | some (some (.lst true xs)), some (.lst _ ys) => if isFzL xs = true ∧ xs.length + ys.length ≤ 2 ^ 24 then .ok .nx (ρ.set i (some (.lst true (xs ++ ys)))) else .bad
        | some (some (.int a)), some (.int b) => .ok .nx (ρ.set i (some (.int (a + b))))
        | some (some (.str a)), some (.str b) => if a.length + b.length ≤ 2 ^ 24 then .ok .nx (ρ.set i (some (.str (a ++ b)))) else .bad
        | _, _ => .bad) ρ) D := by
      unfold augS M.bind nameK at p
      cases he : ρ[i]? with
      | none => rw [he] at p; exact p.elim
      | some o =>
        cases o with
        | none => rw [he] at p; exact p.elim
        | some d =>
          rw [he] at p
          obtain ⟨v, q1, _⟩ := r.sl i d he
          exact ⟨v, q1, p⟩
    refine ⟨v0, hv0, B, Fs, ρ, r, (PostS.step (R := TkR W) (fun _ z => z) .refl p).mono fun y H1 ⟨Fs1, F1, t, ρ1, _, r1, ht, s1, f1, p1⟩ => ?_⟩
    have e1 : U B F1 = B := u0 ht.1
    rw [e1] at r1 ht
    cases hr : ρ1[i]? with
    | none => simp only [hr] at p1; exact p1.elim
    | some o =>
      cases o with
      | none => simp only [hr] at p1; exact p1.elim
      | some d =>
        have hil : i < ρ1.length := (List.getElem?_eq_some_iff.mp hr).1
        obtain ⟨v, q1, q2⟩ := r1.sl i d hr
        rw [hv0] at q1
        cases q1
        cases hg : t.get ρ1 with
        | none => simp only [hr, hg] at p1; cases d <;> first | exact p1.elim | (rename_i o _; cases o <;> exact p1.elim)
        | some yd =>
          have vw := ht.get r1 hg
          simp only [hr, hg] at p1
          cases d with
          | int a =>
            cases yd with
            | int b =>
              unfold Ow at q2
              obtain ⟨Fs', r2, s2⟩ := r1.setV (i := i) (d := .int (a + b)) (v := .int (a + b)) (by unfold Ow; rfl) hil hp
              exact .inl (.inl ⟨a, b, q2, vw, p1 _ H1 Fs' r2 (s1.trans s2)⟩)
            | _ => exact p1.elim
          | str a =>
            cases yd with
            | str b =>
              simp only at p1
              split at p1
              · unfold Ow at q2
                obtain ⟨Fs', r2, s2⟩ := r1.setV (i := i) (d := .str (a ++ b)) (v := .str (a ++ b)) (by unfold Ow; rfl) hil hp
                exact .inl (.inr ⟨a, b, q2, vw, by rw [sz24]; assumption, p1 _ H1 Fs' r2 (s1.trans s2)⟩)
              · exact p1.elim
            | _ => exact p1.elim
          | lst o xs =>
            cases o with
            | false => cases yd <;> exact p1.elim
            | true =>
              cases yd with
              | lst o' ys =>
                simp only at p1
                split at p1
                · rename_i hz
                  unfold Ow at q2
                  obtain ⟨p, ws, G, rfl, h1, h2, h3, h4⟩ := q2
                  have fk := OwL.isFz _ _ hz.1 h4
                  obtain ⟨p2, zs, rfl, h5, h6⟩ := vw
                  refine .inr ⟨p, p2, ws, zs, rfl, rfl, h1, h5, by rw [fk.length, h6.length, sz24]; exact hz.2, ?_⟩
                  obtain ⟨r4, s4⟩ := r1.updS (d' := .lst true (xs ++ ys)) (o := .lst (ws ++ zs)) hv0 hil h2.2 ⟨True.intro, ⟨_, h1, fun z => z⟩, fun F' ha hO => by
                    unfold Ow
                    exact ⟨p, ws ++ zs, A0, rfl, upd_same, ⟨hO p ha, ha⟩, ⟨fun _ z => z.elim, fun z => z⟩, fzL_upd (hO p ha) (fzL_app fk h6)⟩⟩
                  rw [set_same hv0]
                  exact p1 σ _ Fs1 r4 (s1.trans s4)
                · exact p1.elim
              | _ => exact p1.elim
          | _ => cases yd <;> exact p1.elim
end
end DL
end

section
set_option Elab.async false
set_option linter.all false
set_option maxRecDepth 100000
set_option maxHeartbeats 2000000
/-! D15: the attributes of an object in the making. -/
namespace DL
open PySem PySem.Spec PyProof.Rows L2

def putN : List Str → Str → List Str
  | [], f => [f]
  | g :: r, f => if g = f then g :: r else g :: putN r f
def putV : List Str → List D → Str → D → List D
  | g :: r, x :: xs, f, d => if g = f then d :: xs else x :: putV r xs f d
  | _, _, _, d => [d]
section
variable {C : CN} {O : AS} {H : Hp}
theorem owL_putF {f : Str} {d : D} {y : V} {F1 : AS} (hd : Ow C O H F1 d y) : ∀ {G : AS} {fs : List (Str × V)} {ns : List Str} {ds : List D}, fs.map (·.1) = ns → OwL C O H G ds (fs.map (·.2)) → (∀ b, G b → ¬ F1 b) →
    (putF f y fs).map (·.1) = putN ns f ∧ OwL C O H (U G F1) (putV ns ds f d) ((putF f y fs).map (·.2))
  | G, [], ns, ds, h1, h2, dj => by
    subst h1
    unfold OwL at h2
    cases ds with
    | cons d0 ds => simp at h2
    | nil =>
      refine ⟨rfl, ?_⟩
      show OwL C O H (U G F1) [d] [y]
      unfold OwL
      exact ⟨y, [], F1, A0, rfl, fun b hb => ⟨.inr hb, fun z => z⟩, fun b z => z.elim, hd, by unfold OwL; rfl⟩
  | G, (g, x) :: r, ns, ds, h1, h2, dj => by
    subst h1
    cases ds with
    | nil => unfold OwL at h2; cases h2
    | cons d0 ds =>
      unfold OwL at h2
      obtain ⟨v, r', Fa, Fb, e1, k1, k2, k3, k4⟩ := h2
      simp only [List.map_cons, List.cons.injEq] at e1
      obtain ⟨e1, e2⟩ := e1
      by_cases hg : g = f
      · simp only [putF, putN, putV, List.map_cons, if_pos hg]
        refine ⟨trivial, ?_⟩
        unfold OwL
        exact ⟨y, r', F1, Fb, by rw [← e2], fun b hb => ⟨.inr hb, fun z => dj b (k2 b z) hb⟩, fun b z => .inl (k2 b z), hd, k4⟩
      · simp only [putF, putN, putV, List.map_cons, if_neg hg]
        obtain ⟨i1, i2⟩ := owL_putF hd (G := Fb) (fs := r) (ds := ds) rfl (by rw [e2]; exact k4) fun b hb => dj b (k2 b hb)
        refine ⟨by rw [i1], ?_⟩
        unfold OwL
        exact ⟨v, _, Fa, U Fb F1, by rw [show x = v from e1], fun b hb => ⟨.inl (k1 b hb).1, fun z => z.elim (k1 b hb).2 (dj b (k1 b hb).1)⟩, fun b z => z.elim (fun z => .inl (k2 b z)) .inr, k3, i2⟩
/-- one part of several is written -/
theorem OwL.upd : ∀ {G : AS} {ds : List D} {vs : List V} {k : Nat} {d : D}, OwL C O H G ds vs → ds[k]? = some d → ∃ (Gk : AS) (v : V), vs[k]? = some v ∧ (∀ b, Gk b → G b) ∧ Ow C O H Gk d v ∧
    ∀ (H' : Hp) (d' : D) (a : Addr), Gk a → O a → (∀ b, b ≠ a → H' b = H b) → (∀ b, G b → O b) → Ow C O H' Gk d' v → OwL C O H' G (ds.set k d') vs
  | G, [], vs, k, d, h, e => by simp at e
  | G, d0 :: ds, vs, k, d, h, e => by
    unfold OwL at h
    obtain ⟨v, r, Fa, Fb, rfl, k1, k2, k3, k4⟩ := h
    cases k with
    | zero =>
      simp at e
      subst e
      refine ⟨Fa, v, rfl, fun b hb => (k1 b hb).1, k3, fun H' d' a ha hO hH hG hd => ?_⟩
      rw [List.set_cons_zero]
      unfold OwL
      exact ⟨v, r, Fa, Fb, rfl, k1, k2, hd, OwL.stay (W := fun b => b = a) ⟨fun b u e n _ => .inl (by rw [hH b n]; exact e), fun b hb => hH b fun z => (k1 a ha).2 (by rw [← z]; exact hb), fun b z => by rw [show b = a from z]; exact hO, fun b z => .inl z, fun b z => hG b (k2 b z)⟩ ds r k4⟩
    | succ k =>
      obtain ⟨Gk, w, h1, h2, h3, h4⟩ := OwL.upd (k := k) k4 (by simpa using e)
      refine ⟨Gk, w, by simpa using h1, fun b hb => k2 b (h2 b hb), h3, fun H' d' a ha hO hH hG hd => ?_⟩
      rw [List.set_cons_succ]
      unfold OwL
      exact ⟨v, r, Fa, Fb, rfl, k1, k2, Ow.stay (W := fun b => b = a) ⟨fun b u e n _ => .inl (by rw [hH b n]; exact e), fun b hb => hH b fun z => (k1 b hb).2 (by rw [z]; exact h2 a ha), fun b z => by rw [show b = a from z]; exact hO, fun b z => .inl z, fun b z => hG b (k1 b z).1⟩ d0 v k3, h4 H' d' a ha hO hH (fun b z => hG b (k2 b z)) hd⟩
end
/-- the k-th of ns called f -/
def ixF : List Str → Str → Nat
  | n :: ns, f => if (f == n) = true then 0 else ixF ns f + 1
  | [], _ => 0
theorem getF_at {f : Str} : ∀ {ns : List Str} {ds : List D} {d : D}, getF ns ds f = some d → ds[ixF ns f]? = some d
  | [], ds, d, e => by simp [getF] at e
  | n :: ns, [], d, e => by simp [getF] at e
  | n :: ns, d0 :: ds, d, e => by
    simp only [getF] at e
    simp only [ixF]
    split at e
    · rename_i h; cases e; rw [if_pos h]; rfl
    · rename_i h; rw [if_neg h, List.getElem?_cons_succ]; exact getF_at e
theorem lookup_at {f : Str} {β : Type} : ∀ {fs : List (Str × β)} {k : β}, fs.lookup f = some k → (fs.map (·.2))[ixF (fs.map (·.1)) f]? = some k
  | [], k, e => by cases e
  | (n, w) :: r, k, e => by
    rw [List.lookup_cons] at e
    simp only [List.map_cons, ixF]
    cases h : f == n with
    | true => rw [h] at e; cases e; rw [if_pos rfl]; rfl
    | false => rw [h] at e; rw [if_neg Bool.false_ne_true, List.getElem?_cons_succ]; exact lookup_at e
section
variable {W : Dx} {E : XK} {X : Cx}
def setF (i c : Nat) (f : Str) (mv : M D) : M Fl := M.bind mv fun d => fun ρ => match ρ[i]? with
  | some (some (.ins true c' ns ds)) => if c' = c ∧ ns.length < 1000 then .ok .nx (ρ.set i (some (.ins true c' (putN ns f) (putV ns ds f d)))) else .bad
  | _ => .bad
theorem ds_setF {i c : Nat} {f : Str} {o e : Expr} {mv : M D} {pos pos' : Pos} (ho : PE X o (tVar i)) (hc : Cls X.K (W.C.c c)) (hn : NoAttr X.K (W.C.c c) f) (he : DE W E X e mv) (hs : swapsWith e (some (.Attribute o f pos')) pos.line X.env = Pure.pure false := by rfl) :
    DS W E X (.Assign [.Attribute o f pos'] e pos) (setF i c f mv) :=
  mnS (ps_fld ho he hs) fun D σ H h => by
    obtain ⟨B, Fs, ρ, r, p⟩ := h
    refine ⟨B, Fs, ρ, r, (PostS.step (R := DR W) (fun _ z => z) .refl p).mono fun y H1 ⟨Fs1, F1, d, ρ1, _, r1, ow, s1, f1, p1⟩ => ?_⟩
    cases hr : ρ1[i]? with
    | none => simp only [hr] at p1; exact p1.elim
    | some o' =>
      cases o' with
      | none => simp only [hr] at p1; exact p1.elim
      | some x =>
        cases x with
        | ins ow' c' ns ds =>
          cases ow' with
          | false => simp only [hr] at p1; exact p1.elim
          | true =>
            simp only [hr] at p1
            split at p1
            · rename_i hcc
              obtain ⟨rfl, hlen⟩ := hcc
              obtain ⟨v, q1, q2⟩ := r1.sl i _ hr
              have hil : i < ρ1.length := (List.getElem?_eq_some_iff.mp hr).1
              unfold Ow at q2
              obtain ⟨a, dx, fs, G, rfl, h2, h3, h4, h5, h6⟩ := q2
              have hO : OO (U B F1) Fs1 a := h3.1
              have hF : Fs1 i a := h3.2
              refine ⟨.ref a, q1, a, _, dx, fs, rfl, h2, hc, hn, by rw [← List.length_map (f := (·.1)), h5]; exact hlen, ?_⟩
              have nF1 : ∀ b, F1 b → ¬ B b := fun b hb z => (r.bd b z).ne (f1 b hb)
              let Fs2 : Nat → AS := fun j => if j = i then U (Fs1 i) F1 else Fs1 j
              have hFs2 : ∀ j b, Fs2 j b → (j = i ∧ (Fs1 i b ∨ F1 b)) ∨ (j ≠ i ∧ Fs1 j b) := fun j b z => by
                have z : (if j = i then U (Fs1 i) F1 else Fs1 j) b := z
                split at z
                · exact .inl ⟨by assumption, z⟩
                · exact .inr ⟨by assumption, z⟩
              have oo : ∀ b, OO B Fs2 b ↔ OO (U B F1) Fs1 b := fun b => by
                constructor
                · rintro (z | ⟨j, z⟩)
                  · exact .inl (.inl z)
                  · rcases hFs2 j b z with ⟨_, z | z⟩ | ⟨_, z⟩
                    · exact .inr ⟨i, z⟩
                    · exact .inl (.inr z)
                    · exact .inr ⟨j, z⟩
                · rintro ((z | z) | ⟨j, z⟩)
                  · exact .inl z
                  · exact .inr ⟨i, by show (if i = i then U (Fs1 i) F1 else Fs1 i) b; rw [if_pos rfl]; exact .inr z⟩
                  · by_cases hj : j = i
                    · exact .inr ⟨i, by show (if i = i then U (Fs1 i) F1 else Fs1 i) b; rw [if_pos rfl]; rw [hj] at z; exact .inl z⟩
                    · exact .inr ⟨j, by show (if j = i then U (Fs1 i) F1 else Fs1 j) b; rw [if_neg hj]; exact z⟩
              generalize hoo : HO.ins (W.C.c c') dx (putF f y fs) = o2
              have ht : nT o2 := by rw [← hoo]; exact True.intro
              have ob : ∀ b, Ob H1 b → Ob (upd H1 a o2) b := fun b ⟨v, e, n⟩ => by
                by_cases hb : b = a
                · rw [hb]; exact ⟨o2, upd_same, ht⟩
                · exact ⟨v, by rw [upd_ne hb]; exact e, n⟩
              have dj1 : ∀ j b, Fs1 j b → ¬ F1 b := fun j b z q => (r1.fd j b z).2 (.inr q)
              have r2 : Rel W B Fs2 σ (upd H1 a o2) (ρ1.set i (some (.ins true c' (putN ns f) (putV ns ds f d)))) := by
                refine ⟨fun b hb => ob b (r1.bd b (.inl hb)), fun j b z => ?_, fun j k b z1 z2 => ?_, fun j d' e => ?_, r1.pin, by rw [List.length_set]; exact r1.len, W.T.st r1.tb fun b v e ff => ?_⟩
                · rcases hFs2 j b z with ⟨_, z | z⟩ | ⟨_, z⟩
                  · exact ⟨ob b (r1.fd i b z).1, fun q => (r1.fd i b z).2 (.inl q)⟩
                  · exact ⟨ob b (r1.bd b (.inr z)), nF1 b z⟩
                  · exact ⟨ob b (r1.fd j b z).1, fun q => (r1.fd j b z).2 (.inl q)⟩
                · rcases hFs2 j b z1 with ⟨e1, z1 | z1⟩ | ⟨e1, z1⟩ <;> rcases hFs2 k b z2 with ⟨e2, z2 | z2⟩ | ⟨e2, z2⟩
                  · rw [e1, e2]
                  · rw [e1, e2]
                  · exact absurd (r1.dj k i b z2 z1) e2
                  · rw [e1, e2]
                  · rw [e1, e2]
                  · exact absurd z1 (dj1 k b z2)
                  · exact absurd (r1.dj j i b z1 z2) e1
                  · exact absurd z2 (dj1 j b z1)
                  · exact r1.dj j k b z1 z2
                · by_cases hj : j = i
                  · subst hj
                    rw [List.getElem?_set_self hil] at e
                    cases e
                    refine ⟨.ref a, q1, ow_congr ?_ fun b => (oo b).symm⟩
                    have hF2 : Fs2 j = U (Fs1 j) F1 := by show (if j = j then U (Fs1 j) F1 else Fs1 j) = _; rw [if_pos rfl]
                    rw [hF2]
                    have hG : ∀ b, G b → Fs1 j b := h4.1
                    obtain ⟨n1, n2⟩ := owL_putF (f := f) (y := y) ow h5 h6 fun b hb => dj1 j b (hG b hb)
                    unfold Ow
                    refine ⟨a, dx, putF f y fs, U G F1, rfl, by rw [hoo]; exact upd_same, ⟨hO, .inl hF⟩, ⟨fun b z => z.elim (fun z => .inl (hG b z)) .inr, fun z => z.elim h4.2 (dj1 j a hF)⟩, n1, ?_⟩
                    exact OwL.stay (W := fun b => b = a) ⟨fun b u e n _ => .inl (by rw [upd_ne n]; exact e), fun b z => upd_ne fun q => by
                      rw [q] at z
                      exact z.elim h4.2 (dj1 j a hF), fun b z => by rw [show b = a from z]; exact hO, fun b z => .inl z, fun b z => z.elim (fun z => .inr ⟨j, hG b z⟩) fun z => .inl (.inr z)⟩ _ _ n2
                  · rw [List.getElem?_set_ne (Ne.symm hj)] at e
                    obtain ⟨v, e1, e2⟩ := r1.sl j d' e
                    have hF2 : Fs2 j = Fs1 j := by show (if j = i then U (Fs1 i) F1 else Fs1 j) = _; rw [if_neg hj]
                    rw [hF2]
                    refine ⟨v, e1, ow_congr (Ow.stay (W := fun b => b = a) ⟨fun b v e n _ => .inl (by rw [upd_ne n]; exact e), fun b hb => upd_ne fun z => hj (r1.dj j i a (by rw [← z]; exact hb) hF), fun b z => by rw [show b = a from z]; exact hO, fun b z => .inl z, fun b z => .inr ⟨j, z⟩⟩ d' v e2) fun b => (oo b).symm⟩
                · rw [upd_ne fun z => by rw [z, h2] at e; cases Option.some.inj e; exact ff]
                  exact e
              have s2 : Stp B Fs1 Fs1 H1 (upd H1 a o2) := ⟨fun b v e n _ => .inl (by rw [upd_ne fun z => n ⟨i, by rw [z]; exact hF⟩]; exact e), fun b hb => upd_ne fun z => (r1.fd i a hF).2 (.inl (by rw [← z]; exact hb)), fun _ _ z => .inl z, fun b hb => by
                by_cases z : b = a
                · rw [z, upd_same]; simp
                · rw [upd_ne z]; exact hb⟩
              refine p1 σ _ Fs2 r2 ?_
              have s12 := s1.trans s2
              refine ⟨s12.keep, s12.kb, fun j b z => ?_, s12.dom⟩
              rcases hFs2 j b z with ⟨e1, z | z⟩ | ⟨e1, z⟩
              · rw [e1]; exact s1.old i b z
              · exact .inr (f1 b z)
              · exact s1.old j b z
            · exact p1.elim
        | _ => simp only [hr] at p1; exact p1.elim
/-- self.f[name] = e -/
def putFx (i c : Nat) (f : Str) (j : Nat) (mv : M D) : M Fl := M.bind mv fun d => fun ρ => match ρ[i]?, (Tk.s j).get ρ with
  | some (some (.ins true c' ns ds)), some k => if c' = c then match getF ns ds f with
    | some x => match dPut x k (fz d) with
      | some x' => .ok .nx (ρ.set i (some (.ins true c' ns (ds.set (ixF ns f) x'))))
      | none => .bad
    | none => .bad
    else .bad
  | _, _ => .bad
theorem ds_putF {i c j : Nat} {f : Str} {o k e : Expr} {mv : M D} {p2 pos pos' : Pos} (hu : X.A.units + 1 < cLine) (ho : PE X o (tVar i)) (hk : PE X k (tVar j)) (hc : Cls X.K (W.C.c c)) (hn : NoAttr X.K (W.C.c c) f) (he : DE W E X e mv) (hb : attributeBase o f X.env (eval o X.env) = eval o X.env := by rfl)
    (ha : ∀ v, assign (.Subscript (.Attribute o f p2) k pos') X.env v = (do
      let ov ← holding [v] (eval (.Attribute o f p2) X.env)
      let iv ← holding [v, ov] (eval k X.env)
      standAt pos'
      holding [v, ov, iv] (setItem ov iv v)
      release [v, ov, iv] []) := by intro _; rfl)
    (hs : swapsWithSole [.Subscript (.Attribute o f p2) k pos'] e pos.line X.env = Pure.pure false := by rfl) (hw : swappedStores [.Subscript (.Attribute o f p2) k pos'] e X.env = Pure.pure none := by rfl)
    (h1 : (assignEach [.Subscript (.Attribute o f p2) k pos'] X.env).map (·.2) = [assign (.Subscript (.Attribute o f p2) k pos') X.env] := by rfl) : DS W E X (.Assign [.Subscript (.Attribute o f p2) k pos'] e pos) (putFx i c f j mv) :=
  mnS (ps_asg he (pg_sub (pe_fld ho hb) hk (set_all hu) ha) hs hw h1) fun D σ H h => by
    obtain ⟨B, Fs, ρ, r, p⟩ := h
    refine ⟨B, Fs, ρ, r, (PostS.step (R := DR W) (fun _ z => z) .refl p).mono fun y H1 ⟨Fs1, F1, d, ρ1, _, r1, ow, s1, f1, p1⟩ => ?_⟩
    have r1' := r1.drop
    have hz := tmp_fz r1 ow fun b hb z => (r.bd b z).ne (f1 b hb)
    cases hr : ρ1[i]? with
    | none => simp only [hr] at p1; exact p1.elim
    | some o' =>
      cases o' with
      | none => simp only [hr] at p1; exact p1.elim
      | some x =>
        cases x with
        | ins ow' c' ns ds =>
          cases ow' with
          | false => simp only [hr] at p1; exact p1.elim
          | true =>
            cases hkk : (Tk.s j).get ρ1 with
            | none => simp only [hr, hkk] at p1; exact p1.elim
            | some kd =>
              simp only [hr, hkk] at p1
              split at p1
              case isFalse => exact p1.elim
              rename_i hcc
              subst hcc
              cases hg : getF ns ds f with
              | none => simp only [hg] at p1; exact p1.elim
              | some x =>
                simp only [hg] at p1
                cases hp : dPut x kd (fz d) with
                | none => simp only [hp] at p1; exact p1.elim
                | some x' =>
                  simp only [hp] at p1
                  obtain ⟨v, q1, q2⟩ := r1'.sl i _ hr
                  have hil : i < ρ1.length := (List.getElem?_eq_some_iff.mp hr).1
                  unfold Ow at q2
                  obtain ⟨a, dx, fs, G, rfl, h2, h3, h4, h5, h6⟩ := q2
                  obtain ⟨w, l1, _⟩ := getF_lookup h5 h6 hg
                  have hat := getF_at hg
                  obtain ⟨Gk, w', l2, hGk, owk, hupd⟩ := OwL.upd h6 hat
                  have l3 := lookup_at l1
                  rw [h5] at l3
                  rw [l3] at l2
                  cases l2
                  -- the key's value
                  have hjv : ∃ vj, σ[j]? = some (some vj) ∧ Vw W.C (OO B Fs1) H1 kd vj := by
                    cases hj : ρ1[j]? with
                    | none => simp [Tk.get, hj] at hkk
                    | some oj =>
                      cases oj with
                      | none => simp [Tk.get, hj] at hkk
                      | some dj =>
                        obtain ⟨vj, e1, e2⟩ := r1'.sl j dj hj
                        exact ⟨vj, e1, TkR.get (F := A0) ⟨fun _ z => z, e1⟩ r1' hkk⟩
                  obtain ⟨vj, e1, e2⟩ := hjv
                  have hG : ∀ b, G b → Fs1 i b := h4.1
                  refine ⟨.ref a, q1, a, _, dx, fs, w, rfl, h2, hc, hn, l1, vj, e1, ?_⟩
                  refine put_at owk (fun b hb => .inr ⟨i, hG b (hGk b hb)⟩) e2 hz hp fun q o2 eq hFq nw => ?_
                  subst eq
                  have hqi : Fs1 i q := hG q (hGk q hFq)
                  have hOq : OO B Fs1 q := .inr ⟨i, hqi⟩
                  obtain ⟨ht, ⟨u, hu2, hf2⟩, hn2⟩ := nw
                  have nqa : q ≠ a := fun z => h4.2 (by rw [← z]; exact hGk q hFq)
                  have ob : ∀ b, Ob H1 b → Ob (upd H1 q o2) b := fun b ⟨v, e, n⟩ => by
                    by_cases hb : b = q
                    · rw [hb]; exact ⟨o2, upd_same, ht⟩
                    · exact ⟨v, by rw [upd_ne hb]; exact e, n⟩
                  have r2 : Rel W B Fs1 σ (upd H1 q o2) (ρ1.set i (some (.ins true c' ns (ds.set (ixF ns f) x')))) := by
                    refine ⟨fun b hb => ob b (r1'.bd b hb), fun j b z => ⟨ob b (r1'.fd j b z).1, (r1'.fd j b z).2⟩, r1'.dj, fun j d' e => ?_, r1'.pin, by rw [List.length_set]; exact r1'.len, W.T.st r1'.tb fun b v e ff => ?_⟩
                    · by_cases hj : j = i
                      · subst hj
                        rw [List.getElem?_set_self hil] at e
                        cases e
                        refine ⟨.ref a, q1, ?_⟩
                        unfold Ow
                        refine ⟨a, dx, fs, G, rfl, by rw [upd_ne (Ne.symm nqa)]; exact h2, h3, h4, h5, ?_⟩
                        exact hupd _ x' q hFq hOq (fun b hb => upd_ne hb) (fun b hb => .inr ⟨j, hG b hb⟩) (hn2 Gk hFq fun b hb => .inr ⟨j, hG b (hGk b hb)⟩)
                      · rw [List.getElem?_set_ne (Ne.symm hj)] at e
                        obtain ⟨v, e1, e2⟩ := r1'.sl j d' e
                        exact ⟨v, e1, Ow.stay (W := fun b => b = q) ⟨fun b v e n _ => .inl (by rw [upd_ne n]; exact e), fun b hb => upd_ne fun z => hj (r1'.dj j i q (by rw [← z]; exact hb) hqi), fun b z => by rw [show b = q from z]; exact hOq, fun b z => .inl z, fun b z => .inr ⟨j, z⟩⟩ d' v e2⟩
                    · rw [upd_ne fun z => hf2 (by rw [z, hu2] at e; rw [Option.some.inj e]; exact ff)]
                      exact e
                  refine p1 σ _ Fs1 r2 (s1.trans ⟨fun b v e n _ => .inl (by rw [upd_ne fun z => n ⟨i, by rw [z]; exact hqi⟩]; exact e), fun b hb => upd_ne fun z => (r1'.fd i q hqi).2 (by rw [← z]; exact hb), fun _ _ z => .inl z, fun b hb => ?_⟩)
                  by_cases z : b = q
                  · rw [z, upd_same]; simp
                  · rw [upd_ne z]; exact hb
        | _ => simp only [hr] at p1; exact p1.elim
end
end DL
end

section
set_option Elab.async false
set_option linter.all false
set_option maxRecDepth 100000
set_option maxHeartbeats 2000000
/-! D16: built-in functions by data. -/
namespace DL
open PySem PySem.Spec PyProof.Rows L2

theorem pair1 {α β : Type} {R : α → β → Prop} {a : α} {bs : List β} (h : Paired R [a] bs) : ∃ b, bs = [b] ∧ R a b := by
  cases h with
  | cons r t => cases t; exact ⟨_, rfl, r⟩
section
variable {C : CN} {X : Cx}
/-! ### len, int, abs, str -/
def dLen : List D → Option D
  | [.str z] => if z.length ≤ 2 ^ 24 then some (.int z.length) else none
  | [.lst _ ds] => some (.int ds.length)
  | [.tup ds] => some (.int ds.length)
  | [.ptup ds] => some (.int ds.length)
  | [.dk _ ks _] => some (.int ks.length)
  | _ => none
def rLenA (K : PySem.W.Frag) : List V → Hp → VK → Prop := fun xs H Q => (∃ x n, xs = [x] ∧ LenV K x H n ∧ Q (.int n) H) ∨ ∃ a kvs, xs = [.ref a] ∧ Rd H a (.dK kvs) ∧ Q (.int kvs.length) H
theorem call_lenA : CallR X (.builtin "len") (rLenA X.K) := by
  intro pins s σ H xs us Q I r h
  rcases h with h | ⟨a, kvs, rfl, hd, q⟩
  · exact call_len pins s σ H xs us Q I r h
  · obtain ⟨u, rfl, ru⟩ := vals1 r
    cases ru
    exact d_len I hd fun t s' I' => ⟨.int kvs.length, H, I', ⟨_, rfl⟩, q⟩
theorem sp_len {K : PySem.W.Frag} : SpN C (rLenA K) dLen := fun O H ds vs d Q ot hp e q => by
  unfold dLen at e
  split at e
  · rename_i z
    obtain ⟨v, rfl, h⟩ := pair1 hp
    split at e
    · cases e
      have h' : v = .str z := h
      subst h'
      exact .inl ⟨_, _, rfl, ⟨by rw [sz24]; assumption, rfl⟩, q _ _ Res.int⟩
    · cases e
  · rename_i o ds
    obtain ⟨v, rfl, h⟩ := pair1 hp
    cases e
    obtain ⟨a, vs, rfl, h1, h2⟩ := h
    exact .inl ⟨_, _, rfl, .inl ⟨vs, SqL.of h1, h2.length.symm⟩, q _ _ Res.int⟩
  · rename_i ds
    obtain ⟨v, rfl, h⟩ := pair1 hp
    cases e
    obtain ⟨a, vs, rfl, h1, h2⟩ := h
    exact .inl ⟨_, _, rfl, .inr ⟨vs, SqT.of h1, h2.length.symm⟩, q _ _ Res.int⟩
  · rename_i ds
    obtain ⟨v, rfl, h⟩ := pair1 hp
    cases e
    obtain ⟨a, vs, ob, rfl, h1, _, h2⟩ := h
    exact .inl ⟨_, _, rfl, .inr ⟨vs, .inl (.inr ⟨ob, h1⟩), h2.length.symm⟩, q _ _ Res.int⟩
  · rename_i o ks ds
    obtain ⟨v, rfl, h⟩ := pair1 hp
    cases e
    obtain ⟨a, kvs, rfl, h1, h2, h3⟩ := h
    refine .inr ⟨a, kvs, rfl, h1, ?_⟩
    rw [← List.length_map (f := (·.1)), h2]
    exact q _ _ Res.int
  · cases e
def dInt : List D → Option D
  | [.int i] => some (.int i)
  | [.bl b] => some (.int (if b then 1 else 0))
  | _ => none
theorem sp_int : SpN C (fun xs H Q => (∃ i, xs = [.int i] ∧ Q (.int i) H) ∨ ∃ k, xs = [.bl k] ∧ Q (.int (if k then 1 else 0)) H) dInt := fun O H ds vs d Q ot hp e q => by
  unfold dInt at e
  split at e
  · obtain ⟨v, rfl, h⟩ := pair1 hp
    cases e
    have h' : v = _ := h
    subst h'
    exact .inl ⟨_, rfl, q _ _ Res.int⟩
  · obtain ⟨v, rfl, h⟩ := pair1 hp
    cases e
    have h' : v = _ := h
    subst h'
    exact .inr ⟨_, rfl, q _ _ Res.int⟩
  · cases e
def dAbs : List D → Option D
  | [.int i] => some (.int (if i < 0 then -i else i))
  | _ => none
theorem sp_abs : SpN C (fun xs H Q => ∃ i, xs = [.int i] ∧ Q (.int (if i < 0 then -i else i)) H) dAbs := fun O H ds vs d Q ot hp e q => by
  unfold dAbs at e
  split at e
  · obtain ⟨v, rfl, h⟩ := pair1 hp
    cases e
    have h' : v = _ := h
    subst h'
    exact ⟨_, rfl, q _ _ Res.int⟩
  · cases e
def dStr : List D → Option D
  | [.int i] => if i.natAbs.log2 < 1920 then some (.str (toString i)) else none
  | _ => none
theorem sp_str : SpN C (fun xs H Q => ∃ i, xs = [.int i] ∧ i.natAbs.log2 < 1920 ∧ Q (.str (toString i)) H) dStr := fun O H ds vs d Q ot hp e q => by
  unfold dStr at e
  split at e
  · obtain ⟨v, rfl, h⟩ := pair1 hp
    split at e
    · cases e
      have h' : v = _ := h
      subst h'
      exact ⟨_, rfl, by assumption, q _ _ Res.str⟩
    · cases e
  · cases e
/-! ### list, tuple -/
def dList : List D → Option D
  | [.lst _ ds] => some (.lst true ds)
  | [.tup ds] => some (.lst true ds)
  | [.dk _ ks _] => some (.lst true (ks.map kD))
  | _ => none
def rListA (K : PySem.W.Frag) : List V → Hp → VK → Prop := fun xs H Q => (∃ p ys, xs = [.ref p] ∧ (SqL K H p ys ∨ SqT K H p ys) ∧ ∀ l, H l = none → Q (.ref l) (upd H l (.lst ys))) ∨
  ∃ (a : Addr) (kvs : List (Key × V)), xs = [.ref a] ∧ Rd H a (.dK kvs) ∧ ∀ p, H p = none → Q (.ref p) (upd H p (.lst (kvs.map fun kv => kV kv.1)))
theorem call_listA (hc : X.calm = true) : CallR X (.type "list") (rListA X.K) := CallR.or call_list_of (call_listD hc)
theorem sp_list {K : PySem.W.Frag} : SpN C (rListA K) dList := fun O H ds vs d Q ot hp e q => by
  unfold dList at e
  split at e
  · obtain ⟨v, rfl, h⟩ := pair1 hp
    cases e
    obtain ⟨a, vs, rfl, h1, h2⟩ := h
    exact .inl ⟨a, vs, rfl, .inl (SqL.of h1), fun p hp => q _ _ (Res.lst hp h2)⟩
  · obtain ⟨v, rfl, h⟩ := pair1 hp
    cases e
    obtain ⟨a, vs, rfl, h1, h2⟩ := h
    exact .inl ⟨a, vs, rfl, .inr (SqT.of h1), fun p hp => q _ _ (Res.lst hp h2)⟩
  · obtain ⟨v, rfl, h⟩ := pair1 hp
    cases e
    obtain ⟨a, kvs, rfl, h1, h2, h3⟩ := h
    refine .inr ⟨a, kvs, rfl, h1, fun p hp => q _ _ ?_⟩
    have : (kvs.map fun kv => kV kv.1) = (kvs.map (·.1)).map kV := by rw [List.map_map]; rfl
    rw [this, h2]
    exact Res.lst hp (kDs_fz _)
  · cases e
def dTuple : List D → Option D
  | [.lst _ ds] => some (.tup ds)
  | [.tup ds] => some (.tup ds)
  | _ => none
theorem sp_tuple {K : PySem.W.Frag} : SpN C (fun xs H Q => ∃ p ys, xs = [.ref p] ∧ ((SqL K H p ys ∧ ∀ l, H l = none → Q (.ref l) (upd H l (.tup ys))) ∨ (SqT K H p ys ∧ Q (.ref p) H))) dTuple := fun O H ds vs d Q ot hp e q => by
  unfold dTuple at e
  split at e
  · obtain ⟨v, rfl, h⟩ := pair1 hp
    cases e
    obtain ⟨a, vs, rfl, h1, h2⟩ := h
    exact ⟨a, vs, rfl, .inl ⟨SqL.of h1, fun p hp => q _ _ (Res.tup hp h2 (ot.new hp))⟩⟩
  · obtain ⟨v, rfl, h⟩ := pair1 hp
    cases e
    have fz := vw_tup ot h
    obtain ⟨a, vs, rfl, h1, h2⟩ := h
    exact ⟨a, vs, rfl, .inr ⟨SqT.of h1, q _ _ (Res.same fz)⟩⟩
  · cases e
/-! ### dict -/
def dPairs : List D → Option (List Key × List D)
  | [] => some ([], [])
  | .tup [k, d] :: r => match toKey k, dPairs r with
    | some k, some (ks, ds) => some (k :: ks, d :: ds)
    | _, _ => none
  | _ => none
def mergeD : List Key → List D → List Key → List D → List Key × List D
  | ks, ds, k :: js, e :: es => mergeD (putD ks ds k e).1 (putD ks ds k e).2 js es
  | ks, ds, _, _ => (ks, ds)
def dDict : List D → Option D
  | [.dk _ ks ds] => some (.dk true ks ds)
  | [.lst _ ps] => (dPairs ps).map fun q => .dk true (mergeD [] [] q.1 q.2).1 (mergeD [] [] q.1 q.2).2
  | _ => none
def rDictA (K : PySem.W.Frag) : List V → Hp → VK → Prop := fun xs H Q => (∃ (a : Addr) (ps : List Addr) (kvs : List (Key × V)), xs = [.ref a] ∧ SqL K H a (ps.map V.ref) ∧ Paired (fun p kv => SqT K H p [kV kv.1, kv.2]) ps kvs ∧ ∀ p, H p = none → Q (.ref p) (upd H p (.dK (mergeK [] kvs)))) ∨
  ∃ (a : Addr) (kvs : List (Key × V)), xs = [.ref a] ∧ Rd H a (.dK kvs) ∧ ∀ p, H p = none → Q (.ref p) (upd H p (.dK kvs))
theorem call_dictA (hc : X.calm = true) : CallR X (.type "dict") (rDictA X.K) := CallR.or (call_dictP hc) call_dictD
theorem dPairs_at {O : AS} {H : Hp} : ∀ {ds : List D} {vs : List V} {ks : List Key} {es : List D}, FzL C O H ds vs → dPairs ds = some (ks, es) → ∃ (ps : List Addr) (kvs : List (Key × V)), vs = ps.map V.ref ∧ Paired (fun p kv => H p = some (.tup [kV kv.1, kv.2])) ps kvs ∧ kvs.map (·.1) = ks ∧ FzL C O H es (kvs.map (·.2))
  | [], vs, ks, es, h, e => by
    unfold OwL at h
    subst h
    simp only [dPairs] at e
    cases e
    exact ⟨[], [], rfl, .nil, rfl, fzL_nil⟩
  | d :: ds, vs, ks, es, h, e => by
    obtain ⟨v, r, rfl, h1, h2⟩ := fzL_inv h
    unfold dPairs at e
    split at e
    · rename_i hd; cases hd
    · rename_i k d' r' hd
      cases hd
      cases e1 : toKey k with
      | none => rw [e1] at e; cases e
      | some key =>
        cases e2 : dPairs ds with
        | none => rw [e1, e2] at e; cases e
        | some q =>
          obtain ⟨ks', es'⟩ := q
          rw [e1, e2] at e
          cases e
          obtain ⟨ps, kvs, e3, e4, e5, e6⟩ := dPairs_at h2 e2
          unfold Ow at h1
          obtain ⟨a, ws, rfl, h3, _, h5⟩ := h1
          obtain ⟨w1, r1, rfl, h6, h7⟩ := fzL_inv h5
          obtain ⟨w2, r2, rfl, h8, h9⟩ := fzL_inv h7
          have : r2 = [] := by unfold OwL at h9; exact h9
          subst this
          have hk := fz_key h6 e1
          subst hk
          exact ⟨a :: ps, (key, w2) :: kvs, by rw [e3]; rfl, .cons h3 e4, by simp [e5], fzL_cons h8 e6⟩
    · cases e
theorem merge_at {O : AS} {H : Hp} : ∀ {kvs acc : List (Key × V)} {js ks : List Key} {es ds : List D}, kvs.map (·.1) = js → FzL C O H es (kvs.map (·.2)) → acc.map (·.1) = ks → FzL C O H ds (acc.map (·.2)) →
    (mergeK acc kvs).map (·.1) = (mergeD ks ds js es).1 ∧ FzL C O H (mergeD ks ds js es).2 ((mergeK acc kvs).map (·.2))
  | [], acc, js, ks, es, ds, h1, h2, h3, h4 => by
    subst h1
    unfold OwL at h2
    cases es with
    | cons _ _ => simp at h2
    | nil => exact ⟨h3, h4⟩
  | p :: r, acc, js, ks, es, ds, h1, h2, h3, h4 => by
    subst h1
    cases es with
    | nil => unfold OwL at h2; cases h2
    | cons e es =>
      obtain ⟨v, r', e1, h5, h6⟩ := fzL_inv h2
      simp only [List.map_cons, List.cons.injEq] at e1
      obtain ⟨n1, n2⟩ := fzL_put (k := p.1) (v := p.2) h3 h4 (by rw [e1.1]; exact h5)
      exact merge_at (kvs := r) (acc := putK acc p.1 p.2) (js := r.map (·.1)) (es := es) rfl (by rw [e1.2]; exact h6) n1 n2
theorem sp_dict {K : PySem.W.Frag} : SpN C (rDictA K) dDict := fun O H ds vs d Q ot hp e q => by
  unfold dDict at e
  split at e
  · obtain ⟨v, rfl, h⟩ := pair1 hp
    cases e
    obtain ⟨a, kvs, rfl, h1, h2, h3⟩ := h
    exact .inr ⟨a, kvs, rfl, h1, fun p hp => q _ _ (Res.dk hp h2 h3)⟩
  · rename_i o ps
    obtain ⟨v, rfl, h⟩ := pair1 hp
    cases hq : dPairs ps with
    | none => rw [hq] at e; cases e
    | some q' =>
      obtain ⟨ks, es⟩ := q'
      rw [hq] at e
      cases e
      obtain ⟨a, ws, rfl, h1, h2⟩ := h
      obtain ⟨as, kvs, e3, e4, e5, e6⟩ := dPairs_at h2 hq
      subst e3
      obtain ⟨n1, n2⟩ := merge_at (acc := []) e5 e6 rfl fzL_nil
      refine .inl ⟨a, as, kvs, rfl, SqL.of h1, ?_, fun p hp => q _ _ (Res.dk hp n1 n2)⟩
      exact Paired.mapP e4 fun p kv z => SqT.of z
  · cases e
/-! ### join -/
def toStrs : List D → Option (List Str)
  | [] => some []
  | .str s :: r => (toStrs r).map (s :: ·)
  | _ => none
theorem toStrs_at {O : AS} {H : Hp} : ∀ {ds : List D} {vs : List V} {ss : List Str}, FzL C O H ds vs → toStrs ds = some ss → vs = ss.map V.str
  | [], vs, ss, h, e => by unfold OwL at h; subst h; simp only [toStrs] at e; cases e; rfl
  | d :: ds, vs, ss, h, e => by
    obtain ⟨v, r, rfl, h1, h2⟩ := fzL_inv h
    unfold toStrs at e
    split at e
    · rename_i hd; cases hd
    · rename_i s r' hd
      cases hd
      cases e2 : toStrs ds with
      | none => rw [e2] at e; cases e
      | some ss' =>
        rw [e2] at e
        cases e
        unfold Ow at h1
        rw [h1, toStrs_at h2 e2]
        rfl
    · cases e
def dJoin : D → List D → Option D
  | .str a, [x] => match toStrs (kids x) with
    | some ys => match x with
      | .lst _ _ => if (ys.map (·.length)).sum + ys.length * a.length ≤ 16777216 then some (.str (Txt.join a ys)) else none
      | .tup _ => if (ys.map (·.length)).sum + ys.length * a.length ≤ 16777216 then some (.str (Txt.join a ys)) else none
      | _ => none
    | none => none
  | _, _ => none
theorem sp_join {K : PySem.W.Frag} : SpM C (fun x xs H Q => ∃ a p, ∃ ys : List Str, x = .str a ∧ xs = [.ref p] ∧ (SqL K H p (ys.map V.str) ∨ SqT K H p (ys.map V.str)) ∧
    (ys.map (·.length)).sum + ys.length * a.length ≤ 16777216 ∧ Q (.str (Txt.join a ys)) H) dJoin := fun O H x a ds vs d Q ot hx hp e q => by
  cases x with
  | str s =>
    cases ds with
    | nil => cases e
    | cons y r =>
      cases r with
      | cons _ _ => cases e
      | nil =>
        obtain ⟨v, rfl, h⟩ := pair1 hp
        simp only [dJoin] at e
        cases hs : toStrs (kids y) with
        | none => rw [hs] at e; cases e
        | some ys =>
          rw [hs] at e
          cases y with
          | lst o ds =>
            simp only at e
            split at e
            · cases e
              obtain ⟨p, ws, rfl, h1, h2⟩ := h
              have := toStrs_at h2 hs
              subst this
              exact ⟨s, p, ys, hx, rfl, .inl (SqL.of h1), by assumption, q _ _ Res.str⟩
            · cases e
          | tup ds =>
            simp only at e
            split at e
            · cases e
              obtain ⟨p, ws, rfl, h1, h2⟩ := h
              have := toStrs_at h2 hs
              subst this
              exact ⟨s, p, ys, hx, rfl, .inr (SqT.of h1), by assumption, q _ _ Res.str⟩
            · cases e
          | _ => cases e
  | _ => cases e
end
end DL
end

section
set_option Elab.async false
set_option linter.all false
set_option maxRecDepth 100000
set_option maxHeartbeats 2000000
/-! D17: sorted; more that is walked; slices. -/
namespace DL
open PySem PySem.Spec PyProof.Rows L2

/-! ### sorted -/
def leS (a b : Str) : Bool := decide (a.cps.toList ≤ b.cps.toList)
theorem leS_total (a b : Str) : (leS a b || leS b a) = true := by
  unfold leS
  rcases List.le_total a.cps.toList b.cps.toList with h | h
  · simp [h]
  · simp [h]
theorem leS_trans (a b c : Str) (h1 : leS a b = true) (h2 : leS b c = true) : leS a c = true := by
  unfold leS at *
  simp only [decide_eq_true_eq] at *
  exact List.le_trans h1 h2
theorem leS_anti (a b : Str) (h1 : leS a b = true) (h2 : leS b a = true) : a = b := by
  unfold leS at *
  simp only [decide_eq_true_eq] at *
  have := List.le_antisymm h1 h2
  cases a; cases b
  congr
  exact Array.ext' this
theorem rising_pw : ∀ (l : List Str) (x : Str), risingS x l = true → (x :: l).Pairwise fun a b => leS a b = true
  | [], x, _ => by simp
  | y :: r, x, h => by
    unfold risingS at h
    rw [Bool.and_eq_true] at h
    have ih := rising_pw r y h.2
    have hxy : leS x y = true := by
      have h1 := h.1
      rw [ltCps_eq, PySem.W.not_lt_str] at h1
      exact h1
    refine List.pairwise_cons.mpr ⟨fun z hz => ?_, ih⟩
    rcases List.mem_cons.mp hz with rfl | hz
    · exact hxy
    · exact leS_trans _ _ _ hxy ((List.pairwise_cons.mp ih).1 z hz)
theorem sorted_one {ys ks : List Str} (hp : ys.Perm ks) (hs : sortedS ys = true) : ys = ks.mergeSort leS := by
  have p1 : ys.Pairwise fun a b => leS a b = true := by
    cases ys with
    | nil => simp
    | cons x r => exact rising_pw r x hs
  have p2 : (ks.mergeSort leS).Pairwise fun a b => leS a b = true := List.pairwise_mergeSort leS_trans leS_total ks
  exact List.Perm.eq_of_pairwise (fun a b _ _ h1 h2 => leS_anti a b h1 h2) p1 p2 (hp.trans (List.mergeSort_perm ks leS).symm)
def ltD (a b : D) : Bool := match toP a, toP b with
  | some p, some q => PySem.W.dataLt p q
  | _, _ => false
def leD (a b : D) : Bool := !ltD b a
def alikeB (ps : List PyData) : Bool := ps.all fun p => ps.all fun q => PySem.W.alike p q
def isTupP : PyData → Bool
  | .tuple (_ :: _) => true
  | _ => false
def isOthP : PyData → Bool
  | .tuple _ => false
  | .none => false
  | _ => true
def sortB (ps : List PyData) : Bool := alikeB ps && (ps.all isTupP || ps.all isOthP) && ps.all fun p => decide (p.depth ≤ 60)
def sortL (ds : List D) : Option D := match toPs ds with
  | some ps => if ps.length ≤ 2 ^ 24 ∧ sortB ps = true then some (.lst true (ds.mergeSort leD)) else none
  | none => none
def strKeys : List Key → Option (List Str)
  | [] => some []
  | .inr s :: r => (strKeys r).map (s :: ·)
  | _ => none
def dSorted : List D → Option D
  | [.lst _ ds] => sortL ds
  | [.dk _ ks _] => match strKeys ks with
    | some ss => if ss.length < 64 then some (.lst true ((ss.mergeSort leS).map .str)) else none
    | none => none
  | _ => none
section
variable {C : CN} {X : Cx}
theorem alikeB_ok {ps : List PyData} (h : alikeB ps = true) : PySem.W.AllAlike ps := fun d hd d' hd' => by
  unfold alikeB at h
  rw [List.all_eq_true] at h
  have := h d hd
  rw [List.all_eq_true] at this
  exact this d' hd'
theorem sortable_ok {ps : List PyData} (h : (ps.all isTupP || ps.all isOthP) = true) : PySem.W.Sortable ps := by
  rw [Bool.or_eq_true] at h
  rcases h with h | h
  · rw [List.all_eq_true] at h
    refine .inl fun d hd => ?_
    have := h d hd
    cases d with
    | tuple xs =>
      cases xs with
      | nil => cases this
      | cons x r => exact ⟨x, r, rfl⟩
    | _ => cases this
  · rw [List.all_eq_true] at h
    refine .inr fun d hd => ⟨fun z => ?_, fun xs z => ?_⟩
    · have := h d hd; rw [z] at this; cases this
    · have := h d hd; rw [z] at this; cases this
/-- the list at a reads as the data ps: sorted -/
def rSortD (K : PySem.W.Frag) : List V → Hp → VK → Prop := fun vs H Q => ∃ (a : Addr) (ws : List V) (ps : List PyData), vs = [.ref a] ∧ SqL K H a ws ∧ DpAll K H ws ps ∧ ps.length ≤ 2 ^ 24 ∧ sortB ps = true ∧
  ∀ p, H p = none → Q (.ref p) (upd H p (.lst (((ws.zip ps).mergeSort fun x y => !PySem.W.dataLt y.2 x.2).map (·.1))))
theorem dpAll_len {K : PySem.W.Frag} {H : Hp} : ∀ {vs : List V} {ps : List PyData}, DpAll K H vs ps → vs.length = ps.length
  | [], _, h => by cases h; rfl
  | v :: vs, _, h => by cases h with | cons h1 h2 => simp [dpAll_len h2]
theorem zip_each {P : Value → V × PyData → Prop} : ∀ {us : List Value} {ws : List V} {ps : List PyData}, us.length = ws.length → ws.length = ps.length → (∀ (i : Nat) u w p, us[i]? = some u → ws[i]? = some w → ps[i]? = some p → P u (w, p)) → PySem.W.EachIs P us (ws.zip ps)
  | [], [], [], _, _, _ => .nil
  | u :: us, w :: ws, p :: ps, h1, h2, h => .cons (h 0 u w p rfl rfl rfl) (zip_each (by simpa using h1) (by simpa using h2) fun i u w p a b c => h (i + 1) u w p (by simpa using a) (by simpa using b) (by simpa using c))
  | [], _ :: _, _, h, _, _ => by cases h
  | _ :: _, [], _, h, _, _ => by cases h
  | [], [], _ :: _, _, h, _ => by cases h
  | _ :: _, _ :: _, [], _, h, _ => by cases h
theorem call_sortD (hu : X.A.units + 65 < cLine) : CallR X (.builtin "sorted") (rSortD X.K) := by
  intro pins s σ H vs us Q I r h
  obtain ⟨a, ws, ps, rfl, hs, hd, hl, hb, q⟩ := h
  obtain ⟨its, rv, pl, _⟩ := I.list hs
  rw [Vals.ref1 r]
  have lw := dpAll_len hd
  have li := rv.length
  unfold sortB at hb
  rw [Bool.and_eq_true, Bool.and_eq_true] at hb
  obtain ⟨⟨hb1, hb2⟩, hb3⟩ := hb
  have hzp : (ws.zip ps).map (·.2) = ps := List.map_snd_zip (by omega)
  have hzv : (ws.zip ps).map (·.1) = ws := List.map_fst_zip (by omega)
  have eR : PySem.W.EachIs (fun u (b : V × PyData) => RelV b.1 u) its (ws.zip ps) := zip_each (by omega) lw fun i u w p e1 e2 e3 => by
    obtain ⟨u', e4, e5⟩ := rv.get e2
    rw [e1] at e4
    cases e4
    exact e5
  have dpget : ∀ {ws : List V} {ps : List PyData} {i : Nat} {w : V} {p : PyData}, DpAll X.K H ws ps → ws[i]? = some w → ps[i]? = some p → Dp X.K H w p := fun {ws} => by
    induction ws with
    | nil => intro ps i w p h e; simp at e
    | cons v vs ih =>
      intro ps i w p h e1 e2
      cases h with
      | cons h1 h2 =>
        cases i with
        | zero => simp at e1 e2; subst e1; subst e2; exact h1
        | succ i => exact ih h2 (by simpa using e1) (by simpa using e2)
  have eD : PySem.W.EachIs (fun u (b : V × PyData) => ∃ as, Reads s.heap u b.2 as) its (ws.zip ps) := zip_each (by omega) lw fun i u w p e1 e2 e3 => by
    obtain ⟨u', e4, e5⟩ := rv.get e2
    rw [e1] at e4
    cases e4
    exact Dp.reads I p w u (dpget hd e2 e3) e5
  have hdep : ∀ b, b ∈ ws.zip ps → X.A.units + 2 + b.2.depth < cLine := fun b hb => by
    rw [List.all_eq_true] at hb3
    have := hb3 b.2 (by rw [← hzp]; exact List.mem_map.mpr ⟨b, hb, rfl⟩)
    simp only [decide_eq_true_eq] at this
    omega
  refine PySem.W.sorted_data (enc := fun b => b.2) (R := fun u (b : V × PyData) => RelV b.1 u) pl.isList eR eD (by rw [hzp]; exact alikeB_ok hb1) (by rw [hzp]; exact sortable_ok hb2) (by rw [List.length_zip, sz24]; omega) hdep fun out ho eo => ?_
  obtain ⟨ep, he'⟩ := PyProof.Rows.sortedAll_at s.heap its out.toArray
  have hle : PySem.W.dataLe false (fun b : V × PyData => b.2) = fun x y => !PySem.W.dataLt y.2 x.2 := by rw [PySem.W.dataLe_eq]; rfl
  rw [hle] at eo
  have toVals : ∀ {us : List Value} {bs : List (V × PyData)}, PySem.W.EachIs (fun u (b : V × PyData) => RelV b.1 u) us bs → Vals (bs.map (·.1)) us := fun {us bs} e => by
    induction e with
    | nil => exact .nil
    | cons h _ ih => exact .cons h ih
  have rv2 := toVals eo
  have hlen : (((ws.zip ps).mergeSort fun x y => !PySem.W.dataLt y.2 x.2).map (·.1)).length ≤ sizeLine := by
    rw [List.length_map, List.length_mergeSort, List.length_zip, sz24]; omega
  exact ⟨.ref _, upd H (s.heap.objs.size + 1) (.lst (((ws.zip ps).mergeSort fun x y => !PySem.W.dataLt y.2 x.2).map (·.1))), I.laid (t' := s.toks) (fun _ _ => PyProof.Rows.sortedAll_old) (Nat.le_succ _) ⟨hlen, out, ep, rv2, by simpa using he'⟩, rfl, q _ (I.hok.fresh (Nat.le_succ _))⟩
def rSortA (K : PySem.W.Frag) : List V → Hp → VK → Prop := fun xs H Q => rSortD K xs H Q ∨ ∃ (a : Addr) (kvs : List (Key × V)) (ks : List Str), xs = [.ref a] ∧ Rd H a (.dK kvs) ∧ kvs.map (·.1) = ks.map Sum.inr ∧ ks.length < 64 ∧
    ∀ ys p, ys.Perm ks → sortedS ys = true → H p = none → Q (.ref p) (upd H p (.lst (ys.map V.str)))
theorem call_sortA (hc : X.calm = true) (hu : X.A.units + 65 < cLine) : CallR X (.builtin "sorted") (rSortA X.K) := CallR.or (call_sortD hu) (call_sortedD hc)
theorem strKeys_at : ∀ {ks : List Key} {ss : List Str}, strKeys ks = some ss → ks = ss.map Sum.inr
  | [], ss, e => by simp only [strKeys] at e; cases e; rfl
  | .inr s :: r, ss, e => by
    simp only [strKeys] at e
    cases h : strKeys r with
    | none => rw [h] at e; cases e
    | some ss' => rw [h] at e; cases e; rw [strKeys_at h]; rfl
  | .inl _ :: _, ss, e => by simp only [strKeys] at e; cases e
theorem strs_fz {O : AS} {H : Hp} : ∀ (ss : List Str), FzL C O H (ss.map .str) (ss.map V.str)
  | [] => fzL_nil
  | s :: r => fzL_cons (by unfold Ow; rfl) (strs_fz r)
/-- the data sorted, the values beside them -/
theorem sort_fz {O : AS} {H : Hp} {ds : List D} {ws : List V} {ps : List PyData} (h : FzL C O H ds ws) (e : toPs ds = some ps) :
    FzL C O H (ds.mergeSort leD) (((ws.zip ps).mergeSort fun x y => !PySem.W.dataLt y.2 x.2).map (·.1)) := by
  -- triples
  have tl : ∀ {ds : List D} {ps : List PyData}, toPs ds = some ps → ps.length = ds.length := fun {ds} => by
    induction ds with
    | nil => intro ps e; simp only [toPs] at e; cases e; rfl
    | cons d ds ih =>
      intro ps e
      simp only [toPs] at e
      cases h1 : toP d with
      | none => rw [h1] at e; cases e
      | some p =>
        cases h2 : toPs ds with
        | none => rw [h1, h2] at e; cases e
        | some ps' => rw [h1, h2] at e; cases e; simp [ih h2]
  have lp := tl e
  have lw := h.length
  let T : List (D × V × PyData) := ds.zip (ws.zip ps)
  have hd : T.map (·.1) = ds := List.map_fst_zip (by rw [List.length_zip]; omega)
  have hwp : T.map (·.2) = ws.zip ps := List.map_snd_zip (by rw [List.length_zip]; omega)
  have hT : ∀ t ∈ T, toP t.1 = some t.2.2 ∧ Fz C O H t.1 t.2.1 := by
    have key : ∀ {ds : List D} {ws : List V} {ps : List PyData}, FzL C O H ds ws → toPs ds = some ps → ∀ t ∈ ds.zip (ws.zip ps), toP t.1 = some t.2.2 ∧ Fz C O H t.1 t.2.1 := fun {ds} => by
      induction ds with
      | nil => intro ws ps h e t ht; simp at ht
      | cons d ds ih =>
        intro ws ps h e t ht
        obtain ⟨w, r, rfl, h1, h2⟩ := fzL_inv h
        simp only [toPs] at e
        cases e1 : toP d with
        | none => rw [e1] at e; cases e
        | some p =>
          cases e2 : toPs ds with
          | none => rw [e1, e2] at e; cases e
          | some ps' =>
            rw [e1, e2] at e
            cases e
            simp only [List.zip_cons_cons, List.mem_cons] at ht
            rcases ht with rfl | ht
            · exact ⟨e1, h1⟩
            · exact ih h2 e2 t ht
    exact key h e
  let le : D × V × PyData → D × V × PyData → Bool := fun x y => !PySem.W.dataLt y.2.2 x.2.2
  have m1 : (T.mergeSort le).map (·.1) = ds.mergeSort leD := by
    rw [← hd]
    refine List.map_mergeSort fun a ha b hb => ?_
    show (!PySem.W.dataLt b.2.2 a.2.2) = !ltD b.1 a.1
    unfold ltD
    rw [(hT a ha).1, (hT b hb).1]
  have m2 : (T.mergeSort le).map (·.2) = (ws.zip ps).mergeSort fun x y => !PySem.W.dataLt y.2 x.2 := by
    rw [← hwp]
    exact List.map_mergeSort fun a _ b _ => rfl
  rw [← m1, ← m2, List.map_map]
  have mem : ∀ t ∈ T.mergeSort le, Fz C O H t.1 t.2.1 := fun t ht => (hT t (List.mem_mergeSort.mp ht)).2
  have fin : ∀ (L : List (D × V × PyData)), (∀ t ∈ L, Fz C O H t.1 t.2.1) → FzL C O H (L.map (·.1)) (L.map ((·.1) ∘ (·.2))) := fun L => by
    induction L with
    | nil => intro _; exact fzL_nil
    | cons t L ih => intro hL; exact fzL_cons (hL t List.mem_cons_self) (ih fun t ht => hL t (List.mem_cons_of_mem _ ht))
  exact fin _ mem
theorem sp_sort {K : PySem.W.Frag} : SpN C (rSortA K) dSorted := fun O H ds vs d Q ot hp e q => by
  unfold dSorted at e
  split at e
  · rename_i o ds
    obtain ⟨v, rfl, h⟩ := pair1 hp
    unfold sortL at e
    cases hps : toPs ds with
    | none => rw [hps] at e; cases e
    | some ps =>
      rw [hps] at e
      simp only at e
      split at e
      · rename_i hc
        cases e
        obtain ⟨a, ws, rfl, h1, h2⟩ := h
        exact .inl ⟨a, ws, ps, rfl, SqL.of h1, toPs_dp ds ws ps h2 hps, hc.1, hc.2, fun p hp => q _ _ (Res.lst hp (sort_fz h2 hps))⟩
      · cases e
  · rename_i o ks ds
    obtain ⟨v, rfl, h⟩ := pair1 hp
    cases hs : strKeys ks with
    | none => rw [hs] at e; cases e
    | some ss =>
      rw [hs] at e
      simp only at e
      split at e
      · cases e
        obtain ⟨a, kvs, rfl, h1, h2, h3⟩ := h
        refine .inr ⟨a, kvs, ss, rfl, h1, by rw [h2]; exact strKeys_at hs, by assumption, fun ys p hy hsd hp => ?_⟩
        rw [sorted_one hy hsd]
        exact q _ _ (Res.lst hp (strs_fz _))
      · cases e
  · cases e
end
end DL
end

section
set_option Elab.async false
set_option linter.all false
set_option maxRecDepth 100000
set_option maxHeartbeats 2000000
/-! D18: slices; ranges, items, zip, enumerate walked. -/
namespace DL
open PySem PySem.Spec PyProof.Rows L2 HT

theorem fm_congr {α β : Type} {f g : α → Option β} : ∀ {l : List α}, (∀ x ∈ l, f x = g x) → l.filterMap f = l.filterMap g
  | [], _ => rfl
  | x :: l, h => by rw [List.filterMap_cons, List.filterMap_cons, h x List.mem_cons_self, fm_congr fun y hy => h y (List.mem_cons_of_mem _ hy)]
section
variable {prog : Program} {w : World} {A : Around} {E : Value → Shared → Prop} {s : Shared}
theorem places_rev (n : Nat) : Builtin.Slice.slicePlaces ((n : Int) - 1) (-1) (-1) = n := by
  unfold Builtin.Slice.slicePlaces
  have h1 : ¬ ((-1 : Int) > 0) := by omega
  simp only [h1, if_false]
  split
  · have : (-(-1 : Int)) = 1 := by omega
    rw [this, Int.ediv_one]
    omega
  · omega
theorem sliceApplied_rev {sl : Addr} {vl vu vs : Value} {n : Nat} {Q : Int × Int × Nat → Shared → Prop} (hs : s.heap.IsSliceOf sl vl vu vs) (pl : IsPart vl none) (pu : IsPart vu none) (ps : IsPart vs (some (-1)))
    (h : Q ((n : Int) - 1, -1, n) s) : wpAny (model prog w) A (Builtin.Slice.sliceApplied (.ref sl) (pure (n : Int))) Q E s := by
  obtain ⟨os, hos, hcs, hds⟩ := id hs
  unfold Builtin.Slice.sliceApplied Builtin.Slice.sliceFields
  refine wpAny_bind (wpAny_bind (wpAny_field hos hds (x := vl) rfl (wpAny_bind (wpAny_field hos hds (x := vu) rfl (wpAny_bind (wpAny_field hos hds (x := vs) rfl (wpAny_pure ?_)))))))
  refine wpAny_bind (slicePart_ ps ?_)
  show wpAny _ _ (if ((-1 : Int) == 0) = true then _ else _) _ _ s
  rw [if_neg (by decide)]
  refine wpAny_bind (slicePart_ pl (wpAny_bind (slicePart_ pu (wpAny_bind (wpAny_pure ?_)))))
  show wpAny _ _ (match Builtin.Slice.sliceAdjust none none (-1) (n : Int) with | (lo, hi) => pure (lo, (-1 : Int), Builtin.Slice.slicePlaces lo hi (-1))) _ _ s
  have e : Builtin.Slice.sliceAdjust none none (-1) (n : Int) = ((n : Int) - 1, -1) := by
    unfold Builtin.Slice.sliceAdjust
    have h1 : ((-1 : Int) < 0) := by omega
    simp only [h1, if_true]
  rw [e]
  show wpAny _ _ (pure ((n : Int) - 1, (-1 : Int), Builtin.Slice.slicePlaces ((n : Int) - 1) (-1) (-1))) _ _ s
  rw [places_rev]
  exact wpAny_pure h
theorem pick_rev (xs : Array Value) : ((List.range xs.size).filterMap fun (m : Nat) => xs[(((xs.size : Int) - 1) + (m : Int) * (-1)).toNat]?).toArray = xs.toList.reverse.toArray := by
  have key : ((List.range xs.size).filterMap fun (m : Nat) => xs[(((xs.size : Int) - 1) + (m : Int) * (-1)).toNat]?) = xs.toList.reverse := by
    have e : ∀ m ∈ List.range xs.size, xs[(((xs.size : Int) - 1) + (m : Int) * (-1)).toNat]? = xs.toList.reverse[m]? := fun m hm => by
      have hm' : m < xs.size := List.mem_range.mp hm
      have : (((xs.size : Int) - 1) + (m : Int) * (-1)).toNat = xs.size - 1 - m := by omega
      rw [this, List.getElem?_reverse (by simpa using hm'), Array.length_toList, Array.getElem?_toList]
    rw [fm_congr e]
    have := fun (l : List Value) => (show (List.range l.length).filterMap (fun m => l[m]?) = l from by
      apply List.ext_getElem?
      intro i
      have : (List.range l.length).filterMap (fun m => l[m]?) = l := by
        induction l with
        | nil => rfl
        | cons x l ih =>
          rw [List.length_cons, List.range_succ_eq_map, List.filterMap_cons]
          simp only [List.getElem?_cons_zero, List.filterMap_map]
          congr 1
      rw [this])
    have h2 := this xs.toList.reverse
    rw [List.length_reverse, Array.length_toList] at h2
    exact h2
  rw [key]
theorem getItem_tuple_rev {t sl : Addr} {items : Array Value} {vl vu vs : Value} {Q : Value → Shared → Prop} (ht : IsTup s.heap t items) (hs : s.heap.IsSliceOf sl vl vu vs) (pl : IsPart vl none) (pu : IsPart vu none) (ps : IsPart vs (some (-1)))
    (h : Q (.ref s.heap.objs.size) { s with heap := s.heap.push { cls := .type "tuple", data := .seq items.toList.reverse.toArray } })
    (hsz : items.size ≤ sizeLine) : wpAny (model prog w) A (getItem (.ref t) (.ref sl)) Q E s := by
  have htake : sizeOk (.seq items.toList.reverse.toArray) := by
    show items.toList.reverse.toArray.size ≤ sizeLine
    rw [List.size_toArray, List.length_reverse, Array.length_toList]
    omega
  obtain ⟨os, hos, hcs, hds⟩ := id hs
  have hTs : s.TypeIs (.ref sl) "slice" := ⟨os, hos, hcs⟩
  unfold getItem
  try with_reducible refine wpAny_holding ?_
  first | refine wpAny_bind (wpAny_pure ?_) | skip
  refine wpAny_bind (wpAny_sequenceKey ht.typeIs (by decide) ?_)
  refine wpAny_bind (wpAny_callSpecial?_slot (name := Str.ofString "__getitem__") ht.typeIs PyProof.Rows.slot_tuple_getitem
    (wpAny_call_entry PyProof.Rows.slot_tuple_getitem ht.typeIs entry_tuple_getitem ?_ (args_tuple_getitem _ _)))
  show wpAny _ _ (Builtin.Tuple.tupleItemsOf (.ref t) >>= _) _ _ s
  refine wpAny_bind (tupleItemsOf_ ht ?_)
  refine wpAny_bind (wpAny_typeOf hTs ?_)
  rw [if_pos (by decide)]
  refine wpAny_bind (sliceApplied_rev hs pl pu ps ?_)
  have hno : ¬ ((((items.size : Int) - 1) == 0 && (-1 : Int) == 1 && items.size == items.size) = true) := by
    intro q
    rw [Bool.and_eq_true, Bool.and_eq_true] at q
    exact absurd q.1.2 (by decide)
  show wpAny _ _ (if (((items.size : Int) - 1) == 0 && (-1 : Int) == 1 && items.size == items.size) = true then _ else _) _ _ s
  rw [if_neg hno, pick_rev]
  first
    | exact wpAny_bind (m := Builtin.Tuple.tupleExact _) (wpAny_newObj_type (wpAny_pure ⟨_, rfl, wpAny_pure h⟩) htake)
    | exact wpAny_bind (m := Builtin.Tuple.tupleExact _) (wpAny_newObj_type (wpAny_bind (wpAny_pure (wpAny_pure ⟨_, rfl, wpAny_pure h⟩))) htake)
    | exact wpAny_bind (wpAny_bind (m := Builtin.Tuple.tupleExact _) (wpAny_newObj_type (wpAny_pure (wpAny_pure ⟨_, rfl, wpAny_pure h⟩)) htake))
    | exact wpAny_bind (wpAny_bind (m := Builtin.Tuple.tupleExact _) (wpAny_newObj_type (wpAny_pure ⟨_, rfl, wpAny_pure h⟩) htake))
end
/-- x[::-1], a list or a tuple -/
def rRev (K : PySem.W.Frag) : V → Hp → VK → Prop := fun x H1 Q => ∃ a xs, x = .ref a ∧ ((SqL K H1 a xs ∧ ∀ p, H1 p = none → Q (.ref p) (upd H1 p (.lst xs.reverse))) ∨ (SqT K H1 a xs ∧ ∀ p, H1 p = none → Q (.ref p) (upd H1 p (.tup xs.reverse))))
theorem pe_rev {X : Cx} {e : Expr} {te : TE} {k : Nat} {p1 p2 p3 pos : Pos} (he : PE X e te) : PE X (.Subscript e (.Slice none none (some (.UnaryOp .USub (.Constant (.int 1) k p1) p2)) p3) pos) (fun σ H Q => te σ H fun x H1 => rRev X.K x H1 Q) := by
  refine ⟨fun pins s σ H Q I h => ?_⟩
  refine Subscript_ (thn (he.run pins s σ H _ I h) fun v s1 ⟨x, H1, I1, r1, q1⟩ => ?_)
  obtain ⟨a, xs, ex, q⟩ := q1
  subst ex
  cases r1
  have hst : PO X (some (.UnaryOp .USub (.Constant (.int 1) k p1) p2)) (tPart (tUn (rU fun i => .int (-i)) (tC (.int 1)))) := po_some (pe_un un_neg pe_int)
  refine wpAny_Slice (thn (po_none.run pins s1 σ H1 (fun o H2 => o = none ∧ H2 = H1) I1 ⟨rfl, rfl⟩) fun vl s2 ⟨l, H2, I2, pl, el, e2⟩ => ?_)
  subst el e2
  refine thn (po_none.run pins s2 σ H2 (fun o H3 => o = none ∧ H3 = H2) I2 ⟨rfl, rfl⟩) fun vu s3 ⟨u, H3, I3, pu, eu, e3⟩ => ?_
  subst eu e3
  refine thn (hst.run pins s3 σ H3 (fun o H4 => o = some (-1) ∧ H4 = H3) I3 ⟨1, rfl, -1, rfl, rfl, rfl⟩) fun vs s4 ⟨o, H4, I4, ps, eo, e4⟩ => ?_
  subst eo e4
  have I5 : Inv X pins σ H4 { s4 with heap := s4.heap.push { cls := .type "slice", data := .fields #[vl, vu, vs] } } := I4.kept (t' := s4.toks) fun b ob q => Heap.get?_push_of_some _ q
  show wpAny (model X.prog X.w) X.A (subscriptTail e (.Slice none none (some (.UnaryOp .USub (.Constant (.int 1) k p1) p2)) p3) (.ref a) (.ref s4.heap.objs.size)) (EP X pins σ Q) X.xe { s4 with heap := s4.heap.push { cls := .type "slice", data := .fields #[vl, vu, vs] } }
  rcases q with ⟨hx, q⟩ | ⟨hx, q⟩
  · obtain ⟨its, r, ht, hz⟩ := I5.list hx
    have hlen := r.length
    refine tail_any (ops := [.ref a, .ref s4.heap.objs.size]) ht.isList.typeIs (PySem.slot_list_getitem.lookup) ?_ (by with_unfolding_all rfl)
    refine wpAny_getItem_list_slice ht.isList (Heap.IsSliceOf.new _ vl vu vs) pl pu ps (by decide) ?_ (by rw [List.size_toArray]; omega)
    rw [PySem.W.krv_pick]
    refine ⟨.ref _, _, I5.laid (t' := s4.toks) (o := .lst xs.reverse) (fun b ob q => Heap.get?_push_of_some _ q) (Nat.le_refl _) ?_, rfl, q _ (I5.hok.fresh (Nat.le_refl _))⟩
    exact ⟨by rw [List.length_reverse]; exact hz, _, 0, r.reverse, Heap.get?_push_size _ rfl⟩
  · obtain ⟨its, r, ht, hz⟩ := I5.tuple hx
    have hlen := r.length
    refine tail_any (ops := [.ref a, .ref s4.heap.objs.size]) ht.typeIs (PyProof.Rows.slot_tuple_getitem.lookup) ?_ (by with_unfolding_all rfl)
    refine getItem_tuple_rev ht (Heap.IsSliceOf.new _ vl vu vs) pl pu ps ?_ (by rw [List.size_toArray]; omega)
    refine ⟨.ref _, _, I5.laid (t' := s4.toks) (o := .tup xs.reverse) (fun b ob q => Heap.get?_push_of_some _ q) (Nat.le_refl _) ?_, rfl, q _ (I5.hok.fresh (Nat.le_refl _))⟩
    exact ⟨by rw [List.length_reverse]; exact hz, _, r.reverse, by
      have := IsTup.new (s4.heap.push { cls := .type "slice", data := .fields #[vl, vu, vs] }) its.reverse.toArray
      simpa using this⟩
def dRev : D → Option D
  | .lst _ ds => some (.lst true ds.reverse)
  | .tup ds => some (.tup ds.reverse)
  | _ => none
def op1 (g : D → Option D) (m : M Tk) : M D := M.bind m fun t => fun ρ => match t.get ρ with
  | some x => M.opt (g x) ρ
  | none => .bad
section
variable {W : Dx} {E : XK} {X : Cx}
theorem op1_rd {r : V → Hp → VK → Prop} {g : D → Option D} (hr : ∀ O H x a d Q, OT O H → Vw W.C O H x a → g x = some d → (∀ v H', Res W.C O H d v H' → Q v H') → r a H Q) {m : M Tk} {σ : L2.St} {H : Hp} {Q : VK} (h : dT W E (DR W) (op1 g m) σ H Q) : dT W E (TkR W) m σ H fun x H1 => r x H1 Q := by
  obtain ⟨B, Fs, ρ, r0, p⟩ := h
  refine ⟨B, Fs, ρ, r0, (Post.step (fun _ z => z) .refl p).mono fun x H1 ⟨Fs1, F1, t, ρ1, _, r1, ht, s1, f1, p1⟩ => ?_⟩
  cases gx : t.get ρ1 with
  | none => simp only [gx] at p1; exact p1.elim
  | some d0 =>
    simp only [gx] at p1
    cases gd : g d0 with
    | none => rw [gd] at p1; exact p1.elim
    | some d =>
      rw [gd] at p1
      exact hr _ H1 d0 x d Q r1.ot (ht.get r1 gx) gd fun v H' rs => Post.res (fun a z => .inl z) s1 r1 rs p1
theorem de_rev {e : Expr} {m : M Tk} {k : Nat} {p1 p2 p3 pos : Pos} (h : DK W E X e m) : DE W E X (.Subscript e (.Slice none none (some (.UnaryOp .USub (.Constant (.int 1) k p1) p2)) p3) pos) (op1 dRev m) :=
  mnE (pe_rev h) fun σ H Q q => op1_rd (fun O H x a d Q ot hx e q => by
    cases x <;> simp only [dRev] at e <;> try (cases e; done)
    · cases e
      obtain ⟨p, vs, rfl, h1, h2⟩ := hx
      exact ⟨p, vs, rfl, .inr ⟨SqT.of h1, fun p hp => q _ _ (Res.tup hp (fzL_rev h2) (ot.new hp))⟩⟩
    · cases e
      obtain ⟨p, vs, rfl, h1, h2⟩ := hx
      exact ⟨p, vs, rfl, .inl ⟨SqL.of h1, fun p hp => q _ _ (Res.lst hp (fzL_rev h2))⟩⟩) q
/-! ### slices -/
def OR : RR (Option Int) (Option Int) := fun o _ _ _ F p => (∀ a, ¬ F a) ∧ o = p
def DO (W : Dx) (E : XK) (X : Cx) (e : Option Expr) (m : M (Option Int)) : Prop := PO X e (dT W E OR m)
theorem mnO {X : Cx} {e : Option Expr} {t t' : TO} (h : PO X e t) (hm : ∀ σ H Q, t' σ H Q → t σ H Q) : PO X e t' := ⟨fun pins s σ H Q I q => h.run pins s σ H Q I (hm _ _ _ q)⟩
def partM (m : M Tk) : M (Option Int) := M.bind m fun t => fun ρ => match t.get ρ with
  | some (.int i) => .ok (some i) ρ
  | _ => .bad
theorem do_none : DO W E X none (M.pure none) := mnO po_none fun σ H Q h => dT_pure_rd (R := OR) h fun _ => ⟨fun _ z => z, rfl⟩
theorem do_some {e : Expr} {m : M Tk} (h : DK W E X e m) : DO W E X (some e) (partM m) := mnO (po_some h) fun σ H Q q => by
  obtain ⟨B, Fs, ρ, r0, p⟩ := q
  refine ⟨B, Fs, ρ, r0, (Post.step (fun _ z => z) .refl p).mono fun x H1 ⟨Fs1, F1, t, ρ1, _, r1, ht, s1, f1, p1⟩ => ?_⟩
  cases gx : t.get ρ1 with
  | none => simp only [gx] at p1; exact p1.elim
  | some d =>
    cases d with
    | int i =>
      simp only [gx] at p1
      have hv : x = .int i := ht.get r1 gx
      exact ⟨i, hv, p1 (some i) H1 Fs1 A0 (r1.drop.u0 fun _ z => z) ⟨fun _ z => z, rfl⟩ s1 fun _ z => z.elim⟩
    | _ => simp only [gx] at p1; exact p1.elim
def cutD {α : Type} (xs : List α) (lo hi : Option Int) : List α := (xs.drop (HT.sIx xs.length 0 lo)).take (HT.sIx xs.length xs.length hi - HT.sIx xs.length 0 lo)
def dSlice (lo hi : Option Int) : D → Option D
  | .lst _ ds => some (.lst true (cutD ds lo hi))
  | .tup ds => some (.tup (cutD ds lo hi))
  | .str z => if z.length ≤ 2 ^ 24 then some (.str (cutS z lo hi)) else none
  | .scr ns => some (.lst true ((cutD ns lo hi).map .int))
  | _ => none
def sliceM (mo : M Tk) (ml mh : M (Option Int)) : M D := M.bind mo fun t => M.bind ml fun lo => M.bind mh fun hi => fun ρ => match t.get ρ with
  | some x => M.opt (dSlice lo hi x) ρ
  | none => .bad
def rSlAll (K : PySem.W.Frag) : V → Option Int → Option Int → Hp → VK → Prop := fun x lo hi H Q => (rSlL K x lo hi H Q ∨ rSlA K x lo hi H Q) ∨ rSlS x lo hi H Q
theorem sl_all : SlR X (rSlAll X.K) := (sl_list.or sl_tupA).or sl_str
theorem fzL_cut {C : CN} {O : AS} {H : Hp} {ds : List D} {vs : List V} {lo hi : Option Int} (h : FzL C O H ds vs) : FzL C O H (cutD ds lo hi) (cutV vs lo hi) := by
  unfold cutD cutV
  rw [h.length]
  exact fzL_take _ (fzL_drop _ h)
theorem ints_fz {C : CN} {O : AS} {H : Hp} : ∀ ns : List Int, FzL C O H (ns.map .int) (ns.map V.int)
  | [] => fzL_nil
  | n :: r => fzL_cons (by unfold Ow; rfl) (ints_fz r)
theorem sp_slice {C : CN} {K : PySem.W.Frag} (hK : C.K = K) {lo hi : Option Int} : ∀ O H x a d Q, OT O H → Vw C O H x a → dSlice lo hi x = some d → (∀ v H', Res C O H d v H' → Q v H') → rSlAll K a lo hi H Q := fun O H x a d Q ot hx e q => by
  cases x <;> simp only [dSlice] at e <;> try (cases e; done)
  · rename_i z
    split at e
    · cases e
      exact .inr ⟨z, hx, by rw [sz24]; assumption, q _ _ Res.str⟩
    · cases e
  · rename_i ds
    cases e
    have fzw := vw_tup ot hx
    obtain ⟨p, vs, rfl, h1, h2⟩ := hx
    refine .inl (.inr ⟨p, vs, rfl, SqT.of h1, fun hw => ?_, fun _ p hp => q _ _ (Res.tup hp (fzL_cut h2) (ot.new hp))⟩)
    have : cutD ds lo hi = ds := by
      unfold cutD
      rw [← h2.length, hw.1, hw.2, List.drop_zero, Nat.sub_zero, h2.length, List.take_length]
    exact q _ _ (Res.same (by rw [this]; exact fzw))
  · rename_i o ds
    cases e
    obtain ⟨p, vs, rfl, h1, h2⟩ := hx
    exact .inl (.inl ⟨p, vs, rfl, SqL.of h1, fun p hp => q _ _ (Res.lst hp (fzL_cut h2))⟩)
  · rename_i ns
    cases e
    obtain ⟨p, rfl, h1⟩ := hx
    refine .inl (.inl ⟨p, _, rfl, by rw [← hK]; exact h1, fun p hp => q _ _ (Res.lst hp ?_)⟩)
    have : cutV (ns.map V.int) lo hi = (cutD ns lo hi).map V.int := by
      unfold cutV cutD
      rw [List.length_map, List.map_take, List.map_drop]
    rw [this]
    exact ints_fz _
theorem de_slice {e : Expr} {lo hi : Option Expr} {mo : M Tk} {ml mh : M (Option Int)} {p2 pos : Pos} (hK : W.C.K = X.K) (ho : DK W E X e mo) (hl : DO W E X lo ml) (hh : DO W E X hi mh) : DE W E X (.Subscript e (.Slice lo hi none p2) pos) (sliceM mo ml mh) :=
  mnE (pe_slice sl_all ho hl hh) fun σ H Q h => by
    obtain ⟨B, Fs, ρ, r0, p⟩ := h
    refine ⟨B, Fs, ρ, r0, (Post.step (fun _ z => z) .refl p).mono fun x H1 ⟨Fs1, F1, t, ρ1, _, r1, ht, s1, f1, p1⟩ => ?_⟩
    have e1 : U B F1 = B := u0 ht.1
    rw [e1] at r1 ht
    refine ⟨B, Fs1, ρ1, r1, (Post.step (R := OR) (fun _ z => z) s1 p1).mono fun l H2 ⟨Fs2, F2, lo', ρ2, _, r2, hl', s2, f2, p2⟩ => ?_⟩
    obtain ⟨hF2, e2'⟩ := hl'
    subst e2'
    rw [u0 hF2] at r2
    refine ⟨B, Fs2, ρ2, r2, (Post.step (R := OR) (fun _ z => z) (s1.trans s2) p2).mono fun u H3 ⟨Fs3, F3, hi', ρ3, _, r3, hh', s3, f3, p3⟩ => ?_⟩
    obtain ⟨hF3, e3'⟩ := hh'
    subst e3'
    rw [u0 hF3] at r3
    have ht3 : TkR W t (OO B Fs3) H3 σ A0 x := (ht.stay s2 fun a z => .inl z).stay s3 fun a z => .inl z
    cases gx : t.get ρ3 with
    | none => simp only [gx] at p3; exact p3.elim
    | some d0 =>
      simp only [gx] at p3
      cases gd : dSlice lo' hi' d0 with
      | none => rw [gd] at p3; exact p3.elim
      | some d =>
        rw [gd] at p3
        exact sp_slice hK _ H3 d0 x d Q r3.ot (ht3.get r3 gx) gd fun v H' rs => Post.res (fun a z => z) ((s1.trans s2).trans s3) r3 rs p3
end
end DL
end

section
set_option Elab.async false
set_option linter.all false
set_option maxRecDepth 100000
set_option maxHeartbeats 2000000
/-! D19: ranges, items, zip, enumerate walked; list(d.items()). -/
namespace DL
open PySem PySem.Spec PyProof.Rows L2 RZ

section
variable {W : Dx} {E : XK} {X : Cx}
/-- the walked thing from operands -/
def itN (g : List D → Option (List D)) (m : M (List Tk)) : M (List D) := M.bind m fun ts => fun ρ => match getL ρ ts with
  | some ds => M.opt (g ds) ρ
  | none => .bad
theorem itN_rd {B Fs : _} {g : List D → Option (List D)} {m : M (List Tk)} {σ : L2.St} {H : Hp} {R : It → Hp → Prop} {ρ : Rho} (r0 : Rel W B Fs σ H ρ) (p : PostI W E B Fs σ H (itN g m ρ) R) {S : List V → Hp → Prop}
    (hS : ∀ (Fs1 : Nat → AS) (ρ1 : Rho) (H1 : Hp) (ds es : List D) (vs : List V), Rel W B Fs1 σ H1 ρ1 → Paired (fun d v => Vw W.C (OO B Fs1) H1 d v) ds vs → g ds = some es →
      (∀ J H' Fs', Rel W B Fs' σ H' ρ1 → ItOk W.C (OO B Fs') H' J es → Stp B Fs1 Fs' H1 H' → R J H') → S vs H1) : dT W E (TksR W) m σ H S := by
  refine ⟨B, Fs, ρ, r0, ?_⟩
  unfold itN M.bind at p
  cases hm : m ρ with
  | bad => rw [hm] at p; exact p.elim
  | exc c ρ2 => rw [hm] at p; exact fun H2 Fs2 r s => (show PostI W E B Fs σ H (.exc c ρ2) R from p) H2 Fs2 r s
  | ok ts ρ1 =>
    rw [hm] at p
    intro vs H1 Fs1 F1 r1 ht s1 f1
    have e1 : U B F1 = B := u0 ht.1
    rw [e1] at r1 ht
    cases gx : getL ρ1 ts with
    | none => simp only [gx] at p; exact p.elim
    | some ds =>
      simp only [gx] at p
      cases gd : g ds with
      | none => rw [gd] at p; exact p.elim
      | some es =>
        rw [gd] at p
        exact hS Fs1 ρ1 H1 ds es vs r1 (paired_get r1 ht.2 gx) gd fun J H' Fs' r' ik s' => p J H' Fs' r' ik (s1.trans s')
def okR (i : Int) : Bool := decide (-(2 ^ 62) ≤ i) && decide (i < 2 ^ 62)
def gRng1 : List D → Option (List D)
  | [.int j] => if okR j = true then some ((List.range j.toNat).map fun i => .int (0 + (i : Nat))) else none
  | _ => none
def gRng2 : List D → Option (List D)
  | [.int i, .int j] => if okR i = true ∧ okR j = true then some ((List.range (j - i).toNat).map fun k => .int (i + (k : Nat))) else none
  | _ => none
theorem okR_iff {i : Int} : okR i = true ↔ -(2 ^ 62) ≤ i ∧ i < 2 ^ 62 := by
  unfold okR
  rw [Bool.and_eq_true, decide_eq_true_eq, decide_eq_true_eq]
theorem itOk_rng {C : CN} {O : AS} {H : Hp} {lo : Int} {n : Nat} : ItOk C O H (Itr lo n) ((List.range n).map fun i => .int (lo + (i : Nat))) := by
  refine ⟨_, _, by rw [List.length_map, List.length_range]; exact walk_range, fun _ _ => trivial, fun i H' x H'' d e k y => ?_⟩
  obtain ⟨rfl, rfl⟩ := y
  refine ⟨.refl, fun O' g _ => ?_⟩
  rw [List.getElem?_map] at e
  cases h : (List.range n)[i]? with
  | none => rw [h] at e; cases e
  | some j =>
    rw [h] at e
    cases e
    have : j = i := by
      have := List.getElem?_range (n := n) (i := i)
      rw [List.getElem?_eq_some_iff] at h
      obtain ⟨h1, h2⟩ := h
      simpa using h2.symm
    subst this
    unfold Ow
    rfl
theorem pair2 {α β : Type} {R : α → β → Prop} {a a' : α} {bs : List β} (h : Paired R [a, a'] bs) : ∃ b b', bs = [b, b'] ∧ R a b ∧ R a' b' := by
  cases h with
  | cons r t =>
    obtain ⟨b', rfl, h⟩ := pair1 t
    exact ⟨_, b', rfl, r, h⟩
theorem di_rng1 {tg a : Expr} {m : M (List Tk)} {p pos : Pos} (hg : Gl X "range") (hm : X.mg "range" = none) (ha : DA W E X [a] m) (hs : starEach [a] X.env = [(false, eval a X.env)] := by rfl) : DI W E X tg (.Call (.Name "range" p) [a] [] pos) (itN gRng1 m) :=
  ⟨fun pins s σ H R I h => (pi_range1 hg hm ha hs).run pins s σ H R I (by
    obtain ⟨B, Fs, ρ, r, p⟩ := h
    refine itN_rd r p fun Fs1 ρ1 H1 ds es vs r1 hp e q => ?_
    unfold gRng1 at e
    split at e
    · rename_i j
      obtain ⟨v, rfl, h1⟩ := pair1 hp
      split at e
      · rename_i hj
        cases e
        obtain ⟨b1, b2⟩ := okR_iff.mp hj
        have h1' : v = .int j := h1
        subst h1'
        exact ⟨j, rfl, b1, b2, q _ H1 Fs1 r1 itOk_rng .refl⟩
      · cases e
    · cases e)⟩
theorem di_rng2 {tg a b : Expr} {m : M (List Tk)} {p pos : Pos} (hg : Gl X "range") (hm : X.mg "range" = none) (ha : DA W E X [a, b] m) (hs : starEach [a, b] X.env = [(false, eval a X.env), (false, eval b X.env)] := by rfl) (hs2 : starEach [b] X.env = [(false, eval b X.env)] := by rfl) : DI W E X tg (.Call (.Name "range" p) [a, b] [] pos) (itN gRng2 m) :=
  ⟨fun pins s σ H R I h => (pi_range2 hg hm ha hs hs2).run pins s σ H R I (by
    obtain ⟨B, Fs, ρ, r, p⟩ := h
    refine itN_rd r p fun Fs1 ρ1 H1 ds es vs r1 hp e q => ?_
    unfold gRng2 at e
    split at e
    · rename_i i j
      obtain ⟨v, v', rfl, h1, h2⟩ := pair2 hp
      split at e
      · rename_i hj
        cases e
        obtain ⟨b1, b2⟩ := okR_iff.mp hj.1
        obtain ⟨b3, b4⟩ := okR_iff.mp hj.2
        have h1' : v = .int i := h1
        have h2' : v' = .int j := h2
        subst h1'
        subst h2'
        exact ⟨i, j, rfl, ⟨b1, b2, b3, b4⟩, q _ H1 Fs1 r1 itOk_rng .refl⟩
      · cases e
    · cases e)⟩
/-! ### pairs -/
theorem itOk_pair {C : CN} {O : AS} {H : Hp} {J : It} {n : Nat} {G : Hp → Prop} {f g : Nat → Option V} {as bs : List D} (hw : Walk J n G (YPair f g)) (hG : ∀ H', Keep O H H' → G H') (hn : n = min as.length bs.length)
    (hf : ∀ (i : Nat) x d, f i = some x → as[i]? = some d → Fz C O H d x) (hg : ∀ (i : Nat) x d, g i = some x → bs[i]? = some d → Fz C O H d x) : ItOk C O H J (List.zipWith (fun a b => .tup [a, b]) as bs) := by
  refine ⟨G, YPair f g, by rw [List.length_zipWith, ← hn]; exact hw, hG, fun i H' x H'' d e k y => ?_⟩
  obtain ⟨T, u, v, rfl, hT, rfl, h1, h2⟩ := y
  refine ⟨alc_new hT, fun O' gr ot => ?_⟩
  rw [List.getElem?_zipWith] at e
  cases ha : as[i]? with
  | none => rw [ha] at e; cases e
  | some a =>
    cases hb : bs[i]? with
    | none => rw [ha, hb] at e; cases e
    | some b =>
      rw [ha, hb] at e
      cases e
      have fa := fz_keep k gr (hf i u a h1 ha)
      have fb := fz_keep k gr (hg i v b h2 hb)
      have := Res.tup (C := C) (p := T) hT (fzL_cons fa (fzL_cons fb fzL_nil)) (ot.new hT)
      obtain ⟨_, F, fr, fd, ow⟩ := this
      refine Ow.shr (fun a z => .inl z) _ _ (Ow.isFz _ _ rfl ow)
/-- d.items(), walked -/
def dItems : List D → Option (List D)
  | [.dk _ ks ds] => some (List.zipWith (fun a b => .tup [a, b]) (ks.map kD) ds)
  | _ => none
def itV (g : D → Option (List D)) (m : M D) : M (List D) := M.bind m fun d => M.opt (g (fz d))
def dItems1 : D → Option (List D)
  | .dk _ ks ds => some (List.zipWith (fun a b => .tup [a, b]) (ks.map kD) ds)
  | _ => none
theorem di_items {elts : List Expr} {kk : Nat} {tpos apos cpos : Pos} {e : Expr} {m : M D} (h : DE W E X e m) (hbase : attributeBase e "items" X.env (eval e X.env) = eval e X.env := by rfl) (hline : (apos.endLine == cpos.line) = true := by rfl) :
    DI W E X (.Tuple elts kk tpos) (.Call (.Attribute e "items" apos) [] [] cpos) (itV dItems1 m) :=
  ⟨fun pins s σ H R I hh => (pi_items (pe_know h) hbase hline).run pins s σ H R I (by
    obtain ⟨B, Fs, ρ, r, p⟩ := hh
    refine ⟨B, Fs, ρ, r, ?_⟩
    unfold itV M.bind at p
    cases hm : m ρ with
    | bad => rw [hm] at p; exact p.elim
    | exc c ρ2 => rw [hm] at p; exact p
    | ok d ρ2 =>
      rw [hm] at p
      intro v H1 Fs1 F1 r1 ow s1 fr
      have hz := tmp_fz r1 ow fun a ha z => (r.bd a z).ne (fr a ha)
      have rB := r1.drop
      cases hd : fz d with
      | dk o ks ds =>
        simp only [hd, dItems1] at p hz
        have ho : o = false := by cases d <;> simp [fz] at hd <;> exact hd.1
        subst ho
        unfold Ow at hz
        obtain ⟨a, kvs, G, e1, e2, e3, e4, e5, e6⟩ := hz
        have e6' : FzL W.C (OO B Fs1) H1 ds (kvs.map (·.2)) := e6.mono fun b hb => e4 b hb
        have lk : ∀ {H2 : Hp} {Fs2 o}, Rel W B Fs2 σ H2 ρ2 → Stp B Fs1 Fs2 H1 H2 → H2 a = some (.frz o (.dK kvs)) → ¬ OO B Fs2 a → R (Iti a o kvs) H2 := fun {H2 Fs2 o} r2 s2 hf hO => by
          refine p _ _ _ r2 ?_ (s1.trans s2)
          have kz := fzL_stp s2 e6'
          refine itOk_pair walk_items (fun H' k => ?_) ?_ (fun i x d hx hd' => ?_) fun i x d hx hd' => ?_
          · rcases k a _ hf hO (fun z => z) with z | ⟨z, _⟩
            · exact z
            · exact z.elim
          · have := e6.length
            rw [List.length_map] at this ⊢
            rw [← e5, List.length_map]
            omega
          · rw [← e5, List.getElem?_map, List.getElem?_map] at hd'
            cases hk : kvs[i]? with
            | none => rw [hk] at hx; cases hx
            | some kv =>
              rw [hk] at hx hd'
              cases hx
              cases hd'
              exact kD_fz kv.1
          · refine fzL_get kz hd' ?_
            rw [List.getElem?_map]
            exact hx
        refine ⟨a, kvs, e1, ?_⟩
        rcases (show Rd H1 a (.dK kvs) from e2) with e2 | ⟨o, e2⟩
        · refine .inl ⟨e2, fun o => ?_⟩
          obtain ⟨r2, s2⟩ := rB.know (o := o) e2 trivial e3
          exact ⟨a, o, kvs, e1, upd_same, lk r2 s2 upd_same e3⟩
        · exact .inr ⟨o, e2, a, o, kvs, e1, e2, lk rB .refl e2 e3⟩
      | _ => simp only [hd, dItems1] at p; exact p.elim)⟩
/-- the walked thing from operands that are not owned -/
def itF (g : List D → Option (List D)) (m : M (List Tk)) : M (List D) := M.bind m fun ts => fun ρ => match tkVals ts with
  | some ds => M.opt (g ds) ρ
  | none => .bad
theorem itF_rd {B Fs : _} {g : List D → Option (List D)} {m : M (List Tk)} {σ : L2.St} {H : Hp} {R : It → Hp → Prop} {ρ : Rho} (r0 : Rel W B Fs σ H ρ) (p : PostI W E B Fs σ H (itF g m ρ) R) {S : List V → Hp → Prop}
    (hS : ∀ (Fs1 : Nat → AS) (ρ1 : Rho) (H1 : Hp) (ds es : List D) (vs : List V), Rel W B Fs1 σ H1 ρ1 → FzL W.C (OO B Fs1) H1 ds vs → g ds = some es →
      (∀ J, ItOk W.C (OO B Fs1) H1 J es → R J H1) → S vs H1) : dT W E (TksR W) m σ H S := by
  refine ⟨B, Fs, ρ, r0, ?_⟩
  unfold itF M.bind at p
  cases hm : m ρ with
  | bad => rw [hm] at p; exact p.elim
  | exc c ρ2 => rw [hm] at p; exact fun H2 Fs2 r s => (show PostI W E B Fs σ H (.exc c ρ2) R from p) H2 Fs2 r s
  | ok ts ρ1 =>
    rw [hm] at p
    intro vs H1 Fs1 F1 r1 ht s1 f1
    have e1 : U B F1 = B := u0 ht.1
    rw [e1] at r1 ht
    cases gx : tkVals ts with
    | none => simp only [gx] at p; exact p.elim
    | some ds =>
      simp only [gx] at p
      cases gd : g ds with
      | none => rw [gd] at p; exact p.elim
      | some es =>
        rw [gd] at p
        exact hS Fs1 ρ1 H1 ds es vs r1 (tk_fzL ht.2 gx) gd fun J ik => p J H1 Fs1 r1 ik s1
/-- zip(a, b), both lists or both tuples -/
def gZip : List D → Option (List D)
  | [.lst _ as, .lst _ bs] => some (List.zipWith (fun a b => .tup [a, b]) as bs)
  | [.tup as, .tup bs] => some (List.zipWith (fun a b => .tup [a, b]) as bs)
  | _ => none
theorem fz_lst {C : CN} {O : AS} {H : Hp} {o : Bool} {ds : List D} {v : V} (h : Fz C O H (.lst o ds) v) : ∃ a vs, v = .ref a ∧ H a = some (.lst vs) ∧ ¬ O a ∧ FzL C O H ds vs := by
  unfold Ow at h
  obtain ⟨a, vs, G, e1, e2, e3, e4, e5⟩ := h
  cases o with
  | true => exact e3.2.elim
  | false => exact ⟨a, vs, e1, e2, e3, e5.mono fun b hb => e4 b hb⟩
theorem keep_ex {O : AS} {H H' : Hp} {a : Addr} {u : HO} (k : Keep O H H') (h : H a = some u) (hO : ¬ O a) (nt : ¬ isT u) (nd : ¬ isD u) : H' a = some u := by
  rcases k a _ h hO nt with z | ⟨z, _⟩
  · exact z
  · exact absurd z nd
theorem walk_zipT {K : PySem.W.Frag} {a b : Addr} {xs ys : List V} (H0 : Hp) {n : Nat} (hn : n = min xs.length ys.length) : Walk (ItzT K a b) n (fun H => H a = some (.tup xs) ∧ H b = some (.tup ys)) (YPair (fun i => xs[i]?) (fun i => ys[i]?)) := by
  subst hn
  refine ⟨fun i H hi q => ?_, fun H q => ⟨xs, ys, SqT.of q.1, SqT.of q.2, by omega⟩, fun i H v H' _ q y => ?_⟩
  · have h1 : i < xs.length := by omega
    have h2 : i < ys.length := by omega
    exact ⟨xs, ys, xs[i], ys[i], SqT.of q.1, SqT.of q.2, by simp [h1], by simp [h2]⟩
  · obtain ⟨T, x, z, h1, h2, h3, h4, h5⟩ := y
    exact ⟨T, x, z, h1, h2, h3, h4 xs (SqT.of q.1), h5 ys (SqT.of q.2)⟩
theorem di_zip {elts : List Expr} {kk : Nat} {tpos : Pos} {e e2 : Expr} {m : M (List Tk)} {p pos : Pos} (hg : Gl X "zip") (hm : X.mg "zip" = none) (ha : DA W E X [e, e2] m)
    (hs : starEach [e, e2] X.env = (false, eval e X.env) :: starEach [e2] X.env := by rfl) (hpl : (backTo pos (starEach [e2] X.env)).any (·.1) = false := by rfl) :
    DI W E X (.Tuple elts kk tpos) (.Call (.Name "zip" p) [e, e2] [] pos) (itF gZip m) :=
  ⟨fun pins s σ H R I h => (pi_zipA hg hm ha hs hpl).run pins s σ H R I (by
    obtain ⟨B, Fs, ρ, r, p⟩ := h
    refine itF_rd r p fun Fs1 ρ1 H1 ds es vs r1 hp e q => ?_
    unfold gZip at e
    split at e
    · rename_i o as o' bs
      cases e
      obtain ⟨v, w, rfl, h1, h2⟩ := fzL_inv hp
      obtain ⟨v', w', rfl, h3, h4⟩ := fzL_inv h2
      have : w' = [] := by unfold OwL at h4; exact h4
      subst this
      obtain ⟨a, xs, rfl, e1, e2, e3⟩ := fz_lst h1
      obtain ⟨b, ys, rfl, e4, e5, e6⟩ := fz_lst h3
      refine ⟨a, b, xs, ys, rfl, .inl ⟨SqL.of e1, SqL.of e4, q _ ?_⟩⟩
      refine itOk_pair (walk_zip rfl) (fun H' k => ⟨SqL.of (keep_ex k e1 e2 (fun z => z) fun z => z), SqL.of (keep_ex k e4 e5 (fun z => z) fun z => z)⟩) (by rw [e3.length, e6.length]) (fun i x d hx hd => fzL_get e3 hd hx) fun i x d hx hd => fzL_get e6 hd hx
    · rename_i as bs
      cases e
      obtain ⟨v, w, rfl, h1, h2⟩ := fzL_inv hp
      obtain ⟨v', w', rfl, h3, h4⟩ := fzL_inv h2
      have : w' = [] := by unfold OwL at h4; exact h4
      subst this
      unfold Ow at h1 h3
      obtain ⟨a, xs, rfl, e1, e2, e3⟩ := h1
      obtain ⟨b, ys, rfl, e4, e5, e6⟩ := h3
      refine ⟨a, b, xs, ys, rfl, .inr ⟨SqT.of e1, SqT.of e4, q _ ?_⟩⟩
      refine itOk_pair (walk_zipT H1 rfl) (fun H' k => ⟨keep_ex k e1 e2 (fun z => z) fun z => z, keep_ex k e4 e5 (fun z => z) fun z => z⟩) (by rw [e3.length, e6.length]) (fun i x d hx hd => fzL_get e3 hd hx) fun i x d hx hd => fzL_get e6 hd hx
    · cases e)⟩
/-- enumerate(a list) -/
def gEnum : List D → Option (List D)
  | [.lst _ as] => some (List.zipWith (fun a b => .tup [a, b]) ((List.range as.length).map fun i => .int (i : Nat)) as)
  | _ => none
theorem di_enum {elts : List Expr} {kk : Nat} {tpos : Pos} {e : Expr} {m : M (List Tk)} {p pos : Pos} (hg : Gl X "enumerate") (hm : X.mg "enumerate" = none) (ha : DA W E X [e] m) (hs : starEach [e] X.env = [(false, eval e X.env)] := by rfl) :
    DI W E X (.Tuple elts kk tpos) (.Call (.Name "enumerate" p) [e] [] pos) (itF gEnum m) :=
  ⟨fun pins s σ H R I h => (pi_enum hg hm ha hs).run pins s σ H R I (by
    obtain ⟨B, Fs, ρ, r, p⟩ := h
    refine itF_rd r p fun Fs1 ρ1 H1 ds es vs r1 hp e q => ?_
    unfold gEnum at e
    split at e
    · rename_i o as
      cases e
      obtain ⟨v, w, rfl, h1, h2⟩ := fzL_inv hp
      have : w = [] := by unfold OwL at h2; exact h2
      subst this
      obtain ⟨a, xs, rfl, e1, e2, e3⟩ := fz_lst h1
      refine ⟨a, xs, rfl, SqL.of e1, q _ ?_⟩
      refine itOk_pair walk_enum (fun H' k => SqL.of (keep_ex k e1 e2 (fun z => z) fun z => z)) (by rw [List.length_map, List.length_range, e3.length, Nat.min_self]) (fun i x d hx hd => ?_) fun i x d hx hd => fzL_get e3 hd hx
      cases hx
      rw [List.getElem?_map] at hd
      cases h : (List.range as.length)[i]? with
      | none => rw [h] at hd; cases hd
      | some j =>
        rw [h] at hd
        cases hd
        have : j = i := by
          rw [List.getElem?_eq_some_iff] at h
          obtain ⟨_, h2⟩ := h
          simpa using h2.symm
        subst this
        unfold Ow
        rfl
    · cases e)⟩
theorem items_fz {C : CN} {O : AS} {H' : Hp} {ts : List Addr} {kvs : List (Key × V)} (hp : Paired (fun (t : Addr) (q : Key × V) => H' t = some (.tup [kV q.1, q.2])) ts kvs) : ∀ {ds : List D}, (∀ t ∈ ts, ¬ O t) → FzL C O H' ds (kvs.map (·.2)) →
    FzL C O H' (List.zipWith (fun a b => D.tup [a, b]) ((kvs.map (·.1)).map kD) ds) (ts.map V.ref) := by
  induction hp with
  | nil =>
    intro ds _ h
    unfold OwL at h
    cases ds with
    | nil => exact fzL_nil
    | cons d ds => simp at h
  | cons ht hr ih =>
    intro ds hn h
    rename_i t kv ts kvs
    cases ds with
    | nil => unfold OwL at h; cases h
    | cons d ds =>
      obtain ⟨w, r', e8, e9, e10⟩ := fzL_inv h
      simp only [List.map_cons, List.cons.injEq] at e8
      obtain ⟨e8, e11⟩ := e8
      simp only [List.map_cons, List.zipWith_cons_cons]
      refine fzL_cons ?_ (ih (fun t' ht' => hn t' (List.mem_cons_of_mem _ ht')) (by rw [e11]; exact e10))
      unfold Ow
      exact ⟨t, _, rfl, ht, hn t List.mem_cons_self, fzL_cons (kD_fz _) (fzL_cons (by rw [e8]; exact e9) fzL_nil)⟩
def rItemsR : V → Hp → VK → Prop := fun x H Q => ∃ (d : Addr) (kvs : List (Key × V)), x = .ref d ∧ Rd H d (.dK kvs) ∧
  ∀ (H' : Hp) (p : Addr) (ts : List Addr), (∀ b o, H b = some o → H' b = some o) → H p = none → (∀ t ∈ ts, H t = none) → p ∉ ts → H' p = some (.lst (ts.map V.ref)) → Paired (fun (t : Addr) (q : Key × V) => H' t = some (.tup [kV q.1, q.2])) ts kvs → Q (.ref p) H'
theorem pe_listItemsR {e : Expr} {te : TE} {p apos cpos pos : Pos} (hc : X.calm = true) (he : PE X e te) (hg : Gl X "list") (hm : X.mg "list" = none) (hv : bootBuiltins "list" = some (.type "list")) (hbase : attributeBase e "items" X.env (eval e X.env) = eval e X.env := by rfl) (hline : (apos.endLine == cpos.line) = true := by rfl)
    (hs : starEach [.Call (.Attribute e "items" apos) [] [] cpos] X.env = (false, eval (.Call (.Attribute e "items" apos) [] [] cpos) X.env) :: starEach [] X.env := by rfl) :
    PE X (.Call (.Name "list" p) [.Call (.Attribute e "items" apos) [] [] cpos] [] pos) (fun σ H Q => te σ H fun x H1 => rItemsR x H1 Q) := by
  refine ⟨fun pins s σ H Q I hq => ?_⟩
  refine wpAny_Call_Name_kw (ld_blt I hg hm hv ?_)
  refine PyProof.Rows.callWith_type1 ?_ hs rfl
  rw [hs]
  show wpAny _ _ (spliced ((false, eval (.Call (.Attribute e "items" apos) [] [] cpos) X.env) :: backTo pos (starEach [] X.env))) _ _ s
  refine Calls.spliced_cons ?_
  refine wpAny_Call_method (T := "dict") (id := "dict.items") hbase rfl hline F.plainAttrs_dict F.slot_dict_items F.type_dict_items (thn (he.run pins s σ H _ I hq) fun u s1 ⟨x, H1, I1, rx, d, kvs, ex, hd, q⟩ => ?_)
  subst ex
  obtain rfl : u = Value.ref d := rx
  obtain ⟨hz, hs0, vs, kv, hdo⟩ := dk_rd I1.hok hd
  obtain ⟨ep, hat⟩ := hdo.dictAt
  have lk : kvs.length = vs.length := Paired.length kv
  have I2 : Inv X pins σ H1 { s1 with heap := s1.heap.push { cls := .type "dict_items", data := .fields #[.ref d] } } := I1.kept (t' := s1.toks) fun b ob q => Heap.get?_push_of_some _ q
  refine ⟨hdo.typeIs, hdo.mapOf.noDict, ?_⟩
  show wpAny _ _ (callWith cpos (.builtin "dict.items") [.ref d] [] []) _ X.xe s1
  refine method_meetsIn F.slot_dict_items F.entry_dict_items rfl (PySem.evalArgs_none ⟨rfl, hdo.typeIs, F.args_dict_items_1 _, _, meets_dict_items (mixKind X.prog X.w) d hs0, ⟨vs, hdo⟩, ?_⟩)
  refine Calls.spliced_nil ?_
  refine PySem.W.kdx_call (knd := mixKind X.prog X.w) (kvs := vs) (ep := ep) (I1.ok.hd hc) ⟨_, Heap.get?_push_size _ rfl, rfl, rfl⟩ (hat.push _) (by omega) fun h' tk acc c as hk hS hl hG hacc => ?_
  obtain ⟨H', k1, k2, k3, k4, k5, k6, J⟩ := LiI.items_laid (tk := tk) I2 hz kv hk hS hl hG hacc
  exact ⟨.ref _, H', J, rfl, q H' _ as k1 k2 k3 k4 k5 k6⟩
/-- list(d.items()) -/
def dListItems (d : D) : Option D := (dItems1 d).map (.lst true)
theorem de_listItems {p apos cpos pos : Pos} {e : Expr} {m : M D} (hc : X.calm = true) (h : DE W E X e m) (hg : Gl X "list") (hm : X.mg "list" = none) (hv : bootBuiltins "list" = some (.type "list")) (hbase : attributeBase e "items" X.env (eval e X.env) = eval e X.env := by rfl) (hline : (apos.endLine == cpos.line) = true := by rfl)
    (hs : starEach [.Call (.Attribute e "items" apos) [] [] cpos] X.env = (false, eval (.Call (.Attribute e "items" apos) [] [] cpos) X.env) :: starEach [] X.env := by rfl) :
    DE W E X (.Call (.Name "list" p) [.Call (.Attribute e "items" apos) [] [] cpos] [] pos) (M.bind m fun d => M.opt (dListItems (fz d))) :=
  mnE (pe_listItemsR hc h hg hm hv hbase hline hs) fun σ H Q hh => by
    obtain ⟨B, Fs, ρ, r, p⟩ := hh
    refine ⟨B, Fs, ρ, r, (Post.step (R := DR W) (fun _ z => z) .refl p).mono fun v H1 ⟨Fs1, F1, d, ρ1, _, r1, ow, s1, f1, p1⟩ => ?_⟩
    have hz := tmp_fz r1 ow fun a ha z => (r.bd a z).ne (f1 a ha)
    have rB := r1.drop
    cases hd : fz d with
    | dk o ks ds =>
      simp only [hd, dListItems, dItems1, Option.map_some] at p1 hz
      have ho : o = false := by cases d <;> simp [fz] at hd <;> exact hd.1
      subst ho
      unfold Ow at hz
      obtain ⟨a, kvs, G, e1, e2, e3, e4, e5, e6⟩ := hz
      have e6' : FzL W.C (OO B Fs1) H1 ds (kvs.map (·.2)) := e6.mono fun b hb => e4 b hb
      refine ⟨a, kvs, e1, e2, fun H' q ts hk hq hts hn hl hp => ?_⟩
      refine Post.res (fun a z => z) s1 rB (d := .lst true (List.zipWith (fun a b => D.tup [a, b]) (ks.map kD) ds)) ?_ p1
      refine ⟨hk, fun b => b = q, fun b z => by rw [show b = q from z]; exact hq, fun b z => ⟨.lst (ts.map V.ref), by rw [show b = q from z]; exact hl, True.intro⟩, ?_⟩
      unfold Ow
      refine ⟨q, ts.map V.ref, A0, rfl, hl, ⟨.inr rfl, rfl⟩, ⟨fun _ z => z.elim, fun z => z⟩, ?_⟩
      have hn' : ∀ t ∈ ts, ¬ U (OO B Fs1) (fun b => b = q) t := fun t ht z => z.elim (fun z => (rB.ot t z).ne (hts t ht)) fun z => hn (by rw [← show t = q from z]; exact ht)
      have e7 : FzL W.C (U (OO B Fs1) fun b => b = q) H' ds (kvs.map (·.2)) := fzU e6' hk fun b z => by rw [show b = q from z]; exact hq
      rw [← e5]
      exact items_fz hp hn' e7
    | _ => simp only [hd, dListItems, dItems1] at p1; exact p1.elim
end
end DL
end

section
set_option Elab.async false
set_option linter.all false
set_option maxRecDepth 100000
set_option maxHeartbeats 2000000
/-! G6: any, all, sum of a generator expression. -/
namespace GX
open PySem PySem.Spec PyProof.Rows L2 GenW
open AutoSeq1 (wpAny_loadPart')

section
variable {X : Cx} {pins : List (Addr × Obj)} {σ : L2.St} {H : Hp} {s s5 : Shared} {E : XK} {Fin : List V → Hp → Prop} {A : Around} {a : Addr}
/-- an item stops the run if it is b0 -/
def YdB (b0 : Bool) (R0 : Hp → Prop) : List V → V → Hp → Prop → Prop := fun _ y H k => ∃ b : Bool, y = .bl b ∧ if b = b0 then R0 H else k
theorem ydB_mono {b0 : Bool} {R0 : Hp → Prop} : ∀ ys y H (P Q : Prop), (P → Q) → YdB b0 R0 ys y H P → YdB b0 R0 ys y H Q := fun _ _ _ P Q f ⟨b, e, h⟩ => ⟨b, e, by
  split at h
  · rw [if_pos (by assumption)]; exact h
  · rw [if_neg (by assumption)]; exact f h⟩
def Tie0 : List V → Heap → Prop := fun _ _ => True
theorem tie0 : ∀ ys h h', (∀ b ∈ ([] : List Addr), Heap.get? h' b = Heap.get? h b) → Tie0 ys h → Tie0 ys h' := fun _ _ _ _ h => h
theorem any_loop_gx {R0 : Hp → Prop} {R : Result → Shared → Prop} (hh : A.handled = none) (hd : A.depth < recursionLimit) (hns : NoStop X.K E) (tk : TakesF X E)
    (hend : ∀ s' H', Inv X pins σ H' s' → (∃ ys, Fin ys H') → R (.ok (.ret (.bool false))) s') (hstop : ∀ s' H', Inv X pins σ H' s' → R0 H' → R (.ok (.ret (.bool true))) s') (hexc : ∀ e s', X.xe e s' → R (.error e) s') :
    ∀ (n : Nat) (s : Shared), GRun X pins σ E Fin (YdB true R0) [] Tie0 A.in1 a n s → codeAny (model X.prog X.w) A (.builtin "any.loop" ⟨[.ref a], []⟩) R s := by
  intro n
  induction n using Nat.strongRecOn with
  | _ n ih =>
  intro s hG
  refine codeAny_builtin F.entry_any_loop ?_
  rw [Around.under_plainId F.plain_any_loop _]
  show wpAny _ A.in1 (pyNext (.ref a) >>= _) _ _ s
  refine wpAny_bind (hG.next (A := A.in1) hh hd hns tk ydB_mono tie0 (fun e s' hx => hexc e s' hx) (fun v s' ys y H' rv J htie hS _ hy => ?_) fun s' ys H' J htie hS hf => ?_)
  · obtain ⟨b, rfl, hy⟩ := hy
    cases rv
    refine wpAny_bind (wpAny_holding (wpAny_truthy_bool ?_))
    refine wpAny_bind (wpAny_letGo ?_)
    cases b with
    | false =>
      rw [if_neg (by decide)] at hy
      simp only [Bool.false_eq_true, if_false]
      obtain ⟨m, hm, hG'⟩ := hy s' rfl J.bare rfl (fun b o hb e => e) (fun b hb => absurd hb (by simp)) trivial
      exact wpAny_pure ⟨plainId_quiet F.plain_any_loop _, ih m hm _ hG'⟩
    | true =>
      rw [if_pos rfl] at hy
      simp only [if_true]
      exact wpAny_bind (wpAny_rule (wpAny_pure (hstop s' H' J hy)))
  · exact wpAny_bind (wpAny_rule (wpAny_pure (hend s' H' J ⟨ys, hf⟩)))
theorem all_loop_gx {R0 : Hp → Prop} {R : Result → Shared → Prop} (hh : A.handled = none) (hd : A.depth < recursionLimit) (hns : NoStop X.K E) (tk : TakesF X E)
    (hend : ∀ s' H', Inv X pins σ H' s' → (∃ ys, Fin ys H') → R (.ok (.ret (.bool true))) s') (hstop : ∀ s' H', Inv X pins σ H' s' → R0 H' → R (.ok (.ret (.bool false))) s') (hexc : ∀ e s', X.xe e s' → R (.error e) s') :
    ∀ (n : Nat) (s : Shared), GRun X pins σ E Fin (YdB false R0) [] Tie0 A.in1 a n s → codeAny (model X.prog X.w) A (.builtin "all.loop" ⟨[.ref a], []⟩) R s := by
  intro n
  induction n using Nat.strongRecOn with
  | _ n ih =>
  intro s hG
  refine codeAny_builtin F.entry_all_loop ?_
  rw [Around.under_plainId F.plain_all_loop _]
  show wpAny _ A.in1 (pyNext (.ref a) >>= _) _ _ s
  refine wpAny_bind (hG.next (A := A.in1) hh hd hns tk ydB_mono tie0 (fun e s' hx => hexc e s' hx) (fun v s' ys y H' rv J htie hS _ hy => ?_) fun s' ys H' J htie hS hf => ?_)
  · obtain ⟨b, rfl, hy⟩ := hy
    cases rv
    refine wpAny_bind (wpAny_holding (wpAny_truthy_bool ?_))
    refine wpAny_bind (wpAny_letGo ?_)
    cases b with
    | true =>
      rw [if_neg (by decide)] at hy
      simp only [if_true]
      obtain ⟨m, hm, hG'⟩ := hy s' rfl J.bare rfl (fun b o hb e => e) (fun b hb => absurd hb (by simp)) trivial
      exact wpAny_pure ⟨plainId_quiet F.plain_all_loop _, ih m hm _ hG'⟩
    | false =>
      rw [if_pos rfl] at hy
      simp only [Bool.false_eq_true, if_false]
      exact wpAny_bind (wpAny_rule (wpAny_pure (hstop s' H' J hy)))
  · exact wpAny_bind (wpAny_rule (wpAny_pure (hend s' H' J ⟨ys, hf⟩)))
theorem call_any_gx {n : Nat} {okA : Around → Prop} {R0 : Hp → Prop} {Q : Value → Shared → Prop} (hh : A.handled = none) (hd : A.depth < recursionLimit) (hns : NoStop X.K E) (tk : TakesF X E) (hok : okA A.in1)
    (hG : GStart X pins σ E Fin (YdB true R0) a n okA s) (hend : ∀ s' H', Inv X pins σ H' s' → (∃ ys, Fin ys H') → Q (.bool false) s') (hstop : ∀ s' H', Inv X pins σ H' s' → R0 H' → Q (.bool true) s') :
    wpAny (model X.prog X.w) A (call (.builtin "any") [.ref a]) Q X.xe s := by
  obtain ⟨⟨g, hg⟩, hlt, hb, hl, start⟩ := hG
  refine call_function_tree F.kind_any F.plain_any F.entry_any (F.args_any1 _) ?_
  unfold Builtin.«any»
  refine wpAny_bind (m := oneArg "any" _) (wpAny_pure ?_)
  refine wpAny_bind (wpAny_pyIter_gen hg ?_)
  exact wpAny_pure ⟨plainId_quiet F.plain_any_loop _, any_loop_gx (A := A) hh hd hns tk hend hstop (fun e s' h => h) n s (start A.in1 [] Tie0 s hok tie0 rfl rfl (fun b o e => e) (fun b hb => absurd hb (by simp)) trivial)⟩
theorem call_all_gx {n : Nat} {okA : Around → Prop} {R0 : Hp → Prop} {Q : Value → Shared → Prop} (hh : A.handled = none) (hd : A.depth < recursionLimit) (hns : NoStop X.K E) (tk : TakesF X E) (hok : okA A.in1)
    (hG : GStart X pins σ E Fin (YdB false R0) a n okA s) (hend : ∀ s' H', Inv X pins σ H' s' → (∃ ys, Fin ys H') → Q (.bool true) s') (hstop : ∀ s' H', Inv X pins σ H' s' → R0 H' → Q (.bool false) s') :
    wpAny (model X.prog X.w) A (call (.builtin "all") [.ref a]) Q X.xe s := by
  obtain ⟨⟨g, hg⟩, hlt, hb, hl, start⟩ := hG
  refine call_function_tree F.kind_all F.plain_all F.entry_all (F.args_all1 _) ?_
  unfold Builtin.«all»
  refine wpAny_bind (m := oneArg "all" _) (wpAny_pure ?_)
  refine wpAny_bind (wpAny_pyIter_gen hg ?_)
  exact wpAny_pure ⟨plainId_quiet F.plain_all_loop _, all_loop_gx (A := A) hh hd hns tk hend hstop (fun e s' h => h) n s (start A.in1 [] Tie0 s hok tie0 rfl rfl (fun b o e => e) (fun b hb => absurd hb (by simp)) trivial)⟩
/-! ### sum (no exception inside) -/
def sumV : List V → Int
  | [] => 0
  | .int i :: r => i + sumV r
  | _ :: r => sumV r
theorem sumV_snoc : ∀ (ys : List V) (i : Int), sumV (ys ++ [.int i]) = sumV ys + i
  | [], i => by simp [sumV]
  | v :: r, i => by
    have h := sumV_snoc r i
    cases v <;> simp only [List.cons_append, sumV, h]
    omega
def YdI : List V → V → Hp → Prop → Prop := fun _ y _ k => ∃ i : Int, y = .int i ∧ k
theorem ydI_mono : ∀ ys y H (P Q : Prop), (P → Q) → YdI ys y H P → YdI ys y H Q := fun _ _ _ P Q f ⟨b, e, h⟩ => ⟨b, e, f h⟩
def TieI (S : Addr) : List V → Heap → Prop := fun ys h => ∃ (t : Tok) (c : Nat), h.get? S = some (lstObj #[.int (sumV ys) t] c)
theorem tieI {S : Addr} : ∀ ys h h', (∀ b ∈ [S], Heap.get? h' b = Heap.get? h b) → TieI S ys h → TieI S ys h' := fun ys h h' e ⟨t, c, a⟩ => ⟨t, c, (e S (List.mem_singleton.mpr rfl)).trans a⟩
theorem xf0 {e : Value} {s' : Shared} (x : XF X (fun _ _ _ => False) e s') : False := by
  obtain ⟨_, _, _, _, _, _, _, _, _, _, _, _, _, _, _, _, z⟩ := x
  exact z
theorem sum_loop_gx {S : Addr} {R : Result → Shared → Prop} (hh : A.handled = none) (hd : A.depth < recursionLimit) (hns : NoStop X.K (fun _ _ _ => False))
    (hend : ∀ s' ys H' t, Inv X pins σ H' s' → Fin ys H' → R (.ok (.ret (.int (sumV ys) t))) s') :
    ∀ (n : Nat) (s : Shared) (stage : Int), (stage = 0 ∨ stage = 2) → (∃ ys, TieI S ys s.heap) → GRun X pins σ (fun _ _ _ => False) Fin YdI [S] (TieI S) A.in1 a n s → codeAny (model X.prog X.w) A (.builtin "sum.loop" ⟨[.ref a, .ref S, rawInt stage, rawInt 0], []⟩) R s := by
  intro n
  induction n using Nat.strongRecOn with
  | _ n ih =>
  intro s stage hst ⟨ys0, hT⟩ hG
  obtain ⟨t0, c0, hS0⟩ := hT
  refine codeAny_builtin F.entry_sum_loop ?_
  rw [Around.under_plainId F.plain_sum_loop _]
  show wpAny _ A.in1 (seqItems? (.ref S) >>= _) _ _ s
  refine wpAny_bind (wpAny_seqItems hS0 rfl ?_)
  show wpAny _ A.in1 (tryCatch (pyNext (.ref a)) _ >>= _) _ _ s
  refine wpAny_bind (wpAny_tryCatch (hG.nextX (A := A.in1) hh hd hns ydI_mono tieI (fun e s' hx => (xf0 hx).elim) (fun v s' ys y H' rv J htie hS _ hy => ?_) fun s' ys H' J htie hS hf => ?_))
  · obtain ⟨i, rfl, hk⟩ := hy
    obtain ⟨t, rfl⟩ := rv
    obtain ⟨t1, c1, hS1⟩ := htie
    have e0 : sumV ys0 = sumV ys := by
      have := (hS S (List.mem_singleton.mpr rfl)).1
      rw [hS1, hS0] at this
      simp [lstObj] at this
      exact this.1.1.symm
    -- the next turn, the total written (once or twice)
    have go : ∀ (s'' : Shared) (stage' : Int) (tk : Tok) (c : Nat), (stage' = 0 ∨ stage' = 2) → s''.os = s'.os → s''.gens = s'.gens → (∀ b o, b ≠ S → s'.heap.get? b = some o → s''.heap.get? b = some o) → s''.heap.get? S = some (lstObj #[.int (sumV ys0 + i) tk] c) →
        codeAny (model X.prog X.w) A (.builtin "sum.loop" ⟨[.ref a, .ref S, rawInt stage', rawInt 0], []⟩) R s'' := fun s'' stage' tk c hst' os'' gens'' kp'' hS'' => by
      have tie'' : TieI S (ys ++ [.int i]) s''.heap := ⟨tk, c, by rw [sumV_snoc, ← e0]; exact hS''⟩
      obtain ⟨m, hm, hG'⟩ := hk s'' os'' (by rw [gens'']; exact J.bare) gens'' (fun b o hb e => kp'' b o (fun z => hb (List.mem_singleton.mpr z)) e) (fun b hb => by
        rw [List.mem_singleton.mp hb]
        exact ⟨_, hS'', fun v z => by cases z⟩) tie''
      exact ih m hm s'' stage' hst' ⟨_, tie''⟩ hG'
    have oth : ∀ (h : Heap) (f : Obj → Obj) b o, b ≠ S → h.get? b = some o → (h.update S f).get? b = some o := fun h f b o hb e => (Heap.get?_update_other _ _ (Ne.symm hb)).trans e
    rcases hst with rfl | rfl
    · show wpAny _ A.in1 (if (_ : Bool) = true then (mkInt (sumV ys0 + i) >>= _) else _) _ _ _
      split
      · refine wpAny_bind (wpAny_mkInt ?_)
        show wpAny _ A.in1 (updateSeq S (fun _ => #[.int (sumV ys0 + i) s'.toks]) >>= _) _ _ _
        refine wpAny_bind ?_
        refine wpAny_updateSeq hS1 rfl (wpAny_pure ⟨plainId_quiet F.plain_sum_loop _, go _ 0 s'.toks _ (.inl rfl) rfl rfl (fun b o hb e => oth _ _ b o hb e) (Heap.get?_update_self _ hS1 rfl)⟩)
      · refine wpAny_bind (wpAny_rule ?_)
        refine wpAny_bind (wpAny_attempt (wpAny_holding (PySem.P.add_int ?_)))
        show wpAny _ A.in1 (updateSeq S (fun _ => #[.int (sumV ys0 + i) s'.toks]) >>= _) _ _ _
        refine wpAny_bind ?_
        refine wpAny_updateSeq hS1 rfl ?_
        have hS2 := Heap.get?_update_self (Obj.mapSeq fun _ => #[Value.int (sumV ys0 + i) s'.toks]) hS1 rfl
        refine wpAny_bind (wpAny_letGo ?_)
        refine wpAny_bind ?_
        refine wpAny_updateSeq hS2 rfl (wpAny_pure ⟨plainId_quiet F.plain_sum_loop _, go _ 2 s'.toks _ (.inr rfl) rfl rfl (fun b o hb e => oth _ _ b o hb (oth _ _ b o hb e)) (Heap.get?_update_self _ hS2 rfl)⟩)
    · show wpAny _ A.in1 ((holding [Value.int i t] (binaryOp .Add (.int (sumV ys0) t0) (.int i t))).attempt >>= _) _ _ _
      refine wpAny_bind (wpAny_attempt (wpAny_holding (PySem.P.add_int ?_)))
      show wpAny _ A.in1 (updateSeq S (fun _ => #[.int (sumV ys0 + i) s'.toks]) >>= _) _ _ _
      refine wpAny_bind ?_
      refine wpAny_updateSeq hS1 rfl ?_
      have hS2 := Heap.get?_update_self (Obj.mapSeq fun _ => #[Value.int (sumV ys0 + i) s'.toks]) hS1 rfl
      refine wpAny_bind (wpAny_letGo ?_)
      refine wpAny_bind ?_
      refine wpAny_updateSeq hS2 rfl (wpAny_pure ⟨plainId_quiet F.plain_sum_loop _, go _ 2 s'.toks _ (.inr rfl) rfl rfl (fun b o hb e => oth _ _ b o hb (oth _ _ b o hb e)) (Heap.get?_update_self _ hS2 rfl)⟩)
  · obtain ⟨t1, c1, hS1⟩ := htie
    have e0 : sumV ys0 = sumV ys := by
      have := (hS S (List.mem_singleton.mpr rfl)).1
      rw [hS1, hS0] at this
      simp [lstObj] at this
      exact this.1.1.symm
    refine wpAny_pure ?_
    rw [e0]
    exact hend s' ys H' t0 J hf
theorem call_sum_gx {n : Nat} {okA : Around → Prop} {Q : Value → Shared → Prop} {Ex : Value → Shared → Prop} (hh : A.handled = none) (hd : A.depth < recursionLimit) (hns : NoStop X.K (fun _ _ _ => False)) (hok : okA A.in1)
    (hG : GStart X pins σ (fun _ _ _ => False) Fin YdI a n okA s) (hend : ∀ s' ys H' t, Inv X pins σ H' s' → Fin ys H' → Q (.int (sumV ys) t) s') :
    wpAny (model X.prog X.w) A (call (.builtin "sum") [.ref a]) Q Ex s := by
  obtain ⟨⟨g, hg⟩, hlt, hb, hl, start⟩ := hG
  refine call_function_tree F.kind_sum F.plain_sum F.entry_sum (F.args_sum1 _) ?_
  unfold Builtin.«sum»
  simp only [List.length_cons, List.length_nil]
  rw [if_neg (by decide)]
  refine wpAny_bind (wpAny_of_eq (show Builtin.Builtins.bindParams "sum" ["start"] 0 { } = pure [none] from rfl) ?_)
  refine wpAny_bind (wpAny_pyIter_gen hg ?_)
  refine wpAny_bind (wpAny_mkInt ?_)
  refine wpAny_bind (wpAny_pure ?_)
  simp only [List.forIn_cons, List.forIn_nil]
  refine wpAny_bind (wpAny_bind (wpAny_bind (wpAny_isInstance (T := "int") (b := false) (typeIs_int _ _ _) PySem.sub_int_str ?_)))
  simp only [Bool.false_eq_true, if_false]
  refine wpAny_pure (wpAny_bind (wpAny_bind (wpAny_isInstance (T := "int") (b := false) (typeIs_int _ _ _) PySem.sub_int_bytes ?_)))
  simp only [Bool.false_eq_true, if_false]
  refine wpAny_pure (wpAny_bind (wpAny_bind (wpAny_isInstance (T := "int") (b := false) (typeIs_int _ _ _) PySem.sub_int_bytearray ?_)))
  simp only [Bool.false_eq_true, if_false]
  refine wpAny_pure (wpAny_pure ?_)
  refine wpAny_bind (wpAny_newObj_type ?_)
  have hS : (s.heap.push { cls := .type "list", data := .seq ([.int 0 s.toks] : List Value).toArray }).get? s.heap.objs.size = some (lstObj #[.int 0 s.toks] 0) := Heap.get?_push_size _ rfl
  refine wpAny_pure ⟨plainId_quiet F.plain_sum_loop _, sum_loop_gx (S := s.heap.objs.size) (A := A) hh hd hns hend n _ 0 (.inl rfl) ⟨[], s.toks, 0, hS⟩
    (start A.in1 [s.heap.objs.size] (TieI s.heap.objs.size) _ hok tieI rfl rfl (fun b o e => Heap.get?_push_of_some _ e) (fun S hS' => by
      rw [List.mem_singleton.mp hS']
      exact ⟨Nat.le_refl _, _, hS, fun v z => by cases z⟩) ⟨s.toks, 0, hS⟩)⟩
end
end GX
end

section
set_option Elab.async false
set_option linter.all false
set_option maxRecDepth 100000
set_option maxHeartbeats 2000000
/-! D20: generator expressions, the turns. -/
namespace DL
open PySem PySem.Spec PyProof.Rows L2

inductive Cs where
  | go | stop (r : D) | bad
def gxF (own : List Nat) (g : D → M Unit) (t : M Bool) (el : M D) (cs : List D → D → Cs) : List D → List D → M (List D ⊕ D)
  | [], acc => M.pure (.inl acc)
  | d :: ds, acc => M.bind (g d) fun _ => M.bind t fun b => if b = true then M.bind el fun x => (match cs acc (fz x) with
      | .go => if acc.length < 2 ^ 24 then fun ρ => gxF own g t el cs ds (acc ++ [fz x]) (wipeR ρ own) else M.bad
      | .stop r => fun ρ => .ok (.inr r) (wipeR ρ own)
      | .bad => M.bad)
    else fun ρ => gxF own g t el cs ds acc (wipeR ρ own)
def gxE (own : List Nat) (it : M (List D)) (g : D → M Unit) (t : M Bool) (el : M D) (cs : List D → D → Cs) (fin : List D → Option D) : M D := M.bind it fun ds => fun ρ1 => match gxF own g t el cs ds [] (wipeR ρ1 own) with
  | .ok (.inl acc) ρ2 => (match fin acc with
    | some r => .ok r (backR ρ1 ρ2 own)
    | none => .bad)
  | .ok (.inr r) ρ2 => .ok r (backR ρ1 ρ2 own)
  | .exc c ρ2 => .exc c (backR ρ1 (wipeR ρ2 own) own)
  | .bad => .bad

def ownA (vs : List Nat) (Fs : Nat → AS) : AS := fun a => ∃ j, j ∈ vs ∧ Fs j a
def othF (vs : List Nat) (Fs : Nat → AS) : Nat → AS := fun j => if j ∈ vs then A0 else Fs j
def bakF (vs : List Nat) (Fs Fs' : Nat → AS) : Nat → AS := fun j => if j ∈ vs then Fs j else Fs' j
theorem othF_at {vs : List Nat} {Fs : Nat → AS} {j a} (z : othF vs Fs j a) : j ∉ vs ∧ Fs j a := by
  have z : (if j ∈ vs then A0 else Fs j) a := z
  split at z
  · exact z.elim
  · exact ⟨by assumption, z⟩
theorem bakF_at {vs : List Nat} {Fs Fs' : Nat → AS} {j a} (z : bakF vs Fs Fs' j a) : (j ∈ vs ∧ Fs j a) ∨ (j ∉ vs ∧ Fs' j a) := by
  have z : (if j ∈ vs then Fs j else Fs' j) a := z
  split at z
  · exact .inl ⟨by assumption, z⟩
  · exact .inr ⟨by assumption, z⟩
section
variable {W : Dx} {E : XK} {X : Cx} {B : AS} {Fs Fs' : Nat → AS} {σ : L2.St} {H H' : Hp} {ρ ρ' : Rho} {vs : List Nat}
theorem blk_start (r : Rel W B Fs σ H ρ) (hf : ∀ j ∈ vs, free W j) : Rel W (U B (ownA vs Fs)) (othF vs Fs) (wipe σ vs) H (wipeR ρ vs) := by
  refine ⟨fun a ha => ?_, fun i a ha => ⟨(r.fd i a (othF_at ha).2).1, fun z => ?_⟩, fun i j a h1 h2 => r.dj i j a (othF_at h1).2 (othF_at h2).2, fun i d e => ?_, fun q hq => ?_, by rw [wipeR_len, wipe_length]; exact r.len, r.tb⟩
  · rcases ha with ha | ⟨j, _, ha⟩
    · exact r.bd a ha
    · exact (r.fd j a ha).1
  · rcases z with z | ⟨j, hj, z⟩
    · exact (r.fd i a (othF_at ha).2).2 z
    · have := r.dj i j a (othF_at ha).2 z
      exact (othF_at ha).1 (by rw [this]; exact hj)
  · obtain ⟨e1, hi'⟩ := wipeR_get e
    obtain ⟨v, q1, q2⟩ := r.sl i d e1
    refine ⟨v, by rw [wipe_at hi']; exact q1, ?_⟩
    have hF : othF vs Fs i = Fs i := by show (if i ∈ vs then A0 else Fs i) = Fs i; rw [if_neg hi']
    rw [hF]
    refine Ow.stay (W := A0) ⟨.refl, fun _ _ => rfl, fun _ z => z.elim, fun a z => .inl ?_, fun a z => .inr ⟨i, by rw [hF]; exact z⟩⟩ d v q2
    rcases z with (z | ⟨j, _, z⟩) | ⟨j, z⟩
    · exact .inl z
    · exact .inr ⟨j, z⟩
    · exact .inr ⟨j, (othF_at z).2⟩
  · rw [wipe_at fun z => hf q.1 z q hq rfl]
    exact r.pin q hq
theorem blk_back (r : Rel W B Fs σ H ρ) (r' : Rel W (U B (ownA vs Fs)) Fs' (wipe σ vs) H' ρ') (st : Stp (U B (ownA vs Fs)) (othF vs Fs) Fs' H H') :
    Rel W B (bakF vs Fs Fs') σ H' (backR ρ ρ' vs) ∧ Stp B Fs (bakF vs Fs Fs') H H' ∧ ∀ a, OO B (bakF vs Fs Fs') a → OO (U B (ownA vs Fs)) Fs' a := by
  have oE : ∀ a, OO B (bakF vs Fs Fs') a → OO (U B (ownA vs Fs)) Fs' a := fun a z => by
    rcases z with z | ⟨j, z⟩
    · exact .inl (.inl z)
    · rcases bakF_at z with ⟨h1, h2⟩ | ⟨_, h2⟩
      · exact .inl (.inr ⟨j, h1, h2⟩)
      · exact .inr ⟨j, h2⟩
  refine ⟨⟨fun a ha => r'.bd a (.inl ha), fun i a ha => ?_, fun i j a h1 h2 => ?_, fun i d e => ?_, r.pin, by rw [backR_len, r'.len, wipe_length], r'.tb⟩, ⟨fun a u e n t => st.keep a u e (fun ⟨j, z⟩ => n ⟨j, (othF_at z).2⟩) t, fun a z => st.kb a (.inl z), fun j a z => ?_, st.dom⟩, oE⟩
  · rcases bakF_at ha with ⟨h1, h2⟩ | ⟨h1, h2⟩
    · exact ⟨r'.bd a (.inr ⟨i, h1, h2⟩), (r.fd i a h2).2⟩
    · exact ⟨(r'.fd i a h2).1, fun z => (r'.fd i a h2).2 (.inl z)⟩
  · rcases bakF_at h1 with ⟨h1, h3⟩ | ⟨h1, h3⟩ <;> rcases bakF_at h2 with ⟨h2, h4⟩ | ⟨h2, h4⟩
    · exact r.dj i j a h3 h4
    · exact absurd (.inr ⟨i, h1, h3⟩) (r'.fd j a h4).2
    · exact absurd (.inr ⟨j, h2, h4⟩) (r'.fd i a h3).2
    · exact r'.dj i j a h3 h4
  · rcases backR_get e with ⟨h1, h2⟩ | ⟨h1, h2⟩
    · obtain ⟨v, q1, q2⟩ := r.sl i d h2
      refine ⟨v, q1, ?_⟩
      have hF : bakF vs Fs Fs' i = Fs i := by show (if i ∈ vs then Fs i else Fs' i) = Fs i; rw [if_pos h1]
      rw [hF]
      refine Ow.stay (W := fun a => ∃ i, othF vs Fs i a) ⟨st.keep, fun a ha => ?_, fun a ⟨j, z⟩ => .inr ⟨j, (othF_at z).2⟩, fun a z => ?_, fun a z => .inr ⟨i, by rw [hF]; exact z⟩⟩ d v q2
      · exact st.kb a (.inr ⟨i, h1, ha⟩)
      · rcases z with z | ⟨j, z⟩
        · exact .inl (.inl z)
        · rcases bakF_at z with ⟨_, z⟩ | ⟨_, z⟩
          · exact .inl (.inr ⟨j, z⟩)
          · rcases st.old j a z with z | z
            · exact .inl (.inr ⟨j, (othF_at z).2⟩)
            · exact .inr z
    · obtain ⟨v, q1, q2⟩ := r'.sl i d h2
      refine ⟨v, by rw [wipe_at h1] at q1; exact q1, ?_⟩
      have hF : bakF vs Fs Fs' i = Fs' i := by show (if i ∈ vs then Fs i else Fs' i) = Fs' i; rw [if_neg h1]
      rw [hF]
      exact Ow.stay (W := A0) ⟨.refl, fun _ _ => rfl, fun _ z => z.elim, fun a z => .inl (oE a z), fun a z => .inr ⟨i, by rw [hF]; exact z⟩⟩ d v q2
  · rcases bakF_at z with ⟨_, z⟩ | ⟨_, z⟩
    · exact .inl z
    · rcases st.old j a z with z | z
      · exact .inl (othF_at z).2
      · exact .inr z
/-! ### the tables -/
def Dx.tab (W : Dx) (T : Tb) : Dx := { W with T := T }
/-- the tables are known; a code object's table is among them -/
structure TbX (T : Tb) (P : Addr) (T' : Addr → Tb) : Prop where
  opn : ∀ H, T.p H → ∃ S, S P ∧ GX.TabsS S H ∧ ∀ H' S', GX.TabExt S H H' S' → ∀ P', S' P' → (T' P').p H'
  back : ∀ P' H, (T' P').p H → T.p H
theorem Rel.tab {T' : Tb} (r : Rel W B Fs σ H ρ) (h : T'.p H) : Rel (W.tab T') B Fs σ H ρ := ⟨r.bd, r.fd, r.dj, r.sl, r.pin, r.len, h⟩
theorem Rel.tabB {T' : Tb} (r : Rel (W.tab T') B Fs σ H ρ) (h : ∀ H, T'.p H → W.T.p H) : Rel W B Fs σ H ρ := ⟨r.bd, r.fd, r.dj, r.sl, r.pin, r.len, h _ r.tb⟩
theorem Rel.ext {S S' : Addr → Prop} {T' : Tb} (r : Rel W B Fs σ H ρ) (t : GX.TabsS S H) (x : GX.TabExt S H H' S') (h : T'.p H') : Rel (W.tab T') B Fs σ H' ρ ∧ Stp B Fs Fs H H' := by
  have nS : ∀ a, Ob H a → ¬ S a := fun a ⟨u, e, n⟩ z => by
    obtain ⟨ps, q, _⟩ := t a z
    rw [e] at q
    rw [Option.some.inj q] at n
    exact n
  have same : ∀ a, Ob H a → H' a = H a := fun a o => x.keep a (nS a o) o.ne
  have kp : Keep A0 H H' := fun a u e _ nt => by
    by_cases z : S a
    · obtain ⟨ps, q, _⟩ := t a z
      rw [e] at q
      rw [Option.some.inj q] at nt
      exact absurd trivial nt
    · exact .inl ((x.keep a z (by rw [e]; simp)).trans e)
  have ob : ∀ a, Ob H a → Ob H' a := fun a o => by
    obtain ⟨u, e, n⟩ := id o
    exact ⟨u, (same a o).trans e, n⟩
  refine ⟨⟨fun a ha => ob a (r.bd a ha), fun i a ha => ⟨ob a (r.fd i a ha).1, (r.fd i a ha).2⟩, r.dj, fun i d e => ?_, r.pin, r.len, h⟩, ⟨fun a u e _ nt => kp a u e (fun z => z) nt, fun a z => same a (r.bd a z), fun _ _ z => .inl z, x.dom⟩⟩
  obtain ⟨v, e1, e2⟩ := r.sl i d e
  exact ⟨v, e1, Ow.stay (W := A0) ⟨kp, fun a ha => same a (r.fd i a ha).1, fun _ z => z.elim, fun a z => .inl z, fun a z => .inr ⟨i, z⟩⟩ d v e2⟩
end
end DL
end

section
set_option Elab.async false
set_option linter.all false
set_option maxRecDepth 100000
set_option maxHeartbeats 2000000
/-! D21: generator expressions, the walk by data. -/
namespace DL
open PySem PySem.Spec PyProof.Rows L2
section
variable {W : Dx} {E : XK} {X : Cx} {B : AS} {Fs Fs1 : Nat → AS} {σ : L2.St} {H H1 H4 : Hp} {ρ1 : Rho} {vs : List Nat}
/-- what is wanted behind a run of the turns -/
def EndG (W : Dx) (E : XK) (B : AS) (Fs : Nat → AS) (σ : L2.St) (H : Hp) (Q : VK) (r : D) (H' : Hp) : Prop := ∃ Fe ρe, Rel W B Fe σ H' ρe ∧ Stp B Fs Fe H H' ∧ Post W E (DR W) B Fs σ H (.ok r ρe) Q
def FinG (W : Dx) (E : XK) (B : AS) (Fs : Nat → AS) (σ : L2.St) (H : Hp) (Q : VK) (fin : List D → Option D) (ys : List V) (H' : Hp) : Prop :=
  ∃ acc Fe ρe r, Rel W B Fe σ H' ρe ∧ Stp B Fs Fe H H' ∧ FzL W.C (OO B Fe) H' acc ys ∧ acc.length ≤ 2 ^ 24 ∧ fin acc = some r ∧ Post W E (DR W) B Fs σ H (.ok r ρe) Q
def YdG (W : Dx) (E : XK) (B : AS) (Fs : Nat → AS) (σ : L2.St) (H : Hp) (Q : VK) (cs : List D → D → Cs) (ys : List V) (y : V) (H' : Hp) (k : Prop) : Prop :=
  ∃ acc d O, FzL W.C O H' acc ys ∧ Fz W.C O H' d y ∧ match cs acc d with
    | .go => ys.length < sizeLine ∧ k
    | .stop r => EndG W E B Fs σ H Q r H'
    | .bad => False
/-- the whole run's outcome -/
def OutG (W : Dx) (E : XK) (B : AS) (Fs : Nat → AS) (σ : L2.St) (H : Hp) (Q : VK) (fin : List D → Option D) (ρ1 : Rho) (vs : List Nat) (o : Out (List D ⊕ D)) : Prop :=
  Post W E (DR W) B Fs σ H (match o with
    | .ok (.inl acc) ρ2 => (match fin acc with
      | some r => .ok r (backR ρ1 ρ2 vs)
      | none => .bad)
    | .ok (.inr r) ρ2 => .ok r (backR ρ1 ρ2 vs)
    | .exc c ρ2 => .exc c (backR ρ1 (wipeR ρ2 vs) vs)
    | .bad => .bad) Q
theorem gx_turn {T' : Tb} {J : It} {ds : List D} {is : List Nat} {g : D → M Unit} {t : M Bool} {el : M D} {cs : List D → D → Cs} {fin : List D → Option D} {Q : VK} {Fin : List V → Hp → Prop} {Yd : List V → V → Hp → Prop → Prop}
    (r1 : Rel W B Fs1 σ H1 ρ1) (s1 : Stp B Fs Fs1 H H1) (r4 : Rel (W.tab T') B Fs1 σ H4 ρ1) (s4 : Stp B Fs1 Fs1 H1 H4) (hT : ∀ H, T'.p H → W.T.p H) (ik : ItOk W.C (OO B Fs1) H1 J ds) (hf : ∀ j ∈ vs, free W j) (his : ∀ j ∈ is, j ∈ vs) (nx : NoX g)
    (p : OutG W E B Fs σ H Q fin ρ1 vs (gxF vs g t el cs ds [] (wipeR ρ1 vs)))
    (hY : ∀ ys y H' k, YdG W E B Fs σ H Q cs ys y H' k → Yd ys y H' k) (hF : ∀ ys H', FinG W E B Fs σ H Q fin ys H' → Fin ys H') :
    ∃ (St : List V → Nat → Nat → Hp → Prop) (m : Nat), GX.GWalk J (wipe σ vs) vs (dG (W.tab T') is g) (dT (W.tab T') E BR t) (dT (W.tab T') E (DR (W.tab T')) el) Fin Yd St ∧ St [] 0 m H4 := by
  obtain ⟨G, Y, hw, hG, hYi⟩ := ik
  let Bb : AS := U B (ownA vs Fs1)
  let Fb : Nat → AS := othF vs Fs1
  have hf' : ∀ j ∈ vs, free (W.tab T') j := hf
  have rb := blk_start r4 hf'
  generalize ho : gxF vs g t el cs ds [] (wipeR ρ1 vs) = o at p
  let St : List V → Nat → Nat → Hp → Prop := fun ys i m H' => ∃ (Fs' : Nat → AS) (ρ' : Rho) (acc : List D), Rel (W.tab T') Bb Fs' (wipe σ vs) H' ρ' ∧ Stp Bb Fb Fs' H4 H' ∧ FzL W.C (OO Bb Fs') H' acc ys ∧ acc.length ≤ 2 ^ 24 ∧ i ≤ ds.length ∧ m = ds.length - i ∧
    gxF vs g t el cs (ds.drop i) acc ρ' = o
  have s14 : Stp B Fs Fs1 H H4 := s1.trans s4
  have oB : ∀ a, OO Bb Fb a → OO B Fs1 a := fun a z => by
    rcases z with (z | ⟨j, _, z⟩) | ⟨j, z⟩
    · exact .inl z
    · exact .inr ⟨j, z⟩
    · exact .inr ⟨j, (othF_at z).2⟩
  refine ⟨St, ds.length, ?_, Fb, wipeR ρ1 vs, [], rb, .refl, fzL_nil, Nat.zero_le _, Nat.zero_le _, (Nat.sub_zero _).symm, by rw [List.drop_zero]; exact ho⟩
  rintro ys i m H' ⟨Fs', ρ', acc, r', st, fz', hacc, hi', rfl, hcf⟩
  have hk : Keep (OO B Fs1) H1 H' := (keepO s4).trans (fun a u e n t => st.keep a u e (fun ⟨j, z⟩ => n (.inr ⟨j, (othF_at z).2⟩)) t) fun a z => .inl z
  obtain ⟨rE, sE, oE⟩ := blk_back r4 r' st
  by_cases hlt : i < ds.length
  case neg =>
    have e : i = ds.length := by omega
    subst e
    rw [List.drop_length] at hcf
    have hcf : Out.ok (.inl acc) ρ' = o := hcf
    rw [← hcf] at p
    unfold OutG at p
    simp only at p
    cases hfin : fin acc with
    | none => rw [hfin] at p; exact p.elim
    | some res =>
      rw [hfin] at p
      exact .inl ⟨hw.stops H' (hG H' hk), hF _ _ ⟨acc, _, _, res, rE.tabB hT, s14.trans sE, OwL.shr oE _ _ fz', hacc, hfin, p⟩⟩
  refine .inr ⟨hw.goes i H' hlt (hG H' hk), fun ys' H'' => St ys' (i + 1) (ds.length - (i + 1)) H'', fun ys' H'' hN => ⟨ds.length - (i + 1), by omega, hN⟩, fun x H2 y => ?_⟩
  obtain ⟨al, fz2⟩ := hYi i H' x H2 ds[i] (by simp [hlt]) hk (hw.yields i H' x H2 hlt (hG H' hk) y)
  have r2 := r'.alc al
  rw [drop_get hlt] at hcf
  refine ⟨Bb, Fs', ρ', ds[i], r2, fz2 (OO Bb Fs') (fun a z => ?_) r'.ot, ?_⟩
  · rcases z with z | ⟨j, z⟩
    · rcases z with z | ⟨j, _, z⟩
      · exact .inl (.inl z)
      · exact .inl (.inr ⟨j, z⟩)
    · rcases st.old j a z with z | z
      · exact .inl (oB a (.inr ⟨j, z⟩))
      · exact .inr (s4.fresh z)
  unfold gxF M.bind at hcf
  have sB : ∀ {Fs'' H''}, Stp Bb Fs' Fs'' H' H'' → Stp B Fs Fs'' H H'' → True := fun _ _ => trivial
  -- an exception
  have exc : ∀ {c ρ2}, o = .exc c ρ2 → ∀ H'' Fs'' σ', wipe σ' vs = wipe σ vs → Rel (W.tab T') Bb Fs'' σ' H'' ρ2 → Stp Bb Fs' Fs'' H' H'' → E (.ref (W.X c)) none H'' := fun {c ρ2} e H'' Fs'' σ' hw' rr ss => by
    rw [e] at p
    have r7 := rr.wipe hf'
    rw [hw'] at r7
    obtain ⟨rE, sE, _⟩ := blk_back r4 r7 ((st.trans ss).trans stp_wipe)
    exact p H'' _ (rE.tabB hT) (s14.trans sE)
  cases h3 : g ds[i] ρ' with
  | exc c ρ3 => exact (nx _ _ _ _ h3).elim
  | bad =>
    rw [h3] at hcf
    rw [← hcf] at p
    exact p.elim
  | ok u ρ3 =>
  rw [h3] at hcf
  simp only at hcf
  intro σ3 H3 Fs3 r3 s3 a3
  have a3' : Ag vs (wipe σ vs) σ3 := ⟨a3.1, fun j hj => a3.2 j fun z => hj (his j z)⟩
  have hw3 := wipe_ag a3'
  refine ⟨hw3.trans (wipe_ag .refl).symm, Bb, Fs3, ρ3, r3, ?_⟩
  have st2 := (al.stp (B := Bb) (Fs := Fs') r'.bd).trans s3
  cases h4 : t ρ3 with
  | bad =>
    rw [h4] at hcf
    rw [← hcf] at p
    exact p.elim
  | exc c ρ4 =>
    rw [h4] at hcf
    exact fun H'' Fs'' rr ss => exc hcf.symm H'' Fs'' _ hw3 rr (st2.trans ss)
  | ok b ρ4 =>
  rw [h4] at hcf
  simp only at hcf
  intro x' H5 Fs5 F5 r5 hb s5 fr5
  obtain ⟨hF5, eb⟩ := hb
  subst eb
  rw [u0 hF5] at r5
  have st5 := st2.trans s5
  have sAll : Stp Bb Fb Fs5 H4 H5 := st.trans st5
  have fz5 : FzL W.C (OO Bb Fs5) H5 acc ys := fzL_stp st5 fz'
  cases b with
  | false =>
    rw [if_neg Bool.false_ne_true] at hcf ⊢
    refine ⟨_, _, acc, by have q := r5.wipe hf'; rw [hw3] at q; exact q, sAll.trans stp_wipe, fzL_stp (stp_wipe (B := Bb)) fz5, hacc, hlt, rfl, hcf⟩
  | true =>
    rw [if_pos rfl] at hcf ⊢
    refine ⟨Bb, Fs5, ρ4, r5, ?_⟩
    cases h6 : el ρ4 with
    | bad =>
      rw [h6] at hcf
      rw [← hcf] at p
      exact p.elim
    | exc c ρ6 =>
      rw [h6] at hcf
      exact fun H'' Fs'' rr ss => exc hcf.symm H'' Fs'' _ hw3 rr (st5.trans ss)
    | ok xd ρ6 =>
    rw [h6] at hcf
    simp only at hcf
    intro yv H6 Fs6 F6 r6 ow6 s6 fr6
    have hz := tmp_fz r6 ow6 fun a ha z => (r5.bd a z).ne (fr6 a ha)
    have rD := r6.drop
    have sD : Stp Bb Fb Fs6 H4 H6 := sAll.trans s6
    have fz6 : FzL W.C (OO Bb Fs6) H6 acc ys := fzL_stp s6 fz5
    refine hY _ _ _ _ ⟨acc, fz xd, OO Bb Fs6, fz6, hz, ?_⟩
    cases hcs : cs acc (fz xd) with
    | bad =>
      rw [hcs] at hcf
      have hcf : Out.bad = o := hcf
      rw [← hcf] at p
      exact p.elim
    | stop res =>
      rw [hcs] at hcf
      have hcf : Out.ok (.inr res) (wipeR ρ6 vs) = o := hcf
      rw [← hcf] at p
      have r7 := rD.wipe hf'
      rw [hw3] at r7
      obtain ⟨rE, sE, _⟩ := blk_back (ρ' := wipeR ρ6 vs) r4 r7 (sD.trans stp_wipe)
      exact ⟨_, _, rE.tabB hT, s14.trans sE, p⟩
    | go =>
      rw [hcs] at hcf
      simp only at hcf
      by_cases hsz : acc.length < 2 ^ 24
      case neg => rw [if_neg hsz] at hcf; rw [← show Out.bad = o from hcf] at p; exact p.elim
      rw [if_pos hsz] at hcf
      refine ⟨by rw [fz6.length, sizeLine_eq]; exact hsz, ?_⟩
      refine ⟨_, _, acc ++ [fz xd], by have q := rD.wipe hf'; rw [hw3] at q; exact q, sD.trans stp_wipe, ?_, by simp; omega, hlt, rfl, hcf⟩
      exact fzL_stp (stp_wipe (B := Bb)) (owL_snoc (F1 := A0) (F2 := A0) fz6 hz (fun a z => z.elim) (fun a z => z) (fun a z => z))
end
end DL
end

section
set_option Elab.async false
set_option linter.all false
set_option maxRecDepth 100000
set_option maxHeartbeats 2000000
/-! D22: generator expressions handed to tuple, any, all, sum. -/
namespace DL
open PySem PySem.Spec PyProof.Rows L2
/-- an exception of the program's own -/
def Eo (W : Dx) (E : XK) : XK := fun cls d H => E cls d H ∧ ∃ c, cls = .ref (W.X c)
theorem eo_ns {W : Dx} {E : XK} {K : PySem.W.Frag} (h : ∀ c, PySem.W.subIn K (.ref (W.X c)) (.type "StopIteration") = some false) : NoStop K (Eo W E) := fun cls d H ⟨_, c, e⟩ => by
  rw [e]
  exact h c
def okG (X : Cx) (A : Around) : Prop := A.handled = none ∧ A.frames = some X.stack ∧ A.depth = X.A.depth ∧ A.units ≤ X.A.units + 6
/-- the code that runs: at c, its table at P -/
def RunT (X : Cx) (T : Tb) (c P : Addr) : Prop := X.env.code = .ref c ∧ (PySem.W.CodeHd X.base c P ∨ ∀ H, T.p H → H c = some (GX.CodeX c P))
structure TbY (T : Tb) (P : Addr) (T' : Addr → Addr → Tb) : Prop where
  opn : ∀ H, T.p H → ∃ S, S P ∧ GX.TabsS S H ∧ ∀ H' S', GX.TabExt S H H' S' → ∀ c' P', S' P' → H' c' = some (GX.CodeX c' P') → (T' c' P').p H'
  back : ∀ c' P' H, (T' c' P').p H → T.p H
section
variable {W : Dx} {E : XK} {X : Cx} {pins : List (Addr × Obj)} {σ : L2.St} {H : Hp} {s : Shared}
theorem gx_data {T' : Addr → Addr → Tb} {c P : Addr} {elt tg iter : Expr} {ifs : List Expr} {scope : Scope} {own : List (Str × Nat)} {pos : Pos} {it : M (List D)} {is : List Nat} {g : D → M Unit} {t : M Bool} {el : M D} {cs : List D → D → Cs} {fin : List D → Option D} {k : Nat} {Q : VK} {Q' : Value → Shared → Prop} {B : AS} {Fs : Nat → AS} {ρ : Rho}
    {Fin : List V → Hp → Prop} {Yd : List V → V → Hp → Prop → Prop}
    (hr : Room (k + 1) X.A) (BM : GX.BMod X.base X.mg) (ok : GX.GOk X.N X.env.scope scope own) (hN : X.N.Nodup) (TX : TbY W.T P T') (RC : RunT X W.T c P) (hi : DI W E X tg iter it) (his : ∀ j ∈ is, j ∈ own.map (·.2)) (hf : ∀ j ∈ own.map (·.2), free W j) (nx : NoX g)
    (hb : ∀ (E' : XK) (A : Around) (s4 : Shared) (H4 : Hp) (c' P' : Addr) (fp : List Addr) (pn : List (Addr × Obj)), Room k (GX.gxCx X A s4 H4 E' scope (.ref c') fp pn).A → GX.TakesF (GX.gxCx X A s4 H4 E' scope (.ref c') fp pn) E' →
      DG (W.tab (T' c' P')) (GX.gxCx X A s4 H4 E' scope (.ref c') fp pn) tg is g ∧ DTs (W.tab (T' c' P')) E' (GX.gxCx X A s4 H4 E' scope (.ref c') fp pn) ifs t ∧ DE (W.tab (T' c' P')) E' (GX.gxCx X A s4 H4 E' scope (.ref c') fp pn) elt el)
    (hs : ∀ v, genFold iter X.env v = pure v) (EG : XK) (hEG : ∀ H4 (c : Nat), E (.ref (W.X c)) none H4 → EG (.ref (W.X c)) none H4)
    (I : Inv X pins σ H s) (r : Rel W B Fs σ H ρ) (p : Post W E (DR W) B Fs σ H (gxE (own.map (·.2)) it g t el cs fin ρ) Q)
    (hYd : ∀ ys y H (P Q : Prop), (P → Q) → Yd ys y H P → Yd ys y H Q) (hY : ∀ ys y H' k, YdG W EG B Fs σ H Q cs ys y H' k → Yd ys y H' k) (hF : ∀ ys H', FinG W EG B Fs σ H Q fin ys H' → Fin ys H')
    (hQ : ∀ a n s5, GX.GStart X pins σ EG Fin Yd a n (okG X) s5 → Q' (.ref a) s5) :
    wpAny (model X.prog X.w) X.A (eval (.GeneratorExp elt [⟨tg, iter, ifs, 0⟩] scope pos) X.env) Q' X.xe s := by
  let vs := own.map (·.2)
  refine GX.gx_make (c := c) (wi := dI W E it) (R := fun J code H4 => ∃ (ds : List D) (ρ1 : Rho) (Fs1 : Nat → AS) (H1 : Hp) (S S' : Addr → Prop) (c' P' : Addr), it ρ = .ok ds ρ1 ∧ Rel W B Fs1 σ H1 ρ1 ∧ ItOk W.C (OO B Fs1) H1 J ds ∧ Stp B Fs Fs1 H H1 ∧ GX.TabsS S H1 ∧ GX.TabExt S H1 H4 S' ∧ code = .ref c' ∧ H4 c' = some (GX.CodeX c' P') ∧ S' P' ∧ (T' c' P').p H4)
    hr BM ok hi hs I ?_ fun J code H4 a s5 itA fp tn s4 gi go h' hR G => ?_
  · refine ⟨B, Fs, ρ, r, ?_⟩
    unfold gxE M.bind at p
    cases hm : it ρ with
    | exc c ρ2 => rw [hm] at p; exact p
    | bad => rw [hm] at p; exact p
    | ok ds ρ1 =>
      intro J H1 Fs1 r1 ik s1
      obtain ⟨S, SP, TS, hS⟩ := TX.opn H1 r1.tb
      refine ⟨S, P, ⟨RC.1, RC.2.imp id fun h => h H1 r1.tb⟩, SP, TS, fun code H4 S' te ⟨c', P', e1, e2, e3⟩ => ⟨ds, ρ1, Fs1, H1, S, S', c', P', rfl, r1, ik, s1, TS, te, e1, e2, e3, hS H4 S' te c' P' e3 e2⟩⟩
  · obtain ⟨ds, ρ1, Fs1, H1, S, S', c', P', hm, r1, ik, s1, TS, te, rfl, hcx, SP', hp'⟩ := hR
    unfold gxE M.bind at p
    rw [hm] at p
    simp only at p
    obtain ⟨r4, s4'⟩ := r1.ext TS te hp'
    have p' : OutG W EG B Fs σ H Q fin ρ1 vs (gxF vs g t el cs ds [] (wipeR ρ1 vs)) := by
      unfold OutG
      cases ho : gxF vs g t el cs ds [] (wipeR ρ1 vs) with
      | exc c ρ2 =>
        rw [ho] at p
        exact fun H'' Fs'' rr ss => hEG _ _ (p H'' Fs'' rr ss)
      | bad => rw [ho] at p; exact p
      | ok x ρ2 =>
        rw [ho] at p
        cases x with
        | inl acc =>
          simp only at p ⊢
          cases hfin : fin acc with
          | none => rw [hfin] at p; exact p
          | some r => rw [hfin] at p; exact p
        | inr r => exact p
    obtain ⟨St, m, hw, h0⟩ := gx_turn (E := EG) r1 s1 r4 s4' (TX.back c' P') ik hf his nx p' hY hF
    refine hQ a (m + 1) s5 ⟨⟨gi, G.gen _ G.obj⟩, G.lt, G.bare, G.lim, fun A Ss Tie s' hok hTie os gens kp hSs ht => ?_⟩
    obtain ⟨hh, hfr, hdp, hun⟩ := hok
    have hrG : Room k (GX.gxCx X A.in1 s4 H4 EG scope (.ref c') fp [(a, go)]).A := ⟨hh, by
      have h1 := hr.dp
      show A.depth + 1 + 3 * k + 5 < _
      omega, by
      have h1 := hr.un
      show A.units + 1 + 3 + 16 * k + 200 < _
      omega⟩
    obtain ⟨b1, b2, b3⟩ := hb EG A.in1 s4 H4 c' P' fp [(a, go)] hrG GX.takes_gx
    exact G.run ok hN hh hfr b1 b2 b3 hYd hTie hw h0 os (by rw [gens]; exact G.bare) gens kp hSs ht
/-- an item goes by -/
def csTup : List D → D → Cs := fun _ _ => .go
def finTup : List D → Option D := fun acc => some (.tup acc)
def csB (b0 : Bool) : List D → D → Cs := fun _ d => match d with
  | .bl b => if b = b0 then .stop (.bl b0) else .go
  | _ => .bad
def finB (b0 : Bool) : List D → Option D := fun _ => some (.bl (!b0))
def csI : List D → D → Cs := fun _ d => match d with
  | .int _ => .go
  | _ => .bad
def sumD : List D → Int
  | [] => 0
  | .int i :: r => i + sumD r
  | _ :: r => sumD r
def finI : List D → Option D := fun acc => some (.int (sumD acc))
end
end DL
end

section
set_option Elab.async false
set_option linter.all false
set_option maxRecDepth 100000
set_option maxHeartbeats 2000000
/-! D23: tuple, any, all, sum of a generator expression. -/
namespace DL
open PySem PySem.Spec PyProof.Rows L2
structure GxOk (W : Dx) (E : XK) (X : Cx) (k : Nat) (T' : Addr → Addr → Tb) (c P : Addr) (elt tg iter : Expr) (ifs : List Expr) (scope : Scope) (own : List (Str × Nat)) (it : M (List D)) (is : List Nat) (g : D → M Unit) (t : M Bool) (el : M D) : Prop where
  hr : Room (k + 1) X.A
  bm : GX.BMod X.base X.mg
  ok : GX.GOk X.N X.env.scope scope own
  hN : X.N.Nodup
  tx : TbY W.T P T'
  rc : RunT X W.T c P
  hX : ∀ c, PySem.W.subIn X.K (.ref (W.X c)) (.type "StopIteration") = some false
  tk : GX.TakesF X E
  hi : DI W E X tg iter it
  his : ∀ j ∈ is, j ∈ own.map (·.2)
  hf : ∀ j ∈ own.map (·.2), free W j
  nx : NoX g
  hs : ∀ v, genFold iter X.env v = pure v
  hb : ∀ (E' : XK) (A : Around) (s4 : Shared) (H4 : Hp) (c' P' : Addr) (fp : List Addr) (pn : List (Addr × Obj)), Room k (GX.gxCx X A s4 H4 E' scope (.ref c') fp pn).A → GX.TakesF (GX.gxCx X A s4 H4 E' scope (.ref c') fp pn) E' →
      DG (W.tab (T' c' P')) (GX.gxCx X A s4 H4 E' scope (.ref c') fp pn) tg is g ∧ DTs (W.tab (T' c' P')) E' (GX.gxCx X A s4 H4 E' scope (.ref c') fp pn) ifs t ∧ DE (W.tab (T' c' P')) E' (GX.gxCx X A s4 H4 E' scope (.ref c') fp pn) elt el
section
variable {W : Dx} {E : XK} {X : Cx} {k : Nat} {T' : Addr → Addr → Tb} {c P : Addr} {elt tg iter : Expr} {ifs : List Expr} {scope : Scope} {own : List (Str × Nat)} {it : M (List D)} {is : List Nat} {g : D → M Unit} {t : M Bool} {el : M D} {x : Str} {p pos gpos : Pos}
theorem EndG.base {EG : XK} {B : AS} {Fs : Nat → AS} {σ : L2.St} {H H' : Hp} {Q : VK} {d : D} {v : V} (h : EndG W EG B Fs σ H Q d H') (hv : ∀ C O H, Fz C O H d v) : Q v H' := by
  obtain ⟨Fe, ρe, rE, sE, p⟩ := h
  exact p v H' Fe A0 (rE.u0 fun _ z => z) (by rw [u0 (F := A0) fun _ z => z]; exact hv _ _ _) sE fun _ z => z.elim
theorem okG_in1 {A : Around} (hr : Room (k + 1) A) (hfr : A.frames = some X.stack) (hA : X.A = A) : okG X A.in1 ∧ okG X A.in1.in1 ∧ okG X A.in1.in1.in1 := by
  subst hA
  refine ⟨⟨hr.hd, hfr, rfl, ?_⟩, ⟨hr.hd, hfr, rfl, ?_⟩, hr.hd, hfr, rfl, ?_⟩
  · show X.A.units + 1 ≤ _; omega
  · show X.A.units + 1 + 1 ≤ _; omega
  · show X.A.units + 1 + 1 + 1 ≤ _; omega
theorem fz_blx {C : CN} {O : AS} {H : Hp} {b : Bool} : Fz C O H (.bl b) (.bl b) := by unfold Ow; rfl
theorem fz_intx {C : CN} {O : AS} {H : Hp} {b : Int} : Fz C O H (.int b) (.int b) := by unfold Ow; rfl
theorem ydB_of {EG : XK} {B : AS} {Fs : Nat → AS} {σ : L2.St} {H : Hp} {Q : VK} {b0 : Bool} (ys : List V) (y : V) (H' : Hp) (kk : Prop) (h : YdG W EG B Fs σ H Q (csB b0) ys y H' kk) : GX.YdB b0 (fun H => Q (.bl b0) H) ys y H' kk := by
  obtain ⟨acc, d, O, _, hd, h⟩ := h
  unfold csB at h
  cases d with
  | bl b =>
    simp only at h
    unfold Ow at hd
    refine ⟨b, hd, ?_⟩
    by_cases e : b = b0
    · rw [if_pos e] at h ⊢
      exact EndG.base h fun _ _ _ => fz_blx
    · rw [if_neg e] at h ⊢
      exact h.2
  | _ => exact h.elim
theorem finB_of {EG : XK} {B : AS} {Fs : Nat → AS} {σ : L2.St} {H : Hp} {Q : VK} {b0 : Bool} (ys : List V) (H' : Hp) (h : FinG W EG B Fs σ H Q (finB b0) ys H') : Q (.bl (!b0)) H' := by
  obtain ⟨acc, Fe, ρe, r, rE, sE, _, _, e, p⟩ := h
  cases e
  exact EndG.base ⟨Fe, ρe, rE, sE, p⟩ fun _ _ _ => fz_blx
theorem de_gx_any (G : GxOk W E X k T' c P elt tg iter ifs scope own it is g t el) (hg : Gl X "any") (hm : X.mg "any" = none)
    (he : starEach [.GeneratorExp elt [⟨tg, iter, ifs, 0⟩] scope gpos] X.env = (false, eval (.GeneratorExp elt [⟨tg, iter, ifs, 0⟩] scope gpos) X.env) :: starEach [] X.env := by rfl) :
    DE W E X (.Call (.Name "any" p) [.GeneratorExp elt [⟨tg, iter, ifs, 0⟩] scope gpos] [] pos) (gxE (own.map (·.2)) it g t el (csB true) (finB true)) := by
  refine ⟨fun pins s σ H Q I h => ?_⟩
  obtain ⟨B, Fs, ρ, r, p⟩ := h
  obtain ⟨ok1, _, _⟩ := okG_in1 G.hr I.ok.frames rfl
  refine wpAny_Call_Name_kw (ld_blt I hg hm boot_any ?_)
  refine PyProof.Rows.callWith_builtin1 ?_ he (by rfl)
  rw [he]
  show wpAny _ _ (spliced ((false, eval (.GeneratorExp elt [⟨tg, iter, ifs, 0⟩] scope gpos) X.env) :: backTo pos (starEach [] X.env))) _ _ s
  refine Calls.spliced_cons (gx_data (Fin := fun _ H' => Q (.bl false) H') G.hr G.bm G.ok G.hN G.tx G.rc G.hi G.his G.hf G.nx G.hb G.hs (Eo W E) (fun _ c h => ⟨h, c, rfl⟩) I r p GX.ydB_mono ydB_of (fun ys H' h => finB_of ys H' h) fun a n s5 hG => Calls.spliced_nil ?_)
  exact GX.call_any_gx G.hr.hd G.hr.depth (eo_ns G.hX) (G.tk.imp fun _ _ _ h => h.1) ok1 hG (fun s' H' J ⟨_, h⟩ => ⟨.bl false, H', J, rfl, h⟩) fun s' H' J h => ⟨.bl true, H', J, rfl, h⟩
theorem de_gx_all (G : GxOk W E X k T' c P elt tg iter ifs scope own it is g t el) (hg : Gl X "all") (hm : X.mg "all" = none)
    (he : starEach [.GeneratorExp elt [⟨tg, iter, ifs, 0⟩] scope gpos] X.env = (false, eval (.GeneratorExp elt [⟨tg, iter, ifs, 0⟩] scope gpos) X.env) :: starEach [] X.env := by rfl) :
    DE W E X (.Call (.Name "all" p) [.GeneratorExp elt [⟨tg, iter, ifs, 0⟩] scope gpos] [] pos) (gxE (own.map (·.2)) it g t el (csB false) (finB false)) := by
  refine ⟨fun pins s σ H Q I h => ?_⟩
  obtain ⟨B, Fs, ρ, r, p⟩ := h
  obtain ⟨ok1, _, _⟩ := okG_in1 G.hr I.ok.frames rfl
  refine wpAny_Call_Name_kw (ld_blt I hg hm boot_all ?_)
  refine PyProof.Rows.callWith_builtin1 ?_ he (by rfl)
  rw [he]
  show wpAny _ _ (spliced ((false, eval (.GeneratorExp elt [⟨tg, iter, ifs, 0⟩] scope gpos) X.env) :: backTo pos (starEach [] X.env))) _ _ s
  refine Calls.spliced_cons (gx_data (Fin := fun _ H' => Q (.bl true) H') G.hr G.bm G.ok G.hN G.tx G.rc G.hi G.his G.hf G.nx G.hb G.hs (Eo W E) (fun _ c h => ⟨h, c, rfl⟩) I r p GX.ydB_mono ydB_of (fun ys H' h => finB_of ys H' h) fun a n s5 hG => Calls.spliced_nil ?_)
  exact GX.call_all_gx G.hr.hd G.hr.depth (eo_ns G.hX) (G.tk.imp fun _ _ _ h => h.1) ok1 hG (fun s' H' J ⟨_, h⟩ => ⟨.bl true, H', J, rfl, h⟩) fun s' H' J h => ⟨.bl false, H', J, rfl, h⟩
theorem ydL_of {EG : XK} {B : AS} {Fs : Nat → AS} {σ : L2.St} {H : Hp} {Q : VK} (ys : List V) (y : V) (H' : Hp) (kk : Prop) (h : YdG W EG B Fs σ H Q csTup ys y H' kk) : GX.YdL ys y H' kk := by
  obtain ⟨acc, d, O, _, hd, h⟩ := h
  exact h
theorem de_gx_tuple (G : GxOk W E X k T' c P elt tg iter ifs scope own it is g t el) (hg : Gl X "tuple") (hm : X.mg "tuple" = none)
    (he : starEach [.GeneratorExp elt [⟨tg, iter, ifs, 0⟩] scope gpos] X.env = (false, eval (.GeneratorExp elt [⟨tg, iter, ifs, 0⟩] scope gpos) X.env) :: starEach [] X.env := by rfl) :
    DE W E X (.Call (.Name "tuple" p) [.GeneratorExp elt [⟨tg, iter, ifs, 0⟩] scope gpos] [] pos) (gxE (own.map (·.2)) it g t el csTup finTup) := by
  refine ⟨fun pins s σ H Q I h => ?_⟩
  obtain ⟨B, Fs, ρ, r, p⟩ := h
  obtain ⟨_, _, ok3⟩ := okG_in1 G.hr I.ok.frames rfl
  refine wpAny_Call_Name_kw (ld_blt I hg hm PyProof.Rows.boot_tuple ?_)
  refine PyProof.Rows.callWith_type1 ?_ he (by rfl)
  rw [he]
  show wpAny _ _ (spliced ((false, eval (.GeneratorExp elt [⟨tg, iter, ifs, 0⟩] scope gpos) X.env) :: backTo pos (starEach [] X.env))) _ _ s
  refine Calls.spliced_cons (gx_data (Fin := fun ys H' => ys.length ≤ sizeLine ∧ FinG W (Eo W E) B Fs σ H Q finTup ys H') G.hr G.bm G.ok G.hN G.tx G.rc G.hi G.his G.hf G.nx G.hb G.hs (Eo W E) (fun _ c h => ⟨h, c, rfl⟩) I r p GX.ydL_mono ydL_of (fun ys H' h => ⟨?_, h⟩) fun a n s5 hG => Calls.spliced_nil ?_)
  · obtain ⟨acc, Fe, ρe, r, rE, sE, fz', hl, e, p⟩ := h
    rw [fz'.length, sz24]
    exact hl
  refine GX.call_tuple_gx G.hr.hd G.hr.depth (eo_ns G.hX) (G.tk.imp fun _ _ _ h => h.1) ok3 hG (fun s' ys us H' J rv hl ⟨acc, Fe, ρe, r, rE, sE, fz', _, e, p⟩ => ?_) fun e s' h => h
  cases e
  have hn : H' s'.heap.objs.size = none := J.hok.fresh (Nat.le_refl _)
  refine ⟨.ref s'.heap.objs.size, upd H' s'.heap.objs.size (.tup ys), ?_, rfl, ?_⟩
  · exact J.laid (t' := s'.toks) (fun b o e => Heap.get?_push_of_some _ e) (Nat.le_refl _) ⟨hl, us, rv, _, Heap.get?_push_size _ rfl, rfl, 0, rfl⟩
  · obtain ⟨al, F, fr, ob, ow⟩ := Res.tup (C := W.C) (O := OO B Fe) hn fz' (OT.new rE.ot hn)
    have r2 := rE.res al fr ob
    refine p _ _ Fe F r2 ?_ (sE.trans (al.stp fun b z => rE.bd b z)) fun b z => sE.fresh (fr b z)
    show Ow W.C (OO (U B F) Fe) _ F _ _
    rw [← uoo]
    exact ow
/-! ### sum: no exception inside -/
theorem ydI_of {EG : XK} {B : AS} {Fs : Nat → AS} {σ : L2.St} {H : Hp} {Q : VK} (ys : List V) (y : V) (H' : Hp) (kk : Prop) (h : YdG W EG B Fs σ H Q csI ys y H' kk) : GX.YdI ys y H' kk := by
  obtain ⟨acc, d, O, _, hd, h⟩ := h
  unfold csI at h
  cases d with
  | int i => simp only at h; unfold Ow at hd; exact ⟨i, hd, h.2⟩
  | _ => exact h.elim
theorem sumD_eq {C : CN} {O : AS} {H : Hp} : ∀ {ds : List D} {vs : List V}, (∀ d ∈ ds, ∃ i, d = .int i) → FzL C O H ds vs → GX.sumV vs = sumD ds
  | [], vs, _, h => by unfold OwL at h; subst h; rfl
  | d :: ds, vs, hi, h => by
    obtain ⟨v, r, rfl, h1, h2⟩ := fzL_inv h
    obtain ⟨i, rfl⟩ := hi d List.mem_cons_self
    unfold Ow at h1
    subst h1
    show i + GX.sumV r = i + sumD ds
    rw [sumD_eq (fun d hd => hi d (List.mem_cons_of_mem _ hd)) h2]
def allI : List D → Bool
  | [] => true
  | .int _ :: r => allI r
  | _ => false
theorem allI_mem : ∀ {ds : List D}, allI ds = true → ∀ d ∈ ds, ∃ i, d = .int i
  | [], _, d, hd => by simp at hd
  | e :: ds, h, d, hd => by
    cases e with
    | int i =>
      rcases List.mem_cons.mp hd with z | z
      · exact ⟨i, z⟩
      · exact allI_mem (ds := ds) h d z
    | _ => cases h
def finS : List D → Option D := fun acc => if allI acc = true then some (.int (sumD acc)) else none
theorem de_gx_sum (G : GxOk W E0 X k T' c P elt tg iter ifs scope own it is g t el) (hg : Gl X "sum") (hm : X.mg "sum" = none)
    (he : starEach [.GeneratorExp elt [⟨tg, iter, ifs, 0⟩] scope gpos] X.env = (false, eval (.GeneratorExp elt [⟨tg, iter, ifs, 0⟩] scope gpos) X.env) :: starEach [] X.env := by rfl) :
    DE W E0 X (.Call (.Name "sum" p) [.GeneratorExp elt [⟨tg, iter, ifs, 0⟩] scope gpos] [] pos) (gxE (own.map (·.2)) it g t el csI finS) := by
  refine ⟨fun pins s σ H Q I h => ?_⟩
  obtain ⟨B, Fs, ρ, r, p⟩ := h
  obtain ⟨ok1, _, _⟩ := okG_in1 G.hr I.ok.frames rfl
  refine wpAny_Call_Name_kw (ld_blt I hg hm boot_sum ?_)
  refine PyProof.Rows.callWith_builtin1 ?_ he (by rfl)
  rw [he]
  show wpAny _ _ (spliced ((false, eval (.GeneratorExp elt [⟨tg, iter, ifs, 0⟩] scope gpos) X.env) :: backTo pos (starEach [] X.env))) _ _ s
  refine Calls.spliced_cons (gx_data (Fin := fun ys H' => FinG W (fun _ _ _ => False) B Fs σ H Q finS ys H') G.hr G.bm G.ok G.hN G.tx G.rc G.hi G.his G.hf G.nx G.hb G.hs (fun _ _ _ => False) (fun _ c h => h) I r p GX.ydI_mono ydI_of (fun ys H' h => h) fun a n s5 hG => Calls.spliced_nil ?_)
  refine GX.call_sum_gx G.hr.hd G.hr.depth (fun _ _ _ h => h.elim) ok1 hG fun s' ys H' t J ⟨acc, Fe, ρe, r, rE, sE, fz', _, e, p⟩ => ?_
  unfold finS at e
  split at e
  · rename_i ha
    cases e
    rw [sumD_eq (allI_mem ha) fz']
    exact ⟨.int (sumD acc), H', J, ⟨t, rfl⟩, EndG.base ⟨Fe, ρe, rE, sE, p⟩ fun _ _ _ => fz_intx⟩
  · cases e
end
end DL
end

section
set_option Elab.async false
set_option linter.all false
set_option maxRecDepth 100000
set_option maxHeartbeats 2000000
/-! D24: sorted of a generator expression; exceptions that cannot be. -/
namespace DL
open PySem PySem.Spec PyProof.Rows L2 GenW
def noX {α : Type} (m : M α) : M α := fun ρ => match m ρ with
  | .exc _ _ => .bad
  | o => o
section
variable {W : Dx} {E : XK} {X : Cx}
theorem noX_rd {α β : Type} {R : RR α β} {m : M α} {σ : L2.St} {H : Hp} {Q : β → Hp → Prop} (h : dT W E R (noX m) σ H Q) : dT W E0 R m σ H Q := by
  obtain ⟨B, Fs, ρ, r, p⟩ := h
  refine ⟨B, Fs, ρ, r, ?_⟩
  unfold noX at p
  cases hm : m ρ with
  | exc c ρ2 => rw [hm] at p; exact p.elim
  | bad => rw [hm] at p; exact p.elim
  | ok a ρ2 => rw [hm] at p; exact p
theorem de_noX {e : Expr} {m : M D} (h : DE W E0 X e m) : DE W E X e (noX m) := mnE h fun σ H Q q => noX_rd q
theorem takes_E0 : GX.TakesF X E0 := GX.takesF0
variable {pins : List (Addr × Obj)} {σ : L2.St} {H : Hp} {s : Shared} {A : Around} {a : Addr}
theorem rel_each {K : PySem.W.Frag} {H : Hp} {ws : List V} {ps : List PyData} {us : List Value} (rv : Vals ws us) (hd : DpAll K H ws ps) {P : Value → V × PyData → Prop} (h : ∀ u w p, RelV w u → Dp K H w p → P u (w, p)) : PySem.W.EachIs P us (ws.zip ps) := by
  have lw := dpAll_len hd
  have li := rv.length
  have dpget : ∀ {ws : List V} {ps : List PyData} {i : Nat} {w : V} {p : PyData}, DpAll K H ws ps → ws[i]? = some w → ps[i]? = some p → Dp K H w p := fun {ws} => by
    induction ws with
    | nil => intro ps i w p h e; simp at e
    | cons v vs ih =>
      intro ps i w p h e1 e2
      cases h with
      | cons h1 h2 =>
        cases i with
        | zero => simp at e1 e2; subst e1; subst e2; exact h1
        | succ i => exact ih h2 (by simpa using e1) (by simpa using e2)
  refine zip_each (by omega) lw fun i u w p e1 e2 e3 => ?_
  obtain ⟨u', e4, e5⟩ := rv.get e2
  rw [e1] at e4
  cases e4
  exact h u w p e5 (dpget hd e2 e3)
theorem call_sorted_gx {n : Nat} {EG : XK} {Fin : List V → Hp → Prop} {okA : Around → Prop} {Q : VK} (hh : X.A.handled = none) (hd : X.A.depth < recursionLimit) (hu : X.A.units + 65 < cLine) (hns : NoStop X.K EG) (tk : GX.TakesF X EG) (hok : okA X.A.in1.in1)
    (hG : GX.GStart X pins σ EG (fun ys H => ys.length ≤ sizeLine ∧ Fin ys H) GX.YdL a n okA s)
    (hQ : ∀ ys H', Fin ys H' → ∃ ps, DpAll X.K H' ys ps ∧ ps.length ≤ 2 ^ 24 ∧ sortB ps = true ∧ ∀ p, H' p = none → Q (.ref p) (upd H' p (.lst (((ys.zip ps).mergeSort fun x y => !PySem.W.dataLt y.2 x.2).map (·.1))))) :
    wpAny (model X.prog X.w) X.A (call (.builtin "sorted") [.ref a]) (EP X pins σ Q) X.xe s := by
  refine Calls.call_function_entry kind_sorted plain_sorted entry_sorted (args_sorted1 _) ?_
  unfold Builtin.«sorted»
  refine wpAny_bind (m := checkCount "sorted" 1 1 _) (wpAny_pure ?_)
  refine wpAny_bind (GX.collect_gx (A := X.A.in1) hh hd hns tk hok hG (fun s' ys us H' J rv hl hf => ?_) fun e s' h => h)
  obtain ⟨ps, hdp, hlp, hb, q⟩ := hQ ys H' hf
  refine wpAny_bind (wpAny_newList ?_ (by have := rv.length; omega))
  have lw := dpAll_len hdp
  have li := rv.length
  unfold sortB at hb
  rw [Bool.and_eq_true, Bool.and_eq_true] at hb
  obtain ⟨⟨hb1, hb2⟩, hb3⟩ := hb
  have hzp : (ys.zip ps).map (·.2) = ps := List.map_snd_zip (by omega)
  have hoL : (s'.heap.push { cls := .type "list", data := .seq us.toArray }).get? s'.heap.objs.size = some (seqObj "list" us.toArray 0) := Heap.get?_push_size _ rfl
  have kp : ∀ b o, s'.heap.get? b = some o → (s'.heap.push { cls := .type "list", data := .seq us.toArray }).get? b = some o := fun b o e => Heap.get?_push_of_some _ e
  have eR : PySem.W.EachIs (fun u (b : V × PyData) => RelV b.1 u) us (ys.zip ps) := rel_each rv hdp fun u w p h _ => h
  have eD : PySem.W.EachIs (fun u (b : V × PyData) => ∃ as, Reads (s'.heap.push { cls := .type "list", data := .seq us.toArray }) u b.2 as ∧ s'.heap.objs.size ∉ as) us (ys.zip ps) := rel_each rv hdp fun u w p h1 h2 => by
    obtain ⟨as, r⟩ := Dp.reads J p w u h2 h1
    refine ⟨as, PyProof.Rows.Reads.keeps kp r, fun z => ?_⟩
    obtain ⟨o, e⟩ := PyProof.On.reads_mem_get r _ z
    exact Nat.lt_irrefl _ (Heap.lt_size e)
  have hdep : ∀ b, b ∈ ys.zip ps → X.A.in1.units + 1 + b.2.depth < cLine := fun b hb => by
    rw [List.all_eq_true] at hb3
    have := hb3 b.2 (by rw [← hzp]; exact List.mem_map.mpr ⟨b, hb, rfl⟩)
    simp only [decide_eq_true_eq] at this
    show X.A.units + 1 + 1 + b.2.depth < cLine
    omega
  refine wpAny_bind (wpAny_holding (PySem.W.list_sort_data (enc := fun b => b.2) (R := fun u (b : V × PyData) => RelV b.1 u) hoL eR eD (by rw [hzp]; exact alikeB_ok hb1) (by rw [hzp]; exact sortable_ok hb2) (by rw [List.length_zip, sz24]; omega) hdep fun out ho eo => ?_))
  refine wpAny_pure ⟨_, rfl, ?_⟩
  obtain ⟨ep, he'⟩ := PyProof.Rows.sortedHeap_at (out := out.toArray) hoL
  have hle : PySem.W.dataLe false (fun b : V × PyData => b.2) = fun x y => !PySem.W.dataLt y.2 x.2 := by rw [PySem.W.dataLe_eq]; rfl
  rw [hle] at eo
  have toVals : ∀ {us : List Value} {bs : List (V × PyData)}, PySem.W.EachIs (fun u (b : V × PyData) => RelV b.1 u) us bs → Vals (bs.map (·.1)) us := fun {us bs} e => by
    induction e with
    | nil => exact .nil
    | cons h _ ih => exact .cons h ih
  have rv2 := toVals eo
  have hlen : (((ys.zip ps).mergeSort fun x y => !PySem.W.dataLt y.2 x.2).map (·.1)).length ≤ sizeLine := by
    rw [List.length_map, List.length_mergeSort, List.length_zip, sz24]; omega
  refine ⟨.ref _, upd H' s'.heap.objs.size (.lst (((ys.zip ps).mergeSort fun x y => !PySem.W.dataLt y.2 x.2).map (·.1))), J.laid (t' := s'.toks) (fun b o e => ?_) (Nat.le_refl _) ⟨hlen, out, ep, rv2, by simpa using he'⟩, rfl, q _ (J.hok.fresh (Nat.le_refl _))⟩
  have hlt := Heap.lt_size e
  have hb : b ≠ s'.heap.objs.size := Nat.ne_of_lt hlt
  exact (PyProof.Rows.sortedHeap_old hb (Heap.lt_size (kp b o e))).trans (kp b o e)
variable {k : Nat} {T' : Addr → Addr → Tb} {c P : Addr} {elt tg iter : Expr} {ifs : List Expr} {scope : Scope} {own : List (Str × Nat)} {it : M (List D)} {is : List Nat} {g : D → M Unit} {t : M Bool} {el : M D} {x : Str} {p pos gpos : Pos}
theorem de_gx_sorted (G : GxOk W E X k T' c P elt tg iter ifs scope own it is g t el) (hg : Gl X "sorted") (hm : X.mg "sorted" = none)
    (he : starEach [.GeneratorExp elt [⟨tg, iter, ifs, 0⟩] scope gpos] X.env = (false, eval (.GeneratorExp elt [⟨tg, iter, ifs, 0⟩] scope gpos) X.env) :: starEach [] X.env := by rfl) :
    DE W E X (.Call (.Name "sorted" p) [.GeneratorExp elt [⟨tg, iter, ifs, 0⟩] scope gpos] [] pos) (gxE (own.map (·.2)) it g t el csTup sortL) := by
  refine ⟨fun pins s σ H Q I h => ?_⟩
  obtain ⟨B, Fs, ρ, r, p⟩ := h
  obtain ⟨_, ok2, _⟩ := okG_in1 G.hr I.ok.frames rfl
  refine wpAny_Call_Name_kw (ld_blt I hg hm PyProof.Rows.boot_sorted ?_)
  refine PyProof.Rows.callWith_builtin1 ?_ he (by rfl)
  rw [he]
  show wpAny _ _ (spliced ((false, eval (.GeneratorExp elt [⟨tg, iter, ifs, 0⟩] scope gpos) X.env) :: backTo pos (starEach [] X.env))) _ _ s
  refine Calls.spliced_cons (gx_data (Fin := fun ys H' => ys.length ≤ sizeLine ∧ FinG W (Eo W E) B Fs σ H Q sortL ys H') G.hr G.bm G.ok G.hN G.tx G.rc G.hi G.his G.hf G.nx G.hb G.hs (Eo W E) (fun _ c h => ⟨h, c, rfl⟩) I r p GX.ydL_mono ydL_of (fun ys H' h => ⟨?_, h⟩) fun a n s5 hG => Calls.spliced_nil ?_)
  · obtain ⟨acc, Fe, ρe, r, rE, sE, fz', hl, e, p⟩ := h
    rw [fz'.length, sz24]
    exact hl
  refine call_sorted_gx G.hr.hd G.hr.depth (by have := G.hr.un; omega) (eo_ns G.hX) (G.tk.imp fun _ _ _ h => h.1) ok2 hG fun ys H' ⟨acc, Fe, ρe, r, rE, sE, fz', _, e, p⟩ => ?_
  unfold sortL at e
  cases hps : toPs acc with
  | none => rw [hps] at e; cases e
  | some ps =>
    rw [hps] at e
    simp only at e
    split at e
    · rename_i hc
      cases e
      refine ⟨ps, toPs_dp acc ys ps fz' hps, hc.1, hc.2, fun q hq => ?_⟩
      obtain ⟨al, F, fr, ob, ow⟩ := Res.lst hq (sort_fz fz' hps)
      have r2 := rE.res al fr ob
      refine p _ _ Fe F r2 ?_ (sE.trans (al.stp fun b z => rE.bd b z)) fun b z => sE.fresh (fr b z)
      show Ow W.C (OO (U B F) Fe) _ F _ _
      rw [← uoo]
      exact ow
    · cases e
end
end DL
end

section
set_option Elab.async false
set_option linter.all false
set_option maxRecDepth 100000
set_option maxHeartbeats 2000000
/-! G7: a lambda made, its function object known in the abstract heap; a def that is given it calls it. -/
namespace GX
open PySem PySem.Spec PyProof.Rows L2
open LamX (CodeO TabS TabB LamS lamEnv lamCx)

abbrev lamName : Str := "<lambda>"
/-- the lambda's object at f, its code object at c' -/
def LamF (q : Str) (ps : Arguments) (bd : Expr) (sc : Scope) (cl : List (Str × Addr)) (f c' : Addr) : Heap → Prop :=
  fun h => ∃ pm ctv : Value, h.get? f = some (PySem.W.kla_obj lamName q ps bd sc cl pm c' ctv)
/-- what a lambda's making leaves -/
structure LamTo (P : Addr) (q : Str) (φ : Addr → Addr → Heap → Prop) (H : Hp) (f c' : Addr) (H' : Hp) : Prop where
  old : ∀ b, b ≠ P → H b ≠ none → H' b = H b
  dom : ∀ b, H b ≠ none → H' b ≠ none
  tab : TabS H' P q
  fo : H' f = some (.ext (φ f c'))
  fn : H f = none
  co : H' c' = some (CodeO c' q)
  cn : ∀ b, H b = none → b ≠ f → b ≠ c' → H' b = none
section
variable {X : Cx} {pins : List (Addr × Obj)} {σ : L2.St} {H : Hp} {s : Shared}
theorem lam_new {c P : Addr} {ps : Arguments} {bd : Expr} {sc : Scope} {pos : Pos} {E : Value → Shared → Prop} {Q : Value → Shared → Prop} (I : Inv X pins σ H s) (TB : TabB X.base X.mg c P) (hcode : X.env.code = .ref c) (hT : TabS H P (X.env.qual ++ lamName))
    (hdef : defaultsOf ps X.env = ([], [])) (L : LamS X.env.scope sc)
    (h : ∀ (f c' : Addr) (H1 : Hp) (s' : Shared), Inv X pins σ H1 s' → LamTo P (X.env.qual ++ lamName) (LamF (X.env.qual ++ lamName) ps bd sc (cloFrom X.env.cells sc.names [])) H f c' H1 → Q (.ref f) s') :
    wpAny (model X.prog X.w) X.A (eval (.Lambda ps bd sc pos) X.env) Q E s := by
  obtain ⟨tb, htb, htr, hall⟩ := hT
  have onHeap : s.heap.get? P = some { cls := .none, data := .fields tb } := I.hok P _ htb
  have bmod := TB.bm.keeps I.bk
  have clo := closure_ok (L.has I.ok)
  -- the object is pushed over a heap that is held
  have push : ∀ {H1 : Hp} {h1 : Heap} {tk : Tok} {c' : Addr} {pm ctv : Value}, Inv X pins σ H1 { s with heap := h1, toks := tk } →
      Inv X pins σ (upd H1 h1.objs.size (.ext (LamF (X.env.qual ++ lamName) ps bd sc (cloFrom X.env.cells sc.names []) h1.objs.size c'))) { s with heap := h1.push (PySem.W.kla_obj lamName (X.env.qual ++ lamName) ps bd sc (cloFrom X.env.cells sc.names []) pm c' ctv), toks := tk } := fun {H1 h1 tk c' pm ctv} J =>
    J.laid (t' := tk) (fun b u e => Heap.get?_push_of_some _ e) (Nat.le_refl _) ⟨⟨pm, ctv, Heap.get?_push_size _ rfl⟩, ⟨_, Heap.get?_push_size _ rfl⟩, fun g1 g2 ⟨pm, ctv, e⟩ k => ⟨pm, ctv, k _ e⟩⟩
  refine PySem.W.kla_eval hdef ?_
  cases hfind : codeAmong pos tb.toList with
  | some cv =>
    obtain ⟨c', rfl, hc'⟩ := hall pos cv hfind
    refine PySem.W.kla_makeFunctionHit (mg := X.mg) (c := c) (P := P) (ps := tb) clo I.ok.glob (I.mod.glob.keeps I.bk) hcode (TB.code.keeps I.bk) onHeap htr hfind bmod fun ctv h1 tk keeps hsz => ?_
    have J : Inv X pins σ H { s with heap := h1, toks := tk } := I.kept keeps
    have nf : H h1.objs.size = none := J.hok.fresh (Nat.le_refl _)
    have ne : ∀ b, H b ≠ none → b ≠ h1.objs.size := fun b hb z => hb (by rw [z]; exact nf)
    refine h _ c' _ _ (push J) ⟨fun b _ hb => upd_ne (ne b hb), fun b hb => by rw [upd_ne (ne b hb)]; exact hb, ⟨tb, by rw [upd_ne (ne P (by rw [htb]; simp))]; exact htb, htr, fun p v hv => ?_⟩, upd_same, nf, by rw [upd_ne (ne c' (by rw [hc']; simp))]; exact hc', fun b hb h1 h2 => by rw [upd_ne h1]; exact hb⟩
    obtain ⟨c0, e1, e2⟩ := hall p v hv
    exact ⟨c0, e1, by rw [upd_ne (ne c0 (by rw [e2]; simp))]; exact e2⟩
  | none =>
    refine PySem.W.kla_makeFunction (mg := X.mg) (c := c) (P := P) (ps := tb) clo I.ok.glob (I.mod.glob.keeps I.bk) hcode (TB.code.keeps I.bk) onHeap htr hfind TB.gP bmod fun c' ctv h1 tk keeps hge hlt hrec hnew => ?_
    obtain ⟨c2, oc, flds, t, e2, hoc, hod, hov⟩ := hrec
    cases e2
    have nC : H c' = none := I.hok.fresh hge
    have J := LamX.inv_table (t' := tk) (more := #[rawInt pos.line, rawInt pos.col, .ref c']) (h' := h1) I htb keeps hnew hge ⟨oc, flds, t, hoc, hod, hov⟩
    have nf0 := J.hok.fresh (Nat.le_refl h1.objs.size)
    have n1 : h1.objs.size ≠ c' := Nat.ne_of_gt hlt
    have n2 : h1.objs.size ≠ P := fun z => by
      have hl := Heap.lt_size hnew
      rw [← z] at hl
      exact Nat.lt_irrefl _ hl
    have nf : H h1.objs.size = none := by
      rw [upd_ne n1, upd_ne n2] at nf0
      exact nf0
    have nPc : P ≠ c' := ne_of_none htb nC
    have nef : ∀ b, H b ≠ none → b ≠ h1.objs.size := fun b hb z => hb (by rw [z]; exact nf)
    have nec : ∀ b, H b ≠ none → b ≠ c' := fun b hb z => hb (by rw [z]; exact nC)
    have same : ∀ b, b ≠ P → H b ≠ none → upd (upd (upd H P (.tbl (tb ++ #[rawInt pos.line, rawInt pos.col, .ref c']))) c' (CodeO c' (X.env.qual ++ lamName))) h1.objs.size (.ext (LamF (X.env.qual ++ lamName) ps bd sc (cloFrom X.env.cells sc.names []) h1.objs.size c')) b = H b := fun b hP hb => by
      rw [upd_ne (nef b hb), upd_ne (nec b hb), upd_ne hP]
    have lst : (tb ++ #[rawInt pos.line, rawInt pos.col, .ref c']).toList = tb.toList ++ [rawInt pos.line, rawInt pos.col, .ref c'] := by simp
    refine h _ c' _ _ (push J) ⟨same, fun b hb => ?_, ⟨_, by rw [upd_ne (Ne.symm n2), upd_ne nPc, upd_same], by rw [lst]; exact PySem.TriplesOk_snoc _ _ _ _ htr, fun p v hv => ?_⟩, upd_same, nf, by rw [upd_ne (Ne.symm n1), upd_same], fun b hb h1' h2' => ?_⟩
    · by_cases hP : b = P
      · rw [hP, upd_ne (Ne.symm n2), upd_ne nPc, upd_same]; simp
      · rw [same b hP hb]; exact hb
    · rw [lst] at hv
      rcases LamX.among_app _ htr hv with z | z
      · obtain ⟨c0, e1, e2⟩ := hall p v z
        exact ⟨c0, e1, by rw [same c0 (fun z => by rw [z, htb] at e2; cases e2) (by rw [e2]; simp)]; exact e2⟩
      · exact ⟨c', z, by rw [upd_ne (Ne.symm n1), upd_same]⟩
    · have hP : b ≠ P := fun z => by rw [z, htb] at hb; cases hb
      rw [upd_ne h1', upd_ne h2', upd_ne hP]
      exact hb
end
end GX
end

section
set_option Elab.async false
set_option linter.all false
set_option maxRecDepth 100000
set_option maxHeartbeats 2000000
/-! G8: a def that calls the lambda it was given, the lambda known in the abstract heap. -/
namespace GX
open PySem PySem.Spec PyProof.Rows L2
open LamX (CodeO TabS TabB LamS lamEnv lamCx GivesTo)
section
variable {X : Cx} {pins : List (Addr × Obj)} {σ : L2.St} {H : Hp} {s : Shared}
/-- what is read of a lambda: f its object -/
def tlF (X : Cx) (q : Str) (ps : Arguments) (bd : Expr) (sc : Scope) (f c' : Addr) (σ : L2.St) (t : XK → TE) : XK → Hp → VK → Prop :=
  fun E HZ Q => HZ f = some (.ext (LamF q ps bd sc (cloFrom X.env.cells sc.names []) f c')) ∧ t E σ HZ Q
theorem act_lam {CXg : CXT} {Eg : XK} {Ng : List Str} {qg : Str} {sg : Scope} {g f c' : Addr} {cdg : Value} {ps : Arguments} {bd : Expr} {sc : Scope} {k i : Nat} {a : Str} {pn : List (Addr × Obj)} {xe : Value → Shared → Prop} {W : WX} {E : XK} {t : XK → TE} {p1 p2 : Pos}
    (I : Inv X pins σ H s) (L : LamS X.env.scope sc)
    (hbind : ∀ (pm ctv : Value), bindArgs (PySem.W.kla_fn lamName (X.env.qual ++ lamName) ps bd sc (cloFrom X.env.cells sc.names []) pm (.ref c') ctv) ⟨[], []⟩ = pure [])
    (tk : Takes ((cxOf CXg X.prog X.w X.K X.mg X.base Ng qg sg g cdg X.A X.stack s H Eg).tr pn xe) W) (hW : ∀ cls d σ' H', E cls d H' → W cls d σ' H') (hr : Room (k + 1) (X.A.deeper (envOfC qg sg s.heap.objs.size g cdg)))
    (body : ∀ (A : Around) (outer : List Env) (s : Shared) (H : Hp), Room k (A.deeper (lamEnv X sc s.heap.objs.size f c')) → PE (lamCx X A outer s H E sc f c') bd (t E))
    (hN : Ng[i]? = some a) (hv : Vis sg a) (hd : (a == ("__debug__" : Str)) = false := by decide) (hcd : (a == ("__classdict__" : Str)) = false := by decide) :
    PE ((cxOf CXg X.prog X.w X.K X.mg X.base Ng qg sg g cdg X.A X.stack s H Eg).tr pn xe) (.Call (.Name a p1) [] [] p2)
      (fun σZ HZ Q => σZ[i]? = some (some (.ref f)) ∧ HZ c' = some (CodeO c' (X.env.qual ++ lamName)) ∧ tlF X (X.env.qual ++ lamName) ps bd sc f c' σ t E HZ Q) := by
  constructor
  intro pinsZ sZ σZ HZ Q IZ ⟨hslot, hcode, hfun, hread⟩
  have nm := (pe_var (pos := p1) (i := i) hN hv hd hcd).run pinsZ sZ σZ HZ (fun v H1 => v = .ref f ∧ H1 = HZ) IZ ⟨.ref f, hslot, rfl, rfl⟩
  refine wpAny_Call_Name_kw (thn nm fun u s1 hx => ?_)
  obtain ⟨v, H1, J, rv, rfl, rfl⟩ := hx
  obtain rfl : u = Value.ref f := rv
  obtain ⟨⟨pm, ctv, onHeap⟩, _, _⟩ := J.hok f _ hfun
  obtain ⟨⟨oc, flds, tt, hoc, hod, hov⟩, _, _⟩ := J.hok c' _ hcode
  have since : Un (frs X.stack) [] H H1 s.heap s1.heap := J.base
  refine PySem.W.callWith_F0 ⟨_, _, _, _, onHeap⟩ ?_
  have run : codeAny (model X.prog X.w) (X.A.deeper (envOfC qg sg s.heap.objs.size g cdg)) (.call (.ref f) ⟨[], []⟩) (CR (L2.CX X.prog X.w) (envOfC qg sg s.heap.objs.size g cdg :: X.stack) X.prog X.w H1 s1 Q E) s1 := by
    refine PySem.W.kla_callFunE hr.depth onHeap rfl L.co L.gen rfl ⟨c', oc, flds, tt, rfl, hoc, hod, hov⟩ ?_
    rw [hbind]
    refine wpAny_pure (wpAny_newFunctionEnv (fun y hy => (L.own y hy).2) (fun y hy => absurd hy (by simp)) (fun h₁ hns hsb => ⟨J.nolimit.fresh _ hsb, ?_⟩) L.kind)
    show codeAny _ _ (.expr bd (lamEnv X sc s1.heap.objs.size f c')) _ _
    have stays : ∀ b o, s1.heap.get? b = some o → h₁.get? b = some o := fun b o e => hsb.extBut b o (Nat.ne_of_lt (Heap.lt_size e)) (Heap.get?_push_of_some _ e)
    have JL : Inv (lamCx X (X.A.deeper (envOfC qg sg s.heap.objs.size g cdg)) (envOfC qg sg s.heap.objs.size g cdg :: X.stack) s1 H1 E sc f c') [] σ H1 { s1 with heap := h₁, toks := s1.toks + ([] : List (Str × Value)).length } :=
      LamX.lam_start2 I L J.env0 hr.hd since hns stays
    refine PySem.W.kla_codeExpr (wpAny_mono ((body _ _ s1 H1 (hr.deeper _)).run [] _ _ H1 Q JL hread) (fun v s' ⟨w', H', J', rv', q'⟩ => ?_) fun e s' hq => hq)
    exact ⟨w', H', J'.os, J'.bare, J'.base, J'.hok, rv', q'⟩
  have pass : Passes (L2.CX X.prog X.w) ((cxOf CXg X.prog X.w X.K X.mg X.base Ng qg sg g cdg X.A X.stack s H Eg).tr pn xe) E := passes_call tk hW
  refine wpAny_call (codeAny_mono run fun r s' hq => ?_)
  cases r with
  | error e => exact pass pinsZ σZ H1 s1 e s' J hq
  | ok fl =>
    cases fl with
    | ret u => exact J.after hq
    | next => exact False.elim hq
    | brk => exact False.elim hq
    | cont => exact False.elim hq
/-- the def at g, called with the lambda's object -/
theorem told_code {TT : (XK → Hp → VK → Prop) → Hp → VK → Prop} {x a : Str} {g f c' : Addr} {k : Nat} {pg : Arguments} {bg : List Stmt} {sg : Scope} {dV kV doc pm cdv ct oc : Value} {an od : Option Addr} {osl : Array (Option Value)} {Ng : List Str}
    {ps : Arguments} {bd : Expr} {sc : Scope} {t : XK → TE} {Q : VK}
    (lk : X.K.lookup g = some ⟨oc, od, .func (PySem.W.fnOf x x pg bg sg dV kV doc pm an cdv ct), osl⟩) (hcg : PySem.W.codeIn X.K cdv x = true) (hb : L2.Binds X.K (PySem.W.fnOf x x pg bg sg dV kV doc pm an cdv ct) [a] []) (Sg : FnScope Ng [a] sg) (hNg : Ng[0]? = some a) (hva : Vis sg a)
    (hG : GivesTo X Ng x sg g cdv bg a (X.env.qual ++ lamName) TT) (hr : Room (k + 2) X.A) (L : LamS X.env.scope sc)
    (hbind : ∀ (q : Str) (cl : List (Str × Addr)) (pm cv ctv : Value), bindArgs (PySem.W.kla_fn lamName q ps bd sc cl pm cv ctv) ⟨[], []⟩ = pure [])
    (body : ∀ (A : Around) (outer : List Env) (s : Shared) (H : Hp) (E : XK) (f c' : Addr), Room k (A.deeper (lamEnv X sc s.heap.objs.size f c')) → PE (lamCx X A outer s H E sc f c') bd (t E))
    (I : Inv X pins σ H s) (hco : H c' = some (CodeO c' (X.env.qual ++ lamName))) (h : TT (tlF X (X.env.qual ++ lamName) ps bd sc f c' σ t) H Q)
    (hd : (a == ("__debug__" : Str)) = false := by decide) (hcd : (a == ("__classdict__" : Str)) = false := by decide) :
    codeAny (model X.prog X.w) X.A (.call (.ref g) ⟨[.ref f], []⟩) (CR C8.CX0 X.stack X.prog X.w H s Q C8.E0) s := by
  refine LamX.run_ofS (N := Ng) (ps := [a]) (us := [.ref f]) (vs := [.ref f]) lk hcg Sg hr I.env0 (hb s [.ref f] I.kIn rfl) (.cons rfl .nil) rfl fun hr' => ?_
  obtain ⟨t', ht', hq'⟩ := hG f c' s H Q (tlF X (X.env.qual ++ lamName) ps bd sc f c' σ t) (fun W pn xe E p1 p2 tk hW => act_lam (i := 0) I L (fun pm ctv => hbind _ _ _ _ _) tk hW hr' (fun A outer s H hr2 => body A outer s H E f c' hr2) hNg hva hd hcd) hco h
  exact ⟨t', ht'.nox, hq'⟩
end
end GX
end

section
set_option Elab.async false
set_option linter.all false
set_option maxRecDepth 100000
set_option maxHeartbeats 2000000
/-! D25: lambdas; a def that tells what a lambda gives. -/
namespace DL
open PySem PySem.Spec PyProof.Rows L2
/-- the lambdas' table is known -/
structure TbL (T : Tb) (P : Addr) (q : Str) : Prop where
  tab : ∀ H, T.p H → LamX.TabS H P q
  nxt : ∀ H f c' φ H', T.p H → GX.LamTo P q φ H f c' H' → T.p H'
section
variable {W : Dx} {E : XK} {X : Cx} {B : AS} {Fs : Nat → AS} {σ : L2.St} {H H' : Hp} {ρ : Rho}
theorem Rel.lam {P : Addr} {q : Str} {φ : Addr → Addr → Heap → Prop} {f c' : Addr} (r : Rel W B Fs σ H ρ) (TL : TbL W.T P q) (l : GX.LamTo P q φ H f c' H') : Rel W B Fs σ H' ρ ∧ Stp B Fs Fs H H' ∧ ¬ OO B Fs f ∧ ¬ OO B Fs c' := by
  obtain ⟨ps, hP, _⟩ := TL.tab H r.tb
  have nP : ∀ a, Ob H a → a ≠ P := fun a ⟨u, e, n⟩ z => by
    rw [z, hP] at e
    rw [← Option.some.inj e] at n
    exact n
  have same : ∀ a, Ob H a → H' a = H a := fun a o => l.old a (nP a o) o.ne
  have kp : Keep A0 H H' := fun a u e _ nt => by
    by_cases z : a = P
    · rw [z, hP] at e
      rw [← Option.some.inj e] at nt
      exact absurd trivial nt
    · exact .inl ((l.old a z (by rw [e]; simp)).trans e)
  have ob : ∀ a, Ob H a → Ob H' a := fun a o => by
    obtain ⟨u, e, n⟩ := id o
    exact ⟨u, (same a o).trans e, n⟩
  refine ⟨⟨fun a ha => ob a (r.bd a ha), fun i a ha => ⟨ob a (r.fd i a ha).1, (r.fd i a ha).2⟩, r.dj, fun i d e => ?_, r.pin, r.len, TL.nxt _ _ _ _ _ r.tb l⟩, ⟨fun a u e _ nt => kp a u e (fun z => z) nt, fun a z => same a (r.bd a z), fun _ _ z => .inl z, l.dom⟩, fun z => ?_, fun z => ?_⟩
  · obtain ⟨v, e1, e2⟩ := r.sl i d e
    exact ⟨v, e1, Ow.stay (W := A0) ⟨kp, fun a ha => same a (r.fd i a ha).1, fun _ z => z.elim, fun a z => .inl z, fun a z => .inr ⟨i, z⟩⟩ d v e2⟩
  · exact (r.ot f z).ne l.fn
  · obtain ⟨u, e, n⟩ := r.ot c' z
    have := same c' ⟨u, e, n⟩
    rw [l.co, e] at this
    rw [← Option.some.inj this] at n
    exact n
/-- lambda number i -/
structure LamI (W : Dx) (X : Cx) (i : Nat) (ps : Arguments) (bd : Expr) (sc : Scope) : Prop where
  q : W.C.q = X.env.qual ++ GX.lamName
  l : W.C.L i = GX.LamF (X.env.qual ++ GX.lamName) ps bd sc (cloFrom X.env.cells sc.names [])
  s : LamX.LamS X.env.scope sc
theorem de_lam {c P : Addr} {i : Nat} {ps : Arguments} {bd : Expr} {sc : Scope} {pos : Pos} (TB : LamX.TabB X.base X.mg c P) (hcode : X.env.code = .ref c) (TL : TbL W.T P (X.env.qual ++ GX.lamName)) (hdef : defaultsOf ps X.env = ([], [])) (L : LamI W X i ps bd sc) :
    DE W E X (.Lambda ps bd sc pos) (M.pure (.fn i)) := by
  refine ⟨fun pins s σ H Q I h => ?_⟩
  obtain ⟨B, Fs, ρ, r, p⟩ := h
  refine GX.lam_new I TB hcode (TL.tab H r.tb) hdef L.s fun f c' H1 s' J l => ?_
  obtain ⟨r1, s1, nf, nc⟩ := r.lam TL l
  refine ⟨.ref f, H1, J, rfl, p (.ref f) H1 Fs A0 (r1.u0 fun _ z => z) ?_ s1 fun _ z => z.elim⟩
  rw [u0 (F := A0) fun _ z => z]
  show Ow W.C (OO B Fs) H1 A0 (.fn i) (.ref f)
  unfold Ow
  exact ⟨f, c', rfl, by rw [L.l]; exact l.fo, by rw [L.q]; exact l.co, nf, nc⟩
/-! ### told -/
def told (ret : Str) (m : M D) : M D := fun ρ => match m ρ with
  | .ok d ρ' => .ok d ρ'
  | .exc _ ρ' => .ok (.str ret) ρ'
  | .bad => .bad
def toldM (ret : Str) (lb : Nat → Option (M D)) (me : M D) : M D := M.bind me fun d => match d with
  | .fn i => (match lb i with
    | some m => told ret m
    | none => M.bad)
  | _ => M.bad
/-- a lambda's body, by data -/
structure LamB (W : Dx) (X : Cx) (k i : Nat) (m : M D) (ps : Arguments) (bd : Expr) (sc : Scope) : Prop extends LamI W X i ps bd sc where
  bind : ∀ (q : Str) (cl : List (Str × Addr)) (pm cv ctv : Value), bindArgs (PySem.W.kla_fn GX.lamName q ps bd sc cl pm cv ctv) ⟨[], []⟩ = pure []
  body : ∀ (A : Around) (outer : List Env) (s : Shared) (H : Hp) (E : XK) (f c' : Addr), Room k (A.deeper (LamX.lamEnv X sc s.heap.objs.size f c')) → GX.TakesF (LamX.lamCx X A outer s H E sc f c') E → DE W E (LamX.lamCx X A outer s H E sc f c') bd m
/-- the def that tells: its text, its exception class -/
structure ToldOk (W : Dx) (X : Cx) (x ret : Str) (g CS : Addr) (Ng : List Str) (sg : Scope) (bg : List Stmt) (cdv : Value) : Prop where
  gives : ∀ q, LamX.GivesTo X Ng x sg g cdv bg "what" q (LamX.TTold X.K CS ret)
  run : ∃ (pg : Arguments) (dV kV doc pm ct oc : Value) (an od : Option Addr) (osl : Array (Option Value)), X.K.lookup g = some ⟨oc, od, .func (PySem.W.fnOf x x pg bg sg dV kV doc pm an cdv ct), osl⟩ ∧ L2.Binds X.K (PySem.W.fnOf x x pg bg sg dV kV doc pm an cdv ct) ["what"] []
  cd : PySem.W.codeIn X.K cdv x = true
  sc : FnScope Ng ["what"] sg
  n0 : Ng[0]? = some ("what" : Str)
  vis : Vis sg "what"
  ex : ∀ c, PySem.W.exmOne X.K (.ref (W.X c)) (.ref CS) = some true
theorem told_at {pins : List (Addr × Obj)} {s : Shared} {k i : Nat} {m : M D} {ps : Arguments} {bd : Expr} {sc : Scope} {x ret : Str} {g CS f c' : Addr} {Ng : List Str} {sg : Scope} {bg : List Stmt} {cdv : Value} {Q : VK}
    (T : ToldOk W X x ret g CS Ng sg bg cdv) (Lb : LamB W X k i m ps bd sc) (hr : Room (k + 2) X.A) (I : Inv X pins σ H s) (hf : H f = some (.ext (W.C.L i f c'))) (hc : H c' = some (LamX.CodeO c' W.C.q)) (r : Rel W B Fs σ H ρ) (p : Post W E0 (DR W) B Fs σ H (told ret m ρ) Q) :
    codeAny (model X.prog X.w) X.A (.call (.ref g) ⟨[.ref f], []⟩) (CR C8.CX0 X.stack X.prog X.w H s Q C8.E0) s := by
  obtain ⟨pg, dV, kV, doc, pm, ct, oc, an, od, osl, lk, hb⟩ := T.run
  refine GX.told_code (k := k) (t := fun E => dT W E (DR W) m) (ps := ps) (bd := bd) (sc := sc) (c' := c') lk T.cd hb T.sc T.n0 T.vis (T.gives _) hr Lb.s Lb.bind (fun A outer s H E f c' hr' => Lb.body A outer s H E f c' hr' (GX.TakesF.of (takes_of rfl rfl rfl rfl))) I (by rw [← Lb.q]; exact hc) ⟨by rw [← Lb.l]; exact hf, B, Fs, ρ, r, ?_⟩
  unfold told at p
  cases hm : m ρ with
  | bad => rw [hm] at p; exact p.elim
  | ok d ρ2 => rw [hm] at p; exact p
  | exc c ρ2 =>
    rw [hm] at p
    exact fun H' Fs' rr ss => ⟨true, T.ex c, fun _ => p (.str ret) H' Fs' A0 (rr.u0 fun _ z => z) (by show Ow _ _ _ _ _ _; unfold Ow; rfl) ss fun _ z => z.elim, fun z => by cases z⟩
theorem told_ne {ret : Str} {m : M D} {Q : VK} (p : Post W E (DR W) B Fs σ H (told ret m ρ) Q) : Post W E0 (DR W) B Fs σ H (told ret m ρ) Q := by
  unfold told at *
  cases hm : m ρ with
  | bad => rw [hm] at p; exact p
  | ok d ρ2 => rw [hm] at p; exact p
  | exc c ρ2 => rw [hm] at p; exact p
theorem de_told {k : Nat} {lb : Nat → Option (M D)} {e : Expr} {me : M D} {x ret : Str} {g CS : Addr} {Ng : List Str} {sg : Scope} {bg : List Stmt} {cdv : Value} {p pos : Pos} (T : ToldOk W X x ret g CS Ng sg bg cdv) (hr : Room (k + 2) X.A) (hg : Gl X x) (hm : X.mg x = some (.ref g)) (hk : PySem.W.keepIn X.K (.ref g) = true)
    (he : DE W E X e me) (hL : ∀ i m, lb i = some m → ∃ ps bd sc, LamB W X k i m ps bd sc) (hdb : (x == ("__debug__" : Str)) = false := by decide) (hst : starEach [e] X.env = (false, eval e X.env) :: starEach [] X.env := by rfl) :
    DE W E X (.Call (.Name x p) [e] [] pos) (toldM ret lb me) := by
  refine ⟨fun pins s σ H Q I h => ?_⟩
  obtain ⟨B, Fs, ρ, r, q⟩ := h
  refine wpAny_Call_Name_kw (ld_glob I hg hm ?_ hdb)
  refine PySem.W.callWith_K (h₀ := X.base) I.ok.mod.kin hk ?_ hst (by rfl)
  rw [hst]
  show wpAny _ _ (spliced ((false, eval e X.env) :: backTo pos (starEach [] X.env))) _ _ s
  refine Calls.spliced_cons (thn (he.run pins s σ H _ I ⟨B, Fs, ρ, r, Post.step (m := me) (fun _ z => z) .refl q⟩) fun v s1 ⟨w, H1, I1, r1, Fs1, F1, d, ρ1, hme, rr, ow, s1', fr, q1⟩ => Calls.spliced_nil ⟨I1.kIn, ?_⟩)
  cases d with
  | fn i =>
    simp only at q1
    cases hl : lb i with
    | none => rw [hl] at q1; exact q1.elim
    | some m =>
      rw [hl] at q1
      have ow : Ow W.C _ H1 F1 (.fn i) w := ow
      unfold Ow at ow
      obtain ⟨f, c', rfl, hf, hc, _, _⟩ := ow
      obtain rfl : v = Value.ref f := r1
      obtain ⟨ps, bd, sc, Lb⟩ := hL i m hl
      have rB := rr.drop
      have q2 : Post W E0 (DR W) B Fs1 σ H1 (told ret m ρ1) Q := by
        have q1' := told_ne q1
        unfold told at *
        cases hm : m ρ1 with
        | bad => rw [hm] at q1'; exact q1'
        | ok d ρ2 => rw [hm] at q1'; exact fun x H' Fs' F a b c e => q1' x H' Fs' F a b (s1'.trans c) fun a z => s1'.fresh (e a z)
        | exc c ρ2 => rw [hm] at q1'; exact fun x H' Fs' F a b c e => q1' x H' Fs' F a b (s1'.trans c) fun a z => s1'.fresh (e a z)
      refine wpAny_call (codeAny_mono (told_at T Lb hr I1 hf hc rB q2) fun r s2 hq => ?_)
      cases r with
      | error e => exact (show False from hq).elim
      | ok fl =>
        cases fl with
        | ret u => exact I1.after hq
        | next => exact False.elim hq
        | brk => exact False.elim hq
        | cont => exact False.elim hq
  | _ => exact q1.elim
end
end DL
end

section
set_option Elab.async false
set_option linter.all false
set_option maxRecDepth 100000
set_option maxHeartbeats 2000000
/-! G9: a list comprehension whose block's rules may use what holds around it where it begins. -/
namespace GX
open PySem PySem.Spec PyProof.Rows L2
section
variable {X : Cx} {pins : List (Addr × Obj)} {σ : L2.St} {H : Hp} {s : Shared}
/-- the block's cells -/
abbrev blkCells (X : Cx) (n : Nat) (scope : Scope) : List (Str × Addr) := cellsFrom (n + 1) scope.names (cloFrom X.env.cells scope.names [])
/-- the block's context where it begins -/
abbrev blkAt (X : Cx) (s : Shared) (H : Hp) (scope : Scope) (fp : List Addr) : Cx := X.blk s H scope (compEnvC scope (blkCells X s.heap.objs.size scope) s.heap.objs.size X.env) fp
/-- what may be used of the surroundings -/
def Arnd (X : Cx) (pins : List (Addr × Obj)) (σ : L2.St) (s : Shared) (H : Hp) (fp : List Addr) : Prop := Inv X pins σ H s ∧ ∀ b ∈ fp, FpOk X pins H b ∧ b < s.heap.objs.size
/-- from within the block: the surroundings now -/
theorem Arnd.now {fp : List Addr} {scope : Scope} {ps' : List (Addr × Obj)} {σ' : L2.St} {H' : Hp} {s' : Shared} (a : Arnd X pins σ s H fp) (I : Inv (blkAt X s H scope fp) ps' σ' H' s') : Inv X pins σ H' s' :=
  a.1.call' (ch := fp) I.os I.base I.hok I.bare fun b hb => ⟨(a.2 b hb).1.2.2.2.1, (a.2 b hb).1.2.1, (a.2 b hb).1.2.2.2.2.1, (a.2 b hb).1.2.2.2.2.2⟩
theorem lc_with {Q : VK} {elt tg iter : Expr} {ifs : List Expr} {scope : Scope} {own : List (Str × Nat)} {pos : Pos} {wi : TI} {g : TG} {tt : TT} {te : TE} (hc : X.calm = true) (hN : X.N.Nodup) (hi : PI X tg iter wi) (ok : BlkOk X.N X.env.scope scope own) (I : Inv X pins σ H s)
    (blk : ∀ (s : Shared) (H : Hp) (fp : List Addr), Arnd X pins σ s H fp → PG (blkAt X s H scope fp) tg g ∧ PTs (blkAt X s H scope fp) ifs tt ∧ PE (blkAt X s H scope fp) elt te)
    (hs : ∀ x, foldedSetIterable iter X.env x = pure x) (h : tLc wi g tt te (own.map (·.2)) σ H Q) : wpAny (model X.prog X.w) X.A (eval (.ListComp elt [⟨tg, iter, ifs, 0⟩] scope pos) X.env) (EP X pins σ Q) X.xe s := by
  have caught : ∀ y ∈ scope.names, y.2 = .free → ∃ c, X.env.cells.lookup y.1 = some c := fun y hy e => (ok.free y hy e).elim (fun k => I.ok.has _ (.inl k)) fun k => I.ok.has _ (.inr k)
  rw [eval_ListComp]
  refine wpAny_comprehension_free (use := none) rfl hs (closure_ok caught) ok.kind (fun y hy e => by rw [ok.uniq y hy, e]) (thn (hi.run pins s σ H _ I h) fun walked sA hA => thn hA fun itv sB hB => ?_)
  obtain ⟨it, fp, tn, J, HB, rfl, IB, turns, tn0, fpOk, rest⟩ := hB
  refine wpAny_newObj_type (newEnv_comp ?_) (by show 0 ≤ sizeLine; decide)
  obtain ⟨Dn, hDn⟩ : ∃ Dn, Dn = sB.heap.objs.size := ⟨_, rfl⟩
  have fresh : HB Dn = none := IB.hok.fresh (Nat.le_of_eq hDn.symm)
  obtain ⟨St, ⟨m0, st0⟩, step⟩ := rest Dn fresh
  obtain ⟨sC, hsC⟩ : ∃ sC : Shared, sC = { sB with heap := sB.heap.push { cls := .type "list", data := .seq ([] : List Value).toArray } } := ⟨_, rfl⟩
  have heapC : sC.heap = sB.heap.push { cls := .type "list", data := .seq ([] : List Value).toArray } := by rw [hsC]
  obtain ⟨HC, hHC⟩ : ∃ HC : Hp, HC = upd HB Dn (.lst []) := ⟨_, rfl⟩
  have IC : Inv X pins σ HC sC := by
    rw [hsC, hHC]
    refine IB.laid (t' := sB.toks) (fun b o e => Heap.get?_push_of_some _ e) (Nat.le_of_eq hDn.symm) ⟨Nat.zero_le _, [], 0, .nil, ?_⟩
    rw [hDn]
    exact Heap.get?_push_size _ rfl
  have small : ∀ b ∈ fp, b < sB.heap.objs.size := fun b hb => let ⟨o, e, _⟩ := turns.obj _ _ tn0 b hb; Heap.lt_size e
  have fpC : ∀ b ∈ fp, FpOk X pins HC b ∧ b < sC.heap.objs.size := fun b hb => by
    have hl := small b hb
    refine ⟨⟨?_, (fpOk b hb).2⟩, by rw [heapC, Heap.size_push]; exact Nat.lt_succ_of_lt hl⟩
    rw [hHC, upd_ne (by rw [hDn]; exact Nat.ne_of_lt hl)]
    exact (fpOk b hb).1
  have around : Arnd X pins σ sC HC fp := ⟨IC, fpC⟩
  obtain ⟨pg, pt, pe⟩ := blk sC HC fp around
  have IS := block_start IC ok hN fpC
  rw [← hHC] at st0
  -- what the walk's own objects are, at any time
  have walkOk : ∀ {σ' : L2.St} {H' : Hp} {s' : Shared}, Inv (blkAt X sC HC scope fp) [] σ' H' s' → (∀ b ∈ fp, H' b = none) → ∀ b ∈ fp, FpOk (blkAt X sC HC scope fp) [] H' b := fun {σ' H' s'} J' hn b hb =>
    ⟨hn b hb, (J'.ok.exf b hb).1, J'.ok.exfs b hb, .inl hb, fun x c e => (J'.ok.exf b hb).2 x c e, fun p hp => absurd (show p ∈ ([] : List (Addr × Obj)) ++ [] from hp) (by simp)⟩
  show codeAny _ _ (.compStart (.ListComp elt [⟨tg, iter, ifs, 0⟩] scope pos) 0 (.ref it) (.ref sB.heap.objs.size) (compEnvC scope (blkCells X (Heap.push sB.heap _).objs.size scope) (Heap.push sB.heap _).objs.size X.env)) (compPost (model X.prog X.w) X.A X.xe none _ (.ref sB.heap.objs.size) (Heap.push sB.heap _).objs.size) { sB with heap := pushCells ((Heap.push sB.heap _).push { cls := .type "dict", data := .dict #[] }) scope.names }
  rw [← heapC, ← hDn]
  have eS : ({ sB with heap := pushCells (sC.heap.push { cls := .type "dict", data := .dict #[] }) scope.names } : Shared) = { sC with heap := pushCells (sC.heap.push { cls := .type "dict", data := .dict #[] }) scope.names } := by rw [hsC]
  rw [eS]
  obtain ⟨sD, hsD⟩ : ∃ sD : Shared, sD = { sC with heap := pushCells (sC.heap.push { cls := .type "dict", data := .dict #[] }) scope.names } := ⟨_, rfl⟩
  rw [← hsD] at IS ⊢
  have tnD : tn 0 sD.heap := turns.keep _ _ _ tn0 fun b _ o e => by
    rw [hsD]
    refine pushCells_keeps _ _ _ _ (Heap.get?_push_of_some _ ?_)
    rw [heapC]
    exact Heap.get?_push_of_some _ e
  obtain ⟨ce, hce⟩ : ∃ ce, ce = compEnvC scope (blkCells X sC.heap.objs.size scope) sC.heap.objs.size X.env := ⟨_, rfl⟩
  have ceL : ce.locals = sC.heap.objs.size := by rw [hce]; rfl
  have IS' : Inv (blkAt X sC HC scope fp) [] (wipe σ (own.map (·.2))) HC sD := IS
  rw [← hce]
  have loop : codeAny (model X.prog X.w) X.A (.compLoop (.ListComp elt [⟨tg, iter, ifs, 0⟩] scope pos) 0 (.ref it) (.ref Dn) ce) (compPost (model X.prog X.w) X.A X.xe none (EP X pins σ Q) (.ref Dn) sC.heap.objs.size) sD := by
    refine compLoop_any (fun n s' => ∃ i H', Inv (blkAt X sC HC scope fp) [] (wipe σ (own.map (·.2))) H' s' ∧ tn i s'.heap ∧ (∀ b ∈ fp, H' b = none) ∧ St i n H') ?_ m0 ⟨0, HC, IS', tnD, fun b hb => (fpC b hb).1.1, st0⟩
    rintro n s5 ⟨i, H5, I5, tn5, none5, st5⟩
    rcases step i n H5 st5 with ⟨stop, q⟩ | ⟨go, Nx, toNx, turn⟩
    · have over := turns.done (blkAt X sC HC scope fp) rfl rfl rfl hc i [] s5 _ H5 (fun _ _ => False) I5 (walkOk I5 none5) tn5 stop
      rw [hce]
      refine thnF over fun r s6 ⟨hr, I6⟩ => ?_
      subst hr
      have back : Inv X pins σ H5 s6 := around.now I6
      have nC : H5 sC.heap.objs.size = none := I6.free
      obtain ⟨m, hns, _⟩ := I6.loc
      have hns : s6.heap.Ns sC.heap.objs.size m := hns
      obtain ⟨f0, f1, f2, f3, f4, f5⟩ := IC.fpOk (Nat.le_refl _) nC
      exact ⟨m, hns, fun h'' sb => ⟨.ref Dn, H5, back.turned (t' := s6.toks) (fun b o hb e => (sb.2 b hb).trans e) f0 f1 f3 f4 f5, rfl, q⟩⟩
    · have item := turns.item (blkAt X sC HC scope fp) rfl rfl rfl hc i [] s5 _ H5 (fun _ _ => False) I5 (walkOk I5 none5) tn5 go
      rw [hce]
      refine thnF item fun r s6 ⟨u, hr, h6⟩ => ?_
      subst hr
      refine thnF h6 fun _ s7 ⟨x, H7, I7, r7, y7, tn7, none7⟩ => ?_
      have I7' := I7.pinned (walkOk I7 none7) (turns.obj _ _ tn7)
      refine thnF (pg.run _ s7 _ H7 x u _ I7' r7 (turn x H7 y7)) fun _ s8 ⟨σ8, H8, I8, same8, q8⟩ => ?_
      refine thnF (pt.run _ s8 σ8 H8 _ I8 q8) fun b s9 ⟨H9, I9, q9⟩ => ?_
      have fin : ∀ {s' : Shared} {H' : Hp}, Inv (blkAt X sC HC scope fp) ([] ++ pinsAt fp s7.heap) σ8 H' s' → Nx H' → ∃ m, m < n ∧ ∃ i H', Inv (blkAt X sC HC scope fp) [] (wipe σ (own.map (·.2))) H' s' ∧ tn i s'.heap ∧ (∀ b ∈ fp, H' b = none) ∧ St i m H' := fun {s' H'} J' nx => by
        obtain ⟨m', lt, w'⟩ := toNx H' nx
        have held : ∀ b ∈ fp, ∀ o, s7.heap.get? b = some o → s'.heap.get? b = some o ∧ H' b = none := fun b hb o e =>
          let z := J'.pin (b, o) (List.mem_append_right _ (List.mem_append_right _ (mem_pinsAt hb e)))
          ⟨z.1, z.2.1⟩
        have hl : (wipe σ (own.map (·.2))).length = σ8.length := by rw [← same8, wipe_length]
        refine ⟨m', lt, i + 1, H', (J'.unpinned (pins := [])).weak hl (fun j v e => ?_), turns.keep _ _ _ tn7 fun b hb o e => (held b hb o e).1, fun b hb => ?_, w'⟩
        · rw [← same8] at e
          exact (wipe_some e).1
        · obtain ⟨o, e, _⟩ := turns.obj _ _ tn7 b hb
          exact (held b hb o e).2
      cases b with
      | false =>
        simp only [Bool.false_eq_true, if_false] at q9 ⊢
        exact fin I9 q9
      | true =>
        simp only [if_true] at q9 ⊢
        refine thnF (pe.run _ s9 σ8 H9 _ I9 q9) fun z s10 ⟨yv, H10, I10, r10, acc, hD10, hz10, nx⟩ => ?_
        exact app_ok (X := blkAt X sC HC scope fp) I10 hD10 hz10 r10 fun s11 I11 => fin I11 nx
  exact codeAny_compStart_list loop (turns.self X.A 0 _ _ _ tnD loop)
end
end GX
end

section
set_option Elab.async false
set_option linter.all false
set_option maxRecDepth 100000
set_option maxHeartbeats 2000000
/-! D26: [1 for f in lambdas if told(f) != 'X']: all refused. -/
namespace DL
open PySem PySem.Spec PyProof.Rows L2
def badF (lb : Nat → Option (M D)) (ret : Str) : List D → M Unit
  | [] => M.pure ()
  | .fn i :: ds => M.bind (match lb i with
    | some m => told ret m
    | none => M.bad) fun d => match d with
      | .str z => if z = ret then badF lb ret ds else M.bad
      | _ => M.bad
  | _ => M.bad
def badM (lb : Nat → Option (M D)) (ret : Str) (it : M (List D)) : M D := M.bind it fun ds => fun ρ1 => match badF lb ret ds ρ1 with
  | .ok _ ρ2 => .ok (.lst true []) ρ2
  | _ => .bad
section
variable {W : Dx} {E : XK} {X : Cx} {B : AS} {Fs : Nat → AS} {σ : L2.St} {H : Hp} {ρ : Rho}
/-- the call of told in the block -/
def tTd (W : Dx) (lb : Nat → Option (M D)) (ret : Str) (j : Nat) (σ : L2.St) : TE := fun σ2 H2 Q => ∃ f c' i m, σ2[j]? = some (some (.ref f)) ∧ H2 f = some (.ext (W.C.L i f c')) ∧ H2 c' = some (LamX.CodeO c' W.C.q) ∧ lb i = some m ∧
  ∃ B Fs ρ, Rel W B Fs σ H2 ρ ∧ Post W E0 (DR W) B Fs σ H2 (told ret m ρ) Q
theorem td_call {pins : List (Addr × Obj)} {s : Shared} {fp : List Addr} {scope : Scope} {k j : Nat} {lb : Nat → Option (M D)} {x y ret : Str} {g CS : Addr} {Ng : List Str} {sg : Scope} {bg : List Stmt} {cdv : Value} {p p2 pos : Pos} (T : ToldOk W X x ret g CS Ng sg bg cdv) (hr : Room (k + 2) X.A) (hm : X.mg x = some (.ref g)) (hk : PySem.W.keepIn X.K (.ref g) = true)
    (hL : ∀ i m, lb i = some m → ∃ ps bd sc, LamB W X k i m ps bd sc) (a : GX.Arnd X pins σ s H fp) (hg : Gl (GX.blkAt X s H scope fp) x) (hN : X.N[j]? = some y) (hv : Vis (GX.blkAt X s H scope fp).env.scope y) (hdb : (x == ("__debug__" : Str)) = false) (hy : (y == ("__debug__" : Str)) = false) (hy2 : (y == ("__classdict__" : Str)) = false) :
    PE (GX.blkAt X s H scope fp) (.Call (.Name x p) [.Name y p2] [] pos) (tTd W lb ret j σ) := by
  refine ⟨fun ps' s' σ2 H2 Q I h => ?_⟩
  obtain ⟨f, c', i, m, e1, e2, e3, e4, B, Fs, ρ, r, q⟩ := h
  have pv := pe_var (X := GX.blkAt X s H scope fp) (pos := p2) (i := j) (x := y) hN hv hy hy2
  refine wpAny_Call_Name_kw (ld_glob I hg hm ?_ hdb)
  refine PySem.W.callWith_K (h₀ := X.base) I.ok.mod.kin hk ?_ (by rfl) (by rfl)
  show wpAny _ _ (spliced ((false, eval (.Name y p2) (GX.blkAt X s H scope fp).env) :: backTo pos (starEach [] (GX.blkAt X s H scope fp).env))) _ _ s'
  refine Calls.spliced_cons (thn (pv.run ps' s' σ2 H2 (fun v H1 => v = .ref f ∧ H1 = H2) I ⟨.ref f, e1, rfl, rfl⟩) fun v s1 hx => ?_)
  obtain ⟨w, H1, I1, r1, rfl, rfl⟩ := hx
  obtain rfl : v = Value.ref f := r1
  refine Calls.spliced_nil ⟨I1.kIn, ?_⟩
  obtain ⟨ps, bd, sc, Lb⟩ := hL i m e4
  refine wpAny_call (codeAny_mono (told_at (X := X) T Lb hr (a.now I1) e2 e3 r q) fun r s2 hq => ?_)
  cases r with
  | error e => exact (show False from hq).elim
  | ok fl =>
    cases fl with
    | ret u => exact I1.after hq
    | next => exact False.elim hq
    | brk => exact False.elim hq
    | cont => exact False.elim hq
theorem de_bads {k j j1 : Nat} {lb : Nat → Option (M D)} {it : M (List D)} {x y ret : Str} {g CS : Addr} {Ng : List Str} {sg : Scope} {bg : List Stmt} {cdv : Value} {iter : Expr} {scope : Scope} {n1 n2 : Nat} {p p2 p3 p4 p5 p6 p7 pos : Pos} (T : ToldOk W X x ret g CS Ng sg bg cdv) (hr : Room (k + 2) X.A) (hm : X.mg x = some (.ref g)) (hk : PySem.W.keepIn X.K (.ref g) = true)
    (hL : ∀ i m, lb i = some m → ∃ ps bd sc, LamB W X k i m ps bd sc) (hc : X.calm = true) (hnd : X.N.Nodup) (hi : DI W E X (.Name y p3) iter it) (ok : BlkOk X.N X.env.scope scope [(y, j)])
    (hg : ∀ s H fp, Gl (GX.blkAt X s H scope fp) x) (hN : X.N[j]? = some y) (hloc : ∀ s H fp, Loc (GX.blkAt X s H scope fp).env.scope y ∧ (GX.blkAt X s H scope fp).env.scope.names.lookup y = some .local) (hv : ∀ s H fp, Vis (GX.blkAt X s H scope fp).env.scope y) (hdb : (x == ("__debug__" : Str)) = false := by decide) (hy : (y == ("__debug__" : Str)) = false := by decide) (hy2 : (y == ("__classdict__" : Str)) = false := by decide)
    (hs : ∀ x, foldedSetIterable iter X.env x = Pure.pure x := by intro _; rfl) :
    DE W E X (.ListComp (.Constant (.int 1) n1 p7) [⟨.Name y p3, iter, [.Compare (.Call (.Name x p) [.Name y p2] [] p4) [.NotEq] [.Constant (.str ret) n2 p5] p6], 0⟩] scope pos) (badM lb ret it) := by
  refine ⟨fun pins s σ H Q I h => ?_⟩
  obtain ⟨B, Fs, ρ, r, q⟩ := h
  refine GX.lc_with (wi := dI W E it) (own := [(y, j)]) (g := gName j) (tt := tTest (tOp rNe (tTd W lb ret j σ) (tC (.str ret)))) (te := tC (.int 1)) hc hnd hi ok I (fun s H fp a => ⟨pg_name hnd hN (hloc s H fp).1 (.inr (hloc s H fp).2), pts_one (pt_cmpR op_ne (td_call T hr hm hk hL a (hg s H fp) hN (hv s H fp) hdb hy hy2) pe_str rfl), pe_int⟩) hs ?_
  refine ⟨B, Fs, ρ, r, ?_⟩
  unfold badM M.bind at q
  cases hit : it ρ with
  | exc c ρ2 => rw [hit] at q; exact q
  | bad => rw [hit] at q; exact q
  | ok ds ρ1 =>
    rw [hit] at q
    intro J H1 Fs1 r1 ik s1 L hL0
    simp only at q
    cases hb : badF lb ret ds ρ1 with
    | exc c ρ2 => rw [hb] at q; exact q.elim
    | bad => rw [hb] at q; exact q.elim
    | ok u ρ2 =>
    rw [hb] at q
    obtain ⟨G, Y, hw, hG, hY⟩ := ik
    have al0 := alc_new (u := .lst []) hL0
    have rL : Rel W (U B fun a => a = L) Fs1 σ (upd H1 L (.lst [])) ρ1 := r1.res al0 (fun a z => by rw [show a = L from z]; exact hL0) fun a z => ⟨.lst [], by rw [show a = L from z, upd_same], True.intro⟩
    let St : Nat → Nat → Hp → Prop := fun i m H' => m = ds.length - i ∧ i ≤ ds.length ∧ ∃ Fs' ρ', Rel W (U B fun a => a = L) Fs' σ H' ρ' ∧ Stp B Fs1 Fs' H1 H' ∧ H' L = some (.lst []) ∧ badF lb ret (ds.drop i) ρ' = .ok u ρ2
    refine ⟨St, ⟨ds.length, by simp, Nat.zero_le _, Fs1, ρ1, rL, al0.stp r1.bd, upd_same, by rw [List.drop_zero]; exact hb⟩, ?_⟩
    rintro i m H' ⟨rfl, hi', Fs', ρ', r', st, hLl, hcf⟩
    have hk' : Keep (OO B Fs1) H1 H' := fun a u e n t => st.keep a u e (fun ⟨j, z⟩ => n (.inr ⟨j, z⟩)) t
    by_cases hlt : i < ds.length
    case neg =>
      have e : i = ds.length := by omega
      subst e
      rw [List.drop_length] at hcf
      obtain ⟨_, rfl⟩ := Out.ok.inj (show Out.ok () ρ' = Out.ok u ρ2 from hcf)
      refine .inl ⟨hw.stops H' (hG H' hk'), q (.ref L) H' Fs' (fun a => a = L) r' ?_ (s1.trans st) fun a z => by rw [show a = L from z]; exact s1.fresh hL0⟩
      show Ow W.C _ H' _ (.lst true []) (.ref L)
      unfold Ow
      exact ⟨L, [], A0, rfl, hLl, ⟨.inl (.inr rfl), rfl⟩, ⟨fun _ z => z.elim, fun z => z⟩, by unfold OwL; rfl⟩
    refine .inr ⟨hw.goes i H' hlt (hG H' hk'), fun H'' => St (i + 1) (ds.length - (i + 1)) H'', fun H'' hn => ⟨_, by omega, hn⟩, fun x H2 yy => ?_⟩
    obtain ⟨al, fz2⟩ := hY i H' x H2 ds[i] (by simp [hlt]) hk' (hw.yields i H' x H2 hlt (hG H' hk') yy)
    have r2 := r'.alc al
    have hx := fz2 (OO (U B fun a => a = L) Fs') (fun a z => by
      rcases z with (z | z) | ⟨j, z⟩
      · exact .inl (.inl z)
      · exact .inr (by rw [show a = L from z]; exact hL0)
      · rcases st.old j a z with z | z
        · exact .inl (.inr ⟨j, z⟩)
        · exact .inr z) r'.ot
    rw [drop_get hlt] at hcf
    have lenσ : j < σ.length := by rw [I.len]; exact (List.getElem?_eq_some_iff.mp hN).1
    have ag : Ag [j] (wipe σ [j]) ((wipe σ [j]).set j (some x)) := ⟨List.length_set .., fun i hi => List.getElem?_set_ne fun z => hi (by rw [z]; exact List.mem_singleton.mpr rfl)⟩
    refine ⟨wipe_ag ag, ?_⟩
    cases hd : ds[i] with
    | fn n =>
      rw [hd] at hcf hx
      unfold badF at hcf
      obtain ⟨d, ρ3, h3, h4⟩ := bind_ok hcf
      cases hl : lb n with
      | none => rw [hl] at h3; cases h3
      | some mm =>
        rw [hl] at h3
        simp only at h3
        unfold Ow at hx
        obtain ⟨f, c', rfl, hf, hcc, _, _⟩ := hx
        cases d with
        | str z =>
          simp only at h4
          by_cases hz : z = ret
          case neg => rw [if_neg hz] at h4; cases h4
          rw [if_pos hz] at h4
          subst hz
          refine ⟨f, c', n, mm, ?_, hf, hcc, hl, _, Fs', ρ', r2, ?_⟩
          · show ((wipe σ [j]).set j (some (V.ref f)))[j]? = _
            rw [List.getElem?_set_self (by rw [wipe_length]; exact lenσ)]
          rw [h3]
          intro v H3 Fs3 F3 r3 ow3 s3 fr3
          have hv3 : v = .str z := by
            have ow3 : Ow _ _ _ _ (.str z) v := ow3
            unfold Ow at ow3
            exact ow3
          subst hv3
          refine ⟨rfl, false, by simp, ?_⟩
          show St (i + 1) (ds.length - (i + 1)) H3
          refine ⟨rfl, hlt, Fs3, ρ3, r3.drop, (st.trans (al.stp fun a z => r'.bd a (.inl z))).trans (s3.weak fun a z => .inl z), ?_, h4⟩
          rw [s3.kb L (.inr rfl)]
          exact al L _ hLl
        | _ => cases h4
    | _ => rw [hd] at hcf; cases hcf
end
end DL
end

section
set_option Elab.async false
set_option linter.all false
set_option maxRecDepth 100000
set_option maxHeartbeats 2000000
/-! D27: data without function objects does not see the frame's lambdas. -/
namespace DL
open PySem PySem.Spec PyProof.Rows L2
mutual
def nofn : D → Bool
  | .fn _ => false
  | .tup ds => nofnL ds
  | .ptup ds => nofnL ds
  | .lst _ ds => nofnL ds
  | .dk _ _ ds => nofnL ds
  | .dt _ _ ds => nofnL ds
  | .ins _ _ _ ds => nofnL ds
  | _ => true
def nofnL : List D → Bool
  | [] => true
  | d :: ds => nofn d && nofnL ds
end
section
variable {C C' : CN} {O : AS} {H : Hp}
mutual
theorem Ow.lam (hc : C.c = C'.c) (hk : C.K = C'.K) {F : AS} : ∀ (d : D) (v : V), nofn d = true → Ow C O H F d v → Ow C' O H F d v
  | .non, v, _, h => h
  | .bl _, v, _, h => h
  | .int _, v, _, h => h
  | .str _, v, _, h => h
  | .fn _, v, e, h => by cases e
  | .scr ns, v, _, h => by unfold Ow at *; rw [← hk]; exact h
  | .tup ds, v, e, h => by
    unfold Ow at *
    obtain ⟨a, vs, h1, h2, h3, h4⟩ := h
    exact ⟨a, vs, h1, h2, h3, OwL.lam hc hk ds vs e h4⟩
  | .ptup ds, v, e, h => by
    unfold Ow at *
    obtain ⟨a, vs, ob, h1, h2, h5, h3, h4⟩ := h
    exact ⟨a, vs, ob, h1, h2, h5, h3, OwL.lam hc hk ds vs e h4⟩
  | .lst o ds, v, e, h => by
    unfold Ow at *
    obtain ⟨a, vs, G, h1, h2, h3, h4, h5⟩ := h
    exact ⟨a, vs, G, h1, h2, h3, h4, OwL.lam hc hk ds vs e h5⟩
  | .dk o ks ds, v, e, h => by
    unfold Ow at *
    obtain ⟨a, vs, G, h1, h2, h3, h4, h5, h6⟩ := h
    exact ⟨a, vs, G, h1, h2, h3, h4, h5, OwL.lam hc hk ds _ e h6⟩
  | .dt o ks ds, v, e, h => by
    unfold Ow at *
    obtain ⟨a, vs, G, h1, h2, h3, h4, h5, h6⟩ := h
    exact ⟨a, vs, G, h1, h2, h3, h4, h5, OwL.lam hc hk ds _ e h6⟩
  | .ins o c ns ds, v, e, h => by
    unfold Ow at *
    obtain ⟨a, dx, fs, G, h1, h2, h3, h4, h5, h6⟩ := h
    exact ⟨a, dx, fs, G, h1, by rw [← hc]; exact h2, h3, h4, h5, OwL.lam hc hk ds _ e h6⟩
theorem OwL.lam (hc : C.c = C'.c) (hk : C.K = C'.K) {F : AS} : ∀ (ds : List D) (vs : List V), nofnL ds = true → OwL C O H F ds vs → OwL C' O H F ds vs
  | [], vs, _, h => h
  | d :: ds, vs, e, h => by
    unfold nofnL at e
    rw [Bool.and_eq_true] at e
    unfold OwL at *
    obtain ⟨v, r, F1, F2, h1, h2, h3, h4, h5⟩ := h
    exact ⟨v, r, F1, F2, h1, h2, h3, Ow.lam hc hk d v e.1 h4, OwL.lam hc hk ds r e.2 h5⟩
end
/-- slots that hold a function object forgotten -/
def clr (ρ : Rho) : Rho := ρ.map fun o => match o with
  | some d => if nofn d = true then some d else none
  | none => none
theorem clr_at {ρ : Rho} {i : Nat} {d : D} (e : (clr ρ)[i]? = some (some d)) : ρ[i]? = some (some d) ∧ nofn d = true := by
  unfold clr at e
  rw [List.getElem?_map] at e
  cases h : ρ[i]? with
  | none => rw [h] at e; cases e
  | some o =>
    rw [h] at e
    cases o with
    | none => cases e
    | some d' =>
      simp only [Option.map_some, Option.some.injEq] at e
      split at e
      · cases e
        exact ⟨rfl, by assumption⟩
      · cases e
/-- this frame's lambdas -/
def Dx.lams (W : Dx) (L : Nat → Addr → Addr → Heap → Prop) (q : Str) : Dx := { W with C := { W.C with L := L, q := q } }
section
variable {W : Dx} {L : Nat → Addr → Addr → Heap → Prop} {q : Str} {B : AS} {Fs : Nat → AS} {σ : L2.St} {ρ : Rho} {E : XK} {X : Cx}
theorem Rel.toLams (r : Rel W B Fs σ H ρ) : Rel (W.lams L q) B Fs σ H (clr ρ) :=
  ⟨r.bd, r.fd, r.dj, fun i d e => let ⟨v, e1, e2⟩ := r.sl i d (clr_at e).1; ⟨v, e1, Ow.lam (C := W.C) (C' := (W.lams L q).C) rfl rfl d v (clr_at e).2 e2⟩, r.pin, by unfold clr; rw [List.length_map]; exact r.len, r.tb⟩
theorem Rel.ofLams (r : Rel (W.lams L q) B Fs σ H ρ) : Rel W B Fs σ H (clr ρ) :=
  ⟨r.bd, r.fd, r.dj, fun i d e => let ⟨v, e1, e2⟩ := r.sl i d (clr_at e).1; ⟨v, e1, Ow.lam (C := (W.lams L q).C) (C' := W.C) rfl rfl d v (clr_at e).2 e2⟩, r.pin, by unfold clr; rw [List.length_map]; exact r.len, r.tb⟩
def clrF (m : M Fl) : M Fl := fun ρ => match m (clr ρ) with
  | .ok (.rt d) ρ' => if nofn d = true then .ok (.rt d) (clr ρ') else .bad
  | .ok fl ρ' => .ok fl (clr ρ')
  | .exc c ρ' => .exc c (clr ρ')
  | .bad => .bad
/-- a body that makes lambdas: inside, they are this frame's -/
theorem db_lams {body : List Stmt} {m : M Fl} (h : DB (W.lams L q) E X body m) : DB W E X body (clrF m) :=
  mnSs h fun D σ H ⟨B, Fs, ρ, r, p⟩ => by
    refine ⟨B, Fs, clr ρ, r.toLams, ?_⟩
    unfold clrF at p
    cases hm : m (clr ρ) with
    | bad => rw [hm] at p; exact p.elim
    | exc c ρ2 => rw [hm] at p; exact fun H' Fs' σ' r' s' => p H' Fs' σ' r'.ofLams s'
    | ok fl ρ2 =>
      rw [hm] at p
      cases fl with
      | nx => exact fun σ' H' Fs' r' s' => p σ' H' Fs' r'.ofLams s'
      | bk => exact fun σ' H' Fs' r' s' => p σ' H' Fs' r'.ofLams s'
      | ct => exact fun σ' H' Fs' r' s' => p σ' H' Fs' r'.ofLams s'
      | rt d =>
        simp only at p
        by_cases hd : nofn d = true
        · rw [if_pos hd] at p
          exact fun v σ' H' Fs' F r' ow s' fr => p v σ' H' Fs' F r'.ofLams (Ow.lam (C := (W.lams L q).C) (C' := W.C) rfl rfl d v hd ow) s' fr
        · rw [if_neg hd] at p
          exact p.elim
end
end
end DL
end

section
set_option Elab.async false
set_option linter.all false
set_option maxRecDepth 100000
set_option maxHeartbeats 2000000
/-! D28: values side by side, stored in names at once. -/
namespace DL
open PySem PySem.Spec PyProof.Rows L2
def LR (W : Dx) : RR (List D) (List V) := fun ds O H _ F vs => OwL W.C O H F ds vs
def DV (W : Dx) (E : XK) (X : Cx) (es : List Expr) (m : M (List D)) : Prop := PA X es (dT W E (LR W) m)
section
variable {W : Dx} {E : XK} {X : Cx}
theorem dv_nil : DV W E X [] (M.pure []) := mnA pa_nil fun σ H Q ⟨B, Fs, ρ, r, p⟩ => Post.pure (R := LR W) r (by show OwL _ _ _ _ _ _; unfold OwL; rfl) p
def vcons (m : M D) (ms : M (List D)) : M (List D) := M.bind m fun d => M.bind ms fun ds => M.pure (d :: ds)
theorem dv_cons {e : Expr} {es : List Expr} {m : M D} {ms : M (List D)} (h : DE W E X e m) (hs : DV W E X es ms) (hst : starEach (e :: es) X.env = (false, eval e X.env) :: starEach es X.env := by rfl) : DV W E X (e :: es) (vcons m ms) :=
  mnA (pa_cons h hs hst) fun σ H Q ⟨B, Fs, ρ, r, p⟩ => by
    refine ⟨B, Fs, ρ, r, (Post.step (m := m) (fun _ z => z) .refl p).mono fun v H1 ⟨Fs1, F1, d, ρ1, _, r1, ow1, s1, fr1, p1⟩ => ?_⟩
    refine ⟨U B F1, Fs1, ρ1, r1, (Post.step (m := ms) (fun a z => .inl z) s1 p1).mono fun vs H2 ⟨Fs2, F2, ds, ρ2, _, r2, ow2, s2, fr2, p2⟩ => ?_⟩
    have ow1 : Ow W.C (OO (U B F1) Fs1) H1 F1 d v := ow1
    have ow2 : OwL W.C (OO (U (U B F1) F2) Fs2) H2 F2 ds vs := ow2
    have eU : U (U B F1) F2 = U B (U F1 F2) := uassoc
    refine p2 (v :: vs) H2 Fs2 (U F1 F2) (by rw [← eU]; exact r2) ?_ (s1.trans (s2.weak fun a z => .inl z)) fun a z => z.elim (fr1 a) fun z => s1.fresh (fr2 a z)
    rw [← eU]
    show OwL _ _ _ _ (d :: ds) (v :: vs)
    unfold OwL
    refine ⟨v, vs, F1, F2, rfl, fun b hb => ⟨.inl hb, fun z => (r1.bd b (.inr hb)).ne (fr2 b z)⟩, fun b hb => .inr hb, ?_, ow2⟩
    exact Ow.stay (W := fun a => ∃ i, Fs1 i a) ⟨s2.keep, fun a z => s2.kb a (.inr z), fun a z => .inr z, fun a z => by
      rcases z with (z | z) | ⟨j, z⟩
      · exact .inl (.inl z)
      · exact .inr (fr2 a z)
      · rcases s2.old j a z with z | z
        · exact .inl (.inr ⟨j, z⟩)
        · exact .inr z, fun a z => .inl (.inl (.inr z))⟩ d v ow1
/-- stored from the left -/
def putL : List Nat → List D → M Fl
  | [], [] => M.pure .nx
  | i :: is, d :: ds => fun ρ => if i < ρ.length then putL is ds (ρ.set i (some d)) else .bad
  | _, _ => M.bad
def setL : List Nat → List V → L2.St → L2.St
  | i :: is, v :: vs, σ => setL is vs (σ.set i (some v))
  | _, _, σ => σ
theorem putL_rd {B : AS} {H H1 : Hp} {D' : Ends} : ∀ {is : List Nat} {ds : List D} {vs : List V} {Fs Fs1 : Nat → AS} {F : AS} {σ : L2.St} {ρ1 : Rho}, (∀ i ∈ is, free W i) → Rel W (U B F) Fs1 σ H1 ρ1 → OwL W.C (OO (U B F) Fs1) H1 F ds vs → (∀ a, F a → ¬ B a) → Stp B Fs Fs1 H H1 → Fr F H → PostS W E B Fs H (putL is ds ρ1) D' → D'.nx (setL is vs σ) H1
  | [], [], vs, Fs, Fs1, F, σ, ρ1, hf, r, ow, hB, s, fr, p => p σ H1 Fs1 r.drop s
  | i :: is, d :: ds, vs, Fs, Fs1, F, σ, ρ1, hf, r, ow, hB, s, fr, p => by
    unfold OwL at ow
    obtain ⟨v, rest, F1, F2, rfl, h1, h2, h3, h4⟩ := ow
    unfold putL at p
    split at p
    case isFalse => exact p.elim
    rename_i hi
    have sub : ∀ a, U (U B F2) F1 a → U B F a := fun a z => by
      rcases z with (z | z) | z
      · exact .inl z
      · exact .inr (h2 a z)
      · exact .inr (h1 a z).1
    have r' : Rel W (U (U B F2) F1) Fs1 σ H1 ρ1 := r.weak sub
    have gr : ∀ a, OO (U (U B F2) F1) Fs1 a → OO (U B F) Fs1 a ∨ H1 a = none := fun a z => .inl (z.elim (fun z => .inl (sub a z)) .inr)
    have o1 : Ow W.C (OO (U (U B F2) F1) Fs1) H1 F1 d v := Ow.stay (W := A0) ⟨.refl, fun _ _ => rfl, fun _ z => z.elim, gr, fun a z => .inl (.inr z)⟩ d v h3
    have r2 := r'.set o1 (fun a z q => by
      rcases q with q | q
      · exact hB a (h1 a z).1 q
      · exact (h1 a z).2 q) hi (hf i List.mem_cons_self)
    refine putL_rd (is := is) (ds := ds) (vs := rest) (F := F2) (ρ1 := ρ1.set i (some d)) (fun j hj => hf j (List.mem_cons_of_mem _ hj)) r2 ?_ (fun a z => hB a (h2 a z)) (s.set fun a z => fr a (h1 a z).1) (fun a z => fr a (h2 a z)) p
    exact OwL.stay (W := A0) ⟨.refl, fun _ _ => rfl, fun _ z => z.elim, fun a z => by
      rcases z with z | ⟨j, z⟩
      · exact .inl (.inl (sub a (.inl z)))
      · have z : (if j = i then F1 else Fs1 j) a := z
        split at z
        · exact .inl (.inl (.inr (h1 a z).1))
        · exact .inl (.inr ⟨j, z⟩), fun a z => .inl (.inr z)⟩ ds rest h4
  | [], _ :: _, vs, Fs, Fs1, F, σ, ρ1, hf, r, ow, hB, s, fr, p => p.elim
  | _ :: _, [], vs, Fs, Fs1, F, σ, ρ1, hf, r, ow, hB, s, fr, p => p.elim
def parS (is : List Nat) (ms : M (List D)) : M Fl := M.bind ms fun ds => putL is ds
theorem par_rd {is : List Nat} {ms : M (List D)} {D' : Ends} {σ : L2.St} {H : Hp} (hf : ∀ i ∈ is, free W i) (h : dS W E (parS is ms) D' σ H) : dT W E (LR W) ms σ H fun vs H1 => vs.length = is.length ∧ D'.nx (setL is vs σ) H1 := by
  obtain ⟨B, Fs, ρ, r, p⟩ := h
  refine ⟨B, Fs, ρ, r, ?_⟩
  unfold parS M.bind at p
  cases hm : ms ρ with
  | bad => rw [hm] at p; exact p.elim
  | exc c ρ2 =>
    rw [hm] at p
    exact fun H2 Fs2 r2 s => (show PostS W E B Fs H (.exc c ρ2) D' from p) H2 Fs2 _ r2 s
  | ok ds ρ2 =>
    rw [hm] at p
    intro vs H2 Fs2 F2 r2 ow s fr
    have ow : OwL W.C (OO (U B F2) Fs2) H2 F2 ds vs := ow
    have len : ∀ {is : List Nat} {ds : List D} {ρ : Rho}, PostS W E B Fs H (putL is ds ρ) D' → ds.length = is.length := fun {is} => by
      induction is with
      | nil =>
        intro ds ρ q
        cases ds with
        | nil => rfl
        | cons d ds => exact q.elim
      | cons i is ih =>
        intro ds ρ q
        cases ds with
        | nil => exact q.elim
        | cons d ds =>
          unfold putL at q
          split at q
          · simp [ih q]
          · exact q.elim
    exact ⟨by rw [ow.length]; exact len p, putL_rd hf r2 ow (fun a ha z => (r.bd a z).ne (fr a ha)) s fr p⟩
/-- a, b = e1, e2 -/
theorem ds_par {i j : Nat} {x y : Str} {a b : Expr} {m : M (List D)} {px py pt pos : Pos} {kt k2 pt2} (hc : X.calm = true) (hN : X.N.Nodup) (hi : X.N[i]? = some x) (hj : X.N[j]? = some y) (hij : i ≠ j) (hf : ∀ n ∈ [i, j], free W n)
    (hx : X.env.scope.names.lookup x = some .local) (hy : X.env.scope.names.lookup y = some .local) (ha : DV W E X [a, b] m)
    (hw : swappedStores [.Tuple [.Name x px, .Name y py] kt pt] (.Tuple [a, b] k2 pt2) X.env = Pure.pure (some [x, y]))
    (hs : swapsWithSole [.Tuple [.Name x px, .Name y py] kt pt] (.Tuple [a, b] k2 pt2) pos.line X.env = Pure.pure false := by rfl) :
    DS W E X (.Assign [.Tuple [.Name x px, .Name y py] kt pt] (.Tuple [a, b] k2 pt2) pos) (parS [i, j] m) :=
  mnS (ps_par hc hN hi hj hij hx hy ha hw hs) fun D σ H h => by
    obtain ⟨B, Fs, ρ, r, p⟩ := par_rd hf h
    exact ⟨B, Fs, ρ, r, p.mono fun vs H1 ⟨hl, q⟩ => match vs, hl, q with | [v, w], _, q => ⟨v, w, rfl, q⟩⟩
theorem ds_par3 {i j l : Nat} {x y z : Str} {a b c : Expr} {m : M (List D)} {px py pz pt pos : Pos} {kt k2 pt2} (hc : X.calm = true) (hN : X.N.Nodup) (hi : X.N[i]? = some x) (hj : X.N[j]? = some y) (hl : X.N[l]? = some z) (hij : i ≠ j) (hil : i ≠ l) (hjl : j ≠ l) (hf : ∀ n ∈ [i, j, l], free W n)
    (hx : X.env.scope.names.lookup x = some .local) (hy : X.env.scope.names.lookup y = some .local) (hz : X.env.scope.names.lookup z = some .local) (ha : DV W E X [a, b, c] m)
    (hw : swappedStores [.Tuple [.Name x px, .Name y py, .Name z pz] kt pt] (.Tuple [a, b, c] k2 pt2) X.env = Pure.pure (some [x, y, z]))
    (hs : swapsWithSole [.Tuple [.Name x px, .Name y py, .Name z pz] kt pt] (.Tuple [a, b, c] k2 pt2) pos.line X.env = Pure.pure false := by rfl) :
    DS W E X (.Assign [.Tuple [.Name x px, .Name y py, .Name z pz] kt pt] (.Tuple [a, b, c] k2 pt2) pos) (parS [i, j, l] m) :=
  mnS (ps_par3 hc hN hi hj hl hij hil hjl hx hy hz ha hw hs) fun D σ H h => by
    obtain ⟨B, Fs, ρ, r, p⟩ := par_rd hf h
    exact ⟨B, Fs, ρ, r, p.mono fun vs H1 ⟨hl, q⟩ => match vs, hl, q with | [u, v, w], _, q => ⟨u, v, w, rfl, q⟩⟩
end
end DL
end

section
set_option Elab.async false
set_option linter.all false
set_option maxRecDepth 100000
set_option maxHeartbeats 2000000
/-! D29: for over a list of one owned thing. -/
namespace DL
open PySem PySem.Spec PyProof.Rows L2
section
variable {W : Dx} {E : XK} {X : Cx}
def forOwn (i : Nat) (m : M D) (b : M Fl) : M Fl := M.bind m fun d => match d with
  | .lst true [e] => fun ρ => if i < ρ.length then (match b (ρ.set i (some e)) with
    | .ok (.rt d) ρ' => .ok (.rt d) ρ'
    | .ok _ ρ' => .ok .nx ρ'
    | .exc c ρ' => .exc c ρ'
    | .bad => .bad) else .bad
  | _ => M.bad
theorem ds_forOwn {i : Nat} {x : Str} {iter : Expr} {body : List Stmt} {m : M D} {b : M Fl} {p pos : Pos} (hp : PassesOwn (model X.prog X.w) X.A X.env X.xe) (hc : X.calm = true) (he : DE W E X iter m) (hN : X.N.Nodup) (hi : X.N[i]? = some x) (hx : Loc X.env.scope x) (hf : free W i) (hb : DB W E X body b)
    (hl : X.fn x = true ∨ X.env.scope.names.lookup x = some .local := by first | exact .inl rfl | exact .inr rfl | assumption) (hs : ∀ x, foldedSetIterable iter X.env x = Pure.pure x := by intro _; rfl) :
    DS W E X (.For (.Name x p) iter body [] pos) (forOwn i m b) :=
  mnS (ps_for hp hc (pi_any he) (pg_name hN hi hx hl) hb hs) fun D' σ H h => by
    obtain ⟨B, Fs, ρ, r, q⟩ := h
    refine ⟨B, Fs, ρ, r, ?_⟩
    unfold forOwn M.bind at q
    cases hm : m ρ with
    | bad => rw [hm] at q; exact q.elim
    | exc c ρ2 => rw [hm] at q; exact fun H2 Fs2 r2 s => (show PostS W E B Fs H (.exc c ρ2) D' from q) H2 Fs2 _ r2 s
    | ok d ρ1 =>
      rw [hm] at q
      intro v H1 Fs1 F1 r1 ow0 s1 fr
      have ow : Ow W.C (OO (U B F1) Fs1) H1 F1 d v := ow0
      clear ow0
      simp only at q
      split at q
      case h_2 => exact q.elim
      rename_i e
      split at q
      case isFalse => exact q.elim
      rename_i hlen
      unfold Ow at ow
      obtain ⟨L, vs, G, rfl, hL, hat, hsub, ow⟩ := ow
      unfold OwL at ow
      obtain ⟨w, rest, F2, F3, rfl, k1, k2, k3, k4⟩ := ow
      unfold OwL at k4
      subst k4
      have hFL : F1 L := hat.2
      have hG : ∀ a, F2 a → F1 a ∧ a ≠ L := fun a z => ⟨hsub.1 a (k1 a z).1, fun e => hsub.2 (by rw [← e]; exact (k1 a z).1)⟩
      let B1 : AS := U B fun a => a = L
      have sub : ∀ a, U B1 F2 a → U B F1 a := fun a z => by
        rcases z with (z | z) | z
        · exact .inl z
        · exact .inr (by rw [show a = L from z]; exact hFL)
        · exact .inr (hG a z).1
      have r2 : Rel W (U B1 F2) Fs1 σ H1 ρ1 := r1.weak sub
      have o2 : Ow W.C (OO (U B1 F2) Fs1) H1 F2 e w := Ow.stay (W := A0) ⟨.refl, fun _ _ => rfl, fun _ z => z.elim, fun a z => .inl (z.elim (fun z => .inl (sub a z)) .inr), fun a z => .inl (.inr z)⟩ e w k3
      have r3 := r2.set o2 (fun a z y => by
        rcases y with y | y
        · exact (r.bd a y).ne (fr a (hG a z).1)
        · exact (hG a z).2 y) hlen hf
      have s3 : Stp B Fs (fun j => if j = i then F2 else Fs1 j) H H1 := s1.set fun a z => fr a (hG a z).1
      have seq : SqL X.K H1 L [w] := SqL.of hL
      let N : L2.St → Hp → Prop := fun σ' H' => H' L = some (.lst [w]) ∧ D'.nx σ' H'
      refine .inl ⟨L, rfl, ⟨[w], seq⟩, fun k m σ' H' => (k = 0 ∧ m = 1 ∧ σ' = σ ∧ H' = H1) ∨ (k = 1 ∧ m = 0 ∧ N σ' H'), ⟨1, .inl ⟨rfl, rfl, rfl, rfl⟩⟩, ?_⟩
      have hw := walk_list (K := X.K) (a := L) (xs := [w])
      rintro k m σ' H' (⟨rfl, rfl, rfl, rfl⟩ | ⟨rfl, rfl, h1, h2⟩)
      · refine .inr ⟨hw.goes 0 _ (by simp) seq, N, fun σ' H' n => ⟨0, by omega, .inr ⟨rfl, rfl, n⟩⟩, fun y H2 hy => ?_⟩
        obtain ⟨rfl, ey⟩ := hw.yields 0 _ y H2 (by simp) seq hy
        cases ey
        refine ⟨B1, _, _, r3, ?_⟩
        have kL : ∀ {Fs' H'}, Stp B1 (fun j => if j = i then F2 else Fs1 j) Fs' H2 H' → H' L = some (.lst [w]) := fun st => (st.kb L (.inr rfl)).trans hL
        have wk : ∀ a, B a → B1 a := fun a z => .inl z
        cases hbb : b (ρ1.set i (some e)) with
        | bad => rw [hbb] at q; exact q.elim
        | exc c ρ2 => rw [hbb] at q; exact fun H' Fs' σ' r' s' => q H' Fs' σ' (r'.weak wk) (s3.trans (s'.weak wk))
        | ok fl ρ2 =>
          rw [hbb] at q
          cases fl with
          | nx => exact fun σ' H' Fs' r' s' => ⟨kL s', q σ' H' Fs' (r'.weak wk) (s3.trans (s'.weak wk))⟩
          | ct => exact fun σ' H' Fs' r' s' => ⟨kL s', q σ' H' Fs' (r'.weak wk) (s3.trans (s'.weak wk))⟩
          | bk => exact fun σ' H' Fs' r' s' => q σ' H' Fs' (r'.weak wk) (s3.trans (s'.weak wk))
          | rt d =>
            have wk2 : ∀ {F : AS} a, U B F a → U B1 F a := fun a z => z.elim (fun z => .inl (.inl z)) .inr
            exact fun v σ' H' Fs' F r' ow s' fr' => q v σ' H' Fs' F (r'.weak wk2) (Ow.stay (W := A0) ⟨.refl, fun _ _ => rfl, fun _ z => z.elim, fun a z => .inl (z.elim (fun z => .inl (wk2 a z)) .inr), fun a z => .inl (.inr z)⟩ d v ow) (s3.trans (s'.weak wk)) fun a z => s3.fresh (fr' a z)
      · exact .inl ⟨hw.stops _ (SqL.of h1), h2⟩
end
end DL
end

section
set_option Elab.async false
set_option linter.all false
set_option maxRecDepth 100000
set_option maxHeartbeats 2000000
/-! D30: chains of comparisons, of whole numbers. -/
namespace DL
open PySem PySem.Spec PyProof.Rows L2
/-- a comparison of whole numbers -/
def SpI (r : R2) (f : Int → Int → Bool) : Prop := ∀ (i j : Int) (H : Hp) (Q : VK), Q (.bl (f i j)) H → r (.int i) (.int j) H Q
def toI (m : M D) : M Int := M.bind m fun d => match d with
  | .int i => M.pure i
  | _ => M.bad
def IR : RR Int V := fun i _ _ _ F v => (∀ a, ¬ F a) ∧ v = .int i
def chainM (f f' : Int → Int → Bool) (a b c : M D) : M Bool := M.bind (toI a) fun i => M.bind (toI b) fun j => if f i j = true then M.bind (toI c) fun k => M.pure (f' j k) else M.pure false
section
variable {W : Dx} {E : XK} {X : Cx}
theorem toI_rd {m : M D} {σ : L2.St} {H : Hp} {Q : VK} (h : dT W E IR (toI m) σ H Q) : dT W E (DR W) m σ H Q := by
  obtain ⟨B, Fs, ρ, r0, p⟩ := h
  refine ⟨B, Fs, ρ, r0, (Post.step (fun _ z => z) .refl p).mono fun x H1 ⟨Fs1, F1, d, ρ1, _, r1, ht, s1, f1, p1⟩ => ?_⟩
  cases d with
  | int i =>
    have ht : Ow W.C _ H1 F1 (.int i) x := ht
    unfold Ow at ht
    exact p1 x H1 Fs1 A0 (r1.drop.u0 fun _ z => z) ⟨fun _ z => z, ht⟩ s1 fun _ z => z.elim
  | _ => exact p1.elim
theorem chain_rd {r r' : R2} {f f' : Int → Int → Bool} (hr : SpI r f) (hr' : SpI r' f') {a b c : M D} {σ : L2.St} {H : Hp} {Q : Bool → Hp → Prop} (h : dT W E BR (chainM f f' a b c) σ H Q) : tTest (tChain r r' (dT W E (DR W) a) (dT W E (DR W) b) (dT W E (DR W) c)) σ H Q := by
  obtain ⟨B, Fs, ρ, r0, p⟩ := h
  refine toI_rd ⟨B, Fs, ρ, r0, (Post.step (m := toI a) (fun _ z => z) .refl p).mono fun x H1 ⟨Fs1, F1, i, ρ1, _, r1, ⟨n1, e1⟩, s1, f1, p1⟩ => ?_⟩
  rw [u0 n1] at r1
  refine toI_rd ⟨B, Fs1, ρ1, r1, (Post.step (m := toI b) (fun _ z => z) s1 p1).mono fun y H2 ⟨Fs2, F2, j, ρ2, _, r2, ⟨n2, e2⟩, s2, f2, p2⟩ => ?_⟩
  rw [u0 n2] at r2
  subst e1 e2
  refine hr i j H2 _ ⟨f i j, rfl, ?_⟩
  have s12 := s1.trans s2
  cases hf : f i j with
  | false =>
    rw [hf] at p2
    exact ⟨false, rfl, p2 false H2 Fs2 A0 (r2.u0 fun _ z => z) ⟨fun _ z => z, rfl⟩ s12 fun _ z => z.elim⟩
  | true =>
    rw [hf] at p2
    rw [if_pos rfl] at p2 ⊢
    refine toI_rd ⟨B, Fs2, ρ2, r2, (Post.step (m := toI c) (fun _ z => z) s12 p2).mono fun w H3 ⟨Fs3, F3, k, ρ3, _, r3, ⟨n3, e3⟩, s3, f3, p3⟩ => ?_⟩
    rw [u0 n3] at r3
    subst e3
    exact hr' j k H3 _ ⟨f' j k, rfl, p3 (f' j k) H3 Fs3 A0 (r3.u0 fun _ z => z) ⟨fun _ z => z, rfl⟩ (s12.trans s3) fun _ z => z.elim⟩
theorem dt_chain {op op' : CmpOp} {r r' : R2} {f f' : Int → Int → Bool} {a b c : Expr} {ma mb mc : M D} {pos : Pos} (ho : OpR X (compareOp op) r) (ho' : OpR X (compareOp op') r') (hr : SpI r f) (hr' : SpI r' f') (ha : DE W E X a ma) (hb : DE W E X b mb) (hc : DE W E X c mc)
    (hm : lastMarks [op, op'] [b, c] = false := by with_unfolding_all rfl) : DT W E X (.Compare a [op, op'] [b, c] pos) (chainM f f' ma mb mc) :=
  mnT (pt_chain ho ho' ha hb hc hm) fun σ H Q h => chain_rd hr hr' h
end
end DL
end

section
set_option Elab.async false
set_option linter.all false
set_option maxRecDepth 100000
set_option maxHeartbeats 2000000
/-! E1: the tables of a whole program; defs by their code; calls. -/
namespace DL
open PySem PySem.Spec PyProof.Rows L2

/-- the tables ts and l are known, the code objects cs stand with theirs; lam: the table of lambdas and their name -/
def TT (ts : List Addr) (lam : Option (Addr × Str)) (l : List Addr) (cs : List (Addr × Addr)) : Tb where
  p := fun H => ∃ S : Addr → Prop, (∀ P, P ∈ ts ∨ P ∈ l → S P) ∧ GX.TabsS S H ∧ (∀ q ∈ cs, H q.1 = some (GX.CodeX q.1 q.2)) ∧ ∀ q, lam = some q → ¬ S q.1 ∧ LamX.TabS H q.1 q.2
  st := by
    rintro H H' ⟨S, h1, h2, h3, h4⟩ k
    refine ⟨S, h1, fun P hP => ?_, fun q hq => k _ _ (h3 q hq) trivial, fun q e => ⟨(h4 q e).1, ?_⟩⟩
    · obtain ⟨ps, e1, e2, e3⟩ := h2 P hP
      refine ⟨ps, k _ _ e1 trivial, e2, fun pos cv hc => ?_⟩
      obtain ⟨c, P', f1, f2, f3⟩ := e3 pos cv hc
      exact ⟨c, P', f1, k _ _ f2 trivial, f3⟩
    · obtain ⟨ps, e1, e2, e3⟩ := (h4 q e).2
      refine ⟨ps, k _ _ e1 trivial, e2, fun pos cv hc => ?_⟩
      obtain ⟨c, f1, f2⟩ := e3 pos cv hc
      exact ⟨c, f1, k _ _ f2 trivial⟩
theorem tt_gx {ts : List Addr} {lam : Option (Addr × Str)} {l : List Addr} {cs : List (Addr × Addr)} {P : Addr} (hP : P ∈ ts ∨ P ∈ l) : TbY (TT ts lam l cs) P fun c' P' => TT ts lam (P' :: l) ((c', P') :: cs) where
  opn := by
    rintro H ⟨S, h1, h2, h3, h4⟩
    refine ⟨S, h1 P hP, h2, fun H' S' x c' P' hP' hc' => ⟨S', fun Q hQ => ?_, x.tabs, fun q hq => ?_, fun q e => ?_⟩⟩
    · rcases hQ with hQ | hQ
      · exact x.sub _ (h1 Q (.inl hQ))
      · rcases List.mem_cons.mp hQ with rfl | hQ
        · exact hP'
        · exact x.sub _ (h1 Q (.inr hQ))
    · rcases List.mem_cons.mp hq with rfl | hq
      · exact hc'
      · have e := h3 q hq
        have nS : ¬ S q.1 := fun z => by
          obtain ⟨ps, e1, _⟩ := h2 _ z
          rw [e] at e1
          exact GX.codeX_ne ps (Option.some.inj e1)
        rw [x.keep _ nS (by rw [e]; simp)]
        exact e
    · obtain ⟨n, ps, e1, e2, e3⟩ := h4 q e
      have dq : H q.1 ≠ none := by rw [e1]; simp
      refine ⟨fun z => dq (x.new _ z n), ps, by rw [x.keep _ n dq]; exact e1, e2, fun pos cv hc => ?_⟩
      obtain ⟨c, f1, f2⟩ := e3 pos cv hc
      have nS : ¬ S c := fun z => by
        obtain ⟨ps, e1, _⟩ := h2 _ z
        rw [f2] at e1
        have e1 := Option.some.inj e1
        unfold LamX.CodeO at e1
        cases e1
      exact ⟨c, f1, by rw [x.keep _ nS (by rw [f2]; simp)]; exact f2⟩
  back := by
    rintro c' P' H ⟨S, h1, h2, h3, h4⟩
    refine ⟨S, fun Q hQ => h1 Q ?_, h2, fun q hq => h3 q (List.mem_cons_of_mem _ hq), h4⟩
    rcases hQ with hQ | hQ
    · exact .inl hQ
    · exact .inr (List.mem_cons_of_mem _ hQ)
theorem tt_lam {ts : List Addr} {P : Addr} {q : Str} {l : List Addr} {cs : List (Addr × Addr)} : TbL (TT ts (some (P, q)) l cs) P q where
  tab := fun H ⟨S, h1, h2, h3, h4⟩ => (h4 _ rfl).2
  nxt := by
    rintro H f c' φ H' ⟨S, h1, h2, h3, h4⟩ x
    obtain ⟨n, _⟩ := h4 _ rfl
    have hne : ∀ b, S b → b ≠ P := fun b hb z => n (by rw [z] at hb; exact hb)
    obtain ⟨ps0, e0, _⟩ := (h4 _ rfl).2
    have kp : ∀ b u, H b = some u → (∀ ps, u ≠ .tbl ps) → H' b = some u := fun b u e nt => by
      rw [x.old b (fun z => by rw [z, e0] at e; exact nt ps0 (Option.some.inj e).symm) (by rw [e]; simp)]; exact e
    refine ⟨S, h1, fun Q hQ => ?_, fun r hr => kp _ _ (h3 r hr) fun ps => GX.codeX_ne ps, fun r e => ?_⟩
    · obtain ⟨ps, e1, e2, e3⟩ := h2 Q hQ
      refine ⟨ps, by rw [x.old Q (hne Q hQ) (by rw [e1]; simp)]; exact e1, e2, fun pos cv hc => ?_⟩
      obtain ⟨c, P', f1, f2, f3⟩ := e3 pos cv hc
      exact ⟨c, P', f1, kp _ _ f2 fun ps => GX.codeX_ne ps, f3⟩
    · cases e
      exact ⟨n, x.tab⟩
/-- at the law's entry -/
theorem tt_start {ts : List Addr} {lam : Option (Addr × Str)} {H : Hp} (h : ∀ P ∈ ts, H P = some (.tbl #[])) (hl : ∀ q, lam = some q → q.1 ∉ ts ∧ H q.1 = some (.tbl #[])) : (TT ts lam [] []).p H := by
  have na : ∀ (pos : Pos) (cv : Value), codeAmong pos (#[] : Array Value).toList = some cv → False := fun pos cv e => by simp [codeAmong] at e
  have tr : TriplesOk (#[] : Array Value).toList := by first | trivial | simp [TriplesOk] | constructor
  refine ⟨fun P => P ∈ ts, ?_, ?_, ?_, ?_⟩
  · intro P z
    rcases z with z | z
    · exact z
    · cases z
  · intro P hP
    exact ⟨#[], h P hP, tr, fun pos cv e => (na pos cv e).elim⟩
  · intro q hq
    cases hq
  · intro q e
    exact ⟨(hl q e).1, #[], (hl q e).2, tr, fun pos cv e => (na pos cv e).elim⟩

/-- the world of a program: cc its classes, xx its exceptions -/
abbrev W0 (K : PySem.W.Frag) (cc xx : Nat → Addr) (T : Tb) (L : Nat → Addr → Addr → Heap → Prop) (q : Str) : Dx := ⟨⟨cc, K, L, q⟩, xx, T, []⟩
/-- a def that keeps F: as it is called -/
structure Dk (P : Program) (w : World) (K : PySem.W.Frag) (mg : Str → Option Value) (base : Heap) (cc xx : Nat → Addr) (ts : List Addr) (lam : Option (Addr × Str)) (k : Nat) (f : Addr) (ps : List Str) (io : List Bool) (F : List D → FO) (dd : List D) : Prop where
  ex : ∃ (fd : FuncData) (dus : List Value) (dvs : List V), Binds K fd ps dus ∧ Vals dvs dus ∧ (∀ W, DfOk W dd dvs) ∧ ∀ l cs L q, FnOk P w K mg base (L2.CX P w) k f fd ps (spD (W0 K cc xx (TT ts lam l cs) L q) io F)
/-- W is of the world -/
def InW (K : PySem.W.Frag) (cc xx : Nat → Addr) (ts : List Addr) (lam : Option (Addr × Str)) (W : Dx) : Prop := ∃ l cs L q, W.bare = W0 K cc xx (TT ts lam l cs) L q
section
variable {P : Program} {w : World} {K : PySem.W.Frag} {mg : Str → Option Value} {base : Heap}
theorem df0 {W : Dx} : DfOk W [] [] := fun _ _ => .nil
theorem df1 {W : Dx} {d : D} {v : V} {ds : List D} {vs : List V} (h : ∀ C O H, Fz C O H d v) (hs : DfOk W ds vs) : DfOk W (d :: ds) (v :: vs) := fun O H => .cons (h _ _ _) (hs O H)
theorem fz_c {d : D} {v : V} {w : V} (e : toV d = some w) (hw : v = w) : ∀ C O H, Fz C O H d v := fun C O H => by
  subst hw
  cases d <;> simp only [toV] at e <;> first | cases e | skip
  all_goals (unfold Ow; rfl)
/-- THE RULE for a def, its code object known -/
theorem fn_DC {x qual : Str} {params : Arguments} {body : List Stmt} {scope : Scope} {dV kV doc pm cdv ct oc : Value} {an od : Option Addr} {osl : Array (Option Value)} {f : Addr} {N ps : List Str} {k : Nat} {io : List Bool} {W : Dx} {m : M Fl}
    (lk : K.lookup f = some ⟨oc, od, .func (PySem.W.fnOf x qual params body scope dV kV doc pm an cdv ct), osl⟩) (hcd : PySem.W.codeIn K cdv qual = true) (S : FnScope N ps scope) (hps : ps.length = io.length) (hN : ps.length ≤ N.length)
    (hbody : ∀ (A : Around) (outer : List Env) (s : Shared) (H : Hp) (vs : List V) (E : XK), Room k (A.deeper (envOfC qual scope s.heap.objs.size f cdv)) → GX.TakesF (cxOf (L2.CX P w) P w K mg base N qual scope f cdv A outer s H E) E →
      DB (W.at io vs) E (cxOf (L2.CX P w) P w K mg base N qual scope f cdv A outer s H E) body m) : FnOk P w K mg base (L2.CX P w) (k + 1) f (PySem.W.fnOf x qual params body scope dV kV doc pm an cdv ct) ps (spD W io (runF io N.length m)) := by
  refine fn_of lk hcd S (fun vs H Q E h => by rw [h.1, hps]) fun A outer s H vs Q E hr hsp => ?_
  exact ⟨_, hbody A outer s H vs E hr (GX.TakesF.of (takes_of rfl rfl rfl rfl)), body_rd (by rw [hsp.1, ← hps]; exact hN) hsp⟩
end
section
variable {W : Dx} {E : XK} {X : Cx} {cc xx : Nat → Addr} {ts : List Addr} {lam : Option (Addr × Str)} {k : Nat} {f C : Addr} {ps : List Str} {io : List Bool} {F : List D → FO} {dd : List D} {x m : Str} {p pos apos : Pos} {e o : Expr} {es : List Expr} {ma : M (List Tk)} {mo : M Tk}
theorem Dk.fn (G : Dk X.prog X.w X.K X.mg X.base cc xx ts lam k f ps io F dd) (hW : InW X.K cc xx ts lam W) : ∃ (fd : FuncData) (dus : List Value) (dvs : List V), Binds X.K fd ps dus ∧ Vals dvs dus ∧ DfOk W dd dvs ∧ FnOk X.prog X.w X.K X.mg X.base (L2.CX X.prog X.w) k f fd ps (spD W io F) := by
  obtain ⟨fd, dus, dvs, h1, h2, h3, h4⟩ := G.ex
  obtain ⟨l, cs, L, q, e⟩ := hW
  refine ⟨fd, dus, dvs, h1, h2, h3 W, ?_⟩
  have h := h4 l cs L q
  rw [← e] at h
  exact h
theorem dc_call (G : Dk X.prog X.w X.K X.mg X.base cc xx ts lam k f ps io F dd) (hW : InW X.K cc xx ts lam W) (hr : Room k X.A) (tk : GX.TakesF X E) (hm : X.mg x = some (.ref f)) (hk : PySem.W.keepIn X.K (.ref f) = true) (ha : DA W E X (e :: es) ma) (hg : Gl X x := by rfl)
    (hdb : (x == ("__debug__" : Str)) = false := by decide) (he : starEach (e :: es) X.env = (false, eval e X.env) :: starEach es X.env := by rfl) (hpl : (backTo pos (starEach es X.env)).any (·.1) = false := by rfl) :
    DE W E X (.Call (.Name x p) (e :: es) [] pos) (callM io F dd ma) := by
  obtain ⟨fd, dus, dvs, h1, h2, h3, h4⟩ := G.fn (X := X) (W := W) hW
  exact de_call h4 hr tk hg hm hk h1 h2 h3 ha hdb he hpl
theorem dc_call0 (G : Dk X.prog X.w X.K X.mg X.base cc xx ts lam k f ps io F dd) (hW : InW X.K cc xx ts lam W) (hr : Room k X.A) (tk : GX.TakesF X E) (hm : X.mg x = some (.ref f)) (hk : PySem.W.keepIn X.K (.ref f) = true) (hg : Gl X x := by rfl)
    (hdb : (x == ("__debug__" : Str)) = false := by decide) : DE W E X (.Call (.Name x p) [] [] pos) (callM io F dd argK0) := by
  obtain ⟨fd, dus, dvs, h1, h2, h3, h4⟩ := G.fn (X := X) (W := W) hW
  exact de_call0 h4 hr tk hg hm hk h1 h2 h3 hdb
theorem dc_meth {pl : Sem Bool} {c : Nat} (G : Dk X.prog X.w X.K X.mg X.base cc xx ts lam k f ps io F dd) (hW : InW X.K cc xx ts lam W) (hr : Room k X.A) (tk : GX.TakesF X E) (hc : Cls X.K (cc c)) (hm : Meth X.K (cc c) m f) (ho : DK W E X o mo) (ha : DA W E X (e :: es) ma)
    (hst : starEach (e :: es) X.env = (false, eval e X.env) :: starEach es X.env := by rfl) (hpl : (backTo pos (starEach es X.env)).any (·.1) = false := by rfl)
    (ht : eval (.Call (.Attribute o m apos) (e :: es) [] pos) X.env = (do
      let ov ← eval o X.env
      standAt apos.atName
      let (f, first) ← holding [ov] (getMethod ov m pl)
      callWith pos f first (backTo pos (starEach (e :: es) X.env)) (backToKw pos (keywordEach [] X.env))) := by rfl) :
    DE W E X (.Call (.Attribute o m apos) (e :: es) [] pos) (methM c m io F dd mo ma) := by
  obtain ⟨fd, dus, dvs, h1, h2, h3, h4⟩ := G.fn (X := X) (W := W) hW
  obtain ⟨l, cs, L, q, e⟩ := hW
  have hC : cc c = W.C.c c := by
    have : W.bare.C.c c = cc c := by rw [e]
    exact this.symm
  exact de_meth hC ho hc hm h4 hr tk h1 h2 h3 ha hst hpl ht
theorem dc_meth0 {pl : Sem Bool} {c : Nat} (G : Dk X.prog X.w X.K X.mg X.base cc xx ts lam k f ps io F dd) (hW : InW X.K cc xx ts lam W) (hr : Room k X.A) (tk : GX.TakesF X E) (hc : Cls X.K (cc c)) (hm : Meth X.K (cc c) m f) (ho : DK W E X o mo)
    (ht : eval (.Call (.Attribute o m apos) [] [] pos) X.env = (do
      let ov ← eval o X.env
      standAt apos.atName
      let (f, first) ← holding [ov] (getMethod ov m pl)
      callWith pos f first (backTo pos (starEach [] X.env)) (backToKw pos (keywordEach [] X.env))) := by rfl) :
    DE W E X (.Call (.Attribute o m apos) [] [] pos) (methM c m io F dd mo argK0) := by
  obtain ⟨fd, dus, dvs, h1, h2, h3, h4⟩ := G.fn (X := X) (W := W) hW
  obtain ⟨l, cs, L, q, e⟩ := hW
  have hC : cc c = W.C.c c := by
    have : W.bare.C.c c = cc c := by rw [e]
    exact this.symm
  exact de_meth0 hC ho hc hm h4 hr tk h1 h2 h3 ht
theorem dc_make {c n : Nat} (G : Dk X.prog X.w X.K X.mg X.base cc xx ts lam k f ps io F dd) (hW : InW X.K cc xx ts lam W) (Mk' : Mk X.K (cc c) f) (hr : Room (k + 1) X.A) (tk : GX.TakesF X E) (hm : X.mg x = some (.ref (cc c))) (hio : io = true :: List.replicate n false) (hn : ∀ ts ρ ρ', ma ρ = .ok ts ρ' → ts.length + dd.length = n) (ha : DA W E X (e :: es) ma) (hg : Gl X x := by rfl)
    (hdb : (x == ("__debug__" : Str)) = false := by decide) (he : starEach (e :: es) X.env = (false, eval e X.env) :: starEach es X.env := by rfl) (hpl : (backTo pos (starEach es X.env)).any (·.1) = false := by rfl) :
    DE W E X (.Call (.Name x p) (e :: es) [] pos) (makeM c F dd ma) := by
  obtain ⟨fd, dus, dvs, h1, h2, h3, h4⟩ := G.fn (X := X) (W := W) hW
  obtain ⟨l, cs, L, q, e⟩ := hW
  have hC : cc c = W.C.c c := by
    have : W.bare.C.c c = cc c := by rw [e]
    exact this.symm
  exact de_make hC Mk' h4 hr tk hg hm h1 h2 h3 hio hn ha hdb he hpl
theorem dc_make0 {c n : Nat} (G : Dk X.prog X.w X.K X.mg X.base cc xx ts lam k f ps io F dd) (hW : InW X.K cc xx ts lam W) (Mk' : Mk X.K (cc c) f) (hr : Room (k + 1) X.A) (tk : GX.TakesF X E) (hm : X.mg x = some (.ref (cc c))) (hio : io = true :: List.replicate n false) (hn : dd.length = n) (hg : Gl X x := by rfl)
    (hdb : (x == ("__debug__" : Str)) = false := by decide) : DE W E X (.Call (.Name x p) [] [] pos) (makeM c F dd argK0) := by
  obtain ⟨fd, dus, dvs, h1, h2, h3, h4⟩ := G.fn (X := X) (W := W) hW
  obtain ⟨l, cs, L, q, e⟩ := hW
  have hC : cc c = W.C.c c := by
    have : W.bare.C.c c = cc c := by rw [e]
    exact this.symm
  exact de_make0 hC Mk' h4 hr tk hg hm h1 h2 h3 hio hn hdb
/-- what never runs -/
theorem de_bad {e : Expr} : DE W E X e M.bad := ⟨fun _ _ _ _ _ _ ⟨_, _, _, _, p⟩ => False.elim p⟩
theorem ds_bad {s : Stmt} : DS W E X s M.bad := ⟨fun _ _ _ _ _ _ ⟨_, _, _, _, p⟩ => False.elim p⟩
theorem db_bad {s : List Stmt} : DB W E X s M.bad := ⟨fun _ _ _ _ _ _ ⟨_, _, _, _, p⟩ => False.elim p⟩
theorem dt_bad {e : Expr} : DT W E X e M.bad := ⟨fun _ _ _ _ _ _ ⟨_, _, _, _, p⟩ => False.elim p⟩
/-- a constant of the module -/
theorem de_glob {d : D} {v : V} {u : Value} (hm : X.mg x = some u) (hv : toV d = some v) (r : RelV v u) (hg : Gl X x := by rfl) (hd : (x == ("__debug__" : Str)) = false := by decide) : DE W E X (.Name x p) (M.pure d) :=
  de_const (pe_glob hg hm r hd) (fz_c hv rfl)
end
end DL
end

section
set_option Elab.async false
set_option linter.all false
set_option maxRecDepth 100000
set_option maxHeartbeats 2000000
/-! E2: dict comprehensions (no exception leaves them). -/
namespace DL
open PySem PySem.Spec PyProof.Rows L2
def dcF (own : List Nat) (g : D → M Unit) (t : M Bool) (kl vl : M D) : List D → List Key → List D → M (List Key × List D)
  | [], ks, es => M.pure (ks, es)
  | d :: ds, ks, es => M.bind (g d) fun _ => M.bind t fun b => if b = true then M.bind kl fun k => M.bind vl fun v => (match toKey k with
      | some k => if ks.length < 2 ^ 24 then fun ρ => dcF own g t kl vl ds (putD ks es k (fz v)).1 (putD ks es k (fz v)).2 (wipeR ρ own) else M.bad
      | none => M.bad) else fun ρ => dcF own g t kl vl ds ks es (wipeR ρ own)
def dcE (own : List Nat) (it : M (List D)) (g : D → M Unit) (t : M Bool) (kl vl : M D) : M D := M.bind it fun ds => fun ρ1 => match dcF own g t kl vl ds [] [] (wipeR ρ1 own) with
  | .ok q ρ2 => .ok (.dk true q.1 q.2) (backR ρ1 ρ2 own)
  | _ => .bad
section
variable {W : Dx} {E : XK} {X : Cx}
theorem dc_rd {own : List (Str × Nat)} {it : M (List D)} {is : List Nat} {g : D → M Unit} {t : M Bool} {kl vl : M D} {σ : L2.St} {H : Hp} {Q : VK} (his : ∀ j ∈ is, j ∈ own.map (·.2)) (hfree : ∀ j ∈ own.map (·.2), free W j) (nx : NoX g) (h : dT W E (DR W) (dcE (own.map (·.2)) it g t kl vl) σ H Q) :
    tDc (dI W E it) (dG W is g) (dT W E0 BR t) (dT W E0 (DR W) kl) (dT W E0 (DR W) vl) (own.map (·.2)) σ H Q := by
  obtain ⟨B, Fs, ρ, r, p⟩ := h
  generalize hvs : own.map (·.2) = vs at *
  refine ⟨B, Fs, ρ, r, ?_⟩
  unfold dcE M.bind at p
  cases hm : it ρ with
  | exc c ρ2 => rw [hm] at p; exact p
  | bad => rw [hm] at p; exact p
  | ok ds ρ1 =>
    rw [hm] at p
    simp only at p
    intro J H1 Fs1 r1 ik s1 L hL
    obtain ⟨G, Y, hw, hG, hY⟩ := ik
    cases hcF : dcF vs g t kl vl ds [] [] (wipeR ρ1 vs) with
    | exc c ρ2 => rw [hcF] at p; exact p.elim
    | bad => rw [hcF] at p; exact p.elim
    | ok xs ρ2 =>
    rw [hcF] at p
    -- the block's slots
    let Own : AS := fun a => ∃ j, j ∈ vs ∧ Fs1 j a
    let Fb : Nat → AS := fun j => if j ∈ vs then A0 else Fs1 j
    have hFb : ∀ j a, Fb j a → j ∉ vs ∧ Fs1 j a := fun j a z => by
      have z : (if j ∈ vs then A0 else Fs1 j) a := z
      split at z
      · exact z.elim
      · exact ⟨by assumption, z⟩
    let Bb : AS := U B Own
    have oB : ∀ a, OO Bb Fb a → OO B Fs1 a := fun a z => by
      rcases z with (z | ⟨j, _, z⟩) | ⟨j, z⟩
      · exact .inl z
      · exact .inr ⟨j, z⟩
      · exact .inr ⟨j, (hFb j a z).2⟩
    have rb : Rel W Bb Fb (wipe σ vs) H1 (wipeR ρ1 vs) := by
      refine ⟨fun a ha => ?_, fun i a ha => ⟨(r1.fd i a (hFb i a ha).2).1, fun z => ?_⟩, fun i j a h1 h2 => r1.dj i j a (hFb i a h1).2 (hFb j a h2).2, fun i d e => ?_, fun q hq => ?_, by rw [wipeR_len, wipe_length]; exact r1.len, r1.tb⟩
      · rcases ha with ha | ⟨j, _, ha⟩
        · exact r1.bd a ha
        · exact (r1.fd j a ha).1
      · rcases z with z | ⟨j, hj, z⟩
        · exact (r1.fd i a (hFb i a ha).2).2 z
        · have := r1.dj i j a (hFb i a ha).2 z
          exact (hFb i a ha).1 (by rw [this]; exact hj)
      · obtain ⟨e1, hi'⟩ := wipeR_get e
        obtain ⟨v, q1, q2⟩ := r1.sl i d e1
        refine ⟨v, by rw [wipe_at hi']; exact q1, ?_⟩
        have hF : Fb i = Fs1 i := by show (if i ∈ vs then A0 else Fs1 i) = Fs1 i; rw [if_neg hi']
        rw [hF]
        exact Ow.stay (W := A0) ⟨.refl, fun _ _ => rfl, fun _ z => z.elim, fun a z => .inl (oB a z), fun a z => .inr ⟨i, by rw [hF]; exact z⟩⟩ d v q2
      · rw [wipe_at fun z => hfree q.1 z q hq rfl]
        exact r1.pin q hq
    let B1 : AS := U Bb fun a => a = L
    let St : Nat → L2.St → Hp → Prop := fun i σ' H' => ∃ (Fs' : Nat → AS) (ρ' : Rho) (ks : List Key) (es : List D) (kvs : List (Key × V)), σ' = wipe σ vs ∧ Rel W B1 Fs' σ' H' ρ' ∧ Stp Bb Fb Fs' H1 H' ∧ H' L = some (.dK kvs) ∧ kvs.map (·.1) = ks ∧
      FzL W.C (OO B1 Fs') H' es (kvs.map (·.2)) ∧ dcF vs g t kl vl (ds.drop i) ks es ρ' = .ok xs ρ2
    have start : St 0 (wipe σ vs) (upd H1 L (.dK [])) := by
      have al := alc_new (u := .dK []) hL
      refine ⟨Fb, wipeR ρ1 vs, [], [], [], rfl, ?_, al.stp rb.bd, upd_same, rfl, by unfold OwL; rfl, by rw [List.drop_zero]; exact hcF⟩
      exact rb.res al (F := fun a => a = L) (fun a z => by rw [show a = L from z]; exact hL) fun a z => ⟨.dK [], by rw [show a = L from z, upd_same], True.intro⟩
    have keepJ : ∀ {i σ' H'}, St i σ' H' → Keep (OO B Fs1) H1 H' := fun {i σ' H'} ⟨Fs', ρ', ks, es, kvs, _, _, st, _⟩ => fun a u e n t => st.keep a u e (fun ⟨j, z⟩ => n (.inr ⟨j, (hFb j a z).2⟩)) t
    have fin : ∀ H', St ds.length (wipe σ vs) H' → Q (.ref L) H' := by
      rintro H' ⟨Fs', ρ', ks, es, kvs, _, r', st, hLl, hks, ow, hcf⟩
      rw [List.drop_length] at hcf
      obtain ⟨rfl, rfl⟩ : (ks, es) = xs ∧ ρ' = ρ2 := by
        have := Out.ok.inj (show Out.ok (ks, es) ρ' = Out.ok xs ρ2 from hcf)
        exact this
      -- back: the own slots' parts
      let Fe : Nat → AS := fun j => if j ∈ vs then Fs1 j else Fs' j
      let FL : AS := fun a => a = L
      have hFe : ∀ j a, Fe j a → (j ∈ vs ∧ Fs1 j a) ∨ (j ∉ vs ∧ Fs' j a) := fun j a z => by
        have z : (if j ∈ vs then Fs1 j else Fs' j) a := z
        split at z
        · exact .inl ⟨by assumption, z⟩
        · exact .inr ⟨by assumption, z⟩
      have oE : ∀ a, OO (U B FL) Fe a → OO B1 Fs' a := fun a z => by
        rcases z with (z | z) | ⟨j, z⟩
        · exact .inl (.inl (.inl z))
        · exact .inl (.inr z)
        · rcases hFe j a z with ⟨h1, h2⟩ | ⟨_, h2⟩
          · exact .inl (.inl (.inr ⟨j, h1, h2⟩))
          · exact .inr ⟨j, h2⟩
      have nb : ∀ a, Fs1 = Fs1 → (∃ j, Fs1 j a) → H1 a ≠ none := fun a _ ⟨j, z⟩ => (r1.fd j a z).1.ne
      have re : Rel W (U B FL) Fe σ H' (backR ρ1 ρ' vs) := by
        refine ⟨fun a ha => ?_, fun i a ha => ?_, fun i j a h1 h2 => ?_, fun i d e => ?_, r1.pin, by rw [backR_len, r'.len, wipe_length], r'.tb⟩
        · rcases ha with ha | ha
          · exact r'.bd a (.inl (.inl ha))
          · exact r'.bd a (.inr ha)
        · rcases hFe i a ha with ⟨h1, h2⟩ | ⟨h1, h2⟩
          · refine ⟨r'.bd a (.inl (.inr ⟨i, h1, h2⟩)), fun z => ?_⟩
            rcases z with z | z
            · exact (r1.fd i a h2).2 z
            · rw [show a = L from z] at h2
              exact (r1.fd i L h2).1.ne hL
          · refine ⟨(r'.fd i a h2).1, fun z => (r'.fd i a h2).2 ?_⟩
            rcases z with z | z
            · exact .inl (.inl z)
            · exact .inr z
        · rcases hFe i a h1 with ⟨h1, h3⟩ | ⟨h1, h3⟩ <;> rcases hFe j a h2 with ⟨h2, h4⟩ | ⟨h2, h4⟩
          · exact r1.dj i j a h3 h4
          · exact absurd (.inl (.inr ⟨i, h1, h3⟩)) (r'.fd j a h4).2
          · exact absurd (.inl (.inr ⟨j, h2, h4⟩)) (r'.fd i a h3).2
          · exact r'.dj i j a h3 h4
        · rcases backR_get e with ⟨h1, h2⟩ | ⟨h1, h2⟩
          · obtain ⟨v, q1, q2⟩ := r1.sl i d h2
            refine ⟨v, q1, ?_⟩
            have hF : Fe i = Fs1 i := by show (if i ∈ vs then Fs1 i else Fs' i) = Fs1 i; rw [if_pos h1]
            rw [hF]
            refine Ow.stay (W := fun a => ∃ i, Fb i a) ⟨st.keep, fun a ha => ?_, fun a ⟨j, z⟩ => .inr ⟨j, (hFb j a z).2⟩, fun a z => ?_, fun a z => .inr ⟨i, by rw [hF]; exact z⟩⟩ d v q2
            · exact st.kb a (.inr ⟨i, h1, ha⟩)
            · rcases z with (z | z) | ⟨j, z⟩
              · exact .inl (.inl z)
              · exact .inr (by rw [show a = L from z]; exact hL)
              · rcases hFe j a z with ⟨_, z⟩ | ⟨_, z⟩
                · exact .inl (.inr ⟨j, z⟩)
                · rcases st.old j a z with z | z
                  · exact .inl (.inr ⟨j, (hFb j a z).2⟩)
                  · exact .inr z
          · obtain ⟨v, q1, q2⟩ := r'.sl i d h2
            refine ⟨v, by rw [wipe_at h1] at q1; exact q1, ?_⟩
            have hF : Fe i = Fs' i := by show (if i ∈ vs then Fs1 i else Fs' i) = Fs' i; rw [if_neg h1]
            rw [hF]
            exact Ow.stay (W := A0) ⟨.refl, fun _ _ => rfl, fun _ z => z.elim, fun a z => .inl (oE a z), fun a z => .inr ⟨i, by rw [hF]; exact z⟩⟩ d v q2
      refine p (.ref L) H' Fe FL re ?_ (s1.trans ⟨fun a u e n t => st.keep a u e (fun ⟨j, z⟩ => n ⟨j, (hFb j a z).2⟩) t, fun a z => st.kb a (.inl z), fun j a z => ?_, st.dom⟩) fun a z => ?_
      · show Ow W.C _ H' FL (.dk true ks es) (.ref L)
        unfold Ow
        refine ⟨L, kvs, A0, rfl, hLl, ⟨.inl (.inr rfl), rfl⟩, ⟨fun b z => z.elim, fun z => z⟩, hks, ?_⟩
        exact OwL.stay (W := A0) ⟨.refl, fun _ _ => rfl, fun _ z => z.elim, fun a z => .inl (oE a z), fun a z => z.elim⟩ es _ ow
      · rcases hFe j a z with ⟨_, z⟩ | ⟨_, z⟩
        · exact .inl z
        · rcases st.old j a z with z | z
          · exact .inl (hFb j a z).2
          · exact .inr z
      · rw [show a = L from z]; exact s1.fresh hL
    -- the turns
    refine ⟨fun i m H' => m = ds.length - i ∧ i ≤ ds.length ∧ St i (wipe σ vs) H', ⟨ds.length, by simp, Nat.zero_le _, start⟩, ?_⟩
    rintro i m H' ⟨rfl, hi', st'⟩
    have hk := keepJ st'
    by_cases hlt : i < ds.length
    case neg =>
      have e : i = ds.length := by omega
      subst e
      exact .inl ⟨hw.stops H' (hG H' hk), fin H' st'⟩
    refine .inr ⟨hw.goes i H' hlt (hG H' hk), fun H'' => St (i + 1) (wipe σ vs) H'', fun H'' hN => ⟨ds.length - (i + 1), by omega, rfl, hlt, hN⟩, fun x H2 y => ?_⟩
    obtain ⟨Fs', ρ', ks, es, kvs, _, r', st, hLl, hks, ow, hcf⟩ := st'
    obtain ⟨al, fz2⟩ := hY i H' x H2 ds[i] (by simp [hlt]) hk (hw.yields i H' x H2 hlt (hG H' hk) y)
    have r2 := r'.alc al
    rw [drop_get hlt] at hcf
    have hcf : M.bind (g ds[i]) (fun _ => M.bind t fun b => if b = true then M.bind kl fun k => M.bind vl fun v => (match toKey k with
      | some k => if ks.length < 2 ^ 24 then fun ρ => dcF vs g t kl vl (ds.drop (i + 1)) (putD ks es k (fz v)).1 (putD ks es k (fz v)).2 (wipeR ρ vs) else M.bad
      | none => M.bad) else fun ρ => dcF vs g t kl vl (ds.drop (i + 1)) ks es (wipeR ρ vs)) ρ' = .ok xs ρ2 := hcf
    refine ⟨B1, Fs', ρ', ds[i], r2, fz2 (OO B1 Fs') (fun a z => ?_) r'.ot, ?_⟩
    · rcases z with (z | z) | ⟨j, z⟩
      · exact .inl (oB a (.inl z))
      · exact .inr (by rw [show a = L from z]; exact hL)
      · rcases st.old j a z with z | z
        · exact .inl (oB a (.inr ⟨j, z⟩))
        · exact .inr z
    obtain ⟨u, ρ3, h3, hcf⟩ := bind_ok hcf
    obtain ⟨b, ρ4, h4, hcf⟩ := bind_ok hcf
    rw [h3]
    intro σ3 H3 Fs3 r3 s3 a3
    have a3' : Ag vs (wipe σ vs) σ3 := ⟨a3.1, fun j hj => a3.2 j fun z => hj (his j z)⟩
    have hw3 := wipe_ag a3'
    refine ⟨hw3, B1, Fs3, ρ3, r3, ?_⟩
    rw [h4]
    intro x' H4 Fs4 F4 r4 hb s4 fr4
    obtain ⟨hF4, eb⟩ := hb
    subst eb
    rw [u0 hF4] at r4
    have sAll : Stp Bb Fb Fs4 H1 H4 := ((st.trans (al.stp fun a z => r'.bd a (.inl z))).trans (s3.weak fun a z => .inl z)).trans (s4.weak fun a z => .inl z)
    have L4 : H4 L = some (.dK kvs) := by
      rw [s4.kb L (.inr rfl), s3.kb L (.inr rfl)]
      exact al L _ hLl
    have hst1 : Stp B1 Fs' Fs4 H' H4 := ((al.stp r'.bd).trans s3).trans s4
    have ow4 : FzL W.C (OO B1 Fs4) H4 es (kvs.map (·.2)) := fzL_stp hst1 ow
    cases b with
    | false =>
      rw [if_neg Bool.false_ne_true] at hcf ⊢
      exact ⟨_, _, ks, es, kvs, rfl, by have q := r4.wipe hfree; rw [hw3] at q; exact q, sAll.trans stp_wipe, L4, hks, fzL_stp (stp_wipe (B := B1)) ow4, hcf⟩
    | true =>
      rw [if_pos rfl] at hcf ⊢
      obtain ⟨kd, ρ5, h5, hcf⟩ := bind_ok hcf
      obtain ⟨vd, ρ6, h6, hcf⟩ := bind_ok hcf
      refine ⟨B1, Fs4, ρ4, r4, ?_⟩
      rw [h5]
      intro yv H5 Fs5 F5 r5 ow5 s5 fr5
      have r5' := r5.drop
      have k5 := tmp_fz r5 ow5 fun a ha z => (r4.bd a z).ne (fr5 a ha)
      refine ⟨B1, Fs5, ρ5, r5', ?_⟩
      rw [h6]
      intro zv H6 Fs6 F6 r6 ow6 s6 fr6
      have r6' := r6.drop
      have v6 := tmp_fz r6 ow6 fun a ha z => (r5'.bd a z).ne (fr6 a ha)
      cases hk : toKey kd with
      | none => rw [hk] at hcf; cases hcf
      | some key =>
      rw [hk] at hcf
      simp only at hcf
      by_cases hsz : ks.length < 2 ^ 24
      case neg => rw [if_neg hsz] at hcf; cases hcf
      rw [if_pos hsz] at hcf
      have L5 : H6 L = some (.dK kvs) := by rw [s6.kb L (.inr rfl), s5.kb L (.inr rfl)]; exact L4
      have hkv : yv = kV key := by
        have : toKey (fz kd) = some key := by
          cases kd <;> simp only [toKey] at hk <;> first | (simp only [fz, toKey]; exact hk) | cases hk
        exact fz_key k5 this
      have e6 : FzL W.C (OO B1 Fs6) H6 es (kvs.map (·.2)) := fzL_stp s6 (fzL_stp s5 ow4)
      obtain ⟨n1, n2⟩ := fzL_put (k := key) hks e6 v6
      refine ⟨kvs, key, hkv, L5, by rw [← List.length_map (f := (·.1)), hks, sizeLine_eq]; exact hsz, ?_⟩
      have s56 : Stp Bb Fb Fs6 H1 H6 := (sAll.trans (s5.weak fun a z => .inl z)).trans (s6.weak fun a z => .inl z)
      have r7 := r6'.wipe hfree
      rw [hw3] at r7
      refine ⟨_, _, _, _, putK kvs key zv, rfl, r7.wr (.inr rfl) L5 (fun z => z) True.intro, (s56.trans stp_wipe).upd_new hL fun z => (rb.bd L z).ne hL, upd_same, n1, ?_, hcf⟩
      exact fzL_upd (.inl (.inr rfl)) (fzL_stp (stp_wipe (B := B1)) n2)
theorem de_dc {kx vx tg iter : Expr} {ifs : List Expr} {scope : Scope} {own : List (Str × Nat)} {pos : Pos} {it : M (List D)} {is : List Nat} {g : D → M Unit} {t : M Bool} {kl vl : M D} (hc : X.calm = true) (hN : X.N.Nodup) (hi : DI W E X tg iter it) (ok : BlkOk X.N X.env.scope scope own) (his : ∀ j ∈ is, j ∈ own.map (·.2)) (hfree : ∀ j ∈ own.map (·.2), free W j)
    (hg : ∀ (s : Shared) (H : Hp) (C : Addr) (cl : List (Str × Addr)) (fp : List Addr), DG W (X.blk s H scope (compEnvC scope cl C X.env) fp) tg is g) (nx : NoX g)
    (ht : ∀ (s : Shared) (H : Hp) (C : Addr) (cl : List (Str × Addr)) (fp : List Addr), DTs W E0 (X.blk s H scope (compEnvC scope cl C X.env) fp) ifs t)
    (hk : ∀ (s : Shared) (H : Hp) (C : Addr) (cl : List (Str × Addr)) (fp : List Addr), DE W E0 (X.blk s H scope (compEnvC scope cl C X.env) fp) kx kl)
    (he : ∀ (s : Shared) (H : Hp) (C : Addr) (cl : List (Str × Addr)) (fp : List Addr), DE W E0 (X.blk s H scope (compEnvC scope cl C X.env) fp) vx vl) (hs : ∀ x, foldedSetIterable iter X.env x = Pure.pure x := by intro _; rfl) :
    DE W E X (.DictComp kx vx [⟨tg, iter, ifs, 0⟩] scope pos) (dcE (own.map (·.2)) it g t kl vl) :=
  mnE (pe_dc hc hN hi ok hg ht hk he hs) fun σ H Q h => dc_rd his hfree nx h
end
end DL
end

section
set_option Elab.async false
set_option linter.all false
set_option maxRecDepth 100000
set_option maxHeartbeats 2000000
/-! E3: more operators and methods. -/
namespace DL
open PySem PySem.Spec PyProof.Rows L2 HT
/-! ### t += u -/
theorem iadd_roadT {M : Model} {A : Around} {E : Value → Shared → Prop} {s : Shared} {a b : Value} {Q : Value → Shared → Prop} (ha : s.TypeIs a "tuple") (hb : s.TypeIs b "tuple") (hc : wpAny M A (call (.builtin "tuple.__add__") [a, b]) Q E s) : wpAny M A (inplaceOp .Add a b) Q E s := by
  have hsl : typeLookup (.type "tuple") (dunderI "add") = pure none := by rw [typeLookup_type, builtinLookup_eq_fast]; kernel_rfl
  have hfi : fillsInplaceSlot (.type "tuple") "add" (Operator.Add == .Add) = pure false := by
    unfold fillsInplaceSlot
    show (typeLookup (.type "tuple") (dunderI "add") >>= fun fi => _) = pure false
    rw [hsl]
    rfl
  have hsi : seqSlot? (.type "tuple") (dunderI "add") = pure none := by
    unfold seqSlot?
    rw [hsl]
    rfl
  unfold inplaceOp
  refine wpAny_holding ?_
  refine wpAny_bind (wpAny_typeOf ha (wpAny_bind (wpAny_of_eq hfi ?_)))
  show wpAny M A (if false = true then _ else _) Q E s
  rw [if_neg Bool.false_ne_true]
  refine wpAny_bind (wpAny_binaryOp1_none (nm := "add") ha hb noFill_tuple_add ?_)
  refine wpAny_bind (wpAny_of_eq hsi ?_)
  refine wpAny_bind (wpAny_of_eq seq_tuple_add ?_)
  exact wpAny_bind (wpAny_rule hc)
end DL
end

section
set_option Elab.async false
set_option linter.all false
set_option maxRecDepth 100000
set_option maxHeartbeats 2000000
/-! E3: more operators and methods. -/
namespace DL
open PySem PySem.Spec PyProof.Rows L2 HT
section
variable {prog : Program} {w : World} {A : Around} {E : Value → Shared → Prop} {s : Shared}
theorem icat_tup0 {t b : Addr} {ws : List Value} {Q : Value → Shared → Prop} (ht : IsTup s.heap t ([] : List Value).toArray) (hb : IsTup s.heap b ws.toArray) (h : Q (.ref b) s) : wpAny (model prog w) A (inplaceOp .Add (.ref t) (.ref b)) Q E s := by
  obtain ⟨⟨cls, dd, data, sl⟩, ho, hc, n, hd⟩ := id ht
  obtain ⟨⟨cls2, dd2, data2, sl2⟩, ho2, hc2, n2, hd2⟩ := id hb
  simp only at hc hd hc2 hd2
  subst hc hd hc2 hd2
  exact iadd_roadT ⟨_, ho, rfl⟩ ⟨_, ho2, rfl⟩ (call_meets PySem.F.slot_tuple_add ⟨_, ho, rfl⟩ PySem.F.entry_tuple_add (PySem.F.args_tuple_add_2 _ _)
    (tuple_addW0 t b ([] : List Value).toArray ws.toArray n n2 dd dd2 sl sl2 (by simp)) ⟨ho, ho2, h⟩)
theorem icat_tup {t b : Addr} {vs ws : List Value} {Q : Value → Shared → Prop} (ht : IsTup s.heap t vs.toArray) (hb : IsTup s.heap b ws.toArray) (hv : vs ≠ [])
    (h1 : ws = [] → Q (.ref t) s) (h2 : ws ≠ [] → Q (.ref s.heap.objs.size) { s with heap := s.heap.push { cls := .type "tuple", data := .seq (vs ++ ws).toArray } })
    (hsz : vs.length + ws.length ≤ sizeLine) : wpAny (model prog w) A (inplaceOp .Add (.ref t) (.ref b)) Q E s := by
  obtain ⟨⟨cls, dd, data, sl⟩, ho, hc, n, hd⟩ := id ht
  obtain ⟨⟨cls2, dd2, data2, sl2⟩, ho2, hc2, n2, hd2⟩ := id hb
  simp only at hc hd hc2 hd2
  subst hc hd hc2 hd2
  have e : vs.toArray ++ ws.toArray = (vs ++ ws).toArray := by simp
  by_cases hw : ws = []
  · exact iadd_roadT ⟨_, ho, rfl⟩ ⟨_, ho2, rfl⟩ (call_meets PySem.F.slot_tuple_add ⟨_, ho, rfl⟩ PySem.F.entry_tuple_add (PySem.F.args_tuple_add_2 _ _)
      (tuple_addW1 t b vs.toArray ws.toArray n n2 dd dd2 sl sl2 (by simpa using hv) (by simp [hw])) ⟨ho, ho2, h1 hw⟩)
  · refine iadd_roadT ⟨_, ho, rfl⟩ ⟨_, ho2, rfl⟩ (call_meets PySem.F.slot_tuple_add ⟨_, ho, rfl⟩ PySem.F.entry_tuple_add (PySem.F.args_tuple_add_2 _ _)
      (tuple_addW2 t b vs.toArray ws.toArray n n2 dd dd2 sl sl2 (by simpa using hv) (by simpa using hw) (by rw [List.size_toArray, List.size_toArray]; exact hsz)) ⟨ho, ho2, ?_⟩)
    rw [e]
    exact h2 hw
end
section
variable {X : Cx}
theorem iop_catA : OpR X (inplaceOp .Add) (rCatA X.K) := by
  intro pins s σ H x y v u Q I rx ry h
  obtain ⟨a, b, xs, ys, rfl, rfl, ha, hb, hz, q0, q1, q2⟩ := h
  cases rx
  cases ry
  obtain ⟨its, r1, p1, _⟩ := I.tuple ha
  obtain ⟨its2, r2, p2, _⟩ := I.tuple hb
  by_cases hx : xs = []
  · subst hx
    cases r1
    exact icat_tup0 p1 p2 ⟨.ref b, H, I, rfl, q0 rfl⟩
  · refine icat_tup p1 p2 (fun z => hx (r1.nil_iff.mp z)) (fun z => ⟨.ref a, H, I, rfl, q1 hx (r2.nil_iff.mp z)⟩) (fun z => ?_) (by rw [← r1.length, ← r2.length]; exact hz)
    refine ⟨.ref s.heap.objs.size, _, I.laid (t' := s.toks) (o := .tup (xs ++ ys)) (fun b ob q => Heap.get?_push_of_some _ q) (Nat.le_refl _) ?_, rfl, q2 hx (fun w => z (r2.nil_iff.mpr w)) _ (I.hok.fresh (Nat.le_refl _))⟩
    exact ⟨by rw [List.length_append]; exact hz, _, r1.append r2, IsTup.new _ _⟩
/-! ### known tuples -/
theorem call_tupleP : CallR X (.type "tuple") (fun xs H Q => ∃ p ys, xs = [.ref p] ∧ SqL X.K H p ys ∧ ∀ (l : Addr) (ob : Obj), H l = none → ob.dict = none → Q (.ref l) (upd H l (.frz ob (.tup ys)))) := by
  intro pins s σ H xs us Q I r h
  obtain ⟨p, ys, rfl, hq, q⟩ := h
  obtain ⟨u, rfl, rx⟩ := vals1 r
  cases rx
  obtain ⟨its, r', pl, hz⟩ := I.list hq
  have hlen := r'.length
  refine call_tuple_list pl.isList (fun h' kp => ?_) (by simp only [List.size_toArray] <;> omega)
  have I1 : Inv X pins σ H { s with heap := h' } := I.kept (t' := s.toks) kp
  have I2 : Inv X pins σ (upd H h'.objs.size (.frz { cls := .type "tuple", data := .seq its.toArray } (.tup ys))) { s with heap := h'.push { cls := .type "tuple", data := .seq its.toArray } } :=
    I1.laid (t' := s.toks) (fun b o e => Heap.get?_push_of_some _ e) (Nat.le_refl _) (show ObjOk X.prog X.w _ _ _ (.frz _ (.tup ys)) from ⟨Heap.get?_push_size _ rfl, hz, its, r', IsTup.new _ _⟩)
  exact ⟨.ref h'.objs.size, _, I2, rfl, q _ _ (I1.hok.fresh (Nat.le_refl _)) rfl⟩
end
theorem Res.ptup {C O H} {p : Addr} {ob : Obj} {ds : List D} {vs : List V} (hp : H p = none) (h : FzL C O H ds vs) (hO : ¬ O p) (hd : ob.dict = none) : Res C O H (.ptup ds) (.ref p) (upd H p (.frz ob (.tup vs))) := by
  refine ⟨alc_new hp, A0, fun a z => z.elim, fun a z => z.elim, ?_⟩
  unfold Ow
  exact ⟨p, vs, ob, rfl, upd_same, hd, fun z => z.elim hO id, fzU h (alc_new hp) fun a z => z.elim⟩
def dTupP : List D → Option D
  | [.lst _ ds] => some (.ptup ds)
  | _ => none
theorem sp_tupP {C : CN} {K : PySem.W.Frag} : SpN C (fun xs H Q => ∃ p ys, xs = [.ref p] ∧ SqL K H p ys ∧ ∀ (l : Addr) (ob : Obj), H l = none → ob.dict = none → Q (.ref l) (upd H l (.frz ob (.tup ys)))) dTupP := fun O H ds vs d Q ot hp e q => by
  unfold dTupP at e
  split at e
  · obtain ⟨v, rfl, h⟩ := pair1 hp
    cases e
    obtain ⟨a, vs, rfl, h1, h2⟩ := h
    exact ⟨a, vs, rfl, SqL.of h1, fun p ob hp hd => q _ _ (Res.ptup hp h2 (ot.new hp) hd)⟩
  · cases e
section
variable {W : Dx} {E : XK} {X : Cx}
/-- name op= e, by a new value -/
theorem ds_augB {i : Nat} {x : Str} {e : Expr} {mo : M Tk} {op : Operator} {r : R2} {g : D → D → Option D} {pos pos' : Pos} (ho : OpR X (inplaceOp op) r) (hr : Sp2 W.C r g) (hN : X.N.Nodup) (hi : X.N[i]? = some x) (hx : Loc X.env.scope x) (hp : free W i) (he : DK W E X e mo) (hf : X.fn x = true ∨ X.env.scope.names.lookup x = some .local := by first | exact .inl rfl | exact .inr rfl | assumption) :
    DS W E X (.AugAssign (.Name x pos') op e pos) (setS i (op2 g (nameK i) mo)) :=
  mnS (ps_aug hN hi hx he ho hf) fun D σ H h => by
    have h1 := bin_rd hr (set_rd hp h)
    obtain ⟨B, Fs, ρ, r, p⟩ := h1
    unfold nameK at p
    cases he : ρ[i]? with
    | none => rw [he] at p; exact p.elim
    | some o =>
      cases o with
      | none => rw [he] at p; exact p.elim
      | some d =>
        rw [he] at p
        obtain ⟨v, e1, e2⟩ := r.sl i d he
        exact ⟨v, e1, Post.pure (R := TkR W) r ⟨fun _ z => z, e1⟩ p⟩
/-! ### t.index(z), t known, of texts -/
theorem pe_bmP {T id : String} {name : Str} {r : V → List V → Hp → VK → Prop} {o e : Expr} {es : List Expr} {to : TE} {t : TA} {apos cpos : Pos} (hT : T = "tuple") (pa : PlainAttrs T) (slot : Slot T name id) (hty : typeOf (.builtin id) = pure (.type "method_descriptor")) (hm : MtR X id r) (ho : PE X o to) (ha : PA X (e :: es) t)
    (hbase : attributeBase o name X.env (eval o X.env) = eval o X.env := by rfl)
    (hfew : ((backTo cpos (starEach (e :: es) X.env)).all (fun x => !x.1) && (backToKw cpos (keywordEach [] X.env)).all (fun x => x.1.isSome)
      && decide ((e :: es).length + ([] : List Keyword).length + (if ([] : List Keyword).isEmpty then 0 else 1) < 30)) = true := by rfl)
    (hline : (apos.endLine == cpos.line) = true := by rfl) (hs : starEach (e :: es) X.env = (false, eval e X.env) :: starEach es X.env := by rfl) (hplain : (backTo cpos (starEach es X.env)).any (·.1) = false := by rfl) :
    PE X (.Call (.Attribute o name apos) (e :: es) [] cpos) (fun σ H Q => to σ H fun x H1 => (∃ p ob xs, x = .ref p ∧ H1 p = some (.frz ob (.tup xs)) ∧ ob.dict = none) ∧ t σ H1 fun xs H2 => r x xs H2 Q) := by
  subst hT
  refine ⟨fun pins s σ H Q I h => ?_⟩
  refine wpAny_Call_method_late hbase hfew hline rfl (thn (ho.run pins s σ H _ I h) fun v s1 ⟨x, H1, I1, r1, ⟨p, ob, xs, hx, hp, hd⟩, q1⟩ => ?_)
  subst hx
  cases r1
  obtain ⟨e0, _, its, _, o, e1, hc, _⟩ := I1.hok p _ hp
  rw [e0] at e1
  cases e1
  refine ⟨"tuple", id, pa, slot, hty, ⟨ob, e0, hc⟩, fun a e => ?_, ?_⟩
  · cases e
    exact ⟨ob, e0, hd⟩
  have hA := ha.run cpos pins s1 σ H1 _ I1 q1
  rw [hs] at hA ⊢
  refine Calls.callWith_builtin (by show (false || (backTo cpos (starEach es X.env)).any (·.1)) = false; rw [hplain] <;> rfl) (Calls.evalArgs_plain ?_)
  exact thn hA fun us s2 ⟨vs, H2, I2, r2, q2⟩ => hm pins s2 σ H2 (.ref p) vs _ us Q I2 rfl r2 q2
/-- the place of a text -/
def idxS : List Str → Str → Option Nat
  | [], _ => none
  | y :: ys, z => if y = z then some 0 else (idxS ys z).map (· + 1)
theorem idxS_ok : ∀ {ys : List Str} {z : Str} {j : Nat}, idxS ys z = some j → ys[j]? = some z ∧ ∀ m, m < j → ys[m]? ≠ some z
  | [], z, j, h => by cases h
  | y :: ys, z, j, h => by
    unfold idxS at h
    split at h
    · rename_i e
      cases h
      exact ⟨by rw [e]; rfl, fun m hm => absurd hm (Nat.not_lt_zero _)⟩
    · rename_i e
      cases h2 : idxS ys z with
      | none => rw [h2] at h; cases h
      | some k =>
        rw [h2] at h
        cases h
        obtain ⟨h3, h4⟩ := idxS_ok h2
        refine ⟨by simpa using h3, fun m hm => ?_⟩
        cases m with
        | zero => intro z'; exact e (Option.some.inj z')
        | succ m => simpa using h4 m (Nat.lt_of_succ_lt_succ hm)
def ixP (mo : M D) (mk : M Tk) : M D := M.bind mo fun d => match d with
  | .ptup ds => M.bind mk fun t => fun ρ => match t.get ρ with
    | some (.str z) => (match toStrs ds with
      | some ys => (match idxS ys z with
        | some j => .ok (.int (j : Nat)) ρ
        | none => .bad)
      | none => .bad)
    | _ => .bad
  | _ => M.bad
theorem de_ixP {o e : Expr} {mo : M D} {mk : M Tk} {apos cpos : Pos} (ho : DE W E X o mo) (he : DK W E X e mk)
    (hbase : attributeBase o "index" X.env (eval o X.env) = eval o X.env := by rfl)
    (hfew : ((backTo cpos (starEach (e :: []) X.env)).all (fun x => !x.1) && (backToKw cpos (keywordEach [] X.env)).all (fun x => x.1.isSome)
      && decide ((e :: []).length + ([] : List Keyword).length + (if ([] : List Keyword).isEmpty then 0 else 1) < 30)) = true := by rfl)
    (hline : (apos.endLine == cpos.line) = true := by rfl) (hs : starEach (e :: []) X.env = (false, eval e X.env) :: starEach [] X.env := by rfl) (hplain : (backTo cpos (starEach [] X.env)).any (·.1) = false := by rfl) :
    DE W E X (.Call (.Attribute o "index" apos) [e] [] cpos) (ixP mo mk) :=
  mnE (pe_bmP rfl PySem.F.plainAttrs_tuple PySem.F.slot_tuple_index PySem.F.type_tuple_index mt_tup_index ho (pa_cons he pa_nil hs) hbase hfew hline hs hplain) fun σ H Q h => by
    obtain ⟨B, Fs, ρ, r0, p⟩ := h
    refine ⟨B, Fs, ρ, r0, (Post.step (R := DR W) (fun _ z => z) .refl p).mono fun x H1 ⟨Fs1, F1, d, ρ1, _, r1, ow, s1, f1, p1⟩ => ?_⟩
    cases d with
    | ptup ds =>
      have ow : Ow W.C _ H1 F1 (.ptup ds) x := ow
      unfold Ow at ow
      obtain ⟨a, vs, ob, rfl, h1, h2, h3, h4⟩ := ow
      refine ⟨⟨a, ob, vs, rfl, h1, h2⟩, U B F1, Fs1, ρ1, r1, (Post.step (R := TkR W) (fun _ z => .inl z) s1 p1).mono fun y H2 ⟨Fs2, F2, t, ρ2, _, r2, ht, s2, f2, p2⟩ => ?_⟩
      have e2 : U (U B F1) F2 = U B F1 := u0 ht.1
      rw [e2] at r2 ht
      have k1 : H2 a = some (.frz ob (.tup vs)) := by
        rcases s2.keep a _ h1 (fun ⟨i, z⟩ => h3 (.inr ⟨i, z⟩)) (fun z => z) with z | ⟨z, _⟩
        · exact z
        · exact z.elim
      cases hg : t.get ρ2 with
      | none => simp only [hg] at p2; exact p2.elim
      | some k =>
        simp only [hg] at p2
        cases k with
        | str z =>
          simp only at p2
          cases hts : toStrs ds with
          | none => rw [hts] at p2; exact p2.elim
          | some ys =>
            rw [hts] at p2
            simp only at p2
            cases hj : idxS ys z with
            | none => rw [hj] at p2; exact p2.elim
            | some j =>
              rw [hj] at p2
              have hy : y = .str z := ht.get r2 hg
              have hv := toStrs_at h4 hts
              subst hy
              subst hv
              obtain ⟨j1, j2⟩ := idxS_ok hj
              refine ⟨a, ys, z, j, rfl, rfl, .inl (.inr ⟨ob, k1⟩), j1, j2, ?_⟩
              exact p2 _ H2 Fs2 A0 (by have := r2.drop; exact this.u0 fun _ z => z) (by show Ow _ _ _ _ _ _; unfold Ow; rfl) (s1.trans (s2.weak fun a z => .inl z)) fun _ z => z.elim
        | _ => exact p2.elim
    | _ => exact False.elim p1
end
end DL
end

section
set_option Elab.async false
set_option linter.all false
set_option maxRecDepth 100000
set_option maxHeartbeats 2000000
/-! E4: split, min, minus. -/
namespace DL
open PySem PySem.Spec PyProof.Rows L2
def gSplit : D → List D → Option D
  | .str a, [.str b] => if (b.length == 0) = false ∧ a.length + 2 ≤ 2 ^ 24 then some (.lst true ((Txt.split a b).map .str)) else none
  | _, _ => none
theorem sp_split {C : CN} : SpM C (fun x xs H Q => ∃ a b, x = .str a ∧ xs = [.str b] ∧ (b.length == 0) = false ∧ a.length + 2 ≤ sizeLine ∧ rNewStrs (Txt.split a b) H Q) gSplit := fun O H x a ds vs d Q ot hx hp e q => by
  unfold gSplit at e
  split at e
  · rename_i s t
    obtain ⟨v, rfl, h⟩ := pair1 hp
    split at e
    · rename_i hc
      cases e
      have hx' : a = .str s := hx
      have h' : v = .str t := h
      subst hx'
      subst h'
      exact ⟨s, t, rfl, rfl, hc.1, by rw [sz24]; exact hc.2, fun p hp => q _ _ (Res.lst hp (strs_fz _))⟩
    · cases e
  · cases e
def dMin2 : List D → Option D
  | [.int i, .int j] => some (.int (if j < i then j else i))
  | _ => none
theorem sp_min2 {C : CN} : SpN C (fun xs H Q => ∃ i j, xs = [.int i, .int j] ∧ Q (.int (if j < i then j else i)) H) dMin2 := fun O H ds vs d Q ot hp e q => by
  unfold dMin2 at e
  split at e
  · rename_i i j
    obtain ⟨v, w, rfl, h1, h2⟩ := pair2 hp
    cases e
    have h1' : v = .int i := h1
    have h2' : w = .int j := h2
    subst h1'
    subst h2'
    exact ⟨i, j, rfl, q _ _ Res.int⟩
  · cases e
def dNeg : D → Option D
  | .int i => some (.int (-i))
  | _ => none
theorem de_neg {W : Dx} {E : XK} {X : Cx} {e : Expr} {m : M Tk} {pos : Pos} (h : DK W E X e m) : DE W E X (.UnaryOp .USub e pos) (op1 dNeg m) :=
  mnE (pe_un un_neg h) fun σ H Q h => op1_rd (r := fun x H Q => ∃ i, x = .int i ∧ Q (.int (-i)) H) (fun O H x a d Q ot hx e q => by
    cases x with
    | int i =>
      cases e
      have hx' : a = .int i := hx
      exact ⟨i, hx', q _ _ Res.int⟩
    | _ => cases e) h
/-! chains of comparisons -/
theorem spI_lt : SpI (rI0 fun i j => .bl (decide (i < j))) (fun i j => decide (i < j)) := fun i j H Q q => ⟨i, j, rfl, rfl, q⟩
theorem spI_le : SpI (rI0 fun i j => .bl (decide (i ≤ j))) (fun i j => decide (i ≤ j)) := fun i j H Q q => ⟨i, j, rfl, rfl, q⟩
end DL
end

section
set_option Elab.async false
set_option linter.all false
set_option maxRecDepth 100000
set_option maxHeartbeats 2000000
/-! E5: values side by side to names of any kind; raise. -/
namespace DL
open PySem PySem.Spec PyProof.Rows L2
section
variable {W : Dx} {E : XK} {X : Cx}
/-- the names' slots, one behind another -/
def gNamesT (is : List Nat) : TGs := fun vs σ H Q => vs.length = is.length ∧ Q (setL is vs σ) H
theorem pgs_nil' : PGs X [] (gNamesT []) := ⟨fun pins s σ H vs us Q I r h => by
  obtain ⟨e, h⟩ := h
  cases vs with
  | nil => exact pgs_nil.run pins s σ H [] us Q I r ⟨rfl, h⟩
  | cons v vs => cases e⟩
theorem pgs_cons' {i : Nat} {is : List Nat} {x : Str} {pos : Pos} {es : List Expr} (hN : X.N.Nodup) (hi : X.N[i]? = some x) (hx : Loc X.env.scope x) (h2 : PGs X es (gNamesT is)) (hf : X.fn x = true ∨ X.env.scope.names.lookup x = some .local := by first | exact .inl rfl | exact .inr rfl | assumption)
    (hs : (assignEach (.Name x pos :: es) X.env).map (·.2) = assign (.Name x pos) X.env :: (assignEach es X.env).map (·.2) := by rfl) : PGs X (.Name x pos :: es) (gNamesT (i :: is)) := ⟨fun pins s σ H vs us Q I r h => by
  obtain ⟨e, h⟩ := h
  cases vs with
  | nil => cases e
  | cons v vs => exact (pgs_cons (pg_name hN hi hx hf) h2 hs).run pins s σ H (v :: vs) us Q I r ⟨v, vs, rfl, by simpa using e, h⟩⟩
theorem par_rdT {is : List Nat} {ms : M (List D)} {D' : Ends} {σ : L2.St} {H : Hp} (hf : ∀ i ∈ is, free W i) (h : dS W E (parS is ms) D' σ H) : dT W E (LR W) ms σ H fun vs H1 => vs.length = is.length ∧ ∀ p, H1 p = none → D'.nx (setL is vs σ) (upd H1 p (.tup vs)) := by
  have h0 := h
  obtain ⟨B, Fs, ρ, r, p⟩ := h
  obtain ⟨B', Fs', ρ', r', p'⟩ := par_rd hf h0
  refine ⟨B, Fs, ρ, r, ?_⟩
  unfold parS M.bind at p
  cases hm : ms ρ with
  | bad => rw [hm] at p; exact p.elim
  | exc c ρ2 =>
    rw [hm] at p
    exact fun H2 Fs2 r2 s => (show PostS W E B Fs H (.exc c ρ2) D' from p) H2 Fs2 _ r2 s
  | ok ds ρ2 =>
    rw [hm] at p
    intro vs H2 Fs2 F2 r2 ow s fr
    have ow : OwL W.C (OO (U B F2) Fs2) H2 F2 ds vs := ow
    have len : ∀ {is : List Nat} {ds : List D} {ρ : Rho}, PostS W E B Fs H (putL is ds ρ) D' → ds.length = is.length := fun {is} => by
      induction is with
      | nil =>
        intro ds ρ q
        cases ds with
        | nil => rfl
        | cons d ds => exact q.elim
      | cons i is ih =>
        intro ds ρ q
        cases ds with
        | nil => exact q.elim
        | cons d ds =>
          unfold putL at q
          split at q
          · simp [ih q]
          · exact q.elim
    refine ⟨by rw [ow.length]; exact len p, fun a ha => ?_⟩
    have al := alc_new (u := .tup vs) ha
    have r3 := r2.alc al
    have ow3 : OwL W.C (OO (U B F2) Fs2) (upd H2 a (.tup vs)) F2 ds vs := OwL.stay (W := A0) ⟨fun b u e _ _ => .inl (al b u e), fun b hb => by
      obtain ⟨u, e, _⟩ := r2.bd b (.inr hb)
      rw [e]; exact al b u e, fun _ z => z.elim, fun b z => .inl z, fun b z => .inl (.inr z)⟩ ds vs ow
    exact putL_rd hf r3 ow3 (fun a ha z => (r.bd a z).ne (fr a ha)) (s.trans (al.stp fun b z => r2.bd b (.inl z))) fr p
/-- a, b, .. = e1, e2, .., by a tuple -/
theorem ds_parT {is : List Nat} {tgs es : List Expr} {m : M (List D)} {k k2 : Nat} {p1 p2 pos : Pos} (hc : X.calm = true) (hf : ∀ i ∈ is, free W i) (hl : is.length ≤ 1000) (ha : DV W E X es m) (hg : PGs X tgs (gNamesT is))
    (hn : (assignEach tgs X.env).length = is.length := by rfl) (hst : (assignEach tgs X.env).findIdx? (·.1) = none := by rfl)
    (hs : swapsWithSole [.Tuple tgs k p1] (.Tuple es k2 p2) pos.line X.env = Pure.pure false := by rfl) (hw : swappedStores [.Tuple tgs k p1] (.Tuple es k2 p2) X.env = Pure.pure none := by rfl)
    (h1 : (assignEach [.Tuple tgs k p1] X.env).map (·.2) = [assign (.Tuple tgs k p1) X.env] := by rfl) : DS W E X (.Assign [.Tuple tgs k p1] (.Tuple es k2 p2) pos) (parS is m) :=
  mnS (ps_asg (pe_tup ha) (pg_tup hc hg hn hst) hs hw h1) fun D σ H h => by
    obtain ⟨B, Fs, ρ, r, p⟩ := par_rdT hf h
    exact ⟨B, Fs, ρ, r, p.mono fun vs H1 ⟨hv, q⟩ => ⟨by rw [hv, sz24]; omega, fun a ha => ⟨a, vs, rfl, SqT.of upd_same, hv, hv, q a ha⟩⟩⟩
end
/-- an exception class of the program's own, at C -/
structure RaiseOk (K : PySem.W.Frag) (mg : Str → Option Value) (x : Str) (C : Addr) : Prop where
  ex : PySem.W.excIn K C [.type "ValueError", .type "Exception", .type "BaseException", .type "object"] "ValueError.__new__" = true
  g : mg x = some (.ref C)
  kp : PySem.W.keepIn K (.ref C) = true
  sb : PySem.W.subIn K (.ref C) (.type "BaseException") = some true
  ty : PySem.W.typeIn K (.ref C) = some (.type "type")
section
variable {W : Dx} {E : XK} {X : Cx} {cc xx : Nat → Addr} {ts : List Addr} {lam : Option (Addr × Str)}
theorem dc_raise {c : Nat} {x m : Str} {j : Nat} {p p2 pos pos2 : Pos} (R : RaiseOk X.K X.mg x (xx c)) (hW : InW X.K cc xx ts lam W) (hc : X.calm = true) (tk : Takes X fun cls d _ H => E cls d H) (hg : Gl X x := by rfl) (hdb : (x == ("__debug__" : Str)) = false := by decide) :
    DS W E X (.Raise (some (.Call (.Name x p) [.Constant (.str m) j p2] [] pos)) none pos2) (M.exc c) := by
  obtain ⟨l, cs, L, q, e⟩ := hW
  have hC : xx c = W.X c := by
    have : W.bare.X c = xx c := by rw [e]
    exact this.symm
  refine ds_raise (x := x) hc tk ?_
  rw [← hC]
  exact pmk_own PySem.F.excBase_ValueError R.ex R.g R.kp (raises_own R.sb R.ty) hg hdb
end
end DL
end

section
set_option Elab.async false
set_option linter.all false
set_option maxRecDepth 100000
set_option maxHeartbeats 2000000
/-! E6: short names for what is written most. -/
namespace DL
open PySem PySem.Spec PyProof.Rows L2
theorem hu65 {k : Nat} {A : Around} (h : Room k A) : A.units + 65 < cLine := by have := h.un; omega
theorem hu64 {k : Nat} {A : Around} (h : Room k A) : A.units + 64 < cLine := by have := h.un; omega
theorem hu1 {k : Nat} {A : Around} (h : Room k A) : A.units + 1 < cLine := by have := h.un; omega
section
variable {W : Dx} {E : XK} {X : Cx} {a b e : Expr} {ma mb : M Tk} {ms : M (List Tk)} {p pos : Pos} {k : Nat}
theorem e_add (ha : DK W E X a ma) (hb : DK W E X b mb) : DE W E X (.BinOp a .Add b pos) (op2 dAdd ma mb) := de_bin op_addA sp_add ha hb
theorem e_sub (ha : DK W E X a ma) (hb : DK W E X b mb) : DE W E X (.BinOp a .Sub b pos) (op2 dSub ma mb) := de_bin op_sub sp_sub ha hb
theorem e_mul (ha : DK W E X a ma) (hb : DK W E X b mb) : DE W E X (.BinOp a .Mult b pos) (op2 dMul ma mb) := de_bin op_mulA sp_mul ha hb
theorem e_mod (ha : DK W E X a ma) (hb : DK W E X b mb) : DE W E X (.BinOp a .Mod b pos) (op2 dMod ma mb) := de_bin op_mod sp_mod ha hb
theorem e_div (ha : DK W E X a ma) (hb : DK W E X b mb) : DE W E X (.BinOp a .FloorDiv b pos) (op2 dDiv ma mb) := de_bin op_fdiv sp_div ha hb
theorem e_pow (ha : DK W E X a ma) (hb : DK W E X b mb) : DE W E X (.BinOp a .Pow b pos) (op2 dPow ma mb) := de_bin op_pow sp_pow ha hb
theorem e_eq (hr : Room k X.A) (ha : DK W E X a ma) (hb : DK W E X b mb) (hm : behindInMarks .Eq b = false := by rfl) : DE W E X (.Compare a [.Eq] [b] pos) (op2 dEq ma mb) := de_cmp (op_eqD (hu64 hr)) sp_eq hm ha hb
theorem e_ne (hr : Room k X.A) (ha : DK W E X a ma) (hb : DK W E X b mb) (hm : behindInMarks .NotEq b = false := by rfl) : DE W E X (.Compare a [.NotEq] [b] pos) (op2 dNe ma mb) := de_cmp (op_neD (hu64 hr)) sp_ne hm ha hb
theorem e_lt (ha : DK W E X a ma) (hb : DK W E X b mb) (hm : behindInMarks .Lt b = false := by rfl) : DE W E X (.Compare a [.Lt] [b] pos) (op2 dLt ma mb) := de_cmp op_lt sp_cmp hm ha hb
theorem e_le (ha : DK W E X a ma) (hb : DK W E X b mb) (hm : behindInMarks .LtE b = false := by rfl) : DE W E X (.Compare a [.LtE] [b] pos) (op2 dLe ma mb) := de_cmp op_le sp_cmp hm ha hb
theorem e_gt (ha : DK W E X a ma) (hb : DK W E X b mb) (hm : behindInMarks .Gt b = false := by rfl) : DE W E X (.Compare a [.Gt] [b] pos) (op2 dGt ma mb) := de_cmp op_gt sp_cmp hm ha hb
theorem e_ge (ha : DK W E X a ma) (hb : DK W E X b mb) (hm : behindInMarks .GtE b = false := by rfl) : DE W E X (.Compare a [.GtE] [b] pos) (op2 dGe ma mb) := de_cmp op_ge sp_cmp hm ha hb
theorem e_in (hr : Room k X.A) (ha : DK W E X a ma) (hb : DK W E X b mb) (hm : behindInMarks .In b = false := by rfl) : DE W E X (.Compare a [.In] [b] pos) (op2 dInA ma mb) := de_cmp (op_inAll (hu65 hr)) sp_inA hm ha hb
theorem e_nin (hr : Room k X.A) (ha : DK W E X a ma) (hb : DK W E X b mb) (hm : behindInMarks .NotIn b = false := by rfl) : DE W E X (.Compare a [.NotIn] [b] pos) (op2 dNinA ma mb) := de_cmp (op_ninAll (hu65 hr)) sp_ninA hm ha hb
theorem e_is (ha : DK W E X a ma) (hb : DK W E X b mb) (hm : behindInMarks .Is b = false := by rfl) : DE W E X (.Compare a [.Is] [b] pos) (op2 dIsN ma mb) := de_cmp op_isN sp_isN hm ha hb
theorem e_isnt (ha : DK W E X a ma) (hb : DK W E X b mb) (hm : behindInMarks .IsNot b = false := by rfl) : DE W E X (.Compare a [.IsNot] [b] pos) (op2 dIsntN ma mb) := de_cmp op_notN sp_isntN hm ha hb
theorem t_eq (hr : Room k X.A) (ha : DK W E X a ma) (hb : DK W E X b mb) (hm : behindInMarks .Eq b = false := by rfl) : DT W E X (.Compare a [.Eq] [b] pos) (toB (op2 dEq ma mb)) := dt_cmp (op_eqD (hu64 hr)) sp_eq hm ha hb
theorem t_ne (hr : Room k X.A) (ha : DK W E X a ma) (hb : DK W E X b mb) (hm : behindInMarks .NotEq b = false := by rfl) : DT W E X (.Compare a [.NotEq] [b] pos) (toB (op2 dNe ma mb)) := dt_cmp (op_neD (hu64 hr)) sp_ne hm ha hb
theorem t_lt (ha : DK W E X a ma) (hb : DK W E X b mb) (hm : behindInMarks .Lt b = false := by rfl) : DT W E X (.Compare a [.Lt] [b] pos) (toB (op2 dLt ma mb)) := dt_cmp op_lt sp_cmp hm ha hb
theorem t_le (ha : DK W E X a ma) (hb : DK W E X b mb) (hm : behindInMarks .LtE b = false := by rfl) : DT W E X (.Compare a [.LtE] [b] pos) (toB (op2 dLe ma mb)) := dt_cmp op_le sp_cmp hm ha hb
theorem t_gt (ha : DK W E X a ma) (hb : DK W E X b mb) (hm : behindInMarks .Gt b = false := by rfl) : DT W E X (.Compare a [.Gt] [b] pos) (toB (op2 dGt ma mb)) := dt_cmp op_gt sp_cmp hm ha hb
theorem t_ge (ha : DK W E X a ma) (hb : DK W E X b mb) (hm : behindInMarks .GtE b = false := by rfl) : DT W E X (.Compare a [.GtE] [b] pos) (toB (op2 dGe ma mb)) := dt_cmp op_ge sp_cmp hm ha hb
theorem t_in (hr : Room k X.A) (ha : DK W E X a ma) (hb : DK W E X b mb) (hm : behindInMarks .In b = false := by rfl) : DT W E X (.Compare a [.In] [b] pos) (toB (op2 dInA ma mb)) := dt_cmp (op_inAll (hu65 hr)) sp_inA hm ha hb
theorem t_nin (hr : Room k X.A) (ha : DK W E X a ma) (hb : DK W E X b mb) (hm : behindInMarks .NotIn b = false := by rfl) : DT W E X (.Compare a [.NotIn] [b] pos) (toB (op2 dNinA ma mb)) := dt_cmp (op_ninAll (hu65 hr)) sp_ninA hm ha hb
theorem t_is (ha : DK W E X a ma) (hb : DK W E X b mb) (hm : behindInMarks .Is b = false := by rfl) : DT W E X (.Compare a [.Is] [b] pos) (toB (op2 dIsN ma mb)) := dt_cmp op_isN sp_isN hm ha hb
theorem t_isnt (ha : DK W E X a ma) (hb : DK W E X b mb) (hm : behindInMarks .IsNot b = false := by rfl) : DT W E X (.Compare a [.IsNot] [b] pos) (toB (op2 dIsntN ma mb)) := dt_cmp op_notN sp_isntN hm ha hb
theorem e_ix (hr : Room k X.A) (ha : DK W E X a ma) (hb : DK W E X b mb) (hs : PlainIx b := by intro _ _; rfl) : DE W E X (.Subscript a b pos) (op2 dSub1 ma mb) := de_ix (op_ixA (hu1 hr)) sp_ixA hs ha hb
theorem b_len (hm : X.mg "len" = none) (ha : DA W E X [e] ms) (hg : Gl X "len" := by rfl) (hs : starEach [e] X.env = (false, eval e X.env) :: starEach [] X.env := by rfl) : DE W E X (.Call (.Name "len" p) [e] [] pos) (opN dLen ms) := de_callB call_lenA sp_len hg hm boot_len ha (he := hs)
theorem b_abs (hm : X.mg "abs" = none) (ha : DA W E X [e] ms) (hg : Gl X "abs" := by rfl) (hs : starEach [e] X.env = (false, eval e X.env) :: starEach [] X.env := by rfl) : DE W E X (.Call (.Name "abs" p) [e] [] pos) (opN dAbs ms) := de_callB call_abs sp_abs hg hm (by decide +kernel) ha (he := hs)
theorem b_int (hm : X.mg "int" = none) (ha : DA W E X [e] ms) (hg : Gl X "int" := by rfl) (hs : starEach [e] X.env = (false, eval e X.env) :: starEach [] X.env := by rfl) : DE W E X (.Call (.Name "int" p) [e] [] pos) (opN dInt ms) := de_callTy call_int1 sp_int hg hm PyProof.Rows.boot_int ha (he := hs)
theorem b_str (hm : X.mg "str" = none) (ha : DA W E X [e] ms) (hg : Gl X "str" := by rfl) (hs : starEach [e] X.env = (false, eval e X.env) :: starEach [] X.env := by rfl) : DE W E X (.Call (.Name "str" p) [e] [] pos) (opN dStr ms) := de_callTy call_str_int sp_str hg hm PyProof.Rows.boot_str ha (he := hs)
theorem b_list (hm : X.mg "list" = none) (ha : DA W E X [e] ms) (hc : X.calm = true := by rfl) (hg : Gl X "list" := by rfl) (hs : starEach [e] X.env = (false, eval e X.env) :: starEach [] X.env := by rfl) : DE W E X (.Call (.Name "list" p) [e] [] pos) (opN dList ms) := de_callTy (call_listA hc) sp_list hg hm PyProof.Rows.boot_list ha (he := hs)
theorem b_tuple (hm : X.mg "tuple" = none) (ha : DA W E X [e] ms) (hg : Gl X "tuple" := by rfl) (hs : starEach [e] X.env = (false, eval e X.env) :: starEach [] X.env := by rfl) : DE W E X (.Call (.Name "tuple" p) [e] [] pos) (opN dTuple ms) := de_callTy call_tuple_of sp_tuple hg hm PyProof.Rows.boot_tuple ha (he := hs)
theorem b_tupP (hm : X.mg "tuple" = none) (ha : DA W E X [e] ms) (hg : Gl X "tuple" := by rfl) (hs : starEach [e] X.env = (false, eval e X.env) :: starEach [] X.env := by rfl) : DE W E X (.Call (.Name "tuple" p) [e] [] pos) (opN dTupP ms) := de_callTy call_tupleP sp_tupP hg hm PyProof.Rows.boot_tuple ha (he := hs)
theorem b_dict (hm : X.mg "dict" = none) (ha : DA W E X [e] ms) (hc : X.calm = true := by rfl) (hg : Gl X "dict" := by rfl) (hs : starEach [e] X.env = (false, eval e X.env) :: starEach [] X.env := by rfl) : DE W E X (.Call (.Name "dict" p) [e] [] pos) (opN dDict ms) := de_callTy (call_dictA hc) sp_dict hg hm PyProof.Rows.boot_dict ha (he := hs)
theorem b_sorted (hr : Room k X.A) (hm : X.mg "sorted" = none) (ha : DA W E X [e] ms) (hc : X.calm = true := by rfl) (hg : Gl X "sorted" := by rfl) (hs : starEach [e] X.env = (false, eval e X.env) :: starEach [] X.env := by rfl) : DE W E X (.Call (.Name "sorted" p) [e] [] pos) (opN dSorted ms) := de_callB (call_sortA hc (hu65 hr)) sp_sort hg hm PyProof.Rows.boot_sorted ha (he := hs)
theorem b_min2 (hm : X.mg "min" = none) (ha : DA W E X [a, b] ms) (hc : X.calm = true := by rfl) (hg : Gl X "min" := by rfl) (hs : starEach [a, b] X.env = (false, eval a X.env) :: starEach [b] X.env := by rfl) (hp : (backTo pos (starEach [b] X.env)).any (·.1) = false := by rfl) : DE W E X (.Call (.Name "min" p) [a, b] [] pos) (opN dMin2 ms) := de_callB (call_min2 hc) sp_min2 hg hm PyProof.Rows.boot_min ha (he := hs) (hpl := hp)
end
end DL
end

section
set_option Elab.async false
set_option linter.all false
set_option maxRecDepth 100000
set_option maxHeartbeats 2000000
/-! E7: more for += and the like; what the head tells. -/
namespace DL
open PySem PySem.Spec PyProof.Rows L2
theorem free_tab {W : Dx} {T : Tb} {i : Nat} (h : free W i) : free (W.tab T) i := h
def dCatI (x y : D) : Option D := match tlD x, tlD y with
  | some xs, some ys => if xs.length + ys.length ≤ 2 ^ 24 then some (catP x y xs ys) else none
  | _, _ => none
theorem sp_catI {C : CN} {K : PySem.W.Frag} : Sp2 C (rCatA K) dCatI := fun O H x y a b d Q ot hx hy e q => by
  unfold dCatI at e
  cases h1 : tlD x with
  | none => rw [h1] at e; cases e
  | some xs =>
    cases h2 : tlD y with
    | none => rw [h1, h2] at e; cases e
    | some ys =>
      rw [h1, h2] at e
      simp only at e
      split at e
      · cases e
        exact cat_ok ot hx hy h1 h2 (by assumption) q
      · cases e
def dMulI : D → D → Option D
  | .int i, .int j => if small i || small j then some (.int (i * j)) else none
  | _, _ => none
theorem sp_mulI {C : CN} : Sp2 C (rI CMul fun i j => .int (i * j)) dMulI := fun O H x y a b d Q ot hx hy e q => by
  cases x <;> cases y <;> simp only [dMulI] at e <;> try (cases e; done)
  rename_i i j
  split at e
  · rename_i hc
    cases e
    have hx' : a = .int i := hx
    have hy' : b = .int j := hy
    refine ⟨i, j, hx', hy', ?_, q _ _ Res.int⟩
    simp only [small, Bool.or_eq_true, Bool.and_eq_true, decide_eq_true_eq] at hc
    exact hc
  · cases e
theorem tt_cs {ts : List Addr} {lam : Option (Addr × Str)} {l : List Addr} {c P : Addr} {cs : List (Addr × Addr)} {H : Hp} (h : (TT ts lam l ((c, P) :: cs)).p H) : H c = some (GX.CodeX c P) := by
  obtain ⟨S, h1, h2, h3, h4⟩ := h
  exact h3 (c, P) List.mem_cons_self
/-- a def as the top has written it: its code object at c -/
structure DefAt (K : PySem.W.Frag) (x qual : Str) (st : Stmt) (f c : Addr) (dV : Value) : Prop where
  ex : ∃ (oc : Value) (od : Option Addr) (kV doc pm : Value) (an : Option Addr) (ct : Value) (osl : Array (Option Value)),
    K.lookup f = some ⟨oc, od, .func (PySem.W.fnOf x qual (defArgs st) (defBody st) (defScope st) dV kV doc pm an (.ref c) ct), osl⟩ ∧ PySem.W.codeIn K (.ref c) qual = true
theorem dv0 {W : Dx} : DfOk W [] [] := fun _ _ => .nil
/-- the promise of a def without defaults -/
theorem Dk.mk0 {P : Program} {w : World} {K : PySem.W.Frag} {mg : Str → Option Value} {base : Heap} {cc xx : Nat → Addr} {ts : List Addr} {lam : Option (Addr × Str)} {x qual : Str} {st : Stmt} {f c : Addr} {N ps : List Str} {k : Nat} {io : List Bool} {m : M Fl}
    (G : DefAt K x qual st f c .none) (S : FnScope N ps (defScope st)) (hps : ps.length = io.length) (hN : ps.length ≤ N.length)
    (hb : ∀ (kV doc pm : Value) (an : Option Addr) (cdv ct : Value) (us : List Value), us.length = ps.length → bindArgs (PySem.W.fnOf x qual (defArgs st) (defBody st) (defScope st) .none kV doc pm an cdv ct) ⟨us, []⟩ = pure (ps.zip us))
    (hbody : ∀ (l : List Addr) (cs : List (Addr × Addr)) (L : Nat → Addr → Addr → Heap → Prop) (q : Str) (A : Around) (outer : List Env) (s : Shared) (H : Hp) (vs : List V) (E : XK), Room k (A.deeper (envOfC qual (defScope st) s.heap.objs.size f (.ref c))) →
      GX.TakesF (cxOf (L2.CX P w) P w K mg base N qual (defScope st) f (.ref c) A outer s H E) E →
      DB ((W0 K cc xx (TT ts lam l cs) L q).at io vs) E (cxOf (L2.CX P w) P w K mg base N qual (defScope st) f (.ref c) A outer s H E) (defBody st) m) :
    Dk P w K mg base cc xx ts lam (k + 1) f ps io (runF io N.length m) [] := by
  obtain ⟨oc, od, kV, doc, pm, an, ct, osl, lk, cd⟩ := G.ex
  exact ⟨_, [], [], Binds.all fun us hl => hb _ _ _ _ _ _ us hl, .nil, fun W => dv0, fun l cs L q => fn_DC lk cd S hps hN fun A outer s H vs E hr tk => hbody l cs L q A outer s H vs E hr tk⟩
end DL
end

section
set_option Elab.async false
set_option linter.all false
set_option maxRecDepth 100000
set_option maxHeartbeats 2000000
/-! E8: the lambdas of a def, by number; min of data. -/
namespace DL
open PySem PySem.Spec PyProof.Rows L2
abbrev Lm := Arguments × PySem.Expr × Scope
def lamsE : Nat → PySem.Expr → List Lm
  | 0, _ => []
  | n + 1, e => match e with
    | .Lambda a b s _ => [(a, b, s)]
    | .Call f as _ _ => lamsE n f ++ as.flatMap (lamsE n)
    | .Compare l _ cs _ => lamsE n l ++ cs.flatMap (lamsE n)
    | .BoolOp _ vs _ => vs.flatMap (lamsE n)
    | .BinOp l _ r _ => lamsE n l ++ lamsE n r
    | .UnaryOp _ x _ => lamsE n x
    | .IfExp c a b _ => lamsE n c ++ lamsE n a ++ lamsE n b
    | .Subscript a b _ => lamsE n a ++ lamsE n b
    | .Attribute a _ _ => lamsE n a
    | .Tuple es _ _ => es.flatMap (lamsE n)
    | .List es _ => es.flatMap (lamsE n)
    | _ => []
def lamsS : Nat → Stmt → List Lm
  | 0, _ => []
  | n + 1, s => match s with
    | .Assign _ v _ => lamsE 20 v
    | .Return (some e) _ => lamsE 20 e
    | .Expr e _ => lamsE 20 e
    | .AugAssign _ _ e _ => lamsE 20 e
    | .If c a b _ => lamsE 20 c ++ a.flatMap (lamsS n) ++ b.flatMap (lamsS n)
    | .For _ i b _ _ => lamsE 20 i ++ b.flatMap (lamsS n)
    | .While c b _ _ => lamsE 20 c ++ b.flatMap (lamsS n)
    | _ => []
def lamsB (b : List Stmt) : List Lm := b.flatMap (lamsS 20)
def noLm : Lm := (⟨[], [], none, [], [], none, []⟩, .Constant .none 0 ⟨0, 0, 0, 0⟩, ⟨.function, [], false, false, []⟩)
def lamL (X : Cx) (lms : List Lm) (i : Nat) : Addr → Addr → Heap → Prop := match lms[i]? with
  | some p => GX.LamF (X.env.qual ++ GX.lamName) p.1 p.2.1 p.2.2 (cloFrom X.env.cells p.2.2.names [])
  | none => fun _ _ _ => False
theorem lamI_at {W : Dx} {X : Cx} {lms : List Lm} {i : Nat} {ps : Arguments} {bd : PySem.Expr} {sc sc0 : Scope} (h : lms[i]? = some (ps, bd, sc)) (hsc : X.env.scope = sc0) (hs : LamX.lamSB sc0 sc = true) : LamI (W.lams (lamL X lms) (X.env.qual ++ GX.lamName)) X i ps bd sc :=
  ⟨rfl, by show lamL X lms i = _; unfold lamL; rw [h], LamX.lamS_by (by rw [hsc, hs])⟩
/-! ### min -/
/-- the place of the first of the least -/
def minAt (x : PyData) (xs : List PyData) : Nat := argBest (fun i j => PySem.W.dataLt ((x :: xs).getD i .none) ((x :: xs).getD j .none)) xs.length
section
open PySem.W
variable {prog : Program} {w : World} {A : Around} {E : Value → Shared → Prop} {s : Shared}
theorem min_list_at {l : Addr} {vs : Array Value} {x : PyData} {xs : List PyData} {as : List Addr} {Q : Value → Shared → Prop} (hh : A.handled = none) (hl : s.heap.IsList l vs) (hr : ReadsAll s.heap vs.toList (x :: xs) as) (ha : AlikeAll (x :: xs)) (hu : A.units + 1 + PyData.depthAll (x :: xs) < cLine)
    (h : ∀ v h' tk, vs[minAt x xs]? = some v → (∀ b o, s.heap.get? b = some o → h'.get? b = some o) → Q v { s with heap := h', toks := tk }) :
    wpAny (model prog w) A (call (.builtin "min") [.ref l]) Q E s := by
  have hn : vs.size = xs.length + 1 := readsAll_len hr
  refine call_min_walkH (iter_listW (A := A.in1) hh hl fun s₂ e W st hfp hw hk => ?_)
  refine ⟨_, _, _, _, _, _, _, s.heap, _, rfl, W, st, hfp, by omega, hw, hk, cmpIn_lt (A := A.in1) hr ha (by show A.units + 1 + _ < _; exact hu), fun v s' hP m => ?_⟩
  obtain ⟨h', tk, rfl, hk'⟩ := moved_old e rfl m
  have e1 : vs.size - 1 = xs.length := by omega
  rw [e1] at hP
  exact h v h' tk hP hk'
end
def minB (ps : List PyData) : Bool := (ps.all fun p => ps.all fun q => PySem.W.alike p q) && (ps.all fun p => match p with | .none => false | _ => true) && decide (PyData.depthAll ps ≤ 60)
def dMin1 : List D → Option D
  | [.lst _ ds] => match toPs ds with
    | some (p :: ps) => if minB (p :: ps) = true then ds[minAt p ps]? else none
    | _ => none
  | _ => none
theorem dpAll_reads {X : Cx} {pins : List (Addr × Obj)} {σ : L2.St} {H : Hp} {s : Shared} (I : Inv X pins σ H s) : ∀ {ws : List V} {us : List Value} {ps : List PyData}, Vals ws us → DpAll X.K H ws ps → ∃ as, ReadsAll s.heap us ps as
  | [], _, _, .nil, .nil => ⟨[], .nil⟩
  | w :: ws, _, _, .cons r rs, .cons h hs => by
    obtain ⟨as, e⟩ := Dp.reads I _ _ _ h r
    obtain ⟨bs, f⟩ := dpAll_reads I rs hs
    exact ⟨_, .cons e f⟩
def rMinD (K : PySem.W.Frag) : List V → Hp → VK → Prop := fun vs H Q => ∃ (a : Addr) (ws : List V) (p : PyData) (ps : List PyData) (v : V), vs = [.ref a] ∧ SqL K H a ws ∧ DpAll K H ws (p :: ps) ∧ minB (p :: ps) = true ∧ ws[minAt p ps]? = some v ∧ Q v H
theorem call_minD {X : Cx} (hc : X.calm = true) (hu : X.A.units + 65 < cLine) : CallR X (.builtin "min") (rMinD X.K) := by
  intro pins s σ H vs us Q I r h
  obtain ⟨a, ws, p, ps, v, rfl, hs, hd, hb, hv, q⟩ := h
  obtain ⟨its, rv, pl, _⟩ := I.list hs
  rw [Vals.ref1 r]
  obtain ⟨as, hr⟩ := dpAll_reads I rv hd
  unfold minB at hb
  simp only [Bool.and_eq_true, List.all_eq_true, decide_eq_true_eq] at hb
  obtain ⟨⟨hb1, hb2⟩, hb3⟩ := hb
  refine min_list_at (I.ok.hd hc) pl.isList (by simpa using hr) ⟨fun x hx y hy => hb1 x hx y hy, fun x hx z => ?_⟩ (by omega) fun u h' tk hu' hk => ?_
  · have := hb2 x hx
    rw [z] at this
    cases this
  · obtain ⟨u', e4, e5⟩ := rv.get hv
    rw [List.getElem?_toArray] at hu'
    rw [e4] at hu'
    cases hu'
    exact ⟨v, H, I.kept hk, e5, q⟩
theorem sp_min1 {C : CN} {K : PySem.W.Frag} : SpN C (rMinD K) dMin1 := fun O H ds vs d Q ot hp e q => by
  unfold dMin1 at e
  split at e
  · rename_i o ds
    obtain ⟨v, rfl, h⟩ := pair1 hp
    split at e
    · rename_i p ps hps
      split at e
      · rename_i hb
        obtain ⟨a, ws, rfl, h1, h2⟩ := h
        obtain ⟨v, hv, hz⟩ := fzL_kids_get h2 e
        exact ⟨a, ws, p, ps, v, rfl, SqL.of h1, toPs_dp _ _ _ h2 hps, hb, hv, q _ _ (Res.same hz)⟩
      · cases e
    · cases e
  · cases e
theorem b_min1 {W : Dx} {E : XK} {X : Cx} {e : PySem.Expr} {ms : M (List Tk)} {p pos : Pos} {k : Nat} (hr : Room k X.A) (hm : X.mg "min" = none) (ha : DA W E X [e] ms) (hc : X.calm = true := by rfl) (hg : Gl X "min" := by rfl) (hs : starEach [e] X.env = (false, eval e X.env) :: starEach [] X.env := by rfl) : DE W E X (.Call (.Name "min" p) [e] [] pos) (opN dMin1 ms) :=
  de_callB (call_minD hc (hu65 hr)) sp_min1 hg hm PyProof.Rows.boot_min ha (he := hs)
end DL
end

section
set_option Elab.async false
set_option linter.all false
set_option maxRecDepth 100000
set_option maxHeartbeats 2000000
/-! E9: defs with defaults. -/
namespace DL
open PySem PySem.Spec PyProof.Rows L2
theorem free_lams {W : Dx} {L : Nat → Addr → Addr → Heap → Prop} {q : Str} {i : Nat} (h : free W i) : free (W.lams L q) i := h
structure DefAtD (K : PySem.W.Frag) (x qual : Str) (st : Stmt) (f c : Addr) (dvs : List V) : Prop where
  ex : ∃ (oc : Value) (od : Option Addr) (T : Addr) (kV doc pm : Value) (an : Option Addr) (ct : Value) (osl : Array (Option Value)),
    K.lookup f = some ⟨oc, od, .func (PySem.W.fnOf x qual (defArgs st) (defBody st) (defScope st) (.ref T) kV doc pm an (.ref c) ct), osl⟩ ∧ PySem.W.codeIn K (.ref c) qual = true ∧ ∃ (o : Obj) (its : List Value) (n : Nat), K.lookup T = some o ∧ o.data = .seq its.toArray n ∧ Vals dvs its
  kp : PySem.W.keepIn K (.ref f) = true
theorem Dk.mkD {P : Program} {w : World} {K : PySem.W.Frag} {mg : Str → Option Value} {base : Heap} {cc xx : Nat → Addr} {ts : List Addr} {lam : Option (Addr × Str)} {x qual : Str} {st : Stmt} {f c : Addr} {N ps : List Str} {k : Nat} {io : List Bool} {m : M Fl} {dvs : List V} {dd : List D}
    (n j : Nat) (G : DefAtD K x qual st f c dvs) (S : FnScope N ps (defScope st)) (hps : ps.length = io.length) (hN : ps.length ≤ N.length) (hd : dvs ≠ []) (hn : n + (dvs.length - j) = ps.length) (hdd : ∀ W, DfOk W dd (dvs.drop j))
    (hb : ∀ (T : Addr) (kV doc pm : Value) (an : Option Addr) (cdv ct : Value) (us its : List Value), us.length = n → its.length = dvs.length →
      ∃ k, bindArgs (PySem.W.fnOf x qual (defArgs st) (defBody st) (defScope st) (.ref T) kV doc pm an cdv ct) ⟨us, []⟩ = seqItems? (.ref T) >>= k ∧ k (some its.toArray) = pure (ps.zip (us ++ its.drop j)))
    (hbody : ∀ (l : List Addr) (cs : List (Addr × Addr)) (L : Nat → Addr → Addr → Heap → Prop) (q : Str) (A : Around) (outer : List Env) (s : Shared) (H : Hp) (vs : List V) (E : XK), Room k (A.deeper (envOfC qual (defScope st) s.heap.objs.size f (.ref c))) →
      GX.TakesF (cxOf (L2.CX P w) P w K mg base N qual (defScope st) f (.ref c) A outer s H E) E →
      DB ((W0 K cc xx (TT ts lam l cs) L q).at io vs) E (cxOf (L2.CX P w) P w K mg base N qual (defScope st) f (.ref c) A outer s H E) (defBody st) m) :
    Dk P w K mg base cc xx ts lam (k + 1) f ps io (runF io N.length m) dd := by
  obtain ⟨oc, od, T, kV, doc, pm, an, ct, osl, lk, cd, o, its, n', hT, hto, hv⟩ := G.ex
  have FD : FunD K x qual (defArgs st) (defBody st) (defScope st) dvs [] f (PySem.W.fnOf x qual (defArgs st) (defBody st) (defScope st) (.ref T) kV doc pm an (.ref c) ct) := ⟨⟨oc, od, .ref T, kV, doc, pm, an, .ref c, ct, osl, rfl, lk, cd, .inr ⟨hd, T, o, its, n', rfl, hT, hto, hv⟩, .inl rfl⟩, G.kp⟩
  obtain ⟨dus, h1, h2⟩ := FD.binds1 n j hd hn hb
  exact ⟨_, dus, _, h2, h1, hdd, fun l cs L q => fn_DC lk cd S hps hN fun A outer s H vs E hr tk => hbody l cs L q A outer s H vs E hr tk⟩
end DL
end

section
set_option Elab.async false
set_option linter.all false
set_option maxRecDepth 100000
set_option maxHeartbeats 2000000
/-! E10: the end. -/
namespace DL
open PySem PySem.Spec PyProof.Rows L2
theorem exm_self {K : PySem.W.Frag} {S : Addr} (h1 : PySem.W.subIn K (.ref S) (.type "BaseException") = some true) (h2 : PySem.W.isClsIn K S = true) (h3 : PySem.W.typeIn K (.ref S) = some (.type "type")) (h4 : PySem.W.subIn K (.ref S) (.ref S) = some true) :
    PySem.W.exmOne K (.ref S) (.ref S) = some true := by
  have e1 : (PySem.W.subIn K (.ref S) (.type "BaseException") == some true) = true := by rw [h1] <;> rfl
  have e2 : ((PySem.W.clsIn K S).isSome && PySem.W.typeIn K (.ref S) == some (.type "type")) = true := by
    have h2' : (PySem.W.clsIn K S).isSome = true := h2
    rw [h2', h3] <;> rfl
  show (if (PySem.W.subIn K (.ref S) (.type "BaseException") == some true) = true then (if ((PySem.W.clsIn K S).isSome && PySem.W.typeIn K (.ref S) == some (.type "type")) = true then PySem.W.subIn K (.ref S) (.ref S) else none) else none) = some true
  rw [if_pos e1, if_pos e2]
  exact h4
theorem bmod_of {base : Heap} {mg : Str → Option Value} {P : Addr} (h : base.BuiltinsAt mg P) : GX.BMod base mg := by
  obtain ⟨bm, o, h1, h2, _, _, h3, h4, h5, h6⟩ := h
  exact ⟨bm, o, h1, h2, h3, h4, h5, h6⟩
/-- the law's promise, at its entry -/
theorem law_sp {K : PySem.W.Frag} {cc xx : Nat → Addr} {T : Tb} {L : Nat → Addr → Addr → Heap → Prop} {q : Str} {F : List D → FO} {ns : List Int} {H : Hp} {a : Addr} (h : ∃ ps, ps.length = 1 ∧ F [.scr ns] = .ok (.bl true) ps) (hS : SqL K H a (ns.map V.int)) (hT : T.p H) :
    spD (W0 K cc xx T L q) [false] F [.ref a] H (fun v _ => v = .bl true) fun _ _ _ => False := by
  obtain ⟨ps, hl, e⟩ := h
  refine ⟨rfl, A0, fun _ => A0, [.scr ns], ⟨rfl, trivial⟩, ⟨fun _ z => z.elim, fun _ _ z => z.elim, fun _ _ _ z => z.elim, fun i d e => ?_, fun p hp => absurd (show p ∈ ([] : List (Nat × V)) from hp) (by simp), rfl, hT⟩, ?_⟩
  · cases i with
    | succ i => simp at e
    | zero =>
      simp at e
      subst e
      refine ⟨.ref a, rfl, ?_⟩
      unfold Ow
      refine ⟨a, rfl, ?_⟩
      rcases hS with hS | hS
      · refine .inl ⟨hS, fun z => ?_⟩
        rcases z with z | ⟨_, z⟩ <;> exact z
      · exact .inr (.inr hS)
  · rw [e]
    intro v H' Fs' F' _ r ow _ _ _
    unfold Ow at ow
    exact ow
end DL
end

section
set_option Elab.async false
set_option linter.all false
set_option maxRecDepth 100000
set_option maxHeartbeats 4000000
namespace K08
open PySem PySem.Spec PyProof.Rows L2 DL
def top (i : Nat) : Stmt := PySem.Challenge.pw_tonguesmith_k08_numbers_as_words.main.body.getD i (.Pass ⟨0, 0, 0, 0⟩)
abbrev st_Numerals_init : Stmt := inClass (top 5) 0
abbrev N_Numerals_init : List Str := ["self", "base", "small", "powers", "order", "link", "one", "words", "word"]
theorem sc_Numerals_init : FnScope N_Numerals_init ["self", "base", "small", "powers", "order", "link", "one"] (defScope st_Numerals_init) := ⟨rfl, rfl, rfl, by decide +kernel, rfl, by decide +kernel, by decide +kernel⟩
abbrev st_Numerals_end : Stmt := inClass (top 5) 1
abbrev N_Numerals_end : List Str := ["self", "found", "power"]
theorem sc_Numerals_end : FnScope N_Numerals_end ["self"] (defScope st_Numerals_end) := ⟨rfl, rfl, rfl, by decide +kernel, rfl, by decide +kernel, by decide +kernel⟩
abbrev st_Numerals_digits : Stmt := inClass (top 5) 2
abbrev N_Numerals_digits : List Str := ["self", "number", "found", "power"]
theorem sc_Numerals_digits : FnScope N_Numerals_digits ["self", "number"] (defScope st_Numerals_digits) := ⟨rfl, rfl, rfl, by decide +kernel, rfl, by decide +kernel, by decide +kernel⟩
abbrev st_Numerals_words : Stmt := inClass (top 5) 3
abbrev N_Numerals_words : List Str := ["self", "number", "parts", "often", "power", "found", "part"]
theorem sc_Numerals_words : FnScope N_Numerals_words ["self", "number"] (defScope st_Numerals_words) := ⟨rfl, rfl, rfl, by decide +kernel, rfl, by decide +kernel, by decide +kernel⟩
abbrev st_Numerals_text : Stmt := inClass (top 5) 4
abbrev N_Numerals_text : List Str := ["self", "number"]
theorem sc_Numerals_text : FnScope N_Numerals_text ["self", "number"] (defScope st_Numerals_text) := ⟨rfl, rfl, rfl, by decide +kernel, rfl, by decide +kernel, by decide +kernel⟩
abbrev st_Numerals_number : Stmt := inClass (top 5) 5
abbrev N_Numerals_number : List Str := ["self", "text", "found", "often", "word", "power", "step"]
theorem sc_Numerals_number : FnScope N_Numerals_number ["self", "text"] (defScope st_Numerals_number) := ⟨rfl, rfl, rfl, by decide +kernel, rfl, by decide +kernel, by decide +kernel⟩
abbrev st_counted : Stmt := top 6
abbrev N_counted : List Str := ["numerals", "first", "many", "step"]
theorem sc_counted : FnScope N_counted ["numerals", "first", "many"] (defScope st_counted) := ⟨rfl, rfl, rfl, by decide +kernel, rfl, by decide +kernel, by decide +kernel⟩
abbrev st_shortest : Stmt := top 7
abbrev N_shortest : List Str := ["rows", "number", "best", "place", "numerals", "many"]
theorem sc_shortest : FnScope N_shortest ["rows", "number"] (defScope st_shortest) := ⟨rfl, rfl, rfl, by decide +kernel, rfl, by decide +kernel, by decide +kernel⟩
abbrev st_law_dice : Stmt := top 9
abbrev N_law_dice : List Str := ["cell"]
theorem sc_law_dice : FnScope N_law_dice ["cell"] (defScope st_law_dice) := ⟨rfl, rfl, rfl, by decide +kernel, rfl, by decide +kernel, by decide +kernel⟩
abbrev st_law_roll : Stmt := top 10
abbrev N_law_roll : List Str := ["dice", "many", "found"]
theorem sc_law_roll : FnScope N_law_roll ["dice", "many"] (defScope st_law_roll) := ⟨rfl, rfl, rfl, by decide +kernel, rfl, by decide +kernel, by decide +kernel⟩
abbrev st_law_rounds : Stmt := top 11
abbrev N_law_rounds : List Str := ["script", "most", "cells", "cell"]
theorem sc_law_rounds : FnScope N_law_rounds ["script", "most"] (defScope st_law_rounds) := ⟨rfl, rfl, rfl, by decide +kernel, rfl, by decide +kernel, by decide +kernel⟩
abbrev st_law_told : Stmt := top 12
abbrev N_law_told : List Str := ["what"]
theorem sc_law_told : FnScope N_law_told ["what"] (defScope st_law_told) := ⟨rfl, rfl, rfl, by decide +kernel, rfl, by decide +kernel, by decide +kernel⟩
abbrev st_law_words : Stmt := top 13
abbrev N_law_words : List Str := ["base", "small", "powers", "order", "link", "one", "number", "parts", "power", "often", "found", "part"]
theorem sc_law_words : FnScope N_law_words ["base", "small", "powers", "order", "link", "one", "number"] (defScope st_law_words) := ⟨rfl, rfl, rfl, by decide +kernel, rfl, by decide +kernel, by decide +kernel⟩
abbrev st_law : Stmt := top 14
abbrev N_law : List Str := ["script", "dice", "told_rows", "k", "base", "many", "small", "powers", "order", "link", "one", "row", "power", "turn", "due", "digits", "left", "pool", "read", "number", "good", "sizes", "bad", "end", "numerals", "rows", "ten", "wild", "f", "j"]
theorem sc_law : FnScope N_law ["script"] (defScope st_law) := ⟨rfl, rfl, rfl, by decide +kernel, rfl, by decide +kernel, by decide +kernel⟩
structure Txt (K : PySem.W.Frag) (mg : Str → Option Value) (base : Heap) (cc xx fa ca ta : Nat → Addr) (ts : List Addr) : Prop where
  cl0 : Cls K (cc 0)
  gc0 : mg "Numerals" = some (.ref (cc 0))
  mk0 : Mk K (cc 0) (fa 0)
  na0_base : NoAttr K (cc 0) "base"
  na0_link : NoAttr K (cc 0) "link"
  na0_one : NoAttr K (cc 0) "one"
  na0_order : NoAttr K (cc 0) "order"
  na0_powers : NoAttr K (cc 0) "powers"
  na0_small : NoAttr K (cc 0) "small"
  me_1 : Meth K (cc 0) "end" (fa 1)
  me_2 : Meth K (cc 0) "digits" (fa 2)
  me_3 : Meth K (cc 0) "words" (fa 3)
  me_4 : Meth K (cc 0) "text" (fa 4)
  me_5 : Meth K (cc 0) "number" (fa 5)
  gd_6 : mg "counted" = some (.ref (fa 6))
  kd_6 : PySem.W.keepIn K (.ref (fa 6)) = true
  gd_7 : mg "shortest" = some (.ref (fa 7))
  kd_7 : PySem.W.keepIn K (.ref (fa 7)) = true
  gd_8 : mg "_law_dice" = some (.ref (fa 8))
  kd_8 : PySem.W.keepIn K (.ref (fa 8)) = true
  gd_9 : mg "_law_roll" = some (.ref (fa 9))
  kd_9 : PySem.W.keepIn K (.ref (fa 9)) = true
  gd_10 : mg "_law_rounds" = some (.ref (fa 10))
  kd_10 : PySem.W.keepIn K (.ref (fa 10)) = true
  gd_11 : mg "_law_told" = some (.ref (fa 11))
  kd_11 : PySem.W.keepIn K (.ref (fa 11)) = true
  gd_12 : mg "_law_words" = some (.ref (fa 12))
  kd_12 : PySem.W.keepIn K (.ref (fa 12)) = true
  gx1 : RaiseOk K mg "WordError" (xx 1)
  te : ∀ c, PySem.W.exmOne K (.ref (xx c)) (.ref (xx 1)) = some true
  hX : ∀ c, PySem.W.subIn K (.ref (xx c)) (.type "StopIteration") = some false
  b_abs : mg "abs" = none
  b_any : mg "any" = none
  b_enumerate : mg "enumerate" = none
  b_int : mg "int" = none
  b_len : mg "len" = none
  b_list : mg "list" = none
  b_min : mg "min" = none
  b_range : mg "range" = none
  b_str : mg "str" = none
  b_tuple : mg "tuple" = none
  k_MOST_BASE : ∃ t, mg "MOST_BASE" = some (.int 60 t)
  bm : GX.BMod base mg
  cd_0 : PySem.W.CodeHd base (ca 0) (ta 0)
  tm_0 : ta 0 ∈ ts
  cd_6 : PySem.W.CodeHd base (ca 6) (ta 6)
  tm_6 : ta 6 ∈ ts
end K08
end

section
set_option Elab.async false
set_option linter.all false
set_option maxRecDepth 100000
set_option maxHeartbeats 8000000
namespace K08
open PySem PySem.Spec PyProof.Rows L2 DL
def s_Numerals_init : M Fl := (seq (setF 0 0 "base" (nameE 1))
  (seq (setF 0 0 "small" (opN dTupP (argK (nameK 2) argK0)))
  (seq (setF 0 0 "powers" (opN dTupP (argK (nameK 3) argK0)))
  (seq (setF 0 0 "order" (nameE 4))
  (seq (setF 0 0 "link" (nameE 5))
  (seq (setF 0 0 "one" (nameE 6))
  (seq (setS 7 (op2 dAdd (toK (op2 dAdd (toK (fldM 0 "small" (nameK 0))) (toK (fldM 0 "powers" (nameK 0))))) (toK (ifV (toB (op2 dNe (nameK 5) (toK (M.pure (.str ""))))) (dispM .tup (argK (toK (nameE 5)) argK0)) (dispM .tup argK0)))))
  (seq (ifS (orB (notB (chainM (fun i j => decide (i ≤ j)) (fun i j => decide (i ≤ j)) (M.pure (.int 2)) (nameE 1) (M.pure (.int 60)))) (orB (toB (op2 dNe (toK (opN dLen (argK (toK (fldM 0 "small" (nameK 0))) argK0))) (nameK 1))) (toB (op2 dNinA (nameK 4) (toK (dispM .tup (argK (toK (M.pure (.str "high"))) (argK (toK (M.pure (.str "low"))) argK0)))))))) (M.exc 1) skip)
  (seq (ifS (andB (toB (op2 dEq (nameK 4) (toK (M.pure (.str "low"))))) (notB (toB (nameE 6)))) (M.exc 1) skip)
  (ifS (orB (toB (gxE [8] (iterM (nameE 7)) (gN 8) (M.pure true) (orV (op2 dEq (nameK 8) (toK (M.pure (.str "")))) (op2 dInA (toK (M.pure (.str " "))) (nameK 8))) (csB true) (finB true))) (toB (op2 dLt (toK (opN dLen (argK (toK (dcE [8] (iterM (nameE 7)) (gN 8) (M.pure true) (nameE 8) (M.pure (.bl true)))) argK0))) (toK (opN dLen (argK (nameK 7) argK0)))))) (M.exc 1) skip))))))))))
def F_Numerals_init : List D → FO := runF [true, false, false, false, false, false, false] 9 s_Numerals_init
def b_Numerals_end_1 : M Fl := (setS 1 (op2 dMulI (nameK 1) (toK (fldM 0 "base" (nameK 0)))))
def s_Numerals_end : M Fl := (seq (setS 1 (fldM 0 "base" (nameK 0)))
  (seq (forS (iterM (fldM 0 "powers" (nameK 0))) (gN 2) b_Numerals_end_1)
  (retS (nameE 1))))
def F_Numerals_end : List D → FO := runF [false] 3 s_Numerals_end
def b_Numerals_digits_1 : M Fl := (seq (ifS (toB (op2 dGt (toK (op2 dMod (nameK 1) (toK (fldM 0 "base" (nameK 0))))) (toK (M.pure (.int 0))))) (setS 2 (op2 dAdd (toK (dispM (.lst true) (argK (toK (dispM .tup (argK (toK (op2 dMod (nameK 1) (toK (fldM 0 "base" (nameK 0))))) (argK (toK (nameE 3)) argK0)))) argK0))) (nameK 2))) skip)
  (seq (setS 1 (op2 dDiv (nameK 1) (toK (fldM 0 "base" (nameK 0)))))
  (augS 3 (toK (M.pure (.int 1))))))
def s_Numerals_digits : M Fl := (seq (parS [2, 3] (vcons (dispM (.lst true) argK0) (vcons (M.pure (.int 0)) (M.pure []))))
  (seq (whileS (toB (op2 dGt (nameK 1) (toK (M.pure (.int 0))))) b_Numerals_digits_1)
  (retS (nameE 2))))
def F_Numerals_digits : List D → FO := runF [false, false] 4 s_Numerals_digits
def b_Numerals_words_1 : M Fl := (ifS (toB (op2 dEq (nameK 4) (toK (M.pure (.int 0))))) (dropS (mutM "list" gApp (nameK 2) (argK (toK (dispM .tup (argK (toK (op2 dSub1 (toK (fldM 0 "small" (nameK 0))) (nameK 3))) argK0))) argK0))) (ifS (andB (toB (op2 dEq (nameK 3) (toK (M.pure (.int 1))))) (notB (toB (fldM 0 "one" (nameK 0))))) (dropS (mutM "list" gApp (nameK 2) (argK (toK (dispM .tup (argK (toK (op2 dSub1 (toK (fldM 0 "powers" (nameK 0))) (toK (op2 dSub (nameK 4) (toK (M.pure (.int 1))))))) argK0))) argK0))) (dropS (mutM "list" gApp (nameK 2) (argK (toK (dispM .tup (argK (toK (op2 dSub1 (toK (fldM 0 "small" (nameK 0))) (nameK 3))) (argK (toK (op2 dSub1 (toK (fldM 0 "powers" (nameK 0))) (toK (op2 dSub (nameK 4) (toK (M.pure (.int 1))))))) argK0)))) argK0)))))
def b_Numerals_words_2 : M Fl := (setS 5 (op2 dCatI (nameK 5) (toK (op2 dAdd (toK (ifV (toB (op2 dNe (toK (fldM 0 "link" (nameK 0))) (toK (M.pure (.str ""))))) (dispM .tup (argK (toK (fldM 0 "link" (nameK 0))) argK0)) (dispM .tup argK0))) (nameK 6)))))
def s_Numerals_words : M Fl := (seq (ifS (notB (chainM (fun i j => decide (i ≤ j)) (fun i j => decide (i < j)) (M.pure (.int 0)) (nameE 1) (methM 0 "end" [false] F_Numerals_end [] (toK (nameE 0)) argK0))) (M.exc 1) skip)
  (seq (ifS (toB (op2 dEq (nameK 1) (toK (M.pure (.int 0))))) (retS (dispM .tup (argK (toK (op2 dSub1 (toK (fldM 0 "small" (nameK 0))) (toK (M.pure (.int 0))))) argK0))) skip)
  (seq (setS 2 (dispM (.lst true) argK0))
  (seq (forS (iterM (methM 0 "digits" [false, false] F_Numerals_digits [] (toK (nameE 0)) (argK (toK (nameE 1)) argK0))) (gT (gsC (gN 3) (gsC (gN 4) gs0))) b_Numerals_words_1)
  (seq (ifS (toB (op2 dEq (toK (fldM 0 "order" (nameK 0))) (toK (M.pure (.str "low"))))) (setS 2 (op1 dRev (nameK 2))) skip)
  (seq (setS 5 (op2 dSub1 (nameK 2) (toK (M.pure (.int 0)))))
  (seq (forS (iterM (sliceM (nameK 2) (partM (toK (M.pure (.int 1)))) (M.pure none))) (gN 6) b_Numerals_words_2)
  (retS (nameE 5)))))))))
def F_Numerals_words : List D → FO := runF [false, false] 7 s_Numerals_words
def s_Numerals_text : M Fl := (retS (opM "str" dJoin (toK (M.pure (.str " "))) (argK (toK (methM 0 "words" [false, false] F_Numerals_words [] (toK (nameE 0)) (argK (toK (nameE 1)) argK0))) argK0)))
def F_Numerals_text : List D → FO := runF [false, false] 2 s_Numerals_text
def b_Numerals_number_1 : M Fl := (setS 5 (op2 dMulI (nameK 5) (toK (fldM 0 "base" (nameK 0)))))
def b_Numerals_number_2 : M Fl := (ifS (toB (op2 dInA (nameK 4) (toK (fldM 0 "small" (nameK 0))))) (seq (augS 2 (toK (ifV (toB (op2 dIsN (nameK 3) (toK (M.pure .non)))) (M.pure (.int 0)) (nameE 3))))
  (setS 3 (ixP (fldM 0 "small" (nameK 0)) (nameK 4)))) (ifS (toB (op2 dInA (nameK 4) (toK (fldM 0 "powers" (nameK 0))))) (seq (setS 5 (M.pure (.int 1)))
  (seq (forS (itN gRng1 (argK (toK (op2 dAdd (toK (ixP (fldM 0 "powers" (nameK 0)) (nameK 4))) (toK (M.pure (.int 1))))) argK0)) (gN 6) b_Numerals_number_1)
  (seq (augS 2 (toK (op2 dMul (toK (ifV (toB (op2 dIsN (nameK 3) (toK (M.pure .non)))) (M.pure (.int 1)) (nameE 3))) (nameK 5))))
  (setS 3 (M.pure .non))))) (ifS (toB (op2 dEq (nameK 4) (toK (fldM 0 "link" (nameK 0))))) (seq (augS 2 (toK (ifV (toB (op2 dIsN (nameK 3) (toK (M.pure .non)))) (M.pure (.int 0)) (nameE 3))))
  (setS 3 (M.pure .non))) (M.exc 1))))
def s_Numerals_number : M Fl := (seq (parS [2, 3] (vcons (M.pure (.int 0)) (vcons (M.pure .non) (M.pure []))))
  (seq (forS (iterM (opM "str" gSplit (nameK 1) (argK (toK (M.pure (.str " "))) argK0))) (gN 4) b_Numerals_number_2)
  (seq (augS 2 (toK (ifV (toB (op2 dIsN (nameK 3) (toK (M.pure .non)))) (M.pure (.int 0)) (nameE 3))))
  (seq (ifS (orB (toB (op2 dGe (nameK 2) (toK (methM 0 "end" [false] F_Numerals_end [] (toK (nameE 0)) argK0)))) (toB (op2 dNe (toK (methM 0 "text" [false, false] F_Numerals_text [] (toK (nameE 0)) (argK (toK (nameE 2)) argK0))) (nameK 1)))) (M.exc 1) skip)
  (retS (nameE 2))))))
def F_Numerals_number : List D → FO := runF [false, false] 7 s_Numerals_number
def s_counted : M Fl := (retS (gxE [3] (itN gRng1 (argK (nameK 2) argK0)) (gN 3) (M.pure true) (methM 0 "text" [false, false] F_Numerals_text [] (toK (nameE 0)) (argK (toK (op2 dAdd (nameK 1) (nameK 3))) argK0)) csTup finTup))
def F_counted : List D → FO := runF [false, false, false] 4 s_counted
def b_shortest_1 : M Fl := (ifS (chainM (fun i j => decide (i ≤ j)) (fun i j => decide (i < j)) (M.pure (.int 0)) (nameE 1) (methM 0 "end" [false] F_Numerals_end [] (toK (nameE 4)) argK0)) (seq (setS 5 (opN dLen (argK (toK (methM 0 "words" [false, false] F_Numerals_words [] (toK (nameE 4)) (argK (toK (nameE 1)) argK0))) argK0)))
  (ifS (orB (toB (op2 dIsN (nameK 2) (toK (M.pure .non)))) (toB (op2 dLt (nameK 5) (toK (op2 dSub1 (nameK 2) (toK (M.pure (.int 0)))))))) (setS 2 (dispM .tup (argK (toK (nameE 5)) (argK (toK (nameE 3)) argK0)))) skip)) skip)
def s_shortest : M Fl := (seq (setS 2 (M.pure .non))
  (seq (forS (itF gEnum (argK (toK (nameE 0)) argK0)) (gT (gsC (gN 3) (gsC (gN 4) gs0))) b_shortest_1)
  (seq (ifS (toB (op2 dIsN (nameK 2) (toK (M.pure .non)))) (M.exc 1) skip)
  (retS (op2 dSub1 (nameK 2) (toK (M.pure (.int 1))))))))
def F_shortest : List D → FO := runF [false, false] 6 s_shortest
def s_law_dice : M Fl := (seq (ifS (chainM (fun i j => decide (i < j)) (fun i j => decide (i < j)) (op2 dSub (toK (M.pure (.int 0))) (toK (M.pure (.int 10)))) (nameE 0) (M.pure (.int 10))) (retS (dispM (.lst true) (argK (toK (opN dAbs (argK (nameK 0) argK0))) (argK (toK (M.pure (.int 0))) (argK (toK (M.pure (.int 2))) argK0))))) skip)
  (retS (dispM (.lst true) (argK (toK (nameE 0)) (argK (toK (op2 dAdd (toK (M.pure (.int 1))) (toK (op2 dMod (toK (opN dInt (argK (nameK 0) argK0))) (toK (M.pure (.int 1009))))))) (argK (toK (opN dInt (argK (toK (op2 dGe (nameK 0) (toK (op2 dPow (toK (M.pure (.int 10))) (toK (M.pure (.int 18))))))) argK0))) argK0))))))
def F_law_dice : List D → FO := runF [false] 1 s_law_dice
def s_law_roll : M Fl := (seq (ifS (orB (toB (op2 dEq (toK (op2 dSub1 (nameK 0) (toK (M.pure (.int 2))))) (toK (M.pure (.int 2))))) (andB (toB (op2 dEq (toK (op2 dSub1 (nameK 0) (toK (M.pure (.int 2))))) (toK (M.pure (.int 1))))) (toB (op2 dGt (toK (op2 dSub1 (nameK 0) (toK (M.pure (.int 0))))) (toK (M.pure (.int 0))))))) (seq (setS 2 (op2 dMod (toK (opN dInt (argK (toK (op2 dSub1 (nameK 0) (toK (M.pure (.int 0))))) argK0))) (nameK 1)))
  (seq (putIx (nameK 0) (toK (M.pure (.int 0))) (op2 dDiv (toK (op2 dSub1 (nameK 0) (toK (M.pure (.int 0))))) (nameK 1)))
  (retS (nameE 2)))) skip)
  (seq (putIx (nameK 0) (toK (M.pure (.int 2))) (M.pure (.int 0)))
  (seq (ifS (toB (op2 dGt (nameK 1) (toK (M.pure (.int 100000000))))) M.bad skip)
  (seq (putIx (nameK 0) (toK (M.pure (.int 0))) (op2 dMod (toK (opN dInt (argK (toK (op2 dAdd (toK (op2 dAdd (toK (op2 dMul (toK (op2 dSub1 (nameK 0) (toK (M.pure (.int 0))))) (toK (M.pure (.int 48271))))) (toK (op2 dMul (toK (op2 dSub1 (nameK 0) (toK (M.pure (.int 1))))) (toK (M.pure (.int 69621))))))) (toK (M.pure (.int 11))))) argK0))) (toK (M.pure (.int 2147483647)))))
  (seq (putIx (nameK 0) (toK (M.pure (.int 1))) (op2 dAdd (toK (op2 dSub1 (nameK 0) (toK (M.pure (.int 1))))) (toK (M.pure (.int 1)))))
  (retS (op2 dMod (toK (opN dInt (argK (toK (op2 dDiv (toK (op2 dSub1 (nameK 0) (toK (M.pure (.int 0))))) (toK (M.pure (.int 7))))) argK0))) (nameK 1))))))))
def F_law_roll : List D → FO := runF [true, false] 3 s_law_roll
def s_law_rounds : M Fl := (seq (setS 2 (sliceM (nameK 0) (M.pure none) (partM (nameK 1))))
  (seq (ifS (toB (op2 dEq (nameK 2) (toK (dispM (.lst true) argK0)))) (setS 2 (dispM (.lst true) (argK (toK (M.pure (.int 0))) argK0))) skip)
  (retS (compE [3] (iterM (nameE 2)) (gN 3) (M.pure true) (callM [false] F_law_dice [] (argK (toK (nameE 3)) argK0))))))
def F_law_rounds : List D → FO := runF [false, false] 4 s_law_rounds
def b_law_words_1 : M Fl := (seq (setS 9 (op2 dMod (nameK 6) (nameK 0)))
  (seq (ifS (andB (toB (op2 dGt (nameK 9) (toK (M.pure (.int 0))))) (toB (op2 dEq (nameK 8) (toK (M.pure (.int 0)))))) (setS 7 (op2 dAdd (toK (dispM (.lst true) (argK (toK (dispM (.lst true) (argK (toK (op2 dSub1 (nameK 1) (nameK 9))) argK0))) argK0))) (nameK 7))) (ifS (toB (op2 dGt (nameK 9) (toK (M.pure (.int 0))))) (setS 7 (op2 dAdd (toK (dispM (.lst true) (argK (toK (op2 dAdd (toK (op2 dMul (toK (dispM (.lst true) (argK (toK (op2 dSub1 (nameK 1) (nameK 9))) argK0))) (toK (opN dInt (argK (toK (orV (op2 dGt (nameK 9) (toK (M.pure (.int 1)))) (nameE 5))) argK0))))) (toK (dispM (.lst true) (argK (toK (op2 dSub1 (nameK 2) (toK (op2 dSub (nameK 8) (toK (M.pure (.int 1))))))) argK0))))) argK0))) (nameK 7))) skip))
  (parS [6, 8] (vcons (op2 dDiv (nameK 6) (nameK 0)) (vcons (op2 dAdd (nameK 8) (toK (M.pure (.int 1)))) (M.pure []))))))
def b_law_words_2 : M Fl := (setS 10 (op2 dAdd (toK (op2 dAdd (nameK 10) (toK (op2 dMul (toK (dispM (.lst true) (argK (toK (nameE 4)) argK0))) (toK (opN dInt (argK (toK (andV (op2 dNe (nameK 4) (toK (M.pure (.str "")))) (op2 dNe (nameK 10) (toK (dispM (.lst true) argK0))))) argK0))))))) (nameK 11)))
def s_law_words : M Fl := (seq (parS [7, 8] (vcons (dispM (.lst true) argK0) (vcons (M.pure (.int 0)) (M.pure []))))
  (seq (whileS (toB (op2 dGt (nameK 6) (toK (M.pure (.int 0))))) b_law_words_1)
  (seq (setS 7 (ifV (toB (op2 dEq (nameK 3) (toK (M.pure (.str "low"))))) (op1 dRev (nameK 7)) (nameE 7)))
  (seq (setS 10 (dispM (.lst true) argK0))
  (seq (forS (iterM (nameE 7)) (gN 11) b_law_words_2)
  (retS (ifV (toB (op2 dNe (nameK 7) (toK (dispM (.lst true) argK0)))) (nameE 10) (dispM (.lst true) (argK (toK (op2 dSub1 (nameK 1) (toK (M.pure (.int 0))))) argK0)))))))))
def F_law_words : List D → FO := runF [false, false, false, false, false, false, false] 12 s_law_words
def lms_law : List Lm := lamsB (defBody st_law)
def lb_law : Nat → Option (M D) := fun i => [(methM 0 "number" [false, false] F_Numerals_number [] (toK (nameE 24)) (argK (toK (nameE 27)) argK0)),
  (callM [false, false] F_shortest [] (argK (toK (nameE 25)) (argK (toK (nameE 19)) argK0))),
  (methM 0 "words" [false, false] F_Numerals_words [] (toK (nameE 24)) (argK (toK (nameE 23)) argK0)),
  (methM 0 "text" [false, false] F_Numerals_text [] (toK (nameE 24)) (argK (toK (op1 dNeg (toK (M.pure (.int 1))))) argK0)),
  (callM [false, false, false] F_counted [] (argK (toK (nameE 24)) (argK (toK (op2 dSub (nameK 23) (toK (M.pure (.int 1))))) (argK (toK (M.pure (.int 2))) argK0)))),
  (makeM 0 F_Numerals_init [(.str "high"), (.str ""), (.bl false)] (argK (toK (M.pure (.int 1))) (argK (toK (dispM (.lst true) (argK (toK (M.pure (.str "a"))) argK0))) (argK (toK (dispM (.lst true) argK0)) argK0)))),
  (makeM 0 F_Numerals_init [(.str "high"), (.str ""), (.bl false)] (argK (toK (M.pure (.int 61))) (argK (toK (compE [3] (itN gRng1 (argK (toK (M.pure (.int 61))) argK0)) (gN 3) (M.pure true) (opN dStr (argK (nameK 3) argK0)))) (argK (toK (dispM (.lst true) argK0)) argK0)))),
  (makeM 0 F_Numerals_init [(.str "high"), (.str ""), (.bl false)] (argK (toK (M.pure (.int 2))) (argK (toK (dispM (.lst true) (argK (toK (M.pure (.str "a"))) argK0))) (argK (toK (dispM (.lst true) argK0)) argK0)))),
  (makeM 0 F_Numerals_init [(.str "high"), (.str ""), (.bl false)] (argK (toK (M.pure (.int 2))) (argK (toK (dispM (.lst true) (argK (toK (M.pure (.str "a"))) (argK (toK (M.pure (.str "a"))) argK0)))) (argK (toK (dispM (.lst true) argK0)) argK0)))),
  (makeM 0 F_Numerals_init [(.str "high"), (.str ""), (.bl false)] (argK (toK (M.pure (.int 2))) (argK (toK (dispM (.lst true) (argK (toK (M.pure (.str "a"))) (argK (toK (M.pure (.str ""))) argK0)))) (argK (toK (dispM (.lst true) argK0)) argK0)))),
  (makeM 0 F_Numerals_init [(.str "high"), (.str ""), (.bl false)] (argK (toK (M.pure (.int 2))) (argK (toK (dispM (.lst true) (argK (toK (M.pure (.str "a"))) (argK (toK (M.pure (.str "b c"))) argK0)))) (argK (toK (dispM (.lst true) argK0)) argK0)))),
  (makeM 0 F_Numerals_init [(.str "high"), (.str ""), (.bl false)] (argK (toK (M.pure (.int 2))) (argK (toK (dispM (.lst true) (argK (toK (M.pure (.str "a"))) (argK (toK (M.pure (.str "b"))) argK0)))) (argK (toK (dispM (.lst true) (argK (toK (M.pure (.str "a"))) argK0))) argK0)))),
  (makeM 0 F_Numerals_init [(.str ""), (.bl false)] (argK (toK (M.pure (.int 2))) (argK (toK (dispM (.lst true) (argK (toK (M.pure (.str "a"))) (argK (toK (M.pure (.str "b"))) argK0)))) (argK (toK (dispM (.lst true) argK0)) (argK (toK (M.pure (.str "fly"))) argK0))))),
  (makeM 0 F_Numerals_init [(.str ""), (.bl false)] (argK (toK (M.pure (.int 2))) (argK (toK (dispM (.lst true) (argK (toK (M.pure (.str "a"))) (argK (toK (M.pure (.str "b"))) argK0)))) (argK (toK (dispM (.lst true) (argK (toK (M.pure (.str "c"))) argK0))) (argK (toK (M.pure (.str "low"))) argK0))))),
  (makeM 0 F_Numerals_init [(.bl false)] (argK (toK (M.pure (.int 2))) (argK (toK (dispM (.lst true) (argK (toK (M.pure (.str "a"))) (argK (toK (M.pure (.str "b"))) argK0)))) (argK (toK (dispM (.lst true) argK0)) (argK (toK (M.pure (.str "high"))) (argK (toK (M.pure (.str "a"))) argK0)))))),
  (methM 0 "number" [false, false] F_Numerals_number [] (toK (nameE 26)) (argK (toK (M.pure (.str "one one"))) argK0)),
  (methM 0 "number" [false, false] F_Numerals_number [] (toK (nameE 26)) (argK (toK (M.pure (.str "pair"))) argK0)),
  (methM 0 "number" [false, false] F_Numerals_number [] (toK (nameE 26)) (argK (toK (M.pure (.str ""))) argK0)),
  (methM 0 "number" [false, false] F_Numerals_number [] (toK (nameE 26)) (argK (toK (M.pure (.str "no one"))) argK0))][i]?
def b_law_1 : M Fl := (seq (parS [4, 5] (vcons (op2 dAdd (toK (M.pure (.int 2))) (toK (callM [true, false] F_law_roll [] (argK (nameK 1) (argK (toK (M.pure (.int 9))) argK0))))) (vcons (callM [true, false] F_law_roll [] (argK (nameK 1) (argK (toK (M.pure (.int 4))) argK0))) (M.pure []))))
  (seq (parS [6, 7] (vcons (compE [29] (itN gRng1 (argK (nameK 4) argK0)) (gN 29) (M.pure true) (op2 dAdd (toK (M.pure (.str "n"))) (toK (op2 dSub1 (toK (M.pure (.str "abcdefghijk"))) (nameK 29))))) (vcons (compE [29] (itN gRng1 (argK (nameK 5) argK0)) (gN 29) (M.pure true) (op2 dAdd (toK (M.pure (.str "p"))) (toK (op2 dSub1 (toK (M.pure (.str "abc"))) (nameK 29))))) (M.pure []))))
  (seq (parS [8, 9, 10] (vcons (op2 dSub1 (toK (dispM (.lst true) (argK (toK (M.pure (.str "high"))) (argK (toK (M.pure (.str "low"))) argK0)))) (toK (callM [true, false] F_law_roll [] (argK (nameK 1) (argK (toK (M.pure (.int 2))) argK0))))) (vcons (op2 dSub1 (toK (dispM (.lst true) (argK (toK (M.pure (.str ""))) (argK (toK (M.pure (.str "and"))) argK0)))) (toK (callM [true, false] F_law_roll [] (argK (nameK 1) (argK (toK (M.pure (.int 2))) argK0))))) (vcons (op2 dEq (toK (callM [true, false] F_law_roll [] (argK (nameK 1) (argK (toK (M.pure (.int 2))) argK0)))) (toK (M.pure (.int 0)))) (M.pure [])))))
  (seq (setS 10 (orV (nameE 10) (op2 dEq (nameK 8) (toK (M.pure (.str "low"))))))
  (seq (dropS (mutM "list" gApp (nameK 25) (argK (toK (makeM 0 F_Numerals_init [] (argK (toK (nameE 4)) (argK (toK (nameE 6)) (argK (toK (nameE 7)) (argK (toK (nameE 8)) (argK (toK (nameE 9)) (argK (toK (nameE 10)) argK0)))))))) argK0)))
  (dropS (mutM "list" gApp (nameK 2) (argK (toK (dispM .tup (argK (toK (nameE 4)) (argK (toK (nameE 6)) (argK (toK (nameE 7)) (argK (toK (nameE 8)) (argK (toK (nameE 9)) (argK (toK (nameE 10)) argK0)))))))) argK0))))))))
def b_law_2 : M Fl := (setS 23 (op2 dMul (nameK 23) (toK (op2 dSub1 (nameK 11) (toK (M.pure (.int 0)))))))
def b_law_3 : M Fl := (parS [15, 16, 12] (vcons (op2 dAdd (toK (op2 dMul (toK (dispM (.lst true) (argK (toK (dispM .tup (argK (toK (op2 dMod (nameK 16) (toK (op2 dSub1 (nameK 11) (toK (M.pure (.int 0))))))) (argK (toK (nameE 12)) argK0)))) argK0))) (toK (opN dInt (argK (toK (op2 dGt (toK (op2 dMod (nameK 16) (toK (op2 dSub1 (nameK 11) (toK (M.pure (.int 0))))))) (toK (M.pure (.int 0))))) argK0))))) (nameK 15)) (vcons (op2 dDiv (nameK 16) (toK (op2 dSub1 (nameK 11) (toK (M.pure (.int 0)))))) (vcons (op2 dAdd (nameK 12) (toK (M.pure (.int 1)))) (M.pure [])))))
def b_law_4 : M Fl := (seq (setS 19 (callM [true, false] F_law_roll [] (argK (nameK 1) (argK (toK (nameE 23)) argK0))))
  (seq (setS 14 (callM [false, false, false, false, false, false, false] F_law_words [] (argK (toK (op2 dSub1 (nameK 11) (toK (M.pure (.int 0))))) (argK (toK (op2 dSub1 (nameK 11) (toK (M.pure (.int 1))))) (argK (toK (op2 dSub1 (nameK 11) (toK (M.pure (.int 2))))) (argK (toK (op2 dSub1 (nameK 11) (toK (M.pure (.int 3))))) (argK (toK (op2 dSub1 (nameK 11) (toK (M.pure (.int 4))))) (argK (toK (op2 dSub1 (nameK 11) (toK (M.pure (.int 5))))) (argK (toK (nameE 19)) argK0)))))))))
  (seq (ifS (orB (toB (op2 dNe (toK (opN dList (argK (toK (methM 0 "words" [false, false] F_Numerals_words [] (toK (nameE 24)) (argK (toK (nameE 19)) argK0))) argK0))) (nameK 14))) (orB (toB (op2 dNe (toK (methM 0 "text" [false, false] F_Numerals_text [] (toK (nameE 24)) (argK (toK (nameE 19)) argK0))) (toK (opM "str" dJoin (toK (M.pure (.str " "))) (argK (nameK 14) argK0))))) (toB (op2 dNe (toK (methM 0 "number" [false, false] F_Numerals_number [] (toK (nameE 24)) (argK (toK (opM "str" dJoin (toK (M.pure (.str " "))) (argK (nameK 14) argK0))) argK0))) (nameK 19))))) (retS (M.pure (.bl false))) skip)
  (seq (parS [15, 16, 12] (vcons (dispM (.lst true) argK0) (vcons (nameE 19) (vcons (M.pure (.int 0)) (M.pure [])))))
  (seq (whileS (toB (op2 dGt (nameK 16) (toK (M.pure (.int 0))))) b_law_3)
  (ifS (toB (op2 dNe (toK (methM 0 "digits" [false, false] F_Numerals_digits [] (toK (nameE 24)) (argK (toK (nameE 19)) argK0))) (nameK 15))) (retS (M.pure (.bl false))) skip))))))
def b_law_5 : M Fl := (seq (parS [25, 2] (vcons (dispM (.lst true) argK0) (vcons (dispM (.lst true) argK0) (M.pure []))))
  (seq (forS (itN gRng1 (argK (toK (op2 dAdd (toK (M.pure (.int 1))) (toK (callM [true, false] F_law_roll [] (argK (nameK 1) (argK (toK (M.pure (.int 3))) argK0)))))) argK0)) (gN 3) b_law_1)
  (seq (parS [24, 11] (vcons (op2 dSub1 (nameK 25) (toK (M.pure (.int 0)))) (vcons (op2 dSub1 (nameK 2) (toK (M.pure (.int 0)))) (M.pure []))))
  (seq (setS 23 (op2 dSub1 (nameK 11) (toK (M.pure (.int 0)))))
  (seq (forS (iterM (op2 dSub1 (nameK 11) (toK (M.pure (.int 2))))) (gN 12) b_law_2)
  (seq (ifS (toB (op2 dNe (toK (methM 0 "end" [false] F_Numerals_end [] (toK (nameE 24)) argK0)) (nameK 23))) (retS (M.pure (.bl false))) skip)
  (seq (forS (itN gRng1 (argK (toK (M.pure (.int 6))) argK0)) (gN 13) b_law_4)
  (seq (setS 17 (op2 dAdd (toK (op2 dAdd (toK (sliceM (toK (op2 dSub1 (nameK 11) (toK (M.pure (.int 1))))) (M.pure none) (partM (toK (M.pure (.int 3)))))) (toK (op2 dSub1 (nameK 11) (toK (M.pure (.int 2))))))) (toK (dispM (.lst true) (argK (toK (op2 dSub1 (nameK 11) (toK (M.pure (.int 4))))) (argK (toK (M.pure (.str "zz"))) argK0))))))
  (seq (setS 27 (opM "str" dJoin (toK (M.pure (.str " "))) (argK (toK (compE [3] (itN gRng1 (argK (toK (op2 dAdd (toK (M.pure (.int 1))) (toK (callM [true, false] F_law_roll [] (argK (nameK 1) (argK (toK (M.pure (.int 4))) argK0)))))) argK0)) (gN 3) (M.pure true) (op2 dSub1 (nameK 17) (toK (callM [true, false] F_law_roll [] (argK (nameK 1) (argK (toK (opN dLen (argK (nameK 17) argK0))) argK0))))))) argK0)))
  (seq (setS 18 (toldM "WordError" lb_law (M.pure (.fn 0))))
  (seq (setS 20 (ifV (toB (op2 dLe (nameK 23) (toK (M.pure (.int 2000))))) (compE [19] (itN gRng1 (argK (toK (opN dMin2 (argK (nameK 23) (argK (toK (M.pure (.int 2000))) argK0)))) argK0)) (gN 19) (toB (op2 dEq (toK (opM "str" dJoin (toK (M.pure (.str " "))) (argK (toK (callM [false, false, false, false, false, false, false] F_law_words [] (argK (toK (op2 dSub1 (nameK 11) (toK (M.pure (.int 0))))) (argK (toK (op2 dSub1 (nameK 11) (toK (M.pure (.int 1))))) (argK (toK (op2 dSub1 (nameK 11) (toK (M.pure (.int 2))))) (argK (toK (op2 dSub1 (nameK 11) (toK (M.pure (.int 3))))) (argK (toK (op2 dSub1 (nameK 11) (toK (M.pure (.int 4))))) (argK (toK (op2 dSub1 (nameK 11) (toK (M.pure (.int 5))))) (argK (toK (nameE 19)) argK0))))))))) argK0))) (nameK 27))) (nameE 19)) (M.pure .non)))
  (seq (ifS (orB (andB (toB (op2 dIsntN (nameK 20) (toK (M.pure .non)))) (toB (op2 dNe (nameK 18) (toK (op2 dSub1 (toK (op2 dAdd (nameK 20) (toK (dispM (.lst true) (argK (toK (M.pure (.str "WordError"))) argK0))))) (toK (M.pure (.int 0)))))))) (andB (toB (op2 dNe (nameK 18) (toK (M.pure (.str "WordError"))))) (toB (op2 dNe (toK (methM 0 "text" [false, false] F_Numerals_text [] (toK (nameE 24)) (argK (toK (nameE 18)) argK0))) (nameK 27))))) (retS (M.pure (.bl false))) skip)
  (seq (setS 19 (callM [true, false] F_law_roll [] (argK (nameK 1) (argK (toK (M.pure (.int 200))) argK0))))
  (seq (setS 21 (compE [3, 10] (itF gEnum (argK (toK (nameE 2)) argK0)) (gT (gsC (gN 3) (gsC (gN 10) gs0))) (toB (op2 dLt (nameK 19) (toK (methM 0 "end" [false] F_Numerals_end [] (toK (op2 dSub1 (nameK 25) (nameK 3))) argK0)))) (dispM .tup (argK (toK (opN dLen (argK (toK (callM [false, false, false, false, false, false, false] F_law_words [] (argK (toK (op2 dSub1 (nameK 10) (toK (M.pure (.int 0))))) (argK (toK (op2 dSub1 (nameK 10) (toK (M.pure (.int 1))))) (argK (toK (op2 dSub1 (nameK 10) (toK (M.pure (.int 2))))) (argK (toK (op2 dSub1 (nameK 10) (toK (M.pure (.int 3))))) (argK (toK (op2 dSub1 (nameK 10) (toK (M.pure (.int 4))))) (argK (toK (op2 dSub1 (nameK 10) (toK (M.pure (.int 5))))) (argK (toK (nameE 19)) argK0))))))))) argK0))) (argK (toK (nameE 3)) argK0)))))
  (seq (ifS (toB (op2 dNe (toK (toldM "WordError" lb_law (M.pure (.fn 1)))) (toK (ifV (toB (op2 dNe (nameK 21) (toK (dispM (.lst true) argK0)))) (op2 dSub1 (toK (opN dMin1 (argK (nameK 21) argK0))) (toK (M.pure (.int 1)))) (M.pure (.str "WordError")))))) (retS (M.pure (.bl false))) skip)
  (ifS (orB (toB (op2 dNe (toK (dispM (.lst true) (argK (toK (toldM "WordError" lb_law (M.pure (.fn 2)))) (argK (toK (toldM "WordError" lb_law (M.pure (.fn 3)))) (argK (toK (toldM "WordError" lb_law (M.pure (.fn 4)))) argK0))))) (toK (op2 dMul (toK (dispM (.lst true) (argK (toK (M.pure (.str "WordError"))) argK0))) (toK (M.pure (.int 3))))))) (toB (op2 dNe (toK (callM [false, false, false] F_counted [] (argK (toK (nameE 24)) (argK (toK (M.pure (.int 0))) (argK (toK (M.pure (.int 2))) argK0))))) (toK (dispM .tup (argK (toK (methM 0 "text" [false, false] F_Numerals_text [] (toK (nameE 24)) (argK (toK (M.pure (.int 0))) argK0))) (argK (toK (methM 0 "text" [false, false] F_Numerals_text [] (toK (nameE 24)) (argK (toK (M.pure (.int 1))) argK0))) argK0))))))) (retS (M.pure (.bl false))) skip))))))))))))))))
def s_law : M Fl := (seq (forOwn 1 (callM [false, false] F_law_rounds [] (argK (toK (nameE 0)) (argK (toK (M.pure (.int 1))) argK0))) b_law_5)
  (seq (setS 26 (makeM 0 F_Numerals_init [] (argK (toK (M.pure (.int 2))) (argK (toK (dispM (.lst true) (argK (toK (M.pure (.str "no"))) (argK (toK (M.pure (.str "one"))) argK0)))) (argK (toK (dispM (.lst true) (argK (toK (M.pure (.str "pair"))) (argK (toK (M.pure (.str "four"))) argK0)))) (argK (toK (M.pure (.str "high"))) (argK (toK (M.pure (.str ""))) (argK (toK (M.pure (.bl true))) argK0))))))))
  (seq (setS 22 (dispM (.lst true) (argK (toK (M.pure (.fn 5))) (argK (toK (M.pure (.fn 6))) (argK (toK (M.pure (.fn 7))) (argK (toK (M.pure (.fn 8))) (argK (toK (M.pure (.fn 9))) (argK (toK (M.pure (.fn 10))) (argK (toK (M.pure (.fn 11))) (argK (toK (M.pure (.fn 12))) (argK (toK (M.pure (.fn 13))) (argK (toK (M.pure (.fn 14))) (argK (toK (M.pure (.fn 15))) (argK (toK (M.pure (.fn 16))) (argK (toK (M.pure (.fn 17))) (argK (toK (M.pure (.fn 18))) argK0))))))))))))))))
  (seq (ifS (toB (op2 dNe (toK (badM lb_law "WordError" (iterM (nameE 22)))) (toK (dispM (.lst true) argK0)))) (retS (M.pure (.bl false))) skip)
  (retS (andV (op2 dEq (toK (compE [3] (iterM (dispM (.lst true) (argK (toK (M.pure (.int 0))) (argK (toK (M.pure (.int 1))) (argK (toK (M.pure (.int 2))) (argK (toK (M.pure (.int 7))) argK0)))))) (gN 3) (M.pure true) (methM 0 "text" [false, false] F_Numerals_text [] (toK (nameE 26)) (argK (toK (nameE 3)) argK0)))) (toK (dispM (.lst true) (argK (toK (M.pure (.str "no"))) (argK (toK (M.pure (.str "one"))) (argK (toK (M.pure (.str "one pair"))) (argK (toK (M.pure (.str "one four one pair one"))) argK0))))))) (andV (op2 dEq (toK (methM 0 "number" [false, false] F_Numerals_number [] (toK (nameE 26)) (argK (toK (M.pure (.str "one four one"))) argK0))) (toK (M.pure (.int 5)))) (op2 dEq (toK (methM 0 "end" [false] F_Numerals_end [] (toK (nameE 26)) argK0)) (toK (M.pure (.int 8)))))))))))
def F_law : List D → FO := runF [false] 30 (clrF s_law)
end K08
end

section
set_option Elab.async false
set_option linter.all false
set_option maxRecDepth 100000
set_option maxHeartbeats 8000000
namespace K08
open PySem PySem.Spec PyProof.Rows L2 DL
variable {P : Program} {w : World} {K : PySem.W.Frag} {mg : Str → Option Value} {base : Heap} {cc xx fa ca ta : Nat → Addr} {ts : List Addr} {lam : Option (Addr × Str)}
def Body_Numerals_init (P : Program) (w : World) (K : PySem.W.Frag) (mg : Str → Option Value) (base : Heap) (cc xx fa ca : Nat → Addr) (ts : List Addr) (lam : Option (Addr × Str)) : Prop := ∀ (l : List Addr) (cs : List (Addr × Addr)) (L : Nat → Addr → Addr → Heap → Prop) (q : Str) (A : Around) (outer : List Env) (s : Shared) (H : Hp) (vs : List V) (E : XK), Room 1 (A.deeper (envOfC "Numerals.__init__" (defScope st_Numerals_init) s.heap.objs.size (fa 0) (.ref (ca 0)))) → GX.TakesF (cxOf (L2.CX P w) P w K mg base N_Numerals_init "Numerals.__init__" (defScope st_Numerals_init) (fa 0) (.ref (ca 0)) A outer s H E) E → DB ((W0 K cc xx (TT ts lam l cs) L q).at [true, false, false, false, false, false, false] vs) E (cxOf (L2.CX P w) P w K mg base N_Numerals_init "Numerals.__init__" (defScope st_Numerals_init) (fa 0) (.ref (ca 0)) A outer s H E) (defBody st_Numerals_init) s_Numerals_init
theorem body_Numerals_init (T : Txt K mg base cc xx fa ca ta ts)  : Body_Numerals_init P w K mg base cc xx fa ca ts lam := by
  intro l cs L q A outer s H vs E hr tk
  have hW : InW K cc xx ts lam ((W0 K cc xx (TT ts lam l cs) L q).at [true, false, false, false, false, false, false] vs) := ⟨l, cs, L, q, rfl⟩
  exact (db_cons (ds_setF (pv 0) T.cl0 T.na0_base (de_var (pv 1)))
  (db_cons (ds_setF (pv 0) T.cl0 T.na0_small (b_tupP T.b_tuple (da_cons (dk_var (pv 2)) da_nil)))
  (db_cons (ds_setF (pv 0) T.cl0 T.na0_powers (b_tupP T.b_tuple (da_cons (dk_var (pv 3)) da_nil)))
  (db_cons (ds_setF (pv 0) T.cl0 T.na0_order (de_var (pv 4)))
  (db_cons (ds_setF (pv 0) T.cl0 T.na0_link (de_var (pv 5)))
  (db_cons (ds_setF (pv 0) T.cl0 T.na0_one (de_var (pv 6)))
  (db_cons (ds_set sc_Numerals_init.nd rfl (.inl rfl) (free_of (by decide)) (e_add (dk_of (e_add (dk_of (de_fld (dk_var (pv 0)) T.cl0 T.na0_small)) (dk_of (de_fld (dk_var (pv 0)) T.cl0 T.na0_powers)))) (dk_of (de_if (t_ne hr (dk_var (pv 5)) (dk_of de_str)) (de_tup (da_cons (dk_of (de_var (pv 5))) da_nil)) (de_tup da_nil)))))
  (db_cons (ds_if (dt_w (dw_or (dt_not (dt_chain op_le op_le spI_le spI_le de_int (de_var (pv 1)) (de_glob T.k_MOST_BASE.choose_spec rfl ⟨_, rfl⟩))) (dw_or (t_ne hr (dk_of (b_len T.b_len (da_cons (dk_of (de_fld (dk_var (pv 0)) T.cl0 T.na0_small)) da_nil))) (dk_var (pv 1))) (dw_or1 (t_nin hr (dk_var (pv 4)) (dk_of (de_tup (da_cons (dk_of de_str) (da_cons (dk_of de_str) da_nil))))))))) (db_one (dc_raise T.gx1 hW rfl (takes_of rfl rfl rfl rfl))) db_nil)
  (db_cons (ds_if (dt_w (dw_and (t_eq hr (dk_var (pv 4)) (dk_of de_str)) (dw_and1 (dt_not (dt_val (de_var (pv 6))))))) (db_one (dc_raise T.gx1 hW rfl (takes_of rfl rfl rfl rfl))) db_nil)
  (db_one (ds_if (dt_w (dw_or (dt_val (de_gx_any (own := [("word", 8)]) (show GxOk _ _ _ 0 _ _ _ _ _ _ _ _ [("word", 8)] _ [8] _ _ _ from ⟨hr.mono (by decide), T.bm, ⟨blkOk_by (N := N_Numerals_init) (sc := defScope st_Numerals_init) (by decide +kernel), rfl, by decide +kernel, rfl⟩, sc_Numerals_init.nd, tt_gx (.inl T.tm_0), ⟨rfl, .inl T.cd_0⟩, T.hX, tk, (di_any rfl (de_var (pv 7))), (by decide), (by intro j hj; exact (free_of (by revert j hj; decide))), nox_n, (by intro _; rfl), fun E' A4 s4 H4 c' P' fp4 pn4 hr4 tk4 => ⟨(dg_name sc_Numerals_init.nd rfl (.inl rfl) (free_tab (free_of (by decide)))), dts_nil, (de_or (e_eq hr4 (dk_var (pv 8)) (dk_of de_str)) (de_one (e_in hr4 (dk_of de_str) (dk_var (pv 8)))))⟩⟩) rfl T.b_any)) (dw_or1 (t_lt (dk_of (b_len T.b_len (da_cons (dk_of (de_dc (own := [("word", 8)]) rfl sc_Numerals_init.nd (di_any rfl (de_var (pv 7))) (blkOk_by (N := N_Numerals_init) (sc := defScope st_Numerals_init) (by decide +kernel)) (is := [8]) (by decide) (by intro j hj; exact (free_of (by revert j hj; decide))) (fun s5 H5 C5 cl5 fp5 => (dg_name sc_Numerals_init.nd rfl (.inl rfl) (free_of (by decide)))) nox_n (fun s5 H5 C5 cl5 fp5 => dts_nil) (fun s5 H5 C5 cl5 fp5 => (de_var (pv 8))) (fun s5 H5 C5 cl5 fp5 => de_bl))) da_nil))) (dk_of (b_len T.b_len (da_cons (dk_var (pv 7)) da_nil))))))) (db_one (dc_raise T.gx1 hW rfl (takes_of rfl rfl rfl rfl))) db_nil)))))))))))
theorem dk_Numerals_init_0 (D0 : DefAtD K "__init__" "Numerals.__init__" st_Numerals_init (fa 0) (ca 0) [(.str "high"), (.str ""), (.bl false)]) (h : Body_Numerals_init P w K mg base cc xx fa ca ts lam) : Dk P w K mg base cc xx ts lam 2 (fa 0) ["self", "base", "small", "powers", "order", "link", "one"] [true, false, false, false, false, false, false] F_Numerals_init [] :=
  Dk.mkD (k := 1) 7 3 D0 sc_Numerals_init rfl (by decide) (by simp) rfl (fun W => df0) (fun _ _ _ _ _ _ _ us its hl hi => match us, its, hl, hi with | [_, _, _, _, _, _, _], [_, _, _], _, _ => ⟨_, rfl, rfl⟩) h
theorem dk_Numerals_init_1 (D0 : DefAtD K "__init__" "Numerals.__init__" st_Numerals_init (fa 0) (ca 0) [(.str "high"), (.str ""), (.bl false)]) (h : Body_Numerals_init P w K mg base cc xx fa ca ts lam) : Dk P w K mg base cc xx ts lam 2 (fa 0) ["self", "base", "small", "powers", "order", "link", "one"] [true, false, false, false, false, false, false] F_Numerals_init [(.bl false)] :=
  Dk.mkD (k := 1) 6 2 D0 sc_Numerals_init rfl (by decide) (by simp) rfl (fun W => (df1 (fz_c rfl rfl) df0)) (fun _ _ _ _ _ _ _ us its hl hi => match us, its, hl, hi with | [_, _, _, _, _, _], [_, _, _], _, _ => ⟨_, rfl, rfl⟩) h
theorem dk_Numerals_init_2 (D0 : DefAtD K "__init__" "Numerals.__init__" st_Numerals_init (fa 0) (ca 0) [(.str "high"), (.str ""), (.bl false)]) (h : Body_Numerals_init P w K mg base cc xx fa ca ts lam) : Dk P w K mg base cc xx ts lam 2 (fa 0) ["self", "base", "small", "powers", "order", "link", "one"] [true, false, false, false, false, false, false] F_Numerals_init [(.str ""), (.bl false)] :=
  Dk.mkD (k := 1) 5 1 D0 sc_Numerals_init rfl (by decide) (by simp) rfl (fun W => (df1 (fz_c rfl rfl) (df1 (fz_c rfl rfl) df0))) (fun _ _ _ _ _ _ _ us its hl hi => match us, its, hl, hi with | [_, _, _, _, _], [_, _, _], _, _ => ⟨_, rfl, rfl⟩) h
theorem dk_Numerals_init_3 (D0 : DefAtD K "__init__" "Numerals.__init__" st_Numerals_init (fa 0) (ca 0) [(.str "high"), (.str ""), (.bl false)]) (h : Body_Numerals_init P w K mg base cc xx fa ca ts lam) : Dk P w K mg base cc xx ts lam 2 (fa 0) ["self", "base", "small", "powers", "order", "link", "one"] [true, false, false, false, false, false, false] F_Numerals_init [(.str "high"), (.str ""), (.bl false)] :=
  Dk.mkD (k := 1) 4 0 D0 sc_Numerals_init rfl (by decide) (by simp) rfl (fun W => (df1 (fz_c rfl rfl) (df1 (fz_c rfl rfl) (df1 (fz_c rfl rfl) df0)))) (fun _ _ _ _ _ _ _ us its hl hi => match us, its, hl, hi with | [_, _, _, _], [_, _, _], _, _ => ⟨_, rfl, rfl⟩) h
def Body_Numerals_end (P : Program) (w : World) (K : PySem.W.Frag) (mg : Str → Option Value) (base : Heap) (cc xx fa ca : Nat → Addr) (ts : List Addr) (lam : Option (Addr × Str)) : Prop := ∀ (l : List Addr) (cs : List (Addr × Addr)) (L : Nat → Addr → Addr → Heap → Prop) (q : Str) (A : Around) (outer : List Env) (s : Shared) (H : Hp) (vs : List V) (E : XK), Room 0 (A.deeper (envOfC "Numerals.end" (defScope st_Numerals_end) s.heap.objs.size (fa 1) (.ref (ca 1)))) → GX.TakesF (cxOf (L2.CX P w) P w K mg base N_Numerals_end "Numerals.end" (defScope st_Numerals_end) (fa 1) (.ref (ca 1)) A outer s H E) E → DB ((W0 K cc xx (TT ts lam l cs) L q).at [false] vs) E (cxOf (L2.CX P w) P w K mg base N_Numerals_end "Numerals.end" (defScope st_Numerals_end) (fa 1) (.ref (ca 1)) A outer s H E) (defBody st_Numerals_end) s_Numerals_end
theorem body_Numerals_end (T : Txt K mg base cc xx fa ca ta ts)  : Body_Numerals_end P w K mg base cc xx fa ca ts lam := by
  intro l cs L q A outer s H vs E hr tk
  have hW : InW K cc xx ts lam ((W0 K cc xx (TT ts lam l cs) L q).at [false] vs) := ⟨l, cs, L, q, rfl⟩
  exact (db_cons (ds_set sc_Numerals_end.nd rfl (.inl rfl) (free_of (by decide)) (de_fld (dk_var (pv 0)) T.cl0 T.na0_base))
  (db_cons (ds_for (passes_of rfl) rfl (di_any rfl (de_fld (dk_var (pv 0)) T.cl0 T.na0_powers)) (dg_name sc_Numerals_end.nd rfl (.inl rfl) (free_of (by decide))) nox_n (show DB _ _ _ _ b_Numerals_end_1 from (db_one (ds_augB iop_mul sp_mulI sc_Numerals_end.nd rfl (.inl rfl) (free_of (by decide)) (dk_of (de_fld (dk_var (pv 0)) T.cl0 T.na0_base))))))
  (db_one (ds_ret (de_var (pv 1))))))
theorem dk_Numerals_end_0 (D0 : DefAt K "end" "Numerals.end" st_Numerals_end (fa 1) (ca 1) .none) (h : Body_Numerals_end P w K mg base cc xx fa ca ts lam) : Dk P w K mg base cc xx ts lam 1 (fa 1) ["self"] [false] F_Numerals_end [] :=
  Dk.mk0 (k := 0) D0 sc_Numerals_end rfl (by decide) (fun _ _ _ _ _ _ us hl => match us, hl with | [_], _ => rfl) h
def Body_Numerals_digits (P : Program) (w : World) (K : PySem.W.Frag) (mg : Str → Option Value) (base : Heap) (cc xx fa ca : Nat → Addr) (ts : List Addr) (lam : Option (Addr × Str)) : Prop := ∀ (l : List Addr) (cs : List (Addr × Addr)) (L : Nat → Addr → Addr → Heap → Prop) (q : Str) (A : Around) (outer : List Env) (s : Shared) (H : Hp) (vs : List V) (E : XK), Room 0 (A.deeper (envOfC "Numerals.digits" (defScope st_Numerals_digits) s.heap.objs.size (fa 2) (.ref (ca 2)))) → GX.TakesF (cxOf (L2.CX P w) P w K mg base N_Numerals_digits "Numerals.digits" (defScope st_Numerals_digits) (fa 2) (.ref (ca 2)) A outer s H E) E → DB ((W0 K cc xx (TT ts lam l cs) L q).at [false, false] vs) E (cxOf (L2.CX P w) P w K mg base N_Numerals_digits "Numerals.digits" (defScope st_Numerals_digits) (fa 2) (.ref (ca 2)) A outer s H E) (defBody st_Numerals_digits) s_Numerals_digits
theorem body_Numerals_digits (T : Txt K mg base cc xx fa ca ta ts)  : Body_Numerals_digits P w K mg base cc xx fa ca ts lam := by
  intro l cs L q A outer s H vs E hr tk
  have hW : InW K cc xx ts lam ((W0 K cc xx (TT ts lam l cs) L q).at [false, false] vs) := ⟨l, cs, L, q, rfl⟩
  exact (db_cons (ds_par rfl sc_Numerals_digits.nd rfl rfl (by decide) (by intro n hn; exact (free_of (by revert n hn; decide))) rfl rfl (dv_cons (de_lst da_nil) (dv_cons de_int dv_nil)) (by rfl))
  (db_cons (ds_while (passes_of rfl) (t_gt (dk_var (pv 1)) (dk_of de_int)) (show DB _ _ _ _ b_Numerals_digits_1 from (db_cons (ds_if (t_gt (dk_of (e_mod (dk_var (pv 1)) (dk_of (de_fld (dk_var (pv 0)) T.cl0 T.na0_base)))) (dk_of de_int)) (db_one (ds_set sc_Numerals_digits.nd rfl (.inl rfl) (free_of (by decide)) (e_add (dk_of (de_lst (da_cons (dk_of (de_tup (da_cons (dk_of (e_mod (dk_var (pv 1)) (dk_of (de_fld (dk_var (pv 0)) T.cl0 T.na0_base)))) (da_cons (dk_of (de_var (pv 3))) da_nil)))) da_nil))) (dk_var (pv 2))))) db_nil)
  (db_cons (ds_augB iop_fdiv sp_div sc_Numerals_digits.nd rfl (.inl rfl) (free_of (by decide)) (dk_of (de_fld (dk_var (pv 0)) T.cl0 T.na0_base)))
  (db_one (ds_aug sc_Numerals_digits.nd rfl (.inl rfl) (free_of (by decide)) (dk_of de_int)))))))
  (db_one (ds_ret (de_var (pv 2))))))
theorem dk_Numerals_digits_0 (D0 : DefAt K "digits" "Numerals.digits" st_Numerals_digits (fa 2) (ca 2) .none) (h : Body_Numerals_digits P w K mg base cc xx fa ca ts lam) : Dk P w K mg base cc xx ts lam 1 (fa 2) ["self", "number"] [false, false] F_Numerals_digits [] :=
  Dk.mk0 (k := 0) D0 sc_Numerals_digits rfl (by decide) (fun _ _ _ _ _ _ us hl => match us, hl with | [_, _], _ => rfl) h
def Body_Numerals_words (P : Program) (w : World) (K : PySem.W.Frag) (mg : Str → Option Value) (base : Heap) (cc xx fa ca : Nat → Addr) (ts : List Addr) (lam : Option (Addr × Str)) : Prop := ∀ (l : List Addr) (cs : List (Addr × Addr)) (L : Nat → Addr → Addr → Heap → Prop) (q : Str) (A : Around) (outer : List Env) (s : Shared) (H : Hp) (vs : List V) (E : XK), Room 1 (A.deeper (envOfC "Numerals.words" (defScope st_Numerals_words) s.heap.objs.size (fa 3) (.ref (ca 3)))) → GX.TakesF (cxOf (L2.CX P w) P w K mg base N_Numerals_words "Numerals.words" (defScope st_Numerals_words) (fa 3) (.ref (ca 3)) A outer s H E) E → DB ((W0 K cc xx (TT ts lam l cs) L q).at [false, false] vs) E (cxOf (L2.CX P w) P w K mg base N_Numerals_words "Numerals.words" (defScope st_Numerals_words) (fa 3) (.ref (ca 3)) A outer s H E) (defBody st_Numerals_words) s_Numerals_words
theorem body_Numerals_words (T : Txt K mg base cc xx fa ca ta ts) (G_Numerals_digits_0 : Dk P w K mg base cc xx ts lam 1 (fa 2) ["self", "number"] [false, false] F_Numerals_digits []) (G_Numerals_end_0 : Dk P w K mg base cc xx ts lam 1 (fa 1) ["self"] [false] F_Numerals_end []) : Body_Numerals_words P w K mg base cc xx fa ca ts lam := by
  intro l cs L q A outer s H vs E hr tk
  have hW : InW K cc xx ts lam ((W0 K cc xx (TT ts lam l cs) L q).at [false, false] vs) := ⟨l, cs, L, q, rfl⟩
  exact (db_cons (ds_if (dt_not (dt_chain op_le op_lt spI_le spI_lt de_int (de_var (pv 1)) (dc_meth0 (G_Numerals_end_0) hW (hr.mono (by decide)) tk T.cl0 T.me_1 (dk_of (de_var (pv 0)))))) (db_one (dc_raise T.gx1 hW rfl (takes_of rfl rfl rfl rfl))) db_nil)
  (db_cons (ds_if (t_eq hr (dk_var (pv 1)) (dk_of de_int)) (db_one (ds_ret (de_tup (da_cons (dk_of (e_ix hr (dk_of (de_fld (dk_var (pv 0)) T.cl0 T.na0_small)) (dk_of de_int))) da_nil)))) db_nil)
  (db_cons (ds_set sc_Numerals_words.nd rfl (.inl rfl) (free_of (by decide)) (de_lst da_nil))
  (db_cons (ds_for (passes_of rfl) rfl (di_any rfl (dc_meth (G_Numerals_digits_0) hW (hr.mono (by decide)) tk T.cl0 T.me_2 (dk_of (de_var (pv 0))) (da_cons (dk_of (de_var (pv 1))) da_nil))) (dg_tup rfl rfl (dgs_cons (dg_name sc_Numerals_words.nd rfl (.inl rfl) (free_of (by decide))) (dgs_cons (dg_name sc_Numerals_words.nd rfl (.inl rfl) (free_of (by decide))) dgs_nil)) (gsC_len (gsC_len gs0_len))) (nox_t (nox_c nox_n (nox_c nox_n nox_0))) (show DB _ _ _ _ b_Numerals_words_1 from (db_one (ds_if (t_eq hr (dk_var (pv 4)) (dk_of de_int)) (db_one (ds_expr (de_mut PySem.F.plainAttrs_list PySem.F.slot_list_append PySem.F.type_list_append mt_append sp_app (dk_var (pv 2)) (da_cons (dk_of (de_tup (da_cons (dk_of (e_ix hr (dk_of (de_fld (dk_var (pv 0)) T.cl0 T.na0_small)) (dk_var (pv 3)))) da_nil))) da_nil)))) (db_one (ds_if (dt_w (dw_and (t_eq hr (dk_var (pv 3)) (dk_of de_int)) (dw_and1 (dt_not (dt_val (de_fld (dk_var (pv 0)) T.cl0 T.na0_one)))))) (db_one (ds_expr (de_mut PySem.F.plainAttrs_list PySem.F.slot_list_append PySem.F.type_list_append mt_append sp_app (dk_var (pv 2)) (da_cons (dk_of (de_tup (da_cons (dk_of (e_ix hr (dk_of (de_fld (dk_var (pv 0)) T.cl0 T.na0_powers)) (dk_of (e_sub (dk_var (pv 4)) (dk_of de_int))))) da_nil))) da_nil)))) (db_one (ds_expr (de_mut PySem.F.plainAttrs_list PySem.F.slot_list_append PySem.F.type_list_append mt_append sp_app (dk_var (pv 2)) (da_cons (dk_of (de_tup (da_cons (dk_of (e_ix hr (dk_of (de_fld (dk_var (pv 0)) T.cl0 T.na0_small)) (dk_var (pv 3)))) (da_cons (dk_of (e_ix hr (dk_of (de_fld (dk_var (pv 0)) T.cl0 T.na0_powers)) (dk_of (e_sub (dk_var (pv 4)) (dk_of de_int))))) da_nil)))) da_nil))))))))))
  (db_cons (ds_if (t_eq hr (dk_of (de_fld (dk_var (pv 0)) T.cl0 T.na0_order)) (dk_of de_str)) (db_one (ds_set sc_Numerals_words.nd rfl (.inl rfl) (free_of (by decide)) (de_rev (dk_var (pv 2))))) db_nil)
  (db_cons (ds_set sc_Numerals_words.nd rfl (.inl rfl) (free_of (by decide)) (e_ix hr (dk_var (pv 2)) (dk_of de_int)))
  (db_cons (ds_for (passes_of rfl) rfl (di_any rfl (de_slice rfl (dk_var (pv 2)) (do_some (dk_of de_int)) do_none)) (dg_name sc_Numerals_words.nd rfl (.inl rfl) (free_of (by decide))) nox_n (show DB _ _ _ _ b_Numerals_words_2 from (db_one (ds_augB iop_catA sp_catI sc_Numerals_words.nd rfl (.inl rfl) (free_of (by decide)) (dk_of (e_add (dk_of (de_if (t_ne hr (dk_of (de_fld (dk_var (pv 0)) T.cl0 T.na0_link)) (dk_of de_str)) (de_tup (da_cons (dk_of (de_fld (dk_var (pv 0)) T.cl0 T.na0_link)) da_nil)) (de_tup da_nil))) (dk_var (pv 6))))))))
  (db_one (ds_ret (de_var (pv 5)))))))))))
theorem dk_Numerals_words_0 (D0 : DefAt K "words" "Numerals.words" st_Numerals_words (fa 3) (ca 3) .none) (h : Body_Numerals_words P w K mg base cc xx fa ca ts lam) : Dk P w K mg base cc xx ts lam 2 (fa 3) ["self", "number"] [false, false] F_Numerals_words [] :=
  Dk.mk0 (k := 1) D0 sc_Numerals_words rfl (by decide) (fun _ _ _ _ _ _ us hl => match us, hl with | [_, _], _ => rfl) h
def Body_Numerals_text (P : Program) (w : World) (K : PySem.W.Frag) (mg : Str → Option Value) (base : Heap) (cc xx fa ca : Nat → Addr) (ts : List Addr) (lam : Option (Addr × Str)) : Prop := ∀ (l : List Addr) (cs : List (Addr × Addr)) (L : Nat → Addr → Addr → Heap → Prop) (q : Str) (A : Around) (outer : List Env) (s : Shared) (H : Hp) (vs : List V) (E : XK), Room 2 (A.deeper (envOfC "Numerals.text" (defScope st_Numerals_text) s.heap.objs.size (fa 4) (.ref (ca 4)))) → GX.TakesF (cxOf (L2.CX P w) P w K mg base N_Numerals_text "Numerals.text" (defScope st_Numerals_text) (fa 4) (.ref (ca 4)) A outer s H E) E → DB ((W0 K cc xx (TT ts lam l cs) L q).at [false, false] vs) E (cxOf (L2.CX P w) P w K mg base N_Numerals_text "Numerals.text" (defScope st_Numerals_text) (fa 4) (.ref (ca 4)) A outer s H E) (defBody st_Numerals_text) s_Numerals_text
theorem body_Numerals_text (T : Txt K mg base cc xx fa ca ta ts) (G_Numerals_words_0 : Dk P w K mg base cc xx ts lam 2 (fa 3) ["self", "number"] [false, false] F_Numerals_words []) : Body_Numerals_text P w K mg base cc xx fa ca ts lam := by
  intro l cs L q A outer s H vs E hr tk
  have hW : InW K cc xx ts lam ((W0 K cc xx (TT ts lam l cs) L q).at [false, false] vs) := ⟨l, cs, L, q, rfl⟩
  exact (db_one (ds_ret (de_bm PySem.F.plainAttrs_str PySem.F.slot_str_join PySem.F.type_str_join mt_join sp_join (dk_of de_str) (da_cons (dk_of (dc_meth (G_Numerals_words_0) hW (hr.mono (by decide)) tk T.cl0 T.me_3 (dk_of (de_var (pv 0))) (da_cons (dk_of (de_var (pv 1))) da_nil))) da_nil))))
theorem dk_Numerals_text_0 (D0 : DefAt K "text" "Numerals.text" st_Numerals_text (fa 4) (ca 4) .none) (h : Body_Numerals_text P w K mg base cc xx fa ca ts lam) : Dk P w K mg base cc xx ts lam 3 (fa 4) ["self", "number"] [false, false] F_Numerals_text [] :=
  Dk.mk0 (k := 2) D0 sc_Numerals_text rfl (by decide) (fun _ _ _ _ _ _ us hl => match us, hl with | [_, _], _ => rfl) h
def Body_Numerals_number (P : Program) (w : World) (K : PySem.W.Frag) (mg : Str → Option Value) (base : Heap) (cc xx fa ca : Nat → Addr) (ts : List Addr) (lam : Option (Addr × Str)) : Prop := ∀ (l : List Addr) (cs : List (Addr × Addr)) (L : Nat → Addr → Addr → Heap → Prop) (q : Str) (A : Around) (outer : List Env) (s : Shared) (H : Hp) (vs : List V) (E : XK), Room 3 (A.deeper (envOfC "Numerals.number" (defScope st_Numerals_number) s.heap.objs.size (fa 5) (.ref (ca 5)))) → GX.TakesF (cxOf (L2.CX P w) P w K mg base N_Numerals_number "Numerals.number" (defScope st_Numerals_number) (fa 5) (.ref (ca 5)) A outer s H E) E → DB ((W0 K cc xx (TT ts lam l cs) L q).at [false, false] vs) E (cxOf (L2.CX P w) P w K mg base N_Numerals_number "Numerals.number" (defScope st_Numerals_number) (fa 5) (.ref (ca 5)) A outer s H E) (defBody st_Numerals_number) s_Numerals_number
theorem body_Numerals_number (T : Txt K mg base cc xx fa ca ta ts) (G_Numerals_end_0 : Dk P w K mg base cc xx ts lam 1 (fa 1) ["self"] [false] F_Numerals_end []) (G_Numerals_text_0 : Dk P w K mg base cc xx ts lam 3 (fa 4) ["self", "number"] [false, false] F_Numerals_text []) : Body_Numerals_number P w K mg base cc xx fa ca ts lam := by
  intro l cs L q A outer s H vs E hr tk
  have hW : InW K cc xx ts lam ((W0 K cc xx (TT ts lam l cs) L q).at [false, false] vs) := ⟨l, cs, L, q, rfl⟩
  exact (db_cons (ds_parT (is := [2, 3]) rfl (by intro n hn; exact (free_of (by revert n hn; decide))) (by decide) (dv_cons de_int (dv_cons de_non dv_nil)) (pgs_cons' sc_Numerals_number.nd rfl (.inl rfl) (pgs_cons' sc_Numerals_number.nd rfl (.inl rfl) pgs_nil')))
  (db_cons (ds_for (passes_of rfl) rfl (di_any rfl (de_bm PySem.F.plainAttrs_str PySem.F.slot_str_split PySem.F.type_str_split mt_split sp_split (dk_var (pv 1)) (da_cons (dk_of de_str) da_nil))) (dg_name sc_Numerals_number.nd rfl (.inl rfl) (free_of (by decide))) nox_n (show DB _ _ _ _ b_Numerals_number_2 from (db_one (ds_if (t_in hr (dk_var (pv 4)) (dk_of (de_fld (dk_var (pv 0)) T.cl0 T.na0_small))) (db_cons (ds_aug sc_Numerals_number.nd rfl (.inl rfl) (free_of (by decide)) (dk_of (de_if (t_is (dk_var (pv 3)) (dk_of de_non)) de_int (de_var (pv 3)))))
  (db_one (ds_set sc_Numerals_number.nd rfl (.inl rfl) (free_of (by decide)) (de_ixP (de_fld (dk_var (pv 0)) T.cl0 T.na0_small) (dk_var (pv 4)))))) (db_one (ds_if (t_in hr (dk_var (pv 4)) (dk_of (de_fld (dk_var (pv 0)) T.cl0 T.na0_powers))) (db_cons (ds_set sc_Numerals_number.nd rfl (.inl rfl) (free_of (by decide)) de_int)
  (db_cons (ds_for (passes_of rfl) rfl (di_rng1 rfl T.b_range (da_cons (dk_of (e_add (dk_of (de_ixP (de_fld (dk_var (pv 0)) T.cl0 T.na0_powers) (dk_var (pv 4)))) (dk_of de_int))) da_nil)) (dg_name sc_Numerals_number.nd rfl (.inl rfl) (free_of (by decide))) nox_n (show DB _ _ _ _ b_Numerals_number_1 from (db_one (ds_augB iop_mul sp_mulI sc_Numerals_number.nd rfl (.inl rfl) (free_of (by decide)) (dk_of (de_fld (dk_var (pv 0)) T.cl0 T.na0_base))))))
  (db_cons (ds_aug sc_Numerals_number.nd rfl (.inl rfl) (free_of (by decide)) (dk_of (e_mul (dk_of (de_if (t_is (dk_var (pv 3)) (dk_of de_non)) de_int (de_var (pv 3)))) (dk_var (pv 5)))))
  (db_one (ds_set sc_Numerals_number.nd rfl (.inl rfl) (free_of (by decide)) de_non))))) (db_one (ds_if (t_eq hr (dk_var (pv 4)) (dk_of (de_fld (dk_var (pv 0)) T.cl0 T.na0_link))) (db_cons (ds_aug sc_Numerals_number.nd rfl (.inl rfl) (free_of (by decide)) (dk_of (de_if (t_is (dk_var (pv 3)) (dk_of de_non)) de_int (de_var (pv 3)))))
  (db_one (ds_set sc_Numerals_number.nd rfl (.inl rfl) (free_of (by decide)) de_non))) (db_one (dc_raise T.gx1 hW rfl (takes_of rfl rfl rfl rfl)))))))))))
  (db_cons (ds_aug sc_Numerals_number.nd rfl (.inl rfl) (free_of (by decide)) (dk_of (de_if (t_is (dk_var (pv 3)) (dk_of de_non)) de_int (de_var (pv 3)))))
  (db_cons (ds_if (dt_w (dw_or (t_ge (dk_var (pv 2)) (dk_of (dc_meth0 (G_Numerals_end_0) hW (hr.mono (by decide)) tk T.cl0 T.me_1 (dk_of (de_var (pv 0)))))) (dw_or1 (t_ne hr (dk_of (dc_meth (G_Numerals_text_0) hW (hr.mono (by decide)) tk T.cl0 T.me_4 (dk_of (de_var (pv 0))) (da_cons (dk_of (de_var (pv 2))) da_nil))) (dk_var (pv 1)))))) (db_one (dc_raise T.gx1 hW rfl (takes_of rfl rfl rfl rfl))) db_nil)
  (db_one (ds_ret (de_var (pv 2))))))))
theorem dk_Numerals_number_0 (D0 : DefAt K "number" "Numerals.number" st_Numerals_number (fa 5) (ca 5) .none) (h : Body_Numerals_number P w K mg base cc xx fa ca ts lam) : Dk P w K mg base cc xx ts lam 4 (fa 5) ["self", "text"] [false, false] F_Numerals_number [] :=
  Dk.mk0 (k := 3) D0 sc_Numerals_number rfl (by decide) (fun _ _ _ _ _ _ us hl => match us, hl with | [_, _], _ => rfl) h
def Body_counted (P : Program) (w : World) (K : PySem.W.Frag) (mg : Str → Option Value) (base : Heap) (cc xx fa ca : Nat → Addr) (ts : List Addr) (lam : Option (Addr × Str)) : Prop := ∀ (l : List Addr) (cs : List (Addr × Addr)) (L : Nat → Addr → Addr → Heap → Prop) (q : Str) (A : Around) (outer : List Env) (s : Shared) (H : Hp) (vs : List V) (E : XK), Room 4 (A.deeper (envOfC "counted" (defScope st_counted) s.heap.objs.size (fa 6) (.ref (ca 6)))) → GX.TakesF (cxOf (L2.CX P w) P w K mg base N_counted "counted" (defScope st_counted) (fa 6) (.ref (ca 6)) A outer s H E) E → DB ((W0 K cc xx (TT ts lam l cs) L q).at [false, false, false] vs) E (cxOf (L2.CX P w) P w K mg base N_counted "counted" (defScope st_counted) (fa 6) (.ref (ca 6)) A outer s H E) (defBody st_counted) s_counted
theorem body_counted (T : Txt K mg base cc xx fa ca ta ts) (G_Numerals_text_0 : Dk P w K mg base cc xx ts lam 3 (fa 4) ["self", "number"] [false, false] F_Numerals_text []) : Body_counted P w K mg base cc xx fa ca ts lam := by
  intro l cs L q A outer s H vs E hr tk
  have hW : InW K cc xx ts lam ((W0 K cc xx (TT ts lam l cs) L q).at [false, false, false] vs) := ⟨l, cs, L, q, rfl⟩
  exact (db_one (ds_ret (de_gx_tuple (own := [("step", 3)]) (show GxOk _ _ _ 3 _ _ _ _ _ _ _ _ [("step", 3)] _ [3] _ _ _ from ⟨hr.mono (by decide), T.bm, ⟨blkOk_by (N := N_counted) (sc := defScope st_counted) (by decide +kernel), rfl, by decide +kernel, rfl⟩, sc_counted.nd, tt_gx (.inl T.tm_6), ⟨rfl, .inl T.cd_6⟩, T.hX, tk, (di_rng1 rfl T.b_range (da_cons (dk_var (pv 2)) da_nil)), (by decide), (by intro j hj; exact (free_of (by revert j hj; decide))), nox_n, (by intro _; rfl), fun E' A4 s4 H4 c' P' fp4 pn4 hr4 tk4 => ⟨(dg_name sc_counted.nd rfl (.inl rfl) (free_tab (free_of (by decide)))), dts_nil, (dc_meth (G_Numerals_text_0) ⟨_, _, _, _, rfl⟩ (hr4.mono (by decide)) tk4 T.cl0 T.me_4 (dk_of (de_var (pv 0))) (da_cons (dk_of (e_add (dk_var (pv 1)) (dk_var (pv 3)))) da_nil))⟩⟩) rfl T.b_tuple)))
theorem dk_counted_0 (D0 : DefAt K "counted" "counted" st_counted (fa 6) (ca 6) .none) (h : Body_counted P w K mg base cc xx fa ca ts lam) : Dk P w K mg base cc xx ts lam 5 (fa 6) ["numerals", "first", "many"] [false, false, false] F_counted [] :=
  Dk.mk0 (k := 4) D0 sc_counted rfl (by decide) (fun _ _ _ _ _ _ us hl => match us, hl with | [_, _, _], _ => rfl) h
def Body_shortest (P : Program) (w : World) (K : PySem.W.Frag) (mg : Str → Option Value) (base : Heap) (cc xx fa ca : Nat → Addr) (ts : List Addr) (lam : Option (Addr × Str)) : Prop := ∀ (l : List Addr) (cs : List (Addr × Addr)) (L : Nat → Addr → Addr → Heap → Prop) (q : Str) (A : Around) (outer : List Env) (s : Shared) (H : Hp) (vs : List V) (E : XK), Room 2 (A.deeper (envOfC "shortest" (defScope st_shortest) s.heap.objs.size (fa 7) (.ref (ca 7)))) → GX.TakesF (cxOf (L2.CX P w) P w K mg base N_shortest "shortest" (defScope st_shortest) (fa 7) (.ref (ca 7)) A outer s H E) E → DB ((W0 K cc xx (TT ts lam l cs) L q).at [false, false] vs) E (cxOf (L2.CX P w) P w K mg base N_shortest "shortest" (defScope st_shortest) (fa 7) (.ref (ca 7)) A outer s H E) (defBody st_shortest) s_shortest
theorem body_shortest (T : Txt K mg base cc xx fa ca ta ts) (G_Numerals_end_0 : Dk P w K mg base cc xx ts lam 1 (fa 1) ["self"] [false] F_Numerals_end []) (G_Numerals_words_0 : Dk P w K mg base cc xx ts lam 2 (fa 3) ["self", "number"] [false, false] F_Numerals_words []) : Body_shortest P w K mg base cc xx fa ca ts lam := by
  intro l cs L q A outer s H vs E hr tk
  have hW : InW K cc xx ts lam ((W0 K cc xx (TT ts lam l cs) L q).at [false, false] vs) := ⟨l, cs, L, q, rfl⟩
  exact (db_cons (ds_set sc_shortest.nd rfl (.inl rfl) (free_of (by decide)) de_non)
  (db_cons (ds_for (passes_of rfl) rfl (di_enum rfl T.b_enumerate (da_cons (dk_of (de_var (pv 0))) da_nil)) (dg_tup rfl rfl (dgs_cons (dg_name sc_shortest.nd rfl (.inl rfl) (free_of (by decide))) (dgs_cons (dg_name sc_shortest.nd rfl (.inl rfl) (free_of (by decide))) dgs_nil)) (gsC_len (gsC_len gs0_len))) (nox_t (nox_c nox_n (nox_c nox_n nox_0))) (show DB _ _ _ _ b_shortest_1 from (db_one (ds_if (dt_chain op_le op_lt spI_le spI_lt de_int (de_var (pv 1)) (dc_meth0 (G_Numerals_end_0) hW (hr.mono (by decide)) tk T.cl0 T.me_1 (dk_of (de_var (pv 4))))) (db_cons (ds_set sc_shortest.nd rfl (.inl rfl) (free_of (by decide)) (b_len T.b_len (da_cons (dk_of (dc_meth (G_Numerals_words_0) hW (hr.mono (by decide)) tk T.cl0 T.me_3 (dk_of (de_var (pv 4))) (da_cons (dk_of (de_var (pv 1))) da_nil))) da_nil)))
  (db_one (ds_if (dt_w (dw_or (t_is (dk_var (pv 2)) (dk_of de_non)) (dw_or1 (t_lt (dk_var (pv 5)) (dk_of (e_ix hr (dk_var (pv 2)) (dk_of de_int))))))) (db_one (ds_set sc_shortest.nd rfl (.inl rfl) (free_of (by decide)) (de_tup (da_cons (dk_of (de_var (pv 5))) (da_cons (dk_of (de_var (pv 3))) da_nil))))) db_nil))) db_nil))))
  (db_cons (ds_if (t_is (dk_var (pv 2)) (dk_of de_non)) (db_one (dc_raise T.gx1 hW rfl (takes_of rfl rfl rfl rfl))) db_nil)
  (db_one (ds_ret (e_ix hr (dk_var (pv 2)) (dk_of de_int)))))))
theorem dk_shortest_0 (D0 : DefAt K "shortest" "shortest" st_shortest (fa 7) (ca 7) .none) (h : Body_shortest P w K mg base cc xx fa ca ts lam) : Dk P w K mg base cc xx ts lam 3 (fa 7) ["rows", "number"] [false, false] F_shortest [] :=
  Dk.mk0 (k := 2) D0 sc_shortest rfl (by decide) (fun _ _ _ _ _ _ us hl => match us, hl with | [_, _], _ => rfl) h
def Body_law_dice (P : Program) (w : World) (K : PySem.W.Frag) (mg : Str → Option Value) (base : Heap) (cc xx fa ca : Nat → Addr) (ts : List Addr) (lam : Option (Addr × Str)) : Prop := ∀ (l : List Addr) (cs : List (Addr × Addr)) (L : Nat → Addr → Addr → Heap → Prop) (q : Str) (A : Around) (outer : List Env) (s : Shared) (H : Hp) (vs : List V) (E : XK), Room 0 (A.deeper (envOfC "_law_dice" (defScope st_law_dice) s.heap.objs.size (fa 8) (.ref (ca 8)))) → GX.TakesF (cxOf (L2.CX P w) P w K mg base N_law_dice "_law_dice" (defScope st_law_dice) (fa 8) (.ref (ca 8)) A outer s H E) E → DB ((W0 K cc xx (TT ts lam l cs) L q).at [false] vs) E (cxOf (L2.CX P w) P w K mg base N_law_dice "_law_dice" (defScope st_law_dice) (fa 8) (.ref (ca 8)) A outer s H E) (defBody st_law_dice) s_law_dice
theorem body_law_dice (T : Txt K mg base cc xx fa ca ta ts)  : Body_law_dice P w K mg base cc xx fa ca ts lam := by
  intro l cs L q A outer s H vs E hr tk
  have hW : InW K cc xx ts lam ((W0 K cc xx (TT ts lam l cs) L q).at [false] vs) := ⟨l, cs, L, q, rfl⟩
  exact (db_cons (ds_if (dt_chain op_lt op_lt spI_lt spI_lt (e_sub (dk_of de_int) (dk_of de_int)) (de_var (pv 0)) de_int) (db_one (ds_ret (de_lst (da_cons (dk_of (b_abs T.b_abs (da_cons (dk_var (pv 0)) da_nil))) (da_cons (dk_of de_int) (da_cons (dk_of de_int) da_nil)))))) db_nil)
  (db_one (ds_ret (de_lst (da_cons (dk_of (de_var (pv 0))) (da_cons (dk_of (e_add (dk_of de_int) (dk_of (e_mod (dk_of (b_int T.b_int (da_cons (dk_var (pv 0)) da_nil))) (dk_of de_int))))) (da_cons (dk_of (b_int T.b_int (da_cons (dk_of (e_ge (dk_var (pv 0)) (dk_of (e_pow (dk_of de_int) (dk_of de_int))))) da_nil))) da_nil)))))))
theorem dk_law_dice_0 (D0 : DefAt K "_law_dice" "_law_dice" st_law_dice (fa 8) (ca 8) .none) (h : Body_law_dice P w K mg base cc xx fa ca ts lam) : Dk P w K mg base cc xx ts lam 1 (fa 8) ["cell"] [false] F_law_dice [] :=
  Dk.mk0 (k := 0) D0 sc_law_dice rfl (by decide) (fun _ _ _ _ _ _ us hl => match us, hl with | [_], _ => rfl) h
def Body_law_roll (P : Program) (w : World) (K : PySem.W.Frag) (mg : Str → Option Value) (base : Heap) (cc xx fa ca : Nat → Addr) (ts : List Addr) (lam : Option (Addr × Str)) : Prop := ∀ (l : List Addr) (cs : List (Addr × Addr)) (L : Nat → Addr → Addr → Heap → Prop) (q : Str) (A : Around) (outer : List Env) (s : Shared) (H : Hp) (vs : List V) (E : XK), Room 0 (A.deeper (envOfC "_law_roll" (defScope st_law_roll) s.heap.objs.size (fa 9) (.ref (ca 9)))) → GX.TakesF (cxOf (L2.CX P w) P w K mg base N_law_roll "_law_roll" (defScope st_law_roll) (fa 9) (.ref (ca 9)) A outer s H E) E → DB ((W0 K cc xx (TT ts lam l cs) L q).at [true, false] vs) E (cxOf (L2.CX P w) P w K mg base N_law_roll "_law_roll" (defScope st_law_roll) (fa 9) (.ref (ca 9)) A outer s H E) (defBody st_law_roll) s_law_roll
theorem body_law_roll (T : Txt K mg base cc xx fa ca ta ts)  : Body_law_roll P w K mg base cc xx fa ca ts lam := by
  intro l cs L q A outer s H vs E hr tk
  have hW : InW K cc xx ts lam ((W0 K cc xx (TT ts lam l cs) L q).at [true, false] vs) := ⟨l, cs, L, q, rfl⟩
  exact (db_cons (ds_if (dt_w (dw_or (t_eq hr (dk_of (e_ix hr (dk_var (pv 0)) (dk_of de_int))) (dk_of de_int)) (dw_or1 (dt_w (dw_and (t_eq hr (dk_of (e_ix hr (dk_var (pv 0)) (dk_of de_int))) (dk_of de_int)) (dw_and1 (t_gt (dk_of (e_ix hr (dk_var (pv 0)) (dk_of de_int))) (dk_of de_int)))))))) (db_cons (ds_set sc_law_roll.nd rfl (.inl rfl) (free_of (by decide)) (e_mod (dk_of (b_int T.b_int (da_cons (dk_of (e_ix hr (dk_var (pv 0)) (dk_of de_int))) da_nil))) (dk_var (pv 1))))
  (db_cons (ds_put (hu1 hr) (dk_var (pv 0)) (dk_of de_int) (e_div (dk_of (e_ix hr (dk_var (pv 0)) (dk_of de_int))) (dk_var (pv 1))) (by intro _; rfl))
  (db_one (ds_ret (de_var (pv 2)))))) db_nil)
  (db_cons (ds_put (hu1 hr) (dk_var (pv 0)) (dk_of de_int) de_int (by intro _; rfl))
  (db_cons (ds_if (t_gt (dk_var (pv 1)) (dk_of de_int)) db_bad db_nil)
  (db_cons (ds_put (hu1 hr) (dk_var (pv 0)) (dk_of de_int) (e_mod (dk_of (b_int T.b_int (da_cons (dk_of (e_add (dk_of (e_add (dk_of (e_mul (dk_of (e_ix hr (dk_var (pv 0)) (dk_of de_int))) (dk_of de_int))) (dk_of (e_mul (dk_of (e_ix hr (dk_var (pv 0)) (dk_of de_int))) (dk_of de_int))))) (dk_of de_int))) da_nil))) (dk_of de_int)) (by intro _; rfl))
  (db_cons (ds_put (hu1 hr) (dk_var (pv 0)) (dk_of de_int) (e_add (dk_of (e_ix hr (dk_var (pv 0)) (dk_of de_int))) (dk_of de_int)) (by intro _; rfl))
  (db_one (ds_ret (e_mod (dk_of (b_int T.b_int (da_cons (dk_of (e_div (dk_of (e_ix hr (dk_var (pv 0)) (dk_of de_int))) (dk_of de_int))) da_nil))) (dk_var (pv 1))))))))))
theorem dk_law_roll_0 (D0 : DefAt K "_law_roll" "_law_roll" st_law_roll (fa 9) (ca 9) .none) (h : Body_law_roll P w K mg base cc xx fa ca ts lam) : Dk P w K mg base cc xx ts lam 1 (fa 9) ["dice", "many"] [true, false] F_law_roll [] :=
  Dk.mk0 (k := 0) D0 sc_law_roll rfl (by decide) (fun _ _ _ _ _ _ us hl => match us, hl with | [_, _], _ => rfl) h
def Body_law_rounds (P : Program) (w : World) (K : PySem.W.Frag) (mg : Str → Option Value) (base : Heap) (cc xx fa ca : Nat → Addr) (ts : List Addr) (lam : Option (Addr × Str)) : Prop := ∀ (l : List Addr) (cs : List (Addr × Addr)) (L : Nat → Addr → Addr → Heap → Prop) (q : Str) (A : Around) (outer : List Env) (s : Shared) (H : Hp) (vs : List V) (E : XK), Room 1 (A.deeper (envOfC "_law_rounds" (defScope st_law_rounds) s.heap.objs.size (fa 10) (.ref (ca 10)))) → GX.TakesF (cxOf (L2.CX P w) P w K mg base N_law_rounds "_law_rounds" (defScope st_law_rounds) (fa 10) (.ref (ca 10)) A outer s H E) E → DB ((W0 K cc xx (TT ts lam l cs) L q).at [false, false] vs) E (cxOf (L2.CX P w) P w K mg base N_law_rounds "_law_rounds" (defScope st_law_rounds) (fa 10) (.ref (ca 10)) A outer s H E) (defBody st_law_rounds) s_law_rounds
theorem body_law_rounds (T : Txt K mg base cc xx fa ca ta ts) (G_law_dice_0 : Dk P w K mg base cc xx ts lam 1 (fa 8) ["cell"] [false] F_law_dice []) : Body_law_rounds P w K mg base cc xx fa ca ts lam := by
  intro l cs L q A outer s H vs E hr tk
  have hW : InW K cc xx ts lam ((W0 K cc xx (TT ts lam l cs) L q).at [false, false] vs) := ⟨l, cs, L, q, rfl⟩
  exact (db_cons (ds_set sc_law_rounds.nd rfl (.inl rfl) (free_of (by decide)) (de_slice rfl (dk_var (pv 0)) do_none (do_some (dk_var (pv 1)))))
  (db_cons (ds_if (t_eq hr (dk_var (pv 2)) (dk_of (de_lst da_nil))) (db_one (ds_set sc_law_rounds.nd rfl (.inl rfl) (free_of (by decide)) (de_lst (da_cons (dk_of de_int) da_nil)))) db_nil)
  (db_one (ds_ret (de_lc (own := [("cell", 3)]) rfl sc_law_rounds.nd (di_any rfl (de_var (pv 2))) (blkOk_by (N := N_law_rounds) (sc := defScope st_law_rounds) (by decide +kernel)) (is := [3]) (by decide) (by intro j hj; exact (free_of (by revert j hj; decide))) (fun s5 H5 C5 cl5 fp5 => (dg_name sc_law_rounds.nd rfl (.inl rfl) (free_of (by decide)))) nox_n (fun s5 H5 C5 cl5 fp5 => dts_nil) (fun s5 H5 C5 cl5 fp5 => (dc_call (G_law_dice_0) hW (hr.mono (by decide)) takes_E0 T.gd_8 T.kd_8 (da_cons (dk_of (de_var (pv 3))) da_nil))))))))
theorem dk_law_rounds_0 (D0 : DefAt K "_law_rounds" "_law_rounds" st_law_rounds (fa 10) (ca 10) .none) (h : Body_law_rounds P w K mg base cc xx fa ca ts lam) : Dk P w K mg base cc xx ts lam 2 (fa 10) ["script", "most"] [false, false] F_law_rounds [] :=
  Dk.mk0 (k := 1) D0 sc_law_rounds rfl (by decide) (fun _ _ _ _ _ _ us hl => match us, hl with | [_, _], _ => rfl) h
def Body_law_words (P : Program) (w : World) (K : PySem.W.Frag) (mg : Str → Option Value) (base : Heap) (cc xx fa ca : Nat → Addr) (ts : List Addr) (lam : Option (Addr × Str)) : Prop := ∀ (l : List Addr) (cs : List (Addr × Addr)) (L : Nat → Addr → Addr → Heap → Prop) (q : Str) (A : Around) (outer : List Env) (s : Shared) (H : Hp) (vs : List V) (E : XK), Room 0 (A.deeper (envOfC "_law_words" (defScope st_law_words) s.heap.objs.size (fa 12) (.ref (ca 12)))) → GX.TakesF (cxOf (L2.CX P w) P w K mg base N_law_words "_law_words" (defScope st_law_words) (fa 12) (.ref (ca 12)) A outer s H E) E → DB ((W0 K cc xx (TT ts lam l cs) L q).at [false, false, false, false, false, false, false] vs) E (cxOf (L2.CX P w) P w K mg base N_law_words "_law_words" (defScope st_law_words) (fa 12) (.ref (ca 12)) A outer s H E) (defBody st_law_words) s_law_words
theorem body_law_words (T : Txt K mg base cc xx fa ca ta ts)  : Body_law_words P w K mg base cc xx fa ca ts lam := by
  intro l cs L q A outer s H vs E hr tk
  have hW : InW K cc xx ts lam ((W0 K cc xx (TT ts lam l cs) L q).at [false, false, false, false, false, false, false] vs) := ⟨l, cs, L, q, rfl⟩
  exact (db_cons (ds_par rfl sc_law_words.nd rfl rfl (by decide) (by intro n hn; exact (free_of (by revert n hn; decide))) rfl rfl (dv_cons (de_lst da_nil) (dv_cons de_int dv_nil)) (by rfl))
  (db_cons (ds_while (passes_of rfl) (t_gt (dk_var (pv 6)) (dk_of de_int)) (show DB _ _ _ _ b_law_words_1 from (db_cons (ds_set sc_law_words.nd rfl (.inl rfl) (free_of (by decide)) (e_mod (dk_var (pv 6)) (dk_var (pv 0))))
  (db_cons (ds_if (dt_w (dw_and (t_gt (dk_var (pv 9)) (dk_of de_int)) (dw_and1 (t_eq hr (dk_var (pv 8)) (dk_of de_int))))) (db_one (ds_set sc_law_words.nd rfl (.inl rfl) (free_of (by decide)) (e_add (dk_of (de_lst (da_cons (dk_of (de_lst (da_cons (dk_of (e_ix hr (dk_var (pv 1)) (dk_var (pv 9)))) da_nil))) da_nil))) (dk_var (pv 7))))) (db_one (ds_if (t_gt (dk_var (pv 9)) (dk_of de_int)) (db_one (ds_set sc_law_words.nd rfl (.inl rfl) (free_of (by decide)) (e_add (dk_of (de_lst (da_cons (dk_of (e_add (dk_of (e_mul (dk_of (de_lst (da_cons (dk_of (e_ix hr (dk_var (pv 1)) (dk_var (pv 9)))) da_nil))) (dk_of (b_int T.b_int (da_cons (dk_of (de_or (e_gt (dk_var (pv 9)) (dk_of de_int)) (de_one (de_var (pv 5))))) da_nil))))) (dk_of (de_lst (da_cons (dk_of (e_ix hr (dk_var (pv 2)) (dk_of (e_sub (dk_var (pv 8)) (dk_of de_int))))) da_nil))))) da_nil))) (dk_var (pv 7))))) db_nil)))
  (db_one (ds_par rfl sc_law_words.nd rfl rfl (by decide) (by intro n hn; exact (free_of (by revert n hn; decide))) rfl rfl (dv_cons (e_div (dk_var (pv 6)) (dk_var (pv 0))) (dv_cons (e_add (dk_var (pv 8)) (dk_of de_int)) dv_nil)) (by rfl)))))))
  (db_cons (ds_set sc_law_words.nd rfl (.inl rfl) (free_of (by decide)) (de_if (t_eq hr (dk_var (pv 3)) (dk_of de_str)) (de_rev (dk_var (pv 7))) (de_var (pv 7))))
  (db_cons (ds_set sc_law_words.nd rfl (.inl rfl) (free_of (by decide)) (de_lst da_nil))
  (db_cons (ds_for (passes_of rfl) rfl (di_any rfl (de_var (pv 7))) (dg_name sc_law_words.nd rfl (.inl rfl) (free_of (by decide))) nox_n (show DB _ _ _ _ b_law_words_2 from (db_one (ds_set sc_law_words.nd rfl (.inl rfl) (free_of (by decide)) (e_add (dk_of (e_add (dk_var (pv 10)) (dk_of (e_mul (dk_of (de_lst (da_cons (dk_of (de_var (pv 4))) da_nil))) (dk_of (b_int T.b_int (da_cons (dk_of (de_and (e_ne hr (dk_var (pv 4)) (dk_of de_str)) (de_one (e_ne hr (dk_var (pv 10)) (dk_of (de_lst da_nil)))))) da_nil))))))) (dk_var (pv 11)))))))
  (db_one (ds_ret (de_if (t_ne hr (dk_var (pv 7)) (dk_of (de_lst da_nil))) (de_var (pv 10)) (de_lst (da_cons (dk_of (e_ix hr (dk_var (pv 1)) (dk_of de_int))) da_nil))))))))))
theorem dk_law_words_0 (D0 : DefAt K "_law_words" "_law_words" st_law_words (fa 12) (ca 12) .none) (h : Body_law_words P w K mg base cc xx fa ca ts lam) : Dk P w K mg base cc xx ts lam 1 (fa 12) ["base", "small", "powers", "order", "link", "one", "number"] [false, false, false, false, false, false, false] F_law_words [] :=
  Dk.mk0 (k := 0) D0 sc_law_words rfl (by decide) (fun _ _ _ _ _ _ us hl => match us, hl with | [_, _, _, _, _, _, _], _ => rfl) h
end K08
end

section
set_option Elab.async false
set_option linter.all false
set_option maxRecDepth 100000
set_option maxHeartbeats 8000000
namespace K08
open PySem PySem.Spec PyProof.Rows L2 DL
variable {P : Program} {w : World} {K : PySem.W.Frag} {mg : Str → Option Value} {base : Heap} {cc xx fa ca ta : Nat → Addr} {ts : List Addr} {lam : Option (Addr × Str)}
def Body_law (P : Program) (w : World) (K : PySem.W.Frag) (mg : Str → Option Value) (base : Heap) (cc xx fa ca : Nat → Addr) (ts : List Addr) (lam : Option (Addr × Str)) : Prop := ∀ (l : List Addr) (cs : List (Addr × Addr)) (L : Nat → Addr → Addr → Heap → Prop) (q : Str) (A : Around) (outer : List Env) (s : Shared) (H : Hp) (vs : List V) (E : XK), Room 7 (A.deeper (envOfC "law" (defScope st_law) s.heap.objs.size (fa 13) (.ref (ca 13)))) → GX.TakesF (cxOf (L2.CX P w) P w K mg base N_law "law" (defScope st_law) (fa 13) (.ref (ca 13)) A outer s H E) E → DB ((W0 K cc xx (TT ts lam l cs) L q).at [false] vs) E (cxOf (L2.CX P w) P w K mg base N_law "law" (defScope st_law) (fa 13) (.ref (ca 13)) A outer s H E) (defBody st_law) (clrF s_law)
abbrev lamLaw (ta : Nat → Addr) : Option (Addr × Str) := some (ta 13, "law" ++ ".<locals>." ++ GX.lamName)
abbrev XL (P : Program) (w : World) (K : PySem.W.Frag) (mg : Str → Option Value) (base : Heap) (fa ca : Nat → Addr) (A : Around) (outer : List Env) (s : Shared) (H : Hp) (E : XK) : Cx := cxOf (L2.CX P w) P w K mg base N_law "law" (defScope st_law) (fa 13) (.ref (ca 13)) A outer s H E
theorem body_law (T : Txt K mg base cc xx fa ca ta ts) (TB : LamX.TabB base mg (ca 13) (ta 13)) (Dt : DefAt K "_law_told" "_law_told" st_law_told (fa 11) (ca 11) .none)
    (G_Numerals_digits_0 : Dk P w K mg base cc xx ts (lamLaw ta) 1 (fa 2) ["self", "number"] [false, false] F_Numerals_digits [])
    (G_Numerals_end_0 : Dk P w K mg base cc xx ts (lamLaw ta) 1 (fa 1) ["self"] [false] F_Numerals_end [])
    (G_Numerals_init_0 : Dk P w K mg base cc xx ts (lamLaw ta) 2 (fa 0) ["self", "base", "small", "powers", "order", "link", "one"] [true, false, false, false, false, false, false] F_Numerals_init [])
    (G_Numerals_init_1 : Dk P w K mg base cc xx ts (lamLaw ta) 2 (fa 0) ["self", "base", "small", "powers", "order", "link", "one"] [true, false, false, false, false, false, false] F_Numerals_init [(.bl false)])
    (G_Numerals_init_2 : Dk P w K mg base cc xx ts (lamLaw ta) 2 (fa 0) ["self", "base", "small", "powers", "order", "link", "one"] [true, false, false, false, false, false, false] F_Numerals_init [(.str ""), (.bl false)])
    (G_Numerals_init_3 : Dk P w K mg base cc xx ts (lamLaw ta) 2 (fa 0) ["self", "base", "small", "powers", "order", "link", "one"] [true, false, false, false, false, false, false] F_Numerals_init [(.str "high"), (.str ""), (.bl false)])
    (G_Numerals_number_0 : Dk P w K mg base cc xx ts (lamLaw ta) 4 (fa 5) ["self", "text"] [false, false] F_Numerals_number [])
    (G_Numerals_text_0 : Dk P w K mg base cc xx ts (lamLaw ta) 3 (fa 4) ["self", "number"] [false, false] F_Numerals_text [])
    (G_Numerals_words_0 : Dk P w K mg base cc xx ts (lamLaw ta) 2 (fa 3) ["self", "number"] [false, false] F_Numerals_words [])
    (G_counted_0 : Dk P w K mg base cc xx ts (lamLaw ta) 5 (fa 6) ["numerals", "first", "many"] [false, false, false] F_counted [])
    (G_law_roll_0 : Dk P w K mg base cc xx ts (lamLaw ta) 1 (fa 9) ["dice", "many"] [true, false] F_law_roll [])
    (G_law_rounds_0 : Dk P w K mg base cc xx ts (lamLaw ta) 2 (fa 10) ["script", "most"] [false, false] F_law_rounds [])
    (G_law_words_0 : Dk P w K mg base cc xx ts (lamLaw ta) 1 (fa 12) ["base", "small", "powers", "order", "link", "one", "number"] [false, false, false, false, false, false, false] F_law_words [])
    (G_shortest_0 : Dk P w K mg base cc xx ts (lamLaw ta) 3 (fa 7) ["rows", "number"] [false, false] F_shortest []) : Body_law P w K mg base cc xx fa ca ts (lamLaw ta) := by
  intro l cs L q A outer s H vs E hr tk
  refine db_lams (L := lamL (XL P w K mg base fa ca A outer s H E) lms_law) (q := (XL P w K mg base fa ca A outer s H E).env.qual ++ GX.lamName) ?_
  have hW : InW K cc xx ts (lamLaw ta) (((W0 K cc xx (TT ts (lamLaw ta) l cs) L q).at [false] vs).lams (lamL (XL P w K mg base fa ca A outer s H E) lms_law) ((XL P w K mg base fa ca A outer s H E).env.qual ++ GX.lamName)) := ⟨l, cs, _, _, rfl⟩
  obtain ⟨oct, odt, kVt, doct, pmt, ant, ctt, oslt, lkt, cdt⟩ := Dt.ex
  have TO : ToldOk (((W0 K cc xx (TT ts (lamLaw ta) l cs) L q).at [false] vs).lams (lamL (XL P w K mg base fa ca A outer s H E) lms_law) ((XL P w K mg base fa ca A outer s H E).env.qual ++ GX.lamName)) (XL P w K mg base fa ca A outer s H E) "_law_told" "WordError" (fa 11) (xx 1) N_law_told (defScope st_law_told) (defBody st_law_told) (.ref (ca 11)) :=
    { gives := fun q => LamX.told_gives (e := "WordError") rfl T.gx1.g (by decide) (fun f => rfl), run := ⟨defArgs st_law_told, .none, kVt, doct, pmt, ctt, oct, ant, odt, oslt, lkt, Binds.all fun us hl => match us, hl with | [_], _ => rfl⟩, cd := cdt, sc := sc_law_told, n0 := rfl, vis := .inl rfl, ex := fun c => T.te c }
  have hL : ∀ i m, lb_law i = some m → ∃ ps bd sc, LamB (((W0 K cc xx (TT ts (lamLaw ta) l cs) L q).at [false] vs).lams (lamL (XL P w K mg base fa ca A outer s H E) lms_law) ((XL P w K mg base fa ca A outer s H E).env.qual ++ GX.lamName)) (XL P w K mg base fa ca A outer s H E) 5 i m ps bd sc := by
    intro i m h
    match i, h with
    | 0, h =>
      have e := Option.some.inj (show some _ = some m from h)
      subst e
      exact ⟨(lms_law.getD 0 noLm).1, (lms_law.getD 0 noLm).2.1, (lms_law.getD 0 noLm).2.2, ⟨lamI_at (sc0 := defScope st_law) (lms := lms_law) (i := 0) (by rfl) rfl (by decide +kernel), fun _ _ _ _ _ => rfl, fun A6 outer6 s6 H6 E6 f6 c6 hr6 tk6 => (dc_meth (G_Numerals_number_0) ⟨_, _, _, _, rfl⟩ (hr6.mono (by decide)) tk6 T.cl0 T.me_5 (dk_of (de_var (pv 24))) (da_cons (dk_of (de_var (pv 27))) da_nil))⟩⟩
    | 1, h =>
      have e := Option.some.inj (show some _ = some m from h)
      subst e
      exact ⟨(lms_law.getD 1 noLm).1, (lms_law.getD 1 noLm).2.1, (lms_law.getD 1 noLm).2.2, ⟨lamI_at (sc0 := defScope st_law) (lms := lms_law) (i := 1) (by rfl) rfl (by decide +kernel), fun _ _ _ _ _ => rfl, fun A6 outer6 s6 H6 E6 f6 c6 hr6 tk6 => (dc_call (G_shortest_0) ⟨_, _, _, _, rfl⟩ (hr6.mono (by decide)) tk6 T.gd_7 T.kd_7 (da_cons (dk_of (de_var (pv 25))) (da_cons (dk_of (de_var (pv 19))) da_nil)))⟩⟩
    | 2, h =>
      have e := Option.some.inj (show some _ = some m from h)
      subst e
      exact ⟨(lms_law.getD 2 noLm).1, (lms_law.getD 2 noLm).2.1, (lms_law.getD 2 noLm).2.2, ⟨lamI_at (sc0 := defScope st_law) (lms := lms_law) (i := 2) (by rfl) rfl (by decide +kernel), fun _ _ _ _ _ => rfl, fun A6 outer6 s6 H6 E6 f6 c6 hr6 tk6 => (dc_meth (G_Numerals_words_0) ⟨_, _, _, _, rfl⟩ (hr6.mono (by decide)) tk6 T.cl0 T.me_3 (dk_of (de_var (pv 24))) (da_cons (dk_of (de_var (pv 23))) da_nil))⟩⟩
    | 3, h =>
      have e := Option.some.inj (show some _ = some m from h)
      subst e
      exact ⟨(lms_law.getD 3 noLm).1, (lms_law.getD 3 noLm).2.1, (lms_law.getD 3 noLm).2.2, ⟨lamI_at (sc0 := defScope st_law) (lms := lms_law) (i := 3) (by rfl) rfl (by decide +kernel), fun _ _ _ _ _ => rfl, fun A6 outer6 s6 H6 E6 f6 c6 hr6 tk6 => (dc_meth (G_Numerals_text_0) ⟨_, _, _, _, rfl⟩ (hr6.mono (by decide)) tk6 T.cl0 T.me_4 (dk_of (de_var (pv 24))) (da_cons (dk_of (de_neg (dk_of de_int))) da_nil))⟩⟩
    | 4, h =>
      have e := Option.some.inj (show some _ = some m from h)
      subst e
      exact ⟨(lms_law.getD 4 noLm).1, (lms_law.getD 4 noLm).2.1, (lms_law.getD 4 noLm).2.2, ⟨lamI_at (sc0 := defScope st_law) (lms := lms_law) (i := 4) (by rfl) rfl (by decide +kernel), fun _ _ _ _ _ => rfl, fun A6 outer6 s6 H6 E6 f6 c6 hr6 tk6 => (dc_call (G_counted_0) ⟨_, _, _, _, rfl⟩ (hr6.mono (by decide)) tk6 T.gd_6 T.kd_6 (da_cons (dk_of (de_var (pv 24))) (da_cons (dk_of (e_sub (dk_var (pv 23)) (dk_of de_int))) (da_cons (dk_of de_int) da_nil))))⟩⟩
    | 5, h =>
      have e := Option.some.inj (show some _ = some m from h)
      subst e
      exact ⟨(lms_law.getD 5 noLm).1, (lms_law.getD 5 noLm).2.1, (lms_law.getD 5 noLm).2.2, ⟨lamI_at (sc0 := defScope st_law) (lms := lms_law) (i := 5) (by rfl) rfl (by decide +kernel), fun _ _ _ _ _ => rfl, fun A6 outer6 s6 H6 E6 f6 c6 hr6 tk6 => (dc_make (n := 6) (G_Numerals_init_3) ⟨_, _, _, _, rfl⟩ T.mk0 (hr6.mono (by decide)) tk6 T.gc0 rfl (fun ts ρ ρ' h => by have := (argK_len (argK_len (argK_len argK0_len))) ts ρ ρ' h; simp [this]) (da_cons (dk_of de_int) (da_cons (dk_of (de_lst (da_cons (dk_of de_str) da_nil))) (da_cons (dk_of (de_lst da_nil)) da_nil))))⟩⟩
    | 6, h =>
      have e := Option.some.inj (show some _ = some m from h)
      subst e
      exact ⟨(lms_law.getD 6 noLm).1, (lms_law.getD 6 noLm).2.1, (lms_law.getD 6 noLm).2.2, ⟨lamI_at (sc0 := defScope st_law) (lms := lms_law) (i := 6) (by rfl) rfl (by decide +kernel), fun _ _ _ _ _ => rfl, fun A6 outer6 s6 H6 E6 f6 c6 hr6 tk6 => (dc_make (n := 6) (G_Numerals_init_3) ⟨_, _, _, _, rfl⟩ T.mk0 (hr6.mono (by decide)) tk6 T.gc0 rfl (fun ts ρ ρ' h => by have := (argK_len (argK_len (argK_len argK0_len))) ts ρ ρ' h; simp [this]) (da_cons (dk_of de_int) (da_cons (dk_of (de_lc (own := [("k", 3)]) rfl sc_law.nd (di_rng1 rfl T.b_range (da_cons (dk_of de_int) da_nil)) (blkOk_by (N := N_law) (sc := (lms_law.getD 6 noLm).2.2) (by decide +kernel)) (is := [3]) (by decide) (by intro j hj; exact (free_lams (free_of (by revert j hj; decide)))) (fun s5 H5 C5 cl5 fp5 => (dg_name sc_law.nd rfl (.inl rfl) (free_lams (free_of (by decide))))) nox_n (fun s5 H5 C5 cl5 fp5 => dts_nil) (fun s5 H5 C5 cl5 fp5 => (b_str T.b_str (da_cons (dk_var (pv 3)) da_nil))))) (da_cons (dk_of (de_lst da_nil)) da_nil))))⟩⟩
    | 7, h =>
      have e := Option.some.inj (show some _ = some m from h)
      subst e
      exact ⟨(lms_law.getD 7 noLm).1, (lms_law.getD 7 noLm).2.1, (lms_law.getD 7 noLm).2.2, ⟨lamI_at (sc0 := defScope st_law) (lms := lms_law) (i := 7) (by rfl) rfl (by decide +kernel), fun _ _ _ _ _ => rfl, fun A6 outer6 s6 H6 E6 f6 c6 hr6 tk6 => (dc_make (n := 6) (G_Numerals_init_3) ⟨_, _, _, _, rfl⟩ T.mk0 (hr6.mono (by decide)) tk6 T.gc0 rfl (fun ts ρ ρ' h => by have := (argK_len (argK_len (argK_len argK0_len))) ts ρ ρ' h; simp [this]) (da_cons (dk_of de_int) (da_cons (dk_of (de_lst (da_cons (dk_of de_str) da_nil))) (da_cons (dk_of (de_lst da_nil)) da_nil))))⟩⟩
    | 8, h =>
      have e := Option.some.inj (show some _ = some m from h)
      subst e
      exact ⟨(lms_law.getD 8 noLm).1, (lms_law.getD 8 noLm).2.1, (lms_law.getD 8 noLm).2.2, ⟨lamI_at (sc0 := defScope st_law) (lms := lms_law) (i := 8) (by rfl) rfl (by decide +kernel), fun _ _ _ _ _ => rfl, fun A6 outer6 s6 H6 E6 f6 c6 hr6 tk6 => (dc_make (n := 6) (G_Numerals_init_3) ⟨_, _, _, _, rfl⟩ T.mk0 (hr6.mono (by decide)) tk6 T.gc0 rfl (fun ts ρ ρ' h => by have := (argK_len (argK_len (argK_len argK0_len))) ts ρ ρ' h; simp [this]) (da_cons (dk_of de_int) (da_cons (dk_of (de_lst (da_cons (dk_of de_str) (da_cons (dk_of de_str) da_nil)))) (da_cons (dk_of (de_lst da_nil)) da_nil))))⟩⟩
    | 9, h =>
      have e := Option.some.inj (show some _ = some m from h)
      subst e
      exact ⟨(lms_law.getD 9 noLm).1, (lms_law.getD 9 noLm).2.1, (lms_law.getD 9 noLm).2.2, ⟨lamI_at (sc0 := defScope st_law) (lms := lms_law) (i := 9) (by rfl) rfl (by decide +kernel), fun _ _ _ _ _ => rfl, fun A6 outer6 s6 H6 E6 f6 c6 hr6 tk6 => (dc_make (n := 6) (G_Numerals_init_3) ⟨_, _, _, _, rfl⟩ T.mk0 (hr6.mono (by decide)) tk6 T.gc0 rfl (fun ts ρ ρ' h => by have := (argK_len (argK_len (argK_len argK0_len))) ts ρ ρ' h; simp [this]) (da_cons (dk_of de_int) (da_cons (dk_of (de_lst (da_cons (dk_of de_str) (da_cons (dk_of de_str) da_nil)))) (da_cons (dk_of (de_lst da_nil)) da_nil))))⟩⟩
    | 10, h =>
      have e := Option.some.inj (show some _ = some m from h)
      subst e
      exact ⟨(lms_law.getD 10 noLm).1, (lms_law.getD 10 noLm).2.1, (lms_law.getD 10 noLm).2.2, ⟨lamI_at (sc0 := defScope st_law) (lms := lms_law) (i := 10) (by rfl) rfl (by decide +kernel), fun _ _ _ _ _ => rfl, fun A6 outer6 s6 H6 E6 f6 c6 hr6 tk6 => (dc_make (n := 6) (G_Numerals_init_3) ⟨_, _, _, _, rfl⟩ T.mk0 (hr6.mono (by decide)) tk6 T.gc0 rfl (fun ts ρ ρ' h => by have := (argK_len (argK_len (argK_len argK0_len))) ts ρ ρ' h; simp [this]) (da_cons (dk_of de_int) (da_cons (dk_of (de_lst (da_cons (dk_of de_str) (da_cons (dk_of de_str) da_nil)))) (da_cons (dk_of (de_lst da_nil)) da_nil))))⟩⟩
    | 11, h =>
      have e := Option.some.inj (show some _ = some m from h)
      subst e
      exact ⟨(lms_law.getD 11 noLm).1, (lms_law.getD 11 noLm).2.1, (lms_law.getD 11 noLm).2.2, ⟨lamI_at (sc0 := defScope st_law) (lms := lms_law) (i := 11) (by rfl) rfl (by decide +kernel), fun _ _ _ _ _ => rfl, fun A6 outer6 s6 H6 E6 f6 c6 hr6 tk6 => (dc_make (n := 6) (G_Numerals_init_3) ⟨_, _, _, _, rfl⟩ T.mk0 (hr6.mono (by decide)) tk6 T.gc0 rfl (fun ts ρ ρ' h => by have := (argK_len (argK_len (argK_len argK0_len))) ts ρ ρ' h; simp [this]) (da_cons (dk_of de_int) (da_cons (dk_of (de_lst (da_cons (dk_of de_str) (da_cons (dk_of de_str) da_nil)))) (da_cons (dk_of (de_lst (da_cons (dk_of de_str) da_nil))) da_nil))))⟩⟩
    | 12, h =>
      have e := Option.some.inj (show some _ = some m from h)
      subst e
      exact ⟨(lms_law.getD 12 noLm).1, (lms_law.getD 12 noLm).2.1, (lms_law.getD 12 noLm).2.2, ⟨lamI_at (sc0 := defScope st_law) (lms := lms_law) (i := 12) (by rfl) rfl (by decide +kernel), fun _ _ _ _ _ => rfl, fun A6 outer6 s6 H6 E6 f6 c6 hr6 tk6 => (dc_make (n := 6) (G_Numerals_init_2) ⟨_, _, _, _, rfl⟩ T.mk0 (hr6.mono (by decide)) tk6 T.gc0 rfl (fun ts ρ ρ' h => by have := (argK_len (argK_len (argK_len (argK_len argK0_len)))) ts ρ ρ' h; simp [this]) (da_cons (dk_of de_int) (da_cons (dk_of (de_lst (da_cons (dk_of de_str) (da_cons (dk_of de_str) da_nil)))) (da_cons (dk_of (de_lst da_nil)) (da_cons (dk_of de_str) da_nil)))))⟩⟩
    | 13, h =>
      have e := Option.some.inj (show some _ = some m from h)
      subst e
      exact ⟨(lms_law.getD 13 noLm).1, (lms_law.getD 13 noLm).2.1, (lms_law.getD 13 noLm).2.2, ⟨lamI_at (sc0 := defScope st_law) (lms := lms_law) (i := 13) (by rfl) rfl (by decide +kernel), fun _ _ _ _ _ => rfl, fun A6 outer6 s6 H6 E6 f6 c6 hr6 tk6 => (dc_make (n := 6) (G_Numerals_init_2) ⟨_, _, _, _, rfl⟩ T.mk0 (hr6.mono (by decide)) tk6 T.gc0 rfl (fun ts ρ ρ' h => by have := (argK_len (argK_len (argK_len (argK_len argK0_len)))) ts ρ ρ' h; simp [this]) (da_cons (dk_of de_int) (da_cons (dk_of (de_lst (da_cons (dk_of de_str) (da_cons (dk_of de_str) da_nil)))) (da_cons (dk_of (de_lst (da_cons (dk_of de_str) da_nil))) (da_cons (dk_of de_str) da_nil)))))⟩⟩
    | 14, h =>
      have e := Option.some.inj (show some _ = some m from h)
      subst e
      exact ⟨(lms_law.getD 14 noLm).1, (lms_law.getD 14 noLm).2.1, (lms_law.getD 14 noLm).2.2, ⟨lamI_at (sc0 := defScope st_law) (lms := lms_law) (i := 14) (by rfl) rfl (by decide +kernel), fun _ _ _ _ _ => rfl, fun A6 outer6 s6 H6 E6 f6 c6 hr6 tk6 => (dc_make (n := 6) (G_Numerals_init_1) ⟨_, _, _, _, rfl⟩ T.mk0 (hr6.mono (by decide)) tk6 T.gc0 rfl (fun ts ρ ρ' h => by have := (argK_len (argK_len (argK_len (argK_len (argK_len argK0_len))))) ts ρ ρ' h; simp [this]) (da_cons (dk_of de_int) (da_cons (dk_of (de_lst (da_cons (dk_of de_str) (da_cons (dk_of de_str) da_nil)))) (da_cons (dk_of (de_lst da_nil)) (da_cons (dk_of de_str) (da_cons (dk_of de_str) da_nil))))))⟩⟩
    | 15, h =>
      have e := Option.some.inj (show some _ = some m from h)
      subst e
      exact ⟨(lms_law.getD 15 noLm).1, (lms_law.getD 15 noLm).2.1, (lms_law.getD 15 noLm).2.2, ⟨lamI_at (sc0 := defScope st_law) (lms := lms_law) (i := 15) (by rfl) rfl (by decide +kernel), fun _ _ _ _ _ => rfl, fun A6 outer6 s6 H6 E6 f6 c6 hr6 tk6 => (dc_meth (G_Numerals_number_0) ⟨_, _, _, _, rfl⟩ (hr6.mono (by decide)) tk6 T.cl0 T.me_5 (dk_of (de_var (pv 26))) (da_cons (dk_of de_str) da_nil))⟩⟩
    | 16, h =>
      have e := Option.some.inj (show some _ = some m from h)
      subst e
      exact ⟨(lms_law.getD 16 noLm).1, (lms_law.getD 16 noLm).2.1, (lms_law.getD 16 noLm).2.2, ⟨lamI_at (sc0 := defScope st_law) (lms := lms_law) (i := 16) (by rfl) rfl (by decide +kernel), fun _ _ _ _ _ => rfl, fun A6 outer6 s6 H6 E6 f6 c6 hr6 tk6 => (dc_meth (G_Numerals_number_0) ⟨_, _, _, _, rfl⟩ (hr6.mono (by decide)) tk6 T.cl0 T.me_5 (dk_of (de_var (pv 26))) (da_cons (dk_of de_str) da_nil))⟩⟩
    | 17, h =>
      have e := Option.some.inj (show some _ = some m from h)
      subst e
      exact ⟨(lms_law.getD 17 noLm).1, (lms_law.getD 17 noLm).2.1, (lms_law.getD 17 noLm).2.2, ⟨lamI_at (sc0 := defScope st_law) (lms := lms_law) (i := 17) (by rfl) rfl (by decide +kernel), fun _ _ _ _ _ => rfl, fun A6 outer6 s6 H6 E6 f6 c6 hr6 tk6 => (dc_meth (G_Numerals_number_0) ⟨_, _, _, _, rfl⟩ (hr6.mono (by decide)) tk6 T.cl0 T.me_5 (dk_of (de_var (pv 26))) (da_cons (dk_of de_str) da_nil))⟩⟩
    | 18, h =>
      have e := Option.some.inj (show some _ = some m from h)
      subst e
      exact ⟨(lms_law.getD 18 noLm).1, (lms_law.getD 18 noLm).2.1, (lms_law.getD 18 noLm).2.2, ⟨lamI_at (sc0 := defScope st_law) (lms := lms_law) (i := 18) (by rfl) rfl (by decide +kernel), fun _ _ _ _ _ => rfl, fun A6 outer6 s6 H6 E6 f6 c6 hr6 tk6 => (dc_meth (G_Numerals_number_0) ⟨_, _, _, _, rfl⟩ (hr6.mono (by decide)) tk6 T.cl0 T.me_5 (dk_of (de_var (pv 26))) (da_cons (dk_of de_str) da_nil))⟩⟩
    | n + 19, h => simp [lb_law] at h
  exact (db_cons (ds_forOwn (passes_of rfl) rfl (dc_call (G_law_rounds_0) hW (hr.mono (by decide)) tk T.gd_10 T.kd_10 (da_cons (dk_of (de_var (pv 0))) (da_cons (dk_of de_int) da_nil))) sc_law.nd rfl (.inr rfl) (free_lams (free_of (by decide))) (show DB _ _ _ _ b_law_5 from (db_cons (ds_parT (is := [25, 2]) rfl (by intro n hn; exact (free_lams (free_of (by revert n hn; decide)))) (by decide) (dv_cons (de_lst da_nil) (dv_cons (de_lst da_nil) dv_nil)) (pgs_cons' sc_law.nd rfl (.inr rfl) (pgs_cons' sc_law.nd rfl (.inl rfl) pgs_nil')))
  (db_cons (ds_for (passes_of rfl) rfl (di_rng1 rfl T.b_range (da_cons (dk_of (e_add (dk_of de_int) (dk_of (dc_call (G_law_roll_0) hW (hr.mono (by decide)) tk T.gd_9 T.kd_9 (da_cons (dk_var (pv 1)) (da_cons (dk_of de_int) da_nil)))))) da_nil)) (dg_name sc_law.nd rfl (.inl rfl) (free_lams (free_of (by decide)))) nox_n (show DB _ _ _ _ b_law_1 from (db_cons (ds_par rfl sc_law.nd rfl rfl (by decide) (by intro n hn; exact (free_lams (free_of (by revert n hn; decide)))) rfl rfl (dv_cons (e_add (dk_of de_int) (dk_of (dc_call (G_law_roll_0) hW (hr.mono (by decide)) tk T.gd_9 T.kd_9 (da_cons (dk_var (pv 1)) (da_cons (dk_of de_int) da_nil))))) (dv_cons (dc_call (G_law_roll_0) hW (hr.mono (by decide)) tk T.gd_9 T.kd_9 (da_cons (dk_var (pv 1)) (da_cons (dk_of de_int) da_nil))) dv_nil)) (by rfl))
  (db_cons (ds_par rfl sc_law.nd rfl rfl (by decide) (by intro n hn; exact (free_lams (free_of (by revert n hn; decide)))) rfl rfl (dv_cons (de_lc (own := [("j", 29)]) rfl sc_law.nd (di_rng1 rfl T.b_range (da_cons (dk_var (pv 4)) da_nil)) (blkOk_by (N := N_law) (sc := defScope st_law) (by decide +kernel)) (is := [29]) (by decide) (by intro j hj; exact (free_lams (free_of (by revert j hj; decide)))) (fun s5 H5 C5 cl5 fp5 => (dg_name sc_law.nd rfl (.inl rfl) (free_lams (free_of (by decide))))) nox_n (fun s5 H5 C5 cl5 fp5 => dts_nil) (fun s5 H5 C5 cl5 fp5 => (e_add (dk_of de_str) (dk_of (e_ix hr (dk_of de_str) (dk_var (pv 29))))))) (dv_cons (de_lc (own := [("j", 29)]) rfl sc_law.nd (di_rng1 rfl T.b_range (da_cons (dk_var (pv 5)) da_nil)) (blkOk_by (N := N_law) (sc := defScope st_law) (by decide +kernel)) (is := [29]) (by decide) (by intro j hj; exact (free_lams (free_of (by revert j hj; decide)))) (fun s5 H5 C5 cl5 fp5 => (dg_name sc_law.nd rfl (.inl rfl) (free_lams (free_of (by decide))))) nox_n (fun s5 H5 C5 cl5 fp5 => dts_nil) (fun s5 H5 C5 cl5 fp5 => (e_add (dk_of de_str) (dk_of (e_ix hr (dk_of de_str) (dk_var (pv 29))))))) dv_nil)) (by rfl))
  (db_cons (ds_par3 rfl sc_law.nd rfl rfl rfl (by decide) (by decide) (by decide) (by intro n hn; exact (free_lams (free_of (by revert n hn; decide)))) rfl rfl rfl (dv_cons (e_ix hr (dk_of (de_lst (da_cons (dk_of de_str) (da_cons (dk_of de_str) da_nil)))) (dk_of (dc_call (G_law_roll_0) hW (hr.mono (by decide)) tk T.gd_9 T.kd_9 (da_cons (dk_var (pv 1)) (da_cons (dk_of de_int) da_nil))))) (dv_cons (e_ix hr (dk_of (de_lst (da_cons (dk_of de_str) (da_cons (dk_of de_str) da_nil)))) (dk_of (dc_call (G_law_roll_0) hW (hr.mono (by decide)) tk T.gd_9 T.kd_9 (da_cons (dk_var (pv 1)) (da_cons (dk_of de_int) da_nil))))) (dv_cons (e_eq hr (dk_of (dc_call (G_law_roll_0) hW (hr.mono (by decide)) tk T.gd_9 T.kd_9 (da_cons (dk_var (pv 1)) (da_cons (dk_of de_int) da_nil)))) (dk_of de_int)) dv_nil))) (by rfl))
  (db_cons (ds_set sc_law.nd rfl (.inl rfl) (free_lams (free_of (by decide))) (de_or (de_var (pv 10)) (de_one (e_eq hr (dk_var (pv 8)) (dk_of de_str)))))
  (db_cons (ds_expr (de_mut PySem.F.plainAttrs_list PySem.F.slot_list_append PySem.F.type_list_append mt_append sp_app (dk_var (pv 25)) (da_cons (dk_of (dc_make (n := 6) (G_Numerals_init_0) hW T.mk0 (hr.mono (by decide)) tk T.gc0 rfl (fun ts ρ ρ' h => by have := (argK_len (argK_len (argK_len (argK_len (argK_len (argK_len argK0_len)))))) ts ρ ρ' h; simp [this]) (da_cons (dk_of (de_var (pv 4))) (da_cons (dk_of (de_var (pv 6))) (da_cons (dk_of (de_var (pv 7))) (da_cons (dk_of (de_var (pv 8))) (da_cons (dk_of (de_var (pv 9))) (da_cons (dk_of (de_var (pv 10))) da_nil)))))))) da_nil)))
  (db_one (ds_expr (de_mut PySem.F.plainAttrs_list PySem.F.slot_list_append PySem.F.type_list_append mt_append sp_app (dk_var (pv 2)) (da_cons (dk_of (de_tup (da_cons (dk_of (de_var (pv 4))) (da_cons (dk_of (de_var (pv 6))) (da_cons (dk_of (de_var (pv 7))) (da_cons (dk_of (de_var (pv 8))) (da_cons (dk_of (de_var (pv 9))) (da_cons (dk_of (de_var (pv 10))) da_nil)))))))) da_nil)))))))))))
  (db_cons (ds_parT (is := [24, 11]) rfl (by intro n hn; exact (free_lams (free_of (by revert n hn; decide)))) (by decide) (dv_cons (e_ix hr (dk_var (pv 25)) (dk_of de_int)) (dv_cons (e_ix hr (dk_var (pv 2)) (dk_of de_int)) dv_nil)) (pgs_cons' sc_law.nd rfl (.inr rfl) (pgs_cons' sc_law.nd rfl (.inr rfl) pgs_nil')))
  (db_cons (ds_set sc_law.nd rfl (.inr rfl) (free_lams (free_of (by decide))) (e_ix hr (dk_var (pv 11)) (dk_of de_int)))
  (db_cons (ds_for (passes_of rfl) rfl (di_any rfl (e_ix hr (dk_var (pv 11)) (dk_of de_int))) (dg_name sc_law.nd rfl (.inl rfl) (free_lams (free_of (by decide)))) nox_n (show DB _ _ _ _ b_law_2 from (db_one (ds_set sc_law.nd rfl (.inr rfl) (free_lams (free_of (by decide))) (e_mul (dk_var (pv 23)) (dk_of (e_ix hr (dk_var (pv 11)) (dk_of de_int))))))))
  (db_cons (ds_if (t_ne hr (dk_of (dc_meth0 (G_Numerals_end_0) hW (hr.mono (by decide)) tk T.cl0 T.me_1 (dk_of (de_var (pv 24))))) (dk_var (pv 23))) (db_one (ds_ret de_bl)) db_nil)
  (db_cons (ds_for (passes_of rfl) rfl (di_rng1 rfl T.b_range (da_cons (dk_of de_int) da_nil)) (dg_name sc_law.nd rfl (.inl rfl) (free_lams (free_of (by decide)))) nox_n (show DB _ _ _ _ b_law_4 from (db_cons (ds_set sc_law.nd rfl (.inr rfl) (free_lams (free_of (by decide))) (dc_call (G_law_roll_0) hW (hr.mono (by decide)) tk T.gd_9 T.kd_9 (da_cons (dk_var (pv 1)) (da_cons (dk_of (de_var (pv 23))) da_nil))))
  (db_cons (ds_set sc_law.nd rfl (.inl rfl) (free_lams (free_of (by decide))) (dc_call (G_law_words_0) hW (hr.mono (by decide)) tk T.gd_12 T.kd_12 (da_cons (dk_of (e_ix hr (dk_var (pv 11)) (dk_of de_int))) (da_cons (dk_of (e_ix hr (dk_var (pv 11)) (dk_of de_int))) (da_cons (dk_of (e_ix hr (dk_var (pv 11)) (dk_of de_int))) (da_cons (dk_of (e_ix hr (dk_var (pv 11)) (dk_of de_int))) (da_cons (dk_of (e_ix hr (dk_var (pv 11)) (dk_of de_int))) (da_cons (dk_of (e_ix hr (dk_var (pv 11)) (dk_of de_int))) (da_cons (dk_of (de_var (pv 19))) da_nil)))))))))
  (db_cons (ds_if (dt_w (dw_or (t_ne hr (dk_of (b_list T.b_list (da_cons (dk_of (dc_meth (G_Numerals_words_0) hW (hr.mono (by decide)) tk T.cl0 T.me_3 (dk_of (de_var (pv 24))) (da_cons (dk_of (de_var (pv 19))) da_nil))) da_nil))) (dk_var (pv 14))) (dw_or (t_ne hr (dk_of (dc_meth (G_Numerals_text_0) hW (hr.mono (by decide)) tk T.cl0 T.me_4 (dk_of (de_var (pv 24))) (da_cons (dk_of (de_var (pv 19))) da_nil))) (dk_of (de_bm PySem.F.plainAttrs_str PySem.F.slot_str_join PySem.F.type_str_join mt_join sp_join (dk_of de_str) (da_cons (dk_var (pv 14)) da_nil)))) (dw_or1 (t_ne hr (dk_of (dc_meth (G_Numerals_number_0) hW (hr.mono (by decide)) tk T.cl0 T.me_5 (dk_of (de_var (pv 24))) (da_cons (dk_of (de_bm PySem.F.plainAttrs_str PySem.F.slot_str_join PySem.F.type_str_join mt_join sp_join (dk_of de_str) (da_cons (dk_var (pv 14)) da_nil))) da_nil))) (dk_var (pv 19))))))) (db_one (ds_ret de_bl)) db_nil)
  (db_cons (ds_par3 rfl sc_law.nd rfl rfl rfl (by decide) (by decide) (by decide) (by intro n hn; exact (free_lams (free_of (by revert n hn; decide)))) rfl rfl rfl (dv_cons (de_lst da_nil) (dv_cons (de_var (pv 19)) (dv_cons de_int dv_nil))) (by rfl))
  (db_cons (ds_while (passes_of rfl) (t_gt (dk_var (pv 16)) (dk_of de_int)) (show DB _ _ _ _ b_law_3 from (db_one (ds_par3 rfl sc_law.nd rfl rfl rfl (by decide) (by decide) (by decide) (by intro n hn; exact (free_lams (free_of (by revert n hn; decide)))) rfl rfl rfl (dv_cons (e_add (dk_of (e_mul (dk_of (de_lst (da_cons (dk_of (de_tup (da_cons (dk_of (e_mod (dk_var (pv 16)) (dk_of (e_ix hr (dk_var (pv 11)) (dk_of de_int))))) (da_cons (dk_of (de_var (pv 12))) da_nil)))) da_nil))) (dk_of (b_int T.b_int (da_cons (dk_of (e_gt (dk_of (e_mod (dk_var (pv 16)) (dk_of (e_ix hr (dk_var (pv 11)) (dk_of de_int))))) (dk_of de_int))) da_nil))))) (dk_var (pv 15))) (dv_cons (e_div (dk_var (pv 16)) (dk_of (e_ix hr (dk_var (pv 11)) (dk_of de_int)))) (dv_cons (e_add (dk_var (pv 12)) (dk_of de_int)) dv_nil))) (by rfl)))))
  (db_one (ds_if (t_ne hr (dk_of (dc_meth (G_Numerals_digits_0) hW (hr.mono (by decide)) tk T.cl0 T.me_2 (dk_of (de_var (pv 24))) (da_cons (dk_of (de_var (pv 19))) da_nil))) (dk_var (pv 15))) (db_one (ds_ret de_bl)) db_nil)))))))))
  (db_cons (ds_set sc_law.nd rfl (.inr rfl) (free_lams (free_of (by decide))) (e_add (dk_of (e_add (dk_of (de_slice rfl (dk_of (e_ix hr (dk_var (pv 11)) (dk_of de_int))) do_none (do_some (dk_of de_int)))) (dk_of (e_ix hr (dk_var (pv 11)) (dk_of de_int))))) (dk_of (de_lst (da_cons (dk_of (e_ix hr (dk_var (pv 11)) (dk_of de_int))) (da_cons (dk_of de_str) da_nil))))))
  (db_cons (ds_set sc_law.nd rfl (.inr rfl) (free_lams (free_of (by decide))) (de_bm PySem.F.plainAttrs_str PySem.F.slot_str_join PySem.F.type_str_join mt_join sp_join (dk_of de_str) (da_cons (dk_of (de_lc (own := [("k", 3)]) rfl sc_law.nd (di_rng1 rfl T.b_range (da_cons (dk_of (e_add (dk_of de_int) (dk_of (dc_call (G_law_roll_0) hW (hr.mono (by decide)) tk T.gd_9 T.kd_9 (da_cons (dk_var (pv 1)) (da_cons (dk_of de_int) da_nil)))))) da_nil)) (blkOk_by (N := N_law) (sc := defScope st_law) (by decide +kernel)) (is := [3]) (by decide) (by intro j hj; exact (free_lams (free_of (by revert j hj; decide)))) (fun s5 H5 C5 cl5 fp5 => (dg_name sc_law.nd rfl (.inl rfl) (free_lams (free_of (by decide))))) nox_n (fun s5 H5 C5 cl5 fp5 => dts_nil) (fun s5 H5 C5 cl5 fp5 => (e_ix hr (dk_var (pv 17)) (dk_of (dc_call (G_law_roll_0) hW (hr.mono (by decide)) takes_E0 T.gd_9 T.kd_9 (da_cons (dk_var (pv 1)) (da_cons (dk_of (b_len T.b_len (da_cons (dk_var (pv 17)) da_nil))) da_nil)))))))) da_nil)))
  (db_cons (ds_set sc_law.nd rfl (.inl rfl) (free_lams (free_of (by decide))) (de_told TO (hr.mono (by decide)) rfl T.gd_11 T.kd_11 (de_lam TB rfl tt_lam (by rfl) (lamI_at (sc0 := defScope st_law) (lms := lms_law) (i := 0) (by rfl) rfl (by decide +kernel))) hL))
  (db_cons (ds_set sc_law.nd rfl (.inl rfl) (free_lams (free_of (by decide))) (de_if (t_le (dk_var (pv 23)) (dk_of de_int)) (de_lc (own := [("number", 19)]) rfl sc_law.nd (di_rng1 rfl T.b_range (da_cons (dk_of (b_min2 T.b_min (da_cons (dk_var (pv 23)) (da_cons (dk_of de_int) da_nil)))) da_nil)) (blkOk_by (N := N_law) (sc := defScope st_law) (by decide +kernel)) (is := [19]) (by decide) (by intro j hj; exact (free_lams (free_of (by revert j hj; decide)))) (fun s5 H5 C5 cl5 fp5 => (dg_name sc_law.nd rfl (.inl rfl) (free_lams (free_of (by decide))))) nox_n (fun s5 H5 C5 cl5 fp5 => (dts_one (t_eq hr (dk_of (de_bm PySem.F.plainAttrs_str PySem.F.slot_str_join PySem.F.type_str_join mt_join sp_join (dk_of de_str) (da_cons (dk_of (dc_call (G_law_words_0) hW (hr.mono (by decide)) takes_E0 T.gd_12 T.kd_12 (da_cons (dk_of (e_ix hr (dk_var (pv 11)) (dk_of de_int))) (da_cons (dk_of (e_ix hr (dk_var (pv 11)) (dk_of de_int))) (da_cons (dk_of (e_ix hr (dk_var (pv 11)) (dk_of de_int))) (da_cons (dk_of (e_ix hr (dk_var (pv 11)) (dk_of de_int))) (da_cons (dk_of (e_ix hr (dk_var (pv 11)) (dk_of de_int))) (da_cons (dk_of (e_ix hr (dk_var (pv 11)) (dk_of de_int))) (da_cons (dk_of (de_var (pv 19))) da_nil))))))))) da_nil))) (dk_var (pv 27))))) (fun s5 H5 C5 cl5 fp5 => (de_var (pv 19)))) de_non))
  (db_cons (ds_if (dt_w (dw_or (dt_w (dw_and (t_isnt (dk_var (pv 20)) (dk_of de_non)) (dw_and1 (t_ne hr (dk_var (pv 18)) (dk_of (e_ix hr (dk_of (e_add (dk_var (pv 20)) (dk_of (de_lst (da_cons (dk_of de_str) da_nil))))) (dk_of de_int))))))) (dw_or1 (dt_w (dw_and (t_ne hr (dk_var (pv 18)) (dk_of de_str)) (dw_and1 (t_ne hr (dk_of (dc_meth (G_Numerals_text_0) hW (hr.mono (by decide)) tk T.cl0 T.me_4 (dk_of (de_var (pv 24))) (da_cons (dk_of (de_var (pv 18))) da_nil))) (dk_var (pv 27))))))))) (db_one (ds_ret de_bl)) db_nil)
  (db_cons (ds_set sc_law.nd rfl (.inr rfl) (free_lams (free_of (by decide))) (dc_call (G_law_roll_0) hW (hr.mono (by decide)) tk T.gd_9 T.kd_9 (da_cons (dk_var (pv 1)) (da_cons (dk_of de_int) da_nil))))
  (db_cons (ds_setLc (own := [("k", 3), ("one", 10)]) rfl sc_law.nd rfl rfl (free_lams (free_of (by decide))) (sw_true rfl rfl rfl (by decide +kernel)) (di_enum rfl T.b_enumerate (da_cons (dk_of (de_var (pv 2))) da_nil)) (blkOk_by (N := N_law) (sc := defScope st_law) (by decide +kernel)) (is := [3, 10]) (by decide) (by intro j hj; exact (free_lams (free_of (by revert j hj; decide)))) (fun s5 H5 C5 cl5 fp5 => (dg_tup rfl rfl (dgs_cons (dg_name sc_law.nd rfl (.inl rfl) (free_lams (free_of (by decide)))) (dgs_cons (dg_name sc_law.nd rfl (.inl rfl) (free_lams (free_of (by decide)))) dgs_nil)) (gsC_len (gsC_len gs0_len)))) (nox_t (nox_c nox_n (nox_c nox_n nox_0))) (fun s5 H5 C5 cl5 fp5 => (dts_one (t_lt (dk_var (pv 19)) (dk_of (dc_meth0 (G_Numerals_end_0) hW (hr.mono (by decide)) takes_E0 T.cl0 T.me_1 (dk_of (e_ix hr (dk_var (pv 25)) (dk_var (pv 3))))))))) (fun s5 H5 C5 cl5 fp5 => (de_tup (da_cons (dk_of (b_len T.b_len (da_cons (dk_of (dc_call (G_law_words_0) hW (hr.mono (by decide)) takes_E0 T.gd_12 T.kd_12 (da_cons (dk_of (e_ix hr (dk_var (pv 10)) (dk_of de_int))) (da_cons (dk_of (e_ix hr (dk_var (pv 10)) (dk_of de_int))) (da_cons (dk_of (e_ix hr (dk_var (pv 10)) (dk_of de_int))) (da_cons (dk_of (e_ix hr (dk_var (pv 10)) (dk_of de_int))) (da_cons (dk_of (e_ix hr (dk_var (pv 10)) (dk_of de_int))) (da_cons (dk_of (e_ix hr (dk_var (pv 10)) (dk_of de_int))) (da_cons (dk_of (de_var (pv 19))) da_nil))))))))) da_nil))) (da_cons (dk_of (de_var (pv 3))) da_nil)))))
  (db_cons (ds_if (t_ne hr (dk_of (de_told TO (hr.mono (by decide)) rfl T.gd_11 T.kd_11 (de_lam TB rfl tt_lam (by rfl) (lamI_at (sc0 := defScope st_law) (lms := lms_law) (i := 1) (by rfl) rfl (by decide +kernel))) hL)) (dk_of (de_if (t_ne hr (dk_var (pv 21)) (dk_of (de_lst da_nil))) (e_ix hr (dk_of (b_min1 hr T.b_min (da_cons (dk_var (pv 21)) da_nil))) (dk_of de_int)) de_str))) (db_one (ds_ret de_bl)) db_nil)
  (db_one (ds_if (dt_w (dw_or (t_ne hr (dk_of (de_lst (da_cons (dk_of (de_told TO (hr.mono (by decide)) rfl T.gd_11 T.kd_11 (de_lam TB rfl tt_lam (by rfl) (lamI_at (sc0 := defScope st_law) (lms := lms_law) (i := 2) (by rfl) rfl (by decide +kernel))) hL)) (da_cons (dk_of (de_told TO (hr.mono (by decide)) rfl T.gd_11 T.kd_11 (de_lam TB rfl tt_lam (by rfl) (lamI_at (sc0 := defScope st_law) (lms := lms_law) (i := 3) (by rfl) rfl (by decide +kernel))) hL)) (da_cons (dk_of (de_told TO (hr.mono (by decide)) rfl T.gd_11 T.kd_11 (de_lam TB rfl tt_lam (by rfl) (lamI_at (sc0 := defScope st_law) (lms := lms_law) (i := 4) (by rfl) rfl (by decide +kernel))) hL)) da_nil))))) (dk_of (e_mul (dk_of (de_lst (da_cons (dk_of de_str) da_nil))) (dk_of de_int)))) (dw_or1 (t_ne hr (dk_of (dc_call (G_counted_0) hW (hr.mono (by decide)) tk T.gd_6 T.kd_6 (da_cons (dk_of (de_var (pv 24))) (da_cons (dk_of de_int) (da_cons (dk_of de_int) da_nil))))) (dk_of (de_tup (da_cons (dk_of (dc_meth (G_Numerals_text_0) hW (hr.mono (by decide)) tk T.cl0 T.me_4 (dk_of (de_var (pv 24))) (da_cons (dk_of de_int) da_nil))) (da_cons (dk_of (dc_meth (G_Numerals_text_0) hW (hr.mono (by decide)) tk T.cl0 T.me_4 (dk_of (de_var (pv 24))) (da_cons (dk_of de_int) da_nil))) da_nil)))))))) (db_one (ds_ret de_bl)) db_nil)))))))))))))))))))
  (db_cons (ds_set sc_law.nd rfl (.inr rfl) (free_lams (free_of (by decide))) (dc_make (n := 6) (G_Numerals_init_0) hW T.mk0 (hr.mono (by decide)) tk T.gc0 rfl (fun ts ρ ρ' h => by have := (argK_len (argK_len (argK_len (argK_len (argK_len (argK_len argK0_len)))))) ts ρ ρ' h; simp [this]) (da_cons (dk_of de_int) (da_cons (dk_of (de_lst (da_cons (dk_of de_str) (da_cons (dk_of de_str) da_nil)))) (da_cons (dk_of (de_lst (da_cons (dk_of de_str) (da_cons (dk_of de_str) da_nil)))) (da_cons (dk_of de_str) (da_cons (dk_of de_str) (da_cons (dk_of de_bl) da_nil))))))))
  (db_cons (ds_set sc_law.nd rfl (.inl rfl) (free_lams (free_of (by decide))) (de_lst (da_cons (dk_of (de_lam TB rfl tt_lam (by rfl) (lamI_at (sc0 := defScope st_law) (lms := lms_law) (i := 5) (by rfl) rfl (by decide +kernel)))) (da_cons (dk_of (de_lam TB rfl tt_lam (by rfl) (lamI_at (sc0 := defScope st_law) (lms := lms_law) (i := 6) (by rfl) rfl (by decide +kernel)))) (da_cons (dk_of (de_lam TB rfl tt_lam (by rfl) (lamI_at (sc0 := defScope st_law) (lms := lms_law) (i := 7) (by rfl) rfl (by decide +kernel)))) (da_cons (dk_of (de_lam TB rfl tt_lam (by rfl) (lamI_at (sc0 := defScope st_law) (lms := lms_law) (i := 8) (by rfl) rfl (by decide +kernel)))) (da_cons (dk_of (de_lam TB rfl tt_lam (by rfl) (lamI_at (sc0 := defScope st_law) (lms := lms_law) (i := 9) (by rfl) rfl (by decide +kernel)))) (da_cons (dk_of (de_lam TB rfl tt_lam (by rfl) (lamI_at (sc0 := defScope st_law) (lms := lms_law) (i := 10) (by rfl) rfl (by decide +kernel)))) (da_cons (dk_of (de_lam TB rfl tt_lam (by rfl) (lamI_at (sc0 := defScope st_law) (lms := lms_law) (i := 11) (by rfl) rfl (by decide +kernel)))) (da_cons (dk_of (de_lam TB rfl tt_lam (by rfl) (lamI_at (sc0 := defScope st_law) (lms := lms_law) (i := 12) (by rfl) rfl (by decide +kernel)))) (da_cons (dk_of (de_lam TB rfl tt_lam (by rfl) (lamI_at (sc0 := defScope st_law) (lms := lms_law) (i := 13) (by rfl) rfl (by decide +kernel)))) (da_cons (dk_of (de_lam TB rfl tt_lam (by rfl) (lamI_at (sc0 := defScope st_law) (lms := lms_law) (i := 14) (by rfl) rfl (by decide +kernel)))) (da_cons (dk_of (de_lam TB rfl tt_lam (by rfl) (lamI_at (sc0 := defScope st_law) (lms := lms_law) (i := 15) (by rfl) rfl (by decide +kernel)))) (da_cons (dk_of (de_lam TB rfl tt_lam (by rfl) (lamI_at (sc0 := defScope st_law) (lms := lms_law) (i := 16) (by rfl) rfl (by decide +kernel)))) (da_cons (dk_of (de_lam TB rfl tt_lam (by rfl) (lamI_at (sc0 := defScope st_law) (lms := lms_law) (i := 17) (by rfl) rfl (by decide +kernel)))) (da_cons (dk_of (de_lam TB rfl tt_lam (by rfl) (lamI_at (sc0 := defScope st_law) (lms := lms_law) (i := 18) (by rfl) rfl (by decide +kernel)))) da_nil))))))))))))))))
  (db_cons (ds_if (t_ne hr (dk_of (de_bads (j := 28) (j1 := 0) TO (hr.mono (by decide)) T.gd_11 T.kd_11 hL rfl sc_law.nd (di_any rfl (de_var (pv 22))) (blkOk_by (N := N_law) (sc := defScope st_law) (by decide +kernel)) (fun _ _ _ => rfl) rfl (fun _ _ _ => ⟨.inl rfl, rfl⟩) (fun _ _ _ => .inl rfl))) (dk_of (de_lst da_nil))) (db_one (ds_ret de_bl)) db_nil)
  (db_one (ds_ret (de_and (e_eq hr (dk_of (de_lc (own := [("k", 3)]) rfl sc_law.nd (di_any rfl (de_lst (da_cons (dk_of de_int) (da_cons (dk_of de_int) (da_cons (dk_of de_int) (da_cons (dk_of de_int) da_nil)))))) (blkOk_by (N := N_law) (sc := defScope st_law) (by decide +kernel)) (is := [3]) (by decide) (by intro j hj; exact (free_lams (free_of (by revert j hj; decide)))) (fun s5 H5 C5 cl5 fp5 => (dg_name sc_law.nd rfl (.inl rfl) (free_lams (free_of (by decide))))) nox_n (fun s5 H5 C5 cl5 fp5 => dts_nil) (fun s5 H5 C5 cl5 fp5 => (dc_meth (G_Numerals_text_0) hW (hr.mono (by decide)) takes_E0 T.cl0 T.me_4 (dk_of (de_var (pv 26))) (da_cons (dk_of (de_var (pv 3))) da_nil))))) (dk_of (de_lst (da_cons (dk_of de_str) (da_cons (dk_of de_str) (da_cons (dk_of de_str) (da_cons (dk_of de_str) da_nil))))))) (de_and (e_eq hr (dk_of (dc_meth (G_Numerals_number_0) hW (hr.mono (by decide)) tk T.cl0 T.me_5 (dk_of (de_var (pv 26))) (da_cons (dk_of de_str) da_nil))) (dk_of de_int)) (de_one (e_eq hr (dk_of (dc_meth0 (G_Numerals_end_0) hW (hr.mono (by decide)) tk T.cl0 T.me_1 (dk_of (de_var (pv 26))))) (dk_of de_int)))))))))))
theorem dk_law_0 (D0 : DefAt K "law" "law" st_law (fa 13) (ca 13) .none) (h : Body_law P w K mg base cc xx fa ca ts (lamLaw ta)) : Dk P w K mg base cc xx ts (lamLaw ta) 8 (fa 13) ["script"] [false] F_law [] :=
  Dk.mk0 (k := 7) D0 sc_law rfl (by decide) (fun _ _ _ _ _ _ us hl => match us, hl with | [_], _ => rfl) h
end K08
end

section
set_option Elab.async false
set_option linter.all false
set_option maxRecDepth 100000
set_option maxHeartbeats 8000000
namespace K08
open PySem PySem.Spec PyProof.Rows L2 DL
open PySem.W (mg_of mg_none_of) in
theorem all_mk (LT : ∀ ns : List Int, ns.length ≤ 63 → (∀ z ∈ ns, Builtin.Int.intBits z ≤ 1048576) → ∃ ps, ps.length = 1 ∧ F_law [.scr ns] = .ok (.bl true) ps) {l : PySem.W.OpenLaw} {w : World} {K : PySem.W.Frag} {h : Heap} {mg : Str → Option Value} {fa C0 CX f0 c0 T0 f1 c1 f2 c2 f3 c3 f4 c4 f5 c5 f6 c6 f7 c7 f8 c8 f9 c9 f10 c10 f11 c11 f12 c12 f13 c13 P0 P6 P13 : Addr} (X : K.In h) (G : h.Ns mainGlobals mg) (hfa : mg "law" = some (.ref fa))
    {od0 od1 od2 od3 od4 od5 od6 od7 od8 od9 od10 od11 od12 od13 an0 an1 an2 an3 an4 an5 an6 an7 an8 an9 an10 an11 an12 an13 odT0 odc0 odc6 odc13 : Option Addr} {sl0 sl1 sl2 sl3 sl4 sl5 sl6 sl7 sl8 sl9 sl10 sl11 sl12 sl13 slT0 slc0 slc6 slc13 : Array (Option Value)} {oc0 kV0 dc0 pm0 ct0 u0_0 u0_1 u0_2 ocT0 oc1 kV1 dc1 pm1 ct1 oc2 kV2 dc2 pm2 ct2 oc3 kV3 dc3 pm3 ct3 oc4 kV4 dc4 pm4 ct4 oc5 kV5 dc5 pm5 ct5 oc6 kV6 dc6 pm6 ct6 oc7 kV7 dc7 pm7 ct7 oc8 kV8 dc8 pm8 ct8 oc9 kV9 dc9 pm9 ct9 oc10 kV10 dc10 pm10 ct10 oc11 kV11 dc11 pm11 ct11 oc12 kV12 dc12 pm12 ct12 oc13 kV13 dc13 pm13 ct13 : Value} {vc0 vc6 vc13 : Array Value} {nT0 : Nat} {tk_MOST_BASE : Tok}
    (aC0 : PySem.W.nsIn K mainGlobals "Numerals" = some (some (.ref C0)))
    (pg0 : PySem.W.plainGet K C0 Str.empty = true)
    (hd0 : PySem.W.hasDictIn K C0 = true)
    (po0 : PySem.W.plainOver K C0 = true)
    (sa0 : PySem.W.findIn K (.ref C0) "__setattr__" = some (some (.builtin "object.__setattr__")))
    (mk0 : PySem.W.makesIn K C0 = true)
    (kc0 : PySem.W.keepIn K (.ref C0) = true)
    (na0_base : PySem.W.findIn K (.ref C0) "base" = some none)
    (na0_link : PySem.W.findIn K (.ref C0) "link" = some none)
    (na0_one : PySem.W.findIn K (.ref C0) "one" = some none)
    (na0_order : PySem.W.findIn K (.ref C0) "order" = some none)
    (na0_powers : PySem.W.findIn K (.ref C0) "powers" = some none)
    (na0_small : PySem.W.findIn K (.ref C0) "small" = some none)
    (aX : PySem.W.nsIn K mainGlobals "WordError" = some (some (.ref CX)))
    (xX : PySem.W.excIn K CX [.type "ValueError", .type "Exception", .type "BaseException", .type "object"] "ValueError.__new__" = true)
    (kX : PySem.W.keepIn K (.ref CX) = true)
    (bX : PySem.W.subIn K (.ref CX) (.type "BaseException") = some true)
    (tX : PySem.W.typeIn K (.ref CX) = some (.type "type"))
    (iX : PySem.W.isClsIn K CX = true)
    (sX : PySem.W.subIn K (.ref CX) (.ref CX) = some true)
    (pX : PySem.W.subIn K (.ref CX) (.type "StopIteration") = some false)
    (a0 : PySem.W.findIn K (.ref C0) "__init__" = some (some (.ref f0)))
    (i0 : PySem.W.isFn K (.ref f0) = true)
    (l0 : K.lookup f0 = some ⟨oc0, od0, .func (PySem.W.fnOf "__init__" "Numerals.__init__" (defArgs st_Numerals_init) (defBody st_Numerals_init) (defScope st_Numerals_init) (.ref T0) kV0 dc0 pm0 an0 (.ref c0) ct0), sl0⟩)
    (q0 : PySem.W.codeIn K (.ref c0) "Numerals.__init__" = true)
    (k0 : PySem.W.keepIn K (.ref f0) = true)
    (lT0 : K.lookup T0 = some ⟨ocT0, odT0, .seq (List.toArray [u0_0, u0_1, u0_2]) nT0, slT0⟩)
    (r0_0 : RelV (.str "high") u0_0)
    (r0_1 : RelV (.str "") u0_1)
    (r0_2 : RelV (.bl false) u0_2)
    (a1 : PySem.W.findIn K (.ref C0) "end" = some (some (.ref f1)))
    (i1 : PySem.W.isFn K (.ref f1) = true)
    (l1 : K.lookup f1 = some ⟨oc1, od1, .func (PySem.W.fnOf "end" "Numerals.end" (defArgs st_Numerals_end) (defBody st_Numerals_end) (defScope st_Numerals_end) .none kV1 dc1 pm1 an1 (.ref c1) ct1), sl1⟩)
    (q1 : PySem.W.codeIn K (.ref c1) "Numerals.end" = true)
    (k1 : PySem.W.keepIn K (.ref f1) = true)
    (a2 : PySem.W.findIn K (.ref C0) "digits" = some (some (.ref f2)))
    (i2 : PySem.W.isFn K (.ref f2) = true)
    (l2 : K.lookup f2 = some ⟨oc2, od2, .func (PySem.W.fnOf "digits" "Numerals.digits" (defArgs st_Numerals_digits) (defBody st_Numerals_digits) (defScope st_Numerals_digits) .none kV2 dc2 pm2 an2 (.ref c2) ct2), sl2⟩)
    (q2 : PySem.W.codeIn K (.ref c2) "Numerals.digits" = true)
    (k2 : PySem.W.keepIn K (.ref f2) = true)
    (a3 : PySem.W.findIn K (.ref C0) "words" = some (some (.ref f3)))
    (i3 : PySem.W.isFn K (.ref f3) = true)
    (l3 : K.lookup f3 = some ⟨oc3, od3, .func (PySem.W.fnOf "words" "Numerals.words" (defArgs st_Numerals_words) (defBody st_Numerals_words) (defScope st_Numerals_words) .none kV3 dc3 pm3 an3 (.ref c3) ct3), sl3⟩)
    (q3 : PySem.W.codeIn K (.ref c3) "Numerals.words" = true)
    (k3 : PySem.W.keepIn K (.ref f3) = true)
    (a4 : PySem.W.findIn K (.ref C0) "text" = some (some (.ref f4)))
    (i4 : PySem.W.isFn K (.ref f4) = true)
    (l4 : K.lookup f4 = some ⟨oc4, od4, .func (PySem.W.fnOf "text" "Numerals.text" (defArgs st_Numerals_text) (defBody st_Numerals_text) (defScope st_Numerals_text) .none kV4 dc4 pm4 an4 (.ref c4) ct4), sl4⟩)
    (q4 : PySem.W.codeIn K (.ref c4) "Numerals.text" = true)
    (k4 : PySem.W.keepIn K (.ref f4) = true)
    (a5 : PySem.W.findIn K (.ref C0) "number" = some (some (.ref f5)))
    (i5 : PySem.W.isFn K (.ref f5) = true)
    (l5 : K.lookup f5 = some ⟨oc5, od5, .func (PySem.W.fnOf "number" "Numerals.number" (defArgs st_Numerals_number) (defBody st_Numerals_number) (defScope st_Numerals_number) .none kV5 dc5 pm5 an5 (.ref c5) ct5), sl5⟩)
    (q5 : PySem.W.codeIn K (.ref c5) "Numerals.number" = true)
    (k5 : PySem.W.keepIn K (.ref f5) = true)
    (a6 : PySem.W.nsIn K mainGlobals "counted" = some (some (.ref f6)))
    (l6 : K.lookup f6 = some ⟨oc6, od6, .func (PySem.W.fnOf "counted" "counted" (defArgs st_counted) (defBody st_counted) (defScope st_counted) .none kV6 dc6 pm6 an6 (.ref c6) ct6), sl6⟩)
    (q6 : PySem.W.codeIn K (.ref c6) "counted" = true)
    (k6 : PySem.W.keepIn K (.ref f6) = true)
    (a7 : PySem.W.nsIn K mainGlobals "shortest" = some (some (.ref f7)))
    (l7 : K.lookup f7 = some ⟨oc7, od7, .func (PySem.W.fnOf "shortest" "shortest" (defArgs st_shortest) (defBody st_shortest) (defScope st_shortest) .none kV7 dc7 pm7 an7 (.ref c7) ct7), sl7⟩)
    (q7 : PySem.W.codeIn K (.ref c7) "shortest" = true)
    (k7 : PySem.W.keepIn K (.ref f7) = true)
    (a8 : PySem.W.nsIn K mainGlobals "_law_dice" = some (some (.ref f8)))
    (l8 : K.lookup f8 = some ⟨oc8, od8, .func (PySem.W.fnOf "_law_dice" "_law_dice" (defArgs st_law_dice) (defBody st_law_dice) (defScope st_law_dice) .none kV8 dc8 pm8 an8 (.ref c8) ct8), sl8⟩)
    (q8 : PySem.W.codeIn K (.ref c8) "_law_dice" = true)
    (k8 : PySem.W.keepIn K (.ref f8) = true)
    (a9 : PySem.W.nsIn K mainGlobals "_law_roll" = some (some (.ref f9)))
    (l9 : K.lookup f9 = some ⟨oc9, od9, .func (PySem.W.fnOf "_law_roll" "_law_roll" (defArgs st_law_roll) (defBody st_law_roll) (defScope st_law_roll) .none kV9 dc9 pm9 an9 (.ref c9) ct9), sl9⟩)
    (q9 : PySem.W.codeIn K (.ref c9) "_law_roll" = true)
    (k9 : PySem.W.keepIn K (.ref f9) = true)
    (a10 : PySem.W.nsIn K mainGlobals "_law_rounds" = some (some (.ref f10)))
    (l10 : K.lookup f10 = some ⟨oc10, od10, .func (PySem.W.fnOf "_law_rounds" "_law_rounds" (defArgs st_law_rounds) (defBody st_law_rounds) (defScope st_law_rounds) .none kV10 dc10 pm10 an10 (.ref c10) ct10), sl10⟩)
    (q10 : PySem.W.codeIn K (.ref c10) "_law_rounds" = true)
    (k10 : PySem.W.keepIn K (.ref f10) = true)
    (a11 : PySem.W.nsIn K mainGlobals "_law_told" = some (some (.ref f11)))
    (l11 : K.lookup f11 = some ⟨oc11, od11, .func (PySem.W.fnOf "_law_told" "_law_told" (defArgs st_law_told) (defBody st_law_told) (defScope st_law_told) .none kV11 dc11 pm11 an11 (.ref c11) ct11), sl11⟩)
    (q11 : PySem.W.codeIn K (.ref c11) "_law_told" = true)
    (k11 : PySem.W.keepIn K (.ref f11) = true)
    (a12 : PySem.W.nsIn K mainGlobals "_law_words" = some (some (.ref f12)))
    (l12 : K.lookup f12 = some ⟨oc12, od12, .func (PySem.W.fnOf "_law_words" "_law_words" (defArgs st_law_words) (defBody st_law_words) (defScope st_law_words) .none kV12 dc12 pm12 an12 (.ref c12) ct12), sl12⟩)
    (q12 : PySem.W.codeIn K (.ref c12) "_law_words" = true)
    (k12 : PySem.W.keepIn K (.ref f12) = true)
    (a13 : PySem.W.nsIn K mainGlobals "law" = some (some (.ref f13)))
    (l13 : K.lookup f13 = some ⟨oc13, od13, .func (PySem.W.fnOf "law" "law" (defArgs st_law) (defBody st_law) (defScope st_law) .none kV13 dc13 pm13 an13 (.ref c13) ct13), sl13⟩)
    (q13 : PySem.W.codeIn K (.ref c13) "law" = true)
    (k13 : PySem.W.keepIn K (.ref f13) = true)
    (z_abs : PySem.W.nsIn K mainGlobals "abs" = some none)
    (z_any : PySem.W.nsIn K mainGlobals "any" = some none)
    (z_enumerate : PySem.W.nsIn K mainGlobals "enumerate" = some none)
    (z_int : PySem.W.nsIn K mainGlobals "int" = some none)
    (z_len : PySem.W.nsIn K mainGlobals "len" = some none)
    (z_list : PySem.W.nsIn K mainGlobals "list" = some none)
    (z_min : PySem.W.nsIn K mainGlobals "min" = some none)
    (z_range : PySem.W.nsIn K mainGlobals "range" = some none)
    (z_str : PySem.W.nsIn K mainGlobals "str" = some none)
    (z_tuple : PySem.W.nsIn K mainGlobals "tuple" = some none)
    (kc_MOST_BASE : PySem.W.nsIn K mainGlobals "MOST_BASE" = some (some (.int 60 tk_MOST_BASE)))
    (xk0 : K.lookup c0 = some ⟨.type "code", odc0, .fields vc0, slc0⟩)
    (v0 : (vc0[11]? : Option Value) = some (.ref P0))
    (hh0 : PySem.W.codeHdIn K c0 P0 = true)
    (nt0 : K.lookup P0 = none)
    (xk6 : K.lookup c6 = some ⟨.type "code", odc6, .fields vc6, slc6⟩)
    (v6 : (vc6[11]? : Option Value) = some (.ref P6))
    (hh6 : PySem.W.codeHdIn K c6 P6 = true)
    (nt6 : K.lookup P6 = none)
    (xk13 : K.lookup c13 = some ⟨.type "code", odc13, .fields vc13, slc13⟩)
    (v13 : (vc13[11]? : Option Value) = some (.ref P13))
    (hh13 : PySem.W.codeHdIn K c13 P13 = true)
    (nt13 : K.lookup P13 = none)
    (hne : P13 ∉ [P0, P6])
    (hT : ∀ P ∈ [P0, P6, P13], h.get? P = some { cls := .none, data := .fields #[] })
    : LamX.LawAtS l w K (L2.CX l.prog w) 8 63 "script" mg fa h := by
  have e := hfa.symm.trans (mg_of X G a13)
  have e2 : f13 = fa := by cases e; rfl
  subst e2
  let sp := spD (W0 K (fun i => [C0].getD i 0) (fun _ => CX) (TT [P0, P6] (lamLaw (fun i => [P0, 0, 0, 0, 0, 0, P6, 0, 0, 0, 0, 0, 0, P13].getD i 0)) [] []) (fun _ _ _ _ => False) "") [false] F_law
  refine ⟨PySem.W.fnOf "law" "law" (defArgs st_law) (defBody st_law) (defScope st_law) .none kV13 dc13 pm13 an13 (.ref c13) ct13, [(c0, P0), (c6, P6), (c13, P13)], sp, ?_, ?_, ?_, fun s v => .of_eq rfl, ?_, fun base KB GB TBs => ?_⟩
  · intro p hp
    simp only [List.mem_cons, List.not_mem_nil, or_false] at hp
    rcases hp with rfl | rfl | rfl
    · exact hT _ (by simp)
    · exact hT _ (by simp)
    · exact hT _ (by simp)
  · intro p hp
    simp only [List.mem_cons, List.not_mem_nil, or_false] at hp
    rcases hp with rfl | rfl | rfl
    · exact nt0
    · exact nt6
    · exact nt13
  · intro p hp
    simp only [List.mem_cons, List.not_mem_nil, or_false] at hp
    rcases hp with rfl | rfl | rfl
    · exact PySem.W.codeHd_of_K X hh0
    · exact PySem.W.codeHd_of_K X hh6
    · exact PySem.W.codeHd_of_K X hh13
  · intro H a ns hl hb ht hS
    refine law_sp (LT ns hl hb) hS (tt_start (fun P hP => ?_) fun q hq => ?_)
    · simp only [List.mem_cons, List.not_mem_nil, or_false] at hP
      rcases hP with hP | hP
      · rw [hP]; exact ht (c0, P0) (by simp)
      · rw [hP]; exact ht (c6, P6) (by simp)
    · cases hq
      exact ⟨hne, ht (c13, P13) (by simp)⟩
  have TB0 := TBs (c0, P0) (by simp)
  have TB6 := TBs (c6, P6) (by simp)
  have TB13 := TBs (c13, P13) (by simp)
  have te : PySem.W.exmOne K (.ref CX) (.ref CX) = some true := exm_self bX iX tX sX
  have T : Txt K mg base (fun i => [C0].getD i 0) (fun _ => CX) (fun i => [f0, f1, f2, f3, f4, f5, f6, f7, f8, f9, f10, f11, f12, f13].getD i 0) (fun i => [c0, c1, c2, c3, c4, c5, c6, c7, c8, c9, c10, c11, c12, c13].getD i 0) (fun i => [P0, 0, 0, 0, 0, 0, P6, 0, 0, 0, 0, 0, 0, P13].getD i 0) [P0, P6] :=
    { cl0 := ⟨pg0, hd0, po0, sa0⟩, gc0 := mg_of X G aC0, mk0 := ⟨mk0, a0, i0, kc0⟩, na0_base := na0_base, na0_link := na0_link, na0_one := na0_one, na0_order := na0_order, na0_powers := na0_powers, na0_small := na0_small, me_1 := ⟨a1, i1, k1⟩, me_2 := ⟨a2, i2, k2⟩, me_3 := ⟨a3, i3, k3⟩, me_4 := ⟨a4, i4, k4⟩, me_5 := ⟨a5, i5, k5⟩, gd_6 := mg_of X G a6, kd_6 := k6, gd_7 := mg_of X G a7, kd_7 := k7, gd_8 := mg_of X G a8, kd_8 := k8, gd_9 := mg_of X G a9, kd_9 := k9, gd_10 := mg_of X G a10, kd_10 := k10, gd_11 := mg_of X G a11, kd_11 := k11, gd_12 := mg_of X G a12, kd_12 := k12, gx1 := ⟨xX, mg_of X G aX, kX, bX, tX⟩, te := fun _ => te, hX := fun _ => pX, b_abs := mg_none_of X G z_abs, b_any := mg_none_of X G z_any, b_enumerate := mg_none_of X G z_enumerate, b_int := mg_none_of X G z_int, b_len := mg_none_of X G z_len, b_list := mg_none_of X G z_list, b_min := mg_none_of X G z_min, b_range := mg_none_of X G z_range, b_str := mg_none_of X G z_str, b_tuple := mg_none_of X G z_tuple, k_MOST_BASE := ⟨_, mg_of X G kc_MOST_BASE⟩, bm := bmod_of TB13.bm, cd_0 := TB0.code, tm_0 := by simp, cd_6 := TB6.code, tm_6 := by simp }
  have D0 : DefAtD K "__init__" "Numerals.__init__" st_Numerals_init f0 c0 [(.str "high"), (.str ""), (.bl false)] := ⟨⟨oc0, od0, T0, kV0, dc0, pm0, an0, ct0, sl0, l0, q0, ⟨ocT0, odT0, .seq (List.toArray [u0_0, u0_1, u0_2]) nT0, slT0⟩, [u0_0, u0_1, u0_2], nT0, lT0, rfl, (.cons r0_0 (.cons r0_1 (.cons r0_2 .nil)))⟩, k0⟩
  have D1 : DefAt K "end" "Numerals.end" st_Numerals_end f1 c1 .none := ⟨⟨oc1, od1, kV1, dc1, pm1, an1, ct1, sl1, l1, q1⟩⟩
  have D2 : DefAt K "digits" "Numerals.digits" st_Numerals_digits f2 c2 .none := ⟨⟨oc2, od2, kV2, dc2, pm2, an2, ct2, sl2, l2, q2⟩⟩
  have D3 : DefAt K "words" "Numerals.words" st_Numerals_words f3 c3 .none := ⟨⟨oc3, od3, kV3, dc3, pm3, an3, ct3, sl3, l3, q3⟩⟩
  have D4 : DefAt K "text" "Numerals.text" st_Numerals_text f4 c4 .none := ⟨⟨oc4, od4, kV4, dc4, pm4, an4, ct4, sl4, l4, q4⟩⟩
  have D5 : DefAt K "number" "Numerals.number" st_Numerals_number f5 c5 .none := ⟨⟨oc5, od5, kV5, dc5, pm5, an5, ct5, sl5, l5, q5⟩⟩
  have D6 : DefAt K "counted" "counted" st_counted f6 c6 .none := ⟨⟨oc6, od6, kV6, dc6, pm6, an6, ct6, sl6, l6, q6⟩⟩
  have D7 : DefAt K "shortest" "shortest" st_shortest f7 c7 .none := ⟨⟨oc7, od7, kV7, dc7, pm7, an7, ct7, sl7, l7, q7⟩⟩
  have D8 : DefAt K "_law_dice" "_law_dice" st_law_dice f8 c8 .none := ⟨⟨oc8, od8, kV8, dc8, pm8, an8, ct8, sl8, l8, q8⟩⟩
  have D9 : DefAt K "_law_roll" "_law_roll" st_law_roll f9 c9 .none := ⟨⟨oc9, od9, kV9, dc9, pm9, an9, ct9, sl9, l9, q9⟩⟩
  have D10 : DefAt K "_law_rounds" "_law_rounds" st_law_rounds f10 c10 .none := ⟨⟨oc10, od10, kV10, dc10, pm10, an10, ct10, sl10, l10, q10⟩⟩
  have D11 : DefAt K "_law_told" "_law_told" st_law_told f11 c11 .none := ⟨⟨oc11, od11, kV11, dc11, pm11, an11, ct11, sl11, l11, q11⟩⟩
  have D12 : DefAt K "_law_words" "_law_words" st_law_words f12 c12 .none := ⟨⟨oc12, od12, kV12, dc12, pm12, an12, ct12, sl12, l12, q12⟩⟩
  have B_Numerals_init := body_Numerals_init (P := l.prog) (w := w) (lam := lamLaw (fun i => [P0, 0, 0, 0, 0, 0, P6, 0, 0, 0, 0, 0, 0, P13].getD i 0)) T 
  have G_Numerals_init_0 := dk_Numerals_init_0 D0 B_Numerals_init
  have G_Numerals_init_1 := dk_Numerals_init_1 D0 B_Numerals_init
  have G_Numerals_init_2 := dk_Numerals_init_2 D0 B_Numerals_init
  have G_Numerals_init_3 := dk_Numerals_init_3 D0 B_Numerals_init
  have B_Numerals_end := body_Numerals_end (P := l.prog) (w := w) (lam := lamLaw (fun i => [P0, 0, 0, 0, 0, 0, P6, 0, 0, 0, 0, 0, 0, P13].getD i 0)) T 
  have G_Numerals_end_0 := dk_Numerals_end_0 D1 B_Numerals_end
  have B_Numerals_digits := body_Numerals_digits (P := l.prog) (w := w) (lam := lamLaw (fun i => [P0, 0, 0, 0, 0, 0, P6, 0, 0, 0, 0, 0, 0, P13].getD i 0)) T 
  have G_Numerals_digits_0 := dk_Numerals_digits_0 D2 B_Numerals_digits
  have B_Numerals_words := body_Numerals_words (P := l.prog) (w := w) (lam := lamLaw (fun i => [P0, 0, 0, 0, 0, 0, P6, 0, 0, 0, 0, 0, 0, P13].getD i 0)) T G_Numerals_digits_0 G_Numerals_end_0
  have G_Numerals_words_0 := dk_Numerals_words_0 D3 B_Numerals_words
  have B_Numerals_text := body_Numerals_text (P := l.prog) (w := w) (lam := lamLaw (fun i => [P0, 0, 0, 0, 0, 0, P6, 0, 0, 0, 0, 0, 0, P13].getD i 0)) T G_Numerals_words_0
  have G_Numerals_text_0 := dk_Numerals_text_0 D4 B_Numerals_text
  have B_Numerals_number := body_Numerals_number (P := l.prog) (w := w) (lam := lamLaw (fun i => [P0, 0, 0, 0, 0, 0, P6, 0, 0, 0, 0, 0, 0, P13].getD i 0)) T G_Numerals_end_0 G_Numerals_text_0
  have G_Numerals_number_0 := dk_Numerals_number_0 D5 B_Numerals_number
  have B_counted := body_counted (P := l.prog) (w := w) (lam := lamLaw (fun i => [P0, 0, 0, 0, 0, 0, P6, 0, 0, 0, 0, 0, 0, P13].getD i 0)) T G_Numerals_text_0
  have G_counted_0 := dk_counted_0 D6 B_counted
  have B_shortest := body_shortest (P := l.prog) (w := w) (lam := lamLaw (fun i => [P0, 0, 0, 0, 0, 0, P6, 0, 0, 0, 0, 0, 0, P13].getD i 0)) T G_Numerals_end_0 G_Numerals_words_0
  have G_shortest_0 := dk_shortest_0 D7 B_shortest
  have B_law_dice := body_law_dice (P := l.prog) (w := w) (lam := lamLaw (fun i => [P0, 0, 0, 0, 0, 0, P6, 0, 0, 0, 0, 0, 0, P13].getD i 0)) T 
  have G_law_dice_0 := dk_law_dice_0 D8 B_law_dice
  have B_law_roll := body_law_roll (P := l.prog) (w := w) (lam := lamLaw (fun i => [P0, 0, 0, 0, 0, 0, P6, 0, 0, 0, 0, 0, 0, P13].getD i 0)) T 
  have G_law_roll_0 := dk_law_roll_0 D9 B_law_roll
  have B_law_rounds := body_law_rounds (P := l.prog) (w := w) (lam := lamLaw (fun i => [P0, 0, 0, 0, 0, 0, P6, 0, 0, 0, 0, 0, 0, P13].getD i 0)) T G_law_dice_0
  have G_law_rounds_0 := dk_law_rounds_0 D10 B_law_rounds
  have B_law_words := body_law_words (P := l.prog) (w := w) (lam := lamLaw (fun i => [P0, 0, 0, 0, 0, 0, P6, 0, 0, 0, 0, 0, 0, P13].getD i 0)) T 
  have G_law_words_0 := dk_law_words_0 D12 B_law_words
  have BL := body_law (P := l.prog) (w := w) T TB13 D11 G_Numerals_digits_0 G_Numerals_end_0 G_Numerals_init_0 G_Numerals_init_1 G_Numerals_init_2 G_Numerals_init_3 G_Numerals_number_0 G_Numerals_text_0 G_Numerals_words_0 G_counted_0 G_law_roll_0 G_law_rounds_0 G_law_words_0 G_shortest_0
  exact fn_DC l13 q13 sc_law rfl (by decide) fun A outer s H vs E hr tk => BL [] [] _ _ A outer s H vs E hr tk
end K08
end

section
set_option Elab.async false
set_option linter.all false
set_option maxRecDepth 100000
set_option maxHeartbeats 4000000
/-! N1: meanings evaluated. -/
namespace DL
open PySem PySem.Spec PyProof.Rows L2
section
variable {α β : Type}
@[simp] theorem bind_ap (m : M α) (f : α → M β) (ρ : Rho) : M.bind m f ρ = (match m ρ with
  | .ok a ρ' => f a ρ'
  | .exc c ρ' => .exc c ρ'
  | .bad => .bad) := rfl
@[simp] theorem pure_ap (a : α) (ρ : Rho) : M.pure a ρ = .ok a ρ := rfl
@[simp] theorem opt_some_ap (a : α) (ρ : Rho) : M.opt (some a) ρ = .ok a ρ := rfl
@[simp] theorem opt_none_ap (ρ : Rho) : M.opt (none : Option α) ρ = .bad := rfl
@[simp] theorem bad_ap (ρ : Rho) : (M.bad : M α) ρ = .bad := rfl
@[simp] theorem exc_ap (c : Nat) (ρ : Rho) : (M.exc c : M α) ρ = .exc c ρ := rfl
end
@[simp] theorem nameK_ap (i : Nat) (ρ : Rho) : nameK i ρ = (match ρ[i]? with
  | some (some _) => .ok (.s i) ρ
  | _ => .bad) := rfl
@[simp] theorem nameE_ap (i : Nat) (ρ : Rho) : nameE i ρ = (match ρ[i]? with
  | some (some d) => if isFz d = true then .ok d ρ else .ok (fz d) (ρ.set i (some (fz d)))
  | _ => .bad) := rfl
@[simp] theorem putS_ap (i : Nat) (d : D) (ρ : Rho) : putS i d ρ = if i < ρ.length then .ok .nx (ρ.set i (some d)) else .bad := rfl
@[simp] theorem gN_ap (i : Nat) (d : D) (ρ : Rho) : gN i d ρ = if i < ρ.length then .ok () (ρ.set i (some d)) else .bad := rfl
@[simp] theorem fz_int (i : Int) : fz (.int i) = .int i := by simp [fz]
@[simp] theorem fz_str (i : Str) : fz (.str i) = .str i := by simp [fz]
@[simp] theorem fz_bl (i : Bool) : fz (.bl i) = .bl i := by simp [fz]
@[simp] theorem fz_non : fz .non = .non := by simp [fz]
@[simp] theorem fz_tup (ds : List D) : fz (.tup ds) = .tup ds := by simp [fz]
@[simp] theorem fz_ptup (ds : List D) : fz (.ptup ds) = .ptup ds := by simp [fz]
@[simp] theorem fz_scr (ds : List Int) : fz (.scr ds) = .scr ds := by simp [fz]
@[simp] theorem fz_lst' (o : Bool) (ds : List D) : fz (.lst o ds) = .lst false (ds.map fz) := by simp [fz, fzL_map]
@[simp] theorem fz_ins (o : Bool) (c : Nat) (fs : List Str) (ds : List D) : fz (.ins o c fs ds) = .ins false c fs (ds.map fz) := by simp [fz, fzL_map]
@[simp] theorem fz_dk (o : Bool) (c : List Key) (ds : List D) : fz (.dk o c ds) = .dk false c (ds.map fz) := by simp [fz, fzL_map]
theorem isFzL_all : ∀ ds : List D, isFzL ds = ds.all isFz
  | [] => by simp [isFzL]
  | d :: ds => by simp [isFzL, isFzL_all ds]
@[simp] theorem isFz_int (i : Int) : isFz (.int i) = true := by simp [isFz]
@[simp] theorem isFz_str (i : Str) : isFz (.str i) = true := by simp [isFz]
@[simp] theorem isFz_bl (i : Bool) : isFz (.bl i) = true := by simp [isFz]
@[simp] theorem isFz_non : isFz .non = true := by simp [isFz]
@[simp] theorem isFz_tup (ds : List D) : isFz (.tup ds) = true := by simp [isFz]
@[simp] theorem isFz_ptup (ds : List D) : isFz (.ptup ds) = true := by simp [isFz]
@[simp] theorem isFz_scr (ds : List Int) : isFz (.scr ds) = true := by simp [isFz]
@[simp] theorem isFz_lst (o : Bool) (ds : List D) : isFz (.lst o ds) = (!o && ds.all isFz) := by simp [isFz, isFzL_all]
@[simp] theorem isFz_ins (o : Bool) (c : Nat) (fs : List Str) (ds : List D) : isFz (.ins o c fs ds) = (!o && ds.all isFz) := by simp [isFz, isFzL_all]
@[simp] theorem isFzL_eq (ds : List D) : isFzL ds = ds.all isFz := isFzL_all ds
@[simp] theorem kids_int (i : Int) : kids (.int i) = [] := rfl
@[simp] theorem kids_str (i : Str) : kids (.str i) = [] := rfl
@[simp] theorem kids_bl (i : Bool) : kids (.bl i) = [] := rfl
@[simp] theorem kids_non : kids .non = [] := rfl
@[simp] theorem kids_tup (ds : List D) : kids (.tup ds) = ds := rfl
@[simp] theorem kids_ptup (ds : List D) : kids (.ptup ds) = ds := rfl
@[simp] theorem kids_lst (o : Bool) (ds : List D) : kids (.lst o ds) = ds := rfl
@[simp] theorem kids_scr (ds : List Int) : kids (.scr ds) = [] := rfl
@[simp] theorem kids_ins (o : Bool) (c : Nat) (fs : List Str) (ds : List D) : kids (.ins o c fs ds) = ds := rfl
@[simp] theorem get_v (ρ : Rho) (d : D) : (Tk.v d).get ρ = if (kids d).all isFz = true then some d else none := by
  show (if isFzL (kids d) = true then some d else none) = _
  rw [isFzL_all]
@[simp] theorem get_s (ρ : Rho) (i : Nat) : (Tk.s i).get ρ = (match ρ[i]? with
    | some (some d) => if (kids d).all isFz = true then some d else none
    | _ => none) := by
  show (match ρ[i]? with | some (some d) => if isFzL (kids d) = true then some d else none | _ => none) = _
  split <;> simp_all
@[simp] theorem raw_v (ρ : Rho) (d : D) : (Tk.v d).raw ρ = some d := rfl
@[simp] theorem raw_s (ρ : Rho) (i : Nat) : (Tk.s i).raw ρ = (ρ[i]?).join := rfl
@[simp] theorem all_strs (l : List Str) : (l.map D.str).all isFz = true := by simp
@[simp] theorem all_ints (l : List Int) : (l.map D.int).all isFz = true := by simp
@[simp] theorem fzs_strs (l : List Str) : (l.map D.str).map fz = l.map D.str := by simp
theorem seq_ap (a b : M Fl) (ρ : Rho) : seq a b ρ = (match a ρ with
  | .ok .nx ρ' => b ρ'
  | .ok fl ρ' => .ok fl ρ'
  | .exc c ρ' => .exc c ρ'
  | .bad => .bad) := by
  unfold seq
  simp only [bind_ap]
  cases a ρ with
  | ok fl ρ' => cases fl <;> rfl
  | exc c ρ' => rfl
  | bad => rfl
theorem seq_nx {a b : M Fl} {ρ ρ1 : Rho} (h : a ρ = .ok .nx ρ1) : seq a b ρ = b ρ1 := by rw [seq_ap, h]
theorem seq_rt {a b : M Fl} {ρ ρ1 : Rho} {d : D} (h : a ρ = .ok (.rt d) ρ1) : seq a b ρ = .ok (.rt d) ρ1 := by rw [seq_ap, h]
theorem seq_exc {a b : M Fl} {ρ ρ1 : Rho} {c : Nat} (h : a ρ = .exc c ρ1) : seq a b ρ = .exc c ρ1 := by rw [seq_ap, h]
theorem forS_ap (it : M (List D)) (g : D → M Unit) (b : M Fl) (ρ : Rho) : forS it g b ρ = (match it ρ with
  | .ok ds ρ' => forF g b ds ρ'
  | .exc c ρ' => .exc c ρ'
  | .bad => .bad) := by
  unfold forS
  rw [bind_ap]
  cases it ρ <;> rfl
@[simp] theorem forF_nil (g : D → M Unit) (b : M Fl) (ρ : Rho) : forF g b [] ρ = .ok .nx ρ := rfl
theorem forF_cons (g : D → M Unit) (b : M Fl) (d : D) (ds : List D) (ρ : Rho) : forF g b (d :: ds) ρ = (match g d ρ with
  | .ok _ ρ1 => (match b ρ1 with
    | .ok .nx ρ2 => forF g b ds ρ2
    | .ok .ct ρ2 => forF g b ds ρ2
    | .ok .bk ρ2 => .ok .nx ρ2
    | .ok (.rt d) ρ2 => .ok (.rt d) ρ2
    | .exc c ρ2 => .exc c ρ2
    | .bad => .bad)
  | .exc c ρ1 => .exc c ρ1
  | .bad => .bad) := by
  show M.bind (g d) _ ρ = _
  simp only [bind_ap]
  cases g d ρ with
  | ok u ρ1 =>
    simp only
    cases b ρ1 with
    | ok fl ρ2 => cases fl <;> rfl
    | exc c ρ2 => rfl
    | bad => rfl
  | exc c ρ1 => rfl
  | bad => rfl
theorem forF_nx {g : D → M Unit} {b : M Fl} {d : D} {ds : List D} {ρ ρ1 ρ2 : Rho} (h1 : g d ρ = .ok () ρ1) (h2 : b ρ1 = .ok .nx ρ2) : forF g b (d :: ds) ρ = forF g b ds ρ2 := by rw [forF_cons, h1]; simp only; rw [h2]
/-- a loop that goes through -/
theorem for_inv {g : D → M Unit} {b : M Fl} {all : List D} (Inv : List D → Rho → Prop) (hs : ∀ pre d post ρ, all = pre ++ d :: post → Inv pre ρ → ∃ ρ1 ρ2, g d ρ = .ok () ρ1 ∧ (b ρ1 = .ok .nx ρ2 ∨ b ρ1 = .ok .ct ρ2) ∧ Inv (pre ++ [d]) ρ2) :
    ∀ (ds pre : List D) (ρ : Rho), all = pre ++ ds → Inv pre ρ → ∃ ρ', forF g b ds ρ = .ok .nx ρ' ∧ Inv all ρ'
  | [], pre, ρ, e, h => ⟨ρ, rfl, by rw [e, List.append_nil]; exact h⟩
  | d :: ds, pre, ρ, e, h => by
    obtain ⟨ρ1, ρ2, h1, h2, h3⟩ := hs pre d ds ρ e h
    obtain ⟨ρ', h4, h5⟩ := for_inv Inv hs ds (pre ++ [d]) ρ2 (by rw [e]; simp) h3
    refine ⟨ρ', ?_, h5⟩
    rw [forF_cons, h1]
    rcases h2 with h2 | h2 <;> (simp only; rw [h2]; exact h4)
theorem for_all {g : D → M Unit} {b : M Fl} {all : List D} (Inv : List D → Rho → Prop) (ρ : Rho) (h0 : Inv [] ρ) (hs : ∀ pre d post ρ, all = pre ++ d :: post → Inv pre ρ → ∃ ρ1 ρ2, g d ρ = .ok () ρ1 ∧ (b ρ1 = .ok .nx ρ2 ∨ b ρ1 = .ok .ct ρ2) ∧ Inv (pre ++ [d]) ρ2) :
    ∃ ρ', forF g b all ρ = .ok .nx ρ' ∧ Inv all ρ' := for_inv Inv hs all [] ρ rfl h0
theorem whileS_ap (c : M Bool) (b : M Fl) (ρ : Rho) : whileS c b ρ = whileF c b fuel ρ := rfl
theorem whileF_succ (c : M Bool) (b : M Fl) (n : Nat) (ρ : Rho) : whileF c b (n + 1) ρ = (match c ρ with
  | .ok true ρ1 => (match b ρ1 with
    | .ok .nx ρ2 => whileF c b n ρ2
    | .ok .ct ρ2 => whileF c b n ρ2
    | .ok .bk ρ2 => .ok .nx ρ2
    | .ok (.rt d) ρ2 => .ok (.rt d) ρ2
    | .exc c ρ2 => .exc c ρ2
    | .bad => .bad)
  | .ok false ρ1 => .ok .nx ρ1
  | .exc c ρ1 => .exc c ρ1
  | .bad => .bad) := by
  show M.bind c _ ρ = _
  simp only [bind_ap]
  cases c ρ with
  | ok k ρ1 =>
    cases k with
    | false => rfl
    | true =>
      simp only [if_true, bind_ap]
      cases b ρ1 with
      | ok fl ρ2 => cases fl <;> rfl
      | exc c ρ2 => rfl
      | bad => rfl
  | exc c ρ1 => rfl
  | bad => rfl
/-- a while by a measure -/
theorem while_inv {c : M Bool} {b : M Fl} (Inv : Rho → Prop) (mu : Rho → Nat) (Done : Rho → Prop) (hs : ∀ ρ, Inv ρ → (∃ ρ', c ρ = .ok false ρ' ∧ Done ρ') ∨ ∃ ρ1 ρ2, c ρ = .ok true ρ1 ∧ (b ρ1 = .ok .nx ρ2 ∨ b ρ1 = .ok .ct ρ2) ∧ Inv ρ2 ∧ mu ρ2 < mu ρ) :
    ∀ (n : Nat) (ρ : Rho), Inv ρ → mu ρ < n → ∃ ρ', whileF c b n ρ = .ok .nx ρ' ∧ Done ρ'
  | 0, ρ, _, h => absurd h (Nat.not_lt_zero _)
  | n + 1, ρ, hI, h => by
    rw [whileF_succ]
    rcases hs ρ hI with ⟨ρ', h1, h2⟩ | ⟨ρ1, ρ2, h1, h2, h3, h4⟩
    · exact ⟨ρ', by rw [h1], h2⟩
    · obtain ⟨ρ', h5, h6⟩ := while_inv Inv mu Done hs n ρ2 h3 (by omega)
      refine ⟨ρ', ?_, h6⟩
      rw [h1]
      rcases h2 with h2 | h2 <;> (simp only; rw [h2]; exact h5)
theorem while_all {c : M Bool} {b : M Fl} (Inv : Rho → Prop) (mu : Rho → Nat) (Done : Rho → Prop) (ρ : Rho) (h0 : Inv ρ) (hm : mu ρ < 2 ^ 40) (hs : ∀ ρ, Inv ρ → (∃ ρ', c ρ = .ok false ρ' ∧ Done ρ') ∨ ∃ ρ1 ρ2, c ρ = .ok true ρ1 ∧ (b ρ1 = .ok .nx ρ2 ∨ b ρ1 = .ok .ct ρ2) ∧ Inv ρ2 ∧ mu ρ2 < mu ρ) :
    ∃ ρ', whileS c b ρ = .ok .nx ρ' ∧ Done ρ' := while_inv Inv mu Done hs _ ρ h0 hm
theorem bindOk {α β : Type} {m : M α} {f : α → M β} {ρ ρ1 : Rho} {a : α} {r : Out β} (h : m ρ = .ok a ρ1) (h2 : f a ρ1 = r) : M.bind m f ρ = r := by rw [bind_ap, h]; exact h2
theorem ifS_ok {c : M Bool} {a b : M Fl} {ρ ρ1 : Rho} {k : Bool} (h : c ρ = .ok k ρ1) : ifS c a b ρ = if k = true then a ρ1 else b ρ1 := by
  unfold ifS
  rw [bind_ap, h]
  cases k <;> rfl
/-- a call -/
theorem callD_ok {io : List Bool} {F : List D → FO} {ts : List Tk} {ρ : Rho} {ds ps : List D} {d : D} (hp : prep io ts ρ = some ds) (hn : (ios io ts).Nodup) (hF : F ds = .ok d ps) : callD io F ts ρ = .ok d (backIo io ts ps ρ) := by
  unfold callD
  rw [hp]
  simp only
  rw [if_pos hn, hF]
theorem callD_exc {io : List Bool} {F : List D → FO} {ts : List Tk} {ρ : Rho} {ds ps : List D} {c : Nat} (hp : prep io ts ρ = some ds) (hn : (ios io ts).Nodup) (hF : F ds = .exc c ps) : callD io F ts ρ = .exc c (backIo io ts ps ρ) := by
  unfold callD
  rw [hp]
  simp only
  rw [if_pos hn, hF]

/-! ### the combinators -/
@[simp] theorem setS_eq (i : Nat) (m : M D) : setS i m = M.bind m fun d => putS i d := rfl
@[simp] theorem op2_eq (g : D → D → Option D) (ma mb : M Tk) : op2 g ma mb = M.bind ma fun t => M.bind mb fun u => fun ρ => match t.get ρ, u.get ρ with
  | some x, some y => M.opt (g x y) ρ
  | _, _ => .bad := rfl
@[simp] theorem op1_eq (g : D → Option D) (m : M Tk) : op1 g m = M.bind m fun t => fun ρ => match t.get ρ with
  | some x => M.opt (g x) ρ
  | none => .bad := rfl
@[simp] theorem opN_eq (g : List D → Option D) (m : M (List Tk)) : opN g m = M.bind m fun ts => fun ρ => match getL ρ ts with
  | some ds => M.opt (g ds) ρ
  | none => .bad := rfl
@[simp] theorem toK_eq (m : M D) : toK m = M.bind m fun d => M.pure (.v (fz d)) := rfl
@[simp] theorem fldM_eq (c : Nat) (f : Str) (mo : M Tk) : fldM c f mo = M.bind mo fun t => fun ρ => match t.raw ρ with
  | some d => M.opt (fldD c f d) ρ
  | none => .bad := rfl
@[simp] theorem toB_eq (m : M D) : toB m = M.bind m fun d => match d with
  | .bl b => M.pure b
  | _ => M.bad := rfl
@[simp] theorem andB_eq (a b : M Bool) : andB a b = M.bind a fun c => if c = true then b else M.pure false := rfl
@[simp] theorem orB_eq (a b : M Bool) : orB a b = M.bind a fun c => if c = true then M.pure true else b := rfl
@[simp] theorem notB_eq (a : M Bool) : notB a = M.bind a fun c => M.pure (!c) := rfl
@[simp] theorem andV_eq (a b : M D) : andV a b = M.bind (toB a) fun c => if c = true then b else M.pure (.bl false) := rfl
@[simp] theorem orV_eq (a b : M D) : orV a b = M.bind (toB a) fun c => if c = true then M.pure (.bl true) else b := rfl
@[simp] theorem notV_eq (a : M D) : notV a = M.bind (toB a) fun c => M.pure (.bl (!c)) := rfl
@[simp] theorem ifV_eq (c : M Bool) (a b : M D) : ifV c a b = M.bind c fun c => if c = true then a else b := rfl
@[simp] theorem ifS_eq (c : M Bool) (a b : M Fl) : ifS c a b = M.bind c fun c => if c = true then a else b := rfl
@[simp] theorem retS_eq (m : M D) : retS m = M.bind m fun d => M.pure (.rt d) := rfl
@[simp] theorem dropS_eq (m : M D) : dropS m = M.bind m fun _ => skip := rfl
@[simp] theorem skip_eq : skip = M.pure .nx := rfl
@[simp] theorem argK0_eq : argK0 = M.pure [] := rfl
@[simp] theorem argK_eq (m : M Tk) (r : M (List Tk)) : argK m r = M.bind m fun t => M.bind r fun ts => M.pure (t :: ts) := rfl
@[simp] theorem dispM_eq (g : List D → D) (ms : M (List Tk)) : dispM g ms = M.bind ms fun ts => fun ρ => match tkVals ts with
  | some ds => if ds.length ≤ 2 ^ 24 then .ok (g ds) ρ else .bad
  | none => .bad := rfl
@[simp] theorem vcons_eq (m : M D) (ms : M (List D)) : vcons m ms = M.bind m fun d => M.bind ms fun ds => M.pure (d :: ds) := rfl
@[simp] theorem parS_eq (is : List Nat) (ms : M (List D)) : parS is ms = M.bind ms fun ds => putL is ds := rfl
@[simp] theorem putL_nil (ρ : Rho) : putL [] [] ρ = .ok .nx ρ := rfl
@[simp] theorem putL_cons (i : Nat) (is : List Nat) (d : D) (ds : List D) (ρ : Rho) : putL (i :: is) (d :: ds) ρ = if i < ρ.length then putL is ds (ρ.set i (some d)) else .bad := rfl
@[simp] theorem iterM_eq (m : M D) : iterM m = M.bind m fun d => M.opt (elems (fz d)) := rfl
@[simp] theorem partM_eq (m : M Tk) : partM m = M.bind m fun t => fun ρ => match t.get ρ with
  | some (.int i) => .ok (some i) ρ
  | _ => .bad := rfl
@[simp] theorem sliceM_eq (mo : M Tk) (ml mh : M (Option Int)) : sliceM mo ml mh = M.bind mo fun t => M.bind ml fun lo => M.bind mh fun hi => fun ρ => match t.get ρ with
  | some x => M.opt (dSlice lo hi x) ρ
  | none => .bad := rfl
@[simp] theorem callM_eq (io : List Bool) (F : List D → FO) (dd : List D) (m : M (List Tk)) : callM io F dd m = M.bind m fun ts => callD io F (ts ++ dd.map .v) := rfl
@[simp] theorem callD_eq (io : List Bool) (F : List D → FO) (ts : List Tk) (ρ : Rho) : callD io F ts ρ = (match prep io ts ρ with
  | some ds => if (ios io ts).Nodup then match F ds with
    | .ok d ps => .ok d (backIo io ts ps ρ)
    | .exc c ps => .exc c (backIo io ts ps ρ)
    | .bad => .bad
    else .bad
  | none => .bad) := rfl
@[simp] theorem methM_eq (c : Nat) (m : Str) (io : List Bool) (F : List D → FO) (dd : List D) (mo : M Tk) (ma : M (List Tk)) : methM c m io F dd mo ma = M.bind mo fun t => M.bind (insOf c m t) fun _ => M.bind ma fun ts => callD io F (t :: (ts ++ dd.map .v)) := rfl
@[simp] theorem insOf_v (c : Nat) (m : Str) (d : D) (ρ : Rho) : insOf c m (.v d) ρ = if isIns c m d = true then .ok () ρ else .bad := rfl
@[simp] theorem prep_nil (ρ : Rho) : prep [] [] ρ = some [] := rfl
@[simp] theorem prep_s (io : List Bool) (i : Nat) (ts : List Tk) (ρ : Rho) : prep (true :: io) (.s i :: ts) ρ = (match ρ[i]?, prep io ts ρ with
    | some (some d), some ds => some (d :: ds)
    | _, _ => none) := rfl
@[simp] theorem prep_v (io : List Bool) (d : D) (ts : List Tk) (ρ : Rho) : prep (false :: io) (.v d :: ts) ρ = if isFz d = true then (prep io ts ρ).map (d :: ·) else none := rfl
@[simp] theorem ios_nil : ios [] [] = [] := rfl
@[simp] theorem ios_s (io : List Bool) (i : Nat) (ts : List Tk) : ios (true :: io) (.s i :: ts) = i :: ios io ts := rfl
@[simp] theorem ios_v (io : List Bool) (d : D) (ts : List Tk) : ios (false :: io) (.v d :: ts) = ios io ts := rfl
@[simp] theorem back_nil (ts : List Tk) (ps : List D) (ρ : Rho) : backIo [] ts ps ρ = ρ := by cases ts <;> rfl
@[simp] theorem back_s (io : List Bool) (i : Nat) (ts : List Tk) (p : D) (ps : List D) (ρ : Rho) : backIo (true :: io) (.s i :: ts) (p :: ps) ρ = (backIo io ts ps ρ).set i (some p) := rfl
@[simp] theorem back_v (io : List Bool) (d : D) (ts : List Tk) (p : D) (ps : List D) (ρ : Rho) : backIo (false :: io) (.v d :: ts) (p :: ps) ρ = backIo io ts ps ρ := rfl
@[simp] theorem getL_nil (ρ : Rho) : getL ρ [] = some [] := rfl
@[simp] theorem getL_cons (ρ : Rho) (t : Tk) (ts : List Tk) : getL ρ (t :: ts) = (match t.get ρ, getL ρ ts with
    | some d, some ds => some (d :: ds)
    | _, _ => none) := rfl
@[simp] theorem tkVals_nil : tkVals [] = some [] := rfl
@[simp] theorem tkVals_v (d : D) (ts : List Tk) : tkVals (.v d :: ts) = if isFz d = true then (tkVals ts).map (d :: ·) else none := rfl
@[simp] theorem elems_lst (o : Bool) (ds : List D) : elems (.lst o ds) = some ds := rfl
@[simp] theorem elems_tup (ds : List D) : elems (.tup ds) = some ds := rfl
@[simp] theorem elems_ptup (ds : List D) : elems (.ptup ds) = some ds := rfl
@[simp] theorem gT_tup (gs : List D → M Unit) (ds : List D) : gT gs (.tup ds) = gs ds := rfl
@[simp] theorem gsC_cons (g : D → M Unit) (gs : List D → M Unit) (d : D) (ds : List D) : gsC g gs (d :: ds) = M.bind (g d) fun _ => gs ds := rfl
@[simp] theorem gs0_nil : gs0 [] = M.pure () := rfl
@[simp] theorem asgS_eq (m : M D) (g : D → M Unit) : asgS m g = M.bind m fun d => M.bind (g (fz d)) fun _ => skip := rfl
@[simp] theorem putIx_eq (mo mk : M Tk) (mv : M D) : putIx mo mk mv = M.bind mv fun d => M.bind mo fun t => M.bind mk fun tk => fun ρ => match t with
  | .s i => (match ρ[i]?, tk.get ρ with
    | some (some x), some k => (match dPut x k (fz d) with
      | some x' => .ok .nx (ρ.set i (some x'))
      | none => .bad)
    | _, _ => .bad)
  | .v _ => .bad := by
  unfold putIx
  rfl
@[simp] theorem augS_eq (i : Nat) (mo : M Tk) : augS i mo = M.bind (nameK i) fun _ => M.bind mo fun t => fun ρ => match ρ[i]?, t.get ρ with
  | some (some (.lst true xs)), some (.lst _ ys) => if isFzL xs = true ∧ xs.length + ys.length ≤ 2 ^ 24 then .ok .nx (ρ.set i (some (.lst true (xs ++ ys)))) else .bad
  | some (some (.int a)), some (.int b) => .ok .nx (ρ.set i (some (.int (a + b))))
  | some (some (.str a)), some (.str b) => if a.length + b.length ≤ 2 ^ 24 then .ok .nx (ρ.set i (some (.str (a ++ b)))) else .bad
  | _, _ => .bad := rfl
@[simp] theorem mutM_eq (T : String) (g : D → List D → Option (D × D)) (mo : M Tk) (m : M (List Tk)) : mutM T g mo m = M.bind mo fun t => M.bind (tyRaw T t) fun _ => M.bind m fun ts => fun ρ => match t, tkVals ts with
  | .s i, some ds => (match ρ[i]? with
    | some (some x) => (match g x ds with
      | some (x', d) => .ok d (ρ.set i (some x'))
      | none => .bad)
    | _ => .bad)
  | _, _ => .bad := by
  unfold mutM
  rfl
@[simp] theorem tyRaw_ap (T : String) (t : Tk) (ρ : Rho) : tyRaw T t ρ = (match t.raw ρ with
  | some d => if TyD T d = true then .ok () ρ else .bad
  | none => .bad) := rfl
@[simp] theorem TyD_lst (T : String) (o : Bool) (ds : List D) : TyD T (.lst o ds) = (T == "list") := rfl
@[simp] theorem TyD_str (T : String) (s : Str) : TyD T (.str s) = (T == "str") := rfl
@[simp] theorem gApp_t (xs : List D) (e : D) : gApp (.lst true xs) [e] = if isFzL xs = true ∧ xs.length < 2 ^ 24 then some (.lst true (xs ++ [e]), .non) else none := rfl
@[simp] theorem opM_eq (T : String) (g : D → List D → Option D) (mo : M Tk) (m : M (List Tk)) : opM T g mo m = M.bind mo fun t => M.bind (fun ρ => match t.get ρ with
    | some d => if TyD T d = true then .ok () ρ else .bad
    | none => .bad) fun _ => M.bind m fun ts => fun ρ => match t.get ρ, getL ρ ts with
  | some d, some ds => M.opt (g d ds) ρ
  | _, _ => .bad := rfl
@[simp] theorem toI_eq (m : M D) : toI m = M.bind m fun d => match d with
  | .int i => M.pure i
  | _ => M.bad := rfl
@[simp] theorem chainM_eq (f f' : Int → Int → Bool) (a b c : M D) : chainM f f' a b c = M.bind (toI a) fun i => M.bind (toI b) fun j => if f i j = true then M.bind (toI c) fun k => M.pure (f' j k) else M.pure false := rfl
@[simp] theorem itN_eq (g : List D → Option (List D)) (m : M (List Tk)) : itN g m = M.bind m fun ts => fun ρ => match getL ρ ts with
  | some ds => M.opt (g ds) ρ
  | none => .bad := rfl
@[simp] theorem itF_eq (g : List D → Option (List D)) (m : M (List Tk)) : itF g m = M.bind m fun ts => fun ρ => match tkVals ts with
  | some ds => M.opt (g ds) ρ
  | none => .bad := rfl
/-! ### the operators -/
@[simp] theorem dAdd_int (i j : Int) : dAdd (.int i) (.int j) = some (.int (i + j)) := rfl
@[simp] theorem dAdd_str (i j : Str) : dAdd (.str i) (.str j) = if i.length + j.length ≤ 2 ^ 24 then some (.str (i ++ j)) else none := rfl
@[simp] theorem dAdd_lst (o o' : Bool) (xs ys : List D) : dAdd (.lst o xs) (.lst o' ys) = if xs.length + ys.length ≤ 2 ^ 24 then some (.lst true (xs ++ ys)) else none := rfl
@[simp] theorem dAdd_tup (xs ys : List D) : dAdd (.tup xs) (.tup ys) = if xs.length + ys.length ≤ 2 ^ 24 then some (.tup (xs ++ ys)) else none := rfl
@[simp] theorem dSub_int (i j : Int) : dSub (.int i) (.int j) = some (.int (i - j)) := rfl
@[simp] theorem dMul_int (i j : Int) : dMul (.int i) (.int j) = if (DL.small i || DL.small j) = true then some (.int (i * j)) else none := rfl
@[simp] theorem dMulI_int (i j : Int) : dMulI (.int i) (.int j) = if (DL.small i || DL.small j) = true then some (.int (i * j)) else none := rfl
@[simp] theorem dMul_lst (o : Bool) (xs : List D) (k : Int) : dMul (.lst o xs) (.int k) = if -(2 ^ 63) ≤ k ∧ k < 2 ^ 63 ∧ xs.length * k.toNat ≤ 2 ^ 24 then some (.lst true (List.replicate k.toNat xs).flatten) else none := rfl
@[simp] theorem dMod_int (i j : Int) : dMod (.int i) (.int j) = if 0 < j then some (.int (i % j)) else none := rfl
@[simp] theorem dDiv_int (i j : Int) : dDiv (.int i) (.int j) = if 0 < j ∧ j < 1073741824 then some (.int (i / j)) else none := rfl
@[simp] theorem dPow_int (i j : Int) : dPow (.int i) (.int j) = if 0 ≤ j ∧ j ≤ 1000000 ∧ i.natAbs < 2 ^ 64 then some (.int (i ^ j.toNat)) else none := rfl
@[simp] theorem dCmp_int (f : Int → Int → Bool) (i j : Int) : dCmp f (.int i) (.int j) = some (.bl (f i j)) := rfl
@[simp] theorem dIsN_non (x : D) : dIsN x .non = some (.bl (isNon x)) := rfl
@[simp] theorem dIsntN_non (x : D) : dIsntN x .non = some (.bl (!isNon x)) := rfl
@[simp] theorem dInt_int (i : Int) : dInt [.int i] = some (.int i) := rfl
@[simp] theorem dInt_bl (b : Bool) : dInt [.bl b] = some (.int (if b then 1 else 0)) := rfl
@[simp] theorem dAbs_int (i : Int) : dAbs [.int i] = some (.int (if i < 0 then -i else i)) := rfl
@[simp] theorem dLen_lst (o : Bool) (ds : List D) : dLen [.lst o ds] = some (.int ds.length) := rfl
@[simp] theorem dLen_tup (ds : List D) : dLen [.tup ds] = some (.int ds.length) := rfl
@[simp] theorem dLen_ptup (ds : List D) : dLen [.ptup ds] = some (.int ds.length) := rfl
@[simp] theorem dList_lst (o : Bool) (ds : List D) : dList [.lst o ds] = some (.lst true ds) := rfl
@[simp] theorem dList_tup (ds : List D) : dList [.tup ds] = some (.lst true ds) := rfl
@[simp] theorem dRev_lst (o : Bool) (ds : List D) : dRev (.lst o ds) = some (.lst true ds.reverse) := rfl
@[simp] theorem dSub1_lst (o : Bool) (ds : List D) (i : Int) : dSub1 (.lst o ds) (.int i) = atI ds i := rfl
@[simp] theorem dSub1_tup (ds : List D) (i : Int) : dSub1 (.tup ds) (.int i) = atI ds i := rfl
@[simp] theorem dSub1_ptup (ds : List D) (i : Int) : dSub1 (.ptup ds) (.int i) = atI ds i := rfl
@[simp] theorem dPut_lst (ds : List D) (i : Int) (e : D) : dPut (.lst true ds) (.int i) e = if isFzL ds = true then (ixN ds.length i).map fun j => .lst true (ds.set j e) else none := rfl
end DL
end

section
set_option Elab.async false
set_option linter.all false
set_option maxRecDepth 100000
set_option maxHeartbeats 4000000
/-! N3: equality of data. -/
namespace DL
open PySem PySem.Spec PyProof.Rows L2
def okS (x : Str) : Bool := x.cps.all (· < 0x110000)
theorem canLay_str (x : Str) : (PyData.str x).canLay0 = okS x := by simp [PyData.canLay0, PyData.strOk, okS]
theorem shaped_int (i : Int) : SeqAt.shaped (.int i) = true := by simp [SeqAt.shaped, PyData.canLay0, PyData.depth]
theorem shaped_none : SeqAt.shaped .none = true := by simp [SeqAt.shaped, PyData.canLay0, PyData.depth]
theorem shaped_bool (i : Bool) : SeqAt.shaped (.bool i) = true := by simp [SeqAt.shaped, PyData.canLay0, PyData.depth]
theorem shaped_str {x : Str} (h : okS x = true) : SeqAt.shaped (.str x) = true := by simp [SeqAt.shaped, canLay_str, PyData.depth, h]
/-- flat data -/
def flatP : PyData → Bool
  | .int _ => true
  | .bool _ => true
  | .none => true
  | .str x => okS x
  | _ => false
theorem flat_can : ∀ {p : PyData}, flatP p = true → p.canLay0 = true ∧ p.depth = 0
  | .int _, _ => ⟨by simp [PyData.canLay0], by simp [PyData.depth]⟩
  | .bool _, _ => ⟨by simp [PyData.canLay0], by simp [PyData.depth]⟩
  | .none, _ => ⟨by simp [PyData.canLay0], by simp [PyData.depth]⟩
  | .str x, h => ⟨by rw [canLay_str]; exact h, by simp [PyData.depth]⟩
  | .list _, h => by cases h
  | .tuple _, h => by cases h
  | .dict _, h => by cases h
theorem depthAll_le {n : Nat} : ∀ {ps : List PyData}, (∀ p ∈ ps, p.depth ≤ n) → PyData.depthAll ps ≤ n
  | [], _ => by simp [PyData.depthAll]
  | p :: ps, h => by
    simp only [PyData.depthAll]
    exact Nat.max_le.mpr ⟨h p List.mem_cons_self, depthAll_le fun q hq => h q (List.mem_cons_of_mem _ hq)⟩
theorem canAll : ∀ {ps : List PyData}, (∀ p ∈ ps, p.canLay0 = true) → PyData.canLayAll0 ps = true
  | [], _ => by simp [PyData.canLayAll0]
  | p :: ps, h => by simp [PyData.canLayAll0, h p List.mem_cons_self, canAll fun q hq => h q (List.mem_cons_of_mem _ hq)]
/-- data of so many levels -/
def lvP : Nat → PyData → Bool
  | 0, p => flatP p
  | n + 1, p => flatP p || match p with
    | .list ps => ps.all (lvP n)
    | .tuple ps => ps.all (lvP n)
    | _ => false
theorem lv_can : ∀ {n : Nat} {p : PyData}, lvP n p = true → p.canLay0 = true ∧ p.depth ≤ n
  | 0, p, h => by obtain ⟨a, b⟩ := flat_can h; exact ⟨a, by omega⟩
  | n + 1, p, h => by
    unfold lvP at h
    rw [Bool.or_eq_true] at h
    rcases h with h | h
    · obtain ⟨a, b⟩ := flat_can h; exact ⟨a, by omega⟩
    · cases p with
      | list ps =>
        simp only [List.all_eq_true] at h
        exact ⟨by simp only [PyData.canLay0]; exact canAll fun q hq => (lv_can (h q hq)).1, by simp only [PyData.depth]; have := depthAll_le (n := n) fun q hq => (lv_can (h q hq)).2; omega⟩
      | tuple ps =>
        simp only [List.all_eq_true] at h
        exact ⟨by simp only [PyData.canLay0]; exact canAll fun q hq => (lv_can (h q hq)).1, by simp only [PyData.depth]; have := depthAll_le (n := n) fun q hq => (lv_can (h q hq)).2; omega⟩
      | _ => cases h
theorem lv_shaped {n : Nat} {p : PyData} (h : lvP n p = true) (hn : n ≤ 64) : SeqAt.shaped p = true := by
  obtain ⟨a, b⟩ := lv_can h
  simp only [SeqAt.shaped, a, Bool.true_and, decide_eq_true_eq]
  omega
theorem dEq_data {x y : D} {p q : PyData} (hx : toP x = some p) (hy : toP y = some q) (sx : SeqAt.shaped p = true) (sy : SeqAt.shaped q = true) : dEq x y = some (.bl (PyData.eqv p q)) := by
  simp [dEq, eqDat, hx, hy, sx, sy]
theorem dNe_data {x y : D} {p q : PyData} (hx : toP x = some p) (hy : toP y = some q) (sx : SeqAt.shaped p = true) (sy : SeqAt.shaped q = true) : dNe x y = some (.bl (!PyData.eqv p q)) := by
  simp [dNe, eqDat, hx, hy, sx, sy]
theorem dNe_self {x y : D} {p : PyData} {n : Nat} (hx : toP x = some p) (hy : toP y = some p) (h : lvP n p = true) (hn : n ≤ 64) : dNe x y = some (.bl false) := by
  rw [dNe_data hx hy (lv_shaped h hn) (lv_shaped h hn), SeqAt.eqv_refl _ (lv_can h).1]
  rfl
theorem dEq_self {x y : D} {p : PyData} {n : Nat} (hx : toP x = some p) (hy : toP y = some p) (h : lvP n p = true) (hn : n ≤ 64) : dEq x y = some (.bl true) := by
  rw [dEq_data hx hy (lv_shaped h hn) (lv_shaped h hn), SeqAt.eqv_refl _ (lv_can h).1]
@[simp] theorem dEq_int (i j : Int) : dEq (.int i) (.int j) = some (.bl (decide (i = j))) := by
  rw [dEq_data rfl rfl (shaped_int _) (shaped_int _)]; simp only [PyData.eqv]; rfl
@[simp] theorem dNe_int (i j : Int) : dNe (.int i) (.int j) = some (.bl (!decide (i = j))) := by
  rw [dNe_data rfl rfl (shaped_int _) (shaped_int _)]; simp only [PyData.eqv]; rfl
theorem beq_str (i j : Str) : (i == j) = decide (i = j) := by
  by_cases h : i = j
  · simp [h]
  · simp [h]
theorem dEq_str {i j : Str} (hi : okS i = true) (hj : okS j = true) : dEq (.str i) (.str j) = some (.bl (decide (i = j))) := by
  rw [dEq_data rfl rfl (shaped_str hi) (shaped_str hj)]; simp only [PyData.eqv, beq_str]
theorem dNe_str {i j : Str} (hi : okS i = true) (hj : okS j = true) : dNe (.str i) (.str j) = some (.bl (!decide (i = j))) := by
  rw [dNe_data rfl rfl (shaped_str hi) (shaped_str hj)]; simp only [PyData.eqv, beq_str]
@[simp] theorem toPs_strs : ∀ l : List Str, toPs (l.map .str) = some (l.map .str)
  | [] => rfl
  | s :: l => by simp only [List.map_cons, toPs, toP, toPs_strs l]
@[simp] theorem toPs_ints : ∀ l : List Int, toPs (l.map .int) = some (l.map .int)
  | [] => rfl
  | s :: l => by simp only [List.map_cons, toPs, toP, toPs_ints l]
theorem toPs_map {α : Type} {f : α → D} {g : α → PyData} (h : ∀ a, toP (f a) = some (g a)) : ∀ l : List α, toPs (l.map f) = some (l.map g)
  | [] => rfl
  | s :: l => by simp only [List.map_cons, toPs, h s, toPs_map h l]
end DL
end

section
set_option Elab.async false
set_option linter.all false
set_option maxRecDepth 100000
set_option maxHeartbeats 4000000
namespace K08
open PySem PySem.Spec PyProof.Rows L2 DL
structure Dice where
  a : Int
  b : Int
  c : Int
def Dice.d (x : Dice) : D := .lst true [.int x.a, .int x.b, .int x.c]
/-- a roll: what falls, the dice behind it -/
def Dice.roll (x : Dice) (m : Int) : Int × Dice :=
  if x.c = 2 ∨ (x.c = 1 ∧ 0 < x.a) then (x.a % m, ⟨x.a / m, x.b, x.c⟩)
  else (((x.a * 48271 + x.b * 69621 + 11) % 2147483647 / 7) % m, ⟨(x.a * 48271 + x.b * 69621 + 11) % 2147483647, x.b + 1, 0⟩)
theorem Dice.roll_lo (x : Dice) {m : Int} (h : 0 < m) : 0 ≤ (x.roll m).1 := by
  unfold Dice.roll
  split
  · exact Int.emod_nonneg _ (by omega)
  · exact Int.emod_nonneg _ (by omega)
theorem Dice.roll_hi (x : Dice) {m : Int} (h : 0 < m) : (x.roll m).1 < m := by
  unfold Dice.roll
  split
  · exact Int.emod_lt_of_pos _ h
  · exact Int.emod_lt_of_pos _ h
theorem small_1 : DL.small 48271 = true := by decide
theorem small_2 : DL.small 69621 = true := by decide
theorem roll_ev (x : Dice) (m : Int) (h0 : 0 < m) (h1 : m ≤ 100000000) : F_law_roll [x.d, .int m] = .ok (.int (x.roll m).1) [(x.roll m).2.d, .int m] := by
  obtain ⟨a, b, c⟩ := x
  have h2 : ¬ 100000000 < m := by omega
  have h3 : m < 1073741824 := by omega
  by_cases hc2 : c = 2
  · subst hc2
    simp [F_law_roll, runF, s_law_roll, seq_ap, Dice.d, Dice.roll, atI, ixN, h0, h3, outs]
  · by_cases hc1 : c = 1 ∧ 0 < a
    · obtain ⟨rfl, ha⟩ := hc1
      simp [F_law_roll, runF, s_law_roll, seq_ap, Dice.d, Dice.roll, atI, ixN, h0, h3, ha, outs]
    · by_cases hc3 : c = 1
      · subst hc3
        have ha : ¬ 0 < a := fun z => hc1 ⟨rfl, z⟩
        simp [F_law_roll, runF, s_law_roll, seq_ap, Dice.d, Dice.roll, atI, ixN, h0, h3, ha, h2, outs, small_1, small_2]
      · simp [F_law_roll, runF, s_law_roll, seq_ap, Dice.d, Dice.roll, atI, ixN, h0, h3, hc3, hc2, h2, outs, small_1, small_2]
end K08
end

section
set_option Elab.async false
set_option linter.all false
set_option maxRecDepth 100000
set_option maxHeartbeats 4000000
namespace K08
open PySem PySem.Spec PyProof.Rows L2 DL
/-! ### loops over mapped lists -/
theorem whileF_t {c : M Bool} {b : M Fl} {n : Nat} {ρ ρ1 ρ2 : Rho} (h1 : c ρ = .ok true ρ1) (h2 : b ρ1 = .ok .nx ρ2) : whileF c b (n + 1) ρ = whileF c b n ρ2 := by
  rw [whileF_succ, h1]
  simp only
  rw [h2]
theorem whileF_f {c : M Bool} {b : M Fl} {n : Nat} {ρ ρ1 : Rho} (h1 : c ρ = .ok false ρ1) : whileF c b (n + 1) ρ = .ok .nx ρ1 := by
  rw [whileF_succ, h1]
theorem for_map {α : Type} {g : D → M Unit} {b : M Fl} (f : α → D) (all : List α) (Inv : List α → Rho → Prop) (ρ : Rho) (h0 : Inv [] ρ)
    (hs : ∀ pre a post ρ, all = pre ++ a :: post → Inv pre ρ → ∃ ρ1 ρ2, g (f a) ρ = .ok () ρ1 ∧ (b ρ1 = .ok .nx ρ2 ∨ b ρ1 = .ok .ct ρ2) ∧ Inv (pre ++ [a]) ρ2) :
    ∃ ρ', forF g b (all.map f) ρ = .ok .nx ρ' ∧ Inv all ρ' := by
  have key : ∀ (post pre : List α) (ρ : Rho), all = pre ++ post → Inv pre ρ → ∃ ρ', forF g b (post.map f) ρ = .ok .nx ρ' ∧ Inv all ρ' := by
    intro post
    induction post with
    | nil => intro pre ρ e h; exact ⟨ρ, rfl, by rw [e, List.append_nil]; exact h⟩
    | cons a post ih =>
      intro pre ρ e h
      obtain ⟨ρ1, ρ2, h1, h2, h3⟩ := hs pre a post ρ e h
      obtain ⟨ρ', h4, h5⟩ := ih (pre ++ [a]) ρ2 (by rw [e]; simp) h3
      refine ⟨ρ', ?_, h5⟩
      rw [List.map_cons, forF_cons, h1]
      rcases h2 with h2 | h2 <;> (simp only; rw [h2]; exact h4)
  exact key all [] ρ rfl h0
/-! ### numerals -/
structure Nu where
  b : Nat
  small : List Str
  powers : List Str
  order : Str
  link : Str
  one : Bool
def Nu.d (n : Nu) : D := .ins false 0 ["base", "small", "powers", "order", "link", "one"] [.int n.b, .ptup (n.small.map .str), .ptup (n.powers.map .str), .str n.order, .str n.link, .bl n.one]
@[simp] theorem kids_nu (n : Nu) : (kids n.d).all isFz = true := by simp [Nu.d]
@[simp] theorem isFz_nu (n : Nu) : isFz n.d = true := by simp [Nu.d]
@[simp] theorem fz_nu (n : Nu) : fz n.d = n.d := by simp [Nu.d]
@[simp] theorem f_base (n : Nu) : fldD 0 "base" n.d = some (.int n.b) := by rfl
@[simp] theorem f_small (n : Nu) : fldD 0 "small" n.d = some (.ptup (n.small.map .str)) := by rfl
@[simp] theorem f_powers (n : Nu) : fldD 0 "powers" n.d = some (.ptup (n.powers.map .str)) := by rfl
@[simp] theorem f_order (n : Nu) : fldD 0 "order" n.d = some (.str n.order) := by rfl
@[simp] theorem f_link (n : Nu) : fldD 0 "link" n.d = some (.str n.link) := by rfl
@[simp] theorem f_one (n : Nu) : fldD 0 "one" n.d = some (.bl n.one) := by rfl
@[simp] theorem isIns_end (n : Nu) : isIns 0 "end" n.d = true := by rfl
@[simp] theorem isIns_digits (n : Nu) : isIns 0 "digits" n.d = true := by rfl
@[simp] theorem isIns_words (n : Nu) : isIns 0 "words" n.d = true := by rfl
@[simp] theorem isIns_text (n : Nu) : isIns 0 "text" n.d = true := by rfl
@[simp] theorem isIns_number (n : Nu) : isIns 0 "number" n.d = true := by rfl
/-- words that may be -/
structure Nu.Ok (n : Nu) : Prop where
  b2 : 2 ≤ n.b
  b60 : n.b ≤ 60
  sm : n.small.length = n.b
  pw : n.powers.length ≤ 20
  wd : ∀ x ∈ n.link :: (n.small ++ n.powers), okS x = true ∧ x.length ≤ 50
  od : okS n.order = true
  lo : n.order = "low" → n.one = true
  b10 : n.b ≤ 10
  pw3 : n.powers.length ≤ 3
def Nu.end (n : Nu) : Nat := n.b ^ (n.powers.length + 1)
theorem small_nat {k : Nat} (h : k ≤ 60) : DL.small (k : Int) = true := by
  simp only [DL.small, Bool.and_eq_true, decide_eq_true_eq]
  omega
theorem end_1 {n : Nu} (ok : n.Ok) (k : Int) (y : Option D) : b_Numerals_end_1 [some n.d, some (.int k), y] = .ok .nx [some n.d, some (.int (k * n.b)), y] := by
  simp [b_Numerals_end_1, small_nat ok.b60]
theorem end_ev {n : Nu} (ok : n.Ok) : F_Numerals_end [n.d] = .ok (.int n.end) [n.d] := by
  obtain ⟨ρ', h1, h2⟩ := for_map (g := gN 2) (b := b_Numerals_end_1) D.str n.powers (fun pre ρ => ∃ y, ρ = [some n.d, some (.int ((n.b : Int) ^ (pre.length + 1))), y]) [some n.d, some (.int n.b), none] ⟨none, by simp [Int.pow_succ]⟩ fun pre a post ρ _ ⟨y, e⟩ => by
    subst e
    refine ⟨_, _, rfl, .inl (end_1 ok _ _), some (.str a), ?_⟩
    rw [List.length_append, List.length_singleton, Int.pow_succ (n.b : Int) (pre.length + 1)]
  obtain ⟨y, rfl⟩ := h2
  have e1 : s_Numerals_end [some n.d, none, none] = .ok (.rt (.int n.end)) [some n.d, some (.int n.end), y] := by
    have hc : ((n.b : Int) ^ (n.powers.length + 1)) = (n.end : Int) := by simp [Nu.end]
    unfold s_Numerals_end
    rw [seq_nx (ρ1 := [some n.d, some (.int n.b), none]) (by simp), seq_nx (ρ1 := [some n.d, some (.int n.end), y])]
    · simp
    · rw [forS_ap]
      simp only [iterM_eq, bind_ap, fldM_eq, nameK_ap, List.getElem?_cons_zero, raw_s, Option.join, f_powers, opt_some_ap, fz_ptup, elems_ptup]
      rw [hc] at h1
      exact h1
  simp [F_Numerals_end, runF, e1, outs]
/-! ### digits -/
/-- how often, which power: the greatest first -/
def digs (b : Nat) (p m : Nat) : List (Nat × Nat) :=
  if h : 2 ≤ b ∧ 0 < m then digs b (p + 1) (m / b) ++ (if 0 < m % b then [(m % b, p)] else []) else []
termination_by m
decreasing_by exact Nat.div_lt_self h.2 h.1
theorem digs_zero (b p : Nat) : digs b p 0 = [] := by unfold digs; simp
theorem digs_pos {b p m : Nat} (hb : 2 ≤ b) (hm : 0 < m) : digs b p m = digs b (p + 1) (m / b) ++ (if 0 < m % b then [(m % b, p)] else []) := by
  rw [digs]
  simp [hb, hm]
theorem digs_in {b : Nat} (hb : 2 ≤ b) : ∀ (k p m : Nat), m < b ^ k → (∀ q ∈ digs b p m, 0 < q.1 ∧ q.1 < b ∧ p ≤ q.2 ∧ q.2 < p + k) ∧ (digs b p m).length ≤ k
  | 0, p, m, h => by
    have : m = 0 := by simpa using h
    subst this
    rw [digs_zero]
    simp
  | k + 1, p, m, h => by
    by_cases hm : 0 < m
    · have h2 : m / b < b ^ k := by
        rw [Nat.div_lt_iff_lt_mul (by omega)]
        rw [Nat.pow_succ] at h
        exact h
      obtain ⟨i1, i2⟩ := digs_in hb k (p + 1) (m / b) h2
      rw [digs_pos hb hm]
      refine ⟨fun q hq => ?_, ?_⟩
      · rcases List.mem_append.mp hq with hq | hq
        · obtain ⟨a1, a2, a3, a4⟩ := i1 q hq
          exact ⟨a1, a2, by omega, by omega⟩
        · split at hq
          · rename_i h0
            simp only [List.mem_singleton] at hq
            subst hq
            exact ⟨h0, Nat.mod_lt _ (by omega), by simp, by simp⟩
          · cases hq
      · rw [List.length_append]
        split <;> simp <;> omega
    · have : m = 0 := by omega
      subst this
      rw [digs_zero]
      simp
def dig (q : Nat × Nat) : D := .tup [.int q.1, .int q.2]
def muD : Rho → Nat
  | [_, some (.int m), _, _] => m.toNat
  | _ => 0
theorem digits_ev {n : Nu} (ok : n.Ok) {m : Nat} (hm : m < n.end) : F_Numerals_digits [n.d, .int m] = .ok (.lst false ((digs n.b 0 m).map dig)) [n.d, .int m] := by
  have b2 := ok.b2
  have b60 := ok.b60
  have hL : (digs n.b 0 m).length ≤ 21 := Nat.le_trans (digs_in b2 (n.powers.length + 1) 0 m hm).2 (by have := ok.pw; omega)
  have hmm : m < 2 ^ 200 := Nat.lt_of_lt_of_le hm (by
    unfold Nu.end
    calc n.b ^ (n.powers.length + 1) ≤ 60 ^ (n.powers.length + 1) := Nat.pow_le_pow_left b60 _
      _ ≤ 60 ^ 21 := Nat.pow_le_pow_right (by omega) (by have := ok.pw; omega)
      _ ≤ 2 ^ 200 := by decide)
  have key : ∀ (j m p : Nat) (acc : List D) (fu : Nat), m < 2 ^ j → j < fu → acc.all isFz = true → acc.length + (digs n.b p m).length ≤ 21 → ∃ x y, whileF (toB (op2 dGt (nameK 1) (toK (M.pure (.int 0))))) b_Numerals_digits_1 fu [some n.d, some (.int m), some (.lst true acc), some (.int p)] = .ok .nx [some n.d, x, some (.lst true ((digs n.b p m).map dig ++ acc)), y] := by
    intro j
    induction j with
    | zero =>
      intro m p acc fu hm hf ha hl
      have : m = 0 := by simpa using hm
      subst this
      obtain ⟨fu, rfl⟩ : ∃ k, fu = k + 1 := ⟨fu - 1, by omega⟩
      refine ⟨some (.int 0), some (.int p), ?_⟩
      rw [whileF_f (ρ1 := [some n.d, some (.int 0), some (.lst true acc), some (.int p)]) (by simp)]
      simp [digs_zero]
    | succ j ih =>
      intro m p acc fu hm hf ha hl
      obtain ⟨fu, rfl⟩ : ∃ k, fu = k + 1 := ⟨fu - 1, by omega⟩
      by_cases hp : 0 < m
      · have h2 : m / n.b < 2 ^ j := by
          rw [Nat.div_lt_iff_lt_mul (by omega)]
          rw [Nat.pow_succ] at hm
          exact Nat.lt_of_lt_of_le hm (Nat.mul_le_mul_left _ b2)
        have hbi : 0 < n.b := by omega
        have hbj : (n.b : Int) < 1073741824 := by omega
        have hct : (toB (op2 dGt (nameK 1) (toK (M.pure (.int 0))))) [some n.d, some (.int m), some (.lst true acc), some (.int p)] = .ok true [some n.d, some (.int m), some (.lst true acc), some (.int p)] := by simp [hp]
        rw [digs_pos b2 hp] at hl ⊢
        have cm : ((m : Int) % n.b) = ((m % n.b : Nat) : Int) := by simp
        have cd : ((m : Int) / n.b) = ((m / n.b : Nat) : Int) := by simp
        have cp : ((p : Int) + 1) = ((p + 1 : Nat) : Int) := by simp
        by_cases hr : 0 < m % n.b
        · rw [if_pos hr] at hl ⊢
          rw [List.length_append, List.length_singleton] at hl
          have hri : (0 : Int) < (m : Int) % n.b := by rw [cm]; exact_mod_cast hr
          have hl2 : 1 + acc.length ≤ 16777216 := by omega
          obtain ⟨x, y, e⟩ := ih (m / n.b) (p + 1) (.tup [.int ((m % n.b : Nat) : Int), .int p] :: acc) fu h2 (by omega) (by simpa using ha) (by simp only [List.length_cons]; omega)
          refine ⟨x, y, ?_⟩
          have e1 : b_Numerals_digits_1 [some n.d, some (.int m), some (.lst true acc), some (.int p)] = .ok .nx [some n.d, some (.int ((m : Int) / n.b)), some (.lst true (.tup [.int ((m : Int) % n.b), .int p] :: acc)), some (.int ((p : Int) + 1))] := by
            simp [b_Numerals_digits_1, seq_ap, hbi, hbj, ha, hl2, hri]
          rw [whileF_t hct e1, cd, cm, cp, e]
          simp [dig]
        · rw [if_neg hr] at hl ⊢
          have h0 : m % n.b = 0 := by omega
          have h0' : (m : Int) % n.b = 0 := by rw [cm, h0]; rfl
          obtain ⟨x, y, e⟩ := ih (m / n.b) (p + 1) acc fu h2 (by omega) ha (by simpa using hl)
          refine ⟨x, y, ?_⟩
          have e1 : b_Numerals_digits_1 [some n.d, some (.int m), some (.lst true acc), some (.int p)] = .ok .nx [some n.d, some (.int ((m : Int) / n.b)), some (.lst true acc), some (.int ((p : Int) + 1))] := by
            simp [b_Numerals_digits_1, seq_ap, hbi, hbj, ha, h0']
          rw [whileF_t hct e1, cd, cp, e]
          simp
      · have : m = 0 := by omega
        subst this
        refine ⟨some (.int 0), some (.int p), ?_⟩
        rw [whileF_f (ρ1 := [some n.d, some (.int 0), some (.lst true acc), some (.int p)]) (by simp)]
        simp [digs_zero]
  obtain ⟨x, y, e⟩ := key 200 m 0 [] fuel hmm (by decide) rfl (by simpa using hL)
  have e1 : s_Numerals_digits [some n.d, some (.int m), none, none] = .ok (.rt (.lst false ((digs n.b 0 m).map dig))) [some n.d, x, some (.lst false ((digs n.b 0 m).map dig)), y] := by
    unfold s_Numerals_digits
    rw [seq_nx (ρ1 := [some n.d, some (.int m), some (.lst true []), some (.int 0)]) (by simp), seq_nx (ρ1 := [some n.d, x, some (.lst true ((digs n.b 0 m).map dig)), y])]
    · simp
      intro a b _
      simp [dig]
    · rw [whileS_ap]
      simpa using e
  simp [F_Numerals_digits, runF, e1, outs]
end K08
end

section
set_option Elab.async false
set_option linter.all false
set_option maxRecDepth 100000
set_option maxHeartbeats 4000000
namespace K08
open PySem PySem.Spec PyProof.Rows L2 DL
def tupS (l : List Str) : D := .tup (l.map .str)
def lstF (l : List Str) : D := .lst false (l.map .str)
@[simp] theorem fz_tupS (l : List Str) : fz (tupS l) = tupS l := by simp [tupS]
@[simp] theorem isFz_tupS (l : List Str) : isFz (tupS l) = true := by simp [tupS]
@[simp] theorem fz_lstF (l : List Str) : fz (lstF l) = lstF l := by simp [lstF]
@[simp] theorem isFz_lstF (l : List Str) : isFz (lstF l) = true := by simp [lstF]
@[simp] theorem map_fz_tupS (l : List (List Str)) : (l.map tupS).map fz = l.map tupS := by simp
@[simp] theorem map_fz_lstF (l : List (List Str)) : (l.map lstF).map fz = l.map lstF := by simp
theorem atI_strs {l : List Str} {o : Nat} (h : o < l.length) : atI (l.map D.str) (o : Int) = some (.str (l.getD o "")) := by
  have h1 : (0 : Int) ≤ o := by omega
  have h2 : (o : Int) < l.length := by omega
  simp [atI, ixN, h, h2]
theorem atI_pred {l : List Str} {p : Nat} (h1 : 0 < p) (h : p - 1 < l.length) : atI (l.map D.str) ((p : Int) - 1) = some (.str (l.getD (p - 1) "")) := by
  rw [show ((p : Int) - 1) = ((p - 1 : Nat) : Int) by omega]
  exact atI_strs h
def partW (n : Nu) (q : Nat × Nat) : List Str :=
  if q.2 = 0 then [n.small.getD q.1 ""] else if q.1 = 1 ∧ n.one = false then [n.powers.getD (q.2 - 1) ""] else [n.small.getD q.1 "", n.powers.getD (q.2 - 1) ""]
def sepW (n : Nu) : List Str := if n.link = "" then [] else [n.link]
def glueW (n : Nu) : List (List Str) → List Str
  | [] => []
  | p :: rest => p ++ rest.flatMap fun q => sepW n ++ q
def ordW (n : Nu) (l : List (List Str)) : List (List Str) := if n.order = "low" then l.reverse else l
def wordsP (n : Nu) (m : Nat) : List Str := if m = 0 then [n.small.getD 0 ""] else glueW n (ordW n ((digs n.b 0 m).map (partW n)))
theorem partW_len (n : Nu) (q : Nat × Nat) : 1 ≤ (partW n q).length ∧ (partW n q).length ≤ 2 := by
  unfold partW
  split
  · simp
  · split <;> simp
theorem sepW_len (n : Nu) : (sepW n).length ≤ 1 := by unfold sepW; split <;> simp
theorem okS_low : okS "low" = true := by decide +kernel
theorem okS_nil : okS "" = true := by decide +kernel
theorem Nu.Ok.eqLow {n : Nu} (ok : n.Ok) : dEq (.str n.order) (.str "low") = some (.bl (decide (n.order = "low"))) := dEq_str ok.od okS_low
theorem Nu.Ok.neLink {n : Nu} (ok : n.Ok) : dNe (.str n.link) (.str "") = some (.bl (!decide (n.link = ""))) := dNe_str (ok.wd _ List.mem_cons_self).1 okS_nil
theorem words_1 {n : Nu} (m : D) (l : List (List Str)) (q : Nat × Nat) (x y : Option D) (h1 : q.1 < n.small.length) (h2 : q.2 ≤ n.powers.length) (hl : l.length < 1000) :
    b_Numerals_words_1 [some n.d, some m, some (.lst true (l.map tupS)), some (.int q.1), some (.int q.2), x, y] = .ok .nx [some n.d, some m, some (.lst true ((l ++ [partW n q]).map tupS)), some (.int q.1), some (.int q.2), x, y] := by
  obtain ⟨o, p⟩ := q
  simp only at h1 h2
  have hl2 : l.length < 16777216 := by omega
  have a1 := atI_strs h1
  by_cases hp : p = 0
  · subst hp
    simp [b_Numerals_words_1, a1, hl2, partW, tupS]
  · have hp' : 0 < p := by omega
    have a2 := atI_pred (l := n.powers) hp' (by omega)
    by_cases ho : o = 1 ∧ n.one = false
    · obtain ⟨rfl, hb⟩ := ho
      simp [b_Numerals_words_1, a1, a2, hl2, partW, tupS, hp, hb]
    · by_cases ho1 : o = 1
      · subst ho1
        have hb : n.one = true := by simpa using ho
        have a1' := a1
        simp at a1'
        simp [b_Numerals_words_1, a1', a2, hl2, partW, tupS, hp, hb]
      · have ho1' : ¬ ((o : Int) = 1) := by omega
        simp [b_Numerals_words_1, a1, a2, hl2, partW, tupS, hp, ho1, ho1']
theorem dCatI_tup (xs ys : List D) : dCatI (.tup xs) (.tup ys) = if xs.length + ys.length ≤ 2 ^ 24 then some (.tup (xs ++ ys)) else none := by
  unfold dCatI
  simp only [tlD]
  split
  · congr 1
    cases xs with
    | nil => rfl
    | cons x xs => cases ys with
      | nil => simp [catP]
      | cons y ys => rfl
  · rfl
theorem words_2 {n : Nu} (ok : n.Ok) (m x3 x4 : Option D) (x2 : Option D) (f p : List Str) (hf : f.length ≤ 1000) (hp : p.length ≤ 1000) :
    b_Numerals_words_2 [some n.d, m, x2, x3, x4, some (tupS f), some (tupS p)] = .ok .nx [some n.d, m, x2, x3, x4, some (tupS (f ++ (sepW n ++ p))), some (tupS p)] := by
  have e := ok.neLink
  by_cases hk : n.link = ""
  · have h1 : f.length + p.length ≤ 16777216 := by omega
    have h2 : p.length ≤ 16777216 := by omega
    simp [b_Numerals_words_2, e, hk, tupS, dCatI_tup, h1, h2, sepW]
    rw [hk] at e
    simp [e, dCatI_tup, h1, h2]
  · have h1 : f.length + (1 + p.length) ≤ 16777216 := by omega
    have h2 : 1 + p.length ≤ 16777216 := by omega
    have h3 : f.length + (p.length + 1) ≤ 16777216 := by omega
    simp [b_Numerals_words_2, e, hk, tupS, dCatI_tup, h1, h2, h3, sepW]
theorem cut1 {α : Type} (l : List α) : DL.cutD l (some 1) none = l.drop 1 := by
  unfold DL.cutD HT.sIx
  cases l with
  | nil => rfl
  | cons a l => simp
theorem ord_ne {n : Nu} {l : List (List Str)} (h : l ≠ []) : ordW n l ≠ [] := by
  unfold ordW
  split
  · simpa using h
  · exact h
theorem digs_ne {b p m : Nat} (hb : 2 ≤ b) (hm : 0 < m) : digs b p m ≠ [] := by
  intro z
  have key : ∀ (m p : Nat), 0 < m → digs b p m ≠ [] := by
    intro m
    induction m using Nat.strongRecOn with
    | ind m ih =>
      intro p hm z
      rw [digs_pos hb hm] at z
      by_cases h0 : 0 < m / b
      · exact ih (m / b) (Nat.div_lt_self hm hb) (p + 1) h0 (List.append_eq_nil_iff.mp z).1
      · have h1 : m < b := by
          have : m / b = 0 := Nat.eq_zero_of_not_pos h0
          rw [Nat.div_eq_zero_iff] at this
          omega
        rw [Nat.mod_eq_of_lt h1, if_pos hm] at z
        simp at z
  exact key m p hm z
theorem digs_ok {n : Nu} (ok : n.Ok) {m : Nat} (hm : m < n.end) : (∀ q ∈ digs n.b 0 m, 0 < q.1 ∧ q.1 < n.small.length ∧ q.2 ≤ n.powers.length) ∧ (digs n.b 0 m).length ≤ 21 := by
  obtain ⟨h1, h2⟩ := digs_in ok.b2 (n.powers.length + 1) 0 m hm
  have := ok.pw
  refine ⟨fun q hq => ?_, by omega⟩
  obtain ⟨a, b, c, d⟩ := h1 q hq
  exact ⟨a, by rw [ok.sm]; exact b, by omega⟩
theorem words_ev {n : Nu} (ok : n.Ok) {m : Nat} (hm : m < n.end) : F_Numerals_words [n.d, .int m] = .ok (tupS (wordsP n m)) [n.d, .int m] := by
  have he := end_ev ok
  have hmi : (m : Int) < n.end := by omega
  by_cases h0 : m = 0
  · subst h0
    have a0 := atI_strs (l := n.small) (o := 0) (by rw [ok.sm]; have := ok.b2; omega)
    simp at a0
    have e1 : s_Numerals_words [some n.d, some (.int 0), none, none, none, none, none] = .ok (.rt (tupS (wordsP n 0))) [some n.d, some (.int 0), none, none, none, none, none] := by
      simp [s_Numerals_words, seq_ap, he, hm, a0, wordsP, tupS]
    simp [F_Numerals_words, runF, outs, e1]
  · have hp : 0 < m := by omega
    obtain ⟨d1, d2⟩ := digs_ok ok hm
    have hd := digits_ev ok hm
    -- the parts
    obtain ⟨ρ1, l1, x, y, rfl⟩ := for_map (g := gT (gsC (gN 3) (gsC (gN 4) gs0))) (b := b_Numerals_words_1) dig (digs n.b 0 m) (fun pre ρ => ∃ x y, ρ = [some n.d, some (.int m), some (.lst true ((pre.map (partW n)).map tupS)), x, y, none, none]) [some n.d, some (.int m), some (.lst true []), none, none, none, none] ⟨none, none, rfl⟩ fun pre q post ρ e ⟨x, y, eρ⟩ => by
      subst eρ
      obtain ⟨a1, a2, a3⟩ := d1 q (by rw [e]; simp)
      have hl : pre.length ≤ 21 := by rw [e, List.length_append] at d2; omega
      refine ⟨[some n.d, some (.int m), some (.lst true ((pre.map (partW n)).map tupS)), some (.int q.1), some (.int q.2), none, none], _, by simp [dig], .inl (words_1 (.int m) (pre.map (partW n)) q none none a2 a3 (by rw [List.length_map]; omega)), some (.int q.1), some (.int q.2), ?_⟩
      simp
    -- their order
    have hne : ordW n ((digs n.b 0 m).map (partW n)) ≠ [] := ord_ne (by simpa using digs_ne ok.b2 hp)
    have hol : (ordW n ((digs n.b 0 m).map (partW n))).length ≤ 21 := by unfold ordW; split <;> simpa using d2
    have hop : ∀ p ∈ ordW n ((digs n.b 0 m).map (partW n)), p.length ≤ 2 := fun p hp => by
      have : p ∈ (digs n.b 0 m).map (partW n) := by
        unfold ordW at hp
        split at hp
        · simpa using hp
        · exact hp
      obtain ⟨q, _, rfl⟩ := List.mem_map.mp this
      exact (partW_len n q).2
    generalize hps : ordW n ((digs n.b 0 m).map (partW n)) = ps at *
    cases ps with
    | nil => exact absurd rfl hne
    | cons p0 rest =>
      have e2 : (ifS (toB (op2 dEq (toK (fldM 0 "order" (nameK 0))) (toK (M.pure (.str "low"))))) (setS 2 (op1 dRev (nameK 2))) skip) [some n.d, some (.int m), some (.lst true (((digs n.b 0 m).map (partW n)).map tupS)), x, y, none, none] = .ok .nx [some n.d, some (.int m), some (.lst true ((p0 :: rest).map tupS)), x, y, none, none] := by
        have el := ok.eqLow
        unfold ordW at hps
        by_cases ho : n.order = "low"
        · rw [if_pos ho] at hps
          have hr : ((digs n.b 0 m).map (partW n)).reverse.map tupS = (p0 :: rest).map tupS := by rw [hps]
          rw [List.map_reverse] at hr
          simp only [ho, decide_true] at el
          simp [el, ho]
          rw [List.map_map, ← List.map_reverse] at *
          simpa using hr
        · rw [if_neg ho] at hps
          have hr : ((digs n.b 0 m).map (partW n)).map tupS = (p0 :: rest).map tupS := by rw [hps]
          simp only [ho, decide_false] at el
          simp [el, ho]
          simpa using hr
      obtain ⟨ρ3, l3, z, rfl, _⟩ := for_map (g := gN 6) (b := b_Numerals_words_2) tupS rest (fun pre ρ => ∃ z, ρ = [some n.d, some (.int m), some (.lst true ((p0 :: rest).map tupS)), x, y, some (tupS (p0 ++ pre.flatMap fun q => sepW n ++ q)), z] ∧ (p0 ++ pre.flatMap fun q => sepW n ++ q).length ≤ 2 + 3 * pre.length)
        [some n.d, some (.int m), some (.lst true ((p0 :: rest).map tupS)), x, y, some (tupS p0), none] ⟨none, by simp, by have := hop p0 (by simp); simpa using this⟩ fun pre q post ρ e ⟨z, eρ, hle⟩ => by
        subst eρ
        have hq := hop q (by rw [e]; simp)
        have hlp : pre.length ≤ 21 := by
          rw [e] at hol
          simp at hol
          omega
        have hs := sepW_len n
        refine ⟨_, _, rfl, .inl (words_2 ok _ _ _ _ (p0 ++ pre.flatMap fun q => sepW n ++ q) q (by omega) (by omega)), some (tupS q), ?_, ?_⟩
        · rw [List.flatMap_append]
          simp
        · rw [List.flatMap_append]
          simp only [List.length_append, List.flatMap_cons, List.flatMap_nil, List.append_nil, List.length_singleton] at hle ⊢
          omega
      have hw : wordsP n m = p0 ++ rest.flatMap fun q => sepW n ++ q := by
        unfold wordsP
        rw [if_neg h0, hps]
        rfl
      have e1 : s_Numerals_words [some n.d, some (.int m), none, none, none, none, none] = .ok (.rt (tupS (wordsP n m))) [some n.d, some (.int m), some (.lst true ((p0 :: rest).map tupS)), x, y, some (tupS (wordsP n m)), z] := by
        unfold s_Numerals_words
        rw [seq_nx (ρ1 := [some n.d, some (.int m), none, none, none, none, none]) (by simp [he, hmi, hm]), seq_nx (ρ1 := [some n.d, some (.int m), none, none, none, none, none]) (by simp [h0]),
          seq_nx (ρ1 := [some n.d, some (.int m), some (.lst true []), none, none, none, none]) (by simp), seq_nx (ρ1 := [some n.d, some (.int m), some (.lst true (((digs n.b 0 m).map (partW n)).map tupS)), x, y, none, none]) ?_, seq_nx e2,
          seq_nx (ρ1 := [some n.d, some (.int m), some (.lst true ((p0 :: rest).map tupS)), x, y, some (tupS p0), none]) (by simp [atI, ixN]), seq_nx (ρ1 := [some n.d, some (.int m), some (.lst true ((p0 :: rest).map tupS)), x, y, some (tupS (wordsP n m)), z]) ?_]
        · simp
        · rw [forS_ap, hw]
          simp [dSlice, cut1]
          exact l3
        · rw [forS_ap]
          have hf : (fz ∘ dig) = dig := by funext q; simp [dig]
          simp only [List.map_map] at l1 ⊢
          simp [hd, hf]
          exact l1
      simp [F_Numerals_words, runF, outs, e1]
end K08
end

section
set_option Elab.async false
set_option linter.all false
set_option maxRecDepth 100000
set_option maxHeartbeats 4000000
namespace K08
open PySem PySem.Spec PyProof.Rows L2 DL
/-! ### texts -/
theorem toStrs_map : ∀ l : List Str, toStrs (l.map .str) = some l
  | [] => rfl
  | s :: l => by simp only [List.map_cons, toStrs, toStrs_map l]; rfl
@[simp] theorem dJoin_tup (a : Str) (l : List Str) : dJoin (.str a) [.tup (l.map .str)] = if (l.map (·.length)).sum + l.length * a.length ≤ 16777216 then some (.str (Txt.join a l)) else none := by
  simp only [dJoin, kids_tup, toStrs_map]
@[simp] theorem dJoin_lst (o : Bool) (a : Str) (l : List Str) : dJoin (.str a) [.lst o (l.map .str)] = if (l.map (·.length)).sum + l.length * a.length ≤ 16777216 then some (.str (Txt.join a l)) else none := by
  simp only [dJoin, kids_lst, toStrs_map]
def txt (n : Nu) (m : Nat) : Str := Txt.join " " (wordsP n m)
theorem getD_mem {l : List Str} {i : Nat} (h : i < l.length) : l.getD i "" ∈ l := by
  rw [List.getD_eq_getElem?_getD, List.getElem?_eq_getElem h]
  exact List.getElem_mem h
def voc (n : Nu) : List Str := n.link :: (n.small ++ n.powers)
theorem voc_s {n : Nu} {i : Nat} (h : i < n.small.length) : n.small.getD i "" ∈ voc n := List.mem_cons_of_mem _ (List.mem_append_left _ (getD_mem h))
theorem voc_p {n : Nu} {i : Nat} (h : i < n.powers.length) : n.powers.getD i "" ∈ voc n := List.mem_cons_of_mem _ (List.mem_append_right _ (getD_mem h))
theorem part_voc {n : Nu} {q : Nat × Nat} (h1 : q.1 < n.small.length) (h2 : q.2 ≤ n.powers.length) : ∀ w ∈ partW n q, w ∈ voc n := by
  intro w hw
  unfold partW at hw
  split at hw
  · simp only [List.mem_singleton] at hw; subst hw; exact voc_s h1
  · split at hw
    · simp only [List.mem_singleton] at hw; subst hw; exact voc_p (by omega)
    · rcases List.mem_cons.mp hw with hw | hw
      · subst hw; exact voc_s h1
      · simp only [List.mem_singleton] at hw; subst hw; exact voc_p (by omega)
theorem sep_voc {n : Nu} : ∀ w ∈ sepW n, w ∈ voc n ∧ w ≠ "" := by
  intro w hw
  unfold sepW at hw
  split at hw
  · cases hw
  · simp only [List.mem_singleton] at hw; subst hw; exact ⟨List.mem_cons_self, by assumption⟩
theorem ord_mem {n : Nu} {l : List (List Str)} {p : List Str} : p ∈ ordW n l ↔ p ∈ l := by unfold ordW; split <;> simp
theorem ord_len {n : Nu} {l : List (List Str)} : (ordW n l).length = l.length := by unfold ordW; split <;> simp
theorem glue_mem {n : Nu} {w : Str} : ∀ {l : List (List Str)}, w ∈ glueW n l → w ∈ sepW n ∨ ∃ p ∈ l, w ∈ p
  | [], h => by cases h
  | p :: rest, h => by
    unfold glueW at h
    rcases List.mem_append.mp h with h | h
    · exact .inr ⟨p, List.mem_cons_self, h⟩
    · obtain ⟨q, hq, h⟩ := List.mem_flatMap.mp h
      rcases List.mem_append.mp h with h | h
      · exact .inl h
      · exact .inr ⟨q, List.mem_cons_of_mem _ hq, h⟩
theorem flat_len {n : Nu} : ∀ {l : List (List Str)}, (∀ p ∈ l, p.length ≤ 2) → (l.flatMap fun q => sepW n ++ q).length ≤ 3 * l.length
  | [], _ => by simp
  | p :: l, h => by
    have h1 := h p List.mem_cons_self
    have h2 := flat_len (n := n) (l := l) fun q hq => h q (List.mem_cons_of_mem _ hq)
    have h3 := sepW_len n
    simp only [List.flatMap_cons, List.length_append, List.length_cons] at *
    omega
theorem glue_len {n : Nu} {l : List (List Str)} (h : ∀ p ∈ l, p.length ≤ 2) : (glueW n l).length ≤ 3 * l.length := by
  cases l with
  | nil => simp [glueW]
  | cons p l =>
    have h1 := h p List.mem_cons_self
    have h2 := flat_len (n := n) (l := l) fun q hq => h q (List.mem_cons_of_mem _ hq)
    simp only [glueW, List.length_append, List.length_cons] at *
    omega
theorem words_voc {n : Nu} (ok : n.Ok) {m : Nat} (hm : m < n.end) : (∀ w ∈ wordsP n m, w ∈ voc n) ∧ (wordsP n m).length ≤ 63 := by
  obtain ⟨d1, d2⟩ := digs_ok ok hm
  unfold wordsP
  split
  · exact ⟨fun w hw => by
      simp only [List.mem_singleton] at hw
      subst hw
      exact voc_s (by rw [ok.sm]; have := ok.b2; omega), by simp⟩
  · refine ⟨fun w hw => ?_, ?_⟩
    · rcases glue_mem hw with h | ⟨p, hp, h⟩
      · exact (sep_voc w h).1
      · rw [ord_mem] at hp
        obtain ⟨q, hq, rfl⟩ := List.mem_map.mp hp
        obtain ⟨_, a, b⟩ := d1 q hq
        exact part_voc a b w h
    · refine Nat.le_trans (glue_len fun p hp => ?_) ?_
      · rw [ord_mem] at hp
        obtain ⟨q, hq, rfl⟩ := List.mem_map.mp hp
        exact (partW_len n q).2
      · rw [ord_len, List.length_map]
        omega
theorem sum_le {l : List Str} (h : ∀ w ∈ l, w.length ≤ 50) : (l.map (·.length)).sum ≤ 50 * l.length := by
  induction l with
  | nil => simp
  | cons w l ih =>
    have h1 := h w List.mem_cons_self
    have h2 := ih fun q hq => h q (List.mem_cons_of_mem _ hq)
    simp only [List.map_cons, List.sum_cons, List.length_cons] at *
    omega
theorem join_fits {l : List Str} (h : ∀ w ∈ l, w.length ≤ 50) (hl : l.length ≤ 63) : (l.map (·.length)).sum + l.length * (" " : Str).length ≤ 16777216 := by
  have h1 := sum_le h
  have h2 : (" " : Str).length = 1 := by decide +kernel
  rw [h2]
  omega
theorem text_ev {n : Nu} (ok : n.Ok) {m : Nat} (hm : m < n.end) : F_Numerals_text [n.d, .int m] = .ok (.str (txt n m)) [n.d, .int m] := by
  obtain ⟨v1, v2⟩ := words_voc ok hm
  have hf := join_fits (fun w hw => (ok.wd w (v1 w hw)).2) v2
  have hw := words_ev ok hm
  have e1 : s_Numerals_text [some n.d, some (.int m)] = .ok (.rt (.str (txt n m))) [some n.d, some (.int m)] := by
    simp [s_Numerals_text, hw]
    simp [tupS, hf, txt]
  simp [F_Numerals_text, runF, outs, e1]
theorem words_exc {n : Nu} (ok : n.Ok) {i : Int} (h : ¬ (0 ≤ i ∧ i < n.end)) : F_Numerals_words [n.d, .int i] = .exc 1 [n.d, .int i] := by
  have he := end_ev ok
  have e1 : s_Numerals_words [some n.d, some (.int i), none, none, none, none, none] = .exc 1 [some n.d, some (.int i), none, none, none, none, none] := by
    by_cases h0 : 0 ≤ i
    · have h1 : ¬ i < n.end := fun z => h ⟨h0, z⟩
      simp [s_Numerals_words, seq_ap, he, h0, h1]
    · simp [s_Numerals_words, seq_ap, he, h0]
  simp [F_Numerals_words, runF, outs, e1]
theorem text_exc {n : Nu} (ok : n.Ok) {i : Int} (h : ¬ (0 ≤ i ∧ i < n.end)) : F_Numerals_text [n.d, .int i] = .exc 1 [n.d, .int i] := by
  have hw := words_exc ok h
  have e1 : s_Numerals_text [some n.d, some (.int i)] = .exc 1 [some n.d, some (.int i)] := by
    simp [s_Numerals_text, hw]
  simp [F_Numerals_text, runF, outs, e1]
end K08
end

section
set_option Elab.async false
set_option linter.all false
set_option maxRecDepth 100000
set_option maxHeartbeats 4000000
namespace K08
open PySem PySem.Spec PyProof.Rows L2 DL TL
/-! ### numbers -/
theorem toVs_map : ∀ l : List Str, toVs (l.map .str) = some (l.map V.str)
  | [] => rfl
  | s :: l => by simp only [List.map_cons, toVs, toV, toVs_map l]
theorem idxS_none : ∀ {l : List Str} {z : Str}, idxS l z = none ↔ z ∉ l
  | [], z => by simp [idxS]
  | y :: l, z => by
    unfold idxS
    by_cases h : y = z
    · simp [h]
    · have := idxS_none (l := l) (z := z)
      simp only [h, if_false, Option.map_eq_none_iff, this, List.mem_cons, not_or]
      exact ⟨fun w => ⟨fun e => h e.symm, w⟩, fun w => w.2⟩
theorem inV_strs (l : List Str) (z : Str) : inV (.str z) (l.map V.str) = (idxS l z).isSome := by
  have h : inV (.str z) (l.map V.str) = l.any (· == z) := by
    unfold inV
    rw [List.any_map]
    rfl
  rw [h]
  induction l with
  | nil => rfl
  | cons y l ih =>
    unfold idxS
    by_cases e : y = z
    · simp [e]
    · simp only [List.any_cons, e, if_false, Option.isSome_map]
      rw [← ih (by unfold inV; rw [List.any_map]; rfl)]
      simp [e]
@[simp] theorem dInA_ptup (l : List Str) (z : Str) : dInA (.str z) (.ptup (l.map .str)) = some (.bl (idxS l z).isSome) := by
  simp only [dInA, inDatA, toV, toVs_map, inV_strs, Option.map_some]
theorem ixP_ap {mo : M D} {mk : M Tk} {ρ ρ1 ρ2 : Rho} {l : List Str} {t : Tk} {z : Str} {j : Nat} (h1 : mo ρ = .ok (.ptup (l.map .str)) ρ1) (h2 : mk ρ1 = .ok t ρ2) (h3 : t.get ρ2 = some (.str z)) (h4 : idxS l z = some j) : ixP mo mk ρ = .ok (.int j) ρ2 := by
  unfold ixP
  rw [bind_ap, h1]
  simp only [bind_ap, h2, h3, toStrs_map, h4]
def stp (n : Nu) (q : Nat × Option Nat) (w : Str) : Option (Nat × Option Nat) :=
  match idxS n.small w with
  | some j => some (q.1 + q.2.getD 0, some j)
  | none => match idxS n.powers w with
    | some j => some (q.1 + q.2.getD 1 * n.b ^ (j + 1), none)
    | none => if w = n.link then some (q.1 + q.2.getD 0, none) else none
def foldS (n : Nu) : Nat × Option Nat → List Str → Option (Nat × Option Nat)
  | q, [] => some q
  | q, w :: ws => match stp n q w with
    | some q' => foldS n q' ws
    | none => none
def lastD : Option Nat → D
  | none => .non
  | some k => .int k
@[simp] theorem lastD_none : lastD none = .non := rfl
@[simp] theorem lastD_some (k : Nat) : lastD (some k) = .int k := rfl
theorem idx_lt {l : List Str} {z : Str} {j : Nat} (h : idxS l z = some j) : j < l.length := by
  have := (idxS_ok h).1
  exact (List.getElem?_eq_some_iff.mp this).1
@[simp] theorem isNon_non : DL.isNon .non = true := rfl
@[simp] theorem isNon_int (i : Int) : DL.isNon (.int i) = false := rfl
@[simp] theorem isNon_str (i : Str) : DL.isNon (.str i) = false := rfl
theorem num_1 {n : Nu} (ok : n.Ok) (a b c d : Option D) (k : Int) (z : Option D) :
    b_Numerals_number_1 [some n.d, a, b, c, d, some (.int k), z] = .ok .nx [some n.d, a, b, c, d, some (.int (k * n.b)), z] := by
  simp [b_Numerals_number_1, small_nat ok.b60]
theorem num_pow {n : Nu} (ok : n.Ok) (a b c d z : Option D) (j : Nat) : ∃ z', forF (gN 6) b_Numerals_number_1 ((List.range j).map fun i => .int (0 + (i : Nat))) [some n.d, a, b, c, d, some (.int 1), z] = .ok .nx [some n.d, a, b, c, d, some (.int ((n.b ^ j : Nat) : Int)), z'] := by
  obtain ⟨ρ', h1, z', rfl⟩ := for_map (g := gN 6) (b := b_Numerals_number_1) (fun i : Nat => D.int (0 + (i : Nat))) (List.range j) (fun pre ρ => ∃ z', ρ = [some n.d, a, b, c, d, some (.int ((n.b : Int) ^ pre.length)), z']) [some n.d, a, b, c, d, some (.int 1), z] ⟨z, by simp⟩ fun pre i post ρ _ ⟨z', e⟩ => by
    subst e
    refine ⟨_, _, rfl, .inl (num_1 ok _ _ _ _ _ _), some (.int (0 + (i : Nat))), ?_⟩
    rw [List.length_append, List.length_singleton, Int.pow_succ]
  refine ⟨z', ?_⟩
  rw [h1]
  simp
theorem pow_small {n : Nu} (ok : n.Ok) {j : Nat} (h : j < n.powers.length) : DL.small ((n.b ^ (j + 1) : Nat) : Int) = true := by
  have h1 : n.b ^ (j + 1) ≤ 10 ^ (j + 1) := Nat.pow_le_pow_left ok.b10 _
  have h2 : 10 ^ (j + 1) ≤ 10 ^ 3 := Nat.pow_le_pow_right (by omega) (by have := ok.pw3; omega)
  have h3 : n.b ^ (j + 1) ≤ 1000 := by omega
  simp only [DL.small, Bool.and_eq_true, decide_eq_true_eq]
  omega
@[simp] theorem ixP_eq (mo : M D) (mk : M Tk) : ixP mo mk = M.bind mo fun d => match d with
  | .ptup ds => M.bind mk fun t => fun ρ => match t.get ρ with
    | some (.str z) => (match toStrs ds with
      | some ys => (match idxS ys z with
        | some j => .ok (.int (j : Nat)) ρ
        | none => .bad)
      | none => .bad)
    | _ => .bad
  | _ => M.bad := by unfold ixP; rfl
theorem rng_1 {j : Nat} (h : j ≤ 100) : gRng1 [.int ((j : Int) + 1)] = some ((List.range (j + 1)).map fun i => .int (0 + (i : Nat))) := by
  have hj : okR ((j : Int) + 1) = true := okR_iff.mpr ⟨by omega, by omega⟩
  have e : ((j : Int) + 1).toNat = j + 1 := by omega
  simp only [gRng1, hj, if_true, e]
def pw_n : M Fl := (seq (setS 5 (M.pure (.int 1)))
  (seq (forS (itN gRng1 (argK (toK (op2 dAdd (toK (ixP (fldM 0 "powers" (nameK 0)) (nameK 4))) (toK (M.pure (.int 1))))) argK0)) (gN 6) b_Numerals_number_1)
  (seq (augS 2 (toK (op2 dMul (toK (ifV (toB (op2 dIsN (nameK 3) (toK (M.pure .non)))) (M.pure (.int 1)) (nameE 3))) (nameK 5))))
  (setS 3 (M.pure .non)))))
def sm_n : M Fl := (seq (augS 2 (toK (ifV (toB (op2 dIsN (nameK 3) (toK (M.pure .non)))) (M.pure (.int 0)) (nameE 3))))
  (setS 3 (ixP (fldM 0 "small" (nameK 0)) (nameK 4))))
def lk_n : M Fl := (seq (augS 2 (toK (ifV (toB (op2 dIsN (nameK 3) (toK (M.pure .non)))) (M.pure (.int 0)) (nameE 3))))
  (setS 3 (M.pure .non)))
theorem num_2_is : b_Numerals_number_2 = ifS (toB (op2 dInA (nameK 4) (toK (fldM 0 "small" (nameK 0))))) sm_n (ifS (toB (op2 dInA (nameK 4) (toK (fldM 0 "powers" (nameK 0))))) pw_n (ifS (toB (op2 dEq (nameK 4) (toK (fldM 0 "link" (nameK 0))))) lk_n (M.exc 1))) := rfl
theorem aug_last {n : Nu} (s : Option D) (t : Nat) (l : Option Nat) (w y z : Option D) : augS 2 (toK (ifV (toB (op2 dIsN (nameK 3) (toK (M.pure .non)))) (M.pure (.int 0)) (nameE 3))) [some n.d, s, some (.int t), some (lastD l), w, y, z] = .ok .nx [some n.d, s, some (.int ((t + l.getD 0 : Nat) : Int)), some (lastD l), w, y, z] := by
  cases l with
  | none => simp
  | some k => simp
theorem sm_ev {n : Nu} (s : Option D) (t : Nat) (l : Option Nat) (w : Str) (y z : Option D) {j : Nat} (h : idxS n.small w = some j) : sm_n [some n.d, s, some (.int t), some (lastD l), some (.str w), y, z] = .ok .nx [some n.d, s, some (.int ((t + l.getD 0 : Nat) : Int)), some (.int j), some (.str w), y, z] := by
  unfold sm_n
  rw [seq_nx (aug_last s t l _ y z)]
  simp [toStrs_map, h]
theorem lk_ev {n : Nu} (s : Option D) (t : Nat) (l : Option Nat) (w : Str) (y z : Option D) : lk_n [some n.d, s, some (.int t), some (lastD l), some (.str w), y, z] = .ok .nx [some n.d, s, some (.int ((t + l.getD 0 : Nat) : Int)), some .non, some (.str w), y, z] := by
  unfold lk_n
  rw [seq_nx (aug_last s t l _ y z)]
  simp
theorem pw_it {n : Nu} (s : Option D) (t l : Option D) (w : Str) (y z : Option D) {j : Nat} (h : idxS n.powers w = some j) (hj : j ≤ 100) : itN gRng1 (argK (toK (op2 dAdd (toK (ixP (fldM 0 "powers" (nameK 0)) (nameK 4))) (toK (M.pure (.int 1))))) argK0) [some n.d, s, t, l, some (.str w), y, z] = .ok ((List.range (j + 1)).map fun i => .int (0 + (i : Nat))) [some n.d, s, t, l, some (.str w), y, z] := by
  have er := rng_1 hj
  simp only [Int.zero_add] at er ⊢
  simp [toStrs_map, h, er]
theorem op2_ap {g : D → D → Option D} {ma mb : M Tk} {ρ ρ1 ρ2 : Rho} {t u : Tk} {x y d : D} (h1 : ma ρ = .ok t ρ1) (h2 : mb ρ1 = .ok u ρ2) (h3 : t.get ρ2 = some x) (h4 : u.get ρ2 = some y) (h5 : g x y = some d) : op2 g ma mb ρ = .ok d ρ2 := by
  rw [op2_eq, bind_ap, h1]
  simp only
  rw [bind_ap, h2]
  simp only [h3, h4, h5]
  rfl
theorem mul_sm {i j : Int} (h : DL.small j = true) : dMul (.int i) (.int j) = some (.int (i * j)) := by
  rw [dMul_int, h, Bool.or_true, if_pos rfl]
theorem aug_int {mo : M Tk} {i : Nat} {ρ ρ1 : Rho} {a b : Int} {t : Tk} (h0 : ρ[i]? = some (some (.int a))) (h1 : mo ρ = .ok t ρ1) (h2 : ρ1[i]? = some (some (.int a))) (h3 : t.get ρ1 = some (.int b)) : augS i mo ρ = .ok .nx (ρ1.set i (some (.int (a + b)))) := by
  rw [augS_eq, bind_ap, nameK_ap, h0]
  simp only
  rw [bind_ap, h1]
  simp only [h2, h3]
theorem pw_mul {n : Nu} (s : Option D) (t : Nat) (l : Option Nat) (w z : Option D) (v : Nat) (hv : DL.small (v : Int) = true) : augS 2 (toK (op2 dMul (toK (ifV (toB (op2 dIsN (nameK 3) (toK (M.pure .non)))) (M.pure (.int 1)) (nameE 3))) (nameK 5))) [some n.d, s, some (.int t), some (lastD l), w, some (.int v), z] = .ok .nx [some n.d, s, some (.int ((t + l.getD 1 * v : Nat) : Int)), some (lastD l), w, some (.int v), z] := by
  have h1 : (ifV (toB (op2 dIsN (nameK 3) (toK (M.pure .non)))) (M.pure (.int 1)) (nameE 3)) [some n.d, s, some (.int t), some (lastD l), w, some (.int v), z] = .ok (.int (l.getD 1 : Nat)) [some n.d, s, some (.int t), some (lastD l), w, some (.int v), z] := by
    cases l with
    | none => simp
    | some k => simp
  have h2 := op2_ap (g := dMul) (ma := toK (ifV (toB (op2 dIsN (nameK 3) (toK (M.pure .non)))) (M.pure (.int 1)) (nameE 3))) (mb := nameK 5) (t := .v (.int (l.getD 1 : Nat))) (u := .s 5) (by rw [toK_eq, bind_ap, h1]; simp; rfl) (by simp; rfl) (by simp) (by simp) (mul_sm (i := (l.getD 1 : Nat)) hv)
  rw [aug_int (a := t) (b := (l.getD 1 : Nat) * (v : Int)) (t := .v (.int ((l.getD 1 : Nat) * (v : Int)))) (by simp) (by rw [toK_eq, bind_ap, h2]; simp; rfl) (by simp) (by simp)]
  simp
theorem pw_for {n : Nu} (s t l : Option D) (w : Str) (z z' : Option D) {j : Nat} (h : idxS n.powers w = some j) (hj : j ≤ 100) {v : Int} (hp : forF (gN 6) b_Numerals_number_1 ((List.range (j + 1)).map fun i => .int (0 + (i : Nat))) [some n.d, s, t, l, some (.str w), some (.int 1), z] = .ok .nx [some n.d, s, t, l, some (.str w), some (.int v), z']) :
    (forS (itN gRng1 (argK (toK (op2 dAdd (toK (ixP (fldM 0 "powers" (nameK 0)) (nameK 4))) (toK (M.pure (.int 1))))) argK0)) (gN 6) b_Numerals_number_1) [some n.d, s, t, l, some (.str w), some (.int 1), z] = .ok .nx [some n.d, s, t, l, some (.str w), some (.int v), z'] := by
  rw [forS_ap, pw_it s _ _ w _ z h hj]
  exact hp
theorem pw_ev {n : Nu} (ok : n.Ok) (s : Option D) (t : Nat) (l : Option Nat) (w : Str) (y z : Option D) {j : Nat} (h : idxS n.powers w = some j) : ∃ z', pw_n [some n.d, s, some (.int t), some (lastD l), some (.str w), y, z] = .ok .nx [some n.d, s, some (.int ((t + l.getD 1 * n.b ^ (j + 1) : Nat) : Int)), some .non, some (.str w), some (.int ((n.b ^ (j + 1) : Nat) : Int)), z'] := by
  obtain ⟨z', hp⟩ := num_pow ok s (some (.int t)) (some (lastD l)) (some (.str w)) z (j + 1)
  have hs := pow_small ok (idx_lt h)
  refine ⟨z', ?_⟩
  unfold pw_n
  rw [seq_nx (ρ1 := [some n.d, s, some (.int t), some (lastD l), some (.str w), some (.int 1), z]) (by simp), seq_nx (ρ1 := [some n.d, s, some (.int t), some (lastD l), some (.str w), some (.int ((n.b ^ (j + 1) : Nat) : Int)), z']), seq_nx (pw_mul s t l _ z' _ hs)]
  · simp
  · exact pw_for s _ _ w z z' h (by have := idx_lt h; have := ok.pw3; omega) hp
theorem num_2 {n : Nu} (ok : n.Ok) (s : Option D) (q : Nat × Option Nat) (w : Str) (hw : okS w = true) (y z : Option D) :
    (∃ q' y' z', stp n q w = some q' ∧ b_Numerals_number_2 [some n.d, s, some (.int q.1), some (lastD q.2), some (.str w), y, z] = .ok .nx [some n.d, s, some (.int q'.1), some (lastD q'.2), some (.str w), y', z']) ∨
    (stp n q w = none ∧ b_Numerals_number_2 [some n.d, s, some (.int q.1), some (lastD q.2), some (.str w), y, z] = .exc 1 [some n.d, s, some (.int q.1), some (lastD q.2), some (.str w), y, z]) := by
  obtain ⟨t, l⟩ := q
  have el := dEq_str hw (ok.wd n.link List.mem_cons_self).1
  rw [num_2_is, ifS_ok (k := (idxS n.small w).isSome) (ρ1 := [some n.d, s, some (.int t), some (lastD l), some (.str w), y, z]) (by simp)]
  unfold stp
  cases h1 : idxS n.small w with
  | some j =>
    refine .inl ⟨(t + l.getD 0, some j), y, z, by simp, ?_⟩
    rw [Option.isSome_some, if_pos rfl]
    exact sm_ev s t l w y z h1
  | none =>
    rw [Option.isSome_none, if_neg Bool.false_ne_true, ifS_ok (k := (idxS n.powers w).isSome) (ρ1 := [some n.d, s, some (.int t), some (lastD l), some (.str w), y, z]) (by simp)]
    cases h2 : idxS n.powers w with
    | some j =>
      obtain ⟨z', e⟩ := pw_ev ok s t l w y z h2
      refine .inl ⟨(t + l.getD 1 * n.b ^ (j + 1), none), some (.int ((n.b ^ (j + 1) : Nat) : Int)), z', by simp, ?_⟩
      rw [Option.isSome_some, if_pos rfl]
      exact e
    | none =>
      rw [Option.isSome_none, if_neg Bool.false_ne_true, ifS_ok (k := decide (w = n.link)) (ρ1 := [some n.d, s, some (.int t), some (lastD l), some (.str w), y, z]) (by simp [el])]
      by_cases h3 : w = n.link
      · refine .inl ⟨(t + l.getD 0, none), y, z, by simp only; rw [if_pos h3], ?_⟩
        rw [if_pos (by simpa using h3)]
        exact lk_ev s t l w y z
      · refine .inr ⟨by simp only; rw [if_neg h3], ?_⟩
        rw [if_neg (by simpa using h3)]
        rfl
theorem num_loop {n : Nu} (ok : n.Ok) (s : Option D) : ∀ (ws : List Str) (q : Nat × Option Nat) (x y z : Option D), (∀ w ∈ ws, okS w = true) →
    (∃ q' x' y' z', foldS n q ws = some q' ∧ forF (gN 4) b_Numerals_number_2 (ws.map .str) [some n.d, s, some (.int q.1), some (lastD q.2), x, y, z] = .ok .nx [some n.d, s, some (.int q'.1), some (lastD q'.2), x', y', z']) ∨
    (foldS n q ws = none ∧ ∃ a b c d e, forF (gN 4) b_Numerals_number_2 (ws.map .str) [some n.d, s, some (.int q.1), some (lastD q.2), x, y, z] = .exc 1 [some n.d, s, a, b, c, d, e])
  | [], q, x, y, z, _ => .inl ⟨q, x, y, z, rfl, rfl⟩
  | w :: ws, q, x, y, z, h => by
    rw [List.map_cons, forF_cons]
    have e : gN 4 (.str w) [some n.d, s, some (.int q.1), some (lastD q.2), x, y, z] = .ok () [some n.d, s, some (.int q.1), some (lastD q.2), some (.str w), y, z] := by simp
    rw [e]
    simp only
    rcases num_2 ok s q w (h w List.mem_cons_self) y z with ⟨q', y', z', e1, e2⟩ | ⟨e1, e2⟩
    · rw [e2]
      simp only
      unfold foldS
      rw [e1]
      exact num_loop ok s ws q' _ _ _ fun v hv => h v (List.mem_cons_of_mem _ hv)
    · rw [e2]
      refine .inr ⟨by unfold foldS; rw [e1], _, _, _, _, _, rfl⟩
def numV (n : Nu) (s : Str) : Option Nat := match foldS n (0, none) (Txt.split s " ") with
  | some q => if q.1 + q.2.getD 0 < n.end ∧ txt n (q.1 + q.2.getD 0) = s then some (q.1 + q.2.getD 0) else none
  | none => none
theorem tl_all {x : Str} {p : Nat → Bool} : x.cps.all p = (tl x).all p := by
  unfold tl
  rw [Array.all_toList]
theorem joinL_all {p : Nat → Bool} {S : List Nat} (hS : S.all p = true) : ∀ {l : List (List Nat)}, (∀ q ∈ l, q.all p = true) → (joinL S l).all p = true
  | [], _ => rfl
  | [q], h => h q List.mem_cons_self
  | q :: r :: l, h => by
    unfold joinL
    rw [List.all_append, List.all_append, h q List.mem_cons_self, hS, joinL_all hS fun z hz => h z (List.mem_cons_of_mem _ hz)]
    rfl
theorem okS_join {a : Str} {l : List Str} (ha : okS a = true) (h : ∀ w ∈ l, okS w = true) : okS (Txt.join a l) = true := by
  unfold okS at *
  rw [tl_all, join_eq, tl_join]
  refine joinL_all (by rw [← tl_all]; exact ha) fun q hq => ?_
  obtain ⟨w, hw, rfl⟩ := List.mem_map.mp hq
  rw [← tl_all]
  exact h w hw
theorem okS_sp : okS " " = true := by decide +kernel
theorem okS_txt {n : Nu} (ok : n.Ok) {m : Nat} (hm : m < n.end) : okS (txt n m) = true := okS_join okS_sp fun w hw => (ok.wd w ((words_voc ok hm).1 w hw)).1
end K08
end

section
set_option Elab.async false
set_option linter.all false
set_option maxRecDepth 100000
set_option maxHeartbeats 4000000
namespace K08
open PySem PySem.Spec PyProof.Rows L2 DL TL
theorem tl_sp : tl (" " : Str) = [32] := by decide +kernel
theorem spl_all {p : Nat → Bool} {S : List Nat} : ∀ (l acc : List Nat) (k : Nat), acc.all p = true → l.all p = true → ∀ q ∈ spl S k acc l, q.all p = true
  | [], acc, k, ha, _, q, hq => by
    rw [spl_nil] at hq
    simp only [List.mem_singleton] at hq
    rw [hq]; exact ha
  | c :: r, acc, 0, ha, hl, q, hq => by
    rw [List.all_cons, Bool.and_eq_true] at hl
    unfold spl at hq
    split at hq
    · rcases List.mem_cons.mp hq with hq | hq
      · rw [hq]; exact ha
      · exact spl_all r [] _ rfl hl.2 q hq
    · refine spl_all r _ _ ?_ hl.2 q hq
      rw [List.all_append, ha, List.all_cons, hl.1]
      rfl
  | c :: r, acc, k + 1, ha, hl, q, hq => by
    rw [List.all_cons, Bool.and_eq_true] at hl
    unfold spl at hq
    exact spl_all r acc k ha hl.2 q hq
theorem okS_split {s : Str} (h : okS s = true) : ∀ w ∈ Txt.split s " ", okS w = true := by
  intro w hw
  have e := split_spl s " " (by rw [tl_sp]; simp) (kind_ok (by decide +kernel))
  have hm : tl w ∈ spl (tl (" " : Str)) 0 [] (tl s) := by rw [← e]; exact List.mem_map_of_mem hw
  unfold okS at *
  rw [tl_all] at *
  exact spl_all _ _ _ rfl h _ hm
theorem gSplit_ev {s : Str} (h : s.length + 2 ≤ 2 ^ 24) : gSplit (.str s) [.str " "] = some (.lst true ((Txt.split s " ").map .str)) := by
  have h1 : ((" " : Str).length == 0) = false := by decide +kernel
  simp only [gSplit, h1, true_and]
  rw [if_pos h]
theorem number_ev {n : Nu} (ok : n.Ok) {s : Str} (hs : okS s = true) (hl : s.length + 2 ≤ 2 ^ 24) :
    F_Numerals_number [n.d, .str s] = (match numV n s with
      | some v => .ok (.int v) [n.d, .str s]
      | none => .exc 1 [n.d, .str s]) := by
  have he := end_ev ok
  have hg := gSplit_ev hl
  have hit : iterM (opM "str" gSplit (nameK 1) (argK (toK (M.pure (.str " "))) argK0)) [some n.d, some (.str s), some (.int 0), some .non, none, none, none] = .ok ((Txt.split s " ").map .str) [some n.d, some (.str s), some (.int 0), some .non, none, none, none] := by
    simp [hg]
  have hL := num_loop ok (some (.str s)) (Txt.split s " ") (0, none) none none none (okS_split hs)
  have h0 : (parS [2, 3] (vcons (M.pure (.int 0)) (vcons (M.pure .non) (M.pure [])))) [some n.d, some (.str s), none, none, none, none, none] = .ok .nx [some n.d, some (.str s), some (.int 0), some .non, none, none, none] := by simp
  have hF : (forS (iterM (opM "str" gSplit (nameK 1) (argK (toK (M.pure (.str " "))) argK0))) (gN 4) b_Numerals_number_2) [some n.d, some (.str s), some (.int 0), some .non, none, none, none] = forF (gN 4) b_Numerals_number_2 ((Txt.split s " ").map .str) [some n.d, some (.str s), some (.int (0 : Nat)), some (lastD none), none, none, none] := by
    rw [forS_ap, hit]
    rfl
  unfold numV
  rcases hL with ⟨q, x, y, z, e1, e2⟩ | ⟨e1, a, b, c, d, e, e2⟩
  · rw [e1]
    simp only
    have h3 := aug_last (n := n) (some (.str s)) q.1 q.2 x y z
    by_cases hv : q.1 + q.2.getD 0 < n.end
    · have ht := text_ev ok hv
      have hd := dNe_str (okS_txt ok hv) hs
      have hvi : ¬ ((n.end : Int) ≤ ((q.1 + q.2.getD 0 : Nat) : Int)) := by omega
      by_cases ht2 : txt n (q.1 + q.2.getD 0) = s
      · rw [if_pos ⟨hv, ht2⟩]
        simp only [ht2, decide_true, Bool.not_true] at hd
        rw [ht2] at ht
        generalize hV : q.1 + q.2.getD 0 = v at *
        have ee : s_Numerals_number [some n.d, some (.str s), none, none, none, none, none] = .ok (.rt (.int v)) [some n.d, some (.str s), some (.int v), some (lastD q.2), x, y, z] := by
          unfold s_Numerals_number
          rw [seq_nx h0, seq_nx (hF.trans e2), seq_nx h3, seq_nx (ρ1 := [some n.d, some (.str s), some (.int v), some (lastD q.2), x, y, z])]
          · simp
          · simp [he, hvi, ht, hd]
        simp [F_Numerals_number, runF, outs, ee]
      · rw [if_neg fun z => ht2 z.2]
        simp only [ht2, decide_false, Bool.not_false] at hd
        generalize hV : q.1 + q.2.getD 0 = v at *
        have ee : s_Numerals_number [some n.d, some (.str s), none, none, none, none, none] = .exc 1 [some n.d, some (.str s), some (.int v), some (lastD q.2), x, y, z] := by
          unfold s_Numerals_number
          rw [seq_nx h0, seq_nx (hF.trans e2), seq_nx h3, seq_exc (ρ1 := [some n.d, some (.str s), some (.int v), some (lastD q.2), x, y, z])]
          simp [he, hvi, ht, hd]
        simp [F_Numerals_number, runF, outs, ee]
    · rw [if_neg fun z => hv z.1]
      generalize hV : q.1 + q.2.getD 0 = v at *
      have hvi : ((n.end : Int) ≤ (v : Int)) := by omega
      have ee : s_Numerals_number [some n.d, some (.str s), none, none, none, none, none] = .exc 1 [some n.d, some (.str s), some (.int v), some (lastD q.2), x, y, z] := by
        unfold s_Numerals_number
        rw [seq_nx h0, seq_nx (hF.trans e2), seq_nx h3, seq_exc (ρ1 := [some n.d, some (.str s), some (.int v), some (lastD q.2), x, y, z])]
        simp [he, hvi]
      simp [F_Numerals_number, runF, outs, ee]
  · rw [e1]
    have ee : s_Numerals_number [some n.d, some (.str s), none, none, none, none, none] = .exc 1 [some n.d, some (.str s), a, b, c, d, e] := by
      unfold s_Numerals_number
      rw [seq_nx h0, seq_exc (hF.trans e2)]
    simp [F_Numerals_number, runF, outs, ee]
/-! ### read back -/
structure Nu.Ok2 (n : Nu) : Prop where
  nd : (n.small ++ n.powers).Nodup
  lk : n.link ∉ n.small ++ n.powers
  sp : ∀ w ∈ voc n, 32 ∉ tl w
theorem idx_get : ∀ {l : List Str} {i : Nat}, l.Nodup → i < l.length → idxS l (l.getD i "") = some i
  | [], i, _, h => absurd h (Nat.not_lt_zero _)
  | y :: l, 0, _, _ => by simp [idxS]
  | y :: l, i + 1, nd, h => by
    have h' : i < l.length := by simpa using h
    rw [List.nodup_cons] at nd
    have ne : y ≠ l.getD i "" := fun e => nd.1 (by rw [e]; exact getD_mem h')
    have := idx_get nd.2 h'
    simp only [List.getD_cons_succ, idxS, if_neg ne, this]
    rfl
theorem foldS_app {n : Nu} {a b : List Str} : ∀ {q q' : Nat × Option Nat}, foldS n q a = some q' → foldS n q (a ++ b) = foldS n q' b := by
  induction a with
  | nil => intro q q' h; cases h; rfl
  | cons w ws ih =>
    intro q q' h
    unfold foldS at h
    rw [List.cons_append, foldS]
    cases e : stp n q w with
    | none => rw [e] at h; cases h
    | some q1 => rw [e] at h; exact ih h
def vq (q : Nat × Option Nat) : Nat := q.1 + q.2.getD 0
theorem stp_small {n : Nu} (o2 : n.Ok2) {o : Nat} (h : o < n.small.length) (q : Nat × Option Nat) : stp n q (n.small.getD o "") = some (q.1 + q.2.getD 0, some o) := by
  unfold stp
  rw [idx_get (List.nodup_append.mp o2.nd).1 h]
theorem stp_power {n : Nu} (o2 : n.Ok2) {p : Nat} (h : p < n.powers.length) (q : Nat × Option Nat) : stp n q (n.powers.getD p "") = some (q.1 + q.2.getD 1 * n.b ^ (p + 1), none) := by
  obtain ⟨h1, h2, h3⟩ := List.nodup_append.mp o2.nd
  unfold stp
  rw [idxS_none.mpr fun z => h3 _ z _ (getD_mem h) rfl, idx_get h2 h]
theorem stp_link {n : Nu} (o2 : n.Ok2) (q : Nat × Option Nat) : stp n q n.link = some (q.1 + q.2.getD 0, none) := by
  unfold stp
  rw [idxS_none.mpr fun z => o2.lk (List.mem_append_left _ z), idxS_none.mpr fun z => o2.lk (List.mem_append_right _ z)]
  simp
theorem part_run {n : Nu} (o2 : n.Ok2) {q : Nat × Nat} (h1 : q.1 < n.small.length) (h2 : q.2 ≤ n.powers.length) (s : Nat × Option Nat) (hs : n.one = true ∨ s.2 = none) :
    ∃ s', foldS n s (partW n q) = some s' ∧ vq s' = vq s + q.1 * n.b ^ q.2 ∧ (s'.2 = none ∨ q.2 = 0) := by
  obtain ⟨o, p⟩ := q
  simp only at h1 h2 ⊢
  unfold partW
  by_cases hp : p = 0
  · subst hp
    refine ⟨(s.1 + s.2.getD 0, some o), ?_, ?_, .inr rfl⟩
    · simp only [if_true, foldS, stp_small o2 h1]
    · simp [vq]
  · have e : p - 1 + 1 = p := by omega
    rw [if_neg hp]
    by_cases ho : o = 1 ∧ n.one = false
    · obtain ⟨rfl, hb⟩ := ho
      have hn : s.2 = none := by
        rcases hs with hs | hs
        · rw [hb] at hs; cases hs
        · exact hs
      refine ⟨(s.1 + s.2.getD 1 * n.b ^ p, none), ?_, ?_, .inl rfl⟩
      · rw [if_pos ⟨rfl, hb⟩]
        simp only [foldS, stp_power o2 (p := p - 1) (by omega), e]
      · simp [vq, hn]
    · refine ⟨(s.1 + s.2.getD 0 + o * n.b ^ p, none), ?_, ?_, .inl rfl⟩
      · rw [if_neg ho]
        simp only [foldS, stp_small o2 h1, stp_power o2 (p := p - 1) (by omega), e]
        simp
      · simp [vq]
theorem sep_run {n : Nu} (o2 : n.Ok2) (s : Nat × Option Nat) : ∃ s', foldS n s (sepW n) = some s' ∧ vq s' = vq s ∧ (s.2 = none → s'.2 = none) := by
  unfold sepW
  split
  · exact ⟨s, rfl, rfl, id⟩
  · refine ⟨(s.1 + s.2.getD 0, none), by simp only [foldS, stp_link o2], by simp [vq], fun _ => rfl⟩
def sumQ (n : Nu) (qs : List (Nat × Nat)) : Nat := (qs.map fun q => q.1 * n.b ^ q.2).sum
theorem rest_run {n : Nu} (o2 : n.Ok2) : ∀ (qs : List (Nat × Nat)) (s : Nat × Option Nat), (∀ q ∈ qs, q.1 < n.small.length ∧ q.2 ≤ n.powers.length) → (n.one = true ∨ s.2 = none ∨ qs = []) → (n.one = true ∨ qs.Pairwise fun a _ => a.2 ≠ 0) →
    ∃ s', foldS n s ((qs.map (partW n)).flatMap fun q => sepW n ++ q) = some s' ∧ vq s' = vq s + sumQ n qs
  | [], s, _, _, _ => ⟨s, rfl, by simp [sumQ]⟩
  | q :: qs, s, hv, h1, h2 => by
    obtain ⟨v1, v2⟩ := hv q List.mem_cons_self
    obtain ⟨s1, a1, a2, a3⟩ := sep_run o2 s
    obtain ⟨s2, b1, b2, b3⟩ := part_run o2 v1 v2 s1 (by
      rcases h1 with h1 | h1 | h1
      · exact .inl h1
      · exact .inr (a3 h1)
      · cases h1)
    obtain ⟨s3, c1, c2⟩ := rest_run o2 qs s2 (fun z hz => hv z (List.mem_cons_of_mem _ hz)) (by
      rcases h2 with h2 | h2
      · exact .inl h2
      · rcases b3 with b3 | b3
        · exact .inr (.inl b3)
        · refine .inr (.inr ?_)
          cases qs with
          | nil => rfl
          | cons r qs => exact absurd b3 (List.rel_of_pairwise_cons h2 List.mem_cons_self)) (h2.imp id fun h => (List.pairwise_cons.mp h).2)
    refine ⟨s3, ?_, ?_⟩
    · rw [List.map_cons, List.flatMap_cons, List.append_assoc, foldS_app a1, foldS_app b1, c1]
    · simp only [sumQ, List.map_cons, List.sum_cons] at c2 ⊢
      omega
theorem glue_run {n : Nu} (o2 : n.Ok2) {qs : List (Nat × Nat)} (hv : ∀ q ∈ qs, q.1 < n.small.length ∧ q.2 ≤ n.powers.length) (h2 : n.one = true ∨ qs.Pairwise fun a _ => a.2 ≠ 0) :
    ∃ s', foldS n (0, none) (glueW n (qs.map (partW n))) = some s' ∧ vq s' = sumQ n qs := by
  cases qs with
  | nil => exact ⟨_, rfl, rfl⟩
  | cons q qs =>
    obtain ⟨v1, v2⟩ := hv q List.mem_cons_self
    obtain ⟨s2, b1, b2, b3⟩ := part_run o2 v1 v2 (0, none) (.inr rfl)
    obtain ⟨s3, c1, c2⟩ := rest_run o2 qs s2 (fun z hz => hv z (List.mem_cons_of_mem _ hz)) (by
      rcases h2 with h2 | h2
      · exact .inl h2
      · rcases b3 with b3 | b3
        · exact .inr (.inl b3)
        · refine .inr (.inr ?_)
          cases qs with
          | nil => rfl
          | cons r qs => exact absurd b3 (List.rel_of_pairwise_cons h2 List.mem_cons_self)) (h2.imp id fun h => (List.pairwise_cons.mp h).2)
    refine ⟨s3, ?_, ?_⟩
    · rw [List.map_cons, glueW, foldS_app b1, c1]
    · simp only [sumQ, List.map_cons, List.sum_cons, vq, Option.getD_none] at b2 c2 ⊢
      omega
theorem digs_ge {b : Nat} (hb : 2 ≤ b) (p m : Nat) : ∀ q ∈ digs b p m, p ≤ q.2 := fun q hq => ((digs_in hb m p m (Nat.lt_pow_self (by omega))).1 q hq).2.2.1
theorem digs_pw {b : Nat} (hb : 2 ≤ b) : ∀ (m p : Nat), (digs b p m).Pairwise fun a c => c.2 < a.2 := by
  intro m
  induction m using Nat.strongRecOn with
  | ind m ih =>
    intro p
    by_cases hm : 0 < m
    · rw [digs_pos hb hm, List.pairwise_append]
      refine ⟨ih _ (Nat.div_lt_self hm hb) (p + 1), ?_, fun a ha c hc => ?_⟩
      · split <;> simp
      · have := digs_ge hb _ _ a ha
        split at hc
        · simp only [List.mem_singleton] at hc
          rw [hc]
          exact this
        · cases hc
    · have : m = 0 := by omega
      subst this
      rw [digs_zero]
      exact .nil
theorem digs_sum {b : Nat} (hb : 2 ≤ b) : ∀ (m p : Nat), ((digs b p m).map fun q => q.1 * b ^ q.2).sum = m * b ^ p := by
  intro m
  induction m using Nat.strongRecOn with
  | ind m ih =>
    intro p
    by_cases hm : 0 < m
    · rw [digs_pos hb hm, List.map_append, List.sum_append, ih _ (Nat.div_lt_self hm hb) (p + 1)]
      have e : (List.map (fun q : Nat × Nat => q.1 * b ^ q.2) (if 0 < m % b then [(m % b, p)] else [])).sum = m % b * b ^ p := by
        split
        · simp
        · have : m % b = 0 := by omega
          simp [this]
      rw [e, Nat.pow_succ, Nat.mul_comm (b ^ p) b, ← Nat.mul_assoc, ← Nat.add_mul, Nat.mul_comm (m / b) b, Nat.div_add_mod]
    · have : m = 0 := by omega
      subst this
      rw [digs_zero]
      simp
theorem words_run {n : Nu} (ok : n.Ok) (o2 : n.Ok2) {m : Nat} (hm : m < n.end) : ∃ s', foldS n (0, none) (wordsP n m) = some s' ∧ vq s' = m := by
  obtain ⟨d1, d2⟩ := digs_ok ok hm
  have b2 := ok.b2
  have hsum : sumQ n (digs n.b 0 m) = m := by
    have := digs_sum b2 m 0
    simpa [sumQ] using this
  unfold wordsP
  split
  · rename_i h0
    subst h0
    refine ⟨(0, some 0), ?_, rfl⟩
    simp only [foldS, stp_small o2 (o := 0) (by rw [ok.sm]; omega)]
    rfl
  · unfold ordW
    split
    · rename_i ho
      rw [← List.map_reverse]
      obtain ⟨s', e1, e2⟩ := glue_run o2 (qs := (digs n.b 0 m).reverse) (fun q hq => (d1 q (List.mem_reverse.mp hq)).2) (.inl (ok.lo ho))
      refine ⟨s', e1, ?_⟩
      rw [e2]
      refine Eq.trans ?_ hsum
      unfold sumQ
      rw [List.map_reverse, List.sum_reverse]
    · obtain ⟨s', e1, e2⟩ := glue_run o2 (qs := digs n.b 0 m) (fun q hq => (d1 q hq).2) (.inr ((digs_pw b2 m 0).imp fun h => by omega))
      exact ⟨s', e1, e2.trans hsum⟩
theorem words_ne {n : Nu} (ok : n.Ok) {m : Nat} : wordsP n m ≠ [] := by
  unfold wordsP
  split
  · simp
  · have h1 := ord_ne (n := n) (l := (digs n.b 0 m).map (partW n)) (by simpa using digs_ne (p := 0) ok.b2 (by omega : 0 < m))
    cases e : ordW n ((digs n.b 0 m).map (partW n)) with
    | nil => exact absurd e h1
    | cons p rest =>
      have hp : p ∈ (digs n.b 0 m).map (partW n) := ord_mem.mp (by rw [e]; exact List.mem_cons_self)
      obtain ⟨q, _, rfl⟩ := List.mem_map.mp hp
      have := (partW_len n q).1
      intro z
      unfold glueW at z
      rw [(List.append_eq_nil_iff.mp z).1] at this
      simp at this
theorem split_txt {n : Nu} (ok : n.Ok) (o2 : n.Ok2) {m : Nat} (hm : m < n.end) : Txt.split (txt n m) " " = wordsP n m :=
  split_join (S := []) tl_sp (by decide +kernel) (words_ne ok) fun w hw => o2.sp w ((words_voc ok hm).1 w hw)
/-- the read-back -/
theorem numV_txt {n : Nu} (ok : n.Ok) (o2 : n.Ok2) {m : Nat} (hm : m < n.end) : numV n (txt n m) = some m := by
  obtain ⟨s', e1, e2⟩ := words_run ok o2 hm
  unfold numV
  rw [split_txt ok o2 hm, e1]
  simp only
  unfold vq at e2
  rw [e2, if_pos ⟨hm, rfl⟩]
theorem numV_some {n : Nu} {s : Str} {v : Nat} (h : numV n s = some v) : v < n.end ∧ txt n v = s := by
  unfold numV at h
  split at h
  · split at h
    · cases h; assumption
    · cases h
  · cases h
end K08
end

section
set_option Elab.async false
set_option linter.all false
set_option maxRecDepth 100000
set_option maxHeartbeats 4000000
namespace K08
open PySem PySem.Spec PyProof.Rows L2 DL TL
/-- the law's own words -/
def rowL (n : Nu) : List D := [.int n.b, .lst false (n.small.map .str), .lst false (n.powers.map .str), .str n.order, .str n.link, .bl n.one]
def lw (n : Nu) (m : Int) (a b c d e : Option D) : Rho := [some (.int n.b), some (.lst false (n.small.map .str)), some (.lst false (n.powers.map .str)), some (.str n.order), some (.str n.link), some (.bl n.one), some (.int m), a, b, c, d, e]
theorem lw_1 {n : Nu} (ok : n.Ok) {m p : Nat} (hp : 0 < m % n.b → p ≤ n.powers.length) (acc : List D) (ha : acc.all isFz = true) (hl : acc.length ≤ 1000) (c d e : Option D) :
    b_law_words_1 (lw n m (some (.lst true acc)) (some (.int p)) c d e) = .ok .nx (lw n ((m / n.b : Nat) : Int) (some (.lst true ((if 0 < m % n.b then [lstF (partW n (m % n.b, p))] else []) ++ acc))) (some (.int ((p + 1 : Nat) : Int))) (some (.int ((m % n.b : Nat) : Int))) d e) := by
  have b2 := ok.b2
  have b10 := ok.b10
  have hbi : 0 < n.b := by omega
  have hbj : (n.b : Int) < 1073741824 := by omega
  have hl2 : 1 + acc.length ≤ 16777216 := by omega
  have cm : ((m : Int) % n.b) = ((m % n.b : Nat) : Int) := by simp
  have hd : m % n.b < n.small.length := by rw [ok.sm]; exact Nat.mod_lt _ hbi
  have a1 := atI_strs hd
  generalize hr : m % n.b = r at *
  by_cases h0 : r = 0
  · subst h0
    simp [b_law_words_1, lw, seq_ap, hbi, hbj, cm, ha]
  · have hr0 : 0 < r := by omega
    rw [if_pos hr0]
    by_cases hp0 : p = 0
    · subst hp0
      simp [b_law_words_1, lw, seq_ap, hbi, hbj, cm, ha, hr0, a1, hl2, partW, lstF]
    · have a2 := atI_pred (l := n.powers) (p := p) (by omega) (by have := hp hr0; omega)
      by_cases h1 : r = 1
      · subst h1
        have a1' := a1
        simp at a1'
        cases ho : n.one with
        | true => simp [b_law_words_1, lw, seq_ap, hbi, hbj, cm, ha, hp0, a1', a2, hl2, partW, lstF, ho]
        | false => simp [b_law_words_1, lw, seq_ap, hbi, hbj, cm, ha, hp0, a1', a2, hl2, partW, lstF, ho]
      · have h1' : 1 < r := by omega
        have h1i : (1 : Int) < r := by omega
        simp [b_law_words_1, lw, seq_ap, hbi, hbj, cm, ha, hr0, hp0, a1, a2, hl2, partW, lstF, h1, h1', h1i]
theorem eqvAll_strs : ∀ (l l' : List Str), PyData.eqvAll (l.map .str) (l'.map .str) = decide (l = l')
  | [], [] => rfl
  | [], _ :: _ => rfl
  | _ :: _, [] => rfl
  | x :: l, y :: l' => by
    simp only [List.map_cons, PyData.eqvAll, PyData.eqv, eqvAll_strs l l', beq_str]
    by_cases h : x = y <;> by_cases h' : l = l' <;> simp [h, h']
theorem toP_lstS (o : Bool) (l : List Str) : toP (.lst o (l.map .str)) = some (.list (l.map .str)) := by simp only [toP, toPs_strs]; rfl
theorem lv_strs {l : List Str} (h : ∀ w ∈ l, okS w = true) (n : Nat) : lvP (n + 1) (.list (l.map .str)) = true := by
  unfold lvP
  simp only [List.all_map, List.all_eq_true, Bool.or_eq_true]
  refine .inr fun w hw => ?_
  cases n with
  | zero => exact h w hw
  | succ n => simp [lvP, flatP, h w hw]
theorem dNe_strs {o o' : Bool} {l l' : List Str} (h : ∀ w ∈ l, okS w = true) (h' : ∀ w ∈ l', okS w = true) : dNe (.lst o (l.map .str)) (.lst o' (l'.map .str)) = some (.bl (!decide (l = l'))) := by
  rw [dNe_data (toP_lstS o l) (toP_lstS o' l') (lv_shaped (lv_strs h 0) (by omega)) (lv_shaped (lv_strs h' 0) (by omega))]
  simp only [PyData.eqv, eqvAll_strs]
theorem dNe_strs0 {o o' : Bool} {l : List Str} (h : ∀ w ∈ l, okS w = true) : dNe (.lst o (l.map .str)) (.lst o' []) = some (.bl (!decide (l = []))) := dNe_strs (l' := []) h (fun w hw => by cases hw)
theorem toPs_lstF : ∀ l : List (List Str), toPs (l.map lstF) = some (l.map fun q => .list (q.map .str))
  | [] => rfl
  | s :: l => by simp only [List.map_cons, toPs, lstF, toP_lstS, toPs_lstF l]
theorem dNe_parts0 {o o' : Bool} {l : List (List Str)} (h : ∀ q ∈ l, ∀ w ∈ q, okS w = true) : dNe (.lst o (l.map lstF)) (.lst o' []) = some (.bl (!decide (l = []))) := by
  have h1 : lvP 2 (.list (l.map fun q => .list (q.map .str))) = true := by
    unfold lvP
    simp only [List.all_map, List.all_eq_true, Bool.or_eq_true]
    exact .inr fun q hq => lv_strs (h q hq) 0
  rw [dNe_data (p := .list (l.map fun q => .list (q.map .str))) (q := .list []) (by simp only [toP, toPs_lstF]; rfl) rfl (lv_shaped h1 (by omega)) (lv_shaped (n := 1) rfl (by omega))]
  cases l <;> rfl
theorem lw_loop {n : Nu} (ok : n.Ok) : ∀ (j m p : Nat) (acc : List D) (fu : Nat) (c d e : Option D), m < n.b ^ j → p + j ≤ n.powers.length + 1 → j < fu → acc.all isFz = true → acc.length + (digs n.b p m).length ≤ 21 →
    ∃ y z, whileF (toB (op2 dGt (nameK 6) (toK (M.pure (.int 0))))) b_law_words_1 fu (lw n m (some (.lst true acc)) (some (.int p)) c d e) = .ok .nx (lw n 0 (some (.lst true ((digs n.b p m).map (fun q => lstF (partW n q)) ++ acc))) y z d e) := by
  have b2 := ok.b2
  intro j
  induction j with
  | zero =>
    intro m p acc fu c d e hm hp hf ha hl
    have : m = 0 := by simpa using hm
    subst this
    obtain ⟨fu, rfl⟩ : ∃ k, fu = k + 1 := ⟨fu - 1, by omega⟩
    refine ⟨some (.int p), c, ?_⟩
    rw [whileF_f (ρ1 := lw n 0 (some (.lst true acc)) (some (.int p)) c d e) (by simp [lw])]
    simp [digs_zero]
  | succ j ih =>
    intro m p acc fu c d e hm hp hf ha hl
    obtain ⟨fu, rfl⟩ : ∃ k, fu = k + 1 := ⟨fu - 1, by omega⟩
    by_cases h0 : 0 < m
    · have h2 : m / n.b < n.b ^ j := by
        rw [Nat.div_lt_iff_lt_mul (by omega)]
        rw [Nat.pow_succ] at hm
        exact hm
      have hct : (toB (op2 dGt (nameK 6) (toK (M.pure (.int 0))))) (lw n m (some (.lst true acc)) (some (.int p)) c d e) = .ok true (lw n m (some (.lst true acc)) (some (.int p)) c d e) := by simp [lw, h0]
      rw [digs_pos b2 h0] at hl ⊢
      rw [List.length_append] at hl
      have e1 := lw_1 ok (m := m) (p := p) (fun _ => by omega) acc ha (by omega) c d e
      obtain ⟨y, z, e2⟩ := ih (m / n.b) (p + 1) ((if 0 < m % n.b then [lstF (partW n (m % n.b, p))] else []) ++ acc) fu (some (.int ((m % n.b : Nat) : Int))) d e h2 (by omega) (by omega)
        (by rw [List.all_append, ha]; split <;> simp) (by rw [List.length_append]; split <;> split at hl <;> simp_all <;> omega)
      refine ⟨y, z, ?_⟩
      rw [whileF_t hct e1, e2]
      split <;> simp
    · have : m = 0 := by omega
      subst this
      refine ⟨some (.int p), c, ?_⟩
      rw [whileF_f (ρ1 := lw n 0 (some (.lst true acc)) (some (.int p)) c d e) (by simp [lw])]
      simp [digs_zero]
theorem lw_2 {n : Nu} (ok : n.Ok) (a b c : Option D) (o q : List Str) (ho : ∀ w ∈ o, okS w = true) (ol : o.length ≤ 1000) (ql : q.length ≤ 1000) :
    b_law_words_2 (lw n 0 a b c (some (.lst true (o.map .str))) (some (lstF q))) = .ok .nx (lw n 0 a b c (some (.lst true ((o ++ (if o = [] then [] else sepW n) ++ q).map .str))) (some (lstF q))) := by
  have e := ok.neLink
  have e2 := dNe_strs0 (o := true) (o' := false) ho
  have h1 : o.length + q.length ≤ 16777216 := by omega
  have h2 : o.length + 1 ≤ 16777216 := by omega
  have h3 : o.length + 1 + q.length ≤ 16777216 := by omega
  have h4 : o.length ≤ 16777216 := by omega
  by_cases hk : n.link = ""
  · have e' := e
    simp only [hk] at e'
    simp [b_law_words_2, lw, e, e', hk, lstF, sepW, h1, h4]
  · by_cases h0 : o = []
    · subst h0
      simp only [List.map_nil, decide_true, Bool.not_true] at e2
      simp [b_law_words_2, lw, e, e2, hk, lstF, sepW, (by omega : q.length ≤ 16777216)]
    · simp [b_law_words_2, lw, e, e2, hk, h0, lstF, sepW, h1, h2, h3]

theorem glue_snoc {n : Nu} {q : List Str} {l : List (List Str)} : glueW n (l ++ [q]) = glueW n l ++ (if l = [] then [] else sepW n) ++ q := by
  cases l with
  | nil => simp [glueW]
  | cons p l => simp [glueW]
theorem glue_nil {n : Nu} {l : List (List Str)} (h : ∀ q ∈ l, q ≠ []) : glueW n l = [] ↔ l = [] := by
  cases l with
  | nil => simp [glueW]
  | cons p l =>
    have := h p List.mem_cons_self
    simp [glueW, this]
theorem lw_rev {n : Nu} (ok : n.Ok) (ps : List (List Str)) (b c d e : Option D) : ∃ o, (setS 7 (ifV (toB (op2 dEq (nameK 3) (toK (M.pure (.str "low"))))) (op1 dRev (nameK 7)) (nameE 7))) (lw n 0 (some (.lst true (ps.map lstF))) b c d e) = .ok .nx (lw n 0 (some (.lst o ((ordW n ps).map lstF))) b c d e) := by
  have el := ok.eqLow
  unfold ordW
  by_cases ho : n.order = "low"
  · rw [if_pos ho]
    simp only [ho, decide_true] at el
    refine ⟨true, ?_⟩
    simp [lw, el, ho]
  · rw [if_neg ho]
    simp only [ho, decide_false] at el
    refine ⟨false, ?_⟩
    simp [lw, el, ho]
theorem lw_out {n : Nu} (ok : n.Ok) (a b c e : Option D) (ps : List (List Str)) (h1 : ∀ q ∈ ps, q ≠ [] ∧ q.length ≤ 2 ∧ ∀ w ∈ q, w ∈ voc n) (hl : ps.length ≤ 21) :
    ∃ e', forF (gN 11) b_law_words_2 (ps.map lstF) (lw n 0 a b c (some (.lst true [])) e) = .ok .nx (lw n 0 a b c (some (.lst true ((glueW n ps).map .str))) e') := by
  obtain ⟨ρ', f1, e', rfl⟩ := for_map (g := gN 11) (b := b_law_words_2) lstF ps (fun pre ρ => ∃ e', ρ = lw n 0 a b c (some (.lst true ((glueW n pre).map .str))) e') (lw n 0 a b c (some (.lst true [])) e) ⟨e, rfl⟩ fun pre q post ρ hp ⟨e', er⟩ => by
    subst er
    have hpre : ∀ r ∈ pre, r ∈ ps := fun r hr => by rw [hp]; exact List.mem_append_left _ hr
    have hq := h1 q (by rw [hp]; simp)
    have hlen : (glueW n pre).length ≤ 1000 := by
      have := glue_len (n := n) (l := pre) fun r hr => (h1 r (hpre r hr)).2.1
      have h3 : pre.length ≤ 21 := by
        rw [hp, List.length_append] at hl
        omega
      omega
    have hok : ∀ w ∈ glueW n pre, okS w = true := fun w hw => by
      rcases glue_mem hw with h | ⟨r, hr, h⟩
      · exact (ok.wd w (sep_voc w h).1).1
      · exact (ok.wd w ((h1 r (hpre r hr)).2.2 w h)).1
    refine ⟨_, _, rfl, .inl (lw_2 ok a b c _ q hok hlen (by omega)), some (lstF q), ?_⟩
    rw [glue_snoc]
    have hn := glue_nil (n := n) (l := pre) fun r hr => (h1 r (hpre r hr)).1
    by_cases h0 : pre = []
    · rw [if_pos h0, if_pos (hn.mpr h0)]
    · rw [if_neg h0, if_neg fun z => h0 (hn.mp z)]
  exact ⟨e', f1⟩
theorem law_words_ev {n : Nu} (ok : n.Ok) {m : Nat} (hm : m < n.end) : ∃ o, F_law_words (rowL n ++ [.int m]) = .ok (.lst o ((wordsP n m).map .str)) (rowL n ++ [.int m]) := by
  have b2 := ok.b2
  obtain ⟨d1, d2⟩ := digs_ok ok hm
  have h0 : (parS [7, 8] (vcons (dispM (.lst true) argK0) (vcons (M.pure (.int 0)) (M.pure [])))) (lw n m none none none none none) = .ok .nx (lw n m (some (.lst true [])) (some (.int (0 : Nat))) none none none) := by simp [lw]
  obtain ⟨y, z, h1⟩ := lw_loop ok (n.powers.length + 1) m 0 [] fuel none none none hm (by omega) (by unfold fuel; have := ok.pw3; omega) rfl (by simpa using d2)
  have em : (digs n.b 0 m).map (fun q => lstF (partW n q)) ++ [] = ((digs n.b 0 m).map (partW n)).map lstF := by simp
  rw [em] at h1
  obtain ⟨o, h2⟩ := lw_rev ok ((digs n.b 0 m).map (partW n)) y z none none
  have hps : ∀ q ∈ ordW n ((digs n.b 0 m).map (partW n)), q ≠ [] ∧ q.length ≤ 2 ∧ ∀ w ∈ q, w ∈ voc n := fun q hq => by
    obtain ⟨r, hr, rfl⟩ := List.mem_map.mp (ord_mem.mp hq)
    have := partW_len n r
    refine ⟨fun e => ?_, this.2, part_voc (d1 r hr).2.1 (d1 r hr).2.2⟩
    rw [e] at this
    simp at this
  have hpl : (ordW n ((digs n.b 0 m).map (partW n))).length ≤ 21 := by rw [ord_len, List.length_map]; exact d2
  generalize hP : ordW n ((digs n.b 0 m).map (partW n)) = ps at *
  obtain ⟨e', h4⟩ := lw_out ok (some (.lst false (ps.map lstF))) y z none ps hps hpl
  have h3 : (setS 10 (dispM (.lst true) argK0)) (lw n 0 (some (.lst o (ps.map lstF))) y z none none) = .ok .nx (lw n 0 (some (.lst o (ps.map lstF))) y z (some (.lst true [])) none) := by simp [lw]
  have h5 : (forS (iterM (nameE 7)) (gN 11) b_law_words_2) (lw n 0 (some (.lst o (ps.map lstF))) y z (some (.lst true [])) none) = .ok .nx (lw n 0 (some (.lst false (ps.map lstF))) y z (some (.lst true ((glueW n ps).map .str))) e') := by
    rw [forS_ap]
    have : iterM (nameE 7) (lw n 0 (some (.lst o (ps.map lstF))) y z (some (.lst true [])) none) = .ok (ps.map lstF) (lw n 0 (some (.lst false (ps.map lstF))) y z (some (.lst true [])) none) := by
      cases o <;> simp [lw]
    rw [this]
    exact h4
  have hd := dNe_parts0 (o := false) (o' := false) (l := ps) fun q hq w hw => (ok.wd w ((hps q hq).2.2 w hw)).1
  by_cases hm0 : m = 0
  · have hp0 : ps = [] := by
      rw [← hP, hm0, digs_zero]
      unfold ordW
      split <;> rfl
    have hw : wordsP n m = [n.small.getD 0 ""] := by unfold wordsP; rw [if_pos hm0]
    have a0 := atI_strs (l := n.small) (o := 0) (by rw [ok.sm]; omega)
    simp at a0
    simp only [hp0, List.map_nil, decide_true, Bool.not_true] at hd
    have e : s_law_words (lw n m none none none none none) = .ok (.rt (.lst true ((wordsP n m).map .str))) (lw n 0 (some (.lst false (ps.map lstF))) y z (some (.lst true ((glueW n ps).map .str))) e') := by
      unfold s_law_words
      rw [seq_nx h0, seq_nx ((whileS_ap _ _ _).trans h1), seq_nx h2, seq_nx h3, seq_nx h5, hw, hp0]
      simp [lw, hd, a0]
    have e2 : s_law_words ((rowL n ++ [D.int m]).map some ++ List.replicate 5 none) = _ := e
    refine ⟨true, ?_⟩
    unfold F_law_words runF
    simp only [show 12 - (rowL n ++ [D.int m]).length = 5 from rfl, e2]
    simp [rowL, outs, lw]
  · have hp0 : ps ≠ [] := by
      rw [← hP]
      exact ord_ne (by simpa using digs_ne (p := 0) b2 (by omega : 0 < m))
    have hw : wordsP n m = glueW n ps := by unfold wordsP; rw [if_neg hm0, hP]
    simp only [hp0, decide_false, Bool.not_false] at hd
    have e : s_law_words (lw n m none none none none none) = .ok (.rt (.lst false ((wordsP n m).map .str))) (lw n 0 (some (.lst false (ps.map lstF))) y z (some (.lst false ((glueW n ps).map .str))) e') := by
      unfold s_law_words
      rw [seq_nx h0, seq_nx ((whileS_ap _ _ _).trans h1), seq_nx h2, seq_nx h3, seq_nx h5, hw]
      simp [lw, hd]
    have e2 : s_law_words ((rowL n ++ [D.int m]).map some ++ List.replicate 5 none) = _ := e
    refine ⟨false, ?_⟩
    unfold F_law_words runF
    simp only [show 12 - (rowL n ++ [D.int m]).length = 5 from rfl, e2]
    simp [rowL, outs, lw]
end K08
end

section
set_option Elab.async false
set_option linter.all false
set_option maxRecDepth 100000
set_option maxHeartbeats 4000000
namespace K08
open PySem PySem.Spec PyProof.Rows L2 DL TL
/-! ### counted -/
theorem gxF_nil (own : List Nat) (g : D → M Unit) (t : M Bool) (el : M D) (cs : List D → D → Cs) (acc : List D) (ρ : Rho) : gxF own g t el cs [] acc ρ = .ok (.inl acc) ρ := rfl
theorem gxF_step {own : List Nat} {g : D → M Unit} {t : M Bool} {el : M D} {cs : List D → D → Cs} {d x : D} {ds acc : List D} {ρ ρ1 ρ2 ρ3 : Rho} (h1 : g d ρ = .ok () ρ1) (h2 : t ρ1 = .ok true ρ2) (h3 : el ρ2 = .ok x ρ3) (h4 : cs acc (fz x) = .go) (h5 : acc.length < 2 ^ 24) : gxF own g t el cs (d :: ds) acc ρ = gxF own g t el cs ds (acc ++ [fz x]) (wipeR ρ3 own) := by
  show M.bind (g d) _ ρ = _
  rw [bind_ap, h1]
  simp only [bind_ap, h2, if_true, h3, h4, h5]
theorem gxF_exc {own : List Nat} {g : D → M Unit} {t : M Bool} {el : M D} {cs : List D → D → Cs} {d : D} {ds acc : List D} {ρ ρ1 ρ2 ρ3 : Rho} {c : Nat} (h1 : g d ρ = .ok () ρ1) (h2 : t ρ1 = .ok true ρ2) (h3 : el ρ2 = .exc c ρ3) : gxF own g t el cs (d :: ds) acc ρ = .exc c ρ3 := by
  show M.bind (g d) _ ρ = _
  rw [bind_ap, h1]
  simp only [bind_ap, h2, if_true, h3]
theorem rng_2 : gRng1 [.int 2] = some [.int 0, .int 1] := rfl
def c_el : M D := methM 0 "text" [false, false] F_Numerals_text [] (toK (nameE 0)) (argK (toK (op2 dAdd (nameK 1) (nameK 3))) argK0)
theorem c_el_ok {n : Nu} (ok : n.Ok) {f i : Nat} (h : f + i < n.end) (c : Option D) : c_el [some n.d, some (.int f), c, some (.int i)] = .ok (.str (txt n (f + i))) [some n.d, some (.int f), c, some (.int i)] := by
  have ht := text_ev ok h
  rw [Int.natCast_add] at ht
  simp [c_el, ht]
theorem c_el_exc {n : Nu} (ok : n.Ok) {f i : Nat} (h : ¬ f + i < n.end) (c : Option D) : c_el [some n.d, some (.int f), c, some (.int i)] = .exc 1 [some n.d, some (.int f), c, some (.int i)] := by
  have ht := text_exc ok (i := (f : Int) + i) (by omega)
  simp [c_el, ht]
theorem counted_ev {n : Nu} (ok : n.Ok) {f : Nat} (h : f + 1 < n.end) : F_counted [n.d, .int f, .int 2] = .ok (.tup [.str (txt n f), .str (txt n (f + 1))]) [n.d, .int f, .int 2] := by
  have e0 := c_el_ok ok (f := f) (i := 0) (by omega) (some (.int 2))
  have e1 := c_el_ok ok (f := f) (i := 1) h (some (.int 2))
  have hit : itN gRng1 (argK (nameK 2) argK0) [some n.d, some (.int f), some (.int 2), none] = .ok [.int (0 : Nat), .int (1 : Nat)] [some n.d, some (.int f), some (.int 2), none] := by
    simp [rng_2]
  have hg : gxF [3] (gN 3) (M.pure true) c_el csTup [.int (0 : Nat), .int (1 : Nat)] [] [some n.d, some (.int f), some (.int 2), none] = .ok (.inl [.str (txt n f), .str (txt n (f + 1))]) [some n.d, some (.int f), some (.int 2), none] := by
    rw [gxF_step (t := M.pure true) (ρ1 := [some n.d, some (.int f), some (.int 2), some (.int (0 : Nat))]) rfl rfl e0 rfl (by simp), gxF_step (t := M.pure true) (ρ1 := [some n.d, some (.int f), some (.int 2), some (.int (1 : Nat))]) rfl rfl e1 rfl (by simp)]
    simp [gxF_nil, wipeR]
  have e : s_counted [some n.d, some (.int f), some (.int 2), none] = .ok (.rt (.tup [.str (txt n f), .str (txt n (f + 1))])) [some n.d, some (.int f), some (.int 2), none] := by
    unfold s_counted gxE
    rw [retS_eq, bind_ap, bind_ap, hit]
    have hw : wipeR [some n.d, some (.int f), some (.int 2), none] [3] = [some n.d, some (.int f), some (.int 2), none] := rfl
    simp only
    rw [hw]
    unfold c_el at hg
    rw [hg]
    rfl
  simp [F_counted, runF, outs, e]
theorem counted_exc {n : Nu} (ok : n.Ok) {f : Nat} (h0 : f < n.end) (h : ¬ f + 1 < n.end) : F_counted [n.d, .int f, .int 2] = .exc 1 [n.d, .int f, .int 2] := by
  have e0 := c_el_ok ok (f := f) (i := 0) (by omega) (some (.int 2))
  have e1 := c_el_exc ok (f := f) (i := 1) h (some (.int 2))
  have hit : itN gRng1 (argK (nameK 2) argK0) [some n.d, some (.int f), some (.int 2), none] = .ok [.int (0 : Nat), .int (1 : Nat)] [some n.d, some (.int f), some (.int 2), none] := by
    simp [rng_2]
  have hg : gxF [3] (gN 3) (M.pure true) c_el csTup [.int (0 : Nat), .int (1 : Nat)] [] [some n.d, some (.int f), some (.int 2), none] = .exc 1 [some n.d, some (.int f), some (.int 2), some (.int (1 : Nat))] := by
    rw [gxF_step (t := M.pure true) (ρ1 := [some n.d, some (.int f), some (.int 2), some (.int (0 : Nat))]) rfl rfl e0 rfl (by simp), gxF_exc (t := M.pure true) (ρ1 := [some n.d, some (.int f), some (.int 2), some (.int (1 : Nat))]) rfl rfl e1]
  have e : s_counted [some n.d, some (.int f), some (.int 2), none] = .exc 1 [some n.d, some (.int f), some (.int 2), none] := by
    unfold s_counted gxE
    rw [retS_eq, bind_ap, bind_ap, hit]
    have hw : wipeR [some n.d, some (.int f), some (.int 2), none] [3] = [some n.d, some (.int f), some (.int 2), none] := rfl
    simp only
    rw [hw]
    unfold c_el at hg
    rw [hg]
    rfl
  simp [F_counted, runF, outs, e]
/-! ### shortest -/
@[simp] theorem isNon_tup (l : List D) : DL.isNon (.tup l) = false := rfl
@[simp] theorem isNon_lst (o : Bool) (l : List D) : DL.isNon (.lst o l) = false := rfl
def pD (p : Nat × Nat) : D := .tup [.int p.1, .int p.2]
def bestD : Option (Nat × Nat) → D
  | none => .non
  | some p => pD p
def bestP (b : Option (Nat × Nat)) (y : Nat × Nat) : Option (Nat × Nat) := match b with
  | none => some y
  | some a => if y.1 < a.1 then some y else some a
def cand (k : Nat) : Nat → List Nu → List (Nat × Nat)
  | _, [] => []
  | i, n :: ns => (if k < n.end then [((wordsP n k).length, i)] else []) ++ cand k (i + 1) ns
def enumL : Nat → List Nu → List D
  | _, [] => []
  | i, n :: ns => .tup [.int i, n.d] :: enumL (i + 1) ns
theorem enum_is : ∀ (ns : List Nu) (i : Nat), List.zipWith (fun a b => D.tup [a, b]) ((List.range' i ns.length).map fun j => .int (j : Nat)) (ns.map Nu.d) = enumL i ns
  | [], i => rfl
  | n :: ns, i => by
    simp only [List.length_cons, List.range'_succ, List.map_cons, List.zipWith_cons_cons, enum_is ns (i + 1), enumL]
theorem gEnum_nus (o : Bool) (ns : List Nu) : gEnum [.lst o (ns.map Nu.d)] = some (enumL 0 ns) := by
  simp only [gEnum, List.length_map, List.range_eq_range', enum_is]
theorem sh_1 {n : Nu} (ok : n.Ok) (l : Option D) (k i : Nat) (b : Option (Nat × Nat)) (z : Option D) : ∃ z', b_shortest_1 [l, some (.int k), some (bestD b), some (.int i), some n.d, z] = .ok .nx [l, some (.int k), some (bestD ((if k < n.end then [((wordsP n k).length, i)] else []).foldl bestP b)), some (.int i), some n.d, z'] := by
  have he := end_ev ok
  by_cases h : k < n.end
  · have hw := words_ev ok h
    have hki : (k : Int) < n.end := by omega
    refine ⟨some (.int (wordsP n k).length), ?_⟩
    cases b with
    | none => simp [b_shortest_1, seq_ap, he, h, hw, tupS, bestD, bestP, pD]
    | some p =>
      by_cases hp : (wordsP n k).length < p.1
      · simp [b_shortest_1, seq_ap, he, h, hw, tupS, bestD, bestP, pD, hp, atI, ixN]
      · simp [b_shortest_1, seq_ap, he, h, hw, tupS, bestD, bestP, pD, hp, atI, ixN]
  · refine ⟨z, ?_⟩
    simp [b_shortest_1, seq_ap, he, h]
theorem sh_loop (l : Option D) (k : Nat) : ∀ (ns : List Nu) (i : Nat) (b : Option (Nat × Nat)) (x y z : Option D), (∀ n ∈ ns, n.Ok) → ∃ x' y' z', forF (gT (gsC (gN 3) (gsC (gN 4) gs0))) b_shortest_1 (enumL i ns) [l, some (.int k), some (bestD b), x, y, z] = .ok .nx [l, some (.int k), some (bestD ((cand k i ns).foldl bestP b)), x', y', z']
  | [], i, b, x, y, z, _ => ⟨x, y, z, rfl⟩
  | n :: ns, i, b, x, y, z, h => by
    obtain ⟨z1, e1⟩ := sh_1 (h n List.mem_cons_self) l k i b z
    obtain ⟨x', y', z', e2⟩ := sh_loop l k ns (i + 1) ((if k < n.end then [((wordsP n k).length, i)] else []).foldl bestP b) (some (.int i)) (some n.d) z1 fun m hm => h m (List.mem_cons_of_mem _ hm)
    refine ⟨x', y', z', ?_⟩
    unfold enumL cand
    rw [forF_nx (ρ1 := [l, some (.int k), some (bestD b), some (.int i), some n.d, z]) (by simp) e1, List.foldl_append]
    exact e2
theorem shortest_ev {ns : List Nu} (ok : ∀ n ∈ ns, n.Ok) (k : Nat) : F_shortest [.lst false (ns.map Nu.d), .int k] = (match (cand k 0 ns).foldl bestP none with
    | some p => .ok (.int p.2) [.lst false (ns.map Nu.d), .int k]
    | none => .exc 1 [.lst false (ns.map Nu.d), .int k]) := by
  have hz : (ns.map Nu.d).all isFz = true := by simp
  have hm : (ns.map Nu.d).map fz = ns.map Nu.d := by simp
  obtain ⟨x, y, z, e1⟩ := sh_loop (some (.lst false (ns.map Nu.d))) k ns 0 none none none none ok
  have h1 : (forS (itF gEnum (argK (toK (nameE 0)) argK0)) (gT (gsC (gN 3) (gsC (gN 4) gs0))) b_shortest_1) [some (.lst false (ns.map Nu.d)), some (.int k), some .non, none, none, none] = .ok .nx [some (.lst false (ns.map Nu.d)), some (.int k), some (bestD ((cand k 0 ns).foldl bestP none)), x, y, z] := by
    rw [forS_ap]
    have : itF gEnum (argK (toK (nameE 0)) argK0) [some (.lst false (ns.map Nu.d)), some (.int k), some .non, none, none, none] = .ok (enumL 0 ns) [some (.lst false (ns.map Nu.d)), some (.int k), some .non, none, none, none] := by
      have hg := gEnum_nus false ns
      simp [hz, hm, hg]
    rw [this]
    exact e1
  cases hb : (cand k 0 ns).foldl bestP none with
  | none =>
    rw [hb] at h1
    have e : s_shortest [some (.lst false (ns.map Nu.d)), some (.int k), none, none, none, none] = .exc 1 [some (.lst false (ns.map Nu.d)), some (.int k), some .non, x, y, z] := by
      unfold s_shortest
      rw [seq_nx (ρ1 := [some (.lst false (ns.map Nu.d)), some (.int k), some .non, none, none, none]) (by simp), seq_nx h1]
      simp [seq_ap, bestD]
    simp [F_shortest, runF, outs, e]
  | some p =>
    rw [hb] at h1
    have e : s_shortest [some (.lst false (ns.map Nu.d)), some (.int k), none, none, none, none] = .ok (.rt (.int p.2)) [some (.lst false (ns.map Nu.d)), some (.int k), some (pD p), x, y, z] := by
      unfold s_shortest
      rw [seq_nx (ρ1 := [some (.lst false (ns.map Nu.d)), some (.int k), some .non, none, none, none]) (by simp), seq_nx h1]
      simp [seq_ap, bestD, pD, atI, ixN]
    simp [F_shortest, runF, outs, e]
end K08
end

section
set_option Elab.async false
set_option linter.all false
set_option maxRecDepth 100000
set_option maxHeartbeats 4000000
namespace K08
open PySem PySem.Spec PyProof.Rows L2 DL TL
def pP (p : Nat × Nat) : PyData := .tuple [.int p.1, .int p.2]
def ltP (y a : Nat × Nat) : Bool := decide (y.1 < a.1 ∨ (y.1 = a.1 ∧ y.2 < a.2))
def best (a y : Nat × Nat) : Nat × Nat := if ltP y a = true then y else a
theorem lt_pP (y a : Nat × Nat) : PySem.W.dataLt (pP y) (pP a) = ltP y a := by
  obtain ⟨a1, a2⟩ := a
  obtain ⟨y1, y2⟩ := y
  unfold PySem.W.dataLt pP
  simp only [PySem.W.keyToks, PySem.W.keyToksAll, List.cons_append, List.nil_append]
  simp only [PyProof.Rows.lex_cons, PyProof.Rows.lexLt, PyProof.Rows.itemOrd, PyProof.Rows.itemLt]
  simp only [ltP]
  by_cases h1 : y1 < a1
  · have : (y1 : Int) < a1 := by omega
    simp [h1]
  · by_cases h2 : y1 = a1
    · subst h2
      by_cases h3 : y2 < a2
      · simp [h3]
      · simp [h3]
    · have h4 : a1 < y1 := by omega
      simp [h1, h2, h4]
theorem pP_inj {p q : Nat × Nat} (h : pP p = pP q) : p = q := by
  obtain ⟨a, b⟩ := p
  obtain ⟨c, d⟩ := q
  simp only [pP, PyData.tuple.injEq, List.cons.injEq, PyData.int.injEq] at h
  ext
  · have := h.1; simp only; omega
  · have := h.2.1; simp only; omega
theorem toP_pD (p : Nat × Nat) : toP (pD p) = some (pP p) := by simp [pD, pP, toP, toPs]
theorem fold_pP : ∀ (l : List (Nat × Nat)) (p : Nat × Nat), (l.map pP).foldl (fun a y => if PySem.W.dataLt y a = true then y else a) (pP p) = pP (l.foldl best p)
  | [], p => rfl
  | y :: l, p => by
    simp only [List.map_cons, List.foldl_cons, lt_pP]
    have : (if ltP y p = true then pP y else pP p) = pP (best p y) := by unfold best; split <;> rfl
    rw [this]
    exact fold_pP l _
theorem alike_pP (p q : Nat × Nat) : PySem.W.alike (pP p) (pP q) = true := by simp [pP, PySem.W.alike, PySem.W.alikeAll]
theorem minB_pP (l : List (Nat × Nat)) : minB (l.map pP) = true := by
  have h : PyData.depthAll (l.map pP) ≤ 1 := depthAll_le fun q hq => by
    obtain ⟨p, _, rfl⟩ := List.mem_map.mp hq
    simp [pP, PyData.depth, PyData.depthAll]
  simp only [minB, Bool.and_eq_true, List.all_eq_true, decide_eq_true_eq]
  refine ⟨⟨fun a ha b hb => ?_, fun a ha => ?_⟩, by omega⟩
  · obtain ⟨p, _, rfl⟩ := List.mem_map.mp ha
    obtain ⟨q, _, rfl⟩ := List.mem_map.mp hb
    exact alike_pP p q
  · obtain ⟨p, _, rfl⟩ := List.mem_map.mp ha
    rfl
theorem dMin1_pD (o : Bool) (p : Nat × Nat) (l : List (Nat × Nat)) : dMin1 [.lst o ((p :: l).map pD)] = some (pD (l.foldl best p)) := by
  have h1 : toPs ((p :: l).map pD) = some (pP p :: l.map pP) := toPs_map toP_pD (p :: l)
  have h2 := PySem.W.argBest_fold (fun y a => PySem.W.dataLt y a) PyData.none (pP p) (l.map pP) (l.map pP).length (Nat.le_refl _)
  simp only [dMin1, h1]
  rw [if_pos (show minB (pP p :: l.map pP) = true from minB_pP (p :: l))]
  unfold minAt
  obtain ⟨h3, h4⟩ := h2
  generalize argBest (fun i j => PySem.W.dataLt ((pP p :: l.map pP).getD i PyData.none) ((pP p :: l.map pP).getD j PyData.none)) (l.map pP).length = j at *
  rw [List.take_length, fold_pP] at h4
  have hj : j < (p :: l).length := by simpa using Nat.lt_succ_of_le h3
  have h5 : (pP p :: l.map pP).getD j PyData.none = pP ((p :: l)[j]) := by
    rw [← List.map_cons, List.getD_eq_getElem?_getD, List.getElem?_map, List.getElem?_eq_getElem hj]
    rfl
  rw [h5] at h4
  rw [List.getElem?_map, List.getElem?_eq_getElem hj, pP_inj h4]
  rfl
theorem best_is : ∀ (l : List (Nat × Nat)) (p : Nat × Nat), (p :: l).Pairwise (fun a b => a.2 < b.2) → l.foldl bestP (some p) = some (l.foldl best p)
  | [], p, _ => rfl
  | y :: l, p, h => by
    obtain ⟨h1, h2⟩ := List.pairwise_cons.mp h
    obtain ⟨h3, h4⟩ := List.pairwise_cons.mp h2
    have hy := h1 y List.mem_cons_self
    have e : bestP (some p) y = some (best p y) := by
      unfold bestP best
      have : ltP y p = decide (y.1 < p.1) := by
        unfold ltP
        congr 1
        simp only [eq_iff_iff]
        omega
      rw [this]
      by_cases hh : y.1 < p.1 <;> simp [hh]
    rw [List.foldl_cons, List.foldl_cons, e]
    refine best_is l _ (List.pairwise_cons.mpr ⟨fun b hb => ?_, h4⟩)
    unfold best
    split
    · exact h3 b hb
    · exact h1 b (List.mem_cons_of_mem _ hb)
theorem cand_ge (k : Nat) : ∀ (ns : List Nu) (i : Nat), ∀ p ∈ cand k i ns, i ≤ p.2
  | [], i, p, h => by cases h
  | n :: ns, i, p, h => by
    unfold cand at h
    rcases List.mem_append.mp h with h | h
    · split at h
      · simp only [List.mem_singleton] at h
        rw [h]
        exact Nat.le_refl _
      · cases h
    · have := cand_ge k ns (i + 1) p h
      omega
theorem cand_pw (k : Nat) : ∀ (ns : List Nu) (i : Nat), (cand k i ns).Pairwise fun a b => a.2 < b.2
  | [], i => .nil
  | n :: ns, i => by
    unfold cand
    refine List.pairwise_append.mpr ⟨by split <;> simp, cand_pw k ns (i + 1), fun a ha b hb => ?_⟩
    have h2 := cand_ge k ns (i + 1) b hb
    split at ha
    · simp only [List.mem_singleton] at ha
      rw [ha]
      exact h2
    · cases ha
/-- the least of the sizes is what shortest finds -/
theorem cand_min (k : Nat) (ns : List Nu) : (cand k 0 ns = [] ∧ (cand k 0 ns).foldl bestP none = none) ∨ ∃ p l, cand k 0 ns = p :: l ∧ (cand k 0 ns).foldl bestP none = some (l.foldl best p) := by
  have h := cand_pw k ns 0
  cases hc : cand k 0 ns with
  | nil => exact .inl ⟨rfl, rfl⟩
  | cons p l =>
    rw [hc] at h
    exact .inr ⟨p, l, rfl, by rw [List.foldl_cons]; exact best_is l p h⟩
end K08
end

section
set_option Elab.async false
set_option linter.all false
set_option maxRecDepth 100000
set_option maxHeartbeats 4000000
namespace K08
open PySem PySem.Spec PyProof.Rows L2 DL TL
def smallL (k : Nat) : List Str := [("na" : Str), "nb", "nc", "nd", "ne", "nf", "ng", "nh", "ni", "nj"].take k
def powL (k : Nat) : List Str := [("pa" : Str), "pb", "pc"].take k
def nuOf (k m : Nat) (lo li on : Bool) : Nu := ⟨k, smallL k, powL m, if lo = true then "low" else "high", if li = true then "and" else "", on⟩
def Nu.own (n : Nu) : D := .ins true 0 ["base", "small", "powers", "order", "link", "one"] [.int n.b, .ptup (n.small.map .str), .ptup (n.powers.map .str), .str n.order, .str n.link, .bl n.one]
theorem fz_own (n : Nu) : fz n.own = n.d := by simp [Nu.own, Nu.d]
/-- the words are fit -/
def chk (n : Nu) : Bool := decide (2 ≤ n.b) && decide (n.b ≤ 10) && decide (n.small.length = n.b) && decide (n.powers.length ≤ 3) && (voc n).all (fun x => okS x && decide (x.length ≤ 50) && !(tl x).contains 32) && okS n.order && (!decide (n.order = "low") || n.one) && decide (n.small ++ n.powers).Nodup && decide (n.link ∉ n.small ++ n.powers)
theorem chk_ok {n : Nu} (h : chk n = true) : n.Ok ∧ n.Ok2 := by
  simp only [chk, Bool.and_eq_true, decide_eq_true_eq, List.all_eq_true, Bool.or_eq_true, Bool.not_eq_true', decide_eq_false_iff_not] at h
  obtain ⟨⟨⟨⟨⟨⟨⟨⟨h1, h2⟩, h3⟩, h4⟩, h5⟩, h6⟩, h7⟩, h8⟩, h9⟩ := h
  refine ⟨⟨h1, by omega, h3, by omega, fun x hx => ⟨(h5 x hx).1.1, (h5 x hx).1.2⟩, h6, fun e => ?_, h2, h4⟩, ⟨h8, h9, fun w hw => ?_⟩⟩
  · rcases h7 with h7 | h7
    · exact absurd e h7
    · exact h7
  · have := (h5 w hw).2
    simpa using this
theorem chk_all : ((List.range 9).all fun k => (List.range 4).all fun m => [true, false].all fun lo => [true, false].all fun li => [true, false].all fun on => chk (nuOf (k + 2) m lo li (on || lo))) = true := by decide +kernel
theorem chk_of {k m : Nat} {lo li on : Bool} (h1 : 2 ≤ k) (h2 : k ≤ 10) (h3 : m ≤ 3) (h4 : lo = true → on = true) : (nuOf k m lo li on).Ok ∧ (nuOf k m lo li on).Ok2 := by
  have h := chk_all
  simp only [List.all_eq_true, List.mem_range] at h
  have h := h (k - 2) (by omega) m (by omega) lo (by cases lo <;> simp) li (by cases li <;> simp) on (by cases on <;> simp)
  rw [show k - 2 + 2 = k by omega, show (on || lo) = on by cases lo <;> cases on <;> simp_all] at h
  exact chk_ok h
def argsI (n : Nu) : List D := [.ins true 0 [] [], .int n.b, .lst false (n.small.map .str), .lst false (n.powers.map .str), .str n.order, .str n.link, .bl n.one]
def combos : List (Nat × Nat × Bool × Bool × Bool) := (List.range 9).flatMap fun k => (List.range 4).flatMap fun m => [true, false].flatMap fun lo => [true, false].flatMap fun li => [true, false].map fun on => (k + 2, m, lo, li, on || lo)
def nuC (c : Nat × Nat × Bool × Bool × Bool) : Nu := nuOf c.1 c.2.1 c.2.2.1 c.2.2.2.1 c.2.2.2.2
theorem init_all : (combos.map fun c => F_Numerals_init (argsI (nuC c))) = combos.map fun c => .ok .non ((nuC c).own :: (argsI (nuC c)).tail) := by kernel_rfl
theorem combos_mem {k m : Nat} {lo li on : Bool} (h1 : 2 ≤ k) (h2 : k ≤ 10) (h3 : m ≤ 3) (h4 : lo = true → on = true) : (k, m, lo, li, on) ∈ combos := by
  unfold combos
  refine List.mem_flatMap.mpr ⟨k - 2, List.mem_range.mpr (by omega), List.mem_flatMap.mpr ⟨m, List.mem_range.mpr (by omega), List.mem_flatMap.mpr ⟨lo, by cases lo <;> simp, List.mem_flatMap.mpr ⟨li, by cases li <;> simp, List.mem_map.mpr ⟨on, by cases on <;> simp, ?_⟩⟩⟩⟩⟩
  rw [show k - 2 + 2 = k by omega, show (on || lo) = on by cases lo <;> cases on <;> simp_all]
theorem init_ev {k m : Nat} {lo li on : Bool} (h1 : 2 ≤ k) (h2 : k ≤ 10) (h3 : m ≤ 3) (h4 : lo = true → on = true) :
    F_Numerals_init (argsI (nuOf k m lo li on)) = .ok .non ((nuOf k m lo li on).own :: (argsI (nuOf k m lo li on)).tail) :=
  List.map_inj_left.mp init_all (k, m, lo, li, on) (combos_mem h1 h2 h3 h4)
end K08
end

section
set_option Elab.async false
set_option linter.all false
set_option maxRecDepth 100000
set_option maxHeartbeats 4000000
namespace K08
open PySem PySem.Spec PyProof.Rows L2 DL TL
theorem roll_n (x : Dice) {m : Nat} (h0 : 0 < m) (h1 : m ≤ 100000000) : ∃ (k : Nat) (x' : Dice), k < m ∧ F_law_roll [x.d, .int m] = .ok (.int k) [x'.d, .int m] := by
  have e := roll_ev x m (by omega) (by omega)
  have a := x.roll_lo (m := m) (by omega)
  have b := x.roll_hi (m := m) (by omega)
  refine ⟨(x.roll m).1.toNat, (x.roll m).2, by omega, ?_⟩
  rw [e, Int.toNat_of_nonneg a]
theorem roll_c {ρ ρ1 : Rho} {x : Dice} {m : Nat} {mm : M Tk} (h : ρ[1]? = some (some x.d)) (hm : mm ρ = .ok (.v (.int m)) ρ1) (h1 : ρ1[1]? = some (some x.d)) (m0 : 0 < m) (m1 : m ≤ 100000000) :
    ∃ (k : Nat) (x' : Dice), k < m ∧ callM [true, false] F_law_roll [] (argK (nameK 1) (argK mm argK0)) ρ = .ok (.int k) (ρ1.set 1 (some x'.d)) := by
  obtain ⟨k, x', hk, e⟩ := roll_n x m0 m1
  refine ⟨k, x', hk, ?_⟩
  simp [h, hm, h1, e]
theorem roll_k {ρ : Rho} {x : Dice} {m : Nat} (h : ρ[1]? = some (some x.d)) (m0 : 0 < m) (m1 : m ≤ 100000000) :
    ∃ (k : Nat) (x' : Dice), k < m ∧ callM [true, false] F_law_roll [] (argK (nameK 1) (argK (toK (M.pure (.int m))) argK0)) ρ = .ok (.int k) (ρ.set 1 (some x'.d)) :=
  roll_c h (by simp) h m0 m1
/-! ### the dice thrown -/
theorem dice_ev (z : Int) : ∃ x : Dice, F_law_dice [.int z] = .ok x.d [.int z] := by
  by_cases h : -10 < z ∧ z < 10
  · obtain ⟨h1, h2⟩ := h
    refine ⟨⟨if z < 0 then -z else z, 0, 2⟩, ?_⟩
    have h3 : (0 : Int) - 10 < z := by omega
    simp [F_law_dice, runF, s_law_dice, seq_ap, h1, h2, Dice.d, outs]
  · refine ⟨⟨z, 1 + z % 1009, if z ≥ 10 ^ 18 then 1 else 0⟩, ?_⟩
    by_cases h1 : -10 < z
    · have h2 : ¬ z < 10 := fun q => h ⟨h1, q⟩
      simp [F_law_dice, runF, s_law_dice, seq_ap, h1, h2, Dice.d, outs]
    · simp [F_law_dice, runF, s_law_dice, seq_ap, h1, Dice.d, outs]

theorem compF_nil (own : List Nat) (g : D → M Unit) (t : M Bool) (el : M D) (acc : List D) (ρ : Rho) : compF own g t el [] acc ρ = .ok acc ρ := rfl
theorem compF_step {own : List Nat} {g : D → M Unit} {t : M Bool} {el : M D} {d x : D} {ds acc : List D} {ρ ρ1 ρ2 ρ3 : Rho} (h1 : g d ρ = .ok () ρ1) (h2 : t ρ1 = .ok true ρ2) (h3 : el ρ2 = .ok x ρ3) (h5 : acc.length < 2 ^ 24) : compF own g t el (d :: ds) acc ρ = compF own g t el ds (acc ++ [x]) (wipeR ρ3 own) := by
  show M.bind (g d) _ ρ = _
  rw [bind_ap, h1]
  simp only [bind_ap, h2, if_true, h3, h5]
theorem compF_skip {own : List Nat} {g : D → M Unit} {t : M Bool} {el : M D} {d : D} {ds acc : List D} {ρ ρ1 ρ2 : Rho} (h1 : g d ρ = .ok () ρ1) (h2 : t ρ1 = .ok false ρ2) : compF own g t el (d :: ds) acc ρ = compF own g t el ds acc (wipeR ρ2 own) := by
  show M.bind (g d) _ ρ = _
  rw [bind_ap, h1]
  simp only [bind_ap, h2, Bool.false_eq_true, if_false]
theorem compE_ok {own : List Nat} {it : M (List D)} {g : D → M Unit} {t : M Bool} {el : M D} {ds xs : List D} {ρ ρ1 ρ2 : Rho} (h1 : it ρ = .ok ds ρ1) (h2 : compF own g t el ds [] (wipeR ρ1 own) = .ok xs ρ2) : compE own it g t el ρ = .ok (.lst true xs) (backR ρ1 ρ2 own) := by
  unfold compE
  rw [bind_ap, h1]
  simp only [h2]
theorem toP_int (z : Int) : toP (.int z) = some (.int z) := rfl
theorem rounds_1 (z : Int) (o : Bool) (s : Option D) (q : Option D) : ∃ x : Dice, (retS (compE [3] (iterM (nameE 2)) (gN 3) (M.pure true) (callM [false] F_law_dice [] (argK (toK (nameE 3)) argK0)))) [s, q, some (.lst o [.int z]), none] = .ok (.rt (.lst true [x.d])) [s, q, some (.lst false [.int z]), none] := by
  obtain ⟨x, e⟩ := dice_ev z
  refine ⟨x, ?_⟩
  have h1 : iterM (nameE 2) [s, q, some (.lst o [.int z]), none] = .ok [.int z] [s, q, some (.lst false [.int z]), none] := by
    cases o <;> simp
  have h2 : compF [3] (gN 3) (M.pure true) (callM [false] F_law_dice [] (argK (toK (nameE 3)) argK0)) [.int z] [] (wipeR [s, q, some (.lst false [.int z]), none] [3]) = .ok [x.d] [s, q, some (.lst false [.int z]), none] := by
    rw [compF_step (t := M.pure true) (ρ1 := [s, q, some (.lst false [.int z]), some (.int z)]) (ρ2 := [s, q, some (.lst false [.int z]), some (.int z)]) (ρ3 := [s, q, some (.lst false [.int z]), some (.int z)]) (x := x.d) (by simp [wipeR]) rfl (by simp [e]) (by simp)]
    simp [compF_nil, wipeR]
  rw [retS_eq, bind_ap, compE_ok h1 h2]
  simp [backR]
theorem cut_to {α : Type} (l : List α) (k : Nat) : DL.cutD l none (some (k : Int)) = l.take k := by
  have h1 : HT.sIx l.length 0 none = 0 := by unfold HT.sIx; rfl
  have h2 : HT.sIx l.length l.length (some (k : Int)) = min k l.length := by
    unfold HT.sIx
    simp
    omega
  unfold DL.cutD
  rw [h1, h2, List.drop_zero, Nat.sub_zero]
  by_cases h : k ≤ l.length
  · rw [Nat.min_eq_left h]
  · rw [Nat.min_eq_right (by omega), List.take_of_length_le (by omega), List.take_of_length_le (by omega)]
theorem rounds_ev (ns : List Int) : ∃ x : Dice, F_law_rounds [.scr ns, .int 1] = .ok (.lst true [x.d]) [.scr ns, .int 1] := by
  have h0 : ∀ o, (setS 2 (sliceM (nameK 0) (M.pure none) (partM (nameK 1)))) [some (.scr ns), some (.int 1), o, none] = .ok .nx [some (.scr ns), some (.int 1), some (.lst true ((ns.take 1).map .int)), none] := fun o => by
    have := cut_to ns 1
    simp at this
    simp [dSlice, this]
  cases ns with
  | nil =>
    obtain ⟨x, e⟩ := rounds_1 0 true (some (.scr [])) (some (.int 1))
    refine ⟨x, ?_⟩
    have hd : dEq (.lst true []) (.lst false []) = some (.bl true) := by rfl
    have ee : s_law_rounds [some (.scr []), some (.int 1), none, none] = .ok (.rt (.lst true [x.d])) [some (.scr []), some (.int 1), some (.lst false [.int 0]), none] := by
      unfold s_law_rounds
      rw [seq_nx (h0 none), seq_nx (ρ1 := [some (.scr []), some (.int 1), some (.lst true [.int 0]), none]) (by simp [hd])]
      exact e
    simp [F_law_rounds, runF, ee, outs]
  | cons z zs =>
    obtain ⟨x, e⟩ := rounds_1 z true (some (.scr (z :: zs))) (some (.int 1))
    refine ⟨x, ?_⟩
    have hd : dEq (.lst true [.int z]) (.lst false []) = some (.bl false) := by
      rw [dEq_data (p := .list [.int z]) (q := .list []) rfl rfl (lv_shaped (n := 1) rfl (by omega)) (lv_shaped (n := 1) rfl (by omega))]
      rfl
    have ee : s_law_rounds [some (.scr (z :: zs)), some (.int 1), none, none] = .ok (.rt (.lst true [x.d])) [some (.scr (z :: zs)), some (.int 1), some (.lst false [.int z]), none] := by
      unfold s_law_rounds
      rw [seq_nx (h0 none), seq_nx (ρ1 := [some (.scr (z :: zs)), some (.int 1), some (.lst true [.int z]), none]) (by simp [hd])]
      exact e
    simp [F_law_rounds, runF, ee, outs]
end K08
end

section
set_option Elab.async false
set_option linter.all false
set_option maxRecDepth 100000
set_option maxHeartbeats 4000000
namespace K08
open PySem PySem.Spec PyProof.Rows L2 DL TL
/-! ### comprehensions over range -/
theorem set_back {ρ : Rho} {v : Nat} (h : v < ρ.length) (x : Option D) : (ρ.set v x).set v (ρ[v]?.join) = ρ := by
  rw [List.set_set]
  refine List.ext_getElem? fun i => ?_
  rw [List.getElem?_set]
  by_cases e : v = i
  · subst e
    rw [if_pos rfl, if_pos h]
    rw [List.getElem?_eq_getElem h]
    rfl
  · rw [if_neg e]
theorem compF_flt {v : Nat} {ρ : Rho} {t : M Bool} {el : M D} {f : Nat → D} {p : Nat → Bool} (hv : v < ρ.length) : ∀ (is : List Nat) (acc : List D), acc.length + is.length ≤ 2 ^ 24 →
    (∀ i ∈ is, t (ρ.set v (some (.int (0 + (i : Nat))))) = .ok (p i) (ρ.set v (some (.int (0 + (i : Nat)))))) → (∀ i ∈ is, p i = true → el (ρ.set v (some (.int (0 + (i : Nat))))) = .ok (f i) (ρ.set v (some (.int (0 + (i : Nat)))))) →
    compF [v] (gN v) t el (is.map fun i => .int (0 + (i : Nat))) acc (ρ.set v none) = .ok (acc ++ (is.filter p).map f) (ρ.set v none)
  | [], acc, _, _, _ => by simp [compF_nil]
  | i :: is, acc, hl, ht, he => by
    have h1 : gN v (.int (0 + (i : Nat))) (ρ.set v none) = .ok () (ρ.set v (some (.int (0 + (i : Nat))))) := by
      rw [gN_ap, if_pos (by rw [List.length_set]; exact hv), List.set_set]
    have h2 := ht i List.mem_cons_self
    have hw : wipeR (ρ.set v (some (.int (0 + (i : Nat))))) [v] = ρ.set v none := by
      show ((ρ.set v (some (.int (0 + (i : Nat))))).set v none) = _
      rw [List.set_set]
    rw [List.length_cons] at hl
    cases hp : p i with
    | true =>
      rw [hp] at h2
      rw [List.map_cons, compF_step h1 h2 (he i List.mem_cons_self hp) (by omega), hw, compF_flt hv is _ (by rw [List.length_append, List.length_singleton]; omega) (fun j hj => ht j (List.mem_cons_of_mem _ hj)) fun j hj => he j (List.mem_cons_of_mem _ hj)]
      rw [List.filter_cons_of_pos hp, List.map_cons, List.append_assoc]
      rfl
    | false =>
      rw [hp] at h2
      rw [List.map_cons, compF_skip h1 h2, hw, compF_flt hv is _ (by omega) (fun j hj => ht j (List.mem_cons_of_mem _ hj)) fun j hj => he j (List.mem_cons_of_mem _ hj)]
      rw [List.filter_cons_of_neg (by rw [hp]; exact Bool.false_ne_true)]
theorem comp_flt {v b : Nat} {ρ ρ0 : Rho} {it : M (List D)} {t : M Bool} {el : M D} {f : Nat → D} {p : Nat → Bool} (hv : v < ρ.length) (hb : b ≤ 2 ^ 24) (hit : it ρ0 = .ok ((List.range b).map fun i => .int (0 + (i : Nat))) ρ)
    (ht : ∀ i, i < b → t (ρ.set v (some (.int (0 + (i : Nat))))) = .ok (p i) (ρ.set v (some (.int (0 + (i : Nat)))))) (he : ∀ i, i < b → p i = true → el (ρ.set v (some (.int (0 + (i : Nat))))) = .ok (f i) (ρ.set v (some (.int (0 + (i : Nat)))))) :
    compE [v] it (gN v) t el ρ0 = .ok (.lst true (((List.range b).filter p).map f)) ρ := by
  have h := compF_flt (t := t) (el := el) (f := f) (p := p) hv (List.range b) [] (by simpa using hb) (fun i hi => ht i (List.mem_range.mp hi)) fun i hi => he i (List.mem_range.mp hi)
  rw [compE_ok hit (ρ2 := ρ.set v none) (xs := ((List.range b).filter p).map f)]
  · show Out.ok _ ((ρ.set v none).set v (ρ[v]?.join)) = _
    rw [set_back hv]
  · rw [List.nil_append] at h
    exact h
theorem comp_rng {v b : Nat} {ρ ρ0 : Rho} {it : M (List D)} {el : M D} {f : Nat → D} (hv : v < ρ.length) (hb : b ≤ 2 ^ 24) (hit : it ρ0 = .ok ((List.range b).map fun i => .int (0 + (i : Nat))) ρ)
    (he : ∀ i, i < b → el (ρ.set v (some (.int (0 + (i : Nat))))) = .ok (f i) (ρ.set v (some (.int (0 + (i : Nat)))))) :
    compE [v] it (gN v) (M.pure true) el ρ0 = .ok (.lst true ((List.range b).map f)) ρ := by
  rw [comp_flt (t := M.pure true) (p := fun _ => true) (f := f) hv hb hit (fun _ _ => rfl) fun i hi _ => he i hi]
  rw [List.filter_eq_self.mpr fun _ _ => rfl]
theorem rng_ev {b : Nat} (h : b ≤ 2 ^ 24) : gRng1 [.int (b : Int)] = some ((List.range b).map fun i => .int (0 + (i : Nat))) := by
  have hj : okR (b : Int) = true := okR_iff.mpr ⟨by omega, by omega⟩
  simp only [gRng1, hj, if_true, Int.toNat_natCast]
theorem roll_j {ρ : Rho} {x : Dice} (m : Nat) (mI : Int) (hI : mI = m) (h : ρ[1]? = some (some x.d)) (m0 : 0 < m) (m1 : m ≤ 100000000) :
    ∃ (k : Nat) (x' : Dice), k < m ∧ callM [true, false] F_law_roll [] (argK (nameK 1) (argK (toK (M.pure (.int mI))) argK0)) ρ = .ok (.int k) (ρ.set 1 (some x'.d)) := by
  subst hI
  exact roll_c h (by simp) h m0 m1
/-! ### drawing a tongue -/
def chars : List Str := ["a", "b", "c", "d", "e", "f", "g", "h", "i", "j"]
theorem ch_n0 : ((List.range 10).map fun i => dSub1 (.str "abcdefghijk") (.int (0 + (i : Nat)))) = (List.range 10).map fun i => some (.str (chars.getD i "")) := by kernel_rfl
theorem el_n0 : ((List.range 10).map fun i => dAdd (.str "n") (.str (chars.getD i ""))) = (List.range 10).map fun i => some (.str ((smallL 10).getD i "")) := by kernel_rfl
theorem ch_p0 : ((List.range 3).map fun i => dSub1 (.str "abc") (.int (0 + (i : Nat)))) = (List.range 3).map fun i => some (.str (chars.getD i "")) := by kernel_rfl
theorem el_p0 : ((List.range 3).map fun i => dAdd (.str "p") (.str (chars.getD i ""))) = (List.range 3).map fun i => some (.str ((powL 3).getD i "")) := by kernel_rfl
theorem el_n {ρ : Rho} {i : Nat} (h : ρ[29]? = some (some (.int (0 + (i : Nat))))) (hi : i < 10) : (op2 dAdd (toK (M.pure (.str "n"))) (toK (op2 dSub1 (toK (M.pure (.str "abcdefghijk"))) (nameK 29)))) ρ = .ok (.str ((smallL 10).getD i "")) ρ := by
  have e1 := List.map_inj_left.mp ch_n0 i (List.mem_range.mpr hi)
  have e2 := List.map_inj_left.mp el_n0 i (List.mem_range.mpr hi)
  generalize chars.getD i "" = c at *
  generalize (smallL 10).getD i "" = r at *
  rw [Int.zero_add] at e1
  simp [h, e1, e2, -dAdd_str]
theorem el_p {ρ : Rho} {i : Nat} (h : ρ[29]? = some (some (.int (0 + (i : Nat))))) (hi : i < 3) : (op2 dAdd (toK (M.pure (.str "p"))) (toK (op2 dSub1 (toK (M.pure (.str "abc"))) (nameK 29)))) ρ = .ok (.str ((powL 3).getD i "")) ρ := by
  have e1 := List.map_inj_left.mp ch_p0 i (List.mem_range.mpr hi)
  have e2 := List.map_inj_left.mp el_p0 i (List.mem_range.mpr hi)
  generalize chars.getD i "" = c at *
  generalize (powL 3).getD i "" = r at *
  rw [Int.zero_add] at e1
  simp [h, e1, e2, -dAdd_str]
theorem take_rng : ∀ (l : List Str) (k : Nat), k ≤ l.length → (List.range k).map (fun i => D.str (l.getD i "")) = (l.take k).map .str := fun l k h => by
  refine List.ext_getElem (by simp; omega) fun i h1 h2 => ?_
  simp only [List.length_map, List.length_range] at h1
  simp only [List.getElem_map, List.getElem_range, List.getElem_take]
  rw [List.getD_eq_getElem?_getD, List.getElem?_eq_getElem (by omega)]
  rfl
theorem comp_n {ρ : Rho} {k : Nat} (hl : ρ.length = 30) (h4 : ρ[4]? = some (some (.int (k : Int)))) (hk : k ≤ 10) :
    (compE [29] (itN gRng1 (argK (nameK 4) argK0)) (gN 29) (M.pure true) (op2 dAdd (toK (M.pure (.str "n"))) (toK (op2 dSub1 (toK (M.pure (.str "abcdefghijk"))) (nameK 29))))) ρ = .ok (.lst true ((smallL k).map .str)) ρ := by
  have hr := rng_ev (b := k) (by omega)
  rw [comp_rng (b := k) (ρ := ρ) (f := fun i => .str ((smallL 10).getD i "")) (by omega) (by omega) (by simp [h4, hr]) fun i hi => el_n (by rw [List.getElem?_set_self (by omega)]) (by omega)]
  rw [take_rng _ _ (by simpa [smallL] using hk)]
  simp [smallL, List.take_take]
theorem comp_p {ρ : Rho} {k : Nat} (hl : ρ.length = 30) (h4 : ρ[5]? = some (some (.int (k : Int)))) (hk : k ≤ 3) :
    (compE [29] (itN gRng1 (argK (nameK 5) argK0)) (gN 29) (M.pure true) (op2 dAdd (toK (M.pure (.str "p"))) (toK (op2 dSub1 (toK (M.pure (.str "abc"))) (nameK 29))))) ρ = .ok (.lst true ((powL k).map .str)) ρ := by
  have hr := rng_ev (b := k) (by omega)
  rw [comp_rng (b := k) (ρ := ρ) (f := fun i => .str ((powL 3).getD i "")) (by omega) (by omega) (by simp [h4, hr]) fun i hi => el_p (by rw [List.getElem?_set_self (by omega)]) (by omega)]
  rw [take_rng _ _ (by simpa [powL] using hk)]
  simp [powL, List.take_take]
end K08
end

section
set_option Elab.async false
set_option linter.all false
set_option maxRecDepth 100000
set_option maxHeartbeats 4000000
namespace K08
open PySem PySem.Spec PyProof.Rows L2 DL TL
def rowT (n : Nu) : D := .tup (rowL n)
@[simp] theorem fz_rowT (n : Nu) : fz (rowT n) = rowT n := by simp [rowT]
@[simp] theorem isFz_rowT (n : Nu) : isFz (rowT n) = true := by simp [rowT, rowL]
@[simp] theorem fz_str_c : fz ∘ D.str = D.str := by funext s; simp
@[simp] theorem fz_nu_c : fz ∘ Nu.d = Nu.d := by funext s; simp
@[simp] theorem fz_rowT_c : fz ∘ rowT = rowT := by funext s; simp
@[simp] theorem vals_nil : DL.vals [] = some [] := rfl
@[simp] theorem vals_v (d : D) (ts : List Tk) : DL.vals (.v d :: ts) = if isFz d = true then (DL.vals ts).map (d :: ·) else none := rfl
theorem pick_2 (a b : Str) {i : Nat} (h : i < 2) : atI [D.str a, D.str b] (i : Int) = some (D.str (if decide (i = 1) = true then b else a)) := by
  have : i = 0 ∨ i = 1 := by omega
  rcases this with rfl | rfl <;> simp [atI, ixN]
theorem okS_high : okS "high" = true := by decide +kernel
theorem hi_ne : ¬ (("high" : Str) = "low") := by decide +kernel
theorem dEq_lo (lo : Bool) : dEq (.str (if lo = true then "low" else "high")) (.str "low") = some (.bl lo) := by
  cases lo with
  | true => rw [if_pos rfl, dEq_str okS_low okS_low]; simp
  | false => rw [if_neg Bool.false_ne_true, dEq_str okS_high okS_low]; simp [hi_ne]
def rollM (i : Int) : M D := callM [true, false] F_law_roll [] (argK (nameK 1) (argK (toK (M.pure (.int i))) argK0))
theorem rollM_f (i : Int) : callM [true, false] F_law_roll [] (argK (nameK 1) (argK (toK (M.pure (.int i))) argK0)) = rollM i := rfl
def mkM : M D := makeM 0 F_Numerals_init [] (argK (toK (nameE 4)) (argK (toK (nameE 6)) (argK (toK (nameE 7)) (argK (toK (nameE 8)) (argK (toK (nameE 9)) (argK (toK (nameE 10)) argK0))))))
theorem mkM_f : makeM 0 F_Numerals_init [] (argK (toK (nameE 4)) (argK (toK (nameE 6)) (argK (toK (nameE 7)) (argK (toK (nameE 8)) (argK (toK (nameE 9)) (argK (toK (nameE 10)) argK0)))))) = mkM := rfl
theorem roll_i {ρ : Rho} {x : Dice} (m : Nat) (mI : Int) (hI : mI = m) (h : ρ[1]? = some (some x.d)) (m0 : 0 < m) (m1 : m ≤ 100000000) :
    ∃ (k : Nat) (x' : Dice), k < m ∧ rollM mI ρ = .ok (.int k) (ρ.set 1 (some x'.d)) := roll_j m mI hI h m0 m1
theorem b1_a {ρ : Rho} {x : Dice} (hl : ρ.length = 30) (h1 : ρ[1]? = some (some x.d)) : ∃ (k m : Nat) (x' : Dice), k < 9 ∧ m < 4 ∧
    (parS [4, 5] (vcons (op2 dAdd (toK (M.pure (.int 2))) (toK (callM [true, false] F_law_roll [] (argK (nameK 1) (argK (toK (M.pure (.int 9))) argK0))))) (vcons (callM [true, false] F_law_roll [] (argK (nameK 1) (argK (toK (M.pure (.int 4))) argK0))) (M.pure [])))) ρ = .ok .nx (((ρ.set 1 (some x'.d)).set 4 (some (.int ((2 + k : Nat) : Int)))).set 5 (some (.int m))) := by
  obtain ⟨k, x1, hk, e1⟩ := roll_i (ρ := ρ) 9 9 rfl h1 (by omega) (by omega)
  obtain ⟨m, x2, hm, e2⟩ := roll_i (ρ := ρ.set 1 (some x1.d)) (x := x1) 4 4 rfl (by rw [List.getElem?_set_self (by omega)]) (by omega) (by omega)
  refine ⟨k, m, x2, hk, hm, ?_⟩
  simp only [rollM_f]
  simp [e1, e2, hl]
theorem b1_c {ρ : Rho} {x : Dice} (hl : ρ.length = 30) (h1 : ρ[1]? = some (some x.d)) : ∃ (lo li on : Bool) (x' : Dice),
    (parS [8, 9, 10] (vcons (op2 dSub1 (toK (dispM (.lst true) (argK (toK (M.pure (.str "high"))) (argK (toK (M.pure (.str "low"))) argK0)))) (toK (callM [true, false] F_law_roll [] (argK (nameK 1) (argK (toK (M.pure (.int 2))) argK0))))) (vcons (op2 dSub1 (toK (dispM (.lst true) (argK (toK (M.pure (.str ""))) (argK (toK (M.pure (.str "and"))) argK0)))) (toK (callM [true, false] F_law_roll [] (argK (nameK 1) (argK (toK (M.pure (.int 2))) argK0))))) (vcons (op2 dEq (toK (callM [true, false] F_law_roll [] (argK (nameK 1) (argK (toK (M.pure (.int 2))) argK0)))) (toK (M.pure (.int 0)))) (M.pure []))))) ρ
      = .ok .nx ((((ρ.set 1 (some x'.d)).set 8 (some (.str (if lo = true then "low" else "high")))).set 9 (some (.str (if li = true then "and" else "")))).set 10 (some (.bl on))) := by
  obtain ⟨k, x1, hk, e1⟩ := roll_i (ρ := ρ) 2 2 rfl h1 (by omega) (by omega)
  obtain ⟨m, x2, hm, e2⟩ := roll_i (ρ := ρ.set 1 (some x1.d)) (x := x1) 2 2 rfl (by rw [List.getElem?_set_self (by omega)]) (by omega) (by omega)
  obtain ⟨j, x3, hj, e3⟩ := roll_i (ρ := (ρ.set 1 (some x1.d)).set 1 (some x2.d)) (x := x2) 2 2 rfl (by rw [List.getElem?_set_self (by simp; omega)]) (by omega) (by omega)
  have p1 := pick_2 "high" "low" hk
  have p2 := pick_2 "" "and" hm
  rw [List.set_set] at e3
  refine ⟨decide (k = 1), decide (m = 1), decide ((j : Int) = 0), x3, ?_⟩
  generalize hA : decide (k = 1) = A at *
  generalize hB : decide (m = 1) = B at *
  generalize (if A = true then ("low" : Str) else "high") = sA at *
  generalize (if B = true then ("and" : Str) else "") = sB at *
  simp only [rollM_f]
  simp [e1, e2, e3, hl, p1, p2]
theorem b1_d {ρ : Rho} {lo on : Bool} (hl : ρ.length = 30) (h8 : ρ[8]? = some (some (.str (if lo = true then "low" else "high")))) (h10 : ρ[10]? = some (some (.bl on))) :
    (setS 10 (orV (nameE 10) (op2 dEq (nameK 8) (toK (M.pure (.str "low")))))) ρ = .ok .nx (ρ.set 10 (some (.bl (on || lo)))) := by
  have e := dEq_lo lo
  generalize (if lo = true then ("low" : Str) else "high") = sA at *
  cases on with
  | true => simp [-getElem?_pos, -List.getElem?_eq_getElem, h10, hl]
  | false => simp [-getElem?_pos, -List.getElem?_eq_getElem, h10, h8, e, hl]
theorem b1_e {ρ : Rho} {n : Nu} {ns : List Nu} (hl : ρ.length = 30) (h4 : ρ[4]? = some (some (.int n.b))) (h6 : ρ[6]? = some (some (.lst true (n.small.map .str)))) (h7 : ρ[7]? = some (some (.lst true (n.powers.map .str)))) (h8 : ρ[8]? = some (some (.str n.order))) (h9 : ρ[9]? = some (some (.str n.link))) (h10 : ρ[10]? = some (some (.bl n.one)))
    (h25 : ρ[25]? = some (some (.lst true (ns.map Nu.d)))) (hn : ns.length ≤ 10) (hF : F_Numerals_init (argsI n) = .ok .non (n.own :: (argsI n).tail)) :
    (dropS (mutM "list" gApp (nameK 25) (argK (toK (makeM 0 F_Numerals_init [] (argK (toK (nameE 4)) (argK (toK (nameE 6)) (argK (toK (nameE 7)) (argK (toK (nameE 8)) (argK (toK (nameE 9)) (argK (toK (nameE 10)) argK0)))))))) argK0))) ρ
      = .ok .nx (((ρ.set 6 (some (.lst false (n.small.map .str)))).set 7 (some (.lst false (n.powers.map .str)))).set 25 (some (.lst true ((ns ++ [n]).map Nu.d)))) := by
  have hk : mkM ρ = .ok n.own ((ρ.set 6 (some (.lst false (n.small.map .str)))).set 7 (some (.lst false (n.powers.map .str)))) := by
    unfold argsI at hF
    simp [mkM, makeM, h4, h6, h7, h8, h9, h10, List.getElem?_set, makeD, hF]
  have hq : ns.length < 16777216 := by omega
  have hz := fz_own n
  simp only [mkM_f]
  simp [h25, hk, hz, List.getElem?_set, hq]
theorem b1_f {ρ : Rho} {n : Nu} {ns : List Nu} (hl : ρ.length = 30) (h4 : ρ[4]? = some (some (.int n.b))) (h6 : ρ[6]? = some (some (.lst false (n.small.map .str)))) (h7 : ρ[7]? = some (some (.lst false (n.powers.map .str)))) (h8 : ρ[8]? = some (some (.str n.order))) (h9 : ρ[9]? = some (some (.str n.link))) (h10 : ρ[10]? = some (some (.bl n.one)))
    (h2 : ρ[2]? = some (some (.lst true (ns.map rowT)))) (hn : ns.length ≤ 10) :
    (dropS (mutM "list" gApp (nameK 2) (argK (toK (dispM .tup (argK (toK (nameE 4)) (argK (toK (nameE 6)) (argK (toK (nameE 7)) (argK (toK (nameE 8)) (argK (toK (nameE 9)) (argK (toK (nameE 10)) argK0)))))))) argK0))) ρ
      = .ok .nx (ρ.set 2 (some (.lst true ((ns ++ [n]).map rowT)))) := by
  have hq : ns.length < 16777216 := by omega
  simp [h2, h4, h6, h7, h8, h9, h10, List.getElem?_set, hq, rowT, rowL]
end K08
end

section
set_option Elab.async false
set_option linter.all false
set_option maxRecDepth 100000
set_option maxHeartbeats 4000000
namespace K08
open PySem PySem.Spec PyProof.Rows L2 DL TL
structure Inv1 (ns : List Nu) (x : Dice) (ρ : Rho) : Prop where
  l : ρ.length = 30
  s1 : ρ[1]? = some (some x.d)
  s25 : ρ[25]? = some (some (.lst true (ns.map Nu.d)))
  s2 : ρ[2]? = some (some (.lst true (ns.map rowT)))
  ok : ∀ n ∈ ns, n.Ok ∧ n.Ok2
theorem b1_b {ρ : Rho} {k m : Nat} (hl : ρ.length = 30) (h4 : ρ[4]? = some (some (.int (k : Int)))) (h5 : ρ[5]? = some (some (.int (m : Int)))) (hk : k ≤ 10) (hm : m ≤ 3) :
    (parS [6, 7] (vcons (compE [29] (itN gRng1 (argK (nameK 4) argK0)) (gN 29) (M.pure true) (op2 dAdd (toK (M.pure (.str "n"))) (toK (op2 dSub1 (toK (M.pure (.str "abcdefghijk"))) (nameK 29))))) (vcons (compE [29] (itN gRng1 (argK (nameK 5) argK0)) (gN 29) (M.pure true) (op2 dAdd (toK (M.pure (.str "p"))) (toK (op2 dSub1 (toK (M.pure (.str "abc"))) (nameK 29))))) (M.pure [])))) ρ
      = .ok .nx ((ρ.set 6 (some (.lst true ((smallL k).map .str)))).set 7 (some (.lst true ((powL m).map .str)))) := by
  have c1 := comp_n hl h4 hk
  have c2 := comp_p hl h5 hm
  rw [parS_eq, bind_ap, vcons_eq, bind_ap, c1]
  simp only
  rw [vcons_eq, bind_ap, bind_ap, c2]
  simp [hl]
theorem ex_of {a : Out Fl} {r : Rho} (h : a = .ok .nx r) : ∃ r', a = .ok .nx r' ∧ r' = r := ⟨_, h, rfl⟩
theorem b1_ev {ns : List Nu} {x : Dice} {ρ : Rho} (I : Inv1 ns x ρ) (hn : ns.length ≤ 9) : ∃ n x' ρ', b_law_1 ρ = .ok .nx ρ' ∧ Inv1 (ns ++ [n]) x' ρ' := by
  obtain ⟨hl, h1, h25, h2, hok⟩ := I
  obtain ⟨k, m, x1, hk, hm, eA⟩ := b1_a hl h1
  obtain ⟨ρA, eA, hA⟩ := ex_of eA
  have lA : ρA.length = 30 := by rw [hA]; simp [hl]
  have a25 : ρA[25]? = some (some (.lst true (ns.map Nu.d))) := by rw [hA]; simp [h25]
  have a2 : ρA[2]? = some (some (.lst true (ns.map rowT))) := by rw [hA]; simp [h2]
  have a1 : ρA[1]? = some (some x1.d) := by rw [hA]; simp [List.getElem?_set, hl]
  have a4 : ρA[4]? = some (some (.int ((2 + k : Nat) : Int))) := by rw [hA]; simp [List.getElem?_set, hl]
  have a5 : ρA[5]? = some (some (.int (m : Int))) := by rw [hA]; simp [List.getElem?_set, hl]
  have eB := b1_b lA a4 a5 (by omega) (by omega)
  obtain ⟨ρB, eB, hB⟩ := ex_of eB
  have lB : ρB.length = 30 := by rw [hB]; simp [lA]
  have b25 : ρB[25]? = some (some (.lst true (ns.map Nu.d))) := by rw [hB]; simp [a25]
  have b2 : ρB[2]? = some (some (.lst true (ns.map rowT))) := by rw [hB]; simp [a2]
  have b1 : ρB[1]? = some (some x1.d) := by rw [hB]; simp [a1]
  have b4 : ρB[4]? = some (some (.int ((2 + k : Nat) : Int))) := by rw [hB]; simp [a4]
  have b6 : ρB[6]? = some (some (.lst true ((smallL (2 + k)).map .str))) := by rw [hB]; simp [List.getElem?_set, lA]
  have b7 : ρB[7]? = some (some (.lst true ((powL m).map .str))) := by rw [hB]; simp [List.getElem?_set, lA]
  obtain ⟨lo, li, on, x2, eC⟩ := b1_c lB b1
  obtain ⟨ρC, eC, hC⟩ := ex_of eC
  have lC : ρC.length = 30 := by rw [hC]; simp [lB]
  have c25 : ρC[25]? = some (some (.lst true (ns.map Nu.d))) := by rw [hC]; simp [b25]
  have c2 : ρC[2]? = some (some (.lst true (ns.map rowT))) := by rw [hC]; simp [b2]
  have c4 : ρC[4]? = some (some (.int ((2 + k : Nat) : Int))) := by rw [hC]; simp [b4]
  have c6 : ρC[6]? = some (some (.lst true ((smallL (2 + k)).map .str))) := by rw [hC]; simp [b6]
  have c7 : ρC[7]? = some (some (.lst true ((powL m).map .str))) := by rw [hC]; simp [b7]
  have c1 : ρC[1]? = some (some x2.d) := by rw [hC]; simp [List.getElem?_set, lB]
  have c8 : ρC[8]? = some (some (.str (if lo = true then "low" else "high"))) := by rw [hC]; simp [List.getElem?_set, lB]
  have c9 : ρC[9]? = some (some (.str (if li = true then "and" else ""))) := by rw [hC]; simp [List.getElem?_set, lB]
  have c10 : ρC[10]? = some (some (.bl on)) := by rw [hC]; simp [List.getElem?_set, lB]
  have eD := b1_d lC c8 c10
  obtain ⟨ρD, eD, hD⟩ := ex_of eD
  have lD : ρD.length = 30 := by rw [hD]; simp [lC]
  have d25 : ρD[25]? = some (some (.lst true (ns.map Nu.d))) := by rw [hD]; simp [c25]
  have d2 : ρD[2]? = some (some (.lst true (ns.map rowT))) := by rw [hD]; simp [c2]
  have d4 : ρD[4]? = some (some (.int ((2 + k : Nat) : Int))) := by rw [hD]; simp [c4]
  have d6 : ρD[6]? = some (some (.lst true ((smallL (2 + k)).map .str))) := by rw [hD]; simp [c6]
  have d7 : ρD[7]? = some (some (.lst true ((powL m).map .str))) := by rw [hD]; simp [c7]
  have d1 : ρD[1]? = some (some x2.d) := by rw [hD]; simp [c1]
  have d8 : ρD[8]? = some (some (.str (if lo = true then "low" else "high"))) := by rw [hD]; simpa using c8
  have d9 : ρD[9]? = some (some (.str (if li = true then "and" else ""))) := by rw [hD]; simpa using c9
  have d10 : ρD[10]? = some (some (.bl (on || lo))) := by rw [hD]; simp [List.getElem?_set, lC]
  have hlo : lo = true → (on || lo) = true := fun e => by rw [e, Bool.or_true]
  have hck := chk_of (k := 2 + k) (m := m) (lo := lo) (li := li) (on := on || lo) (by omega) (by omega) (by omega) hlo
  have hin := init_ev (k := 2 + k) (m := m) (lo := lo) (li := li) (on := on || lo) (by omega) (by omega) (by omega) hlo
  have hd4 : ρD[4]? = some (some (.int ((nuOf (2 + k) m lo li (on || lo)).b : Nat))) := d4
  have hd6 : ρD[6]? = some (some (.lst true ((nuOf (2 + k) m lo li (on || lo)).small.map .str))) := d6
  have hd7 : ρD[7]? = some (some (.lst true ((nuOf (2 + k) m lo li (on || lo)).powers.map .str))) := d7
  have hd8 : ρD[8]? = some (some (.str (nuOf (2 + k) m lo li (on || lo)).order)) := d8
  have hd9 : ρD[9]? = some (some (.str (nuOf (2 + k) m lo li (on || lo)).link)) := d9
  have hd10 : ρD[10]? = some (some (.bl (nuOf (2 + k) m lo li (on || lo)).one)) := d10
  generalize nuOf (2 + k) m lo li (on || lo) = n at *
  have eE := b1_e lD hd4 hd6 hd7 hd8 hd9 hd10 d25 (by omega) hin
  obtain ⟨ρE, eE, hE⟩ := ex_of eE
  have lE : ρE.length = 30 := by rw [hE]; simp [lD]
  have e2 : ρE[2]? = some (some (.lst true (ns.map rowT))) := by rw [hE]; simp [d2]
  have e4 : ρE[4]? = some (some (.int (n.b : Nat))) := by rw [hE]; simp [hd4]
  have e1 : ρE[1]? = some (some x2.d) := by rw [hE]; simp [d1]
  have e8 : ρE[8]? = some (some (.str n.order)) := by rw [hE]; simp [hd8]
  have e9 : ρE[9]? = some (some (.str n.link)) := by rw [hE]; simp [hd9]
  have e10 : ρE[10]? = some (some (.bl n.one)) := by rw [hE]; simp [hd10]
  have e25 : ρE[25]? = some (some (.lst true ((ns ++ [n]).map Nu.d))) := by rw [hE]; simp [List.getElem?_set, lD]
  have e6 : ρE[6]? = some (some (.lst false (n.small.map .str))) := by rw [hE]; simp [List.getElem?_set, lD]
  have e7 : ρE[7]? = some (some (.lst false (n.powers.map .str))) := by rw [hE]; simp [List.getElem?_set, lD]
  have eF := b1_f lE e4 e6 e7 e8 e9 e10 e2 (by omega)
  obtain ⟨ρF, eF, hF⟩ := ex_of eF
  refine ⟨n, x2, ρF, ?_, ⟨by rw [hF, List.length_set]; exact lE, by rw [hF]; simp [e1], by rw [hF]; simpa using e25, by rw [hF]; simp [List.getElem?_set, lE], fun z hz => ?_⟩⟩
  · unfold b_law_1
    rw [seq_nx eA, seq_nx eB, seq_nx eC, seq_nx eD, seq_nx eE, eF]
  · rcases List.mem_append.mp hz with hz | hz
    · exact hok z hz
    · rw [List.mem_singleton.mp hz]
      exact hck
theorem draw_loop : ∀ (is : List D) (ns : List Nu) (x : Dice) (ρ : Rho), Inv1 ns x ρ → ns.length + is.length ≤ 9 → ∃ ns' x' ρ', forF (gN 3) b_law_1 is ρ = .ok .nx ρ' ∧ Inv1 ns' x' ρ' ∧ ns'.length = ns.length + is.length
  | [], ns, x, ρ, I, _ => ⟨ns, x, ρ, rfl, I, rfl⟩
  | i :: is, ns, x, ρ, I, h => by
    rw [List.length_cons] at h
    have I1 : Inv1 ns x (ρ.set 3 (some i)) := ⟨by rw [List.length_set]; exact I.l, by simp [I.s1], by simpa using I.s25, by simpa using I.s2, I.ok⟩
    obtain ⟨n, x1, ρ1, e1, I2⟩ := b1_ev I1 (by omega)
    obtain ⟨ns', x', ρ', e2, I3, h3⟩ := draw_loop is (ns ++ [n]) x1 ρ1 I2 (by rw [List.length_append, List.length_singleton]; omega)
    refine ⟨ns', x', ρ', ?_, I3, by rw [h3, List.length_append, List.length_singleton, List.length_cons]; omega⟩
    rw [forF_nx (ρ1 := ρ.set 3 (some i)) (by rw [gN_ap, if_pos (by rw [I.l]; omega)]) e1]
    exact e2
end K08
end

section
set_option Elab.async false
set_option linter.all false
set_option maxRecDepth 100000
set_option maxHeartbeats 4000000
namespace K08
open PySem PySem.Spec PyProof.Rows L2 DL TL
theorem end_le {n : Nu} (ok : n.Ok) : n.end ≤ 10000 := by
  unfold Nu.end
  calc n.b ^ (n.powers.length + 1) ≤ 10 ^ (n.powers.length + 1) := Nat.pow_le_pow_left ok.b10 _
    _ ≤ 10 ^ 4 := Nat.pow_le_pow_right (by omega) (by have := ok.pw3; omega)
theorem end_pos {n : Nu} (ok : n.Ok) : 2 ≤ n.end := by
  unfold Nu.end
  calc 2 = 2 ^ 1 := rfl
    _ ≤ n.b ^ 1 := Nat.pow_le_pow_left ok.b2 1
    _ ≤ n.b ^ (n.powers.length + 1) := Nat.pow_le_pow_right (by have := ok.b2; omega) (by omega)
structure Inv (n : Nu) (ns : List Nu) (o o' : Bool) (x : Dice) (ρ : Rho) : Prop where
  l : ρ.length = 30
  s1 : ρ[1]? = some (some x.d)
  s25 : ρ[25]? = some (some (.lst o (ns.map Nu.d)))
  s2 : ρ[2]? = some (some (.lst o' (ns.map rowT)))
  s24 : ρ[24]? = some (some n.d)
  s11 : ρ[11]? = some (some (rowT n))
  s23 : ρ[23]? = some (some (.int n.end))
theorem Inv.set {n : Nu} {ns : List Nu} {o o' : Bool} {x : Dice} {ρ : Rho} (I : Inv n ns o o' x ρ) (i : Nat) (d : Option D) (h : i ∉ [1, 2, 11, 23, 24, 25]) : Inv n ns o o' x (ρ.set i d) := by
  simp only [List.mem_cons, List.not_mem_nil, or_false, not_or] at h
  obtain ⟨h1, h2, h3, h4, h5, h6⟩ := h
  exact ⟨by rw [List.length_set]; exact I.l, by rw [List.getElem?_set_ne h1]; exact I.s1, by rw [List.getElem?_set_ne h6]; exact I.s25, by rw [List.getElem?_set_ne h2]; exact I.s2, by rw [List.getElem?_set_ne h5]; exact I.s24, by rw [List.getElem?_set_ne h3]; exact I.s11, by rw [List.getElem?_set_ne h4]; exact I.s23⟩
theorem Inv.dice {n : Nu} {ns : List Nu} {o o' : Bool} {x : Dice} {ρ : Rho} (I : Inv n ns o o' x ρ) (y : Dice) : Inv n ns o o' y (ρ.set 1 (some y.d)) :=
  ⟨by rw [List.length_set]; exact I.l, by rw [List.getElem?_set_self (by rw [I.l]; omega)], by rw [List.getElem?_set_ne (by omega)]; exact I.s25, by rw [List.getElem?_set_ne (by omega)]; exact I.s2, by rw [List.getElem?_set_ne (by omega)]; exact I.s24, by rw [List.getElem?_set_ne (by omega)]; exact I.s11, by rw [List.getElem?_set_ne (by omega)]; exact I.s23⟩
theorem Inv.fz25 {n : Nu} {ns : List Nu} {o o' : Bool} {x : Dice} {ρ : Rho} (I : Inv n ns o o' x ρ) (p : Bool) : Inv n ns p o' x (ρ.set 25 (some (.lst p (ns.map Nu.d)))) :=
  ⟨by rw [List.length_set]; exact I.l, by rw [List.getElem?_set_ne (by omega)]; exact I.s1, by rw [List.getElem?_set_self (by rw [I.l]; omega)], by rw [List.getElem?_set_ne (by omega)]; exact I.s2, by rw [List.getElem?_set_ne (by omega)]; exact I.s24, by rw [List.getElem?_set_ne (by omega)]; exact I.s11, by rw [List.getElem?_set_ne (by omega)]; exact I.s23⟩
theorem Inv.fz2 {n : Nu} {ns : List Nu} {o o' : Bool} {x : Dice} {ρ : Rho} (I : Inv n ns o o' x ρ) (p : Bool) : Inv n ns o p x (ρ.set 2 (some (.lst p (ns.map rowT)))) :=
  ⟨by rw [List.length_set]; exact I.l, by rw [List.getElem?_set_ne (by omega)]; exact I.s1, by rw [List.getElem?_set_ne (by omega)]; exact I.s25, by rw [List.getElem?_set_self (by rw [I.l]; omega)], by rw [List.getElem?_set_ne (by omega)]; exact I.s24, by rw [List.getElem?_set_ne (by omega)]; exact I.s11, by rw [List.getElem?_set_ne (by omega)]; exact I.s23⟩
theorem at_row (n : Nu) : atI (rowL n) 0 = some (.int n.b) ∧ atI (rowL n) 1 = some (.lst false (n.small.map .str)) ∧ atI (rowL n) 2 = some (.lst false (n.powers.map .str)) ∧ atI (rowL n) 3 = some (.str n.order) ∧ atI (rowL n) 4 = some (.str n.link) ∧ atI (rowL n) 5 = some (.bl n.one) := ⟨rfl, rfl, rfl, rfl, rfl, rfl⟩
@[simp] theorem kids_rowT (n : Nu) : (kids (rowT n)).all isFz = true := by simp [rowT, rowL]
theorem row_at {ρ : Rho} {n : Nu} {j : Nat} (h : ρ[j]? = some (some (rowT n))) {i : Int} {d : D} (hd : atI (rowL n) i = some d) : op2 dSub1 (nameK j) (toK (M.pure (.int i))) ρ = .ok d ρ :=
  op2_ap (t := .s j) (u := .v (.int i)) (x := rowT n) (y := .int i) (ρ1 := ρ) (by simp [h]) (by simp) (by rw [get_s, h]; simp only; rw [if_pos (kids_rowT n)]) (by simp) hd
/-- the law's own words, called -/
def lwM (j : Nat) : M D := callM [false, false, false, false, false, false, false] F_law_words [] (argK (toK (op2 dSub1 (nameK j) (toK (M.pure (.int 0))))) (argK (toK (op2 dSub1 (nameK j) (toK (M.pure (.int 1))))) (argK (toK (op2 dSub1 (nameK j) (toK (M.pure (.int 2))))) (argK (toK (op2 dSub1 (nameK j) (toK (M.pure (.int 3))))) (argK (toK (op2 dSub1 (nameK j) (toK (M.pure (.int 4))))) (argK (toK (op2 dSub1 (nameK j) (toK (M.pure (.int 5))))) (argK (toK (nameE 19)) argK0)))))))
theorem lwM_f (j : Nat) : callM [false, false, false, false, false, false, false] F_law_words [] (argK (toK (op2 dSub1 (nameK j) (toK (M.pure (.int 0))))) (argK (toK (op2 dSub1 (nameK j) (toK (M.pure (.int 1))))) (argK (toK (op2 dSub1 (nameK j) (toK (M.pure (.int 2))))) (argK (toK (op2 dSub1 (nameK j) (toK (M.pure (.int 3))))) (argK (toK (op2 dSub1 (nameK j) (toK (M.pure (.int 4))))) (argK (toK (op2 dSub1 (nameK j) (toK (M.pure (.int 5))))) (argK (toK (nameE 19)) argK0))))))) = lwM j := rfl
theorem argK_ap {m : M D} {r : M (List Tk)} {ρ ρ1 ρ2 : Rho} {d : D} {ts : List Tk} (h : m ρ = .ok d ρ1) (h2 : r ρ1 = .ok ts ρ2) : argK (toK m) r ρ = .ok (.v (fz d) :: ts) ρ2 := by
  rw [argK_eq, bind_ap, toK_eq, bind_ap, h]
  simp only [pure_ap, bind_ap, h2]
theorem lwM_ev {ρ : Rho} {n : Nu} (ok : n.Ok) {j m : Nat} (h : ρ[j]? = some (some (rowT n))) (h19 : ρ[19]? = some (some (.int (m : Int)))) (hm : m < n.end) : ∃ o, lwM j ρ = .ok (.lst o ((wordsP n m).map .str)) ρ := by
  obtain ⟨o, e⟩ := law_words_ev ok hm
  obtain ⟨r0, r1, r2, r3, r4, r5⟩ := at_row n
  refine ⟨o, ?_⟩
  have ha := argK_ap (row_at h r0) (argK_ap (row_at h r1) (argK_ap (row_at h r2) (argK_ap (row_at h r3) (argK_ap (row_at h r4) (argK_ap (row_at h r5) (argK_ap (m := nameE 19) (r := argK0) (ρ := ρ) (ρ1 := ρ) (d := .int m) (by simp [h19]) rfl))))))
  unfold lwM
  rw [callM_eq, bind_ap, ha]
  have e' : F_law_words [.int n.b, .lst false (n.small.map .str), .lst false (n.powers.map .str), .str n.order, .str n.link, .bl n.one, .int m] = .ok (.lst o ((wordsP n m).map .str)) (rowL n ++ [.int m]) := e
  simp [e', rowL]
@[simp] theorem kids_rowT2 (n : Nu) : (∀ x, x ∈ kids (rowT n) → isFz x = true) = True := eq_true (List.all_eq_true.mp (kids_rowT n))
@[simp] theorem rw0 (n : Nu) : dSub1 (rowT n) (.int 0) = some (.int n.b) := rfl
/-! ### six numbers -/
theorem b2_ev {ρ : Rho} {n : Nu} (ok : n.Ok) {k : Int} (hl : ρ.length = 30) (h11 : ρ[11]? = some (some (rowT n))) (h23 : ρ[23]? = some (some (.int k))) : b_law_2 ρ = .ok .nx (ρ.set 23 (some (.int (k * n.b)))) := by
  have h1 := row_at h11 (at_row n).1
  have h2 := op2_ap (g := dMul) (ma := nameK 23) (mb := toK (op2 dSub1 (nameK 11) (toK (M.pure (.int 0))))) (ρ := ρ) (ρ1 := ρ) (ρ2 := ρ) (t := .s 23) (u := .v (.int n.b)) (x := .int k) (y := .int n.b) (by simp [h23]) (by rw [toK_eq, bind_ap, h1]; simp) (by simp [h23]) (by simp) (mul_sm (small_nat ok.b60))
  unfold b_law_2
  rw [setS_eq, bind_ap, h2]
  simp [hl]
theorem b3_ev {ρ : Rho} {n : Nu} (ok : n.Ok) {m p : Nat} {acc : List D} (hl : ρ.length = 30) (h11 : ρ[11]? = some (some (rowT n))) (h15 : ρ[15]? = some (some (.lst true acc))) (h16 : ρ[16]? = some (some (.int (m : Int)))) (h12 : ρ[12]? = some (some (.int (p : Int)))) (ha : acc.all isFz = true) (hc : acc.length ≤ 100) :
    b_law_3 ρ = .ok .nx (((ρ.set 15 (some (.lst true ((if 0 < m % n.b then [dig (m % n.b, p)] else []) ++ acc)))).set 16 (some (.int ((m / n.b : Nat) : Int)))).set 12 (some (.int ((p + 1 : Nat) : Int)))) := by
  have b2 := ok.b2
  have b10 := ok.b10
  have hbi : 0 < n.b := by omega
  have hbj : (n.b : Int) < 1073741824 := by omega
  have cm : ((m : Int) % n.b) = ((m % n.b : Nat) : Int) := by simp
  have hq : acc.length ≤ 16777216 := by omega
  have hq2 : 1 + acc.length ≤ 16777216 := by omega
  have hat := (at_row n).1
  by_cases hr : 0 < m % n.b
  · have hri : (0 : Int) < (m : Int) % n.b := by rw [cm]; omega
    simp [-getElem?_pos, -List.getElem?_eq_getElem, b_law_3, h11, h15, h16, h12, rw0, hbi, hbj, hr, hri, ha, hq2, hl, dig]
  · have h0 : m % n.b = 0 := by omega
    have h0' : (m : Int) % n.b = 0 := by rw [cm, h0]; rfl
    simp [-getElem?_pos, -List.getElem?_eq_getElem, b_law_3, h11, h15, h16, h12, rw0, hbi, hbj, h0, h0', ha, hq, hl, dig]
end K08
end

section
set_option Elab.async false
set_option linter.all false
set_option maxRecDepth 100000
set_option maxHeartbeats 4000000
namespace K08
open PySem PySem.Spec PyProof.Rows L2 DL TL
theorem joinL_len {S : List Nat} : ∀ l : List (List Nat), (joinL S l).length ≤ (l.map (·.length)).sum + l.length * S.length
  | [] => by simp [joinL]
  | [q] => by simp [joinL]
  | q :: r :: l => by
    have h := joinL_len (S := S) (r :: l)
    unfold joinL
    simp only [List.length_append, List.map_cons, List.sum_cons, List.length_cons, Nat.add_mul, Nat.one_mul] at h ⊢
    omega
theorem txt_len {n : Nu} (ok : n.Ok) {m : Nat} (hm : m < n.end) : (txt n m).length + 2 ≤ 2 ^ 24 := by
  obtain ⟨v1, v2⟩ := words_voc ok hm
  have hf := sum_le fun w hw => (ok.wd w (v1 w hw)).2
  have h := joinL_len (S := tl (" " : Str)) ((wordsP n m).map tl)
  rw [← tl_join, ← join_eq, ← len_tl, tl_sp, List.map_map, List.length_map] at h
  have e : ((wordsP n m).map ((fun x => x.length) ∘ tl)).sum = ((wordsP n m).map (·.length)).sum := by
    congr 1
  rw [e] at h
  simp only [List.length_singleton] at h
  unfold txt
  omega
theorem join_ev {n : Nu} (ok : n.Ok) {m : Nat} (hm : m < n.end) (o : Bool) : dJoin (.str " ") [.lst o ((wordsP n m).map .str)] = some (.str (txt n m)) := by
  obtain ⟨v1, v2⟩ := words_voc ok hm
  rw [dJoin_lst, if_pos (join_fits (fun w hw => (ok.wd w (v1 w hw)).2) v2)]
  rfl
theorem number_txt {n : Nu} (ok : n.Ok) (o2 : n.Ok2) {m : Nat} (hm : m < n.end) : F_Numerals_number [n.d, .str (txt n m)] = .ok (.int m) [n.d, .str (txt n m)] := by
  rw [number_ev ok (okS_txt ok hm) (txt_len ok hm), numV_txt ok o2 hm]
theorem okS_words {n : Nu} (ok : n.Ok) {m : Nat} (hm : m < n.end) : ∀ w ∈ wordsP n m, okS w = true := fun w hw => (ok.wd w ((words_voc ok hm).1 w hw)).1
theorem dig_eq (o o' : Bool) (l : List (Nat × Nat)) : dNe (.lst o (l.map dig)) (.lst o' (l.map dig)) = some (.bl false) := by
  have h : ∀ q : Nat × Nat, toP (dig q) = some (pP q) := toP_pD
  have h1 := toPs_map h l
  have h2 : lvP 2 (.list (l.map pP)) = true := by
    unfold lvP
    simp only [List.all_map, List.all_eq_true, Bool.or_eq_true]
    exact .inr fun q _ => rfl
  exact dNe_self (p := .list (l.map pP)) (n := 2) (by simp only [toP, h1]; rfl) (by simp only [toP, h1]; rfl) h2 (by omega)
theorem b4_c {ρ : Rho} {n : Nu} (ok : n.Ok) (o2 : n.Ok2) {m : Nat} {o : Bool} (hm : m < n.end) (h24 : ρ[24]? = some (some n.d)) (h19 : ρ[19]? = some (some (.int (m : Int)))) (h14 : ρ[14]? = some (some (.lst o ((wordsP n m).map .str)))) :
    (ifS (orB (toB (op2 dNe (toK (opN dList (argK (toK (methM 0 "words" [false, false] F_Numerals_words [] (toK (nameE 24)) (argK (toK (nameE 19)) argK0))) argK0))) (nameK 14))) (orB (toB (op2 dNe (toK (methM 0 "text" [false, false] F_Numerals_text [] (toK (nameE 24)) (argK (toK (nameE 19)) argK0))) (toK (opM "str" dJoin (toK (M.pure (.str " "))) (argK (nameK 14) argK0))))) (toB (op2 dNe (toK (methM 0 "number" [false, false] F_Numerals_number [] (toK (nameE 24)) (argK (toK (opM "str" dJoin (toK (M.pure (.str " "))) (argK (nameK 14) argK0))) argK0))) (nameK 19))))) (retS (M.pure (.bl false))) skip) ρ = .ok .nx ρ := by
  have hw := words_ev ok hm
  have ht := text_ev ok hm
  have hn := number_txt ok o2 hm
  have e1 := dNe_strs (o := false) (o' := o) (okS_words ok hm) (okS_words ok hm)
  have e2 := join_ev ok hm o
  have e3 := dNe_str (okS_txt ok hm) (okS_txt ok hm)
  generalize txt n m = T at *
  generalize wordsP n m = ws at *
  simp only [decide_true, Bool.not_true] at e1 e3
  simp [-dJoin_lst, h24, h19, h14, hw, ht, hn, e1, e2, e3, tupS]
theorem b4_w {n : Nu} {ns : List Nu} {p o' : Bool} {x : Dice} (ok : n.Ok) : ∀ (j m k : Nat) (acc : List D) (fu : Nat) (ρ : Rho) (v : Option (Option D)), Inv n ns p o' x ρ → ρ[19]? = v → ρ[15]? = some (some (.lst true acc)) → ρ[16]? = some (some (.int (m : Int))) → ρ[12]? = some (some (.int (k : Int))) → m < 2 ^ j → j < fu → acc.all isFz = true → acc.length + (digs n.b k m).length ≤ 21 →
    ∃ ρ', whileF (toB (op2 dGt (nameK 16) (toK (M.pure (.int 0))))) b_law_3 fu ρ = .ok .nx ρ' ∧ Inv n ns p o' x ρ' ∧ ρ'[19]? = v ∧ ρ'[15]? = some (some (.lst true ((digs n.b k m).map dig ++ acc))) := by
  have b2 := ok.b2
  have done : ∀ (k : Nat) (acc : List D) (fu : Nat) (ρ : Rho) (v : Option (Option D)), Inv n ns p o' x ρ → ρ[19]? = v → ρ[15]? = some (some (.lst true acc)) → ρ[16]? = some (some (.int 0)) → 0 < fu →
      ∃ ρ', whileF (toB (op2 dGt (nameK 16) (toK (M.pure (.int 0))))) b_law_3 fu ρ = .ok .nx ρ' ∧ Inv n ns p o' x ρ' ∧ ρ'[19]? = v ∧ ρ'[15]? = some (some (.lst true ((digs n.b k 0).map dig ++ acc))) := by
    intro k acc fu ρ v I h19 h15 h16 hf
    obtain ⟨fu, rfl⟩ : ∃ k, fu = k + 1 := ⟨fu - 1, by omega⟩
    refine ⟨ρ, whileF_f (by simp [h16]), I, h19, ?_⟩
    rw [digs_zero]
    simpa using h15
  intro j
  induction j with
  | zero =>
    intro m k acc fu ρ v I h19 h15 h16 h12 hm hf ha hl
    have : m = 0 := by simpa using hm
    subst this
    exact done k acc fu ρ v I h19 h15 h16 (by omega)
  | succ j ih =>
    intro m k acc fu ρ v I h19 h15 h16 h12 hm hf ha hl
    by_cases h0 : 0 < m
    · obtain ⟨fu, rfl⟩ : ∃ k, fu = k + 1 := ⟨fu - 1, by omega⟩
      have h2 : m / n.b < 2 ^ j := by
        rw [Nat.div_lt_iff_lt_mul (by omega)]
        rw [Nat.pow_succ] at hm
        exact Nat.lt_of_lt_of_le hm (Nat.mul_le_mul_left _ b2)
      have hct : (toB (op2 dGt (nameK 16) (toK (M.pure (.int 0))))) ρ = .ok true ρ := by simp [h16, h0]
      rw [digs_pos b2 h0] at hl ⊢
      rw [List.length_append] at hl
      have e1 := b3_ev ok I.l I.s11 h15 h16 h12 ha (by omega)
      obtain ⟨ρ1, e1, hE⟩ := ex_of e1
      have I1 : Inv n ns p o' x ρ1 := by rw [hE]; exact ((I.set 15 _ (by simp)).set 16 _ (by simp)).set 12 _ (by simp)
      have l1 := I.l
      obtain ⟨ρ', e2, I2, g19, g15⟩ := ih (m / n.b) (k + 1) ((if 0 < m % n.b then [dig (m % n.b, k)] else []) ++ acc) fu ρ1 v I1 (by rw [hE]; simpa using h19) (by rw [hE]; simp [List.getElem?_set, l1]) (by rw [hE]; simp [List.getElem?_set, l1]) (by rw [hE]; simp [List.getElem?_set, l1]) h2 (by omega)
        (by rw [List.all_append, ha]; split <;> simp [dig]) (by rw [List.length_append]; split <;> split at hl <;> simp_all <;> omega)
      refine ⟨ρ', ?_, I2, g19, ?_⟩
      · rw [whileF_t hct e1]
        exact e2
      · rw [g15]
        split <;> simp
    · have : m = 0 := by omega
      subst this
      exact done k acc fu ρ v I h19 h15 h16 (by omega)
theorem b4_ev {n : Nu} {ns : List Nu} {p o' : Bool} {x : Dice} {ρ : Rho} (ok : n.Ok) (o2 : n.Ok2) (I : Inv n ns p o' x ρ) : ∃ x' ρ', b_law_4 ρ = .ok .nx ρ' ∧ Inv n ns p o' x' ρ' := by
  have b2 := end_pos ok
  have b9 := end_le ok
  have hl := I.l
  obtain ⟨m, x1, hm, eR⟩ := roll_c (ρ := ρ) (ρ1 := ρ) (m := n.end) (mm := toK (nameE 23)) I.s1 (by simp [I.s23]) I.s1 (by omega) (by omega)
  have eA : setS 19 (callM [true, false] F_law_roll [] (argK (nameK 1) (argK (toK (nameE 23)) argK0))) ρ = .ok .nx ((ρ.set 1 (some x1.d)).set 19 (some (.int (m : Int)))) := by
    rw [setS_eq, bind_ap, eR]
    simp [hl]
  obtain ⟨ρA, eA, hA⟩ := ex_of eA
  have IA : Inv n ns p o' x1 ρA := by rw [hA]; exact (I.dice x1).set 19 _ (by simp)
  have a19 : ρA[19]? = some (some (.int (m : Int))) := by rw [hA]; simp [List.getElem?_set, hl]
  obtain ⟨o, eW⟩ := lwM_ev ok IA.s11 a19 hm
  have lA := IA.l
  have eB : setS 14 (lwM 11) ρA = .ok .nx (ρA.set 14 (some (.lst o ((wordsP n m).map .str)))) := by
    rw [setS_eq, bind_ap, eW]
    simp [lA]
  obtain ⟨ρB, eB, hB⟩ := ex_of eB
  have IB : Inv n ns p o' x1 ρB := by rw [hB]; exact IA.set 14 _ (by simp)
  have b19 : ρB[19]? = some (some (.int (m : Int))) := by rw [hB]; simpa using a19
  have b14 : ρB[14]? = some (some (.lst o ((wordsP n m).map .str))) := by rw [hB]; simp [List.getElem?_set, lA]
  have eC := b4_c ok o2 hm IB.s24 b19 b14
  have lB := IB.l
  have eD : (parS [15, 16, 12] (vcons (dispM (.lst true) argK0) (vcons (nameE 19) (vcons (M.pure (.int 0)) (M.pure []))))) ρB = .ok .nx (((ρB.set 15 (some (.lst true []))).set 16 (some (.int (m : Int)))).set 12 (some (.int 0))) := by
    simp [-getElem?_pos, -List.getElem?_eq_getElem, b19, lB]
  obtain ⟨ρD, eD, hD⟩ := ex_of eD
  have ID : Inv n ns p o' x1 ρD := by rw [hD]; exact ((IB.set 15 _ (by simp)).set 16 _ (by simp)).set 12 _ (by simp)
  have hL : (digs n.b 0 m).length ≤ 21 := (digs_ok ok hm).2
  obtain ⟨ρE, eE, IE, e19, e15⟩ := b4_w (ns := ns) (p := p) (o' := o') (x := x1) ok 20 m 0 [] fuel ρD (some (some (.int (m : Int)))) ID (by rw [hD]; simpa using b19) (by rw [hD]; simp [List.getElem?_set, lB]) (by rw [hD]; simp [List.getElem?_set, lB]) (by rw [hD]; simp [List.getElem?_set, lB]) (by omega) (by unfold fuel; omega) rfl (by simpa using hL)
  rw [List.append_nil] at e15
  have hd := digits_ev ok hm
  have eF : (ifS (toB (op2 dNe (toK (methM 0 "digits" [false, false] F_Numerals_digits [] (toK (nameE 24)) (argK (toK (nameE 19)) argK0))) (nameK 15))) (retS (M.pure (.bl false))) skip) ρE = .ok .nx ρE := by
    have h24 := IE.s24
    have hf : fz ∘ dig = dig := by funext q; simp [dig]
    have hq := dig_eq false true (digs n.b 0 m)
    have hfl : ((digs n.b 0 m).map dig).map fz = (digs n.b 0 m).map dig := by rw [List.map_map, hf]
    have hz : ((digs n.b 0 m).map dig).all isFz = true := by simp [dig]
    have hz2 : (∀ x, x ∈ (digs n.b 0 m).map dig → isFz x = true) = True := eq_true (List.all_eq_true.mp hz)
    generalize (digs n.b 0 m).map dig = L at *
    simp [h24, e19, e15, hd, hq, hfl, hz2]
  refine ⟨x1, ρE, ?_, IE⟩
  unfold b_law_4
  simp only [lwM_f]
  rw [seq_nx eA, seq_nx eB, seq_nx eC, seq_nx eD, seq_nx ((whileS_ap _ _ _).trans eE), eF]
end K08
end

section
set_option Elab.async false
set_option linter.all false
set_option maxRecDepth 100000
set_option maxHeartbeats 4000000
namespace K08
open PySem PySem.Spec PyProof.Rows L2 DL TL
structure InvK (n : Nu) (ns : List Nu) (x : Dice) (k : Int) (ρ : Rho) : Prop where
  l : ρ.length = 30
  s1 : ρ[1]? = some (some x.d)
  s25 : ρ[25]? = some (some (.lst true (ns.map Nu.d)))
  s2 : ρ[2]? = some (some (.lst true (ns.map rowT)))
  s24 : ρ[24]? = some (some n.d)
  s11 : ρ[11]? = some (some (rowT n))
  s23 : ρ[23]? = some (some (.int k))
theorem nx_1 {ρ : Rho} {x : Dice} (hl : ρ.length = 30) (h1 : ρ[1]? = some (some x.d)) : ∃ ρ', (parS [25, 2] (vcons (dispM (.lst true) argK0) (vcons (dispM (.lst true) argK0) (M.pure [])))) ρ = .ok .nx ρ' ∧ Inv1 [] x ρ' := by
  refine ⟨(ρ.set 25 (some (.lst true []))).set 2 (some (.lst true [])), by simp [hl], ⟨by simp [hl], by simp [h1], by simp [List.getElem?_set, hl], by simp [List.getElem?_set, hl], fun n hn => by cases hn⟩⟩
theorem nx_2 {ρ : Rho} {x : Dice} (I : Inv1 [] x ρ) : ∃ n ns x' ρ', (forS (itN gRng1 (argK (toK (op2 dAdd (toK (M.pure (.int 1))) (toK (callM [true, false] F_law_roll [] (argK (nameK 1) (argK (toK (M.pure (.int 3))) argK0)))))) argK0)) (gN 3) b_law_1) ρ = .ok .nx ρ' ∧ Inv1 (n :: ns) x' ρ' ∧ ns.length ≤ 2 := by
  obtain ⟨j, x1, hj, eR⟩ := roll_i (ρ := ρ) 3 3 rfl I.s1 (by omega) (by omega)
  have hr := rng_ev (b := 1 + j) (by omega)
  rw [Int.natCast_add] at hr
  have I1 : Inv1 [] x1 (ρ.set 1 (some x1.d)) := ⟨by rw [List.length_set]; exact I.l, by rw [List.getElem?_set_self (by rw [I.l]; omega)], by simpa using I.s25, by simpa using I.s2, I.ok⟩
  obtain ⟨ns, x2, ρ2, e2, I2, hn⟩ := draw_loop ((List.range (1 + j)).map fun i => D.int (0 + (i : Nat))) [] x1 _ I1 (by simp; omega)
  rw [List.length_map, List.length_range, List.length_nil] at hn
  cases ns with
  | nil => simp only [List.length_nil] at hn; omega
  | cons n ns =>
    rw [List.length_cons] at hn
    refine ⟨n, ns, x2, ρ2, ?_, I2, by omega⟩
    rw [forS_ap]
    simp only [rollM_f]
    have hit : itN gRng1 (argK (toK (op2 dAdd (toK (M.pure (.int 1))) (toK (rollM 3)))) argK0) ρ = .ok ((List.range (1 + j)).map fun i => D.int (0 + (i : Nat))) (ρ.set 1 (some x1.d)) := by
      have hr' : gRng1 [.int (1 + (j : Int))] = some ((List.range (1 + j)).map fun i => D.int (0 + (i : Nat))) := hr
      generalize (List.range (1 + j)).map (fun i => D.int (0 + (i : Nat))) = L at *
      simp [eR, hr']
    rw [hit]
    exact e2
theorem nx_3 {ρ : Rho} {x : Dice} {n : Nu} {ns : List Nu} (I : Inv1 (n :: ns) x ρ) : ∃ ρ', (parS [24, 11] (vcons (op2 dSub1 (nameK 25) (toK (M.pure (.int 0)))) (vcons (op2 dSub1 (nameK 2) (toK (M.pure (.int 0)))) (M.pure [])))) ρ = .ok .nx ρ' ∧ Inv1 (n :: ns) x ρ' ∧ ρ'[24]? = some (some n.d) ∧ ρ'[11]? = some (some (rowT n)) := by
  have h25 := I.s25
  have h2 := I.s2
  have hl := I.l
  have d1 : dSub1 (.lst true ((n :: ns).map Nu.d)) (.int 0) = some n.d := by
    rw [dSub1_lst]
    simp [atI, ixN]
  have d2 : dSub1 (.lst true ((n :: ns).map rowT)) (.int 0) = some (rowT n) := by
    rw [dSub1_lst]
    simp [atI, ixN]
  have e1 : op2 dSub1 (nameK 25) (toK (M.pure (.int 0))) ρ = .ok n.d ρ := op2_ap (t := .s 25) (u := .v (.int 0)) (x := .lst true ((n :: ns).map Nu.d)) (y := .int 0) (ρ1 := ρ) (by simp [h25]) (by simp) (by rw [get_s, h25]; simp) (by simp) d1
  have e2 : op2 dSub1 (nameK 2) (toK (M.pure (.int 0))) ρ = .ok (rowT n) ρ := op2_ap (t := .s 2) (u := .v (.int 0)) (x := .lst true ((n :: ns).map rowT)) (y := .int 0) (ρ1 := ρ) (by simp [h2]) (by simp) (by rw [get_s, h2]; simp) (by simp) d2
  refine ⟨(ρ.set 24 (some n.d)).set 11 (some (rowT n)), ?_, ⟨by simp [hl], by simp [I.s1], by simpa using h25, by simpa using h2, I.ok⟩, by simp [List.getElem?_set, hl], by simp [List.getElem?_set, hl]⟩
  rw [parS_eq, bind_ap, vcons_eq, bind_ap, e1]
  simp only
  rw [vcons_eq, bind_ap, bind_ap, e2]
  simp [hl]
theorem nx_4 {ρ : Rho} {x : Dice} {n : Nu} {ns : List Nu} (I : Inv1 ns x ρ) (h24 : ρ[24]? = some (some n.d)) (h11 : ρ[11]? = some (some (rowT n))) : ∃ ρ', (setS 23 (op2 dSub1 (nameK 11) (toK (M.pure (.int 0))))) ρ = .ok .nx ρ' ∧ InvK n ns x n.b ρ' := by
  have hl := I.l
  refine ⟨ρ.set 23 (some (.int n.b)), ?_, ⟨by simp [hl], by simp [I.s1], by simpa using I.s25, by simpa using I.s2, by simpa using h24, by simpa using h11, by simp [List.getElem?_set, hl]⟩⟩
  rw [setS_eq, bind_ap, row_at h11 (at_row n).1]
  simp [hl]
theorem nx_5 {ρ : Rho} {x : Dice} {n : Nu} {ns : List Nu} (ok : n.Ok) (I : InvK n ns x n.b ρ) : ∃ ρ', (forS (iterM (op2 dSub1 (nameK 11) (toK (M.pure (.int 2))))) (gN 12) b_law_2) ρ = .ok .nx ρ' ∧ Inv n ns true true x ρ' := by
  obtain ⟨ρ', e, J⟩ := for_map (g := gN 12) (b := b_law_2) D.str n.powers (fun pre ρ => InvK n ns x ((n.b : Int) ^ (pre.length + 1)) ρ) ρ (by simpa [Int.pow_succ] using I) fun pre a post ρ _ J => by
    have hl := J.l
    have J1 : InvK n ns x ((n.b : Int) ^ (pre.length + 1)) (ρ.set 12 (some (.str a))) := ⟨by simp [hl], by simpa using J.s1, by simpa using J.s25, by simpa using J.s2, by simpa using J.s24, by simpa using J.s11, by simpa using J.s23⟩
    have e1 := b2_ev ok J1.l J1.s11 J1.s23
    refine ⟨_, _, by rw [gN_ap, if_pos (by omega)], .inl e1, ?_⟩
    rw [List.length_append, List.length_singleton, Int.pow_succ (n.b : Int) (pre.length + 1)]
    exact ⟨by simp [hl], by simpa using J1.s1, by simpa using J1.s25, by simpa using J1.s2, by simpa using J1.s24, by simpa using J1.s11, by simp [List.getElem?_set, hl]⟩
  refine ⟨ρ', ?_, ⟨J.l, J.s1, J.s25, J.s2, J.s24, J.s11, by rw [J.s23]; simp [Nu.end]⟩⟩
  rw [forS_ap, iterM_eq, bind_ap, row_at I.s11 (at_row n).2.2.1]
  simp
  exact e
theorem nx_6 {ρ : Rho} {x : Dice} {n : Nu} {ns : List Nu} {o o' : Bool} (ok : n.Ok) (I : Inv n ns o o' x ρ) : (ifS (toB (op2 dNe (toK (methM 0 "end" [false] F_Numerals_end [] (toK (nameE 24)) argK0)) (nameK 23))) (retS (M.pure (.bl false))) skip) ρ = .ok .nx ρ := by
  have he := end_ev ok
  simp [I.s24, I.s23, he]
theorem nx_7 {ρ : Rho} {x : Dice} {n : Nu} {ns : List Nu} {o o' : Bool} (ok : n.Ok) (o2 : n.Ok2) (I : Inv n ns o o' x ρ) : ∃ x' ρ', (forS (itN gRng1 (argK (toK (M.pure (.int 6))) argK0)) (gN 13) b_law_4) ρ = .ok .nx ρ' ∧ Inv n ns o o' x' ρ' := by
  have hr : gRng1 [.int 6] = some ((List.range 6).map fun i => D.int (0 + (i : Nat))) := rng_ev (b := 6) (by omega)
  obtain ⟨ρ', e, x', J⟩ := for_map (g := gN 13) (b := b_law_4) (fun i : Nat => D.int (0 + (i : Nat))) (List.range 6) (fun pre ρ => ∃ x, Inv n ns o o' x ρ) ρ ⟨x, I⟩ fun pre a post ρ _ ⟨x, J⟩ => by
    obtain ⟨x', ρ', e1, J1⟩ := b4_ev ok o2 (J.set 13 (some (.int (0 + (a : Nat)))) (by simp))
    exact ⟨_, ρ', by rw [gN_ap, if_pos (by rw [J.l]; omega)], .inl e1, x', J1⟩
  refine ⟨x', ρ', ?_, J⟩
  rw [forS_ap]
  have hit : itN gRng1 (argK (toK (M.pure (.int 6))) argK0) ρ = .ok ((List.range 6).map fun i => D.int (0 + (i : Nat))) ρ := by
    generalize (List.range 6).map (fun i => D.int (0 + (i : Nat))) = L at *
    simp [hr]
  rw [hit]
  exact e
end K08
end

section
set_option Elab.async false
set_option linter.all false
set_option maxRecDepth 100000
set_option maxHeartbeats 4000000
namespace K08
open PySem PySem.Spec PyProof.Rows L2 DL TL
def pool (n : Nu) : List Str := n.small.take 3 ++ n.powers ++ [n.link, "zz"]
theorem pool_ok {n : Nu} (ok : n.Ok) : (∀ w ∈ pool n, okS w = true ∧ w.length ≤ 50) ∧ 2 ≤ (pool n).length ∧ (pool n).length ≤ 8 := by
  refine ⟨fun w hw => ?_, ?_, ?_⟩
  · unfold pool at hw
    simp only [List.mem_append, List.mem_cons, List.not_mem_nil, or_false] at hw
    rcases hw with (hw | hw) | hw | hw
    · exact ok.wd w (List.mem_cons_of_mem _ (List.mem_append_left _ (List.mem_of_mem_take hw)))
    · exact ok.wd w (List.mem_cons_of_mem _ (List.mem_append_right _ hw))
    · subst hw; exact ok.wd _ List.mem_cons_self
    · subst hw; exact ⟨by decide +kernel, by decide +kernel⟩
  · unfold pool; simp; omega
  · unfold pool
    have := ok.pw3
    simp only [List.length_append, List.length_take, List.length_cons, List.length_nil]
    omega
theorem nx_8 {ρ : Rho} {n : Nu} (ok : n.Ok) (hl : ρ.length = 30) (h11 : ρ[11]? = some (some (rowT n))) : (setS 17 (op2 dAdd (toK (op2 dAdd (toK (sliceM (toK (op2 dSub1 (nameK 11) (toK (M.pure (.int 1))))) (M.pure none) (partM (toK (M.pure (.int 3)))))) (toK (op2 dSub1 (nameK 11) (toK (M.pure (.int 2))))))) (toK (dispM (.lst true) (argK (toK (op2 dSub1 (nameK 11) (toK (M.pure (.int 4))))) (argK (toK (M.pure (.str "zz"))) argK0)))))) ρ = .ok .nx (ρ.set 17 (some (.lst true ((pool n).map .str)))) := by
  obtain ⟨r0, r1, r2, r3, r4, r5⟩ := at_row n
  have e1 : dSub1 (rowT n) (.int 1) = some (.lst false (n.small.map .str)) := r1
  have e2 : dSub1 (rowT n) (.int 2) = some (.lst false (n.powers.map .str)) := r2
  have e4 : dSub1 (rowT n) (.int 4) = some (.str n.link) := r4
  have hc : DL.cutD (n.small.map D.str) none (some 3) = (n.small.take 3).map D.str := by
    have := cut_to (n.small.map D.str) 3
    rw [List.map_take]
    exact this
  have hs : (n.small.take 3).length ≤ 3 := by rw [List.length_take]; omega
  have hp := ok.pw3
  have q1 : (n.small.take 3).length + n.powers.length ≤ 16777216 := by omega
  have q2 : (n.small.take 3).length + n.powers.length + 2 ≤ 16777216 := by omega
  have q3 : (n.small.take 3).length + (n.powers.length + 2) ≤ 16777216 := by omega
  unfold pool
  generalize n.small.take 3 = L at *
  simp [-getElem?_pos, -List.getElem?_eq_getElem, h11, e1, e2, e4, dSlice, hc, hl, q1, q2, q3]
theorem wild_el {ρ : Rho} {x : Dice} {ws : List Str} (h1 : ρ[1]? = some (some x.d)) (h17 : ρ[17]? = some (some (.lst true (ws.map .str)))) (w0 : 0 < ws.length) (w1 : ws.length ≤ 100) :
    ∃ (w : Str) (x' : Dice), w ∈ ws ∧ (op2 dSub1 (nameK 17) (toK (callM [true, false] F_law_roll [] (argK (nameK 1) (argK (toK (opN dLen (argK (nameK 17) argK0))) argK0))))) ρ = .ok (.str w) (ρ.set 1 (some x'.d)) := by
  obtain ⟨k, x', hk, e⟩ := roll_c (ρ := ρ) (ρ1 := ρ) (x := x) (m := ws.length) (mm := toK (opN dLen (argK (nameK 17) argK0))) h1 (by simp [h17]) h1 w0 (by omega)
  refine ⟨ws.getD k "", x', getD_mem hk, ?_⟩
  have hg : (ρ.set 1 (some x'.d))[17]? = some (some (.lst true (ws.map .str))) := by rw [List.getElem?_set_ne (by omega)]; exact h17
  exact op2_ap (t := .s 17) (u := .v (.int k)) (x := .lst true (ws.map .str)) (y := .int k) (ρ1 := ρ) (by simp [h17]) (by rw [toK_eq, bind_ap, e]; simp) (by rw [get_s, hg]; simp) (by simp) (atI_strs hk)
theorem wild_loop {n : Nu} {ns : List Nu} {o o' : Bool} {ws : List Str} (w0 : 0 < ws.length) (w1 : ws.length ≤ 100) : ∀ (is : List D) (acc : List Str) (x : Dice) (ρ : Rho), Inv n ns o o' x ρ → ρ[17]? = some (some (.lst true (ws.map .str))) → acc.length + is.length ≤ 100 →
    ∃ (vs : List Str) (x' : Dice) (ρ' : Rho), compF [3] (gN 3) (M.pure true) (op2 dSub1 (nameK 17) (toK (callM [true, false] F_law_roll [] (argK (nameK 1) (argK (toK (opN dLen (argK (nameK 17) argK0))) argK0))))) is (acc.map .str) ρ = .ok ((acc ++ vs).map .str) ρ' ∧ (∀ v ∈ vs, v ∈ ws) ∧ vs.length = is.length ∧ Inv n ns o o' x' ρ' ∧ ρ'[17]? = some (some (.lst true (ws.map .str)))
  | [], acc, x, ρ, I, h17, _ => ⟨[], x, ρ, by rw [compF_nil, List.append_nil], (by intro v hv; cases hv), rfl, I, h17⟩
  | i :: is, acc, x, ρ, I, h17, hl => by
    rw [List.length_cons] at hl
    have I1 := I.set 3 (some i) (by simp)
    have g17 : (ρ.set 3 (some i))[17]? = some (some (.lst true (ws.map .str))) := by rw [List.getElem?_set_ne (by omega)]; exact h17
    obtain ⟨w, x1, hw, e1⟩ := wild_el I1.s1 g17 w0 w1
    have I2 := (I1.dice x1).set 3 none (by simp)
    obtain ⟨vs, x', ρ', e2, h2, h3, I3, h4⟩ := wild_loop w0 w1 is (acc ++ [w]) x1 _ I2 (by rw [List.getElem?_set_ne (by omega), List.getElem?_set_ne (by omega)]; exact g17) (by rw [List.length_append, List.length_singleton]; omega)
    refine ⟨w :: vs, x', ρ', ?_, fun v hv => ?_, by rw [List.length_cons, List.length_cons, h3], I3, h4⟩
    · rw [compF_step (g := gN 3) (t := M.pure true) (d := i) (ρ := ρ) (ρ1 := ρ.set 3 (some i)) (by rw [gN_ap, if_pos (by rw [I.l]; omega)]) rfl e1 (by rw [List.length_map]; omega)]
      rw [List.map_append, List.append_assoc] at e2
      rw [← List.append_assoc, ← List.map_singleton, ← List.map_append] at e2
      rw [show acc.map D.str ++ [D.str w] = (acc ++ [w]).map D.str by simp]
      rw [show acc ++ w :: vs = acc ++ [w] ++ vs by simp]
      simpa [wipeR] using e2
    · rcases List.mem_cons.mp hv with rfl | hv
      · exact hw
      · exact h2 v hv
theorem nx_9 {n : Nu} {ns : List Nu} {o o' : Bool} {x : Dice} {ρ : Rho} {ws : List Str} (w0 : 0 < ws.length) (w1 : ws.length ≤ 100) (hw : ∀ w ∈ ws, okS w = true ∧ w.length ≤ 50) (I : Inv n ns o o' x ρ) (h17 : ρ[17]? = some (some (.lst true (ws.map .str)))) :
    ∃ (wild : Str) (x' : Dice) (ρ' : Rho), (setS 27 (opM "str" dJoin (toK (M.pure (.str " "))) (argK (toK (compE [3] (itN gRng1 (argK (toK (op2 dAdd (toK (M.pure (.int 1))) (toK (callM [true, false] F_law_roll [] (argK (nameK 1) (argK (toK (M.pure (.int 4))) argK0)))))) argK0)) (gN 3) (M.pure true) (op2 dSub1 (nameK 17) (toK (callM [true, false] F_law_roll [] (argK (nameK 1) (argK (toK (opN dLen (argK (nameK 17) argK0))) argK0))))))) argK0))) ρ = .ok .nx ρ' ∧ okS wild = true ∧ wild.length ≤ 1000 ∧ Inv n ns o o' x' ρ' ∧ ρ'[27]? = some (some (.str wild)) := by
  obtain ⟨j, x1, hj, eR⟩ := roll_i (ρ := ρ) 4 4 rfl I.s1 (by omega) (by omega)
  have hr : gRng1 [.int (1 + (j : Int))] = some ((List.range (1 + j)).map fun i => D.int (0 + (i : Nat))) := by
    have := rng_ev (b := 1 + j) (by omega)
    rw [Int.natCast_add] at this
    exact this
  have I1 := I.dice x1
  have hit : itN gRng1 (argK (toK (op2 dAdd (toK (M.pure (.int 1))) (toK (rollM 4)))) argK0) ρ = .ok ((List.range (1 + j)).map fun i => D.int (0 + (i : Nat))) (ρ.set 1 (some x1.d)) := by
    generalize (List.range (1 + j)).map (fun i => D.int (0 + (i : Nat))) = L at *
    simp [eR, hr]
  have I2 := I1.set 3 none (by simp)
  obtain ⟨vs, x2, ρ2, e2, h2, h3, I3, h4⟩ := wild_loop w0 w1 ((List.range (1 + j)).map fun i => D.int (0 + (i : Nat))) [] x1 _ I2 (by rw [List.getElem?_set_ne (by omega), List.getElem?_set_ne (by omega)]; exact h17) (by simp; omega)
  rw [List.length_map, List.length_range] at h3
  rw [List.nil_append] at e2
  have e3 := compE_ok (own := [3]) (it := itN gRng1 (argK (toK (op2 dAdd (toK (M.pure (.int 1))) (toK (rollM 4)))) argK0)) (g := gN 3) (t := M.pure true) hit e2
  have I4 := I3.set 3 ((ρ.set 1 (some x1.d))[3]?.join) (by simp)
  have hf := join_fits (l := vs) (fun w hv => (hw w (h2 w hv)).2) (by omega)
  have hj : dJoin (.str " ") [.lst false (vs.map .str)] = some (.str (Txt.join " " vs)) := by rw [dJoin_lst, if_pos hf]
  have hl := I4.l
  refine ⟨Txt.join " " vs, x2, ((ρ2.set 3 ((ρ.set 1 (some x1.d))[3]?.join)).set 27 (some (.str (Txt.join " " vs)))), ?_, okS_join okS_sp fun w hv => (hw w (h2 w hv)).1, ?_, I4.set 27 _ (by simp), by rw [List.getElem?_set_self (by rw [hl]; omega)]⟩
  · simp only [rollM_f]
    have e5 : ∀ ρ, (opM "str" dJoin (toK (M.pure (.str " "))) (argK (toK (compE [3] (itN gRng1 (argK (toK (op2 dAdd (toK (M.pure (.int 1))) (toK (rollM 4)))) argK0)) (gN 3) (M.pure true) (op2 dSub1 (nameK 17) (toK (callM [true, false] F_law_roll [] (argK (nameK 1) (argK (toK (opN dLen (argK (nameK 17) argK0))) argK0))))))) argK0)) ρ = .bad ∨ True := fun _ => .inr trivial
    generalize hC : compE [3] (itN gRng1 (argK (toK (op2 dAdd (toK (M.pure (.int 1))) (toK (rollM 4)))) argK0)) (gN 3) (M.pure true) (op2 dSub1 (nameK 17) (toK (callM [true, false] F_law_roll [] (argK (nameK 1) (argK (toK (opN dLen (argK (nameK 17) argK0))) argK0))))) = C at *
    have e6 : C ρ = .ok (.lst true (vs.map .str)) (ρ2.set 3 ((ρ.set 1 (some x1.d))[3]?.join)) := e3
    generalize ρ2.set 3 ((ρ.set 1 (some x1.d))[3]?.join) = ρ3 at *
    simp [-dJoin_lst, e6, hj, hl]
  · have h := joinL_len (S := tl (" " : Str)) (vs.map tl)
    rw [← tl_join, ← join_eq, ← len_tl, tl_sp, List.map_map, List.length_map] at h
    have e : (vs.map ((fun x => x.length) ∘ tl)).sum = (vs.map (·.length)).sum := by congr 1
    rw [e] at h
    have := sum_le (l := vs) fun w hv => (hw w (h2 w hv)).2
    simp only [List.length_singleton] at h
    omega
end K08
end

section
set_option Elab.async false
set_option linter.all false
set_option maxRecDepth 100000
set_option maxHeartbeats 4000000
namespace K08
open PySem PySem.Spec PyProof.Rows L2 DL TL
def q1 : M Fl := (parS [25, 2] (vcons (dispM (.lst true) argK0) (vcons (dispM (.lst true) argK0) (M.pure []))))
def q2 : M Fl := (forS (itN gRng1 (argK (toK (op2 dAdd (toK (M.pure (.int 1))) (toK (callM [true, false] F_law_roll [] (argK (nameK 1) (argK (toK (M.pure (.int 3))) argK0)))))) argK0)) (gN 3) b_law_1)
def q3 : M Fl := (parS [24, 11] (vcons (op2 dSub1 (nameK 25) (toK (M.pure (.int 0)))) (vcons (op2 dSub1 (nameK 2) (toK (M.pure (.int 0)))) (M.pure []))))
def q4 : M Fl := (setS 23 (op2 dSub1 (nameK 11) (toK (M.pure (.int 0)))))
def q5 : M Fl := (forS (iterM (op2 dSub1 (nameK 11) (toK (M.pure (.int 2))))) (gN 12) b_law_2)
def q6 : M Fl := (ifS (toB (op2 dNe (toK (methM 0 "end" [false] F_Numerals_end [] (toK (nameE 24)) argK0)) (nameK 23))) (retS (M.pure (.bl false))) skip)
def q7 : M Fl := (forS (itN gRng1 (argK (toK (M.pure (.int 6))) argK0)) (gN 13) b_law_4)
def q8 : M Fl := (setS 17 (op2 dAdd (toK (op2 dAdd (toK (sliceM (toK (op2 dSub1 (nameK 11) (toK (M.pure (.int 1))))) (M.pure none) (partM (toK (M.pure (.int 3)))))) (toK (op2 dSub1 (nameK 11) (toK (M.pure (.int 2))))))) (toK (dispM (.lst true) (argK (toK (op2 dSub1 (nameK 11) (toK (M.pure (.int 4))))) (argK (toK (M.pure (.str "zz"))) argK0))))))
def q9 : M Fl := (setS 27 (opM "str" dJoin (toK (M.pure (.str " "))) (argK (toK (compE [3] (itN gRng1 (argK (toK (op2 dAdd (toK (M.pure (.int 1))) (toK (callM [true, false] F_law_roll [] (argK (nameK 1) (argK (toK (M.pure (.int 4))) argK0)))))) argK0)) (gN 3) (M.pure true) (op2 dSub1 (nameK 17) (toK (callM [true, false] F_law_roll [] (argK (nameK 1) (argK (toK (opN dLen (argK (nameK 17) argK0))) argK0))))))) argK0)))
def q10 : M Fl := (setS 18 (toldM "WordError" lb_law (M.pure (.fn 0))))
def q11 : M Fl := (setS 20 (ifV (toB (op2 dLe (nameK 23) (toK (M.pure (.int 2000))))) (compE [19] (itN gRng1 (argK (toK (opN dMin2 (argK (nameK 23) (argK (toK (M.pure (.int 2000))) argK0)))) argK0)) (gN 19) (toB (op2 dEq (toK (opM "str" dJoin (toK (M.pure (.str " "))) (argK (toK (callM [false, false, false, false, false, false, false] F_law_words [] (argK (toK (op2 dSub1 (nameK 11) (toK (M.pure (.int 0))))) (argK (toK (op2 dSub1 (nameK 11) (toK (M.pure (.int 1))))) (argK (toK (op2 dSub1 (nameK 11) (toK (M.pure (.int 2))))) (argK (toK (op2 dSub1 (nameK 11) (toK (M.pure (.int 3))))) (argK (toK (op2 dSub1 (nameK 11) (toK (M.pure (.int 4))))) (argK (toK (op2 dSub1 (nameK 11) (toK (M.pure (.int 5))))) (argK (toK (nameE 19)) argK0))))))))) argK0))) (nameK 27))) (nameE 19)) (M.pure .non)))
def q12 : M Fl := (ifS (orB (andB (toB (op2 dIsntN (nameK 20) (toK (M.pure .non)))) (toB (op2 dNe (nameK 18) (toK (op2 dSub1 (toK (op2 dAdd (nameK 20) (toK (dispM (.lst true) (argK (toK (M.pure (.str "WordError"))) argK0))))) (toK (M.pure (.int 0)))))))) (andB (toB (op2 dNe (nameK 18) (toK (M.pure (.str "WordError"))))) (toB (op2 dNe (toK (methM 0 "text" [false, false] F_Numerals_text [] (toK (nameE 24)) (argK (toK (nameE 18)) argK0))) (nameK 27))))) (retS (M.pure (.bl false))) skip)
def q13 : M Fl := (setS 19 (callM [true, false] F_law_roll [] (argK (nameK 1) (argK (toK (M.pure (.int 200))) argK0))))
def q14 : M Fl := (setS 21 (compE [3, 10] (itF gEnum (argK (toK (nameE 2)) argK0)) (gT (gsC (gN 3) (gsC (gN 10) gs0))) (toB (op2 dLt (nameK 19) (toK (methM 0 "end" [false] F_Numerals_end [] (toK (op2 dSub1 (nameK 25) (nameK 3))) argK0)))) (dispM .tup (argK (toK (opN dLen (argK (toK (callM [false, false, false, false, false, false, false] F_law_words [] (argK (toK (op2 dSub1 (nameK 10) (toK (M.pure (.int 0))))) (argK (toK (op2 dSub1 (nameK 10) (toK (M.pure (.int 1))))) (argK (toK (op2 dSub1 (nameK 10) (toK (M.pure (.int 2))))) (argK (toK (op2 dSub1 (nameK 10) (toK (M.pure (.int 3))))) (argK (toK (op2 dSub1 (nameK 10) (toK (M.pure (.int 4))))) (argK (toK (op2 dSub1 (nameK 10) (toK (M.pure (.int 5))))) (argK (toK (nameE 19)) argK0))))))))) argK0))) (argK (toK (nameE 3)) argK0)))))
def q15 : M Fl := (ifS (toB (op2 dNe (toK (toldM "WordError" lb_law (M.pure (.fn 1)))) (toK (ifV (toB (op2 dNe (nameK 21) (toK (dispM (.lst true) argK0)))) (op2 dSub1 (toK (opN dMin1 (argK (nameK 21) argK0))) (toK (M.pure (.int 1)))) (M.pure (.str "WordError")))))) (retS (M.pure (.bl false))) skip)
def q16 : M Fl := (ifS (orB (toB (op2 dNe (toK (dispM (.lst true) (argK (toK (toldM "WordError" lb_law (M.pure (.fn 2)))) (argK (toK (toldM "WordError" lb_law (M.pure (.fn 3)))) (argK (toK (toldM "WordError" lb_law (M.pure (.fn 4)))) argK0))))) (toK (op2 dMul (toK (dispM (.lst true) (argK (toK (M.pure (.str "WordError"))) argK0))) (toK (M.pure (.int 3))))))) (toB (op2 dNe (toK (callM [false, false, false] F_counted [] (argK (toK (nameE 24)) (argK (toK (M.pure (.int 0))) (argK (toK (M.pure (.int 2))) argK0))))) (toK (dispM .tup (argK (toK (methM 0 "text" [false, false] F_Numerals_text [] (toK (nameE 24)) (argK (toK (M.pure (.int 0))) argK0))) (argK (toK (methM 0 "text" [false, false] F_Numerals_text [] (toK (nameE 24)) (argK (toK (M.pure (.int 1))) argK0))) argK0))))))) (retS (M.pure (.bl false))) skip)
theorem b5_is : b_law_5 = (seq q1 (seq q2 (seq q3 (seq q4 (seq q5 (seq q6 (seq q7 (seq q8 (seq q9 (seq q10 (seq q11 (seq q12 (seq q13 (seq q14 (seq q15 q16))))))))))))))) := rfl

end K08
end

section
set_option Elab.async false
set_option linter.all false
set_option maxRecDepth 100000
set_option maxHeartbeats 4000000
namespace K08
open PySem PySem.Spec PyProof.Rows L2 DL TL
def readD (n : Nu) (w : Str) : D := match numV n w with
  | some v => .int v
  | none => .str "WordError"
def goodD (n : Nu) (w : Str) : List D := match numV n w with
  | some v => [.int v]
  | none => []
theorem told_ok {r : Str} {m : M D} {ρ ρ1 : Rho} {d : D} (h : m ρ = .ok d ρ1) : told r m ρ = .ok d ρ1 := by unfold told; rw [h]
theorem told_exc {r : Str} {m : M D} {ρ ρ1 : Rho} {c : Nat} (h : m ρ = .exc c ρ1) : told r m ρ = .ok (.str r) ρ1 := by unfold told; rw [h]
theorem toldM_at {r : Str} {lb : Nat → Option (M D)} {i : Nat} {m : M D} (h : lb i = some m) : toldM r lb (M.pure (.fn i)) = told r m := by
  unfold toldM
  funext ρ
  rw [bind_ap]
  simp only [pure_ap, h]
theorem q10_ev {n : Nu} {ρ : Rho} {w : Str} (ok : n.Ok) (hl : ρ.length = 30) (h24 : ρ[24]? = some (some n.d)) (h27 : ρ[27]? = some (some (.str w))) (hw : okS w = true) (wl : w.length ≤ 1000) : q10 ρ = .ok .nx (ρ.set 18 (some (readD n w))) := by
  have hn := number_ev ok hw (by omega)
  unfold q10
  rw [setS_eq, bind_ap, toldM_at (i := 0) (m := methM 0 "number" [false, false] F_Numerals_number [] (toK (nameE 24)) (argK (toK (nameE 27)) argK0)) rfl]
  unfold readD
  cases hv : numV n w with
  | some v =>
    rw [hv] at hn
    rw [told_ok (ρ1 := ρ) (d := .int v) (by simp [h24, h27, hn])]
    simp [hl]
  | none =>
    rw [hv] at hn
    rw [told_exc (ρ1 := ρ) (c := 1) (by simp [h24, h27, hn])]
    simp [hl]
theorem filt_one (v : Nat) : ∀ e : Nat, (List.range e).filter (fun i => decide (i = v)) = if v < e then [v] else []
  | 0 => by simp
  | e + 1 => by
    rw [List.range_succ, List.filter_append, filt_one v e]
    by_cases h : v < e
    · rw [if_pos h, if_pos (by omega)]
      have : ¬ e = v := by omega
      simp [this]
    · rw [if_neg h]
      by_cases h2 : e = v
      · subst h2
        simp
      · rw [if_neg (by omega)]
        simp [h2]
theorem good_is {n : Nu} {w : Str} (ok : n.Ok) (o2 : n.Ok2) : ((List.range n.end).filter (fun i => decide (txt n i = w))).map (fun i => D.int (0 + (i : Nat))) = goodD n w := by
  unfold goodD
  cases hv : numV n w with
  | some v =>
    obtain ⟨h1, h2⟩ := numV_some hv
    have : (List.range n.end).filter (fun i => decide (txt n i = w)) = (List.range n.end).filter (fun i => decide (i = v)) := by
      refine List.filter_congr fun i hi => ?_
      congr 1
      simp only [eq_iff_iff]
      refine ⟨fun e => ?_, fun e => by rw [e]; exact h2⟩
      have := numV_txt ok o2 (List.mem_range.mp hi)
      rw [e, hv] at this
      exact (Option.some.inj this).symm
    rw [this, filt_one, if_pos h1]
    simp
  | none =>
    have : (List.range n.end).filter (fun i => decide (txt n i = w)) = [] := by
      refine List.filter_eq_nil_iff.mpr fun i hi e => ?_
      have h := numV_txt ok o2 (List.mem_range.mp hi)
      rw [of_decide_eq_true e, hv] at h
      cases h
    rw [this]
    rfl
theorem q11_ev {n : Nu} {ns : List Nu} {o o' : Bool} {x : Dice} {ρ : Rho} {w : Str} (ok : n.Ok) (o2 : n.Ok2) (I : Inv n ns o o' x ρ) (h27 : ρ[27]? = some (some (.str w))) (hw : okS w = true) : ∃ gd, q11 ρ = .ok .nx (ρ.set 20 (some gd)) ∧ (gd = .non ∨ gd = .lst true (goodD n w)) := by
  have hl := I.l
  have he := end_le ok
  unfold q11
  simp only [lwM_f]
  by_cases h : n.end ≤ 2000
  · refine ⟨.lst true (goodD n w), ?_, .inr rfl⟩
    have hr := rng_ev (b := n.end) (by omega)
    have hc : (toB (op2 dLe (nameK 23) (toK (M.pure (.int 2000))))) ρ = .ok true ρ := by
      have : (n.end : Int) ≤ 2000 := by omega
      simp [I.s23, this]
    have hmin : dMin2 [.int n.end, .int 2000] = some (.int n.end) := by
      have : ¬ (2000 : Int) < n.end := by omega
      simp only [dMin2, if_neg this]
    have hit : itN gRng1 (argK (toK (opN dMin2 (argK (nameK 23) (argK (toK (M.pure (.int 2000))) argK0)))) argK0) ρ = .ok ((List.range n.end).map fun i => D.int (0 + (i : Nat))) ρ := by
      generalize (List.range n.end).map (fun i => D.int (0 + (i : Nat))) = L at *
      simp [I.s23, hmin, hr]
    have hcomp : compE [19] (itN gRng1 (argK (toK (opN dMin2 (argK (nameK 23) (argK (toK (M.pure (.int 2000))) argK0)))) argK0)) (gN 19) (toB (op2 dEq (toK (opM "str" dJoin (toK (M.pure (.str " "))) (argK (toK (lwM 11)) argK0))) (nameK 27))) (nameE 19) ρ = .ok (.lst true (goodD n w)) ρ := by
      rw [comp_flt (v := 19) (b := n.end) (ρ := ρ) (f := fun i => .int (0 + (i : Nat))) (p := fun i => decide (txt n i = w)) (by omega) (by omega) hit (fun i hi => ?_) (fun i hi _ => ?_), good_is ok o2]
      · have h19 : (ρ.set 19 (some (.int (0 + (i : Nat)))))[19]? = some (some (.int (i : Int))) := by rw [List.getElem?_set_self (by omega), Int.zero_add]
        have h11 : (ρ.set 19 (some (.int (0 + (i : Nat)))))[11]? = some (some (rowT n)) := by rw [List.getElem?_set_ne (by omega)]; exact I.s11
        have g27 : (ρ.set 19 (some (.int (0 + (i : Nat)))))[27]? = some (some (.str w)) := by rw [List.getElem?_set_ne (by omega)]; exact h27
        obtain ⟨b, e⟩ := lwM_ev ok h11 h19 hi
        have hj := join_ev ok hi false
        have hd := dEq_str (okS_txt ok hi) hw
        generalize ρ.set 19 (some (.int (0 + (i : Nat)))) = ρ2 at *
        simp [-dJoin_lst, e, hj, g27, hd]
      · simp [hl]
    rw [setS_eq, bind_ap, ifV_eq, bind_ap, hc]
    simp only [if_true]
    rw [hcomp]
    simp [hl]
  · refine ⟨.non, ?_, .inl rfl⟩
    have hc : (toB (op2 dLe (nameK 23) (toK (M.pure (.int 2000))))) ρ = .ok false ρ := by
      have : ¬ (n.end : Int) ≤ 2000 := by omega
      simp [I.s23, this]
    rw [setS_eq, bind_ap, ifV_eq, bind_ap, hc]
    simp [hl]
theorem okS_we : okS "WordError" = true := by decide +kernel
theorem dNe_is {i : Int} {s : Str} (h : okS s = true) : dNe (.int i) (.str s) = some (.bl true) := by
  rw [dNe_data rfl rfl (shaped_int _) (shaped_str h)]
  rfl
theorem q12_ev {n : Nu} {ns : List Nu} {o o' : Bool} {x : Dice} {ρ : Rho} {w : Str} {gd : D} (ok : n.Ok) (I : Inv n ns o o' x ρ) (h27 : ρ[27]? = some (some (.str w))) (hw : okS w = true) (h18 : ρ[18]? = some (some (readD n w))) (h20 : ρ[20]? = some (some gd)) (hg : gd = .non ∨ gd = .lst true (goodD n w)) : q12 ρ = .ok .nx ρ := by
  have h24 := I.s24
  have hwe := dNe_str okS_we okS_we
  simp only [decide_true, Bool.not_true] at hwe
  unfold readD at h18
  unfold goodD at hg
  cases hv : numV n w with
  | some v =>
    obtain ⟨h1, h2⟩ := numV_some hv
    rw [hv] at h18 hg
    simp only at h18 hg
    have ht := text_ev ok h1
    rw [h2] at ht
    have hd := dNe_str hw hw
    simp only [decide_true, Bool.not_true] at hd
    have hi := dNe_is (i := v) okS_we
    rcases hg with rfl | rfl
    · simp [q12, h18, h20, h24, h27, ht, hd, hi]
    · simp [q12, h18, h20, h24, h27, ht, hd, hi, atI, ixN]
  | none =>
    rw [hv] at h18 hg
    simp only at h18 hg
    rcases hg with rfl | rfl
    · simp [q12, h18, h20, hwe]
    · simp [q12, h18, h20, hwe, atI, ixN]
end K08
end

section
set_option Elab.async false
set_option linter.all false
set_option maxRecDepth 100000
set_option maxHeartbeats 4000000
namespace K08
open PySem PySem.Spec PyProof.Rows L2 DL TL
theorem q13_ev {n : Nu} {ns : List Nu} {o o' : Bool} {x : Dice} {ρ : Rho} (I : Inv n ns o o' x ρ) : ∃ (k : Nat) (x' : Dice) (ρ' : Rho), q13 ρ = .ok .nx ρ' ∧ Inv n ns o o' x' ρ' ∧ ρ'[19]? = some (some (.int (k : Int))) := by
  obtain ⟨k, x1, hk, eR⟩ := roll_i (ρ := ρ) 200 200 rfl I.s1 (by omega) (by omega)
  have hl := I.l
  refine ⟨k, x1, (ρ.set 1 (some x1.d)).set 19 (some (.int k)), ?_, (I.dice x1).set 19 _ (by simp), by simp [List.getElem?_set, hl]⟩
  unfold q13
  simp only [rollM_f]
  rw [setS_eq, bind_ap, eR]
  simp [hl]
def enumR : Nat → List Nu → List D
  | _, [] => []
  | i, n :: ns => .tup [.int i, rowT n] :: enumR (i + 1) ns
theorem enumR_is : ∀ (ns : List Nu) (i : Nat), List.zipWith (fun a b => D.tup [a, b]) ((List.range' i ns.length).map fun j => .int (j : Nat)) (ns.map rowT) = enumR i ns
  | [], i => rfl
  | n :: ns, i => by
    simp only [List.length_cons, List.range'_succ, List.map_cons, List.zipWith_cons_cons, enumR_is ns (i + 1), enumR]
theorem gEnum_rows (o : Bool) (ns : List Nu) : gEnum [.lst o (ns.map rowT)] = some (enumR 0 ns) := by
  simp only [gEnum, List.length_map, List.range_eq_range', enumR_is]
def szT : M Bool := (toB (op2 dLt (nameK 19) (toK (methM 0 "end" [false] F_Numerals_end [] (toK (op2 dSub1 (nameK 25) (nameK 3))) argK0))))
def szE : M D := (dispM .tup (argK (toK (opN dLen (argK (toK (lwM 10)) argK0))) (argK (toK (nameE 3)) argK0)))
theorem q14_is : q14 = setS 21 (compE [3, 10] (itF gEnum (argK (toK (nameE 2)) argK0)) (gT (gsC (gN 3) (gsC (gN 10) gs0))) szT szE) := rfl
theorem sz_at {ns : List Nu} {o : Bool} {i : Nat} {n : Nu} (h : ns[i]? = some n) : dSub1 (.lst o (ns.map Nu.d)) (.int i) = some n.d := by
  have hi : i < ns.length := (List.getElem?_eq_some_iff.mp h).1
  have h1 : (0 : Int) ≤ i := by omega
  have h2 : (i : Int) < ns.length := by omega
  have hg : ns[i] = n := (List.getElem?_eq_some_iff.mp h).2
  rw [dSub1_lst]
  simp [atI, ixN, hi, h1, h2, hg]
theorem sz_t {all : List Nu} {o : Bool} {ρ : Rho} {n : Nu} {i k : Nat} (ok : n.Ok) (h25 : ρ[25]? = some (some (.lst o (all.map Nu.d)))) (h3 : ρ[3]? = some (some (.int (i : Int)))) (h19 : ρ[19]? = some (some (.int (k : Int)))) (hi : all[i]? = some n) : szT ρ = .ok (decide (k < n.end)) ρ := by
  have he := end_ev ok
  have e1 : op2 dSub1 (nameK 25) (nameK 3) ρ = .ok n.d ρ := op2_ap (t := .s 25) (u := .s 3) (x := .lst o (all.map Nu.d)) (y := .int i) (ρ1 := ρ) (by simp [h25]) (by simp [h3]) (by rw [get_s, h25]; simp) (by rw [get_s, h3]; simp) (sz_at hi)
  generalize hC : op2 dSub1 (nameK 25) (nameK 3) = C at *
  unfold szT
  rw [hC]
  simp [e1, he, h19]
theorem sz_e {ρ : Rho} {n : Nu} {i k : Nat} (ok : n.Ok) (h10 : ρ[10]? = some (some (rowT n))) (h3 : ρ[3]? = some (some (.int (i : Int)))) (h19 : ρ[19]? = some (some (.int (k : Int)))) (hk : k < n.end) : szE ρ = .ok (pD ((wordsP n k).length, i)) ρ := by
  obtain ⟨o, e⟩ := lwM_ev ok h10 h19 hk
  unfold szE
  simp [e, h3, pD]
theorem sz_loop {n0 : Nu} {all : List Nu} {o o' : Bool} {x : Dice} {k : Nat} (hok : ∀ n ∈ all, n.Ok ∧ n.Ok2) : ∀ (ns pre : List Nu) (acc : List D) (ρ : Rho), all = pre ++ ns → Inv n0 all o o' x ρ → ρ[19]? = some (some (.int (k : Int))) → acc.length + ns.length ≤ 100 →
    ∃ ρ', compF [3, 10] (gT (gsC (gN 3) (gsC (gN 10) gs0))) szT szE (enumR pre.length ns) acc ρ = .ok (acc ++ (cand k pre.length ns).map pD) ρ' ∧ Inv n0 all o o' x ρ' ∧ ρ'[19]? = some (some (.int (k : Int)))
  | [], pre, acc, ρ, _, I, h19, _ => ⟨ρ, by simp [enumR, cand, compF_nil], I, h19⟩
  | n :: ns, pre, acc, ρ, e, I, h19, hl => by
    rw [List.length_cons] at hl
    have hn : n ∈ all := by rw [e]; simp
    have hi : all[pre.length]? = some n := by rw [e, List.getElem?_append_right (Nat.le_refl _), Nat.sub_self]; rfl
    have lI := I.l
    have I1 : Inv n0 all o o' x ((ρ.set 3 (some (.int (pre.length : Int)))).set 10 (some (rowT n))) := (I.set 3 _ (by simp)).set 10 _ (by simp)
    have g19 : ((ρ.set 3 (some (.int (pre.length : Int)))).set 10 (some (rowT n)))[19]? = some (some (.int (k : Int))) := by simpa using h19
    have g3 : ((ρ.set 3 (some (.int (pre.length : Int)))).set 10 (some (rowT n)))[3]? = some (some (.int (pre.length : Int))) := by simp [List.getElem?_set, lI]
    have g10 : ((ρ.set 3 (some (.int (pre.length : Int)))).set 10 (some (rowT n)))[10]? = some (some (rowT n)) := by simp [List.getElem?_set, lI]
    have e1 : gT (gsC (gN 3) (gsC (gN 10) gs0)) (.tup [.int (pre.length : Int), rowT n]) ρ = .ok () ((ρ.set 3 (some (.int (pre.length : Int)))).set 10 (some (rowT n))) := by simp [lI]
    generalize hρ1 : (ρ.set 3 (some (.int (pre.length : Int)))).set 10 (some (rowT n)) = ρ1 at *
    have e2 := sz_t (hok n hn).1 I1.s25 g3 g19 hi
    have I2 : Inv n0 all o o' x (wipeR ρ1 [3, 10]) := (I1.set 10 none (by simp)).set 3 none (by simp)
    have g19' : (wipeR ρ1 [3, 10])[19]? = some (some (.int (k : Int))) := by
      show ((ρ1.set 10 none).set 3 none)[19]? = _
      simpa using g19
    have ee : all = (pre ++ [n]) ++ ns := by rw [e]; simp
    have ep : (pre ++ [n]).length = pre.length + 1 := by simp
    unfold enumR cand
    by_cases hk : k < n.end
    · rw [decide_eq_true hk] at e2
      have e3 := sz_e (hok n hn).1 g10 g3 g19 hk
      obtain ⟨ρ', e4, I3, h3⟩ := sz_loop hok ns (pre ++ [n]) (acc ++ [pD ((wordsP n k).length, pre.length)]) _ ee I2 g19' (by rw [List.length_append, List.length_singleton]; omega)
      refine ⟨ρ', ?_, I3, h3⟩
      rw [compF_step e1 e2 e3 (by omega), ← ep, e4, if_pos hk]
      simp
    · rw [decide_eq_false hk] at e2
      obtain ⟨ρ', e4, I3, h3⟩ := sz_loop hok ns (pre ++ [n]) acc _ ee I2 g19' (by omega)
      refine ⟨ρ', ?_, I3, h3⟩
      rw [compF_skip e1 e2, ← ep, e4, if_neg hk]
      simp
theorem q14_ev {n0 : Nu} {all : List Nu} {o o' : Bool} {x : Dice} {k : Nat} {ρ : Rho} (hok : ∀ n ∈ all, n.Ok ∧ n.Ok2) (hl : all.length ≤ 3) (I : Inv n0 all o o' x ρ) (h19 : ρ[19]? = some (some (.int (k : Int)))) :
    ∃ ρ', q14 ρ = .ok .nx ρ' ∧ Inv n0 all o false x ρ' ∧ ρ'[19]? = some (some (.int (k : Int))) ∧ ρ'[21]? = some (some (.lst true ((cand k 0 all).map pD))) := by
  have I0 := I.fz2 false
  have hg := gEnum_rows false all
  have h2 := I.s2
  have hz : (all.map rowT).all isFz = true := by simp
  have hz2 : (∀ x, x ∈ all.map rowT → isFz x = true) = True := eq_true (List.all_eq_true.mp hz)
  have hm : (all.map rowT).map fz = all.map rowT := by simp
  have hit : itF gEnum (argK (toK (nameE 2)) argK0) ρ = .ok (enumR 0 all) (ρ.set 2 (some (.lst false (all.map rowT)))) := by
    generalize all.map rowT = L at *
    cases o' with
    | true => simp [h2, hm, hz2, hg]
    | false =>
      have : ρ.set 2 (some (.lst false L)) = ρ := by
        have := set_back (ρ := ρ) (v := 2) (by rw [I.l]; omega) (some (.lst false L))
        rw [h2] at this
        simp only [Option.join_some] at this
        rw [List.set_set] at this
        exact this
      simp [h2, hm, hz2, hg, this]
  have I1 : Inv n0 all o false x (wipeR (ρ.set 2 (some (.lst false (all.map rowT)))) [3, 10]) := (I0.set 10 none (by simp)).set 3 none (by simp)
  have g19 : (wipeR (ρ.set 2 (some (.lst false (all.map rowT)))) [3, 10])[19]? = some (some (.int (k : Int))) := by
    show (((ρ.set 2 (some (.lst false (all.map rowT)))).set 10 none).set 3 none)[19]? = _
    simpa using h19
  obtain ⟨ρ2, e2, I2, g2⟩ := sz_loop hok all [] [] _ rfl I1 g19 (by simp; omega)
  rw [List.nil_append] at e2
  have e3 := compE_ok hit e2
  have I3 : Inv n0 all o false x (backR (ρ.set 2 (some (.lst false (all.map rowT)))) ρ2 [3, 10]) := (I2.set 10 _ (by simp)).set 3 _ (by simp)
  have g3 : (backR (ρ.set 2 (some (.lst false (all.map rowT)))) ρ2 [3, 10])[19]? = some (some (.int (k : Int))) := by
    show ((ρ2.set 10 _).set 3 _)[19]? = _
    simpa using g2
  refine ⟨(backR (ρ.set 2 (some (.lst false (all.map rowT)))) ρ2 [3, 10]).set 21 (some (.lst true ((cand k 0 all).map pD))), ?_, I3.set 21 _ (by simp), by rw [List.getElem?_set_ne (by omega)]; exact g3, by rw [List.getElem?_set_self (by rw [I3.l]; omega)]⟩
  rw [q14_is, setS_eq, bind_ap, e3]
  simp only
  rw [putS_ap, if_pos (by rw [I3.l]; omega)]
  rfl
end K08
end

section
set_option Elab.async false
set_option linter.all false
set_option maxRecDepth 100000
set_option maxHeartbeats 4000000
namespace K08
open PySem PySem.Spec PyProof.Rows L2 DL TL
theorem dNe_pairs0 (o o' : Bool) (l : List (Nat × Nat)) : dNe (.lst o (l.map pD)) (.lst o' []) = some (.bl (!decide (l = []))) := by
  have h1 := toPs_map toP_pD l
  have h2 : lvP 2 (.list (l.map pP)) = true := by
    unfold lvP
    simp only [List.all_map, List.all_eq_true, Bool.or_eq_true]
    exact .inr fun q _ => rfl
  rw [dNe_data (p := .list (l.map pP)) (q := .list []) (by simp only [toP, h1]; rfl) rfl (lv_shaped h2 (by omega)) (lv_shaped (n := 1) rfl (by omega))]
  cases l <;> rfl
@[simp] theorem fz_pD (p : Nat × Nat) : fz (pD p) = pD p := by simp [pD]
@[simp] theorem isFz_pD (p : Nat × Nat) : isFz (pD p) = true := by simp [pD]
@[simp] theorem fz_pD_c : fz ∘ pD = pD := by funext s; simp
def q15T : M D := (ifV (toB (op2 dNe (nameK 21) (toK (dispM (.lst true) argK0)))) (op2 dSub1 (toK (opN dMin1 (argK (nameK 21) argK0))) (toK (M.pure (.int 1)))) (M.pure (.str "WordError")))
theorem q15_is : q15 = (ifS (toB (op2 dNe (toK (toldM "WordError" lb_law (M.pure (.fn 1)))) (toK q15T))) (retS (M.pure (.bl false))) skip) := rfl
theorem q15_ev {n0 : Nu} {all : List Nu} {o o' : Bool} {x : Dice} {k : Nat} {ρ : Rho} (hok : ∀ n ∈ all, n.Ok ∧ n.Ok2) (I : Inv n0 all o o' x ρ) (h19 : ρ[19]? = some (some (.int (k : Int)))) (h21 : ρ[21]? = some (some (.lst true ((cand k 0 all).map pD)))) : ∃ ρ', q15 ρ = .ok .nx ρ' ∧ Inv n0 all false o' x ρ' := by
  have hl := I.l
  have h25 := I.s25
  have hs := shortest_ev (ns := all) (fun n hn => (hok n hn).1) k
  have hz2 : (∀ x, x ∈ all.map Nu.d → isFz x = true) = True := eq_true (List.all_eq_true.mp (by simp))
  have hm : (all.map Nu.d).map fz = all.map Nu.d := by simp
  have ht : toldM "WordError" lb_law (M.pure (.fn 1)) = told "WordError" (callM [false, false] F_shortest [] (argK (toK (nameE 25)) (argK (toK (nameE 19)) argK0))) := toldM_at rfl
  have I1 : Inv n0 all false o' x (ρ.set 25 (some (.lst false (all.map Nu.d)))) := I.fz25 false
  have g21 : (ρ.set 25 (some (.lst false (all.map Nu.d))))[21]? = some (some (.lst true ((cand k 0 all).map pD))) := by simpa using h21
  have hne := dNe_pairs0 true false (cand k 0 all)
  have hwe := dNe_str okS_we okS_we
  simp only [decide_true, Bool.not_true] at hwe
  have hset : o = false → ρ.set 25 (some (.lst false (all.map Nu.d))) = ρ := fun e => by
    subst e
    have := set_back (ρ := ρ) (v := 25) (by rw [I.l]; omega) (some (.lst false (all.map Nu.d)))
    rw [h25] at this
    simp only [Option.join_some] at this
    rw [List.set_set] at this
    exact this
  refine ⟨ρ.set 25 (some (.lst false (all.map Nu.d))), ?_, I1⟩
  rcases cand_min k all with ⟨hc, hb⟩ | ⟨p, l, hc, hb⟩
  · rw [hb] at hs
    simp only at hs
    have e1 : (callM [false, false] F_shortest [] (argK (toK (nameE 25)) (argK (toK (nameE 19)) argK0))) ρ = .exc 1 (ρ.set 25 (some (.lst false (all.map Nu.d)))) := by
      generalize all.map Nu.d = L at *
      cases o with
      | true => simp [h25, h19, hm, hz2, hs]
      | false => simp [h25, h19, hm, hz2, hs, hset]
    have e2 := told_exc (r := "WordError") e1
    rw [hc] at g21 hne
    simp only [List.map_nil, decide_true, Bool.not_true] at g21 hne
    have e3 : q15T (ρ.set 25 (some (.lst false (all.map Nu.d)))) = .ok (.str "WordError") (ρ.set 25 (some (.lst false (all.map Nu.d)))) := by
      unfold q15T
      generalize ρ.set 25 (some (.lst false (all.map Nu.d))) = ρ1 at *
      simp [g21, hne]
    rw [q15_is, ht]
    generalize told "WordError" (callM [false, false] F_shortest [] (argK (toK (nameE 25)) (argK (toK (nameE 19)) argK0))) = C at *
    generalize ρ.set 25 (some (.lst false (all.map Nu.d))) = ρ1 at *
    simp [e2, e3, hwe]
  · rw [hb] at hs
    simp only at hs
    have e1 : (callM [false, false] F_shortest [] (argK (toK (nameE 25)) (argK (toK (nameE 19)) argK0))) ρ = .ok (.int (l.foldl best p).2) (ρ.set 25 (some (.lst false (all.map Nu.d)))) := by
      generalize all.map Nu.d = L at *
      cases o with
      | true => simp [h25, h19, hm, hz2, hs]
      | false => simp [h25, h19, hm, hz2, hs, hset]
    have e2 := told_ok (r := "WordError") e1
    rw [hc] at g21 hne
    have hmin := dMin1_pD true p l
    have hkp : ((p :: l).map pD).all isFz = true := by simp
    have hkp2 : (∀ x, x ∈ (p :: l).map pD → isFz x = true) = True := eq_true (List.all_eq_true.mp hkp)
    simp only [reduceCtorEq, decide_false, Bool.not_false] at hne
    have e3 : q15T (ρ.set 25 (some (.lst false (all.map Nu.d)))) = .ok (.int (l.foldl best p).2) (ρ.set 25 (some (.lst false (all.map Nu.d)))) := by
      unfold q15T
      have hat : dSub1 (pD (l.foldl best p)) (.int 1) = some (.int (l.foldl best p).2) := rfl
      have hki : (∀ x, x ∈ kids (pD (l.foldl best p)) → isFz x = true) = True := eq_true (List.all_eq_true.mp (by simp [pD]))
      generalize l.foldl best p = B at *
      generalize (p :: l).map pD = L at *
      generalize ρ.set 25 (some (.lst false (all.map Nu.d))) = ρ1 at *
      simp [g21, hne, hmin, hkp2, hat, hki]
    rw [q15_is, ht]
    generalize told "WordError" (callM [false, false] F_shortest [] (argK (toK (nameE 25)) (argK (toK (nameE 19)) argK0))) = C at *
    generalize ρ.set 25 (some (.lst false (all.map Nu.d))) = ρ1 at *
    simp [e2, e3]
def cnt0 : M D := (callM [false, false, false] F_counted [] (argK (toK (nameE 24)) (argK (toK (M.pure (.int 0))) (argK (toK (M.pure (.int 2))) argK0))))
def tx (i : Int) : M D := (methM 0 "text" [false, false] F_Numerals_text [] (toK (nameE 24)) (argK (toK (M.pure (.int i))) argK0))
def t2 : M D := toldM "WordError" lb_law (M.pure (.fn 2))
def t3 : M D := toldM "WordError" lb_law (M.pure (.fn 3))
def t4 : M D := toldM "WordError" lb_law (M.pure (.fn 4))
theorem q16_is : q16 = (ifS (orB (toB (op2 dNe (toK (dispM (.lst true) (argK (toK t2) (argK (toK t3) (argK (toK t4) argK0))))) (toK (op2 dMul (toK (dispM (.lst true) (argK (toK (M.pure (.str "WordError"))) argK0))) (toK (M.pure (.int 3))))))) (toB (op2 dNe (toK cnt0) (toK (dispM .tup (argK (toK (tx 0)) (argK (toK (tx 1)) argK0))))))) (retS (M.pure (.bl false))) skip) := rfl
theorem q16_ev {n : Nu} {ns : List Nu} {o o' : Bool} {x : Dice} {ρ : Rho} (ok : n.Ok) (I : Inv n ns o o' x ρ) : q16 ρ = .ok .nx ρ := by
  have h24 := I.s24
  have h23 := I.s23
  have hp := end_pos ok
  have w1 := words_exc ok (i := n.end) (by omega)
  have w2 := text_exc ok (i := -1) (by omega)
  have w3 := counted_exc ok (f := n.end - 1) (by omega) (by omega)
  rw [show ((n.end - 1 : Nat) : Int) = (n.end : Int) - 1 by omega] at w3
  have w4 := counted_ev ok (f := 0) (by omega)
  have w5 := text_ev ok (m := 0) (by omega)
  have w6 := text_ev ok (m := 1) (by omega)
  have e2 : t2 ρ = .ok (.str "WordError") ρ := by
    unfold t2
    rw [toldM_at (i := 2) (m := methM 0 "words" [false, false] F_Numerals_words [] (toK (nameE 24)) (argK (toK (nameE 23)) argK0)) rfl]
    exact told_exc (c := 1) (by simp [h24, h23, w1])
  have e3 : t3 ρ = .ok (.str "WordError") ρ := by
    unfold t3
    rw [toldM_at (i := 3) (m := methM 0 "text" [false, false] F_Numerals_text [] (toK (nameE 24)) (argK (toK (op1 dNeg (toK (M.pure (.int 1))))) argK0)) rfl]
    have hn : dNeg (.int 1) = some (.int (-1)) := rfl
    exact told_exc (c := 1) (by simp [h24, hn, w2])
  have e4 : t4 ρ = .ok (.str "WordError") ρ := by
    unfold t4
    rw [toldM_at (i := 4) (m := callM [false, false, false] F_counted [] (argK (toK (nameE 24)) (argK (toK (op2 dSub (nameK 23) (toK (M.pure (.int 1))))) (argK (toK (M.pure (.int 2))) argK0)))) rfl]
    exact told_exc (c := 1) (by simp [h24, h23, w3])
  have e5 : cnt0 ρ = .ok (.tup [.str (txt n 0), .str (txt n 1)]) ρ := by
    unfold cnt0
    simp only [Int.natCast_zero, Nat.zero_add] at w4
    simp [h24, w4]
  have e6 : tx 0 ρ = .ok (.str (txt n 0)) ρ := by
    unfold tx
    simp only [Int.natCast_zero] at w5
    simp [h24, w5]
  have e7 : tx 1 ρ = .ok (.str (txt n 1)) ρ := by
    unfold tx
    have w6' : F_Numerals_text [n.d, .int 1] = .ok (.str (txt n 1)) [n.d, .int 1] := w6
    simp [h24, w6']
  have d1 : dNe (.lst false [.str "WordError", .str "WordError", .str "WordError"]) (.lst false [.str "WordError", .str "WordError", .str "WordError"]) = some (.bl false) := by
    have h : ∀ w ∈ [("WordError" : Str), "WordError", "WordError"], okS w = true := by
      intro w hw
      simp only [List.mem_cons, List.not_mem_nil, or_false, or_self] at hw
      rw [hw]
      exact okS_we
    have := dNe_strs (o := false) (o' := false) h h
    simpa using this
  have d2 : dNe (.tup [.str (txt n 0), .str (txt n 1)]) (.tup [.str (txt n 0), .str (txt n 1)]) = some (.bl false) := by
    refine dNe_self (p := .tuple [.str (txt n 0), .str (txt n 1)]) (n := 1) rfl rfl ?_ (by omega)
    simp [lvP, flatP, okS_txt ok (m := 0) (by omega), okS_txt ok (m := 1) (by omega)]
  rw [q16_is]
  generalize txt n 0 = A at *
  generalize txt n 1 = B at *
  simp [e2, e3, e4, e5, e6, e7, d1, d2]
end K08
end

section
set_option Elab.async false
set_option linter.all false
set_option maxRecDepth 100000
set_option maxHeartbeats 4000000
namespace K08
open PySem PySem.Spec PyProof.Rows L2 DL TL
def s_tail : M Fl := (seq (setS 26 (makeM 0 F_Numerals_init [] (argK (toK (M.pure (.int 2))) (argK (toK (dispM (.lst true) (argK (toK (M.pure (.str "no"))) (argK (toK (M.pure (.str "one"))) argK0)))) (argK (toK (dispM (.lst true) (argK (toK (M.pure (.str "pair"))) (argK (toK (M.pure (.str "four"))) argK0)))) (argK (toK (M.pure (.str "high"))) (argK (toK (M.pure (.str ""))) (argK (toK (M.pure (.bl true))) argK0))))))))
  (seq (setS 22 (dispM (.lst true) (argK (toK (M.pure (.fn 5))) (argK (toK (M.pure (.fn 6))) (argK (toK (M.pure (.fn 7))) (argK (toK (M.pure (.fn 8))) (argK (toK (M.pure (.fn 9))) (argK (toK (M.pure (.fn 10))) (argK (toK (M.pure (.fn 11))) (argK (toK (M.pure (.fn 12))) (argK (toK (M.pure (.fn 13))) (argK (toK (M.pure (.fn 14))) (argK (toK (M.pure (.fn 15))) (argK (toK (M.pure (.fn 16))) (argK (toK (M.pure (.fn 17))) (argK (toK (M.pure (.fn 18))) argK0))))))))))))))))
  (seq (ifS (toB (op2 dNe (toK (badM lb_law "WordError" (iterM (nameE 22)))) (toK (dispM (.lst true) argK0)))) (retS (M.pure (.bl false))) skip)
  (retS (andV (op2 dEq (toK (compE [3] (iterM (dispM (.lst true) (argK (toK (M.pure (.int 0))) (argK (toK (M.pure (.int 1))) (argK (toK (M.pure (.int 2))) (argK (toK (M.pure (.int 7))) argK0)))))) (gN 3) (M.pure true) (methM 0 "text" [false, false] F_Numerals_text [] (toK (nameE 26)) (argK (toK (nameE 3)) argK0)))) (toK (dispM (.lst true) (argK (toK (M.pure (.str "no"))) (argK (toK (M.pure (.str "one"))) (argK (toK (M.pure (.str "one pair"))) (argK (toK (M.pure (.str "one four one pair one"))) argK0))))))) (andV (op2 dEq (toK (methM 0 "number" [false, false] F_Numerals_number [] (toK (nameE 26)) (argK (toK (M.pure (.str "one four one"))) argK0))) (toK (M.pure (.int 5)))) (op2 dEq (toK (methM 0 "end" [false] F_Numerals_end [] (toK (nameE 26)) argK0)) (toK (M.pure (.int 8))))))))))
theorem s_law_is : s_law = (seq (forOwn 1 (callM [false, false] F_law_rounds [] (argK (toK (nameE 0)) (argK (toK (M.pure (.int 1))) argK0))) b_law_5) s_tail) := rfl
def chkT : Out Fl → Bool
  | .ok (.rt (.bl true)) (_ :: _) => true
  | _ => false
theorem tail_0 (a0 a1 a2 a3 a4 a5 a6 a7 a8 a9 a10 a11 a12 a13 a14 a15 a16 a17 a18 a19 a20 a21 a22 a23 a24 a25 a26 a27 a28 a29 : Option D) : chkT (s_tail [a0, a1, a2, a3, a4, a5, a6, a7, a8, a9, a10, a11, a12, a13, a14, a15, a16, a17, a18, a19, a20, a21, a22, a23, a24, a25, a26, a27, a28, a29]) = true := by kernel_rfl
theorem tail_1 (ρ : Rho) (h : ρ.length = 30) : chkT (s_tail ρ) = true := by
  obtain _ | ⟨a0, ρ⟩ := ρ
  · simp at h
  obtain _ | ⟨a1, ρ⟩ := ρ
  · simp at h
  obtain _ | ⟨a2, ρ⟩ := ρ
  · simp at h
  obtain _ | ⟨a3, ρ⟩ := ρ
  · simp at h
  obtain _ | ⟨a4, ρ⟩ := ρ
  · simp at h
  obtain _ | ⟨a5, ρ⟩ := ρ
  · simp at h
  obtain _ | ⟨a6, ρ⟩ := ρ
  · simp at h
  obtain _ | ⟨a7, ρ⟩ := ρ
  · simp at h
  obtain _ | ⟨a8, ρ⟩ := ρ
  · simp at h
  obtain _ | ⟨a9, ρ⟩ := ρ
  · simp at h
  obtain _ | ⟨a10, ρ⟩ := ρ
  · simp at h
  obtain _ | ⟨a11, ρ⟩ := ρ
  · simp at h
  obtain _ | ⟨a12, ρ⟩ := ρ
  · simp at h
  obtain _ | ⟨a13, ρ⟩ := ρ
  · simp at h
  obtain _ | ⟨a14, ρ⟩ := ρ
  · simp at h
  obtain _ | ⟨a15, ρ⟩ := ρ
  · simp at h
  obtain _ | ⟨a16, ρ⟩ := ρ
  · simp at h
  obtain _ | ⟨a17, ρ⟩ := ρ
  · simp at h
  obtain _ | ⟨a18, ρ⟩ := ρ
  · simp at h
  obtain _ | ⟨a19, ρ⟩ := ρ
  · simp at h
  obtain _ | ⟨a20, ρ⟩ := ρ
  · simp at h
  obtain _ | ⟨a21, ρ⟩ := ρ
  · simp at h
  obtain _ | ⟨a22, ρ⟩ := ρ
  · simp at h
  obtain _ | ⟨a23, ρ⟩ := ρ
  · simp at h
  obtain _ | ⟨a24, ρ⟩ := ρ
  · simp at h
  obtain _ | ⟨a25, ρ⟩ := ρ
  · simp at h
  obtain _ | ⟨a26, ρ⟩ := ρ
  · simp at h
  obtain _ | ⟨a27, ρ⟩ := ρ
  · simp at h
  obtain _ | ⟨a28, ρ⟩ := ρ
  · simp at h
  obtain _ | ⟨a29, ρ⟩ := ρ
  · simp at h
  obtain _ | ⟨a30, ρ⟩ := ρ
  · exact tail_0 a0 a1 a2 a3 a4 a5 a6 a7 a8 a9 a10 a11 a12 a13 a14 a15 a16 a17 a18 a19 a20 a21 a22 a23 a24 a25 a26 a27 a28 a29
  · simp at h
theorem b5_ev {ρ : Rho} {x : Dice} (hl : ρ.length = 30) (h1 : ρ[1]? = some (some x.d)) : ∃ ρ', b_law_5 ρ = .ok .nx ρ' ∧ ρ'.length = 30 := by
  obtain ⟨ρ1, e1, I1⟩ := nx_1 hl h1
  obtain ⟨n, ns, x2, ρ2, e2, I2, hn⟩ := nx_2 I1
  obtain ⟨ok, o2⟩ := I2.ok n List.mem_cons_self
  have hok := I2.ok
  obtain ⟨ρ3, e3, I3, h24, h11⟩ := nx_3 I2
  obtain ⟨ρ4, e4, I4⟩ := nx_4 I3 h24 h11
  obtain ⟨ρ5, e5, I5⟩ := nx_5 ok I4
  have e6 := nx_6 ok I5
  obtain ⟨x7, ρ7, e7, I7⟩ := nx_7 ok o2 I5
  have e8 := nx_8 ok I7.l I7.s11
  obtain ⟨ρ8, e8, h8⟩ := ex_of e8
  have I8 : Inv n (n :: ns) true true x7 ρ8 := by rw [h8]; exact I7.set 17 _ (by simp)
  have g17 : ρ8[17]? = some (some (.lst true ((pool n).map .str))) := by rw [h8, List.getElem?_set_self (by rw [I7.l]; omega)]
  obtain ⟨p1, p2, p3⟩ := pool_ok ok
  obtain ⟨w, x9, ρ9, e9, w1, w2, I9, g27⟩ := nx_9 (by omega) (by omega) p1 I8 g17
  have e10 := q10_ev ok I9.l I9.s24 g27 w1 w2
  obtain ⟨ρ10, e10, h10⟩ := ex_of e10
  have I10 : Inv n (n :: ns) true true x9 ρ10 := by rw [h10]; exact I9.set 18 _ (by simp)
  have k27 : ρ10[27]? = some (some (.str w)) := by rw [h10, List.getElem?_set_ne (by omega)]; exact g27
  have k18 : ρ10[18]? = some (some (readD n w)) := by rw [h10, List.getElem?_set_self (by rw [I9.l]; omega)]
  obtain ⟨gd, e11, hgd⟩ := q11_ev ok o2 I10 k27 w1
  obtain ⟨ρ11, e11, h11'⟩ := ex_of e11
  have I11 : Inv n (n :: ns) true true x9 ρ11 := by rw [h11']; exact I10.set 20 _ (by simp)
  have e12 := q12_ev (gd := gd) ok I11 (by rw [h11', List.getElem?_set_ne (by omega)]; exact k27) w1 (by rw [h11', List.getElem?_set_ne (by omega)]; exact k18) (by rw [h11', List.getElem?_set_self (by rw [I10.l]; omega)]) hgd
  obtain ⟨k, x13, ρ13, e13, I13, g19⟩ := q13_ev I11
  obtain ⟨ρ14, e14, I14, g19', g21⟩ := q14_ev hok (by rw [List.length_cons]; omega) I13 g19
  obtain ⟨ρ15, e15, I15⟩ := q15_ev hok I14 g19' g21
  have e16 := q16_ev ok I15
  refine ⟨ρ15, ?_, I15.l⟩
  have e1 : q1 ρ = _ := e1
  have e2 : q2 ρ1 = _ := e2
  have e3 : q3 ρ2 = _ := e3
  have e4 : q4 ρ3 = _ := e4
  have e5 : q5 ρ4 = _ := e5
  have e6 : q6 ρ5 = _ := e6
  have e7 : q7 ρ5 = _ := e7
  have e8 : q8 ρ7 = _ := e8
  have e9 : q9 ρ8 = _ := e9
  rw [b5_is, seq_nx e1, seq_nx e2, seq_nx e3, seq_nx e4, seq_nx e5, seq_nx e6, seq_nx e7, seq_nx e8, seq_nx e9, seq_nx e10, seq_nx e11, seq_nx e12, seq_nx e13, seq_nx e14, seq_nx e15, e16]
theorem own_ev {ρ ρ1 ρ' : Rho} {i : Nat} {m : M D} {b : M Fl} {e : D} (h1 : m ρ = .ok (.lst true [e]) ρ1) (hi : i < ρ1.length) (h2 : b (ρ1.set i (some e)) = .ok .nx ρ') : forOwn i m b ρ = .ok .nx ρ' := by
  unfold forOwn
  rw [bind_ap, h1]
  simp only
  rw [if_pos hi, h2]
def r0 (ns : List Int) : Rho := some (.scr ns) :: List.replicate 29 none
theorem law_ev (ns : List Int) : ∃ ρ', s_law (r0 ns) = .ok (.rt (.bl true)) ρ' ∧ ∃ a ρ'', ρ' = a :: ρ'' := by
  obtain ⟨x, e⟩ := rounds_ev ns
  have h1 : (callM [false, false] F_law_rounds [] (argK (toK (nameE 0)) (argK (toK (M.pure (.int 1))) argK0))) (r0 ns) = .ok (.lst true [x.d]) (r0 ns) := by
    have h0 : (r0 ns)[0]? = some (some (.scr ns)) := rfl
    generalize r0 ns = ρ at *
    simp [h0, e]
  obtain ⟨ρ', h2, h3⟩ := b5_ev (ρ := (r0 ns).set 1 (some x.d)) (x := x) (by simp [r0]) (by simp [r0])
  have h4 := own_ev (i := 1) h1 (by simp [r0]) h2
  have h5 := tail_1 ρ' h3
  rw [s_law_is, seq_nx h4]
  generalize s_tail ρ' = r at *
  unfold chkT at h5
  split at h5
  · exact ⟨_, rfl, _, _, rfl⟩
  · cases h5
theorem LT : ∀ ns : List Int, ns.length ≤ 63 → (∀ z ∈ ns, Builtin.Int.intBits z ≤ 1048576) → ∃ ps, ps.length = 1 ∧ K08.F_law [.scr ns] = .ok (.bl true) ps := by
  intro ns _ _
  obtain ⟨ρ', e, a, ρ'', rfl⟩ := law_ev ns
  refine ⟨[.scr ns], rfl, ?_⟩
  unfold F_law runF clrF
  have hc : clr ([D.scr ns].map some ++ List.replicate (30 - [D.scr ns].length) none) = r0 ns := rfl
  simp only [hc, e]
  rfl
end K08
end

section
set_option Elab.async false
set_option linter.all false
set_option maxRecDepth 100000
open PySem PySem.W DL
local macro_rules | `(tactic| o_head ($f $k $a $p $t)) => match t with | `($_ :: $_) => `(tactic| o_head ($f $k $a $p (id [49, 96, 143]))) | _ => Lean.Macro.throwUnsupported
open PySem PySem.W PyProof.Rows in
set_option maxRecDepth 100000 in
set_option maxHeartbeats 0 in
theorem PySem.Challenge.cw_tonguesmith_k08_numbers_as_words_holds : PySem.Challenge.rw_tonguesmith_k08_numbers_as_words.Holds := by
  w_on; o_law; k_head; (case hw => w_witness2)
  k_fill
  refine LamX.walk_ofTs (l := PySem.Challenge.rw_tonguesmith_k08_numbers_as_words) (n := 63) (k := 8) (x := "script") (CX := fun w => L2.CX PySem.Challenge.rw_tonguesmith_k08_numbers_as_words.prog w) rfl (by decide) rfl ⟨rfl, by decide, by decide⟩ (fun w h Y => PySem.W.km_in_of Y) ?F (fun _ _ _ _ _ z => by obtain ⟨_, _, _, _, _, _, _, _, _, _, _, _, z⟩ := z; exact z)
  case F =>
    intro w mg fa h Y KX G hmg
    km_tabs Y
    refine' K08.all_mk K08.LT KX G hmg ?aC0 ?pg0 ?hd0 ?po0 ?sa0 ?mk0 ?kc0 ?na0_base ?na0_link ?na0_one ?na0_order ?na0_powers ?na0_small ?aX ?xX ?kX ?bX ?tX ?iX ?sX ?pX ?a0 ?i0 ?l0 ?q0 ?k0 ?lT0 ?r0_0 ?r0_1 ?r0_2 ?a1 ?i1 ?l1 ?q1 ?k1 ?a2 ?i2 ?l2 ?q2 ?k2 ?a3 ?i3 ?l3 ?q3 ?k3 ?a4 ?i4 ?l4 ?q4 ?k4 ?a5 ?i5 ?l5 ?q5 ?k5 ?a6 ?l6 ?q6 ?k6 ?a7 ?l7 ?q7 ?k7 ?a8 ?l8 ?q8 ?k8 ?a9 ?l9 ?q9 ?k9 ?a10 ?l10 ?q10 ?k10 ?a11 ?l11 ?q11 ?k11 ?a12 ?l12 ?q12 ?k12 ?a13 ?l13 ?q13 ?k13 ?z_abs ?z_any ?z_enumerate ?z_int ?z_len ?z_list ?z_min ?z_range ?z_str ?z_tuple ?kc_MOST_BASE ?xk0 ?v0 ?hh0 ?nt0 ?xk6 ?v6 ?hh6 ?nt6 ?xk13 ?v13 ?hh13 ?nt13 ?hne ?hT
    (case aC0 => first | k_is | kernel_rfl)
    (case pg0 => first | k_is | kernel_rfl)
    (case hd0 => first | k_is | kernel_rfl)
    (case po0 => first | k_is | kernel_rfl)
    (case sa0 => first | k_is | kernel_rfl)
    (case mk0 => first | k_is | kernel_rfl)
    (case kc0 => first | k_is | kernel_rfl)
    (case na0_base => first | k_is | kernel_rfl)
    (case na0_link => first | k_is | kernel_rfl)
    (case na0_one => first | k_is | kernel_rfl)
    (case na0_order => first | k_is | kernel_rfl)
    (case na0_powers => first | k_is | kernel_rfl)
    (case na0_small => first | k_is | kernel_rfl)
    (case aX => first | k_is | kernel_rfl)
    (case xX => first | kernel_rfl | k_is)
    (case kX => first | k_is | kernel_rfl)
    (case bX => first | k_is | kernel_rfl)
    (case tX => first | k_is | kernel_rfl)
    (case iX => first | k_is | kernel_rfl)
    (case sX => first | k_is | kernel_rfl)
    (case pX => first | k_is | kernel_rfl)
    (case a0 => first | k_is | kernel_rfl)
    (case i0 => first | k_is | kernel_rfl)
    (case l0 => first | k_is | kernel_rfl)
    (case q0 => first | k_is | kernel_rfl)
    (case k0 => first | k_is | kernel_rfl)
    (case lT0 => first | k_is | kernel_rfl)
    (case r0_0 => first | exact ⟨_, rfl⟩ | rfl)
    (case r0_1 => first | exact ⟨_, rfl⟩ | rfl)
    (case r0_2 => first | exact ⟨_, rfl⟩ | rfl)
    (case a1 => first | k_is | kernel_rfl)
    (case i1 => first | k_is | kernel_rfl)
    (case l1 => first | k_is | kernel_rfl)
    (case q1 => first | k_is | kernel_rfl)
    (case k1 => first | k_is | kernel_rfl)
    (case a2 => first | k_is | kernel_rfl)
    (case i2 => first | k_is | kernel_rfl)
    (case l2 => first | k_is | kernel_rfl)
    (case q2 => first | k_is | kernel_rfl)
    (case k2 => first | k_is | kernel_rfl)
    (case a3 => first | k_is | kernel_rfl)
    (case i3 => first | k_is | kernel_rfl)
    (case l3 => first | k_is | kernel_rfl)
    (case q3 => first | k_is | kernel_rfl)
    (case k3 => first | k_is | kernel_rfl)
    (case a4 => first | k_is | kernel_rfl)
    (case i4 => first | k_is | kernel_rfl)
    (case l4 => first | k_is | kernel_rfl)
    (case q4 => first | k_is | kernel_rfl)
    (case k4 => first | k_is | kernel_rfl)
    (case a5 => first | k_is | kernel_rfl)
    (case i5 => first | k_is | kernel_rfl)
    (case l5 => first | k_is | kernel_rfl)
    (case q5 => first | k_is | kernel_rfl)
    (case k5 => first | k_is | kernel_rfl)
    (case a6 => first | k_is | kernel_rfl)
    (case l6 => first | k_is | kernel_rfl)
    (case q6 => first | k_is | kernel_rfl)
    (case k6 => first | k_is | kernel_rfl)
    (case a7 => first | k_is | kernel_rfl)
    (case l7 => first | k_is | kernel_rfl)
    (case q7 => first | k_is | kernel_rfl)
    (case k7 => first | k_is | kernel_rfl)
    (case a8 => first | k_is | kernel_rfl)
    (case l8 => first | k_is | kernel_rfl)
    (case q8 => first | k_is | kernel_rfl)
    (case k8 => first | k_is | kernel_rfl)
    (case a9 => first | k_is | kernel_rfl)
    (case l9 => first | k_is | kernel_rfl)
    (case q9 => first | k_is | kernel_rfl)
    (case k9 => first | k_is | kernel_rfl)
    (case a10 => first | k_is | kernel_rfl)
    (case l10 => first | k_is | kernel_rfl)
    (case q10 => first | k_is | kernel_rfl)
    (case k10 => first | k_is | kernel_rfl)
    (case a11 => first | k_is | kernel_rfl)
    (case l11 => first | k_is | kernel_rfl)
    (case q11 => first | k_is | kernel_rfl)
    (case k11 => first | k_is | kernel_rfl)
    (case a12 => first | k_is | kernel_rfl)
    (case l12 => first | k_is | kernel_rfl)
    (case q12 => first | k_is | kernel_rfl)
    (case k12 => first | k_is | kernel_rfl)
    (case a13 => first | k_is | kernel_rfl)
    (case l13 => first | k_is | kernel_rfl)
    (case q13 => first | k_is | kernel_rfl)
    (case k13 => first | k_is | kernel_rfl)
    (case z_abs => first | k_is | kernel_rfl)
    (case z_any => first | k_is | kernel_rfl)
    (case z_enumerate => first | k_is | kernel_rfl)
    (case z_int => first | k_is | kernel_rfl)
    (case z_len => first | k_is | kernel_rfl)
    (case z_list => first | k_is | kernel_rfl)
    (case z_min => first | k_is | kernel_rfl)
    (case z_range => first | k_is | kernel_rfl)
    (case z_str => first | k_is | kernel_rfl)
    (case z_tuple => first | k_is | kernel_rfl)
    (case kc_MOST_BASE => first | k_is | kernel_rfl)
    (case xk0 => first | k_is | kernel_rfl)
    (case v0 => rfl)
    (case hh0 => first | kernel_rfl | k_is)
    (case nt0 => first | kernel_rfl | k_is)
    (case xk6 => first | k_is | kernel_rfl)
    (case v6 => rfl)
    (case hh6 => first | kernel_rfl | k_is)
    (case nt6 => first | kernel_rfl | k_is)
    (case xk13 => first | k_is | kernel_rfl)
    (case v13 => rfl)
    (case hh13 => first | kernel_rfl | k_is)
    (case nt13 => first | kernel_rfl | k_is)
    (case hne => decide)
    (case hT => exact fun P hP => hT8 P hP)
end
