import PyProof.Rows.All
import Wide.All
import OpenK.AllK
import Wide.FinOn
import HandS.ForMost
import HandS.GenOver
import HandS.GenList
import HandS.Nested
import HandS.Lambda
import HandS.Wide
import HandS.Flow
import HandS.Sort
import KE.DataCmp
import KE.SortData
import KE.KDictPairs
import HandS.TupAny
import HandS.Deep
import HandS.ListItems
import HandS.Zip
import HandS.Iter
import HandS.Conv
import HandS.Text
import HandS.More
import HandS.Defaults
import HandS.WordsDict
import HandS.Style
import HandS.ExcOwn
import HandS.Codes
import HandS.Small
import HandS.HeadHook4
import HandS.Head0
import HandS.Head1
import HandS.Head2
import HandS.HeadEnd
import HandS.HeadWalk
import PySem.Challenge.RW_dyestack_k03_vats_that_weaken
set_option Elab.async false
set_option linter.all false
set_option maxRecDepth 100000
set_option maxHeartbeats 0
/-! text G1 -/
/-! Generator expressions whose elements may call defs: the generator's own context, its start, its turns. -/
namespace Dy
open GenW L2 PyProof.Rows PySem.Spec PySem

abbrev gcode (elt tg iter : Expr) (ifs : List Expr) (scope : Scope) (gpos : Pos) : Expr := .GeneratorExp elt [⟨tg, iter, ifs, 0⟩] scope gpos

theorem over_gx {A : Around} {elt tg iter : Expr} {ifs : List Expr} {scope : Scope} {gpos : Pos} {it acc : Value} {env : Env} :
    A.over (.compLoop (gcode elt tg iter ifs scope gpos) 0 it acc env) [] = A.deeper env := by
  first
    | rfl
    | (obtain ⟨hd, d, fr, gs, u⟩ := A
       simp [Around.over, Around.deeper, marksOver, frameCount, unitsOf, envsOf, guardsOf, pushEnvs, pushGuards, Code.envs, Code.env?, Code.isFrame, Code.guards, Code.isGuard, Code.weight, Code.frames, Code.isCreation, Code.isCaller, Code.cUnits])
theorem over_gs {A : Around} {elt tg iter : Expr} {ifs : List Expr} {scope : Scope} {gpos : Pos} {it acc : Value} {env : Env} :
    A.over (.compStart (gcode elt tg iter ifs scope gpos) 0 it acc env) [] = A.deeper env := by
  first
    | rfl
    | (obtain ⟨hd, d, fr, gs, u⟩ := A
       simp [Around.over, Around.deeper, marksOver, frameCount, unitsOf, envsOf, guardsOf, pushEnvs, pushGuards, Code.envs, Code.env?, Code.isFrame, Code.guards, Code.isGuard, Code.weight, Code.frames, Code.isCreation, Code.isCaller, Code.cUnits])

/-- the generator's own environment, its frame's names at C -/
abbrev gEnv (X : Cx) (scope : Scope) (C : Addr) (code : Value) : Env := genEnv scope (cloFrom X.env.cells scope.names []) C code builtinsNs X.env
/-- its context: it runs over the around B, from the state s on; fp: the walked thing's own objects; pn: the generator's object -/
abbrev gCx (X : Cx) (B : Around) (s : Shared) (H : Hp) (scope : Scope) (C : Addr) (code : Value) (fp : List Addr) (pn : List (Addr × Obj)) : Cx :=
  { X with A := B.deeper (gEnv X scope C code), s_0 := s, H_0 := H, env := gEnv X scope C code, outer := X.stack, stack := gEnv X scope C code :: X.stack, ex := fp, fn := fun _ => false, calm := true, pn := pn, xe := fun _ _ => False }

/-- the names of a generator expression: as a block's, none of them captured further -/
structure GxOk (N : List Str) (sc scope : Scope) (own : List (Str × Nat)) : Prop where
  blk : BlkOk N sc scope own
  co
          : scope.isCoroutine = false
  cell
          : ∀ y ∈ scope.names, y.2 ≠ .cell
  dot
          : scope.names.lookup (".0" : Str) = some NameKind.local
def gxC (N : List Str) (sc scope : Scope) (own : List (Str × Nat)) : Bool :=
  blkC N sc scope own && (!scope.isCoroutine && ((scope.names.all fun y => !decide (y.2 = .cell)) && decide (scope.names.lookup (".0" : Str) = some NameKind.local)))
theorem gxOk_by {N : List Str} {sc scope : Scope} {own : List (Str × Nat)} (h : gxC N sc scope own = true) : GxOk N sc scope own := by
  unfold gxC at h
  simp only [Bool.and_eq_true, Bool.not_eq_true', List.all_eq_true, decide_eq_true_eq, decide_eq_false_iff_not] at h
  exact ⟨blkOk_by h.1, h.2.1, h.2.2.1, h.2.2.2⟩

section
variable
        {X : Cx} {pins : List (Addr × Obj)} {σ : L2.St} {H : Hp} {s : Shared}
theorem gx_free {scope : Scope} {own : List (Str × Nat)} (ok : GxOk X.N X.env.scope scope own) (hX : X.Ok) : ∀ y ∈ scope.names, y.2 = .free → ∃ c, X.env.cells.lookup y.1 = some c := fun y hy e =>
  (ok.blk.free y hy e).elim (fun k => hX.has _ (.inl k)) fun k => hX.has _ (.inr k)

/-- the generator's context begins: s: ahead of its frame, s': behind its making -/
theorem gx_start {scope : Scope} {own : List (Str × Nat)} {fp : List Addr} {B : Around} {code : Value} {pn : List (Addr × Obj)} {s' : Shared} {m0 : Str → Option Value}
    (I : Inv X pins σ H s) (ok : GxOk X.N X.env.scope scope own) (hN : X.N.Nodup) (hfp : ∀ b ∈ fp, FpOk X pins H b ∧ b < s.heap.objs.size)
    (hB : B.frames = some X.stack) (hBh : B.handled = none) (hns : s'.heap.Ns s.heap.objs.size m0) (kp : ∀ b o, s.heap.get? b = some o → s'.heap.get? b = some o)
    (os : s'.os = s.os) (bare : AllBare s'.gens)
    (hpn : ∀ p ∈ pn, s'.heap.get? p.1 = some p.2 ∧ s.heap.objs.size < p.1 ∧ ∀ v, p.2.data ≠ .cell v) :
    Inv (gCx X B s H scope s.heap.objs.size code fp pn) [] (wipe σ (own.map (·.2))) H s' := by
  have hfree := gx_free ok I.ok
  have cm : ∀ {y c}, (cloFrom X.env.cells scope.names []).lookup y = some c → X.env.cells.lookup y = some c := fun e => NdefX.clo_cm hfree e
  have look : ∀ {y}, scope.names.lookup y = some .free → ∃ c, (cloFrom X.env.cells scope.names []).lookup y = some c := fun {y} hl =>
    mem_lookup (cloFrom_has (cells := X.env.cells) (acc := []) (PySem.mem_of_lookup hl))
  have cellK : ∀ {c : Addr} {v : Option Value}, s.heap.IsCell c v → s'.heap.IsCell c v := fun {c v} ⟨o, ho, hd⟩ => ⟨o, kp _ _ ho, hd⟩
  have cellLt : ∀ {y c}, X.env.cells.lookup y = some c → c < s.heap.objs.size := fun {y c} e => by
    obtain ⟨v, z⟩ := I.cell y c e
    exact z.lt
  have pnH : ∀ p ∈ pn, H p.1 = none := fun p hp => I.hok.fresh (Nat.le_of_lt (hpn p hp).2.1)
  have okG : (gCx X B s H scope s.heap.objs.size code fp pn).Ok := by
    refine ⟨I.ok.mod, ok.blk.kind, I.ok.glob, rfl, Nat.le_refl _, fun y z c e1 e2 => I.ok.inj y z c (cm e1) (cm e2), fun y hy => ?_, fun y c z => (nomatch (show false = true from z)), fun _ => hBh, ?_, .inr ⟨rfl, rfl⟩,
      fun b hb => ⟨?_, fun y c e z => ?_⟩, I.bs, Nat.le_trans I.ok.bsz I.sz, fun b o e hb => ?_, fun b hb z => ?_, I.stack, I.stkFree⟩
    · have
            hy : scope.names.lookup y = some .cell ∨ scope.names.lookup y = some .free := hy
      rcases hy with hy | hy
      · exact absurd rfl (ok.cell _ (PySem.mem_of_lookup hy))
      · exact look hy
    · show (B.frames.map _) = _
      rw [hB] <;> rfl
    · exact Nat.ne_of_lt (hfp b hb).2
    · exact (hfp b hb).1.2.2.2.2.1 y c (cm e) z
    · rcases
            (hfp b hb).1.2.2.2.1 with z | z
      · exact I.ok.noex b o e z
      · exact
              absurd (Nat.lt_of_lt_of_le (Heap.lt_size e) (Nat.le_trans I.ok.bsz z)) (Nat.lt_irrefl _)
    · rcases
            List.mem_cons.mp (I.stkSub b z) with z | z
      · exact (hfp b hb).1.2.1 z
      · exact (hfp b hb).1.2.2.1 z
  refine ⟨okG, os, bare, Un.kept kp, ⟨m0, hns, fun i y v e1 e2 e3 => ?_⟩, fun y c e => ?_, I.hok.fresh (Nat.le_refl _), fun y c e => I.freeC y c (cm e), fun p hp => ?_, I.hok.kept kp, by rw [wipe_length]; exact I.len⟩
  · obtain
          ⟨e2, hne⟩ := wipe_some e2
    have e1 : X.N[i]? = some y := e1
    have e3 : Vis scope y := e3
    have isF : scope.names.lookup y = some .free := by
      rcases e3 with k | k | k
      · rcases ok.blk.own _ (PySem.mem_of_lookup k) (.inl rfl) with e' | e'
        · obtain
                ⟨p, hp, hpy⟩ := List.mem_map.mp e'
          have q := ok.blk.ix p hp
          have hpy : p.1 = y := hpy
          rw [hpy] at q
          exact absurd (List.mem_map.mpr ⟨p, hp, nodup_ix hN q e1⟩) hne
        · exact absurd (List.mem_of_getElem? e1) e'
      · exact absurd rfl (ok.cell _ (PySem.mem_of_lookup k))
      · exact k
    obtain ⟨m, hn, hl⟩ := I.loc
    have k2 := ok.blk.free _ (PySem.mem_of_lookup isF) rfl
    obtain ⟨u, r, q⟩ := hl i y v e1 e2 (k2.elim (fun k => .inr (.inl k)) fun k => .inr (.inr k))
    obtain ⟨c2, h2⟩ := look isF
    have c1 := cm h2
    refine ⟨u, r, .inr ⟨.inr isF, c2, h2, ?_⟩⟩
    rcases
            q with ⟨k', _⟩ | ⟨_, c3, e', z⟩
    · have
            k' : X.env.scope.names.lookup y = some .local := k'
      rcases k2 with k2 | k2 <;> rw [show X.env.scope.names.lookup y = _ from k2] at k' <;> cases k'
    · rw [c1] at e'
      cases e'
      exact cellK z
  · obtain ⟨v, z⟩ := I.cell y c (cm e)
    exact ⟨v, cellK z⟩
  · have hp : p ∈ pn := by simpa using hp
    obtain ⟨h1, h2, h3⟩ := hpn p hp
    refine ⟨h1, pnH p hp, Nat.ne_of_gt h2, fun z => ?_, h3⟩
    rcases
            List.mem_cons.mp (I.stkSub _ z) with e | e
    · have := I.lt
      rw [← e] at this
      exact absurd (Nat.lt_trans this h2) (Nat.lt_irrefl _)
    · exact I.nofs (Nat.le_of_lt h2) e
end
end Dy

/-! text G2 -/
namespace Dy
open GenW L2 PyProof.Rows PySem.Spec PySem

/-! ### the consumer's own cells: pa a ps: the cells ps tell the running value a -/
abbrev Pa (α : Type) := α → List (Addr × Obj) → Prop
/-- while the generator sleeps its consumer has turned its own cells (at ad) alone; they tell a now -/
structure Slp {α : Type} (pa : Pa α) (ad : List Addr) (a : α) (s s' : Shared) : Prop where
  os : s'.os = s.os
  bare : AllBare s'.gens
  keep : ∀ b o, b ∉ ad → s.heap.get? b = some o → s'.heap.get? b = some o
  own : ∃ ps, pa a ps ∧ ps.map (·.1) = ad ∧ ∀ p ∈ ps, s'.heap.get? p.1 = some p.2 ∧ ∀ v, p.2.data ≠ .cell v
/-- the consumer's cells lie behind the generator's making -/
def Apt (X : Cx) (ad : List Addr) : Prop := ∀ b ∈ ad, X.s_0.heap.objs.size ≤ b ∧ b ≠ X.env.locals ∧ (∀ x c, X.env.cells.lookup x = some c → c ≠ b) ∧ (∀ p ∈ X.pn, p.1 ≠ b) ∧ b ∉ X.ex
section
variable {α : Type} {X : Cx} {pa : Pa α} {ad : List Addr} {a a' : α} {ps : List (Addr × Obj)} {σ : L2.St} {H : Hp} {s s' : Shared}
theorem woken (I : Inv X ps σ H s) (hp : ps.map (·.1) = ad) (A : Apt X ad) (z : Slp pa ad a' s s') : ∃ ps', pa a' ps' ∧ ps'.map (·.1) = ad ∧ Inv X ps' σ H s' ∧ ∀ p ∈ ps', s'.heap.get? p.1 = some p.2 := by
  obtain ⟨z1, z2, z3, ps', h1, h2, h3⟩ := z
  have hin : ∀ b ∈ ad, H b = none ∧ b ≠ X.env.locals ∧ b ∉ X.fs := fun b hb => by
    rw [← hp] at hb
    obtain ⟨p, hp1, hp2⟩ := List.mem_map.mp hb
    obtain ⟨_, q1, q2, q3, _⟩ := I.pin p (List.mem_append_right _ hp1)
    rw [← hp2]
    exact ⟨q1, q2, q3⟩
  have I0 : Inv X [] σ H s := I.pins_of fun p hp => nomatch hp
  obtain ⟨hh, g, d, t, o⟩ := s'
  have ho : o = s.os := z1
  subst ho
  have nt : ∀ b u, H b = some u → b ∉ ad := fun b u q hb => by
    rw [(hin b hb).1] at q
    cases q
  have J : Inv X [] σ H { s with heap := hh, gens := g, drawn := d, toks := t } := by
    refine I0.step (g' := g) (t' := t) (d' := d) (ch := ad) (fun b hb => ⟨.inr (A b hb).1, (A b hb).2.1, (A b hb).2.2.1, fun p hp => ?_⟩)
      (fun b ob _ _ hc q _ => z3 b ob hc q) (fun b ob _ _ hc q _ => ⟨ob.slots, z3 b ob hc q⟩) (fun _ _ _ _ n => n) (fun b ob hc q => ⟨ob, z3 b ob hc q⟩)
      (fun _
              _ q => q) (fun _ _ _ q => q) (fun b ps q => ⟨#[], by rw [q]; simp⟩) (fun m hm => ?_) (fun b u q => ?_) z2
    · exact (A b hb).2.2.2.1 p (by simpa using hp)
    · obtain ⟨ob, es, ep, hob, r⟩ := hm
      exact ⟨ob, es, ep, z3 _ ob (fun hb => (A _ hb).2.1 rfl) hob, r⟩
    · refine
            (I0.hok b u q).stay (fun c v hc y => z3 c v ?_ y) (fun _ y => y) fun _ _ y => y
      rcases hc with y | y
      · rw [y]
        exact nt b u q
      · exact nt c _ y
  refine ⟨ps', h1, h2, J.pins_of fun p hp => ?_, fun p hp => (h3 p hp).1⟩
  have hb : p.1 ∈ ad := by
    rw [← h2]
    exact List.mem_map.mpr ⟨p, hp, rfl⟩
  exact ⟨(h3 p hp).1, (hin _ hb).1, (hin _ hb).2.1, (hin _ hb).2.2, (h3 p hp).2⟩
end

/-- what a consumer does with an item: from the running value a, the item y, the heap, go on with a value -/
abbrev Rcv (α : Type) := α → V → Hp → (α → Prop) → Prop
/-- a turn's words: W by the turn, a measure, the running value, the heap -/
def gxTurns {α : Type} (J : It) (g : TG) (tt : TT) (te : TE) (vs : List Nat) (rc : Rcv α) (F : α → Hp → Prop) (σ : L2.St) (W : Nat → Nat → α → Hp → Prop) : Prop :=
  ∀ i m a H, W i m a H → (J.stop i H ∧ F a H) ∨ (J.go i H ∧ ∃ Nx : α → Hp → Prop, (∀ a' H', Nx a' H' → ∃ m', m' < m ∧ W (i + 1) m' a' H') ∧
    ∀ x H', J.yld i H x H' → g x (wipe σ vs) H' fun σ2 H2 => wipe σ2 vs = wipe σ vs ∧ tt σ2 H2 fun b H3 =>
      if b = true then te σ2 H3 fun y H4 => rc a y H4 (fun a' => Nx a' H4) else Nx a H3)

/-- an item is handed out: the cells stand as when the generator was woken -/
def GYx {α : Type} (X : Cx) (pa : Pa α) (ad : List Addr) (rc : Rcv α) : Protocol := fun _ s₀ v s kap =>
  ∃ (a : α) (y : V) (σ : L2.St) (H : Hp) (ps : List (Addr × Obj)), pa a ps ∧ ps.map (·.1) = ad ∧ Inv X ps σ H s ∧ (∀ p ∈ ps, s₀.heap.get? p.1 = some p.2) ∧ RelV y v ∧
    rc a y H fun a' => ∀ s', Slp pa ad a' s s' → kap (.send .none) s'
def GRx {α : Type} (X : Cx) (pa : Pa α) (ad : List Addr) (F : α → Hp → Prop) : GenEnd := fun _ s₀ r s =>
  r = .ok .next ∧ ∃ (a : α) (σ : L2.St) (H : Hp) (ps : List (Addr × Obj)), pa a ps ∧ ps.map (·.1) = ad ∧ Inv X ps σ H s ∧ (∀ p ∈ ps, s₀.heap.get? p.1 = some p.2) ∧ F a H

section
variable {α : Type} {X : Cx} {pa : Pa α} {ad : List Addr} {rc : Rcv α} {F : α → Hp → Prop}
/-- the generator's turns -/
theorem seg_gx {B : Around} {elt tg iter : Expr} {ifs : List Expr} {scope : Scope} {gpos : Pos} {it : Addr} {fp : List Addr} {tn : Nat → Heap → Prop} {J : It} {g : TG} {tt : TT} {te : TE} {vs : List Nat} {σ : L2.St} {W : Nat → Nat → α → Hp → Prop}
    (mono : ∀ a y H (k k' : α → Prop), (∀ a', k a' → k' a') → rc a y H k → rc a y H k')
    (hA : X.A = B.deeper X.env) (hc : X.calm = true) (hxe : X.xe = fun _ _ => False) (hco : X.env.scope.isCoroutine = false) (hex : X.ex = fp) (hpx : ∀ p ∈ X.pn, p.1 ∉ X.ex) (Ap : Apt X ad)
    (T : Turn X.prog X.w X.K tg J fp it tn) (pg : PG X tg g) (pt : PTs X ifs tt) (pe : PE X elt te) (turn : gxTurns J g tt te vs rc F σ W) :
    ∀ (m n i : Nat) (a : α) (s₀ s : Shared) (H : Hp) (ps : List (Addr × Obj)), m < n → W i m a H → pa a ps → ps.map (·.1) = ad → (∀ p ∈ ps, s₀.heap.get? p.1 = some p.2) → Inv X ps (wipe σ vs) H s → tn i s.heap → (∀ b ∈ fp, H b = none) →
      Seg (model X.prog X.w) B (GRx X pa ad F) (GYx X pa ad rc) n s₀ (.compLoop (gcode elt tg iter ifs scope gpos) 0 (.ref it) .none X.env)
        ((model X.prog X.w).den (.compLoop (gcode elt tg iter ifs scope gpos) 0 (.ref it) .none X.env)) [] s := by
  intro m
  induction
          m using Nat.strongRecOn with
  | ind m ih =>
    intro n i a s₀ s H ps hmn w hpa hpm hs0 I st hn
    have stat : ∀ {σ' : L2.St} {H' : Hp} {s' : Shared}, Inv X ps σ' H' s' → (∀ b ∈ fp, H' b = none) → ∀ b ∈ fp, FpOk X ps H' b := fun {σ' H' s'} I' hn b hb => by
      have hb' : b ∈ X.ex := by rw [hex]; exact hb
      refine ⟨hn b hb, (I'.ok.exf b hb').1, I'.ok.exfs b hb', .inl hb', fun x c e => (I'.ok.exf b hb').2 x c e, fun p hp => ?_⟩
      rcases
              List.mem_append.mp hp with z | z
      · exact fun e => hpx p z (by rw [e]; exact hb')
      · have q : p.1 ∈ ad := by rw [← hpm]; exact List.mem_map.mpr ⟨p, z, rfl⟩
        intro e
        exact (Ap _ q).2.2.2.2 (by rw [e]; exact hb')
    have over : B.over (.compLoop (gcode elt tg iter ifs scope gpos) 0 (.ref it) .none X.env) [] = X.A := over_gx.trans hA.symm
    show Seg _ B _ _ _ s₀ _ ((compTurn (gcode elt tg iter ifs scope gpos) 0 (.ref it) .none X.env).onRaise (leaving X.env)) [] s
    rw [compTurn_gen,
            Sem.onRaise_eq_wrap]
    refine seg_bind_wrap (wpAny_standAt (seg_bind_wrap ?_))
    rw [over]
    rcases turn i m a H w with ⟨stop, hF⟩ | ⟨go, Nx, hNx, step⟩
    · refine thnF (T.done X rfl rfl rfl hc i ps s _ H (fun _ _ => False) I (stat I hn) st stop) fun r s1 ⟨hr, I1⟩ => ?_
      subst hr
      exact seg_end (.ok .next) ⟨rfl, a, _, H, ps, hpa, hpm, I1, hs0, hF⟩
    · refine thnF (T.item X rfl rfl rfl hc i ps s _ H (fun _ _ => False) I (stat I hn) st go) fun r s1 ⟨u, hr, h1⟩ => ?_
      subst hr
      refine seg_bind_wrap ?_
      rw [over]
      refine thnF h1 fun _ s2 ⟨x, H2, I2, r2, y2, st2, n2⟩ => ?_
      have I2' := I2.pinned (stat I2 n2) (T.obj _ _ st2)
      refine seg_bind_wrap ?_
      rw [over]
      have pgr := pg.run _ s2 _ H2 x u _ I2' r2 (step x H2 y2)
      have ptr := pt.run
      have per := pe.run
      rw [hxe] at pgr ptr per
      refine thnF pgr fun _ s3 ⟨σ3, H3, I3, hw3, q3⟩ => ?_
      refine seg_bind_wrap ?_
      rw [over]
      refine thnF (ptr _ s3 σ3 H3 _ I3 q3) fun b s4 ⟨H4, I4, q4⟩ => ?_
      -- where the iterator stands, from a later state of this turn
      have later : ∀ {s' : Shared} {H' : Hp}, Inv X (ps ++ pinsAt fp s2.heap) σ3 H' s' → Inv X ps (wipe σ vs) H' s' ∧ tn (i + 1) s'.heap ∧ (∀ b ∈ fp, H' b = none) := fun {s' H'} I' => by
        have pin' : ∀ b ∈ fp, ∀ o, s2.heap.get? b = some o → s'.heap.get? b = some o ∧ H' b = none := fun b hb o e =>
          let
                  z := I'.pin (b, o) (List.mem_append_right _ (List.mem_append_right _ (mem_pinsAt hb e)))
          ⟨z.1, z.2.1⟩
        have hl : (wipe σ vs).length = σ3.length := by rw [← hw3, wipe_length]
        refine ⟨I'.unpinned.weak hl (fun j v e => ?_), T.keep _ _ _ st2 fun b hb o e => (pin' b hb o e).1, fun b hb => ?_⟩
        · rw [← hw3] at e
          exact (wipe_some e).1
        · obtain ⟨o, e, _⟩ := T.obj _ _ st2 b hb
          exact (pin' b hb o e).2
      cases b with
      | false =>
        simp only [Bool.false_eq_true, if_false] at q4 ⊢
        obtain ⟨m', hm, w'⟩ := hNx a H4 q4
        obtain ⟨l1, l2, l3⟩ := later I4
        exact seg_again rfl (ih m' hm n (i + 1) a s₀ s4 H4 ps (by omega) w' hpa hpm hs0 l1 l2 l3)
      | true =>
        simp only [if_true] at q4 ⊢
        have hy : ∀ v, yieldOut X.env v = yieldValue v := fun v => by simp only [yieldOut, hco, Bool.false_eq_true, if_false]
        simp only [hy]
        rw [Sem.bind_eq_wrap',
                Sem.bind_eq_wrap', Sem.wrap_wrap, Sem.wrap_wrap]
        refine seg_wrap ?_
        rw [over]
        refine thnF (per _ s4 σ3 H4 _ I4 q4) fun v s5 ⟨y, H5, I5, r5, q5⟩ => ?_
        obtain ⟨n, rfl⟩ : ∃ k, n = k + 1 := ⟨n - 1, by omega⟩
        refine seg_at (seg_yield rfl rfl rfl ?_)
        obtain ⟨l1, l2, l3⟩ := later I5
        refine ⟨a, y, _, H5, ps, hpa, hpm, l1, hs0, r5, mono _ _ _ _ _ (fun a' nx s' z => ?_) q5⟩
        obtain ⟨m', hm, w'⟩ := hNx a' H5 nx
        have hfa : ∀ b ∈ fp, b ∉ ad := fun b hb hq => (Ap b hq).2.2.2.2 (by rw [hex]; exact hb)
        obtain ⟨ps', k1, k2, k3, k4⟩ := woken l1 hpm Ap z
        refine seg_again rfl (ih m' hm n (i + 1) a' s' s' H5 ps' (by omega) w' k1 k2 k4 k3 (T.keep _ _ _ l2 fun b hb o e => z.keep b o (hfa b hb) e) l3)
/-- its start -/
theorem seg_gs {B : Around} {elt tg iter : Expr} {ifs : List Expr} {scope : Scope} {gpos : Pos} {it : Addr} {fp : List Addr} {tn : Nat → Heap → Prop} {J : It} {n : Nat} {s₀ s : Shared} {H : Hp}
    (hA : X.A = B.deeper X.env) (T : Turn X.prog X.w X.K tg J fp it tn) (st : tn 0 s.heap) {R : GenEnd} {Y : Protocol}
    (loop : Seg (model X.prog X.w) B R Y n s₀ (.compLoop (gcode elt tg iter ifs scope gpos) 0 (.ref it) .none X.env) ((model X.prog X.w).den (.compLoop (gcode elt tg iter ifs scope gpos) 0 (.ref it) .none X.env)) [] s) :
    Seg (model X.prog X.w) B R Y n s₀ (.compStart (gcode elt tg iter ifs scope gpos) 0 (.ref it) .none X.env) ((model X.prog X.w).den (.compStart (gcode elt tg iter ifs scope gpos) 0 (.ref it) .none X.env)) [] s := by
  show Seg _ B _ _ _ s₀ _ ((compStart (gcode elt tg iter ifs scope gpos) 0 (.ref it) .none X.env).onRaise (leaving X.env)) [] s
  unfold compStart
  rw [Sem.onRaise_eq_wrap]
  show Seg _ B _ _ _ s₀ _ ((ask >>= _).wrap _ _ _ _) [] s
  refine
          seg_bind_wrap (wpAny_askSetting ?_)
  split
  · exact seg_again rfl loop
  · refine seg_bind_wrap (wpAny_rule ?_)
    show Seg _ B _ _ _ s₀ _ ((standAt iter.pos >>= _).wrap _ _ _ _) [] s
    refine seg_bind_wrap (wpAny_standAt (seg_bind_wrap ?_))
    exact T.self _ 0 s _ _ st (seg_again rfl loop)
end
end Dy

/-! text G3 -/
namespace Dy
open GenW L2 PyProof.Rows PySem.Spec PySem

/-! ### tables of code objects: those at the places lam bear the name q -/
def TabW (H : Hp) (P : Addr) (lam : List (Nat × Nat)) (q : Str) : Prop := ∃ ps : Array Value, H P = some (.tbl ps) ∧ TriplesOk ps.toList ∧
  ∀ (pos : Pos) (cv : Value), codeAmong pos ps.toList = some cv → (pos.line, pos.col) ∈ lam → ∃ c, cv = .ref c ∧ H c = some (LamX.CodeO c q)
/-- the table at P has grown, all else stands -/
def Grown (P : Addr) (lam : List (Nat × Nat)) (q : Str) (H H' : Hp) : Prop := TabW H' P lam q ∧ ∀ b, b ≠ P → H' b = H b
theorem TabW.nil {H : Hp} {P : Addr} {lam : List (Nat × Nat)} {q : Str} (h : H P = some (.tbl #[])) : TabW H P lam q := ⟨#[], h, True.intro, fun pos cv hc => by
  have
          z : codeAmong pos [] = some cv := hc
  simp [codeAmong] at z⟩

theorem gens_any {X : Cx} {pins : List (Addr × Obj)} {σ : L2.St} {H : Hp} {s : Shared} (I : Inv X pins σ H s) {g : Array GenState} (hg : AllBare g) : Inv X pins σ H { s with gens := g } :=
  ⟨I.ok, I.os, hg, I.base, I.loc, I.cell, I.free, I.freeC, I.pin, I.hok, I.len⟩

section
variable
        {X : Cx} {pins : List (Addr × Obj)} {σ : L2.St} {H : Hp} {s : Shared}
/-- the table has grown: the state bears it -/
theorem inv_tabW {P : Addr} {lam : List (Nat × Nat)} {q : Str} {ps more : Array Value} {h' : Heap} {t' : Nat} (I : Inv X pins σ H s) (hP : H P = some (.tbl ps)) (k : ∀ b o, b ≠ P → s.heap.get? b = some o → h'.get? b = some o)
    (hm : h'.get? P = some { cls := .none, data := .fields (ps ++ more) }) :
    Inv X pins σ (upd H P (.tbl (ps ++ more))) { s with heap := h', toks := t' } := by
  have
          nP : ∀ b u, H b = some u → (∀ q, u ≠ .tbl q) → b ≠ P := fun b u e q z => by
    rw [z, hP] at e
    exact
            q ps (Option.some.inj e).symm
  have
          nN : ∀ b, H b = none → b ≠ P := fun b e z => by
    rw [z, hP] at e
    cases e
  refine
          I.step (g' := s.gens) (d' := s.drawn) (ch := []) (fun b hb => absurd hb (by simp)) (fun b o _ _ _ e n => k b o (nN b n) e) (fun b o _ _ _ e n => ⟨o.slots, k b o (nN b n) e⟩)
    (fun b o _ e n => (upd_ne (nN b n)).trans n) (fun b o _ e => ?_) (fun b xs e => (upd_ne (nP b _ e (fun q z => by cases z))).trans e) (fun b o u e => (upd_ne (nP b _ e (fun q z => by cases z))).trans e) (fun b qs e => ?_) (fun m hn => ?_) (fun b u e => ?_) I.bare
  · by_cases hb : b = P
    · rw [hb]
      exact ⟨_, hm⟩
    · exact ⟨o, k b o hb e⟩
  · by_cases hb : b = P
    · rw [hb, hP] at e
      cases e
      rw [hb]
      exact ⟨more, upd_same⟩
    · exact ⟨#[], by rw [upd_ne hb, e]; simp⟩
  · obtain
          ⟨ob, es, ep, ho, r⟩ := hn
    exact
            ⟨ob, es, ep, k _ ob (nN _ I.free) ho, r⟩
  · by_cases hb2 : b = P
    · rw [hb2, upd_same] at e
      cases e
      rw [hb2]
      exact hm
    · rw [upd_ne hb2] at e
      refine (I.hok b u e).stay (fun d v hd q => k d v ?_ q) (fun d q => (upd_ne (nP d _ q (fun q z => by cases z))).trans q) fun d xs q => (upd_ne (nP d _ q (fun q z => by cases z))).trans q
      rcases hd with z | z
      · rw [z]
        exact hb2
      · exact
              nP d _ z (fun q z => by cases z)

/-- a generator that has not begun -/
structure GxMade (X : Cx) (pins : List (Addr × Obj)) (σ : L2.St) (elt tg iter : Expr) (ifs : List Expr) (scope : Scope) (gpos : Pos) (J : It) (H : Hp) (s3 : Shared) (g : Nat) (it : Addr) (fp : List Addr) (tn : Nat → Heap → Prop) (code : Value) (go : Obj) (a : Addr) (s5 : Shared) : Prop where
  I : Inv X pins σ H s3
  T : Turn X.prog X.w X.K tg J fp it tn
  fp : ∀ b ∈ fp, FpOk X pins H b ∧ b < s3.heap.objs.size
  st : tn 0 s5.heap
  lt : s3.heap.objs.size < a
  lt5 : a < s5.heap.objs.size
  at_ : s5.heap.get? a = some go
  gen : ∀ h : Heap, h.get? a = some go → h.IsGen a g
  nc : ∀ v, go.data ≠ .cell v
  fresh : s5.gens[g]? = some (.fresh (.compStart (gcode elt tg iter ifs scope gpos) 0 (.ref it) .none (gEnv X scope s3.heap.objs.size code)))
  os : s5.os = s3.os
  bare : AllBare s5.gens
  lim : s5.heap.NoLimit
  kp : ∀ b o, s3.heap.get? b = some o → s5.heap.get? b = some o
  ns : ∃ m0, s5.heap.Ns s3.heap.objs.size m0

/-- the making -/
theorem gx_make {elt tg iter : Expr} {ifs : List Expr} {scope : Scope} {gpos : Pos} {own : List (Str × Nat)} {c P : Addr} {lam : List (Nat × Nat)} {q : Str} {k : Nat} {wi : TI} {R : It → Hp → Prop} {Q' : Value → Shared → Prop}
    (hr : Room k X.A) (TB : LamX.TabB X.base X.mg c P) (hcode : X.env.code = .ref c) (ok : GxOk X.N X.env.scope scope own) (hi : PI X tg iter wi) (hs : ∀ v, genFold iter X.env v = pure v) (hl : (gpos.line, gpos.col) ∉ lam)
    (I : Inv X pins σ H s) (h : wi σ H fun J H1 => TabW H1 P lam q ∧ ∀ H2, Grown P lam q H1 H2 → R J H2)
    (hQ : ∀ J H2 s3 g it fp tn code go a s5, R J H2 → GxMade X pins σ elt tg iter ifs scope gpos J H2 s3 g it fp tn code go a s5 → Q' (.ref a) s5) :
    wpAny (model X.prog X.w) X.A (eval (gcode elt tg iter ifs scope gpos) X.env) Q' X.xe s := by
  refine wpAny_GeneratorExp_make ok.co (closure_ok (gx_free ok I.ok)) ok.cell ok.dot ok.blk.kind (by have := hr.dp; omega) ?_ hs
  refine thn (hi.run pins s σ H _ I h) fun xv s1 h1 => thn h1 fun itv s2 h2 => ?_
  obtain ⟨it, fp, tn, J, H1, rfl, I2, T, st2, f2, ⟨ps, hP, ht, hlam⟩, hR⟩ := h2
  refine ⟨I2.nolimit, ?_⟩
  have hPs : s2.heap.get? P = some { cls := .none, data := .fields ps } := I2.hok P _ hP
  have cd : PySem.W.CodeHd s2.heap c P := TB.code.keeps fun b u e => I2.bk b u e
  have
          sz : ∀ b ∈ fp, b < s2.heap.objs.size := fun b hb => by
    obtain
            ⟨o, e, _⟩ := T.obj _ _ st2 b hb
    exact Heap.lt_size e
  have fin : ∀ (code : Value) (s3 : Shared) (H2 : Hp), Inv X pins σ H2 s3 → Grown P lam q H1 H2 → tn 0 s3.heap → (∀ b, H1 b = none → b < s2.heap.objs.size → H2 b = none) → s2.heap.objs.size ≤ s3.heap.objs.size →
      wpAny (model X.prog X.w) X.A (builtinsFor X.env.globals X.env.builtins) (fun bi s₄ => ∀ h', h'.Ns s₄.heap.objs.size (fun y => if y = ".0" then some (.ref it) else none) →
        Heap.SameBut s₄.heap.objs.size (s₄.heap.push { cls := .type "frame", data := .dict #[] }) h' →
        Q' (.ref h'.objs.size) { s₄ with
          gens := s₄.gens.push (.fresh (.compStart (gcode elt tg iter ifs scope gpos) 0 (.ref it) .none (genEnv scope (cloFrom X.env.cells scope.names []) s₄.heap.objs.size code bi X.env))),
          toks := s₄.toks + 1 + 1 + 1,
          heap := h'.push { cls := .type "generator", data := .fields #[.int s₄.gens.size 0, .str "<genexpr>" (s₄.toks + 1), .str (X.env.qual ++ "<genexpr>") (s₄.toks + 1 + 1)] } }) X.xe s3 := by
    intro code s3 H2 I3 gr st3 fr hsz
    obtain
            ⟨bm, ob, e1, e2, e3, e4, e5, e6, e7, e8⟩ := TB.bm
    refine wpAny_builtinsFor (m := X.mg) (by rw [I3.ok.glob]; exact I3.mod.glob.keeps I3.bk) e1 e2 (I3.bk _ _ e5) e6 e7 e8 ?_
    intro h' hns hsb
    have sz' : h'.objs.size = s3.heap.objs.size + 1 := by rw [hsb.1, Heap.size_push]
    have kp' : ∀ b o, s3.heap.get? b = some o → h'.get? b = some o := fun b o e => hsb.extBut b o (Nat.ne_of_lt (Heap.lt_size e)) (Heap.get?_push_of_some _ e)
    refine hQ J H2 s3 _ it fp tn code _ _ _ (hR H2 gr) ⟨I3, T, fun b hb => ?_, ?_, by omega, ?_, Heap.get?_push_size _ rfl, fun h e => ⟨_, _, _, e, rfl, rfl, rfl⟩, fun v z => (by cases z), Array.getElem?_push_size .., rfl, I3.bare.push rfl, ?_, ?_, ⟨_, hns.push _⟩⟩
    · have hlt := sz b hb
      obtain ⟨f0, frest⟩ := f2 b hb
      exact ⟨⟨fr b f0 hlt, frest⟩, Nat.lt_of_lt_of_le hlt hsz⟩
    · exact T.keep _ _ _ st3 fun b hb o e => Heap.get?_push_of_some _ (kp' b o e)
    · show h'.objs.size < (h'.push _).objs.size
      rw [Heap.size_push]
      exact Nat.lt_succ_self _
    · exact I3.nolimit.keeps fun b o e => Heap.get?_push_of_some _ (kp' b o e)
    · exact fun b o e => Heap.get?_push_of_some _ (kp' b o e)
  have hne : ∀ b, H1 b = none → b ≠ P := fun b e z => by
    rw [z, hP] at e
    cases e
  cases
          hf : codeAmong gpos ps.toList with
  | none =>
    refine wpAny_genexprCodeX hcode (cd.code hPs ht) (cd.tab hPs) hf fun c' h' tk hx hge hlt hco' hrec htab' _ => ?_
    obtain ⟨o1, vs, f1, tf, fl, tg', inF, tx, tt, op, _, _, _, _, _, _, _, _, _, htr, _⟩ := hco'
    have I3 : Inv X pins σ (upd H1 P (.tbl (ps ++ #[rawInt gpos.line, rawInt gpos.col, .ref c']))) { s2 with heap := h', toks := tk } := inv_tabW (lam := lam) (q := q) I2 hP (fun b o hb e => hx b o hb e) htab'.2
    have hlt' : s2.heap.objs.size ≤ h'.objs.size := Nat.le_trans hge (Nat.le_of_lt hlt)
    have neP : ∀ b ∈ fp, b ≠ P := fun b hb => hne b (f2 b hb).1
    refine fin _ _ _ I3 ⟨⟨_, upd_same, htr, fun pos cv hcv hm => ?_⟩, fun b hb => upd_ne hb⟩ (T.keep _ _ _ st2 fun b hb o e => hx b o (neP b hb) e) (fun b hb hlt => (upd_ne (hne b hb)).trans hb) hlt'
    have eL : (ps ++ #[rawInt gpos.line, rawInt gpos.col, .ref c']).toList = ps.toList ++ [rawInt gpos.line, rawInt gpos.col, .ref c'] := by simp
    rw [eL] at hcv
    rcases NdefX.among_app2 _ ht hcv with z | ⟨_, z1, z2⟩
    · obtain ⟨c0, k1, k2⟩ := hlam pos cv z hm
      refine ⟨c0, k1, ?_⟩
      rw [upd_ne]
      · exact k2
      · intro z
        rw [z, hP] at k2
        exact LamX.codeO_ne ps (Option.some.inj k2).symm
    · rw [← z1, ← z2] at hm
      exact absurd hm hl
  | some cv =>
    refine wpAny_genexprCode_hit hcode (cd.code hPs ht) hf ?_
    exact fin cv s2 H1 I2 ⟨⟨ps, hP, ht, hlam⟩, fun _ _ => rfl⟩ st2 (fun b hb _ => hb) (Nat.le_refl _)
end
end Dy

/-! text G4 -/
namespace Dy
open GenW L2 PyProof.Rows PySem.Spec PySem

/-- the consumer's state: the generator sleeps, n items at most are to come, av is told by the consumer's cells -/
structure Zs {α : Type} (Xg : Cx) (B : Around) (pa : Pa α) (ad : List Addr) (rc : Rcv α) (F : α → Hp → Prop) (a : Addr) (g n : Nat) (av : α) (s : Shared) : Prop where
  gen : s.heap.IsGen a g
  lim : s.heap.NoLimit
  bare : AllBare s.gens
  own : ∃ ps, pa av ps ∧ ps.map (·.1) = ad ∧ ∀ p ∈ ps, s.heap.get? p.1 = some p.2
  goes : ∃ gs, s.gens[g]? = some gs ∧ gs.Goes (model Xg.prog Xg.w) B (GRx Xg pa ad F) (GYx Xg pa ad rc) n (.send .none) (s.setGen g .running)

section
variable {α : Type} {X : Cx} {pins : List (Addr × Obj)} {σ : L2.St} {elt tg iter : Expr} {ifs : List Expr} {scope : Scope} {gpos : Pos} {J : It} {H : Hp} {s3 : Shared} {g : Nat} {it : Addr} {fp : List Addr} {tn : Nat → Heap → Prop} {code : Value} {go : Obj} {a : Addr} {s5 : Shared}
  {B : Around} {pa : Pa α} {ad : List Addr} {rc : Rcv α} {F : α → Hp → Prop}
theorem gx_back {ps : List (Addr × Obj)} {σ' : L2.St} {H' : Hp} {s' : Shared} (M : GxMade X pins σ elt tg iter ifs scope gpos J H s3 g it fp tn code go a s5) (I : Inv (gCx X B s3 H scope s3.heap.objs.size code fp [(a, go)]) ps σ' H' s') : Inv X pins σ H' s' :=
  M.I.call' (ch := fp) I.os I.base I.hok I.bare fun b hb => ⟨(M.fp b hb).1.2.2.2.1, (M.fp b hb).1.2.1, (M.fp b hb).1.2.2.2.2.1, (M.fp b hb).1.2.2.2.2.2⟩

theorem zs_start {gg : TG} {tt : TT} {te : TE} {own : List (Str × Nat)} {W : Nat → Nat → α → Hp → Prop} {m0 : Nat} {a0 : α} {s6 : Shared} {ps : List (Addr × Obj)}
    (M : GxMade X pins σ elt tg iter ifs scope gpos J H s3 g it fp tn code go a s5) (hN : X.N.Nodup) (ok : GxOk X.N X.env.scope scope own) (hB : B.frames = some X.stack) (hBh : B.handled = none)
    (mono : ∀ a y H (k k' : α → Prop), (∀ a', k a' → k' a') → rc a y H k → rc a y H k')
    (pg : PG (gCx X B s3 H scope s3.heap.objs.size code fp [(a, go)]) tg gg) (pt : PTs (gCx X B s3 H scope s3.heap.objs.size code fp [(a, go)]) ifs tt) (pe : PE (gCx X B s3 H scope s3.heap.objs.size code fp [(a, go)]) elt te)
    (turn : gxTurns J gg tt te (own.map (·.2)) rc F σ W) (w0 : W 0 m0 a0 H) (k6 : ∀ b o, s5.heap.get? b = some o → s6.heap.get? b = some o) (g6 : s6.gens = s5.gens) (os6 : s6.os = s5.os)
    (hp : pa a0 ps) (hpm : ps.map (·.1) = ad) (hps : ∀ p ∈ ps, s6.heap.get? p.1 = some p.2 ∧ s5.heap.objs.size ≤ p.1 ∧ ∀ v, p.2.data ≠ .cell v) :
    Zs (gCx X B s3 H scope s3.heap.objs.size code fp [(a, go)]) B pa ad rc F a g (m0 + 1) a0 s6 := by
  have hga : s6.heap.get? a = some go := k6 a go M.at_
  have bare6 : AllBare s6.gens := by
    rw [g6]
    exact M.bare
  refine ⟨M.gen _ hga, M.lim.keeps k6, bare6, ⟨ps, hp, hpm, fun p hq => (hps p hq).1⟩, _, by rw [g6]; exact M.fresh, ?_⟩
  refine ⟨rfl, ?_⟩
  obtain ⟨m1, hns⟩ := M.ns
  have kp36 : ∀ b o, s3.heap.get? b = some o → s6.heap.get? b = some o := fun b o e => k6 b o (M.kp b o e)
  have I0 : Inv (gCx X B s3 H scope s3.heap.objs.size code fp [(a, go)]) [] (wipe σ (own.map (·.2))) H (s6.setGen g .running) := by
    refine gx_start (m0 := m1) M.I ok hN M.fp hB hBh (hns.keeps k6) kp36 (os6.trans M.os) (allBare_setGen bare6 rfl) fun p hq => ?_
    rw [List.mem_singleton.mp hq]
    exact ⟨hga, M.lt, M.nc⟩
  have l5 : s3.heap.objs.size < s5.heap.objs.size := Nat.lt_trans M.lt M.lt5
  have young : ∀ b, s5.heap.objs.size ≤ b → H b = none ∧ b ≠ s3.heap.objs.size ∧ b ∉ frs X.stack := fun b hb => by
    have h3 : s3.heap.objs.size < b := Nat.lt_of_lt_of_le l5 hb
    refine ⟨M.I.hok.fresh (Nat.le_of_lt h3), Nat.ne_of_gt h3, fun z => ?_⟩
    rcases List.mem_cons.mp (M.I.stkSub _ z) with e | e
    · have q := M.I.lt
      rw [← e] at q
      exact absurd (Nat.lt_trans q h3) (Nat.lt_irrefl _)
    · exact M.I.nofs (Nat.le_of_lt h3) e
  have I1 : Inv (gCx X B s3 H scope s3.heap.objs.size code fp [(a, go)]) ps (wipe σ (own.map (·.2))) H (s6.setGen g .running) := I0.pins_of fun p hq => by
    obtain ⟨h1, h2, h3⟩ := hps p hq
    obtain ⟨y1, y2, y3⟩ := young p.1 h2
    exact ⟨h1, y1, y2, y3, h3⟩
  have Ap : Apt (gCx X B s3 H scope s3.heap.objs.size code fp [(a, go)]) ad := fun b hb => by
    rw [← hpm] at hb
    obtain ⟨p, hq, rfl⟩ := List.mem_map.mp hb
    obtain ⟨_, h2, _⟩ := hps p hq
    obtain ⟨y1, y2, y3⟩ := young p.1 h2
    have h3 : s3.heap.objs.size < p.1 := Nat.lt_of_lt_of_le l5 h2
    refine ⟨Nat.le_of_lt h3, y2, fun x c e z => ?_, fun r hr z => ?_, fun z => ?_⟩
    · obtain ⟨v, q⟩ := I0.cell x c e
      obtain ⟨o, ho, _⟩ := q
      have e2 := NdefX.clo_cm (gx_free ok M.I.ok) (show (cloFrom X.env.cells scope.names []).lookup x = some c from e)
      obtain ⟨v', q'⟩ := M.I.cell x c e2
      have := q'.lt
      rw [z] at this
      exact absurd (Nat.lt_trans this h3) (Nat.lt_irrefl _)
    · rw [List.mem_singleton.mp hr] at z
      have q : a = p.1 := z
      have := M.lt5
      rw [q] at this
      exact absurd (Nat.lt_of_lt_of_le this h2) (Nat.lt_irrefl _)
    · exact absurd (Nat.lt_trans (M.fp p.1 z).2 h3) (Nat.lt_irrefl _)
  have st6 : tn 0 (s6.setGen g .running).heap := M.T.keep _ _ s6.heap M.st fun b hb o e => k6 b o e
  refine seg_gs (X := gCx X B s3 H scope s3.heap.objs.size code fp [(a, go)]) (H := H) rfl M.T st6 ?_
  refine seg_gx (X := gCx X B s3 H scope s3.heap.objs.size code fp [(a, go)]) mono rfl rfl rfl ok.co rfl (fun p hq z => ?_) Ap M.T pg pt pe turn m0 (m0 + 1) 0 a0 _ _ H ps (Nat.lt_succ_self _) w0 hp hpm (fun p hq => (hps p hq).1) I1 st6 fun b hb => (M.fp b hb).1.1
  rw [List.mem_singleton.mp hq] at z
  exact absurd (Nat.lt_trans (M.fp a z).2 M.lt) (Nat.lt_irrefl _)

/-- the next item -/
theorem zs_next {A : Around} {n : Nat} {av : α} {s : Shared} {Q : Option Value → Shared → Prop} {E : Value → Shared → Prop}
    (hh : A.handled = none) (hroom : A.depth < recursionLimit) (z : Zs (gCx X A.in1 s3 H scope s3.heap.objs.size code fp [(a, go)]) A.in1 pa ad rc F a g n av s) (gen : ∀ h : Heap, h.get? a = some go → h.IsGen a g) (hap : a ∉ ad) (hcs : cStatics ∉ ad)
    (hY : ∀ (v : Value) (y : V) (a' : α) (σ' : L2.St) (H' : Hp) (ps : List (Addr × Obj)) (s1 : Shared), pa a' ps → ps.map (·.1) = ad → (∀ p ∈ ps, s.heap.get? p.1 = some p.2 ∧ s1.heap.get? p.1 = some p.2) →
      Inv (gCx X A.in1 s3 H scope s3.heap.objs.size code fp [(a, go)]) ps σ' H' s1 → RelV y v →
      rc a' y H' (fun b => ∀ s', s'.gens = s1.gens → Slp pa ad b s1 s' → 0 < n ∧ Zs (gCx X A.in1 s3 H scope s3.heap.objs.size code fp [(a, go)]) A.in1 pa ad rc F a g (n - 1) b s') → Q (some v) s1)
    (hD : ∀ (a' : α) (σ' : L2.St) (H' : Hp) (ps : List (Addr × Obj)) (s1 : Shared), pa a' ps → ps.map (·.1) = ad → (∀ p ∈ ps, s.heap.get? p.1 = some p.2 ∧ s1.heap.get? p.1 = some p.2) →
      Inv (gCx X A.in1 s3 H scope s3.heap.objs.size code fp [(a, go)]) ps σ' H' s1 → F a' H' → Q none s1)
    (mono : ∀ a y H (k k' : α → Prop), (∀ a', k a' → k' a') → rc a y H k → rc a y H k') :
    wpAny (model X.prog X.w) A (pyNext (.ref a)) Q E s := by
  obtain ⟨zg, zl, zb, zo, gs, zgs, zgo⟩ := z
  have hgl : g < s.gens.size := (Array.getElem?_eq_some_iff.mp zgs).1
  refine wpAny_gsz (n := g + 1) hgl ?_
  refine wpAny_pyNext_genexpQ (P := fun _ s₀ s => ∃ (b : α) (σ : L2.St) (H' : Hp) (ps : List (Addr × Obj)), pa b ps ∧ ps.map (·.1) = ad ∧ Inv (gCx X A.in1 s3 H scope s3.heap.objs.size code fp [(a, go)]) ps σ H' s ∧ (∀ p ∈ ps, s₀.heap.get? p.1 = some p.2) ∧ F b H')
    hh zl hroom zg zgs zgo (fun v s₁ gs' hb hv hsz => ?_) (fun s₁ hp h' hk hsz => ?_)
  · obtain ⟨a', y, σ', H', ps, h1, h2, I1, h3, h4, h5⟩ := hv
    have I2 : Inv (gCx X A.in1 s3 H scope s3.heap.objs.size code fp [(a, go)]) ps σ' H' (s₁.setGen g gs') := gens_any I1 (allBare_setGen I1.bare hb)
    refine hY v y a' σ' H' ps _ h1 h2 (fun p hp => ⟨h3 p hp, (I1.pin p (List.mem_append_right _ hp)).1⟩) I2 h4 (mono _ _ _ _ _ (fun b kb s' hgs hsl => ?_) h5)
    have hsz' : (s₁.setGen g gs').gens.size = s₁.gens.size := setGen_size _ _ _
    have hgl1 : g < s₁.gens.size := by
      have q : g + 1 ≤ (s₁.setGen g gs').gens.size := hsz
      omega
    have hg1 : s'.gens[g]? = some gs' := by
      rw [hgs]
      exact setGen_at hgl1
    have hga : s'.heap.get? a = some go := hsl.keep a go hap (I2.pin (a, go) (List.mem_append_left _ (List.mem_singleton.mpr rfl))).1
    obtain ⟨ps', k1, k2, k3⟩ := hsl.own
    have kk := kb (s'.setGen g .running) ⟨hsl.os, allBare_setGen hsl.bare rfl, hsl.keep, ⟨ps', k1, k2, k3⟩⟩
    cases n with
    | zero => exact kk.elim
    | succ m =>
      refine ⟨Nat.succ_pos m, gen _ hga, ?_, hsl.bare, ⟨ps', k1, k2, fun p hp => (k3 p hp).1⟩, gs', hg1, kk⟩
      obtain ⟨mc, hns, hnn⟩ := I2.nolimit
      exact ⟨mc, hns.at' fun o e => hsl.keep cStatics o hcs e, hnn⟩
  · obtain ⟨a', σ', H', ps, h1, h2, I1, h3, h4⟩ := hp
    have I2 : Inv (gCx X A.in1 s3 H scope s3.heap.objs.size code fp [(a, go)]) ps σ' H' { s₁.setGen g .finished with heap := h' } := by
      have := (gens_any I1 (allBare_setGen (s := s₁) (g := g) I1.bare (x := .finished) rfl)).kept (t' := s₁.toks) hk
      exact this
    exact hD a' σ' H' ps _ h1 h2 (fun p hp => ⟨h3 p hp, (I2.pin p (List.mem_append_right _ hp)).1⟩) I2 h4
end
end Dy

/-! text G5 -/
namespace Dy
open GenW L2 PyProof.Rows PySem.Spec PySem

/-! ### sum -/
abbrev sumO (S : Addr) (t : Int) (tA : Tok) (c : Nat) : Obj := { cls := .type "list", dict := none, data := .seq #[.int t tA] c, slots := #[] }
def paSum (S : Addr) : Pa Int := fun t ps => ∃ tA c, ps = [(S, sumO S t tA c)]
/-- sum's way with an item: an int, all within 63 bits -/
def rcSum : Rcv Int := fun t y _ k => ∃ z, y = .int z ∧ InLong z ∧ InLong (t + z) ∧ k (t + z)
theorem rcSum_mono (a : Int) (y : V) (H : Hp) (k k' : Int → Prop) (h : ∀ a', k a' → k' a') : rcSum a y H k → rcSum a y H k' := fun ⟨z, e, h1, h2, h3⟩ => ⟨z, e, h1, h2, h _ h3⟩
section
variable {X : Cx} {pins : List (Addr × Obj)} {σ : L2.St} {elt tg iter : Expr} {ifs : List Expr} {scope : Scope} {gpos : Pos} {J : It} {H : Hp} {s3 : Shared} {g : Nat} {it : Addr} {fp : List Addr} {tn : Nat → Heap → Prop} {code : Value} {go : Obj} {a : Addr} {s5 : Shared}
theorem EP_of {X : Cx} {pins : List (Addr × Obj)} {σ : L2.St} {H : Hp} {s : Shared} {Q : VK} {v : V} {u : Value} (I : Inv X pins σ H s) (r : RelV v u) (q : Q v H) : EP X pins σ Q u s := ⟨v, H, I, r, q⟩

theorem sum_loop {A : Around} {S : Addr} {Fi : Int → Hp → Prop} {R : Result → Shared → Prop} (hA : A.handled = none) (hd : A.depth < recursionLimit) (hSa : a ≠ S) (hSc : cStatics ≠ S) (gen : ∀ h : Heap, h.get? a = some go → h.IsGen a g)
    (hR : ∀ (t : Int) (tk : Tok) (σ' : L2.St) (H' : Hp) (ps : List (Addr × Obj)) (s1 : Shared), Inv (gCx X A.in1.in1 s3 H scope s3.heap.objs.size code fp [(a, go)]) ps σ' H' s1 → Fi t H' → R (.ok (.ret (.int t tk))) s1) :
    ∀ (n : Nat) (av : Int) (s : Shared), Zs (gCx X A.in1.in1 s3 H scope s3.heap.objs.size code fp [(a, go)]) A.in1.in1 (paSum S) [S] rcSum Fi a g n av s →
      codeAny (model X.prog X.w) A (.builtin "sum.loop" ⟨[.ref a, .ref S, rawInt 0, rawInt 0], []⟩) R s := by
  intro n
  induction
          n using Nat.strongRecOn with
  | ind n ih =>
    intro av s z
    obtain ⟨ps0, ⟨tA, c, rfl⟩, _, hS⟩ := z.own
    have hS0 := hS _ (List.mem_singleton.mpr rfl)
    refine
            codeAny_builtin F.entry_sum_loop ?_
    rw [Around.under_plainId
            F.plain_sum_loop _]
    show
            wpAny _ A.in1 (seqItems? (.ref S) >>= _) _ _ s
    refine wpAny_bind (wpAny_seqItems hS0 rfl ?_)
    show wpAny _ A.in1 (tryCatch (pyNext (.ref a)) _ >>= _) _ _ s
    refine wpAny_bind (wpAny_tryCatch (zs_next (A := A.in1) hA hd z gen (by simpa using hSa) (by simpa using hSc) (fun v y a' σ' H' ps s1 h1 h2 h3 I1 r1 q1 => ?_) (fun a' σ' H' ps s1 h1 h2 h3 I1 q1 => ?_) rcSum_mono))
    · obtain ⟨x, rfl, ⟨f1, f2⟩, ⟨f3, f4⟩, kk⟩ := q1
      obtain ⟨tz, rfl⟩ := r1
      obtain ⟨tA', c', rfl⟩ := h1
      obtain ⟨e1, e2⟩ := h3 _ (List.mem_singleton.mpr rfl)
      rw [hS0] at e1
      cases e1
      have hc : ((decide (-(2 ^ 63) ≤ x) && decide (x < 2 ^ 63)) && (decide (-(2 ^ 63) ≤ av + x) && decide (av + x < 2 ^ 63))) = true := by
        simp only [Bool.and_eq_true,
                decide_eq_true_eq]
        exact ⟨⟨f1, f2⟩, f3, f4⟩
      show wpAny _ A.in1 (if (_ : Bool) = true then (mkInt (av + x) >>= _) else _) _ _ _
      split
      · refine
              wpAny_bind (wpAny_mkInt ?_)
        show wpAny _ A.in1 (updateSeq S (fun _ => #[.int (av + x) s1.toks]) >>= _) _ _ _
        refine wpAny_bind ?_
        have e2' : s1.heap.get? S = some (sumO S av tA c) := e2
        have sl : ∀ s', s' = ({ s1 with heap := s1.heap.update S (Obj.mapSeq fun _ => #[Value.int (av + x) s1.toks]), toks := s1.toks + 1 } : Shared) → Slp (paSum S) [S] (av + x) s1 s' := fun s' es => by
          subst es
          refine ⟨rfl, I1.bare, fun b o hb e => ?_, [(S, Obj.mapSeq (fun _ => #[Value.int (av + x) s1.toks]) (sumO S av tA c))], ⟨s1.toks, _, rfl⟩, rfl, fun p hp => ?_⟩
          · exact (Heap.get?_update_other _ _ (fun h : S = b => hb (by rw [h]; simp))).trans e
          · rw [List.mem_singleton.mp
                  hp]
            refine ⟨?_, fun v z => (by cases z)⟩
            exact Heap.get?_update_self (Obj.mapSeq fun _ => #[Value.int (av + x) s1.toks]) e2' rfl
        obtain ⟨hn0, z1⟩ := kk { s1 with heap := s1.heap.update S (Obj.mapSeq fun _ => #[Value.int (av + x) s1.toks]), toks := s1.toks + 1 } rfl (sl _ rfl)
        exact wpAny_updateSeq e2' rfl (wpAny_pure ⟨plainId_quiet F.plain_sum_loop _, ih (n - 1) (by omega) (av + x) _ z1⟩)
      · rename_i hne
        exact absurd hc hne
    · obtain ⟨tA', c', rfl⟩ := h1
      obtain ⟨e1, e2⟩ := h3 _ (List.mem_singleton.mpr rfl)
      rw [hS0] at e1
      cases e1
      exact wpAny_pure (hR _ _ _ _ _ _ I1 q1)
end

/-- a generator expression under a consumer: from the running value a0 by rc to F -/
def tGx {α : Type} (P : Addr) (lam : List (Nat × Nat)) (q : Str) (wi : TI) (g : TG) (tt : TT) (te : TE) (vs : List Nat) (rc : Rcv α) (a0 : α) (F : α → Hp → Prop) : L2.St → Hp → Prop := fun σ H =>
  wi σ H fun J H1 => TabW H1 P lam q ∧ ∀ H2, Grown P lam q H1 H2 → ∃ W : Nat → Nat → α → Hp → Prop, (∃ m, W 0 m a0 H2) ∧ gxTurns J g tt te vs rc F σ W
def tSumG (P : Addr) (lam : List (Nat × Nat)) (q : Str) (wi : TI) (g : TG) (tt : TT) (te : TE) (vs : List Nat) : TE := fun σ H Q => tGx P lam q wi g tt te vs rcSum 0 (fun t H' => Q (.int t) H') σ H
section
variable {X : Cx} {elt tg iter : Expr} {ifs : List Expr} {scope : Scope} {p gpos pos : Pos} {own : List (Str × Nat)} {c P : Addr} {lam : List (Nat × Nat)} {q : Str} {k : Nat} {wi : TI} {gg : TG} {tt : TT} {te : TE}
theorem pe_sumG (hr : Room (k + 3) X.A) (hg : Gl X "sum") (hm : X.mg "sum" = none) (TB : LamX.TabB X.base X.mg c P) (hcode : X.env.code = .ref c) (hN : X.N.Nodup) (ok : GxOk X.N X.env.scope scope own) (hi : PI X tg iter wi) (hl : (gpos.line, gpos.col) ∉ lam)
    (hpg : ∀ B s H C code fp pn, Room k (gCx X B s H scope C code fp pn).A → PG (gCx X B s H scope C code fp pn) tg gg) (hpt : ∀ B s H C code fp pn, Room k (gCx X B s H scope C code fp pn).A → PTs (gCx X B s H scope C code fp pn) ifs tt)
    (hpe : ∀ B s H C code fp pn, Room k (gCx X B s H scope C code fp pn).A → PE (gCx X B s H scope C code fp pn) elt te)
    (hs : ∀ v, genFold iter X.env v = pure v := by intro _; rfl)
    (he : starEach [gcode elt tg iter ifs scope gpos] X.env = (false, eval (gcode elt tg iter ifs scope gpos) X.env) :: starEach [] X.env := by rfl) :
    PE X (.Call (.Name "sum" p) [gcode elt tg iter ifs scope gpos] [] pos) (tSumG P lam q wi gg tt te (own.map (·.2))) := by
  refine
          ⟨fun pins s σ H Q I h => ?_⟩
  refine wpAny_Call_Name_kw (ld_blt I hg hm (show bootBuiltins "sum" = some (.builtin "sum") by decide +kernel) ?_)
  refine
          PyProof.Rows.callWith_builtin1 ?_ he (by rfl)
  rw [he]
  show wpAny _ _ (spliced ((false, eval (gcode elt tg iter ifs scope gpos) X.env) :: backTo pos (starEach [] X.env))) _ _ s
  refine Calls.spliced_cons (gx_make hr TB hcode ok hi hs hl I h fun J H2 s3 g it fp tn code go a s5 ⟨W, ⟨m0, w0⟩, turn⟩ M => ?_)
  refine Calls.spliced_nil ?_
  refine
          call_function_tree F.kind_sum F.plain_sum F.entry_sum (F.args_sum1 _) ?_
  unfold Builtin.«sum»
  simp only [List.length_cons,
          List.length_nil]
  rw [if_neg (by decide)]
  refine
          wpAny_bind (wpAny_of_eq (show Builtin.Builtins.bindParams "sum" ["start"] 0 { } = pure [none] from rfl) ?_)
  refine wpAny_bind (wpAny_pyIter_gen (M.gen _ M.at_) ?_)
  refine
          wpAny_bind (wpAny_mkInt ?_)
  refine
          wpAny_bind (wpAny_pure ?_)
  simp only [List.forIn_cons,
          List.forIn_nil]
  refine wpAny_bind (wpAny_bind (wpAny_bind (wpAny_isInstance (T := "int") (b := false) (typeIs_int _ _ _) PySem.sub_int_str ?_)))
  simp only [Bool.false_eq_true,
          if_false]
  refine wpAny_pure (wpAny_bind (wpAny_bind (wpAny_isInstance (T := "int") (b := false) (typeIs_int _ _ _) PySem.sub_int_bytes ?_)))
  simp only [Bool.false_eq_true,
          if_false]
  refine wpAny_pure (wpAny_bind (wpAny_bind (wpAny_isInstance (T := "int") (b := false) (typeIs_int _ _ _) PySem.sub_int_bytearray ?_)))
  simp only [Bool.false_eq_true,
          if_false]
  refine
          wpAny_pure (wpAny_pure ?_)
  refine
          wpAny_bind (wpAny_newObj_type ?_)
  have kp6 : ∀ b o, s5.heap.get? b = some o → (s5.heap.push ({ cls := .type "list", data := .seq #[.int 0 s5.toks] } : Obj)).get? b = some o := fun b o e => Heap.get?_push_of_some _ e
  have hSa : a ≠ s5.heap.objs.size := Nat.ne_of_lt M.lt5
  have hSc : cStatics ≠ s5.heap.objs.size := Nat.ne_of_lt (let ⟨_, hn, _⟩ := M.lim; hn.lt)
  have Rg : Room k (gCx X X.A.in1.in1 s3 H2 scope s3.heap.objs.size code fp [(a, go)]).A := hr.in1.in1.deeper _
  have z0 := zs_start (B := X.A.in1.in1) (s6 := { s5 with heap := s5.heap.push ({ cls := .type "list", data := .seq #[.int 0 s5.toks] } : Obj), toks := s5.toks + 1 }) (pa := paSum s5.heap.objs.size) (ad := [s5.heap.objs.size]) (rc := rcSum) (F := fun t H' => Q (.int t) H') (a0 := 0) (ps := [(s5.heap.objs.size, sumO s5.heap.objs.size 0 s5.toks 0)])
    M hN ok I.ok.frames hr.hd rcSum_mono (hpg _ _ _ _ _ _ _ Rg) (hpt _ _ _ _ _ _ _ Rg) (hpe _ _ _ _ _ _ _ Rg) turn w0 kp6 rfl rfl ⟨_, _, rfl⟩ rfl fun p hp => by
      rw [List.mem_singleton.mp hp]
      exact ⟨Heap.get?_push_size _ rfl, Nat.le_refl _, fun v z => (by cases z)⟩
  refine wpAny_pure ⟨plainId_quiet F.plain_sum_loop _, ?_⟩
  refine sum_loop hr.hd (by have := hr.dp; show X.A.depth < _; omega) hSa hSc M.gen (fun t tk σ' H' ps s1 I1 q1 => ?_) _ _ _ z0
  exact EP_of (v := .int t) (gx_back M I1) ⟨tk, rfl⟩ q1
end
end Dy

/-! text E1 -/
namespace Dy
open L2 PyProof.Rows PySem.Spec PySem

/-! ### data -/
inductive Dt where
  | non | bl (b : Bool) | int (i : Int) | str (s : Str)
  | obj (a : Addr)
  | lst (xs : List Dt) | tup (xs : List Dt)
  | ins (C : Addr) (ns : List Str) (xs : List Dt)
  | dic (ks : List Key) (xs : List Dt)

/-- a locked dict as what it is -/
def un : HO → HO
  | .frz _ (.dK kvs) => .dK kvs
  | o => o
def nt : HO → Bool
  | .tbl _ => false
  | _ => true
def isTp : HO → Bool
  | .tup _ => true
  | _ => false
/-- a tuple of the written part -/
def KTup (K : PySem.W.Frag) (a : Addr) (xs : List V) : Prop :=
  ∃
          (o : Obj) (its : Array Value) (n : Nat), K.lookup a = some o ∧ o.cls = .type "tuple" ∧ o.data = .seq its n ∧ its.size ≤ sizeLine ∧ Vals xs its.toList
mutual
/-- v is the data d, none of it among the changing things M -/
inductive D (K : PySem.W.Frag) (M : List Addr) (H : Hp) : V → Dt → Prop
  | non : D K M H .non .non
  | bl (b : Bool) : D K M H (.bl b) (.bl b)
  | int (i : Int) : D K M H (.int i) (.int i)
  | str (x : Str) : D K M H (.str x) (.str x)
  | obj (a : Addr) : D K M H (.ref a) (.obj a)
  | tup {a : Addr} {vs : List V} {ds : List Dt} : H a = some (.tup vs) → DAll K M H vs ds → D K M H (.ref a) (.tup ds)
  | ktup {a : Addr} {vs : List V} {ds : List Dt} : KTup K a vs → DAll K M H vs ds → D K M H (.ref a) (.tup ds)
  | lst {a : Addr} {vs : List V} {ds : List Dt} : a ∉ M → H a = some (.lst vs) → DAll K M H vs ds → D K M H (.ref a) (.lst ds)
  | ins {a C dx : Addr} {ns : List Str} {vs : List V} {ds : List Dt} : a ∉ M → H a = some (.ins C dx (ns.zip vs)) → ns.length = vs.length → DAll K M H vs ds → D K M H (.ref a) (.ins C ns ds)
  | dic {a : Addr} {o : HO} {ks : List Key} {vs : List V} {ds : List Dt} : a ∉ M → H a = some o → un o = .dK (ks.zip vs) → ks.length = vs.length → DAll K M H vs ds → D K M H (.ref a) (.dic ks ds)
inductive DAll (K : PySem.W.Frag) (M : List Addr) (H : Hp) : List V → List Dt → Prop
  | nil : DAll K M H [] []
  | cons {v : V} {d : Dt} {vs : List V} {ds : List Dt} : D K M H v d → DAll K M H vs ds → DAll K M H (v :: vs) (d :: ds)
end

/-! ### tables of code objects (own text) -/
structure TabR where
  P : Addr
  lam : List (Nat × Nat)
  q : Str
def TabsOk (T : List TabR) (H : Hp) : Prop := ∀ t ∈ T, TabW H t.P t.lam t.q

/-- from (M, H) to (M', H'): all that is not among M stands -/
structure Le (T : List TabR) (M : List Addr) (H : Hp) (M' : List Addr) (H' : Hp) : Prop where
  keep : ∀ b o, (b ∉ M ∨ isTp o = true) → nt o = true → H b = some o → H' b = some o
  dom : ∀ b, H b ≠ none → H' b ≠ none
  mem : ∀ b, b ∈ M' → b ∈ M ∨ H b = none
  tabs : TabsOk T H → TabsOk T H'
/-- nothing has changed -/
abbrev Pu (T : List TabR) (H H' : Hp) : Prop := Le T [] H [] H'

section
variable {K : PySem.W.Frag} {T : List TabR} {M M' M'' : List Addr} {H H' H'' : Hp} {a : Addr}
theorem Le.refl : Le T M H M H := ⟨fun b o _ _ e => e, fun _ h => h, fun _ h => .inl h, fun h => h⟩
theorem Le.trans (h1 : Le T M H M' H') (h2 : Le T M' H' M'' H'') : Le T M H M'' H'' := by
  refine ⟨fun b o hb n e => ?_, fun b h => h2.dom b (h1.dom b h), fun b h => ?_, fun h => h2.tabs (h1.tabs h)⟩
  · have e1 := h1.keep b o hb n e
    refine h2.keep b o ?_ n e1
    rcases hb with hb | hb
    · exact .inl fun z => (h1.mem b z).elim hb fun q => by rw [q] at e; cases e
    · exact .inr hb
  · rcases h2.mem b h with z | z
    · exact h1.mem b z
    · refine .inr ?_
      cases e : H b with
      | none => rfl
      | some o => exact absurd z (h1.dom b (by rw [e]; simp))
theorem Pu.trans (h1 : Pu T H H') (h2 : Pu T H' H'') : Pu T H H'' := Le.trans h1 h2
theorem Pu.refl : Pu T H H := Le.refl
theorem Pu.le (h : Pu T H H') : Le T M H M H' := ⟨fun b o _ n e => h.keep b o (.inl (by simp)) n e, h.dom, fun _ h => .inl h, h.tabs⟩
theorem Le.drop (h : Le T M H M' H') (s : ∀ b, b ∈ M'' → b ∈ M') : Le T M H M'' H' := ⟨h.keep, h.dom, fun b z => h.mem b (s b z), h.tabs⟩
theorem Pu.at {o : HO} (h : Pu T H H') (e : H a = some o) (hn : nt o = true := by rfl) : H' a = some o := h.keep a o (.inl (by simp)) hn e
theorem Le.at {o : HO} (h : Le T M H M' H') (e : H a = some o) (hb : a ∉ M) (hn : nt o = true := by rfl) : H' a = some o := h.keep a o (.inl hb) hn e
theorem Le.tup {vs : List V} (h : Le T M H M' H') (e : H a = some (.tup vs)) : H' a = some (.tup vs) := h.keep a _ (.inr rfl) rfl e
theorem nt_of_un {o : HO} {kvs : List (Key × V)} (u : un o = .dK kvs) : nt o = true := by cases o <;> first | rfl | cases u
theorem Le.out (h : Le T M H M' H') {o : HO} (e : H a = some o) (hb : a ∉ M) : a ∉ M' := fun z => (h.mem a z).elim hb fun q => by rw [q] at e; cases e
mutual
theorem D.le (h : Le T M H M' H') : ∀ {v : V} {d : Dt}, D K M H v d → D K M' H' v d
  | _, _, .non => .non
  | _, _, .bl b => .bl b
  | _, _, .int i => .int i
  | _, _, .str x => .str x
  | _, _, .obj a => .obj a
  | _, _, .tup e r => .tup (h.tup e) (DAll.le h r)
  | _, _, .ktup e r => .ktup e (DAll.le h r)
  | _, _, .lst hb e r => .lst (h.out e hb) (h.at e hb) (DAll.le h r)
  | _, _, .ins hb e l r => .ins (h.out e hb) (h.at e hb) l (DAll.le h r)
  | _, _, .dic hb e u l r => .dic (h.out e hb) (h.at e hb (nt_of_un u)) u l (DAll.le h r)
theorem DAll.le (h : Le T M H M' H') : ∀ {vs : List V} {ds : List Dt}, DAll K M H vs ds → DAll K M' H' vs ds
  | _, _, .nil => .nil
  | _, _, .cons x r => .cons (D.le h x) (DAll.le h r)
end
theorem D.pu {v : V} {d : Dt} (h : Pu T H H') (x : D K M H v d) : D K M H' v d := x.le h.le
theorem DAll.pu {vs : List V} {ds : List Dt} (h : Pu T H H') (x : DAll K M H vs ds) : DAll K M H' vs ds := x.le h.le
mutual
/-- fewer changing things -/
theorem D.sub (s : ∀ b, b ∈ M' → b ∈ M) : ∀ {v : V} {d : Dt}, D K M H v d → D K M' H v d
  | _, _, .non => .non
  | _, _, .bl b => .bl b
  | _, _, .int i => .int i
  | _, _, .str x => .str x
  | _, _, .obj a => .obj a
  | _, _, .tup e r => .tup e (DAll.sub s r)
  | _, _, .ktup e r => .ktup e (DAll.sub s r)
  | _, _, .lst hb e r => .lst (fun z => hb (s _ z)) e (DAll.sub s r)
  | _, _, .ins hb e l r => .ins (fun z => hb (s _ z)) e l (DAll.sub s r)
  | _, _, .dic hb e u l r => .dic (fun z => hb (s _ z)) e u l (DAll.sub s r)
theorem DAll.sub (s : ∀ b, b ∈ M' → b ∈ M) : ∀ {vs : List V} {ds : List Dt}, DAll K M H vs ds → DAll K M' H vs ds
  | _, _, .nil => .nil
  | _, _, .cons x r => .cons (D.sub s x) (DAll.sub s r)
end
theorem D.nil {v : V} {d : Dt} (x : D K M H v d) : D K [] H v d := x.sub (by simp)
theorem DAll.nl {v : List V} {d : List Dt} (x : DAll K M H v d) : DAll K [] H v d := x.sub (by simp)

/-! ### data without changing parts -/
mutual
def Dt.flat : Dt → Bool
  | .non => true | .bl _ => true | .int _ => true | .str _ => true | .obj _ => true
  | .tup xs => Dt.flatAll xs
  | _ => false
def Dt.flatAll : List Dt → Bool
  | [] => true
  | x :: xs => x.flat && Dt.flatAll xs
end
mutual
theorem D.flat : ∀ {v : V} {d : Dt}, d.flat = true → D K M H v d → D K M' H v d
  | _, _, _, .non => .non
  | _, _, _, .bl b => .bl b
  | _, _, _, .int i => .int i
  | _, _, _, .str x => .str x
  | _, _, _, .obj a => .obj a
  | _, _, f, .tup e r => .tup e (DAll.flat (by simpa [Dt.flat] using f) r)
  | _, _, f, .ktup e r => .ktup e (DAll.flat (by simpa [Dt.flat] using f) r)
  | _, _, f, .lst hb e r => by simp [Dt.flat] at f
  | _, _, f, .ins hb e l r => by simp [Dt.flat] at f
  | _, _, f, .dic hb e u l r => by simp [Dt.flat] at f
theorem DAll.flat : ∀ {vs : List V} {ds : List Dt}, Dt.flatAll ds = true → DAll K M H vs ds → DAll K M' H vs ds
  | _, _, _, .nil => .nil
  | _, _, f, .cons x r => by
    simp only [Dt.flatAll, Bool.and_eq_true] at f
    exact .cons (D.flat f.1 x) (DAll.flat f.2 r)
end
theorem DAll.length : ∀ {vs : List V} {ds : List Dt}, DAll K M H vs ds → vs.length = ds.length
  | _, _, .nil => rfl
  | _, _, .cons _ r => by simp [DAll.length r]
theorem DAll.get : ∀ {vs : List V} {ds : List Dt} {i : Nat} {d : Dt}, DAll K M H vs ds → ds[i]? = some d → ∃ v, vs[i]? = some v ∧ D K M H v d
  | _, _, _, _, .nil, e =>
          by simp at e
  | _, _, 0, _, .cons x r, e => by simp at e; subst e; exact ⟨_, rfl, x⟩
  | _, _, i + 1, _, .cons x r, e => by
    obtain ⟨v, e1, h1⟩ := DAll.get (i := i) r (by simpa using e)
    exact ⟨v, by simpa using e1, h1⟩
theorem DAll.getV : ∀ {vs : List V} {ds : List Dt} {i : Nat} {v : V}, DAll K M H vs ds → vs[i]? = some v → ∃ d, ds[i]? = some d ∧ D K M H v d
  | _, _, _, _, .nil, e =>
          by simp at e
  | _, _, 0, _, .cons x r, e => by simp at e; subst e; exact ⟨_, rfl, x⟩
  | _, _, i + 1, _, .cons x r, e => by
    obtain ⟨v, e1, h1⟩ := DAll.getV (i := i) r (by simpa using e)
    exact ⟨v, by simpa using e1, h1⟩
theorem DAll.append : ∀ {vs ws : List V} {ds es : List Dt}, DAll K M H vs ds → DAll K M H ws es → DAll K M H (vs ++ ws) (ds ++ es)
  | _, _, _, _, .nil, s => s
  | _, _, _, _, .cons x r, s => .cons x (DAll.append r s)
theorem DAll.one {v : V} {d : Dt} (h : D K M H v d) : DAll K M H [v] [d] := .cons h .nil
theorem DAll.snoc {v : V} {d : Dt} {vs : List V} {ds : List Dt} (r : DAll K M H vs ds) (h : D K M H v d) : DAll K M H (vs ++ [v]) (ds ++ [d]) := r.append (.one h)
theorem DAll.take : ∀ {vs : List V} {ds : List Dt} (n : Nat), DAll K M H vs ds → DAll K M H (vs.take n) (ds.take n)
  | _, _, 0, _ => .nil
  | _, _, _ + 1, .nil => .nil
  | _, _, n + 1, .cons x r => .cons x (DAll.take n r)
theorem DAll.drop : ∀ {vs : List V} {ds : List Dt} (n : Nat), DAll K M H vs ds → DAll K M H (vs.drop n) (ds.drop n)
  | _, _, 0, r => r
  | _, _, _ + 1, .nil => .nil
  | _, _, n + 1, .cons _ r => DAll.drop n r
theorem DAll.set {v : V} {d : Dt} (h : D K M H v d) : ∀ {vs : List V} {ds : List Dt} (n : Nat), DAll K M H vs ds → DAll K M H (vs.set n v) (ds.set n d)
  | _, _, _, .nil => .nil
  | _, _, 0, .cons _ r => .cons h r
  | _, _, n + 1, .cons x r => .cons x (DAll.set h n r)
theorem DAll.reverse : ∀ {vs : List V} {ds : List Dt}, DAll K M H vs ds → DAll K M H vs.reverse ds.reverse
  | _, _, .nil => .nil
  | _, _, .cons x r => by simpa using (DAll.reverse r).snoc x
theorem DAll.ints : ∀ {vs : List V} {ns : List Int}, DAll K M H vs (ns.map .int) → vs = ns.map .int
  | [], [], .nil => rfl
  | _ :: _, _ :: _, .cons x r => by
    cases x
    rw [DAll.ints r]
    rfl
theorem DAll.ofInts : ∀ (ns : List Int), DAll K M H (ns.map .int) (ns.map .int)
  | [] => .nil
  | n :: r => .cons (.int n) (DAll.ofInts r)
theorem DAll.strs : ∀ {vs : List V} {ns : List Str}, DAll K M H vs (ns.map .str) → vs = ns.map .str
  | [], [], .nil => rfl
  | _ :: _, _ :: _, .cons x r => by
    cases x
    rw [DAll.strs r]
    rfl
/-- the parts of a tuple, a list -/
theorem D.tupR {v : V} {ds : List Dt} (h : D K M H v (.tup ds)) : ∃ a vs, v = .ref a ∧ SqT K H a vs ∧ DAll K M H vs ds := by
  cases h with
  | tup e r => exact ⟨_, _, rfl, .inl (.inl e), r⟩
  | ktup e r => exact ⟨_, _, rfl, .inr e, r⟩
theorem D.lstR {v : V} {ds : List Dt} (h : D K M H v (.lst ds)) : ∃ a vs, v = .ref a ∧ a ∉ M ∧ H a = some (.lst vs) ∧ DAll K M H vs ds := by
  cases h with
  | lst hb e r => exact ⟨_, _, rfl, hb, e, r⟩
theorem D.insR {v : V} {C : Addr} {ns : List Str} {ds : List Dt} (h : D K M H v (.ins C ns ds)) : ∃ a dx vs, v = .ref a ∧ a ∉ M ∧ H a = some (.ins C dx (ns.zip vs)) ∧ ns.length = vs.length ∧ DAll K M H vs ds := by
  cases h with
  | ins hb e l r => exact ⟨_, _, _, rfl, hb, e, l, r⟩
theorem D.dicR {v : V} {ks : List Key} {ds : List Dt} (h : D K M H v (.dic ks ds)) : ∃ a o vs, v = .ref a ∧ a ∉ M ∧ H a = some o ∧ un o = .dK (ks.zip vs) ∧ ks.length = vs.length ∧ DAll K M H vs ds := by
  cases h with
  | dic hb e u l r => exact ⟨_, _, _, rfl, hb, e, u, l, r⟩
theorem D.intR {v : V} {i : Int} (h : D K M H v (.int i)) : v = .int i := by cases h; rfl
theorem D.strR {v : V} {i : Str} (h : D K M H v (.str i)) : v = .str i := by cases h; rfl
theorem D.blR {v : V} {i : Bool} (h : D K M H v (.bl i)) : v = .bl i := by cases h; rfl
theorem D.nonR {v : V} (h : D K M H v .non) : v = .non := by cases h; rfl
theorem D.objR {v : V} {a : Addr} (h : D K M H v (.obj a)) : v = .ref a := by cases h; rfl
end

/-! ### the state is in order -/
structure Wf (T : List TabR) (M : List Addr) (H : Hp) : Prop where
  tabs : TabsOk T H
  mem : ∀ m ∈ M, H m ≠ none
section
variable {K : PySem.W.Frag} {T : List TabR} {M M' : List Addr} {H H' : Hp} {a : Addr}
theorem Wf.pu (w : Wf T M H) (h : Pu T H H') : Wf T M H' := ⟨h.tabs w.tabs, fun m hm => h.dom m (w.mem m hm)⟩
theorem Wf.le (w : Wf T M H) (h : Le T M H M H') : Wf T M H' := ⟨h.tabs w.tabs, fun m hm => h.dom m (w.mem m hm)⟩
theorem Wf.fresh (w : Wf T M H) (e : H a = none) : a ∉ M := fun z => w.mem a z e
theorem Wf.nil (w : Wf T M H) : Wf T [] H := ⟨w.tabs, by simp⟩
theorem Wf.cons (w : Wf T M H) (e : H a ≠ none) : Wf T (a :: M) H := ⟨w.tabs, fun m hm => by
  rcases List.mem_cons.mp hm with z | z
  · rw [z]; exact e
  · exact w.mem m z⟩
theorem TabsOk.upd {o : HO} (h : TabsOk T H) (k : ∀ o', H a = some o' → (∀ ps, o' ≠ .tbl ps) ∧ (∀ f, o' ≠ .ext f)) : TabsOk T (upd H a o) := fun t ht => by
  obtain ⟨ps, e, tr, c⟩ := h t ht
  have ne : ∀ b o', H b = some o' → ((∃ ps, o' = .tbl ps) ∨ ∃ f, o' = .ext f) → b ≠ a := fun b o' e z q => by
    subst q
    rcases z with ⟨ps, z⟩ | ⟨f, z⟩
    · exact (k _ e).1 ps z
    · exact (k _ e).2 f z
  refine ⟨ps, (upd_ne (ne _ _ e (.inl ⟨_, rfl⟩))).trans e, tr, fun pos cv hc hl => ?_⟩
  obtain ⟨c', e1, e2⟩ := c pos cv hc hl
  exact ⟨c', e1, (upd_ne (ne _ _ e2 (.inr ⟨_, rfl⟩))).trans e2⟩
/-- a new thing -/
theorem Pu.new {o : HO} (e : H a = none) : Pu T H (upd H a o) := by
  refine ⟨fun b o' _ _ q => (by rw [upd_ne (ne_of_none q e)]; exact q), fun b q => ?_, fun _ h => .inl h, fun h => h.upd fun o' z => by rw [e] at z; cases z⟩
  by_cases hb : b = a
  · rw [hb, upd_same]; simp
  · rw [upd_ne hb]; exact q
/-- a changing thing changes -/
theorem Le.mut {o o' : HO} (hm : a ∈ M) (e : H a = some o) (ht : isTp o = false := by rfl) (h1 : nt o = true := by rfl) (h2 : ∀ f, o ≠ .ext f := by intro _ z; cases z) : Le T M H M (upd H a o') := by
  refine ⟨fun b u hb _ q => ?_, fun b q => ?_, fun _ h => .inl h, fun h => h.upd fun o'' z => ?_⟩
  · have hn : b ≠ a := fun z => by
      subst z
      rcases hb with hb | hb
      · exact hb hm
      · rw [e] at q; cases q; rw [ht] at hb; cases hb
    rw [upd_ne hn]; exact q
  · by_cases hb : b = a
    · rw [hb, upd_same]; simp
    · rw [upd_ne hb]; exact q
  · rw [e] at z; cases z
    exact ⟨fun ps z => (by rw [z] at h1; cases h1), h2⟩
/-- a new changing thing -/
theorem Le.newM {o : HO} (e : H a = none) : Le T M H (a :: M) (upd H a o) := by
  have p : Pu T H (upd H a o) := Pu.new e
  refine ⟨p.le.keep, p.dom, fun b h => ?_, p.tabs⟩
  rcases
          List.mem_cons.mp h with z | z
  · rw [z]; exact .inr e
  · exact .inl z
/-! ### a lock: a dict while it is walked -/
mutual
theorem D.same (k : ∀ b o, H b = some o → ∃ o', H' b = some o' ∧ (un o' = un o) ∧ ((∀ kvs, un o ≠ .dK kvs) → o' = o)) : ∀ {v : V} {d : Dt}, D K M H v d → D K M H' v d
  | _, _, .non => .non
  | _, _, .bl b => .bl b
  | _, _, .int i => .int i
  | _, _, .str x => .str x
  | _, _, .obj a => .obj a
  | _, _, .tup e r => by
    obtain ⟨o', e', _, q⟩ := k _ _ e
    exact .tup (by rw [e', q (fun _ z => by cases z)]) (DAll.same k r)
  | _, _, .ktup e r => .ktup e (DAll.same k r)
  | _, _, .lst hb e r => by
    obtain ⟨o', e', _, q⟩ := k _ _ e
    exact .lst hb (by rw [e', q (fun _ z => by cases z)]) (DAll.same k r)
  | _, _, .ins hb e l r => by
    obtain ⟨o', e', _, q⟩ := k _ _ e
    exact .ins hb (by rw [e', q (fun _ z => by cases z)]) l (DAll.same k r)
  | _, _, .dic hb e u l r => by
    obtain ⟨o', e', u', _⟩ := k _ _ e
    exact .dic hb e' (u'.trans u) l (DAll.same k r)
theorem DAll.same (k : ∀ b o, H b = some o → ∃ o', H' b = some o' ∧ (un o' = un o) ∧ ((∀ kvs, un o ≠ .dK kvs) → o' = o)) : ∀ {vs : List V} {ds : List Dt}, DAll K M H vs ds → DAll K M H' vs ds
  | _, _, .nil => .nil
  | _, _, .cons x r => .cons (D.same k x) (DAll.same k r)
end
theorem lock_keeps {od : Obj} {kvs : List (Key × V)} (e : H a = some (.dK kvs)) : ∀ b o, H b = some o → ∃ o', upd H a (.frz od (.dK kvs)) b = some o' ∧ (un o' = un o) ∧ ((∀ kvs, un o ≠ .dK kvs) → o' = o) := fun b o q => by
  by_cases hb : b = a
  · subst hb
    rw [e] at q; cases q
    exact ⟨_, upd_same, rfl, fun z => absurd rfl (z kvs)⟩
  · exact ⟨o, by rw [upd_ne hb]; exact q, rfl, fun _ => rfl⟩
theorem unlock_keeps {od : Obj} {kvs : List (Key × V)} (e : H a = some (.frz od (.dK kvs))) : ∀ b o, H b = some o → ∃ o', upd H a (.dK kvs) b = some o' ∧ (un o' = un o) ∧ ((∀ kvs, un o ≠ .dK kvs) → o' = o) := fun b o q => by
  by_cases hb : b = a
  · subst hb
    rw [e] at q; cases q
    exact ⟨_, upd_same, rfl, fun z => absurd rfl (z kvs)⟩
  · exact ⟨o, by rw [upd_ne hb]; exact q, rfl, fun _ => rfl⟩
theorem Wf.lock {o : HO} {kvs : List (Key × V)} (w : Wf T M H) (e : H a = some (.dK kvs)) : Wf T M (upd H a o) := ⟨w.tabs.upd fun o' z => by rw [e] at z; cases z; exact ⟨fun _ z => (by cases z), fun _ z => (by cases z)⟩, fun m hm => by
  by_cases hb : m = a
  · rw [hb, upd_same]; simp
  · rw [upd_ne hb]; exact w.mem m hm⟩
/-- behind the walk all stands as before -/
theorem Le.unlock {od : Obj} {kvs : List (Key × V)} (e : H a = some (.dK kvs)) (h : Le T M (upd H a (.frz od (.dK kvs))) M' H') (e' : H' a = some (.frz od (.dK kvs))) : Le T M H M' (upd H' a (.dK kvs)) := by
  refine ⟨fun b o hb n q => ?_, fun b q => ?_, fun b q => ?_, fun q => ?_⟩
  · by_cases hc : b = a
    · subst hc; rw [e] at q; cases q; exact upd_same
    · rw [upd_ne hc]
      exact h.keep b o hb n (by rw [upd_ne hc]; exact q)
  · by_cases hc : b = a
    · rw [hc, upd_same]; simp
    · rw [upd_ne hc]
      exact h.dom b (by rw [upd_ne hc]; exact q)
  · rcases h.mem b q with z | z
    · exact .inl z
    · by_cases hc : b = a
      · rw [hc, upd_same] at z; cases z
      · rw [upd_ne hc] at z; exact .inr z
  · have q1 : TabsOk T (upd H a (.frz od (.dK kvs))) := q.upd fun o' z => by rw [e] at z; cases z; exact ⟨fun _ z => (by cases z), fun _ z => (by cases z)⟩
    exact (h.tabs q1).upd fun o' z => by rw [e'] at z; cases z; exact ⟨fun _ z => (by cases z), fun _ z => (by cases z)⟩
end
end Dy

/-! text E2 -/
namespace Dy
open L2 PyProof.Rows PySem.Spec PySem

section
variable (K : PySem.W.Frag) (T : List TabR) (M : List Addr)
/-- te gives d (σ the slots, H the heap), changing nothing -/
def Ev (te : TE) (σ : L2.St) (H : Hp) (d : Dt) : Prop := ∀ H1, Pu T H H1 → ∀ Q : VK, (∀ v H2, Pu T H1 H2 → D K M H2 v d → Q v H2) → te σ H1 Q
def EvA (ta : TA) (σ : L2.St) (H : Hp) (ds : List Dt) : Prop := ∀ H1, Pu T H H1 → ∀ Q : List V → Hp → Prop, (∀ vs H2, Pu T H1 H2 → DAll K M H2 vs ds → Q vs H2) → ta σ H1 Q
def EvT (tt : TT) (σ : L2.St) (H : Hp) (b : Bool) : Prop := ∀ H1, Pu T H H1 → ∀ Q : Bool → Hp → Prop, (∀ H2, Pu T H1 H2 → Q b H2) → tt σ H1 Q
/-- a two-place operation on data, one-place, on many -/
def RV (r : R2) (H : Hp) (x y z : Dt) : Prop := ∀ H1, Pu T H H1 → ∀ v u, D K M H1 v x → D K M H1 u y → ∀ Q : VK, (∀ w H2, Pu T H1 H2 → D K M H2 w z → Q w H2) → r v u H1 Q
def RU (r : V → Hp → VK → Prop) (H : Hp) (x z : Dt) : Prop := ∀ H1, Pu T H H1 → ∀ v, D K M H1 v x → ∀ Q : VK, (∀ w H2, Pu T H1 H2 → D K M H2 w z → Q w H2) → r v H1 Q
def RC (r : List V → Hp → VK → Prop) (H : Hp) (xs : List Dt) (z : Dt) : Prop := ∀ H1, Pu T H H1 → ∀ vs, DAll K M H1 vs xs → ∀ Q : VK, (∀ w H2, Pu T H1 H2 → D K M H2 w z → Q w H2) → r vs H1 Q
end

section
variable {K : PySem.W.Frag} {T : List TabR} {M : List Addr} {σ : L2.St} {H H' : Hp} {ta tb te tx : TE} {t u : TT} {tl tr : TA} {x y z d e : Dt} {ds es : List Dt} {r : R2} {v : V}
theorem Ev.mono (p : Pu T H H') (h : Ev K T M te σ H d) : Ev K T M te σ H' d := fun H1 q => h H1 (p.trans q)
theorem EvT.mono {b : Bool} (p : Pu T H H') (h : EvT T t σ H b) : EvT T t σ H' b := fun H1 q => h H1 (p.trans q)
theorem EvA.mono (p : Pu T H H') (h : EvA K T M tl σ H ds) : EvA K T M tl σ H' ds := fun H1 q => h H1 (p.trans q)
theorem Ev.run (h : Ev K T M te σ H d) {Q : VK} (k : ∀ v H2, Pu T H H2 → D K M H2 v d → Q v H2) : te σ H Q := h H Pu.refl Q k
theorem EvA.run (h : EvA K T M tl σ H ds) {Q : List V → Hp → Prop} (k : ∀ v H2, Pu T H H2 → DAll K M H2 v ds → Q v H2) : tl σ H Q := h H Pu.refl Q k
theorem EvT.run {b : Bool} (h : EvT T t σ H b) {Q : Bool → Hp → Prop} (k : ∀ H2, Pu T H H2 → Q b H2) : t σ H Q := h H Pu.refl Q k
theorem Ev.is (h : Ev K T M te σ H d) (q : d = e) : Ev K T M te σ H e := q ▸ h
theorem EvT.is {a b : Bool} (h : EvT T t σ H a) (q : a = b) : EvT T t σ H b := q ▸ h
/-- leaves -/
theorem ev_var {i : Nat} (h : σ[i]? = some (some v)) (hd : D K M H v d) : Ev K T M (tVar i) σ H d := fun H1 p Q q => ⟨v, h, q v H1 Pu.refl (hd.pu p)⟩
theorem ev_c (hd : D K M H v d) : Ev K T M (tC v) σ H d := fun H1 p Q q => q v H1 Pu.refl (hd.pu p)
theorem ev_int {i : Int} : Ev K T M (tC (.int i)) σ H (.int i) := ev_c (.int i)
theorem ev_str {i : Str} : Ev K T M (tC (.str i)) σ H (.str i) := ev_c (.str i)
theorem ev_bl {i : Bool} : Ev K T M (tC (.bl i)) σ H (.bl i) := ev_c (.bl i)
theorem ev_non : Ev K T M (tC .non) σ H .non := ev_c .non
/-- operations -/
theorem ev_op (ha : Ev K T M ta σ H x) (hb : Ev K T M tb σ H y) (hr : RV K T M r H x y z) : Ev K T M (tOp r ta tb) σ H z := fun H1 p Q q =>
  ha H1 p _ fun v H2 p2 dv => hb H2 (p.trans p2) _ fun u H3 p3 du => hr H3 ((p.trans p2).trans p3) v u (dv.pu p3) du Q fun w H4 p4 dw => q w H4 ((p2.trans p3).trans p4) dw
theorem ev_un {f : V → Hp → VK → Prop} (ha : Ev K T M ta σ H x) (hr : RU K T M f H x z) : Ev K T M (tUn f ta) σ H z := fun H1 p Q q =>
  ha H1 p _ fun v H2 p2 dv => hr H2 (p.trans p2) v dv Q fun w H4 p4 dw => q w H4 (p2.trans p4) dw
theorem ea_nil : EvA K T M tNil σ H [] := fun H1 p Q q => q [] H1 Pu.refl .nil
theorem ea_cons (ha : Ev K T M ta σ H x) (hr : EvA K T M tl σ H ds) : EvA K T M (tCons ta tl) σ H (x :: ds) := fun H1 p Q q =>
  ha H1 p _ fun v H2 p2 dv => hr H2 (p.trans p2) _ fun vs H3 p3 dvs => q (v :: vs) H3 (p2.trans p3) (.cons (dv.pu p3) dvs)
theorem ev_cb {f : List V → Hp → VK → Prop} (h : EvA K T M tl σ H ds) (hr : RC K T M f H ds z) : Ev K T M (tCB f tl) σ H z := fun H1 p Q q =>
  h H1 p _ fun vs H2 p2 dvs => hr H2 (p.trans p2) vs dvs Q fun w H3 p3 dw => q w H3 (p2.trans p3) dw
theorem ev_tup (h : EvA K T M tl σ H ds) (hl : ds.length ≤ 100000) : Ev K T M (tTup tl) σ H (.tup ds) := fun H1 p Q q =>
  h H1 p _ fun vs H2 p2 dvs => ⟨by rw [dvs.length]; exact Nat.le_trans hl (by decide), fun a ha => q (.ref a) _ (p2.trans (Pu.new ha)) (.tup upd_same (dvs.pu (Pu.new (T := T) ha)))⟩
theorem ev_lst (w : Wf T M H) (h : EvA K T M tl σ H ds) (hl : ds.length ≤ 100000) : Ev K T M (tLst tl) σ H (.lst ds) := fun H1 p Q q =>
  h H1 p _ fun vs H2 p2 dvs => ⟨by rw [dvs.length]; exact Nat.le_trans hl (by decide), fun a ha => q (.ref a) _ (p2.trans (Pu.new ha)) (.lst ((w.pu (p.trans p2)).fresh ha) upd_same (dvs.pu (Pu.new (T := T) ha)))⟩
/-- tests -/
theorem et_test {b : Bool} (h : Ev K T M te σ H (.bl b)) : EvT T (tTest te) σ H b := fun H1 p Q q => h H1 p _ fun v H2 p2 dv => ⟨b, dv.blR, q H2 p2⟩
theorem et_B {b : Bool} (h : Ev K T M te σ H (.bl b)) : EvT T (tB te) σ H b := fun H1 p Q q => h H1 p _ fun v H2 p2 dv => ⟨b, dv.blR, q H2 p2⟩
theorem et_and {a b : Bool} (h1 : EvT T t σ H a) (h2 : a = true → EvT T u σ H b) : EvT T (tAnd t u) σ H (a && b) := fun H1 p Q q => h1 H1 p _ fun H2 p2 => by
  cases a with
  | true => exact (h2 rfl) H2 (p.trans p2) Q fun H3 p3 => q H3 (p2.trans p3)
  | false => exact q H2 p2
theorem et_or {a b : Bool} (h1 : EvT T t σ H a) (h2 : a = false → EvT T u σ H b) : EvT T (tOr t u) σ H (a || b) := fun H1 p Q q => h1 H1 p _ fun H2 p2 => by
  cases a with
  | true => exact q H2 p2
  | false => exact (h2 rfl) H2 (p.trans p2) Q fun H3 p3 => q H3 (p2.trans p3)
theorem et_not {a : Bool} (h1 : EvT T t σ H a) : EvT T (tNot t) σ H (!a) := fun H1 p Q q => h1 H1 p _ fun H2 p2 => q H2 p2
theorem ev_andV {a : Bool} (h1 : Ev K T M ta σ H (.bl a)) (h2 : a = true → Ev K T M tb σ H y) (h3 : a = false → y = .bl false) : Ev K T M (tAndV ta tb) σ H y := fun H1 p Q q => h1 H1 p _ fun v H2 p2 dv => ⟨a, dv.blR, by
  cases a with
  | true => exact (h2 rfl) H2 (p.trans p2) Q fun w H3 p3 => q w H3 (p2.trans p3)
  | false => exact q _ H2 p2 (by rw [h3 rfl]; exact .bl false)⟩
theorem ev_and {a b : Bool} (h1 : Ev K T M ta σ H (.bl a)) (h2 : a = true → Ev K T M tb σ H (.bl b)) : Ev K T M (tAndV ta tb) σ H (.bl (a && b)) := fun H1 p Q q => h1 H1 p _ fun v H2 p2 dv => ⟨a, dv.blR, by
  cases a with
  | true => exact (h2 rfl) H2 (p.trans p2) Q fun w H3 p3 => q w H3 (p2.trans p3)
  | false => exact q _ H2 p2 (.bl false)⟩
theorem ev_or {a b : Bool} (h1 : Ev K T M ta σ H (.bl a)) (h2 : a = false → Ev K T M tb σ H (.bl b)) : Ev K T M (tOrV ta tb) σ H (.bl (a || b)) := fun H1 p Q q => h1 H1 p _ fun v H2 p2 dv => ⟨a, dv.blR, by
  cases a with
  | true => exact q _ H2 p2 (.bl true)
  | false => exact (h2 rfl) H2 (p.trans p2) Q fun w H3 p3 => q w H3 (p2.trans p3)⟩
theorem ev_not {a : Bool} (h1 : Ev K T M ta σ H (.bl a)) : Ev K T M (tNotV ta) σ H (.bl (!a)) := fun H1 p Q q => h1 H1 p _ fun v H2 p2 dv => ⟨a, dv.blR, q _ H2 p2 (.bl _)⟩
theorem ev_if {b : Bool} (h : EvT T t σ H b) (h1 : b = true → Ev K T M ta σ H x) (h2 : b = false → Ev K T M tb σ H y) : Ev K T M (tIf t ta tb) σ H (if b = true then x else y) := fun H1 p Q q => h H1 p _ fun H2 p2 => by
  cases b with
  | true => exact (h1 rfl) H2 (p.trans p2) Q fun w H3 p3 => q w H3 (p2.trans p3)
  | false => exact (h2 rfl) H2 (p.trans p2) Q fun w H3 p3 => q w H3 (p2.trans p3)
theorem ev_chain {r' : R2} {tc : TE} {a b : Bool} (ha : Ev K T M ta σ H x) (hb : Ev K T M tb σ H y) (hr : RV K T M r H x y (.bl a)) (hc : a = true → Ev K T M tc σ H z) (hr' : a = true → RV K T M r' H y z (.bl b)) : Ev K T M (tChain r r' ta tb tc) σ H (.bl (a && b)) := fun H1 p Q q =>
  ha H1 p _ fun v H2 p2 dv => hb H2 (p.trans p2) _ fun u H3 p3 du => hr H3 ((p.trans p2).trans p3) v u (dv.pu p3) du _ fun w H4 p4 dw => ⟨a, dw.blR, by
    cases a with
    | false => exact q _ H4 ((p2.trans p3).trans p4) (.bl false)
    | true => exact (hc rfl) H4 (((p.trans p2).trans p3).trans p4) _ fun w' H5 p5 dw' => hr' rfl H5 ((((p.trans p2).trans p3).trans p4).trans p5) u w' (du.pu (p4.trans p5)) dw' Q fun w'' H6 p6 dw'' => q w'' H6 ((((p2.trans p3).trans p4).trans p5).trans p6) dw''⟩

/-! ### operations on values -/
theorem rv_mono (p : Pu T H H') (h : RV K T M r H x y z) : RV K T M r H' x y z := fun H1 q => h H1 (p.trans q)
theorem rv_inl {r' : R2} (h : RV K T M r H x y z) : RV K T M (fun x y H Q => r x y H Q ∨ r' x y H Q) H x y z := fun H1 p v u dv du Q q => .inl (h H1 p v u dv du Q q)
theorem rv_inr {r' : R2} (h : RV K T M r' H x y z) : RV K T M (fun x y H Q => r x y H Q ∨ r' x y H Q) H x y z := fun H1 p v u dv du Q q => .inr (h H1 p v u dv du Q q)
theorem rv_I0 {g : Int → Int → Int} {i j : Int} : RV K T M (rI0 fun i j => .int (g i j)) H (.int i) (.int j) (.int (g i j)) := fun H1 p v u dv du Q q => ⟨i, j, dv.intR, du.intR, q _ H1 Pu.refl (.int _)⟩
theorem rv_B0 {g : Int → Int → Bool} {i j : Int} : RV K T M (rI0 fun i j => .bl (g i j)) H (.int i) (.int j) (.bl (g i j)) := fun H1 p v u dv du Q q => ⟨i, j, dv.intR, du.intR, q _ H1 Pu.refl (.bl _)⟩
theorem rv_I {C : Int → Int → Prop} {g : Int → Int → Int} {i j : Int} (hc : C i j) : RV K T M (rI C fun i j => .int (g i j)) H (.int i) (.int j) (.int (g i j)) := fun H1 p v u dv du Q q => ⟨i, j, dv.intR, du.intR, hc, q _ H1 Pu.refl (.int _)⟩
theorem ru_neg {i : Int} : RU K T M (rU fun i => .int (-i)) H (.int i) (.int (-i)) := fun H1 p v dv Q q => ⟨i, dv.intR, q _ H1 Pu.refl (.int _)⟩
theorem rv_addS {i j : Str} (hl : i.length + j.length ≤ 100000) : RV K T M (fun x y H Q => ∃ i j, x = .str i ∧ y = .str j ∧ i.length + j.length ≤ sizeLine ∧ Q (.str (i ++ j)) H) H (.str i) (.str j) (.str (i ++ j)) := fun H1 p v u dv du Q q => ⟨i, j, dv.strR, du.strR, Nat.le_trans hl (by decide), q _ H1 Pu.refl (.str _)⟩
theorem rv_cat (w : Wf T M H) {xs ys : List Dt} (hl : xs.length + ys.length ≤ 100000) : RV K T M rCat H (.lst xs) (.lst ys) (.lst (xs ++ ys)) := fun H1 p v u dv du Q q => by
  obtain ⟨a, vs, rfl, _, ha, ra⟩ := dv.lstR
  obtain ⟨b, us, rfl, _, hb, rb⟩ := du.lstR
  refine ⟨a, b, vs, us, rfl, rfl, ha, hb, by rw [ra.length, rb.length]; exact Nat.le_trans hl (by decide), fun c hc => q _ _ (Pu.new hc) (.lst ((w.pu p).fresh hc) upd_same ((ra.append rb).pu (Pu.new (T := T) hc)))⟩
theorem rv_isN {k : Bool} (hk : ∀ v, D K M H v x → True) : True := trivial
def isNonD : Dt → Bool
  | .non => true
  | _ => false
theorem D.isN (h : D K M H v x) : decide (v = V.non) = isNonD x := by cases h <;> rfl
theorem rv_isNone : RV K T M (fun x y H Q => y = .non ∧ Q (.bl (decide (x = .non))) H) H x .non (.bl (isNonD x)) := fun H1 p v u dv du Q q => ⟨du.nonR, by rw [dv.isN]; exact q _ H1 Pu.refl (.bl _)⟩
theorem rv_notNone : RV K T M (fun x y H Q => y = .non ∧ Q (.bl (!decide (x = .non))) H) H x .non (.bl (!isNonD x)) := fun H1 p v u dv du Q q => ⟨du.nonR, by rw [dv.isN]; exact q _ H1 Pu.refl (.bl _)⟩

/-! ### plain data -/
mutual
def Dt.py : Dt → PyData
  | .non => .none | .bl b => .bool b | .int i => .int i | .str s => .str s
  | .lst xs => .list (Dt.pyAll xs)
  | .tup xs => .tuple (Dt.pyAll xs)
  | _ => .none
def Dt.pyAll : List Dt → List PyData
  | [] => []
  | x :: xs => x.py :: Dt.pyAll xs
end
mutual
def Dt.pl : Dt → Bool
  | .non => true | .bl _ => true | .int _ => true | .str _ => true
  | .lst xs => Dt.plAll xs
  | .tup xs => Dt.plAll xs
  | _ => false
def Dt.plAll : List Dt → Bool
  | [] => true
  | x :: xs => x.pl && Dt.plAll xs
end
mutual
theorem D.dp : ∀ {v : V} {d : Dt}, d.pl = true → D K M H v d → Dp K H v d.py
  | .ref _, .obj _, f, _ => by simp [Dt.pl] at f
  | _, _, _, .non => .non
  | _, _, _, .bl b => .bl b
  | _, _, _, .int i => .int i
  | _, _, _, .str x => .str x
  | _, _, f, .tup e r => by rw [Dt.py]; exact .tup (.inl (.inl e)) (DAll.dp (by simpa [Dt.pl] using f) r)
  | _, _, f, .ktup e r => by rw [Dt.py]; exact .tup (.inr e) (DAll.dp (by simpa [Dt.pl] using f) r)
  | _, _, f, .lst hb e r => by rw [Dt.py]; exact .lst (.inl (.inl e)) (DAll.dp (by simpa [Dt.pl] using f) r)
  | _, _, f, .ins hb e l r => by simp [Dt.pl] at f
  | _, _, f, .dic hb e u l r => by simp [Dt.pl] at f
theorem DAll.dp : ∀ {vs : List V} {ds : List Dt}, Dt.plAll ds = true → DAll K M H vs ds → DpAll K H vs (Dt.pyAll ds)
  | _, _, _, .nil => .nil
  | _, _, f, .cons x r => by
    simp only [Dt.plAll, Bool.and_eq_true] at f
    exact .cons (D.dp f.1 x) (DAll.dp f.2 r)
end
/-- == of data -/
def Dt.eqv (x y : Dt) : Bool := PyData.eqv x.py y.py
def Dt.ok (x : Dt) : Bool := x.pl && SeqAt.shaped x.py
theorem rv_eqD (hx : x.ok = true) (hy : y.ok = true) : RV K T M (rEqD K) H x y (.bl (x.eqv y)) := fun H1 p v u dv du Q q => by
  simp only [Dt.ok, Bool.and_eq_true] at hx hy
  exact ⟨x.py, y.py, dv.dp hx.1, du.dp hy.1, hx.2, hy.2, q _ H1 Pu.refl (.bl _)⟩
theorem rv_neD (hx : x.ok = true) (hy : y.ok = true) : RV K T M (rNeD K) H x y (.bl (!x.eqv y)) := fun H1 p v u dv du Q q => by
  simp only [Dt.ok, Bool.and_eq_true] at hx hy
  exact ⟨x.py, y.py, dv.dp hx.1, du.dp hy.1, hx.2, hy.2, q _ H1 Pu.refl (.bl _)⟩
end
end Dy

/-! text E3 -/
/-! min and max over data (tuples, texts, ints) -/
namespace Dy
open L2 PyProof.Rows PySem.Spec PySem
abbrev mmCell (vs : Array Value) (c : Nat) : Obj := { cls := .type "list", dict := none, data := .seq vs c, slots := #[] }
section
variable {prog : Program} {w : World} {A : Around} {R : Result → Shared → Prop} {it : Addr} {fp wr : List Addr} {n : Nat} {P : Nat → Value → Prop} {St : Nat → Heap → Prop}

theorem max_turns {h0 : Heap} {S : Addr} {bt : Nat → Nat → Bool} (wk : Walks prog w A.in1 it fp wr n P St) (nw : ∀ b ∈ wr, h0.get? b = Option.none) (nS : h0.get? S = Option.none) (off : S ∉ fp)
    (cmp : ∀ i j u v (z : Shared) (Q E : Value → Shared → Prop), (∀ b o, h0.get? b = some o → z.heap.get? b = some o) → P i u → P j v → Q (.bool (bt i j)) z → wpAny (model prog w) A.in1 (richCompare .Gt u v) Q E z) (m : Nat) :
    ∀ (j : Nat) (z : Shared) (x : Value) (c : Nat), j + 1 + m = n → St (j + 1) z.heap → P (argBest bt j) x → z.heap.get? S = some (mmCell #[x, x] c) → (∀ b o, h0.get? b = some o → z.heap.get? b = some o) →
      (∀ u g t, P (argBest bt (n - 1)) u → (∀ b o, h0.get? b = some o → g.get? b = some o) → R (.ok (.ret u)) { z with heap := g, toks := t }) →
      codeAny (model prog w) A (.builtin "max.loop" ⟨[.ref it, .none, .ref S], []⟩) R z := by
  have q1 : S ∉ wr := fun y => off (wk.sub _ y)
  have q2 : (toString "max" ++ toString ".loop" : String) = "max.loop" := by decide
  have q3 : ∀ b o, h0.get? b = some o → b ∉ wr := fun b o e y => by rw [nw b y] at e; cases e
  have q4 : ∀ b o, h0.get? b = some o → S ≠ b := fun b o e y => by rw [← y, nS] at e; cases e
  induction m with
  | zero =>
    intro j z x c hj st px cell old fin
    refine codeAny_builtin F.entry_max_loop (by
      rw [Around.under_plainId
              F.plain_max_loop _]
      show wpAny _ A.in1 (seqItems? (.ref S) >>= _) _ _ z
      refine wpAny_bind (wpAny_seqItems cell rfl ?_)
      show wpAny _ A.in1 (tryCatch (pyNext (.ref it)) _ >>= _) _ _ z
      have hn : j + 1 = n := by omega
      refine wpAny_bind (wpAny_tryCatch (wk.done z _ _ (hn ▸ st) fun g t kp => ?_))
      show
              wpAny _ A.in1 (updateSeq S (fun _ => #[]) >>= _) _ _ _
      refine wpAny_bind (wpAny_updateSeq (kp S _ q1 cell) rfl (wpAny_bind (wpAny_letGo (wpAny_pure ?_))))
      refine fin x _ t (by rw [← hn]; exact px) fun b o e => (Heap.get?_update_other _ _ (q4 b o e)).trans (kp b o (q3 b o e) (old b o e)))
  | succ m ih =>
    intro j z x c hj st px cell old fin
    refine codeAny_builtin F.entry_max_loop (by
      rw [Around.under_plainId
              F.plain_max_loop _]
      show wpAny _ A.in1 (seqItems? (.ref S) >>= _) _ _ z
      refine wpAny_bind (wpAny_seqItems cell rfl ?_)
      show wpAny _ A.in1 (tryCatch (pyNext (.ref it)) _ >>= _) _ _ z
      refine wpAny_bind (wpAny_tryCatch (wk.item (j + 1) z _ _ (by omega) st fun v g t pv st' kp => ?_))
      have cell' := kp S _ q1 cell
      have old' : ∀ b o, h0.get? b = some o → g.get? b = some o := fun b o e => kp b o (q3 b o e) (old b o e)
      show wpAny _ A.in1 (tryCatch (holding [v, v] (richCompare .Gt v x >>= _)) _ >>= _) _ _ _
      refine wpAny_bind (wpAny_tryCatch (wpAny_holding (wpAny_bind (cmp (j + 1) (argBest bt j) v x _ _ _ old' pv px (wpAny_bind (wpAny_holding (wpAny_truthy_bool (wpAny_bind (wpAny_letGo (wpAny_pure ?_))))))))))
      cases
              hb : bt (j + 1) (argBest bt j) with
      | true =>
        refine wpAny_bind (wpAny_updateSeq cell' rfl (wpAny_bind (wpAny_letGo ?_)))
        rw [q2]
        refine wpAny_pure ⟨plainId_quiet F.plain_max_loop _, ih (j + 1) _ v _ (by omega) (wk.frame _ _ _ st' fun b hf o e => (Heap.get?_update_other _ _ (fun y : S = b => off (y ▸ hf))).trans e) (by rw [argBest, hb]; exact pv) (Heap.get?_update_self _ cell' rfl)
          (fun b o e => (Heap.get?_update_other _ _ (q4 b o e)).trans (old' b o e)) fun u g' t' pu kp' => fin u g' t' pu kp'⟩
      | false =>
        refine
                wpAny_bind (wpAny_letGo ?_)
        rw [q2]
        refine wpAny_pure ⟨plainId_quiet F.plain_max_loop _, ih (j + 1) _ x c (by omega) st' (by rw [argBest, hb]; exact px) cell' old' fun u g' t' pu kp' => fin u g' t' pu kp'⟩)
theorem max_starts {h0 : Heap} {S : Addr} {bt : Nat → Nat → Bool} (wk : Walks prog w A.in1 it fp wr n P St) (nw : ∀ b ∈ wr, h0.get? b = Option.none) (nS : h0.get? S = Option.none) (off : S ∉ fp) (n0 : 0 < n)
    (cmp : ∀ i j u v (z : Shared) (Q E : Value → Shared → Prop), (∀ b o, h0.get? b = some o → z.heap.get? b = some o) → P i u → P j v → Q (.bool (bt i j)) z → wpAny (model prog w) A.in1 (richCompare .Gt u v) Q E z)
    {z : Shared} {c : Nat} (st : St 0 z.heap) (cell : z.heap.get? S = some (mmCell #[] c)) (old : ∀ b o, h0.get? b = some o → z.heap.get? b = some o)
    (fin : ∀ u g t, P (argBest bt (n - 1)) u → (∀ b o, h0.get? b = some o → g.get? b = some o) → R (.ok (.ret u)) { z with heap := g, toks := t }) :
    codeAny (model prog w) A (.builtin "max.loop" ⟨[.ref it, .none, .ref S], []⟩) R z := by
  have q1 : S ∉ wr := fun y => off (wk.sub _ y)
  have q2 : (toString "max" ++ toString ".loop" : String) = "max.loop" := by decide
  have q3 : ∀ b o, h0.get? b = some o → b ∉ wr := fun b o e y => by rw [nw b y] at e; cases e
  have q4 : ∀ b o, h0.get? b = some o → S ≠ b := fun b o e y => by rw [← y, nS] at e; cases e
  refine codeAny_builtin F.entry_max_loop (by
    rw [Around.under_plainId
            F.plain_max_loop _]
    show wpAny _ A.in1 (seqItems? (.ref S) >>= _) _ _ z
    refine wpAny_bind (wpAny_seqItems cell rfl ?_)
    show wpAny _ A.in1 (tryCatch (pyNext (.ref it)) _ >>= _) _ _ z
    refine wpAny_bind (wpAny_tryCatch (wk.item 0 z _ _ n0 st fun v g t pv st' kp => ?_))
    have cell' := kp S _ q1 cell
    show
            wpAny _ A.in1 (updateSeq S (fun _ => #[v, v]) >>= _) _ _ _
    refine wpAny_bind (wpAny_updateSeq cell' rfl ?_)
    rw [q2]
    refine wpAny_pure ⟨plainId_quiet F.plain_max_loop _, max_turns wk nw nS off cmp (n - 1) 0 _ v _ (by omega) (wk.frame _ _ _ st' fun b hf o e => (Heap.get?_update_other _ _ (fun y : S = b => off (y ▸ hf))).trans e) pv (Heap.get?_update_self _ cell' rfl)
      (fun b o e => (Heap.get?_update_other _ _ (q4 b o e)).trans (kp b o (q3 b o e) (old b o e))) fun u g' t' pu kp' => fin u g' t' pu kp'⟩)
theorem max_called {x : Value} {Q E : Value → Shared → Prop} {z : Shared} {h0 : Heap} (h : wpAny (model prog w) A.in1 (pyIter x) (fun y z2 => ∃ it fp wr n P St bt, y = .ref it ∧ Walks prog w A.in1 it fp wr n P St ∧ St 0 z2.heap ∧ (∀ b ∈ fp, b < z2.heap.objs.size) ∧ 0 < n ∧ (∀ b ∈ wr, h0.get? b = Option.none) ∧ h0.objs.size ≤ z2.heap.objs.size ∧
      (∀ i j u v (z : Shared) (Q E : Value → Shared → Prop), (∀ b o, h0.get? b = some o → z.heap.get? b = some o) → P i u → P j v → Q (.bool (bt i j)) z → wpAny (model prog w) A.in1 (richCompare .Gt u v) Q E z) ∧ (∀ b o, h0.get? b = some o → z2.heap.get? b = some o) ∧
      ∀ u g t, P (argBest bt (n - 1)) u → (∀ b o, h0.get? b = some o → g.get? b = some o) → Q u { z2 with heap := g, toks := t }) E z) : wpAny (model prog w) A (call (.builtin "max") [x]) Q E z := by
  have q2 : (toString "max" ++ toString ".loop" : String) = "max.loop" := by decide
  refine call_function_tree F.kind_max F.plain_max F.entry_max (F.args_max1 _) (by
    show wpAny _ A.in1 (Builtin.Builtins.bindParams "max" ["key", "default"] 0 ⟨[], []⟩ >>= _) _ _ z
    refine wpAny_bind (wpAny_of_eq (show Builtin.Builtins.bindParams "max" ["key", "default"] 0 ⟨[], []⟩ = pure [none, none] from rfl) (wpAny_bind (wpAny_pure (wpAny_bind (wpAny_mono h (fun y z2 k => ?_) fun _ _ e => e)))))
    obtain ⟨it, fp, wr, n, P, St, bt, rfl, wk, st, lt, n0, nw, big, cmp, old, fin⟩ := k
    refine
            wpAny_bind (wpAny_newObj_type ?_)
    rw [q2]
    refine wpAny_pure ⟨plainId_quiet F.plain_max_loop _, max_starts wk nw (by
        cases e : h0.get? z2.heap.objs.size with
        | none => rfl
        | some o => exact absurd (Heap.lt_size e) (Nat.not_lt.mpr big)) (fun y => Nat.lt_irrefl _ (lt _ y)) n0 cmp (wk.frame _ _ _ st fun b _ o e => Heap.get?_push_of_some _ e) (Heap.get?_push_size _ rfl)
      (fun b o e => Heap.get?_push_of_some _ (old b o e)) fun u g t pu kp => fin u g t pu kp⟩)

theorem min_turns {h0 : Heap} {S : Addr} {bt : Nat → Nat → Bool} (wk : Walks prog w A.in1 it fp wr n P St) (nw : ∀ b ∈ wr, h0.get? b = Option.none) (nS : h0.get? S = Option.none) (off : S ∉ fp)
    (cmp : ∀ i j u v (z : Shared) (Q E : Value → Shared → Prop), (∀ b o, h0.get? b = some o → z.heap.get? b = some o) → P i u → P j v → Q (.bool (bt i j)) z → wpAny (model prog w) A.in1 (richCompare .Lt u v) Q E z) (m : Nat) :
    ∀ (j : Nat) (z : Shared) (x : Value) (c : Nat), j + 1 + m = n → St (j + 1) z.heap → P (argBest bt j) x → z.heap.get? S = some (mmCell #[x, x] c) → (∀ b o, h0.get? b = some o → z.heap.get? b = some o) →
      (∀ u g t, P (argBest bt (n - 1)) u → (∀ b o, h0.get? b = some o → g.get? b = some o) → R (.ok (.ret u)) { z with heap := g, toks := t }) →
      codeAny (model prog w) A (.builtin "min.loop" ⟨[.ref it, .none, .ref S], []⟩) R z := by
  have q1 : S ∉ wr := fun y => off (wk.sub _ y)
  have q2 : (toString "min" ++ toString ".loop" : String) = "min.loop" := by decide
  have q3 : ∀ b o, h0.get? b = some o → b ∉ wr := fun b o e y => by rw [nw b y] at e; cases e
  have q4 : ∀ b o, h0.get? b = some o → S ≠ b := fun b o e y => by rw [← y, nS] at e; cases e
  induction m with
  | zero =>
    intro j z x c hj st px cell old fin
    refine codeAny_builtin F.entry_min_loop (by
      rw [Around.under_plainId
              F.plain_min_loop _]
      show wpAny _ A.in1 (seqItems? (.ref S) >>= _) _ _ z
      refine wpAny_bind (wpAny_seqItems cell rfl ?_)
      show wpAny _ A.in1 (tryCatch (pyNext (.ref it)) _ >>= _) _ _ z
      have hn : j + 1 = n := by omega
      refine wpAny_bind (wpAny_tryCatch (wk.done z _ _ (hn ▸ st) fun g t kp => ?_))
      show
              wpAny _ A.in1 (updateSeq S (fun _ => #[]) >>= _) _ _ _
      refine wpAny_bind (wpAny_updateSeq (kp S _ q1 cell) rfl (wpAny_bind (wpAny_letGo (wpAny_pure ?_))))
      refine fin x _ t (by rw [← hn]; exact px) fun b o e => (Heap.get?_update_other _ _ (q4 b o e)).trans (kp b o (q3 b o e) (old b o e)))
  | succ m ih =>
    intro j z x c hj st px cell old fin
    refine codeAny_builtin F.entry_min_loop (by
      rw [Around.under_plainId
              F.plain_min_loop _]
      show wpAny _ A.in1 (seqItems? (.ref S) >>= _) _ _ z
      refine wpAny_bind (wpAny_seqItems cell rfl ?_)
      show wpAny _ A.in1 (tryCatch (pyNext (.ref it)) _ >>= _) _ _ z
      refine wpAny_bind (wpAny_tryCatch (wk.item (j + 1) z _ _ (by omega) st fun v g t pv st' kp => ?_))
      have cell' := kp S _ q1 cell
      have old' : ∀ b o, h0.get? b = some o → g.get? b = some o := fun b o e => kp b o (q3 b o e) (old b o e)
      show wpAny _ A.in1 (tryCatch (holding [v, v] (richCompare .Lt v x >>= _)) _ >>= _) _ _ _
      refine wpAny_bind (wpAny_tryCatch (wpAny_holding (wpAny_bind (cmp (j + 1) (argBest bt j) v x _ _ _ old' pv px (wpAny_bind (wpAny_holding (wpAny_truthy_bool (wpAny_bind (wpAny_letGo (wpAny_pure ?_))))))))))
      cases
              hb : bt (j + 1) (argBest bt j) with
      | true =>
        refine wpAny_bind (wpAny_updateSeq cell' rfl (wpAny_bind (wpAny_letGo ?_)))
        rw [q2]
        refine wpAny_pure ⟨plainId_quiet F.plain_min_loop _, ih (j + 1) _ v _ (by omega) (wk.frame _ _ _ st' fun b hf o e => (Heap.get?_update_other _ _ (fun y : S = b => off (y ▸ hf))).trans e) (by rw [argBest, hb]; exact pv) (Heap.get?_update_self _ cell' rfl)
          (fun b o e => (Heap.get?_update_other _ _ (q4 b o e)).trans (old' b o e)) fun u g' t' pu kp' => fin u g' t' pu kp'⟩
      | false =>
        refine
                wpAny_bind (wpAny_letGo ?_)
        rw [q2]
        refine wpAny_pure ⟨plainId_quiet F.plain_min_loop _, ih (j + 1) _ x c (by omega) st' (by rw [argBest, hb]; exact px) cell' old' fun u g' t' pu kp' => fin u g' t' pu kp'⟩)
theorem min_starts {h0 : Heap} {S : Addr} {bt : Nat → Nat → Bool} (wk : Walks prog w A.in1 it fp wr n P St) (nw : ∀ b ∈ wr, h0.get? b = Option.none) (nS : h0.get? S = Option.none) (off : S ∉ fp) (n0 : 0 < n)
    (cmp : ∀ i j u v (z : Shared) (Q E : Value → Shared → Prop), (∀ b o, h0.get? b = some o → z.heap.get? b = some o) → P i u → P j v → Q (.bool (bt i j)) z → wpAny (model prog w) A.in1 (richCompare .Lt u v) Q E z)
    {z : Shared} {c : Nat} (st : St 0 z.heap) (cell : z.heap.get? S = some (mmCell #[] c)) (old : ∀ b o, h0.get? b = some o → z.heap.get? b = some o)
    (fin : ∀ u g t, P (argBest bt (n - 1)) u → (∀ b o, h0.get? b = some o → g.get? b = some o) → R (.ok (.ret u)) { z with heap := g, toks := t }) :
    codeAny (model prog w) A (.builtin "min.loop" ⟨[.ref it, .none, .ref S], []⟩) R z := by
  have q1 : S ∉ wr := fun y => off (wk.sub _ y)
  have q2 : (toString "min" ++ toString ".loop" : String) = "min.loop" := by decide
  have q3 : ∀ b o, h0.get? b = some o → b ∉ wr := fun b o e y => by rw [nw b y] at e; cases e
  have q4 : ∀ b o, h0.get? b = some o → S ≠ b := fun b o e y => by rw [← y, nS] at e; cases e
  refine codeAny_builtin F.entry_min_loop (by
    rw [Around.under_plainId
            F.plain_min_loop _]
    show wpAny _ A.in1 (seqItems? (.ref S) >>= _) _ _ z
    refine wpAny_bind (wpAny_seqItems cell rfl ?_)
    show wpAny _ A.in1 (tryCatch (pyNext (.ref it)) _ >>= _) _ _ z
    refine wpAny_bind (wpAny_tryCatch (wk.item 0 z _ _ n0 st fun v g t pv st' kp => ?_))
    have cell' := kp S _ q1 cell
    show
            wpAny _ A.in1 (updateSeq S (fun _ => #[v, v]) >>= _) _ _ _
    refine wpAny_bind (wpAny_updateSeq cell' rfl ?_)
    rw [q2]
    refine wpAny_pure ⟨plainId_quiet F.plain_min_loop _, min_turns wk nw nS off cmp (n - 1) 0 _ v _ (by omega) (wk.frame _ _ _ st' fun b hf o e => (Heap.get?_update_other _ _ (fun y : S = b => off (y ▸ hf))).trans e) pv (Heap.get?_update_self _ cell' rfl)
      (fun b o e => (Heap.get?_update_other _ _ (q4 b o e)).trans (kp b o (q3 b o e) (old b o e))) fun u g' t' pu kp' => fin u g' t' pu kp'⟩)
theorem min_called {x : Value} {Q E : Value → Shared → Prop} {z : Shared} {h0 : Heap} (h : wpAny (model prog w) A.in1 (pyIter x) (fun y z2 => ∃ it fp wr n P St bt, y = .ref it ∧ Walks prog w A.in1 it fp wr n P St ∧ St 0 z2.heap ∧ (∀ b ∈ fp, b < z2.heap.objs.size) ∧ 0 < n ∧ (∀ b ∈ wr, h0.get? b = Option.none) ∧ h0.objs.size ≤ z2.heap.objs.size ∧
      (∀ i j u v (z : Shared) (Q E : Value → Shared → Prop), (∀ b o, h0.get? b = some o → z.heap.get? b = some o) → P i u → P j v → Q (.bool (bt i j)) z → wpAny (model prog w) A.in1 (richCompare .Lt u v) Q E z) ∧ (∀ b o, h0.get? b = some o → z2.heap.get? b = some o) ∧
      ∀ u g t, P (argBest bt (n - 1)) u → (∀ b o, h0.get? b = some o → g.get? b = some o) → Q u { z2 with heap := g, toks := t }) E z) : wpAny (model prog w) A (call (.builtin "min") [x]) Q E z := by
  have q2 : (toString "min" ++ toString ".loop" : String) = "min.loop" := by decide
  refine call_function_tree F.kind_min F.plain_min F.entry_min (F.args_min1 _) (by
    show wpAny _ A.in1 (Builtin.Builtins.bindParams "min" ["key", "default"] 0 ⟨[], []⟩ >>= _) _ _ z
    refine wpAny_bind (wpAny_of_eq (show Builtin.Builtins.bindParams "min" ["key", "default"] 0 ⟨[], []⟩ = pure [none, none] from rfl) (wpAny_bind (wpAny_pure (wpAny_bind (wpAny_mono h (fun y z2 k => ?_) fun _ _ e => e)))))
    obtain ⟨it, fp, wr, n, P, St, bt, rfl, wk, st, lt, n0, nw, big, cmp, old, fin⟩ := k
    refine
            wpAny_bind (wpAny_newObj_type ?_)
    rw [q2]
    refine wpAny_pure ⟨plainId_quiet F.plain_min_loop _, min_starts wk nw (by
        cases e : h0.get? z2.heap.objs.size with
        | none => rfl
        | some o => exact absurd (Heap.lt_size e) (Nat.not_lt.mpr big)) (fun y => Nat.lt_irrefl _ (lt _ y)) n0 cmp (wk.frame _ _ _ st fun b _ o e => Heap.get?_push_of_some _ e) (Heap.get?_push_size _ rfl)
      (fun b o e => Heap.get?_push_of_some _ (old b o e)) fun u g t pu kp => fin u g t pu kp⟩)

end
end Dy

/-! text E4 -/
namespace Dy
open L2 PyProof.Rows PySem.Spec PySem

/-! ### the best of a row, the first of several -/
def bestOf {β : Type} (lt : β → β → Bool) : List β → Option β
  | [] => none
  | x :: xs => some (xs.foldl (fun m y => if lt y m = true then y else m) x)
theorem bestOf_snoc {β : Type} (lt : β → β → Bool) {l : List β} {m : β} (y : β) (h : bestOf lt l = some m) : bestOf lt (l ++ [y]) = some (if lt y m = true then y else m) := by
  cases l with
  | nil => cases h
  | cons x xs =>
    injection h with h
    show some ((xs ++ [y]).foldl _ x) = _
    rw [List.foldl_append, List.foldl_cons, List.foldl_nil, h]
theorem bestOf_arg {β : Type} (lt : β → β → Bool) (bs : List β) (bt : Nat → Nat → Bool) (hb : ∀ i j x y, bs[i]? = some x → bs[j]? = some y → bt i j = lt x y) :
    ∀ k, k < bs.length → ∃ m, bs[argBest bt k]? = some m ∧ bestOf lt (bs.take (k + 1)) = some m := by
  intro k
  induction k with
  | zero =>
    intro h
    cases bs with
    | nil => simp at h
    | cons x xs => exact ⟨x, by simp [argBest], by simp [bestOf]⟩
  | succ k ih =>
    intro h
    obtain ⟨m, e1, e2⟩ := ih (by omega)
    have e3 : bs[k + 1]? = some bs[k + 1] := by simp [h]
    have e4 : bs.take (k + 1 + 1) = bs.take (k + 1) ++ [bs[k + 1]] := by rw [← List.take_append_getElem h]
    have e5 := hb (k + 1) (argBest bt k) _ _ e3 e1
    have e6 := bestOf_snoc lt bs[k + 1] e2
    rw [← e4] at e6
    by_cases hc : lt bs[k + 1] m = true
    · refine ⟨bs[k + 1], ?_, by rw [e6, if_pos hc]⟩
      rw [argBest, e5, hc]
      exact e3
    · have hc' : lt bs[k + 1] m = false := by simpa using hc
      refine ⟨m, ?_, by rw [e6, if_neg hc]⟩
      rw [argBest, e5, hc']
      exact e1

def ltD (x y : Dt) : Bool := PySem.W.dataLt x.py y.py
def alD (x y : Dt) : Bool := PySem.W.alike x.py y.py

/-- what stands at a: a list, a tuple -/
def Sq (K : PySem.W.Frag) (H : Hp) (a : Addr) (xs : List V) : Prop := SqL K H a xs ∨ SqT K H a xs
section
variable {X : Cx} {pins : List (Addr × Obj)} {σ : L2.St} {H : Hp} {s : Shared} {M : List Addr}
theorem D.reads (I : Inv X pins σ H s) {v : V} {u : Value} {d : Dt} (hd : D X.K M H v d) (p : d.pl = true) (r : RelV v u) : ∃ as, Reads s.heap u d.py as := Dp.reads I _ _ _ (hd.dp p) r
/-- comparisons of data -/
def rCmpD (K : PySem.W.Frag) (f : Dt → Dt → Bool) : R2 := fun x y H Q => ∃ M d e, D K M H x d ∧ D K M H y e ∧ d.pl = true ∧ e.pl = true ∧ alD d e = true ∧ d.py ≠ .none ∧ d.py.depth ≤ 60 ∧ Q (.bl (f d e)) H
theorem op_ltD (hu : X.A.units + 64 < cLine) : OpR X (compareOp .Lt) (rCmpD X.K fun d e => ltD d e) := by
  intro pins s σ H x y v u Q I rx ry ⟨M, d, e, hd, he, pd, pe, al, nn, dp, q⟩
  obtain ⟨as, r1⟩ := D.reads I hd pd rx
  obtain ⟨bs, r2⟩ := D.reads I he pe ry
  exact PySem.W.lt_data r1 r2 al nn (by have := Nat.min_le_left d.py.depth e.py.depth; omega) ⟨.bl _, H, I, rfl, q⟩
theorem op_gtD (hu : X.A.units + 64 < cLine) : OpR X (compareOp .Gt) (rCmpD X.K fun d e => ltD e d) := by
  intro pins s σ H x y v u Q I rx ry ⟨M, d, e, hd, he, pd, pe, al, nn, dp, q⟩
  obtain ⟨as, r1⟩ := D.reads I hd pd rx
  obtain ⟨bs, r2⟩ := D.reads I he pe ry
  exact PySem.W.gt_data r1 r2 al nn (by have := Nat.min_le_left d.py.depth e.py.depth; omega) ⟨.bl _, H, I, rfl, q⟩

/-- a row of data: each its value and what it is -/
structure RowD (K : PySem.W.Frag) (M : List Addr) (H : Hp) (bs : List (Dt × V)) : Prop where
  is : ∀ b ∈ bs, D K M H b.2 b.1
  pl : ∀ b ∈ bs, b.1.pl = true
  al : ∀ b ∈ bs, ∀ c ∈ bs, alD b.1 c.1 = true
  dp : ∀ b ∈ bs, b.1.py.depth ≤ 60
theorem vals_at {vs : List V} {us : List Value} (r : Vals vs us) {i : Nat} {u : Value} (h : us[i]? = some u) : ∃ v, vs[i]? = some v ∧ RelV v u := by
  cases e : vs[i]? with
  | none => rw [Vals.none_of r e] at h; cases h
  | some v =>
    obtain ⟨u', e1, r1⟩ := r.get e
    rw [e1] at h
    cases h
    exact ⟨v, rfl, r1⟩
def rBest (K : PySem.W.Frag) (lt : Dt → Dt → Bool) : List V → Hp → VK → Prop := fun vs H Q => ∃ (a : Addr) (M : List Addr) (bs : List (Dt × V)), vs = [V.ref a] ∧ Sq K H a (bs.map (·.2)) ∧ RowD K M H bs ∧ (∀ b ∈ bs, b.1.py ≠ .none) ∧
  ∃ m, bestOf (fun x y => lt x.1 y.1) bs = some m ∧ Q m.2 H
section
variable {bs : List (Dt × V)} {its : List Value} {h0 : Heap}
theorem row_reads (I : Inv X pins σ H s) (R : RowD X.K M H bs) (rv : Vals (bs.map (·.2)) its) {i : Nat} {u : Value} (h : its[i]? = some u) : ∃ b, bs[i]? = some b ∧ b ∈ bs ∧ RelV b.2 u ∧ ∃ as, Reads s.heap u b.1.py as := by
  obtain ⟨v, e, r⟩ := vals_at rv h
  rw [List.getElem?_map] at e
  cases e2 : bs[i]? with
  | none => rw [e2] at e; cases e
  | some b =>
    rw [e2] at e
    have e3 : b.2 = v := Option.some.inj e
    have hm : b ∈ bs := List.mem_of_getElem? e2
    subst e3
    exact ⟨b, rfl, hm, r, D.reads I (R.is b hm) (R.pl b hm) r⟩
def btOf (bs : List (Dt × V)) (lt : Dt → Dt → Bool) (i j : Nat) : Bool := match bs[i]?, bs[j]? with
  | some x, some y => lt x.1 y.1
  | _, _ => false
end
theorem best_end {Q : VK} {lt : Dt → Dt → Bool} {bs : List (Dt × V)} {its : List Value} {m : Dt × V} {u : Value} {g : Heap} {t : Nat} (I : Inv X pins σ H s) (rv : Vals (bs.map (·.2)) its) (hm : bestOf (fun x y => lt x.1 y.1) bs = some m)
    (hu : its[argBest (btOf bs lt) (its.length - 1)]? = some u) (hk : ∀ b o, s.heap.get? b = some o → g.get? b = some o) (q : Q m.2 H) : EP X pins σ Q u { s with heap := g, toks := t } := by
  have hl : its.length = bs.length := by rw [← rv.length, List.length_map]
  have hb0 : 0 < bs.length := by
    cases bs with
    | nil => cases hm
    | cons => simp
  obtain ⟨m', e1, e2⟩ := bestOf_arg (fun x y => lt x.1 y.1) bs (btOf bs lt) (fun i j x y hx hy => by rw [btOf, hx, hy]) (bs.length - 1) (by omega)
  have e3 : bs.take (bs.length - 1 + 1) = bs := List.take_of_length_le (by omega)
  rw [e3, hm] at e2
  cases e2
  obtain ⟨v, f1, f2⟩ := vals_at rv hu
  rw [hl] at f1
  rw [List.getElem?_map, e1] at f1
  have f3 : m.2 = v := Option.some.inj f1
  subst f3
  exact ⟨m.2, H, I.kept (t' := t) hk, f2, q⟩
theorem iters (I : Inv X pins σ H s) (hc : X.calm = true) {a : Addr} {xs : List V} (h : Sq X.K H a xs) {Q E : Value → Shared → Prop}
    (k : ∀ (its : List Value) (it : Addr) (fp wr : List Addr) (St : Nat → Heap → Prop) (z : Shared), Vals xs its → Walks X.prog X.w X.A.in1 it fp wr its.length (fun i v => its[i]? = some v) St → St 0 z.heap → (∀ b ∈ fp, b < z.heap.objs.size) → (∀ b ∈ wr, s.heap.get? b = Option.none) →
      s.heap.objs.size ≤ z.heap.objs.size → (∀ b o, s.heap.get? b = some o → z.heap.get? b = some o) → (∃ g, z = { s with heap := g }) → Q (.ref it) z) : wpAny (model X.prog X.w) X.A.in1 (pyIter (.ref a)) Q E s := by
  have new : ∀ b ∈ [s.heap.objs.size], s.heap.get? b = Option.none := fun b hb => by
    rw [List.mem_singleton.mp hb]
    cases
            e : s.heap.get? s.heap.objs.size with
    | none => rfl
    | some o =>
            exact absurd (Heap.lt_size e) (Nat.lt_irrefl _)
  rcases h with h | h
  · obtain ⟨its, rv, p, hz⟩ := I.list h
    have hlt : a < s.heap.objs.size := by obtain ⟨_, _, e, _⟩ := p; exact Heap.lt_size e
    refine wpAny_pyIter_list p.isList (k its s.heap.objs.size [s.heap.objs.size, a] [s.heap.objs.size] (fun i h => h.IsListIter s.heap.objs.size a i ∧ h.IsList a its.toArray) _ rv (by
      have W := Walks.list (prog := X.prog) (w := X.w) (A := X.A.in1) (I.ok.hd hc) s.heap.objs.size a (Nat.ne_of_lt hlt) its.toArray
      simpa using W) ⟨⟨_, Heap.get?_push_size _ rfl, rfl, rfl⟩, p.isList.push _⟩ (fun b hb => ?_) new (by rw [Heap.size_push]; omega) (fun b o e => Heap.get?_push_of_some _ e) ⟨_, rfl⟩)
    show
            b < (s.heap.push _).objs.size
    rw [Heap.size_push]
    rcases
            List.mem_cons.mp hb with z | z
    · rw [z]; exact Nat.lt_succ_self _
    · rw [List.mem_singleton.mp z]; exact Nat.lt_succ_of_lt hlt
  · obtain ⟨its, rv, p, hz⟩ := I.tuple h
    have p' : s.heap.IsTuple a its.toArray := p
    have hlt : a < s.heap.objs.size := by obtain ⟨_, e, _⟩ := p'; exact Heap.lt_size e
    refine wpAny_pyIter_tuple p' (k its s.heap.objs.size [s.heap.objs.size, a] [s.heap.objs.size] (fun i h => h.IsTupleIter s.heap.objs.size a i ∧ h.IsTuple a its.toArray) _ rv (by
      have W := Walks.tuple (prog := X.prog) (w := X.w) (A := X.A.in1) (I.ok.hd hc) s.heap.objs.size a (Nat.ne_of_lt hlt) its.toArray
      simpa using W) ⟨⟨_, Heap.get?_push_size _ rfl, rfl, rfl⟩, p'.push _⟩ (fun b hb => ?_) new (by rw [Heap.size_push]; omega) (fun b o e => Heap.get?_push_of_some _ e) ⟨_, rfl⟩)
    show
            b < (s.heap.push _).objs.size
    rw [Heap.size_push]
    rcases
            List.mem_cons.mp hb with z | z
    · rw [z]; exact Nat.lt_succ_self _
    · rw [List.mem_singleton.mp z]; exact Nat.lt_succ_of_lt hlt
theorem cr_minB (hc : X.calm = true) (hu : X.A.units + 64 < cLine) : CallR X (.builtin "min") (rBest X.K fun x y => ltD x y) := by
  intro pins s σ H vs us Q I r ⟨a, M, bs, ea, hs, R, nn, m, hm, q⟩
  subst ea
  rw [Vals.ref1 r]
  have b0 : 0 < bs.length := by
    cases bs with
    | nil => cases hm
    | cons => simp
  refine min_called (h0 := s.heap) (iters I hc hs fun its it fp wr St z rv W st lt nw big old ⟨g, ez⟩ => ?_)
  have hl : its.length = bs.length := by rw [← rv.length, List.length_map]
  subst ez
  refine ⟨it, fp, wr, its.length, (fun i v => its[i]? = some v), St, btOf bs fun x y => ltD x y, rfl, W, st, lt, by omega, nw, big, fun i j u v z2 Q2 E2 keep hu1 hv1 q2 => ?_, old, fun u g2 t hu1 kp => best_end (s := s) I rv hm hu1 kp q⟩
  obtain ⟨b, e1, m1, _, as, r1⟩ := row_reads I R rv hu1
  obtain ⟨c, e2, m2, _, cs, r2⟩ := row_reads I R rv hv1
  rw [btOf, e1, e2] at q2
  exact PySem.W.lt_data (PyProof.Rows.Reads.keeps keep r1) (PyProof.Rows.Reads.keeps keep r2) (R.al b m1 c m2) (nn b m1) (by
    have h1 := R.dp b m1
    have h2 := Nat.min_le_left b.1.py.depth c.1.py.depth
    show X.A.units + 1 + _ < cLine
    omega) q2
theorem cr_maxB (hc : X.calm = true) (hu : X.A.units + 64 < cLine) : CallR X (.builtin "max") (rBest X.K fun x y => ltD y x) := by
  intro pins s σ H vs us Q I r ⟨a, M, bs, ea, hs, R, nn, m, hm, q⟩
  subst ea
  rw [Vals.ref1 r]
  have b0 : 0 < bs.length := by
    cases bs with
    | nil => cases hm
    | cons => simp
  refine max_called (h0 := s.heap) (iters I hc hs fun its it fp wr St z rv W st lt nw big old ⟨g, ez⟩ => ?_)
  have hl : its.length = bs.length := by rw [← rv.length, List.length_map]
  subst ez
  refine ⟨it, fp, wr, its.length, (fun i v => its[i]? = some v), St, btOf bs fun x y => ltD y x, rfl, W, st, lt, by omega, nw, big, fun i j u v z2 Q2 E2 keep hu1 hv1 q2 => ?_, old, fun u g2 t hu1 kp => best_end (s := s) I rv hm hu1 kp q⟩
  obtain ⟨b, e1, m1, _, as, r1⟩ := row_reads I R rv hu1
  obtain ⟨c, e2, m2, _, cs, r2⟩ := row_reads I R rv hv1
  rw [btOf, e1, e2] at q2
  exact PySem.W.gt_data (PyProof.Rows.Reads.keeps keep r1) (PyProof.Rows.Reads.keeps keep r2) (R.al b m1 c m2) (nn b m1) (by
    have h1 := R.dp b m1
    have h2 := Nat.min_le_left b.1.py.depth c.1.py.depth
    show X.A.units + 1 + _ < cLine
    omega) q2

/-! ### sorted -/
def leD (x y : Dt) : Bool := !ltD y x
def rSortB (K : PySem.W.Frag) : List V → Hp → VK → Prop := fun vs H Q => ∃ (a : Addr) (M : List Addr) (bs : List (Dt × V)), vs = [V.ref a] ∧ SqL K H a (bs.map (·.2)) ∧ RowD K M H bs ∧ PySem.W.Sortable (bs.map fun b => b.1.py) ∧
  ∀ p, H p = none → Q (.ref p) (upd H p (.lst ((bs.mergeSort fun x y => leD x.1 y.1).map (·.2))))
theorem eachIs_of {α β : Type} {R : α → β → Prop} : ∀ {as : List α} {bs : List β}, as.length = bs.length → (∀ (i : Nat) a b, as[i]? = some a → bs[i]? = some b → R a b) → PySem.W.EachIs R as bs
  | [], [], _, _ => .nil
  | a :: as, b :: bs, hl, h => .cons (h 0 a b rfl rfl) (eachIs_of (by simpa using hl) fun i x y hx hy => h (i + 1) x y (by simpa using hx) (by simpa using hy))
theorem eachIs_vals {bs : List (Dt × V)} : ∀ {us : List Value}, PySem.W.EachIs (fun u (b : Dt × V) => RelV b.2 u) us bs → Vals (bs.map (·.2)) us := by
  induction bs with
  | nil => intro us h; cases h; exact .nil
  | cons b bs ih => intro us h; cases h with
    | cons r t => exact .cons r (ih t)
theorem cr_sortB (hu : X.A.units + 64 < cLine) : CallR X (.builtin "sorted") (rSortB X.K) := by
  intro pins s σ H vs us Q I r ⟨a, M, bs, ea, hs, R, hk, q⟩
  subst ea
  rw [Vals.ref1 r]
  obtain
          ⟨its, rv, hl, hz⟩ := I.list hs
  have hlen : its.length = bs.length := by rw [← rv.length, List.length_map]
  refine PySem.W.sorted_data (R := fun u (b : Dt × V) => RelV b.2 u) (enc := fun b : Dt × V => b.1.py) (bs := bs) hl.isList ?_ ?_ (fun d hd d' hd' => ?_) hk (by rw [List.length_map] at hz; exact hz) (fun b hb => ?_) fun out ol oe => ?_
  · exact eachIs_of hlen fun i u b hi hb => by
      obtain ⟨c, e, _, r, _⟩ := row_reads I R rv hi
      rw [hb] at e; cases e; exact r
  · exact eachIs_of hlen fun i u b hi hb => by
      obtain ⟨c, e, _, _, r⟩ := row_reads I R rv hi
      rw [hb] at e; cases e; exact r
  · obtain ⟨b, hb, rfl⟩ := List.mem_map.mp hd
    obtain ⟨c, hc, rfl⟩ := List.mem_map.mp hd'
    exact R.al b hb c hc
  · have := R.dp b hb
    omega
  · obtain ⟨ep, he'⟩ := PyProof.Rows.sortedAll_at s.heap its out.toArray
    rw [PySem.W.dataLe_eq] at oe
    have hln : ((bs.mergeSort fun x y => leD x.1 y.1).map (·.2)).length ≤ sizeLine := by
      rw [List.length_map, List.length_mergeSort]
      rw [List.length_map] at hz
      exact hz
    exact ⟨.ref _, _, I.laid (t' := s.toks) (o := .lst ((bs.mergeSort fun x y => leD x.1 y.1).map (·.2))) (fun _ _ => PyProof.Rows.sortedAll_old) (Nat.le_succ _) ⟨hln, out, ep, eachIs_vals oe, by simpa using he'⟩, rfl, q _ (I.hok.fresh (Nat.le_succ _))⟩
end
end Dy

/-! text E5 -/
namespace Dy
open RZ L2 PyProof.Rows PySem.Spec PySem

section
variable {K : PySem.W.Frag} {T : List TabR} {M M' M1 : List Addr} {H H' H1 H2 : Hp} {a : Addr}
theorem D.lm (h : Le T M H M' H') {v : V} {d : Dt} (x : D K M H v d) : D K M' H' v d := x.le h
theorem Le.app (h : Le T M H M1 H1) (p : Pu T H1 H2) : Le T M H M1 H2 := Le.trans h p.le
/-- what is new may change again -/
theorem Pu.again {o : HO} {xs : List V} (p : Pu T H H') (e : H a = none) (e' : H' a = some (.lst xs)) : Pu T H (upd H' a o) := by
  refine ⟨fun b u hb n q => ?_, fun b q => ?_, fun b h => absurd h (by simp), fun q => (p.tabs q).upd fun o' z => by rw [e'] at z; cases z; exact ⟨fun _ z => (by cases z), fun _ z => (by cases z)⟩⟩
  · rw [upd_ne (ne_of_none q e)]; exact p.keep b u hb n q
  · by_cases hb : b = a
    · rw [hb, upd_same]; simp
    · rw [upd_ne hb]; exact p.dom b q
theorem Wf.lemem (w : Wf T M H) (h : Le T M H M' H') (k : ∀ b ∈ M', H' b ≠ none) : Wf T M' H' := ⟨h.tabs w.tabs, k⟩
end

/-! ### what is walked -/
/-- J walks ds, while all that is not among M stands -/
def Jw (K : PySem.W.Frag) (T : List TabR) (M : List Addr) (J : It) (H : Hp) (ds : List Dt) : Prop := ∀ i M' H3, Le T M H M' H3 → (ds.length ≤ i → J.stop i H3) ∧ ∀ d, ds[i]? = some d → J.go i H3 ∧ ∀ x H4, J.yld i H3 x H4 → Pu T H3 H4 ∧ D K M' H4 x d
def Src (K : PySem.W.Frag) (T : List TabR) (M : List Addr) (wi : TI) (σ : L2.St) (H : Hp) (ds : List Dt) : Prop := ∀ H1, Pu T H H1 → ∀ R : It → Hp → Prop, (∀ J H2, Pu T H1 H2 → Jw K T M J H2 ds → R J H2) → wi σ H1 R
section
variable {K : PySem.W.Frag} {T : List TabR} {M : List Addr} {σ : L2.St} {H : Hp} {tl te : TE} {ta : TA} {ds es : List Dt}
theorem Src.mono {wi : TI} {H' : Hp} (p : Pu T H H') (h : Src K T M wi σ H ds) : Src K T M wi σ H' ds := fun H1 q => h H1 (p.trans q)
theorem src_list (h : Ev K T M tl σ H (.lst ds)) : Src K T M (iList K tl) σ H ds := fun H1 p R k => h H1 p _ fun v H2 p2 dv => by
  obtain ⟨a, vs, rfl, hb, e, r⟩ := dv.lstR
  refine ⟨a, rfl, ⟨vs, .of e⟩, k _ H2 p2 fun i M' H3 q => ?_⟩
  have e3 := q.at e hb
  have r3 := r.le q
  refine ⟨fun hi => ⟨vs, .of e3, by rw [r.length]; exact hi⟩, fun d hd => ?_⟩
  obtain ⟨v, hv, dv⟩ := r3.get hd
  refine ⟨⟨vs, v, .of e3, hv⟩, fun x H4 ⟨e4, y⟩ => ?_⟩
  subst e4
  have hx := y vs (.of e3)
  rw [hv] at hx; cases hx
  exact ⟨Pu.refl, dv⟩
theorem sqt_le {M' : List Addr} {H' : Hp} {a : Addr} {vs : List V} (q : Le T M H M' H') (h : SqT K H a vs) (k : H a = some (.tup vs) ∨ KTup K a vs) : SqT K H' a vs := by
  rcases k with k | k
  · exact .inl (.inl (q.tup k))
  · exact .inr k
theorem D.tupK {v : V} (h : D K M H v (.tup ds)) : ∃ a vs, v = .ref a ∧ (H a = some (.tup vs) ∨ KTup K a vs) ∧ SqT K H a vs ∧ DAll K M H vs ds := by
  cases h with
  | tup e r => exact ⟨_, _, rfl, .inl e, .inl (.inl e), r⟩
  | ktup e r => exact ⟨_, _, rfl, .inr e, .inr e, r⟩
theorem src_tup (h : Ev K T M tl σ H (.tup ds)) : Src K T M (iTup K tl) σ H ds := fun H1 p R k => h H1 p _ fun v H2 p2 dv => by
  obtain ⟨a, vs, rfl, e, sq, r⟩ := dv.tupK
  refine ⟨a, rfl, ⟨vs, sq⟩, k _ H2 p2 fun i M' H3 q => ?_⟩
  have e3 := sqt_le q sq e
  have r3 := r.le q
  refine ⟨fun hi => ⟨vs, e3, by rw [r.length]; exact hi⟩, fun d hd => ?_⟩
  obtain ⟨v, hv, dv⟩ := r3.get hd
  refine ⟨⟨vs, v, e3, hv⟩, fun x H4 ⟨e4, y⟩ => ?_⟩
  subst e4
  have hx := y vs e3
  rw [hv] at hx; cases hx
  exact ⟨Pu.refl, dv⟩
def intsFrom (lo : Int) (n : Nat) : List Dt := (List.range n).map fun (i : Nat) => .int (lo + (i : Int))
theorem jw_rng {lo : Int} {n : Nat} : Jw K T M (Itr lo n) H (intsFrom lo n) := fun i M' H3 q => by
  refine ⟨fun hi => (by show n ≤ i; simpa [intsFrom] using hi), fun d hd => ?_⟩
  simp only [intsFrom, List.getElem?_map, Option.map_eq_some_iff] at hd
  obtain ⟨j, hj, rfl⟩ := hd
  obtain ⟨h1, h2⟩ := List.getElem?_eq_some_iff.mp hj
  simp at h1 h2
  subst h2
  refine ⟨h1, fun x H4 ⟨e4, y⟩ => ?_⟩
  subst e4
  subst y
  exact ⟨Pu.refl, .int _⟩
theorem src_rng1 {n : Int} (h : EvA K T M ta σ H [.int n]) (hn : n ≤ 1000000) (h0 : -1000000 ≤ n := by omega) : Src K T M (iRng1 ta) σ H (intsFrom 0 n.toNat) := fun H1 p R k => h H1 p _ fun v H2 p2 dv => by
  have e : v = [.int n] := by
    cases dv with
    | cons d r => cases d; cases r; rfl
  exact ⟨n, e, by omega, by omega, k _ H2 p2 jw_rng⟩
theorem src_rng2 {lo n : Int} (h : EvA K T M ta σ H [.int lo, .int n]) (hl : -1000000 ≤ lo ∧ lo ≤ 1000000) (hn : -1000000 ≤ n ∧ n ≤ 1000000) : Src K T M (iRng2 ta) σ H (intsFrom lo (n - lo).toNat) := fun H1 p R k => h H1 p _ fun v H2 p2 dv => by
  have e : v = [.int lo, .int n] := by
    cases dv with
    | cons d r => cases d; cases r with
      | cons d r => cases d; cases r; rfl
  exact ⟨lo, n, e, ⟨by omega, by omega, by omega, by omega⟩, k _ H2 p2 jw_rng⟩
/-- zip of two lists, two tuples -/
def zipD (xs ys : List Dt) : List Dt := (xs.zip ys).map fun p => .tup [p.1, p.2]
theorem zipD_get {xs ys : List Dt} {i : Nat} {d : Dt} (h : (zipD xs ys)[i]? = some d) : ∃ x y, xs[i]? = some x ∧ ys[i]? = some y ∧ d = .tup [x, y] := by
  simp only [zipD, List.getElem?_map, Option.map_eq_some_iff] at h
  obtain ⟨p, hp, rfl⟩ := h
  obtain ⟨h1, h2⟩ := List.getElem?_zip_eq_some.mp hp
  exact ⟨p.1, p.2, h1, h2, rfl⟩
theorem DAll.two {v u : V} {x y : Dt} (h : D K M H v x) (k : D K M H u y) : DAll K M H [v, u] [x, y] := .cons h (.cons k .nil)
theorem src_zipL {xs ys : List Dt} (h : EvA K T M ta σ H [.lst xs, .lst ys]) : Src K T M (iZipA K ta) σ H (zipD xs ys) := fun H1 p R k => h H1 p _ fun v H2 p2 dv => by
  cases dv with
  | cons d1 r => cases r with
    | cons d2 r =>
      cases r
      obtain ⟨a, vs, rfl, hb, e, r⟩ := d1.lstR
      obtain ⟨b, us, rfl, hb', e', r'⟩ := d2.lstR
      refine ⟨a, b, vs, us, rfl, .inl ⟨.of e, .of e', k _ H2 p2 fun i M' H3 q => ?_⟩⟩
      have e3 := q.at e hb
      have e3' := q.at e' hb'
      refine ⟨fun hi => ⟨vs, us, .of e3, .of e3', ?_⟩, fun d hd => ?_⟩
      · simp only [zipD, List.length_map, List.length_zip] at hi
        rw [r.length, r'.length]; omega
      · obtain ⟨x, y, hx, hy, rfl⟩ := zipD_get hd
        obtain ⟨v, hv, dv⟩ := (r.le q).get hx
        obtain ⟨u, hu, du⟩ := (r'.le q).get hy
        refine ⟨⟨vs, us, v, u, .of e3, .of e3', hv, hu⟩, fun z H4 ⟨t, x', y', ez, ht, e4, hx', hy'⟩ => ?_⟩
        subst ez
        subst e4
        have q1 := hx' vs (.of e3)
        have q2 := hy' us (.of e3')
        rw [hv] at q1; cases q1
        rw [hu] at q2; cases q2
        exact ⟨Pu.new ht, .tup upd_same ((DAll.two dv du).pu (Pu.new (T := T) ht))⟩
theorem src_zipT {xs ys : List Dt} (h : EvA K T M ta σ H [.tup xs, .tup ys]) : Src K T M (iZipA K ta) σ H (zipD xs ys) := fun H1 p R k => h H1 p _ fun v H2 p2 dv => by
  cases dv with
  | cons d1 r => cases r with
    | cons d2 r =>
      cases r
      obtain ⟨a, vs, rfl, e, sq, r⟩ := d1.tupK
      obtain ⟨b, us, rfl, e', sq', r'⟩ := d2.tupK
      refine ⟨a, b, vs, us, rfl, .inr ⟨sq, sq', k _ H2 p2 fun i M' H3 q => ?_⟩⟩
      have e3 := sqt_le q sq e
      have e3' := sqt_le q sq' e'
      refine ⟨fun hi => ⟨vs, us, e3, e3', ?_⟩, fun d hd => ?_⟩
      · simp only [zipD, List.length_map, List.length_zip] at hi
        rw [r.length, r'.length]; omega
      · obtain ⟨x, y, hx, hy, rfl⟩ := zipD_get hd
        obtain ⟨v, hv, dv⟩ := (r.le q).get hx
        obtain ⟨u, hu, du⟩ := (r'.le q).get hy
        refine ⟨⟨vs, us, v, u, e3, e3', hv, hu⟩, fun z H4 ⟨t, x', y', ez, ht, e4, hx', hy'⟩ => ?_⟩
        subst ez
        subst e4
        have q1 := hx' vs e3
        have q2 := hy' us e3'
        rw [hv] at q1; cases q1
        rw [hu] at q2; cases q2
        exact ⟨Pu.new ht, .tup upd_same ((DAll.two dv du).pu (Pu.new (T := T) ht))⟩
/-- enumerate of a list -/
def enumD (i : Nat) : List Dt → List Dt
  | [] => []
  | x :: xs => .tup [.int (i : Nat), x] :: enumD (i + 1) xs
theorem enumD_length : ∀ (xs : List Dt) (i : Nat), (enumD i xs).length = xs.length
  | [], _ => rfl
  | x :: xs, i => by simp [enumD, enumD_length xs (i + 1)]
theorem enumD_get : ∀ (xs : List Dt) (i j : Nat) {d : Dt}, (enumD i xs)[j]? = some d → ∃ x, xs[j]? = some x ∧ d = .tup [.int ((i + j : Nat) : Int), x]
  | [], i, j, d, h => by simp [enumD] at h
  | x :: xs, i, 0, d, h => by simp [enumD] at h; subst h; exact ⟨x, rfl, by simp⟩
  | x :: xs, i, j + 1, d, h => by
    obtain ⟨y, h1, h2⟩ := enumD_get xs (i + 1) j (by simpa [enumD] using h)
    refine ⟨y, by simpa using h1, ?_⟩
    rw [h2]
    have : i + 1 + j = i + (j + 1) := by omega
    rw [this]
theorem src_enum {xs : List Dt} (h : EvA K T M ta σ H [.lst xs]) : Src K T M (iEnum K ta) σ H (enumD 0 xs) := fun H1 p R k => h H1 p _ fun v H2 p2 dv => by
  cases dv with
  | cons d1 r =>
    cases r
    obtain ⟨a, vs, rfl, hb, e, r⟩ := d1.lstR
    refine ⟨a, vs, rfl, .of e, k _ H2 p2 fun i M' H3 q => ?_⟩
    have e3 := q.at e hb
    refine ⟨fun hi => ⟨vs, .of e3, by rw [r.length]; rw [enumD_length] at hi; exact hi⟩, fun d hd => ?_⟩
    obtain ⟨x, hx, rfl⟩ := enumD_get xs 0 i hd
    obtain ⟨v, hv, dv⟩ := (r.le q).get hx
    refine ⟨⟨vs, v, .of e3, hv⟩, fun z H4 ⟨t, x', ez, ht, e4, hx'⟩ => ?_⟩
    subst ez
    subst e4
    have q1 := hx' vs (.of e3)
    rw [hv] at q1; cases q1
    have dz := (DAll.two (D.int ((i : Nat) : Int)) dv).pu (Pu.new (T := T) (o := .tup [.int ((i : Nat) : Int), v]) ht)
    refine ⟨Pu.new ht, D.tup upd_same ?_⟩
    rw [Nat.zero_add]
    exact dz

/-! ### for -/
/-- the loop's invariant P (turn, slots, heap); M' is what may change in it -/
theorem s_for {wi : TI} {g : TG} {tb : TS} {E : Ends} {M' : List Addr} (hs : Src K T M wi σ H ds)
    (k : ∀ H2, Pu T H H2 → ∃ P : Nat → L2.St → Hp → Prop, P 0 σ H2 ∧ (∀ i σ' H', P i σ' H' → Le T M H2 M' H') ∧
      (∀ i d σ' H' x H4, ds[i]? = some d → P i σ' H' → Pu T H' H4 → D K M' H4 x d → g x σ' H4 fun σ2 H5 => tb { E with nx := P (i + 1), ct := P (i + 1), bk := E.nx } σ2 H5) ∧
      ∀ σ' H', P ds.length σ' H' → E.nx σ' H') : tFor wi g tb E σ H := by
  refine hs H Pu.refl _ fun J H2 p2 jw => ?_
  obtain ⟨P, h0, hm, step, fin⟩ := k H2 p2
  refine ⟨fun i m σ' H' => m = ds.length - i ∧ i ≤ ds.length ∧ P i σ' H', ⟨_, rfl, Nat.zero_le _, h0⟩, fun i m σ' H' ⟨em, hi, pi⟩ => ?_⟩
  obtain ⟨j1, j2⟩ := jw i M' H' (hm i σ' H' pi)
  by_cases hlt : i < ds.length
  · obtain ⟨go, yld⟩ := j2 _ (List.getElem?_eq_getElem hlt)
    refine .inr ⟨go, P (i + 1), fun σ2 H3 p' => ⟨ds.length - (i + 1), by omega, rfl, hlt, p'⟩, fun x H4 y => ?_⟩
    obtain ⟨p4, dx⟩ := yld x H4 y
    exact step i _ σ' H' x H4 (List.getElem?_eq_getElem hlt) pi p4 dx
  · have e : i = ds.length := by omega
    subst e
    exact .inl ⟨j1 (Nat.le_refl _), fin σ' H' pi⟩

/-! ### comprehensions -/
theorem filter_snoc {α : Type} {p : α → Bool} (l : List α) (x : α) : (l ++ [x]).filter p = l.filter p ++ if p x = true then [x] else [] := by
  rw [List.filter_append]
  by_cases h : p x = true
  · simp [h]
  · simp [h]
theorem take_snoc {α : Type} {l : List α} {i : Nat} (h : i < l.length) : l.take (i + 1) = l.take i ++ [l[i]] := (List.take_append_getElem h).symm
/-- what a turn's reading leads to -/
theorem ev_lc {α : Type} {xs : List α} {enc : α → Dt} {p : α → Bool} {f : α → Dt} {Bd : α → List Addr → Hp → L2.St → Prop} {wi : TI} {g : TG} {tt : TT} {vs : List Nat} (w : Wf T M H) (hs : Src K T M wi σ H (xs.map enc)) (hn : xs.length ≤ 100000)
    (hg : ∀ a, a ∈ xs → ∀ M1 H1 v, Pu T H H1 → Le T M H M1 H1 → D K M1 H1 v (enc a) → ∀ Q : L2.St → Hp → Prop, (∀ σ2, Bd a M1 H1 σ2 → Q σ2 H1) → g v (wipe σ vs) H1 Q)
    (hw : ∀ a M1 H1 σ2, Bd a M1 H1 σ2 → wipe σ2 vs = wipe σ vs)
    (ht : ∀ a, a ∈ xs → ∀ M1 H1 σ2, Pu T H H1 → Le T M H M1 H1 → Wf T M1 H1 → Bd a M1 H1 σ2 → EvT T tt σ2 H1 (p a))
    (he : ∀ a, a ∈ xs → p a = true → ∀ M1 H1 σ2, Pu T H H1 → Le T M H M1 H1 → Wf T M1 H1 → Bd a M1 H1 σ2 → Ev K T M1 te σ2 H1 (f a)) : Ev K T M (tLc wi g tt te vs) σ H (.lst ((xs.filter p).map f)) := fun H1 p1 Q q => by
  refine hs H1 p1 _ fun J H2 p2 jw => fun c hc => ?_
  have pu : Pu T H H2 := p1.trans p2
  have w2 : Wf T M H2 := w.pu pu
  have hcM : c ∉ M := w2.fresh hc
  have fin : ∀ H', Pu T H2 H' → ∀ acc, H' c = some (.lst acc) → DAll K (c :: M) H' acc ((xs.filter p).map f) → Q (.ref c) H' := fun H' p' acc ec da => q _ H' (p2.trans p') (.lst hcM ec (da.sub fun b hb => List.mem_cons_of_mem _ hb))
  refine ⟨fun i m H' => m = xs.length - i ∧ i ≤ xs.length ∧ Pu T H2 H' ∧ ∃ acc, H' c = some (.lst acc) ∧ DAll K (c :: M) H' acc (((xs.take i).filter p).map f), ⟨_, rfl, Nat.zero_le _, Pu.new hc, [], upd_same, .nil⟩, fun i m H' ⟨em, hi, p3, acc, ec, da⟩ => ?_⟩
  have lM : Le T M H2 (c :: M) H' := ⟨(p3.le (M := M)).keep, p3.dom, fun b hb => (List.mem_cons.mp hb).elim (fun z => .inr (z ▸ hc)) .inl, p3.tabs⟩
  have cm : ∀ {H'' : Hp}, Pu T H' H'' → ∀ b ∈ c :: M, H'' b ≠ none := fun {H''} p'' b hb => (List.mem_cons.mp hb).elim (fun z => by rw [z, p''.at ec]; simp) fun z => (w2.pu (p3.trans p'')).mem b z
  obtain ⟨j1, j2⟩ := jw i (c :: M) H' lM
  have al : acc.length ≤ xs.length := by rw [da.length, List.length_map]; exact Nat.le_trans (List.length_filter_le ..) (by rw [List.length_take]; exact Nat.min_le_right _ _)
  by_cases hlt : i < xs.length
  · have hix : (xs.map enc)[i]? = some (enc xs[i]) := by simp [hlt]
    have hmem : xs[i] ∈ xs := List.getElem_mem hlt
    obtain ⟨go, yld⟩ := j2 _ hix
    refine .inr ⟨go, fun H'' => Pu T H2 H'' ∧ ∃ acc, H'' c = some (.lst acc) ∧ DAll K (c :: M) H'' acc (((xs.take (i + 1)).filter p).map f), fun H'' ⟨z1, z2⟩ => ⟨xs.length - (i + 1), by omega, rfl, hlt, z1, z2⟩, fun x H4 y => ?_⟩
    obtain ⟨p4, dx⟩ := yld x H4 y
    have l4 : Le T M H (c :: M) H4 := Le.trans pu.le (lM.app p4)
    have w4 : Wf T (c :: M) H4 := ⟨(pu.trans (p3.trans p4)).tabs w.tabs, cm p4⟩
    have pu4 : Pu T H H4 := pu.trans (p3.trans p4)
    refine hg _ hmem (c :: M) H4 x pu4 l4 dx _ fun σ2 b2 => ⟨hw _ _ _ _ b2, ?_⟩
    refine (ht _ hmem (c :: M) H4 σ2 pu4 l4 w4 b2).run fun H5 p5 => ?_
    have e45 : ((xs.take (i + 1)).filter p).map f = ((xs.take i).filter p).map f ++ if p xs[i] = true then [f xs[i]] else [] := by
      rw [take_snoc hlt, filter_snoc, List.map_append]
      by_cases h : p xs[i] = true <;> simp [h]
    by_cases hp : p xs[i] = true
    · rw [if_pos hp]
      refine ((he _ hmem hp (c :: M) H4 σ2 pu4 l4 w4 b2).mono p5).run fun v H6 p6 dv => ?_
      have p46 : Pu T H' H6 := p4.trans (p5.trans p6)
      have e6 := p46.at ec
      have da6 : DAll K (c :: M) H6 (acc ++ [v]) (((xs.take (i + 1)).filter p).map f) := by
        rw [e45, if_pos hp]
        exact (da.pu p46).snoc dv
      refine ⟨acc, e6, Nat.lt_of_le_of_lt (Nat.le_trans al hn) (by decide), Pu.again (p3.trans p46) hc e6, acc ++ [v], upd_same, da6.le (Le.mut (T := T) (o := .lst acc) List.mem_cons_self e6)⟩
    · rw [if_neg hp]
      have p45 : Pu T H' H5 := p4.trans p5
      refine ⟨p3.trans p45, acc, p45.at ec, ?_⟩
      rw [e45, if_neg hp, List.append_nil]
      exact da.pu p45
  · have
          e : i = xs.length := by omega
    subst e
    rw [List.take_length] at da
    exact .inl ⟨j1 (by simp), fin H' p3 acc ec da⟩
end
end Dy

/-! text E6 -/
namespace Dy
open L2 PyProof.Rows PySem.Spec PySem

/-! ### either of two readings -/
def tOr2 (t u : TE) : TE := fun σ H Q => t σ H Q ∨ u σ H Q
def rOr (r r' : R2) : R2 := fun x y H Q => r x y H Q ∨ r' x y H Q
def cOr (r r' : List V → Hp → VK → Prop) : List V → Hp → VK → Prop := fun vs H Q => r vs H Q ∨ r' vs H Q
section
variable {X : Cx} {e : Expr} {t u : TE}
theorem PE.or2 (h : PE X e t) (h' : PE X e u) : PE X e (tOr2 t u) := ⟨fun pins s σ H Q I q => q.elim (h.run pins s σ H Q I) (h'.run pins s σ H Q I)⟩
/-- what is not reached -/
def tDead : TE := fun _ _ _ => False
theorem pe_dead : PE X e tDead := ⟨fun _ _ _ _ _ _ q => q.elim⟩
end

/-! ### operators by all kinds -/
def rAddU (K : PySem.W.Frag) : R2 := rOr (rI0 fun i j => .int (i + j)) (rOr (fun x y H Q => ∃ i j, x = .str i ∧ y = .str j ∧ i.length + j.length ≤ sizeLine ∧ Q (.str (i ++ j)) H) (rOr (rCatA K) rCat))
def rMulU (K : PySem.W.Frag) : R2 := rOr (rI CMul fun i j => .int (i * j)) (rOr (rI CMulW fun i j => .int (i * j)) (rOr rRep (fun x y H Q => ∃ a xs k, x = V.ref a ∧ y = V.bl k ∧ SqL K H a xs ∧ ∀ p, H p = none → Q (.ref p) (upd H p (.lst (if k = true then xs else []))))))
def rLtU (K : PySem.W.Frag) : R2 := rOr (rI0 fun i j => .bl (decide (i < j))) (rCmpD K fun d e => ltD d e)
def rGtU (K : PySem.W.Frag) : R2 := rOr (rI0 fun i j => .bl (decide (j < i))) (rCmpD K fun d e => ltD e d)
def tSub (K : PySem.W.Frag) (ta tb : TE) : TE := tOr2 (tOp (rIx K) ta tb) (tDGet ta tb)
section
variable {X : Cx}
theorem op_addU : OpR X (binaryOp .Add) (rAddU X.K) := op_add.or (op_add_str.or (op_catA.or op_cat))
theorem op_mulU : OpR X (binaryOp .Mult) (rMulU X.K) := op_mul.or (op_mulW.or (op_rep.or op_mul_lb))
theorem op_ltU (hu : X.A.units + 64 < cLine) : OpR X (compareOp .Lt) (rLtU X.K) := op_lt.or (op_ltD hu)
theorem op_gtU (hu : X.A.units + 64 < cLine) : OpR X (compareOp .Gt) (rGtU X.K) := op_gt.or (op_gtD hu)
theorem pe_subU {o i : Expr} {ta tb : TE} {pos : Pos} (hu : X.A.units + 1 < cLine) (ho : PE X o ta) (hi : PE X i tb) (h1 : PlainIx i) (h2 : NoSl i) : PE X (.Subscript o i pos) (tSub X.K ta tb) := PE.or2 (pe_ix ix_seq ho hi h1) (pe_dget hu ho hi h2)
end

section
variable {K : PySem.W.Frag} {T : List TabR} {M : List Addr} {σ : L2.St} {H : Hp} {ta tb te tl : TE} {tr : TA} {x y z d e : Dt} {ds es : List Dt}
theorem rv_l {r r' : R2} (h : RV K T M r H x y z) : RV K T M (rOr r r') H x y z := fun H1 p v u dv du Q q => .inl (h H1 p v u dv du Q q)
theorem rv_r {r r' : R2} (h : RV K T M r' H x y z) : RV K T M (rOr r r') H x y z := fun H1 p v u dv du Q q => .inr (h H1 p v u dv du Q q)
theorem rc_l {r r' : List V → Hp → VK → Prop} (h : RC K T M r H ds z) : RC K T M (cOr r r') H ds z := fun H1 p v dv Q q => .inl (h H1 p v dv Q q)
theorem rc_r {r r' : List V → Hp → VK → Prop} (h : RC K T M r' H ds z) : RC K T M (cOr r r') H ds z := fun H1 p v dv Q q => .inr (h H1 p v dv Q q)
theorem ev_l2 {t u : TE} (h : Ev K T M t σ H d) : Ev K T M (tOr2 t u) σ H d := fun H1 p Q q => .inl (h H1 p Q q)
theorem ev_r2 {t u : TE} (h : Ev K T M u σ H d) : Ev K T M (tOr2 t u) σ H d := fun H1 p Q q => .inr (h H1 p Q q)
/-- + -/
theorem rv_add {i j : Int} : RV K T M (rAddU K) H (.int i) (.int j) (.int (i + j)) := rv_l rv_I0
theorem rv_addStr {i j : Str} (hl : i.length + j.length ≤ 100000) : RV K T M (rAddU K) H (.str i) (.str j) (.str (i ++ j)) := rv_r (rv_l (rv_addS hl))
theorem tupNil {vs : List V} {ds : List Dt} (h : DAll K M H vs ds) : vs = [] ↔ ds = [] := by
  cases h <;> simp
theorem rv_addTup {xs ys : List Dt} (hl : xs.length + ys.length ≤ 100000) : RV K T M (rAddU K) H (.tup xs) (.tup ys) (.tup (xs ++ ys)) := rv_r (rv_r (rv_l fun H1 p v u dv du Q q => by
  obtain ⟨a, vs, rfl, ea, sa, ra⟩ := dv.tupK
  obtain ⟨b, us, rfl, eb, sb, rb⟩ := du.tupK
  refine ⟨a, b, vs, us, rfl, rfl, sa, sb, by rw [ra.length, rb.length]; exact Nat.le_trans hl (by decide), fun z => q _ H1 Pu.refl ?_, fun _ z => q _ H1 Pu.refl ?_, fun _ _ c hc => q _ _ (Pu.new hc) (.tup upd_same ((ra.append rb).pu (Pu.new (T := T) hc)))⟩
  · rw [(tupNil ra).mp z, List.nil_append]; exact du
  · rw [(tupNil rb).mp z, List.append_nil]; exact dv))
theorem rv_addLst (w : Wf T M H) {xs ys : List Dt} (hl : xs.length + ys.length ≤ 100000) : RV K T M (rAddU K) H (.lst xs) (.lst ys) (.lst (xs ++ ys)) := rv_r (rv_r (rv_r (rv_cat w hl)))
theorem rv_sub {i j : Int} : RV K T M (rI0 fun i j => .int (i - j)) H (.int i) (.int j) (.int (i - j)) := rv_I0
theorem rv_mul {i j : Int} (h : CMul i j) : RV K T M (rMulU K) H (.int i) (.int j) (.int (i * j)) := rv_l (rv_I h)
theorem rv_mulW {i j : Int} (h : CMulW i j) : RV K T M (rMulU K) H (.int i) (.int j) (.int (i * j)) := rv_r (rv_l (rv_I h))
theorem all_rep {n : Nat} {vs : List V} {ds : List Dt} (r : DAll K M H vs ds) : DAll K M H (List.replicate n vs).flatten (List.replicate n ds).flatten := by
  induction n with
  | zero => exact .nil
  | succ n ih => rw [List.replicate_succ, List.replicate_succ, List.flatten_cons, List.flatten_cons]; exact r.append ih
theorem rv_rep (w : Wf T M H) {xs : List Dt} {k : Nat} (hl : xs.length * k ≤ 100000) (hk : k ≤ 100000) : RV K T M (rMulU K) H (.lst xs) (.int (k : Int)) (.lst (List.replicate k xs).flatten) := rv_r (rv_r (rv_l fun H1 p v u dv du Q q => by
  obtain ⟨a, vs, rfl, hb, e, r⟩ := dv.lstR
  refine ⟨a, k, vs, rfl, du.intR, e, by omega, by omega, by rw [r.length]; exact Nat.le_trans hl (by decide), fun c hc => ?_⟩
  exact q _ _ (Pu.new hc) (.lst ((w.pu p).fresh hc) upd_same ((all_rep r).pu (Pu.new (T := T) hc)))))
theorem rv_div {i j : Int} (h0 : 0 < j) (h : j.natAbs < 2 ^ 8000) : RV K T M (rI CDivW fun i j => .int (i / j)) H (.int i) (.int j) (.int (i / j)) := rv_I ⟨h0, Nat.lt_of_lt_of_le (PySem.Flt.log2_lt_of (by decide) h) (by decide)⟩
theorem rv_mod {i j : Int} (h : 0 < j) : RV K T M (rI (fun _ j => 0 < j) fun i j => .int (i % j)) H (.int i) (.int j) (.int (i % j)) := rv_I h
theorem rv_pow {i j : Int} (h : CPow i j) : RV K T M (rI CPow fun i j => .int (i ^ j.toNat)) H (.int i) (.int j) (.int (i ^ j.toNat)) := rv_I h
/-- comparisons -/
theorem rv_lt {i j : Int} : RV K T M (rLtU K) H (.int i) (.int j) (.bl (decide (i < j))) := rv_l rv_B0
theorem rv_gt {i j : Int} : RV K T M (rGtU K) H (.int i) (.int j) (.bl (decide (j < i))) := rv_l rv_B0
theorem rv_le {i j : Int} : RV K T M (rI0 fun i j => .bl (decide (i ≤ j))) H (.int i) (.int j) (.bl (decide (i ≤ j))) := rv_B0
theorem rv_ge {i j : Int} : RV K T M (rI0 fun i j => .bl (decide (j ≤ i))) H (.int i) (.int j) (.bl (decide (j ≤ i))) := rv_B0
theorem rv_ltD (hx : x.pl = true) (hy : y.pl = true) (al : alD x y = true) (nn : x.py ≠ .none) (dp : x.py.depth ≤ 60) : RV K T M (rLtU K) H x y (.bl (ltD x y)) := rv_r fun H1 p v u dv du Q q => ⟨M, x, y, dv, du, hx, hy, al, nn, dp, q _ H1 Pu.refl (.bl _)⟩
theorem rv_gtD (hx : x.pl = true) (hy : y.pl = true) (al : alD x y = true) (nn : x.py ≠ .none) (dp : x.py.depth ≤ 60) : RV K T M (rGtU K) H x y (.bl (ltD y x)) := rv_r fun H1 p v u dv du Q q => ⟨M, x, y, dv, du, hx, hy, al, nn, dp, q _ H1 Pu.refl (.bl _)⟩
/-- places -/
theorem atI_at {α : Type} {xs : List α} {i : Int} {j : Nat} {x : α} (hj : ixN xs.length i = some j) (h : xs[j]? = some x) : atI xs i = some x := by rw [atI, hj]; exact h
theorem all_atI {vs : List V} {ds : List Dt} {i : Int} {d : Dt} (r : DAll K M H vs ds) (h : atI ds i = some d) : ∃ v, atI vs i = some v ∧ D K M H v d := by
  unfold atI at h ⊢
  rw [r.length]
  cases e : ixN ds.length i with
  | none =>
          rw [e] at h; cases h
  | some j =>
    rw [e] at h
    exact r.get h
theorem ev_ixT {i : Int} (ha : Ev K T M ta σ H (.tup ds)) (hb : Ev K T M tb σ H (.int i)) (h : atI ds i = some d) : Ev K T M (tSub K ta tb) σ H d := ev_l2 (ev_op ha hb fun H1 p v u dv du Q q => by
  obtain ⟨a, vs, rfl, ea, sa, ra⟩ := dv.tupK
  obtain ⟨w, hw, dw⟩ := all_atI ra h
  exact .inr (.inl ⟨a, vs, i, w, rfl, du.intR, sa, hw, q w H1 Pu.refl dw⟩))
theorem ev_ixL {i : Int} (ha : Ev K T M ta σ H (.lst ds)) (hb : Ev K T M tb σ H (.int i)) (h : atI ds i = some d) : Ev K T M (tSub K ta tb) σ H d := ev_l2 (ev_op ha hb fun H1 p v u dv du Q q => by
  obtain ⟨a, vs, rfl, _, ea, ra⟩ := dv.lstR
  obtain ⟨w, hw, dw⟩ := all_atI ra h
  exact .inl ⟨a, vs, i, w, rfl, du.intR, .of ea, hw, q w H1 Pu.refl dw⟩)
/-- .. of a changing list at a -/
theorem ev_ixM {i : Int} {a : Addr} {vs : List V} {v : V} (ha : Ev K T M ta σ H (.obj a)) (hb : Ev K T M tb σ H (.int i)) (hl : H a = some (.lst vs)) (h : atI vs i = some v) (hd : D K M H v d) : Ev K T M (tSub K ta tb) σ H d := ev_l2 (ev_op ha hb fun H1 p u w du dw Q q => by
  rw [du.objR]
  exact .inl ⟨a, vs, i, v, rfl, dw.intR, .of (p.at hl), h, q v H1 Pu.refl (hd.pu p)⟩)
/-- the datum at a key -/
def dgt : List Key → List Dt → Key → Option Dt
  | k' :: ks, d :: ds, k => if k' = k then some d else dgt ks ds k
  | _, _, _ => none
theorem valV_zip {ks : List Key} {vs : List V} {ds : List Dt} (r : DAll K M H vs ds) {k : Key} {d : Dt} (h : dgt ks ds k = some d) : ∃ v, valV (ks.zip vs) k = some v ∧ D K M H v d := by
  induction ks generalizing vs ds with
  | nil => simp [dgt] at h
  | cons k' ks ih =>
    cases r with
    | nil => simp [dgt] at h
    | cons x r =>
      rename_i v d' vs ds
      rw [List.zip_cons_cons]
      rw [dgt] at h
      by_cases e : k' = k
      · rw [valV_pos e]
        rw [if_pos e] at h
        cases h
        exact ⟨v, rfl, x⟩
      · rw [valV_neg e]
        rw [if_neg e] at h
        exact ih r h
theorem valV_zipN {ks : List Key} {vs : List V} {ds : List Dt} (r : DAll K M H vs ds) {k : Key} (h : dgt ks ds k = none) : valV (ks.zip vs) k = none := by
  induction ks generalizing vs ds with
  | nil => rfl
  | cons k' ks ih =>
    cases r with
    | nil => rfl
    | cons x r =>
      rename_i v d' vs ds
      rw [List.zip_cons_cons]
      rw [dgt] at h
      by_cases e : k' = k
      · rw [if_pos e] at h; cases h
      · rw [valV_neg e]
        rw [if_neg e] at h
        exact ih r h
theorem un_rd {o : HO} {kvs : List (Key × V)} {a : Addr} (e : H a = some o) (u : un o = .dK kvs) : Rd H a (.dK kvs) := by
  cases o with
  | dK k => cases u; exact .inl e
  | frz ob w =>
    cases w with
    | dK k => cases u; exact .inr ⟨ob, e⟩
    | _ => cases u
  | _ => cases u
def kD : Key → Dt
  | .inl i => .int i
  | .inr s => .str s
theorem D.keyR {v : V} {k : Key} (h : D K M H v (kD k)) : v = kV k := by
  cases k with
  | inl i => exact h.intR
  | inr s => exact h.strR
theorem ev_dget {ks : List Key} {k : Key} (ha : Ev K T M ta σ H (.dic ks ds)) (hb : Ev K T M tb σ H (kD k)) (h : dgt ks ds k = some d) : Ev K T M (tSub K ta tb) σ H d := ev_r2 fun H1 p Q q =>
  ha H1 p _ fun v H2 p2 dv => hb H2 (p.trans p2) _ fun u H3 p3 du => by
    obtain ⟨a, o, vs, rfl, _, e, ue, _, r⟩ := (dv.pu p3).dicR
    obtain ⟨w, hw, dw⟩ := valV_zip r h
    exact ⟨a, w, rfl, .inl ⟨_, k, un_rd e ue, du.keyR, hw.symm⟩, q w H3 (p2.trans p3) dw⟩
/-- .. of a changing dict at a -/
theorem ev_dgetM {kvs : List (Key × V)} {k : Key} {a : Addr} {v : V} (ha : Ev K T M ta σ H (.obj a)) (hb : Ev K T M tb σ H (kD k)) (hl : H a = some (.dK kvs)) (h : valV kvs k = some v) (hd : D K M H v d) : Ev K T M (tSub K ta tb) σ H d := ev_r2 fun H1 p Q q =>
  ha H1 p _ fun u H2 p2 du => hb H2 (p.trans p2) _ fun w H3 p3 dw => by
    rw [du.objR]
    exact ⟨a, v, rfl, .inl ⟨kvs, k, .inl ((p.trans (p2.trans p3)).at hl), dw.keyR, h.symm⟩, q v H3 (p2.trans p3) (hd.pu (p.trans (p2.trans p3)))⟩
/-- attributes -/
theorem lookup_zip {ns : List Str} {vs : List V} {ds : List Dt} (r : DAll K M H vs ds) {f : Str} {d : Dt} (h : (ns.zip ds).lookup f = some d) : ∃ v, (ns.zip vs).lookup f = some v ∧ D K M H v d := by
  induction ns generalizing vs ds with
  | nil => simp at h
  | cons k' ks ih =>
    cases r with
    | nil => simp at h
    | cons x r =>
      rename_i v d' vs ds
      rw [List.zip_cons_cons] at h ⊢
      rw [List.lookup] at h ⊢
      cases e : (f == k') with
      | true =>
        rw [e] at h
        have h : d' = d := by simpa using h
        subst h
        exact ⟨v, rfl, x⟩
      | false =>
        rw [e] at h
        exact ih r h
theorem ev_fld {C : Addr} {ns : List Str} {f : Str} (ha : Ev K T M ta σ H (.ins C ns ds)) (c : Cls K C) (n : NoAttr K C f) (h : (ns.zip ds).lookup f = some d) : Ev K T M (tFld K ta f) σ H d := fun H1 p Q q =>
  ha H1 p _ fun v H2 p2 dv => by
    obtain ⟨a, dx, vs, rfl, _, e, _, r⟩ := dv.insR
    obtain ⟨w, hw, dw⟩ := lookup_zip r h
    exact ⟨a, C, dx, _, w, rfl, e, c, n, hw, q w H2 p2 dw⟩
theorem ev_fldM {C a dx : Addr} {fs : List (Str × V)} {f : Str} {v : V} (ha : Ev K T M ta σ H (.obj a)) (hi : H a = some (.ins C dx fs)) (c : Cls K C) (n : NoAttr K C f) (h : fs.lookup f = some v) (hd : D K M H v d) : Ev K T M (tFld K ta f) σ H d := fun H1 p Q q =>
  ha H1 p _ fun u H2 p2 du => by
    rw [du.objR]
    exact ⟨a, C, dx, fs, v, rfl, (p.trans p2).at hi, c, n, h, q v H2 p2 (hd.pu (p.trans p2))⟩

/-! ### built-in functions -/
theorem all1 {v : List V} (h : DAll K M H v [x]) : ∃ a, v = [a] ∧ D K M H a x := by
  cases h with
  | cons d r => cases r; exact ⟨_, rfl, d⟩
theorem all2 {v : List V} (h : DAll K M H v [x, y]) : ∃ a b, v = [a, b] ∧ D K M H a x ∧ D K M H b y := by
  cases h with
  | cons d r => cases r with
    | cons d' r => cases r; exact ⟨_, _, rfl, d, d'⟩
theorem rc_abs {i : Int} : RC K T M (fun xs H Q => ∃ i, xs = [.int i] ∧ Q (.int (if i < 0 then -i else i)) H) H [.int i] (.int (if i < 0 then -i else i)) := fun H1 p vs dv Q q => by
  obtain ⟨a, rfl, d⟩ := all1 dv
  exact ⟨i, by rw [d.intR], q _ H1 Pu.refl (.int _)⟩
theorem rc_int {i : Int} : RC K T M (fun xs H Q => (∃ i, xs = [.int i] ∧ Q (.int i) H) ∨ ∃ k, xs = [.bl k] ∧ Q (.int (if k then 1 else 0)) H) H [.int i] (.int i) := fun H1 p vs dv Q q => by
  obtain ⟨a, rfl, d⟩ := all1 dv
  exact .inl ⟨i, by rw [d.intR], q _ H1 Pu.refl (.int _)⟩
theorem rc_intB {k : Bool} : RC K T M (fun xs H Q => (∃ i, xs = [.int i] ∧ Q (.int i) H) ∨ ∃ k, xs = [.bl k] ∧ Q (.int (if k then 1 else 0)) H) H [.bl k] (.int (if k then 1 else 0)) := fun H1 p vs dv Q q => by
  obtain ⟨a, rfl, d⟩ := all1 dv
  exact .inr ⟨k, by rw [d.blR], q _ H1 Pu.refl (.int _)⟩
theorem rc_max2 {i j : Int} : RC K T M (fun xs H Q => ∃ i j, xs = [.int i, .int j] ∧ Q (.int (if j > i then j else i)) H) H [.int i, .int j] (.int (if j > i then j else i)) := fun H1 p vs dv Q q => by
  obtain ⟨a, b, rfl, d, d'⟩ := all2 dv
  exact ⟨i, j, by rw [d.intR, d'.intR], q _ H1 Pu.refl (.int _)⟩
theorem rc_min2 {i j : Int} : RC K T M (fun xs H Q => ∃ i j, xs = [.int i, .int j] ∧ Q (.int (if j < i then j else i)) H) H [.int i, .int j] (.int (if j < i then j else i)) := fun H1 p vs dv Q q => by
  obtain ⟨a, b, rfl, d, d'⟩ := all2 dv
  exact ⟨i, j, by rw [d.intR, d'.intR], q _ H1 Pu.refl (.int _)⟩
def rLenU (K : PySem.W.Frag) : List V → Hp → VK → Prop := fun xs H Q => (∃ p ys, xs = [.ref p] ∧ (SqL K H p ys ∨ SqT K H p ys) ∧ Q (.int ys.length) H) ∨ ∃ a kvs, xs = [V.ref a] ∧ H a = some (.dK kvs) ∧ Q (.int kvs.length) H
theorem rc_lenL : RC K T M (rLenU K) H [.lst ds] (.int ds.length) := fun H1 p vs dv Q q => by
  obtain ⟨a, rfl, d⟩ := all1 dv
  obtain ⟨a, vs, rfl, _, e, r⟩ := d.lstR
  exact .inl ⟨a, vs, rfl, .inl (.of e), by rw [r.length]; exact q _ H1 Pu.refl (.int _)⟩
theorem rc_lenT : RC K T M (rLenU K) H [.tup ds] (.int ds.length) := fun H1 p vs dv Q q => by
  obtain ⟨a, rfl, d⟩ := all1 dv
  obtain ⟨a, vs, rfl, _, e, r⟩ := d.tupK
  exact .inl ⟨a, vs, rfl, .inr e, by rw [r.length]; exact q _ H1 Pu.refl (.int _)⟩
theorem ints_sumL {xs : List Int} : RC K T M (rSum K) H [.lst (xs.map .int)] (.int xs.sum) := fun H1 p vs dv Q q => by
  obtain ⟨a, rfl, d⟩ := all1 dv
  obtain ⟨a, vs, rfl, _, e, r⟩ := d.lstR
  rw [r.ints] at e
  exact ⟨a, xs, rfl, .of e, q _ H1 Pu.refl (.int _)⟩
/-- a row of data that may be compared -/
structure RowOk (ds : List Dt) : Prop where
  pl : ∀ d ∈ ds, d.pl = true
  al : ∀ d ∈ ds, ∀ e ∈ ds, alD d e = true
  dp : ∀ d ∈ ds, d.py.depth ≤ 60
theorem map_fst_zip : ∀ {vs : List V} {ds : List Dt}, DAll K M H vs ds → (ds.zip vs).map (·.1) = ds
  | _, _, .nil => rfl
  | _, _, .cons _ r => by simp [map_fst_zip r]
theorem map_snd_zip : ∀ {vs : List V} {ds : List Dt}, DAll K M H vs ds → (ds.zip vs).map (·.2) = vs
  | _, _, .nil => rfl
  | _, _, .cons _ r => by simp [map_snd_zip r]
theorem mem_zipD : ∀ {vs : List V} {ds : List Dt}, DAll K M H vs ds → ∀ b ∈ ds.zip vs, b.1 ∈ ds ∧ D K M H b.2 b.1
  | _, _, .nil, b, h => by simp at h
  | _, _, .cons x r, b, h => by
    rw [List.zip_cons_cons] at h
    rcases
            List.mem_cons.mp h with rfl | h
    · exact ⟨List.mem_cons_self, x⟩
    · obtain ⟨h1, h2⟩ := mem_zipD r b h
      exact
              ⟨List.mem_cons_of_mem _ h1, h2⟩
theorem row_of {vs : List V} (ok : RowOk ds) (r : DAll K M H vs ds) : RowD K M H (ds.zip vs) := ⟨fun b hb => (mem_zipD r b hb).2, fun b hb => ok.pl _ (mem_zipD r b hb).1, fun b hb c hc => ok.al _ (mem_zipD r b hb).1 _ (mem_zipD r c hc).1, fun b hb => ok.dp _ (mem_zipD r b hb).1⟩
theorem all_of {bs : List (Dt × V)} (h : ∀ b ∈ bs, D K M H b.2 b.1) : DAll K M H (bs.map (·.2)) (bs.map (·.1)) := by
  induction bs with
  | nil => exact .nil
  | cons b bs ih => exact .cons (h b List.mem_cons_self) (ih fun c hc => h c (List.mem_cons_of_mem _ hc))
theorem best_map {β γ : Type} {f : β → γ} {lt : γ → γ → Bool} (l : List β) (m : β) : (l.foldl (fun m y => if lt (f y) (f m) = true then y else m) m |> f) = (l.map f).foldl (fun m y => if lt y m = true then y else m) (f m) := by
  induction l generalizing m with
  | nil => rfl
  | cons x l ih =>
    simp only [List.foldl_cons, List.map_cons]
    rw [ih]
    congr 1
    by_cases h : lt (f x) (f m) = true <;> simp [h]
theorem bestOf_map {β γ : Type} {f : β → γ} {lt : γ → γ → Bool} {l : List β} {d : γ} (h : bestOf lt (l.map f) = some d) : ∃ m, bestOf (fun x y => lt (f x) (f y)) l = some m ∧ f m = d := by
  cases l with
  | nil => cases h
  | cons x l =>
    refine ⟨_, rfl, ?_⟩
    injection h with h
    rw [← h]
    exact best_map l x
theorem best_mem {β : Type} {lt : β → β → Bool} (l : List β) : ∀ m, l.foldl (fun m y => if lt y m = true then y else m) m = m ∨ l.foldl (fun m y => if lt y m = true then y else m) m ∈ l := by
  induction l with
  | nil => intro m; exact .inl rfl
  | cons x l ih =>
    intro m
    simp only [List.foldl_cons]
    rcases ih (if lt x m = true then x else m) with h | h
    · rw [h]
      by_cases c : lt x m = true
      · rw [if_pos c]; exact .inr List.mem_cons_self
      · rw [if_neg c]; exact .inl rfl
    · exact .inr (List.mem_cons_of_mem _ h)
theorem bestOf_mem {β : Type} {lt : β → β → Bool} {l : List β} {m : β} (h : bestOf lt l = some m) : m ∈ l := by
  cases l with
  | nil => cases h
  | cons x l =>
    injection h with h
    rw [← h]
    rcases best_mem (lt := lt) l x with e | e
    · rw [e]; exact List.mem_cons_self
    · exact List.mem_cons_of_mem _ e
theorem rc_bestL {lt : Dt → Dt → Bool} (ok : RowOk ds) (nn : ∀ d ∈ ds, d.py ≠ .none) (h : bestOf lt ds = some d) : RC K T M (rBest K lt) H [.lst ds] d := fun H1 p vs dv Q q => by
  obtain ⟨a, rfl, dd⟩ := all1 dv
  obtain ⟨a, vs, rfl, _, e, r⟩ := dd.lstR
  obtain ⟨m, h1, h2⟩ := bestOf_map (f := fun b : Dt × V => b.1) (l := ds.zip vs) (lt := lt) (d := d) (by rw [map_fst_zip r]; exact h)
  have hm := bestOf_mem h1
  obtain ⟨_, h4⟩ := mem_zipD r m hm
  exact ⟨a, M, ds.zip vs, rfl, .inl (by rw [map_snd_zip r]; exact .of e), row_of ok r, fun b hb => nn _ (mem_zipD r b hb).1, m, h1, q _ H1 Pu.refl (by rw [← h2]; exact h4)⟩
theorem rc_bestT {lt : Dt → Dt → Bool} (ok : RowOk ds) (nn : ∀ d ∈ ds, d.py ≠ .none) (h : bestOf lt ds = some d) : RC K T M (rBest K lt) H [.tup ds] d := fun H1 p vs dv Q q => by
  obtain ⟨a, rfl, dd⟩ := all1 dv
  obtain ⟨a, vs, rfl, _, e, r⟩ := dd.tupK
  obtain ⟨m, h1, h2⟩ := bestOf_map (f := fun b : Dt × V => b.1) (l := ds.zip vs) (lt := lt) (d := d) (by rw [map_fst_zip r]; exact h)
  have hm := bestOf_mem h1
  obtain ⟨_, h4⟩ := mem_zipD r m hm
  exact ⟨a, M, ds.zip vs, rfl, .inr (by rw [map_snd_zip r]; exact e), row_of ok r, fun b hb => nn _ (mem_zipD r b hb).1, m, h1, q _ H1 Pu.refl (by rw [← h2]; exact h4)⟩
theorem rc_sortL (w : Wf T M H) (ok : RowOk ds) (hk : PySem.W.Sortable (ds.map Dt.py)) : RC K T M (rSortB K) H [.lst ds] (.lst (ds.mergeSort leD)) := fun H1 p vs dv Q q => by
  obtain ⟨a, rfl, dd⟩ := all1 dv
  obtain ⟨a, vs, rfl, _, e, r⟩ := dd.lstR
  have em : ((ds.zip vs).mergeSort fun x y => leD x.1 y.1).map (·.1) = ds.mergeSort leD := by
    rw [List.map_mergeSort (s := leD) (fun a _ b _ => rfl), map_fst_zip r]
  have eb : (ds.zip vs).map (fun b => b.1.py) = ds.map Dt.py := by
    rw [show (fun b : Dt × V => b.1.py) = Dt.py ∘ (fun b : Dt × V => b.1) from rfl, ← List.map_map, map_fst_zip r]
  refine ⟨a, M, ds.zip vs, rfl, by rw [map_snd_zip r]; exact .of e, row_of ok r, by rw [eb]; exact hk, fun c hc => q _ _ (Pu.new hc) (.lst ((w.pu p).fresh hc) upd_same ?_)⟩
  rw [← em]
  refine DAll.pu (Pu.new (T := T) hc) (all_of fun b hb => ?_)
  exact (mem_zipD r b ((List.mergeSort_perm _ _).mem_iff.mp hb)).2
end
end Dy

/-! text E7 -/
namespace Dy
open L2 PyProof.Rows PySem.Spec PySem

section
variable {K : PySem.W.Frag} {T : List TabR} {M : List Addr} {σ : L2.St} {H : Hp} {te : TE} {ds : List Dt}
theorem pu_grown {P : Addr} {lam : List (Nat × Nat)} {q : Str} {H1 H2 : Hp} (hu : ∀ t ∈ T, t.P = P → t = ⟨P, lam, q⟩) (ht : TabW H1 P lam q) (g : Grown P lam q H1 H2) : Pu T H1 H2 := by
  obtain ⟨ps, hP, _⟩ := ht
  refine ⟨fun b o _ n e => ?_, fun b e => ?_, fun b h => absurd h (by simp), fun ok t m => ?_⟩
  · have hb : b ≠ P := fun z => by rw [z, hP] at e; cases e; cases n
    rw [g.2 b hb]; exact e
  · by_cases hb : b = P
    · obtain ⟨ps', h', _⟩ := g.1
      rw [hb, h']; simp
    · rw [g.2 b hb]; exact e
  · by_cases hb : t.P = P
    · rw [hu t m hb]; exact g.1
    · obtain ⟨qs, e, tr, c⟩ := ok t m
      refine ⟨qs, by rw [g.2 _ hb]; exact e, tr, fun pos cv hc hl => ?_⟩
      obtain ⟨c', e1, e2⟩ := c pos cv hc hl
      refine ⟨c', e1, ?_⟩
      have hc' : c' ≠ P := fun z => by rw [z, hP] at e2; cases e2
      rw [g.2 _ hc']; exact e2
/-- a generator expression under a consumer: A tells of the running value by the turn -/
theorem tGx_ok {α β : Type} {P : Addr} {lam : List (Nat × Nat)} {q : Str} {xs : List α} {enc : α → Dt} {p : α → Bool} {f : α → Dt} {Bd : α → Hp → L2.St → Prop} {wi : TI} {g : TG} {tt : TT} {vs : List Nat} {rc : Rcv β} {a0 : β} {F : β → Hp → Prop}
    (w : Wf T M H) (hm : (⟨P, lam, q⟩ : TabR) ∈ T) (hu : ∀ t ∈ T, t.P = P → t = ⟨P, lam, q⟩) (hs : Src K T M wi σ H (xs.map enc))
    (hg : ∀ a, a ∈ xs → ∀ H1 v, Pu T H H1 → D K M H1 v (enc a) → ∀ Q : L2.St → Hp → Prop, (∀ σ2, Bd a H1 σ2 → Q σ2 H1) → g v (wipe σ vs) H1 Q)
    (hw : ∀ a H1 σ2, Bd a H1 σ2 → wipe σ2 vs = wipe σ vs)
    (ht : ∀ a, a ∈ xs → ∀ H1 σ2, Pu T H H1 → Bd a H1 σ2 → EvT T tt σ2 H1 (p a))
    (he : ∀ a, a ∈ xs → p a = true → ∀ H1 σ2, Pu T H H1 → Bd a H1 σ2 → Ev K T M te σ2 H1 (f a))
    (A : Nat → β → Hp → Prop) (h0 : ∀ H1, Pu T H H1 → A 0 a0 H1) (ha : ∀ i b H1 H2, Pu T H1 H2 → A i b H1 → A i b H2)
    (no : ∀ i a b H1, xs[i]? = some a → p a = false → A i b H1 → A (i + 1) b H1)
    (yes : ∀ i a b y H1, xs[i]? = some a → p a = true → Pu T H H1 → A i b H1 → D K M H1 y (f a) → rc b y H1 fun b' => A (i + 1) b' H1 ∧ True)
    (mono : ∀ a y H (k k' : β → Prop), (∀ a', k a' → k' a') → rc a y H k → rc a y H k')
    (fin : ∀ b H1, Pu T H H1 → A xs.length b H1 → F b H1) : tGx P lam q wi g tt te vs rc a0 F σ H := by
  refine hs H Pu.refl _ fun J H1 p1 jw => ?_
  have tw : TabW H1 P lam q := p1.tabs w.tabs _ hm
  refine ⟨tw, fun H2 gr => ?_⟩
  have p2 : Pu T H1 H2 := pu_grown hu tw gr
  have p02 := p1.trans p2
  refine ⟨fun i m b H' => m = xs.length - i ∧ i ≤ xs.length ∧ Pu T H2 H' ∧ A i b H', ⟨_, rfl, Nat.zero_le _, Pu.refl, h0 H2 p02⟩, fun i m b H' ⟨em, hi, p3, ab⟩ => ?_⟩
  obtain ⟨j1, j2⟩ := jw i M H' (p2.trans p3).le
  have p03 := p02.trans p3
  by_cases hlt : i < xs.length
  · have hmem : xs[i] ∈ xs := List.getElem_mem hlt
    have hix : xs[i]? = some xs[i] := List.getElem?_eq_getElem hlt
    obtain ⟨go, yld⟩ := j2 (enc xs[i]) (by simp [hlt])
    refine .inr ⟨go, fun b' H'' => Pu T H2 H'' ∧ A (i + 1) b' H'', fun b' H'' ⟨z1, z2⟩ => ⟨xs.length - (i + 1), by omega, rfl, hlt, z1, z2⟩, fun x H4 y => ?_⟩
    obtain ⟨p4, dx⟩ := yld x H4 y
    have p04 := p03.trans p4
    refine hg _ hmem H4 x p04 dx _ fun σ2 b2 => ⟨hw _ _ _ b2, ?_⟩
    refine (ht _ hmem H4 σ2 p04 b2).run fun H5 p5 => ?_
    by_cases hp : p xs[i] = true
    · rw [if_pos hp]
      refine ((he _ hmem hp H4 σ2 p04 b2).mono p5).run fun v H6 p6 dv => ?_
      have p46 : Pu T H' H6 := p4.trans (p5.trans p6)
      exact mono _ _ _ _ _ (fun b' hb => ⟨p3.trans p46, hb.1⟩) (yes i _ b v H6 hix hp (p03.trans p46) (ha i b _ _ p46 ab) dv)
    · rw [if_neg hp]
      exact ⟨p3.trans (p4.trans p5), ha _ _ _ _ (p4.trans p5) (no i _ b _ hix (by simpa using hp) ab)⟩
  · have
          e : i = xs.length := by omega
    subst e
    exact .inl ⟨j1 (by simp), fin b H' p03 ab⟩
/-- sum(.. for ..) -/
theorem sum_bd {α : Type} (f : α → Int) (B : Int) : ∀ (l : List α), (∀ a ∈ l, -B ≤ f a ∧ f a ≤ B) → -(B * l.length) ≤ (l.map f).sum ∧ (l.map f).sum ≤ B * l.length := by
  intro l
  induction l with
  | nil => intro _; simp
  | cons x l ih =>
    intro h
    have h1 := h x List.mem_cons_self
    have h2 := ih fun a ha => h a (List.mem_cons_of_mem _ ha)
    simp only [List.map_cons,
            List.sum_cons, List.length_cons]
    have e : B * ((l.length + 1 : Nat) : Int) = B * (l.length : Int) + B := by
      push_cast
      rw [Int.mul_add, Int.mul_one]
    omega
theorem ev_sumG {α : Type} {P : Addr} {lam : List (Nat × Nat)} {q : Str} {xs : List α} {enc : α → Dt} {p : α → Bool} {f : α → Int} {Bd : α → Hp → L2.St → Prop} {wi : TI} {g : TG} {tt : TT} {vs : List Nat}
    (w : Wf T M H) (hm : (⟨P, lam, q⟩ : TabR) ∈ T) (hu : ∀ t ∈ T, t.P = P → t = ⟨P, lam, q⟩) (hs : Src K T M wi σ H (xs.map enc)) (hn : xs.length ≤ 100000) (hf : ∀ a ∈ xs, p a = true → -(2 ^ 40) ≤ f a ∧ f a ≤ 2 ^ 40)
    (hg : ∀ a, a ∈ xs → ∀ H1 v, Pu T H H1 → D K M H1 v (enc a) → ∀ Q : L2.St → Hp → Prop, (∀ σ2, Bd a H1 σ2 → Q σ2 H1) → g v (wipe σ vs) H1 Q)
    (hw : ∀ a H1 σ2, Bd a H1 σ2 → wipe σ2 vs = wipe σ vs)
    (ht : ∀ a, a ∈ xs → ∀ H1 σ2, Pu T H H1 → Bd a H1 σ2 → EvT T tt σ2 H1 (p a))
    (he : ∀ a, a ∈ xs → p a = true → ∀ H1 σ2, Pu T H H1 → Bd a H1 σ2 → Ev K T M te σ2 H1 (.int (f a))) : Ev K T M (tSumG P lam q wi g tt te vs) σ H (.int (((xs.filter p).map f).sum)) := fun H1 p1 Q q => by
  have len : ∀ i, ((xs.take i).filter p).length ≤ 100000 := fun i => Nat.le_trans (List.length_filter_le ..) (by rw [List.length_take]; omega)
  have bd : ∀ i, -(2 ^ 60) ≤ (((xs.take i).filter p).map f).sum ∧ (((xs.take i).filter p).map f).sum ≤ 2 ^ 60 := fun i => by
    have h := sum_bd f (2 ^ 40) ((xs.take i).filter p) fun a ha => by
      obtain ⟨h1, h2⟩ := List.mem_filter.mp ha
      exact hf a (List.mem_of_mem_take h1) h2
    have := len i
    have e : (2 : Int) ^ 40 * (((xs.take i).filter p).length : Int) ≤ 2 ^ 60 := by omega
    omega
  refine tGx_ok (α := α) (β := Int) (M := M) (w.pu p1) hm hu (hs.mono p1) (fun a ha H2 v p2 => hg a ha H2 v (p1.trans p2)) hw (fun a ha H2 σ2 p2 => ht a ha H2 σ2 (p1.trans p2)) (fun a ha hp H2 σ2 p2 => he a ha hp H2 σ2 (p1.trans p2))
    (fun i b _ => b = (((xs.take i).filter p).map f).sum) (fun _ _ => by simp) (fun _ _ _ _ _ h => h) (fun i a b H2 hx hp hb => ?_) (fun i a b y H2 hx hp _ hb dy => ?_) rcSum_mono fun b H2 p2 hb => ?_
  · obtain ⟨hlt, rfl⟩ := List.getElem?_eq_some_iff.mp hx
    rw [take_snoc hlt, filter_snoc, hp]
    simpa using hb
  · obtain ⟨hlt, rfl⟩ := List.getElem?_eq_some_iff.mp hx
    have e : b + f xs[i] = (((xs.take (i + 1)).filter p).map f).sum := by
      rw [take_snoc hlt, filter_snoc, hp, hb]
      simp
    have b1 := hf xs[i] (List.getElem_mem hlt) hp
    have b2 := bd (i + 1)
    refine ⟨f xs[i], dy.intR, ⟨by omega, by omega⟩, ?_, e, trivial⟩
    rw [e]
    exact ⟨by omega, by omega⟩
  · rw [List.take_length] at hb
    rw [hb]
    exact q _ H2 p2 (.int _)

/-! ### calls -/
/-- a promise on data: from ds, d comes, and nothing has changed -/
def SpV (K : PySem.W.Frag) (T : List TabR) (M : List Addr) (sp : Sp) (H : Hp) (ds : List Dt) (d : Dt) : Prop := ∀ H1, Pu T H H1 → ∀ vs, DAll K M H1 vs ds → ∀ (Q : VK) (E : XK), (∀ v H2, Pu T H1 H2 → D K M H2 v d → Q v H2) → sp vs H1 Q E
theorem ev_call {sp : Sp} {E : XK} {ta : TA} {d : Dt} (h : EvA K T M ta σ H ds) (hs : SpV K T M sp H ds d) : Ev K T M (tCall sp [] E ta) σ H d := fun H1 p Q q =>
  h H1 p _ fun vs H2 p2 dvs => by
    show sp (vs ++ []) H2 Q E
    rw [List.append_nil]
    exact hs H2 (p.trans p2) vs dvs Q E fun v H3 p3 dv => q v H3 (p2.trans p3) dv
theorem ev_meth {sp : Sp} {E : XK} {ta : TA} {to : TE} {C : Addr} {ns : List Str} {xs : List Dt} {m : Str} {d : Dt} (ho : Ev K T M to σ H (.ins C ns xs)) (hm : ∀ vs : List V, (ns.zip vs).lookup m = none) (h : EvA K T M ta σ H ds) (hs : SpV K T M sp H (.ins C ns xs :: ds) d) : Ev K T M (tMeth C m sp [] E to ta) σ H d := fun H1 p Q q =>
  ho H1 p _ fun v H2 p2 dv => by
    have dv' := dv
    obtain ⟨a, dx, vs, rfl, _, e, _, r⟩ := dv.insR
    refine ⟨a, dx, _, rfl, e, hm vs, h H2 (p.trans p2) _ fun us H3 p3 dus => ?_⟩
    show sp (.ref a :: (us ++ [])) H3 Q E
    rw [List.append_nil]
    exact hs H3 ((p.trans p2).trans p3) _ (.cons (dv'.pu p3) dus) Q E fun v H4 p4 dv => q v H4 ((p2.trans p3).trans p4) dv
end
end Dy

/-! text L1 -/
namespace Dy
open L2 PyProof.Rows PySem.Spec PySem

/-! ### lambdas as values -/
/-- the lambda at f, its code object at c' -/
def LamHO (f c' : Addr) (q : Str) (params : Arguments) (body : Expr) (scope : Scope) (cells : List (Str × Addr)) : HO := .ext fun h => ∃ pm ctv, h.get? f = some (PySem.W.kla_obj "<lambda>" q params body scope cells pm c' ctv)
/-- all but the table at P stands -/
structure LmE (P : Addr) (H H1 : Hp) : Prop where
  keep : ∀ b o, b ≠ P → H b = some o → H1 b = some o
  dom : H1 P ≠ none
theorem lamHO_ob {P : Program} {w : World} {H : Hp} {h : Heap} {f c' : Addr} {q : Str} {params : Arguments} {body : Expr} {scope : Scope} {cells : List (Str × Addr)} {pm ctv : Value} (e : h.get? f = some (PySem.W.kla_obj "<lambda>" q params body scope cells pm c' ctv)) :
    ObjOk P w H h f (LamHO f c' q params body scope cells) := ⟨⟨pm, ctv, e⟩, ⟨_, e⟩, fun _ _ ⟨u, v, x⟩ y => ⟨u, v, y _ x⟩⟩
section
variable
        {X : Cx} {pins : List (Addr × Obj)} {σ : L2.St} {H HZ : Hp} {s s1 : Shared}
theorem lam_make3 {lam : List (Nat × Nat)} {c P : Addr} {q : Str} {params : Arguments} {body : Expr} {scope : Scope} {pos : Pos} {Q E : Value → Shared → Prop} (I : Inv X pins σ H s) (TB : LamX.TabB X.base X.mg c P) (hcode : X.env.code = .ref c) (hq : q = X.env.qual ++ "<lambda>")
    (hl : (pos.line, pos.col) ∈ lam) (hT : TabW H P lam q) (hdef : defaultsOf params X.env = ([], [])) (hfree : ∀ y ∈ scope.names, y.2 = .free → ∃ c, X.env.cells.lookup y.1 = some c)
    (k : ∀ (f c' : Addr) (H1 : Hp) (s' : Shared), Inv X pins σ (upd H1 f (LamHO f c' q params body scope (cloFrom X.env.cells scope.names []))) s' → LmE P H H1 → TabW H1 P lam q → H1 f = none → H1 c' = some (LamX.CodeO c' q) → Q (.ref f) s') :
    wpAny
            (model X.prog X.w) X.A (eval (.Lambda params body scope pos) X.env) Q E s := by
  subst hq
  obtain ⟨ps, atP, tr, known⟩ := hT
  have atP' : s.heap.get? P = some { cls := .none, data := .fields ps } := I.hok P _ atP
  have
          bP : s.heap.BuiltinsAt X.mg P := TB.bm.keeps I.bk
  refine
          PySem.W.kla_eval hdef ?_
  cases
          hc : codeAmong pos ps.toList with
  | some cv =>
    obtain ⟨c', rfl, hco⟩ := known pos cv hc hl
    refine PySem.W.kla_makeFunctionHit (mg := X.mg) (c := c) (P := P) (ps := ps) (closure_ok hfree) I.ok.glob (I.mod.glob.keeps I.bk) hcode (TB.code.keeps I.bk) atP' tr hc bP fun ctv g t kp sz => ?_
    have I1 : Inv X pins σ H { s with heap := g, toks := t } := I.kept kp
    have I2 := I1.laid (t' := t) (o := LamHO g.objs.size c' (X.env.qual ++ "<lambda>") params body scope (cloFrom X.env.cells scope.names [])) (fun b o e => Heap.get?_push_of_some _ e) (Nat.le_refl _) (lamHO_ob (pm := (X.mg "__name__").getD .none) (ctv := ctv) (Heap.get?_push_size _ rfl))
    exact k _ c' H _ I2 ⟨fun b o _ e => e, by rw [atP]; simp⟩ ⟨ps, atP, tr, known⟩ (I1.hok.fresh (Nat.le_refl _)) hco
  | none =>
    refine PySem.W.kla_makeFunction (mg := X.mg) (c := c) (P := P) (ps := ps) (closure_ok hfree) I.ok.glob (I.mod.glob.keeps I.bk) hcode (TB.code.keeps I.bk) atP' tr hc TB.gP bP fun c' ctv g t kp ge lt hrec tab => ?_
    obtain ⟨c2, oc, vs, tt, e2, hoc, hd, hv⟩ := hrec
    cases e2
    have nC : H c' = none := I.hok.fresh ge
    have nPc : P ≠ c' := ne_of_none atP nC
    have I1 := LamX.inv_table (q := X.env.qual ++ "<lambda>") (t' := t) (more := #[rawInt pos.line, rawInt pos.col, .ref c']) (h' := g) I atP (fun b o hb e => kp b o hb e) tab ge ⟨oc, vs, tt, hoc, hd, hv⟩
    have I2 := I1.laid (t' := t) (o := LamHO g.objs.size c' (X.env.qual ++ "<lambda>") params body scope (cloFrom X.env.cells scope.names [])) (fun b o e => Heap.get?_push_of_some _ e) (Nat.le_refl _) (lamHO_ob (pm := (X.mg "__name__").getD .none) (ctv := ctv) (Heap.get?_push_size _ rfl))
    have st : ∀ b o, b ≠ P → H b = some o → upd (upd H P (.tbl (ps ++ #[rawInt pos.line, rawInt pos.col, .ref c']))) c' (LamX.CodeO c' (X.env.qual ++ "<lambda>")) b = some o := fun b o hb e => by
      rw [upd_ne (ne_of_none e nC), upd_ne hb]
      exact e
    refine k _ c' _ _ I2 ⟨st, by rw [upd_ne nPc, upd_same]; simp⟩ ⟨_, by rw [upd_ne nPc, upd_same], by rw [show (ps ++ #[rawInt pos.line, rawInt pos.col, .ref c']).toList = ps.toList ++ [rawInt pos.line, rawInt pos.col, .ref c'] by simp]; exact PySem.TriplesOk_snoc _ _ _ _ tr, fun p' cv hcv hm => ?_⟩ (I1.hok.fresh (Nat.le_refl _)) upd_same
    rw [show (ps ++ #[rawInt pos.line, rawInt pos.col, .ref c']).toList = ps.toList ++ [rawInt pos.line, rawInt pos.col, .ref c'] by simp] at hcv
    rcases LamX.among_app _ tr hcv with z | z
    · obtain ⟨c0, e1, e2⟩ := known p' cv z hm
      refine ⟨c0, e1, st c0 _ (fun y => ?_) e2⟩
      rw [y, atP] at e2
      exact LamX.codeO_ne ps (Option.some.inj e2).symm
    · exact ⟨c', z, upd_same⟩
/-- the lambda's value -/
def tMkL (P : Addr) (lam : List (Nat × Nat)) (q : Str) (LO : Addr → Addr → HO) : TE := fun _ H Q => TabW H P lam q ∧ ∀ f c' H1, LmE P H H1 → TabW H1 P lam q → H1 f = none → H1 c' = some (LamX.CodeO c' q) → Q (.ref f) (upd H1 f (LO f c'))
theorem pe_lambda {lam : List (Nat × Nat)} {c P : Addr} {q : Str} {params : Arguments} {body : Expr} {scope : Scope} {pos : Pos} (TB : LamX.TabB X.base X.mg c P) (hcode : X.env.code = .ref c) (hq : q = X.env.qual ++ "<lambda>") (hl : (pos.line, pos.col) ∈ lam) (L : LamX.LamS X.env.scope scope)
    (hdef : defaultsOf params X.env = ([], []) := by rfl) : PE X (.Lambda params body scope pos) (tMkL P lam q fun f c' => LamHO f c' q params body scope (cloFrom X.env.cells scope.names [])) :=
  ⟨fun pins s σ H Q I ⟨h1, h2⟩ => lam_make3 I TB hcode hq hl h1 hdef (L.has I.ok) fun f c' H1 s' I1 a b d e => ⟨.ref f, _, I1, rfl, h2 f c' H1 a b d e⟩⟩

/-- a() in the def that holds the lambda in slot i: that def was entered at s, where the lambda's maker stood in X -/
theorem pe_act3 {CXg : CXT} {Eg E : XK} {Ng : List Str} {q qg a : Str} {sg scope : Scope} {g f c' : Addr} {cdg : Value} {params : Arguments} {body : Expr} {k i : Nat} {pn : List (Addr × Obj)} {xe : Value → Shared → Prop} {W : WX} {tb : TE} {p1 p2 : Pos}
    (I : Inv X pins σ H s) (hq : q = X.env.qual ++ "<lambda>") (L : LamX.LamS X.env.scope scope) (hbind : ∀ (pm ctv : Value), bindArgs (PySem.W.kla_fn "<lambda>" q params body scope (cloFrom X.env.cells scope.names []) pm (.ref c') ctv) ⟨[], []⟩ = pure [])
    (tk
            : Takes ((cxOf CXg X.prog X.w X.K X.mg X.base Ng qg sg g cdg X.A X.stack s H Eg).tr pn xe) W) (hW : ∀ cls d σ' H', E cls d H' → W cls d σ' H') (hr : Room (k + 1) (X.A.deeper (envOfC qg sg s.heap.objs.size g cdg)))
    (hb : ∀ (A : Around) (outer : List Env) (z : Shared) (G : Hp), Room k (A.deeper (LamX.lamEnv X scope z.heap.objs.size f c')) → PE (LamX.lamCx X A outer z G E scope f c') body tb)
    (hN
            : Ng[i]? = some a) (hv : Vis sg a) (hd : (a == ("__debug__" : Str)) = false := by decide) (hcd : (a == ("__classdict__" : Str)) = false := by decide) :
    PE
            ((cxOf CXg X.prog X.w X.K X.mg X.base Ng qg sg g cdg X.A X.stack s H Eg).tr pn xe) (.Call (.Name a p1) [] [] p2)
      (fun σZ HZ Q => σZ[i]? = some (some (.ref f)) ∧ HZ f = some (LamHO f c' q params body scope (cloFrom X.env.cells scope.names [])) ∧ HZ c' = some (LamX.CodeO c' q) ∧ tb σ HZ Q) := by
  subst hq
  refine ⟨fun pz sz σz Hz Q Iz ⟨h1, h2, h3, h4⟩ => ?_⟩
  refine wpAny_Call_Name_kw (thn ((pe_var (pos := p1) (i := i) hN hv hd hcd).run pz sz σz Hz (fun v G => v = .ref f ∧ G = Hz) Iz ⟨.ref f, h1, rfl, rfl⟩) fun u z ⟨v, G, Ig, rv, ev, eg⟩ => ?_)
  subst ev
  subst eg
  obtain rfl : u = Value.ref f := rv
  obtain ⟨⟨pm, ctv, of⟩, _, _⟩ := Ig.hok f _ h2
  obtain ⟨⟨oc, vs, t, hoc, hdc, hvc⟩, _, _⟩ := Ig.hok c' _ h3
  refine PySem.W.callWith_F0 ⟨_, _, _, _, of⟩ ?_
  have run : codeAny (model X.prog X.w) (X.A.deeper (envOfC qg sg s.heap.objs.size g cdg)) (.call (.ref f) ⟨[], []⟩) (CR (L2.CX X.prog X.w) (envOfC qg sg s.heap.objs.size g cdg :: X.stack) X.prog X.w G z Q E) z := by
    refine PySem.W.kla_callFunE hr.depth of rfl L.co L.gen rfl ⟨c', oc, vs, t, rfl, hoc, hdc, hvc⟩ ?_
    rw [hbind]
    refine wpAny_pure (wpAny_newFunctionEnv (fun y hy => (L.own y hy).2) (fun y hy => absurd hy (by simp)) (fun g1 ns sb => ⟨Ig.nolimit.fresh _ sb, ?_⟩) L.kind)
    show codeAny _ _ (.expr body (LamX.lamEnv X scope z.heap.objs.size f c')) _ _
    have kp : ∀ b o, z.heap.get? b = some o → g1.get? b = some o := fun b o e => sb.extBut b o (Nat.ne_of_lt (Heap.lt_size e)) (Heap.get?_push_of_some _ e)
    have J : Inv (LamX.lamCx X (X.A.deeper (envOfC qg sg s.heap.objs.size g cdg)) (envOfC qg sg s.heap.objs.size g cdg :: X.stack) z G E scope f c') [] σ G { z with heap := g1, toks := z.toks + ([] : List (Str × Value)).length } :=
      LamX.lam_start2 I L Ig.env0 hr.hd Ig.base ns kp
    refine PySem.W.kla_codeExpr (wpAny_mono ((hb _ _ z G (hr.deeper _)).run [] _ _ G Q J h4) (fun v s' ⟨w', H', J', rv, q⟩ => ⟨w', H', J'.os, J'.bare, J'.base, J'.hok, rv, q⟩) fun e s' hq => hq)
  have out : Passes (L2.CX X.prog X.w) ((cxOf CXg X.prog X.w X.K X.mg X.base Ng qg sg g cdg X.A X.stack s H Eg).tr pn xe) E := passes_call tk hW
  refine wpAny_call (codeAny_mono run fun r s' hq => ?_)
  match r, hq with
  | .error e, hq => exact out pz σz G z e s' Ig hq
  | .ok (.ret u), hq => exact Ig.after hq
  | .ok .next, hq => exact False.elim hq
  | .ok .brk, hq => exact False.elim hq
  | .ok .cont, hq => exact False.elim hq
end
end Dy

/-! text L2f -/
namespace Dy
open L2 PyProof.Rows PySem.Spec PySem

/-! ### a list comprehension whose block may know how the def stood -/
abbrev blkEnv (X : Cx) (scope : Scope) (n : Nat) : Env := compEnvC scope (cellsFrom (n + 1) scope.names (cloFrom X.env.cells scope.names [])) n X.env
section
variable {X : Cx}
/-- what a block's parts do, the def standing at s -/
def BlkDoes (X : Cx) (tg elt : Expr) (ifs : List Expr) (scope : Scope) (g : TG) (tt : L2.St → TT) (te : L2.St → TE) : Prop :=
  ∀ (pins : List (Addr × Obj)) (s : Shared) (σ : L2.St) (H : Hp) (fp : List Addr), Inv X pins σ H s → (∀ b ∈ fp, FpOk X pins H b ∧ b < s.heap.objs.size) →
    PG (X.blk s H scope (blkEnv X scope s.heap.objs.size) fp) tg g ∧ PTs (X.blk s H scope (blkEnv X scope s.heap.objs.size) fp) ifs (tt σ) ∧ PE (X.blk s H scope (blkEnv X scope s.heap.objs.size) fp) elt (te σ)
theorem pe_lcI {elt tg iter : Expr} {ifs : List Expr} {scope : Scope} {own : List (Str × Nat)} {pos : Pos} {wi : TI} {g : TG} {tt : L2.St → TT} {te : L2.St → TE} (hc : X.calm = true) (hN : X.N.Nodup) (hi : PI X tg iter wi) (ok : BlkOk X.N X.env.scope scope own)
    (hb : BlkDoes X tg elt ifs scope g tt te) (hs : ∀ x, foldedSetIterable iter X.env x = pure x := by intro _; rfl) : PE X (.ListComp elt [⟨tg, iter, ifs, 0⟩] scope pos) (fun σ H Q => tLc wi g (tt σ) (te σ) (own.map (·.2)) σ H Q) := by
  refine
          ⟨fun pins s σ H Q I h => ?_⟩
  rw [eval_ListComp]
  have fr : ∀ y ∈ scope.names, y.2 = .free → ∃ c, X.env.cells.lookup y.1 = some c := fun y hy e => (ok.free y hy e).elim (fun k => I.ok.has _ (.inl k)) fun k => I.ok.has _ (.inr k)
  refine wpAny_comprehension_free rfl hs (closure_ok fr) ok.kind (fun y hy e => by rw [ok.uniq y hy, e]) (thn (hi.run pins s σ H _ I h) fun u z hx => thn hx fun iv z2 h2 => ?_)
  obtain ⟨it, fp, tn, J, G, rfl, I2, T, st2, f2, q⟩ := h2
  refine
          wpAny_newObj_type (newEnv_comp ?_) (by show 0 ≤ sizeLine; decide)
  obtain ⟨W, ⟨m0, w0⟩, turn⟩ := q z2.heap.objs.size (I2.hok.fresh (Nat.le_refl _))
  have lts : ∀ b ∈ fp, b < z2.heap.objs.size := fun b hb => let ⟨o, e, _⟩ := T.obj _ _ st2 b hb; Heap.lt_size e
  -- the new list at n
  have I3 : Inv X pins σ (upd G z2.heap.objs.size (.lst [])) { z2 with heap := z2.heap.push { cls := .type "list", data := .seq ([] : List Value).toArray } } :=
    I2.laid (t' := z2.toks) (fun b o e => Heap.get?_push_of_some _ e) (Nat.le_refl _) ⟨Nat.zero_le _, [], 0, .nil, Heap.get?_push_size _ rfl⟩
  have f3 : ∀ b ∈ fp, FpOk X pins (upd G z2.heap.objs.size (.lst [])) b ∧ b < (z2.heap.push { cls := .type "list", data := .seq ([] : List Value).toArray }).objs.size := fun b hb =>
    ⟨⟨by rw [upd_ne (Nat.ne_of_lt (lts b hb))]; exact (f2 b hb).1, (f2 b hb).2⟩, by rw [Heap.size_push]; exact Nat.lt_succ_of_lt (lts b hb)⟩
  have st3 : tn 0 (z2.heap.push { cls := .type "list", data := .seq ([] : List Value).toArray }) := T.keep _ _ _ st2 fun b _ o e => Heap.get?_push_of_some _ e
  obtain ⟨pg, pt, pe⟩ := hb pins _ σ _ fp I3 f3
  have
          I4 := block_start I3 ok hN f3
  generalize hD : z2.heap.objs.size = D at *
  generalize hG3 : upd G D (.lst []) = G3 at *
  generalize hz3 : ({ z2 with heap := z2.heap.push { cls := .type "list", data := .seq ([] : List Value).toArray } } : Shared) = z3 at *
  show codeAny _ _ (.compStart (.ListComp elt [⟨tg, iter, ifs, 0⟩] scope pos) 0 (.ref it) (.ref D) (blkEnv X scope z3.heap.objs.size)) (compPost (model X.prog X.w) X.A X.xe none _ (.ref D) z3.heap.objs.size) { z3 with heap := pushCells (z3.heap.push { cls := .type "dict", data := .dict #[] }) scope.names }
  have hh3 : z2.heap.push { cls := .type "list", data := .seq ([] : List Value).toArray } = z3.heap := by rw [← hz3]
  rw [hh3] at st3
  have nfp : ∀ b ∈ fp, G3 b = none := fun b hb => (f3 b hb).1.1
  have st4 : tn 0 (pushCells (z3.heap.push { cls := .type "dict", data := .dict #[] }) scope.names) := T.keep _ _ _ st3 fun b _ o e => pushCells_keeps _ _ _ _ (Heap.get?_push_of_some _ e)
  have fix : ∀ {σ' : L2.St} {H' : Hp} {s' : Shared}, Inv (X.blk z3 G3 scope (blkEnv X scope z3.heap.objs.size) fp) [] σ' H' s' → (∀ b ∈ fp, H' b = none) → ∀ b ∈ fp, FpOk (X.blk z3 G3 scope (blkEnv X scope z3.heap.objs.size) fp) [] H' b := fun {σ' H' s'} I' hn b hb =>
    ⟨hn
            b hb, (I'.ok.exf b hb).1, I'.ok.exfs b hb, .inl hb, fun x c e => (I'.ok.exf b hb).2 x c e, fun p hp => absurd (show p ∈ ([] : List (Addr × Obj)) ++ [] from hp) (by simp)⟩
  have all : codeAny (model X.prog X.w) X.A (.compLoop (.ListComp elt [⟨tg, iter, ifs, 0⟩] scope pos) 0 (.ref it) (.ref D) (blkEnv X scope z3.heap.objs.size)) (compPost (model X.prog X.w) X.A X.xe none (EP X pins σ Q) (.ref D) z3.heap.objs.size) { z3 with heap := pushCells (z3.heap.push { cls := .type "dict", data := .dict #[] }) scope.names } := by
    refine compLoop_any (fun n s' => ∃ i H', Inv (X.blk z3 G3 scope (blkEnv X scope z3.heap.objs.size) fp) [] (wipe σ (own.map (·.2))) H' s' ∧ tn i s'.heap ∧ (∀ b ∈ fp, H' b = none) ∧ W i n H') ?_ m0 ⟨0, G3, I4, st4, nfp, w0⟩
    rintro
            n s5 ⟨i, H5, I5, st5, n5, w5⟩
    rcases turn i n H5 w5 with ⟨stop, last⟩ | ⟨go, Nx, next, step⟩
    · refine thnF (T.done (X.blk z3 G3 scope (blkEnv X scope z3.heap.objs.size) fp) rfl rfl rfl hc i [] s5 _ H5 (fun _ _ => False) I5 (fix I5 n5) st5 stop) fun r s6 ⟨hr, I6⟩ => ?_
      subst hr
      have
              I7 : Inv X pins σ H5 s6 := I3.call' (ch := fp) I6.os I6.base I6.hok I6.bare fun b hb => ⟨(f3 b hb).1.2.2.2.1, (f3 b hb).1.2.1, (f3 b hb).1.2.2.2.2.1, (f3 b hb).1.2.2.2.2.2⟩
      have nC : H5 z3.heap.objs.size = none := I6.free
      obtain ⟨m, ns, _⟩ := I6.loc
      obtain ⟨f0, f1, f3', f4, f5, f6⟩ := I3.fpOk (H' := H5) (Nat.le_refl _) nC
      exact ⟨m, ns, fun h'' sb => ⟨.ref D, H5, I7.turned (t' := s6.toks) (fun b o hb e => (sb.2 b hb).trans e) f0 f1 f4 f5 f6, rfl, last⟩⟩
    · refine thnF (T.item (X.blk z3 G3 scope (blkEnv X scope z3.heap.objs.size) fp) rfl rfl rfl hc i [] s5 _ H5 (fun _ _ => False) I5 (fix I5 n5) st5 go) fun r s6 ⟨u, hr, h6⟩ => ?_
      subst hr
      refine
              thnF h6 fun _ s7 ⟨x, H7, I7, r7, y7, st7, n7⟩ => ?_
      refine thnF (pg.run _ s7 _ H7 x u _ (I7.pinned (fix I7 n7) (T.obj _ _ st7)) r7 (step x H7 y7)) fun _ s8 ⟨σ8, H8, I8, hw8, q8⟩ => ?_
      refine
              thnF (pt.run _ s8 σ8 H8 _ I8 q8) fun b s9 ⟨H9, I9, q9⟩ => ?_
      have again : ∀ {s' : Shared} {H' : Hp}, Inv (X.blk z3 G3 scope (blkEnv X scope z3.heap.objs.size) fp) ([] ++ pinsAt fp s7.heap) σ8 H' s' → Nx H' → ∃ m, m < n ∧ ∃ i H', Inv (X.blk z3 G3 scope (blkEnv X scope z3.heap.objs.size) fp) [] (wipe σ (own.map (·.2))) H' s' ∧ tn i s'.heap ∧ (∀ b ∈ fp, H' b = none) ∧ W i m H' := fun {s' H'} I' nx => by
        obtain ⟨m', hm, w'⟩ := next H' nx
        have pin' : ∀ b ∈ fp, ∀ o, s7.heap.get? b = some o → s'.heap.get? b = some o ∧ H' b = none := fun b hb o e => let z := I'.pin (b, o) (List.mem_append_right _ (List.mem_append_right _ (mem_pinsAt hb e))); ⟨z.1, z.2.1⟩
        refine ⟨m', hm, i + 1, H', (I'.unpinned (pins := [])).weak (by rw [← hw8, wipe_length]) (fun j v e => by rw [← hw8] at e; exact (wipe_some e).1), T.keep _ _ _ st7 fun b hb o e => (pin' b hb o e).1, fun b hb => ?_, w'⟩
        obtain
                ⟨o, e, _⟩ := T.obj _ _ st7 b hb
        exact (pin' b hb o e).2
      cases b with
      | false => exact again I9 q9
      | true =>
        refine thnF (pe.run _ s9 σ8 H9 _ I9 q9) fun y s10 ⟨yv, H10, I10, r10, acc, hD10, hz10, nx⟩ => ?_
        exact app_ok (X := X.blk z3 G3 scope (blkEnv X scope z3.heap.objs.size) fp) I10 hD10 hz10 r10 fun s11 I11 => again I11 nx
  exact codeAny_compStart_list all (T.self X.A 0 _ _ _ st4 all)
end
end Dy

/-! text L3 -/
namespace Dy
open L2 PyProof.Rows PySem.Spec PySem

structure LamD where
  params : Arguments
  body : Expr
  scope : Scope
/-- the lambda as a thing of the heap -/
def LamD.ho (X : Cx) (q : Str) (d : LamD) (f c' : Addr) : HO := LamHO f c' q d.params d.body d.scope (cloFrom X.env.cells d.scope.names [])
/-- what the lambda does -/
structure LamOk (X : Cx) (q : Str) (k : Nat) (d : LamD) (t : XK → TE) : Prop where
  L : LamX.LamS X.env.scope d.scope
  bind : ∀ (cl : List (Str × Addr)) (pm cv ctv : Value), bindArgs (PySem.W.kla_fn "<lambda>" q d.params d.body d.scope cl pm cv ctv) ⟨[], []⟩ = pure []
  body : ∀ (A : Around) (outer : List Env) (z : Shared) (G : Hp) (E : XK) (f c' : Addr), Room k (A.deeper (LamX.lamEnv X d.scope z.heap.objs.size f c')) → PE (LamX.lamCx X A outer z G E d.scope f c') d.body (t E)
/-- def x(a): try: return a() / except e: return ret -/
structure ToldD (K : PySem.W.Frag) (mg : Str → Option Value) (x : Str) (Ng : List Str) (sg : Scope) (g : Addr) (CS : Addr) (ret : Str) : Prop where
  gm : mg x = some (.ref g)
  fn : ∃ (pg : Arguments) (fd : FuncData) (a e : Str) (p1 p2 p3 p4 p5 p6 p7 p8 : Pos) (j : Nat), L2.FunD K x x pg
      [.Try [.Return (some (.Call (.Name a p1) [] [] p2)) p3] [.ExceptHandler (some (.Name e p4)) none [.Return (some (.Constant (.str ret) j p5)) p6] p7] [] [] p8] sg [] [] g fd ∧
    L2.Binds K fd [a] [] ∧ FnScope Ng [a] sg ∧ Ng[0]? = some a ∧ Vis sg a ∧ sg.names.lookup e = some .globalImplicit ∧ mg e = some (.ref CS) ∧ (e == ("__debug__" : Str)) = false ∧ (a == ("__debug__" : Str)) = false ∧ (a == ("__classdict__" : Str)) = false
/-- how an exception ends there -/
def eTold (K : PySem.W.Frag) (CS : Addr) (ret : Str) (Q : VK) : XK := fun cls _ H' => ∃ b, PySem.W.exmOne K cls (.ref CS) = some b ∧ (b = true → Q (.str ret) H') ∧ (b = false → False)
section
variable {X : Cx} {pins : List (Addr × Obj)} {σ : L2.St} {H : Hp} {s : Shared} {k : Nat} {q x ret : Str} {Ng : List Str} {sg : Scope} {g CS f c' : Addr} {d : LamD} {t : XK → TE} {Q : VK}
theorem told_run (I : Inv X pins σ H s) (TD : ToldD X.K X.mg x Ng sg g CS ret) (hq : q = X.env.qual ++ "<lambda>") (hr : Room (k + 2) X.A) (ok : LamOk X q k d t) (h1 : H f = some (d.ho X q f c')) (h2 : H c' = some (LamX.CodeO c' q)) (h : t (eTold X.K CS ret Q) σ H Q) :
    codeAny (model X.prog X.w) X.A (.call (.ref g) ⟨[.ref f], []⟩) (CR C8.CX0 X.stack X.prog X.w H s Q C8.E0) s := by
  obtain ⟨pg, fd, a, e, p1, p2, p3, p4, p5, p6, p7, p8, j, F, bd, S, n0, va, ge, me, db, da, dc⟩ := TD.fn
  obtain
          ⟨oc, od, dV, kV, doc, pm, an, cdv, ct, osl, rfl, lk, hcd, _, _⟩ := F.ex
  refine LamX.run_ofS (N := Ng) (ps := [a]) (us := [.ref f]) (vs := [.ref f]) lk hcd S hr I.env0 (bd s [.ref f] I.kIn rfl) (.cons rfl .nil) rfl fun hr' => ?_
  have gv := LamX.told_gives (X := X) (Ng := Ng) (x := x) (a := a) (e := e) (q := q) (ret := ret) (sg := sg) (g := g) (CS := CS) (cdg := cdv) (j := j) (p1 := p1) (p2 := p2) (p3 := p3) (p4 := p4) (p5 := p5) (p6 := p6) (p7 := p7) (p8 := p8) ge me db (fun f => by
    cases Ng with
    | nil => cases n0
    | cons y ys => rfl)
  obtain ⟨t', ht', hq'⟩ := gv f c' s H Q (fun E G Q' => G f = some (d.ho X q f c') ∧ t E σ G Q') (fun W pn xe E z1 z2 tk hW => ⟨fun pz sz σz G Q' Iz ⟨a1, a2, a3, a4⟩ => (pe_act3 (i := 0) I hq ok.L (fun pm ctv => ok.bind _ _ _ _) tk hW hr' (fun A outer z G => ok.body A outer z G E f c') n0 va da dc).run pz sz σz G Q' Iz ⟨a1, a3, a2, a4⟩⟩) h2 ⟨h1, h⟩
  exact ⟨t', ht'.nox, hq'⟩
theorem told_ends {Y : Cx} {pins' : List (Addr × Obj)} {σ' : L2.St} (IY : Inv Y pins' σ' H s) (e1 : Y.prog = X.prog) (e2 : Y.w = X.w) (e3 : Y.A = X.A) (e4 : Y.stack = X.stack) (h : codeAny (model X.prog X.w) X.A (.call (.ref g) ⟨[.ref f], []⟩) (CR C8.CX0 X.stack X.prog X.w H s Q C8.E0) s) :
    wpAny (model Y.prog Y.w) Y.A (call (.ref g) [.ref f]) (EP Y pins' σ' Q) Y.xe s := by
  rw [e1, e2, e3]
  refine wpAny_call (codeAny_mono h fun r s2 hq => ?_)
  match r, hq with
  | .error e, hq => exact (show False from hq).elim
  | .ok (.ret u), hq =>
    refine IY.after ?_
    rw [e1, e2, e4]
    exact hq
  | .ok .next, hq => exact False.elim hq
  | .ok .brk, hq => exact False.elim hq
  | .ok .cont, hq => exact False.elim hq
/-- x(lambda: ..) -/
def tTold (K : PySem.W.Frag) (P : Addr) (lam : List (Nat × Nat)) (q : Str) (CS : Addr) (ret : Str) (LO : Addr → Addr → HO) (t : XK → TE) : TE := fun σ H Q =>
  TabW H P lam q ∧ ∀ f c' H1, LmE P H H1 → TabW H1 P lam q → H1 f = none → H1 c' = some (LamX.CodeO c' q) → t (eTold K CS ret Q) σ (upd H1 f (LO f c')) Q
theorem pe_told {lam : List (Nat × Nat)} {c P : Addr} {p lpos pos : Pos} (hg : Gl X x) (TD : ToldD X.K X.mg x Ng sg g CS ret) (hk : PySem.W.keepIn X.K (.ref g) = true) (TB : LamX.TabB X.base X.mg c P) (hcode : X.env.code = .ref c) (hq : q = X.env.qual ++ "<lambda>")
    (hl : (lpos.line, lpos.col) ∈ lam) (hr : Room (k + 2) X.A) (ok : LamOk X q k d t) (hdef : defaultsOf d.params X.env = ([], [])) (hdb : (x == ("__debug__" : Str)) = false := by decide) :
    PE X (.Call (.Name x p) [.Lambda d.params d.body d.scope lpos] [] pos) (tTold X.K P lam q CS ret (d.ho X q) t) := by
  refine ⟨fun pins s σ H Q I ⟨h1, h2⟩ => ?_⟩
  refine wpAny_Call_Name_kw (ld_glob I hg TD.gm ?_ hdb)
  refine
          PySem.W.callWith_K (h₀ := X.base) I.ok.mod.kin hk ?_ (by rfl) (by rfl)
  show wpAny _ _ (spliced ((false, eval (.Lambda d.params d.body d.scope lpos) X.env) :: backTo pos (starEach [] X.env))) _ _ s
  refine Calls.spliced_cons (lam_make3 I TB hcode hq hl h1 hdef (ok.L.has I.ok) fun f c' H1 s' I1 a b n cO => ?_)
  refine
          Calls.spliced_nil ⟨I1.kIn, ?_⟩
  have n1 : c' ≠ f := fun z => by rw [z, n] at cO; cases cO
  exact told_ends I1 rfl rfl rfl rfl (told_run I1 TD hq hr ok upd_same (by rw [upd_ne n1]; exact cO) (h2 f c' H1 a b n cO))
/-- the lambdas of a list, told one by one in a comprehension's test: y is the comprehension's name -/
def tToldF (K : PySem.W.Frag) (q : Str) (CS : Addr) (ret : Str) (i : Nat) (LO : Nat → Addr → Addr → HO) (ts : Nat → XK → TE) (n : Nat) (σ0 : L2.St) : TE := fun σ H Q =>
  ∃ j f c', j < n ∧ σ[i]? = some (some (.ref f)) ∧ H f = some (LO j f c') ∧ H c' = some (LamX.CodeO c' q) ∧ ts j (eTold K CS ret Q) σ0 H Q
theorem pe_toldF {ds : List LamD} {ts : Nat → XK → TE} {i : Nat} {fp : List Addr} {scope : Scope} {own : List (Str × Nat)} {p yp pos : Pos} {y : Str} (I : Inv X pins σ H s) (f3 : ∀ b ∈ fp, FpOk X pins H b ∧ b < s.heap.objs.size)
    (hg : Gl (X.blk s H scope (blkEnv X scope s.heap.objs.size) fp) x) (TD : ToldD X.K X.mg x Ng sg g CS ret) (hk : PySem.W.keepIn X.K (.ref g) = true) (hq : q = X.env.qual ++ "<lambda>") (hr : Room (k + 2) X.A)
    (ok : ∀ j d, ds[j]? = some d → LamOk X q k d (ts j)) (hy : PE (X.blk s H scope (blkEnv X scope s.heap.objs.size) fp) (.Name y yp) (tVar i)) (hdb : (x == ("__debug__" : Str)) = false := by decide) :
    PE (X.blk s H scope (blkEnv X scope s.heap.objs.size) fp) (.Call (.Name x p) [.Name y yp] [] pos) (tToldF X.K q CS ret i (fun j => (ds.getD j ⟨default, .Constant .none 0 yp, scope⟩).ho X q) ts ds.length σ) := by
  refine ⟨fun pins' s' σ' H' Q I' ⟨j, f, c', hj, h0, h1, h2, h3⟩ => ?_⟩
  refine wpAny_Call_Name_kw (ld_glob I' hg TD.gm ?_ hdb)
  refine PySem.W.callWith_K (h₀ := X.base) I'.ok.mod.kin hk ?_ (by rfl) (by rfl)
  show wpAny _ _ (spliced ((false, eval (.Name y yp) (blkEnv X scope s.heap.objs.size)) :: backTo pos (starEach [] (blkEnv X scope s.heap.objs.size)))) _ _ s'
  refine Calls.spliced_cons (thn (hy.run pins' s' σ' H' (fun v G => v = .ref f ∧ G = H') I' ⟨.ref f, h0, rfl, rfl⟩) fun u s2 ⟨v, G, I2, rv, ev, eg⟩ => ?_)
  subst ev
  subst eg
  obtain rfl : u = Value.ref f := rv
  refine Calls.spliced_nil ⟨I2.kIn, ?_⟩
  have e : ds[j]? = some ds[j] := List.getElem?_eq_getElem hj
  have ed : ds.getD j ⟨default, .Constant .none 0 yp, scope⟩ = ds[j] := by rw [List.getD_eq_getElem?_getD, e]; rfl
  simp only [ed] at h1
  have I7 : Inv X pins σ G s2 := I.call' (ch := fp) I2.os I2.base I2.hok I2.bare fun b hb => ⟨(f3 b hb).1.2.2.2.1, (f3 b hb).1.2.1, (f3 b hb).1.2.2.2.2.1, (f3 b hb).1.2.2.2.2.2⟩
  exact told_ends (X := X) I2 rfl rfl rfl rfl (told_run I7 TD hq hr (ok j _ e) h1 h2 h3)
end
end Dy

/-! text S1 -/
namespace Dy
open L2 PyProof.Rows PySem.Spec PySem
section
variable {X : Cx} {k : Nat} {A : Around}
theorem hu_of_ (r : Room k A) : A.units + 64 < cLine := by have := r.un; omega
theorem hu1_of_ (r : Room k A) : A.units + 1 < cLine := by have := r.un; omega
theorem hu2_of_ (r : Room k A) : A.units + 65 < cLine := by have := r.un; omega
/-! ### joined rules -/
def rSlU (K : PySem.W.Frag) : V → Option Int → Option Int → Hp → VK → Prop := fun x lo hi H Q => rSlL K x lo hi H Q ∨ rSlA K x lo hi H Q
theorem sl_U : SlR X (rSlU X.K) := sl_list.or sl_tupA
theorem call_lenU : CallR X (.builtin "len") (rLenU X.K) := CallR.or call_len_seq call_lenD
theorem ip_addU : PIp X .Add (rOr (rI0 fun i j => .int (i + j)) rExt2) := OpR.or iop_add iop_ext
theorem ip_fdiv : PIp X .FloorDiv (rI CDiv fun i j => .int (i / j)) := iop_fdiv
/-- raise C('..') -/
def tRaise (C : Addr) (E : XK) : TS := fun _ _ H => E (.ref C) none H
/-- o.f = .. as a target -/
def gFld (K : PySem.W.Frag) (to : TE) (f : Str) : TG := fun v σ H Q => to σ H fun x H2 => ∃ a C dx fs, x = .ref a ∧ H2 a = some (.ins C dx fs) ∧ Cls K C ∧ NoAttr K C f ∧ fs.length < 1000 ∧ Q σ (upd H2 a (.ins C dx (putF f v fs)))
theorem pg_fld {o : Expr} {f : Str} {p : Pos} {to : TE} (ho : PE X o to) : PG X (.Attribute o f p) (gFld X.K to f) := by
  refine ⟨fun pins s σ H v u Q I r q => ?_⟩
  rw [assign_Attribute]
  refine wpAny_bind (wpAny_holding (thn (ho.run pins s σ H _ I q) fun ov s1 ⟨x, H2, I2, rx, a, C, dx, fs, ex, ea, c, n, l, q2⟩ => wpAny_bind (wpAny_standAt ?_)))
  subst ex
  obtain
          rfl : ov = Value.ref a := rx
  refine wpAny_bind (wpAny_holding (setattr_ok I2 ea c n l r fun s3 I3 => ?_))
  exact wpAny_release ⟨σ, _, I3, q2⟩
end
end Dy

/-! text E8 -/
namespace Dy
open L2 PyProof.Rows PySem.Spec PySem

section
variable {K : PySem.W.Frag} {T : List TabR} {M : List Addr} {σ : L2.St} {H H' : Hp} {te ta tb to tv : TE} {tt : TT} {tl : TA} {ds : List Dt} {d x y z : Dt} {v : V} {E : Ends} {t u : TS}
/-! ### statements -/
theorem st_seq (h : t { E with nx := u E } σ H) : tSeq t u E σ H := h
theorem st_if {b : Bool} (h : EvT T tt σ H b) (h1 : b = true → ∀ H1, Pu T H H1 → t E σ H1) (h2 : b = false → ∀ H1, Pu T H H1 → u E σ H1) : tIfS tt t u E σ H := h.run fun H1 p => by
  cases b with
  | true => exact h1 rfl H1 p
  | false => exact h2 rfl H1 p
theorem st_asg {i : Nat} (h : Ev K T M te σ H d) (k : ∀ v H1, Pu T H H1 → D K M H1 v d → E.nx (σ.set i (some v)) H1) : tAsg te (gName i) E σ H := h.run fun v H1 p dv => k v H1 p dv
theorem st_ret (h : Ev K T M te σ H d) (k : ∀ v H1, Pu T H H1 → D K M H1 v d → E.rt v H1) : tRet te E σ H := h.run fun v H1 p dv => k v H1 p dv
theorem st_drop (h : Ev K T M te σ H d) (k : ∀ H1, Pu T H H1 → E.nx σ H1) : tDrop te E σ H := h.run fun v H1 p dv => k H1 p
theorem st_par {i j : Nat} (h : EvA K T M tl σ H [x, y]) (k : ∀ v w H1, Pu T H H1 → D K M H1 v x → D K M H1 w y → E.nx ((σ.set i (some v)).set j (some w)) H1) : tPar i j tl E σ H := h.run fun vs H1 p dv => by
  obtain ⟨a, b, rfl, da, db⟩ := all2 dv
  exact ⟨a, b, rfl, k a b H1 p da db⟩
theorem all3 {vs : List V} (h : DAll K M H vs [x, y, z]) : ∃ a b c, vs = [a, b, c] ∧ D K M H a x ∧ D K M H b y ∧ D K M H c z := by
  cases h with
  | cons d r =>
    obtain ⟨b, c, rfl, h1, h2⟩ := all2 r
    exact ⟨_, b, c, rfl, d, h1, h2⟩
theorem all4 {w : Dt} {vs : List V} (h : DAll K M H vs [x, y, z, w]) : ∃ a b c e, vs = [a, b, c, e] ∧ D K M H a x ∧ D K M H b y ∧ D K M H c z ∧ D K M H e w := by
  cases h with
  | cons d r =>
    obtain ⟨b, c, e, rfl, h1, h2, h3⟩ := all3 r
    exact ⟨_, b, c, e, rfl, d, h1, h2, h3⟩
theorem st_par3 {i j l : Nat} (h : EvA K T M tl σ H [x, y, z]) (k : ∀ v w u H1, Pu T H H1 → D K M H1 v x → D K M H1 w y → D K M H1 u z → E.nx (((σ.set i (some v)).set j (some w)).set l (some u)) H1) : tPar3 i j l tl E σ H := h.run fun vs H1 p dv => by
  obtain ⟨a, b, c, rfl, da, db, dc⟩ := all3 dv
  exact ⟨a, b, c, rfl, k a b c H1 p da db dc⟩
theorem st_augI {i : Nat} {f : Int → Int → Int} {C : Int → Int → Prop} {a b : Int} (hx : σ[i]? = some (some (.int a))) (h : Ev K T M te σ H (.int b)) (hc : C a b) (k : ∀ H1, Pu T H H1 → E.nx (σ.set i (some (.int (f a b)))) H1) : tAug i te (rI C fun i j => .int (f i j)) E σ H :=
  ⟨_, hx, h.run fun v H1 p dv => ⟨a, b, rfl, dv.intR, hc, k H1 p⟩⟩
theorem st_augAdd {i : Nat} {r : TIp} {a b : Int} (hx : σ[i]? = some (some (.int a))) (h : Ev K T M te σ H (.int b)) (k : ∀ H1, Pu T H H1 → E.nx (σ.set i (some (.int (a + b)))) H1) : tAug i te (rOr (rI0 fun i j => .int (i + j)) r) E σ H :=
  ⟨_, hx, h.run fun v H1 p dv => .inl ⟨a, b, rfl, dv.intR, k H1 p⟩⟩
/-- x += [..], x a changing list at l -/
theorem st_augExt {i : Nat} {r : R2} {l : Addr} {vs : List V} {es : List Dt} (hx : σ[i]? = some (some (.ref l))) (hl : H l = some (.lst vs)) (h : Ev K T M te σ H (.lst es)) (hz : vs.length + es.length ≤ 100000)
    (k : ∀ ws H1, Pu T H H1 → DAll K M H1 ws es → E.nx (σ.set i (some (.ref l))) (upd H1 l (.lst (vs ++ ws)))) : tAug i te (rOr r rExt2) E σ H :=
  ⟨_, hx, h.run fun v H1 p dv => by
    obtain ⟨b, ws, rfl, _, e, rr⟩ := dv.lstR
    exact .inr ⟨l, b, vs, ws, rfl, rfl, p.at hl, e, by rw [rr.length]; exact Nat.le_trans hz (by decide), k ws H1 p rr⟩⟩
/-- a.f = e, a changing instance -/
theorem st_fld {f : Str} {a C dx : Addr} {fs : List (Str × V)} (ho : Ev K T M to σ H (.obj a)) (hi : H a = some (.ins C dx fs)) (h : Ev K T M tv σ H d) (c : Cls K C) (n : NoAttr K C f) (hl : fs.length < 1000)
    (k : ∀ v H1, Pu T H H1 → D K M H1 v d → E.nx σ (upd H1 a (.ins C dx (putF f v fs)))) : sFld K to tv f E σ H := h.run fun v H1 p dv => (ho.mono p).run fun u H2 p2 du => by
  rw [du.objR]
  exact ⟨a, C, dx, fs, rfl, (p.trans p2).at hi, c, n, hl, k v H2 (p.trans p2) (dv.pu p2)⟩
theorem st_fldAug {f : Str} {a C dx : Addr} {fs : List (Str × V)} {i j : Int} (ho : Ev K T M to σ H (.obj a)) (hi : H a = some (.ins C dx fs)) (hf : fs.lookup f = some (.int i)) (h : Ev K T M tv σ H (.int j)) (c : Cls K C) (n : NoAttr K C f) (hl : fs.length < 1000)
    (k : ∀ H1, Pu T H H1 → E.nx σ (upd H1 a (.ins C dx (putF f (.int (i + j)) fs)))) : sFldAug K to tv rAdd f E σ H := ho.run fun u H1 p du => by
  rw [du.objR]
  exact ⟨a, C, dx, fs, _, rfl, p.at hi, c, n, hf, (h.mono p).run fun v H2 p2 dv => ⟨i, j, rfl, dv.intR, dx, fs, (p.trans p2).at hi, hl, k H2 (p.trans p2)⟩⟩
theorem st_fldSub {f : Str} {a C dx : Addr} {fs : List (Str × V)} {i j : Int} (ho : Ev K T M to σ H (.obj a)) (hi : H a = some (.ins C dx fs)) (hf : fs.lookup f = some (.int i)) (h : Ev K T M tv σ H (.int j)) (c : Cls K C) (n : NoAttr K C f) (hl : fs.length < 1000)
    (k : ∀ H1, Pu T H H1 → E.nx σ (upd H1 a (.ins C dx (putF f (.int (i - j)) fs)))) : sFldAug K to tv rSub f E σ H := ho.run fun u H1 p du => by
  rw [du.objR]
  exact ⟨a, C, dx, fs, _, rfl, p.at hi, c, n, hf, (h.mono p).run fun v H2 p2 dv => ⟨i, j, rfl, dv.intR, dx, fs, (p.trans p2).at hi, hl, k H2 (p.trans p2)⟩⟩
/-- l.append(e), l a changing list -/
theorem st_app {l : Addr} {vs : List V} (ho : Ev K T M to σ H (.obj l)) (hl : H l = some (.lst vs)) (h : Ev K T M te σ H d) (hz : vs.length < 100000) (k : ∀ v H1, Pu T H H1 → D K M H1 v d → E.nx σ (upd H1 l (.lst (vs ++ [v])))) :
    tDrop (tBM K "list" rAppend to (tCons te tNil)) E σ H := ho.run fun u H1 p du => by
  rw [du.objR]
  exact ⟨.inl ⟨rfl, vs, .of (p.at hl)⟩, (h.mono p).run fun v H2 p2 dv => ⟨l, vs, v, rfl, rfl, (p.trans p2).at hl, Nat.lt_of_lt_of_le hz (by decide), k v H2 (p.trans p2) dv⟩⟩
/-- l[i] = e, l a changing list -/
theorem st_setL {l : Addr} {vs : List V} {i : Int} {j : Nat} (h : Ev K T M te σ H d) (ho : Ev K T M to σ H (.obj l)) (hi : Ev K T M tb σ H (.int i)) (hl : H l = some (.lst vs)) (hj : ixN vs.length i = some j)
    (k : ∀ v H1, Pu T H H1 → D K M H1 v d → E.nx σ (upd H1 l (.lst (vs.set j v)))) : tAsg te (gSub to tb rSetL) E σ H := h.run fun v H1 p dv => (ho.mono p).run fun u H2 p2 du => (hi.mono (p.trans p2)).run fun w H3 p3 dw => by
  have p13 := p.trans (p2.trans p3)
  exact ⟨l, vs, i, j, du.objR, dw.intR, p13.at hl, hj, k v H3 p13 (dv.pu (p2.trans p3))⟩
/-- d[k] = e, d a changing dict -/
theorem st_dput {a : Addr} {kvs : List (Key × V)} {ky : Key} (ho : Ev K T M to σ H (.obj a)) (hk : Ev K T M tb σ H (kD ky)) (h : Ev K T M te σ H d) (hl : H a = some (.dK kvs)) (hz : kvs.length < 100000)
    (k : ∀ v H1, Pu T H H1 → D K M H1 v d → E.nx σ (upd H1 a (.dK (putK kvs ky v)))) : sDPut to tb te E σ H := h.run fun v H1 p dv => (ho.mono p).run fun u H2 p2 du => (hk.mono (p.trans p2)).run fun w H3 p3 dw => by
  have p13 := p.trans (p2.trans p3)
  exact ⟨a, _, du.objR, .inl ⟨kvs, ky, p13.at hl, dw.keyR, Nat.lt_of_lt_of_le hz (by decide), rfl⟩, k v H3 p13 (dv.pu (p2.trans p3))⟩
/-- raise -/
theorem st_raise {C : Addr} {X : XK} (h : X (.ref C) none H) : tRaise C X E σ H := h

/-! ### a method of a changing instance that changes nothing -/
theorem ev_methM {sp : Sp} {X : XK} {C a dx : Addr} {fs : List (Str × V)} {m : Str} {self : Dt} (ho : Ev K T M to σ H (.obj a)) (hi : H a = some (.ins C dx fs)) (hm : fs.lookup m = none) (h : EvA K T M tl σ H ds) (fl : Dt.flatAll ds = true) (hs : SpV K T [] sp H (self :: ds) d) (hd : D K [] H (.ref a) self) (fd : d.flat = true) :
    Ev K T M (tMeth C m sp [] X to tl) σ H d := fun H1 p Q q => ho H1 p _ fun u H2 p2 du => by
  rw [du.objR]
  have p12 := p.trans p2
  refine ⟨a, dx, fs, rfl, p12.at hi, hm, h H2 p12 _ fun us H3 p3 dus => ?_⟩
  show sp (.ref a :: (us ++ [])) H3 Q X
  rw [List.append_nil]
  exact hs H3 (p12.trans p3) _ (.cons (hd.pu (p12.trans p3)) (dus.flat fl)) Q X fun v H4 p4 dv => q v H4 (p2.trans (p3.trans p4)) (dv.flat fd)

/-! ### promises on data -/
/-- from ds, d comes; n arguments -/
def spD (K : PySem.W.Frag) (T : List TabR) (n : Nat) (R : List Dt → Dt → Prop) : Sp := fun vs H Q _ => ∃ M ds d, ds.length = n ∧ Wf T M H ∧ DAll K M H vs ds ∧ R ds d ∧ ∀ v H1, Pu T H H1 → D K M H1 v d → Q v H1
theorem spD_len {n : Nat} {R : List Dt → Dt → Prop} (vs : List V) (H : Hp) (Q : VK) (X : XK) (h : spD K T n R vs H Q X) : vs.length = n := by
  obtain ⟨M, ds, d, hn, _, r, _⟩ := h
  rw [r.length, hn]
theorem spV_D {n : Nat} {R : List Dt → Dt → Prop} (w : Wf T M H) (hn : ds.length = n) (h : R ds d) : SpV K T M (spD K T n R) H ds d := fun H1 p vs r Q X k => ⟨M, ds, d, hn, w.pu p, r, h, k⟩
/-- .. or an exception of the class C -/
def spE (K : PySem.W.Frag) (T : List TabR) (n : Nat) (R : List Dt → Dt → Prop) (C : Addr) (B : List Dt → Prop) : Sp := fun vs H Q X => ∃ M ds, ds.length = n ∧ Wf T M H ∧ DAll K M H vs ds ∧ ((∃ d, R ds d ∧ ∀ v H1, Pu T H H1 → D K M H1 v d → Q v H1) ∨ (B ds ∧ ∀ H1, Pu T H H1 → X (.ref C) none H1))
theorem spE_len {n : Nat} {R : List Dt → Dt → Prop} {C : Addr} {B : List Dt → Prop} (vs : List V) (H : Hp) (Q : VK) (X : XK) (h : spE K T n R C B vs H Q X) : vs.length = n := by
  obtain ⟨M, ds, hn, _, r, _⟩ := h
  rw [r.length, hn]
theorem spV_E {n : Nat} {R : List Dt → Dt → Prop} {C : Addr} {B : List Dt → Prop} (w : Wf T M H) (hn : ds.length = n) (h : R ds d) : SpV K T M (spE K T n R C B) H ds d := fun H1 p vs r Q X k => ⟨M, ds, hn, w.pu p, r, .inl ⟨d, h, k⟩⟩

/-! ### what may change besides -/
theorem Le.wide {A : List Addr} (h : Le T A H A H') (s : ∀ b ∈ A, b ∈ M) : Le T M H M H' := ⟨fun b o hb n e => h.keep b o (hb.imp (fun z q => z (s b q)) id) n e, h.dom, fun _ z => .inl z, h.tabs⟩
theorem Le.pu' {A : List Addr} (p : Pu T H H') : Le T A H A H' := p.le
end
end Dy

/-! text E9 -/
namespace Dy
open L2 PyProof.Rows PySem.Spec PySem
section
variable {K : PySem.W.Frag} {T : List TabR} {M : List Addr} {σ : L2.St} {H : Hp} {v : V} {x y z u : Dt} {i j k l : Nat} {Q : L2.St → Hp → Prop}
theorem g1 (q : Q (σ.set i (some v)) H) : gName i v σ H Q := q
theorem g2 (h : D K M H v (.tup [x, y])) (q : ∀ a b, D K M H a x → D K M H b y → Q ((σ.set i (some a)).set j (some b)) H) : gTup K 2 (gCons (gName i) (gCons (gName j) gNil)) v σ H Q := by
  obtain ⟨p, vs, rfl, s, r⟩ := h.tupR
  obtain ⟨a, b, rfl, ha, hb⟩ := all2 r
  exact ⟨p, _, rfl, s, rfl, a, [b], rfl, b, [], rfl, rfl, q a b ha hb⟩
theorem g3 (h : D K M H v (.tup [x, y, z])) (q : ∀ a b c, D K M H a x → D K M H b y → D K M H c z → Q (((σ.set i (some a)).set j (some b)).set k (some c)) H) : gTup K 3 (gCons (gName i) (gCons (gName j) (gCons (gName k) gNil))) v σ H Q := by
  obtain ⟨p, vs, rfl, s, r⟩ := h.tupR
  obtain ⟨a, b, c, rfl, ha, hb, hc⟩ := all3 r
  exact ⟨p, _, rfl, s, rfl, a, [b, c], rfl, b, [c], rfl, c, [], rfl, rfl, q a b c ha hb hc⟩
theorem g4 (h : D K M H v (.tup [x, y, z, u])) (q : ∀ a b c d, D K M H a x → D K M H b y → D K M H c z → D K M H d u → Q ((((σ.set i (some a)).set j (some b)).set k (some c)).set l (some d)) H) : gTup K 4 (gCons (gName i) (gCons (gName j) (gCons (gName k) (gCons (gName l) gNil)))) v σ H Q := by
  obtain ⟨p, vs, rfl, s, r⟩ := h.tupR
  obtain ⟨a, b, c, d, rfl, ha, hb, hc, hd⟩ := all4 r
  exact ⟨p, _, rfl, s, rfl, a, [b, c, d], rfl, b, [c, d], rfl, c, [d], rfl, d, [], rfl, rfl, q a b c d ha hb hc hd⟩
theorem et_yes : EvT T tYes σ H true := fun H1 p Q q => q H1 Pu.refl
theorem eqv_int (a b : Int) : Dt.eqv (.int a) (.int b) = decide (a = b) := by
  simp only [Dt.eqv, Dt.py, PyData.eqv]
  exact (Bool.eq_iff_iff.mpr (by simp))
theorem eqv_str (a b : Str) : Dt.eqv (.str a) (.str b) = decide (a = b) := by
  simp only [Dt.eqv, Dt.py, PyData.eqv]
  exact (Bool.eq_iff_iff.mpr (by simp))
theorem zip_none {ns : List Str} {m : Str} (h : m ∉ ns) : ∀ vs : List V, (ns.zip vs).lookup m = none := by
  induction ns with
  | nil => intro vs; rfl
  | cons n ns ih =>
    intro vs
    cases vs with
    | nil => rfl
    | cons v vs =>
      have h1 : (m == n) = false := by simpa using fun e : m = n => h (e ▸ List.mem_cons_self)
      rw [List.zip_cons_cons, List.lookup, h1]
      exact ih (fun z => h (List.mem_cons_of_mem _ z)) vs
/-! ### == -/
def rEqU (K : PySem.W.Frag) : R2 := rOr rEq (rEqD K)
def rNeU (K : PySem.W.Frag) : R2 := rOr rNe (rNeD K)
theorem op_eqU {X : Cx} (hu : X.A.units + 64 < cLine) : OpR X (compareOp .Eq) (rEqU X.K) := op_eq.or (op_eqD hu)
theorem op_neU {X : Cx} (hu : X.A.units + 64 < cLine) : OpR X (compareOp .NotEq) (rNeU X.K) := op_ne.or (op_neD hu)
theorem rv_eqI {i j : Int} : RV K T M (rEqU K) H (.int i) (.int j) (.bl (decide (i = j))) := rv_l fun H1 p v u dv du Q q => by
  rw [dv.intR, du.intR]
  exact ⟨rfl, q _ H1 Pu.refl (by rw [show decide (V.int i = V.int j) = decide (i = j) by simp]; exact .bl _)⟩
theorem rv_neI {i j : Int} : RV K T M (rNeU K) H (.int i) (.int j) (.bl (!decide (i = j))) := rv_l fun H1 p v u dv du Q q => by
  rw [dv.intR, du.intR]
  exact ⟨rfl, q _ H1 Pu.refl (by rw [show decide (V.int i = V.int j) = decide (i = j) by simp]; exact .bl _)⟩
theorem rv_eqS {i j : Str} : RV K T M (rEqU K) H (.str i) (.str j) (.bl (decide (i = j))) := rv_l fun H1 p v u dv du Q q => by
  rw [dv.strR, du.strR]
  exact ⟨rfl, q _ H1 Pu.refl (by rw [show decide (V.str i = V.str j) = decide (i = j) by simp]; exact .bl _)⟩
theorem rv_neS {i j : Str} : RV K T M (rNeU K) H (.str i) (.str j) (.bl (!decide (i = j))) := rv_l fun H1 p v u dv du Q q => by
  rw [dv.strR, du.strR]
  exact ⟨rfl, q _ H1 Pu.refl (by rw [show decide (V.str i = V.str j) = decide (i = j) by simp]; exact .bl _)⟩
theorem rv_eqB {i j : Bool} : RV K T M (rEqU K) H (.bl i) (.bl j) (.bl (decide (i = j))) := rv_l fun H1 p v u dv du Q q => by
  rw [dv.blR, du.blR]
  exact ⟨rfl, q _ H1 Pu.refl (by rw [show decide (V.bl i = V.bl j) = decide (i = j) by simp]; exact .bl _)⟩
theorem rv_neB {i j : Bool} : RV K T M (rNeU K) H (.bl i) (.bl j) (.bl (!decide (i = j))) := rv_l fun H1 p v u dv du Q q => by
  rw [dv.blR, du.blR]
  exact ⟨rfl, q _ H1 Pu.refl (by rw [show decide (V.bl i = V.bl j) = decide (i = j) by simp]; exact .bl _)⟩
/-- anything and None or a text: by scal -/
theorem rv_eqSc {v u : V} (hs : scal v u = true) (hx : ∀ M' H' v', D K M' H' v' x → v' = v) (hy : ∀ M' H' v', D K M' H' v' y → v' = u) : RV K T M (rEqU K) H x y (.bl (decide (v = u))) := rv_l fun H1 p a b da db Q q => by
  rw [hx _ _ _ da, hy _ _ _ db]
  exact ⟨hs, q _ H1 Pu.refl (.bl _)⟩
theorem rv_neSc {v u : V} (hs : scal v u = true) (hx : ∀ M' H' v', D K M' H' v' x → v' = v) (hy : ∀ M' H' v', D K M' H' v' y → v' = u) : RV K T M (rNeU K) H x y (.bl (!decide (v = u))) := rv_l fun H1 p a b da db Q q => by
  rw [hx _ _ _ da, hy _ _ _ db]
  exact ⟨hs, q _ H1 Pu.refl (.bl _)⟩
theorem rv_eqP (hx : x.ok = true) (hy : y.ok = true) : RV K T M (rEqU K) H x y (.bl (x.eqv y)) := rv_r (rv_eqD hx hy)
theorem rv_neP (hx : x.ok = true) (hy : y.ok = true) : RV K T M (rNeU K) H x y (.bl (!x.eqv y)) := rv_r (rv_neD hx hy)
theorem gOne_eq {h : TG} {b : V} {E : L2.St → Hp → Prop} : (fun (σ' : L2.St) (H' : Hp) => gCons h gNil [b] σ' H' E) = fun σ' H' => h b σ' H' E := by
  funext σ' H'
  have e : (fun (σ1 : L2.St) (H2 : Hp) => ([] : List V) = [] ∧ E σ1 H2) = E := by
    funext σ1 H2
    exact propext ⟨fun z => z.2, fun z => ⟨rfl, z⟩⟩
  refine propext ⟨fun ⟨v, r, q, z⟩ => ?_, fun z => ⟨b, [], rfl, ?_⟩⟩
  · cases q
    show h b σ' H' E
    rw [← e]
    exact z
  · show h b σ' H' (fun σ1 H2 => ([] : List V) = [] ∧ E σ1 H2)
    rw [e]
    exact z
theorem st_asg2 {te : TE} {g h : TG} {E : Ends} (he : Ev K T M te σ H (.tup [x, y])) (q : ∀ a b H1, Pu T H H1 → D K M H1 a x → D K M H1 b y → g a σ H1 fun σ1 H2 => h b σ1 H2 E.nx) : tAsg te (gTup K 2 (gCons g (gCons h gNil))) E σ H := he.run fun v H1 p dv => by
  obtain ⟨c, vs, rfl, s, r⟩ := dv.tupR
  obtain ⟨a, b, rfl, ha, hb⟩ := all2 r
  refine ⟨c, _, rfl, s, rfl, a, [b], rfl, ?_⟩
  show g a σ H1 (fun σ' H' => gCons h gNil [b] σ' H' E.nx)
  rw [gOne_eq]
  exact q a b H1 p ha hb
/-! ### more words -/
variable {te ta tb to : TE} {d : Dt} {H' H0 : Hp} {a : Addr}
/-- plain results, whatever may change -/
theorem Ev.flat {M' : List Addr} (h : Ev K T M te σ H d) (f : d.flat = true) : Ev K T M' te σ H d := fun H1 p Q q => h H1 p Q fun v H2 p2 dv => q v H2 p2 (dv.flat f)
theorem Pu.fresh (p : Pu T H H0) (hx : H a = none) (q : Le T [a] H0 [a] H') : Pu T H H' :=
  ⟨fun b o _ n e => q.keep b o (.inl (by simp only [List.mem_singleton]; exact ne_of_none e hx)) n (p.at e n), fun b e => q.dom b (p.dom b e), fun b z => absurd z (by simp), fun z => q.tabs (p.tabs z)⟩
theorem g_dput {kvs : List (Key × V)} {ky : Key} (ho : Ev K T M to σ H (.obj a)) (hk : Ev K T M tb σ H (kD ky)) (hl : H a = some (.dK kvs)) (hz : kvs.length < 100000) (q : ∀ H1, Pu T H H1 → Q σ (upd H1 a (.dK (putK kvs ky v)))) : gSub to tb rSetD v σ H Q :=
  ho.run fun u H1 p du => (hk.mono p).run fun w H2 p2 dw => ⟨a, _, du.objR, .inl ⟨kvs, ky, (p.trans p2).at hl, dw.keyR, Nat.lt_of_lt_of_le hz (by decide), rfl⟩, q H2 (p.trans p2)⟩
/-- a new changing thing: what was known stays known -/
theorem D.grow {d : Dt} {o : HO} {v : V} (e : H a = none) (h : D K M H v d) : D K (a :: M) (upd H a o) v d := h.le (Le.newM (T := []) e)
theorem DAll.grow {ds : List Dt} {o : HO} {vs : List V} (e : H a = none) (h : DAll K M H vs ds) : DAll K (a :: M) (upd H a o) vs ds := h.le (Le.newM (T := []) e)
/-- x = [..], a new changing list -/
theorem st_asgNew {i : Nat} {tl : TA} {ds : List Dt} {E : Ends} (h : EvA K T M tl σ H ds) (hz : ds.length ≤ 100000) (q : ∀ p vs H1, Pu T H H1 → H1 p = none → DAll K M H1 vs ds → E.nx (σ.set i (some (.ref p))) (upd H1 p (.lst vs))) : tAsg (tLst tl) (gName i) E σ H :=
  h.run fun vs H1 p1 dv => ⟨by rw [dv.length]; exact Nat.le_trans hz (by decide), fun p hp => q p vs H1 p1 hp dv⟩
theorem asgQ {i : Nat} {E : Ends} (h : te σ H fun v H1 => E.nx (σ.set i (some v)) H1) : tAsg te (gName i) E σ H := h
/-! ### rows of plain data -/
def Dt.fine (d : Dt) : Bool := d.pl && (d.py.canLay0 && decide (d.py.depth ≤ 50))
theorem fine_all : ∀ {ds : List Dt}, (∀ d ∈ ds, d.fine = true) → Dt.plAll ds = true ∧ PyData.canLayAll0 (Dt.pyAll ds) = true ∧ PyData.depthAll (Dt.pyAll ds) ≤ 50
  | [], _ => ⟨rfl, rfl, by simp [Dt.pyAll, PyData.depthAll]⟩
  | d :: ds, h => by
    obtain ⟨h1, h2, h3⟩ := fine_all fun e he => h e (List.mem_cons_of_mem _ he)
    have h0 := h d List.mem_cons_self
    simp only [Dt.fine, Bool.and_eq_true, decide_eq_true_eq] at h0
    refine ⟨by simp [Dt.plAll, h0.1, h1], by simp [Dt.pyAll, PyData.canLayAll0, h0.2.1, h2], ?_⟩
    simp only [Dt.pyAll, PyData.depthAll]
    omega
theorem ok_lst {ds : List Dt} (h : ∀ d ∈ ds, d.fine = true) : (Dt.lst ds).ok = true := by
  obtain ⟨h1, h2, h3⟩ := fine_all h
  simp only [Dt.ok, Dt.pl, Dt.py, SeqAt.shaped, PyData.canLay0, PyData.depth, Bool.and_eq_true, decide_eq_true_eq]
  exact ⟨h1, h2, by omega⟩
theorem ok_tup {ds : List Dt} (h : ∀ d ∈ ds, d.fine = true) : (Dt.tup ds).ok = true := by
  obtain ⟨h1, h2, h3⟩ := fine_all h
  simp only [Dt.ok, Dt.pl, Dt.py, SeqAt.shaped, PyData.canLay0, PyData.depth, Bool.and_eq_true, decide_eq_true_eq]
  exact ⟨h1, h2, by omega⟩
theorem eqv_nil (ds : List Dt) : Dt.eqv (.lst ds) (.lst []) = ds.isEmpty := by
  cases ds <;> simp [Dt.eqv, Dt.py, Dt.pyAll, PyData.eqv, PyData.eqvAll]
theorem ints_pl (l : List Int) : Dt.plAll (l.map .int) = true := by
  induction l with
  | nil => rfl
  | cons x l ih => simp [Dt.plAll, Dt.pl, ih]
theorem ints_py (l : List Int) : Dt.pyAll (l.map .int) = l.map .int := by
  induction l with
  | nil => rfl
  | cons x l ih => simp [Dt.pyAll, Dt.py, ih]
theorem ints_lay (l : List Int) : PyData.canLayAll0 (l.map .int) = true := by
  induction l with
  | nil => rfl
  | cons x l ih => simp [PyData.canLayAll0, PyData.canLay0, ih]
theorem ints_flat (l : List Int) : Dt.flatAll (l.map .int) = true := by
  induction l with
  | nil => rfl
  | cons x l ih => simp [Dt.flatAll, Dt.flat, ih]
end
end Dy

/-! text L4 -/
namespace Dy
open LiI L2 PyProof.Rows PySem.Spec PySem
section
variable {X : Cx} {pins : List (Addr × Obj)} {σ : L2.St} {H : Hp} {s : Shared} {k : Nat} {q x ret : Str} {Ng : List Str} {sg : Scope} {g CS f c' : Addr} {t : XK → TE} {Q : VK}
/-- x(lambda: ..), the lambda's parts told -/
theorem pe_told2 {lam : List (Nat × Nat)} {c P : Addr} {p lpos pos : Pos} {params : Arguments} {body : Expr} {scope : Scope} {LO : Addr → Addr → HO} (hg : Gl X x) (TD : ToldD X.K X.mg x Ng sg g CS ret) (hk : PySem.W.keepIn X.K (.ref g) = true) (TB : LamX.TabB X.base X.mg c P) (hcode : X.env.code = .ref c) (hq : q = X.env.qual ++ "<lambda>")
    (hl : (lpos.line, lpos.col) ∈ lam) (hr : Room (k + 2) X.A) (hLO : LO = LamD.ho X q ⟨params, body, scope⟩) (ok : LamOk X q k ⟨params, body, scope⟩ t) (hdef : defaultsOf params X.env = ([], [])) (hdb : (x == ("__debug__" : Str)) = false := by decide) :
    PE X (.Call (.Name x p) [.Lambda params body scope lpos] [] pos) (tTold X.K P lam q CS ret LO t) := by
  subst hLO
  exact pe_told (d := ⟨params, body, scope⟩) hg TD hk TB hcode hq hl hr ok hdef hdb
theorem pe_lambda2 {lam : List (Nat × Nat)} {c P : Addr} {params : Arguments} {body : Expr} {scope : Scope} {pos : Pos} {LO : Addr → Addr → HO} (TB : LamX.TabB X.base X.mg c P) (hcode : X.env.code = .ref c) (hq : q = X.env.qual ++ "<lambda>") (hl : (pos.line, pos.col) ∈ lam) (hLO : LO = LamD.ho X q ⟨params, body, scope⟩) (L : LamX.LamS X.env.scope scope)
    (hdef : defaultsOf params X.env = ([], []) := by rfl) : PE X (.Lambda params body scope pos) (tMkL P lam q LO) := by
  subst hLO
  exact pe_lambda TB hcode hq hl L hdef
def tToldG (K : PySem.W.Frag) (q : Str) (CS : Addr) (ret : Str) (i : Nat) (LO : Nat → Addr → Addr → HO) (ts : Nat → XK → TE) (n : Nat) (σ0 : L2.St) : TE := fun σ H Q =>
  ∃ j f c', j < n ∧ σ[i]? = some (some (.ref f)) ∧ H f = some (LO j f c') ∧ H c' = some (LamX.CodeO c' q) ∧ ts j (eTold K CS ret Q) σ0 H Q
theorem pe_toldG {LO : Nat → Addr → Addr → HO} {ts : Nat → XK → TE} {n i : Nat} {fp : List Addr} {scope : Scope} {p yp pos : Pos} {y : Str} (I : Inv X pins σ H s) (f3 : ∀ b ∈ fp, FpOk X pins H b ∧ b < s.heap.objs.size)
    (hg : Gl (X.blk s H scope (blkEnv X scope s.heap.objs.size) fp) x) (TD : ToldD X.K X.mg x Ng sg g CS ret) (hk : PySem.W.keepIn X.K (.ref g) = true) (hq : q = X.env.qual ++ "<lambda>") (hr : Room (k + 2) X.A)
    (ok : ∀ j, j < n → ∃ d, LO j = LamD.ho X q d ∧ LamOk X q k d (ts j)) (hy : PE (X.blk s H scope (blkEnv X scope s.heap.objs.size) fp) (.Name y yp) (tVar i)) (hdb : (x == ("__debug__" : Str)) = false := by decide) :
    PE (X.blk s H scope (blkEnv X scope s.heap.objs.size) fp) (.Call (.Name x p) [.Name y yp] [] pos) (tToldG X.K q CS ret i LO ts n σ) := by
  refine ⟨fun pins' s' σ' H' Q I' ⟨j, f, c', hj, h0, h1, h2, h3⟩ => ?_⟩
  refine wpAny_Call_Name_kw (ld_glob I' hg TD.gm ?_ hdb)
  refine PySem.W.callWith_K (h₀ := X.base) I'.ok.mod.kin hk ?_ (by rfl) (by rfl)
  show wpAny _ _ (spliced ((false, eval (.Name y yp) (blkEnv X scope s.heap.objs.size)) :: backTo pos (starEach [] (blkEnv X scope s.heap.objs.size)))) _ _ s'
  refine Calls.spliced_cons (thn (hy.run pins' s' σ' H' (fun v G => v = .ref f ∧ G = H') I' ⟨.ref f, h0, rfl, rfl⟩) fun u s2 ⟨v, G, I2, rv, ev, eg⟩ => ?_)
  subst ev
  subst eg
  obtain rfl : u = Value.ref f := rv
  refine Calls.spliced_nil ⟨I2.kIn, ?_⟩
  obtain ⟨d, e1, okd⟩ := ok j hj
  rw [e1] at h1
  have I7 : Inv X pins σ G s2 := I.call' (ch := fp) I2.os I2.base I2.hok I2.bare fun b hb => ⟨(f3 b hb).1.2.2.2.1, (f3 b hb).1.2.1, (f3 b hb).1.2.2.2.2.1, (f3 b hb).1.2.2.2.2.2⟩
  exact told_ends (X := X) I2 rfl rfl rfl rfl (told_run I7 TD hq hr okd h1 h2 h3)
end
/-! ### readings of these -/
section
variable {K : PySem.W.Frag} {T : List TabR} {M : List Addr} {σ σ0 : L2.St} {H : Hp} {P : Addr} {lam : List (Nat × Nat)} {q ret : Str} {CS : Addr} {te : TE}
theorem pu_lmE {H1 : Hp} (hu : ∀ t ∈ T, t.P = P → t = ⟨P, lam, q⟩) (ht : TabW H P lam q) (l : LmE P H H1) (t1 : TabW H1 P lam q) : Pu T H H1 := by
  obtain ⟨ps, hP, _⟩ := ht
  have ne : ∀ b o, H b = some o → (∀ ps, o ≠ .tbl ps) → b ≠ P := fun b o e n z => by rw [z, hP] at e; cases e; exact n ps rfl
  refine ⟨fun b o _ n e => l.keep b o (ne b o e fun ps z => by rw [z] at n; cases n) e, fun b e => ?_, fun b h => absurd h (by simp), fun ok t m => ?_⟩
  · by_cases hb : b = P
    · rw [hb]; exact l.dom
    · cases e2 : H b with
      | none => exact absurd e2 e
      | some o => rw [l.keep b o hb e2]; simp
  · by_cases hb : t.P = P
    · rw [hu t m hb]; exact t1
    · obtain ⟨qs, e, tr, c⟩ := ok t m
      refine ⟨qs, l.keep _ _ hb e, tr, fun pos cv hc hl => ?_⟩
      obtain ⟨c0, e1, e2⟩ := c pos cv hc hl
      exact ⟨c0, e1, l.keep _ _ (ne _ _ e2 fun ps z => LamX.codeO_ne ps z) e2⟩
/-- told(lambda: ..) : what the lambda's body is to be read to -/
theorem told_rd {LO : Addr → Addr → HO} {t : XK → TE} {Q : VK} (w : Wf T M H) (hm : (⟨P, lam, q⟩ : TabR) ∈ T) (hu : ∀ t ∈ T, t.P = P → t = ⟨P, lam, q⟩) (h : ∀ H1, Pu T H H1 → t (eTold K CS ret Q) σ H1 Q) : tTold K P lam q CS ret LO t σ H Q := by
  have tw := w.tabs _ hm
  exact ⟨tw, fun f c' H1 l t1 nf _ => h _ (Pu.trans (pu_lmE hu tw l t1) (Pu.new nf))⟩
/-- the lambda as a value: it is known from now on -/
theorem lam_rd {LO : Addr → Addr → HO} {Q : VK} (w : Wf T M H) (hm : (⟨P, lam, q⟩ : TabR) ∈ T) (hu : ∀ t ∈ T, t.P = P → t = ⟨P, lam, q⟩) (h : ∀ f c' H1, Pu T H H1 → H1 f = some (LO f c') → H1 c' = some (LamX.CodeO c' q) → Q (.ref f) H1) : tMkL P lam q LO σ H Q := by
  have tw := w.tabs _ hm
  refine ⟨tw, fun f c' H1 l t1 nf hc => h f c' _ (Pu.trans (pu_lmE hu tw l t1) (Pu.new nf)) upd_same ?_⟩
  rw [upd_ne (ne_of_none hc nf)]
  exact hc
/-- a list of lambdas, from the j-th on -/
def lamsT (P : Addr) (lam : List (Nat × Nat)) (q : Str) (LO : Nat → Addr → Addr → HO) : Nat → Nat → TA
  | 0, _ => tNil
  | n + 1, j => tCons (tMkL P lam q (LO j)) (lamsT P lam q LO n (j + 1))
/-- xs: the lambdas from the j-th on -/
def LamsAt (q : Str) (LO : Nat → Addr → Addr → HO) (H : Hp) : Nat → List V → Prop
  | _, [] => True
  | j, v :: vs => (∃ f c', v = .ref f ∧ H f = some (LO j f c') ∧ H c' = some (LamX.CodeO c' q)) ∧ LamsAt q LO H (j + 1) vs
theorem LamsAt.pu {LO : Nat → Addr → Addr → HO} (ex : ∀ j f c', nt (LO j f c') = true) {H' : Hp} (p : Pu T H H') : ∀ {vs : List V} {j : Nat}, LamsAt q LO H j vs → LamsAt q LO H' j vs
  | [], _, _ => True.intro
  | v :: vs, j, ⟨⟨f, c', e, h1, h2⟩, r⟩ => ⟨⟨f, c', e, p.at h1 (ex j f c'), p.at h2 rfl⟩, LamsAt.pu ex p r⟩
theorem LamsAt.get {LO : Nat → Addr → Addr → HO} : ∀ {vs : List V} {j i : Nat} {v : V}, LamsAt q LO H j vs → vs[i]? = some v → ∃ f c', v = .ref f ∧ H f = some (LO (j + i) f c') ∧ H c' = some (LamX.CodeO c' q)
  | [], _, _, _, _, h =>
          by simp at h
  | v :: vs, j, 0, _, ⟨h, _⟩, e => by simp at e; subst e; exact h
  | v :: vs, j, i + 1, _, ⟨_, r⟩, e => by
    have := LamsAt.get r (by simpa using e)
    rw [show j + (i + 1) = j + 1 + i by omega]
    exact this
theorem lams_rd {LO : Nat → Addr → Addr → HO} (ex : ∀ j f c', nt (LO j f c') = true) (hm : (⟨P, lam, q⟩ : TabR) ∈ T) (hu : ∀ t ∈ T, t.P = P → t = ⟨P, lam, q⟩) : ∀ (n j : Nat) {H : Hp} {Q : List V → Hp → Prop}, Wf T M H → (∀ vs H1, Pu T H H1 → vs.length = n → LamsAt q LO H1 j vs → Q vs H1) → lamsT P lam q LO n j σ H Q
  | 0, _, H, Q, w, h => h [] H Pu.refl rfl True.intro
  | n + 1, j, H, Q, w, h => by
    show tMkL P lam q (LO j) σ H (fun x H1 => lamsT P lam q LO n (j + 1) σ H1 (fun xs H2 => Q (x :: xs) H2))
    exact lam_rd w hm hu fun f c' H1 p1 h1 h2 => lams_rd ex hm hu n (j + 1) (w.pu p1) fun vs H2 p2 l a => h _ H2 (p1.trans p2) (by simp [l]) ⟨⟨f, c', rfl, p2.at h1 (ex j f c'), p2.at h2 rfl⟩, a⟩
/-! ### dict(list(d.items())) -/
theorem itemsL_rd {Q : VK} {a : Addr} {kvs : List (Key × V)} (ho : Ev K T M te σ H (.obj a)) (hl : H a = some (.dK kvs)) (k : ∀ p ts H1, Pu T H H1 → H1 p = some (.lst (ts.map V.ref)) → Paired (fun (t : Addr) (q : Key × V) => H1 t = some (.tup [kV q.1, q.2])) ts kvs → Q (.ref p) H1) : tListItems te σ H Q :=
  ho.run fun u H1 p1 du => ⟨a, kvs, du.objR, p1.at hl, fun H' p ts kp hp ht hn e1 e2 => by
    have p2 : Pu T H1 H' := ⟨fun b o _ _ e => kp b o e, fun b e => by
      cases h : H1 b with
      | none => exact absurd h e
      | some o => rw [kp b o h]; simp, fun b z => absurd z (by simp), fun ok t m => by
        obtain ⟨qs, e, tr, c⟩ := ok t m
        exact ⟨qs, kp _ _ e, tr, fun pos cv hc hl => let ⟨c0, x1, x2⟩ := c pos cv hc hl; ⟨c0, x1, kp _ _ x2⟩⟩⟩
    exact k p ts H' (p1.trans p2) e1 e2⟩
/-- dict(xs) of a list of pairs -/
def rDictP (K : PySem.W.Frag) : List V → Hp → VK → Prop := fun xs H Q => ∃ (a : Addr) (ps : List Addr) (kvs : List (Key × V)), xs = [.ref a] ∧ SqL K H a (ps.map V.ref) ∧ Paired (fun p kv => SqT K H p [kV kv.1, kv.2]) ps kvs ∧
    ∀ p, H p = none → Q (.ref p) (upd H p (.dK (mergeK [] kvs)))
theorem cr_dictP {X : Cx} (hcalm : X.calm = true) : CallR X (.type "dict") (rDictP X.K) := call_dictP hcalm
end
end Dy

/-! text B1 -/
namespace Dy
open L2 PyProof.Rows PySem.Spec PySem
/-! ### the head of a sorted row is its best -/
section
variable {β : Type} {lt : β → β → Bool}
theorem fold_cons (tr : ∀ a b c, lt a b = true → lt b c = true → lt a c = true) (nt : ∀ a b c, lt b a = false → lt c b = false → lt c a = false) : ∀ (l : List β) (a x : β),
    (x :: l).foldl (fun m y => if lt y m = true then y else m) a = if lt (l.foldl (fun m y => if lt y m = true then y else m) x) a = true then l.foldl (fun m y => if lt y m = true then y else m) x else a
  | [], a, x => rfl
  | y :: l, a, x => by
    rw [List.foldl_cons, fold_cons tr nt l _ y, fold_cons tr nt l x y]
    generalize l.foldl (fun m y => if lt y m = true then y else m) y = m
    cases h1 : lt x a <;> cases h2 : lt m x <;> simp only [h1, h2, if_true, if_false, Bool.false_eq_true]
    · rw [nt a x m h1 h2]; simp
    · rw [tr m x a h2 h1]; simp
theorem head_best (ir : ∀ a, lt a a = false) (tr : ∀ a b c, lt a b = true → lt b c = true → lt a c = true) (nt : ∀ a b c, lt b a = false → lt c b = false → lt c a = false) (as : ∀ a b, lt a b = true → lt b a = false) : ∀ l : List β, (l.mergeSort fun x y => !lt y x).head? = bestOf lt l
  | [] => by simp [bestOf]
  | a :: l => by
    have tr' : ∀ x y z : β, (!lt y x) = true → (!lt z y) = true → (!lt z x) = true := fun x y z h1 h2 => by
      simp only [Bool.not_eq_true'] at h1 h2 ⊢
      exact nt x y z h1 h2
    have to' : ∀ x y : β, ((!lt y x) || (!lt x y)) = true := fun x y => by
      cases h : lt y x with
      | false => simp
      | true => simp [as y x h]
    obtain ⟨l₁, l₂, e1, e2, e3⟩ := List.mergeSort_cons (le := fun x y => !lt y x) tr' to' a l
    have ih := head_best ir tr nt as l
    rw [e1]
    cases l with
    | nil =>
      have z : l₁ ++ l₂ = [] := by rw [← e2]; simp
      rw [(List.append_eq_nil_iff.mp z).1]
      rfl
    | cons x r =>
      rw [e2] at ih
      show _ = some ((x :: r).foldl _ a)
      rw [fold_cons tr nt r a x]
      have ih' : (l₁ ++ l₂).head? = some (r.foldl (fun m y => if lt y m = true then y else m) x) := ih
      generalize r.foldl (fun m y => if lt y m = true then y else m) x = m at ih' ⊢
      cases l₁ with
      | cons b l₁ =>
        simp only [List.cons_append, List.head?_cons, Option.some.injEq] at ih' ⊢
        subst ih'
        have := e3 b List.mem_cons_self
        simp only [Bool.not_not, Bool.not_eq_true'] at this
        simp [this]
      | nil =>
        simp only [List.nil_append] at ih' ⊢
        have hs := List.pairwise_mergeSort (le := fun x y => !lt y x) tr' to' (a :: x :: r)
        rw [e1, List.nil_append] at hs
        have h1 : m ∈ l₂ := by
          cases l₂ with
          | nil => cases ih'
          | cons z zs => simp at ih'; subst ih'; exact List.mem_cons_self
        have := (List.pairwise_cons.mp hs).1 m h1
        simp only [Bool.not_eq_true'] at this
        simp [this]
end
theorem ltD_ir (a : Dt) : ltD a a = false := lex_irrefl _
theorem ltD_tr (a b c : Dt) (h : ltD a b = true) (k : ltD b c = true) : ltD a c = true := lex_trans _ _ _ h k
theorem ltD_nt (a b c : Dt) (h : ltD b a = false) (k : ltD c b = false) : ltD c a = false := by
  cases e : ltD c a with
  | false => rfl
  | true =>
    rcases lex_negTrans _ (PySem.W.keyToks b.py) _ e with z | z
    · exact absurd (show ltD c b = true from z) (by rw [k]; simp)
    · exact absurd (show ltD b a = true from z) (by rw [h]; simp)
theorem ltD_as (a b : Dt) (h : ltD a b = true) : ltD b a = false := by
  cases e : ltD b a with
  | false => rfl
  | true => exact absurd (ltD_tr a b a h e) (by rw [ltD_ir]; simp)
theorem sort_best (l : List Dt) : (l.mergeSort leD).head? = bestOf ltD l := head_best ltD_ir ltD_tr ltD_nt ltD_as l
end Dy

/-! text K1 -/
namespace K3
open Dy L2 PyProof.Rows PySem.Spec PySem
def lam_law : List (Nat × Nat) := [(153, 30), (158, 29), (162, 30), (167, 30), (186, 23)]
def lam_law_plain : List (Nat × Nat) := [(130, 0), (131, 0), (132, 0), (133, 0), (134, 0), (135, 0), (136, 0), (137, 0), (138, 0), (139, 0), (140, 0)]
/-- where things stand -/
structure Wk where
  K : PySem.W.Frag
  c_Vat : Addr
  e_VatError : Addr
  P_Vat_in_cloth : Addr
  P_Vat_used : Addr
  P_vats_for : Addr
  P_law : Addr
  P_law_plain : Addr
def q_law : Str := "law.<locals>.<lambda>"
def q_law_plain : Str := "_law_plain.<locals>.<lambda>"
def Wk.T (w : Wk) : List TabR := [⟨w.P_Vat_in_cloth, [], ""⟩, ⟨w.P_Vat_used, [], ""⟩, ⟨w.P_vats_for, [], ""⟩, ⟨w.P_law, lam_law, q_law⟩, ⟨w.P_law_plain, lam_law_plain, q_law_plain⟩]
/-- what is known of the written part -/
structure Wf3 (w : Wk) : Prop where
  nd : [w.P_Vat_in_cloth, w.P_Vat_used, w.P_vats_for, w.P_law, w.P_law_plain].Nodup
  cls : Cls w.K w.c_Vat
  na : ∀ f ∈ (["pounds", "dye", "warm", "cloth", "since", "hour", "diary"] : List Str), NoAttr w.K w.c_Vat f

/-! ### a vat, as plain data -/
structure VatM where
  pounds : Int
  dye : Int
  warm : Int
  cloth : Int
  since : Option Int
  hour : Int
  diary : List (Int × Str × Int)
def oI : Option Int → Dt
  | none => .non
  | some i => .int i
def rowD (r : Int × Str × Int) : Dt := .tup [.int r.1, .str r.2.1, .int r.2.2]
def vns : List Str := ["pounds", "dye", "warm", "cloth", "since", "hour", "diary"]
def vatD (w : Wk) (v : VatM) : Dt := .ins w.c_Vat vns [.int v.pounds, .int v.dye, .int v.warm, .int v.cloth, oI v.since, .int v.hour, .lst (v.diary.map rowD)]
def isT (r : Int × Str × Int) : Bool := decide (r.2.1 = "takes")
def inS (v : VatM) (s : Int) : Int := ((v.diary.filter fun r => isT r && decide (s ≤ r.1)).map (·.2.2)).sum
def inCloth (v : VatM) : Int := if v.cloth = 0 then 0 else inS v (v.since.getD 0)
def usedM (v : VatM) : Int := ((v.diary.filter isT).map (·.2.2)).sum
structure VOk (v : VatM) : Prop where
  since : v.cloth ≠ 0 → ∃ s, v.since = some s
  len : v.diary.length ≤ 90000
  bd : ∀ r ∈ v.diary, -(2 ^ 40) ≤ r.2.2 ∧ r.2.2 ≤ 2 ^ 40
def dropM (dye warm : Int) : Int := if warm < 60 then (0 - (0 - dye) / 10) / 2 else 0 - (0 - dye) / 10
def takesM (v : VatM) : Int := if v.cloth = 0 ∨ v.warm < 20 then 0 else if 20 * v.cloth - inCloth v < dropM v.dye v.warm then 20 * v.cloth - inCloth v else dropM v.dye v.warm
/-! ### promises -/
def sp_Vat_in_cloth (w : Wk) : Sp := spD w.K w.T 1 fun ds d => ∃ v, VOk v ∧ ds = [vatD w v] ∧ d = .int (inCloth v)
def sp_Vat_used (w : Wk) : Sp := spD w.K w.T 1 fun ds d => ∃ v, VOk v ∧ ds = [vatD w v] ∧ d = .int (usedM v)
def sp_Vat_takes (w : Wk) : Sp := spD w.K w.T 1 fun ds d => ∃ v, VOk v ∧ ds = [vatD w v] ∧ d = .int (takesM v)
/-- a vat that changes: at p, its diary at d -/
def oV : Option Int → V
  | none => .non
  | some i => .int i
def vatL (v : VatM) (d : Addr) : List (Str × V) := vns.zip [.int v.pounds, .int v.dye, .int v.warm, .int v.cloth, oV v.since, .int v.hour, .ref d]
def VatAt (w : Wk) (M : List Addr) (H : Hp) (p d : Addr) (v : VatM) : Prop := ∃ dx rows, H p = some (.ins w.c_Vat dx (vatL v d)) ∧ H d = some (.lst rows) ∧ DAll w.K M H rows (v.diary.map rowD)
def goodVat (p d t : Int) : Prop := 1 ≤ p ∧ p ≤ 200 ∧ 0 ≤ d ∧ 0 ≤ t ∧ t ≤ 100
/-- what a deed on the vat leaves: the vat at p and its diary at d have changed, nothing besides -/
def spV (w : Wk) (n : Nat) (vs0 : List V → VatM → Prop) (bad : List V → VatM → Prop) (to : List V → VatM → VatM) (res : List V → VatM → Dt) : Sp := fun vs H Q E => ∃ M p d v us, vs = .ref p :: us ∧ vs.length = n ∧ Wf w.T M H ∧ p ∈ M ∧ d ∈ M ∧ VatAt w M H p d v ∧ VOk v ∧ vs0 us v ∧
  ((bad us v → ∀ H1, Pu w.T H H1 → E (.ref w.e_VatError) none H1) ∧ (¬ bad us v → ∀ u H1, Le w.T [p, d] H [p, d] H1 → VatAt w M H1 p d (to us v) → D w.K M H1 u (res us v) → Q u H1))
def i0 (us : List V) : Int := match us with
  | [.int n] => n
  | _ => 0
def oneI (us : List V) (_ : VatM) : Prop := ∃ n, us = [.int n]
def none_ (us : List V) (_ : VatM) : Prop := us = []
def badPut (us : List V) (v : VatM) : Prop := 0 < v.cloth ∨ ¬ (1 ≤ i0 us ∧ i0 us ≤ v.pounds)
def putM (us : List V) (v : VatM) : VatM := { v with cloth := i0 us, since := some v.hour, diary := v.diary ++ [((v.hour, "put", i0 us) : Int × Str × Int)] }
def sp_Vat_put (w : Wk) : Sp := spV w 2 (fun us v => oneI us v ∧ v.diary.length < 80000 ∧ -(2 ^ 40) ≤ i0 us ∧ i0 us ≤ 2 ^ 40) badPut putM fun _ _ => .non
def sp_Vat_fill (w : Wk) : Sp := spV w 2 (fun us v => oneI us v ∧ v.diary.length < 80000) (fun us _ => i0 us < 1) (fun us v => { v with dye := v.dye + i0 us, diary := v.diary ++ [((v.hour, "fill", i0 us) : Int × Str × Int)] }) fun _ _ => .non
def sp_Vat_heat (w : Wk) : Sp := spV w 2 oneI (fun us v => ¬ (0 ≤ v.warm + i0 us ∧ v.warm + i0 us ≤ 100)) (fun us v => { v with warm := v.warm + i0 us }) fun _ _ => .non
def sp_Vat_take_out (w : Wk) : Sp := spV w 1 (fun us v => none_ us v ∧ v.diary.length < 80000) (fun _ v => v.cloth = 0) (fun _ v => { v with cloth := 0, since := none, diary := v.diary ++ [((v.hour, "out", v.cloth) : Int × Str × Int)] }) fun _ v => .tup [.int v.cloth, .int (inCloth v)]
def coolM (t : Int) : Int := if 15 < t then (if t - 2 > 15 then t - 2 else 15) else t
def hourM (v : VatM) : VatM := { v with dye := v.dye - takesM v, hour := v.hour + 1, warm := coolM v.warm, diary := v.diary ++ if 0 < takesM v then [((v.hour, "takes", takesM v) : Int × Str × Int)] else [] }
def sp_Vat_go_hour (w : Wk) : Sp := spV w 1 (fun us v => none_ us v ∧ v.diary.length < 80000) (fun _ _ => False) (fun _ v => hourM v) fun _ v => .int (takesM v)
def newVat (p d t : Int) : VatM := ⟨p, d, t, 0, none, 0, []⟩
def sp_Vat_init (w : Wk) : Sp := fun vs H Q E => ∃ M x dx p d t, vs = [.ref x, .int p, .int d, .int t] ∧ Wf w.T M H ∧ H x = some (.ins w.c_Vat dx []) ∧ H dx = some (.own x) ∧
  ((¬ goodVat p d t → ∀ H1, Pu w.T H H1 → E (.ref w.e_VatError) none H1) ∧ (goodVat p d t → ∀ di H1, H di = none → Le w.T [x] H [x] H1 → H1 x = some (.ins w.c_Vat dx (vns.zip [.int p, .int d, .int t, .int 0, .non, .int 0, .ref di])) → H1 di = some (.lst []) → Q .non H1))
/-- the hours for so many ounces -/
def hoursM (pounds cloth ounces : Int) : Nat → Int → Int → Int → Int → Option Int
  | 0, _, _, _, _ => none
  | n + 1, i, dye, warm, has => if ounces ≤ has then some i else
      let t := takesM ⟨pounds, dye, warm, cloth, some 0, 0, []⟩
      let took := if 20 * cloth - has < t then 20 * cloth - has else t
      hoursM pounds cloth ounces n (i + 1) (dye - took) (coolM warm) (has + took)
def hoursOf (v : VatM) (n : Int) : Option Int := hoursM v.pounds v.cloth n 501 0 v.dye v.warm (inCloth v)
def sp_Vat_hours_for (w : Wk) : Sp := spE w.K w.T 2 (fun ds d => ∃ v n, VOk v ∧ v.cloth ≠ 0 ∧ (1 ≤ v.pounds ∧ v.pounds ≤ 200) ∧ (0 ≤ v.cloth ∧ v.cloth ≤ 200) ∧ (0 ≤ v.dye ∧ v.dye ≤ 2 ^ 39) ∧ (0 ≤ v.warm ∧ v.warm ≤ 100) ∧ (0 ≤ inCloth v ∧ inCloth v ≤ 20 * v.cloth) ∧ ds = [vatD w v, .int n] ∧ d = oI (hoursOf v n)) w.e_VatError
  (fun ds => ∃ v n, ds = [vatD w v, .int n] ∧ v.cloth = 0)
/-! ### the fewest vats -/
def tD (l : List Int) : Dt := .tup (l.map .int)
def subs : Nat → List (List Int)
  | 0 => [[]]
  | k + 1 => subs k ++ (subs k).map (· ++ [(k : Int)])
def pick (sizes : List Int) (i : Int) : Int := sizes.getD i.toNat 0
def holds (sizes : List Int) (row : List Int) : Int := (row.map (pick sizes)).sum
def goodRows (need : Int) (sizes : List Int) : List (List Int) := (subs sizes.length).filter fun row => decide (need ≤ holds sizes row)
def gD (row : List Int) : Dt := .tup [.int row.length, tD row]
def vatsD (need : Int) (sizes : List Int) : Dt := match bestOf ltD ((goodRows need sizes).map gD) with
  | some (.tup [_, d]) => d
  | _ => .non
def sp_vats_for (w : Wk) : Sp := spE w.K w.T 2 (fun ds d => ∃ need sizes, (1 ≤ need ∧ sizes.length ≤ 8 ∧ ∀ x ∈ sizes, -1000 ≤ x ∧ x ≤ 1000) ∧ ds = [.int need, .lst (sizes.map .int)] ∧ d = vatsD need sizes) w.e_VatError
  (fun ds => ∃ need sizes, (need < 1 ∨ 8 < sizes.length) ∧ ds = [.int need, .lst sizes])
/-! ### the law's own defs -/
def diceL (z : Int) : List Int := if -10 < z ∧ z < 10 then [if z < 0 then -z else z, 0, 2] else [z, 1 + z % 1009, if (10 : Int) ^ 18 ≤ z then 1 else 0]
def sp_law_dice (w : Wk) : Sp := spD w.K w.T 1 fun ds d => ∃ z, ds = [.int z] ∧ d = .lst ((diceL z).map .int)
def sp_law_roll (w : Wk) : Sp := fun vs H Q _ => ∃ (di : Addr) (a b c n : Int), vs = [.ref di, .int n] ∧ TabsOk w.T H ∧ H di = some (.lst [.int a, .int b, .int c]) ∧ 0 < n ∧ n ≤ 100000000 ∧
  ∀ r a' b' c', 0 ≤ r → r < n → ∀ H1, Le w.T [di] H [di] H1 → H1 di = some (.lst [.int a', .int b', .int c']) → Q (.int r) H1
def sp_law_rounds (w : Wk) : Sp := fun vs H Q _ => ∃ (M : List Addr) (a : Addr) (ns : List Int), vs = [.ref a, .int 1] ∧ Wf w.T M H ∧ SqL w.K H a (ns.map V.int) ∧
  ∀ v z H1, Pu w.T H H1 → D w.K M H1 v (.lst [.lst ((diceL z).map Dt.int)]) → Q v H1
/-- the law's own vat: dye, warm, cloth, has -/
structure OwnM where
  dye : Int
  warm : Int
  cloth : Int
  has : Int
def ownK (o : OwnM) : List (Key × V) := [(.inr "dye", .int o.dye), (.inr "warm", .int o.warm), (.inr "cloth", .int o.cloth), (.inr "has", .int o.has)]
def dueM (o : OwnM) : Int := if 0 < o.cloth ∧ 20 ≤ o.warm then (if 20 * o.cloth - o.has < (if o.warm < 60 then -(-o.dye / 10) / 2 else -(-o.dye / 10)) then 20 * o.cloth - o.has else (if o.warm < 60 then -(-o.dye / 10) / 2 else -(-o.dye / 10))) else 0
def ownHour (o : OwnM) : OwnM := ⟨o.dye - dueM o, coolM o.warm, o.cloth, o.has + dueM o⟩
def sp_law_hour (w : Wk) : Sp := fun vs H Q _ => ∃ p o, vs = [.ref p] ∧ TabsOk w.T H ∧ H p = some (.dK (ownK o)) ∧ ∀ H1, Le w.T [p] H [p] H1 → H1 p = some (.dK (ownK (ownHour o))) → Q (.int (dueM o)) H1
def sp_law_plain (w : Wk) : Sp := spD w.K w.T 0 fun ds d => ds = [] ∧ d = .bl true
/-! ### readings -/
def t_Vat_init (w : Wk) (E : XK) : TS := (tSeq (tIfS (tOr (tNot (tTest (tChain (rI0 fun i j => .bl (decide (i ≤ j))) (rI0 fun i j => .bl (decide (i ≤ j))) (tC (.int 1)) (tVar 1) (tC (.int 200))))) (tOr (tTest (tOp (rLtU w.K) (tVar 2) (tC (.int 0)))) (tNot (tTest (tChain (rI0 fun i j => .bl (decide (i ≤ j))) (rI0 fun i j => .bl (decide (i ≤ j))) (tC (.int 0)) (tVar 3) (tC (.int 100))))))) (tRaise w.e_VatError E) tNext) (tSeq (sFld w.K (tVar 0) (tVar 1) "pounds") (tSeq (sFld w.K (tVar 0) (tVar 2) "dye") (tSeq (sFld w.K (tVar 0) (tVar 3) "warm") (tSeq (sFld w.K (tVar 0) (tC (.int 0)) "cloth") (tSeq (sFld w.K (tVar 0) (tC .non) "since") (tSeq (sFld w.K (tVar 0) (tC (.int 0)) "hour") (sFld w.K (tVar 0) (tLst tNil) "diary"))))))))
def N_Vat_init : List Str := ["self", "pounds", "dye", "warm"]
def t_Vat_takes (w : Wk) (E : XK) : TS := (tSeq (tIfS (tOr (tTest (tOp (rEqU w.K) (tFld w.K (tVar 0) "cloth") (tC (.int 0)))) (tTest (tOp (rLtU w.K) (tFld w.K (tVar 0) "warm") (tC (.int 20))))) (tRet (tC (.int 0))) tNext) (tSeq (tAsg (tOp (rI0 fun i j => .int (i - j)) (tC (.int 0)) (tOp (rI CDivW fun i j => .int (i / j)) (tOp (rI0 fun i j => .int (i - j)) (tC (.int 0)) (tFld w.K (tVar 0) "dye")) (tC (.int 10)))) (gName 1)) (tSeq (tIfS (tTest (tOp (rLtU w.K) (tFld w.K (tVar 0) "warm") (tC (.int 60)))) (tAug 1 (tC (.int 2)) (rI CDiv fun i j => .int (i / j))) tNext) (tRet (tCB (fun xs H Q => ∃ i j, xs = [.int i, .int j] ∧ Q (.int (if j < i then j else i)) H) (tCons (tVar 1) (tCons (tOp (rI0 fun i j => .int (i - j)) (tOp (rMulU w.K) (tC (.int 20)) (tFld w.K (tVar 0) "cloth")) (tMeth w.c_Vat "in_cloth" (sp_Vat_in_cloth w) [] E (tVar 0) tNil)) tNil)))))))
def N_Vat_takes : List Str := ["self", "found"]
def t_Vat_in_cloth (w : Wk) (E : XK) : TS := (tSeq (tIfS (tTest (tOp (rEqU w.K) (tFld w.K (tVar 0) "cloth") (tC (.int 0)))) (tRet (tC (.int 0))) tNext) (tRet (tSumG w.P_Vat_in_cloth [] "" (iList w.K (tFld w.K (tVar 0) "diary")) (gTup w.K 3 (gCons (gName 1) (gCons (gName 2) (gCons (gName 3) gNil)))) (tAnd (tTest (tOp (rEqU w.K) (tVar 2) (tC (.str "takes")))) (tTest (tOp (rI0 fun i j => .bl (decide (j ≤ i))) (tVar 1) (tFld w.K (tVar 0) "since")))) (tVar 3) [1, 2, 3])))
def N_Vat_in_cloth : List Str := ["self", "hour", "what", "number"]
def t_Vat_put (w : Wk) (E : XK) : TS := (tSeq (tIfS (tOr (tTest (tOp (rGtU w.K) (tFld w.K (tVar 0) "cloth") (tC (.int 0)))) (tNot (tTest (tChain (rI0 fun i j => .bl (decide (i ≤ j))) (rI0 fun i j => .bl (decide (i ≤ j))) (tC (.int 1)) (tVar 1) (tFld w.K (tVar 0) "pounds"))))) (tRaise w.e_VatError E) tNext) (tSeq (sFld w.K (tVar 0) (tVar 1) "cloth") (tSeq (sFld w.K (tVar 0) (tFld w.K (tVar 0) "hour") "since") (tDrop (tBM w.K "list" rAppend (tFld w.K (tVar 0) "diary") (tCons (tTup (tCons (tFld w.K (tVar 0) "hour") (tCons (tC (.str "put")) (tCons (tVar 1) tNil)))) tNil))))))
def N_Vat_put : List Str := ["self", "pounds"]
def t_Vat_take_out (w : Wk) (E : XK) : TS := (tSeq (tIfS (tTest (tOp (rEqU w.K) (tFld w.K (tVar 0) "cloth") (tC (.int 0)))) (tRaise w.e_VatError E) tNext) (tSeq (tAsg (tTup (tCons (tFld w.K (tVar 0) "cloth") (tCons (tMeth w.c_Vat "in_cloth" (sp_Vat_in_cloth w) [] E (tVar 0) tNil) tNil))) (gName 1)) (tSeq (tDrop (tBM w.K "list" rAppend (tFld w.K (tVar 0) "diary") (tCons (tTup (tCons (tFld w.K (tVar 0) "hour") (tCons (tC (.str "out")) (tCons (tFld w.K (tVar 0) "cloth") tNil)))) tNil))) (tSeq (tAsg (tTup (tCons (tC (.int 0)) (tCons (tC .non) tNil))) (gTup w.K 2 (gCons (gFld w.K (tVar 0) "cloth") (gCons (gFld w.K (tVar 0) "since") gNil)))) (tRet (tVar 1))))))
def N_Vat_take_out : List Str := ["self", "found"]
def t_Vat_fill (w : Wk) (E : XK) : TS := (tSeq (tIfS (tTest (tOp (rLtU w.K) (tVar 1) (tC (.int 1)))) (tRaise w.e_VatError E) tNext) (tSeq (sFldAug w.K (tVar 0) (tVar 1) rAdd "dye") (tDrop (tBM w.K "list" rAppend (tFld w.K (tVar 0) "diary") (tCons (tTup (tCons (tFld w.K (tVar 0) "hour") (tCons (tC (.str "fill")) (tCons (tVar 1) tNil)))) tNil)))))
def N_Vat_fill : List Str := ["self", "ounces"]
def t_Vat_heat (w : Wk) (E : XK) : TS := (tSeq (tIfS (tNot (tTest (tChain (rI0 fun i j => .bl (decide (i ≤ j))) (rI0 fun i j => .bl (decide (i ≤ j))) (tC (.int 0)) (tOp (rAddU w.K) (tFld w.K (tVar 0) "warm") (tVar 1)) (tC (.int 100))))) (tRaise w.e_VatError E) tNext) (sFldAug w.K (tVar 0) (tVar 1) rAdd "warm"))
def N_Vat_heat : List Str := ["self", "degrees"]
def t_Vat_go_hour (w : Wk) (E : XK) : TS := (tSeq (tAsg (tMeth w.c_Vat "takes" (sp_Vat_takes w) [] E (tVar 0) tNil) (gName 1)) (tSeq (sFldAug w.K (tVar 0) (tVar 1) rSub "dye") (tSeq (tIfS (tTest (tOp (rGtU w.K) (tVar 1) (tC (.int 0)))) (tDrop (tBM w.K "list" rAppend (tFld w.K (tVar 0) "diary") (tCons (tTup (tCons (tFld w.K (tVar 0) "hour") (tCons (tC (.str "takes")) (tCons (tVar 1) tNil)))) tNil))) tNext) (tSeq (sFldAug w.K (tVar 0) (tC (.int 1)) rAdd "hour") (tSeq (tIfS (tTest (tOp (rGtU w.K) (tFld w.K (tVar 0) "warm") (tC (.int 15)))) (sFld w.K (tVar 0) (tCB (fun xs H Q => ∃ i j, xs = [.int i, .int j] ∧ Q (.int (if j > i then j else i)) H) (tCons (tC (.int 15)) (tCons (tOp (rI0 fun i j => .int (i - j)) (tFld w.K (tVar 0) "warm") (tC (.int 2))) tNil))) "warm") tNext) (tRet (tVar 1)))))))
def N_Vat_go_hour : List Str := ["self", "found"]
def t_Vat_hours_for (w : Wk) (E : XK) : TS := (tSeq (tIfS (tTest (tOp (rEqU w.K) (tFld w.K (tVar 0) "cloth") (tC (.int 0)))) (tRaise w.e_VatError E) tNext) (tSeq (tPar3 2 3 4 (tCons (tFld w.K (tVar 0) "dye") (tCons (tFld w.K (tVar 0) "warm") (tCons (tMeth w.c_Vat "in_cloth" (sp_Vat_in_cloth w) [] E (tVar 0) tNil) tNil)))) (tSeq (tFor (iRng1 (tCons (tC (.int 501)) tNil)) (gName 5) (tSeq (tIfS (tTest (tOp (rI0 fun i j => .bl (decide (j ≤ i))) (tVar 4) (tVar 1))) (tRet (tVar 5)) tNext) (tSeq (tAsg (tMake w.c_Vat (sp_Vat_init w) [] E (tCons (tFld w.K (tVar 0) "pounds") (tCons (tVar 2) (tCons (tVar 3) tNil)))) (gName 6)) (tSeq (tAsg (tTup (tCons (tFld w.K (tVar 0) "cloth") (tCons (tC (.int 0)) tNil))) (gTup w.K 2 (gCons (gFld w.K (tVar 6) "cloth") (gCons (gFld w.K (tVar 6) "since") gNil)))) (tSeq (tAsg (tCB (fun xs H Q => ∃ i j, xs = [.int i, .int j] ∧ Q (.int (if j < i then j else i)) H) (tCons (tMeth w.c_Vat "takes" (sp_Vat_takes w) [] E (tVar 6) tNil) (tCons (tOp (rI0 fun i j => .int (i - j)) (tOp (rMulU w.K) (tC (.int 20)) (tFld w.K (tVar 0) "cloth")) (tVar 4)) tNil))) (gName 7)) (tSeq (tPar 2 4 (tCons (tOp (rI0 fun i j => .int (i - j)) (tVar 2) (tVar 7)) (tCons (tOp (rAddU w.K) (tVar 4) (tVar 7)) tNil))) (tAsg (tIf (tTest (tOp (rGtU w.K) (tVar 3) (tC (.int 15)))) (tCB (fun xs H Q => ∃ i j, xs = [.int i, .int j] ∧ Q (.int (if j > i then j else i)) H) (tCons (tC (.int 15)) (tCons (tOp (rI0 fun i j => .int (i - j)) (tVar 3) (tC (.int 2))) tNil))) (tVar 3)) (gName 3)))))))) (tRet (tC .non)))))
def N_Vat_hours_for : List Str := ["self", "ounces", "dye", "warm", "has", "hours", "other", "took"]
def t_Vat_used (w : Wk) (E : XK) : TS := (tRet (tSumG w.P_Vat_used [] "" (iList w.K (tFld w.K (tVar 0) "diary")) (gTup w.K 3 (gCons (gName 1) (gCons (gName 2) (gCons (gName 3) gNil)))) (tTest (tOp (rEqU w.K) (tVar 2) (tC (.str "takes")))) (tVar 3) [1, 2, 3]))
def N_Vat_used : List Str := ["self", "hour", "what", "number"]
def t_vats_for (w : Wk) (E : XK) : TS := (tSeq (tIfS (tOr (tTest (tOp (rGtU w.K) (tCB (rLenU w.K) (tCons (tVar 1) tNil)) (tC (.int 8)))) (tTest (tOp (rLtU w.K) (tVar 0) (tC (.int 1))))) (tRaise w.e_VatError E) tNext) (tSeq (tAsg (tLst (tCons (tTup tNil) tNil)) (gName 2)) (tSeq (tFor (iRng1 (tCons (tCB (rLenU w.K) (tCons (tVar 1) tNil)) tNil)) (gName 3) (tAug 2 (tLc (iList w.K (tVar 2)) (gName 4) tYes (tOp (rAddU w.K) (tVar 4) (tTup (tCons (tVar 3) tNil))) [4]) (rOr (rI0 fun i j => .int (i + j)) rExt2))) (tSeq (tAsg (tLc (iList w.K (tVar 2)) (gName 4) (tTest (tOp (rI0 fun i j => .bl (decide (j ≤ i))) (tSumG w.P_vats_for [] "" (iTup w.K (tVar 4)) (gName 3) tYes (tSub w.K (tVar 1) (tVar 3)) [3]) (tVar 0))) (tTup (tCons (tCB (rLenU w.K) (tCons (tVar 4) tNil)) (tCons (tVar 4) tNil))) [4]) (gName 5)) (tRet (tIf (tTest (tOp (rNeU w.K) (tVar 5) (tLst tNil))) (tSub w.K (tCB (rBest w.K fun x y => ltD x y) (tCons (tVar 5) tNil)) (tC (.int 1))) (tC .non)))))))
def N_vats_for : List Str := ["pounds", "sizes", "rows", "place", "row", "good"]
def t_law_dice (w : Wk) (E : XK) : TS := (tSeq (tIfS (tTest (tChain (rLtU w.K) (rLtU w.K) (tOp (rI0 fun i j => .int (i - j)) (tC (.int 0)) (tC (.int 10))) (tVar 0) (tC (.int 10)))) (tRet (tLst (tCons (tCB (fun xs H Q => ∃ i, xs = [.int i] ∧ Q (.int (if i < 0 then -i else i)) H) (tCons (tVar 0) tNil)) (tCons (tC (.int 0)) (tCons (tC (.int 2)) tNil))))) tNext) (tRet (tLst (tCons (tVar 0) (tCons (tOp (rAddU w.K) (tC (.int 1)) (tOp (rI (fun _ j => 0 < j) fun i j => .int (i % j)) (tCB (fun xs H Q => (∃ i, xs = [.int i] ∧ Q (.int i) H) ∨ ∃ k, xs = [.bl k] ∧ Q (.int (if k then 1 else 0)) H) (tCons (tVar 0) tNil)) (tC (.int 1009)))) (tCons (tCB (fun xs H Q => (∃ i, xs = [.int i] ∧ Q (.int i) H) ∨ ∃ k, xs = [.bl k] ∧ Q (.int (if k then 1 else 0)) H) (tCons (tOp (rI0 fun i j => .bl (decide (j ≤ i))) (tVar 0) (tOp (rI CPow fun i j => .int (i ^ j.toNat)) (tC (.int 10)) (tC (.int 18)))) tNil)) tNil))))))
def N_law_dice : List Str := ["cell"]
def t_law_roll (w : Wk) (E : XK) : TS := (tSeq (tIfS (tOr (tTest (tOp (rEqU w.K) (tSub w.K (tVar 0) (tC (.int 2))) (tC (.int 2)))) (tAnd (tTest (tOp (rEqU w.K) (tSub w.K (tVar 0) (tC (.int 2))) (tC (.int 1)))) (tTest (tOp (rGtU w.K) (tSub w.K (tVar 0) (tC (.int 0))) (tC (.int 0)))))) (tSeq (tAsg (tOp (rI (fun _ j => 0 < j) fun i j => .int (i % j)) (tCB (fun xs H Q => (∃ i, xs = [.int i] ∧ Q (.int i) H) ∨ ∃ k, xs = [.bl k] ∧ Q (.int (if k then 1 else 0)) H) (tCons (tSub w.K (tVar 0) (tC (.int 0))) tNil)) (tVar 1)) (gName 2)) (tSeq (tAsg (tOp (rI CDivW fun i j => .int (i / j)) (tSub w.K (tVar 0) (tC (.int 0))) (tVar 1)) (gSub (tVar 0) (tC (.int 0)) rSetL)) (tRet (tVar 2)))) tNext) (tSeq (tAsg (tC (.int 0)) (gSub (tVar 0) (tC (.int 2)) rSetL)) (tSeq (tIfS (tTest (tOp (rGtU w.K) (tVar 1) (tC (.int 100000000)))) tNever tNext) (tSeq (tAsg (tOp (rI (fun _ j => 0 < j) fun i j => .int (i % j)) (tCB (fun xs H Q => (∃ i, xs = [.int i] ∧ Q (.int i) H) ∨ ∃ k, xs = [.bl k] ∧ Q (.int (if k then 1 else 0)) H) (tCons (tOp (rAddU w.K) (tOp (rAddU w.K) (tOp (rMulU w.K) (tSub w.K (tVar 0) (tC (.int 0))) (tC (.int 48271))) (tOp (rMulU w.K) (tSub w.K (tVar 0) (tC (.int 1))) (tC (.int 69621)))) (tC (.int 11))) tNil)) (tC (.int 2147483647))) (gSub (tVar 0) (tC (.int 0)) rSetL)) (tSeq (tAsg (tOp (rAddU w.K) (tSub w.K (tVar 0) (tC (.int 1))) (tC (.int 1))) (gSub (tVar 0) (tC (.int 1)) rSetL)) (tRet (tOp (rI (fun _ j => 0 < j) fun i j => .int (i % j)) (tCB (fun xs H Q => (∃ i, xs = [.int i] ∧ Q (.int i) H) ∨ ∃ k, xs = [.bl k] ∧ Q (.int (if k then 1 else 0)) H) (tCons (tOp (rI CDivW fun i j => .int (i / j)) (tSub w.K (tVar 0) (tC (.int 0))) (tC (.int 7))) tNil)) (tVar 1))))))))
def N_law_roll : List Str := ["dice", "many", "found"]
def t_law_rounds (w : Wk) (E : XK) : TS := (tSeq (tAsg (tSl (rSlU w.K) (tVar 0) tNoPart (tPart (tVar 1))) (gName 2)) (tSeq (tIfS (tTest (tOp (rEqU w.K) (tVar 2) (tLst tNil))) (tAsg (tLst (tCons (tC (.int 0)) tNil)) (gName 2)) tNext) (tRet (tLc (iList w.K (tVar 2)) (gName 3) tYes (tCall (sp_law_dice w) [] (fun _ _ _ => False) (tCons (tVar 3) tNil)) [3]))))
def N_law_rounds : List Str := ["script", "most", "cells", "cell"]
def t_law_hour (w : Wk) (E : XK) : TS := (tSeq (tAsg (tUn (rU fun i => .int (-i)) (tOp (rI CDivW fun i j => .int (i / j)) (tUn (rU fun i => .int (-i)) (tSub w.K (tVar 0) (tC (.str "dye")))) (tC (.int 10)))) (gName 1)) (tSeq (tAsg (tIf (tTest (tOp (rLtU w.K) (tSub w.K (tVar 0) (tC (.str "warm"))) (tC (.int 60)))) (tOp (rI CDivW fun i j => .int (i / j)) (tVar 1) (tC (.int 2))) (tVar 1)) (gName 1)) (tSeq (tAsg (tIf (tAnd (tTest (tOp (rGtU w.K) (tSub w.K (tVar 0) (tC (.str "cloth"))) (tC (.int 0)))) (tTest (tOp (rI0 fun i j => .bl (decide (j ≤ i))) (tSub w.K (tVar 0) (tC (.str "warm"))) (tC (.int 20))))) (tCB (fun xs H Q => ∃ i j, xs = [.int i, .int j] ∧ Q (.int (if j < i then j else i)) H) (tCons (tVar 1) (tCons (tOp (rI0 fun i j => .int (i - j)) (tOp (rMulU w.K) (tC (.int 20)) (tSub w.K (tVar 0) (tC (.str "cloth")))) (tSub w.K (tVar 0) (tC (.str "has")))) tNil))) (tC (.int 0))) (gName 1)) (tSeq (tAsg (tTup (tCons (tOp (rI0 fun i j => .int (i - j)) (tSub w.K (tVar 0) (tC (.str "dye"))) (tVar 1)) (tCons (tOp (rAddU w.K) (tSub w.K (tVar 0) (tC (.str "has"))) (tVar 1)) tNil))) (gTup w.K 2 (gCons (gSub (tVar 0) (tC (.str "dye")) rSetD) (gCons (gSub (tVar 0) (tC (.str "has")) rSetD) gNil)))) (tSeq (sDPut (tVar 0) (tC (.str "warm")) (tIf (tTest (tOp (rGtU w.K) (tSub w.K (tVar 0) (tC (.str "warm"))) (tC (.int 15)))) (tCB (fun xs H Q => ∃ i j, xs = [.int i, .int j] ∧ Q (.int (if j > i then j else i)) H) (tCons (tC (.int 15)) (tCons (tOp (rI0 fun i j => .int (i - j)) (tSub w.K (tVar 0) (tC (.str "warm"))) (tC (.int 2))) tNil))) (tSub w.K (tVar 0) (tC (.str "warm"))))) (tRet (tVar 1)))))))
def N_law_hour : List Str := ["own", "took"]
def lts_law_plain (w : Wk) (j : Nat) : XK → TE := ([(fun E1 => (tMake w.c_Vat (sp_Vat_init w) [] E1 (tCons (tC (.int 0)) (tCons (tC (.int 1)) (tCons (tC (.int 1)) tNil))))), (fun E1 => (tMake w.c_Vat (sp_Vat_init w) [] E1 (tCons (tC (.int 201)) (tCons (tC (.int 1)) (tCons (tC (.int 1)) tNil))))), (fun E1 => (tMake w.c_Vat (sp_Vat_init w) [] E1 (tCons (tC (.int 1)) (tCons (tUn (rU fun i => .int (-i)) (tC (.int 1))) (tCons (tC (.int 1)) tNil))))), (fun E1 => (tMake w.c_Vat (sp_Vat_init w) [] E1 (tCons (tC (.int 1)) (tCons (tC (.int 1)) (tCons (tC (.int 101)) tNil))))), (fun E1 => (tMake w.c_Vat (sp_Vat_init w) [] E1 (tCons (tC (.int 1)) (tCons (tC (.int 1)) (tCons (tUn (rU fun i => .int (-i)) (tC (.int 1))) tNil))))), (fun E1 => (tMeth w.c_Vat "take_out" (sp_Vat_take_out w) [] E1 (tVar 0) tNil)), (fun E1 => (tMeth w.c_Vat "hours_for" (sp_Vat_hours_for w) [] E1 (tVar 0) (tCons (tC (.int 1)) tNil))), (fun E1 => (tCall (sp_vats_for w) [] E1 (tCons (tC (.int 0)) (tCons (tLst (tCons (tC (.int 1)) tNil)) tNil)))), (fun E1 => (tCall (sp_vats_for w) [] E1 (tCons (tC (.int 1)) (tCons (tOp (rMulU w.K) (tLst (tCons (tC (.int 1)) tNil)) (tC (.int 9))) tNil)))), (fun E1 => (tMeth w.c_Vat "put" (sp_Vat_put w) [] E1 (tVar 0) (tCons (tC (.int 11)) tNil))), (fun E1 => (tMeth w.c_Vat "put" (sp_Vat_put w) [] E1 (tVar 0) (tCons (tC (.int 0)) tNil)))] : List (XK → TE)).getD j (fun _ _ _ _ => False)
def t_law_plain (w : Wk) (E : XK) (LO : Nat → Addr → Addr → HO) : TS := (tSeq (tAsg (tMake w.c_Vat (sp_Vat_init w) [] E (tCons (tC (.int 10)) (tCons (tC (.int 100)) (tCons (tC (.int 80)) tNil)))) (gName 0)) (tSeq (tAsg (tLst (tCons (tMkL w.P_law_plain lam_law_plain q_law_plain (LO 0)) (tCons (tMkL w.P_law_plain lam_law_plain q_law_plain (LO 1)) (tCons (tMkL w.P_law_plain lam_law_plain q_law_plain (LO 2)) (tCons (tMkL w.P_law_plain lam_law_plain q_law_plain (LO 3)) (tCons (tMkL w.P_law_plain lam_law_plain q_law_plain (LO 4)) (tCons (tMkL w.P_law_plain lam_law_plain q_law_plain (LO 5)) (tCons (tMkL w.P_law_plain lam_law_plain q_law_plain (LO 6)) (tCons (tMkL w.P_law_plain lam_law_plain q_law_plain (LO 7)) (tCons (tMkL w.P_law_plain lam_law_plain q_law_plain (LO 8)) (tCons (tMkL w.P_law_plain lam_law_plain q_law_plain (LO 9)) (tCons (tMkL w.P_law_plain lam_law_plain q_law_plain (LO 10)) tNil)))))))))))) (gName 1)) (tSeq (tIfS (tOr (tTest (tOp (rNeU w.K) (fun σ H Q => tLc (iList w.K (tVar 1)) (gName 2) (tTest (tOp (rNeU w.K) (tToldG w.K q_law_plain w.e_VatError "VatError" 2 LO (lts_law_plain w) 11 σ) (tC (.str "VatError")))) (tC (.int 1)) [2] σ H Q) (tLst tNil))) (tOr (tTest (tOp (rNeU w.K) (tC (.int 200)) (tC (.int 200)))) (tTest (tOp (rNeU w.K) (tMeth w.c_Vat "go_hour" (sp_Vat_go_hour w) [] E (tVar 0) tNil) (tC (.int 0)))))) (tRet (tC (.bl false))) tNext) (tSeq (tDrop (tMeth w.c_Vat "put" (sp_Vat_put w) [] E (tVar 0) (tCons (tC (.int 5)) tNil))) (tRet (tAndV (tOp (rEqU w.K) (tLst (tCons (tMeth w.c_Vat "go_hour" (sp_Vat_go_hour w) [] E (tVar 0) tNil) (tCons (tMeth w.c_Vat "go_hour" (sp_Vat_go_hour w) [] E (tVar 0) tNil) tNil))) (tLst (tCons (tC (.int 10)) (tCons (tC (.int 9)) tNil)))) (tAndV (tOp (rEqU w.K) (tMeth w.c_Vat "take_out" (sp_Vat_take_out w) [] E (tVar 0) tNil) (tTup (tCons (tC (.int 5)) (tCons (tC (.int 19)) tNil)))) (tAndV (tOp (rEqU w.K) (tFld w.K (tVar 0) "diary") (tLst (tCons (tTup (tCons (tC (.int 1)) (tCons (tC (.str "put")) (tCons (tC (.int 5)) tNil)))) (tCons (tTup (tCons (tC (.int 1)) (tCons (tC (.str "takes")) (tCons (tC (.int 10)) tNil)))) (tCons (tTup (tCons (tC (.int 2)) (tCons (tC (.str "takes")) (tCons (tC (.int 9)) tNil)))) (tCons (tTup (tCons (tC (.int 3)) (tCons (tC (.str "out")) (tCons (tC (.int 5)) tNil)))) tNil)))))) (tOp (rEqU w.K) (tFld w.K (tVar 0) "pounds") (tC (.int 10)))))))))))
def N_law_plain : List Str := ["vat", "bad", "f"]
def t_law_for0 (w : Wk) (E : XK) (LO : Nat → Addr → Addr → HO) : TS := (tSeq (tAsg (tTup (tCons (tCall (sp_law_roll w) [] E (tCons (tVar 1) (tCons (tC (.int 8)) tNil))) (tCons (tOp (rI0 fun i j => .int (i - j)) (tCall (sp_law_roll w) [] E (tCons (tVar 1) (tCons (tC (.int 70)) tNil))) (tC (.int 5))) tNil))) (gTup w.K 2 (gCons (gName 10) (gCons (gName 11) gNil)))) (tSeq (tIfS (tTest (tOp (rEqU w.K) (tVar 10) (tC (.int 0)))) (tSeq (tAsg (tAndV (tOp (rEqU w.K) (tSub w.K (tVar 6) (tC (.str "cloth"))) (tC (.int 0))) (tChain (rI0 fun i j => .bl (decide (i ≤ j))) (rI0 fun i j => .bl (decide (i ≤ j))) (tC (.int 1)) (tVar 11) (tVar 2))) (gName 12)) (tSeq (tIfS (tTest (tOp (rEqU w.K) (tOp (rEqU w.K) (tTold w.K w.P_law lam_law q_law w.e_VatError "VatError" (LO 0) (fun E1 => (tMeth w.c_Vat "put" (sp_Vat_put w) [] E1 (tVar 5) (tCons (tVar 11) tNil)))) (tC (.str "VatError"))) (tVar 12))) (tRet (tC (.bl false))) tNext) (tAsg (tIf (tB (tVar 12)) (tTup (tCons (tVar 11) (tCons (tC (.int 0)) tNil))) (tTup (tCons (tSub w.K (tVar 6) (tC (.str "cloth"))) (tCons (tSub w.K (tVar 6) (tC (.str "has"))) tNil)))) (gTup w.K 2 (gCons (gSub (tVar 6) (tC (.str "cloth")) rSetD) (gCons (gSub (tVar 6) (tC (.str "has")) rSetD) gNil)))))) (tIfS (tTest (tOp (rEqU w.K) (tVar 10) (tC (.int 1)))) (tSeq (tAsg (tOp (rGtU w.K) (tSub w.K (tVar 6) (tC (.str "cloth"))) (tC (.int 0))) (gName 12)) (tSeq (tIfS (tTest (tOp (rNeU w.K) (tTold w.K w.P_law lam_law q_law w.e_VatError "VatError" (LO 1) (fun E1 => (tMeth w.c_Vat "take_out" (sp_Vat_take_out w) [] E1 (tVar 5) tNil))) (tIf (tB (tVar 12)) (tTup (tCons (tSub w.K (tVar 6) (tC (.str "cloth"))) (tCons (tSub w.K (tVar 6) (tC (.str "has"))) tNil))) (tC (.str "VatError"))))) (tRet (tC (.bl false))) tNext) (tAsg (tTup (tCons (tC (.int 0)) (tCons (tC (.int 0)) tNil))) (gTup w.K 2 (gCons (gSub (tVar 6) (tC (.str "cloth")) rSetD) (gCons (gSub (tVar 6) (tC (.str "has")) rSetD) gNil)))))) (tIfS (tTest (tOp (rEqU w.K) (tVar 10) (tC (.int 2)))) (tSeq (tIfS (tTest (tOp (rNeU w.K) (tOp (rEqU w.K) (tTold w.K w.P_law lam_law q_law w.e_VatError "VatError" (LO 2) (fun E1 => (tMeth w.c_Vat "fill" (sp_Vat_fill w) [] E1 (tVar 5) (tCons (tVar 11) tNil)))) (tC (.str "VatError"))) (tOp (rLtU w.K) (tVar 11) (tC (.int 1))))) (tRet (tC (.bl false))) tNext) (tAsg (tTup (tCons (tOp (rAddU w.K) (tSub w.K (tVar 6) (tC (.str "dye"))) (tCB (fun xs H Q => ∃ i j, xs = [.int i, .int j] ∧ Q (.int (if j > i then j else i)) H) (tCons (tC (.int 0)) (tCons (tVar 11) tNil)))) (tCons (tOp (rAddU w.K) (tVar 8) (tCB (fun xs H Q => ∃ i j, xs = [.int i, .int j] ∧ Q (.int (if j > i then j else i)) H) (tCons (tC (.int 0)) (tCons (tVar 11) tNil)))) tNil))) (gTup w.K 2 (gCons (gSub (tVar 6) (tC (.str "dye")) rSetD) (gCons (gName 8) gNil))))) (tIfS (tTest (tOp (rEqU w.K) (tVar 10) (tC (.int 3)))) (tSeq (tAsg (tChain (rI0 fun i j => .bl (decide (i ≤ j))) (rI0 fun i j => .bl (decide (i ≤ j))) (tC (.int 0)) (tOp (rAddU w.K) (tSub w.K (tVar 6) (tC (.str "warm"))) (tVar 11)) (tC (.int 100))) (gName 12)) (tSeq (tIfS (tTest (tOp (rEqU w.K) (tOp (rEqU w.K) (tTold w.K w.P_law lam_law q_law w.e_VatError "VatError" (LO 3) (fun E1 => (tMeth w.c_Vat "heat" (sp_Vat_heat w) [] E1 (tVar 5) (tCons (tVar 11) tNil)))) (tC (.str "VatError"))) (tVar 12))) (tRet (tC (.bl false))) tNext) (sDPut (tVar 6) (tC (.str "warm")) (tOp (rAddU w.K) (tSub w.K (tVar 6) (tC (.str "warm"))) (tOp (rMulU w.K) (tVar 11) (tCB (fun xs H Q => (∃ i, xs = [.int i] ∧ Q (.int i) H) ∨ ∃ k, xs = [.bl k] ∧ Q (.int (if k then 1 else 0)) H) (tCons (tVar 12) tNil))))))) (tSeq (tAsg (tCB (rDictP w.K) (tCons (LiI.tListItems (tVar 6)) tNil)) (gName 13)) (tSeq (tAsg (tCall (sp_law_hour w) [] E (tCons (tVar 13) tNil)) (gName 14)) (tSeq (tIfS (tOr (tTest (tOp (rNeU w.K) (tMeth w.c_Vat "takes" (sp_Vat_takes w) [] E (tVar 5) tNil) (tVar 14))) (tTest (tOp (rNeU w.K) (tMeth w.c_Vat "go_hour" (sp_Vat_go_hour w) [] E (tVar 5) tNil) (tVar 14)))) (tRet (tC (.bl false))) tNext) (tPar 6 7 (tCons (tVar 13) (tCons (tOp (rAddU w.K) (tVar 7) (tVar 14)) tNil)))))))))) (tIfS (tOr (tTest (tOp (rNeU w.K) (tTup (tCons (tFld w.K (tVar 5) "dye") (tCons (tFld w.K (tVar 5) "warm") (tCons (tFld w.K (tVar 5) "cloth") (tCons (tMeth w.c_Vat "in_cloth" (sp_Vat_in_cloth w) [] E (tVar 5) tNil) (tCons (tMeth w.c_Vat "used" (sp_Vat_used w) [] E (tVar 5) tNil) tNil)))))) (tTup (tCons (tSub w.K (tVar 6) (tC (.str "dye"))) (tCons (tSub w.K (tVar 6) (tC (.str "warm"))) (tCons (tSub w.K (tVar 6) (tC (.str "cloth"))) (tCons (tSub w.K (tVar 6) (tC (.str "has"))) (tCons (tVar 7) tNil)))))))) (tTest (tOp (rNeU w.K) (tOp (rAddU w.K) (tVar 3) (tVar 8)) (tOp (rAddU w.K) (tFld w.K (tVar 5) "dye") (tMeth w.c_Vat "used" (sp_Vat_used w) [] E (tVar 5) tNil))))) (tRet (tC (.bl false))) tNext)))
def t_law_for1 (w : Wk) (E : XK) (LO : Nat → Addr → Addr → HO) : TS := (tSeq (tIfS (tAnd (tTest (tOp (fun x y H Q => y = .non ∧ Q (.bl (decide (x = .non))) H) (tVar 14) (tC .non))) (tTest (tOp (rI0 fun i j => .bl (decide (j ≤ i))) (tSub w.K (tVar 13) (tC (.str "has"))) (tVar 15)))) (tAsg (tVar 16) (gName 14)) tNext) (tDrop (tCall (sp_law_hour w) [] E (tCons (tVar 13) tNil))))
def t_law_for2 (w : Wk) (E : XK) (LO : Nat → Addr → Addr → HO) : TS := (tAsg (tOp (rAddU w.K) (tVar 20) (tLc (iList w.K (tVar 20)) (gName 21) tYes (tOp (rAddU w.K) (tVar 21) (tTup (tCons (tVar 19) tNil))) [21])) (gName 20))
def t_law_for3 (w : Wk) (E : XK) (LO : Nat → Addr → Addr → HO) : TS := (tSeq (tPar3 2 3 4 (tCons (tOp (rAddU w.K) (tC (.int 1)) (tCall (sp_law_roll w) [] E (tCons (tVar 1) (tCons (tC (.int 60)) tNil)))) (tCons (tCall (sp_law_roll w) [] E (tCons (tVar 1) (tCons (tC (.int 400)) tNil))) (tCons (tCall (sp_law_roll w) [] E (tCons (tVar 1) (tCons (tC (.int 101)) tNil))) tNil)))) (tSeq (tAsg (tTup (tCons (tMake w.c_Vat (sp_Vat_init w) [] E (tCons (tVar 2) (tCons (tVar 3) (tCons (tVar 4) tNil)))) (tCons (tDisp [((tC (.str "dye")), (tVar 3)), ((tC (.str "warm")), (tVar 4)), ((tC (.str "cloth")), (tC (.int 0))), ((tC (.str "has")), (tC (.int 0)))]) (tCons (tC (.int 0)) (tCons (tC (.int 0)) tNil))))) (gTup w.K 4 (gCons (gName 5) (gCons (gName 6) (gCons (gName 7) (gCons (gName 8) gNil)))))) (tSeq (tFor (iRng1 (tCons (tCall (sp_law_roll w) [] E (tCons (tVar 1) (tCons (tC (.int 41)) tNil))) tNil)) (gName 9) (tSeq (tAsg (tTup (tCons (tCall (sp_law_roll w) [] E (tCons (tVar 1) (tCons (tC (.int 8)) tNil))) (tCons (tOp (rI0 fun i j => .int (i - j)) (tCall (sp_law_roll w) [] E (tCons (tVar 1) (tCons (tC (.int 70)) tNil))) (tC (.int 5))) tNil))) (gTup w.K 2 (gCons (gName 10) (gCons (gName 11) gNil)))) (tSeq (tIfS (tTest (tOp (rEqU w.K) (tVar 10) (tC (.int 0)))) (tSeq (tAsg (tAndV (tOp (rEqU w.K) (tSub w.K (tVar 6) (tC (.str "cloth"))) (tC (.int 0))) (tChain (rI0 fun i j => .bl (decide (i ≤ j))) (rI0 fun i j => .bl (decide (i ≤ j))) (tC (.int 1)) (tVar 11) (tVar 2))) (gName 12)) (tSeq (tIfS (tTest (tOp (rEqU w.K) (tOp (rEqU w.K) (tTold w.K w.P_law lam_law q_law w.e_VatError "VatError" (LO 0) (fun E1 => (tMeth w.c_Vat "put" (sp_Vat_put w) [] E1 (tVar 5) (tCons (tVar 11) tNil)))) (tC (.str "VatError"))) (tVar 12))) (tRet (tC (.bl false))) tNext) (tAsg (tIf (tB (tVar 12)) (tTup (tCons (tVar 11) (tCons (tC (.int 0)) tNil))) (tTup (tCons (tSub w.K (tVar 6) (tC (.str "cloth"))) (tCons (tSub w.K (tVar 6) (tC (.str "has"))) tNil)))) (gTup w.K 2 (gCons (gSub (tVar 6) (tC (.str "cloth")) rSetD) (gCons (gSub (tVar 6) (tC (.str "has")) rSetD) gNil)))))) (tIfS (tTest (tOp (rEqU w.K) (tVar 10) (tC (.int 1)))) (tSeq (tAsg (tOp (rGtU w.K) (tSub w.K (tVar 6) (tC (.str "cloth"))) (tC (.int 0))) (gName 12)) (tSeq (tIfS (tTest (tOp (rNeU w.K) (tTold w.K w.P_law lam_law q_law w.e_VatError "VatError" (LO 1) (fun E1 => (tMeth w.c_Vat "take_out" (sp_Vat_take_out w) [] E1 (tVar 5) tNil))) (tIf (tB (tVar 12)) (tTup (tCons (tSub w.K (tVar 6) (tC (.str "cloth"))) (tCons (tSub w.K (tVar 6) (tC (.str "has"))) tNil))) (tC (.str "VatError"))))) (tRet (tC (.bl false))) tNext) (tAsg (tTup (tCons (tC (.int 0)) (tCons (tC (.int 0)) tNil))) (gTup w.K 2 (gCons (gSub (tVar 6) (tC (.str "cloth")) rSetD) (gCons (gSub (tVar 6) (tC (.str "has")) rSetD) gNil)))))) (tIfS (tTest (tOp (rEqU w.K) (tVar 10) (tC (.int 2)))) (tSeq (tIfS (tTest (tOp (rNeU w.K) (tOp (rEqU w.K) (tTold w.K w.P_law lam_law q_law w.e_VatError "VatError" (LO 2) (fun E1 => (tMeth w.c_Vat "fill" (sp_Vat_fill w) [] E1 (tVar 5) (tCons (tVar 11) tNil)))) (tC (.str "VatError"))) (tOp (rLtU w.K) (tVar 11) (tC (.int 1))))) (tRet (tC (.bl false))) tNext) (tAsg (tTup (tCons (tOp (rAddU w.K) (tSub w.K (tVar 6) (tC (.str "dye"))) (tCB (fun xs H Q => ∃ i j, xs = [.int i, .int j] ∧ Q (.int (if j > i then j else i)) H) (tCons (tC (.int 0)) (tCons (tVar 11) tNil)))) (tCons (tOp (rAddU w.K) (tVar 8) (tCB (fun xs H Q => ∃ i j, xs = [.int i, .int j] ∧ Q (.int (if j > i then j else i)) H) (tCons (tC (.int 0)) (tCons (tVar 11) tNil)))) tNil))) (gTup w.K 2 (gCons (gSub (tVar 6) (tC (.str "dye")) rSetD) (gCons (gName 8) gNil))))) (tIfS (tTest (tOp (rEqU w.K) (tVar 10) (tC (.int 3)))) (tSeq (tAsg (tChain (rI0 fun i j => .bl (decide (i ≤ j))) (rI0 fun i j => .bl (decide (i ≤ j))) (tC (.int 0)) (tOp (rAddU w.K) (tSub w.K (tVar 6) (tC (.str "warm"))) (tVar 11)) (tC (.int 100))) (gName 12)) (tSeq (tIfS (tTest (tOp (rEqU w.K) (tOp (rEqU w.K) (tTold w.K w.P_law lam_law q_law w.e_VatError "VatError" (LO 3) (fun E1 => (tMeth w.c_Vat "heat" (sp_Vat_heat w) [] E1 (tVar 5) (tCons (tVar 11) tNil)))) (tC (.str "VatError"))) (tVar 12))) (tRet (tC (.bl false))) tNext) (sDPut (tVar 6) (tC (.str "warm")) (tOp (rAddU w.K) (tSub w.K (tVar 6) (tC (.str "warm"))) (tOp (rMulU w.K) (tVar 11) (tCB (fun xs H Q => (∃ i, xs = [.int i] ∧ Q (.int i) H) ∨ ∃ k, xs = [.bl k] ∧ Q (.int (if k then 1 else 0)) H) (tCons (tVar 12) tNil))))))) (tSeq (tAsg (tCB (rDictP w.K) (tCons (LiI.tListItems (tVar 6)) tNil)) (gName 13)) (tSeq (tAsg (tCall (sp_law_hour w) [] E (tCons (tVar 13) tNil)) (gName 14)) (tSeq (tIfS (tOr (tTest (tOp (rNeU w.K) (tMeth w.c_Vat "takes" (sp_Vat_takes w) [] E (tVar 5) tNil) (tVar 14))) (tTest (tOp (rNeU w.K) (tMeth w.c_Vat "go_hour" (sp_Vat_go_hour w) [] E (tVar 5) tNil) (tVar 14)))) (tRet (tC (.bl false))) tNext) (tPar 6 7 (tCons (tVar 13) (tCons (tOp (rAddU w.K) (tVar 7) (tVar 14)) tNil)))))))))) (tIfS (tOr (tTest (tOp (rNeU w.K) (tTup (tCons (tFld w.K (tVar 5) "dye") (tCons (tFld w.K (tVar 5) "warm") (tCons (tFld w.K (tVar 5) "cloth") (tCons (tMeth w.c_Vat "in_cloth" (sp_Vat_in_cloth w) [] E (tVar 5) tNil) (tCons (tMeth w.c_Vat "used" (sp_Vat_used w) [] E (tVar 5) tNil) tNil)))))) (tTup (tCons (tSub w.K (tVar 6) (tC (.str "dye"))) (tCons (tSub w.K (tVar 6) (tC (.str "warm"))) (tCons (tSub w.K (tVar 6) (tC (.str "cloth"))) (tCons (tSub w.K (tVar 6) (tC (.str "has"))) (tCons (tVar 7) tNil)))))))) (tTest (tOp (rNeU w.K) (tOp (rAddU w.K) (tVar 3) (tVar 8)) (tOp (rAddU w.K) (tFld w.K (tVar 5) "dye") (tMeth w.c_Vat "used" (sp_Vat_used w) [] E (tVar 5) tNil))))) (tRet (tC (.bl false))) tNext)))) (tSeq (tIfS (tTest (tOp (rGtU w.K) (tSub w.K (tVar 6) (tC (.str "cloth"))) (tC (.int 0)))) (tSeq (tPar3 15 13 14 (tCons (tCall (sp_law_roll w) [] E (tCons (tVar 1) (tCons (tC (.int 300)) tNil))) (tCons (tCB (rDictP w.K) (tCons (LiI.tListItems (tVar 6)) tNil)) (tCons (tC .non) tNil)))) (tSeq (tFor (iRng1 (tCons (tC (.int 501)) tNil)) (gName 16) (tSeq (tIfS (tAnd (tTest (tOp (fun x y H Q => y = .non ∧ Q (.bl (decide (x = .non))) H) (tVar 14) (tC .non))) (tTest (tOp (rI0 fun i j => .bl (decide (j ≤ i))) (tSub w.K (tVar 13) (tC (.str "has"))) (tVar 15)))) (tAsg (tVar 16) (gName 14)) tNext) (tDrop (tCall (sp_law_hour w) [] E (tCons (tVar 13) tNil))))) (tIfS (tOr (tTest (tOp (rNeU w.K) (tMeth w.c_Vat "hours_for" (sp_Vat_hours_for w) [] E (tVar 5) (tCons (tVar 15) tNil)) (tVar 14))) (tTest (tOp (rNeU w.K) (tFld w.K (tVar 5) "dye") (tSub w.K (tVar 6) (tC (.str "dye")))))) (tRet (tC (.bl false))) tNext))) (tIfS (tTest (tOp (rNeU w.K) (tTold w.K w.P_law lam_law q_law w.e_VatError "VatError" (LO 4) (fun E1 => (tMeth w.c_Vat "hours_for" (sp_Vat_hours_for w) [] E1 (tVar 5) (tCons (tC (.int 1)) tNil)))) (tC (.str "VatError")))) (tRet (tC (.bl false))) tNext)) (tSeq (tAsg (tTup (tCons (tLc (iRng1 (tCons (tCall (sp_law_roll w) [] E (tCons (tVar 1) (tCons (tC (.int 7)) tNil))) tNil)) (gName 19) tYes (tOp (rAddU w.K) (tC (.int 1)) (tCall (sp_law_roll w) [] (fun _ _ _ => False) (tCons (tVar 1) (tCons (tC (.int 30)) tNil)))) [19]) (tCons (tOp (rAddU w.K) (tC (.int 1)) (tCall (sp_law_roll w) [] E (tCons (tVar 1) (tCons (tC (.int 80)) tNil)))) tNil))) (gTup w.K 2 (gCons (gName 17) (gCons (gName 18) gNil)))) (tSeq (tAsg (tLst (tCons (tTup tNil) tNil)) (gName 20)) (tSeq (tFor (iRng1 (tCons (tCB (rLenU w.K) (tCons (tVar 17) tNil)) tNil)) (gName 19) (tAsg (tOp (rAddU w.K) (tVar 20) (tLc (iList w.K (tVar 20)) (gName 21) tYes (tOp (rAddU w.K) (tVar 21) (tTup (tCons (tVar 19) tNil))) [21])) (gName 20))) (tSeq (tAsg (tCB (rSortB w.K) (tCons (tLc (iList w.K (tVar 20)) (gName 21) (tTest (tOp (rI0 fun i j => .bl (decide (j ≤ i))) (tCB (rSum w.K) (tCons (tLc (iTup w.K (tVar 21)) (gName 19) tYes (tSub w.K (tVar 17) (tVar 19)) [19]) tNil)) (tVar 18))) (tTup (tCons (tCB (rLenU w.K) (tCons (tVar 21) tNil)) (tCons (tVar 21) tNil))) [21]) tNil)) (gName 12)) (tIfS (tTest (tOp (rNeU w.K) (tCall (sp_vats_for w) [] E (tCons (tVar 18) (tCons (tVar 17) tNil))) (tIf (tTest (tOp (rNeU w.K) (tVar 12) (tLst tNil))) (tSub w.K (tSub w.K (tVar 12) (tC (.int 0))) (tC (.int 1))) (tC .non)))) (tRet (tC (.bl false))) tNext)))))))))
def t_law (w : Wk) (E : XK) (LO : Nat → Addr → Addr → HO) : TS := (tSeq (tFor (iList w.K (tCall (sp_law_rounds w) [] E (tCons (tVar 0) (tCons (tC (.int 1)) tNil)))) (gName 1) (tSeq (tPar3 2 3 4 (tCons (tOp (rAddU w.K) (tC (.int 1)) (tCall (sp_law_roll w) [] E (tCons (tVar 1) (tCons (tC (.int 60)) tNil)))) (tCons (tCall (sp_law_roll w) [] E (tCons (tVar 1) (tCons (tC (.int 400)) tNil))) (tCons (tCall (sp_law_roll w) [] E (tCons (tVar 1) (tCons (tC (.int 101)) tNil))) tNil)))) (tSeq (tAsg (tTup (tCons (tMake w.c_Vat (sp_Vat_init w) [] E (tCons (tVar 2) (tCons (tVar 3) (tCons (tVar 4) tNil)))) (tCons (tDisp [((tC (.str "dye")), (tVar 3)), ((tC (.str "warm")), (tVar 4)), ((tC (.str "cloth")), (tC (.int 0))), ((tC (.str "has")), (tC (.int 0)))]) (tCons (tC (.int 0)) (tCons (tC (.int 0)) tNil))))) (gTup w.K 4 (gCons (gName 5) (gCons (gName 6) (gCons (gName 7) (gCons (gName 8) gNil)))))) (tSeq (tFor (iRng1 (tCons (tCall (sp_law_roll w) [] E (tCons (tVar 1) (tCons (tC (.int 41)) tNil))) tNil)) (gName 9) (tSeq (tAsg (tTup (tCons (tCall (sp_law_roll w) [] E (tCons (tVar 1) (tCons (tC (.int 8)) tNil))) (tCons (tOp (rI0 fun i j => .int (i - j)) (tCall (sp_law_roll w) [] E (tCons (tVar 1) (tCons (tC (.int 70)) tNil))) (tC (.int 5))) tNil))) (gTup w.K 2 (gCons (gName 10) (gCons (gName 11) gNil)))) (tSeq (tIfS (tTest (tOp (rEqU w.K) (tVar 10) (tC (.int 0)))) (tSeq (tAsg (tAndV (tOp (rEqU w.K) (tSub w.K (tVar 6) (tC (.str "cloth"))) (tC (.int 0))) (tChain (rI0 fun i j => .bl (decide (i ≤ j))) (rI0 fun i j => .bl (decide (i ≤ j))) (tC (.int 1)) (tVar 11) (tVar 2))) (gName 12)) (tSeq (tIfS (tTest (tOp (rEqU w.K) (tOp (rEqU w.K) (tTold w.K w.P_law lam_law q_law w.e_VatError "VatError" (LO 0) (fun E1 => (tMeth w.c_Vat "put" (sp_Vat_put w) [] E1 (tVar 5) (tCons (tVar 11) tNil)))) (tC (.str "VatError"))) (tVar 12))) (tRet (tC (.bl false))) tNext) (tAsg (tIf (tB (tVar 12)) (tTup (tCons (tVar 11) (tCons (tC (.int 0)) tNil))) (tTup (tCons (tSub w.K (tVar 6) (tC (.str "cloth"))) (tCons (tSub w.K (tVar 6) (tC (.str "has"))) tNil)))) (gTup w.K 2 (gCons (gSub (tVar 6) (tC (.str "cloth")) rSetD) (gCons (gSub (tVar 6) (tC (.str "has")) rSetD) gNil)))))) (tIfS (tTest (tOp (rEqU w.K) (tVar 10) (tC (.int 1)))) (tSeq (tAsg (tOp (rGtU w.K) (tSub w.K (tVar 6) (tC (.str "cloth"))) (tC (.int 0))) (gName 12)) (tSeq (tIfS (tTest (tOp (rNeU w.K) (tTold w.K w.P_law lam_law q_law w.e_VatError "VatError" (LO 1) (fun E1 => (tMeth w.c_Vat "take_out" (sp_Vat_take_out w) [] E1 (tVar 5) tNil))) (tIf (tB (tVar 12)) (tTup (tCons (tSub w.K (tVar 6) (tC (.str "cloth"))) (tCons (tSub w.K (tVar 6) (tC (.str "has"))) tNil))) (tC (.str "VatError"))))) (tRet (tC (.bl false))) tNext) (tAsg (tTup (tCons (tC (.int 0)) (tCons (tC (.int 0)) tNil))) (gTup w.K 2 (gCons (gSub (tVar 6) (tC (.str "cloth")) rSetD) (gCons (gSub (tVar 6) (tC (.str "has")) rSetD) gNil)))))) (tIfS (tTest (tOp (rEqU w.K) (tVar 10) (tC (.int 2)))) (tSeq (tIfS (tTest (tOp (rNeU w.K) (tOp (rEqU w.K) (tTold w.K w.P_law lam_law q_law w.e_VatError "VatError" (LO 2) (fun E1 => (tMeth w.c_Vat "fill" (sp_Vat_fill w) [] E1 (tVar 5) (tCons (tVar 11) tNil)))) (tC (.str "VatError"))) (tOp (rLtU w.K) (tVar 11) (tC (.int 1))))) (tRet (tC (.bl false))) tNext) (tAsg (tTup (tCons (tOp (rAddU w.K) (tSub w.K (tVar 6) (tC (.str "dye"))) (tCB (fun xs H Q => ∃ i j, xs = [.int i, .int j] ∧ Q (.int (if j > i then j else i)) H) (tCons (tC (.int 0)) (tCons (tVar 11) tNil)))) (tCons (tOp (rAddU w.K) (tVar 8) (tCB (fun xs H Q => ∃ i j, xs = [.int i, .int j] ∧ Q (.int (if j > i then j else i)) H) (tCons (tC (.int 0)) (tCons (tVar 11) tNil)))) tNil))) (gTup w.K 2 (gCons (gSub (tVar 6) (tC (.str "dye")) rSetD) (gCons (gName 8) gNil))))) (tIfS (tTest (tOp (rEqU w.K) (tVar 10) (tC (.int 3)))) (tSeq (tAsg (tChain (rI0 fun i j => .bl (decide (i ≤ j))) (rI0 fun i j => .bl (decide (i ≤ j))) (tC (.int 0)) (tOp (rAddU w.K) (tSub w.K (tVar 6) (tC (.str "warm"))) (tVar 11)) (tC (.int 100))) (gName 12)) (tSeq (tIfS (tTest (tOp (rEqU w.K) (tOp (rEqU w.K) (tTold w.K w.P_law lam_law q_law w.e_VatError "VatError" (LO 3) (fun E1 => (tMeth w.c_Vat "heat" (sp_Vat_heat w) [] E1 (tVar 5) (tCons (tVar 11) tNil)))) (tC (.str "VatError"))) (tVar 12))) (tRet (tC (.bl false))) tNext) (sDPut (tVar 6) (tC (.str "warm")) (tOp (rAddU w.K) (tSub w.K (tVar 6) (tC (.str "warm"))) (tOp (rMulU w.K) (tVar 11) (tCB (fun xs H Q => (∃ i, xs = [.int i] ∧ Q (.int i) H) ∨ ∃ k, xs = [.bl k] ∧ Q (.int (if k then 1 else 0)) H) (tCons (tVar 12) tNil))))))) (tSeq (tAsg (tCB (rDictP w.K) (tCons (LiI.tListItems (tVar 6)) tNil)) (gName 13)) (tSeq (tAsg (tCall (sp_law_hour w) [] E (tCons (tVar 13) tNil)) (gName 14)) (tSeq (tIfS (tOr (tTest (tOp (rNeU w.K) (tMeth w.c_Vat "takes" (sp_Vat_takes w) [] E (tVar 5) tNil) (tVar 14))) (tTest (tOp (rNeU w.K) (tMeth w.c_Vat "go_hour" (sp_Vat_go_hour w) [] E (tVar 5) tNil) (tVar 14)))) (tRet (tC (.bl false))) tNext) (tPar 6 7 (tCons (tVar 13) (tCons (tOp (rAddU w.K) (tVar 7) (tVar 14)) tNil)))))))))) (tIfS (tOr (tTest (tOp (rNeU w.K) (tTup (tCons (tFld w.K (tVar 5) "dye") (tCons (tFld w.K (tVar 5) "warm") (tCons (tFld w.K (tVar 5) "cloth") (tCons (tMeth w.c_Vat "in_cloth" (sp_Vat_in_cloth w) [] E (tVar 5) tNil) (tCons (tMeth w.c_Vat "used" (sp_Vat_used w) [] E (tVar 5) tNil) tNil)))))) (tTup (tCons (tSub w.K (tVar 6) (tC (.str "dye"))) (tCons (tSub w.K (tVar 6) (tC (.str "warm"))) (tCons (tSub w.K (tVar 6) (tC (.str "cloth"))) (tCons (tSub w.K (tVar 6) (tC (.str "has"))) (tCons (tVar 7) tNil)))))))) (tTest (tOp (rNeU w.K) (tOp (rAddU w.K) (tVar 3) (tVar 8)) (tOp (rAddU w.K) (tFld w.K (tVar 5) "dye") (tMeth w.c_Vat "used" (sp_Vat_used w) [] E (tVar 5) tNil))))) (tRet (tC (.bl false))) tNext)))) (tSeq (tIfS (tTest (tOp (rGtU w.K) (tSub w.K (tVar 6) (tC (.str "cloth"))) (tC (.int 0)))) (tSeq (tPar3 15 13 14 (tCons (tCall (sp_law_roll w) [] E (tCons (tVar 1) (tCons (tC (.int 300)) tNil))) (tCons (tCB (rDictP w.K) (tCons (LiI.tListItems (tVar 6)) tNil)) (tCons (tC .non) tNil)))) (tSeq (tFor (iRng1 (tCons (tC (.int 501)) tNil)) (gName 16) (tSeq (tIfS (tAnd (tTest (tOp (fun x y H Q => y = .non ∧ Q (.bl (decide (x = .non))) H) (tVar 14) (tC .non))) (tTest (tOp (rI0 fun i j => .bl (decide (j ≤ i))) (tSub w.K (tVar 13) (tC (.str "has"))) (tVar 15)))) (tAsg (tVar 16) (gName 14)) tNext) (tDrop (tCall (sp_law_hour w) [] E (tCons (tVar 13) tNil))))) (tIfS (tOr (tTest (tOp (rNeU w.K) (tMeth w.c_Vat "hours_for" (sp_Vat_hours_for w) [] E (tVar 5) (tCons (tVar 15) tNil)) (tVar 14))) (tTest (tOp (rNeU w.K) (tFld w.K (tVar 5) "dye") (tSub w.K (tVar 6) (tC (.str "dye")))))) (tRet (tC (.bl false))) tNext))) (tIfS (tTest (tOp (rNeU w.K) (tTold w.K w.P_law lam_law q_law w.e_VatError "VatError" (LO 4) (fun E1 => (tMeth w.c_Vat "hours_for" (sp_Vat_hours_for w) [] E1 (tVar 5) (tCons (tC (.int 1)) tNil)))) (tC (.str "VatError")))) (tRet (tC (.bl false))) tNext)) (tSeq (tAsg (tTup (tCons (tLc (iRng1 (tCons (tCall (sp_law_roll w) [] E (tCons (tVar 1) (tCons (tC (.int 7)) tNil))) tNil)) (gName 19) tYes (tOp (rAddU w.K) (tC (.int 1)) (tCall (sp_law_roll w) [] (fun _ _ _ => False) (tCons (tVar 1) (tCons (tC (.int 30)) tNil)))) [19]) (tCons (tOp (rAddU w.K) (tC (.int 1)) (tCall (sp_law_roll w) [] E (tCons (tVar 1) (tCons (tC (.int 80)) tNil)))) tNil))) (gTup w.K 2 (gCons (gName 17) (gCons (gName 18) gNil)))) (tSeq (tAsg (tLst (tCons (tTup tNil) tNil)) (gName 20)) (tSeq (tFor (iRng1 (tCons (tCB (rLenU w.K) (tCons (tVar 17) tNil)) tNil)) (gName 19) (tAsg (tOp (rAddU w.K) (tVar 20) (tLc (iList w.K (tVar 20)) (gName 21) tYes (tOp (rAddU w.K) (tVar 21) (tTup (tCons (tVar 19) tNil))) [21])) (gName 20))) (tSeq (tAsg (tCB (rSortB w.K) (tCons (tLc (iList w.K (tVar 20)) (gName 21) (tTest (tOp (rI0 fun i j => .bl (decide (j ≤ i))) (tCB (rSum w.K) (tCons (tLc (iTup w.K (tVar 21)) (gName 19) tYes (tSub w.K (tVar 17) (tVar 19)) [19]) tNil)) (tVar 18))) (tTup (tCons (tCB (rLenU w.K) (tCons (tVar 21) tNil)) (tCons (tVar 21) tNil))) [21]) tNil)) (gName 12)) (tIfS (tTest (tOp (rNeU w.K) (tCall (sp_vats_for w) [] E (tCons (tVar 18) (tCons (tVar 17) tNil))) (tIf (tTest (tOp (rNeU w.K) (tVar 12) (tLst tNil))) (tSub w.K (tSub w.K (tVar 12) (tC (.int 0))) (tC (.int 1))) (tC .non)))) (tRet (tC (.bl false))) tNext)))))))))) (tRet (tCall (sp_law_plain w) [] E tNil)))
def N_law : List Str := ["script", "dice", "pounds", "dye", "warm", "vat", "own", "used", "filled", "step", "sort", "number", "good", "copy", "due", "wish", "hours", "sizes", "need", "k", "rows", "row"]
end K3

/-! text K2 -/
namespace K3
open Dy L2 PyProof.Rows PySem.Spec PySem
def clsB : Stmt → List Stmt
  | .ClassDef (body := b) .. =>
          b
  | _ => []
def top (i : Nat) : Stmt := PySem.Challenge.pw_dyestack_k03_vats_that_weaken.main.body.getD i (.Pass ⟨0, 0, 0, 0⟩)
def mth (i j : Nat) : Stmt := (clsB (top i)).getD j (.Pass ⟨0, 0, 0, 0⟩)
abbrev s_Vat_init : Stmt := mth 5 0
abbrev s_Vat_takes : Stmt := mth 5 1
abbrev s_Vat_in_cloth : Stmt := mth 5 2
abbrev s_Vat_put : Stmt := mth 5 3
abbrev s_Vat_take_out : Stmt := mth 5 4
abbrev s_Vat_fill : Stmt := mth 5 5
abbrev s_Vat_heat : Stmt := mth 5 6
abbrev s_Vat_go_hour : Stmt := mth 5 7
abbrev s_Vat_hours_for : Stmt := mth 5 8
abbrev s_Vat_used : Stmt := mth 5 9
abbrev s_vats_for : Stmt := top 6
abbrev s_law_dice : Stmt := top 8
abbrev s_law_roll : Stmt := top 9
abbrev s_law_rounds : Stmt := top 10
abbrev s_law_told : Stmt := top 11
abbrev s_law_hour : Stmt := top 12
abbrev s_law_plain : Stmt := top 13
abbrev s_law : Stmt := top 14
theorem sc_Vat_init : FnScope N_Vat_init ["self", "pounds", "dye", "warm"] (defScope s_Vat_init) := ⟨rfl, rfl, rfl, by decide +kernel, rfl, by decide +kernel, by decide +kernel⟩
theorem sc_Vat_takes : FnScope N_Vat_takes ["self"] (defScope s_Vat_takes) := ⟨rfl, rfl, rfl, by decide +kernel, rfl, by decide +kernel, by decide +kernel⟩
theorem sc_Vat_in_cloth : FnScope N_Vat_in_cloth ["self"] (defScope s_Vat_in_cloth) := ⟨rfl, rfl, rfl, by decide +kernel, rfl, by decide +kernel, by decide +kernel⟩
theorem sc_Vat_put : FnScope N_Vat_put ["self", "pounds"] (defScope s_Vat_put) := ⟨rfl, rfl, rfl, by decide +kernel, rfl, by decide +kernel, by decide +kernel⟩
theorem sc_Vat_take_out : FnScope N_Vat_take_out ["self"] (defScope s_Vat_take_out) := ⟨rfl, rfl, rfl, by decide +kernel, rfl, by decide +kernel, by decide +kernel⟩
theorem sc_Vat_fill : FnScope N_Vat_fill ["self", "ounces"] (defScope s_Vat_fill) := ⟨rfl, rfl, rfl, by decide +kernel, rfl, by decide +kernel, by decide +kernel⟩
theorem sc_Vat_heat : FnScope N_Vat_heat ["self", "degrees"] (defScope s_Vat_heat) := ⟨rfl, rfl, rfl, by decide +kernel, rfl, by decide +kernel, by decide +kernel⟩
theorem sc_Vat_go_hour : FnScope N_Vat_go_hour ["self"] (defScope s_Vat_go_hour) := ⟨rfl, rfl, rfl, by decide +kernel, rfl, by decide +kernel, by decide +kernel⟩
theorem sc_Vat_hours_for : FnScope N_Vat_hours_for ["self", "ounces"] (defScope s_Vat_hours_for) := ⟨rfl, rfl, rfl, by decide +kernel, rfl, by decide +kernel, by decide +kernel⟩
theorem sc_Vat_used : FnScope N_Vat_used ["self"] (defScope s_Vat_used) := ⟨rfl, rfl, rfl, by decide +kernel, rfl, by decide +kernel, by decide +kernel⟩
theorem sc_vats_for : FnScope N_vats_for ["pounds", "sizes"] (defScope s_vats_for) := ⟨rfl, rfl, rfl, by decide +kernel, rfl, by decide +kernel, by decide +kernel⟩
theorem sc_law_dice : FnScope N_law_dice ["cell"] (defScope s_law_dice) := ⟨rfl, rfl, rfl, by decide +kernel, rfl, by decide +kernel, by decide +kernel⟩
theorem sc_law_roll : FnScope N_law_roll ["dice", "many"] (defScope s_law_roll) := ⟨rfl, rfl, rfl, by decide +kernel, rfl, by decide +kernel, by decide +kernel⟩
theorem sc_law_rounds : FnScope N_law_rounds ["script", "most"] (defScope s_law_rounds) := ⟨rfl, rfl, rfl, by decide +kernel, rfl, by decide +kernel, by decide +kernel⟩
def N_law_told : List Str := ["what"]
theorem sc_law_told : FnScope N_law_told ["what"] (defScope s_law_told) := ⟨rfl, rfl, rfl, by decide +kernel, rfl, by decide +kernel, by decide +kernel⟩
theorem sc_law_hour : FnScope N_law_hour ["own"] (defScope s_law_hour) := ⟨rfl, rfl, rfl, by decide +kernel, rfl, by decide +kernel, by decide +kernel⟩
theorem sc_law_plain : FnScope N_law_plain [] (defScope s_law_plain) := ⟨rfl, rfl, rfl, by decide +kernel, rfl, by decide +kernel, by decide +kernel⟩
theorem sc_law : FnScope N_law ["script"] (defScope s_law) := ⟨rfl, rfl, rfl, by decide +kernel, rfl, by decide +kernel, by decide +kernel⟩
/-- where the defs stand -/
structure Ad where
  a_Vat_init : Addr
  f_Vat_init : FuncData
  a_Vat_takes : Addr
  f_Vat_takes : FuncData
  a_Vat_in_cloth : Addr
  f_Vat_in_cloth : FuncData
  a_Vat_put : Addr
  f_Vat_put : FuncData
  a_Vat_take_out : Addr
  f_Vat_take_out : FuncData
  a_Vat_fill : Addr
  f_Vat_fill : FuncData
  a_Vat_heat : Addr
  f_Vat_heat : FuncData
  a_Vat_go_hour : Addr
  f_Vat_go_hour : FuncData
  a_Vat_hours_for : Addr
  f_Vat_hours_for : FuncData
  a_Vat_used : Addr
  f_Vat_used : FuncData
  a_vats_for : Addr
  f_vats_for : FuncData
  a_law_dice : Addr
  f_law_dice : FuncData
  a_law_roll : Addr
  f_law_roll : FuncData
  a_law_rounds : Addr
  f_law_rounds : FuncData
  a_law_told : Addr
  f_law_told : FuncData
  a_law_hour : Addr
  f_law_hour : FuncData
  a_law_plain : Addr
  f_law_plain : FuncData
  a_law : Addr
  f_law : FuncData
  k_Vat_in_cloth : Addr
  k_Vat_used : Addr
  k_vats_for : Addr
  k_law_plain : Addr
  k_law : Addr
/-- what the head tells -/
structure Fx (mg : Str → Option Value) (base : Heap) (w : Wk) (a : Ad) : Prop where
  wf : Wf3 w
  i_MOST_POUNDS : ∃ u, mg "MOST_POUNDS" = some u ∧ RelV (.int 200) u
  n_abs : mg "abs" = none
  n_dict : mg "dict" = none
  n_int : mg "int" = none
  n_len : mg "len" = none
  n_list : mg "list" = none
  n_max : mg "max" = none
  n_min : mg "min" = none
  n_range : mg "range" = none
  n_sorted : mg "sorted" = none
  n_sum : mg "sum" = none
  told : ToldD w.K mg "_law_told" N_law_told (defScope s_law_told) a.a_law_told w.e_VatError "VatError"
  eg_VatError : mg "VatError" = some (.ref w.e_VatError)
  ex_VatError : PySem.W.excIn w.K w.e_VatError [.type "ValueError", .type "Exception", .type "BaseException", .type "object"] "ValueError.__new__" = true
  ek_VatError : PySem.W.keepIn w.K (.ref w.e_VatError) = true
  eb_VatError : PySem.W.subIn w.K (.ref w.e_VatError) (.type "BaseException") = some true
  et_VatError : PySem.W.typeIn w.K (.ref w.e_VatError) = some (.type "type")
  exm : PySem.W.exmOne w.K (.ref w.e_VatError) (.ref w.e_VatError) = some true
  c_Vat : mg "Vat" = some (.ref w.c_Vat)
  cls_Vat : Cls w.K w.c_Vat
  m_Vat : Mk w.K w.c_Vat a.a_Vat_init
  F_Vat_init : FunD w.K "__init__" "Vat.__init__" (defArgs s_Vat_init) (defBody s_Vat_init) (defScope s_Vat_init) [] [] a.a_Vat_init a.f_Vat_init
  b_Vat_init : Binds w.K a.f_Vat_init ["self", "pounds", "dye", "warm"] []
  F_Vat_takes : FunD w.K "takes" "Vat.takes" (defArgs s_Vat_takes) (defBody s_Vat_takes) (defScope s_Vat_takes) [] [] a.a_Vat_takes a.f_Vat_takes
  b_Vat_takes : Binds w.K a.f_Vat_takes ["self"] []
  meth_Vat_takes : Meth w.K w.c_Vat "takes" a.a_Vat_takes
  F_Vat_in_cloth : FunD w.K "in_cloth" "Vat.in_cloth" (defArgs s_Vat_in_cloth) (defBody s_Vat_in_cloth) (defScope s_Vat_in_cloth) [] [] a.a_Vat_in_cloth a.f_Vat_in_cloth
  b_Vat_in_cloth : Binds w.K a.f_Vat_in_cloth ["self"] []
  meth_Vat_in_cloth : Meth w.K w.c_Vat "in_cloth" a.a_Vat_in_cloth
  F_Vat_put : FunD w.K "put" "Vat.put" (defArgs s_Vat_put) (defBody s_Vat_put) (defScope s_Vat_put) [] [] a.a_Vat_put a.f_Vat_put
  b_Vat_put : Binds w.K a.f_Vat_put ["self", "pounds"] []
  meth_Vat_put : Meth w.K w.c_Vat "put" a.a_Vat_put
  F_Vat_take_out : FunD w.K "take_out" "Vat.take_out" (defArgs s_Vat_take_out) (defBody s_Vat_take_out) (defScope s_Vat_take_out) [] [] a.a_Vat_take_out a.f_Vat_take_out
  b_Vat_take_out : Binds w.K a.f_Vat_take_out ["self"] []
  meth_Vat_take_out : Meth w.K w.c_Vat "take_out" a.a_Vat_take_out
  F_Vat_fill : FunD w.K "fill" "Vat.fill" (defArgs s_Vat_fill) (defBody s_Vat_fill) (defScope s_Vat_fill) [] [] a.a_Vat_fill a.f_Vat_fill
  b_Vat_fill : Binds w.K a.f_Vat_fill ["self", "ounces"] []
  meth_Vat_fill : Meth w.K w.c_Vat "fill" a.a_Vat_fill
  F_Vat_heat : FunD w.K "heat" "Vat.heat" (defArgs s_Vat_heat) (defBody s_Vat_heat) (defScope s_Vat_heat) [] [] a.a_Vat_heat a.f_Vat_heat
  b_Vat_heat : Binds w.K a.f_Vat_heat ["self", "degrees"] []
  meth_Vat_heat : Meth w.K w.c_Vat "heat" a.a_Vat_heat
  F_Vat_go_hour : FunD w.K "go_hour" "Vat.go_hour" (defArgs s_Vat_go_hour) (defBody s_Vat_go_hour) (defScope s_Vat_go_hour) [] [] a.a_Vat_go_hour a.f_Vat_go_hour
  b_Vat_go_hour : Binds w.K a.f_Vat_go_hour ["self"] []
  meth_Vat_go_hour : Meth w.K w.c_Vat "go_hour" a.a_Vat_go_hour
  F_Vat_hours_for : FunD w.K "hours_for" "Vat.hours_for" (defArgs s_Vat_hours_for) (defBody s_Vat_hours_for) (defScope s_Vat_hours_for) [] [] a.a_Vat_hours_for a.f_Vat_hours_for
  b_Vat_hours_for : Binds w.K a.f_Vat_hours_for ["self", "ounces"] []
  meth_Vat_hours_for : Meth w.K w.c_Vat "hours_for" a.a_Vat_hours_for
  F_Vat_used : FunD w.K "used" "Vat.used" (defArgs s_Vat_used) (defBody s_Vat_used) (defScope s_Vat_used) [] [] a.a_Vat_used a.f_Vat_used
  b_Vat_used : Binds w.K a.f_Vat_used ["self"] []
  meth_Vat_used : Meth w.K w.c_Vat "used" a.a_Vat_used
  F_vats_for : FunD w.K "vats_for" "vats_for" (defArgs s_vats_for) (defBody s_vats_for) (defScope s_vats_for) [] [] a.a_vats_for a.f_vats_for
  b_vats_for : Binds w.K a.f_vats_for ["pounds", "sizes"] []
  g_vats_for : mg "vats_for" = some (.ref a.a_vats_for)
  k_vats_for : PySem.W.keepIn w.K (.ref a.a_vats_for) = true
  F_law_dice : FunD w.K "_law_dice" "_law_dice" (defArgs s_law_dice) (defBody s_law_dice) (defScope s_law_dice) [] [] a.a_law_dice a.f_law_dice
  b_law_dice : Binds w.K a.f_law_dice ["cell"] []
  g_law_dice : mg "_law_dice" = some (.ref a.a_law_dice)
  k_law_dice : PySem.W.keepIn w.K (.ref a.a_law_dice) = true
  F_law_roll : FunD w.K "_law_roll" "_law_roll" (defArgs s_law_roll) (defBody s_law_roll) (defScope s_law_roll) [] [] a.a_law_roll a.f_law_roll
  b_law_roll : Binds w.K a.f_law_roll ["dice", "many"] []
  g_law_roll : mg "_law_roll" = some (.ref a.a_law_roll)
  k_law_roll : PySem.W.keepIn w.K (.ref a.a_law_roll) = true
  F_law_rounds : FunD w.K "_law_rounds" "_law_rounds" (defArgs s_law_rounds) (defBody s_law_rounds) (defScope s_law_rounds) [] [] a.a_law_rounds a.f_law_rounds
  b_law_rounds : Binds w.K a.f_law_rounds ["script", "most"] []
  g_law_rounds : mg "_law_rounds" = some (.ref a.a_law_rounds)
  k_law_rounds : PySem.W.keepIn w.K (.ref a.a_law_rounds) = true
  F_law_told : FunD w.K "_law_told" "_law_told" (defArgs s_law_told) (defBody s_law_told) (defScope s_law_told) [] [] a.a_law_told a.f_law_told
  b_law_told : Binds w.K a.f_law_told ["what"] []
  g_law_told : mg "_law_told" = some (.ref a.a_law_told)
  k_law_told : PySem.W.keepIn w.K (.ref a.a_law_told) = true
  F_law_hour : FunD w.K "_law_hour" "_law_hour" (defArgs s_law_hour) (defBody s_law_hour) (defScope s_law_hour) [] [] a.a_law_hour a.f_law_hour
  b_law_hour : Binds w.K a.f_law_hour ["own"] []
  g_law_hour : mg "_law_hour" = some (.ref a.a_law_hour)
  k_law_hour : PySem.W.keepIn w.K (.ref a.a_law_hour) = true
  F_law_plain : FunD w.K "_law_plain" "_law_plain" (defArgs s_law_plain) (defBody s_law_plain) (defScope s_law_plain) [] [] a.a_law_plain a.f_law_plain
  b_law_plain : Binds w.K a.f_law_plain [] []
  g_law_plain : mg "_law_plain" = some (.ref a.a_law_plain)
  k_law_plain : PySem.W.keepIn w.K (.ref a.a_law_plain) = true
  F_law : FunD w.K "law" "law" (defArgs s_law) (defBody s_law) (defScope s_law) [] [] a.a_law a.f_law
  b_law : Binds w.K a.f_law ["script"] []
  g_law : mg "law" = some (.ref a.a_law)
  k_law : PySem.W.keepIn w.K (.ref a.a_law) = true
  tb_Vat_in_cloth : LamX.TabB base mg a.k_Vat_in_cloth w.P_Vat_in_cloth
  at_Vat_in_cloth : a.a_Vat_in_cloth = He.fAd w.K ("Vat", some "in_cloth")
  kc_Vat_in_cloth : a.k_Vat_in_cloth = He.codeOf w.K ("Vat", some "in_cloth")
  tb_Vat_used : LamX.TabB base mg a.k_Vat_used w.P_Vat_used
  at_Vat_used : a.a_Vat_used = He.fAd w.K ("Vat", some "used")
  kc_Vat_used : a.k_Vat_used = He.codeOf w.K ("Vat", some "used")
  tb_vats_for : LamX.TabB base mg a.k_vats_for w.P_vats_for
  at_vats_for : a.a_vats_for = He.fAd w.K ("vats_for", none)
  kc_vats_for : a.k_vats_for = He.codeOf w.K ("vats_for", none)
  tb_law_plain : LamX.TabB base mg a.k_law_plain w.P_law_plain
  at_law_plain : a.a_law_plain = He.fAd w.K ("_law_plain", none)
  kc_law_plain : a.k_law_plain = He.codeOf w.K ("_law_plain", none)
  tb_law : LamX.TabB base mg a.k_law w.P_law
  at_law : a.a_law = He.fAd w.K ("law", none)
  kc_law : a.k_law = He.codeOf w.K ("law", none)
end K3

/-! text K2_Vat_init -/
namespace K3
open Dy L2 PyProof.Rows PySem.Spec PySem
section
variable {P : Program} {w0 : World} {mg : Str → Option Value} {base : Heap} {w : Wk} {a : Ad}
theorem d_Vat_init (G : Fx mg base w a)  {cdv : Value} {A : Around} {outer : List Env} {s : Shared} {H : Hp} {E : XK} (hr : Room 0 (A.deeper (envOfC "Vat.__init__" (defScope s_Vat_init) s.heap.objs.size a.a_Vat_init cdv))) : PSs (cxOf (L2.CX P w0) P w0 w.K mg base N_Vat_init "Vat.__init__" (defScope s_Vat_init) a.a_Vat_init cdv A outer s H E) (defBody s_Vat_init) (t_Vat_init w E) := by
  have hu := hu_of_ hr
  have hu1 := hu1_of_ hr
  exact (pss_cons (ps_if (PW.pt (pw_or (pt_not (pt_chain op_le op_le pe_int (pv 1) (C8.pe_gc rfl G.i_MOST_POUNDS))) (pw_or (pt_cmpR (op_ltU hu) (pv 2) pe_int (nomark _)) (pw_or1 (pt_not (pt_chain op_le op_le pe_int (pv 3) pe_int)))))) (pss_one (ps_raise rfl (takes_of rfl rfl rfl rfl) (pmk_own PySem.F.excBase_ValueError G.ex_VatError G.eg_VatError G.ek_VatError (raises_own G.eb_VatError G.et_VatError) (by exact rfl)))) pss_nil) (pss_cons (ps_fld (pv 0) (pv 1) rfl) (pss_cons (ps_fld (pv 0) (pv 2) rfl) (pss_cons (ps_fld (pv 0) (pv 3) rfl) (pss_cons (ps_fld (pv 0) pe_int rfl) (pss_cons (ps_fld (pv 0) pe_non rfl) (pss_cons (ps_fld (pv 0) pe_int rfl) (pss_one (ps_fld (pv 0) (pe_lst pa_nil) rfl)))))))))
end
end K3

/-! text K2_Vat_takes -/
namespace K3
open Dy L2 PyProof.Rows PySem.Spec PySem
section
variable {P : Program} {w0 : World} {mg : Str → Option Value} {base : Heap} {w : Wk} {a : Ad}
theorem d_Vat_takes (G : Fx mg base w a) (ok_Vat_in_cloth : FnOk P w0 w.K mg base (L2.CX P w0) 4 a.a_Vat_in_cloth a.f_Vat_in_cloth ["self"] (sp_Vat_in_cloth w)) {cdv : Value} {A : Around} {outer : List Env} {s : Shared} {H : Hp} {E : XK} (hr : Room 4 (A.deeper (envOfC "Vat.takes" (defScope s_Vat_takes) s.heap.objs.size a.a_Vat_takes cdv))) : PSs (cxOf (L2.CX P w0) P w0 w.K mg base N_Vat_takes "Vat.takes" (defScope s_Vat_takes) a.a_Vat_takes cdv A outer s H E) (defBody s_Vat_takes) (t_Vat_takes w E) := by
  have hu := hu_of_ hr
  have hu1 := hu1_of_ hr
  exact (pss_cons (ps_if (PW.pt (pw_or (pt_cmpR (op_eqU hu) (pe_fld (pv 0) rfl) pe_int (nomark _)) (pw_or1 (pt_cmpR (op_ltU hu) (pe_fld (pv 0) rfl) pe_int (nomark _))))) (pss_one (ps_ret pe_int)) pss_nil) (pss_cons (ps_set (i := 1) sc_Vat_takes.nd rfl (Or.inl rfl) (pe_op op_sub pe_int (pe_op op_fdivW (pe_op op_sub pe_int (pe_fld (pv 0) rfl)) pe_int))) (pss_cons (ps_if (pt_cmpR (op_ltU hu) (pe_fld (pv 0) rfl) pe_int (nomark _)) (pss_one (ps_aug (i := 1) sc_Vat_takes.nd rfl (Or.inl rfl) pe_int ip_fdiv)) pss_nil) (pss_one (ps_ret (pe_callB (call_min2 rfl) rfl G.n_min boot_min (pa_cons (pv 1) (pa_cons (pe_op op_sub (pe_op op_mulU pe_int (pe_fld (pv 0) rfl)) (pe_meth0 (pv 0) G.cls_Vat G.meth_Vat_in_cloth ok_Vat_in_cloth (hr.mono (by decide)) G.b_Vat_in_cloth .nil (passes_call (takes_of rfl rfl rfl rfl) (fun _ _ _ _ h => h)))) pa_nil))))))))
end
end K3

/-! text K2_Vat_in_cloth -/
namespace K3
open Dy L2 PyProof.Rows PySem.Spec PySem
section
variable {P : Program} {w0 : World} {mg : Str → Option Value} {base : Heap} {w : Wk} {a : Ad}
theorem d_Vat_in_cloth (G : Fx mg base w a)  {cdv : Value} {A : Around} {outer : List Env} {s : Shared} {H : Hp} {E : XK} (hr : Room 3 (A.deeper (envOfC "Vat.in_cloth" (defScope s_Vat_in_cloth) s.heap.objs.size a.a_Vat_in_cloth (.ref a.k_Vat_in_cloth)))) : PSs (cxOf (L2.CX P w0) P w0 w.K mg base N_Vat_in_cloth "Vat.in_cloth" (defScope s_Vat_in_cloth) a.a_Vat_in_cloth (.ref a.k_Vat_in_cloth) A outer s H E) (defBody s_Vat_in_cloth) (t_Vat_in_cloth w E) := by
  have hu := hu_of_ hr
  have hu1 := hu1_of_ hr
  have TB := G.tb_Vat_in_cloth
  exact (pss_cons (ps_if (pt_cmpR (op_eqU hu) (pe_fld (pv 0) rfl) pe_int (nomark _)) (pss_one (ps_ret pe_int)) pss_nil) (pss_one (ps_ret (pe_sumG (own := [("hour", 1), ("what", 2), ("number", 3)]) (k := 0) (hr.mono (by decide)) rfl G.n_sum TB rfl sc_Vat_in_cloth.nd (gxOk_by (by kernel_rfl)) (pi_list (pe_fld (pv 0) rfl)) (by simp) (fun _ _ _ _ _ _ _ hr => have hu := hu_of_ hr; have hu1 := hu1_of_ hr; (pg_tup rfl (pgs_cons (pg_name (i := 1) sc_Vat_in_cloth.nd rfl (Or.inl rfl)) (pgs_cons (pg_name (i := 2) sc_Vat_in_cloth.nd rfl (Or.inl rfl)) (pgs_cons (pg_name (i := 3) sc_Vat_in_cloth.nd rfl (Or.inl rfl)) pgs_nil))))) (fun _ _ _ _ _ _ _ hr => have hu := hu_of_ hr; have hu1 := hu1_of_ hr; (pts_one (PW.pt (pw_and (pt_cmpR (op_eqU hu) (pv 2) pe_str (nomark _)) (pw_and1 (pt_cmpR op_ge (pv 1) (pe_fld (pv 0) rfl) (nomark _))))))) (fun _ _ _ _ _ _ _ hr => have hu := hu_of_ hr; have hu1 := hu1_of_ hr; (pv 3))))))
end
end K3

/-! text K2_Vat_put -/
namespace K3
open Dy L2 PyProof.Rows PySem.Spec PySem
section
variable {P : Program} {w0 : World} {mg : Str → Option Value} {base : Heap} {w : Wk} {a : Ad}
theorem d_Vat_put (G : Fx mg base w a)  {cdv : Value} {A : Around} {outer : List Env} {s : Shared} {H : Hp} {E : XK} (hr : Room 0 (A.deeper (envOfC "Vat.put" (defScope s_Vat_put) s.heap.objs.size a.a_Vat_put cdv))) : PSs (cxOf (L2.CX P w0) P w0 w.K mg base N_Vat_put "Vat.put" (defScope s_Vat_put) a.a_Vat_put cdv A outer s H E) (defBody s_Vat_put) (t_Vat_put w E) := by
  have hu := hu_of_ hr
  have hu1 := hu1_of_ hr
  exact (pss_cons (ps_if (PW.pt (pw_or (pt_cmpR (op_gtU hu) (pe_fld (pv 0) rfl) pe_int (nomark _)) (pw_or1 (pt_not (pt_chain op_le op_le pe_int (pv 1) (pe_fld (pv 0) rfl)))))) (pss_one (ps_raise rfl (takes_of rfl rfl rfl rfl) (pmk_own PySem.F.excBase_ValueError G.ex_VatError G.eg_VatError G.ek_VatError (raises_own G.eb_VatError G.et_VatError) (by exact rfl)))) pss_nil) (pss_cons (ps_fld (pv 0) (pv 1) rfl) (pss_cons (ps_fld (pv 0) (pe_fld (pv 0) rfl) rfl) (pss_one (ps_expr (pe_bm PySem.F.plainAttrs_list PySem.F.slot_list_append PySem.F.type_list_append mt_append (pe_fld (pv 0) rfl) (pa_cons (pe_tup (pa_cons (pe_fld (pv 0) rfl) (pa_cons pe_str (pa_cons (pv 1) pa_nil)))) pa_nil)))))))
end
end K3

/-! text K2_Vat_take_out -/
namespace K3
open Dy L2 PyProof.Rows PySem.Spec PySem
section
variable {P : Program} {w0 : World} {mg : Str → Option Value} {base : Heap} {w : Wk} {a : Ad}
theorem d_Vat_take_out (G : Fx mg base w a) (ok_Vat_in_cloth : FnOk P w0 w.K mg base (L2.CX P w0) 4 a.a_Vat_in_cloth a.f_Vat_in_cloth ["self"] (sp_Vat_in_cloth w)) {cdv : Value} {A : Around} {outer : List Env} {s : Shared} {H : Hp} {E : XK} (hr : Room 4 (A.deeper (envOfC "Vat.take_out" (defScope s_Vat_take_out) s.heap.objs.size a.a_Vat_take_out cdv))) : PSs (cxOf (L2.CX P w0) P w0 w.K mg base N_Vat_take_out "Vat.take_out" (defScope s_Vat_take_out) a.a_Vat_take_out cdv A outer s H E) (defBody s_Vat_take_out) (t_Vat_take_out w E) := by
  have hu := hu_of_ hr
  have hu1 := hu1_of_ hr
  exact (pss_cons (ps_if (pt_cmpR (op_eqU hu) (pe_fld (pv 0) rfl) pe_int (nomark _)) (pss_one (ps_raise rfl (takes_of rfl rfl rfl rfl) (pmk_own PySem.F.excBase_ValueError G.ex_VatError G.eg_VatError G.ek_VatError (raises_own G.eb_VatError G.et_VatError) (by exact rfl)))) pss_nil) (pss_cons (ps_set (i := 1) sc_Vat_take_out.nd rfl (Or.inl rfl) (pe_tup (pa_cons (pe_fld (pv 0) rfl) (pa_cons (pe_meth0 (pv 0) G.cls_Vat G.meth_Vat_in_cloth ok_Vat_in_cloth (hr.mono (by decide)) G.b_Vat_in_cloth .nil (passes_call (takes_of rfl rfl rfl rfl) (fun _ _ _ _ h => h))) pa_nil)))) (pss_cons (ps_expr (pe_bm PySem.F.plainAttrs_list PySem.F.slot_list_append PySem.F.type_list_append mt_append (pe_fld (pv 0) rfl) (pa_cons (pe_tup (pa_cons (pe_fld (pv 0) rfl) (pa_cons pe_str (pa_cons (pe_fld (pv 0) rfl) pa_nil)))) pa_nil))) (pss_cons (ps_asg (pe_tup (pa_cons pe_int (pa_cons pe_non pa_nil))) (pg_tup rfl (pgs_cons (pg_fld (pv 0)) (pgs_cons (pg_fld (pv 0)) pgs_nil)))) (pss_one (ps_ret (pv 1)))))))
end
end K3

/-! text K2_Vat_fill -/
namespace K3
open Dy L2 PyProof.Rows PySem.Spec PySem
section
variable {P : Program} {w0 : World} {mg : Str → Option Value} {base : Heap} {w : Wk} {a : Ad}
theorem d_Vat_fill (G : Fx mg base w a)  {cdv : Value} {A : Around} {outer : List Env} {s : Shared} {H : Hp} {E : XK} (hr : Room 0 (A.deeper (envOfC "Vat.fill" (defScope s_Vat_fill) s.heap.objs.size a.a_Vat_fill cdv))) : PSs (cxOf (L2.CX P w0) P w0 w.K mg base N_Vat_fill "Vat.fill" (defScope s_Vat_fill) a.a_Vat_fill cdv A outer s H E) (defBody s_Vat_fill) (t_Vat_fill w E) := by
  have hu := hu_of_ hr
  have hu1 := hu1_of_ hr
  exact (pss_cons (ps_if (pt_cmpR (op_ltU hu) (pv 1) pe_int (nomark _)) (pss_one (ps_raise rfl (takes_of rfl rfl rfl rfl) (pmk_own PySem.F.excBase_ValueError G.ex_VatError G.eg_VatError G.ek_VatError (raises_own G.eb_VatError G.et_VatError) (by exact rfl)))) pss_nil) (pss_cons (ps_fldaug (pv 0) (pv 1) in_add) (pss_one (ps_expr (pe_bm PySem.F.plainAttrs_list PySem.F.slot_list_append PySem.F.type_list_append mt_append (pe_fld (pv 0) rfl) (pa_cons (pe_tup (pa_cons (pe_fld (pv 0) rfl) (pa_cons pe_str (pa_cons (pv 1) pa_nil)))) pa_nil))))))
end
end K3

/-! text K2_Vat_heat -/
namespace K3
open Dy L2 PyProof.Rows PySem.Spec PySem
section
variable {P : Program} {w0 : World} {mg : Str → Option Value} {base : Heap} {w : Wk} {a : Ad}
theorem d_Vat_heat (G : Fx mg base w a)  {cdv : Value} {A : Around} {outer : List Env} {s : Shared} {H : Hp} {E : XK} (hr : Room 0 (A.deeper (envOfC "Vat.heat" (defScope s_Vat_heat) s.heap.objs.size a.a_Vat_heat cdv))) : PSs (cxOf (L2.CX P w0) P w0 w.K mg base N_Vat_heat "Vat.heat" (defScope s_Vat_heat) a.a_Vat_heat cdv A outer s H E) (defBody s_Vat_heat) (t_Vat_heat w E) := by
  have hu := hu_of_ hr
  have hu1 := hu1_of_ hr
  exact (pss_cons (ps_if (pt_not (pt_chain op_le op_le pe_int (pe_op op_addU (pe_fld (pv 0) rfl) (pv 1)) pe_int)) (pss_one (ps_raise rfl (takes_of rfl rfl rfl rfl) (pmk_own PySem.F.excBase_ValueError G.ex_VatError G.eg_VatError G.ek_VatError (raises_own G.eb_VatError G.et_VatError) (by exact rfl)))) pss_nil) (pss_one (ps_fldaug (pv 0) (pv 1) in_add)))
end
end K3

/-! text K2_Vat_go_hour -/
namespace K3
open Dy L2 PyProof.Rows PySem.Spec PySem
section
variable {P : Program} {w0 : World} {mg : Str → Option Value} {base : Heap} {w : Wk} {a : Ad}
theorem d_Vat_go_hour (G : Fx mg base w a) (ok_Vat_takes : FnOk P w0 w.K mg base (L2.CX P w0) 5 a.a_Vat_takes a.f_Vat_takes ["self"] (sp_Vat_takes w)) {cdv : Value} {A : Around} {outer : List Env} {s : Shared} {H : Hp} {E : XK} (hr : Room 5 (A.deeper (envOfC "Vat.go_hour" (defScope s_Vat_go_hour) s.heap.objs.size a.a_Vat_go_hour cdv))) : PSs (cxOf (L2.CX P w0) P w0 w.K mg base N_Vat_go_hour "Vat.go_hour" (defScope s_Vat_go_hour) a.a_Vat_go_hour cdv A outer s H E) (defBody s_Vat_go_hour) (t_Vat_go_hour w E) := by
  have hu := hu_of_ hr
  have hu1 := hu1_of_ hr
  exact (pss_cons (ps_set (i := 1) sc_Vat_go_hour.nd rfl (Or.inl rfl) (pe_meth0 (pv 0) G.cls_Vat G.meth_Vat_takes ok_Vat_takes (hr.mono (by decide)) G.b_Vat_takes .nil (passes_call (takes_of rfl rfl rfl rfl) (fun _ _ _ _ h => h)))) (pss_cons (ps_fldaug (pv 0) (pv 1) in_sub) (pss_cons (ps_if (pt_cmpR (op_gtU hu) (pv 1) pe_int (nomark _)) (pss_one (ps_expr (pe_bm PySem.F.plainAttrs_list PySem.F.slot_list_append PySem.F.type_list_append mt_append (pe_fld (pv 0) rfl) (pa_cons (pe_tup (pa_cons (pe_fld (pv 0) rfl) (pa_cons pe_str (pa_cons (pv 1) pa_nil)))) pa_nil)))) pss_nil) (pss_cons (ps_fldaug (pv 0) pe_int in_add) (pss_cons (ps_if (pt_cmpR (op_gtU hu) (pe_fld (pv 0) rfl) pe_int (nomark _)) (pss_one (ps_fld (pv 0) (pe_callB (call_max2 rfl) rfl G.n_max boot_max (pa_cons pe_int (pa_cons (pe_op op_sub (pe_fld (pv 0) rfl) pe_int) pa_nil))) rfl)) pss_nil) (pss_one (ps_ret (pv 1))))))))
end
end K3

/-! text K2_Vat_hours_for -/
namespace K3
open Dy L2 PyProof.Rows PySem.Spec PySem
section
variable {P : Program} {w0 : World} {mg : Str → Option Value} {base : Heap} {w : Wk} {a : Ad}
theorem d_Vat_hours_for (G : Fx mg base w a) (ok_Vat_init : FnOk P w0 w.K mg base (L2.CX P w0) 1 a.a_Vat_init a.f_Vat_init ["self", "pounds", "dye", "warm"] (sp_Vat_init w)) (ok_Vat_takes : FnOk P w0 w.K mg base (L2.CX P w0) 5 a.a_Vat_takes a.f_Vat_takes ["self"] (sp_Vat_takes w)) (ok_Vat_in_cloth : FnOk P w0 w.K mg base (L2.CX P w0) 4 a.a_Vat_in_cloth a.f_Vat_in_cloth ["self"] (sp_Vat_in_cloth w)) {cdv : Value} {A : Around} {outer : List Env} {s : Shared} {H : Hp} {E : XK} (hr : Room 5 (A.deeper (envOfC "Vat.hours_for" (defScope s_Vat_hours_for) s.heap.objs.size a.a_Vat_hours_for cdv))) : PSs (cxOf (L2.CX P w0) P w0 w.K mg base N_Vat_hours_for "Vat.hours_for" (defScope s_Vat_hours_for) a.a_Vat_hours_for cdv A outer s H E) (defBody s_Vat_hours_for) (t_Vat_hours_for w E) := by
  have hu := hu_of_ hr
  have hu1 := hu1_of_ hr
  exact (pss_cons (ps_if (pt_cmpR (op_eqU hu) (pe_fld (pv 0) rfl) pe_int (nomark _)) (pss_one (ps_raise rfl (takes_of rfl rfl rfl rfl) (pmk_own PySem.F.excBase_ValueError G.ex_VatError G.eg_VatError G.ek_VatError (raises_own G.eb_VatError G.et_VatError) (by exact rfl)))) pss_nil) (pss_cons (ps_par3 (i := 2) (j := 3) (l := 4) rfl sc_Vat_hours_for.nd rfl rfl rfl (by decide) (by decide) (by decide) rfl rfl rfl (pa_cons (pe_fld (pv 0) rfl) (pa_cons (pe_fld (pv 0) rfl) (pa_cons (pe_meth0 (pv 0) G.cls_Vat G.meth_Vat_in_cloth ok_Vat_in_cloth (hr.mono (by decide)) G.b_Vat_in_cloth .nil (passes_call (takes_of rfl rfl rfl rfl) (fun _ _ _ _ h => h))) pa_nil))) rfl) (pss_cons (ps_for (passes_of rfl) rfl (pi_range1 rfl G.n_range (pa_cons pe_int pa_nil)) (pg_name (i := 5) sc_Vat_hours_for.nd rfl (Or.inl rfl)) (pss_cons (ps_if (pt_cmpR op_ge (pv 4) (pv 1) (nomark _)) (pss_one (ps_ret (pv 5))) pss_nil) (pss_cons (ps_set (i := 6) sc_Vat_hours_for.nd rfl (Or.inl rfl) (pe_make G.m_Vat ok_Vat_init (hr.mono (by decide)) rfl G.c_Vat G.b_Vat_init .nil (passes_call (takes_of rfl rfl rfl rfl) (fun _ _ _ _ h => h)) (pa_cons (pe_fld (pv 0) rfl) (pa_cons (pv 2) (pa_cons (pv 3) pa_nil))))) (pss_cons (ps_asg (pe_tup (pa_cons (pe_fld (pv 0) rfl) (pa_cons pe_int pa_nil))) (pg_tup rfl (pgs_cons (pg_fld (pv 6)) (pgs_cons (pg_fld (pv 6)) pgs_nil)))) (pss_cons (ps_set (i := 7) sc_Vat_hours_for.nd rfl (Or.inl rfl) (pe_callB (call_min2 rfl) rfl G.n_min boot_min (pa_cons (pe_meth0 (pv 6) G.cls_Vat G.meth_Vat_takes ok_Vat_takes (hr.mono (by decide)) G.b_Vat_takes .nil (passes_call (takes_of rfl rfl rfl rfl) (fun _ _ _ _ h => h))) (pa_cons (pe_op op_sub (pe_op op_mulU pe_int (pe_fld (pv 0) rfl)) (pv 4)) pa_nil)))) (pss_cons (ps_par (i := 2) (j := 4) rfl sc_Vat_hours_for.nd rfl rfl (by decide) rfl rfl (pa_cons (pe_op op_sub (pv 2) (pv 7)) (pa_cons (pe_op op_addU (pv 4) (pv 7)) pa_nil)) rfl) (pss_one (ps_set (i := 3) sc_Vat_hours_for.nd rfl (Or.inl rfl) (pe_ifExp (pt_cmpR (op_gtU hu) (pv 3) pe_int (nomark _)) (pe_callB (call_max2 rfl) rfl G.n_max boot_max (pa_cons pe_int (pa_cons (pe_op op_sub (pv 3) pe_int) pa_nil))) (pv 3)))))))))) (pss_one (ps_ret pe_non)))))
end
end K3

/-! text K2_Vat_used -/
namespace K3
open Dy L2 PyProof.Rows PySem.Spec PySem
section
variable {P : Program} {w0 : World} {mg : Str → Option Value} {base : Heap} {w : Wk} {a : Ad}
theorem d_Vat_used (G : Fx mg base w a)  {cdv : Value} {A : Around} {outer : List Env} {s : Shared} {H : Hp} {E : XK} (hr : Room 3 (A.deeper (envOfC "Vat.used" (defScope s_Vat_used) s.heap.objs.size a.a_Vat_used (.ref a.k_Vat_used)))) : PSs (cxOf (L2.CX P w0) P w0 w.K mg base N_Vat_used "Vat.used" (defScope s_Vat_used) a.a_Vat_used (.ref a.k_Vat_used) A outer s H E) (defBody s_Vat_used) (t_Vat_used w E) := by
  have hu := hu_of_ hr
  have hu1 := hu1_of_ hr
  have TB := G.tb_Vat_used
  exact (pss_one (ps_ret (pe_sumG (own := [("hour", 1), ("what", 2), ("number", 3)]) (k := 0) (hr.mono (by decide)) rfl G.n_sum TB rfl sc_Vat_used.nd (gxOk_by (by kernel_rfl)) (pi_list (pe_fld (pv 0) rfl)) (by simp) (fun _ _ _ _ _ _ _ hr => have hu := hu_of_ hr; have hu1 := hu1_of_ hr; (pg_tup rfl (pgs_cons (pg_name (i := 1) sc_Vat_used.nd rfl (Or.inl rfl)) (pgs_cons (pg_name (i := 2) sc_Vat_used.nd rfl (Or.inl rfl)) (pgs_cons (pg_name (i := 3) sc_Vat_used.nd rfl (Or.inl rfl)) pgs_nil))))) (fun _ _ _ _ _ _ _ hr => have hu := hu_of_ hr; have hu1 := hu1_of_ hr; (pts_one (pt_cmpR (op_eqU hu) (pv 2) pe_str (nomark _)))) (fun _ _ _ _ _ _ _ hr => have hu := hu_of_ hr; have hu1 := hu1_of_ hr; (pv 3)))))
end
end K3

/-! text K2_vats_for -/
namespace K3
open Dy L2 PyProof.Rows PySem.Spec PySem
section
variable {P : Program} {w0 : World} {mg : Str → Option Value} {base : Heap} {w : Wk} {a : Ad}
theorem d_vats_for (G : Fx mg base w a)  {cdv : Value} {A : Around} {outer : List Env} {s : Shared} {H : Hp} {E : XK} (hr : Room 3 (A.deeper (envOfC "vats_for" (defScope s_vats_for) s.heap.objs.size a.a_vats_for (.ref a.k_vats_for)))) : PSs (cxOf (L2.CX P w0) P w0 w.K mg base N_vats_for "vats_for" (defScope s_vats_for) a.a_vats_for (.ref a.k_vats_for) A outer s H E) (defBody s_vats_for) (t_vats_for w E) := by
  have hu := hu_of_ hr
  have hu1 := hu1_of_ hr
  have TB := G.tb_vats_for
  exact (pss_cons (ps_if (PW.pt (pw_or (pt_cmpR (op_gtU hu) (pe_callB call_lenU rfl G.n_len boot_len (pa_cons (pv 1) pa_nil)) pe_int (nomark _)) (pw_or1 (pt_cmpR (op_ltU hu) (pv 0) pe_int (nomark _))))) (pss_one (ps_raise rfl (takes_of rfl rfl rfl rfl) (pmk_own PySem.F.excBase_ValueError G.ex_VatError G.eg_VatError G.ek_VatError (raises_own G.eb_VatError G.et_VatError) (by exact rfl)))) pss_nil) (pss_cons (ps_set (i := 2) sc_vats_for.nd rfl (Or.inl rfl) (pe_lst (pa_cons (pe_tup pa_nil) pa_nil))) (pss_cons (ps_for (passes_of rfl) rfl (pi_range1 rfl G.n_range (pa_cons (pe_callB call_lenU rfl G.n_len boot_len (pa_cons (pv 1) pa_nil)) pa_nil)) (pg_name (i := 3) sc_vats_for.nd rfl (Or.inr rfl)) (pss_one (ps_aug (i := 2) sc_vats_for.nd rfl (Or.inl rfl) (pe_lc (own := [("row", 4)]) rfl sc_vats_for.nd (pi_list (pv 2)) (blkOk_by (by kernel_rfl)) (fun _ _ _ _ _ => (pg_name (i := 4) sc_vats_for.nd rfl (Or.inl rfl))) (fun _ _ _ _ _ => pts_nil) (fun _ _ _ _ _ => (pe_op op_addU (pv 4) (pe_tup (pa_cons (pv 3) pa_nil))))) ip_addU))) (pss_cons (ps_setLc (i := 5) (own := [("row", 4)]) rfl sc_vats_for.nd rfl rfl (sw_true rfl rfl rfl (by decide +kernel)) (pi_list (pv 2)) (blkOk_by (by kernel_rfl)) (fun _ _ _ _ _ => (pg_name (i := 4) sc_vats_for.nd rfl (Or.inl rfl))) (fun _ _ _ _ _ => (pts_one (pt_cmpR op_ge (pe_sumG (own := [("place", 3)]) (k := 0) (hr.mono (by decide)) rfl G.n_sum TB rfl sc_vats_for.nd (gxOk_by (by kernel_rfl)) (pi_tup (pv 4)) (by simp) (fun _ _ _ _ _ _ _ hr => have hu := hu_of_ hr; have hu1 := hu1_of_ hr; (pg_name (i := 3) sc_vats_for.nd rfl (Or.inl rfl))) (fun _ _ _ _ _ _ _ hr => have hu := hu_of_ hr; have hu1 := hu1_of_ hr; pts_nil) (fun _ _ _ _ _ _ _ hr => have hu := hu_of_ hr; have hu1 := hu1_of_ hr; (pe_subU hu1 (pv 1) (pv 3) (fun _ _ => rfl) (fun _ _ => rfl)))) (pv 0) (nomark _)))) (fun _ _ _ _ _ => (pe_tup (pa_cons (pe_callB call_lenU rfl G.n_len boot_len (pa_cons (pv 4) pa_nil)) (pa_cons (pv 4) pa_nil))))) (pss_one (ps_ret (pe_ifExp (pt_cmpR (op_neU hu) (pv 5) (pe_lst pa_nil) (nomark _)) (pe_subU hu1 (pe_callB (cr_minB rfl hu) rfl G.n_min boot_min (pa_cons (pv 5) pa_nil)) pe_int (fun _ _ => rfl) (fun _ _ => rfl)) pe_non)))))))
end
end K3

/-! text K2_law_dice -/
namespace K3
open Dy L2 PyProof.Rows PySem.Spec PySem
section
variable {P : Program} {w0 : World} {mg : Str → Option Value} {base : Heap} {w : Wk} {a : Ad}
theorem d_law_dice (G : Fx mg base w a)  {cdv : Value} {A : Around} {outer : List Env} {s : Shared} {H : Hp} {E : XK} (hr : Room 0 (A.deeper (envOfC "_law_dice" (defScope s_law_dice) s.heap.objs.size a.a_law_dice cdv))) : PSs (cxOf (L2.CX P w0) P w0 w.K mg base N_law_dice "_law_dice" (defScope s_law_dice) a.a_law_dice cdv A outer s H E) (defBody s_law_dice) (t_law_dice w E) := by
  have hu := hu_of_ hr
  have hu1 := hu1_of_ hr
  exact (pss_cons (ps_if (pt_chain (op_ltU hu) (op_ltU hu) (pe_op op_sub pe_int pe_int) (pv 0) pe_int) (pss_one (ps_ret (pe_lst (pa_cons (pe_callB call_abs rfl G.n_abs boot_abs (pa_cons (pv 0) pa_nil)) (pa_cons pe_int (pa_cons pe_int pa_nil)))))) pss_nil) (pss_one (ps_ret (pe_lst (pa_cons (pv 0) (pa_cons (pe_op op_addU pe_int (pe_op op_mod (pe_callTy call_int1 rfl G.n_int boot_int (pa_cons (pv 0) pa_nil)) pe_int)) (pa_cons (pe_callTy call_int1 rfl G.n_int boot_int (pa_cons (pe_cmpR op_ge (pv 0) (pe_op op_pow pe_int pe_int) (nomark _)) pa_nil)) pa_nil)))))))
end
end K3

/-! text K2_law_roll -/
namespace K3
open Dy L2 PyProof.Rows PySem.Spec PySem
section
variable {P : Program} {w0 : World} {mg : Str → Option Value} {base : Heap} {w : Wk} {a : Ad}
theorem d_law_roll (G : Fx mg base w a)  {cdv : Value} {A : Around} {outer : List Env} {s : Shared} {H : Hp} {E : XK} (hr : Room 0 (A.deeper (envOfC "_law_roll" (defScope s_law_roll) s.heap.objs.size a.a_law_roll cdv))) : PSs (cxOf (L2.CX P w0) P w0 w.K mg base N_law_roll "_law_roll" (defScope s_law_roll) a.a_law_roll cdv A outer s H E) (defBody s_law_roll) (t_law_roll w E) := by
  have hu := hu_of_ hr
  have hu1 := hu1_of_ hr
  exact (pss_cons (ps_if (PW.pt (pw_or (pt_cmpR (op_eqU hu) (pe_subU hu1 (pv 0) pe_int (fun _ _ => rfl) (fun _ _ => rfl)) pe_int (nomark _)) (pw_or1 (PW.pt (pw_and (pt_cmpR (op_eqU hu) (pe_subU hu1 (pv 0) pe_int (fun _ _ => rfl) (fun _ _ => rfl)) pe_int (nomark _)) (pw_and1 (pt_cmpR (op_gtU hu) (pe_subU hu1 (pv 0) pe_int (fun _ _ => rfl) (fun _ _ => rfl)) pe_int (nomark _)))))))) (pss_cons (ps_set (i := 2) sc_law_roll.nd rfl (Or.inl rfl) (pe_op op_mod (pe_callTy call_int1 rfl G.n_int boot_int (pa_cons (pe_subU hu1 (pv 0) pe_int (fun _ _ => rfl) (fun _ _ => rfl)) pa_nil)) (pv 1))) (pss_cons (ps_asg (pe_op op_fdivW (pe_subU hu1 (pv 0) pe_int (fun _ _ => rfl) (fun _ _ => rfl)) (pv 1)) (pg_sub (pv 0) pe_int set_list)) (pss_one (ps_ret (pv 2))))) pss_nil) (pss_cons (ps_asg pe_int (pg_sub (pv 0) pe_int set_list)) (pss_cons (ps_if (pt_cmpR (op_gtU hu) (pv 1) pe_int (nomark _)) pss_never pss_nil) (pss_cons (ps_asg (pe_op op_mod (pe_callTy call_int1 rfl G.n_int boot_int (pa_cons (pe_op op_addU (pe_op op_addU (pe_op op_mulU (pe_subU hu1 (pv 0) pe_int (fun _ _ => rfl) (fun _ _ => rfl)) pe_int) (pe_op op_mulU (pe_subU hu1 (pv 0) pe_int (fun _ _ => rfl) (fun _ _ => rfl)) pe_int)) pe_int) pa_nil)) pe_int) (pg_sub (pv 0) pe_int set_list)) (pss_cons (ps_asg (pe_op op_addU (pe_subU hu1 (pv 0) pe_int (fun _ _ => rfl) (fun _ _ => rfl)) pe_int) (pg_sub (pv 0) pe_int set_list)) (pss_one (ps_ret (pe_op op_mod (pe_callTy call_int1 rfl G.n_int boot_int (pa_cons (pe_op op_fdivW (pe_subU hu1 (pv 0) pe_int (fun _ _ => rfl) (fun _ _ => rfl)) pe_int) pa_nil)) (pv 1)))))))))
end
end K3

/-! text K2_law_rounds -/
namespace K3
open Dy L2 PyProof.Rows PySem.Spec PySem
section
variable {P : Program} {w0 : World} {mg : Str → Option Value} {base : Heap} {w : Wk} {a : Ad}
theorem d_law_rounds (G : Fx mg base w a) (ok_law_dice : FnOk P w0 w.K mg base (L2.CX P w0) 1 a.a_law_dice a.f_law_dice ["cell"] (sp_law_dice w)) {cdv : Value} {A : Around} {outer : List Env} {s : Shared} {H : Hp} {E : XK} (hr : Room 1 (A.deeper (envOfC "_law_rounds" (defScope s_law_rounds) s.heap.objs.size a.a_law_rounds cdv))) : PSs (cxOf (L2.CX P w0) P w0 w.K mg base N_law_rounds "_law_rounds" (defScope s_law_rounds) a.a_law_rounds cdv A outer s H E) (defBody s_law_rounds) (t_law_rounds w E) := by
  have hu := hu_of_ hr
  have hu1 := hu1_of_ hr
  exact (pss_cons (ps_set (i := 2) sc_law_rounds.nd rfl (Or.inl rfl) (pe_slice sl_U (pv 0) po_none (po_some (pv 1)))) (pss_cons (ps_if (pt_cmpR (op_eqU hu) (pv 2) (pe_lst pa_nil) (nomark _)) (pss_one (ps_set (i := 2) sc_law_rounds.nd rfl (Or.inl rfl) (pe_lst (pa_cons pe_int pa_nil)))) pss_nil) (pss_one (ps_ret (pe_lc (own := [("cell", 3)]) rfl sc_law_rounds.nd (pi_list (pv 2)) (blkOk_by (by kernel_rfl)) (fun _ _ _ _ _ => (pg_name (i := 3) sc_law_rounds.nd rfl (Or.inl rfl))) (fun _ _ _ _ _ => pts_nil) (fun _ _ _ _ _ => (pe_call ok_law_dice (hr.mono (by decide)) rfl G.g_law_dice G.k_law_dice G.b_law_dice .nil (passes_call LamX.takes0 (fun _ _ _ _ h => h)) (pa_cons (pv 3) pa_nil))))))))
end
end K3

/-! text K2_law_hour -/
namespace K3
open Dy L2 PyProof.Rows PySem.Spec PySem
section
variable {P : Program} {w0 : World} {mg : Str → Option Value} {base : Heap} {w : Wk} {a : Ad}
theorem d_law_hour (G : Fx mg base w a)  {cdv : Value} {A : Around} {outer : List Env} {s : Shared} {H : Hp} {E : XK} (hr : Room 0 (A.deeper (envOfC "_law_hour" (defScope s_law_hour) s.heap.objs.size a.a_law_hour cdv))) : PSs (cxOf (L2.CX P w0) P w0 w.K mg base N_law_hour "_law_hour" (defScope s_law_hour) a.a_law_hour cdv A outer s H E) (defBody s_law_hour) (t_law_hour w E) := by
  have hu := hu_of_ hr
  have hu1 := hu1_of_ hr
  exact (pss_cons (ps_set (i := 1) sc_law_hour.nd rfl (Or.inl rfl) (pe_un un_neg (pe_op op_fdivW (pe_un un_neg (pe_subU hu1 (pv 0) pe_str (fun _ _ => rfl) (fun _ _ => rfl))) pe_int))) (pss_cons (ps_set (i := 1) sc_law_hour.nd rfl (Or.inl rfl) (pe_ifExp (pt_cmpR (op_ltU hu) (pe_subU hu1 (pv 0) pe_str (fun _ _ => rfl) (fun _ _ => rfl)) pe_int (nomark _)) (pe_op op_fdivW (pv 1) pe_int) (pv 1))) (pss_cons (ps_set (i := 1) sc_law_hour.nd rfl (Or.inl rfl) (pe_ifExp (PW.pt (pw_and (pt_cmpR (op_gtU hu) (pe_subU hu1 (pv 0) pe_str (fun _ _ => rfl) (fun _ _ => rfl)) pe_int (nomark _)) (pw_and1 (pt_cmpR op_ge (pe_subU hu1 (pv 0) pe_str (fun _ _ => rfl) (fun _ _ => rfl)) pe_int (nomark _))))) (pe_callB (call_min2 rfl) rfl G.n_min boot_min (pa_cons (pv 1) (pa_cons (pe_op op_sub (pe_op op_mulU pe_int (pe_subU hu1 (pv 0) pe_str (fun _ _ => rfl) (fun _ _ => rfl))) (pe_subU hu1 (pv 0) pe_str (fun _ _ => rfl) (fun _ _ => rfl))) pa_nil))) pe_int)) (pss_cons (ps_asg (pe_tup (pa_cons (pe_op op_sub (pe_subU hu1 (pv 0) pe_str (fun _ _ => rfl) (fun _ _ => rfl)) (pv 1)) (pa_cons (pe_op op_addU (pe_subU hu1 (pv 0) pe_str (fun _ _ => rfl) (fun _ _ => rfl)) (pv 1)) pa_nil))) (pg_tup rfl (pgs_cons (pg_sub (pv 0) pe_str (set_dict hu1)) (pgs_cons (pg_sub (pv 0) pe_str (set_dict hu1)) pgs_nil)))) (pss_cons (ps_dput hu1 (pv 0) pe_str (pe_ifExp (pt_cmpR (op_gtU hu) (pe_subU hu1 (pv 0) pe_str (fun _ _ => rfl) (fun _ _ => rfl)) pe_int (nomark _)) (pe_callB (call_max2 rfl) rfl G.n_max boot_max (pa_cons pe_int (pa_cons (pe_op op_sub (pe_subU hu1 (pv 0) pe_str (fun _ _ => rfl) (fun _ _ => rfl)) pe_int) pa_nil))) (pe_subU hu1 (pv 0) pe_str (fun _ _ => rfl) (fun _ _ => rfl))) rfl) (pss_one (ps_ret (pv 1))))))))
end
end K3

/-! text K2_law_plain -/
namespace K3
open Dy L2 PyProof.Rows PySem.Spec PySem
section
variable {P : Program} {w0 : World} {mg : Str → Option Value} {base : Heap} {w : Wk} {a : Ad}
theorem d_law_plain (G : Fx mg base w a) (ok_Vat_init : FnOk P w0 w.K mg base (L2.CX P w0) 1 a.a_Vat_init a.f_Vat_init ["self", "pounds", "dye", "warm"] (sp_Vat_init w)) (ok_Vat_put : FnOk P w0 w.K mg base (L2.CX P w0) 1 a.a_Vat_put a.f_Vat_put ["self", "pounds"] (sp_Vat_put w)) (ok_Vat_take_out : FnOk P w0 w.K mg base (L2.CX P w0) 5 a.a_Vat_take_out a.f_Vat_take_out ["self"] (sp_Vat_take_out w)) (ok_Vat_go_hour : FnOk P w0 w.K mg base (L2.CX P w0) 6 a.a_Vat_go_hour a.f_Vat_go_hour ["self"] (sp_Vat_go_hour w)) (ok_Vat_hours_for : FnOk P w0 w.K mg base (L2.CX P w0) 6 a.a_Vat_hours_for a.f_Vat_hours_for ["self", "ounces"] (sp_Vat_hours_for w)) (ok_vats_for : FnOk P w0 w.K mg base (L2.CX P w0) 4 a.a_vats_for a.f_vats_for ["pounds", "sizes"] (sp_vats_for w)) {cdv : Value} {A : Around} {outer : List Env} {s : Shared} {H : Hp} {E : XK} (hr : Room 8 (A.deeper (envOfC "_law_plain" (defScope s_law_plain) s.heap.objs.size a.a_law_plain (.ref a.k_law_plain)))) : ∃ LO : Nat → Addr → Addr → HO, (∀ i f c, nt (LO i f c) = true) ∧ PSs (cxOf (L2.CX P w0) P w0 w.K mg base N_law_plain "_law_plain" (defScope s_law_plain) a.a_law_plain (.ref a.k_law_plain) A outer s H E) (defBody s_law_plain) (t_law_plain w E LO) := by
  have hu := hu_of_ hr
  have hu1 := hu1_of_ hr
  have TB := G.tb_law_plain
  exact ⟨fun i f c => LamD.ho (cxOf (L2.CX P w0) P w0 w.K mg base N_law_plain "_law_plain" (defScope s_law_plain) a.a_law_plain (.ref a.k_law_plain) A outer s H E) q_law_plain (([⟨_, _, _⟩, ⟨_, _, _⟩, ⟨_, _, _⟩, ⟨_, _, _⟩, ⟨_, _, _⟩, ⟨_, _, _⟩, ⟨_, _, _⟩, ⟨_, _, _⟩, ⟨_, _, _⟩, ⟨_, _, _⟩, ⟨_, _, _⟩] : List LamD).getD i ⟨default, .Constant .none 0 ⟨0, 0, 0, 0⟩, defScope s_law_plain⟩) f c, fun _ _ _ => rfl, (pss_cons (ps_set (i := 0) sc_law_plain.nd rfl (Or.inr rfl) (pe_make G.m_Vat ok_Vat_init (hr.mono (by decide)) rfl G.c_Vat G.b_Vat_init .nil (passes_call (takes_of rfl rfl rfl rfl) (fun _ _ _ _ h => h)) (pa_cons pe_int (pa_cons pe_int (pa_cons pe_int pa_nil))))) (pss_cons (ps_set (i := 1) sc_law_plain.nd rfl (Or.inl rfl) (pe_lst (pa_cons (pe_lambda2 TB rfl rfl (by decide) rfl (LamX.lamS_by (by kernel_rfl))) (pa_cons (pe_lambda2 TB rfl rfl (by decide) rfl (LamX.lamS_by (by kernel_rfl))) (pa_cons (pe_lambda2 TB rfl rfl (by decide) rfl (LamX.lamS_by (by kernel_rfl))) (pa_cons (pe_lambda2 TB rfl rfl (by decide) rfl (LamX.lamS_by (by kernel_rfl))) (pa_cons (pe_lambda2 TB rfl rfl (by decide) rfl (LamX.lamS_by (by kernel_rfl))) (pa_cons (pe_lambda2 TB rfl rfl (by decide) rfl (LamX.lamS_by (by kernel_rfl))) (pa_cons (pe_lambda2 TB rfl rfl (by decide) rfl (LamX.lamS_by (by kernel_rfl))) (pa_cons (pe_lambda2 TB rfl rfl (by decide) rfl (LamX.lamS_by (by kernel_rfl))) (pa_cons (pe_lambda2 TB rfl rfl (by decide) rfl (LamX.lamS_by (by kernel_rfl))) (pa_cons (pe_lambda2 TB rfl rfl (by decide) rfl (LamX.lamS_by (by kernel_rfl))) (pa_cons (pe_lambda2 TB rfl rfl (by decide) rfl (LamX.lamS_by (by kernel_rfl))) pa_nil))))))))))))) (pss_cons (ps_if (PW.pt (pw_or (pt_cmpR (op_neU hu) (pe_lcI (own := [("f", 2)]) rfl sc_law_plain.nd (pi_list (pv 1)) (blkOk_by (by kernel_rfl)) (fun pins s σ H fp I f3 => ⟨(pg_name (i := 2) sc_law_plain.nd rfl (Or.inl rfl)), (pts_one (pt_cmpR (op_neU hu) (pe_toldG (k := 6) I f3 rfl G.told G.k_law_told rfl (hr.mono (by decide)) (by exact fun j hj => match j, hj with | 0, _ => ⟨_, rfl, by exact (show LamOk _ _ _ ⟨_, _, _⟩ (fun E1 => (tMake w.c_Vat (sp_Vat_init w) [] E1 (tCons (tC (.int 0)) (tCons (tC (.int 1)) (tCons (tC (.int 1)) tNil))))) from ⟨LamX.lamS_by (by kernel_rfl), fun _ _ _ _ => rfl, fun _ _ _ _ E1 _ _ hr => have hu := hu_of_ hr; have hu1 := hu1_of_ hr; (pe_make G.m_Vat ok_Vat_init (hr.mono (by decide)) rfl G.c_Vat G.b_Vat_init .nil (passes_call (takes_of rfl rfl rfl rfl) (fun _ _ _ _ h => h)) (pa_cons pe_int (pa_cons pe_int (pa_cons pe_int pa_nil))))⟩)⟩ | 1, _ => ⟨_, rfl, by exact (show LamOk _ _ _ ⟨_, _, _⟩ (fun E1 => (tMake w.c_Vat (sp_Vat_init w) [] E1 (tCons (tC (.int 201)) (tCons (tC (.int 1)) (tCons (tC (.int 1)) tNil))))) from ⟨LamX.lamS_by (by kernel_rfl), fun _ _ _ _ => rfl, fun _ _ _ _ E1 _ _ hr => have hu := hu_of_ hr; have hu1 := hu1_of_ hr; (pe_make G.m_Vat ok_Vat_init (hr.mono (by decide)) rfl G.c_Vat G.b_Vat_init .nil (passes_call (takes_of rfl rfl rfl rfl) (fun _ _ _ _ h => h)) (pa_cons pe_int (pa_cons pe_int (pa_cons pe_int pa_nil))))⟩)⟩ | 2, _ => ⟨_, rfl, by exact (show LamOk _ _ _ ⟨_, _, _⟩ (fun E1 => (tMake w.c_Vat (sp_Vat_init w) [] E1 (tCons (tC (.int 1)) (tCons (tUn (rU fun i => .int (-i)) (tC (.int 1))) (tCons (tC (.int 1)) tNil))))) from ⟨LamX.lamS_by (by kernel_rfl), fun _ _ _ _ => rfl, fun _ _ _ _ E1 _ _ hr => have hu := hu_of_ hr; have hu1 := hu1_of_ hr; (pe_make G.m_Vat ok_Vat_init (hr.mono (by decide)) rfl G.c_Vat G.b_Vat_init .nil (passes_call (takes_of rfl rfl rfl rfl) (fun _ _ _ _ h => h)) (pa_cons pe_int (pa_cons (pe_un un_neg pe_int) (pa_cons pe_int pa_nil))))⟩)⟩ | 3, _ => ⟨_, rfl, by exact (show LamOk _ _ _ ⟨_, _, _⟩ (fun E1 => (tMake w.c_Vat (sp_Vat_init w) [] E1 (tCons (tC (.int 1)) (tCons (tC (.int 1)) (tCons (tC (.int 101)) tNil))))) from ⟨LamX.lamS_by (by kernel_rfl), fun _ _ _ _ => rfl, fun _ _ _ _ E1 _ _ hr => have hu := hu_of_ hr; have hu1 := hu1_of_ hr; (pe_make G.m_Vat ok_Vat_init (hr.mono (by decide)) rfl G.c_Vat G.b_Vat_init .nil (passes_call (takes_of rfl rfl rfl rfl) (fun _ _ _ _ h => h)) (pa_cons pe_int (pa_cons pe_int (pa_cons pe_int pa_nil))))⟩)⟩ | 4, _ => ⟨_, rfl, by exact (show LamOk _ _ _ ⟨_, _, _⟩ (fun E1 => (tMake w.c_Vat (sp_Vat_init w) [] E1 (tCons (tC (.int 1)) (tCons (tC (.int 1)) (tCons (tUn (rU fun i => .int (-i)) (tC (.int 1))) tNil))))) from ⟨LamX.lamS_by (by kernel_rfl), fun _ _ _ _ => rfl, fun _ _ _ _ E1 _ _ hr => have hu := hu_of_ hr; have hu1 := hu1_of_ hr; (pe_make G.m_Vat ok_Vat_init (hr.mono (by decide)) rfl G.c_Vat G.b_Vat_init .nil (passes_call (takes_of rfl rfl rfl rfl) (fun _ _ _ _ h => h)) (pa_cons pe_int (pa_cons pe_int (pa_cons (pe_un un_neg pe_int) pa_nil))))⟩)⟩ | 5, _ => ⟨_, rfl, by exact (show LamOk _ _ _ ⟨_, _, _⟩ (fun E1 => (tMeth w.c_Vat "take_out" (sp_Vat_take_out w) [] E1 (tVar 0) tNil)) from ⟨LamX.lamS_by (by kernel_rfl), fun _ _ _ _ => rfl, fun _ _ _ _ E1 _ _ hr => have hu := hu_of_ hr; have hu1 := hu1_of_ hr; (pe_meth0 (pv 0) G.cls_Vat G.meth_Vat_take_out ok_Vat_take_out (hr.mono (by decide)) G.b_Vat_take_out .nil (passes_call (takes_of rfl rfl rfl rfl) (fun _ _ _ _ h => h)))⟩)⟩ | 6, _ => ⟨_, rfl, by exact (show LamOk _ _ _ ⟨_, _, _⟩ (fun E1 => (tMeth w.c_Vat "hours_for" (sp_Vat_hours_for w) [] E1 (tVar 0) (tCons (tC (.int 1)) tNil))) from ⟨LamX.lamS_by (by kernel_rfl), fun _ _ _ _ => rfl, fun _ _ _ _ E1 _ _ hr => have hu := hu_of_ hr; have hu1 := hu1_of_ hr; (pe_meth (pv 0) G.cls_Vat G.meth_Vat_hours_for ok_Vat_hours_for (hr.mono (by decide)) G.b_Vat_hours_for .nil (passes_call (takes_of rfl rfl rfl rfl) (fun _ _ _ _ h => h)) (pa_cons pe_int pa_nil))⟩)⟩ | 7, _ => ⟨_, rfl, by exact (show LamOk _ _ _ ⟨_, _, _⟩ (fun E1 => (tCall (sp_vats_for w) [] E1 (tCons (tC (.int 0)) (tCons (tLst (tCons (tC (.int 1)) tNil)) tNil)))) from ⟨LamX.lamS_by (by kernel_rfl), fun _ _ _ _ => rfl, fun _ _ _ _ E1 _ _ hr => have hu := hu_of_ hr; have hu1 := hu1_of_ hr; (pe_call ok_vats_for (hr.mono (by decide)) rfl G.g_vats_for G.k_vats_for G.b_vats_for .nil (passes_call (takes_of rfl rfl rfl rfl) (fun _ _ _ _ h => h)) (pa_cons pe_int (pa_cons (pe_lst (pa_cons pe_int pa_nil)) pa_nil)))⟩)⟩ | 8, _ => ⟨_, rfl, by exact (show LamOk _ _ _ ⟨_, _, _⟩ (fun E1 => (tCall (sp_vats_for w) [] E1 (tCons (tC (.int 1)) (tCons (tOp (rMulU w.K) (tLst (tCons (tC (.int 1)) tNil)) (tC (.int 9))) tNil)))) from ⟨LamX.lamS_by (by kernel_rfl), fun _ _ _ _ => rfl, fun _ _ _ _ E1 _ _ hr => have hu := hu_of_ hr; have hu1 := hu1_of_ hr; (pe_call ok_vats_for (hr.mono (by decide)) rfl G.g_vats_for G.k_vats_for G.b_vats_for .nil (passes_call (takes_of rfl rfl rfl rfl) (fun _ _ _ _ h => h)) (pa_cons pe_int (pa_cons (pe_op op_mulU (pe_lst (pa_cons pe_int pa_nil)) pe_int) pa_nil)))⟩)⟩ | 9, _ => ⟨_, rfl, by exact (show LamOk _ _ _ ⟨_, _, _⟩ (fun E1 => (tMeth w.c_Vat "put" (sp_Vat_put w) [] E1 (tVar 0) (tCons (tC (.int 11)) tNil))) from ⟨LamX.lamS_by (by kernel_rfl), fun _ _ _ _ => rfl, fun _ _ _ _ E1 _ _ hr => have hu := hu_of_ hr; have hu1 := hu1_of_ hr; (pe_meth (pv 0) G.cls_Vat G.meth_Vat_put ok_Vat_put (hr.mono (by decide)) G.b_Vat_put .nil (passes_call (takes_of rfl rfl rfl rfl) (fun _ _ _ _ h => h)) (pa_cons pe_int pa_nil))⟩)⟩ | 10, _ => ⟨_, rfl, by exact (show LamOk _ _ _ ⟨_, _, _⟩ (fun E1 => (tMeth w.c_Vat "put" (sp_Vat_put w) [] E1 (tVar 0) (tCons (tC (.int 0)) tNil))) from ⟨LamX.lamS_by (by kernel_rfl), fun _ _ _ _ => rfl, fun _ _ _ _ E1 _ _ hr => have hu := hu_of_ hr; have hu1 := hu1_of_ hr; (pe_meth (pv 0) G.cls_Vat G.meth_Vat_put ok_Vat_put (hr.mono (by decide)) G.b_Vat_put .nil (passes_call (takes_of rfl rfl rfl rfl) (fun _ _ _ _ h => h)) (pa_cons pe_int pa_nil))⟩)⟩ | j + 11, h => absurd h (by omega)) (pv 2)) pe_str (nomark _))), pe_int⟩)) (pe_lst pa_nil) (nomark _)) (pw_or (pt_cmpR (op_neU hu) (C8.pe_gc rfl G.i_MOST_POUNDS) pe_int (nomark _)) (pw_or1 (pt_cmpR (op_neU hu) (pe_meth0 (pv 0) G.cls_Vat G.meth_Vat_go_hour ok_Vat_go_hour (hr.mono (by decide)) G.b_Vat_go_hour .nil (passes_call (takes_of rfl rfl rfl rfl) (fun _ _ _ _ h => h))) pe_int (nomark _)))))) (pss_one (ps_ret pe_bl)) pss_nil) (pss_cons (ps_expr (pe_meth (pv 0) G.cls_Vat G.meth_Vat_put ok_Vat_put (hr.mono (by decide)) G.b_Vat_put .nil (passes_call (takes_of rfl rfl rfl rfl) (fun _ _ _ _ h => h)) (pa_cons pe_int pa_nil))) (pss_one (ps_ret (pe_and (pe_cmpR (op_eqU hu) (pe_lst (pa_cons (pe_meth0 (pv 0) G.cls_Vat G.meth_Vat_go_hour ok_Vat_go_hour (hr.mono (by decide)) G.b_Vat_go_hour .nil (passes_call (takes_of rfl rfl rfl rfl) (fun _ _ _ _ h => h))) (pa_cons (pe_meth0 (pv 0) G.cls_Vat G.meth_Vat_go_hour ok_Vat_go_hour (hr.mono (by decide)) G.b_Vat_go_hour .nil (passes_call (takes_of rfl rfl rfl rfl) (fun _ _ _ _ h => h))) pa_nil))) (pe_lst (pa_cons pe_int (pa_cons pe_int pa_nil))) (nomark _)) (pe_and (pe_cmpR (op_eqU hu) (pe_meth0 (pv 0) G.cls_Vat G.meth_Vat_take_out ok_Vat_take_out (hr.mono (by decide)) G.b_Vat_take_out .nil (passes_call (takes_of rfl rfl rfl rfl) (fun _ _ _ _ h => h))) (pe_tup (pa_cons pe_int (pa_cons pe_int pa_nil))) (nomark _)) (pe_and (pe_cmpR (op_eqU hu) (pe_fld (pv 0) rfl) (pe_lst (pa_cons (pe_tup (pa_cons pe_int (pa_cons pe_str (pa_cons pe_int pa_nil)))) (pa_cons (pe_tup (pa_cons pe_int (pa_cons pe_str (pa_cons pe_int pa_nil)))) (pa_cons (pe_tup (pa_cons pe_int (pa_cons pe_str (pa_cons pe_int pa_nil)))) (pa_cons (pe_tup (pa_cons pe_int (pa_cons pe_str (pa_cons pe_int pa_nil)))) pa_nil))))) (nomark _)) (pe_one (pe_cmpR (op_eqU hu) (pe_fld (pv 0) rfl) pe_int (nomark _))))))))))))⟩
end
end K3

/-! text K2_law -/
namespace K3
open Dy L2 PyProof.Rows PySem.Spec PySem
section
variable {P : Program} {w0 : World} {mg : Str → Option Value} {base : Heap} {w : Wk} {a : Ad}
theorem d_law (G : Fx mg base w a) (ok_Vat_init : FnOk P w0 w.K mg base (L2.CX P w0) 1 a.a_Vat_init a.f_Vat_init ["self", "pounds", "dye", "warm"] (sp_Vat_init w)) (ok_Vat_takes : FnOk P w0 w.K mg base (L2.CX P w0) 5 a.a_Vat_takes a.f_Vat_takes ["self"] (sp_Vat_takes w)) (ok_Vat_in_cloth : FnOk P w0 w.K mg base (L2.CX P w0) 4 a.a_Vat_in_cloth a.f_Vat_in_cloth ["self"] (sp_Vat_in_cloth w)) (ok_Vat_put : FnOk P w0 w.K mg base (L2.CX P w0) 1 a.a_Vat_put a.f_Vat_put ["self", "pounds"] (sp_Vat_put w)) (ok_Vat_take_out : FnOk P w0 w.K mg base (L2.CX P w0) 5 a.a_Vat_take_out a.f_Vat_take_out ["self"] (sp_Vat_take_out w)) (ok_Vat_fill : FnOk P w0 w.K mg base (L2.CX P w0) 1 a.a_Vat_fill a.f_Vat_fill ["self", "ounces"] (sp_Vat_fill w)) (ok_Vat_heat : FnOk P w0 w.K mg base (L2.CX P w0) 1 a.a_Vat_heat a.f_Vat_heat ["self", "degrees"] (sp_Vat_heat w)) (ok_Vat_go_hour : FnOk P w0 w.K mg base (L2.CX P w0) 6 a.a_Vat_go_hour a.f_Vat_go_hour ["self"] (sp_Vat_go_hour w)) (ok_Vat_hours_for : FnOk P w0 w.K mg base (L2.CX P w0) 6 a.a_Vat_hours_for a.f_Vat_hours_for ["self", "ounces"] (sp_Vat_hours_for w)) (ok_Vat_used : FnOk P w0 w.K mg base (L2.CX P w0) 4 a.a_Vat_used a.f_Vat_used ["self"] (sp_Vat_used w)) (ok_vats_for : FnOk P w0 w.K mg base (L2.CX P w0) 4 a.a_vats_for a.f_vats_for ["pounds", "sizes"] (sp_vats_for w)) (ok_law_roll : FnOk P w0 w.K mg base (L2.CX P w0) 1 a.a_law_roll a.f_law_roll ["dice", "many"] (sp_law_roll w)) (ok_law_rounds : FnOk P w0 w.K mg base (L2.CX P w0) 2 a.a_law_rounds a.f_law_rounds ["script", "most"] (sp_law_rounds w)) (ok_law_hour : FnOk P w0 w.K mg base (L2.CX P w0) 1 a.a_law_hour a.f_law_hour ["own"] (sp_law_hour w)) (ok_law_plain : FnOk P w0 w.K mg base (L2.CX P w0) 9 a.a_law_plain a.f_law_plain [] (sp_law_plain w)) {cdv : Value} {A : Around} {outer : List Env} {s : Shared} {H : Hp} {E : XK} (hr : Room 11 (A.deeper (envOfC "law" (defScope s_law) s.heap.objs.size a.a_law (.ref a.k_law)))) : ∃ LO : Nat → Addr → Addr → HO, (∀ i f c, nt (LO i f c) = true) ∧ PSs (cxOf (L2.CX P w0) P w0 w.K mg base N_law "law" (defScope s_law) a.a_law (.ref a.k_law) A outer s H E) (defBody s_law) (t_law w E LO) := by
  have hu := hu_of_ hr
  have hu1 := hu1_of_ hr
  have TB := G.tb_law
  exact ⟨fun i f c => LamD.ho (cxOf (L2.CX P w0) P w0 w.K mg base N_law "law" (defScope s_law) a.a_law (.ref a.k_law) A outer s H E) q_law (([⟨_, _, _⟩, ⟨_, _, _⟩, ⟨_, _, _⟩, ⟨_, _, _⟩, ⟨_, _, _⟩] : List LamD).getD i ⟨default, .Constant .none 0 ⟨0, 0, 0, 0⟩, defScope s_law⟩) f c, fun _ _ _ => rfl, (pss_cons (ps_for (passes_of rfl) rfl (pi_list (pe_call ok_law_rounds (hr.mono (by decide)) rfl G.g_law_rounds G.k_law_rounds G.b_law_rounds .nil (passes_call (takes_of rfl rfl rfl rfl) (fun _ _ _ _ h => h)) (pa_cons (pv 0) (pa_cons pe_int pa_nil)))) (pg_name (i := 1) sc_law.nd rfl (Or.inr rfl)) (pss_cons (ps_par3 (i := 2) (j := 3) (l := 4) rfl sc_law.nd rfl rfl rfl (by decide) (by decide) (by decide) rfl rfl rfl (pa_cons (pe_op op_addU pe_int (pe_call ok_law_roll (hr.mono (by decide)) rfl G.g_law_roll G.k_law_roll G.b_law_roll .nil (passes_call (takes_of rfl rfl rfl rfl) (fun _ _ _ _ h => h)) (pa_cons (pv 1) (pa_cons pe_int pa_nil)))) (pa_cons (pe_call ok_law_roll (hr.mono (by decide)) rfl G.g_law_roll G.k_law_roll G.b_law_roll .nil (passes_call (takes_of rfl rfl rfl rfl) (fun _ _ _ _ h => h)) (pa_cons (pv 1) (pa_cons pe_int pa_nil))) (pa_cons (pe_call ok_law_roll (hr.mono (by decide)) rfl G.g_law_roll G.k_law_roll G.b_law_roll .nil (passes_call (takes_of rfl rfl rfl rfl) (fun _ _ _ _ h => h)) (pa_cons (pv 1) (pa_cons pe_int pa_nil))) pa_nil))) rfl) (pss_cons (ps_asg (pe_tup (pa_cons (pe_make G.m_Vat ok_Vat_init (hr.mono (by decide)) rfl G.c_Vat G.b_Vat_init .nil (passes_call (takes_of rfl rfl rfl rfl) (fun _ _ _ _ h => h)) (pa_cons (pv 2) (pa_cons (pv 3) (pa_cons (pv 4) pa_nil)))) (pa_cons (pe_disp (pps_cons pe_str (pv 3) (pps_cons pe_str (pv 4) (pps_cons pe_str pe_int (pps_cons pe_str pe_int pps_nil)))) (by decide) rfl (by simp) (by decide)) (pa_cons pe_int (pa_cons pe_int pa_nil))))) (pg_tup rfl (pgs_cons (pg_name (i := 5) sc_law.nd rfl (Or.inr rfl)) (pgs_cons (pg_name (i := 6) sc_law.nd rfl (Or.inl rfl)) (pgs_cons (pg_name (i := 7) sc_law.nd rfl (Or.inl rfl)) (pgs_cons (pg_name (i := 8) sc_law.nd rfl (Or.inl rfl)) pgs_nil)))))) (pss_cons (ps_for (passes_of rfl) rfl (pi_range1 rfl G.n_range (pa_cons (pe_call ok_law_roll (hr.mono (by decide)) rfl G.g_law_roll G.k_law_roll G.b_law_roll .nil (passes_call (takes_of rfl rfl rfl rfl) (fun _ _ _ _ h => h)) (pa_cons (pv 1) (pa_cons pe_int pa_nil))) pa_nil)) (pg_name (i := 9) sc_law.nd rfl (Or.inl rfl)) (pss_cons (ps_asg (pe_tup (pa_cons (pe_call ok_law_roll (hr.mono (by decide)) rfl G.g_law_roll G.k_law_roll G.b_law_roll .nil (passes_call (takes_of rfl rfl rfl rfl) (fun _ _ _ _ h => h)) (pa_cons (pv 1) (pa_cons pe_int pa_nil))) (pa_cons (pe_op op_sub (pe_call ok_law_roll (hr.mono (by decide)) rfl G.g_law_roll G.k_law_roll G.b_law_roll .nil (passes_call (takes_of rfl rfl rfl rfl) (fun _ _ _ _ h => h)) (pa_cons (pv 1) (pa_cons pe_int pa_nil))) pe_int) pa_nil))) (pg_tup rfl (pgs_cons (pg_name (i := 10) sc_law.nd rfl (Or.inl rfl)) (pgs_cons (pg_name (i := 11) sc_law.nd rfl (Or.inr rfl)) pgs_nil)))) (pss_cons (ps_if (pt_cmpR (op_eqU hu) (pv 10) pe_int (nomark _)) (pss_cons (ps_set (i := 12) sc_law.nd rfl (Or.inl rfl) (pe_and (pe_cmpR (op_eqU hu) (pe_subU hu1 (pv 6) pe_str (fun _ _ => rfl) (fun _ _ => rfl)) pe_int (nomark _)) (pe_one (pe_chain op_le op_le pe_int (pv 11) (pv 2))))) (pss_cons (ps_if (pt_cmpR (op_eqU hu) (pe_cmpR (op_eqU hu) (pe_told2 (k := 6) rfl G.told G.k_law_told TB rfl rfl (by decide) (hr.mono (by decide)) rfl ⟨LamX.lamS_by (by kernel_rfl), fun _ _ _ _ => rfl, fun _ _ _ _ E1 _ _ hr => have hu := hu_of_ hr; have hu1 := hu1_of_ hr; (pe_meth (pv 5) G.cls_Vat G.meth_Vat_put ok_Vat_put (hr.mono (by decide)) G.b_Vat_put .nil (passes_call (takes_of rfl rfl rfl rfl) (fun _ _ _ _ h => h)) (pa_cons (pv 11) pa_nil))⟩ rfl) pe_str (nomark _)) (pv 12) (nomark _)) (pss_one (ps_ret pe_bl)) pss_nil) (pss_one (ps_asg (pe_ifExp (pt_val (pv 12)) (pe_tup (pa_cons (pv 11) (pa_cons pe_int pa_nil))) (pe_tup (pa_cons (pe_subU hu1 (pv 6) pe_str (fun _ _ => rfl) (fun _ _ => rfl)) (pa_cons (pe_subU hu1 (pv 6) pe_str (fun _ _ => rfl) (fun _ _ => rfl)) pa_nil)))) (pg_tup rfl (pgs_cons (pg_sub (pv 6) pe_str (set_dict hu1)) (pgs_cons (pg_sub (pv 6) pe_str (set_dict hu1)) pgs_nil))))))) (pss_one (ps_if (pt_cmpR (op_eqU hu) (pv 10) pe_int (nomark _)) (pss_cons (ps_set (i := 12) sc_law.nd rfl (Or.inl rfl) (pe_cmpR (op_gtU hu) (pe_subU hu1 (pv 6) pe_str (fun _ _ => rfl) (fun _ _ => rfl)) pe_int (nomark _))) (pss_cons (ps_if (pt_cmpR (op_neU hu) (pe_told2 (k := 6) rfl G.told G.k_law_told TB rfl rfl (by decide) (hr.mono (by decide)) rfl ⟨LamX.lamS_by (by kernel_rfl), fun _ _ _ _ => rfl, fun _ _ _ _ E1 _ _ hr => have hu := hu_of_ hr; have hu1 := hu1_of_ hr; (pe_meth0 (pv 5) G.cls_Vat G.meth_Vat_take_out ok_Vat_take_out (hr.mono (by decide)) G.b_Vat_take_out .nil (passes_call (takes_of rfl rfl rfl rfl) (fun _ _ _ _ h => h)))⟩ rfl) (pe_ifExp (pt_val (pv 12)) (pe_tup (pa_cons (pe_subU hu1 (pv 6) pe_str (fun _ _ => rfl) (fun _ _ => rfl)) (pa_cons (pe_subU hu1 (pv 6) pe_str (fun _ _ => rfl) (fun _ _ => rfl)) pa_nil))) pe_str) (nomark _)) (pss_one (ps_ret pe_bl)) pss_nil) (pss_one (ps_asg (pe_tup (pa_cons pe_int (pa_cons pe_int pa_nil))) (pg_tup rfl (pgs_cons (pg_sub (pv 6) pe_str (set_dict hu1)) (pgs_cons (pg_sub (pv 6) pe_str (set_dict hu1)) pgs_nil))))))) (pss_one (ps_if (pt_cmpR (op_eqU hu) (pv 10) pe_int (nomark _)) (pss_cons (ps_if (pt_cmpR (op_neU hu) (pe_cmpR (op_eqU hu) (pe_told2 (k := 6) rfl G.told G.k_law_told TB rfl rfl (by decide) (hr.mono (by decide)) rfl ⟨LamX.lamS_by (by kernel_rfl), fun _ _ _ _ => rfl, fun _ _ _ _ E1 _ _ hr => have hu := hu_of_ hr; have hu1 := hu1_of_ hr; (pe_meth (pv 5) G.cls_Vat G.meth_Vat_fill ok_Vat_fill (hr.mono (by decide)) G.b_Vat_fill .nil (passes_call (takes_of rfl rfl rfl rfl) (fun _ _ _ _ h => h)) (pa_cons (pv 11) pa_nil))⟩ rfl) pe_str (nomark _)) (pe_cmpR (op_ltU hu) (pv 11) pe_int (nomark _)) (nomark _)) (pss_one (ps_ret pe_bl)) pss_nil) (pss_one (ps_asg (pe_tup (pa_cons (pe_op op_addU (pe_subU hu1 (pv 6) pe_str (fun _ _ => rfl) (fun _ _ => rfl)) (pe_callB (call_max2 rfl) rfl G.n_max boot_max (pa_cons pe_int (pa_cons (pv 11) pa_nil)))) (pa_cons (pe_op op_addU (pv 8) (pe_callB (call_max2 rfl) rfl G.n_max boot_max (pa_cons pe_int (pa_cons (pv 11) pa_nil)))) pa_nil))) (pg_tup rfl (pgs_cons (pg_sub (pv 6) pe_str (set_dict hu1)) (pgs_cons (pg_name (i := 8) sc_law.nd rfl (Or.inl rfl)) pgs_nil)))))) (pss_one (ps_if (pt_cmpR (op_eqU hu) (pv 10) pe_int (nomark _)) (pss_cons (ps_set (i := 12) sc_law.nd rfl (Or.inl rfl) (pe_chain op_le op_le pe_int (pe_op op_addU (pe_subU hu1 (pv 6) pe_str (fun _ _ => rfl) (fun _ _ => rfl)) (pv 11)) pe_int)) (pss_cons (ps_if (pt_cmpR (op_eqU hu) (pe_cmpR (op_eqU hu) (pe_told2 (k := 6) rfl G.told G.k_law_told TB rfl rfl (by decide) (hr.mono (by decide)) rfl ⟨LamX.lamS_by (by kernel_rfl), fun _ _ _ _ => rfl, fun _ _ _ _ E1 _ _ hr => have hu := hu_of_ hr; have hu1 := hu1_of_ hr; (pe_meth (pv 5) G.cls_Vat G.meth_Vat_heat ok_Vat_heat (hr.mono (by decide)) G.b_Vat_heat .nil (passes_call (takes_of rfl rfl rfl rfl) (fun _ _ _ _ h => h)) (pa_cons (pv 11) pa_nil))⟩ rfl) pe_str (nomark _)) (pv 12) (nomark _)) (pss_one (ps_ret pe_bl)) pss_nil) (pss_one (ps_dput hu1 (pv 6) pe_str (pe_op op_addU (pe_subU hu1 (pv 6) pe_str (fun _ _ => rfl) (fun _ _ => rfl)) (pe_op op_mulU (pv 11) (pe_callTy call_int1 rfl G.n_int boot_int (pa_cons (pv 12) pa_nil)))) rfl)))) (pss_cons (ps_set (i := 13) sc_law.nd rfl (Or.inl rfl) (pe_callTy (cr_dictP rfl) rfl G.n_dict boot_dict (pa_cons (LiI.pe_listItems rfl (pv 6) rfl G.n_list boot_list) pa_nil))) (pss_cons (ps_set (i := 14) sc_law.nd rfl (Or.inl rfl) (pe_call ok_law_hour (hr.mono (by decide)) rfl G.g_law_hour G.k_law_hour G.b_law_hour .nil (passes_call (takes_of rfl rfl rfl rfl) (fun _ _ _ _ h => h)) (pa_cons (pv 13) pa_nil))) (pss_cons (ps_if (PW.pt (pw_or (pt_cmpR (op_neU hu) (pe_meth0 (pv 5) G.cls_Vat G.meth_Vat_takes ok_Vat_takes (hr.mono (by decide)) G.b_Vat_takes .nil (passes_call (takes_of rfl rfl rfl rfl) (fun _ _ _ _ h => h))) (pv 14) (nomark _)) (pw_or1 (pt_cmpR (op_neU hu) (pe_meth0 (pv 5) G.cls_Vat G.meth_Vat_go_hour ok_Vat_go_hour (hr.mono (by decide)) G.b_Vat_go_hour .nil (passes_call (takes_of rfl rfl rfl rfl) (fun _ _ _ _ h => h))) (pv 14) (nomark _))))) (pss_one (ps_ret pe_bl)) pss_nil) (pss_one (ps_par (i := 6) (j := 7) rfl sc_law.nd rfl rfl (by decide) rfl rfl (pa_cons (pv 13) (pa_cons (pe_op op_addU (pv 7) (pv 14)) pa_nil)) rfl)))))))))))) (pss_one (ps_if (PW.pt (pw_or (pt_cmpR (op_neU hu) (pe_tup (pa_cons (pe_fld (pv 5) rfl) (pa_cons (pe_fld (pv 5) rfl) (pa_cons (pe_fld (pv 5) rfl) (pa_cons (pe_meth0 (pv 5) G.cls_Vat G.meth_Vat_in_cloth ok_Vat_in_cloth (hr.mono (by decide)) G.b_Vat_in_cloth .nil (passes_call (takes_of rfl rfl rfl rfl) (fun _ _ _ _ h => h))) (pa_cons (pe_meth0 (pv 5) G.cls_Vat G.meth_Vat_used ok_Vat_used (hr.mono (by decide)) G.b_Vat_used .nil (passes_call (takes_of rfl rfl rfl rfl) (fun _ _ _ _ h => h))) pa_nil)))))) (pe_tup (pa_cons (pe_subU hu1 (pv 6) pe_str (fun _ _ => rfl) (fun _ _ => rfl)) (pa_cons (pe_subU hu1 (pv 6) pe_str (fun _ _ => rfl) (fun _ _ => rfl)) (pa_cons (pe_subU hu1 (pv 6) pe_str (fun _ _ => rfl) (fun _ _ => rfl)) (pa_cons (pe_subU hu1 (pv 6) pe_str (fun _ _ => rfl) (fun _ _ => rfl)) (pa_cons (pv 7) pa_nil)))))) (nomark _)) (pw_or1 (pt_cmpR (op_neU hu) (pe_op op_addU (pv 3) (pv 8)) (pe_op op_addU (pe_fld (pv 5) rfl) (pe_meth0 (pv 5) G.cls_Vat G.meth_Vat_used ok_Vat_used (hr.mono (by decide)) G.b_Vat_used .nil (passes_call (takes_of rfl rfl rfl rfl) (fun _ _ _ _ h => h)))) (nomark _))))) (pss_one (ps_ret pe_bl)) pss_nil))))) (pss_cons (ps_if (pt_cmpR (op_gtU hu) (pe_subU hu1 (pv 6) pe_str (fun _ _ => rfl) (fun _ _ => rfl)) pe_int (nomark _)) (pss_cons (ps_par3 (i := 15) (j := 13) (l := 14) rfl sc_law.nd rfl rfl rfl (by decide) (by decide) (by decide) rfl rfl rfl (pa_cons (pe_call ok_law_roll (hr.mono (by decide)) rfl G.g_law_roll G.k_law_roll G.b_law_roll .nil (passes_call (takes_of rfl rfl rfl rfl) (fun _ _ _ _ h => h)) (pa_cons (pv 1) (pa_cons pe_int pa_nil))) (pa_cons (pe_callTy (cr_dictP rfl) rfl G.n_dict boot_dict (pa_cons (LiI.pe_listItems rfl (pv 6) rfl G.n_list boot_list) pa_nil)) (pa_cons pe_non pa_nil))) rfl) (pss_cons (ps_for (passes_of rfl) rfl (pi_range1 rfl G.n_range (pa_cons pe_int pa_nil)) (pg_name (i := 16) sc_law.nd rfl (Or.inl rfl)) (pss_cons (ps_if (PW.pt (pw_and (pt_cmpR op_isN (pv 14) pe_non (nomark _)) (pw_and1 (pt_cmpR op_ge (pe_subU hu1 (pv 13) pe_str (fun _ _ => rfl) (fun _ _ => rfl)) (pv 15) (nomark _))))) (pss_one (ps_set (i := 14) sc_law.nd rfl (Or.inl rfl) (pv 16))) pss_nil) (pss_one (ps_expr (pe_call ok_law_hour (hr.mono (by decide)) rfl G.g_law_hour G.k_law_hour G.b_law_hour .nil (passes_call (takes_of rfl rfl rfl rfl) (fun _ _ _ _ h => h)) (pa_cons (pv 13) pa_nil)))))) (pss_one (ps_if (PW.pt (pw_or (pt_cmpR (op_neU hu) (pe_meth (pv 5) G.cls_Vat G.meth_Vat_hours_for ok_Vat_hours_for (hr.mono (by decide)) G.b_Vat_hours_for .nil (passes_call (takes_of rfl rfl rfl rfl) (fun _ _ _ _ h => h)) (pa_cons (pv 15) pa_nil)) (pv 14) (nomark _)) (pw_or1 (pt_cmpR (op_neU hu) (pe_fld (pv 5) rfl) (pe_subU hu1 (pv 6) pe_str (fun _ _ => rfl) (fun _ _ => rfl)) (nomark _))))) (pss_one (ps_ret pe_bl)) pss_nil)))) (pss_one (ps_if (pt_cmpR (op_neU hu) (pe_told2 (k := 6) rfl G.told G.k_law_told TB rfl rfl (by decide) (hr.mono (by decide)) rfl ⟨LamX.lamS_by (by kernel_rfl), fun _ _ _ _ => rfl, fun _ _ _ _ E1 _ _ hr => have hu := hu_of_ hr; have hu1 := hu1_of_ hr; (pe_meth (pv 5) G.cls_Vat G.meth_Vat_hours_for ok_Vat_hours_for (hr.mono (by decide)) G.b_Vat_hours_for .nil (passes_call (takes_of rfl rfl rfl rfl) (fun _ _ _ _ h => h)) (pa_cons pe_int pa_nil))⟩ rfl) pe_str (nomark _)) (pss_one (ps_ret pe_bl)) pss_nil))) (pss_cons (ps_asg (pe_tup (pa_cons (pe_lc (own := [("k", 19)]) rfl sc_law.nd (pi_range1 rfl G.n_range (pa_cons (pe_call ok_law_roll (hr.mono (by decide)) rfl G.g_law_roll G.k_law_roll G.b_law_roll .nil (passes_call (takes_of rfl rfl rfl rfl) (fun _ _ _ _ h => h)) (pa_cons (pv 1) (pa_cons pe_int pa_nil))) pa_nil)) (blkOk_by (by kernel_rfl)) (fun _ _ _ _ _ => (pg_name (i := 19) sc_law.nd rfl (Or.inl rfl))) (fun _ _ _ _ _ => pts_nil) (fun _ _ _ _ _ => (pe_op op_addU pe_int (pe_call ok_law_roll (hr.mono (by decide)) rfl G.g_law_roll G.k_law_roll G.b_law_roll .nil (passes_call LamX.takes0 (fun _ _ _ _ h => h)) (pa_cons (pv 1) (pa_cons pe_int pa_nil)))))) (pa_cons (pe_op op_addU pe_int (pe_call ok_law_roll (hr.mono (by decide)) rfl G.g_law_roll G.k_law_roll G.b_law_roll .nil (passes_call (takes_of rfl rfl rfl rfl) (fun _ _ _ _ h => h)) (pa_cons (pv 1) (pa_cons pe_int pa_nil)))) pa_nil))) (pg_tup rfl (pgs_cons (pg_name (i := 17) sc_law.nd rfl (Or.inr rfl)) (pgs_cons (pg_name (i := 18) sc_law.nd rfl (Or.inr rfl)) pgs_nil)))) (pss_cons (ps_set (i := 20) sc_law.nd rfl (Or.inl rfl) (pe_lst (pa_cons (pe_tup pa_nil) pa_nil))) (pss_cons (ps_for (passes_of rfl) rfl (pi_range1 rfl G.n_range (pa_cons (pe_callB call_lenU rfl G.n_len boot_len (pa_cons (pv 17) pa_nil)) pa_nil)) (pg_name (i := 19) sc_law.nd rfl (Or.inr rfl)) (pss_one (ps_set (i := 20) sc_law.nd rfl (Or.inl rfl) (pe_op op_addU (pv 20) (pe_lc (own := [("row", 21)]) rfl sc_law.nd (pi_list (pv 20)) (blkOk_by (by kernel_rfl)) (fun _ _ _ _ _ => (pg_name (i := 21) sc_law.nd rfl (Or.inl rfl))) (fun _ _ _ _ _ => pts_nil) (fun _ _ _ _ _ => (pe_op op_addU (pv 21) (pe_tup (pa_cons (pv 19) pa_nil))))))))) (pss_cons (ps_set (i := 12) sc_law.nd rfl (Or.inl rfl) (pe_callB (cr_sortB hu) rfl G.n_sorted boot_sorted (pa_cons (pe_lc (own := [("row", 21)]) rfl sc_law.nd (pi_list (pv 20)) (blkOk_by (by kernel_rfl)) (fun _ _ _ _ _ => (pg_name (i := 21) sc_law.nd rfl (Or.inl rfl))) (fun _ _ _ _ _ => (pts_one (pt_cmpR op_ge (pe_callB (cr_sum rfl) rfl G.n_sum boot_sum (pa_cons (pe_lc (own := [("k", 19)]) rfl sc_law.nd (pi_tup (pv 21)) (blkOk_by (by kernel_rfl)) (fun _ _ _ _ _ => (pg_name (i := 19) sc_law.nd rfl (Or.inl rfl))) (fun _ _ _ _ _ => pts_nil) (fun _ _ _ _ _ => (pe_subU hu1 (pv 17) (pv 19) (fun _ _ => rfl) (fun _ _ => rfl)))) pa_nil)) (pv 18) (nomark _)))) (fun _ _ _ _ _ => (pe_tup (pa_cons (pe_callB call_lenU rfl G.n_len boot_len (pa_cons (pv 21) pa_nil)) (pa_cons (pv 21) pa_nil))))) pa_nil))) (pss_one (ps_if (pt_cmpR (op_neU hu) (pe_call ok_vats_for (hr.mono (by decide)) rfl G.g_vats_for G.k_vats_for G.b_vats_for .nil (passes_call (takes_of rfl rfl rfl rfl) (fun _ _ _ _ h => h)) (pa_cons (pv 18) (pa_cons (pv 17) pa_nil))) (pe_ifExp (pt_cmpR (op_neU hu) (pv 12) (pe_lst pa_nil) (nomark _)) (pe_subU hu1 (pe_subU hu1 (pv 12) pe_int (fun _ _ => rfl) (fun _ _ => rfl)) pe_int (fun _ _ => rfl) (fun _ _ => rfl)) pe_non) (nomark _)) (pss_one (ps_ret pe_bl)) pss_nil))))))))))) (pss_one (ps_ret (pe_call0 ok_law_plain (hr.mono (by decide)) rfl G.g_law_plain G.k_law_plain G.b_law_plain .nil (passes_call (takes_of rfl rfl rfl rfl) (fun _ _ _ _ h => h))))))⟩
end
end K3

/-! text K3a -/
namespace K3
open Dy L2 PyProof.Rows PySem.Spec PySem
/-! ### short words -/
local macro_rules | `(tactic| walk_at "pu") => `(tactic| first | assumption | exact Pu.refl | (refine Pu.trans ?_ (by assumption); walk_at "pu"))
local macro_rules | `(tactic| walk_at "le") => `(tactic| first | assumption | exact Le.refl | (exact Pu.le (by walk_at "pu")) | (refine Le.trans ?_ (by assumption); walk_at "le") | (refine Le.app ?_ (by assumption); walk_at "le"))
local macro_rules | `(tactic| walk_at "d") => `(tactic| first | assumption | exact D.int _ | exact D.str _ | exact D.non | exact D.bl _ | exact D.obj _ | (refine D.lm ?_ (by assumption); walk_at "le"))
local macro_rules | `(tactic| walk_at "sd") => `(tactic| first | assumption | omega | decide | (simp; done))
local macro_rules | `(tactic| walk_at "rv") => `(tactic| with_reducible first
  | exact rv_add | exact rv_sub | exact rv_lt | exact rv_gt | exact rv_le | exact rv_ge | exact rv_isNone | exact rv_notNone
  | (refine rv_mul ?_; first | exact Or.inl ⟨by omega, by omega⟩ | exact Or.inr ⟨by omega, by omega⟩)
  | (refine rv_div ?_ ?_ <;> first | decide | omega)
  | (refine rv_mod ?_; first | decide | omega | assumption)
  | (refine rv_pow ?_; decide)
  | exact rv_eqI | exact rv_neI | exact rv_eqS | exact rv_neS | exact rv_eqB | exact rv_neB
  | (refine rv_eqP ?_ ?_ <;> first | assumption | (with_unfolding_all rfl)) | (refine rv_neP ?_ ?_ <;> first | assumption | (with_unfolding_all rfl)))
local macro_rules | `(tactic| walk_at "ea") => `(tactic| with_reducible first | exact ea_nil | (refine ea_cons ?_ ?_; (walk_at "ev"); (walk_at "ea")))
local macro_rules | `(tactic| walk_at "ev") => `(tactic| with_reducible first
  | exact ev_int | exact ev_str | exact ev_non | exact ev_bl
  | (refine ev_var (h := ?hs) (hd := ?hd); (case hs => with_unfolding_all rfl); (case hd => walk_at "d"))
  | (refine ev_op ?_ ?_ ?_; (walk_at "ev"); (walk_at "ev"); (walk_at "rv"))
  | (refine ev_un ?_ ?_; (walk_at "ev"); exact ru_neg)
  | (refine ev_tup ?_ ?_; (walk_at "ea"); (with_unfolding_all (first | decide | simp)))
  | (refine ev_cb ?_ ?_; (walk_at "ea"); (walk_at "rc"))
  | walk_at "own")
local macro_rules | `(tactic| walk_at "rc") => `(tactic| with_reducible first
  | exact rc_abs | exact rc_int | exact rc_intB | exact rc_max2 | exact rc_min2 | exact rc_lenL | exact rc_lenT)
local macro_rules | `(tactic| walk_at "et") => `(tactic| with_reducible first
  | (refine et_test ?_; walk_at "ev")
  | (refine et_B ?_; walk_at "ev")
  | (refine et_not ?_; walk_at "et")
  | (refine et_and ?_ (fun _ => ?_); (walk_at "et"); (walk_at "et"))
  | (refine et_or ?_ (fun _ => ?_); (walk_at "et"); (walk_at "et")))
section
variable {w : Wk} {M : List Addr} {H : Hp} {σ : L2.St}
theorem mem_T {w : Wk} (h : Wf3 w) : ∀ t ∈ w.T, ∀ u ∈ w.T, t.P = u.P → t = u := by
  obtain ⟨nd, _, _⟩ := h
  simp only [List.nodup_cons, List.mem_cons, List.not_mem_nil, or_false, not_or, not_false_eq_true, List.nodup_nil, and_true] at nd
  obtain ⟨⟨a1, a2, a3, a4⟩, ⟨b1, b2, b3⟩, ⟨c1, c2⟩, d1⟩ := nd
  intro t ht u hu e
  simp only [Wk.T, List.mem_cons, List.not_mem_nil, or_false] at ht hu
  rcases ht with rfl | rfl | rfl | rfl | rfl <;> rcases hu with rfl | rfl | rfl | rfl | rfl <;> first | rfl | exact absurd e (by assumption) | exact absurd e.symm (by assumption)
/-- the vat's attributes -/
theorem vat_fld {te : TE} {v : VatM} {f : Str} {d : Dt} (g : Wf3 w) (h : Ev w.K w.T M te σ H (vatD w v)) (hf : f ∈ vns) (hl : (vns.zip [.int v.pounds, .int v.dye, .int v.warm, .int v.cloth, oI v.since, .int v.hour, .lst (v.diary.map rowD)]).lookup f = some d) : Ev w.K w.T M (tFld w.K te f) σ H d := ev_fld h g.cls (g.na f hf) hl
theorem pure_in_cloth (g : Wf3 w) (vs : List V) (Q : VK) (E : XK) (h : sp_Vat_in_cloth w vs H Q E) : t_Vat_in_cloth w E { nx := fun _ H' => Q .non H', rt := Q } (start N_Vat_in_cloth vs) H := by
  obtain ⟨M, ds, d, _, wf, r, ⟨v, ok, rfl, rfl⟩, q⟩ := h
  obtain ⟨s, rfl, ds⟩ := all1 r
  have e0 : Ev w.K w.T M (tVar 0) (start N_Vat_in_cloth [s]) H (vatD w v) := ev_var rfl ds
  refine st_seq (st_if (et_test (ev_op (vat_fld g e0 (by decide) rfl) ev_int rv_eqI)) (fun hb H1 p1 => ?_) fun hb H1 p1 => ?_)
  · skip
    refine st_ret (K := w.K) (M := M) ev_int fun u H2 p2 du => q u H2 (p1.trans p2) ?_
    rw [inCloth, if_pos (by simpa using hb)]
    exact du
  · skip
    have hc : v.cloth ≠ 0 := by simpa using hb
    obtain ⟨sn, hs⟩ := ok.since hc
    have e1 := e0.mono p1
    refine st_ret (ev_sumG (α := Int × Str × Int) (xs := v.diary) (enc := rowD) (p := fun r => isT r && decide (sn ≤ r.1)) (f := fun r => r.2.2) (Bd := fun r H2 σ2 => σ2 = (((wipe (start N_Vat_in_cloth [s]) [1, 2, 3]).set 1 (some (.int r.1))).set 2 (some (.str r.2.1))).set 3 (some (.int r.2.2)))
      (wf.pu p1) (by simp [Wk.T]) (fun t ht e => mem_T g t ht _ (by simp [Wk.T]) e) (src_list (vat_fld g e1 (by decide) rfl)) (by have := ok.len; omega) (fun r hr _ => ok.bd r hr) ?_ ?_ ?_ ?_) fun u H2 p2 du => q u H2 (p1.trans p2) ?_
    · exact fun r hr H2 v' p2 dv Q' k => g3 dv fun a b c ha hb hc => by
        rw [ha.intR, hb.strR, hc.intR]
        exact k _ rfl
    · rintro r H2 σ2 rfl
      rfl
    · rintro r hr H2 σ2 p2 rfl
      have e2 : Ev w.K w.T M (tVar 0) ((((wipe (start N_Vat_in_cloth [s]) [1, 2, 3]).set 1 (some (.int r.1))).set 2 (some (.str r.2.1))).set 3 (some (.int r.2.2))) H2 (vatD w v) := ev_var rfl (ds.pu (p1.trans p2))
      have e3 := vat_fld (f := "since") g e2 (by decide) rfl
      rw [hs] at e3
      have t1 := et_and (et_test (ev_op (K := w.K) (M := M) (T := w.T) (σ := (((wipe (start N_Vat_in_cloth [s]) [1, 2, 3]).set 1 (some (.int r.1))).set 2 (some (.str r.2.1))).set 3 (some (.int r.2.2))) (H := H2) (ta := tVar 2) (tb := tC (.str "takes")) (ev_var rfl (.str r.2.1)) ev_str rv_eqS))
        fun _ => et_test (ev_op (ta := tVar 1) (ev_var rfl (.int r.1)) e3 rv_ge)
      exact t1.is rfl
    · rintro r hr _ H2 σ2 p2 rfl
      exact ev_var rfl (.int _)
    · rw [inCloth, if_neg hc, inS, hs]
      exact du
theorem pure_used (g : Wf3 w) (vs : List V) (Q : VK) (E : XK) (h : sp_Vat_used w vs H Q E) : t_Vat_used w E { nx := fun _ H' => Q .non H', rt := Q } (start N_Vat_used vs) H := by
  obtain ⟨M, ds, d, _, wf, r, ⟨v, ok, rfl, rfl⟩, q⟩ := h
  obtain ⟨s, rfl, ds⟩ := all1 r
  have e1 : Ev w.K w.T M (tVar 0) (start N_Vat_used [s]) H (vatD w v) := ev_var rfl ds
  refine st_ret (ev_sumG (α := Int × Str × Int) (xs := v.diary) (enc := rowD) (p := isT) (f := fun r => r.2.2) (Bd := fun r H2 σ2 => σ2 = (((wipe (start N_Vat_used [s]) [1, 2, 3]).set 1 (some (.int r.1))).set 2 (some (.str r.2.1))).set 3 (some (.int r.2.2)))
      wf (by simp [Wk.T]) (fun t ht e => mem_T g t ht _ (by simp [Wk.T]) e) (src_list (vat_fld g e1 (by decide) rfl)) (by have := ok.len; omega) (fun r hr _ => ok.bd r hr) ?_ ?_ ?_ ?_) fun u H2 p2 du => q u H2 p2 du
  · exact fun r hr H2 v' p2 dv Q' k => g3 dv fun a b c ha hb hc => by
      rw [ha.intR, hb.strR, hc.intR]
      exact k _ rfl
  · rintro r H2 σ2 rfl
    rfl
  · rintro r hr H2 σ2 p2 rfl
    refine EvT.is (et_test (ev_op (K := w.K) (M := M) (ta := tVar 2) (tb := tC (.str "takes")) (ev_var rfl (.str r.2.1)) ev_str rv_eqS)) ?_
    rfl
  · rintro r hr _ H2 σ2 p2 rfl
    exact ev_var rfl (.int _)
theorem pure_takes (g : Wf3 w) (vs : List V) (Q : VK) (E : XK) (h : sp_Vat_takes w vs H Q E) : t_Vat_takes w E { nx := fun _ H' => Q .non H', rt := Q } (start N_Vat_takes vs) H := by
  obtain ⟨M, ds, d, _, wf, r, ⟨v, ok, rfl, rfl⟩, q⟩ := h
  obtain ⟨s, rfl, ds⟩ := all1 r
  have e0 : Ev w.K w.T M (tVar 0) (start N_Vat_takes [s]) H (vatD w v) := ev_var rfl ds
  have fc := vat_fld (f := "cloth") g e0 (by decide) rfl
  have fw := vat_fld (f := "warm") g e0 (by decide) rfl
  have fd := vat_fld (f := "dye") g e0 (by decide) rfl
  refine st_seq (st_if (et_or (et_test (ev_op fc ev_int rv_eqI)) fun _ => et_test (ev_op fw ev_int rv_lt)) (fun hb H1 p1 => ?_) fun hb H1 p1 => ?_)
  · skip
    refine st_ret (K := w.K) (M := M) ev_int fun u H2 p2 du => q u H2 (p1.trans p2) ?_
    rw [takesM, if_pos (by simpa using hb)]
    exact du
  · skip
    have hn : ¬ (v.cloth = 0 ∨ v.warm < 20) := by simpa using hb
    refine st_seq (st_asg (ev_op ev_int (ev_op (ev_op ev_int (fd.mono p1) rv_sub) ev_int (rv_div (by decide) (by decide))) rv_sub) fun v1 H2 p2 d1 => ?_)
    rw [d1.intR]
    have fin : ∀ (x : Int) H3, Pu w.T H H3 → x = dropM v.dye v.warm → tRet (tCB (fun xs H Q => ∃ i j, xs = [.int i, .int j] ∧ Q (.int (if j < i then j else i)) H) (tCons (tVar 1) (tCons (tOp (rI0 fun i j => .int (i - j)) (tOp (rMulU w.K) (tC (.int 20)) (tFld w.K (tVar 0) "cloth")) (tMeth w.c_Vat "in_cloth" (sp_Vat_in_cloth w) [] E (tVar 0) tNil)) tNil)))
        { nx := fun _ H' => Q .non H', rt := Q } [some s, some (.int x)] H3 := fun x H3 p3 ex => by
      have e3 : Ev w.K w.T M (tVar 0) [some s, some (.int x)] H3 (vatD w v) := ev_var rfl (ds.pu p3)
      refine st_ret (ev_cb (ea_cons (ev_var rfl (.int x)) (ea_cons (ev_op (ev_op ev_int (vat_fld (f := "cloth") g e3 (by decide) rfl) (rv_mul (Or.inl ⟨by decide, by decide⟩))) (ev_meth e3 (zip_none (by decide)) ea_nil (spV_D (wf.pu p3) rfl ⟨v, ok, rfl, rfl⟩)) rv_sub) ea_nil)) rc_min2) fun u H4 p4 du => q u H4 (p3.trans p4) ?_
      rw [takesM, if_neg hn, ← ex]
      exact du
    refine st_seq (st_if (et_test (ev_op (K := w.K) (M := M) (tb := tC (.int 60)) (vat_fld (f := "warm") g (ev_var rfl (ds.pu (p1.trans p2))) (by decide) rfl) ev_int rv_lt)) (fun hb2 H3 p3 => ?_) fun hb2 H3 p3 => ?_)
    · refine st_augI (K := w.K) (T := w.T) (M := M) (b := 2) (f := fun i j => i / j) rfl ev_int ⟨by decide, by decide⟩ fun H4 p4 => ?_
      refine fin _ H4 (p1.trans (p2.trans (p3.trans p4))) ?_
      rw [dropM, if_pos (by simpa using hb2)]
    · refine fin _ H3 (p1.trans (p2.trans p3)) ?_
      rw [dropM, if_neg (by simpa using hb2)]
end
end K3

/-! text K3b -/
namespace K3
open Dy L2 PyProof.Rows PySem.Spec PySem
/-! ### short words -/
local macro_rules | `(tactic| walk_at "pu") => `(tactic| first | assumption | exact Pu.refl | (refine Pu.trans ?_ (by assumption); walk_at "pu"))
local macro_rules | `(tactic| walk_at "le") => `(tactic| first | assumption | exact Le.refl | (exact Pu.le (by walk_at "pu")) | (refine Le.trans ?_ (by assumption); walk_at "le") | (refine Le.app ?_ (by assumption); walk_at "le"))
local macro_rules | `(tactic| walk_at "d") => `(tactic| first | assumption | exact D.int _ | exact D.str _ | exact D.non | exact D.bl _ | exact D.obj _ | (refine D.lm ?_ (by assumption); walk_at "le"))
local macro_rules | `(tactic| walk_at "sd") => `(tactic| first | assumption | omega | decide | (simp; done))
local macro_rules | `(tactic| walk_at "rv") => `(tactic| with_reducible first
  | exact rv_add | exact rv_sub | exact rv_lt | exact rv_gt | exact rv_le | exact rv_ge | exact rv_isNone | exact rv_notNone
  | (refine rv_mul ?_; first | exact Or.inl ⟨by omega, by omega⟩ | exact Or.inr ⟨by omega, by omega⟩)
  | (refine rv_div ?_ ?_ <;> first | decide | omega)
  | (refine rv_mod ?_; first | decide | omega | assumption)
  | (refine rv_pow ?_; decide)
  | exact rv_eqI | exact rv_neI | exact rv_eqS | exact rv_neS | exact rv_eqB | exact rv_neB
  | (refine rv_eqP ?_ ?_ <;> first | assumption | (with_unfolding_all rfl)) | (refine rv_neP ?_ ?_ <;> first | assumption | (with_unfolding_all rfl)))
local macro_rules | `(tactic| walk_at "ea") => `(tactic| with_reducible first | exact ea_nil | (refine ea_cons ?_ ?_; (walk_at "ev"); (walk_at "ea")))
local macro_rules | `(tactic| walk_at "ev") => `(tactic| with_reducible first
  | exact ev_int | exact ev_str | exact ev_non | exact ev_bl
  | (refine ev_var (h := ?hs) (hd := ?hd); (case hs => with_unfolding_all rfl); (case hd => walk_at "d"))
  | (refine ev_op ?_ ?_ ?_; (walk_at "ev"); (walk_at "ev"); (walk_at "rv"))
  | (refine ev_un ?_ ?_; (walk_at "ev"); exact ru_neg)
  | (refine ev_tup ?_ ?_; (walk_at "ea"); (with_unfolding_all (first | decide | simp)))
  | (refine ev_cb ?_ ?_; (walk_at "ea"); (walk_at "rc"))
  | walk_at "own")
local macro_rules | `(tactic| walk_at "rc") => `(tactic| with_reducible first
  | exact rc_abs | exact rc_int | exact rc_intB | exact rc_max2 | exact rc_min2 | exact rc_lenL | exact rc_lenT)
local macro_rules | `(tactic| walk_at "et") => `(tactic| with_reducible first
  | (refine et_test ?_; walk_at "ev")
  | (refine et_B ?_; walk_at "ev")
  | (refine et_not ?_; walk_at "et")
  | (refine et_and ?_ (fun _ => ?_); (walk_at "et"); (walk_at "et"))
  | (refine et_or ?_ (fun _ => ?_); (walk_at "et"); (walk_at "et")))
section
variable {w : Wk} {M : List Addr} {H H1 H2 G : Hp} {σ : L2.St} {p d dx : Addr} {v v' : VatM} {rows : List V}
theorem dOpt (s : Option Int) : D w.K M H (oV s) (oI s) := by
  cases s with
  | none => exact .non
  | some i => exact .int i
/-- an attribute of the vat at p -/
theorem fldM {te : TE} {f : Str} {x : V} {y : Dt} (g : Wf3 w) (h : Ev w.K w.T M te σ H (.obj p)) (hi : H p = some (.ins w.c_Vat dx (vatL v d))) (hf : f ∈ vns) (hl : (vatL v d).lookup f = some x) (hd : D w.K M H x y) : Ev w.K w.T M (tFld w.K te f) σ H y := ev_fldM h hi g.cls (g.na f hf) hl hd
theorem vatD_of (hi : H p = some (.ins w.c_Vat dx (vatL v d))) (hd : H d = some (.lst rows)) (r : DAll w.K M H rows (v.diary.map rowD)) : D w.K [] H (.ref p) (vatD w v) :=
  .ins (by simp) hi rfl (.cons (.int _) (.cons (.int _) (.cons (.int _) (.cons (.int _) (.cons (dOpt _) (.cons (.int _) (.cons (.lst (by simp) hd r.nl) .nil)))))))
theorem vlen : (vatL v d).length < 1000 := by show 7 < 1000; decide
/-- behind some deeds: the vat stands as v, nothing besides has changed since H -/
structure At (w : Wk) (M : List Addr) (H : Hp) (p d dx : Addr) (rows : List V) (v : VatM) (G : Hp) : Prop where
  hi : G p = some (.ins w.c_Vat dx (vatL v d))
  hd : G d = some (.lst rows)
  r : DAll w.K M G rows (v.diary.map rowD)
  le : Le w.T [p, d] H [p, d] G
  hp : p ∈ M
  hm : d ∈ M
theorem At.ne (a : At w M H p d dx rows v G) : d ≠ p := ne_of a.hd a.hi (by intro z; cases z)
theorem At.pu {G' : Hp} (a : At w M H p d dx rows v G) (q : Pu w.T G G') : At w M H p d dx rows v G' := ⟨q.at a.hi, q.at a.hd, a.r.pu q, a.le.app q, a.hp, a.hm⟩
theorem At.set {f : Str} {x : V} (a : At w M H p d dx rows v G) (e : putF f x (vatL v d) = vatL v' d) (ed : v'.diary = v.diary) : At w M H p d dx rows v' (upd G p (.ins w.c_Vat dx (putF f x (vatL v d)))) := by
  rw [e]
  have l : Le w.T [p, d] G [p, d] (upd G p (.ins w.c_Vat dx (vatL v' d))) := Le.mut (by simp) a.hi
  refine ⟨upd_same, by rw [upd_ne a.ne]; exact a.hd, ?_, a.le.trans l, a.hp, a.hm⟩
  rw [ed]
  exact a.r.le (l.wide (by simp [a.hp, a.hm]))
theorem At.row {u : V} {y : Int × Str × Int} (a : At w M H p d dx rows v G) (du : D w.K M G u (rowD y)) (e : v' = { v with diary := v.diary ++ [y] }) : At w M H p d dx (rows ++ [u]) v' (upd G d (.lst (rows ++ [u]))) := by
  subst e
  have l : Le w.T [p, d] G [p, d] (upd G d (.lst (rows ++ [u]))) := Le.mut (by simp) a.hd
  have lm := l.wide (M := M) (by simp [a.hp, a.hm])
  refine ⟨by rw [upd_ne a.ne.symm]; exact a.hi, upd_same, ?_, a.le.trans l, a.hp, a.hm⟩
  show DAll w.K M _ (rows ++ [u]) ((v.diary ++ [y]).map rowD)
  rw [List.map_append]
  exact (a.r.le lm).snoc (du.le lm)
theorem At.of (hp : p ∈ M) (hm : d ∈ M) (h : H p = some (.ins w.c_Vat dx (vatL v d))) (h2 : H d = some (.lst rows)) (r : DAll w.K M H rows (v.diary.map rowD)) : At w M H p d dx rows v H := ⟨h, h2, r, Le.refl, hp, hm⟩
theorem At.vat (a : At w M H p d dx rows v G) : VatAt w M G p d v := ⟨dx, rows, a.hi, a.hd, a.r⟩
theorem At.self (a : At w M H p d dx rows v G) : D w.K [] G (.ref p) (vatD w v) := vatD_of a.hi a.hd a.r
theorem At.fld {te : TE} {f : Str} {x : V} {y : Dt} (a : At w M H p d dx rows v G) (g : Wf3 w) (h : Ev w.K w.T M te σ G (.obj p)) (hf : f ∈ vns) (hl : (vatL v d).lookup f = some x) (hd : D w.K M G x y) : Ev w.K w.T M (tFld w.K te f) σ G y := fldM g h a.hi hf hl hd
/-- self.f = e -/
theorem At.put {f : Str} {x : V} {y : Dt} {tv : TE} {E : Ends} (a : At w M H p d dx rows v G) (g : Wf3 w) (e0 : Ev w.K w.T M (tVar 0) σ G (.obj p)) (hf : f ∈ vns) (h : Ev w.K w.T M tv σ G y) (ux : ∀ G' u, D w.K M G' u y → u = x) (e : putF f x (vatL v d) = vatL v' d) (ed : v'.diary = v.diary)
    (k : ∀ G', At w M H p d dx rows v' G' → E.nx σ G') : sFld w.K (tVar 0) tv f E σ G := st_fld e0 a.hi h g.cls (g.na f hf) vlen fun u G1 p1 du => by
  rw [ux _ _ du]
  exact k _ ((a.pu p1).set e ed)
theorem At.aug {f : Str} {i j : Int} {tv : TE} {E : Ends} (a : At w M H p d dx rows v G) (g : Wf3 w) (e0 : Ev w.K w.T M (tVar 0) σ G (.obj p)) (hf : f ∈ vns) (hl : (vatL v d).lookup f = some (.int i)) (h : Ev w.K w.T M tv σ G (.int j)) (e : putF f (.int (i + j)) (vatL v d) = vatL v' d) (ed : v'.diary = v.diary)
    (k : ∀ G', At w M H p d dx rows v' G' → E.nx σ G') : sFldAug w.K (tVar 0) tv rAdd f E σ G := st_fldAug e0 a.hi hl h g.cls (g.na f hf) vlen fun G1 p1 => k _ ((a.pu p1).set e ed)
theorem At.sub {f : Str} {i j : Int} {tv : TE} {E : Ends} (a : At w M H p d dx rows v G) (g : Wf3 w) (e0 : Ev w.K w.T M (tVar 0) σ G (.obj p)) (hf : f ∈ vns) (hl : (vatL v d).lookup f = some (.int i)) (h : Ev w.K w.T M tv σ G (.int j)) (e : putF f (.int (i - j)) (vatL v d) = vatL v' d) (ed : v'.diary = v.diary)
    (k : ∀ G', At w M H p d dx rows v' G' → E.nx σ G') : sFldAug w.K (tVar 0) tv rSub f E σ G := st_fldSub e0 a.hi hl h g.cls (g.na f hf) vlen fun G1 p1 => k _ ((a.pu p1).set e ed)
/-- self.diary.append(row) -/
theorem At.app {te : TE} {y : Int × Str × Int} {E : Ends} (a : At w M H p d dx rows v G) (g : Wf3 w) (e0 : Ev w.K w.T M (tVar 0) σ G (.obj p)) (hz : rows.length < 100000) (h : Ev w.K w.T M te σ G (rowD y)) (e : v' = { v with diary := v.diary ++ [y] })
    (k : ∀ G' u, At w M H p d dx (rows ++ [u]) v' G' → E.nx σ G') : tDrop (tBM w.K "list" rAppend (tFld w.K (tVar 0) "diary") (tCons te tNil)) E σ G :=
  st_app (a.fld (f := "diary") g e0 (by decide) rfl (.obj d)) a.hd h hz fun u G1 p1 du => k _ u ((a.pu p1).row du e)
/-- self.m() -/
theorem At.call0 {sp : Sp} {X : XK} {m : Str} {y : Dt} {te : TE} (a : At w M H p d dx rows v G) (e0 : Ev w.K w.T M te σ G (.obj p)) (hm : m ∉ vns) (hs : SpV w.K w.T [] sp G [vatD w v] y) (fd : y.flat = true) : Ev w.K w.T M (tMeth w.c_Vat m sp [] X te tNil) σ G y :=
  ev_methM e0 a.hi (zip_none hm _) ea_nil rfl hs a.self fd
theorem intU {n : Int} : ∀ G' u, D w.K M G' u (.int n) → u = .int n := fun _ _ h => h.intR
theorem nonU : ∀ G' u, D w.K M G' u .non → u = .non := fun _ _ h => h.nonR

theorem pure_put (g : Wf3 w) (vs : List V) (Q : VK) (E : XK) (h : sp_Vat_put w vs H Q E) : t_Vat_put w E { nx := fun _ H' => Q .non H', rt := Q } (start N_Vat_put vs) H := by
  obtain ⟨M, p, d, v, us, rfl, _, wf, hp, hdm, ⟨dx, rows, hi, hd, r⟩, ok, ⟨⟨n, rfl⟩, hlen, hn⟩, bad, good⟩ := h
  have a0 := At.of hp hdm hi hd r
  have e0 : ∀ G, Ev w.K w.T M (tVar 0) (start N_Vat_put [.ref p, .int n]) G (.obj p) := fun G => ev_var rfl (.obj p)
  have en : ∀ G, Ev w.K w.T M (tVar 1) (start N_Vat_put [.ref p, .int n]) G (.int n) := fun G => ev_var rfl (.int n)
  have hrl : rows.length < 80000 := by rw [r.length, List.length_map]; exact hlen
  refine st_seq (st_if (et_or (et_test (ev_op (a0.fld (f := "cloth") g (e0 _) (by decide) rfl (.int _)) ev_int rv_gt)) fun _ => et_not (et_test (ev_chain ev_int (en _) rv_le (fun _ => a0.fld (f := "pounds") g (e0 _) (by decide) rfl (.int _)) fun _ => rv_le))) (fun hb H1 p1 => bad ?_ H1 p1) fun hb H1 p1 => ?_)
  · simp only [Bool.or_eq_true, Bool.not_eq_true', Bool.and_eq_false_iff, decide_eq_true_eq, decide_eq_false_iff_not] at hb
    simp only [badPut, i0]
    omega
  · simp only [Bool.or_eq_false_iff, Bool.not_eq_false', Bool.and_eq_true, decide_eq_true_eq, decide_eq_false_iff_not] at hb
    refine st_seq ((a0.pu p1).put (v' := { v with cloth := n }) g (e0 _) (by decide) (en _) intU rfl rfl fun G2 a2 => ?_)
    refine st_seq (a2.put (v' := { v with cloth := n, since := some v.hour }) g (e0 _) (by decide) (a2.fld (f := "hour") g (e0 _) (by decide) rfl (.int v.hour)) intU rfl rfl fun G3 a3 => ?_)
    refine a3.app (y := (v.hour, "put", n)) g (e0 _) (by omega) (ev_tup (ea_cons (a3.fld (f := "hour") g (e0 _) (by decide) rfl (.int v.hour)) (ea_cons ev_str (ea_cons (en _) ea_nil))) (by show 3 ≤ 100000; decide)) rfl fun G4 u a4 => ?_
    exact good (by simp only [badPut, i0]; omega) .non _ a4.le a4.vat .non
theorem pure_fill (g : Wf3 w) (vs : List V) (Q : VK) (E : XK) (h : sp_Vat_fill w vs H Q E) : t_Vat_fill w E { nx := fun _ H' => Q .non H', rt := Q } (start N_Vat_fill vs) H := by
  obtain ⟨M, p, d, v, us, rfl, _, wf, hp, hdm, ⟨dx, rows, hi, hd, r⟩, ok, ⟨⟨n, rfl⟩, hlen⟩, bad, good⟩ := h
  have a0 := At.of hp hdm hi hd r
  have e0 : ∀ G, Ev w.K w.T M (tVar 0) (start N_Vat_fill [.ref p, .int n]) G (.obj p) := fun G => ev_var rfl (.obj p)
  have en : ∀ G, Ev w.K w.T M (tVar 1) (start N_Vat_fill [.ref p, .int n]) G (.int n) := fun G => ev_var rfl (.int n)
  have hrl : rows.length < 80000 := by rw [r.length, List.length_map]; exact hlen
  refine st_seq (st_if (et_test (ev_op (en _) ev_int rv_lt)) (fun hb H1 p1 => bad (by simpa [i0] using hb) H1 p1) fun hb H1 p1 => ?_)
  refine st_seq ((a0.pu p1).aug (v' := { v with dye := v.dye + n }) g (e0 _) (by decide) rfl (en _) rfl rfl fun G2 a2 => ?_)
  refine a2.app (y := (v.hour, "fill", n)) g (e0 _) (by omega) (ev_tup (ea_cons (a2.fld (f := "hour") g (e0 _) (by decide) rfl (.int v.hour)) (ea_cons ev_str (ea_cons (en _) ea_nil))) (by show 3 ≤ 100000; decide)) rfl fun G4 u a4 => ?_
  exact good (by simpa [i0] using hb) .non _ a4.le a4.vat .non
theorem pure_heat (g : Wf3 w) (vs : List V) (Q : VK) (E : XK) (h : sp_Vat_heat w vs H Q E) : t_Vat_heat w E { nx := fun _ H' => Q .non H', rt := Q } (start N_Vat_heat vs) H := by
  obtain ⟨M, p, d, v, us, rfl, _, wf, hp, hdm, ⟨dx, rows, hi, hd, r⟩, ok, ⟨n, rfl⟩, bad, good⟩ := h
  have a0 := At.of hp hdm hi hd r
  have e0 : ∀ G, Ev w.K w.T M (tVar 0) (start N_Vat_heat [.ref p, .int n]) G (.obj p) := fun G => ev_var rfl (.obj p)
  have en : ∀ G, Ev w.K w.T M (tVar 1) (start N_Vat_heat [.ref p, .int n]) G (.int n) := fun G => ev_var rfl (.int n)
  refine st_seq (st_if (et_not (et_test (ev_chain ev_int (ev_op (a0.fld (f := "warm") g (e0 _) (by decide) rfl (.int _)) (en _) rv_add) rv_le (fun _ => ev_int) fun _ => rv_le))) (fun hb H1 p1 => bad (by simp only [Bool.not_eq_true', Bool.and_eq_false_iff, decide_eq_false_iff_not] at hb; simp only [i0]; omega) H1 p1) fun hb H1 p1 => ?_)
  refine (a0.pu p1).aug (v' := { v with warm := v.warm + n }) g (e0 _) (by decide) rfl (en _) rfl rfl fun G2 a2 => ?_
  exact good (by simpa [i0] using hb) .non _ a2.le a2.vat .non
/-- self.f = v as a target -/
theorem At.gput {f : Str} {x : V} {Q : L2.St → Hp → Prop} (a : At w M H p d dx rows v G) (g : Wf3 w) (e0 : Ev w.K w.T M (tVar 0) σ G (.obj p)) (hf : f ∈ vns) (e : putF f x (vatL v d) = vatL v' d) (ed : v'.diary = v.diary)
    (k : ∀ G', At w M H p d dx rows v' G' → Q σ G') : gFld w.K (tVar 0) f x σ G Q := e0.run fun u G1 p1 du => by
  rw [du.objR]
  exact ⟨p, w.c_Vat, dx, _, rfl, p1.at a.hi, g.cls, g.na f hf, vlen, k _ ((a.pu p1).set e ed)⟩
theorem pure_take_out (g : Wf3 w) (vs : List V) (Q : VK) (E : XK) (h : sp_Vat_take_out w vs H Q E) : t_Vat_take_out w E { nx := fun _ H' => Q .non H', rt := Q } (start N_Vat_take_out vs) H := by
  obtain ⟨M, p, d, v, us, rfl, _, wf, hp, hdm, ⟨dx, rows, hi, hd, r⟩, ok, ⟨hus, hlen⟩, bad, good⟩ := h
  obtain rfl : us = [] := hus
  have a0 := At.of hp hdm hi hd r
  have hrl : rows.length < 80000 := by rw [r.length, List.length_map]; exact hlen
  have e0 : ∀ G, Ev w.K w.T M (tVar 0) (start N_Vat_take_out [.ref p]) G (.obj p) := fun G => ev_var rfl (.obj p)
  refine st_seq (st_if (et_test (ev_op (a0.fld (f := "cloth") g (e0 _) (by decide) rfl (.int _)) ev_int rv_eqI)) (fun hb H1 p1 => bad (by simpa using hb) H1 p1) fun hb H1 p1 => ?_)
  have a1 := a0.pu p1
  refine st_seq (st_asg (ev_tup (ea_cons (a1.fld (f := "cloth") g (e0 _) (by decide) rfl (.int v.cloth)) (ea_cons (a1.call0 (e0 _) (by decide) (spV_D (wf.pu p1).nil rfl ⟨v, ok, rfl, rfl⟩) rfl) ea_nil)) (by show 2 ≤ 100000; decide)) fun u H2 p2 du => ?_)
  have p12 := p1.trans p2
  have a2 := At.of hp hdm (p12.at hi) (p12.at hd) (r.pu p12)
  have e1 : ∀ G, Ev w.K w.T M (tVar 0) [some (.ref p), some u] G (.obj p) := fun G => ev_var rfl (.obj p)
  refine st_seq (a2.app (y := (v.hour, "out", v.cloth)) g (e1 _) (by omega) (ev_tup (ea_cons (a2.fld (f := "hour") g (e1 _) (by decide) rfl (.int v.hour)) (ea_cons ev_str (ea_cons (a2.fld (f := "cloth") g (e1 _) (by decide) rfl (.int v.cloth)) ea_nil))) (by show 3 ≤ 100000; decide)) rfl fun G3 y a3 => ?_)
  refine st_seq (st_asg2 (K := w.K) (T := w.T) (M := M) (x := .int 0) (y := .non) (ev_tup (ea_cons ev_int (ea_cons ev_non ea_nil)) (by show 2 ≤ 100000; decide)) fun a b H4 p4 ha hb2 => ?_)
  rw [ha.intR, hb2.nonR]
  refine (a3.pu p4).gput (v' := { v with cloth := 0, diary := v.diary ++ [((v.hour, "out", v.cloth) : Int × Str × Int)] }) g (e1 _) (by decide) rfl rfl fun G5 a5 => ?_
  refine a5.gput (v' := { v with cloth := 0, since := none, diary := v.diary ++ [((v.hour, "out", v.cloth) : Int × Str × Int)] }) g (e1 _) (by decide) rfl rfl fun G6 a6 => ?_
  have lm : Le w.T M H2 M G6 := a6.le.wide (by simp [hp, hdm])
  refine st_ret (T := w.T) (ev_var (i := 1) rfl (du.le lm)) fun z H7 p7 dz => ?_
  have a7 := a6.pu p7
  exact good (of_decide_eq_false hb) z _ (Le.trans (p12.le) a7.le) a7.vat dz
theorem pure_go_hour (g : Wf3 w) (vs : List V) (Q : VK) (E : XK) (h : sp_Vat_go_hour w vs H Q E) : t_Vat_go_hour w E { nx := fun _ H' => Q .non H', rt := Q } (start N_Vat_go_hour vs) H := by
  obtain ⟨M, p, d, v, us, rfl, _, wf, hp, hdm, ⟨dx, rows, hi, hd, r⟩, ok, ⟨hus, hlen⟩, _, good⟩ := h
  obtain rfl : us = [] := hus
  have a0 := At.of hp hdm hi hd r
  have hrl : rows.length < 80000 := by rw [r.length, List.length_map]; exact hlen
  have e0 : ∀ G, Ev w.K w.T M (tVar 0) (start N_Vat_go_hour [.ref p]) G (.obj p) := fun G => ev_var rfl (.obj p)
  refine st_seq (st_asg (a0.call0 (y := .int (takesM v)) (e0 _) (by decide) (spV_D wf.nil rfl ⟨v, ok, rfl, rfl⟩) rfl) fun u H1 p1 du => ?_)
  rw [du.intR]
  have a1 := a0.pu p1
  have e1 : ∀ G, Ev w.K w.T M (tVar 0) [some (.ref p), some (.int (takesM v))] G (.obj p) := fun G => ev_var rfl (.obj p)
  have en : ∀ G, Ev w.K w.T M (tVar 1) [some (.ref p), some (.int (takesM v))] G (.int (takesM v)) := fun G => ev_var rfl (.int _)
  refine st_seq (a1.sub (v' := { v with dye := v.dye - takesM v }) g (e1 _) (by decide) rfl (en _) rfl rfl fun G2 a2 => ?_)
  -- the rest, whatever the diary is
  have fin : ∀ G3 rows3 y, At w M H p d dx rows3 { v with dye := v.dye - takesM v, diary := v.diary ++ y } G3 → (y = if 0 < takesM v then [((v.hour, "takes", takesM v) : Int × Str × Int)] else []) →
      tSeq (sFldAug w.K (tVar 0) (tC (.int 1)) rAdd "hour") (tSeq (tIfS (tTest (tOp (rGtU w.K) (tFld w.K (tVar 0) "warm") (tC (.int 15)))) (sFld w.K (tVar 0) (tCB (fun xs H Q => ∃ i j, xs = [.int i, .int j] ∧ Q (.int (if j > i then j else i)) H) (tCons (tC (.int 15)) (tCons (tOp (rI0 fun i j => .int (i - j)) (tFld w.K (tVar 0) "warm") (tC (.int 2))) tNil))) "warm") tNext) (tRet (tVar 1)))
        { nx := fun _ H' => Q .non H', rt := Q } [some (.ref p), some (.int (takesM v))] G3 := fun G3 rows3 y a3 ey => by
    refine st_seq (a3.aug (v' := { v with dye := v.dye - takesM v, hour := v.hour + 1, diary := v.diary ++ y }) g (e1 _) (by decide) rfl ev_int rfl rfl fun G4 a4 => ?_)
    have last : ∀ G5, At w M H p d dx rows3 { v with dye := v.dye - takesM v, hour := v.hour + 1, warm := coolM v.warm, diary := v.diary ++ y } G5 → tRet (tVar 1) { nx := fun _ H' => Q .non H', rt := Q } [some (.ref p), some (.int (takesM v))] G5 := fun G5 a5 =>
      st_ret (en _) fun z H6 p6 dz => by
        have a6 := a5.pu p6
        refine good (fun z => z) z _ a6.le ?_ dz
        subst ey
        exact a6.vat
    refine st_seq (st_if (et_test (ev_op (a4.fld (f := "warm") g (e1 _) (by decide) rfl (.int v.warm)) ev_int rv_gt)) (fun hb H5 p5 => ?_) fun hb H5 p5 => ?_)
    · have hw : 15 < v.warm := by simpa using hb
      refine (a4.pu p5).put (v' := { v with dye := v.dye - takesM v, hour := v.hour + 1, warm := coolM v.warm, diary := v.diary ++ y }) (y := .int (if v.warm - 2 > 15 then v.warm - 2 else 15)) (x := .int (if v.warm - 2 > 15 then v.warm - 2 else 15)) g (e1 _) (by decide) (ev_cb (ea_cons ev_int (ea_cons (ev_op ((a4.pu p5).fld (f := "warm") g (e1 _) (by decide) rfl (.int v.warm)) ev_int rv_sub) ea_nil)) rc_max2) intU ?_ rfl fun G6 a6 => last G6 a6
      rw [coolM, if_pos hw]
      rfl
    · have hw : ¬ 15 < v.warm := by simpa using hb
      refine last H5 ?_
      rw [coolM, if_neg hw]
      exact a4.pu p5
  refine st_seq (st_if (et_test (ev_op (en _) ev_int rv_gt)) (fun hb H3 p3 => ?_) fun hb H3 p3 => ?_)
  · have ht : 0 < takesM v := by simpa using hb
    have a3 := a2.pu p3
    refine a3.app (y := (v.hour, "takes", takesM v)) g (e1 _) (by omega) (ev_tup (ea_cons (a3.fld (f := "hour") g (e1 _) (by decide) rfl (.int v.hour)) (ea_cons ev_str (ea_cons (en _) ea_nil))) (by show 3 ≤ 100000; decide)) rfl fun G4 u a4 => ?_
    exact fin G4 _ [((v.hour, "takes", takesM v) : Int × Str × Int)] a4 (by rw [if_pos ht])
  · have ht : ¬ 0 < takesM v := by simpa using hb
    refine fin H3 rows [] ?_ (by rw [if_neg ht])
    rw [List.append_nil]
    exact a2.pu p3
end
end K3

/-! text K3c -/
namespace K3
open Dy L2 PyProof.Rows PySem.Spec PySem
/-! ### short words -/
local macro_rules | `(tactic| walk_at "pu") => `(tactic| first | assumption | exact Pu.refl | (refine Pu.trans ?_ (by assumption); walk_at "pu"))
local macro_rules | `(tactic| walk_at "le") => `(tactic| first | assumption | exact Le.refl | (exact Pu.le (by walk_at "pu")) | (refine Le.trans ?_ (by assumption); walk_at "le") | (refine Le.app ?_ (by assumption); walk_at "le"))
local macro_rules | `(tactic| walk_at "d") => `(tactic| first | assumption | exact D.int _ | exact D.str _ | exact D.non | exact D.bl _ | exact D.obj _ | (refine D.lm ?_ (by assumption); walk_at "le"))
local macro_rules | `(tactic| walk_at "sd") => `(tactic| first | assumption | omega | decide | (simp; done))
local macro_rules | `(tactic| walk_at "rv") => `(tactic| with_reducible first
  | exact rv_add | exact rv_sub | exact rv_lt | exact rv_gt | exact rv_le | exact rv_ge | exact rv_isNone | exact rv_notNone
  | (refine rv_mul ?_; first | exact Or.inl ⟨by omega, by omega⟩ | exact Or.inr ⟨by omega, by omega⟩)
  | (refine rv_div ?_ ?_ <;> first | decide | omega)
  | (refine rv_mod ?_; first | decide | omega | assumption)
  | (refine rv_pow ?_; decide)
  | exact rv_eqI | exact rv_neI | exact rv_eqS | exact rv_neS | exact rv_eqB | exact rv_neB
  | (refine rv_eqP ?_ ?_ <;> first | assumption | (with_unfolding_all rfl)) | (refine rv_neP ?_ ?_ <;> first | assumption | (with_unfolding_all rfl)))
local macro_rules | `(tactic| walk_at "ea") => `(tactic| with_reducible first | exact ea_nil | (refine ea_cons ?_ ?_; (walk_at "ev"); (walk_at "ea")))
local macro_rules | `(tactic| walk_at "ev") => `(tactic| with_reducible first
  | exact ev_int | exact ev_str | exact ev_non | exact ev_bl
  | (refine ev_var (h := ?hs) (hd := ?hd); (case hs => with_unfolding_all rfl); (case hd => walk_at "d"))
  | (refine ev_op ?_ ?_ ?_; (walk_at "ev"); (walk_at "ev"); (walk_at "rv"))
  | (refine ev_un ?_ ?_; (walk_at "ev"); exact ru_neg)
  | (refine ev_tup ?_ ?_; (walk_at "ea"); (with_unfolding_all (first | decide | simp)))
  | (refine ev_cb ?_ ?_; (walk_at "ea"); (walk_at "rc"))
  | walk_at "own")
local macro_rules | `(tactic| walk_at "rc") => `(tactic| with_reducible first
  | exact rc_abs | exact rc_int | exact rc_intB | exact rc_max2 | exact rc_min2 | exact rc_lenL | exact rc_lenT)
local macro_rules | `(tactic| walk_at "et") => `(tactic| with_reducible first
  | (refine et_test ?_; walk_at "ev")
  | (refine et_B ?_; walk_at "ev")
  | (refine et_not ?_; walk_at "et")
  | (refine et_and ?_ (fun _ => ?_); (walk_at "et"); (walk_at "et"))
  | (refine et_or ?_ (fun _ => ?_); (walk_at "et"); (walk_at "et")))
section
variable {w : Wk} {M : List Addr} {H H1 H2 G : Hp} {σ : L2.St} {p d dx : Addr} {v v' : VatM} {rows : List V}
theorem set_x {x C : Addr} {fs fs' : List (Str × V)} (hx : G x = some (.ins C dx fs)) (l : Le w.T [x] H [x] G) : Le w.T [x] H [x] (upd G x (.ins C dx fs')) := l.trans (Le.mut (by simp) hx)
theorem pure_init (g : Wf3 w) (vs : List V) (Q : VK) (E : XK) (h : sp_Vat_init w vs H Q E) : t_Vat_init w E { nx := fun _ H' => Q .non H', rt := Q } (start N_Vat_init vs) H := by
  obtain ⟨M, x, dx, p, d, t, rfl, wf, hx, hdx, bad, good⟩ := h
  have e0 : ∀ G, Ev w.K w.T M (tVar 0) (start N_Vat_init [.ref x, .int p, .int d, .int t]) G (.obj x) := fun G => ev_var rfl (.obj x)
  have ep : ∀ G, Ev w.K w.T M (tVar 1) (start N_Vat_init [.ref x, .int p, .int d, .int t]) G (.int p) := fun G => ev_var rfl (.int p)
  have ed : ∀ G, Ev w.K w.T M (tVar 2) (start N_Vat_init [.ref x, .int p, .int d, .int t]) G (.int d) := fun G => ev_var rfl (.int d)
  have et : ∀ G, Ev w.K w.T M (tVar 3) (start N_Vat_init [.ref x, .int p, .int d, .int t]) G (.int t) := fun G => ev_var rfl (.int t)
  refine st_seq (st_if (et_or (et_not (et_test (ev_chain ev_int (ep _) rv_le (fun _ => ev_int) fun _ => rv_le))) fun _ => et_or (et_test (ev_op (ed _) ev_int rv_lt)) fun _ => et_not (et_test (ev_chain ev_int (et _) rv_le (fun _ => ev_int) fun _ => rv_le))) (fun hb H1 p1 => bad ?_ H1 p1) fun hb H1 p1 => ?_)
  · simp only [Bool.or_eq_true, Bool.not_eq_true', Bool.and_eq_false_iff, decide_eq_true_eq, decide_eq_false_iff_not] at hb
    simp only [goodVat]
    omega
  · simp only [Bool.or_eq_false_iff, Bool.not_eq_false', Bool.and_eq_true, decide_eq_true_eq, decide_eq_false_iff_not] at hb
    have gd : goodVat p d t := by simp only [goodVat]; omega
    have na : ∀ f, f ∈ vns → NoAttr w.K w.c_Vat f := fun f hf => g.na f hf
    have l1 : Le w.T [x] H [x] H1 := p1.le
    refine st_seq (st_fld (e0 _) (p1.at hx) (ep _) g.cls (na _ (by decide)) (by decide) fun u G2 p2 du => ?_)
    rw [du.intR]
    have l2 := set_x (fs' := [("pounds", .int p)]) ((p1.trans p2).at hx) (l1.app p2)
    refine st_seq (st_fld (e0 _) upd_same (ed _) g.cls (na _ (by decide)) (by simp [putF]) fun u G3 p3 du => ?_)
    rw [du.intR]
    have l3 := set_x (fs' := [("pounds", .int p), ("dye", .int d)]) (p3.at upd_same) (l2.app p3)
    refine st_seq (st_fld (e0 _) upd_same (et _) g.cls (na _ (by decide)) (by show 2 < 1000; decide) fun u G4 p4 du => ?_)
    rw [du.intR]
    have l4 := set_x (fs' := [("pounds", .int p), ("dye", .int d), ("warm", .int t)]) (p4.at upd_same) (l3.app p4)
    refine st_seq (st_fld (K := w.K) (T := w.T) (M := M) (e0 _) upd_same (ev_int (i := 0)) g.cls (na _ (by decide)) (by show 3 < 1000; decide) fun u G5 p5 du => ?_)
    rw [du.intR]
    have l5 := set_x (fs' := [("pounds", .int p), ("dye", .int d), ("warm", .int t), ("cloth", .int 0)]) (p5.at upd_same) (l4.app p5)
    refine st_seq (st_fld (K := w.K) (T := w.T) (M := M) (e0 _) upd_same ev_non g.cls (na _ (by decide)) (by show 4 < 1000; decide) fun u G6 p6 du => ?_)
    rw [du.nonR]
    have l6 := set_x (fs' := [("pounds", .int p), ("dye", .int d), ("warm", .int t), ("cloth", .int 0), ("since", .non)]) (p6.at upd_same) (l5.app p6)
    refine st_seq (st_fld (K := w.K) (T := w.T) (M := M) (e0 _) upd_same (ev_int (i := 0)) g.cls (na _ (by decide)) (by show 5 < 1000; decide) fun u G7 p7 du => ?_)
    rw [du.intR]
    have l7 := set_x (fs' := [("pounds", .int p), ("dye", .int d), ("warm", .int t), ("cloth", .int 0), ("since", .non), ("hour", .int 0)]) (p7.at upd_same) (l6.app p7)
    -- the diary
    refine ⟨Nat.zero_le _, fun di hdi => (e0 _).run fun u G8 p8 du => ?_⟩
    rw [du.objR]
    have nx : H x ≠ none := by rw [hx]; simp
    have p78 : Pu w.T _ G8 := Pu.trans (Pu.new (o := .lst []) hdi) p8
    have hx8 := p78.at upd_same
    have l8 := l7.app p78
    have hn : H di = none := by
      cases e : H di with
      | none => rfl
      | some o => exact absurd hdi (l7.dom di (by rw [e]; simp))
    refine ⟨x, w.c_Vat, dx, _, rfl, hx8, g.cls, na _ (by decide), by show 6 < 1000; decide, ?_⟩
    refine good gd di _ hn (set_x (fs' := _) hx8 l8) upd_same ?_
    rw [upd_ne (fun z : di = x => nx (by rw [← z]; exact hn))]
    exact p8.at upd_same
theorem pure_law_dice (vs : List V) (Q : VK) (E : XK) (h : sp_law_dice w vs H Q E) : t_law_dice w E { nx := fun _ H' => Q .non H', rt := Q } (start N_law_dice vs) H := by
  obtain ⟨M, ds, d, _, wf, r, ⟨z, rfl, rfl⟩, q⟩ := h
  obtain ⟨s, rfl, ds⟩ := all1 r
  rw [ds.intR]
  have ez : ∀ G, Ev w.K w.T M (tVar 0) (start N_law_dice [.int z]) G (.int z) := fun G => ev_var rfl (.int z)
  refine st_seq (st_if (et_test (ev_chain (ev_op ev_int ev_int rv_sub) (ez _) rv_lt (fun _ => ev_int) fun _ => rv_lt)) (fun hb H1 p1 => ?_) fun hb H1 p1 => ?_)
  · refine st_ret (ev_lst (wf.pu p1) (ea_cons (ev_cb (ea_cons (ez _) ea_nil) rc_abs) (ea_cons ev_int (ea_cons ev_int ea_nil))) (by show 3 ≤ 100000; decide)) fun u H2 p2 du => q u H2 (p1.trans p2) ?_
    rw [diceL, if_pos (by simpa using hb)]
    exact du
  · refine st_ret (ev_lst (wf.pu p1) (ea_cons (ez _) (ea_cons (ev_op ev_int (ev_op (ev_cb (ea_cons (ez _) ea_nil) rc_int) ev_int (rv_mod (by decide))) rv_add) (ea_cons (ev_cb (ea_cons (ev_op (ez _) (ev_op ev_int ev_int (rv_pow ⟨by decide, by decide, by decide⟩)) rv_ge) ea_nil) rc_intB) ea_nil))) (by show 3 ≤ 100000; decide)) fun u H2 p2 du => q u H2 (p1.trans p2) ?_
    rw [diceL, if_neg (by simpa using hb)]
    simpa using du
/-- a changing list of three at di -/
theorem ix3 {te : TE} {di : Addr} {a b c i x : Int} (e0 : Ev w.K w.T M te σ G (.obj di)) (hd : G di = some (.lst [.int a, .int b, .int c])) (hx : atI ([.int a, .int b, .int c] : List V) i = some (.int x)) : Ev w.K w.T M (tSub w.K te (tC (.int i))) σ G (.int x) := ev_ixM e0 ev_int hd hx (.int x)
theorem pure_law_roll (vs : List V) (Q : VK) (E : XK) (h : sp_law_roll w vs H Q E) : t_law_roll w E { nx := fun _ H' => Q .non H', rt := Q } (start N_law_roll vs) H := by
  obtain ⟨di, a, b, c, n, rfl, tk, hd, n0, n8, q⟩ := h
  have e0 : ∀ G, Ev w.K w.T [di] (tVar 0) (start N_law_roll [.ref di, .int n]) G (.obj di) := fun G => ev_var rfl (.obj di)
  have en : ∀ G, Ev w.K w.T [di] (tVar 1) (start N_law_roll [.ref di, .int n]) G (.int n) := fun G => ev_var rfl (.int n)
  have nb : n.natAbs < 2 ^ 8000 := Nat.lt_of_lt_of_le (show n.natAbs < 2 ^ 30 by omega) (Nat.pow_le_pow_right (by decide) (by decide))
  refine st_seq (st_if (et_or (et_test (ev_op (ix3 (e0 _) hd (x := c) rfl) ev_int rv_eqI)) fun _ => et_and (et_test (ev_op (ix3 (e0 _) hd (x := c) rfl) ev_int rv_eqI)) fun _ => et_test (ev_op (ix3 (e0 _) hd (x := a) rfl) ev_int rv_gt)) (fun _ H1 p1 => ?_) fun _ H1 p1 => ?_)
  · have h1 := p1.at hd
    refine st_seq (st_asg (ev_op (ev_cb (ea_cons (ix3 (e0 _) h1 (x := a) rfl) ea_nil) rc_int) (en _) (rv_mod n0)) fun u H2 p2 du => ?_)
    rw [du.intR]
    have h2 := p2.at h1
    have f0 : ∀ G, Ev w.K w.T [di] (tVar 0) [some (.ref di), some (.int n), some (.int (a % n))] G (.obj di) := fun G => ev_var rfl (.obj di)
    refine st_seq (st_setL (j := 0) (ev_op (ix3 (f0 _) h2 (x := a) rfl) (ev_var (i := 1) rfl (.int n)) (rv_div n0 nb)) (f0 _) ev_int h2 rfl fun u H3 p3 du => ?_)
    rw [du.intR]
    refine st_ret (K := w.K) (T := w.T) (M := [di]) (ev_var (i := 2) rfl (.int (a % n))) fun z H4 p4 dz => ?_
    rw [dz.intR]
    exact q _ _ _ _ (Int.emod_nonneg _ (by omega)) (Int.emod_lt_of_pos _ n0) H4 (Le.app (Le.trans ((p1.trans (p2.trans p3)).le) (Le.mut (by simp) ((p1.trans (p2.trans p3)).at hd))) p4) (p4.at upd_same)
  · have h1 := p1.at hd
    refine st_seq (st_setL (K := w.K) (T := w.T) (M := [di]) (j := 2) (ev_int (i := 0)) (e0 _) ev_int h1 rfl fun u H2 p2 du => ?_)
    rw [du.intR]
    have l2 : Le w.T [di] H [di] (upd H2 di (.lst ([V.int a, .int b, .int c].set 2 (.int 0)))) := Le.trans ((p1.trans p2).le) (Le.mut (by simp) ((p1.trans p2).at hd))
    have h2 : upd H2 di (.lst ([V.int a, .int b, .int c].set 2 (.int 0))) di = some (.lst [.int a, .int b, .int 0]) := upd_same
    generalize upd H2 di (.lst ([V.int a, .int b, .int c].set 2 (.int 0))) = G2 at l2 h2 ⊢
    refine st_seq (st_if (et_test (ev_op (en _) ev_int rv_gt)) (fun hb => absurd hb (by simp; omega)) fun _ H3 p3 => ?_)
    have h3 := p3.at h2
    refine st_seq (st_setL (j := 0) (ev_op (ev_cb (ea_cons (ev_op (ev_op (ev_op (ix3 (e0 _) h3 (x := a) rfl) ev_int (rv_mul (.inr ⟨by decide, by decide⟩))) (ev_op (ix3 (e0 _) h3 (x := b) rfl) ev_int (rv_mul (.inr ⟨by decide, by decide⟩))) rv_add) ev_int rv_add) ea_nil) rc_int) ev_int (rv_mod (by decide))) (e0 _) ev_int h3 rfl fun u H4 p4 du => ?_)
    rw [du.intR]
    have l4 : Le w.T [di] H [di] (upd H4 di (.lst ([V.int a, .int b, .int 0].set 0 (.int ((a * 48271 + b * 69621 + 11) % 2147483647))))) := Le.trans (Le.app l2 (p3.trans p4)) (Le.mut (by simp) (p4.at h3))
    have h4 : upd H4 di (.lst ([V.int a, .int b, .int 0].set 0 (.int ((a * 48271 + b * 69621 + 11) % 2147483647)))) di = some (.lst [.int ((a * 48271 + b * 69621 + 11) % 2147483647), .int b, .int 0]) := upd_same
    generalize upd H4 di (.lst ([V.int a, .int b, .int 0].set 0 (.int ((a * 48271 + b * 69621 + 11) % 2147483647)))) = G4 at l4 h4 ⊢
    generalize (a * 48271 + b * 69621 + 11) % 2147483647 = a2 at h4 ⊢
    refine st_seq (st_setL (j := 1) (ev_op (ix3 (e0 _) h4 (x := b) rfl) ev_int rv_add) (e0 _) ev_int h4 rfl fun u H5 p5 du => ?_)
    rw [du.intR]
    have l5 : Le w.T [di] H [di] (upd H5 di (.lst ([V.int a2, .int b, .int 0].set 1 (.int (b + 1))))) := Le.trans (Le.app l4 p5) (Le.mut (by simp) (p5.at h4))
    have h5 : upd H5 di (.lst ([V.int a2, .int b, .int 0].set 1 (.int (b + 1)))) di = some (.lst [.int a2, .int (b + 1), .int 0]) := upd_same
    generalize upd H5 di (.lst ([V.int a2, .int b, .int 0].set 1 (.int (b + 1)))) = G5 at l5 h5 ⊢
    refine st_ret (ev_op (ev_cb (ea_cons (ev_op (ix3 (e0 _) h5 (x := a2) rfl) ev_int (rv_div (by decide) (Nat.lt_of_lt_of_le (show (7 : Int).natAbs < 2 ^ 30 by decide) (Nat.pow_le_pow_right (by decide) (by decide))))) ea_nil) rc_int) (en _) (rv_mod n0)) fun z H6 p6 dz => ?_
    rw [dz.intR]
    exact q _ _ _ _ (Int.emod_nonneg _ (by omega)) (Int.emod_lt_of_pos _ n0) H6 (l5.app p6) (p6.at h5)
end
end K3

/-! text K3d -/
namespace K3
open Dy L2 PyProof.Rows PySem.Spec PySem
/-! ### short words -/
local macro_rules | `(tactic| walk_at "pu") => `(tactic| first | assumption | exact Pu.refl | (refine Pu.trans ?_ (by assumption); walk_at "pu"))
local macro_rules | `(tactic| walk_at "le") => `(tactic| first | assumption | exact Le.refl | (exact Pu.le (by walk_at "pu")) | (refine Le.trans ?_ (by assumption); walk_at "le") | (refine Le.app ?_ (by assumption); walk_at "le"))
local macro_rules | `(tactic| walk_at "d") => `(tactic| first | assumption | exact D.int _ | exact D.str _ | exact D.non | exact D.bl _ | exact D.obj _ | (refine D.lm ?_ (by assumption); walk_at "le"))
local macro_rules | `(tactic| walk_at "sd") => `(tactic| first | assumption | omega | decide | (simp; done))
local macro_rules | `(tactic| walk_at "rv") => `(tactic| with_reducible first
  | exact rv_add | exact rv_sub | exact rv_lt | exact rv_gt | exact rv_le | exact rv_ge | exact rv_isNone | exact rv_notNone
  | (refine rv_mul ?_; first | exact Or.inl ⟨by omega, by omega⟩ | exact Or.inr ⟨by omega, by omega⟩)
  | (refine rv_div ?_ ?_ <;> first | decide | omega)
  | (refine rv_mod ?_; first | decide | omega | assumption)
  | (refine rv_pow ?_; decide)
  | exact rv_eqI | exact rv_neI | exact rv_eqS | exact rv_neS | exact rv_eqB | exact rv_neB
  | (refine rv_eqP ?_ ?_ <;> first | assumption | (with_unfolding_all rfl)) | (refine rv_neP ?_ ?_ <;> first | assumption | (with_unfolding_all rfl)))
local macro_rules | `(tactic| walk_at "ea") => `(tactic| with_reducible first | exact ea_nil | (refine ea_cons ?_ ?_; (walk_at "ev"); (walk_at "ea")))
local macro_rules | `(tactic| walk_at "ev") => `(tactic| with_reducible first
  | exact ev_int | exact ev_str | exact ev_non | exact ev_bl
  | (refine ev_var (h := ?hs) (hd := ?hd); (case hs => with_unfolding_all rfl); (case hd => walk_at "d"))
  | (refine ev_op ?_ ?_ ?_; (walk_at "ev"); (walk_at "ev"); (walk_at "rv"))
  | (refine ev_un ?_ ?_; (walk_at "ev"); exact ru_neg)
  | (refine ev_tup ?_ ?_; (walk_at "ea"); (with_unfolding_all (first | decide | simp)))
  | (refine ev_cb ?_ ?_; (walk_at "ea"); (walk_at "rc"))
  | walk_at "own")
local macro_rules | `(tactic| walk_at "rc") => `(tactic| with_reducible first
  | exact rc_abs | exact rc_int | exact rc_intB | exact rc_max2 | exact rc_min2 | exact rc_lenL | exact rc_lenT)
local macro_rules | `(tactic| walk_at "et") => `(tactic| with_reducible first
  | (refine et_test ?_; walk_at "ev")
  | (refine et_B ?_; walk_at "ev")
  | (refine et_not ?_; walk_at "et")
  | (refine et_and ?_ (fun _ => ?_); (walk_at "et"); (walk_at "et"))
  | (refine et_or ?_ (fun _ => ?_); (walk_at "et"); (walk_at "et")))
section
variable {w : Wk} {M : List Addr} {H H1 H2 G : Hp} {σ : L2.St} {p d dx : Addr} {v v' : VatM} {rows : List V}
theorem cut1 (ns : List Int) : cutV (ns.map V.int) none (some 1) = (ns.take 1).map V.int := by
  cases ns with
  | nil => rfl
  | cons z r =>
    unfold cutV
    have e : HT.sIx ((z :: r).map V.int).length ((z :: r).map V.int).length (some 1) = 1 := by
      rw [show (1 : Int) = ((1 : Nat) : Int) from rfl, HT.sIx_nat]
      simp
    rw [e, HT.sIx_none]
    simp
theorem rounds_lc {z : Int} {u : V} {c : V} (wf : Wf w.T M H) (du : D w.K M H u (.lst [.int z])) {σ : L2.St} (hσ : σ[2]? = some (some u)) (hl : σ.length = 4) : Ev w.K w.T M (tLc (iList w.K (tVar 2)) (gName 3) tYes (tCall (sp_law_dice w) [] (fun _ _ _ => False) (tCons (tVar 3) tNil)) [3]) σ H (.lst [.lst ((diceL z).map .int)]) :=
  ev_lc (α := Int) (xs := [z]) (enc := .int) (p := fun _ => true) (f := fun z => .lst ((diceL z).map .int)) (Bd := fun z M1 H1 σ2 => σ2 = (wipe σ [3]).set 3 (some (.int z))) wf (src_list (ev_var hσ du)) (by simp)
    (fun a _ M1 H1 v _ _ dv Q k => by rw [dv.intR]; exact k _ rfl) (fun a M1 H1 σ2 e => by subst e; simp [wipe]) (fun a _ M1 H1 σ2 _ _ _ e => et_yes)
    fun a _ _ M1 H1 σ2 _ _ w1 e => by
      subst e
      refine ev_call (ea_cons (ev_var (v := .int a) (by simp [wipe, hl]) (.int a)) ea_nil) (spV_D w1 rfl ⟨a, rfl, rfl⟩)
theorem pure_law_rounds (vs : List V) (Q : VK) (E : XK) (h : sp_law_rounds w vs H Q E) : t_law_rounds w E { nx := fun _ H' => Q .non H', rt := Q } (start N_law_rounds vs) H := by
  obtain ⟨M, a, ns, rfl, wf, hs, q⟩ := h
  refine st_seq ⟨.ref a, rfl, ⟨.int 1, rfl, 1, rfl, .inl ⟨a, ns.map .int, rfl, hs, fun c hc => ?_⟩⟩⟩
  rw [cut1]
  have p1 : Pu w.T H (upd H c (.lst ((ns.take 1).map V.int))) := Pu.new hc
  have dc : D w.K M (upd H c (.lst ((ns.take 1).map V.int))) (.ref c) (.lst ((ns.take 1).map .int)) := .lst (wf.fresh hc) upd_same (DAll.ofInts _)
  generalize upd H c (.lst ((ns.take 1).map V.int)) = G at p1 dc ⊢
  have fin : ∀ u z G2, Pu w.T H G2 → D w.K M G2 u (.lst [.int z]) → tRet (tLc (iList w.K (tVar 2)) (gName 3) tYes (tCall (sp_law_dice w) [] (fun _ _ _ => False) (tCons (tVar 3) tNil)) [3]) { nx := fun _ H' => Q .non H', rt := Q } [some (.ref a), some (.int 1), some u, none] G2 := fun u z G2 p2 du =>
    st_ret (rounds_lc (c := u) (wf.pu p2) du rfl rfl) fun x H3 p3 dx => q x z H3 (p2.trans p3) dx
  cases ns with
  | nil =>
    refine st_seq (st_if (b := true) (et_test (ev_op (K := w.K) (M := M) (ev_var (v := .ref c) rfl dc) (ev_lst (wf.pu p1) ea_nil (by decide)) (rv_eqP rfl rfl))) (fun _ H3 p3 => ?_) fun hb => by cases hb)
    refine st_asg (ev_lst (w := wf.pu (p1.trans p3)) (ea_cons ev_int ea_nil) (by decide)) fun u H4 p4 du => fin u 0 H4 (p1.trans (p3.trans p4)) du
  | cons z r =>
    refine st_seq (st_if (b := false) (et_test (ev_op (K := w.K) (M := M) (ev_var (v := .ref c) rfl dc) (ev_lst (wf.pu p1) ea_nil (by decide)) (rv_eqP rfl rfl))) (fun hb => by cases hb) fun _ H3 p3 => ?_)
    exact fin (.ref c) z H3 (p1.trans p3) (dc.pu p3)
/-- the law's vat at p -/
theorem own_get {te : TE} {o : OwnM} {k : Str} {x : Int} (e0 : Ev w.K w.T M te σ G (.obj p)) (hd : G p = some (.dK (ownK o))) (hx : valV (ownK o) (.inr k) = some (.int x)) : Ev w.K w.T M (tSub w.K te (tC (.str k))) σ G (.int x) := ev_dgetM (k := .inr k) e0 ev_str hd hx (.int x)
theorem pure_law_hour (vs : List V) (Q : VK) (E : XK) (h : sp_law_hour w vs H Q E) : t_law_hour w E { nx := fun _ H' => Q .non H', rt := Q } (start N_law_hour vs) H := by
  obtain ⟨p, o, rfl, tk, hd, q⟩ := h
  have e0 : ∀ G, Ev w.K w.T [p] (tVar 0) (start N_law_hour [.ref p]) G (.obj p) := fun G => ev_var rfl (.obj p)
  have f0 : ∀ G x, Ev w.K w.T [p] (tVar 0) [some (.ref p), some (.int x)] G (.obj p) := fun G x => ev_var rfl (.obj p)
  have fx : ∀ G x, Ev w.K w.T [p] (tVar 1) [some (.ref p), some (.int x)] G (.int x) := fun G x => ev_var rfl (.int x)
  refine st_seq (st_asg (ev_un (ev_op (ev_un (own_get (x := o.dye) (e0 _) hd rfl) ru_neg) ev_int (rv_div (by decide) (Nat.lt_of_lt_of_le (show (10 : Int).natAbs < 2 ^ 30 by decide) (Nat.pow_le_pow_right (by decide) (by decide))))) ru_neg) fun u H1 p1 du => ?_)
  rw [du.intR]
  have h1 := p1.at hd
  refine st_seq (st_asg (ev_if (x := .int (-(-o.dye / 10) / 2)) (y := .int (-(-o.dye / 10))) (et_test (ev_op (own_get (x := o.warm) (f0 _ _) h1 rfl) ev_int rv_lt)) (fun _ => ev_op (fx _ _) ev_int (rv_div (by decide) (Nat.lt_of_lt_of_le (show (2 : Int).natAbs < 2 ^ 30 by decide) (Nat.pow_le_pow_right (by decide) (by decide))))) fun _ => fx _ _) fun u H2 p2 du => ?_)
  have e2 : (if decide (o.warm < 60) = true then (.int (-(-o.dye / 10) / 2) : Dt) else .int (-(-o.dye / 10))) = .int (if o.warm < 60 then -(-o.dye / 10) / 2 else -(-o.dye / 10)) := by
    by_cases c : o.warm < 60 <;> simp [c]
  rw [e2] at du
  rw [du.intR]
  have h2 := p2.at h1
  generalize hd0 : (if o.warm < 60 then -(-o.dye / 10) / 2 else -(-o.dye / 10)) = d0 at du
  show tSeq _ _ _ [some (.ref p), some (.int d0)] H2
  refine st_seq (st_asg (ev_if (x := .int (if 20 * o.cloth - o.has < d0 then 20 * o.cloth - o.has else d0)) (y := .int 0) (et_and (et_test (ev_op (own_get (x := o.cloth) (f0 _ _) h2 rfl) ev_int rv_gt)) fun _ => et_test (ev_op (own_get (x := o.warm) (f0 _ _) h2 rfl) ev_int rv_ge))
    (fun _ => ev_cb (ea_cons (fx _ _) (ea_cons (ev_op (ev_op ev_int (own_get (x := o.cloth) (f0 _ _) h2 rfl) (rv_mul (.inl ⟨by decide, by decide⟩))) (own_get (x := o.has) (f0 _ _) h2 rfl) rv_sub) ea_nil)) rc_min2) fun _ => ev_int) fun u H3 p3 du => ?_)
  have e3 : (if (decide (0 < o.cloth) && decide (20 ≤ o.warm)) = true then (.int (if 20 * o.cloth - o.has < d0 then 20 * o.cloth - o.has else d0) : Dt) else .int 0) = .int (dueM o) := by
    rw [dueM, hd0]
    by_cases c : 0 < o.cloth ∧ 20 ≤ o.warm
    · rw [if_pos c, if_pos (by simpa using c)]
    · rw [if_neg c, if_neg (by simpa using c)]
  rw [e3] at du
  rw [du.intR]
  have h3 := p3.at h2
  show tSeq _ _ _ [some (.ref p), some (.int (dueM o))] H3
  refine st_seq (st_asg2 (ev_tup (ea_cons (ev_op (own_get (x := o.dye) (f0 _ _) h3 rfl) (fx _ _) rv_sub) (ea_cons (ev_op (own_get (x := o.has) (f0 _ _) h3 rfl) (fx _ _) rv_add) ea_nil)) (by show 2 ≤ 100000; decide)) fun a b H4 p4 ha hb => ?_)
  rw [ha.intR, hb.intR]
  have h4 := p4.at h3
  have l4 : Le w.T [p] H [p] H4 := (p1.trans (p2.trans (p3.trans p4))).le
  refine g_dput (ky := .inr "dye") (f0 _ _) ev_str h4 (by show 4 < 100000; decide) fun H5 p5 => ?_
  have l5 : Le w.T [p] H [p] (upd H5 p (.dK (putK (ownK o) (.inr "dye") (.int (o.dye - dueM o))))) := Le.trans (Le.app l4 p5) (Le.mut (by simp) (p5.at h4))
  have h5 : upd H5 p (.dK (putK (ownK o) (.inr "dye") (.int (o.dye - dueM o)))) p = some (.dK (ownK { o with dye := o.dye - dueM o })) := upd_same
  generalize upd H5 p (.dK (putK (ownK o) (.inr "dye") (.int (o.dye - dueM o)))) = G5 at l5 h5 ⊢
  refine g_dput (ky := .inr "has") (f0 _ _) ev_str h5 (by show 4 < 100000; decide) fun H6 p6 => ?_
  have l6 : Le w.T [p] H [p] (upd H6 p (.dK (putK (ownK { o with dye := o.dye - dueM o }) (.inr "has") (.int (o.has + dueM o))))) := Le.trans (Le.app l5 p6) (Le.mut (by simp) (p6.at h5))
  have h6 : upd H6 p (.dK (putK (ownK { o with dye := o.dye - dueM o }) (.inr "has") (.int (o.has + dueM o)))) p = some (.dK (ownK { o with dye := o.dye - dueM o, has := o.has + dueM o })) := upd_same
  generalize upd H6 p (.dK (putK (ownK { o with dye := o.dye - dueM o }) (.inr "has") (.int (o.has + dueM o)))) = G6 at l6 h6 ⊢
  have ew := fun G (hG : G p = some (.dK (ownK { o with dye := o.dye - dueM o, has := o.has + dueM o }))) => own_get (o := { o with dye := o.dye - dueM o, has := o.has + dueM o }) (k := "warm") (x := o.warm) (f0 G (dueM o)) hG rfl
  refine st_seq (st_dput (ky := .inr "warm") (f0 _ _) ev_str (ev_if (x := .int (if o.warm - 2 > 15 then o.warm - 2 else 15)) (y := .int o.warm) (et_test (ev_op (ew _ h6) ev_int rv_gt)) (fun _ => ev_cb (ea_cons ev_int (ea_cons (ev_op (ew _ h6) ev_int rv_sub) ea_nil)) rc_max2) fun _ => ew _ h6) h6 (by show 4 < 100000; decide) fun u H7 p7 du => ?_)
  have e7 : (if decide (15 < o.warm) = true then (.int (if o.warm - 2 > 15 then o.warm - 2 else 15) : Dt) else .int o.warm) = .int (coolM o.warm) := by
    rw [coolM]
    by_cases c : 15 < o.warm <;> simp [c]
  rw [e7] at du
  rw [du.intR]
  have l7 : Le w.T [p] H [p] (upd H7 p (.dK (putK (ownK { o with dye := o.dye - dueM o, has := o.has + dueM o }) (.inr "warm") (.int (coolM o.warm))))) := Le.trans (Le.app l6 p7) (Le.mut (by simp) (p7.at h6))
  have h7 : upd H7 p (.dK (putK (ownK { o with dye := o.dye - dueM o, has := o.has + dueM o }) (.inr "warm") (.int (coolM o.warm)))) p = some (.dK (ownK (ownHour o))) := upd_same
  generalize upd H7 p (.dK (putK (ownK { o with dye := o.dye - dueM o, has := o.has + dueM o }) (.inr "warm") (.int (coolM o.warm)))) = G7 at l7 h7 ⊢
  refine st_ret (fx _ _) fun z H8 p8 dz => ?_
  rw [dz.intR]
  exact q H8 (l7.app p8) (p8.at h7)
end
end K3

/-! text K3e -/
namespace K3
open Dy L2 PyProof.Rows PySem.Spec PySem
/-! ### short words -/
local macro_rules | `(tactic| walk_at "pu") => `(tactic| first | assumption | exact Pu.refl | (refine Pu.trans ?_ (by assumption); walk_at "pu"))
local macro_rules | `(tactic| walk_at "le") => `(tactic| first | assumption | exact Le.refl | (exact Pu.le (by walk_at "pu")) | (refine Le.trans ?_ (by assumption); walk_at "le") | (refine Le.app ?_ (by assumption); walk_at "le"))
local macro_rules | `(tactic| walk_at "d") => `(tactic| first | assumption | exact D.int _ | exact D.str _ | exact D.non | exact D.bl _ | exact D.obj _ | (refine D.lm ?_ (by assumption); walk_at "le"))
local macro_rules | `(tactic| walk_at "sd") => `(tactic| first | assumption | omega | decide | (simp; done))
local macro_rules | `(tactic| walk_at "rv") => `(tactic| with_reducible first
  | exact rv_add | exact rv_sub | exact rv_lt | exact rv_gt | exact rv_le | exact rv_ge | exact rv_isNone | exact rv_notNone
  | (refine rv_mul ?_; first | exact Or.inl ⟨by omega, by omega⟩ | exact Or.inr ⟨by omega, by omega⟩)
  | (refine rv_div ?_ ?_ <;> first | decide | omega)
  | (refine rv_mod ?_; first | decide | omega | assumption)
  | (refine rv_pow ?_; decide)
  | exact rv_eqI | exact rv_neI | exact rv_eqS | exact rv_neS | exact rv_eqB | exact rv_neB
  | (refine rv_eqP ?_ ?_ <;> first | assumption | (with_unfolding_all rfl)) | (refine rv_neP ?_ ?_ <;> first | assumption | (with_unfolding_all rfl)))
local macro_rules | `(tactic| walk_at "ea") => `(tactic| with_reducible first | exact ea_nil | (refine ea_cons ?_ ?_; (walk_at "ev"); (walk_at "ea")))
local macro_rules | `(tactic| walk_at "ev") => `(tactic| with_reducible first
  | exact ev_int | exact ev_str | exact ev_non | exact ev_bl
  | (refine ev_var (h := ?hs) (hd := ?hd); (case hs => with_unfolding_all rfl); (case hd => walk_at "d"))
  | (refine ev_op ?_ ?_ ?_; (walk_at "ev"); (walk_at "ev"); (walk_at "rv"))
  | (refine ev_un ?_ ?_; (walk_at "ev"); exact ru_neg)
  | (refine ev_tup ?_ ?_; (walk_at "ea"); (with_unfolding_all (first | decide | simp)))
  | (refine ev_cb ?_ ?_; (walk_at "ea"); (walk_at "rc"))
  | walk_at "own")
local macro_rules | `(tactic| walk_at "rc") => `(tactic| with_reducible first
  | exact rc_abs | exact rc_int | exact rc_intB | exact rc_max2 | exact rc_min2 | exact rc_lenL | exact rc_lenT)
local macro_rules | `(tactic| walk_at "et") => `(tactic| with_reducible first
  | (refine et_test ?_; walk_at "ev")
  | (refine et_B ?_; walk_at "ev")
  | (refine et_not ?_; walk_at "et")
  | (refine et_and ?_ (fun _ => ?_); (walk_at "et"); (walk_at "et"))
  | (refine et_or ?_ (fun _ => ?_); (walk_at "et"); (walk_at "et")))
section
variable {w : Wk} {M : List Addr} {H H1 H2 G : Hp} {σ : L2.St} {p d dx : Addr} {v v' : VatM} {rows : List V}
theorem ceil_bd (x : Int) (h : 0 ≤ x) : 0 ≤ 0 - (0 - x) / 10 ∧ 0 - (0 - x) / 10 ≤ x := by omega
theorem drop_bd (x t : Int) (h : 0 ≤ x) : 0 ≤ dropM x t ∧ dropM x t ≤ x := by
  unfold dropM
  split <;> omega
/-- a new vat, at once asked: Vat(pounds, dye, warm) with the cloth put in -/
theorem make_vat {E : XK} {Q : VK} {tl : TA} {pp dd tt : Int} (g : Wf3 w) (wf : Wf w.T M H) (h : EvA w.K w.T M tl σ H [.int pp, .int dd, .int tt]) (gv : goodVat pp dd tt)
    (k : ∀ x dx di H1, H x = none → H di = none → Pu w.T H H1 → H1 x = some (.ins w.c_Vat dx (vatL (newVat pp dd tt) di)) → H1 di = some (.lst []) → Q (.ref x) H1) : tMake w.c_Vat (sp_Vat_init w) [] E tl σ H Q := h.run fun vs H1 p1 dv => by
  obtain ⟨a, b, c, rfl, ha, hb, hc⟩ := all3 dv
  rw [ha.intR, hb.intR, hc.intR]
  intro x dx hx hdx ne
  have nx : H x = none := by
    cases e : H x with
    | none => rfl
    | some o => exact absurd hx (p1.dom x (by rw [e]; simp))
  have pa : Pu w.T H1 (upd (upd H1 dx (.own x)) x (.ins w.c_Vat dx [])) := Pu.trans (Pu.new hdx) (Pu.new (by rw [upd_ne ne.symm]; exact hx))
  show sp_Vat_init w [.ref x, .int pp, .int dd, .int tt] _ _ _
  refine ⟨M, x, dx, pp, dd, tt, rfl, wf.pu (p1.trans pa), upd_same, by rw [upd_ne ne, upd_same], fun z => absurd gv z, fun _ di H2 hdi l e1 e2 => ⟨rfl, ?_⟩⟩
  have ndi : H1 di = none := by
    cases e : H1 di with
    | none => rfl
    | some o => exact absurd hdi (pa.dom di (by rw [e]; simp))
  have ndi0 : H di = none := by
    cases e : H di with
    | none => rfl
    | some o => exact absurd ndi (p1.dom di (by rw [e]; simp))
  exact k x dx di H2 nx ndi0 (Pu.fresh (p1.trans pa) nx l) e1 e2
theorem asgQ {te : TE} {i : Nat} {E : Ends} (h : te σ H fun v H1 => E.nx (σ.set i (some v)) H1) : tAsg te (gName i) E σ H := h
theorem vok_new {c s pp dd tt : Int} : VOk { newVat pp dd tt with cloth := c, since := some s } := ⟨fun _ => ⟨s, rfl⟩, by simp [newVat], fun r hr => by simp [newVat] at hr⟩
theorem in_new {c s pp dd tt : Int} : inCloth { newVat pp dd tt with cloth := c, since := some s } = 0 := by
  unfold inCloth inS newVat
  simp
theorem hours_same {c pp dd tt : Int} : (⟨pp, dd, tt, c, some 0, 0, []⟩ : VatM) = { newVat pp dd tt with cloth := c, since := some 0 } := rfl
theorem takes_bd {c pp dd tt : Int} (hd : 0 ≤ dd) (hc : 0 ≤ c) : 0 ≤ takesM ⟨pp, dd, tt, c, some 0, 0, []⟩ ∧ takesM ⟨pp, dd, tt, c, some 0, 0, []⟩ ≤ dd := by
  have b := drop_bd dd tt hd
  have e : inCloth ⟨pp, dd, tt, c, some 0, 0, []⟩ = 0 := in_new
  unfold takesM
  rw [e]
  show 0 ≤ (if c = 0 ∨ tt < 20 then 0 else if 20 * c - 0 < dropM dd tt then 20 * c - 0 else dropM dd tt) ∧ (if c = 0 ∨ tt < 20 then 0 else if 20 * c - 0 < dropM dd tt then 20 * c - 0 else dropM dd tt) ≤ dd
  split
  · omega
  · split <;> omega
theorem pure_hours_for (g : Wf3 w) (vs : List V) (Q : VK) (E : XK) (h : sp_Vat_hours_for w vs H Q E) : t_Vat_hours_for w E { nx := fun _ H' => Q .non H', rt := Q } (start N_Vat_hours_for vs) H := by
  obtain ⟨M, ds, _, wf, r, h⟩ := h
  -- the vat and its cloth
  have main : ∀ v n, ds = [vatD w v, .int n] → ∀ (bad : v.cloth = 0 → ∀ H1, Pu w.T H H1 → E (.ref w.e_VatError) none H1), (v.cloth ≠ 0 → VOk v ∧ (1 ≤ v.pounds ∧ v.pounds ≤ 200) ∧ (0 ≤ v.cloth ∧ v.cloth ≤ 200) ∧ (0 ≤ v.dye ∧ v.dye ≤ 2 ^ 39) ∧ (0 ≤ v.warm ∧ v.warm ≤ 100) ∧ (0 ≤ inCloth v ∧ inCloth v ≤ 20 * v.cloth) ∧ ∀ u H1, Pu w.T H H1 → D w.K M H1 u (oI (hoursOf v n)) → Q u H1) →
      t_Vat_hours_for w E { nx := fun _ H' => Q .non H', rt := Q } (start N_Vat_hours_for vs) H := by
    intro v n e bad good
    subst e
    obtain ⟨s, u, rfl, hs, hu⟩ := all2 r
    rw [hu.intR]
    have e0 : Ev w.K w.T M (tVar 0) (start N_Vat_hours_for [s, .int n]) H (vatD w v) := ev_var rfl hs
    refine st_seq (st_if (et_test (ev_op (vat_fld (f := "cloth") g e0 (by decide) rfl) ev_int rv_eqI)) (fun hb H1 p1 => bad (by simpa using hb) H1 p1) fun hb H1 p1 => ?_)
    have hc : v.cloth ≠ 0 := by simpa using hb
    obtain ⟨ok, hp, hcl, hdy, hwm, hin, q⟩ := good hc
    have e1 := e0.mono p1
    refine st_seq (st_par3 (ea_cons (vat_fld (f := "dye") g e1 (by decide) rfl) (ea_cons (vat_fld (f := "warm") g e1 (by decide) rfl) (ea_cons (ev_meth e1 (zip_none (by decide)) ea_nil (spV_D (wf.pu p1) rfl ⟨v, ok, rfl, rfl⟩)) ea_nil))) fun a b c H2 p2 ha hb hc' => ?_)
    rw [ha.intR, hb.intR, hc'.intR]
    refine st_seq ?_
    refine s_for (K := w.K) (T := w.T) (M := M) (M' := M) (ds := Dy.intsFrom 0 501) (src_rng1 (n := 501) (ea_cons ev_int ea_nil) (by decide) (by decide)) fun H3 p3 => ?_
    have p03 := p1.trans (p2.trans p3)
    refine ⟨fun i σ' H' => Pu w.T H3 H' ∧ i ≤ 501 ∧ ∃ dy wm ha x y z, σ' = [some s, some (.int n), some (.int dy), some (.int wm), some (.int ha), x, y, z] ∧ (0 ≤ dy ∧ dy ≤ 2 ^ 39) ∧ (0 ≤ wm ∧ wm ≤ 100) ∧ (0 ≤ ha ∧ ha ≤ 20 * v.cloth) ∧ hoursM v.pounds v.cloth n (501 - i) (i : Nat) dy wm ha = hoursOf v n,
      ⟨Pu.refl, by decide, v.dye, v.warm, inCloth v, none, none, none, rfl, hdy, hwm, hin, rfl⟩, fun i σ' H' hi => hi.1.le, fun i d σ' H' x H4 hd ⟨pu, hi, dy, wm, ha, x5, x6, x7, eσ, hdy, hwm, hha, eq⟩ p4 dxx => ?_, fun σ' H' ⟨pu, hi, dy, wm, ha, x5, x6, x7, eσ, hdy, hwm, hha, eq⟩ => ?_⟩
    · subst eσ
      have hlt : i < 501 := by
        have := (List.getElem?_eq_some_iff.mp hd).1
        simpa [Dy.intsFrom] using this
      have ed : d = .int (i : Nat) := by
        simp only [Dy.intsFrom, List.getElem?_map, Option.map_eq_some_iff] at hd
        obtain ⟨j, hj, rfl⟩ := hd
        obtain ⟨_, hj2⟩ := List.getElem?_eq_some_iff.mp hj
        simp at hj2
        rw [← hj2]; simp
      subst ed
      rw [dxx.intR]
      have p04 : Pu w.T H H4 := p03.trans (pu.trans p4)
      have wf4 := wf.pu p04
      have step : hoursM v.pounds v.cloth n (501 - i) (i : Nat) dy wm ha = hoursM v.pounds v.cloth n ((501 - (i + 1)) + 1) (i : Nat) dy wm ha := by
        rw [show 501 - i = (501 - (i + 1)) + 1 by omega]
      rw [step, hoursM] at eq
      have s0 : ∀ G (z : List (Option V)), Pu w.T H G → Ev w.K w.T M (tVar 0) (some s :: z) G (vatD w v) := fun G z pG => ev_var rfl (hs.pu pG)
      show tSeq _ _ _ [some s, some (.int n), some (.int dy), some (.int wm), some (.int ha), some (.int (i : Nat)), x6, x7] H4
      refine st_seq (st_if (et_test (ev_op (K := w.K) (T := w.T) (M := M) (ta := tVar 4) (tb := tVar 1) (ev_var rfl (.int ha)) (ev_var rfl (.int n)) rv_ge)) (fun hb H5 p5 => ?_) fun hb H5 p5 => ?_)
      · have hle : n ≤ ha := by simpa using hb
        rw [if_pos hle] at eq
        refine st_ret (K := w.K) (T := w.T) (M := M) (ev_var (i := 5) rfl (.int (i : Nat))) fun u H6 p6 du => q u H6 (p04.trans (p5.trans p6)) ?_
        rw [← eq]
        exact du
      · have hle : ¬ n ≤ ha := by simpa using hb
        rw [if_neg hle] at eq
        have p05 := p04.trans p5
        have gv : goodVat v.pounds dy wm := ⟨hp.1, hp.2, hdy.1, hwm.1, hwm.2⟩
        refine st_seq (asgQ (make_vat g (wf.pu p05) (ea_cons (vat_fld (f := "pounds") g (s0 _ [some (.int n), some (.int dy), some (.int wm), some (.int ha), some (.int (i : Nat)), x6, x7] p05) (by decide) rfl) (ea_cons (ev_var (i := 2) rfl (.int dy)) (ea_cons (ev_var (i := 3) rfl (.int wm)) ea_nil))) gv fun x dx di H6 nx ndi p6 hx hdi => ?_))
        have p06 := p05.trans p6
        show tSeq _ _ _ [some s, some (.int n), some (.int dy), some (.int wm), some (.int ha), some (.int (i : Nat)), some (.ref x), x7] H6
        have a6 : At w [x, di] H6 x di dx [] (newVat v.pounds dy wm) H6 := At.of (by simp) (by simp) hx hdi .nil
        refine st_seq (st_asg2 (K := w.K) (T := w.T) (M := M) (x := .int v.cloth) (y := .int 0) (ev_tup (ea_cons (vat_fld (f := "cloth") g (s0 _ [some (.int n), some (.int dy), some (.int wm), some (.int ha), some (.int (i : Nat)), some (.ref x), x7] p06) (by decide) rfl) (ea_cons ev_int ea_nil)) (by show 2 ≤ 100000; decide)) fun a b H7 p7 ha7 hb7 => ?_)
        rw [ha7.intR, hb7.intR]
        have e6 : ∀ G (z : Option V), Ev w.K w.T [x, di] (tVar 6) [some s, some (.int n), some (.int dy), some (.int wm), some (.int ha), some (.int (i : Nat)), some (.ref x), z] G (.obj x) := fun G z => ev_var rfl (.obj x)
        -- the vat that is asked
        have gput : ∀ {v1 v2 : VatM} {G : Hp} {f : Str} {y : V} {Q' : L2.St → Hp → Prop} {z : Option V}, At w [x, di] H6 x di dx [] v1 G → f ∈ vns → putF f y (vatL v1 di) = vatL v2 di → v2.diary = v1.diary → (∀ G', At w [x, di] H6 x di dx [] v2 G' → Q' [some s, some (.int n), some (.int dy), some (.int wm), some (.int ha), some (.int (i : Nat)), some (.ref x), z] G') →
            gFld w.K (tVar 6) f y [some s, some (.int n), some (.int dy), some (.int wm), some (.int ha), some (.int (i : Nat)), some (.ref x), z] G Q' := fun {v1 v2 G f y Q' z} at1 hf ef ed' k => (e6 G z).run fun u G1 q1 du => by
          rw [du.objR]
          exact ⟨x, w.c_Vat, dx, _, rfl, q1.at at1.hi, g.cls, g.na f hf, vlen, k _ ((at1.pu q1).set ef ed')⟩
        refine gput (v2 := { newVat v.pounds dy wm with cloth := v.cloth }) (a6.pu p7) (by decide) rfl rfl fun G8 a8 => ?_
        refine gput (v2 := { newVat v.pounds dy wm with cloth := v.cloth, since := some 0 }) a8 (by decide) rfl rfl fun G9 a9 => ?_
        have nd : ∀ b ∈ [x, di], H5 b = none := by
          intro b hb
          rcases
                  List.mem_cons.mp hb with rfl | hb
          · exact nx
          · rw [List.mem_singleton.mp hb]; exact ndi
        have p69 : Pu w.T H5 G9 := ⟨fun b o _ nn e => a9.le.keep b o (.inl fun z => by rw [nd b z] at e; cases e) nn (p6.at e nn), fun b e => a9.le.dom b (p6.dom b e), fun b z => absurd z (by simp), fun z => a9.le.tabs (p6.tabs z)⟩
        have p09 := p05.trans p69
        have wf9 : Wf w.T [] G9 := (wf.pu p09).nil
        have took := takes_bd (c := v.cloth) (pp := v.pounds) (tt := wm) hdy.1 hcl.1
        refine st_seq (st_asg (M := M) (ev_cb (ea_cons ((a9.call0 (y := .int (takesM ⟨v.pounds, dy, wm, v.cloth, some 0, 0, []⟩)) (e6 _ x7) (by decide) (spV_D wf9 rfl ⟨_, vok_new, rfl, rfl⟩) rfl).flat rfl) (ea_cons (ev_op (ev_op ev_int (vat_fld (f := "cloth") g (s0 _ [some (.int n), some (.int dy), some (.int wm), some (.int ha), some (.int (i : Nat)), some (.ref x), x7] p09) (by decide) rfl) (rv_mul (.inl ⟨by decide, by decide⟩))) (ev_var (i := 4) rfl (.int ha)) rv_sub) ea_nil)) rc_min2) fun u H10 p10 du => ?_)
        rw [du.intR]
        generalize htk : (if 20 * v.cloth - ha < takesM ⟨v.pounds, dy, wm, v.cloth, some 0, 0, []⟩ then 20 * v.cloth - ha else takesM ⟨v.pounds, dy, wm, v.cloth, some 0, 0, []⟩) = tk at eq ⊢
        have tkb : 0 ≤ tk ∧ tk ≤ dy ∧ tk ≤ 20 * v.cloth - ha := by
          rw [← htk]
          split <;> omega
        show tSeq _ _ _ [some s, some (.int n), some (.int dy), some (.int wm), some (.int ha), some (.int (i : Nat)), some (.ref x), some (.int tk)] H10
        refine st_seq (st_par (K := w.K) (T := w.T) (M := M) (x := .int (dy - tk)) (y := .int (ha + tk)) (ea_cons (ev_op (ta := tVar 2) (tb := tVar 7) (ev_var rfl (.int dy)) (ev_var rfl (.int tk)) rv_sub) (ea_cons (ev_op (ta := tVar 4) (tb := tVar 7) (ev_var rfl (.int ha)) (ev_var rfl (.int tk)) rv_add) ea_nil)) fun a b H11 p11 ha11 hb11 => ?_)
        rw [ha11.intR, hb11.intR]
        refine st_asg (K := w.K) (T := w.T) (M := M) (ev_if (x := .int (if wm - 2 > 15 then wm - 2 else 15)) (y := .int wm) (et_test (ev_op (K := w.K) (T := w.T) (M := M) (ta := tVar 3) (ev_var rfl (.int wm)) ev_int rv_gt)) (fun _ => ev_cb (ea_cons ev_int (ea_cons (ev_op (ta := tVar 3) (ev_var rfl (.int wm)) ev_int rv_sub) ea_nil)) rc_max2) fun _ => ev_var rfl (.int wm)) fun u H12 p12 du => ?_
        have e7 : (if decide (15 < wm) = true then (.int (if wm - 2 > 15 then wm - 2 else 15) : Dt) else .int wm) = .int (coolM wm) := by
          rw [coolM]
          by_cases c : 15 < wm <;> simp [c]
        rw [e7] at du
        rw [du.intR]
        have cb : 0 ≤ coolM wm ∧ coolM wm ≤ 100 := by
          unfold coolM
          split
          · split <;> omega
          · omega
        refine ⟨pu.trans (p4.trans (p5.trans (p69.trans (p10.trans (p11.trans p12))))), hlt, dy - tk, coolM wm, ha + tk, _, _, _, rfl, by omega, cb, by omega, ?_⟩
        rw [← eq]
        subst htk
        push_cast
        rfl
    · subst eσ
      have e501 : (Dy.intsFrom 0 501).length = 501 := by simp [Dy.intsFrom]
      rw [e501] at eq
      show tRet (tC .non) { nx := fun _ H' => Q .non H', rt := Q } [some s, some (.int n), some (.int dy), some (.int wm), some (.int ha), x5, x6, x7] H'
      refine st_ret (K := w.K) (T := w.T) (M := M) ev_non fun u H6 p6 du => q u H6 (p03.trans (pu.trans p6)) ?_
      rw [← eq]
      exact du
  rcases h with ⟨d, ⟨v, n, ok, hc, hp, hcl, hdy, hwm, hin, rfl, rfl⟩, q⟩ | ⟨⟨v, n, rfl, hc⟩, bad⟩
  · exact main v n rfl (fun z => absurd z hc) fun _ => ⟨ok, hp, hcl, hdy, hwm, hin, q⟩
  · exact main v n rfl (fun _ => bad) fun z => absurd hc z
end
end K3

/-! text K3f -/
namespace K3
open Dy L2 PyProof.Rows PySem.Spec PySem
/-! ### short words -/
local macro_rules | `(tactic| walk_at "pu") => `(tactic| first | assumption | exact Pu.refl | (refine Pu.trans ?_ (by assumption); walk_at "pu"))
local macro_rules | `(tactic| walk_at "le") => `(tactic| first | assumption | exact Le.refl | (exact Pu.le (by walk_at "pu")) | (refine Le.trans ?_ (by assumption); walk_at "le") | (refine Le.app ?_ (by assumption); walk_at "le"))
local macro_rules | `(tactic| walk_at "d") => `(tactic| first | assumption | exact D.int _ | exact D.str _ | exact D.non | exact D.bl _ | exact D.obj _ | (refine D.lm ?_ (by assumption); walk_at "le"))
local macro_rules | `(tactic| walk_at "sd") => `(tactic| first | assumption | omega | decide | (simp; done))
local macro_rules | `(tactic| walk_at "rv") => `(tactic| with_reducible first
  | exact rv_add | exact rv_sub | exact rv_lt | exact rv_gt | exact rv_le | exact rv_ge | exact rv_isNone | exact rv_notNone
  | (refine rv_mul ?_; first | exact Or.inl ⟨by omega, by omega⟩ | exact Or.inr ⟨by omega, by omega⟩)
  | (refine rv_div ?_ ?_ <;> first | decide | omega)
  | (refine rv_mod ?_; first | decide | omega | assumption)
  | (refine rv_pow ?_; decide)
  | exact rv_eqI | exact rv_neI | exact rv_eqS | exact rv_neS | exact rv_eqB | exact rv_neB
  | (refine rv_eqP ?_ ?_ <;> first | assumption | (with_unfolding_all rfl)) | (refine rv_neP ?_ ?_ <;> first | assumption | (with_unfolding_all rfl)))
local macro_rules | `(tactic| walk_at "ea") => `(tactic| with_reducible first | exact ea_nil | (refine ea_cons ?_ ?_; (walk_at "ev"); (walk_at "ea")))
local macro_rules | `(tactic| walk_at "ev") => `(tactic| with_reducible first
  | exact ev_int | exact ev_str | exact ev_non | exact ev_bl
  | (refine ev_var (h := ?hs) (hd := ?hd); (case hs => with_unfolding_all rfl); (case hd => walk_at "d"))
  | (refine ev_op ?_ ?_ ?_; (walk_at "ev"); (walk_at "ev"); (walk_at "rv"))
  | (refine ev_un ?_ ?_; (walk_at "ev"); exact ru_neg)
  | (refine ev_tup ?_ ?_; (walk_at "ea"); (with_unfolding_all (first | decide | simp)))
  | (refine ev_cb ?_ ?_; (walk_at "ea"); (walk_at "rc"))
  | walk_at "own")
local macro_rules | `(tactic| walk_at "rc") => `(tactic| with_reducible first
  | exact rc_abs | exact rc_int | exact rc_intB | exact rc_max2 | exact rc_min2 | exact rc_lenL | exact rc_lenT)
local macro_rules | `(tactic| walk_at "et") => `(tactic| with_reducible first
  | (refine et_test ?_; walk_at "ev")
  | (refine et_B ?_; walk_at "ev")
  | (refine et_not ?_; walk_at "et")
  | (refine et_and ?_ (fun _ => ?_); (walk_at "et"); (walk_at "et"))
  | (refine et_or ?_ (fun _ => ?_); (walk_at "et"); (walk_at "et")))
section
variable {w : Wk} {M : List Addr} {H H1 H2 G : Hp} {σ : L2.St} {p d dx : Addr} {v v' : VatM} {rows : List V}
theorem subs_in : ∀ (n : Nat) (row : List Int), row ∈ subs n → row.length ≤ n ∧ ∀ x ∈ row, 0 ≤ x ∧ x < n
  | 0, row, h => by simp [subs] at h; subst h; simp
  | n + 1, row, h => by
    rcases
            List.mem_append.mp h with h | h
    · obtain ⟨h1, h2⟩ := subs_in n row h
      exact ⟨by omega, fun x hx => by have := h2 x hx; push_cast; omega⟩
    · obtain ⟨r, hr, rfl⟩ := List.mem_map.mp h
      obtain ⟨h1, h2⟩ := subs_in n r hr
      refine ⟨by simp; omega, fun x hx => ?_⟩
      rcases
              List.mem_append.mp hx with hx | hx
      · have := h2 x hx
        push_cast; omega
      · have : x = (n : Int) := by simpa using hx
        push_cast; omega
theorem filterT {α : Type} (l : List α) : (l.filter fun _ => true) = l := List.filter_eq_self.mpr fun _ _ => rfl
theorem subs_len : ∀ n : Nat, (subs n).length = 2 ^ n
  | 0 => rfl
  | n + 1 => by simp [subs, subs_len n]; omega
theorem tD_flat (l : List Int) : (tD l).flat = true := by simp only [tD, Dt.flat]; exact ints_flat l
theorem rows_flat (l : List (List Int)) : Dt.flatAll (l.map tD) = true := by
  induction l with
  | nil => rfl
  | cons x l ih => simp [Dt.flatAll, tD_flat, ih]
theorem ints_depth (l : List Int) : PyData.depthAll (l.map .int) = 0 := PySem.W.depth_ints l
theorem gD_fine (l : List Int) : (gD l).fine = true := by
  simp [Dt.fine, gD, tD, Dt.pl, Dt.plAll, Dt.py, Dt.pyAll, ints_pl, ints_py, PyData.canLay0, PyData.canLayAll0, ints_lay, PyData.depth, PyData.depthAll, ints_depth]
theorem gD_row (ls : List (List Int)) : RowOk (ls.map gD) := by
  refine ⟨fun d hd => ?_, fun d hd e he => ?_, fun d hd => ?_⟩
  · obtain ⟨l, _, rfl⟩ := List.mem_map.mp hd
    simp [gD, tD, Dt.pl, Dt.plAll, ints_pl]
  · obtain ⟨l, _, rfl⟩ := List.mem_map.mp hd
    obtain ⟨m, _, rfl⟩ := List.mem_map.mp he
    simp [alD, gD, tD, Dt.py, Dt.pyAll, ints_py, PySem.W.alike, PySem.W.alikeAll, PySem.W.alike_ints]
  · obtain ⟨l, _, rfl⟩ := List.mem_map.mp hd
    simp [gD, tD, Dt.py, Dt.pyAll, ints_py, PyData.depth, PyData.depthAll, ints_depth]
theorem gD_nn (ls : List (List Int)) : ∀ d ∈ ls.map gD, d.py ≠ .none := fun d hd => by
  obtain ⟨l, _, rfl⟩ := List.mem_map.mp hd
  simp [gD, Dt.py]
theorem pick_at {sizes : List Int} {x : Int} (h : 0 ≤ x ∧ x < sizes.length) : atI (sizes.map Dt.int) x = some (.int (pick sizes x)) := by
  have hx : x.toNat < sizes.length := by omega
  refine atI_at (j := x.toNat) ?_ ?_
  · simp [ixN, h.1, h.2]
  · rw [List.getElem?_map, List.getElem?_eq_getElem hx, pick, List.getD_eq_getElem?_getD, List.getElem?_eq_getElem hx]
    rfl
theorem pure_vats_for (g : Wf3 w) (vs : List V) (Q : VK) (E : XK) (h : sp_vats_for w vs H Q E) : t_vats_for w E { nx := fun _ H' => Q .non H', rt := Q } (start N_vats_for vs) H := by
  obtain ⟨M, ds, _, wf, r, h⟩ := h
  have main : ∀ need sz, ds = [.int need, .lst sz] → ((need < 1 ∨ 8 < sz.length) → ∀ H1, Pu w.T H H1 → E (.ref w.e_VatError) none H1) → (¬ (need < 1 ∨ 8 < sz.length) → ∃ sizes, sz = sizes.map .int ∧ (∀ x ∈ sizes, -1000 ≤ x ∧ x ≤ 1000) ∧ ∀ u H1, Pu w.T H H1 → D w.K M H1 u (vatsD need sizes) → Q u H1) →
      t_vats_for w E { nx := fun _ H' => Q .non H', rt := Q } (start N_vats_for vs) H := by
    intro need sz e bad good
    subst e
    obtain ⟨a, zs, rfl, ha, hz⟩ := all2 r
    rw [ha.intR]
    have en : ∀ G, Ev w.K w.T M (tVar 0) (start N_vats_for [.int need, zs]) G (.int need) := fun G => ev_var rfl (.int need)
    have ez : Ev w.K w.T M (tVar 1) (start N_vats_for [.int need, zs]) H (.lst sz) := ev_var rfl hz
    refine st_seq (st_if (et_or (et_test (ev_op (ev_cb (ea_cons ez ea_nil) rc_lenL) ev_int rv_gt)) fun _ => et_test (ev_op (en _) ev_int rv_lt)) (fun hb H1 p1 => bad ?_ H1 p1) fun hb H1 p1 => ?_)
    · simp only [Bool.or_eq_true, decide_eq_true_eq] at hb
      omega
    · simp only [Bool.or_eq_false_iff, decide_eq_false_iff_not] at hb
      obtain ⟨sizes, rfl, szb, q⟩ := good (by omega)
      have hl8 : sizes.length ≤ 8 := by
        have := hb.1
        rw [List.length_map] at this
        omega
      refine st_seq (st_asgNew (K := w.K) (T := w.T) (M := M) (ds := [tD []]) (ea_cons (ev_tup ea_nil (by decide)) ea_nil) (by decide) fun p rs H2 p2 hp rd => ?_)
      have p12 := p1.trans p2
      have pM : p ∉ M := (wf.pu p12).fresh hp
      have nH : H p = none := by
        cases e : H p with
        | none => rfl
        | some o => exact absurd hp (p12.dom p (by rw [e]; simp))
      have dz : D w.K (p :: M) (upd H2 p (.lst rs)) zs (.lst (sizes.map .int)) := (hz.pu p12).grow hp
      have dr : DAll w.K (p :: M) (upd H2 p (.lst rs)) rs ((subs 0).map tD) := rd.grow hp
      have pG : Pu w.T H (upd H2 p (.lst rs)) := p12.trans (Pu.new hp)
      have wG : Wf w.T (p :: M) (upd H2 p (.lst rs)) := (wf.pu pG).cons (by rw [upd_same]; simp)
      have hG : upd H2 p (.lst rs) p = some (.lst rs) := upd_same
      generalize upd H2 p (.lst rs) = G at dz dr pG wG hG
      refine st_seq ?_
      have z0 : Ev w.K w.T (p :: M) (tVar 1) ((start N_vats_for [.int need, zs]).set 2 (some (.ref p))) G (.lst (sizes.map .int)) := ev_var rfl dz
      refine s_for (K := w.K) (T := w.T) (M := p :: M) (M' := p :: M) (ds := Dy.intsFrom 0 sizes.length) (by
        have := src_rng1 (n := ((sizes.map Dt.int).length : Int)) (ea_cons (ev_cb (ea_cons z0 ea_nil) rc_lenL) ea_nil) (by rw [List.length_map]; omega) (by omega)
        simpa using this) fun H3 p3 => ?_
      refine ⟨fun i σ' H' => i ≤ sizes.length ∧ Le w.T (p :: M) H3 (p :: M) H' ∧ (∀ b o, b ≠ p → nt o = true → H b = some o → H' b = some o) ∧ ∃ vs' x y z, σ' = [some (.int need), some zs, some (.ref p), x, y, z] ∧ H' p = some (.lst vs') ∧ DAll w.K (p :: M) H' vs' ((subs i).map tD),
        ⟨Nat.zero_le _, Le.refl, fun b o _ n e => (pG.trans p3).at e n, rs, none, none, none, rfl, p3.at hG, dr.pu p3⟩, fun i σ' H' hi => hi.2.1, fun i d σ' H' x H4 hd ⟨hi, le, old, vs', x3, x4, x5, eσ, hp', dv⟩ p4 dxx => ?_, fun σ' H' ⟨hi, le, old, vs', x3, x4, x5, eσ, hp', dv⟩ => ?_⟩
      · subst eσ
        have hlt : i < sizes.length := by
          have := (List.getElem?_eq_some_iff.mp hd).1
          simpa [Dy.intsFrom] using this
        have ed : d = .int (i : Nat) := by
          simp only [Dy.intsFrom, List.getElem?_map, Option.map_eq_some_iff] at hd
          obtain ⟨j, hj, rfl⟩ := hd
          obtain ⟨_, hj2⟩ := List.getElem?_eq_some_iff.mp hj
          simp at hj2
          rw [← hj2]; simp
        subst ed
        rw [dxx.intR]
        have l4 := le.app p4
        have w4 : Wf w.T (p :: M) H4 := (wG.pu p3).le l4
        have h4 := p4.at hp'
        have dv4 := dv.pu p4
        have wM : Wf w.T M H4 := ⟨w4.tabs, fun m hm => w4.mem m (List.mem_cons_of_mem _ hm)⟩
        have dR : D w.K M H4 (.ref p) (.lst ((subs i).map tD)) := .lst pM h4 (dv4.sub fun b hb => List.mem_cons_of_mem _ hb)
        have len2 : (subs i).length ≤ 256 := by
          rw [subs_len]
          exact Nat.le_trans (Nat.pow_le_pow_right (by decide) (by omega : i ≤ 8)) (by decide)
        show tAug 2 _ _ _ [some (.int need), some zs, some (.ref p), some (.int (i : Nat)), x4, x5] H4
        refine st_augExt (K := w.K) (T := w.T) (M := M) (l := p) (vs := vs') (es := (((subs i).filter fun _ => true).map fun row => tD (row ++ [(i : Int)]))) rfl h4 ?_ ?_ fun ws H5 p5 dw => ?_
        · refine ev_lc (α := List Int) (xs := subs i) (enc := tD) (p := fun _ => true) (f := fun row => tD (row ++ [(i : Int)])) (Bd := fun row M1 G1 σ2 => ∃ u, σ2 = (wipe [some (.int need), some zs, some (.ref p), some (.int (i : Nat)), x4, x5] [4]).set 4 (some u) ∧ D w.K M1 G1 u (tD row)) wM (src_list (ev_var rfl dR)) (by omega)
            (fun row _ M1 G1 u _ _ du Q' k => k _ ⟨u, rfl, du⟩) (fun row M1 G1 σ2 ⟨u, e, _⟩ => by rw [e]; rfl) (fun row _ M1 G1 σ2 _ _ _ _ => et_yes) fun row hrow _ M1 G1 σ2 _ _ _ ⟨u, e, du⟩ => ?_
          subst e
          have hr8 := (subs_in i row hrow).1
          refine (ev_op (ev_var rfl du) (ev_tup (ea_cons (ev_var (i := 3) rfl (.int (i : Nat))) ea_nil) (by show 1 ≤ 100000; decide)) (rv_addTup (by simp; omega))).is ?_
          simp [tD]
        · rw [dv4.length, List.length_map, List.length_map]
          have : ((subs i).filter fun _ => true).length ≤ (subs i).length := List.length_filter_le ..
          omega
        · have h5 := p5.at h4
          have l5 : Le w.T (p :: M) H4 (p :: M) (upd H5 p (.lst (vs' ++ ws))) := Le.trans p5.le (Le.mut List.mem_cons_self h5)
          refine ⟨hlt, l4.trans l5, fun b o hb n e => ?_, vs' ++ ws, _, _, _, rfl, upd_same, ?_⟩
          · rw [upd_ne hb]
            exact p5.at (p4.at (old b o hb n e) n) n
          · have e1 : (subs (i + 1)).map tD = (subs i).map tD ++ ((subs i).filter fun _ => true).map fun row => tD (row ++ [(i : Int)]) := by
              rw [filterT, subs, List.map_append, List.map_map]
              rfl
            rw [e1]
            exact (dv4.le l5).append ((dw.flat (M' := p :: M) (by
              have := rows_flat (((subs i).filter fun _ => true).map fun row => row ++ [(i : Int)])
              rw [List.map_map] at this
              exact this)).le (Le.mut (T := w.T) List.mem_cons_self h5))
      · subst eσ
        have el : (Dy.intsFrom 0 sizes.length).length = sizes.length := by simp [Dy.intsFrom]
        rw [el] at dv
        have w' : Wf w.T (p :: M) H' := (wG.pu p3).le le
        have wM : Wf w.T M H' := ⟨w'.tabs, fun m hm => w'.mem m (List.mem_cons_of_mem _ hm)⟩
        have dR : D w.K M H' (.ref p) (.lst ((subs sizes.length).map tD)) := .lst pM hp' (dv.sub fun b hb => List.mem_cons_of_mem _ hb)
        have dS : D w.K M H' zs (.lst (sizes.map .int)) := ((dz.pu p3).le le).sub fun b hb => List.mem_cons_of_mem _ hb
        have pH : Pu w.T H H' := ⟨fun b o _ n e => old b o (ne_of_none e nH) n e, fun b e => le.dom b ((pG.trans p3).dom b e), fun b z => absurd z (by simp), fun z => le.tabs ((pG.trans p3).tabs z)⟩
        have len2 : (subs sizes.length).length ≤ 256 := by
          rw [subs_len]
          exact Nat.le_trans (Nat.pow_le_pow_right (by decide) hl8) (by decide)
        refine st_seq (st_asg (ev_lc (α := List Int) (xs := subs sizes.length) (enc := tD) (p := fun row => decide (need ≤ holds sizes row)) (f := gD) (Bd := fun row M1 G1 σ2 => ∃ u, σ2 = (wipe [some (.int need), some zs, some (.ref p), x3, x4, x5] [4]).set 4 (some u) ∧ D w.K M1 G1 u (tD row)) wM (src_list (ev_var rfl dR)) (by omega)
            (fun row _ M1 G1 u _ _ du Q' k => k _ ⟨u, rfl, du⟩) (fun row M1 G1 σ2 ⟨u, e, _⟩ => by rw [e]; rfl) (fun row hrow M1 G1 σ2 _ lM wM1 ⟨u, e, du⟩ => ?_) fun row hrow _ M1 G1 σ2 _ _ _ ⟨u, e, du⟩ => ?_) fun gv H5 p5 dg => ?_)
        · subst e
          obtain ⟨hr8, hrb⟩ := subs_in _ row hrow
          have dS1 := dS.le lM
          refine EvT.is (et_test (ev_op (ev_sumG (α := Int) (xs := row) (enc := .int) (p := fun _ => true) (f := pick sizes) (Bd := fun x G2 σ3 => σ3 = (wipe ((wipe [some (.int need), some zs, some (.ref p), x3, x4, x5] [4]).set 4 (some u)) [3]).set 3 (some (.int x)))
            wM1 (by simp [Wk.T]) (fun t ht e => mem_T g t ht _ (by simp [Wk.T]) e) (src_tup (ev_var rfl du)) (by omega) (fun x hx _ => ?_) (fun x _ G2 u2 _ du2 Q' k => by rw [du2.intR]; exact k _ rfl) (fun x G2 σ3 e => by rw [e]; rfl) (fun x _ G2 σ3 _ _ => et_yes) fun x hx _ G2 σ3 pq e => ?_) (ev_var (i := 0) rfl (.int need)) rv_ge)) ?_
          · have hxb := hrb x hx
            have hx : x.toNat < sizes.length := by omega
            have := szb (pick sizes x) (by
              rw [pick, List.getD_eq_getElem?_getD, List.getElem?_eq_getElem hx]
              exact List.getElem_mem hx)
            omega
          · subst e
            exact ev_ixL (ev_var (i := 1) rfl (dS1.pu pq)) (ev_var (i := 3) rfl (.int x)) (pick_at (hrb x hx))
          · rw [filterT]; rfl
        · subst e
          refine ev_tup (ea_cons ((ev_cb (ea_cons (ev_var rfl du) ea_nil) rc_lenT).is ?_) (ea_cons (ev_var rfl du) ea_nil)) (by show 2 ≤ 100000; decide)
          simp
        · have wM5 := wM.pu p5
          have eg : ∀ {G}, Pu w.T H5 G → Ev w.K w.T M (tVar 5) ([some (.int need), some zs, some (.ref p), x3, x4, x5].set 5 (some gv)) G (.lst ((goodRows need sizes).map gD)) := fun {G} pg => ev_var rfl (dg.pu pg)
          have okl : (Dt.lst ((goodRows need sizes).map gD)).ok = true := ok_lst fun d hd => by
            obtain ⟨l, _, rfl⟩ := List.mem_map.mp hd
            exact gD_fine l
          refine st_ret (d := vatsD need sizes) ((ev_if (x := vatsD need sizes) (y := .non) (et_test (ev_op (eg Pu.refl) (ev_lst wM5 ea_nil (by decide)) (rv_neP okl rfl))) (fun hb => ?_) fun _ => ev_non).is ?_) fun u H6 p6 du => q u H6 (pH.trans (p5.trans p6)) du
          · rw [eqv_nil] at hb
            cases hbest : bestOf ltD ((goodRows need sizes).map gD) with
            | none =>
              cases hgr : (goodRows need sizes).map gD with
              | nil => rw [hgr] at hb; simp at hb
              | cons d l => rw [hgr] at hbest; cases hbest
            | some d =>
              obtain ⟨row, _, rfl⟩ := List.mem_map.mp (bestOf_mem hbest)
              have ev : vatsD need sizes = tD row := by rw [vatsD, hbest]; rfl
              rw [ev]
              exact ev_ixT (ds := [.int row.length, tD row]) (ev_cb (ea_cons (eg Pu.refl) ea_nil) (rc_bestL (gD_row _) (gD_nn _) hbest)) ev_int rfl
          · rw [eqv_nil]
            by_cases hc : ((goodRows need sizes).map gD).isEmpty = true
            · rw [hc]
              have : (goodRows need sizes).map gD = [] := by simpa using hc
              simp [vatsD, this, bestOf]
            · simp [hc]
  rcases h with ⟨d, ⟨need, sizes, ⟨h1, h2, h3⟩, rfl, rfl⟩, q⟩ | ⟨⟨need, sizes, hb, rfl⟩, bad⟩
  · exact main need _ rfl (fun z => absurd z (by rw [List.length_map]; omega)) fun _ => ⟨sizes, rfl, h3, q⟩
  · exact main need sizes rfl (fun _ => bad) fun z => absurd hb z
end
end K3

/-! text K4p -/
namespace K3
open Dy L2 PyProof.Rows PySem.Spec PySem
/-! ### the vat and the law's own: plain -/
structure Inv3 (pounds dye0 : Int) (i : Nat) (v : VatM) (o : OwnM) (used filled : Int) : Prop where
  pd : v.pounds = pounds
  pb : 1 ≤ pounds ∧ pounds ≤ 200
  dye : v.dye = o.dye
  warm : v.warm = o.warm
  cloth : v.cloth = o.cloth
  has : inCloth v = o.has
  usd : usedM v = used
  sum : dye0 + filled = v.dye + used
  since : v.cloth ≠ 0 → ∃ s, v.since = some s
  len : v.diary.length ≤ i
  bd : ∀ r ∈ v.diary, -(2 ^ 40) ≤ r.2.2 ∧ r.2.2 ≤ 2 ^ 40
  hr : ∀ r ∈ v.diary, isT r = true → r.1 < v.hour
  sin : ∀ s, v.since = some s → s ≤ v.hour
  cl : 0 ≤ v.cloth ∧ v.cloth ≤ pounds
  dy : 0 ≤ v.dye ∧ v.dye ≤ 400 + 100 * (i : Int)
  wm : 0 ≤ v.warm ∧ v.warm ≤ 100
  hs : 0 ≤ o.has ∧ o.has ≤ 20 * o.cloth
variable {pounds dye0 : Int} {i : Nat} {v : VatM} {o : OwnM} {used filled n : Int}
theorem Inv3.vok (h : Inv3 pounds dye0 i v o used filled) (hi : i ≤ 90000) : VOk v := ⟨h.since, Nat.le_trans h.len hi, h.bd⟩
theorem Inv3.up (h : Inv3 pounds dye0 i v o used filled) : Inv3 pounds dye0 (i + 1) v o used filled :=
  ⟨h.pd, h.pb, h.dye, h.warm, h.cloth, h.has, h.usd, h.sum, h.since, Nat.le_succ_of_le h.len, h.bd, h.hr, h.sin, h.cl, by have := h.dy; push_cast; omega, h.wm, h.hs⟩
theorem mem_snoc {α : Type} {l : List α} {x r : α} (h : r ∈ l ++ [x]) : r ∈ l ∨ r = x := by
  rcases List.mem_append.mp h with z | z
  · exact .inl z
  · exact .inr (List.mem_singleton.mp z)
theorem inS_same {v v' : VatM} {y : Int × Str × Int} {s : Int} (e : v'.diary = v.diary ++ [y]) (hy : isT y = false) : inS v' s = inS v s := by
  unfold inS
  rw [e, List.filter_append]
  simp [hy]
theorem used_same {v v' : VatM} {y : Int × Str × Int} (e : v'.diary = v.diary ++ [y]) (hy : isT y = false) : usedM v' = usedM v := by
  unfold usedM
  rw [e, List.filter_append]
  simp [hy]
theorem inS_more {v v' : VatM} {y : Int × Str × Int} {s : Int} (e : v'.diary = v.diary ++ [y]) (hy : isT y = true) (hs : s ≤ y.1) : inS v' s = inS v s + y.2.2 := by
  unfold inS
  rw [e, List.filter_append]
  simp [hy, hs]
theorem used_more {v v' : VatM} {y : Int × Str × Int} (e : v'.diary = v.diary ++ [y]) (hy : isT y = true) : usedM v' = usedM v + y.2.2 := by
  unfold usedM
  rw [e, List.filter_append]
  simp [hy]
theorem inS_none {v : VatM} {s : Int} (h : ∀ r ∈ v.diary, isT r = true → r.1 < s) : inS v s = 0 := by
  unfold inS
  have e : (v.diary.filter fun r => isT r && decide (s ≤ r.1)) = [] := by
    rw [List.filter_eq_nil_iff]
    intro r hr
    simp only [Bool.and_eq_true, decide_eq_true_eq, not_and]
    intro ht
    have := h r hr ht
    omega
  rw [e]
  rfl
theorem inv_put (h : Inv3 pounds dye0 i v o used filled) (h0 : o.cloth = 0) (h1 : 1 ≤ n) (h2 : n ≤ pounds) : Inv3 pounds dye0 (i + 1) (putM [.int n] v) { o with cloth := n, has := 0 } used filled := by
  have e : (putM [.int n] v).diary = v.diary ++ [((v.hour, "put", n) : Int × Str × Int)] := rfl
  have hy : isT ((v.hour, "put", n) : Int × Str × Int) = false := by
    show decide (("put" : Str) = "takes") = false
    decide
  have hp := h.pb
  refine ⟨h.pd, h.pb, h.dye, h.warm, rfl, ?_, ?_, h.sum, fun _ => ⟨v.hour, rfl⟩, ?_, ?_, ?_, ?_, ⟨by show 0 ≤ n; omega, h2⟩, ?_, h.wm, ⟨Int.le_refl _, by show 0 ≤ 20 * n; omega⟩⟩
  · show (if n = 0 then 0 else inS (putM [.int n] v) v.hour) = 0
    rw [if_neg (by omega), inS_same e hy]
    exact inS_none h.hr
  · rw [used_same e hy]; exact h.usd
  · rw [e, List.length_append]; have := h.len; simp; exact this
  · intro r hr
    rw [e] at hr
    rcases mem_snoc hr with z | z
    · exact h.bd r z
    · subst z; exact ⟨by show -(2 ^ 40) ≤ n; omega, by show n ≤ 2 ^ 40; omega⟩
  · intro r hr ht
    rw [e] at hr
    rcases mem_snoc hr with z | z
    · exact h.hr r z ht
    · subst z; rw [hy] at ht; cases ht
  · intro s hs
    cases hs
    exact Int.le_refl _
  · have := h.dy
    show 0 ≤ v.dye ∧ v.dye ≤ 400 + 100 * ((i + 1 : Nat) : Int)
    push_cast; omega
def outM (v : VatM) : VatM := { v with cloth := 0, since := none, diary := v.diary ++ [((v.hour, "out", v.cloth) : Int × Str × Int)] }
theorem inv_out (h : Inv3 pounds dye0 i v o used filled) : Inv3 pounds dye0 (i + 1) (outM v) { o with cloth := 0, has := 0 } used filled := by
  have e : (outM v).diary = v.diary ++ [((v.hour, "out", v.cloth) : Int × Str × Int)] := rfl
  have hy : isT ((v.hour, "out", v.cloth) : Int × Str × Int) = false := by
    show decide (("out" : Str) = "takes") = false
    decide
  have hp := h.pb
  have hc := h.cl
  refine ⟨h.pd, h.pb, h.dye, h.warm, rfl, rfl, ?_, h.sum, fun z => absurd rfl z, ?_, ?_, ?_, fun s hs => (by cases hs), ⟨by show (0 : Int) ≤ 0; omega, by show (0 : Int) ≤ pounds; omega⟩, ?_, h.wm, ⟨Int.le_refl _, Int.le_refl _⟩⟩
  · rw [used_same e hy]; exact h.usd
  · rw [e, List.length_append]; have := h.len; simp; exact this
  · intro r hr
    rw [e] at hr
    rcases mem_snoc hr with z | z
    · exact h.bd r z
    · subst z; exact ⟨by show -(2 ^ 40) ≤ v.cloth; omega, by show v.cloth ≤ 2 ^ 40; omega⟩
  · intro r hr ht
    rw [e] at hr
    rcases mem_snoc hr with z | z
    · exact h.hr r z ht
    · subst z; rw [hy] at ht; cases ht
  · have := h.dy
    show 0 ≤ v.dye ∧ v.dye ≤ 400 + 100 * ((i + 1 : Nat) : Int)
    push_cast; omega
theorem inv_out0 (h : Inv3 pounds dye0 i v o used filled) (h0 : o.cloth = 0) : Inv3 pounds dye0 i v { o with cloth := 0, has := 0 } used filled := by
  have e : o.has = 0 := by have := h.hs; omega
  have : ({ o with cloth := 0, has := 0 } : OwnM) = o := by cases o; simp_all
  rw [this]
  exact h
def fillM (n : Int) (v : VatM) : VatM := { v with dye := v.dye + n, diary := v.diary ++ [((v.hour, "fill", n) : Int × Str × Int)] }
theorem inv_fill (h : Inv3 pounds dye0 i v o used filled) (h1 : 1 ≤ n) (h2 : n ≤ 64) : Inv3 pounds dye0 (i + 1) (fillM n v) { o with dye := o.dye + n } used (filled + n) := by
  have e : (fillM n v).diary = v.diary ++ [((v.hour, "fill", n) : Int × Str × Int)] := rfl
  have hy : isT ((v.hour, "fill", n) : Int × Str × Int) = false := by
    show decide (("fill" : Str) = "takes") = false
    decide
  have hp := h.pb
  refine ⟨h.pd, h.pb, by show v.dye + n = o.dye + n; rw [h.dye], h.warm, h.cloth, ?_, ?_, ?_, h.since, ?_, ?_, ?_, h.sin, h.cl, ?_, h.wm, h.hs⟩
  · show (if v.cloth = 0 then 0 else inS (fillM n v) (v.since.getD 0)) = o.has
    rw [inS_same e hy]
    exact h.has
  · rw [used_same e hy]; exact h.usd
  · have := h.sum
    show dye0 + (filled + n) = (v.dye + n) + used
    omega
  · rw [e, List.length_append]; have := h.len; simp; exact this
  · intro r hr
    rw [e] at hr
    rcases mem_snoc hr with z | z
    · exact h.bd r z
    · subst z; exact ⟨by show -(2 ^ 40) ≤ n; omega, by show n ≤ 2 ^ 40; omega⟩
  · intro r hr ht
    rw [e] at hr
    rcases mem_snoc hr with z | z
    · exact h.hr r z ht
    · subst z; rw [hy] at ht; cases ht
  · have := h.dy
    show 0 ≤ v.dye + n ∧ v.dye + n ≤ 400 + 100 * ((i + 1 : Nat) : Int)
    push_cast; omega
theorem inv_heat (h : Inv3 pounds dye0 i v o used filled) (h1 : 0 ≤ v.warm + n) (h2 : v.warm + n ≤ 100) : Inv3 pounds dye0 i { v with warm := v.warm + n } { o with warm := o.warm + n } used filled :=
  ⟨h.pd, h.pb, h.dye, by show v.warm + n = o.warm + n; rw [h.warm], h.cloth, h.has, h.usd, h.sum, h.since, h.len, h.bd, h.hr, h.sin, h.cl, h.dy, ⟨h1, h2⟩, h.hs⟩
theorem due_takes (h : Inv3 pounds dye0 i v o used filled) : dueM o = takesM v := by
  have hc := h.cl
  unfold dueM takesM dropM
  rw [← h.dye, ← h.warm, ← h.cloth, ← h.has]
  have e : 0 - (0 - v.dye) / 10 = -(-v.dye / 10) := by rw [Int.zero_sub, Int.zero_sub]
  rw [e]
  by_cases c : 0 < v.cloth ∧ 20 ≤ v.warm
  · simp only [if_pos c, if_neg (show ¬ (v.cloth = 0 ∨ v.warm < 20) by omega)]
  · simp only [if_neg c, if_pos (show v.cloth = 0 ∨ v.warm < 20 by omega)]
theorem due_bd {o : OwnM} (hd : 0 ≤ o.dye) (hs : 0 ≤ o.has ∧ o.has ≤ 20 * o.cloth) : 0 ≤ dueM o ∧ dueM o ≤ o.dye ∧ dueM o ≤ 20 * o.cloth - o.has := by
  unfold dueM
  have a : -(-o.dye / 10) = 0 - (0 - o.dye) / 10 := by rw [Int.zero_sub, Int.zero_sub]
  have h1 : 0 ≤ (if o.warm < 60 then -(-o.dye / 10) / 2 else -(-o.dye / 10)) ∧ (if o.warm < 60 then -(-o.dye / 10) / 2 else -(-o.dye / 10)) ≤ o.dye := by
    split <;> omega
  generalize (if o.warm < 60 then -(-o.dye / 10) / 2 else -(-o.dye / 10)) = z at h1 ⊢
  split
  · split <;> omega
  · omega
theorem cool_bd {t : Int} (h : 0 ≤ t ∧ t ≤ 100) : 0 ≤ coolM t ∧ coolM t ≤ 100 := by
  unfold coolM
  split
  · split <;> omega
  · omega
theorem inv_hour (h : Inv3 pounds dye0 i v o used filled) : Inv3 pounds dye0 (i + 1) (hourM v) (ownHour o) (used + dueM o) filled := by
  have et := due_takes h
  have db := due_bd (o := o) (by have := h.dy; have := h.dye; omega) h.hs
  have hp := h.pb
  have hc := h.cl
  have hcl := h.cloth
  have hdy := h.dy
  have hde := h.dye
  have hhs := h.hs
  have cb := cool_bd h.wm
  have hsum := h.sum
  have common : ∀ (hin : inCloth (hourM v) = o.has + dueM o) (hus : usedM (hourM v) = used + dueM o) (hl : (hourM v).diary.length ≤ i + 1) (hbd : ∀ r ∈ (hourM v).diary, -(2 ^ 40) ≤ r.2.2 ∧ r.2.2 ≤ 2 ^ 40) (hh : ∀ r ∈ (hourM v).diary, isT r = true → r.1 < v.hour + 1), Inv3 pounds dye0 (i + 1) (hourM v) (ownHour o) (used + dueM o) filled := fun hin hus hl hbd hh =>
    ⟨h.pd, h.pb, by show v.dye - takesM v = o.dye - dueM o; omega, by show coolM v.warm = coolM o.warm; rw [h.warm], h.cloth, hin, hus, by show dye0 + filled = (v.dye - takesM v) + (used + dueM o); omega, h.since, hl, hbd, hh,
      fun s hs => by have := h.sin s hs; show s ≤ v.hour + 1; omega, h.cl, by show 0 ≤ v.dye - takesM v ∧ v.dye - takesM v ≤ 400 + 100 * ((i + 1 : Nat) : Int); push_cast; omega, cb,
      ⟨by show 0 ≤ o.has + dueM o; omega, by show o.has + dueM o ≤ 20 * o.cloth; omega⟩⟩
  by_cases hz : 0 < takesM v
  · have e : (hourM v).diary = v.diary ++ [((v.hour, "takes", takesM v) : Int × Str × Int)] := by simp [hourM, hz]
    have hy : isT ((v.hour, "takes", takesM v) : Int × Str × Int) = true := by
      show decide (("takes" : Str) = "takes") = true
      decide
    have hcn : v.cloth ≠ 0 := fun z => by
      unfold takesM at hz
      rw [if_pos (Or.inl z)] at hz
      omega
    obtain ⟨s, es⟩ := h.since hcn
    have hs := h.sin s es
    have hhas := h.has
    have hsame : inS v (v.since.getD 0) = inCloth v := by unfold inCloth; rw [if_neg hcn]
    refine common ?_ ?_ ?_ ?_ ?_
    · show (if v.cloth = 0 then 0 else inS (hourM v) (v.since.getD 0)) = o.has + dueM o
      rw [if_neg hcn, inS_more e hy (by rw [es]; exact hs), hsame, hhas, et]
    · rw [used_more e hy, h.usd, et]
    · rw [e, List.length_append]; have := h.len; simp; exact this
    · intro r hr
      rw [e] at hr
      rcases mem_snoc hr with z | z
      · exact h.bd r z
      · subst z
        exact ⟨by show -(2 ^ 40) ≤ takesM v; omega, by show takesM v ≤ 2 ^ 40; omega⟩
    · intro r hr ht
      rw [e] at hr
      rcases mem_snoc hr with z | z
      · have := h.hr r z ht; omega
      · subst z; show v.hour < v.hour + 1; omega
  · have e : (hourM v).diary = v.diary := by simp [hourM, hz]
    have z0 : dueM o = 0 := by omega
    refine common ?_ ?_ ?_ ?_ ?_
    · show (if v.cloth = 0 then 0 else inS (hourM v) (v.since.getD 0)) = o.has + dueM o
      have : inS (hourM v) (v.since.getD 0) = inS v (v.since.getD 0) := by unfold inS; rw [e]
      rw [this, z0, Int.add_zero]
      exact h.has
    · have : usedM (hourM v) = usedM v := by unfold usedM; rw [e]
      rw [this, z0, h.usd, Int.add_zero]
    · rw [e]; exact Nat.le_succ_of_le h.len
    · rw [e]; exact h.bd
    · intro r hr ht
      rw [e] at hr
      have := h.hr r hr ht
      omega
theorem inv_new {pounds dye warm : Int} (h1 : 1 ≤ pounds) (h2 : pounds ≤ 200) (h3 : 0 ≤ dye) (h4 : dye ≤ 400) (h5 : 0 ≤ warm) (h6 : warm ≤ 100) : Inv3 pounds dye 0 (newVat pounds dye warm) ⟨dye, warm, 0, 0⟩ 0 0 :=
  ⟨rfl, ⟨h1, h2⟩, rfl, rfl, rfl, rfl, rfl, rfl, fun z => absurd rfl z, Nat.le_refl _, fun r hr => by simp [newVat] at hr, fun r hr => by simp [newVat] at hr, fun s hs => (by cases hs), ⟨Int.le_refl _, by show (0 : Int) ≤ pounds; omega⟩, ⟨h3, by show dye ≤ 400 + 100 * ((0 : Nat) : Int); simp; exact h4⟩, ⟨h5, h6⟩, ⟨Int.le_refl _, Int.le_refl _⟩⟩
/-! ### the hours -/
/-- a turn of hours_for is an hour of the law's own vat -/
theorem hoursM_own {o : OwnM} {wish : Int} {k : Nat} {j : Int} (hp : 0 ≤ o.cloth) (hd : 0 ≤ o.dye) (hs : 0 ≤ o.has ∧ o.has ≤ 20 * o.cloth) (hw : ¬ wish ≤ o.has) :
    hoursM pounds o.cloth wish (k + 1) j o.dye o.warm o.has = hoursM pounds (ownHour o).cloth wish k (j + 1) (ownHour o).dye (ownHour o).warm (ownHour o).has := by
  rw [hoursM, if_neg hw]
  have e : (if 20 * o.cloth - o.has < takesM ⟨pounds, o.dye, o.warm, o.cloth, some 0, 0, []⟩ then 20 * o.cloth - o.has else takesM ⟨pounds, o.dye, o.warm, o.cloth, some 0, 0, []⟩) = dueM o := by
    have e0 : inCloth ⟨pounds, o.dye, o.warm, o.cloth, some 0, 0, []⟩ = 0 := by unfold inCloth inS; simp
    unfold takesM dueM dropM
    rw [e0]
    show (if 20 * o.cloth - o.has < (if o.cloth = 0 ∨ o.warm < 20 then 0 else if 20 * o.cloth - 0 < (if o.warm < 60 then (0 - (0 - o.dye) / 10) / 2 else 0 - (0 - o.dye) / 10) then 20 * o.cloth - 0 else (if o.warm < 60 then (0 - (0 - o.dye) / 10) / 2 else 0 - (0 - o.dye) / 10)) then 20 * o.cloth - o.has else _) = _
    have a : 0 - (0 - o.dye) / 10 = -(-o.dye / 10) := by rw [Int.zero_sub, Int.zero_sub]
    rw [a]
    generalize (if o.warm < 60 then -(-o.dye / 10) / 2 else -(-o.dye / 10)) = z
    by_cases c : 0 < o.cloth ∧ 20 ≤ o.warm
    · simp only [if_pos c, if_neg (show ¬ (o.cloth = 0 ∨ o.warm < 20) by omega)]
      split <;> split <;> (try split) <;> omega
    · simp only [if_neg c, if_pos (show o.cloth = 0 ∨ o.warm < 20 by omega)]
      exact if_neg (by omega)
  simp only [e]
  rfl
def ownAfter (o : OwnM) : Nat → OwnM
  | 0 => o
  | k + 1 => ownHour (ownAfter o k)
theorem own_bd {o : OwnM} (hp : 0 ≤ o.cloth) (hd : 0 ≤ o.dye) (hs : 0 ≤ o.has ∧ o.has ≤ 20 * o.cloth) : ∀ k, (ownAfter o k).cloth = o.cloth ∧ 0 ≤ (ownAfter o k).dye ∧ 0 ≤ (ownAfter o k).has ∧ (ownAfter o k).has ≤ 20 * o.cloth
  | 0 => ⟨rfl, hd, hs⟩
  | k + 1 => by
    obtain ⟨h1, h2, h3⟩ := own_bd hp hd hs k
    have db := due_bd (o := ownAfter o k) h2 (by rw [h1]; exact h3)
    rw [h1] at db
    exact ⟨h1, by show 0 ≤ (ownAfter o k).dye - dueM _; omega, by show 0 ≤ (ownAfter o k).has + dueM _; omega, by show (ownAfter o k).has + dueM _ ≤ _; omega⟩
end K3

/-! text K4s -/
namespace K3
open Dy L2 PyProof.Rows PySem.Spec PySem
section
variable {w : Wk} {M M0 : List Addr} {H H0 H1 H2 G : Hp} {σ : L2.St} {p d di o x : Addr} {v v' : VatM} {ow ow' : OwnM} {Q : VK} {E : Ends} {te ta tb : TE} {tl : TA} {y z : Dt}
/-! ### readings, step by step -/
theorem asg_tup {K : PySem.W.Frag} {n : Nat} {gs : TGs} (h : tl σ H (fun xs H1 => xs.length ≤ sizeLine ∧ ∀ c, H1 c = none → gTup K n gs (.ref c) σ (upd H1 c (.tup xs)) E.nx)) : tAsg (tTup tl) (gTup K n gs) E σ H := h
theorem cons_ {tr : TA} {Q : List V → Hp → Prop} (h : ta σ H (fun x H1 => tr σ H1 (fun xs H2 => Q (x :: xs) H2))) : tCons ta tr σ H Q := h
theorem nil_ {Q : List V → Hp → Prop} (h : Q [] H) : tNil σ H Q := h
theorem op_ {r : R2} (h : ta σ H fun x H1 => tb σ H1 fun y H2 => r x y H2 Q) : tOp r ta tb σ H Q := h
theorem if_ {tt : TT} {t u : TS} (h : tt σ H fun b H1 => if b = true then t E σ H1 else u E σ H1) : tIfS tt t u E σ H := h
theorem test_ {Q : Bool → Hp → Prop} (h : te σ H fun x H' => ∃ k, x = .bl k ∧ Q k H') : tTest te σ H Q := h
theorem op_rest {K : PySem.W.Frag} {T : List TabR} {r : R2} {u : V} {x : Dt} (du : D K M H u x) (hb : Ev K T M tb σ H y) (hr : RV K T M r H x y z) (k : ∀ v H1, Pu T H H1 → D K M H1 v z → Q v H1) : tb σ H (fun y H2 => r u y H2 Q) :=
  hb.run fun b H2 p2 db => hr H2 p2 u b (du.pu p2) db Q fun v H3 p3 dv => k v H3 (p2.trans p3) dv
/-! ### how things stand -/
structure Sta (w : Wk) (M0 : List Addr) (H0 : Hp) (M : List Addr) (H : Hp) (di p d o : Addr) (v : VatM) (ow : OwnM) : Prop where
  wf : Wf w.T M H
  le : Le w.T M0 H0 M H
  mi : di ∈ M
  mp : p ∈ M
  md : d ∈ M
  mo : o ∈ M
  dice : ∃ a b c, H di = some (.lst [.int a, .int b, .int c])
  vat : VatAt w M H p d v
  own : H o = some (.dK (ownK ow))
  ne : di ≠ d
theorem vat_pu {M : List Addr} (h : VatAt w M H p d v) (q : Pu w.T H G) : VatAt w M G p d v := by
  obtain ⟨dx, rows, h1, h2, r⟩ := h
  exact ⟨dx, rows, q.at h1, q.at h2, r.pu q⟩
theorem vat_le {N M' : List Addr} (h : VatAt w M H p d v) (l : Le w.T M H M' G) (e1 : ∀ b, b = p ∨ b = d → ∀ u, H b = some u → nt u = true → G b = some u) : VatAt w M' G p d v := by
  obtain ⟨dx, rows, h1, h2, r⟩ := h
  exact ⟨dx, rows, e1 p (.inl rfl) _ h1 rfl, e1 d (.inr rfl) _ h2 rfl, r.le l⟩
theorem Sta.pu (s : Sta w M0 H0 M H di p d o v ow) (q : Pu w.T H G) : Sta w M0 H0 M G di p d o v ow := by
  obtain ⟨a, b, c, e⟩ := s.dice
  exact ⟨s.wf.pu q, s.le.app q, s.mi, s.mp, s.md, s.mo, ⟨a, b, c, q.at e⟩, vat_pu s.vat q, q.at s.own, s.ne⟩
theorem Sta.np (s : Sta w M0 H0 M H di p d o v ow) : di ≠ p ∧ o ≠ p ∧ o ≠ d ∧ o ≠ di := by
  obtain ⟨a, b, c, e⟩ := s.dice
  obtain ⟨dx, rows, h1, h2, r⟩ := s.vat
  exact ⟨ne_of e h1 (by intro z; cases z), ne_of s.own h1 (by intro z; cases z), ne_of s.own h2 (by intro z; cases z), ne_of s.own e (by intro z; cases z)⟩
theorem Sta.roll (s : Sta w M0 H0 M H di p d o v ow) (l : Le w.T [di] H [di] G) {a b c : Int} (e : G di = some (.lst [.int a, .int b, .int c])) : Sta w M0 H0 M G di p d o v ow := by
  have lm : Le w.T M H M G := l.wide (by simp [s.mi])
  obtain ⟨n1, n2, n3, n4⟩ := s.np
  refine ⟨s.wf.le lm, s.le.trans lm, s.mi, s.mp, s.md, s.mo, ⟨a, b, c, e⟩, vat_le (N := M) s.vat lm fun b hb u hu hn => ?_, l.at s.own (by simp [n4]), s.ne⟩
  refine l.at hu ?_ hn
  rcases hb with rfl | rfl
  · simp [n1.symm]
  · simp [s.ne.symm]
theorem Sta.deed (s : Sta w M0 H0 M H di p d o v ow) (l : Le w.T [p, d] H [p, d] G) (h : VatAt w M G p d v') : Sta w M0 H0 M G di p d o v' ow := by
  have lm : Le w.T M H M G := l.wide (by simp [s.mp, s.md])
  obtain ⟨n1, n2, n3, n4⟩ := s.np
  obtain ⟨a, b, c, e⟩ := s.dice
  exact ⟨s.wf.le lm, s.le.trans lm, s.mi, s.mp, s.md, s.mo, ⟨a, b, c, l.at e (by simp [n1, s.ne])⟩, h, l.at s.own (by simp [n2, n3]), s.ne⟩
/-- what else may change: N, none of these -/
theorem Sta.else_ {N : List Addr} (s : Sta w M0 H0 M H di p d o v ow) (l : Le w.T N H N G) (hN : ∀ b ∈ N, b ∈ M) (ni : di ∉ N) (np : p ∉ N) (nd : d ∉ N) (no : o ∉ N) : Sta w M0 H0 M G di p d o v ow := by
  have lm : Le w.T M H M G := l.wide hN
  obtain ⟨a, b, c, e⟩ := s.dice
  refine ⟨s.wf.le lm, s.le.trans lm, s.mi, s.mp, s.md, s.mo, ⟨a, b, c, l.at e ni⟩, vat_le (N := M) s.vat lm fun b hb u hu hn => ?_, l.at s.own no, s.ne⟩
  refine l.at hu ?_ hn
  rcases hb with rfl | rfl
  · exact np
  · exact nd
theorem Sta.put (s : Sta w M0 H0 M H di p d o v ow) : Sta w M0 H0 M (upd H o (.dK (ownK ow'))) di p d o v ow' := by
  have lm : Le w.T M H M (upd H o (.dK (ownK ow'))) := Le.mut s.mo s.own
  obtain ⟨n1, n2, n3, n4⟩ := s.np
  obtain ⟨a, b, c, e⟩ := s.dice
  refine ⟨s.wf.le lm, s.le.trans lm, s.mi, s.mp, s.md, s.mo, ⟨a, b, c, by rw [upd_ne n4.symm]; exact e⟩, vat_le (N := M) s.vat lm fun b hb u hu hn => ?_, upd_same, s.ne⟩
  rcases hb with rfl | rfl
  · rw [upd_ne n2.symm]; exact hu
  · rw [upd_ne n3.symm]; exact hu
/-- a new thing that may change -/
theorem Sta.new {u : HO} (s : Sta w M0 H0 M H di p d o v ow) (e : H x = none) : Sta w M0 H0 (x :: M) (upd H x u) di p d o v ow := by
  have lm : Le w.T M H (x :: M) (upd H x u) := Le.newM e
  have q : Pu w.T H (upd H x u) := Pu.new e
  obtain ⟨a, b, c, e'⟩ := s.dice
  refine ⟨⟨q.tabs s.wf.tabs, fun m hm => ?_⟩, s.le.trans lm, List.mem_cons_of_mem _ s.mi, List.mem_cons_of_mem _ s.mp, List.mem_cons_of_mem _ s.md, List.mem_cons_of_mem _ s.mo, ⟨a, b, c, q.at e'⟩, vat_le (N := M) s.vat lm fun b hb u hu hn => q.at hu hn, q.at s.own, s.ne⟩
  rcases List.mem_cons.mp hm with z | z
  · rw [z, upd_same]; simp
  · exact q.dom m (s.wf.mem m z)
/-- the law's own: another now -/
theorem Sta.own' (s : Sta w M0 H0 M H di p d o v ow) (hx : x ∈ M) (e : H x = some (.dK (ownK ow'))) : Sta w M0 H0 M H di p d x v ow' := ⟨s.wf, s.le, s.mi, s.mp, s.md, hx, s.dice, s.vat, e, s.ne⟩
/-! ### rolls, deeds -/
theorem roll_rd {n : Int} {X : XK} {a b c : Int} {i : Nat} (tk : TabsOk w.T H) (hs : σ[i]? = some (some (.ref di))) (hd : H di = some (.lst [.int a, .int b, .int c])) (h0 : 0 < n) (h1 : n ≤ 100000000)
    (k : ∀ r a' b' c' H1, 0 ≤ r → r < n → Le w.T [di] H [di] H1 → H1 di = some (.lst [.int a', .int b', .int c']) → Q (.int r) H1) : tCall (sp_law_roll w) [] X (tCons (tVar i) (tCons (tC (.int n)) tNil)) σ H Q :=
  ⟨.ref di, hs, di, a, b, c, n, rfl, tk, hd, h0, h1, fun r a' b' c' r0 r1 H1 l e => k r a' b' c' H1 r0 r1 l e⟩
theorem sroll {n : Int} {X : XK} {i : Nat} (s : Sta w M0 H0 M H di p d o v ow) (hs : σ[i]? = some (some (.ref di))) (h0 : 0 < n) (h1 : n ≤ 100000000)
    (k : ∀ r H1, 0 ≤ r → r < n → Sta w M0 H0 M H1 di p d o v ow → Q (.int r) H1) : tCall (sp_law_roll w) [] X (tCons (tVar i) (tCons (tC (.int n)) tNil)) σ H Q := by
  obtain ⟨a, b, c, e⟩ := s.dice
  exact roll_rd s.wf.tabs hs e h0 h1 fun r a' b' c' H1 r0 r1 l e' => k r H1 r0 r1 (s.roll l e')
theorem deed_rd {n : Nat} {vs0 bad : List V → VatM → Prop} {to : List V → VatM → VatM} {res : List V → VatM → Dt} {m : Str} {is : List Int} {X : XK} (s : Sta w M0 H0 M H di p d o v ow) (e0 : Ev w.K w.T M te σ H (.obj p)) (ha : EvA w.K w.T M tl σ H (is.map .int)) (hn : is.length + 1 = n) (hm : m ∉ vns) (ok : VOk v) (h0 : vs0 (is.map .int) v)
    (kb : bad (is.map .int) v → ∀ H1, Pu w.T H H1 → X (.ref w.e_VatError) none H1) (kg : ¬ bad (is.map .int) v → ∀ u H1, Sta w M0 H0 M H1 di p d o (to (is.map .int) v) ow → D w.K M H1 u (res (is.map .int) v) → Q u H1) : tMeth w.c_Vat m (spV w n vs0 bad to res) [] X te tl σ H Q :=
  e0.run fun u G1 q1 du => by
    rw [du.objR]
    obtain ⟨dx, rows, h1, h2, r⟩ := (s.pu q1).vat
    refine ⟨p, dx, _, rfl, h1, zip_none hm _, (ha.mono q1).run fun us G2 q2 dus => ?_⟩
    have e : us = is.map V.int := dus.ints
    subst e
    have s2 := (s.pu q1).pu q2
    show spV w n vs0 bad to res (V.ref p :: (is.map V.int ++ [])) G2 Q X
    rw [List.append_nil]
    refine ⟨M, p, d, v, is.map V.int, rfl, by simp [← hn], s2.wf, s2.mp, s2.md, s2.vat, ok, h0, fun hb G3 q3 => kb hb G3 (q1.trans (q2.trans q3)), fun hb u G3 l h3 dv => kg hb u G3 (s2.deed l h3) dv⟩
/-- what is asked of the vat -/
theorem ask_rd {sp : Sp} {X : XK} {m : Str} (s : Sta w M0 H0 M H di p d o v ow) (e0 : Ev w.K w.T M te σ H (.obj p)) (hm : m ∉ vns) (hs : SpV w.K w.T [] sp H [vatD w v] y) (fd : y.flat = true) : Ev w.K w.T M (tMeth w.c_Vat m sp [] X te tNil) σ H y := by
  obtain ⟨dx, rows, h1, h2, r⟩ := s.vat
  exact (At.of s.mp s.md h1 h2 r).call0 e0 hm hs fd
theorem fld_rd {f : Str} {x : V} (g : Wf3 w) (s : Sta w M0 H0 M H di p d o v ow) (e0 : Ev w.K w.T M te σ H (.obj p)) (hf : f ∈ vns) (hl : (vatL v d).lookup f = some x) (hd : ∀ M H, D w.K M H x y) : Ev w.K w.T M (tFld w.K te f) σ H y := by
  obtain ⟨dx, rows, h1, h2, r⟩ := s.vat
  exact (At.of s.mp s.md h1 h2 r).fld g e0 hf hl (hd _ _)
theorem own_rd {k : Str} {i : Int} (s : Sta w M0 H0 M H di p d o v ow) (e0 : Ev w.K w.T M te σ H (.obj o)) (hx : valV (ownK ow) (.inr k) = some (.int i)) : Ev w.K w.T M (tSub w.K te (tC (.str k))) σ H (.int i) := own_get e0 s.own hx
/-- own[k] = x -/
theorem own_set {k : Str} {x : V} {Q : L2.St → Hp → Prop} (s : Sta w M0 H0 M H di p d o v ow) (e0 : Ev w.K w.T M te σ H (.obj o)) (e : putK (ownK ow) (.inr k) x = ownK ow') (q : ∀ H1, Sta w M0 H0 M H1 di p d o v ow' → Q σ H1) : gSub te (tC (.str k)) rSetD x σ H Q :=
  g_dput (K := w.K) (T := w.T) (M := M) (ky := .inr k) e0 ev_str s.own (by show 4 < 100000; decide) fun H1 p1 => by rw [e]; exact q _ (s.pu p1).put
theorem nd_of (g : Wf3 w) : (∀ t ∈ w.T, t.P = w.P_law → t = ⟨w.P_law, lam_law, q_law⟩) ∧ (∀ t ∈ w.T, t.P = w.P_law_plain → t = ⟨w.P_law_plain, lam_law_plain, q_law_plain⟩) := by
  have h := g.nd
  simp only [List.nodup_cons, List.mem_cons, List.mem_nil_iff, or_false, not_or] at h
  obtain ⟨⟨a1, a2, a3, a4⟩, ⟨b2, b3, b4⟩, ⟨c3, c4⟩, d4, _⟩ := h
  refine ⟨fun t ht e => ?_, fun t ht e => ?_⟩ <;> simp only [Wk.T, List.mem_cons, List.mem_nil_iff, or_false] at ht <;> rcases ht with rfl | rfl | rfl | rfl | rfl <;> first | rfl | (simp at e; exact absurd e (by assumption)) | (simp at e; exact absurd e.symm (by assumption))
/-- told(lambda: vat.m(..)) -/
theorem told_deed {n : Nat} {vs0 bad : List V → VatM → Prop} {to : List V → VatM → VatM} {res : List V → VatM → Dt} {m : Str} {is : List Int} {LO : Addr → Addr → HO} (g : Wf3 w) (ex : PySem.W.exmOne w.K (.ref w.e_VatError) (.ref w.e_VatError) = some true) (s : Sta w M0 H0 M H di p d o v ow) (e0 : Ev w.K w.T M te σ H (.obj p)) (ha : EvA w.K w.T M tl σ H (is.map .int)) (hn : is.length + 1 = n) (hm : m ∉ vns) (ok : VOk v) (h0 : vs0 (is.map .int) v)
    (kb : bad (is.map .int) v → ∀ H1, Sta w M0 H0 M H1 di p d o v ow → Q (.str "VatError") H1) (kg : ¬ bad (is.map .int) v → ∀ u H1, Sta w M0 H0 M H1 di p d o (to (is.map .int) v) ow → D w.K M H1 u (res (is.map .int) v) → Q u H1) :
    tTold w.K w.P_law lam_law q_law w.e_VatError "VatError" LO (fun E1 => tMeth w.c_Vat m (spV w n vs0 bad to res) [] E1 te tl) σ H Q :=
  told_rd s.wf (by simp [Wk.T]) (nd_of g).1 fun H1 p1 => deed_rd (s.pu p1) (e0.mono p1) (ha.mono p1) hn hm ok h0 (fun hb H2 p2 => ⟨true, ex, fun _ => kb hb H2 ((s.pu p1).pu p2), fun z => by cases z⟩) kg
end
end K3

/-! text K4t -/
namespace K3
open Dy L2 PyProof.Rows PySem.Spec PySem
section
variable {w : Wk} {M M0 : List Addr} {H H0 H1 H2 G : Hp} {σ : L2.St} {p d di o x : Addr} {v v' : VatM} {ow ow' : OwnM} {Q : VK} {D : Ends} {te ta tb : TE} {tl : TA} {y z : Dt} {pounds dye0 used filled : Int} {LO : Nat → Addr → Addr → HO} {E : XK} {i : Nat}
/-- the slots of the law's round -/
structure Sl (σ : L2.St) (di p o : Addr) (pounds dye0 used filled : Int) : Prop where
  len : σ.length = 22
  s1 : σ[1]? = some (some (.ref di))
  s2 : σ[2]? = some (some (.int pounds))
  s3 : σ[3]? = some (some (.int dye0))
  s5 : σ[5]? = some (some (.ref p))
  s6 : σ[6]? = some (some (.ref o))
  s7 : σ[7]? = some (some (.int used))
  s8 : σ[8]? = some (some (.int filled))
theorem Sl.set {j : Nat} {u : V} (h : Sl σ di p o pounds dye0 used filled) (hj : j ∉ [1, 2, 3, 5, 6, 7, 8]) : Sl (σ.set j (some u)) di p o pounds dye0 used filled := by
  simp only [List.mem_cons, List.mem_nil_iff, or_false, not_or] at hj
  obtain ⟨a1, a2, a3, a5, a6, a7, a8⟩ := hj
  exact ⟨by rw [List.length_set]; exact h.len, by rw [List.getElem?_set_ne a1]; exact h.s1, by rw [List.getElem?_set_ne a2]; exact h.s2, by rw [List.getElem?_set_ne a3]; exact h.s3, by rw [List.getElem?_set_ne a5]; exact h.s5, by rw [List.getElem?_set_ne a6]; exact h.s6, by rw [List.getElem?_set_ne a7]; exact h.s7, by rw [List.getElem?_set_ne a8]; exact h.s8⟩
theorem Sl.fill {n : Int} (h : Sl σ di p o pounds dye0 used filled) : Sl (σ.set 8 (some (.int n))) di p o pounds dye0 used n :=
  ⟨by rw [List.length_set]; exact h.len, by rw [List.getElem?_set_ne (by decide)]; exact h.s1, by rw [List.getElem?_set_ne (by decide)]; exact h.s2, by rw [List.getElem?_set_ne (by decide)]; exact h.s3, by rw [List.getElem?_set_ne (by decide)]; exact h.s5, by rw [List.getElem?_set_ne (by decide)]; exact h.s6, by rw [List.getElem?_set_ne (by decide)]; exact h.s7, by rw [List.getElem?_set_self (by rw [h.len]; decide)]⟩
theorem Sl.swap {n : Int} {x : Addr} (h : Sl σ di p o pounds dye0 used filled) : Sl ((σ.set 6 (some (.ref x))).set 7 (some (.int n))) di p x pounds dye0 n filled :=
  ⟨by rw [List.length_set, List.length_set]; exact h.len, by rw [List.getElem?_set_ne (by decide), List.getElem?_set_ne (by decide)]; exact h.s1, by rw [List.getElem?_set_ne (by decide), List.getElem?_set_ne (by decide)]; exact h.s2, by rw [List.getElem?_set_ne (by decide), List.getElem?_set_ne (by decide)]; exact h.s3, by rw [List.getElem?_set_ne (by decide), List.getElem?_set_ne (by decide)]; exact h.s5,
    by rw [List.getElem?_set_ne (by decide), List.getElem?_set_self (by rw [h.len]; decide)], by rw [List.getElem?_set_self (by rw [List.length_set, h.len]; decide)], by rw [List.getElem?_set_ne (by decide), List.getElem?_set_ne (by decide)]; exact h.s8⟩
theorem Sl.at {j : Nat} {u : V} (h : Sl σ di p o pounds dye0 used filled) (hj : j < 22) : (σ.set j (some u))[j]? = some (some u) := List.getElem?_set_self (by rw [h.len]; exact hj)
theorem Sl.e5 (h : Sl σ di p o pounds dye0 used filled) : Ev w.K w.T M (tVar 5) σ H (.obj p) := ev_var h.s5 (.obj p)
theorem Sl.e6 (h : Sl σ di p o pounds dye0 used filled) : Ev w.K w.T M (tVar 6) σ H (.obj o) := ev_var h.s6 (.obj o)
/-- the law's step: what stands from one to the next -/
def LP (w : Wk) (M0 : List Addr) (H0 : Hp) (di p d : Addr) (pounds dye0 : Int) (i : Nat) (σ : L2.St) (H : Hp) : Prop := ∃ M o v ow used filled, Sl σ di p o pounds dye0 used filled ∧ Sta w M0 H0 M H di p d o v ow ∧ Inv3 pounds dye0 i v ow used filled
theorem eqv_ints (l : List Int) : Dt.eqv (.tup (l.map .int)) (.tup (l.map .int)) = true := by
  show PyData.eqv (Dt.py _) (Dt.py _) = true
  simp only [Dt.py]
  rw [ints_py]
  simp only [PyData.eqv]
  induction l with
  | nil => rfl
  | cons x l ih => simp [PyData.eqvAll, PyData.eqv, ih]
theorem ok_ints (l : List Int) : (Dt.tup (l.map .int)).ok = true := ok_tup fun d hd => by
  obtain ⟨z, _, rfl⟩ := List.mem_map.mp hd
  rfl
theorem ne_ints {K : PySem.W.Frag} {T : List TabR} {a b : List Int} (e : a = b) : RV K T M (rNeU K) H (.tup (a.map .int)) (.tup (b.map .int)) (.bl false) := by
  subst e
  have h := rv_neP (K := K) (T := T) (M := M) (H := H) (ok_ints a) (ok_ints a)
  rw [eqv_ints] at h
  exact h
/-- the check behind each step -/
theorem law_check {rt : TS} (g : Wf3 w) (hs : Sl σ di p o pounds dye0 used filled) (s : Sta w M0 H0 M H di p d o v ow) (I : Inv3 pounds dye0 i v ow used filled) (hi : i ≤ 90000) (k : ∀ H1, Sta w M0 H0 M H1 di p d o v ow → D.nx σ H1) :
    tIfS (tOr (tTest (tOp (rNeU w.K) (tTup (tCons (tFld w.K (tVar 5) "dye") (tCons (tFld w.K (tVar 5) "warm") (tCons (tFld w.K (tVar 5) "cloth") (tCons (tMeth w.c_Vat "in_cloth" (sp_Vat_in_cloth w) [] E (tVar 5) tNil) (tCons (tMeth w.c_Vat "used" (sp_Vat_used w) [] E (tVar 5) tNil) tNil)))))) (tTup (tCons (tSub w.K (tVar 6) (tC (.str "dye"))) (tCons (tSub w.K (tVar 6) (tC (.str "warm"))) (tCons (tSub w.K (tVar 6) (tC (.str "cloth"))) (tCons (tSub w.K (tVar 6) (tC (.str "has"))) (tCons (tVar 7) tNil))))))))
      (tTest (tOp (rNeU w.K) (tOp (rAddU w.K) (tVar 3) (tVar 8)) (tOp (rAddU w.K) (tFld w.K (tVar 5) "dye") (tMeth w.c_Vat "used" (sp_Vat_used w) [] E (tVar 5) tNil))))) rt tNext D σ H := by
  have vk := I.vok hi
  have e1 : Ev w.K w.T M (tFld w.K (tVar 5) "dye") σ H (.int v.dye) := fld_rd g s hs.e5 (by decide) rfl fun _ _ => .int _
  have e2 : Ev w.K w.T M (tFld w.K (tVar 5) "warm") σ H (.int v.warm) := fld_rd g s hs.e5 (by decide) rfl fun _ _ => .int _
  have e3 : Ev w.K w.T M (tFld w.K (tVar 5) "cloth") σ H (.int v.cloth) := fld_rd g s hs.e5 (by decide) rfl fun _ _ => .int _
  have e4 : Ev w.K w.T M (tMeth w.c_Vat "in_cloth" (sp_Vat_in_cloth w) [] E (tVar 5) tNil) σ H (.int (inCloth v)) := ask_rd s hs.e5 (by decide) (spV_D s.wf.nil rfl ⟨v, vk, rfl, rfl⟩) rfl
  have e5 : Ev w.K w.T M (tMeth w.c_Vat "used" (sp_Vat_used w) [] E (tVar 5) tNil) σ H (.int (usedM v)) := ask_rd s hs.e5 (by decide) (spV_D s.wf.nil rfl ⟨v, vk, rfl, rfl⟩) rfl
  refine st_if (b := false) (et_or (a := false) (b := false) (et_test (ev_op (ev_tup (ds := [v.dye, v.warm, v.cloth, inCloth v, usedM v].map .int) (ea_cons e1 (ea_cons e2 (ea_cons e3 (ea_cons e4 (ea_cons e5 ea_nil))))) (by show 5 ≤ 100000; decide))
    (ev_tup (ds := [ow.dye, ow.warm, ow.cloth, ow.has, used].map .int) (ea_cons (own_rd s hs.e6 rfl) (ea_cons (own_rd s hs.e6 rfl) (ea_cons (own_rd s hs.e6 rfl) (ea_cons (own_rd s hs.e6 rfl) (ea_cons (ev_var hs.s7 (.int _)) ea_nil))))) (by show 5 ≤ 100000; decide)) (ne_ints ?_)))
    fun _ => et_test (K := w.K) (M := M) ?_) (fun z => by cases z) fun _ H1 p1 => k H1 (s.pu p1)
  · rw [I.dye, I.warm, I.cloth, I.has, I.usd]
  · have r := rv_neI (K := w.K) (T := w.T) (M := M) (H := H) (i := dye0 + filled) (j := v.dye + usedM v)
    have z : (!decide (dye0 + filled = v.dye + usedM v)) = false := by
      have := I.sum
      have := I.usd
      simp
      omega
    rw [z] at r
    exact ev_op (ev_op (ev_var hs.s3 (.int _)) (ev_var hs.s8 (.int _)) rv_add) (ev_op e1 e5 rv_add) r
theorem asg_own {k1 k2 : Str} {a b : Int} {ow1 ow2 : OwnM} (s : Sta w M0 H0 M H di p d o v ow) (he : Ev w.K w.T M te σ H (.tup [.int a, .int b])) (hs : Sl σ di p o pounds dye0 used filled) (e1 : putK (ownK ow) (.inr k1) (.int a) = ownK ow1) (e2 : putK (ownK ow1) (.inr k2) (.int b) = ownK ow2)
    (k : ∀ H1, Sta w M0 H0 M H1 di p d o v ow2 → D.nx σ H1) : tAsg te (gTup w.K 2 (gCons (gSub (tVar 6) (tC (.str k1)) rSetD) (gCons (gSub (tVar 6) (tC (.str k2)) rSetD) gNil))) D σ H :=
  st_asg2 he fun u u' H1 p1 du du' => by
    rw [du.intR, du'.intR]
    exact own_set (s.pu p1) hs.e6 e1 fun H2 s2 => own_set s2 hs.e6 e2 k
/-- dict(list(own.items())) -/
theorem copy_rd (s : Sta w M0 H0 M H di p d o v ow) (he : Ev w.K w.T M te σ H (.obj o)) (k : ∀ x H1, Sta w M0 H0 (x :: M) H1 di p d o v ow → H1 x = some (.dK (ownK ow)) → x ≠ di ∧ x ≠ p ∧ x ≠ d ∧ x ≠ o → Q (.ref x) H1) : tCB (rDictP w.K) (tCons (LiI.tListItems te) tNil) σ H Q :=
  itemsL_rd he s.own fun c ts H1 p1 hc hp => by
    refine ⟨c, ts, ownK ow, rfl, .of hc, hp.mono fun t q e => .inl (.inl e), fun x hx => ?_⟩
    have s1 := s.pu p1
    have e : mergeK [] (ownK ow) = ownK ow := rfl
    rw [e]
    have ni : ∀ b, b ∈ M → x ≠ b := fun b hb z => s1.wf.mem b hb (z ▸ hx)
    exact k x _ (s1.new hx) upd_same ⟨ni _ s.mi, ni _ s.mp, ni _ s.md, ni _ s.mo⟩
end
end K3

/-! text K4u -/
namespace K3
open Dy L2 PyProof.Rows PySem.Spec PySem
section
variable {w : Wk} {M M0 : List Addr} {H H0 H1 H2 G : Hp} {σ : L2.St} {p d di o x : Addr} {v v' : VatM} {ow ow' : OwnM} {Q : VK} {D : Ends} {te ta tb : TE} {tl : TA} {y z : Dt} {pounds dye0 used filled : Int} {LO : Nat → Addr → Addr → HO} {E : XK} {i : Nat}
theorem get12 {a b c : V} (h : Sl σ di p o pounds dye0 used filled) : ((((σ.set 10 (some a)).set 11 (some b)).set 12 (some c)))[11]? = some (some b) := by
  rw [List.getElem?_set_ne (by decide)]
  exact List.getElem?_set_self (by rw [List.length_set, h.len]; decide)
theorem asg_hour {i j : Nat} (hs : σ[i]? = some (some (.ref x))) (tk : TabsOk w.T H) (hx : H x = some (.dK (ownK ow))) (k : ∀ H1, Le w.T [x] H [x] H1 → H1 x = some (.dK (ownK (ownHour ow))) → D.nx (σ.set j (some (.int (dueM ow)))) H1) :
    tAsg (tCall (sp_law_hour w) [] E (tCons (tVar i) tNil)) (gName j) D σ H := ⟨.ref x, hs, x, ow, rfl, tk, hx, fun H1 l e => k H1 l e⟩
theorem law_step (g : Wf3 w) (ex : PySem.W.exmOne w.K (.ref w.e_VatError) (.ref w.e_VatError) = some true) (hs : Sl σ di p o pounds dye0 used filled) (s : Sta w M0 H0 M H di p d o v ow) (I : Inv3 pounds dye0 i v ow used filled) (hi : i < 50)
    (k : ∀ σ' H', LP w M0 H0 di p d pounds dye0 (i + 1) σ' H' → D.nx σ' H') : t_law_for0 w E LO D σ H := by
  refine st_seq (asg_tup (cons_ (sroll s hs.s1 (by decide) (by decide) fun sort H1 r0 r1 s1 => cons_ (op_ (sroll s1 hs.s1 (by decide) (by decide) fun r H2 r2 r3 s2 => op_rest (K := w.K) (T := w.T) (M := M) (.int r) (ev_int (i := 5)) rv_sub fun u H3 p3 du => nil_ ⟨by show 2 ≤ sizeLine; decide, fun c hc => ?_⟩)))))
  rw [du.intR]
  obtain ⟨n, en⟩ : ∃ n, n = r - 5 := ⟨_, rfl⟩
  rw [← en]
  have s3 := (s2.pu p3).pu (Pu.new (T := w.T) (o := .tup [.int sort, .int n]) hc)
  refine ⟨c, [.int sort, .int n], rfl, .inl (.inl upd_same), rfl, _, _, rfl, _, _, rfl, rfl, ?_⟩
  generalize upd H3 c (.tup [.int sort, .int n]) = G at s3 ⊢
  have hs2 : Sl ((σ.set 10 (some (.int sort))).set 11 (some (.int n))) di p o pounds dye0 used filled := (hs.set (by decide)).set (by decide)
  have g11 : ((σ.set 10 (some (.int sort))).set 11 (some (V.int n)))[11]? = some (some (.int n)) := (hs.set (by decide)).at (by decide)
  have g10 : ((σ.set 10 (some (.int sort))).set 11 (some (V.int n)))[10]? = some (some (.int sort)) := by rw [List.getElem?_set_ne (by decide)]; exact hs.at (by decide)
  have keep12 : ∀ c : V, (((σ.set 10 (some (.int sort))).set 11 (some (V.int n))).set 12 (some c))[11]? = some (some (.int n)) := fun c => get12 hs
  generalize (σ.set 10 (some (.int sort))).set 11 (some (V.int n)) = τ at hs2 g11 g10 keep12 ⊢
  have hn : -5 ≤ n ∧ n ≤ 64 := by omega
  have vk := I.vok (by omega)
  have hl := I.len
  have hpb := I.pb
  -- behind the deed
  have fin : ∀ {M' : List Addr} {σ' : L2.St} {H' : Hp} {o' : Addr} {v' : VatM} {ow' : OwnM} {used' filled' : Int} {D' : Ends} {rt : TS}, (D'.nx = D.nx) → Sl σ' di p o' pounds dye0 used' filled' → Sta w M0 H0 M' H' di p d o' v' ow' → (Inv3 pounds dye0 (i + 1) v' ow' used' filled') →
      tIfS (tOr (tTest (tOp (rNeU w.K) (tTup (tCons (tFld w.K (tVar 5) "dye") (tCons (tFld w.K (tVar 5) "warm") (tCons (tFld w.K (tVar 5) "cloth") (tCons (tMeth w.c_Vat "in_cloth" (sp_Vat_in_cloth w) [] E (tVar 5) tNil) (tCons (tMeth w.c_Vat "used" (sp_Vat_used w) [] E (tVar 5) tNil) tNil)))))) (tTup (tCons (tSub w.K (tVar 6) (tC (.str "dye"))) (tCons (tSub w.K (tVar 6) (tC (.str "warm"))) (tCons (tSub w.K (tVar 6) (tC (.str "cloth"))) (tCons (tSub w.K (tVar 6) (tC (.str "has"))) (tCons (tVar 7) tNil))))))))
      (tTest (tOp (rNeU w.K) (tOp (rAddU w.K) (tVar 3) (tVar 8)) (tOp (rAddU w.K) (tFld w.K (tVar 5) "dye") (tMeth w.c_Vat "used" (sp_Vat_used w) [] E (tVar 5) tNil))))) rt tNext D' σ' H' := fun {M' σ' H' o' v' ow' used' filled' D' rt} eD a b c' =>
    law_check g a b c' (by omega) fun H5 b5 => by rw [eD]; exact k _ _ ⟨_, _, _, _, _, _, a, b5, c'⟩
  refine st_seq (st_if (et_test (ev_op (K := w.K) (T := w.T) (M := M) (ta := tVar 10) (ev_var g10 (.int sort)) ev_int rv_eqI)) (fun hb H4 p4 => ?_) fun hb H4 p4 => ?_)
  · -- put
    have s4 := s3.pu p4
    refine st_seq (st_asg (ev_and (ev_op (own_rd (i := ow.cloth) s4 hs2.e6 rfl) ev_int rv_eqI) fun _ => ev_chain (K := w.K) (T := w.T) (M := M) (tb := tVar 11) (tc := tVar 2) ev_int (ev_var g11 (.int n)) rv_le (fun _ => ev_var hs2.s2 (.int _)) fun _ => rv_le) fun u H5 p5 du => ?_)
    rw [du.blR]
    have eg : (decide (ow.cloth = 0) && (decide (1 ≤ n) && decide (n ≤ pounds))) = decide (ow.cloth = 0 ∧ 1 ≤ n ∧ n ≤ pounds) := by simp
    rw [eg]
    obtain ⟨gd, eq⟩ : ∃ gd, gd = decide (ow.cloth = 0 ∧ 1 ≤ n ∧ n ≤ pounds) := ⟨_, rfl⟩
    rw [← eq]
    have hs3 : Sl (τ.set 12 (some (.bl gd))) di p o pounds dye0 used filled := hs2.set (by decide)
    have g12 : (τ.set 12 (some (V.bl gd)))[12]? = some (some (.bl gd)) := hs2.at (by decide)
    have h11 := keep12 (.bl gd)
    generalize τ.set 12 (some (V.bl gd)) = ρ at hs3 g12 h11 ⊢
    have rest : ∀ {v' : VatM} {ow' : OwnM} {H6 : Hp} {D' : Ends}, Sta w M0 H0 M H6 di p d o v' ow → (if gd = true then ({ ow with cloth := n, has := 0 } : OwnM) else ow) = ow' → (∀ H7, Sta w M0 H0 M H7 di p d o v' ow' → D'.nx ρ H7) →
        tAsg (tIf (tB (tVar 12)) (tTup (tCons (tVar 11) (tCons (tC (.int 0)) tNil))) (tTup (tCons (tSub w.K (tVar 6) (tC (.str "cloth"))) (tCons (tSub w.K (tVar 6) (tC (.str "has"))) tNil)))) (gTup w.K 2 (gCons (gSub (tVar 6) (tC (.str "cloth")) rSetD) (gCons (gSub (tVar 6) (tC (.str "has")) rSetD) gNil))) D' ρ H6 := fun {v' ow' H6 D'} s6 e kk => by
      have ev := ev_if (K := w.K) (T := w.T) (M := M) (et_B (K := w.K) (T := w.T) (M := M) (te := tVar 12) (H := H6) (ev_var g12 (.bl gd))) (fun _ => ev_tup (ea_cons (ev_var (i := 11) h11 (.int n)) (ea_cons (ev_int (i := 0)) ea_nil)) (by show 2 ≤ 100000; decide)) fun _ => ev_tup (ea_cons (own_rd (k := "cloth") (i := ow.cloth) s6 hs3.e6 rfl) (ea_cons (own_rd (k := "has") (i := ow.has) s6 hs3.e6 rfl) ea_nil)) (by show 2 ≤ 100000; decide)
      cases gd with
      | true => subst e; exact asg_own s6 ev hs3 (ow1 := { ow with cloth := n }) rfl rfl kk
      | false => subst e; exact asg_own s6 ev hs3 (ow1 := ow) rfl rfl kk
    refine st_seq (if_ (test_ (op_ (op_ (told_deed (is := [n]) g ex (s4.pu p5) hs3.e5 (ea_cons (ev_var h11 (.int n)) ea_nil) rfl (by decide) vk ⟨⟨n, rfl⟩, by omega, by show -(2 ^ 40) ≤ n; omega, by show n ≤ 2 ^ 40; omega⟩ (fun hb H6 s6 => op_rest (K := w.K) (T := w.T) (M := M) (.str _) ev_str rv_eqS fun u H7 p7 du => op_rest (T := w.T) du (ev_var g12 (.bl gd)) rv_eqB fun u' H8 p8 du' => ?_) fun hb u H6 s6 du => op_rest (T := w.T) du ev_str (rv_eqSc (v := .non) (u := .str "VatError") rfl (fun _ _ _ z => z.nonR) fun _ _ _ z => z.strR) fun u' H7 p7 du' => op_rest (T := w.T) du' (ev_var g12 (.bl gd)) rv_eqB fun u'' H8 p8 du'' => ?_)))))
    · have ef : gd = false := by
        rw [eq, decide_eq_false_iff_not]
        simp only [badPut, i0, List.map] at hb
        have := I.cloth
        have := I.pd
        have := I.cl
        omega
      subst ef
      refine ⟨_, du'.blR, ?_⟩
      refine rest ((s6.pu p7).pu p8) rfl fun H9 s9 => fin rfl hs3 s9 I.up
    · have et : gd = true := by
        rw [eq, decide_eq_true_eq]
        simp only [badPut, i0, List.map] at hb
        have := I.cloth
        have := I.pd
        have := I.cl
        omega
      rw [et] at eq
      have hg : ow.cloth = 0 ∧ 1 ≤ n ∧ n ≤ pounds := of_decide_eq_true eq.symm
      subst et
      refine ⟨_, du''.blR, ?_⟩
      refine rest ((s6.pu p7).pu p8) rfl fun H9 s9 => fin rfl hs3 s9 (inv_put I hg.1 hg.2.1 hg.2.2)
  · refine st_if (et_test (ev_op (K := w.K) (T := w.T) (M := M) (ta := tVar 10) (ev_var g10 (.int sort)) ev_int rv_eqI)) (fun hb H5 p5 => ?_) fun hb H5 p5 => ?_
    · -- take out
      have s5 := (s3.pu p4).pu p5
      refine st_seq (st_asg (ev_op (own_rd (i := ow.cloth) s5 hs2.e6 rfl) ev_int rv_gt) fun u H6 p6 du => ?_)
      rw [du.blR]
      obtain ⟨gd, eq⟩ : ∃ gd, gd = decide (0 < ow.cloth) := ⟨_, rfl⟩
      rw [← eq]
      have hs3 : Sl (τ.set 12 (some (.bl gd))) di p o pounds dye0 used filled := hs2.set (by decide)
      have g12 : (τ.set 12 (some (V.bl gd)))[12]? = some (some (.bl gd)) := hs2.at (by decide)
      generalize τ.set 12 (some (V.bl gd)) = ρ at hs3 g12 ⊢
      have s6 := s5.pu p6
      have rest : ∀ {v' : VatM} {H6 : Hp} {D' : Ends}, Sta w M0 H0 M H6 di p d o v' ow → (∀ H7, Sta w M0 H0 M H7 di p d o v' { ow with cloth := 0, has := 0 } → D'.nx ρ H7) →
          tAsg (tTup (tCons (tC (.int 0)) (tCons (tC (.int 0)) tNil))) (gTup w.K 2 (gCons (gSub (tVar 6) (tC (.str "cloth")) rSetD) (gCons (gSub (tVar 6) (tC (.str "has")) rSetD) gNil))) D' ρ H6 := fun {v' H6 D'} s6 kk =>
        asg_own s6 (ev_tup (ea_cons (ev_int (i := 0)) (ea_cons (ev_int (i := 0)) ea_nil)) (by show 2 ≤ 100000; decide)) hs3 (ow1 := { ow with cloth := 0 }) rfl rfl kk
      have other : ∀ {v' : VatM} {H6 : Hp}, Sta w M0 H0 M H6 di p d o v' ow → Ev w.K w.T M (tIf (tB (tVar 12)) (tTup (tCons (tSub w.K (tVar 6) (tC (.str "cloth"))) (tCons (tSub w.K (tVar 6) (tC (.str "has"))) tNil))) (tC (.str "VatError"))) ρ H6 (if gd = true then .tup ([ow.cloth, ow.has].map .int) else .str "VatError") := fun {v' H6} s6 =>
        ev_if (K := w.K) (T := w.T) (M := M) (et_B (K := w.K) (T := w.T) (M := M) (te := tVar 12) (H := H6) (ev_var g12 (.bl gd))) (fun _ => ev_tup (ea_cons (own_rd (i := ow.cloth) s6 hs3.e6 rfl) (ea_cons (own_rd (i := ow.has) s6 hs3.e6 rfl) ea_nil)) (by show 2 ≤ 100000; decide)) fun _ => ev_str
      have hcl := I.cl
      have hcc := I.cloth
      refine st_seq (if_ (test_ (op_ (told_deed (is := []) g ex s6 hs3.e5 ea_nil rfl (by decide) vk ⟨rfl, by omega⟩ (fun hb H6 s6 => ?_) fun hb u H6 s6 du => ?_))))
      · have hb' : v.cloth = 0 := hb
        have ef : gd = false := by rw [eq, decide_eq_false_iff_not]; omega
        subst ef
        refine op_rest (K := w.K) (T := w.T) (M := M) (.str _) (other s6) rv_neS fun u H7 p7 du => ⟨false, by rw [du.blR]; simp, ?_⟩
        exact rest (s6.pu p7) fun H9 s9 => fin rfl hs3 s9 (inv_out0 I (by omega)).up
      · have hb' : ¬ v.cloth = 0 := hb
        have et : gd = true := by rw [eq, decide_eq_true_eq]; omega
        subst et
        refine op_rest (T := w.T) du (other s6) (ne_ints (a := [v.cloth, inCloth v]) (b := [ow.cloth, ow.has]) (by rw [I.cloth, I.has])) fun u H7 p7 du => ⟨false, du.blR, ?_⟩
        exact rest (s6.pu p7) fun H9 s9 => fin rfl hs3 s9 (inv_out I)
    · refine st_if (et_test (ev_op (K := w.K) (T := w.T) (M := M) (ta := tVar 10) (ev_var g10 (.int sort)) ev_int rv_eqI)) (fun hb H6 p6 => ?_) fun hb H6 p6 => ?_
      · -- fill
        have s6 := ((s3.pu p4).pu p5).pu p6
        have rest : ∀ {v' : VatM} {m : Int} {H6 : Hp} {D' : Ends}, Sta w M0 H0 M H6 di p d o v' ow → (if n > 0 then n else 0) = m → (∀ H7, Sta w M0 H0 M H7 di p d o v' { ow with dye := ow.dye + m } → D'.nx (τ.set 8 (some (.int (filled + m)))) H7) →
            tAsg (tTup (tCons (tOp (rAddU w.K) (tSub w.K (tVar 6) (tC (.str "dye"))) (tCB (fun xs H Q => ∃ i j, xs = [.int i, .int j] ∧ Q (.int (if j > i then j else i)) H) (tCons (tC (.int 0)) (tCons (tVar 11) tNil)))) (tCons (tOp (rAddU w.K) (tVar 8) (tCB (fun xs H Q => ∃ i j, xs = [.int i, .int j] ∧ Q (.int (if j > i then j else i)) H) (tCons (tC (.int 0)) (tCons (tVar 11) tNil)))) tNil))) (gTup w.K 2 (gCons (gSub (tVar 6) (tC (.str "dye")) rSetD) (gCons (gName 8) gNil))) D' τ H6 := fun {v' m H6 D'} s6 em kk => by
          have emx : ∀ {H6 : Hp}, Ev w.K w.T M (tCB (fun xs H Q => ∃ i j, xs = [.int i, .int j] ∧ Q (.int (if j > i then j else i)) H) (tCons (tC (.int 0)) (tCons (tVar 11) tNil))) τ H6 (.int m) := fun {H6} => by
            rw [← em]
            exact ev_cb (ea_cons ev_int (ea_cons (ev_var g11 (.int n)) ea_nil)) rc_max2
          refine st_asg2 (ev_tup (ea_cons (ev_op (own_rd (i := ow.dye) s6 hs2.e6 rfl) emx rv_add) (ea_cons (ev_op (ev_var hs2.s8 (.int _)) emx rv_add) ea_nil)) (by show 2 ≤ 100000; decide)) fun u u' H7 p7 du du' => ?_
          rw [du.intR, du'.intR]
          exact own_set (s6.pu p7) hs2.e6 (ow' := { ow with dye := ow.dye + m }) rfl fun H8 s8 => kk H8 s8
        refine st_seq (if_ (test_ (op_ (op_ (told_deed (is := [n]) g ex s6 hs2.e5 (ea_cons (ev_var g11 (.int n)) ea_nil) rfl (by decide) vk ⟨⟨n, rfl⟩, by omega⟩ (fun hb H6 s6 => op_rest (K := w.K) (T := w.T) (M := M) (.str _) ev_str rv_eqS fun u H7 p7 du => op_rest (T := w.T) du (ev_op (ta := tVar 11) (ev_var g11 (.int n)) ev_int rv_lt) rv_neB fun u' H8 p8 du' => ?_) fun hb u H6 s6 du => op_rest (T := w.T) du ev_str (rv_eqSc (v := .non) (u := .str "VatError") rfl (fun _ _ _ z => z.nonR) fun _ _ _ z => z.strR) fun u' H7 p7 du' => op_rest (T := w.T) du' (ev_op (ta := tVar 11) (ev_var g11 (.int n)) ev_int rv_lt) rv_neB fun u'' H8 p8 du'' => ?_)))))
        · have hb' : n < 1 := hb
          refine ⟨false, by rw [du'.blR]; simp [hb'], ?_⟩
          refine rest ((s6.pu p7).pu p8) (if_neg (by omega)) fun H9 s9 => ?_
          have e1 : ({ ow with dye := ow.dye + 0 } : OwnM) = ow := by cases ow; simp
          rw [e1] at s9
          exact fin rfl hs2.fill s9 (by rw [Int.add_zero]; exact I.up)
        · have hb' : ¬ n < 1 := hb
          refine ⟨false, by rw [du''.blR]; simp [hb'], ?_⟩
          refine rest ((s6.pu p7).pu p8) (if_pos (by omega)) fun H9 s9 => ?_
          exact fin rfl hs2.fill s9 (inv_fill I (by omega) hn.2)
      · refine st_if (et_test (ev_op (K := w.K) (T := w.T) (M := M) (ta := tVar 10) (ev_var g10 (.int sort)) ev_int rv_eqI)) (fun hb H7 p7 => ?_) fun hb H7 p7 => ?_
        · -- heat
          have s7 := (((s3.pu p4).pu p5).pu p6).pu p7
          refine st_seq (st_asg (ev_chain (K := w.K) (T := w.T) (M := M) ev_int (ev_op (own_rd (i := ow.warm) s7 hs2.e6 rfl) (ev_var g11 (.int n)) rv_add) rv_le (fun _ => ev_int) fun _ => rv_le) fun u H8 p8 du => ?_)
          rw [du.blR]
          have eg : (decide (0 ≤ ow.warm + n) && decide (ow.warm + n ≤ 100)) = decide (0 ≤ ow.warm + n ∧ ow.warm + n ≤ 100) := by simp
          rw [eg]
          obtain ⟨gd, eq⟩ : ∃ gd, gd = decide (0 ≤ ow.warm + n ∧ ow.warm + n ≤ 100) := ⟨_, rfl⟩
          rw [← eq]
          have hs3 : Sl (τ.set 12 (some (.bl gd))) di p o pounds dye0 used filled := hs2.set (by decide)
          have g12 : (τ.set 12 (some (V.bl gd)))[12]? = some (some (.bl gd)) := hs2.at (by decide)
          have h11 := keep12 (.bl gd)
          generalize τ.set 12 (some (V.bl gd)) = ρ at hs3 g12 h11 ⊢
          have hw := I.warm
          have rest : ∀ {v' : VatM} {H6 : Hp} {D' : Ends}, Sta w M0 H0 M H6 di p d o v' ow → (∀ H7, Sta w M0 H0 M H7 di p d o v' { ow with warm := ow.warm + n * (if gd then 1 else 0) } → D'.nx ρ H7) →
              sDPut (tVar 6) (tC (.str "warm")) (tOp (rAddU w.K) (tSub w.K (tVar 6) (tC (.str "warm"))) (tOp (rMulU w.K) (tVar 11) (tCB (fun xs H Q => (∃ i, xs = [.int i] ∧ Q (.int i) H) ∨ ∃ k, xs = [.bl k] ∧ Q (.int (if k then 1 else 0)) H) (tCons (tVar 12) tNil)))) D' ρ H6 := fun {v' H6 D'} s6 kk => by
            refine st_dput (K := w.K) (T := w.T) (M := M) (ky := .inr "warm") hs3.e6 ev_str (ev_op (own_rd (i := ow.warm) s6 hs3.e6 rfl) (ev_op (ta := tVar 11) (ev_var h11 (.int n)) (ev_cb (ea_cons (ev_var g12 (.bl gd)) ea_nil) rc_intB) (rv_mul (.inl ⟨by omega, by omega⟩))) rv_add) s6.own (by show 4 < 100000; decide) fun u H7 p7 du => ?_
            rw [du.intR]
            exact kk _ ((s6.pu p7).put (ow' := { ow with warm := ow.warm + n * (if gd then 1 else 0) }))
          refine st_seq (if_ (test_ (op_ (op_ (told_deed (is := [n]) g ex (s7.pu p8) hs3.e5 (ea_cons (ev_var h11 (.int n)) ea_nil) rfl (by decide) vk ⟨n, rfl⟩ (fun hb H6 s6 => op_rest (K := w.K) (T := w.T) (M := M) (.str _) ev_str rv_eqS fun u H7 p7 du => op_rest (T := w.T) du (ev_var g12 (.bl gd)) rv_eqB fun u' H8 p8 du' => ?_) fun hb u H6 s6 du => op_rest (T := w.T) du ev_str (rv_eqSc (v := .non) (u := .str "VatError") rfl (fun _ _ _ z => z.nonR) fun _ _ _ z => z.strR) fun u' H7 p7 du' => op_rest (T := w.T) du' (ev_var g12 (.bl gd)) rv_eqB fun u'' H8 p8 du'' => ?_)))))
          · have hb' : ¬ (0 ≤ v.warm + n ∧ v.warm + n ≤ 100) := hb
            have ef : gd = false := by rw [eq, decide_eq_false_iff_not, ← hw]; exact hb'
            subst ef
            refine ⟨_, du'.blR, ?_⟩
            refine rest ((s6.pu p7).pu p8) fun H9 s9 => ?_
            have e1 : ({ ow with warm := ow.warm + n * (if false then 1 else 0) } : OwnM) = ow := by cases ow; simp
            rw [e1] at s9
            exact fin rfl hs3 s9 I.up
          · have hb' : ¬ ¬ (0 ≤ v.warm + n ∧ v.warm + n ≤ 100) := hb
            have et : gd = true := by rw [eq, decide_eq_true_eq, ← hw]; exact Decidable.not_not.mp hb'
            subst et
            refine ⟨_, du''.blR, ?_⟩
            refine rest ((s6.pu p7).pu p8) fun H9 s9 => ?_
            have e1 : ({ ow with warm := ow.warm + n * (if true then 1 else 0) } : OwnM) = { ow with warm := ow.warm + n } := by simp
            rw [e1] at s9
            have hw2 := Decidable.not_not.mp hb'
            exact fin rfl hs3 s9 (inv_heat I hw2.1 hw2.2).up
        · -- an hour
          have s7 := (((s3.pu p4).pu p5).pu p6).pu p7
          refine st_seq (asgQ (copy_rd s7 hs2.e6 fun x H8 s8 hx nx => ?_))
          obtain ⟨n1, n2, n3, n4⟩ := nx
          have hs3 : Sl (τ.set 13 (some (.ref x))) di p o pounds dye0 used filled := hs2.set (by decide)
          have g13 : (τ.set 13 (some (V.ref x)))[13]? = some (some (.ref x)) := hs2.at (by decide)
          generalize τ.set 13 (some (V.ref x)) = ρ at hs3 g13 ⊢
          refine st_seq (asg_hour g13 s8.wf.tabs hx fun H9 l9 e9 => ?_)
          have s9 := (s8.else_ l9 (by simp) (by simp [n1.symm]) (by simp [n2.symm]) (by simp [n3.symm]) (by simp [n4.symm])).own' (x := x) (by simp) e9
          have hs4 : Sl (ρ.set 14 (some (.int (dueM ow)))) di p o pounds dye0 used filled := hs3.set (by decide)
          have g14 : (ρ.set 14 (some (V.int (dueM ow))))[14]? = some (some (.int (dueM ow))) := hs3.at (by decide)
          have h13 : (ρ.set 14 (some (V.int (dueM ow))))[13]? = some (some (.ref x)) := by rw [List.getElem?_set_ne (by decide)]; exact g13
          generalize ρ.set 14 (some (V.int (dueM ow))) = π at hs4 g14 h13 ⊢
          have ed := due_takes I
          have rI : ∀ {H : Hp}, RV w.K w.T (x :: M) (rNeU w.K) H (.int (takesM v)) (.int (dueM ow)) (.bl false) := fun {H} => by
            have r := rv_neI (K := w.K) (T := w.T) (M := x :: M) (H := H) (i := takesM v) (j := dueM ow)
            rw [show (!decide (takesM v = dueM ow)) = false by simp [ed]] at r
            exact r
          dsimp only
          refine st_seq (if_ ?_)
          refine (et_test (ev_op (K := w.K) (T := w.T) (M := x :: M) (tb := tVar 14) (ask_rd s9 hs4.e5 (by decide) (spV_D s9.wf.nil rfl ⟨v, vk, rfl, rfl⟩) rfl) (ev_var g14 (.int _)) rI)).run fun H10 p10 => ?_
          refine test_ (op_ (deed_rd (is := []) (s9.pu p10) hs4.e5 ea_nil rfl (by decide) vk ⟨rfl, by omega⟩ (fun hb => hb.elim) fun _ u H11 s11 du => op_rest (T := w.T) du (ev_var g14 (.int _)) rI fun u' H12 p12 du' => ⟨false, du'.blR, ?_⟩))
          have s12 := s11.pu p12
          refine st_par (K := w.K) (T := w.T) (M := x :: M) (x := .obj x) (y := .int (used + dueM ow)) (ea_cons (ev_var (i := 13) h13 (.obj x)) (ea_cons (ev_op (ta := tVar 7) (tb := tVar 14) (ev_var hs4.s7 (.int _)) (ev_var g14 (.int _)) rv_add) ea_nil)) fun u1 u2 H13 p13 d1 d2 => ?_
          rw [d1.objR, d2.intR]
          have s13 := s12.pu p13
          exact fin rfl hs4.swap s13 (inv_hour I)
end
end K3

/-! text K4v -/
namespace K3
open Dy L2 PyProof.Rows PySem.Spec PySem
section
variable {w : Wk} {M M0 M1 M2 : List Addr} {H H0 H1 H2 G : Hp} {σ : L2.St} {p d di o x : Addr} {v v' : VatM} {ow ow' : OwnM} {Q : VK} {D : Ends} {te ta tb : TE} {tl : TA} {y z : Dt} {pounds dye0 used filled : Int} {LO : Nat → Addr → Addr → HO} {E : XK} {i : Nat}
theorem Sta.base (s : Sta w M0 H0 M H di p d o v ow) : Sta w M H M H di p d o v ow := ⟨s.wf, Le.refl, s.mi, s.mp, s.md, s.mo, s.dice, s.vat, s.own, s.ne⟩
theorem Sta.join (l : Le w.T M0 H0 M1 H1) (s : Sta w M1 H1 M H di p d o v ow) : Sta w M0 H0 M H di p d o v ow := ⟨s.wf, l.trans s.le, s.mi, s.mp, s.md, s.mo, s.dice, s.vat, s.own, s.ne⟩
theorem Sta.sub {M' : List Addr} (s : Sta w M0 H0 M' H di p d o v ow) (h : ∀ b, b ∈ M → b ∈ M') (h1 : di ∈ M) (h2 : p ∈ M) (h3 : d ∈ M) (h4 : o ∈ M) : Sta w M0 H0 M H di p d o v ow := by
  obtain ⟨dx, rows, a1, a2, r⟩ := s.vat
  exact ⟨⟨s.wf.tabs, fun m hm => s.wf.mem m (h m hm)⟩, s.le.drop h, h1, h2, h3, h4, s.dice, ⟨dx, rows, a1, a2, r.sub h⟩, s.own, s.ne⟩
theorem oI_R {K : PySem.W.Frag} {a : Option Int} {u : V} (h : Dy.D K M H u (oI a)) : u = oV a := by
  cases a with
  | none => exact h.nonR
  | some i => exact h.intR
theorem oI_flat (a : Option Int) : (oI a).flat = true := by cases a <;> rfl
theorem oI_D {K : PySem.W.Frag} (a : Option Int) : Dy.D K M H (oV a) (oI a) := by
  cases a with
  | none => exact .non
  | some i => exact .int i
theorem oI_non (a : Option Int) : isNonD (oI a) = decide (a = none) := by cases a <;> simp [oI, isNonD]
theorem par3_ {i j l : Nat} (h : tl σ H fun vs H1 => ∃ u v w, vs = [u, v, w] ∧ D.nx (((σ.set i (some u)).set j (some v)).set l (some w)) H1) : tPar3 i j l tl D σ H := h
/-- the hours -/
theorem law_hours (g : Wf3 w) (ex : PySem.W.exmOne w.K (.ref w.e_VatError) (.ref w.e_VatError) = some true) (hs : Sl σ di p o pounds dye0 used filled) (s : Sta w M0 H0 M H di p d o v ow) (I : Inv3 pounds dye0 i v ow used filled) (hi : i ≤ 90)
    (k : ∀ σ' M' H', Sl σ' di p o pounds dye0 used filled → Sta w M0 H0 M' H' di p d o v ow → D.nx σ' H') : (tIfS (tTest (tOp (rGtU w.K) (tSub w.K (tVar 6) (tC (.str "cloth"))) (tC (.int 0)))) (tSeq (tPar3 15 13 14 (tCons (tCall (sp_law_roll w) [] E (tCons (tVar 1) (tCons (tC (.int 300)) tNil))) (tCons (tCB (rDictP w.K) (tCons (LiI.tListItems (tVar 6)) tNil)) (tCons (tC .non) tNil)))) (tSeq (tFor (iRng1 (tCons (tC (.int 501)) tNil)) (gName 16) (tSeq (tIfS (tAnd (tTest (tOp (fun x y H Q => y = .non ∧ Q (.bl (decide (x = .non))) H) (tVar 14) (tC .non))) (tTest (tOp (rI0 fun i j => .bl (decide (j ≤ i))) (tSub w.K (tVar 13) (tC (.str "has"))) (tVar 15)))) (tAsg (tVar 16) (gName 14)) tNext) (tDrop (tCall (sp_law_hour w) [] E (tCons (tVar 13) tNil))))) (tIfS (tOr (tTest (tOp (rNeU w.K) (tMeth w.c_Vat "hours_for" (sp_Vat_hours_for w) [] E (tVar 5) (tCons (tVar 15) tNil)) (tVar 14))) (tTest (tOp (rNeU w.K) (tFld w.K (tVar 5) "dye") (tSub w.K (tVar 6) (tC (.str "dye")))))) (tRet (tC (.bl false))) tNext))) (tIfS (tTest (tOp (rNeU w.K) (tTold w.K w.P_law lam_law q_law w.e_VatError "VatError" (LO 4) (fun E1 => (tMeth w.c_Vat "hours_for" (sp_Vat_hours_for w) [] E1 (tVar 5) (tCons (tC (.int 1)) tNil)))) (tC (.str "VatError")))) (tRet (tC (.bl false))) tNext)) D σ H := by
  have vk := I.vok (by omega)
  have hcl := I.cl
  have hcc := I.cloth
  have hdy := I.dy
  have hdd := I.dye
  have hhs := I.hs
  have hpb := I.pb
  refine st_if (et_test (ev_op (own_rd (i := ow.cloth) s hs.e6 rfl) ev_int rv_gt)) (fun hb H1 p1 => ?_) fun hb H1 p1 => ?_
  · have hb' : 0 < ow.cloth := by simpa using hb
    have s1 := s.pu p1
    refine st_seq (par3_ (cons_ (sroll s1 hs.s1 (by decide) (by decide) fun wish H2 r0 r1 s2 => cons_ (copy_rd s2 hs.e6 fun x H3 s3 hx nx => ⟨_, _, _, rfl, ?_⟩))))
    obtain ⟨n1, n2, n3, n4⟩ := nx
    have hs3 : Sl (((σ.set 15 (some (.int wish))).set 13 (some (.ref x))).set 14 (some .non)) di p o pounds dye0 used filled := ((hs.set (by decide)).set (by decide)).set (by decide)
    have g15 : (((σ.set 15 (some (V.int wish))).set 13 (some (.ref x))).set 14 (some .non))[15]? = some (some (.int wish)) := by
      rw [List.getElem?_set_ne (by decide), List.getElem?_set_ne (by decide)]; exact hs.at (by decide)
    have g13 : (((σ.set 15 (some (V.int wish))).set 13 (some (.ref x))).set 14 (some .non))[13]? = some (some (.ref x)) := by
      rw [List.getElem?_set_ne (by decide)]; exact (hs.set (by decide)).at (by decide)
    have g14 : (((σ.set 15 (some (V.int wish))).set 13 (some (.ref x))).set 14 (some .non))[14]? = some (some .non) := ((hs.set (by decide)).set (by decide)).at (by decide)
    generalize ((σ.set 15 (some (V.int wish))).set 13 (some (.ref x))).set 14 (some .non) = τ at hs3 g15 g13 g14 ⊢
    refine st_seq ?_
    refine s_for (K := w.K) (T := w.T) (M := x :: M) (M' := x :: M) (ds := Dy.intsFrom 0 501) (src_rng1 (n := 501) (ea_cons ev_int ea_nil) (by decide) (by decide)) fun H4 p4 => ?_
    have s4 := (s3.pu p4).base
    refine ⟨fun j σ' H' => ∃ due : Option Int, Sl σ' di p o pounds dye0 used filled ∧ σ'[13]? = some (some (.ref x)) ∧ σ'[14]? = some (some (oV due)) ∧ σ'[15]? = some (some (.int wish)) ∧ Sta w (x :: M) H4 (x :: M) H' di p d o v ow ∧ H' x = some (.dK (ownK (ownAfter ow j))) ∧ j ≤ 501 ∧
        (due = none → hoursM v.pounds (ownAfter ow j).cloth wish (501 - j) (j : Nat) (ownAfter ow j).dye (ownAfter ow j).warm (ownAfter ow j).has = hoursOf v wish) ∧ ∀ h, due = some h → hoursOf v wish = some h,
      ⟨none, hs3, g13, g14, g15, s4, p4.at hx, by decide, fun _ => ?_, fun h z => by cases z⟩, fun j σ' H' hj => ?_, fun j dd σ' H' y H5 hd hj p5 dy => ?_, fun σ' H' hj => ?_⟩
    · show hoursM v.pounds ow.cloth wish 501 0 ow.dye ow.warm ow.has = hoursM v.pounds v.cloth wish 501 0 v.dye v.warm (inCloth v)
      rw [I.cloth, I.dye, I.warm, I.has]
    · obtain ⟨due, _, _, _, _, s5, _⟩ := hj
      exact s5.le
    · obtain ⟨due, hs5, g13, g14, g15, s5, h5, jle, e1, e2⟩ := hj
      have hlt : j < 501 := by
        have := (List.getElem?_eq_some_iff.mp hd).1
        simpa [Dy.intsFrom] using this
      have ed : dd = .int (j : Nat) := by
        simp only [Dy.intsFrom, List.getElem?_map, Option.map_eq_some_iff] at hd
        obtain ⟨q, hq, rfl⟩ := hd
        obtain ⟨_, hq2⟩ := List.getElem?_eq_some_iff.mp hq
        simp at hq2
        rw [← hq2]; simp
      subst ed
      rw [dy.intR]
      have s6 := s5.pu p5
      have h6 := p5.at h5
      obtain ⟨b1, b2, b3⟩ := own_bd (o := ow) (by omega) (by omega) hhs j
      have hs6 : Sl (σ'.set 16 (some (.int (j : Nat)))) di p o pounds dye0 used filled := hs5.set (by decide)
      have k13 : (σ'.set 16 (some (V.int (j : Nat))))[13]? = some (some (.ref x)) := by rw [List.getElem?_set_ne (by decide)]; exact g13
      have k14 : (σ'.set 16 (some (V.int (j : Nat))))[14]? = some (some (oV due)) := by rw [List.getElem?_set_ne (by decide)]; exact g14
      have k15 : (σ'.set 16 (some (V.int (j : Nat))))[15]? = some (some (.int wish)) := by rw [List.getElem?_set_ne (by decide)]; exact g15
      have k16 : (σ'.set 16 (some (V.int (j : Nat))))[16]? = some (some (.int (j : Nat))) := hs5.at (by decide)
      show tSeq _ _ _ (σ'.set 16 (some (V.int (j : Nat)))) H5
      generalize σ'.set 16 (some (V.int (j : Nat))) = ρ at hs6 k13 k14 k15 k16 ⊢
      have step : hoursM v.pounds (ownAfter ow j).cloth wish (501 - j) (j : Nat) (ownAfter ow j).dye (ownAfter ow j).warm (ownAfter ow j).has = hoursM v.pounds (ownAfter ow j).cloth wish ((501 - (j + 1)) + 1) (j : Nat) (ownAfter ow j).dye (ownAfter ow j).warm (ownAfter ow j).has := by
        rw [show 501 - j = (501 - (j + 1)) + 1 by omega]
      -- the hour that ends the turn
      have fin : ∀ {π : L2.St} {H7 : Hp} {due' : Option Int} {D' : Ends}, Sl π di p o pounds dye0 used filled → π[13]? = some (some (.ref x)) → π[14]? = some (some (oV due')) → π[15]? = some (some (.int wish)) → Sta w (x :: M) H4 (x :: M) H7 di p d o v ow → H7 x = some (.dK (ownK (ownAfter ow j))) →
          (due' = none → hoursM v.pounds (ownAfter ow (j + 1)).cloth wish (501 - (j + 1)) ((j + 1 : Nat) : Int) (ownAfter ow (j + 1)).dye (ownAfter ow (j + 1)).warm (ownAfter ow (j + 1)).has = hoursOf v wish) → (∀ h, due' = some h → hoursOf v wish = some h) →
          (∀ H8, (∃ due : Option Int, Sl π di p o pounds dye0 used filled ∧ π[13]? = some (some (.ref x)) ∧ π[14]? = some (some (oV due)) ∧ π[15]? = some (some (.int wish)) ∧ Sta w (x :: M) H4 (x :: M) H8 di p d o v ow ∧ H8 x = some (.dK (ownK (ownAfter ow (j + 1)))) ∧ j + 1 ≤ 501 ∧
            (due = none → hoursM v.pounds (ownAfter ow (j + 1)).cloth wish (501 - (j + 1)) ((j + 1 : Nat) : Int) (ownAfter ow (j + 1)).dye (ownAfter ow (j + 1)).warm (ownAfter ow (j + 1)).has = hoursOf v wish) ∧ ∀ h, due = some h → hoursOf v wish = some h) → D'.nx π H8) →
          tDrop (tCall (sp_law_hour w) [] E (tCons (tVar 13) tNil)) D' π H7 := fun {π H7 due' D'} a1 a2 a3 a4 a5 a6 a7 a8 kk =>
        ⟨.ref x, a2, x, ownAfter ow j, rfl, a5.wf.tabs, a6, fun H8 l8 e8 => kk H8 ⟨due', a1, a2, a3, a4, a5.else_ l8 (by simp) (by simp [n1.symm]) (by simp [n2.symm]) (by simp [n3.symm]) (by simp [n4.symm]), e8, hlt, a7, a8⟩⟩
      refine st_seq (st_if (et_and (et_test (ev_op (K := w.K) (T := w.T) (M := M) (ta := tVar 14) (ev_var k14 (oI_D due)) ev_non rv_isNone)) fun _ => et_test (ev_op (own_get (x := (ownAfter ow j).has) (ev_var (K := w.K) (T := w.T) (M := M) k13 (.obj x)) h6 rfl) (ev_var k15 (.int _)) rv_ge)) (fun hb H7 p7 => ?_) fun hb H7 p7 => ?_)
      · rw [oI_non] at hb
        simp only [Bool.and_eq_true, decide_eq_true_eq] at hb
        refine st_asg (K := w.K) (T := w.T) (M := M) (ev_var k16 (.int _)) fun u H8 p8 du => ?_
        rw [du.intR]
        have e3 := e1 hb.1
        rw [step, hoursM, if_pos hb.2] at e3
        refine fin (due' := some (j : Nat)) (hs6.set (by decide)) (by rw [List.getElem?_set_ne (by decide)]; exact k13) (hs6.at (by decide)) (by rw [List.getElem?_set_ne (by decide)]; exact k15) ((s6.pu p7).pu p8) (p8.at (p7.at h6)) (fun z => by cases z) (fun h z => by cases z; exact e3.symm) fun H9 h9 => h9
      · rw [oI_non] at hb
        simp only [Bool.and_eq_false_iff, decide_eq_false_iff_not] at hb
        refine fin (due' := due) hs6 k13 k14 k15 (s6.pu p7) (p7.at h6) (fun z => ?_) e2 fun H9 h9 => h9
        have e3 := e1 z
        have hw : ¬ wish ≤ (ownAfter ow j).has := hb.elim (fun q => absurd z q) id
        rw [step, hoursM_own (by omega) b2 (by rw [b1]; exact b3) hw] at e3
        rw [← e3]
        push_cast
        rfl
    · obtain ⟨due, hs5, g13, g14, g15, s5, h5, jle, e1, e2⟩ := hj
      have e501 : (Dy.intsFrom 0 501).length = 501 := by simp [Dy.intsFrom]
      rw [e501] at e1
      have hdue : hoursOf v wish = due := by
        cases due with
        | none => exact (e1 rfl).symm
        | some h => exact e2 h rfl
      have hc0 : v.cloth ≠ 0 := by omega
      have s6 : Sta w M0 H0 (x :: M) H' di p d o v ow := Sta.join (s3.pu p4).le s5
      have hh := I.has
      obtain ⟨dx, rows, a1, a2, r⟩ := s6.vat
      have eh : Ev w.K w.T (x :: M) (tMeth w.c_Vat "hours_for" (sp_Vat_hours_for w) [] E (tVar 5) (tCons (tVar 15) tNil)) σ' H' (oI due) := ev_methM (hs5.e5 (M := x :: M)) a1 (zip_none (by decide) _) (ea_cons (ev_var g15 (.int wish)) ea_nil) rfl
        (spV_E s6.wf.nil rfl ⟨v, wish, vk, hc0, by have := I.pd; omega, by omega, ⟨hdy.1, by omega⟩, I.wm, by omega, rfl, by rw [hdue]⟩) (vatD_of a1 a2 r) (oI_flat _)
      have rI := rv_neSc (K := w.K) (T := w.T) (M := x :: M) (H := H') (x := oI due) (y := oI due) (v := oV due) (u := oV due) (by cases due <;> rfl) (fun _ _ _ z => oI_R z) fun _ _ _ z => oI_R z
      rw [show (!decide (oV due = oV due)) = false by simp] at rI
      have rD := rv_neI (K := w.K) (T := w.T) (M := x :: M) (H := H') (i := v.dye) (j := ow.dye)
      rw [show (!decide (v.dye = ow.dye)) = false by simp [hdd]] at rD
      refine st_if (b := false) (et_or (a := false) (b := false) (et_test (ev_op eh (ev_var g14 (oI_D due)) rI)) fun _ => et_test (ev_op (fld_rd (f := "dye") g s6 hs5.e5 (by decide) rfl fun _ _ => .int v.dye) (own_rd (i := ow.dye) s6 hs5.e6 rfl) rD)) (fun z => by cases z) fun _ H7 p7 => ?_
      exact k _ _ _ hs5 (s6.pu p7)
  · have hb' : ¬ 0 < ow.cloth := by simpa using hb
    have hc0 : v.cloth = 0 := by omega
    have s1 := s.pu p1
    refine if_ (test_ (op_ (told_rd s1.wf (by simp [Wk.T]) (nd_of g).1 fun H2 p2 => (hs.e5 (w := w) (M := M)).run fun u H3 p3 du => ?_)))
    rw [du.objR]
    have s3 := (s1.pu p2).pu p3
    obtain ⟨dx, rows, a1, a2, r⟩ := s3.vat
    refine ⟨p, dx, _, rfl, a1, zip_none (by decide) _, ?_⟩
    refine (ea_cons (K := w.K) (T := w.T) (M := M) (ev_int (i := 1)) ea_nil).run fun us H4 p4 dus => ?_
    have s4 := s3.pu p4
    refine ⟨[], [vatD w v, .int 1], rfl, s4.wf.nil, ?_, .inr ⟨⟨v, 1, rfl, hc0⟩, fun H5 p5 => ⟨true, ex, fun _ => ?_, fun z => by cases z⟩⟩⟩
    · obtain rfl := dus.ints (ns := [1])
      exact .cons (vatD_of (p4.at a1) (p4.at a2) (r.pu p4)) (.cons (.int 1) .nil)
    · refine op_rest (K := w.K) (T := w.T) (M := M) (.str _) ev_str rv_neS fun u' H6 p6 du' => ⟨false, by rw [du'.blR]; simp, ?_⟩
      exact k _ _ _ hs ((s4.pu p5).pu p6)
end
end K3

/-! text K4w -/
namespace K3
open Dy L2 PyProof.Rows PySem.Spec PySem
section
variable {w : Wk} {M M0 M1 M2 : List Addr} {H H0 H1 H2 G : Hp} {σ : L2.St} {p d di o x : Addr} {v v' : VatM} {ow ow' : OwnM} {Q : VK} {D : Ends} {te ta tb : TE} {tl : TA} {y z : Dt} {pounds dye0 used filled : Int} {LO : Nat → Addr → Addr → HO} {E : XK} {i : Nat}
theorem iteT' {a b : Prop} (h : a) : if true = true then a else b := by simpa using h
/-- the rolls of the sizes -/
theorem law_sizes (hs : Sl σ di p o pounds dye0 used filled) (s : Sta w M0 H0 M H di p d o v ow)
    (k : ∀ (c : Addr) (ns : List Int) H', ns.length ≤ 6 → (∀ x ∈ ns, (1 : Int) ≤ x ∧ x ≤ 30) → Sta w M0 H0 M H' di p d o v ow → Dy.D w.K M H' (.ref c) (.lst (ns.map .int)) → Q (.ref c) H') : (tLc (iRng1 (tCons (tCall (sp_law_roll w) [] E (tCons (tVar 1) (tCons (tC (.int 7)) tNil))) tNil)) (gName 19) tYes (tOp (rAddU w.K) (tC (.int 1)) (tCall (sp_law_roll w) [] (fun _ _ _ => False) (tCons (tVar 1) (tCons (tC (.int 30)) tNil)))) [19]) σ H Q := by
  unfold tLc iRng1
  refine cons_ (sroll (n := 7) s hs.s1 (by decide) (by decide) fun n H1 r0 r1 s1 => nil_ ⟨n, rfl, by omega, by omega, fun c hc => ?_⟩)
  have hcM := s1.wf.fresh hc
  have s2 := s1.new (u := .lst []) hc
  have ne : c ≠ di := fun z => hcM (z ▸ s1.mi)
  have nep : c ≠ p := fun z => hcM (z ▸ s1.mp)
  have ned : c ≠ d := fun z => hcM (z ▸ s1.md)
  have neo : c ≠ o := fun z => hcM (z ▸ s1.mo)
  refine ⟨fun i m H' => m = n.toNat - i ∧ i ≤ n.toNat ∧ ∃ ns : List Int, ns.length = i ∧ (∀ x ∈ ns, (1 : Int) ≤ x ∧ x ≤ 30) ∧ Sta w M0 H0 (c :: M) H' di p d o v ow ∧ H' c = some (.lst (ns.map .int)), ⟨_, rfl, Nat.zero_le _, [], rfl, by simp, s2, upd_same⟩, fun i m H' ⟨em, hi, ns, hl, hb, s3, h3⟩ => ?_⟩
  by_cases hlt : i < n.toNat
  · refine .inr ⟨hlt, fun H'' => ∃ ns : List Int, ns.length = i + 1 ∧ (∀ x ∈ ns, (1 : Int) ≤ x ∧ x ≤ 30) ∧ Sta w M0 H0 (c :: M) H'' di p d o v ow ∧ H'' c = some (.lst (ns.map .int)), fun H'' hh => ⟨n.toNat - (i + 1), by omega, rfl, hlt, hh⟩, fun y H4 ⟨e4, ey⟩ => ?_⟩
    subst e4
    refine ⟨?_, ?_⟩
    · simp [wipe]
    · unfold tYes
      refine iteT' ?_
      obtain ⟨a, b, c', e⟩ := s3.dice
      refine (ev_int (K := w.K) (T := w.T) (M := c :: M) (i := 1)).run fun u1 H5 p5 du1 => ?_
      rw [du1.intR]
      refine roll_rd (w := w) (s3.wf.pu p5).tabs (i := 1) (di := di) ?_ (p5.at e) (by decide) (by decide) fun r a' b' c'' H6 q0 q1 l6 e6 => ?_
      · have h1 := hs.s1
        simpa [wipe] using h1
      · have s5 := s3.pu p5
        have s6 := s5.roll l6 e6
        have h6 : H6 c = some (.lst (ns.map .int)) := l6.at (p5.at h3) (by simp [ne])
        refine rv_add (K := w.K) (T := w.T) (M := c :: M) (i := 1) (j := r) H6 Pu.refl _ _ (.int 1) (.int r) _ fun z H7 p7 dz => ?_
        rw [dz.intR]
        have h7 := p7.at h6
        have s7 := s6.pu p7
        refine ⟨_, h7, by rw [List.length_map, hl]; exact Nat.lt_of_lt_of_le (by omega : i < 7) (by decide), ns ++ [1 + r], by simp [hl], fun x hx => ?_, s7.else_ (N := [c]) (Le.mut (by simp) h7) (by simp) (by simp [ne.symm]) (by simp [nep.symm]) (by simp [ned.symm]) (by simp [neo.symm]), by rw [upd_same]; simp⟩
        rcases
                List.mem_append.mp hx with hx | hx
        · exact hb x hx
        · have : x = 1 + r := by simpa using hx
          omega
  · have e : i = n.toNat := by omega
    refine .inl ⟨by show n.toNat ≤ i; omega, k c ns H' (by omega) hb (s3.sub (fun b hb => List.mem_cons_of_mem _ hb) s.mi s.mp s.md s.mo) (.lst hcM h3 (DAll.ofInts ns))⟩
theorem sort_head {l : List Dt} {d : Dt} (h : bestOf ltD l = some d) : (l.mergeSort leD)[0]? = some d := by
  rw [← List.head?_eq_getElem?, sort_best, h]
/-- the fewest vats -/
theorem law_rows {b : V} {ns : List Int} {need : Int} {c : Addr} (g : Wf3 w) (wf : Wf w.T M H) (hlen : σ.length = 22) (h17 : σ[17]? = some (some (.ref c))) (h18 : σ[18]? = some (some (.int need))) (dz : Dy.D w.K M H (.ref c) (.lst (ns.map .int))) (hn : ns.length ≤ 6) (hb : ∀ x ∈ ns, (1 : Int) ≤ x ∧ x ≤ 30) (h1 : 1 ≤ need)
    (k : ∀ σ' H', Pu w.T H H' → D.nx σ' H') : (tSeq (tAsg (tLst (tCons (tTup tNil) tNil)) (gName 20)) (tSeq (tFor (iRng1 (tCons (tCB (rLenU w.K) (tCons (tVar 17) tNil)) tNil)) (gName 19) (tAsg (tOp (rAddU w.K) (tVar 20) (tLc (iList w.K (tVar 20)) (gName 21) tYes (tOp (rAddU w.K) (tVar 21) (tTup (tCons (tVar 19) tNil))) [21])) (gName 20))) (tSeq (tAsg (tCB (rSortB w.K) (tCons (tLc (iList w.K (tVar 20)) (gName 21) (tTest (tOp (rI0 fun i j => .bl (decide (j ≤ i))) (tCB (rSum w.K) (tCons (tLc (iTup w.K (tVar 21)) (gName 19) tYes (tSub w.K (tVar 17) (tVar 19)) [19]) tNil)) (tVar 18))) (tTup (tCons (tCB (rLenU w.K) (tCons (tVar 21) tNil)) (tCons (tVar 21) tNil))) [21]) tNil)) (gName 12)) (tIfS (tTest (tOp (rNeU w.K) (tCall (sp_vats_for w) [] E (tCons (tVar 18) (tCons (tVar 17) tNil))) (tIf (tTest (tOp (rNeU w.K) (tVar 12) (tLst tNil))) (tSub w.K (tSub w.K (tVar 12) (tC (.int 0))) (tC (.int 1))) (tC .non)))) (tRet (tC (.bl false))) tNext)))) D σ H := by
  refine st_seq (st_asg (K := w.K) (M := M) (ev_lst (ds := [tD []]) wf (ea_cons (ev_tup ea_nil (by decide)) ea_nil) (by decide)) fun rv H2 p2 dr => ?_)
  have k17 : (σ.set 20 (some rv))[17]? = some (some (.ref c)) := by rw [List.getElem?_set_ne (by decide)]; exact h17
  have k18 : (σ.set 20 (some rv))[18]? = some (some (.int need)) := by rw [List.getElem?_set_ne (by decide)]; exact h18
  have k20 : (σ.set 20 (some rv))[20]? = some (some rv) := List.getElem?_set_self (by rw [hlen]; decide)
  have klen : (σ.set 20 (some rv)).length = 22 := by rw [List.length_set]; exact hlen
  show tSeq _ _ _ (σ.set 20 (some rv)) H2
  generalize σ.set 20 (some rv) = τ at k17 k18 k20 klen ⊢
  have dz2 := dz.pu p2
  have wf2 := wf.pu p2
  refine st_seq ?_
  refine s_for (K := w.K) (T := w.T) (M := M) (M' := M) (ds := Dy.intsFrom 0 ns.length) (by
    have := src_rng1 (K := w.K) (T := w.T) (M := M) (σ := τ) (H := H2) (n := ((ns.map Dt.int).length : Int)) (ea_cons (ev_cb (ea_cons (ev_var k17 dz2) ea_nil) rc_lenL) ea_nil) (by rw [List.length_map]; omega) (by omega)
    simpa using this) fun H3 p3 => ?_
  refine ⟨fun j σ' H' => j ≤ ns.length ∧ Pu w.T H3 H' ∧ ∃ rv, σ'.length = 22 ∧ σ'[17]? = some (some (.ref c)) ∧ σ'[18]? = some (some (.int need)) ∧ σ'[20]? = some (some rv) ∧ Dy.D w.K M H' rv (.lst ((subs j).map tD)),
    ⟨Nat.zero_le _, Pu.refl, rv, klen, k17, k18, k20, dr.pu p3⟩, fun j σ' H' hj => hj.2.1.le, fun j dd σ' H' y H4 hd ⟨hi, pu, rv, a0, a1, a2, a3, dv⟩ p4 dy => ?_, fun σ' H' ⟨hi, pu, rv, a0, a1, a2, a3, dv⟩ => ?_⟩
  · have hlt : j < ns.length := by
      have := (List.getElem?_eq_some_iff.mp hd).1
      simpa [Dy.intsFrom] using this
    have ed : dd = .int (j : Nat) := by
      simp only [Dy.intsFrom, List.getElem?_map, Option.map_eq_some_iff] at hd
      obtain ⟨q, hq, rfl⟩ := hd
      obtain ⟨_, hq2⟩ := List.getElem?_eq_some_iff.mp hq
      simp at hq2
      rw [← hq2]; simp
    subst ed
    rw [dy.intR]
    have b1 : (σ'.set 19 (some (.int (j : Nat))))[17]? = some (some (.ref c)) := by rw [List.getElem?_set_ne (by decide)]; exact a1
    have b2 : (σ'.set 19 (some (.int (j : Nat))))[18]? = some (some (.int need)) := by rw [List.getElem?_set_ne (by decide)]; exact a2
    have b3 : (σ'.set 19 (some (.int (j : Nat))))[20]? = some (some rv) := by rw [List.getElem?_set_ne (by decide)]; exact a3
    have b4 : (σ'.set 19 (some (V.int (j : Nat))))[19]? = some (some (.int (j : Nat))) := List.getElem?_set_self (by rw [a0]; decide)
    have b0 : (σ'.set 19 (some (V.int (j : Nat)))).length = 22 := by rw [List.length_set]; exact a0
    show tAsg _ _ _ (σ'.set 19 (some (V.int (j : Nat)))) H4
    generalize σ'.set 19 (some (V.int (j : Nat))) = ρ at b0 b1 b2 b3 b4 ⊢
    have p04 := p3.trans (pu.trans p4)
    have w4 := wf2.pu p04
    have dv4 := dv.pu p4
    have len2 : (subs j).length ≤ 64 := by
      rw [subs_len]
      exact Nat.le_trans (Nat.pow_le_pow_right (by decide) (by omega : j ≤ 6)) (by decide)
    have ec : Ev w.K w.T M (tLc (iList w.K (tVar 20)) (gName 21) tYes (tOp (rAddU w.K) (tVar 21) (tTup (tCons (tVar 19) tNil))) [21]) ρ H4 (.lst (((subs j).filter fun _ => true).map fun row => tD (row ++ [(j : Int)]))) := by
      refine ev_lc (α := List Int) (xs := subs j) (enc := tD) (p := fun _ => true) (f := fun row => tD (row ++ [(j : Int)])) (Bd := fun row M1 G1 σ2 => ∃ u, σ2 = (wipe ρ [21]).set 21 (some u) ∧ Dy.D w.K M1 G1 u (tD row)) w4 (src_list (ev_var b3 dv4)) (by omega)
        (fun row _ M1 G1 u _ _ du Q' k => k _ ⟨u, rfl, du⟩) (fun row M1 G1 σ2 ⟨u, e, _⟩ => by rw [e]; simp [wipe]) (fun row _ M1 G1 σ2 _ _ _ _ => et_yes) fun row hrow _ M1 G1 σ2 _ _ _ ⟨u, e, du⟩ => ?_
      subst e
      have hr8 := (subs_in j row hrow).1
      refine (ev_op (ev_var (by simp [wipe, b0]) du) (ev_tup (ea_cons (ev_var (i := 19) (by simpa [wipe] using b4) (.int (j : Nat))) ea_nil) (by show 1 ≤ 100000; decide)) (rv_addTup (by simp; omega))).is ?_
      simp [tD]
    refine st_asg (ev_op (ev_var b3 dv4) ec (rv_addLst w4 ?_)) fun u H5 p5 du => ?_
    · rw [List.length_map, List.length_map, filterT]; omega
    · refine ⟨hlt, pu.trans (p4.trans p5), u, by rw [List.length_set]; exact b0, by rw [List.getElem?_set_ne (by decide)]; exact b1, by rw [List.getElem?_set_ne (by decide)]; exact b2, List.getElem?_set_self (by rw [b0]; decide), ?_⟩
      have e1 : (subs (j + 1)).map tD = (subs j).map tD ++ ((subs j).filter fun _ => true).map fun row => tD (row ++ [(j : Int)]) := by
        rw [filterT, subs, List.map_append, List.map_map]
        rfl
      rw [e1]
      exact du
  · have el : (Dy.intsFrom 0 ns.length).length = ns.length := by simp [Dy.intsFrom]
    rw [el] at dv
    show tSeq _ _ _ σ' H'
    have p0 := p2.trans (p3.trans pu)
    have w' := wf.pu p0
    have dS := dz.pu p0
    have len2 : (subs ns.length).length ≤ 64 := by
      rw [subs_len]
      exact Nat.le_trans (Nat.pow_le_pow_right (by decide) hn) (by decide)
    have ec : Ev w.K w.T M (tLc (iList w.K (tVar 20)) (gName 21) (tTest (tOp (rI0 fun i j => .bl (decide (j ≤ i))) (tCB (rSum w.K) (tCons (tLc (iTup w.K (tVar 21)) (gName 19) tYes (tSub w.K (tVar 17) (tVar 19)) [19]) tNil)) (tVar 18))) (tTup (tCons (tCB (rLenU w.K) (tCons (tVar 21) tNil)) (tCons (tVar 21) tNil))) [21]) σ' H' (.lst ((goodRows need ns).map gD)) := by
      refine ev_lc (α := List Int) (xs := subs ns.length) (enc := tD) (p := fun row => decide (need ≤ holds ns row)) (f := gD) (Bd := fun row M1 G1 σ2 => ∃ u, σ2 = (wipe σ' [21]).set 21 (some u) ∧ Dy.D w.K M1 G1 u (tD row)) w' (src_list (ev_var a3 dv)) (by omega)
        (fun row _ M1 G1 u _ _ du Q' k => k _ ⟨u, rfl, du⟩) (fun row M1 G1 σ2 ⟨u, e, _⟩ => by rw [e]; simp [wipe]) (fun row hrow M1 G1 σ2 _ lM wM1 ⟨u, e, du⟩ => ?_) fun row hrow _ M1 G1 σ2 _ _ _ ⟨u, e, du⟩ => ?_
      · subst e
        obtain ⟨hr8, hrb⟩ := subs_in _ row hrow
        have dS1 := dS.le lM
        have e21 : ((wipe σ' [21]).set 21 (some u))[21]? = some (some u) := by simp [wipe, a0]
        have e17 : ((wipe σ' [21]).set 21 (some u))[17]? = some (some (.ref c)) := by simpa [wipe] using a1
        have e18 : ((wipe σ' [21]).set 21 (some u))[18]? = some (some (.int need)) := by simpa [wipe] using a2
        have elen : ((wipe σ' [21]).set 21 (some u)).length = 22 := by simp [wipe, a0]
        generalize (wipe σ' [21]).set 21 (some u) = ρ at e21 e17 e18 elen ⊢
        have ein : Ev w.K w.T M1 (tLc (iTup w.K (tVar 21)) (gName 19) tYes (tSub w.K (tVar 17) (tVar 19)) [19]) ρ G1 (.lst ((row.filter fun _ => true).map fun x => Dt.int (pick ns x))) := by
          refine ev_lc (α := Int) (xs := row) (enc := .int) (p := fun _ => true) (f := fun x => Dt.int (pick ns x)) (Bd := fun x M2 G2 σ3 => σ3 = (wipe ρ [19]).set 19 (some (.int x)) ∧ Dy.D w.K M2 G2 (.ref c) (.lst (ns.map .int))) wM1 (src_tup (ev_var e21 du)) (by omega)
            (fun x _ M2 G2 u2 _ l2 du2 Q' k => by rw [du2.intR]; exact k _ ⟨rfl, dS1.le l2⟩) (fun x M2 G2 σ3 ⟨e, _⟩ => by rw [e]; simp [wipe]) (fun x _ M2 G2 σ3 _ _ _ _ => et_yes) fun x hx _ M2 G2 σ3 pq l2 w2 ⟨e, dS2⟩ => ?_
          subst e
          exact ev_ixL (ev_var (i := 17) (by simpa [wipe] using e17) dS2) (ev_var (i := 19) (by simp [wipe, elen]) (.int x)) (pick_at (hrb x hx))
        have eE : ((row.filter fun _ => true).map fun x => Dt.int (pick ns x)) = (row.map (pick ns)).map .int := by rw [filterT, List.map_map]; rfl
        rw [eE] at ein
        exact et_test (ev_op (ev_cb (ea_cons ein ea_nil) ints_sumL) (ev_var e18 (.int need)) rv_ge)
      · subst e
        have e21 : ((wipe σ' [21]).set 21 (some u))[21]? = some (some u) := by simp [wipe, a0]
        refine ev_tup (ea_cons ((ev_cb (ea_cons (ev_var e21 du) ea_nil) rc_lenT).is ?_) (ea_cons (ev_var e21 du) ea_nil)) (by show 2 ≤ 100000; decide)
        simp
    have srt : PySem.W.Sortable (((goodRows need ns).map gD).map Dt.py) := .inl fun d hd => by
      obtain ⟨e, he, rfl⟩ := List.mem_map.mp hd
      obtain ⟨r, _, rfl⟩ := List.mem_map.mp he
      exact ⟨_, _, rfl⟩
    refine st_seq (st_asg (ev_cb (ea_cons ec ea_nil) (rc_sortL w' (gD_row _) srt)) fun gv H5 p5 dg => ?_)
    have c17 : (σ'.set 12 (some gv))[17]? = some (some (.ref c)) := by rw [List.getElem?_set_ne (by decide)]; exact a1
    have c18 : (σ'.set 12 (some gv))[18]? = some (some (.int need)) := by rw [List.getElem?_set_ne (by decide)]; exact a2
    have c12 : (σ'.set 12 (some gv))[12]? = some (some gv) := List.getElem?_set_self (by rw [a0]; decide)
    dsimp only
    generalize σ'.set 12 (some gv) = ρ at c17 c18 c12 ⊢
    have w5 := w'.pu p5
    have ev : Ev w.K w.T M (tCall (sp_vats_for w) [] E (tCons (tVar 18) (tCons (tVar 17) tNil))) ρ H5 (vatsD need ns) := ev_call (ea_cons (ev_var c18 (.int need)) (ea_cons (ev_var c17 (dS.pu p5)) ea_nil)) (spV_E w5 rfl ⟨need, ns, ⟨h1, by omega, fun x hx => by have := hb x hx; omega⟩, rfl, rfl⟩)
    have eg : ∀ {G}, Pu w.T H5 G → Ev w.K w.T M (tVar 12) ρ G (.lst (((goodRows need ns).map gD).mergeSort leD)) := fun {G} pg => ev_var c12 (dg.pu pg)
    have fineS : ∀ d ∈ ((goodRows need ns).map gD).mergeSort leD, d.fine = true := fun d hd => by
      obtain ⟨l, _, rfl⟩ := List.mem_map.mp ((List.mergeSort_perm _ _).mem_iff.mp hd)
      exact gD_fine l
    have eo : Ev w.K w.T M (tIf (tTest (tOp (rNeU w.K) (tVar 12) (tLst tNil))) (tSub w.K (tSub w.K (tVar 12) (tC (.int 0))) (tC (.int 1))) (tC .non)) ρ H5 (vatsD need ns) := by
      refine (ev_if (x := vatsD need ns) (y := .non) (et_test (ev_op (eg Pu.refl) (ev_lst w5 ea_nil (by decide)) (rv_neP (ok_lst fineS) rfl))) (fun hb => ?_) fun _ => ev_non).is ?_
      · rw [eqv_nil] at hb
        cases hbest : bestOf ltD ((goodRows need ns).map gD) with
        | none =>
          cases hgr : (goodRows need ns).map gD with
          | nil => rw [hgr] at hb; simp at hb
          | cons d l => rw [hgr] at hbest; cases hbest
        | some d =>
          have hsd := sort_head hbest
          obtain ⟨row, _, rfl⟩ := List.mem_map.mp (bestOf_mem hbest)
          have ev : vatsD need ns = tD row := by rw [vatsD, hbest]; rfl
          rw [ev]
          exact ev_ixT (ds := [.int row.length, tD row]) (ev_ixL (eg Pu.refl) ev_int (atI_at (j := 0) (by
            have := (List.getElem?_eq_some_iff.mp hsd).1
            show ixN _ 0 = some 0
            unfold ixN
            rw [if_pos (by decide), if_pos (by omega)]
            rfl) hsd)) ev_int rfl
      · rw [eqv_nil]
        have hp := (List.mergeSort_perm ((goodRows need ns).map gD) leD).length_eq
        by_cases hc : ((goodRows need ns).map gD).isEmpty = true
        · have h0 : (goodRows need ns).map gD = [] := by simpa using hc
          rw [h0]
          simp [vatsD, h0, bestOf]
        · have h1 : (((goodRows need ns).map gD).mergeSort leD).isEmpty = false := by
            cases hm : ((goodRows need ns).map gD).mergeSort leD with
            | nil => rw [hm] at hp; exact absurd (by simpa using hp.symm) hc
            | cons _ _ => rfl
          simp [h1]
    have okV : (vatsD need ns).ok = true := by
      unfold vatsD
      cases hbest : bestOf ltD ((goodRows need ns).map gD) with
      | none => rfl
      | some d =>
        obtain ⟨row, _, rfl⟩ := List.mem_map.mp (bestOf_mem hbest)
        exact ok_ints row
    have self : Dt.eqv (vatsD need ns) (vatsD need ns) = true := by
      unfold vatsD
      cases hbest : bestOf ltD ((goodRows need ns).map gD) with
      | none => rfl
      | some d =>
        obtain ⟨row, _, rfl⟩ := List.mem_map.mp (bestOf_mem hbest)
        exact eqv_ints row
    have rI := rv_neP (K := w.K) (T := w.T) (M := M) (H := H5) okV okV
    rw [self] at rI
    refine st_if (b := false) (et_test (ev_op ev eo rI)) (fun z => by cases z) fun _ H6 p6 => k _ _ (p0.trans (p5.trans p6))
end
end K3

/-! text K4x -/
namespace K3
open Dy L2 PyProof.Rows PySem.Spec PySem
section
variable {w : Wk} {M M0 M1 M2 : List Addr} {H H0 H1 H2 G : Hp} {σ : L2.St} {p d di o x : Addr} {v v' : VatM} {ow ow' : OwnM} {Q : VK} {D : Ends} {te ta tb : TE} {tl : TA} {y z : Dt} {pounds dye0 used filled : Int} {LO : Nat → Addr → Addr → HO} {E : XK} {i : Nat}
theorem for_rng {K : PySem.W.Frag} {gg : TG} {tb : TS} (h : tl σ H fun vs H1 => ∃ j : Int, vs = [.int j] ∧ -(2 ^ 62) ≤ j ∧ j < 2 ^ 62 ∧ tFor (fun _ H R => R (Itr 0 j.toNat) H) gg tb D σ H1) : tFor (iRng1 tl) gg tb D σ H := h
theorem for_list {K : PySem.W.Frag} {gg : TG} {tb : TS} (h : te σ H fun v H1 => tFor (iList K (fun _ G Q => Q v G)) gg tb D σ H1) : tFor (iList K te) gg tb D σ H := h
/-- the law's own, new -/
theorem own_new {a b : Int} (h3 : σ[3]? = some (some (.int a))) (h4 : σ[4]? = some (some (.int b))) (k : ∀ o, H o = none → Q (.ref o) (upd (upd H o (.dK [])) o (.dK (ownK ⟨a, b, 0, 0⟩)))) :
    tDisp [((tC (.str "dye")), (tVar 3)), ((tC (.str "warm")), (tVar 4)), ((tC (.str "cloth")), (tC (.int 0))), ((tC (.str "has")), (tC (.int 0)))] σ H Q := fun o ho =>
  ⟨.int a, h3, .int b, h4, upd_same, ownK ⟨a, b, 0, 0⟩, rfl, by show 4 ≤ 15; decide, k o ho⟩
theorem law_round {c : Int} {b a : Int} (g : Wf3 w) (ex : PySem.W.exmOne w.K (.ref w.e_VatError) (.ref w.e_VatError) = some true) (wf : Wf w.T [di] H) (hl : σ.length = 22) (h1 : σ[1]? = some (some (.ref di))) (hd : H di = some (.lst [.int a, .int b, .int c]))
    (k : ∀ σ' H', Le w.T [di] H [] H' → D.nx σ' H') : t_law_for3 w E LO D σ H := by
  -- the three rolls
  refine st_seq (par3_ (cons_ (op_ ((ev_int (K := w.K) (T := w.T) (M := [di]) (i := 1)).run fun u0 G0 q0 du0 => roll_rd (wf.pu q0).tabs h1 (q0.at hd) (by decide) (by decide) fun r1 a1 b1 c1 G1 r10 r11 l1 e1 => ?_))))
  rw [du0.intR]
  refine rv_add (K := w.K) (T := w.T) (M := [di]) (i := 1) (j := r1) G1 Pu.refl _ _ (.int 1) (.int r1) _ fun u2 G2 q2 du2 => ?_
  rw [du2.intR]
  have wf1 : Wf w.T [di] G1 := (wf.pu q0).le l1
  have wf2 := wf1.pu q2
  refine cons_ (roll_rd wf2.tabs h1 (q2.at e1) (by decide) (by decide) fun r2 a2 b2 c2 G3 r20 r21 l3 e3 => ?_)
  have wf3 := wf2.le l3
  refine cons_ (roll_rd wf3.tabs h1 e3 (by decide) (by decide) fun r3 a3 b3 c3 G4 r30 r31 l4 e4 => nil_ ⟨_, _, _, rfl, ?_⟩)
  have wf4 := wf3.le l4
  have le4 : Le w.T [di] H [di] G4 := q0.le.trans (l1.trans (q2.le.trans (l3.trans l4)))
  have k1 : (((σ.set 2 (some (V.int (1 + r1)))).set 3 (some (.int r2))).set 4 (some (.int r3)))[1]? = some (some (.ref di)) := by
    rw [List.getElem?_set_ne (by decide), List.getElem?_set_ne (by decide), List.getElem?_set_ne (by decide)]; exact h1
  have k2 : (((σ.set 2 (some (V.int (1 + r1)))).set 3 (some (.int r2))).set 4 (some (.int r3)))[2]? = some (some (.int (1 + r1))) := by
    rw [List.getElem?_set_ne (by decide), List.getElem?_set_ne (by decide)]; exact List.getElem?_set_self (by rw [hl]; decide)
  have k3 : (((σ.set 2 (some (V.int (1 + r1)))).set 3 (some (.int r2))).set 4 (some (.int r3)))[3]? = some (some (.int r2)) := by
    rw [List.getElem?_set_ne (by decide)]; exact List.getElem?_set_self (by rw [List.length_set, hl]; decide)
  have k4 : (((σ.set 2 (some (V.int (1 + r1)))).set 3 (some (.int r2))).set 4 (some (.int r3)))[4]? = some (some (.int r3)) := List.getElem?_set_self (by rw [List.length_set, List.length_set, hl]; decide)
  have kl : (((σ.set 2 (some (V.int (1 + r1)))).set 3 (some (.int r2))).set 4 (some (.int r3))).length = 22 := by rw [List.length_set, List.length_set, List.length_set]; exact hl
  generalize ((σ.set 2 (some (V.int (1 + r1)))).set 3 (some (.int r2))).set 4 (some (.int r3)) = τ at k1 k2 k3 k4 kl ⊢
  -- the vat, the law's own
  refine st_seq (asg_tup (cons_ (make_vat (M := [di]) g wf4 (ea_cons (ev_var k2 (.int _)) (ea_cons (ev_var k3 (.int _)) (ea_cons (ev_var k4 (.int _)) ea_nil))) ⟨by omega, by omega, by omega, by omega, by omega⟩ fun x dx dd H5 nx nd p5 hx hdd => cons_ (own_new k3 k4 fun o ho => ?_))))
  refine ⟨by show 4 ≤ sizeLine; decide, fun cc hcc => ⟨cc, _, rfl, .inl (.inl upd_same), rfl, _, _, rfl, _, _, rfl, _, _, rfl, _, _, rfl, rfl, ?_⟩⟩
  have pO : Pu w.T H5 (upd (upd H5 o (.dK [])) o (.dK (ownK ⟨r2, r3, 0, 0⟩))) := Pu.fresh (Pu.new ho) ho (Le.mut (by simp) upd_same)
  have hO : upd (upd H5 o (.dK [])) o (.dK (ownK ⟨r2, r3, 0, 0⟩)) o = some (.dK (ownK ⟨r2, r3, 0, 0⟩)) := upd_same
  generalize upd (upd H5 o (.dK [])) o (.dK (ownK ⟨r2, r3, 0, 0⟩)) = G6 at pO hO hcc ⊢
  have p7 : Pu w.T G6 (upd G6 cc (.tup [.ref x, .ref o, .int 0, .int 0])) := Pu.new hcc
  show tSeq _ _ _ _ (upd G6 cc (.tup [.ref x, .ref o, .int 0, .int 0]))
  generalize upd G6 cc (.tup [.ref x, .ref o, .int 0, .int 0]) = G7 at p7 ⊢
  have p57 := pO.trans p7
  have p47 := p5.trans p57
  have hx7 := p57.at hx
  have hd7 := p57.at hdd
  have ho7 := p7.at hO
  have he7 := p47.at e4
  have no : G4 o = none := by
    cases e : G4 o with
    | none => rfl
    | some u => exact absurd ho (p5.dom o (by rw [e]; simp))
  have le7 : Le w.T [di] G4 [di, x, dd, o] G7 := ⟨p47.le.keep, p47.dom, fun b hb => by
    simp only [List.mem_cons, List.mem_nil_iff, or_false] at hb ⊢
    rcases
            hb with rfl | rfl | rfl | rfl
    · exact .inl rfl
    · exact .inr nx
    · exact .inr nd
    · exact .inr no, p47.tabs⟩
  have s7 : Sta w [di] H [di, x, dd, o] G7 di x dd o (newVat (1 + r1) r2 r3) ⟨r2, r3, 0, 0⟩ := by
    refine ⟨⟨p47.tabs wf4.tabs, fun m hm => ?_⟩, le4.trans le7, by simp, by simp, by simp, by simp, ⟨_, _, _, he7⟩, ⟨dx, [], hx7, hd7, .nil⟩, ho7, fun z => by rw [z, nd] at e4; cases e4⟩
    simp only [List.mem_cons, List.mem_nil_iff, or_false] at hm
    rcases
            hm with rfl | rfl | rfl | rfl
    · rw [he7]; simp
    · rw [hx7]; simp
    · rw [hd7]; simp
    · rw [ho7]; simp
  have hs7 : Sl ((((τ.set 5 (some (.ref x))).set 6 (some (.ref o))).set 7 (some (.int 0))).set 8 (some (.int 0))) di x o (1 + r1) r2 0 0 := by
    refine ⟨by simp [kl], ?_, ?_, ?_, ?_, ?_, ?_, ?_⟩
    · rw [List.getElem?_set_ne (by decide), List.getElem?_set_ne (by decide), List.getElem?_set_ne (by decide), List.getElem?_set_ne (by decide)]; exact k1
    · rw [List.getElem?_set_ne (by decide), List.getElem?_set_ne (by decide), List.getElem?_set_ne (by decide), List.getElem?_set_ne (by decide)]; exact k2
    · rw [List.getElem?_set_ne (by decide), List.getElem?_set_ne (by decide), List.getElem?_set_ne (by decide), List.getElem?_set_ne (by decide)]; exact k3
    · rw [List.getElem?_set_ne (by decide), List.getElem?_set_ne (by decide), List.getElem?_set_ne (by decide)]; exact List.getElem?_set_self (by simp [kl])
    · rw [List.getElem?_set_ne (by decide), List.getElem?_set_ne (by decide)]; exact List.getElem?_set_self (by simp [kl])
    · rw [List.getElem?_set_ne (by decide)]; exact List.getElem?_set_self (by simp [kl])
    · exact List.getElem?_set_self (by simp [kl])
  generalize (((τ.set 5 (some (V.ref x))).set 6 (some (.ref o))).set 7 (some (.int 0))).set 8 (some (.int 0)) = π at hs7 ⊢
  have I7 : Inv3 (1 + r1) r2 0 (newVat (1 + r1) r2 r3) ⟨r2, r3, 0, 0⟩ 0 0 := inv_new (by omega) (by omega) (by omega) (by omega) (by omega) (by omega)
  -- the steps
  refine st_seq (for_rng (K := w.K) (cons_ (sroll s7 hs7.s1 (by decide) (by decide) fun n H8 n0 n1 s8 => nil_ ⟨n, rfl, by omega, by omega, ?_⟩)))
  refine s_for (K := w.K) (T := w.T) (M := [di, x, dd, o]) (M' := []) (ds := Dy.intsFrom 0 n.toNat) (fun H9 p9 R kk => kk _ H9 Pu.refl jw_rng) fun H9 p9 => ?_
  have s9 := s8.pu p9
  refine ⟨fun j σ' H' => LP w [di, x, dd, o] H9 di x dd (1 + r1) r2 j σ' H', ⟨_, _, _, _, _, _, hs7, s9.base, I7⟩, fun j σ' H' ⟨M, o', v, ow, us, fi, a1, a2, a3⟩ => a2.le.drop (by simp), fun j dd' σ' H' y H10 hj ⟨M, o', v, ow, us, fi, a1, a2, a3⟩ p10 dy => ?_, fun σ' H' ⟨M, o', v, ow, us, fi, a1, a2, a3⟩ => ?_⟩
  · have hlt : j < n.toNat := by
      have := (List.getElem?_eq_some_iff.mp hj).1
      simpa [Dy.intsFrom] using this
    exact law_step (E := E) (LO := LO) g ex (a1.set (by decide)) (a2.pu p10) a3 (by omega) fun σ'' H'' lp => lp
  · have hlen : (Dy.intsFrom 0 n.toNat).length = n.toNat := by simp [Dy.intsFrom]
    rw [hlen] at a3
    have s10 : Sta w [di] H M H' di x dd o' v ow := Sta.join (s9.le) a2
    show tSeq _ _ _ σ' H'
    refine st_seq (law_hours (E := E) (LO := LO) g ex a1 s10 a3 (by omega) fun σ2 M2 H11 hs11 s11 => ?_)
    show tSeq _ _ _ σ2 H11
    refine st_seq (asg_tup (cons_ (law_sizes hs11 s11 fun c ns H12 nl nb s12 dz => cons_ (op_ ((ev_int (K := w.K) (T := w.T) (M := M2) (i := 1)).run fun u0 G0 q0 du0 => ?_)))))
    rw [du0.intR]
    have s13 := s12.pu q0
    obtain ⟨a5, b5, c5, e5⟩ := s13.dice
    refine roll_rd s13.wf.tabs hs11.s1 e5 (by decide) (by decide) fun r a' b' c' H13 r0' r1' l13 e13 => ?_
    have s14 := s13.roll l13 e13
    have dz14 := (dz.pu q0).le (l13.wide (M := M2) (by simp [s13.mi]))
    refine rv_add (K := w.K) (T := w.T) (M := M2) (i := 1) (j := r) H13 Pu.refl _ _ (.int 1) (.int r) _ fun u3 H14 q14 du3 => ?_
    rw [du3.intR]
    refine nil_ ⟨by show 2 ≤ sizeLine; decide, fun cc hcc => ⟨cc, _, rfl, .inl (.inl upd_same), rfl, _, _, rfl, _, _, rfl, rfl, ?_⟩⟩
    have q15 := q14.trans (Pu.new (o := .tup [.ref c, .int (1 + r)]) hcc)
    have s15 := s14.pu q15
    have dz15 := dz14.pu q15
    refine law_rows (E := E) (c := c) (ns := ns) (need := 1 + r) (M := M2) (b := .non) g s15.wf (by simp [hs11.len]) ?_ ?_ dz15 nl nb (by omega) fun σ3 H16 q16 => k _ _ ((s15.pu q16).le.drop (by simp))
    · rw [List.getElem?_set_ne (by decide)]; exact List.getElem?_set_self (by rw [hs11.len]; decide)
    · exact List.getElem?_set_self (by rw [List.length_set, hs11.len]; decide)
def sp_law (w : Wk) : Sp := fun vs H Q _ => ∃ (a : Addr) (ns : List Int), vs = [.ref a] ∧ Wf w.T [] H ∧ SqL w.K H a (ns.map V.int) ∧ ∀ H1, Q (.bl true) H1
theorem pure_law (g : Wf3 w) (ex : PySem.W.exmOne w.K (.ref w.e_VatError) (.ref w.e_VatError) = some true) (vs : List V) (Q : VK) (h : sp_law w vs H Q E) : t_law w E LO { nx := fun _ H' => Q .non H', rt := Q } (start N_law vs) H := by
  obtain ⟨a, ns, rfl, wf, hs, q⟩ := h
  refine st_seq (for_list (K := w.K) ⟨.ref a, rfl, [], a, ns, rfl, wf, hs, fun v z H1 p1 dv => ?_⟩)
  obtain ⟨l0, vs0, rfl, _, hl0, dvs⟩ := dv.lstR
  obtain ⟨di', rfl, dd⟩ := all1 dvs
  obtain ⟨di, vs1, rfl, _, hdi, dints⟩ := dd.lstR
  obtain rfl := dints.ints
  have nl : l0 ≠ di := fun e => by
    subst e
    rw [hl0] at hdi
    injection hdi with hdi
    injection hdi with hdi
    obtain ⟨x, y, z', e3⟩ : ∃ x y z', diceL z = [x, y, z'] := by
      unfold diceL
      split <;> exact ⟨_, _, _, rfl⟩
    rw [e3] at hdi
    cases hdi
  obtain ⟨x, y, z', e3⟩ : ∃ x y z', diceL z = [x, y, z'] := by
    unfold diceL
    split <;> exact ⟨_, _, _, rfl⟩
  rw [e3] at hdi
  have wf1 : Wf w.T [di] H1 := ⟨(wf.pu p1).tabs, fun m hm => by rw [List.mem_singleton.mp hm, hdi]; simp⟩
  have dv' : Dy.D w.K [di] H1 (.ref l0) (.lst [.obj di]) := .lst (by simp [nl]) hl0 (.cons (.obj di) .nil)
  refine s_for (K := w.K) (T := w.T) (M := [di]) (M' := []) (ds := [.obj di]) (src_list fun H2 p2 Q2 q2 => q2 _ H2 Pu.refl (dv'.pu p2)) fun H2 p2 => ?_
  refine ⟨fun i σ' H' => (i = 0 → σ' = start N_law [.ref a] ∧ Pu w.T H2 H') ∧ Le w.T [di] H2 [] H', ⟨fun _ => ⟨rfl, Pu.refl⟩, Pu.refl.le.drop (by simp)⟩, fun i σ' H' hh => hh.2, fun i d σ' H' u H4 hd hh p4 du => ?_, fun σ' H' hh => ?_⟩
  · have hi : i = 0 := by
      have := (List.getElem?_eq_some_iff.mp hd).1
      simpa using this
    subst hi
    obtain ⟨eσ, pu⟩ := hh.1 rfl
    subst eσ
    have ed : d = .obj di := by simpa using hd.symm
    subst ed
    rw [du.objR]
    have p24 := p2.trans (pu.trans p4)
    refine law_round (E := E) (LO := LO) g ex (wf1.pu p24) (by rfl) rfl (p24.at hdi) fun σ'' H'' l => ⟨fun z => (by cases z), (pu.trans p4).le.trans l⟩
  · have wfE : Wf w.T [] H' := ⟨hh.2.tabs (wf1.pu p2).tabs, by simp⟩
    show tRet (tCall (sp_law_plain w) [] E tNil) { nx := fun _ H' => Q .non H', rt := Q } σ' H'
    exact st_ret (K := w.K) (T := w.T) (M := []) (ev_call ea_nil (spV_D wfE rfl ⟨rfl, rfl⟩)) fun u H6 p6 du => by rw [du.blR]; exact q H6
end
end K3

/-! text K4y -/
namespace K3
open Dy L2 PyProof.Rows PySem.Spec PySem
section
variable {w : Wk} {M M0 M1 M2 : List Addr} {H H0 H1 H2 G : Hp} {σ : L2.St} {p d di o x : Addr} {v v' : VatM} {Q : VK} {D : Ends} {te ta tb : TE} {tl : TA} {y z : Dt} {LO : Nat → Addr → Addr → HO} {E X : XK} {i : Nat}
theorem lst_asg (h : tl σ H fun xs H1 => xs.length ≤ sizeLine ∧ ∀ c, H1 c = none → D.nx (σ.set i (some (.ref c))) (upd H1 c (.lst xs))) : tAsg (tLst tl) (gName i) D σ H := h
theorem lst_ (h : tl σ H fun xs H1 => xs.length ≤ sizeLine ∧ ∀ c, H1 c = none → Q (.ref c) (upd H1 c (.lst xs))) : tLst tl σ H Q := h
theorem drop_ (h : te σ H fun _ H1 => D.nx σ H1) : tDrop te D σ H := h
theorem ret_ (h : te σ H D.rt) : tRet te D σ H := h
theorem andV_ (h : ta σ H fun x H1 => ∃ c, x = .bl c ∧ if c = true then tb σ H1 Q else Q (.bl false) H1) : tAndV ta tb σ H Q := h
theorem or_ {tt tu : TT} {Q : Bool → Hp → Prop} (h : tt σ H fun c H1 => if c = true then Q true H1 else tu σ H1 Q) : tOr tt tu σ H Q := h
/-- the plain vat -/
structure Vst (w : Wk) (H0 : Hp) (M : List Addr) (H : Hp) (p d : Addr) (v : VatM) : Prop where
  wf : Wf w.T M H
  le : Le w.T [] H0 M H
  mp : p ∈ M
  md : d ∈ M
  vat : VatAt w M H p d v
theorem Vst.pu (s : Vst w H0 M H p d v) (q : Pu w.T H G) : Vst w H0 M G p d v := ⟨s.wf.pu q, s.le.app q, s.mp, s.md, vat_pu s.vat q⟩
theorem vdeed {n : Nat} {vs0 bad : List V → VatM → Prop} {to : List V → VatM → VatM} {res : List V → VatM → Dt} {m : Str} {is : List Int} (s : Vst w H0 M H p d v) (e0 : Ev w.K w.T M te σ H (.obj p)) (ha : EvA w.K w.T M tl σ H (is.map .int)) (hn : is.length + 1 = n) (hm : m ∉ vns) (ok : VOk v) (h0 : vs0 (is.map .int) v)
    (kb : bad (is.map .int) v → ∀ H1, Pu w.T H H1 → X (.ref w.e_VatError) none H1) (kg : ¬ bad (is.map .int) v → ∀ u H1, Vst w H0 M H1 p d (to (is.map .int) v) → Dy.D w.K M H1 u (res (is.map .int) v) → Q u H1) : tMeth w.c_Vat m (spV w n vs0 bad to res) [] X te tl σ H Q :=
  e0.run fun u G1 q1 du => by
    rw [du.objR]
    obtain ⟨dx, rows, h1, h2, r⟩ := (s.pu q1).vat
    refine ⟨p, dx, _, rfl, h1, zip_none hm _, (ha.mono q1).run fun us G2 q2 dus => ?_⟩
    have e : us = is.map V.int := dus.ints
    subst e
    have s2 := (s.pu q1).pu q2
    show spV w n vs0 bad to res (V.ref p :: (is.map V.int ++ [])) G2 Q X
    rw [List.append_nil]
    refine ⟨M, p, d, v, is.map V.int, rfl, by simp [← hn], s2.wf, s2.mp, s2.md, s2.vat, ok, h0, fun hb G3 q3 => kb hb G3 (q1.trans (q2.trans q3)), fun hb u G3 l h3 dv => ?_⟩
    have lm : Le w.T M G2 M G3 := l.wide (by simp [s.mp, s.md])
    exact kg hb u G3 ⟨s2.wf.le lm, s2.le.trans lm, s.mp, s.md, h3⟩ dv
/-- Vat(..) of bad parts -/
theorem make_bad {tl : TA} {pp dd tt : Int} (wf : Wf w.T M H) (h : EvA w.K w.T M tl σ H [.int pp, .int dd, .int tt]) (gv : ¬ goodVat pp dd tt) (k : ∀ H1, Pu w.T H H1 → X (.ref w.e_VatError) none H1) : tMake w.c_Vat (sp_Vat_init w) [] X tl σ H Q := h.run fun vs H1 p1 dv => by
  obtain ⟨a, b, c, rfl, ha, hb, hc⟩ := all3 dv
  rw [ha.intR, hb.intR, hc.intR]
  intro x dx hx hdx ne
  have pa : Pu w.T H1 (upd (upd H1 dx (.own x)) x (.ins w.c_Vat dx [])) := Pu.trans (Pu.new hdx) (Pu.new (by rw [upd_ne ne.symm]; exact hx))
  exact ⟨M, x, dx, pp, dd, tt, rfl, wf.pu (p1.trans pa), upd_same, by rw [upd_ne ne, upd_same], fun _ H2 q2 => k H2 (p1.trans (pa.trans q2)), fun z => absurd z gv⟩
theorem LamsAt.refs {q : Str} {H : Hp} : ∀ {vs : List V} {j : Nat}, LamsAt q LO H j vs → ∃ fs : List Addr, vs = fs.map V.ref ∧ ∀ f ∈ fs, ∃ k c', j ≤ k ∧ k < j + vs.length ∧ H f = some (LO k f c') ∧ H c' = some (LamX.CodeO c' q)
  | [], j, _ => ⟨[], rfl, by simp⟩
  | v :: vs, j, ⟨⟨f, c', e, h1, h2⟩, r⟩ => by
    obtain ⟨fs, e1, h⟩ := LamsAt.refs r
    subst e
    refine ⟨f :: fs, by rw [e1]; rfl, fun g hg => ?_⟩
    rcases
            List.mem_cons.mp hg with rfl | hg
    · exact ⟨j, c', Nat.le_refl _, by simp, h1, h2⟩
    · obtain ⟨k, c2, a, b, c, d⟩ := h g hg
      exact ⟨k, c2, by omega, by simp; omega, c, d⟩
theorem objs_of {K : PySem.W.Frag} (fs : List Addr) : DAll K M H (fs.map V.ref) (fs.map Dt.obj) := by
  induction fs with
  | nil => exact .nil
  | cons f fs ih => exact .cons (.obj f) ih
def v0 : VatM := newVat 10 100 80
/-- each of the bad ones raises -/
theorem lam_bad (s : Vst w H0 M H p d v0) (hs : σ[0]? = some (some (.ref p))) (k : ∀ H1, Pu w.T H H1 → X (.ref w.e_VatError) none H1) : ∀ j, j < 11 → lts_law_plain w j X σ H Q := by
  have vk : VOk v0 := ⟨fun z => absurd rfl z, by decide, fun r hr => by simp [v0, newVat] at hr⟩
  have e0 : Ev w.K w.T M (tVar 0) σ H (.obj p) := ev_var hs (.obj p)
  have e1 : ∀ n : Int, Ev w.K w.T M (tUn (rU fun i => .int (-i)) (tC (.int n))) σ H (.int (-n)) := fun n => ev_un ev_int ru_neg
  have el : Ev w.K w.T M (tLst (tCons (tC (.int 1)) tNil)) σ H (.lst [.int 1]) := ev_lst s.wf (ea_cons ev_int ea_nil) (by decide)
  intro j hj
  match j, hj with
  | 0, _ => exact make_bad (σ := σ) (pp := 0) (dd := 1) (tt := 1) s.wf (ea_cons ev_int (ea_cons ev_int (ea_cons ev_int ea_nil))) (by unfold goodVat; omega) k
  | 1, _ => exact make_bad (σ := σ) (pp := 201) (dd := 1) (tt := 1) s.wf (ea_cons ev_int (ea_cons ev_int (ea_cons ev_int ea_nil))) (by unfold goodVat; omega) k
  | 2, _ => exact make_bad (σ := σ) (pp := 1) (dd := -1) (tt := 1) s.wf (ea_cons ev_int (ea_cons (e1 1) (ea_cons ev_int ea_nil))) (by unfold goodVat; omega) k
  | 3, _ => exact make_bad (σ := σ) (pp := 1) (dd := 1) (tt := 101) s.wf (ea_cons ev_int (ea_cons ev_int (ea_cons ev_int ea_nil))) (by unfold goodVat; omega) k
  | 4, _ => exact make_bad (σ := σ) (pp := 1) (dd := 1) (tt := -1) s.wf (ea_cons ev_int (ea_cons ev_int (ea_cons (e1 1) ea_nil))) (by unfold goodVat; omega) k
  | 5, _ => exact vdeed (is := []) s e0 ea_nil rfl (by decide) vk ⟨rfl, by decide⟩ (fun _ => k) fun z => absurd rfl z
  | 6, _ =>
    show tMeth w.c_Vat "hours_for" (sp_Vat_hours_for w) [] X (tVar 0) (tCons (tC (.int 1)) tNil) σ H Q
    refine e0.run fun u H3 p3 du => ?_
    rw [du.objR]
    have s3 := s.pu p3
    obtain ⟨dx, rows, a1, a2, r⟩ := s3.vat
    refine ⟨p, dx, _, rfl, a1, zip_none (by decide) _, ?_⟩
    refine (ea_cons (K := w.K) (T := w.T) (M := M) (ev_int (i := 1)) ea_nil).run fun us H4 p4 dus => ?_
    have s4 := s3.pu p4
    obtain rfl := dus.ints (ns := [1])
    exact ⟨[], [vatD w v0, .int 1], rfl, s4.wf.nil, .cons (vatD_of (p4.at a1) (p4.at a2) (r.pu p4)) (.cons (.int 1) .nil), .inr ⟨⟨v0, 1, rfl, rfl⟩, fun H5 p5 => k H5 (p3.trans (p4.trans p5))⟩⟩
  | 7, _ =>
    show tCall (sp_vats_for w) [] X (tCons (tC (.int 0)) (tCons (tLst (tCons (tC (.int 1)) tNil)) tNil)) σ H Q
    refine (ea_cons (K := w.K) (T := w.T) (M := M) (ev_int (i := 0)) (ea_cons el ea_nil)).run fun us H4 p4 dus => ?_
    show sp_vats_for w (us ++ []) H4 _ _
    rw [List.append_nil]
    exact ⟨M, _, rfl, s.wf.pu p4, dus, .inr ⟨⟨0, [.int 1], .inl (by decide), rfl⟩, fun H5 p5 => k H5 (p4.trans p5)⟩⟩
  | 8, _ =>
    show tCall (sp_vats_for w) [] X (tCons (tC (.int 1)) (tCons (tOp (rMulU w.K) (tLst (tCons (tC (.int 1)) tNil)) (tC (.int 9))) tNil)) σ H Q
    refine (ea_cons (K := w.K) (T := w.T) (M := M) (ev_int (i := 1)) (ea_cons (ev_op el (ev_int (i := 9)) (rv_rep (k := 9) s.wf (by decide) (by decide))) ea_nil)).run fun us H4 p4 dus => ?_
    show sp_vats_for w (us ++ []) H4 _ _
    rw [List.append_nil]
    exact ⟨M, _, rfl, s.wf.pu p4, dus, .inr ⟨⟨1, _, .inr (by decide), rfl⟩, fun H5 p5 => k H5 (p4.trans p5)⟩⟩
  | 9, _ => exact vdeed (is := [11]) s e0 (ea_cons ev_int ea_nil) rfl (by decide) vk ⟨⟨11, rfl⟩, by decide, by decide, by decide⟩ (fun _ => k) fun z => absurd (.inr (by decide)) z
  | 10, _ => exact vdeed (is := [0]) s e0 (ea_cons ev_int ea_nil) rfl (by decide) vk ⟨⟨0, rfl⟩, by decide, by decide, by decide⟩ (fun _ => k) fun z => absurd (.inr (by decide)) z
  | j + 11, h => exact absurd h (by omega)
def v1 : VatM := hourM v0
def v2 : VatM := putM [.int 5] v1
def v3 : VatM := hourM v2
def v4 : VatM := hourM v3
theorem pure_law_plain (g : Wf3 w) (ex : PySem.W.exmOne w.K (.ref w.e_VatError) (.ref w.e_VatError) = some true) (hx : ∀ i f c, nt (LO i f c) = true) (vs : List V) (Q : VK) (h : sp_law_plain w vs H Q E) : t_law_plain w E LO { nx := fun _ H' => Q .non H', rt := Q } (start N_law_plain vs) H := by
  obtain ⟨M, ds, d0, _, wfM, r, ⟨rfl, rfl⟩, q⟩ := h
  cases r
  have wf : Wf w.T [] H := wfM.nil
  refine st_seq (asgQ (make_vat (M := []) g wf (ea_cons ev_int (ea_cons ev_int (ea_cons ev_int ea_nil))) (pp := 10) (dd := 100) (tt := 80) (by unfold goodVat; omega) fun p dx d H1 np nd p1 hp hd => ?_))
  have l1 : Le w.T [] H [p, d] H1 := ⟨p1.keep, p1.dom, fun b hb => by
    simp only [List.mem_cons, List.mem_nil_iff, or_false] at hb
    rcases hb with rfl | rfl
    · exact .inr np
    · exact .inr nd, p1.tabs⟩
  have s1 : Vst w H [p, d] H1 p d v0 := ⟨⟨p1.tabs wf.tabs, fun m hm => by
    simp only [List.mem_cons, List.mem_nil_iff, or_false] at hm
    rcases hm with rfl | rfl
    · rw [hp]; simp
    · rw [hd]; simp⟩, l1, by simp, by simp, ⟨dx, [], hp, hd, .nil⟩⟩
  refine st_seq (lst_asg (lams_rd (LO := LO) hx (by simp [Wk.T]) (nd_of g).2 11 0 s1.wf fun fs' H2 p2 hl la => ⟨by rw [hl]; decide, fun c hc => ?_⟩))
  obtain ⟨fs, rfl, hfs⟩ := LamsAt.refs la
  have hl' : fs.length = 11 := by simpa using hl
  have pc : Pu w.T H2 (upd H2 c (.lst (fs.map V.ref))) := Pu.new hc
  have s3 := (s1.pu p2).pu pc
  have hcM := (s1.pu p2).wf.fresh hc
  have dl : Dy.D w.K [p, d] (upd H2 c (.lst (fs.map V.ref))) (.ref c) (.lst (fs.map .obj)) := .lst hcM upd_same (objs_of fs)
  have hfs3 : ∀ f ∈ fs, ∃ k c', k < 11 ∧ upd H2 c (.lst (fs.map V.ref)) f = some (LO k f c') ∧ upd H2 c (.lst (fs.map V.ref)) c' = some (LamX.CodeO c' q_law_plain) := fun f hf => by
    obtain ⟨k, c', a1, a2, a3, a4⟩ := hfs f hf
    exact ⟨k, c', by simpa [hl'] using a2, pc.at a3 (hx _ _ _), pc.at a4⟩
  show tSeq _ _ _ [some (.ref p), some (.ref c), none] (upd H2 c (.lst (fs.map V.ref)))
  generalize upd H2 c (.lst (fs.map V.ref)) = G at s3 dl hfs3 ⊢
  have e0 : ∀ {M' : List Addr} {G' : Hp}, Ev w.K w.T M' (tVar 0) [some (.ref p), some (.ref c), none] G' (.obj p) := fun {M' G'} => ev_var rfl (.obj p)
  have vk0 : VOk v0 := ⟨fun z => absurd rfl z, by decide, fun r hr => by simp [v0, newVat] at hr⟩
  -- the bad ones
  have elc : Ev w.K w.T [p, d] (tLc (iList w.K (tVar 1)) (gName 2) (tTest (tOp (rNeU w.K) (tToldG w.K q_law_plain w.e_VatError "VatError" 2 LO (lts_law_plain w) 11 [some (.ref p), some (.ref c), none]) (tC (.str "VatError")))) (tC (.int 1)) [2]) [some (.ref p), some (.ref c), none] G (.lst ((fs.filter fun _ => false).map fun _ => .int 1)) := by
    refine ev_lc (α := Addr) (xs := fs) (enc := .obj) (p := fun _ => false) (f := fun _ => .int 1) (Bd := fun f M1 G1 σ2 => σ2 = [some (.ref p), some (.ref c), some (.ref f)]) s3.wf (src_list (ev_var rfl dl)) (by omega) (fun f _ M1 G1 u _ _ du Q' k => by rw [du.objR]; exact k _ rfl) (fun f M1 G1 σ2 e => by rw [e]; rfl) (fun f hf M1 G1 σ2 pu le w1 e => ?_) fun f _ z => by cases z
    subst e
    obtain ⟨k, c', hk, h1, h2⟩ := hfs3 f hf
    have et : Ev w.K w.T M1 (tToldG w.K q_law_plain w.e_VatError "VatError" 2 LO (lts_law_plain w) 11 [some (.ref p), some (.ref c), none]) [some (.ref p), some (.ref c), some (.ref f)] G1 (.str "VatError") := fun G2 p2 Q2 q2 =>
      ⟨k, f, c', hk, rfl, p2.at (pu.at h1 (hx _ _ _)) (hx _ _ _), p2.at (pu.at h2), lam_bad ((s3.pu pu).pu p2) rfl (fun G3 p3 => ⟨true, ex, fun _ => q2 _ G3 p3 (.str _), fun z => by cases z⟩) k hk⟩
    have rI := rv_neS (K := w.K) (T := w.T) (M := M1) (H := G1) (i := "VatError") (j := "VatError")
    rw [show (!decide (("VatError" : Str) = "VatError")) = false by simp] at rI
    exact et_test (ev_op et ev_str rI)
  have eF : ((fs.filter fun _ => false).map fun _ => (.int 1 : Dt)) = [] := by simp
  rw [eF] at elc
  have r1 := rv_neP (K := w.K) (T := w.T) (M := [p, d]) (H := G) (x := .lst []) (y := .lst []) rfl rfl
  rw [show (!Dt.eqv (.lst []) (.lst [])) = false by rfl] at r1
  refine st_seq (if_ (or_ ((et_test (ev_op elc (ev_lst s3.wf ea_nil (by decide)) r1)).run fun G1 q1 => ?_)))
  have s4 := s3.pu q1
  have r2 := rv_neI (K := w.K) (T := w.T) (M := [p, d]) (H := G1) (i := 200) (j := 200)
  rw [show (!decide ((200 : Int) = 200)) = false by rfl] at r2
  refine or_ ((et_test (ev_op ev_int ev_int r2)).run fun G2 q2 => ?_)
  have s5 := s4.pu q2
  refine test_ (op_ (vdeed (is := []) s5 e0 ea_nil rfl (by decide) vk0 ⟨rfl, by decide⟩ (fun z => z.elim) fun _ u G3 s6 du => ?_))
  have du0 : Dy.D w.K [p, d] G3 u (.int 0) := du
  refine op_rest (T := w.T) du0 ev_int rv_neI fun u2 G4 q4 du2 => ⟨false, by rw [du2.blR]; rfl, iteF ?_⟩
  have s7 : Vst w H [p, d] G4 p d v1 := s6.pu q4
  have vk1 : VOk v1 := ⟨fun z => absurd rfl z, by decide, fun r hr => by
    have e : v1.diary = [] := rfl
    rw [e] at hr
    cases hr⟩
  dsimp only [tNext]
  refine st_seq (drop_ (vdeed (is := [5]) s7 e0 (ea_cons ev_int ea_nil) rfl (by decide) vk1 ⟨⟨5, rfl⟩, by decide, by decide, by decide⟩ (fun z => absurd z (by unfold badPut; decide)) fun _ u3 G5 s8 du3 => ?_))
  have s8 : Vst w H [p, d] G5 p d v2 := s8
  have vk2 : VOk v2 := ⟨fun _ => ⟨_, rfl⟩, by decide, by decide⟩
  have vk3 : VOk v3 := ⟨fun _ => ⟨_, rfl⟩, by decide, by decide⟩
  have vk4 : VOk v4 := ⟨fun _ => ⟨_, rfl⟩, by decide, by decide⟩
  refine ret_ (andV_ (op_ (lst_ (cons_ (vdeed (is := []) s8 e0 ea_nil rfl (by decide) vk2 ⟨rfl, by decide⟩ (fun z => z.elim) fun _ u4 G6 s9 du4 => cons_ (vdeed (is := []) (v := v3) s9 e0 ea_nil rfl (by decide) vk3 ⟨rfl, by decide⟩ (fun z => z.elim) fun _ u5 G7 s10 du5 => nil_ ⟨by show 2 ≤ sizeLine; decide, fun c2 hc2 => ?_⟩))))))
  have du4 : Dy.D w.K [p, d] G6 u4 (.int 10) := du4
  have du5 : Dy.D w.K [p, d] G7 u5 (.int 9) := du5
  rw [du4.intR, du5.intR]
  have s10 : Vst w H [p, d] G7 p d v4 := s10
  have hc2M := s10.wf.fresh hc2
  have s11 := s10.pu (Pu.new (o := .lst [.int 10, .int 9]) hc2)
  have d11 : Dy.D w.K [p, d] (upd G7 c2 (.lst [.int 10, .int 9])) (.ref c2) (.lst [.int 10, .int 9]) := .lst hc2M upd_same (.cons (.int _) (.cons (.int _) .nil))
  refine op_rest (T := w.T) d11 (ev_lst s11.wf (ea_cons ev_int (ea_cons ev_int ea_nil)) (by decide)) (rv_eqP rfl rfl) fun u6 G8 q8 du6 => ⟨true, by rw [du6.blR]; rfl, iteT' ?_⟩
  have s12 := s11.pu q8
  refine andV_ (op_ (vdeed (is := []) s12 e0 ea_nil rfl (by decide) vk4 ⟨rfl, by decide⟩ (fun z => absurd z (by show ¬ v4.cloth = 0; decide)) fun _ u7 G9 s13 du7 => ?_))
  have du7 : Dy.D w.K [p, d] G9 u7 (.tup [.int 5, .int 19]) := du7
  refine op_rest (T := w.T) du7 (ev_tup (ea_cons ev_int (ea_cons ev_int ea_nil)) (by decide)) (rv_eqP rfl rfl) fun u8 G10 q10 du8 => ⟨true, by rw [du8.blR]; rfl, iteT' ?_⟩
  have s14 := s13.pu q10
  obtain ⟨dx', rows, a1, a2, rr⟩ := s14.vat
  have ev : Ev w.K w.T [] (tVar 0) [some (.ref p), some (.ref c), none] G10 (vatD w (outM v4)) := ev_var rfl (vatD_of a1 a2 rr)
  have eD : (Dt.lst ((outM v4).diary.map rowD)).ok = true := by kernel_rfl
  have wN : Wf w.T [] G10 := s14.wf.nil
  have el : Ev w.K w.T [] (tLst (tCons (tTup (tCons (tC (.int 1)) (tCons (tC (.str "put")) (tCons (tC (.int 5)) tNil)))) (tCons (tTup (tCons (tC (.int 1)) (tCons (tC (.str "takes")) (tCons (tC (.int 10)) tNil)))) (tCons (tTup (tCons (tC (.int 2)) (tCons (tC (.str "takes")) (tCons (tC (.int 9)) tNil)))) (tCons (tTup (tCons (tC (.int 3)) (tCons (tC (.str "out")) (tCons (tC (.int 5)) tNil)))) tNil))))) [some (.ref p), some (.ref c), none] G10
      (.lst [.tup [.int 1, .str "put", .int 5], .tup [.int 1, .str "takes", .int 10], .tup [.int 2, .str "takes", .int 9], .tup [.int 3, .str "out", .int 5]]) :=
    ev_lst wN (ea_cons (ev_tup (ea_cons ev_int (ea_cons ev_str (ea_cons ev_int ea_nil))) (by decide)) (ea_cons (ev_tup (ea_cons ev_int (ea_cons ev_str (ea_cons ev_int ea_nil))) (by decide)) (ea_cons (ev_tup (ea_cons ev_int (ea_cons ev_str (ea_cons ev_int ea_nil))) (by decide)) (ea_cons (ev_tup (ea_cons ev_int (ea_cons ev_str (ea_cons ev_int ea_nil))) (by decide)) ea_nil)))) (by decide)
  refine (ev_and (ev_op (vat_fld (f := "diary") g ev (by decide) rfl) el (rv_eqP eD (by kernel_rfl))) fun _ => ev_op (vat_fld (f := "pounds") g ev (by decide) rfl) ev_int rv_eqI).run fun u9 G11 q11 du9 => ?_
  have e9 : ((Dt.lst ((outM v4).diary.map rowD)).eqv (.lst [.tup [.int 1, .str "put", .int 5], .tup [.int 1, .str "takes", .int 10], .tup [.int 2, .str "takes", .int 9], .tup [.int 3, .str "out", .int 5]]) && decide ((outM v4).pounds = 10)) = true := by kernel_rfl
  rw [e9] at du9
  rw [du9.blR]
  exact q _ _ ((s14.le.app q11).drop (by simp)) (.bl true)
end
end K3

/-! text K6 -/
namespace K3
open Dy L2 PyProof.Rows PySem.Spec PySem
def df_Vat_init : He.DefD := ⟨("Vat", some "__init__"), "__init__", "Vat.__init__", defArgs s_Vat_init, defBody s_Vat_init, defScope s_Vat_init, [], []⟩
def df_Vat_takes : He.DefD := ⟨("Vat", some "takes"), "takes", "Vat.takes", defArgs s_Vat_takes, defBody s_Vat_takes, defScope s_Vat_takes, [], []⟩
def df_Vat_in_cloth : He.DefD := ⟨("Vat", some "in_cloth"), "in_cloth", "Vat.in_cloth", defArgs s_Vat_in_cloth, defBody s_Vat_in_cloth, defScope s_Vat_in_cloth, [], []⟩
def df_Vat_put : He.DefD := ⟨("Vat", some "put"), "put", "Vat.put", defArgs s_Vat_put, defBody s_Vat_put, defScope s_Vat_put, [], []⟩
def df_Vat_take_out : He.DefD := ⟨("Vat", some "take_out"), "take_out", "Vat.take_out", defArgs s_Vat_take_out, defBody s_Vat_take_out, defScope s_Vat_take_out, [], []⟩
def df_Vat_fill : He.DefD := ⟨("Vat", some "fill"), "fill", "Vat.fill", defArgs s_Vat_fill, defBody s_Vat_fill, defScope s_Vat_fill, [], []⟩
def df_Vat_heat : He.DefD := ⟨("Vat", some "heat"), "heat", "Vat.heat", defArgs s_Vat_heat, defBody s_Vat_heat, defScope s_Vat_heat, [], []⟩
def df_Vat_go_hour : He.DefD := ⟨("Vat", some "go_hour"), "go_hour", "Vat.go_hour", defArgs s_Vat_go_hour, defBody s_Vat_go_hour, defScope s_Vat_go_hour, [], []⟩
def df_Vat_hours_for : He.DefD := ⟨("Vat", some "hours_for"), "hours_for", "Vat.hours_for", defArgs s_Vat_hours_for, defBody s_Vat_hours_for, defScope s_Vat_hours_for, [], []⟩
def df_Vat_used : He.DefD := ⟨("Vat", some "used"), "used", "Vat.used", defArgs s_Vat_used, defBody s_Vat_used, defScope s_Vat_used, [], []⟩
def df_vats_for : He.DefD := ⟨("vats_for", none), "vats_for", "vats_for", defArgs s_vats_for, defBody s_vats_for, defScope s_vats_for, [], []⟩
def df_law_dice : He.DefD := ⟨("_law_dice", none), "_law_dice", "_law_dice", defArgs s_law_dice, defBody s_law_dice, defScope s_law_dice, [], []⟩
def df_law_roll : He.DefD := ⟨("_law_roll", none), "_law_roll", "_law_roll", defArgs s_law_roll, defBody s_law_roll, defScope s_law_roll, [], []⟩
def df_law_rounds : He.DefD := ⟨("_law_rounds", none), "_law_rounds", "_law_rounds", defArgs s_law_rounds, defBody s_law_rounds, defScope s_law_rounds, [], []⟩
def df_law_told : He.DefD := ⟨("_law_told", none), "_law_told", "_law_told", defArgs s_law_told, defBody s_law_told, defScope s_law_told, [], []⟩
def df_law_hour : He.DefD := ⟨("_law_hour", none), "_law_hour", "_law_hour", defArgs s_law_hour, defBody s_law_hour, defScope s_law_hour, [], []⟩
def df_law_plain : He.DefD := ⟨("_law_plain", none), "_law_plain", "_law_plain", defArgs s_law_plain, defBody s_law_plain, defScope s_law_plain, [], []⟩
def df_law : He.DefD := ⟨("law", none), "law", "law", defArgs s_law, defBody s_law, defScope s_law, [], []⟩
def fn : List He.DefD := [df_Vat_init, df_Vat_takes, df_Vat_in_cloth, df_Vat_put, df_Vat_take_out, df_Vat_fill, df_Vat_heat, df_Vat_go_hour, df_Vat_hours_for, df_Vat_used, df_vats_for, df_law_dice, df_law_roll, df_law_rounds, df_law_told, df_law_hour, df_law_plain, df_law]
def fa : List He.Fa := [.glo "vats_for", .glo "_law_dice", .glo "_law_roll", .glo "_law_rounds", .glo "_law_told", .glo "_law_hour", .glo "_law_plain", .glo "law", .glo "Vat", .glo "VatError", .free "abs", .free "dict", .free "int", .free "len", .free "list", .free "max", .free "min", .free "range", .free "sorted", .free "sum", .int "MOST_POUNDS" 200, .cls "Vat", .noat "Vat" "pounds", .noat "Vat" "dye", .noat "Vat" "warm", .noat "Vat" "cloth", .noat "Vat" "since", .noat "Vat" "hour", .noat "Vat" "diary", .mkr "Vat", .meth "Vat" "takes", .meth "Vat" "in_cloth", .meth "Vat" "put", .meth "Vat" "take_out", .meth "Vat" "fill", .meth "Vat" "heat", .meth "Vat" "go_hour", .meth "Vat" "hours_for", .meth "Vat" "used", .exc "VatError", .exm "VatError" "VatError" true]
def tf : List He.Defn := [("Vat", some "in_cloth"), ("Vat", some "used"), ("vats_for", none), ("law", none), ("_law_plain", none)]
def exB (K : PySem.W.Frag) : Bool := decide ((tf.map fun p => (He.cT K p).2).Nodup)
abbrev R : PySem.W.OpenRow := PySem.W.OpenLaw.row PySem.Challenge.rw_dyestack_k03_vats_that_weaken
abbrev hk : PySem.W.Hook := He.hookX 5 fa fn [] tf exB
def ob (s : PySem.W.SharedT) : He.AlX := He.obsX 5 fa fn [] tf exB (HandSHeadRun.getT s)
theorem ob_eq (s : PySem.W.SharedT) : ob s = hk.obs s.abs := He.obsX_eq (HandSHeadRun.getT_eq s)
def loose : List Str := ["DyeError", "VatError", "MOST_POUNDS", "Vat", "vats_for", "_law_dice", "_law_roll", "_law_rounds", "_law_told", "_law_hour", "_law_plain"]
theorem run (w : World) : HandSHeadRun.RunEq R (PySem.W.view R.prog [14]) hk ob 3000 loose w := by
  intro os
  kernel_rfl
end K3

/-! text K5 -/
namespace K3
open Dy L2 PyProof.Rows PySem.Spec PySem
/-- a def whose code object is known -/
theorem okT {P : Program} {w0 : World} {K : PySem.W.Frag} {mg : Str → Option Value} {base : Heap} {x qual : Str} {params : Arguments} {body : List Stmt} {scope : Scope} {f c : Addr} {fd : FuncData} {CX : CXT} {N ps : List Str} {k : Nat} {sp : Sp} {pth : He.Defn} (F : FunD K x qual params body scope [] [] f fd) (hf : f = He.fAd K pth) (hc : c = He.codeOf K pth) (S : FnScope N ps scope)
    (len
            : ∀ vs H Q E, sp vs H Q E → vs.length = ps.length)
    (hbody : ∀ (A : Around) (outer : List Env) (s : Shared) (H : Hp) (vs : List V) (Q : VK) (E : XK), Room k (A.deeper (envOfC qual scope s.heap.objs.size f (.ref c))) → sp vs H Q E →
      ∃ t, PSs (cxOf CX P w0 K mg base N qual scope f (.ref c) A outer s H E) body t ∧ t { nx := fun _ H' => Q .non H', rt := Q } (start N vs) H) : FnOk P w0 K mg base CX (k + 1) f fd ps sp := by
  obtain
          ⟨oc, od, dV, kV, doc, pm, an, cdv, ct, osl, rfl, lk, hcd, _, _⟩ := F.ex
  obtain ⟨c', rfl⟩ := He.codeIn_ref hcd
  have e : He.codeOf K pth = c' := He.codeOf_eq (hf ▸ lk) rfl
  rw [e] at hc
  subst hc
  exact fn_of lk hcd S len fun A outer s H vs Q E hr hsp => hbody A outer s H vs Q E hr hsp
section
variable {P : Program} {w0 : World} {mg : Str → Option Value} {base : Heap} {w : Wk} {a : Ad}
theorem ok_Vat_init (G : Fx mg base w a) : FnOk P w0 w.K mg base (L2.CX P w0) 1 a.a_Vat_init a.f_Vat_init ["self", "pounds", "dye", "warm"] (sp_Vat_init w) :=
  G.F_Vat_init.ok sc_Vat_init (fun vs H Q E h => (by obtain ⟨_, _, _, _, _, _, rfl, _⟩ := h; rfl)) fun cdv A outer s H vs Q E hr h => ⟨t_Vat_init w E, d_Vat_init G  hr, pure_init G.wf vs Q E h⟩
theorem ok_Vat_in_cloth (G : Fx mg base w a) : FnOk P w0 w.K mg base (L2.CX P w0) 4 a.a_Vat_in_cloth a.f_Vat_in_cloth ["self"] (sp_Vat_in_cloth w) :=
  okT (pth := ("Vat", some "in_cloth")) G.F_Vat_in_cloth G.at_Vat_in_cloth G.kc_Vat_in_cloth sc_Vat_in_cloth (fun vs H Q E h => spD_len _ _ _ _ h) fun A outer s H vs Q E hr h => ⟨t_Vat_in_cloth w E, d_Vat_in_cloth G  (cdv := .none) hr, pure_in_cloth G.wf vs Q E h⟩
theorem ok_Vat_takes (G : Fx mg base w a) : FnOk P w0 w.K mg base (L2.CX P w0) 5 a.a_Vat_takes a.f_Vat_takes ["self"] (sp_Vat_takes w) :=
  G.F_Vat_takes.ok sc_Vat_takes (fun vs H Q E h => spD_len _ _ _ _ h) fun cdv A outer s H vs Q E hr h => ⟨t_Vat_takes w E, d_Vat_takes G (ok_Vat_in_cloth G) hr, pure_takes G.wf vs Q E h⟩
theorem ok_Vat_put (G : Fx mg base w a) : FnOk P w0 w.K mg base (L2.CX P w0) 1 a.a_Vat_put a.f_Vat_put ["self", "pounds"] (sp_Vat_put w) :=
  G.F_Vat_put.ok sc_Vat_put (fun vs H Q E h => (by obtain ⟨_, _, _, _, _, _, hl, _⟩ := h; exact hl)) fun cdv A outer s H vs Q E hr h => ⟨t_Vat_put w E, d_Vat_put G  hr, pure_put G.wf vs Q E h⟩
theorem ok_Vat_take_out (G : Fx mg base w a) : FnOk P w0 w.K mg base (L2.CX P w0) 5 a.a_Vat_take_out a.f_Vat_take_out ["self"] (sp_Vat_take_out w) :=
  G.F_Vat_take_out.ok sc_Vat_take_out (fun vs H Q E h => (by obtain ⟨_, _, _, _, _, _, hl, _⟩ := h; exact hl)) fun cdv A outer s H vs Q E hr h => ⟨t_Vat_take_out w E, d_Vat_take_out G (ok_Vat_in_cloth G) hr, pure_take_out G.wf vs Q E h⟩
theorem ok_Vat_fill (G : Fx mg base w a) : FnOk P w0 w.K mg base (L2.CX P w0) 1 a.a_Vat_fill a.f_Vat_fill ["self", "ounces"] (sp_Vat_fill w) :=
  G.F_Vat_fill.ok sc_Vat_fill (fun vs H Q E h => (by obtain ⟨_, _, _, _, _, _, hl, _⟩ := h; exact hl)) fun cdv A outer s H vs Q E hr h => ⟨t_Vat_fill w E, d_Vat_fill G  hr, pure_fill G.wf vs Q E h⟩
theorem ok_Vat_heat (G : Fx mg base w a) : FnOk P w0 w.K mg base (L2.CX P w0) 1 a.a_Vat_heat a.f_Vat_heat ["self", "degrees"] (sp_Vat_heat w) :=
  G.F_Vat_heat.ok sc_Vat_heat (fun vs H Q E h => (by obtain ⟨_, _, _, _, _, _, hl, _⟩ := h; exact hl)) fun cdv A outer s H vs Q E hr h => ⟨t_Vat_heat w E, d_Vat_heat G  hr, pure_heat G.wf vs Q E h⟩
theorem ok_Vat_go_hour (G : Fx mg base w a) : FnOk P w0 w.K mg base (L2.CX P w0) 6 a.a_Vat_go_hour a.f_Vat_go_hour ["self"] (sp_Vat_go_hour w) :=
  G.F_Vat_go_hour.ok sc_Vat_go_hour (fun vs H Q E h => (by obtain ⟨_, _, _, _, _, _, hl, _⟩ := h; exact hl)) fun cdv A outer s H vs Q E hr h => ⟨t_Vat_go_hour w E, d_Vat_go_hour G (ok_Vat_takes G) hr, pure_go_hour G.wf vs Q E h⟩
theorem ok_Vat_hours_for (G : Fx mg base w a) : FnOk P w0 w.K mg base (L2.CX P w0) 6 a.a_Vat_hours_for a.f_Vat_hours_for ["self", "ounces"] (sp_Vat_hours_for w) :=
  G.F_Vat_hours_for.ok sc_Vat_hours_for (fun vs H Q E h => spE_len _ _ _ _ h) fun cdv A outer s H vs Q E hr h => ⟨t_Vat_hours_for w E, d_Vat_hours_for G (ok_Vat_init G) (ok_Vat_takes G) (ok_Vat_in_cloth G) hr, pure_hours_for G.wf vs Q E h⟩
theorem ok_Vat_used (G : Fx mg base w a) : FnOk P w0 w.K mg base (L2.CX P w0) 4 a.a_Vat_used a.f_Vat_used ["self"] (sp_Vat_used w) :=
  okT (pth := ("Vat", some "used")) G.F_Vat_used G.at_Vat_used G.kc_Vat_used sc_Vat_used (fun vs H Q E h => spD_len _ _ _ _ h) fun A outer s H vs Q E hr h => ⟨t_Vat_used w E, d_Vat_used G  (cdv := .none) hr, pure_used G.wf vs Q E h⟩
theorem ok_vats_for (G : Fx mg base w a) : FnOk P w0 w.K mg base (L2.CX P w0) 4 a.a_vats_for a.f_vats_for ["pounds", "sizes"] (sp_vats_for w) :=
  okT (pth := ("vats_for", none)) G.F_vats_for G.at_vats_for G.kc_vats_for sc_vats_for (fun vs H Q E h => spE_len _ _ _ _ h) fun A outer s H vs Q E hr h => ⟨t_vats_for w E, d_vats_for G  (cdv := .none) hr, pure_vats_for G.wf vs Q E h⟩
theorem ok_law_dice (G : Fx mg base w a) : FnOk P w0 w.K mg base (L2.CX P w0) 1 a.a_law_dice a.f_law_dice ["cell"] (sp_law_dice w) :=
  G.F_law_dice.ok sc_law_dice (fun vs H Q E h => spD_len _ _ _ _ h) fun cdv A outer s H vs Q E hr h => ⟨t_law_dice w E, d_law_dice G  hr, pure_law_dice vs Q E h⟩
theorem ok_law_roll (G : Fx mg base w a) : FnOk P w0 w.K mg base (L2.CX P w0) 1 a.a_law_roll a.f_law_roll ["dice", "many"] (sp_law_roll w) :=
  G.F_law_roll.ok sc_law_roll (fun vs H Q E h => (by obtain ⟨_, _, _, _, _, rfl, _⟩ := h; rfl)) fun cdv A outer s H vs Q E hr h => ⟨t_law_roll w E, d_law_roll G  hr, pure_law_roll vs Q E h⟩
theorem ok_law_rounds (G : Fx mg base w a) : FnOk P w0 w.K mg base (L2.CX P w0) 2 a.a_law_rounds a.f_law_rounds ["script", "most"] (sp_law_rounds w) :=
  G.F_law_rounds.ok sc_law_rounds (fun vs H Q E h => (by obtain ⟨_, _, _, rfl, _⟩ := h; rfl)) fun cdv A outer s H vs Q E hr h => ⟨t_law_rounds w E, d_law_rounds G (ok_law_dice G) hr, pure_law_rounds vs Q E h⟩
theorem ok_law_hour (G : Fx mg base w a) : FnOk P w0 w.K mg base (L2.CX P w0) 1 a.a_law_hour a.f_law_hour ["own"] (sp_law_hour w) :=
  G.F_law_hour.ok sc_law_hour (fun vs H Q E h => (by obtain ⟨_, _, rfl, _⟩ := h; rfl)) fun cdv A outer s H vs Q E hr h => ⟨t_law_hour w E, d_law_hour G  hr, pure_law_hour vs Q E h⟩
theorem ok_law_plain (G : Fx mg base w a) : FnOk P w0 w.K mg base (L2.CX P w0) 9 a.a_law_plain a.f_law_plain [] (sp_law_plain w) :=
  okT (pth := ("_law_plain", none)) G.F_law_plain G.at_law_plain G.kc_law_plain sc_law_plain (fun vs H Q E h => spD_len _ _ _ _ h) fun A outer s H vs Q E hr h => let ⟨LO, hx, d⟩ := d_law_plain G (ok_Vat_init G) (ok_Vat_put G) (ok_Vat_take_out G) (ok_Vat_go_hour G) (ok_Vat_hours_for G) (ok_vats_for G) (cdv := .none) (P := P) (w0 := w0) (A := A) (outer := outer) (s := s) (H := H) (E := E) hr; ⟨t_law_plain w E LO, d, pure_law_plain G.wf G.exm hx vs Q h⟩
theorem ok_law (G : Fx mg base w a) : FnOk P w0 w.K mg base (L2.CX P w0) 12 a.a_law a.f_law ["script"] (sp_law w) :=
  okT (pth := ("law", none)) G.F_law G.at_law G.kc_law sc_law (fun vs H Q E h => (by obtain ⟨_, _, rfl, _⟩ := h; rfl)) fun A outer s H vs Q E hr h => let ⟨LO, hx, d⟩ := d_law G (ok_Vat_init G) (ok_Vat_takes G) (ok_Vat_in_cloth G) (ok_Vat_put G) (ok_Vat_take_out G) (ok_Vat_fill G) (ok_Vat_heat G) (ok_Vat_go_hour G) (ok_Vat_hours_for G) (ok_Vat_used G) (ok_vats_for G) (ok_law_roll G) (ok_law_rounds G) (ok_law_hour G) (ok_law_plain G) (cdv := .none) (P := P) (w0 := w0) (A := A) (outer := outer) (s := s) (H := H) (E := E) hr; ⟨t_law w E LO, d, pure_law G.wf G.exm vs Q h⟩
end
def wk (K : PySem.W.Frag) : Wk := ⟨K, He.ga K "Vat", He.ga K "VatError", (He.cT K ("Vat", some "in_cloth")).2, (He.cT K ("Vat", some "used")).2, (He.cT K ("vats_for", none)).2, (He.cT K ("law", none)).2, (He.cT K ("_law_plain", none)).2⟩
theorem fx {K : PySem.W.Frag} {w0 : World} {h : Heap} {mg : Str → Option Value} (X : K.In h) (G : h.Ns mainGlobals mg) (c : He.SaysX fa fn [] tf exB w0 h K) : ∃ a : Ad, a.a_law = He.ga K "law" ∧ (∀ (s : Shared) (v : Value), BindsTo s a.f_law ⟨[v], []⟩ [("script", v)]) ∧ ∀ base : Heap, (∀ p ∈ tf.map (He.cT K), LamX.TabB base mg p.1 p.2) → Fx mg base (wk K) a := by
  obtain ⟨fd_Vat_init, F_Vat_init⟩ := c.t.d.def_ 0 (d := df_Vat_init) rfl
  obtain ⟨fd_Vat_takes, F_Vat_takes⟩ := c.t.d.def_ 1 (d := df_Vat_takes) rfl
  obtain ⟨fd_Vat_in_cloth, F_Vat_in_cloth⟩ := c.t.d.def_ 2 (d := df_Vat_in_cloth) rfl
  obtain ⟨fd_Vat_put, F_Vat_put⟩ := c.t.d.def_ 3 (d := df_Vat_put) rfl
  obtain ⟨fd_Vat_take_out, F_Vat_take_out⟩ := c.t.d.def_ 4 (d := df_Vat_take_out) rfl
  obtain ⟨fd_Vat_fill, F_Vat_fill⟩ := c.t.d.def_ 5 (d := df_Vat_fill) rfl
  obtain ⟨fd_Vat_heat, F_Vat_heat⟩ := c.t.d.def_ 6 (d := df_Vat_heat) rfl
  obtain ⟨fd_Vat_go_hour, F_Vat_go_hour⟩ := c.t.d.def_ 7 (d := df_Vat_go_hour) rfl
  obtain ⟨fd_Vat_hours_for, F_Vat_hours_for⟩ := c.t.d.def_ 8 (d := df_Vat_hours_for) rfl
  obtain ⟨fd_Vat_used, F_Vat_used⟩ := c.t.d.def_ 9 (d := df_Vat_used) rfl
  obtain ⟨fd_vats_for, F_vats_for⟩ := c.t.d.def_ 10 (d := df_vats_for) rfl
  obtain ⟨fd_law_dice, F_law_dice⟩ := c.t.d.def_ 11 (d := df_law_dice) rfl
  obtain ⟨fd_law_roll, F_law_roll⟩ := c.t.d.def_ 12 (d := df_law_roll) rfl
  obtain ⟨fd_law_rounds, F_law_rounds⟩ := c.t.d.def_ 13 (d := df_law_rounds) rfl
  obtain ⟨fd_law_told, F_law_told⟩ := c.t.d.def_ 14 (d := df_law_told) rfl
  obtain ⟨fd_law_hour, F_law_hour⟩ := c.t.d.def_ 15 (d := df_law_hour) rfl
  obtain ⟨fd_law_plain, F_law_plain⟩ := c.t.d.def_ 16 (d := df_law_plain) rfl
  obtain ⟨fd_law, F_law⟩ := c.t.d.def_ 17 (d := df_law) rfl
  have nd : (tf.map fun p => (He.cT K p).2).Nodup := of_decide_eq_true c.more
  refine ⟨⟨He.fAd K ("Vat", some "__init__"), fd_Vat_init, He.fAd K ("Vat", some "takes"), fd_Vat_takes, He.fAd K ("Vat", some "in_cloth"), fd_Vat_in_cloth, He.fAd K ("Vat", some "put"), fd_Vat_put, He.fAd K ("Vat", some "take_out"), fd_Vat_take_out, He.fAd K ("Vat", some "fill"), fd_Vat_fill, He.fAd K ("Vat", some "heat"), fd_Vat_heat, He.fAd K ("Vat", some "go_hour"), fd_Vat_go_hour, He.fAd K ("Vat", some "hours_for"), fd_Vat_hours_for, He.fAd K ("Vat", some "used"), fd_Vat_used, He.fAd K ("vats_for", none), fd_vats_for, He.fAd K ("_law_dice", none), fd_law_dice, He.fAd K ("_law_roll", none), fd_law_roll, He.fAd K ("_law_rounds", none), fd_law_rounds, He.fAd K ("_law_told", none), fd_law_told, He.fAd K ("_law_hour", none), fd_law_hour, He.fAd K ("_law_plain", none), fd_law_plain, He.fAd K ("law", none), fd_law, He.codeOf K ("Vat", some "in_cloth"), He.codeOf K ("Vat", some "used"), He.codeOf K ("vats_for", none), He.codeOf K ("_law_plain", none), He.codeOf K ("law", none)⟩, rfl, fun s v => FunD.bindsA (ps := ["script"]) F_law (fun _ _ _ _ _ _ us hl => match us, hl with | [_], _ => rfl) s [v] rfl, fun base tb => ?_⟩
  have wf : Wf3 (wk K) := ⟨nd, He.cls_ok (c.t.d.fact 21 (f := .cls "Vat") rfl), fun f hf => by
    simp only [List.mem_cons, List.mem_nil_iff, or_false] at hf
    rcases hf with rfl | rfl | rfl | rfl | rfl | rfl | rfl
    · exact He.noat_ok (c.t.d.fact 22 (f := .noat "Vat" "pounds") rfl)
    · exact He.noat_ok (c.t.d.fact 23 (f := .noat "Vat" "dye") rfl)
    · exact He.noat_ok (c.t.d.fact 24 (f := .noat "Vat" "warm") rfl)
    · exact He.noat_ok (c.t.d.fact 25 (f := .noat "Vat" "cloth") rfl)
    · exact He.noat_ok (c.t.d.fact 26 (f := .noat "Vat" "since") rfl)
    · exact He.noat_ok (c.t.d.fact 27 (f := .noat "Vat" "hour") rfl)
    · exact He.noat_ok (c.t.d.fact 28 (f := .noat "Vat" "diary") rfl)⟩
  have b_Vat_init : Binds K fd_Vat_init ["self", "pounds", "dye", "warm"] [] := FunD.bindsN F_Vat_init fun _ _ _ _ _ _ us hl => match us, hl with | [_, _, _, _], _ => rfl
  have b_Vat_takes : Binds K fd_Vat_takes ["self"] [] := FunD.bindsN F_Vat_takes fun _ _ _ _ _ _ us hl => match us, hl with | [_], _ => rfl
  have b_Vat_in_cloth : Binds K fd_Vat_in_cloth ["self"] [] := FunD.bindsN F_Vat_in_cloth fun _ _ _ _ _ _ us hl => match us, hl with | [_], _ => rfl
  have b_Vat_put : Binds K fd_Vat_put ["self", "pounds"] [] := FunD.bindsN F_Vat_put fun _ _ _ _ _ _ us hl => match us, hl with | [_, _], _ => rfl
  have b_Vat_take_out : Binds K fd_Vat_take_out ["self"] [] := FunD.bindsN F_Vat_take_out fun _ _ _ _ _ _ us hl => match us, hl with | [_], _ => rfl
  have b_Vat_fill : Binds K fd_Vat_fill ["self", "ounces"] [] := FunD.bindsN F_Vat_fill fun _ _ _ _ _ _ us hl => match us, hl with | [_, _], _ => rfl
  have b_Vat_heat : Binds K fd_Vat_heat ["self", "degrees"] [] := FunD.bindsN F_Vat_heat fun _ _ _ _ _ _ us hl => match us, hl with | [_, _], _ => rfl
  have b_Vat_go_hour : Binds K fd_Vat_go_hour ["self"] [] := FunD.bindsN F_Vat_go_hour fun _ _ _ _ _ _ us hl => match us, hl with | [_], _ => rfl
  have b_Vat_hours_for : Binds K fd_Vat_hours_for ["self", "ounces"] [] := FunD.bindsN F_Vat_hours_for fun _ _ _ _ _ _ us hl => match us, hl with | [_, _], _ => rfl
  have b_Vat_used : Binds K fd_Vat_used ["self"] [] := FunD.bindsN F_Vat_used fun _ _ _ _ _ _ us hl => match us, hl with | [_], _ => rfl
  have b_vats_for : Binds K fd_vats_for ["pounds", "sizes"] [] := FunD.bindsN F_vats_for fun _ _ _ _ _ _ us hl => match us, hl with | [_, _], _ => rfl
  have b_law_dice : Binds K fd_law_dice ["cell"] [] := FunD.bindsN F_law_dice fun _ _ _ _ _ _ us hl => match us, hl with | [_], _ => rfl
  have b_law_roll : Binds K fd_law_roll ["dice", "many"] [] := FunD.bindsN F_law_roll fun _ _ _ _ _ _ us hl => match us, hl with | [_, _], _ => rfl
  have b_law_rounds : Binds K fd_law_rounds ["script", "most"] [] := FunD.bindsN F_law_rounds fun _ _ _ _ _ _ us hl => match us, hl with | [_, _], _ => rfl
  have b_law_told : Binds K fd_law_told ["what"] [] := FunD.bindsN F_law_told fun _ _ _ _ _ _ us hl => match us, hl with | [_], _ => rfl
  have b_law_hour : Binds K fd_law_hour ["own"] [] := FunD.bindsN F_law_hour fun _ _ _ _ _ _ us hl => match us, hl with | [_], _ => rfl
  have b_law_plain : Binds K fd_law_plain [] [] := FunD.bindsN F_law_plain fun _ _ _ _ _ _ us hl => match us, hl with | [], _ => rfl
  have b_law : Binds K fd_law ["script"] [] := FunD.bindsN F_law fun _ _ _ _ _ _ us hl => match us, hl with | [_], _ => rfl
  exact {
    wf := wf
    i_MOST_POUNDS := let ⟨t, e⟩ := He.int_ok X G (c.t.d.fact 20 (f := .int "MOST_POUNDS" 200) rfl); ⟨_, e, ⟨t, rfl⟩⟩
    n_abs := He.free_ok X G (c.t.d.fact 10 (f := .free "abs") rfl)
    n_dict := He.free_ok X G (c.t.d.fact 11 (f := .free "dict") rfl)
    n_int := He.free_ok X G (c.t.d.fact 12 (f := .free "int") rfl)
    n_len := He.free_ok X G (c.t.d.fact 13 (f := .free "len") rfl)
    n_list := He.free_ok X G (c.t.d.fact 14 (f := .free "list") rfl)
    n_max := He.free_ok X G (c.t.d.fact 15 (f := .free "max") rfl)
    n_min := He.free_ok X G (c.t.d.fact 16 (f := .free "min") rfl)
    n_range := He.free_ok X G (c.t.d.fact 17 (f := .free "range") rfl)
    n_sorted := He.free_ok X G (c.t.d.fact 18 (f := .free "sorted") rfl)
    n_sum := He.free_ok X G (c.t.d.fact 19 (f := .free "sum") rfl)
    told := ⟨He.glo_ok X G (c.t.d.fact 4 (f := .glo "_law_told") rfl), _, _, "what", "VatError", _, _, _, _, _, _, _, _, _, F_law_told, b_law_told, sc_law_told, rfl, .inl rfl, rfl, He.glo_ok X G (c.t.d.fact 9 (f := .glo "VatError") rfl), by decide, by decide, by decide⟩
    eg_VatError := He.glo_ok X G (c.t.d.fact 9 (f := .glo "VatError") rfl)
    ex_VatError := (He.exc_ok (c.t.d.fact 39 (f := .exc "VatError") rfl)).1
    ek_VatError := (He.exc_ok (c.t.d.fact 39 (f := .exc "VatError") rfl)).2.1
    eb_VatError := (He.exc_ok (c.t.d.fact 39 (f := .exc "VatError") rfl)).2.2.1
    et_VatError := (He.exc_ok (c.t.d.fact 39 (f := .exc "VatError") rfl)).2.2.2
    exm := He.exm_ok (c.t.d.fact 40 (f := .exm "VatError" "VatError" true) rfl)
    c_Vat := He.glo_ok X G (c.t.d.fact 8 (f := .glo "Vat") rfl)
    cls_Vat := He.cls_ok (c.t.d.fact 21 (f := .cls "Vat") rfl)
    m_Vat := He.mkr_ok (c.t.d.fact 29 (f := .mkr "Vat") rfl)
    F_Vat_init := F_Vat_init
    b_Vat_init := b_Vat_init
    F_Vat_takes := F_Vat_takes
    b_Vat_takes := b_Vat_takes
    meth_Vat_takes := He.meth_ok (c.t.d.fact 30 (f := .meth "Vat" "takes") rfl)
    F_Vat_in_cloth := F_Vat_in_cloth
    b_Vat_in_cloth := b_Vat_in_cloth
    meth_Vat_in_cloth := He.meth_ok (c.t.d.fact 31 (f := .meth "Vat" "in_cloth") rfl)
    F_Vat_put := F_Vat_put
    b_Vat_put := b_Vat_put
    meth_Vat_put := He.meth_ok (c.t.d.fact 32 (f := .meth "Vat" "put") rfl)
    F_Vat_take_out := F_Vat_take_out
    b_Vat_take_out := b_Vat_take_out
    meth_Vat_take_out := He.meth_ok (c.t.d.fact 33 (f := .meth "Vat" "take_out") rfl)
    F_Vat_fill := F_Vat_fill
    b_Vat_fill := b_Vat_fill
    meth_Vat_fill := He.meth_ok (c.t.d.fact 34 (f := .meth "Vat" "fill") rfl)
    F_Vat_heat := F_Vat_heat
    b_Vat_heat := b_Vat_heat
    meth_Vat_heat := He.meth_ok (c.t.d.fact 35 (f := .meth "Vat" "heat") rfl)
    F_Vat_go_hour := F_Vat_go_hour
    b_Vat_go_hour := b_Vat_go_hour
    meth_Vat_go_hour := He.meth_ok (c.t.d.fact 36 (f := .meth "Vat" "go_hour") rfl)
    F_Vat_hours_for := F_Vat_hours_for
    b_Vat_hours_for := b_Vat_hours_for
    meth_Vat_hours_for := He.meth_ok (c.t.d.fact 37 (f := .meth "Vat" "hours_for") rfl)
    F_Vat_used := F_Vat_used
    b_Vat_used := b_Vat_used
    meth_Vat_used := He.meth_ok (c.t.d.fact 38 (f := .meth "Vat" "used") rfl)
    F_vats_for := F_vats_for
    b_vats_for := b_vats_for
    g_vats_for := He.glo_ok X G (c.t.d.fact 0 (f := .glo "vats_for") rfl)
    k_vats_for := F_vats_for.kp
    F_law_dice := F_law_dice
    b_law_dice := b_law_dice
    g_law_dice := He.glo_ok X G (c.t.d.fact 1 (f := .glo "_law_dice") rfl)
    k_law_dice := F_law_dice.kp
    F_law_roll := F_law_roll
    b_law_roll := b_law_roll
    g_law_roll := He.glo_ok X G (c.t.d.fact 2 (f := .glo "_law_roll") rfl)
    k_law_roll := F_law_roll.kp
    F_law_rounds := F_law_rounds
    b_law_rounds := b_law_rounds
    g_law_rounds := He.glo_ok X G (c.t.d.fact 3 (f := .glo "_law_rounds") rfl)
    k_law_rounds := F_law_rounds.kp
    F_law_told := F_law_told
    b_law_told := b_law_told
    g_law_told := He.glo_ok X G (c.t.d.fact 4 (f := .glo "_law_told") rfl)
    k_law_told := F_law_told.kp
    F_law_hour := F_law_hour
    b_law_hour := b_law_hour
    g_law_hour := He.glo_ok X G (c.t.d.fact 5 (f := .glo "_law_hour") rfl)
    k_law_hour := F_law_hour.kp
    F_law_plain := F_law_plain
    b_law_plain := b_law_plain
    g_law_plain := He.glo_ok X G (c.t.d.fact 6 (f := .glo "_law_plain") rfl)
    k_law_plain := F_law_plain.kp
    F_law := F_law
    b_law := b_law
    g_law := He.glo_ok X G (c.t.d.fact 7 (f := .glo "law") rfl)
    k_law := F_law.kp
    tb_Vat_in_cloth := tb _ (List.mem_map.mpr ⟨("Vat", some "in_cloth"), by simp [tf], rfl⟩)
    at_Vat_in_cloth := rfl
    kc_Vat_in_cloth := rfl
    tb_Vat_used := tb _ (List.mem_map.mpr ⟨("Vat", some "used"), by simp [tf], rfl⟩)
    at_Vat_used := rfl
    kc_Vat_used := rfl
    tb_vats_for := tb _ (List.mem_map.mpr ⟨("vats_for", none), by simp [tf], rfl⟩)
    at_vats_for := rfl
    kc_vats_for := rfl
    tb_law_plain := tb _ (List.mem_map.mpr ⟨("_law_plain", none), by simp [tf], rfl⟩)
    at_law_plain := rfl
    kc_law_plain := rfl
    tb_law := tb _ (List.mem_map.mpr ⟨("law", none), by simp [tf], rfl⟩)
    at_law := rfl
    kc_law := rfl }
end K3
open PyProof.Rows PySem.Calls PySem.W PySem
theorem PySem.Challenge.cw_dyestack_k03_vats_that_weaken_holds : PySem.Challenge.rw_dyestack_k03_vats_that_weaken.Holds := by
  w_on; o_law
  refine HandSHeadRun.head_any (r := OpenLaw.row PySem.Challenge.rw_dyestack_k03_vats_that_weaken) (q := view (OpenLaw.row PySem.Challenge.rw_dyestack_k03_vats_that_weaken).prog [14]) (H := K3.hk) (ob := K3.ob) (M := 3000) (loose := K3.loose) (d := HandSHeadRun.topDef (OpenLaw.row PySem.Challenge.rw_dyestack_k03_vats_that_weaken).prog 14) (kwd := []) K3.ob_eq
    (by kernel_rfl) (fun s => by kernel_rfl) K3.run (by kernel_rfl) (by kernel_rfl) (by kernel_rfl) (by rfl) (by first | assumption | decide +kernel) (by decide +kernel) ⟨rfl, rfl, rfl, rfl, rfl, by decide +kernel⟩ ?hw ?hc
  case hw => w_witness2
  case hc =>
    refine LamX.walk_ofTsE (l := PySem.Challenge.rw_dyestack_k03_vats_that_weaken) (n := 63) (k := 12) (x := "script") (CX := fun w => L2.CX (PySem.Challenge.rw_dyestack_k03_vats_that_weaken).prog w) rfl (by decide) (by kernel_rfl) ⟨rfl, by decide, by decide⟩ ?F (fun w H s e s' z => by
      obtain ⟨_, _, _, _, _, _, _, _, _, _, _, _, z⟩ := z
      exact z)
    intro w mg fa h Y G hmg0
    obtain ⟨K, KX, c⟩ := Y
    have
            hmg : mg ("law" : PySem.Str) = some (.ref fa) := by
      have e : (HandSHeadRun.topDef (OpenLaw.row PySem.Challenge.rw_dyestack_k03_vats_that_weaken).prog 14).name = ("law" : PySem.Str) := by kernel_rfl
      rw [← e]
      exact hmg0
    obtain ⟨a, ea, hb, F⟩ := K3.fx KX G c
    have e := hmg.symm.trans (He.glo_ok KX G (c.t.d.fact 7 (f := .glo "law") rfl))
    cases e
    have mem : ∀ {Pr : PySem.Addr × PySem.Addr → Prop}, (∀ p ∈ K3.tf, Pr (He.cT K p)) → ∀ p ∈ K3.tf.map (He.cT K), Pr p := fun {Pr} hh p hp => by
      obtain
              ⟨q, hq, rfl⟩ := List.mem_map.mp hp
      exact hh q hq
    refine ⟨K, KX, a.f_law, K3.tf.map (He.cT K), K3.sp_law (K3.wk K), mem c.empty, mem c.out, mem fun p hp => codeHd_of_K KX (c.hd p hp), hb, fun H x ns hl _ hH hS => ⟨x, ns, rfl, ⟨fun t ht => ?_, by simp⟩, hS, fun _ => rfl⟩, fun base KX' G' tb => ?_⟩
    · have hP : H t.P = some (.tbl #[]) := by
        simp only [K3.Wk.T, List.mem_cons, List.mem_nil_iff, or_false] at ht
        rcases ht with rfl | rfl | rfl | rfl | rfl <;> exact hH _ (List.mem_map.mpr ⟨_, by simp only [K3.tf, List.mem_cons]; simp, rfl⟩)
      exact ⟨#[], hP, trivial, fun pos cv hc _ => by cases hc⟩
    · have z := K3.ok_law (P := (PySem.Challenge.rw_dyestack_k03_vats_that_weaken).prog) (w0 := w) (F base tb)
      rw [ea] at z
      exact z

